import PyProof.Rows.All
import Wide.All
import OpenK.AllK
import Wide.FinOn
import HandS.ForMost
import HandS.ForExc
import HandS.Deep
import HandS.Walk
import HandS.CallSlots
import HandS.Defaults
import HandS.Wide
import HandS.WideBits
import HandS.TupAny
import HandS.Zip
import HandS.Text
import HandS.Words
import HandS.WordsExc
import HandS.Head0
import HandS.Head1
import HandS.Head2
import HandS.HeadEnd
import HandS.HeadHook1
import HandS.HeadHook2
import HandS.HeadHook3
import HandS.HeadHook4
import HandS.Head3
import HandS.Nested
import HandS.IsInst
import KE.KExcSuper
import KE.KSuper
import HandS.ExcInit
import HandS.Exc
import HandS.ExcField
import KE.KExcIs
import HandS.Ends
import HandS.RaiseMore
import PyProof.ReprRoads
import PyProof.ReprText
import PyProof.CallFns
import PyProof.CallType
import PyProof.Rows.CallKwBuiltin
import HandS.TupMul
import PyProof.StrOps2
import HandS.Star
import HandS.Style
import HandS.Gcd
import HandS.Codes
import HandS.Strs
import PySem.Challenge.RW_figuresproved_k04_texts_of_figures_refus
set_option Elab.async false
set_option linter.all false
set_option maxRecDepth 100000
set_option maxHeartbeats 4000000
/-! Data, the small language, and what its texts are worth. -/
namespace Ev

/-- a value without addresses -/
inductive D where
  | non | bl (b : Bool) | int (i : Int) | str (x : List Nat)
  | tup (xs : List D) | lst (xs : List D)
  | fn (f : Nat) | exc (c : Nat) (val : D) | scr (ns : List Int) | emp | ctup (xs : List D)
  /-- a dict whose keys are texts -/
  | dct (ks : List (List Nat)) (vs : List D)
  deriving Inhabited

abbrev LIM : Nat := 16777216

mutual
def D.py : D → PySem.PyData
  | .non => .none
  | .bl b => .bool b
  | .int i => .int i
  | .str x => .str ⟨x.toArray⟩
  | .tup xs => .tuple (D.pyL xs)
  | .lst xs => .list (D.pyL xs)
  | .fn _ => .none
  | .exc _ _ => .none
  | .scr _ => .none
  | .emp => .dict []
  | .ctup _ => .none
  | .dct _ _ => .none
def D.pyL : List D → List PySem.PyData
  | [] => []
  | d :: ds => d.py :: D.pyL ds
end
mutual
/-- plain data, nested at most n deep -/
def D.dat : Nat → D → Bool
  | _, .non => true
  | _, .bl _ => true
  | _, .int _ => true
  | _, .str _ => true
  | n + 1, .tup xs => D.datL n xs
  | n + 1, .lst xs => D.datL n xs
  | _, _ => false
def D.datL : Nat → List D → Bool
  | _, [] => true
  | n, d :: ds => d.dat n && D.datL n ds
end
mutual
/-- Python's == of plain data -/
def D.beq : D → D → Bool
  | .non, .non => true
  | .bl a, .bl b => a == b
  | .bl a, .int j => (if a then (1 : Int) else 0) == j
  | .int i, .bl b => i == (if b then (1 : Int) else 0)
  | .int i, .int j => i == j
  | .str x, .str y => x == y
  | .tup xs, .tup ys => D.beqL xs ys
  | .lst xs, .lst ys => D.beqL xs ys
  | _, _ => false
def D.beqL : List D → List D → Bool
  | [], [] => true
  | x :: xs, y :: ys => D.beq x y && D.beqL xs ys
  | _, _ => false
end
/-- values that name no address -/
def D.atom : D → Bool
  | .non => true
  | .bl _ => true
  | .int _ => true
  | .str _ => true
  | _ => false
/-- the text of a text -/
def quoL (x : List Nat) : Nat := if x.contains 39 && !x.contains 34 then 34 else 39
def repL (x : List Nat) : List Nat := quoL x :: (x.flatMap (PySem.Builtin.Str.reprChar (quoL x)) ++ [quoL x])
def intL (i : Int) : List Nat := if i < 0 then 45 :: TL.numL i.natAbs else TL.numL i.natAbs
mutual
/-- repr -/
def D.tx : D → List Nat
  | .non => [78, 111, 110, 101]
  | .bl b => if b then [84, 114, 117, 101] else [70, 97, 108, 115, 101]
  | .int i => intL i
  | .str x => repL x
  | .tup xs => 40 :: (TL.joinL [44, 32] (D.txs xs) ++ (if xs.length == 1 then [44, 41] else [41]))
  | .lst xs => 91 :: (TL.joinL [44, 32] (D.txs xs) ++ [93])
  | .emp => [123, 125]
  | _ => []
def D.txs : List D → List (List Nat)
  | [] => []
  | d :: ds => d.tx :: D.txs ds
end
mutual
/-- what repr may be asked of, nested at most n deep -/
def D.shw : Nat → D → Bool
  | _, .non => true
  | _, .bl _ => true
  | _, .int i => decide (i.natAbs.log2 < 1920)
  | _, .str _ => true
  | _, .emp => true
  | n + 1, .tup xs => D.shws n xs
  | n + 1, .lst xs => D.shws n xs
  | _, _ => false
def D.shws : Nat → List D → Bool
  | _, [] => true
  | n, d :: ds => D.shw n d && D.shws n ds
end
/-- flat: an atom, or a list of atoms -/
def D.flat : D → Bool
  | .lst xs => xs.all D.atom
  | d => d.atom

/-! ### results -/
inductive Res (α : Type) where
  | ok (a : α)
  | exc (c : Nat) (d : D)
  | bad
/-- a mark: what bears it is left alone by simp -/
abbrev Tag {α : Sort u} (_k : α) : Type := Unit
def Res.bind {α β : Type} : Res α → (k : α → Res β) → (t : Tag k := ()) → Res β
  | .ok a, k, _ => k a
  | .exc c d, _, _ => .exc c d
  | .bad, _, _ => .bad
@[simp] theorem Res.bind_ok {α β : Type} (a : α) (k : α → Res β) : (Res.ok a).bind k = k a := rfl
@[simp] theorem Res.bind_exc {α β : Type} (c : Nat) (d : D) (k : α → Res β) : (Res.exc c d).bind k = .exc c d := rfl
@[simp] theorem Res.bind_bad {α β : Type} (k : α → Res β) : (Res.bad : Res α).bind k = .bad := rfl
def Res.of {α : Type} : Option α → Res α
  | some a => .ok a
  | none => .bad
@[simp] theorem Res.of_some {α : Type} (a : α) : Res.of (some a) = .ok a := rfl
@[simp] theorem Res.of_none {α : Type} : Res.of (none : Option α) = .bad := rfl

/-- what an expression hands on: a value that stands still; a new list of its own; the list in a slot -/
inductive R where
  | val (d : D) | tmp (d : D) | var (i : Nat)
/-- what a slot holds: nothing known; a value that stands still; a list of the frame's own; the caller's list, changed in place -/
inductive Sl where
  | no | val (d : D) | own (d : D) | byr (d : D)
abbrev Env := List Sl

def Sl.con : Sl → Option D
  | .no => none
  | .val d => some d
  | .own d => some d
  | .byr d => some d
def Sl.mine : Sl → Bool
  | .own _ => true
  | .byr _ => true
  | _ => false
def Sl.free : Sl → Bool
  | .byr _ => false
  | _ => true
/-- the slot with another content -/
def Sl.put : Sl → D → Sl
  | .own _, d => .own d
  | .byr _, d => .byr d
  | s, _ => s
/-- the list of one's own, or the caller's -/
def mineL : Sl → Option (List D)
  | .own (.lst ds) => some ds
  | .byr (.lst ds) => some ds
  | _ => none
def Env.at (e : Env) (i : Nat) : Sl := e.getD i .no

/-- read only -/
def peek : R → Env → Option D
  | .val d, _ => some d
  | .tmp d, _ => some d
  | .var i, e => (e.at i).con
/-- handed on as a value: what was the frame's own stands still from now on -/
def asVal : R → Env → Option (D × Env)
  | .val d, e => some (d, e)
  | .tmp d, e => some (d, e)
  | .var i, e => match e.at i with
    | .val d => some (d, e)
    | .own d => some (d, e.set i (.val d))
    | _ => none

/-! ### the language -/
inductive BOp where
  | add | sub | mul | fdiv | mod | pow
inductive COp where
  | eq | ne | lt | le | gt | ge | isin | notin | is | isnot
inductive Bi where
  | len | int | max | min | sum | list | tuple | abs | all | any | bitlen | repr | str_ | gcd
inductive Me where
  | split | join | index
inductive Tg where
  | one (i : Nat)
  | tup (ts : List Tg)
inductive Ty where
  | int | bool | str | list | tuple
mutual
inductive E where
  | isi (t : Ty) (e : E)
  | isx (c : Option Nat) (e : E)
  | value (e : E)
  | sl (i : Nat)
  | con (d : D)
  | gl (g : Nat)
  | lst (es : Es)
  | tup (es : Es)
  | op (o : BOp) (a b : E)
  | neg (a : E)
  | not (a : E)
  | lg (conj : Bool) (es : Es)
  | cmp (o : COp) (a b : E)
  | cmp2 (o o' : COp) (a b c : E)
  | ite (c a b : E)
  | call (f : Nat) (es kw : Es) (perm : List Nat)
  | bi (b : Bi) (es : Es)
  | ix (a i : E)
  | sli (a lo hi : E)
  | none_
  | fnv (f : Nat)
  | callv (i : Nat) (es : Es)
  | emp
  | dnew
  | dis (ks : List (List Nat)) (es : Es)
  | mth (m : Me) (o a : E)
  | catk (a b : E)
  | gix (n : Nat) (a : E)
  | popAt (x : Nat) (i : E)
  | comp (elt : E) (tg : Tg) (it : It) (cond : Option E) (own : List Nat)
inductive Es where
  | nil
  | cons (star : Bool) (e : E) (r : Es)
inductive It where
  | seq (e : E)
  | ran1 (a : E)
  | ran2 (a b : E)
  | enu (e : E)
  | zip (a b : E) (strict : Bool)
  | zipF (a b : E)
end

mutual
inductive S where
  | asg (t : Tg) (e : E)
  | par (is : List Nat) (es : Es)
  | put (x : Nat) (i v : E)
  | putAug (x : Nat) (i : E) (o : BOp) (v : E)
  | putPar (x : Nat) (i : E) (j : Nat) (es : Es)
  | aug (x : Nat) (o : BOp) (e : E)
  | expr (e : E)
  | app (x : Nat) (e : E)
  | iff (c : E) (a b : Ss)
  | for_ (tg : Tg) (it : It) (body : Ss) (gone : List Nat)
  | whl (c : E) (body : Ss) (gone : List Nat)
  | ret (e : E)
  | retN
  | pass
  | cont
  | brk
  | never
  | raise (c : Nat) (e : E)
  | tryK (body : Ss) (c i j : Nat)
inductive Ss where
  | nil
  | cons (s : S) (r : Ss)
end
/-- a def: how many parameters, how many slots, which parameter it changes in place -/
structure Fn where
  np : Nat
  ns : Nat
  chg : Option Nat
  body : Ss

/-! ### operations -/
def vI (i : Int) : Option R := some (.val (.int i))
def vB (b : Bool) : Option R := some (.val (.bl b))
def opAdd : D → D → Option R
  | .int i, .int j => some (.val (.int (i + j)))
  | .str x, .str y => if x.length + y.length ≤ LIM then some (.val (.str (x ++ y))) else none
  | .lst xs, .lst ys => if xs.length + ys.length ≤ LIM then some (.tmp (.lst (xs ++ ys))) else none
  | .tup xs, .tup ys => if xs.length + ys.length ≤ LIM then some (.val (.tup (xs ++ ys))) else none
  | _, _ => none
def opSub : D → D → Option R
  | .int i, .int j => some (.val (.int (i - j)))
  | _, _ => none
def opMul : D → D → Option R
  | .int i, .int j => if i.natAbs.log2 + j.natAbs.log2 < 1000000 then some (.val (.int (i * j))) else none
  | .lst xs, .int k => if k < 1000000 ∧ -1000000 < k ∧ xs.length * k.toNat ≤ LIM then some (.tmp (.lst (List.replicate k.toNat xs).flatten)) else none
  | .tup xs, .int k => if xs ≠ [] ∧ 2 ≤ k ∧ k ≤ 1000 ∧ xs.length ≤ 1000 then some (.val (.tup (List.replicate k.toNat xs).flatten)) else none
  | .str xs, .int k => if xs ≠ [] ∧ 2 ≤ k ∧ k ≤ 1000 ∧ xs.length ≤ 1000 then some (.val (.str (List.replicate k.toNat xs).flatten)) else none
  | _, _ => none
def opDiv : D → D → Option R
  | .int i, .int j => if 0 < j ∧ j.natAbs.log2 < 9000 then some (.val (.int (i / j))) else none
  | _, _ => none
def opMod : D → D → Option R
  | .int i, .int j => if 0 < j then some (.val (.int (i % j))) else none
  | _, _ => none
def opPow : D → D → Option R
  | .int i, .int j => if 0 ≤ j ∧ (PySem.Builtin.Int.intBits i : Int) * j ≤ 2 ^ 27 then some (.val (.int (i ^ j.toNat))) else none
  | _, _ => none
def bop : BOp → D → D → Option R
  | .add => opAdd
  | .sub => opSub
  | .mul => opMul
  | .fdiv => opDiv
  | .mod => opMod
  | .pow => opPow
def opNeg : D → Option R
  | .int i => some (.val (.int (-i)))
  | _ => none
/-- == -/
def eqD (d e : D) : Option Bool := if d.dat 40 && e.dat 40 then some (D.beq d e) else none
def inL (d : D) (xs : List D) : Option Bool := if d.dat 40 && D.datL 40 xs then some (xs.any fun z => D.beq z d) else none
/-- what a dict holds at a text -/
def dGet : List (List Nat) → List D → List Nat → Option D
  | k :: ks, v :: vs, x => if k = x then some v else dGet ks vs x
  | _, _, _ => none
/-- a dict with another value at a text: its keys, its values -/
def dKeys (ks : List (List Nat)) (vs : List D) (x : List Nat) : List (List Nat) := if (dGet ks vs x).isSome then ks else ks ++ [x]
def dSet (x : List Nat) (d : D) : List (List Nat) → List D → List D
  | k :: ks, v :: vs => (if k = x then d else v) :: dSet x d ks vs
  | _, _ => []
def dVals (ks : List (List Nat)) (vs : List D) (x : List Nat) (d : D) : List D := if (dGet ks vs x).isSome then dSet x d ks vs else vs ++ [d]
def isIn (d : D) : D → Option Bool
  | .lst xs => inL d xs
  | .tup xs => if d.atom && xs.all D.atom then some (xs.any fun z => D.beq z d) else none
  | .ctup xs => if d.atom && xs.all D.atom then some (xs.any fun z => D.beq z d) else none
  | .str z => match d with
    | .str [c] => some (decide (c ∈ z))
    | _ => none
  | .dct ks vs => match d with
    | .str x => some (dGet ks vs x).isSome
    | _ => none
  | _ => none
def isNone : D → Option Bool
  | .non => some true
  | .exc _ _ => some false
  | .fn _ => some false
  | .bl _ => some false
  | .int _ => some false
  | .str _ => some false
  | .tup _ => some false
  | .lst _ => some false
  | .scr _ => some false
  | .emp => some false
  | .ctup _ => some false
  | .dct _ _ => some false
def ltI (f : Int → Int → Bool) : D → D → Option Bool
  | .int i, .int j => some (f i j)
  | _, _ => none
def cop : COp → D → D → Option Bool
  | .eq, d, e => eqD d e
  | .ne, d, e => (eqD d e).map (!·)
  | .lt, d, e => ltI (fun i j => decide (i < j)) d e
  | .le, d, e => ltI (fun i j => decide (i ≤ j)) d e
  | .gt, d, e => ltI (fun i j => decide (j < i)) d e
  | .ge, d, e => ltI (fun i j => decide (j ≤ i)) d e
  | .isin, d, e => isIn d e
  | .notin, d, e => (isIn d e).map (!·)
  | .is, d, .non => isNone d
  | .isnot, d, .non => (isNone d).map (!·)
  | _, _, _ => none
/-- truth -/
def tru : D → Option Bool
  | .bl b => some b
  | _ => none
def opIx : D → D → Option R
  | .lst xs, .int i => (L2.atI xs i).map .val
  | .tup xs, .int i => (L2.atI xs i).map .val
  | .scr ns, .int i => (L2.atI ns i).map fun n => .val (.int n)
  | .str xs, .int i => if xs.length ≤ LIM then (L2.atI xs i).map fun c => .val (.str [c]) else none
  | .dct ks vs, .str x => (dGet ks vs x).map .val
  | _, _ => none
def cut {α : Type} (xs : List α) (lo hi : Option Int) : List α := (xs.drop (HT.sIx xs.length 0 lo)).take (HT.sIx xs.length xs.length hi - HT.sIx xs.length 0 lo)
def opSli (x : D) (a b : Option Int) : Option R :=
  match x with
  | .lst xs => some (.tmp (.lst (cut xs a b)))
  | .scr ns => some (.tmp (.lst ((cut ns a b).map .int)))
  | .tup xs => some (.val (.tup (cut xs a b)))
  | .str xs => if xs.length ≤ LIM then some (.val (.str (cut xs a b))) else none
  | _ => none
/-- isinstance -/
def isT : Ty → D → Option Bool
  | _, .exc _ _ => none
  | _, .fn _ => none
  | _, .ctup _ => none
  | .int, .int _ => some true
  | .int, .bl _ => some true
  | .bool, .bl _ => some true
  | .str, .str _ => some true
  | .list, .lst _ => some true
  | .list, .scr _ => some true
  | .tuple, .tup _ => some true
  | _, _ => some false
/-- the classes of errors: the first is the base of all -/
def subX (k c : Nat) : Bool := c == 0 || k == c
/-- isinstance of an error's class (none: the one below all of them) -/
def isX : Option Nat → D → Option Bool
  | none, .exc _ _ => some true
  | some c, .exc k _ => some (subX k c)
  | _, .non => some false
  | _, _ => none
/-- an error's value -/
def valX : D → Option D
  | .exc _ d => some d
  | _ => none
/-- all ints -/
def intsOf : List D → Option (List Int)
  | [] => some []
  | .int i :: ds => (intsOf ds).map (i :: ·)
  | _ :: _ => none
def boolsOf : List D → Option (List Bool)
  | [] => some []
  | .bl b :: ds => (boolsOf ds).map (b :: ·)
  | _ :: _ => none
/-- all texts -/
def strsOf : List D → Option (List (List Nat))
  | [] => some []
  | .str x :: ds => (strsOf ds).map (x :: ·)
  | _ :: _ => none
def decL (x : List Nat) : Nat := x.foldl (fun acc c => acc * 10 + (c - 48)) 0
def biOp : Bi → List D → Option R
  | .len, [.lst xs] => vI xs.length
  | .len, [.tup xs] => vI xs.length
  | .len, [.scr ns] => vI ns.length
  | .len, [.str xs] => if xs.length ≤ LIM then vI xs.length else none
  | .int, [.int i] => vI i
  | .int, [.bl b] => vI (if b then 1 else 0)
  | .max, [.int i, .int j] => vI (if j > i then j else i)
  | .min, [.int i, .int j] => vI (if j < i then j else i)
  | .sum, [.lst xs] => (intsOf xs).bind fun ns => vI ns.sum
  | .abs, [.int i] => vI (if i < 0 then -i else i)
  | .all, [.lst xs] => (boolsOf xs).bind fun bs => vB (bs.all id)
  | .any, [.lst xs] => (boolsOf xs).bind fun bs => vB (bs.any id)
  | .list, [.lst xs] => some (.tmp (.lst xs))
  | .list, [.tup xs] => some (.tmp (.lst xs))
  | .tuple, [.lst xs] => some (.val (.tup xs))
  | .tuple, [.tup xs] => some (.val (.tup xs))
  | .bitlen, [.int i] => vI (PySem.Builtin.Int.intBits i : Nat)
  | .repr, [d] => if D.shw 40 d = true ∧ d.tx.length ≤ LIM then some (.val (.str d.tx)) else none
  | .str_, [.int i] => if i.natAbs.log2 < 1920 then some (.val (.str (intL i))) else none
  | .str_, [.str x] => some (.val (.str x))
  | .int, [.str x] => if x.all (fun c => decide (48 ≤ c) && decide (c ≤ 57)) = true ∧ x ≠ [] ∧ x.length ≤ 640 then vI (decL x : Nat) else none
  | .gcd, [.int i, .int j] => vI (Int.gcd i j : Nat)
  | _, _ => none
/-- where a text stands first -/
def idxS (xs : List D) : D → Option R
  | .str z => (strsOf xs).bind fun ps => (ps.findIdx? fun p => decide (p = z)).bind fun j => vI (j : Nat)
  | _ => none
def meK : Me → D → Bool
  | .split, .str _ => true
  | .join, .str _ => true
  | .index, .ctup _ => true
  | .index, .lst _ => true
  | _, _ => false
/-- methods that only look -/
def meOp : Me → D → D → Option R
  | .split, .str x, .str y => if y ≠ [] ∧ y.all (fun c => decide (c < 256)) = true ∧ x.length + 2 ≤ LIM then some (.tmp (.lst ((TL.spl y 0 [] x).map .str))) else none
  | .join, .str y, .lst xs => (strsOf xs).bind fun ps => if (ps.map (·.length)).sum + ps.length * y.length ≤ LIM then some (.val (.str (TL.joinL y ps))) else none
  | .join, .str y, .tup xs => (strsOf xs).bind fun ps => if (ps.map (·.length)).sum + ps.length * y.length ≤ LIM then some (.val (.str (TL.joinL y ps))) else none
  | .index, .ctup xs, d => idxS xs d
  | .index, .lst xs, d => if d.atom && xs.all D.atom then (xs.findIdx? fun z => D.beq z d).bind fun j => vI (j : Nat) else none
  | _, _, _ => none

/-! ### targets -/
mutual
def assignT : Tg → D → Env → Option Env
  | .one i, d, e => if (decide (i < e.length) && (e.at i).free) = true then some (e.set i (.val d)) else none
  | .tup ts, .tup ds, e => assignTs ts ds e
  | .tup _, _, _ => none
def assignTs : List Tg → List D → Env → Option Env
  | [], [], e => some e
  | t :: ts, d :: ds, e => (assignT t d e).bind fun e1 => assignTs ts ds e1
  | _, _, _ => none
end
def wipeE (e : Env) : List Nat → Env
  | [] => e
  | i :: is => (wipeE e is).set i .no

/-! ### what a text is worth -/
abbrev Call := Nat → List D → Res (R × Option D)
/-- arguments in the parameters' order -/
def permute (rs : List R) : List Nat → Option (List R)
  | [] => some rs
  | p => p.mapM fun j => rs[j]?
/-- all but the changed one are handed on as values -/
def passVals (m : Option Nat) : Nat → List R → Env → Option (List (Option D) × Env)
  | _, [], e => some ([], e)
  | k, r :: rs, e => if m = some k then (passVals m (k + 1) rs e).map fun p => (none :: p.1, p.2)
    else (asVal r e).bind fun q => (passVals m (k + 1) rs q.2).map fun p => (some q.1 :: p.1, p.2)
/-- the changed one: its content, and the slot that is to hold what comes of it -/
def passMut (r : R) (e : Env) : Option (D × Option Nat) :=
  match r with
  | .tmp d => some (d, none)
  | .var i => match e.at i with
    | .own d => some (d, some i)
    | .byr d => some (d, some i)
    | _ => none
  | .val _ => none
def fillIn (d : D) : List (Option D) → List D
  | [] => []
  | none :: r => d :: fillIn d r
  | some x :: r => x :: fillIn d r
def flatR : R → Bool
  | .val d => d.flat && (match d with | .lst _ => false | _ => true)
  | .tmp d => d.flat
  | .var _ => false
def flatO : Option D → Bool
  | none => true
  | some d => d.flat
/-- the changed one comes back -/
def back (e : Env) : Option Nat → Option D → Option Env
  | none, _ => some e
  | some i, some d => some (e.set i ((e.at i).put d))
  | some _, none => none
def callWith (T : Nat → Option (Option Nat)) (call : Call) (f : Nat) (rs : List R) (e : Env) : Res (R × Env) :=
  match T f with
  | none => .bad
  | some m =>
    match passVals m 0 rs e with
    | none => .bad
    | some (ds, e2) =>
      match m with
      | none => (call f (ds.filterMap id)).bind fun p => .ok (p.1, if flatR p.1 then e else e2)
      | some k =>
        match (rs[k]?).bind fun r => passMut r e2 with
        | none => .bad
        | some (d, slot) => (call f (fillIn d ds)).bind fun p => Res.of ((back (if flatR p.1 && flatO p.2 then e else e2) slot p.2).map fun e3 => (p.1, e3))

section
variable (T : Nat → Option (Option Nat)) (G : Nat → Option D) (call : Call)
/-- the turns of a comprehension -/
def compL (tg : Tg) (cond : Env → Res (Bool × Env)) (elt : Env → Res (R × Env)) (own : List Nat) : List D → Env → (t1 : Tag tg := ()) → (t2 : Tag cond := ()) → (t3 : Tag elt := ()) → (t4 : Tag own := ()) → Res (List D × Env)
  | [], e, _, _, _, _ => .ok ([], e)
  | x :: xs, e, _, _, _, _ => (Res.of (assignT tg x e)).bind fun e1 => (cond e1).bind fun p =>
    if p.1 then (elt p.2).bind fun q => (Res.of (asVal q.1 q.2)).bind fun z => (compL tg cond elt own xs (wipeE z.2 own)).bind fun w => .ok (z.1 :: w.1, w.2)
    else compL tg cond elt own xs (wipeE p.2 own)
/-- a comprehension over a list of one's own: the list is hidden while the turns run -/
def hidE : It → Env → Option (Nat × Sl × List D)
  | .seq (.sl i), e => (match e.at i with
    | .own (.lst xs) => some (i, .own (.lst xs), xs)
    | .byr (.lst xs) => some (i, .byr (.lst xs), xs)
    | _ => none)
  | _, _ => none
def noExc {α : Type} : Res α → Res α
  | .exc _ _ => .bad
  | r => r
/-- a written item's values -/
def spread : Bool → D → Option (List D)
  | false, d => some [d]
  | true, .lst xs => some xs
  | true, .tup xs => some xs
  | true, _ => none
def seqOf : D → Option (List D)
  | .lst xs => some xs
  | .tup xs => some xs
  | _ => none
/-- a slice's end -/
def evP (a : E) (x : Res (R × Env)) : Res (Option Int × Env) := x.bind fun p => match a with
  | .none_ => .ok (none, p.2)
  | _ => match peek p.1 p.2 with
    | some (.int i) => .ok (some i, p.2)
    | _ => .bad
/-- a test -/
def tst (x : Res (R × Env)) : Res (Bool × Env) := x.bind fun p => match peek p.1 p.2 with
  | some d => (Res.of (tru d)).bind fun b => .ok (b, p.2)
  | none => .bad
mutual
def evalE : E → Env → Res (R × Env)
  | .isi t a, e => (evalE a e).bind fun p => match peek p.1 p.2 with
    | some x => (Res.of (isT t x)).bind fun b => .ok (.val (.bl b), p.2)
    | none => .bad
  | .isx c a, e => (evalE a e).bind fun p => match peek p.1 p.2 with
    | some x => (Res.of (isX c x)).bind fun b => .ok (.val (.bl b), p.2)
    | none => .bad
  | .value a, e => (evalE a e).bind fun p => match peek p.1 p.2 with
    | some x => (Res.of (valX x)).bind fun d => .ok (.val d, p.2)
    | none => .bad
  | .sl i, e => match e.at i with
    | .no => .bad
    | .val d => .ok (.val d, e)
    | _ => .ok (.var i, e)
  | .con d, e => .ok (.val d, e)
  | .gl g, e => (Res.of (G g)).bind fun d => .ok (.val d, e)
  | .lst es, e => (evalDs es e).bind fun p => if p.1.length ≤ LIM then .ok (.tmp (.lst p.1), p.2) else .bad
  | .tup es, e => (evalDs es e).bind fun p => if p.1.length ≤ LIM then .ok (.val (.tup p.1), p.2) else .bad
  | .op o a b, e => (evalE a e).bind fun p => (evalE b p.2).bind fun q =>
    match peek p.1 q.2, peek q.1 q.2 with
    | some x, some y => (Res.of (bop o x y)).bind fun r => .ok (r, q.2)
    | _, _ => .bad
  | .neg a, e => (evalE a e).bind fun p => match peek p.1 p.2 with
    | some x => (Res.of (opNeg x)).bind fun r => .ok (r, p.2)
    | none => .bad
  | .not a, e => (tst (evalE a e)).bind fun p => .ok (.val (.bl (!p.1)), p.2)
  | .lg conj es, e => (evalB conj es e).bind fun p => .ok (.val (.bl p.1), p.2)
  | .cmp o a b, e => (evalE a e).bind fun p => (evalE b p.2).bind fun q =>
    match peek p.1 q.2, peek q.1 q.2 with
    | some x, some y => (Res.of (cop o x y)).bind fun r => .ok (.val (.bl r), q.2)
    | _, _ => .bad
  | .cmp2 o o' a b c, e => (evalE a e).bind fun p => (evalE b p.2).bind fun q =>
    match peek p.1 q.2, peek q.1 q.2 with
    | some x, some y => (Res.of (cop o x y)).bind fun r =>
      if r then (evalE c q.2).bind fun s => match peek q.1 s.2, peek s.1 s.2 with
        | some y', some z => (Res.of (cop o' y' z)).bind fun r' => .ok (.val (.bl r'), s.2)
        | _, _ => .bad
      else .ok (.val (.bl false), q.2)
    | _, _ => .bad
  | .ite c a b, e => (tst (evalE c e)).bind fun p => if p.1 then evalE a p.2 else evalE b p.2
  | .call f es kw perm, e => (evalRs es e).bind fun p => (evalRs kw p.2).bind fun q => (Res.of (permute (p.1 ++ q.1) perm)).bind fun rs => callWith T call f rs q.2
  | .bi b es, e => (evalRs es e).bind fun p => (Res.of (p.1.mapM fun r => peek r p.2)).bind fun ds => (Res.of (biOp b ds)).bind fun r => .ok (r, p.2)
  | .ix a i, e => (evalE a e).bind fun p => (evalE i p.2).bind fun q =>
    match peek p.1 q.2, peek q.1 q.2 with
    | some x, some y => (Res.of (opIx x y)).bind fun r => .ok (r, q.2)
    | _, _ => .bad
  | .sli a lo hi, e => (evalE a e).bind fun p => (evP lo (evalE lo p.2)).bind fun q => (evP hi (evalE hi q.2)).bind fun s =>
    match peek p.1 s.2 with
    | some x => (Res.of (opSli x q.1 s.1)).bind fun r => .ok (r, s.2)
    | none => .bad
  | .none_, e => .ok (.val .non, e)
  | .fnv f, e => .ok (.val (.fn f), e)
  | .callv i es, e => match e.at i with
    | .val (.fn f) => (match T f with
      | some none => (evalRs es e).bind fun p => callWith T call f p.1 p.2
      | _ => .bad)
    | _ => .bad
  | .emp, e => .ok (.val .emp, e)
  | .dnew, e => .ok (.tmp (.dct [] []), e)
  | .dis ks es, e => (evalDs es e).bind fun p => if ks.Nodup ∧ ks ≠ [] ∧ ks.length ≤ 15 ∧ p.1.length = ks.length then .ok (.tmp (.dct ks p.1), p.2) else .bad
  | .mth m o a, e => (evalE o e).bind fun p => (Res.of (asVal p.1 p.2)).bind fun z => if meK m z.1 = true then (evalE a z.2).bind fun q => match peek q.1 q.2 with
    | some y => (Res.of (meOp m z.1 y)).bind fun r => .ok (r, q.2)
    | none => .bad
    else .bad
  | .gix n a, e => match G n with
    | some (.tup xs) => (evalE a e).bind fun p => (match peek p.1 p.2 with
      | some y => (Res.of (idxS xs y)).bind fun r => .ok (r, p.2)
      | none => .bad)
    | _ => .bad
  | .catk a b, e => (evalE a e).bind fun p => (evalE b p.2).bind fun q =>
    match peek p.1 q.2, peek q.1 q.2 with
    | some (.tup xs), some (.tup ys) => if xs ≠ [] ∧ ys ≠ [] ∧ xs.length + ys.length ≤ LIM then .ok (.val (.ctup (xs ++ ys)), q.2) else .bad
    | _, _ => .bad
  | .popAt x i, e => match e.at x with
    | .own (.lst _) => (evalE i e).bind fun p => (match p.2.at x, peek p.1 p.2 with
      | .own (.lst ds), some (.int k) => (match L2.ixN ds.length k with
        | some j => (match ds[j]? with
          | some d => .ok (.val d, p.2.set x (.own (.lst (ds.eraseIdx j))))
          | none => .bad)
        | none => .bad)
      | _, _ => .bad)
    | _ => .bad
  | .comp elt tg it cond own, e => match hidE it e with
    | some h => if h.1 ∉ own ∧ h.2.2.length ≤ LIM then (noExc (compL tg (evalC cond) (evalE elt) own h.2.2 (wipeE (e.set h.1 .no) own))).bind fun w => .ok (.tmp (.lst w.1), w.2.set h.1 h.2.1) else .bad
    | none => (evalIt it e).bind fun p =>
      if p.1.length ≤ LIM then (noExc (compL tg (evalC cond) (evalE elt) own p.1 (wipeE p.2 own))).bind fun w => .ok (.tmp (.lst w.1), w.2) else .bad
/-- a comprehension's test -/
def evalC : Option E → Env → Res (Bool × Env)
  | none, e => .ok (true, e)
  | some c, e => tst (evalE c e)
/-- and, or -/
def evalB (conj : Bool) : Es → Env → Res (Bool × Env)
  | .nil, _ => .bad
  | .cons _ a .nil, e => tst (evalE a e)
  | .cons _ a r, e => (tst (evalE a e)).bind fun p => if p.1 = conj then evalB conj r p.2 else .ok p
/-- written items, as values -/
def evalDs : Es → Env → Res (List D × Env)
  | .nil, e => .ok ([], e)
  | .cons star a r, e => (evalE a e).bind fun p => (Res.of (asVal p.1 p.2)).bind fun z => (Res.of (spread star z.1)).bind fun xs => (evalDs r z.2).bind fun w => .ok (xs ++ w.1, w.2)
/-- arguments -/
def evalRs : Es → Env → Res (List R × Env)
  | .nil, e => .ok ([], e)
  | .cons star a r, e => if star then .bad else (evalE a e).bind fun p => (evalRs r p.2).bind fun w => .ok (p.1 :: w.1, w.2)
def evalIt : It → Env → Res (List D × Env)
  | .seq a, e => (evalE a e).bind fun p => (Res.of (asVal p.1 p.2)).bind fun z => match z.1 with
    | .lst xs => .ok (xs, z.2)
    | .tup xs => .ok (xs, z.2)
    | .str xs => .ok (xs.map fun c => .str [c], z.2)
    | _ => .bad
  | .ran1 a, e => (evalE a e).bind fun p => match peek p.1 p.2 with
    | some (.int j) => if j < 1000000000 ∧ -1000000000 < j ∧ j.toNat ≤ LIM then .ok ((List.range j.toNat).map fun (i : Nat) => .int (0 + (i : Int)), p.2) else .bad
    | _ => .bad
  | .ran2 a b, e => (evalE a e).bind fun p => (evalE b p.2).bind fun q => match peek p.1 q.2, peek q.1 q.2 with
    | some (.int i), some (.int j) => if j < 1000000000 ∧ -1000000000 < j ∧ i < 1000000000 ∧ -1000000000 < i ∧ (j - i).toNat ≤ LIM then .ok ((List.range (j - i).toNat).map fun (k : Nat) => .int (i + (k : Int)), q.2) else .bad
    | _, _ => .bad
  | .enu a, e => (evalE a e).bind fun p => (Res.of (asVal p.1 p.2)).bind fun z => match z.1 with
    | .lst xs => .ok (xs.zipIdx.map fun q => .tup [.int (q.2 : Nat), q.1], z.2)
    | _ => .bad
  | .zip a b strict, e => (evalE a e).bind fun p => (Res.of (asVal p.1 p.2)).bind fun z => (evalE b z.2).bind fun q => (Res.of (asVal q.1 q.2)).bind fun w => match z.1, w.1 with
    | .lst xs, .lst ys => if strict = true ∧ xs.length ≠ ys.length then .bad else .ok ((xs.zip ys).map fun q => .tup [q.1, q.2], w.2)
    | .tup xs, .tup ys => if strict = true ∧ xs.length ≠ ys.length then .bad else .ok ((xs.zip ys).map fun q => .tup [q.1, q.2], w.2)
    | .lst xs, .tup ys => if strict = true ∧ xs.length = ys.length then .ok ((xs.zip ys).map fun q => .tup [q.1, q.2], w.2) else .bad
    | .tup xs, .lst ys => if strict = true ∧ xs.length = ys.length then .ok ((xs.zip ys).map fun q => .tup [q.1, q.2], w.2) else .bad
    | _, _ => .bad
  | .zipF a b, e => (evalE a e).bind fun p => (Res.of (asVal p.1 p.2)).bind fun z => (evalE b z.2).bind fun q => (Res.of (asVal q.1 q.2)).bind fun w => match seqOf z.1, seqOf w.1 with
    | some xs, some ys => .ok ((xs.zip ys).map fun q => .tup [q.1, q.2], w.2)
    | _, _ => .bad
end

/-- what is known of the slots behind an error -/
def Sl.safe : Sl → Sl
  | .val d => .val d
  | _ => .no
def Sl.noByr : Sl → Bool
  | .byr _ => false
  | _ => true
def safeE (e : Env) : Env := e.map Sl.safe
/-- where a statement leaves to -/
inductive Fl where
  | nx (e : Env) | ret (r : R) (e : Env) | brk (e : Env) | ct (e : Env)
/-- a for's turns -/
def forL (tg : Tg) (body : Env → Res Fl) (gone : List Nat) : List D → Env → (t1 : Tag tg := ()) → (t2 : Tag body := ()) → (t3 : Tag gone := ()) → Res Fl
  | [], e, _, _, _ => .ok (.nx e)
  | x :: xs, e, _, _, _ => (Res.of (assignT tg x e)).bind fun e1 => (body e1).bind fun f => match f with
    | .nx e2 => forL tg body gone xs (wipeE e2 gone)
    | .ct e2 => forL tg body gone xs (wipeE e2 gone)
    | .brk e2 => .ok (.nx (wipeE e2 gone))
    | .ret r e2 => .ok (.ret r e2)
/-- a while's turns, n at most -/
def whlL (cond : Env → Res (Bool × Env)) (body : Env → Res Fl) (gone : List Nat) : Nat → Env → (t1 : Tag cond := ()) → (t2 : Tag body := ()) → (t3 : Tag gone := ()) → Res Fl
  | 0, _, _, _, _ => .bad
  | n + 1, e, _, _, _ => (cond e).bind fun p => if p.1 then (body p.2).bind fun f => match f with
    | .nx e2 => whlL cond body gone n (wipeE e2 gone)
    | .ct e2 => whlL cond body gone n (wipeE e2 gone)
    | .brk e2 => .ok (.nx (wipeE e2 gone))
    | .ret r e2 => .ok (.ret r e2)
    else .ok (.nx p.2)
abbrev FUEL : Nat := 1000000
/-- a name takes what an expression hands on -/
def store (x : Nat) (r : R) (e : Env) : Option Env :=
  if x < e.length then match e.at x with
    | .byr _ => none
    | _ => match r with
      | .val d => some (e.set x (.val d))
      | .tmp d => some (e.set x (.own d))
      | .var i => (asVal (.var i) e).map fun p => p.2.set x (.val p.1)
  else none
def stores : List Nat → List R → Env → Option Env
  | [], [], e => some e
  | x :: xs, r :: rs, e => (store x r e).bind fun e1 => stores xs rs e1
  | _, _, _ => none
/-- no list of a slot is left among them -/
def resolve : List R → Env → Option (List R × Env)
  | [], e => some ([], e)
  | .var i :: rs, e => (asVal (.var i) e).bind fun p => (resolve rs p.2).map fun q => (.val p.1 :: q.1, q.2)
  | r :: rs, e => (resolve rs e).map fun q => (r :: q.1, q.2)
mutual
def evalS : S → Env → Res Fl
  | .asg (.one x) ex, e => (evalE T G call ex e).bind fun p => (Res.of (store x p.1 p.2)).bind fun e1 => .ok (.nx e1)
  | .asg t ex, e => (evalE T G call ex e).bind fun p => (Res.of (asVal p.1 p.2)).bind fun z => (Res.of (assignT t z.1 z.2)).bind fun e1 => .ok (.nx e1)
  | .par xs es, e => (evalRs T G call es e).bind fun p => (Res.of (resolve p.1 p.2)).bind fun q => (Res.of (stores xs q.1 q.2)).bind fun e1 => .ok (.nx e1)
  | .put x i v, e => (evalE T G call v e).bind fun p => (Res.of (asVal p.1 p.2)).bind fun z => if (z.2.at x).mine = true then (evalE T G call i z.2).bind fun q =>
    match q.2.at x, peek q.1 q.2 with
    | .own (.lst ds), some (.int k) => (match L2.ixN ds.length k with
      | some j => .ok (.nx (q.2.set x (.own (.lst (ds.set j z.1)))))
      | none => .bad)
    | .byr (.lst ds), some (.int k) => (match L2.ixN ds.length k with
      | some j => .ok (.nx (q.2.set x (.byr (.lst (ds.set j z.1)))))
      | none => .bad)
    | .own (.dct ks vs), some (.str k) => if ks.length < LIM then .ok (.nx (q.2.set x (.own (.dct (dKeys ks vs k) (dVals ks vs k z.1))))) else .bad
    | _, _ => .bad
    else .bad
  | .putPar x i j es, e => (evalDs T G call es e).bind fun p => (match p.1 with
    | [d1, d2] => (match p.2.at x with
      | .own (.dct _ _) => (evalE T G call i p.2).bind fun q =>
        (match q.2.at x, peek q.1 q.2 with
        | .own (.dct ks vs), some (.str k) => if ks.length < LIM then (Res.of (assignT (.one j) d2 (q.2.set x (.own (.dct (dKeys ks vs k) (dVals ks vs k d1)))))).bind fun e1 => .ok (.nx e1) else .bad
        | _, _ => .bad)
      | _ => .bad)
    | _ => .bad)
  | .putAug x i o v, e => if (e.at x).mine = true then (evalE T G call i e).bind fun q =>
    match mineL (q.2.at x), peek q.1 q.2 with
    | some ds, some (.int k) => (match L2.atI ds k with
      | some (.int a) => (evalE T G call v q.2).bind fun p => (match mineL (p.2.at x), peek p.1 p.2, o with
        | some ds', some (.int b), .add => (match L2.ixN ds'.length k with
          | some j => .ok (.nx (p.2.set x ((p.2.at x).put (.lst (ds'.set j (.int (a + b)))))))
          | none => .bad)
        | _, _, _ => .bad)
      | _ => .bad)
    | _, _ => .bad
    else .bad
  | .aug x o ex, e => (match e.at x with
    | .val d => (evalE T G call ex e).bind fun p => (match p.2.at x, peek p.1 p.2 with
      | .val _, some y => (match d, y with
        | .int i, .int j => (match o with
          | .add => .ok (.nx (p.2.set x (.val (.int (i + j)))))
          | .sub => .ok (.nx (p.2.set x (.val (.int (i - j)))))
          | _ => .bad)
        | _, _ => .bad)
      | _, _ => .bad)
    | _ => .bad)
  | .expr ex, e => (evalE T G call ex e).bind fun p => .ok (.nx p.2)
  | .app x ex, e => (match e.at x with
    | .own (.lst _) => (evalE T G call ex e).bind fun p => (Res.of (asVal p.1 p.2)).bind fun z => (match z.2.at x with
      | .own (.lst ds) => if ds.length < LIM then .ok (.nx (z.2.set x (.own (.lst (ds ++ [z.1]))))) else .bad
      | _ => .bad)
    | _ => .bad)
  | .iff c a b, e => (tst (evalE T G call c e)).bind fun p => if p.1 then evalSs a p.2 else evalSs b p.2
  | .for_ tg it body gone, e => (evalIt T G call it e).bind fun p => forL tg (evalSs body) gone p.1 (wipeE p.2 gone)
  | .whl c body gone, e => whlL (fun e => tst (evalE T G call c e)) (evalSs body) gone FUEL (wipeE e gone)
  | .ret ex, e => (evalE T G call ex e).bind fun p => .ok (.ret p.1 p.2)
  | .retN, e => .ok (.ret (.val .non) e)
  | .pass, e => .ok (.nx e)
  | .cont, e => .ok (.ct e)
  | .brk, e => .ok (.brk e)
  | .never, _ => .bad
  | .raise c ex, e => (evalE T G call ex e).bind fun p => (Res.of (asVal p.1 p.2)).bind fun z => .exc c z.1
  | .tryK body c i j, e => if (decide (i ≠ j) && decide (i < e.length) && decide (j < e.length) && e.all Sl.noByr) = true then (match evalSs body e with
    | .exc k d => if subX k c = true then .ok (.nx (((safeE e).set j (.val (.exc k d))).set i .no)) else .exc k d
    | .ok (.nx e1) => .ok (.nx e1)
    | _ => .bad) else .bad
def evalSs : Ss → Env → Res Fl
  | .nil, e => .ok (.nx e)
  | .cons s r, e => (evalS s e).bind fun f => match f with
    | .nx e1 => evalSs r e1
    | g => .ok g
end
end
/-- the slots at the entry -/
def start (chg : Option Nat) (ns : Nat) (ds : List D) : Env := (ds.zipIdx.map fun q => if chg = some q.2 then Sl.byr q.1 else Sl.val q.1) ++ List.replicate (ns - ds.length) .no
/-- what a def hands back -/
def handBack (r : R) (e : Env) : Option R :=
  match r with
  | .val d => some (.val d)
  | .tmp d => some (.tmp d)
  | .var i => match e.at i with
    | .val d => some (.val d)
    | .own d => some (.tmp d)
    | _ => none
/-- the caller's list as it is left -/
def left (chg : Option Nat) (e : Env) : Option (Option D) :=
  match chg with
  | none => some none
  | some k => match e.at k with
    | .byr d => some (some d)
    | _ => none
structure Tab where
  fn : Nat → Option Fn
  fname : Nat → PySem.Str
  ps : Nat → List PySem.Str
  gname : Nat → PySem.Str
  gval : Nat → Option D
  cname : Nat → Option PySem.Str
  gcd : Bool
def Tab.chg (T : Tab) (f : Nat) : Option (Option Nat) := (T.fn f).map (·.chg)
/-- a def at the depth k -/
def callF (T : Tab) : Nat → Call
  | 0, _, _ => .bad
  | k + 1, f, ds => match T.fn f with
    | none => .bad
    | some fd => if ds.length = fd.np ∧ fd.np ≤ fd.ns then
        (evalSs T.chg T.gval (callF T k) fd.body (start fd.chg fd.ns ds)).bind fun
          | .ret r e => (match handBack r e, left fd.chg e with
            | some r', some o => .ok (r', o)
            | _, _ => .bad)
          | .nx e => (match left fd.chg e with
            | some o => .ok (.val .non, o)
            | none => .bad)
          | _ => .bad
      else .bad
end Ev
/-! What is looked at behind the top of a program. -/
namespace Ev
open PySem PySem.Spec PyProof.Rows L2 NdefX
abbrev IvV : Type := Option (Str × Str × Arguments × FuncBody × Scope × Addr × List Str × Addr)
/-- where the classes' __init__ stands -/
def iniA (K : PySem.W.Frag) (x : Str) : Addr := He.ma K (He.ga K x) "__init__"
def ivs (K : PySem.W.Frag) (x : Str) : IvV := match K.lookup (iniA K x) with
  | some ⟨_, _, .func fd, _⟩ => some (fd.name, fd.qualname, fd.params, fd.body, fd.scope, fd.globals, fd.closure.map (·.1), fd.builtins)
  | _ => none
def oexB (K : PySem.W.Frag) (C : Addr) : Bool := (match K.lookup C with
  | some ⟨.type t, _, .cls ⟨_, _, mro, _, _, hd, _, _, _, _, del⟩, sl⟩ => decide (t = "type") && (match mro with
    | .ref c :: bm => decide (c = C) && PySem.HandSPX.refsVE bm
    | _ => false) && hd && !del && (match sl.toList with
    | [_, _, _, _, some (.builtin n), _] => decide (n = "ValueError.__new__")
    | _ => false)
  | _ => false) && decide (PySem.W.findIn K (.ref C) "__setattr__" = some (some (.builtin "object.__setattr__"))) && decide (PySem.W.subIn K (.ref C) (.type "BaseException") = some true) && decide (PySem.W.typeIn K (.ref C) = some (.type "type")) && PySem.W.keepIn K (.ref C)
def underB (K : PySem.W.Frag) (D C : Addr) : Bool := oexB K C && decide (PySem.W.mroIn K C (.ref D) = some true) && (match PySem.W.clsIn K C with
  | some cd => decide (PySem.W.alongIn K "__init__" ((cd.mro.dropWhile (· != .ref D)).drop 1) = some (some (.builtin "ValueError.__init__")))
  | none => false) && decide (PySem.W.mroIn K C (.type "ValueError") = some true) && decide (PySem.W.findIn K (.ref C) "value" = some none)
def errCB (K : PySem.W.Frag) (C : Addr) : Bool := (PySem.W.clsIn K C).isSome && decide (PySem.W.findIn K (.ref C) "__getattribute__" = some (some (.builtin "BaseException.__getattribute__"))) && decide (PySem.W.findIn K (.ref C) "__getattr__" = some none) && decide (PySem.W.subIn K (.ref C) (.type "BaseException") = some true) &&
  PySem.W.hasDictIn K C && decide (PySem.W.findIn K (.ref C) "__class__" = some (some (.builtin "object.__class__"))) && decide (PySem.W.specialIn K (.builtin "object.__class__") "__get__" = some (some (.builtin "getset_descriptor.__get__"))) && decide (PySem.W.takesIn K (.builtin "object.__class__") = some true) &&
  decide (PySem.W.mroIn K C (.type "object") = some true) && decide (PySem.W.findIn K (.ref C) "value" = some none)
/-- the code of __init__, its cell -/
def iniB (K : PySem.W.Frag) (file qual : Str) (f D : Addr) : Bool := match K.lookup f with
  | some ⟨_, _, .func fd, _⟩ => PySem.W.codeIn K fd.code qual && He.dflB K fd.defaults [.non] && (match fd.code with
    | .ref cda => (match K.lookup cda with
      | some ⟨_, _, .fields vs, _⟩ => (match (vs[2]? : Option Value) with
        | some (.str fl _) => file == fl
        | _ => false)
      | _ => false)
    | _ => false) && (match fd.closure with
    | [(_, cc)] => (match K.lookup cc with
      | some ⟨_, _, .cell (some (.ref d)), _⟩ => decide (d = D)
      | _ => false)
    | _ => false)
  | _ => false
/-- all of it -/
def errB (file qual : Str) (es : List Str) (K : PySem.W.Frag) : Bool := match es with
  | [] => true
  | b :: _ => decide (PySem.W.nsIn K cStatics "thirdparty.any" = some none) && decide (PySem.W.nsIn K mainGlobals "super" = some none) && decide (PySem.W.typeIn K (.ref (iniA K b)) = some (.type "function")) && iniB K file qual (iniA K b) (He.ga K b) && (PySem.W.clsIn K (He.ga K b)).isSome &&
    decide (PySem.W.kitOne K (.type "NoneType") (.type "ValueError") = some false) &&
    (es.all fun x => decide (PySem.W.nsIn K mainGlobals x = some (some (.ref (He.ga K x)))) && underB K (He.ga K b) (He.ga K x) && errCB K (He.ga K x) && decide (PySem.W.findIn K (.ref (He.ga K x)) "__init__" = some (some (.ref (iniA K b)))) && decide (PySem.W.kitOne K (.ref (He.ga K x)) (.type "ValueError") = some true) && decide (PySem.W.kitOne K (.type "NoneType") (.ref (He.ga K x)) = some false)) &&
    es.zipIdx.all fun p => es.zipIdx.all fun q => decide (PySem.W.exmOne K (.ref (He.ga K p.1)) (.ref (He.ga K q.1)) = some (subX p.2 q.2)) && decide (PySem.W.kitOne K (.ref (He.ga K p.1)) (.ref (He.ga K q.1)) = some (subX p.2 q.2))
/-! ### constants -/
mutual
def repB (K : PySem.W.Frag) : D → Value → Bool
  | .non, .none => true
  | .bl b, .bool c => b == c
  | .int i, .int j _ => decide (i = j)
  | .str x, .str y _ => decide (y.cps.toList = x) && x.all fun k => decide (k < 0x110000)
  | .tup ds, .ref a => (match K.lookup a with
    | some ⟨.type t, none, .seq its _, _⟩ => decide (t = "tuple") && decide (its.size ≤ LIM) && repBs K ds its.toList
    | _ => false)
  | _, _ => false
def repBs (K : PySem.W.Frag) : List D → List Value → Bool
  | [], [] => true
  | d :: ds, u :: us => repB K d u && repBs K ds us
  | _, _ => false
end
def consB (cs : List (Str × D)) (K : PySem.W.Frag) : Bool := cs.all fun q => match PySem.W.nsIn K mainGlobals q.1 with
  | some (some u) => repB K q.2 u
  | _ => false
def gcdB (im : Bool) (K : PySem.W.Frag) : Bool := !im || decide (PySem.W.nsIn K mainGlobals "gcd" = some (some (.builtin "math.gcd")))
abbrev AlZ : Type := He.AlD × (Bool × IvV)
def KZ (n : Nat) (g : Addr → Option Obj) : PySem.W.Frag := He.frG g (cStatics :: He.asD g n)
def obsZ (n : Nat) (fa : List He.Fa) (fn : List He.DefD) (file qual : Str) (es : List Str) (cs : List (Str × D)) (im : Bool) (g : Addr → Option Obj) : AlZ := (He.obsD fa fn (KZ n g), errB file qual es (KZ n g) && consB cs (KZ n g) && gcdB im (KZ n g), if es.isEmpty then none else ivs (KZ n g) (es.headD ⟨#[]⟩))
/-- a class's first statement -/
def clsHead : Stmt → Stmt
  | .ClassDef _ _ _ (s :: _) _ _ _ _ _ _ _ => s
  | s => s
structure FD where
  name : Str
  st : Stmt
  N : List Str
  ps : List Str
  fn : Fn
  /-- the name that the def itself bears -/
  own : Str
def FD.dd (d : FD) : He.DefD := ⟨(d.name, none), d.own, d.own, defArgs d.st, defBody d.st, defScope d.st, [], []⟩
/-- three looks at one run -/
theorem map3 {α β γ δ : Type} {o : Option α} {f : α → β} {g : α → γ} {h : α → δ} {a : β} {b : γ} {c : δ} (p : o.map f = some a) (q : o.map g = some b) (r : o.map h = some c) : o.map (fun x => (f x, g x, h x)) = some (a, b, c) := by
  cases o with
  | none => cases p
  | some x => cases p; cases q; cases r; rfl
theorem map_pair {α β γ : Type} {o : Option α} {f : α → β × γ} {a : β} {b : γ} (p : o.map (fun x => (f x).1) = some a) (q : o.map (fun x => (f x).2) = some b) : o.map f = some (a, b) := by
  cases o with
  | none => cases p
  | some x =>
    have h1 : (f x).1 = a := Option.some.inj p
    have h2 : (f x).2 = b := Option.some.inj q
    show some (f x) = _
    rw [← h1, ← h2]
def builtinNames : List Str := ["len", "int", "max", "min", "sum", "list", "tuple", "abs", "all", "any", "range", "enumerate", "zip", "isinstance", "bool", "str", "ValueError", "repr"]
end Ev
namespace K04
open PySem PySem.Spec PyProof.Rows L2 Ev
def top (i : Nat) : Stmt := PySem.Challenge.pw_figuresproved_k04_texts_of_figures_refus.main.body.getD i (.Pass ⟨0, 0, 0, 0⟩)
/-- law -/
def b0 : Ss := (.cons (.asg (.one 1) (.call 1 (.cons false (.sl 0) .nil) .nil [])) (.cons (.asg (.one 2) (.tup (.cons false (.con (.str [102, 105, 103, 117, 114, 101])) (.cons false (.lst (.cons false (.tup (.cons false (.con (.str [102, 114, 101, 101])) (.cons false (.con (.str [65])) .nil))) (.cons false (.tup (.cons false (.con (.str [102, 114, 101, 101])) (.cons false (.con (.str [66])) .nil))) (.cons false (.tup (.cons false (.con (.str [109, 105, 100, 100, 108, 101])) (.cons false (.con (.str [77])) (.cons false (.con (.str [65])) (.cons false (.con (.str [66])) .nil))))) .nil)))) (.cons false (.lst (.cons false (.tup (.cons false (.con (.str [115, 97, 109, 101])) (.cons false (.con (.str [65])) (.cons false (.con (.str [66])) .nil)))) .nil)) .nil))))) (.cons (.par [8, 9] (.cons false (.lst (.cons false (.con .non) (.cons false (.con (.int 0)) (.cons false (.con (.bl true)) (.cons false (.lst (.cons false (.con (.str [102, 114, 101, 101, 32, 65])) .nil)) (.cons false (.tup (.cons false (.con (.str [102, 114, 101, 101, 32, 65])) .nil)) (.cons false .emp .nil))))))) (.cons false (.lst (.cons false (.con .non) (.cons false (.neg (.con (.int 1))) (.cons false (.con (.int 3)) (.cons false (.con (.bl true)) (.cons false (.con (.str [48])) (.cons false (.tup (.cons false (.con (.int 0)) .nil)) (.cons false .emp .nil)))))))) .nil))) (.cons (.asg (.one 3) (.lst (.cons false (.con .non) (.cons false (.con (.str [])) (.cons false (.con (.str [115, 97, 121, 32, 115, 97, 109, 101, 32, 65, 32, 119, 105, 116, 104, 32, 90])) (.cons false (.con (.str [78, 32, 111, 110, 32, 65])) (.cons false (.con (.str [102, 114, 101, 101, 32, 65])) (.cons false (.con (.int 0)) (.cons false (.lst (.cons false (.con (.str [115, 97, 121])) .nil)) (.cons false (.con (.str [115, 97, 121])) (.cons false (.con (.str [32, 115, 97, 121, 32, 115, 97, 109, 101, 32, 65, 32, 119, 105, 116, 104, 32, 66])) (.cons false .emp (.cons false (.con (.str [78, 32, 109, 105, 100, 100, 108, 101, 32, 111, 102, 32, 32, 65, 32, 66])) (.cons false (.con (.str [102, 114, 101, 101, 32, 32, 78])) .nil)))))))))))))) (.cons (.asg (.one 3) (.op .add (.sl 3) (.lst (.cons false (.con (.str [115, 97, 121, 32, 115, 97, 109, 101, 32, 65, 32, 119, 105, 116, 104, 32, 66, 32, 35, 32, 111, 110, 101])) .nil)))) (.cons (.asg (.one 4) (.lst (.cons false (.con .non) (.cons false (.tup .nil) (.cons false (.tup (.cons false (.con (.str [115, 97, 109, 101])) (.cons false (.con (.str [65])) .nil))) (.cons false (.tup (.cons false (.con (.str [115, 97, 109, 101])) (.cons false (.con (.str [65])) (.cons false (.con (.str [90])) .nil)))) (.cons false (.lst (.cons false (.con (.str [115, 97, 109, 101])) (.cons false (.con (.str [65])) (.cons false (.con (.str [66])) .nil)))) (.cons false (.tup (.cons false (.con (.str [108, 111, 110, 103])) (.cons false (.con (.str [65])) (.cons false (.con (.str [66])) (.cons false (.con (.str [65])) (.cons false (.con (.str [77])) .nil)))))) (.cons false (.tup (.cons false (.con (.str [108, 111, 110, 103])) (.cons false (.con (.str [65])) (.cons false (.con (.str [66])) (.cons false (.con (.str [65])) (.cons false (.con (.str [77])) (.cons false (.con (.int 1)) .nil))))))) .nil))))))))) (.cons (.asg (.one 4) (.op .add (.sl 4) (.lst (.cons false (.tup (.cons false (.con (.str [102, 114, 101, 101])) (.cons false (.con (.str [65])) .nil))) (.cons false .emp .nil))))) (.cons (.for_ (.one 5) (.seq (.call 2 (.cons false (.sl 2) .nil) .nil [])) (.cons (.asg (.one 10) (.bi .repr (.cons false (.sl 5) .nil))) (.cons (.asg (.one 11) (.lst (.cons false (.con (.str [102, 105, 103, 117, 114, 101])) (.cons false (.con (.bl true)) (.cons false (.sl 10) .nil))))) (.cons (.asg (.one 12) (.lst (.cons false (.call 3 (.cons false (.fnv 7) (.cons false (.lst (.cons false (.sl 5) .nil)) .nil)) .nil []) (.cons false (.call 3 (.cons false (.fnv 6) (.cons false (.lst (.cons false (.sl 5) (.cons false (.call 4 (.cons false (.sl 1) (.cons false (.sl 9) .nil)) .nil []) .nil))) .nil)) .nil []) (.cons false (.call 3 (.cons false (.fnv 5) (.cons false (.lst (.cons false (.sl 5) (.cons false (.call 4 (.cons false (.sl 1) (.cons false (.sl 4) .nil)) .nil []) .nil))) .nil)) .nil []) .nil))))) (.cons (.asg (.one 12) (.op .add (.sl 12) (.lst (.cons false (.call 3 (.cons false (.fnv 8) (.cons false (.lst (.cons false (.sl 5) (.cons false (.call 4 (.cons false (.sl 1) (.cons false (.sl 8) .nil)) .nil []) .nil))) .nil)) .nil []) .nil)))) (.cons (.asg (.one 12) (.op .add (.sl 12) (.lst (.cons false (.call 3 (.cons false (.fnv 10) (.cons false (.lst (.cons false (.sl 5) (.cons false (.call 4 (.cons false (.sl 1) (.cons false (.sl 3) .nil)) .nil []) .nil))) .nil)) .nil []) (.cons false (.call 3 (.cons false (.fnv 9) (.cons false (.lst (.cons false (.sl 5) (.cons false (.call 4 (.cons false (.sl 1) (.cons false (.sl 3) .nil)) .nil []) .nil))) .nil)) .nil []) .nil))))) (.cons (.iff (.lg false (.cons false (.cmp .ne (.sl 12) (.op .mul (.lst (.cons false (.sl 11) .nil)) (.con (.int 6)))) (.cons false (.cmp .ne (.bi .repr (.cons false (.sl 5) .nil)) (.sl 10)) .nil))) (.cons (.ret (.con (.bl false))) .nil) .nil) .nil)))))) []) (.cons (.asg (.one 6) (.lst (.cons false (.tup (.cons false (.con (.str [112, 108, 97, 99, 101])) (.cons false (.fnv 6) (.cons false (.sl 9) .nil)))) (.cons false (.tup (.cons false (.con (.str [115, 97, 121, 105, 110, 103])) (.cons false (.fnv 5) (.cons false (.sl 4) .nil)))) (.cons false (.tup (.cons false (.con (.str [116, 101, 120, 116])) (.cons false (.fnv 8) (.cons false (.op .add (.sl 8) (.lst (.cons false (.con (.str [102, 114, 101, 101, 32, 65])) (.cons false (.con (.str [78, 32, 111, 110, 32, 65, 32, 90])) (.cons false (.con (.str [115, 97, 121])) (.cons false (.con (.str [78, 32, 102, 114, 101, 101])) .nil)))))) .nil)))) .nil))))) (.cons (.for_ (.tup [(.one 13), (.one 14), (.one 15)]) (.seq (.op .add (.sl 6) (.lst (.cons false (.tup (.cons false (.con (.str [108, 105, 110, 101])) (.cons false (.fnv 9) (.cons false (.sl 3) .nil)))) (.cons false (.tup (.cons false (.con (.str [108, 105, 110, 101])) (.cons false (.fnv 10) (.cons false (.op .add (.sl 3) (.lst (.cons false (.con (.str [78, 32, 109, 105, 100, 100, 108, 101, 32, 111, 102, 32, 65, 32, 66])) .nil))) .nil)))) .nil))))) (.cons (.for_ (.one 5) (.seq (.sl 15)) (.cons (.asg (.one 10) (.bi .repr (.cons false (.sl 5) .nil))) (.cons (.iff (.lg false (.cons false (.cmp .ne (.call 3 (.cons false (.sl 14) (.cons false (.lst (.cons false (.sl 2) (.cons false (.sl 5) .nil))) .nil)) .nil []) (.lst (.cons false (.sl 13) (.cons false (.con (.bl true)) (.cons false (.sl 10) .nil))))) (.cons false (.cmp .ne (.bi .repr (.cons false (.sl 5) .nil)) (.sl 10)) .nil))) (.cons (.ret (.con (.bl false))) .nil) .nil) .nil)) []) .nil) []) (.cons (.for_ (.one 5) (.seq (.sl 8)) (.cons (.iff (.cmp .ne (.comp (.sl 14) (.one 14) (.seq (.lst (.cons false (.fnv 12) (.cons false (.fnv 11) .nil)))) (some (.cmp .ne (.call 3 (.cons false (.sl 14) (.cons false (.lst (.cons false (.sl 5) .nil)) .nil)) .nil []) (.lst (.cons false (.con (.str [116, 101, 120, 116])) (.cons false (.con (.bl true)) (.cons false (.bi .repr (.cons false (.sl 5) .nil)) .nil)))))) [14]) (.lst .nil)) (.cons (.ret (.con (.bl false))) .nil) .nil) .nil) []) (.cons (.asg (.one 7) (.lst (.cons false (.call 3 (.cons false (.fnv 7) (.cons false (.lst (.cons false (.sl 2) .nil)) .nil)) .nil []) (.cons false (.call 3 (.cons false (.fnv 6) (.cons false (.lst (.cons false (.sl 2) (.cons false (.con (.int 2)) .nil))) .nil)) .nil []) (.cons false (.call 3 (.cons false (.fnv 5) (.cons false (.lst (.cons false (.sl 2) (.cons false (.tup (.cons false (.con (.str [108, 105, 110, 101])) (.cons false (.con (.str [65])) (.cons false (.con (.str [66])) (.cons false (.con (.str [77])) .nil))))) .nil))) .nil)) .nil []) .nil))))) (.cons (.asg (.one 7) (.op .add (.sl 7) (.lst (.cons false (.call 3 (.cons false (.fnv 8) (.cons false (.lst (.cons false (.sl 2) (.cons false (.con (.str [115, 97, 121, 32, 108, 105, 110, 101, 32, 65, 32, 66, 32, 77])) .nil))) .nil)) .nil []) .nil)))) (.cons (.asg (.one 7) (.op .add (.sl 7) (.lst (.cons false (.call 3 (.cons false (.fnv 9) (.cons false (.lst (.cons false (.sl 2) (.cons false (.con (.str [102, 114, 101, 101, 32, 67])) .nil))) .nil)) .nil []) (.cons false (.call 3 (.cons false (.fnv 10) (.cons false (.lst (.cons false (.sl 2) (.cons false (.con (.str [115, 97, 121, 32, 115, 97, 109, 101, 32, 65, 32, 119, 105, 116, 104, 32, 77])) .nil))) .nil)) .nil []) .nil))))) (.cons (.asg (.one 7) (.op .add (.sl 7) (.lst (.cons false (.call 3 (.cons false (.fnv 11) (.cons false (.lst (.cons false (.con (.str [102, 114, 101, 101])) .nil)) .nil)) .nil []) (.cons false (.call 3 (.cons false (.fnv 12) (.cons false (.lst (.cons false (.con (.str [102, 114, 101, 101, 32, 65])) .nil)) .nil)) .nil []) .nil))))) (.cons (.ret (.lg true (.cons false (.cmp .eq (.sl 7) (.op .mul (.lst (.cons false (.con .non) .nil)) (.con (.int 8)))) (.cons false (.cmp .eq (.call 3 (.cons false (.fnv 12) (.cons false (.lst (.cons false (.con (.str [102, 114, 101, 101])) .nil)) .nil)) .nil []) (.lst (.cons false (.con (.str [116, 101, 120, 116])) (.cons false (.con (.bl true)) (.cons false (.con (.str [39, 102, 114, 101, 101, 39])) .nil))))) .nil)))) .nil))))))))))))))))
def f0 : FD := ⟨"law", top 92, ["script", "purse", "figure", "lines", "sayings", "bad", "asked", "fine", "texts", "places", "written", "due", "told", "word", "call", "bads"], ["script"], ⟨1, 16, none, b0⟩, "law"⟩
/-- _law_purse -/
def b1 : Ss := (.cons (.asg (.one 1) (.con (.int 7))) (.cons (.for_ (.one 2) (.seq (.sli (.sl 0) .none_ (.con (.int 63)))) (.cons (.asg (.one 1) (.op .mod (.bi .int (.cons false (.op .add (.op .mul (.sl 1) (.con (.int 31))) (.sl 2)) .nil)) (.con (.int 2147483647)))) .nil) []) (.cons (.ret (.lst (.cons false (.comp (.sl 2) (.one 2) (.seq (.sli (.sl 0) .none_ (.con (.int 63)))) (some (.cmp .ge (.sl 2) (.op .pow (.con (.int 10)) (.con (.int 18))))) [2]) (.cons false (.con (.int 0)) (.cons false (.con (.int 0)) (.cons false (.con (.int 0)) (.cons false (.sl 1) .nil))))))) .nil)))
def f1 : FD := ⟨"_law_purse", top 89, ["script", "seed", "cell"], ["script"], ⟨1, 3, none, b1⟩, "_law_purse"⟩
/-- _law_odd_figures -/
def b2 : Ss := (.cons (.asg (.tup [(.one 4), (.one 5), (.one 6)]) (.sl 0)) (.cons (.asg (.one 1) (.lst (.cons false (.con .non) (.cons false (.tup .nil) (.cons false (.lst .nil) (.cons false (.lst (.cons false (.sl 4) (.cons false (.sl 5) (.cons false (.sl 6) .nil)))) (.cons false (.tup (.cons false (.sl 4) (.cons false (.sl 5) .nil))) (.cons false (.tup (.cons false (.sl 4) (.cons false (.sl 5) (.cons false (.sl 6) (.cons false (.con (.int 0)) .nil))))) (.cons false (.tup (.cons false (.con (.str [70, 105, 103, 117, 114, 101])) (.cons false (.sl 5) (.cons false (.sl 6) .nil)))) (.cons false (.tup (.cons false (.con .non) (.cons false (.sl 5) (.cons false (.sl 6) .nil)))) (.cons false (.tup (.cons false (.sl 4) (.cons false (.bi .tuple (.cons false (.sl 5) .nil)) (.cons false (.sl 6) .nil)))) .nil))))))))))) (.cons (.asg (.one 1) (.op .add (.sl 1) (.lst (.cons false (.tup (.cons false (.sl 4) (.cons false (.lst .nil) (.cons false (.sl 6) .nil)))) (.cons false (.tup (.cons false (.sl 4) (.cons false (.sl 5) (.cons false (.con .non) .nil)))) (.cons false (.tup (.cons false (.sl 4) (.cons false (.sl 5) (.cons false (.bi .tuple (.cons false (.sl 6) .nil)) .nil)))) (.cons false .emp (.cons false (.con (.str [102, 114, 101, 101, 32, 65])) .nil)))))))) (.cons (.asg (.one 2) (.lst (.cons false (.con .non) (.cons false (.tup .nil) (.cons false (.lst (.cons false (.con (.str [102, 114, 101, 101])) (.cons false (.con (.str [78])) .nil))) (.cons false (.tup (.cons false (.con (.str [102, 114, 101, 101])) .nil)) (.cons false (.tup (.cons false (.con (.str [102, 114, 101, 101])) (.cons false (.con (.str [78])) (.cons false (.con (.str [65])) .nil)))) (.cons false (.tup (.cons false (.con (.str [102, 114, 101, 101])) (.cons false (.con (.str [111, 110])) .nil))) (.cons false (.tup (.cons false (.con (.str [102, 114, 101, 101])) (.cons false (.con (.str [65])) .nil))) (.cons false (.tup (.cons false (.con (.str [70, 114, 101, 101])) (.cons false (.con (.str [78])) .nil))) (.cons false (.tup (.cons false (.con (.str [111, 110])) (.cons false (.con (.str [78])) (.cons false (.con (.str [65])) .nil)))) (.cons false (.tup (.cons false (.con (.str [111, 110])) (.cons false (.con (.str [78])) (.cons false (.con (.str [65])) (.cons false (.con (.str [90])) .nil))))) .nil)))))))))))) (.cons (.asg (.one 2) (.op .add (.sl 2) (.lst (.cons false (.tup (.cons false (.con (.str [111, 110])) (.cons false (.con (.str [78])) (.cons false (.con (.str [65])) (.cons false (.con (.str [65])) (.cons false (.con (.str [65])) .nil)))))) (.cons false (.tup (.cons false (.con (.str [109, 105, 100, 100, 108, 101])) (.cons false (.con (.str [78])) (.cons false (.con (.str [65])) (.cons false (.con (.str [78])) .nil))))) (.cons false (.tup (.cons false (.con (.str [114, 97, 116, 105, 111])) (.cons false (.con (.str [78])) (.cons false (.con (.str [65])) (.cons false (.con (.str [65])) .nil))))) .nil)))))) (.cons (.asg (.one 2) (.op .add (.sl 2) (.lst (.cons false (.tup (.cons false (.con (.str [114, 97, 116, 105, 111])) (.cons false (.con (.str [78])) (.cons false (.con (.str [65])) (.cons false (.con (.str [65])) (.cons false (.con (.int 1)) .nil)))))) (.cons false (.tup (.cons false (.con (.str [114, 97, 116, 105, 111])) (.cons false (.con (.str [78])) (.cons false (.con (.str [65])) (.cons false (.con (.str [65])) (.cons false (.tup (.cons false (.con (.int 2)) (.cons false (.con (.int 4)) .nil))) .nil)))))) (.cons false (.tup (.cons false (.con (.str [114, 97, 116, 105, 111])) (.cons false (.con (.str [78])) (.cons false (.con (.str [65])) (.cons false (.con (.str [65])) (.cons false (.tup (.cons false (.con (.int 1)) (.cons false (.con (.int 0)) .nil))) .nil)))))) (.cons false (.tup (.cons false (.con (.str [110, 101, 97, 114])) (.cons false (.con (.str [78])) (.cons false (.con (.str [65])) (.cons false (.con (.str [65])) .nil))))) (.cons false (.tup (.cons false (.con (.int 0)) (.cons false (.con (.str [78])) .nil))) (.cons false (.tup (.cons false (.con (.str [102, 114, 101, 101])) (.cons false (.con (.int 1)) .nil))) (.cons false (.tup (.cons false (.con (.str [102, 114, 101, 101])) (.cons false (.op .mul (.con (.str [78])) (.con (.int 7))) .nil))) .nil)))))))))) (.cons (.asg (.one 2) (.op .add (.sl 2) (.lst (.cons false (.tup (.cons false (.con (.str [102, 114, 101, 101])) (.cons false (.con (.str [49, 78])) .nil))) (.cons false (.tup (.cons false (.con (.str [97, 103, 97, 105, 110])) (.cons false (.con (.str [78])) (.cons false (.con (.str [65])) (.cons false (.con (.str [65])) (.cons false (.con .non) .nil)))))) .nil))))) (.cons (.asg (.one 1) (.op .add (.op .add (.sl 1) (.comp (.tup (.cons false (.sl 4) (.cons false (.op .add (.sl 5) (.lst (.cons false (.sl 7) .nil))) (.cons false (.sl 6) .nil)))) (.one 7) (.seq (.sl 2)) none [7])) (.op .mul (.lst (.cons false (.tup (.cons false (.sl 4) (.cons false (.op .add (.sli (.sl 5) (.con (.int 1)) .none_) (.sli (.sl 5) .none_ (.con (.int 1)))) (.cons false (.sl 6) .nil)))) .nil)) (.bi .int (.cons false (.lg true (.cons false (.cmp .gt (.bi .len (.cons false (.sl 5) .nil)) (.con (.int 1))) (.cons false (.cmp .gt (.bi .len (.cons false (.ix (.sl 5) (.con (.int 1))) .nil)) (.con (.int 2))) .nil))) .nil))))) (.cons (.asg (.one 3) (.lst (.cons false (.con .non) (.cons false (.tup .nil) (.cons false (.lst (.cons false (.con (.str [115, 97, 109, 101])) (.cons false (.con (.str [65])) (.cons false (.con (.str [65])) .nil)))) (.cons false (.tup (.cons false (.con (.str [115, 97, 109, 101])) (.cons false (.con (.str [65])) .nil))) (.cons false (.tup (.cons false (.con (.str [115, 97, 109, 101])) (.cons false (.con (.str [65])) (.cons false (.con (.str [90])) .nil)))) (.cons false (.tup (.cons false (.con (.str [115, 97, 109, 101])) (.cons false (.con (.str [65])) (.cons false (.con (.str [65])) (.cons false (.con (.str [65])) .nil))))) (.cons false (.tup (.cons false (.con (.str [83, 97, 109, 101])) (.cons false (.con (.str [65])) (.cons false (.con (.str [65])) .nil)))) (.cons false (.tup (.cons false (.con (.str [108, 111, 110, 103])) (.cons false (.con (.str [65])) (.cons false (.con (.str [65])) (.cons false (.con (.str [65])) (.cons false (.con (.str [65])) .nil)))))) .nil)))))))))) (.cons (.asg (.one 3) (.op .add (.sl 3) (.lst (.cons false (.tup (.cons false (.con (.str [108, 111, 110, 103])) (.cons false (.con (.str [65])) (.cons false (.con (.str [65])) (.cons false (.con (.str [65])) (.cons false (.con (.str [65])) (.cons false (.tup (.cons false (.con (.int 2)) (.cons false (.con (.int 2)) .nil))) .nil))))))) (.cons false (.tup (.cons false (.con (.str [108, 105, 110, 101])) (.cons false (.con (.str [65])) (.cons false (.con (.str [65])) (.cons false (.con .non) .nil))))) (.cons false (.tup (.cons false (.con (.int 0)) (.cons false (.con (.str [65])) .nil))) .nil)))))) (.cons (.ret (.op .add (.op .add (.sl 1) (.comp (.tup (.cons false (.sl 4) (.cons false (.sl 5) (.cons false (.op .add (.sl 6) (.lst (.cons false (.sl 7) .nil))) .nil)))) (.one 7) (.seq (.sl 3)) none [7])) (.lst (.cons false (.tup (.cons false (.sl 4) (.cons false (.sl 5) (.cons false (.op .mul (.lst (.cons false (.tup (.cons false (.con (.str [115, 97, 109, 101])) (.cons false (.con (.str [65])) (.cons false (.con (.str [65])) .nil)))) .nil)) (.con (.int 11))) .nil)))) (.cons false (.tup (.cons false (.sl 4) (.cons false (.op .add (.lst (.cons false (.tup (.cons false (.con (.str [102, 114, 101, 101])) (.cons false (.con (.str [65])) .nil))) .nil)) (.comp (.tup (.cons false (.con (.str [102, 114, 101, 101])) (.cons false (.op .add (.con (.str [78])) (.bi .str_ (.cons false (.sl 8) .nil))) .nil))) (.one 8) (.ran1 (.con (.int 4))) none [8])) (.cons false (.lst .nil) .nil)))) .nil))))) .nil)))))))))))
def f2 : FD := ⟨"_law_odd_figures", top 88, ["figure", "found", "odd", "late", "word", "steps", "said", "one", "at"], ["figure"], ⟨1, 9, none, b2⟩, "_law_odd_figures"⟩
/-- _law_caught -/
def b3 : Ss := (.cons (.asg (.one 2) (.con .non)) (.cons (.tryK (.cons (.iff (.cmp .eq (.bi .len (.cons false (.sl 1) .nil)) (.con (.int 1))) (.cons (.expr (.callv 0 (.cons false (.ix (.sl 1) (.con (.int 0))) .nil))) .nil) (.cons (.expr (.callv 0 (.cons false (.ix (.sl 1) (.con (.int 0))) (.cons false (.ix (.sl 1) (.con (.int 1))) .nil)))) .nil)) .nil) 0 3 2) (.cons (.iff (.cmp .is (.sl 2) (.con .non)) (.cons (.ret (.con .non)) .nil) .nil) (.cons (.asg (.one 4) (.lst (.cons false (.tup (.cons false (.con (.str [102, 105, 103, 117, 114, 101])) (.cons false (.isx (some 3) (.sl 2)) .nil))) (.cons false (.tup (.cons false (.con (.str [108, 105, 110, 101])) (.cons false (.isx (some 2) (.sl 2)) .nil))) (.cons false (.tup (.cons false (.con (.str [112, 108, 97, 99, 101])) (.cons false (.isx (some 1) (.sl 2)) .nil))) .nil))))) (.cons (.asg (.one 4) (.op .add (.sl 4) (.lst (.cons false (.tup (.cons false (.con (.str [115, 97, 121, 105, 110, 103])) (.cons false (.isx (some 5) (.sl 2)) .nil))) (.cons false (.tup (.cons false (.con (.str [116, 101, 120, 116])) (.cons false (.isx (some 4) (.sl 2)) .nil))) .nil))))) (.cons (.ret (.op .add (.comp (.sl 5) (.tup [(.one 5), (.one 6)]) (.seq (.sl 4)) (some (.sl 6)) [5, 6]) (.lst (.cons false (.isx none (.sl 2)) (.cons false (.bi .repr (.cons false (.value (.sl 2)) .nil)) .nil))))) .nil))))))
def f3 : FD := ⟨"_law_caught", top 87, ["call", "parts", "caught", "e", "kinds", "word", "held"], ["call", "parts"], ⟨2, 7, none, b3⟩, "_law_caught"⟩
/-- _law_pick -/
def b4 : Ss := (.cons (.ret (.ix (.sl 1) (.call 13 (.cons false (.sl 0) (.cons false (.bi .len (.cons false (.sl 1) .nil)) .nil)) .nil []))) .nil)
def f4 : FD := ⟨"_law_pick", top 91, ["purse", "things"], ["purse", "things"], ⟨2, 2, some 0, b4⟩, "_law_pick"⟩
/-- saying_line -/
def b5 : Ss := (.cons (.expr (.call 14 (.cons false (.sl 0) .nil) .nil [])) (.cons (.expr (.call 15 (.cons false (.sl 0) (.cons false (.sl 1) .nil)) .nil [])) (.cons (.ret (.mth .join (.con (.str [32])) (.call 16 (.cons false (.sl 1) .nil) .nil []))) .nil)))
def f5 : FD := ⟨"saying_line", top 70, ["figure", "saying"], ["figure", "saying"], ⟨2, 2, none, b5⟩, "saying_line"⟩
/-- step_line -/
def b6 : Ss := (.cons (.expr (.call 14 (.cons false (.sl 0) .nil) .nil [])) (.cons (.expr (.call 17 (.cons false (.sl 0) (.cons false (.sl 1) .nil)) .nil [])) (.cons (.ret (.mth .join (.con (.str [32])) (.call 18 (.cons false (.ix (.ix (.sl 0) (.con (.int 1))) (.sl 1)) .nil) .nil []))) .nil)))
def f6 : FD := ⟨"step_line", top 69, ["figure", "place"], ["figure", "place"], ⟨2, 2, none, b6⟩, "step_line"⟩
/-- figure_text -/
def b7 : Ss := (.cons (.expr (.call 14 (.cons false (.sl 0) .nil) .nil [])) (.cons (.ret (.call 19 (.cons false (.sl 0) .nil) .nil [])) .nil))
def f7 : FD := ⟨"figure_text", top 68, ["figure"], ["figure"], ⟨1, 1, none, b7⟩, "figure_text"⟩
/-- figure_behind -/
def b8 : Ss := (.cons (.expr (.call 14 (.cons false (.sl 0) .nil) .nil [])) (.cons (.expr (.call 20 (.cons false (.sl 1) .nil) .nil [])) (.cons (.asg (.tup [(.one 2), (.one 3), (.one 4)]) (.call 21 (.cons false (.sl 1) (.cons false (.ix (.sl 0) (.con (.int 1))) (.cons false (.ix (.sl 0) (.con (.int 2))) .nil))) .nil [])) (.cons (.iff (.cmp .isnot (.sl 4) (.con .non)) (.cons (.raise 4 (.sl 1)) .nil) .nil) (.cons (.ret (.tup (.cons false (.con (.str [102, 105, 103, 117, 114, 101])) (.cons false (.sl 2) (.cons false (.sl 3) .nil))))) .nil)))))
def f8 : FD := ⟨"figure_behind", top 81, ["figure", "text", "steps", "sayings", "wrong"], ["figure", "text"], ⟨2, 5, none, b8⟩, "figure_behind"⟩
/-- read_step -/
def b9 : Ss := (.cons (.expr (.call 14 (.cons false (.sl 0) .nil) .nil [])) (.cons (.asg (.one 2) (.ite (.isi .str (.sl 1)) (.call 22 (.cons false (.call 23 (.cons false (.sl 0) .nil) .nil []) (.cons false (.sl 1) .nil)) .nil []) (.con .non))) (.cons (.iff (.cmp .is (.sl 2) (.con .non)) (.cons (.raise 2 (.sl 1)) .nil) .nil) (.cons (.iff (.not (.call 24 (.cons false (.tup (.cons false (.con (.str [102, 105, 103, 117, 114, 101])) (.cons false (.op .add (.ix (.sl 0) (.con (.int 1))) (.lst (.cons false (.sl 2) .nil))) (.cons false (.ix (.sl 0) (.con (.int 2))) .nil)))) .nil) .nil [])) (.cons (.raise 6 (.op .add (.bi .len (.cons false (.ix (.sl 0) (.con (.int 1))) .nil)) (.con (.int 1)))) .nil) .nil) (.cons (.ret (.sl 2)) .nil)))))
def f9 : FD := ⟨"read_step", top 85, ["figure", "line", "found"], ["figure", "line"], ⟨2, 3, none, b9⟩, "read_step"⟩
/-- read_saying -/
def b10 : Ss := (.cons (.expr (.call 14 (.cons false (.sl 0) .nil) .nil [])) (.cons (.asg (.one 2) (.ite (.isi .str (.sl 1)) (.call 25 (.cons false (.sl 0) (.cons false (.sl 1) .nil)) .nil []) (.con .non))) (.cons (.iff (.cmp .is (.sl 2) (.con .non)) (.cons (.raise 2 (.sl 1)) .nil) .nil) (.cons (.ret (.sl 2)) .nil))))
def f10 : FD := ⟨"read_saying", top 83, ["figure", "line", "found"], ["figure", "line"], ⟨2, 3, none, b10⟩, "read_saying"⟩
/-- wrong_place -/
def b11 : Ss := (.cons (.expr (.call 20 (.cons false (.sl 0) .nil) .nil [])) (.cons (.ret (.ix (.call 21 (.cons false (.sl 0) (.cons false (.lst .nil) (.cons false (.lst .nil) .nil))) .nil []) (.con (.int 2)))) .nil))
def f11 : FD := ⟨"wrong_place", top 80, ["text"], ["text"], ⟨1, 1, none, b11⟩, "wrong_place"⟩
/-- read_figure -/
def b12 : Ss := (.cons (.expr (.call 20 (.cons false (.sl 0) .nil) .nil [])) (.cons (.asg (.tup [(.one 1), (.one 2), (.one 3)]) (.call 21 (.cons false (.sl 0) (.cons false (.lst .nil) (.cons false (.lst .nil) .nil))) .nil [])) (.cons (.iff (.cmp .isnot (.sl 3) (.con .non)) (.cons (.raise 4 (.sl 0)) .nil) .nil) (.cons (.ret (.tup (.cons false (.con (.str [102, 105, 103, 117, 114, 101])) (.cons false (.sl 1) (.cons false (.sl 2) .nil))))) .nil))))
def f12 : FD := ⟨"read_figure", top 79, ["text", "steps", "sayings", "wrong"], ["text"], ⟨1, 4, none, b12⟩, "read_figure"⟩
/-- _law_draw -/
def b13 : Ss := (.cons (.iff (.lg true (.cons false (.cmp .lt (.ix (.sl 0) (.con (.int 2))) (.sl 1)) (.cons false (.cmp .lt (.ix (.sl 0) (.con (.int 1))) (.bi .len (.cons false (.ix (.sl 0) (.con (.int 0))) .nil))) .nil))) (.cons (.put 0 (.con (.int 2)) (.ix (.ix (.sl 0) (.con (.int 0))) (.ix (.sl 0) (.con (.int 1))))) (.cons (.putAug 0 (.con (.int 1)) .add (.con (.int 1))) .nil)) .nil) (.cons (.iff (.cmp .ge (.ix (.sl 0) (.con (.int 2))) (.sl 1)) (.cons (.asg (.one 3) (.op .mod (.bi .int (.cons false (.ix (.sl 0) (.con (.int 2))) .nil)) (.sl 1))) (.cons (.put 0 (.con (.int 2)) (.op .fdiv (.ix (.sl 0) (.con (.int 2))) (.sl 1))) (.cons (.ret (.sl 3)) .nil))) .nil) (.cons (.putAug 0 (.con (.int 3)) .add (.con (.int 1))) (.cons (.asg (.one 2) (.op .mod (.bi .int (.cons false (.op .mul (.op .add (.op .mul (.ix (.sl 0) (.con (.int 3))) (.ix (.sl 0) (.con (.int 3)))) (.ix (.sl 0) (.con (.int 4)))) (.con (.int 48271))) .nil)) (.con (.int 2147483629)))) (.cons (.ret (.op .mod (.bi .int (.cons false (.op .mod (.bi .int (.cons false (.op .mul (.sl 2) (.sl 2)) .nil)) (.con (.int 2147483587))) .nil)) (.sl 1))) .nil)))))
def f13 : FD := ⟨"_law_draw", top 90, ["purse", "many", "stirred", "told"], ["purse", "many"], ⟨2, 4, some 0, b13⟩, "_law_draw"⟩
/-- check_figure -/
def b14 : Ss := (.cons (.iff (.not (.call 24 (.cons false (.sl 0) .nil) .nil [])) (.cons (.raise 3 (.sl 0)) .nil) .nil) .nil)
def f14 : FD := ⟨"check_figure", top 41, ["figure"], ["figure"], ⟨1, 1, none, b14⟩, "check_figure"⟩
/-- check_saying -/
def b15 : Ss := (.cons (.iff (.not (.call 26 (.cons false (.sl 1) (.cons false (.call 23 (.cons false (.sl 0) .nil) .nil []) .nil)) .nil [])) (.cons (.raise 5 (.sl 1)) .nil) .nil) .nil)
def f15 : FD := ⟨"check_saying", top 44, ["figure", "saying"], ["figure", "saying"], ⟨2, 2, none, b15⟩, "check_saying"⟩
/-- saying_words -/
def b16 : Ss := (.cons (.ret (.op .add (.lst (.cons false (.con (.str [115, 97, 121])) .nil)) (.call 27 (.cons false (.call 29 (.cons false (.ix (.sl 0) (.con (.int 0))) .nil) .nil []) (.cons false (.call 28 (.cons false (.sl 0) .nil) .nil []) (.cons false (.ix (.sl 0) (.neg (.con (.int 1)))) .nil))) .nil []))) .nil)
def f16 : FD := ⟨"saying_words", top 61, ["saying"], ["saying"], ⟨1, 1, none, b16⟩, "saying_words"⟩
/-- check_place -/
def b17 : Ss := (.cons (.iff (.lg false (.cons false (.not (.call 30 (.cons false (.sl 1) .nil) .nil [])) (.cons false (.not (.cmp2 .le .lt (.con (.int 0)) (.sl 1) (.bi .len (.cons false (.ix (.sl 0) (.con (.int 1))) .nil)))) .nil))) (.cons (.raise 1 (.sl 1)) .nil) .nil) .nil)
def f17 : FD := ⟨"check_place", top 43, ["figure", "place"], ["figure", "place"], ⟨2, 2, none, b17⟩, "check_place"⟩
/-- step_words -/
def b18 : Ss := (.cons (.iff (.cmp .eq (.ix (.sl 0) (.con (.int 0))) (.con (.str [102, 114, 101, 101]))) (.cons (.ret (.lst (.cons false (.con (.str [102, 114, 101, 101])) (.cons false (.ix (.sl 0) (.con (.int 1))) .nil)))) .nil) .nil) (.cons (.ret (.op .add (.lst (.cons false (.ix (.sl 0) (.con (.int 1))) .nil)) (.call 27 (.cons false (.call 32 (.cons false (.ix (.sl 0) (.con (.int 0))) .nil) .nil []) (.cons false (.call 31 (.cons false (.sl 0) .nil) .nil []) (.cons false (.ix (.sl 0) (.neg (.con (.int 1)))) .nil))) .nil []))) .nil))
def f18 : FD := ⟨"step_words", top 60, ["step"], ["step"], ⟨1, 1, none, b18⟩, "step_words"⟩
/-- text_by -/
def b19 : Ss := (.cons (.asg (.one 1) (.op .add (.comp (.call 18 (.cons false (.sl 2) .nil) .nil []) (.one 2) (.seq (.ix (.sl 0) (.con (.int 1)))) none [2]) (.comp (.call 16 (.cons false (.sl 3) .nil) .nil []) (.one 3) (.seq (.ix (.sl 0) (.con (.int 2)))) none [3]))) (.cons (.ret (.mth .join (.con (.str [])) (.comp (.op .add (.mth .join (.con (.str [32])) (.sl 4)) (.con (.str [10]))) (.one 4) (.seq (.sl 1)) none [4]))) .nil))
def f19 : FD := ⟨"text_by", top 67, ["figure", "rows", "step", "saying", "words"], ["figure"], ⟨1, 5, none, b19⟩, "text_by"⟩
/-- check_text -/
def b20 : Ss := (.cons (.iff (.not (.isi .str (.sl 0))) (.cons (.raise 4 (.sl 0)) .nil) .nil) .nil)
def f20 : FD := ⟨"check_text", top 78, ["text"], ["text"], ⟨1, 1, none, b20⟩, "check_text"⟩
/-- read_by -/
def b21 : Ss := (.cons (.par [1, 2] (.cons false (.bi .list (.cons false (.sl 1) .nil)) (.cons false (.bi .list (.cons false (.sl 2) .nil)) .nil))) (.cons (.for_ (.tup [(.one 3), (.one 4)]) (.enu (.mth .split (.sl 0) (.con (.str [10])))) (.cons (.asg (.one 5) (.call 33 (.cons false (.sl 4) .nil) .nil [])) (.cons (.iff (.cmp .ne (.sl 5) (.lst .nil)) (.cons (.asg (.one 6) (.call 34 (.cons false (.sl 5) (.cons false (.comp (.ix (.sl 8) (.con (.int 1))) (.one 8) (.seq (.sl 1)) none [8]) .nil)) .nil [])) (.cons (.iff (.cmp .isnot (.sl 6) (.con .non)) (.cons (.ret (.tup (.cons false (.sl 1) (.cons false (.sl 2) (.cons false (.tup (.cons false (.op .add (.sl 3) (.con (.int 1))) (.cons false (.op .add (.sl 6) (.con (.int 1))) .nil))) .nil))))) .nil) .nil) (.cons (.iff (.not (.call 35 (.cons false (.sl 5) (.cons false (.sl 1) (.cons false (.sl 2) .nil))) .nil [])) (.cons (.ret (.tup (.cons false (.sl 1) (.cons false (.sl 2) (.cons false (.tup (.cons false (.op .add (.sl 3) (.con (.int 1))) (.cons false (.con (.int 1)) .nil))) .nil))))) .nil) .nil) (.cons (.asg (.one 7) (.call 36 (.cons false (.sl 5) .nil) .nil [])) (.cons (.iff (.cmp .eq (.ix (.sl 5) (.con (.int 0))) (.con (.str [115, 97, 121]))) (.cons (.app 2 (.sl 7)) .nil) (.cons (.app 1 (.sl 7)) .nil)) .nil))))) .nil) .nil)) []) (.cons (.ret (.tup (.cons false (.sl 1) (.cons false (.sl 2) (.cons false (.ite (.cmp .ne (.sl 1) (.lst .nil)) (.con .non) (.tup (.cons false (.con (.int 0)) (.cons false (.con (.int 0)) .nil)))) .nil))))) .nil)))
def f21 : FD := ⟨"read_by", top 77, ["text", "steps", "sayings", "number", "line", "words", "off", "told", "step"], ["text", "steps", "sayings"], ⟨3, 9, none, b21⟩, "read_by"⟩
/-- step_told -/
def b22 : Ss := (.cons (.asg (.one 2) (.mth .split (.sl 1) (.con (.str [32])))) (.cons (.iff (.lg false (.cons false (.cmp .eq (.ix (.sl 2) (.con (.int 0))) (.con (.str [115, 97, 121]))) (.cons false (.cmp .eq (.sl 2) (.lst (.cons false (.con (.str [])) .nil))) (.cons false (.cmp .isnot (.call 34 (.cons false (.sl 2) (.cons false (.sl 0) .nil)) .nil []) (.con .non)) .nil)))) (.cons (.ret (.con .non)) .nil) .nil) (.cons (.ret (.call 36 (.cons false (.sl 2) .nil) .nil [])) .nil)))
def f22 : FD := ⟨"step_told", top 84, ["drawn", "line", "words"], ["drawn", "line"], ⟨2, 3, none, b22⟩, "step_told"⟩
/-- names_in -/
def b23 : Ss := (.cons (.ret (.comp (.ix (.sl 1) (.con (.int 1))) (.one 1) (.seq (.ix (.sl 0) (.con (.int 1)))) none [1])) .nil)
def f23 : FD := ⟨"names_in", top 42, ["figure", "step"], ["figure"], ⟨1, 2, none, b23⟩, "names_in"⟩
/-- is_figure_by -/
def b24 : Ss := (.cons (.iff (.lg false (.cons false (.not (.isi .tuple (.sl 0))) (.cons false (.cmp .ne (.bi .len (.cons false (.sl 0) .nil)) (.con (.int 3))) (.cons false (.not (.isi .str (.ix (.sl 0) (.con (.int 0))))) (.cons false (.cmp .ne (.ix (.sl 0) (.con (.int 0))) (.con (.str [102, 105, 103, 117, 114, 101]))) .nil))))) (.cons (.ret (.con (.bl false))) .nil) .nil) (.cons (.iff (.lg false (.cons false (.not (.call 37 (.cons false (.ix (.sl 0) (.con (.int 1))) .nil) .nil [])) (.cons false (.not (.isi .list (.ix (.sl 0) (.con (.int 2))))) (.cons false (.cmp .gt (.bi .len (.cons false (.ix (.sl 0) (.con (.int 2))) .nil)) (.gl 0)) .nil)))) (.cons (.ret (.con (.bl false))) .nil) .nil) (.cons (.asg (.one 1) (.comp (.ix (.sl 2) (.con (.int 1))) (.one 2) (.seq (.ix (.sl 0) (.con (.int 1)))) none [2])) (.cons (.ret (.bi .all (.cons false (.comp (.call 26 (.cons false (.sl 3) (.cons false (.sl 1) .nil)) .nil []) (.one 3) (.seq (.ix (.sl 0) (.con (.int 2)))) none [3]) .nil))) .nil))))
def f24 : FD := ⟨"is_figure_by", top 40, ["value", "drawn", "step", "saying"], ["value"], ⟨1, 4, none, b24⟩, "is_figure_by"⟩
/-- saying_told -/
def b25 : Ss := (.cons (.asg (.one 2) (.mth .split (.sl 1) (.con (.str [32])))) (.cons (.iff (.lg false (.cons false (.cmp .ne (.ix (.sl 2) (.con (.int 0))) (.con (.str [115, 97, 121]))) (.cons false (.cmp .isnot (.call 34 (.cons false (.sl 2) (.cons false (.call 23 (.cons false (.sl 0) .nil) .nil []) .nil)) .nil []) (.con .non)) .nil))) (.cons (.ret (.con .non)) .nil) .nil) (.cons (.ret (.call 36 (.cons false (.sl 2) .nil) .nil [])) .nil)))
def f25 : FD := ⟨"saying_told", top 82, ["figure", "line", "words"], ["figure", "line"], ⟨2, 3, none, b25⟩, "saying_told"⟩
/-- is_saying_by -/
def b26 : Ss := (.cons (.iff (.lg false (.cons false (.not (.isi .tuple (.sl 0))) (.cons false (.cmp .eq (.sl 0) (.tup .nil)) (.cons false (.not (.isi .str (.ix (.sl 0) (.con (.int 0))))) .nil)))) (.cons (.ret (.con (.bl false))) .nil) .nil) (.cons (.asg (.one 2) (.call 38 (.cons false (.ix (.sl 0) (.con (.int 0))) .nil) .nil [])) (.cons (.iff (.lg false (.cons false (.cmp .is (.sl 2) (.con .non)) (.cons false (.cmp .ne (.bi .len (.cons false (.sl 0) .nil)) (.op .add (.op .add (.con (.int 1)) (.sl 2)) (.bi .int (.cons false (.cmp .isin (.ix (.sl 0) (.con (.int 0))) (.gl 1)) .nil)))) .nil))) (.cons (.ret (.con (.bl false))) .nil) .nil) (.cons (.iff (.not (.bi .all (.cons false (.comp (.lg true (.cons false (.isi .str (.sl 3)) (.cons false (.cmp .isin (.sl 3) (.sl 1)) .nil))) (.one 3) (.seq (.sli (.sl 0) (.con (.int 1)) (.op .add (.con (.int 1)) (.sl 2)))) none [3]) .nil))) (.cons (.ret (.con (.bl false))) .nil) .nil) (.cons (.ret (.lg false (.cons false (.cmp .notin (.ix (.sl 0) (.con (.int 0))) (.gl 1)) (.cons false (.call 39 (.cons false (.ix (.sl 0) (.neg (.con (.int 1)))) .nil) .nil []) .nil)))) .nil)))))
def f26 : FD := ⟨"is_saying_by", top 37, ["value", "drawn", "many", "name"], ["value", "drawn"], ⟨2, 4, none, b26⟩, "is_saying_by"⟩
/-- filled -/
def b27 : Ss := (.cons (.par [4, 5] (.cons false (.lst .nil) (.cons false (.bi .list (.cons false (.sl 1) .nil)) .nil))) (.cons (.for_ (.one 3) (.seq (.sl 0)) (.cons (.iff (.cmp .eq (.sl 3) (.gl 2)) (.cons (.app 4 (.popAt 5 (.con (.int 0)))) .nil) (.cons (.app 4 (.ite (.cmp .eq (.sl 3) (.gl 3)) (.call 40 (.cons false (.sl 2) .nil) .nil []) (.sl 3))) .nil)) .nil) []) (.cons (.ret (.sl 4)) .nil)))
def f27 : FD := ⟨"filled", top 59, ["pattern", "points", "number", "word", "found", "left"], ["pattern", "points", "number"], ⟨3, 6, none, b27⟩, "filled"⟩
/-- said_in -/
def b28 : Ss := (.cons (.ret (.bi .list (.cons false (.sli (.sl 0) (.con (.int 1)) (.op .add (.con (.int 1)) (.call 38 (.cons false (.ix (.sl 0) (.con (.int 0))) .nil) .nil []))) .nil))) .nil)
def f28 : FD := ⟨"said_in", top 35, ["saying"], ["saying"], ⟨1, 1, none, b28⟩, "said_in"⟩
/-- saying_pattern -/
def b29 : Ss := (.cons (.for_ (.one 1) (.seq (.op .add (.op .add (.gl 4) (.gl 5)) (.gl 6))) (.cons (.iff (.cmp .eq (.ix (.mth .split (.sl 1) (.con (.str [32]))) (.con (.int 0))) (.sl 0)) (.cons (.ret (.mth .split (.sl 1) (.con (.str [32])))) .nil) .nil) .nil) []) (.cons (.ret (.con .non)) .nil))
def f29 : FD := ⟨"saying_pattern", top 57, ["kind", "line"], ["kind"], ⟨1, 2, none, b29⟩, "saying_pattern"⟩
/-- is_whole -/
def b30 : Ss := (.cons (.ret (.lg true (.cons false (.isi .int (.sl 0)) (.cons false (.not (.isi .bool (.sl 0))) .nil)))) .nil)
def f30 : FD := ⟨"is_whole", top 10, ["value"], ["value"], ⟨1, 1, none, b30⟩, "is_whole"⟩
/-- used_in -/
def b31 : Ss := (.cons (.ret (.bi .list (.cons false (.sli (.sl 0) (.con (.int 2)) (.op .add (.con (.int 2)) (.call 41 (.cons false (.ix (.sl 0) (.con (.int 0))) .nil) .nil []))) .nil))) .nil)
def f31 : FD := ⟨"used_in", top 34, ["step"], ["step"], ⟨1, 1, none, b31⟩, "used_in"⟩
/-- step_pattern -/
def b32 : Ss := (.cons (.asg (.one 1) (.catk (.gl 7) (.gl 8))) (.cons (.iff (.cmp .notin (.sl 0) (.sl 1)) (.cons (.ret (.con .non)) .nil) .nil) (.cons (.ret (.mth .split (.ix (.op .add (.op .add (.gl 9) (.gl 10)) (.gl 11)) (.mth .index (.sl 1) (.sl 0))) (.con (.str [32])))) .nil)))
def f32 : FD := ⟨"step_pattern", top 56, ["kind", "kinds"], ["kind"], ⟨1, 2, none, b32⟩, "step_pattern"⟩
/-- words_of -/
def b33 : Ss := (.cons (.ret (.comp (.sl 1) (.one 1) (.seq (.mth .split (.ix (.mth .split (.sl 0) (.con (.str [35]))) (.con (.int 0))) (.con (.str [32])))) (some (.cmp .ne (.sl 1) (.con (.str [])))) [1])) .nil)
def f33 : FD := ⟨"words_of", top 71, ["line", "word"], ["line"], ⟨1, 2, none, b33⟩, "words_of"⟩
/-- wrong_in_line -/
def b34 : Ss := (.cons (.iff (.cmp .eq (.ix (.sl 0) (.con (.int 0))) (.con (.str [115, 97, 121]))) (.cons (.ret (.call 42 (.cons false (.ite (.cmp .gt (.bi .len (.cons false (.sl 0) .nil)) (.con (.int 1))) (.call 29 (.cons false (.ix (.sl 0) (.con (.int 1))) .nil) .nil []) (.con .non)) (.cons false (.sl 0) (.cons false (.sl 1) (.cons false (.con (.int 1)) .nil)))) .nil [])) .nil) .nil) (.cons (.iff (.cmp .eq (.ix (.sl 0) (.con (.int 0))) (.con (.str [102, 114, 101, 101]))) (.cons (.iff (.cmp .lt (.bi .len (.cons false (.sl 0) .nil)) (.con (.int 2))) (.cons (.ret (.con (.int 1))) .nil) .nil) (.cons (.ret (.ite (.lg false (.cons false (.not (.call 43 (.cons false (.ix (.sl 0) (.con (.int 1))) .nil) .nil [])) (.cons false (.cmp .isin (.ix (.sl 0) (.con (.int 1))) (.sl 1)) .nil))) (.con (.int 1)) (.ite (.cmp .eq (.bi .len (.cons false (.sl 0) .nil)) (.con (.int 2))) (.con .non) (.con (.int 2))))) .nil)) .nil) (.cons (.iff (.lg false (.cons false (.not (.call 43 (.cons false (.ix (.sl 0) (.con (.int 0))) .nil) .nil [])) (.cons false (.cmp .isin (.ix (.sl 0) (.con (.int 0))) (.sl 1)) .nil))) (.cons (.ret (.con (.int 0))) .nil) .nil) (.cons (.asg (.one 2) (.ite (.cmp .gt (.bi .len (.cons false (.sl 0) .nil)) (.con (.int 1))) (.ix (.sl 0) (.con (.int 1))) (.con (.str [102, 114, 101, 101])))) (.cons (.ret (.call 42 (.cons false (.ite (.cmp .ne (.sl 2) (.con (.str [102, 114, 101, 101]))) (.call 32 (.cons false (.sl 2) .nil) .nil []) (.con .non)) (.cons false (.sl 0) (.cons false (.sl 1) (.cons false (.con (.int 1)) .nil)))) .nil [])) .nil)))))
def f34 : FD := ⟨"wrong_in_line", top 74, ["words", "drawn", "kind"], ["words", "drawn"], ⟨2, 3, none, b34⟩, "wrong_in_line"⟩
/-- is_room -/
def b35 : Ss := (.cons (.iff (.cmp .eq (.ix (.sl 0) (.con (.int 0))) (.con (.str [115, 97, 121]))) (.cons (.ret (.cmp .lt (.bi .len (.cons false (.sl 2) .nil)) (.gl 0))) .nil) .nil) (.cons (.asg (.one 3) (.ite (.cmp .eq (.ix (.sl 0) (.con (.int 0))) (.con (.str [102, 114, 101, 101]))) (.con (.int 2)) (.ite (.cmp .isin (.ix (.sl 0) (.con (.int 1))) (.tup (.cons false (.con (.str [111, 110])) (.cons false (.con (.str [114, 111, 117, 110, 100])) .nil)))) (.con (.int 1)) (.con (.int 0))))) (.cons (.ret (.lg true (.cons false (.cmp .lt (.bi .len (.cons false (.sl 1) .nil)) (.gl 13)) (.cons false (.cmp .le (.op .add (.bi .sum (.cons false (.comp (.call 44 (.cons false (.sl 4) .nil) .nil []) (.one 4) (.seq (.sl 1)) none [4]) .nil)) (.sl 3)) (.gl 12)) .nil)))) .nil)))
def f35 : FD := ⟨"is_room", top 76, ["words", "steps", "sayings", "letters", "step"], ["words", "steps", "sayings"], ⟨3, 5, none, b35⟩, "is_room"⟩
/-- line_told -/
def b36 : Ss := (.cons (.iff (.cmp .eq (.ix (.sl 0) (.con (.int 0))) (.con (.str [115, 97, 121]))) (.cons (.ret (.op .add (.tup (.cons false (.ix (.sl 0) (.con (.int 1))) .nil)) (.bi .tuple (.cons false (.call 45 (.cons false (.call 29 (.cons false (.ix (.sl 0) (.con (.int 1))) .nil) .nil []) (.cons false (.sli (.sl 0) (.con (.int 1)) .none_) .nil)) .nil []) .nil)))) .nil) .nil) (.cons (.iff (.cmp .eq (.ix (.sl 0) (.con (.int 0))) (.con (.str [102, 114, 101, 101]))) (.cons (.ret (.tup (.cons false (.con (.str [102, 114, 101, 101])) (.cons false (.ix (.sl 0) (.con (.int 1))) .nil)))) .nil) .nil) (.cons (.ret (.op .add (.tup (.cons false (.ix (.sl 0) (.con (.int 1))) (.cons false (.ix (.sl 0) (.con (.int 0))) .nil))) (.bi .tuple (.cons false (.call 45 (.cons false (.call 32 (.cons false (.ix (.sl 0) (.con (.int 1))) .nil) .nil []) (.cons false (.sli (.sl 0) (.con (.int 1)) .none_) .nil)) .nil []) .nil)))) .nil)))
def f36 : FD := ⟨"line_told", top 75, ["words"], ["words"], ⟨1, 1, none, b36⟩, "line_told"⟩
/-- are_steps -/
def b37 : Ss := (.cons (.iff (.lg false (.cons false (.not (.isi .list (.sl 0))) (.cons false (.not (.cmp2 .le .le (.con (.int 1)) (.bi .len (.cons false (.sl 0) .nil)) (.gl 13))) .nil))) (.cons (.ret (.con (.bl false))) .nil) .nil) (.cons (.asg (.one 1) (.lst .nil)) (.cons (.for_ (.one 2) (.seq (.sl 0)) (.cons (.iff (.lg false (.cons false (.not (.call 46 (.cons false (.sl 2) (.cons false (.sl 1) .nil)) .nil [])) (.cons false (.cmp .isin (.ix (.sl 2) (.con (.int 1))) (.sl 1)) .nil))) (.cons (.ret (.con (.bl false))) .nil) .nil) (.cons (.app 1 (.ix (.sl 2) (.con (.int 1)))) .nil)) []) (.cons (.ret (.cmp .le (.bi .sum (.cons false (.comp (.call 44 (.cons false (.sl 2) .nil) .nil []) (.one 2) (.seq (.sl 0)) none [2]) .nil)) (.gl 12))) .nil))))
def f37 : FD := ⟨"are_steps", top 39, ["value", "drawn", "step"], ["value"], ⟨1, 3, none, b37⟩, "are_steps"⟩
/-- said_many -/
def b38 : Ss := (.cons (.ret (.ite (.cmp .isin (.sl 0) (.gl 14)) (.ix (.gl 15) (.gix 14 (.sl 0))) (.con .non))) .nil)
def f38 : FD := ⟨"said_many", top 33, ["kind"], ["kind"], ⟨1, 1, none, b38⟩, "said_many"⟩
/-- is_fraction -/
def b39 : Ss := (.cons (.iff (.lg false (.cons false (.not (.isi .tuple (.sl 0))) (.cons false (.cmp .ne (.bi .len (.cons false (.sl 0) .nil)) (.con (.int 2))) (.cons false (.not (.call 30 (.cons false (.ix (.sl 0) (.con (.int 0))) .nil) .nil [])) (.cons false (.not (.call 30 (.cons false (.ix (.sl 0) (.con (.int 1))) .nil) .nil [])) .nil))))) (.cons (.ret (.con (.bl false))) .nil) .nil) (.cons (.ret (.lg true (.cons false (.cmp .gt (.ix (.sl 0) (.con (.int 1))) (.con (.int 0))) (.cons false (.cmp .eq (.call 47 (.cons false (.ix (.sl 0) (.con (.int 0))) (.cons false (.ix (.sl 0) (.con (.int 1))) .nil)) .nil []) (.con (.int 1))) .nil)))) .nil))
def f39 : FD := ⟨"is_fraction", top 13, ["value"], ["value"], ⟨1, 1, none, b39⟩, "is_fraction"⟩
/-- number_word -/
def b40 : Ss := (.cons (.ret (.op .add (.bi .str_ (.cons false (.ix (.sl 0) (.con (.int 0))) .nil)) (.ite (.cmp .eq (.ix (.sl 0) (.con (.int 1))) (.con (.int 1))) (.con (.str [])) (.op .add (.con (.str [47])) (.bi .str_ (.cons false (.ix (.sl 0) (.con (.int 1))) .nil)))))) .nil)
def f40 : FD := ⟨"number_word", top 58, ["number"], ["number"], ⟨1, 1, none, b40⟩, "number_word"⟩
/-- used_many -/
def b41 : Ss := (.cons (.iff (.cmp .isin (.sl 0) (.gl 8)) (.cons (.ret (.con (.int 3))) .nil) .nil) (.cons (.ret (.ite (.cmp .isin (.sl 0) (.gl 7)) (.ix (.gl 16) (.gix 7 (.sl 0))) (.con .non))) .nil))
def f41 : FD := ⟨"used_many", top 32, ["kind"], ["kind"], ⟨1, 1, none, b41⟩, "used_many"⟩
/-- behind_head -/
def b42 : Ss := (.cons (.iff (.cmp .is (.sl 0) (.con .non)) (.cons (.ret (.ite (.cmp .gt (.bi .len (.cons false (.sl 1) .nil)) (.sl 3)) (.sl 3) (.bi .len (.cons false (.sl 1) .nil)))) .nil) .nil) (.cons (.asg (.one 4) (.call 48 (.cons false (.sl 0) (.cons false (.sli (.sl 1) (.sl 3) .none_) (.cons false (.sl 2) .nil))) .nil [])) (.cons (.ret (.ite (.cmp .is (.sl 4) (.con .non)) (.con .non) (.op .add (.sl 4) (.sl 3)))) .nil)))
def f42 : FD := ⟨"behind_head", top 73, ["pattern", "words", "drawn", "ahead", "off"], ["pattern", "words", "drawn", "ahead"], ⟨4, 5, none, b42⟩, "behind_head"⟩
/-- is_name_by -/
def b43 : Ss := (.cons (.iff (.lg false (.cons false (.not (.isi .str (.sl 0))) (.cons false (.not (.cmp2 .le .le (.con (.int 1)) (.bi .len (.cons false (.sl 0) .nil)) (.gl 18))) (.cons false (.cmp .notin (.ix (.sl 0) (.con (.int 0))) (.gl 17)) .nil)))) (.cons (.ret (.con (.bl false))) .nil) .nil) (.cons (.iff (.not (.bi .all (.cons false (.comp (.cmp .isin (.sl 1) (.op .add (.gl 17) (.gl 19))) (.one 1) (.seq (.sl 0)) none [1]) .nil))) (.cons (.ret (.con (.bl false))) .nil) .nil) (.cons (.ret (.cmp .notin (.sl 0) (.op .add (.op .add (.gl 20) (.gl 21)) (.gl 22)))) .nil)))
def f43 : FD := ⟨"is_name_by", top 21, ["value", "sign"], ["value"], ⟨1, 2, none, b43⟩, "is_name_by"⟩
/-- letters_in -/
def b44 : Ss := (.cons (.iff (.cmp .eq (.ix (.sl 0) (.con (.int 0))) (.con (.str [102, 114, 101, 101]))) (.cons (.ret (.con (.int 2))) .nil) .nil) (.cons (.ret (.ite (.cmp .isin (.ix (.sl 0) (.con (.int 0))) (.tup (.cons false (.con (.str [111, 110])) (.cons false (.con (.str [114, 111, 117, 110, 100])) .nil)))) (.con (.int 1)) (.con (.int 0)))) .nil))
def f44 : FD := ⟨"letters_in", top 38, ["step"], ["step"], ⟨1, 1, none, b44⟩, "letters_in"⟩
/-- told_by -/
def b45 : Ss := (.cons (.asg (.one 2) (.comp (.sl 5) (.tup [(.one 4), (.one 5)]) (.zip (.sl 0) (.sl 1) true) (some (.cmp .eq (.sl 4) (.gl 2))) [4, 5])) (.cons (.asg (.one 3) (.comp (.call 49 (.cons false (.sl 5) .nil) .nil []) (.tup [(.one 4), (.one 5)]) (.zip (.sl 0) (.sl 1) true) (some (.cmp .eq (.sl 4) (.gl 3))) [4, 5])) (.cons (.ret (.op .add (.sl 2) (.sl 3))) .nil)))
def f45 : FD := ⟨"told_by", top 65, ["pattern", "words", "points", "numbers", "slot", "word"], ["pattern", "words"], ⟨2, 6, none, b45⟩, "told_by"⟩
/-- is_step_by -/
def b46 : Ss := (.cons (.iff (.lg false (.cons false (.not (.isi .tuple (.sl 0))) (.cons false (.cmp .lt (.bi .len (.cons false (.sl 0) .nil)) (.con (.int 2))) (.cons false (.not (.isi .str (.ix (.sl 0) (.con (.int 0))))) (.cons false (.not (.call 43 (.cons false (.ix (.sl 0) (.con (.int 1))) .nil) .nil [])) .nil))))) (.cons (.ret (.con (.bl false))) .nil) .nil) (.cons (.asg (.one 2) (.call 41 (.cons false (.ix (.sl 0) (.con (.int 0))) .nil) .nil [])) (.cons (.iff (.lg false (.cons false (.cmp .is (.sl 2) (.con .non)) (.cons false (.cmp .ne (.bi .len (.cons false (.sl 0) .nil)) (.op .add (.op .add (.con (.int 2)) (.sl 2)) (.bi .int (.cons false (.cmp .isin (.ix (.sl 0) (.con (.int 0))) (.gl 1)) .nil)))) .nil))) (.cons (.ret (.con (.bl false))) .nil) .nil) (.cons (.iff (.not (.bi .all (.cons false (.comp (.lg true (.cons false (.isi .str (.sl 3)) (.cons false (.cmp .isin (.sl 3) (.sl 1)) .nil))) (.one 3) (.seq (.sli (.sl 0) (.con (.int 2)) (.op .add (.con (.int 2)) (.sl 2)))) none [3]) .nil))) (.cons (.ret (.con (.bl false))) .nil) .nil) (.cons (.ret (.lg false (.cons false (.cmp .notin (.ix (.sl 0) (.con (.int 0))) (.gl 1)) (.cons false (.call 39 (.cons false (.ix (.sl 0) (.neg (.con (.int 1)))) .nil) .nil []) .nil)))) .nil)))))
def f46 : FD := ⟨"is_step_by", top 36, ["value", "drawn", "many", "name"], ["value", "drawn"], ⟨2, 4, none, b46⟩, "is_step_by"⟩
/-- common_divisor -/
def b47 : Ss := (.cons (.ret (.bi .gcd (.cons false (.sl 0) (.cons false (.sl 1) .nil)))) .nil)
def f47 : FD := ⟨"common_divisor", top 11, ["one", "other"], ["one", "other"], ⟨2, 2, none, b47⟩, "common_divisor"⟩
/-- first_off -/
def b48 : Ss := (.cons (.for_ (.tup [(.one 3), (.one 4)]) (.enu (.sl 1)) (.cons (.iff (.lg false (.cons false (.cmp .eq (.sl 3) (.bi .len (.cons false (.sl 0) .nil))) (.cons false (.not (.call 50 (.cons false (.ix (.sl 0) (.sl 3)) (.cons false (.sl 4) (.cons false (.sl 2) .nil))) .nil [])) .nil))) (.cons (.ret (.sl 3)) .nil) .nil) .nil) []) (.cons (.ret (.ite (.cmp .eq (.bi .len (.cons false (.sl 1) .nil)) (.bi .len (.cons false (.sl 0) .nil))) (.con .non) (.bi .len (.cons false (.sl 1) .nil)))) .nil))
def f48 : FD := ⟨"first_off", top 72, ["pattern", "words", "drawn", "at", "word"], ["pattern", "words", "drawn"], ⟨3, 5, none, b48⟩, "first_off"⟩
/-- number_in -/
def b49 : Ss := (.cons (.asg (.one 1) (.ite (.cmp .eq (.sli (.sl 0) .none_ (.con (.int 1))) (.con (.str [45]))) (.sli (.sl 0) (.con (.int 1)) .none_) (.sl 0))) (.cons (.asg (.one 2) (.mth .split (.sl 1) (.con (.str [47])))) (.cons (.iff (.lg false (.cons false (.cmp .gt (.bi .len (.cons false (.sl 2) .nil)) (.con (.int 2))) (.cons false (.not (.bi .all (.cons false (.comp (.call 51 (.cons false (.sl 5) .nil) .nil []) (.one 5) (.seq (.sl 2)) none [5]) .nil))) (.cons false (.lg true (.cons false (.cmp .eq (.ix (.sl 2) (.neg (.con (.int 1)))) (.con (.str [48]))) (.cons false (.cmp .eq (.bi .len (.cons false (.sl 2) .nil)) (.con (.int 2))) .nil))) .nil)))) (.cons (.ret (.con .non)) .nil) .nil) (.cons (.asg (.one 3) (.ite (.cmp .ne (.sl 1) (.sl 0)) (.neg (.bi .int (.cons false (.ix (.sl 2) (.con (.int 0))) .nil))) (.bi .int (.cons false (.ix (.sl 2) (.con (.int 0))) .nil)))) (.cons (.asg (.one 4) (.call 52 (.cons false (.sl 3) (.cons false (.ite (.cmp .eq (.bi .len (.cons false (.sl 2) .nil)) (.con (.int 2))) (.bi .int (.cons false (.ix (.sl 2) (.con (.int 1))) .nil)) (.con (.int 1))) .nil)) .nil [])) (.cons (.ret (.ite (.cmp .eq (.call 40 (.cons false (.sl 4) .nil) .nil []) (.sl 0)) (.sl 4) (.con .non))) .nil))))))
def f49 : FD := ⟨"number_in", top 63, ["word", "plain", "parts", "top", "found", "part"], ["word"], ⟨1, 6, none, b49⟩, "number_in"⟩
/-- fits_word -/
def b50 : Ss := (.cons (.iff (.cmp .eq (.sl 0) (.gl 2)) (.cons (.ret (.cmp .isin (.sl 1) (.sl 2))) .nil) .nil) (.cons (.ret (.ite (.cmp .eq (.sl 0) (.gl 3)) (.cmp .isnot (.call 49 (.cons false (.sl 1) .nil) .nil []) (.con .non)) (.cmp .eq (.sl 1) (.sl 0)))) .nil))
def f50 : FD := ⟨"fits_word", top 64, ["slot", "word", "drawn"], ["slot", "word", "drawn"], ⟨3, 3, none, b50⟩, "fits_word"⟩
/-- is_digits -/
def b51 : Ss := (.cons (.iff (.lg false (.cons false (.not (.cmp2 .le .le (.con (.int 1)) (.bi .len (.cons false (.sl 0) .nil)) (.gl 24))) (.cons false (.not (.bi .all (.cons false (.comp (.cmp .isin (.sl 1) (.gl 23)) (.one 1) (.seq (.sl 0)) none [1]) .nil))) .nil))) (.cons (.ret (.con (.bl false))) .nil) .nil) (.cons (.ret (.lg false (.cons false (.cmp .eq (.sl 0) (.con (.str [48]))) (.cons false (.cmp .ne (.ix (.sl 0) (.con (.int 0))) (.con (.str [48]))) .nil)))) .nil))
def f51 : FD := ⟨"is_digits", top 62, ["word", "sign"], ["word"], ⟨1, 2, none, b51⟩, "is_digits"⟩
/-- lowest -/
def b52 : Ss := (.cons (.iff (.cmp .lt (.sl 1) (.con (.int 0))) (.cons (.par [0, 1] (.cons false (.neg (.sl 0)) (.cons false (.neg (.sl 1)) .nil))) .nil) .nil) (.cons (.asg (.one 2) (.call 47 (.cons false (.sl 0) (.cons false (.sl 1) .nil)) .nil [])) (.cons (.ret (.tup (.cons false (.op .fdiv (.sl 0) (.sl 2)) (.cons false (.op .fdiv (.sl 1) (.sl 2)) .nil)))) .nil)))
def f52 : FD := ⟨"lowest", top 12, ["top", "under", "common"], ["top", "under"], ⟨2, 3, none, b52⟩, "lowest"⟩
def L : List FD := [f0, f1, f2, f3, f4, f5, f6, f7, f8, f9, f10, f11, f12, f13, f14, f15, f16, f17, f18, f19, f20, f21, f22, f23, f24, f25, f26, f27, f28, f29, f30, f31, f32, f33, f34, f35, f36, f37, f38, f39, f40, f41, f42, f43, f44, f45, f46, f47, f48, f49, f50, f51, f52]
def cs : List (Str × D) := [("MOST_SAYINGS", (.int 10)), ("COUNTED", (.tup [(.str [114, 97, 116, 105, 111]), (.str [108, 111, 110, 103]), (.str [97, 114, 101, 97])])), ("POINT", (.str [46])), ("NUMBER", (.str [35])), ("SAYING_LINES", (.tup [(.str [108, 105, 110, 101, 32, 46, 32, 46, 32, 46]), (.str [99, 105, 114, 99, 108, 101, 32, 46, 32, 46, 32, 46, 32, 46]), (.str [112, 97, 114, 97, 108, 108, 101, 108, 32, 46, 32, 46, 32, 119, 105, 116, 104, 32, 46, 32, 46]), (.str [115, 113, 117, 97, 114, 101, 32, 46, 32, 46, 32, 119, 105, 116, 104, 32, 46, 32, 46])])), ("MORE_LINES", (.tup [(.str [108, 111, 110, 103, 32, 46, 32, 46, 32, 119, 105, 116, 104, 32, 46, 32, 46, 32, 116, 105, 109, 101, 115, 32, 35]), (.str [115, 97, 109, 101, 32, 46, 32, 119, 105, 116, 104, 32, 46]), (.str [97, 114, 101, 97, 32, 46, 32, 46, 32, 46, 32, 119, 105, 116, 104, 32, 46, 32, 46, 32, 46, 32, 116, 105, 109, 101, 115, 32, 35])])), ("LATE_LINES", (.tup [(.str [108, 105, 110, 101, 115, 32, 46, 32, 46, 32, 119, 105, 116, 104, 32, 46, 32, 46, 32, 119, 105, 116, 104, 32, 46, 32, 46]), (.str [116, 111, 117, 99, 104, 32, 46, 32, 46, 32, 114, 111, 117, 110, 100, 32, 46, 32, 46]), (.str [97, 110, 103, 108, 101, 32, 46, 32, 46, 32, 46, 32, 119, 105, 116, 104, 32, 46, 32, 46, 32, 46])])), ("STEP_KINDS", (.tup [(.str [102, 114, 101, 101]), (.str [111, 110]), (.str [114, 111, 117, 110, 100]), (.str [109, 101, 101, 116]), (.str [102, 111, 111, 116]), (.str [109, 105, 114, 114, 111, 114]), (.str [111, 112, 112, 111, 115, 105, 116, 101]), (.str [109, 105, 100, 100, 108, 101]), (.str [114, 97, 116, 105, 111]), (.str [115, 104, 105, 102, 116]), (.str [117, 112, 114, 105, 103, 104, 116])])), ("LATE_KINDS", (.tup [(.str [99, 101, 110, 116, 101, 114]), (.str [97, 103, 97, 105, 110])])), ("STEP_LINES", (.tup [(.str [102, 114, 101, 101]), (.str [111, 110, 32, 46, 32, 46]), (.str [114, 111, 117, 110, 100, 32, 46, 32, 46]), (.str [109, 101, 101, 116, 32, 46, 32, 46, 32, 119, 105, 116, 104, 32, 46, 32, 46]), (.str [102, 111, 111, 116, 32, 111, 102, 32, 46, 32, 116, 111, 32, 46, 32, 46])])), ("LATER_LINES", (.tup [(.str [109, 105, 114, 114, 111, 114, 32, 111, 102, 32, 46, 32, 105, 110, 32, 46, 32, 46]), (.str [111, 112, 112, 111, 115, 105, 116, 101, 32, 111, 102, 32, 46, 32, 105, 110, 32, 46]), (.str [109, 105, 100, 100, 108, 101, 32, 111, 102, 32, 46, 32, 46]), (.str [114, 97, 116, 105, 111, 32, 111, 102, 32, 46, 32, 116, 111, 32, 46, 32, 98, 121, 32, 35]), (.str [115, 104, 105, 102, 116, 32, 111, 102, 32, 46, 32, 98, 121, 32, 46, 32, 46])])), ("LAST_LINES", (.tup [(.str [117, 112, 114, 105, 103, 104, 116, 32, 111, 102, 32, 46, 32, 98, 121, 32, 46, 32, 46]), (.str [99, 101, 110, 116, 101, 114, 32, 111, 102, 32, 46, 32, 46, 32, 46]), (.str [97, 103, 97, 105, 110, 32, 105, 110, 32, 46, 32, 46, 32, 114, 111, 117, 110, 100, 32, 46])])), ("MOST_LETTERS", (.int 8)), ("MOST_STEPS", (.int 20)), ("SAYING_KINDS", (.tup [(.str [108, 105, 110, 101]), (.str [99, 105, 114, 99, 108, 101]), (.str [112, 97, 114, 97, 108, 108, 101, 108]), (.str [115, 113, 117, 97, 114, 101]), (.str [108, 111, 110, 103]), (.str [115, 97, 109, 101]), (.str [97, 114, 101, 97]), (.str [108, 105, 110, 101, 115]), (.str [116, 111, 117, 99, 104]), (.str [97, 110, 103, 108, 101])])), ("SAYING_SIZES", (.tup [(.int 3), (.int 4), (.int 4), (.int 4), (.int 4), (.int 2), (.int 6), (.int 6), (.int 4), (.int 6)])), ("STEP_SIZES", (.tup [(.int 0), (.int 2), (.int 2), (.int 4), (.int 3), (.int 3), (.int 2), (.int 2), (.int 2), (.int 3), (.int 3)])), ("LETTERS", (.str [65, 66, 67, 68, 69, 70, 71, 72, 73, 74, 75, 76, 77, 78, 79, 80, 81, 82, 83, 84, 85, 86, 87, 88, 89, 90, 97, 98, 99, 100, 101, 102, 103, 104, 105, 106, 107, 108, 109, 110, 111, 112, 113, 114, 115, 116, 117, 118, 119, 120, 121, 122])), ("MOST_SIGNS", (.int 6)), ("DIGITS_names", (.str [48, 49, 50, 51, 52, 53, 54, 55, 56, 57])), ("CLOSED_STEPS", (.tup [(.str [102, 114, 101, 101]), (.str [111, 110]), (.str [114, 111, 117, 110, 100]), (.str [109, 101, 101, 116]), (.str [102, 111, 111, 116]), (.str [109, 105, 114, 114, 111, 114]), (.str [111, 112, 112, 111, 115, 105, 116, 101]), (.str [109, 105, 100, 100, 108, 101]), (.str [114, 97, 116, 105, 111]), (.str [115, 104, 105, 102, 116]), (.str [117, 112, 114, 105, 103, 104, 116])])), ("CLOSED_SAYINGS", (.tup [(.str [99, 101, 110, 116, 101, 114]), (.str [97, 103, 97, 105, 110]), (.str [115, 97, 121]), (.str [108, 105, 110, 101]), (.str [99, 105, 114, 99, 108, 101]), (.str [112, 97, 114, 97, 108, 108, 101, 108]), (.str [115, 113, 117, 97, 114, 101]), (.str [108, 111, 110, 103]), (.str [115, 97, 109, 101]), (.str [97, 114, 101, 97]), (.str [108, 105, 110, 101, 115])])), ("CLOSED_OTHERS", (.tup [(.str [116, 111, 117, 99, 104]), (.str [97, 110, 103, 108, 101]), (.str [111, 102]), (.str [119, 105, 116, 104]), (.str [116, 111]), (.str [105, 110]), (.str [98, 121]), (.str [116, 105, 109, 101, 115])])), ("DIGITS_patterns", (.str [48, 49, 50, 51, 52, 53, 54, 55, 56, 57])), ("MOST_FIGURES", (.int 30))]
def es : List Str := ["FigureError", "InvalidPlace", "InvalidLine", "InvalidFigure", "InvalidText", "InvalidSaying", "TooMany"]
def im : Bool := true
def fa : List He.Fa := (L.map fun d => He.Fa.glo d.name) ++ builtinNames.map .free
def fn : List He.DefD := L.map FD.dd
abbrev R : PySem.W.OpenRow := PySem.W.OpenLaw.row PySem.Challenge.rw_figuresproved_k04_texts_of_figures_refus
def ini : Stmt := clsHead (top 2)
def qual : Str := "FigureError.__init__"
def file : Str := R.prog.main.file
def iv : IvV := some ("__init__", qual, defArgs ini, .stmts (defBody ini), defScope ini, mainGlobals, ["__class__"], builtinsNs)
def ob (s : PySem.W.SharedT) : AlZ := obsZ 4 fa fn file qual es cs im (HandSHeadRun.getT s)
def loose0 : List Str := ["gcd", "FigureError", "InvalidFigure", "InvalidText", "InvalidSaying", "InvalidPlace", "InvalidLine", "TooMany", "is_whole", "common_divisor", "lowest", "is_fraction", "LETTERS", "DIGITS_names", "MOST_SIGNS", "CLOSED_STEPS", "CLOSED_SAYINGS", "CLOSED_OTHERS", "is_name_by", "MOST_STEPS", "MOST_SAYINGS", "MOST_LETTERS", "STEP_KINDS", "STEP_SIZES", "LATE_KINDS", "SAYING_KINDS", "SAYING_SIZES", "COUNTED", "used_many", "said_many"]
def loose1 : List Str := ["used_in", "said_in", "is_step_by", "is_saying_by", "letters_in", "are_steps", "is_figure_by", "check_figure", "names_in", "check_place", "check_saying", "POINT", "NUMBER", "STEP_LINES", "LATER_LINES", "LAST_LINES", "SAYING_LINES", "MORE_LINES", "LATE_LINES", "DIGITS_patterns", "MOST_FIGURES", "step_pattern", "saying_pattern", "number_word", "filled", "step_words", "saying_words", "is_digits", "number_in", "fits_word"]
def loose2 : List Str := ["told_by", "text_by", "figure_text", "step_line", "saying_line", "words_of", "first_off", "behind_head", "wrong_in_line", "line_told", "is_room", "read_by", "check_text", "read_figure", "wrong_place", "figure_behind", "saying_told", "read_saying", "step_told", "read_step", "_law_caught", "_law_odd_figures", "_law_purse", "_law_draw", "_law_pick"]
def loose : List Str := loose0 ++ loose1 ++ loose2
open PySem.W PySem.Calls HandSHeadRun in
theorem runA (w : World) : (wholeF (fun p => stepQ (denQ tabQ) p w) fenceQ 4000 R.prog).map (fun x => looksF R.prog x.1.heap x.2.abs) = some true := by kernel_rfl
open PySem.W PySem.Calls HandSHeadRun in
theorem runB (w : World) : (wholeF (fun p => stepQ (denQ tabQ) p w) fenceQ 4000 R.prog).map (fun x => seenQ (view R.prog [0, 92]) loose (importedModules R.prog.main.body) (fun s => xlAt (view R.prog [0, 92]) [] s && recOk (OpenRow.toRowW R).records s) x.2.abs) = some (openGood (view R.prog [0, 92]) loose) := by kernel_rfl
open PySem.W PySem.Calls HandSHeadRun in
theorem runC (w : World) : (wholeF (fun p => stepQ (denQ tabQ) p w) fenceQ 4000 R.prog).map (fun x => ob x.2) = some (He.valD fn, true, iv) := by kernel_rfl
end K04
namespace Ev
open PySem PySem.Spec PyProof.Rows L2

theorem LIM_eq : sizeLine = LIM := sizeLine_eq

/-- where the defs and the classes of errors stand -/
structure RC where
  fa : Nat → Addr
  ca : Nat → Addr
  nc : Nat
/-- an error of the class at C, with its own dict at d -/
def ExV (C a d : Addr) : HO := .ext fun h => ∃ o vs, h.get? a = some o ∧ o.cls = .ref C ∧ o.dict = some d ∧ o.data = .fields vs

mutual
inductive Rep (K : PySem.W.Frag) (c : RC) (F : Hp) : D → V → Prop
  | non : Rep K c F .non .non
  | bl (b : Bool) : Rep K c F (.bl b) (.bl b)
  | int (i : Int) : Rep K c F (.int i) (.int i)
  | str (x : List Nat) : x.all (fun k => decide (k < 0x110000)) = true → Rep K c F (.str x) (.str ⟨x.toArray⟩)
  | tup {a : Addr} {vs : List V} {ds : List D} : SqT K F a vs → RepL K c F ds vs → ds.length ≤ LIM → Rep K c F (.tup ds) (.ref a)
  | lst {a : Addr} {vs : List V} {ds : List D} : F a = some (.lst vs) → RepL K c F ds vs → ds.length ≤ LIM → Rep K c F (.lst ds) (.ref a)
  | fn (f : Nat) : Rep K c F (.fn f) (.ref (c.fa f))
  | exc {k : Nat} {a d : Addr} {x : D} {v : V} : k < c.nc → F a = some (ExV (c.ca k) a d) → F d = some (.xd [("value", v)]) → Rep K c F x v → Rep K c F (.exc k x) (.ref a)
  | scr {a : Addr} {ns : List Int} : SqL K F a (ns.map V.int) → ns.length ≤ LIM → Rep K c F (.scr ns) (.ref a)
  | emp {a : Addr} : F a = some (.dK []) → Rep K c F .emp (.ref a)
  | ctup {a : Addr} {o : Obj} {vs : List V} {ds : List D} : F a = some (.frz o (.tup vs)) → o.cls = .type "tuple" → o.dict = none → RepL K c F ds vs → ds.length ≤ LIM → Rep K c F (.ctup ds) (.ref a)
  | dct {a : Addr} {kvs : List (Key × V)} {vs : List V} {ks : List (List Nat)} {ds : List D} : F a = some (.dK kvs) → kvs.map (·.1) = ks.map (fun x => (.inr ⟨x.toArray⟩ : Key)) → kvs.map (·.2) = vs → RepL K c F ds vs → ks.length ≤ LIM → Rep K c F (.dct ks ds) (.ref a)
inductive RepL (K : PySem.W.Frag) (c : RC) (F : Hp) : List D → List V → Prop
  | nil : RepL K c F [] []
  | cons {d : D} {v : V} {ds : List D} {vs : List V} : Rep K c F d v → RepL K c F ds vs → RepL K c F (d :: ds) (v :: vs)
end
abbrev Sub (F F' : Hp) : Prop := ∀ a o, F a = some o → F' a = some o
theorem Sub.refl (F : Hp) : Sub F F := fun _ _ h => h
theorem Sub.trans {F G H : Hp} (a : Sub F G) (b : Sub G H) : Sub F H := fun x o h => b x o (a x o h)

section
variable {K : PySem.W.Frag} {c : RC} {F F' H : Hp}
theorem Rd.sub {a : Addr} {o : HO} (s : Sub F F') (h : Rd F a o) : Rd F' a o := by
  rcases h with h | ⟨u, h⟩
  · exact .inl (s _ _ h)
  · exact .inr ⟨u, s _ _ h⟩
theorem sqT_sub {a : Addr} {xs : List V} (s : Sub F F') (h : SqT K F a xs) : SqT K F' a xs := by
  rcases h with h | h
  · exact .inl (Rd.sub s h)
  · exact .inr h
theorem sqL_sub {a : Addr} {xs : List V} (s : Sub F F') (h : SqL K F a xs) : SqL K F' a xs := by
  rcases h with h | h
  · exact .inl (Rd.sub s h)
  · exact .inr h
mutual
theorem Rep.sub (s : Sub F F') : ∀ {d : D} {v : V}, Rep K c F d v → Rep K c F' d v
  | _, _, .non => .non
  | _, _, .bl b => .bl b
  | _, _, .int i => .int i
  | _, _, .str x h => .str x h
  | _, _, .tup h r l => .tup (sqT_sub s h) (RepL.sub s r) l
  | _, _, .lst h r l => .lst (s _ _ h) (RepL.sub s r) l
  | _, _, .fn f => .fn f
  | _, _, .exc hk h1 h2 r => .exc hk (s _ _ h1) (s _ _ h2) (Rep.sub s r)
  | _, _, .scr h l => .scr (sqL_sub s h) l
  | _, _, .emp h => .emp (s _ _ h)
  | _, _, .ctup h h1 h2 r l => .ctup (s _ _ h) h1 h2 (RepL.sub s r) l
  | _, _, .dct h h1 h2 r l => .dct (s _ _ h) h1 h2 (RepL.sub s r) l
theorem RepL.sub (s : Sub F F') : ∀ {ds : List D} {vs : List V}, RepL K c F ds vs → RepL K c F' ds vs
  | _, _, .nil => .nil
  | _, _, .cons r t => .cons (Rep.sub s r) (RepL.sub s t)
end
theorem RepL.length : ∀ {ds : List D} {vs : List V}, RepL K c F ds vs → ds.length = vs.length
  | _, _, .nil => rfl
  | _, _, .cons _ t => by simp [RepL.length t]
theorem RepL.get : ∀ {ds : List D} {vs : List V} {i : Nat} {d : D}, RepL K c F ds vs → ds[i]? = some d → ∃ v, vs[i]? = some v ∧ Rep K c F d v
  | _, _, _, _, .nil, e => by simp at e
  | _, _, 0, _, .cons r _, e => by simp at e; subst e; exact ⟨_, rfl, r⟩
  | _, _, i + 1, d, .cons r t, e => by
    obtain ⟨v, h1, h2⟩ := RepL.get (i := i) (d := d) t (by simpa using e)
    exact ⟨v, by simpa using h1, h2⟩
theorem RepL.getV : ∀ {ds : List D} {vs : List V} {i : Nat} {v : V}, RepL K c F ds vs → vs[i]? = some v → ∃ d, ds[i]? = some d ∧ Rep K c F d v
  | _, _, _, _, .nil, e => by simp at e
  | _, _, 0, _, .cons r _, e => by simp at e; subst e; exact ⟨_, rfl, r⟩
  | _, _, i + 1, d, .cons r t, e => by
    obtain ⟨v, h1, h2⟩ := RepL.getV (i := i) (v := d) t (by simpa using e)
    exact ⟨v, by simpa using h1, h2⟩
theorem RepL.append : ∀ {ds es : List D} {vs ws : List V}, RepL K c F ds vs → RepL K c F es ws → RepL K c F (ds ++ es) (vs ++ ws)
  | _, _, _, _, .nil, s => s
  | _, _, _, _, .cons r t, s => .cons r (RepL.append t s)
theorem RepL.take : ∀ {ds : List D} {vs : List V} (n : Nat), RepL K c F ds vs → RepL K c F (ds.take n) (vs.take n)
  | _, _, 0, _ => .nil
  | _, _, _ + 1, .nil => .nil
  | _, _, n + 1, .cons r t => .cons r (RepL.take n t)
theorem RepL.drop : ∀ {ds : List D} {vs : List V} (n : Nat), RepL K c F ds vs → RepL K c F (ds.drop n) (vs.drop n)
  | _, _, 0, r => r
  | _, _, _ + 1, .nil => .nil
  | _, _, n + 1, .cons _ t => RepL.drop n t
theorem RepL.set {d : D} {v : V} (r : Rep K c F d v) : ∀ {ds : List D} {vs : List V} (i : Nat), RepL K c F ds vs → RepL K c F (ds.set i d) (vs.set i v)
  | _, _, _, .nil => .nil
  | _, _, 0, .cons _ t => .cons r t
  | _, _, i + 1, .cons q t => .cons q (RepL.set r i t)
theorem RepL.rep {ds : List D} {vs : List V} (r : RepL K c F ds vs) : ∀ n : Nat, RepL K c F (List.replicate n ds).flatten (List.replicate n vs).flatten
  | 0 => .nil
  | n + 1 => by simp only [List.replicate_succ, List.flatten_cons]; exact r.append (RepL.rep r n)
theorem RepL.ints : ∀ {ns : List Int} {vs : List V} {ds : List D}, RepL K c F ds vs → intsOf ds = some ns → vs = ns.map V.int
  | _, _, [], .nil, e => by simp [intsOf] at e; subst e; rfl
  | _, _, _ :: _, .cons r t, e => by
    cases r <;> simp [intsOf] at e
    obtain ⟨ms, h1, h2⟩ := e
    subst h2
    rw [RepL.ints t h1]; rfl
theorem RepL.bools : ∀ {ns : List Bool} {vs : List V} {ds : List D}, RepL K c F ds vs → boolsOf ds = some ns → vs = ns.map V.bl
  | _, _, [], .nil, e => by simp [boolsOf] at e; subst e; rfl
  | _, _, _ :: _, .cons r t, e => by
    cases r <;> simp [boolsOf] at e
    obtain ⟨ms, h1, h2⟩ := e
    subst h2
    rw [RepL.bools t h1]; rfl
theorem repL_ints : ∀ ns : List Int, RepL K c F (ns.map D.int) (ns.map V.int)
  | [] => .nil
  | n :: ns => .cons (.int n) (repL_ints ns)
/-- atoms need no heap -/
theorem Rep.atom {d : D} {v : V} (r : Rep K c F d v) (h : d.atom = true) : Rep K c F' d v := by
  cases r <;> first | (simp [D.atom] at h; done) | (constructor; done) | (constructor; assumption)
theorem RepL.atoms : ∀ {ds : List D} {vs : List V}, RepL K c F ds vs → ds.all D.atom = true → RepL K c F' ds vs
  | _, _, .nil, _ => .nil
  | _, _, .cons r t, h => by
    simp only [List.all_cons, Bool.and_eq_true] at h
    exact .cons (r.atom h.1) (t.atoms h.2)

/-! data as the library's data -/
mutual
theorem Rep.dp (s : Sub F H) : ∀ (d : D) (v : V) (n : Nat), Rep K c F d v → d.dat n = true → Dp K H v d.py
  | .non, _, _, .non, _ => .non
  | .bl b, _, _, .bl _, _ => .bl b
  | .int i, _, _, .int _, _ => .int i
  | .str x, _, _, .str _ _, _ => .str _
  | .tup ds, _, 0, .tup h r _, q => by simp [D.dat] at q
  | .tup ds, _, n + 1, .tup h r _, q => .tup (sqT_sub s h) (RepL.dp s ds _ n r (by simpa [D.dat] using q))
  | .lst ds, _, 0, .lst h r _, q => by simp [D.dat] at q
  | .lst ds, _, n + 1, .lst h r _, q => .lst (.inl (.inl (s _ _ h))) (RepL.dp s ds _ n r (by simpa [D.dat] using q))
  | .fn f, _, _, _, q => by simp [D.dat] at q
  | .exc _ _, _, _, _, q => by simp [D.dat] at q
  | .scr _, _, _, _, q => by simp [D.dat] at q
  | .emp, _, _, _, q => by simp [D.dat] at q
  | .ctup _, _, _, _, q => by simp [D.dat] at q
  | .dct _ _, _, _, _, q => by simp [D.dat] at q
theorem RepL.dp (s : Sub F H) : ∀ (ds : List D) (vs : List V) (n : Nat), RepL K c F ds vs → D.datL n ds = true → DpAll K H vs (D.pyL ds)
  | [], _, _, .nil, _ => .nil
  | d :: ds, _, n, .cons r t, q => by
    simp only [D.datL, Bool.and_eq_true] at q
    exact .cons (Rep.dp s d _ n r q.1) (RepL.dp s ds _ n t q.2)
end
mutual
theorem Rep.lay : ∀ (d : D) (v : V) (n : Nat), Rep K c F d v → d.dat n = true → d.py.canLay0 = true
  | .non, _, _, _, _ => rfl
  | .bl b, _, _, _, _ => rfl
  | .int i, _, _, _, _ => rfl
  | .str x, _, _, .str _ h, _ => by
    simp only [D.py, PyData.canLay0, PySem.PyData.strOk, List.all_toArray]
    exact h
  | .tup ds, _, 0, _, q => by simp [D.dat] at q
  | .tup ds, _, n + 1, .tup _ r _, q => by
    have := RepL.lay ds _ n r (by simpa [D.dat] using q)
    simpa [D.py, PyData.canLay0] using this
  | .lst ds, _, 0, _, q => by simp [D.dat] at q
  | .lst ds, _, n + 1, .lst _ r _, q => by
    have := RepL.lay ds _ n r (by simpa [D.dat] using q)
    simpa [D.py, PyData.canLay0] using this
  | .fn f, _, _, _, q => by simp [D.dat] at q
  | .exc _ _, _, _, _, q => by simp [D.dat] at q
  | .scr _, _, _, _, q => by simp [D.dat] at q
  | .emp, _, _, _, q => by simp [D.dat] at q
  | .ctup _, _, _, _, q => by simp [D.dat] at q
  | .dct _ _, _, _, _, q => by simp [D.dat] at q
theorem RepL.lay : ∀ (ds : List D) (vs : List V) (n : Nat), RepL K c F ds vs → D.datL n ds = true → PyData.canLayAll0 (D.pyL ds) = true
  | [], _, _, _, _ => rfl
  | d :: ds, _, n, .cons r t, q => by
    simp only [D.datL, Bool.and_eq_true] at q
    simp [D.pyL, PyData.canLayAll0, Rep.lay d _ n r q.1, RepL.lay ds _ n t q.2]
end
mutual
theorem dat_dep : ∀ (d : D) (n : Nat), d.dat n = true → d.py.depth ≤ n
  | .non, _, _ => by simp [D.py, PyData.depth]
  | .bl b, _, _ => by simp [D.py, PyData.depth]
  | .int i, _, _ => by simp [D.py, PyData.depth]
  | .str x, _, _ => by simp [D.py, PyData.depth]
  | .tup ds, 0, q => by simp [D.dat] at q
  | .tup ds, n + 1, q => by
    have := datL_dep ds n (by simpa [D.dat] using q)
    simp [D.py, PyData.depth]; omega
  | .lst ds, 0, q => by simp [D.dat] at q
  | .lst ds, n + 1, q => by
    have := datL_dep ds n (by simpa [D.dat] using q)
    simp [D.py, PyData.depth]; omega
  | .fn f, _, q => by simp [D.dat] at q
  | .exc _ _, _, q => by simp [D.dat] at q
  | .scr _, _, q => by simp [D.dat] at q
  | .emp, _, q => by simp [D.dat] at q
  | .ctup _, _, q => by simp [D.dat] at q
  | .dct _ _, _, q => by simp [D.dat] at q
theorem datL_dep : ∀ (ds : List D) (n : Nat), D.datL n ds = true → PyData.depthAll (D.pyL ds) ≤ n
  | [], _, _ => by simp [D.pyL, PyData.depthAll]
  | d :: ds, n, q => by
    simp only [D.datL, Bool.and_eq_true] at q
    have h1 := dat_dep d n q.1
    have h2 := datL_dep ds n q.2
    simp only [D.pyL, PyData.depthAll]; omega
end
theorem Rep.shaped {d : D} {v : V} (r : Rep K c F d v) (h : d.dat 40 = true) : SeqAt.shaped d.py = true := by
  have h1 := Rep.lay d v 40 r h
  have h2 := dat_dep d 40 h
  unfold SeqAt.shaped
  rw [h1, Bool.true_and, decide_eq_true_eq]; omega
theorem RepL.shaped {ds : List D} {vs : List V} (r : RepL K c F ds vs) (h : D.datL 40 ds = true) : SeqAt.shaped (.list (D.pyL ds)) = true := by
  have h1 := RepL.lay ds vs 40 r h
  have h2 := datL_dep ds 40 h
  unfold SeqAt.shaped
  rw [Bool.and_eq_true, decide_eq_true_eq]
  exact ⟨by simpa [PyData.canLay0] using h1, by simp [PyData.depth]; omega⟩
theorem str_beq (x y : List Nat) : ((⟨x.toArray⟩ : Str) == ⟨y.toArray⟩) = (x == y) := by
  by_cases h : x = y
  · subst h; simp
  · have : (⟨x.toArray⟩ : Str) ≠ ⟨y.toArray⟩ := fun e => h (by simpa using e)
    rw [beq_eq_false_iff_ne.mpr this, beq_eq_false_iff_ne.mpr h]
mutual
theorem eqv_beq : ∀ (d e : D) (n : Nat) (m : Nat), d.dat n = true → e.dat m = true → PyData.eqv d.py e.py = D.beq d e := by
  intro d e n m hd he
  cases d <;> cases e <;> simp only [D.py, PyData.eqv, D.beq, str_beq] <;> first
    | (exfalso; simp [D.dat] at hd; done)
    | (exfalso; simp [D.dat] at he; done)
    | (rename_i xs ys
       cases n with
       | zero => simp [D.dat] at hd
       | succ n =>
         cases m with
         | zero => simp [D.dat] at he
         | succ m => exact eqv_beqL xs ys n m (by simpa [D.dat] using hd) (by simpa [D.dat] using he))
theorem eqv_beqL : ∀ (ds es : List D) (n m : Nat), D.datL n ds = true → D.datL m es = true → PyData.eqvAll (D.pyL ds) (D.pyL es) = D.beqL ds es
  | [], [], _, _, _, _ => by simp [D.pyL, PyData.eqvAll, D.beqL]
  | [], _ :: _, _, _, _, _ => by simp [D.pyL, PyData.eqvAll, D.beqL]
  | _ :: _, [], _, _, _, _ => by simp [D.pyL, PyData.eqvAll, D.beqL]
  | d :: ds, e :: es, n, m, h1, h2 => by
    simp only [D.datL, Bool.and_eq_true] at h1 h2
    simp only [D.pyL, PyData.eqvAll, D.beqL]
    rw [eqv_beq d e n m h1.1 h2.1, eqv_beqL ds es n m h1.2 h2.2]
end
end
end Ev
/-! ### an error class whose __init__ says super().__init__(value), then self.value = value -/
namespace Xc
open PySem PySem.Spec PyProof.Rows L2 NdefX
abbrev NN : List Str := ["self", "value", "__class__"]
abbrev N2 : List Str := ["self", "value"]
abbrev N1 : List Str := ["__class__"]
/-- what must be known of the classes: D says __init__, C is D or one of its own -/
structure Under (K : PySem.W.Frag) (D C : Addr) : Prop where
  ox : OexC K C
  sub : PySem.W.mroIn K C (.ref D) = some true
  up : ∃ cd, PySem.W.clsIn K C = some cd ∧ PySem.W.alongIn K "__init__" ((cd.mro.dropWhile (· != .ref D)).drop 1) = some (some (.builtin "ValueError.__init__"))
  ve : PySem.W.mroIn K C (.type "ValueError") = some true
  no : PySem.W.findIn K (.ref C) "value" = some none
def spI (K : PySem.W.Frag) (D : Addr) : Sp := fun vs H Q _ => ∃ (a C : Addr) (v : V), vs = [.ref a, v] ∧ Under K D C ∧ H a = some (exo a C none) ∧
  ∀ dx, H dx = none → dx ≠ a → Q .non (upd (upd H dx (exd dx [("value", v)])) a (exo a C (some dx)))
theorem fn_init {CX : CXT} {P : Program} {w : World} {K : PySem.W.Frag} {mg : Str → Option Value} {base : Heap} {k : Nat} {f D cc cda : Addr} {name qual : Str} {params : Arguments} {body : List Stmt} {scope : Scope} {dV kV doc pm ct oc : Value} {an od : Option Addr} {osl : Array (Option Value)}
    (lk : K.lookup f = some ⟨oc, od, .func (PySem.W.fnX name qual params body scope [("__class__", cc)] dV kV doc pm an (.ref cda) ct), osl⟩) (hcd : PySem.W.codeIn K (.ref cda) qual = true)
    {q0 q1 q2 q3 q4 q5 q6 q7 q8 q9 : Pos}
    (hbody : body = [.Expr (.Call (.Attribute (.Call (.Name "super" q0) [] [] q1) "__init__" q2) [.Name "value" q3] [] q4) q5, .Assign [.Attribute (.Name "self" q6) "value" q7] (.Name "value" q8) q9])
    (he : ∀ env : Env, eval (.Call (.Attribute (.Call (.Name "super" q0) [] [] q1) "__init__" q2) [.Name "value" q3] [] q4) env = (do
      let ov ← attributeBase (.Call (.Name "super" q0) [] [] q1) "__init__" env (eval (.Call (.Name "super" q0) [] [] q1) env)
      standAt q2.atName
      let (g, first) ← holding [ov] (getMethod ov "__init__" (do return (← importBound (.Call (.Name "super" q0) [] [] q1) env).getD true))
      callWith q4 g first (backTo q4 (starEach [.Name "value" q3] env)) []))
    (S : NScope NN N2 N1 scope) (hks : scope.names.lookup ("super" : Str) = some .globalImplicit) {ar : Arg} (hp : (params.posonlyargs ++ params.args).head? = some ar) (har : ar.arg = "self")
    {vs : Array Value} {file : Str} {tf : Tok} {ccl cl : Value} {cdd cld : Option Addr} {ccs csl : Array (Option Value)} {cdD : ClassData}
    (hcode : K.lookup cda = some ⟨ccl, cdd, .fields vs, ccs⟩) (hvs : vs[2]? = some (.str file tf)) (hfile : ((P.main.file : Str) == file) = true) (hcell : K.lookup cc = some ⟨cl, cld, .cell (some (.ref D)), csl⟩) (hD : PySem.W.clsIn K D = some cdD)
    (hsuper : mg "super" = none) (htop : (P.main.scope.names.lookup ("super" : Str)).isSome = false) (hth : PySem.W.nsIn K cStatics "thirdparty.any" = some none) :
    FnOk P w K mg base CX (k + 1) f (PySem.W.fnX name qual params body scope [("__class__", cc)] dV kV doc pm an (.ref cda) ct) N2 (spI K D) := by
  refine ⟨fun vs H Q E ⟨_, _, _, e, _⟩ => by rw [e]; rfl, fun A outer s H args us vs0 Q E hr e0 hb r hsp => ?_⟩
  obtain ⟨a, C, v, rfl, U, ha, hq⟩ := hsp
  have KX : K.In s.heap := e0.mod.kin.keeps fun b o e => (e0.bs b o e).1
  have lim : s.heap.NoLimit := e0.mod.nolimit.keeps fun b o e => (e0.bs b o e).1
  let F : NF := ⟨name, qual, params, body, scope, [("__class__", cc)], cda⟩
  refine codeAny_call_function hr.depth (KX _ _ lk) rfl S.co S.gen rfl (PySem.W.codeRec_of KX hcd) (hb _ _ _ _ ?_)
  refine wpAny_newFunctionEnv S.nocell (fun ⟨n, _⟩ hy => S.par n (List.of_mem_zip hy).1) (fun h₁ hns hsb => ⟨lim.fresh _ hsb, ?_⟩) S.kind
  show codeAny _ _ (.func body (envF F f s.heap.objs.size)) _ _
  refine ks_codeAny_funcAt ?_
  have kp : ∀ b o, s.heap.get? b = some o → h₁.get? b = some o := fun b o e => hsb.extBut b o (Nat.ne_of_lt (Heap.lt_size e)) (Heap.get?_push_of_some _ e)
  have hcc : s.heap.get? cc = some ⟨cl, cld, .cell (some (.ref D)), csl⟩ := KX _ _ hcell
  have hccH : H cc = none := by
    cases e : base.get? cc with
    | none => exact absurd (e0.mod.kin _ _ hcell) (by rw [e]; simp)
    | some o => exact (e0.bs cc o e).2
  have CA : CellsAt F.cl N1 [none] s.heap H := by
    have one : ∀ y c, ([("__class__", cc)] : List (Str × Addr)).lookup y = some c → y = "__class__" ∧ c = cc := fun y c e => by
      by_cases h : y = "__class__"
      · subst h; exact ⟨rfl, (Option.some.inj e).symm⟩
      · have h2 : (y == ("__class__" : Str)) = false := by simpa using h
        simp [List.lookup, h2] at e
    refine ⟨rfl, fun y c e => ?_, fun x y c e1 e2 => (one x c e1).1.trans (one y c e2).1.symm, fun i y e => ?_⟩
    · obtain ⟨_, rfl⟩ := one y c e
      exact ⟨hccH, _, _, hcc, rfl⟩
    · cases i with
      | zero =>
        cases e
        exact ⟨cc, rfl, fun v e => by cases e⟩
      | succ i => cases e
  have I : Inv (ncx CX P w K mg base NN F f A outer s H E) [] (startF NN [.ref a, v] [none]) H { s with heap := h₁, toks := s.toks + (N2.zip us).length } := inv_startN S hr.hd e0 rfl r CA hns kp
  have hfin : ∀ {σ' : L2.St} {H' : Hp} {s' : Shared}, Inv (ncx CX P w K mg base NN F f A outer s H E) [] σ' H' s' → Q .non H' → CE outer P w H s Q .none s' := fun J q => ⟨.non, _, J.os, J.bare, J.base, J.hok, rfl, q⟩
  subst hbody
  revert I
  generalize ({ s with heap := h₁, toks := s.toks + (N2.zip us).length } : Shared) = s1
  intro I1
  have hkc : scope.names.lookup ("__class__" : Str) = some .free := S.frk _ (List.mem_singleton.mpr rfl)
  have hka : scope.names.lookup ("self" : Str) = some .local := S.par _ (by simp)
  have X1 : K.In s1.heap := I1.kIn
  obtain ⟨oD, hD1, hD2⟩ : ∃ oD, s1.heap.get? D = some oD ∧ oD.data = .cls cdD := by
    unfold PySem.W.clsIn at hD
    split at hD
    · rename_i c d cd' sl ho
      cases hD
      exact ⟨_, X1 _ _ ho, rfl⟩
    · cases hD
  obtain ⟨mm, hns1, hl1⟩ := I1.loc
  have hself : mm "self" = some (.ref a) := by
    obtain ⟨u, ru, lo⟩ := hl1 0 "self" (.ref a) rfl rfl (.inl hka)
    obtain rfl : u = Value.ref a := ru
    rcases lo with ⟨_, q⟩ | ⟨q, _⟩
    · exact q
    · rcases q with q | q <;> exact absurd (hka.symm.trans q) (by simp)
  refine PySem.ks_wpAt_execs_cons (PySem.ks_wpAt_Expr_any (PySem.ks_wpAt_MethodCall ?_ (he _)) I1.quiet)
  refine PySem.ks_wpAt_super_base (env := envF F f s.heap.objs.size) hks hkc rfl rfl (X1 _ _ lk) rfl hp rfl (X1 _ _ hcode) rfl hvs hfile htop ?_
  obtain ⟨mb, hmb1, hmb2⟩ := I1.mod.blt
  refine PySem.W.ks_loadName_global S.kind hks (PySem.Calls.loadGlobal_builtin (I1.mod.glob.keeps I1.bk) hsuper (hmb1.keeps I1.bk) ((hmb2 _ (by decide)).trans PyProof.Rows.Boot.«super») ⟨rfl, ?_⟩)
  refine wpAny_loadName_free S.kind hkc rfl ⟨_, X1 _ _ hcell, rfl⟩ ?_
  rw [har]
  refine wpAny_loadName_local S.kind hka hns1 hself ?_
  refine PySem.ks_wpAny_isType_cls hD1 hD2 ⟨rfl, ?_⟩
  obtain ⟨t1, hoa⟩ := exo_at I1.hok ha
  refine PySem.ks_wpAny_call_super hD1 hD2 hoa rfl (fun c e => by cases e) (PySem.W.looks_mroIn X1 U.sub) (fun h2 e2 k2 => ?_)
  have I2 : Inv (ncx CX P w K mg base NN F f A outer s H E) [] (startF NN [.ref a, v] [none]) H ⟨h2, s1.gens, s1.drawn, s1.toks, s1.os⟩ := I1.kept k2
  have X2 : K.In h2 := I2.kIn
  obtain ⟨cdC, hcC, hup⟩ := U.up
  have IA : PySem.W.InstAt h2 a { cls := .ref C, dict := none, data := .fields #[.ref t1, .none, .none, .none, .bool false, .none] } C none := ⟨k2 _ _ hoa, rfl, rfl, trivial⟩
  refine PySem.W.kxs_getMethod PySem.W.kxs_ValueError e2 (PySem.W.looks_opaque X2 hth) ((PySem.W.looks_clsIn X2 hcC).andThen .now) rfl X2 hup (IA.type.andThen (PySem.W.looks_mroIn X2 U.ve)) (PySem.W.ks_ne X2 IA hcC) (by decide) ?_
  obtain ⟨nm, qn, N0, bs, bm, sn, sb, ab, col, dd, k0, k1, k3, k4, k5, hCo, hbm⟩ := U.ox.cls
  have kU : ∀ b o, h2.get? b = some o → (h2.push (PySem.W.kxs_mw "ValueError.__init__" a)).get? b = some o := fun b o e => Heap.get?_push_of_some _ e
  have hu : (h2.push (PySem.W.kxs_mw "ValueError.__init__" a)).get? h2.objs.size = some (PySem.W.kxs_mw "ValueError.__init__" a) := Heap.get?_push_at rfl rfl
  have I3 : Inv (ncx CX P w K mg base NN F f A outer s H E) [] (startF NN [.ref a, v] [none]) H ⟨h2.push (PySem.W.kxs_mw "ValueError.__init__" a), s1.gens, s1.drawn, s1.toks + 1, s1.os⟩ := I2.kept kU
  have I4 : Inv (ncx CX P w K mg base NN F f A outer s H E) [(h2.objs.size, PySem.W.kxs_mw "ValueError.__init__" a)] (startF NN [.ref a, v] [none]) H ⟨h2.push (PySem.W.kxs_mw "ValueError.__init__" a), s1.gens, s1.drawn, s1.toks + 1, s1.os⟩ := I3.pins_of fun p hp => by
    rw [List.mem_singleton.mp hp]
    exact ⟨hu, I2.hok.fresh (Nat.le_refl _), Nat.ne_of_gt I2.lt, I2.nofs (Nat.le_refl _), fun v e => by cases e⟩
  refine PySem.W.kxs_callWith (i := "ValueError.__init__") (x := a) rfl ?_
  have ra := (pa_cons (X := ncx CX P w K mg base NN F f A outer s H E) (pe_var (i := 1) (x := "value") (pos := q3) rfl (.inl (S.par _ (by simp)))) pa_nil).run q4 _ _ _ H (fun vs' H' => vs' = [v] ∧ H' = H) I4 ⟨v, rfl, rfl, rfl⟩
  refine PySem.Calls.evalArgs_plain (wpAny_mono ra (fun us2 s3 h3 => ?_) fun _ _ z => z)
  obtain ⟨vs3, H3, I5, r5, e5, e6⟩ := h3
  rw [e6] at I5
  have hu3 : s3.heap.get? h2.objs.size = some (PySem.W.kxs_mw "ValueError.__init__" a) := (I5.pin (h2.objs.size, PySem.W.kxs_mw "ValueError.__init__" a) (List.mem_append_right _ (List.mem_singleton.mpr rfl))).1
  refine ⟨hu3, ?_⟩
  have I6 : Inv (ncx CX P w K mg base NN F f A outer s H E) [] (startF NN [.ref a, v] [none]) H s3 := I5.pins_of fun p hp => absurd hp (by simp)
  have X6 : K.In s3.heap := I6.kIn
  obtain ⟨t3, ho3⟩ := exo_at I6.hok ha
  have hus : us2.length ≤ sizeLine := by
    rw [← Paired.length r5, e5, sizeLine_eq]
    show 1 ≤ 16777216
    decide
  obtain ⟨hp3, g3, d3, tk3, os3⟩ := s3
  refine wpAny_call (codeAny_of_tree ?_)
  show wpAny _ _ (callAny (.ref h2.objs.size) ⟨us2, []⟩) _ _ _
  unfold callAny
  refine wpAny_bind (wpAny_load hu3 ?_)
  have tm : (Value.type "method-wrapper" == Value.type "method" || Value.type "method-wrapper" == Value.type "builtin_function_or_method" || Value.type "method-wrapper" == Value.type "method-wrapper") = true := by decide
  simp only [PySem.W.kxs_mw, tm, if_true]
  refine PySem.W.KFB.if_so (by decide) ?_
  refine wpAny_bind (PySem.W.check_bound_init PySem.F.excBase_ValueError.toExcCallFacts (X6 _ _ hCo) ho3 rfl ?_)
  refine wpAny_bind (wpAny_pure (wpAny_pure ?_))
  refine ⟨plainId_quiet PySem.F.excBase_ValueError.init.plain _, codeAny_builtin PySem.F.excBase_ValueError.initEntry ?_⟩
  refine PySem.W.exc_init_tree (cls := .ref C) (t0 := t3) (dv := none) (c2 := .none) (c3 := .none) (b4 := .bool false) ho3 hus fun h7 k7 hx7 _ => ?_
  have I7 := I6.write (t' := tk3) (x := a) (e := a) (o := exo a C none) (by rw [ha]; exact True.intro) (.inl rfl) k7 ⟨_, hx7⟩ (exo_ok hx7)
  have eu : upd H a (exo a C none) = H := funext fun b => by
    by_cases z : b = a
    · rw [z, upd_same, ha]
    · rw [upd_ne z]
  rw [eu] at I7
  -- self.value = value
  have r9 := (ps_ost (X := ncx CX P w K mg base NN F f A outer s H E) (f := "value") (p' := q7) (pos := q9) (pe_var (i := 0) (x := "self") (pos := q6) rfl (.inl hka)) (pe_var (i := 1) (x := "value") (pos := q8) rfl (.inl (S.par _ (by simp))))).run [] _ _ H ⟨fun _ H' => Q .non H', fun _ _ => False, fun _ _ => False, fun _ _ => False⟩ I7
    ⟨v, rfl, .ref a, rfl, a, C, rfl, U.ox, U.no, .inl ⟨ha, fun dx n ne => hq dx n ne⟩⟩
  refine PySem.ks_wpAt_execs_cons (wpAt_of_wpAny (wpAny_mono r9 (fun fl s9 h9 => ?_) fun _ _ z => z))
  cases fl with
  | ret u => obtain ⟨_, _, _, _, _, z⟩ := h9; exact z.elim
  | brk => obtain ⟨_, _, _, z⟩ := h9; exact z.elim
  | cont => obtain ⟨_, _, _, z⟩ := h9; exact z.elim
  | next =>
    obtain ⟨σ9, H9, I9, q9'⟩ := h9
    refine wpAt_of_wpAny ?_
    show wpAny _ _ (execs [] _) _ _ _
    rw [execs_nil]
    exact wpAny_pure (hfin I9 q9')
end Xc
/-! ### try: body / except X as n: m = n -- the error stays at m -/
namespace Xc
open PySem PySem.Spec PyProof.Rows L2
/-- an error of the class at C, with its own dict at d -/
theorem exv_ok {P : Program} {w : World} {H : Hp} {h : Heap} {C a d : Addr} {o : Obj} {vs : Array Value} (he : h.get? a = some o) (h1 : o.cls = .ref C) (h2 : o.dict = some d) (h3 : o.data = .fields vs) : ObjOk P w H h a (Ev.ExV C a d) :=
  ⟨⟨o, vs, he, h1, h2, h3⟩, ⟨o, he⟩, fun g1 g2 ⟨o', vs', z, y⟩ k => ⟨o', vs', k _ z, y⟩⟩
theorem exv_own {C a d x : Addr} : Ev.ExV C a d ≠ .own x := fun z => by have z' : HO.ext _ = HO.own x := z; cases z'
section
variable {X : Cx} {pins : List (Addr × Obj)} {σ : L2.St} {H : Hp} {s : Shared}
/-- the error that a clause caught, told of from now on -/
theorem caught_in {a C d : Addr} {o : Obj} {vs : Array Value} (I : Inv X pins σ H s) (he : s.heap.get? a = some o) (h1 : o.cls = .ref C) (h2 : o.dict = some d) (h3 : o.data = .fields vs) (na : H a = none) (nL : a ≠ X.env.locals) (n0 : X.s_0.heap.get? a = none) (np : ∀ p ∈ X.pn ++ pins, p.1 ≠ a) :
    Inv X pins σ (upd H a (Ev.ExV C a d)) s where
  ok := I.ok
  os := I.os
  bare := I.bare
  base := {
    keep := I.base.keep
    slot := I.base.slot
    free := fun b u q n hx => by
      rw [upd_ne (fun z => by rw [z, n0] at q; cases q)]
      exact I.base.free b u q n hx
    there := I.base.there
    tups := fun b xs q => by
      have := I.base.tups b xs q
      rw [upd_ne (fun z => by rw [z, na] at this; cases this)]; exact this
    frzs := fun b u v q => by
      have := I.base.frzs b u v q
      rw [upd_ne (fun z => by rw [z, na] at this; cases this)]; exact this
    tbls := fun b ps q => by
      obtain ⟨ps', y⟩ := I.base.tbls b ps q
      exact ⟨ps', by rw [upd_ne (fun z => by rw [z, na] at y; cases y)]; exact y⟩ }
  loc := I.loc
  cell := I.cell
  free := by rw [upd_ne (Ne.symm nL)]; exact I.free
  freeC := fun x c e => by
    obtain ⟨v, o', z1, z2⟩ := I.cell x c e
    rw [upd_ne (fun z => by rw [z, he] at z1; cases z1; rw [h3] at z2; cases z2)]
    exact I.freeC x c e
  pin := fun p hp => by
    obtain ⟨g1, g2, g3⟩ := I.pin p hp
    exact ⟨g1, by rw [upd_ne (np p hp)]; exact g2, g3⟩
  hok := fun b u q => by
    by_cases z : b = a
    · subst z
      rw [upd_same] at q
      cases q
      exact exv_ok he h1 h2 h3
    · rw [upd_ne z] at q
      exact (I.hok b u q).stay (fun _ _ _ y => y) (fun c y => by rw [upd_ne (fun e => by rw [e, na] at y; cases y)]; exact y) (fun c xs y => by rw [upd_ne (fun e => by rw [e, na] at y; cases y)]; exact y)
  len := I.len
end
/-- what the clause wishes: slot i is n's, slot j is m's -/
def wKeep (K : PySem.W.Frag) (c : Value) (i j : Nat) (Wout : WX) (D : Ends) : WX := fun cls d σ H =>
  ∃ b, PySem.W.exmOne K cls c = some b ∧ (b = true → ∀ a, H a = none → ∃ C dx, cls = .ref C ∧ d = some dx ∧ D.nx (((σ.set i (some (.ref a))).set j (some (.ref a))).set i none) (upd H a (Ev.ExV C a dx))) ∧ (b = false → Wout cls d σ H)
theorem ps_try_keep {X : Cx} {x n m : Str} {c : Value} {i j : Nat} {body : List Stmt} {np pos pos' pm pv pa : Pos} {tb : WX → TS} {Wout : WX} (hex : X.ex = []) (hs : X.stack = X.env :: X.outer) (hf : X.env.frame = some X.env.locals) (hN : X.N.Nodup) (hi : X.N[i]? = some n) (hj : X.N[j]? = some m) (hij : i ≠ j) (hln : X.env.kindOf n = some .local) (hlm : X.env.kindOf m = some .local)
    (hdn : (n == ("__debug__" : Str)) = false) (hcn : (n == ("__classdict__" : Str)) = false) (hc : Names X x c) (tk : Takes X Wout)
    (hb : ∀ (W : WX) (pn : List (Addr × Obj)) (xe : Value → Shared → Prop), Takes (X.tr pn xe) W → PassesOwn (model X.prog X.w) X.A X.env xe → PSs (X.tr pn xe) body (tb W)) (hsw : ∀ env : Env, swapsWith (.Name n pv) (some (.Name m pm)) pa.line env = pure false) :
    PS X (.Try body [.ExceptHandler (some (.Name x np)) (some n) [.Assign [.Name m pm] (.Name n pv) pa] pos'] [] [] pos) (fun D σ H => tb (wKeep X.K c i j Wout D) D σ H) := by
  refine ⟨fun pins s σ H D I h => ?_⟩
  have ok := I.ok
  have hfr : X.A.frames = some (X.env :: X.outer) := by rw [ok.frames, hs]
  refine wpAny_Try_except (wpAny_mono ((hb (wKeep X.K c i j Wout D) (X.pn ++ pins) (fun e s₁ => wpAny (model X.prog X.w) X.A (noteFrame e X.env) (fun _ s₂ => wpAny (model X.prog X.w) X.A (setFlight e none) (fun _ s₃ => wpAny (model X.prog X.w) X.A (handleBy e X.env [.ExceptHandler (some (.Name x np)) (some n) [.Assign [.Name m pm] (.Name n pv) pa] pos']) (SP X pins D) X.xe s₃) X.xe s₂) X.xe s₁) (fun u s' xx => ?_) PassesOwn.looking).run [] s σ H D (I.toTry _) h) (fun f s1 hsp => ?_) (fun e s1 he => he))
  · obtain ⟨a, B, sI, pins', σ', H', cls, d, rfl, J', nb, up, sky, na, os, ag, b, hb1, hyes, hno⟩ := xx
    have J : Inv X pins σ' H' sI := J'.ofTry ok
    have sky' : Sky B (X.env :: X.outer) a (Zc cls d) X.env.locals s'.heap := by rw [← hs]; exact sky
    show wpAny (model X.prog X.w) X.A (noteFrame (.ref a) X.env) _ _ _
    refine Sky.land Zc.steady hfr hf sky' fun h3 fl3 up3 => ?_
    have J3 : Inv X pins σ' H' { s' with heap := h3 } := J.landed nb fl3.1 (up.trans up3) os ag
    obtain ⟨oe3, vs3, he3, hz3, hd3⟩ := fl3.there
    have nfr : a ∉ frs (X.env :: X.outer) := fun hm => by
      obtain ⟨_, o', e', hnf⟩ := fl3.2.2.1.mem hm
      rw [he3] at e'; cases e'
      exact hnf _ hd3
    have nL : a ≠ X.env.locals := fun z => nfr (List.mem_filterMap.mpr ⟨X.env, List.mem_cons_self, by rw [hf, z]⟩)
    have nF : a ∉ X.fs := fun hm => by
      obtain ⟨e, he, q⟩ := List.mem_filterMap.mp hm
      exact nfr (List.mem_filterMap.mpr ⟨e, List.mem_cons_of_mem _ he, q⟩)
    have nB : B.get? a = none := fl3.2.1
    have nS : a ∉ frs X.stack := by rw [hs]; exact nfr
    have nI : sI.heap.get? a = none := by
      cases q : sI.heap.get? a with
      | none => rfl
      | some o => have := nb a o q nS; rw [nB] at this; cases this
    have n0 : X.s_0.heap.get? a = none := by
      cases q : X.s_0.heap.get? a with
      | none => rfl
      | some o =>
        obtain ⟨o', y⟩ := J.base.there a o q (by rw [hex]; simp)
        rw [nI] at y; cases y
    have npn : ∀ p ∈ X.pn ++ pins, p.1 ≠ a := fun p hp z => by
      have := (J.pin p hp).1
      rw [z, nI] at this; cases this
    have S3 := J3.suite he3 hd3 na nL nF
    refine wpAny_handleBy_cons (codeAny_handlers_test ?_) (by intro q; cases q)
    have LT : PySem.W.Looks (model X.prog X.w) h3 (typeOf (.ref a)) cls := fun A Q E s k q => wpAny_typeOf_ref (k _ _ he3) (by rw [hz3.1]; exact q)
    have LM := PySem.W.exm_one (M := model X.prog X.w) (J3.kIn) LT hb1
    have ask : ∀ {Q : Value → Shared → Prop} {E : Value → Shared → Prop}, Q c { s' with heap := h3 } → wpAny (model X.prog X.w) (X.A.mark (some (.ref a))) (eval (.Name x np) X.env) Q E { s' with heap := h3 } := fun {Q E} q => by
      obtain ⟨hg, hdbg, hm | ⟨hm, hv, hnn⟩⟩ := hc
      · exact ld_glob (X := X.suite a ((a, oe3) :: (X.pn ++ pins))) S3 hg hm q hdbg
      · exact ld_blt (X := X.suite a ((a, oe3) :: (X.pn ++ pins))) S3 hg hm hv q hnn hdbg
    refine ask (LM.here ?_)
    cases b with
    | true =>
      refine codeAny_handlers_suite_as (HandSPX.lands_againZ fl3 fun h4 fl4 up4 => ?_)
      have J4 : Inv X pins σ' H' { s' with heap := h4 } := J.landed nb fl4.1 ((up.trans up3).trans up4) os ag
      obtain ⟨oe4, vs4, he4, hz4, hd4⟩ := fl4.there
      obtain ⟨C, dx, rfl, rfl, qn⟩ := hyes rfl a na
      have S4 := J4.suite he4 hd4 na nL nF
      refine store_ok (X := X.suite a ((a, oe4) :: (X.pn ++ pins))) (v := .ref a) S4 hN hi (.inl hln) rfl (fun s5 S5 => ?_) (.inr hln)
      have il : i < σ'.length := by
        rw [J4.len]
        exact (List.getElem?_eq_some_iff.mp hi).1
      have rs := (ps_set (X := X.suite a ((a, oe4) :: (X.pn ++ pins))) (i := j) (x := m) (pos' := pm) (pos := pa) hN hj (.inl hlm) (pe_var (X := X.suite a ((a, oe4) :: (X.pn ++ pins))) (i := i) (x := n) (pos := pv) hi (.inl hln) hdn hcn) (hsw _) (.inr hlm)).run [] s5 _ H' ⟨fun σ9 H9 => σ9 = (σ'.set i (some (.ref a))).set j (some (.ref a)) ∧ H9 = H', fun _ _ => False, fun _ _ => False, fun _ _ => False⟩ S5 ⟨.ref a, List.getElem?_set_self il, rfl, rfl⟩
      refine wpAny_execs_cons (wpAny_mono rs (fun f s6 hsp => ?_) fun _ _ z => False.elim z)
      cases f with
      | brk => obtain ⟨_, _, _, z⟩ := hsp; exact z.elim
      | cont => obtain ⟨_, _, _, z⟩ := hsp; exact z.elim
      | ret u => obtain ⟨_, _, _, _, _, z⟩ := hsp; exact z.elim
      | next =>
        obtain ⟨σ6, H6, S6, e1, e2⟩ := hsp
        rw [e1, e2] at S6
        refine wpAny_execs_nil ?_
        show wpAny _ _ (do bindName X.env n .none; unbindBehindTheSuite X.env n pos') _ _ _
        refine gone_ok (X := X.suite a ((a, oe4) :: (X.pn ++ pins))) S6 hN hi hln fun s7 S7 => ?_
        have he7 : s7.heap.get? a = some oe4 := (S7.pin (a, oe4) (by rw [List.append_nil]; exact List.mem_cons_self)).1
        exact ⟨_, _, caught_in (S7.unsuite ok) he7 hz4.1 hz4.2 hd4 na nL n0 npn, qn⟩
    | false =>
      show wpAny _ X.A (handleBy (.ref a) X.env []) _ _ _
      refine wpAny_handleBy_nil ?_
      obtain ⟨k1, k2, k3, oe, vs, T, oT, ts', he, hz, hd, h1, hr⟩ := id fl3
      unfold PySem.passOn
      refine wpAny_bind (wpAny_field he hd h1 ?_)
      rw [if_neg (show ¬ ((Value.ref T == Value.none) = true) from by simp)]
      have fin : wpAny (model X.prog X.w) X.A (setFlight (.ref a) X.env.frame) (fun _ s4 => wpAny (model X.prog X.w) X.A (throw (.ref a) : Sem Flow) (SP X pins D) X.xe s4) X.xe { s' with heap := h3 } := by
        rw [hf]
        exact HandSPX.setFlight_upZ fl3 fun h4 hh4 up4 => wpAny_throw (tk _ _ ⟨a, B, sI, pins, σ', H', cls, d, rfl, J, nb, (up.trans up3).trans up4, .inr (.inr (by rw [hs]; exact hh4)), na, os, ag, hno rfl⟩)
      first | exact wpAny_bind (wpAny_pure (wpAny_bind fin)) | exact wpAny_bind fin
  · cases f with
    | next =>
      obtain ⟨σ', H', J', q⟩ := hsp
      exact wpAny_execs_nil ⟨σ', H', J'.ofTry ok, q⟩
    | brk => obtain ⟨σ', H', J', q⟩ := hsp; exact ⟨σ', H', J'.ofTry ok, q⟩
    | cont => obtain ⟨σ', H', J', q⟩ := hsp; exact ⟨σ', H', J'.ofTry ok, q⟩
    | ret u => obtain ⟨v, σ', H', J', r, q⟩ := hsp; exact ⟨v, σ', H', J'.ofTry ok, r, q⟩
end Xc
/-! ### an error that is held: isinstance, its value -/
namespace Xc
open PySem PySem.Spec PyProof.Rows L2
structure ErrC (K : PySem.W.Frag) (C : Addr) : Prop where
  cl : (PySem.W.clsIn K C).isSome = true
  ga : PySem.W.findIn K (.ref C) "__getattribute__" = some (some (.builtin "BaseException.__getattribute__"))
  gg : PySem.W.findIn K (.ref C) "__getattr__" = some none
  be : PySem.W.subIn K (.ref C) (.type "BaseException") = some true
  hd : PySem.W.hasDictIn K C = true
  ca : PySem.W.findIn K (.ref C) "__class__" = some (some (.builtin "object.__class__"))
  sg : PySem.W.specialIn K (.builtin "object.__class__") "__get__" = some (some (.builtin "getset_descriptor.__get__"))
  tk : PySem.W.takesIn K (.builtin "object.__class__") = some true
  ob : PySem.W.mroIn K C (.type "object") = some true
  no : PySem.W.findIn K (.ref C) "value" = some none
theorem exv_at {P : Program} {w : World} {H : Hp} {h : Heap} {C a d : Addr} (hok : HOk P w H h) (e : H a = some (Ev.ExV C a d)) : ∃ o vs, h.get? a = some o ∧ o.cls = .ref C ∧ o.dict = some d ∧ o.data = .fields vs := by
  have x : ObjOk P w H h a (.ext fun h => ∃ o vs, h.get? a = some o ∧ o.cls = .ref C ∧ o.dict = some d ∧ o.data = .fields vs) := hok a _ e
  exact x.1
section
variable {X : Cx} {pins : List (Addr × Obj)} {σ : L2.St} {H : Hp} {s : Shared}
theorem inst_of {a C d : Addr} {fs : List (Str × V)} (I : Inv X pins σ H s) (e : H a = some (Ev.ExV C a d)) (ed : H d = some (.xd fs)) : ∃ (oe od : Obj) (mA : Str → Option Value), PySem.W.InstAt s.heap a oe C (some od) ∧ (∀ f, RelO (fs.lookup f) (mA f)) ∧ ∀ f, PySem.W.lookIn f od = some (mA f) := by
  obtain ⟨o, vs, h1, h2, h3, h4⟩ := exv_at I.hok e
  have hx : ObjOk X.prog X.w H s.heap d (.xd fs) := I.hok d _ ed
  obtain ⟨mA, hns, hr⟩ := hx
  obtain ⟨od, ho, hl⟩ := lookIn_ns hns
  exact ⟨o, od, mA, ⟨h1, h2, by unfold PySem.W.notCls; rw [h4] <;> rfl, by rw [h3]; exact ho⟩, hr, hl⟩
def rIsX (K : PySem.W.Frag) : List V → Hp → VK → Prop := fun xs H Q => ∃ (a C d : Addr) (fs : List (Str × V)) (c : V) (cv : Value) (b : Bool), xs = [.ref a, c] ∧ ErrC K C ∧ H a = some (Ev.ExV C a d) ∧ H d = some (.xd fs) ∧ (∀ u, RelV c u → u = cv) ∧ PySem.W.kitOne K (.ref C) cv = some b ∧ Q (.bl b) H
theorem call_isX : CallR X (.builtin "isinstance") (rIsX X.K) := by
  intro pins s σ H xs us Q I r h
  obtain ⟨a, C, d, fs, c, cv, b, rfl, T, ea, ed, hcv, ek, q⟩ := h
  cases r with
  | cons rx rr =>
    cases rr with
    | cons rt rr =>
      cases rr
      cases rx
      have ec := hcv _ rt
      subst ec
      obtain ⟨oe, od, mA, J, _, _⟩ := inst_of I ea ed
      exact PySem.W.kia_one (PySem.W.kitx_exc T.cl T.ga T.gg T.be T.ca T.sg T.tk T.ob) I.kIn J ek (fun z => nomatch z) fun tk => ⟨.bl b, H, I.kept (t' := tk) fun _ _ z => z, rfl, q⟩
/-- e.value -/
def tXv (K : PySem.W.Frag) (te : TE) : TE := fun σ H Q => te σ H fun x H1 => ∃ (a C d : Addr) (v : V), x = .ref a ∧ ErrC K C ∧ H1 a = some (Ev.ExV C a d) ∧ H1 d = some (.xd [("value", v)]) ∧ Q v H1
theorem pe_xv {e : Expr} {te : TE} {pos : Pos} (he : PE X e te) (hb : attributeBase e "value" X.env (eval e X.env) = eval e X.env := by rfl) : PE X (.Attribute e "value" pos) (tXv X.K te) := by
  refine ⟨fun pins s σ H Q I h => attr_of hb (thn (he.run pins s σ H _ I h) fun u s1 hh => ?_)⟩
  obtain ⟨x, H1, I1, rx, a, C, d, v, ex, T, ea, ed, q⟩ := hh
  subst ex
  obtain rfl : u = Value.ref a := rx
  obtain ⟨oe, od, mA, J, hr, hl⟩ := inst_of I1 ea ed
  obtain ⟨u, hu, ru⟩ := RelO.some_of (v := v) (o := mA "value") (hr "value")
  exact HandSPX.exc_get I1.kIn J T.ga T.gg T.be (PySem.W.findObj_own T.hd T.no rfl (by rw [hl, hu])) (handed_of ru) ⟨v, H1, I1.tok _, ru, q⟩
end
end Xc
/-! A def's promise where no repr is under way around it (repr of nested things needs that). -/
namespace Ev
open PySem PySem.Spec PyProof.Rows L2
structure FnG (P : Program) (w : World) (K : PySem.W.Frag) (mg : Str → Option Value) (base : Heap) (CX : CXT) (k : Nat) (f : Addr) (fd : FuncData) (ps : List Str) (sp : Sp) : Prop where
  len : ∀ vs H Q E, sp vs H Q E → vs.length = ps.length
  run : ∀ (A : Around) (outer : List PySem.Env) (s : Shared) (H : Hp) (args : Args) (us : List Value) (vs : List V) (Q : VK) (E : XK), A.guards = some [] → Room k A → Env0 P w K mg base A outer s H → BindsTo s fd args (ps.zip us) → Vals vs us → sp vs H Q E →
    codeAny (model P w) A (.call (.ref f) args) (CR CX outer P w H s Q E) s
section
variable {P : Program} {w : World} {K : PySem.W.Frag} {mg : Str → Option Value} {base : Heap} {x qual : Str} {params : Arguments} {body : List Stmt} {scope : Scope} {dvs : List V} {kws : List (Str × V)} {f : Addr} {fd : FuncData}
theorem fnG_of {CX : CXT} {N ps : List Str} {k : Nat} {sp : Sp} (F : FunD K x qual params body scope dvs kws f fd) (S : FnScope N ps scope) (len : ∀ vs H Q E, sp vs H Q E → vs.length = ps.length)
    (hbody : ∀ (cdv : Value) (A : Around) (outer : List PySem.Env) (s : Shared) (H : Hp) (vs : List V) (Q : VK) (E : XK), A.guards = some [] → Room k (A.deeper (envOfC qual scope s.heap.objs.size f cdv)) → sp vs H Q E →
      ∃ t, PSs (cxOf CX P w K mg base N qual scope f cdv A outer s H E) body t ∧ t { nx := fun _ H' => Q .non H', rt := Q } (L2.start N vs) H) : FnG P w K mg base CX (k + 1) f fd ps sp := by
  obtain ⟨oc, od, dV, kV, doc, pm, an, cdv, ct, osl, rfl, lk, hcd, _, _⟩ := F.ex
  refine ⟨len, fun A outer s H args us vs Q E hg hr e0 hb r hsp => ?_⟩
  have KX : K.In s.heap := e0.mod.kin.keeps fun b o e => (e0.bs b o e).1
  have lim : s.heap.NoLimit := e0.mod.nolimit.keeps fun b o e => (e0.bs b o e).1
  have hkind : ∀ y ∈ ps.zip us, scope.names.lookup y.1 = some .local ∨ (scope.names.lookup y.1 = some .cell ∧ ((cellsFrom (s.heap.objs.size + 1) scope.names []).lookup y.1).isSome = true) := fun y hy => by
    rcases S.par y.1 (List.of_mem_zip (show (y.1, y.2) ∈ ps.zip us from hy)).1 with q | q
    · exact .inl q
    · exact .inr ⟨q, PySem.W.cellsFrom_some _ _ _ (.inl q)⟩
  refine codeAny_call_function hr.depth (KX _ _ lk) rfl S.co S.gen rfl (PySem.W.codeRec_of KX hcd) (hb _ _ _ _ ?_)
  refine wpAny_newFunctionEnv_cells S.kind hkind fun env he s1 z => ?_
  subst he
  refine ⟨lim.keeps z.toInCall.keep, codeAny_func ?_⟩
  obtain ⟨t, ht, hq⟩ := hbody cdv A outer s H vs Q E hg (hr.deeper _) hsp
  have I : Inv (cxOf CX P w K mg base N qual scope f cdv A outer s H E) [] (L2.start N vs) H s1 := inv_start S hr.hd e0 (len _ _ _ _ hsp) r z
  refine wpAny_mono (ht.run [] s1 (L2.start N vs) H _ I hq) (fun fl s' hs => ?_) fun e s' hs => hs
  have fin : ∀ {σ' : L2.St} {H' : Hp} {v : V} {u : Value}, Inv (cxOf CX P w K mg base N qual scope f cdv A outer s H E) [] σ' H' s' → RelV v u → Q v H' → CE outer P w H s Q u s' :=
    fun {σ' H' v u} J rv q => ⟨v, H', J.os, J.bare, J.base, J.hok, rv, q⟩
  cases fl with
  | ret u => obtain ⟨v, σ', H', J, rv, q⟩ := hs; exact fin J rv q
  | next => obtain ⟨σ', H', J, q⟩ := hs; exact fin (v := V.non) (u := Value.none) J rfl q
  | brk => obtain ⟨_, _, _, q⟩ := hs; exact False.elim q
  | cont => obtain ⟨_, _, _, q⟩ := hs; exact False.elim q
end
/-- the law's own call: the abstract heap may know the script alone -/
theorem law_callG {P : Program} {w : World} {K : PySem.W.Frag} {mg mb : Str → Option Value} {CX : CXT} {k : Nat} {fa a : Addr} {fd : FuncData} {x : Str} {sp : Sp} {s₁ : Shared} {vs : List Value} {ns : List Int}
    (KX : K.In s₁.heap) (hns : s₁.heap.Ns mainGlobals mg) (hb : s₁.heap.Ns builtinsNs mb) (hbb : ∀ x : Str, x ≠ "__name__" → mb x = bootBuiltins x) (hlim : s₁.heap.NoLimit) (hg : s₁.gens = #[])
    (ha : s₁.heap.get? a = some { cls := .type "list", data := .seq vs.toArray }) (hi : IntsAre vs ns) (hl : ns.length ≤ sizeLine) (hr : Room k callerA)
    (F : ∀ base : Heap, K.In base → base.Ns mainGlobals mg → FnG P w K mg base CX k fa fd [x] sp) (hbind : ∀ (s : Shared) (u : Value), BindsTo s fd ⟨[u], []⟩ [(x, u)])
    (hsp : ∀ H : Hp, Only H → SqL K H a (ns.map V.int) → sp [.ref a] H (fun v _ => v = .bl true) fun _ _ _ => False)
    (hCX : ∀ H e s', CX [] H s₁ (fun _ _ _ => False) e s' → False) :
    codeAny (model P w) callerA (.call (.ref fa) ⟨[.ref a], []⟩) (fun r s' => r = .ok (.ret (.bool true)) ∧ OldK s₁.heap s'.heap ∧ s'.os = s₁.os ∧ AllBare s'.gens) s₁ := by
  have rv := vals_ints hi
  have lenV := hi.length
  have core : ∀ H : Hp, Only H → SqL K H a (ns.map V.int) → HOk P w H s₁.heap → (∀ b, H b ≠ none → b = a) → (H a ≠ none → K.lookup a = none) →
      codeAny (model P w) callerA (.call (.ref fa) ⟨[.ref a], []⟩) (fun r s' => r = .ok (.ret (.bool true)) ∧ OldK s₁.heap s'.heap ∧ s'.os = s₁.os ∧ AllBare s'.gens) s₁ := by
    intro H hO hS hok hA hK
    have at_a : ∀ {b : Addr}, H b ≠ none → b = a := fun {b} h => hA b h
    have noA : ∀ {b : Addr} {o : Obj} {es : Array DictEntry} {ep : Nat}, s₁.heap.get? b = some o → o.data = .dict es ep → H b = none := fun {b o es ep} e d => by
      refine Classical.byContradiction fun n => ?_
      obtain rfl := at_a n
      rw [ha] at e
      cases e
      have d' : Data.seq vs.toArray _ = Data.dict es ep := d
      cases d'
    have nsK : ∀ {b : Addr} {m : Str → Option Value}, s₁.heap.Ns b m → (hidT s₁.heap H).Ns b m := fun {b m} ⟨o, es, ep, e, d, r⟩ => ⟨o, es, ep, hidT_get e (noA e d), d, r⟩
    have hKb : K.In (hidT s₁.heap H) := fun b o e => hidT_get (KX b o e) (by
      refine Classical.byContradiction fun n => ?_
      obtain rfl := at_a n
      rw [hK n] at e; cases e)
    have hM : Mod K mg (hidT s₁.heap H) := ⟨hKb, nsK hns, ⟨mb, nsK hb, hbb⟩, let ⟨mc, h1, h2⟩ := hlim; ⟨mc, nsK h1, h2⟩⟩
    have e0 : Env0 P w K mg (hidT s₁.heap H) callerA [] s₁ H := ⟨rfl, hM, fun b o e => of_hidT e, Nat.le_of_eq (hidT_size _ _), trivial, fun b hb => absurd (show b ∈ ([] : List Addr) from hb) (by simp), hok, .of_eq hg⟩
    refine codeAny_mono ((F _ hKb (nsK hns)).run callerA [] s₁ H ⟨[.ref a], []⟩ [.ref a] [.ref a] _ _ rfl hr e0 (hbind s₁ (.ref a)) (.cons rfl .nil) (hsp H hO hS)) fun r s' h => ?_
    cases r with
    | error e => exact (hCX H e s' h).elim
    | ok fl =>
      cases fl with
      | next => exact False.elim h
      | brk => exact False.elim h
      | cont => exact False.elim h
      | ret u =>
        obtain ⟨v, H', os, bare, un, hok', r', q⟩ := h
        have q' : v = .bl true := q
        subst q'
        obtain rfl : u = Value.bool true := r'
        refine ⟨rfl, OldK.of_keep fun b o e => ?_, os, bare⟩
        cases q : H b with
        | none => exact un.keep b o e q (by intro z; exact absurd (show b ∈ ([] : List Addr) from z) (by simp)) (by simp)
        | some u =>
          rcases hO b with z | ⟨ob, xs, z⟩
          · rw [q] at z; cases z
          · have z2 := un.frzs b ob _ z
            obtain ⟨e1, _⟩ := hok b _ z
            obtain ⟨e2, _⟩ := hok' b _ z2
            rw [e] at e1; cases e1
            exact e2
  cases hk : K.lookup a with
  | some o =>
    have e := KX a o hk
    rw [ha] at e
    cases e
    refine core (fun _ => none) (fun _ => .inl rfl) (.inr ⟨_, vs.toArray, _, hk, rfl, rfl, rfl, by rw [List.size_toArray, lenV]; exact hl, by simpa using rv⟩) (fun b u z => by have z' : (none : Option HO) = some u := z; cases z') (fun b z => absurd rfl z) fun z => absurd rfl z
  | none =>
    refine core (fun b => if b = a then some (.frz { cls := .type "list", data := .seq vs.toArray } (.lst (ns.map V.int))) else none) (fun b => ?_) (.inl (.inr ⟨{ cls := .type "list", data := .seq vs.toArray }, if_pos rfl⟩)) (fun b u z => ?_) (fun b z => ?_) fun _ => hk
    · by_cases hb : b = a
      · exact .inr ⟨_, _, if_pos hb⟩
      · exact .inl (if_neg hb)
    · by_cases hb : b = a
      · have z' := (if_pos hb).symm.trans z
        cases z'
        subst hb
        exact ⟨ha, by rw [List.length_map]; exact hl, vs, _, rv, ha⟩
      · have z' := (if_neg hb).symm.trans z
        cases z'
    · by_cases hb : b = a
      · exact hb
      · exact absurd (if_neg hb) z
/-- a law's end over a head by facts -/
theorem walk_ofG {l : PySem.W.OpenLaw} {n k : Nat} {q : Program} {loose : List Str} {XP : (Str → Option Value) → Heap → Prop} {YP : World → Heap → Prop} {d : DefRec} {CX : CXT} {x : Str}
    (hn : l.most = some n) (hn2 : n ≤ sizeLine) (hdf : d.params.defaults = []) (hr : Room k callerA)
    (F : ∀ (w : World) (mg : Str → Option Value) (fa : Addr) (h : Heap), YP w h → h.Ns mainGlobals mg → mg d.name = some (.ref fa) →
      ∃ (K : PySem.W.Frag) (fd : FuncData) (sp : Sp), K.In h ∧ (∀ (s : Shared) (u : Value), BindsTo s fd ⟨[u], []⟩ [(x, u)]) ∧
        (∀ (H : Hp) (a : Addr) (ns : List Int), ns.length ≤ n → Only H → SqL K H a (ns.map V.int) → sp [.ref a] H (fun v _ => v = .bl true) fun _ _ _ => False) ∧
        ∀ base : Heap, K.In base → base.Ns mainGlobals mg → FnG l.prog w K mg base CX k fa fd [x] sp)
    (hCX : ∀ (H : Hp) (s : Shared) (e : Value) (s' : Shared), CX [] H s (fun _ _ _ => False) e s' → False) :
    PySem.W.WalkO q loose XP YP l.row.toRowW d [] (fun f vs => PySem.call f vs) := by
  refine Att.attach_call hn hdf fun w s₀ s₁ mg mb fa o pm cd doc a vs ns G Y ho hd hcd hmg hobj hints hlen hg => ?_
  obtain ⟨K, fd, sp, KX, hb, hsp, hF⟩ := F w mg fa _ Y G.T.g hmg
  exact law_callG KX G.T.g G.T.b G.T.builtins G.T.nolimit hg hobj hints (Nat.le_trans hlen hn2) hr hF hb (fun H hO hS => hsp H a ns hlen hO hS) fun H e s' => hCX H s₁ e s'
end Ev
/-! repr of data that is told of without addresses. -/
namespace Ev
open PySem PySem.Spec PyProof.Rows L2
/-! ### the texts -/
theorem tl_intText (i : Int) : TL.tl (Str.ofString (toString i)) = intL i := by
  cases i with
  | ofNat n =>
    have h : ¬ ((Int.ofNat n) < 0) := by simp
    unfold intL
    rw [if_neg h]
    exact TL.tl_num n
  | negSucc n =>
    unfold intL
    rw [if_pos (Int.negSucc_lt_zero n)]
    have e : toString (Int.negSucc n) = "-" ++ toString (((n + 1 : Nat) : Int)) := rfl
    rw [e, TL.tl_ofString, String.toList_append, List.map_append, ← TL.tl_ofString, ← TL.tl_ofString, TL.tl_num]
    rfl
theorem foldl_app {α : Type} (f : α → List Nat) : ∀ (l : List α) (acc : Array Nat), (l.foldl (fun out c => out ++ (f c).toArray) acc).toList = acc.toList ++ l.flatMap f
  | [], acc => by simp
  | a :: l, acc => by
    rw [List.foldl_cons, foldl_app f l]
    simp
theorem tl_reprText (x : List Nat) : TL.tl (reprText ⟨x.toArray⟩) = repL x := by
  have hq : reprQuote ⟨x.toArray⟩ = quoL x := by
    unfold reprQuote quoL
    simp
  unfold reprText TL.tl repL
  rw [hq]
  simp only [Array.toList_push]
  rw [← Array.foldl_toList, foldl_app]
  simp
theorem tl_textFrom : ∀ (ts : List Str) (k : Nat) (acc : Str), 0 < k → TL.tl (textFrom k acc ts) = TL.tl acc ++ (ts.map fun t => [44, 32] ++ TL.tl t).flatten
  | [], k, acc, _ => by simp [textFrom]
  | t :: ts, k, acc, h => by
    unfold textFrom
    rw [tl_textFrom ts (k + 1) _ (by omega), if_pos h, TL.tl_append, TL.tl_append]
    simp only [List.map_cons, List.flatten_cons, List.append_assoc]
    rfl
theorem joinL_eq (S : List Nat) : ∀ (p : List Nat) (ps : List (List Nat)), TL.joinL S (p :: ps) = p ++ (ps.map fun t => S ++ t).flatten
  | p, [] => by simp [TL.joinL]
  | p, q :: r => by
    show p ++ (S ++ TL.joinL S (q :: r)) = _
    rw [joinL_eq S q r]
    simp
theorem tl_listText (ts : List Str) : TL.tl (listText ts) = 91 :: (TL.joinL [44, 32] (ts.map TL.tl) ++ [93]) := by
  unfold listText
  rw [TL.tl_append]
  cases ts with
  | nil => rfl
  | cons t ts =>
    unfold textFrom
    rw [tl_textFrom ts 1 _ (by omega), List.map_cons, joinL_eq, TL.tl_append, TL.tl_append]
    simp only [List.map_map, List.append_assoc]
    rfl
theorem tl_tupleText (ts : List Str) : TL.tl (tupleText ts) = 40 :: (TL.joinL [44, 32] (ts.map TL.tl) ++ (if ts.length == 1 then [44, 41] else [41])) := by
  unfold tupleText
  rw [TL.tl_append, TL.tl_append, TL.tl_join]
  split <;> rfl
mutual
theorem tx_shown : ∀ (d : D) (n : Nat), D.shw n d = true → TL.tl d.py.shown = d.tx
  | .non, _, _ => rfl
  | .bl b, _, _ => by cases b <;> rfl
  | .int i, _, _ => by
    show TL.tl (PyData.shown (.int i)) = intL i
    simp only [PyData.shown]
    exact tl_intText i
  | .str x, _, _ => by
    show TL.tl (PyData.shown (.str ⟨x.toArray⟩)) = repL x
    simp only [PyData.shown]
    exact tl_reprText x
  | .emp, _, _ => by
    show TL.tl (PyData.shown (.dict [])) = _
    simp only [PyData.shown, PyData.shownKv]
    rfl
  | .tup xs, 0, h => by simp [D.shw] at h
  | .lst xs, 0, h => by simp [D.shw] at h
  | .tup xs, n + 1, h => by
    obtain ⟨h1, h2⟩ := txs_shown xs n (by simpa [D.shw] using h)
    show TL.tl (PyData.shown (.tuple (D.pyL xs))) = _
    simp only [PyData.shown]
    rw [tl_tupleText, h1, h2]
    try rfl
  | .lst xs, n + 1, h => by
    obtain ⟨h1, h2⟩ := txs_shown xs n (by simpa [D.shw] using h)
    show TL.tl (PyData.shown (.list (D.pyL xs))) = _
    simp only [PyData.shown]
    rw [tl_listText, h1]
    try rfl
  | .fn _, _, h => by simp [D.shw] at h
  | .exc _ _, _, h => by simp [D.shw] at h
  | .scr _, _, h => by simp [D.shw] at h
  | .ctup _, _, h => by simp [D.shw] at h
theorem txs_shown : ∀ (ds : List D) (n : Nat), D.shws n ds = true → (PyData.shownAll (D.pyL ds)).map TL.tl = D.txs ds ∧ (PyData.shownAll (D.pyL ds)).length = ds.length
  | [], _, _ => by simp [D.pyL, PyData.shownAll, D.txs]
  | d :: ds, n, h => by
    simp only [D.shws, Bool.and_eq_true] at h
    have h1 := tx_shown d n h.1
    obtain ⟨h2, h3⟩ := txs_shown ds n h.2
    simp only [D.pyL, PyData.shownAll, D.txs, List.map_cons, List.length_cons]
    exact ⟨by rw [h1, h2], by rw [h3]⟩
end
theorem shown_tx {d : D} {n : Nat} (h : D.shw n d = true) : d.py.shown = ⟨d.tx.toArray⟩ := by
  rw [← tx_shown d n h]
theorem len_tx {d : D} {n : Nat} (h : D.shw n d = true) : d.py.shown.length = d.tx.length := by
  rw [← tx_shown d n h]
  exact TL.len_tl _
mutual
theorem shw_dep : ∀ (d : D) (n : Nat), D.shw n d = true → d.py.depth ≤ n + 1
  | .non, _, _ => by simp [D.py, PyData.depth]
  | .bl b, _, _ => by simp [D.py, PyData.depth]
  | .int i, _, _ => by simp [D.py, PyData.depth]
  | .str x, _, _ => by simp [D.py, PyData.depth]
  | .emp, _, _ => by simp [D.py, PyData.depth, PyData.depthKv]
  | .tup xs, 0, h => by simp [D.shw] at h
  | .lst xs, 0, h => by simp [D.shw] at h
  | .tup xs, n + 1, h => by
    have := shws_dep xs n (by simpa [D.shw] using h)
    simp only [D.py, PyData.depth]; omega
  | .lst xs, n + 1, h => by
    have := shws_dep xs n (by simpa [D.shw] using h)
    simp only [D.py, PyData.depth]; omega
  | .fn _, _, h => by simp [D.shw] at h
  | .exc _ _, _, h => by simp [D.shw] at h
  | .scr _, _, h => by simp [D.shw] at h
  | .ctup _, _, h => by simp [D.shw] at h
theorem shws_dep : ∀ (ds : List D) (n : Nat), D.shws n ds = true → PyData.depthAll (D.pyL ds) ≤ n + 1
  | [], _, _ => by simp [D.pyL, PyData.depthAll]
  | d :: ds, n, h => by
    simp only [D.shws, Bool.and_eq_true] at h
    have h1 := shw_dep d n h.1
    have h2 := shws_dep ds n h.2
    simp only [D.pyL, PyData.depthAll]; omega
end
/-! ### the run -/
section
variable {X : Cx} {pins : List (Addr × Obj)} {σ : L2.St} {H : Hp} {s : Shared} {c : RC}
theorem emp_at (I : Inv X pins σ H s) {a : Addr} (h : H a = some (.dK [])) : ∃ o n, s.heap.get? a = some o ∧ o.cls = .type "dict" ∧ o.data = .dict #[] n ∧ (a == sysModules) = false := by
  obtain ⟨_, hs, vs, kv, o, es, ep, ho, ex, hd, _, hp, _⟩ := I.hok a _ h
  cases kv
  have he : es.toList = [] := by cases hq : es.toList with
    | nil => rfl
    | cons x l => rw [hq] at hp; cases hp
  have he' : es = #[] := by
    cases es
    simp at he
    subst he; rfl
  subst he'
  exact ⟨o, ep, ho, ex.1, hd, hs⟩
mutual
theorem rep_reprK (I : Inv X pins σ H s) : ∀ (d : D) (n : Nat) (v : V) (u : Value), Rep X.K c H d v → RelV v u → D.shw n d = true → d.py.shown.length ≤ sizeLine →
    ∃ as bs, Reads s.heap u d.py as ∧ ReadAtMost s.heap d.py.depth bs ∧ ReprK X.prog X.w bs s.heap d.py.depth u d.py.shown
  | .non, _, _, _, .non, r, _, _ => by
    cases r
    exact ⟨_, [], .none, (fun _ h => nomatch h), by simp only [D.py, PyData.shown]; exact .of_is ReprIs.none _ _ _⟩
  | .bl b, _, _, _, .bl _, r, _, _ => by
    cases r
    exact ⟨_, [], .bool b, (fun _ h => nomatch h), by simp only [D.py, PyData.shown]; exact .of_is (ReprIs.bool b) _ _ _⟩
  | .int i, _, _, _, .int _, r, h, _ => by
    obtain ⟨t, rfl⟩ := r
    exact ⟨_, [], .int i t, (fun _ h => nomatch h), by simp only [D.py, PyData.shown]; exact .of_is (ReprIs.int t (by simpa [D.shw] using h)) _ _ _⟩
  | .str x, _, _, _, .str _ _, r, _, hz => by
    obtain ⟨t, rfl⟩ := r
    exact ⟨_, [], .str _ t, (fun _ h => nomatch h), by simp only [D.py, PyData.shown]; exact .of_is (ReprIs.str _ t (by simpa only [D.py, PyData.shown] using hz)) _ _ _⟩
  | .emp, _, _, _, .emp ha, r, _, _ => by
    cases r
    obtain ⟨o, n, ho, hc, hd, hs⟩ := emp_at I ha
    have R : Reads s.heap (.ref _) (.dict []) _ := .dict ho hc hd .nil .nil
    refine ⟨_, _, R, ReadAtMost.cons R (n := 0) (bs := []) (Nat.zero_le _) (fun _ h => nomatch h), ?_⟩
    simp only [D.py, PyData.depth, PyData.depthKv, PyData.shown, PyData.shownKv]
    exact ReprK.dict ho hc hd hs (fun h => nomatch h) .nil
  | .tup xs, 0, _, _, _, _, h, _ => by simp [D.shw] at h
  | .lst xs, 0, _, _, _, _, h, _ => by simp [D.shw] at h
  | .tup xs, n + 1, _, _, .tup hs ra _, r, h, hz => by
    cases r
    obtain ⟨its, rv, ⟨o, ho, hc, m, hd⟩, _⟩ := I.tuple hs
    have hz' : (tupleText (PyData.shownAll (D.pyL xs))).length ≤ sizeLine := by simpa only [D.py, PyData.shown] using hz
    obtain ⟨as, bs, hr, hb, hk⟩ := rep_reprKs I xs n _ its ra rv (by simpa [D.shw] using h) (fun t ht => Nat.le_trans (tupleText_mem_le ht) hz')
    have R : Reads s.heap (.ref _) (.tuple (D.pyL xs)) _ := .tuple ho hc hd hr
    have hna := not_mem_of_deeper R (by simp only [PyData.depth]; omega) hb
    have hcs := ReadAtMost.cons R (by simp only [PyData.depth]; omega) hb
    refine ⟨_, _, R, hcs, ?_⟩
    simp only [D.py, PyData.depth, PyData.shown]
    exact ReprK.tuple ho hc hd hna hk
  | .lst xs, n + 1, _, _, .lst hs ra _, r, h, hz => by
    cases r
    obtain ⟨its, rv, ⟨o, m, ho, hc, _, hd⟩, _⟩ := I.list (.inl (.inl hs))
    have hz' : (listText (PyData.shownAll (D.pyL xs))).length ≤ sizeLine := by simpa only [D.py, PyData.shown] using hz
    obtain ⟨as, bs, hr, hb, hk⟩ := rep_reprKs I xs n _ its ra rv (by simpa [D.shw] using h) (fun t ht => Nat.le_trans (listText_mem_le ht) hz')
    have R : Reads s.heap (.ref _) (.list (D.pyL xs)) _ := .list ho hc hd hr
    have hna := not_mem_of_deeper R (by simp only [PyData.depth]; omega) hb
    have hcs := ReadAtMost.cons R (by simp only [PyData.depth]; omega) hb
    refine ⟨_, _, R, hcs, ?_⟩
    simp only [D.py, PyData.depth, PyData.shown]
    cases its with
    | nil =>
      cases xs with
      | nil => simp only [D.pyL, PyData.shownAll, listText_nil]; exact ReprK.listEmpty ho hc hd
      | cons x l => cases hk
    | cons x l => exact ReprK.list ho hc hd hna (by simpa using hk.length_eq) (fun i y e => hk.item i y (by simpa using e))
  | .fn _, _, _, _, _, _, h, _ => by simp [D.shw] at h
  | .exc _ _, _, _, _, _, _, h, _ => by simp [D.shw] at h
  | .scr _, _, _, _, _, _, h, _ => by simp [D.shw] at h
  | .ctup _, _, _, _, _, _, h, _ => by simp [D.shw] at h
theorem rep_reprKs (I : Inv X pins σ H s) : ∀ (ds : List D) (n : Nat) (vs : List V) (us : List Value), RepL X.K c H ds vs → Vals vs us → D.shws n ds = true → (∀ t ∈ PyData.shownAll (D.pyL ds), t.length ≤ sizeLine) →
    ∃ as bs, ReadsAll s.heap us (D.pyL ds) as ∧ ReadAtMost s.heap (PyData.depthAll (D.pyL ds)) bs ∧ ReprAllK X.prog X.w bs s.heap (PyData.depthAll (D.pyL ds)) us (PyData.shownAll (D.pyL ds))
  | [], _, _, _, .nil, r, _, _ => by
    cases r
    exact ⟨_, [], .nil, (fun _ h => nomatch h), by simp only [D.pyL, PyData.shownAll]; exact .nil⟩
  | d :: ds, n, _, _, .cons h1 h2, r, h, hz => by
    cases r with
    | cons r1 r2 =>
      simp only [D.shws, Bool.and_eq_true] at h
      obtain ⟨as1, b1, q1, hb1, k1⟩ := rep_reprK I d n _ _ h1 r1 h.1 (hz _ (by simp only [D.pyL, PyData.shownAll]; exact List.mem_cons_self ..))
      obtain ⟨as2, b2, q2, hb2, k2⟩ := rep_reprKs I ds n _ _ h2 r2 h.2 (fun t ht => hz t (by simp only [D.pyL, PyData.shownAll]; exact List.mem_cons_of_mem _ ht))
      refine ⟨_, b1 ++ b2, .cons q1 q2, ?_, ?_⟩
      · simp only [D.pyL, PyData.depthAll]
        exact (hb1.mono (Nat.le_max_left _ _)).append (hb2.mono (Nat.le_max_right _ _))
      · simp only [D.pyL, PyData.depthAll, PyData.shownAll]
        exact .cons ((k1.more fun b hb => List.mem_append_left _ hb).level_le (Nat.le_max_left _ _)) (k2.more_le (fun b hb => List.mem_append_right _ hb) (Nat.le_max_right _ _))
end
end
def rRepr (K : PySem.W.Frag) (c : RC) : List V → Hp → VK → Prop := fun xs H Q => ∃ d v, xs = [v] ∧ Rep K c H d v ∧ D.shw 40 d = true ∧ d.tx.length ≤ LIM ∧ Q (.str ⟨d.tx.toArray⟩) H
theorem call_reprD {X : Cx} {c : RC} (hg : X.A.guards = some []) (hu : X.A.units + 65 < cLine) : CallR X (.builtin "repr") (rRepr X.K c) := by
  intro pins s σ H xs us Q I rv ⟨d, v, e, rep, hs, hz, q⟩
  subst e
  cases rv with
  | cons r r0 =>
    cases r0
    rename_i u
    have hz' : d.py.shown.length ≤ sizeLine := by rw [len_tx hs, LIM_eq]; exact hz
    have hd := shw_dep d 40 hs
    have fin : ∀ (h' : Heap) (t : Tok) (tk : Nat), (∀ b o, s.heap.get? b = some o → h'.get? b = some o) → EP X pins σ Q (.str d.py.shown t) { s with heap := h', toks := tk } := fun h' t tk hk =>
      ⟨.str d.py.shown, H, I.kept hk, ⟨t, rfl⟩, by rw [shown_tx hs]; exact q⟩
    have kp : ∀ b o, s.heap.get? b = some o → s.heap.get? b = some o := fun _ _ e => e
    cases rep with
    | non =>
      cases r
      exact PySem.P.repr_of_none (fin s.heap _ _ kp)
    | bl b =>
      cases r
      refine PySem.P.repr_of_bool ?_
      cases b <;> exact fin s.heap _ _ kp
    | int i =>
      obtain ⟨t, rfl⟩ := r
      exact PySem.P.repr_of_int (by simpa [D.shw] using hs) (fin s.heap _ _ kp)
    | str x hx =>
      obtain ⟨t, rfl⟩ := r
      exact PySem.P.repr_of_str (by simpa only [D.py, PyData.shown] using fin s.heap _ _ kp) (by simpa only [D.py, PyData.shown] using hz')
    | fn f => simp [D.shw] at hs
    | exc _ _ _ _ => simp [D.shw] at hs
    | scr _ _ => simp [D.shw] at hs
    | ctup _ _ _ _ _ => simp [D.shw] at hs
    | dct _ _ _ _ _ => simp [D.shw] at hs
    | emp ha =>
      cases r
      obtain ⟨o, n, ho, hc, hd, hsm⟩ := emp_at I ha
      exact call_repr_slot (by omega) ⟨o, ho, hc⟩ F.slot_dict_repr (call_dict_reprK (d := 0) (as := []) ho hc hd hsm (fun h => nomatch h) .nil hg (fun b _ => Clear.nil b) (by show X.A.units + 1 + (0 + 1) < cLine; omega) kp
        (fun h' t tk hk => ⟨_, _, rfl, fin h' t tk hk⟩) (by simpa only [D.py, PyData.shown, PyData.shownKv] using hz'))
    | tup hs' ra _ =>
      rename_i a vs ds _
      cases r
      obtain ⟨its, rv, ⟨o, ho, hc, m, hdt⟩, _⟩ := I.tuple hs'
      have hz2 : (tupleText (PyData.shownAll (D.pyL ds))).length ≤ sizeLine := by simpa only [D.py, PyData.shown] using hz'
      obtain ⟨as, bs, hr, hb, hk⟩ := rep_reprKs I ds 39 _ its ra rv (by simpa [D.shw] using hs) (fun t ht => Nat.le_trans (tupleText_mem_le ht) hz2)
      have R : Reads s.heap (.ref a) (.tuple (D.pyL ds)) _ := .tuple ho hc hdt hr
      have hna := not_mem_of_deeper R (by simp only [PyData.depth]; omega) hb
      have hd2 : PyData.depthAll (D.pyL ds) + 1 ≤ 41 := by simpa only [D.py, PyData.depth] using hd
      exact call_repr_slot (by omega) ⟨o, ho, hc⟩ F.slot_tuple_repr (call_tuple_reprK ho hc hdt hna hk hg (fun b _ => Clear.nil b) (by show X.A.units + 1 + (PyData.depthAll (D.pyL ds) + 1) < cLine; omega) kp
        (fun h' t tk hk => ⟨_, _, rfl, by simpa only [D.py, PyData.shown] using fin h' t tk hk⟩) hz2)
    | lst hs' ra _ =>
      rename_i a vs ds _
      cases r
      obtain ⟨its, rv, ⟨o, m, ho, hc, _, hdt⟩, _⟩ := I.list (.inl (.inl hs'))
      have hz2 : (listText (PyData.shownAll (D.pyL ds))).length ≤ sizeLine := by simpa only [D.py, PyData.shown] using hz'
      obtain ⟨as, bs, hr, hb, hk⟩ := rep_reprKs I ds 39 _ its ra rv (by simpa [D.shw] using hs) (fun t ht => Nat.le_trans (listText_mem_le ht) hz2)
      have R : Reads s.heap (.ref a) (.list (D.pyL ds)) _ := .list ho hc hdt hr
      have hna := not_mem_of_deeper R (by simp only [PyData.depth]; omega) hb
      have hd2 : PyData.depthAll (D.pyL ds) + 1 ≤ 41 := by simpa only [D.py, PyData.depth] using hd
      refine call_repr_slot (by omega) ⟨o, ho, hc⟩ F.slot_list_repr.toG ?_
      cases its with
      | nil =>
        cases ds with
        | nil =>
          exact call_list_repr_empty ⟨o, ho, hc⟩ ho hdt ⟨_, _, rfl, by simpa only [D.py, PyData.shown, D.pyL, PyData.shownAll, listText_nil] using fin s.heap s.toks (s.toks + 1) kp⟩
        | cons x l => cases hk
      | cons x l =>
        exact call_list_reprK ho hc hdt hna (by simpa using hk.length_eq) (fun i y e => hk.item i y (by simpa using e)) hg (fun b _ => Clear.nil b) (by show X.A.units + 1 + (PyData.depthAll (D.pyL ds) + 1) < cLine; omega) kp
          (fun h' t tk hk => ⟨_, _, rfl, by simpa only [D.py, PyData.shown] using fin h' t tk hk⟩) hz2
end Ev
/-! zip(a, b, strict=True) of two lists or tuples of one length. -/
namespace XcZ
open PySem PySem.Spec PyProof.Rows L2
/-- the field 2 of such a zip is True -/
abbrev IsZipS (h : Heap) (z TI TO : Addr) (f0 : Value) : Prop :=
  h.get? z = some { cls := .type "zip", dict := none, data := .fields #[f0, .bool false, .bool true, .ref TI, .ref TO], slots := #[] }
/-- an iterator of a list (false) or a tuple (true) -/
def It1 (t : Bool) (h : Heap) (it l : Addr) (k : Nat) : Prop := if t then h.IsTupleIter it l k else h.IsListIter it l k
def Sq1 (t : Bool) (h : Heap) (l : Addr) (xs : Array Value) : Prop := if t then h.IsTuple l xs else h.IsList l xs
theorem It1.ext {t : Bool} {h h' : Heap} {it l : Addr} {k : Nat} (x : It1 t h it l k) (e : ∀ o, h.get? it = some o → h'.get? it = some o) : It1 t h' it l k := by
  cases t with
  | true => exact Heap.IsTupleIter.at x e
  | false => exact Heap.IsListIter.at x e
theorem Sq1.ext {t : Bool} {h h' : Heap} {l : Addr} {xs : Array Value} (x : Sq1 t h l xs) (e : ∀ o, h.get? l = some o → h'.get? l = some o) : Sq1 t h' l xs := by
  cases t with
  | true => obtain ⟨o, h1, h2⟩ := x; exact ⟨o, e o h1, h2⟩
  | false => obtain ⟨o, h1, h2⟩ := x; exact ⟨o, e o h1, h2⟩
theorem It1.lt {t : Bool} {h : Heap} {it l : Addr} {k : Nat} (x : It1 t h it l k) : it < h.objs.size := by
  cases t with
  | true => obtain ⟨o, h1, _⟩ := x; exact Heap.lt_size h1
  | false => obtain ⟨o, h1, _⟩ := x; exact Heap.lt_size h1
section
variable {prog : Program} {w : World} {A : Around} {E : Value → Shared → Prop} {s : Shared}
theorem next_item {t : Bool} {it l : Addr} {i : Nat} {items : Array Value} {x : Value} {Q : Value → Shared → Prop} (hit : It1 t s.heap it l i) (hl : Sq1 t s.heap l items) (hx : items[i]? = some x)
    (hQ : ∀ h', It1 t h' it l (i + 1) → Heap.SameBut it s.heap h' → Q x { s with heap := h' }) : wpAny (model prog w) A (Builtin.SmallTypes.nextOf (.ref it)) Q E s := by
  cases t with
  | true => exact RZ.nextOf_tuple_item hit hl hx hQ
  | false => exact wpAny_nextOf_list_item hit hl hx hQ
theorem next_end {t : Bool} {it l : Addr} {i : Nat} {items : Array Value} {Q : Value → Shared → Prop} (hh : A.handled = none) (hit : It1 t s.heap it l i) (hl : Sq1 t s.heap l items) (hx : items[i]? = none)
    (hE : ∀ h' e, Heap.ExtBut it s.heap h' → (∃ o, h'.get? e = some o ∧ o.cls = .type "StopIteration") → E (.ref e) { s with heap := h' }) : wpAny (model prog w) A (Builtin.SmallTypes.nextOf (.ref it)) Q E s := by
  cases t with
  | true => exact RZ.nextOf_tuple_end hh hit hl hx hE
  | false => exact wpAny_nextOf_list_end hh hit hl hx hE
theorem orEnd_item {t : Bool} {it l : Addr} {i : Nat} {items : Array Value} {x : Value} {Q : Option Value → Shared → Prop} (hit : It1 t s.heap it l i) (hl : Sq1 t s.heap l items) (hx : items[i]? = some x)
    (hQ : ∀ h', It1 t h' it l (i + 1) → Heap.SameBut it s.heap h' → Q (some x) { s with heap := h' }) : wpAny (model prog w) A (Builtin.SmallTypes.nextOrEnd (.ref it)) Q E s := by
  unfold Builtin.SmallTypes.nextOrEnd
  exact wpAny_bind (wpAny_attempt (next_item hit hl hx fun h' h1 h2 => wpAny_pure (hQ h' h1 h2)))
theorem orEnd_end {t : Bool} {it l : Addr} {i : Nat} {items : Array Value} {Q : Option Value → Shared → Prop} (hh : A.handled = none) (hit : It1 t s.heap it l i) (hl : Sq1 t s.heap l items) (hx : items[i]? = none)
    (hQ : ∀ h', Heap.ExtBut it s.heap h' → Q none { s with heap := h' }) : wpAny (model prog w) A (Builtin.SmallTypes.nextOrEnd (.ref it)) Q E s := by
  unfold Builtin.SmallTypes.nextOrEnd
  refine wpAny_bind (wpAny_attempt (next_end hh hit hl hx fun h' e k he => ?_))
  obtain ⟨o, ho, hc⟩ := he
  exact wpAny_bind (wpAny_isInstance (T := "StopIteration") (b := true) ⟨o, ho, hc⟩ isSubtype_stop (wpAny_pure (hQ _ k)))
theorem next_pair {t1 t2 : Bool} {z TI TO i1 i2 l1 l2 : Addr} {k1 k2 : Nat} {xs ys : Array Value} {x y a b : Value} {Q : Value → Shared → Prop} (D : ZipApart z TI TO i1 i2 l1 l2)
    (hz : IsZipS s.heap z TI TO .none) (hTI : IsPair s.heap TI (.ref i1) (.ref i2)) (hTO : IsPair s.heap TO a b)
    (h1 : It1 t1 s.heap i1 l1 k1) (h2 : It1 t2 s.heap i2 l2 k2) (hl1 : Sq1 t1 s.heap l1 xs) (hl2 : Sq1 t2 s.heap l2 ys) (hx : xs[k1]? = some x) (hy : ys[k2]? = some y)
    (hQ : ∀ h', IsZipS h' z TI TO (rawInt s.heap.objs.size) → IsPair h' TO x y → It1 t1 h' i1 l1 (k1 + 1) → It1 t2 h' i2 l2 (k2 + 1) → IsPair h' s.heap.objs.size x y → h'.objs.size = s.heap.objs.size + 1 →
      (∀ c o, c ≠ z → c ≠ TO → c ≠ i1 → c ≠ i2 → s.heap.get? c = some o → h'.get? c = some o) → Q (.ref s.heap.objs.size) { s with heap := h' }) :
    wpAny (model prog w) A (Builtin.«zip.__next__» ⟨[.ref z], []⟩) (fun fin s' => ∃ v, fin = .done (.ret v) ∧ Q v s') E s := by
  show wpAny _ _ (field (.ref z) 2 >>= _) _ _ _
  refine wpAny_bind (wpAny_field hz rfl (x := .bool true) rfl ?_)
  show wpAny _ _ (field (.ref z) 3 >>= _) _ _ _
  refine wpAny_bind (wpAny_field hz rfl (x := .ref TI) rfl ?_)
  refine wpAny_bind (wpAny_seqItems hTI rfl ?_)
  show wpAny _ _ (Builtin.SmallTypes.ownedTupleIsFree (.ref z) >>= _) _ _ _
  refine wpAny_bind ?_
  unfold Builtin.SmallTypes.ownedTupleIsFree
  refine wpAny_bind (wpAny_field hz rfl (x := .none) rfl (wpAny_pure ?_))
  simp only [if_true]
  refine wpAny_bind (wpAny_rule ?_)
  refine wpAny_bind (wpAny_field hz rfl (x := .ref TO) rfl ?_)
  refine wpAny_bind (wpAny_setField_rec hz (by simp) fun h₁ hz₁ hs₁ => ?_)
  replace hz₁ : IsZipS h₁ z TI TO .ellipsis := hz₁
  refine wpAny_bind ?_
  simp only [List.zipIdx_cons, List.zipIdx_nil, List.forIn_cons, List.forIn_nil]
  refine wpAny_bind (wpAny_bind (wpAny_onRaise ?_))
  show wpAny _ _ (Builtin.SmallTypes.nextOrEnd (.ref i1)) _ _ _
  refine orEnd_item (h1.ext fun o e => hs₁.extBut _ _ D.i1z e) (hl1.ext fun o e => hs₁.extBut _ _ D.l1z e) hx fun h₂ h1₂ hs₂ => ?_
  have hTO₂ : IsPair h₂ TO a b := hs₂.extBut _ _ D.TOi1 (hs₁.extBut _ _ D.TOz hTO)
  refine wpAny_bind (wpAny_seqItems hTO₂ rfl ?_)
  refine wpAny_bind (wpAny_updateSeq_pair hTO₂ fun h₃ hTO₃ hs₃ => ?_)
  replace hTO₃ : IsPair h₃ TO x b := hTO₃
  refine wpAny_bind (wpAny_letGo (wpAny_pure ?_))
  refine wpAny_bind (wpAny_bind (wpAny_onRaise ?_))
  show wpAny _ _ (Builtin.SmallTypes.nextOrEnd (.ref i2)) _ _ _
  refine orEnd_item (h2.ext fun o e => hs₃.extBut _ _ D.TOi2.symm (hs₂.extBut _ _ D.i12.symm (hs₁.extBut _ _ D.i2z e))) (hl2.ext fun o e => hs₃.extBut _ _ D.l2TO (hs₂.extBut _ _ D.l2i1 (hs₁.extBut _ _ D.l2z e))) hy fun h₄ h2₄ hs₄ => ?_
  have hTO₄ : IsPair h₄ TO x b := hs₄.extBut _ _ D.TOi2 hTO₃
  refine wpAny_bind (wpAny_seqItems hTO₄ rfl ?_)
  refine wpAny_bind (wpAny_updateSeq_pair hTO₄ fun h₅ hTO₅ hs₅ => ?_)
  replace hTO₅ : IsPair h₅ TO x y := hTO₅
  refine wpAny_bind (wpAny_letGo (wpAny_pure (wpAny_pure ?_)))
  refine wpAny_bind (wpAny_seqItems hTO₅ rfl ?_)
  refine wpAny_bind (wpAny_newTuple ?_)
  have hsz : h₅.objs.size = s.heap.objs.size := by rw [hs₅.1, hs₄.1, hs₃.1, hs₂.1, hs₁.1]
  have hz₅ : IsZipS h₅ z TI TO .ellipsis := hs₅.extBut _ _ D.TOz.symm (hs₄.extBut _ _ D.i2z.symm (hs₃.extBut _ _ D.TOz.symm (hs₂.extBut _ _ D.i1z.symm hz₁)))
  have hk₅ : ∀ c o, c ≠ z → c ≠ TO → c ≠ i1 → c ≠ i2 → s.heap.get? c = some o → h₅.get? c = some o := fun c o c1 c2 c3 c4 e =>
    hs₅.extBut _ _ c2 (hs₄.extBut _ _ c4 (hs₃.extBut _ _ c2 (hs₂.extBut _ _ c3 (hs₁.extBut _ _ c1 e))))
  have h1₅ : It1 t1 h₅ i1 l1 (k1 + 1) := h1₂.ext fun o e => hs₅.extBut _ _ D.TOi1.symm (hs₄.extBut _ _ D.i12 (hs₃.extBut _ _ D.TOi1.symm e))
  have h2₅ : It1 t2 h₅ i2 l2 (k2 + 1) := h2₄.ext fun o e => hs₅.extBut _ _ D.TOi2.symm e
  have hzlt : z < h₅.objs.size := Heap.lt_size hz₅
  show wpAny _ _ (Builtin.SmallTypes.ownedTupleHandOut (.ref z) (.ref h₅.objs.size) >>= _) _ _ _
  refine wpAny_bind ?_
  unfold Builtin.SmallTypes.ownedTupleHandOut
  have hz₆ : IsZipS (h₅.push { cls := .type "tuple", data := .seq #[x, y] }) z TI TO .ellipsis := Heap.get?_push_of_some _ hz₅
  refine wpAny_bind (wpAny_setField_rec hz₆ (by simp) fun h₇ hz₇ hs₇ => ?_)
  replace hz₇ : IsZipS h₇ z TI TO (rawInt h₅.objs.size) := hz₇
  refine wpAny_setField_rec hz₇ (by simp) fun h₈ hz₈ hs₈ => ?_
  replace hz₈ : IsZipS h₈ z TI TO (rawInt h₅.objs.size) := hz₈
  have up : ∀ c o, c ≠ z → h₅.get? c = some o → h₈.get? c = some o := fun c o c1 e => hs₈.extBut _ _ c1 (hs₇.extBut _ _ c1 (Heap.get?_push_of_some _ e))
  have hT₈ : IsPair h₈ h₅.objs.size x y := hs₈.extBut _ _ (Nat.ne_of_gt hzlt) (hs₇.extBut _ _ (Nat.ne_of_gt hzlt) (Heap.get?_push_size _ rfl))
  have hz8 : h₈.objs.size = h₅.objs.size + 1 := by rw [hs₈.1, hs₇.1, Heap.size_push]
  rw [hsz] at hz₈ hT₈ hz8
  refine wpAny_pure ⟨_, rfl, ?_⟩
  show Q (.ref h₅.objs.size) _
  rw [hsz]
  exact hQ h₈ hz₈ (up _ _ D.TOz hTO₅) (h1₅.ext fun o e => up _ o D.i1z e) (h2₅.ext fun o e => up _ o D.i2z e) hT₈ hz8 fun c o c1 c2 c3 c4 e => up c o c1 (hk₅ c o c1 c2 c3 c4 e)
/-- both end -/
theorem next_over {t1 t2 : Bool} {z TI TO i1 i2 l1 l2 : Addr} {k1 k2 : Nat} {xs ys : Array Value} {a b : Value} {Q : Fin → Shared → Prop} (hh : A.handled = none) (D : ZipApart z TI TO i1 i2 l1 l2)
    (hz : IsZipS s.heap z TI TO .none) (hTI : IsPair s.heap TI (.ref i1) (.ref i2)) (hTO : IsPair s.heap TO a b)
    (h1 : It1 t1 s.heap i1 l1 k1) (h2 : It1 t2 s.heap i2 l2 k2) (hl1 : Sq1 t1 s.heap l1 xs) (hl2 : Sq1 t2 s.heap l2 ys) (hx : xs[k1]? = none) (hy : ys[k2]? = none)
    (hE : ∀ h' e, (∀ c o, c ≠ z → c ≠ TO → c ≠ i1 → c ≠ i2 → s.heap.get? c = some o → h'.get? c = some o) → (∃ o, h'.get? e = some o ∧ o.cls = .type "StopIteration") → E (.ref e) { s with heap := h' }) :
    wpAny (model prog w) A (Builtin.«zip.__next__» ⟨[.ref z], []⟩) Q E s := by
  show wpAny _ _ (field (.ref z) 2 >>= _) _ _ _
  refine wpAny_bind (wpAny_field hz rfl (x := .bool true) rfl ?_)
  show wpAny _ _ (field (.ref z) 3 >>= _) _ _ _
  refine wpAny_bind (wpAny_field hz rfl (x := .ref TI) rfl ?_)
  refine wpAny_bind (wpAny_seqItems hTI rfl ?_)
  show wpAny _ _ (Builtin.SmallTypes.ownedTupleIsFree (.ref z) >>= _) _ _ _
  refine wpAny_bind ?_
  unfold Builtin.SmallTypes.ownedTupleIsFree
  refine wpAny_bind (wpAny_field hz rfl (x := .none) rfl (wpAny_pure ?_))
  simp only [if_true]
  refine wpAny_bind (wpAny_rule ?_)
  refine wpAny_bind (wpAny_field hz rfl (x := .ref TO) rfl ?_)
  refine wpAny_bind (wpAny_setField_rec hz (by simp) fun h₁ hz₁ hs₁ => ?_)
  replace hz₁ : IsZipS h₁ z TI TO .ellipsis := hz₁
  refine wpAny_bind ?_
  simp only [List.zipIdx_cons, List.zipIdx_nil, List.forIn_cons, List.forIn_nil]
  refine wpAny_bind (wpAny_bind (wpAny_onRaise ?_))
  show wpAny _ _ (Builtin.SmallTypes.nextOrEnd (.ref i1)) _ _ _
  refine orEnd_end hh (h1.ext fun o e => hs₁.extBut _ _ D.i1z e) (hl1.ext fun o e => hs₁.extBut _ _ D.l1z e) hx fun h₂ hs₂ => ?_
  have hz₂ : IsZipS h₂ z TI TO .ellipsis := hs₂ _ _ D.i1z.symm hz₁
  refine wpAny_bind (wpAny_setField_rec hz₂ (by simp) fun h₃ hz₃ hs₃ => ?_)
  refine wpAny_bind ?_
  show wpAny _ _ ((forIn [(Value.ref i2, 1)] PUnit.unit _ : Sem PUnit) >>= _) _ _ _
  refine wpAny_bind ?_
  simp only [List.forIn_cons, List.forIn_nil]
  have k3 : ∀ c o, c ≠ z → c ≠ i1 → s.heap.get? c = some o → h₃.get? c = some o := fun c o c1 c2 e => hs₃.extBut _ _ c1 (hs₂ _ _ c2 (hs₁.extBut _ _ c1 e))
  refine wpAny_bind (wpAny_bind (orEnd_end hh (h2.ext fun o e => k3 _ o D.i2z D.i12.symm e) (hl2.ext fun o e => k3 _ o D.l2z D.l2i1 e) hy fun h₄ hs₄ => ?_))
  show wpAny _ _ (pure (ForInStep.yield PUnit.unit)) _ _ _
  refine wpAny_pure (wpAny_pure ?_)
  refine wpAny_bind (wpAny_rule ?_)
  unfold Builtin.SmallTypes.stopIteration
  show wpAny _ _ (newExc (.type "StopIteration") [] >>= _) _ _ _
  refine wpAny_bind ?_
  simp only [newExc, newTuple]
  refine wpAny_bind (wpAny_newObj_type ?_ (by size_fits))
  refine wpAny_bind (m := firstArgMember _ _) (wpAny_of_eq (a := Value.none) (by first | rfl | (simp only [firstArgMember]; rfl)) ?_)
  refine wpAny_newObj_type ?_ (by size_fits)
  simp only [raiseNew]
  refine wpAny_bind (wpAny_handled ?_)
  first | rw [show A.in1.handled = none from hh] | rw [hh]
  refine wpAny_bind (wpAny_pure (wpAny_throw ?_))
  exact hE _ _ (fun c o c1 c2 c3 c4 e => Heap.get?_push_of_some _ (Heap.get?_push_of_some _ (hs₄ _ _ c4 (k3 c o c1 c3 e)))) ⟨_, Heap.get?_push_size _ rfl, rfl⟩
theorem pyNext_item {t1 t2 : Bool} {z TI TO i1 i2 l1 l2 : Addr} {k1 k2 : Nat} {xs ys : Array Value} {x y a b : Value} {Q : Option Value → Shared → Prop} (D : ZipApart z TI TO i1 i2 l1 l2)
    (hz : IsZipS s.heap z TI TO .none) (hTI : IsPair s.heap TI (.ref i1) (.ref i2)) (hTO : IsPair s.heap TO a b)
    (h1 : It1 t1 s.heap i1 l1 k1) (h2 : It1 t2 s.heap i2 l2 k2) (hl1 : Sq1 t1 s.heap l1 xs) (hl2 : Sq1 t2 s.heap l2 ys) (hx : xs[k1]? = some x) (hy : ys[k2]? = some y)
    (hQ : ∀ h', IsZipS h' z TI TO (rawInt s.heap.objs.size) → IsPair h' TO x y → It1 t1 h' i1 l1 (k1 + 1) → It1 t2 h' i2 l2 (k2 + 1) → IsPair h' s.heap.objs.size x y → h'.objs.size = s.heap.objs.size + 1 →
      (∀ c o, c ≠ z → c ≠ TO → c ≠ i1 → c ≠ i2 → s.heap.get? c = some o → h'.get? c = some o) → Q (some (.ref s.heap.objs.size)) { s with heap := h' }) :
    wpAny (model prog w) A (pyNext (.ref z)) Q E s := by
  have hT : s.TypeIs (.ref z) "zip" := ⟨_, hz, rfl⟩
  unfold pyNext
  exact wpAny_bind (wpAny_attempt (wpAny_callSpecial?_slot (name := Str.ofString "__next__") hT F.slot_zip_next
    (wpAny_call_entry F.slot_zip_next hT F.entry_zip_next
      (next_pair D hz hTI hTO h1 h2 hl1 hl2 hx hy fun h' a1 a2 a3 a4 a5 a6 a7 => wpAny_pure (hQ h' a1 a2 a3 a4 a5 a6 a7)) (F.args_zip_next_1 _))))
theorem pyNext_over {t1 t2 : Bool} {z TI TO i1 i2 l1 l2 : Addr} {k1 k2 : Nat} {xs ys : Array Value} {a b : Value} {Q : Option Value → Shared → Prop} (hh : A.handled = none) (D : ZipApart z TI TO i1 i2 l1 l2)
    (hz : IsZipS s.heap z TI TO .none) (hTI : IsPair s.heap TI (.ref i1) (.ref i2)) (hTO : IsPair s.heap TO a b)
    (h1 : It1 t1 s.heap i1 l1 k1) (h2 : It1 t2 s.heap i2 l2 k2) (hl1 : Sq1 t1 s.heap l1 xs) (hl2 : Sq1 t2 s.heap l2 ys) (hx : xs[k1]? = none) (hy : ys[k2]? = none)
    (hQ : ∀ h', (∀ c o, c ≠ z → c ≠ TO → c ≠ i1 → c ≠ i2 → s.heap.get? c = some o → h'.get? c = some o) → Q none { s with heap := h' }) : wpAny (model prog w) A (pyNext (.ref z)) Q E s := by
  have hT : s.TypeIs (.ref z) "zip" := ⟨_, hz, rfl⟩
  unfold pyNext
  refine wpAny_bind (wpAny_attempt (wpAny_callSpecial?_slot (name := Str.ofString "__next__") hT F.slot_zip_next
    (wpAny_call_entry F.slot_zip_next hT F.entry_zip_next (next_over hh D hz hTI hTO h1 h2 hl1 hl2 hx hy fun h' e hk he => ?_) (F.args_zip_next_1 _))))
  obtain ⟨o, ho, hc⟩ := he
  refine wpAny_bind (wpAny_isInstance (T := "StopIteration") (b := true) ⟨o, ho, hc⟩ isSubtype_stop ?_)
  exact wpAny_pure (hQ _ hk)
theorem iter_zip {z TI TO : Addr} {f0 : Value} {Q : Value → Shared → Prop} (hz : IsZipS s.heap z TI TO f0) (h : Q (.ref z) s) : wpAny (model prog w) A (pyIter (.ref z)) Q E s := by
  have hT : s.TypeIs (.ref z) "zip" := ⟨_, hz, rfl⟩
  refine wpAny_pyIter_slot hT F.slot_zip_iter (wpAny_call_entry F.slot_zip_iter hT F.entry_zip_iter ?_ (F.args_zip_iter_1 _))
  show wpAny _ _ (ret (.ref z)) _ _ s
  exact wpAny_pure ⟨_, rfl, "zip", _, hT, F.slot_zip_next.lookup, h⟩
theorem handOut {elts : List Expr} {x1} {pos : Pos} {z TI TO T : Addr} {Q : Unit → Shared → Prop} (hz : IsZipS s.heap z TI TO (rawInt T))
    (hQ : ∀ h', IsZipS h' z TI TO .none → Heap.SameBut z s.heap h' → Q () { s with heap := h' }) :
    wpAny (model prog w) A (letOwnedTupleGo (.Tuple elts x1 pos) (.ref z) (.ref T)) Q E s := by
  unfold letOwnedTupleGo
  refine wpAny_bind (wpAny_load hz ?_)
  show wpAny _ _ (if (["enumerate", "zip", "dict_itemiterator", "dict_reverseitemiterator", "odict_iterator", "itertools.zip_longest", "itertools.pairwise"].contains "zip" &&
      (#[rawInt T, .bool false, .bool true, .ref TI, .ref TO] : Array Value)[0]? == some (rawInt T)) = true then _ else _) Q E s
  rw [if_pos (by simp)]
  refine wpAny_bind (wpAny_rule ?_)
  show wpAny _ _ (setField (.ref z) 0 .none) Q E s
  exact wpAny_setField_rec hz (by simp) fun h' hz' hs' => hQ h' hz' hs'
end
end XcZ
/-! zip(a, b, strict=True): how it is made. -/
namespace XcZ
open PySem PySem.Spec PyProof.Rows L2
def itN (t : Bool) : String := if t then "tuple_iterator" else "list_iterator"
abbrev zH1 (t1 : Bool) (h : Heap) (l1 : Addr) : Heap := h.push { cls := .type (itN t1), data := .fields #[.ref l1, .int 0 0] }
abbrev zH2 (t1 t2 : Bool) (h : Heap) (l1 l2 : Addr) : Heap := (zH1 t1 h l1).push { cls := .type (itN t2), data := .fields #[.ref l2, .int 0 0] }
abbrev zH3 (t1 t2 : Bool) (h : Heap) (l1 l2 : Addr) : Heap := (zH2 t1 t2 h l1 l2).push { cls := .type "tuple", data := .seq #[.ref h.objs.size, .ref (zH1 t1 h l1).objs.size] }
abbrev zH4 (t1 t2 : Bool) (h : Heap) (l1 l2 : Addr) : Heap := (zH3 t1 t2 h l1 l2).push { cls := .type "tuple", data := .seq #[.none, .none] }
abbrev zH5 (t1 t2 : Bool) (h : Heap) (l1 l2 : Addr) : Heap := (zH4 t1 t2 h l1 l2).push { cls := .type "zip", data := .fields #[.none, .bool false, .bool true, .ref (zH2 t1 t2 h l1 l2).objs.size, .ref (zH3 t1 t2 h l1 l2).objs.size] }
theorem meets_new (t1 t2 : Bool) (l1 l2 : Addr) (xs ys : Array Value) :
    Meets (Builtin.«zip.__new__» ⟨[.type "zip", .ref l1, .ref l2], [("strict", .bool true)]⟩) (fun _ R s => Sq1 t1 s.heap l1 xs ∧ Sq1 t2 s.heap l2 ys ∧
      R (.ok (.ret (.ref (zH4 t1 t2 s.heap l1 l2).objs.size))) { s with heap := zH5 t1 t2 s.heap l1 l2 }) :=
  .of_wp fun prog w A R s h => by
    obtain ⟨hp, g, d, tk, os⟩ := s; obtain ⟨hl1, hl2, h⟩ := h
    have hsub := sub_zip
    cases t1 <;> cases t2
    · have hL1 : Heap.IsList (Shared.heap ⟨hp, g, d, tk, os⟩) l1 xs := hl1
      have hL2 : Heap.IsList (Shared.heap ⟨hp.push { cls := .type "list_iterator", data := .fields #[.ref l1, .int 0 0] }, g, d, tk, os⟩) l2 ys := Heap.IsList.push hl2 _
      wp_walk using wpAny_pyIter_list hL1, wpAny_pyIter_list hL2
      exact ⟨_, rfl, h⟩
    · have hL1 : Heap.IsList (Shared.heap ⟨hp, g, d, tk, os⟩) l1 xs := hl1
      have hL2 : Heap.IsTuple (Shared.heap ⟨hp.push { cls := .type "list_iterator", data := .fields #[.ref l1, .int 0 0] }, g, d, tk, os⟩) l2 ys := Heap.IsTuple.push hl2 _
      wp_walk using wpAny_pyIter_list hL1, wpAny_pyIter_tuple hL2
      exact ⟨_, rfl, h⟩
    · have hL1 : Heap.IsTuple (Shared.heap ⟨hp, g, d, tk, os⟩) l1 xs := hl1
      have hL2 : Heap.IsList (Shared.heap ⟨hp.push { cls := .type "tuple_iterator", data := .fields #[.ref l1, .int 0 0] }, g, d, tk, os⟩) l2 ys := Heap.IsList.push hl2 _
      wp_walk using wpAny_pyIter_tuple hL1, wpAny_pyIter_list hL2
      exact ⟨_, rfl, h⟩
    · have hL1 : Heap.IsTuple (Shared.heap ⟨hp, g, d, tk, os⟩) l1 xs := hl1
      have hL2 : Heap.IsTuple (Shared.heap ⟨hp.push { cls := .type "tuple_iterator", data := .fields #[.ref l1, .int 0 0] }, g, d, tk, os⟩) l2 ys := Heap.IsTuple.push hl2 _
      wp_walk using wpAny_pyIter_tuple hL1, wpAny_pyIter_tuple hL2
      exact ⟨_, rfl, h⟩
end XcZ
/-! a type called with keywords. -/
namespace XcZ
open PySem
section
variable {prog : Program} {w : World} {A : Around} {E : Value → Shared → Prop} {s : Shared}
theorem callKw {T newId : String} {Bn Bi : Builtin} {args : List Value} {kw : List (Str × Value)} {S : Spec} {Q Q₁ : Value → Shared → Prop} (ft : TypeCalled T newId "object.__init__")
    (hct : checkTypeCall T ⟨args, kw⟩ = pure ()) (hcn : checkBuiltinCall newId ⟨.type T :: args, kw⟩ = pure ())
    (entryN : entryFor table newId = some Bn) (entryI : entryFor table "object.__init__" = some Bi) (g : Meets (Bn ⟨.type T :: args, kw⟩) S)
    (h : S A.in1 (wants Q₁ E) s)
    (hnext : ∀ obj s₁, Q₁ obj s₁ → s₁.TypeIs obj T ∧ argsOk "object.__init__" ⟨obj :: args, kw⟩ ∧ ∃ Si, Meets (Bi ⟨obj :: args, kw⟩) Si ∧ Si A.in1 (wants (fun r s₂ => r = .none ∧ Q obj s₂) E) s₁) :
    wpAny (model prog w) A (call (.type T) args kw) Q E s := by
  obtain ⟨c, tl, hmro⟩ := ft.mro
  have hmade := ft.made
  have hsub := ft.sub
  refine wpAny_call (codeAny_of_tree ?_)
  show wpAny _ _ (callAny (.type T) _) _ _ _
  refine wpAny_pure ⟨Code.quiet_builtin _ (by decide +kernel), codeAny_builtin F.entry_type_call ?_⟩
  rw [Around.under_plain (weight_type_call_type T args kw) (units_type_call_type T args kw)]
  have h1 := ft.notType
  have h2 := ft.canCreate
  repeat (any_goals (first | assumption | wp_step))
  refine codeAny_mono (codeAny_call_builtin ft.plain entryN (wpAny_of_eq hcn (g prog w A.in1 _ s h))) fun r s₁ hr => ?_
  cases r with
  | error e => exact hr
  | ok fl =>
    cases fl with
    | ret obj =>
      obtain ⟨hT, hok, Si, gi, hsi⟩ := hnext _ _ hr
      have hli := ft.init.lookup
      have hbi := ft.init.bind obj
      repeat (any_goals (first | assumption | wp_step))
      refine codeAny_mono (codeAny_call_builtin ft.init.plain entryI (ft.init.check _ _ _ _ _ _ _ _ hT hok (gi prog w A.in1 _ s₁ hsi))) fun r₂ s₂ hr₂ => ?_
      cases r₂ with
      | error e => exact hr₂
      | ok fl₂ =>
        cases fl₂ with
        | ret r =>
          obtain ⟨rfl, hq⟩ := hr₂
          repeat (any_goals (first | assumption | wp_step))
        | _ => exact hr₂.elim
    | _ => exact hr.elim
end
end XcZ
namespace XcZ
open PySem
theorem init_kw {T newId : String} {self : Value} {rest : List Value} {kw : List (Str × Value)} (hl : typeLookup (.type T) "__init__" = pure (some (.builtin "object.__init__")))
    (hm : Bind.madeBy (.type T) = pure (some newId)) (hne : (some newId != some "object.__new__") = true) :
    Meets (Builtin.«object.__init__» ⟨self :: rest, kw⟩) (fun _ R s => s.TypeIs self T ∧ R (.ok (.ret .none)) s) := by
  refine Meets.of_wp fun prog w A R s hs => ?_
  obtain ⟨hT, hq⟩ := hs
  cases rest with
  | nil =>
    cases kw with
    | nil => exact wpAny_pure ⟨_, rfl, hq⟩
    | cons k kw =>
      repeat (any_goals (first | assumption | wp_step))
      exact ⟨_, rfl, hq⟩
  | cons a rest =>
    repeat (any_goals (first | assumption | wp_step))
    exact ⟨_, rfl, hq⟩
theorem typeCall_s (a b : Value) : checkTypeCall "zip" ⟨[a, b], [("strict", .bool true)]⟩ = pure () := by kernel_rfl
theorem newCall_s (a b : Value) : checkBuiltinCall "zip.__new__" ⟨[.type "zip", a, b], [("strict", .bool true)]⟩ = pure () := by kernel_rfl
theorem args_init_s (a b c : Value) : argsOk "object.__init__" ⟨[a, b, c], [("strict", .bool true)]⟩ := by
  unfold argsOk; rw [signature?_of (id := "object.__init__") (n := ['_', '_', 't', 'i', 'n', 'i', '_', '_']) (o := ['t', 'c', 'e', 'j', 'b', 'o']) (by kernel_rfl) F.owner_object]; kernel_rfl
end XcZ
namespace XcZ
open PySem PySem.Spec PyProof.Rows L2
section
variable {prog : Program} {w : World} {A : Around} {E : Value → Shared → Prop} {s : Shared}
theorem call_zipS {t1 t2 : Bool} {l1 l2 : Addr} {xs ys : Array Value} {Q : Value → Shared → Prop} (hl1 : Sq1 t1 s.heap l1 xs) (hl2 : Sq1 t2 s.heap l2 ys)
    (h : ∀ h', IsZipS h' (s.heap.objs.size + 4) (s.heap.objs.size + 2) (s.heap.objs.size + 3) .none → IsPair h' (s.heap.objs.size + 2) (.ref s.heap.objs.size) (.ref (s.heap.objs.size + 1)) →
      IsPair h' (s.heap.objs.size + 3) .none .none → It1 t1 h' s.heap.objs.size l1 0 → It1 t2 h' (s.heap.objs.size + 1) l2 0 → h'.objs.size = s.heap.objs.size + 5 →
      (∀ c o, s.heap.get? c = some o → h'.get? c = some o) → Q (.ref (s.heap.objs.size + 4)) { s with heap := h' }) :
    wpAny (model prog w) A (call (.type "zip") [.ref l1, .ref l2] [("strict", .bool true)]) Q E s := by
  refine callKw F.called_zip (typeCall_s _ _) (newCall_s _ _) F.entry_zip_new F.entry_object_init (meets_new t1 t2 l1 l2 xs ys) (Q₁ := fun obj s₁ => s₁.TypeIs obj "zip" ∧ Q obj s₁) ⟨hl1, hl2, ?_⟩
    fun obj _ hq => ⟨hq.1, args_init_s obj _ _, _, init_kw F.called_zip.init.lookup F.called_zip.made (by decide), hq.1, rfl, hq.2⟩
  have z1 : (zH1 t1 s.heap l1).objs.size = s.heap.objs.size + 1 := Heap.size_push ..
  have z2 : (zH2 t1 t2 s.heap l1 l2).objs.size = s.heap.objs.size + 2 := by rw [Heap.size_push, z1]
  have z3 : (zH3 t1 t2 s.heap l1 l2).objs.size = s.heap.objs.size + 3 := by rw [Heap.size_push, z2]
  have z4 : (zH4 t1 t2 s.heap l1 l2).objs.size = s.heap.objs.size + 4 := by rw [Heap.size_push, z3]
  have z5 : (zH5 t1 t2 s.heap l1 l2).objs.size = s.heap.objs.size + 5 := by rw [Heap.size_push, z4]
  have g5 : (zH5 t1 t2 s.heap l1 l2).get? (zH4 t1 t2 s.heap l1 l2).objs.size = some _ := Heap.get?_push_size _ rfl
  have g4 : (zH5 t1 t2 s.heap l1 l2).get? (zH3 t1 t2 s.heap l1 l2).objs.size = some _ := Heap.get?_push_of_some _ (Heap.get?_push_size _ rfl)
  have g3 : (zH5 t1 t2 s.heap l1 l2).get? (zH2 t1 t2 s.heap l1 l2).objs.size = some _ := Heap.get?_push_of_some _ (Heap.get?_push_of_some _ (Heap.get?_push_size _ rfl))
  have g2 : (zH5 t1 t2 s.heap l1 l2).get? (zH1 t1 s.heap l1).objs.size = some _ := Heap.get?_push_of_some _ (Heap.get?_push_of_some _ (Heap.get?_push_of_some _ (Heap.get?_push_size _ rfl)))
  have g1 : (zH5 t1 t2 s.heap l1 l2).get? s.heap.objs.size = some _ := Heap.get?_push_of_some _ (Heap.get?_push_of_some _ (Heap.get?_push_of_some _ (Heap.get?_push_of_some _ (Heap.get?_push_size _ rfl))))
  show _ ∧ _
  rw [z2, z3, z4] at g5
  rw [z1, z2] at g3
  rw [z3] at g4
  rw [z1] at g2
  rw [z4]
  refine ⟨⟨_, g5, rfl⟩, h _ g5 g3 g4 ?_ ?_ z5 fun c o x =>
    Heap.get?_push_of_some _ (Heap.get?_push_of_some _ (Heap.get?_push_of_some _ (Heap.get?_push_of_some _ (Heap.get?_push_of_some _ x))))⟩
  · cases t1 <;> exact ⟨_, g1, rfl, rfl⟩
  · cases t2 <;> exact ⟨_, g2, rfl, rfl⟩
end
end XcZ
namespace XcZ
open PySem PySem.Spec PyProof.Rows L2
def SqK (t : Bool) (K : PySem.W.Frag) (H : Hp) (a : Addr) (xs : List V) : Prop := if t then SqT K H a xs else SqL K H a xs
section
variable {X : Cx} {pins : List (Addr × Obj)} {σ : L2.St} {H : Hp} {s : Shared}
theorem SqK.at {t : Bool} {a : Addr} {xs : List V} (I : Inv X pins σ H s) (h : SqK t X.K H a xs) : ∃ its : List Value, Vals xs its ∧ Sq1 t s.heap a its.toArray := by
  cases t with
  | true => obtain ⟨its, r, p, _⟩ := I.tuple h; exact ⟨its, r, p⟩
  | false => obtain ⟨its, r, p, _⟩ := I.list h; exact ⟨its, r, p.isList⟩
theorem SqK.inj {t : Bool} {a : Addr} {xs ys : List V} (I : Inv X pins σ H s) (h : SqK t X.K H a xs) (h' : SqK t X.K H a ys) : xs = ys := by
  cases t with
  | true => exact I.tuple_inj h h'
  | false => exact I.list_inj h h'
end
/-- both, as they stand at each turn -/
def ItzS (t1 t2 : Bool) (K : PySem.W.Frag) (a b : Addr) : L2.It :=
  ⟨fun i H => ∃ (xs ys : List V) (x y : V), SqK t1 K H a xs ∧ SqK t2 K H b ys ∧ xs[i]? = some x ∧ ys[i]? = some y,
    fun i H v H' => ∃ T x y, v = .ref T ∧ H T = none ∧ H' = upd H T (.tup [x, y]) ∧ (∀ xs, SqK t1 K H a xs → xs[i]? = some x) ∧ ∀ ys, SqK t2 K H b ys → ys[i]? = some y,
    fun i H => ∃ xs ys : List V, SqK t1 K H a xs ∧ SqK t2 K H b ys ∧ xs.length ≤ i ∧ ys.length ≤ i⟩
theorem turn_zipS {P : Program} {w : World} {K : PySem.W.Frag} {elts : List Expr} {kk : Nat} {tpos : Pos} {t1 t2 : Bool} {a b z TI TO i1 i2 : Addr} (D : ZipApart z TI TO i1 i2 a b) :
    Turn P w K (.Tuple elts kk tpos) (ItzS t1 t2 K a b) [z, TI, TO, i1, i2] z (fun i h => IsZipS h z TI TO .none ∧ IsPair h TI (.ref i1) (.ref i2) ∧ (∃ x y, IsPair h TO x y) ∧ It1 t1 h i1 a i ∧ It1 t2 h i2 b i) where
  mem := by simp
  obj := fun i h st c hc => by
    obtain ⟨hz, hTI, ⟨x, y, hTO⟩, h1, h2⟩ := st
    have d1 : ∃ o, h.get? i1 = some o ∧ ∀ v, o.data ≠ .cell v := by
      cases t1 <;> (obtain ⟨o, e, _, d⟩ := h1; exact ⟨o, e, fun v q => by rw [d] at q; cases q⟩)
    have d2 : ∃ o, h.get? i2 = some o ∧ ∀ v, o.data ≠ .cell v := by
      cases t2 <;> (obtain ⟨o, e, _, d⟩ := h2; exact ⟨o, e, fun v q => by rw [d] at q; cases q⟩)
    have e' : c = z ∨ c = TI ∨ c = TO ∨ c = i1 ∨ c = i2 := by simpa using hc
    rcases e' with q | q | q | q | q
    · rw [q]; exact ⟨_, hz, fun v q => nomatch q⟩
    · rw [q]; exact ⟨_, hTI, fun v q => nomatch q⟩
    · rw [q]; exact ⟨_, hTO, fun v q => nomatch q⟩
    · rw [q]; exact d1
    · rw [q]; exact d2
  keep := fun i h h' st k => by
    obtain ⟨hz, hTI, ⟨x, y, hTO⟩, h1, h2⟩ := st
    exact ⟨k z (by simp) _ hz, k TI (by simp) _ hTI, ⟨x, y, k TO (by simp) _ hTO⟩, h1.ext fun o q => k i1 (by simp) o q, h2.ext fun o q => k i2 (by simp) o q⟩
  item := by
    intro X hP hw hK hc i pins s σ H E I hf st hg
    subst hP hw hK
    obtain ⟨hz, hTI, ⟨x0, y0, hTO⟩, h1, h2⟩ := st
    obtain ⟨xs, ys, x, y, hqx, hqy, hx, hy⟩ := hg
    obtain ⟨its, rv, p⟩ := hqx.at I
    obtain ⟨its2, rv2, p2⟩ := hqy.at I
    obtain ⟨u, hu, ru⟩ := rv.get hx
    obtain ⟨u2, hu2, ru2⟩ := rv2.get hy
    have hzl : z < s.heap.objs.size := Heap.lt_size hz
    refine pyNext_item D hz hTI hTO h1 h2 p p2 (x := u) (y := u2) (by simpa using hu) (by simpa using hu2) fun h' z' TO' h1' h2' hT hsz hk => ?_
    refine ⟨_, rfl, handOut (s := { s with heap := h' }) z' fun h'' z'' sb => ?_⟩
    have hT2 : h''.get? s.heap.objs.size = some { cls := .type "tuple", data := .seq #[u, u2] } := (sb.2 _ (Nat.ne_of_gt hzl)).trans hT
    have new : ObjOk X.prog X.w (upd H s.heap.objs.size (.tup [x, y])) h'' s.heap.objs.size (.tup [x, y]) :=
      ⟨by show 2 ≤ sizeLine; decide, [u, u2], .cons ru (.cons ru2 .nil), ⟨_, hT2, rfl, _, rfl⟩⟩
    have I1 : Inv X pins σ (upd H s.heap.objs.size (.tup [x, y])) { s with heap := h'' } :=
      I.turnedNew (t' := s.toks) (ch := [z, TI, TO, i1, i2]) (fun c o hb q => (sb.2 c (fun q' => hb (by simp [q']))).trans (hk c o (fun q' => hb (by simp [q'])) (fun q' => hb (by simp [q'])) (fun q' => hb (by simp [q'])) (fun q' => hb (by simp [q'])) q)) hf (Nat.le_refl _) new
    refine ⟨.ref s.heap.objs.size, _, I1, rfl, ⟨_, x, y, rfl, I.hok.fresh (Nat.le_refl _), rfl, fun l hl => by rw [hl.inj I hqx]; exact hx, fun l hl => by rw [hl.inj I hqy]; exact hy⟩, ⟨z'', ?_, ⟨u, u2, ?_⟩, ?_, ?_⟩, fun c hcm => ?_⟩
    · exact (sb.2 _ D.TIz).trans (hk _ _ D.TIz D.TITO D.TIi1 D.TIi2 hTI)
    · exact (sb.2 _ D.TOz).trans TO'
    · exact h1'.ext fun o q => (sb.2 _ D.i1z).trans q
    · exact h2'.ext fun o q => (sb.2 _ D.i2z).trans q
    · have hlt : c < s.heap.objs.size := by
        have e' : c = z ∨ c = TI ∨ c = TO ∨ c = i1 ∨ c = i2 := by simpa using hcm
        rcases e' with q | q | q | q | q
        · rw [q]; exact hzl
        · rw [q]; exact Heap.lt_size hTI
        · rw [q]; exact Heap.lt_size hTO
        · rw [q]; exact h1.lt
        · rw [q]; exact h2.lt
      rw [upd_ne (Nat.ne_of_lt hlt)]
      exact (hf c hcm).1
  done := by
    intro X hP hw hK hc i pins s σ H E I hf st hg
    subst hP hw hK
    obtain ⟨hz, hTI, ⟨x0, y0, hTO⟩, h1, h2⟩ := st
    obtain ⟨xs, ys, hqx, hqy, n1, n2⟩ := hg
    obtain ⟨its, rv, p⟩ := hqx.at I
    obtain ⟨its2, rv2, p2⟩ := hqy.at I
    have l1 := rv.length
    have l2 := rv2.length
    exact pyNext_over (I.ok.hd hc) D hz hTI hTO h1 h2 p p2 (by simp; omega) (by simp; omega) fun h' hk => ⟨rfl, I.turnedL (t' := s.toks) (ch := [z, TI, TO, i1, i2]) (fun c o hb q =>
      hk c o (fun q' => hb (by simp [q'])) (fun q' => hb (by simp [q'])) (fun q' => hb (by simp [q'])) (fun q' => hb (by simp [q'])) q) hf⟩
  self := fun A i s Q E st h => iter_zip st.1 h
end XcZ
namespace XcZ
open PySem PySem.Spec PyProof.Rows L2
section
variable {M : Model} {A : Around} {E : Value → Shared → Prop} {s : Shared} {env : Env}
theorem callWith_typeKw {pos : Pos} {T : String} {first : List Value} {args : List (Bool × Sem Value)} {keywords : List (Option Str × Sem Value)} {Q : Value → Shared → Prop} (hplain : args.any (·.1) = false) (hkw : keywords.any (·.1.isNone) = false)
    (h : wpAny M A (evalArgs (.type T) true args keywords) (fun a s₁ => wpAny M A (call (.type T) (first ++ a.pos) a.kw) Q E s₁) E s) :
    wpAny M A (callWith pos (.type T) first args keywords) Q E s := by
  unfold callWith
  refine wpAny_bind (wpAny_holding (wpAny_mono h (fun a s₁ h₁ => wpAny_bind (wpAny_standAt ?_)) fun _ _ x => x))
  simp only [hplain, hkw, Bool.or_false]
  refine wpAny_bind (wpAny_pure ?_)
  exact wpAny_bind (wpAny_mono h₁ (fun r s₂ hr => wpAny_bind (wpAny_holding (wpAny_point (wpAny_pure hr)))) fun _ _ x => x)
theorem callWith_typeKw1 {pos : Pos} {T : String} {e : Expr} {rest : List Expr} {kws : List Keyword} {Q : Value → Shared → Prop}
    (h : wpAny M A (spliced (backTo pos (starEach (e :: rest) env))) (fun vs s₁ => wpAny M A (evalAll ((backToKw pos (keywordEach kws env)).map (·.2)))
      (fun kvs s₂ => wpAny M A (call (.type T) vs (((backToKw pos (keywordEach kws env)).filterMap (·.1)).zip kvs)) Q E s₂) E s₁) E s)
    (he : starEach (e :: rest) env = (false, eval e env) :: starEach rest env) (hplain : (backTo pos (starEach rest env)).any (·.1) = false)
    (hall : (backToKw pos (keywordEach kws env)).all (·.1.isSome) = true := by rfl) (hkw : (backToKw pos (keywordEach kws env)).any (·.1.isNone) = false := by rfl) :
    wpAny M A (callWith pos (.type T) [] (backTo pos (starEach (e :: rest) env)) (backToKw pos (keywordEach kws env))) Q E s := by
  rw [he] at h ⊢
  refine callWith_typeKw (by show (false || (backTo pos (starEach rest env)).any (·.1)) = false; rw [hplain]; rfl) hkw ?_
  exact evalArgs_kwB hall h
end
theorem Sq1.lt {t : Bool} {h : Heap} {l : Addr} {xs : Array Value} (x : Sq1 t h l xs) : l < h.objs.size := by
  cases t with
  | true => obtain ⟨o, e, _⟩ := x; exact Heap.lt_size e
  | false => obtain ⟨o, e, _⟩ := x; exact Heap.lt_size e
/-- both of them, lists or tuples, as long as one another or not -/
def iZipS (K : PySem.W.Frag) (ta : TA) : TI := fun σ H R => ta σ H fun vs H1 => ∃ (t1 t2 : Bool) (a b : Addr) (xs ys : List V), vs = [.ref a, .ref b] ∧ SqK t1 K H1 a xs ∧ SqK t2 K H1 b ys ∧ R (ItzS t1 t2 K a b) H1
theorem pi_zipS {X : Cx} {e e2 : Expr} {ta : TA} {p pos tpos kp cp : Pos} {elts : List Expr} {kk : Nat} {ci : Nat} (hg : Gl X "zip") (hm : X.mg "zip" = none) (ha : PA X [e, e2] ta)
    (hs : starEach [e, e2] X.env = (false, eval e X.env) :: starEach [e2] X.env := by rfl) (hpl : (backTo pos (starEach [e2] X.env)).any (·.1) = false := by rfl) :
    PI X (.Tuple elts kk tpos) (.Call (.Name "zip" p) [e, e2] [⟨some "strict", .Constant (.bool true) ci cp, kp⟩] pos) (iZipS X.K ta) := by
  refine ⟨fun pins s σ H R I h => ?_⟩
  refine wpAny_Call_Name_kw (ld_blt I hg hm PyProof.Rows.boot_zip (callWith_typeKw1 (thn (ha.run pos pins s σ H _ I h) fun us s1 ⟨vs, H1, I1, r1, q1⟩ => ?_) hs hpl))
  obtain ⟨t1, t2, a, b, xs, ys, ex, hqx, hqy, q⟩ := q1
  subst ex
  cases r1 with
  | cons r rr =>
    cases rr with
    | cons r' rr =>
      cases rr
      cases r
      cases r'
      refine kws_cons (Constant_bool (kws_nil ?_))
      have fresh5 : ∀ c, c ∈ [s1.heap.objs.size + 4, s1.heap.objs.size + 2, s1.heap.objs.size + 3, s1.heap.objs.size, s1.heap.objs.size + 1] → FpOk X pins H1 c := fun c hcm => by
        have e' : c = s1.heap.objs.size + 4 ∨ c = s1.heap.objs.size + 2 ∨ c = s1.heap.objs.size + 3 ∨ c = s1.heap.objs.size ∨ c = s1.heap.objs.size + 1 := by simpa using hcm
        have hle : s1.heap.objs.size ≤ c := by
          rcases e' with z | z | z | z | z
          · rw [z]; exact Nat.le_add_right _ _
          · rw [z]; exact Nat.le_add_right _ _
          · rw [z]; exact Nat.le_add_right _ _
          · rw [z]; exact Nat.le_refl _
          · rw [z]; exact Nat.le_add_right _ _
        exact I1.fpOk hle (I1.hok.fresh hle)
      obtain ⟨its, rv, p1⟩ := hqx.at I1
      obtain ⟨its2, rv2, p2⟩ := hqy.at I1
      refine call_zipS p1 p2 fun h' hz hTI hTO h1 h2 hsz hk => iter_zip hz ?_
      have I2 : Inv X pins σ H1 { s1 with heap := h' } := I1.kept (t' := s1.toks) hk
      exact ⟨s1.heap.objs.size + 4, [s1.heap.objs.size + 4, s1.heap.objs.size + 2, s1.heap.objs.size + 3, s1.heap.objs.size, s1.heap.objs.size + 1], _, _, H1, rfl, I2, turn_zipS (PySem.W.ktu_apart s1.heap.objs.size a b (Sq1.lt p1) (Sq1.lt p2)), ⟨hz, hTI, ⟨_, _, hTO⟩, h1, h2⟩, fresh5, q⟩
end XcZ
/-! zip(a, b, strict=False) of lists and tuples, mixed. -/
namespace XcZ
open PySem PySem.Spec PyProof.Rows L2
section
variable {prog : Program} {w : World} {A : Around} {E : Value → Shared → Prop} {s : Shared}
theorem next_pairF {t1 t2 : Bool} {z TI TO i1 i2 l1 l2 : Addr} {k1 k2 : Nat} {xs ys : Array Value} {x y a b : Value} {Q : Value → Shared → Prop} (D : ZipApart z TI TO i1 i2 l1 l2)
    (hz : IsZip s.heap z TI TO .none) (hTI : IsPair s.heap TI (.ref i1) (.ref i2)) (hTO : IsPair s.heap TO a b)
    (h1 : It1 t1 s.heap i1 l1 k1) (h2 : It1 t2 s.heap i2 l2 k2) (hl1 : Sq1 t1 s.heap l1 xs) (hl2 : Sq1 t2 s.heap l2 ys) (hx : xs[k1]? = some x) (hy : ys[k2]? = some y)
    (hQ : ∀ h', IsZip h' z TI TO (rawInt s.heap.objs.size) → IsPair h' TO x y → It1 t1 h' i1 l1 (k1 + 1) → It1 t2 h' i2 l2 (k2 + 1) → IsPair h' s.heap.objs.size x y → h'.objs.size = s.heap.objs.size + 1 →
      (∀ c o, c ≠ z → c ≠ TO → c ≠ i1 → c ≠ i2 → s.heap.get? c = some o → h'.get? c = some o) → Q (.ref s.heap.objs.size) { s with heap := h' }) :
    wpAny (model prog w) A (Builtin.«zip.__next__» ⟨[.ref z], []⟩) (fun fin s' => ∃ v, fin = .done (.ret v) ∧ Q v s') E s := by
  show wpAny _ _ (field (.ref z) 2 >>= _) _ _ _
  refine wpAny_bind (wpAny_field hz rfl (x := .bool false) rfl ?_)
  show wpAny _ _ (field (.ref z) 3 >>= _) _ _ _
  refine wpAny_bind (wpAny_field hz rfl (x := .ref TI) rfl ?_)
  refine wpAny_bind (wpAny_seqItems hTI rfl ?_)
  show wpAny _ _ (Builtin.SmallTypes.ownedTupleIsFree (.ref z) >>= _) _ _ _
  refine wpAny_bind ?_
  unfold Builtin.SmallTypes.ownedTupleIsFree
  refine wpAny_bind (wpAny_field hz rfl (x := .none) rfl (wpAny_pure ?_))
  simp only [if_true]
  refine wpAny_bind (wpAny_rule ?_)
  refine wpAny_bind (wpAny_field hz rfl (x := .ref TO) rfl ?_)
  refine wpAny_bind (wpAny_setField_rec hz (by simp) fun h₁ hz₁ hs₁ => ?_)
  replace hz₁ : IsZip h₁ z TI TO .ellipsis := hz₁
  refine wpAny_bind ?_
  simp only [List.zipIdx_cons, List.zipIdx_nil, List.forIn_cons, List.forIn_nil]
  refine wpAny_bind (wpAny_bind (wpAny_onRaise ?_))
  show wpAny _ _ (Builtin.SmallTypes.nextOf (.ref i1) >>= _) _ _ _
  refine wpAny_bind (next_item (h1.ext fun o e => hs₁.extBut _ _ D.i1z e) (hl1.ext fun o e => hs₁.extBut _ _ D.l1z e) hx fun h₂ h1₂ hs₂ => wpAny_pure ?_)
  have hTO₂ : IsPair h₂ TO a b := hs₂.extBut _ _ D.TOi1 (hs₁.extBut _ _ D.TOz hTO)
  refine wpAny_bind (wpAny_seqItems hTO₂ rfl ?_)
  refine wpAny_bind (wpAny_updateSeq_pair hTO₂ fun h₃ hTO₃ hs₃ => ?_)
  replace hTO₃ : IsPair h₃ TO x b := hTO₃
  refine wpAny_bind (wpAny_letGo (wpAny_pure ?_))
  refine wpAny_bind (wpAny_bind (wpAny_onRaise ?_))
  show wpAny _ _ (Builtin.SmallTypes.nextOf (.ref i2) >>= _) _ _ _
  refine wpAny_bind (next_item (h2.ext fun o e => hs₃.extBut _ _ D.TOi2.symm (hs₂.extBut _ _ D.i12.symm (hs₁.extBut _ _ D.i2z e))) (hl2.ext fun o e => hs₃.extBut _ _ D.l2TO (hs₂.extBut _ _ D.l2i1 (hs₁.extBut _ _ D.l2z e))) hy fun h₄ h2₄ hs₄ => wpAny_pure ?_)
  have hTO₄ : IsPair h₄ TO x b := hs₄.extBut _ _ D.TOi2 hTO₃
  refine wpAny_bind (wpAny_seqItems hTO₄ rfl ?_)
  refine wpAny_bind (wpAny_updateSeq_pair hTO₄ fun h₅ hTO₅ hs₅ => ?_)
  replace hTO₅ : IsPair h₅ TO x y := hTO₅
  refine wpAny_bind (wpAny_letGo (wpAny_pure (wpAny_pure ?_)))
  refine wpAny_bind (wpAny_seqItems hTO₅ rfl ?_)
  refine wpAny_bind (wpAny_newTuple ?_)
  have hsz : h₅.objs.size = s.heap.objs.size := by rw [hs₅.1, hs₄.1, hs₃.1, hs₂.1, hs₁.1]
  have hz₅ : IsZip h₅ z TI TO .ellipsis := hs₅.extBut _ _ D.TOz.symm (hs₄.extBut _ _ D.i2z.symm (hs₃.extBut _ _ D.TOz.symm (hs₂.extBut _ _ D.i1z.symm hz₁)))
  have hk₅ : ∀ c o, c ≠ z → c ≠ TO → c ≠ i1 → c ≠ i2 → s.heap.get? c = some o → h₅.get? c = some o := fun c o c1 c2 c3 c4 e =>
    hs₅.extBut _ _ c2 (hs₄.extBut _ _ c4 (hs₃.extBut _ _ c2 (hs₂.extBut _ _ c3 (hs₁.extBut _ _ c1 e))))
  have h1₅ : It1 t1 h₅ i1 l1 (k1 + 1) := h1₂.ext fun o e => hs₅.extBut _ _ D.TOi1.symm (hs₄.extBut _ _ D.i12 (hs₃.extBut _ _ D.TOi1.symm e))
  have h2₅ : It1 t2 h₅ i2 l2 (k2 + 1) := h2₄.ext fun o e => hs₅.extBut _ _ D.TOi2.symm e
  have hzlt : z < h₅.objs.size := Heap.lt_size hz₅
  show wpAny _ _ (Builtin.SmallTypes.ownedTupleHandOut (.ref z) (.ref h₅.objs.size) >>= _) _ _ _
  refine wpAny_bind ?_
  unfold Builtin.SmallTypes.ownedTupleHandOut
  have hz₆ : IsZip (h₅.push { cls := .type "tuple", data := .seq #[x, y] }) z TI TO .ellipsis := Heap.get?_push_of_some _ hz₅
  refine wpAny_bind (wpAny_setField_rec hz₆ (by simp) fun h₇ hz₇ hs₇ => ?_)
  replace hz₇ : IsZip h₇ z TI TO (rawInt h₅.objs.size) := hz₇
  refine wpAny_setField_rec hz₇ (by simp) fun h₈ hz₈ hs₈ => ?_
  replace hz₈ : IsZip h₈ z TI TO (rawInt h₅.objs.size) := hz₈
  have up : ∀ c o, c ≠ z → h₅.get? c = some o → h₈.get? c = some o := fun c o c1 e => hs₈.extBut _ _ c1 (hs₇.extBut _ _ c1 (Heap.get?_push_of_some _ e))
  have hT₈ : IsPair h₈ h₅.objs.size x y := hs₈.extBut _ _ (Nat.ne_of_gt hzlt) (hs₇.extBut _ _ (Nat.ne_of_gt hzlt) (Heap.get?_push_size _ rfl))
  have hz8 : h₈.objs.size = h₅.objs.size + 1 := by rw [hs₈.1, hs₇.1, Heap.size_push]
  rw [hsz] at hz₈ hT₈ hz8
  refine wpAny_pure ⟨_, rfl, ?_⟩
  show Q (.ref h₅.objs.size) _
  rw [hsz]
  exact hQ h₈ hz₈ (up _ _ D.TOz hTO₅) (h1₅.ext fun o e => up _ o D.i1z e) (h2₅.ext fun o e => up _ o D.i2z e) hT₈ hz8 fun c o c1 c2 c3 c4 e => up c o c1 (hk₅ c o c1 c2 c3 c4 e)
theorem next_overF {t1 t2 : Bool} {z TI TO i1 i2 l1 l2 : Addr} {k1 k2 : Nat} {xs ys : Array Value} {a b : Value} {Q : Fin → Shared → Prop} (hh : A.handled = none) (D : ZipApart z TI TO i1 i2 l1 l2)
    (hz : IsZip s.heap z TI TO .none) (hTI : IsPair s.heap TI (.ref i1) (.ref i2)) (hTO : IsPair s.heap TO a b)
    (h1 : It1 t1 s.heap i1 l1 k1) (h2 : It1 t2 s.heap i2 l2 k2) (hl1 : Sq1 t1 s.heap l1 xs) (hl2 : Sq1 t2 s.heap l2 ys) (hend : xs[k1]? = none ∨ ys[k2]? = none)
    (hE : ∀ h' e, (∀ c o, c ≠ z → c ≠ TO → c ≠ i1 → c ≠ i2 → s.heap.get? c = some o → h'.get? c = some o) → (∃ o, h'.get? e = some o ∧ o.cls = .type "StopIteration") → E (.ref e) { s with heap := h' }) :
    wpAny (model prog w) A (Builtin.«zip.__next__» ⟨[.ref z], []⟩) Q E s := by
  show wpAny _ _ (field (.ref z) 2 >>= _) _ _ _
  refine wpAny_bind (wpAny_field hz rfl (x := .bool false) rfl ?_)
  show wpAny _ _ (field (.ref z) 3 >>= _) _ _ _
  refine wpAny_bind (wpAny_field hz rfl (x := .ref TI) rfl ?_)
  refine wpAny_bind (wpAny_seqItems hTI rfl ?_)
  show wpAny _ _ (Builtin.SmallTypes.ownedTupleIsFree (.ref z) >>= _) _ _ _
  refine wpAny_bind ?_
  unfold Builtin.SmallTypes.ownedTupleIsFree
  refine wpAny_bind (wpAny_field hz rfl (x := .none) rfl (wpAny_pure ?_))
  simp only [if_true]
  refine wpAny_bind (wpAny_rule ?_)
  refine wpAny_bind (wpAny_field hz rfl (x := .ref TO) rfl ?_)
  refine wpAny_bind (wpAny_setField_rec hz (by simp) fun h₁ hz₁ hs₁ => ?_)
  replace hz₁ : IsZip h₁ z TI TO .ellipsis := hz₁
  refine wpAny_bind ?_
  simp only [List.zipIdx_cons, List.zipIdx_nil, List.forIn_cons, List.forIn_nil]
  refine wpAny_bind (wpAny_bind (wpAny_onRaise ?_))
  show wpAny _ _ (Builtin.SmallTypes.nextOf (.ref i1) >>= _) _ _ _
  cases hx : xs[k1]? with
  | none =>
    refine wpAny_bind (next_end hh (h1.ext fun o e => hs₁.extBut _ _ D.i1z e) (hl1.ext fun o e => hs₁.extBut _ _ D.l1z e) hx fun h₂ e hs₂ he => ?_)
    obtain ⟨oe, hoe, hce⟩ := he
    have hz₂ : IsZip h₂ z TI TO .ellipsis := hs₂ _ _ D.i1z.symm hz₁
    have hez : e ≠ z := fun x => by subst x; rw [hz₂] at hoe; cases hoe; simp at hce
    refine wpAny_setField_rec hz₂ (by simp) fun h₃ _ hs₃ => hE h₃ e (fun c o c1 _ c3 _ x => hs₃.extBut _ _ c1 (hs₂ _ _ c3 (hs₁.extBut _ _ c1 x))) ⟨oe, hs₃.extBut _ _ hez hoe, hce⟩
  | some x =>
    have hy : ys[k2]? = none := by rcases hend with h | h; rw [hx] at h; cases h; exact h
    refine wpAny_bind (next_item (h1.ext fun o e => hs₁.extBut _ _ D.i1z e) (hl1.ext fun o e => hs₁.extBut _ _ D.l1z e) hx fun h₂ h1₂ hs₂ => wpAny_pure ?_)
    have hTO₂ : IsPair h₂ TO a b := hs₂.extBut _ _ D.TOi1 (hs₁.extBut _ _ D.TOz hTO)
    refine wpAny_bind (wpAny_seqItems hTO₂ rfl ?_)
    refine wpAny_bind (wpAny_updateSeq_pair hTO₂ fun h₃ hTO₃ hs₃ => ?_)
    refine wpAny_bind (wpAny_letGo (wpAny_pure ?_))
    refine wpAny_bind (wpAny_bind (wpAny_onRaise ?_))
    show wpAny _ _ (Builtin.SmallTypes.nextOf (.ref i2) >>= _) _ _ _
    refine wpAny_bind (next_end hh (h2.ext fun o e => hs₃.extBut _ _ D.TOi2.symm (hs₂.extBut _ _ D.i12.symm (hs₁.extBut _ _ D.i2z e))) (hl2.ext fun o e => hs₃.extBut _ _ D.l2TO (hs₂.extBut _ _ D.l2i1 (hs₁.extBut _ _ D.l2z e))) hy fun h₄ e hs₄ he => ?_)
    obtain ⟨oe, hoe, hce⟩ := he
    have hz₄ : IsZip h₄ z TI TO .ellipsis := hs₄ _ _ D.i2z.symm (hs₃.extBut _ _ D.TOz.symm (hs₂.extBut _ _ D.i1z.symm hz₁))
    have hez : e ≠ z := fun x => by subst x; rw [hz₄] at hoe; cases hoe; simp at hce
    refine wpAny_setField_rec hz₄ (by simp) fun h₅ _ hs₅ => hE h₅ e (fun c o c1 c2 c3 c4 x => hs₅.extBut _ _ c1 (hs₄ _ _ c4 (hs₃.extBut _ _ c2 (hs₂.extBut _ _ c3 (hs₁.extBut _ _ c1 x))))) ⟨oe, hs₅.extBut _ _ hez hoe, hce⟩

theorem pyNext_itemF {t1 t2 : Bool} {z TI TO i1 i2 l1 l2 : Addr} {k1 k2 : Nat} {xs ys : Array Value} {x y a b : Value} {Q : Option Value → Shared → Prop} (D : ZipApart z TI TO i1 i2 l1 l2)
    (hz : IsZip s.heap z TI TO .none) (hTI : IsPair s.heap TI (.ref i1) (.ref i2)) (hTO : IsPair s.heap TO a b)
    (h1 : It1 t1 s.heap i1 l1 k1) (h2 : It1 t2 s.heap i2 l2 k2) (hl1 : Sq1 t1 s.heap l1 xs) (hl2 : Sq1 t2 s.heap l2 ys) (hx : xs[k1]? = some x) (hy : ys[k2]? = some y)
    (hQ : ∀ h', IsZip h' z TI TO (rawInt s.heap.objs.size) → IsPair h' TO x y → It1 t1 h' i1 l1 (k1 + 1) → It1 t2 h' i2 l2 (k2 + 1) → IsPair h' s.heap.objs.size x y → h'.objs.size = s.heap.objs.size + 1 →
      (∀ c o, c ≠ z → c ≠ TO → c ≠ i1 → c ≠ i2 → s.heap.get? c = some o → h'.get? c = some o) → Q (some (.ref s.heap.objs.size)) { s with heap := h' }) :
    wpAny (model prog w) A (pyNext (.ref z)) Q E s := by
  have hT : s.TypeIs (.ref z) "zip" := ⟨_, hz, rfl⟩
  unfold pyNext
  exact wpAny_bind (wpAny_attempt (wpAny_callSpecial?_slot (name := Str.ofString "__next__") hT F.slot_zip_next
    (wpAny_call_entry F.slot_zip_next hT F.entry_zip_next
      (next_pairF D hz hTI hTO h1 h2 hl1 hl2 hx hy fun h' a1 a2 a3 a4 a5 a6 a7 => wpAny_pure (hQ h' a1 a2 a3 a4 a5 a6 a7)) (F.args_zip_next_1 _))))
theorem pyNext_overF {t1 t2 : Bool} {z TI TO i1 i2 l1 l2 : Addr} {k1 k2 : Nat} {xs ys : Array Value} {a b : Value} {Q : Option Value → Shared → Prop} (hh : A.handled = none) (D : ZipApart z TI TO i1 i2 l1 l2)
    (hz : IsZip s.heap z TI TO .none) (hTI : IsPair s.heap TI (.ref i1) (.ref i2)) (hTO : IsPair s.heap TO a b)
    (h1 : It1 t1 s.heap i1 l1 k1) (h2 : It1 t2 s.heap i2 l2 k2) (hl1 : Sq1 t1 s.heap l1 xs) (hl2 : Sq1 t2 s.heap l2 ys) (hend : xs[k1]? = none ∨ ys[k2]? = none)
    (hQ : ∀ h', (∀ c o, c ≠ z → c ≠ TO → c ≠ i1 → c ≠ i2 → s.heap.get? c = some o → h'.get? c = some o) → Q none { s with heap := h' }) : wpAny (model prog w) A (pyNext (.ref z)) Q E s := by
  have hT : s.TypeIs (.ref z) "zip" := ⟨_, hz, rfl⟩
  unfold pyNext
  refine wpAny_bind (wpAny_attempt (wpAny_callSpecial?_slot (name := Str.ofString "__next__") hT F.slot_zip_next
    (wpAny_call_entry F.slot_zip_next hT F.entry_zip_next (next_overF hh D hz hTI hTO h1 h2 hl1 hl2 hend fun h' e hk he => ?_) (F.args_zip_next_1 _))))
  obtain ⟨o, ho, hc⟩ := he
  refine wpAny_bind (wpAny_isInstance (T := "StopIteration") (b := true) ⟨o, ho, hc⟩ isSubtype_stop ?_)
  exact wpAny_pure (hQ _ hk)
end
abbrev zF5 (t1 t2 : Bool) (h : Heap) (l1 l2 : Addr) : Heap := (zH4 t1 t2 h l1 l2).push { cls := .type "zip", data := .fields #[.none, .bool false, .bool false, .ref (zH2 t1 t2 h l1 l2).objs.size, .ref (zH3 t1 t2 h l1 l2).objs.size] }
theorem meets_newF (t1 t2 : Bool) (l1 l2 : Addr) (xs ys : Array Value) :
    Meets (Builtin.«zip.__new__» ⟨[.type "zip", .ref l1, .ref l2], [("strict", .bool false)]⟩) (fun _ R s => Sq1 t1 s.heap l1 xs ∧ Sq1 t2 s.heap l2 ys ∧
      R (.ok (.ret (.ref (zH4 t1 t2 s.heap l1 l2).objs.size))) { s with heap := zF5 t1 t2 s.heap l1 l2 }) :=
  .of_wp fun prog w A R s h => by
    obtain ⟨hp, g, d, tk, os⟩ := s; obtain ⟨hl1, hl2, h⟩ := h
    have hsub := sub_zip
    cases t1 <;> cases t2
    · have hL1 : Heap.IsList (Shared.heap ⟨hp, g, d, tk, os⟩) l1 xs := hl1
      have hL2 : Heap.IsList (Shared.heap ⟨hp.push { cls := .type "list_iterator", data := .fields #[.ref l1, .int 0 0] }, g, d, tk, os⟩) l2 ys := Heap.IsList.push hl2 _
      wp_walk using wpAny_pyIter_list hL1, wpAny_pyIter_list hL2
      exact ⟨_, rfl, h⟩
    · have hL1 : Heap.IsList (Shared.heap ⟨hp, g, d, tk, os⟩) l1 xs := hl1
      have hL2 : Heap.IsTuple (Shared.heap ⟨hp.push { cls := .type "list_iterator", data := .fields #[.ref l1, .int 0 0] }, g, d, tk, os⟩) l2 ys := Heap.IsTuple.push hl2 _
      wp_walk using wpAny_pyIter_list hL1, wpAny_pyIter_tuple hL2
      exact ⟨_, rfl, h⟩
    · have hL1 : Heap.IsTuple (Shared.heap ⟨hp, g, d, tk, os⟩) l1 xs := hl1
      have hL2 : Heap.IsList (Shared.heap ⟨hp.push { cls := .type "tuple_iterator", data := .fields #[.ref l1, .int 0 0] }, g, d, tk, os⟩) l2 ys := Heap.IsList.push hl2 _
      wp_walk using wpAny_pyIter_tuple hL1, wpAny_pyIter_list hL2
      exact ⟨_, rfl, h⟩
    · have hL1 : Heap.IsTuple (Shared.heap ⟨hp, g, d, tk, os⟩) l1 xs := hl1
      have hL2 : Heap.IsTuple (Shared.heap ⟨hp.push { cls := .type "tuple_iterator", data := .fields #[.ref l1, .int 0 0] }, g, d, tk, os⟩) l2 ys := Heap.IsTuple.push hl2 _
      wp_walk using wpAny_pyIter_tuple hL1, wpAny_pyIter_tuple hL2
      exact ⟨_, rfl, h⟩
theorem typeCall_f (a b : Value) : checkTypeCall "zip" ⟨[a, b], [("strict", .bool false)]⟩ = pure () := by kernel_rfl
theorem newCall_f (a b : Value) : checkBuiltinCall "zip.__new__" ⟨[.type "zip", a, b], [("strict", .bool false)]⟩ = pure () := by kernel_rfl
theorem args_init_f (a b c : Value) : argsOk "object.__init__" ⟨[a, b, c], [("strict", .bool false)]⟩ := by
  unfold argsOk; rw [signature?_of (id := "object.__init__") (n := ['_', '_', 't', 'i', 'n', 'i', '_', '_']) (o := ['t', 'c', 'e', 'j', 'b', 'o']) (by kernel_rfl) F.owner_object]; kernel_rfl
section
variable {prog : Program} {w : World} {A : Around} {E : Value → Shared → Prop} {s : Shared}
theorem call_zipF {t1 t2 : Bool} {l1 l2 : Addr} {xs ys : Array Value} {Q : Value → Shared → Prop} (hl1 : Sq1 t1 s.heap l1 xs) (hl2 : Sq1 t2 s.heap l2 ys)
    (h : ∀ h', IsZip h' (s.heap.objs.size + 4) (s.heap.objs.size + 2) (s.heap.objs.size + 3) .none → IsPair h' (s.heap.objs.size + 2) (.ref s.heap.objs.size) (.ref (s.heap.objs.size + 1)) →
      IsPair h' (s.heap.objs.size + 3) .none .none → It1 t1 h' s.heap.objs.size l1 0 → It1 t2 h' (s.heap.objs.size + 1) l2 0 → h'.objs.size = s.heap.objs.size + 5 →
      (∀ c o, s.heap.get? c = some o → h'.get? c = some o) → Q (.ref (s.heap.objs.size + 4)) { s with heap := h' }) :
    wpAny (model prog w) A (call (.type "zip") [.ref l1, .ref l2] [("strict", .bool false)]) Q E s := by
  refine callKw F.called_zip (typeCall_f _ _) (newCall_f _ _) F.entry_zip_new F.entry_object_init (meets_newF t1 t2 l1 l2 xs ys) (Q₁ := fun obj s₁ => s₁.TypeIs obj "zip" ∧ Q obj s₁) ⟨hl1, hl2, ?_⟩
    fun obj _ hq => ⟨hq.1, args_init_f obj _ _, _, init_kw F.called_zip.init.lookup F.called_zip.made (by decide), hq.1, rfl, hq.2⟩
  have z1 : (zH1 t1 s.heap l1).objs.size = s.heap.objs.size + 1 := Heap.size_push ..
  have z2 : (zH2 t1 t2 s.heap l1 l2).objs.size = s.heap.objs.size + 2 := by rw [Heap.size_push, z1]
  have z3 : (zH3 t1 t2 s.heap l1 l2).objs.size = s.heap.objs.size + 3 := by rw [Heap.size_push, z2]
  have z4 : (zH4 t1 t2 s.heap l1 l2).objs.size = s.heap.objs.size + 4 := by rw [Heap.size_push, z3]
  have z5 : (zF5 t1 t2 s.heap l1 l2).objs.size = s.heap.objs.size + 5 := by rw [Heap.size_push, z4]
  have g5 : (zF5 t1 t2 s.heap l1 l2).get? (zH4 t1 t2 s.heap l1 l2).objs.size = some _ := Heap.get?_push_size _ rfl
  have g4 : (zF5 t1 t2 s.heap l1 l2).get? (zH3 t1 t2 s.heap l1 l2).objs.size = some _ := Heap.get?_push_of_some _ (Heap.get?_push_size _ rfl)
  have g3 : (zF5 t1 t2 s.heap l1 l2).get? (zH2 t1 t2 s.heap l1 l2).objs.size = some _ := Heap.get?_push_of_some _ (Heap.get?_push_of_some _ (Heap.get?_push_size _ rfl))
  have g2 : (zF5 t1 t2 s.heap l1 l2).get? (zH1 t1 s.heap l1).objs.size = some _ := Heap.get?_push_of_some _ (Heap.get?_push_of_some _ (Heap.get?_push_of_some _ (Heap.get?_push_size _ rfl)))
  have g1 : (zF5 t1 t2 s.heap l1 l2).get? s.heap.objs.size = some _ := Heap.get?_push_of_some _ (Heap.get?_push_of_some _ (Heap.get?_push_of_some _ (Heap.get?_push_of_some _ (Heap.get?_push_size _ rfl))))
  show _ ∧ _
  rw [z2, z3, z4] at g5
  rw [z1, z2] at g3
  rw [z3] at g4
  rw [z1] at g2
  rw [z4]
  refine ⟨⟨_, g5, rfl⟩, h _ g5 g3 g4 ?_ ?_ z5 fun c o x =>
    Heap.get?_push_of_some _ (Heap.get?_push_of_some _ (Heap.get?_push_of_some _ (Heap.get?_push_of_some _ (Heap.get?_push_of_some _ x))))⟩
  · cases t1 <;> exact ⟨_, g1, rfl, rfl⟩
  · cases t2 <;> exact ⟨_, g2, rfl, rfl⟩
end
/-- both, as they stand at each turn -/
def ItzF (t1 t2 : Bool) (K : PySem.W.Frag) (a b : Addr) : L2.It :=
  ⟨fun i H => ∃ (xs ys : List V) (x y : V), SqK t1 K H a xs ∧ SqK t2 K H b ys ∧ xs[i]? = some x ∧ ys[i]? = some y,
    fun i H v H' => ∃ T x y, v = .ref T ∧ H T = none ∧ H' = upd H T (.tup [x, y]) ∧ (∀ xs, SqK t1 K H a xs → xs[i]? = some x) ∧ ∀ ys, SqK t2 K H b ys → ys[i]? = some y,
    fun i H => ∃ xs ys : List V, SqK t1 K H a xs ∧ SqK t2 K H b ys ∧ (xs.length ≤ i ∨ ys.length ≤ i)⟩
theorem turn_zipF {P : Program} {w : World} {K : PySem.W.Frag} {elts : List Expr} {kk : Nat} {tpos : Pos} {t1 t2 : Bool} {a b z TI TO i1 i2 : Addr} (D : ZipApart z TI TO i1 i2 a b) :
    Turn P w K (.Tuple elts kk tpos) (ItzF t1 t2 K a b) [z, TI, TO, i1, i2] z (fun i h => IsZip h z TI TO .none ∧ IsPair h TI (.ref i1) (.ref i2) ∧ (∃ x y, IsPair h TO x y) ∧ It1 t1 h i1 a i ∧ It1 t2 h i2 b i) where
  mem := by simp
  obj := fun i h st c hc => by
    obtain ⟨hz, hTI, ⟨x, y, hTO⟩, h1, h2⟩ := st
    have d1 : ∃ o, h.get? i1 = some o ∧ ∀ v, o.data ≠ .cell v := by
      cases t1 <;> (obtain ⟨o, e, _, d⟩ := h1; exact ⟨o, e, fun v q => by rw [d] at q; cases q⟩)
    have d2 : ∃ o, h.get? i2 = some o ∧ ∀ v, o.data ≠ .cell v := by
      cases t2 <;> (obtain ⟨o, e, _, d⟩ := h2; exact ⟨o, e, fun v q => by rw [d] at q; cases q⟩)
    have e' : c = z ∨ c = TI ∨ c = TO ∨ c = i1 ∨ c = i2 := by simpa using hc
    rcases e' with q | q | q | q | q
    · rw [q]; exact ⟨_, hz, fun v q => nomatch q⟩
    · rw [q]; exact ⟨_, hTI, fun v q => nomatch q⟩
    · rw [q]; exact ⟨_, hTO, fun v q => nomatch q⟩
    · rw [q]; exact d1
    · rw [q]; exact d2
  keep := fun i h h' st k => by
    obtain ⟨hz, hTI, ⟨x, y, hTO⟩, h1, h2⟩ := st
    exact ⟨k z (by simp) _ hz, k TI (by simp) _ hTI, ⟨x, y, k TO (by simp) _ hTO⟩, h1.ext fun o q => k i1 (by simp) o q, h2.ext fun o q => k i2 (by simp) o q⟩
  item := by
    intro X hP hw hK hc i pins s σ H E I hf st hg
    subst hP hw hK
    obtain ⟨hz, hTI, ⟨x0, y0, hTO⟩, h1, h2⟩ := st
    obtain ⟨xs, ys, x, y, hqx, hqy, hx, hy⟩ := hg
    obtain ⟨its, rv, p⟩ := hqx.at I
    obtain ⟨its2, rv2, p2⟩ := hqy.at I
    obtain ⟨u, hu, ru⟩ := rv.get hx
    obtain ⟨u2, hu2, ru2⟩ := rv2.get hy
    have hzl : z < s.heap.objs.size := Heap.lt_size hz
    refine pyNext_itemF D hz hTI hTO h1 h2 p p2 (x := u) (y := u2) (by simpa using hu) (by simpa using hu2) fun h' z' TO' h1' h2' hT hsz hk => ?_
    refine ⟨_, rfl, wpAny_letOwnedTupleGo_zip (s := { s with heap := h' }) z' fun h'' z'' sb => ?_⟩
    have hT2 : h''.get? s.heap.objs.size = some { cls := .type "tuple", data := .seq #[u, u2] } := (sb.2 _ (Nat.ne_of_gt hzl)).trans hT
    have new : ObjOk X.prog X.w (upd H s.heap.objs.size (.tup [x, y])) h'' s.heap.objs.size (.tup [x, y]) :=
      ⟨by show 2 ≤ sizeLine; decide, [u, u2], .cons ru (.cons ru2 .nil), ⟨_, hT2, rfl, _, rfl⟩⟩
    have I1 : Inv X pins σ (upd H s.heap.objs.size (.tup [x, y])) { s with heap := h'' } :=
      I.turnedNew (t' := s.toks) (ch := [z, TI, TO, i1, i2]) (fun c o hb q => (sb.2 c (fun q' => hb (by simp [q']))).trans (hk c o (fun q' => hb (by simp [q'])) (fun q' => hb (by simp [q'])) (fun q' => hb (by simp [q'])) (fun q' => hb (by simp [q'])) q)) hf (Nat.le_refl _) new
    refine ⟨.ref s.heap.objs.size, _, I1, rfl, ⟨_, x, y, rfl, I.hok.fresh (Nat.le_refl _), rfl, fun l hl => by rw [hl.inj I hqx]; exact hx, fun l hl => by rw [hl.inj I hqy]; exact hy⟩, ⟨z'', ?_, ⟨u, u2, ?_⟩, ?_, ?_⟩, fun c hcm => ?_⟩
    · exact (sb.2 _ D.TIz).trans (hk _ _ D.TIz D.TITO D.TIi1 D.TIi2 hTI)
    · exact (sb.2 _ D.TOz).trans TO'
    · exact h1'.ext fun o q => (sb.2 _ D.i1z).trans q
    · exact h2'.ext fun o q => (sb.2 _ D.i2z).trans q
    · have hlt : c < s.heap.objs.size := by
        have e' : c = z ∨ c = TI ∨ c = TO ∨ c = i1 ∨ c = i2 := by simpa using hcm
        rcases e' with q | q | q | q | q
        · rw [q]; exact hzl
        · rw [q]; exact Heap.lt_size hTI
        · rw [q]; exact Heap.lt_size hTO
        · rw [q]; exact h1.lt
        · rw [q]; exact h2.lt
      rw [upd_ne (Nat.ne_of_lt hlt)]
      exact (hf c hcm).1
  done := by
    intro X hP hw hK hc i pins s σ H E I hf st hg
    subst hP hw hK
    obtain ⟨hz, hTI, ⟨x0, y0, hTO⟩, h1, h2⟩ := st
    obtain ⟨xs, ys, hqx, hqy, hend⟩ := hg
    obtain ⟨its, rv, p⟩ := hqx.at I
    obtain ⟨its2, rv2, p2⟩ := hqy.at I
    have l1 := rv.length
    have l2 := rv2.length
    have he : its.toArray[i]? = none ∨ its2.toArray[i]? = none := by
      rcases hend with q | q
      · exact .inl (by simp; omega)
      · exact .inr (by simp; omega)
    exact pyNext_overF (I.ok.hd hc) D hz hTI hTO h1 h2 p p2 he fun h' hk => ⟨rfl, I.turnedL (t' := s.toks) (ch := [z, TI, TO, i1, i2]) (fun c o hb q =>
      hk c o (fun q' => hb (by simp [q'])) (fun q' => hb (by simp [q'])) (fun q' => hb (by simp [q'])) (fun q' => hb (by simp [q'])) q) hf⟩
  self := fun A i s Q E st h => wpAny_pyIter_zip st.1 h
/-- both of them, lists or tuples, as long as one another or not -/
def iZipF (K : PySem.W.Frag) (ta : TA) : TI := fun σ H R => ta σ H fun vs H1 => ∃ (t1 t2 : Bool) (a b : Addr) (xs ys : List V), vs = [.ref a, .ref b] ∧ SqK t1 K H1 a xs ∧ SqK t2 K H1 b ys ∧ R (ItzF t1 t2 K a b) H1
theorem pi_zipF {X : Cx} {e e2 : Expr} {ta : TA} {p pos tpos kp cp : Pos} {elts : List Expr} {kk : Nat} {ci : Nat} (hg : Gl X "zip") (hm : X.mg "zip" = none) (ha : PA X [e, e2] ta)
    (hs : starEach [e, e2] X.env = (false, eval e X.env) :: starEach [e2] X.env := by rfl) (hpl : (backTo pos (starEach [e2] X.env)).any (·.1) = false := by rfl) :
    PI X (.Tuple elts kk tpos) (.Call (.Name "zip" p) [e, e2] [⟨some "strict", .Constant (.bool false) ci cp, kp⟩] pos) (iZipF X.K ta) := by
  refine ⟨fun pins s σ H R I h => ?_⟩
  refine wpAny_Call_Name_kw (ld_blt I hg hm PyProof.Rows.boot_zip (callWith_typeKw1 (thn (ha.run pos pins s σ H _ I h) fun us s1 ⟨vs, H1, I1, r1, q1⟩ => ?_) hs hpl))
  obtain ⟨t1, t2, a, b, xs, ys, ex, hqx, hqy, q⟩ := q1
  subst ex
  cases r1 with
  | cons r rr =>
    cases rr with
    | cons r' rr =>
      cases rr
      cases r
      cases r'
      refine kws_cons (Constant_bool (kws_nil ?_))
      have fresh5 : ∀ c, c ∈ [s1.heap.objs.size + 4, s1.heap.objs.size + 2, s1.heap.objs.size + 3, s1.heap.objs.size, s1.heap.objs.size + 1] → FpOk X pins H1 c := fun c hcm => by
        have e' : c = s1.heap.objs.size + 4 ∨ c = s1.heap.objs.size + 2 ∨ c = s1.heap.objs.size + 3 ∨ c = s1.heap.objs.size ∨ c = s1.heap.objs.size + 1 := by simpa using hcm
        have hle : s1.heap.objs.size ≤ c := by
          rcases e' with z | z | z | z | z
          · rw [z]; exact Nat.le_add_right _ _
          · rw [z]; exact Nat.le_add_right _ _
          · rw [z]; exact Nat.le_add_right _ _
          · rw [z]; exact Nat.le_refl _
          · rw [z]; exact Nat.le_add_right _ _
        exact I1.fpOk hle (I1.hok.fresh hle)
      obtain ⟨its, rv, p1⟩ := hqx.at I1
      obtain ⟨its2, rv2, p2⟩ := hqy.at I1
      refine call_zipF p1 p2 fun h' hz hTI hTO h1 h2 hsz hk => wpAny_pyIter_zip hz ?_
      have I2 : Inv X pins σ H1 { s1 with heap := h' } := I1.kept (t' := s1.toks) hk
      exact ⟨s1.heap.objs.size + 4, [s1.heap.objs.size + 4, s1.heap.objs.size + 2, s1.heap.objs.size + 3, s1.heap.objs.size, s1.heap.objs.size + 1], _, _, H1, rfl, I2, turn_zipF (PySem.W.ktu_apart s1.heap.objs.size a b (Sq1.lt p1) (Sq1.lt p2)), ⟨hz, hTI, ⟨_, _, hTO⟩, h1, h2⟩, fresh5, q⟩
end XcZ
namespace Ev
open PySem PySem.Spec PyProof.Rows L2

/-- what an own list holds -/
def RepO (K : PySem.W.Frag) (c : RC) (F : Hp) : D → HO → Prop
  | .lst ds, .lst vs => RepL K c F ds vs ∧ ds.length ≤ LIM
  | .dct ks ds, .dK kvs => (kvs.map (·.1) = ks.map (fun x => (.inr ⟨x.toArray⟩ : Key)) ∧ RepL K c F ds (kvs.map (·.2))) ∧ ks.length ≤ LIM
  | _, _ => False
/-- read only: a value, or an own list -/
def RepP (K : PySem.W.Frag) (c : RC) (F H : Hp) (d : D) (v : V) : Prop := Rep K c F d v ∨ ∃ a o, v = .ref a ∧ H a = some o ∧ RepO K c F d o
/-- what an operation hands on, wherever the new things lie -/
def Out (K : PySem.W.Frag) (c : RC) (F H : Hp) (Q : V → Hp → Prop) : R → Prop
  | .val d => ∀ v F' H', Sub F F' → Sub H H' → Sub F' H' → (∀ a o, F' a = some o → F a = some o ∨ H a = none) → Rep K c F' d v → Q v H'
  | .tmp d => ∀ a o H', Sub H H' → H a = none → H' a = some o → RepO K c F d o → Q (.ref a) H'
  | .var _ => False
section
variable {K : PySem.W.Frag} {c : RC} {F F' H : Hp} {Q : V → Hp → Prop}
theorem RepO.sub {d : D} {o : HO} (s : Sub F F') (h : RepO K c F d o) : RepO K c F' d o := by
  cases d <;> cases o <;> first | exact h.elim | exact ⟨h.1.sub s, h.2⟩ | exact ⟨⟨h.1.1, h.1.2.sub s⟩, h.2⟩
theorem RepO.two {d : D} {o : HO} (h : RepO K c F d o) : (∃ ds vs, d = .lst ds ∧ o = .lst vs ∧ RepL K c F ds vs ∧ ds.length ≤ LIM) ∨
    ∃ ks ds kvs, d = .dct ks ds ∧ o = .dK kvs ∧ kvs.map (·.1) = ks.map (fun x => (.inr ⟨x.toArray⟩ : Key)) ∧ RepL K c F ds (kvs.map (·.2)) ∧ ks.length ≤ LIM := by
  cases d <;> cases o <;> first | exact h.elim | exact .inl ⟨_, _, rfl, rfl, h.1, h.2⟩ | exact .inr ⟨_, _, _, rfl, rfl, h.1.1, h.1.2, h.2⟩
theorem RepO.lstD {ds : List D} {o : HO} (h : RepO K c F (.lst ds) o) : ∃ vs, o = .lst vs ∧ RepL K c F ds vs ∧ ds.length ≤ LIM := by
  cases o <;> first | exact h.elim | exact ⟨_, rfl, h.1, h.2⟩
theorem RepO.dctD {ks : List (List Nat)} {ds : List D} {o : HO} (h : RepO K c F (.dct ks ds) o) : ∃ kvs, o = .dK kvs ∧ kvs.map (·.1) = ks.map (fun x => (.inr ⟨x.toArray⟩ : Key)) ∧ RepL K c F ds (kvs.map (·.2)) ∧ ks.length ≤ LIM := by
  cases o <;> first | exact h.elim | exact ⟨_, rfl, h.1.1, h.1.2, h.2⟩
theorem RepP.of_lst {ds : List D} {v : V} (s : Sub F H) (h : RepP K c F H (.lst ds) v) : ∃ a vs, v = .ref a ∧ H a = some (.lst vs) ∧ RepL K c F ds vs ∧ ds.length ≤ LIM := by
  rcases h with h | ⟨a, o, rfl, ha, ho⟩
  · cases h with
    | lst h r l => exact ⟨_, _, rfl, s _ _ h, r, l⟩
  · obtain ⟨vs, rfl, r, l⟩ := ho.lstD
    exact ⟨a, vs, rfl, ha, r, l⟩
def D.still : D → Bool
  | .lst _ => false
  | .dct _ _ => false
  | _ => true
theorem RepP.rep {d : D} {v : V} (h : RepP K c F H d v) (n : d.still = true) : Rep K c F d v := by
  rcases h with h | ⟨a, o, rfl, ha, ho⟩
  · exact h
  · rcases ho.two with ⟨_, _, rfl, _⟩ | ⟨_, _, _, rfl, _⟩ <;> cases n
theorem RepP.of_dct {ks : List (List Nat)} {ds : List D} {v : V} (s : Sub F H) (h : RepP K c F H (.dct ks ds) v) : ∃ a kvs, v = .ref a ∧ H a = some (.dK kvs) ∧ kvs.map (·.1) = ks.map (fun x => (.inr ⟨x.toArray⟩ : Key)) ∧ RepL K c F ds (kvs.map (·.2)) ∧ ks.length ≤ LIM := by
  rcases h with h | ⟨a, o, rfl, ha, ho⟩
  · cases h with
    | dct h h1 h2 r l => subst h2; exact ⟨_, _, rfl, s _ _ h, h1, r, l⟩
  · obtain ⟨kvs, rfl, k1, r, l⟩ := ho.dctD
    exact ⟨a, kvs, rfl, ha, k1, r, l⟩
theorem RepP.of_tup {ds : List D} {v : V} (s : Sub F H) (h : RepP K c F H (.tup ds) v) : ∃ a vs, v = .ref a ∧ SqT K H a vs ∧ RepL K c F ds vs ∧ ds.length ≤ LIM ∧ SqT K F a vs := by
  have g := h.rep rfl
  cases g with
  | tup g r l => exact ⟨_, _, rfl, sqT_sub s g, r, l, g⟩
theorem RepP.of_ctup {ds : List D} {v : V} (s : Sub F H) (h : RepP K c F H (.ctup ds) v) : ∃ a vs, v = .ref a ∧ SqT K H a vs ∧ RepL K c F ds vs := by
  have g := h.rep rfl
  cases g with
  | ctup g _ _ r l => exact ⟨_, _, rfl, .inl (.inr ⟨_, s _ _ g⟩), r⟩
theorem RepP.of_int {i : Int} {v : V} (h : RepP K c F H (.int i) v) : v = .int i := by
  cases h.rep rfl; rfl
theorem RepP.of_bl {i : Bool} {v : V} (h : RepP K c F H (.bl i) v) : v = .bl i := by
  cases h.rep rfl; rfl
theorem RepP.of_str {x : List Nat} {v : V} (h : RepP K c F H (.str x) v) : v = .str ⟨x.toArray⟩ ∧ x.all (fun k => decide (k < 0x110000)) = true := by
  have g := h.rep rfl
  cases g with
  | str _ g => exact ⟨rfl, g⟩
theorem RepP.of_non {v : V} (h : RepP K c F H .non v) : v = .non := by
  cases h.rep rfl; rfl
theorem RepP.of_scr {ns : List Int} {v : V} (s : Sub F H) (h : RepP K c F H (.scr ns) v) : ∃ a, v = .ref a ∧ SqL K H a (ns.map V.int) ∧ ns.length ≤ LIM := by
  have g := h.rep rfl
  cases g with
  | scr g l => exact ⟨_, rfl, sqL_sub s g, l⟩
theorem RepP.dp {d : D} {v : V} {n : Nat} (s : Sub F H) (h : RepP K c F H d v) (q : d.dat n = true) : Dp K H v d.py := by
  rcases h with h | ⟨a, o, rfl, ha, ho⟩
  · exact h.dp s d v n q
  · rcases ho.two with ⟨ds, vs, rfl, rfl, r, l⟩ | ⟨_, _, _, rfl, _⟩
    case inr => simp [D.dat] at q
    cases n with
    | zero => simp [D.dat] at q
    | succ n => exact .lst (.inl (.inl ha)) (r.dp s ds vs n (by simpa [D.dat] using q))
theorem RepP.shaped {d : D} {v : V} (h : RepP K c F H d v) (q : d.dat 40 = true) : SeqAt.shaped d.py = true := by
  rcases h with h | ⟨a, o, rfl, ha, ho⟩
  · exact h.shaped q
  · rcases ho.two with ⟨ds, vs, rfl, rfl, r, l⟩ | ⟨_, _, _, rfl, _⟩
    case inr => simp [D.dat] at q
    have h1 := r.lay ds vs 39 (by simpa [D.dat] using q)
    have h2 := datL_dep ds 39 (by simpa [D.dat] using q)
    unfold SeqAt.shaped
    rw [Bool.and_eq_true, decide_eq_true_eq]
    exact ⟨by simpa [D.py, PyData.canLay0] using h1, by simp [D.py, PyData.depth]; omega⟩
/-- a value that needs no new thing -/
theorem Out.val {d : D} {v : V} (o : Out K c F H Q (.val d)) (s : Sub F H) (r : Rep K c F d v) : Q v H := o v F H (Sub.refl _) (Sub.refl _) s (fun _ _ h => .inl h) r
/-- a new list -/
theorem sub_upd {a : Addr} {o : HO} (n : H a = none) : Sub H (upd H a o) := fun b u h => by
  rw [upd_ne (ne_of_none h n)]; exact h
theorem Out.new {ds : List D} {vs : List V} (o : Out K c F H Q (.tmp (.lst ds))) (r : RepL K c F ds vs) (l : ds.length ≤ LIM) : ∀ p, H p = none → Q (.ref p) (upd H p (.lst vs)) :=
  fun p hp => o p (.lst vs) _ (sub_upd hp) hp upd_same ⟨r, l⟩
/-- a new tuple -/
theorem Out.newT {ds : List D} {vs : List V} (o : Out K c F H Q (.val (.tup ds))) (s : Sub F H) (r : RepL K c F ds vs) (l : ds.length ≤ LIM) : ∀ p, H p = none → Q (.ref p) (upd H p (.tup vs)) := by
  intro p hp
  have np : ∀ b u, F b = some u → b ≠ p := fun b u h e => by subst e; rw [s _ _ h] at hp; cases hp
  have hF : F p = none := by
    cases e : F p with
    | none => rfl
    | some u => exact absurd rfl (np p u e)
  refine o (.ref p) (upd F p (.tup vs)) (upd H p (.tup vs)) (sub_upd hF) (sub_upd hp) (fun b u h => ?_) (fun b u h => ?_) (.tup (.inl (.inl upd_same)) (r.sub (sub_upd hF)) l)
  · by_cases e : b = p
    · subst e; rw [upd_same] at h ⊢; exact h
    · rw [upd_ne e] at h ⊢; exact s _ _ h
  · by_cases e : b = p
    · subst e; exact .inr hp
    · rw [upd_ne e] at h; exact .inl h
end

/-! ### operators by values -/
def rBop (K : PySem.W.Frag) (c : RC) (f : D → D → Option R) : R2 := fun x y H Q => ∃ F d e r, Sub F H ∧ RepP K c F H d x ∧ RepP K c F H e y ∧ f d e = some r ∧ Out K c F H Q r
def opOf : BOp → Operator
  | .add => .Add
  | .sub => .Sub
  | .mul => .Mult
  | .fdiv => .FloorDiv
  | .mod => .Mod
  | .pow => .Pow
section
variable {X : Cx} {c : RC}
theorem add_ok : OpR X (binaryOp .Add) (rBop X.K c opAdd) := by
  intro pins s σ H x y v u Q I rx ry ⟨F, d, e, r, sF, hd, he, hr, q⟩
  unfold opAdd at hr
  split at hr
  · rename_i i j
    cases hr
    obtain rfl := hd.of_int
    obtain rfl := he.of_int
    exact op_add pins s σ H _ _ v u Q I rx ry ⟨i, j, rfl, rfl, q.val sF (.int _)⟩
  · rename_i a b
    split at hr
    · rename_i hl
      cases hr
      obtain ⟨rfl, va⟩ := hd.of_str
      obtain ⟨rfl, vb⟩ := he.of_str
      refine op_add_str pins s σ H _ _ v u Q I rx ry ⟨_, _, rfl, rfl, ?_, ?_⟩
      · rw [LIM_eq]; simpa [Str.length] using hl
      · have e1 : (⟨a.toArray⟩ : Str) ++ ⟨b.toArray⟩ = ⟨(a ++ b).toArray⟩ := by
          show Str.mk (a.toArray ++ b.toArray) = _
          simp
        rw [e1]
        exact q.val sF (.str _ (by rw [List.all_append, va, vb]; rfl))
    · cases hr
  · rename_i xs ys
    split at hr
    · rename_i hl
      cases hr
      obtain ⟨a, vs, rfl, ha, ra, la⟩ := hd.of_lst sF
      obtain ⟨b, ws, rfl, hb, rb, lb⟩ := he.of_lst sF
      refine op_cat pins s σ H _ _ v u Q I rx ry ⟨a, b, vs, ws, rfl, rfl, ha, hb, by rw [← ra.length, ← rb.length, LIM_eq]; exact hl, ?_⟩
      exact q.new (ra.append rb) (by rw [List.length_append]; exact hl)
    · cases hr
  · rename_i xs ys
    split at hr
    · rename_i hl
      cases hr
      obtain ⟨a, vs, rfl, ha, ra, la, fa⟩ := hd.of_tup sF
      obtain ⟨b, ws, rfl, hb, rb, lb, fb⟩ := he.of_tup sF
      refine op_catA pins s σ H _ _ v u Q I rx ry ⟨a, b, vs, ws, rfl, rfl, ha, hb, by rw [← ra.length, ← rb.length, LIM_eq]; exact hl, ?_, ?_, ?_⟩
      · rintro rfl
        cases ra
        exact q.val sF (.tup fb rb lb)
      · rintro _ rfl
        cases rb
        rw [List.append_nil] at q
        exact q.val sF (.tup fa ra la)
      · intro _ _
        exact q.newT sF (ra.append rb) (by rw [List.length_append]; exact hl)
    · cases hr
  · cases hr
theorem sub_ok : OpR X (binaryOp .Sub) (rBop X.K c opSub) := by
  intro pins s σ H x y v u Q I rx ry ⟨F, d, e, r, sF, hd, he, hr, q⟩
  unfold opSub at hr
  split at hr
  · rename_i i j
    cases hr
    obtain rfl := hd.of_int
    obtain rfl := he.of_int
    exact op_sub pins s σ H _ _ v u Q I rx ry ⟨i, j, rfl, rfl, q.val sF (.int _)⟩
  · cases hr
theorem flat_rep_all {α : Type} {f : α → Bool} {xs : List α} (h : xs.all f = true) (n : Nat) : (List.replicate n xs).flatten.all f = true := by
  rw [List.all_eq_true] at h ⊢
  intro z hz
  obtain ⟨l, h1, h2⟩ := List.mem_flatten.mp hz
  rw [(List.mem_replicate.mp h1).2] at h2
  exact h z h2
theorem flat_rep_len {α : Type} (xs : List α) (n : Nat) : (List.replicate n xs).flatten.length = n * xs.length := by
  rw [List.length_flatten, List.map_replicate, List.sum_replicate_nat]
theorem foldl_rep_arr (xs : List Nat) : ∀ (n : Nat) (acc : List Nat), (List.replicate n xs.toArray).foldl (· ++ ·) acc.toArray = (acc ++ (List.replicate n xs).flatten).toArray
  | 0, acc => by simp
  | n + 1, acc => by
    rw [List.replicate_succ, List.foldl_cons, List.replicate_succ, List.flatten_cons]
    have e : acc.toArray ++ xs.toArray = (acc ++ xs).toArray := by simp
    rw [e, foldl_rep_arr xs n, List.append_assoc]
theorem op_mulS : OpR X (binaryOp .Mult) (fun x y H Q => ∃ (xs : List Nat) (k : Int), x = .str ⟨xs.toArray⟩ ∧ y = .int k ∧ xs ≠ [] ∧ 2 ≤ k ∧ k ≤ 1000 ∧ xs.length ≤ 1000 ∧ Q (.str ⟨(List.replicate k.toNat xs).flatten.toArray⟩) H) := by
  intro pins s σ H x y v u Q I rx ry ⟨xs, k, e1, e2, hne, h1, h2, h3, q⟩
  subst e1 e2
  obtain ⟨t, rfl⟩ := rx
  obtain ⟨t', rfl⟩ := ry
  have hl : (⟨xs.toArray⟩ : Str).length = xs.length := by simp [Str.length]
  have n1 : ¬ k < 1 := by omega
  have h0 : xs.length ≠ 0 := fun e => hne (List.eq_nil_of_length_eq_zero e)
  have c1 : (k == 1 || (⟨xs.toArray⟩ : Str).length == 0) = false := by
    rw [hl]
    simp only [Bool.or_eq_false_iff, beq_eq_false_iff_ne]
    exact ⟨by omega, h0⟩
  have pr : (xs.length : Int) * k ≤ 1000000 := by
    have a1 : (xs.length : Int) * k ≤ 1000 * k := Int.mul_le_mul_of_nonneg_right (by omega) (by omega)
    omega
  have hsz : k.toNat * xs.length ≤ 1000000 := by
    have : ((k.toNat * xs.length : Nat) : Int) ≤ 1000000 := by
      rw [Int.natCast_mul, Int.toNat_of_nonneg (by omega), Int.mul_comm]
      exact pr
    omega
  refine PySem.P.mul_str (by
      have a : ¬ k < -(2 ^ 63 : Int) := by omega
      have b : ¬ k ≥ 2 ^ 63 := by omega
      rw [decide_eq_false a, decide_eq_false b]; rfl) (fun _ _ => ?_) (fun _ _ => ?_) ?_
  · rw [hl]
    have : (1000 : Int) ≤ (2 ^ 63 - 1) / k := by
      rw [Int.le_ediv_iff_mul_le (by omega)]
      omega
    omega
  · rw [hl]
    refine decide_eq_false ?_
    rw [sizeLine_eq, Nat.mul_comm]
    omega
  · rw [if_neg n1, if_neg (by rw [c1]; simp)]
    have e : (List.replicate k.toNat (⟨xs.toArray⟩ : Str).cps).foldl (· ++ ·) #[] = (List.replicate k.toNat xs).flatten.toArray := by
      have := foldl_rep_arr xs k.toNat []
      simpa using this
    refine ⟨?_, .str _, H, I.tok _, ⟨_, rfl⟩, ?_⟩
    · rw [e]
      simp only [Str.length, List.size_toArray, flat_rep_len]
      rw [sizeLine_eq]; omega
    · rw [e]; exact q
theorem mul_ok : OpR X (binaryOp .Mult) (rBop X.K c opMul) := by
  intro pins s σ H x y v u Q I rx ry ⟨F, d, e, r, sF, hd, he, hr, q⟩
  unfold opMul at hr
  split at hr
  · rename_i i j
    split at hr
    · rename_i hl
      cases hr
      obtain rfl := hd.of_int
      obtain rfl := he.of_int
      exact op_mulW pins s σ H _ _ v u Q I rx ry ⟨i, j, rfl, rfl, hl, q.val sF (.int _)⟩
    · cases hr
  · rename_i xs k
    split at hr
    · rename_i hl
      cases hr
      obtain ⟨a, vs, rfl, ha, ra, la⟩ := hd.of_lst sF
      obtain rfl := he.of_int
      have hlen : (List.replicate k.toNat xs).flatten.length ≤ LIM := by
        rw [List.length_flatten, List.map_replicate, List.sum_replicate_nat, Nat.mul_comm]
        exact hl.2.2
      refine op_rep pins s σ H _ _ v u Q I rx ry ⟨a, k, vs, rfl, rfl, ha, by omega, by omega, by rw [← ra.length, LIM_eq]; exact hl.2.2, ?_⟩
      exact q.new (ra.rep _) hlen
    · cases hr
  · rename_i xs k
    split at hr
    · rename_i hl
      cases hr
      obtain ⟨a, vs, rfl, ha, ra, la, _⟩ := hd.of_tup sF
      obtain rfl := he.of_int
      obtain ⟨g0, g1, g2, g3⟩ := hl
      refine op_repT pins s σ H _ _ v u Q I rx ry ⟨a, k, vs, rfl, rfl, ha, fun e => g0 ?_, g1, g2, by rw [← ra.length]; exact g3, ?_⟩
      · subst e; cases ra; rfl
      · refine q.newT sF (ra.rep _) ?_
        rw [flat_rep_len]
        have a1 : k.toNat * xs.length ≤ 1000 * 1000 := Nat.mul_le_mul (by omega) g3
        show _ ≤ 16777216
        omega
    · cases hr
  · rename_i xs k
    split at hr
    · rename_i hl
      cases hr
      obtain ⟨rfl, va⟩ := hd.of_str
      obtain rfl := he.of_int
      obtain ⟨g0, g1, g2, g3⟩ := hl
      exact op_mulS pins s σ H _ _ v u Q I rx ry ⟨xs, k, rfl, rfl, g0, g1, g2, g3, q.val sF (.str _ (flat_rep_all va _))⟩
    · cases hr
  · cases hr
theorem fdiv_ok : OpR X (binaryOp .FloorDiv) (rBop X.K c opDiv) := by
  intro pins s σ H x y v u Q I rx ry ⟨F, d, e, r, sF, hd, he, hr, q⟩
  unfold opDiv at hr
  split at hr
  · rename_i i j
    split at hr
    · rename_i hl
      cases hr
      obtain rfl := hd.of_int
      obtain rfl := he.of_int
      exact op_fdivW pins s σ H _ _ v u Q I rx ry ⟨i, j, rfl, rfl, hl, q.val sF (.int _)⟩
    · cases hr
  · cases hr
theorem mod_ok : OpR X (binaryOp .Mod) (rBop X.K c opMod) := by
  intro pins s σ H x y v u Q I rx ry ⟨F, d, e, r, sF, hd, he, hr, q⟩
  unfold opMod at hr
  split at hr
  · rename_i i j
    split at hr
    · rename_i hl
      cases hr
      obtain rfl := hd.of_int
      obtain rfl := he.of_int
      exact op_mod pins s σ H _ _ v u Q I rx ry ⟨i, j, rfl, rfl, hl, q.val sF (.int _)⟩
    · cases hr
  · cases hr
theorem pow_ok : OpR X (binaryOp .Pow) (rBop X.K c opPow) := by
  intro pins s σ H x y v u Q I rx ry ⟨F, d, e, r, sF, hd, he, hr, q⟩
  unfold opPow at hr
  split at hr
  · rename_i i j
    split at hr
    · rename_i hl
      cases hr
      obtain rfl := hd.of_int
      obtain rfl := he.of_int
      obtain ⟨t, rfl⟩ := rx
      obtain ⟨t', rfl⟩ := ry
      exact pow_int hl.1 hl.2 ⟨.int _, H, I.tok _, ⟨_, rfl⟩, q.val sF (.int _)⟩
    · cases hr
  · cases hr
theorem bop_ok : ∀ o : BOp, OpR X (binaryOp (opOf o)) (rBop X.K c (bop o))
  | .add => add_ok
  | .sub => sub_ok
  | .mul => mul_ok
  | .fdiv => fdiv_ok
  | .mod => mod_ok
  | .pow => pow_ok
theorem neg_ok : UnR X (unaryOp .USub) (fun x H Q => ∃ F d r, Sub F H ∧ RepP X.K c F H d x ∧ opNeg d = some r ∧ Out X.K c F H Q r) := by
  intro pins s σ H x v Q I rx ⟨F, d, r, sF, hd, hr, q⟩
  unfold opNeg at hr
  split at hr
  · rename_i i
    cases hr
    obtain rfl := hd.of_int
    exact un_neg pins s σ H _ v Q I rx ⟨i, rfl, q.val sF (.int _)⟩
  · cases hr
def rCop (K : PySem.W.Frag) (c : RC) (f : D → D → Option Bool) : R2 := fun x y H Q => ∃ F d e r, Sub F H ∧ RepP K c F H d x ∧ RepP K c F H e y ∧ f d e = some r ∧ Q (.bl r) H
def copOf : COp → CmpOp
  | .eq => .Eq
  | .ne => .NotEq
  | .lt => .Lt
  | .le => .LtE
  | .gt => .Gt
  | .ge => .GtE
  | .isin => .In
  | .notin => .NotIn
  | .is => .Is
  | .isnot => .IsNot
theorem eqD_inv {d e : D} {r : Bool} (h : eqD d e = some r) : d.dat 40 = true ∧ e.dat 40 = true ∧ r = D.beq d e := by
  unfold eqD at h
  split at h
  · rename_i q
    rw [Bool.and_eq_true] at q
    cases h
    exact ⟨q.1, q.2, rfl⟩
  · cases h
theorem eq_ok (hu : X.A.units + 64 < cLine) : OpR X (compareOp .Eq) (rCop X.K c (cop .eq)) := by
  intro pins s σ H x y v u Q I rx ry ⟨F, d, e, r, sF, hd, he, hr, q⟩
  obtain ⟨h1, h2, rfl⟩ := eqD_inv hr
  exact op_eqD hu pins s σ H _ _ v u Q I rx ry ⟨d.py, e.py, hd.dp sF h1, he.dp sF h2, hd.shaped h1, he.shaped h2, by rw [eqv_beq d e 40 40 h1 h2]; exact q⟩
theorem ne_ok (hu : X.A.units + 64 < cLine) : OpR X (compareOp .NotEq) (rCop X.K c (cop .ne)) := by
  intro pins s σ H x y v u Q I rx ry ⟨F, d, e, r, sF, hd, he, hr, q⟩
  have hr' : (eqD d e).map (!·) = some r := hr
  cases e1 : eqD d e with
  | none => rw [e1] at hr'; cases hr'
  | some b =>
    rw [e1] at hr'
    cases hr'
    obtain ⟨h1, h2, rfl⟩ := eqD_inv e1
    exact op_neD hu pins s σ H _ _ v u Q I rx ry ⟨d.py, e.py, hd.dp sF h1, he.dp sF h2, hd.shaped h1, he.shaped h2, by rw [eqv_beq d e 40 40 h1 h2]; exact q⟩
theorem ltI_inv {f : Int → Int → Bool} {d e : D} {r : Bool} (h : ltI f d e = some r) : ∃ i j, d = .int i ∧ e = .int j ∧ r = f i j := by
  unfold ltI at h
  split at h
  · cases h; exact ⟨_, _, rfl, rfl, rfl⟩
  · cases h
theorem any_eqv {d : D} {n : Nat} (h : d.dat n = true) : ∀ {ds : List D} {m : Nat}, D.datL m ds = true → (D.pyL ds).any (fun z => PyData.eqv z d.py) = ds.any fun z => D.beq z d
  | [], _, _ => rfl
  | e :: ds, m, q => by
    simp only [D.datL, Bool.and_eq_true] at q
    simp only [D.pyL, List.any_cons, any_eqv h q.2, eqv_beq e d m n q.1 h]
theorem inL_inv {d : D} {ds : List D} {r : Bool} (h : inL d ds = some r) : d.dat 40 = true ∧ D.datL 40 ds = true ∧ r = ds.any fun z => D.beq z d := by
  unfold inL at h
  split at h
  · rename_i q
    rw [Bool.and_eq_true] at q
    cases h
    exact ⟨q.1, q.2, rfl⟩
  · cases h
theorem atom_flatV {F : Hp} {K : PySem.W.Frag} {d : D} {v : V} (r : Rep K c F d v) (h : d.atom = true) : flatV v = true := by
  cases r <;> first | rfl | (simp [D.atom] at h; done)
theorem atoms_flatV {F : Hp} {K : PySem.W.Frag} : ∀ {ds : List D} {vs : List V}, RepL K c F ds vs → ds.all D.atom = true → vs.all flatV = true
  | _, _, .nil, _ => rfl
  | _, _, .cons r t, h => by
    simp only [List.all_cons, Bool.and_eq_true] at h ⊢
    exact ⟨atom_flatV r h.1, atoms_flatV t h.2⟩
theorem atom_eqV {F : Hp} {K : PySem.W.Frag} {d e : D} {v w : V} (r : Rep K c F d v) (r' : Rep K c F e w) (h : d.atom = true) (h' : e.atom = true) : eqV v w = D.beq d e := by
  cases r <;> cases r' <;> first
    | rfl
    | (simp [D.atom] at h; done)
    | (simp [D.atom] at h'; done)
    | (simp only [eqV, D.beq, str_beq]; done)
theorem atoms_inV {F : Hp} {K : PySem.W.Frag} {d : D} {v : V} (r : Rep K c F d v) (h : d.atom = true) : ∀ {ds : List D} {vs : List V}, RepL K c F ds vs → ds.all D.atom = true → inV v vs = ds.any fun z => D.beq z d
  | _, _, .nil, _ => rfl
  | _, _, .cons r1 t, g => by
    simp only [List.all_cons, Bool.and_eq_true] at g
    have := atoms_inV r h t g.2
    unfold inV at this ⊢
    rw [List.any_cons, List.any_cons, this, atom_eqV r1 r g.1 h]
theorem RepP.atomF {F H : Hp} {K : PySem.W.Frag} {d : D} {v : V} (h : RepP K c F H d v) (a : d.atom = true) : Rep K c F d v := h.rep (by cases d <;> first | rfl | cases a)
theorem valV_get {K : PySem.W.Frag} {F : Hp} : ∀ {ks : List (List Nat)} {ds : List D} {kvs : List (Key × V)} (x : List Nat), kvs.map (·.1) = ks.map (fun x => (.inr ⟨x.toArray⟩ : Key)) → RepL K c F ds (kvs.map (·.2)) →
    (dGet ks ds x = none ∧ valV kvs (.inr ⟨x.toArray⟩) = none) ∨ ∃ d v, dGet ks ds x = some d ∧ valV kvs (.inr ⟨x.toArray⟩) = some v ∧ Rep K c F d v
  | [], _, [], x, _, _ => .inl ⟨by cases ‹List D› <;> rfl, rfl⟩
  | k :: ks, d :: ds, (kk, v) :: kvs, x, h, .cons r t => by
    simp only [List.map_cons, List.cons.injEq] at h
    obtain ⟨h1, h2⟩ := h
    by_cases e : k = x
    · subst e
      exact .inr ⟨d, v, by simp [dGet], valV_pos h1, r⟩
    · have ne : ¬ kk = (.inr ⟨x.toArray⟩ : Key) := fun z => e (by rw [h1] at z; simpa using z)
      rw [valV_neg (p := (kk, v)) ne]
      rcases valV_get x h2 t with ⟨a, b⟩ | ⟨d', v', a, b, q⟩
      · exact .inl ⟨by simp only [dGet, if_neg e]; exact a, b⟩
      · exact .inr ⟨d', v', by simp only [dGet, if_neg e]; exact a, b, q⟩
  | [], _, _ :: _, x, h, _ => by simp at h
  | _ :: _, _, [], x, h, _ => by simp at h
theorem valV_some {K : PySem.W.Frag} {F : Hp} {ks : List (List Nat)} {ds : List D} {kvs : List (Key × V)} (x : List Nat) (h : kvs.map (·.1) = ks.map (fun x => (.inr ⟨x.toArray⟩ : Key))) (r : RepL K c F ds (kvs.map (·.2))) : (valV kvs (.inr ⟨x.toArray⟩)).isSome = (dGet ks ds x).isSome := by
  rcases valV_get x h r with ⟨a, b⟩ | ⟨d', v', a, b, q⟩ <;> rw [a, b] <;> rfl
theorem in_ok (hu : X.A.units + 65 < cLine) : OpR X (compareOp .In) (rCop X.K c (cop .isin)) := by
  intro pins s σ H x y v u Q I rx ry ⟨F, d, e, r, sF, hd, he, hr, q⟩
  have hr' : isIn d e = some r := hr
  unfold isIn at hr'
  split at hr'
  · rename_i ds
    obtain ⟨h1, h2, rfl⟩ := inL_inv hr'
    obtain ⟨a, vs, rfl, ha, ra, la⟩ := he.of_lst sF
    exact op_inD hu pins s σ H _ _ v u Q I rx ry ⟨d.py, D.pyL ds, hd.dp sF h1, .lst (.inl (.inl ha)) (ra.dp sF ds vs 40 h2), hd.shaped h1, ra.shaped h2, by rw [any_eqv h1 h2]; exact q⟩
  · rename_i ds
    split at hr'
    · rename_i g
      cases hr'
      rw [Bool.and_eq_true] at g
      obtain ⟨a, vs, rfl, ha, ra, la, _⟩ := he.of_tup sF
      have rd := hd.atomF g.1
      refine op_in_seq pins s σ H _ _ v u Q I rx ry ⟨a, vs, rfl, .inr ha, atom_flatV rd g.1, atoms_flatV ra g.2, ?_⟩
      rw [if_neg (by simp), atoms_inV rd g.1 ra g.2]
      exact q
    · cases hr'
  · rename_i ds
    split at hr'
    · rename_i g
      cases hr'
      rw [Bool.and_eq_true] at g
      obtain ⟨a, vs, rfl, ha, ra⟩ := he.of_ctup sF
      have rd := hd.atomF g.1
      refine op_in_seq pins s σ H _ _ v u Q I rx ry ⟨a, vs, rfl, .inr ha, atom_flatV rd g.1, atoms_flatV ra g.2, ?_⟩
      rw [if_neg (by simp), atoms_inV rd g.1 ra g.2]
      exact q
    · cases hr'
  · rename_i z
    split at hr'
    · rename_i k
      cases hr'
      obtain ⟨rfl, va⟩ := he.of_str
      obtain ⟨rfl, _⟩ := hd.of_str
      exact op_in_sign pins s σ H _ _ v u Q I rx ry ⟨k, ⟨z.toArray⟩, rfl, rfl, q⟩
    · cases hr'
  · rename_i ks ds
    split at hr'
    · rename_i k
      cases hr'
      obtain ⟨a, kvs, rfl, ha, k1, rl, ll⟩ := he.of_dct sF
      obtain ⟨rfl, _⟩ := hd.of_str
      cases ry
      refine d_in (by omega) I (DGet.k (k := .inr ⟨k.toArray⟩) ha) rx fun s' I' => ⟨.bl _, _, I', rfl, ?_⟩
      rw [valV_some k k1 rl]
      exact q
    · cases hr'
  · cases hr'
theorem notin_ok (hu : X.A.units + 65 < cLine) : OpR X (compareOp .NotIn) (rCop X.K c (cop .notin)) := by
  intro pins s σ H x y v u Q I rx ry ⟨F, d, e, r, sF, hd, he, hr, q⟩
  have hr' : (isIn d e).map (!·) = some r := hr
  unfold isIn at hr'
  split at hr'
  · rename_i ds
    cases e1 : inL d ds with
    | none => rw [e1] at hr'; cases hr'
    | some b =>
      rw [e1] at hr'
      cases hr'
      obtain ⟨h1, h2, rfl⟩ := inL_inv e1
      obtain ⟨a, vs, rfl, ha, ra, la⟩ := he.of_lst sF
      exact op_notInD hu pins s σ H _ _ v u Q I rx ry ⟨d.py, D.pyL ds, hd.dp sF h1, .lst (.inl (.inl ha)) (ra.dp sF ds vs 40 h2), hd.shaped h1, ra.shaped h2, by rw [any_eqv h1 h2]; exact q⟩
  · rename_i ds
    split at hr'
    · rename_i g
      cases hr'
      rw [Bool.and_eq_true] at g
      obtain ⟨a, vs, rfl, ha, ra, la, _⟩ := he.of_tup sF
      have rd := hd.atomF g.1
      refine op_notIn_seq pins s σ H _ _ v u Q I rx ry ⟨a, vs, rfl, .inr ha, atom_flatV rd g.1, atoms_flatV ra g.2, ?_⟩
      rw [if_pos rfl, atoms_inV rd g.1 ra g.2]
      exact q
    · cases hr'
  · rename_i ds
    split at hr'
    · rename_i g
      cases hr'
      rw [Bool.and_eq_true] at g
      obtain ⟨a, vs, rfl, ha, ra⟩ := he.of_ctup sF
      have rd := hd.atomF g.1
      refine op_notIn_seq pins s σ H _ _ v u Q I rx ry ⟨a, vs, rfl, .inr ha, atom_flatV rd g.1, atoms_flatV ra g.2, ?_⟩
      rw [if_pos rfl, atoms_inV rd g.1 ra g.2]
      exact q
    · cases hr'
  · rename_i z
    split at hr'
    · rename_i k
      cases hr'
      obtain ⟨rfl, va⟩ := he.of_str
      obtain ⟨rfl, _⟩ := hd.of_str
      exact op_notIn_sign pins s σ H _ _ v u Q I rx ry ⟨k, ⟨z.toArray⟩, rfl, rfl, q⟩
    · cases hr'
  · rename_i ks ds
    split at hr'
    · rename_i k
      cases hr'
      obtain ⟨a, kvs, rfl, ha, k1, rl, ll⟩ := he.of_dct sF
      obtain ⟨rfl, _⟩ := hd.of_str
      cases ry
      refine d_notIn (by omega) I (DGet.k (k := .inr ⟨k.toArray⟩) ha) rx fun s' I' => ⟨.bl _, _, I', rfl, ?_⟩
      rw [valV_some k k1 rl]
      exact q
    · cases hr'
  · cases hr'
theorem none_v {d : D} {x : V} {F H : Hp} {K : PySem.W.Frag} {r : Bool} (h : RepP K c F H d x) (hr : isNone d = some r) : r = decide (x = .non) := by
  rcases h with h | ⟨a, o, rfl, ha, ho⟩
  · cases h <;> simp [isNone] at hr <;> subst hr <;> simp
  · rcases ho.two with ⟨ds, vs, rfl, rfl, _⟩ | ⟨_, _, _, rfl, _⟩ <;> (simp [isNone] at hr; subst hr; simp)
theorem is_ok : OpR X (compareOp .Is) (rCop X.K c (cop .is)) := by
  intro pins s σ H x y v u Q I rx ry ⟨F, d, e, r, sF, hd, he, hr, q⟩
  cases e <;> simp [cop] at hr
  obtain rfl := he.of_non
  rw [none_v hd hr] at q
  exact op_isN pins s σ H _ _ v u Q I rx ry ⟨rfl, q⟩
theorem isnot_ok : OpR X (compareOp .IsNot) (rCop X.K c (cop .isnot)) := by
  intro pins s σ H x y v u Q I rx ry ⟨F, d, e, r, sF, hd, he, hr, q⟩
  cases e <;> simp [cop] at hr
  obtain rfl := he.of_non
  cases e1 : isNone d with
  | none => rw [e1] at hr; simp at hr
  | some b =>
    rw [e1] at hr
    simp at hr
    have e2 := none_v hd e1
    have e3 : r = !b := by rw [hr, Bool.not_not]
    rw [e3, e2] at q
    exact op_notN pins s σ H _ _ v u Q I rx ry ⟨rfl, q⟩
theorem cop_ok (hu : X.A.units + 65 < cLine) : ∀ o : COp, OpR X (compareOp (copOf o)) (rCop X.K c (cop o))
  | .eq => eq_ok (by omega)
  | .ne => ne_ok (by omega)
  | .lt => by
    intro pins s σ H x y v u Q I rx ry ⟨F, d, e, r, sF, hd, he, hr, q⟩
    obtain ⟨i, j, rfl, rfl, rfl⟩ := ltI_inv hr
    obtain rfl := hd.of_int
    obtain rfl := he.of_int
    exact op_lt pins s σ H _ _ v u Q I rx ry ⟨i, j, rfl, rfl, q⟩
  | .le => by
    intro pins s σ H x y v u Q I rx ry ⟨F, d, e, r, sF, hd, he, hr, q⟩
    obtain ⟨i, j, rfl, rfl, rfl⟩ := ltI_inv hr
    obtain rfl := hd.of_int
    obtain rfl := he.of_int
    exact op_le pins s σ H _ _ v u Q I rx ry ⟨i, j, rfl, rfl, q⟩
  | .gt => by
    intro pins s σ H x y v u Q I rx ry ⟨F, d, e, r, sF, hd, he, hr, q⟩
    obtain ⟨i, j, rfl, rfl, rfl⟩ := ltI_inv hr
    obtain rfl := hd.of_int
    obtain rfl := he.of_int
    exact op_gt pins s σ H _ _ v u Q I rx ry ⟨i, j, rfl, rfl, q⟩
  | .ge => by
    intro pins s σ H x y v u Q I rx ry ⟨F, d, e, r, sF, hd, he, hr, q⟩
    obtain ⟨i, j, rfl, rfl, rfl⟩ := ltI_inv hr
    obtain rfl := hd.of_int
    obtain rfl := he.of_int
    exact op_ge pins s σ H _ _ v u Q I rx ry ⟨i, j, rfl, rfl, q⟩
  | .isin => in_ok hu
  | .notin => notin_ok hu
  | .is => is_ok
  | .isnot => isnot_ok
end
end Ev
namespace Ev
open PySem PySem.Spec PyProof.Rows L2

/-! ### the frame and its slots -/
def Owned (env : Env) (σ : L2.St) (a : Addr) : Prop := ∃ i, (env.at i).mine = true ∧ σ[i]? = some (some (.ref a))
/-- H0: the heap at the entry; bs: the caller's list, by the slot that holds it; F: what stands still -/
structure Rel (K : PySem.W.Frag) (c : RC) (H0 : Hp) (bs : List (Nat × Addr)) (env : Env) (F : Hp) (σ : L2.St) (H : Hp) : Prop where
  sub : Sub F H
  len : env.length = σ.length
  val : ∀ i d, env.at i = .val d → ∃ v, σ[i]? = some (some v) ∧ Rep K c F d v
  own : ∀ i d, env.at i = .own d → ∃ a o, σ[i]? = some (some (.ref a)) ∧ H a = some o ∧ RepO K c F d o ∧ F a = none ∧ H0 a = none
  byr : ∀ i d, env.at i = .byr d → ∃ a o, σ[i]? = some (some (.ref a)) ∧ H a = some o ∧ RepO K c F d o ∧ F a = none ∧ (i, a) ∈ bs
  dist : ∀ i j a, (env.at i).mine = true → (env.at j).mine = true → σ[i]? = some (some (.ref a)) → σ[j]? = some (some (.ref a)) → i = j
  ext : ∀ a o, H0 a = some o → (∀ i, (i, a) ∉ bs) → H a = some o
  th : ∀ a o, H0 a = some o → ∃ u, H a = some u
/-- one expression's way: the slots stay, what stands stays -/
structure Stp (σ : L2.St) (env : Env) (F H : Hp) (env' : Env) (F' H' : Hp) : Prop where
  fsub : Sub F F'
  keep : ∀ a o, H a = some o → ¬ Owned env σ a → H' a = some o
  grow : ∀ a o, F' a = some o → F a = some o ∨ H a = none ∨ Owned env σ a
  owns : ∀ i, (env'.at i).mine = true → (env.at i).mine = true
  th : ∀ a o, H a = some o → ∃ u, H' a = some u
theorem Stp.refl {σ : L2.St} {env : Env} {F H : Hp} : Stp σ env F H env F H := ⟨Sub.refl _, fun _ _ h _ => h, fun _ _ h => .inl h, fun _ h => h, fun _ o h => ⟨o, h⟩⟩
theorem Stp.back {σ : L2.St} {env env' : Env} {F H F' H' : Hp} (s : Stp σ env F H env' F' H') {a : Addr} (h : H' a = none) : H a = none := by
  cases q : H a with
  | none => rfl
  | some o => obtain ⟨u, e⟩ := s.th a o q; rw [h] at e; cases e
theorem Stp.owned {σ : L2.St} {env env' : Env} {F H F' H' : Hp} (s : Stp σ env F H env' F' H') {a : Addr} (h : Owned env' σ a) : Owned env σ a :=
  let ⟨i, h1, h2⟩ := h; ⟨i, s.owns i h1, h2⟩
theorem Stp.trans {σ : L2.St} {env env1 env2 : Env} {F H F1 H1 F2 H2 : Hp} (a : Stp σ env F H env1 F1 H1) (b : Stp σ env1 F1 H1 env2 F2 H2) : Stp σ env F H env2 F2 H2 where
  fsub := a.fsub.trans b.fsub
  keep := fun x o h n => b.keep x o (a.keep x o h n) fun z => n (a.owned z)
  grow := fun x o h => by
    rcases b.grow x o h with h | h | h
    · exact a.grow x o h
    · by_cases n : Owned env σ x
      · exact .inr (.inr n)
      · cases e : H x with
        | none => exact .inr (.inl rfl)
        | some u => rw [a.keep x u e n] at h; cases h
    · exact .inr (.inr (a.owned h))
  owns := fun i h => a.owns i (b.owns i h)
  th := fun x o h => let ⟨u, e⟩ := a.th x o h; b.th x u e
/-- what an expression handed on; Hs: the heap ahead of it -/
def RelR (K : PySem.W.Frag) (c : RC) (Hs : Hp) (env : Env) (F : Hp) (σ : L2.St) (H : Hp) : R → V → Prop
  | .val d, v => Rep K c F d v
  | .tmp d, v => ∃ a o, v = .ref a ∧ H a = some o ∧ RepO K c F d o ∧ F a = none ∧ Hs a = none ∧ ¬ Owned env σ a
  | .var i, v => σ[i]? = some (some v)
theorem Env.at_set {e : Env} {i j : Nat} {s : Sl} (hi : i < e.length) : Env.at (e.set i s) j = if i = j then s else e.at j := by
  unfold Env.at
  rw [List.getD_eq_getElem?_getD, List.getElem?_set, List.getD_eq_getElem?_getD]
  by_cases h : i = j
  · subst h; simp [hi]
  · simp [h]
theorem Env.at_set' {e : Env} {i j : Nat} {s : Sl} : Env.at (e.set i s) j = if i = j ∧ i < e.length then s else e.at j := by
  by_cases hi : i < e.length
  · rw [Env.at_set hi]; simp [hi]
  · rw [List.set_eq_of_length_le (by omega)]; simp [hi]
theorem Env.at_lt {e : Env} {i : Nat} (h : e.at i ≠ .no) : i < e.length := by
  rcases Nat.lt_or_ge i e.length with q | q
  · exact q
  · exfalso; apply h; unfold Env.at; rw [List.getD_eq_getElem?_getD, List.getElem?_eq_none_iff.mpr q]; rfl

section
variable {K : PySem.W.Frag} {c : RC} {H0 Hs : Hp} {bs : List (Nat × Addr)} {env env' env1 env2 : Env} {F F' F1 F2 H H' H1 H2 : Hp} {σ : L2.St} {r : R} {v : V} {d : D}
/-- a later expression leaves what an earlier one handed on -/
theorem RelR.step (s : Stp σ env F H env' F' H') (h : RelR K c Hs env F σ H r v) : RelR K c Hs env' F' σ H' r v := by
  cases r with
  | val d => exact Rep.sub s.fsub h
  | tmp d =>
    obtain ⟨a, o, rfl, h1, h2, h3, h4, h5⟩ := h
    refine ⟨a, o, rfl, s.keep a o h1 h5, h2.sub s.fsub, ?_, h4, fun z => h5 (s.owned z)⟩
    cases q : F' a with
    | none => rfl
    | some u =>
      rcases s.grow a u q with z | z | z
      · rw [h3] at z; cases z
      · rw [h1] at z; cases z
      · exact absurd z h5
  | var i => exact h
/-- read only -/
theorem Rel.peek (R : Rel K c H0 bs env F σ H) (h : RelR K c Hs env F σ H r v) (e : peek r env = some d) : RepP K c F H d v := by
  cases r with
  | val d => cases e; exact .inl h
  | tmp d =>
    cases e
    obtain ⟨a, o, rfl, h1, h2, _⟩ := h
    exact .inr ⟨a, o, rfl, h1, h2⟩
  | var i =>
    have h1 : σ[i]? = some (some v) := h
    have e' : (env.at i).con = some d := e
    cases q : env.at i with
    | no => rw [q] at e'; cases e'
    | val x =>
      rw [q] at e'; cases e'
      obtain ⟨w, g1, g2⟩ := R.val i _ q
      rw [h1] at g1; cases g1
      exact .inl g2
    | own x =>
      rw [q] at e'; cases e'
      obtain ⟨a, o, g1, g2, g3, _⟩ := R.own i _ q
      rw [h1] at g1; cases g1
      exact .inr ⟨a, o, rfl, g2, g3⟩
    | byr x =>
      rw [q] at e'; cases e'
      obtain ⟨a, o, g1, g2, g3, _⟩ := R.byr i _ q
      rw [h1] at g1; cases g1
      exact .inr ⟨a, o, rfl, g2, g3⟩
/-- a list of one's own stands still from now on -/
theorem rep_of_o {a : Addr} {o : HO} (h : RepO K c F d o) (hF : F a = none) : Rep K c (upd F a o) d (.ref a) := by
  rcases h.two with ⟨ds, vs, rfl, rfl, r, l⟩ | ⟨ks, ds, kvs, rfl, rfl, k1, r, l⟩
  · exact .lst upd_same (r.sub (sub_upd hF)) l
  · exact .dct upd_same k1 rfl (r.sub (sub_upd hF)) l
theorem Rel.freeze (R : Rel K c H0 bs env F σ H) {a : Addr} {o : HO} (ha : H a = some o) (hF : F a = none) (no : ¬ Owned env σ a) : Rel K c H0 bs env (upd F a o) σ H := by
  have s : Sub F (upd F a o) := sub_upd hF
  have ne : ∀ b i, (env.at i).mine = true → σ[i]? = some (some (.ref b)) → b ≠ a := fun b i h1 h2 e => no ⟨i, h1, e ▸ h2⟩
  refine ⟨fun b u h => ?_, R.len, fun i d q => ?_, fun i d q => ?_, fun i d q => ?_, R.dist, R.ext, R.th⟩
  · by_cases e : b = a
    · subst e; rw [upd_same] at h; cases h; exact ha
    · rw [upd_ne e] at h; exact R.sub b u h
  · obtain ⟨w, g1, g2⟩ := R.val i d q
    exact ⟨w, g1, g2.sub s⟩
  · obtain ⟨b, u, g1, g2, g3, g4, g5⟩ := R.own i d q
    exact ⟨b, u, g1, g2, g3.sub s, by rw [upd_ne (ne b i (by rw [q]; rfl) g1)]; exact g4, g5⟩
  · obtain ⟨b, u, g1, g2, g3, g4, g5⟩ := R.byr i d q
    exact ⟨b, u, g1, g2, g3.sub s, by rw [upd_ne (ne b i (by rw [q]; rfl) g1)]; exact g4, g5⟩
theorem Rel.lt (R : Rel K c H0 bs env F σ H) {i : Nat} (h : env.at i ≠ .no) : i < σ.length := R.len ▸ Env.at_lt h
/-- a slot loses its list: it stands still from now on -/
theorem Rel.leak (R : Rel K c H0 bs env F σ H) {i : Nat} {a : Addr} {o : HO} (q : env.at i = .own d) (g1 : σ[i]? = some (some (.ref a))) (g2 : H a = some o) (g3 : RepO K c F d o) (g4 : F a = none) :
    Rel K c H0 bs (env.set i (.val d)) (upd F a o) σ H ∧ Stp σ env F H (env.set i (.val d)) (upd F a o) H ∧ Rep K c (upd F a o) d (.ref a) := by
  have hi : i < env.length := Env.at_lt (by rw [q]; intro z; cases z)
  have at' : ∀ j, Env.at (env.set i (.val d)) j = if i = j then .val d else env.at j := fun j => Env.at_set hi
  have s : Sub F (upd F a o) := sub_upd g4
  have mi : ∀ j, (Env.at (env.set i (.val d)) j).mine = true → i ≠ j ∧ (env.at j).mine = true := fun j h => by
    rw [at'] at h
    by_cases e : i = j
    · rw [if_pos e] at h; cases h
    · rw [if_neg e] at h; exact ⟨e, h⟩
  have ne : ∀ b j, i ≠ j → (env.at j).mine = true → σ[j]? = some (some (.ref b)) → b ≠ a := fun b j hj h1 h2 e => by
    subst e
    exact hj (R.dist i j _ (by rw [q]; rfl) h1 g1 h2)
  refine ⟨⟨fun b u h => ?_, by rw [List.length_set]; exact R.len, fun j x z => ?_, fun j x z => ?_, fun j x z => ?_, fun j k b h1 h2 h3 h4 => ?_, R.ext, R.th⟩, ⟨s, fun _ _ h _ => h, fun b u h => ?_, fun j h => (mi j h).2, fun _ o h => ⟨o, h⟩⟩, rep_of_o g3 g4⟩
  · by_cases e : b = a
    · subst e; rw [upd_same] at h; cases h; exact g2
    · rw [upd_ne e] at h; exact R.sub b u h
  · rw [at'] at z
    by_cases e : i = j
    · subst e; rw [if_pos rfl] at z; cases z
      exact ⟨_, g1, rep_of_o g3 g4⟩
    · rw [if_neg e] at z
      obtain ⟨w, k1, k2⟩ := R.val j x z
      exact ⟨w, k1, k2.sub s⟩
  · rw [at'] at z
    by_cases e : i = j
    · subst e; rw [if_pos rfl] at z; cases z
    · rw [if_neg e] at z
      obtain ⟨b, u, k1, k2, k3, k4, k5⟩ := R.own j x z
      exact ⟨b, u, k1, k2, k3.sub s, by rw [upd_ne (ne b j e (by rw [z]; rfl) k1)]; exact k4, k5⟩
  · rw [at'] at z
    by_cases e : i = j
    · subst e; rw [if_pos rfl] at z; cases z
    · rw [if_neg e] at z
      obtain ⟨b, u, k1, k2, k3, k4, k5⟩ := R.byr j x z
      exact ⟨b, u, k1, k2, k3.sub s, by rw [upd_ne (ne b j e (by rw [z]; rfl) k1)]; exact k4, k5⟩
  · exact R.dist j k b (mi j h1).2 (mi k h2).2 h3 h4
  · by_cases e : b = a
    · subst e; exact .inr (.inr ⟨i, by rw [q]; rfl, g1⟩)
    · rw [upd_ne e] at h; exact .inl h
/-- handed on as a value -/
theorem Rel.asVal' {envs : Env} {Fs : Hp} (R : Rel K c H0 bs env F σ H) (S : Stp σ envs Fs Hs env F H) (h : RelR K c Hs env F σ H r v) (e : asVal r env = some (d, env')) :
    ∃ F', Rel K c H0 bs env' F' σ H ∧ Stp σ envs Fs Hs env' F' H ∧ Rep K c F' d v ∧ Sub F F' ∧ (∀ r' v', RelR K c Hs env F σ H r' v' → (∀ d d', r = .tmp d → r' = .tmp d' → v ≠ v') → RelR K c Hs env' F' σ H r' v') ∧
      (∀ j, j < env.length → (env.at j).mine = true → (env'.at j) = env.at j ∨ (∃ x, env.at j = .own x ∧ env'.at j = .val x)) ∧ (∀ j, (env.at j).mine = false → env'.at j = env.at j) := by
  cases r with
  | val d => cases e; exact ⟨F, R, S, h, Sub.refl _, fun _ _ q _ => q, fun _ _ _ => .inl rfl, fun _ _ => rfl⟩
  | tmp d =>
    cases e
    obtain ⟨a, o, rfl, h1, h2, h3, h4, h5⟩ := h
    refine ⟨_, R.freeze h1 h3 h5, ⟨S.fsub.trans (sub_upd h3), S.keep, fun b u q => ?_, S.owns, S.th⟩, rep_of_o h2 h3, sub_upd h3, fun r' v' q ne => ?_, fun _ _ _ => .inl rfl, fun _ _ => rfl⟩
    · by_cases z : b = a
      · subst z; exact .inr (.inl h4)
      · rw [upd_ne z] at q; exact S.grow b u q
    · cases r' with
      | val x => exact Rep.sub (sub_upd h3) q
      | tmp x =>
        obtain ⟨b, u, rfl, g1, g2, g3, g4, g5⟩ := q
        refine ⟨b, u, rfl, g1, g2.sub (sub_upd h3), ?_, g4, g5⟩
        rw [upd_ne (fun z => ne d x rfl rfl (by rw [z]))]
        exact g3
      | var i => exact q
  | var i =>
    have h1 : σ[i]? = some (some v) := h
    have e' : (match env.at i with | .val d => some (d, env) | .own d => some (d, env.set i (.val d)) | _ => none) = some (d, env') := e
    cases q : env.at i with
    | no => rw [q] at e'; cases e'
    | byr x => rw [q] at e'; cases e'
    | val x =>
      rw [q] at e'; cases e'
      obtain ⟨w, g1, g2⟩ := R.val i _ q
      rw [h1] at g1; cases g1
      exact ⟨F, R, S, g2, Sub.refl _, fun _ _ q _ => q, fun _ _ _ => .inl rfl, fun _ _ => rfl⟩
    | own x =>
      rw [q] at e'; cases e'
      obtain ⟨a, o, g1, g2, g3, g4, g5⟩ := R.own i _ q
      rw [h1] at g1; cases g1
      obtain ⟨k1, k2, k3⟩ := R.leak q h1 g2 g3 g4
      have hi : i < env.length := Env.at_lt (by rw [q]; intro z; cases z)
      refine ⟨_, k1, S.trans k2, k3, k2.fsub, fun r' v' z _ => RelR.step k2 z, fun j hj hm => ?_, fun j hm => ?_⟩
      · rw [Env.at_set hi]
        by_cases z : i = j
        · subst z; rw [if_pos rfl]; exact .inr ⟨_, q, rfl⟩
        · rw [if_neg z]; exact .inl rfl
      · rw [Env.at_set hi]
        by_cases z : i = j
        · subst z; rw [q] at hm; cases hm
        · rw [if_neg z]
theorem Rel.asVal {envs : Env} {Fs : Hp} (R : Rel K c H0 bs env F σ H) (S : Stp σ envs Fs Hs env F H) (h : RelR K c Hs env F σ H r v) (e : asVal r env = some (d, env')) :
    ∃ F', Rel K c H0 bs env' F' σ H ∧ Stp σ envs Fs Hs env' F' H ∧ Rep K c F' d v :=
  let ⟨F', a, b, c, _⟩ := R.asVal' S h e; ⟨F', a, b, c⟩
end
end Ev
namespace Ev
open PySem PySem.Spec PyProof.Rows L2

/-- what is told of the frame around a text -/
structure Gh where
  c : RC
  H0 : Hp
  bs : List (Nat × Addr)
  W : WX
  T : Tab
  call : Call
abbrev RelG (K : PySem.W.Frag) (g : Gh) (env : Env) (F : Hp) (σ : L2.St) (H : Hp) : Prop := Rel K g.c g.H0 g.bs env F σ H
def Keep (σ : L2.St) (env : Env) (H H' : Hp) : Prop := ∀ a o, H a = some o → ¬ Owned env σ a → H' a = some o
/-- an error leaves -/
def PostX (K : PySem.W.Frag) (g : Gh) (σ : L2.St) (env : Env) (F H : Hp) (k : Nat) (d : D) : Prop :=
  ∀ (dx : Addr) (w : V) (F' H' : Hp), Sub F F' → Sub F' H' → Keep σ env H H' → (∀ a o, F' a = some o → F a = some o ∨ H a = none ∨ Owned env σ a) → H dx = none → k < g.c.nc → H' dx = some (.xd [("value", w)]) → Rep K g.c F' d w → g.W (.ref (g.c.ca k)) (some dx) σ H'
def PostOf {α β : Type} (K : PySem.W.Frag) (g : Gh) (σ : L2.St) (env : Env) (F H : Hp) (rel : α → Env → Hp → Hp → β → Prop) (res : Res (α × Env)) (Q : β → Hp → Prop) : Prop :=
  match res with
  | .ok p => ∀ (v : β) (F' H' : Hp), RelG K g p.2 F' σ H' → Stp σ env F H p.2 F' H' → rel p.1 p.2 F' H' v → Q v H'
  | .exc k d => PostX K g σ env F H k d
  | .bad => False
abbrev Post (K : PySem.W.Frag) (g : Gh) (σ : L2.St) (env : Env) (F H : Hp) : Res (R × Env) → (V → Hp → Prop) → Prop :=
  PostOf K g σ env F H fun r e F' H' v => RelR K g.c H e F' σ H' r v
abbrev PostT (K : PySem.W.Frag) (g : Gh) (σ : L2.St) (env : Env) (F H : Hp) : Res (Bool × Env) → (Bool → Hp → Prop) → Prop :=
  PostOf K g σ env F H fun b _ _ _ v => b = v
inductive RelRs (K : PySem.W.Frag) (c : RC) (Hs : Hp) (env : Env) (F : Hp) (σ : L2.St) (H : Hp) : List R → List V → Prop
  | nil : RelRs K c Hs env F σ H [] []
  | cons {r : R} {v : V} {rs : List R} {vs : List V} : RelR K c Hs env F σ H r v → RelRs K c Hs env F σ H rs vs → (∀ (d : D) (j : Nat) (d' : D), r = R.tmp d → rs[j]? = some (R.tmp d') → vs[j]? ≠ some v) → RelRs K c Hs env F σ H (r :: rs) (v :: vs)
abbrev PostR (K : PySem.W.Frag) (g : Gh) (σ : L2.St) (env : Env) (F H : Hp) : Res (List R × Env) → (List V → Hp → Prop) → Prop :=
  PostOf K g σ env F H fun r e F' H' v => RelRs K g.c H e F' σ H' r v
abbrev PostD (K : PySem.W.Frag) (g : Gh) (σ : L2.St) (env : Env) (F H : Hp) : Res (List D × Env) → (List V → Hp → Prop) → Prop :=
  PostOf K g σ env F H fun r _ F' _ v => RepL K g.c F' r v
def ev (g : Gh) : E → Env → Res (R × Env) := evalE g.T.chg g.T.gval g.call
def tE (K : PySem.W.Frag) (g : Gh) (e : E) : TE := fun σ H Q => ∃ env F, RelG K g env F σ H ∧ Post K g σ env F H (ev g e env) Q
def tT (K : PySem.W.Frag) (g : Gh) (e : E) : TT := fun σ H Q => ∃ env F, RelG K g env F σ H ∧ PostT K g σ env F H (tst (ev g e env)) Q
def tB' (K : PySem.W.Frag) (g : Gh) (conj : Bool) (es : Es) : TT := fun σ H Q => ∃ env F, RelG K g env F σ H ∧ PostT K g σ env F H (evalB g.T.chg g.T.gval g.call conj es env) Q
def tRs (K : PySem.W.Frag) (g : Gh) (es : Es) : TA := fun σ H Q => ∃ env F, RelG K g env F σ H ∧ PostR K g σ env F H (evalRs g.T.chg g.T.gval g.call es env) Q
def tDs (K : PySem.W.Frag) (g : Gh) (es : Es) : TA := fun σ H Q => ∃ env F, RelG K g env F σ H ∧ PostD K g σ env F H (evalDs g.T.chg g.T.gval g.call es env) Q

theorem PE.mono {X : Cx} {e : Expr} {t t' : TE} (h : PE X e t) (m : ∀ σ H Q, t' σ H Q → t σ H Q) : PE X e t' := ⟨fun pins s σ H Q I q => h.run pins s σ H Q I (m σ H Q q)⟩
theorem PT.mono {X : Cx} {e : Expr} {t t' : TT} (h : PT X e t) (m : ∀ σ H Q, t' σ H Q → t σ H Q) : PT X e t' := ⟨fun pins s σ H Q I q => h.run pins s σ H Q I (m σ H Q q)⟩
theorem PW.mono {X : Cx} {e : Expr} {t t' : TT} (h : PW X e t) (m : ∀ σ H Q, t' σ H Q → t σ H Q) : PW X e t' := ⟨fun wh pins s σ H Q I q => h.run wh pins s σ H Q I (m σ H Q q)⟩
theorem PA.mono {X : Cx} {e : List Expr} {t t' : TA} (h : PA X e t) (m : ∀ σ H Q, t' σ H Q → t σ H Q) : PA X e t' := ⟨fun p pins s σ H Q I q => h.run p pins s σ H Q I (m σ H Q q)⟩
theorem PK.mono {X : Cx} {e : List Keyword} {t t' : TA} (h : PK X e t) (m : ∀ σ H Q, t' σ H Q → t σ H Q) : PK X e t' := ⟨fun p pins s σ H Q I q => h.run p pins s σ H Q I (m σ H Q q)⟩

section
variable {K : PySem.W.Frag} {g : Gh} {σ : L2.St} {env envs : Env} {F H Fs Hs F' H' : Hp}
theorem RelR.start {c : RC} {r : R} {v : V} {Fa : Hp} {enva : Env} (S : Stp σ envs Fs Hs enva Fa H) (h : RelR K c H env F σ H' r v) : RelR K c Hs env F σ H' r v := by
  cases r with
  | val d => exact h
  | tmp d =>
    obtain ⟨a, o, rfl, h1, h2, h3, h4, h5⟩ := h
    exact ⟨a, o, rfl, h1, h2, h3, S.back h4, h5⟩
  | var i => exact h
theorem PostX.from (S : Stp σ envs Fs Hs env F H) {k : Nat} {d : D} (h : PostX K g σ envs Fs Hs k d) : PostX K g σ env F H k d :=
  fun dx w F' H' s1 s2 kp gr h0 hk h1 h2 => h dx w F' H' (S.fsub.trans s1) s2 (fun a o e n => kp a o (S.keep a o e n) fun z => n (S.owned z)) (fun a o e => by
    rcases gr a o e with z | z | z
    · exact S.grow a o z
    · exact .inr (.inl (S.back z))
    · exact .inr (.inr (S.owned z))) (S.back h0) hk h1 h2
/-- one part, then the rest -/
theorem bindOf {α β γ δ : Type} {rel : α → Env → Hp → Hp → β → Prop} {rel2 : γ → Env → Hp → Hp → δ → Prop} {res : Res (α × Env)} {k : α × Env → Res (γ × Env)} {Q : δ → Hp → Prop} {Q' : β → Hp → Prop} (S : Stp σ envs Fs Hs env F H)
    (h : PostOf K g σ envs Fs Hs rel2 (res.bind k) Q)
    (hk : ∀ p v F1 H1, res = .ok p → RelG K g p.2 F1 σ H1 → Stp σ env F H p.2 F1 H1 → Stp σ envs Fs Hs p.2 F1 H1 → rel p.1 p.2 F1 H1 v → PostOf K g σ envs Fs Hs rel2 (k p) Q → Q' v H1) : PostOf K g σ env F H rel res Q' := by
  cases res with
  | ok p => exact fun v F1 H1 R1 S1 r1 => hk p v F1 H1 rfl R1 S1 (S.trans S1) r1 h
  | exc c d => exact PostX.from S h
  | bad => exact h.elim
theorem tE_bind {e : E} {γ δ : Type} {rel2 : γ → Env → Hp → Hp → δ → Prop} {k : R × Env → Res (γ × Env)} {Q : δ → Hp → Prop} {Q' : V → Hp → Prop} (R : RelG K g env F σ H) (S : Stp σ envs Fs Hs env F H)
    (h : PostOf K g σ envs Fs Hs rel2 ((ev g e env).bind k) Q)
    (hk : ∀ p v F1 H1, RelG K g p.2 F1 σ H1 → Stp σ env F H p.2 F1 H1 → Stp σ envs Fs Hs p.2 F1 H1 → RelR K g.c Hs p.2 F1 σ H1 p.1 v → PostOf K g σ envs Fs Hs rel2 (k p) Q → Q' v H1) : tE K g e σ H Q' :=
  ⟨env, F, R, bindOf S h fun p v F1 H1 _ R1 S1 S2 r1 h1 => hk p v F1 H1 R1 S1 S2 (RelR.start S r1) h1⟩
theorem tT_bind {e : E} {γ δ : Type} {rel2 : γ → Env → Hp → Hp → δ → Prop} {k : Bool × Env → Res (γ × Env)} {Q : δ → Hp → Prop} {Q' : Bool → Hp → Prop} (R : RelG K g env F σ H) (S : Stp σ envs Fs Hs env F H)
    (h : PostOf K g σ envs Fs Hs rel2 ((tst (ev g e env)).bind k) Q)
    (hk : ∀ p F1 H1, RelG K g p.2 F1 σ H1 → Stp σ envs Fs Hs p.2 F1 H1 → PostOf K g σ envs Fs Hs rel2 (k p) Q → Q' p.1 H1) : tT K g e σ H Q' :=
  ⟨env, F, R, bindOf S h fun p v F1 H1 _ R1 S1 S2 r1 h1 => r1 ▸ hk p F1 H1 R1 S2 h1⟩
/-- new things beside what there was -/
theorem Rel.more {c : RC} {H0 : Hp} {bs : List (Nat × Addr)} (R : Rel K c H0 bs env F σ H) (s1 : Sub F F') (s2 : Sub H H') (s3 : Sub F' H') (gr : ∀ a o, F' a = some o → F a = some o ∨ H a = none) : Rel K c H0 bs env F' σ H' where
  sub := s3
  len := R.len
  val := fun i d q => let ⟨v, g1, g2⟩ := R.val i d q; ⟨v, g1, g2.sub s1⟩
  own := fun i d q => by
    obtain ⟨a, o, g1, g2, g3, g4, g5⟩ := R.own i d q
    refine ⟨a, o, g1, s2 _ _ g2, g3.sub s1, ?_, g5⟩
    cases e : F' a with
    | none => rfl
    | some u => rcases gr a u e with z | z
                · rw [g4] at z; cases z
                · rw [g2] at z; cases z
  byr := fun i d q => by
    obtain ⟨a, o, g1, g2, g3, g4, g5⟩ := R.byr i d q
    refine ⟨a, o, g1, s2 _ _ g2, g3.sub s1, ?_, g5⟩
    cases e : F' a with
    | none => rfl
    | some u => rcases gr a u e with z | z
                · rw [g4] at z; cases z
                · rw [g2] at z; cases z
  dist := R.dist
  ext := fun a o h n => s2 _ _ (R.ext a o h n)
  th := fun a o h => let ⟨u, e⟩ := R.th a o h; ⟨u, s2 _ _ e⟩
theorem Stp.more (S : Stp σ envs Fs Hs env F H) (s1 : Sub F F') (s2 : Sub H H') (gr : ∀ a o, F' a = some o → F a = some o ∨ H a = none) : Stp σ envs Fs Hs env F' H' where
  fsub := S.fsub.trans s1
  keep := fun a o h n => s2 _ _ (S.keep a o h n)
  grow := fun a o h => by
    rcases gr a o h with z | z
    · exact S.grow a o z
    · exact .inr (.inl (S.back z))
  owns := S.owns
  th := fun a o h => let ⟨u, e⟩ := S.th a o h; ⟨u, s2 _ _ e⟩
theorem Rel.owned_some {c : RC} {H0 : Hp} {bs : List (Nat × Addr)} (R : Rel K c H0 bs env F σ H) {a : Addr} (h : Owned env σ a) : ∃ o, H a = some o := by
  obtain ⟨i, h1, h2⟩ := h
  cases q : env.at i with
  | no => rw [q] at h1; cases h1
  | val d => rw [q] at h1; cases h1
  | own d =>
    obtain ⟨b, o, g1, g2, _⟩ := R.own i d q
    rw [h2] at g1; cases g1; exact ⟨o, g2⟩
  | byr d =>
    obtain ⟨b, o, g1, g2, _⟩ := R.byr i d q
    rw [h2] at g1; cases g1; exact ⟨o, g2⟩
theorem Post.out {r : R} {Q : V → Hp → Prop} (R : RelG K g env F σ H) (S : Stp σ envs Fs Hs env F H) (h : Post K g σ envs Fs Hs (.ok (r, env)) Q) (nv : ∀ i, r ≠ .var i) : Out K g.c F H Q r := by
  cases r with
  | val d => exact fun v F' H' s1 s2 s3 gr rr => h v F' H' (R.more s1 s2 s3 gr) (S.more s1 s2 gr) rr
  | tmp d =>
    refine fun a o H' s2 hn ha ho => h (.ref a) F H' (R.more (Sub.refl _) s2 (R.sub.trans s2) fun _ _ z => .inl z) (S.more (Sub.refl _) s2 fun _ _ z => .inl z) ⟨a, o, rfl, ha, ho, ?_, S.back hn, fun z => ?_⟩
    · cases e : F a with
      | none => rfl
      | some u => rw [R.sub a u e] at hn; cases hn
    · obtain ⟨u, e⟩ := R.owned_some z
      rw [hn] at e; cases e
  | var i => exact absurd rfl (nv i)
end

/-! ### what the rules want of the texts -/
/-- the names, the scope, which names may be stored to -/
structure Ck where
  N : List Str
  sc : Scope
  st : Str → Bool
def visB (sc : Scope) (x : Str) : Bool := match sc.names.lookup x with
  | some .local => true
  | some .cell => true
  | some .free => true
  | _ => false
def glB (sc : Scope) (x : Str) : Bool := match sc.names.lookup x with
  | some .globalImplicit => true
  | _ => false
def locB (sc : Scope) (x : Str) : Bool := match sc.names.lookup x with
  | some .local => true
  | some .cell => true
  | _ => false
def okName (x : Str) : Bool := !(x == ("__debug__" : Str)) && !(x == ("__classdict__" : Str))
def Ck.inner (ck : Ck) (scope : Scope) : Ck := ⟨ck.N, relS scope ck.sc, locB scope⟩
theorem visB_ok {sc : Scope} {x : Str} (h : visB sc x = true) : Vis sc x := by
  unfold visB at h
  split at h <;> first | exact .inl (by assumption) | exact .inr (.inl (by assumption)) | exact .inr (.inr (by assumption)) | cases h
theorem glB_ok {sc : Scope} {x : Str} (h : glB sc x = true) : sc.names.lookup x = some .globalImplicit := by
  unfold glB at h
  split at h <;> first | assumption | cases h
theorem locB_ok {sc : Scope} {x : Str} (h : locB sc x = true) : sc.names.lookup x = some .local ∨ sc.names.lookup x = some .cell := by
  unfold locB at h
  split at h <;> first | exact .inl (by assumption) | exact .inr (by assumption) | cases h
theorem okName_ok {x : Str} (h : okName x = true) : (x == ("__debug__" : Str)) = false ∧ (x == ("__classdict__" : Str)) = false := by
  unfold okName at h
  rw [Bool.and_eq_true, Bool.not_eq_true', Bool.not_eq_true'] at h
  exact h
/-- a promise of a def by what the text is worth -/
def FPost (K : PySem.W.Frag) (c : RC) (F H : Hp) (m : Option Nat) (vs : List V) (res : Res (R × Option D)) (Q : VK) (E : XK) : Prop :=
  match res with
  | .ok p => ∀ (v : V) (F' H' : Hp), Sub F F' → Sub F' H' → (∀ a o, H a = some o → (∀ k, m = some k → vs[k]? ≠ some (.ref a)) → H' a = some o) → (∀ a o, H a = some o → ∃ u, H' a = some u) →
      (∀ a o, F' a = some o → F a = some o ∨ H a = none) →
      (∀ k a, m = some k → vs[k]? = some (.ref a) → ∃ d o, p.2 = some d ∧ H' a = some o ∧ RepO K c F' d o ∧ F' a = none) →
      (match p.1 with
       | .val d => Rep K c F' d v
       | .tmp d => ∃ a o, v = .ref a ∧ H' a = some o ∧ RepO K c F' d o ∧ F' a = none ∧ H a = none
       | .var _ => False) → Q v H'
  | .exc k d => ∀ (dx : Addr) (w : V) (F' H' : Hp), Sub F F' → Sub F' H' → (∀ a o, H a = some o → (∀ k, m = some k → vs[k]? ≠ some (.ref a)) → H' a = some o) → (∀ a o, F' a = some o → F a = some o ∨ H a = none ∨ ∃ k, m = some k ∧ vs[k]? = some (.ref a)) → H dx = none → k < c.nc → H' dx = some (.xd [("value", w)]) → Rep K c F' d w → E (.ref (c.ca k)) (some dx) H'
  | .bad => False
def ArgOk (K : PySem.W.Frag) (c : RC) (F H : Hp) (changed : Bool) (d : D) (v : V) : Prop :=
  if changed then ∃ a o, v = .ref a ∧ H a = some o ∧ RepO K c F d o ∧ F a = none else Rep K c F d v
def spF (K : PySem.W.Frag) (c : RC) (call : Call) (np : Nat) (f : Nat) (m : Option Nat) : Sp := fun vs H Q E => ∃ (F : Hp) (ds : List D), Sub F H ∧ ds.length = np ∧ vs.length = np ∧
  (∀ i d v, ds[i]? = some d → vs[i]? = some v → ArgOk K c F H (decide (m = some i)) d v) ∧ FPost K c F H m vs (call f ds) Q E
/-- parameters without a default, nothing else -/
structure Plain (fd : FuncData) (ps : List Str) : Prop where
  posonly : fd.params.posonlyargs = []
  args : fd.params.args.map (·.arg) = ps
  vararg : fd.params.vararg = none
  kwonly : fd.params.kwonlyargs = []
  kwarg : fd.params.kwarg = none
  defaults : fd.defaults = .none
  nd : ps.Nodup
/-- the classes of errors, as they stand -/
structure Errs (P : Program) (w : World) (K : PySem.W.Frag) (mg : Str → Option Value) (base : Heap) (c : RC) (cname : Nat → Option Str) : Prop where
  ini : ∃ (D fI : Addr) (fd : FuncData), PySem.W.typeIn K (.ref fI) = some (.type "function") ∧ Binds K fd Xc.N2 [] ∧ FnOk P w K mg base (CX P w) 1 fI fd Xc.N2 (Xc.spI K D) ∧ ∀ n x, cname n = some x → Xc.Under K D (c.ca n) ∧ PySem.W.findIn K (.ref (c.ca n)) "__init__" = some (some (.ref fI))
  cls : ∀ n x, cname n = some x → mg x = some (.ref (c.ca n)) ∧ Xc.ErrC K (c.ca n)
  sub : ∀ n x m y, cname n = some x → cname m = some y → PySem.W.exmOne K (.ref (c.ca n)) (.ref (c.ca m)) = some (subX n m) ∧ PySem.W.kitOne K (.ref (c.ca n)) (.ref (c.ca m)) = some (subX n m)
  ve : ∀ n x, cname n = some x → PySem.W.kitOne K (.ref (c.ca n)) (.type "ValueError") = some true ∧ PySem.W.kitOne K (.type "NoneType") (.ref (c.ca n)) = some false ∧ PySem.W.kitOne K (.type "NoneType") (.type "ValueError") = some false
structure ProgOk (T : Tab) (P : Program) (w : World) (K : PySem.W.Frag) (mg : Str → Option Value) (base : Heap) (c : RC) (k : Nat) (call : Call) : Prop where
  fns : ∀ f fd, T.fn f = some fd → mg (T.fname f) = some (.ref (c.fa f)) ∧ PySem.W.keepIn K (.ref (c.fa f)) = true ∧ (T.ps f).length = fd.np ∧
    ∃ fdt, Plain fdt (T.ps f) ∧ FnG P w K mg base (CX P w) k (c.fa f) fdt (T.ps f) (spF K c call fd.np f fd.chg)
  free : ∀ x ∈ builtinNames, mg x = none
  cons : ∀ n d, T.gval n = some d → ∃ u v, mg (T.gname n) = some u ∧ RelV v u ∧ ∀ F, Rep K c F d v
  err : 0 < c.nc → Errs P w K mg base c T.cname
  nc : ∀ n, (∃ x, T.cname n = some x) ↔ n < c.nc
  gcd : T.gcd = true → mg "gcd" = some (.builtin "math.gcd")
  cdn : ∀ n ds, T.gval n = some (.tup ds) → ∃ a o, mg (T.gname n) = some (.ref a) ∧ K.lookup a = some o ∧ o.cls = .type "tuple" ∧ o.dict = none
  ar : ∀ f fd ds, T.fn f = some fd → call f ds ≠ .bad → ds.length = fd.np
structure Good (X : Cx) (g : Gh) (ck : Ck) (k : Nat) : Prop where
  N : X.N = ck.N
  sc : X.env.scope = ck.sc
  nd : ck.N.Nodup
  calm : X.calm = true
  st : ∀ x, ck.st x = true → Loc ck.sc x ∧ (X.fn x = true ∨ ck.sc.names.lookup x = some .local)
  room : Room k X.A
  gd : X.A.guards = some []
  deep : 2 ≤ k
  tk : Takes X g.W
  pass : ∀ σ, PassesAt (CX X.prog X.w) X σ (WE g.W σ)
  prog : ProgOk g.T X.prog X.w X.K X.mg X.base g.c k g.call
end Ev
namespace Ev
open PySem PySem.Spec PyProof.Rows L2
section
variable {K : PySem.W.Frag} {g : Gh} {σ : L2.St} {env envs : Env} {F H Fs Hs F' H' : Hp}
theorem of_inv {α γ δ : Type} {rel : γ → Env → Hp → Hp → δ → Prop} {o : Option α} {k : α → Res (γ × Env)} {Q : δ → Hp → Prop} (h : PostOf K g σ env F H rel ((Res.of o).bind k) Q) : ∃ a, o = some a ∧ PostOf K g σ env F H rel (k a) Q := by
  cases o with
  | none => exact h.elim
  | some a => exact ⟨a, rfl, h⟩
theorem if_inv {p : Prop} [Decidable p] {γ δ : Type} {rel : γ → Env → Hp → Hp → δ → Prop} {r : Res (γ × Env)} {Q : δ → Hp → Prop} (h : PostOf K g σ env F H rel (if p then r else .bad) Q) : p ∧ PostOf K g σ env F H rel r Q := by
  by_cases q : p
  · rw [if_pos q] at h; exact ⟨q, h⟩
  · rw [if_neg q] at h; exact h.elim
end
section
variable {X : Cx} {g : Gh} {ck : Ck} {k : Nat} {pos : Pos}
theorem r_sl {i : Nat} {x : Str} (G : Good X g ck k) (hi : ck.N[i]? = some x) (hv : visB ck.sc x = true) (hn : okName x = true) : PE X (.Name x pos) (tE X.K g (.sl i)) := by
  refine PE.mono (pe_var (i := i) (by rw [G.N]; exact hi) (by rw [G.sc]; exact visB_ok hv) (okName_ok hn).1 (okName_ok hn).2) fun σ H Q ⟨env, F, R, h⟩ => ?_
  have h' : Post X.K g σ env F H (match env.at i with | .no => .bad | .val d => .ok (.val d, env) | _ => .ok (.var i, env)) Q := h
  cases q : env.at i with
  | no => rw [q] at h'; exact h'.elim
  | val d =>
    rw [q] at h'
    obtain ⟨v, g1, g2⟩ := R.val i d q
    exact ⟨v, g1, h' v F H R .refl g2⟩
  | own d =>
    rw [q] at h'
    obtain ⟨a, o, g1, g2, _⟩ := R.own i d q
    exact ⟨_, g1, h' (.ref a) F H R .refl g1⟩
  | byr d =>
    rw [q] at h'
    obtain ⟨a, o, g1, g2, _⟩ := R.byr i d q
    exact ⟨_, g1, h' (.ref a) F H R .refl g1⟩
def constB : D → Const → Bool
  | .non, .none => true
  | .bl b, .bool c => b == c
  | .int i, .int j => decide (i = j)
  | .str x, .str y => decide (y = ⟨x.toArray⟩) && x.all fun k => decide (k < 0x110000)
  | _, _ => false
theorem r_con {d : D} {co : Const} {j : Nat} (h : constB d co = true) : PE X (.Constant co j pos) (tE X.K g (.con d)) := by
  unfold constB at h
  split at h
  · exact PE.mono pe_non fun σ H Q ⟨env, F, R, q⟩ => q .non F H R .refl .non
  · rename_i b c
    obtain rfl : b = c := eq_of_beq h
    exact PE.mono pe_bl fun σ H Q ⟨env, F, R, q⟩ => q (.bl b) F H R .refl (.bl b)
  · rename_i a b
    obtain rfl : a = b := of_decide_eq_true h
    exact PE.mono pe_int fun σ H Q ⟨env, F, R, q⟩ => q (.int a) F H R .refl (.int a)
  · rename_i x y
    rw [Bool.and_eq_true] at h
    obtain rfl := of_decide_eq_true h.1
    exact PE.mono pe_str fun σ H Q ⟨env, F, R, q⟩ => q (.str _) F H R .refl (.str x h.2)
  · cases h
theorem r_gl {n : Nat} {x : Str} (G : Good X g ck k) (hx : g.T.gname n = x) (hg : glB ck.sc x = true) (hn : okName x = true) : PE X (.Name x pos) (tE X.K g (.gl n)) := by
  cases q : g.T.gval n with
  | none =>
    refine ⟨fun pins s σ H Q I ⟨env, F, R, h⟩ => ?_⟩
    have h' : Post X.K g σ env F H ((Res.of (g.T.gval n)).bind fun d => .ok (.val d, env)) Q := h
    rw [q] at h'
    exact h'.elim
  | some d =>
    obtain ⟨u, v, hm, r, rep⟩ := G.prog.cons n d q
    rw [hx] at hm
    refine PE.mono (pe_glob (v := v) (by show X.env.scope.names.lookup x = _; rw [G.sc]; exact glB_ok hg) hm r (okName_ok hn).1) fun σ H Q ⟨env, F, R, h⟩ => ?_
    have h' : Post X.K g σ env F H ((Res.of (g.T.gval n)).bind fun d => .ok (.val d, env)) Q := h
    rw [q] at h'
    exact h' v F H R .refl (rep F)
/-! ### operators -/
theorem nv_bop {o : BOp} {x y : D} {r : R} (h : bop o x y = some r) : ∀ i, r ≠ .var i := by
  intro i e
  subst e
  cases o <;> cases x <;> cases y <;> simp [bop, opAdd, opSub, opMul, opDiv, opMod, opPow] at h
theorem two {a b : E} {σ : L2.St} {H : Hp} {γ : Type} {δ : Type} {rel : γ → Env → Hp → Hp → δ → Prop} {env : Env} {F : Hp} {f : R × Env → R × Env → Res (γ × Env)} {Q : δ → Hp → Prop} {Q' : V → V → Hp → Prop} (R : RelG X.K g env F σ H)
    (h : PostOf X.K g σ env F H rel ((ev g a env).bind fun p => (ev g b p.2).bind fun q => f p q) Q)
    (hk : ∀ p q v w F2 H2, RelG X.K g q.2 F2 σ H2 → Stp σ env F H q.2 F2 H2 → (∀ x, peek p.1 q.2 = some x → RepP X.K g.c F2 H2 x v) → (∀ y, peek q.1 q.2 = some y → RepP X.K g.c F2 H2 y w) → PostOf X.K g σ env F H rel (f p q) Q → Q' v w H2) :
    tE X.K g a σ H fun x H1 => tE X.K g b σ H1 fun y H2 => Q' x y H2 :=
  tE_bind R .refl h fun p v F1 H1 R1 S1 S1' r1 h1 => tE_bind R1 S1' h1 fun q w F2 H2 R2 S2 S2' r2 h2 => by
    refine hk p q v w F2 H2 R2 S2' (fun x e => ?_) (fun y e => R2.peek r2 e) h2
    exact R2.peek (Hs := H) (RelR.step S2 r1) e
theorem r_op {o : BOp} {a b : E} {a' b' : Expr} (ha : PE X a' (tE X.K g a)) (hb : PE X b' (tE X.K g b)) : PE X (.BinOp a' (opOf o) b' pos) (tE X.K g (.op o a b)) := by
  refine PE.mono (pe_op (bop_ok (c := g.c) o) ha hb) fun σ H Q ⟨env, F, R, h⟩ => ?_
  refine two R h fun p q v w F2 H2 R2 S2 k1 k2 h2 => ?_
  split at h2
  · rename_i x y e1 e2
    obtain ⟨r, er, h3⟩ := of_inv h2
    exact ⟨F2, x, y, r, R2.sub, k1 x e1, k2 y e2, er, Post.out R2 S2 h3 (nv_bop er)⟩
  · exact h2.elim
theorem r_neg {a : E} {a' : Expr} (ha : PE X a' (tE X.K g a)) : PE X (.UnaryOp .USub a' pos) (tE X.K g (.neg a)) := by
  refine PE.mono (pe_un (neg_ok (c := g.c)) ha) fun σ H Q ⟨env, F, R, h⟩ => ?_
  refine tE_bind R .refl h fun p v F1 H1 R1 S1 S1' r1 h1 => ?_
  split at h1
  · rename_i x e
    obtain ⟨r, er, h3⟩ := of_inv h1
    refine ⟨F1, x, r, R1.sub, R1.peek r1 e, er, Post.out R1 S1' h3 fun i z => ?_⟩
    subst z
    cases x <;> simp [opNeg] at er
  · exact h1.elim
theorem r_cmp {o : COp} {a b : E} {a' b' : Expr} (hu : X.A.units + 65 < cLine) (ha : PE X a' (tE X.K g a)) (hb : PE X b' (tE X.K g b)) (hm : behindInMarks (copOf o) b' = false) : PE X (.Compare a' [copOf o] [b'] pos) (tE X.K g (.cmp o a b)) := by
  refine PE.mono (pe_cmpR (cop_ok (c := g.c) hu o) ha hb hm) fun σ H Q ⟨env, F, R, h⟩ => ?_
  refine two R h fun p q v w F2 H2 R2 S2 k1 k2 h2 => ?_
  split at h2
  · rename_i x y e1 e2
    obtain ⟨r, er, h3⟩ := of_inv h2
    exact ⟨F2, x, y, r, R2.sub, k1 x e1, k2 y e2, er, h3 _ F2 H2 R2 S2 (.bl r)⟩
  · exact h2.elim
/-- a test of a value that is a bool -/
theorem r_val {a : E} {a' : Expr} (ha : PE X a' (tE X.K g a)) (he : ∀ whole, isTrue a' X.env whole = (do let v ← whole; standAt a'.pos; holding [v] (truthy v))) : PT X a' (tT X.K g a) := by
  refine PT.mono (pt_val ha he) fun σ H Q ⟨env, F, R, h⟩ => ?_
  refine tE_bind R .refl h fun p v F1 H1 R1 S1 S1' r1 h1 => ?_
  split at h1
  · rename_i d e
    obtain ⟨b, eb, h3⟩ := of_inv h1
    cases d <;> simp [tru] at eb
    subst eb
    obtain rfl := (R1.peek r1 e).of_bl
    exact ⟨_, rfl, h3 _ F1 H1 R1 S1' rfl⟩
  · exact h1.elim
/-- a value from a test -/
theorem tst_bl {r : Res (Bool × Env)} : tst (r.bind fun p => .ok (R.val (.bl p.1), p.2)) = r := by
  cases r <;> rfl
theorem r_cmpT {o : COp} {a b : E} {a' b' : Expr} (hu : X.A.units + 65 < cLine) (ha : PE X a' (tE X.K g a)) (hb : PE X b' (tE X.K g b)) (hm : behindInMarks (copOf o) b' = false) : PT X (.Compare a' [copOf o] [b'] pos) (tT X.K g (.cmp o a b)) := by
  refine PT.mono (pt_cmpR (cop_ok (c := g.c) hu o) ha hb hm) fun σ H Q ⟨env, F, R, h⟩ => ?_
  have h' : PostT X.K g σ env F H ((ev g a env).bind fun p => (ev g b p.2).bind fun q => tst (match peek p.1 q.2, peek q.1 q.2 with
    | some x, some y => (Res.of (cop o x y)).bind fun r => .ok (.val (.bl r), q.2)
    | _, _ => .bad)) Q := by
    have e : tst (ev g (.cmp o a b) env) = (ev g a env).bind fun p => (ev g b p.2).bind fun q => tst (match peek p.1 q.2, peek q.1 q.2 with
      | some x, some y => (Res.of (cop o x y)).bind fun r => .ok (.val (.bl r), q.2)
      | _, _ => .bad) := by
      show tst ((ev g a env).bind fun p => (ev g b p.2).bind fun q => _) = _
      cases ev g a env with
      | ok p =>
        show tst ((ev g b p.2).bind fun q => _) = (ev g b p.2).bind fun q => _
        cases ev g b p.2 <;> rfl
      | exc _ _ => rfl
      | bad => rfl
    rw [← e]; exact h
  refine two R h' fun p q v w F2 H2 R2 S2 k1 k2 h2 => ?_
  split at h2
  · rename_i x y e1 e2
    cases er : cop o x y with
    | none => rw [er] at h2; exact h2.elim
    | some r =>
      rw [er] at h2
      exact ⟨F2, x, y, r, R2.sub, k1 x e1, k2 y e2, er, r, rfl, h2 _ F2 H2 R2 S2 rfl⟩
  · exact h2.elim
theorem r_not {a : E} {a' : Expr} (ha : PE X a' (tE X.K g a)) : PE X (.UnaryOp .Not a' pos) (tE X.K g (.not a)) := by
  refine PE.mono (pe_not ha) fun σ H Q ⟨env, F, R, h⟩ => ?_
  have h0 : Post X.K g σ env F H ((tst (ev g a env)).bind fun p => .ok (.val (.bl (!p.1)), p.2)) Q := h
  have h' : Post X.K g σ env F H ((ev g a env).bind fun p => (match peek p.1 p.2 with
    | some d => (Res.of (tru d)).bind fun b => .ok (b, p.2)
    | none => .bad : Res (Bool × Env)).bind fun p => .ok (.val (.bl (!p.1)), p.2)) Q := by
    unfold tst at h0
    cases q : ev g a env with
    | ok p => rw [q] at h0; exact h0
    | exc _ _ => rw [q] at h0; exact h0
    | bad => rw [q] at h0; exact h0
  refine tE_bind R .refl h' fun p v F1 H1 R1 S1 S1' r1 h1 => ?_
  split at h1
  · rename_i d e
    cases d <;> simp [tru, PostOf] at h1
    obtain rfl := (R1.peek r1 e).of_bl
    exact ⟨_, rfl, h1 _ F1 H1 R1 S1' (.bl _)⟩
  · exact h1.elim
theorem r_notT {a : E} {a' : Expr} (ha : PT X a' (tT X.K g a)) : PT X (.UnaryOp .Not a' pos) (tT X.K g (.not a)) := by
  refine PT.mono (pt_not ha) fun σ H Q ⟨env, F, R, h⟩ => ?_
  have h' : PostT X.K g σ env F H ((tst (ev g a env)).bind fun p => .ok (!p.1, p.2)) Q := by
    have e : tst (ev g (.not a) env) = (tst (ev g a env)).bind fun p => .ok (!p.1, p.2) := by
      show tst ((tst (ev g a env)).bind fun p => .ok (.val (.bl (!p.1)), p.2)) = _
      cases tst (ev g a env) <;> rfl
    rw [← e]; exact h
  exact tT_bind R .refl h' fun p F1 H1 R1 S1 h1 => h1 _ F1 H1 R1 S1 rfl
theorem r_ite {c a b : E} {c' a' b' : Expr} (hc : PT X c' (tT X.K g c)) (ha : PE X a' (tE X.K g a)) (hb : PE X b' (tE X.K g b)) : PE X (.IfExp c' a' b' pos) (tE X.K g (.ite c a b)) := by
  refine PE.mono (pe_ifExp hc ha hb) fun σ H Q ⟨env, F, R, h⟩ => ?_
  refine tT_bind R .refl h fun p F1 H1 R1 S1 h1 => ?_
  have h1' : Post X.K g σ env F H (if p.1 = true then ev g a p.2 else ev g b p.2) Q := h1
  cases q : p.1 with
  | true =>
    rw [q, if_pos rfl] at h1'
    rw [if_pos rfl]
    refine ⟨p.2, F1, R1, ?_⟩
    cases e : ev g a p.2 with
    | ok z => rw [e] at h1'; exact fun v F2 H2 R2 S2 r2 => h1' v F2 H2 R2 (S1.trans S2) (RelR.start S1 r2)
    | exc _ _ => rw [e] at h1'; exact PostX.from S1 h1'
    | bad => rw [e] at h1'; exact h1'.elim
  | false =>
    rw [q] at h1'
    rw [if_neg (by simp)] at h1' ⊢
    refine ⟨p.2, F1, R1, ?_⟩
    cases e : ev g b p.2 with
    | ok z => rw [e] at h1'; exact fun v F2 H2 R2 S2 r2 => h1' v F2 H2 R2 (S1.trans S2) (RelR.start S1 r2)
    | exc _ _ => rw [e] at h1'; exact PostX.from S1 h1'
    | bad => rw [e] at h1'; exact h1'.elim
end
end Ev
namespace Ev
open PySem PySem.Spec PyProof.Rows L2
section
variable {X : Cx} {g : Gh} {ck : Ck} {k : Nat} {pos : Pos}
/-! ### and, or -/
def mkB (p : Bool × Env) : Res (R × Env) := .ok (.val (.bl p.1), p.2)
def evB (g : Gh) (conj : Bool) : Es → Env → Res (Bool × Env) := evalB g.T.chg g.T.gval g.call conj
def tBv (K : PySem.W.Frag) (g : Gh) (conj : Bool) (es : Es) : TE := fun σ H Q => ∃ env F, RelG K g env F σ H ∧ Post K g σ env F H ((evB g conj es env).bind mkB) Q
def opB (conj : Bool) : BoolOp := if conj then .And else .Or
theorem evB_cons {conj : Bool} {a : E} {s : Bool} {r : Es} {e : Env} (h : r ≠ .nil) : evB g conj (.cons s a r) e = (tst (ev g a e)).bind fun p => if p.1 = conj then evB g conj r p.2 else .ok p := by
  cases r with
  | nil => exact absurd rfl h
  | cons s' a' r' => rfl
theorem tst_mk {r : Res (R × Env)} {β : Type} {k : Bool × Env → Res β} : (tst r).bind k = r.bind fun p => (match peek p.1 p.2 with
    | some d => (Res.of (tru d)).bind fun b => .ok (b, p.2)
    | none => .bad : Res (Bool × Env)).bind k := by
  cases r <;> rfl
theorem r_lg1 {conj s : Bool} {a : E} {a' : Expr} (ha : PE X a' (tE X.K g a)) : PE X (.BoolOp (opB conj) [a'] pos) (tBv X.K g conj (.cons s a .nil)) := by
  refine PE.mono (pe_one ha) fun σ H Q ⟨env, F, R, h⟩ => ?_
  have h' : Post X.K g σ env F H ((tst (ev g a env)).bind mkB) Q := h
  rw [tst_mk] at h'
  refine tE_bind R .refl h' fun p v F1 H1 R1 S1 S1' r1 h1 => ?_
  split at h1
  · rename_i d e
    cases d <;> simp [tru, PostOf] at h1
    obtain rfl := (R1.peek r1 e).of_bl
    exact h1 _ F1 H1 R1 S1' (.bl _)
  · exact h1.elim
theorem cont {K : PySem.W.Frag} {σ : L2.St} {env envs : Env} {F H Fs Hs : Hp} {res : Res (R × Env)} {Q : V → Hp → Prop} (S : Stp σ envs Fs Hs env F H) (h : Post K g σ envs Fs Hs res Q) : Post K g σ env F H res Q := by
  cases res with
  | ok z => exact fun v F2 H2 R2 S2 r2 => h v F2 H2 R2 (S.trans S2) (RelR.start S r2)
  | exc _ _ => exact PostX.from S h
  | bad => exact h.elim
theorem contT {K : PySem.W.Frag} {σ : L2.St} {env envs : Env} {F H Fs Hs : Hp} {res : Res (Bool × Env)} {Q : Bool → Hp → Prop} (S : Stp σ envs Fs Hs env F H) (h : PostT K g σ envs Fs Hs res Q) : PostT K g σ env F H res Q := by
  cases res with
  | ok z => exact fun v F2 H2 R2 S2 r2 => h v F2 H2 R2 (S.trans S2) r2
  | exc _ _ => exact PostX.from S h
  | bad => exact h.elim
theorem r_lgV {conj s : Bool} {a : E} {r : Es} {a' b' : Expr} {rest : List Expr} (hr : r ≠ .nil) (ha : PE X a' (tE X.K g a)) (hb : PE X (.BoolOp (opB conj) (b' :: rest) pos) (tBv X.K g conj r)) :
    PE X (.BoolOp (opB conj) (a' :: b' :: rest) pos) (tBv X.K g conj (.cons s a r)) := by
  have main : ∀ (σ : L2.St) (H : Hp) (Q : VK), tBv X.K g conj (.cons s a r) σ H Q → tE X.K g a σ H fun x H1 => ∃ c, x = .bl c ∧ if c = conj then tBv X.K g conj r σ H1 Q else Q (.bl c) H1 := by
    intro σ H Q ⟨env, F, R, h⟩
    rw [evB_cons hr] at h
    have h' : Post X.K g σ env F H ((tst (ev g a env)).bind fun p => (if p.1 = conj then evB g conj r p.2 else .ok p).bind mkB) Q := by
      cases q : tst (ev g a env) with
      | ok p => rw [q] at h; exact h
      | exc _ _ => rw [q] at h; exact h
      | bad => rw [q] at h; exact h
    rw [tst_mk] at h'
    refine tE_bind R .refl h' fun p v F1 H1 R1 S1 S1' r1 h1 => ?_
    split at h1
    · rename_i d e
      cases d with
      | bl c =>
        have h2 : Post X.K g σ env F H ((if c = conj then evB g conj r p.2 else .ok (c, p.2)).bind mkB) Q := h1
        obtain rfl := (R1.peek r1 e).of_bl
        refine ⟨c, rfl, ?_⟩
        by_cases z : c = conj
        · rw [if_pos z] at h2 ⊢
          exact ⟨p.2, F1, R1, cont S1' h2⟩
        · rw [if_neg z] at h2 ⊢
          exact h2 _ F1 H1 R1 S1' (.bl c)
      | _ => exact h1.elim
    · exact h1.elim
  cases conj with
  | true =>
    refine PE.mono (pe_and ha hb) fun σ H Q h => ?_
    obtain ⟨env, F, R, hp⟩ := main σ H Q h
    refine ⟨env, F, R, ?_⟩
    cases e : ev g a env with
    | ok p =>
      rw [e] at hp
      intro v F1 H1 R1 S1 r1
      obtain ⟨c, rfl, q⟩ := hp v F1 H1 R1 S1 r1
      refine ⟨c, rfl, ?_⟩
      cases c with
      | true => exact q
      | false => exact q
    | exc _ _ => rw [e] at hp; exact hp
    | bad => rw [e] at hp; exact hp
  | false =>
    refine PE.mono (pe_or ha hb) fun σ H Q h => ?_
    obtain ⟨env, F, R, hp⟩ := main σ H Q h
    refine ⟨env, F, R, ?_⟩
    cases e : ev g a env with
    | ok p =>
      rw [e] at hp
      intro v F1 H1 R1 S1 r1
      obtain ⟨c, rfl, q⟩ := hp v F1 H1 R1 S1 r1
      refine ⟨c, rfl, ?_⟩
      cases c with
      | true => exact q
      | false => exact q
    | exc _ _ => rw [e] at hp; exact hp
    | bad => rw [e] at hp; exact hp
theorem r_lgW1 {conj s : Bool} {a : E} {a' : Expr} (ha : PT X a' (tT X.K g a)) : PW X (.BoolOp (opB conj) [a'] pos) (tB' X.K g conj (.cons s a .nil)) := by
  cases conj with
  | true => exact PW.mono (pw_and1 ha) fun σ H Q h => h
  | false => exact PW.mono (pw_or1 ha) fun σ H Q h => h
theorem r_lgW {conj s : Bool} {a : E} {r : Es} {a' b' : Expr} {rest : List Expr} (hr : r ≠ .nil) (ha : PT X a' (tT X.K g a)) (hb : PW X (.BoolOp (opB conj) (b' :: rest) pos) (tB' X.K g conj r)) :
    PW X (.BoolOp (opB conj) (a' :: b' :: rest) pos) (tB' X.K g conj (.cons s a r)) := by
  have main : ∀ (σ : L2.St) (H : Hp) (Q : Bool → Hp → Prop), tB' X.K g conj (.cons s a r) σ H Q → tT X.K g a σ H fun c H1 => if c = conj then tB' X.K g conj r σ H1 Q else Q c H1 := by
    intro σ H Q ⟨env, F, R, h⟩
    have h' : PostT X.K g σ env F H ((tst (ev g a env)).bind fun p => if p.1 = conj then evB g conj r p.2 else .ok p) Q := by
      rw [← evB_cons hr]; exact h
    refine tT_bind R .refl h' fun p F1 H1 R1 S1 h1 => ?_
    by_cases z : p.1 = conj
    · rw [if_pos z] at h1 ⊢
      exact ⟨p.2, F1, R1, contT S1 h1⟩
    · rw [if_neg z] at h1 ⊢
      exact h1 p.1 F1 H1 R1 S1 rfl
  cases conj with
  | true =>
    refine PW.mono (pw_and ha hb) fun σ H Q h => ?_
    obtain ⟨env, F, R, hp⟩ := main σ H Q h
    refine ⟨env, F, R, ?_⟩
    cases e : tst (ev g a env) with
    | ok p =>
      rw [e] at hp
      intro v F1 H1 R1 S1 r1
      have q := hp v F1 H1 R1 S1 r1
      cases v with
      | true => exact q
      | false => exact q
    | exc _ _ => rw [e] at hp; exact hp
    | bad => rw [e] at hp; exact hp
  | false =>
    refine PW.mono (pw_or ha hb) fun σ H Q h => ?_
    obtain ⟨env, F, R, hp⟩ := main σ H Q h
    refine ⟨env, F, R, ?_⟩
    cases e : tst (ev g a env) with
    | ok p =>
      rw [e] at hp
      intro v F1 H1 R1 S1 r1
      have q := hp v F1 H1 R1 S1 r1
      cases v with
      | true => exact q
      | false => exact q
    | exc _ _ => rw [e] at hp; exact hp
    | bad => rw [e] at hp; exact hp
theorem r_lgE {conj : Bool} {es : Es} {e' : Expr} (h : PE X e' (tBv X.K g conj es)) : PE X e' (tE X.K g (.lg conj es)) := PE.mono h fun σ H Q q => q
theorem r_lgT {conj : Bool} {es : Es} {e' : Expr} (h : PW X e' (tB' X.K g conj es)) : PT X e' (tT X.K g (.lg conj es)) := by
  refine PT.mono h.pt fun σ H Q ⟨env, F, R, q⟩ => ⟨env, F, R, ?_⟩
  have e : tst (ev g (.lg conj es) env) = evB g conj es env := by
    exact tst_bl (r := evB g conj es env)
  rw [e] at q
  exact q
/-! ### items -/
theorem pas_nil : PA X [] (tDs X.K g .nil) := PA.mono pa_nil fun σ H Q ⟨env, F, R, h⟩ => h [] F H R .refl .nil
theorem r_item {a : E} {s : Bool} {r : Es} {σ : L2.St} {H : Hp} {Q : List V → Hp → Prop} {Q' : V → Hp → Prop} (h : tDs X.K g (.cons s a r) σ H Q)
    (hk : ∀ d v xs F2 H1 env2, spread s d = some xs → Rep X.K g.c F2 d v → RelG X.K g env2 F2 σ H1 → (∀ (Q1 : List V → Hp → Prop), (∀ ds vs F3 H3, Sub F2 F3 → Sub F3 H3 → RepL X.K g.c F3 ds vs → (∀ us, RepL X.K g.c F3 xs us → Q (us ++ vs) H3) → Q1 vs H3) → tDs X.K g r σ H1 Q1) → Q' v H1) : tE X.K g a σ H Q' := by
  obtain ⟨env, F, R, h⟩ := h
  have h' : PostD X.K g σ env F H ((ev g a env).bind fun p => (Res.of (asVal p.1 p.2)).bind fun z => (Res.of (spread s z.1)).bind fun xs => (evalDs g.T.chg g.T.gval g.call r z.2).bind fun w => .ok (xs ++ w.1, w.2)) Q := h
  refine tE_bind R .refl h' fun p v F1 H1 R1 S1 S1' r1 h1 => ?_
  obtain ⟨z, ez, h2⟩ := of_inv h1
  obtain ⟨d, env2⟩ := z
  obtain ⟨xs, exs, h2⟩ := of_inv h2
  obtain ⟨F2, R2, S2, rep⟩ := R1.asVal S1' r1 ez
  exact hk d v xs F2 H1 env2 exs rep R2 fun Q1 hq => ⟨env2, F2, R2, bindOf S2 h2 fun w vs F3 H3 _ R3 S3 S3' r3 h3 => hq w.1 vs F3 H3 S3.fsub R3.sub r3 fun us hu => h3 _ F3 H3 R3 S3' (hu.append r3)⟩
theorem pas_cons {a : E} {r : Es} {a' : Expr} {es : List Expr} (ha : PE X a' (tE X.K g a)) (hr : PA X es (tDs X.K g r)) (hs : starEach (a' :: es) X.env = (false, eval a' X.env) :: starEach es X.env) : PA X (a' :: es) (tDs X.K g (.cons false a r)) :=
  PA.mono (pa_cons ha hr hs) fun σ H Q h => r_item h fun d v xs F2 H1 env2 e rep R2 hq => hq _ fun ds vs F3 H3 s1 s2 rl hw => by
    cases e
    exact hw [v] (.cons (rep.sub s1) .nil)
theorem Rep.seq {d : D} {v : V} {xs : List D} {F H : Hp} (h : Rep X.K g.c F d v) (s : Sub F H) (e : spread true d = some xs) : ∃ p us, v = V.ref p ∧ (SqT X.K H p us ∨ SqL X.K H p us) ∧ RepL X.K g.c F xs us := by
  cases h <;> simp [spread] at e
  · subst e; exact ⟨_, _, rfl, .inl (sqT_sub s (by assumption)), by assumption⟩
  · subst e; exact ⟨_, _, rfl, .inr (SqL.of (s _ _ (by assumption))), by assumption⟩
theorem pas_star {a : E} {r : Es} {a' : Expr} {es : List Expr} {p : Pos} (ha : PE X a' (tE X.K g a)) (hr : PA X es (tDs X.K g r)) : PA X (.Starred a' p :: es) (tDs X.K g (.cons true a r)) :=
  PA.mono (StX.pa_star ha hr rfl) fun σ H Q h => r_item h fun d v xs F2 H1 env2 e rep R2 hq => by
    obtain ⟨q, us, ev, hx, hl⟩ := Rep.seq rep R2.sub e
    exact ⟨q, us, ev, hx, hq _ fun ds vs F3 H3 s1 s2 rl hw => hw us (RepL.sub s1 hl)⟩
/-- written items are a new list, a new tuple -/
theorem r_lst {es : Es} {es' : List Expr} (h : PA X es' (tDs X.K g es)) : PE X (.List es' pos) (tE X.K g (.lst es)) := by
  refine PE.mono (pe_lst h) fun σ H Q ⟨env, F, R, q⟩ => ⟨env, F, R, ?_⟩
  have q' : Post X.K g σ env F H ((evalDs g.T.chg g.T.gval g.call es env).bind fun p => if p.1.length ≤ LIM then .ok (.tmp (.lst p.1), p.2) else .bad) Q := q
  refine bindOf .refl q' fun p vs F1 H1 _ R1 S1 S1' r1 h1 => ?_
  obtain ⟨hl, h2⟩ := if_inv h1
  exact ⟨by rw [← r1.length, LIM_eq]; exact hl, (Post.out R1 S1' h2 fun i z => by cases z).new r1 hl⟩
theorem r_tup {es : Es} {es' : List Expr} {x1 : Nat} (h : PA X es' (tDs X.K g es)) : PE X (.Tuple es' x1 pos) (tE X.K g (.tup es)) := by
  refine PE.mono (pe_tup h) fun σ H Q ⟨env, F, R, q⟩ => ⟨env, F, R, ?_⟩
  have q' : Post X.K g σ env F H ((evalDs g.T.chg g.T.gval g.call es env).bind fun p => if p.1.length ≤ LIM then .ok (.val (.tup p.1), p.2) else .bad) Q := q
  refine bindOf .refl q' fun p vs F1 H1 _ R1 S1 S1' r1 h1 => ?_
  obtain ⟨hl, h2⟩ := if_inv h1
  exact ⟨by rw [← r1.length, LIM_eq]; exact hl, (Post.out R1 S1' h2 fun i z => by cases z).newT R1.sub r1 hl⟩
/-! ### arguments -/
theorem RelRs.start {K : PySem.W.Frag} {c : RC} {σ : L2.St} {env envs enva : Env} {F Fs Fa H Hs H' : Hp} {rs : List R} {vs : List V} (S : Stp σ envs Fs Hs enva Fa H) (h : RelRs K c H env F σ H' rs vs) : RelRs K c Hs env F σ H' rs vs := by
  induction h with
  | nil => exact .nil
  | cons r _ n ih => exact .cons (RelR.start S r) ih n
theorem prs_nil : PA X [] (tRs X.K g .nil) := PA.mono pa_nil fun σ H Q ⟨env, F, R, h⟩ => h [] F H R .refl .nil
theorem prk_nil : PK X [] (tRs X.K g .nil) := PK.mono pk_nil fun σ H Q ⟨env, F, R, h⟩ => h [] F H R .refl .nil
theorem RelRs.step {K : PySem.W.Frag} {c : RC} {σ : L2.St} {env env' : Env} {F F' H H' Hs : Hp} {rs : List R} {vs : List V} (S : Stp σ env F H env' F' H') (h : RelRs K c Hs env F σ H rs vs) : RelRs K c Hs env' F' σ H' rs vs := by
  induction h with
  | nil => exact .nil
  | cons r _ n ih => exact .cons (RelR.step S r) ih n
theorem RelRs.length {K : PySem.W.Frag} {c : RC} {σ : L2.St} {env : Env} {F H Hs : Hp} {rs : List R} {vs : List V} (h : RelRs K c Hs env F σ H rs vs) : rs.length = vs.length := by
  induction h with
  | nil => rfl
  | cons _ _ _ ih => simp [ih]
theorem RelRs.get {K : PySem.W.Frag} {c : RC} {σ : L2.St} {env : Env} {F H Hs : Hp} {rs : List R} {vs : List V} (h : RelRs K c Hs env F σ H rs vs) : ∀ {i : Nat} {r : R}, rs[i]? = some r → ∃ v, vs[i]? = some v ∧ RelR K c Hs env F σ H r v := by
  induction h with
  | nil => intro i r e; simp at e
  | cons r1 _ _ ih =>
    intro i r e
    cases i with
    | zero => simp at e; subst e; exact ⟨_, rfl, r1⟩
    | succ i => obtain ⟨v, h1, h2⟩ := ih (i := i) (r := r) (by simpa using e); exact ⟨v, by simpa using h1, h2⟩
theorem r_arg {a : E} {r : Es} {σ : L2.St} {H : Hp} {Q : List V → Hp → Prop} {Q' : V → Hp → Prop} (h : tRs X.K g (.cons false a r) σ H Q)
    (hk : ∀ v H1, tRs X.K g r σ H1 (fun vs H2 => Q (v :: vs) H2) → Q' v H1) : tE X.K g a σ H Q' := by
  obtain ⟨env, F, R, h⟩ := h
  have h' : PostR X.K g σ env F H ((ev g a env).bind fun p => (evalRs g.T.chg g.T.gval g.call r p.2).bind fun w => .ok (p.1 :: w.1, w.2)) Q := h
  refine tE_bind R .refl h' fun p v F1 H1 R1 S1 S1' r1 h1 => hk v H1 ⟨p.2, F1, R1, bindOf S1' h1 fun w vs F3 H3 _ R3 S3 S3' r3 h3 => ?_⟩
  refine h3 (v :: vs) F3 H3 R3 S3' (.cons (RelR.step S3 r1) (RelRs.start S1' r3) fun d j d' e1 e2 e3 => ?_)
  rw [e1] at r1
  obtain ⟨a, o, rfl, g1, _⟩ := r1
  obtain ⟨v', e4, r4⟩ := r3.get e2
  rw [e3] at e4
  cases e4
  obtain ⟨b, u, eb, _, _, _, g4, _⟩ := r4
  cases eb
  rw [g1] at g4
  cases g4
theorem prs_cons {a : E} {r : Es} {a' : Expr} {es : List Expr} (ha : PE X a' (tE X.K g a)) (hr : PA X es (tRs X.K g r)) (hs : starEach (a' :: es) X.env = (false, eval a' X.env) :: starEach es X.env) : PA X (a' :: es) (tRs X.K g (.cons false a r)) :=
  PA.mono (pa_cons ha hr hs) fun σ H Q h => r_arg h fun v H1 q => q
theorem prk_cons {a : E} {r : Es} {a' : Expr} {nm : Option Str} {kpos : Pos} {kws : List Keyword} (ha : PE X a' (tE X.K g a)) (hr : PK X kws (tRs X.K g r)) : PK X (⟨nm, a', kpos⟩ :: kws) (tRs X.K g (.cons false a r)) :=
  PK.mono (pk_cons ha hr) fun σ H Q h => r_arg h fun v H1 q => q
end
end Ev
namespace Ev
open PySem PySem.Spec PyProof.Rows L2
inductive RepPs (K : PySem.W.Frag) (c : RC) (F H : Hp) : List D → List V → Prop
  | nil : RepPs K c F H [] []
  | cons {d : D} {v : V} {ds : List D} {vs : List V} : RepP K c F H d v → RepPs K c F H ds vs → RepPs K c F H (d :: ds) (v :: vs)
theorem RepPs.inv0 {K : PySem.W.Frag} {c : RC} {F H : Hp} {vs : List V} (h : RepPs K c F H [] vs) : vs = [] := by cases h; rfl
theorem RepPs.inv1 {K : PySem.W.Frag} {c : RC} {F H : Hp} {d : D} {vs : List V} (h : RepPs K c F H [d] vs) : ∃ v, vs = [v] ∧ RepP K c F H d v := by
  cases h with
  | cons a b => cases b; exact ⟨_, rfl, a⟩
theorem RepPs.inv2 {K : PySem.W.Frag} {c : RC} {F H : Hp} {d e : D} {vs : List V} (h : RepPs K c F H [d, e] vs) : ∃ v w, vs = [v, w] ∧ RepP K c F H d v ∧ RepP K c F H e w := by
  cases h with
  | cons a b =>
    obtain ⟨w, rfl, r⟩ := b.inv1
    exact ⟨_, w, rfl, a, r⟩
theorem peeks {K : PySem.W.Frag} {c : RC} {H0 : Hp} {bs : List (Nat × Addr)} {env : Env} {F Hs H : Hp} {σ : L2.St} (R : Rel K c H0 bs env F σ H) : ∀ {rs : List Ev.R} {vs : List V} {ds : List D}, RelRs K c Hs env F σ H rs vs → rs.mapM (fun r => peek r env) = some ds → RepPs K c F H ds vs
  | [], _, ds, .nil, e => by simp at e; subst e; exact .nil
  | r :: rs, _, ds, .cons h t _, e => by
    rw [List.mapM_cons] at e
    cases q : peek r env with
    | none => rw [q] at e; cases e
    | some d =>
      rw [q] at e
      cases q2 : rs.mapM (fun r => peek r env) with
      | none => rw [q2] at e; cases e
      | some es =>
        rw [q2] at e
        cases e
        exact .cons (R.peek h q) (peeks R t q2)
def rBi (K : PySem.W.Frag) (c : RC) (b : Bi) : List V → Hp → VK → Prop := fun vs H Q => ∃ F ds r, Sub F H ∧ RepPs K c F H ds vs ∧ biOp b ds = some r ∧ Out K c F H Q r
def biName : Bi → Str
  | .len => "len"
  | .int => "int"
  | .max => "max"
  | .min => "min"
  | .sum => "sum"
  | .list => "list"
  | .tuple => "tuple"
  | .abs => "abs"
  | .all => "all"
  | .any => "any"
  | .bitlen => "bit_length"
  | .repr => "repr"
  | .str_ => "str"
  | .gcd => "gcd"
def biVal : Bi → Value
  | .len => .builtin "len"
  | .int => .type "int"
  | .max => .builtin "max"
  | .min => .builtin "min"
  | .sum => .builtin "sum"
  | .list => .type "list"
  | .tuple => .type "tuple"
  | .abs => .builtin "abs"
  | .all => .builtin "all"
  | .any => .builtin "any"
  | .bitlen => .none
  | .repr => .builtin "repr"
  | .str_ => .type "str"
  | .gcd => .builtin "math.gcd"
section
variable {X : Cx} {c : RC}
theorem str_len (x : List Nat) : (⟨x.toArray⟩ : Str).length = x.length := by simp [Str.length]
theorem RepP.repH {K : PySem.W.Frag} {F H : Hp} {d : D} {v : V} (s : Sub F H) (h : RepP K c F H d v) : Rep K c H d v := by
  rcases h with h | ⟨a, o, rfl, h1, h2⟩
  · exact h.sub s
  · rcases h2.two with ⟨ds, vs, rfl, rfl, r, l⟩ | ⟨ks, ds, kvs, rfl, rfl, k1, r, l⟩
    · exact .lst h1 (r.sub s) l
    · exact .dct h1 k1 rfl (r.sub s) l
theorem intL_all (i : Int) : (intL i).all (fun k => decide (k < 0x110000)) = true := by
  have h : ∀ n, (TL.numL n).all (fun k => decide (k < 0x110000)) = true := fun n => by
    rw [List.all_eq_true]
    intro z hz
    have := TL.numL_digits n z hz
    exact decide_eq_true (by omega)
  unfold intL
  split
  · rw [List.all_cons, h]; rfl
  · exact h _
theorem hex_all (w c : Nat) : (List.replicate w 48 ++ (Nat.toDigits 16 c).map Char.toNat).all (fun k => decide (k < 0x110000)) = true := by
  rw [List.all_eq_true]
  intro z hz
  rcases List.mem_append.mp hz with h | h
  · rw [(List.mem_replicate.mp h).2]; rfl
  · obtain ⟨ch, _, rfl⟩ := List.mem_map.mp h
    have := ch.valid
    refine decide_eq_true ?_
    rcases this with h | h
    · have : ch.toNat < 0xd800 := h
      omega
    · exact h.2
theorem reprChar_all {q k : Nat} (h : k < 0x110000) : (PySem.Builtin.Str.reprChar q k).all (fun k => decide (k < 0x110000)) = true := by
  have hk : decide (k < 0x110000) = true := decide_eq_true h
  unfold PySem.Builtin.Str.reprChar
  simp only
  repeat' split
  all_goals first
    | (rw [List.all_cons, List.all_cons, hk]; rfl)
    | (rw [List.all_cons, hk]; rfl)
    | rfl
    | (rw [List.all_append, hex_all]; rfl)
theorem repL_all {x : List Nat} (h : x.all (fun k => decide (k < 0x110000)) = true) : (repL x).all (fun k => decide (k < 0x110000)) = true := by
  have hq : decide (quoL x < 0x110000) = true := by unfold quoL; split <;> rfl
  unfold repL
  rw [List.all_cons, hq, Bool.true_and, List.all_append, Bool.and_eq_true]
  refine ⟨?_, by rw [List.all_cons, hq]; rfl⟩
  rw [List.all_eq_true] at h ⊢
  intro z hz
  obtain ⟨k, h1, h2⟩ := List.mem_flatMap.mp hz
  exact List.all_eq_true.mp (reprChar_all (of_decide_eq_true (h k h1))) z h2
theorem joinL_all {f : Nat → Bool} {S : List Nat} (hS : S.all f = true) : ∀ {ps : List (List Nat)}, (∀ p ∈ ps, p.all f = true) → (TL.joinL S ps).all f = true
  | [], _ => rfl
  | [p], h => h p (List.mem_cons_self ..)
  | p :: q :: r, h => by
    show (p ++ (S ++ TL.joinL S (q :: r))).all f = true
    rw [List.all_append, List.all_append, h p (List.mem_cons_self ..), hS, joinL_all hS (ps := q :: r) fun t ht => h t (List.mem_cons_of_mem _ ht)]
    rfl
mutual
theorem tx_all {K : PySem.W.Frag} {F : Hp} : ∀ (d : D) (v : V), Rep K c F d v → d.tx.all (fun k => decide (k < 0x110000)) = true
  | _, _, .non => rfl
  | _, _, .bl b => by cases b <;> rfl
  | _, _, .int i => intL_all i
  | _, _, .str x h => repL_all h
  | _, _, .emp _ => rfl
  | _, _, .dct _ _ _ _ _ => rfl
  | .tup xs, _, .tup _ ra _ => by
    show (40 :: (TL.joinL [44, 32] (D.txs xs) ++ (if xs.length == 1 then [44, 41] else [41]))).all _ = true
    rw [List.all_cons, List.all_append, joinL_all rfl (txs_all xs _ ra)]
    split <;> rfl
  | .lst xs, _, .lst _ ra _ => by
    show (91 :: (TL.joinL [44, 32] (D.txs xs) ++ [93])).all _ = true
    rw [List.all_cons, List.all_append, joinL_all rfl (txs_all xs _ ra)]
    rfl
  | _, _, .fn _ => rfl
  | _, _, .exc _ _ _ _ => rfl
  | _, _, .scr _ _ => rfl
  | _, _, .ctup _ _ _ _ _ => rfl
theorem txs_all {K : PySem.W.Frag} {F : Hp} : ∀ (ds : List D) (vs : List V), RepL K c F ds vs → ∀ p ∈ D.txs ds, p.all (fun k => decide (k < 0x110000)) = true
  | _, _, .nil, p, hp => nomatch hp
  | d :: ds, _, .cons r t, p, hp => by
    simp only [D.txs, List.mem_cons] at hp
    rcases hp with rfl | hp
    · exact tx_all d _ r
    · exact txs_all ds _ t p hp
end
theorem bi_ok (hc : X.calm = true) (hg : X.A.guards = some []) (hun : X.A.units + 65 < cLine) (b : Bi) (nb : b ≠ .bitlen) : CallR X (biVal b) (rBi X.K c b) := by
  intro pins s σ H vs us Q I rv ⟨F, ds, r, sF, rep, hb, q⟩
  unfold biOp at hb
  split at hb
  · -- len of a list
    obtain ⟨v, rfl, h1⟩ := rep.inv1
    obtain ⟨a, ws, rfl, ha, ra, la⟩ := h1.of_lst sF
    cases hb
    exact call_len pins s σ H _ us Q I rv ⟨_, ws.length, rfl, .inl ⟨ws, .inl (.inl ha), rfl⟩, by rw [← ra.length]; exact q.val sF (.int _)⟩
  · obtain ⟨v, rfl, h1⟩ := rep.inv1
    obtain ⟨a, ws, rfl, ha, ra, la, _⟩ := h1.of_tup sF
    cases hb
    exact call_len pins s σ H _ us Q I rv ⟨_, ws.length, rfl, .inr ⟨ws, ha, rfl⟩, by rw [← ra.length]; exact q.val sF (.int _)⟩
  · obtain ⟨v, rfl, h1⟩ := rep.inv1
    obtain ⟨a, rfl, ha, la⟩ := h1.of_scr sF
    cases hb
    exact call_len pins s σ H _ us Q I rv ⟨_, _, rfl, .inl ⟨_, ha, rfl⟩, by rw [List.length_map]; exact q.val sF (.int _)⟩
  · split at hb
    · rename_i hl
      obtain ⟨v, rfl, h1⟩ := rep.inv1
      obtain ⟨rfl, _⟩ := h1.of_str
      cases hb
      exact call_len pins s σ H _ us Q I rv ⟨_, _, rfl, ⟨by rw [str_len, LIM_eq]; exact hl, rfl⟩, by rw [str_len]; exact q.val sF (.int _)⟩
    · cases hb
  · obtain ⟨v, rfl, h1⟩ := rep.inv1
    obtain rfl := h1.of_int
    cases hb
    exact call_int1 pins s σ H _ us Q I rv (.inl ⟨_, rfl, q.val sF (.int _)⟩)
  · obtain ⟨v, rfl, h1⟩ := rep.inv1
    obtain rfl := h1.of_bl
    cases hb
    exact call_int1 pins s σ H _ us Q I rv (.inr ⟨_, rfl, q.val sF (.int _)⟩)
  · obtain ⟨v, w, rfl, h1, h2⟩ := rep.inv2
    obtain rfl := h1.of_int
    obtain rfl := h2.of_int
    cases hb
    exact call_max2 hc pins s σ H _ us Q I rv ⟨_, _, rfl, q.val sF (.int _)⟩
  · obtain ⟨v, w, rfl, h1, h2⟩ := rep.inv2
    obtain rfl := h1.of_int
    obtain rfl := h2.of_int
    cases hb
    exact call_min2 hc pins s σ H _ us Q I rv ⟨_, _, rfl, q.val sF (.int _)⟩
  · obtain ⟨v, rfl, h1⟩ := rep.inv1
    obtain ⟨a, ws, rfl, ha, ra, la⟩ := h1.of_lst sF
    rename_i xs
    cases e : intsOf xs with
    | none => rw [e] at hb; cases hb
    | some ns =>
      rw [e] at hb
      cases hb
      have hw := ra.ints e
      subst hw
      exact cr_sum hc pins s σ H _ us Q I rv ⟨a, ns, rfl, .inl (.inl ha), q.val sF (.int _)⟩
  · obtain ⟨v, rfl, h1⟩ := rep.inv1
    obtain rfl := h1.of_int
    cases hb
    exact call_abs pins s σ H _ us Q I rv ⟨_, rfl, q.val sF (.int _)⟩
  · obtain ⟨v, rfl, h1⟩ := rep.inv1
    obtain ⟨a, ws, rfl, ha, ra, la⟩ := h1.of_lst sF
    rename_i xs
    cases e : boolsOf xs with
    | none => rw [e] at hb; cases hb
    | some ns =>
      rw [e] at hb
      cases hb
      have hw := ra.bools e
      subst hw
      exact cr_all hc pins s σ H _ us Q I rv ⟨a, ns, rfl, .inl (.inl ha), q.val sF (.bl _)⟩
  · obtain ⟨v, rfl, h1⟩ := rep.inv1
    obtain ⟨a, ws, rfl, ha, ra, la⟩ := h1.of_lst sF
    rename_i xs
    cases e : boolsOf xs with
    | none => rw [e] at hb; cases hb
    | some ns =>
      rw [e] at hb
      cases hb
      have hw := ra.bools e
      subst hw
      exact cr_any hc pins s σ H _ us Q I rv ⟨a, ns, rfl, .inl (.inl ha), q.val sF (.bl _)⟩
  · obtain ⟨v, rfl, h1⟩ := rep.inv1
    obtain ⟨a, ws, rfl, ha, ra, la⟩ := h1.of_lst sF
    cases hb
    exact call_list_of pins s σ H _ us Q I rv ⟨a, ws, rfl, .inl (.inl (.inl ha)), q.new ra la⟩
  · obtain ⟨v, rfl, h1⟩ := rep.inv1
    obtain ⟨a, ws, rfl, ha, ra, la, _⟩ := h1.of_tup sF
    cases hb
    exact call_list_of pins s σ H _ us Q I rv ⟨a, ws, rfl, .inr ha, q.new ra la⟩
  · obtain ⟨v, rfl, h1⟩ := rep.inv1
    obtain ⟨a, ws, rfl, ha, ra, la⟩ := h1.of_lst sF
    cases hb
    exact call_tuple_of pins s σ H _ us Q I rv ⟨a, ws, rfl, .inl ⟨.inl (.inl ha), q.newT sF ra la⟩⟩
  · obtain ⟨v, rfl, h1⟩ := rep.inv1
    obtain ⟨a, ws, rfl, ha, ra, la, fa⟩ := h1.of_tup sF
    cases hb
    exact call_tuple_of pins s σ H _ us Q I rv ⟨a, ws, rfl, .inr ⟨ha, q.val sF (.tup fa ra la)⟩⟩
  · exact absurd rfl nb
  · split at hb
    · rename_i hl
      obtain ⟨v, rfl, h1⟩ := rep.inv1
      cases hb
      have r1 := h1.repH sF
      exact call_reprD (c := c) hg hun pins s σ H _ us Q I rv ⟨_, v, rfl, r1, hl.1, hl.2, q.val sF (.str _ (tx_all _ _ r1))⟩
    · cases hb
  · split at hb
    · rename_i hl
      obtain ⟨v, rfl, h1⟩ := rep.inv1
      obtain rfl := h1.of_int
      cases hb
      refine call_str_int pins s σ H _ us Q I rv ⟨_, rfl, hl, ?_⟩
      rw [← TL.mk_tl (Str.ofString (toString _)), tl_intText]
      exact q.val sF (.str _ (intL_all _))
    · cases hb
  · obtain ⟨v, rfl, h1⟩ := rep.inv1
    obtain ⟨rfl, va⟩ := h1.of_str
    cases hb
    exact SkE.call_str_str pins s σ H _ us Q I rv ⟨_, rfl, q.val sF (.str _ va)⟩
  · split at hb
    · rename_i hl
      obtain ⟨v, rfl, h1⟩ := rep.inv1
      obtain ⟨rfl, va⟩ := h1.of_str
      cases hb
      exact call_int_str pins s σ H _ us Q I rv ⟨_, _, rfl, SX.int_S hl.1 hl.2.1 (by omega), by rw [str_len]; exact hl.2.2, q.val sF (.int _)⟩
    · cases hb
  · obtain ⟨v, w, rfl, h1, h2⟩ := rep.inv2
    obtain rfl := h1.of_int
    obtain rfl := h2.of_int
    cases hb
    exact cr_gcd pins s σ H _ us Q I rv ⟨_, _, rfl, q.val sF (.int _)⟩
  · cases hb
/-! ### index and slice -/
def rIxD (K : PySem.W.Frag) (c : RC) : R2 := rBop K c opIx
theorem RepL.at {K : PySem.W.Frag} {c : RC} {F : Hp} {ds : List D} {vs : List V} {i : Int} {d : D} (r : RepL K c F ds vs) (h : atI ds i = some d) : ∃ v, atI vs i = some v ∧ Rep K c F d v := by
  unfold atI at h ⊢
  rw [r.length] at h
  cases e : L2.ixN vs.length i with
  | none => rw [e] at h; cases h
  | some j =>
    rw [e] at h
    exact r.get h
theorem ix_dct (hu : X.A.units + 1 < cLine) : IxR X (fun x y H Q => ∃ a v, x = .ref a ∧ DGet H a y (some v) ∧ Q v H) := by
  intro value slice pins s σ H x y o i Q I rx ry ⟨a, w, ex, g, q⟩ hs
  subst ex
  obtain rfl : o = Value.ref a := rx
  have hT := dict_typeIs I g
  have h₂ : wpAny (model X.prog X.w) X.A (getItem (.ref a) i) (EP X pins σ Q) X.xe s := d_getItem hu I g ry fun w' s3 I3 rw' => ⟨w, H, I3, rw', q⟩
  unfold subscriptTail
  refine wpAny_bind ?_
  rw [getitemInPython_of_ne hT.not_modules]
  refine wpAny_bind (wpAny_specialOf hT PySem.F.slot_dict_getitem.lookup ?_)
  have fin : wpAny (model X.prog X.w) X.A (subscripted slice false (.ref a) i) (fun r s₃ => wpAny (model X.prog X.w) X.A (letTemporaryGo value (.ref a) r >>= fun _ => pure r) (EP X pins σ Q) X.xe s₃) X.xe s := by
    rw [hs]
    exact wpAny_operating (wpAny_mono h₂ (fun r s₃ h₃ => wpAny_bind (wpAny_letTemporaryGo (wpAny_pure h₃))) fun _ _ x => x)
  first
    | exact wpAny_pure (wpAny_bind fin)
    | exact wpAny_bind (wpAny_pure (wpAny_bind fin))
    | exact wpAny_bind fin
theorem ix_ok (hu : X.A.units + 1 < cLine) : IxR X (rIxD X.K c) := by
  intro value slice pins s σ H x y v u Q I rx ry ⟨F, d, e, r, sF, hd, he, hr, q⟩ hs
  unfold opIx at hr
  split at hr
  · rename_i xs i
    obtain rfl := he.of_int
    obtain ⟨a, ws, rfl, ha, ra, la⟩ := hd.of_lst sF
    cases e1 : atI xs i with
    | none => rw [e1] at hr; cases hr
    | some z =>
      rw [e1] at hr; cases hr
      obtain ⟨w, e2, rw'⟩ := ra.at e1
      exact ix_seq value slice pins s σ H _ _ v u Q I rx ry (.inl ⟨a, ws, i, w, rfl, rfl, .inl (.inl ha), e2, q.val sF rw'⟩) hs
  · rename_i xs i
    obtain rfl := he.of_int
    obtain ⟨a, ws, rfl, ha, ra, la, _⟩ := hd.of_tup sF
    cases e1 : atI xs i with
    | none => rw [e1] at hr; cases hr
    | some z =>
      rw [e1] at hr; cases hr
      obtain ⟨w, e2, rw'⟩ := ra.at e1
      exact ix_seq value slice pins s σ H _ _ v u Q I rx ry (.inr (.inl ⟨a, ws, i, w, rfl, rfl, ha, e2, q.val sF rw'⟩)) hs
  · rename_i ns i
    obtain rfl := he.of_int
    obtain ⟨a, rfl, ha, la⟩ := hd.of_scr sF
    cases e1 : atI ns i with
    | none => rw [e1] at hr; cases hr
    | some z =>
      rw [e1] at hr; cases hr
      have e2 : atI (ns.map V.int) i = some (.int z) := by
        unfold atI at e1 ⊢
        rw [List.length_map]
        cases e3 : L2.ixN ns.length i with
        | none => rw [e3] at e1; cases e1
        | some j => rw [e3] at e1; simp only [Option.bind_some] at e1 ⊢; rw [List.getElem?_map, e1]; rfl
      exact ix_seq value slice pins s σ H _ _ v u Q I rx ry (.inl ⟨a, _, i, _, rfl, rfl, ha, e2, q.val sF (.int _)⟩) hs
  · rename_i xs i
    split at hr
    · rename_i hl
      obtain rfl := he.of_int
      obtain ⟨rfl, va⟩ := hd.of_str
      cases e1 : atI xs i with
      | none => rw [e1] at hr; cases hr
      | some z =>
        rw [e1] at hr; cases hr
        refine ix_seq value slice pins s σ H _ _ v u Q I rx ry (.inr (.inr ⟨⟨xs.toArray⟩, i, z, rfl, rfl, by rw [str_len, LIM_eq]; exact hl, by simpa using e1, ?_⟩)) hs
        refine q.val sF (.str [z] ?_)
        unfold atI at e1
        cases e3 : L2.ixN xs.length i with
        | none => rw [e3] at e1; cases e1
        | some j =>
          rw [e3] at e1
          have hm : z ∈ xs := List.mem_of_getElem? (show xs[j]? = some z from e1)
          have := List.all_eq_true.mp va z hm
          simpa using this
    · cases hr
  · rename_i ks ds k
    obtain ⟨rfl, _⟩ := he.of_str
    obtain ⟨a, kvs, rfl, ha, k1, rl, ll⟩ := hd.of_dct sF
    rcases valV_get k k1 rl with ⟨e1, _⟩ | ⟨d', v', e1, e2, rp⟩
    · rw [e1] at hr; cases hr
    · rw [e1] at hr
      obtain rfl : R.val d' = r := by simpa using hr
      exact ix_dct hu value slice pins s σ H _ _ v u Q I rx ry ⟨a, v', rfl, by rw [← e2]; exact DGet.k (k := .inr ⟨k.toArray⟩) ha, q.val sF rp⟩ hs
  · cases hr
def rSli (K : PySem.W.Frag) (c : RC) : V → Option Int → Option Int → Hp → VK → Prop := fun x lo hi H Q => ∃ F d r, Sub F H ∧ RepP K c F H d x ∧ opSli d lo hi = some r ∧ Out K c F H Q r
theorem RepL.cut {K : PySem.W.Frag} {c : RC} {F : Hp} {ds : List D} {vs : List V} (r : RepL K c F ds vs) (lo hi : Option Int) : RepL K c F (cut ds lo hi) (cutV vs lo hi) := by
  unfold Ev.cut cutV
  rw [r.length]
  exact (r.drop _).take _
theorem cut_len {α : Type} (xs : List α) (lo hi : Option Int) : (cut xs lo hi).length ≤ xs.length := by
  unfold cut
  rw [List.length_take, List.length_drop]; omega
theorem sli_ok : SlR X (rSli X.K c) := by
  intro pins s σ H x v vl vu lo hi sl Q I rx hs pl pu ⟨F, d, r, sF, hd, hr, q⟩
  cases d with
  | lst xs =>
    cases hr
    obtain ⟨a, ws, rfl, ha, ra, la⟩ := hd.of_lst sF
    exact sl_list pins s σ H _ v vl vu lo hi sl Q I rx hs pl pu ⟨a, ws, rfl, .inl (.inl ha), q.new (ra.cut lo hi) (Nat.le_trans (cut_len _ _ _) la)⟩
  | scr ns =>
    cases hr
    obtain ⟨a, rfl, ha, la⟩ := hd.of_scr sF
    refine sl_list pins s σ H _ v vl vu lo hi sl Q I rx hs pl pu ⟨a, _, rfl, ha, ?_⟩
    have e : cutV (ns.map V.int) lo hi = (cut ns lo hi).map V.int := by
      unfold cutV Ev.cut
      rw [List.length_map, List.map_take, List.map_drop]
    rw [e]
    exact q.new (repL_ints _) (by rw [List.length_map]; exact Nat.le_trans (cut_len _ _ _) la)
  | tup xs =>
    cases hr
    obtain ⟨a, ws, rfl, ha, ra, la, fa⟩ := hd.of_tup sF
    refine sl_tupA pins s σ H _ v vl vu lo hi sl Q I rx hs pl pu ⟨a, ws, rfl, ha, fun ⟨e1, e2⟩ => ?_, fun _ => q.newT sF (ra.cut lo hi) (Nat.le_trans (cut_len _ _ _) la)⟩
    have e : cut xs lo hi = xs := by
      unfold Ev.cut
      rw [ra.length, e1, e2, List.drop_zero, ← ra.length]
      simp
    rw [e] at q
    exact q.val sF (.tup fa ra la)
  | str xs =>
    have hr' : (if xs.length ≤ LIM then some (Ev.R.val (.str (cut xs lo hi))) else none) = some r := hr
    split at hr'
    · rename_i hl
      cases hr'
      obtain ⟨rfl, va⟩ := hd.of_str
      refine sl_str pins s σ H _ v vl vu lo hi sl Q I rx hs pl pu ⟨_, rfl, by rw [str_len, LIM_eq]; exact hl, ?_⟩
      have e : cutS ⟨xs.toArray⟩ lo hi = ⟨(cut xs lo hi).toArray⟩ := by
        unfold cutS Ev.cut
        rw [str_len]
      rw [e]
      refine q.val sF (.str _ ?_)
      rw [List.all_eq_true] at va ⊢
      intro z hz
      exact va z (List.mem_of_mem_drop (List.mem_of_mem_take hz))
    · cases hr'
  | _ => cases hr
end
section
variable {X : Cx} {g : Gh} {ck : Ck} {k : Nat} {pos : Pos}
theorem nv_bi {b : Bi} {ds : List D} {r : R} (h : biOp b ds = some r) : ∀ i, r ≠ .var i := by
  intro i e
  subst e
  unfold biOp at h
  split at h <;> simp [vI, vB] at h <;> (revert h; first | (cases intsOf _ <;> simp; done) | (cases boolsOf _ <;> simp; done))
theorem nv_ix {x y : D} {r : R} (h : opIx x y = some r) : ∀ i, r ≠ .var i := by
  intro i e
  subst e
  unfold opIx at h
  split at h <;> simp at h
theorem nv_sli {x : D} {a b : Option Int} {r : R} (h : opSli x a b = some r) : ∀ i, r ≠ .var i := by
  intro i e
  subst e
  unfold opSli at h
  split at h <;> simp at h
theorem r_bi {b : Bi} {es : Es} {a' : Expr} {es' : List Expr} {p : Pos} (G : Good X g ck k) (hg : glB ck.sc (biName b) = true) (nb : b ≠ .bitlen) (hgc : b = .gcd → g.T.gcd = true) (h : PA X (a' :: es') (tRs X.K g es))
    (he : starEach (a' :: es') X.env = (false, eval a' X.env) :: starEach es' X.env) (hpl : (backTo pos (starEach es' X.env)).any (·.1) = false) : PE X (.Call (.Name (biName b) p) (a' :: es') [] pos) (tE X.K g (.bi b es)) := by
  have hgl : Gl X (biName b) := by show X.env.scope.names.lookup _ = _; rw [G.sc]; exact glB_ok hg
  have main : PE X (.Call (.Name (biName b) p) (a' :: es') [] pos) (tCB (rBi X.K g.c b) (tRs X.K g es)) := by
    have hok := bi_ok (c := g.c) G.calm G.gd (by have := G.room.un; omega) b nb
    cases b with
    | len => exact pe_callB hok hgl (G.prog.free _ (by decide)) (by decide +kernel) h (by decide) (by decide) he hpl
    | int => exact pe_callTy hok hgl (G.prog.free _ (by decide)) (by decide +kernel) h (by decide) (by decide) he hpl
    | max => exact pe_callB hok hgl (G.prog.free _ (by decide)) (by decide +kernel) h (by decide) (by decide) he hpl
    | min => exact pe_callB hok hgl (G.prog.free _ (by decide)) (by decide +kernel) h (by decide) (by decide) he hpl
    | sum => exact pe_callB hok hgl (G.prog.free _ (by decide)) (by decide +kernel) h (by decide) (by decide) he hpl
    | list => exact pe_callTy hok hgl (G.prog.free _ (by decide)) (by decide +kernel) h (by decide) (by decide) he hpl
    | tuple => exact pe_callTy hok hgl (G.prog.free _ (by decide)) (by decide +kernel) h (by decide) (by decide) he hpl
    | abs => exact pe_callB hok hgl (G.prog.free _ (by decide)) (by decide +kernel) h (by decide) (by decide) he hpl
    | all => exact pe_callB hok hgl (G.prog.free _ (by decide)) (by decide +kernel) h (by decide) (by decide) he hpl
    | any => exact pe_callB hok hgl (G.prog.free _ (by decide)) (by decide +kernel) h (by decide) (by decide) he hpl
    | bitlen => exact absurd rfl nb
    | repr => exact pe_callB hok hgl (G.prog.free _ (by decide)) (by decide +kernel) h (by decide) (by decide) he hpl
    | str_ => exact pe_callTy hok hgl (G.prog.free _ (by decide)) (by decide +kernel) h (by decide) (by decide) he hpl
    | gcd => exact pe_callBfun hok hgl (G.prog.gcd (hgc rfl)) h (by decide) he hpl
  refine PE.mono main fun σ H Q ⟨env, F, R, q⟩ => ⟨env, F, R, ?_⟩
  have q' : Post X.K g σ env F H ((evalRs g.T.chg g.T.gval g.call es env).bind fun p => (Res.of (p.1.mapM fun r => peek r p.2)).bind fun ds => (Res.of (biOp b ds)).bind fun r => .ok (r, p.2)) Q := q
  refine bindOf .refl q' fun p vs F1 H1 _ R1 S1 S1' r1 h1 => ?_
  obtain ⟨ds, ed, h2⟩ := of_inv h1
  obtain ⟨r, er, h3⟩ := of_inv h2
  exact ⟨F1, ds, r, R1.sub, peeks R1 r1 ed, er, Post.out R1 S1' h3 (nv_bi er)⟩
theorem r_bits {o : E} {o' : Expr} {apos : Pos} (ho : PE X o' (tE X.K g o)) (hbase : attributeBase o' "bit_length" X.env (eval o' X.env) = eval o' X.env) (hline : (apos.endLine == pos.line) = true) :
    PE X (.Call (.Attribute o' "bit_length" apos) [] [] pos) (tE X.K g (.bi .bitlen (.cons false o .nil))) := by
  refine PE.mono (pe_bits ho hbase hline) fun σ H Q ⟨env, F, R, q⟩ => ?_
  have q' : Post X.K g σ env F H ((ev g o env).bind fun p => (Res.of ([p.1].mapM fun r => peek r p.2)).bind fun ds => (Res.of (biOp .bitlen ds)).bind fun r => .ok (r, p.2)) Q := by
    have e : ev g (.bi .bitlen (.cons false o .nil)) env = (ev g o env).bind fun p => (Res.of ([p.1].mapM fun r => peek r p.2)).bind fun ds => (Res.of (biOp .bitlen ds)).bind fun r => .ok (r, p.2) := by
      show ((ev g o env).bind fun p => Res.ok ([p.1], p.2)).bind _ = _
      cases ev g o env <;> rfl
    rw [← e]; exact q
  refine tE_bind R .refl q' fun p v F1 H1 R1 S1 S1' r1 h1 => ?_
  obtain ⟨ds, ed, h2⟩ := of_inv h1
  obtain ⟨r, er, h3⟩ := of_inv h2
  have rp : RepPs X.K g.c F1 H1 ds [v] := peeks (Hs := H) R1 (.cons r1 .nil (by intro d j d' _ e; simp at e)) ed
  cases ds with
  | nil => cases rp
  | cons d ds =>
    cases rp with
    | cons rd rt =>
      cases rt
      cases d <;> simp [biOp] at er
      rename_i i
      obtain rfl := rd.of_int
      cases er
      exact ⟨i, rfl, h3 _ F1 H1 R1 S1' (.int _)⟩
theorem r_ix (hu : X.A.units + 1 < cLine) {a b : E} {a' b' : Expr} (hs : PlainIx b') (ha : PE X a' (tE X.K g a)) (hb : PE X b' (tE X.K g b)) : PE X (.Subscript a' b' pos) (tE X.K g (.ix a b)) := by
  refine PE.mono (pe_ix (ix_ok hu (c := g.c)) ha hb hs) fun σ H Q ⟨env, F, R, h⟩ => ?_
  refine two R h fun p q v w F2 H2 R2 S2 k1 k2 h2 => ?_
  split at h2
  · rename_i x y e1 e2
    obtain ⟨r, er, h3⟩ := of_inv h2
    exact ⟨F2, x, y, r, R2.sub, k1 x e1, k2 y e2, er, Post.out R2 S2 h3 (nv_ix er)⟩
  · exact h2.elim
/-- a slice's end: nothing, or an int -/
inductive Part (X : Cx) (g : Gh) : E → Option Expr → Prop
  | none : Part X g .none_ none
  | some {a : E} {a' : Expr} : a ≠ .none_ → PE X a' (tE X.K g a) → Part X g a (some a')
def tP (K : PySem.W.Frag) (g : Gh) (a : E) : TO := fun σ H Q => ∃ env F, RelG K g env F σ H ∧ PostOf K g σ env F H (fun o _ _ _ v => o = v) (evP a (ev g a env)) Q
theorem PO.mono {X : Cx} {e : Option Expr} {t t' : TO} (h : PO X e t) (m : ∀ σ H Q, t' σ H Q → t σ H Q) : PO X e t' := ⟨fun pins s σ H Q I q => h.run pins s σ H Q I (m σ H Q q)⟩
theorem part_po {a : E} {a' : Option Expr} (hp : Part X g a a') : PO X a' (tP X.K g a) := by
  cases hp with
  | none => exact PO.mono po_none fun σ H Q ⟨env, F, R, h⟩ => h none F H R .refl rfl
  | some hn ha =>
    refine PO.mono (po_some ha) fun σ H Q ⟨env, F, R, h⟩ => ?_
    have h' : PostOf X.K g σ env F H (fun o _ _ _ v => o = v) ((ev g a env).bind fun p => match peek p.1 p.2 with
      | some (.int i) => .ok (some i, p.2)
      | _ => .bad) Q := by
      cases a <;> first | exact absurd rfl hn | exact h
    refine tE_bind R .refl h' fun p v F1 H1 R1 S1 S1' r1 h1 => ?_
    split at h1
    · rename_i i e
      obtain rfl := (R1.peek r1 e).of_int
      exact ⟨i, rfl, h1 _ F1 H1 R1 S1' rfl⟩
    · exact h1.elim
theorem r_sli {a lo hi : E} {a' : Expr} {lo' hi' : Option Expr} {p2 : Pos} (ha : PE X a' (tE X.K g a)) (hl : Part X g lo lo') (hh : Part X g hi hi') : PE X (.Subscript a' (.Slice lo' hi' none p2) pos) (tE X.K g (.sli a lo hi)) := by
  refine PE.mono (pe_slice (sli_ok (c := g.c)) ha (part_po hl) (part_po hh)) fun σ H Q ⟨env, F, R, h⟩ => ?_
  have h' : Post X.K g σ env F H ((ev g a env).bind fun p => (evP lo (ev g lo p.2)).bind fun q => (evP hi (ev g hi q.2)).bind fun s =>
    match peek p.1 s.2 with
    | some x => (Res.of (opSli x q.1 s.1)).bind fun r => .ok (r, s.2)
    | none => .bad) Q := h
  refine tE_bind R .refl h' fun p v F1 H1 R1 S1 S1' r1 h1 => ⟨p.2, F1, R1, bindOf S1' h1 fun q o F2 H2 _ R2 S2 S2' e2 h2 => ⟨q.2, F2, R2, bindOf S2' h2 fun s o' F3 H3 _ R3 S3 S3' e3 h3 => ?_⟩⟩
  subst e2 e3
  split at h3
  · rename_i x e
    obtain ⟨r, er, h4⟩ := of_inv h3
    exact ⟨F3, x, r, R3.sub, R3.peek (Hs := H) (RelR.step S3 (RelR.step S2 r1)) e, er, Post.out R3 S3' h4 (nv_sli er)⟩
  · exact h3.elim
end
end Ev
namespace Ev
open PySem PySem.Spec PyProof.Rows L2
/-! ### what a loop goes through -/
/-- new things that may be told beside what stands still -/
structure Grow (F H F' H' : Hp) : Prop where
  f : Sub F F'
  h : Sub H H'
  s : Sub F' H'
  g : ∀ a o, F' a = some o → F a = some o ∨ H a = none
theorem Grow.refl {F H : Hp} (s : Sub F H) : Grow F H F H := ⟨Sub.refl _, Sub.refl _, s, fun _ _ h => .inl h⟩
theorem Grow.tup {F H : Hp} {T : Addr} {xs : List V} (s : Sub F H) (n : H T = none) : Grow F H (upd F T (.tup xs)) (upd H T (.tup xs)) := by
  have hF : F T = none := by
    cases e : F T with
    | none => rfl
    | some u => rw [s _ _ e] at n; cases n
  refine ⟨sub_upd hF, sub_upd n, fun b u h => ?_, fun b u h => ?_⟩
  · by_cases e : b = T
    · subst e; rw [upd_same] at h ⊢; exact h
    · rw [upd_ne e] at h ⊢; exact s _ _ h
  · by_cases e : b = T
    · subst e; exact .inr n
    · rw [upd_ne e] at h; exact .inl h
/-- J gives the items one by one, while F stands -/
def Walks (K : PySem.W.Frag) (c : RC) (F : Hp) (J : L2.It) (items : List D) : Prop :=
  ∃ Y : Nat → Hp → V → Hp → Prop, Walk J items.length (fun H => Sub F H) Y ∧ ∀ i H x H', i < items.length → Y i H x H' → ∀ Fi, Sub F Fi → Sub Fi H → ∃ d F', items[i]? = some d ∧ Grow Fi H F' H' ∧ Rep K c F' d x
section
variable {K : PySem.W.Frag} {c : RC} {F : Hp}
theorem walks_list {a : Addr} {ds : List D} {vs : List V} (h : F a = some (.lst vs)) (r : RepL K c F ds vs) : Walks K c F (Itl K a) ds := by
  refine ⟨YAt vs, ?_, fun i H x H' hi ⟨e, hx⟩ Fi s1 s2 => ?_⟩
  · rw [r.length]
    exact walk_list.mono (fun H s => .inl (.inl (s _ _ h))) fun _ _ _ _ _ _ y => y
  · subst e
    obtain ⟨d, e1, e2⟩ := r.getV hx
    exact ⟨d, Fi, e1, .refl s2, e2.sub s1⟩
theorem walks_tup {a : Addr} {ds : List D} {vs : List V} (h : SqT K F a vs) (r : RepL K c F ds vs) : Walks K c F (Itt K a) ds := by
  refine ⟨YAt vs, ?_, fun i H x H' hi ⟨e, hx⟩ Fi s1 s2 => ?_⟩
  · rw [r.length]
    exact walk_tup.mono (fun H s => sqT_sub s h) fun _ _ _ _ _ _ y => y
  · subst e
    obtain ⟨d, e1, e2⟩ := r.getV hx
    exact ⟨d, Fi, e1, .refl s2, e2.sub s1⟩
theorem walks_str {x : List Nat} (h : x.all (fun k => decide (k < 0x110000)) = true) : Walks K c F (Its ⟨x.toArray⟩) (x.map fun k => .str [k]) := by
  refine ⟨fun i H v H' => H' = H ∧ ∃ k, x[i]? = some k ∧ v = .str ⟨#[k]⟩, ?_, fun i H v H' hi ⟨e, k, hk, ev⟩ Fi s1 s2 => ?_⟩
  · rw [List.length_map]
    have w := walk_str (z := ⟨x.toArray⟩)
    simp only [List.size_toArray, List.getElem?_toArray] at w
    exact w.mono (fun _ _ => trivial) fun _ _ _ _ _ _ y => y
  · subst e ev
    refine ⟨.str [k], Fi, by rw [List.getElem?_map, hk]; rfl, .refl s2, .str [k] ?_⟩
    have := List.all_eq_true.mp h k (List.mem_of_getElem? hk)
    simpa using this
theorem walks_range {lo : Int} {n : Nat} : Walks K c F (Itr lo n) ((List.range n).map fun (i : Nat) => .int (lo + (i : Int))) := by
  refine ⟨YFn fun i => .int (lo + i), ?_, fun i H v H' hi ⟨e, ev⟩ Fi s1 s2 => ?_⟩
  · rw [List.length_map, List.length_range]
    exact walk_range.mono (fun _ _ => trivial) fun _ _ _ _ _ _ y => y
  · subst e ev
    rw [List.length_map, List.length_range] at hi
    exact ⟨.int (lo + i), Fi, by rw [List.getElem?_map, List.getElem?_range hi]; rfl, .refl s2, .int _⟩
theorem walks_pair {J : L2.It} {n : Nat} {G : Hp → Prop} {xs ys : Nat → Option V} {items : List D} (w : Walk J n G (YPair xs ys)) (hG : ∀ H, Sub F H → G H) (hn : items.length = n)
    (hi : ∀ i x y, xs i = some x → ys i = some y → ∃ d e, items[i]? = some (.tup [d, e]) ∧ Rep K c F d x ∧ Rep K c F e y) : Walks K c F J items := by
  refine ⟨_, (hn ▸ w).mono hG fun _ _ _ _ _ _ y => y, fun i H v H' h ⟨T, x, y, ev, nT, eH, ex, ey⟩ Fi s1 s2 => ?_⟩
  subst ev eH
  obtain ⟨d, e, h1, h2, h3⟩ := hi i x y ex ey
  have gr := Grow.tup (xs := [x, y]) s2 nT
  exact ⟨_, _, h1, gr, .tup (.inl (.inl upd_same)) (.cons (h2.sub (s1.trans gr.f)) (.cons (h3.sub (s1.trans gr.f)) .nil)) (by simp only [List.length_cons, List.length_nil]; decide)⟩
theorem walks_enum {a : Addr} {ds : List D} {vs : List V} (h : F a = some (.lst vs)) (r : RepL K c F ds vs) : Walks K c F (Ite K a) (ds.zipIdx.map fun q => .tup [.int (q.2 : Nat), q.1]) := by
  refine walks_pair (walk_enum (xs := vs)) (fun H s => .inl (.inl (s _ _ h))) (by rw [List.length_map, List.length_zipIdx, r.length]) fun i x y e1 e2 => ?_
  cases e1
  obtain ⟨d, e3, e4⟩ := r.getV e2
  exact ⟨_, d, by rw [List.getElem?_map, List.getElem?_zipIdx, e3]; simp, .int _, e4⟩
theorem zip_get {ds es : List D} {i : Nat} {d e : D} (h1 : ds[i]? = some d) (h2 : es[i]? = some e) : ((ds.zip es).map fun q => D.tup [q.1, q.2])[i]? = some (.tup [d, e]) := by
  have h : (ds.zip es)[i]? = some (d, e) := List.getElem?_zip_eq_some.mpr ⟨h1, h2⟩
  rw [List.getElem?_map, h]; rfl
theorem walks_zip {a b : Addr} {ds es : List D} {vs ws : List V} (ha : F a = some (.lst vs)) (hb : F b = some (.lst ws)) (ra : RepL K c F ds vs) (rb : RepL K c F es ws) : Walks K c F (Itz K a b) ((ds.zip es).map fun q => .tup [q.1, q.2]) := by
  refine walks_pair (walk_zip (xs := vs) (ys := ws) rfl) (fun H s => ⟨.inl (.inl (s _ _ ha)), .inl (.inl (s _ _ hb))⟩) (by rw [List.length_map, List.length_zip, ra.length, rb.length]) fun i x y e1 e2 => ?_
  obtain ⟨d, h1, h2⟩ := ra.getV e1
  obtain ⟨e, h3, h4⟩ := rb.getV e2
  exact ⟨d, e, zip_get h1 h3, h2, h4⟩
theorem walk_zipT' {a b : Addr} {xs ys : List V} {n : Nat} (hn : n = min xs.length ys.length) : Walk (RZ.ItzT K a b) n (fun H => SqT K H a xs ∧ SqT K H b ys) (YPair (fun i => xs[i]?) (fun i => ys[i]?)) := by
  subst hn
  refine ⟨fun i H hi q => ?_, fun H q => ⟨xs, ys, q.1, q.2, by omega⟩, fun i H v H' _ q y => ?_⟩
  · have h1 : i < xs.length := by omega
    have h2 : i < ys.length := by omega
    exact ⟨xs, ys, xs[i], ys[i], q.1, q.2, by simp [h1], by simp [h2]⟩
  · obtain ⟨T, x, z, h1, h2, h3, h4, h5⟩ := y
    exact ⟨T, x, z, h1, h2, h3, h4 xs q.1, h5 ys q.2⟩
theorem walks_zipT {a b : Addr} {ds es : List D} {vs ws : List V} (ha : SqT K F a vs) (hb : SqT K F b ws) (ra : RepL K c F ds vs) (rb : RepL K c F es ws) : Walks K c F (RZ.ItzT K a b) ((ds.zip es).map fun q => .tup [q.1, q.2]) := by
  refine walks_pair (walk_zipT' (xs := vs) (ys := ws) rfl) (fun H s => ⟨sqT_sub s ha, sqT_sub s hb⟩) (by rw [List.length_map, List.length_zip, ra.length, rb.length]) fun i x y e1 e2 => ?_
  obtain ⟨d, h1, h2⟩ := ra.getV e1
  obtain ⟨e, h3, h4⟩ := rb.getV e2
  exact ⟨d, e, zip_get h1 h3, h2, h4⟩
open XcZ in
theorem walk_zipS' {t1 t2 : Bool} {a b : Addr} {xs ys : List V} (hn : xs.length = ys.length) : Walk (ItzS t1 t2 K a b) xs.length (fun H => SqK t1 K H a xs ∧ SqK t2 K H b ys) (YPair (fun i => xs[i]?) (fun i => ys[i]?)) := by
  refine ⟨fun i H hi q => ?_, fun H q => ⟨xs, ys, q.1, q.2, by omega, by omega⟩, fun i H v H' _ q y => ?_⟩
  · have h2 : i < ys.length := by omega
    exact ⟨xs, ys, xs[i], ys[i], q.1, q.2, by simp [hi], by simp [h2]⟩
  · obtain ⟨T, x, z, h1, h2, h3, h4, h5⟩ := y
    exact ⟨T, x, z, h1, h2, h3, h4 xs q.1, h5 ys q.2⟩
open XcZ in
theorem sqK_sub {t : Bool} {F F' : Hp} {a : Addr} {xs : List V} (s : Sub F F') (h : if t then SqT K F a xs else F a = some (.lst xs)) : SqK t K F' a xs := by
  cases t with
  | true => exact sqT_sub s h
  | false => exact .inl (.inl (s _ _ h))
open XcZ in
theorem walks_zipS {t1 t2 : Bool} {a b : Addr} {ds es : List D} {vs ws : List V} (ha : if t1 then SqT K F a vs else F a = some (.lst vs)) (hb : if t2 then SqT K F b ws else F b = some (.lst ws)) (ra : RepL K c F ds vs) (rb : RepL K c F es ws) (hl : ds.length = es.length) : Walks K c F (ItzS t1 t2 K a b) ((ds.zip es).map fun q => .tup [q.1, q.2]) := by
  have h1 := ra.length
  have h2 := rb.length
  refine walks_pair (walk_zipS' (xs := vs) (ys := ws) (by omega)) (fun H s => ⟨sqK_sub s ha, sqK_sub s hb⟩) (by rw [List.length_map, List.length_zip]; omega) fun i x y e1 e2 => ?_
  obtain ⟨d, h1, h2⟩ := ra.getV e1
  obtain ⟨e, h3, h4⟩ := rb.getV e2
  exact ⟨d, e, zip_get h1 h3, h2, h4⟩
open XcZ in
theorem walk_zipF' {t1 t2 : Bool} {a b : Addr} {xs ys : List V} {n : Nat} (hn : n = min xs.length ys.length) : Walk (ItzF t1 t2 K a b) n (fun H => SqK t1 K H a xs ∧ SqK t2 K H b ys) (YPair (fun i => xs[i]?) (fun i => ys[i]?)) := by
  subst hn
  refine ⟨fun i H hi q => ?_, fun H q => ⟨xs, ys, q.1, q.2, by omega⟩, fun i H v H' _ q y => ?_⟩
  · have h1 : i < xs.length := by omega
    have h2 : i < ys.length := by omega
    exact ⟨xs, ys, xs[i], ys[i], q.1, q.2, by simp [h1], by simp [h2]⟩
  · obtain ⟨T, x, z, h1, h2, h3, h4, h5⟩ := y
    exact ⟨T, x, z, h1, h2, h3, h4 xs q.1, h5 ys q.2⟩
open XcZ in
theorem walks_zipF {t1 t2 : Bool} {a b : Addr} {ds es : List D} {vs ws : List V} (ha : if t1 then SqT K F a vs else F a = some (.lst vs)) (hb : if t2 then SqT K F b ws else F b = some (.lst ws)) (ra : RepL K c F ds vs) (rb : RepL K c F es ws) : Walks K c F (ItzF t1 t2 K a b) ((ds.zip es).map fun q => .tup [q.1, q.2]) := by
  refine walks_pair (walk_zipF' (xs := vs) (ys := ws) rfl) (fun H s => ⟨sqK_sub s ha, sqK_sub s hb⟩) (by rw [List.length_map, List.length_zip, ra.length, rb.length]) fun i x y e1 e2 => ?_
  obtain ⟨d, h1, h2⟩ := ra.getV e1
  obtain ⟨e, h3, h4⟩ := rb.getV e2
  exact ⟨d, e, zip_get h1 h3, h2, h4⟩
end
def evI (g : Gh) : Ev.It → Env → Res (List D × Env) := evalIt g.T.chg g.T.gval g.call
abbrev PostI (K : PySem.W.Frag) (g : Gh) (σ : L2.St) (env : Env) (F H : Hp) : Res (List D × Env) → (L2.It → Hp → Prop) → Prop :=
  PostOf K g σ env F H fun items _ F' _ J => Walks K g.c F' J items
def tI (K : PySem.W.Frag) (g : Gh) (it : Ev.It) : TI := fun σ H R => ∃ env F, RelG K g env F σ H ∧ PostI K g σ env F H (evI g it env) R
section
variable {X : Cx} {g : Gh} {ck : Ck} {k : Nat} {pos p tpos : Pos} {tg : Expr}
theorem PI.mono {e : Expr} {t t' : TI} (h : PI X tg e t) (m : ∀ σ H Q, t' σ H Q → t σ H Q) : PI X tg e t' := ⟨fun pins s σ H Q I q => h.run pins s σ H Q I (m σ H Q q)⟩
/-- what a reading of an expression hands on, as a value that stands still -/
theorem tE_val {e : E} {σ : L2.St} {H : Hp} {env envs : Env} {F Fs Hs : Hp} {γ δ : Type} {rel2 : γ → Env → Hp → Hp → δ → Prop} {kk : D × Env → Res (γ × Env)} {Q : δ → Hp → Prop} {Q' : V → Hp → Prop} (R : RelG X.K g env F σ H) (S : Stp σ envs Fs Hs env F H)
    (h : PostOf X.K g σ envs Fs Hs rel2 ((ev g e env).bind fun p => (Res.of (asVal p.1 p.2)).bind kk) Q)
    (hk : ∀ z v F1 H1, RelG X.K g z.2 F1 σ H1 → Stp σ envs Fs Hs z.2 F1 H1 → Rep X.K g.c F1 z.1 v → PostOf X.K g σ envs Fs Hs rel2 (kk z) Q → Q' v H1) : tE X.K g e σ H Q' :=
  tE_bind R S h fun p v F1 H1 R1 S1 S1' r1 h1 => by
    obtain ⟨z, ez, h2⟩ := of_inv h1
    obtain ⟨d, env2⟩ := z
    obtain ⟨F2, R2, S2, rep⟩ := R1.asVal S1' r1 ez
    exact hk _ v F2 H1 R2 S2 rep h2
/-- .. and what stood still ahead stands on -/
theorem tE_val' {e : E} {σ : L2.St} {H : Hp} {env envs : Env} {F Fs Hs : Hp} {γ δ : Type} {rel2 : γ → Env → Hp → Hp → δ → Prop} {kk : D × Env → Res (γ × Env)} {Q : δ → Hp → Prop} {Q' : V → Hp → Prop} (R : RelG X.K g env F σ H) (S : Stp σ envs Fs Hs env F H)
    (h : PostOf X.K g σ envs Fs Hs rel2 ((ev g e env).bind fun p => (Res.of (asVal p.1 p.2)).bind kk) Q)
    (hk : ∀ z v F1 H1, RelG X.K g z.2 F1 σ H1 → Stp σ envs Fs Hs z.2 F1 H1 → Sub F F1 → Rep X.K g.c F1 z.1 v → PostOf X.K g σ envs Fs Hs rel2 (kk z) Q → Q' v H1) : tE X.K g e σ H Q' :=
  tE_bind R S h fun p v F1 H1 R1 S1 S1' r1 h1 => by
    obtain ⟨z, ez, h2⟩ := of_inv h1
    obtain ⟨d, env2⟩ := z
    obtain ⟨F2, R2, S2, rep, fs, _⟩ := R1.asVal' S1' r1 ez
    exact hk _ v F2 H1 R2 S2 (S1.fsub.trans fs) rep h2
theorem i_seq {a : E} {a' : Expr} (ha : PE X a' (tE X.K g a)) : PI X tg a' (tI X.K g (.seq a)) := by
  refine ⟨fun pins s σ H R I ⟨env, F, Rl, h⟩ => ?_⟩
  have h' : PostI X.K g σ env F H ((ev g a env).bind fun p => (Res.of (asVal p.1 p.2)).bind fun z => match z.1 with
    | .lst xs => .ok (xs, z.2)
    | .tup xs => .ok (xs, z.2)
    | .str xs => .ok (xs.map fun c => .str [c], z.2)
    | _ => .bad) R := h
  cases e1 : ev g a env with
  | bad => rw [e1] at h'; exact h'.elim
  | exc _ _ =>
    refine (pi_list ha).run pins s σ H R I ⟨env, F, Rl, ?_⟩
    rw [e1] at h' ⊢
    exact h'
  | ok p =>
    cases e2 : asVal p.1 p.2 with
    | none => rw [e1] at h'; simp only [Res.bind_ok, e2, Res.of_none, Res.bind_bad] at h'; exact h'.elim
    | some z =>
      obtain ⟨d, env2⟩ := z
      have go : ∀ {Q' : V → Hp → Prop}, (∀ v F1 H1, RelG X.K g env2 F1 σ H1 → Stp σ env F H env2 F1 H1 → Rep X.K g.c F1 d v → Q' v H1) → tE X.K g a σ H Q' := fun {Q'} hk =>
        ⟨env, F, Rl, by
          rw [e1]
          intro v F1 H1 R1 S1 r1
          obtain ⟨F2, R2, S2, rep⟩ := R1.asVal S1 r1 e2
          exact hk v F2 H1 R2 S2 rep⟩
      rw [e1] at h'
      simp only [Res.bind_ok, e2, Res.of_some] at h'
      cases d with
      | lst xs =>
        refine (pi_list ha).run pins s σ H R I (go fun v F1 H1 R1 S1 rep => ?_)
        cases rep with
        | lst hF r l => exact ⟨_, rfl, ⟨_, .inl (.inl (R1.sub _ _ hF))⟩, h' _ F1 H1 R1 S1 (walks_list hF r)⟩
      | tup xs =>
        refine (pi_tup ha).run pins s σ H R I (go fun v F1 H1 R1 S1 rep => ?_)
        cases rep with
        | tup hF r l => exact ⟨_, rfl, ⟨_, sqT_sub R1.sub hF⟩, h' _ F1 H1 R1 S1 (walks_tup hF r)⟩
      | str xs =>
        refine (pi_str ha).run pins s σ H R I (go fun v F1 H1 R1 S1 rep => ?_)
        cases rep with
        | str _ hx => exact ⟨_, rfl, h' _ F1 H1 R1 S1 (walks_str hx)⟩
      | _ => exact h'.elim
theorem pa1 {a : E} {a' : Expr} (ha : PE X a' (tE X.K g a)) (hs : starEach [a'] X.env = [(false, eval a' X.env)]) : PA X [a'] (tCons (tE X.K g a) tNil) :=
  pa_cons ha pa_nil (by rw [hs]; rfl)
theorem i_ran1 {a : E} {a' : Expr} (G : Good X g ck k) (hg : glB ck.sc "range" = true) (ha : PE X a' (tE X.K g a)) (hs : starEach [a'] X.env = [(false, eval a' X.env)]) : PI X tg (.Call (.Name "range" p) [a'] [] pos) (tI X.K g (.ran1 a)) := by
  have hgl : Gl X "range" := by show X.env.scope.names.lookup _ = _; rw [G.sc]; exact glB_ok hg
  refine PI.mono (pi_range1 hgl (G.prog.free _ (by decide)) (pa1 ha hs) hs) fun σ H Q ⟨env, F, R, q⟩ => ?_
  refine tE_bind R .refl (show PostI X.K g σ env F H ((ev g a env).bind fun p => _) Q from q) fun p v F1 H1 R1 S1 S1' r1 h1 => ?_
  split at h1
  · rename_i j e
    obtain rfl := (R1.peek r1 e).of_int
    obtain ⟨⟨c1, c2, c3⟩, h2⟩ := if_inv h1
    exact ⟨j, rfl, by omega, by omega, h2 _ F1 H1 R1 S1' walks_range⟩
  · exact h1.elim
theorem i_ran2 {a b : E} {a' b' : Expr} (G : Good X g ck k) (hg : glB ck.sc "range" = true) (ha : PE X a' (tE X.K g a)) (hb : PE X b' (tE X.K g b)) (hs : starEach [a', b'] X.env = [(false, eval a' X.env), (false, eval b' X.env)]) (hs2 : starEach [b'] X.env = [(false, eval b' X.env)]) :
    PI X tg (.Call (.Name "range" p) [a', b'] [] pos) (tI X.K g (.ran2 a b)) := by
  have hgl : Gl X "range" := by show X.env.scope.names.lookup _ = _; rw [G.sc]; exact glB_ok hg
  refine PI.mono (pi_range2 hgl (G.prog.free _ (by decide)) (pa_cons ha (pa1 hb hs2) (by rw [hs, hs2])) hs hs2) fun σ H Q ⟨env, F, R, q⟩ => ?_
  refine two R (show PostI X.K g σ env F H ((ev g a env).bind fun p => (ev g b p.2).bind fun q => _) Q from q) fun p q v w F2 H2 R2 S2 k1 k2 h2 => ?_
  split at h2
  · rename_i i j e1 e2
    obtain rfl := (k1 _ e1).of_int
    obtain rfl := (k2 _ e2).of_int
    obtain ⟨⟨c1, c2, c3, c4, c5⟩, h3⟩ := if_inv h2
    exact ⟨i, j, rfl, ⟨by omega, by omega, by omega, by omega⟩, h3 _ F2 H2 R2 S2 walks_range⟩
  · exact h2.elim
theorem i_enu {a : E} {a' : Expr} {elts : List Expr} {kk : Nat} (G : Good X g ck k) (hg : glB ck.sc "enumerate" = true) (ha : PE X a' (tE X.K g a)) (hs : starEach [a'] X.env = [(false, eval a' X.env)]) :
    PI X (.Tuple elts kk tpos) (.Call (.Name "enumerate" p) [a'] [] pos) (tI X.K g (.enu a)) := by
  have hgl : Gl X "enumerate" := by show X.env.scope.names.lookup _ = _; rw [G.sc]; exact glB_ok hg
  refine PI.mono (pi_enum hgl (G.prog.free _ (by decide)) (pa1 ha hs) hs) fun σ H Q ⟨env, F, R, q⟩ => ?_
  refine tE_val R .refl (show PostI X.K g σ env F H ((ev g a env).bind fun p => (Res.of (asVal p.1 p.2)).bind fun z => _) Q from q) fun z v F1 H1 R1 S1 rep h1 => ?_
  obtain ⟨d, env2⟩ := z
  cases rep with
  | lst hF r l => exact ⟨_, _, rfl, .inl (.inl (R1.sub _ _ hF)), h1 _ F1 H1 R1 S1 (walks_enum hF r)⟩
  | _ => exact h1.elim
theorem i_zip {a b : E} {a' b' : Expr} {elts : List Expr} {kk : Nat} (G : Good X g ck k) (hg : glB ck.sc "zip" = true) (ha : PE X a' (tE X.K g a)) (hb : PE X b' (tE X.K g b)) (hs : starEach [a', b'] X.env = (false, eval a' X.env) :: starEach [b'] X.env) (hs2 : starEach [b'] X.env = [(false, eval b' X.env)])
    (hpl : (backTo pos (starEach [b'] X.env)).any (·.1) = false) : PI X (.Tuple elts kk tpos) (.Call (.Name "zip" p) [a', b'] [] pos) (tI X.K g (.zip a b false)) := by
  have hgl : Gl X "zip" := by show X.env.scope.names.lookup _ = _; rw [G.sc]; exact glB_ok hg
  refine PI.mono (RZ.pi_zipA hgl (G.prog.free _ (by decide)) (pa_cons ha (pa1 hb hs2) hs) hs hpl) fun σ H Q ⟨env, F, R, q⟩ => ?_
  refine tE_val R .refl (show PostI X.K g σ env F H ((ev g a env).bind fun p => (Res.of (asVal p.1 p.2)).bind fun z => _) Q from q) fun z v F1 H1 R1 S1 rep h1 => ?_
  refine tE_val' R1 S1 (show PostI X.K g σ env F H ((ev g b z.2).bind fun q => (Res.of (asVal q.1 q.2)).bind fun w => _) Q from h1) fun w u F2 H2 R2 S2 fs rep2 h2 => ?_
  obtain ⟨d, env2⟩ := z
  obtain ⟨e, env3⟩ := w
  have rep1 := rep.sub fs
  cases rep1 with
  | lst ha ra la =>
    cases rep2 with
    | lst hb rb lb =>
      have h3 := h2
      simp only [Bool.false_eq_true, false_and, if_false] at h3
      exact ⟨_, _, _, _, rfl, .inl ⟨.inl (.inl (R2.sub _ _ ha)), .inl (.inl (R2.sub _ _ hb)), h3 _ F2 H2 R2 S2 (walks_zip ha hb ra rb)⟩⟩
    | tup hb rb lb =>
      have h3 := h2
      simp only [Bool.false_eq_true, false_and, if_false] at h3
      exact h3.elim
    | _ => exact h2.elim
  | tup ha ra la =>
    cases rep2 with
    | tup hb rb lb =>
      have h3 := h2
      simp only [Bool.false_eq_true, false_and, if_false] at h3
      exact ⟨_, _, _, _, rfl, .inr ⟨sqT_sub R2.sub ha, sqT_sub R2.sub hb, h3 _ F2 H2 R2 S2 (walks_zipT ha hb ra rb)⟩⟩
    | lst hb rb lb =>
      have h3 := h2
      simp only [Bool.false_eq_true, false_and, if_false] at h3
      exact h3.elim
    | _ => exact h2.elim
  | _ => exact h2.elim
open XcZ in
theorem i_zipS {a b : E} {a' b' : Expr} {elts : List Expr} {kk ci : Nat} {kp cp : Pos} (G : Good X g ck k) (hg : glB ck.sc "zip" = true) (ha : PE X a' (tE X.K g a)) (hb : PE X b' (tE X.K g b)) (hs : starEach [a', b'] X.env = (false, eval a' X.env) :: starEach [b'] X.env) (hs2 : starEach [b'] X.env = [(false, eval b' X.env)])
    (hpl : (backTo pos (starEach [b'] X.env)).any (·.1) = false) : PI X (.Tuple elts kk tpos) (.Call (.Name "zip" p) [a', b'] [⟨some "strict", .Constant (.bool true) ci cp, kp⟩] pos) (tI X.K g (.zip a b true)) := by
  have hgl : Gl X "zip" := by show X.env.scope.names.lookup _ = _; rw [G.sc]; exact glB_ok hg
  refine PI.mono (pi_zipS hgl (G.prog.free _ (by decide)) (pa_cons ha (pa1 hb hs2) hs) hs hpl) fun σ H Q ⟨env, F, R, q⟩ => ?_
  refine tE_val R .refl (show PostI X.K g σ env F H ((ev g a env).bind fun p => (Res.of (asVal p.1 p.2)).bind fun z => _) Q from q) fun z v F1 H1 R1 S1 rep h1 => ?_
  refine tE_val' R1 S1 (show PostI X.K g σ env F H ((ev g b z.2).bind fun q => (Res.of (asVal q.1 q.2)).bind fun w => _) Q from h1) fun w u F2 H2 R2 S2 fs rep2 h2 => ?_
  obtain ⟨d, env2⟩ := z
  obtain ⟨e, env3⟩ := w
  have rep1 := rep.sub fs
  have go : ∀ {t1 t2 : Bool} {a b : Addr} {ds es : List D} {vs ws : List V} (ha : if t1 then SqT X.K F2 a vs else F2 a = some (.lst vs)) (hb : if t2 then SqT X.K F2 b ws else F2 b = some (.lst ws)) (ra : RepL X.K g.c F2 ds vs) (rb : RepL X.K g.c F2 es ws) (hl : ds.length = es.length)
      (h3 : PostI X.K g σ env F H (.ok ((ds.zip es).map fun q => .tup [q.1, q.2], env3)) Q), ∃ (t1 t2 : Bool) (a' b' : Addr) (xs ys : List V), [V.ref a, V.ref b] = [.ref a', .ref b'] ∧ SqK t1 X.K H2 a' xs ∧ SqK t2 X.K H2 b' ys ∧ Q (ItzS t1 t2 X.K a' b') H2 :=
    fun ha hb ra rb hl h3 => ⟨_, _, _, _, _, _, rfl, sqK_sub R2.sub ha, sqK_sub R2.sub hb, h3 _ F2 H2 R2 S2 (walks_zipS ha hb ra rb hl)⟩
  cases rep1 with
  | lst ha ra la =>
    cases rep2 with
    | lst hb rb lb =>
      have h3 := h2
      simp only at h3
      split at h3
      · exact h3.elim
      · rename_i n
        exact go (t1 := false) (t2 := false) ha hb ra rb (Decidable.not_not.mp fun z => n ⟨trivial, z⟩) h3
    | tup hb rb lb =>
      have h3 := h2
      simp only at h3
      split at h3
      · rename_i n
        exact go (t1 := false) (t2 := true) ha hb ra rb n.2 h3
      · exact h3.elim
    | _ => exact h2.elim
  | tup ha ra la =>
    cases rep2 with
    | tup hb rb lb =>
      have h3 := h2
      simp only at h3
      split at h3
      · exact h3.elim
      · rename_i n
        exact go (t1 := true) (t2 := true) ha hb ra rb (Decidable.not_not.mp fun z => n ⟨trivial, z⟩) h3
    | lst hb rb lb =>
      have h3 := h2
      simp only at h3
      split at h3
      · rename_i n
        exact go (t1 := true) (t2 := false) ha hb ra rb n.2 h3
      · exact h3.elim
    | _ => exact h2.elim
  | _ => exact h2.elim
theorem Rep.seqK {K : PySem.W.Frag} {c : RC} {F : Hp} {d : D} {v : V} {xs : List D} (r : Rep K c F d v) (e : seqOf d = some xs) : ∃ (t : Bool) (a : Addr) (vs : List V), v = .ref a ∧ (if t then SqT K F a vs else F a = some (.lst vs)) ∧ RepL K c F xs vs := by
  cases r with
  | lst h r l => cases e; exact ⟨false, _, _, rfl, h, r⟩
  | tup h r l => cases e; exact ⟨true, _, _, rfl, h, r⟩
  | _ => cases e
open XcZ in
theorem i_zipF {a b : E} {a' b' : Expr} {elts : List Expr} {kk ci : Nat} {kp cp : Pos} (G : Good X g ck k) (hg : glB ck.sc "zip" = true) (ha : PE X a' (tE X.K g a)) (hb : PE X b' (tE X.K g b)) (hs : starEach [a', b'] X.env = (false, eval a' X.env) :: starEach [b'] X.env) (hs2 : starEach [b'] X.env = [(false, eval b' X.env)])
    (hpl : (backTo pos (starEach [b'] X.env)).any (·.1) = false) : PI X (.Tuple elts kk tpos) (.Call (.Name "zip" p) [a', b'] [⟨some "strict", .Constant (.bool false) ci cp, kp⟩] pos) (tI X.K g (.zipF a b)) := by
  have hgl : Gl X "zip" := by show X.env.scope.names.lookup _ = _; rw [G.sc]; exact glB_ok hg
  refine PI.mono (pi_zipF hgl (G.prog.free _ (by decide)) (pa_cons ha (pa1 hb hs2) hs) hs hpl) fun σ H Q ⟨env, F, R, q⟩ => ?_
  refine tE_val R .refl (show PostI X.K g σ env F H ((ev g a env).bind fun p => (Res.of (asVal p.1 p.2)).bind fun z => _) Q from q) fun z v F1 H1 R1 S1 rep h1 => ?_
  refine tE_val' R1 S1 (show PostI X.K g σ env F H ((ev g b z.2).bind fun q => (Res.of (asVal q.1 q.2)).bind fun w => _) Q from h1) fun w u F2 H2 R2 S2 fs rep2 h2 => ?_
  have rep1 := rep.sub fs
  split at h2
  · rename_i xs ys e1 e2
    obtain ⟨t1, a1, vs, rfl, k1, r1⟩ := rep1.seqK e1
    obtain ⟨t2, a2, ws, rfl, k2, r2⟩ := rep2.seqK e2
    exact ⟨t1, t2, a1, a2, vs, ws, rfl, sqK_sub R2.sub k1, sqK_sub R2.sub k2, h2 _ F2 H2 R2 S2 (walks_zipF k1 k2 r1 r2)⟩
  · exact h2.elim
end
end Ev
namespace Ev
open PySem PySem.Spec PyProof.Rows L2
/-! ### arguments, in the parameters' order -/
structure RelI (K : PySem.W.Frag) (c : RC) (Hs : Hp) (env : Env) (F : Hp) (σ : L2.St) (H : Hp) (rs : List R) (vs : List V) : Prop where
  len : rs.length = vs.length
  get : ∀ (i : Nat) (r : R) (v : V), rs[i]? = some r → vs[i]? = some v → RelR K c Hs env F σ H r v
  dis : ∀ (i j : Nat) (d d' : D) (v v' : V), i ≠ j → rs[i]? = some (R.tmp d) → rs[j]? = some (R.tmp d') → vs[i]? = some v → vs[j]? = some v' → v ≠ v'
section
variable {K : PySem.W.Frag} {c : RC} {H0 Hs : Hp} {bs : List (Nat × Addr)} {env env' envs : Env} {F F' Fs H H' : Hp} {σ : L2.St} {r : R} {v : V}
theorem RelRs.relI {rs : List R} {vs : List V} (h : RelRs K c Hs env F σ H rs vs) : RelI K c Hs env F σ H rs vs := by
  induction h with
  | nil => exact ⟨rfl, fun i r v h => by simp at h, fun i j d d' v v' _ h => by simp at h⟩
  | cons r1 _ n ih =>
    refine ⟨by simp [ih.len], fun i r v h1 h2 => ?_, fun i j d d' v v' hij h1 h2 h3 h4 => ?_⟩
    · cases i with
      | zero => simp at h1 h2; subst h1 h2; exact r1
      | succ i => exact ih.get i r v (by simpa using h1) (by simpa using h2)
    · cases i with
      | zero =>
        cases j with
        | zero => exact absurd rfl hij
        | succ j =>
          simp at h1 h2 h3 h4
          subst h1 h3
          intro e
          subst e
          exact n d j d' rfl h2 h4
      | succ i =>
        cases j with
        | zero =>
          simp at h1 h2 h3 h4
          subst h2 h4
          intro e
          subst e
          exact n d' i d rfl h1 h3
        | succ j => exact ih.dis i j d d' v v' (by omega) (by simpa using h1) (by simpa using h2) (by simpa using h3) (by simpa using h4)
theorem RelI.step {rs : List R} {vs : List V} (S : Stp σ env F H env' F' H') (h : RelI K c Hs env F σ H rs vs) : RelI K c Hs env' F' σ H' rs vs :=
  ⟨h.len, fun i r v h1 h2 => RelR.step S (h.get i r v h1 h2), h.dis⟩
theorem RelI.start {Fa : Hp} {enva : Env} {rs : List R} {vs : List V} (S : Stp σ envs Fs Hs enva Fa H) (h : RelI K c H env F σ H' rs vs) : RelI K c Hs env F σ H' rs vs :=
  ⟨h.len, fun i r v h1 h2 => RelR.start S (h.get i r v h1 h2), h.dis⟩
/-- some, and later ones -/
theorem RelI.append {rs ss : List R} {vs ws : List V} {H1 F1 : Hp} {env1 : Env} (h : RelI K c Hs env1 F1 σ H1 rs vs) (S : Stp σ env1 F1 H1 env F H) (h2 : RelI K c H1 env F σ H ss ws) (S0 : Stp σ envs Fs Hs env1 F1 H1) : RelI K c Hs env F σ H (rs ++ ss) (vs ++ ws) := by
  have a := h.step S
  have b := h2.start S0
  have key : ∀ (i j : Nat) (d d' : D) (v v' : V), rs[i]? = some (R.tmp d) → ss[j]? = some (R.tmp d') → vs[i]? = some v → ws[j]? = some v' → v ≠ v' := by
    intro i j d d' v v' h1 h2' h3 h4 e
    subst e
    have r1 := h.get i _ v h1 h3
    have r2 := h2.get j _ v h2' h4
    obtain ⟨x, o, rfl, g1, _⟩ := r1
    obtain ⟨y, u, ey, _, _, _, g4, _⟩ := r2
    cases ey
    rw [g1] at g4
    cases g4
  refine ⟨by simp [a.len, b.len], fun i r v h1 h2' => ?_, fun i j d d' v v' hij h1 h2' h3 h4 => ?_⟩
  · rcases Nat.lt_or_ge i rs.length with q | q
    · rw [List.getElem?_append_left q] at h1
      rw [List.getElem?_append_left (a.len ▸ q)] at h2'
      exact a.get i r v h1 h2'
    · rw [List.getElem?_append_right q] at h1
      rw [List.getElem?_append_right (a.len ▸ q), ← a.len] at h2'
      exact b.get _ r v h1 h2'
  · rcases Nat.lt_or_ge i rs.length with q | q <;> rcases Nat.lt_or_ge j rs.length with q' | q'
    · rw [List.getElem?_append_left q] at h1
      rw [List.getElem?_append_left q'] at h2'
      rw [List.getElem?_append_left (a.len ▸ q)] at h3
      rw [List.getElem?_append_left (a.len ▸ q')] at h4
      exact a.dis i j d d' v v' hij h1 h2' h3 h4
    · rw [List.getElem?_append_left q] at h1
      rw [List.getElem?_append_right q'] at h2'
      rw [List.getElem?_append_left (a.len ▸ q)] at h3
      rw [List.getElem?_append_right (a.len ▸ q'), ← a.len] at h4
      exact key i _ d d' v v' h1 h2' h3 h4
    · rw [List.getElem?_append_right q] at h1
      rw [List.getElem?_append_left q'] at h2'
      rw [List.getElem?_append_right (a.len ▸ q), ← a.len] at h3
      rw [List.getElem?_append_left (a.len ▸ q')] at h4
      exact (key j _ d' d v' v h2' h1 h4 h3).symm
    · rw [List.getElem?_append_right q] at h1
      rw [List.getElem?_append_right q'] at h2'
      rw [List.getElem?_append_right (a.len ▸ q), ← a.len] at h3
      rw [List.getElem?_append_right (a.len ▸ q'), ← a.len] at h4
      exact b.dis _ _ d d' v v' (by omega) h1 h2' h3 h4
theorem nd_ix {α : Type} : ∀ {p : List α} {i j : Nat} {x : α}, p.Nodup → p[i]? = some x → p[j]? = some x → i = j
  | [], i, _, _, _, h, _ => by simp at h
  | y :: p, 0, 0, _, _, _, _ => rfl
  | y :: p, 0, j + 1, x, n, h1, h2 => by
    simp at h1 h2
    subst h1
    exact absurd (List.mem_of_getElem? h2) (List.nodup_cons.mp n).1
  | y :: p, i + 1, 0, x, n, h1, h2 => by
    simp at h1 h2
    subst h2
    exact absurd (List.mem_of_getElem? h1) (List.nodup_cons.mp n).1
  | y :: p, i + 1, j + 1, x, n, h1, h2 => by
    have := nd_ix (List.nodup_cons.mp n).2 (show p[i]? = some x by simpa using h1) (show p[j]? = some x by simpa using h2)
    omega
/-- values in another order -/
def arrange {α : Type} (p : List Nat) (xs : List α) : List α := match p with
  | [] => xs
  | p => p.filterMap fun j => xs[j]?
theorem mapM_get {α : Type} {xs ys : List α} : ∀ {p : List Nat}, p.mapM (fun j => xs[j]?) = some ys → ys.length = p.length ∧ p.filterMap (fun j => xs[j]?) = ys ∧ ∀ (i : Nat) (y : α), ys[i]? = some y → ∃ j : Nat, p[i]? = some j ∧ xs[j]? = some y
  | [], e => by simp at e; subst e; exact ⟨rfl, rfl, fun i y h => by simp at h⟩
  | j :: p, e => by
    rw [List.mapM_cons] at e
    cases q : xs[j]? with
    | none => rw [q] at e; cases e
    | some x =>
      rw [q] at e
      cases q2 : p.mapM (fun j => xs[j]?) with
      | none => rw [q2] at e; cases e
      | some zs =>
        rw [q2] at e
        cases e
        obtain ⟨h1, h2, h3⟩ := mapM_get q2
        refine ⟨by simp [h1], by simp [List.filterMap_cons, q, h2], fun i y h => ?_⟩
        cases i with
        | zero => simp at h; subst h; exact ⟨j, rfl, q⟩
        | succ i => obtain ⟨j', a, b⟩ := h3 i y (by simpa using h); exact ⟨j', by simpa using a, b⟩
theorem mapM_some {α β : Type} {xs : List α} {ys : List β} (hl : xs.length = ys.length) : ∀ {p : List Nat} {zs : List α}, p.mapM (fun j => xs[j]?) = some zs → ∃ ws, p.mapM (fun j => ys[j]?) = some ws
  | [], _, _ => ⟨[], rfl⟩
  | j :: p, zs, e => by
    rw [List.mapM_cons] at e
    cases q : xs[j]? with
    | none => rw [q] at e; cases e
    | some x =>
      rw [q] at e
      cases q2 : p.mapM (fun j => xs[j]?) with
      | none => rw [q2] at e; cases e
      | some us =>
        obtain ⟨ws, hw⟩ := mapM_some hl q2
        have hj : j < ys.length := hl ▸ (List.getElem?_eq_some_iff.mp q).1
        exact ⟨ys[j] :: ws, by rw [List.mapM_cons, List.getElem?_eq_getElem hj, hw]; rfl⟩
theorem RelI.permute {rs rs' : List R} {vs : List V} {p : List Nat} (h : RelI K c Hs env F σ H rs vs) (hp : p.Nodup) (e : permute rs p = some rs') : RelI K c Hs env F σ H rs' (arrange p vs) := by
  cases p with
  | nil => cases e; exact h
  | cons j p =>
    have e' : (j :: p).mapM (fun j => rs[j]?) = some rs' := e
    obtain ⟨ws, hw⟩ := mapM_some h.len e'
    obtain ⟨a1, a2, a3⟩ := mapM_get e'
    obtain ⟨b1, b2, b3⟩ := mapM_get hw
    have ea : arrange (j :: p) vs = ws := b2
    rw [ea]
    refine ⟨by rw [a1, b1], fun i r v h1 h2 => ?_, fun i i' d d' v v' hii h1 h2 h3 h4 => ?_⟩
    · obtain ⟨x, x1, x2⟩ := a3 i r h1
      obtain ⟨y, y1, y2⟩ := b3 i v h2
      rw [x1] at y1; cases y1
      exact h.get x r v x2 y2
    · obtain ⟨x, x1, x2⟩ := a3 i _ h1
      obtain ⟨y, y1, y2⟩ := b3 i v h3
      obtain ⟨x', x1', x2'⟩ := a3 i' _ h2
      obtain ⟨y', y1', y2'⟩ := b3 i' v' h4
      rw [x1] at y1; cases y1
      rw [x1'] at y1'; cases y1'
      refine h.dis x x' d d' v v' (fun e => hii ?_) x2 x2' y2 y2'
      subst e
      exact nd_ix hp x1 x1'
theorem RelI.head {rs : List R} {vs : List V} (h : RelI K c Hs env F σ H (r :: rs) (v :: vs)) : RelR K c Hs env F σ H r v := h.get 0 r v rfl rfl
theorem RelI.tail {rs : List R} {vs : List V} (h : RelI K c Hs env F σ H (r :: rs) (v :: vs)) : RelI K c Hs env F σ H rs vs :=
  ⟨by simpa using h.len, fun i r' v' h1 h2 => h.get (i + 1) r' v' (by simpa using h1) (by simpa using h2), fun i j d d' w w' hij h1 h2 h3 h4 => h.dis (i + 1) (j + 1) d d' w w' (by omega) (by simpa using h1) (by simpa using h2) (by simpa using h3) (by simpa using h4)⟩
/-- how far the slots may change when arguments are handed on -/
def Leaks (env env' : Env) : Prop := (∀ j, env'.at j = env.at j ∨ ∃ x, env.at j = .own x ∧ env'.at j = .val x) ∧ env'.length = env.length
theorem Leaks.refl (env : Env) : Leaks env env := ⟨fun _ => .inl rfl, rfl⟩
theorem Leaks.trans {e1 e2 e3 : Env} (a : Leaks e1 e2) (b : Leaks e2 e3) : Leaks e1 e3 := by
  refine ⟨fun j => ?_, b.2.trans a.2⟩
  rcases b.1 j with h | ⟨x, h1, h2⟩
  · rcases a.1 j with g | ⟨x, g1, g2⟩
    · exact .inl (h.trans g)
    · exact .inr ⟨x, g1, h.trans g2⟩
  · rcases a.1 j with g | ⟨y, g1, g2⟩
    · exact .inr ⟨x, g ▸ h1, h2⟩
    · rw [g2] at h1; cases h1
theorem asVal_leaks {d : D} (R : Rel K c H0 bs env F σ H) (e : asVal r env = some (d, env')) : Leaks env env' := by
  cases r with
  | val d => cases e; exact .refl _
  | tmp d => cases e; exact .refl _
  | var i =>
    have e' : (match env.at i with | .val d => some (d, env) | .own d => some (d, env.set i (.val d)) | _ => none) = some (d, env') := e
    cases q : env.at i with
    | no => rw [q] at e'; cases e'
    | byr x => rw [q] at e'; cases e'
    | val x => rw [q] at e'; cases e'; exact .refl _
    | own x =>
      rw [q] at e'; cases e'
      have hi : i < env.length := Env.at_lt (by rw [q]; intro z; cases z)
      refine ⟨fun j => ?_, by simp⟩
      rw [Env.at_set hi]
      by_cases z : i = j
      · subst z; rw [if_pos rfl]; exact .inr ⟨_, q, rfl⟩
      · rw [if_neg z]; exact .inl rfl
theorem passVals_ok {m : Option Nat} : ∀ {rs : List R} {vs : List V} {k : Nat} {ods : List (Option D)} {env env' : Env} {F : Hp}, Rel K c H0 bs env F σ H → Stp σ envs Fs Hs env F H → RelI K c Hs env F σ H rs vs → passVals m k rs env = some (ods, env') →
    ∃ F', Rel K c H0 bs env' F' σ H ∧ Stp σ envs Fs Hs env' F' H ∧ Sub F F' ∧ Leaks env env' ∧ ods.length = rs.length ∧
      (∀ (i : Nat) (d : D) (v : V), ods[i]? = some (some d) → vs[i]? = some v → Rep K c F' d v) ∧ (∀ i : Nat, i < rs.length → (ods[i]? = some none ↔ m = some (k + i))) ∧
      (∀ (i : Nat) (r : R) (v : V), m = some (k + i) → rs[i]? = some r → vs[i]? = some v → RelR K c Hs env' F' σ H r v) ∧
      (∀ (r' : R) (v' : V), RelR K c Hs env F σ H r' v' → (∀ (d' : D) (j : Nat) (d : D) (w : V), r' = .tmp d' → rs[j]? = some (R.tmp d) → vs[j]? = some w → w ≠ v') → RelR K c Hs env' F' σ H r' v')
  | [], vs, k, ods, env, env', F, R, S, h, e => by
    cases e
    exact ⟨F, R, S, Sub.refl _, .refl _, rfl, fun i d v h => by simp at h, fun i h => by simp at h, fun i r v _ h => by simp at h, fun _ _ q _ => q⟩
  | r :: rs, [], _, _, _, _, _, _, _, h, _ => by have := h.len; simp at this
  | r :: rs, v :: vs, k, ods, env, env', F, R, S, h, e => by
    by_cases hm : m = some k
    · have e' : (passVals m (k + 1) rs env).map (fun p => (none :: p.1, p.2)) = some (ods, env') := by
        simpa [passVals, hm] using e
      cases q : passVals m (k + 1) rs env with
      | none => rw [q] at e'; cases e'
      | some p =>
        obtain ⟨os, env2⟩ := p
        rw [q] at e'
        cases e'
        obtain ⟨F', R', S', s', lk, hl, h1, h2, h3, h4⟩ := passVals_ok R S h.tail q
        refine ⟨F', R', S', s', lk, by simp [hl], fun i d w g1 g2 => ?_, fun i hi => ?_, fun i r' v' g1 g2 g3 => ?_, fun r' v' g1 g2 => h4 r' v' g1 fun d' j d w a b c' => g2 d' (j + 1) d w a (by simpa using b) (by simpa using c')⟩
        · cases i with
          | zero => simp at g1
          | succ i => exact h1 i d w (by simpa using g1) (by simpa using g2)
        · cases i with
          | zero => simp [hm]
          | succ i =>
            have := h2 i (by simpa using hi)
            rw [show k + (i + 1) = k + 1 + i by omega]
            simpa using this
        · cases i with
          | zero =>
            simp at g2 g3
            subst g2 g3
            exact h4 r v h.head fun d' j d w a b c' => by
              subst a
              exact fun z => h.dis 0 (j + 1) d' d v w (by omega) rfl (by simpa using b) rfl (by simpa using c') z.symm
          | succ i => rw [hm] at g1; cases g1
    · have e' : ((asVal r env).bind fun q => (passVals m (k + 1) rs q.2).map fun p => (some q.1 :: p.1, p.2)) = some (ods, env') := by
        simpa [passVals, hm] using e
      cases qa : asVal r env with
      | none => rw [qa] at e'; cases e'
      | some p =>
        obtain ⟨d, env1⟩ := p
        rw [qa] at e'
        simp only [Option.bind_some] at e'
        cases q : passVals m (k + 1) rs env1 with
        | none => rw [q] at e'; cases e'
        | some p =>
          obtain ⟨os, env2⟩ := p
          rw [q] at e'
          cases e'
          obtain ⟨F1, R1, S1, rep, s1, oth, _, _⟩ := R.asVal' S h.head qa
          have ht : RelI K c Hs env1 F1 σ H rs vs := ⟨h.tail.len, fun i r' v' g1 g2 => oth r' v' (h.tail.get i r' v' g1 g2) fun x y a b => by
            subst a b
            exact h.dis 0 (i + 1) x y v v' (by omega) rfl (by simpa using g1) rfl (by simpa using g2), h.tail.dis⟩
          obtain ⟨F', R', S', s', lk, hl, h1, h2, h3, h4⟩ := passVals_ok R1 S1 ht q
          refine ⟨F', R', S', s1.trans s', (asVal_leaks R qa).trans lk, by simp [hl], fun i x w g1 g2 => ?_, fun i hi => ?_, fun i r' v' g1 g2 g3 => ?_, fun r' v' g1 g2 => h4 r' v' (oth r' v' g1 fun x y a b => ?_) fun d' j d w a b c' => g2 d' (j + 1) d w a (by simpa using b) (by simpa using c')⟩
          · cases i with
            | zero => simp at g1 g2; subst g1 g2; exact rep.sub s'
            | succ i => exact h1 i x w (by simpa using g1) (by simpa using g2)
          · cases i with
            | zero => simp; exact hm
            | succ i =>
              have := h2 i (by simpa using hi)
              rw [show k + (i + 1) = k + 1 + i by omega]
              simpa using this
          · cases i with
            | zero => exact absurd (by simpa using g1) hm
            | succ i => exact h3 i r' v' (by rw [g1]; congr 1; omega) (by simpa using g2) (by simpa using g3)
          · subst a b
            exact g2 y 0 x v rfl rfl rfl
end
end Ev
namespace Ev
open PySem PySem.Spec PyProof.Rows L2
/-! ### how a call binds -/
theorem kw_loop {ps : List Str} {f : (Str × Value) → (List (Str × Value) × List (Str × Value)) → Sem (ForInStep (List (Str × Value) × List (Str × Value)))}
    (hf : ∀ x s, ps.contains x.1 = true → (List.lookup x.1 s.1).isSome = false → f x s = pure (.yield (s.1 ++ [(x.1, x.2)], s.2))) :
    ∀ (kw : List (Str × Value)) (s : List (Str × Value) × List (Str × Value)), (∀ x ∈ kw, ps.contains x.1 = true) → (kw.map (·.1)).Nodup → (∀ x ∈ kw, List.lookup x.1 s.1 = none) → forIn kw s f = pure (s.1 ++ kw, s.2)
  | [], s, _, _, _ => by simp
  | x :: kw, s, h1, h2, h3 => by
    rw [List.forIn_cons, hf x s (h1 x (List.mem_cons_self ..)) (by rw [h3 x (List.mem_cons_self ..)]; rfl), pure_bind]
    simp only [List.map_cons, List.nodup_cons] at h2
    have := kw_loop hf kw (s.1 ++ [(x.1, x.2)], s.2) (fun y hy => h1 y (List.mem_cons_of_mem _ hy)) h2.2 fun y hy => by
      rw [List.lookup_append, h3 y (List.mem_cons_of_mem _ hy)]
      have ne : y.1 ≠ x.1 := fun e => h2.1 (by rw [← e]; exact List.mem_map_of_mem hy)
      simp [List.lookup_cons, beq_eq_false_iff_ne.mpr ne]
    refine Eq.trans this ?_
    rw [List.append_assoc]
    rfl
theorem lookup_zip_none {ps : List Str} {us : List Value} {x : Str} (h : x ∉ ps.take us.length) : List.lookup x (ps.zip us) = none := by
  rw [List.lookup_eq_none_iff]
  intro p hp
  have : p.1 ∈ ps.take us.length := by
    rw [List.zip_eq_zip_take_min] at hp
    have h1 := (List.of_mem_zip hp).1
    rw [Nat.min_comm] at h1
    exact List.mem_of_mem_take (i := ps.length) (by rw [List.take_take, Nat.min_comm]; exact h1)
  have ne : x ≠ p.1 := fun e => h (by rw [e]; exact this)
  simpa using ne
theorem bind_plain {fd : FuncData} {ps ks : List Str} {us ws xs : List Value} (P : Plain fd ps) (hn : us.length ≤ ps.length) (hk : ks.Nodup) (hin : ∀ k ∈ ks, k ∈ ps ∧ k ∉ ps.take us.length) (hl : ks.length = ws.length)
    (hx : xs.length = ps.length) (hv : ∀ (i : Nat) (x : Str) (v : Value), ps[i]? = some x → xs[i]? = some v → List.lookup x (ps.zip us ++ ks.zip ws) = some v) : bindArgs fd ⟨us, ks.zip ws⟩ = pure (ps.zip xs) := by
  obtain ⟨h1, h2, h3, h4, h5, h6, h7⟩ := P
  have all : ∀ x ∈ ps, (List.lookup x (ps.zip us ++ ks.zip ws)).isNone = false := fun x hx' => by
    obtain ⟨i, hi, e⟩ := List.mem_iff_getElem.mp hx'
    rw [hv i x (xs[i]'(by omega)) (by rw [List.getElem?_eq_getElem hi, e]) (List.getElem?_eq_getElem _)]; rfl
  unfold bindArgs
  simp only [h1, h2, h3, h4, h5, h6, List.map_nil, List.nil_append, List.append_nil, Option.isNone_none, Bool.and_true, Option.isSome_none, List.contains_nil, Bool.or_false]
  rw [kw_loop (ps := ps) (fun x s a b => by rw [if_pos a, if_neg (by rw [b]; simp)]) (ks.zip ws) (ps.zip us, []) ?_ ?_ ?_]
  · rw [pure_bind]
    show (seqItems? Value.none >>= _) = _
    rw [show seqItems? Value.none = pure none from rfl, pure_bind]
    simp only [Option.getD_none, List.length_nil, Nat.zero_sub, List.drop_nil, Nat.sub_zero, List.take_length, List.drop_length, List.zip_nil_left]
    rw [if_neg (by simp; omega)]
    have hf : List.filter (fun n => (List.lookup n (ps.zip us ++ ks.zip ws)).isNone) ps = [] := List.filter_eq_nil_iff.mpr fun x hx => by rw [all x hx]; simp
    rw [hf]
    simp only [List.isEmpty_nil, Bool.not_true, Bool.false_eq_true, if_false, List.forIn_nil, pure_bind]
    congr 1
    apply List.ext_getElem?
    intro i
    have e : ∀ (qs : List Str) (ys : List Value), ys.length = qs.length → (∀ (i : Nat) (x : Str) (v : Value), qs[i]? = some x → ys[i]? = some v → List.lookup x (ps.zip us ++ ks.zip ws) = some v) →
        List.filterMap (fun n => Option.map (fun x => (n, x)) (List.lookup n (ps.zip us ++ ks.zip ws))) qs = qs.zip ys := by
      intro qs
      induction qs with
      | nil => intro ys _ _; rfl
      | cons q qs ih =>
        intro ys hy hv'
        cases ys with
        | nil => simp at hy
        | cons y ys =>
          rw [List.filterMap_cons, hv' 0 q y rfl rfl]
          simp only [Option.map_some, List.zip_cons_cons, List.cons.injEq, true_and]
          exact ih ys (by simpa using hy) fun i x v a b => hv' (i + 1) x v (by simpa using a) (by simpa using b)
    rw [e ps xs hx hv]
  · intro x hx'
    have := (hin x.1 (List.of_mem_zip hx').1).1
    simpa using this
  · rw [List.map_fst_zip (by omega)]; exact hk
  · intro x hx'
    exact lookup_zip_none (hin x.1 (List.of_mem_zip hx').1).2
end Ev
namespace Ev
open PySem PySem.Spec PyProof.Rows L2
/-- n written arguments, keywords named ks, parameters ps: p tells where each parameter's value stands -/
def kwB (n : Nat) (ks ps : List Str) (p : List Nat) : Bool :=
  match ks with
  | [] => p.isEmpty && decide (n = ps.length)
  | _ => decide (p.length = ps.length) && decide (n ≤ ps.length) && decide ks.Nodup && decide p.Nodup && (List.range ps.length).all (fun i => match p[i]? with
    | some j => if i < n then decide (j = i) else decide (n ≤ j) && decide (ks[j - n]? = ps[i]?)
    | none => false) && ks.all fun x => decide (x ∈ ps) && decide (x ∉ ps.take n)
theorem lookup_zip {ps : List Str} {us : List Value} {i : Nat} {x : Str} {v : Value} : ∀ (_ : ps.Nodup) (_ : ps[i]? = some x) (_ : us[i]? = some v), List.lookup x (ps.zip us) = some v := by
  induction ps generalizing us i with
  | nil => intro _ h; simp at h
  | cons p ps ih =>
    intro nd h1 h2
    cases us with
    | nil => simp at h2
    | cons u us =>
      cases i with
      | zero => simp at h1 h2; subst h1 h2; simp
      | succ i =>
        have h1' : ps[i]? = some x := by simpa using h1
        have ne : x ≠ p := fun e => (List.nodup_cons.mp nd).1 (e ▸ List.mem_of_getElem? h1')
        rw [List.zip_cons_cons, List.lookup_cons, beq_eq_false_iff_ne.mpr ne]
        exact ih (List.nodup_cons.mp nd).2 h1' (by simpa using h2)
theorem arrange_len {α : Type} {n m : Nat} {ks ps : List Str} {p : List Nat} (h : kwB n ks ps p = true) {us ws : List α} (hu : us.length = n) (hw : ws.length = ks.length) : (arrange p (us ++ ws)).length = ps.length ∧ ∀ i, i < ps.length → ∃ j, (arrange p (us ++ ws))[i]? = (us ++ ws)[j]? ∧ (ks = [] ∧ j = i ∨ ks ≠ [] ∧ p[i]? = some j) := by
  cases ks with
  | nil =>
    simp only [kwB, Bool.and_eq_true, List.isEmpty_iff, decide_eq_true_eq] at h
    obtain ⟨rfl, e⟩ := h
    have hw' : ws = [] := List.eq_nil_of_length_eq_zero hw
    subst hw'
    exact ⟨by simp [arrange, hu, e], fun i hi => ⟨i, by simp [arrange], .inl ⟨rfl, rfl⟩⟩⟩
  | cons k ks =>
    simp only [kwB, Bool.and_eq_true, decide_eq_true_eq] at h
    obtain ⟨⟨⟨⟨⟨h1, h2⟩, h3⟩, h4⟩, h5⟩, h6⟩ := h
    have inb : ∀ j ∈ p, j < (us ++ ws).length := by
      intro j hj
      obtain ⟨i, hi, e⟩ := List.mem_iff_getElem.mp hj
      have := List.all_eq_true.mp h5 i (List.mem_range.mpr (h1 ▸ hi))
      rw [List.getElem?_eq_getElem hi, e] at this
      simp only at this
      rw [List.length_append, hu, hw]
      by_cases z : i < n
      · rw [if_pos z] at this
        have := of_decide_eq_true this
        omega
      · rw [if_neg z] at this
        simp only [Bool.and_eq_true, decide_eq_true_eq] at this
        obtain ⟨a, b⟩ := this
        have hb : (k :: ks)[j - n]? ≠ none := by
          rw [b, List.getElem?_eq_getElem (h1 ▸ hi)]; intro z; cases z
        rcases Nat.lt_or_ge (j - n) (k :: ks).length with q | q
        · omega
        · exact absurd (List.getElem?_eq_none q) hb
    have key : ∀ (q : List Nat), (∀ j ∈ q, j < (us ++ ws).length) → (q.filterMap fun j => (us ++ ws)[j]?).length = q.length ∧ ∀ i, i < q.length → ∃ j, (q.filterMap fun j => (us ++ ws)[j]?)[i]? = (us ++ ws)[j]? ∧ q[i]? = some j := by
      intro q
      induction q with
      | nil => intro _; exact ⟨rfl, fun i hi => absurd hi (Nat.not_lt_zero _)⟩
      | cons a q ih =>
        intro hq
        obtain ⟨l, g⟩ := ih fun j hj => hq j (List.mem_cons_of_mem _ hj)
        have ea : (us ++ ws)[a]? = some ((us ++ ws)[a]'(hq a (List.mem_cons_self ..))) := List.getElem?_eq_getElem _
        rw [List.filterMap_cons, ea]
        refine ⟨by simp [l], fun i hi => ?_⟩
        cases i with
        | zero => exact ⟨a, by rw [ea]; rfl, rfl⟩
        | succ i =>
          obtain ⟨j, e1, e2⟩ := g i (by simpa using hi)
          exact ⟨j, by simpa using e1, by simpa using e2⟩
    cases p with
    | nil =>
      have : ps = [] := List.eq_nil_of_length_eq_zero h1.symm
      subst this
      have := List.all_eq_true.mp h6 k (List.mem_cons_self ..)
      simp at this
    | cons a q =>
      obtain ⟨l, g⟩ := key (a :: q) inb
      refine ⟨by rw [← h1]; exact l, fun i hi => ?_⟩
      obtain ⟨j, e1, e2⟩ := g i (by rw [h1]; exact hi)
      exact ⟨j, e1, .inr ⟨by simp, e2⟩⟩
theorem binds_ok {fd : FuncData} {ps ks : List Str} {p : List Nat} {s : Shared} {us ws : List Value} (P : Plain fd ps) (h : kwB us.length ks ps p = true) (hl : ws.length = ks.length) : BindsTo s fd ⟨us, ks.zip ws⟩ (ps.zip (arrange p (us ++ ws))) := by
  obtain ⟨al, ag⟩ := arrange_len (m := 0) h rfl hl
  refine BindsTo.of_eq ?_
  cases ks with
  | nil =>
    have hw' : ws = [] := List.eq_nil_of_length_eq_zero hl
    subst hw'
    simp only [kwB, Bool.and_eq_true, List.isEmpty_iff, decide_eq_true_eq] at h
    obtain ⟨rfl, e⟩ := h
    refine bind_plain (ks := []) (ws := []) P (by omega) (by simp) (by simp) rfl al fun i x v h1 h2 => ?_
    simp only [arrange, List.append_nil] at h2
    rw [List.lookup_append, lookup_zip P.nd h1 h2]; rfl
  | cons k ks =>
    have h0 := h
    simp only [kwB, Bool.and_eq_true, decide_eq_true_eq] at h
    obtain ⟨⟨⟨⟨⟨h1, h2⟩, h3⟩, h4⟩, h5⟩, h6⟩ := h
    refine bind_plain P h2 h3 (fun x hx => ?_) hl.symm al fun i x v g1 g2 => ?_
    · have := List.all_eq_true.mp h6 x hx
      simpa using this
    · have hi : i < ps.length := (List.getElem?_eq_some_iff.mp g1).1
      obtain ⟨j, e1, e2⟩ := ag i hi
      rcases e2 with ⟨z, _⟩ | ⟨_, e2⟩
      · cases z
      · have c := List.all_eq_true.mp h5 i (List.mem_range.mpr hi)
        rw [e2] at c
        simp only at c
        rw [g2] at e1
        by_cases z : i < us.length
        · rw [if_pos z] at c
          obtain rfl := of_decide_eq_true c
          rw [List.getElem?_append_left z] at e1
          rw [List.lookup_append, lookup_zip P.nd g1 e1.symm]; rfl
        · rw [if_neg z] at c
          simp only [Bool.and_eq_true, decide_eq_true_eq] at c
          obtain ⟨c1, c2⟩ := c
          rw [List.getElem?_append_right c1] at e1
          have nx : x ∉ ps.take us.length := by
            intro hx
            obtain ⟨i', hi', e'⟩ := List.mem_iff_getElem.mp hx
            rw [List.length_take] at hi'
            have : ps[i']? = some x := by
              rw [List.getElem_take] at e'
              rw [List.getElem?_eq_getElem (by omega), e']
            have := nd_ix P.nd this g1
            omega
          rw [List.lookup_append, lookup_zip_none nx, Option.none_or]
          exact lookup_zip h3 (c2.trans g1) e1.symm
/-! ### the call of a def -/
def tCallG (n m : Nat) (p : List Nat) (sp : Sp) (E : L2.St → XK) (ta tk : TA) : TE := fun σ H Q => ta σ H fun vs H1 => tk σ H1 fun zs H2 => vs.length = n ∧ zs.length = m ∧ sp (arrange p (vs ++ zs)) H2 Q (E σ)
section
variable {X : Cx} {CX : CXT} {k : Nat} {f : Addr} {fd : FuncData} {ps : List Str} {sp : Sp} {E : L2.St → XK} {x : Str} {p pos : Pos} {es : List Expr} {kws : List Keyword} {ta tk : TA} {pm : List Nat}
theorem vals_arrange {pm : List Nat} : ∀ {vs : List V} {us : List Value}, Vals vs us → Vals (arrange pm vs) (arrange pm us) := by
  intro vs us r
  cases pm with
  | nil => exact r
  | cons a q =>
    have key : ∀ (q : List Nat), Vals (q.filterMap fun j => vs[j]?) (q.filterMap fun j => us[j]?) := by
      intro q
      induction q with
      | nil => exact .nil
      | cons a q ih =>
        rw [List.filterMap_cons, List.filterMap_cons]
        cases e : vs[a]? with
        | none => rw [r.none_of e]; exact ih
        | some v =>
          obtain ⟨u, e2, rv⟩ := r.get e
          rw [e2]
          exact .cons rv ih
    exact key (a :: q)
theorem run_fnG {pins : List (Addr × Obj)} {σ : L2.St} {H : Hp} {s : Shared} {Q : VK} {us ws : List Value} {vs zs : List V} {ks : List Str} (F : FnG X.prog X.w X.K X.mg X.base CX k f fd ps sp) (hgd : X.A.guards = some []) (hr : Room k X.A) (P : Plain fd ps) (hx : PassesAt CX X σ (E σ))
    (I : Inv X pins σ H s) (r : Vals vs us) (rz : Vals zs ws) (hb : kwB us.length ks ps pm = true) (hl : ws.length = ks.length) (h : sp (arrange pm (vs ++ zs)) H Q (E σ)) : wpAny (model X.prog X.w) X.A (call (.ref f) us (ks.zip ws)) (EP X pins σ Q) X.xe s := by
  refine wpAny_call (codeAny_mono (F.run X.A X.stack s H ⟨us, ks.zip ws⟩ (arrange pm (us ++ ws)) (arrange pm (vs ++ zs)) Q (E σ) hgd hr I.env0 (binds_ok P hb hl) (vals_arrange (r.append rz)) h) fun r s' hq => ?_)
  cases r with
  | error e => exact hx pins H s e s' I hq
  | ok fl =>
    cases fl with
    | ret u => exact I.after hq
    | next => exact False.elim hq
    | brk => exact False.elim hq
    | cont => exact False.elim hq
theorem pe_callG (F : FnG X.prog X.w X.K X.mg X.base CX k f fd ps sp) (hgd : X.A.guards = some []) (hr : Room k X.A) (hg : Gl X x) (hm : X.mg x = some (.ref f)) (hk : PySem.W.keepIn X.K (.ref f) = true) (P : Plain fd ps) (hx : ∀ σ, PassesAt CX X σ (E σ)) (ks : List Str) (hb : kwB es.length ks ps pm = true)
    (ha : PA X es ta) (h0 : es = [] → ∀ σ H Q, ta σ H Q → Q [] H) (hkw : PK X kws tk) (hall : (backToKw pos (keywordEach kws X.env)).all (·.1.isSome) = true) (hks : (backToKw pos (keywordEach kws X.env)).filterMap (·.1) = ks) (hdb : (x == ("__debug__" : Str)) = false)
    (he : ∀ e r, es = e :: r → starEach es X.env = (false, eval e X.env) :: starEach r X.env) (hpl : ((backTo pos (starEach es X.env)).any (·.1) || (backToKw pos (keywordEach kws X.env)).any (·.1.isNone)) = false) :
    PE X (.Call (.Name x p) es kws pos) (tCallG es.length ks.length pm sp E ta tk) := by
  refine ⟨fun pins s σ H Q I h => ?_⟩
  refine wpAny_Call_Name_kw (ld_glob I hg hm ?_ hdb)
  cases es with
  | nil =>
    have q1 := h0 rfl σ H _ h
    refine PySem.W.callWith_KW0 (h₀ := X.base) I.ok.mod.kin hk hall (thn (hkw.run pos pins s σ H _ I q1) fun ws s2 ⟨zs, H2, I2, rz, l1, l2, q2⟩ => ⟨I2.kIn, ?_⟩) hpl
    rw [hks]
    exact run_fnG (ks := ks) F hgd hr P (hx σ) I2 .nil rz hb (by rw [← rz.length]; exact l2) q2
  | cons e r =>
    refine PySem.W.callWith_KW (h₀ := X.base) I.ok.mod.kin hk hall (thn (ha.run pos pins s σ H _ I h) fun us s1 ⟨vs, H1, I1, r1, q1⟩ => ?_) hpl (he e r rfl)
    refine thn (hkw.run pos pins s1 σ H1 _ I1 q1) fun ws s2 ⟨zs, H2, I2, rz, l1, l2, q2⟩ => ⟨I2.kIn, ?_⟩
    rw [hks]
    exact run_fnG (ks := ks) F hgd hr P (hx σ) I2 r1 rz (by rw [List.nil_append, ← r1.length, l1]; exact hb) (by rw [← rz.length]; exact l2) q2
end
end Ev
namespace Ev
open PySem PySem.Spec PyProof.Rows L2
section
variable {K : PySem.W.Frag} {c : RC} {H0 Hs : Hp} {bs : List (Nat × Addr)} {env env' envs : Env} {F F' Fs H H' : Hp} {σ : L2.St} {r : R} {v : V}
theorem atom_flat {d : D} (h : (d.flat && (match d with | .lst _ => false | _ => true)) = true) : d.atom = true := by
  cases d <;> simp [D.flat] at h ⊢ <;> exact h
theorem RepO.flat {d : D} {o : HO} (h : RepO K c F d o) (f : d.flat = true) : RepO K c F' d o := by
  rcases h.two with ⟨ds, vs, rfl, rfl, r, l⟩ | ⟨_, _, _, rfl, _⟩
  case inr => simp [D.flat, D.atom] at f
  exact ⟨r.atoms (by simpa [D.flat] using f), l⟩
/-- the slots behind a call: kept but for the changed one -/
theorem Rel.after (R : Rel K c H0 bs env F σ H) (fs : Sub F F') (s : Sub F' H') (ma : Option Addr) (kp : ∀ a o, H a = some o → ma ≠ some a → H' a = some o) (th : ∀ a o, H a = some o → ∃ u, H' a = some u)
    (gr : ∀ a o, F' a = some o → F a = some o ∨ H a = none) (slot : Option Nat) (out : Option D)
    (h1 : ∀ i, slot = some i → ∃ a d o, (env.at i).mine = true ∧ σ[i]? = some (some (.ref a)) ∧ ma = some a ∧ out = some d ∧ H' a = some o ∧ RepO K c F' d o ∧ F' a = none)
    (h2 : slot = none → ∀ a, ma = some a → ¬ Owned env σ a ∧ H0 a = none) (hb : back env slot out = some env') : Rel K c H0 bs env' F' σ H' := by
  have nF : ∀ a, F a = none → (∃ o, H a = some o) → F' a = none := fun a h1 ⟨o, h2⟩ => by
    cases e : F' a with
    | none => rfl
    | some u =>
      rcases gr a u e with z | z
      · rw [h1] at z; cases z
      · rw [h2] at z; cases z
  have ma0 : ∀ a, ma = some a → (∃ o, H0 a = some o) → ∃ i, (i, a) ∈ bs := by
    intro a e ⟨o, h0⟩
    cases slot with
    | none => have := (h2 rfl a e).2; rw [h0] at this; cases this
    | some i =>
      obtain ⟨b, d, u, g1, g2, g3, _⟩ := h1 i rfl
      rw [e] at g3; cases g3
      cases q : env.at i with
      | no => rw [q] at g1; cases g1
      | val x => rw [q] at g1; cases g1
      | own x =>
        obtain ⟨b', _, k1, _, _, _, k5⟩ := R.own i x q
        rw [g2] at k1; cases k1
        rw [h0] at k5; cases k5
      | byr x =>
        obtain ⟨b', _, k1, _, _, _, k5⟩ := R.byr i x q
        rw [g2] at k1; cases k1
        exact ⟨i, k5⟩
  have other : ∀ j a, (env.at j).mine = true → σ[j]? = some (some (.ref a)) → slot ≠ some j → ma ≠ some a := by
    intro j a hm hs hne e
    cases slot with
    | none => exact (h2 rfl a e).1 ⟨j, hm, hs⟩
    | some i =>
      obtain ⟨b, d, u, g1, g2, g3, _⟩ := h1 i rfl
      rw [e] at g3; cases g3
      exact hne (by rw [R.dist i j a g1 hm g2 hs])
  have hat : ∀ j, env'.at j = if slot = some j then out.elim (env.at j) (env.at j).put else env.at j := by
    intro j
    cases slot with
    | none => cases hb; simp
    | some i =>
      cases out with
      | none => cases hb
      | some d =>
        cases hb
        obtain ⟨b, _, _, g1, _⟩ := h1 i rfl
        have hi : i < env.length := Env.at_lt (by intro z; rw [z] at g1; cases g1)
        rw [Env.at_set hi]
        by_cases z : i = j
        · subst z; simp
        · simp [z]
  have hlen : env'.length = env.length := by
    cases slot with
    | none => cases hb; rfl
    | some i =>
      cases out with
      | none => cases hb
      | some d => cases hb; simp
  have mineEq : ∀ j, (env'.at j).mine = (env.at j).mine := by
    intro j
    rw [hat]
    by_cases z : slot = some j
    · rw [if_pos z]
      cases out with
      | none => rfl
      | some d => cases env.at j <;> rfl
    · rw [if_neg z]
  refine ⟨s, hlen.trans R.len, fun i d q => ?_, fun i d q => ?_, fun i d q => ?_, fun i j a g1 g2 => R.dist i j a (mineEq i ▸ g1) (mineEq j ▸ g2), fun a o g1 g2 => ?_, fun a o g => ?_⟩
  · rw [hat] at q
    by_cases z : slot = some i
    · rw [if_pos z] at q
      obtain ⟨b, x, u, g1, _, _, e, _⟩ := h1 i z
      subst e
      cases w : env.at i <;> rw [w] at q g1 <;> first | (simp [Sl.mine] at g1; done) | (simp [Sl.put] at q; done)
    · rw [if_neg z] at q
      obtain ⟨v, g1, g2⟩ := R.val i d q
      exact ⟨v, g1, g2.sub fs⟩
  · rw [hat] at q
    by_cases z : slot = some i
    · rw [if_pos z] at q
      obtain ⟨a, x, u, g1, g2, g3, e, g4, g5, g6⟩ := h1 i z
      subst e
      cases w : env.at i with
      | own y =>
        rw [w] at q
        cases q
        obtain ⟨b, _, k1, _, _, _, k5⟩ := R.own i y w
        rw [g2] at k1; cases k1
        exact ⟨a, u, g2, g4, g5, g6, k5⟩
      | _ => rw [w] at q; cases q
    · rw [if_neg z] at q
      obtain ⟨a, o, k1, k2, k3, k4, k5⟩ := R.own i d q
      exact ⟨a, o, k1, kp a o k2 (other i a (by rw [q]; rfl) k1 z), k3.sub fs, nF a k4 ⟨o, k2⟩, k5⟩
  · rw [hat] at q
    by_cases z : slot = some i
    · rw [if_pos z] at q
      obtain ⟨a, x, u, g1, g2, g3, e, g4, g5, g6⟩ := h1 i z
      subst e
      cases w : env.at i with
      | byr y =>
        rw [w] at q
        cases q
        obtain ⟨b, _, k1, _, _, _, k5⟩ := R.byr i y w
        rw [g2] at k1; cases k1
        exact ⟨a, u, g2, g4, g5, g6, k5⟩
      | _ => rw [w] at q; cases q
    · rw [if_neg z] at q
      obtain ⟨a, o, k1, k2, k3, k4, k5⟩ := R.byr i d q
      exact ⟨a, o, k1, kp a o k2 (other i a (by rw [q]; rfl) k1 z), k3.sub fs, nF a k4 ⟨o, k2⟩, k5⟩
  · refine kp a o (R.ext a o g1 g2) fun e => ?_
    obtain ⟨i, hi⟩ := ma0 a e ⟨o, g1⟩
    exact g2 i hi
  · obtain ⟨u, e⟩ := R.th a o g
    exact th a u e
end
theorem back_mine {env env' : Env} {slot : Option Nat} {out : Option D} (h : back env slot out = some env') (j : Nat) : (env'.at j).mine = (env.at j).mine := by
  cases slot with
  | none => cases h; rfl
  | some i =>
    cases out with
    | none => cases h
    | some d =>
      cases h
      rw [Env.at_set']
      split
      · rename_i z
        obtain ⟨rfl, _⟩ := z
        cases env.at i <;> rfl
      · rfl
section
variable {X : Cx} {g : Gh} {ck : Ck} {k : Nat} {pos p : Pos}
theorem fillIn_len (d : D) : ∀ ods : List (Option D), (fillIn d ods).length = ods.length
  | [] => rfl
  | none :: r => by simp [fillIn, fillIn_len d r]
  | some x :: r => by simp [fillIn, fillIn_len d r]
theorem fillIn_get (d : D) : ∀ (ods : List (Option D)) (i : Nat) (x : D), (fillIn d ods)[i]? = some x → ods[i]? = some (some x) ∨ (ods[i]? = some none ∧ x = d)
  | [], i, x, h => by simp [fillIn] at h
  | none :: r, 0, x, h => by simp [fillIn] at h; subst h; exact .inr ⟨rfl, rfl⟩
  | none :: r, i + 1, x, h => by simpa using fillIn_get d r i x (by simpa [fillIn] using h)
  | some y :: r, 0, x, h => by simp [fillIn] at h; subst h; exact .inl rfl
  | some y :: r, i + 1, x, h => by simpa using fillIn_get d r i x (by simpa [fillIn] using h)
theorem filterMap_all : ∀ (ods : List (Option D)), (∀ i, i < ods.length → ods[i]? ≠ some none) → (ods.filterMap id).length = ods.length ∧ ∀ (i : Nat) (x : D), (ods.filterMap id)[i]? = some x → ods[i]? = some (some x)
  | [], _ => ⟨rfl, fun i x h => by simp at h⟩
  | none :: r, h => absurd rfl (h 0 (by simp))
  | some y :: r, h => by
    obtain ⟨a, b⟩ := filterMap_all r fun i hi => by have := h (i + 1) (by simpa using hi); simpa using this
    refine ⟨by simp [a], fun i x e => ?_⟩
    cases i with
    | zero => simp at e; subst e; rfl
    | succ i => have := b i x (by simpa using e); simpa using this
/-- what the call of a def is worth -/
theorem call_sp {f : Nat} {fd : Fn} {σ : L2.St} {env envs : Env} {F Fs H Hs : Hp} {rs : List R} {vs : List V} {Q : VK} (hf : g.T.fn f = some fd) (R : RelG X.K g env F σ H) (S : Stp σ envs Fs Hs env F H) (I : RelI X.K g.c Hs env F σ H rs vs) (hl : rs.length = fd.np) (th0 : ∀ a o, g.H0 a = some o → ∃ u, Hs a = some u)
    (h : Post X.K g σ envs Fs Hs (callWith g.T.chg g.call f rs env) Q) : spF X.K g.c g.call fd.np f fd.chg vs H Q (WE g.W σ) := by
  have hc : g.T.chg f = some fd.chg := by unfold Tab.chg; rw [hf]; rfl
  unfold callWith at h
  rw [hc] at h
  simp only at h
  cases e1 : passVals fd.chg 0 rs env with
  | none => rw [e1] at h; exact h.elim
  | some q =>
    obtain ⟨ods, env2⟩ := q
    rw [e1] at h
    simp only at h
    obtain ⟨F2, R2, S2, fs2, lk, ol, od1, od2, od3, _⟩ := passVals_ok R S I e1
    have hvl : vs.length = fd.np := by rw [← I.len]; exact hl
    cases hm : fd.chg with
    | none =>
      rw [hm] at h e1
      simp only at h
      obtain ⟨fl, fg⟩ := filterMap_all ods fun i hi z => by
        have := (od2 i (ol ▸ hi)).mp z
        rw [hm] at this; cases this
      refine ⟨F2, ods.filterMap id, R2.sub, by rw [fl, ol, hl], hvl, fun i d v g1 g2 => ?_, ?_⟩
      · have := od1 i d v (fg i d g1) g2
        unfold ArgOk
        rw [if_neg (by simp)]
        exact this
      · cases e3 : g.call f (ods.filterMap id) with
        | bad => rw [e3] at h; exact h.elim
        | exc kx dx =>
          rw [e3] at h
          intro d w F' H' s1 s2 kp gr h0 hk hx rep
          exact h d w F' H' (S2.fsub.trans s1) s2 (fun a o ea na => kp a o (S2.keep a o ea na) fun _ z => nomatch z) (fun a o e => by
            rcases gr a o e with z | z | ⟨_, z, _⟩
            · exact S2.grow a o z
            · exact .inr (.inl (S2.back z))
            · cases z) (S2.back h0) hk hx rep
        | ok p =>
          rw [e3] at h
          simp only [Res.bind_ok] at h
          intro v F' H' s1 s2 kp th gr _ hr
          have kp' : ∀ a o, H a = some o → (none : Option Addr) ≠ some a → H' a = some o := fun a o e _ => kp a o e fun _ z => nomatch z
          by_cases fl : flatR p.1 = true
          · rw [if_pos fl] at h
            have R' : RelG X.K g env F σ H' := R.after (Sub.refl _) (fun a o e => kp a o (R.sub a o e) fun _ z => nomatch z) none kp' th (fun a o e => .inl e) none none (fun _ z => nomatch z) (fun _ _ z => nomatch z) rfl
            have S' : Stp σ envs Fs Hs env F H' := ⟨S.fsub, fun a o ea na => kp a o (S.keep a o ea na) fun _ z => (nomatch z), S.grow, S.owns, fun a o ea => let ⟨u, eu⟩ := S.th a o ea; th a u eu⟩
            refine h v F H' R' S' ?_
            cases er : p.1 with
            | val d => rw [er] at fl hr; exact Rep.atom hr (atom_flat fl)
            | tmp d =>
              rw [er] at fl hr
              obtain ⟨a, o, rfl, k1, k2, k3, k4⟩ := hr
              refine ⟨a, o, rfl, k1, k2.flat fl, ?_, S.back k4, fun z => ?_⟩
              · cases eF : F a with
                | none => rfl
                | some u => rw [R.sub a u eF] at k4; cases k4
              · obtain ⟨u, eu⟩ := R.owned_some z
                rw [k4] at eu; cases eu
            | var i => rw [er] at hr; exact hr.elim
          · rw [if_neg fl] at h
            have R' : RelG X.K g env2 F' σ H' := R2.after s1 s2 none kp' th gr none none (fun _ z => nomatch z) (fun _ _ z => nomatch z) rfl
            have S' : Stp σ envs Fs Hs env2 F' H' := ⟨S2.fsub.trans s1, fun a o ea na => kp a o (S2.keep a o ea na) fun _ z => (nomatch z), fun a o ea => by
              rcases gr a o ea with z | z
              · exact S2.grow a o z
              · exact .inr (.inl (S2.back z)), S2.owns, fun a o ea => let ⟨u, eu⟩ := S2.th a o ea; th a u eu⟩
            refine h v F' H' R' S' ?_
            cases er : p.1 with
            | val d => rw [er] at hr; exact hr
            | tmp d =>
              rw [er] at hr
              obtain ⟨a, o, rfl, k1, k2, k3, k4⟩ := hr
              refine ⟨a, o, rfl, k1, k2, k3, S2.back k4, fun z => ?_⟩
              obtain ⟨u, eu⟩ := R2.owned_some z
              rw [k4] at eu; cases eu
            | var i => rw [er] at hr; exact hr.elim
    | some m =>
      rw [hm] at h e1
      simp only at h
      cases e2 : rs[m]? with
      | none => rw [e2] at h; exact h.elim
      | some rm =>
        rw [e2] at h
        simp only [Option.bind_some] at h
        have mlt : m < rs.length := (List.getElem?_eq_some_iff.mp e2).1
        obtain ⟨vm, evm⟩ : ∃ vm, vs[m]? = some vm := ⟨vs[m]'(I.len ▸ mlt), List.getElem?_eq_getElem _⟩
        have rrm := od3 m rm vm (by rw [hm, Nat.zero_add]) e2 evm
        cases e4 : passMut rm env2 with
        | none => rw [e4] at h; exact h.elim
        | some q =>
          obtain ⟨d, slot⟩ := q
          rw [e4] at h
          simp only at h
          -- where the changed list stands
          obtain ⟨am, om, evm', hom, rom, fom, hslot⟩ : ∃ a o, vm = .ref a ∧ H a = some o ∧ RepO X.K g.c F2 d o ∧ F2 a = none ∧ ((slot = none ∧ ¬ Owned env2 σ a ∧ ¬ Owned env σ a ∧ Hs a = none) ∨ ∃ i, slot = some i ∧ (env2.at i).mine = true ∧ (env.at i).mine = true ∧ σ[i]? = some (some (.ref a))) := by
            cases rm with
            | val x => cases e4
            | tmp x =>
              cases e4
              obtain ⟨a, o, rfl, k1, k2, k3, k4, k5⟩ := rrm
              obtain ⟨a', o', ea, j1, j2, j3, j4, j5⟩ := I.get m _ _ e2 evm
              cases ea
              exact ⟨a, o, rfl, k1, k2, k3, .inl ⟨rfl, k5, j5, k4⟩⟩
            | var i =>
              have hs : σ[i]? = some (some vm) := rrm
              have e4' : (match env2.at i with | .own d => some (d, some i) | .byr d => some (d, some i) | _ => none) = some (d, slot) := e4
              have back1 : (env2.at i).mine = true → (env.at i).mine = true := fun z => by
                rcases lk.1 i with y | ⟨x, y1, y2⟩
                · rw [← y]; exact z
                · rw [y1]; rfl
              cases q : env2.at i with
              | no => rw [q] at e4'; cases e4'
              | val x => rw [q] at e4'; cases e4'
              | own x =>
                rw [q] at e4'; cases e4'
                obtain ⟨a, o, k1, k2, k3, k4, _⟩ := R2.own i _ q
                rw [hs] at k1; cases k1
                exact ⟨a, o, rfl, k2, k3, k4, .inr ⟨i, rfl, by rw [q]; rfl, back1 (by rw [q]; rfl), hs⟩⟩
              | byr x =>
                rw [q] at e4'; cases e4'
                obtain ⟨a, o, k1, k2, k3, k4, _⟩ := R2.byr i _ q
                rw [hs] at k1; cases k1
                exact ⟨a, o, rfl, k2, k3, k4, .inr ⟨i, rfl, by rw [q]; rfl, back1 (by rw [q]; rfl), hs⟩⟩
          subst evm'
          refine ⟨F2, fillIn d ods, R2.sub, by rw [fillIn_len, ol, hl], hvl, fun i x v g1 g2 => ?_, ?_⟩
          · unfold ArgOk
            by_cases z : m = i
            · subst z
              rw [if_pos (by simp)]
              rw [evm] at g2
              cases g2
              rcases fillIn_get d ods m x g1 with w | ⟨w, rfl⟩
              · have := (od2 m mlt).mpr (by rw [hm, Nat.zero_add])
                rw [this] at w
                cases w
              · exact ⟨am, om, rfl, hom, rom, fom⟩
            · rw [if_neg (by simp [z])]
              rcases fillIn_get d ods i x g1 with w | ⟨w, rfl⟩
              · exact od1 i x v w g2
              · have hi : i < rs.length := by rw [← ol]; exact (List.getElem?_eq_some_iff.mp w).1
                have := (od2 i hi).mp w
                rw [hm, Nat.zero_add] at this
                exact absurd (Option.some.inj this) z
          · have vk : ∀ a, (∀ kk, some m = some kk → vs[kk]? ≠ some (.ref a)) ↔ am ≠ a := fun a => ⟨fun z e => by
              subst e
              exact z m rfl evm, fun z kk e w => by
              obtain rfl := Option.some.inj e
              rw [evm] at w
              cases w
              exact z rfl⟩
            cases e3 : g.call f (fillIn d ods) with
            | bad => rw [e3] at h; exact h.elim
            | exc kx dx =>
              rw [e3] at h
              intro d' w F' H' s1 s2 kp gr h0 hk hx rep
              refine h d' w F' H' (S2.fsub.trans s1) s2 (fun a o ea na => kp a o (S2.keep a o ea na) ((vk a).mpr fun e => ?_)) (fun a o e => ?_) (S2.back h0) hk hx rep
              rotate_left
              · rcases gr a o e with z | z | ⟨kk, z, w⟩
                · exact S2.grow a o z
                · exact .inr (.inl (S2.back z))
                · cases z
                  rw [evm] at w
                  cases w
                  rcases hslot with ⟨_, _, _, z⟩ | ⟨i, _, z1, _, z2⟩
                  · exact .inr (.inl z)
                  · exact .inr (.inr ⟨i, S2.owns i z1, z2⟩)
              subst e
              rcases hslot with ⟨_, _, _, z⟩ | ⟨i, _, z1, _, z2⟩
              · rw [ea] at z; cases z
              · exact na ⟨i, S2.owns i z1, z2⟩
            | ok p =>
              rw [e3] at h
              simp only [Res.bind_ok] at h
              intro v F' H' s1 s2 kp th gr ho hr
              obtain ⟨dm, o', eo, ho1, ho2, ho3⟩ := ho m am rfl evm
              have kp' : ∀ a o, H a = some o → some am ≠ some a → H' a = some o := fun a o e n => kp a o e ((vk a).mpr fun z => n (by rw [z]))
              have keepS : ∀ {E : Env} {Fx : Hp}, Stp σ envs Fs Hs E Fx H → (∀ a, Owned E σ a → Owned envs σ a) → ((slot = none ∧ Hs am = none) ∨ Owned E σ am) → ∀ a o, Hs a = some o → ¬ Owned envs σ a → H' a = some o := fun {E Fx} SS ow hh a o ea na => by
                refine kp a o (SS.keep a o ea na) ((vk a).mpr fun e => ?_)
                subst e
                rcases hh with ⟨_, z⟩ | z
                · rw [ea] at z; cases z
                · exact na (ow _ z)
              by_cases fl : (flatR p.1 && flatO p.2) = true
              · rw [if_pos fl] at h
                rw [Bool.and_eq_true] at fl
                cases eb : back env slot p.2 with
                | none => rw [eb] at h; exact h.elim
                | some env3 =>
                  rw [eb] at h
                  have fm : dm.flat = true := by have := fl.2; rw [eo] at this; exact this
                  have sF : Sub F H' := fun a o e => by
                    refine kp' a o (R.sub a o e) fun z => ?_
                    cases z
                    have := fs2 _ _ e
                    rw [fom] at this; cases this
                  have nFm : F am = none := by
                    cases eF : F am with
                    | none => rfl
                    | some u => rw [fs2 _ _ eF] at fom; cases fom
                  have R' : RelG X.K g env3 F σ H' := R.after (Sub.refl _) sF (some am) kp' th (fun a o e => .inl e) slot p.2 (fun i ei => by
                    rcases hslot with ⟨z, _⟩ | ⟨j, z, _, z2, z3⟩
                    · rw [z] at ei; cases ei
                    · rw [z] at ei; cases ei
                      exact ⟨am, dm, o', z2, z3, rfl, eo, ho1, ho2.flat fm, nFm⟩) (fun en a ea => by
                    cases ea
                    rcases hslot with ⟨_, _, z2, z3⟩ | ⟨j, z, _⟩
                    · refine ⟨z2, ?_⟩
                      cases q0 : g.H0 am with
                      | none => rfl
                      | some u =>
                        exfalso
                        obtain ⟨u', e'⟩ := th0 am u q0
                        rw [z3] at e'; cases e'
                    · rw [z] at en; cases en) eb
                  have me := back_mine eb
                  have ow : ∀ a, Owned env3 σ a → Owned env σ a := fun a ⟨i, z1, z2⟩ => ⟨i, me i ▸ z1, z2⟩
                  have S' : Stp σ envs Fs Hs env3 F H' := ⟨S.fsub, keepS S (fun a z => S.owned z) (by
                    rcases hslot with ⟨z, _, _, z3⟩ | ⟨i, _, _, z1, z2⟩
                    · exact .inl ⟨z, z3⟩
                    · exact .inr ⟨i, z1, z2⟩), S.grow, fun i z => S.owns i (me i ▸ z), fun a o ea => let ⟨u, eu⟩ := S.th a o ea; th a u eu⟩
                  refine h v F H' R' S' ?_
                  cases er : p.1 with
                  | val d =>
                    have fl1 := fl.1
                    rw [er] at fl1 hr
                    exact Rep.atom hr (atom_flat fl1)
                  | tmp d =>
                    have fl1 := fl.1
                    rw [er] at fl1 hr
                    obtain ⟨a, o, rfl, k1, k2, k3, k4⟩ := hr
                    refine ⟨a, o, rfl, k1, k2.flat fl1, ?_, S.back k4, fun z => ?_⟩
                    · cases eF : F a with
                      | none => rfl
                      | some u => rw [R.sub a u eF] at k4; cases k4
                    · obtain ⟨u, eu⟩ := R.owned_some (ow _ z)
                      rw [k4] at eu; cases eu
                  | var i => rw [er] at hr; exact hr.elim
              · rw [if_neg fl] at h
                cases eb : back env2 slot p.2 with
                | none => rw [eb] at h; exact h.elim
                | some env3 =>
                  rw [eb] at h
                  have R' : RelG X.K g env3 F' σ H' := R2.after s1 s2 (some am) kp' th gr slot p.2 (fun i ei => by
                    rcases hslot with ⟨z, _⟩ | ⟨j, z, z1, z2, z3⟩
                    · rw [z] at ei; cases ei
                    · rw [z] at ei; cases ei
                      exact ⟨am, dm, o', z1, z3, rfl, eo, ho1, ho2, ho3⟩) (fun en a ea => by
                    cases ea
                    rcases hslot with ⟨_, z1, z2, z3⟩ | ⟨j, z, _⟩
                    · refine ⟨z1, ?_⟩
                      cases q0 : g.H0 am with
                      | none => rfl
                      | some u =>
                        exfalso
                        obtain ⟨u', e'⟩ := th0 am u q0
                        rw [z3] at e'; cases e'
                    · rw [z] at en; cases en) eb
                  have me := back_mine eb
                  have ow : ∀ a, Owned env3 σ a → Owned env2 σ a := fun a ⟨i, z1, z2⟩ => ⟨i, me i ▸ z1, z2⟩
                  have S' : Stp σ envs Fs Hs env3 F' H' := ⟨S2.fsub.trans s1, keepS S2 (fun a z => S2.owned z) (by
                    rcases hslot with ⟨z, _, _, z3⟩ | ⟨i, _, z1, _, z2⟩
                    · exact .inl ⟨z, z3⟩
                    · exact .inr ⟨i, z1, z2⟩), fun a o ea => by
                    rcases gr a o ea with z | z
                    · exact S2.grow a o z
                    · exact .inr (.inl (S2.back z)), fun i z => S2.owns i (me i ▸ z), fun a o ea => let ⟨u, eu⟩ := S2.th a o ea; th a u eu⟩
                  refine h v F' H' R' S' ?_
                  cases er : p.1 with
                  | val d => rw [er] at hr; exact hr
                  | tmp d =>
                    rw [er] at hr
                    obtain ⟨a, o, rfl, k1, k2, k3, k4⟩ := hr
                    refine ⟨a, o, rfl, k1, k2, k3, S2.back k4, fun z => ?_⟩
                    obtain ⟨u, eu⟩ := R2.owned_some (ow _ z)
                    rw [k4] at eu; cases eu
                  | var i => rw [er] at hr; exact hr.elim
end
end Ev
namespace Ev
open PySem PySem.Spec PyProof.Rows L2
section
variable {X : Cx} {g : Gh} {ck : Ck} {k : Nat} {pos p : Pos}
/-! ### a op b op' c -/
theorem tT_tE {e : E} {σ : L2.St} {H : Hp} {Q : Bool → Hp → Prop} (h : tT X.K g e σ H Q) : tE X.K g e σ H fun x H' => ∃ k, x = .bl k ∧ Q k H' := by
  obtain ⟨env, F, R, h⟩ := h
  refine tE_bind R .refl h fun p v F1 H1 R1 S1 S1' r1 h1 => ?_
  split at h1
  · rename_i d e
    obtain ⟨b, eb, h3⟩ := of_inv h1
    cases d <;> simp [tru] at eb
    subst eb
    obtain rfl := (R1.peek r1 e).of_bl
    exact ⟨_, rfl, h3 _ F1 H1 R1 S1' rfl⟩
  · exact h1.elim
theorem chain_main {o o' : COp} {a b c : E} (σ : L2.St) (H : Hp) (Q : VK) (h : tE X.K g (.cmp2 o o' a b c) σ H Q) : tChain (rCop X.K g.c (cop o)) (rCop X.K g.c (cop o')) (tE X.K g a) (tE X.K g b) (tE X.K g c) σ H Q := by
  obtain ⟨env, F, R, h⟩ := h
  refine tE_bind R .refl h fun p v F1 H1 R1 S1 S1' r1 h1 => ?_
  refine tE_bind R1 S1' h1 fun q w F2 H2 R2 S2 S2' r2 h2 => ?_
  have r1' := RelR.step S2 r1
  split at h2
  · rename_i x y e1 e2
    obtain ⟨r, er, h3⟩ := of_inv h2
    refine ⟨F2, x, y, r, R2.sub, R2.peek r1' e1, R2.peek r2 e2, er, r, rfl, ?_⟩
    cases r with
    | false => exact h3 _ F2 H2 R2 S2' (.bl false)
    | true =>
      rw [if_pos rfl]
      refine tE_bind R2 S2' h3 fun s z F3 H3 R3 S3 S3' r3 h4 => ?_
      have r2' := RelR.step S3 r2
      split at h4
      · rename_i y' z' e3 e4
        obtain ⟨r', er', h5⟩ := of_inv h4
        exact ⟨F3, _, _, r', R3.sub, R3.peek r2' e3, R3.peek r3 e4, er', h5 _ F3 H3 R3 S3' (.bl r')⟩
      · exact h4.elim
  · exact h2.elim
theorem r_cmp2 {o o' : COp} {a b c : E} {a' b' c' : Expr} (hu : X.A.units + 65 < cLine) (ha : PE X a' (tE X.K g a)) (hb : PE X b' (tE X.K g b)) (hc : PE X c' (tE X.K g c)) (hm : behindInMarks (copOf o') c' = false) :
    PE X (.Compare a' [copOf o, copOf o'] [b', c'] pos) (tE X.K g (.cmp2 o o' a b c)) :=
  PE.mono (pe_chain (cop_ok (c := g.c) hu o) (cop_ok (c := g.c) hu o') ha hb hc hm) chain_main
theorem r_cmp2T {o o' : COp} {a b c : E} {a' b' c' : Expr} (hu : X.A.units + 65 < cLine) (ha : PE X a' (tE X.K g a)) (hb : PE X b' (tE X.K g b)) (hc : PE X c' (tE X.K g c)) (hm : behindInMarks (copOf o') c' = false) :
    PT X (.Compare a' [copOf o, copOf o'] [b', c'] pos) (tT X.K g (.cmp2 o o' a b c)) :=
  PT.mono (pt_chain (cop_ok (c := g.c) hu o) (cop_ok (c := g.c) hu o') ha hb hc hm) fun σ H Q h => chain_main σ H _ (tT_tE h)
/-! ### the call -/
def noStar : Es → Bool
  | .nil => true
  | .cons s _ r => !s && noStar r
def Es.len : Es → Nat
  | .nil => 0
  | .cons _ _ r => r.len + 1
theorem evalRs_len {T : Nat → Option (Option Nat)} {G : Nat → Option D} {call : Call} : ∀ {es : Es} {e : Env} {p : List R × Env}, evalRs T G call es e = .ok p → p.1.length = es.len
  | .nil, e, p, h => by cases h; rfl
  | .cons s a r, e, p, h => by
    unfold evalRs at h
    split at h
    · cases h
    · cases q : evalE T G call a e with
      | ok z =>
        rw [q] at h
        simp only [Res.bind_ok] at h
        cases q2 : evalRs T G call r z.2 with
        | ok w =>
          rw [q2] at h
          simp only [Res.bind_ok] at h
          cases h
          simp [Es.len, evalRs_len q2]
        | exc _ _ => rw [q2] at h; cases h
        | bad => rw [q2] at h; cases h
      | exc _ _ => rw [q] at h; cases h
      | bad => rw [q] at h; cases h
theorem permute_len {rs rs' : List R} {p : List Nat} (h : permute rs p = some rs') : rs'.length = if p.isEmpty then rs.length else p.length := by
  cases p with
  | nil => cases h; rfl
  | cons j p => exact (mapM_get (show (j :: p).mapM (fun j => rs[j]?) = some rs' from h)).1
theorem kwB_nd {n : Nat} {ks ps : List Str} {pm : List Nat} (h : kwB n ks ps pm = true) : pm.Nodup ∧ (if pm.isEmpty then n + ks.length else pm.length) = ps.length := by
  have al := (arrange_len (m := 0) (α := Nat) h (us := List.replicate n 0) (ws := List.replicate ks.length 0) (by simp) (by simp)).1
  cases ks with
  | nil =>
    simp only [kwB, Bool.and_eq_true, List.isEmpty_iff, decide_eq_true_eq] at h
    obtain ⟨rfl, e⟩ := h
    exact ⟨.nil, by simp [e]⟩
  | cons k ks =>
    have h0 := h
    simp only [kwB, Bool.and_eq_true, decide_eq_true_eq] at h
    obtain ⟨⟨⟨⟨⟨h1, h2⟩, h3⟩, h4⟩, h5⟩, h6⟩ := h
    refine ⟨h4, ?_⟩
    cases pm with
    | nil => simpa [arrange] using al
    | cons a b => simpa using h1
theorem r_call {f : Nat} {es kw : Es} {pm : List Nat} {x : Str} {es' : List Expr} {kws : List Keyword} {ks : List Str} {fd : Fn} (G : Good X g ck k) (hf : g.T.fn f = some fd) (hx : g.T.fname f = x) (hg : glB ck.sc x = true) (hn : okName x = true)
    (he : PA X es' (tRs X.K g es)) (hkw : PK X kws (tRs X.K g kw)) (hl : es'.length = es.len) (hkl : ks.length = kw.len) (hb : kwB es'.length ks (g.T.ps f) pm = true)
    (hall : (backToKw pos (keywordEach kws X.env)).all (·.1.isSome) = true) (hks : (backToKw pos (keywordEach kws X.env)).filterMap (·.1) = ks)
    (hs : ∀ e r, es' = e :: r → starEach es' X.env = (false, eval e X.env) :: starEach r X.env) (hpl : ((backTo pos (starEach es' X.env)).any (·.1) || (backToKw pos (keywordEach kws X.env)).any (·.1.isNone)) = false) :
    PE X (.Call (.Name x p) es' kws pos) (tE X.K g (.call f es kw pm)) := by
  obtain ⟨hm, hk, hps, fdt, P, FO⟩ := G.prog.fns f fd hf
  subst hx
  obtain ⟨nd, pl⟩ := kwB_nd hb
  refine PE.mono (pe_callG FO G.gd G.room (by show X.env.scope.names.lookup _ = _; rw [G.sc]; exact glB_ok hg) hm hk P G.pass ks hb he (fun e σ H Q h => ?_) hkw hall hks (okName_ok hn).1 hs hpl) fun σ H Q ⟨env, F, R, h⟩ => ?_
  · subst e
    cases es with
    | nil =>
      obtain ⟨env, F, R, h⟩ := h
      exact h [] F H R .refl .nil
    | cons s a r => simp [Es.len] at hl
  · have h' : Post X.K g σ env F H ((evalRs g.T.chg g.T.gval g.call es env).bind fun p => (evalRs g.T.chg g.T.gval g.call kw p.2).bind fun q => (Res.of (permute (p.1 ++ q.1) pm)).bind fun rs => callWith g.T.chg g.call f rs q.2) Q := h
    refine ⟨env, F, R, bindOf .refl h' fun q vs F1 H1 e1 R1 S1 S1' r1 h1 => ⟨q.2, F1, R1, bindOf S1' h1 fun q2 zs F2 H2 e2 R2 S2 S2' r2 h2 => ?_⟩⟩
    obtain ⟨rs, e3, h3⟩ := of_inv h2
    have I1 := r1.relI
    have I2 := (I1.append S2 r2.relI S1').permute nd e3
    have l1 := evalRs_len e1
    have l2 := evalRs_len e2
    have lv : vs.length = es'.length := by rw [← r1.length, l1, hl]
    have lz : zs.length = ks.length := by rw [← r2.length, l2, hkl]
    refine ⟨lv, lz, call_sp hf R2 S2' I2 ?_ (fun a o e => R.th a o e) h3⟩
    rw [permute_len e3, List.length_append, l1, l2, ← hl, ← hkl, pl, hps]
/-! ### isinstance -/
def tyName : Ty → String
  | .int => "int"
  | .bool => "bool"
  | .str => "str"
  | .list => "list"
  | .tuple => "tuple"
def tyStr : Ty → Str
  | .int => "int"
  | .bool => "bool"
  | .str => "str"
  | .list => "list"
  | .tuple => "tuple"
theorem isi_k {K : PySem.W.Frag} {c : RC} {F H : Hp} {d : D} {v : V} {t : Ty} {b : Bool} (s : Sub F H) (h : RepP K c F H d v) (e : isT t d = some b) : ∃ n, TyX K H v (.type n) ∧ kitB n (tyName t) = some b := by
  rcases h with h | ⟨a, o, rfl, h1, h2⟩
  · cases h with
    | non => exact ⟨_, .base .non, by cases t <;> cases e <;> decide +kernel⟩
    | bl x => exact ⟨_, .base (.bl x), by cases t <;> cases e <;> decide +kernel⟩
    | int i => exact ⟨_, .base (.int i), by cases t <;> cases e <;> decide +kernel⟩
    | str x hx => exact ⟨_, .base (.str _), by cases t <;> cases e <;> decide +kernel⟩
    | tup hs hl hz =>
      refine ⟨"tuple", ?_, by cases t <;> cases e <;> decide +kernel⟩
      rcases sqT_sub s hs with z | ⟨o, its, n, hk, hc, _⟩
      · rcases z with z | ⟨o, z⟩
        · exact .base (.tup z)
        · exact .fTuple z
      · exact .kTuple hk hc
    | lst hs hl hz => exact ⟨"list", .base (.lst (s _ _ hs)), by cases t <;> cases e <;> decide +kernel⟩
    | fn f => cases t <;> cases e
    | exc _ _ _ _ => cases t <;> cases e
    | ctup _ _ _ _ _ => cases t <;> cases e
    | dct hs _ _ _ _ => exact ⟨"dict", .base (.dK (s _ _ hs)), by cases t <;> cases e <;> decide +kernel⟩
    | emp hs => exact ⟨"dict", .base (.dK (s _ _ hs)), by cases t <;> cases e <;> decide +kernel⟩
    | scr hs hl =>
      refine ⟨"list", ?_, by cases t <;> cases e <;> decide +kernel⟩
      rcases hs with z | ⟨o, its, n, hk, hc, _⟩
      · rcases z with z | ⟨o, z⟩
        · exact .base (.lst (s _ _ z))
        · exact .base (.frz (s _ _ z))
      · exact .kList hk hc
  · rcases h2.two with ⟨ds, vs, rfl, rfl, _⟩ | ⟨_, _, _, rfl, rfl, _⟩
    case inr => exact ⟨"dict", .base (.dK h1), by cases t <;> cases e <;> decide +kernel⟩
    exact ⟨"list", .base (.lst h1), by cases t <;> cases e <;> decide +kernel⟩
theorem boot_ty (t : Ty) : bootBuiltins (tyStr t) = some (.type (tyName t)) := by cases t <;> decide +kernel
theorem r_isi {t : Ty} {e : E} {e' : Expr} {p2 : Pos} (G : Good X g ck k) (hg : glB ck.sc "isinstance" = true) (hg2 : glB ck.sc (tyStr t) = true) (he : PE X e' (tE X.K g e)) (hs : ∀ es, starEach (e' :: es) X.env = (false, eval e' X.env) :: starEach es X.env) :
    PE X (.Call (.Name "isinstance" p) [e', .Name (tyStr t) p2] [] pos) (tE X.K g (.isi t e)) := by
  have hgl : Gl X "isinstance" := by show X.env.scope.names.lookup _ = _; rw [G.sc]; exact glB_ok hg
  have hgt : Gl X (tyStr t) := by show X.env.scope.names.lookup _ = _; rw [G.sc]; exact glB_ok hg2
  have ht : PE X (.Name (tyStr t) p2) (tC (.ty (tyName t))) := pe_bltn hgt (G.prog.free _ (by cases t <;> decide)) (boot_ty t) rfl (by cases t <;> decide) (by cases t <;> decide)
  refine PE.mono (pe_callB call_isi hgl (G.prog.free _ (by decide)) (by decide +kernel) (pa_cons he (pa_cons ht pa_nil) (hs _)) (by decide) (by decide) (hs _) rfl) fun σ H Q ⟨env, F, R, h⟩ => ?_
  have h' : Post X.K g σ env F H ((ev g e env).bind fun p => match peek p.1 p.2 with
    | some x => (Res.of (isT t x)).bind fun b => .ok (.val (.bl b), p.2)
    | none => .bad) Q := h
  refine tE_bind R .refl h' fun p v F1 H1 R1 S1 S1' r1 h1 => ?_
  split at h1
  · rename_i x ex
    obtain ⟨b, eb, h3⟩ := of_inv h1
    obtain ⟨n, k1, k2⟩ := isi_k R1.sub (R1.peek r1 ex) eb
    exact ⟨v, .ty (tyName t), .type n, .type (tyName t), b, rfl, .ty _, k1, kit_ty k2, h3 _ F1 H1 R1 S1' (.bl b)⟩
  · exact h1.elim
/-! ### errors that are held -/
theorem call_err : CallR X (.builtin "isinstance") (fun xs H Q => Xc.rIsX X.K xs H Q ∨ rIsi X.K xs H Q) := by
  intro pins s σ H xs us Q I r h
  rcases h with h | h
  · exact Xc.call_isX pins s σ H xs us Q I r h
  · exact call_isi pins s σ H xs us Q I r h
theorem exc_of {K : PySem.W.Frag} {c : RC} {F H : Hp} {n : Nat} {d : D} {v : V} (h : RepP K c F H (.exc n d) v) : ∃ a dx u, v = .ref a ∧ n < c.nc ∧ F a = some (ExV (c.ca n) a dx) ∧ F dx = some (.xd [("value", u)]) ∧ Rep K c F d u := by
  rcases h with h | ⟨a, o, rfl, h1, h2⟩
  · cases h with
    | exc hk k1 k2 k3 => exact ⟨_, _, _, rfl, hk, k1, k2, k3⟩
  · rcases h2.two with ⟨_, _, z, _⟩ | ⟨_, _, _, z, _⟩ <;> cases z
def xName (f : Nat → Option Str) : Option Nat → Option Str
  | none => some "ValueError"
  | some n => f n
theorem r_isx {c : Option Nat} {e : E} {e' : Expr} {x : Str} {p2 : Pos} (G : Good X g ck k) (h0 : g.T.cname 0 ≠ none) (hx : xName g.T.cname c = some x) (hg : glB ck.sc "isinstance" = true) (hg2 : glB ck.sc x = true) (hok : okName x = true) (he : PE X e' (tE X.K g e)) (hs : ∀ es, starEach (e' :: es) X.env = (false, eval e' X.env) :: starEach es X.env) :
    PE X (.Call (.Name "isinstance" p) [e', .Name x p2] [] pos) (tE X.K g (.isx c e)) := by
  have h0' : 0 < g.c.nc := (G.prog.nc 0).mp (by cases q : g.T.cname 0 with
    | none => exact absurd q h0
    | some y => exact ⟨y, rfl⟩)
  have E := G.prog.err h0'
  have hgl : Gl X "isinstance" := by show X.env.scope.names.lookup _ = _; rw [G.sc]; exact glB_ok hg
  have hgt : Gl X x := by show X.env.scope.names.lookup _ = _; rw [G.sc]; exact glB_ok hg2
  obtain ⟨cv, u, ht, hcv, hcl, hn, hk⟩ : ∃ (cv : V) (u : Value), PE X (.Name x p2) (tC cv) ∧ (∀ w, RelV cv w → w = u) ∧ ClsV cv u ∧ PySem.W.kitOne X.K (.type "NoneType") u = some false ∧ ∀ n d b, n < g.c.nc → isX c (.exc n d) = some b → PySem.W.kitOne X.K (.ref (g.c.ca n)) u = some b := by
    cases c with
    | none =>
      cases hx
      refine ⟨.ty "ValueError", .type "ValueError", pe_bltn hgt (G.prog.free _ (by decide)) (by decide +kernel) rfl (by decide) (by decide), fun w r => r, .ty _, ?_, fun n d b hn e => ?_⟩
      · obtain ⟨y, hy⟩ := (G.prog.nc 0).mpr h0'
        exact (E.ve 0 y hy).2.2
      · obtain ⟨y, hy⟩ := (G.prog.nc n).mpr hn
        cases e
        exact (E.ve n y hy).1
    | some m =>
      have hm : g.T.cname m = some x := hx
      refine ⟨.ref (g.c.ca m), .ref (g.c.ca m), pe_glob hgt (E.cls m x hm).1 rfl (okName_ok hok).1, fun w r => r, .own _, (E.ve m x hm).2.1, fun n d b hn e => ?_⟩
      obtain ⟨y, hy⟩ := (G.prog.nc n).mpr hn
      cases e
      exact (E.sub n y m x hy hm).2
  refine PE.mono (pe_callB call_err hgl (G.prog.free _ (by decide)) (by decide +kernel) (pa_cons he (pa_cons ht pa_nil) (hs _)) (by decide) (by decide) (hs _) rfl) fun σ H Q ⟨env, F, R, h⟩ => ?_
  have h' : Post X.K g σ env F H ((ev g e env).bind fun p => match peek p.1 p.2 with
    | some x => (Res.of (isX c x)).bind fun b => .ok (.val (.bl b), p.2)
    | none => .bad) Q := h
  refine tE_bind R .refl h' fun p v F1 H1 R1 S1 S1' r1 h1 => ?_
  split at h1
  · rename_i y ex
    obtain ⟨b, eb, h3⟩ := of_inv h1
    have rp := R1.peek r1 ex
    cases y with
    | exc n d =>
      obtain ⟨a, dx, w, rfl, hn', k1, k2, k3⟩ := exc_of rp
      obtain ⟨y, hy⟩ := (G.prog.nc n).mpr hn'
      exact .inl ⟨a, g.c.ca n, dx, _, cv, u, b, rfl, (E.cls n y hy).2, R1.sub _ _ k1, R1.sub _ _ k2, hcv, hk n d b hn' eb, h3 _ F1 H1 R1 S1' (.bl b)⟩
    | non =>
      have hb : b = false := by cases c <;> cases eb <;> rfl
      subst hb
      obtain rfl : v = .non := by
        rcases rp with z | ⟨_, _, _, _, z⟩
        · cases z; rfl
        · exact z.elim
      exact .inr ⟨.non, cv, .type "NoneType", u, false, rfl, hcl, .base .non, hn, h3 _ F1 H1 R1 S1' (.bl false)⟩
    | _ => cases c <;> cases eb
  · exact h1.elim
theorem r_value {e : E} {e' : Expr} (G : Good X g ck k) (h0 : g.T.cname 0 ≠ none) (he : PE X e' (tE X.K g e)) (hb : attributeBase e' "value" X.env (eval e' X.env) = eval e' X.env) : PE X (.Attribute e' "value" pos) (tE X.K g (.value e)) := by
  have h0' : 0 < g.c.nc := (G.prog.nc 0).mp (by cases q : g.T.cname 0 with
    | none => exact absurd q h0
    | some y => exact ⟨y, rfl⟩)
  have E := G.prog.err h0'
  refine PE.mono (Xc.pe_xv he hb) fun σ H Q ⟨env, F, R, h⟩ => ?_
  have h' : Post X.K g σ env F H ((ev g e env).bind fun p => match peek p.1 p.2 with
    | some x => (Res.of (valX x)).bind fun d => .ok (.val d, p.2)
    | none => .bad) Q := h
  refine tE_bind R .refl h' fun p v F1 H1 R1 S1 S1' r1 h1 => ?_
  split at h1
  · rename_i y ex
    obtain ⟨d, eb, h3⟩ := of_inv h1
    cases y with
    | exc n d' =>
      cases eb
      obtain ⟨a, dx, w, rfl, hn', k1, k2, k3⟩ := exc_of (R1.peek r1 ex)
      obtain ⟨y, hy⟩ := (G.prog.nc n).mpr hn'
      exact ⟨a, g.c.ca n, dx, w, rfl, (E.cls n y hy).2, R1.sub _ _ k1, R1.sub _ _ k2, h3 w F1 H1 R1 S1' k3⟩
    | _ => cases eb
  · exact h1.elim
end
end Ev
namespace Ev
open PySem PySem.Spec PyProof.Rows L2
section
variable {K : PySem.W.Frag} {c : RC} {H0 : Hp} {bs : List (Nat × Addr)} {env env' : Env} {F H : Hp} {σ σ' : L2.St}
/-- other slots, or forgotten, or with what stands still -/
theorem Rel.change (R : Rel K c H0 bs env F σ H) (hl : env'.length = σ'.length)
    (h : ∀ j, (env'.at j = env.at j ∧ ∀ v, σ[j]? = some (some v) → σ'[j]? = some (some v)) ∨ env'.at j = .no ∨ ∃ d v, env'.at j = .val d ∧ σ'[j]? = some (some v) ∧ Rep K c F d v) : Rel K c H0 bs env' F σ' H := by
  have own1 : ∀ i, (env'.at i).mine = true → env'.at i = env.at i ∧ ∃ a, σ[i]? = some (some (.ref a)) ∧ σ'[i]? = some (some (.ref a)) := by
    intro i hm
    rcases h i with ⟨h1, h2⟩ | h1 | ⟨d, v, h1, _⟩
    · refine ⟨h1, ?_⟩
      rw [h1] at hm
      cases q : env.at i with
      | no => rw [q] at hm; cases hm
      | val x => rw [q] at hm; cases hm
      | own x => obtain ⟨a, _, g1, _⟩ := R.own i x q; exact ⟨a, g1, h2 _ g1⟩
      | byr x => obtain ⟨a, _, g1, _⟩ := R.byr i x q; exact ⟨a, g1, h2 _ g1⟩
    · rw [h1] at hm; cases hm
    · rw [h1] at hm; cases hm
  refine ⟨R.sub, hl, fun i d q => ?_, fun i d q => ?_, fun i d q => ?_, fun i j a g1 g2 g3 g4 => ?_, R.ext, R.th⟩
  · rcases h i with ⟨h1, h2⟩ | h1 | ⟨d', v, h1, h2, h3⟩
    · obtain ⟨v, g1, g2⟩ := R.val i d (h1 ▸ q)
      exact ⟨v, h2 _ g1, g2⟩
    · rw [h1] at q; cases q
    · rw [h1] at q; cases q; exact ⟨v, h2, h3⟩
  · obtain ⟨h1, a, g1, g2⟩ := own1 i (by rw [q]; rfl)
    obtain ⟨b, o, k1, k2⟩ := R.own i d (h1 ▸ q)
    rw [g1] at k1; cases k1
    exact ⟨a, o, g2, k2⟩
  · obtain ⟨h1, a, g1, g2⟩ := own1 i (by rw [q]; rfl)
    obtain ⟨b, o, k1, k2⟩ := R.byr i d (h1 ▸ q)
    rw [g1] at k1; cases k1
    exact ⟨a, o, g2, k2⟩
  · obtain ⟨h1, b, k1, k2⟩ := own1 i g1
    obtain ⟨h2, b', k3, k4⟩ := own1 j g2
    rw [g3] at k2; cases k2
    rw [g4] at k4; cases k4
    exact R.dist i j a (h1 ▸ g1) (h2 ▸ g2) k1 k3
theorem Rel.store {i : Nat} {d : D} {v : V} (R : Rel K c H0 bs env F σ H) (hi : i < env.length) (r : Rep K c F d v) : Rel K c H0 bs (env.set i (.val d)) F (σ.set i (some v)) H := by
  refine R.change (by simp [R.len]) fun j => ?_
  rw [Env.at_set hi]
  by_cases z : i = j
  · subst z; rw [if_pos rfl]
    exact .inr (.inr ⟨d, v, rfl, by rw [List.getElem?_set_self (R.len ▸ hi)], r⟩)
  · rw [if_neg z]; exact .inl ⟨rfl, fun v h => by rw [List.getElem?_set_ne z]; exact h⟩
theorem Rel.storeO {i : Nat} {d : D} {a : Addr} {o : HO} (R : Rel K c H0 bs env F σ H) (hi : i < env.length) (h1 : H a = some o) (h2 : RepO K c F d o) (h3 : F a = none) (h4 : H0 a = none) (h5 : ∀ j, j ≠ i → (env.at j).mine = true → σ[j]? ≠ some (some (.ref a))) : Rel K c H0 bs (env.set i (.own d)) F (σ.set i (some (.ref a))) H := by
  have hs : i < σ.length := R.len ▸ hi
  refine ⟨R.sub, by simp [R.len], fun j x q => ?_, fun j x q => ?_, fun j x q => ?_, fun j l b g1 g2 g3 g4 => ?_, R.ext, R.th⟩
  · rw [Env.at_set hi] at q
    by_cases z : i = j
    · rw [if_pos z] at q; cases q
    · rw [if_neg z] at q; rw [List.getElem?_set_ne z]; exact R.val j x q
  · rw [Env.at_set hi] at q
    by_cases z : i = j
    · rw [if_pos z] at q; cases q; subst z
      exact ⟨a, o, by rw [List.getElem?_set_self hs], h1, h2, h3, h4⟩
    · rw [if_neg z] at q; rw [List.getElem?_set_ne z]; exact R.own j x q
  · rw [Env.at_set hi] at q
    by_cases z : i = j
    · rw [if_pos z] at q; cases q
    · rw [if_neg z] at q; rw [List.getElem?_set_ne z]; exact R.byr j x q
  · rw [Env.at_set hi] at g1 g2
    by_cases z : i = j <;> by_cases z' : i = l
    · exact z.symm.trans z'
    · subst z
      rw [if_neg z'] at g2
      rw [List.getElem?_set_self hs] at g3
      cases g3
      rw [List.getElem?_set_ne z'] at g4
      exact absurd g4 (h5 l (fun e => z' e.symm) g2)
    · subst z'
      rw [if_neg z] at g1
      rw [List.getElem?_set_self hs] at g4
      cases g4
      rw [List.getElem?_set_ne z] at g3
      exact absurd g3 (h5 j (fun e => z e.symm) g1)
    · rw [if_neg z] at g1
      rw [if_neg z'] at g2
      rw [List.getElem?_set_ne z] at g3
      rw [List.getElem?_set_ne z'] at g4
      exact R.dist j l b g1 g2 g3 g4
theorem wipeE_len (e : Env) : ∀ vs : List Nat, (wipeE e vs).length = e.length
  | [] => rfl
  | v :: vs => by unfold wipeE; rw [List.length_set, wipeE_len e vs]
theorem wipeE_at (e : Env) : ∀ (vs : List Nat) (j : Nat), (wipeE e vs).at j = if j ∈ vs then .no else e.at j
  | [], j => by simp [wipeE]
  | v :: vs, j => by
    unfold wipeE
    rw [Env.at_set', wipeE_at e vs j]
    by_cases z : v = j
    · subst z
      by_cases q : v < (wipeE e vs).length
      · simp [q]
      · rw [if_neg (by simp [q])]
        have : e.at v = .no := by
          unfold Env.at
          rw [List.getD_eq_getElem?_getD, List.getElem?_eq_none (by rw [wipeE_len] at q; omega)]; rfl
        simp [this]
    · have : ¬ j = v := fun e => z e.symm
      simp [z, this]
theorem wipe_get {σ : L2.St} : ∀ {vs : List Nat} {j : Nat}, j ∉ vs → (wipe σ vs)[j]? = σ[j]?
  | [], _, _ => rfl
  | v :: vs, j, h => by
    simp only [List.mem_cons, not_or] at h
    unfold wipe
    rw [List.getElem?_set_ne (fun e => h.1 e.symm)]
    exact wipe_get h.2
theorem wipe_in {σ : L2.St} : ∀ {vs : List Nat} {j : Nat}, j ∈ vs → (wipe σ vs)[j]? = if j < σ.length then some none else none
  | v :: vs, j, h => by
    unfold wipe
    rw [List.getElem?_set, wipe_length]
    by_cases z : v = j
    · subst z; simp
    · rw [if_neg z]
      rw [List.mem_cons] at h
      exact wipe_in (h.resolve_left fun e => z e.symm)
theorem wipe_eq {σ σ' : L2.St} {vs : List Nat} (hl : σ'.length = σ.length) (h : ∀ j, j ∉ vs → σ'[j]? = σ[j]?) : wipe σ' vs = wipe σ vs := by
  apply List.ext_getElem?
  intro j
  by_cases z : j ∈ vs
  · rw [wipe_in z, wipe_in z, hl]
  · rw [wipe_get z, wipe_get z]; exact h j z
theorem Rel.wipe (R : Rel K c H0 bs env F σ H) (vs : List Nat) : Rel K c H0 bs (wipeE env vs) F (wipe σ vs) H := by
  refine R.change (by rw [wipeE_len, wipe_length, R.len]) fun j => ?_
  rw [wipeE_at]
  by_cases z : j ∈ vs
  · rw [if_pos z]; exact .inr (.inl rfl)
  · rw [if_neg z]; exact .inl ⟨rfl, fun v h => by rw [wipe_get z]; exact h⟩
theorem Rel.forget (R : Rel K c H0 bs env F σ H) (vs : List Nat) : Rel K c H0 bs (wipeE env vs) F σ H := by
  refine R.change (by rw [wipeE_len, R.len]) fun j => ?_
  rw [wipeE_at]
  by_cases z : j ∈ vs
  · rw [if_pos z]; exact .inr (.inl rfl)
  · rw [if_neg z]; exact .inl ⟨rfl, fun v h => h⟩
theorem Rel.unwipe {vs : List Nat} (R : Rel K c H0 bs env F (L2.wipe σ vs) H) : Rel K c H0 bs env F σ H :=
  R.change (by rw [R.len, wipe_length]) fun j => .inl ⟨rfl, fun v h => (wipe_some h).1⟩
end
/-! ### targets -/
mutual
def slotsT : Tg → List Nat
  | .one i => [i]
  | .tup ts => slotsTs ts
def slotsTs : List Tg → List Nat
  | [] => []
  | t :: ts => slotsT t ++ slotsTs ts
end
mutual
def gD (K : PySem.W.Frag) : Tg → TG
  | .one i => gName i
  | .tup ts => gTup K ts.length (gDs K ts)
def gDs (K : PySem.W.Frag) : List Tg → TGs
  | [] => gNil
  | t :: ts => gCons (gD K t) (gDs K ts)
end
/-- the slots after a target: only its own are other, and they hold what stands still -/
structure Aft (t : List Nat) (env env' : Env) (σ σ' : L2.St) : Prop where
  len : σ'.length = σ.length
  other : ∀ j, j ∉ t → σ'[j]? = σ[j]?
  mine : ∀ j, (env'.at j).mine = true → (env.at j).mine = true ∧ σ'[j]? = σ[j]?
  elen : env'.length = env.length
theorem assignTs_len : ∀ {ts : List Tg} {ds : List D} {e e' : Env}, assignTs ts ds e = some e' → ts.length = ds.length
  | [], [], _, _, _ => rfl
  | t :: ts, d :: ds, e, e', h => by
    unfold assignTs at h
    cases q : assignT t d e with
    | none => rw [q] at h; cases h
    | some e1 => rw [q] at h; simp [assignTs_len (show assignTs ts ds e1 = some e' from h)]
  | [], _ :: _, _, _, h => by unfold assignTs at h; cases h
  | _ :: _, [], _, _, h => by unfold assignTs at h; cases h
section
variable {K : PySem.W.Frag} {c : RC} {H0 : Hp} {bs : List (Nat × Addr)} {F H : Hp}
mutual
theorem gD_ok : ∀ (t : Tg) (d : D) (v : V) (env env' : Env) (σ : L2.St) (Q : L2.St → Hp → Prop), Rel K c H0 bs env F σ H → Rep K c F d v → assignT t d env = some env' →
    (∀ σ', Rel K c H0 bs env' F σ' H → Aft (slotsT t) env env' σ σ' → Q σ' H) → gD K t v σ H Q
  | .one i, d, v, env, env', σ, Q, R, r, e, hq => by
    simp only [assignT] at e
    split at e
    · rename_i hi
      obtain rfl := Option.some.inj e
      have hi : i < env.length := by rw [Bool.and_eq_true] at hi; exact of_decide_eq_true hi.1
      unfold gD gName
      refine hq _ (R.store hi r) ⟨by simp, fun j hj => ?_, fun j hm => ?_, by simp⟩
      · simp only [slotsT, List.mem_singleton] at hj
        rw [List.getElem?_set_ne (fun e => hj e.symm)]
      · rw [Env.at_set hi] at hm
        by_cases z : i = j
        · rw [if_pos z] at hm; cases hm
        · rw [if_neg z] at hm; exact ⟨hm, by rw [List.getElem?_set_ne z]⟩
    · cases e
  | .tup ts, d, v, env, env', σ, Q, R, r, e, hq => by
    cases d with
    | tup ds =>
      have e' : assignTs ts ds env = some env' := by unfold assignT at e; exact e
      cases r with
      | tup h1 h2 h3 =>
        unfold gD gTup
        exact ⟨_, _, rfl, sqT_sub R.sub h1, by rw [← h2.length, assignTs_len e'], gDs_ok ts ds _ env env' σ Q R h2 e' hq⟩
    | _ => unfold assignT at e; cases e
theorem gDs_ok : ∀ (ts : List Tg) (ds : List D) (vs : List V) (env env' : Env) (σ : L2.St) (Q : L2.St → Hp → Prop), Rel K c H0 bs env F σ H → RepL K c F ds vs → assignTs ts ds env = some env' →
    (∀ σ', Rel K c H0 bs env' F σ' H → Aft (slotsTs ts) env env' σ σ' → Q σ' H) → gDs K ts vs σ H Q
  | [], [], vs, env, env', σ, Q, R, r, e, hq => by
    unfold assignTs at e
    cases e
    cases r
    exact ⟨rfl, hq σ R ⟨rfl, fun _ _ => rfl, fun _ h => ⟨h, rfl⟩, rfl⟩⟩
  | t :: ts, d :: ds, vs, env, env', σ, Q, R, r, e, hq => by
    unfold assignTs at e
    cases q : assignT t d env with
    | none => rw [q] at e; cases e
    | some e1 =>
      rw [q] at e
      cases r with
      | cons r1 r2 =>
        refine ⟨_, _, rfl, gD_ok t d _ env e1 σ _ R r1 q fun σ1 R1 A1 => ?_⟩
        refine gDs_ok ts ds _ e1 env' σ1 Q R1 r2 e fun σ2 R2 A2 => hq σ2 R2 ⟨A2.len.trans A1.len, fun j hj => ?_, fun j hm => ?_, A2.elen.trans A1.elen⟩
        · simp only [slotsTs, List.mem_append, not_or] at hj
          exact (A2.other j hj.2).trans (A1.other j hj.1)
        · obtain ⟨m1, m2⟩ := A2.mine j hm
          obtain ⟨m3, m4⟩ := A1.mine j m1
          exact ⟨m3, m2.trans m4⟩
  | [], _ :: _, _, _, _, _, _, _, _, e, _ => by unfold assignTs at e; cases e
  | _ :: _, [], _, _, _, _, _, _, _, e, _ => by unfold assignTs at e; cases e
end
end
end Ev
namespace Ev
open PySem PySem.Spec PyProof.Rows L2
section
variable {K : PySem.W.Frag} {c : RC} {H0 : Hp} {bs : List (Nat × Addr)} {env env' env2 env2' : Env} {F F' H H' : Hp} {σ σ2 : L2.St}
theorem Stp.under (S : Stp σ2 env2 F H env' F' H') (ow : ∀ a, Owned env2 σ2 a → Owned env σ a) (mi : ∀ i, (env2'.at i).mine = true → (env.at i).mine = true) : Stp σ env F H env2' F' H' where
  fsub := S.fsub
  keep := fun a o h n => S.keep a o h fun z => n (ow a z)
  grow := fun a o h => by
    rcases S.grow a o h with z | z | z
    · exact .inl z
    · exact .inr (.inl z)
    · exact .inr (.inr (ow a z))
  owns := mi
  th := S.th
theorem Rel.updD {D : Addr} {o : HO} (R : Rel K c H0 bs env F σ H) (h1 : F D = none) (h2 : ¬ Owned env σ D) (h3 : H0 D = none) : Rel K c H0 bs env F σ (upd H D o) where
  sub := fun a u e => by
    have : a ≠ D := fun z => by subst z; rw [h1] at e; cases e
    rw [upd_ne this]; exact R.sub a u e
  len := R.len
  val := R.val
  own := fun i d q => by
    obtain ⟨a, u, g1, g2, g3⟩ := R.own i d q
    have : a ≠ D := fun z => h2 ⟨i, by rw [q]; rfl, z ▸ g1⟩
    exact ⟨a, u, g1, by rw [upd_ne this]; exact g2, g3⟩
  byr := fun i d q => by
    obtain ⟨a, u, g1, g2, g3⟩ := R.byr i d q
    have : a ≠ D := fun z => h2 ⟨i, by rw [q]; rfl, z ▸ g1⟩
    exact ⟨a, u, g1, by rw [upd_ne this]; exact g2, g3⟩
  dist := R.dist
  ext := fun a u e n => by
    have : a ≠ D := fun z => by subst z; rw [h3] at e; cases e
    rw [upd_ne this]; exact R.ext a u e n
  th := fun a u e => by
    have : a ≠ D := fun z => by subst z; rw [h3] at e; cases e
    obtain ⟨w, q⟩ := R.th a u e
    exact ⟨w, by rw [upd_ne this]; exact q⟩
theorem owned_wipe {vs : List Nat} {a : Addr} (h : Owned (wipeE env vs) (L2.wipe σ vs) a) : Owned env σ a := by
  obtain ⟨i, h1, h2⟩ := h
  refine ⟨i, ?_, (wipe_some h2).1⟩
  rw [wipeE_at] at h1
  split at h1
  · cases h1
  · exact h1
theorem mine_wipe {vs : List Nat} {i : Nat} (h : ((wipeE env vs).at i).mine = true) : (env.at i).mine = true := by
  rw [wipeE_at] at h
  split at h
  · cases h
  · exact h
end
section
variable {X : Cx} {g : Gh} {ck : Ck} {k : Nat} {pos p : Pos}
/-- no error may leave -/
def Gh.deaf (g : Gh) : Gh := { g with W := fun _ _ _ _ => False }
theorem Good.blk (G : Good X g ck k) (s : Shared) (H : Hp) (scope : Scope) (cl : List (Str × Addr)) (C : Addr) (fp : List Addr) : Good (X.blk s H scope (compEnvC scope cl C X.env) fp) g.deaf (ck.inner scope) k where
  N := G.N
  deep := G.deep
  tk := fun u s' ⟨_, _, _, _, _, _, _, _, _, _, _, _, _, _, _, _, z⟩ => z.elim
  sc := by
    show relS scope X.env.scope = relS scope ck.sc
    rw [G.sc]
  nd := G.nd
  calm := G.calm
  st := fun x h => by
    have q : ∀ kk, kk ≠ .free → scope.names.lookup x = some kk → (relS scope ck.sc).names.lookup x = some kk := fun kk n e => lookup_relS_keep n e
    rcases locB_ok (show locB scope x = true from h) with z | z
    · exact ⟨.inl (q _ (by decide) z), .inr (q _ (by decide) z)⟩
    · exact ⟨.inr (q _ (by decide) z), .inl (by show (scope.names.lookup x == some NameKind.cell) = true; rw [z]; rfl)⟩
  room := G.room
  gd := G.gd
  pass := fun σ pins H s e s' I c => by
    obtain ⟨_, _, _, _, _, _, _, _, _, _, _, _, w⟩ := c
    exact w.elim
  prog := G.prog
def tCond (K : PySem.W.Frag) (g : Gh) : Option E → TT
  | none => tYes
  | some c => tT K g c
def evC (g : Gh) : Option E → Env → Res (Bool × Env) := evalC g.T.chg g.T.gval g.call
/-- the turns of a comprehension; N: what else the walk wants, kept by every step -/
theorem comp_loop {elt : E} {tg : Tg} {cond : Option E} {own : List Nat} (hs : ∀ i ∈ slotsT tg, i ∈ own) {σ : L2.St} {q2 : Env} {items : List Ev.D} {F1 H1 : Hp} {J : L2.It} {N : Hp → Prop} {Y : Nat → Hp → V → Hp → Prop} {w : List Ev.D × Env} {Qd : Hp → Prop} (R1 : RelG X.K g q2 F1 σ H1)
    (walk : Walk J items.length (fun H => Sub F1 H ∧ N H) Y) (yy : ∀ i H x H', i < items.length → Y i H x H' → ∀ Fi, Sub F1 Fi → Sub Fi H → ∃ d F', items[i]? = some d ∧ Grow Fi H F' H' ∧ Rep X.K g.c F' d x)
    (hN : ∀ envi Fi Hc, Stp (wipe σ own) (wipeE q2 own) F1 H1 envi Fi Hc → N Hc) (hl : items.length ≤ LIM) (ew : compL tg (evC g cond) (ev g elt) own items (wipeE q2 own) = .ok w) (D : Addr) (hD : H1 D = none)
    (hend : ∀ Fi Hn vs, RelG X.K g w.2 Fi (wipe σ own) Hn → Stp (wipe σ own) (wipeE q2 own) F1 H1 w.2 Fi Hn → Hn D = some (.lst vs) → RepL X.K g.c Fi w.1 vs → Fi D = none → w.1.length ≤ items.length → Qd Hn) :
    ∃ W : Nat → Nat → Hp → Prop, (∃ m, W 0 m (upd H1 D (.lst []))) ∧ ∀ i m H, W i m H →
      (J.stop i H ∧ Qd H) ∨ (J.go i H ∧ ∃ Nx : Hp → Prop, (∀ H', Nx H' → ∃ m', m' < m ∧ W (i + 1) m' H') ∧ ∀ x H', J.yld i H x H' → gD X.K tg x (wipe σ own) H' fun σ2 H2 => wipe σ2 own = wipe σ own ∧ tCond X.K g.deaf cond σ2 H2 fun b H3 =>
        if b = true then tE X.K g.deaf elt σ2 H3 fun y H4 => ∃ acc, H4 D = some (.lst acc) ∧ acc.length < sizeLine ∧ Nx (upd H4 D (.lst (acc ++ [y]))) else Nx H3) := by
  have hF1 : F1 D = none := by
    cases e : F1 D with
    | none => rfl
    | some u => rw [R1.sub D u e] at hD; cases hD
  have hH0 : g.H0 D = none := by
    cases e : g.H0 D with
    | none => rfl
    | some u => obtain ⟨u', e'⟩ := R1.th D u e; rw [hD] at e'; cases e'
  have nO : ¬ Owned (wipeE q2 own) (wipe σ own) D := fun z => by
    obtain ⟨u, e⟩ := R1.owned_some (owned_wipe z)
    rw [hD] at e; cases e
  refine lc_it walk (Qd := Qd) (fun i Hc => ∃ (envi : Env) (Fi : Hp) (ds : List Ev.D) (vs : List V) (w' : List Ev.D × Env), RelG X.K g envi Fi (wipe σ own) Hc ∧ Stp (wipe σ own) (wipeE q2 own) F1 H1 envi Fi Hc ∧ Hc D = some (.lst vs) ∧
    RepL X.K g.c Fi ds vs ∧ Fi D = none ∧ ds.length ≤ i ∧ compL tg (evC g cond) (ev g elt) own (items.drop i) envi = .ok w' ∧ ds ++ w'.1 = w.1 ∧ w'.2 = w.2) ?_ ?_ ?_ ?_
  · exact ⟨wipeE q2 own, F1, [], [], w, (R1.wipe own).more (Sub.refl _) (sub_upd hD) (R1.sub.trans (sub_upd hD)) (fun _ _ z => .inl z), Stp.refl.more (Sub.refl _) (sub_upd hD) (fun _ _ z => .inl z), upd_same, .nil, hF1, Nat.le_refl _, ew, rfl, rfl⟩
  · exact fun i Hc _ ⟨envi, Fi, ds, vs, w', Ri, Si, _⟩ => ⟨Si.fsub.trans Ri.sub, hN _ _ _ Si⟩
  · intro i x Hc H' hi ⟨envi, Fi, ds, vs, w', Ri, Si, cD, rl, fD, dl, ec, ed1, ed2⟩ hY
    obtain ⟨d, F', ed, gr, rep⟩ := yy i Hc x H' hi hY Fi Si.fsub Ri.sub
    have hdrop : items.drop i = d :: items.drop (i + 1) := by
      obtain ⟨hlt, e⟩ := List.getElem?_eq_some_iff.mp ed
      rw [List.drop_eq_getElem_cons hlt, e]
    have R' := Ri.more gr.f gr.h gr.s gr.g
    have S' := Si.more gr.f gr.h gr.g
    rw [hdrop] at ec
    have ec' : ((Res.of (assignT tg d envi)).bind fun e1 => (evC g cond e1).bind fun p =>
      if p.1 then (ev g elt p.2).bind fun q' => (Res.of (asVal q'.1 q'.2)).bind fun z => (compL tg (evC g cond) (ev g elt) own (items.drop (i + 1)) (wipeE z.2 own)).bind fun w => .ok (z.1 :: w.1, w.2)
      else compL tg (evC g cond) (ev g elt) own (items.drop (i + 1)) (wipeE p.2 own)) = .ok w' := ec
    cases ea : assignT tg d envi with
    | none => rw [ea] at ec'; cases ec'
    | some e1 =>
      rw [ea] at ec'
      simp only [Res.of_some, Res.bind_ok] at ec'
      cases eb : evC g cond e1 with
      | exc _ _ => rw [eb] at ec'; cases ec'
      | bad => rw [eb] at ec'; cases ec'
      | ok p =>
        rw [eb] at ec'
        simp only [Res.bind_ok] at ec'
        refine gD_ok tg d x envi e1 _ _ R' rep ea fun σ2 R2 A => ?_
        have hw : wipe σ2 own = wipe σ own := by
          rw [wipe_eq A.len fun j hj => A.other j fun z => hj (hs j z)]
          exact wipe_eq (by rw [wipe_length]) fun j hj => wipe_get hj
        refine ⟨hw, ?_⟩
        have nO2 : ¬ Owned e1 σ2 D := fun ⟨j, m1, m2⟩ => by
          obtain ⟨m3, m4⟩ := A.mine j m1
          exact nO (S'.owned ⟨j, m3, m4 ▸ m2⟩)
        have under : ∀ {E' : Env} {F5 H5 : Hp}, Stp σ2 e1 F' H' E' F5 H5 → Stp (wipe σ own) (wipeE q2 own) F1 H1 (wipeE E' own) F5 H5 := fun {E' F5 H5} T =>
          S'.trans (T.under (fun a ⟨j, m1, m2⟩ => by
            obtain ⟨m3, m4⟩ := A.mine j m1
            exact ⟨j, m3, m4 ▸ m2⟩) fun j m => (A.mine j (T.owns j (mine_wipe m))).1)
        have hD' : H' D = some (.lst vs) := gr.h D _ cD
        have fD' : F' D = none := by
          cases e : F' D with
          | none => rfl
          | some u =>
            rcases gr.g D u e with z | z
            · rw [fD] at z; cases z
            · rw [cD] at z; cases z
        have noF : ∀ {E' : Env} {F5 H5 : Hp}, Stp σ2 e1 F' H' E' F5 H5 → F5 D = none := fun {E' F5 H5} T => by
          cases e : F5 D with
          | none => rfl
          | some u =>
            rcases T.grow D u e with z | z | z
            · rw [fD'] at z; cases z
            · rw [hD'] at z; cases z
            · exact absurd z nO2
        have key : ∀ (Fp H3 : Hp), RelG X.K g p.2 Fp σ2 H3 → Stp σ2 e1 F' H' p.2 Fp H3 → (if p.1 = true then tE X.K g.deaf elt σ2 H3 fun y H4 => ∃ acc, H4 D = some (.lst acc) ∧ acc.length < sizeLine ∧ (∃ (envi : Env) (Fi : Hp) (ds : List Ev.D) (vs : List V) (w' : List Ev.D × Env), RelG X.K g envi Fi (wipe σ own) (upd H4 D (.lst (acc ++ [y]))) ∧ Stp (wipe σ own) (wipeE q2 own) F1 H1 envi Fi (upd H4 D (.lst (acc ++ [y]))) ∧ upd H4 D (.lst (acc ++ [y])) D = some (.lst vs) ∧
            RepL X.K g.c Fi ds vs ∧ Fi D = none ∧ ds.length ≤ i + 1 ∧ compL tg (evC g cond) (ev g elt) own (items.drop (i + 1)) envi = .ok w' ∧ ds ++ w'.1 = w.1 ∧ w'.2 = w.2)
            else ∃ (envi : Env) (Fi : Hp) (ds : List Ev.D) (vs : List V) (w' : List Ev.D × Env), RelG X.K g envi Fi (wipe σ own) H3 ∧ Stp (wipe σ own) (wipeE q2 own) F1 H1 envi Fi H3 ∧ H3 D = some (.lst vs) ∧
            RepL X.K g.c Fi ds vs ∧ Fi D = none ∧ ds.length ≤ i + 1 ∧ compL tg (evC g cond) (ev g elt) own (items.drop (i + 1)) envi = .ok w' ∧ ds ++ w'.1 = w.1 ∧ w'.2 = w.2) := by
          intro Fp H3 Rp Sp'
          have h3D := Sp'.keep D _ hD' nO2
          by_cases hb : p.1 = true
          · rw [if_pos hb] at ec' ⊢
            refine ⟨p.2, Fp, Rp, ?_⟩
            show Post X.K g.deaf σ2 p.2 Fp H3 (ev g elt p.2) _
            cases ee : ev g elt p.2 with
            | exc _ _ => rw [ee] at ec'; cases ec'
            | bad => rw [ee] at ec'; cases ec'
            | ok r =>
              rw [ee] at ec'
              simp only [Res.bind_ok] at ec'
              intro y F4 H4 R4 S4 r4
              cases ez : asVal r.1 r.2 with
              | none => rw [ez] at ec'; cases ec'
              | some z =>
                rw [ez] at ec'
                simp only [Res.of_some, Res.bind_ok] at ec'
                obtain ⟨dz, env5⟩ := z
                obtain ⟨F5, R5, S5, rep5, _⟩ := Rel.asVal' R4 S4 r4 ez
                cases ef : compL tg (evC g cond) (ev g elt) own (items.drop (i + 1)) (wipeE env5 own) with
                | exc _ _ => simp only [ef] at ec'; cases ec'
                | bad => simp only [ef] at ec'; cases ec'
                | ok w2 =>
                  simp only [ef, Res.bind_ok] at ec'
                  cases ec'
                  have T := Sp'.trans S5
                  have h4D := T.keep D _ hD' nO2
                  have f5 := noF T
                  refine ⟨vs, h4D, ?_, wipeE env5 own, F5, ds ++ [dz], vs ++ [y], w2, ?_, ?_, upd_same, (rl.sub ?_).append (.cons rep5 .nil), f5, by simp; omega, ef, by rw [List.append_assoc]; exact ed1, ed2⟩
                  · rw [← rl.length]
                    have := Nat.lt_of_le_of_lt dl hi
                    have := Nat.lt_of_lt_of_le this hl
                    rw [LIM_eq]; exact this
                  · rw [← hw]
                    exact (R5.updD f5 (fun z => nO2 (T.owned z)) hH0).wipe own
                  · have U := under T
                    exact ⟨U.fsub, fun a o e n => by
                      have : a ≠ D := fun z => by subst z; rw [hD] at e; cases e
                      rw [upd_ne this]; exact U.keep a o e n, U.grow, U.owns, fun a o e => by
                      have : a ≠ D := fun z => by subst z; rw [hD] at e; cases e
                      obtain ⟨u, q⟩ := U.th a o e
                      exact ⟨u, by rw [upd_ne this]; exact q⟩⟩
                  · exact gr.f.trans T.fsub
          · rw [if_neg hb] at ec' ⊢
            refine ⟨wipeE p.2 own, Fp, ds, vs, w', ?_, under Sp', h3D, rl.sub (gr.f.trans Sp'.fsub), noF Sp', by omega, ec', ed1, ed2⟩
            rw [← hw]
            exact Rp.wipe own
        cases cond with
        | none =>
          have ep : p = (true, e1) := by
            have : (Res.ok (true, e1) : Res (Bool × Env)) = .ok p := eb
            cases this; rfl
          subst ep
          exact key F' H' R2 .refl
        | some cc =>
          refine ⟨e1, F', R2, ?_⟩
          show PostT X.K g.deaf σ2 e1 F' H' (tst (ev g cc e1)) _
          have eb' : tst (ev g cc e1) = .ok p := eb
          rw [eb']
          intro b F3 H3 R3 S3 hb
          cases hb
          exact key F3 H3 R3 S3
  · intro Hn ⟨envi, Fi, ds, vs, w', Ri, Si, cD, rl, fD, dl, ec, ed1, ed2⟩
    rw [List.drop_length] at ec
    cases ec
    subst ed2
    rw [List.append_nil] at ed1
    subst ed1
    exact hend Fi Hn vs Ri Si cD rl fD dl
theorem okC {K : PySem.W.Frag} {σ : L2.St} {env : Env} {F H : Hp} {Q : VK} {r : Res (List Ev.D × Env)} {k : List Ev.D × Env → Res (Ev.R × Env)} (h : Post K g σ env F H ((noExc r).bind k) Q) : ∃ w, r = .ok w ∧ Post K g σ env F H (k w) Q := by
  cases r with
  | ok w => exact ⟨w, rfl, h⟩
  | exc _ _ => exact h.elim
  | bad => exact h.elim
/-- a list of one's own, as it stands -/
def tHid (K : PySem.W.Frag) (g : Gh) (it : Ev.It) : TI := fun σ H R => ∃ env F h a vs, RelG K g env F σ H ∧ hidE it env = some h ∧ σ[h.1]? = some (some (.ref a)) ∧ H a = some (.lst vs) ∧ R (Itl K a) H
theorem hidE_inv {it : Ev.It} {env : Env} {h : Nat × Sl × List Ev.D} (e : hidE it env = some h) : it = .seq (.sl h.1) ∧ env.at h.1 = h.2.1 ∧ (h.2.1 = .own (.lst h.2.2) ∨ h.2.1 = .byr (.lst h.2.2)) := by
  unfold hidE at e
  split at e
  · split at e
    · rename_i i _ xs q
      cases e; exact ⟨rfl, q, .inl rfl⟩
    · rename_i i _ xs q
      cases e; exact ⟨rfl, q, .inr rfl⟩
    · cases e
  · cases e
theorem hide_at {env : Env} {i j : Nat} (h : (Env.at (env.set i .no) j).mine = true) : i ≠ j ∧ (env.at j).mine = true := by
  rw [Env.at_set'] at h
  split at h
  · cases h
  · rename_i n
    by_cases e : i = j
    · subst e
      have hl : ¬ i < env.length := fun z => n ⟨rfl, z⟩
      have : env.at i = .no := by
        unfold Env.at; rw [List.getD_eq_getElem?_getD, List.getElem?_eq_none_iff.mpr (by omega)]; rfl
      rw [this] at h; cases h
    · exact ⟨e, h⟩
theorem Rel.hide {K : PySem.W.Frag} {c : RC} {H0 : Hp} {bs : List (Nat × Addr)} {env : Env} {F H : Hp} {σ : L2.St} (R : Rel K c H0 bs env F σ H) (i : Nat) : Rel K c H0 bs (env.set i .no) F σ H := by
  have go : ∀ j s, s ≠ Sl.no → Env.at (env.set i .no) j = s → env.at j = s := fun j s n h => by
    rw [Env.at_set'] at h
    split at h
    · exact absurd h.symm n
    · exact h
  exact ⟨R.sub, by rw [List.length_set]; exact R.len, fun j d q => R.val j d (go j _ (fun z => nomatch z) q), fun j d q => R.own j d (go j _ (fun z => nomatch z) q), fun j d q => R.byr j d (go j _ (fun z => nomatch z) q),
    fun j k a h1 h2 => R.dist j k a (hide_at h1).2 (hide_at h2).2, R.ext, R.th⟩
theorem Stp.hide {σ : L2.St} {env : Env} {F H : Hp} (i : Nat) : Stp σ env F H (env.set i .no) F H := ⟨Sub.refl _, fun _ _ h _ => h, fun _ _ h => .inl h, fun j h => (hide_at h).2, fun _ o h => ⟨o, h⟩⟩
theorem comp_main {elt : E} {tg : Tg} {it : Ev.It} {cond : Option E} {own : List Nat} (hs : ∀ i ∈ slotsT tg, i ∈ own) (σ : L2.St) (H : Hp) (Q : VK) (h : tE X.K g (.comp elt tg it cond own) σ H Q) :
    tLc (fun σ H R => tHid X.K g it σ H R ∨ tI X.K g it σ H R) (gD X.K tg) (tCond X.K g.deaf cond) (tE X.K g.deaf elt) own σ H Q := by
  obtain ⟨env, F, R, h⟩ := h
  have h' : Post X.K g σ env F H (match hidE it env with
    | some h => if h.1 ∉ own ∧ h.2.2.length ≤ LIM then (noExc (compL tg (evC g cond) (ev g elt) own h.2.2 (wipeE (env.set h.1 .no) own))).bind fun w => .ok (.tmp (.lst w.1), w.2.set h.1 h.2.1) else .bad
    | none => (evI g it env).bind fun p => if p.1.length ≤ LIM then (noExc (compL tg (evC g cond) (ev g elt) own p.1 (wipeE p.2 own))).bind fun w => .ok (.tmp (.lst w.1), w.2) else .bad) Q := h
  cases eh : hidE it env with
  | none =>
    rw [eh] at h'
    have h1' : Post X.K g σ env F H ((evI g it env).bind fun p => if p.1.length ≤ LIM then (noExc (compL tg (evC g cond) (ev g elt) own p.1 (wipeE p.2 own))).bind fun w => .ok (.tmp (.lst w.1), w.2) else .bad) Q := h'
    refine .inr ⟨env, F, R, bindOf .refl h1' fun q J F1 H1 e1 R1 S1 S1' wk h1 D hD => ?_⟩
    obtain ⟨hl, h2⟩ := if_inv h1
    obtain ⟨w, ew, h3⟩ := okC h2
    obtain ⟨Y, walk, yy⟩ := wk
    refine comp_loop (N := fun _ => True) hs R1 (walk.mono (fun H s => s.1) fun _ _ _ _ _ _ y => y) yy (fun _ _ _ _ => trivial) hl ew D hD fun Fi Hn vs Ri Si cD rl fD dl => ?_
    have Su : Stp σ q.2 F1 H1 w.2 Fi Hn := Si.under (fun a z => owned_wipe z) fun j m => mine_wipe (Si.owns j m)
    have nOf : ¬ Owned w.2 σ D := fun z => by
      obtain ⟨u, e⟩ := R1.owned_some (Su.owned z)
      rw [hD] at e; cases e
    exact h3 (.ref D) Fi Hn Ri.unwipe (S1'.trans Su) ⟨D, _, rfl, cD, ⟨rl, Nat.le_trans dl hl⟩, fD, S1'.back hD, nOf⟩
  | some hh =>
    rw [eh] at h'
    obtain ⟨i, sl, xs⟩ := hh
    obtain ⟨hit, hat, hsl⟩ := hidE_inv eh
    simp only at hit hat hsl
    have h1' : Post X.K g σ env F H (if i ∉ own ∧ xs.length ≤ LIM then (noExc (compL tg (evC g cond) (ev g elt) own xs (wipeE (env.set i .no) own))).bind fun w => .ok (.tmp (.lst w.1), w.2.set i sl) else .bad) Q := h'
    obtain ⟨⟨hno, hl⟩, h2⟩ := if_inv h1'
    obtain ⟨w, ew, h3⟩ := okC h2
    have hm : (env.at i).mine = true := by rw [hat]; rcases hsl with z | z <;> rw [z] <;> rfl
    obtain ⟨a, vs, ga, ha, ra, fa, h0⟩ : ∃ a vs, σ[i]? = some (some (.ref a)) ∧ H a = some (.lst vs) ∧ RepL X.K g.c F xs vs ∧ F a = none ∧ (sl = .own (.lst xs) ∧ g.H0 a = none ∨ sl = .byr (.lst xs) ∧ (i, a) ∈ g.bs) := by
      rcases hsl with z | z
      · rw [z] at hat
        obtain ⟨a, o, k1, k2, k3, k4, k5⟩ := R.own i _ hat
        obtain ⟨vs, rfl, rl, ll⟩ := k3.lstD
        exact ⟨a, vs, k1, k2, rl, k4, .inl ⟨z, k5⟩⟩
      · rw [z] at hat
        obtain ⟨a, o, k1, k2, k3, k4, k5⟩ := R.byr i _ hat
        obtain ⟨vs, rfl, rl, ll⟩ := k3.lstD
        exact ⟨a, vs, k1, k2, rl, k4, .inr ⟨z, k5⟩⟩
    have R0 := R.hide i
    have S0 : Stp σ env F H (env.set i .no) F H := Stp.hide i
    have nOa : ¬ Owned (env.set i .no) σ a := fun ⟨j, m1, m2⟩ => by
      obtain ⟨n1, n2⟩ := hide_at m1
      exact n1 (R.dist i j a hm n2 ga m2)
    refine .inl ⟨env, F, (i, sl, xs), a, vs, R, eh, ga, ha, fun D hD => ?_⟩
    have wk : Walk (Itl X.K a) xs.length (fun Hc => Sub F Hc ∧ Hc a = some (.lst vs)) (YAt vs) := by
      rw [ra.length]
      exact walk_list.mono (fun H s => .inl (.inl s.2)) fun _ _ _ _ _ _ y => y
    refine comp_loop (N := fun Hc => Hc a = some (.lst vs)) hs R0 wk (fun j Hc x H' hj ⟨e, hx⟩ Fi s1 s2 => ?_) (fun envi Fi Hc Si => Si.keep a _ ha fun z => nOa (owned_wipe z)) hl ew D hD fun Fi Hn ws Ri Si cD rl fD dl => ?_
    · subst e
      obtain ⟨d, e1, e2⟩ := ra.getV hx
      exact ⟨d, Fi, e1, .refl s2, e2.sub s1⟩
    · have Su : Stp σ (env.set i .no) F H w.2 Fi Hn := Si.under (fun a z => owned_wipe z) fun j m => mine_wipe (Si.owns j m)
      have S1 := S0.trans Su
      have Ru := Ri.unwipe
      have hna : Hn a = some (.lst vs) := Su.keep a _ ha nOa
      have fia : Fi a = none := by
        cases e : Fi a with
        | none => rfl
        | some u =>
          rcases Su.grow a u e with z | z | z
          · rw [fa] at z; cases z
          · rw [ha] at z; cases z
          · exact absurd z nOa
      have ra' := ra.sub Su.fsub
      have il : i < w.2.length := by
        rw [Ru.len, ← R.len]
        exact Env.at_lt (by intro z; rw [z] at hm; cases hm)
      have nOw : ∀ j, (w.2.at j).mine = true → σ[j]? = some (some (.ref a)) → False := fun j m1 m2 => nOa (Su.owned ⟨j, m1, m2⟩)
      have ms : sl.mine = true := by rw [← hat]; exact hm
      have at_ : ∀ j, Env.at (w.2.set i sl) j = if i = j then sl else w.2.at j := fun j => Env.at_set il
      refine h3 (.ref D) Fi Hn ⟨Ru.sub, by rw [List.length_set]; exact Ru.len, fun j d q => ?_, fun j d q => ?_, fun j d q => ?_, fun j k b m1 m2 q1 q2 => ?_, Ru.ext, Ru.th⟩ ⟨S1.fsub, S1.keep, S1.grow, fun j m => ?_, S1.th⟩ ⟨D, _, rfl, cD, ⟨rl, Nat.le_trans dl hl⟩, fD, hD, fun ⟨j, m1, m2⟩ => ?_⟩
      · rw [at_] at q
        split at q
        · rw [q] at ms; cases ms
        · exact Ru.val j d q
      · rw [at_] at q
        split at q
        · rename_i e
          subst e
          rcases h0 with ⟨z1, z2⟩ | ⟨z1, z2⟩
          · rw [z1] at q; cases q
            exact ⟨a, _, ga, hna, ⟨ra', hl⟩, fia, z2⟩
          · rw [z1] at q; cases q
        · exact Ru.own j d q
      · rw [at_] at q
        split at q
        · rename_i e
          subst e
          rcases h0 with ⟨z1, z2⟩ | ⟨z1, z2⟩
          · rw [z1] at q; cases q
          · rw [z1] at q; cases q
            exact ⟨a, _, ga, hna, ⟨ra', hl⟩, fia, z2⟩
        · exact Ru.byr j d q
      · rw [at_] at m1 m2
        split at m1
        · rename_i e
          subst e
          split at m2
          · assumption
          · rw [ga] at q1; cases q1
            exact (nOw k m2 q2).elim
        · split at m2
          · rename_i e
            subst e
            rw [ga] at q2; cases q2
            exact (nOw j m1 q1).elim
          · exact Ru.dist j k b m1 m2 q1 q2
      · rw [at_] at m
        split at m
        · rename_i e; subst e; exact hm
        · exact S1.owns j m
      · rw [at_] at m1
        split at m1
        · rename_i e
          subst e
          rw [ga] at m2
          cases m2
          rw [ha] at hD; cases hD
        · obtain ⟨u, e⟩ := R.owned_some (S1.owned ⟨j, m1, m2⟩)
          rw [hD] at e; cases e
end
end Ev
namespace Ev
open PySem PySem.Spec PyProof.Rows L2
/-! ### statements -/
/-- the slots between statements; F0: what stood still at the entry -/
structure RelS (K : PySem.W.Frag) (g : Gh) (F0 : Hp) (env : Env) (F : Hp) (σ : L2.St) (H : Hp) : Prop where
  rel : RelG K g env F σ H
  sub : Sub F0 F
  bk : ∀ a o, F a = some o → F0 a = some o ∨ g.H0 a = none ∨ ∃ i, (i, a) ∈ g.bs
/-- an error may leave -/
def XS (K : PySem.W.Frag) (g : Gh) (F0 : Hp) (k : Nat) (d : D) : Prop :=
  ∀ (σ : L2.St) (dx : Addr) (w : V) (F' H' : Hp), Sub F0 F' → Sub F' H' → (∀ a o, g.H0 a = some o → (∀ i, (i, a) ∉ g.bs) → H' a = some o) → (∀ a o, F' a = some o → F0 a = some o ∨ g.H0 a = none ∨ ∃ i, (i, a) ∈ g.bs) → g.H0 dx = none → k < g.c.nc → H' dx = some (.xd [("value", w)]) → Rep K g.c F' d w → g.W (.ref (g.c.ca k)) (some dx) σ H'
def PostS (K : PySem.W.Frag) (g : Gh) (F0 : Hp) (D : Ends) : Res Fl → Prop
  | .ok (.nx e) => ∀ σ' F' H', RelS K g F0 e F' σ' H' → D.nx σ' H'
  | .ok (.brk e) => ∀ σ' F' H', RelS K g F0 e F' σ' H' → D.bk σ' H'
  | .ok (.ct e) => ∀ σ' F' H', RelS K g F0 e F' σ' H' → D.ct σ' H'
  | .ok (.ret r e) => ∀ σ' v F' H', RelS K g F0 e F' σ' H' → RelR K g.c g.H0 e F' σ' H' r v → D.rt v H'
  | .exc k d => XS K g F0 k d
  | .bad => False
def evS (g : Gh) : S → Env → Res Fl := evalS g.T.chg g.T.gval g.call
def evSs (g : Gh) : Ss → Env → Res Fl := evalSs g.T.chg g.T.gval g.call
def tS (K : PySem.W.Frag) (g : Gh) (s : S) : TS := fun D σ H => ∃ F0 env F, RelS K g F0 env F σ H ∧ PostS K g F0 D (evS g s env)
def tSs (K : PySem.W.Frag) (g : Gh) (s : Ss) : TS := fun D σ H => ∃ F0 env F, RelS K g F0 env F σ H ∧ PostS K g F0 D (evSs g s env)
theorem PS.mono {X : Cx} {e : Stmt} {t t' : TS} (h : PS X e t) (m : ∀ D σ H, t' D σ H → t D σ H) : PS X e t' := ⟨fun pins s σ H D I q => h.run pins s σ H D I (m D σ H q)⟩
theorem PSs.mono {X : Cx} {e : List Stmt} {t t' : TS} (h : PSs X e t) (m : ∀ D σ H, t' D σ H → t D σ H) : PSs X e t' := ⟨fun pins s σ H D I q => h.run pins s σ H D I (m D σ H q)⟩
section
variable {K : PySem.W.Frag} {g : Gh} {F0 F F' H H' : Hp} {σ : L2.St} {env env' : Env} {D : Ends}
theorem RelS.step (R : RelS K g F0 env F σ H) (S : Stp σ env F H env' F' H') (R' : RelG K g env' F' σ H') : RelS K g F0 env' F' σ H' := by
  refine ⟨R', R.sub.trans S.fsub, fun a o e => ?_⟩
  have old : H a = none → g.H0 a = none := fun z => by
    cases q : g.H0 a with
    | none => rfl
    | some u => obtain ⟨w, e⟩ := R.rel.th a u q; rw [z] at e; cases e
  rcases S.grow a o e with z | z | ⟨i, z1, z2⟩
  · exact R.bk a o z
  · exact .inr (.inl (old z))
  · cases q : env.at i with
    | no => rw [q] at z1; cases z1
    | val x => rw [q] at z1; cases z1
    | own x =>
      obtain ⟨b, _, k1, _, _, _, k5⟩ := R.rel.own i x q
      rw [z2] at k1; cases k1
      exact .inr (.inl k5)
    | byr x =>
      obtain ⟨b, _, k1, _, _, _, k5⟩ := R.rel.byr i x q
      rw [z2] at k1; cases k1
      exact .inr (.inr ⟨i, k5⟩)
theorem RelS.none (R : RelS K g F0 env F σ H) {a : Addr} (z : H a = none) : g.H0 a = none := by
  cases q : g.H0 a with
  | none => rfl
  | some u => obtain ⟨w, e⟩ := R.rel.th a u q; rw [z] at e; cases e
theorem RelS.x (R : RelS K g F0 env F σ H) {k : Nat} {d : Ev.D} (h : XS K g F0 k d) : PostX K g σ env F H k d := by
  intro dx w F' H' s1 s2 kp gr h0 hk hx rep
  refine h σ dx w F' H' (R.sub.trans s1) s2 (fun a o e n => kp a o (R.rel.ext a o e n) fun ⟨i, z1, z2⟩ => ?_) (fun a o e => ?_) (RelS.none R h0) hk hx rep
  rotate_left
  · rcases gr a o e with z | z | ⟨i, z1, z2⟩
    · exact R.bk a o z
    · exact .inr (.inl (RelS.none R z))
    · cases q : env.at i with
      | no => rw [q] at z1; cases z1
      | val x => rw [q] at z1; cases z1
      | own x =>
        obtain ⟨b, _, k1, _, _, _, k5⟩ := R.rel.own i x q
        rw [z2] at k1; cases k1
        exact .inr (.inl k5)
      | byr x =>
        obtain ⟨b, _, k1, _, _, _, k5⟩ := R.rel.byr i x q
        rw [z2] at k1; cases k1
        exact .inr (.inr ⟨i, k5⟩)
  cases q : env.at i with
  | no => rw [q] at z1; cases z1
  | val x => rw [q] at z1; cases z1
  | own x =>
    obtain ⟨b, _, k1, _, _, _, k5⟩ := R.rel.own i x q
    rw [z2] at k1; cases k1
    rw [e] at k5; cases k5
  | byr x =>
    obtain ⟨b, _, k1, _, _, _, k5⟩ := R.rel.byr i x q
    rw [z2] at k1; cases k1
    exact n i k5
theorem RelS.forget (R : RelS K g F0 env F σ H) (vs : List Nat) : RelS K g F0 (wipeE env vs) F σ H := ⟨R.rel.forget vs, R.sub, R.bk⟩
theorem bindS {α β : Type} {rel : α → Env → Hp → Hp → β → Prop} {res : Res (α × Env)} {k : α × Env → Res Fl} {Q' : β → Hp → Prop} (R : RelS K g F0 env F σ H) (h : PostS K g F0 D (res.bind k))
    (hk : ∀ p v F1 H1, res = .ok p → RelS K g F0 p.2 F1 σ H1 → Stp σ env F H p.2 F1 H1 → rel p.1 p.2 F1 H1 v → PostS K g F0 D (k p) → Q' v H1) : PostOf K g σ env F H rel res Q' := by
  cases res with
  | ok p => exact fun v F1 H1 R1 S1 r1 => hk p v F1 H1 rfl (R.step S1 R1) S1 r1 h
  | exc c d => exact R.x h
  | bad => exact h.elim
theorem tE_s {e : E} {k : R × Env → Res Fl} {Q' : V → Hp → Prop} (R : RelS K g F0 env F σ H) (h : PostS K g F0 D ((ev g e env).bind k))
    (hk : ∀ p v F1 H1, RelS K g F0 p.2 F1 σ H1 → Stp σ env F H p.2 F1 H1 → RelR K g.c H p.2 F1 σ H1 p.1 v → PostS K g F0 D (k p) → Q' v H1) : tE K g e σ H Q' :=
  ⟨env, F, R.rel, bindS R h fun p v F1 H1 _ R1 S1 r1 h1 => hk p v F1 H1 R1 S1 r1 h1⟩
theorem ofS {α : Type} {o : Option α} {k : α → Res Fl} (h : PostS K g F0 D ((Res.of o).bind k)) : ∃ a, o = some a ∧ PostS K g F0 D (k a) := by
  cases o with
  | none => exact h.elim
  | some a => exact ⟨a, rfl, h⟩
theorem tE_sv {e : E} {k : Ev.D × Env → Res Fl} {Q' : V → Hp → Prop} (R : RelS K g F0 env F σ H) (h : PostS K g F0 D ((ev g e env).bind fun p => (Res.of (asVal p.1 p.2)).bind k))
    (hk : ∀ z v F1 H1, RelS K g F0 z.2 F1 σ H1 → Stp σ env F H z.2 F1 H1 → Rep K g.c F1 z.1 v → PostS K g F0 D (k z) → Q' v H1) : tE K g e σ H Q' :=
  tE_s R h fun p v F1 H1 R1 S1 r1 h1 => by
    obtain ⟨z, ez, h2⟩ := ofS h1
    obtain ⟨d, env2⟩ := z
    obtain ⟨F2, R2, S2, rep, _⟩ := Rel.asVal' R1.rel S1 r1 ez
    exact hk _ v F2 H1 (R.step S2 R2) S2 rep h2
theorem tT_s {e : E} {k : Bool × Env → Res Fl} {Q' : Bool → Hp → Prop} (R : RelS K g F0 env F σ H) (h : PostS K g F0 D ((tst (ev g e env)).bind k))
    (hk : ∀ p F1 H1, RelS K g F0 p.2 F1 σ H1 → Stp σ env F H p.2 F1 H1 → PostS K g F0 D (k p) → Q' p.1 H1) : tT K g e σ H Q' :=
  ⟨env, F, R.rel, bindS R h fun p v F1 H1 _ R1 S1 r1 h1 => r1 ▸ hk p F1 H1 R1 S1 h1⟩
/-- a name takes it -/
theorem store_ok1 {Hs : Hp} {x : Nat} {r : R} {v : V} (R : RelS K g F0 env F σ H) (r1 : RelR K g.c Hs env F σ H r v) (hs : ∀ a, Hs a = none → g.H0 a = none) (e : store x r env = some env') :
    ∃ F', Sub F F' ∧ RelS K g F0 env' F' (σ.set x (some v)) H := by
  unfold store at e
  split at e
  · rename_i hx
    split at e
    · cases e
    · cases r with
      | val d =>
        cases e
        exact ⟨F, Sub.refl _, R.rel.store hx r1, R.sub, R.bk⟩
      | tmp d =>
        cases e
        obtain ⟨a, o, rfl, h1, h2, h3, h4, h5⟩ := r1
        exact ⟨F, Sub.refl _, R.rel.storeO hx h1 h2 h3 (hs a h4) (fun j _ hm he => h5 ⟨j, hm, he⟩), R.sub, R.bk⟩
      | var i =>
        cases q : asVal (.var i) env with
        | none => simp only [q] at e; cases e
        | some p =>
          simp only [q] at e
          cases e
          obtain ⟨d, env2⟩ := p
          obtain ⟨F', R', S', rep, _⟩ := Rel.asVal' (Hs := H) R.rel (Stp.refl) (r := .var i) (v := v) r1 q
          have hx2 : x < env2.length := by rw [R'.len, ← R.rel.len]; exact hx
          have R2 := R.step S' R'
          exact ⟨F', S'.fsub, R2.rel.store hx2 rep, R2.sub, R2.bk⟩
  · cases e
theorem resolve_ok {envs : Env} {Fs Hs : Hp} : ∀ {rs rs' : List Ev.R} {vs : List V} {env env' : Env} {F : Hp}, RelG K g env F σ H → Stp σ envs Fs Hs env F H → RelI K g.c Hs env F σ H rs vs → resolve rs env = some (rs', env') →
    ∃ F', RelG K g env' F' σ H ∧ Stp σ envs Fs Hs env' F' H ∧ (∀ r v, RelR K g.c Hs env F σ H r v → RelR K g.c Hs env' F' σ H r v) ∧ RelI K g.c Hs env' F' σ H rs' vs ∧ (∀ r ∈ rs', ∀ i, r ≠ .var i) ∧ ∀ (i : Nat) (d : Ev.D), rs'[i]? = some (.tmp d) → rs[i]? = some (.tmp d)
  | [], rs', vs, env, env', F, R, S, I, e => by
    cases e
    exact ⟨F, R, S, fun _ _ h => h, I, fun _ h => (nomatch h), fun i d h => by simp at h⟩
  | r :: rs, rs', vs, env, env', F, R, S, I, e => by
    cases vs with
    | nil => have := I.len; simp at this
    | cons v vs =>
      -- the rest, the head taken as r'
      have plain : ∀ (r1 : Ev.R) (env1 : Env) (F1 : Hp), (∀ i, r1 ≠ .var i) → (∀ d, r1 = .tmp d → r = .tmp d) → RelG K g env1 F1 σ H → Stp σ envs Fs Hs env1 F1 H → (∀ r v, RelR K g.c Hs env F σ H r v → RelR K g.c Hs env1 F1 σ H r v) → RelR K g.c Hs env1 F1 σ H r1 v →
          (resolve rs env1).map (fun q => (r1 :: q.1, q.2)) = some (rs', env') → ∃ F', RelG K g env' F' σ H ∧ Stp σ envs Fs Hs env' F' H ∧ (∀ r v, RelR K g.c Hs env F σ H r v → RelR K g.c Hs env' F' σ H r v) ∧ RelI K g.c Hs env' F' σ H rs' (v :: vs) ∧ (∀ r ∈ rs', ∀ i, r ≠ .var i) ∧ ∀ (i : Nat) (d : Ev.D), rs'[i]? = some (.tmp d) → (r :: rs)[i]? = some (.tmp d) := by
        intro r1 env1 F1 nv ht R1 S1 kp h1 e
        cases q : resolve rs env1 with
        | none => rw [q] at e; cases e
        | some z =>
          rw [q] at e
          cases e
          obtain ⟨F', R', S', k1, I', n', t'⟩ := resolve_ok R1 S1 (⟨I.tail.len, fun i r v a b => kp r v (I.tail.get i r v a b), I.tail.dis⟩ : RelI K g.c Hs env1 F1 σ H rs vs) q
          have old : ∀ (i : Nat) (d : Ev.D), (r1 :: z.1)[i]? = some (.tmp d) → (r :: rs)[i]? = some (.tmp d) := fun i d h => by
            cases i with
            | zero => simp at h; simp [ht d h]
            | succ i => simpa using t' i d (by simpa using h)
          refine ⟨F', R', S', fun r v h => k1 r v (kp r v h), ⟨by simp [I'.len], fun i r' v' h1' h2 => ?_, fun i j d d' w w' hij h1 h2 h3 h4 => I.dis i j d d' w w' hij (old i d h1) (old j d' h2) h3 h4⟩, fun r' hr => ?_, old⟩
          · cases i with
            | zero => simp at h1' h2; subst h1' h2; exact k1 _ _ h1
            | succ i => exact I'.get i r' v' (by simpa using h1') (by simpa using h2)
          · rcases List.mem_cons.mp hr with h | h
            · subst h; exact nv
            · exact n' r' h
      cases r with
      | val d => exact plain (.val d) env F (fun i h => by cases h) (fun d h => by cases h) R S (fun _ _ h => h) I.head e
      | tmp d => exact plain (.tmp d) env F (fun i h => by cases h) (fun d h => h) R S (fun _ _ h => h) I.head e
      | var i =>
        have e' : ((asVal (.var i) env).bind fun p => (resolve rs p.2).map fun q => (Ev.R.val p.1 :: q.1, q.2)) = some (rs', env') := e
        cases q : asVal (.var i) env with
        | none => rw [q] at e'; cases e'
        | some p =>
          rw [q] at e'
          simp only [Option.bind_some] at e'
          obtain ⟨d, env1⟩ := p
          obtain ⟨F1, R1, S1, rep, _, oth, _⟩ := Rel.asVal' R S I.head q
          exact plain (.val d) env1 F1 (fun i h => by cases h) (fun d h => by cases h) R1 S1 (fun r v h => oth r v h fun _ _ z => by cases z) rep e'
def setAll (σ : L2.St) : List Nat → List V → L2.St
  | x :: xs, v :: vs => setAll (σ.set x (some v)) xs vs
  | _, _ => σ
theorem stores_ok {Hs : Hp} (hs : ∀ a, Hs a = none → g.H0 a = none) : ∀ {xs : List Nat} {rs : List Ev.R} {vs : List V} {env env' : Env} {σ : L2.St}, RelS K g F0 env F σ H → RelI K g.c Hs env F σ H rs vs → (∀ r ∈ rs, ∀ i, r ≠ .var i) → stores xs rs env = some env' →
    RelS K g F0 env' F (setAll σ xs vs) H
  | [], [], vs, env, env', σ, R, I, nv, e => by cases e; cases vs <;> exact R
  | x :: xs, r :: rs, vs, env, env', σ, R, I, nv, e => by
    cases vs with
    | nil => have := I.len; simp at this
    | cons v vs =>
      have e' : ((store x r env).bind fun e1 => stores xs rs e1) = some env' := e
      cases q : store x r env with
      | none => rw [q] at e'; cases e'
      | some env1 =>
        rw [q] at e'
        have hx : x < env.length := by
          unfold store at q
          split at q
          · assumption
          · cases q
        have R1 : RelS K g F0 env1 F (σ.set x (some v)) H ∧ ∀ a, Owned env1 (σ.set x (some v)) a → Owned env σ a ∨ ∃ d, r = .tmp d ∧ v = .ref a := by
          unfold store at q
          rw [if_pos hx] at q
          split at q
          · cases q
          · cases r with
            | var i => exact absurd rfl (nv _ (List.mem_cons_self ..) i)
            | val d =>
              cases q
              refine ⟨⟨R.rel.store hx I.head, R.sub, R.bk⟩, fun a ⟨j, m1, m2⟩ => .inl ⟨j, ?_⟩⟩
              rw [Env.at_set hx] at m1
              by_cases z : x = j
              · rw [if_pos z] at m1; cases m1
              · rw [if_neg z] at m1; rw [List.getElem?_set_ne z] at m2; exact ⟨m1, m2⟩
            | tmp d =>
              cases q
              obtain ⟨a, o, rfl, h1, h2, h3, h4, h5⟩ := I.head
              refine ⟨⟨R.rel.storeO hx h1 h2 h3 (hs a h4) (fun j _ hm he => h5 ⟨j, hm, he⟩), R.sub, R.bk⟩, fun b ⟨j, m1, m2⟩ => ?_⟩
              rw [Env.at_set hx] at m1
              by_cases z : x = j
              · subst z
                rw [List.getElem?_set_self (R.rel.len ▸ hx)] at m2
                cases m2
                exact .inr ⟨d, rfl, rfl⟩
              · rw [if_neg z] at m1; rw [List.getElem?_set_ne z] at m2; exact .inl ⟨j, m1, m2⟩
        show RelS K g F0 env' F (setAll (σ.set x (some v)) xs vs) H
        refine stores_ok hs R1.1 ⟨I.tail.len, fun i r' v' h1 h2 => ?_, I.tail.dis⟩ (fun r' hr => nv r' (List.mem_cons_of_mem _ hr)) e'
        have old := I.tail.get i r' v' h1 h2
        cases r' with
        | val d => exact old
        | var i => exact absurd rfl (nv _ (List.mem_cons_of_mem _ (List.mem_of_getElem? h1)) i)
        | tmp d =>
          obtain ⟨a, o, rfl, k1, k2, k3, k4, k5⟩ := old
          refine ⟨a, o, rfl, k1, k2, k3, k4, fun z => ?_⟩
          rcases R1.2 a z with z | ⟨d', rfl, rfl⟩
          · exact k5 z
          · exact I.dis 0 (i + 1) d' d _ _ (by omega) rfl (by simpa using h1) rfl (by simpa using h2) rfl
  | [], _ :: _, _, _, _, _, _, _, _, e => by cases e
  | _ :: _, [], _, _, _, _, _, _, _, e => by cases e
end
end Ev
namespace Ev
open PySem PySem.Spec PyProof.Rows L2
section
variable {X : Cx} {g : Gh} {ck : Ck} {k : Nat} {pos pos' p : Pos}
theorem Good.loc (G : Good X g ck k) {x : Str} (h : ck.st x = true) : Loc X.env.scope x ∧ (X.fn x = true ∨ X.env.scope.names.lookup x = some .local) := by
  have q := G.st x h
  rw [← G.sc] at q
  exact q
/-! ### blocks -/
theorem ss_nil : PSs X [] (tSs X.K g .nil) := PSs.mono pss_nil fun D σ H ⟨F0, env, F, R, h⟩ => h σ F H R
theorem ss_cons {s : S} {r : Ss} {s' : Stmt} {r' : List Stmt} (h1 : PS X s' (tS X.K g s)) (h2 : PSs X r' (tSs X.K g r)) : PSs X (s' :: r') (tSs X.K g (.cons s r)) := by
  refine PSs.mono (pss_cons h1 h2) fun D σ H ⟨F0, env, F, R, h⟩ => ⟨F0, env, F, R, ?_⟩
  have h' : PostS X.K g F0 D ((evS g s env).bind fun f => match f with
    | .nx e1 => evSs g r e1
    | fl => .ok fl) := h
  cases e : evS g s env with
  | bad => rw [e] at h'; exact h'.elim
  | exc _ _ => rw [e] at h'; exact h'
  | ok f =>
    rw [e] at h'
    cases f with
    | nx e1 => exact fun σ' F' H' R' => ⟨F0, e1, F', R', h'⟩
    | ret r e1 => exact h'
    | brk e1 => exact h'
    | ct e1 => exact h'
/-! ### small statements -/
theorem s_pass : PS X (.Pass pos) (tS X.K g .pass) := PS.mono ps_pass fun D σ H ⟨F0, env, F, R, h⟩ => h σ F H R
theorem s_cont : PS X (.Continue pos) (tS X.K g .cont) := PS.mono ps_continue fun D σ H ⟨F0, env, F, R, h⟩ => h σ F H R
theorem s_brk : PS X (.Break pos) (tS X.K g .brk) := PS.mono ps_break fun D σ H ⟨F0, env, F, R, h⟩ => h σ F H R
theorem s_never {st : Stmt} : PS X st (tS X.K g .never) := PS.mono ps_never fun D σ H ⟨F0, env, F, R, h⟩ => h
theorem s_doc {x j pos pos'} : PS X (.Expr (.Constant (.str x) j pos) pos') (tS X.K g .pass) := PS.mono ps_doc fun D σ H ⟨F0, env, F, R, h⟩ => h σ F H R
theorem RelR.back {K : PySem.W.Frag} {c : RC} {env : Env} {F H Hs H0 : Hp} {σ : L2.St} {r : R} {v : V} (h : RelR K c Hs env F σ H r v) (hs : ∀ a, Hs a = none → H0 a = none) : RelR K c H0 env F σ H r v := by
  cases r with
  | val d => exact h
  | var i => exact h
  | tmp d => obtain ⟨a, o, h1, h2, h3, h4, h5, h6⟩ := h; exact ⟨a, o, h1, h2, h3, h4, hs a h5, h6⟩
theorem s_ret {e : E} {e' : Expr} (he : PE X e' (tE X.K g e)) : PS X (.Return (some e') pos) (tS X.K g (.ret e)) :=
  PS.mono (ps_ret he) fun D σ H ⟨F0, env, F, R, h⟩ => tE_s (D := D) (k := fun p => .ok (.ret p.1 p.2)) R h fun p v F1 H1 R1 S1 r1 h1 => h1 σ v F1 H1 R1 (r1.back fun a z => R.none z)
theorem s_retN : PS X (.Return none pos) (tS X.K g .retN) := PS.mono ps_retN fun D σ H ⟨F0, env, F, R, h⟩ => h σ .non F H R .non
theorem s_expr {e : E} {e' : Expr} (he : PE X e' (tE X.K g e)) (hs : swapsWith e' none pos.line X.env = pure false) : PS X (.Expr e' pos) (tS X.K g (.expr e)) :=
  PS.mono (ps_expr he hs) fun D σ H ⟨F0, env, F, R, h⟩ => tE_s (D := D) (k := fun p => .ok (.nx p.2)) R h fun p v F1 H1 R1 S1 r1 h1 => h1 σ F1 H1 R1
theorem set_k {e : E} {i : Nat} {D : Ends} {σ : L2.St} {H : Hp} (h : tS X.K g (.asg (.one i) e) D σ H) : tE X.K g e σ H fun v H1 => D.nx (σ.set i (some v)) H1 := by
  obtain ⟨F0, env, F, R, h⟩ := h
  refine tE_s (D := D) (k := fun p => (Res.of (store i p.1 p.2)).bind fun e1 => .ok (.nx e1)) R h fun p v F1 H1 R1 S1 r1 h1 => ?_
  obtain ⟨e1, ee, h2⟩ := ofS h1
  obtain ⟨F', _, R2⟩ := store_ok1 R1 r1 (fun a z => R.none z) ee
  exact h2 _ F' H1 R2
theorem s_set {e : E} {e' : Expr} {i : Nat} {x : Str} (G : Good X g ck k) (hi : ck.N[i]? = some x) (hst : ck.st x = true) (he : PE X e' (tE X.K g e)) (hs : swapsWith e' (some (.Name x pos')) pos.line X.env = pure false) :
    PS X (.Assign [.Name x pos'] e' pos) (tS X.K g (.asg (.one i) e)) :=
  PS.mono (ps_set (by rw [G.N]; exact G.nd) (by rw [G.N]; exact hi) (G.loc hst).1 he hs (G.loc hst).2) fun D σ H h => set_k h
theorem i_or {it : Ev.It} {tg' iter' : Expr} (hit : PI X tg' iter' (tI X.K g it)) (hv : ∀ i, it = .seq (.sl i) → PE X iter' (tVar i)) : PI X tg' iter' (fun σ H R => tHid X.K g it σ H R ∨ tI X.K g it σ H R) := ⟨fun pins s σ H R I h => by
  rcases h with h | h
  · obtain ⟨env, F, hh, a, vs, R1, eh, ga, ha, q⟩ := h
    obtain ⟨e, _⟩ := hidE_inv eh
    exact (pi_list (hv _ e)).run pins s σ H R I ⟨.ref a, ga, a, rfl, ⟨vs, .inl (.inl ha)⟩, q⟩
  · exact hit.run pins s σ H R I h⟩
theorem s_setLc {elt : E} {tg : Tg} {it : Ev.It} {cond : Option E} {own : List (Str × Nat)} {elt' tg' iter' : Expr} {ifs : List Expr} {scope : Scope} {cpos : Pos} {i : Nat} {x : Str} (G : Good X g ck k) (hi : ck.N[i]? = some x) (hl : ck.sc.names.lookup x = some .local)
    (hsw : swapsWith (.ListComp elt' [⟨tg', iter', ifs, 0⟩] scope cpos) (some (.Name x pos')) pos.line X.env = pure true) (hit : PI X tg' iter' (tI X.K g it)) (hv : ∀ i, it = .seq (.sl i) → PE X iter' (tVar i)) (ok : blkC ck.N ck.sc scope own = true) (hs : ∀ i ∈ slotsT tg, i ∈ own.map (·.2))
    (hg : ∀ (s : Shared) (H : Hp) (C : Addr) (cl : List (Str × Addr)) (fp : List Addr), PG (X.blk s H scope (compEnvC scope cl C X.env) fp) tg' (gD X.K tg)) (ht : ∀ (s : Shared) (H : Hp) (C : Addr) (cl : List (Str × Addr)) (fp : List Addr), PTs (X.blk s H scope (compEnvC scope cl C X.env) fp) ifs (tCond X.K g.deaf cond))
    (he : ∀ (s : Shared) (H : Hp) (C : Addr) (cl : List (Str × Addr)) (fp : List Addr), PE (X.blk s H scope (compEnvC scope cl C X.env) fp) elt' (tE X.K g.deaf elt)) (hf : ∀ x, foldedSetIterable iter' X.env x = pure x) :
    PS X (.Assign [.Name x pos'] (.ListComp elt' [⟨tg', iter', ifs, 0⟩] scope cpos) pos) (tS X.K g (.asg (.one i) (.comp elt tg it cond (own.map (·.2))))) :=
  PS.mono (ps_setLc G.calm (by rw [G.N]; exact G.nd) (by rw [G.N]; exact hi) (by rw [G.sc]; exact hl) hsw (i_or hit hv) (by rw [G.N, G.sc]; exact blkOk_by ok) hg ht he hf) fun D σ H h => comp_main hs σ H _ (set_k h)
theorem r_comp {elt : E} {tg : Tg} {it : Ev.It} {cond : Option E} {own : List (Str × Nat)} {elt' tg' iter' : Expr} {ifs : List Expr} {scope : Scope} {cpos : Pos} (G : Good X g ck k)
    (hit : PI X tg' iter' (tI X.K g it)) (hv : ∀ i, it = .seq (.sl i) → PE X iter' (tVar i)) (ok : blkC ck.N ck.sc scope own = true) (hs : ∀ i ∈ slotsT tg, i ∈ own.map (·.2))
    (hg : ∀ (s : Shared) (H : Hp) (C : Addr) (cl : List (Str × Addr)) (fp : List Addr), PG (X.blk s H scope (compEnvC scope cl C X.env) fp) tg' (gD X.K tg)) (ht : ∀ (s : Shared) (H : Hp) (C : Addr) (cl : List (Str × Addr)) (fp : List Addr), PTs (X.blk s H scope (compEnvC scope cl C X.env) fp) ifs (tCond X.K g.deaf cond))
    (he : ∀ (s : Shared) (H : Hp) (C : Addr) (cl : List (Str × Addr)) (fp : List Addr), PE (X.blk s H scope (compEnvC scope cl C X.env) fp) elt' (tE X.K g.deaf elt)) (hf : ∀ x, foldedSetIterable iter' X.env x = pure x) :
    PE X (.ListComp elt' [⟨tg', iter', ifs, 0⟩] scope cpos) (tE X.K g (.comp elt tg it cond (own.map (·.2)))) :=
  PE.mono (pe_lc G.calm (by rw [G.N]; exact G.nd) (i_or hit hv) (by rw [G.N, G.sc]; exact blkOk_by ok) hg ht he hf) (comp_main hs)
theorem s_asgT {e : E} {e' tg' : Expr} {ts : List Tg} (he : PE X e' (tE X.K g e)) (hg : PG X tg' (gD X.K (.tup ts))) (hs : swapsWithSole [tg'] e' pos.line X.env = pure false) (hw : swappedStores [tg'] e' X.env = pure none) (h1 : (assignEach [tg'] X.env).map (·.2) = [assign tg' X.env]) :
    PS X (.Assign [tg'] e' pos) (tS X.K g (.asg (.tup ts) e)) :=
  PS.mono (ps_asg he hg hs hw h1) fun D σ H ⟨F0, env, F, R, h⟩ => tE_sv (D := D) (k := fun z => (Res.of (assignT (.tup ts) z.1 z.2)).bind fun e1 => .ok (.nx e1)) R h fun z v F1 H1 R1 S1 rep h1 => by
    obtain ⟨e1, ee, h2⟩ := ofS h1
    exact gD_ok (.tup ts) z.1 v z.2 e1 σ _ R1.rel rep ee fun σ2 R2 A => h2 σ2 F1 H1 ⟨R2, R1.sub, R1.bk⟩
theorem par_k {xs : List Nat} {es : Es} {D : Ends} {σ : L2.St} {H : Hp} {Q : List V → Hp → Prop} (h : tS X.K g (.par xs es) D σ H) (hq : ∀ vs H1, vs.length = xs.length → D.nx (setAll σ xs vs) H1 → Q vs H1) : tRs X.K g es σ H Q := by
  obtain ⟨F0, env, F, R, h⟩ := h
  have h' : PostS X.K g F0 D ((evalRs g.T.chg g.T.gval g.call es env).bind fun p => (Res.of (resolve p.1 p.2)).bind fun q => (Res.of (stores xs q.1 q.2)).bind fun e1 => .ok (.nx e1)) := h
  refine ⟨env, F, R.rel, bindS R h' fun p vs F1 H1 _ R1 S1 r1 h1 => ?_⟩
  obtain ⟨q, e1, h2⟩ := ofS h1
  obtain ⟨e2, e3, h3⟩ := ofS h2
  obtain ⟨rs', env2⟩ := q
  obtain ⟨F2, R2, S2, _, I2, nv, _⟩ := resolve_ok R1.rel S1 r1.relI e1
  have R2' := R.step S2 R2
  have R3 := stores_ok (fun a z => R.none z) R2' I2 nv e3
  have sl : ∀ (xs : List Nat) (rs : List Ev.R) (env e2 : Env), stores xs rs env = some e2 → rs.length = xs.length := by
    intro xs
    induction xs with
    | nil => intro rs env e2 h; cases rs with
             | nil => rfl
             | cons a b => cases h
    | cons x xs ih => intro rs env e2 h; cases rs with
                      | nil => cases h
                      | cons a b =>
                        have h' : ((store x a env).bind fun e1 => stores xs b e1) = some e2 := h
                        cases q : store x a env with
                        | none => rw [q] at h'; cases h'
                        | some e1 => rw [q] at h'; simp [ih b e1 e2 h']
  exact hq vs H1 (by rw [← I2.len]; exact sl xs rs' env2 e2 e3) (h3 _ F2 H1 R3)
theorem RelS.more {K : PySem.W.Frag} {env : Env} {F F' H H' F0 : Hp} {σ : L2.St} (R : RelS K g F0 env F σ H) (G : Grow F H F' H') : RelS K g F0 env F' σ H' :=
  ⟨R.rel.more G.f G.h G.s G.g, R.sub.trans G.f, fun a o e => by
    rcases G.g a o e with z | z
    · exact R.bk a o z
    · exact .inr (.inl (R.none z))⟩
/-- .. unpacked from a new tuple -/
theorem par_kT {xs : List Nat} {es : Es} {D : Ends} {σ : L2.St} {H : Hp} (h : tS X.K g (.par xs es) D σ H) : tRs X.K g es σ H fun vs H1 => vs.length = xs.length ∧ ∀ T, H1 T = none → D.nx (setAll σ xs vs) (upd H1 T (.tup vs)) := by
  obtain ⟨F0, env, F, R, h⟩ := h
  have h' : PostS X.K g F0 D ((evalRs g.T.chg g.T.gval g.call es env).bind fun p => (Res.of (resolve p.1 p.2)).bind fun q => (Res.of (stores xs q.1 q.2)).bind fun e1 => .ok (.nx e1)) := h
  refine ⟨env, F, R.rel, bindS R h' fun p vs F1 H1 _ R1 S1 r1 h1 => ?_⟩
  obtain ⟨q, e1, h2⟩ := ofS h1
  obtain ⟨e2, e3, h3⟩ := ofS h2
  obtain ⟨rs', env2⟩ := q
  obtain ⟨F2, R2, S2, _, I2, nv, _⟩ := resolve_ok R1.rel S1 r1.relI e1
  have R2' := R.step S2 R2
  have sl : ∀ (xs : List Nat) (rs : List Ev.R) (env e2 : Env), stores xs rs env = some e2 → rs.length = xs.length := by
    intro xs
    induction xs with
    | nil => intro rs env e2 h; cases rs with
             | nil => rfl
             | cons a b => cases h
    | cons x xs ih => intro rs env e2 h; cases rs with
                      | nil => cases h
                      | cons a b =>
                        have h' : ((store x a env).bind fun e1 => stores xs b e1) = some e2 := h
                        cases q : store x a env with
                        | none => rw [q] at h'; cases h'
                        | some e1 => rw [q] at h'; simp [ih b e1 e2 h']
  refine ⟨by rw [← I2.len]; exact sl xs rs' env2 e2 e3, fun T hT => ?_⟩
  have up : Sub H1 (upd H1 T (.tup vs)) := sub_upd hT
  have R3 : RelS X.K g F0 env2 F2 σ (upd H1 T (.tup vs)) := R2'.more ⟨Sub.refl _, up, R2'.rel.sub.trans up, fun _ _ z => .inl z⟩
  have I3 : RelI X.K g.c H env2 F2 σ (upd H1 T (.tup vs)) rs' vs := ⟨I2.len, fun i r v a b => by
    have := I2.get i r v a b
    cases r with
    | val d => exact this
    | var i => exact this
    | tmp d => obtain ⟨a, o, k1, k2, k3⟩ := this; exact ⟨a, o, k1, up _ _ k2, k3⟩, I2.dis⟩
  exact h3 _ F2 _ (stores_ok (fun a z => R.none z) R3 I3 nv e3)
theorem gDs_names {K : PySem.W.Frag} : ∀ (xs : List Nat) (vs : List V) (σ : L2.St) (H : Hp) (Q : L2.St → Hp → Prop), vs.length = xs.length → Q (setAll σ xs vs) H → gDs K (xs.map .one) vs σ H Q
  | [], [], σ, H, Q, _, q => ⟨rfl, q⟩
  | x :: xs, v :: vs, σ, H, Q, hl, q => ⟨v, vs, rfl, gDs_names xs vs _ H Q (by simpa using hl) q⟩
  | [], _ :: _, _, _, _, hl, _ => by simp at hl
  | _ :: _, [], _, _, _, hl, _ => by simp at hl
theorem s_parT {xs : List Nat} {es : Es} {ts' vs' : List Expr} {kt k2 : Nat} {pt p2 : Pos} (G : Good X g ck k) (ha : PA X vs' (tRs X.K g es)) (hl : es.len ≤ 1000) (hvl : es.len = xs.length) (hg : PG X (.Tuple ts' kt pt) (gD X.K (.tup (xs.map .one)))) (hw : swappedStores [.Tuple ts' kt pt] (.Tuple vs' k2 p2) X.env = pure none) :
    PS X (.Assign [.Tuple ts' kt pt] (.Tuple vs' k2 p2) pos) (tS X.K g (.par xs es)) := by
  refine PS.mono (ps_asg (pe_tup ha) hg rfl hw rfl) fun D σ H h => ?_
  obtain ⟨env, F, R, q⟩ := par_kT h
  refine ⟨env, F, R, ?_⟩
  cases e : evalRs g.T.chg g.T.gval g.call es env with
  | bad => rw [e] at q; exact q
  | exc _ _ => rw [e] at q; exact q
  | ok p =>
    rw [e] at q
    intro vs F1 H1 R1 S1 r1
    obtain ⟨h1, h2⟩ := q vs F1 H1 R1 S1 r1
    refine ⟨by rw [h1, ← hvl, sizeLine_eq]; omega, fun T hT => ?_⟩
    refine ⟨T, vs, rfl, SqT.of upd_same, by rw [h1]; simp, ?_⟩
    exact gDs_names xs vs σ _ _ h1 (h2 T hT)
theorem s_par {es : Es} {a b : Expr} {i j : Nat} {x y : Str} {px py pt : Pos} {kt k2 pt2} (G : Good X g ck k) (hi : ck.N[i]? = some x) (hj : ck.N[j]? = some y) (hij : i ≠ j) (hx : ck.sc.names.lookup x = some .local) (hy : ck.sc.names.lookup y = some .local)
    (ha : PA X [a, b] (tRs X.K g es)) (hw : swappedStores [.Tuple [.Name x px, .Name y py] kt pt] (.Tuple [a, b] k2 pt2) X.env = pure (some [x, y])) :
    PS X (.Assign [.Tuple [.Name x px, .Name y py] kt pt] (.Tuple [a, b] k2 pt2) pos) (tS X.K g (.par [i, j] es)) :=
  PS.mono (ps_par G.calm (by rw [G.N]; exact G.nd) (by rw [G.N]; exact hi) (by rw [G.N]; exact hj) hij (by rw [G.sc]; exact hx) (by rw [G.sc]; exact hy) ha hw) fun D σ H h => par_k h fun vs H1 hl q => by
    obtain ⟨v, w, rfl⟩ : ∃ v w, vs = [v, w] := by
      match vs, hl with
      | [v, w], _ => exact ⟨v, w, rfl⟩
    exact ⟨v, w, rfl, q⟩
theorem s_par3 {es : Es} {a b c : Expr} {i j l : Nat} {x y z : Str} {px py pz pt : Pos} {kt k2 pt2} (G : Good X g ck k) (hi : ck.N[i]? = some x) (hj : ck.N[j]? = some y) (hl : ck.N[l]? = some z) (hij : i ≠ j) (hil : i ≠ l) (hjl : j ≠ l) (hx : ck.sc.names.lookup x = some .local) (hy : ck.sc.names.lookup y = some .local) (hz : ck.sc.names.lookup z = some .local)
    (ha : PA X [a, b, c] (tRs X.K g es)) (hw : swappedStores [.Tuple [.Name x px, .Name y py, .Name z pz] kt pt] (.Tuple [a, b, c] k2 pt2) X.env = pure (some [x, y, z])) :
    PS X (.Assign [.Tuple [.Name x px, .Name y py, .Name z pz] kt pt] (.Tuple [a, b, c] k2 pt2) pos) (tS X.K g (.par [i, j, l] es)) :=
  PS.mono (ps_par3 G.calm (by rw [G.N]; exact G.nd) (by rw [G.N]; exact hi) (by rw [G.N]; exact hj) (by rw [G.N]; exact hl) hij hil hjl (by rw [G.sc]; exact hx) (by rw [G.sc]; exact hy) (by rw [G.sc]; exact hz) ha hw) fun D σ H h => par_k h fun vs H1 hl q => by
    obtain ⟨u, v, w, rfl⟩ : ∃ u v w, vs = [u, v, w] := by
      match vs, hl with
      | [u, v, w], _ => exact ⟨u, v, w, rfl⟩
    exact ⟨u, v, w, rfl, q⟩
theorem s_if {c : E} {a b : Ss} {c' : Expr} {a' b' : List Stmt} (hc : PT X c' (tT X.K g c)) (ha : PSs X a' (tSs X.K g a)) (hb : PSs X b' (tSs X.K g b)) : PS X (.If c' a' b' pos) (tS X.K g (.iff c a b)) :=
  PS.mono (ps_if hc ha hb) fun D σ H ⟨F0, env, F, R, h⟩ => tT_s (D := D) (k := fun p => if p.1 then evSs g a p.2 else evSs g b p.2) R h fun p F1 H1 R1 S1 h1 => by
    cases e : p.1 with
    | true => rw [if_pos rfl]; rw [e, if_pos rfl] at h1; exact ⟨F0, p.2, F1, R1, h1⟩
    | false => rw [if_neg (by simp)]; rw [e, if_neg (by simp)] at h1; exact ⟨F0, p.2, F1, R1, h1⟩
/-! ### loops -/
/-- what stood still at a later place -/
theorem RelS.up {K : PySem.W.Frag} {env env1 : Env} {F F1 F0 H H1 : Hp} {σ σ1 : L2.St} (R1 : RelS K g F0 env1 F1 σ1 H1) (R : RelS K g F1 env F σ H) : RelS K g F0 env F σ H :=
  ⟨R.rel, R1.sub.trans R.sub, fun a o e => by
    rcases R.bk a o e with z | z
    · exact R1.bk a o z
    · exact .inr z⟩
/-- a turn of a loop -/
theorem turn_k {K : PySem.W.Frag} {D : Ends} {gone : List Nat} {N : L2.St → Hp → Prop} {res : Res Fl} {nxt : Env → Res Fl} {F0 F1 H1 : Hp} {env1 : Env} {σ1 : L2.St} (R1 : RelS K g F0 env1 F1 σ1 H1)
    (hN : ∀ e σ F H, RelS K g F1 e F σ H → PostS K g F0 D (nxt e) → N σ H)
    (h : PostS K g F0 D (res.bind fun f => match f with
      | .nx e2 => nxt (wipeE e2 gone)
      | .ct e2 => nxt (wipeE e2 gone)
      | .brk e2 => .ok (.nx (wipeE e2 gone))
      | .ret r e2 => .ok (.ret r e2))) : PostS K g F1 { D with nx := N, ct := N, bk := D.nx } res := by
  cases res with
  | bad => exact h.elim
  | exc _ _ => exact fun σ dx w F' H' s1 s2 kp gr => h σ dx w F' H' (R1.sub.trans s1) s2 kp (fun a o e => (gr a o e).elim (fun z => R1.bk a o z) .inr)
  | ok f =>
    cases f with
    | nx e2 => exact fun σ' F' H' R' => hN _ σ' F' H' (R'.forget gone) h
    | ct e2 => exact fun σ' F' H' R' => hN _ σ' F' H' (R'.forget gone) h
    | brk e2 => exact fun σ' F' H' R' => h σ' F' H' ((R1.up R').forget gone)
    | ret r e2 => exact fun σ' v F' H' R' => h σ' v F' H' (R1.up R')
theorem RelS.refl {K : PySem.W.Frag} {env : Env} {F F0 H : Hp} {σ : L2.St} (R : RelS K g F0 env F σ H) : RelS K g F env F σ H := ⟨R.rel, Sub.refl _, fun _ _ e => .inl e⟩
theorem s_for {tg : Tg} {it : Ev.It} {body : Ss} {gone : List Nat} {tg' iter' : Expr} {body' : List Stmt} (G : Good X g ck k) (hp : PassesOwn (model X.prog X.w) X.A X.env X.xe) (hi : PI X tg' iter' (tI X.K g it)) (hg : PG X tg' (gD X.K tg)) (hb : PSs X body' (tSs X.K g body))
    (hs : ∀ x, foldedSetIterable iter' X.env x = pure x) : PS X (.For tg' iter' body' [] pos) (tS X.K g (.for_ tg it body gone)) := by
  refine PS.mono (ps_for hp G.calm hi hg hb hs) fun D σ H ⟨F0, env, F, R, h⟩ => ?_
  have h' : PostS X.K g F0 D ((evI g it env).bind fun p => forL tg (evSs g body) gone p.1 (wipeE p.2 gone)) := h
  refine ⟨env, F, R.rel, bindS R h' fun q J F1 H1 _ R1 S1 wk h1 => ?_⟩
  obtain ⟨Y, walk, yy⟩ := wk
  refine for_it walk (fun i σ2 Hc => ∃ envi Fi, RelS X.K g F1 envi Fi σ2 Hc ∧ PostS X.K g F0 D (forL tg (evSs g body) gone (q.1.drop i) envi)) ?_ ?_ ?_ ?_
  · exact ⟨_, F1, R1.refl.forget gone, h1⟩
  · exact fun i σ2 Hc _ ⟨envi, Fi, Ri, _⟩ => Ri.sub.trans Ri.rel.sub
  · intro i x σ2 Hc H' hi' ⟨envi, Fi, Ri, hq⟩ hY
    obtain ⟨d, F', ed, gr, rep⟩ := yy i Hc x H' hi' hY Fi Ri.sub Ri.rel.sub
    have hdrop : q.1.drop i = d :: q.1.drop (i + 1) := by
      obtain ⟨hlt, e⟩ := List.getElem?_eq_some_iff.mp ed
      rw [List.drop_eq_getElem_cons hlt, e]
    rw [hdrop] at hq
    have hq' : PostS X.K g F0 D ((Res.of (assignT tg d envi)).bind fun e1 => (evSs g body e1).bind fun f => match f with
      | .nx e2 => forL tg (evSs g body) gone (q.1.drop (i + 1)) (wipeE e2 gone)
      | .ct e2 => forL tg (evSs g body) gone (q.1.drop (i + 1)) (wipeE e2 gone)
      | .brk e2 => .ok (.nx (wipeE e2 gone))
      | .ret r e2 => .ok (.ret r e2)) := hq
    obtain ⟨e1, ea, hq2⟩ := ofS hq'
    have R' := Ri.more gr
    exact gD_ok tg d x envi e1 σ2 _ R'.rel rep ea fun σ3 R3 A => ⟨F1, e1, F', ⟨R3, R'.sub, R'.bk⟩, turn_k (nxt := fun e => forL tg (evSs g body) gone (q.1.drop (i + 1)) e) R1 (fun e σ4 F4 H4 R4 hq => ⟨e, F4, R4, hq⟩) hq2⟩
  · intro σ2 Hn ⟨envi, Fi, Ri, hq⟩
    rw [List.drop_length] at hq
    exact hq σ2 Fi Hn (R1.up Ri)
theorem s_while {c : E} {body : Ss} {gone : List Nat} {c' : Expr} {body' : List Stmt} (hp : PassesOwn (model X.prog X.w) X.A X.env X.xe) (hc : PT X c' (tT X.K g c)) (hb : PSs X body' (tSs X.K g body)) : PS X (.While c' body' [] pos) (tS X.K g (.whl c body gone)) := by
  refine PS.mono (ps_while hp hc hb) fun D σ H ⟨F0, env, F, R, h⟩ => ?_
  refine ⟨fun n σ2 Hc => ∃ envi Fi, RelS X.K g F0 envi Fi σ2 Hc ∧ PostS X.K g F0 D (whlL (fun e => tst (ev g c e)) (evSs g body) gone n envi), ⟨FUEL, _, F, R.forget gone, h⟩, ?_⟩
  rintro n σ2 Hc ⟨envi, Fi, Ri, hq⟩
  cases n with
  | zero => exact hq.elim
  | succ n =>
    have hq' : PostS X.K g F0 D ((tst (ev g c envi)).bind fun p => if p.1 then (evSs g body p.2).bind fun f => match f with
      | .nx e2 => whlL (fun e => tst (ev g c e)) (evSs g body) gone n (wipeE e2 gone)
      | .ct e2 => whlL (fun e => tst (ev g c e)) (evSs g body) gone n (wipeE e2 gone)
      | .brk e2 => .ok (.nx (wipeE e2 gone))
      | .ret r e2 => .ok (.ret r e2)
      else .ok (.nx p.2)) := hq
    refine tT_s Ri hq' fun p F1 H1 R1 S1 h1 => ?_
    cases e : p.1 with
    | false =>
      rw [if_neg (by simp)]
      rw [e, if_neg (by simp)] at h1
      exact h1 σ2 F1 H1 R1
    | true =>
      rw [if_pos rfl]
      rw [e, if_pos rfl] at h1
      refine ⟨fun σ' H' => ∃ envi Fi, RelS X.K g F0 envi Fi σ' H' ∧ PostS X.K g F0 D (whlL (fun e => tst (ev g c e)) (evSs g body) gone n envi), fun σ' H' h => ⟨n, Nat.lt_succ_self n, h⟩, F1, p.2, F1, R1.refl, ?_⟩
      exact turn_k (nxt := fun e => whlL (fun e => tst (ev g c e)) (evSs g body) gone n e) R1 (fun e σ4 F4 H4 R4 hq => ⟨e, F4, R1.up R4, hq⟩) h1
/-! ### a list's item, an item more -/
theorem upd_rel {K : PySem.W.Frag} {F0 F H : Hp} {env : Env} {σ : L2.St} {x : Nat} {d d' : Ev.D} {a : Addr} {o : HO} (R : RelS K g F0 env F σ H) (hx : env.at x = .own d ∨ env.at x = .byr d) (hs : σ[x]? = some (some (.ref a))) (ho : RepO K g.c F d' o) :
    RelS K g F0 (env.set x ((env.at x).put d')) F σ (upd H a o) := by
  have hm : (env.at x).mine = true := by rcases hx with h | h <;> rw [h] <;> rfl
  obtain ⟨o0, h1, h3⟩ : ∃ o, H a = some o ∧ F a = none := by
    rcases hx with h | h
    · obtain ⟨b, o, k1, k2, k3, k4, _⟩ := R.rel.own x _ h
      rw [hs] at k1; cases k1; exact ⟨o, k2, k4⟩
    · obtain ⟨b, o, k1, k2, k3, k4, _⟩ := R.rel.byr x _ h
      rw [hs] at k1; cases k1; exact ⟨o, k2, k4⟩
  refine ⟨R.rel.after (Sub.refl _) (fun b u e => ?_) (some a) (fun b u e n => by rw [upd_ne (fun z => n (by rw [z]))]; exact e) (fun b u e => ?_) (fun b u e => .inl e) (some x) (some d') (fun i e => ?_) (fun e => nomatch e) rfl, R.sub, R.bk⟩
  · have : b ≠ a := fun z => by subst z; rw [h3] at e; cases e
    rw [upd_ne this]; exact R.rel.sub b u e
  · by_cases z : b = a
    · subst z; exact ⟨_, upd_same⟩
    · exact ⟨u, by rw [upd_ne z]; exact e⟩
  · cases e
    exact ⟨a, d', o, hm, hs, rfl, rfl, upd_same, ho, h3⟩
theorem s_app {e : E} {e' : Expr} {i : Nat} {x : Str} {apos cpos : Pos} (G : Good X g ck k) (hi : ck.N[i]? = some x) (hv : visB ck.sc x = true) (hn : okName x = true) (he : PE X e' (tE X.K g e)) (hs : starEach [e'] X.env = [(false, eval e' X.env)])
    (hline : (apos.endLine == cpos.line) = true) : PS X (.Expr (.Call (.Attribute (.Name x p) "append" apos) [e'] [] cpos) pos) (tS X.K g (.app i e)) := by
  have hx : PE X (.Name x p) (tVar i) := pe_var (by rw [G.N]; exact hi) (by rw [G.sc]; exact visB_ok hv) (okName_ok hn).1 (okName_ok hn).2
  have hm := pe_bm (r := rAppend) PySem.F.plainAttrs_list PySem.F.slot_list_append PySem.F.type_list_append mt_append hx (pa1 he hs) rfl (by rw [hs]; rfl) hline (by rw [hs]; rfl) (by rfl)
  refine PS.mono (ps_expr hm rfl) fun D σ H ⟨F0, env, F, R, h⟩ => ?_
  have h' : PostS X.K g F0 D (match env.at i with
    | .own (.lst _) => (ev g e env).bind fun p => (Res.of (asVal p.1 p.2)).bind fun z => (match z.2.at i with
      | .own (.lst ds) => if ds.length < LIM then .ok (.nx (z.2.set i (.own (.lst (ds ++ [z.1]))))) else .bad
      | _ => .bad)
    | _ => .bad) := h
  cases q : env.at i with
  | no => rw [q] at h'; exact h'.elim
  | val d => rw [q] at h'; exact h'.elim
  | byr d => rw [q] at h'; exact h'.elim
  | own d =>
    rw [q] at h'
    obtain ⟨a, o, g1, g2, g3, _⟩ := R.rel.own i d q
    rcases g3.two with ⟨ds0, vs0, rfl, rfl, _⟩ | ⟨ks0, ds0, kvs0, rfl, rfl, _⟩
    case inr => exact h'.elim
    refine ⟨_, g1, .inl ⟨rfl, vs0, SqL.of g2⟩, ?_⟩
    refine tE_sv R h' fun z v F1 H1 R1 S1 rep h1 => ?_
    cases q2 : z.2.at i with
    | no => rw [q2] at h1; exact h1.elim
    | val d => rw [q2] at h1; exact h1.elim
    | byr d => rw [q2] at h1; exact h1.elim
    | own d =>
      rw [q2] at h1
      obtain ⟨b, o, k1, k2, k3, _⟩ := R1.rel.own i d q2
      rw [g1] at k1; cases k1
      rcases k3.two with ⟨ds, vs, rfl, rfl, rl, ll⟩ | ⟨ks0, ds0, kvs0, rfl, rfl, _⟩
      case inr => exact h1.elim
      have h2 : PostS X.K g F0 D (if ds.length < LIM then .ok (.nx (z.2.set i (.own (.lst (ds ++ [z.1]))))) else .bad) := h1
      by_cases hl : ds.length < LIM
      · rw [if_pos hl] at h2
        refine ⟨a, vs, v, rfl, rfl, k2, by rw [← rl.length, LIM_eq]; exact hl, ?_⟩
        have := upd_rel (d' := .lst (ds ++ [z.1])) (o := .lst (vs ++ [v])) R1 (.inl q2) g1 ⟨rl.append (.cons rep .nil), by simp; omega⟩
        rw [q2] at this
        exact h2 σ F1 _ this
      · rw [if_neg hl] at h2; exact h2.elim
theorem sw_sub {v' o i : Expr} {ip : Pos} {l : Nat} {env : PySem.Env} : swapsWithSole [.Subscript o i ip] v' l env = pure false := by cases v' <;> rfl
theorem st_sub {v' o i : Expr} {ip : Pos} {env : PySem.Env} : swappedStores [.Subscript o i ip] v' env = pure none := by cases v' <;> rfl
/-- a list's item or a dict's value -/
def rSetB : TSet := fun o i v H Q => rSetL o i v H Q ∨ ∃ a H', o = .ref a ∧ DPut H a i v H' ∧ Q H'
theorem set_both (hu : X.A.units + 1 < cLine) : PSet X rSetB := by
  intro pins s σ H o i v ov iv u Q I ro ri rv h
  rcases h with h | ⟨a, H', rfl, g, q⟩
  · exact set_list pins s σ H o i v ov iv u Q I ro ri rv h
  · cases ro
    exact d_setItem hu I g ri rv fun s4 I4 => ⟨H', I4, q⟩
theorem dset_keys {kvs : List (Key × V)} {k : Key} {v : V} : (kvs.map fun kv => if kv.1 = k then (kv.1, v) else kv).map (·.1) = kvs.map (·.1) := by
  rw [List.map_map]
  refine List.map_congr_left fun p _ => ?_
  show (if p.1 = k then (p.1, v) else p).1 = p.1
  by_cases z : p.1 = k
  · rw [if_pos z]
  · rw [if_neg z]
theorem dset_vals {K : PySem.W.Frag} {c : RC} {F : Hp} {d : Ev.D} {v : V} (r : Rep K c F d v) (x : List Nat) : ∀ {ks : List (List Nat)} {ds : List Ev.D} {kvs : List (Key × V)}, kvs.map (·.1) = ks.map (fun x => (.inr ⟨x.toArray⟩ : Key)) → RepL K c F ds (kvs.map (·.2)) →
    RepL K c F (dSet x d ks ds) ((kvs.map fun kv => if kv.1 = (.inr ⟨x.toArray⟩ : Key) then (kv.1, v) else kv).map (·.2))
  | [], _, [], _, .nil => .nil
  | k :: ks, e :: ds, (kk, w) :: kvs, h, .cons r1 t => by
    simp only [List.map_cons, List.cons.injEq] at h
    obtain ⟨h1, h2⟩ := h
    have ih := dset_vals r x h2 t
    by_cases z : k = x
    · subst z
      have z2 : kk = (.inr ⟨k.toArray⟩ : Key) := h1
      simp only [List.map_cons, dSet, if_pos z2, if_true]
      exact .cons r ih
    · have z2 : ¬ kk = (.inr ⟨x.toArray⟩ : Key) := fun q => z (by rw [h1] at q; simpa using q)
      simp only [List.map_cons, dSet, if_neg z2, if_neg z]
      exact .cons r1 ih
  | [], _, _ :: _, h, _ => by simp at h
  | _ :: _, _, [], h, _ => by simp at h
theorem dk_put {K : PySem.W.Frag} {c : RC} {F : Hp} {d : Ev.D} {v : V} (r : Rep K c F d v) (x : List Nat) {ks : List (List Nat)} {ds : List Ev.D} {kvs : List (Key × V)} (h : kvs.map (·.1) = ks.map (fun x => (.inr ⟨x.toArray⟩ : Key))) (rl : RepL K c F ds (kvs.map (·.2))) (hl : ks.length < LIM) :
    RepO K c F (.dct (dKeys ks ds x) (dVals ks ds x d)) (.dK (putK kvs (.inr ⟨x.toArray⟩) v)) := by
  have e := valV_some x h rl
  unfold putK
  rw [valV_any, e]
  unfold dKeys dVals
  by_cases z : (dGet ks ds x).isSome = true
  · rw [if_pos z, if_pos z, if_pos z]
    exact ⟨⟨by rw [dset_keys]; exact h, dset_vals r x h rl⟩, Nat.le_of_lt hl⟩
  · rw [if_neg z, if_neg z, if_neg z]
    refine ⟨⟨by rw [List.map_append, h, List.map_append]; rfl, ?_⟩, by rw [List.length_append]; exact hl⟩
    rw [List.map_append]
    exact rl.append (.cons r .nil)
theorem s_put {v ix : E} {v' ix' : Expr} {i : Nat} {x : Str} {ipos : Pos} (G : Good X g ck k) (hi : ck.N[i]? = some x) (hv : visB ck.sc x = true) (hn : okName x = true) (hev : PE X v' (tE X.K g v)) (hei : PE X ix' (tE X.K g ix))
    (ha : ∀ v, assign (.Subscript (.Name x p) ix' ipos) X.env v = (do
      let ov ← holding [v] (eval (.Name x p) X.env)
      let iv ← holding [v, ov] (eval ix' X.env)
      standAt ipos
      holding [v, ov, iv] (setItem ov iv v)
      release [v, ov, iv] [])) : PS X (.Assign [.Subscript (.Name x p) ix' ipos] v' pos) (tS X.K g (.put i ix v)) := by
  have hx : PE X (.Name x p) (tVar i) := pe_var (by rw [G.N]; exact hi) (by rw [G.sc]; exact visB_ok hv) (okName_ok hn).1 (okName_ok hn).2
  refine PS.mono (ps_asg hev (pg_sub hx hei (set_both (by have := G.room.un; omega)) ha) sw_sub st_sub rfl) fun D σ H ⟨F0, env, F, R, h⟩ => ?_
  have h' : PostS X.K g F0 D ((ev g v env).bind fun p => (Res.of (asVal p.1 p.2)).bind fun z => if (z.2.at i).mine = true then (ev g ix z.2).bind fun q =>
    match q.2.at i, peek q.1 q.2 with
    | .own (.lst ds), some (.int k) => (match L2.ixN ds.length k with
      | some j => .ok (.nx (q.2.set i (.own (.lst (ds.set j z.1)))))
      | none => .bad)
    | .byr (.lst ds), some (.int k) => (match L2.ixN ds.length k with
      | some j => .ok (.nx (q.2.set i (.byr (.lst (ds.set j z.1)))))
      | none => .bad)
    | .own (.dct ks vs), some (.str k) => if ks.length < LIM then .ok (.nx (q.2.set i (.own (.dct (dKeys ks vs k) (dVals ks vs k z.1))))) else .bad
    | _, _ => .bad
    else .bad) := h
  refine tE_sv R h' fun z w F1 H1 R1 S1 rep h1 => ?_
  -- the name is read ahead of the index: what it holds is what it held
  have known : ∀ (E1 : Env) (F2 H2 : Hp), RelS X.K g F0 E1 F2 σ H2 → (E1.at i).mine = true → ∃ a, σ[i]? = some (some (.ref a)) := fun E1 F2 H2 R2 hm => by
    cases q : E1.at i with
    | no => rw [q] at hm; cases hm
    | val x => rw [q] at hm; cases hm
    | own x => obtain ⟨a, _, g1, _⟩ := R2.rel.own i x q; exact ⟨a, g1⟩
    | byr x => obtain ⟨a, _, g1, _⟩ := R2.rel.byr i x q; exact ⟨a, g1⟩
  show ∃ v, σ[i]? = some (some v) ∧ _
  by_cases hm : (z.2.at i).mine = true
  · rw [if_pos hm] at h1
    obtain ⟨a, g1⟩ := known _ _ _ R1 hm
    refine ⟨.ref a, g1, ?_⟩
    refine tE_s R1 h1 fun q u F2 H2 R2 S2 r2 h2 => ?_
    have fin : ∀ (ds : List Ev.D) (kk : Int) (o : Ev.D → Sl), q.2.at i = o (.lst ds) → (∀ d, o d = .own d ∨ o d = .byr d) → (∀ d d', (o d).put d' = o d') → peek q.1 q.2 = some (.int kk) → PostS X.K g F0 D (match L2.ixN ds.length kk with
      | some j => .ok (.nx (q.2.set i (o (.lst (ds.set j z.1)))))
      | none => .bad) → rSetB (.ref a) u w H2 (fun H3 => D.nx σ H3) := by
      intro ds kk o ho hoo hop hp h3
      obtain rfl := (R2.rel.peek r2 hp).of_int
      have hoo' : q.2.at i = .own (.lst ds) ∨ q.2.at i = .byr (.lst ds) := by rw [ho]; exact hoo _
      obtain ⟨vs, k2, rl, ll⟩ : ∃ vs, H2 a = some (.lst vs) ∧ RepL X.K g.c F2 ds vs ∧ ds.length ≤ LIM := by
        rcases hoo' with e | e
        · obtain ⟨b, o', k1, k2, k3, _⟩ := R2.rel.own i _ e
          rw [g1] at k1; cases k1
          obtain ⟨vs, rfl, rl, ll⟩ := k3.lstD
          exact ⟨vs, k2, rl, ll⟩
        · obtain ⟨b, o', k1, k2, k3, _⟩ := R2.rel.byr i _ e
          rw [g1] at k1; cases k1
          obtain ⟨vs, rfl, rl, ll⟩ := k3.lstD
          exact ⟨vs, k2, rl, ll⟩
      cases q3 : L2.ixN ds.length kk with
      | none => rw [q3] at h3; exact h3.elim
      | some j =>
        rw [q3] at h3
        refine .inl ⟨a, vs, kk, j, rfl, rfl, k2, by rw [← rl.length]; exact q3, ?_⟩
        have := upd_rel (d' := .lst (ds.set j z.1)) (o := .lst (vs.set j w)) R2 hoo' g1 ⟨rl.set (rep.sub S2.fsub) j, by simp; exact ll⟩
        rw [ho, hop] at this
        exact h3 σ F2 _ this
    split at h2
    · rename_i ds kk e1 e2
      exact fin ds kk .own e1 (fun d => .inl rfl) (fun _ _ => rfl) e2 h2
    · rename_i ds kk e1 e2
      exact fin ds kk .byr e1 (fun d => .inr rfl) (fun _ _ => rfl) e2 h2
    · rename_i ks ds kk e1 e2
      obtain ⟨rfl, _⟩ := (R2.rel.peek r2 e2).of_str
      obtain ⟨hl, h3⟩ : ks.length < LIM ∧ PostS X.K g F0 D (.ok (.nx (q.2.set i (.own (.dct (dKeys ks ds kk) (dVals ks ds kk z.1)))))) := by
        by_cases z : ks.length < LIM
        · rw [if_pos z] at h2; exact ⟨z, h2⟩
        · rw [if_neg z] at h2; exact h2.elim
      obtain ⟨b, o', k1, k2, k3, _⟩ := R2.rel.own i _ e1
      rw [g1] at k1; cases k1
      obtain ⟨kvs, rfl, kk1, rl, ll⟩ := k3.dctD
      refine .inr ⟨a, _, rfl, DPut.k (k := .inr ⟨kk.toArray⟩) k2 ?_, ?_⟩
      · have e := congrArg List.length kk1
        rw [List.length_map, List.length_map] at e
        rw [e, LIM_eq]; exact hl
      · have := upd_rel (d' := .dct (dKeys ks ds kk) (dVals ks ds kk z.1)) R2 (.inl e1) g1 (dk_put (rep.sub S2.fsub) kk kk1 rl hl)
        rw [e1] at this
        exact h3 σ F2 _ this
    · exact h2.elim
  · rw [if_neg hm] at h1
    exact h1.elim
theorem s_aug {e : E} {e' : Expr} {i : Nat} {x : Str} (G : Good X g ck k) (hi : ck.N[i]? = some x) (hst : ck.st x = true) (he : PE X e' (tE X.K g e)) : PS X (.AugAssign (.Name x pos') .Add e' pos) (tS X.K g (.aug i .add e)) := by
  refine PS.mono (ps_aug (by rw [G.N]; exact G.nd) (by rw [G.N]; exact hi) (G.loc hst).1 he ip_add (G.loc hst).2) fun D σ H ⟨F0, env, F, R, h⟩ => ?_
  have h' : PostS X.K g F0 D (match env.at i with
    | .val d => (ev g e env).bind fun p => (match p.2.at i, peek p.1 p.2 with
      | .val _, some y => (match d, y with
        | .int a, .int b => .ok (.nx (p.2.set i (.val (.int (a + b)))))
        | _, _ => .bad)
      | _, _ => .bad)
    | _ => .bad) := h
  cases q : env.at i with
  | no => rw [q] at h'; exact h'.elim
  | own d => rw [q] at h'; exact h'.elim
  | byr d => rw [q] at h'; exact h'.elim
  | val d =>
    rw [q] at h'
    obtain ⟨v, g1, g2⟩ := R.rel.val i d q
    refine ⟨v, g1, tE_s R h' fun p w F1 H1 R1 S1 r1 h1 => ?_⟩
    split at h1
    · rename_i e1 e2
      split at h1
      · rename_i a b
        cases g2
        obtain rfl := (R1.rel.peek r1 e2).of_int
        refine ⟨a, b, rfl, rfl, h1 _ F1 H1 ⟨R1.rel.store (Env.at_lt (by rw [e1]; intro z; cases z)) (.int _), R1.sub, R1.bk⟩⟩
      · exact h1.elim
    · exact h1.elim
/-- x[i], y = a, b of a dict -/
theorem s_putPar {ix : E} {es : Es} {a b ix' : Expr} {i j : Nat} {x y : Str} {ipos py pt : Pos} {kt k2 : Nat} {pt2 : Pos} (G : Good X g ck k) (hi : ck.N[i]? = some x) (hv : visB ck.sc x = true) (hn : okName x = true) (hj : ck.N[j]? = some y) (hy : ck.st y = true) (hei : PE X ix' (tE X.K g ix)) (ha : PA X [a, b] (tDs X.K g es))
    (haa : ∀ v, assign (.Subscript (.Name x p) ix' ipos) X.env v = (do
      let ov ← holding [v] (eval (.Name x p) X.env)
      let iv ← holding [v, ov] (eval ix' X.env)
      standAt ipos
      holding [v, ov, iv] (setItem ov iv v)
      release [v, ov, iv] [])) (hw : swappedStores [.Tuple [.Subscript (.Name x p) ix' ipos, .Name y py] kt pt] (.Tuple [a, b] k2 pt2) X.env = pure none) :
    PS X (.Assign [.Tuple [.Subscript (.Name x p) ix' ipos, .Name y py] kt pt] (.Tuple [a, b] k2 pt2) pos) (tS X.K g (.putPar i ix j es)) := by
  have hx : PE X (.Name x p) (tVar i) := pe_var (by rw [G.N]; exact hi) (by rw [G.sc]; exact visB_ok hv) (okName_ok hn).1 (okName_ok hn).2
  have hN2 : PG X (.Name y py) (gName j) := pg_name (by rw [G.N]; exact G.nd) (by rw [G.N]; exact hj) (G.loc hy).1 (G.loc hy).2
  have hu : X.A.units + 1 < cLine := by have := G.room.un; omega
  refine PS.mono (ps_asg (pe_tup ha) (pg_tup G.calm (pgs_cons (pg_sub hx hei (set_both hu) haa) (pgs_cons hN2 pgs_nil rfl) rfl) rfl rfl) rfl hw rfl) fun D σ H ⟨F0, env, F, R, h⟩ => ?_
  have h' : PostS X.K g F0 D ((evalDs g.T.chg g.T.gval g.call es env).bind fun p => (match p.1 with
    | [d1, d2] => (match p.2.at i with
      | .own (.dct _ _) => (ev g ix p.2).bind fun q =>
        (match q.2.at i, peek q.1 q.2 with
        | .own (.dct ks vs), some (.str k) => if ks.length < LIM then (Res.of (assignT (.one j) d2 (q.2.set i (.own (.dct (dKeys ks vs k) (dVals ks vs k d1)))))).bind fun e1 => .ok (.nx e1) else .bad
        | _, _ => .bad)
      | _ => .bad)
    | _ => .bad)) := h
  refine ⟨env, F, R.rel, bindS R h' fun p vs F1 H1 _ R1 S1 r1 h1 => ?_⟩
  obtain ⟨dl, env1⟩ := p
  split at h1
  · rename_i d1 d2 ed
    simp only at ed
    subst ed
    cases r1 with
    | cons rv1 rr =>
      rename_i v1 vr
      cases rr with
      | cons rv2 rr =>
        rename_i v2 vr
        cases rr
        split at h1
        · rename_i ks0 ds0 hq
          obtain ⟨aa, o, g1, g2, g3, _⟩ := R1.rel.own i _ hq
          refine ⟨by simp only [List.length_cons, List.length_nil, sizeLine_eq]; omega, fun T hT => ?_⟩
          refine ⟨T, [v1, v2], rfl, SqT.of upd_same, rfl, ?_⟩
          have up : Sub H1 (upd H1 T (.tup [v1, v2])) := sub_upd hT
          have R2 : RelS X.K g F0 env1 F1 σ (upd H1 T (.tup [v1, v2])) := R1.more ⟨Sub.refl _, up, R1.rel.sub.trans up, fun _ _ z => .inl z⟩
          refine ⟨v1, [v2], rfl, ?_⟩
          show ∃ v, σ[i]? = some (some v) ∧ _
          refine ⟨.ref aa, g1, ?_⟩
          refine tE_s R2 h1 fun q u F2 H2 R3 S2 r2 h2 => ?_
          split at h2
          · rename_i ks ds kk e1 e2
            obtain ⟨rfl, _⟩ := (R3.rel.peek r2 e2).of_str
            obtain ⟨hl, h3⟩ : ks.length < LIM ∧ PostS X.K g F0 D ((Res.of (assignT (.one j) d2 (q.2.set i (.own (.dct (dKeys ks ds kk) (dVals ks ds kk d1)))))).bind fun e1 => .ok (.nx e1)) := by
              by_cases z : ks.length < LIM
              · rw [if_pos z] at h2; exact ⟨z, h2⟩
              · rw [if_neg z] at h2; exact h2.elim
            obtain ⟨b', o', k1, k2, k3, _⟩ := R3.rel.own i _ e1
            rw [g1] at k1; cases k1
            obtain ⟨kvs, rfl, kk1, rl, ll⟩ := k3.dctD
            refine .inr ⟨aa, _, rfl, DPut.k (k := .inr ⟨kk.toArray⟩) k2 ?_, ?_⟩
            · have e := congrArg List.length kk1
              rw [List.length_map, List.length_map] at e
              rw [e, LIM_eq]; exact hl
            · have R4 := upd_rel (d' := .dct (dKeys ks ds kk) (dVals ks ds kk d1)) R3 (.inl e1) g1 (dk_put (rv1.sub S2.fsub) kk kk1 rl hl)
              rw [e1] at R4
              obtain ⟨e3, ee, h4⟩ := ofS h3
              refine ⟨v2, [], rfl, ?_⟩
              have fin := gD_ok (.one j) d2 v2 (q.2.set i (.own (.dct (dKeys ks ds kk) (dVals ks ds kk d1)))) e3 σ (fun σ' H' => gNil [] σ' H' D.nx) R4.rel (rv2.sub S2.fsub) ee fun σ2 R5 A => ⟨rfl, h4 σ2 F2 _ ⟨R5, R4.sub, R4.bk⟩⟩
              unfold gD at fin
              exact fin
          · exact h2.elim
        · exact h1.elim
  · exact h1.elim
end
end Ev
namespace Ev
open PySem PySem.Spec PyProof.Rows L2
section
variable {X : Cx} {g : Gh} {ck : Ck} {k : Nat} {pos p p2 : Pos}
/-! ### a def's name as a value; a call of such a value -/
theorem r_fnv {f : Nat} {x : Str} {fd : Fn} (G : Good X g ck k) (hf : g.T.fn f = some fd) (hx : g.T.fname f = x) (hg : glB ck.sc x = true) (hn : okName x = true) : PE X (.Name x pos) (tE X.K g (.fnv f)) := by
  obtain ⟨hm, _⟩ := G.prog.fns f fd hf
  subst hx
  have hgt : Gl X (g.T.fname f) := by show X.env.scope.names.lookup _ = _; rw [G.sc]; exact glB_ok hg
  exact PE.mono (pe_glob (v := .ref (g.c.fa f)) hgt hm rfl (okName_ok hn).1) fun σ H Q ⟨env, F, R, h⟩ => h (.ref (g.c.fa f)) F H R .refl (.fn f)
theorem passVals_none : ∀ {rs : List Ev.R} {j : Nat} {e e2 : Env} {ods : List (Option Ev.D)}, passVals none j rs e = some (ods, e2) → (ods.filterMap id).length = rs.length
  | [], j, e, e2, ods, h => by simp [passVals] at h; obtain ⟨rfl, _⟩ := h; rfl
  | r :: rs, j, e, e2, ods, h => by
    unfold passVals at h
    rw [if_neg (by simp)] at h
    cases q : asVal r e with
    | none => rw [q] at h; cases h
    | some z =>
      rw [q] at h
      simp only [Option.bind_some] at h
      cases q2 : passVals none (j + 1) rs z.2 with
      | none => rw [q2] at h; cases h
      | some w =>
        rw [q2] at h
        cases h
        simp [passVals_none (show passVals none (j + 1) rs z.2 = some (w.1, w.2) from q2)]
theorem r_callv {i : Nat} {es : Es} {x : Str} {a' : Expr} {es' : List Expr} (G : Good X g ck k) (hi : ck.N[i]? = some x) (hv : visB ck.sc x = true) (hn : okName x = true)
    (he : PA X (a' :: es') (tRs X.K g es)) (hl : (a' :: es').length = es.len) (hs : starEach (a' :: es') X.env = (false, eval a' X.env) :: starEach es' X.env) (hpl : (backTo pos (starEach es' X.env)).any (·.1) = false) :
    PE X (.Call (.Name x p) (a' :: es') [] pos) (tE X.K g (.callv i es)) := by
  refine ⟨fun pins s σ H Q I ⟨env, F, R, h⟩ => ?_⟩
  have h' : Post X.K g σ env F H (match env.at i with
    | .val (.fn f) => (match g.T.chg f with
      | some none => (evalRs g.T.chg g.T.gval g.call es env).bind fun p => callWith g.T.chg g.call f p.1 p.2
      | _ => .bad)
    | _ => .bad) Q := h
  cases q : env.at i with
  | no => rw [q] at h'; exact h'.elim
  | own d => rw [q] at h'; exact h'.elim
  | byr d => rw [q] at h'; exact h'.elim
  | val d =>
    rw [q] at h'
    cases d with
    | fn f =>
      obtain ⟨v, g1, g2⟩ := R.val i _ q
      cases g2
      cases hf : g.T.fn f with
      | none =>
        have hc : g.T.chg f = none := by unfold Tab.chg; rw [hf]; rfl
        simp only [hc] at h'
        exact h'.elim
      | some fd =>
        have hc : g.T.chg f = some fd.chg := by unfold Tab.chg; rw [hf]; rfl
        cases hm : fd.chg with
        | some m => simp only [hc, hm] at h'; exact h'.elim
        | none =>
          simp only [hc, hm] at h'
          have h2 : Post X.K g σ env F H ((evalRs g.T.chg g.T.gval g.call es env).bind fun p => callWith g.T.chg g.call f p.1 p.2) Q := h'
          obtain ⟨hm1, hk, hps, fdt, P, FO⟩ := G.prog.fns f fd hf
          have ht : tRs X.K g es σ H fun vs H1 => vs.length = fd.np ∧ spF X.K g.c g.call fd.np f fd.chg vs H1 Q (WE g.W σ) := ⟨env, F, R, bindOf .refl h2 fun q vs F1 H1 e1 R1 S1 S1' r1 h1 => by
            have ln : q.1.length = fd.np := by
              have h3 := h1
              unfold callWith at h3
              rw [hc, hm] at h3
              simp only at h3
              cases e2 : passVals none 0 q.1 q.2 with
              | none => rw [e2] at h3; exact h3.elim
              | some w =>
                obtain ⟨ods, e4⟩ := w
                rw [e2] at h3
                simp only at h3
                rw [← passVals_none e2]
                refine G.prog.ar f fd _ hf fun z => ?_
                rw [z] at h3
                exact h3.elim
            exact ⟨by rw [← r1.length]; exact ln, call_sp hf R1 S1' (r1.relI) ln (fun a o e => R.th a o e) h1⟩⟩
          refine wpAny_Call_Name_kw (thn ((pe_var (i := i) (pos := p) (by rw [G.N]; exact hi) (by rw [G.sc]; exact visB_ok hv) (okName_ok hn).1 (okName_ok hn).2).run pins s σ H (fun v H1 => v = .ref (g.c.fa f) ∧ H1 = H) I ⟨_, g1, rfl, rfl⟩) fun u s1 ⟨v, H1, I1, r1, q1⟩ => ?_)
          obtain ⟨rfl, rfl⟩ := q1
          cases r1
          refine PySem.W.callWith_K (h₀ := X.base) I1.ok.mod.kin hk (thn (he.run pos pins s1 σ _ _ I1 ht) fun us s2 ⟨vs, H2, I2, r, q⟩ => ⟨I2.kIn, ?_⟩) hs hpl
          have hb : kwB us.length [] (g.T.ps f) [] = true := by
            simp only [kwB, List.isEmpty_nil, Bool.true_and, decide_eq_true_eq]
            rw [← r.length, q.1, hps]
          exact run_fnG (ks := []) (ws := []) (zs := []) (pm := []) FO G.gd G.room P (G.pass σ) I2 r .nil hb rfl (by
            show spF X.K g.c g.call fd.np f fd.chg (vs ++ []) H2 Q (WE g.W σ)
            rw [List.append_nil]; exact q.2)
    | _ => exact h'.elim
/-! ### {} -/
theorem r_dnew : PE X (.Dict [] [] pos) (tE X.K g .dnew) := by
  refine PE.mono pe_dnewK fun σ H Q ⟨env, F, R, h⟩ => ?_
  have o := Post.out R .refl (r := .tmp (.dct [] [])) h fun i z => nomatch z
  intro p hp
  exact o p (.dK []) (upd H p (.dK [])) (sub_upd hp) hp upd_same ⟨⟨rfl, .nil⟩, Nat.zero_le _⟩
theorem r_emp (G : Good X g ck k) : PE X (.Dict [] [] pos) (tE X.K g .emp) := by
  refine PE.mono pe_dnewK fun σ H Q ⟨env, F, R, h⟩ p hp => ?_
  have o := Post.out R .refl (r := .val .emp) h fun i z => nomatch z
  have np : ∀ b u, F b = some u → b ≠ p := fun b u h e => by subst e; rw [R.sub _ _ h] at hp; cases hp
  have hF : F p = none := by
    cases e : F p with
    | none => rfl
    | some u => exact absurd rfl (np p u e)
  refine o (.ref p) (upd F p (.dK [])) (upd H p (.dK [])) (sub_upd hF) (sub_upd hp) (fun b u h => ?_) (fun b u h => ?_) (.emp upd_same)
  · by_cases e : b = p
    · subst e; rw [upd_same] at h ⊢; exact h
    · rw [upd_ne e] at h ⊢; exact R.sub _ _ h
  · by_cases e : b = p
    · subst e; exact .inr hp
    · rw [upd_ne e] at h; exact .inl h
/-! ### a tuple that is known to be plain: t + u -/
theorem op_catF {c : RC} : OpR X (binaryOp .Add) (fun x y H Q => ∃ a b xs ys, x = .ref a ∧ y = .ref b ∧ SqT X.K H a xs ∧ SqT X.K H b ys ∧ xs.length + ys.length ≤ sizeLine ∧ xs ≠ [] ∧ ys ≠ [] ∧
    ∀ p o, H p = none → o.cls = .type "tuple" → o.dict = none → Q (.ref p) (upd H p (.frz o (.tup (xs ++ ys))))) := by
  intro pins s σ H x y v u Q I rx ry h
  obtain ⟨a, b, xs, ys, rfl, rfl, ha, hb, hz, hx, hy, q⟩ := h
  cases rx
  cases ry
  obtain ⟨its, r1, p1, _⟩ := I.tuple ha
  obtain ⟨its2, r2, p2, _⟩ := I.tuple hb
  refine HT.cat_tup p1 p2 (fun z => hx (r1.nil_iff.mp z)) (fun z => absurd (r2.nil_iff.mp z) hy) (fun z => ?_) (by rw [← r1.length, ← r2.length]; exact hz)
  refine ⟨.ref s.heap.objs.size, _, I.laid (t' := s.toks) (o := .frz { cls := .type "tuple", data := .seq (its ++ its2).toArray } (.tup (xs ++ ys))) (fun b ob q => Heap.get?_push_of_some _ q) (Nat.le_refl _) ?_, rfl, q s.heap.objs.size _ (I.hok.fresh (Nat.le_refl _)) rfl rfl⟩
  exact ⟨Heap.get?_push_size _ rfl, by rw [List.length_append]; exact hz, _, r1.append r2, IsTup.new _ _⟩
theorem Out.newX {K : PySem.W.Frag} {c : RC} {F H : Hp} {Q : VK} {d : Ev.D} {p : Addr} {u : HO} (o : Out K c F H Q (.val d)) (s : Sub F H) (hp : H p = none) (r : Sub F (upd F p u) → Rep K c (upd F p u) d (.ref p)) : Q (.ref p) (upd H p u) := by
  have np : ∀ b u, F b = some u → b ≠ p := fun b u h e => by subst e; rw [s _ _ h] at hp; cases hp
  have hF : F p = none := by
    cases e : F p with
    | none => rfl
    | some u => exact absurd rfl (np p u e)
  refine o (.ref p) (upd F p u) (upd H p u) (sub_upd hF) (sub_upd hp) (fun b u h => ?_) (fun b u h => ?_) (r (sub_upd hF))
  · by_cases e : b = p
    · subst e; rw [upd_same] at h ⊢; exact h
    · rw [upd_ne e] at h ⊢; exact s _ _ h
  · by_cases e : b = p
    · subst e; exact .inr hp
    · rw [upd_ne e] at h; exact .inl h
theorem r_catk {a b : E} {a' b' : Expr} (ha : PE X a' (tE X.K g a)) (hb : PE X b' (tE X.K g b)) : PE X (.BinOp a' .Add b' pos) (tE X.K g (.catk a b)) := by
  refine PE.mono (pe_op (op_catF (c := g.c)) ha hb) fun σ H Q ⟨env, F, R, h⟩ => ?_
  have h' : Post X.K g σ env F H ((ev g a env).bind fun p => (ev g b p.2).bind fun q =>
    match peek p.1 q.2, peek q.1 q.2 with
    | some (.tup xs), some (.tup ys) => if xs ≠ [] ∧ ys ≠ [] ∧ xs.length + ys.length ≤ LIM then .ok (.val (.ctup (xs ++ ys)), q.2) else .bad
    | _, _ => .bad) Q := h
  refine two R h' fun p q v w F2 H2 R2 S2 k1 k2 h2 => ?_
  split at h2
  · rename_i xs ys e1 e2
    obtain ⟨⟨c1, c2, c3⟩, h3⟩ := if_inv h2
    obtain ⟨a, vs, rfl, sa, ra, la, _⟩ := (k1 _ e1).of_tup R2.sub
    obtain ⟨b, ws, rfl, sb, rb, lb, _⟩ := (k2 _ e2).of_tup R2.sub
    refine ⟨a, b, vs, ws, rfl, rfl, sa, sb, by rw [← ra.length, ← rb.length, LIM_eq]; exact c3, fun e => c1 (by subst e; cases ra; rfl), fun e => c2 (by subst e; cases rb; rfl), fun p o hp d1 d2 => ?_⟩
    exact Out.newX (Post.out R2 S2 h3 fun i z => nomatch z) R2.sub hp fun s => .ctup upd_same d1 d2 ((ra.append rb).sub s) (by rw [List.length_append]; exact c3)
  · exact h2.elim
/-! ### where it stands first -/
theorem strs_vals {K : PySem.W.Frag} {c : RC} {F : Hp} : ∀ {ds : List Ev.D} {vs : List V} {ps : List (List Nat)}, RepL K c F ds vs → strsOf ds = some ps → vs = (ps.map fun x => (⟨x.toArray⟩ : Str)).map V.str ∧ ps.length = ds.length ∧ ∀ q ∈ ps, q.all (fun k => decide (k < 0x110000)) = true
  | [], _, ps, .nil, h => by cases h; exact ⟨rfl, rfl, fun _ h => nomatch h⟩
  | d :: ds, _, ps, .cons r t, h => by
    cases r <;> simp [strsOf] at h
    obtain ⟨qs, h1, h2⟩ := h
    subst h2
    obtain ⟨a, b, cc⟩ := strs_vals t h1
    refine ⟨by rw [a]; rfl, by simp [b], fun q hq => ?_⟩
    rcases List.mem_cons.mp hq with rfl | hq
    · assumption
    · exact cc q hq
theorem idxS_inv {xs : List Ev.D} {y : Ev.D} {r : Ev.R} (h : idxS xs y = some r) : ∃ z ps j, y = .str z ∧ strsOf xs = some ps ∧ ps[j]? = some z ∧ (∀ m, m < j → ps[m]? ≠ some z) ∧ r = .val (.int (j : Nat)) := by
  cases y with
  | str z =>
    have h' : ((strsOf xs).bind fun ps => (ps.findIdx? fun p => decide (p = z)).bind fun j => vI (j : Nat)) = some r := h
    cases e : strsOf xs with
    | none => rw [e] at h'; cases h'
    | some ps =>
      rw [e] at h'
      simp only [Option.bind_some] at h'
      cases e2 : ps.findIdx? fun p => decide (p = z) with
      | none => rw [e2] at h'; cases h'
      | some j =>
        rw [e2] at h'
        cases h'
        obtain ⟨hj, h1, h2⟩ := List.findIdx?_eq_some_iff_getElem.mp e2
        refine ⟨z, ps, j, rfl, rfl, ?_, fun m hm e3 => ?_, rfl⟩
        · rw [List.getElem?_eq_getElem hj, of_decide_eq_true h1]
        · obtain ⟨hm', e4⟩ := List.getElem?_eq_some_iff.mp e3
          have := h2 m hm
          simp [e4] at this
  | _ => cases h
theorem r_gix {n : Nat} {a : E} {a' : Expr} {x : Str} {apos : Pos} (G : Good X g ck k) (hx : g.T.gname n = x) (hg : glB ck.sc x = true) (hn : okName x = true) (ha : PE X a' (tE X.K g a)) (hs : starEach [a'] X.env = [(false, eval a' X.env)])
    (hline : (apos.endLine == pos.line) = true) : PE X (.Call (.Attribute (.Name x p) "index" apos) [a'] [] pos) (tE X.K g (.gix n a)) := by
  have bad : ∀ (σ : L2.St) (H : Hp) (Q : VK) (env : Env) (F : Hp), g.T.gval n = none ∨ (∃ d, g.T.gval n = some d ∧ ∀ xs, d ≠ .tup xs) → Post X.K g σ env F H (ev g (.gix n a) env) Q → False := fun σ H Q env F hc h => by
    have h' : Post X.K g σ env F H (match g.T.gval n with
      | some (.tup xs) => (ev g a env).bind fun p => (match peek p.1 p.2 with
        | some y => (Res.of (idxS xs y)).bind fun r => .ok (r, p.2)
        | none => .bad)
      | _ => .bad) Q := h
    rcases hc with hc | ⟨d, hc, hd⟩
    · rw [hc] at h'; exact h'
    · rw [hc] at h'
      cases d with
      | tup xs => exact absurd rfl (hd xs)
      | _ => exact h'
  cases q : g.T.gval n with
  | none => exact ⟨fun pins s σ H Q I ⟨env, F, R, h⟩ => (bad σ H Q env F (.inl q) h).elim⟩
  | some d =>
    by_cases hd : ∃ xs, d = .tup xs
    · obtain ⟨xs, rfl⟩ := hd
      obtain ⟨u, v, hm, r, rep⟩ := G.prog.cons n _ q
      obtain ⟨aa, o, hm2, ho, hc1, hc2⟩ := G.prog.cdn n xs q
      rw [hm] at hm2
      cases hm2
      obtain rfl : v = .ref aa := by
        have rr := rep (fun _ => none)
        cases rr
        exact congrArg V.ref (show _ = _ by cases r; rfl)
      subst hx
      have hgt : Gl X (g.T.gname n) := by show X.env.scope.names.lookup _ = _; rw [G.sc]; exact glB_ok hg
      refine PE.mono (pe_bm PySem.F.plainAttrs_tuple PySem.F.slot_tuple_index PySem.F.type_tuple_index mt_tup_index (pe_glob (v := .ref aa) hgt hm rfl (okName_ok hn).1) (pa1 ha hs) rfl (by rw [hs]; rfl) hline (by rw [hs]; rfl) (by rfl)) fun σ H Q ⟨env, F, R, h⟩ => ?_
      refine ⟨.inr (.inl ⟨rfl, o, ho, hc1, hc2⟩), ?_⟩
      have h' : Post X.K g σ env F H ((ev g a env).bind fun p => (match peek p.1 p.2 with
        | some y => (Res.of (idxS xs y)).bind fun r => .ok (r, p.2)
        | none => .bad)) Q := by
        have e : ev g (.gix n a) env = match g.T.gval n with
          | some (.tup xs) => (ev g a env).bind fun p => (match peek p.1 p.2 with
            | some y => (Res.of (idxS xs y)).bind fun r => .ok (r, p.2)
            | none => .bad)
          | _ => .bad := rfl
        rw [e, q] at h
        exact h
      refine tE_bind R .refl h' fun p v F1 H1 R1 S1 S1' r1 h1 => ?_
      split at h1
      · rename_i y ey
        obtain ⟨rr, er, h3⟩ := of_inv h1
        obtain ⟨z, ps, j, rfl, e1, e2, e3, rfl⟩ := idxS_inv er
        obtain ⟨rfl, _⟩ := (R1.peek r1 ey).of_str
        have rep1 := rep F1
        cases rep1 with
        | tup sa ra la =>
          obtain ⟨ev, lv, av⟩ := strs_vals ra e1
          subst ev
          refine ⟨aa, ps.map fun x => (⟨x.toArray⟩ : Str), ⟨z.toArray⟩, j, rfl, rfl, sqT_sub R1.sub sa, by rw [List.getElem?_map, e2]; rfl, fun m hm e => ?_, h3 _ F1 H1 R1 S1' (.int _)⟩
          rw [List.getElem?_map] at e
          cases e4 : ps[m]? with
          | none => rw [e4] at e; cases e
          | some w =>
            rw [e4] at e
            have : w = z := by simpa using e
            exact e3 m hm (this ▸ e4)
      · exact h1.elim
    · exact ⟨fun pins s σ H Q I ⟨env, F, R, h⟩ => (bad σ H Q env F (.inr ⟨d, q, fun xs e => hd ⟨xs, e⟩⟩) h).elim⟩
/-! ### methods that only look -/
def meName : Me → Str
  | .split => "split"
  | .join => "join"
  | .index => "index"
theorem tl_lt {x : List Nat} (h : x.all (fun k => decide (k < 0x110000)) = true) : ∀ z ∈ x, z < 0x110000 := fun z hz => of_decide_eq_true (List.all_eq_true.mp h z hz)
theorem spl_sub (S : List Nat) : ∀ (l : List Nat) (n : Nat) (acc : List Nat), ∀ p ∈ TL.spl S n acc l, ∀ z ∈ p, z ∈ acc ∨ z ∈ l
  | [], n, acc, p, hp, z, hz => by
    rw [TL.spl_nil] at hp
    rw [List.mem_singleton.mp hp] at hz
    exact .inl hz
  | c :: l, 0, acc, p, hp, z, hz => by
    by_cases q : TL.pre S (c :: l) = true
    · rw [TL.spl_hit q] at hp
      rcases List.mem_cons.mp hp with rfl | hp
      · exact .inl hz
      · rcases spl_sub S l _ _ p hp z hz with h | h
        · cases h
        · exact .inr (List.mem_cons_of_mem _ h)
    · rw [TL.spl_miss (by simpa using q)] at hp
      rcases spl_sub S l _ _ p hp z hz with h | h
      · rcases List.mem_append.mp h with h | h
        · exact .inl h
        · rw [List.mem_singleton.mp h]; exact .inr (List.mem_cons_self ..)
      · exact .inr (List.mem_cons_of_mem _ h)
  | c :: l, n + 1, acc, p, hp, z, hz => by
    rw [TL.spl_pass] at hp
    have hp' : p ∈ TL.spl S 0 acc (l.drop n) := hp
    rw [← TL.spl_pass] at hp'
    rcases spl_sub S l n acc p hp' z hz with h | h
    · exact .inl h
    · exact .inr (List.mem_cons_of_mem _ h)
theorem reps_strs {K : PySem.W.Frag} {c : RC} {F : Hp} : ∀ {ps : List (List Nat)}, (∀ p ∈ ps, p.all (fun k => decide (k < 0x110000)) = true) → RepL K c F (ps.map Ev.D.str) ((ps.map fun x => (⟨x.toArray⟩ : Str)).map V.str)
  | [], _ => .nil
  | p :: ps, h => .cons (.str p (h p (List.mem_cons_self ..))) (reps_strs fun q hq => h q (List.mem_cons_of_mem _ hq))
theorem spl_len (S : List Nat) : ∀ (l : List Nat) (n : Nat) (acc : List Nat), (TL.spl S n acc l).length ≤ l.length + 1
  | [], n, acc => by rw [TL.spl_nil]; simp
  | c :: l, 0, acc => by
    by_cases q : TL.pre S (c :: l) = true
    · rw [TL.spl_hit q]
      have := spl_len S l (S.length - 1) []
      simp only [List.length_cons]; omega
    · rw [TL.spl_miss (by simpa using q)]
      have := spl_len S l 0 (acc ++ [c])
      simp only [List.length_cons]; omega
  | c :: l, n + 1, acc => by
    have e : TL.spl S (n + 1) acc (c :: l) = TL.spl S n acc l := by
      rw [TL.spl_pass, TL.spl_pass S n]; rfl
    rw [e]
    have := spl_len S l n acc
    simp only [List.length_cons]; omega
theorem split_tl {x y : List Nat} (hy : y ≠ []) (ha : y.all (fun c => decide (c < 256)) = true) : Txt.split ⟨x.toArray⟩ ⟨y.toArray⟩ = (TL.spl y 0 [] x).map fun p => (⟨p.toArray⟩ : Str) := by
  refine TL.map_tl_inj ?_
  rw [TL.split_spl _ _ (by rw [TL.tl_mk]; exact hy) (TL.kind_ok (by simpa using ha)), TL.tl_mk, TL.tl_mk, List.map_map]
  have : (TL.tl ∘ fun p : List Nat => (⟨p.toArray⟩ : Str)) = id := by funext p; rfl
  rw [this, List.map_id]
theorem mth_main {m : Me} {o a : E} {σ : L2.St} {H : Hp} {Q : VK} {Q' : V → Hp → Prop} (h : tE X.K g (.mth m o a) σ H Q)
    (hk : ∀ d v F1 H1, Sub F1 H1 → meK m d = true → Rep X.K g.c F1 d v → (∀ (Q2 : V → Hp → Prop), (∀ y w F2 H2 r, Sub F1 F2 → Sub F2 H2 → RepP X.K g.c F2 H2 y w → meOp m d y = some r → (∀ i, r ≠ .var i) → Out X.K g.c F2 H2 Q r → Q2 w H2) → tE X.K g a σ H1 Q2) → Q' v H1) : tE X.K g o σ H Q' := by
  obtain ⟨env, F, R, h⟩ := h
  have h' : Post X.K g σ env F H ((ev g o env).bind fun p => (Res.of (asVal p.1 p.2)).bind fun z => if meK m z.1 = true then (ev g a z.2).bind fun q => (match peek q.1 q.2 with
    | some y => (Res.of (meOp m z.1 y)).bind fun r => .ok (r, q.2)
    | none => .bad)
    else .bad) Q := h
  refine tE_val R .refl h' fun z v F1 H1 R1 S1 rep h1 => ?_
  obtain ⟨hm, h2⟩ := if_inv h1
  refine hk z.1 v F1 H1 R1.sub hm rep fun Q2 hq => ?_
  refine tE_bind R1 S1 h2 fun p w F2 H2 R2 S2 S2' r2 h3 => ?_
  split at h3
  · rename_i y ey
    obtain ⟨r, er, h4⟩ := of_inv h3
    have nv : ∀ i, r ≠ .var i := fun i e => by
      subst e
      unfold meOp at er
      split at er
      · split at er <;> cases er
      · rename_i xs _
        cases e1 : strsOf xs with
        | none => rw [e1] at er; cases er
        | some ps => rw [e1] at er; simp only [Option.bind_some] at er; split at er <;> cases er
      · rename_i xs _
        cases e1 : strsOf xs with
        | none => rw [e1] at er; cases er
        | some ps => rw [e1] at er; simp only [Option.bind_some] at er; split at er <;> cases er
      · obtain ⟨_, _, _, _, _, _, _, z⟩ := idxS_inv er
        cases z
      · split at er
        · obtain ⟨j, _, z⟩ := Option.bind_eq_some_iff.mp er
          cases z
        · cases er
      · cases er
    exact hq y w F2 H2 r S2.fsub R2.sub (R2.peek r2 ey) er nv (Post.out R2 S2' h4 nv)
  · exact h3.elim
theorem r_split {o a : E} {o' a' : Expr} {apos : Pos} (ho : PE X o' (tE X.K g o)) (ha : PE X a' (tE X.K g a)) (hs : starEach [a'] X.env = [(false, eval a' X.env)]) (hb : attributeBase o' "split" X.env (eval o' X.env) = eval o' X.env)
    (hline : (apos.endLine == pos.line) = true) : PE X (.Call (.Attribute o' "split" apos) [a'] [] pos) (tE X.K g (.mth .split o a)) := by
  refine PE.mono (pe_split ho ha hs hb hline) fun σ H Q h => mth_main h fun d v F1 H1 s1 hm rep hq => ?_
  cases d <;> simp [meK] at hm
  rename_i x
  cases rep with
  | str _ vx =>
    refine ⟨⟨_, rfl⟩, hq _ fun y w F2 H2 r s12 s2 rp er nv o => ?_⟩
    cases y <;> simp [meOp] at er
    rename_i y
    obtain ⟨⟨c1, c2, c3⟩, rfl⟩ := er
    have c2' : y.all (fun c => decide (c < 256)) = true := by rw [List.all_eq_true]; exact fun z hz => decide_eq_true (c2 z hz)
    obtain ⟨rfl, _⟩ := rp.of_str
    refine ⟨_, _, rfl, rfl, ?_, by rw [str_len, LIM_eq]; exact c3, ?_⟩
    · rw [str_len, beq_eq_false_iff_ne]
      exact fun e => c1 (List.eq_nil_of_length_eq_zero e)
    · rw [split_tl c1 c2']
      have rl := reps_strs (K := X.K) (c := g.c) (F := F2) (ps := TL.spl y 0 [] x) fun p hp => by
        rw [List.all_eq_true]
        intro z hz
        rcases spl_sub y x 0 [] p hp z hz with h | h
        · cases h
        · exact decide_eq_true (tl_lt vx z h)
      have ln : ((TL.spl y 0 [] x).map Ev.D.str).length ≤ LIM := by
        rw [List.length_map]
        have := spl_len y x 0 []
        omega
      exact o.new rl ln
theorem join_tl {y : List Nat} {ps : List (List Nat)} : Txt.join ⟨y.toArray⟩ (ps.map fun x => (⟨x.toArray⟩ : Str)) = ⟨(TL.joinL y ps).toArray⟩ := by
  rw [TL.join_eq]
  refine TL.ext_tl ?_
  rw [TL.tl_join, List.map_map, TL.tl_mk, TL.tl_mk]
  have : (TL.tl ∘ fun p : List Nat => (⟨p.toArray⟩ : Str)) = id := by funext p; rfl
  rw [this, List.map_id]
theorem r_join {o a : E} {o' a' : Expr} {apos : Pos} (ho : PE X o' (tE X.K g o)) (ha : PE X a' (tE X.K g a)) (hs : starEach [a'] X.env = [(false, eval a' X.env)]) (hb : attributeBase o' "join" X.env (eval o' X.env) = eval o' X.env)
    (hline : (apos.endLine == pos.line) = true) : PE X (.Call (.Attribute o' "join" apos) [a'] [] pos) (tE X.K g (.mth .join o a)) := by
  refine PE.mono (pe_join ho ha hs hb hline) fun σ H Q h => mth_main h fun d v F1 H1 s1 hm rep hq => ?_
  cases d <;> simp [meK] at hm
  rename_i x
  cases rep with
  | str _ vx =>
    refine ⟨⟨_, rfl⟩, hq _ fun y w F2 H2 r s12 s2 rp er nv o => ?_⟩
    have fin : ∀ (ys : List Ev.D) (a : Addr) (vs : List V), (SqL X.K H2 a vs ∨ SqT X.K H2 a vs) → RepL X.K g.c F2 ys vs → ((strsOf ys).bind fun ps => if (ps.map (·.length)).sum + ps.length * x.length ≤ LIM then some (Ev.R.val (.str (TL.joinL x ps))) else none) = some r →
        ∃ a' p, ∃ zs : List Str, V.str ⟨x.toArray⟩ = .str a' ∧ [V.ref a] = [.ref p] ∧ (SqL X.K H2 p (zs.map V.str) ∨ SqT X.K H2 p (zs.map V.str)) ∧ (zs.map (·.length)).sum + zs.length * a'.length ≤ 16777216 ∧ Q (.str (Txt.join a' zs)) H2 := by
      intro ys a vs hsq ra er
      cases e1 : strsOf ys with
      | none => rw [e1] at er; cases er
      | some ps =>
        rw [e1] at er
        simp only [Option.bind_some] at er
        split at er
        · rename_i hz
          cases er
          obtain ⟨ev, lv, av⟩ := strs_vals ra e1
          subst ev
          refine ⟨_, a, ps.map fun x => (⟨x.toArray⟩ : Str), rfl, rfl, hsq, ?_, ?_⟩
          · rw [str_len, List.length_map, List.map_map]
            have e : ((fun s : Str => s.length) ∘ fun x : List Nat => (⟨x.toArray⟩ : Str)) = fun x => x.length := by funext x; exact str_len x
            rw [e]; exact hz
          · rw [join_tl]
            exact o.val s2 (.str _ (joinL_all vx av))
        · cases er
    cases y with
    | lst ys =>
      obtain ⟨a, vs, rfl, ha, ra, la⟩ := rp.of_lst s2
      exact fin ys a vs (.inl (SqL.of ha)) ra er
    | tup ys =>
      obtain ⟨a, vs, rfl, ha, ra, la, _⟩ := rp.of_tup s2
      exact fin ys a vs (.inr ha) ra er
    | _ => cases er
/-- o.index(e), o a list, or a tuple that is known to be plain -/
theorem pe_idx {o e : Expr} {to te : TE} {apos : Pos} (ho : PE X o to) (he : PE X e te) (hs : starEach [e] X.env = [(false, eval e X.env)]) (hb : attributeBase o "index" X.env (eval o X.env) = eval o X.env) (hline : (apos.endLine == pos.line) = true) :
    PE X (.Call (.Attribute o "index" apos) [e] [] pos) (fun σ H Q => to σ H fun x H1 => (∃ a xs, x = .ref a ∧ H1 a = some (.lst xs) ∧ te σ H1 fun y H2 => rIndex X.K x [y] H2 Q) ∨
      ∃ a ob xs, x = .ref a ∧ H1 a = some (.frz ob (.tup xs)) ∧ ob.cls = .type "tuple" ∧ ob.dict = none ∧ te σ H1 fun y H2 => ∃ p, ∃ ys : List Str, ∃ z j, x = .ref p ∧ [y] = [.str z] ∧ SqT X.K H2 p (ys.map V.str) ∧ ys[j]? = some z ∧ (∀ m, m < j → ys[m]? ≠ some z) ∧ Q (.int (j : Nat)) H2) := by
  refine ⟨fun pins s σ H Q I h => ?_⟩
  refine wpAny_Call_method_late hb (by rw [hs]; rfl) hline rfl (thn (ho.run pins s σ H _ I h) fun v s1 ⟨x, H1, I1, r1, q1⟩ => ?_)
  have go : ∀ (id : String) (r : V → List V → Hp → VK → Prop), MtR X id r → te σ H1 (fun y H2 => r x [y] H2 Q) → wpAny (model X.prog X.w) X.A (PySem.callWith pos (.builtin id) [v] (backTo pos (starEach [e] X.env)) []) (EP X pins σ Q) X.xe s1 := fun id r hm q => by
    have hA := (pa_cons he pa_nil (by rw [hs]; rfl)).run pos pins s1 σ H1 (fun ys H2 => r x ys H2 Q) I1 q
    rw [hs] at hA ⊢
    refine Calls.callWith_builtin rfl (Calls.evalArgs_plain ?_)
    exact thn hA fun us s2 ⟨vs, H2, I2, r2, q2⟩ => hm pins s2 σ H2 x vs v us Q I2 r1 r2 q2
  rcases q1 with ⟨a, xs, rfl, ha, q1⟩ | ⟨a, ob, xs, rfl, ha, hc, hd, q1⟩
  · obtain ⟨h1, h2⟩ := tyV_is (T := "list") I1 r1 (.inl ⟨rfl, xs, SqL.of ha⟩)
    exact ⟨"list", "list.index", PySem.F.plainAttrs_list, PySem.F.slot_list_index, PySem.F.type_list_index, h1, h2, go _ _ mt_index q1⟩
  · obtain rfl : v = Value.ref a := r1
    obtain ⟨h1, _⟩ := I1.hok a _ ha
    exact ⟨"tuple", "tuple.index", PySem.F.plainAttrs_tuple, PySem.F.slot_tuple_index, PySem.F.type_tuple_index, ⟨ob, h1, hc⟩, fun b e => by cases e; exact ⟨ob, h1, hd⟩, go _ _ mt_tup_index q1⟩
theorem r_idx {o a : E} {o' a' : Expr} {apos : Pos} (ho : PE X o' (tE X.K g o)) (ha : PE X a' (tE X.K g a)) (hs : starEach [a'] X.env = [(false, eval a' X.env)]) (hb : attributeBase o' "index" X.env (eval o' X.env) = eval o' X.env)
    (hline : (apos.endLine == pos.line) = true) : PE X (.Call (.Attribute o' "index" apos) [a'] [] pos) (tE X.K g (.mth .index o a)) := by
  refine PE.mono (pe_idx ho ha hs hb hline) fun σ H Q h => mth_main h fun d v F1 H1 s1 hm rep hq => ?_
  cases d <;> simp [meK] at hm
  · rename_i xs
    cases rep with
    | lst hF ra la =>
      rename_i aa vs
      refine .inl ⟨aa, vs, rfl, s1 _ _ hF, hq _ fun y w F2 H2 r s12 s2 rp er nv o => ?_⟩
      have er' : (if (y.atom && xs.all Ev.D.atom) = true then (xs.findIdx? fun z => Ev.D.beq z y).bind fun j => vI (j : Nat) else none) = some r := er
      split at er'
      · rename_i hc
        rw [Bool.and_eq_true] at hc
        have ry := rp.atomF hc.1
        have ra2 := ra.sub s12
        cases e1 : xs.findIdx? fun z => Ev.D.beq z y with
        | none => rw [e1] at er'; cases er'
        | some j =>
          rw [e1] at er'
          cases er'
          obtain ⟨hj, h1, h2⟩ := List.findIdx?_eq_some_iff_getElem.mp e1
          obtain ⟨z, e2, rz⟩ := ra2.get (List.getElem?_eq_getElem hj)
          have at_ : ∀ m (hm : m < xs.length), (xs[m]).atom = true := fun m hm => List.all_eq_true.mp hc.2 _ (List.getElem_mem hm)
          refine ⟨aa, vs, w, j, z, rfl, rfl, SqL.of (s2 _ _ (s12 _ _ hF)), atom_flatV ry hc.1, atoms_flatV ra2 hc.2, e2, by rw [atom_eqV rz ry (at_ j hj) hc.1]; exact h1, fun m z' hm e3 => ?_, o.val s2 (.int _)⟩
          have hm' : m < xs.length := by omega
          obtain ⟨z2, e4, rz2⟩ := ra2.get (List.getElem?_eq_getElem hm')
          rw [e3] at e4
          cases e4
          rw [atom_eqV rz2 ry (at_ m hm') hc.1]
          simpa using h2 m hm
      · cases er'
  · rename_i xs
    cases rep with
    | ctup hF c1 c2 ra la =>
      rename_i aa ob vs
      refine .inr ⟨aa, ob, vs, rfl, s1 _ _ hF, c1, c2, hq _ fun y w F2 H2 r s12 s2 rp er nv o => ?_⟩
      obtain ⟨z, ps, j, rfl, e1, e2, e3, rfl⟩ := idxS_inv er
      obtain ⟨rfl, _⟩ := rp.of_str
      obtain ⟨ev, lv, av⟩ := strs_vals ra e1
      subst ev
      refine ⟨aa, ps.map fun x => (⟨x.toArray⟩ : Str), ⟨z.toArray⟩, j, rfl, rfl, .inl (.inr ⟨_, s2 _ _ (s12 _ _ hF)⟩), by rw [List.getElem?_map, e2]; rfl, fun m hm e => ?_, o.val s2 (.int _)⟩
      rw [List.getElem?_map] at e
      cases e4 : ps[m]? with
      | none => rw [e4] at e; cases e
      | some w =>
        rw [e4] at e
        have : w = z := by simpa using e
        exact e3 m hm (this ▸ e4)
/-! ### x.pop(i) -/
theorem RepL.erase {K : PySem.W.Frag} {c : RC} {F : Hp} : ∀ {ds : List Ev.D} {vs : List V} (i : Nat), RepL K c F ds vs → RepL K c F (ds.eraseIdx i) (vs.eraseIdx i)
  | _, _, _, .nil => .nil
  | _, _, 0, .cons _ t => t
  | _, _, i + 1, .cons r t => .cons r (RepL.erase i t)
theorem Rel.own_upd {K : PySem.W.Frag} {env : Env} {F H : Hp} {σ : L2.St} {x : Nat} {d d' : Ev.D} {a : Addr} {o : HO} (R : RelG K g env F σ H) (hx : env.at x = .own d) (hs : σ[x]? = some (some (.ref a))) (ho : RepO K g.c F d' o) :
    RelG K g (env.set x (.own d')) F σ (upd H a o) := by
  obtain ⟨b, o0, k1, k2, k3, k4, k5⟩ := R.own x _ hx
  rw [hs] at k1
  cases k1
  have hb : back env (some x) (some d') = some (env.set x (.own d')) := by
    show some (env.set x ((env.at x).put d')) = _
    rw [hx]; rfl
  refine R.after (Sub.refl _) (fun b u e => ?_) (some a) (fun b u e n => by rw [upd_ne (fun z => n (by rw [z]))]; exact e) (fun b u e => ?_) (fun b u e => .inl e) (some x) (some d') (fun i e => ?_) (fun e => nomatch e) hb
  · have : b ≠ a := fun z => by subst z; rw [k4] at e; cases e
    rw [upd_ne this]; exact R.sub b u e
  · by_cases z : b = a
    · subst z; exact ⟨_, upd_same⟩
    · exact ⟨u, by rw [upd_ne z]; exact e⟩
  · cases e
    exact ⟨a, d', o, by rw [hx]; rfl, hs, rfl, rfl, upd_same, ho, k4⟩
theorem Stp.own_upd {env envs : Env} {F Fs H Hs : Hp} {σ : L2.St} {x : Nat} {d d' : Ev.D} {a : Addr} {o : HO} (S : Stp σ envs Fs Hs env F H) (hx : env.at x = .own d) (hs : σ[x]? = some (some (.ref a))) : Stp σ envs Fs Hs (env.set x (.own d')) F (upd H a o) := by
  have ow : Owned envs σ a := ⟨x, S.owns x (by rw [hx]; rfl), hs⟩
  have hl : x < env.length := Env.at_lt (by rw [hx]; intro z; cases z)
  refine ⟨S.fsub, fun b u e n => ?_, S.grow, fun i h => ?_, fun b u e => ?_⟩
  · have : b ≠ a := fun z => n (z ▸ ow)
    rw [upd_ne this]; exact S.keep b u e n
  · rw [Env.at_set hl] at h
    by_cases z : x = i
    · subst z; exact S.owns x (by rw [hx]; rfl)
    · rw [if_neg z] at h; exact S.owns i h
  · obtain ⟨w, e2⟩ := S.th b u e
    by_cases z : b = a
    · subst z; exact ⟨_, upd_same⟩
    · exact ⟨w, by rw [upd_ne z]; exact e2⟩
theorem r_popAt {i : Nat} {e : E} {e' : Expr} {x : Str} {apos : Pos} (G : Good X g ck k) (hi : ck.N[i]? = some x) (hv : visB ck.sc x = true) (hn : okName x = true) (he : PE X e' (tE X.K g e)) (hs : starEach [e'] X.env = [(false, eval e' X.env)])
    (hline : (apos.endLine == pos.line) = true) : PE X (.Call (.Attribute (.Name x p) "pop" apos) [e'] [] pos) (tE X.K g (.popAt i e)) := by
  have hx : PE X (.Name x p) (tVar i) := pe_var (by rw [G.N]; exact hi) (by rw [G.sc]; exact visB_ok hv) (okName_ok hn).1 (okName_ok hn).2
  refine PE.mono (pe_bm (r := rPopAt) PySem.F.plainAttrs_list PySem.F.slot_list_pop PySem.F.type_list_pop mt_popAt hx (pa1 he hs) rfl (by rw [hs]; rfl) hline (by rw [hs]; rfl) (by rfl)) fun σ H Q ⟨env, F, R, h⟩ => ?_
  have h' : Post X.K g σ env F H (match env.at i with
    | .own (.lst _) => (ev g e env).bind fun p => (match p.2.at i, peek p.1 p.2 with
      | .own (.lst ds), some (.int k) => (match L2.ixN ds.length k with
        | some j => (match ds[j]? with
          | some d => .ok (.val d, p.2.set i (.own (.lst (ds.eraseIdx j))))
          | none => .bad)
        | none => .bad)
      | _, _ => .bad)
    | _ => .bad) Q := h
  cases q : env.at i with
  | no => rw [q] at h'; exact h'.elim
  | val d => rw [q] at h'; exact h'.elim
  | byr d => rw [q] at h'; exact h'.elim
  | own d =>
    rw [q] at h'
    obtain ⟨a, o, g1, g2, g3, _⟩ := R.own i d q
    rcases g3.two with ⟨ds0, vs0, rfl, rfl, _⟩ | ⟨ks0, ds0, kvs0, rfl, rfl, _⟩
    case inr => exact h'.elim
    refine ⟨_, g1, .inl ⟨rfl, vs0, SqL.of g2⟩, ?_⟩
    refine tE_bind R .refl h' fun p v F1 H1 R1 S1 S1' r1 h1 => ?_
    split at h1
    · rename_i ds kk q2 e2
      obtain rfl := (R1.peek r1 e2).of_int
      obtain ⟨b, o, k1, k2, k3, k4, k5⟩ := R1.own i _ q2
      rw [g1] at k1; cases k1
      obtain ⟨vs, rfl, rl, ll⟩ := k3.lstD
      split at h1
      · rename_i j ej
        split at h1
        · rename_i d ed
          obtain ⟨sq, jl, lo, hi'⟩ := ixN_seq ej
          obtain ⟨w, ew, rw'⟩ := rl.get ed
          have hl := rl.length
          have ll' : ds.length ≤ 16777216 := ll
          refine ⟨a, vs, kk, j, w, rfl, rfl, k2, by omega, by omega, by rw [← hl]; exact sq, ew, ?_⟩
          have ro : RepO X.K g.c F1 (.lst (ds.eraseIdx j)) (.lst (vs.eraseIdx j)) := ⟨rl.erase j, by have := List.length_eraseIdx_le ds j; omega⟩
          exact h1 w F1 _ (Rel.own_upd R1 q2 g1 ro) (Stp.own_upd S1' q2 g1) rw'
        · exact h1.elim
      · exact h1.elim
    · exact h1.elim
/-! ### x[i] += e -/
def rGetL (K : PySem.W.Frag) : V → V → Hp → VK → Prop := fun o i H Q => ∃ p xs k z, o = V.ref p ∧ i = V.int k ∧ SqL K H p xs ∧ atI xs k = some z ∧ Q z H
theorem get_list : PGet X (rGetL X.K) := by
  intro pins s σ H x y v u Q I rx ry h
  obtain ⟨p, xs, i, z, rfl, rfl, hq, he, q⟩ := h
  cases rx
  obtain ⟨t, rfl⟩ := ry
  obtain ⟨its, r, pl, hz⟩ := I.list hq
  obtain ⟨j, h1, h2, h3, h4, h5⟩ := atI_get he
  obtain ⟨w, ew, rw'⟩ := r.get h2
  have hl := r.length
  have hn := line63
  have fin : EP X pins σ Q w s := ⟨z, H, I, rw', q⟩
  by_cases h0 : 0 ≤ i
  · have hj : i.toNat = j := by
      rw [seqIndex_of h0 h5] at h1
      exact Option.some.inj h1
    exact wpAny_getItem_list pl.isList h0 (by omega) (by rw [hj]; simpa using ew) fin
  · have hj : (i + (its.toArray.size : Int)).toNat = j := by
      rw [seqIndex_neg (by omega) h4] at h1
      rw [List.size_toArray, ← hl]
      exact Option.some.inj h1
    exact wpAny_getItem_list_neg pl.isList (by omega) (by rw [List.size_toArray] <;> omega) (by omega) (by rw [hj]; simpa using ew) fin
theorem mineL_inv {s : Sl} {ds : List Ev.D} (h : mineL s = some ds) : s = .own (.lst ds) ∨ s = .byr (.lst ds) := by
  unfold mineL at h
  split at h
  · cases h; exact .inl rfl
  · cases h; exact .inr rfl
  · cases h
theorem Rel.mine_at {K : PySem.W.Frag} {c : RC} {H0 : Hp} {bs : List (Nat × Addr)} {env : Env} {F H : Hp} {σ : L2.St} {x : Nat} {ds : List Ev.D} (R : Rel K c H0 bs env F σ H) (h : mineL (env.at x) = some ds) : ∃ a vs, σ[x]? = some (some (.ref a)) ∧ H a = some (.lst vs) ∧ RepL K c F ds vs ∧ ds.length ≤ LIM := by
  rcases mineL_inv h with q | q
  · obtain ⟨a, o, k1, k2, k3, _⟩ := R.own x _ q
    obtain ⟨vs, rfl, rl, ll⟩ := k3.lstD
    exact ⟨a, vs, k1, k2, rl, ll⟩
  · obtain ⟨a, o, k1, k2, k3, _⟩ := R.byr x _ q
    obtain ⟨vs, rfl, rl, ll⟩ := k3.lstD
    exact ⟨a, vs, k1, k2, rl, ll⟩
theorem s_putAug {v ix : E} {v' ix' : Expr} {i : Nat} {x : Str} {ipos : Pos} (G : Good X g ck k) (hi : ck.N[i]? = some x) (hv : visB ck.sc x = true) (hn : okName x = true) (hev : PE X v' (tE X.K g v)) (hei : PE X ix' (tE X.K g ix))
    (ha : ∀ ov iv new, augStore ix' ov iv new = (do holding [new, ov, iv] (setItem ov iv new); release [new, ov, iv] []; pure .next)) : PS X (.AugAssign (.Subscript (.Name x p) ix' ipos) .Add v' pos) (tS X.K g (.putAug i ix .add v)) := by
  have hx : PE X (.Name x p) (tVar i) := pe_var (by rw [G.N]; exact hi) (by rw [G.sc]; exact visB_ok hv) (okName_ok hn).1 (okName_ok hn).2
  refine PS.mono (ps_augS hx hei get_list hev ip_add set_list ha) fun D σ H ⟨F0, env, F, R, h⟩ => ?_
  have h' : PostS X.K g F0 D (if (env.at i).mine = true then (ev g ix env).bind fun q =>
    match mineL (q.2.at i), peek q.1 q.2 with
    | some ds, some (.int k) => (match L2.atI ds k with
      | some (.int a) => (ev g v q.2).bind fun p => (match mineL (p.2.at i), peek p.1 p.2, BOp.add with
        | some ds', some (.int b), .add => (match L2.ixN ds'.length k with
          | some j => .ok (.nx (p.2.set i ((p.2.at i).put (.lst (ds'.set j (.int (a + b)))))))
          | none => .bad)
        | _, _, _ => .bad)
      | _ => .bad)
    | _, _ => .bad
    else .bad) := h
  by_cases hm : (env.at i).mine = true
  · rw [if_pos hm] at h'
    obtain ⟨a, g1⟩ : ∃ a, σ[i]? = some (some (.ref a)) := by
      cases q : env.at i with
      | no => rw [q] at hm; cases hm
      | val d => rw [q] at hm; cases hm
      | own d => obtain ⟨a, o, k1, _⟩ := R.rel.own i d q; exact ⟨a, k1⟩
      | byr d => obtain ⟨a, o, k1, _⟩ := R.rel.byr i d q; exact ⟨a, k1⟩
    refine ⟨_, g1, ?_⟩
    refine tE_s R h' fun p1 w F1 H1 R1 S1 r1 h1 => ?_
    split at h1
    · rename_i ds kk e1 e2
      obtain rfl := (R1.rel.peek r1 e2).of_int
      obtain ⟨b, vs, k1, k2, rl, ll⟩ := R1.rel.mine_at e1
      rw [g1] at k1; cases k1
      split at h1
      · rename_i aa ea
        obtain ⟨z, ez, rz⟩ := rl.at ea
        cases rz
        refine ⟨a, vs, kk, .int aa, rfl, rfl, SqL.of k2, ez, ?_⟩
        refine tE_s R1 h1 fun p2 w2 F2 H2 R2 S2 r2 h2 => ?_
        split at h2
        · rename_i ds' bb e3 e4 _
          obtain rfl := (R2.rel.peek r2 e4).of_int
          obtain ⟨b, vs', k1, k2', rl', ll'⟩ := R2.rel.mine_at e3
          rw [g1] at k1; cases k1
          split at h2
          · rename_i j ej
            refine ⟨aa, bb, rfl, rfl, a, vs', kk, j, rfl, rfl, k2', by rw [← rl'.length]; exact ej, ?_⟩
            have mi := mineL_inv e3
            exact h2 σ F2 _ (upd_rel (d := .lst ds') R2 mi g1 ⟨RepL.set (.int (aa + bb)) j rl', by rw [List.length_set]; exact ll'⟩)
          · exact h2.elim
        · exact h2.elim
      · exact h1.elim
    · exact h1.elim
  · rw [if_neg hm] at h'
    exact h'.elim
end
end Ev
namespace Ev
open PySem PySem.Spec PyProof.Rows L2
section
variable {X : Cx} {g : Gh} {ck : Ck} {k : Nat} {pos p p2 : Pos}
/-! ### errors: raised -/
theorem s_raise {c : Nat} {a : E} {a' : Expr} {x : Str} (G : Good X g ck k) (hc : g.T.cname c = some x) (hg : glB ck.sc x = true) (hok : okName x = true) (ha : PE X a' (tE X.K g a)) (hs : ∀ es, starEach (a' :: es) X.env = (false, eval a' X.env) :: starEach es X.env) :
    PS X (.Raise (some (.Call (.Name x p) [a'] [] p2)) none pos) (tS X.K g (.raise c a)) := by
  have E := G.prog.err (Nat.lt_of_le_of_lt (Nat.zero_le _) ((G.prog.nc c).mp ⟨x, hc⟩))
  obtain ⟨D, fI, fd, tI, bI, FI, U⟩ := E.ini
  obtain ⟨Uc, iC⟩ := U c x hc
  have hgl : Gl X x := by show X.env.scope.names.lookup _ = _; rw [G.sc]; exact glB_ok hg
  have hx : Passes (L2.CX X.prog X.w) X (fun _ _ _ => False) := fun pins σ H s e s' I z => by
    obtain ⟨_, _, _, _, _, _, _, _, _, _, _, _, z⟩ := z
    exact z.elim
  refine PS.mono (ps_raise G.calm G.tk (pmk_oex Uc.ox iC tI FI (G.room.mono G.deep) bI .nil hx hgl (E.cls c x hc).1 (pa_cons ha pa_nil (hs _)) (okName_ok hok).1 (hs _) rfl)) fun Dn σ H ⟨F0, env, F, R, h⟩ => ?_
  have h' : PostS X.K g F0 Dn ((ev g a env).bind fun p => (Res.of (asVal p.1 p.2)).bind fun z => .exc c z.1) := h
  refine tE_sv R h' fun z v F1 H1 R1 S1 rep h1 => ?_
  refine ⟨by show 1 ≤ 1000; decide, fun e hne => ⟨e, g.c.ca c, v, rfl, Uc, upd_same, fun dx hdx ne => ⟨rfl, dx, [("value", v)], upd_same, by rw [upd_ne ne, upd_same], by rw [upd_ne ne] at hdx; exact hdx, ?_⟩⟩⟩
  have hd1 : H1 dx = none := by rw [upd_ne ne] at hdx; exact hdx
  have same : ∀ b o, H1 b = some o → upd (del (upd (upd (upd H1 e (exo e (g.c.ca c) none)) dx (exd dx [("value", v)])) e (exo e (g.c.ca c) (some dx))) e) dx (.xd [("value", v)]) b = some o := fun b o q => by
    have n1 : b ≠ dx := fun z => by rw [z, hd1] at q; cases q
    have n2 : b ≠ e := fun z => by rw [z, hne] at q; cases q
    rw [upd_ne n1, del_ne n2, upd_ne n2, upd_ne n1, upd_ne n2]; exact q
  exact h1 σ dx v F1 _ R1.sub (fun b o q => same b o (R1.rel.sub b o q)) (fun b o q n => same b o (R1.rel.ext b o q n)) (fun b o q => R1.bk b o q) (RelS.none R1 hd1) ((G.prog.nc c).mp ⟨x, hc⟩) upd_same rep
/-! ### texts that store nothing -/
def PostC (K : PySem.W.Frag) (g : Gh) (σ : L2.St) (env : Env) (F H : Hp) (D : Ends) : Res Fl → Prop
  | .ok (.nx e) => ∀ F' H', RelG K g e F' σ H' → Stp σ env F H e F' H' → D.nx σ H'
  | .exc k d => PostX K g σ env F H k d
  | _ => False
def tC' (K : PySem.W.Frag) (g : Gh) (s : S) : TS := fun D σ H => ∃ env F, RelG K g env F σ H ∧ PostC K g σ env F H D (evS g s env)
def tCs (K : PySem.W.Frag) (g : Gh) (s : Ss) : TS := fun D σ H => ∃ env F, RelG K g env F σ H ∧ PostC K g σ env F H D (evSs g s env)
mutual
def calm : S → Bool
  | .expr _ => true
  | .iff _ a b => calms a && calms b
  | .pass => true
  | _ => false
def calms : Ss → Bool
  | .nil => true
  | .cons s r => calm s && calms r
end
theorem PostC.from {K : PySem.W.Frag} {σ : L2.St} {env envs : Env} {F H Fs Hs : Hp} {D : Ends} {res : Res Fl} (S : Stp σ envs Fs Hs env F H) (h : PostC K g σ envs Fs Hs D res) : PostC K g σ env F H D res := by
  cases res with
  | ok f => cases f with
    | nx e => exact fun F' H' R' S' => h F' H' R' (S.trans S')
    | _ => exact h.elim
  | exc k d => exact PostX.from S h
  | bad => exact h.elim
theorem c_expr {e : E} {e' : Expr} (he : PE X e' (tE X.K g e)) (hs : swapsWith e' none pos.line X.env = pure false) : PS X (.Expr e' pos) (tC' X.K g (.expr e)) := by
  refine PS.mono (ps_expr he hs) fun D σ H ⟨env, F, R, h⟩ => ?_
  have h' : PostC X.K g σ env F H D ((ev g e env).bind fun p => .ok (.nx p.2)) := h
  refine ⟨env, F, R, ?_⟩
  cases q : ev g e env with
  | ok p => rw [q] at h'; exact fun v F1 H1 R1 S1 _ => h' F1 H1 R1 S1
  | exc k d => rw [q] at h'; exact h'
  | bad => rw [q] at h'; exact h'.elim
theorem c_pass : PS X (.Pass pos) (tC' X.K g .pass) :=
  PS.mono ps_pass fun D σ H ⟨env, F, R, h⟩ => (show PostC X.K g σ env F H D (.ok (.nx env)) from h) F H R .refl
theorem cs_nil : PSs X [] (tCs X.K g .nil) :=
  PSs.mono pss_nil fun D σ H ⟨env, F, R, h⟩ => (show PostC X.K g σ env F H D (.ok (.nx env)) from h) F H R .refl
theorem cs_cons {s : S} {r : Ss} {st : Stmt} {sts : List Stmt} (hs : PS X st (tC' X.K g s)) (hr : PSs X sts (tCs X.K g r)) : PSs X (st :: sts) (tCs X.K g (.cons s r)) := by
  refine PSs.mono (pss_cons hs hr) fun D σ H ⟨env, F, R, h⟩ => ?_
  have h' : PostC X.K g σ env F H D ((evS g s env).bind fun f => match f with
    | .nx e1 => evSs g r e1
    | z => .ok z) := h
  refine ⟨env, F, R, ?_⟩
  cases q : evS g s env with
  | ok f =>
    rw [q] at h'
    cases f with
    | nx e1 => exact fun F' H' R' S' => ⟨e1, F', R', PostC.from S' h'⟩
    | _ => exact h'.elim
  | exc k d => rw [q] at h'; exact h'
  | bad => rw [q] at h'; exact h'.elim
theorem c_if {c : E} {a b : Ss} {c' : Expr} {a' b' : List Stmt} (hc : PT X c' (tT X.K g c)) (ha : PSs X a' (tCs X.K g a)) (hb : PSs X b' (tCs X.K g b)) : PS X (.If c' a' b' pos) (tC' X.K g (.iff c a b)) := by
  refine PS.mono (ps_if hc ha hb) fun D σ H ⟨env, F, R, h⟩ => ?_
  have h' : PostC X.K g σ env F H D ((tst (ev g c env)).bind fun p => if p.1 then evSs g a p.2 else evSs g b p.2) := h
  refine ⟨env, F, R, ?_⟩
  cases q : tst (ev g c env) with
  | ok p =>
    rw [q] at h'
    intro v F1 H1 R1 S1 r1
    have r1' : p.1 = v := r1
    subst r1'
    have h2 : PostC X.K g σ env F H D (if p.1 = true then evSs g a p.2 else evSs g b p.2) := h'
    cases z : p.1 with
    | true =>
      rw [z, if_pos rfl] at h2
      exact ⟨p.2, F1, R1, PostC.from S1 h2⟩
    | false =>
      rw [z, if_neg (by simp)] at h2
      exact ⟨p.2, F1, R1, PostC.from S1 h2⟩
  | exc k d => rw [q] at h'; exact h'
  | bad => rw [q] at h'; exact h'.elim
end
end Ev
namespace Ev
open PySem PySem.Spec PyProof.Rows L2
/-- a def's own context -/
structure TopX (X : Cx) : Prop where
  ex : X.ex = []
  stack : X.stack = X.env :: X.outer
  frame : X.env.frame = some X.env.locals
section
variable {X : Cx} {g : Gh} {ck : Ck} {k : Nat} {pos p p2 : Pos}
theorem Good.tr (G : Good X g ck k) {W : WX} {pn : List (Addr × Obj)} {xe : Value → Shared → Prop} (tk : Takes (X.tr pn xe) W) : Good (X.tr pn xe) { g with W := W } ck k where
  N := G.N
  sc := G.sc
  nd := G.nd
  calm := G.calm
  st := G.st
  room := G.room
  gd := G.gd
  deep := G.deep
  tk := tk
  pass := fun σ => passAt tk σ
  prog := G.prog
theorem safe_at (env : Env) (l : Nat) : (safeE env).at l = (env.at l).safe := by
  unfold safeE Env.at
  rw [List.getD_eq_getElem?_getD, List.getD_eq_getElem?_getD, List.getElem?_map]
  cases env[l]? <;> rfl
theorem safe_mine {s : Sl} : s.safe.mine = false := by cases s <;> rfl
theorem safe_val {s : Sl} {d : D} (h : s.safe = .val d) : s = .val d := by cases s <;> first | exact h | cases h
theorem noByr_at {env : Env} (h : env.all Sl.noByr = true) {l : Nat} {d : D} (e : env.at l = .byr d) : False := by
  unfold Env.at at e
  rw [List.getD_eq_getElem?_getD] at e
  cases q : env[l]? with
  | none => rw [q] at e; cases e
  | some s =>
    rw [q] at e
    have e' : s = .byr d := e
    have := List.all_eq_true.mp h s (List.mem_of_getElem? q)
    rw [e'] at this; cases this
theorem s_tryK {body : Ss} {c i j : Nat} {x n m : Str} {b' : List Stmt} {np pm pv pa pos' : Pos} (G : Good X g ck k) (ht : TopX X) (hc : g.T.cname c = some x) (hg : glB ck.sc x = true) (hok : okName x = true) (hi : ck.N[i]? = some n) (hj : ck.N[j]? = some m) (hln : ck.sc.names.lookup n = some .local) (hlm : ck.sc.names.lookup m = some .local) (hn : okName n = true)
    (hb : ∀ (W : WX) (pn : List (Addr × Obj)) (xe : Value → Shared → Prop), Good (X.tr pn xe) { g with W := W } ck k → PSs (X.tr pn xe) b' (tCs X.K { g with W := W } body)) (hsw : ∀ env : PySem.Env, swapsWith (.Name n pv) (some (.Name m pm)) pa.line env = pure false) :
    PS X (.Try b' [.ExceptHandler (some (.Name x np)) (some n) [.Assign [.Name m pm] (.Name n pv) pa] pos'] [] [] pos) (tS X.K g (.tryK body c i j)) := by
  have E := G.prog.err (Nat.lt_of_le_of_lt (Nat.zero_le _) ((G.prog.nc c).mp ⟨x, hc⟩))
  by_cases hij : i = j
  · refine ⟨fun pins s σ H D I ⟨F0, env, F, R, h⟩ => ?_⟩
    have h' : PostS X.K g F0 D (if (decide (i ≠ j) && decide (i < env.length) && decide (j < env.length) && env.all Sl.noByr) = true then (match evSs g body env with
      | .exc k d => if subX k c = true then .ok (.nx (((safeE env).set j (.val (.exc k d))).set i .no)) else .exc k d
      | .ok (.nx e1) => .ok (.nx e1)
      | _ => .bad) else .bad) := h
    rw [if_neg (by rw [decide_eq_false (fun z => z hij)]; simp)] at h'
    exact h'.elim
  refine PS.mono (Xc.ps_try_keep (x := x) (n := n) (m := m) (c := .ref (g.c.ca c)) (i := i) (j := j) (tb := fun W => tCs X.K { g with W := W } body) (Wout := g.W) ht.ex ht.stack ht.frame (by rw [G.N]; exact G.nd) (by rw [G.N]; exact hi) (by rw [G.N]; exact hj) hij (by show X.env.scope.names.lookup n = _; rw [G.sc]; exact hln) (by show X.env.scope.names.lookup m = _; rw [G.sc]; exact hlm)
    (okName_ok hn).1 (okName_ok hn).2 ⟨by show X.env.scope.names.lookup x = _; rw [G.sc]; exact glB_ok hg, (okName_ok hok).1, .inl (E.cls c x hc).1⟩ G.tk (fun W pn xe tk _ => hb W pn xe (G.tr tk)) hsw) fun D σ H ⟨F0, env, F, R, h⟩ => ?_
  have h' : PostS X.K g F0 D (if (decide (i ≠ j) && decide (i < env.length) && decide (j < env.length) && env.all Sl.noByr) = true then (match evSs g body env with
      | .exc k d => if subX k c = true then .ok (.nx (((safeE env).set j (.val (.exc k d))).set i .no)) else .exc k d
      | .ok (.nx e1) => .ok (.nx e1)
      | _ => .bad) else .bad) := h
  by_cases hcond : (decide (i ≠ j) && decide (i < env.length) && decide (j < env.length) && env.all Sl.noByr) = true
  · rw [if_pos hcond] at h'
    simp only [Bool.and_eq_true, decide_eq_true_eq] at hcond
    obtain ⟨⟨⟨_, hil⟩, hjl⟩, hnb⟩ := hcond
    have free : ∀ b o, g.H0 b = some o → ¬ Owned env σ b := fun b o e ⟨l, z1, z2⟩ => by
      cases q : env.at l with
      | no => rw [q] at z1; cases z1
      | val d => rw [q] at z1; cases z1
      | own d =>
        obtain ⟨a', _, k1, _, _, _, k5⟩ := R.rel.own l d q
        rw [z2] at k1; cases k1
        rw [e] at k5; cases k5
      | byr d => exact noByr_at hnb q
    refine ⟨env, F, R.rel, ?_⟩
    show PostC X.K { g with W := Xc.wKeep X.K (.ref (g.c.ca c)) i j g.W D } σ env F H D (evSs g body env)
    cases er : evSs g body env with
    | bad => rw [er] at h'; exact h'.elim
    | ok f =>
      rw [er] at h'
      cases f with
      | nx e1 => exact fun F' H' R' S' => h' σ F' H' (R.step S' R')
      | _ => exact h'.elim
    | exc kk d =>
      rw [er] at h'
      intro dx w F' H' s1 s2 kp gr h0 hk hx rep
      obtain ⟨y, hy⟩ := (G.prog.nc kk).mpr hk
      refine ⟨subX kk c, (E.sub kk y c x hy hc).1, fun hb1 a na => ⟨g.c.ca kk, dx, rfl, rfl, ?_⟩, fun hb0 => ?_⟩
      · have h2 : PostS X.K g F0 D (.ok (.nx (((safeE env).set j (.val (.exc kk d))).set i .no))) := by
          have h2 : PostS X.K g F0 D (if subX kk c = true then .ok (.nx (((safeE env).set j (.val (.exc kk d))).set i .no)) else .exc kk d) := h'
          rw [if_pos hb1] at h2; exact h2
        have nda : dx ≠ a := fun z => by rw [z, na] at hx; cases hx
        have there : ∀ b o, g.H0 b = some o → ∃ u, H' b = some u := fun b o e => by
          obtain ⟨u, eu⟩ := R.rel.th b o e
          exact ⟨u, kp b u eu (free b o e)⟩
        have h0a : g.H0 a = none := by
          cases q : g.H0 a with
          | none => rfl
          | some o => obtain ⟨u, e⟩ := there a o q; rw [na] at e; cases e
        let F2 : Hp := fun b => if b = a then some (ExV (g.c.ca kk) a dx) else if b = dx then some (.xd [("value", w)]) else F' b
        have f2a : F2 a = some (ExV (g.c.ca kk) a dx) := if_pos rfl
        have f2d : F2 dx = some (.xd [("value", w)]) := by show (if dx = a then _ else if dx = dx then _ else _) = _; rw [if_neg nda, if_pos rfl]
        have f2o : ∀ b, b ≠ a → b ≠ dx → F2 b = F' b := fun b n1 n2 => by show (if b = a then _ else if b = dx then _ else _) = _; rw [if_neg n1, if_neg n2]
        have sub2 : Sub F' F2 := fun b o e => by
          have n1 : b ≠ a := fun z => by have := s2 b o e; rw [z, na] at this; cases this
          by_cases n2 : b = dx
          · have := s2 b o e
            rw [n2, hx] at this
            rw [n2, f2d, this]
          · rw [f2o b n1 n2]; exact e
        have lenS : (safeE env).length = env.length := by unfold safeE; rw [List.length_map]
        have at2 : ∀ l, Env.at (((safeE env).set j (.val (.exc kk d))).set i .no) l = if l = i then .no else if l = j then .val (.exc kk d) else (env.at l).safe := fun l => by
          rw [Env.at_set (by rw [List.length_set, lenS]; exact hil), Env.at_set (by rw [lenS]; exact hjl), safe_at]
          by_cases z : i = l
          · rw [if_pos z, if_pos z.symm]
          · rw [if_neg z, if_neg (Ne.symm z)]
            by_cases z2 : j = l
            · rw [if_pos z2, if_pos z2.symm]
            · rw [if_neg z2, if_neg (Ne.symm z2)]
        have nomine : ∀ l, (Env.at (((safeE env).set j (.val (.exc kk d))).set i .no) l).mine = false := fun l => by
          rw [at2]
          split
          · rfl
          · split
            · rfl
            · exact safe_mine
        refine h2 _ F2 _ ⟨⟨fun b o e => ?_, ?_, fun l d0 q => ?_, fun l d0 q => ?_, fun l d0 q => ?_, fun l1 l2 b m1 => ?_, fun b o e n => ?_, fun b o e => ?_⟩, R.sub.trans (s1.trans sub2), fun b o e => ?_⟩
        · by_cases n1 : b = a
          · subst n1
            rw [f2a] at e; rw [upd_same]; exact e
          · rw [upd_ne n1]
            by_cases n2 : b = dx
            · rw [n2, f2d] at e; rw [n2, hx]; exact e
            · rw [f2o b n1 n2] at e; exact s2 b o e
        · rw [List.length_set, List.length_set, lenS, List.length_set, List.length_set, List.length_set, R.rel.len]
        · rw [at2] at q
          by_cases z : l = i
          · rw [if_pos z] at q; cases q
          · rw [if_neg z] at q
            by_cases z2 : l = j
            · rw [if_pos z2] at q
              cases q
              refine ⟨.ref a, ?_, .exc hk f2a f2d (rep.sub sub2)⟩
              subst z2
              rw [List.getElem?_set_ne (Ne.symm z), List.getElem?_set_self (by rw [List.length_set, ← R.rel.len]; exact hjl)]
            · rw [if_neg z2] at q
              obtain ⟨v, k1, k2⟩ := R.rel.val l d0 (safe_val q)
              refine ⟨v, ?_, k2.sub (s1.trans sub2)⟩
              rw [List.getElem?_set_ne (Ne.symm z), List.getElem?_set_ne (Ne.symm z2), List.getElem?_set_ne (Ne.symm z)]
              exact k1
        · have := nomine l; rw [q] at this; cases this
        · have := nomine l; rw [q] at this; cases this
        · rw [nomine l1] at m1; cases m1
        · have := kp b o (R.rel.ext b o e n) (free b o e)
          rw [upd_ne (fun z => by rw [z, na] at this; cases this)]; exact this
        · obtain ⟨u, eu⟩ := there b o e
          exact ⟨u, by rw [upd_ne (fun z => by rw [z, na] at eu; cases eu)]; exact eu⟩
        · by_cases n1 : b = a
          · rw [n1]; exact .inr (.inl h0a)
          · by_cases n2 : b = dx
            · rw [n2]; exact .inr (.inl (RelS.none R h0))
            · rw [f2o b n1 n2] at e
              rcases gr b o e with z | z | ⟨l, z1, z2⟩
              · exact R.bk b o z
              · exact .inr (.inl (RelS.none R z))
              · cases q : env.at l with
                | no => rw [q] at z1; cases z1
                | val d => rw [q] at z1; cases z1
                | own d =>
                  obtain ⟨a', _, k1, _, _, _, k5⟩ := R.rel.own l d q
                  rw [z2] at k1; cases k1
                  exact .inr (.inl k5)
                | byr d => exact (noByr_at hnb q).elim
      · have h2 : PostS X.K g F0 D (.exc kk d) := by
          have h2 : PostS X.K g F0 D (if subX kk c = true then .ok (.nx (((safeE env).set j (.val (.exc kk d))).set i .no)) else .exc kk d) := h'
          rw [if_neg (by rw [hb0]; simp)] at h2; exact h2
        exact R.x h2 dx w F' H' s1 s2 kp gr h0 hk hx rep
  · rw [if_neg hcond] at h'
    exact h'.elim
end
end Ev
namespace Ev
open PySem PySem.Spec PyProof.Rows L2
/-! ### a dict written out, its keys texts -/
def keyS (x : List Nat) : Str := ⟨x.toArray⟩
structure PPx (X : Cx) (pos : Pos) (keys : List (Option Expr)) (values : List Expr) (ks : List (List Nat)) (t : TA) : Prop where
  run : ∀ (pins : List (Addr × Obj)) (s : Shared) (σ : L2.St) (H : Hp) (Q : List V → Hp → Prop), Inv X pins σ H s → t σ H Q →
    wpAny (model X.prog X.w) X.A (evalPairs (pairTrees keys values X.env pos)) (fun ws s' => ∃ vs H', Inv X pins σ H' s' ∧ vs.length = ks.length ∧ VV ((ks.zip vs).map fun p => (V.str (keyS p.1), p.2)) ws ∧ Q vs H') X.xe s
section
variable {X : Cx} {g : Gh} {ck : Ck} {k : Nat} {pos p p2 : Pos}
theorem PPx.mono {keys : List (Option Expr)} {values : List Expr} {ks : List (List Nat)} {t t' : TA} (h : PPx X pos keys values ks t) (m : ∀ σ H Q, t' σ H Q → t σ H Q) : PPx X pos keys values ks t' := ⟨fun pins s σ H Q I q => h.run pins s σ H Q I (m σ H Q q)⟩
theorem ppx_nil : PPx X pos [] [] [] (fun _ H Q => Q [] H) := ⟨fun pins s σ H Q I h => pairTrees_nil_walk ⟨[], H, I, rfl, .nil, h⟩⟩
theorem ppx_cons {x : List Nat} {j : Nat} {kp : Pos} {v : Expr} {ks : List (Option Expr)} {vs : List Expr} {xs : List (List Nat)} {tv : TE} {t : TA} (hv : PE X v tv) (hr : PPx X pos ks vs xs t) :
    PPx X pos (some (.Constant (.str (keyS x)) j kp) :: ks) (v :: vs) (x :: xs) (fun σ H Q => tv σ H fun y H1 => t σ H1 fun ys H2 => Q (y :: ys) H2) := ⟨fun pins s σ H Q I h =>
  pairTrees_cons_walk (thn (pe_str.run pins s σ H (fun y H1 => y = .str (keyS x) ∧ H1 = H) I ⟨rfl, rfl⟩) fun u s1 ⟨x', H1, I1, rx, q1⟩ => by
    obtain ⟨rfl, rfl⟩ := q1
    exact thn (hv.run pins s1 σ _ _ I1 h) fun w2 s2 ⟨y, H2, I2, ry, q2⟩ =>
      thn (hr.run pins s2 σ H2 _ I2 q2) fun ws s3 ⟨ps, H3, I3, hl, rel, q3⟩ => ⟨y :: ps, H3, I3, by simp [hl], .cons ⟨rx, ry⟩ rel, q3⟩)⟩
theorem ppx_ds_nil : PPx X pos [] [] [] (tDs X.K g .nil) := ppx_nil.mono fun σ H Q ⟨env, F, R, h⟩ => by
  have h' : PostD X.K g σ env F H (.ok ([], env)) Q := h
  exact h' [] F H R .refl .nil
theorem ppx_ds_cons {a : E} {r : Es} {v : Expr} {x : List Nat} {j : Nat} {kp : Pos} {ks : List (Option Expr)} {vs : List Expr} {xs : List (List Nat)} (ha : PE X v (tE X.K g a)) (hr : PPx X pos ks vs xs (tDs X.K g r)) :
    PPx X pos (some (.Constant (.str (keyS x)) j kp) :: ks) (v :: vs) (x :: xs) (tDs X.K g (.cons false a r)) :=
  (ppx_cons ha hr).mono fun σ H Q h => r_item h fun d v xs F2 H1 env2 e rep R2 hq => hq _ fun ds vs F3 H3 s1 s2 rl hw => by
    cases e
    exact hw [v] (.cons (rep.sub s1) .nil)
def tDispx (ks : List (List Nat)) (t : TA) : TE := fun σ H Q => ∀ p, H p = none → t σ (upd H p (.dK [])) fun vs H2 => H2 p = some (.dK []) ∧ ks.length ≤ 15 ∧ Q (.ref p) (upd H2 p (.dK (mergeK [] ((ks.zip vs).map fun q => ((.inr (keyS q.1) : Key), q.2)))))
theorem pe_dispx {keys : List (Option Expr)} {values : List Expr} {ks : List (List Nat)} {t : TA} (h : PPx X pos keys values ks t) (hall : keys.all (·.isSome) = true) (hl : keys.length = values.length) (h0 : keys ≠ [])
    (h15 : keys.length ≤ 15) : PE X (.Dict keys values pos) (tDispx ks t) := by
  refine ⟨fun pins s σ H Q I q => ?_⟩
  have hn := I.hok.fresh (Nat.le_refl s.heap.objs.size)
  have I1 := I.laid (a := s.heap.objs.size) (o := .dK []) (h' := s.heap.push { cls := .type "dict", data := .dict #[] }) (t' := s.toks) (fun _ _ q => Heap.get?_push_of_some _ q) (Nat.le_refl _) (dk_empty s.heap I.big)
  refine wpAny_Dict_walk (knd := mixKind X.prog X.w) hall hl h0 h15 (thn (h.run pins _ σ _ _ I1 (q _ hn)) fun ws s2 ⟨vs, H2, I2, hlen, rel, e, h15', q2⟩ => ?_)
  have rel2 : VV (((ks.zip vs).map fun q => ((.inr (keyS q.1) : Key), q.2)).map fun kv => (kV kv.1, kv.2)) ws := by
    rw [List.map_map]; exact rel
  obtain ⟨rs, c, rk⟩ := carries_of (P := X.prog) (w := X.w) rel2
  obtain ⟨z, hd, vs0, r0, dd⟩ := dk_of I2.hok e
  cases r0
  refine ⟨rs, c, dd, fun h' dd' hs => ⟨.ref s.heap.objs.size, _, ?_, rfl, q2⟩⟩
  have hz : (mergeK [] ((ks.zip vs).map fun q => ((.inr (keyS q.1) : Key), q.2))).length ≤ sizeLine := by
    have h1 := length_mergeK ((ks.zip vs).map fun q => ((.inr (keyS q.1) : Key), q.2)) []
    rw [List.length_nil, List.length_map, List.length_zip] at h1
    rw [sizeLine_eq]; omega
  have he : ∃ q, h'.get? s.heap.objs.size = some q := let ⟨q, _, _, hq, _⟩ := dd'; ⟨q, hq⟩
  exact d_write I2 (by rw [e]; exact True.intro) hs he (dk_new hz hd (rk.merge .nil) dd')
theorem keyS_inj {x y : List Nat} (h : keyS x = keyS y) : x = y := by simpa [keyS] using h
theorem merge_nodup : ∀ (ks : List (List Nat)) (vs : List V) (acc : List (Key × V)), ks.Nodup → (∀ x ∈ ks, valV acc (.inr (keyS x)) = none) → mergeK acc ((ks.zip vs).map fun q => ((.inr (keyS q.1) : Key), q.2)) = acc ++ (ks.zip vs).map fun q => ((.inr (keyS q.1) : Key), q.2)
  | [], _, acc, _, _ => by simp [mergeK]
  | _ :: _, [], acc, _, _ => by simp [mergeK]
  | x :: ks, v :: vs, acc, hn, ha => by
    have n1 := List.nodup_cons.mp hn
    have e := putK_new v (ha x (List.mem_cons_self ..))
    have ih := merge_nodup ks vs (acc ++ [((.inr (keyS x) : Key), v)]) n1.2 fun y hy => by
      have hxy : ¬ (.inr (keyS y) : Key) = (.inr (keyS x) : Key) := fun z => by
        have := keyS_inj (Sum.inr.inj z)
        subst this
        exact n1.1 hy
      rw [valV_snoc (.inr (keyS x)) (.inr (keyS y)) v acc (ha x (List.mem_cons_self ..)), if_neg hxy]
      exact ha y (List.mem_cons_of_mem _ hy)
    show (((ks.zip vs).map fun q => ((.inr (keyS q.1) : Key), q.2)).foldl (fun acc kv => putK acc kv.1 kv.2) (putK acc (.inr (keyS x)) v)) = _
    rw [e]
    rw [show acc ++ ((x :: ks).zip (v :: vs)).map (fun q => ((.inr (keyS q.1) : Key), q.2)) = (acc ++ [((.inr (keyS x) : Key), v)]) ++ (ks.zip vs).map fun q => ((.inr (keyS q.1) : Key), q.2) by simp]
    exact ih
theorem r_dis {ks : List (List Nat)} {es : Es} {keys : List (Option Expr)} {values : List Expr} (h : PPx X pos keys values ks (tDs X.K g es)) (hall : keys.all (·.isSome) = true) (hl : keys.length = values.length) (h0 : keys ≠ []) (h15 : keys.length ≤ 15) :
    PE X (.Dict keys values pos) (tE X.K g (.dis ks es)) := by
  refine PE.mono (pe_dispx h hall hl h0 h15) fun σ H Q ⟨env, F, R, q⟩ => ?_
  intro a hp
  have up : Sub H (upd H a (.dK [])) := sub_upd hp
  have R1 : RelG X.K g env F σ (upd H a (.dK [])) := R.more (Sub.refl _) up (R.sub.trans up) fun _ _ z => .inl z
  have S1 : Stp σ env F H env F (upd H a (.dK [])) := Stp.refl.more (Sub.refl _) up fun _ _ z => .inl z
  have no : ¬ Owned env σ a := fun z => by
    obtain ⟨u, e⟩ := R.owned_some z
    rw [hp] at e; cases e
  have q' : Post X.K g σ env F H ((evalDs g.T.chg g.T.gval g.call es env).bind fun p => if ks.Nodup ∧ ks ≠ [] ∧ ks.length ≤ 15 ∧ p.1.length = ks.length then .ok (.tmp (.dct ks p.1), p.2) else .bad) Q := q
  refine ⟨env, F, R1, bindOf S1 q' fun p vs F1 H1 _ R2 S2 S2' r1 h1 => ?_⟩
  obtain ⟨⟨c1, c2, c3, c4⟩, h2⟩ := if_inv h1
  have ha1 : H1 a = some (.dK []) := S2.keep a _ upd_same no
  refine ⟨ha1, c3, ?_⟩
  have hF1 : F1 a = none := by
    cases e : F1 a with
    | none => rfl
    | some u =>
      rcases S2'.grow a u e with z | z | z
      · rw [R.sub a u z] at hp; cases hp
      · have := R2.sub a u e
        rcases S2.grow a u e with y | y | y
        · rw [R.sub a u y] at hp; cases hp
        · rw [upd_same] at y; cases y
        · exact absurd y no
      · exact absurd z no
  have hv := r1.length
  have e0 : mergeK [] ((ks.zip vs).map fun q => ((.inr (keyS q.1) : Key), q.2)) = (ks.zip vs).map fun q => ((.inr (keyS q.1) : Key), q.2) := by
    have := merge_nodup ks vs [] c1 fun _ _ => rfl
    simpa using this
  rw [e0]
  have no2 : ∀ b o, H b = some o → b ≠ a := fun b o e z => by rw [z, hp] at e; cases e
  have s3 : Sub F1 (upd H1 a (.dK ((ks.zip vs).map fun q => ((.inr (keyS q.1) : Key), q.2)))) := fun b o e => by
    have : b ≠ a := fun z => by rw [z, hF1] at e; cases e
    rw [upd_ne this]; exact R2.sub b o e
  have rep : RepO X.K g.c F1 (.dct ks p.1) (.dK ((ks.zip vs).map fun q => ((.inr (keyS q.1) : Key), q.2))) := by
    have l2 : ks.length = vs.length := by omega
    refine ⟨⟨?_, ?_⟩, Nat.le_trans c3 (by decide)⟩
    · rw [List.map_map]
      show (ks.zip vs).map ((fun x => (.inr ⟨x.toArray⟩ : Key)) ∘ Prod.fst) = _
      rw [← List.map_map, List.map_fst_zip (by omega)]
    · rw [List.map_map]
      show RepL _ _ _ _ ((ks.zip vs).map Prod.snd)
      rw [List.map_snd_zip (by omega)]
      exact r1
  have no1 : ¬ Owned p.2 σ a := fun z => no (S2.owned z)
  have R3 : RelG X.K g p.2 F1 σ (upd H1 a (.dK ((ks.zip vs).map fun q => ((.inr (keyS q.1) : Key), q.2)))) := by
    refine R2.after (Sub.refl _) s3 (some a) (fun b o e n => by rw [upd_ne (fun z => n (by rw [z]))]; exact e) (fun b o e => ?_) (fun b o e => .inl e) none none (fun i e => nomatch e) (fun _ b eb => ?_) rfl
    · by_cases z : b = a
      · exact ⟨_, by rw [z]; exact upd_same⟩
      · exact ⟨o, by rw [upd_ne z]; exact e⟩
    · cases eb
      refine ⟨no1, ?_⟩
      cases e : g.H0 a with
      | none => rfl
      | some o => obtain ⟨u, eu⟩ := R.th a o e; rw [hp] at eu; cases eu
  have S3 : Stp σ env F H p.2 F1 (upd H1 a (.dK ((ks.zip vs).map fun q => ((.inr (keyS q.1) : Key), q.2)))) := by
    refine ⟨S2'.fsub, fun b o e n => by rw [upd_ne (no2 b o e)]; exact S2'.keep b o e n, fun b o e => S2'.grow b o e, S2'.owns, fun b o e => ?_⟩
    obtain ⟨u, eu⟩ := S2'.th b o e
    exact ⟨u, by rw [upd_ne (no2 b o e)]; exact eu⟩
  exact h2 _ F1 _ R3 S3 ⟨a, _, rfl, upd_same, rep, hF1, hp, no1⟩
end
end Ev
namespace Ev
open PySem PySem.Spec PyProof.Rows L2
/-! ### which text stands for which -/
def isIf : Expr → Bool
  | .IfExp _ _ _ _ => true
  | _ => false
def isTup : Expr → Bool
  | .Tuple _ _ _ => true
  | _ => false
def bopB : BOp → Operator → Bool
  | .add, .Add => true
  | .sub, .Sub => true
  | .mul, .Mult => true
  | .fdiv, .FloorDiv => true
  | .mod, .Mod => true
  | .pow, .Pow => true
  | _, _ => false
theorem bopB_ok {o : BOp} {p : Operator} (h : bopB o p = true) : p = opOf o := by cases o <;> cases p <;> first | rfl | cases h
def copB : COp → CmpOp → Bool
  | .eq, .Eq => true
  | .ne, .NotEq => true
  | .lt, .Lt => true
  | .le, .LtE => true
  | .gt, .Gt => true
  | .ge, .GtE => true
  | .isin, .In => true
  | .notin, .NotIn => true
  | .is, .Is => true
  | .isnot, .IsNot => true
  | _, _ => false
theorem copB_ok {o : COp} {p : CmpOp} (h : copB o p = true) : p = copOf o := by cases o <;> cases p <;> first | rfl | cases h
def boB : Bool → BoolOp → Bool
  | true, .And => true
  | false, .Or => true
  | _, _ => false
theorem boB_ok {c : Bool} {p : BoolOp} (h : boB c p = true) : p = opB c := by cases c <;> cases p <;> first | rfl | cases h
mutual
def chkTg (ck : Ck) : Tg → Expr → Bool
  | .one i, e => match e with
    | .Name x _ => decide (ck.N[i]? = some x) && ck.st x
    | _ => false
  | .tup ts, e => match e with
    | .Tuple es _ _ => chkTgs ck ts es
    | _ => false
def chkTgs (ck : Ck) : List Tg → List Expr → Bool
  | [], [] => true
  | t :: ts, e :: es => chkTg ck t e && chkTgs ck ts es
  | _, _ => false
end
def notSlice : Expr → Bool
  | .Slice _ _ _ _ => false
  | _ => true
def isNone_ : E → Bool
  | .none_ => true
  | _ => false
mutual
def chkE (T : Tab) : E → Ck → Expr → Bool
  | .isi t a, ck, e => match e with
    | .Call (.Name x _) [a', .Name y _] [] _ => decide (x = "isinstance") && decide (tyStr t = y) && glB ck.sc x && glB ck.sc y && chkE T a ck a'
    | _ => false
  | .isx c a, ck, e => match e with
    | .Call (.Name x _) [a', .Name y _] [] _ => decide (x = "isinstance") && decide (xName T.cname c = some y) && (T.cname 0).isSome && glB ck.sc x && glB ck.sc y && okName y && chkE T a ck a'
    | _ => false
  | .value a, ck, e => match e with
    | .Attribute a' nm _ => decide (nm = "value") && (T.cname 0).isSome && (match a' with | .Call _ _ _ _ => false | _ => true) && chkE T a ck a'
    | _ => false
  | .sl i, ck, e => match e with
    | .Name x _ => decide (ck.N[i]? = some x) && visB ck.sc x && okName x
    | _ => false
  | .con d, _, e => match e with
    | .Constant co _ _ => constB d co
    | _ => false
  | .gl n, ck, e => match e with
    | .Name x _ => decide (T.gname n = x) && glB ck.sc x && okName x
    | _ => false
  | .lst es, ck, e => match e with
    | .List es' _ => chkDs T es ck es'
    | _ => false
  | .tup es, ck, e => match e with
    | .Tuple es' _ _ => chkDs T es ck es'
    | _ => false
  | .op o a b, ck, e => match e with
    | .BinOp a' o' b' _ => bopB o o' && chkE T a ck a' && chkE T b ck b'
    | _ => false
  | .neg a, ck, e => match e with
    | .UnaryOp o a' _ => (match o with | .USub => true | _ => false) && chkE T a ck a'
    | _ => false
  | .not a, ck, e => match e with
    | .UnaryOp o a' _ => (match o with | .Not => true | _ => false) && !isIf a' && chkE T a ck a'
    | _ => false
  | .lg conj es, ck, e => match e with
    | .BoolOp o vs _ => boB conj o && chkLg T es ck vs
    | _ => false
  | .cmp o a b, ck, e => match e with
    | .Compare a' [o'] [b'] _ => copB o o' && !behindInMarks o' b' && chkE T a ck a' && chkE T b ck b'
    | _ => false
  | .cmp2 o p a b c, ck, e => match e with
    | .Compare a' [o', p'] [b', c'] _ => copB o o' && copB p p' && !behindInMarks p' c' && chkE T a ck a' && chkE T b ck b' && chkE T c ck c'
    | _ => false
  | .ite c a b, ck, e => match e with
    | .IfExp c' a' b' _ => !isIf c' && chkE T c ck c' && chkE T a ck a' && chkE T b ck b'
    | _ => false
  | .call f es kw pm, ck, e => match e with
    | .Call (.Name x _) es' kws _ => (T.fn f).isSome && decide (T.fname f = x) && glB ck.sc x && okName x && chkRs T es ck es' && chkKw T kw ck kws && kwB es'.length (kws.filterMap (·.arg)) (T.ps f) pm
    | _ => false
  | .bi b es, ck, e => match e with
    | .Call (.Name x _) (a' :: es') [] _ => (match b with | .bitlen => false | .gcd => T.gcd | _ => true) && decide (biName b = x) && glB ck.sc x && chkRs T es ck (a' :: es')
    | .Call (.Attribute o' nm apos) [] [] pos => (match b with | .bitlen => true | _ => false) && decide (nm = "bit_length") && (apos.endLine == pos.line) && (match o' with | .Call _ _ _ _ => false | _ => true) && chkRs T es ck [o']
    | _ => false
  | .ix a i, ck, e => match e with
    | .Subscript a' i' _ => notSlice i' && chkE T a ck a' && chkE T i ck i'
    | _ => false
  | .sli a lo hi, ck, e => match e with
    | .Subscript a' (.Slice lo' hi' none _) _ => chkE T a ck a' && (match lo' with
        | none => isNone_ lo
        | some l => !isNone_ lo && chkE T lo ck l) && (match hi' with
        | none => isNone_ hi
        | some l => !isNone_ hi && chkE T hi ck l)
    | _ => false
  | .none_, _, _ => false
  | .fnv f, ck, e => match e with
    | .Name x _ => (T.fn f).isSome && decide (T.fname f = x) && glB ck.sc x && okName x
    | _ => false
  | .callv i es, ck, e => match e with
    | .Call (.Name x _) (a' :: es') [] _ => decide (ck.N[i]? = some x) && visB ck.sc x && okName x && chkRs T es ck (a' :: es')
    | _ => false
  | .emp, _, e => match e with
    | .Dict [] [] _ => true
    | _ => false
  | .dnew, _, e => match e with
    | .Dict [] [] _ => true
    | _ => false
  | .dis ks es, ck, e => match e with
    | .Dict ks' vs' _ => ks'.all (·.isSome) && decide (ks'.length = vs'.length) && !ks'.isEmpty && decide (ks'.length ≤ 15) && chkDd T ks es ck ks' vs'
    | _ => false
  | .mth m o a, ck, e => match e with
    | .Call (.Attribute o' nm apos) [a'] [] pos => decide (meName m = nm) && (apos.endLine == pos.line) && (match o' with | .Call _ _ _ _ => false | _ => true) && chkE T o ck o' && chkE T a ck a'
    | _ => false
  | .catk a b, ck, e => match e with
    | .BinOp a' o' b' _ => (match o' with | .Add => true | _ => false) && chkE T a ck a' && chkE T b ck b'
    | _ => false
  | .gix n a, ck, e => match e with
    | .Call (.Attribute (.Name x _) nm apos) [a'] [] pos => decide (nm = "index") && decide (T.gname n = x) && glB ck.sc x && okName x && (apos.endLine == pos.line) && chkE T a ck a'
    | _ => false
  | .popAt i a, ck, e => match e with
    | .Call (.Attribute (.Name x _) nm apos) [a'] [] pos => decide (nm = "pop") && decide (ck.N[i]? = some x) && visB ck.sc x && okName x && (apos.endLine == pos.line) && chkE T a ck a'
    | _ => false
  | .comp elt tg it cond own, ck, e => match e with
    | .ListComp elt' [⟨tg', iter', ifs, 0⟩] scope _ => chkIt T it ck tg' iter' && blkC ck.N ck.sc scope (own.map fun i => (ck.N.getD i ⟨#[]⟩, i)) && (slotsT tg).all (fun i => decide (i ∈ own)) && chkTg (ck.inner scope) tg tg' &&
        chkC T cond (ck.inner scope) ifs && chkE T elt (ck.inner scope) elt'
    | _ => false
/-- a comprehension's test -/
def chkC (T : Tab) : Option E → Ck → List Expr → Bool
  | none, _, ifs => ifs.isEmpty
  | some c, ck, ifs => match ifs with
    | [c'] => !isIf c' && chkE T c ck c'
    | _ => false
def chkLg (T : Tab) : Es → Ck → List Expr → Bool
  | .nil, _, _ => false
  | .cons _ a r, ck, es => match es with
    | [] => false
    | e :: es' => !isIf e && chkE T a ck e && (match r, es' with
      | .nil, [] => true
      | .nil, _ => false
      | _, [] => false
      | _, _ => chkLg T r ck es')
def chkDs (T : Tab) : Es → Ck → List Expr → Bool
  | .nil, _, es => es.isEmpty
  | .cons s a r, ck, es => match es with
    | [] => false
    | e :: es' => (match s with
      | true => (match e with
        | .Starred e' _ => chkE T a ck e'
        | _ => false)
      | false => chkE T a ck e) && chkDs T r ck es'
def chkRs (T : Tab) : Es → Ck → List Expr → Bool
  | .nil, _, es => es.isEmpty
  | .cons s a r, ck, es => match es with
    | [] => false
    | e :: es' => !s && chkE T a ck e && chkRs T r ck es'
def chkKw (T : Tab) : Es → Ck → List Keyword → Bool
  | .nil, _, es => es.isEmpty
  | .cons s a r, ck, es => match es with
    | [] => false
    | ⟨nm, e, _⟩ :: es' => !s && nm.isSome && chkE T a ck e && chkKw T r ck es'
def chkIt (T : Tab) : Ev.It → Ck → Expr → Expr → Bool
  | .seq a, ck, _, e => (match e with | .Set _ _ _ => false | _ => true) && chkE T a ck e
  | .ran1 a, ck, _, e => match e with
    | .Call (.Name x _) [a'] [] _ => decide (x = "range") && glB ck.sc x && chkE T a ck a'
    | _ => false
  | .ran2 a b, ck, _, e => match e with
    | .Call (.Name x _) [a', b'] [] _ => decide (x = "range") && glB ck.sc x && chkE T a ck a' && chkE T b ck b'
    | _ => false
  | .enu a, ck, tg, e => match e with
    | .Call (.Name x _) [a'] [] _ => isTup tg && decide (x = "enumerate") && glB ck.sc x && chkE T a ck a'
    | _ => false
  | .zip a b s, ck, tg, e => match e with
    | .Call (.Name x _) [a', b'] [] _ => !s && isTup tg && decide (x = "zip") && glB ck.sc x && chkE T a ck a' && chkE T b ck b'
    | .Call (.Name x _) [a', b'] [⟨some kn, .Constant (.bool true) _ _, _⟩] _ => s && isTup tg && decide (x = "zip") && decide (kn = "strict") && glB ck.sc x && chkE T a ck a' && chkE T b ck b'
    | _ => false
  | .zipF a b, ck, tg, e => match e with
    | .Call (.Name x _) [a', b'] [⟨some kn, .Constant (.bool false) _ _, _⟩] _ => isTup tg && decide (x = "zip") && decide (kn = "strict") && glB ck.sc x && chkE T a ck a' && chkE T b ck b'
    | _ => false
def chkDd (T : Tab) : List (List Nat) → Es → Ck → List (Option Expr) → List Expr → Bool
  | [], .nil, _, ks, vs => ks.isEmpty && vs.isEmpty
  | x :: xs, .cons s a r, ck, ks, vs => match ks, vs with
    | some (.Constant (.str y) _ _) :: ks', v :: vs' => !s && decide (y = keyS x) && chkE T a ck v && chkDd T xs r ck ks' vs'
    | _, _ => false
  | _, _, _, _, _ => false
end
section
variable {T : Tab}
theorem chkE_star {e : E} {ck : Ck} {e' : Expr} {p : Pos} : chkE T e ck (.Starred e' p) = false := by cases e <;> rfl
theorem chkE_slice {e : E} {ck : Ck} {a b c} {p : Pos} : chkE T e ck (.Slice a b c p) = false := by cases e <;> rfl
theorem star1 {e : E} {ck : Ck} {e' : Expr} {es : List Expr} {env : PySem.Env} (h : chkE T e ck e' = true) : starEach (e' :: es) env = (false, eval e' env) :: starEach es env := by
  cases e' <;> first | rfl | (rw [chkE_star] at h; cases h)
theorem slice1 {e : E} {ck : Ck} {e' : Expr} (h : chkE T e ck e' = true) : PlainIx e' := by
  cases e' <;> first | (intro _ _; rfl) | (rw [chkE_slice] at h; cases h)
theorem plainRs : ∀ {es : Es} {ck : Ck} {es' : List Expr} {pos : Pos} {env : PySem.Env}, chkRs T es ck es' = true → (backTo pos (starEach es' env)).any (·.1) = false ∧ es'.length = es.len
  | .nil, ck, es', pos, env, h => by
    rw [chkRs, List.isEmpty_iff] at h
    subst h
    exact ⟨rfl, rfl⟩
  | .cons s a r, ck, es', pos, env, h => by
    unfold chkRs at h
    split at h
    · cases h
    · simp only [Bool.and_eq_true] at h
      obtain ⟨⟨h1, h2⟩, h3⟩ := h
      obtain ⟨k1, k2⟩ := plainRs (pos := pos) (env := env) h3
      rw [star1 h2]
      refine ⟨?_, by simp [Es.len, k2]⟩
      show ((false : Bool) || (backTo pos (starEach _ env)).any (·.1)) = false
      rw [k1]; rfl
theorem plainKw : ∀ {es : Es} {ck : Ck} {es' : List Keyword} {pos : Pos} {env : PySem.Env}, chkKw T es ck es' = true → (backToKw pos (keywordEach es' env)).all (·.1.isSome) = true ∧ (backToKw pos (keywordEach es' env)).any (·.1.isNone) = false ∧ (backToKw pos (keywordEach es' env)).filterMap (·.1) = es'.filterMap (·.arg) ∧ (es'.filterMap (·.arg)).length = es.len
  | .nil, ck, es', pos, env, h => by
    rw [chkKw, List.isEmpty_iff] at h
    subst h
    exact ⟨rfl, rfl, rfl, rfl⟩
  | .cons s a r, ck, es', pos, env, h => by
    unfold chkKw at h
    split at h
    · cases h
    · rename_i nm e kp es'
      simp only [Bool.and_eq_true] at h
      obtain ⟨⟨⟨h1, h4⟩, h2⟩, h3⟩ := h
      obtain ⟨k1, k2, k3, k4⟩ := plainKw (pos := pos) (env := env) h3
      cases nm with
      | none => cases h4
      | some n =>
        refine ⟨?_, ?_, ?_, by simp [Es.len, k4]⟩
        · show ((true : Bool) && (backToKw pos (keywordEach es' env)).all (·.1.isSome)) = true
          rw [k1]; rfl
        · show ((false : Bool) || (backToKw pos (keywordEach es' env)).any (·.1.isNone)) = false
          rw [k2]; rfl
        · show n :: (backToKw pos (keywordEach es' env)).filterMap (·.1) = n :: es'.filterMap (·.arg)
          rw [k3]
end
section
variable {X : Cx} {g : Gh} {ck : Ck} {k : Nat}
theorem it_var {T : Tab} (G : Good X g ck k) {it : Ev.It} {tg' e' : Expr} (h : chkIt T it ck tg' e' = true) : ∀ i, it = .seq (.sl i) → PE X e' (tVar i) := by
  intro i e
  subst e
  unfold chkIt at h
  rw [Bool.and_eq_true] at h
  have h2 := h.2
  unfold chkE at h2
  split at h2
  · simp only [Bool.and_eq_true, decide_eq_true_eq] at h2
    exact pe_var (by rw [G.N]; exact h2.1.1) (by rw [G.sc]; exact visB_ok h2.1.2) (okName_ok h2.2).1 (okName_ok h2.2).2
  · cases h2
theorem chkTg_star {t : Tg} {e' : Expr} {p : Pos} : chkTg ck t (.Starred e' p) = false := by cases t <;> rfl
theorem tgEach : ∀ {ts : List Tg} {es : List Expr} {env : PySem.Env}, chkTgs ck ts es = true → assignEach es env = es.map (fun e => (false, assign e env)) ∧ es.length = ts.length
  | [], [], env, h => ⟨rfl, rfl⟩
  | t :: ts, e :: es, env, h => by
    rw [chkTgs, Bool.and_eq_true] at h
    obtain ⟨k1, k2⟩ := tgEach (env := env) h.2
    refine ⟨?_, by simp [k2]⟩
    cases e <;> first | (rw [chkTg_star] at h; cases h.1) | (show (false, _) :: assignEach es env = _; rw [k1]; rfl)
  | [], _ :: _, env, h => by rw [chkTgs] at h <;> first | cases h | (intros; contradiction)
  | _ :: _, [], env, h => by rw [chkTgs] at h <;> first | cases h | (intros; contradiction)
mutual
theorem chkTg_ok (G : Good X g ck k) : ∀ (t : Tg) (e : Expr), chkTg ck t e = true → PG X e (gD X.K t)
  | .one i, e, h => by
    unfold chkTg at h
    split at h
    · simp only [Bool.and_eq_true, decide_eq_true_eq] at h
      have q := G.st _ h.2
      rw [← G.sc] at q
      exact pg_name (by rw [G.N]; exact G.nd) (by rw [G.N]; exact h.1) q.1 q.2
    · cases h
  | .tup ts, e, h => by
    unfold chkTg at h
    split at h
    · obtain ⟨k1, k2⟩ := tgEach (env := X.env) h
      refine pg_tup G.calm (chkTgs_ok G ts _ h) (by rw [k1, List.length_map, k2]) ?_
      rw [k1, List.findIdx?_eq_none_iff]
      intro x hx
      obtain ⟨_, _, rfl⟩ := List.mem_map.mp hx
      rfl
    · cases h
theorem chkTgs_ok (G : Good X g ck k) : ∀ (ts : List Tg) (es : List Expr), chkTgs ck ts es = true → PGs X es (gDs X.K ts)
  | [], [], h => pgs_nil
  | t :: ts, e :: es, h => by
    have h0 := h
    rw [chkTgs, Bool.and_eq_true] at h
    refine pgs_cons (chkTg_ok G t e h.1) (chkTgs_ok G ts es h.2) ?_
    obtain ⟨k1, _⟩ := tgEach (env := X.env) h0
    obtain ⟨k2, _⟩ := tgEach (env := X.env) h.2
    rw [k1, k2]; rfl
  | [], _ :: _, h => by rw [chkTgs] at h <;> first | cases h | (intros; contradiction)
  | _ :: _, [], h => by rw [chkTgs] at h <;> first | cases h | (intros; contradiction)
end
end
end Ev
namespace Ev
open PySem PySem.Spec PyProof.Rows L2
variable {T : Tab}
theorem hu_of {X : Cx} {k : Nat} (r : Room k X.A) : X.A.units + 65 < cLine := by have := r.un; omega
def Both (X : Cx) (g : Gh) (e : E) (e' : Expr) : Prop := PE X e' (tE X.K g e) ∧ (isIf e' = false → PT X e' (tT X.K g e))
theorem Both.val {X : Cx} {g : Gh} {e : E} {e' : Expr} (h : PE X e' (tE X.K g e)) (he : ∀ whole, isTrue e' X.env whole = (do let v ← whole; standAt e'.pos; holding [v] (truthy v))) : Both X g e e' := ⟨h, fun _ => r_val h he⟩
theorem Both.of {X : Cx} {g : Gh} {e : E} {e' : Expr} (h : PE X e' (tE X.K g e)) (hi : PT X e' (tT X.K g e)) : Both X g e e' := ⟨h, fun _ => hi⟩
theorem mem_own {own : List Nat} {N : List Str} : (own.map fun i => (N.getD i ⟨#[]⟩, i)).map (·.2) = own := by
  induction own with
  | nil => rfl
  | cons a r ih => rw [List.map_cons, List.map_cons, ih]
theorem notNone {a : E} (h : isNone_ a = false) : a ≠ .none_ := by intro e; subst e; simp [isNone_] at h
theorem base_ok {o' : Expr} {nm : Str} {env : PySem.Env} {w : Sem Value} (h : (match o' with | .Call _ _ _ _ => false | _ => true) = true) : attributeBase o' nm env w = w := by
  cases o' <;> first | rfl | cases h
mutual
theorem chkE_ok : ∀ (e : E) {X : Cx} {g : Gh} {ck : Ck} {k : Nat} (e' : Expr), g.T = T → Good X g ck k → chkE T e ck e' = true → Both X g e e'
  | .sl i, X, g, ck, k, e', hT, G, h => by
    unfold chkE at h
    split at h
    · simp only [Bool.and_eq_true, decide_eq_true_eq] at h
      exact .val (r_sl G h.1.1 h.1.2 h.2) fun _ => rfl
    · cases h
  | .isi t a, X, g, ck, k, e', hT, G, h => by
    unfold chkE at h
    split at h
    · simp only [Bool.and_eq_true, decide_eq_true_eq] at h
      obtain ⟨⟨⟨⟨rfl, rfl⟩, h1⟩, h2⟩, h3⟩ := h
      exact .val (r_isi G h1 h2 (chkE_ok a _ hT G h3).1 fun es => star1 h3) fun _ => rfl
    · cases h
  | .isx c a, X, g, ck, k, e', hT, G, h => by
    unfold chkE at h
    split at h
    · simp only [Bool.and_eq_true, decide_eq_true_eq] at h
      obtain ⟨⟨⟨⟨⟨⟨rfl, h1⟩, h2⟩, h3⟩, h4⟩, h5⟩, h6⟩ := h
      exact .val (r_isx G (by rw [hT]; intro z; rw [z] at h2; cases h2) (by rw [hT]; exact h1) h3 h4 h5 (chkE_ok a _ hT G h6).1 fun es => star1 h6) fun _ => rfl
    · cases h
  | .value a, X, g, ck, k, e', hT, G, h => by
    unfold chkE at h
    split at h
    · simp only [Bool.and_eq_true, decide_eq_true_eq] at h
      obtain ⟨⟨⟨rfl, h2⟩, h3⟩, h4⟩ := h
      exact .val (r_value G (by rw [hT]; intro z; rw [z] at h2; cases h2) (chkE_ok a _ hT G h4).1 (base_ok h3)) fun _ => rfl
    · cases h
  | .con d, X, g, ck, k, e', hT, G, h => by
    unfold chkE at h
    split at h
    · exact .val (r_con h) fun _ => rfl
    · cases h
  | .gl n, X, g, ck, k, e', hT, G, h => by
    subst hT
    unfold chkE at h
    split at h
    · simp only [Bool.and_eq_true, decide_eq_true_eq] at h
      exact .val (r_gl G h.1.1 h.1.2 h.2) fun _ => rfl
    · cases h
  | .lst es, X, g, ck, k, e', hT, G, h => by
    unfold chkE at h
    split at h
    · exact .val (r_lst (chkDs_ok es _ hT G h)) fun _ => rfl
    · cases h
  | .tup es, X, g, ck, k, e', hT, G, h => by
    unfold chkE at h
    split at h
    · exact .val (r_tup (chkDs_ok es _ hT G h)) fun _ => rfl
    · cases h
  | .op o a b, X, g, ck, k, e', hT, G, h => by
    unfold chkE at h
    split at h
    · simp only [Bool.and_eq_true] at h
      obtain rfl := bopB_ok h.1.1
      exact .val (r_op (chkE_ok a _ hT G h.1.2).1 (chkE_ok b _ hT G h.2).1) fun _ => rfl
    · cases h
  | .neg a, X, g, ck, k, e', hT, G, h => by
    unfold chkE at h
    split at h
    · simp only [Bool.and_eq_true] at h
      rename_i o a' pos
      cases o <;> first | cases h.1 | skip
      exact .val (r_neg (chkE_ok a _ hT G h.2).1) fun _ => rfl
    · cases h
  | .not a, X, g, ck, k, e', hT, G, h => by
    unfold chkE at h
    split at h
    · simp only [Bool.and_eq_true, Bool.not_eq_true'] at h
      rename_i o a' pos
      cases o <;> first | cases h.1.1 | skip
      have q := chkE_ok a _ hT G h.2
      exact .of (r_not q.1) (r_notT (q.2 h.1.2))
    · cases h
  | .lg conj es, X, g, ck, k, e', hT, G, h => by
    unfold chkE at h
    split at h
    · simp only [Bool.and_eq_true] at h
      obtain rfl := boB_ok h.1
      have q := chkLg_ok es conj _ hT G h.2
      exact .of (r_lgE (q _).1) (r_lgT (q _).2)
    · cases h
  | .cmp o a b, X, g, ck, k, e', hT, G, h => by
    unfold chkE at h
    split at h
    · simp only [Bool.and_eq_true, Bool.not_eq_true'] at h
      obtain ⟨⟨⟨h1, h2⟩, h3⟩, h4⟩ := h
      obtain rfl := copB_ok h1
      exact .of (r_cmp (hu_of G.room) (chkE_ok a _ hT G h3).1 (chkE_ok b _ hT G h4).1 h2) (r_cmpT (hu_of G.room) (chkE_ok a _ hT G h3).1 (chkE_ok b _ hT G h4).1 h2)
    · cases h
  | .cmp2 o p a b c, X, g, ck, k, e', hT, G, h => by
    unfold chkE at h
    split at h
    · simp only [Bool.and_eq_true, Bool.not_eq_true'] at h
      obtain ⟨⟨⟨⟨⟨h1, h0⟩, h2⟩, h3⟩, h4⟩, h5⟩ := h
      obtain rfl := copB_ok h1
      obtain rfl := copB_ok h0
      have qa := (chkE_ok a _ hT G h3).1
      have qb := (chkE_ok b _ hT G h4).1
      have qc := (chkE_ok c _ hT G h5).1
      exact .of (r_cmp2 (hu_of G.room) qa qb qc h2) (r_cmp2T (hu_of G.room) qa qb qc h2)
    · cases h
  | .ite c a b, X, g, ck, k, e', hT, G, h => by
    unfold chkE at h
    split at h
    · simp only [Bool.and_eq_true, Bool.not_eq_true'] at h
      obtain ⟨⟨⟨h1, h2⟩, h3⟩, h4⟩ := h
      exact ⟨r_ite ((chkE_ok c _ hT G h2).2 h1) (chkE_ok a _ hT G h3).1 (chkE_ok b _ hT G h4).1, fun z => by cases z⟩
    · cases h
  | .call f es kw pm, X, g, ck, k, e', hT, G, h => by
    unfold chkE at h
    split at h
    · simp only [Bool.and_eq_true, decide_eq_true_eq] at h
      obtain ⟨⟨⟨⟨⟨⟨h1, h2⟩, h3⟩, h4⟩, h5⟩, h6⟩, h7⟩ := h
      rename_i x xp es' kws pos
      obtain ⟨fd, hf⟩ := Option.isSome_iff_exists.mp h1
      have p1 := plainRs (pos := pos) (env := X.env) h5
      have p2 := plainKw (pos := pos) (env := X.env) h6
      have q5 := chkRs_ok es _ hT G h5
      have q6 := chkKw_ok kw _ hT G h6
      subst hT
      refine .val (r_call G hf h2 h3 h4 q5 q6 p1.2 p2.2.2.2 h7 p2.1 p2.2.2.1 (fun e r er => ?_) (by rw [p1.1, p2.2.1]; rfl)) fun _ => rfl
      subst er
      cases es with
      | nil => unfold chkRs at h5; cases h5
      | cons s a r' =>
        unfold chkRs at h5
        simp only [Bool.and_eq_true] at h5
        exact star1 h5.1.2
    · cases h
  | .bi b es, X, g, ck, k, e', hT, G, h => by
    unfold chkE at h
    split at h
    · simp only [Bool.and_eq_true, decide_eq_true_eq] at h
      obtain ⟨⟨⟨h1, rfl⟩, h3⟩, h4⟩ := h
      have h5 := h4
      rename_i a' es' pos
      cases es with
      | nil => unfold chkRs at h4; cases h4
      | cons s a r =>
        unfold chkRs at h4
        simp only [Bool.and_eq_true] at h4
        exact .val (r_bi G h3 (by intro z; subst z; cases h1) (by intro z; subst z; rw [hT]; exact h1) (chkRs_ok _ _ hT G h5) (star1 h4.1.2) (plainRs h4.2).1) fun _ => rfl
    · simp only [Bool.and_eq_true, decide_eq_true_eq] at h
      obtain ⟨⟨⟨⟨h1, rfl⟩, h3⟩, h4⟩, h5⟩ := h
      cases b <;> first | cases h1 | skip
      cases es with
      | nil => unfold chkRs at h5; cases h5
      | cons s a r =>
        unfold chkRs at h5
        simp only [Bool.and_eq_true, Bool.not_eq_true'] at h5
        obtain ⟨⟨h6, h7⟩, h8⟩ := h5
        subst h6
        cases r with
        | nil => exact .val (r_bits (chkE_ok a _ hT G h7).1 (base_ok h4) h3) fun _ => rfl
        | cons _ _ _ => unfold chkRs at h8; cases h8
    · cases h
  | .ix a i, X, g, ck, k, e', hT, G, h => by
    unfold chkE at h
    split at h
    · simp only [Bool.and_eq_true] at h
      obtain ⟨⟨h1, h2⟩, h3⟩ := h
      exact .val (r_ix (by have := G.room.un; omega) (slice1 h3) (chkE_ok a _ hT G h2).1 (chkE_ok i _ hT G h3).1) fun _ => rfl
    · cases h
  | .sli a lo hi, X, g, ck, k, e', hT, G, h => by
    unfold chkE at h
    split at h
    · simp only [Bool.and_eq_true] at h
      obtain ⟨⟨h1, h2⟩, h3⟩ := h
      rename_i a' lo' hi' p2 pos
      refine .val (r_sli (chkE_ok a _ hT G h1).1 ?_ ?_) fun _ => rfl
      · cases lo' with
        | none =>
          cases lo <;> first | exact .none | cases h2
        | some l =>
          simp only [Bool.and_eq_true, Bool.not_eq_true'] at h2
          exact .some (notNone h2.1) (chkE_ok lo _ hT G h2.2).1
      · cases hi' with
        | none =>
          cases hi <;> first | exact .none | cases h3
        | some l =>
          simp only [Bool.and_eq_true, Bool.not_eq_true'] at h3
          exact .some (notNone h3.1) (chkE_ok hi _ hT G h3.2).1
    · cases h
  | .none_, X, g, ck, k, e', hT, G, h => by
    unfold chkE at h
    cases h
  | .fnv f, X, g, ck, k, e', hT, G, h => by
    subst hT
    unfold chkE at h
    split at h
    · simp only [Bool.and_eq_true, decide_eq_true_eq] at h
      obtain ⟨⟨⟨h1, h2⟩, h3⟩, h4⟩ := h
      cases q : g.T.fn f with
      | none => rw [q] at h1; cases h1
      | some fd => exact .val (r_fnv G q h2 h3 h4) fun _ => rfl
    · cases h
  | .callv i es, X, g, ck, k, e', hT, G, h => by
    unfold chkE at h
    split at h
    · simp only [Bool.and_eq_true, decide_eq_true_eq] at h
      obtain ⟨⟨⟨h1, h2⟩, h3⟩, h4⟩ := h
      have h5 := h4
      rename_i x xp a' es' pos
      cases es with
      | nil => unfold chkRs at h4; cases h4
      | cons s a r =>
        unfold chkRs at h4
        simp only [Bool.and_eq_true] at h4
        exact .val (r_callv G h1 h2 h3 (chkRs_ok _ _ hT G h5) (plainRs (pos := pos) (env := X.env) h5).2 (star1 h4.1.2) (plainRs h4.2).1) fun _ => rfl
    · cases h
  | .emp, X, g, ck, k, e', hT, G, h => by
    unfold chkE at h
    split at h
    · exact .val (r_emp G) fun _ => rfl
    · cases h
  | .dnew, X, g, ck, k, e', hT, G, h => by
    unfold chkE at h
    split at h
    · exact .val r_dnew fun _ => rfl
    · cases h
  | .dis ks es, X, g, ck, k, e', hT, G, h => by
    unfold chkE at h
    split at h
    · simp only [Bool.and_eq_true, decide_eq_true_eq, Bool.not_eq_true'] at h
      obtain ⟨⟨⟨⟨h1, h2⟩, h3⟩, h4⟩, h5⟩ := h
      exact .val (r_dis (chkDd_ok ks es _ _ hT G h5) h1 h2 (fun z => by rw [z] at h3; cases h3) h4) fun _ => rfl
    · cases h
  | .mth m o a, X, g, ck, k, e', hT, G, h => by
    unfold chkE at h
    split at h
    · simp only [Bool.and_eq_true, decide_eq_true_eq] at h
      obtain ⟨⟨⟨⟨rfl, h2⟩, h3⟩, h4⟩, h5⟩ := h
      have qo := (chkE_ok o _ hT G h4).1
      have qa := (chkE_ok a _ hT G h5).1
      cases m with
      | split => exact .val (r_split qo qa (star1 h5) (base_ok h3) h2) fun _ => rfl
      | join => exact .val (r_join qo qa (star1 h5) (base_ok h3) h2) fun _ => rfl
      | index => exact .val (r_idx qo qa (star1 h5) (base_ok h3) h2) fun _ => rfl
    · cases h
  | .catk a b, X, g, ck, k, e', hT, G, h => by
    unfold chkE at h
    split at h
    · simp only [Bool.and_eq_true] at h
      rename_i a' o' b' pos
      cases o' <;> first | cases h.1.1 | skip
      exact .val (r_catk (chkE_ok a _ hT G h.1.2).1 (chkE_ok b _ hT G h.2).1) fun _ => rfl
    · cases h
  | .gix n a, X, g, ck, k, e', hT, G, h => by
    unfold chkE at h
    split at h
    · simp only [Bool.and_eq_true, decide_eq_true_eq] at h
      obtain ⟨⟨⟨⟨⟨rfl, h2⟩, h3⟩, h4⟩, h5⟩, h6⟩ := h
      exact .val (r_gix G (by rw [hT]; exact h2) h3 h4 (chkE_ok a _ hT G h6).1 (star1 h6) h5) fun _ => rfl
    · cases h
  | .popAt i a, X, g, ck, k, e', hT, G, h => by
    unfold chkE at h
    split at h
    · simp only [Bool.and_eq_true, decide_eq_true_eq] at h
      obtain ⟨⟨⟨⟨⟨rfl, h2⟩, h3⟩, h4⟩, h5⟩, h6⟩ := h
      exact .val (r_popAt G h2 h3 h4 (chkE_ok a _ hT G h6).1 (star1 h6) h5) fun _ => rfl
    · cases h
  | .comp elt tg it cond own, X, g, ck, k, e', hT, G, h => by
    unfold chkE at h
    split at h
    · simp only [Bool.and_eq_true, List.all_eq_true, decide_eq_true_eq] at h
      obtain ⟨⟨⟨⟨⟨h1, h2⟩, h3⟩, h4⟩, h5⟩, h6⟩ := h
      rename_i elt' tg' iter' ifs scope pos
      obtain ⟨q1, q2⟩ := chkIt_ok it tg' iter' hT G h1
      have hdT : g.deaf.T = T := hT
      have z := r_comp (cpos := pos) (elt := elt) (cond := cond) (tg := tg) G q1 (it_var G h1) h2 (by rw [mem_own]; exact h3) (fun s H C cl fp => chkTg_ok (G.blk s H scope cl C fp) tg tg' h4) (fun s H C cl fp => chkC_ok cond ifs hdT (G.blk s H scope cl C fp) h5)
        (fun s H C cl fp => (chkE_ok elt elt' hdT (G.blk s H scope cl C fp) h6).1) q2
      rw [mem_own] at z
      exact .val z fun _ => rfl
    · cases h
theorem chkC_ok : ∀ (c : Option E) {X : Cx} {g : Gh} {ck : Ck} {k : Nat} (ifs : List Expr), g.T = T → Good X g ck k → chkC T c ck ifs = true → PTs X ifs (tCond X.K g c)
  | none, X, g, ck, k, ifs, hT, G, h => by
    unfold chkC at h
    rw [List.isEmpty_iff] at h
    subst h
    exact pts_nil
  | some c, X, g, ck, k, ifs, hT, G, h => by
    unfold chkC at h
    split at h
    · simp only [Bool.and_eq_true, Bool.not_eq_true'] at h
      exact pts_one ((chkE_ok c _ hT G h.2).2 h.1)
    · cases h
theorem chkLg_ok : ∀ (es : Es) (conj : Bool) {X : Cx} {g : Gh} {ck : Ck} {k : Nat} (vs : List Expr), g.T = T → Good X g ck k → chkLg T es ck vs = true → ∀ pos, PE X (.BoolOp (opB conj) vs pos) (tBv X.K g conj es) ∧ PW X (.BoolOp (opB conj) vs pos) (tB' X.K g conj es)
  | .nil, conj, X, g, ck, k, vs, hT, G, h => by
    unfold chkLg at h
    cases h
  | .cons s a r, conj, X, g, ck, k, vs, hT, G, h => by
    intro pos
    unfold chkLg at h
    split at h
    · cases h
    · rename_i e es'
      simp only [Bool.and_eq_true, Bool.not_eq_true'] at h
      obtain ⟨⟨h1, h2⟩, h3⟩ := h
      have q := chkE_ok a _ hT G h2
      cases r with
      | nil =>
        cases es' with
        | nil => exact ⟨r_lg1 q.1, r_lgW1 (q.2 h1)⟩
        | cons _ _ => cases h3
      | cons s' a' r' =>
        cases es' with
        | nil => cases h3
        | cons b' rest =>
          have z := chkLg_ok (.cons s' a' r') conj _ hT G h3 pos
          exact ⟨r_lgV (by intro e; cases e) q.1 z.1, r_lgW (by intro e; cases e) (q.2 h1) z.2⟩
theorem chkDs_ok : ∀ (es : Es) {X : Cx} {g : Gh} {ck : Ck} {k : Nat} (vs : List Expr), g.T = T → Good X g ck k → chkDs T es ck vs = true → PA X vs (tDs X.K g es)
  | .nil, X, g, ck, k, vs, hT, G, h => by
    unfold chkDs at h
    rw [List.isEmpty_iff] at h
    subst h
    exact pas_nil
  | .cons s a r, X, g, ck, k, vs, hT, G, h => by
    unfold chkDs at h
    split at h
    · cases h
    · rename_i e es'
      simp only [Bool.and_eq_true] at h
      cases s with
      | true =>
        have h1 := h.1
        simp only at h1
        split at h1
        · exact pas_star (chkE_ok a _ hT G h1).1 (chkDs_ok r _ hT G h.2)
        · cases h1
      | false => exact pas_cons (chkE_ok a _ hT G h.1).1 (chkDs_ok r _ hT G h.2) (star1 h.1)
theorem chkRs_ok : ∀ (es : Es) {X : Cx} {g : Gh} {ck : Ck} {k : Nat} (vs : List Expr), g.T = T → Good X g ck k → chkRs T es ck vs = true → PA X vs (tRs X.K g es)
  | .nil, X, g, ck, k, vs, hT, G, h => by
    unfold chkRs at h
    rw [List.isEmpty_iff] at h
    subst h
    exact prs_nil
  | .cons s a r, X, g, ck, k, vs, hT, G, h => by
    unfold chkRs at h
    split at h
    · cases h
    · simp only [Bool.and_eq_true, Bool.not_eq_true'] at h
      obtain ⟨⟨h1, h2⟩, h3⟩ := h
      subst h1
      exact prs_cons (chkE_ok a _ hT G h2).1 (chkRs_ok r _ hT G h3) (star1 h2)
theorem chkKw_ok : ∀ (es : Es) {X : Cx} {g : Gh} {ck : Ck} {k : Nat} (vs : List Keyword), g.T = T → Good X g ck k → chkKw T es ck vs = true → PK X vs (tRs X.K g es)
  | .nil, X, g, ck, k, vs, hT, G, h => by
    unfold chkKw at h
    rw [List.isEmpty_iff] at h
    subst h
    exact prk_nil
  | .cons s a r, X, g, ck, k, vs, hT, G, h => by
    unfold chkKw at h
    split at h
    · cases h
    · simp only [Bool.and_eq_true, Bool.not_eq_true'] at h
      obtain ⟨⟨⟨h1, h4⟩, h2⟩, h3⟩ := h
      subst h1
      exact prk_cons (chkE_ok a _ hT G h2).1 (chkKw_ok r _ hT G h3)
theorem chkIt_ok : ∀ (it : Ev.It) {X : Cx} {g : Gh} {ck : Ck} {k : Nat} (tg' e' : Expr), g.T = T → Good X g ck k → chkIt T it ck tg' e' = true → PI X tg' e' (tI X.K g it) ∧ ∀ x, foldedSetIterable e' X.env x = pure x
  | .seq a, X, g, ck, k, tg', e', hT, G, h => by
    unfold chkIt at h
    simp only [Bool.and_eq_true] at h
    refine ⟨i_seq (chkE_ok a _ hT G h.2).1, fun x => ?_⟩
    cases e' <;> first | rfl | cases h.1
  | .ran1 a, X, g, ck, k, tg', e', hT, G, h => by
    unfold chkIt at h
    split at h
    · simp only [Bool.and_eq_true, decide_eq_true_eq] at h
      obtain ⟨⟨rfl, h2⟩, h3⟩ := h
      exact ⟨i_ran1 G h2 (chkE_ok a _ hT G h3).1 (star1 h3), fun _ => rfl⟩
    · cases h
  | .ran2 a b, X, g, ck, k, tg', e', hT, G, h => by
    unfold chkIt at h
    split at h
    · simp only [Bool.and_eq_true, decide_eq_true_eq] at h
      obtain ⟨⟨⟨rfl, h2⟩, h3⟩, h4⟩ := h
      exact ⟨i_ran2 G h2 (chkE_ok a _ hT G h3).1 (chkE_ok b _ hT G h4).1 (by rw [star1 h3, star1 h4]; rfl) (star1 h4), fun _ => rfl⟩
    · cases h
  | .enu a, X, g, ck, k, tg', e', hT, G, h => by
    unfold chkIt at h
    split at h
    · simp only [Bool.and_eq_true, decide_eq_true_eq] at h
      obtain ⟨⟨⟨h1, rfl⟩, h2⟩, h3⟩ := h
      cases tg' <;> first | cases h1 | skip
      exact ⟨i_enu G h2 (chkE_ok a _ hT G h3).1 (star1 h3), fun _ => rfl⟩
    · cases h
  | .zip a b s, X, g, ck, k, tg', e', hT, G, h => by
    unfold chkIt at h
    split at h
    · simp only [Bool.and_eq_true, decide_eq_true_eq, Bool.not_eq_true'] at h
      obtain ⟨⟨⟨⟨⟨h0, h1⟩, rfl⟩, h2⟩, h3⟩, h4⟩ := h
      subst h0
      cases tg' <;> first | cases h1 | skip
      exact ⟨i_zip G h2 (chkE_ok a _ hT G h3).1 (chkE_ok b _ hT G h4).1 (star1 h3) (star1 h4) (by rw [star1 h4]; rfl), fun _ => rfl⟩
    · simp only [Bool.and_eq_true, decide_eq_true_eq, Bool.not_eq_true'] at h
      obtain ⟨⟨⟨⟨⟨⟨h0, h1⟩, rfl⟩, rfl⟩, h2⟩, h3⟩, h4⟩ := h
      subst h0
      cases tg' <;> first | cases h1 | skip
      exact ⟨i_zipS G h2 (chkE_ok a _ hT G h3).1 (chkE_ok b _ hT G h4).1 (star1 h3) (star1 h4) (by rw [star1 h4]; rfl), fun _ => rfl⟩
    · cases h
  | .zipF a b, X, g, ck, k, tg', e', hT, G, h => by
    unfold chkIt at h
    split at h
    · simp only [Bool.and_eq_true, decide_eq_true_eq, Bool.not_eq_true'] at h
      obtain ⟨⟨⟨⟨⟨h1, rfl⟩, rfl⟩, h2⟩, h3⟩, h4⟩ := h
      cases tg' <;> first | cases h1 | skip
      exact ⟨i_zipF G h2 (chkE_ok a _ hT G h3).1 (chkE_ok b _ hT G h4).1 (star1 h3) (star1 h4) (by rw [star1 h4]; rfl), fun _ => rfl⟩
    · cases h
theorem chkDd_ok : ∀ (ks : List (List Nat)) (es : Es) {X : Cx} {g : Gh} {ck : Ck} {k : Nat} {pos : Pos} (ks' : List (Option Expr)) (vs' : List Expr), g.T = T → Good X g ck k → chkDd T ks es ck ks' vs' = true → PPx X pos ks' vs' ks (tDs X.K g es)
  | [], .nil, X, g, ck, k, pos, ks', vs', hT, G, h => by
    unfold chkDd at h
    rw [Bool.and_eq_true, List.isEmpty_iff, List.isEmpty_iff] at h
    rw [h.1, h.2]
    exact ppx_ds_nil
  | x :: xs, .cons s a r, X, g, ck, k, pos, ks', vs', hT, G, h => by
    unfold chkDd at h
    split at h
    · simp only [Bool.and_eq_true, Bool.not_eq_true', decide_eq_true_eq] at h
      obtain ⟨⟨⟨rfl, rfl⟩, h1⟩, h2⟩ := h
      exact ppx_ds_cons (chkE_ok a _ hT G h1).1 (chkDd_ok xs r _ _ hT G h2)
    · cases h
  | [], .cons _ _ _, X, g, ck, k, pos, ks', vs', hT, G, h => by unfold chkDd at h; cases h
  | _ :: _, .nil, X, g, ck, k, pos, ks', vs', hT, G, h => by unfold chkDd at h; cases h
end
end Ev
namespace Ev
open PySem PySem.Spec PyProof.Rows L2
variable {T : Tab}
def notComp : Expr → Bool
  | .ListComp _ _ _ _ => false
  | .SetComp _ _ _ _ => false
  | .DictComp _ _ _ _ _ => false
  | _ => true
theorem sw_no {e : Expr} {t : Option Expr} {l : Nat} {env : PySem.Env} (h : notComp e = true) : swapsWith e t l env = pure false := by
  cases e <;> first | rfl | cases h
def swB (sc : Scope) (t : Str) (px vp : Pos) (scope : Scope) : Bool := decide (sc.names.lookup t = some .local) && (px.line == vp.line) && !(scope.names.any fun (n, k) => n == t && (k == .local || k == .cell))
theorem bk_fn {env : PySem.Env} (h : env.scope.kind = .function) : env.blockKind = .function := by
  unfold Env.blockKind
  rw [h]; rfl
theorem sw_lc {elt : Expr} {gs : List Comprehension} {scope : Scope} {px vp : Pos} {t : Str} {l : Nat} {env : PySem.Env} (hk : env.scope.kind = .function) :
    swapsWith (.ListComp elt gs scope vp) (some (.Name t px)) l env = pure (swB env.scope t px vp scope) := by
  unfold swapsWith swB
  have e : env.kindOf t = env.scope.names.lookup t := rfl
  simp only [bk_fn hk, e, Expr.pos]
  show pure _ = pure _
  congr 1
  have : (env.scope.names.lookup t == some NameKind.local) = decide (env.scope.names.lookup t = some .local) := by
    cases z : env.scope.names.lookup t with
    | none => rfl
    | some k => cases k <;> rfl
  rw [this]
  rfl
def isStar : Expr → Bool
  | .Starred _ _ => true
  | _ => false
/-- the names that a pair's stores exchange; none: no ruling -/
def swN (sc : Scope) (ts vs : List Expr) : Option (Option (List Str)) :=
  if !(ts.length == 2 || ts.length == 3) || vs.length != ts.length then some none
  else if vs.any isStar then some none
  else
    let line := (ts.head?.map (·.pos.line)).getD 0
    let names := ts.filterMap fun
      | .Name id pos => if sc.names.lookup id == some .local && pos.line == line then some id else none
      | _ => none
    if names.length != ts.length || names.eraseDups.length != names.length then some none
    else if vs.all (foldedForSure 8) then some none
    else if vs.all (constantsAlone 8) then none
    else some (some names)
theorem sw_stores {env : PySem.Env} {ts vs : List Expr} {kt k2 : Nat} {pt p2 : Pos} {r : Option (List Str)} (hk : env.scope.kind = .function) (h : swN env.scope ts vs = some r) : swappedStores [.Tuple ts kt pt] (.Tuple vs k2 p2) env = pure r := by
  have hst : (vs.any fun | .Starred .. => true | _ => false) = vs.any isStar := rfl
  have e : ∀ t, env.kindOf t = env.scope.names.lookup t := fun _ => rfl
  unfold swN at h
  unfold swappedStores
  simp only [bk_fn hk, e]
  by_cases h1 : (!(ts.length == 2 || ts.length == 3) || vs.length != ts.length) = true
  · rw [if_pos h1] at h
    cases h
    rw [if_pos (by rw [h1]; rfl)]
  · rw [if_neg h1] at h
    have h1' : ((!(ts.length == 2 || ts.length == 3) || vs.length != ts.length) || (ScopeKind.function != ScopeKind.function)) = false := by
      rw [Bool.not_eq_true] at h1
      rw [h1]; rfl
    by_cases h2 : vs.any isStar = true
    · rw [if_pos h2] at h
      cases h
      rw [if_neg (by rw [h1']; simp)]
      rw [if_pos (by exact h2)]
    · rw [if_neg h2] at h
      rw [if_neg (by rw [h1']; simp)]
      rw [if_neg (by exact h2)]
      dsimp only at h
      split at h
      · rename_i h3
        cases h
        rw [if_pos (by exact h3)]
      · rename_i h3
        rw [if_neg (by exact h3)]
        split at h
        · rename_i h4
          cases h
          rw [if_pos (by exact h4)]
        · rename_i h4
          rw [if_neg (by exact h4)]
          split at h
          · cases h
          · rename_i h5
            cases h
            rw [if_neg (by exact h5)]
            rfl
def noneN : Option (Option (List Str)) → Bool
  | some none => true
  | _ => false
def isN (ns : List Str) : Option (Option (List Str)) → Bool
  | some (some xs) => decide (xs = ns)
  | _ => false
mutual
def chkS (T : Tab) : S → Ck → Stmt → Bool
  | .asg t e, ck, st => match t, st with
    | .one i, .Assign [.Name x px] e' _ => decide (ck.N[i]? = some x) && ck.st x && chkE T e ck e' && (match e' with
      | .ListComp _ _ scope vp => !(swB ck.sc x px vp scope) || (match e with | .comp _ _ _ _ _ => true | _ => false)
      | .SetComp _ _ _ _ => false
      | .DictComp _ _ _ _ _ => false
      | _ => true)
    | .tup ts, .Assign [.Tuple ts' kt pt] e' _ => chkTg ck (.tup ts) (.Tuple ts' kt pt) && chkE T e ck e' && (match e' with
      | .Tuple vs _ _ => noneN (swN ck.sc ts' vs)
      | _ => true)
    | _, _ => false
  | .par is es, ck, st => (match st with
    | .Assign [.Tuple ts' kt pt] (.Tuple vs k2 p2) _ => decide (es.len ≤ 1000) && decide (es.len = is.length) && chkTg ck (.tup (is.map .one)) (.Tuple ts' kt pt) && chkRs T es ck vs && noneN (swN ck.sc ts' vs)
    | _ => false) || match is, st with
    | [i, j], .Assign [.Tuple [.Name x px, .Name y py] kt pt] (.Tuple [a, b] k2 p2) _ => decide (ck.N[i]? = some x) && decide (ck.N[j]? = some y) && decide (i ≠ j) && decide (ck.sc.names.lookup x = some .local) && decide (ck.sc.names.lookup y = some .local) &&
        chkRs T es ck [a, b] && isN [x, y] (swN ck.sc [.Name x px, .Name y py] [a, b])
    | [i, j, l], .Assign [.Tuple [.Name x px, .Name y py, .Name z pz] kt pt] (.Tuple [a, b, c] k2 p2) _ => decide (ck.N[i]? = some x) && decide (ck.N[j]? = some y) && decide (ck.N[l]? = some z) && (decide (i ≠ j) && decide (i ≠ l) && decide (j ≠ l)) &&
        decide (ck.sc.names.lookup x = some .local) && decide (ck.sc.names.lookup y = some .local) && decide (ck.sc.names.lookup z = some .local) &&
        chkRs T es ck [a, b, c] && isN [x, y, z] (swN ck.sc [.Name x px, .Name y py, .Name z pz] [a, b, c])
    | _, _ => false
  | .put i ix v, ck, st => match st with
    | .Assign [.Subscript (.Name x _) ix' _] v' _ => decide (ck.N[i]? = some x) && visB ck.sc x && okName x && chkE T v ck v' && chkE T ix ck ix'
    | _ => false
  | .putAug i ix o v, ck, st => match st with
    | .AugAssign (.Subscript (.Name x _) ix' _) o' v' _ => (match o, o' with | .add, .Add => true | _, _ => false) && decide (ck.N[i]? = some x) && visB ck.sc x && okName x && chkE T v ck v' && chkE T ix ck ix'
    | _ => false
  | .putPar i ix j es, ck, st => match st with
    | .Assign [.Tuple [.Subscript (.Name x xp) ix' ip, .Name y yp] _ _] (.Tuple [a, b] _ _) _ => decide (ck.N[i]? = some x) && visB ck.sc x && okName x && decide (ck.N[j]? = some y) && ck.st y && chkE T ix ck ix' && chkDs T es ck [a, b] && noneN (swN ck.sc [.Subscript (.Name x xp) ix' ip, .Name y yp] [a, b])
    | _ => false
  | .aug i o e, ck, st => match st with
    | .AugAssign (.Name x _) o' e' _ => (match o, o' with | .add, .Add => true | _, _ => false) && decide (ck.N[i]? = some x) && ck.st x && chkE T e ck e'
    | _ => false
  | .expr e, ck, st => match st with
    | .Expr e' _ => notComp e' && chkE T e ck e'
    | _ => false
  | .app i e, ck, st => match st with
    | .Expr (.Call (.Attribute (.Name x _) nm apos) [e'] [] cpos) _ => decide (nm = "append") && decide (ck.N[i]? = some x) && visB ck.sc x && okName x && chkE T e ck e' && (apos.endLine == cpos.line)
    | _ => false
  | .iff c a b, ck, st => match st with
    | .If c' a' b' _ => !isIf c' && chkE T c ck c' && chkSs T a ck a' && chkSs T b ck b'
    | _ => false
  | .for_ tg it body _, ck, st => match st with
    | .For tg' iter' body' [] _ => chkTg ck tg tg' && chkIt T it ck tg' iter' && chkSs T body ck body'
    | _ => false
  | .whl c body _, ck, st => match st with
    | .While c' body' [] _ => !isIf c' && chkE T c ck c' && chkSs T body ck body'
    | _ => false
  | .ret e, ck, st => match st with
    | .Return (some e') _ => chkE T e ck e'
    | _ => false
  | .retN, ck, st => match st with
    | .Return none _ => true
    | _ => false
  | .pass, ck, st => match st with
    | .Pass _ => true
    | .Expr (.Constant (.str _) _ _) _ => true
    | _ => false
  | .cont, ck, st => match st with
    | .Continue _ => true
    | _ => false
  | .brk, ck, st => match st with
    | .Break _ => true
    | _ => false
  | .never, _, _ => true
  | .raise c e, ck, st => match st with
    | .Raise (some (.Call (.Name x _) [e'] [] _)) none _ => decide (T.cname c = some x) && glB ck.sc x && okName x && chkE T e ck e'
    | _ => false
  | .tryK body c i j, ck, st => match st with
    | .Try b' [.ExceptHandler (some (.Name x _)) (some n) [.Assign [.Name m _] (.Name n' _) _] _] [] [] _ => decide (n' = n) && decide (T.cname c = some x) && glB ck.sc x && okName x && decide (ck.N[i]? = some n) && decide (ck.N[j]? = some m) && decide (ck.sc.names.lookup n = some .local) && decide (ck.sc.names.lookup m = some .local) && okName n && calms body && chkSs T body ck b'
    | _ => false
def chkSs (T : Tab) : Ss → Ck → List Stmt → Bool
  | .nil, _, sts => sts.isEmpty
  | .cons s r, ck, sts => match sts with
    | [] => false
    | st :: sts' => chkS T s ck st && chkSs T r ck sts'
end
theorem noneN_ok {o : Option (Option (List Str))} (h : noneN o = true) : o = some none := by
  cases o with
  | none => cases h
  | some p => cases p <;> first | rfl | cases h
theorem isN_ok {o : Option (Option (List Str))} {ns : List Str} (h : isN ns o = true) : o = some (some ns) := by
  cases o with
  | none => cases h
  | some p =>
    cases p with
    | none => cases h
    | some q => rw [show q = ns from of_decide_eq_true h]
mutual
theorem calm_ok : ∀ (s : S) {X : Cx} {g : Gh} {ck : Ck} {k : Nat} (st : Stmt), g.T = T → Good X g ck k → calm s = true → chkS T s ck st = true → PS X st (tC' X.K g s)
  | .expr e, X, g, ck, k, st, hT, G, hc, h => by
    unfold chkS at h
    split at h
    · simp only [Bool.and_eq_true] at h
      exact c_expr (chkE_ok e _ hT G h.2).1 (sw_no h.1)
    · cases h
  | .iff c a b, X, g, ck, k, st, hT, G, hc, h => by
    unfold chkS at h
    have hc' : (calms a && calms b) = true := by unfold calm at hc; exact hc
    rw [Bool.and_eq_true] at hc'
    split at h
    · simp only [Bool.and_eq_true, Bool.not_eq_true'] at h
      obtain ⟨⟨⟨h1, h2⟩, h3⟩, h4⟩ := h
      exact c_if ((chkE_ok c _ hT G h2).2 h1) (calms_ok a _ hT G hc'.1 h3) (calms_ok b _ hT G hc'.2 h4)
    · cases h
  | .pass, X, g, ck, k, st, hT, G, hc, h => by
    unfold chkS at h
    split at h
    · exact c_pass
    · exact PS.mono (ps_expr pe_str) fun D σ H ⟨env, F, R, h⟩ => (show PostC X.K g σ env F H D (.ok (.nx env)) from h) F H R .refl
    · cases h
  | .asg _ _, _, _, _, _, _, _, _, hc, _ => by simp [calm] at hc
  | .par _ _, _, _, _, _, _, _, _, hc, _ => by simp [calm] at hc
  | .put _ _ _, _, _, _, _, _, _, _, hc, _ => by simp [calm] at hc
  | .putAug _ _ _ _, _, _, _, _, _, _, _, hc, _ => by simp [calm] at hc
  | .putPar _ _ _ _, _, _, _, _, _, _, _, hc, _ => by simp [calm] at hc
  | .aug _ _ _, _, _, _, _, _, _, _, hc, _ => by simp [calm] at hc
  | .app _ _, _, _, _, _, _, _, _, hc, _ => by simp [calm] at hc
  | .for_ _ _ _ _, _, _, _, _, _, _, _, hc, _ => by simp [calm] at hc
  | .whl _ _ _, _, _, _, _, _, _, _, hc, _ => by simp [calm] at hc
  | .ret _, _, _, _, _, _, _, _, hc, _ => by simp [calm] at hc
  | .retN, _, _, _, _, _, _, _, hc, _ => by simp [calm] at hc
  | .cont, _, _, _, _, _, _, _, hc, _ => by simp [calm] at hc
  | .brk, _, _, _, _, _, _, _, hc, _ => by simp [calm] at hc
  | .never, _, _, _, _, _, _, _, hc, _ => by simp [calm] at hc
  | .raise _ _, _, _, _, _, _, _, _, hc, _ => by simp [calm] at hc
  | .tryK _ _ _ _, _, _, _, _, _, _, _, hc, _ => by simp [calm] at hc
theorem calms_ok : ∀ (s : Ss) {X : Cx} {g : Gh} {ck : Ck} {k : Nat} (sts : List Stmt), g.T = T → Good X g ck k → calms s = true → chkSs T s ck sts = true → PSs X sts (tCs X.K g s)
  | .nil, X, g, ck, k, sts, hT, G, hc, h => by
    unfold chkSs at h
    rw [List.isEmpty_iff] at h
    subst h
    exact cs_nil
  | .cons s r, X, g, ck, k, sts, hT, G, hc, h => by
    unfold chkSs at h
    have hc' : (calm s && calms r) = true := by unfold calms at hc; exact hc
    rw [Bool.and_eq_true] at hc'
    split at h
    · cases h
    · simp only [Bool.and_eq_true] at h
      exact cs_cons (calm_ok s _ hT G hc'.1 h.1) (calms_ok r _ hT G hc'.2 h.2)
end
mutual
theorem chkS_ok : ∀ (s : S) {X : Cx} {g : Gh} {ck : Ck} {k : Nat} (st : Stmt), g.T = T → Good X g ck k → PassesOwn (model X.prog X.w) X.A X.env X.xe → TopX X → ck.sc.kind = .function → chkS T s ck st = true → PS X st (tS X.K g s)
  | .asg t e, X, g, ck, k, st, hT, G, hp, ht, hk, h => by
    unfold chkS at h
    split at h
    · rename_i i x px e' pos
      simp only [Bool.and_eq_true, decide_eq_true_eq] at h
      obtain ⟨⟨⟨h1, h2⟩, h3⟩, h4⟩ := h
      have hkX : X.env.scope.kind = .function := by rw [G.sc]; exact hk
      have reg : swapsWith e' (some (.Name x px)) pos.line X.env = pure false → PS X (.Assign [.Name x px] e' pos) (tS X.K g (.asg (.one i) e)) := fun hs => s_set G h1 h2 (chkE_ok e _ hT G h3).1 hs
      split at h4
      · rename_i elt' gs scope vp
        have sw := sw_lc (elt := elt') (gs := gs) (scope := scope) (px := px) (vp := vp) (t := x) (l := pos.line) hkX
        rw [G.sc] at sw
        cases q : swB ck.sc x px vp scope with
        | false => rw [q] at sw; exact reg sw
        | true =>
          rw [q] at sw
          rw [q] at h4
          cases e <;> first | cases h4 | skip
          rename_i elt tg it cond own
          unfold chkE at h3
          split at h3
          · rename_i elt' tg' iter' ifs scope' pos' he'
            cases he'
            simp only [Bool.and_eq_true, List.all_eq_true, decide_eq_true_eq] at h3
            obtain ⟨⟨⟨⟨⟨k1, k2⟩, k3⟩, k4⟩, k5⟩, k6⟩ := h3
            obtain ⟨q1, q2⟩ := chkIt_ok it tg' iter' hT G k1
            have hdT : g.deaf.T = T := hT
            have hl : ck.sc.names.lookup x = some .local := by
              unfold swB at q
              simp only [Bool.and_eq_true, decide_eq_true_eq] at q
              exact q.1.1
            have z := s_setLc (pos := pos) (pos' := px) (elt := elt) (cond := cond) (tg := tg) (it := it) G h1 hl sw q1 (it_var G k1) k2 (by rw [mem_own]; exact k3) (fun s H C cl fp => chkTg_ok (G.blk s H scope cl C fp) tg tg' k4) (fun s H C cl fp => chkC_ok cond ifs hdT (G.blk s H scope cl C fp) k5)
              (fun s H C cl fp => (chkE_ok elt elt' hdT (G.blk s H scope cl C fp) k6).1) q2
            rw [mem_own] at z
            exact z
          · cases h3
      · cases h4
      · cases h4
      · rename_i n1 n2 n3
        refine reg (sw_no ?_)
        cases e' <;> first | rfl | exact absurd rfl (n1 _ _ _ _) | exact absurd rfl (n2 _ _ _ _) | exact absurd rfl (n3 _ _ _ _ _)
    · rename_i ts ts' kt pt e' pos
      simp only [Bool.and_eq_true] at h
      obtain ⟨⟨h1, h2⟩, h3⟩ := h
      refine s_asgT (chkE_ok e _ hT G h2).1 (chkTg_ok G _ _ h1) ?_ ?_ rfl
      · cases e' <;> rfl
      · split at h3
        · exact sw_stores (by rw [G.sc]; exact hk) (by rw [G.sc]; exact noneN_ok h3)
        · rename_i n1
          cases e' <;> first | rfl | exact absurd rfl (n1 _ _ _)
    · cases h
  | .par is es, X, g, ck, k, st, hT, G, hp, ht, hk, h => by
    unfold chkS at h
    rw [Bool.or_eq_true] at h
    rcases h with h | h
    · split at h
      · simp only [Bool.and_eq_true, decide_eq_true_eq] at h
        obtain ⟨⟨⟨⟨h1, h2⟩, h3⟩, h4⟩, h5⟩ := h
        exact s_parT G (chkRs_ok es _ hT G h4) h1 h2 (chkTg_ok G _ _ h3) (sw_stores (by rw [G.sc]; exact hk) (by rw [G.sc]; exact noneN_ok h5))
      · cases h
    · split at h
      · simp only [Bool.and_eq_true, decide_eq_true_eq] at h
        obtain ⟨⟨⟨⟨⟨⟨h1, h2⟩, h3⟩, h4⟩, h5⟩, h6⟩, h7⟩ := h
        exact s_par G h1 h2 h3 h4 h5 (chkRs_ok es _ hT G h6) (sw_stores (by rw [G.sc]; exact hk) (by rw [G.sc]; exact isN_ok h7))
      · simp only [Bool.and_eq_true, decide_eq_true_eq] at h
        obtain ⟨⟨⟨⟨⟨⟨⟨⟨h1, h2⟩, h3⟩, ⟨⟨h4, h5⟩, h6⟩⟩, h7⟩, h8⟩, h9⟩, h10⟩, h11⟩ := h
        exact s_par3 G h1 h2 h3 h4 h5 h6 h7 h8 h9 (chkRs_ok es _ hT G h10) (sw_stores (by rw [G.sc]; exact hk) (by rw [G.sc]; exact isN_ok h11))
      · cases h
  | .put i ix v, X, g, ck, k, st, hT, G, hp, ht, hk, h => by
    unfold chkS at h
    split at h
    · simp only [Bool.and_eq_true, decide_eq_true_eq] at h
      obtain ⟨⟨⟨⟨h1, h2⟩, h3⟩, h4⟩, h5⟩ := h
      rename_i x xp ix' ip v' pos
      refine s_put G h1 h2 h3 (chkE_ok v _ hT G h4).1 (chkE_ok ix _ hT G h5).1 fun u => ?_
      cases ix' <;> first | rfl | (rw [chkE_slice] at h5; cases h5)
    · cases h
  | .putAug i ix o v, X, g, ck, k, st, hT, G, hp, ht, hk, h => by
    unfold chkS at h
    split at h
    · simp only [Bool.and_eq_true, decide_eq_true_eq] at h
      obtain ⟨⟨⟨⟨⟨h0, h1⟩, h2⟩, h3⟩, h4⟩, h5⟩ := h
      rename_i x xp ix' ip o' v' pos
      cases o <;> first | cases h0 | skip
      cases o' <;> first | cases h0 | skip
      refine s_putAug G h1 h2 h3 (chkE_ok v _ hT G h4).1 (chkE_ok ix _ hT G h5).1 fun u w z => ?_
      cases ix' <;> first | rfl | (rw [chkE_slice] at h5; cases h5)
    · cases h
  | .putPar i ix j es, X, g, ck, k, st, hT, G, hp, ht, hk, h => by
    unfold chkS at h
    split at h
    · simp only [Bool.and_eq_true, decide_eq_true_eq] at h
      obtain ⟨⟨⟨⟨⟨⟨⟨h1, h2⟩, h3⟩, h4⟩, h5⟩, h6⟩, h7⟩, h8⟩ := h
      rename_i x xp ix' ip y yp _ _ a b _ _ pos
      refine s_putPar G h1 h2 h3 h4 h5 (chkE_ok ix _ hT G h6).1 (chkDs_ok es _ hT G h7) (fun u => ?_) (sw_stores (by rw [G.sc]; exact hk) (by rw [G.sc]; exact noneN_ok h8))
      cases ix' <;> first | rfl | (rw [chkE_slice] at h6; cases h6)
    · cases h
  | .aug i o e, X, g, ck, k, st, hT, G, hp, ht, hk, h => by
    unfold chkS at h
    split at h
    · simp only [Bool.and_eq_true, decide_eq_true_eq] at h
      obtain ⟨⟨⟨h1, h2⟩, h3⟩, h4⟩ := h
      split at h1
      · exact s_aug G h2 h3 (chkE_ok e _ hT G h4).1
      · cases h1
    · cases h
  | .expr e, X, g, ck, k, st, hT, G, hp, ht, hk, h => by
    unfold chkS at h
    split at h
    · simp only [Bool.and_eq_true] at h
      exact s_expr (chkE_ok e _ hT G h.2).1 (sw_no h.1)
    · cases h
  | .app i e, X, g, ck, k, st, hT, G, hp, ht, hk, h => by
    unfold chkS at h
    split at h
    · simp only [Bool.and_eq_true, decide_eq_true_eq] at h
      obtain ⟨⟨⟨⟨⟨rfl, h2⟩, h3⟩, h4⟩, h5⟩, h6⟩ := h
      exact s_app G h2 h3 h4 (chkE_ok e _ hT G h5).1 (star1 h5) h6
    · cases h
  | .iff c a b, X, g, ck, k, st, hT, G, hp, ht, hk, h => by
    unfold chkS at h
    split at h
    · simp only [Bool.and_eq_true, Bool.not_eq_true'] at h
      obtain ⟨⟨⟨h1, h2⟩, h3⟩, h4⟩ := h
      exact s_if ((chkE_ok c _ hT G h2).2 h1) (chkSs_ok a _ hT G hp ht hk h3) (chkSs_ok b _ hT G hp ht hk h4)
    · cases h
  | .for_ tg it body gone, X, g, ck, k, st, hT, G, hp, ht, hk, h => by
    unfold chkS at h
    split at h
    · simp only [Bool.and_eq_true] at h
      obtain ⟨⟨h1, h2⟩, h3⟩ := h
      obtain ⟨q1, q2⟩ := chkIt_ok it _ _ hT G h2
      exact s_for G hp q1 (chkTg_ok G _ _ h1) (chkSs_ok body _ hT G hp ht hk h3) q2
    · cases h
  | .whl c body gone, X, g, ck, k, st, hT, G, hp, ht, hk, h => by
    unfold chkS at h
    split at h
    · simp only [Bool.and_eq_true, Bool.not_eq_true'] at h
      obtain ⟨⟨h1, h2⟩, h3⟩ := h
      exact s_while hp ((chkE_ok c _ hT G h2).2 h1) (chkSs_ok body _ hT G hp ht hk h3)
    · cases h
  | .ret e, X, g, ck, k, st, hT, G, hp, ht, hk, h => by
    unfold chkS at h
    split at h
    · exact s_ret (chkE_ok e _ hT G h).1
    · cases h
  | .retN, X, g, ck, k, st, hT, G, hp, ht, hk, h => by
    unfold chkS at h
    split at h
    · exact s_retN
    · cases h
  | .pass, X, g, ck, k, st, hT, G, hp, ht, hk, h => by
    unfold chkS at h
    split at h
    · exact s_pass
    · exact s_doc
    · cases h
  | .cont, X, g, ck, k, st, hT, G, hp, ht, hk, h => by
    unfold chkS at h
    split at h
    · exact s_cont
    · cases h
  | .brk, X, g, ck, k, st, hT, G, hp, ht, hk, h => by
    unfold chkS at h
    split at h
    · exact s_brk
    · cases h
  | .never, X, g, ck, k, st, hT, G, hp, ht, hk, h => s_never
  | .raise c e, X, g, ck, k, st, hT, G, hp, ht, hk, h => by
    unfold chkS at h
    split at h
    · simp only [Bool.and_eq_true, decide_eq_true_eq] at h
      obtain ⟨⟨⟨h1, h2⟩, h3⟩, h4⟩ := h
      exact s_raise G (by rw [hT]; exact h1) h2 h3 (chkE_ok e _ hT G h4).1 fun es => star1 h4
    · cases h
  | .tryK body c i j, X, g, ck, k, st, hT, G, hp, ht, hk, h => by
    unfold chkS at h
    split at h
    · simp only [Bool.and_eq_true, decide_eq_true_eq] at h
      obtain ⟨⟨⟨⟨⟨⟨⟨⟨⟨⟨rfl, h1⟩, h2⟩, h3⟩, h4⟩, h5⟩, h6⟩, h7⟩, h8⟩, h9⟩, h10⟩ := h
      exact s_tryK G ht (by rw [hT]; exact h1) h2 h3 h4 h5 h6 h7 h8 (fun W pn xe G' => calms_ok body _ hT G' h9 h10) fun env => rfl
    · cases h
theorem chkSs_ok : ∀ (s : Ss) {X : Cx} {g : Gh} {ck : Ck} {k : Nat} (sts : List Stmt), g.T = T → Good X g ck k → PassesOwn (model X.prog X.w) X.A X.env X.xe → TopX X → ck.sc.kind = .function → chkSs T s ck sts = true → PSs X sts (tSs X.K g s)
  | .nil, X, g, ck, k, sts, hT, G, hp, ht, hk, h => by
    unfold chkSs at h
    rw [List.isEmpty_iff] at h
    subst h
    exact ss_nil
  | .cons s r, X, g, ck, k, sts, hT, G, hp, ht, hk, h => by
    unfold chkSs at h
    split at h
    · cases h
    · simp only [Bool.and_eq_true] at h
      exact ss_cons (chkS_ok s _ hT G hp ht hk h.1) (chkSs_ok r _ hT G hp ht hk h.2)
end
end Ev
namespace Ev
open PySem PySem.Spec PyProof.Rows L2
section
variable {P : Program} {w : World} {K : PySem.W.Frag} {mg : Str → Option Value} {base : Heap} {c : RC} {k : Nat} {T : Tab}
theorem start_len {chg : Option Nat} {ns : Nat} {ds : List D} (h : ds.length ≤ ns) : (Ev.start chg ns ds).length = ns := by
  unfold Ev.start
  simp only [List.length_append, List.length_map, List.length_zipIdx, List.length_replicate]
  omega
theorem start_at {chg : Option Nat} {ns : Nat} {ds : List D} (i : Nat) : (Ev.start chg ns ds).at i = match ds[i]? with
  | some d => if chg = some i then .byr d else .val d
  | none => .no := by
  unfold Env.at Ev.start
  rw [List.getD_eq_getElem?_getD]
  rcases Nat.lt_or_ge i ds.length with h | h
  · rw [List.getElem?_append_left (by simpa using h), List.getElem?_map, List.getElem?_zipIdx, List.getElem?_eq_getElem h]
    simp
  · rw [List.getElem?_append_right (by simpa using h), List.getElem?_eq_none h, List.getElem?_replicate]
    split <;> rfl
theorem fn_rule {x qual : Str} {params : Arguments} {body : List Stmt} {scope : Scope} {f : Nat} {fdt : FuncData} {N ps : List Str} {fd : Fn} (FF : FunD K x qual params body scope [] [] (c.fa f) fdt) (S : FnScope N ps scope) (hf : T.fn f = some fd)
    (hnp : fd.np = ps.length) (hns : fd.ns = N.length) (hchg : ∀ m, fd.chg = some m → m < fd.np) (hle : fd.np ≤ fd.ns) (h : chkSs T fd.body ⟨N, scope, locB scope⟩ body = true) {jd : Nat} (hjd : 2 ≤ jd) (PO : ProgOk T P w K mg base c jd (callF T k)) :
    FnG P w K mg base (L2.CX P w) (jd + 1) (c.fa f) fdt ps (spF K c (callF T (k + 1)) fd.np f fd.chg) := by
  refine fnG_of FF S (fun vs H Q E ⟨_, _, _, _, hl, _⟩ => hl.trans hnp) fun cdv A outer s H vs Q E hgd hr ⟨F, ds, sub, dl, vl, args, post⟩ => ?_
  -- the caller's list
  obtain ⟨bs, hbs, hbs2⟩ : ∃ bs : List (Nat × Addr), (∀ m a, fd.chg = some m → vs[m]? = some (.ref a) → (m, a) ∈ bs) ∧ ∀ i a, (i, a) ∈ bs → fd.chg = some i ∧ vs[i]? = some (.ref a) := by
    cases e : fd.chg with
    | none => exact ⟨[], fun m a z => (by cases z), fun i a z => (by cases z)⟩
    | some m =>
      cases e2 : vs[m]? with
      | none => exact ⟨[], fun m' a z z2 => (by cases z; rw [e2] at z2; cases z2), fun i a z => (by cases z)⟩
      | some v =>
        cases v with
        | ref a =>
          refine ⟨[(m, a)], fun m' a' z z2 => ?_, fun i a' z => ?_⟩
          · cases z; rw [e2] at z2; cases z2; exact List.mem_singleton.mpr rfl
          · have := List.mem_singleton.mp z; cases this; exact ⟨rfl, e2⟩
        | _ => exact ⟨[], fun m' a z z2 => (by cases z; rw [e2] at z2; cases z2), fun i a z => (by cases z)⟩
  let g : Gh := { c := c, H0 := H, bs := bs, W := fun cls d _ H => E cls d H, T := T, call := callF T k }
  have kp : ∀ a : Addr, (∀ i, (i, a) ∉ bs) → ∀ kk, fd.chg = some kk → vs[kk]? ≠ some (.ref a) := fun a n kk e e2 => n kk (hbs kk a e e2)
  have G : Good (cxOf (L2.CX P w) P w K mg base N qual scope (c.fa f) cdv A outer s H E) g ⟨N, scope, locB scope⟩ jd :=
    ⟨rfl, rfl, S.nd, rfl, fun y hy => ⟨locB_ok hy, .inl rfl⟩, hr, hgd, hjd, takes_of rfl rfl rfl rfl, fun σ => passAt (takes_of rfl rfl rfl rfl) σ, PO⟩
  refine ⟨tSs K g fd.body, chkSs_ok fd.body body rfl G (passes_of rfl) ⟨rfl, rfl, rfl⟩ S.kind h, F, Ev.start fd.chg fd.ns ds, F, ?_, ?_⟩
  · have hat := fun i => start_at (chg := fd.chg) (ns := fd.ns) (ds := ds) i
    have hs : ∀ (i : Nat) (v : V), vs[i]? = some v → (L2.start N vs)[i]? = some (some v) := fun i v e => by
      unfold L2.start
      rw [List.getElem?_append_left (by rw [List.length_map]; exact (List.getElem?_eq_some_iff.mp e).1), List.getElem?_map, e]; rfl
    have get : ∀ (i : Nat) (d : D), ds[i]? = some d → ∃ v, vs[i]? = some v ∧ ArgOk K c F H (decide (fd.chg = some i)) d v := fun i d e => by
      have hi : i < vs.length := by rw [vl, ← dl]; exact (List.getElem?_eq_some_iff.mp e).1
      exact ⟨vs[i], List.getElem?_eq_getElem hi, args i d _ e (List.getElem?_eq_getElem hi)⟩
    refine ⟨⟨sub, ?_, fun i d q => ?_, fun i d q => ?_, fun i d q => ?_, fun i j a g1 g2 g3 g4 => ?_, fun a o e _ => e, fun a o e => ⟨o, e⟩⟩, Sub.refl _, fun a o e => .inl e⟩
    · rw [start_len (by rw [dl]; exact hle), hns]
      unfold L2.start
      simp only [List.length_append, List.length_map, List.length_replicate]
      omega
    · rw [hat] at q
      cases e : ds[i]? with
      | none => rw [e] at q; cases q
      | some d' =>
        rw [e] at q
        simp only at q
        split at q
        · cases q
        · rename_i hn
          cases q
          obtain ⟨v, e1, e2⟩ := get i d e
          unfold ArgOk at e2
          rw [if_neg (by simp [hn])] at e2
          exact ⟨v, hs i v e1, e2⟩
    · rw [hat] at q
      cases e : ds[i]? with
      | none => rw [e] at q; cases q
      | some d' => rw [e] at q; simp only at q; split at q <;> cases q
    · rw [hat] at q
      cases e : ds[i]? with
      | none => rw [e] at q; cases q
      | some d' =>
        rw [e] at q
        simp only at q
        split at q
        · rename_i hn
          cases q
          obtain ⟨v, e1, e2⟩ := get i d e
          unfold ArgOk at e2
          rw [if_pos (by simp [hn])] at e2
          obtain ⟨a, o, rfl, k1, k2, k3⟩ := e2
          exact ⟨a, o, hs i _ e1, k1, k2, k3, hbs i a hn e1⟩
        · cases q
    · have key : ∀ i, ((Ev.start fd.chg fd.ns ds).at i).mine = true → fd.chg = some i := fun i hm => by
        rw [hat] at hm
        cases e : ds[i]? with
        | none => rw [e] at hm; cases hm
        | some d' =>
          rw [e] at hm
          simp only at hm
          split at hm
          · assumption
          · cases hm
      have a1 := key i g1
      have a2 := key j g2
      rw [a1] at a2; cases a2; rfl
  · -- what it hands back
    have post' : FPost K c F H fd.chg vs (if ds.length = fd.np ∧ fd.np ≤ fd.ns then
        (evSs g fd.body (Ev.start fd.chg fd.ns ds)).bind fun
          | .ret r e => (match handBack r e, left fd.chg e with
            | some r', some o => .ok (r', o)
            | _, _ => .bad)
          | .nx e => (match left fd.chg e with
            | some o => .ok (.val .non, o)
            | none => .bad)
          | _ => .bad
      else .bad) Q E := by
      have e : callF T (k + 1) f ds = match T.fn f with
        | none => .bad
        | some fd => if ds.length = fd.np ∧ fd.np ≤ fd.ns then
            (evalSs T.chg T.gval (callF T k) fd.body (Ev.start fd.chg fd.ns ds)).bind fun
              | .ret r e => (match handBack r e, left fd.chg e with
                | some r', some o => .ok (r', o)
                | _, _ => .bad)
              | .nx e => (match left fd.chg e with
                | some o => .ok (.val .non, o)
                | none => .bad)
              | _ => .bad
          else .bad := rfl
      rw [e, hf] at post
      exact post
    rw [if_pos ⟨dl, hle⟩] at post'
    -- the changed list at the end
    have fin : ∀ (e : Env) (F' H' : Hp) (σ' : L2.St) (o : Option D), RelS K g F e F' σ' H' → left fd.chg e = some o → Sub F F' ∧ Sub F' H' ∧ (∀ a o, H a = some o → (∀ k, fd.chg = some k → vs[k]? ≠ some (.ref a)) → H' a = some o) ∧ (∀ a o, H a = some o → ∃ u, H' a = some u) ∧
        (∀ a o, F' a = some o → F a = some o ∨ H a = none) ∧ (∀ k a, fd.chg = some k → vs[k]? = some (.ref a) → ∃ d u, o = some d ∧ H' a = some u ∧ RepO K c F' d u ∧ F' a = none) := by
      intro e F' H' σ' o R hl
      have byr : ∀ m, fd.chg = some m → ∃ d a u, o = some d ∧ H' a = some u ∧ RepO K c F' d u ∧ F' a = none ∧ vs[m]? = some (.ref a) := fun m em => by
        rw [em] at hl
        cases q : e.at m with
        | byr d =>
          simp only [left, q] at hl
          cases hl
          obtain ⟨a, u, _, k2, k3, k4, k5⟩ := R.rel.byr m d q
          exact ⟨d, a, u, rfl, k2, k3, k4, (hbs2 m a k5).2⟩
        | _ => simp only [left, q] at hl; cases hl
      refine ⟨R.sub, R.rel.sub, fun a u e1 n => R.rel.ext a u e1 fun i hi => n i (hbs2 i a hi).1 (hbs2 i a hi).2, R.rel.th, fun a u e1 => ?_, fun m a em ev => ?_⟩
      · rcases R.bk a u e1 with z | z | ⟨i, z⟩
        · exact .inl z
        · exact .inr z
        · obtain ⟨m1, m2⟩ := hbs2 i a z
          obtain ⟨d, b, u', _, _, _, k4, k5⟩ := byr i m1
          rw [m2] at k5; cases k5
          rw [e1] at k4; cases k4
      · obtain ⟨d, b, u', k1, k2, k3, k4, k5⟩ := byr m em
        rw [ev] at k5; cases k5
        exact ⟨d, u', k1, k2, k3, k4⟩
    cases er : evSs g fd.body (Ev.start fd.chg fd.ns ds) with
    | bad => rw [er] at post'; exact post'.elim
    | exc kk d =>
      rw [er] at post'
      intro σ dx w' F' H' s1 s2 keep gr h0 hk hx rep
      exact post' dx w' F' H' s1 s2 (fun a o e n => keep a o e fun i hi => n i (hbs2 i a hi).1 (hbs2 i a hi).2) (fun a o e => by
        rcases gr a o e with z | z | ⟨i, z⟩
        · exact .inl z
        · exact .inr (.inl z)
        · exact .inr (.inr ⟨i, hbs2 i a z⟩)) h0 hk hx rep
    | ok fl =>
      rw [er] at post'
      simp only [Res.bind_ok] at post'
      cases fl with
      | brk e => exact post'.elim
      | ct e => exact post'.elim
      | nx e =>
        intro σ' F' H' R
        simp only at post'
        cases el : left fd.chg e with
        | none => rw [el] at post'; exact post'.elim
        | some o =>
          rw [el] at post'
          obtain ⟨f1, f2, f3, f4, f5, f6⟩ := fin e F' H' σ' o R el
          exact post' .non F' H' f1 f2 f3 f4 f5 f6 .non
      | ret r e =>
        intro σ' v F' H' R rr
        simp only at post'
        cases eh : handBack r e with
        | none => rw [eh] at post'; exact post'.elim
        | some r' =>
          rw [eh] at post'
          cases el : left fd.chg e with
          | none => rw [el] at post'; exact post'.elim
          | some o =>
            rw [el] at post'
            obtain ⟨f1, f2, f3, f4, f5, f6⟩ := fin e F' H' σ' o R el
            refine post' v F' H' f1 f2 f3 f4 f5 f6 ?_
            cases r with
            | val d => cases eh; exact rr
            | tmp d =>
              cases eh
              obtain ⟨a, u, rfl, k1, k2, k3, k4, _⟩ := rr
              exact ⟨a, u, rfl, k1, k2, k3, k4⟩
            | var i =>
              have rr' : σ'[i]? = some (some v) := rr
              cases q : e.at i with
              | no => simp only [handBack, q] at eh; cases eh
              | byr d => simp only [handBack, q] at eh; cases eh
              | val d =>
                simp only [handBack, q] at eh
                cases eh
                obtain ⟨u, k1, k2⟩ := R.rel.val i d q
                rw [rr'] at k1; cases k1
                exact k2
              | own d =>
                simp only [handBack, q] at eh
                cases eh
                obtain ⟨a, u, k1, k2, k3, k4, k5⟩ := R.rel.own i d q
                rw [rr'] at k1; cases k1
                exact ⟨a, u, rfl, k2, k3, k4, k5⟩
end
end Ev
namespace Ev
open PySem PySem.Spec PyProof.Rows L2
/-! ### a program's defs -/
def tabOf (L : List FD) (cs : List (Str × D)) (es : List Str) (im : Bool) : Tab where
  fn := fun f => (L[f]?).map (·.fn)
  fname := fun f => match L[f]? with
    | some d => d.name
    | none => ⟨#[]⟩
  ps := fun f => match L[f]? with
    | some d => d.ps
    | none => []
  gname := fun n => match cs[n]? with
    | some q => q.1
    | none => ⟨#[]⟩
  gval := fun n => (cs[n]?).map (·.2)
  cname := fun n => es[n]?
  gcd := im
def scB (N ps : List Str) (sc : Scope) : Bool := (match sc.kind with | .function => true | _ => false) && !sc.isCoroutine && !sc.isGenerator && decide N.Nodup && decide (N.take ps.length = ps) && (ps.all fun x => locB sc x) && sc.names.all fun y => match y.2 with | .free => false | _ => true
theorem scB_ok {N ps : List Str} {sc : Scope} (h : scB N ps sc = true) : FnScope N ps sc := by
  unfold scB at h
  simp only [Bool.and_eq_true, Bool.not_eq_true', decide_eq_true_eq, List.all_eq_true] at h
  obtain ⟨⟨⟨⟨⟨⟨h1, h2⟩, h3⟩, h4⟩, h5⟩, h6⟩, h7⟩ := h
  refine ⟨?_, h2, h3, h4, h5, fun x hx => locB_ok (h6 x hx), fun y hy e => ?_⟩
  · split at h1
    · assumption
    · cases h1
  · have := h7 y hy
    rw [e] at this; cases this
def argB (ps : List Str) (a : Arguments) : Bool := a.posonlyargs.isEmpty && decide (a.args.map (·.arg) = ps) && a.vararg.isNone && a.kwonlyargs.isEmpty && a.kwarg.isNone && decide ps.Nodup
def FD.ok (T : Tab) (d : FD) : Bool := scB d.N d.ps (defScope d.st) && argB d.ps (defArgs d.st) && decide (d.fn.np = d.ps.length) && decide (d.fn.ns = d.N.length) && decide (d.fn.np ≤ d.fn.ns) && (match d.fn.chg with | none => true | some m => decide (m < d.fn.np)) &&
  chkSs T d.fn.body ⟨d.N, defScope d.st, locB (defScope d.st)⟩ (defBody d.st)
/-- where the defs stand -/
def rcOf (K : PySem.W.Frag) (T : Tab) (es : List Str) : RC := ⟨fun f => He.ga K (T.fname f), fun n => He.ga K (es.getD n ⟨#[]⟩), es.length⟩
section
variable {P : Program} {w : World} {K : PySem.W.Frag} {mg : Str → Option Value} {base : Heap}
theorem plain_of {x qual : Str} {params : Arguments} {body : List Stmt} {scope : Scope} {f : Addr} {fdt : FuncData} {ps : List Str} (F : FunD K x qual params body scope [] [] f fdt) (h : argB ps params = true) : Plain fdt ps := by
  obtain ⟨oc, od, dV, kV, doc, pm, an, cdv, ct, osl, rfl, lk, hcd, hD, hK⟩ := F.ex
  unfold argB at h
  simp only [Bool.and_eq_true, decide_eq_true_eq, List.isEmpty_iff, Option.isNone_iff_eq_none] at h
  obtain ⟨⟨⟨⟨⟨h1, h2⟩, h3⟩, h4⟩, h5⟩, h6⟩ := h
  rcases hD with ⟨_, rfl⟩ | ⟨e, _⟩
  · exact ⟨h1, h2, h3, h4, h5, rfl, h6⟩
  · exact absurd rfl e
theorem arity {T : Tab} : ∀ {k f : Nat} {fd : Fn} {ds : List D}, T.fn f = some fd → callF T k f ds ≠ .bad → ds.length = fd.np
  | 0, f, fd, ds, _, h => absurd rfl h
  | k + 1, f, fd, ds, hf, h => by
    refine Classical.byContradiction fun n => h ?_
    unfold callF
    rw [hf]
    simp only
    rw [if_neg fun z => n z.1]
theorem prog_ok {L : List FD} {cs : List (Str × D)} {es : List Str} {im : Bool} (defs : ∀ d ∈ L, mg d.name = some (.ref (He.ga K d.name)) ∧ ∃ fdt, FunD K d.own d.own (defArgs d.st) (defBody d.st) (defScope d.st) [] [] (He.ga K d.name) fdt)
    (free : ∀ x ∈ builtinNames, mg x = none) (err : 0 < es.length → Errs P w K mg base (rcOf K (tabOf L cs es im) es) (tabOf L cs es im).cname) (cons : ∀ n d, (tabOf L cs es im).gval n = some d → ∃ u v, mg ((tabOf L cs es im).gname n) = some u ∧ RelV v u ∧ ∀ F, Rep K (rcOf K (tabOf L cs es im) es) F d v)
    (gcd : im = true → mg "gcd" = some (.builtin "math.gcd")) (cdn : ∀ n ds, (tabOf L cs es im).gval n = some (.tup ds) → ∃ a o, mg ((tabOf L cs es im).gname n) = some (.ref a) ∧ K.lookup a = some o ∧ o.cls = .type "tuple" ∧ o.dict = none)
    (ok : ∀ d ∈ L, FD.ok (tabOf L cs es im) d = true) : ∀ k, ProgOk (tabOf L cs es im) P w K mg base (rcOf K (tabOf L cs es im) es) (k + 2) (callF (tabOf L cs es im) k) := by
  have facts : ∀ f fd, (tabOf L cs es im).fn f = some fd → ∃ d ∈ L, L[f]? = some d ∧ d.fn = fd ∧ (tabOf L cs es im).fname f = d.name ∧ (tabOf L cs es im).ps f = d.ps := fun f fd h => by
    cases e : L[f]? with
    | none => simp only [tabOf, e] at h; cases h
    | some d =>
      simp only [tabOf, e] at h
      cases h
      exact ⟨d, List.mem_of_getElem? e, rfl, rfl, by simp only [tabOf, e], by simp only [tabOf, e]⟩
  have base1 : ∀ k, (∀ f fd, (tabOf L cs es im).fn f = some fd → ∀ d ∈ L, L[f]? = some d → d.fn = fd → (tabOf L cs es im).fname f = d.name → (tabOf L cs es im).ps f = d.ps → ∀ fdt, FunD K d.own d.own (defArgs d.st) (defBody d.st) (defScope d.st) [] [] (He.ga K d.name) fdt →
      FnG P w K mg base (L2.CX P w) (k + 2) (He.ga K d.name) fdt d.ps (spF K (rcOf K (tabOf L cs es im) es) (callF (tabOf L cs es im) k) fd.np f fd.chg)) → ProgOk (tabOf L cs es im) P w K mg base (rcOf K (tabOf L cs es im) es) (k + 2) (callF (tabOf L cs es im) k) := by
    intro k hk
    have hnc : ∀ n, (∃ x, (tabOf L cs es im).cname n = some x) ↔ n < (rcOf K (tabOf L cs es im) es).nc := fun n => by
      show (∃ x, es[n]? = some x) ↔ n < es.length
      constructor
      · rintro ⟨x, e⟩; exact (List.getElem?_eq_some_iff.mp e).1
      · intro h; exact ⟨_, List.getElem?_eq_getElem h⟩
    refine ⟨fun f fd h => ?_, free, cons, err, hnc, gcd, cdn, fun f fd ds hf hb => arity hf hb⟩
    obtain ⟨d, hd, e1, e2, e3, e4⟩ := facts f fd h
    obtain ⟨hm, fdt, F⟩ := defs d hd
    have o := ok d hd
    unfold FD.ok at o
    simp only [Bool.and_eq_true, decide_eq_true_eq] at o
    obtain ⟨⟨⟨⟨⟨⟨o1, o2⟩, o3⟩, o4⟩, o5⟩, o6⟩, o7⟩ := o
    have ef : (rcOf K (tabOf L cs es im) es).fa f = He.ga K d.name := by show He.ga K ((tabOf L cs es im).fname f) = _; rw [e3]
    rw [e3, ef, e4]
    refine ⟨hm, F.kp, by rw [← e2, o3], fdt, plain_of F o2, hk f fd h d hd e1 e2 e3 e4 fdt F⟩
  intro k
  induction k with
  | zero =>
    refine base1 0 fun f fd h d hd e1 e2 e3 e4 fdt F => ⟨fun vs H Q E ⟨_, _, _, _, _, _, z⟩ => z.elim, fun A outer s H args us vs Q E _ _ _ _ _ ⟨_, _, _, _, _, _, z⟩ => z.elim⟩
  | succ k ih =>
    refine base1 (k + 1) fun f fd h d hd e1 e2 e3 e4 fdt F => ?_
    have o := ok d hd
    unfold FD.ok at o
    simp only [Bool.and_eq_true, decide_eq_true_eq] at o
    obtain ⟨⟨⟨⟨⟨⟨o1, o2⟩, o3⟩, o4⟩, o5⟩, o6⟩, o7⟩ := o
    have ef : (rcOf K (tabOf L cs es im) es).fa f = He.ga K d.name := by show He.ga K ((tabOf L cs es im).fname f) = _; rw [e3]
    subst e2
    have F' : FunD K d.own d.own (defArgs d.st) (defBody d.st) (defScope d.st) [] [] ((rcOf K (tabOf L cs es im) es).fa f) fdt := by rw [ef]; exact F
    have z := fn_rule (c := rcOf K (tabOf L cs es im) es) (T := tabOf L cs es im) (f := f) (fd := d.fn) (N := d.N) (ps := d.ps) (P := P) (w := w) (mg := mg) (base := base) F' (scB_ok o1) h o3 o4 (fun m em => by rw [em] at o6; exact of_decide_eq_true o6) o5 o7 (jd := k + 2) (by omega) ih
    rw [ef] at z
    exact z
/-- the first def, whatever the heap at the entry -/
theorem prog_law {L : List FD} {cs : List (Str × D)} {es : List Str} {im : Bool} {d : FD} (hL : L[0]? = some d) (defs : ∀ d ∈ L, mg d.name = some (.ref (He.ga K d.name)) ∧ ∃ fdt, FunD K d.own d.own (defArgs d.st) (defBody d.st) (defScope d.st) [] [] (He.ga K d.name) fdt)
    (free : ∀ x ∈ builtinNames, mg x = none) (err : ∀ base : Heap, 0 < es.length → Errs P w K mg base (rcOf K (tabOf L cs es im) es) (tabOf L cs es im).cname) (cons : ∀ n d, (tabOf L cs es im).gval n = some d → ∃ u v, mg ((tabOf L cs es im).gname n) = some u ∧ RelV v u ∧ ∀ F, Rep K (rcOf K (tabOf L cs es im) es) F d v)
    (gcd : im = true → mg "gcd" = some (.builtin "math.gcd")) (cdn : ∀ n ds, (tabOf L cs es im).gval n = some (.tup ds) → ∃ a o, mg ((tabOf L cs es im).gname n) = some (.ref a) ∧ K.lookup a = some o ∧ o.cls = .type "tuple" ∧ o.dict = none)
    (ok : ∀ d ∈ L, FD.ok (tabOf L cs es im) d = true) : ∃ fdt, Plain fdt d.ps ∧ ∀ (k : Nat) (base : Heap), FnG P w K mg base (L2.CX P w) (k + 3) (He.ga K d.name) fdt d.ps (spF K (rcOf K (tabOf L cs es im) es) (callF (tabOf L cs es im) (k + 1)) d.fn.np 0 d.fn.chg) := by
  have hd := List.mem_of_getElem? hL
  obtain ⟨hm, fdt, F⟩ := defs d hd
  have o := ok d hd
  unfold FD.ok at o
  simp only [Bool.and_eq_true, decide_eq_true_eq] at o
  obtain ⟨⟨⟨⟨⟨⟨o1, o2⟩, o3⟩, o4⟩, o5⟩, o6⟩, o7⟩ := o
  refine ⟨fdt, plain_of F o2, fun k base => ?_⟩
  have PK : ProgOk (tabOf L cs es im) P w K mg base (rcOf K (tabOf L cs es im) es) (k + 2) (callF (tabOf L cs es im) k) := prog_ok defs free (err base) cons gcd cdn ok k
  have ef : (rcOf K (tabOf L cs es im) es).fa 0 = He.ga K d.name := by show He.ga K ((tabOf L cs es im).fname 0) = _; simp only [tabOf, hL]
  have hfn : (tabOf L cs es im).fn 0 = some d.fn := by simp only [tabOf, hL]; rfl
  have F' : FunD K d.own d.own (defArgs d.st) (defBody d.st) (defScope d.st) [] [] ((rcOf K (tabOf L cs es im) es).fa 0) fdt := by rw [ef]; exact F
  have z := fn_rule (c := rcOf K (tabOf L cs es im) es) (T := tabOf L cs es im) (f := 0) (fd := d.fn) (N := d.N) (ps := d.ps) (P := P) (w := w) (mg := mg) (base := base) F' (scB_ok o1) hfn o3 o4 (fun m em => by rw [em] at o6; exact of_decide_eq_true o6) o5 o7 (jd := k + 2) (by omega) PK
  rw [ef] at z
  exact z
theorem plain_binds {fdt : FuncData} {x : Str} (P : Plain fdt [x]) (s : Shared) (u : Value) : BindsTo s fdt ⟨[u], []⟩ [(x, u)] :=
  binds_ok (ks := []) (p := []) (us := [u]) (ws := []) P rfl rfl
/-- what may leave, whatever the program and the world -/
def CXu : CXT := fun outer H s E u s' => ∃ P w, L2.CX P w outer H s E u s'
theorem FnG.cx {CX CX' : CXT} {k : Nat} {f : Addr} {fd : FuncData} {ps : List Str} {sp : Sp} (h : ∀ outer H s E e s', CX outer H s E e s' → CX' outer H s E e s') (F : FnG P w K mg base CX k f fd ps sp) : FnG P w K mg base CX' k f fd ps sp :=
  ⟨F.len, fun A outer s H args us vs Q E hg hr e b v hs => codeAny_mono (F.run A outer s H args us vs Q E hg hr e b v hs) fun r s' hq => by
    cases r with
    | error e => exact h _ _ _ _ _ _ hq
    | ok fl => cases fl <;> exact hq⟩
theorem FnG.u {k : Nat} {f : Addr} {fd : FuncData} {ps : List Str} {sp : Sp} (F : FnG P w K mg base (L2.CX P w) k f fd ps sp) : FnG P w K mg base CXu k f fd ps sp := FnG.cx (fun _ _ _ _ _ _ z => ⟨P, w, z⟩) F
theorem CXu_no (H : Hp) (s : Shared) (e : Value) (s' : Shared) (z : CXu [] H s (fun _ _ _ => False) e s') : False := by
  obtain ⟨_, _, _, _, _, _, _, _, _, _, _, _, _, _, w⟩ := z
  exact w
/-- a law's def, by its data -/
theorem law_sp {c : RC} {T : Tab} {k f : Nat} {np : Nat} {H : Hp} {a : Addr} {ns : List Int} (hnp : np = 1) (hS : SqL K H a (ns.map V.int)) (hl : ns.length ≤ LIM) (h : callF T k f [.scr ns] = .ok (.val (.bl true), none)) : spF K c (callF T k) np f none [.ref a] H (fun v _ => v = .bl true) fun _ _ _ => False := by
  subst hnp
  refine ⟨H, [.scr ns], Sub.refl _, rfl, rfl, fun i d v e1 e2 => ?_, ?_⟩
  · cases i with
    | zero =>
      simp at e1 e2
      subst e1 e2
      exact Rep.scr hS hl
    | succ i => simp at e1
  · rw [h]
    intro v F' H' _ _ _ _ _ _ hr
    cases hr
    rfl
end
end Ev
namespace Ev
open PySem PySem.Spec PyProof.Rows L2 NdefX
/-! ### the classes of errors, read off the heap behind the top -/
theorem oexB_ok {K : PySem.W.Frag} {C : Addr} (h : oexB K C = true) : OexC K C := by
  unfold oexB at h
  simp only [Bool.and_eq_true, decide_eq_true_eq] at h
  obtain ⟨⟨⟨⟨h1, h2⟩, h3⟩, h4⟩, h5⟩ := h
  refine ⟨?_, h2, h3, h4, h5⟩
  split at h1
  · rename_i t dd nm bs mro ns qn hd sn sb ab co del sl lk
    simp only [Bool.and_eq_true, decide_eq_true_eq, Bool.not_eq_true'] at h1
    obtain ⟨⟨⟨⟨rfl, k1⟩, rfl⟩, rfl⟩, k2⟩ := h1
    split at k1
    · rename_i c bm
      simp only [Bool.and_eq_true, decide_eq_true_eq] at k1
      obtain ⟨rfl, k1⟩ := k1
      split at k2
      · rename_i a0 a1 a2 a3 n a5 el
        obtain rfl := of_decide_eq_true k2
        have es : sl = #[a0, a1, a2, a3, some (.builtin "ValueError.__new__"), a5] := by
          rw [← Array.toArray_toList (xs := sl), el]
        subst es
        exact ⟨nm, qn, ns, bs, bm, sn, sb, ab, co, dd, a0, a1, a2, a3, a5, lk, k1⟩
      · cases k2
    · cases k1
  · cases h1
theorem underB_ok {K : PySem.W.Frag} {D C : Addr} (h : underB K D C = true) : Xc.Under K D C := by
  unfold underB at h
  simp only [Bool.and_eq_true, decide_eq_true_eq] at h
  obtain ⟨⟨⟨⟨h1, h2⟩, h3⟩, h4⟩, h5⟩ := h
  refine ⟨oexB_ok h1, h2, ?_, h4, h5⟩
  split at h3
  · rename_i cd e
    exact ⟨cd, e, of_decide_eq_true h3⟩
  · cases h3
theorem errCB_ok {K : PySem.W.Frag} {C : Addr} (h : errCB K C = true) : Xc.ErrC K C := by
  unfold errCB at h
  simp only [Bool.and_eq_true, decide_eq_true_eq] at h
  obtain ⟨⟨⟨⟨⟨⟨⟨⟨⟨h1, h2⟩, h3⟩, h4⟩, h5⟩, h6⟩, h7⟩, h8⟩, h9⟩, h10⟩ := h
  exact ⟨h1, h2, h3, h4, h5, h6, h7, h8, h9, h10⟩
/-- what the text of __init__ is to be -/
structure IniText (P : Program) (qual : Str) (params : Arguments) (body : List Stmt) (scope : Scope) : Prop where
  txt : ∃ q0 q1 q2 q3 q4 q5 q6 q7 q8 q9, body = [.Expr (.Call (.Attribute (.Call (.Name "super" q0) [] [] q1) "__init__" q2) [.Name "value" q3] [] q4) q5, .Assign [.Attribute (.Name "self" q6) "value" q7] (.Name "value" q8) q9] ∧
    ∀ env : PySem.Env, eval (.Call (.Attribute (.Call (.Name "super" q0) [] [] q1) "__init__" q2) [.Name "value" q3] [] q4) env = (do
      let ov ← attributeBase (.Call (.Name "super" q0) [] [] q1) "__init__" env (eval (.Call (.Name "super" q0) [] [] q1) env)
      standAt q2.atName
      let (g, first) ← holding [ov] (getMethod ov "__init__" (do return (← importBound (.Call (.Name "super" q0) [] [] q1) env).getD true))
      PySem.callWith q4 g first (backTo q4 (starEach [.Name "value" q3] env)) [])
  sc : NScope Xc.NN Xc.N2 Xc.N1 scope
  sup : scope.names.lookup ("super" : Str) = some .globalImplicit
  par : ∃ ar, (params.posonlyargs ++ params.args).head? = some ar ∧ ar.arg = "self"
  top : (P.main.scope.names.lookup ("super" : Str)).isSome = false
  bind : ∀ (name : Str) (cc T : Addr) (kV doc pm : Value) (an : Option Addr) (cdv ct : Value) (us its : List Value), us.length = 2 → its.length = 1 →
    ∃ k, bindArgs (PySem.W.fnX name qual params body scope [("__class__", cc)] (.ref T) kV doc pm an cdv ct) ⟨us, []⟩ = seqItems? (.ref T) >>= k ∧ k (some its.toArray) = pure (Xc.N2.zip us)
theorem errs_of {P : Program} {w : World} {K : PySem.W.Frag} {h : Heap} {mg : Str → Option Value} {qual : Str} {params : Arguments} {body : List Stmt} {scope : Scope} {L : List FD} {cs : List (Str × D)} {b : Str} {es : List Str} {im : Bool} (X : K.In h) (G : h.Ns mainGlobals mg) (T : IniText P qual params body scope)
    (e : errB P.main.file qual (b :: es) K = true) (iv : ivs K b = (some (("__init__" : Str), qual, params, FuncBody.stmts body, scope, mainGlobals, (["__class__"] : List Str), builtinsNs) : IvV)) (base : Heap) : Errs P w K mg base (rcOf K (tabOf L cs (b :: es) im) (b :: es)) (tabOf L cs (b :: es) im).cname := by
  unfold errB at e
  simp only [Bool.and_eq_true, decide_eq_true_eq, List.all_eq_true] at e
  obtain ⟨⟨⟨⟨⟨⟨⟨e1, e2⟩, e3⟩, e4⟩, e5⟩, e6⟩, e7⟩, e8⟩ := e
  have at_ : ∀ n x, (tabOf L cs (b :: es) im).cname n = some x → x ∈ b :: es ∧ (x, n) ∈ (b :: es).zipIdx ∧ (rcOf K (tabOf L cs (b :: es) im) (b :: es)).ca n = He.ga K x := fun n x q => by
    have q' : (b :: es)[n]? = some x := q
    refine ⟨List.mem_of_getElem? q', ?_, ?_⟩
    · rw [List.mem_zipIdx_iff_getElem?]; exact q'
    · show He.ga K ((b :: es).getD n ⟨#[]⟩) = _
      rw [List.getD_eq_getElem?_getD, q']; rfl
  refine ⟨?_, fun n x q => ?_, fun n x m y q1 q2 => ?_, fun n x q => ?_⟩
  · unfold ivs at iv
    unfold iniB at e4
    cases lk : K.lookup (iniA K b) with
    | none => rw [lk] at iv; cases iv
    | some o =>
      obtain ⟨oc, od, dt, osl⟩ := o
      rw [lk] at iv e4
      cases dt with
      | func fd =>
        obtain ⟨n1, n2, n3, n4, n5, n6, n7, n8, n9, n10, n11, n12, n13, n14, n15⟩ := fd
        simp only [Option.some.injEq, Prod.mk.injEq] at iv
        obtain ⟨i1, i2, i3, i4, i5, i6, i7, i8⟩ := iv
        subst i1 i2 i3 i4 i5 i6 i8
        simp only [Bool.and_eq_true] at e4
        obtain ⟨⟨⟨c1, c0⟩, c2⟩, c3⟩ := e4
        split at c2
        · rename_i cda
          split at c2
          · rename_i fc fd' vs fs lkc
            split at c2
            · rename_i fl tf ev
              split at c3
              · rename_i nm cc
                have hn : nm = "__class__" := by simpa using i7
                subst hn
                split at c3
                · rename_i d1 d2 d d3 lkd
                  obtain rfl := of_decide_eq_true c3
                  obtain ⟨cdD, hD⟩ := Option.isSome_iff_exists.mp e5
                  obtain ⟨q0, q1, q2, q3, q4, q5, q6, q7, q8, q9, hb, he⟩ := T.txt
                  obtain ⟨ar, hp, har⟩ := T.par
                  refine ⟨He.ga K b, iniA K b, _, e3, ?_, Xc.fn_init (k := 0) lk c1 hb he T.sc T.sup hp har lkc ev c2 lkd hD (PySem.W.mg_none_of X G e2) T.top e1, fun n x q => ?_⟩
                  rotate_left
                  obtain ⟨m1, m2, m3⟩ := at_ n x q
                  have z := e7 x m1
                  rw [m3]
                  exact ⟨underB_ok z.1.1.1.1.2, z.1.1.2⟩
                  intro s us XK hlen
                  rcases He.dflB_ok c0 with ⟨z, _⟩ | ⟨_, T', o', its, m', rfl, lT, oT, rT⟩
                  · cases z
                  · have l2 : us.length = 2 := by simpa [Xc.N2] using hlen
                    have l1 : its.length = 1 := rT.length.symm
                    obtain ⟨kk, k1, k2⟩ := T.bind "__init__" cc T' _ _ _ _ _ _ us its l2 l1
                    refine BindsTo.of_looks fun M => ?_
                    rw [k1, List.append_nil]
                    exact looks_items XK lT oT (.of_pure k2)
                · cases c3
              · cases c3
            · cases c2
          · cases c2
        · cases c2
      | _ => cases iv
  · obtain ⟨m1, m2, m3⟩ := at_ n x q
    have z := e7 x m1
    rw [m3]
    exact ⟨PySem.W.mg_of X G z.1.1.1.1.1, errCB_ok z.1.1.1.2⟩
  · obtain ⟨m1, m2, m3⟩ := at_ n x q1
    obtain ⟨k1, k2, k3⟩ := at_ m y q2
    rw [m3, k3]
    exact e8 (x, n) m2 (y, m) k2
  · obtain ⟨m1, m2, m3⟩ := at_ n x q
    have z := e7 x m1
    rw [m3]
    exact ⟨z.1.2, z.2, e6⟩
section
variable {K : PySem.W.Frag} {c : RC}
mutual
theorem repB_ok : ∀ (d : D) (u : Value), repB K d u = true → ∃ v, RelV v u ∧ ∀ F, Rep K c F d v
  | .non, .none, _ => ⟨.non, rfl, fun F => .non⟩
  | .bl b, .bool b', h => ⟨.bl b, by obtain rfl : b = b' := eq_of_beq h; rfl, fun F => .bl b⟩
  | .int i, .int j t, h => ⟨.int i, by obtain rfl : i = j := of_decide_eq_true h; exact ⟨t, rfl⟩, fun F => .int i⟩
  | .str x, .str y t, h => by
    have h' : (decide (y.cps.toList = x) && x.all fun k => decide (k < 0x110000)) = true := h
    rw [Bool.and_eq_true, decide_eq_true_eq] at h'
    obtain ⟨rfl, h2⟩ := h'
    exact ⟨.str ⟨y.cps.toList.toArray⟩, ⟨t, by cases y; simp⟩, fun F => .str _ h2⟩
  | .tup ds, .ref a, h => by
    have h' : (match K.lookup a with
      | some ⟨.type t, none, .seq its _, _⟩ => decide (t = "tuple") && decide (its.size ≤ LIM) && repBs K ds its.toList
      | _ => false) = true := h
    split at h'
    · rename_i t its n sl lk
      simp only [Bool.and_eq_true, decide_eq_true_eq] at h'
      obtain ⟨⟨rfl, h2⟩, h3⟩ := h'
      obtain ⟨vs, rv, rr⟩ := repBs_ok ds its.toList h3
      refine ⟨.ref a, rfl, fun F => ?_⟩
      have l1 := (rr F).length
      have l2 := rv.length
      refine .tup (vs := vs) (.inr ⟨_, its, n, lk, rfl, rfl, by rw [LIM_eq]; exact h2, rv⟩) (rr F) (by
        rw [l1, l2]; simpa using h2)
    · cases h'
  | .non, .bool _, h => by cases h
  | .non, .int _ _, h => by cases h
theorem repBs_ok : ∀ (ds : List D) (us : List Value), repBs K ds us = true → ∃ vs, Vals vs us ∧ ∀ F, RepL K c F ds vs
  | [], [], _ => ⟨[], .nil, fun F => .nil⟩
  | d :: ds, u :: us, h => by
    have h' : (repB K d u && repBs K ds us) = true := h
    rw [Bool.and_eq_true] at h'
    obtain ⟨v, r, q⟩ := repB_ok d u h'.1
    obtain ⟨vs, rs, qs⟩ := repBs_ok ds us h'.2
    exact ⟨v :: vs, .cons r rs, fun F => .cons (q F) (qs F)⟩
  | [], _ :: _, h => by cases h
  | _ :: _, [], h => by cases h
end
end
section
variable {K : PySem.W.Frag} {h : Heap} {mg : Str → Option Value} {L : List FD} {cs : List (Str × D)} {es : List Str} {im : Bool}
theorem cons_of {c : RC} (X : K.In h) (G : h.Ns mainGlobals mg) (hc : consB cs K = true) : ∀ n d, (tabOf L cs es im).gval n = some d → ∃ u v, mg ((tabOf L cs es im).gname n) = some u ∧ RelV v u ∧ ∀ F, Rep K c F d v := fun n d e => by
  have e' : (cs[n]?).map (·.2) = some d := e
  cases q : cs[n]? with
  | none => rw [q] at e'; cases e'
  | some p =>
    rw [q] at e'
    cases e'
    have z := List.all_eq_true.mp hc p (List.mem_of_getElem? q)
    split at z
    · rename_i u hu
      obtain ⟨v, r, rep⟩ := repB_ok (c := c) p.2 u z
      refine ⟨u, v, ?_, r, rep⟩
      show mg (match cs[n]? with | some q => q.1 | none => ⟨#[]⟩) = some u
      rw [q]
      exact PySem.W.mg_of X G hu
    · cases z
theorem cdn_of (X : K.In h) (G : h.Ns mainGlobals mg) (hc : consB cs K = true) : ∀ n ds, (tabOf L cs es im).gval n = some (.tup ds) → ∃ a o, mg ((tabOf L cs es im).gname n) = some (.ref a) ∧ K.lookup a = some o ∧ o.cls = .type "tuple" ∧ o.dict = none := fun n ds e => by
  have e' : (cs[n]?).map (·.2) = some (.tup ds) := e
  cases q : cs[n]? with
  | none => rw [q] at e'; cases e'
  | some p =>
    obtain ⟨x, d⟩ := p
    rw [q] at e'
    have e2 : d = .tup ds := Option.some.inj e'
    subst e2
    have z := List.all_eq_true.mp hc _ (List.mem_of_getElem? q)
    split at z
    · rename_i u hu
      have hm : mg ((tabOf L cs es im).gname n) = some u := by
        show mg (match cs[n]? with | some q => q.1 | none => ⟨#[]⟩) = some u
        rw [q]
        exact PySem.W.mg_of X G hu
      cases u with
      | ref a =>
        have z' : (match K.lookup a with
          | some ⟨.type t, none, .seq its _, _⟩ => decide (t = "tuple") && decide (its.size ≤ LIM) && repBs K ds its.toList
          | _ => false) = true := z
        split at z'
        · rename_i t its k sl lk
          simp only [Bool.and_eq_true, decide_eq_true_eq] at z'
          obtain ⟨⟨rfl, _⟩, _⟩ := z'
          exact ⟨a, _, hm, lk, rfl, rfl⟩
        · cases z'
      | _ => cases z
    · cases z
theorem gcd_of (X : K.In h) (G : h.Ns mainGlobals mg) (hc : gcdB im K = true) : im = true → mg "gcd" = some (.builtin "math.gcd") := fun e => by
  subst e
  exact PySem.W.mg_of X G (of_decide_eq_true hc)
end
/-! ### the hook -/
structure SaysZ (fa : List He.Fa) (fn : List He.DefD) (file qual : Str) (es : List Str) (cs : List (Str × D)) (im : Bool) (iv : IvV) (K : PySem.W.Frag) : Prop where
  c : He.SaysD fa fn K
  e : errB file qual es K = true
  k : consB cs K = true
  g : gcdB im K = true
  i : (if es.isEmpty then none else ivs K (es.headD ⟨#[]⟩)) = iv
def hookZ (n : Nat) (fa : List He.Fa) (fn : List He.DefD) (file qual : Str) (es : List Str) (cs : List (Str × D)) (im : Bool) (iv : IvV) : PySem.W.Hook where
  α := AlZ
  obs := fun s => obsZ n fa fn file qual es cs im s.heap.get?
  val := fun _ => (He.valD fn, true, iv)
  says := fun _ h => ∃ K : PySem.W.Frag, K.In h ∧ SaysZ fa fn file qual es cs im iv K
  of := fun _ _ e => ⟨_, He.frG_in, by
    have e2 := congrArg (fun z : AlZ => z.2.1) e
    have e2' : (errB file qual es _ && consB cs _ && gcdB im _) = true := e2
    simp only [Bool.and_eq_true] at e2'
    exact ⟨congrArg (fun z : AlZ => z.1) e, e2'.1.1, e2'.1.2, e2'.2, congrArg (fun z : AlZ => z.2.2) e⟩⟩
  keeps := fun _ _ _ ⟨K, hK, c⟩ k => ⟨K, PySem.W.Frag.In.keeps hK k, c⟩
theorem obsZ_eq {n : Nat} {fa : List He.Fa} {fn : List He.DefD} {file qual : Str} {es : List Str} {cs : List (Str × D)} {im : Bool} {iv : IvV} {g : Addr → Option Obj} {s : Shared} (h : ∀ a, g a = s.heap.get? a) : obsZ n fa fn file qual es cs im g = (hookZ n fa fn file qual es cs im iv).obs s := by
  have e : g = s.heap.get? := funext h
  rw [e] <;> rfl
/-- a program's law, all facts from the hook -/
theorem prog_lawZ {P : Program} {w : World} {K : PySem.W.Frag} {h : Heap} {mg : Str → Option Value} {L : List FD} {cs : List (Str × D)} {es : List Str} {im : Bool} {d : FD} {fa : List He.Fa} {file qual : Str} {iv : IvV}
    (X : K.In h) (G : h.Ns mainGlobals mg) (Z : SaysZ fa (L.map FD.dd) file qual es cs im iv K) (hfa : ∀ x ∈ L.map (fun d => He.Fa.glo d.name) ++ builtinNames.map .free, x ∈ fa) (hL : L[0]? = some d)
    (err : 0 < es.length → ∀ base : Heap, Errs P w K mg base (rcOf K (tabOf L cs es im) es) (tabOf L cs es im).cname)
    (ok : ∀ d ∈ L, FD.ok (tabOf L cs es im) d = true) : ∃ fdt, Plain fdt d.ps ∧ ∀ (k : Nat) (base : Heap), FnG P w K mg base (L2.CX P w) (k + 3) (He.ga K d.name) fdt d.ps (spF K (rcOf K (tabOf L cs es im) es) (callF (tabOf L cs es im) (k + 1)) d.fn.np 0 d.fn.chg) :=
  prog_law hL (fun d hd => ⟨He.glo_ok X G (Z.c.facts (hfa _ (List.mem_append_left _ (List.mem_map_of_mem hd)))), Z.c.defs (List.mem_map_of_mem hd)⟩)
    (fun x hx => He.free_ok X G (Z.c.facts (hfa _ (List.mem_append_right _ (List.mem_map_of_mem hx))))) (fun base h => err h base) (cons_of X G Z.k) (gcd_of X G Z.g) (cdn_of X G Z.k) ok
end Ev
namespace Ev
open PySem
end Ev
namespace Ev
/-! ### what a call is worth, by its body -/
def fin (chg : Option Nat) : Fl → Res (R × Option D)
  | .ret r e => (match handBack r e, left chg e with
    | some r', some o => .ok (r', o)
    | _, _ => .bad)
  | .nx e => (match left chg e with
    | some o => .ok (.val .non, o)
    | none => .bad)
  | _ => .bad
theorem callF_succ {T : Tab} {k f : Nat} {fd : Fn} {ds : List D} (hf : T.fn f = some fd) (h : ds.length = fd.np ∧ fd.np ≤ fd.ns) : callF T (k + 1) f ds = (evalSs T.chg T.gval (callF T k) fd.body (start fd.chg fd.ns ds)).bind (fin fd.chg) := by
  have e : callF T (k + 1) f ds = match T.fn f with
    | none => .bad
    | some fd => if ds.length = fd.np ∧ fd.np ≤ fd.ns then (evalSs T.chg T.gval (callF T k) fd.body (start fd.chg fd.ns ds)).bind (fin fd.chg) else .bad := rfl
  rw [e, hf]
  exact if_pos h
/-- a comprehension that gives f of each item, the slots as they were -/
theorem compL_map {tg : Tg} {cond : Env → Res (Bool × Env)} {elt : Env → Res (R × Env)} {own : List Nat} {f : D → D} {e0 : Env} : ∀ {xs : List D}, (∀ x ∈ xs, ∃ e1 e2 r e3 e4, assignT tg x e0 = some e1 ∧ cond e1 = .ok (true, e2) ∧ elt e2 = .ok (r, e3) ∧ asVal r e3 = some (f x, e4) ∧ wipeE e4 own = e0) →
    compL tg cond elt own xs e0 = .ok (xs.map f, e0)
  | [], _ => rfl
  | x :: xs, h => by
    obtain ⟨e1, e2, r, e3, e4, h1, h2, h3, h4, h5⟩ := h x (List.mem_cons_self ..)
    have ih := compL_map (xs := xs) fun y hy => h y (List.mem_cons_of_mem _ hy)
    unfold compL
    simp only [h1, h2, h3, h4, h5, ih, Res.of_some, Res.bind_ok, if_true, List.map_cons]
/-- .. of each item that a test lets -/
theorem compL_filter {tg : Tg} {cond : Env → Res (Bool × Env)} {elt : Env → Res (R × Env)} {own : List Nat} {f : D → D} {p : D → Bool} {e0 : Env} : ∀ {xs : List D}, (∀ x ∈ xs, ∃ e1 e2, assignT tg x e0 = some e1 ∧ cond e1 = .ok (p x, e2) ∧ (p x = false → wipeE e2 own = e0) ∧ (p x = true → ∃ r e3 e4, elt e2 = .ok (r, e3) ∧ asVal r e3 = some (f x, e4) ∧ wipeE e4 own = e0)) →
    compL tg cond elt own xs e0 = .ok ((xs.filter p).map f, e0)
  | [], _ => rfl
  | x :: xs, h => by
    obtain ⟨e1, e2, h1, h2, h3, h4⟩ := h x (List.mem_cons_self ..)
    have ih := compL_filter (xs := xs) fun y hy => h y (List.mem_cons_of_mem _ hy)
    unfold compL
    cases hp : p x with
    | false =>
      rw [hp] at h2
      simp only [h1, h2, h3 hp, ih, Res.of_some, Res.bind_ok, List.filter_cons, hp]
      rfl
    | true =>
      rw [hp] at h2
      obtain ⟨r, e3, e4, h5, h6, h7⟩ := h4 hp
      simp only [h1, h2, h5, h6, h7, ih, Res.of_some, Res.bind_ok, List.filter_cons, hp]
      rfl
/-- a for that goes through: I holds of the items taken and the slots -/
theorem forL_inv {tg : Tg} {body : Env → Res Fl} (I : Nat → Env → Prop) {xs : List D} (step : ∀ (i : Nat) (x : D) (e : Env), xs[i]? = some x → I i e → ∃ e1, assignT tg x e = some e1 ∧ ((∃ e2, body e1 = .ok (.nx e2) ∧ I (i + 1) e2) ∨ ∃ e2, body e1 = .ok (.ct e2) ∧ I (i + 1) e2)) :
    ∀ (n i : Nat) (e : Env), n + i = xs.length → I i e → ∃ e', forL tg body [] (xs.drop i) e = .ok (.nx e') ∧ I xs.length e'
  | 0, i, e, hn, hI => by
    have : i = xs.length := by omega
    subst this
    exact ⟨e, by rw [List.drop_length]; rfl, hI⟩
  | n + 1, i, e, hn, hI => by
    have hi : i < xs.length := by omega
    rw [List.drop_eq_getElem_cons hi]
    obtain ⟨e1, h1, h2⟩ := step i xs[i] e (List.getElem?_eq_getElem hi) hI
    have go : ∀ e2, I (i + 1) e2 → ∃ e', forL tg body [] (xs.drop (i + 1)) (wipeE e2 []) = .ok (.nx e') ∧ I xs.length e' := fun e2 h => forL_inv I step n (i + 1) e2 (by omega) h
    rcases h2 with ⟨e2, h2, h3⟩ | ⟨e2, h2, h3⟩
    · obtain ⟨e', h4, h5⟩ := go e2 h3
      refine ⟨e', ?_, h5⟩
      unfold forL
      simp only [h1, h2, Res.of_some, Res.bind_ok]
      exact h4
    · obtain ⟨e', h4, h5⟩ := go e2 h3
      refine ⟨e', ?_, h5⟩
      unfold forL
      simp only [h1, h2, Res.of_some, Res.bind_ok]
      exact h4
/-- a for as a fold: the slots are a function of a state -/
theorem forL_fold {α β : Type} {tg : Tg} {body : Env → Res Fl} (enc : α → D) (st : β → Env) (f : β → α → β) (P : Nat → β → Prop) : ∀ (xs : List α) (i : Nat) (b : β), P i b →
    (∀ (j : Nat) (x : α) (b : β), x ∈ xs → P j b → ∃ e1, assignT tg (enc x) (st b) = some e1 ∧ body e1 = .ok (.nx (st (f b x))) ∧ P (j + 1) (f b x)) → forL tg body [] (xs.map enc) (st b) = .ok (.nx (st (xs.foldl f b))) ∧ P (i + xs.length) (xs.foldl f b)
  | [], i, b, hp, _ => ⟨rfl, hp⟩
  | x :: xs, i, b, hp, h => by
    obtain ⟨e1, h1, h2, h3⟩ := h i x b (List.mem_cons_self ..) hp
    obtain ⟨k1, k2⟩ := forL_fold enc st f P xs (i + 1) (f b x) h3 fun j y c hy hc => h j y c (List.mem_cons_of_mem _ hy) hc
    refine ⟨?_, by rw [List.length_cons, List.foldl_cons]; rw [show i + (xs.length + 1) = i + 1 + xs.length by omega]; exact k2⟩
    rw [List.map_cons]
    unfold forL
    simp only [h1, h2, Res.of_some, Res.bind_ok]
    exact k1
end Ev
namespace Ev
/-! ### how the evaluator steps: the head first, what comes after it untouched -/
theorem bind_head {α β : Type} {a a' : Res α} {k : α → Res β} (h : a = a') : a.bind k = a'.bind k := by rw [h]
theorem forL_head {tg : Tg} {body : Env → Res Fl} {gone : List Nat} {xs xs' : List D} {e e' : Env} (h : xs = xs') (h2 : e = e') : forL tg body gone xs e = forL tg body gone xs' e' := by rw [h, h2]
theorem compL_head {tg : Tg} {cond : Env → Res (Bool × Env)} {elt : Env → Res (R × Env)} {own : List Nat} {xs xs' : List D} {e e' : Env} (h : xs = xs') (h2 : e = e') : compL tg cond elt own xs e = compL tg cond elt own xs' e' := by rw [h, h2]
theorem whlL_head {cond : Env → Res (Bool × Env)} {body : Env → Res Fl} {gone : List Nat} {n n' : Nat} {e e' : Env} (h : n = n') (h2 : e = e') : whlL cond body gone n e = whlL cond body gone n' e' := by rw [h, h2]
section
variable {o' : Option Nat} {d : D} {e : Env} {i j : Int} {n : Nat} {xs ys : List D} {x y : List Nat} {b b' : Bool} {ns : List Int} {r : R} {rs : List R} {k : Nat} {m : Nat} {o : Option D}
theorem peek_v : peek (.val d) e = some d := rfl
theorem peek_t : peek (.tmp d) e = some d := rfl
theorem peek_i : peek (.var n) e = (e.at n).con := rfl
theorem con_v : (Sl.val d).con = some d := rfl
theorem con_o : (Sl.own d).con = some d := rfl
theorem con_b : (Sl.byr d).con = some d := rfl
theorem asVal_v : asVal (.val d) e = some (d, e) := rfl
theorem asVal_t : asVal (.tmp d) e = some (d, e) := rfl
theorem asVal_iv (h : e.at n = .val d) : asVal (.var n) e = some (d, e) := by simp only [asVal, h]
theorem asVal_io (h : e.at n = .own d) : asVal (.var n) e = some (d, e.set n (.val d)) := by simp only [asVal, h]
theorem add_ii : bop .add (.int i) (.int j) = some (.val (.int (i + j))) := rfl
theorem sub_ii : bop .sub (.int i) (.int j) = some (.val (.int (i - j))) := rfl
theorem add_ll (h : xs.length + ys.length ≤ LIM) : bop .add (.lst xs) (.lst ys) = some (.tmp (.lst (xs ++ ys))) := if_pos h
theorem mod_ii (h : 0 < j) : bop .mod (.int i) (.int j) = some (.val (.int (i % j))) := if_pos h
theorem div_ii (h : 0 < j) (h2 : j.natAbs < 2 ^ 200) : bop .fdiv (.int i) (.int j) = some (.val (.int (i / j))) := if_pos ⟨h, by
  by_cases z : j.natAbs = 0
  · rw [z]; decide
  · exact Nat.lt_trans ((Nat.log2_lt z).mpr h2) (by decide)⟩
theorem mul_ii (h : i.natAbs < 2 ^ 200) (h2 : j.natAbs < 2 ^ 200) : bop .mul (.int i) (.int j) = some (.val (.int (i * j))) := by
  have q : ∀ a : Int, a.natAbs < 2 ^ 200 → a.natAbs.log2 < 300 := fun a h => by
    by_cases z : a.natAbs = 0
    · rw [z]; decide
    · exact Nat.lt_trans ((Nat.log2_lt z).mpr h) (by decide)
  have h1 := q i h
  have h3 := q j h2
  exact if_pos (by omega)
theorem pow_ii (h : 0 ≤ j ∧ (PySem.Builtin.Int.intBits i : Int) * j ≤ 2 ^ 27) : bop .pow (.int i) (.int j) = some (.val (.int (i ^ j.toNat))) := if_pos h
theorem mod_if : bop .mod (.int i) (.int j) = if 0 < j then some (.val (.int (i % j))) else none := rfl
theorem lt_ii : cop .lt (.int i) (.int j) = some (decide (i < j)) := rfl
theorem le_ii : cop .le (.int i) (.int j) = some (decide (i ≤ j)) := rfl
theorem gt_ii : cop .gt (.int i) (.int j) = some (decide (j < i)) := rfl
theorem ge_ii : cop .ge (.int i) (.int j) = some (decide (j ≤ i)) := rfl
theorem eq_ii : cop .eq (.int i) (.int j) = some (decide (i = j)) := by
  show some (i == j) = _
  congr 1
theorem ne_ii : cop .ne (.int i) (.int j) = some (!decide (i = j)) := by
  show some (!(i == j)) = _
  congr 2
theorem tru_b : tru (.bl b) = some b := rfl
theorem ix_l : opIx (.lst xs) (.int i) = (L2.atI xs i).map .val := rfl
theorem len_l : biOp .len [.lst xs] = some (.val (.int xs.length)) := rfl
theorem len_s : biOp .len [.scr ns] = some (.val (.int ns.length)) := rfl
theorem int_i : biOp .int [.int i] = some (.val (.int i)) := rfl
theorem max_ii : biOp .max [.int i, .int j] = some (.val (.int (if j > i then j else i))) := rfl
theorem min_ii : biOp .min [.int i, .int j] = some (.val (.int (if j < i then j else i))) := rfl
theorem bitlen_i : biOp .bitlen [.int i] = some (.val (.int (PySem.Builtin.Int.intBits i : Nat))) := rfl
theorem list_l : biOp .list [.lst xs] = some (.tmp (.lst xs)) := rfl
theorem at_0 {s : Sl} {l : Env} : Env.at (s :: l) 0 = s := rfl
theorem at_s {s : Sl} {l : Env} : Env.at (s :: l) (n + 1) = Env.at l n := rfl
theorem flat_i : flatR (.val (.int i)) = true := rfl
theorem flat_b : flatR (.val (.bl b)) = true := rfl
theorem flat_n : flatR (.val .non) = true := rfl
theorem flatO_n : flatO none = true := rfl
theorem mine_v : (Sl.val d).mine = false := rfl
theorem mine_o : (Sl.own d).mine = true := rfl
theorem mine_b : (Sl.byr d).mine = true := rfl
theorem mine_n : Sl.no.mine = false := rfl
theorem free_v : (Sl.val d).free = true := rfl
theorem free_o : (Sl.own d).free = true := rfl
theorem free_n : Sl.no.free = true := rfl
theorem put_o {d' : D} : (Sl.own d).put d' = .own d' := rfl
theorem put_b {d' : D} : (Sl.byr d).put d' = .byr d' := rfl
theorem back_n : back e none o = some e := rfl
theorem back_s : back e (some n) (some d) = some (e.set n ((e.at n).put d)) := rfl
theorem hb_v : handBack (.val d) e = some (.val d) := rfl
theorem hb_t : handBack (.tmp d) e = some (.tmp d) := rfl
theorem left_n : left none e = some none := rfl
theorem left_s (h : e.at n = .byr d) : left (some n) e = some (some d) := by unfold left; simp only [h]
theorem fin_r : fin o' (.ret r e) = (match handBack r e, left o' e with
  | some r', some o => .ok (r', o)
  | _, _ => .bad) := rfl
theorem fin_nx : fin o' (.nx e) = (match left o' e with
  | some o => .ok (.val .non, o)
  | none => .bad) := rfl
theorem pv_nil : passVals o' m [] e = some ([], e) := rfl
theorem pv_n : passVals none m (r :: rs) e = (asVal r e).bind fun q => (passVals none (m + 1) rs q.2).map fun p => (some q.1 :: p.1, p.2) := rfl
theorem pv_s : passVals (some k) m (r :: rs) e = if some k = some m then (passVals (some k) (m + 1) rs e).map fun p => (none :: p.1, p.2) else (asVal r e).bind fun q => (passVals (some k) (m + 1) rs q.2).map fun p => (some q.1 :: p.1, p.2) := rfl
theorem pm_t : passMut (.tmp d) e = some (d, none) := rfl
theorem pm_o (h : e.at n = .own d) : passMut (.var n) e = some (d, some n) := by unfold passMut; simp only [h]
theorem pm_b (h : e.at n = .byr d) : passMut (.var n) e = some (d, some n) := by unfold passMut; simp only [h]
theorem fi_nil : fillIn d [] = [] := rfl
theorem fi_n {l : List (Option D)} : fillIn d (none :: l) = d :: fillIn d l := rfl
theorem fi_s {d' : D} {l : List (Option D)} : fillIn d (some d' :: l) = d' :: fillIn d l := rfl
theorem permute_nil : permute rs [] = some rs := rfl
theorem atI_0 {α : Type} {a : α} {l : List α} : L2.atI (a :: l) 0 = some a := by simp [L2.atI, L2.ixN]
theorem atI_n {α : Type} {l : List α} {n : Nat} : L2.atI l (n : Int) = l[n]? := by
  unfold L2.atI L2.ixN
  rw [if_pos (by omega)]
  by_cases h : (n : Int) < (l.length : Int)
  · rw [if_pos h]; simp
  · rw [if_neg h, List.getElem?_eq_none (by omega)]; rfl
theorem atI_1 {α : Type} {a b : α} {l : List α} : L2.atI (a :: b :: l) 1 = some b := atI_n (n := 1)
theorem atI_2 {α : Type} {a b c : α} {l : List α} : L2.atI (a :: b :: c :: l) 2 = some c := atI_n (n := 2)
theorem ixN_0 {n : Nat} : L2.ixN (n + 1) 0 = some 0 := by
  unfold L2.ixN
  rw [if_pos (by omega), if_pos (by omega)]; rfl
theorem ixN_n {n m : Nat} (h : m < n) : L2.ixN n (m : Int) = some m := by
  unfold L2.ixN
  rw [if_pos (by omega), if_pos (by omega)]; simp
theorem ixN_30 : L2.ixN 3 0 = some 0 := rfl
theorem ixN_31 : L2.ixN 3 1 = some 1 := rfl
theorem ixN_32 : L2.ixN 3 2 = some 2 := rfl
theorem wipe_nil : wipeE e [] = e := rfl
theorem wipe_cons {v : Nat} {vs : List Nat} : wipeE e (v :: vs) = (wipeE e vs).set v .no := rfl
theorem as_one : assignT (.one n) d e = if (decide (n < e.length) && (e.at n).free) = true then some (e.set n (.val d)) else none := by simp only [assignT]
theorem st_v : store n (.val d) e = if (decide (n < e.length) && (e.at n).free) = true then some (e.set n (.val d)) else none := by
  unfold store
  by_cases h : n < e.length
  · rw [if_pos h]
    simp only [h, decide_true, Bool.true_and]
    cases q : e.at n <;> rfl
  · rw [if_neg h]
    simp only [h, decide_false, Bool.false_and]
    rfl
theorem st_t : store n (.tmp d) e = if (decide (n < e.length) && (e.at n).free) = true then some (e.set n (.own d)) else none := by
  unfold store
  by_cases h : n < e.length
  · rw [if_pos h]
    simp only [h, decide_true, Bool.true_and]
    cases q : e.at n <;> rfl
  · rw [if_neg h]
    simp only [h, decide_false, Bool.false_and]
    rfl
theorem st_i : store n (.var m) e = if (decide (n < e.length) && (e.at n).free) = true then (asVal (.var m) e).map fun p => p.2.set n (.val p.1) else none := by
  unfold store
  by_cases h : n < e.length
  · rw [if_pos h]
    simp only [h, decide_true, Bool.true_and]
    cases q : e.at n <;> rfl
  · rw [if_neg h]
    simp only [h, decide_false, Bool.false_and]
    rfl
theorem asVal_i : asVal (.var n) e = (match e.at n with
  | .val d => some (d, e)
  | .own d => some (d, e.set n (.val d))
  | _ => none) := rfl
theorem pm_i : passMut (.var n) e = (match e.at n with
  | .own d => some (d, some n)
  | .byr d => some (d, some n)
  | _ => none) := rfl
theorem left_i : left (some n) e = (match e.at n with
  | .byr d => some (some d)
  | _ => none) := rfl
theorem hb_i : handBack (.var n) e = (match e.at n with
  | .val d => some (.val d)
  | .own d => some (.tmp d)
  | _ => none) := rfl
theorem free_b : (Sl.byr d).free = false := rfl
theorem stores_nil : stores [] [] e = some e := rfl
theorem stores_cons {x : Nat} {l : List Nat} : stores (x :: l) (r :: rs) e = (store x r e).bind fun e1 => stores l rs e1 := rfl
theorem res_nil : resolve [] e = some ([], e) := rfl
theorem res_v : resolve (.val d :: rs) e = (resolve rs e).map fun q => (.val d :: q.1, q.2) := rfl
theorem res_t : resolve (.tmp d :: rs) e = (resolve rs e).map fun q => (.tmp d :: q.1, q.2) := rfl
theorem res_i : resolve (.var n :: rs) e = (asVal (.var n) e).bind fun p => (resolve rs p.2).map fun q => (.val p.1 :: q.1, q.2) := rfl
theorem tst_ok {p : R × Env} : tst (.ok p) = (match peek p.1 p.2 with
  | some d => (Res.of (tru d)).bind fun b => .ok (b, p.2)
  | none => .bad) := rfl
theorem sp_f : spread false d = some [d] := rfl
theorem sp_l : spread true (.lst xs) = some xs := rfl
theorem sli_s {a c : Option Int} : opSli (.scr ns) a c = some (.tmp (.lst ((cut ns a c).map .int))) := rfl
theorem sli_l {a c : Option Int} : opSli (.lst xs) a c = some (.tmp (.lst (cut xs a c))) := rfl
theorem intsOf_map : ∀ ns : List Int, intsOf (ns.map .int) = some ns
  | [] => rfl
  | n :: ns => by simp only [List.map_cons, intsOf, intsOf_map ns, Option.map_some]
theorem sum_l : biOp .sum [.lst (ns.map .int)] = some (.val (.int ns.sum)) := by
  show (intsOf (ns.map .int)).bind (fun ns => vI ns.sum) = _
  rw [intsOf_map]; rfl
theorem ix_s : opIx (.scr ns) (.int i) = (L2.atI ns i).map fun n => .val (.int n) := rfl
theorem flat_t : flatR (.tmp d) = d.flat := rfl
theorem isT_l : isT .list (.lst xs) = some true := rfl
theorem all_t : ∀ {α : Type} (l : List α), biOp .all [.lst (l.map fun _ => .bl true)] = some (.val (.bl true)) := by
  intro α l
  have h : ∀ l : List α, boolsOf (l.map fun _ => D.bl true) = some (l.map fun _ => true) := by
    intro l
    induction l with
    | nil => rfl
    | cons x l ih => simp only [List.map_cons, boolsOf, ih, Option.map_some]
  show (boolsOf (l.map fun _ => D.bl true)).bind (fun bs => vB (bs.all id)) = _
  rw [h]
  show vB ((l.map fun _ => true).all id) = _
  have : (l.map fun _ => true).all id = true := by simp
  rw [this]; rfl
theorem noExc_ok {α : Type} {a : α} : noExc (.ok a) = .ok a := rfl
theorem range_1 : List.range 1 = [0] := rfl
theorem cw_n {T : Nat → Option (Option Nat)} {call : Call} {f : Nat} (h : T f = some none) : callWith T call f rs e = (match passVals none 0 rs e with
    | none => .bad
    | some (ds, e2) => (call f (ds.filterMap id)).bind fun p => .ok (p.1, if flatR p.1 then e else e2)) := by
  simp only [callWith, h]; try rfl
theorem cw_s {T : Nat → Option (Option Nat)} {call : Call} {f k : Nat} (h : T f = some (some k)) : callWith T call f rs e = (match passVals (some k) 0 rs e with
    | none => .bad
    | some (ds, e2) =>
        match (rs[k]?).bind fun r => passMut r e2 with
        | none => .bad
        | some (d, slot) => (call f (fillIn d ds)).bind fun p => Res.of ((back (if flatR p.1 && flatO p.2 then e else e2) slot p.2).map fun e3 => (p.1, e3))) := by
  simp only [callWith, h]; try rfl
end
end Ev
namespace Ev
/-! ### lists of numbers as data -/
abbrev eI (l : List Int) : D := .lst (l.map .int)
abbrev eM (m : List (List Int)) : D := .lst (m.map eI)
theorem datL_int : ∀ (n : Nat) (l : List Int), D.datL n (l.map .int) = true
  | n, [] => by cases n <;> rfl
  | n, x :: l => by
    have := datL_int n l
    cases n <;> simp only [List.map_cons, D.datL, D.dat, Bool.true_and] <;> exact this
theorem dat_eI (n : Nat) (l : List Int) : (eI l).dat (n + 1) = true := datL_int n l
theorem datL_eM : ∀ (n : Nat) (m : List (List Int)), D.datL (n + 1) (m.map eI) = true
  | n, [] => rfl
  | n, x :: m => by
    have h := datL_eM n m
    have h2 := dat_eI n x
    simp only [List.map_cons, D.datL, Bool.and_eq_true]
    exact ⟨h2, h⟩
theorem dat_eM (n : Nat) (m : List (List Int)) : (eM m).dat (n + 2) = true := datL_eM n m
theorem beqL_int : ∀ (l l' : List Int), D.beqL (l.map .int) (l'.map .int) = decide (l = l')
  | [], [] => rfl
  | [], _ :: _ => rfl
  | _ :: _, [] => rfl
  | x :: l, y :: l' => by
    simp only [List.map_cons, D.beqL, D.beq, beqL_int l l']
    rw [Bool.eq_iff_iff]; simp
theorem beq_eI (l l' : List Int) : D.beq (eI l) (eI l') = decide (l = l') := beqL_int l l'
theorem beqL_eM : ∀ (m m' : List (List Int)), D.beqL (m.map eI) (m'.map eI) = decide (m = m')
  | [], [] => rfl
  | [], _ :: _ => rfl
  | _ :: _, [] => rfl
  | x :: l, y :: l' => by
    simp only [List.map_cons, D.beqL, beqL_eM l l']
    rw [show D.beq (.lst (x.map .int)) (.lst (y.map .int)) = decide (x = y) from beq_eI x y]
    rw [Bool.eq_iff_iff]; simp
theorem eq_eI (l l' : List Int) : cop .eq (eI l) (eI l') = some (decide (l = l')) := by
  show eqD (eI l) (eI l') = _
  unfold eqD
  rw [dat_eI 39, dat_eI 39, beq_eI]; rfl
theorem eq_nil (l : List Int) : cop .eq (.lst (l.map .int)) (.lst []) = some (decide (l = [])) := eq_eI l []
theorem in_any (p : List Int) (m : List (List Int)) : (m.map eI).any (fun z => D.beq z (eI p)) = decide (p ∈ m) := by
  induction m with
  | nil => rfl
  | cons x m ih =>
    rw [List.map_cons, List.any_cons, ih, beq_eI, Bool.eq_iff_iff]
    simp only [Bool.or_eq_true, decide_eq_true_eq, List.mem_cons]
    constructor
    · rintro (h | h)
      · exact .inl h.symm
      · exact .inr h
    · rintro (h | h)
      · exact .inl h.symm
      · exact .inr h
theorem in_eM (p : List Int) (m : List (List Int)) : cop .isin (eI p) (eM m) = some (decide (p ∈ m)) := by
  show inL (eI p) (m.map eI) = _
  unfold inL
  rw [dat_eI 39, datL_eM 39, in_any]; rfl
theorem notin_eM (p : List Int) (m : List (List Int)) : cop .notin (eI p) (eM m) = some (!decide (p ∈ m)) := by
  show (inL (eI p) (m.map eI)).map (!·) = _
  have := in_eM p m
  rw [show inL (eI p) (m.map eI) = some (decide (p ∈ m)) from this]; rfl
theorem cut_from {α : Type} (xs : List α) (n : Nat) : cut xs (some (n : Int)) none = xs.drop n := by
  unfold cut
  rw [HT.sIx_nat, HT.sIx_none]
  rcases Nat.le_total n xs.length with h | h
  · rw [Nat.min_eq_left h, List.take_of_length_le (by simp)]
  · rw [Nat.min_eq_right h, List.drop_of_length_le h, List.drop_length]
    simp
theorem cut_upto {α : Type} (xs : List α) (n : Nat) : cut xs none (some (n : Int)) = xs.take n := by
  unfold cut
  rw [HT.sIx_nat, HT.sIx_none, List.drop_zero, Nat.sub_zero]
  rcases Nat.le_total n xs.length with h | h
  · rw [Nat.min_eq_left h]
  · rw [Nat.min_eq_right h, List.take_length, List.take_of_length_le h]
theorem cut_tail {α : Type} {x : α} {xs : List α} : cut (x :: xs) (some 1) none = xs := cut_from (x :: xs) 1
/-- a grid's lists, by hand -/
def LOS : List Int → Int → List (List Int)
  | [], t => if t = 0 then [[]] else []
  | d :: ds, t => (List.range (min d t + 1).toNat).flatMap fun (i : Nat) => (LOS ds (t - (i : Int))).map fun q => (i : Int) :: q
theorem LOS_len : ∀ (ds : List Int) (t : Int) (p : List Int), p ∈ LOS ds t → p.length = ds.length
  | [], t, p, h => by
    unfold LOS at h
    split at h
    · simp at h; subst h; rfl
    · simp at h
  | d :: ds, t, p, h => by
    unfold LOS at h
    obtain ⟨i, hi, h⟩ := List.mem_flatMap.mp h
    obtain ⟨q, hq, rfl⟩ := List.mem_map.mp h
    simp [LOS_len ds _ q hq]
/-- in a grid's lists: within the degrees, of that sum -/
theorem LOS_mem : ∀ (ds : List Int) (t : Int) (p : List Int), p ∈ LOS ds t ↔ p.length = ds.length ∧ (∀ q ∈ p.zip ds, 0 ≤ q.1 ∧ q.1 ≤ q.2) ∧ p.sum = t ∧ ∀ x ∈ p, 0 ≤ x
  | [], t, p => by
    unfold LOS
    constructor
    · intro h
      split at h
      · rename_i z
        simp at h
        subst h
        simp [z]
      · simp at h
    · rintro ⟨h1, _, h3, _⟩
      have : p = [] := List.eq_nil_of_length_eq_zero h1
      subst this
      simp at h3
      simp [← h3]
  | d :: ds, t, p => by
    unfold LOS
    rw [List.mem_flatMap]
    constructor
    · rintro ⟨i, hi, h⟩
      obtain ⟨q, hq, rfl⟩ := List.mem_map.mp h
      obtain ⟨k1, k2, k3, k4⟩ := (LOS_mem ds _ q).mp hq
      rw [List.mem_range] at hi
      refine ⟨by simp [k1], fun z hz => ?_, by simp [k3]; omega, fun x hx => ?_⟩
      · simp only [List.zip_cons_cons, List.mem_cons] at hz
        rcases hz with rfl | hz
        · exact ⟨by simp, by show (i : Int) ≤ d; omega⟩
        · exact k2 z hz
      · rcases List.mem_cons.mp hx with rfl | hx
        · omega
        · exact k4 x hx
    · rintro ⟨h1, h2, h3, h4⟩
      cases p with
      | nil => simp at h1
      | cons x q =>
        have hx : 0 ≤ x ∧ x ≤ d := h2 (x, d) (by simp)
        have hq0 : ∀ y ∈ q, 0 ≤ y := fun y hy => h4 y (List.mem_cons_of_mem _ hy)
        have hs : 0 ≤ q.sum := by
          clear h1 h2 h3 h4
          induction q with
          | nil => simp
          | cons y q ih =>
            have := ih fun z hz => hq0 z (List.mem_cons_of_mem _ hz)
            have := hq0 y (List.mem_cons_self ..)
            simp; omega
        simp only [List.sum_cons] at h3
        refine ⟨x.toNat, List.mem_range.mpr (by omega), List.mem_map.mpr ⟨q, (LOS_mem ds _ q).mpr ⟨by simpa using h1, fun z hz => h2 z (by simp [hz]), by omega, hq0⟩, ?_⟩⟩
        rw [Int.toNat_of_nonneg hx.1]
end Ev
namespace Ev
/-! ### one turn of a loop -/
def turnC (tg : Tg) (cond : Env → Res (Bool × Env)) (elt : Env → Res (R × Env)) (own : List Nat) (x : D) (e : Env) : Res (Option D × Env) :=
  (Res.of (assignT tg x e)).bind fun e1 => (cond e1).bind fun p => if p.1 then (elt p.2).bind fun q => (Res.of (asVal q.1 q.2)).bind fun z => .ok (some z.1, wipeE z.2 own) else .ok (none, wipeE p.2 own)
def addTo : Option D → List D → List D
  | some d, l => d :: l
  | none, l => l
theorem compL_cons {tg : Tg} {cond : Env → Res (Bool × Env)} {elt : Env → Res (R × Env)} {own : List Nat} {x : D} {xs : List D} {e : Env} :
    compL tg cond elt own (x :: xs) e = (turnC tg cond elt own x e).bind fun p => (compL tg cond elt own xs p.2).bind fun w => .ok (addTo p.1 w.1, w.2) := by
  unfold turnC
  conv => lhs; unfold compL
  cases assignT tg x e with
  | none => rfl
  | some e1 =>
    simp only [Res.of_some, Res.bind_ok]
    cases cond e1 with
    | bad => rfl
    | exc c d => rfl
    | ok p =>
      obtain ⟨b, e2⟩ := p
      cases b with
      | false =>
        simp only [Res.bind_ok, Bool.false_eq_true, if_false]
        cases compL tg cond elt own xs (wipeE e2 own) <;> rfl
      | true =>
        simp only [Res.bind_ok, if_true]
        cases elt e2 with
        | bad => rfl
        | exc c d => rfl
        | ok q =>
          simp only [Res.bind_ok]
          cases asVal q.1 q.2 with
          | none => rfl
          | some z => rfl
theorem compL_nil {tg : Tg} {cond : Env → Res (Bool × Env)} {elt : Env → Res (R × Env)} {own : List Nat} {e : Env} : compL tg cond elt own [] e = .ok ([], e) := rfl
section
variable {tg : Tg} {cond : Env → Res (Bool × Env)} {elt : Env → Res (R × Env)} {own : List Nat} {α : Type}
/-- a comprehension that keeps I of the slots -/
theorem compL_keep (enc : α → D) (f : α → D) (I : Env → Prop) : ∀ (xs : List α), (∀ x ∈ xs, ∀ e, I e → ∃ e', turnC tg cond elt own (enc x) e = .ok (some (f x), e') ∧ I e') → ∀ e, I e → ∃ e', compL tg cond elt own (xs.map enc) e = .ok (xs.map f, e') ∧ I e'
  | [], _, e, h => ⟨e, rfl, h⟩
  | x :: xs, hx, e, h => by
    obtain ⟨e1, h1, h2⟩ := hx x (List.mem_cons_self ..) e h
    obtain ⟨e2, h3, h4⟩ := compL_keep enc f I xs (fun y hy => hx y (List.mem_cons_of_mem _ hy)) e1 h2
    refine ⟨e2, ?_, h4⟩
    rw [List.map_cons, compL_cons, h1, Res.bind_ok, h3]
    rfl
/-- the slots stay as they are; some items are left out -/
theorem compL_some (enc : α → D) (f : α → Option D) {e0 : Env} : ∀ {xs : List α}, (∀ x ∈ xs, turnC tg cond elt own (enc x) e0 = .ok (f x, e0)) → compL tg cond elt own (xs.map enc) e0 = .ok (xs.filterMap f, e0)
  | [], _ => rfl
  | x :: xs, h => by
    rw [List.map_cons, compL_cons, h x (List.mem_cons_self ..), Res.bind_ok, compL_some enc f fun y hy => h y (List.mem_cons_of_mem _ hy)]
    simp only [Res.bind_ok, List.filterMap_cons]
    cases f x <;> rfl
/-- the slots stay as they are -/
theorem compL_all (enc : α → D) (f : α → D) {e0 : Env} : ∀ {xs : List α}, (∀ x ∈ xs, turnC tg cond elt own (enc x) e0 = .ok (some (f x), e0)) → compL tg cond elt own (xs.map enc) e0 = .ok (xs.map f, e0)
  | [], _ => rfl
  | x :: xs, h => by
    rw [List.map_cons, compL_cons, h x (List.mem_cons_self ..), Res.bind_ok, compL_all enc f fun y hy => h y (List.mem_cons_of_mem _ hy)]
    rfl
end
/-! ### one turn of a for -/
def turnF (tg : Tg) (body : Env → Res Fl) (x : D) (e : Env) : Res Fl := (Res.of (assignT tg x e)).bind body
def goOn (k : Env → Res Fl) : Fl → Res Fl
  | .nx e => k e
  | .ct e => k e
  | .brk e => .ok (.nx e)
  | .ret r e => .ok (.ret r e)
theorem forL_cons {tg : Tg} {body : Env → Res Fl} {x : D} {xs : List D} {e : Env} : forL tg body [] (x :: xs) e = (turnF tg body x e).bind (goOn fun e => forL tg body [] xs e) := by
  unfold turnF
  conv => lhs; unfold forL
  cases assignT tg x e with
  | none => rfl
  | some e1 =>
    simp only [Res.of_some, Res.bind_ok]
    cases body e1 with
    | bad => rfl
    | exc c d => rfl
    | ok f => cases f <;> rfl
/-- a for that goes through all items: the slots by a relation to a state -/
theorem forL_go {α β : Type} {tg : Tg} {body : Env → Res Fl} (enc : α → D) (I : β → Env → Prop) (f : β → α → β) : ∀ (xs : List α) (b : β) (e : Env), I b e →
    (∀ x ∈ xs, ∀ b e, I b e → ∃ e', (turnF tg body (enc x) e = .ok (.nx e') ∨ turnF tg body (enc x) e = .ok (.ct e')) ∧ I (f b x) e') → ∃ e', forL tg body [] (xs.map enc) e = .ok (.nx e') ∧ I (xs.foldl f b) e'
  | [], b, e, h, _ => ⟨e, rfl, h⟩
  | x :: xs, b, e, h, hx => by
    obtain ⟨e1, h1, h2⟩ := hx x (List.mem_cons_self ..) b e h
    obtain ⟨e2, h3, h4⟩ := forL_go enc I f xs (f b x) e1 h2 fun y hy => hx y (List.mem_cons_of_mem _ hy)
    refine ⟨e2, ?_, h4⟩
    rw [List.map_cons, forL_cons]
    rcases h1 with h1 | h1
    · rw [h1, Res.bind_ok]; exact h3
    · rw [h1, Res.bind_ok]; exact h3
/-- .. the invariant speaks of how many are done -/
theorem forL_nth {α : Type} {tg : Tg} {body : Env → Res Fl} (enc : α → D) (I : Nat → Env → Prop) : ∀ (xs : List α) (i : Nat) (e : Env), I i e →
    (∀ (j : Nat) (h : j < xs.length), ∀ e, I (i + j) e → ∃ e', (turnF tg body (enc xs[j]) e = .ok (.nx e') ∨ turnF tg body (enc xs[j]) e = .ok (.ct e')) ∧ I (i + j + 1) e') → ∃ e', forL tg body [] (xs.map enc) e = .ok (.nx e') ∧ I (i + xs.length) e'
  | [], i, e, h, _ => ⟨e, rfl, h⟩
  | x :: xs, i, e, h, hx => by
    obtain ⟨e1, h1, h2⟩ := hx 0 (by simp) e h
    obtain ⟨e2, h3, h4⟩ := forL_nth enc I xs (i + 1) e1 h2 fun j hj e he => by
      have := hx (j + 1) (by simp; omega) e (by rw [show i + (j + 1) = i + 1 + j by omega]; exact he)
      rw [show i + (j + 1) + 1 = i + 1 + j + 1 by omega] at this
      simpa using this
    refine ⟨e2, ?_, by rw [List.length_cons, show i + (xs.length + 1) = i + 1 + xs.length by omega]; exact h4⟩
    rw [List.map_cons, forL_cons]
    rcases h1 with h1 | h1
    · rw [show turnF tg body (enc x) e = _ from h1, Res.bind_ok]; exact h3
    · rw [show turnF tg body (enc x) e = _ from h1, Res.bind_ok]; exact h3
theorem as_tup {ts : List Tg} {ds : List D} {e : Env} : assignT (.tup ts) (.tup ds) e = assignTs ts ds e := by simp only [assignT]
theorem as_nil {e : Env} : assignTs [] [] e = some e := by simp only [assignTs]
theorem as_cons {t : Tg} {ts : List Tg} {d : D} {ds : List D} {e : Env} : assignTs (t :: ts) (d :: ds) e = (assignT t d e).bind fun e1 => assignTs ts ds e1 := by simp only [assignTs]
theorem turnC_def {tg : Tg} {cond : Env → Res (Bool × Env)} {elt : Env → Res (R × Env)} {own : List Nat} {x : D} {e : Env} : turnC tg cond elt own x e = (Res.of (assignT tg x e)).bind fun e1 => (cond e1).bind fun p => if p.1 then (elt p.2).bind fun q => (Res.of (asVal q.1 q.2)).bind fun z => .ok (some z.1, wipeE z.2 own) else .ok (none, wipeE p.2 own) := rfl
theorem turnF_def {tg : Tg} {body : Env → Res Fl} {x : D} {e : Env} : turnF tg body x e = (Res.of (assignT tg x e)).bind body := rfl
end Ev
namespace Ev
theorem i5_0 : L2.ixN 5 0 = some 0 := rfl
theorem i5_1 : L2.ixN 5 1 = some 1 := rfl
theorem i5_2 : L2.ixN 5 2 = some 2 := rfl
theorem i5_3 : L2.ixN 5 3 = some 3 := rfl
theorem i5_4 : L2.ixN 5 4 = some 4 := rfl
section
variable {a b c d e : D}
theorem a5_0 : L2.atI [a, b, c, d, e] 0 = some a := rfl
theorem a5_1 : L2.atI [a, b, c, d, e] 1 = some b := rfl
theorem a5_2 : L2.atI [a, b, c, d, e] 2 = some c := rfl
theorem a5_3 : L2.atI [a, b, c, d, e] 3 = some d := rfl
theorem a5_4 : L2.atI [a, b, c, d, e] 4 = some e := rfl
end
local macro_rules | `(tactic| decreasing_trivial_pre_omega) => `(tactic| simp -implicitDefEqProofs -dsimp only [a5_0, a5_1, a5_2, a5_3, a5_4, i5_0, i5_1, i5_2, i5_3, i5_4, mineL, if_true, if_false, *, turnC_def, turnF_def, as_tup, as_nil, as_cons, evalSs, evalS, evalE, evalB, evalRs, evalDs, evalIt, evalC, evP, peek_v, peek_t, peek_i, con_v, con_o, con_b, asVal_v, asVal_t, asVal_i, add_ii, sub_ii, add_ll, mod_if, lt_ii, le_ii, gt_ii, ge_ii, eq_ii, ne_ii, tru_b, ix_l, ix_s, sli_s, sli_l, sum_l, atI_n, len_l, len_s, int_i, max_ii, min_ii, bitlen_i, list_l, at_0, at_s, noExc_ok, Function.comp_def, flat_t, ite_self, isT_l, all_t, List.length_map, List.length_range, List.map_map, flat_i, flat_b, flat_n, flatO_n, mine_v, mine_o, mine_b, mine_n, free_v, free_o, free_n, put_o, put_b, back_n, back_s, hb_v, hb_t, left_n, left_i, hb_i, fin_r, fin_nx, pv_nil, pv_n, pv_s, pm_t, pm_i, fi_nil, fi_n, fi_s, permute_nil, atI_0, atI_1, atI_2, ixN_30, ixN_31, ixN_32, wipe_nil, wipe_cons, as_one, st_v, st_t, st_i, free_b, stores_nil, stores_cons, res_nil, res_v, res_t, res_i, tst_ok, sp_f, sp_l, isT, List.set_cons_zero, List.set_cons_succ, Ev.start, List.zipIdx_cons, List.zipIdx_nil, List.map_cons, List.map_nil, List.length_cons, List.length_nil, List.cons_append, List.nil_append, List.append_nil, Res.bind_ok, Res.bind_exc, Res.bind_bad, Res.of_some, Option.bind_some, Option.map_some, List.mapM_cons, List.mapM_nil, List.filterMap_cons, List.filterMap_nil, id, List.getElem?_cons_zero, List.getElem?_cons_succ, reduceIte, forL, LIM, range_1, Int.reduceToNat, Int.reduceNeg, Int.reduceDiv, Int.reduceMod, Int.ofNat_zero, Int.zero_add, Int.add_zero, Int.cast_ofNat_Int, Option.pure_def, Option.bind_eq_bind, Nat.zero_add, Nat.reduceAdd, Nat.reduceSub, Nat.reduceLeDiff, Nat.reduceLT, Nat.reduceEqDiff, Int.reduceLT, Int.reduceLE, Int.reduceAdd, Int.reduceMul, Int.reduceSub, Bool.true_and, Bool.and_true, Bool.false_and, Bool.and_false, Bool.and_self, decide_true, decide_false, Bool.false_eq_true, Bool.not_true, Bool.not_false, reduceCtorEq, Option.some.injEq, and_true, true_and, false_and, and_false, if_false, ↓reduceIte, and_self, or_true, true_or, List.replicate])
/-! ### a purse: what the draws are made of -/
structure Pu where
  cells : List Int
  i : Nat
  v : Int
  n : Nat
  seed : Int
def Pu.d (p : Pu) : D := .lst [.lst (p.cells.map .int), .int (p.i : Int), .int p.v, .int (p.n : Int), .int p.seed]
structure Pu.ok (p : Pu) (m : Nat) : Prop where
  c : ∀ x ∈ p.cells, 0 ≤ x
  v : 0 ≤ p.v
  s : 0 ≤ p.seed ∧ p.seed < 2147483647
  n : p.n ≤ m
def DRAW : Ss := (.cons (.iff (.lg true (.cons false (.cmp .lt (.ix (.sl 0) (.con (.int 2))) (.sl 1)) (.cons false (.cmp .lt (.ix (.sl 0) (.con (.int 1))) (.bi .len (.cons false (.ix (.sl 0) (.con (.int 0))) .nil))) .nil))) (.cons (.put 0 (.con (.int 2)) (.ix (.ix (.sl 0) (.con (.int 0))) (.ix (.sl 0) (.con (.int 1))))) (.cons (.putAug 0 (.con (.int 1)) .add (.con (.int 1))) .nil)) .nil) (.cons (.iff (.cmp .ge (.ix (.sl 0) (.con (.int 2))) (.sl 1)) (.cons (.asg (.one 3) (.op .mod (.bi .int (.cons false (.ix (.sl 0) (.con (.int 2))) .nil)) (.sl 1))) (.cons (.put 0 (.con (.int 2)) (.op .fdiv (.ix (.sl 0) (.con (.int 2))) (.sl 1))) (.cons (.ret (.sl 3)) .nil))) .nil) (.cons (.putAug 0 (.con (.int 3)) .add (.con (.int 1))) (.cons (.asg (.one 2) (.op .mod (.bi .int (.cons false (.op .mul (.op .add (.op .mul (.ix (.sl 0) (.con (.int 3))) (.ix (.sl 0) (.con (.int 3)))) (.ix (.sl 0) (.con (.int 4)))) (.con (.int 48271))) .nil)) (.con (.int 2147483629)))) (.cons (.ret (.op .mod (.bi .int (.cons false (.op .mod (.bi .int (.cons false (.op .mul (.sl 2) (.sl 2)) .nil)) (.con (.int 2147483587))) .nil)) (.sl 1))) .nil)))))
def dr1 : Ss := (.cons (.put 0 (.con (.int 2)) (.ix (.ix (.sl 0) (.con (.int 0))) (.ix (.sl 0) (.con (.int 1))))) (.cons (.putAug 0 (.con (.int 1)) .add (.con (.int 1))) .nil))
section
variable {T : Nat → Option (Option Nat)} {G : Nat → Option D} {call : Call}
theorem draw_if1 {p : Pu} {m : Nat} (P : p.ok m) {many : Int} {S2 S3 : Sl} : ∃ p' : Pu, p'.ok m ∧ evalS T G call (.iff (.lg true (.cons false (.cmp .lt (.ix (.sl 0) (.con (.int 2))) (.sl 1)) (.cons false (.cmp .lt (.ix (.sl 0) (.con (.int 1))) (.bi .len (.cons false (.ix (.sl 0) (.con (.int 0))) .nil))) .nil))) dr1 .nil) [.byr p.d, .val (.int many), S2, S3] = .ok (.nx [.byr p'.d, .val (.int many), S2, S3]) := by
  obtain ⟨cells, i, v, n, seed⟩ := p
  by_cases h1 : v < many
  · by_cases h2 : i < cells.length
    · refine ⟨⟨cells, i + 1, cells[i], n, seed⟩, ⟨P.c, P.c _ (List.getElem_mem h2), P.s, P.n⟩, ?_⟩
      have h3 : (i : Int) < (cells.length : Int) := by omega
      have h4 : L2.atI (cells.map D.int) (i : Int) = some (.int cells[i]) := by
        rw [atI_n, List.getElem?_map, List.getElem?_eq_getElem h2]; rfl
      simp only [Pu.d, dr1, Int.natCast_add, Int.natCast_one]
      clear P
      decreasing_trivial_pre_omega
    · refine ⟨⟨cells, i, v, n, seed⟩, P, ?_⟩
      have h3 : ¬ (i : Int) < (cells.length : Int) := by omega
      simp only [Pu.d, dr1]
      clear P h2
      decreasing_trivial_pre_omega
  · refine ⟨⟨cells, i, v, n, seed⟩, P, ?_⟩
    simp only [Pu.d, dr1]
    clear P
    decreasing_trivial_pre_omega
def DRAWR : Ss := (.cons (.iff (.cmp .ge (.ix (.sl 0) (.con (.int 2))) (.sl 1)) (.cons (.asg (.one 3) (.op .mod (.bi .int (.cons false (.ix (.sl 0) (.con (.int 2))) .nil)) (.sl 1))) (.cons (.put 0 (.con (.int 2)) (.op .fdiv (.ix (.sl 0) (.con (.int 2))) (.sl 1))) (.cons (.ret (.sl 3)) .nil))) .nil) (.cons (.putAug 0 (.con (.int 3)) .add (.con (.int 1))) (.cons (.asg (.one 2) (.op .mod (.bi .int (.cons false (.op .mul (.op .add (.op .mul (.ix (.sl 0) (.con (.int 3))) (.ix (.sl 0) (.con (.int 3)))) (.ix (.sl 0) (.con (.int 4)))) (.con (.int 48271))) .nil)) (.con (.int 2147483629)))) (.cons (.ret (.op .mod (.bi .int (.cons false (.op .mod (.bi .int (.cons false (.op .mul (.sl 2) (.sl 2)) .nil)) (.con (.int 2147483587))) .nil)) (.sl 1))) .nil))))
theorem draw_rest {p : Pu} {m : Nat} (P : p.ok m) (hm : m < 1000000000) {many : Int} (h0 : 0 < many) (hM : many < 2 ^ 100) : ∃ (p' : Pu) (r : Int) (e : Env), p'.ok (m + 1) ∧ 0 ≤ r ∧ r < many ∧ evalSs T G call DRAWR [.byr p.d, .val (.int many), .no, .no] = .ok (.ret (.val (.int r)) (.byr p'.d :: e)) := by
  obtain ⟨cells, i, v, n, seed⟩ := p
  obtain ⟨hc, hv, hs, hn⟩ := P
  simp only at hc hv hs hn
  by_cases h1 : many ≤ v
  · refine ⟨⟨cells, i, v / many, n, seed⟩, v % many, [.val (.int many), .no, .val (.int (v % many))], ⟨hc, Int.ediv_nonneg hv (by omega), hs, by show n ≤ m + 1; omega⟩, Int.emod_nonneg _ (by omega), Int.emod_lt_of_pos _ h0, ?_⟩
    have h2 : bop .fdiv (.int v) (.int many) = some (.val (.int (v / many))) := div_ii h0 (by omega)
    simp only [Pu.d, DRAWR]
    clear hc hv hs hn hm hM
    decreasing_trivial_pre_omega
  · have a1 : bop .mul (.int ((n : Int) + 1)) (.int ((n : Int) + 1)) = some (.val (.int (((n : Int) + 1) * ((n : Int) + 1)))) := mul_ii (by omega) (by omega)
    have b1 : 0 ≤ ((n : Int) + 1) * ((n : Int) + 1) ∧ ((n : Int) + 1) * ((n : Int) + 1) ≤ 1000000000 * 1000000000 := ⟨Int.mul_nonneg (by omega) (by omega), Int.mul_le_mul (by omega) (by omega) (by omega) (by omega)⟩
    have a2 : bop .mul (.int (((n : Int) + 1) * ((n : Int) + 1) + seed)) (.int 48271) = some (.val (.int ((((n : Int) + 1) * ((n : Int) + 1) + seed) * 48271))) := mul_ii (by omega) (by omega)
    have b2 := Int.emod_nonneg ((((n : Int) + 1) * ((n : Int) + 1) + seed) * 48271) (show (2147483629 : Int) ≠ 0 by decide)
    have b3 := Int.emod_lt_of_pos ((((n : Int) + 1) * ((n : Int) + 1) + seed) * 48271) (show (0 : Int) < 2147483629 by decide)
    generalize hx : (((n : Int) + 1) * ((n : Int) + 1) + seed) * 48271 = x at *
    generalize hy : x % 2147483629 = y at *
    have a3 : bop .mul (.int y) (.int y) = some (.val (.int (y * y))) := mul_ii (by omega) (by omega)
    refine ⟨⟨cells, i, v, n + 1, seed⟩, (y * y) % 2147483587 % many, [.val (.int many), .val (.int y), .no], ⟨hc, hv, hs, by show n + 1 ≤ m + 1; omega⟩, Int.emod_nonneg _ (by omega), Int.emod_lt_of_pos _ h0, ?_⟩
    have c1 : (0 : Int) < 2147483629 := by decide
    have c2 : (0 : Int) < 2147483587 := by decide
    simp only [Pu.d, DRAWR, Int.natCast_add, Int.natCast_one]
    clear hc hv hs hn hm hM b1 b2 b3
    decreasing_trivial_pre_omega
end
theorem ss_step {T : Nat → Option (Option Nat)} {G : Nat → Option D} {call : Call} {s : S} {r : Ss} {e e1 : Env} (h : evalS T G call s e = .ok (.nx e1)) : evalSs T G call (.cons s r) e = evalSs T G call r e1 := by
  simp only [evalSs, h, Res.bind_ok]
theorem comp_it {T : Nat → Option (Option Nat)} {G : Nat → Option D} {call : Call} {elt : E} {tg : Tg} {it : It} {cond : Option E} {own : List Nat} {e e1 e2 : Env} {xs ys : List D} (h : hidE it e = none) (q : evalIt T G call it e = .ok (xs, e1)) (hl : xs.length ≤ LIM) (c : compL tg (evalC T G call cond) (evalE T G call elt) own xs (wipeE e1 own) = .ok (ys, e2)) :
    evalE T G call (.comp elt tg it cond own) e = .ok (.tmp (.lst ys), e2) := by
  simp only [evalE, h, q, Res.bind_ok, hl, if_true, c, noExc_ok]
section
variable {T : Tab}
theorem draw_val {f : Nat} (hf : T.fn f = some ⟨2, 4, some 0, DRAW⟩) {p : Pu} {m : Nat} (P : p.ok m) (hm : m < 1000000000) {many : Int} (h0 : 0 < many) (hM : many < 2 ^ 100) (k : Nat) :
    ∃ (p' : Pu) (r : Int), p'.ok (m + 1) ∧ 0 ≤ r ∧ r < many ∧ callF T (k + 1) f [p.d, .int many] = .ok (.val (.int r), some p'.d) := by
  obtain ⟨p1, P1, e1⟩ := draw_if1 (T := T.chg) (G := T.gval) (call := callF T k) P (many := many) (S2 := .no) (S3 := .no)
  obtain ⟨p2, r, e, P2, r0, r1, e2⟩ := draw_rest (T := T.chg) (G := T.gval) (call := callF T k) P1 hm h0 hM
  refine ⟨p2, r, P2, r0, r1, ?_⟩
  rw [callF_succ hf ⟨rfl, by decide⟩]
  have e0 : start (some 0) 4 [p.d, .int many] = [.byr p.d, .val (.int many), .no, .no] := rfl
  have e3 : DRAW = .cons (.iff (.lg true (.cons false (.cmp .lt (.ix (.sl 0) (.con (.int 2))) (.sl 1)) (.cons false (.cmp .lt (.ix (.sl 0) (.con (.int 1))) (.bi .len (.cons false (.ix (.sl 0) (.con (.int 0))) .nil))) .nil))) dr1 .nil) DRAWR := rfl
  show (evalSs T.chg T.gval (callF T k) DRAW (start (some 0) 4 [p.d, .int many])).bind (fin (some 0)) = _
  rw [e0, e3, ss_step e1, e2]
  rfl
def PICK (g : Nat) : Ss := (.cons (.ret (.ix (.sl 1) (.call g (.cons false (.sl 0) (.cons false (.bi .len (.cons false (.sl 1) .nil)) .nil)) .nil []))) .nil)
theorem pick_val {f g : Nat} (hf : T.fn f = some ⟨2, 2, some 0, PICK g⟩) (hg : T.fn g = some ⟨2, 4, some 0, DRAW⟩) {p : Pu} {m : Nat} (P : p.ok m) (hm : m < 1000000000) {xs : List D} (h0 : xs ≠ []) (hl : xs.length ≤ 1000000) (k : Nat) :
    ∃ (p' : Pu) (d : D), p'.ok (m + 1) ∧ d ∈ xs ∧ callF T (k + 2) f [p.d, .lst xs] = .ok (.val d, some p'.d) := by
  have l0 : 0 < xs.length := List.length_pos_iff.mpr h0
  obtain ⟨p', r, P', r0, r1, e⟩ := draw_val hg P hm (many := (xs.length : Int)) (by omega) (by omega) k
  obtain ⟨n, rfl⟩ := Int.eq_ofNat_of_zero_le r0
  have hn : n < xs.length := by omega
  refine ⟨p', xs[n], P', List.getElem_mem hn, ?_⟩
  rw [callF_succ hf ⟨rfl, Nat.le_refl 2⟩]
  have e0 : start (some 0) 2 [p.d, .lst xs] = [.byr p.d, .val (.lst xs)] := rfl
  have e1 : L2.atI xs (n : Int) = some xs[n] := by rw [atI_n]; exact List.getElem?_eq_getElem hn
  have cw := fun rs e => cw_s (call := callF T (k + 1)) (rs := rs) (e := e) (show T.chg g = some (some 0) by unfold Tab.chg; rw [hg]; rfl)
  show (evalSs T.chg T.gval (callF T (k + 1)) (PICK g) (start (some 0) 2 [p.d, .lst xs])).bind (fin (some 0)) = _
  rw [e0]
  unfold PICK
  generalize callF T (k + 1) = call at *
  clear hf hg P P' r0 r1 hm h0 hl l0 e0
  decreasing_trivial_pre_omega
def PURSE : Ss := (.cons (.asg (.one 1) (.con (.int 7))) (.cons (.for_ (.one 2) (.seq (.sli (.sl 0) .none_ (.con (.int 63)))) (.cons (.asg (.one 1) (.op .mod (.bi .int (.cons false (.op .add (.op .mul (.sl 1) (.con (.int 31))) (.sl 2)) .nil)) (.con (.int 2147483647)))) .nil) []) (.cons (.ret (.lst (.cons false (.comp (.sl 2) (.one 2) (.seq (.sli (.sl 0) .none_ (.con (.int 63)))) (some (.cmp .ge (.sl 2) (.op .pow (.con (.int 10)) (.con (.int 18))))) [2]) (.cons false (.con (.int 0)) (.cons false (.con (.int 0)) (.cons false (.con (.int 0)) (.cons false (.sl 1) .nil))))))) .nil)))
theorem purse_val {f : Nat} (hf : T.fn f = some ⟨1, 3, none, PURSE⟩) (ns : List Int) (k : Nat) : ∃ p : Pu, p.ok 0 ∧ callF T (k + 1) f [.scr ns] = .ok (.tmp p.d, none) := by
  have l1 : (ns.take 63).length ≤ LIM := by rw [List.length_take]; exact Nat.le_trans (Nat.min_le_left ..) (by decide)
  have c63 : cut ns none (some 63) = ns.take 63 := cut_upto ns 63
  -- the loop
  have loop : ∃ (s : Int) (S2 : Sl), (0 ≤ s ∧ s < 2147483647) ∧ S2.free = true ∧ forL (.one 2) (evalSs T.chg T.gval (callF T k) (.cons (.asg (.one 1) (.op .mod (.bi .int (.cons false (.op .add (.op .mul (.sl 1) (.con (.int 31))) (.sl 2)) .nil)) (.con (.int 2147483647)))) .nil)) [] ((ns.take 63).map .int) [.val (.scr ns), .val (.int 7), .no] = .ok (.nx [.val (.scr ns), .val (.int s), S2]) := by
    obtain ⟨e', h1, s, S2, hs, h2, rfl⟩ := forL_go (tg := .one 2) (body := evalSs T.chg T.gval (callF T k) (.cons (.asg (.one 1) (.op .mod (.bi .int (.cons false (.op .add (.op .mul (.sl 1) (.con (.int 31))) (.sl 2)) .nil)) (.con (.int 2147483647)))) .nil)) D.int (fun (_ : Unit) e => ∃ (s : Int) (S2 : Sl), (0 ≤ s ∧ s < 2147483647) ∧ S2.free = true ∧ e = [.val (.scr ns), .val (.int s), S2]) (fun u _ => u) (ns.take 63) () [.val (.scr ns), .val (.int 7), .no] ⟨7, .no, by decide, rfl, rfl⟩ (by
      rintro x _ _ e ⟨s, S2, hs, h2, rfl⟩
      refine ⟨_, .inl ?_, (s * 31 + x) % 2147483647, .val (.int x), ⟨Int.emod_nonneg _ (by decide), Int.emod_lt_of_pos _ (by decide)⟩, rfl, rfl⟩
      have a1 : bop .mul (.int s) (.int 31) = some (.val (.int (s * 31))) := mul_ii (by omega) (by omega)
      have c1 : (0 : Int) < 2147483647 := by decide
      generalize callF T k = call
      clear hs l1 c63
      decreasing_trivial_pre_omega)
    exact ⟨s, S2, hs, h2, h1⟩
  obtain ⟨s, S2, hs, h2, e2⟩ := loop
  have cm : compL (.one 2) (evalC T.chg T.gval (callF T k) (some (.cmp .ge (.sl 2) (.op .pow (.con (.int 10)) (.con (.int 18)))))) (evalE T.chg T.gval (callF T k) (.sl 2)) [2] ((ns.take 63).map .int) [.val (.scr ns), .val (.int s), .no] = .ok (((ns.take 63).filter fun x => decide (10 ^ 18 ≤ x)).map .int, [.val (.scr ns), .val (.int s), .no]) := by
    rw [compL_some D.int (fun x => if decide (10 ^ 18 ≤ x) then some (D.int x) else none)]
    · congr 2
      clear e2 l1 c63 hf
      generalize ns.take 63 = l
      generalize (10 : Int) ^ 18 = B
      induction l with
      | nil => rfl
      | cons x l ih =>
        rw [List.filterMap_cons, List.filter_cons, ih]
        by_cases h : B ≤ x
        · simp only [h, decide_true, if_true, List.map_cons]
        · simp only [h, decide_false, Bool.false_eq_true, if_false]
    · intro x _
      have pw : bop .pow (.int 10) (.int 18) = some (.val (.int (10 ^ 18))) := rfl
      generalize callF T k = call
      clear e2 l1 c63 hf hs h2
      by_cases h : (10 : Int) ^ 18 ≤ x
      · decreasing_trivial_pre_omega
      · decreasing_trivial_pre_omega
  refine ⟨⟨(ns.take 63).filter fun x => decide (10 ^ 18 ≤ x), 0, 0, 0, s⟩, ⟨fun x hx => ?_, Int.le_refl _, hs, Nat.le_refl _⟩, ?_⟩
  · have := List.mem_filter.mp hx
    simp only [decide_eq_true_eq] at this
    exact Int.le_trans (by decide) this.2
  rw [callF_succ hf ⟨rfl, by decide⟩]
  have e0 : start none 3 [.scr ns] = [.val (.scr ns), .no, .no] := rfl
  show (evalSs T.chg T.gval (callF T k) PURSE (start none 3 [.scr ns])).bind (fin none) = _
  rw [e0]
  unfold PURSE
  have l5 : (5 : Nat) ≤ LIM := by decide
  have l2 : ((ns.take 63).map D.int).length ≤ LIM := by rw [List.length_map]; exact l1
  generalize callF T k = call at *
  simp only [Pu.d]
  generalize ((ns.take 63).filter fun x => decide (10 ^ 18 ≤ x)).map D.int = Z at *
  clear hf l1
  have q1 : evalIt T.chg T.gval call (.seq (.sli (.sl 0) .none_ (.con (.int 63)))) [.val (.scr ns), .val (.int 7), .no] = .ok ((ns.take 63).map .int, [.val (.scr ns), .val (.int 7), .no]) := by
    clear e2 cm
    decreasing_trivial_pre_omega
  have q2 : evalIt T.chg T.gval call (.seq (.sli (.sl 0) .none_ (.con (.int 63)))) [.val (.scr ns), .val (.int s), S2] = .ok ((ns.take 63).map .int, [.val (.scr ns), .val (.int s), S2]) := by
    clear e2 cm
    decreasing_trivial_pre_omega
  have q3 : evalS T.chg T.gval call (.for_ (.one 2) (.seq (.sli (.sl 0) .none_ (.con (.int 63)))) (.cons (.asg (.one 1) (.op .mod (.bi .int (.cons false (.op .add (.op .mul (.sl 1) (.con (.int 31))) (.sl 2)) .nil)) (.con (.int 2147483647)))) .nil) []) [.val (.scr ns), .val (.int 7), .no] = .ok (.nx [.val (.scr ns), .val (.int s), S2]) := by
    simp only [evalS, q1, Res.bind_ok, wipeE]
    exact e2
  have q4 : evalE T.chg T.gval call (.comp (.sl 2) (.one 2) (.seq (.sli (.sl 0) .none_ (.con (.int 63)))) (some (.cmp .ge (.sl 2) (.op .pow (.con (.int 10)) (.con (.int 18))))) [2]) [.val (.scr ns), .val (.int s), S2] = .ok (.tmp (.lst Z), [.val (.scr ns), .val (.int s), .no]) := by
    exact comp_it rfl q2 l2 cm
  rw [ss_step (show evalS T.chg T.gval call (.asg (.one 1) (.con (.int 7))) [.val (.scr ns), .no, .no] = .ok (.nx [.val (.scr ns), .val (.int 7), .no]) from by clear e2 cm q1 q2 q3 q4; decreasing_trivial_pre_omega), ss_step q3]
  clear q1 q2 q3 e2 cm
  generalize (E.comp (.sl 2) (.one 2) (.seq (.sli (.sl 0) .none_ (.con (.int 63)))) (some (.cmp .ge (.sl 2) (.op .pow (.con (.int 10)) (.con (.int 18))))) [2]) = CC at *
  decreasing_trivial_pre_omega
end
end Ev
namespace K04
open PySem PySem.Spec PyProof.Rows L2 Ev
def T : Ev.Tab := tabOf L cs es im
theorem defs_ok : ∀ d ∈ L, FD.ok T d = true := List.all_eq_true.mp (by decide +kernel)
theorem ini_ok : IniText R.prog qual (defArgs ini) (defBody ini) (defScope ini) where
  txt := by
    refine ⟨_, _, _, _, _, _, _, _, _, _, rfl, fun env => ?_⟩
    rfl
  sc := NdefX.nscope_by (by decide +kernel)
  sup := by decide +kernel
  par := ⟨_, rfl, rfl⟩
  top := by decide +kernel
  bind := fun name cc TT kV doc pm an cdv ct us its h1 h2 => by
    match us, h1, its, h2 with
    | [a, b], _, [v], _ => exact ⟨_, rfl, rfl⟩
abbrev hk : PySem.W.Hook := hookZ 4 fa fn file qual es cs im iv
theorem ob_eq (s : PySem.W.SharedT) : ob s = hk.obs s.abs := obsZ_eq (HandSHeadRun.getT_eq s)
theorem run (w : World) : HandSHeadRun.RunEqI R (PySem.W.view R.prog [0, 92]) hk ob 4000 loose w := Ev.map3 (runA w) (runB w) (runC w)
theorem facts (w : World) {K : PySem.W.Frag} {h : Heap} {mg : Str → Option Value} (X : K.In h) (G : h.Ns mainGlobals mg) (Z : SaysZ fa fn file qual es cs im iv K) : ∃ fdt, Plain fdt f0.ps ∧ ∀ (k : Nat) (base : Heap), FnG R.prog w K mg base (L2.CX R.prog w) (k + 3) (He.ga K f0.name) fdt f0.ps (spF K (rcOf K T es) (callF T (k + 1)) f0.fn.np 0 f0.fn.chg) :=
  prog_lawZ X G Z (fun x h => h) rfl (fun _ base => errs_of X G ini_ok Z.e Z.i base) defs_ok
end K04
namespace Ev
mutual
/-- the same data, sign by sign -/
def D.eqb : D → D → Bool
  | .non, .non => true
  | .bl a, .bl b => a == b
  | .int i, .int j => i == j
  | .str x, .str y => x == y
  | .tup xs, .tup ys => D.eqbs xs ys
  | .lst xs, .lst ys => D.eqbs xs ys
  | .fn a, .fn b => a == b
  | .emp, .emp => true
  | _, _ => false
def D.eqbs : List D → List D → Bool
  | [], [] => true
  | x :: xs, y :: ys => D.eqb x y && D.eqbs xs ys
  | _, _ => false
end
mutual
theorem D.eqb_ok : ∀ (a b : D), D.eqb a b = true → a = b
  | .non, .non, _ => rfl
  | .bl a, .bl b, h => by simp only [D.eqb, beq_iff_eq] at h; rw [h]
  | .int a, .int b, h => by simp only [D.eqb, beq_iff_eq] at h; rw [h]
  | .str a, .str b, h => by simp only [D.eqb, beq_iff_eq] at h; rw [h]
  | .fn a, .fn b, h => by simp only [D.eqb, beq_iff_eq] at h; rw [h]
  | .emp, .emp, _ => rfl
  | .tup a, .tup b, h => by simp only [D.eqb] at h; rw [D.eqbs_ok a b h]
  | .lst a, .lst b, h => by simp only [D.eqb] at h; rw [D.eqbs_ok a b h]
  | .non, .bl _, h => by simp [D.eqb] at h
  | .non, .int _, h => by simp [D.eqb] at h
  | .non, .str _, h => by simp [D.eqb] at h
  | .non, .tup _, h => by simp [D.eqb] at h
  | .non, .lst _, h => by simp [D.eqb] at h
  | .non, .fn _, h => by simp [D.eqb] at h
  | .non, .emp, h => by simp [D.eqb] at h
  | .non, .exc _ _, h => by simp [D.eqb] at h
  | .non, .scr _, h => by simp [D.eqb] at h
  | .non, .ctup _, h => by simp [D.eqb] at h
  | .bl _, .non, h => by simp [D.eqb] at h
  | .bl _, .int _, h => by simp [D.eqb] at h
  | .bl _, .str _, h => by simp [D.eqb] at h
  | .bl _, .tup _, h => by simp [D.eqb] at h
  | .bl _, .lst _, h => by simp [D.eqb] at h
  | .bl _, .fn _, h => by simp [D.eqb] at h
  | .bl _, .emp, h => by simp [D.eqb] at h
  | .bl _, .exc _ _, h => by simp [D.eqb] at h
  | .bl _, .scr _, h => by simp [D.eqb] at h
  | .bl _, .ctup _, h => by simp [D.eqb] at h
  | .int _, .non, h => by simp [D.eqb] at h
  | .int _, .bl _, h => by simp [D.eqb] at h
  | .int _, .str _, h => by simp [D.eqb] at h
  | .int _, .tup _, h => by simp [D.eqb] at h
  | .int _, .lst _, h => by simp [D.eqb] at h
  | .int _, .fn _, h => by simp [D.eqb] at h
  | .int _, .emp, h => by simp [D.eqb] at h
  | .int _, .exc _ _, h => by simp [D.eqb] at h
  | .int _, .scr _, h => by simp [D.eqb] at h
  | .int _, .ctup _, h => by simp [D.eqb] at h
  | .str _, .non, h => by simp [D.eqb] at h
  | .str _, .bl _, h => by simp [D.eqb] at h
  | .str _, .int _, h => by simp [D.eqb] at h
  | .str _, .tup _, h => by simp [D.eqb] at h
  | .str _, .lst _, h => by simp [D.eqb] at h
  | .str _, .fn _, h => by simp [D.eqb] at h
  | .str _, .emp, h => by simp [D.eqb] at h
  | .str _, .exc _ _, h => by simp [D.eqb] at h
  | .str _, .scr _, h => by simp [D.eqb] at h
  | .str _, .ctup _, h => by simp [D.eqb] at h
  | .tup _, .non, h => by simp [D.eqb] at h
  | .tup _, .bl _, h => by simp [D.eqb] at h
  | .tup _, .int _, h => by simp [D.eqb] at h
  | .tup _, .str _, h => by simp [D.eqb] at h
  | .tup _, .lst _, h => by simp [D.eqb] at h
  | .tup _, .fn _, h => by simp [D.eqb] at h
  | .tup _, .emp, h => by simp [D.eqb] at h
  | .tup _, .exc _ _, h => by simp [D.eqb] at h
  | .tup _, .scr _, h => by simp [D.eqb] at h
  | .tup _, .ctup _, h => by simp [D.eqb] at h
  | .lst _, .non, h => by simp [D.eqb] at h
  | .lst _, .bl _, h => by simp [D.eqb] at h
  | .lst _, .int _, h => by simp [D.eqb] at h
  | .lst _, .str _, h => by simp [D.eqb] at h
  | .lst _, .tup _, h => by simp [D.eqb] at h
  | .lst _, .fn _, h => by simp [D.eqb] at h
  | .lst _, .emp, h => by simp [D.eqb] at h
  | .lst _, .exc _ _, h => by simp [D.eqb] at h
  | .lst _, .scr _, h => by simp [D.eqb] at h
  | .lst _, .ctup _, h => by simp [D.eqb] at h
  | .fn _, .non, h => by simp [D.eqb] at h
  | .fn _, .bl _, h => by simp [D.eqb] at h
  | .fn _, .int _, h => by simp [D.eqb] at h
  | .fn _, .str _, h => by simp [D.eqb] at h
  | .fn _, .tup _, h => by simp [D.eqb] at h
  | .fn _, .lst _, h => by simp [D.eqb] at h
  | .fn _, .emp, h => by simp [D.eqb] at h
  | .fn _, .exc _ _, h => by simp [D.eqb] at h
  | .fn _, .scr _, h => by simp [D.eqb] at h
  | .fn _, .ctup _, h => by simp [D.eqb] at h
  | .emp, .non, h => by simp [D.eqb] at h
  | .emp, .bl _, h => by simp [D.eqb] at h
  | .emp, .int _, h => by simp [D.eqb] at h
  | .emp, .str _, h => by simp [D.eqb] at h
  | .emp, .tup _, h => by simp [D.eqb] at h
  | .emp, .lst _, h => by simp [D.eqb] at h
  | .emp, .fn _, h => by simp [D.eqb] at h
  | .emp, .exc _ _, h => by simp [D.eqb] at h
  | .emp, .scr _, h => by simp [D.eqb] at h
  | .emp, .ctup _, h => by simp [D.eqb] at h
  | .exc _ _, b, h => by cases b <;> simp [D.eqb] at h
  | .scr _, b, h => by cases b <;> simp [D.eqb] at h
  | .ctup _, b, h => by cases b <;> simp [D.eqb] at h
theorem D.eqbs_ok : ∀ (a b : List D), D.eqbs a b = true → a = b
  | [], [], _ => rfl
  | x :: xs, y :: ys, h => by
    simp only [D.eqbs, Bool.and_eq_true] at h
    rw [D.eqb_ok x y h.1, D.eqbs_ok xs ys h.2]
  | [], _ :: _, h => by simp [D.eqbs] at h
  | _ :: _, [], h => by simp [D.eqbs] at h
end
end Ev
namespace K04
open Ev
def FIG : D := match evalS T.chg T.gval (callF T 39) (match b0 with | .cons _ (.cons s _) => s | _ => .pass) (List.replicate 16 .no) with
  | .ok (.nx e) => (match e.at 2 with | .val d => d | _ => .non)
  | _ => .non
def BADS : List D := match callF T 39 2 [FIG] with
  | .ok (.tmp (.lst xs), none) => xs
  | _ => []
def DUE (bad : D) : D := .lst [.str [102, 105, 103, 117, 114, 101], .bl true, .str bad.tx]
def okC (r : Res (Ev.R × Option D)) (bad : D) : Bool := match r with
  | .ok (.tmp x, none) => D.eqb x (DUE bad)
  | _ => false
theorem nb : BADS.length = 49 := by kernel_rfl
theorem g7 : (BADS.all fun bad => okC (callF T 39 3 [.fn 7, .lst [bad]]) bad) = true := by kernel_rfl
theorem g6 : ∀ d, (BADS.all fun bad => okC (callF T 39 3 [.fn 6, .lst [bad, d]]) bad) = true := fun d => by kernel_rfl
theorem g5 : ∀ d, (BADS.all fun bad => okC (callF T 39 3 [.fn 5, .lst [bad, d]]) bad) = true := fun d => by kernel_rfl
theorem g8 : ∀ d, (BADS.all fun bad => okC (callF T 39 3 [.fn 8, .lst [bad, d]]) bad) = true := fun d => by kernel_rfl
theorem g10 : ∀ d, (BADS.all fun bad => okC (callF T 39 3 [.fn 10, .lst [bad, d]]) bad) = true := fun d => by kernel_rfl
theorem g9 : ∀ d, (BADS.all fun bad => okC (callF T 39 3 [.fn 9, .lst [bad, d]]) bad) = true := fun d => by kernel_rfl
theorem okC_ok {r : Res (Ev.R × Option D)} {bad : D} (h : okC r bad = true) : r = .ok (.tmp (DUE bad), none) := by
  unfold okC at h
  split at h
  · rw [D.eqb_ok _ _ h]
  · cases h
theorem shw : (BADS.all fun bad => D.shw 40 bad && decide (bad.tx.length ≤ LIM) && D.dat 40 (DUE bad)) = true := by kernel_rfl
end K04
namespace K04
open Ev
local macro_rules | `(tactic| decreasing_trivial_pre_omega) => `(tactic| simp -implicitDefEqProofs -dsimp only [a5_0, a5_1, a5_2, a5_3, a5_4, i5_0, i5_1, i5_2, i5_3, i5_4, mineL, if_true, if_false, *, turnC_def, turnF_def, as_tup, as_nil, as_cons, evalSs, evalS, evalE, evalB, evalRs, evalDs, evalIt, evalC, evP, peek_v, peek_t, peek_i, con_v, con_o, con_b, asVal_v, asVal_t, asVal_i, add_ii, sub_ii, add_ll, mod_if, lt_ii, le_ii, gt_ii, ge_ii, eq_ii, ne_ii, tru_b, ix_l, ix_s, sli_s, sli_l, sum_l, atI_n, len_l, len_s, int_i, max_ii, min_ii, bitlen_i, list_l, at_0, at_s, noExc_ok, Function.comp_def, flat_t, ite_self, isT_l, all_t, List.length_map, List.length_range, List.map_map, flat_i, flat_b, flat_n, flatO_n, mine_v, mine_o, mine_b, mine_n, free_v, free_o, free_n, put_o, put_b, back_n, back_s, hb_v, hb_t, left_n, left_i, hb_i, fin_r, fin_nx, pv_nil, pv_n, pv_s, pm_t, pm_i, fi_nil, fi_n, fi_s, permute_nil, atI_0, atI_1, atI_2, ixN_30, ixN_31, ixN_32, wipe_nil, wipe_cons, as_one, st_v, st_t, st_i, free_b, stores_nil, stores_cons, res_nil, res_v, res_t, res_i, tst_ok, sp_f, sp_l, isT, List.set_cons_zero, List.set_cons_succ, Ev.start, List.zipIdx_cons, List.zipIdx_nil, List.map_cons, List.map_nil, List.length_cons, List.length_nil, List.cons_append, List.nil_append, List.append_nil, Res.bind_ok, Res.bind_exc, Res.bind_bad, Res.of_some, Option.bind_some, Option.map_some, List.mapM_cons, List.mapM_nil, List.filterMap_cons, List.filterMap_nil, id, List.getElem?_cons_zero, List.getElem?_cons_succ, reduceIte, forL, LIM, range_1, Int.reduceToNat, Int.reduceNeg, Int.reduceDiv, Int.reduceMod, Int.ofNat_zero, Int.zero_add, Int.add_zero, Int.cast_ofNat_Int, Option.pure_def, Option.bind_eq_bind, Nat.zero_add, Nat.reduceAdd, Nat.reduceSub, Nat.reduceLeDiff, Nat.reduceLT, Nat.reduceEqDiff, Int.reduceLT, Int.reduceLE, Int.reduceAdd, Int.reduceMul, Int.reduceSub, Bool.true_and, Bool.and_true, Bool.false_and, Bool.and_false, Bool.and_self, decide_true, decide_false, Bool.false_eq_true, Bool.not_true, Bool.not_false, reduceCtorEq, Option.some.injEq, and_true, true_and, false_and, and_false, if_false, ↓reduceIte, and_self, or_true, true_or, List.replicate])

theorem t4 : T.fn 4 = some ⟨2, 2, some 0, PICK 13⟩ := rfl
theorem t13 : T.fn 13 = some ⟨2, 4, some 0, DRAW⟩ := rfl
theorem t1 : T.fn 1 = some ⟨1, 3, none, PURSE⟩ := rfl
theorem cw4 {call : Call} {rs : List Ev.R} {e : Env} : callWith T.chg call 4 rs e = (match passVals (some 0) 0 rs e with
    | none => .bad
    | some (ds, e2) =>
        match (rs[0]?).bind fun r => passMut r e2 with
        | none => .bad
        | some (d, slot) => (call 4 (fillIn d ds)).bind fun p => Res.of ((back (if flatR p.1 && flatO p.2 then e else e2) slot p.2).map fun e3 => (p.1, e3))) := cw_s rfl
theorem cw3 {call : Call} {rs : List Ev.R} {e : Env} : callWith T.chg call 3 rs e = (match passVals none 0 rs e with
    | none => .bad
    | some (ds, e2) => (call 3 (ds.filterMap id)).bind fun p => .ok (p.1, if flatR p.1 then e else e2)) := cw_n rfl
theorem pu_flat (p : Pu) : flatO (some p.d) = false := rfl
/-- a slot that holds the list, of one's own or not -/
def IsL (S : Sl) (xs : List D) : Prop := S = .own (.lst xs) ∨ S = .val (.lst xs)
theorem set_self {e : Env} {j : Nat} {s : Sl} (h : e.at j = s) : e.set j s = e ∨ e.length ≤ j := by
  rcases Nat.lt_or_ge j e.length with q | q
  · left
    subst h
    unfold Env.at
    rw [List.getD_eq_getElem?_getD, List.getElem?_eq_getElem q]
    simp
  · exact .inr q
theorem pick_call {e : Env} {p : Pu} {m : Nat} (P : p.ok m) (hm : m < 1000000000) {j : Nat} (hj : j ≠ 1) {xs : List D} (h0 : xs ≠ []) (hl : xs.length ≤ 1000000) (h1 : e.at 1 = .own p.d) (h2 : IsL (e.at j) xs) (k : Nat) :
    ∃ (p' : Pu) (d : D), p'.ok (m + 1) ∧ evalE T.chg T.gval (callF T (k + 2)) (.call 4 (.cons false (.sl 1) (.cons false (.sl j) .nil)) .nil []) e = .ok (.val d, (e.set j (.val (.lst xs))).set 1 (.own p'.d)) := by
  obtain ⟨p', d, P', _, q⟩ := pick_val t4 t13 P hm h0 hl k
  refine ⟨p', d, P', ?_⟩
  have f := pu_flat p'
  have h3 : Env.at (e.set j (.val (.lst xs))) 1 = .own p.d := by
    rw [Env.at_set', if_neg (by omega), h1]
  generalize callF T (k + 2) = call at *
  clear P P' hm h0 hl
  have pm : ∀ e2 : Env, Env.at e2 1 = .own p.d → passMut (.var 1) e2 = some (p.d, some 1) := fun e2 h => pm_o h
  rcases h2 with h2 | h2
  · have q3 : asVal (.var j) e = some (.lst xs, e.set j (.val (.lst xs))) := asVal_io h2
    have pm3 := pm _ h3
    generalize e.set j (.val (.lst xs)) = e2 at *
    clear pm
    simp -implicitDefEqProofs -dsimp only [evalE, evalRs, h1, h2, Res.bind_ok, Bool.false_eq_true, if_false, permute_nil, Res.of_some, List.cons_append, List.nil_append, List.append_nil, cw4, pv_s, pv_nil, Nat.zero_add, Option.some.injEq, if_true, Nat.reduceEqDiff, Nat.zero_ne_one, Nat.reduceAdd, q3, Option.bind_some, Option.map_some, List.getElem?_cons_zero, pm3, fi_n, fi_s, fi_nil, q, f, Bool.and_false, back_s, h3, put_o]
  · have q3 : e.set j (.val (.lst xs)) = e := by
      rcases set_self h2 with z | z
      · exact z
      · exact List.set_eq_of_length_le z
    rw [q3] at h3 ⊢
    have pm3 := pm _ h3
    clear pm
    simp -implicitDefEqProofs -dsimp only [evalE, evalRs, h1, h2, Res.bind_ok, Bool.false_eq_true, if_false, permute_nil, Res.of_some, List.cons_append, List.nil_append, List.append_nil, cw4, pv_s, pv_nil, Nat.zero_add, Option.some.injEq, if_true, Nat.reduceEqDiff, Nat.zero_ne_one, Nat.reduceAdd, asVal_v, Option.bind_some, Option.map_some, List.getElem?_cons_zero, pm3, fi_n, fi_s, fi_nil, q, f, Bool.and_false, back_s, h3, put_o]
/-- a def that must refuse, the second argument picked -/
theorem cc_eval {f j : Nat} {e : Env} {p : Pu} {m : Nat} (P : p.ok m) (hm : m < 1000000000) (hj : j ≠ 1) (hj5 : j ≠ 5) {xs : List D} (h0 : xs ≠ []) (hl : xs.length ≤ 1000000) (h1 : e.at 1 = .own p.d) (h2 : IsL (e.at j) xs) {bad : D} (h5 : e.at 5 = .val bad)
    (hc : ∀ d, callF T 39 3 [.fn f, .lst [bad, d]] = .ok (.tmp (DUE bad), none)) :
    ∃ (p' : Pu), p'.ok (m + 1) ∧ evalE T.chg T.gval (callF T 39) (.call 3 (.cons false (.fnv f) (.cons false (.lst (.cons false (.sl 5) (.cons false (.call 4 (.cons false (.sl 1) (.cons false (.sl j) .nil)) .nil []) .nil))) .nil)) .nil []) e = .ok (.tmp (DUE bad), (e.set j (.val (.lst xs))).set 1 (.own p'.d)) := by
  obtain ⟨p', d, P', q⟩ := pick_call P hm hj h0 hl h1 h2 37
  refine ⟨p', P', ?_⟩
  have hcd := hc d
  generalize callF T 39 = call at *
  generalize (E.call 4 (.cons false (.sl 1) (.cons false (.sl j) .nil)) .nil []) = X at *
  generalize (e.set j (.val (.lst xs))).set 1 (.own p'.d) = e2 at *
  clear P P' hm h0 hl hc h1 h2 hj hj5
  have l2 : (2 : Nat) ≤ LIM := by decide
  have fl : flatR (.tmp (DUE bad)) = true := rfl
  generalize DUE bad = due at *
  simp -implicitDefEqProofs -dsimp only [evalE, evalRs, evalDs, h5, q, Res.bind_ok, Bool.false_eq_true, if_false, permute_nil, Res.of_some, List.cons_append, List.nil_append, List.append_nil, cw3, pv_n, pv_nil, Nat.zero_add, if_true, asVal_v, asVal_t, Option.bind_some, Option.map_some, sp_f, List.length_cons, List.length_nil, Nat.reduceAdd, l2, List.filterMap_cons, List.filterMap_nil, id, hcd, fl]
theorem cc1_eval {e : Env} {bad : D} (h5 : e.at 5 = .val bad) (hc : callF T 39 3 [.fn 7, .lst [bad]] = .ok (.tmp (DUE bad), none)) :
    evalE T.chg T.gval (callF T 39) (.call 3 (.cons false (.fnv 7) (.cons false (.lst (.cons false (.sl 5) .nil)) .nil)) .nil []) e = .ok (.tmp (DUE bad), e) := by
  generalize callF T 39 = call at *
  have l2 : (1 : Nat) ≤ LIM := by decide
  have fl : flatR (.tmp (DUE bad)) = true := rfl
  generalize DUE bad = due at *
  simp -implicitDefEqProofs -dsimp only [evalE, evalRs, evalDs, h5, Res.bind_ok, Bool.false_eq_true, if_false, permute_nil, Res.of_some, List.cons_append, List.nil_append, List.append_nil, cw3, pv_n, pv_nil, Nat.zero_add, if_true, asVal_v, asVal_t, Option.bind_some, Option.map_some, sp_f, List.length_cons, List.length_nil, Nat.reduceAdd, l2, List.filterMap_cons, List.filterMap_nil, id, hc, fl]
/-- what is told of a bad figure -/
structure Bad (bad : D) : Prop where
  c7 : callF T 39 3 [.fn 7, .lst [bad]] = .ok (.tmp (DUE bad), none)
  c6 : ∀ d, callF T 39 3 [.fn 6, .lst [bad, d]] = .ok (.tmp (DUE bad), none)
  c5 : ∀ d, callF T 39 3 [.fn 5, .lst [bad, d]] = .ok (.tmp (DUE bad), none)
  c8 : ∀ d, callF T 39 3 [.fn 8, .lst [bad, d]] = .ok (.tmp (DUE bad), none)
  c10 : ∀ d, callF T 39 3 [.fn 10, .lst [bad, d]] = .ok (.tmp (DUE bad), none)
  c9 : ∀ d, callF T 39 3 [.fn 9, .lst [bad, d]] = .ok (.tmp (DUE bad), none)
  sh : D.shw 40 bad = true ∧ bad.tx.length ≤ LIM
theorem bads {bad : D} (h : bad ∈ BADS) : Bad bad where
  c7 := okC_ok (List.all_eq_true.mp g7 bad h)
  c6 := fun d => okC_ok (List.all_eq_true.mp (g6 d) bad h)
  c5 := fun d => okC_ok (List.all_eq_true.mp (g5 d) bad h)
  c8 := fun d => okC_ok (List.all_eq_true.mp (g8 d) bad h)
  c10 := fun d => okC_ok (List.all_eq_true.mp (g10 d) bad h)
  c9 := fun d => okC_ok (List.all_eq_true.mp (g9 d) bad h)
  sh := by
    have := List.all_eq_true.mp shw bad h
    simp only [Bool.and_eq_true, decide_eq_true_eq] at this
    exact this.1
def PL : Nat → Ss → Ss
  | 0, s => s
  | n + 1, .cons _ r => PL n r
  | _, s => s
def AT (n : Nat) (s : Ss) : S := match PL n s with
  | .cons s _ => s
  | .nil => .pass
def FORB : S → Ss
  | .for_ _ _ b _ => b
  | _ => .nil
/-- the first loop's body -/
def B1 : Ss := FORB (AT 7 b0)
def LP : List D := match evalS T.chg T.gval (callF T 39) (AT 2 b0) (List.replicate 16 .no) with
  | .ok (.nx e) => (match e.at 9 with | .own (.lst d) => d | _ => [])
  | _ => []
def LT : List D := match evalS T.chg T.gval (callF T 39) (AT 2 b0) (List.replicate 16 .no) with
  | .ok (.nx e) => (match e.at 8 with | .own (.lst d) => d | _ => [])
  | _ => []
def LL : List D := match evalSs T.chg T.gval (callF T 39) (.cons (AT 3 b0) (.cons (AT 4 b0) .nil)) (List.replicate 16 .no) with
  | .ok (.nx e) => (match e.at 3 with | .own (.lst d) => d | _ => [])
  | _ => []
def LS : List D := match evalSs T.chg T.gval (callF T 39) (.cons (AT 5 b0) (.cons (AT 6 b0) .nil)) (List.replicate 16 .no) with
  | .ok (.nx e) => (match e.at 4 with | .own (.lst d) => d | _ => [])
  | _ => []
theorem lens : (LP.length, LT.length, LL.length, LS.length) = (7, 6, 13, 9) := by kernel_rfl
theorem evalE_lst {T : Nat → Option (Option Nat)} {G : Nat → Option D} {call : Call} {es : Es} {e : Env} : evalE T G call (.lst es) e = (evalDs T G call es e).bind fun p => if p.1.length ≤ LIM then .ok (.tmp (.lst p.1), p.2) else .bad := by simp only [evalE]
theorem evalE_op {T : Nat → Option (Option Nat)} {G : Nat → Option D} {call : Call} {o : BOp} {a b : E} {e : Env} : evalE T G call (.op o a b) e = (evalE T G call a e).bind fun p => (evalE T G call b p.2).bind fun q =>
    match peek p.1 q.2, peek q.1 q.2 with
    | some x, some y => (Res.of (bop o x y)).bind fun r => .ok (r, q.2)
    | _, _ => .bad := by first | (simp only [evalE]; done) | (simp only [evalE]; rfl)
theorem evalE_sl {T : Nat → Option (Option Nat)} {G : Nat → Option D} {call : Call} {i : Nat} {e : Env} : evalE T G call (.sl i) e = match e.at i with
    | .no => .bad
    | .val d => .ok (.val d, e)
    | _ => .ok (.var i, e) := by first | (simp only [evalE]; done) | (simp only [evalE]; rfl)
theorem turn (ns : List Int) {p : Pu} {m : Nat} (P : p.ok m) (hm : m < 100000) {S3 S4 S5 S8 S9 S10 S11 S12 : Sl} (h3 : IsL S3 LL) (h4 : IsL S4 LS) (h8 : IsL S8 LT) (h9 : IsL S9 LP) (f5 : S5.free = true) (f10 : S10.free = true) (f11 : S11.free = true) (f12 : S12.free = true) {bad : D} (hb : Bad bad) :
    ∃ (p' : Pu), p'.ok (m + 5) ∧ turnF (.one 5) (evalSs T.chg T.gval (callF T 39) B1) bad [.val (.scr ns), .own p.d, .val FIG, S3, S4, S5, .no, .no, S8, S9, S10, S11, S12, .no, .no, .no] =
      .ok (.nx [.val (.scr ns), .own p'.d, .val FIG, .val (.lst LL), .val (.lst LS), .val bad, .no, .no, .val (.lst LT), .val (.lst LP), .val (.str bad.tx), .val (DUE bad), .own (.lst [DUE bad, DUE bad, DUE bad, DUE bad, DUE bad, DUE bad]), .no, .no, .no]) := by
  obtain ⟨x1, x2, x3, x4⟩ : LP.length = 7 ∧ LT.length = 6 ∧ LL.length = 13 ∧ LS.length = 9 := by
    have := lens
    simp only [Prod.mk.injEq] at this
    exact this
  have nLP : LP ≠ [] := fun z => by rw [z] at x1; cases x1
  have nLT : LT ≠ [] := fun z => by rw [z] at x2; cases x2
  have nLL : LL ≠ [] := fun z => by rw [z] at x3; cases x3
  have nLS : LS ≠ [] := fun z => by rw [z] at x4; cases x4
  have lLP : LP.length ≤ 1000000 := by omega
  have lLT : LT.length ≤ 1000000 := by omega
  have lLL : LL.length ≤ 1000000 := by omega
  have lLS : LS.length ≤ 1000000 := by omega
  have P0 := P
  have q0 := cc1_eval (e := [.val (.scr ns), .own p.d, .val FIG, S3, S4, .val bad, .no, .no, S8, S9, .val (.str bad.tx), .own (DUE bad), S12, .no, .no, .no]) (bad := bad) rfl hb.c7
  obtain ⟨p1, P1, q1⟩ := cc_eval (f := 6) (j := 9) (e := [.val (.scr ns), .own p.d, .val FIG, S3, S4, .val bad, .no, .no, S8, S9, .val (.str bad.tx), .own (DUE bad), S12, .no, .no, .no]) P0 (by omega) (by decide) (by decide) (xs := LP) nLP lLP rfl h9 (bad := bad) rfl hb.c6
  replace q1 : evalE T.chg T.gval (callF T 39) (.call 3 (.cons false (.fnv 6) (.cons false (.lst (.cons false (.sl 5) (.cons false (.call 4 (.cons false (.sl 1) (.cons false (.sl 9) .nil)) .nil []) .nil))) .nil)) .nil []) [.val (.scr ns), .own p.d, .val FIG, S3, S4, .val bad, .no, .no, S8, S9, .val (.str bad.tx), .own (DUE bad), S12, .no, .no, .no] = .ok (.tmp (DUE bad), [.val (.scr ns), .own p1.d, .val FIG, S3, S4, .val bad, .no, .no, S8, .val (.lst LP), .val (.str bad.tx), .own (DUE bad), S12, .no, .no, .no]) := q1
  obtain ⟨p2, P2, q2⟩ := cc_eval (f := 5) (j := 4) (e := [.val (.scr ns), .own p1.d, .val FIG, S3, S4, .val bad, .no, .no, S8, .val (.lst LP), .val (.str bad.tx), .own (DUE bad), S12, .no, .no, .no]) P1 (by omega) (by decide) (by decide) (xs := LS) nLS lLS rfl h4 (bad := bad) rfl hb.c5
  replace q2 : evalE T.chg T.gval (callF T 39) (.call 3 (.cons false (.fnv 5) (.cons false (.lst (.cons false (.sl 5) (.cons false (.call 4 (.cons false (.sl 1) (.cons false (.sl 4) .nil)) .nil []) .nil))) .nil)) .nil []) [.val (.scr ns), .own p1.d, .val FIG, S3, S4, .val bad, .no, .no, S8, .val (.lst LP), .val (.str bad.tx), .own (DUE bad), S12, .no, .no, .no] = .ok (.tmp (DUE bad), [.val (.scr ns), .own p2.d, .val FIG, S3, .val (.lst LS), .val bad, .no, .no, S8, .val (.lst LP), .val (.str bad.tx), .own (DUE bad), S12, .no, .no, .no]) := q2
  obtain ⟨p3, P3, q3⟩ := cc_eval (f := 8) (j := 8) (e := [.val (.scr ns), .own p2.d, .val FIG, S3, .val (.lst LS), .val bad, .no, .no, S8, .val (.lst LP), .val (.str bad.tx), .own (DUE bad), .own (.lst [DUE bad, DUE bad, DUE bad]), .no, .no, .no]) P2 (by omega) (by decide) (by decide) (xs := LT) nLT lLT rfl h8 (bad := bad) rfl hb.c8
  replace q3 : evalE T.chg T.gval (callF T 39) (.call 3 (.cons false (.fnv 8) (.cons false (.lst (.cons false (.sl 5) (.cons false (.call 4 (.cons false (.sl 1) (.cons false (.sl 8) .nil)) .nil []) .nil))) .nil)) .nil []) [.val (.scr ns), .own p2.d, .val FIG, S3, .val (.lst LS), .val bad, .no, .no, S8, .val (.lst LP), .val (.str bad.tx), .own (DUE bad), .own (.lst [DUE bad, DUE bad, DUE bad]), .no, .no, .no] = .ok (.tmp (DUE bad), [.val (.scr ns), .own p3.d, .val FIG, S3, .val (.lst LS), .val bad, .no, .no, .val (.lst LT), .val (.lst LP), .val (.str bad.tx), .own (DUE bad), .own (.lst [DUE bad, DUE bad, DUE bad]), .no, .no, .no]) := q3
  obtain ⟨p4, P4, q4⟩ := cc_eval (f := 10) (j := 3) (e := [.val (.scr ns), .own p3.d, .val FIG, S3, .val (.lst LS), .val bad, .no, .no, .val (.lst LT), .val (.lst LP), .val (.str bad.tx), .own (DUE bad), .own (.lst [DUE bad, DUE bad, DUE bad, DUE bad]), .no, .no, .no]) P3 (by omega) (by decide) (by decide) (xs := LL) nLL lLL rfl h3 (bad := bad) rfl hb.c10
  replace q4 : evalE T.chg T.gval (callF T 39) (.call 3 (.cons false (.fnv 10) (.cons false (.lst (.cons false (.sl 5) (.cons false (.call 4 (.cons false (.sl 1) (.cons false (.sl 3) .nil)) .nil []) .nil))) .nil)) .nil []) [.val (.scr ns), .own p3.d, .val FIG, S3, .val (.lst LS), .val bad, .no, .no, .val (.lst LT), .val (.lst LP), .val (.str bad.tx), .own (DUE bad), .own (.lst [DUE bad, DUE bad, DUE bad, DUE bad]), .no, .no, .no] = .ok (.tmp (DUE bad), [.val (.scr ns), .own p4.d, .val FIG, .val (.lst LL), .val (.lst LS), .val bad, .no, .no, .val (.lst LT), .val (.lst LP), .val (.str bad.tx), .own (DUE bad), .own (.lst [DUE bad, DUE bad, DUE bad, DUE bad]), .no, .no, .no]) := q4
  obtain ⟨p5, P5, q5⟩ := cc_eval (f := 9) (j := 3) (e := [.val (.scr ns), .own p4.d, .val FIG, .val (.lst LL), .val (.lst LS), .val bad, .no, .no, .val (.lst LT), .val (.lst LP), .val (.str bad.tx), .own (DUE bad), .own (.lst [DUE bad, DUE bad, DUE bad, DUE bad]), .no, .no, .no]) P4 (by omega) (by decide) (by decide) (xs := LL) nLL lLL rfl (.inr rfl) (bad := bad) rfl hb.c9
  replace q5 : evalE T.chg T.gval (callF T 39) (.call 3 (.cons false (.fnv 9) (.cons false (.lst (.cons false (.sl 5) (.cons false (.call 4 (.cons false (.sl 1) (.cons false (.sl 3) .nil)) .nil []) .nil))) .nil)) .nil []) [.val (.scr ns), .own p4.d, .val FIG, .val (.lst LL), .val (.lst LS), .val bad, .no, .no, .val (.lst LT), .val (.lst LP), .val (.str bad.tx), .own (DUE bad), .own (.lst [DUE bad, DUE bad, DUE bad, DUE bad]), .no, .no, .no] = .ok (.tmp (DUE bad), [.val (.scr ns), .own p5.d, .val FIG, .val (.lst LL), .val (.lst LS), .val bad, .no, .no, .val (.lst LT), .val (.lst LP), .val (.str bad.tx), .own (DUE bad), .own (.lst [DUE bad, DUE bad, DUE bad, DUE bad]), .no, .no, .no]) := q5
  refine ⟨p5, P5, ?_⟩
  have hsh := hb.sh
  have hr : biOp .repr [bad] = some (.val (.str bad.tx)) := if_pos hsh
  have ht : ∀ (S : Sl) (e : Env) (i : Nat), i < e.length → (e.at i).free = true → assignT (.one i) bad e = some (e.set i (.val bad)) := fun S e i h1 h2 => by
    rw [as_one, if_pos (by rw [h2, decide_eq_true h1]; rfl)]
  have l1 : (1 : Nat) ≤ LIM := by decide
  have l2 : (2 : Nat) ≤ LIM := by decide
  have l3 : (3 : Nat) ≤ LIM := by decide
  have l4 : (3 + 1 : Nat) ≤ LIM := by decide
  have l6 : (4 + 2 : Nat) ≤ LIM := by decide
  have ad4 : bop .add (.lst [DUE bad, DUE bad, DUE bad]) (.lst [DUE bad]) = some (.tmp (.lst [DUE bad, DUE bad, DUE bad, DUE bad])) := rfl
  have ad6 : bop .add (.lst [DUE bad, DUE bad, DUE bad, DUE bad]) (.lst [DUE bad, DUE bad]) = some (.tmp (.lst [DUE bad, DUE bad, DUE bad, DUE bad, DUE bad, DUE bad])) := rfl
  have mu : bop .mul (.lst [DUE bad]) (.int 6) = some (.tmp (.lst [DUE bad, DUE bad, DUE bad, DUE bad, DUE bad, DUE bad])) := rfl
  have n1 : cop .ne (.lst [DUE bad, DUE bad, DUE bad, DUE bad, DUE bad, DUE bad]) (.lst [DUE bad, DUE bad, DUE bad, DUE bad, DUE bad, DUE bad]) = some false := by
    show some (!(D.beq _ _)) = _
    simp [D.beq, D.beqL, DUE]
  have n2 : cop .ne (.str bad.tx) (.str bad.tx) = some false := by
    show some (!(bad.tx == bad.tx)) = _
    simp
  have dd : D.lst [.str [102, 105, 103, 117, 114, 101], .bl true, .str bad.tx] = DUE bad := rfl
  have s1 : evalS T.chg T.gval (callF T 39) (.asg (.one 10) (.bi .repr (.cons false (.sl 5) .nil))) [.val (.scr ns), .own p.d, .val FIG, S3, S4, .val bad, .no, .no, S8, S9, S10, S11, S12, .no, .no, .no] = .ok (.nx [.val (.scr ns), .own p.d, .val FIG, S3, S4, .val bad, .no, .no, S8, S9, .val (.str bad.tx), S11, S12, .no, .no, .no]) := by
    clear q0 q1 q2 q3 q4 q5
    generalize callF T 39 = call
    generalize DUE bad = due at *
    decreasing_trivial_pre_omega
  have s2 : evalS T.chg T.gval (callF T 39) (.asg (.one 11) (.lst (.cons false (.con (.str [102, 105, 103, 117, 114, 101])) (.cons false (.con (.bl true)) (.cons false (.sl 10) .nil))))) [.val (.scr ns), .own p.d, .val FIG, S3, S4, .val bad, .no, .no, S8, S9, .val (.str bad.tx), S11, S12, .no, .no, .no] = .ok (.nx [.val (.scr ns), .own p.d, .val FIG, S3, S4, .val bad, .no, .no, S8, S9, .val (.str bad.tx), .own (DUE bad), S12, .no, .no, .no]) := by
    clear q0 q1 q2 q3 q4 q5
    generalize callF T 39 = call
    generalize bad.tx = tx at *
    clear ad4 ad6 mu n1 n2 hsh hr ht
    generalize DUE bad = due at *
    simp -implicitDefEqProofs -dsimp only [evalS, evalE, evalDs, Res.bind_ok, Res.of_some, asVal_v, spread, sp_f, at_0, at_s, List.cons_append, List.nil_append, List.length_cons, List.length_nil, Nat.zero_add, Nat.reduceAdd, l3, if_true, dd, st_t, f11, free_o, free_v, free_n, Nat.reduceLT, decide_true, Bool.and_self, List.set_cons_succ, List.set_cons_zero]
  have s3 : evalS T.chg T.gval (callF T 39) (.asg (.one 12) (.lst (.cons false (.call 3 (.cons false (.fnv 7) (.cons false (.lst (.cons false (.sl 5) .nil)) .nil)) .nil []) (.cons false (.call 3 (.cons false (.fnv 6) (.cons false (.lst (.cons false (.sl 5) (.cons false (.call 4 (.cons false (.sl 1) (.cons false (.sl 9) .nil)) .nil []) .nil))) .nil)) .nil []) (.cons false (.call 3 (.cons false (.fnv 5) (.cons false (.lst (.cons false (.sl 5) (.cons false (.call 4 (.cons false (.sl 1) (.cons false (.sl 4) .nil)) .nil []) .nil))) .nil)) .nil []) .nil))))) [.val (.scr ns), .own p.d, .val FIG, S3, S4, .val bad, .no, .no, S8, S9, .val (.str bad.tx), .own (DUE bad), S12, .no, .no, .no] = .ok (.nx [.val (.scr ns), .own p2.d, .val FIG, S3, .val (.lst LS), .val bad, .no, .no, S8, .val (.lst LP), .val (.str bad.tx), .own (DUE bad), .own (.lst [DUE bad, DUE bad, DUE bad]), .no, .no, .no]) := by
    clear s1 s2 hsh hr ht n1 n2 dd mu
    generalize callF T 39 = call at *
    generalize E.call 3 (.cons false (.fnv 7) (.cons false (.lst (.cons false (.sl 5) .nil)) .nil)) .nil [] = X7 at *
    generalize E.call 3 (.cons false (.fnv 6) (.cons false (.lst (.cons false (.sl 5) (.cons false (.call 4 (.cons false (.sl 1) (.cons false (.sl 9) .nil)) .nil []) .nil))) .nil)) .nil [] = X6 at *
    generalize E.call 3 (.cons false (.fnv 5) (.cons false (.lst (.cons false (.sl 5) (.cons false (.call 4 (.cons false (.sl 1) (.cons false (.sl 4) .nil)) .nil []) .nil))) .nil)) .nil [] = X5 at *
    generalize E.call 3 (.cons false (.fnv 8) (.cons false (.lst (.cons false (.sl 5) (.cons false (.call 4 (.cons false (.sl 1) (.cons false (.sl 8) .nil)) .nil []) .nil))) .nil)) .nil [] = X8 at *
    generalize E.call 3 (.cons false (.fnv 10) (.cons false (.lst (.cons false (.sl 5) (.cons false (.call 4 (.cons false (.sl 1) (.cons false (.sl 3) .nil)) .nil []) .nil))) .nil)) .nil [] = X10 at *
    generalize E.call 3 (.cons false (.fnv 9) (.cons false (.lst (.cons false (.sl 5) (.cons false (.call 4 (.cons false (.sl 1) (.cons false (.sl 3) .nil)) .nil []) .nil))) .nil)) .nil [] = X9 at *
    simp -implicitDefEqProofs -dsimp only [evalS, evalDs, evalE_lst, evalE_op, evalE_sl, Res.bind_ok, Res.of_some, asVal_v, asVal_t, peek_v, peek_t, peek_i, con_o, con_v, sp_f, at_0, at_s, List.cons_append, List.nil_append, List.length_cons, List.length_nil, Nat.zero_add, Nat.reduceAdd, l1, l2, l3, if_true, st_t, f12, free_o, free_v, free_n, Nat.reduceLT, decide_true, Bool.and_self, List.set_cons_succ, List.set_cons_zero, ad4, ad6, q0, q1, q2, q3, q4, q5]
  have s4 : evalS T.chg T.gval (callF T 39) (.asg (.one 12) (.op .add (.sl 12) (.lst (.cons false (.call 3 (.cons false (.fnv 8) (.cons false (.lst (.cons false (.sl 5) (.cons false (.call 4 (.cons false (.sl 1) (.cons false (.sl 8) .nil)) .nil []) .nil))) .nil)) .nil []) .nil)))) [.val (.scr ns), .own p2.d, .val FIG, S3, .val (.lst LS), .val bad, .no, .no, S8, .val (.lst LP), .val (.str bad.tx), .own (DUE bad), .own (.lst [DUE bad, DUE bad, DUE bad]), .no, .no, .no] = .ok (.nx [.val (.scr ns), .own p3.d, .val FIG, S3, .val (.lst LS), .val bad, .no, .no, .val (.lst LT), .val (.lst LP), .val (.str bad.tx), .own (DUE bad), .own (.lst [DUE bad, DUE bad, DUE bad, DUE bad]), .no, .no, .no]) := by
    clear s1 s2 hsh hr ht n1 n2 dd mu
    generalize callF T 39 = call at *
    generalize E.call 3 (.cons false (.fnv 7) (.cons false (.lst (.cons false (.sl 5) .nil)) .nil)) .nil [] = X7 at *
    generalize E.call 3 (.cons false (.fnv 6) (.cons false (.lst (.cons false (.sl 5) (.cons false (.call 4 (.cons false (.sl 1) (.cons false (.sl 9) .nil)) .nil []) .nil))) .nil)) .nil [] = X6 at *
    generalize E.call 3 (.cons false (.fnv 5) (.cons false (.lst (.cons false (.sl 5) (.cons false (.call 4 (.cons false (.sl 1) (.cons false (.sl 4) .nil)) .nil []) .nil))) .nil)) .nil [] = X5 at *
    generalize E.call 3 (.cons false (.fnv 8) (.cons false (.lst (.cons false (.sl 5) (.cons false (.call 4 (.cons false (.sl 1) (.cons false (.sl 8) .nil)) .nil []) .nil))) .nil)) .nil [] = X8 at *
    generalize E.call 3 (.cons false (.fnv 10) (.cons false (.lst (.cons false (.sl 5) (.cons false (.call 4 (.cons false (.sl 1) (.cons false (.sl 3) .nil)) .nil []) .nil))) .nil)) .nil [] = X10 at *
    generalize E.call 3 (.cons false (.fnv 9) (.cons false (.lst (.cons false (.sl 5) (.cons false (.call 4 (.cons false (.sl 1) (.cons false (.sl 3) .nil)) .nil []) .nil))) .nil)) .nil [] = X9 at *
    simp -implicitDefEqProofs -dsimp only [evalS, evalDs, evalE_lst, evalE_op, evalE_sl, Res.bind_ok, Res.of_some, asVal_v, asVal_t, peek_v, peek_t, peek_i, con_o, con_v, sp_f, at_0, at_s, List.cons_append, List.nil_append, List.length_cons, List.length_nil, Nat.zero_add, Nat.reduceAdd, l1, l2, l3, if_true, st_t, f12, free_o, free_v, free_n, Nat.reduceLT, decide_true, Bool.and_self, List.set_cons_succ, List.set_cons_zero, ad4, ad6, q0, q1, q2, q3, q4, q5]
  have s5 : evalS T.chg T.gval (callF T 39) (.asg (.one 12) (.op .add (.sl 12) (.lst (.cons false (.call 3 (.cons false (.fnv 10) (.cons false (.lst (.cons false (.sl 5) (.cons false (.call 4 (.cons false (.sl 1) (.cons false (.sl 3) .nil)) .nil []) .nil))) .nil)) .nil []) (.cons false (.call 3 (.cons false (.fnv 9) (.cons false (.lst (.cons false (.sl 5) (.cons false (.call 4 (.cons false (.sl 1) (.cons false (.sl 3) .nil)) .nil []) .nil))) .nil)) .nil []) .nil))))) [.val (.scr ns), .own p3.d, .val FIG, S3, .val (.lst LS), .val bad, .no, .no, .val (.lst LT), .val (.lst LP), .val (.str bad.tx), .own (DUE bad), .own (.lst [DUE bad, DUE bad, DUE bad, DUE bad]), .no, .no, .no] = .ok (.nx [.val (.scr ns), .own p5.d, .val FIG, .val (.lst LL), .val (.lst LS), .val bad, .no, .no, .val (.lst LT), .val (.lst LP), .val (.str bad.tx), .own (DUE bad), .own (.lst [DUE bad, DUE bad, DUE bad, DUE bad, DUE bad, DUE bad]), .no, .no, .no]) := by
    clear s1 s2 hsh hr ht n1 n2 dd mu
    generalize callF T 39 = call at *
    generalize E.call 3 (.cons false (.fnv 7) (.cons false (.lst (.cons false (.sl 5) .nil)) .nil)) .nil [] = X7 at *
    generalize E.call 3 (.cons false (.fnv 6) (.cons false (.lst (.cons false (.sl 5) (.cons false (.call 4 (.cons false (.sl 1) (.cons false (.sl 9) .nil)) .nil []) .nil))) .nil)) .nil [] = X6 at *
    generalize E.call 3 (.cons false (.fnv 5) (.cons false (.lst (.cons false (.sl 5) (.cons false (.call 4 (.cons false (.sl 1) (.cons false (.sl 4) .nil)) .nil []) .nil))) .nil)) .nil [] = X5 at *
    generalize E.call 3 (.cons false (.fnv 8) (.cons false (.lst (.cons false (.sl 5) (.cons false (.call 4 (.cons false (.sl 1) (.cons false (.sl 8) .nil)) .nil []) .nil))) .nil)) .nil [] = X8 at *
    generalize E.call 3 (.cons false (.fnv 10) (.cons false (.lst (.cons false (.sl 5) (.cons false (.call 4 (.cons false (.sl 1) (.cons false (.sl 3) .nil)) .nil []) .nil))) .nil)) .nil [] = X10 at *
    generalize E.call 3 (.cons false (.fnv 9) (.cons false (.lst (.cons false (.sl 5) (.cons false (.call 4 (.cons false (.sl 1) (.cons false (.sl 3) .nil)) .nil []) .nil))) .nil)) .nil [] = X9 at *
    simp -implicitDefEqProofs -dsimp only [evalS, evalDs, evalE_lst, evalE_op, evalE_sl, Res.bind_ok, Res.of_some, asVal_v, asVal_t, peek_v, peek_t, peek_i, con_o, con_v, sp_f, at_0, at_s, List.cons_append, List.nil_append, List.length_cons, List.length_nil, Nat.zero_add, Nat.reduceAdd, l1, l2, l3, if_true, st_t, f12, free_o, free_v, free_n, Nat.reduceLT, decide_true, Bool.and_self, List.set_cons_succ, List.set_cons_zero, ad4, ad6, q0, q1, q2, q3, q4, q5]
  have s6 : evalS T.chg T.gval (callF T 39) (.iff (.lg false (.cons false (.cmp .ne (.sl 12) (.op .mul (.lst (.cons false (.sl 11) .nil)) (.con (.int 6)))) (.cons false (.cmp .ne (.bi .repr (.cons false (.sl 5) .nil)) (.sl 10)) .nil))) (.cons (.ret (.con (.bl false))) .nil) .nil) [.val (.scr ns), .own p5.d, .val FIG, .val (.lst LL), .val (.lst LS), .val bad, .no, .no, .val (.lst LT), .val (.lst LP), .val (.str bad.tx), .own (DUE bad), .own (.lst [DUE bad, DUE bad, DUE bad, DUE bad, DUE bad, DUE bad]), .no, .no, .no] = .ok (.nx [.val (.scr ns), .own p5.d, .val FIG, .val (.lst LL), .val (.lst LS), .val bad, .no, .no, .val (.lst LT), .val (.lst LP), .val (.str bad.tx), .val (DUE bad), .own (.lst [DUE bad, DUE bad, DUE bad, DUE bad, DUE bad, DUE bad]), .no, .no, .no]) := by
    clear q0 q1 q2 q3 q4 q5 s1 s2 s3 s4 s5 hsh ht ad4 ad6 dd
    generalize callF T 39 = call
    have io : Env.at [.val (.scr ns), .own p5.d, .val FIG, .val (.lst LL), .val (.lst LS), .val bad, .no, .no, .val (.lst LT), .val (.lst LP), .val (.str bad.tx), .own (DUE bad), .own (.lst [DUE bad, DUE bad, DUE bad, DUE bad, DUE bad, DUE bad]), .no, .no, .no] 11 = .own (DUE bad) := rfl
    generalize bad.tx = tx at *
    generalize DUE bad = due at *
    decreasing_trivial_pre_omega
  show (Res.of (assignT (.one 5) bad _)).bind (evalSs T.chg T.gval (callF T 39) B1) = _
  rw [ht .no [.val (.scr ns), .own p.d, .val FIG, S3, S4, S5, .no, .no, S8, S9, S10, S11, S12, .no, .no, .no] 5 (by simp only [List.length_cons, List.length_nil]; decide) f5, Res.of_some, Res.bind_ok]
  have hB : B1 = .cons (.asg (.one 10) (.bi .repr (.cons false (.sl 5) .nil))) (.cons (.asg (.one 11) (.lst (.cons false (.con (.str [102, 105, 103, 117, 114, 101])) (.cons false (.con (.bl true)) (.cons false (.sl 10) .nil))))) (.cons (.asg (.one 12) (.lst (.cons false (.call 3 (.cons false (.fnv 7) (.cons false (.lst (.cons false (.sl 5) .nil)) .nil)) .nil []) (.cons false (.call 3 (.cons false (.fnv 6) (.cons false (.lst (.cons false (.sl 5) (.cons false (.call 4 (.cons false (.sl 1) (.cons false (.sl 9) .nil)) .nil []) .nil))) .nil)) .nil []) (.cons false (.call 3 (.cons false (.fnv 5) (.cons false (.lst (.cons false (.sl 5) (.cons false (.call 4 (.cons false (.sl 1) (.cons false (.sl 4) .nil)) .nil []) .nil))) .nil)) .nil []) .nil))))) (.cons (.asg (.one 12) (.op .add (.sl 12) (.lst (.cons false (.call 3 (.cons false (.fnv 8) (.cons false (.lst (.cons false (.sl 5) (.cons false (.call 4 (.cons false (.sl 1) (.cons false (.sl 8) .nil)) .nil []) .nil))) .nil)) .nil []) .nil)))) (.cons (.asg (.one 12) (.op .add (.sl 12) (.lst (.cons false (.call 3 (.cons false (.fnv 10) (.cons false (.lst (.cons false (.sl 5) (.cons false (.call 4 (.cons false (.sl 1) (.cons false (.sl 3) .nil)) .nil []) .nil))) .nil)) .nil []) (.cons false (.call 3 (.cons false (.fnv 9) (.cons false (.lst (.cons false (.sl 5) (.cons false (.call 4 (.cons false (.sl 1) (.cons false (.sl 3) .nil)) .nil []) .nil))) .nil)) .nil []) .nil))))) (.cons (.iff (.lg false (.cons false (.cmp .ne (.sl 12) (.op .mul (.lst (.cons false (.sl 11) .nil)) (.con (.int 6)))) (.cons false (.cmp .ne (.bi .repr (.cons false (.sl 5) .nil)) (.sl 10)) .nil))) (.cons (.ret (.con (.bl false))) .nil) .nil) .nil))))) := rfl
  show evalSs T.chg T.gval (callF T 39) B1 [.val (.scr ns), .own p.d, .val FIG, S3, S4, .val bad, .no, .no, S8, S9, S10, S11, S12, .no, .no, .no] = _
  rw [hB, ss_step s1, ss_step s2, ss_step s3, ss_step s4, ss_step s5, ss_step s6]
  rfl
end K04
namespace K04
open Ev
theorem cw1 {call : Call} {rs : List Ev.R} {e : Env} : callWith T.chg call 1 rs e = (match passVals none 0 rs e with
    | none => .bad
    | some (ds, e2) => (call 1 (ds.filterMap id)).bind fun p => .ok (p.1, if flatR p.1 then e else e2)) := cw_n rfl
theorem s0 (ns : List Int) : ∃ p : Pu, p.ok 0 ∧ evalS T.chg T.gval (callF T 39) (AT 0 b0) [.val (.scr ns), .no, .no, .no, .no, .no, .no, .no, .no, .no, .no, .no, .no, .no, .no, .no] = .ok (.nx [.val (.scr ns), .own p.d, .no, .no, .no, .no, .no, .no, .no, .no, .no, .no, .no, .no, .no, .no]) := by
  obtain ⟨p, P, q⟩ := purse_val t1 ns 38
  refine ⟨p, P, ?_⟩
  have hA : AT 0 b0 = .asg (.one 1) (.call 1 (.cons false (.sl 0) .nil) .nil []) := rfl
  have fl : flatR (.tmp p.d) = false := rfl
  rw [hA]
  generalize p.d = pd at *
  show evalS T.chg T.gval (callF T (38 + 1)) _ _ = _
  generalize callF T (38 + 1) = call at *
  simp -implicitDefEqProofs -dsimp only [evalS, evalE, evalRs, q, Res.bind_ok, Res.of_some, Bool.false_eq_true, if_false, permute_nil, at_0, cw1, pv_n, pv_nil, asVal_v, Option.bind_some, Option.map_some, List.append_nil, List.filterMap_cons, List.filterMap_nil, id, fl, st_t, at_s, free_n, List.length_cons, List.length_nil, Nat.zero_add, Nat.reduceAdd, Nat.reduceLT, decide_true, Bool.and_self, if_true, List.set_cons_succ, List.set_cons_zero]
theorem s16 (ns : List Int) (p : D) : evalSs T.chg T.gval (callF T 39) (.cons (AT 1 b0) (.cons (AT 2 b0) (.cons (AT 3 b0) (.cons (AT 4 b0) (.cons (AT 5 b0) (.cons (AT 6 b0) .nil)))))) [.val (.scr ns), .own p, .no, .no, .no, .no, .no, .no, .no, .no, .no, .no, .no, .no, .no, .no] =
    .ok (.nx [.val (.scr ns), .own p, .val FIG, .own (.lst LL), .own (.lst LS), .no, .no, .no, .own (.lst LT), .own (.lst LP), .no, .no, .no, .no, .no, .no]) := by kernel_rfl
theorem it7 (ns : List Int) (p : D) : evalIt T.chg T.gval (callF T 39) (.seq (.call 2 (.cons false (.sl 2) .nil) .nil [])) [.val (.scr ns), .own p, .val FIG, .own (.lst LL), .own (.lst LS), .no, .no, .no, .own (.lst LT), .own (.lst LP), .no, .no, .no, .no, .no, .no] =
    .ok (BADS, [.val (.scr ns), .own p, .val FIG, .own (.lst LL), .own (.lst LS), .no, .no, .no, .own (.lst LT), .own (.lst LP), .no, .no, .no, .no, .no, .no]) := by kernel_rfl
theorem rest (ns : List Int) (p bad tx due told : D) : (evalSs T.chg T.gval (callF T 39) (PL 8 b0) [.val (.scr ns), .own p, .val FIG, .val (.lst LL), .val (.lst LS), .val bad, .no, .no, .val (.lst LT), .val (.lst LP), .val tx, .val due, .own told, .no, .no, .no]).bind (fin none) = .ok (.val (.bl true), none) := by kernel_rfl
def app : Ss → Ss → Ss
  | .nil, b => b
  | .cons s r, b => .cons s (app r b)
theorem app_ok {T : Nat → Option (Option Nat)} {G : Nat → Option D} {call : Call} : ∀ (a b : Ss) {e e1 : Env}, evalSs T G call a e = .ok (.nx e1) → evalSs T G call (app a b) e = evalSs T G call b e1
  | .nil, b, e, e1, h => by
    simp only [evalSs, Res.ok.injEq, Fl.nx.injEq] at h
    subst h
    rfl
  | .cons s r, b, e, e1, h => by
    simp only [evalSs] at h
    show evalSs T G call (.cons s (app r b)) e = _
    simp only [evalSs]
    cases q : evalS T G call s e with
    | bad => rw [q] at h; cases h
    | exc c d => rw [q] at h; cases h
    | ok f =>
      rw [q] at h
      simp only [Res.bind_ok] at h ⊢
      cases f with
      | nx e2 => exact app_ok r b h
      | ret r e2 => cases h
      | brk e2 => cases h
      | ct e2 => cases h
theorem law_val (ns : List Int) (hl : ns.length ≤ 63) : callF T 40 0 [.scr ns] = .ok (.val (.bl true), none) := by
  obtain ⟨p, P, q0⟩ := s0 ns
  have q1 := s16 ns p.d
  have hn := nb
  obtain ⟨e', h1, h2⟩ := forL_nth (tg := .one 5) (body := evalSs T.chg T.gval (callF T 39) B1) (id : D → D)
    (fun j e => ∃ p : Pu, p.ok (5 * j) ∧ ((j = 0 ∧ e = [.val (.scr ns), .own p.d, .val FIG, .own (.lst LL), .own (.lst LS), .no, .no, .no, .own (.lst LT), .own (.lst LP), .no, .no, .no, .no, .no, .no]) ∨
      (0 < j ∧ ∃ bad tx due told, e = [.val (.scr ns), .own p.d, .val FIG, .val (.lst LL), .val (.lst LS), .val bad, .no, .no, .val (.lst LT), .val (.lst LP), .val tx, .val due, .own told, .no, .no, .no])))
    BADS 0 _ ⟨p, P, .inl ⟨rfl, rfl⟩⟩ (by
      rintro j hj e ⟨p, P, hh⟩
      rw [Nat.zero_add] at P hh
      have hb := bads (List.getElem_mem hj)
      rcases hh with ⟨_, rfl⟩ | ⟨_, bad, tx, due, told, rfl⟩
      · obtain ⟨p', P', q⟩ := turn ns P (by omega) (.inl rfl) (.inl rfl) (.inl rfl) (.inl rfl) (S5 := .no) (S10 := .no) (S11 := .no) (S12 := .no) rfl rfl rfl rfl hb
        exact ⟨_, .inl q, p', (by rw [show 5 * (0 + j + 1) = 5 * j + 5 by omega]; exact P'), .inr ⟨by omega, _, _, _, _, rfl⟩⟩
      · obtain ⟨p', P', q⟩ := turn ns P (by omega) (.inr rfl) (.inr rfl) (.inr rfl) (.inr rfl) (S5 := .val bad) (S10 := .val tx) (S11 := .val due) (S12 := .own told) rfl rfl rfl rfl hb
        exact ⟨_, .inl q, p', (by rw [show 5 * (0 + j + 1) = 5 * j + 5 by omega]; exact P'), .inr ⟨by omega, _, _, _, _, rfl⟩⟩)
  obtain ⟨p', P', hh⟩ := h2
  have hlen : 0 < 0 + BADS.length := by omega
  rcases hh with ⟨z, _⟩ | ⟨_, bad, tx, due, told, rfl⟩
  · omega
  rw [List.map_id] at h1
  rw [callF_succ (fd := f0.fn) rfl ⟨rfl, by decide⟩]
  show (evalSs T.chg T.gval (callF T 39) b0 [.val (.scr ns), .no, .no, .no, .no, .no, .no, .no, .no, .no, .no, .no, .no, .no, .no, .no]).bind (fin none) = _
  have hb0 : b0 = .cons (AT 0 b0) (app (.cons (AT 1 b0) (.cons (AT 2 b0) (.cons (AT 3 b0) (.cons (AT 4 b0) (.cons (AT 5 b0) (.cons (AT 6 b0) .nil)))))) (.cons (.for_ (.one 5) (.seq (.call 2 (.cons false (.sl 2) .nil) .nil [])) B1 []) (PL 8 b0))) := rfl
  have h7 := it7 ns p.d
  have hr := rest ns p'.d bad tx due told
  have q7 : evalS T.chg T.gval (callF T 39) (.for_ (.one 5) (.seq (.call 2 (.cons false (.sl 2) .nil) .nil [])) B1 []) [.val (.scr ns), .own p.d, .val FIG, .own (.lst LL), .own (.lst LS), .no, .no, .no, .own (.lst LT), .own (.lst LP), .no, .no, .no, .no, .no, .no] = .ok (.nx [.val (.scr ns), .own p'.d, .val FIG, .val (.lst LL), .val (.lst LS), .val bad, .no, .no, .val (.lst LT), .val (.lst LP), .val tx, .val due, .own told, .no, .no, .no]) := by
    clear hb0 hr q0 q1
    generalize B1 = BB at *
    generalize callF T 39 = call at *
    generalize (It.seq (.call 2 (.cons false (.sl 2) .nil) .nil [])) = II at *
    simp only [evalS, h7, Res.bind_ok, wipeE]
    exact h1
  rw [hb0, ss_step q0, app_ok _ _ q1, ss_step q7]
  exact hr
end K04
open PySem PySem.W PySem.Calls PyProof.Rows
theorem PySem.Challenge.cw_figuresproved_k04_texts_of_figures_refus_holds : PySem.Challenge.rw_figuresproved_k04_texts_of_figures_refus.Holds := by
  w_on; o_law
  refine HandSHeadRun.head_imp (r := OpenLaw.row PySem.Challenge.rw_figuresproved_k04_texts_of_figures_refus) (q := view (OpenLaw.row PySem.Challenge.rw_figuresproved_k04_texts_of_figures_refus).prog [0, 92]) (H := K04.hk) (ob := K04.ob) (M := 4000) (loose := K04.loose) (d := HandSHeadRun.topDef (OpenLaw.row PySem.Challenge.rw_figuresproved_k04_texts_of_figures_refus).prog 92) (kwd := []) K04.ob_eq
    K04.run (by kernel_rfl) (by kernel_rfl) (by kernel_rfl) (by rfl) (by first | assumption | decide +kernel) (by decide +kernel) ⟨rfl, rfl, rfl, rfl, rfl, by decide +kernel⟩ ?hw ?hc
  case hw => w_witness2
  case hc =>
    refine Ev.walk_ofG (l := PySem.Challenge.rw_figuresproved_k04_texts_of_figures_refus) (n := 63) (k := 42) (x := "script") (CX := Ev.CXu) rfl (by decide) (by kernel_rfl) ⟨rfl, by decide, by decide⟩ ?F Ev.CXu_no
    intro w mg fa h Y G hmg0
    obtain ⟨K, KX, Z⟩ := Y
    have hmg : mg ("law" : PySem.Str) = some (.ref fa) := by
      have e : (HandSHeadRun.topDef (OpenLaw.row PySem.Challenge.rw_figuresproved_k04_texts_of_figures_refus).prog 92).name = ("law" : PySem.Str) := by kernel_rfl
      rw [← e]
      exact hmg0
    obtain ⟨fdt, P, hF⟩ := K04.facts w KX G Z
    have e2 := hmg.symm.trans (He.glo_ok KX G (Z.c.facts (f := .glo "law") (List.mem_append_left _ (List.mem_map_of_mem (List.mem_cons_self ..)))))
    cases e2
    exact ⟨K, fdt, _, KX, fun s u => Ev.plain_binds P s u, fun H a ns hl _ hS => Ev.law_sp rfl hS (by show ns.length ≤ 16777216; omega) (K04.law_val ns hl), fun base _ _ => Ev.FnG.u (hF 39 base)⟩
