import PyProof.Rows.All
import Wide.All
import OpenK.AllK
import Wide.FinOn
import HandS.ForMost
import HandS.IsInst
import HandS.Zip
import HandS.StrMore
import HandS.Codes
import HandS.RaiseMore
import HandS.Lambda
import HandS.Exc
import HandS.ExcOwn
import HandS.CallSlots
import HandS.ExcCtx
import HandS.Defaults
import KE.KTryMore
import HandS.ExcIs
import HandS.HotCalls
import HandS.Words
import KE.KStateDown
import HandS.Head0
import HandS.Head1
import HandS.Head2
import HandS.HeadEnd
import HandS.EndTab
import HandS.HeadWalk
import HandS.HeadHook1
import HandS.HeadHook2
import HandS.HeadHook3
import HandS.HeadHook4
import PySem.Challenge.RW_loopcoats_k37_places_of_labels
set_option Elab.async false
set_option linter.all false
set_option maxRecDepth 100000
/-! PTa: values as trees, a small language, what its texts reckon. -/
namespace PT
open PySem

inductive Ty | list | tuple | int | str | bool | dict
deriving DecidableEq

/-- operations upon values -/
inductive Op where
  | add | sub | mul | fdiv | mod
  | eq | ne | lt | le | gt | ge | isN | notN | isIn | notIn
  | idx
  | slc (lo hi : Bool)
  | len | toStr | toInt | toList | toTup
  | isi (ts : List Ty)
  | strip
  | all
deriving DecidableEq

mutual
/-- a value as a tree -/
inductive D where
  | non
  | bl (b : Bool)
  | int (i : Int)
  | str (s : Str)
  | tup (xs : List D)
  | lst (xs : List D)
  | fn (i : Nat)
  | stm (cells : List Int) (a b c : Int)
  | clo (b : C) (vs : List D)
  | scr (cs : List Int)
inductive C where
  | bad
  | var (i : Nat)
  | con (d : D)
  | mkT (es : CL)
  | mkL (es : CL)
  | op (o : Op) (es : CL)
  | and (a b : C)
  | or (a b : C)
  | not (a : C)
  | ite (c a b : C)
  | chain (o p : Op) (a b c : C)
  | lc (own : List Nat) (tg : List Nat) (one : Bool) (it : IT) (cond : CL) (e : C)
  | call (f : Nat) (es : CL)
  | callL (f : Nat) (b : C) (caps : List Nat)
inductive CL where
  | nil
  | cons (c : C) (r : CL)
inductive IT where
  | val (c : C)
  | range (c : C)
  | zip (a b : C)
  | enum (a : C)
end


instance : Inhabited D := ⟨.non⟩
mutual
/-- no closure within -/
def D.noClo : D → Bool
  | .clo _ _ => false
  | .tup xs => D.noCloL xs
  | .lst xs => D.noCloL xs
  | _ => true
def D.noCloL : List D → Bool
  | [] => true
  | x :: xs => D.noClo x && D.noCloL xs
end

mutual
def D.beq : D → D → Bool
  | .non, .non => true
  | .bl a, .bl b => a == b
  | .bl a, .int j => (if a then (1 : Int) else 0) == j
  | .int i, .bl b => i == (if b then (1 : Int) else 0)
  | .int i, .int j => i == j
  | .str s, .str t => s == t
  | .tup xs, .tup ys => D.beqL xs ys
  | .lst xs, .lst ys => D.beqL xs ys
  | _, _ => false
def D.beqL : List D → List D → Bool
  | [], [] => true
  | x :: xs, y :: ys => D.beq x y && D.beqL xs ys
  | _, _ => false
end

mutual
/-- the tree as the library's data -/
def D.py : D → Option PyData
  | .non => some .none
  | .bl b => some (.bool b)
  | .int i => some (.int i)
  | .str s => some (.str s)
  | .tup xs => (D.pyL xs).map .tuple
  | .lst xs => (D.pyL xs).map .list
  | _ => none
def D.pyL : List D → Option (List PyData)
  | [] => some []
  | x :: xs => match D.py x with
    | some y => match D.pyL xs with
      | some ys => some (y :: ys)
      | none => none
    | none => none
end

mutual
inductive S where
  | bad
  | asg (i : Nat) (c : C)
  | ifs (c : C) (a b : SL)
  | whil (c : C) (b : SL)
  | forr (tg : List Nat) (one : Bool) (it : IT) (b : SL)
  | ret (c : C)
  | expr (c : C)
  | rais (x : Nat) (es : CL)
  | brk
  | cont
  | pass
inductive SL where
  | nil
  | cons (s : S) (r : SL)
end

structure Fn where
  n : Nat
  ps : Nat
  io : Option Nat
  body : SL

/-! ### states, results -/
abbrev Slots := List (Option (D × Bool))
structure Sta where
  e : Slots
  m : List Unit
inductive R (α : Type) where
  | ok (a : α) (s : Sta)
  | exc (x : Nat) (ds : List D) (s : Sta)
  | bad
inductive RS where
  | nx (s : Sta)
  | rt (d : D) (o : Bool) (s : Sta)
  | bk (s : Sta)
  | ct (s : Sta)
  | exc (x : Nat) (ds : List D) (s : Sta)
  | bad
/-- a call's end: the value, whether it is new, what the lent list holds -/
inductive RC where
  | ok (d : D) (o : Bool) (out : Option D) (m : List Unit)
  | exc (x : Nat) (ds : List D) (out : Option D) (m : List Unit)
  | bad
def R.bind {α β : Type} (r : R α) (f : α → Sta → R β) : R β := match r with
  | .ok a s => f a s
  | .exc x ds s => .exc x ds s
  | .bad => .bad
abbrev CallF := Nat → List (D × Bool) → List Unit → RC

/-! ### operations -/
def most : Nat := 1000000
def D.truth : D → Option Bool
  | .non => some false
  | .bl b => some b
  | .int i => some (i != 0)
  | .str s => if s.length ≤ most then some ((s.length : Int) != 0) else none
  | .tup xs => some (!xs.isEmpty)
  | .lst xs => some (!xs.isEmpty)
  | _ => none
def D.isNew : D → Bool
  | .lst _ => true
  | _ => false
def D.isTy : D → Ty → Option Bool
  | .non, _ => some false
  | .bl _, .bool => some true
  | .bl _, .int => some true
  | .bl _, _ => some false
  | .int _, .int => some true
  | .int _, _ => some false
  | .str _, .str => some true
  | .str _, _ => some false
  | .tup _, .tuple => some true
  | .tup _, _ => some false
  | .lst _, .list => some true
  | .lst _, _ => some false
  | _, _ => none
def D.isAny (d : D) : List Ty → Option Bool
  | [] => some false
  | t :: ts => match d.isTy t with
    | some true => some true
    | some false => d.isAny ts
    | none => none
/-- two trees that == may compare -/
def cmpOk (a b : D) : Bool := match a.py, b.py with
  | some x, some y => SeqAt.shaped x && SeqAt.shaped y
  | _, _ => false
def sign (c : Nat) : Str := ⟨#[c]⟩
def allT : List D → Option Bool
  | [] => some true
  | .bl b :: r => match allT r with
    | some c => some (b && c)
    | none => none
  | _ => none
def D.isNon : D → Bool
  | .non => true
  | _ => false
def opEv : Op → List D → Option D
  | .add, [.int i, .int j] => some (.int (i + j))
  | .add, [.str s, .str t] => if s.length + t.length ≤ most then some (.str (s ++ t)) else none
  | .add, [.lst xs, .lst ys] => if xs.length + ys.length ≤ most then some (.lst (xs ++ ys)) else none
  | .sub, [.int i, .int j] => some (.int (i - j))
  | .mul, [.int i, .int j] => if i.natAbs < 1000000000 then some (.int (i * j)) else none
  | .mul, [.lst xs, .int j] => if 0 ≤ j ∧ j.toNat ≤ most ∧ xs.length * j.toNat ≤ most then some (.lst ((List.replicate j.toNat xs).flatten)) else none
  | .fdiv, [.int i, .int j] => if 0 < j ∧ j < 1000000000 then some (.int (i / j)) else none
  | .mod, [.int i, .int j] => if 0 < j then some (.int (i % j)) else none
  | .eq, [a, b] => if cmpOk a b then some (.bl (D.beq a b)) else none
  | .ne, [a, b] => if cmpOk a b then some (.bl (!D.beq a b)) else none
  | .lt, [.int i, .int j] => some (.bl (decide (i < j)))
  | .le, [.int i, .int j] => some (.bl (decide (i ≤ j)))
  | .gt, [.int i, .int j] => some (.bl (decide (j < i)))
  | .ge, [.int i, .int j] => some (.bl (decide (j ≤ i)))
  | .isN, [a] => some (.bl a.isNon)
  | .notN, [a] => some (.bl (!a.isNon))
  | .isIn, [.str s, .str t] => if s.length = 1 then some (.bl (decide (s.cps.getD 0 0 ∈ t.cps.toList))) else none
  | .notIn, [.str s, .str t] => if s.length = 1 then some (.bl (!decide (s.cps.getD 0 0 ∈ t.cps.toList))) else none
  | .idx, [.str s, .int i] => if s.length ≤ most then (L2.atI s.cps.toList i).map fun c => .str (sign c) else none
  | .idx, [.tup xs, .int i] => L2.atI xs i
  | .idx, [.lst xs, .int i] => L2.atI xs i
  | .slc lo hi, .str s :: r => match lo, hi, r with
    | true, false, [.int i] => if s.length ≤ most then some (.str (L2.cutS s (some i) none)) else none
    | false, true, [.int i] => if s.length ≤ most then some (.str (L2.cutS s none (some i))) else none
    | true, true, [.int i, .int j] => if s.length ≤ most then some (.str (L2.cutS s (some i) (some j))) else none
    | _, _, _ => none
  | .len, [.str s] => if s.length ≤ most then some (.int s.length) else none
  | .len, [.tup xs] => some (.int xs.length)
  | .len, [.lst xs] => some (.int xs.length)
  | .toStr, [.int i] => if i.natAbs < 1000000000 then some (.str (Str.ofString (toString i))) else none
  | .toInt, [.str s] => if s.length ≤ 640 then (PySem.intText? s).map .int else none
  | .toList, [.lst xs] => some (.lst xs)
  | .toList, [.tup xs] => some (.lst xs)
  | .toList, [.str s] => if s.length ≤ most then some (.lst (s.cps.toList.map fun c => .str (sign c))) else none
  | .isi ts, [a] => (a.isAny ts).map .bl
  | .strip, [.str a, .str b] => if a.length ≤ most then some (.str (Txt.stripChars a b)) else none
  | .all, [.lst xs] => (allT xs).map .bl
  | _, _ => none

/-- a peeked operand: a slot's content as it stands when all operands have come, or a value -/
inductive Arg where
  | v (i : Nat)
  | d (x : D)
def slotD (e : Slots) (i : Nat) : Option D := match e[i]? with
  | some (some (d, _)) => some d
  | _ => none
def Arg.get (e : Slots) : Arg → Option D
  | .v i => slotD e i
  | .d x => some x
def getL (e : Slots) : List Arg → Option (List D)
  | [] => some []
  | p :: ps => match p.get e with
    | some d => match getL e ps with
      | some ds => some (d :: ds)
      | none => none
    | none => none
def wipeE (e : Slots) : List Nat → Slots
  | [] => e
  | i :: is => (wipeE e is).set i none
/-- the slots is, as they stood in e0 -/
def backE (e0 e : Slots) : List Nat → Slots
  | [] => e
  | i :: is => (backE e0 e is).set i (e0.getD i none)
def owned (e : Slots) (i : Nat) : Bool := match e[i]? with
  | some (some (_, true)) => true
  | _ => false
/-- an item to its targets -/
def assignT (tg : List Nat) (one : Bool) (d : D) (e : Slots) : Option Slots :=
  if one then match tg with
    | [i] => some (e.set i (some (d, false)))
    | _ => none
  else match d with
    | .tup ds => if ds.length = tg.length then some ((tg.zip ds).foldl (fun e p => e.set p.1 (some (p.2, false))) e) else none
    | _ => none
def itemsOf : D → Option (List D)
  | .lst xs => some xs
  | .tup xs => some xs
  | .str s => some (s.cps.toList.map fun c => .str (sign c))
  | _ => none
def rangeD (n : Nat) : List D := (List.range n).map fun i => .int (i : Nat)
def enumD (xs : List D) : List D := (List.range xs.length).zipWith (fun i x => .tup [.int (i : Nat), x]) xs
def zipD (xs ys : List D) : List D := List.zipWith (fun x y => .tup [x, y]) xs ys

/-! ### expressions -/
/-- in a test the truth alone is wanted -/
def fin (t : Bool) (r : R (D × Bool)) : R (D × Bool) := match t, r with
  | true, .ok (d, _) s => match d.truth with
    | some b => .ok (.bl b, false) s
    | none => .bad
  | _, r => r
/-- a truth value that has come -/
def asB : D → Option Bool
  | .bl b => some b
  | _ => none
def R.test {β : Type} (r : R (D × Bool)) (f : Bool → Sta → R β) : R β := match r with
  | .ok (d, _) s => match asB d with
    | some b => f b s
    | none => .bad
  | .exc x ds s => .exc x ds s
  | .bad => .bad
/-- the turns of a comprehension -/
def lcGo (own tg : List Nat) (one : Bool) (cond : Sta → R Bool) (e : Sta → R (D × Bool)) : List D → List D → Sta → R (List D)
  | [], acc, s => .ok acc s
  | d :: ds, acc, s => match assignT tg one d s.e with
    | none => .bad
    | some e1 => match cond { s with e := e1 } with
      | .ok true s2 => match e s2 with
        | .ok (y, _) s3 => if acc.length < most then lcGo own tg one cond e ds (acc ++ [y]) { s3 with e := wipeE s3.e own } else .bad
        | _ => .bad
      | .ok false s2 => lcGo own tg one cond e ds acc { s2 with e := wipeE s2.e own }
      | _ => .bad
/-- the arguments, the lent lists as they stand when all have come -/
def argsOf (e : Slots) : List (D ⊕ Nat) → Option (List (D × Bool))
  | [] => some []
  | .inl d :: r => match argsOf e r with
    | some ds => some ((d, false) :: ds)
    | none => none
  | .inr i :: r => match e[i]? with
    | some (some (d, true)) => match argsOf e r with
      | some ds => some ((d, true) :: ds)
      | none => none
    | _ => none
def lents : List (D ⊕ Nat) → List Nat
  | [] => []
  | .inl _ :: r => lents r
  | .inr i :: r => i :: lents r
/-- the lent list, as the call left it -/
def setOut (e : Slots) (ls : List Nat) (out : Option D) : Option Slots := match ls, out with
  | [], none => some e
  | [i], some d => some (e.set i (some (d, true)))
  | _, _ => none
/-- a lambda's captured names, read as values -/
def capsE (e : Slots) : List Nat → Option (List D × Slots)
  | [] => some ([], e)
  | i :: r => match e[i]? with
    | some (some (d, _)) => match capsE (e.set i (some (d, false))) r with
      | some (ds, e') => some (d :: ds, e')
      | none => none
    | _ => none
section
variable (call : CallF) (io : Nat → Option Nat)
mutual
/-- an expression: its value (t: as a test, its truth); whether it is a list just made -/
def evC : Bool → C → Sta → R (D × Bool)
  | _, .bad, _ => .bad
  | true, .var i, s => match slotD s.e i with
    | some d => match d.truth with
      | some b => .ok (.bl b, false) s
      | none => .bad
    | none => .bad
  | false, .var i, s => match s.e[i]? with
    | some (some (d, _)) => .ok (d, false) { s with e := s.e.set i (some (d, false)) }
    | _ => .bad
  | t, .con d, s => fin t (.ok (d, false) s)
  | t, .mkT es, s => fin t ((evV es s).bind fun ds s1 => if ds.length ≤ most then .ok (.tup ds, false) s1 else .bad)
  | t, .mkL es, s => fin t ((evV es s).bind fun ds s1 => if ds.length ≤ most then .ok (.lst ds, true) s1 else .bad)
  | t, .op o es, s => fin t ((evP es s).bind fun ps s1 => match getL s1.e ps with
    | some ds => match opEv o ds with
      | some d => .ok (d, d.isNew && decide (o ≠ .idx)) s1
      | none => .bad
    | none => .bad)
  | t, .and a b, s => (evC t a s).test fun x s1 => if x then evC t b s1 else .ok (.bl false, false) s1
  | t, .or a b, s => (evC t a s).test fun x s1 => if x then .ok (.bl true, false) s1 else evC t b s1
  | true, .not a, s => (evC true a s).test fun x s1 => .ok (.bl (!x), false) s1
  | false, .not a, s => (evC false a s).bind fun d s1 => match d.1.truth with
    | some b => .ok (.bl (!b), false) s1
    | none => .bad
  | t, .ite c a b, s => (evC true c s).test fun x s1 => if x then evC t a s1 else evC t b s1
  | t, .chain o p a b c, s => fin t ((evC false a s).bind fun x s1 => (evC false b s1).bind fun y s2 => match opEv o [x.1, y.1] with
    | some (.bl true) => (evC false c s2).bind fun z s3 => match opEv p [y.1, z.1] with
      | some (.bl b) => .ok (.bl b, false) s3
      | _ => .bad
    | some (.bl false) => .ok (.bl false, false) s2
    | _ => .bad)
  | t, .lc own tg one it cond e, s => if own.any (owned s.e) then .bad else
    fin t ((evI it s).bind fun ds s1 => if own.any (owned s1.e) then .bad else
      (lcGo own tg one (evA cond) (evC false e) ds [] { s1 with e := wipeE s1.e own }).bind fun ys s2 => .ok (.lst ys, true) { s2 with e := backE s1.e s2.e own })
  | t, .call f es, s => fin t ((evF (io f) 0 es s).bind fun as s1 => match argsOf s1.e as with
    | some ds => match call f ds s1.m with
      | .ok d o out m => match setOut s1.e (lents as) out with
        | some e => .ok (d, o) ⟨e, m⟩
        | none => .bad
      | .exc x ds out m => match setOut s1.e (lents as) out with
        | some e => .exc x ds ⟨e, m⟩
        | none => .bad
      | .bad => .bad
    | none => .bad)
  | t, .callL f b caps, s => fin t (match capsE s.e caps with
    | some (vs, e1) => match call f [(.clo b vs, false)] s.m with
      | .ok d o none m => if d.noClo then .ok (d, o) ⟨e1, m⟩ else .bad
      | .exc x ds none m => if D.noCloL ds then .exc x ds ⟨e1, m⟩ else .bad
      | _ => .bad
    | none => .bad)
/-- tests, all of them -/
def evA : CL → Sta → R Bool
  | .nil, s => .ok true s
  | .cons c r, s => (evC true c s).test fun x s1 => if x then evA r s1 else .ok false s1
/-- values -/
def evV : CL → Sta → R (List D)
  | .nil, s => .ok [] s
  | .cons c r, s => (evC false c s).bind fun d s1 => (evV r s1).bind fun ds s2 => .ok (d.1 :: ds) s2
/-- operands -/
def evP : CL → Sta → R (List Arg)
  | .nil, s => .ok [] s
  | .cons (.var i) r, s => match slotD s.e i with
    | some _ => (evP r s).bind fun ps s2 => .ok (.v i :: ps) s2
    | none => .bad
  | .cons c r, s => (evC false c s).bind fun d s1 => (evP r s1).bind fun ps s2 => .ok (.d d.1 :: ps) s2
/-- a call's arguments; the lent ones by the slot they come from -/
def evF (io : Option Nat) : Nat → CL → Sta → R (List (D ⊕ Nat))
  | _, .nil, s => .ok [] s
  | k, .cons c r, s =>
    if io = some k then match c with
      | .var i => match slotD s.e i with
        | some _ => (evF io (k + 1) r s).bind fun as s2 => .ok (.inr i :: as) s2
        | none => .bad
      | _ => .bad
    else (evC false c s).bind fun d s1 => (evF io (k + 1) r s1).bind fun as s2 => .ok (.inl d.1 :: as) s2
/-- what a for walks -/
def evI : IT → Sta → R (List D)
  | .val c, s => (evC false c s).bind fun d s1 => match itemsOf d.1 with
    | some ds => .ok ds s1
    | none => .bad
  | .range c, s => (evC false c s).bind fun d s1 => match d.1 with
    | .int n => if 0 ≤ n ∧ n ≤ most then .ok (rangeD n.toNat) s1 else .bad
    | _ => .bad
  | .zip a b, s => (evC false a s).bind fun x s1 => (evC false b s1).bind fun y s2 => match x.1, y.1 with
    | .lst xs, .lst ys => if xs.length = ys.length then .ok (zipD xs ys) s2 else .bad
    | .tup xs, .tup ys => if xs.length = ys.length then .ok (zipD xs ys) s2 else .bad
    | _, _ => .bad
  | .enum a, s => (evC false a s).bind fun x s1 => match x.1 with
    | .lst xs => .ok (enumD xs) s1
    | _ => .bad
end
end
section
variable (call : CallF) (io : Nat → Option Nat)
/-- one operand -/
def evP1 : C → Sta → R Arg
  | .var i, s => match slotD s.e i with
    | some _ => .ok (.v i) s
    | none => .bad
  | c, s => (evC call io false c s).bind fun d s1 => .ok (.d d.1) s1
theorem evP_cons (c : C) (r : CL) (s : Sta) : evP call io (.cons c r) s = (evP1 call io c s).bind fun p s1 => (evP call io r s1).bind fun ps s2 => .ok (p :: ps) s2 := by
  cases c
  case var i =>
    simp only [evP, evP1]
    cases slotD s.e i <;> rfl
  all_goals
    simp only [evP, evP1, R.bind]
    split <;> rfl
end
/-! ### statements -/
def whileN (cond : Sta → R (D × Bool)) (body : Sta → RS) : Nat → Sta → RS
  | 0, _ => .bad
  | n + 1, s => match cond s with
    | .ok (.bl true, _) s1 => match body s1 with
      | .nx s2 => whileN cond body n s2
      | .ct s2 => whileN cond body n s2
      | .bk s2 => .nx s2
      | r => r
    | .ok (.bl false, _) s1 => .nx s1
    | .exc x ds s1 => .exc x ds s1
    | _ => .bad
def forGo (tg : List Nat) (one : Bool) (body : Sta → RS) : List D → Sta → RS
  | [], s => .nx s
  | d :: ds, s => match assignT tg one d s.e with
    | none => .bad
    | some e1 => match body { s with e := e1 } with
      | .nx s2 => forGo tg one body ds s2
      | .ct s2 => forGo tg one body ds s2
      | .bk s2 => .nx s2
      | r => r
def R.st {α : Type} (r : R α) (f : α → Sta → RS) : RS := match r with
  | .ok a s => f a s
  | .exc x ds s => .exc x ds s
  | .bad => .bad
def turns : Nat := 1000000
section
variable (call : CallF) (io : Nat → Option Nat)
mutual
def evS : S → Sta → RS
  | .bad, _ => .bad
  | .asg i c, s => (evC call io false c s).st fun d s1 => .nx { s1 with e := s1.e.set i (some d) }
  | .ifs c a b, s => (evC call io true c s).st fun d s1 => match d.1 with
    | .bl true => evL a s1
    | .bl false => evL b s1
    | _ => .bad
  | .whil c b, s => whileN (evC call io true c) (evL b) turns s
  | .forr tg one it b, s => (evI call io it s).st fun ds s1 => forGo tg one (evL b) ds s1
  | .ret c, s => match c with
    | .var i => match s.e[i]? with
      | some (some (d, o)) => .rt d o { s with e := s.e.set i none }
      | _ => .bad
    | _ => (evC call io false c s).st fun d s1 => .rt d.1 d.2 s1
  | .expr c, s => (evC call io false c s).st fun _ s1 => .nx s1
  | .rais x es, s => (evV call io es s).st fun ds s1 => .exc x ds s1
  | .brk, s => .bk s
  | .cont, s => .ct s
  | .pass, s => .nx s
def evL : SL → Sta → RS
  | .nil, s => .nx s
  | .cons a r, s => match evS a s with
    | .nx s1 => evL r s1
    | x => x
end
end
/-! ### the text's defs -/
/-- the lent list at the end -/
def outOf (e : Slots) (io : Option Nat) : Option (Option D) := match io with
  | none => some none
  | some i => match e[i]? with
    | some (some (d, true)) => some (some d)
    | _ => none
def endOf (io : Option Nat) : RS → RC
  | .nx s => match outOf s.e io with
    | some o => .ok .non false o s.m
    | none => .bad
  | .rt d f s => match outOf s.e io with
    | some o => .ok d f o s.m
    | none => .bad
  | .exc x ds s => match outOf s.e io with
    | some o => .exc x ds o s.m
    | none => .bad
  | _ => .bad
/-- a closure is run -/
def runC (call : CallF) (io : Nat → Option Nat) (c : C) (vs : List D) (m : List Unit) : RC := match evC call io false c ⟨vs.map fun d => some (d, false), m⟩ with
  | .ok d s => .ok d.1 d.2 none s.m
  | .exc x ds s => .exc x ds none s.m
  | .bad => .bad
/-- defs that are not told by their text: by their number -/
structure Prog where
  fns : List Fn
  prim : Nat → Option (Option Nat × ((C → List D → List Unit → RC) → List (D × Bool) → List Unit → RC))
def Prog.io (p : Prog) (f : Nat) : Option Nat := match p.prim f with
  | some (io, _) => io
  | none => match p.fns[f]? with
    | some fn => fn.io
    | none => none
def startE (n : Nat) (as : List (D × Bool)) : Slots := as.map some ++ List.replicate (n - as.length) none
def Prog.call (p : Prog) : Nat → CallF
  | 0 => fun _ _ _ => .bad
  | k + 1 => fun f as m => match p.prim f with
    | some (_, g) => g (runC (p.call k) p.io) as m
    | none => match p.fns[f]? with
      | some fn => if as.length = fn.ps then endOf fn.io (evL (p.call k) p.io fn.body ⟨startE fn.n as, m⟩) else .bad
      | none => .bad
end PT

set_option Elab.async false
set_option linter.all false
set_option maxRecDepth 100000
set_option maxHeartbeats 4000000
/-! PTb: how trees stand in the abstract heap; who owns what. -/
namespace PT
open PySem L2 PySem.Spec PyProof.Rows

/-- whose a list is: a slot's, just made, or a caller's -/
inductive Wh where
  | s (i : Nat)
  | t
  | f
  | b
deriving DecidableEq
abbrev Ow := Addr → Option Wh
/-- a closure: which lambda, what it captured, its code object, its name -/
structure CloI where
  b : C
  us : List V
  c : Addr
  q : Str
/-- what the walk knows of the module: its written part, where its defs and its errors' classes stand -/
structure Glob where
  K : PySem.W.Frag
  fa : Nat → Option Addr
  ca : Nat → Option Addr
  xn : Nat → List Str
  T : List (Addr × Str)
  cl : Addr → Option CloI

mutual
/-- a tree in the written part -/
inductive KRep (K : PySem.W.Frag) : D → V → Prop
  | non : KRep K .non .non
  | bl (b : Bool) : KRep K (.bl b) (.bl b)
  | int (i : Int) : KRep K (.int i) (.int i)
  | str (x : Str) : KRep K (.str x) (.str x)
  | tup {ds : List D} {a : Addr} {vs : List V} : (∀ H, SqT K H a vs) → KRepL K ds vs → KRep K (.tup ds) (.ref a)
inductive KRepL (K : PySem.W.Frag) : List D → List V → Prop
  | nil : KRepL K [] []
  | cons {d : D} {v : V} {ds : List D} {vs : List V} : KRep K d v → KRepL K ds vs → KRepL K (d :: ds) (v :: vs)
end
/-- what is read stays -/
theorem rd_keep {H H' : Hp} {a : Addr} {u : HO} {P : Prop} (k : ∀ o, H a = some o → H' a = some o ∧ P) (r : Rd H a u) : P ∧ Rd H' a u := by
  rcases r with r | ⟨o, r⟩
  · exact ⟨(k _ r).2, .inl (k _ r).1⟩
  · exact ⟨(k _ r).2, .inr ⟨o, (k _ r).1⟩⟩
mutual
/-- a tree that nobody owns, in the abstract heap -/
inductive Rep (G : Glob) (W : Ow) (H : Hp) : D → V → Prop
  | con {d : D} {v : V} : KRep G.K d v → Rep G W H d v
  | fn {i : Nat} {a : Addr} : G.fa i = some a → Rep G W H (.fn i) (.ref a)
  | tup {ds : List D} {a : Addr} {vs : List V} : W a = none → H a = some (.tup vs) → RepL G W H ds vs → Rep G W H (.tup ds) (.ref a)
  | lst {ds : List D} {a : Addr} {vs : List V} : W a = none → H a = some (.lst vs) → RepL G W H ds vs → Rep G W H (.lst ds) (.ref a)
  | stm {cells : List Int} {x y z : Int} {a b : Addr} : W a = none → W b = none → a ≠ b → H a = some (.lst [.ref b, .int x, .int y, .int z]) → H b = some (.lst (cells.map V.int)) → Rep G W H (.stm cells x y z) (.ref a)
  | clo {f : Addr} {b : C} {us : List V} {c : Addr} {q : Str} {ds : List D} : G.cl f = some ⟨b, us, c, q⟩ → W c = none → H c = some (LamX.CodeO c q) → RepL G W H ds us → Rep G W H (.clo b ds) (.ref f)
  | scr {cs : List Int} {a : Addr} : W a = none → Rd H a (.lst (cs.map V.int)) → Rep G W H (.scr cs) (.ref a)
  | scrK {cs : List Int} {a : Addr} : (∀ H, SqL G.K H a (cs.map V.int)) → Rep G W H (.scr cs) (.ref a)
inductive RepL (G : Glob) (W : Ow) (H : Hp) : List D → List V → Prop
  | nil : RepL G W H [] []
  | cons {d : D} {v : V} {ds : List D} {vs : List V} : Rep G W H d v → RepL G W H ds vs → RepL G W H (d :: ds) (v :: vs)
end
section
variable {G : Glob} {W W' W'' : Ow} {H H' H'' : Hp}
theorem Rep.non : Rep G W H .non .non := .con .non
theorem Rep.bl (b : Bool) : Rep G W H (.bl b) (.bl b) := .con (.bl b)
theorem Rep.int (i : Int) : Rep G W H (.int i) (.int i) := .con (.int i)
theorem Rep.str (x : Str) : Rep G W H (.str x) (.str x) := .con (.str x)
theorem RepL.length : ∀ {ds : List D} {vs : List V}, RepL G W H ds vs → ds.length = vs.length
  | _, _, .nil => rfl
  | _, _, .cons _ t => by rw [List.length_cons, List.length_cons, RepL.length t]
theorem KRepL.length {K : PySem.W.Frag} : ∀ {ds : List D} {vs : List V}, KRepL K ds vs → ds.length = vs.length
  | _, _, .nil => rfl
  | _, _, .cons _ t => by rw [List.length_cons, List.length_cons, KRepL.length t]
theorem KRepL.rep : ∀ {ds : List D} {vs : List V}, KRepL G.K ds vs → RepL G W H ds vs
  | _, _, .nil => .nil
  | _, _, .cons r t => .cons (.con r) (KRepL.rep t)
theorem RepL.get : ∀ {ds : List D} {vs : List V} {i : Nat} {d : D}, RepL G W H ds vs → ds[i]? = some d → ∃ v, vs[i]? = some v ∧ Rep G W H d v
  | _, _, _, _, .nil, e => by simp at e
  | _, _, 0, _, .cons r _, e => by simp at e; subst e; exact ⟨_, rfl, r⟩
  | _, _, i + 1, _, .cons _ t, e => by
    obtain ⟨v, h1, h2⟩ := RepL.get (i := i) t (by simpa using e)
    exact ⟨v, by simpa using h1, h2⟩
theorem RepL.append : ∀ {ds es : List D} {vs ws : List V}, RepL G W H ds vs → RepL G W H es ws → RepL G W H (ds ++ es) (vs ++ ws)
  | _, _, _, _, .nil, s => s
  | _, _, _, _, .cons r t, s => .cons r (RepL.append t s)
theorem RepL.snoc {ds : List D} {vs : List V} {d : D} {v : V} (h : RepL G W H ds vs) (r : Rep G W H d v) : RepL G W H (ds ++ [d]) (vs ++ [v]) := h.append (.cons r .nil)
/-- a heap that keeps what nobody owns; an owner's list may be let go -/
structure Go (W : Ow) (H : Hp) (W' : Ow) (H' : Hp) : Prop where
  keep : ∀ a o, H a = some o → (W a = none ∨ W a = some .f) → H' a = some o
  dom : ∀ a, H a ≠ none → H' a ≠ none
  less : ∀ a, W a = none → H a ≠ none → W' a = none
  far : ∀ a, W a = some .f → H a ≠ none → W' a = some .f
  own : ∀ a o, W' a = some o → W a = some o ∨ H a = none
theorem Go.refl : Go W H W H := ⟨fun _ _ h _ => h, fun _ h => h, fun _ h _ => h, fun _ h _ => h, fun _ _ h => .inl h⟩
theorem none_of {α : Type} {x y : Option α} (h : x ≠ none → y ≠ none) (e : y = none) : x = none := by
  cases x with
  | none => rfl
  | some a => exact absurd e (h (fun z => nomatch z))
theorem Go.trans (a : Go W H W' H') (b : Go W' H' W'' H'') : Go W H W'' H'' where
  keep := fun x o h w => b.keep x o (a.keep x o h w) (w.elim (fun w => .inl (a.less x w (by rw [h]; exact fun z => nomatch z))) fun w => .inr (a.far x w (by rw [h]; exact fun z => nomatch z)))
  dom := fun x h => b.dom x (a.dom x h)
  less := fun x w h => b.less x (a.less x w h) (a.dom x h)
  far := fun x w h => b.far x (a.far x w h) (a.dom x h)
  own := fun x o h => by
    rcases b.own x o h with h | h
    · exact a.own x o h
    · exact .inr (none_of (a.dom x) h)
mutual
theorem Rep.mono (g : Go W H W' H') : ∀ {d : D} {v : V}, Rep G W H d v → Rep G W' H' d v
  | _, _, .con k => .con k
  | _, _, .fn e => .fn e
  | _, _, .tup w h r => .tup (g.less _ w (by rw [h]; exact fun z => nomatch z)) (g.keep _ _ h (.inl w)) (RepL.mono g r)
  | _, _, .lst w h r => .lst (g.less _ w (by rw [h]; exact fun z => nomatch z)) (g.keep _ _ h (.inl w)) (RepL.mono g r)
  | _, _, .stm w w' n h h' => .stm (g.less _ w (by rw [h]; exact fun z => nomatch z)) (g.less _ w' (by rw [h']; exact fun z => nomatch z)) n (g.keep _ _ h (.inl w)) (g.keep _ _ h' (.inl w'))
  | _, _, .clo e w h r => .clo e (g.less _ w (by rw [h]; exact fun z => nomatch z)) (g.keep _ _ h (.inl w)) (RepL.mono g r)
  | _, _, .scr w r => let z := rd_keep (fun o h => ⟨g.keep _ o h (.inl w), g.less _ w (by rw [h]; exact fun z => nomatch z)⟩) r; .scr z.1 z.2
  | _, _, .scrK r => .scrK r
theorem RepL.mono (g : Go W H W' H') : ∀ {ds : List D} {vs : List V}, RepL G W H ds vs → RepL G W' H' ds vs
  | _, _, .nil => .nil
  | _, _, .cons r t => .cons (Rep.mono g r) (RepL.mono g t)
end
/-- what the owner o holds -/
def OwnC (G : Glob) (W : Ow) (H : Hp) (o : Wh) : D → V → Prop
  | .lst ds, v => ∃ a vs, v = .ref a ∧ W a = some o ∧ H a = some (.lst vs) ∧ RepL G W H ds vs
  | .stm cells x y z, v => ∃ a b, v = .ref a ∧ a ≠ b ∧ W a = some o ∧ W b = some o ∧ H a = some (.lst [.ref b, .int x, .int y, .int z]) ∧ H b = some (.lst (cells.map V.int))
  | _, _ => False
/-- an owner's own list stays too -/
theorem OwnC.mono {o : Wh} {d : D} {v : V} (g : Go W H W' H') (k : ∀ a x, H a = some x → W a = some o → H' a = some x ∧ W' a = some o) (h : OwnC G W H o d v) : OwnC G W' H' o d v := by
  cases d with
  | lst ds =>
    obtain ⟨a, vs, e, w, hh, r⟩ := h
    exact ⟨a, vs, e, (k a _ hh w).2, (k a _ hh w).1, r.mono g⟩
  | stm cells x y z =>
    obtain ⟨a, b, e, n, w, w', h1, h2⟩ := h
    exact ⟨a, b, e, n, (k a _ h1 w).2, (k b _ h2 w').2, (k a _ h1 w).1, (k b _ h2 w').1⟩
  | _ => exact h.elim
/-- .. let go -/
theorem OwnC.rep {o : Wh} {d : D} {v : V} (g : Go W H W' H') (k : ∀ a x, H a = some x → W a = some o → H' a = some x ∧ W' a = none) (h : OwnC G W H o d v) : Rep G W' H' d v := by
  cases d with
  | lst ds =>
    obtain ⟨a, vs, rfl, w, hh, r⟩ := h
    exact .lst (k a _ hh w).2 (k a _ hh w).1 (r.mono g)
  | stm cells x y z =>
    obtain ⟨a, b, rfl, n, w, w', h1, h2⟩ := h
    exact .stm (k a _ h1 w).2 (k b _ h2 w').2 n (k a _ h1 w).1 (k b _ h2 w').1
  | _ => exact h.elim
/-- .. handed to another owner -/
theorem OwnC.hand {o p : Wh} {d : D} {v : V} (g : Go W H W' H') (k : ∀ a x, H a = some x → W a = some o → H' a = some x ∧ W' a = some p) (h : OwnC G W H o d v) : OwnC G W' H' p d v := by
  cases d with
  | lst ds =>
    obtain ⟨a, vs, rfl, w, hh, r⟩ := h
    exact ⟨a, vs, rfl, (k a _ hh w).2, (k a _ hh w).1, r.mono g⟩
  | stm cells x y z =>
    obtain ⟨a, b, rfl, n, w, w', h1, h2⟩ := h
    exact ⟨a, b, rfl, n, (k a _ h1 w).2, (k b _ h2 w').2, (k a _ h1 w).1, (k b _ h2 w').1⟩
  | _ => exact h.elim

mutual
/-- the same heap, another ownership -/
theorem Rep.monoW (f : ∀ a, W a = none → W' a = none) : ∀ {d : D} {v : V}, Rep G W H d v → Rep G W' H d v
  | _, _, .con k => .con k
  | _, _, .fn e => .fn e
  | _, _, .tup w h r => .tup (f _ w) h (RepL.monoW f r)
  | _, _, .lst w h r => .lst (f _ w) h (RepL.monoW f r)
  | _, _, .stm w w' n h h' => .stm (f _ w) (f _ w') n h h'
  | _, _, .clo e w h r => .clo e (f _ w) h (RepL.monoW f r)
  | _, _, .scr w r => .scr (f _ w) r
  | _, _, .scrK r => .scrK r
theorem RepL.monoW (f : ∀ a, W a = none → W' a = none) : ∀ {ds : List D} {vs : List V}, RepL G W H ds vs → RepL G W' H ds vs
  | _, _, .nil => .nil
  | _, _, .cons r t => .cons (Rep.monoW f r) (RepL.monoW f t)
end
theorem RepL.all {ds : List D} {vs : List V} (h : RepL G W H ds vs) (f : ∀ {d v}, Rep G W H d v → Rep G W' H' d v) : RepL G W' H' ds vs := by
  induction ds generalizing vs with
  | nil => cases h; exact .nil
  | cons d ds ih =>
    cases h with
    | cons r t => exact .cons (f r) (ih t)
theorem OwnC.handW {o p : Wh} {d : D} {v : V} (f : ∀ {d v}, Rep G W H d v → Rep G W' H d v) (k : ∀ a, W a = some o → W' a = some p) (h : OwnC G W H o d v) : OwnC G W' H p d v := by
  cases d with
  | lst ds =>
    obtain ⟨a, vs, rfl, w, hh, r⟩ := h
    exact ⟨a, vs, rfl, k a w, hh, r.all f⟩
  | stm cells x y z =>
    obtain ⟨a, b, rfl, n, w, w', h1, h2⟩ := h
    exact ⟨a, b, rfl, n, k a w, k b w', h1, h2⟩
  | _ => exact h.elim

/-- the tables of code objects: their own owner; the code objects nobody's -/
def Tab (G : Glob) (W : Ow) (H : Hp) : Prop := ∀ p ∈ G.T, W p.1 = some .b ∧ ∃ ps : Array Value, H p.1 = some (.tbl ps) ∧ TriplesOk ps.toList ∧ ∀ (pos : Pos) (cv : Value), codeAmong pos ps.toList = some cv → ∃ c, cv = .ref c ∧ H c = some (LamX.CodeO c p.2) ∧ W c = none
/-- owners whose lists stay as they are -/
def Wh.stays (o : Wh) : Prop := o ≠ .t ∧ o ≠ .f
theorem Tab.keep (n : ∀ a x, H a = some x → W a = none → H' a = some x ∧ W' a = none) (k : ∀ a x o, o.stays → H a = some x → W a = some o → H' a = some x ∧ W' a = some o) (t : Tab G W H) : Tab G W' H' := fun p hp => by
  obtain ⟨w, ps, h1, h2, h3⟩ := t p hp
  obtain ⟨a1, a2⟩ := k p.1 _ .b ⟨by simp, by simp⟩ h1 w
  refine ⟨a2, ps, a1, h2, fun pos cv hc => ?_⟩
  obtain ⟨c, e, b1, b2⟩ := h3 pos cv hc
  exact ⟨c, e, n c _ b1 b2⟩
theorem Tab.mono (g : Go W H W' H') (k : ∀ a x o, o.stays → H a = some x → W a = some o → H' a = some x ∧ W' a = some o) (t : Tab G W H) : Tab G W' H' :=
  t.keep (fun a x h w => ⟨g.keep a x h (.inl w), g.less a w (by rw [h]; exact fun z => nomatch z)⟩) k
/-- the same heap, another ownership -/
theorem Tab.monoW (n : ∀ a, W a = none → W' a = none) (k : ∀ a, W a = some .b → W' a = some .b) (t : Tab G W H) : Tab G W' H := fun p hp => by
  obtain ⟨w, ps, h1, h2, h3⟩ := t p hp
  refine ⟨k _ w, ps, h1, h2, fun pos cv hc => ?_⟩
  obtain ⟨c, e, b1, b2⟩ := h3 pos cv hc
  exact ⟨c, e, b1, n c b2⟩
/-- the slots -/
structure Sim (G : Glob) (W : Ow) (H : Hp) (s : Sta) (σ : L2.St) : Prop where
  len : s.e.length = σ.length
  slot : ∀ (i : Nat) (d : D), s.e[i]? = some (some (d, false)) → ∃ v, σ[i]? = some (some v) ∧ Rep G W H d v
  own : ∀ (i : Nat) (d : D), s.e[i]? = some (some (d, true)) → ∃ v, σ[i]? = some (some v) ∧ OwnC G W H (.s i) d v
  tab : Tab G W H
/-- nothing is just made -/
def NoT (W : Ow) : Prop := ∀ a, W a ≠ some .t
/-- a value that has come -/
def ValOk (G : Glob) (W : Ow) (H : Hp) (d : D) (o : Bool) (v : V) : Prop := if o = true then OwnC G W H .t d v else Rep G W H d v ∧ NoT W
/-- an expression's end -/
structure Res (G : Glob) (W : Ow) (H : Hp) (σ : L2.St) (s' : Sta) (d : D) (o : Bool) (v : V) (W' : Ow) (H' : Hp) : Prop where
  sim : Sim G W' H' s' σ
  go : Go W H W' H'
  val : ValOk G W' H' d o v
/-- an exception's -/
structure ResX (G : Glob) (W : Ow) (H : Hp) (σ : L2.St) (s' : Sta) (x : Nat) (ds : List D) (cls : Value) (dx : Addr) (W' : Ow) (H' : Hp) : Prop where
  sim : Sim G W' H' s' σ
  go : Go W H W' H'
  not : NoT W'
  cls : ∃ C, G.ca x = some C ∧ cls = .ref C
  val : ∃ vs, H' dx = some (.xd ((G.xn x).zip vs)) ∧ (G.xn x).length = vs.length ∧ RepL G W' H' ds vs
/-- another state of ownership and heap in which the slots' own lists are as they were -/
theorem Sim.mono {s : Sta} {σ : L2.St} (g : Go W H W' H') (k : ∀ a x o, o.stays → H a = some x → W a = some o → H' a = some x ∧ W' a = some o) (S : Sim G W H s σ) : Sim G W' H' s σ :=
  ⟨S.len, fun i d e => let ⟨v, h1, h2⟩ := S.slot i d e; ⟨v, h1, h2.mono g⟩, fun i d e => let ⟨v, h1, h2⟩ := S.own i d e; ⟨v, h1, h2.mono g fun a x hx hw => k a x (.s i) ⟨by simp, by simp⟩ hx hw⟩, S.tab.mono g k⟩
theorem Sim.get {s : Sta} {σ : L2.St} {i : Nat} {d : D} (S : Sim G W H s σ) (h : slotD s.e i = some d) : ∃ v, σ[i]? = some (some v) ∧ (Rep G W H d v ∨ OwnC G W H (.s i) d v) := by
  unfold slotD at h
  split at h
  · rename_i d' o e
    cases h
    cases o with
    | false => obtain ⟨v, h1, h2⟩ := S.slot i _ e; exact ⟨v, h1, .inl h2⟩
    | true => obtain ⟨v, h1, h2⟩ := S.own i _ e; exact ⟨v, h1, .inr h2⟩
  · cases h
/-- what was just made is let go -/
def dropT (W : Ow) : Ow := fun a => if W a = some .t then none else W a
theorem dropT_not (W : Ow) : NoT (dropT W) := fun a h => by
  unfold dropT at h
  split at h
  · cases h
  · contradiction
theorem Go.dropT (g : Go W H W' H') : Go W H (dropT W') H' := by
  refine ⟨g.keep, g.dom, fun a w h => ?_, fun a w h => ?_, fun a o h => ?_⟩
  · show (if W' a = some Wh.t then none else W' a) = none
    rw [g.less a w h]
    rfl
  · show (if W' a = some Wh.t then none else W' a) = some Wh.f
    rw [g.far a w h]
    rfl
  · have h' : (if W' a = some Wh.t then none else W' a) = some o := h
    by_cases e : W' a = some .t
    · rw [if_pos e] at h'; cases h'
    · rw [if_neg e] at h'; exact g.own a o h'
theorem Sim.dropT {s : Sta} {σ : L2.St} (S : Sim G W H s σ) : Sim G (dropT W) H s σ :=
  S.mono (Go.refl.dropT) fun a x o ho hx hw => ⟨hx, by show (if W a = some Wh.t then none else W a) = _; rw [hw, if_neg (by simpa using ho.1)]⟩
theorem ValOk.rep {d : D} {o : Bool} {v : V} (h : ValOk G W H d o v) : Rep G (dropT W) H d v := by
  unfold ValOk at h
  split at h
  · exact h.rep (Go.refl.dropT) fun a x hx hw => ⟨hx, by show (if W a = some Wh.t then none else W a) = _; rw [hw, if_pos rfl]⟩
  · exact h.1.mono (Go.refl.dropT)
/-- a slot's own list is let go -/
def dropS (i : Nat) (W : Ow) : Ow := fun a => if W a = some (.s i) then none else W a
theorem Go.dropS (i : Nat) (g : Go W H W' H') : Go W H (dropS i W') H' := by
  refine ⟨g.keep, g.dom, fun a w h => ?_, fun a w h => ?_, fun a o h => ?_⟩
  · show (if W' a = some (Wh.s i) then none else W' a) = none
    rw [g.less a w h]
    rfl
  · show (if W' a = some (Wh.s i) then none else W' a) = some Wh.f
    rw [g.far a w h, if_neg (by simp)]
  · have h' : (if W' a = some (Wh.s i) then none else W' a) = some o := h
    by_cases e : W' a = some (.s i)
    · rw [if_pos e] at h'; cases h'
    · rw [if_neg e] at h'; exact g.own a o h'
theorem dropS_not {i : Nat} (h : NoT W) : NoT (dropS i W) := fun a e => by
  unfold dropS at e
  split at e
  · cases e
  · exact h a e
/-- a slot is read as a value -/
theorem Sim.freeze {s : Sta} {σ : L2.St} {i : Nat} {d : D} {o : Bool} (S : Sim G W H s σ) (h : s.e[i]? = some (some (d, o))) :
    ∃ v, σ[i]? = some (some v) ∧ Rep G (dropS i W) H d v ∧ Sim G (dropS i W) H { s with e := s.e.set i (some (d, false)) } σ := by
  have g : Go W H (dropS i W) H := Go.refl.dropS i
  have hi : i < s.e.length := (List.getElem?_eq_some_iff.mp h).1
  have hv : ∃ v, σ[i]? = some (some v) ∧ Rep G (dropS i W) H d v := by
    cases o with
    | false => obtain ⟨v, h1, h2⟩ := S.slot i d h; exact ⟨v, h1, h2.mono g⟩
    | true =>
      obtain ⟨v, h1, h2⟩ := S.own i d h
      exact ⟨v, h1, h2.rep g fun a x hx hw => ⟨hx, by show (if W a = some (Wh.s i) then none else W a) = _; rw [hw, if_pos rfl]⟩⟩
  obtain ⟨v, h1, h2⟩ := hv
  refine ⟨v, h1, h2, ⟨by simpa using S.len, fun j d' e => ?_, fun j d' e => ?_, S.tab.monoW (fun a w => by show (if W a = some (Wh.s i) then none else W a) = none; rw [w]; rfl) fun a w => by show (if W a = some (Wh.s i) then none else W a) = _; rw [w, if_neg (by simp)]⟩⟩
  · by_cases hj : i = j
    · subst hj
      have e' : (s.e.set i (some (d, false)))[i]? = some (some (d', false)) := e
      rw [List.getElem?_set_self hi] at e'
      cases e'
      exact ⟨v, h1, h2⟩
    · have e' : (s.e.set i (some (d, false)))[j]? = some (some (d', false)) := e
      rw [List.getElem?_set_ne hj] at e'
      obtain ⟨w, q1, q2⟩ := S.slot j d' e'
      exact ⟨w, q1, q2.mono g⟩
  · by_cases hj : i = j
    · subst hj
      have e' : (s.e.set i (some (d, false)))[i]? = some (some (d', true)) := e
      rw [List.getElem?_set_self hi] at e'
      cases e'
    · have e' : (s.e.set i (some (d, false)))[j]? = some (some (d', true)) := e
      rw [List.getElem?_set_ne hj] at e'
      obtain ⟨w, q1, q2⟩ := S.own j d' e'
      exact ⟨w, q1, q2.mono g fun a x hx hw => ⟨hx, by show (if W a = some (Wh.s i) then none else W a) = _; rw [hw, if_neg (by intro z; cases z; exact hj rfl)]⟩⟩
/-- a slot is stored: what was just made is its own -/
def giveS (i : Nat) (W : Ow) : Ow := fun a => if W a = some .t then some (.s i) else if W a = some (.s i) then none else W a
theorem giveS_not {i : Nat} : NoT (giveS i W) := fun a e => by
  unfold giveS at e
  split at e
  · cases e
  · split at e
    · cases e
    · contradiction
theorem Sim.store {s : Sta} {σ : L2.St} {i : Nat} {d : D} {o : Bool} {v : V} (S : Sim G W H s σ) (hi : i < s.e.length) (h : ValOk G W H d o v) :
    Sim G (giveS i W) H { s with e := s.e.set i (some (d, o)) } (σ.set i (some v)) := by
  have hiσ : i < σ.length := by rw [← S.len]; exact hi
  have kj : ∀ j, i ≠ j → ∀ a x, H a = some x → W a = some (.s j) → H a = some x ∧ giveS i W a = some (.s j) := fun j hj a x hx hw => ⟨hx, by
    show (if W a = some Wh.t then some (Wh.s i) else if W a = some (Wh.s i) then none else W a) = _
    rw [hw, if_neg (by simp), if_neg (by intro z; cases z; exact hj rfl)]⟩
  -- the others stand: lists that nobody owns stay so
  have gr : ∀ {d v}, Rep G W H d v → Rep G (giveS i W) H d v := by
    have free : ∀ a, W a = none → giveS i W a = none := fun a w => by
      show (if W a = some Wh.t then some (Wh.s i) else if W a = some (Wh.s i) then none else W a) = none
      rw [w]; rfl
    exact fun {d v} r => r.monoW fun a w => free a w
  refine ⟨by simpa using S.len, fun j d' e => ?_, fun j d' e => ?_, S.tab.monoW (fun a w => by show (if W a = some Wh.t then some (Wh.s i) else if W a = some (Wh.s i) then none else W a) = none; rw [w]; rfl) fun a w => by show (if W a = some Wh.t then some (Wh.s i) else if W a = some (Wh.s i) then none else W a) = _; rw [w, if_neg (by simp), if_neg (by simp)]⟩
  · by_cases hj : i = j
    · subst hj
      have e' : (s.e.set i (some (d, o)))[i]? = some (some (d', false)) := e
      rw [List.getElem?_set_self hi] at e'
      cases e'
      refine ⟨v, List.getElem?_set_self hiσ, ?_⟩
      unfold ValOk at h
      rw [if_neg Bool.false_ne_true] at h
      exact gr h.1
    · have e' : (s.e.set i (some (d, o)))[j]? = some (some (d', false)) := e
      rw [List.getElem?_set_ne hj] at e'
      obtain ⟨w, q1, q2⟩ := S.slot j d' e'
      exact ⟨w, by rw [List.getElem?_set_ne hj]; exact q1, gr q2⟩
  · by_cases hj : i = j
    · subst hj
      have e' : (s.e.set i (some (d, o)))[i]? = some (some (d', true)) := e
      rw [List.getElem?_set_self hi] at e'
      cases e'
      refine ⟨v, List.getElem?_set_self hiσ, ?_⟩
      unfold ValOk at h
      rw [if_pos rfl] at h
      exact h.handW gr fun a hw => by
        show (if W a = some Wh.t then some (Wh.s i) else if W a = some (Wh.s i) then none else W a) = _
        rw [hw, if_pos rfl]
    · have e' : (s.e.set i (some (d, o)))[j]? = some (some (d', true)) := e
      rw [List.getElem?_set_ne hj] at e'
      obtain ⟨w, q1, q2⟩ := S.own j d' e'
      exact ⟨w, by rw [List.getElem?_set_ne hj]; exact q1, q2.handW gr fun a hw => by
        show (if W a = some Wh.t then some (Wh.s i) else if W a = some (Wh.s i) then none else W a) = _
        rw [hw, if_neg (by simp), if_neg (by intro z; cases z; exact hj rfl)]⟩
end
end PT

set_option Elab.async false
set_option linter.all false
set_option maxRecDepth 100000
set_option maxHeartbeats 4000000
/-! PTc: operations upon values, by the hand layer's rules. -/
namespace PT
open PySem L2 PySem.Spec PyProof.Rows

section
variable {G : Glob} {W W' : Ow} {H H' : Hp}
/-- an operand: a value, or what a slot holds -/
def Rep1 (G : Glob) (W : Ow) (H : Hp) (d : D) (v : V) : Prop := Rep G W H d v ∨ ∃ i, OwnC G W H (.s i) d v
theorem Rep1.of {d : D} {v : V} (h : Rep G W H d v) : Rep1 G W H d v := .inl h
theorem Rep1.int_ {i : Int} {v : V} (h : Rep1 G W H (.int i) v) : v = .int i := by
  rcases h with h | ⟨_, h⟩
  · cases h with
    | con k => cases k; rfl
  · exact h.elim
theorem Rep1.bl_ {b : Bool} {v : V} (h : Rep1 G W H (.bl b) v) : v = .bl b := by
  rcases h with h | ⟨_, h⟩
  · cases h with
    | con k => cases k; rfl
  · exact h.elim
theorem Rep1.str_ {x : Str} {v : V} (h : Rep1 G W H (.str x) v) : v = .str x := by
  rcases h with h | ⟨_, h⟩
  · cases h with
    | con k => cases k; rfl
  · exact h.elim
theorem Rep1.non_ {v : V} (h : Rep1 G W H .non v) : v = .non := by
  rcases h with h | ⟨_, h⟩
  · cases h with
    | con k => cases k; rfl
  · exact h.elim
theorem Rep1.lst_ {ds : List D} {v : V} (h : Rep1 G W H (.lst ds) v) : ∃ a vs, v = .ref a ∧ H a = some (.lst vs) ∧ RepL G W H ds vs := by
  rcases h with h | ⟨_, a, vs, h1, _, h2, h3⟩
  · cases h with
    | con k => cases k
    | lst w hh r => exact ⟨_, _, rfl, hh, r⟩
  · exact ⟨a, vs, h1, h2, h3⟩
theorem Rep1.tup_ {ds : List D} {v : V} (h : Rep1 G W H (.tup ds) v) : ∃ a vs, v = .ref a ∧ SqT G.K H a vs ∧ RepL G W H ds vs := by
  rcases h with h | ⟨_, h⟩
  · cases h with
    | con k => cases k with
      | tup q r => exact ⟨_, _, rfl, q H, r.rep⟩
    | tup w hh r => exact ⟨_, _, rfl, .inl (.inl hh), r⟩
  · exact h.elim
theorem Rep1.fn_ {i : Nat} {v : V} (h : Rep1 G W H (.fn i) v) : ∃ a, G.fa i = some a ∧ v = .ref a := by
  rcases h with h | ⟨_, h⟩
  · cases h with
    | con k => cases k
    | fn e => exact ⟨_, e, rfl⟩
  · exact h.elim
theorem Rep1.ref_ {d : D} {v : V} (h : Rep1 G W H d v) : (v = .non ↔ d = .non) := by
  rcases h with h | ⟨_, h⟩
  · cases h with
    | con k => cases k <;> simp
    | _ => simp
  · cases d with
    | lst ds => obtain ⟨a, vs, rfl, _⟩ := h; simp
    | stm cells x y z => obtain ⟨a, b, rfl, _⟩ := h; simp
    | _ => exact h.elim

/-- what an operation leaves -/
structure OpEnd (G : Glob) (W : Ow) (H : Hp) (d : D) (o : Bool) (v : V) (W' : Ow) (H' : Hp) : Prop where
  go : Go W H W' H'
  kp : ∀ a x o, o.stays → H a = some x → W a = some o → H' a = some x ∧ W' a = some o
  val : ValOk G W' H' d o v
theorem OpEnd.plain {d : D} {v : V} (n : NoT W) (r : Rep G W H d v) : OpEnd G W H d false v W H :=
  ⟨Go.refl, fun _ _ _ _ h w => ⟨h, w⟩, by unfold ValOk; rw [if_neg Bool.false_ne_true]; exact ⟨r, n⟩⟩
/-- a new list: its own -/
def newT (p : Addr) (W : Ow) : Ow := fun a => if a = p then some .t else W a
theorem OpEnd.newL {ds : List D} {vs : List V} {p : Addr} (hp : H p = none) (r : RepL G W H ds vs) : OpEnd G W H (.lst ds) true (.ref p) (newT p W) (upd H p (.lst vs)) := by
  have ne : ∀ a x, H a = some x → a ≠ p := fun a x h e => by rw [e, hp] at h; cases h
  have g : Go W H (newT p W) (upd H p (.lst vs)) := ⟨fun a x h _ => by rw [upd_ne (ne a x h)]; exact h, fun a h => by
      by_cases e : a = p
      · rw [e, upd_same]; exact fun z => nomatch z
      · rw [upd_ne e]; exact h, fun a w h => by
      have e : a ≠ p := fun e => h (by rw [e]; exact hp)
      show (if a = p then some Wh.t else W a) = none
      rw [if_neg e]; exact w, fun a w h => by
      have e : a ≠ p := fun e => h (by rw [e]; exact hp)
      show (if a = p then some Wh.t else W a) = some Wh.f
      rw [if_neg e]; exact w, fun a o h => by
      have h' : (if a = p then some Wh.t else W a) = some o := h
      by_cases e : a = p
      · exact .inr (by rw [e]; exact hp)
      · rw [if_neg e] at h'; exact .inl h'⟩
  refine ⟨g, fun a x i _ h w => ⟨by rw [upd_ne (ne a x h)]; exact h, by show (if a = p then some Wh.t else W a) = _; rw [if_neg (ne a x h)]; exact w⟩, ?_⟩
  unfold ValOk
  rw [if_pos rfl]
  exact ⟨p, vs, rfl, by show (if p = p then some Wh.t else W p) = _; rw [if_pos rfl], upd_same, r.mono g⟩
/-- a new tuple: nobody's. W p = none -/
def newN (p : Addr) (W : Ow) : Ow := fun a => if a = p then none else W a
theorem OpEnd.newT_ {ds : List D} {vs : List V} {p : Addr} (n : NoT W) (hp : H p = none) (r : RepL G W H ds vs) : OpEnd G W H (.tup ds) false (.ref p) (newN p W) (upd H p (.tup vs)) := by
  have ne : ∀ a x, H a = some x → a ≠ p := fun a x h e => by rw [e, hp] at h; cases h
  have g : Go W H (newN p W) (upd H p (.tup vs)) := ⟨fun a x h _ => by rw [upd_ne (ne a x h)]; exact h, fun a h => by
      by_cases e : a = p
      · rw [e, upd_same]; exact fun z => nomatch z
      · rw [upd_ne e]; exact h, fun a w h => by
      show (if a = p then none else W a) = none
      split
      · rfl
      · exact w, fun a w h => by
      have e : a ≠ p := fun e => h (by rw [e]; exact hp)
      show (if a = p then none else W a) = some Wh.f
      rw [if_neg e]; exact w, fun a o h => by
      have h' : (if a = p then none else W a) = some o := h
      by_cases e : a = p
      · rw [if_pos e] at h'; cases h'
      · rw [if_neg e] at h'; exact .inl h'⟩
  refine ⟨g, fun a x i _ h w => ⟨by rw [upd_ne (ne a x h)]; exact h, by show (if a = p then none else W a) = _; rw [if_neg (ne a x h)]; exact w⟩, ?_⟩
  unfold ValOk
  rw [if_neg Bool.false_ne_true]
  refine ⟨.tup (by show (if p = p then none else W p) = _; rw [if_pos rfl]) upd_same (r.mono g), fun a h => ?_⟩
  have h' : (if a = p then none else W a) = some Wh.t := h
  split at h'
  · cases h'
  · exact n a h'
/-- a new object of whatever kind -/
theorem go_new {o : HO} {p : Addr} (hp : H p = none) : Go W H (newN p W) (upd H p o) ∧ (∀ a x (i : Wh), i.stays → H a = some x → W a = some i → (upd H p o) a = some x ∧ newN p W a = some i) ∧ (NoT W → NoT (newN p W)) := by
  have ne : ∀ a x, H a = some x → a ≠ p := fun a x h e => by rw [e, hp] at h; cases h
  refine ⟨⟨fun a x h _ => by rw [upd_ne (ne a x h)]; exact h, fun a h => by
      by_cases e : a = p
      · rw [e, upd_same]; exact fun z => nomatch z
      · rw [upd_ne e]; exact h, fun a w h => by
      show (if a = p then none else W a) = none
      split
      · rfl
      · exact w, fun a w h => by
      have e : a ≠ p := fun e => h (by rw [e]; exact hp)
      show (if a = p then none else W a) = some Wh.f
      rw [if_neg e]; exact w, fun a o h => by
      have h' : (if a = p then none else W a) = some o := h
      by_cases e : a = p
      · rw [if_pos e] at h'; cases h'
      · rw [if_neg e] at h'; exact .inl h'⟩, fun a x i _ h w => ⟨by rw [upd_ne (ne a x h)]; exact h, by show (if a = p then none else W a) = _; rw [if_neg (ne a x h)]; exact w⟩, fun n a h => ?_⟩
  have h' : (if a = p then none else W a) = some Wh.t := h
  split at h'
  · cases h'
  · exact n a h'
inductive Rep1L (G : Glob) (W : Ow) (H : Hp) : List D → List V → Prop
  | nil : Rep1L G W H [] []
  | cons {d : D} {v : V} {ds : List D} {vs : List V} : Rep1 G W H d v → Rep1L G W H ds vs → Rep1L G W H (d :: ds) (v :: vs)
def newOf (o : Op) (d : D) : Bool := d.isNew && decide (o ≠ .idx)
/-- what an operation reckons -/
def rOp (G : Glob) (o : Op) : List V → Hp → VK → Prop := fun vs H Q => ∃ W ds d, NoT W ∧ Rep1L G W H ds vs ∧ opEv o ds = some d ∧ ∀ v W' H', OpEnd G W H d (newOf o d) v W' H' → Q v H'
def rOp2 (G : Glob) (o : Op) : R2 := fun x y H Q => rOp G o [x, y] H Q
theorem Rep1L.one {ds : List D} {x : V} (h : Rep1L G W H ds [x]) : ∃ d, ds = [d] ∧ Rep1 G W H d x := by
  cases h with
  | cons r t => cases t; exact ⟨_, rfl, r⟩
theorem Rep1L.two {ds : List D} {x y : V} (h : Rep1L G W H ds [x, y]) : ∃ d e, ds = [d, e] ∧ Rep1 G W H d x ∧ Rep1 G W H e y := by
  cases h with
  | cons r t => cases t with
    | cons r' t' => cases t'; exact ⟨_, _, rfl, r, r'⟩
theorem line_most : most ≤ sizeLine := by rw [sizeLine_eq]; decide
end
section
variable {X : Cx} {G : Glob} (hK : X.K = G.K)
theorem opR_imp {f : Value → Value → Sem Value} {r r' : R2} (h : OpR X f r) (i : ∀ x y H Q, r' x y H Q → r x y H Q) : OpR X f r' :=
  fun pins s σ H x y v u Q I rx ry q => h pins s σ H x y v u Q I rx ry (i x y H Q q)
theorem callR_imp {f : Value} {r r' : List V → Hp → VK → Prop} (h : CallR X f r) (i : ∀ vs H Q, r' vs H Q → r vs H Q) : CallR X f r' :=
  fun pins s σ H vs us Q I rv q => h pins s σ H vs us Q I rv (i vs H Q q)
theorem ixR_imp {r r' : R2} (h : IxR X r) (i : ∀ x y H Q, r' x y H Q → r x y H Q) : IxR X r' :=
  fun value slice pins s σ H x y v u Q I rx ry q hs => h value slice pins s σ H x y v u Q I rx ry (i x y H Q q) hs
theorem plainV {W : Ow} {H : Hp} {d : D} {v : V} {Q : VK} {o : Op} (n : NoT W) (hn : newOf o d = false) (r : Rep G W H d v) (q : ∀ v W' H', OpEnd G W H d (newOf o d) v W' H' → Q v H') : Q v H :=
  q v W H (by rw [hn]; exact OpEnd.plain n r)
theorem op_add_ : OpR X (binaryOp .Add) (rOp2 G .add) := by
  refine opR_imp (op_add.or (op_add_str.or op_cat)) fun x y H Q h => ?_
  obtain ⟨W, ds, d, n, r, e, q⟩ := h
  obtain ⟨a, b, rfl, ra, rb⟩ := r.two
  cases a <;> cases b <;> simp only [opEv] at e <;> try contradiction
  · cases e
    exact .inl ⟨_, _, ra.int_, rb.int_, plainV n rfl (.int _) q⟩
  · split at e
    · cases e
      rename_i hl
      exact .inr (.inl ⟨_, _, ra.str_, rb.str_, Nat.le_trans hl line_most, plainV n rfl (.str _) q⟩)
    · cases e
  · split at e
    · cases e
      rename_i hl
      obtain ⟨l, xs, e1, h1, r1⟩ := ra.lst_
      obtain ⟨m, ys, e2, h2, r2⟩ := rb.lst_
      refine .inr (.inr ⟨l, m, xs, ys, e1, e2, h1, h2, by rw [← r1.length, ← r2.length]; exact Nat.le_trans hl line_most, fun p hp => ?_⟩)
      exact q _ _ _ (OpEnd.newL hp (r1.append r2))
    · cases e
theorem op_sub_ : OpR X (binaryOp .Sub) (rOp2 G .sub) := by
  refine opR_imp op_sub fun x y H Q h => ?_
  obtain ⟨W, ds, d, n, r, e, q⟩ := h
  obtain ⟨a, b, rfl, ra, rb⟩ := r.two
  cases a <;> cases b <;> simp only [opEv] at e <;> try contradiction
  cases e
  exact ⟨_, _, ra.int_, rb.int_, plainV n rfl (.int _) q⟩
theorem RepL.rep_flat {W : Ow} {H : Hp} {ds : List D} {vs : List V} (r : RepL G W H ds vs) : ∀ k : Nat, RepL G W H (List.replicate k ds).flatten (List.replicate k vs).flatten
  | 0 => .nil
  | k + 1 => by rw [List.replicate_succ, List.replicate_succ, List.flatten_cons, List.flatten_cons]; exact r.append (RepL.rep_flat r k)
theorem op_mul_ : OpR X (binaryOp .Mult) (rOp2 G .mul) := by
  refine opR_imp (op_mul.or op_rep) fun x y H Q h => ?_
  obtain ⟨W, ds, d, n, r, e, q⟩ := h
  obtain ⟨a, b, rfl, ra, rb⟩ := r.two
  cases a <;> cases b <;> simp only [opEv] at e <;> try contradiction
  · split at e
    · cases e
      rename_i hl
      exact .inl ⟨_, _, ra.int_, rb.int_, .inl (by constructor <;> omega), plainV n rfl (.int _) q⟩
    · cases e
  · split at e
    · cases e
      rename_i xs j hl
      obtain ⟨h0, hj, hl⟩ := hl
      obtain ⟨l, vs, e1, h1, r1⟩ := ra.lst_
      exact .inr ⟨l, j, vs, e1, rb.int_, h1, by omega, by unfold most at hj; omega, by rw [← r1.length]; exact Nat.le_trans hl line_most, fun p hp => q _ _ _ (OpEnd.newL hp (RepL.rep_flat r1 _))⟩
    · cases e
theorem op_fdiv_ : OpR X (binaryOp .FloorDiv) (rOp2 G .fdiv) := by
  refine opR_imp op_fdiv fun x y H Q h => ?_
  obtain ⟨W, ds, d, n, r, e, q⟩ := h
  obtain ⟨a, b, rfl, ra, rb⟩ := r.two
  cases a <;> cases b <;> simp only [opEv] at e <;> try contradiction
  split at e
  · cases e
    rename_i hl
    exact ⟨_, _, ra.int_, rb.int_, ⟨hl.1, by omega⟩, plainV n rfl (.int _) q⟩
  · cases e
theorem op_mod_ : OpR X (binaryOp .Mod) (rOp2 G .mod) := by
  refine opR_imp op_mod fun x y H Q h => ?_
  obtain ⟨W, ds, d, n, r, e, q⟩ := h
  obtain ⟨a, b, rfl, ra, rb⟩ := r.two
  cases a <;> cases b <;> simp only [opEv] at e <;> try contradiction
  split at e
  · cases e
    rename_i hl
    exact ⟨_, _, ra.int_, rb.int_, hl, plainV n rfl (.int _) q⟩
  · cases e
/-! ### comparisons -/
mutual
theorem KRep.dp {K : PySem.W.Frag} {H : Hp} : ∀ {d : D} {v : V} {p : PyData}, KRep K d v → d.py = some p → Dp K H v p
  | _, _, _, .non, e => by simp only [D.py] at e; cases e; exact .non
  | _, _, _, .bl b, e => by simp only [D.py] at e; cases e; exact .bl b
  | _, _, _, .int b, e => by simp only [D.py] at e; cases e; exact .int b
  | _, _, _, .str b, e => by simp only [D.py] at e; cases e; exact .str b
  | _, _, _, .tup q r, e => by
    simp only [D.py, Option.map_eq_some_iff] at e
    obtain ⟨ps, e1, rfl⟩ := e
    exact .tup (q H) (KRepL.dp r e1)
theorem KRepL.dp {K : PySem.W.Frag} {H : Hp} : ∀ {ds : List D} {vs : List V} {ps : List PyData}, KRepL K ds vs → D.pyL ds = some ps → DpAll K H vs ps
  | _, _, _, .nil, e => by simp only [D.pyL] at e; cases e; exact .nil
  | _, _, _, .cons r t, e => by
    simp only [D.pyL] at e
    split at e
    · rename_i y hy
      split at e
      · rename_i ys hys
        cases e
        exact .cons (KRep.dp r hy) (KRepL.dp t hys)
      · cases e
    · cases e
end
mutual
theorem Rep.dp {W : Ow} {H : Hp} : ∀ {d : D} {v : V} {p : PyData}, Rep G W H d v → d.py = some p → Dp G.K H v p
  | _, _, _, .con k, e => k.dp e
  | _, _, _, .fn _, e => by simp only [D.py] at e; cases e
  | _, _, _, .tup _ h r, e => by
    simp only [D.py, Option.map_eq_some_iff] at e
    obtain ⟨ps, e1, rfl⟩ := e
    exact .tup (.inl (.inl h)) (RepL.dp r e1)
  | _, _, _, .lst _ h r, e => by
    simp only [D.py, Option.map_eq_some_iff] at e
    obtain ⟨ps, e1, rfl⟩ := e
    exact .lst (.inl (.inl h)) (RepL.dp r e1)
  | _, _, _, .stm _ _ _ _ _, e => by simp only [D.py] at e; cases e
  | _, _, _, .clo _ _ _ _, e => by simp only [D.py] at e; cases e
  | _, _, _, .scr _ _, e => by simp only [D.py] at e; cases e
  | _, _, _, .scrK _, e => by simp only [D.py] at e; cases e
theorem RepL.dp {W : Ow} {H : Hp} : ∀ {ds : List D} {vs : List V} {ps : List PyData}, RepL G W H ds vs → D.pyL ds = some ps → DpAll G.K H vs ps
  | _, _, _, .nil, e => by simp only [D.pyL] at e; cases e; exact .nil
  | _, _, _, .cons r t, e => by
    simp only [D.pyL] at e
    split at e
    · rename_i y hy
      split at e
      · rename_i ys hys
        cases e
        exact .cons (Rep.dp r hy) (RepL.dp t hys)
      · cases e
    · cases e
end
theorem Rep1.dp {W : Ow} {H : Hp} {d : D} {v : V} {p : PyData} (r : Rep1 G W H d v) (e : d.py = some p) : Dp G.K H v p := by
  rcases r with r | ⟨i, r⟩
  · exact r.dp e
  · cases d with
    | lst ds =>
      obtain ⟨a, vs, rfl, _, h, r⟩ := r
      simp only [D.py, Option.map_eq_some_iff] at e
      obtain ⟨ps, e1, rfl⟩ := e
      exact .lst (.inl (.inl h)) (r.dp e1)
    | stm cells x y z => simp only [D.py] at e; cases e
    | _ => exact r.elim
mutual
theorem beq_py : ∀ (a b : D) (p q : PyData), a.py = some p → b.py = some q → D.beq a b = PyData.eqv p q
  | .non, b, p, q, ea, eb => by
    simp only [D.py] at ea; cases ea
    cases b <;> simp only [D.py, Option.map_eq_some_iff] at eb
    case tup => obtain ⟨_, _, rfl⟩ := eb; simp [D.beq, PyData.eqv]
    case lst => obtain ⟨_, _, rfl⟩ := eb; simp [D.beq, PyData.eqv]
    all_goals (cases eb; try simp [D.beq, PyData.eqv])
  | .bl x, b, p, q, ea, eb => by
    simp only [D.py] at ea; cases ea
    cases b <;> simp only [D.py, Option.map_eq_some_iff] at eb
    case tup => obtain ⟨_, _, rfl⟩ := eb; simp [D.beq, PyData.eqv]
    case lst => obtain ⟨_, _, rfl⟩ := eb; simp [D.beq, PyData.eqv]
    all_goals (cases eb; try simp [D.beq, PyData.eqv])
  | .int x, b, p, q, ea, eb => by
    simp only [D.py] at ea; cases ea
    cases b <;> simp only [D.py, Option.map_eq_some_iff] at eb
    case tup => obtain ⟨_, _, rfl⟩ := eb; simp [D.beq, PyData.eqv]
    case lst => obtain ⟨_, _, rfl⟩ := eb; simp [D.beq, PyData.eqv]
    all_goals (cases eb; try simp [D.beq, PyData.eqv])
  | .str x, b, p, q, ea, eb => by
    simp only [D.py] at ea; cases ea
    cases b <;> simp only [D.py, Option.map_eq_some_iff] at eb
    case tup => obtain ⟨_, _, rfl⟩ := eb; simp [D.beq, PyData.eqv]
    case lst => obtain ⟨_, _, rfl⟩ := eb; simp [D.beq, PyData.eqv]
    all_goals (cases eb; try simp [D.beq, PyData.eqv])
  | .tup xs, b, p, q, ea, eb => by
    simp only [D.py, Option.map_eq_some_iff] at ea
    obtain ⟨ps, ha, rfl⟩ := ea
    cases b <;> simp only [D.py, Option.map_eq_some_iff] at eb
    case tup ys =>
      obtain ⟨qs, hb, rfl⟩ := eb
      simp only [D.beq, PyData.eqv]
      exact beqL_py xs ys ps qs ha hb
    case lst => obtain ⟨_, _, rfl⟩ := eb; simp [D.beq, PyData.eqv]
    all_goals (cases eb; try simp [D.beq, PyData.eqv])
  | .lst xs, b, p, q, ea, eb => by
    simp only [D.py, Option.map_eq_some_iff] at ea
    obtain ⟨ps, ha, rfl⟩ := ea
    cases b <;> simp only [D.py, Option.map_eq_some_iff] at eb
    case lst ys =>
      obtain ⟨qs, hb, rfl⟩ := eb
      simp only [D.beq, PyData.eqv]
      exact beqL_py xs ys ps qs ha hb
    case tup => obtain ⟨_, _, rfl⟩ := eb; simp [D.beq, PyData.eqv]
    all_goals (cases eb; try simp [D.beq, PyData.eqv])
  | .fn _, _, _, _, ea, _ => by simp only [D.py] at ea; cases ea
  | .stm _ _ _ _, _, _, _, ea, _ => by simp only [D.py] at ea; cases ea
  | .clo _ _, _, _, _, ea, _ => by simp only [D.py] at ea; cases ea
  | .scr _, _, _, _, ea, _ => by simp only [D.py] at ea; cases ea
theorem beqL_py : ∀ (xs ys : List D) (ps qs : List PyData), D.pyL xs = some ps → D.pyL ys = some qs → D.beqL xs ys = PyData.eqvAll ps qs
  | [], ys, ps, qs, ha, hb => by
    simp only [D.pyL] at ha; cases ha
    cases ys with
    | nil => simp only [D.pyL] at hb; cases hb; simp [D.beqL, PyData.eqvAll]
    | cons y ys =>
      simp only [D.pyL] at hb
      split at hb
      · split at hb
        · cases hb; simp [D.beqL, PyData.eqvAll]
        · cases hb
      · cases hb
  | x :: xs, ys, ps, qs, ha, hb => by
    simp only [D.pyL] at ha
    split at ha
    · rename_i p hp
      split at ha
      · rename_i ps' hps
        cases ha
        cases ys with
        | nil => simp only [D.pyL] at hb; cases hb; simp [D.beqL, PyData.eqvAll]
        | cons y ys =>
          simp only [D.pyL] at hb
          split at hb
          · rename_i q hq
            split at hb
            · rename_i qs' hqs
              cases hb
              simp only [D.beqL, PyData.eqvAll]
              rw [beq_py x y p q hp hq, beqL_py xs ys ps' qs' hps hqs]
            · cases hb
          · cases hb
      · cases ha
    · cases ha
end
theorem cmpOk_ {a b : D} (h : cmpOk a b = true) : ∃ p q, a.py = some p ∧ b.py = some q ∧ SeqAt.shaped p = true ∧ SeqAt.shaped q = true := by
  unfold cmpOk at h
  split at h
  · rename_i p q hp hq
    rw [Bool.and_eq_true] at h
    exact ⟨p, q, hp, hq, h.1, h.2⟩
  · cases h
theorem op_eq_ (hK : X.K = G.K) (hu : X.A.units + 64 < cLine) : OpR X (compareOp .Eq) (rOp2 G .eq) := by
  refine opR_imp (op_eqD hu) fun x y H Q h => ?_
  obtain ⟨W, ds, d, n, r, e, q⟩ := h
  obtain ⟨a, b, rfl, ra, rb⟩ := r.two
  simp only [opEv] at e
  split at e
  · rename_i hc
    cases e
    obtain ⟨p, p', ea, eb, s1, s2⟩ := cmpOk_ hc
    refine ⟨p, p', by rw [hK]; exact ra.dp ea, by rw [hK]; exact rb.dp eb, s1, s2, ?_⟩
    rw [← beq_py a b p p' ea eb]
    exact plainV n rfl (.bl _) q
  · cases e
theorem op_ne_ (hK : X.K = G.K) (hu : X.A.units + 64 < cLine) : OpR X (compareOp .NotEq) (rOp2 G .ne) := by
  refine opR_imp (op_neD hu) fun x y H Q h => ?_
  obtain ⟨W, ds, d, n, r, e, q⟩ := h
  obtain ⟨a, b, rfl, ra, rb⟩ := r.two
  simp only [opEv] at e
  split at e
  · rename_i hc
    cases e
    obtain ⟨p, p', ea, eb, s1, s2⟩ := cmpOk_ hc
    refine ⟨p, p', by rw [hK]; exact ra.dp ea, by rw [hK]; exact rb.dp eb, s1, s2, ?_⟩
    rw [← beq_py a b p p' ea eb]
    exact plainV n rfl (.bl _) q
  · cases e
theorem op_lt_ : OpR X (compareOp .Lt) (rOp2 G .lt) := by
  refine opR_imp op_lt fun x y H Q h => ?_
  obtain ⟨W, ds, d, n, r, e, q⟩ := h
  obtain ⟨a, b, rfl, ra, rb⟩ := r.two
  cases a <;> cases b <;> simp only [opEv] at e <;> try contradiction
  cases e
  exact ⟨_, _, ra.int_, rb.int_, plainV n rfl (.bl _) q⟩
theorem op_le_ : OpR X (compareOp .LtE) (rOp2 G .le) := by
  refine opR_imp op_le fun x y H Q h => ?_
  obtain ⟨W, ds, d, n, r, e, q⟩ := h
  obtain ⟨a, b, rfl, ra, rb⟩ := r.two
  cases a <;> cases b <;> simp only [opEv] at e <;> try contradiction
  cases e
  exact ⟨_, _, ra.int_, rb.int_, plainV n rfl (.bl _) q⟩
theorem op_gt_ : OpR X (compareOp .Gt) (rOp2 G .gt) := by
  refine opR_imp op_gt fun x y H Q h => ?_
  obtain ⟨W, ds, d, n, r, e, q⟩ := h
  obtain ⟨a, b, rfl, ra, rb⟩ := r.two
  cases a <;> cases b <;> simp only [opEv] at e <;> try contradiction
  cases e
  exact ⟨_, _, ra.int_, rb.int_, plainV n rfl (.bl _) q⟩
theorem op_ge_ : OpR X (compareOp .GtE) (rOp2 G .ge) := by
  refine opR_imp op_ge fun x y H Q h => ?_
  obtain ⟨W, ds, d, n, r, e, q⟩ := h
  obtain ⟨a, b, rfl, ra, rb⟩ := r.two
  cases a <;> cases b <;> simp only [opEv] at e <;> try contradiction
  cases e
  exact ⟨_, _, ra.int_, rb.int_, plainV n rfl (.bl _) q⟩
theorem len1 {s : Str} (h : s.length = 1) : s = ⟨#[s.cps.getD 0 0]⟩ := by
  obtain ⟨⟨l⟩⟩ := s
  match l, h with
  | [c], _ => rfl
theorem op_in_ : OpR X (compareOp .In) (rOp2 G .isIn) := by
  refine opR_imp op_in_sign fun x y H Q h => ?_
  obtain ⟨W, ds, d, n, r, e, q⟩ := h
  obtain ⟨a, b, rfl, ra, rb⟩ := r.two
  cases a <;> cases b <;> simp only [opEv] at e <;> try contradiction
  split at e
  · rename_i hl
    cases e
    exact ⟨_, _, by rw [ra.str_]; exact congrArg V.str (len1 hl), rb.str_, plainV n rfl (.bl _) q⟩
  · cases e
theorem op_notIn_ : OpR X (compareOp .NotIn) (rOp2 G .notIn) := by
  refine opR_imp op_notIn_sign fun x y H Q h => ?_
  obtain ⟨W, ds, d, n, r, e, q⟩ := h
  obtain ⟨a, b, rfl, ra, rb⟩ := r.two
  cases a <;> cases b <;> simp only [opEv] at e <;> try contradiction
  split at e
  · rename_i hl
    cases e
    exact ⟨_, _, by rw [ra.str_]; exact congrArg V.str (len1 hl), rb.str_, plainV n rfl (.bl _) q⟩
  · cases e
/-! ### subscripts -/
theorem RepL.atI {W : Ow} {H : Hp} {ds : List D} {vs : List V} {i : Int} {d : D} (r : RepL G W H ds vs) (e : L2.atI ds i = some d) : ∃ v, L2.atI vs i = some v ∧ Rep G W H d v := by
  unfold L2.atI at e ⊢
  rw [← r.length]
  cases h : ixN ds.length i with
  | none => rw [h] at e; cases e
  | some j =>
    rw [h] at e
    obtain ⟨v, h1, h2⟩ := r.get (show ds[j]? = some d from e)
    exact ⟨v, h1, h2⟩
theorem ix_ (hK : X.K = G.K) : IxR X (rOp2 G .idx) := by
  refine ixR_imp ix_seq fun x y H Q h => ?_
  obtain ⟨W, ds, d, n, r, e, q⟩ := h
  obtain ⟨a, b, rfl, ra, rb⟩ := r.two
  cases a <;> cases b <;> simp only [opEv] at e <;> try contradiction
  · split at e
    · rename_i s i hl
      rw [Option.map_eq_some_iff] at e
      obtain ⟨c, e1, rfl⟩ := e
      exact .inr (.inr ⟨_, _, c, ra.str_, rb.int_, Nat.le_trans hl line_most, e1, plainV n rfl (.str _) q⟩)
    · cases e
  · obtain ⟨l, vs, e1, h1, r1⟩ := ra.tup_
    obtain ⟨v, e2, r2⟩ := r1.atI e
    exact .inr (.inl ⟨l, vs, _, v, e1, rb.int_, by rw [hK]; exact h1, e2, plainV n (by simp [newOf]) r2 q⟩)
  · obtain ⟨l, vs, e1, h1, r1⟩ := ra.lst_
    obtain ⟨v, e2, r2⟩ := r1.atI e
    exact .inl ⟨l, vs, _, v, e1, rb.int_, .inl (.inl h1), e2, plainV n (by simp [newOf]) r2 q⟩
/-! ### calls -/
theorem Rep1L.nil_inv {W : Ow} {H : Hp} {vs : List V} (h : Rep1L G W H [] vs) : vs = [] := by cases h; rfl
theorem Rep1L.one_inv {W : Ow} {H : Hp} {d : D} {vs : List V} (h : Rep1L G W H [d] vs) : ∃ v, vs = [v] ∧ Rep1 G W H d v := by
  cases h with
  | cons r t => cases t; exact ⟨_, rfl, r⟩
theorem opEv1 {o : Op} {ds : List D} {d : D} (h : opEv o ds = some d) (h0 : opEv o [] = none) (h2 : ∀ a b r, opEv o (a :: b :: r) = none) : ∃ a, ds = [a] := by
  match ds, h with
  | [], h => rw [h0] at h; cases h
  | [a], _ => exact ⟨a, rfl⟩
  | a :: b :: r, h => rw [h2] at h; cases h
theorem call_len_ (hK : X.K = G.K) : CallR X (.builtin "len") (rOp G .len) := by
  refine callR_imp call_len fun vs H Q h => ?_
  obtain ⟨W, ds, d, n, r, e, q⟩ := h
  obtain ⟨a, rfl⟩ := opEv1 e rfl (fun a b r => by cases a <;> rfl)
  obtain ⟨v, rfl, r1⟩ := r.one_inv
  cases a <;> simp only [opEv] at e <;> try contradiction
  · split at e
    · cases e
      rename_i hl
      exact ⟨v, _, rfl, by rw [r1.str_]; exact ⟨Nat.le_trans hl line_most, rfl⟩, plainV n rfl (.int _) q⟩
    · cases e
  · cases e
    obtain ⟨l, ws, rfl, h1, r2⟩ := r1.tup_
    exact ⟨_, ws.length, rfl, .inr ⟨ws, by rw [hK]; exact h1, rfl⟩, by rw [← r2.length]; exact plainV n rfl (.int _) q⟩
  · cases e
    obtain ⟨l, ws, rfl, h1, r2⟩ := r1.lst_
    exact ⟨_, ws.length, rfl, .inl ⟨ws, .inl (.inl h1), rfl⟩, by rw [← r2.length]; exact plainV n rfl (.int _) q⟩
theorem call_str_ : CallR X (.type "str") (rOp G .toStr) := by
  refine callR_imp call_str_int fun vs H Q h => ?_
  obtain ⟨W, ds, d, n, r, e, q⟩ := h
  obtain ⟨a, rfl⟩ := opEv1 e rfl (fun a b r => by cases a <;> rfl)
  obtain ⟨v, rfl, r1⟩ := r.one_inv
  cases a <;> simp only [opEv] at e <;> try contradiction
  split at e
  · cases e
    rename_i i hl
    refine ⟨i, by rw [r1.int_], ?_, plainV n rfl (.str _) q⟩
    by_cases h0 : i.natAbs = 0
    · rw [h0]; decide
    · have := (Nat.log2_lt h0).mpr (show i.natAbs < 2 ^ 30 by omega)
      omega
  · cases e
theorem call_int_ : CallR X (.type "int") (rOp G .toInt) := by
  refine callR_imp call_int_str fun vs H Q h => ?_
  obtain ⟨W, ds, d, n, r, e, q⟩ := h
  obtain ⟨a, rfl⟩ := opEv1 e rfl (fun a b r => by cases a <;> rfl)
  obtain ⟨v, rfl, r1⟩ := r.one_inv
  cases a <;> simp only [opEv] at e <;> try contradiction
  split at e
  · rename_i s hl
    rw [Option.map_eq_some_iff] at e
    obtain ⟨i, e1, rfl⟩ := e
    exact ⟨s, i, by rw [r1.str_], e1, hl, plainV n rfl (.int _) q⟩
  · cases e
theorem paired_get {α β : Type} {F : α → β → Prop} : ∀ {xs : List α} {ys : List β}, xs.length = ys.length → (∀ (i : Nat) (a : α) (b : β), xs[i]? = some a → ys[i]? = some b → F a b) → Paired F xs ys
  | [], [], _, _ => .nil
  | a :: xs, b :: ys, h, f => .cons (f 0 a b rfl rfl) (paired_get (by simpa using h) fun i x y hx hy => f (i + 1) x y (by simpa using hx) (by simpa using hy))
  | [], _ :: _, h, _ => by simp at h
  | _ :: _, [], h, _ => by simp at h
/-- list of a text's signs -/
theorem call_list_str_ (hc : X.calm = true) : CallR X (.type "list") (fun xs H Q => ∃ x, xs = [.str x] ∧ x.length ≤ sizeLine ∧ ∀ p, H p = none → Q (.ref p) (upd H p (.lst (x.cps.toList.map fun c => V.str ⟨#[c]⟩)))) := by
  intro pins s σ H xs us Q I r h
  obtain ⟨x, rfl, hl, q⟩ := h
  obtain ⟨u, rfl, rx⟩ := vals1 r
  obtain ⟨t, rfl⟩ := rx
  refine call_list_str (I.ok.hd hc) x t (hn := hl) fun h' tk acc' c' hk hS' hacc => ?_
  have rv : Vals (x.cps.toList.map fun c => V.str ⟨#[c]⟩) acc'.toList := by
    refine paired_get (by simpa using hacc.1.symm) fun i a b ha hb => ?_
    obtain ⟨c, u, hc, e⟩ := hacc.2 i b (by simpa using hb)
    rw [List.getElem?_map] at ha
    have : x.cps.toList[i]? = some c := by simpa using hc
    rw [this] at ha
    cases ha
    exact ⟨u, e⟩
  refine ⟨.ref s.heap.objs.size, _, I.laid (t' := tk) hk (Nat.le_refl _) (show ObjOk X.prog X.w _ h' _ (.lst _) from ⟨by simpa [Str.length] using hl, acc'.toList, c', rv, by simpa using hS'⟩), rfl, q _ (I.hok.fresh (Nat.le_refl _))⟩
theorem repL_signs {W : Ow} {H : Hp} : ∀ l : List Nat, RepL G W H (l.map fun c => D.str (sign c)) (l.map fun c => V.str ⟨#[c]⟩)
  | [] => .nil
  | _ :: r => .cons (.str _) (repL_signs r)
theorem call_list_ (hK : X.K = G.K) (hc : X.calm = true) : CallR X (.type "list") (rOp G .toList) := by
  refine callR_imp (CallR.or call_list_of (call_list_str_ hc)) fun vs H Q h => ?_
  obtain ⟨W, ds, d, n, r, e, q⟩ := h
  obtain ⟨a, rfl⟩ := opEv1 e rfl (fun a b r => by cases a <;> rfl)
  obtain ⟨v, rfl, r1⟩ := r.one_inv
  cases a <;> simp only [opEv] at e <;> try contradiction
  · split at e
    · cases e
      rename_i s hl
      exact .inr ⟨s, by rw [r1.str_], Nat.le_trans hl line_most, fun p hp => q _ _ _ (OpEnd.newL hp (repL_signs _))⟩
    · cases e
  · cases e
    obtain ⟨l, ws, rfl, h1, r2⟩ := r1.tup_
    exact .inl ⟨l, ws, rfl, .inr (by rw [hK]; exact h1), fun p hp => q _ _ _ (OpEnd.newL hp r2)⟩
  · cases e
    obtain ⟨l, ws, rfl, h1, r2⟩ := r1.lst_
    exact .inl ⟨l, ws, rfl, .inl (.inl (.inl h1)), fun p hp => q _ _ _ (OpEnd.newL hp r2)⟩
theorem allT_ {W : Ow} {H : Hp} : ∀ {ds : List D} {vs : List V} {b : Bool}, RepL G W H ds vs → allT ds = some b → ∃ bs : List Bool, vs = bs.map V.bl ∧ bs.all id = b
  | _, _, _, .nil, e => by simp only [allT] at e; cases e; exact ⟨[], rfl, rfl⟩
  | _, _, _, .cons (d := d) r t, e => by
    cases d <;> simp only [allT] at e <;> try contradiction
    split at e
    · rename_i c hc
      cases e
      obtain ⟨bs, e1, e2⟩ := allT_ t hc
      exact ⟨_ :: bs, by rw [(Rep1.of r).bl_, e1]; rfl, by rw [List.all_cons, e2]; rfl⟩
    · cases e
theorem call_all_ (hK : X.K = G.K) (hc : X.calm = true) : CallR X (.builtin "all") (rOp G .all) := by
  refine callR_imp (cr_all hc) fun vs H Q h => ?_
  obtain ⟨W, ds, d, n, r, e, q⟩ := h
  obtain ⟨a, rfl⟩ := opEv1 e rfl (fun a b r => by cases a <;> rfl)
  obtain ⟨v, rfl, r1⟩ := r.one_inv
  cases a <;> simp only [opEv] at e <;> try contradiction
  rw [Option.map_eq_some_iff] at e
  obtain ⟨b, e1, rfl⟩ := e
  obtain ⟨l, ws, rfl, h1, r2⟩ := r1.lst_
  obtain ⟨bs, e2, e3⟩ := allT_ r2 e1
  subst e2
  exact ⟨l, bs, rfl, .inl (.inl h1), by rw [e3]; exact plainV n rfl (.bl _) q⟩
/-! ### isinstance -/
def Ty.name : Ty → String
  | .list => "list" | .tuple => "tuple" | .int => "int" | .str => "str" | .bool => "bool" | .dict => "dict"
def D.tyName : D → Option String
  | .non => some "NoneType"
  | .bl _ => some "bool"
  | .int _ => some "int"
  | .str _ => some "str"
  | .tup _ => some "tuple"
  | .lst _ => some "list"
  | _ => none
theorem Rep1.ty {W : Ow} {H : Hp} {d : D} {v : V} {t : String} (r : Rep1 G W H d v) (e : d.tyName = some t) : TyX G.K H v (.type t) := by
  cases d <;> simp only [D.tyName] at e <;> cases e
  · rw [r.non_]; exact .base .non
  · rw [r.bl_]; exact .base (.bl _)
  · rw [r.int_]; exact .base (.int _)
  · rw [r.str_]; exact .base (.str _)
  · obtain ⟨a, vs, rfl, q, _⟩ := r.tup_
    rcases q with (q | ⟨o, q⟩) | ⟨o, its, n, h1, h2, _⟩
    · exact .base (.tup q)
    · exact .fTuple q
    · exact .kTuple h1 h2
  · obtain ⟨a, vs, rfl, h, _⟩ := r.lst_
    exact .base (.lst h)
theorem isTy_kit {d : D} {t : Ty} {b : Bool} (h : d.isTy t = some b) : ∃ n, d.tyName = some n ∧ kitB n t.name = some b := by
  cases d <;> cases t <;> simp only [D.isTy] at h <;> cases h <;> exact ⟨_, rfl, by decide +kernel⟩
theorem isAny_kit {K : PySem.W.Frag} {d : D} : ∀ {ts : List Ty} {b : Bool}, d.isAny ts = some b → (ts ≠ [] → ∃ n, d.tyName = some n) ∧ ∀ n, d.tyName = some n → PySem.W.kitAny K (.type n) (ts.map fun t => Value.type t.name) = some b
  | [], b, h => by
    simp only [D.isAny] at h; cases h
    exact ⟨fun z => absurd rfl z, fun n _ => rfl⟩
  | t :: ts, b, h => by
    simp only [D.isAny] at h
    split at h
    · rename_i ht
      cases h
      obtain ⟨n, e, k⟩ := isTy_kit ht
      refine ⟨fun _ => ⟨n, e⟩, fun n' e' => ?_⟩
      rw [e] at e'; cases e'
      exact kitAny_cons (kit_ty k) (fun z => nomatch z) (fun _ => rfl)
    · rename_i ht
      obtain ⟨n, e, k⟩ := isTy_kit ht
      refine ⟨fun _ => ⟨n, e⟩, fun n' e' => ?_⟩
      rw [e] at e'; cases e'
      exact kitAny_cons (kit_ty k) (fun _ => (isAny_kit h).2 n e) (fun z => nomatch z)
    · cases h
/-- isinstance(x, T) -/
theorem call_isi_ (hK : X.K = G.K) (t : Ty) : CallR X (.builtin "isinstance") (fun vs H Q => ∃ x, vs = [x, .ty t.name] ∧ rOp G (.isi [t]) [x] H Q) := by
  refine callR_imp call_isi fun vs H Q h => ?_
  obtain ⟨x, rfl, W, ds, d, n, r, e, q⟩ := h
  obtain ⟨a, rfl, ra⟩ := r.one
  simp only [opEv, Option.map_eq_some_iff] at e
  obtain ⟨b, e1, rfl⟩ := e
  simp only [D.isAny] at e1
  obtain ⟨nm, en, k⟩ := isTy_kit (d := a) (t := t) (b := b) (by split at e1 <;> simp_all)
  exact ⟨x, .ty t.name, .type nm, .type t.name, b, rfl, .ty _, by rw [hK]; exact ra.ty en, kit_ty k, plainV n rfl (.bl _) q⟩
theorem clsV_map : ∀ ts : List Ty, Paired ClsV (ts.map fun t => V.ty t.name) (ts.map fun t => Value.type t.name)
  | [] => .nil
  | t :: ts => .cons (.ty _) (clsV_map ts)
/-- isinstance(x, (S, T)), the tuple just laid at p -/
theorem call_isiT_ (hK : X.K = G.K) (t : Ty) (ts : List Ty) : CallR X (.builtin "isinstance") (fun vs H Q => ∃ x p, vs = [x, .ref p] ∧ H p = some (.tup ((t :: ts).map fun t => V.ty t.name)) ∧ rOp G (.isi (t :: ts)) [x] H Q) := by
  refine callR_imp call_isiT fun vs H Q h => ?_
  obtain ⟨x, p, rfl, hp, W, ds, d, n, r, e, q⟩ := h
  obtain ⟨a, rfl, ra⟩ := r.one
  simp only [opEv, Option.map_eq_some_iff] at e
  obtain ⟨b, e1, rfl⟩ := e
  obtain ⟨h1, h2⟩ := isAny_kit (K := X.K) e1
  obtain ⟨nm, en⟩ := h1 (by simp)
  exact ⟨x, p, _, .type nm, _, b, rfl, hp, clsV_map (t :: ts), by rw [hK]; exact ra.ty en, h2 nm en, plainV n rfl (.bl _) q⟩
/-! ### truth -/
theorem Rep1.truth {W : Ow} {H : Hp} {d : D} {v : V} {b : Bool} (r : Rep1 G W H d v) (e : d.truth = some b) : TruV G.K v H b := by
  cases d <;> simp only [D.truth] at e <;> try contradiction
  · cases e; rw [r.non_]; exact rfl
  · cases e; rw [r.bl_]; exact rfl
  · cases e; rw [r.int_]; exact rfl
  · split at e
    · cases e
      rename_i hl
      rw [r.str_]; exact ⟨Nat.le_trans hl line_most, rfl⟩
    · cases e
  · cases e
    obtain ⟨a, vs, rfl, q, r2⟩ := r.tup_
    refine .inr (.inl ⟨vs, q, ?_⟩)
    cases r2 <;> rfl
  · cases e
    obtain ⟨a, vs, rfl, q, r2⟩ := r.lst_
    refine .inl ⟨vs, .inl (.inl q), ?_⟩
    cases r2 <;> rfl
end
end PT

set_option Elab.async false
set_option linter.all false
set_option maxRecDepth 100000
set_option maxHeartbeats 4000000
/-! PTx: the program's own error classes: class Q(..): def __init__(self, f): self.f = f (turned from the worked proof of an own error). -/
namespace PySem
namespace PTX
open PySem.W PySem.Calls PyProof.Rows PySem.HandSPX
/-! ### the text of __init__ -/
def iA (f : Str) (p1 p2 : Pos) : Arguments := { posonlyargs := [], args := [{ arg := "self", annotation := none, pos := p1 }, { arg := f, annotation := none, pos := p2 }], vararg := none, kwonlyargs := [], kw_defaults := [], kwarg := none, defaults := [] }
def iB (f : Str) (q1 q2 q3 q4 : Pos) : List Stmt := [.Assign [.Attribute (.Name "self" q1) f q2] (.Name f q3) q4]
def iS (f : Str) : Scope := { kind := .function, names := [(PySem.Str.ofString "self", .local), (f, .local)], isGenerator := false, isCoroutine := false, more := [] }
/-- what the written part says of such a class, at C, and of its __init__, at fI -/
structure OwnX (K : Frag) (f : Str) (C fI : Addr) : Prop where
  cls : ∃ nm q N bs bm sn sub ab col dd k0 k1 k2 k3 k5, K.lookup C = some (excClassObj nm q C N bs bm true sn sub ab col dd k0 k1 k2 k3 k5 "ValueError.__new__") ∧ refsVE bm = true
  sa : findIn K (.ref C) "__setattr__" = some (some (.builtin "object.__setattr__"))
  ga : findIn K (.ref C) "__getattribute__" = some (some (.builtin "BaseException.__getattribute__"))
  gg : findIn K (.ref C) "__getattr__" = some none
  noN : findIn K (.ref C) f = some none
  iC : findIn K (.ref C) "__init__" = some (some (.ref fI))
  tC : typeIn K (.ref fI) = some (.type "function")
  kC : keepIn K (.ref C) = true
  exC : subIn K (.ref C) (.type "BaseException") = some true
  tyC : typeIn K (.ref C) = some (.type "type")
  hdC : hasDictIn K C = true
  fn : ∃ (oc : Value) (od : Option Addr) (qual : Str) (doc pm : Value) (an : Option Addr) (cdv ct : Value) (osl : Array (Option Value)) (p1 p2 q1 q2 q3 q4 : Pos),
    K.lookup fI = some ⟨oc, od, .func (fnOf "__init__" qual (iA f p1 p2) (iB f q1 q2 q3 q4) (iS f) .none .none doc pm an cdv ct), osl⟩ ∧ codeIn K cdv qual = true
/-- a field's name -/
def fldOk (f : Str) : Prop := f = "thing" ∨ f = "index" ∨ f = "place" ∨ f = "many"
theorem one_size (v : Value) : [v].length ≤ sizeLine := by
  rw [sizeLine_eq]
  exact (by decide : 1 ≤ 16777216)
theorem ldC {M : Model} {s : Shared} {name : Str} {scope : Scope} {L a : Addr} {cd : Value} {m : Str → Option Value} {x : Str} {pos : Pos} {v : Value} {Q : Value → Shared → Prop} {A : Around} {E : Value → Shared → Prop} (hn : s.heap.Ns L m) (hv : m x = some v) (h : Q v s)
    (hk : scope.kind = .function := by rfl) (hl : (envOfC name scope L a cd).kindOf x = some .local := by rfl) (hd : (x == ("__debug__" : Str)) = false := by decide) :
    wpAny M A (eval (.Name x pos) (envOfC name scope L a cd)) Q E s := wpAny_Name (wpAny_loadName_local hk hl hn hv h) hd
/-- what __init__ leaves of a fresh exception at x -/
structure InitEnd (f : Str) (h h' : Heap) (x C dx t1 : Addr) (v : Value) : Prop where
  keep : ∀ b o, b ≠ x → h.get? b = some o → h'.get? b = some o
  obj : h'.get? x = some { cls := .ref C, dict := some dx, data := .fields #[.ref t1, .none, .none, .none, .bool false, .none] }
  dbig : h.objs.size ≤ dx
  dne : dx ≠ x
  ns : h'.Ns1 dx (fun y => if y = f then some v else none)
/-- a made one -/
structure OwnMade (f : Str) (h h' : Heap) (e C d : Addr) (v : Value) : Prop where
  keep : ∀ b o, h.get? b = some o → h'.get? b = some o
  new : h.objs.size ≤ e
  obj : ∃ oe vs, h'.get? e = some oe ∧ oe.cls = .ref C ∧ oe.dict = some d ∧ oe.data = .fields vs ∧ vs[1]? = some .none ∧ vs[2]? = some .none
  dbig : h.objs.size ≤ d
  dne : d ≠ e
  ns : h'.Ns1 d (fun y => if y = f then some v else none)
section
variable {prog : Program} {w : World} {A : Around} {E : Value → Shared → Prop} {R : Result → Shared → Prop} {s : Shared} {K : Frag} {mg : Str → Option Value} {C fI : Addr} {f : Str}
theorem own_init (hf : fldOk f) (T : OwnX K f C fI) {x t0 : Addr} {v : Value} (X : K.In s.heap) (hlim : s.heap.NoLimit) (hx : s.heap.get? x = some (excO C t0)) (hnx : K.lookup x = none) (hroom : A.depth < recursionLimit)
    (hq : ∀ h' tk dx, InitEnd f s.heap h' x C dx t0 v → R (.ok (.ret .none)) { s with heap := h', toks := tk }) :
    codeAny (model prog w) A (.call (.ref fI) ⟨[.ref x, v], []⟩) R s := by
  obtain ⟨oc, od, qual, doc, pm, an, cdv, ct, osl, p1, p2, q1, q2, q3, q4, ho, hcd⟩ := T.fn
  obtain ⟨nm, q, N, bs, bm, sn, sub, ab, col, dd, k0, k1, k2, k3, k5, hC, hbm⟩ := T.cls
  have hcl : clsIn K C = some { name := nm, bases := bs, mro := .ref C :: bm, ns := N, qualname := q, hasDict := true, slotNames := sn, subclasses := sub, abstract := ab, collection := col, hasDel := false } := by unfold clsIn; rw [hC] <;> rfl
  have hnf := T.noN
  rcases hf with rfl | rfl | rfl | rfl
  all_goals
    refine Att.call_fn (binds := [("self", .ref x), (_, v)]) X hlim ho hcd hroom (BindsTo.of_eq (by first | rfl | with_unfolding_all rfl)) (by first | rfl | decide | with_unfolding_all rfl) (fun s₁ IC => ?_) rfl rfl rfl
    obtain ⟨h₁, tk₁, rfl⟩ := IC.toInCall.same
    have k : ∀ b o, s.heap.get? b = some o → h₁.get? b = some o := IC.toInCall.keep
    have hn := IC.toInCall.ns
    have hxL : s.heap.objs.size ≠ x := Nat.ne_of_gt (Heap.lt_size hx)
    have X₁ : K.In h₁ := X.keeps k
    have hx₁ := k _ _ hx
    show wpAny _ _ (execs _ _) _ _ _
    refine wpAny_execs_cons (plainObj_wpAny_Assign_Attribute ?_)
    refine ldC (v := v) hn (by first | rfl | with_unfolding_all rfl | kernel_rfl) (ldC (v := .ref x) hn (by first | rfl | with_unfolding_all rfl | kernel_rfl) ?_)
    refine set_plain X₁ (ox := excO C t0) (od := none) ⟨hx₁, rfl, rfl, trivial⟩ T.sa ?_
    refine exc_osa X₁ hx₁ hcl (show refsVE (.ref C :: bm) = true from hbm) rfl hnf (fun h₃ tk₃ dx k₃ dn dne hx₃ hn₃ => ?_)
    show wpAny _ _ (execs _ _) _ _ _
    have z : s.heap.objs.size < h₁.objs.size := hn.lt
    exact wpAny_execs_nil (hq h₃ tk₃ dx ⟨fun b o hb e => k₃ b o hb (k b o e), hx₃, Nat.le_of_lt (Nat.lt_of_lt_of_le z dn), dne, hn₃⟩)
theorem own_made (hf : fldOk f) (T : OwnX K f C fI) {v : Value} (X : K.In s.heap) (hlim : s.heap.NoLimit) (hroom : A.depth + 1 < recursionLimit)
    (hq : ∀ h' tk e d, OwnMade f s.heap h' e C d v → R (.ok (.ret (.ref e))) { s with heap := h', toks := tk }) :
    codeAny (model prog w) A (.call (.ref C) ⟨[v], []⟩) R s := by
  obtain ⟨nm, q, N, bs, bm, sn, sub, ab, col, dd, k0, k1, k2, k3, k5, hC, hbm⟩ := T.cls
  obtain ⟨hp, g, dr, tk, os⟩ := s
  have k : ∀ b o, hp.get? b = some o → ((hp.push (kdv_tup [v])).push (excO C hp.objs.size)).get? b = some o := fun b o e => Heap.get?_push_of_some _ (Heap.get?_push_of_some _ e)
  have hget : ((hp.push (kdv_tup [v])).push (excO C hp.objs.size)).get? (hp.objs.size + 1) = some (excO C hp.objs.size) := by heap_get
  have hnx : K.lookup (hp.objs.size + 1) = none := by
    cases e : K.lookup (hp.objs.size + 1) with
    | none => rfl
    | some o =>
      have z : hp.get? (hp.objs.size + 1) = some o := X _ _ e
      exact absurd (Nat.lt_of_succ_lt (Heap.lt_size z)) (Nat.lt_irrefl _)
  refine call_own F.excBase_ValueError (fun X => refsVE_contains X bm hbm) (X _ _ hC) (looks_findIn X T.iC) (fun self => bind_fn X self T.tC) (one_size v) ?_
  refine own_init hf (s := ⟨(hp.push (kdv_tup [v])).push (excO C hp.objs.size), g, dr, tk, os⟩) T (X.keeps k) (hlim.keeps k) hget hnx ?_ fun h' tk' dx ⟨k', hx, dn, dne, hns⟩ => ?_
  · show A.depth + 1 < recursionLimit
    exact hroom
  · have old : ∀ b o, hp.get? b = some o → h'.get? b = some o := fun b o e => k' b o (Nat.ne_of_lt (Nat.lt_succ_of_lt (Heap.lt_size e))) (k b o e)
    have z : hp.objs.size + 1 + 1 ≤ dx := by
      first
        | (simpa only [Heap.size_push] using dn)
        | exact dn
        | (have q := dn; rw [Heap.size_push, Heap.size_push] at q; exact q)
    exact ⟨rfl, hq h' tk' (hp.objs.size + 1) dx ⟨old, Nat.le_succ _, ⟨_, _, hx, rfl, rfl, rfl, rfl, rfl⟩, Nat.le_trans (Nat.le_trans (Nat.le_succ _) (Nat.le_succ _)) z, dne, hns⟩⟩
end
end PTX
end PySem
namespace PT
open PySem L2 PySem.Spec PyProof.Rows
theorem relO_own {f : Str} {v : V} {v' : Value} (r : RelV v v') (g : Str) : RelO (List.lookup g [(f, v)]) (if g = f then some v' else none) := by
  by_cases hw : g = f
  · subst hw
    rw [if_pos rfl]
    have q : List.lookup g [(g, v)] = some v := by simp [List.lookup]
    rw [q]
    exact r
  · rw [if_neg hw]
    have qw : (g == f) = false := by simpa using hw
    have q2 : List.lookup g [(f, v)] = none := by simp [List.lookup, qw]
    rw [q2]
    trivial
section
variable {X : Cx} {C fI : Addr} {f : Str}
/-- Q(e) -/
def tMkOwn (f : Str) (C : Addr) (ta : TA) : L2.St → Hp → XK → Prop := fun σ H Q => ta σ H fun vs H1 => ∃ v, vs = [v] ∧ ∀ d, H1 d = none → Q (.ref C) (some d) (upd H1 d (.xd [(f, v)]))
theorem pmk_own {x : Str} {a : Expr} {ta : TA} {p pos : Pos} {k : Nat} (hf : PySem.PTX.fldOk f) (T : PySem.PTX.OwnX X.K f C fI) (gC : X.mg x = some (.ref C)) (hr : Room k X.A) (ha : PA X [a] ta) (hg : Gl X x) (hdb : (x == ("__debug__" : Str)) = false)
    (he : starEach (a :: []) X.env = (false, eval a X.env) :: starEach [] X.env := by rfl) (hpl : (backTo pos (starEach [] X.env)).any (·.1) = false := by rfl) :
    L2N.PMk X (.Call (.Name x p) [a] [] pos) (tMkOwn f C ta) := by
  intro pins s σ H Q I h
  refine wpAny_Call_Name_kw (ld_glob I hg gC ?_ hdb)
  refine PySem.W.callWith_K (h₀ := X.base) I.ok.mod.kin T.kC (thn (ha.run pos pins s σ H _ I h) fun us s1 hh => ?_) he hpl
  obtain ⟨vs, H1, I1, r1, v, ev, q1⟩ := hh
  subst ev
  refine ⟨I1.kIn, ?_⟩
  cases r1 with
  | cons rv rn =>
    rename_i v' us'
    cases rn
    show wpAny _ _ (call (.ref C) [v']) _ _ _
    have hlim := I1.nolimit
    obtain ⟨hp, g, dr, tk, os⟩ := s1
    refine wpAny_call (PySem.PTX.own_made hf T I1.kIn hlim (by have := hr.dp; omega) fun h' tk' e d M => ?_)
    show L2N.MkP X pins σ Q (.ref e) ⟨h', g, dr, tk', os⟩
    obtain ⟨oe, fv, hoe, hc, hd, hdat, h1, h2⟩ := M.obj
    have hns := M.ns
    obtain ⟨G', g1, g2⟩ := restrict h' fun b => decide (b ≠ e)
    have gk : ∀ b, b ≠ e → G'.get? b = h'.get? b := fun b hb => g1 b (decide_eq_true hb)
    have ge : G'.get? e = none := g2 e (by simp)
    have old : ∀ b o, hp.get? b = some o → G'.get? b = some o := fun b o q => (gk b (Nat.ne_of_lt (Nat.lt_of_lt_of_le (Heap.lt_size q) M.new))).trans (M.keep b o q)
    have ob : ObjOk X.prog X.w (upd H1 d (.xd [(f, v)])) G' d (.xd [(f, v)]) :=
      ⟨_, hns.at (fun o q => (gk d M.dne).trans q), fun g => relO_own rv g⟩
    have J : Inv X pins σ (upd H1 d (.xd [(f, v)])) ⟨G', g, dr, tk', os⟩ := I1.laid (t' := tk') old M.dbig ob
    refine ⟨e, oe, fv, ⟨G', g, dr, tk', os⟩, _, .ref C, some d, rfl, J, fun b o q => ?_, ge, hoe, ⟨hc, hd, fun vs e => by rw [hdat] at e; cases e; exact h2⟩, hdat, h1, ?_, rfl, I1.bare, raises_own T.exC T.tyC, q1 d (I1.hok.fresh M.dbig)⟩
    · by_cases hb : b = e
      · have q' : G'.get? b = some o := q
        rw [hb, ge] at q'; cases q'
      · exact (gk b hb).symm.trans q
    · rw [upd_ne (Ne.symm M.dne)]
      exact I1.hok.fresh M.new
/-- raise Q(e) -/
theorem ps_raiseOwn {x : Str} {a : Expr} {ta : TA} {W : WX} {p pos pos2 : Pos} {k : Nat} (hc : X.calm = true) (hf : PySem.PTX.fldOk f) (T : PySem.PTX.OwnX X.K f C fI) (gC : X.mg x = some (.ref C)) (hr : Room k X.A) (tk : L2N.Takes X W) (ha : PA X [a] ta) (hg : Gl X x) (hdb : (x == ("__debug__" : Str)) = false)
    (he : starEach (a :: []) X.env = (false, eval a X.env) :: starEach [] X.env := by rfl) (hpl : (backTo pos (starEach [] X.env)).any (·.1) = false := by rfl) :
    PS X (.Raise (some (.Call (.Name x p) [a] [] pos)) none pos2) (fun _ σ H => tMkOwn f C ta σ H fun cls d H' => W cls d σ H') := L2N.ps_raise hc tk (pmk_own hf T gC hr ha hg hdb he hpl)
/-- e.f, e the exception that the suite holds (at a; its class cls, its dict d) -/
def tFldOwn (f : Str) (C : Addr) (a : Addr) (cls : Value) (d : Option Addr) (te : TE) : TE := fun σ H Q => te σ H fun x H1 => x = .ref a ∧ cls = .ref C ∧ ∃ (dd : Addr) (v : V), d = some dd ∧ H1 dd = some (.xd [(f, v)]) ∧ Q v H1
theorem pe_fldOwn {a : Addr} {oe : Obj} {cls : Value} {d : Option Addr} {pn : List (Addr × Obj)} {e : Expr} {te : TE} {pos : Pos} (T : PySem.PTX.OwnX X.K f C fI) (hz : L2N.Zn cls d oe) (hf : ∃ vs, oe.data = .fields vs) (he : PE (X.suite a ((a, oe) :: pn)) e te)
    (hb : attributeBase e f X.env (eval e X.env) = eval e X.env := by rfl) :
    PE (X.suite a ((a, oe) :: pn)) (.Attribute e f pos) (tFldOwn f C a cls d te) := by
  refine ⟨fun pins s σ H Q I h => ?_⟩
  refine attr_of hb (thn (he.run pins s σ H _ I h) fun u s1 hh => ?_)
  obtain ⟨x, H1, I1, rx, ex, ec, dd, v, ed, ea, q⟩ := hh
  subst ex
  obtain rfl : u = Value.ref a := rx
  subst ec
  subst ed
  obtain ⟨ha, _⟩ := I1.pin (a, oe) (List.mem_append_left _ List.mem_cons_self)
  obtain ⟨vs, hd⟩ := hf
  have hx : ObjOk X.prog X.w H1 s1.heap dd (.xd [(f, v)]) := I1.hok dd _ ea
  obtain ⟨mA, hns, hr⟩ := hx
  obtain ⟨od, ho, hl⟩ := lookIn_ns hns
  have l : List.lookup f [(f, v)] = some v := by simp [List.lookup]
  obtain ⟨u, hu, ru⟩ := RelO.some_of (v := v) (o := mA f) (by rw [← l]; exact hr f)
  have J : PySem.W.InstAt s1.heap a oe C (some od) := ⟨ha, hz.1, by unfold PySem.W.notCls; rw [hd] <;> rfl, by rw [hz.2.1]; exact ho⟩
  exact HandSPX.exc_get I1.kIn J T.ga T.gg T.exC (PySem.W.findObj_own T.hdC T.noN rfl (by rw [hl, hu])) (handed_of ru) ⟨v, H1, I1.tok _, ru, q⟩
end
end PT

set_option Elab.async false
set_option linter.all false
set_option maxRecDepth 100000
set_option maxHeartbeats 4000000
/-! PTd: from the text to the small language; expressions. -/
namespace PT
open PySem L2 PySem.Spec PyProof.Rows

/-! ### what the translation knows -/
structure Pt where
  fns : List (Str × Nat)
  cons : List (Str × D)
  clss : List (Str × Nat)
  kws : List (Str × Str)
structure Tc where
  pt : Pt
  N : List Str
  sc : Scope
  top : Bool
  lam : Bool
def ixOf (x : Str) : List Str → Option Nat
  | [] => none
  | y :: r => if y = x then some 0 else (ixOf x r).map (· + 1)
theorem ixOf_ok {x : Str} : ∀ {l : List Str} {i : Nat}, ixOf x l = some i → l[i]? = some x
  | [], _, h => by simp [ixOf] at h
  | y :: r, i, h => by
    unfold ixOf at h
    split at h
    · rename_i e
      cases h
      rw [e]; rfl
    · rw [Option.map_eq_some_iff] at h
      obtain ⟨j, h1, rfl⟩ := h
      simpa using ixOf_ok h1
def plainName (x : Str) : Bool := !(x == ("__debug__" : Str)) && !(x == ("__classdict__" : Str))
def Tc.slot (Γ : Tc) (x : Str) : Option Nat := match Γ.sc.names.lookup x with
  | some .local => ixOf x Γ.N
  | some .cell => ixOf x Γ.N
  | some .free => ixOf x Γ.N
  | _ => none
def Tc.sto (Γ : Tc) (x : Str) : Option Nat := match Γ.sc.names.lookup x with
  | some .local => ixOf x Γ.N
  | some .cell => if Γ.top then ixOf x Γ.N else none
  | _ => none
def Tc.glob (Γ : Tc) (x : Str) : Bool := decide (Γ.sc.names.lookup x = some .globalImplicit)
theorem Tc.slot_ok {Γ : Tc} {x : Str} {i : Nat} (h : Γ.slot x = some i) : Γ.N[i]? = some x ∧ Vis Γ.sc x := by
  unfold Tc.slot at h
  split at h
  · rename_i e; exact ⟨ixOf_ok h, .inl e⟩
  · rename_i e; exact ⟨ixOf_ok h, .inr (.inl e)⟩
  · rename_i e; exact ⟨ixOf_ok h, .inr (.inr e)⟩
  · cases h
def blts : List Str := ["len", "isinstance", "str", "int", "list", "all", "range", "zip", "enumerate", "bool", "tuple", "dict"]
def Tc.blt (Γ : Tc) (x : Str) : Bool := Γ.glob x && decide (x ∈ blts)

def bopOf : Operator → Option Op
  | .Add => some .add
  | .Sub => some .sub
  | .Mult => some .mul
  | .FloorDiv => some .fdiv
  | .Mod => some .mod
  | _ => none
def copOf : CmpOp → Option Op
  | .Eq => some .eq
  | .NotEq => some .ne
  | .Lt => some .lt
  | .LtE => some .le
  | .Gt => some .gt
  | .GtE => some .ge
  | .In => some .isIn
  | .NotIn => some .notIn
  | _ => none
def tyOf (x : Str) : Option Ty :=
  if x = "list" then some .list else if x = "tuple" then some .tuple else if x = "int" then some .int else if x = "str" then some .str else if x = "bool" then some .bool else if x = "dict" then some .dict else none
def isNone : Expr → Bool
  | .Constant .none _ _ => true
  | _ => false
def tysOf (Γ : Tc) : List Expr → Option (List Ty)
  | [] => some []
  | .Name x _ :: r => if Γ.blt x then match tyOf x with
      | some t => (tysOf Γ r).map (t :: ·)
      | none => none
    else none
  | _ => none
/-- the second argument of isinstance -/
def isiOf (Γ : Tc) : Expr → Option (List Ty)
  | .Name x p => tysOf Γ [.Name x p]
  | .Tuple es _ _ => if 2 ≤ es.length ∧ es.length ≤ 10 then tysOf Γ es else none
  | _ => none
def relS' (scope sc : Scope) : Scope := L2.relS scope sc
def namesOf (Γ : Tc) : List Expr → Option (List Nat)
  | [] => some []
  | .Name x _ :: r => match Γ.sto x with
    | some i => (namesOf Γ r).map (i :: ·)
    | none => none
  | _ => none
def tgOf (Γ : Tc) : Expr → Option (List Nat × Bool)
  | .Name x _ => (Γ.sto x).map fun i => ([i], true)
  | .Tuple es _ _ => (namesOf Γ es).map fun l => (l, false)
  | _ => none
def callOf (Γ : Tc) (x : Str) (as : CL) : Option C :=
  if Γ.glob x = true ∧ plainName x = true then match Γ.pt.fns.lookup x with
    | some i => match as with
      | .nil => none
      | _ => some (.call i as)
    | none => if Γ.blt x then match as with
      | .cons a .nil =>
        if x = "len" then some (.op .len as) else if x = "str" then some (.op .toStr as) else if x = "int" then some (.op .toInt as)
        else if x = "list" then some (.op .toList as) else if x = "all" then some (.op .all as) else none
      | _ => none
    else none
  else none
section
variable (tr : Tc → Expr → Option C)
def trL (Γ : Tc) : List Expr → Option CL
  | [] => some .nil
  | e :: r => match tr Γ e with
    | some c => (trL Γ r).map (.cons c)
    | none => none
def trB (Γ : Tc) (o : BoolOp) : List Expr → Option C
  | [] => none
  | [e] => tr Γ e
  | e :: r => match tr Γ e with
    | some a => (trB Γ o r).map fun b => match o with
      | .And => .and a b
      | .Or => .or a b
    | none => none
def trI (Γ : Tc) (tg : List Nat × Bool) (e : Expr) : Option IT := match e with
  | .Call (.Name x _) [a] [] _ => if Γ.blt x = true ∧ x = "range" then (tr Γ a).map .range
    else if Γ.blt x = true ∧ x = "enumerate" then if tg.2 then none else (tr Γ a).map .enum
    else (tr Γ e).map .val
  | .Call (.Name x _) [a, b] [] _ => if Γ.blt x = true ∧ x = "zip" then if tg.2 then none else match tr Γ a with
      | some ca => (tr Γ b).map (.zip ca)
      | none => none
    else (tr Γ e).map .val
  | _ => (tr Γ e).map .val
end
def ownOf (N : List Str) (scope : Scope) : List (Str × Nat) := scope.names.filterMap fun y => match y.2 with
  | .local => (ixOf y.1 N).map fun i => (y.1, i)
  | .cell => (ixOf y.1 N).map fun i => (y.1, i)
  | _ => none
/-- what a lambda captures -/
def lamN (scope : Scope) : List Str := scope.names.filterMap fun y => if y.2 = .free then some y.1 else none
def lamCaps (Γ : Tc) : List Str → Option (List Nat)
  | [] => some []
  | x :: r => if Γ.sc.names.lookup x = some .cell then match ixOf x Γ.N with
      | some i => (lamCaps Γ r).map (i :: ·)
      | none => none
    else none
def trE : Nat → Tc → Expr → Option C
  | 0, _, _ => none
  | n + 1, Γ, e => match e with
    | .Name x _ => if plainName x then match Γ.slot x with
        | some i => some (.var i)
        | none => if Γ.glob x then match Γ.pt.cons.lookup x with
            | some d => some (.con d)
            | none => (Γ.pt.fns.lookup x).map fun i => .con (.fn i)
          else none
      else none
    | .Constant k _ _ => match k with
      | .int i => some (.con (.int i))
      | .bool b => some (.con (.bl b))
      | .none => some (.con .non)
      | .str s => some (.con (.str s))
      | _ => none
    | .Tuple es _ _ => (trL (trE n) Γ es).map .mkT
    | .List es _ => (trL (trE n) Γ es).map .mkL
    | .BinOp a o b _ => match bopOf o, trE n Γ a, trE n Γ b with
      | some op, some ca, some cb => some (.op op (.cons ca (.cons cb .nil)))
      | _, _, _ => none
    | .Compare a [o] [b] _ => match o with
      | .Is => if isNone b then (trE n Γ a).map fun c => .op .isN (.cons c .nil) else none
      | .IsNot => if isNone b then (trE n Γ a).map fun c => .op .notN (.cons c .nil) else none
      | _ => match copOf o, trE n Γ a, trE n Γ b with
        | some op, some ca, some cb => some (.op op (.cons ca (.cons cb .nil)))
        | _, _, _ => none
    | .Compare a [o, p] [b, c] _ => match copOf o, copOf p, trE n Γ a, trE n Γ b, trE n Γ c with
      | some op, some oq, some ca, some cb, some cc => some (.chain op oq ca cb cc)
      | _, _, _, _, _ => none
    | .BoolOp o (a :: b :: r) _ => trB (trE n) Γ o (a :: b :: r)
    | .UnaryOp .Not a _ => (trE n Γ a).map .not
    | .IfExp c a b _ => match trE n Γ c, trE n Γ a, trE n Γ b with
      | some cc, some ca, some cb => some (.ite cc ca cb)
      | _, _, _ => none
    | .Subscript a (.Slice lo hi none _) _ => match lo, hi with
      | some l, none => match trE n Γ a, trE n Γ l with
        | some ca, some cl => some (.op (.slc true false) (.cons ca (.cons cl .nil)))
        | _, _ => none
      | none, some h => match trE n Γ a, trE n Γ h with
        | some ca, some ch => some (.op (.slc false true) (.cons ca (.cons ch .nil)))
        | _, _ => none
      | _, _ => none
    | .Subscript a b _ => match trE n Γ a, trE n Γ b with
      | some ca, some cb => some (.op .idx (.cons ca (.cons cb .nil)))
      | _, _ => none
    | .Call (.Name x _) [.Lambda ⟨[], [], none, [], [], none, []⟩ body scope _] [] _ =>
      if Γ.lam = true ∧ Γ.top = true ∧ Γ.glob x = true ∧ plainName x = true ∧ LamX.lamSB Γ.sc scope = true ∧ (lamN scope).Nodup then match Γ.pt.fns.lookup x, lamCaps Γ (lamN scope), trE n ⟨Γ.pt, lamN scope, scope, false, false⟩ body with
        | some i, some caps, some c => some (.callL i c caps)
        | _, _, _ => none
      else none
    | .Call (.Name x _) es [] _ => match Γ.slot x with
      | some _ => none
      | none => if Γ.blt x = true ∧ x = "isinstance" then match es with
          | [a, t] => match trE n Γ a, isiOf Γ t with
            | some ca, some ts => some (.op (.isi ts) (.cons ca .nil))
            | _, _ => none
          | _ => none
        else match trL (trE n) Γ es with
          | some as => callOf Γ x as
          | none => none
    | .Call (.Name x _) [] [⟨some k, e, _⟩] _ => if Γ.glob x = true ∧ plainName x = true ∧ Γ.pt.kws.lookup x = some k then match Γ.pt.fns.lookup x, trE n Γ e with
        | some i, some c => some (.call i (.cons c .nil))
        | _, _ => none
      else none
    | .Call (.Attribute (.Name y yp) m ap) [a] [] cp => if m = "strip" ∧ ap.endLine = cp.line then match trE n Γ (.Name y yp), a with
        | some co, .Constant (.str z) _ _ => some (.op .strip (.cons co (.cons (.con (.str z)) .nil)))
        | _, _ => none
      else none
    | .ListComp elt [⟨tg, it, ifs, 0⟩] scope _ =>
      let Γ' : Tc := { Γ with sc := L2.relS scope Γ.sc, top := false, lam := false }
      let own := ownOf Γ.N scope
      if blkC Γ.N Γ.sc scope own then match tgOf Γ' tg, ifs with
        | some t, [] => match trI (trE n) Γ t it, trE n Γ' elt with
          | some ci, some ce => if t.1.all (fun i => decide (i ∈ own.map (·.2))) then some (.lc (own.map (·.2)) t.1 t.2 ci .nil ce) else none
          | _, _ => none
        | some t, [f] => match trI (trE n) Γ t it, trE n Γ' f, trE n Γ' elt with
          | some ci, some cf, some ce => if t.1.all (fun i => decide (i ∈ own.map (·.2))) then some (.lc (own.map (·.2)) t.1 t.2 ci (.cons cf .nil) ce) else none
          | _, _, _ => none
        | _, _ => none
      else none
    | _ => none
end PT

set_option Elab.async false
set_option linter.all false
set_option maxRecDepth 100000
set_option maxHeartbeats 4000000
/-! PTe: an expression does what its translation reckons. -/
namespace PT
open PySem L2 PySem.Spec PyProof.Rows

/-! ### a def's promise by the reckoning -/
/-- the arguments at a call: values, lent lists -/
def ArgsAt (G : Glob) (W : Ow) (H : Hp) (as : List (D × Bool)) (vs : List V) : Prop :=
  as.length = vs.length ∧ ∀ (j : Nat) (d : D) (o : Bool), as[j]? = some (d, o) → ∃ v, vs[j]? = some v ∧ if o = true then OwnC G W H (.s j) d v else Rep G W H d v
/-- a call's end -/
structure CallEnd (G : Glob) (W : Ow) (H : Hp) (io : Option Nat) (vs : List V) (out : Option D) (W' : Ow) (H' : Hp) : Prop where
  go : Go W H W' H'
  put : ∀ j, io = some j → ∃ d v, out = some d ∧ vs[j]? = some v ∧ OwnC G W' H' (.s j) d v
  non : io = none → out = none
  own : ∀ a j, W' a = some (.s j) → io = some j
  tab : Tab G W' H'
def spF (G : Glob) (cf : CallF) (io : Option Nat) (i : Nat) : Sp := fun vs H Q E => ∃ (W : Ow) (as : List (D × Bool)) (m : List Unit), NoT W ∧ ArgsAt G W H as vs ∧ (∀ (j : Nat) (d : D), as[j]? = some (d, true) → io = some j) ∧ (∀ a j, W a = some (.s j) → io = some j) ∧ Tab G W H ∧ match cf i as m with
  | .ok d o out _ => ∀ v W' H', CallEnd G W H io vs out W' H' → ValOk G W' H' d o v → Q v H'
  | .exc x ds out _ => ∀ cls dx W' H', CallEnd G W H io vs out W' H' → NoT W' → (∃ C, G.ca x = some C ∧ cls = .ref C) → (∃ ws, H' dx = some (.xd ((G.xn x).zip ws)) ∧ (G.xn x).length = ws.length ∧ RepL G W' H' ds ws) → E cls (some dx) H'
  | .bad => False
/-! ### closures -/
/-- a closure as it was made -/
def CloMade (pt : Pt) (K : PySem.W.Frag) (base : Heap) (f : Addr) (i : CloI) : Prop := ∃ (body : Expr) (scope : Scope) (cl : List (Str × Addr)) (pm ctv : Value) (N : List Str) (n : Nat),
  base.get? f = some (PySem.W.kla_obj "<lambda>" i.q ⟨[], [], none, [], [], none, []⟩ body scope cl pm i.c ctv) ∧
  scope.kind = .function ∧ scope.isCoroutine = false ∧ scope.isGenerator = false ∧ (∀ y ∈ scope.names, y.2 ≠ .local ∧ y.2 ≠ .cell) ∧ N.Nodup ∧ N.length = i.us.length ∧
  trE n ⟨pt, N, scope, false, false⟩ body = some i.b ∧ (∀ (k : Nat) (x : Str) (u : V), N[k]? = some x → i.us[k]? = some u → ∃ c w, cl.lookup x = some c ∧ base.IsCell c (some w) ∧ RelV u w) ∧
  (∀ x c, cl.lookup x = some c → ∃ v, base.IsCell c v) ∧ (∀ x y c, cl.lookup x = some c → cl.lookup y = some c → x = y) ∧ (∀ x, scope.names.lookup x = some .free → ∃ c, cl.lookup x = some c)
def CloAll (pt : Pt) (K : PySem.W.Frag) (base : Heap) (G : Glob) : Prop := ∀ f i, G.cl f = some i → CloMade pt K base f i
/-- how a def's arguments bind -/
def BindsK (pt : Pt) (K : PySem.W.Frag) (x : Str) (fd : FuncData) (ps : List Str) : Prop := L2.Binds K fd ps [] ∧ ∀ k, pt.kws.lookup x = some k → ps = [k] ∧ ∀ (s : Shared) (u : Value), BindsTo s fd ⟨[], [(k, u)]⟩ ([k].zip [u])
/-- the same module with more closures -/
def GExt (G G' : Glob) : Prop := ∃ g, G' = { G with cl := g } ∧ ∀ f i, G.cl f = some i → g f = some i
theorem GExt.refl {G : Glob} : GExt G G := ⟨G.cl, rfl, fun _ _ h => h⟩
/-! ### the context in which a text of Γ runs -/
structure CtxOk (Γ : Tc) (cf : CallF) (io : Nat → Option Nat) (G : Glob) (XW : WX) (X : Cx) : Prop where
  calm : X.calm = true
  K : X.K = G.K
  N : X.N = Γ.N
  nd : X.N.Nodup
  sc : X.env.scope = Γ.sc
  un : X.A.units + 64 < cLine
  tk : L2N.Takes X XW
  po : PassesOwn (model X.prog X.w) X.A X.env X.xe
  fn : Γ.top = true → ∀ x, X.fn x = true
  bl : ∀ x ∈ blts, X.mg x = none
  rm : Room 0 X.A
  cls : ∀ x i, Γ.pt.clss.lookup x = some i → ∃ (C fI : Addr) (f : Str), G.ca i = some C ∧ G.xn i = [f] ∧ PySem.PTX.fldOk f ∧ PySem.PTX.OwnX X.K f C fI ∧ X.mg x = some (.ref C)
  con : ∀ x d, Γ.pt.cons.lookup x = some d → ∃ u v, X.mg x = some u ∧ RelV v u ∧ KRep G.K d v
  lam : ∀ (base' : Heap) (G' : Glob), (∀ b o, X.base.get? b = some o → base'.get? b = some o) → GExt G G' → CloAll Γ.pt X.K base' G' → ∀ x i, Γ.pt.fns.lookup x = some i → ∃ (a : Addr) (fd : FuncData) (ps : List Str) (k : Nat), X.mg x = some (.ref a) ∧ G.fa i = some a ∧ PySem.W.keepIn X.K (.ref a) = true ∧
    FnOk X.prog X.w X.K X.mg base' (L2N.CX X.prog X.w) k a fd ps (spF G' cf (io i) i) ∧ Room k X.A ∧ BindsK Γ.pt X.K x fd ps
  clo : CloAll Γ.pt X.K X.base G
  tb : Γ.lam = true → ∃ (c P : Addr), X.env.code = .ref c ∧ LamX.TabB X.base X.mg c P ∧ (P, X.env.qual ++ "<lambda>") ∈ G.T ∧ ∀ p ∈ G.T, p.1 = P → p.2 = X.env.qual ++ "<lambda>"
theorem CtxOk.call {Γ : Tc} {cf : CallF} {io : Nat → Option Nat} {G : Glob} {XW : WX} {X : Cx} (O : CtxOk Γ cf io G XW X) : ∀ x i, Γ.pt.fns.lookup x = some i → ∃ (a : Addr) (fd : FuncData) (ps : List Str) (k : Nat), X.mg x = some (.ref a) ∧ G.fa i = some a ∧ PySem.W.keepIn X.K (.ref a) = true ∧
    FnOk X.prog X.w X.K X.mg X.base (L2N.CX X.prog X.w) k a fd ps (spF G cf (io i) i) ∧ Room k X.A ∧ BindsK Γ.pt X.K x fd ps := O.lam X.base G (fun _ _ h => h) GExt.refl O.clo

/-! ### readings -/
def Rd_ {α : Type} (r : R α) (XO : Nat → List D → Sta → Prop) (P : α → Sta → Prop) : Prop := match r with
  | .ok a s => P a s
  | .exc x ds s => XO x ds s
  | .bad => False
theorem Rd_.bind {α β : Type} {r : R α} {f : α → Sta → R β} {XO : Nat → List D → Sta → Prop} {P : β → Sta → Prop} : Rd_ (r.bind f) XO P = Rd_ r XO fun a s => Rd_ (f a s) XO P := by
  cases r <;> rfl
theorem Rd_.imp {α : Type} {r : R α} {XO XO' : Nat → List D → Sta → Prop} {P P' : α → Sta → Prop} (h : Rd_ r XO P) (hx : ∀ x ds s, XO x ds s → XO' x ds s) (hp : ∀ a s, P a s → P' a s) : Rd_ r XO' P' := by
  cases r with
  | ok a s => exact hp a s h
  | exc x ds s => exact hx x ds s h
  | bad => exact h
def XOut (G : Glob) (XW : WX) (W : Ow) (H : Hp) (σ : L2.St) (x : Nat) (ds : List D) (s' : Sta) : Prop := ∀ cls dx W' H', ResX G W H σ s' x ds cls dx W' H' → XW cls (some dx) σ H'
section
variable {cf : CallF} {io : Nat → Option Nat} {G : Glob} {XW : WX}
theorem XOut.mono {W W1 : Ow} {H H1 : Hp} {σ : L2.St} (g : Go W H W1 H1) {x : Nat} {ds : List D} {s : Sta} (h : XOut G XW W H σ x ds s) : XOut G XW W1 H1 σ x ds s :=
  fun cls dx W' H' r => h cls dx W' H' ⟨r.sim, g.trans r.go, r.not, r.cls, r.val⟩
variable (cf io G XW)
/-- an expression's value -/
def RE (c : C) : TE := fun σ H Q => ∃ W s, Sim G W H s σ ∧ NoT W ∧ Rd_ (evC cf io false c s) (XOut G XW W H σ) fun d s' => ∀ v W' H', Res G W H σ s' d.1 d.2 v W' H' → Q v H'
/-- a test -/
def RT (c : C) : TT := fun σ H Q => ∃ W s, Sim G W H s σ ∧ NoT W ∧ Rd_ (evC cf io true c s) (XOut G XW W H σ) fun d s' => ∃ b, d.1 = .bl b ∧ ∀ W' H', Sim G W' H' s' σ → Go W H W' H' → NoT W' → Q b H'
/-- values -/
def RV (es : CL) : TA := fun σ H Q => ∃ W s, Sim G W H s σ ∧ NoT W ∧ Rd_ (evV cf io es s) (XOut G XW W H σ) fun ds s' => ∀ vs W' H', Sim G W' H' s' σ → Go W H W' H' → NoT W' → RepL G W' H' ds vs → Q vs H'
/-- an operand that has come -/
def PAr (G : Glob) (W : Ow) (H : Hp) (σ : L2.St) (p : Arg) (v : V) : Prop := match p with
  | .v i => σ[i]? = some (some v)
  | .d d => Rep G W H d v
def RP1 (c : C) : TE := fun σ H Q => ∃ W s, Sim G W H s σ ∧ NoT W ∧ Rd_ (evP1 cf io c s) (XOut G XW W H σ) fun p s' => ∀ v W' H', Sim G W' H' s' σ → Go W H W' H' → NoT W' → PAr G W' H' σ p v → Q v H'
inductive PArL (G : Glob) (W : Ow) (H : Hp) (σ : L2.St) : List Arg → List V → Prop
  | nil : PArL G W H σ [] []
  | cons {p : Arg} {v : V} {ps : List Arg} {vs : List V} : PAr G W H σ p v → PArL G W H σ ps vs → PArL G W H σ (p :: ps) (v :: vs)
def RP (es : CL) : TA := fun σ H Q => ∃ W s, Sim G W H s σ ∧ NoT W ∧ Rd_ (evP cf io es s) (XOut G XW W H σ) fun ps s' => ∀ vs W' H', Sim G W' H' s' σ → Go W H W' H' → NoT W' → PArL G W' H' σ ps vs → Q vs H'
variable {cf io G XW}
theorem PAr.mono {W W' : Ow} {H H' : Hp} {σ : L2.St} {p : Arg} {v : V} (g : Go W H W' H') (h : PAr G W H σ p v) : PAr G W' H' σ p v := by
  cases p with
  | v i => exact h
  | d d => exact Rep.mono g h
theorem PArL.get {W : Ow} {H : Hp} {σ : L2.St} {s : Sta} (S : Sim G W H s σ) : ∀ {ps : List Arg} {vs : List V} {ds : List D}, PArL G W H σ ps vs → getL s.e ps = some ds → Rep1L G W H ds vs
  | _, _, _, .nil, e => by simp only [getL] at e; cases e; exact .nil
  | _, _, _, .cons (p := p) r t, e => by
    simp only [getL] at e
    split at e
    · rename_i d hd
      split at e
      · rename_i ds hds
        cases e
        refine .cons ?_ (PArL.get S t hds)
        cases p with
        | v i =>
          obtain ⟨v', h1, h2⟩ := S.get (show slotD s.e i = some d from hd)
          have h3 : σ[i]? = some (some _) := r
          rw [h1] at h3
          cases h3
          exact h2.elim .inl fun z => .inr ⟨i, z⟩
        | d d' =>
          cases (show some d' = some d from hd)
          exact .inl r
      · cases e
    · cases e
/-- a subexpression as a value, let go; then the rest -/
theorem step {α : Type} {c : C} {σ : L2.St} {H : Hp} {W : Ow} {s : Sta} {f : D × Bool → Sta → R α} {P : α → Sta → Prop} {k : VK} (S : Sim G W H s σ) (n : NoT W) (h : Rd_ ((evC cf io false c s).bind f) (XOut G XW W H σ) P)
    (go : ∀ d s1 v W1 H1, Sim G W1 H1 s1 σ → NoT W1 → Go W H W1 H1 → Rep G W1 H1 d.1 v → Rd_ (f d s1) (XOut G XW W1 H1 σ) P → k v H1) : RE cf io G XW c σ H k := by
  refine ⟨W, s, S, n, ?_⟩
  rw [Rd_.bind] at h
  refine Rd_.imp h (fun _ _ _ z => z) fun d s1 hf v W1 H1 r => ?_
  exact go d s1 v (dropT W1) H1 r.sim.dropT (dropT_not _) r.go.dropT r.val.rep (Rd_.imp hf (fun _ _ _ z => z.mono r.go.dropT) fun _ _ z => z)
theorem stepT {α : Type} {c : C} {σ : L2.St} {H : Hp} {W : Ow} {s : Sta} {f : Bool → Sta → R α} {P : α → Sta → Prop} {k : Bool → Hp → Prop} (S : Sim G W H s σ) (n : NoT W) (h : Rd_ ((evC cf io true c s).test f) (XOut G XW W H σ) P)
    (go : ∀ b s1 W1 H1, Sim G W1 H1 s1 σ → NoT W1 → Go W H W1 H1 → Rd_ (f b s1) (XOut G XW W1 H1 σ) P → k b H1) : RT cf io G XW c σ H k := by
  refine ⟨W, s, S, n, ?_⟩
  cases e : evC cf io true c s with
  | ok d s1 =>
    rw [e] at h
    obtain ⟨d, o⟩ := d
    cases d with
    | bl b => exact ⟨b, rfl, fun W1 H1 S1 g1 n1 => go b s1 W1 H1 S1 n1 g1 (Rd_.imp h (fun _ _ _ z => z.mono g1) fun _ _ z => z)⟩
    | _ => exact h.elim
  | exc x ds s1 => rw [e] at h; exact h
  | bad => rw [e] at h; exact h.elim
theorem stepP {α : Type} {c : C} {σ : L2.St} {H : Hp} {W : Ow} {s : Sta} {f : Arg → Sta → R α} {P : α → Sta → Prop} {k : VK} (S : Sim G W H s σ) (n : NoT W) (h : Rd_ ((evP1 cf io c s).bind f) (XOut G XW W H σ) P)
    (go : ∀ p s1 v W1 H1, Sim G W1 H1 s1 σ → NoT W1 → Go W H W1 H1 → PAr G W1 H1 σ p v → Rd_ (f p s1) (XOut G XW W1 H1 σ) P → k v H1) : RP1 cf io G XW c σ H k := by
  refine ⟨W, s, S, n, ?_⟩
  rw [Rd_.bind] at h
  exact Rd_.imp h (fun _ _ _ z => z) fun p s1 hf v W1 H1 S1 g1 n1 r => go p s1 v W1 H1 S1 n1 g1 r (Rd_.imp hf (fun _ _ _ z => z.mono g1) fun _ _ z => z)
end
section
variable {X : Cx}
theorem pe_imp {e : Expr} {t t' : TE} (h : PE X e t) (i : ∀ σ H Q, t' σ H Q → t σ H Q) : PE X e t' := ⟨fun pins s σ H Q I q => h.run pins s σ H Q I (i σ H Q q)⟩
theorem pt_imp {e : Expr} {t t' : TT} (h : PT X e t) (i : ∀ σ H Q, t' σ H Q → t σ H Q) : PT X e t' := ⟨fun pins s σ H Q I q => h.run pins s σ H Q I (i σ H Q q)⟩
theorem pw_imp {e : Expr} {t t' : TT} (h : PW X e t) (i : ∀ σ H Q, t' σ H Q → t σ H Q) : PW X e t' := ⟨fun wh pins s σ H Q I q => h.run wh pins s σ H Q I (i σ H Q q)⟩
theorem pa_imp {e : List Expr} {t t' : TA} (h : PA X e t) (i : ∀ σ H Q, t' σ H Q → t σ H Q) : PA X e t' := ⟨fun pos pins s σ H Q I q => h.run pos pins s σ H Q I (i σ H Q q)⟩
variable {cf : CallF} {io : Nat → Option Nat} {G : Glob} {XW : WX}
/-- a value's truth is wanted -/
theorem RT.of {c : C} (hc : ∀ s, evC cf io true c s = fin true (evC cf io false c s)) (hK : X.K = G.K) {e : Expr} (h : PE X e (RE cf io G XW c)) (he : ∀ whole, isTrue e X.env whole = (do let v ← whole; standAt e.pos; holding [v] (truthy v))) : PT X e (RT cf io G XW c) := by
  refine pt_imp (pt_truth h he) fun σ H Q hq => ?_
  obtain ⟨W, s, S, n, q⟩ := hq
  refine ⟨W, s, S, n, ?_⟩
  rw [hc] at q
  cases e : evC cf io false c s with
  | ok d s1 =>
    rw [e] at q
    obtain ⟨d, o⟩ := d
    have q' : Rd_ (match d.truth with | some b => R.ok (D.bl b, false) s1 | none => R.bad) (XOut G XW W H σ) _ := q
    split at q'
    · rename_i b hb
      obtain ⟨b', eb, q'⟩ := q'
      cases eb
      intro v W' H' r
      refine ⟨b, ?_, q' (dropT W') H' r.sim.dropT r.go.dropT (dropT_not _)⟩
      rw [hK]
      exact (Rep1.of r.val.rep).truth hb
    · exact q'.elim
  | exc x ds s1 => rw [e] at q; exact q
  | bad => rw [e] at q; exact q.elim
/-- an expression in all its three uses -/
structure SE3 (cf : CallF) (io : Nat → Option Nat) (G : Glob) (XW : WX) (X : Cx) (e : Expr) (c : C) : Prop where
  re : PE X e (RE cf io G XW c)
  rp : PE X e (RP1 cf io G XW c)
  rt : PT X e (RT cf io G XW c)
/-! ### names and constants -/
section
variable {Γ : Tc} (O : CtxOk Γ cf io G XW X)
theorem res_plain {W W' : Ow} {H H' : Hp} {σ : L2.St} {s' : Sta} {d : D} {v : V} (S : Sim G W' H' s' σ) (g : Go W H W' H') (n : NoT W') (r : Rep G W' H' d v) : Res G W H σ s' d false v W' H' :=
  ⟨S, g, by unfold ValOk; rw [if_neg Bool.false_ne_true]; exact ⟨r, n⟩⟩
include O
theorem pe_var_ {x : Str} {pos : Pos} {i : Nat} (hx : plainName x = true) (h : Γ.slot x = some i) : PE X (.Name x pos) (tVar i) := by
  obtain ⟨h1, h2⟩ := Tc.slot_ok h
  unfold plainName at hx
  rw [Bool.and_eq_true, Bool.not_eq_true', Bool.not_eq_true'] at hx
  exact pe_var (by rw [O.N]; exact h1) (by rw [O.sc]; exact h2) hx.1 hx.2
theorem sE_var {x : Str} {pos : Pos} {i : Nat} (hx : plainName x = true) (h : Γ.slot x = some i) : PE X (.Name x pos) (RE cf io G XW (.var i)) := by
  refine pe_imp (pe_var_ O hx h) fun σ H Q hq => ?_
  obtain ⟨W, s, S, n, q⟩ := hq
  simp only [evC] at q
  split at q
  · rename_i d o e
    obtain ⟨v, h1, h2, h3⟩ := S.freeze e
    exact ⟨v, h1, q v _ _ (res_plain h3 (Go.refl.dropS i) (dropS_not n) h2)⟩
  · exact q.elim
theorem sT_var {x : Str} {pos : Pos} {i : Nat} (hx : plainName x = true) (h : Γ.slot x = some i) : PT X (.Name x pos) (RT cf io G XW (.var i)) := by
  refine pt_imp (pt_truth (pe_var_ O hx h) (fun _ => rfl)) fun σ H Q hq => ?_
  obtain ⟨W, s, S, n, q⟩ := hq
  simp only [evC] at q
  split at q
  · rename_i d e
    split at q
    · rename_i b hb
      obtain ⟨b', eb, q⟩ := q
      cases eb
      obtain ⟨v, h1, h2⟩ := S.get e
      refine ⟨v, h1, b, ?_, q W H S Go.refl n⟩
      rw [O.K]
      exact (show Rep1 G W H d v from h2.elim .inl fun z => .inr ⟨i, z⟩).truth hb
    · exact q.elim
  · exact q.elim
theorem sE_con {e : Expr} {d : D} {v : V} (h : PE X e (tC v)) (r : ∀ W H, Rep G W H d v) : PE X e (RE cf io G XW (.con d)) := by
  refine pe_imp h fun σ H Q hq => ?_
  obtain ⟨W, s, S, n, q⟩ := hq
  exact q v W H (res_plain S Go.refl n (r W H))
/-! ### lists of expressions -/
omit O in
theorem star_cons {e : Expr} {es : List Expr} {env : Env} (h : ∀ e' p, e ≠ .Starred e' p) : starEach (e :: es) env = (false, eval e env) :: starEach es env := by
  cases e <;> first | rfl | exact absurd rfl (h _ _)
omit O in
theorem trE_star {n : Nat} {Γ : Tc} {e : Expr} {c : C} (h : trE n Γ e = some c) : ∀ e' p, e ≠ .Starred e' p := by
  intro e' p z
  subst z
  cases n <;> simp [trE] at h
theorem pa_V {n : Nat} (ih : ∀ e c, trE n Γ e = some c → SE3 cf io G XW X e c) : ∀ {es : List Expr} {cs : CL}, trL (trE n) Γ es = some cs → PA X es (RV cf io G XW cs)
  | [], cs, h => by
    simp only [trL] at h; cases h
    refine pa_imp pa_nil fun σ H Q hq => ?_
    obtain ⟨W, s, S, n, q⟩ := hq
    exact q [] W H S Go.refl n .nil
  | e :: r, cs, h => by
    simp only [trL] at h
    split at h
    · rename_i c hc
      rw [Option.map_eq_some_iff] at h
      obtain ⟨cr, hr, rfl⟩ := h
      refine pa_imp (pa_cons (ih e c hc).re (pa_V ih hr) (star_cons (trE_star hc))) fun σ H Q hq => ?_
      obtain ⟨W, s, S, n, q⟩ := hq
      simp only [evV] at q
      refine step S n q fun d s1 v W1 H1 S1 n1 g1 r1 q1 => ?_
      refine ⟨W1, s1, S1, n1, ?_⟩
      rw [Rd_.bind] at q1
      refine Rd_.imp q1 (fun _ _ _ z => z) fun ds s2 q2 vs W2 H2 S2 g2 n2 r2 => ?_
      exact q2 (v :: vs) W2 H2 S2 (g1.trans g2) n2 (.cons (r1.mono g2) r2)
    · cases h
omit O in
theorem RP1.of {c : C} (hc : ∀ s, evP1 cf io c s = (evC cf io false c s).bind fun d s1 => .ok (.d d.1) s1) {e : Expr} (he : PE X e (RE cf io G XW c)) : PE X e (RP1 cf io G XW c) := by
  refine pe_imp he fun σ H Q hq => ?_
  obtain ⟨W, s, S, n, q⟩ := hq
  rw [hc] at q
  exact step S n q fun d s1 v W1 H1 S1 n1 g1 r1 q1 => q1 v W1 H1 S1 g1 n1 r1
theorem sP_var {x : Str} {pos : Pos} {i : Nat} (hx : plainName x = true) (h : Γ.slot x = some i) : PE X (.Name x pos) (RP1 cf io G XW (.var i)) := by
  refine pe_imp (pe_var_ O hx h) fun σ H Q hq => ?_
  obtain ⟨W, s, S, n, q⟩ := hq
  simp only [evP1] at q
  split at q
  · rename_i d e
    obtain ⟨v, h1, h2⟩ := S.get e
    exact ⟨v, h1, q v W H S Go.refl n h1⟩
  · exact q.elim
theorem SE3.of {e : Expr} {c : C} (re : PE X e (RE cf io G XW c)) (hp : ∀ s, evP1 cf io c s = (evC cf io false c s).bind fun d s1 => .ok (.d d.1) s1) (ht : ∀ s, evC cf io true c s = fin true (evC cf io false c s))
    (he : ∀ whole, isTrue e X.env whole = (do let v ← whole; standAt e.pos; holding [v] (truthy v))) : SE3 cf io G XW X e c :=
  ⟨re, RP1.of hp re, RT.of ht O.K re he⟩
theorem pa_P {n : Nat} (ih : ∀ e c, trE n Γ e = some c → SE3 cf io G XW X e c) : ∀ {es : List Expr} {cs : CL}, trL (trE n) Γ es = some cs → PA X es (RP cf io G XW cs)
  | [], cs, h => by
    simp only [trL] at h; cases h
    refine pa_imp pa_nil fun σ H Q hq => ?_
    obtain ⟨W, s, S, n, q⟩ := hq
    exact q [] W H S Go.refl n .nil
  | e :: r, cs, h => by
    simp only [trL] at h
    split at h
    · rename_i c hc
      rw [Option.map_eq_some_iff] at h
      obtain ⟨cr, hr, rfl⟩ := h
      refine pa_imp (pa_cons (ih e c hc).rp (pa_P ih hr) (star_cons (trE_star hc))) fun σ H Q hq => ?_
      obtain ⟨W, s, S, n, q⟩ := hq
      rw [evP_cons] at q
      refine stepP S n q fun p s1 v W1 H1 S1 n1 g1 r1 q1 => ?_
      refine ⟨W1, s1, S1, n1, ?_⟩
      rw [Rd_.bind] at q1
      refine Rd_.imp q1 (fun _ _ _ z => z) fun ds s2 q2 vs W2 H2 S2 g2 n2 r2 => ?_
      exact q2 (v :: vs) W2 H2 S2 (g1.trans g2) n2 (.cons (r1.mono g2) r2)
    · cases h
/-! ### displays -/
omit O in
theorem RepL.len_most {W : Ow} {H : Hp} {ds : List D} {vs : List V} (r : RepL G W H ds vs) (h : ds.length ≤ most) : vs.length ≤ sizeLine := by rw [← r.length]; exact Nat.le_trans h line_most
omit O in
theorem sE_tup {es : List Expr} {cs : CL} {k : Nat} {pos : Pos} (ha : PA X es (RV cf io G XW cs)) : PE X (.Tuple es k pos) (RE cf io G XW (.mkT cs)) := by
  refine pe_imp (pe_tup ha) fun σ H Q hq => ?_
  obtain ⟨W, s, S, n, q⟩ := hq
  have q' : Rd_ ((evV cf io cs s).bind fun ds s1 => if ds.length ≤ most then R.ok (D.tup ds, false) s1 else .bad) (XOut G XW W H σ) _ := q
  rw [Rd_.bind] at q'
  refine ⟨W, s, S, n, Rd_.imp q' (fun _ _ _ z => z) fun ds s1 q1 vs W1 H1 S1 g1 n1 r1 => ?_⟩
  split at q1
  · rename_i hl
    refine ⟨r1.len_most hl, fun p hp => ?_⟩
    have E := OpEnd.newT_ n1 hp r1
    exact q1 _ _ _ ⟨S1.mono E.go E.kp, g1.trans E.go, E.val⟩
  · exact q1.elim
omit O in
theorem sE_lst {es : List Expr} {cs : CL} {pos : Pos} (ha : PA X es (RV cf io G XW cs)) : PE X (.List es pos) (RE cf io G XW (.mkL cs)) := by
  refine pe_imp (pe_lst ha) fun σ H Q hq => ?_
  obtain ⟨W, s, S, n, q⟩ := hq
  have q' : Rd_ ((evV cf io cs s).bind fun ds s1 => if ds.length ≤ most then R.ok (D.lst ds, true) s1 else .bad) (XOut G XW W H σ) _ := q
  rw [Rd_.bind] at q'
  refine ⟨W, s, S, n, Rd_.imp q' (fun _ _ _ z => z) fun ds s1 q1 vs W1 H1 S1 g1 n1 r1 => ?_⟩
  split at q1
  · rename_i hl
    refine ⟨r1.len_most hl, fun p hp => ?_⟩
    have E : OpEnd G W1 H1 _ _ _ _ _ := OpEnd.newL hp r1
    exact q1 _ _ _ ⟨S1.mono E.go E.kp, g1.trans E.go, E.val⟩
  · exact q1.elim
/-! ### operations -/
omit O in
theorem evC_op (t : Bool) (o : Op) (es : CL) (s : Sta) : evC cf io t (.op o es) s = fin t ((evP cf io es s).bind fun ps s1 => match getL s1.e ps with
    | some ds => match opEv o ds with
      | some d => .ok (d, newOf o d) s1
      | none => .bad
    | none => .bad) := rfl
omit O in
/-- operands have come: the operation -/
theorem op_go {o : Op} {W W1 : Ow} {H H1 : Hp} {σ : L2.St} {s1 : Sta} {ps : List Arg} {vs : List V} {Q : VK} (S1 : Sim G W1 H1 s1 σ) (n1 : NoT W1) (g : Go W H W1 H1) (r : PArL G W1 H1 σ ps vs)
    (q : Rd_ (match getL s1.e ps with
      | some ds => match opEv o ds with
        | some d => R.ok (d, newOf o d) s1
        | none => .bad
      | none => .bad) (XOut G XW W1 H1 σ) fun d s' => ∀ v W' H', Res G W H σ s' d.1 d.2 v W' H' → Q v H') : rOp G o vs H1 Q := by
  split at q
  · rename_i ds hds
    split at q
    · rename_i d hd
      refine ⟨W1, ds, d, n1, r.get S1 hds, hd, fun v W' H' E => ?_⟩
      exact q v W' H' ⟨S1.mono E.go E.kp, g.trans E.go, E.val⟩
    · exact q.elim
  · exact q.elim
omit O in
theorem sE_op2 {o : Op} {a b : C} {ea eb : Expr} (ha : SE3 cf io G XW X ea a) (hb : SE3 cf io G XW X eb b) {e : Expr} (he : PE X e (tOp (rOp2 G o) (RP1 cf io G XW a) (RP1 cf io G XW b))) : PE X e (RE cf io G XW (.op o (.cons a (.cons b .nil)))) := by
  refine pe_imp he fun σ H Q hq => ?_
  obtain ⟨W, s, S, n, q⟩ := hq
  rw [evC_op] at q
  have q : Rd_ ((evP cf io (.cons a (.cons b .nil)) s).bind _) (XOut G XW W H σ) _ := q
  rw [evP_cons] at q
  rw [Rd_.bind, Rd_.bind] at q
  refine ⟨W, s, S, n, Rd_.imp q (fun _ _ _ z => z) fun p1 s1 q1 x W1 H1 S1 g1 n1 r1 => ?_⟩
  rw [evP_cons] at q1
  rw [Rd_.bind, Rd_.bind] at q1
  refine ⟨W1, s1, S1, n1, Rd_.imp q1 (fun _ _ _ z => z.mono g1) fun p2 s2 q2 y W2 H2 S2 g2 n2 r2 => ?_⟩
  have q2 : Rd_ (match getL s2.e [p1, p2] with
      | some ds => match opEv o ds with
        | some d => R.ok (d, newOf o d) s2
        | none => .bad
      | none => .bad) (XOut G XW W H σ) _ := q2
  exact op_go S2 n2 (g1.trans g2) (.cons (r1.mono g2) (.cons r2 .nil)) (Rd_.imp q2 (fun _ _ _ z => z.mono (g1.trans g2)) fun _ _ z => z)
omit O in
theorem sE_opA {o : Op} {cs : CL} {e : Expr} (he : PE X e (fun σ H Q => RP cf io G XW cs σ H fun vs H1 => rOp G o vs H1 Q)) : PE X e (RE cf io G XW (.op o cs)) := by
  refine pe_imp he fun σ H Q hq => ?_
  obtain ⟨W, s, S, n, q⟩ := hq
  rw [evC_op] at q
  have q : Rd_ ((evP cf io cs s).bind _) (XOut G XW W H σ) _ := q
  rw [Rd_.bind] at q
  refine ⟨W, s, S, n, Rd_.imp q (fun _ _ _ z => z) fun ps s1 q1 vs W1 H1 S1 g1 n1 r1 => ?_⟩
  exact op_go S1 n1 g1 r1 (Rd_.imp q1 (fun _ _ _ z => z.mono g1) fun _ _ z => z)
end
end
end PT

set_option Elab.async false
set_option linter.all false
set_option maxRecDepth 100000
set_option maxHeartbeats 4000000
/-! PTf: tests, comparisons, subscripts, calls. -/
namespace PT
open PySem L2 PySem.Spec PyProof.Rows

theorem fin_bind {α : Type} (t : Bool) (r : R α) (f : α → Sta → R (D × Bool)) : fin t (r.bind f) = r.bind fun a s => fin t (f a s) := by
  cases r <;> cases t <;> rfl
theorem fin_false (r : R (D × Bool)) : fin false r = r := by cases r <;> rfl
def isCmp : Op → Bool
  | .eq | .ne | .lt | .le | .gt | .ge | .isIn | .notIn | .isN | .notN => true
  | _ => false
theorem cmp_bl {o : Op} {ds : List D} {d : D} (h : isCmp o = true) (e : opEv o ds = some d) : ∃ b, d = .bl b := by
  unfold opEv at e
  split at e <;> first | (simp [isCmp] at h; done) | (cases e; exact ⟨_, rfl⟩) | (split at e <;> first | (cases e; exact ⟨_, rfl⟩) | (cases e; done)) | (cases e; done)
section
variable {X : Cx} {cf : CallF} {io : Nat → Option Nat} {G : Glob} {XW : WX} {Γ : Tc}
theorem newOf_bl (o : Op) (b : Bool) : newOf o (.bl b) = false := rfl
theorem op_goT {o : Op} (hc : isCmp o = true) {W W1 : Ow} {H H1 : Hp} {σ : L2.St} {s1 : Sta} {ps : List Arg} {vs : List V} {Q : Bool → Hp → Prop} (S1 : Sim G W1 H1 s1 σ) (n1 : NoT W1) (g : Go W H W1 H1) (r : PArL G W1 H1 σ ps vs)
    (q : Rd_ (fin true (match getL s1.e ps with
      | some ds => match opEv o ds with
        | some d => R.ok (d, newOf o d) s1
        | none => .bad
      | none => .bad)) (XOut G XW W1 H1 σ) fun d s' => ∃ b, d.1 = .bl b ∧ ∀ W' H', Sim G W' H' s' σ → Go W H W' H' → NoT W' → Q b H') : rOp G o vs H1 fun x H' => ∃ k, x = .bl k ∧ Q k H' := by
  split at q
  · rename_i ds hds
    split at q
    · rename_i d hd
      obtain ⟨b, rfl⟩ := cmp_bl hc hd
      obtain ⟨b', eb, q⟩ := q
      cases eb
      refine ⟨W1, ds, .bl b, n1, r.get S1 hds, hd, fun v W' H' E => ⟨b, ?_, ?_⟩⟩
      · have := E.val
        unfold ValOk at this
        rw [newOf_bl, if_neg Bool.false_ne_true] at this
        exact (Rep1.of this.1).bl_
      · have nt : NoT W' := by
          have := E.val
          unfold ValOk at this
          rw [newOf_bl, if_neg Bool.false_ne_true] at this
          exact this.2
        exact q W' H' (S1.mono E.go E.kp) (g.trans E.go) nt
    · exact q.elim
  · exact q.elim
theorem sT_op2 {o : Op} (hc : isCmp o = true) {a b : C} {ea eb : Expr} (ha : SE3 cf io G XW X ea a) (hb : SE3 cf io G XW X eb b) {e : Expr} (he : PT X e (tTest (tOp (rOp2 G o) (RP1 cf io G XW a) (RP1 cf io G XW b)))) : PT X e (RT cf io G XW (.op o (.cons a (.cons b .nil)))) := by
  refine pt_imp he fun σ H Q hq => ?_
  obtain ⟨W, s, S, n, q⟩ := hq
  rw [evC_op, fin_bind, evP_cons] at q
  rw [Rd_.bind, Rd_.bind] at q
  refine ⟨W, s, S, n, Rd_.imp q (fun _ _ _ z => z) fun p1 s1 q1 x W1 H1 S1 g1 n1 r1 => ?_⟩
  rw [evP_cons] at q1
  rw [Rd_.bind, Rd_.bind] at q1
  refine ⟨W1, s1, S1, n1, Rd_.imp q1 (fun _ _ _ z => z.mono g1) fun p2 s2 q2 y W2 H2 S2 g2 n2 r2 => ?_⟩
  have q2 : Rd_ (fin true (match getL s2.e [p1, p2] with
      | some ds => match opEv o ds with
        | some d => R.ok (d, newOf o d) s2
        | none => .bad
      | none => .bad)) (XOut G XW W H σ) _ := q2
  exact op_goT hc S2 n2 (g1.trans g2) (.cons (r1.mono g2) (.cons r2 .nil)) (Rd_.imp q2 (fun _ _ _ z => z.mono (g1.trans g2)) fun _ _ z => z)
/-- one operand -/
theorem sE_op1 {o : Op} {a : C} {e : Expr} (he : PE X e (fun σ H Q => RP1 cf io G XW a σ H fun x H1 => rOp G o [x] H1 Q)) : PE X e (RE cf io G XW (.op o (.cons a .nil))) := by
  refine pe_imp he fun σ H Q hq => ?_
  obtain ⟨W, s, S, n, q⟩ := hq
  rw [evC_op] at q
  have q : Rd_ ((evP cf io (.cons a .nil) s).bind _) (XOut G XW W H σ) _ := q
  rw [evP_cons] at q
  rw [Rd_.bind, Rd_.bind] at q
  refine ⟨W, s, S, n, Rd_.imp q (fun _ _ _ z => z) fun p1 s1 q1 x W1 H1 S1 g1 n1 r1 => ?_⟩
  exact op_go S1 n1 g1 (.cons r1 .nil) (Rd_.imp q1 (fun _ _ _ z => z.mono g1) fun _ _ z => z)
theorem sT_op1 {o : Op} (hc : isCmp o = true) {a : C} {e : Expr} (he : PT X e (fun σ H Q => RP1 cf io G XW a σ H fun x H1 => rOp G o [x] H1 fun x H' => ∃ k, x = .bl k ∧ Q k H')) : PT X e (RT cf io G XW (.op o (.cons a .nil))) := by
  refine pt_imp he fun σ H Q hq => ?_
  obtain ⟨W, s, S, n, q⟩ := hq
  rw [evC_op, fin_bind, evP_cons] at q
  rw [Rd_.bind, Rd_.bind] at q
  refine ⟨W, s, S, n, Rd_.imp q (fun _ _ _ z => z) fun p1 s1 q1 x W1 H1 S1 g1 n1 r1 => ?_⟩
  exact op_goT hc S1 n1 g1 (.cons r1 .nil) (Rd_.imp q1 (fun _ _ _ z => z.mono g1) fun _ _ z => z)
theorem nomark_ {op : CmpOp} {b : Expr} {n : Nat} {c : C} (h : trE n Γ b = some c) : behindInMarks op b = false := by
  cases b <;> first | rfl | (cases n <;> simp [trE] at h)
/-! ### comparisons -/
theorem s_cmp (O : CtxOk Γ cf io G XW X) {n : Nat} {op : CmpOp} {o : Op} (ho : copOf op = some o) {ea eb : Expr} {a b : C} {pos : Pos} (hb' : trE n Γ eb = some b) (ha : SE3 cf io G XW X ea a) (hb : SE3 cf io G XW X eb b) :
    SE3 cf io G XW X (.Compare ea [op] [eb] pos) (.op o (.cons a (.cons b .nil))) := by
  have R : OpR X (compareOp op) (rOp2 G o) ∧ isCmp o = true := by
    cases op <;> simp only [copOf] at ho <;> cases ho
    · exact ⟨op_eq_ O.K O.un, rfl⟩
    · exact ⟨op_ne_ O.K O.un, rfl⟩
    · exact ⟨op_lt_, rfl⟩
    · exact ⟨op_le_, rfl⟩
    · exact ⟨op_gt_, rfl⟩
    · exact ⟨op_ge_, rfl⟩
    · exact ⟨op_in_, rfl⟩
    · exact ⟨op_notIn_, rfl⟩
  have re := sE_op2 ha hb (pe_cmpR (pos := pos) R.1 ha.rp hb.rp (nomark_ hb'))
  exact ⟨re, RP1.of (fun _ => rfl) re, sT_op2 R.2 ha hb (pt_cmpR R.1 ha.rp hb.rp (nomark_ hb'))⟩
theorem isN_val {W : Ow} {H : Hp} {d : D} {v : V} (r : Rep1 G W H d v) : decide (v = .non) = d.isNon := by
  have h := r.ref_
  cases d <;> simp_all [D.isNon]
theorem s_isN (O : CtxOk Γ cf io G XW X) {ea : Expr} {a : C} {pos pos' : Pos} {j : Nat} (ha : SE3 cf io G XW X ea a) : SE3 cf io G XW X (.Compare ea [.Is] [.Constant .none j pos'] pos) (.op .isN (.cons a .nil)) := by
  have key : ∀ σ H Q, (RP1 cf io G XW a σ H fun x H1 => rOp G .isN [x] H1 Q) → tIsN (RP1 cf io G XW a) σ H Q := by
    intro σ H Q h
    obtain ⟨W, s, S, n, q⟩ := h
    refine ⟨W, s, S, n, Rd_.imp q (fun _ _ _ z => z) fun p s1 q1 v W1 H1 S1 g1 n1 r1 => ?_⟩
    obtain ⟨W2, ds, d, n2, rl, e, k⟩ := q1 v W1 H1 S1 g1 n1 r1
    obtain ⟨dx, rfl, r⟩ := rl.one
    simp only [opEv] at e
    cases e
    rw [isN_val r]
    exact plainV n2 rfl (.bl _) k
  have re := sE_op1 (o := .isN) (pe_imp (pe_cmp (pos := pos) (pc_isN (j := j) (pos' := pos') ha.rp)) key)
  refine ⟨re, RP1.of (fun _ => rfl) re, sT_op1 rfl (pt_imp (pt_cmp (pos := pos) (pc_isN (j := j) (pos' := pos') ha.rp)) fun σ H Q h => ?_)⟩
  exact key σ H _ h
theorem s_notN (O : CtxOk Γ cf io G XW X) {ea : Expr} {a : C} {pos pos' : Pos} {j : Nat} (ha : SE3 cf io G XW X ea a) : SE3 cf io G XW X (.Compare ea [.IsNot] [.Constant .none j pos'] pos) (.op .notN (.cons a .nil)) := by
  have key : ∀ σ H Q, (RP1 cf io G XW a σ H fun x H1 => rOp G .notN [x] H1 Q) → tNotN (RP1 cf io G XW a) σ H Q := by
    intro σ H Q h
    obtain ⟨W, s, S, n, q⟩ := h
    refine ⟨W, s, S, n, Rd_.imp q (fun _ _ _ z => z) fun p s1 q1 v W1 H1 S1 g1 n1 r1 => ?_⟩
    obtain ⟨W2, ds, d, n2, rl, e, k⟩ := q1 v W1 H1 S1 g1 n1 r1
    obtain ⟨dx, rfl, r⟩ := rl.one
    simp only [opEv] at e
    cases e
    rw [isN_val r]
    exact plainV n2 rfl (.bl _) k
  have re := sE_op1 (o := .notN) (pe_imp (pe_cmp (pos := pos) (pc_notN (j := j) (pos' := pos') ha.rp)) key)
  refine ⟨re, RP1.of (fun _ => rfl) re, sT_op1 rfl (pt_imp (pt_cmp (pos := pos) (pc_notN (j := j) (pos' := pos') ha.rp)) fun σ H Q h => ?_)⟩
  exact key σ H _ h
/-! ### and, or, not, if .. else -/
theorem evC_and (t : Bool) (a b : C) (s : Sta) : evC cf io t (.and a b) s = (evC cf io t a s).test fun x s1 => if x then evC cf io t b s1 else .ok (.bl false, false) s1 := by
  cases t <;> rfl
theorem evC_or (t : Bool) (a b : C) (s : Sta) : evC cf io t (.or a b) s = (evC cf io t a s).test fun x s1 => if x then .ok (.bl true, false) s1 else evC cf io t b s1 := by
  cases t <;> rfl
theorem stepB {α : Type} {c : C} {σ : L2.St} {H : Hp} {W : Ow} {s : Sta} {f : Bool → Sta → R α} {P : α → Sta → Prop} {k : VK} (S : Sim G W H s σ) (n : NoT W) (h : Rd_ ((evC cf io false c s).test f) (XOut G XW W H σ) P)
    (go : ∀ b s1 W1 H1, Sim G W1 H1 s1 σ → NoT W1 → Go W H W1 H1 → Rd_ (f b s1) (XOut G XW W1 H1 σ) P → k (.bl b) H1) : RE cf io G XW c σ H k := by
  refine ⟨W, s, S, n, ?_⟩
  cases e : evC cf io false c s with
  | ok d s1 =>
    rw [e] at h
    obtain ⟨d, o⟩ := d
    cases d with
    | bl b =>
      intro v W1 H1 r
      have hv : v = .bl b ∧ NoT W1 := by
        have := r.val
        unfold ValOk at this
        split at this
        · exact this.elim
        · exact ⟨(Rep1.of this.1).bl_, this.2⟩
      rw [hv.1]
      exact go b s1 W1 H1 r.sim hv.2 r.go (Rd_.imp h (fun _ _ _ z => z.mono r.go) fun _ _ z => z)
    | _ => exact h.elim
  | exc x ds s1 => rw [e] at h; exact h
  | bad => rw [e] at h; exact h.elim
theorem RE.from {c : C} {σ : L2.St} {W W1 : Ow} {H H1 : Hp} {s1 : Sta} {Q : VK} (S1 : Sim G W1 H1 s1 σ) (n1 : NoT W1) (g : Go W H W1 H1) (q : Rd_ (evC cf io false c s1) (XOut G XW W1 H1 σ) fun d s' => ∀ v W' H', Res G W H σ s' d.1 d.2 v W' H' → Q v H') : RE cf io G XW c σ H1 Q :=
  ⟨W1, s1, S1, n1, Rd_.imp q (fun _ _ _ z => z) fun d s2 q2 v W' H' r => q2 v W' H' ⟨r.sim, g.trans r.go, r.val⟩⟩
theorem RT.from {c : C} {σ : L2.St} {W W1 : Ow} {H H1 : Hp} {s1 : Sta} {Q : Bool → Hp → Prop} (S1 : Sim G W1 H1 s1 σ) (n1 : NoT W1) (g : Go W H W1 H1)
    (q : Rd_ (evC cf io true c s1) (XOut G XW W1 H1 σ) fun d s' => ∃ b, d.1 = .bl b ∧ ∀ W' H', Sim G W' H' s' σ → Go W H W' H' → NoT W' → Q b H') : RT cf io G XW c σ H1 Q :=
  ⟨W1, s1, S1, n1, Rd_.imp q (fun _ _ _ z => z) fun d s2 ⟨b, e, q2⟩ => ⟨b, e, fun W' H' S' g' n' => q2 W' H' S' (g.trans g') n'⟩⟩
/-- a list of and, or: as a value, as a test -/
theorem s_bool (O : CtxOk Γ cf io G XW X) {n : Nat} {o : BoolOp} (ih : ∀ e c, trE n Γ e = some c → SE3 cf io G XW X e c) {pos : Pos} : ∀ {es : List Expr} {c : C}, trB (trE n) Γ o es = some c → PE X (.BoolOp o es pos) (RE cf io G XW c) ∧ PW X (.BoolOp o es pos) (RT cf io G XW c)
  | [], _, h => by simp [trB] at h
  | [e], c, h => by
    simp only [trB] at h
    refine ⟨pe_one (ih e c h).re, ?_⟩
    cases o
    · exact pw_and1 (ih e c h).rt
    · exact pw_or1 (ih e c h).rt
  | e :: e' :: r, c, h => by
    simp only [trB] at h
    split at h
    · rename_i a ha
      rw [Option.map_eq_some_iff] at h
      obtain ⟨b, hb, rfl⟩ := h
      obtain ⟨hb1, hb2⟩ := s_bool O ih hb
      cases o with
      | And =>
        refine ⟨pe_imp (pe_and (ih e a ha).re hb1) fun σ H Q hq => ?_, pw_imp (pw_and (ih e a ha).rt hb2) fun σ H Q hq => ?_⟩
        · obtain ⟨W, s, S, n, q⟩ := hq
          rw [evC_and] at q
          refine stepB S n q fun x s1 W1 H1 S1 n1 g1 q1 => ⟨x, rfl, ?_⟩
          cases x with
          | true => exact RE.from S1 n1 g1 q1
          | false => exact q1 _ _ _ (res_plain S1 g1 n1 (.bl _))
        · obtain ⟨W, s, S, n, q⟩ := hq
          rw [evC_and] at q
          refine stepT S n q fun x s1 W1 H1 S1 n1 g1 q1 => ?_
          cases x with
          | true => exact RT.from S1 n1 g1 q1
          | false =>
            obtain ⟨b', eb, q1⟩ := q1
            cases eb
            exact q1 W1 H1 S1 g1 n1
      | Or =>
        refine ⟨pe_imp (pe_or (ih e a ha).re hb1) fun σ H Q hq => ?_, pw_imp (pw_or (ih e a ha).rt hb2) fun σ H Q hq => ?_⟩
        · obtain ⟨W, s, S, n, q⟩ := hq
          rw [evC_or] at q
          refine stepB S n q fun x s1 W1 H1 S1 n1 g1 q1 => ⟨x, rfl, ?_⟩
          cases x with
          | true => exact q1 _ _ _ (res_plain S1 g1 n1 (.bl _))
          | false => exact RE.from S1 n1 g1 q1
        · obtain ⟨W, s, S, n, q⟩ := hq
          rw [evC_or] at q
          refine stepT S n q fun x s1 W1 H1 S1 n1 g1 q1 => ?_
          cases x with
          | true =>
            obtain ⟨b', eb, q1⟩ := q1
            cases eb
            exact q1 W1 H1 S1 g1 n1
          | false => exact RT.from S1 n1 g1 q1
    · cases h
theorem trB_form {n : Nat} {o : BoolOp} {e e' : Expr} {r : List Expr} {c : C} (h : trB (trE n) Γ o (e :: e' :: r) = some c) : (∃ a b, c = .and a b) ∨ ∃ a b, c = .or a b := by
  simp only [trB] at h
  split at h
  · rw [Option.map_eq_some_iff] at h
    obtain ⟨b, hb, rfl⟩ := h
    cases o
    · exact .inl ⟨_, _, rfl⟩
    · exact .inr ⟨_, _, rfl⟩
  · cases h
theorem s_boolop (O : CtxOk Γ cf io G XW X) {n : Nat} {o : BoolOp} (ih : ∀ e c, trE n Γ e = some c → SE3 cf io G XW X e c) {pos : Pos} {e e' : Expr} {r : List Expr} {c : C} (h : trB (trE n) Γ o (e :: e' :: r) = some c) : SE3 cf io G XW X (.BoolOp o (e :: e' :: r) pos) c := by
  obtain ⟨h1, h2⟩ := s_bool O ih (pos := pos) h
  refine ⟨h1, RP1.of (fun s => ?_) h1, h2.pt⟩
  rcases trB_form h with ⟨a, b, rfl⟩ | ⟨a, b, rfl⟩ <;> rfl
theorem s_not (O : CtxOk Γ cf io G XW X) {ea : Expr} {a : C} {pos : Pos} (ha : SE3 cf io G XW X ea a) : SE3 cf io G XW X (.UnaryOp .Not ea pos) (.not a) := by
  have re : PE X (.UnaryOp .Not ea pos) (RE cf io G XW (.not a)) := by
    refine ⟨fun pins s0 σ H Q I hq => ?_⟩
    refine UnaryOp_ ?_
    obtain ⟨W, s, S, n, q⟩ := hq
    have hr : RE cf io G XW a σ H fun v H1 => ∃ b, TruV X.K v H1 b ∧ Q (.bl (!b)) H1 := by
      refine step S n (show Rd_ ((evC cf io false a s).bind _) _ _ from q) fun d s1 v W1 H1 S1 n1 g1 r1 q1 => ?_
      split at q1
      · rename_i b hb
        exact ⟨b, by rw [O.K]; exact (Rep1.of r1).truth hb, q1 _ _ _ (res_plain S1 g1 n1 (.bl _))⟩
      · exact q1.elim
    refine thn (ha.re.run pins s0 σ H _ I hr) fun v s1 ⟨x, H1, I1, r1, b, tb, q1⟩ => ?_
    exact not_of (thn (tru_ok pins s1 σ H1 x v (fun c H2 => Q (.bl (!c)) H2) I1 r1 ⟨b, tb, q1⟩) fun c s2 ⟨H2, I2, q2⟩ => ⟨.bl (!c), H2, I2, rfl, q2⟩)
  refine ⟨re, RP1.of (fun _ => rfl) re, pt_imp (pt_not (pos := pos) ha.rt) fun σ H Q hq => ?_⟩
  obtain ⟨W, s, S, n, q⟩ := hq
  refine stepT S n q fun x s1 W1 H1 S1 n1 g1 q1 => ?_
  obtain ⟨b', eb, q1⟩ := q1
  cases eb
  exact q1 W1 H1 S1 g1 n1
theorem s_ite (O : CtxOk Γ cf io G XW X) {ec ea eb : Expr} {c a b : C} {pos : Pos} (hc : SE3 cf io G XW X ec c) (ha : SE3 cf io G XW X ea a) (hb : SE3 cf io G XW X eb b) : SE3 cf io G XW X (.IfExp ec ea eb pos) (.ite c a b) := by
  have re : PE X (.IfExp ec ea eb pos) (RE cf io G XW (.ite c a b)) := by
    refine pe_imp (pe_ifExp hc.rt ha.re hb.re) fun σ H Q hq => ?_
    obtain ⟨W, s, S, n, q⟩ := hq
    refine stepT S n (show Rd_ ((evC cf io true c s).test _) _ _ from q) fun x s1 W1 H1 S1 n1 g1 q1 => ?_
    cases x with
    | true => exact RE.from S1 n1 g1 q1
    | false => exact RE.from S1 n1 g1 q1
  refine ⟨re, RP1.of (fun _ => rfl) re, ⟨fun pins s σ H Q I hq => ?_⟩⟩
  refine PyProof.Rows.isTrue_IfExp ?_
  have ht : RT cf io G XW c σ H fun b' H1 => if b' = true then RT cf io G XW a σ H1 Q else RT cf io G XW b σ H1 Q := by
    obtain ⟨W, s, S, n, q⟩ := hq
    refine stepT S n (show Rd_ ((evC cf io true c s).test _) _ _ from q) fun x s1 W1 H1 S1 n1 g1 q1 => ?_
    cases x with
    | true => exact RT.from S1 n1 g1 q1
    | false => exact RT.from S1 n1 g1 q1
  refine thn (hc.rt.run pins s σ H _ I ht) fun d s1 ⟨H1, I1, q1⟩ => ?_
  cases d with
  | true => exact ha.rt.run pins s1 σ H1 Q I1 q1
  | false => exact hb.rt.run pins s1 σ H1 Q I1 q1
end
end PT

set_option Elab.async false
set_option linter.all false
set_option maxRecDepth 100000
set_option maxHeartbeats 4000000
/-! PTg: chains, subscripts, calls. -/
namespace PT
open PySem L2 PySem.Spec PyProof.Rows
section
variable {X : Cx} {cf : CallF} {io : Nat → Option Nat} {G : Glob} {XW : WX} {Γ : Tc}
/-! ### a op b op c -/
theorem chain_t (o p : Op) (a b c : C) (s : Sta) : evC cf io true (.chain o p a b c) s = evC cf io false (.chain o p a b c) s := by
  have f : ∀ r : R (D × Bool), (∀ d o' s', r = .ok (d, o') s' → o' = false ∧ ∃ b, d = .bl b) → fin true r = r := by
    intro r h
    cases r with
    | ok d s' =>
      obtain ⟨d, o'⟩ := d
      obtain ⟨rfl, b, rfl⟩ := h d o' s' rfl
      rfl
    | exc x ds s' => rfl
    | bad => rfl
  have e : evC cf io false (.chain o p a b c) s = fin false _ := rfl
  show fin true _ = fin false _
  rw [fin_false]
  refine f _ fun d o' s' h => ?_
  cases ha : evC cf io false a s with
  | ok x s1 =>
    rw [ha] at h
    cases hb : evC cf io false b s1 with
    | ok y s2 =>
      have h : (R.bind (evC cf io false b s1) _) = _ := h
      rw [hb] at h
      have h : (match opEv o [x.1, y.1] with
        | some (.bl true) => (evC cf io false c s2).bind fun z s3 => match opEv p [y.1, z.1] with
          | some (.bl b) => R.ok (D.bl b, false) s3
          | _ => .bad
        | some (.bl false) => .ok (.bl false, false) s2
        | _ => .bad) = _ := h
      split at h
      · cases hc : evC cf io false c s2 with
        | ok z s3 =>
          rw [hc] at h
          have h : (match opEv p [y.1, z.1] with
            | some (.bl b) => R.ok (D.bl b, false) s3
            | _ => .bad) = _ := h
          split at h
          · cases h; exact ⟨rfl, _, rfl⟩
          · cases h
        | exc _ _ _ => rw [hc] at h; cases h
        | bad => rw [hc] at h; cases h
      · cases h; exact ⟨rfl, _, rfl⟩
      · cases h
    | exc _ _ _ => have h : (R.bind (evC cf io false b s1) _) = _ := h; rw [hb] at h; cases h
    | bad => have h : (R.bind (evC cf io false b s1) _) = _ := h; rw [hb] at h; cases h
  | exc _ _ _ => rw [ha] at h; cases h
  | bad => rw [ha] at h; cases h
theorem chain_go {o p : Op} {a b c : C} {σ : L2.St} {H : Hp} {W : Ow} {s : Sta} {P : D × Bool → Sta → Prop} {K : VK} (S : Sim G W H s σ) (n : NoT W) (q : Rd_ (evC cf io false (.chain o p a b c) s) (XOut G XW W H σ) P)
    (fi : ∀ b s' W' H', Sim G W' H' s' σ → Go W H W' H' → NoT W' → P (.bl b, false) s' → K (.bl b) H') : tChain (rOp2 G o) (rOp2 G p) (RE cf io G XW a) (RE cf io G XW b) (RE cf io G XW c) σ H K := by
  have q : Rd_ ((evC cf io false a s).bind fun x s1 => (evC cf io false b s1).bind fun y s2 => match opEv o [x.1, y.1] with
    | some (.bl true) => (evC cf io false c s2).bind fun z s3 => match opEv p [y.1, z.1] with
      | some (.bl b) => R.ok (D.bl b, false) s3
      | _ => .bad
    | some (.bl false) => .ok (.bl false, false) s2
    | _ => .bad) (XOut G XW W H σ) P := by
    have e : evC cf io false (.chain o p a b c) s = fin false _ := rfl
    rw [e, fin_false] at q
    exact q
  refine step S n q fun x s1 v W1 H1 S1 n1 g1 r1 q1 => ?_
  refine step S1 n1 q1 fun y s2 u W2 H2 S2 n2 g2 r2 q2 => ?_
  have bl_of : ∀ {b : Bool} {z : V} {W3 : Ow} {H3 : Hp} {W0 : Ow} {H0 : Hp}, OpEnd G W0 H0 (.bl b) false z W3 H3 → z = .bl b ∧ NoT W3 := fun {b z W3 H3 W0 H0} E => by
    have := E.val
    unfold ValOk at this
    rw [if_neg Bool.false_ne_true] at this
    exact ⟨(Rep1.of this.1).bl_, this.2⟩
  split at q2
  · rename_i ho
    refine ⟨W2, [x.1, y.1], .bl true, n2, .cons (.of (r1.mono g2)) (.cons (.of r2) .nil), ho, fun z W3 H3 E => ⟨true, (bl_of E).1, ?_⟩⟩
    rw [if_pos rfl]
    have S3 := S2.mono E.go E.kp
    have n3 := (bl_of E).2
    refine step S3 n3 (Rd_.imp q2 (fun _ _ _ z => z.mono E.go) fun _ _ z => z) fun w s4 z' W4 H4 S4 n4 g4 r4 q4 => ?_
    split at q4
    · rename_i b hb
      refine ⟨W4, [y.1, w.1], .bl b, n4, .cons (.of ((r2.mono E.go).mono g4)) (.cons (.of r4) .nil), hb, fun z5 W5 H5 E5 => ?_⟩
      rw [(bl_of E5).1]
      exact fi b s4 W5 H5 (S4.mono E5.go E5.kp) ((((g1.trans g2).trans E.go).trans g4).trans E5.go) (bl_of E5).2 q4
    · exact q4.elim
  · rename_i ho
    refine ⟨W2, [x.1, y.1], .bl false, n2, .cons (.of (r1.mono g2)) (.cons (.of r2) .nil), ho, fun z W3 H3 E => ⟨false, (bl_of E).1, ?_⟩⟩
    rw [if_neg Bool.false_ne_true]
    exact fi false s2 W3 H3 (S2.mono E.go E.kp) ((g1.trans g2).trans E.go) (bl_of E).2 q2
  · exact q2.elim
theorem cop_R (O : CtxOk Γ cf io G XW X) {op : CmpOp} {o : Op} (ho : copOf op = some o) : OpR X (compareOp op) (rOp2 G o) := by
  cases op <;> simp only [copOf] at ho <;> cases ho
  · exact op_eq_ O.K O.un
  · exact op_ne_ O.K O.un
  · exact op_lt_
  · exact op_le_
  · exact op_gt_
  · exact op_ge_
  · exact op_in_
  · exact op_notIn_
theorem s_chain (O : CtxOk Γ cf io G XW X) {n : Nat} {op op' : CmpOp} {o p : Op} (ho : copOf op = some o) (hp : copOf op' = some p) {ea eb ec : Expr} {a b c : C} {pos : Pos} (hc' : trE n Γ ec = some c) (ha : SE3 cf io G XW X ea a) (hb : SE3 cf io G XW X eb b) (hc : SE3 cf io G XW X ec c) :
    SE3 cf io G XW X (.Compare ea [op, op'] [eb, ec] pos) (.chain o p a b c) := by
  have hm : lastMarks [op, op'] [eb, ec] = false := nomark_ (op := op') hc'
  have re : PE X (.Compare ea [op, op'] [eb, ec] pos) (RE cf io G XW (.chain o p a b c)) := by
    refine pe_imp (pe_chain (pos := pos) (cop_R O ho) (cop_R O hp) ha.re hb.re hc.re hm) fun σ H Q hq => ?_
    obtain ⟨W, s, S, n, q⟩ := hq
    exact chain_go S n q fun b s' W' H' S' g' n' k => k _ _ _ (res_plain S' g' n' (.bl _))
  refine ⟨re, RP1.of (fun _ => rfl) re, pt_imp (pt_chain (pos := pos) (cop_R O ho) (cop_R O hp) ha.re hb.re hc.re hm) fun σ H Q hq => ?_⟩
  obtain ⟨W, s, S, n, q⟩ := hq
  rw [chain_t] at q
  refine chain_go S n q fun b s' W' H' S' g' n' k => ?_
  obtain ⟨b', e, k⟩ := k
  cases e
  exact ⟨b, rfl, k W' H' S' g' n'⟩
/-! ### subscripts -/
theorem s_bin (O : CtxOk Γ cf io G XW X) {op : Operator} {o : Op} (ho : bopOf op = some o) {ea eb : Expr} {a b : C} {pos : Pos} (ha : SE3 cf io G XW X ea a) (hb : SE3 cf io G XW X eb b) : SE3 cf io G XW X (.BinOp ea op eb pos) (.op o (.cons a (.cons b .nil))) := by
  have R : OpR X (binaryOp op) (rOp2 G o) := by
    cases op <;> simp only [bopOf] at ho <;> cases ho
    · exact op_add_
    · exact op_sub_
    · exact op_mul_
    · exact op_mod_
    · exact op_fdiv_
  exact .of O (sE_op2 ha hb (pe_op (pos := pos) R ha.rp hb.rp)) (fun _ => rfl) (fun _ => rfl) (fun _ => rfl)
theorem s_idx (O : CtxOk Γ cf io G XW X) {n : Nat} {ea eb : Expr} {a b : C} {pos : Pos} (hb' : trE n Γ eb = some b) (ha : SE3 cf io G XW X ea a) (hb : SE3 cf io G XW X eb b) : SE3 cf io G XW X (.Subscript ea eb pos) (.op .idx (.cons a (.cons b .nil))) := by
  have hs : PlainIx eb := by
    intro o i
    cases eb <;> first | rfl | (cases n <;> simp [trE] at hb')
  exact .of O (sE_op2 ha hb (pe_ix (pos := pos) (ix_ O.K) ha.rp hb.rp hs)) (fun _ => rfl) (fun _ => rfl) (fun _ => rfl)
theorem sl_ {r : V → Option Int → Option Int → Hp → VK → Prop} (h : ∀ x lo hi H Q, r x lo hi H Q → rSlS x lo hi H Q) : SlR X r :=
  fun pins s σ H x v vl vu lo hi sl Q I rx hs pl pu q => sl_str pins s σ H x v vl vu lo hi sl Q I rx hs pl pu (h x lo hi H Q q)
theorem s_slc1 (O : CtxOk Γ cf io G XW X) {ea eb : Expr} {a b : C} {pos p2 : Pos} (ha : SE3 cf io G XW X ea a) (hb : SE3 cf io G XW X eb b) : SE3 cf io G XW X (.Subscript ea (.Slice (some eb) none none p2) pos) (.op (.slc true false) (.cons a (.cons b .nil))) := by
  have re : PE X (.Subscript ea (.Slice (some eb) none none p2) pos) (RE cf io G XW (.op (.slc true false) (.cons a (.cons b .nil)))) := by
    refine pe_imp (pe_slice (pos := pos) (p2 := p2) (sl_ (r := fun x lo hi H Q => hi = none ∧ ∃ i, lo = some i ∧ rOp G (.slc true false) [x, .int i] H Q) fun x lo hi H Q h => ?_) ha.rp (po_some hb.rp) po_none) fun σ H Q hq => ?_
    · obtain ⟨rfl, i, rfl, W, ds, d, n, rl, e, k⟩ := h
      obtain ⟨d1, d2, rfl, r1, r2⟩ := rl.two
      cases d1 <;> simp only [opEv] at e <;> try contradiction
      split at e <;> try contradiction
      rename_i heq
      split at e
      · cases e
        cases heq
        rename_i hl
        have := r2.int_
        cases this
        exact ⟨_, r1.str_, Nat.le_trans hl line_most, plainV n rfl (.str _) k⟩
      · cases e
    · obtain ⟨W, s, S, n, q⟩ := hq
      rw [evC_op] at q
      have q : Rd_ ((evP cf io (.cons a (.cons b .nil)) s).bind _) (XOut G XW W H σ) _ := q
      rw [evP_cons] at q
      rw [Rd_.bind, Rd_.bind] at q
      refine ⟨W, s, S, n, Rd_.imp q (fun _ _ _ z => z) fun p1 s1 q1 x W1 H1 S1 g1 n1 r1 => ?_⟩
      rw [evP_cons] at q1
      rw [Rd_.bind, Rd_.bind] at q1
      refine ⟨W1, s1, S1, n1, Rd_.imp q1 (fun _ _ _ z => z.mono g1) fun p2' s2 q2 y W2 H2 S2 g2 n2 r2 => ?_⟩
      have q2 : Rd_ (match getL s2.e [p1, p2'] with
          | some ds => match opEv (.slc true false) ds with
            | some d => R.ok (d, newOf (.slc true false) d) s2
            | none => .bad
          | none => .bad) (XOut G XW W H σ) _ := q2
      have hop := op_go S2 n2 (g1.trans g2) (.cons (r1.mono g2) (.cons r2 .nil)) (Rd_.imp q2 (fun _ _ _ z => z.mono (g1.trans g2)) fun _ _ z => z)
      obtain ⟨W3, ds, d, n3, rl, e, k⟩ := hop
      obtain ⟨d1, d2, rfl, z1, z2⟩ := rl.two
      have hi : ∃ i, d2 = .int i := by
        cases d1 <;> simp only [opEv] at e <;> try contradiction
        split at e <;> try contradiction
        rename_i heq
        cases heq
        exact ⟨_, rfl⟩
      obtain ⟨i, rfl⟩ := hi
      have := z2.int_
      subst this
      exact ⟨i, rfl, rfl, i, rfl, W3, _, d, n3, .cons z1 (.cons z2 .nil), e, k⟩
  exact .of O re (fun _ => rfl) (fun _ => rfl) (fun _ => rfl)
theorem s_slc2 (O : CtxOk Γ cf io G XW X) {ea eb : Expr} {a b : C} {pos p2 : Pos} (ha : SE3 cf io G XW X ea a) (hb : SE3 cf io G XW X eb b) : SE3 cf io G XW X (.Subscript ea (.Slice none (some eb) none p2) pos) (.op (.slc false true) (.cons a (.cons b .nil))) := by
  have re : PE X (.Subscript ea (.Slice none (some eb) none p2) pos) (RE cf io G XW (.op (.slc false true) (.cons a (.cons b .nil)))) := by
    refine pe_imp (pe_slice (pos := pos) (p2 := p2) (sl_ (r := fun x lo hi H Q => lo = none ∧ ∃ i, hi = some i ∧ rOp G (.slc false true) [x, .int i] H Q) fun x lo hi H Q h => ?_) ha.rp po_none (po_some hb.rp)) fun σ H Q hq => ?_
    · obtain ⟨rfl, i, rfl, W, ds, d, n, rl, e, k⟩ := h
      obtain ⟨d1, d2, rfl, r1, r2⟩ := rl.two
      cases d1 <;> simp only [opEv] at e <;> try contradiction
      split at e <;> try contradiction
      rename_i heq
      split at e
      · cases e
        cases heq
        rename_i hl
        have := r2.int_
        cases this
        exact ⟨_, r1.str_, Nat.le_trans hl line_most, plainV n rfl (.str _) k⟩
      · cases e
    · obtain ⟨W, s, S, n, q⟩ := hq
      rw [evC_op] at q
      have q : Rd_ ((evP cf io (.cons a (.cons b .nil)) s).bind _) (XOut G XW W H σ) _ := q
      rw [evP_cons] at q
      rw [Rd_.bind, Rd_.bind] at q
      refine ⟨W, s, S, n, Rd_.imp q (fun _ _ _ z => z) fun p1 s1 q1 x W1 H1 S1 g1 n1 r1 => ?_⟩
      rw [evP_cons] at q1
      rw [Rd_.bind, Rd_.bind] at q1
      refine ⟨W1, s1, S1, n1, Rd_.imp q1 (fun _ _ _ z => z.mono g1) fun p2' s2 q2 y W2 H2 S2 g2 n2 r2 => ?_⟩
      have q2 : Rd_ (match getL s2.e [p1, p2'] with
          | some ds => match opEv (.slc false true) ds with
            | some d => R.ok (d, newOf (.slc false true) d) s2
            | none => .bad
          | none => .bad) (XOut G XW W H σ) _ := q2
      have hop := op_go S2 n2 (g1.trans g2) (.cons (r1.mono g2) (.cons r2 .nil)) (Rd_.imp q2 (fun _ _ _ z => z.mono (g1.trans g2)) fun _ _ z => z)
      obtain ⟨W3, ds, d, n3, rl, e, k⟩ := hop
      obtain ⟨d1, d2, rfl, z1, z2⟩ := rl.two
      have hi : ∃ i, d2 = .int i := by
        cases d1 <;> simp only [opEv] at e <;> try contradiction
        split at e <;> try contradiction
        rename_i heq
        cases heq
        exact ⟨_, rfl⟩
      obtain ⟨i, rfl⟩ := hi
      have := z2.int_
      subst this
      exact ⟨i, rfl, rfl, i, rfl, W3, _, d, n3, .cons z1 (.cons z2 .nil), e, k⟩
  exact .of O re (fun _ => rfl) (fun _ => rfl) (fun _ => rfl)
end
end PT

set_option Elab.async false
set_option linter.all false
set_option maxRecDepth 100000
set_option maxHeartbeats 4000000
/-! PTh: calls of built-ins and of the text's defs. -/
namespace PT
open PySem L2 PySem.Spec PyProof.Rows
section
variable {X : Cx} {cf : CallF} {io : Nat → Option Nat} {G : Glob} {XW : WX} {Γ : Tc}
theorem gl_of (O : CtxOk Γ cf io G XW X) {x : Str} (h : Γ.glob x = true) : Gl X x := by
  show X.env.scope.names.lookup x = _
  rw [O.sc]
  exact of_decide_eq_true h
theorem blt_of (O : CtxOk Γ cf io G XW X) {x : Str} (h : Γ.blt x = true) : Gl X x ∧ X.mg x = none := by
  unfold Tc.blt at h
  rw [Bool.and_eq_true] at h
  exact ⟨gl_of O h.1, O.bl x (of_decide_eq_true h.2)⟩
theorem plain1 {es : List Expr} {env : PySem.Env} (h : ∀ e ∈ es, ∀ e' p, e ≠ .Starred e' p) {pos : Pos} : (backTo pos (starEach es env)).any (·.1) = false := by
  induction es with
  | nil => rfl
  | cons a r ih =>
    rw [star_cons (h a List.mem_cons_self)]
    have := ih fun e he => h e (List.mem_cons_of_mem _ he)
    simpa [backTo] using this
theorem trL_star {n : Nat} {Γ : Tc} : ∀ {es : List Expr} {cs : CL}, trL (trE n) Γ es = some cs → ∀ e ∈ es, ∀ e' p, e ≠ .Starred e' p
  | [], _, _, e, he => by cases he
  | a :: r, cs, h, e, he => by
    simp only [trL] at h
    split at h
    · rename_i c hc
      rw [Option.map_eq_some_iff] at h
      obtain ⟨cr, hr, _⟩ := h
      rcases List.mem_cons.mp he with rfl | he
      · exact trE_star hc
      · exact trL_star hr e he
    · cases h
/-- T(e) -/
theorem s_ty (O : CtxOk Γ cf io G XW X) {x : Str} {T : String} {o : Op} {e : Expr} {cs : CL} {p pos : Pos} (hb : Γ.blt x = true) (hv : bootBuiltins x = some (.type T)) (hn : x ≠ "__name__") (hd : (x == ("__debug__" : Str)) = false)
    (hc : CallR X (.type T) (rOp G o)) (hs : ∀ e' p, e ≠ .Starred e' p) (ha : PA X [e] (RP cf io G XW cs)) : SE3 cf io G XW X (.Call (.Name x p) [e] [] pos) (.op o cs) := by
  obtain ⟨h1, h2⟩ := blt_of O hb
  exact .of O (sE_opA (pe_callTy hc h1 h2 hv ha hn hd (star_cons hs) rfl)) (fun _ => rfl) (fun _ => rfl) (fun _ => rfl)
theorem s_blt (O : CtxOk Γ cf io G XW X) {x : Str} {T : String} {o : Op} {e : Expr} {cs : CL} {p pos : Pos} (hb : Γ.blt x = true) (hv : bootBuiltins x = some (.builtin T)) (hn : x ≠ "__name__") (hd : (x == ("__debug__" : Str)) = false)
    (hc : CallR X (.builtin T) (rOp G o)) (hs : ∀ e' p, e ≠ .Starred e' p) (ha : PA X [e] (RP cf io G XW cs)) : SE3 cf io G XW X (.Call (.Name x p) [e] [] pos) (.op o cs) := by
  obtain ⟨h1, h2⟩ := blt_of O hb
  exact .of O (sE_opA (pe_callB hc h1 h2 hv ha hn hd (star_cons hs) rfl)) (fun _ => rfl) (fun _ => rfl) (fun _ => rfl)
/-! ### isinstance -/
theorem tyOf_name {x : Str} {t : Ty} (h : tyOf x = some t) : bootBuiltins x = some (.type t.name) ∧ x ≠ "__name__" ∧ (x == ("__debug__" : Str)) = false := by
  unfold tyOf at h
  split at h
  · rename_i e; subst e; cases h; exact ⟨by decide +kernel, by decide +kernel, by decide +kernel⟩
  split at h
  · rename_i e; subst e; cases h; exact ⟨by decide +kernel, by decide +kernel, by decide +kernel⟩
  split at h
  · rename_i e; subst e; cases h; exact ⟨by decide +kernel, by decide +kernel, by decide +kernel⟩
  split at h
  · rename_i e; subst e; cases h; exact ⟨by decide +kernel, by decide +kernel, by decide +kernel⟩
  split at h
  · rename_i e; subst e; cases h; exact ⟨by decide +kernel, by decide +kernel, by decide +kernel⟩
  split at h
  · rename_i e; subst e; cases h; exact ⟨by decide +kernel, by decide +kernel, by decide +kernel⟩
  · cases h
theorem pe_tyname (O : CtxOk Γ cf io G XW X) {x : Str} {t : Ty} {p : Pos} (hb : Γ.blt x = true) (h : tyOf x = some t) : PE X (.Name x p) (tC (.ty t.name)) := by
  obtain ⟨h1, h2⟩ := blt_of O hb
  obtain ⟨e1, e2, e3⟩ := tyOf_name h
  exact pe_bltn h1 h2 e1 rfl e2 e3
/-- the classes as values -/
def tTys (ts : List Ty) : TA := fun _ H Q => Q (ts.map fun t => V.ty t.name) H
theorem pa_tys (O : CtxOk Γ cf io G XW X) : ∀ {es : List Expr} {ts : List Ty}, tysOf Γ es = some ts → PA X es (tTys ts)
  | [], ts, h => by simp only [tysOf] at h; cases h; exact pa_nil
  | e :: r, ts, h => by
    cases e <;> simp only [tysOf] at h <;> try contradiction
    split at h
    · rename_i hb
      split at h
      · rename_i t ht
        rw [Option.map_eq_some_iff] at h
        obtain ⟨ts', h', rfl⟩ := h
        exact pa_imp (pa_cons (pe_tyname O hb ht) (pa_tys O h')) fun σ H Q q => q
      · cases h
    · cases h
theorem tys_len : ∀ {es : List Expr} {ts : List Ty}, tysOf Γ es = some ts → es.length = ts.length
  | [], ts, h => by simp only [tysOf] at h; cases h; rfl
  | e :: r, ts, h => by
    cases e <;> simp only [tysOf] at h <;> try contradiction
    split at h
    · split at h
      · rw [Option.map_eq_some_iff] at h
        obtain ⟨ts', h', rfl⟩ := h
        rw [List.length_cons, List.length_cons, tys_len h']
      · cases h
    · cases h
theorem s_isi (O : CtxOk Γ cf io G XW X) {n : Nat} {ea et : Expr} {a : C} {ts : List Ty} {p pos : Pos} (hb : Γ.blt "isinstance" = true) (hea : trE n Γ ea = some a) (ht : isiOf Γ et = some ts) (ha : SE3 cf io G XW X ea a) :
    SE3 cf io G XW X (.Call (.Name "isinstance" p) [ea, et] [] pos) (.op (.isi ts) (.cons a .nil)) := by
  obtain ⟨h1, h2⟩ := blt_of O hb
  have hst : ∀ e' p, et ≠ .Starred e' p := by
    intro e' p z; subst z; simp [isiOf] at ht
  have hb2 : bootBuiltins "isinstance" = some (.builtin "isinstance") := by decide +kernel
  have re : PE X (.Call (.Name "isinstance" p) [ea, et] [] pos) (RE cf io G XW (.op (.isi ts) (.cons a .nil))) := by
    refine sE_op1 ?_
    cases et <;> simp only [isiOf] at ht <;> try contradiction
    case Name x p2 =>
      simp only [tysOf] at ht
      split at ht
      · rename_i hbx
        split at ht
        · rename_i t ht'
          cases ht
          refine pe_imp (pe_callB (call_isi_ O.K t) h1 h2 hb2 (pa_cons ha.rp (pa_cons (pe_tyname O hbx ht') pa_nil) (star_cons (trE_star hea))) (by decide) (by decide) (star_cons (trE_star hea)) (by rfl)) fun σ H Q hq => ?_
          obtain ⟨W, s, S, n, q⟩ := hq
          refine ⟨W, s, S, n, Rd_.imp q (fun _ _ _ z => z) fun p1 s1 q1 x W1 H1 S1 g1 n1 r1 => ?_⟩
          exact ⟨x, rfl, q1 x W1 H1 S1 g1 n1 r1⟩
        · cases ht
      · cases ht
    case Tuple es k p2 =>
      split at ht
      · rename_i hl
        have hlen := tys_len ht
        match ts, hlen with
        | t :: r, hlen =>
          refine pe_imp (pe_callB (call_isiT_ O.K t r) h1 h2 hb2 (pa_cons ha.rp (pa_cons (pe_tup (pos := p2) (x1 := k) (pa_tys O ht)) pa_nil) (star_cons (trE_star hea))) (by decide) (by decide) (star_cons (trE_star hea)) (by rfl)) fun σ H Q hq => ?_
          obtain ⟨W, s, S, n, q⟩ := hq
          refine ⟨W, s, S, n, Rd_.imp q (fun _ _ _ z => z) fun p1 s1 q1 x W1 H1 S1 g1 n1 r1 => ?_⟩
          refine ⟨?_, fun pp hp => ?_⟩
          · rw [List.length_map, ← hlen]
            exact Nat.le_trans hl.2 (by rw [sizeLine_eq]; decide)
          · obtain ⟨g, kp, nt⟩ := go_new (W := W1) (o := .tup ((t :: r).map fun t => V.ty t.name)) hp
            exact ⟨x, pp, rfl, upd_same, q1 x _ _ (S1.mono g kp) (g1.trans g) (nt n1) (r1.mono g)⟩
        | [], hlen => rw [hlen] at hl; exact absurd hl.1 (by decide)
      · cases ht
  exact .of O re (fun _ => rfl) (fun _ => rfl) (fun _ => rfl)
/-! ### s.strip(t) -/
theorem s_strip (O : CtxOk Γ cf io G XW X) {y z : Str} {yp ap cp zp : Pos} {k : Nat} {i : C} (hl : ap.endLine = cp.line) (hi : SE3 cf io G XW X (.Name y yp) i) :
    SE3 cf io G XW X (.Call (.Attribute (.Name y yp) "strip" ap) [.Constant (.str z) k zp] [] cp) (.op .strip (.cons i (.cons (.con (.str z)) .nil))) := by
  have re : PE X (.Call (.Attribute (.Name y yp) "strip" ap) [.Constant (.str z) k zp] [] cp) (RE cf io G XW (.op .strip (.cons i (.cons (.con (.str z)) .nil)))) := by
    refine pe_imp (pe_bm PySem.F.plainAttrs_str PySem.F.slot_str_strip PySem.F.type_str_strip mt_stripChars hi.rp (pa_cons pe_str pa_nil) (by rfl) (by rfl) (by rw [hl]; exact beq_self_eq_true _) (by rfl) (by rfl)) fun σ H Q hq => ?_
    obtain ⟨W, s, S, n, q⟩ := hq
    rw [evC_op] at q
    have q : Rd_ ((evP cf io (.cons i (.cons (.con (.str z)) .nil)) s).bind _) (XOut G XW W H σ) _ := q
    rw [evP_cons] at q
    rw [Rd_.bind, Rd_.bind] at q
    refine ⟨W, s, S, n, Rd_.imp q (fun _ _ _ z => z) fun p1 s1 q1 x W1 H1 S1 g1 n1 r1 => ?_⟩
    have q1 : Rd_ (match getL s1.e [p1, .d (.str z)] with
      | some ds => match opEv .strip ds with
        | some d => R.ok (d, newOf .strip d) s1
        | none => .bad
      | none => .bad) (XOut G XW W H σ) _ := q1
    obtain ⟨W3, ds, d, n3, rl, e, kq⟩ := op_go S1 n1 g1 (.cons r1 (.cons (show PAr G W1 H1 σ (.d (.str z)) (.str z) from .str z) .nil)) (Rd_.imp q1 (fun _ _ _ z => z.mono g1) fun _ _ z => z)
    obtain ⟨d1, d2, rfl, z1, z2⟩ := rl.two
    cases d1 <;> simp only [opEv] at e <;> try contradiction
    cases d2 <;> simp only [] at e <;> try contradiction
    split at e
    · cases e
      rename_i hm
      have e1 := z1.str_
      have e2 := z2.str_
      cases e2
      subst e1
      exact ⟨rfl, _, _, rfl, rfl, Nat.le_trans hm line_most, plainV n3 rfl (.str _) kq⟩
    · cases e
  exact .of O re (fun _ => rfl) (fun _ => rfl) (fun _ => rfl)
/-! ### a call of a def of the text -/
def toArg : D ⊕ Nat → Arg
  | .inl d => .d d
  | .inr i => .v i
/-- a call's arguments -/
def RF (cf : CallF) (io : Nat → Option Nat) (G : Glob) (XW : WX) (l : Option Nat) (j : Nat) (es : CL) : TA := fun σ H Q => ∃ W s, Sim G W H s σ ∧ NoT W ∧ Rd_ (evF cf io l j es s) (XOut G XW W H σ) fun as s' => ∀ vs W' H', Sim G W' H' s' σ → Go W H W' H' → NoT W' → PArL G W' H' σ (as.map toArg) vs → Q vs H'
theorem evF_cons (l : Option Nat) (j : Nat) (c : C) (r : CL) (s : Sta) : evF cf io l j (.cons c r) s = if l = some j then match c with
      | .var i => match slotD s.e i with
        | some _ => (evF cf io l (j + 1) r s).bind fun as s2 => .ok (.inr i :: as) s2
        | none => .bad
      | _ => .bad
    else (evC cf io false c s).bind fun d s1 => (evF cf io l (j + 1) r s1).bind fun as s2 => .ok (.inl d.1 :: as) s2 := by
  first
  | (simp only [evF]; done)
  | (simp only [evF]
     split
     · cases c <;> rfl
     · rfl)
theorem pa_F {n : Nat} (l : Option Nat) (ih : ∀ e c, trE n Γ e = some c → SE3 cf io G XW X e c) : ∀ {es : List Expr} {cs : CL} (j : Nat), trL (trE n) Γ es = some cs → PA X es (RF cf io G XW l j cs)
  | [], cs, j, h => by
    simp only [trL] at h; cases h
    refine pa_imp pa_nil fun σ H Q hq => ?_
    obtain ⟨W, s, S, n, q⟩ := hq
    exact q [] W H S Go.refl n .nil
  | e :: r, cs, j, h => by
    simp only [trL] at h
    split at h
    · rename_i c hc
      rw [Option.map_eq_some_iff] at h
      obtain ⟨cr, hr, rfl⟩ := h
      have rest := pa_F l ih (j + 1) hr
      by_cases hj : l = some j
      · refine pa_imp (pa_cons (ih e c hc).rp rest (star_cons (trE_star hc))) fun σ H Q hq => ?_
        obtain ⟨W, s, S, n, q⟩ := hq
        rw [evF_cons, if_pos hj] at q
        cases c with
        | var i =>
          have q : Rd_ (match slotD s.e i with | some _ => (evF cf io l (j + 1) cr s).bind fun as s2 => R.ok (Sum.inr i :: as) s2 | none => R.bad) (XOut G XW W H σ) _ := q
          refine ⟨W, s, S, n, ?_⟩
          simp only [evP1]
          split at q
          · rename_i d e
            try rw [e]
            intro v W1 H1 S1 g1 n1 r1
            refine ⟨W1, s, S1, n1, ?_⟩
            rw [Rd_.bind] at q
            refine Rd_.imp q (fun _ _ _ z => z.mono g1) fun as s2 q2 vs W2 H2 S2 g2 n2 r2 => ?_
            exact q2 (v :: vs) W2 H2 S2 (g1.trans g2) n2 (.cons (show PAr G W2 H2 σ (.v i) v from r1) r2)
          · exact q.elim
        | _ => exact q.elim
      · refine pa_imp (pa_cons (ih e c hc).re rest (star_cons (trE_star hc))) fun σ H Q hq => ?_
        obtain ⟨W, s, S, n, q⟩ := hq
        rw [evF_cons, if_neg hj] at q
        refine step S n q fun d s1 v W1 H1 S1 n1 g1 r1 q1 => ?_
        refine ⟨W1, s1, S1, n1, ?_⟩
        rw [Rd_.bind] at q1
        refine Rd_.imp q1 (fun _ _ _ z => z) fun ds s2 q2 vs W2 H2 S2 g2 n2 r2 => ?_
        exact q2 (v :: vs) W2 H2 S2 (g1.trans g2) n2 (.cons (show PAr G W2 H2 σ (.d d.1) v from r1.mono g2) r2)
    · cases h
/-- where the lent ones stand -/
theorem evF_at (l : Option Nat) : ∀ {es : CL} {j : Nat} {s s' : Sta} {as : List (D ⊕ Nat)}, evF cf io l j es s = .ok as s' → ∀ k i, as[k]? = some (.inr i) → l = some (j + k)
  | .nil, j, s, s', as, h, k, i, hk => by
    simp only [evF] at h; cases h; simp at hk
  | .cons c r, j, s, s', as, h, k, i, hk => by
    rw [evF_cons] at h
    split at h
    · rename_i hj
      cases c with
      | var i' =>
        have h : (match slotD s.e i' with | some _ => (evF cf io l (j + 1) r s).bind fun as s2 => R.ok (Sum.inr i' :: as) s2 | none => R.bad) = R.ok as s' := h
        split at h
        · cases e : evF cf io l (j + 1) r s with
          | ok as' s2 =>
            rw [e] at h
            cases h
            cases k with
            | zero => simpa using hj
            | succ k =>
              have h2 := evF_at l e k i (by simpa using hk)
              rw [h2]
              congr 1
              omega
          | exc x ds s2 => rw [e] at h; cases h
          | bad => rw [e] at h; cases h
        · cases h
      | _ => cases h
    · cases e1 : evC cf io false c s with
      | ok d s1 =>
        rw [e1] at h
        have h : (evF cf io l (j + 1) r s1).bind (fun as s2 => R.ok (Sum.inl d.1 :: as) s2) = R.ok as s' := h
        cases e : evF cf io l (j + 1) r s1 with
        | ok as' s2 =>
          rw [e] at h
          cases h
          cases k with
          | zero => simp at hk
          | succ k =>
            have := evF_at l e k i (by simpa using hk)
            rw [this]
            congr 1
            omega
        | exc x ds s2 => rw [e] at h; cases h
        | bad => rw [e] at h; cases h
      | exc x ds s1 => rw [e1] at h; cases h
      | bad => rw [e1] at h; cases h
end
end PT

set_option Elab.async false
set_option linter.all false
set_option maxRecDepth 100000
set_option maxHeartbeats 4000000
/-! PTi: a call of a def of the text. -/
namespace PT
open PySem L2 PySem.Spec PyProof.Rows

def lentAt (i : Nat) : List (D ⊕ Nat) → Option Nat
  | [] => none
  | .inl _ :: r => (lentAt i r).map (· + 1)
  | .inr k :: r => if k = i then some 0 else (lentAt i r).map (· + 1)
theorem lentAt_some {i : Nat} : ∀ {as : List (D ⊕ Nat)} {j : Nat}, lentAt i as = some j → as[j]? = some (.inr i)
  | [], _, h => by simp [lentAt] at h
  | .inl d :: r, j, h => by
    simp only [lentAt, Option.map_eq_some_iff] at h
    obtain ⟨k, h1, rfl⟩ := h
    simpa using lentAt_some h1
  | .inr k :: r, j, h => by
    simp only [lentAt] at h
    split at h
    · rename_i e; cases h; rw [e]; rfl
    · rw [Option.map_eq_some_iff] at h
      obtain ⟨k, h1, rfl⟩ := h
      simpa using lentAt_some h1
theorem lentAt_none {i : Nat} : ∀ {as : List (D ⊕ Nat)}, lentAt i as = none → i ∉ lents as
  | [], _ => by simp [lents]
  | .inl d :: r, h => by
    simp only [lentAt, Option.map_eq_none_iff] at h
    exact lentAt_none (as := r) h
  | .inr k :: r, h => by
    simp only [lentAt] at h
    split at h
    · cases h
    · rename_i e
      rw [Option.map_eq_none_iff] at h
      simp only [lents, List.mem_cons, not_or]
      exact ⟨fun z => e z.symm, lentAt_none (as := r) h⟩
theorem lents_at {i : Nat} : ∀ {as : List (D ⊕ Nat)}, i ∈ lents as → ∃ j : Nat, as[j]? = some (.inr i)
  | [], h => by simp [lents] at h
  | .inl d :: r, h => by
    obtain ⟨j, hj⟩ := lents_at (as := r) h
    exact ⟨j + 1, by simpa using hj⟩
  | .inr k :: r, h => by
    simp only [lents, List.mem_cons] at h
    rcases h with rfl | h
    · exact ⟨0, rfl⟩
    · obtain ⟨j, hj⟩ := lents_at h
      exact ⟨j + 1, by simpa using hj⟩
theorem at_lents {i : Nat} : ∀ {as : List (D ⊕ Nat)} {j : Nat}, as[j]? = some (.inr i) → i ∈ lents as
  | [], _, h => by simp at h
  | .inl d :: r, j, h => by
    cases j with
    | zero => simp at h
    | succ j => exact at_lents (as := r) (by simpa using h)
  | .inr k :: r, j, h => by
    cases j with
    | zero => simp at h; simp [lents, h]
    | succ j => simp only [lents, List.mem_cons]; exact .inr (at_lents (as := r) (by simpa using h))
/-- ownership as the callee sees it -/
def toC (as : List (D ⊕ Nat)) (W : Ow) : Ow := fun a => match W a with
  | none => none
  | some (.s i) => match lentAt i as with
    | some j => some (.s j)
    | none => some .f
  | some .t => some .f
  | some .f => some .f
  | some .b => some .b
/-- .. and behind the call as the caller does -/
def fromC (as : List (D ⊕ Nat)) (W W' : Ow) : Ow := fun a => match W' a with
  | none => none
  | some .t => some .t
  | some (.s j) => match as[j]? with
    | some (.inr i) => some (.s i)
    | _ => none
  | some .f => W a
  | some .b => some .b
section
variable {as : List (D ⊕ Nat)} {W W' : Ow} {a : Addr} {i j : Nat}
theorem toC_none (h : W a = none) : toC as W a = none := by unfold toC; rw [h]
theorem toC_far (h : W a = some .f) : toC as W a = some .f := by unfold toC; rw [h]
theorem toC_lent (h : W a = some (.s i)) (e : lentAt i as = some j) : toC as W a = some (.s j) := by unfold toC; rw [h]; simp only [e]
theorem toC_other (h : W a = some (.s i)) (e : lentAt i as = none) : toC as W a = some .f := by unfold toC; rw [h]; simp only [e]
theorem toC_s (h : toC as W a = some (.s j)) : ∃ i, W a = some (.s i) ∧ lentAt i as = some j := by
  unfold toC at h
  split at h
  · cases h
  · rename_i i e
    split at h
    · rename_i k hk; cases h; exact ⟨i, e, hk⟩
    · cases h
  · cases h
  · cases h
  · cases h
theorem toC_not : NoT (toC as W) := fun a h => by
  unfold toC at h
  split at h
  · cases h
  · split at h <;> cases h
  · cases h
  · cases h
  · cases h
theorem toC_b (h : W a = some .b) : toC as W a = some .b := by unfold toC; rw [h]
theorem toC_ofb (h : toC as W a = some .b) : W a = some .b := by
  unfold toC at h
  split at h
  · cases h
  · split at h <;> cases h
  · cases h
  · cases h
  · rename_i e; exact e
theorem fromC_b (h : W' a = some .b) : fromC as W W' a = some .b := by unfold fromC; rw [h]
theorem fromC_none (h : W' a = none) : fromC as W W' a = none := by unfold fromC; rw [h]
theorem fromC_t (h : W' a = some .t) : fromC as W W' a = some .t := by unfold fromC; rw [h]
theorem fromC_s (h : W' a = some (.s j)) (e : as[j]? = some (.inr i)) : fromC as W W' a = some (.s i) := by unfold fromC; rw [h]; simp only [e]
theorem fromC_far (h : W' a = some .f) : fromC as W W' a = W a := by unfold fromC; rw [h]
theorem fromC_go {H H' : Hp} (n : NoT W) (g : Go (toC as W) H W' H') : Go W H (fromC as W W') H' where
  keep := fun b o h w => g.keep b o h (w.elim (fun w => .inl (toC_none w)) fun w => .inr (toC_far w))
  dom := g.dom
  less := fun b w h => fromC_none (g.less b (toC_none w) h)
  far := fun b w h => by rw [fromC_far (g.far b (toC_far w) h)]; exact w
  own := fun b o h => by
    unfold fromC at h
    split at h
    · cases h
    · rename_i e
      cases h
      rcases g.own b _ e with z | z
      · exact absurd z (toC_not b)
      · exact .inr z
    · rename_i j e
      split at h
      · rename_i i hi
        cases h
        rcases g.own b _ e with z | z
        · obtain ⟨i', h1, h2⟩ := toC_s z
          have := lentAt_some h2
          rw [hi] at this
          cases this
          exact .inl h1
        · exact .inr z
      · cases h
    · exact .inl h
    · rename_i e
      cases h
      exact (g.own b _ e).elim (fun z => .inl (toC_ofb z)) .inr
theorem fromC_not (n : NoT W) (n' : NoT W') : NoT (fromC as W W') := fun b h => by
  unfold fromC at h
  split at h
  · cases h
  · rename_i e; exact n' b e
  · split at h <;> cases h
  · exact n b h
  · cases h
end
section
variable {X : Cx} {cf : CallF} {io : Nat → Option Nat} {G : Glob} {XW : WX} {Γ : Tc}
theorem argsAt_ {as : List (D ⊕ Nat)} {W : Ow} {H : Hp} {σ : L2.St} {s : Sta} (S : Sim G W H s σ) (uniq : ∀ (j k i i' : Nat), as[j]? = some (Sum.inr i) → as[k]? = some (Sum.inr i') → j = k) : ∀ {l : List (D ⊕ Nat)} {ds : List (D × Bool)} {vs : List V} (m : Nat), (∀ j : Nat, l[j]? = as[m + j]?) →
    PArL G W H σ (l.map toArg) vs → argsOf s.e l = some ds → ds.length = vs.length ∧ ∀ (j : Nat) (d : D) (o : Bool), ds[j]? = some (d, o) → ∃ v, vs[j]? = some v ∧ (if o = true then OwnC G (toC as W) H (.s (m + j)) d v else Rep G (toC as W) H d v) ∧ (o = true → ∃ i : Nat, as[m + j]? = some (Sum.inr i))
  | [], ds, vs, m, _, r, e => by
    simp only [argsOf] at e; cases e
    cases r
    exact ⟨rfl, fun j d o h => by simp at h⟩
  | .inl d :: l, ds, vs, m, hl, r, e => by
    simp only [argsOf] at e
    split at e
    · rename_i ds' hds
      cases e
      cases r with
      | cons r t =>
        rename_i v vs'
        obtain ⟨h1, h2⟩ := argsAt_ S uniq (m + 1) (fun j => by have := hl (j + 1); rw [show m + 1 + j = m + (j + 1) from by omega]; simpa using this) t hds
        refine ⟨by simp [h1], fun j d' o h => ?_⟩
        cases j with
        | zero =>
          simp at h
          obtain ⟨rfl, rfl⟩ := h
          refine ⟨v, rfl, ?_, fun z => nomatch z⟩
          rw [if_neg Bool.false_ne_true]
          exact Rep.monoW (fun a w => toC_none w) (show Rep G W H d v from r)
        | succ j =>
          obtain ⟨v', q1, q2, q3⟩ := h2 j d' o (by simpa using h)
          refine ⟨v', by simpa using q1, ?_, ?_⟩
          · rw [show m + (j + 1) = m + 1 + j from by omega]; exact q2
          · rw [show m + (j + 1) = m + 1 + j from by omega]; exact q3
    · cases e
  | .inr i :: l, ds, vs, m, hl, r, e => by
    simp only [argsOf] at e
    split at e
    · rename_i d he
      split at e
      · rename_i ds' hds
        cases e
        cases r with
        | cons r t =>
          rename_i v vs'
          obtain ⟨h1, h2⟩ := argsAt_ S uniq (m + 1) (fun j => by have := hl (j + 1); rw [show m + 1 + j = m + (j + 1) from by omega]; simpa using this) t hds
          have hm : as[m]? = some (.inr i) := by have := hl 0; simpa using this.symm
          refine ⟨by simp [h1], fun j d' o h => ?_⟩
          cases j with
          | zero =>
            simp at h
            obtain ⟨rfl, rfl⟩ := h
            obtain ⟨v', q1, q2⟩ := S.own i _ he
            have r' : σ[i]? = some (some v) := r
            rw [q1] at r'
            cases r'
            refine ⟨_, rfl, ?_, fun _ => ⟨i, hm⟩⟩
            rw [if_pos rfl]
            refine q2.handW (fun r => Rep.monoW (fun a w => toC_none w) r) fun a w => ?_
            cases e : lentAt i as with
            | none => exact absurd (at_lents hm) (lentAt_none e)
            | some j' =>
              have := uniq _ _ _ _ (lentAt_some e) hm
              rw [toC_lent w e, this]
              rfl
          | succ j =>
            obtain ⟨v', q1, q2, q3⟩ := h2 j d' o (by simpa using h)
            refine ⟨v', by simpa using q1, ?_, ?_⟩
            · rw [show m + (j + 1) = m + 1 + j from by omega]; exact q2
            · rw [show m + (j + 1) = m + 1 + j from by omega]; exact q3
      · cases e
    · cases e
theorem parL_get {W : Ow} {H : Hp} {σ : L2.St} : ∀ {ps : List Arg} {vs : List V} {j : Nat} {p : Arg}, PArL G W H σ ps vs → ps[j]? = some p → ∃ v, vs[j]? = some v ∧ PAr G W H σ p v
  | _, _, _, _, .nil, e => by simp at e
  | _, _, 0, _, .cons r _, e => by simp at e; subst e; exact ⟨_, rfl, r⟩
  | _, _, j + 1, _, .cons _ t, e => by
    obtain ⟨v, h1, h2⟩ := parL_get (j := j) t (by simpa using e)
    exact ⟨v, by simpa using h1, h2⟩
/-- the caller's slots behind a call -/
theorem sim_after {as : List (D ⊕ Nat)} {W W' : Ow} {H H' : Hp} {σ : L2.St} {s : Sta} {vs : List V} {l : Option Nat} {out : Option D} {e' : Slots} {m' : List Unit} (S : Sim G W H s σ) (n : NoT W) (hl : ∀ (k i : Nat), as[k]? = some (Sum.inr i) → l = some k)
    (r : PArL G W H σ (as.map toArg) vs) (ce : CallEnd G (toC as W) H l vs out W' H') (he : setOut s.e (lents as) out = some e') (hd : ∀ i ∈ lents as, i < s.e.length) : Sim G (fromC as W W') H' ⟨e', m'⟩ σ := by
  have g := fromC_go n ce.go
  have rp : ∀ {d v}, Rep G W' H' d v → Rep G (fromC as W W') H' d v := fun r => Rep.monoW (fun a w => fromC_none w) r
  have other : ∀ i d, i ∉ lents as → s.e[i]? = some (some (d, true)) → ∃ v, σ[i]? = some (some v) ∧ OwnC G (fromC as W W') H' (.s i) d v := fun i d hi e => by
    obtain ⟨v, h1, h2⟩ := S.own i d e
    refine ⟨v, h1, h2.mono g fun a x hx hw => ?_⟩
    have hc : toC as W a = some .f := by
      cases e : lentAt i as with
      | none => exact toC_other hw e
      | some j => exact absurd (at_lents (lentAt_some e)) hi
    have hne : H a ≠ none := by rw [hx]; exact fun z => nomatch z
    exact ⟨ce.go.keep a x hx (.inr hc), by rw [fromC_far (ce.go.far a hc hne)]; exact hw⟩
  have slot : ∀ i d, s.e[i]? = some (some (d, false)) → ∃ v, σ[i]? = some (some v) ∧ Rep G (fromC as W W') H' d v := fun i d e => by
    obtain ⟨v, h1, h2⟩ := S.slot i d e
    exact ⟨v, h1, h2.mono g⟩
  unfold setOut at he
  split at he
  · rename_i h0
    cases he
    exact ⟨S.len, slot, fun i d e => other i d (by rw [h0]; simp) e, ce.tab.monoW (fun a w => fromC_none w) fun a w => fromC_b w⟩
  · rename_i i d hls
    cases he
    have hi : i < s.e.length := hd i (by rw [hls]; simp)
    obtain ⟨j, hj⟩ := lents_at (i := i) (as := as) (by rw [hls]; simp)
    obtain ⟨d', v, e1, e2, e3⟩ := ce.put j (hl j i hj)
    cases e1
    obtain ⟨v', h1, h2⟩ := parL_get (j := j) (p := .v i) r (by rw [List.getElem?_map, hj]; rfl)
    rw [e2] at h1
    cases h1
    have h2 : σ[i]? = some (some v) := h2
    refine ⟨by simpa using S.len, fun k d' e => ?_, fun k d' e => ?_, ce.tab.monoW (fun a w => fromC_none w) fun a w => fromC_b w⟩
    · by_cases hk : i = k
      · subst hk
        have e : (s.e.set i (some (d, true)))[i]? = some (some (d', false)) := e
        rw [List.getElem?_set_self hi] at e
        cases e
      · have e : (s.e.set i (some (d, true)))[k]? = some (some (d', false)) := e
        rw [List.getElem?_set_ne hk] at e
        exact slot k d' e
    · by_cases hk : i = k
      · subst hk
        have e : (s.e.set i (some (d, true)))[i]? = some (some (d', true)) := e
        rw [List.getElem?_set_self hi] at e
        cases e
        exact ⟨v, h2, e3.handW rp fun a w => fromC_s w hj⟩
      · have e : (s.e.set i (some (d, true)))[k]? = some (some (d', true)) := e
        rw [List.getElem?_set_ne hk] at e
        exact other k d' (by rw [hls]; simpa using fun z => hk z.symm) e
  · cases he
theorem evC_call (t : Bool) (f : Nat) (es : CL) (s : Sta) : evC cf io t (.call f es) s = fin t ((evF cf io (io f) 0 es s).bind fun as s1 => match argsOf s1.e as with
    | some ds => match cf f ds s1.m with
      | .ok d o out m => match setOut s1.e (lents as) out with
        | some e => .ok (d, o) ⟨e, m⟩
        | none => .bad
      | .exc x ds out m => match setOut s1.e (lents as) out with
        | some e => .exc x ds ⟨e, m⟩
        | none => .bad
      | .bad => .bad
    | none => .bad) := rfl
theorem lent_lt {e : Slots} : ∀ {as : List (D ⊕ Nat)} {ds : List (D × Bool)}, argsOf e as = some ds → ∀ i ∈ lents as, i < e.length
  | [], _, _, i, h => by simp [lents] at h
  | .inl d :: r, ds, h, i, hi => by
    simp only [argsOf] at h
    split at h
    · rename_i ds' hds
      exact lent_lt hds i hi
    · cases h
  | .inr k :: r, ds, h, i, hi => by
    simp only [argsOf] at h
    split at h
    · rename_i d he
      split at h
      · rename_i ds' hds
        simp only [lents, List.mem_cons] at hi
        rcases hi with rfl | hi
        · exact (List.getElem?_eq_some_iff.mp he).1
        · exact lent_lt hds i hi
      · cases h
    · cases h
theorem call_key {i : Nat} {cs : CL} {σ : L2.St} {H : Hp} {Q : VK} (hq : RE cf io G XW (.call i cs) σ H Q) : RF cf io G XW (io i) 0 cs σ H (fun vs H1 => spF G cf (io i) i (vs ++ []) H1 Q (WE XW σ)) := by
  obtain ⟨W, s, S, n, q⟩ := hq
  rw [evC_call, fin_false] at q
  have q0 := q
  rw [Rd_.bind] at q0
  have at0 : ∀ {as s'}, evF cf io (io i) 0 cs s = .ok as s' → ∀ (k i' : Nat), as[k]? = some (Sum.inr i') → io i = some k := fun {as s'} e k i' hk => by
    have := evF_at (io := io) (cf := cf) (io i) e k i' hk
    rw [this]; congr 1; omega
  refine ⟨W, s, S, n, ?_⟩
  cases eF : evF cf io (io i) 0 cs s with
  | exc x ds s' => rw [eF] at q0; exact q0
  | bad => rw [eF] at q0; exact q0.elim
  | ok as s1 =>
    rw [eF] at q0
    have q0 : Rd_ (match argsOf s1.e as with
      | some ds => match cf i ds s1.m with
        | .ok d o out m => match setOut s1.e (lents as) out with
          | some e => R.ok (d, o) ⟨e, m⟩
          | none => .bad
        | .exc x ds out m => match setOut s1.e (lents as) out with
          | some e => .exc x ds ⟨e, m⟩
          | none => .bad
        | .bad => .bad
      | none => .bad) (XOut G XW W H σ) _ := q0
    have hat := at0 eF
    intro vs W1 H1 S1 g1 n1 r1
    split at q0
    · rename_i ds hds
      have uniq : ∀ (j k i i' : Nat), as[j]? = some (Sum.inr i) → as[k]? = some (Sum.inr i') → j = k := fun j k i1 i2 h1 h2 => by
        have a1 := hat j i1 h1
        have a2 := hat k i2 h2
        rw [a1] at a2
        exact Option.some.inj a2
      obtain ⟨l1, l2⟩ := argsAt_ S1 uniq 0 (fun j => by rw [Nat.zero_add]) r1 hds
      have hlt := lent_lt hds
      show spF G cf (io i) i (vs ++ []) H1 Q (WE XW σ)
      rw [List.append_nil]
      refine ⟨toC as W1, ds, s1.m, toC_not, ⟨l1, fun j d o h => ?_⟩, fun j d h => ?_, fun b j h => ?_, S1.tab.monoW (fun a w => toC_none w) (fun a w => toC_b w), ?_⟩
      · obtain ⟨v, q1, q2, q3⟩ := l2 j d o h
        exact ⟨v, q1, by rw [Nat.zero_add] at q2; exact q2⟩
      · obtain ⟨v, q1, q2, q3⟩ := l2 j d true h
        obtain ⟨i', hi'⟩ := q3 rfl
        rw [Nat.zero_add] at hi'
        exact hat j i' hi'
      · obtain ⟨i', _, h2⟩ := toC_s h
        exact hat j i' (lentAt_some h2)
      · cases ec : cf i ds s1.m with
        | ok d o out m =>
          rw [ec] at q0
          have q0 : Rd_ (match setOut s1.e (lents as) out with
            | some e => R.ok (d, o) ⟨e, m⟩
            | none => .bad) (XOut G XW W H σ) _ := q0
          intro v W' H' ce val
          split at q0
          · rename_i e' he'
            have g := fromC_go n1 ce.go
            refine q0 v (fromC as W1 W') H' ⟨sim_after S1 n1 hat r1 ce he' hlt, g1.trans g, ?_⟩
            unfold ValOk at val ⊢
            split
            · rename_i ho
              rw [if_pos ho] at val
              exact val.handW (fun r => Rep.monoW (fun a w => fromC_none w) r) fun a w => fromC_t w
            · rename_i ho
              rw [if_neg ho] at val
              exact ⟨Rep.monoW (fun a w => fromC_none w) val.1, fromC_not n1 val.2⟩
          · exact q0.elim
        | exc x ds' out m =>
          rw [ec] at q0
          have q0 : Rd_ (match setOut s1.e (lents as) out with
            | some e => R.exc x ds' ⟨e, m⟩
            | none => .bad) (XOut G XW W H σ) _ := q0
          intro cls dx W' H' ce nt hc hv
          split at q0
          · rename_i e' he'
            have g := fromC_go n1 ce.go
            obtain ⟨ws, w1, w2, w3⟩ := hv
            exact q0 cls dx (fromC as W1 W') H' ⟨sim_after S1 n1 hat r1 ce he' hlt, g1.trans g, fromC_not n1 nt, hc, ws, w1, w2, RepL.monoW (fun a w => fromC_none w) w3⟩
          · exact q0.elim
        | bad => rw [ec] at q0; exact q0.elim
    · exact q0.elim
theorem s_call (O : CtxOk Γ cf io G XW X) {n : Nat} {x : Str} {i : Nat} {e : Expr} {es : List Expr} {cs : CL} {p pos : Pos} (hx : Γ.glob x = true) (hd : (x == ("__debug__" : Str)) = false) (hf : Γ.pt.fns.lookup x = some i)
    (ih : ∀ e c, trE n Γ e = some c → SE3 cf io G XW X e c) (ht : trL (trE n) Γ (e :: es) = some cs) : SE3 cf io G XW X (.Call (.Name x p) (e :: es) [] pos) (.call i cs) := by
  obtain ⟨a, fd, ps, k, h1, h2, h3, F, hr, hb⟩ := O.call x i hf
  have hst := trL_star ht
  have re : PE X (.Call (.Name x p) (e :: es) [] pos) (RE cf io G XW (.call i cs)) :=
    pe_imp (pe_callSD (dvs := []) (E := WE XW) F hr (gl_of O hx) h1 h3 hb.1 .nil (fun σ => L2N.passAt O.tk σ) (pa_F (io i) ih 0 ht) hd (star_cons (hst e List.mem_cons_self)) (plain1 fun e' he => hst e' (List.mem_cons_of_mem _ he))) fun σ H Q hq => call_key hq
  exact .of O re (fun _ => rfl) (fun _ => rfl) (fun _ => rfl)
theorem pk_imp {kws : List Keyword} {t t' : TA} (h : PK X kws t) (i : ∀ σ H Q, t' σ H Q → t σ H Q) : PK X kws t' := ⟨fun pos pins s σ H Q I q => h.run pos pins s σ H Q I (i σ H Q q)⟩
theorem pk_F1 (l : Option Nat) {e : Expr} {c : C} {nm : Option Str} {kp : Pos} (h : SE3 cf io G XW X e c) : PK X [⟨nm, e, kp⟩] (RF cf io G XW l 0 (.cons c .nil)) := by
  by_cases hj : l = some 0
  · refine pk_imp (pk_cons h.rp pk_nil) fun σ H Q hq => ?_
    obtain ⟨W, s, S, n, q⟩ := hq
    rw [evF_cons, if_pos hj] at q
    cases c with
    | var i =>
      have q : Rd_ (match slotD s.e i with | some _ => (evF cf io l (0 + 1) .nil s).bind fun as s2 => R.ok (Sum.inr i :: as) s2 | none => R.bad) (XOut G XW W H σ) _ := q
      refine ⟨W, s, S, n, ?_⟩
      simp only [evP1]
      split at q
      · rename_i d e
        try rw [e]
        intro v W1 H1 S1 g1 n1 r1
        exact q [v] W1 H1 S1 g1 n1 (.cons (show PAr G W1 H1 σ (.v i) v from r1) .nil)
      · exact q.elim
    | _ => exact q.elim
  · refine pk_imp (pk_cons h.re pk_nil) fun σ H Q hq => ?_
    obtain ⟨W, s, S, n, q⟩ := hq
    rw [evF_cons, if_neg hj] at q
    refine step S n q fun d s1 v W1 H1 S1 n1 g1 r1 q1 => ?_
    exact q1 [v] W1 H1 S1 g1 n1 (.cons (show PAr G W1 H1 σ (.d d.1) v from r1) .nil)
set_option maxHeartbeats 400000 in
/-- f(k = e), k f's only parameter -/
theorem s_callK (O : CtxOk Γ cf io G XW X) {x kw : Str} {i : Nat} {e : Expr} {c : C} {p kp pos : Pos} (hx : Γ.glob x = true) (hd : (x == ("__debug__" : Str)) = false) (hf : Γ.pt.fns.lookup x = some i) (hkw : Γ.pt.kws.lookup x = some kw) (h : SE3 cf io G XW X e c) :
    SE3 cf io G XW X (.Call (.Name x p) [] [⟨some kw, e, kp⟩] pos) (.call i (.cons c .nil)) := by
  obtain ⟨a, fd, ps, k, h1, h2, h3, F, hr, hb⟩ := O.call x i hf
  obtain ⟨rfl, hbk⟩ := hb.2 kw hkw
  have re : PE X (.Call (.Name x p) [] [⟨some kw, e, kp⟩] pos) (RE cf io G XW (.call i (.cons c .nil))) := by
    refine ⟨fun pins s σ H Q I hq => ?_⟩
    have hq := call_key hq
    refine wpAny_Call_Name_kw (ld_glob I (gl_of O hx) h1 ?_ hd)
    have hks : (backToKw pos (keywordEach [⟨some kw, e, kp⟩] X.env)).filterMap (·.1) = [kw] := rfl
    have hall : (backToKw pos (keywordEach [⟨some kw, e, kp⟩] X.env)).all (·.1.isSome) = true := rfl
    have hpl : ((backTo pos (starEach [] X.env)).any (·.1) || (backToKw pos (keywordEach [⟨some kw, e, kp⟩] X.env)).any (·.1.isNone)) = false := rfl
    refine PySem.W.callWith_KW0 (h₀ := X.base) I.ok.mod.kin h3 hall (thn ((pk_F1 (nm := some kw) (kp := kp) (io i) h).run pos pins s σ H _ I hq) fun us s1 hh => ?_) hpl
    obtain ⟨vs, H1, I1, r, q⟩ := hh
    refine ⟨I1.kIn, ?_⟩
    replace q : spF G cf (io i) i (vs ++ []) H1 Q (WE XW σ) := q
    rw [List.append_nil] at q
    rw [hks, List.nil_append]
    have hl := F.len _ _ _ _ q
    cases r with
    | nil => cases hl
    | cons rv rt =>
      cases rt with
      | cons _ _ => cases hl
      | nil =>
        rename_i v u
        have rc := F.run X.A X.stack s1 H1 ⟨[], [(kw, u)]⟩ [u] [v] Q (WE XW σ) hr I1.env0 (hbk s1 u) (.cons rv .nil) q
        have rc : codeAny (model X.prog X.w) X.A (.call (.ref a) ⟨[], [kw].zip [u]⟩) _ s1 := rc
        refine wpAny_call (codeAny_mono rc fun r s2 hq2 => ?_)
        cases r with
        | error e => exact L2N.passAt O.tk σ pins H1 s1 e s2 I1 hq2
        | ok fl =>
          cases fl with
          | ret u => exact I1.after hq2
          | next => exact False.elim hq2
          | brk => exact False.elim hq2
          | cont => exact False.elim hq2
  exact .of O re (fun _ => rfl) (fun _ => rfl) (fun _ => rfl)
end
end PT

set_option Elab.async false
set_option linter.all false
set_option maxRecDepth 100000
set_option maxHeartbeats 4000000
/-! PTj: what a for walks; targets. -/
namespace PT
open PySem L2 PySem.Spec PyProof.Rows
section
variable {G : Glob} {W W' : Ow} {H H' : Hp}
theorem giveS_go {i : Nat} (n : NoT W) : Go W H (giveS i W) H where
  keep := fun _ _ h _ => h
  dom := fun _ h => h
  less := fun a w _ => by
    show (if W a = some Wh.t then some (Wh.s i) else if W a = some (Wh.s i) then none else W a) = none
    rw [w]; rfl
  far := fun a w _ => by
    show (if W a = some Wh.t then some (Wh.s i) else if W a = some (Wh.s i) then none else W a) = some Wh.f
    rw [w, if_neg (by simp), if_neg (by simp)]
  own := fun a o h => .inl (by
    have h' : (if W a = some Wh.t then some (Wh.s i) else if W a = some (Wh.s i) then none else W a) = some o := h
    rw [if_neg (n a)] at h'
    split at h'
    · cases h'
    · exact h')
/-- an iterator whose items are ds -/
structure Walk (G : Glob) (W : Ow) (H : Hp) (J : It) (ds : List D) : Prop where
  go : ∀ i W' H', Go W H W' H' → i < ds.length → J.go i H'
  yld : ∀ i d W' H' x H'', Go W H W' H' → NoT W' → ds[i]? = some d → J.yld i H' x H'' → ∃ W'', Go W' H' W'' H'' ∧ (∀ a y o, o.stays → H' a = some y → W' a = some o → H'' a = some y ∧ W'' a = some o) ∧ NoT W'' ∧ Rep G W'' H'' d x
  stop : ∀ W' H', Go W H W' H' → J.stop ds.length H'
theorem walk_list {K : PySem.W.Frag} {a : Addr} {vs : List V} {ds : List D} (w : W a = none) (h : H a = some (.lst vs)) (r : RepL G W H ds vs) : Walk G W H (Itl K a) ds where
  go := fun i W' H' g hi => by
    obtain ⟨d, hd⟩ : ∃ d, ds[i]? = some d := ⟨ds[i], by simp [hi]⟩
    obtain ⟨v, h1, _⟩ := r.get hd
    exact ⟨vs, v, .inl (.inl (g.keep a _ h (.inl w))), h1⟩
  yld := fun i d W' H' x H'' g n hd y => by
    obtain ⟨e, y⟩ := y
    subst e
    obtain ⟨v, h1, h2⟩ := r.get hd
    have := y vs (.inl (.inl (g.keep a _ h (.inl w))))
    rw [h1] at this
    cases this
    exact ⟨W', Go.refl, fun _ _ _ _ a b => ⟨a, b⟩, n, h2.mono g⟩
  stop := fun W' H' g => ⟨vs, .inl (.inl (g.keep a _ h (.inl w))), by rw [← r.length]; exact Nat.le_refl _⟩
/-- a tuple stays -/
theorem tup_stays {a : Addr} {ds : List D} (r : Rep G W H (.tup ds) (.ref a)) : ∃ vs, (∀ W' H', Go W H W' H' → SqT G.K H' a vs) ∧ RepL G W H ds vs := by
  cases r with
  | con k => cases k with
    | tup q r => exact ⟨_, fun _ H' _ => q H', r.rep⟩
  | tup w hh r => exact ⟨_, fun W' H' g => .inl (.inl (g.keep _ _ hh (.inl w))), r⟩
theorem walk_tup {a : Addr} {ds : List D} (r : Rep G W H (.tup ds) (.ref a)) : Walk G W H (Itt G.K a) ds := by
  obtain ⟨vs, st, rl⟩ := tup_stays r
  refine ⟨fun i W' H' g hi => ?_, fun i d W' H' x H'' g n hd y => ?_, fun W' H' g => ⟨vs, st W' H' g, by rw [← rl.length]; exact Nat.le_refl _⟩⟩
  · obtain ⟨d, hd⟩ : ∃ d, ds[i]? = some d := ⟨ds[i], by simp [hi]⟩
    obtain ⟨v, h1, _⟩ := rl.get hd
    exact ⟨vs, v, st W' H' g, h1⟩
  · obtain ⟨e, y⟩ := y
    subst e
    obtain ⟨v, h1, h2⟩ := rl.get hd
    have := y vs (st W' _ g)
    rw [h1] at this
    cases this
    exact ⟨W', Go.refl, fun _ _ _ _ a b => ⟨a, b⟩, n, h2.mono g⟩
theorem walk_str (x : Str) : Walk G W H (Its x) (x.cps.toList.map fun c => D.str (sign c)) where
  go := fun i W' H' g hi => by
    show i < x.cps.size
    simpa using hi
  yld := fun i d W' H' v H'' g n hd y => by
    obtain ⟨e, c, hc, rfl⟩ := y
    subst e
    rw [List.getElem?_map] at hd
    have : x.cps.toList[i]? = some c := by simpa using hc
    rw [this] at hd
    cases hd
    exact ⟨W', Go.refl, fun _ _ _ _ a b => ⟨a, b⟩, n, .str _⟩
  stop := fun W' H' g => by
    show x.cps.size ≤ _
    simp
theorem walk_range (n : Nat) : Walk G W H (Itr 0 n) (rangeD n) where
  go := fun i W' H' g hi => by
    show i < n
    simpa [rangeD] using hi
  yld := fun i d W' H' v H'' g nn hd y => by
    obtain ⟨e, rfl⟩ := y
    subst e
    have hi : i < n := by
      have := (List.getElem?_eq_some_iff.mp hd).1
      simpa [rangeD] using this
    have : d = .int (i : Nat) := by
      unfold rangeD at hd
      rw [List.getElem?_map, List.getElem?_range hi] at hd
      cases hd; rfl
    subst this
    refine ⟨W', Go.refl, fun _ _ _ _ a b => ⟨a, b⟩, nn, ?_⟩
    rw [Int.zero_add]
    exact .int _
  stop := fun W' H' g => by
    show n ≤ _
    simp [rangeD]
theorem pair_new {d e : D} {x y : V} {T : Addr} {W' : Ow} {H' : Hp} (n : NoT W') (hT : H' T = none) (r1 : Rep G W' H' d x) (r2 : Rep G W' H' e y) :
    ∃ W'', Go W' H' W'' (upd H' T (.tup [x, y])) ∧ (∀ a z (o : Wh), o.stays → H' a = some z → W' a = some o → (upd H' T (.tup [x, y])) a = some z ∧ W'' a = some o) ∧ NoT W'' ∧ Rep G W'' (upd H' T (.tup [x, y])) (.tup [d, e]) (.ref T) := by
  have E : OpEnd G W' H' (.tup [d, e]) false (.ref T) (newN T W') (upd H' T (.tup [x, y])) := OpEnd.newT_ n hT (.cons r1 (.cons r2 .nil))
  have v := E.val
  unfold ValOk at v
  rw [if_neg Bool.false_ne_true] at v
  exact ⟨_, E.go, E.kp, v.2, v.1⟩
theorem walk_zipL {K : PySem.W.Frag} {a b : Addr} {vs ws : List V} {ds es : List D} (hl : ds.length = es.length) (w : W a = none) (h : H a = some (.lst vs)) (r : RepL G W H ds vs) (w' : W b = none) (h' : H b = some (.lst ws)) (r' : RepL G W H es ws) : Walk G W H (Itz K a b) (zipD ds es) where
  go := fun i W' H' g hi => by
    have hi1 : i < ds.length := by simp [zipD] at hi; omega
    have hi2 : i < es.length := by omega
    obtain ⟨v, h1, _⟩ := r.get (show ds[i]? = some ds[i] by simp [hi1])
    obtain ⟨u, h2, _⟩ := r'.get (show es[i]? = some es[i] by simp [hi2])
    exact ⟨vs, ws, v, u, .inl (.inl (g.keep a _ h (.inl w))), .inl (.inl (g.keep b _ h' (.inl w'))), h1, h2⟩
  yld := fun i d W' H' x H'' g n hd y => by
    obtain ⟨T, x1, y1, rfl, hT, rfl, q1, q2⟩ := y
    unfold zipD at hd
    rw [List.getElem?_zipWith] at hd
    cases e1 : ds[i]? with
    | none => rw [e1] at hd; simp at hd
    | some d1 =>
      cases e2 : es[i]? with
      | none => rw [e1, e2] at hd; simp at hd
      | some d2 =>
        rw [e1, e2] at hd
        cases hd
        obtain ⟨v, h1, h2⟩ := r.get e1
        obtain ⟨u, h3, h4⟩ := r'.get e2
        have a1 := q1 vs (.inl (.inl (g.keep a _ h (.inl w))))
        have a2 := q2 ws (.inl (.inl (g.keep b _ h' (.inl w'))))
        rw [h1] at a1; cases a1
        rw [h3] at a2; cases a2
        exact pair_new n hT (h2.mono g) (h4.mono g)
  stop := fun W' H' g => ⟨vs, ws, .inl (.inl (g.keep a _ h (.inl w))), .inl (.inl (g.keep b _ h' (.inl w'))), .inl (by rw [← r.length]; simp only [zipD, List.length_zipWith]; omega)⟩
theorem walk_zipT {a b : Addr} {ds es : List D} (hl : ds.length = es.length) (r0 : Rep G W H (.tup ds) (.ref a)) (r0' : Rep G W H (.tup es) (.ref b)) : Walk G W H (RZ.ItzT G.K a b) (zipD ds es) := by
  obtain ⟨vs, st, r⟩ := tup_stays r0
  obtain ⟨ws, st', r'⟩ := tup_stays r0'
  refine ⟨fun i W' H' g hi => ?_, fun i d W' H' x H'' g n hd y => ?_, fun W' H' g => ⟨vs, ws, st W' H' g, st' W' H' g, .inl (by rw [← r.length]; simp only [zipD, List.length_zipWith]; omega)⟩⟩
  · have hi1 : i < ds.length := by simp [zipD] at hi; omega
    have hi2 : i < es.length := by omega
    obtain ⟨v, h1, _⟩ := r.get (show ds[i]? = some ds[i] by simp [hi1])
    obtain ⟨u, h2, _⟩ := r'.get (show es[i]? = some es[i] by simp [hi2])
    exact ⟨vs, ws, v, u, st W' H' g, st' W' H' g, h1, h2⟩
  · obtain ⟨T, x1, y1, rfl, hT, rfl, q1, q2⟩ := y
    unfold zipD at hd
    rw [List.getElem?_zipWith] at hd
    cases e1 : ds[i]? with
    | none => rw [e1] at hd; simp at hd
    | some d1 =>
      cases e2 : es[i]? with
      | none => rw [e1, e2] at hd; simp at hd
      | some d2 =>
        rw [e1, e2] at hd
        cases hd
        obtain ⟨v, h1, h2⟩ := r.get e1
        obtain ⟨u, h3, h4⟩ := r'.get e2
        have a1 := q1 vs (st W' H' g)
        have a2 := q2 ws (st' W' H' g)
        rw [h1] at a1; cases a1
        rw [h3] at a2; cases a2
        exact pair_new n hT (h2.mono g) (h4.mono g)
theorem walk_enum {K : PySem.W.Frag} {a : Addr} {vs : List V} {ds : List D} (w : W a = none) (h : H a = some (.lst vs)) (r : RepL G W H ds vs) : Walk G W H (Ite K a) (enumD ds) where
  go := fun i W' H' g hi => by
    have hi1 : i < ds.length := by simpa [enumD] using hi
    obtain ⟨v, h1, _⟩ := r.get (show ds[i]? = some ds[i] by simp [hi1])
    exact ⟨vs, v, .inl (.inl (g.keep a _ h (.inl w))), h1⟩
  yld := fun i d W' H' x H'' g n hd y => by
    obtain ⟨T, x1, rfl, hT, rfl, q1⟩ := y
    unfold enumD at hd
    rw [List.getElem?_zipWith] at hd
    cases e1 : ds[i]? with
    | none => rw [e1] at hd; cases e2 : (List.range ds.length)[i]? <;> rw [e2] at hd <;> simp at hd
    | some d1 =>
      have hi : i < ds.length := (List.getElem?_eq_some_iff.mp e1).1
      rw [e1, List.getElem?_range hi] at hd
      cases hd
      obtain ⟨v, h1, h2⟩ := r.get e1
      have a1 := q1 vs (.inl (.inl (g.keep a _ h (.inl w))))
      rw [h1] at a1; cases a1
      exact pair_new n hT (.int _) (h2.mono g)
  stop := fun W' H' g => ⟨vs, .inl (.inl (g.keep a _ h (.inl w))), by rw [← r.length]; simp [enumD]⟩
end
section
variable {X : Cx} {cf : CallF} {io : Nat → Option Nat} {G : Glob} {XW : WX} {Γ : Tc}
/-- what a for walks -/
def RI (cf : CallF) (io : Nat → Option Nat) (G : Glob) (XW : WX) (it : IT) : TI := fun σ H R => ∃ W s, Sim G W H s σ ∧ NoT W ∧ Rd_ (evI cf io it s) (XOut G XW W H σ) fun ds s1 => ∀ J W1 H1, Sim G W1 H1 s1 σ → Go W H W1 H1 → NoT W1 → Walk G W1 H1 J ds → R J H1
theorem pi_imp {tg e : Expr} {w w' : TI} (h : PI X tg e w) (i : ∀ σ H R, w' σ H R → w σ H R) : PI X tg e w' := ⟨fun pins s σ H R I q => h.run pins s σ H R I (i σ H R q)⟩
theorem pi_or {tg e : Expr} {w w' : TI} (h : PI X tg e w) (h' : PI X tg e w') : PI X tg e (fun σ H R => w σ H R ∨ w' σ H R) := ⟨fun pins s σ H R I q => q.elim (h.run pins s σ H R I) (h'.run pins s σ H R I)⟩
theorem stepE {c : C} {σ : L2.St} {H : Hp} {W : Ow} {s s1 : Sta} {d : D × Bool} {k : VK} (S : Sim G W H s σ) (n : NoT W) (e : evC cf io false c s = .ok d s1)
    (go : ∀ v W1 H1, Sim G W1 H1 s1 σ → NoT W1 → Go W H W1 H1 → Rep G W1 H1 d.1 v → k v H1) : RE cf io G XW c σ H k := by
  refine ⟨W, s, S, n, ?_⟩
  rw [e]
  exact fun v W' H' r => go v (dropT W') H' r.sim.dropT (dropT_not _) r.go.dropT r.val.rep
theorem stepX {c : C} {σ : L2.St} {H : Hp} {W : Ow} {s s1 : Sta} {x : Nat} {ds : List D} {k : VK} (S : Sim G W H s σ) (n : NoT W) (e : evC cf io false c s = .exc x ds s1) (q : XOut G XW W H σ x ds s1) : RE cf io G XW c σ H k := by
  refine ⟨W, s, S, n, ?_⟩
  rw [e]
  exact q
theorem pi_val (O : CtxOk Γ cf io G XW X) {tg e : Expr} {c : C} (h : SE3 cf io G XW X e c) : PI X tg e (RI cf io G XW (.val c)) := by
  refine pi_imp (pi_or (pi_list h.re) (pi_or (pi_tup h.re) (pi_str h.re))) fun σ H K hq => ?_
  obtain ⟨W, s, S, n, q⟩ := hq
  have q : Rd_ ((evC cf io false c s).bind fun d s1 => match itemsOf d.1 with
    | some ds => R.ok ds s1
    | none => .bad) (XOut G XW W H σ) _ := q
  cases e : evC cf io false c s with
  | exc x ds s1 =>
    rw [e] at q
    exact .inl (stepX S n e q)
  | bad => rw [e] at q; exact q.elim
  | ok d s1 =>
    rw [e] at q
    have q : Rd_ (match itemsOf d.1 with
      | some ds => R.ok ds s1
      | none => .bad) (XOut G XW W H σ) _ := q
    obtain ⟨d0, o⟩ := d
    cases d0 <;> simp only [itemsOf] at q <;> first | exact q.elim | skip
    · refine .inr (.inr (stepE S n e fun v W1 H1 S1 n1 g1 r1 => ?_))
      exact ⟨_, (Rep1.of r1).str_, q _ W1 H1 S1 g1 n1 (walk_str _)⟩
    · refine .inr (.inl (stepE S n e fun v W1 H1 S1 n1 g1 r1 => ?_))
      obtain ⟨a, vs, rfl, h1, r2⟩ := (Rep1.of r1).tup_
      rw [O.K]
      exact ⟨a, rfl, ⟨vs, h1⟩, q _ W1 H1 S1 g1 n1 (walk_tup r1)⟩
    · refine .inl (stepE S n e fun v W1 H1 S1 n1 g1 r1 => ?_)
      cases r1 with
      | con k => cases k
      | lst w h1 r2 => exact ⟨_, rfl, ⟨_, .inl (.inl h1)⟩, q _ W1 H1 S1 g1 n1 (walk_list w h1 r2)⟩
theorem pi_range (O : CtxOk Γ cf io G XW X) {tg e : Expr} {c : C} {p pos : Pos} (hb : Γ.blt "range" = true) (hs : ∀ e' p, e ≠ .Starred e' p) (h : SE3 cf io G XW X e c) : PI X tg (.Call (.Name "range" p) [e] [] pos) (RI cf io G XW (.range c)) := by
  obtain ⟨h1, h2⟩ := blt_of O hb
  refine pi_imp (pi_range1 h1 h2 (pa_cons h.re pa_nil (star_cons hs)) (star_cons hs)) fun σ H K hq => ?_
  obtain ⟨W, s, S, n, q⟩ := hq
  refine step S n (show Rd_ ((evC cf io false c s).bind _) _ _ from q) fun d s1 v W1 H1 S1 n1 g1 r1 q1 => ?_
  split at q1
  · rename_i k hk
    split at q1
    · rename_i hr
      rw [hk] at r1
      have := (Rep1.of r1).int_
      subst this
      exact ⟨k, rfl, by omega, by have := hr.2; unfold most at this; omega, q1 _ W1 H1 S1 g1 n1 (walk_range _)⟩
    · exact q1.elim
  · exact q1.elim
theorem pi_zip_ (O : CtxOk Γ cf io G XW X) {elts : List Expr} {kk : Nat} {tpos : Pos} {ea eb : Expr} {a b : C} {p pos : Pos} (hb : Γ.blt "zip" = true) (hs : ∀ e' p, ea ≠ .Starred e' p) (hs' : ∀ e' p, eb ≠ .Starred e' p) (ha : SE3 cf io G XW X ea a) (hbb : SE3 cf io G XW X eb b) :
    PI X (.Tuple elts kk tpos) (.Call (.Name "zip" p) [ea, eb] [] pos) (RI cf io G XW (.zip a b)) := by
  obtain ⟨h1, h2⟩ := blt_of O hb
  refine pi_imp (RZ.pi_zipA h1 h2 (pa_cons ha.re (pa_cons hbb.re pa_nil (star_cons hs')) (star_cons hs)) (star_cons hs) (plain1 fun e he => by simp at he; subst he; exact hs')) fun σ H K hq => ?_
  obtain ⟨W, s, S, n, q⟩ := hq
  refine step S n (show Rd_ ((evC cf io false a s).bind _) _ _ from q) fun d s1 v W1 H1 S1 n1 g1 r1 q1 => ?_
  refine step S1 n1 q1 fun d' s2 u W2 H2 S2 n2 g2 r2 q2 => ?_
  split at q2
  · rename_i xs ys e1 e2
    split at q2
    · rename_i hl
      rw [e1] at r1
      rw [e2] at r2
      cases r1.mono g2 with
      | con k => cases k
      | lst w1 m1 rl1 =>
        cases r2 with
        | con k => cases k
        | lst w2 m2 rl2 => exact ⟨_, _, _, _, rfl, .inl ⟨.inl (.inl m1), .inl (.inl m2), q2 _ W2 H2 S2 (g1.trans g2) n2 (walk_zipL hl w1 m1 rl1 w2 m2 rl2)⟩⟩
    · exact q2.elim
  · rename_i xs ys e1 e2
    split at q2
    · rename_i hl
      rw [e1] at r1
      rw [e2] at r2
      have r1' := r1.mono g2
      obtain ⟨x1, vs, rfl, h3, _⟩ := (Rep1.of r1').tup_
      obtain ⟨x2, ws, rfl, h4, _⟩ := (Rep1.of r2).tup_
      rw [O.K]
      exact ⟨_, _, _, _, rfl, .inr ⟨h3, h4, q2 _ W2 H2 S2 (g1.trans g2) n2 (walk_zipT hl r1' r2)⟩⟩
    · exact q2.elim
  · exact q2.elim
theorem pi_enum_ (O : CtxOk Γ cf io G XW X) {elts : List Expr} {kk : Nat} {tpos : Pos} {ea : Expr} {a : C} {p pos : Pos} (hb : Γ.blt "enumerate" = true) (hs : ∀ e' p, ea ≠ .Starred e' p) (ha : SE3 cf io G XW X ea a) :
    PI X (.Tuple elts kk tpos) (.Call (.Name "enumerate" p) [ea] [] pos) (RI cf io G XW (.enum a)) := by
  obtain ⟨h1, h2⟩ := blt_of O hb
  refine pi_imp (pi_enum h1 h2 (pa_cons ha.re pa_nil (star_cons hs)) (star_cons hs)) fun σ H K hq => ?_
  obtain ⟨W, s, S, n, q⟩ := hq
  refine step S n (show Rd_ ((evC cf io false a s).bind _) _ _ from q) fun d s1 v W1 H1 S1 n1 g1 r1 q1 => ?_
  split at q1
  · rename_i xs e1
    rw [e1] at r1
    cases r1 with
    | con k => cases k
    | lst w1 m1 rl1 => exact ⟨_, _, rfl, .inl (.inl m1), q1 _ W1 H1 S1 g1 n1 (walk_enum w1 m1 rl1)⟩
  · exact q1.elim
/-! ### targets -/
/-- a target's reading -/
def RG (G : Glob) (t : List Nat × Bool) : TG := fun v σ H Q => ∃ W s d, Sim G W H s σ ∧ NoT W ∧ Rep G W H d v ∧ match assignT t.1 t.2 d s.e with
  | none => False
  | some e1 => ∀ σ' W', Sim G W' H ⟨e1, s.m⟩ σ' → Go W H W' H → NoT W' → (∀ i, i ∉ t.1 → σ'[i]? = σ[i]?) → σ'.length = σ.length → Q σ' H
theorem sto_ok {x : Str} {i : Nat} (h : Γ.sto x = some i) : Γ.N[i]? = some x ∧ Loc Γ.sc x ∧ (Γ.top = true ∨ Γ.sc.names.lookup x = some .local) := by
  unfold Tc.sto at h
  split at h
  · rename_i e; exact ⟨ixOf_ok h, .inl e, .inr e⟩
  · rename_i e
    split at h
    · rename_i ht; exact ⟨ixOf_ok h, .inr e, .inl ht⟩
    · cases h
  · cases h
theorem pg_nm (O : CtxOk Γ cf io G XW X) {x : Str} {i : Nat} {pos : Pos} (h : Γ.sto x = some i) : PG X (.Name x pos) (gName i) := by
  obtain ⟨h1, h2, h3⟩ := sto_ok h
  exact pg_name O.nd (by rw [O.N]; exact h1) (by rw [O.sc]; exact h2) (h3.elim (fun z => .inl (O.fn z x)) fun z => .inr (by rw [O.sc]; exact z))
theorem set_val {W : Ow} {H : Hp} {d : D} {v : V} (n : NoT W) (r : Rep G W H d v) : ValOk G W H d false v := by
  unfold ValOk; rw [if_neg Bool.false_ne_true]; exact ⟨r, n⟩
/-- names' targets, one after another -/
def RGs (G : Glob) (is : List Nat) : TGs := fun vs σ H Q => ∃ W s ds, Sim G W H s σ ∧ NoT W ∧ RepL G W H ds vs ∧ ds.length = is.length ∧ (∀ i ∈ is, i < s.e.length) ∧
  ∀ σ' W', Sim G W' H ⟨(is.zip ds).foldl (fun e p => e.set p.1 (some (p.2, false))) s.e, s.m⟩ σ' → Go W H W' H → NoT W' → (∀ i, i ∉ is → σ'[i]? = σ[i]?) → σ'.length = σ.length → Q σ' H
theorem pg_imp {tg : Expr} {t t' : TG} (h : PG X tg t) (i : ∀ v σ H Q, t' v σ H Q → t v σ H Q) : PG X tg t' := ⟨fun pins s σ H v u Q I r q => h.run pins s σ H v u Q I r (i v σ H Q q)⟩
theorem pgs_imp {tg : List Expr} {t t' : TGs} (h : PGs X tg t) (i : ∀ v σ H Q, t' v σ H Q → t v σ H Q) : PGs X tg t' := ⟨fun pins s σ H v u Q I r q => h.run pins s σ H v u Q I r (i v σ H Q q)⟩
theorem names_each {es : List Expr} {is : List Nat} (h : namesOf Γ es = some is) {env : PySem.Env} : (assignEach es env).length = is.length ∧ (assignEach es env).findIdx? (·.1) = none := by
  induction es generalizing is with
  | nil => simp only [namesOf] at h; cases h; exact ⟨rfl, rfl⟩
  | cons e r ih =>
    cases e <;> simp only [namesOf] at h <;> try contradiction
    split at h
    · rw [Option.map_eq_some_iff] at h
      obtain ⟨is', h', rfl⟩ := h
      obtain ⟨a, b⟩ := ih h'
      refine ⟨by show (_ :: assignEach r env).length = _; simp [a], ?_⟩
      show List.findIdx? _ ((false, _) :: assignEach r env) = none
      rw [List.findIdx?_cons]
      simp [b]
    · cases h
theorem pgs_ (O : CtxOk Γ cf io G XW X) : ∀ {es : List Expr} {is : List Nat}, namesOf Γ es = some is → PGs X es (RGs G is)
  | [], is, h => by
    simp only [namesOf] at h; cases h
    refine pgs_imp pgs_nil fun vs σ H Q hq => ?_
    obtain ⟨W, s, ds, S, n, r, hl, _, q⟩ := hq
    cases ds with
    | nil => cases r; exact ⟨rfl, q σ W S Go.refl n (fun _ _ => rfl) rfl⟩
    | cons _ _ => simp at hl
  | e :: r, is, h => by
    cases e <;> simp only [namesOf] at h <;> try contradiction
    rename_i x pos
    split at h
    · rename_i i hi
      rw [Option.map_eq_some_iff] at h
      obtain ⟨is', h', rfl⟩ := h
      refine pgs_imp (pgs_cons (pg_nm O hi) (pgs_ O h')) fun vs σ H Q hq => ?_
      obtain ⟨W, s, ds, S, n, r, hl, hb, q⟩ := hq
      cases ds with
      | nil => simp at hl
      | cons d ds =>
        cases r with
        | cons r t =>
          rename_i v vs'
          have hib : i < s.e.length := hb i List.mem_cons_self
          have S1 := S.store hib (set_val n r)
          refine ⟨v, vs', rfl, giveS i W, _, ds, S1, giveS_not, t.mono (giveS_go n), by simpa using hl, fun k hk => by simpa using hb k (List.mem_cons_of_mem _ hk), fun σ' W' S' g' n' kp le => ?_⟩
          refine q σ' W' S' ((giveS_go n).trans g') n' (fun k hk => ?_) (by rw [le]; simp)
          rw [kp k (fun z => hk (List.mem_cons_of_mem _ z)), List.getElem?_set_ne (fun z => hk (by rw [z]; exact List.mem_cons_self))]
    · cases h
theorem names_lt : ∀ {es : List Expr} {is : List Nat}, namesOf Γ es = some is → ∀ i ∈ is, i < Γ.N.length
  | [], is, h, i, hi => by simp only [namesOf] at h; cases h; cases hi
  | e :: r, is, h, i, hi => by
    cases e <;> simp only [namesOf] at h <;> try contradiction
    split at h
    · rename_i j hj
      rw [Option.map_eq_some_iff] at h
      obtain ⟨is', h', rfl⟩ := h
      rcases List.mem_cons.mp hi with rfl | hi
      · exact (List.getElem?_eq_some_iff.mp (sto_ok hj).1).1
      · exact names_lt h' i hi
    · cases h
theorem pg_ (O : CtxOk Γ cf io G XW X) {tg : Expr} {t : List Nat × Bool} (h : tgOf Γ tg = some t) : PG X tg (RG G t) := by
  cases tg <;> simp only [tgOf] at h <;> try contradiction
  · rename_i x pos
    rw [Option.map_eq_some_iff] at h
    obtain ⟨i, hi, rfl⟩ := h
    refine ⟨fun pins s0 σ H v u Q I r hq => ?_⟩
    refine (pg_nm O hi).run pins s0 σ H v u Q I r ?_
    obtain ⟨W, s, d, S, n, rp, q⟩ := hq
    have hlt : i < s.e.length := by
      rw [S.len, I.len, O.N]
      exact (List.getElem?_eq_some_iff.mp (sto_ok hi).1).1
    exact q _ (giveS i W) (S.store hlt (set_val n rp)) (giveS_go n) giveS_not (fun k hk => List.getElem?_set_ne (fun z => hk (by simp [z]))) (by simp)
  · rename_i es k pos
    rw [Option.map_eq_some_iff] at h
    obtain ⟨is, hi, rfl⟩ := h
    obtain ⟨e1, e2⟩ := names_each hi (env := X.env)
    refine ⟨fun pins s0 σ H v u Q I r hq => ?_⟩
    refine (pg_tup (k := k) (pos := pos) O.calm (pgs_ O hi) e1 e2).run pins s0 σ H v u Q I r ?_
    obtain ⟨W, s, d, S, n, rp, q⟩ := hq
    have q : match assignT is false d s.e with
      | none => False
      | some e1 => ∀ σ' W', Sim G W' H ⟨e1, s.m⟩ σ' → Go W H W' H → NoT W' → (∀ i, i ∉ is → σ'[i]? = σ[i]?) → σ'.length = σ.length → Q σ' H := q
    cases ha : assignT is false d s.e with
    | none => rw [ha] at q; exact q.elim
    | some e1' =>
      rw [ha] at q
      have q : ∀ σ' W', Sim G W' H ⟨e1', s.m⟩ σ' → Go W H W' H → NoT W' → (∀ i, i ∉ is → σ'[i]? = σ[i]?) → σ'.length = σ.length → Q σ' H := q
      cases d with
      | tup ds =>
        unfold assignT at ha
        by_cases hl : ds.length = is.length
        · simp only [Bool.false_eq_true, if_false, hl, if_true, Option.some.injEq] at ha
          subst ha
          obtain ⟨a, vs, rfl, h1, r1⟩ := (Rep1.of rp).tup_
          refine ⟨a, vs, rfl, by rw [O.K]; exact h1, by rw [← r1.length]; exact hl, W, s, ds, S, n, r1, hl, fun i hi' => ?_, q⟩
          rw [S.len, I.len, O.N]
          exact names_lt hi i hi'
        · simp [hl] at ha
      | _ => simp [assignT] at ha
end
end PT

set_option Elab.async false
set_option linter.all false
set_option maxRecDepth 100000
set_option maxHeartbeats 4000000
/-! PTk: list comprehensions. -/
namespace PT
open PySem L2 PySem.Spec PyProof.Rows
/-! ### slots forgotten, and back -/
theorem wipe_get {σ : L2.St} {i : Nat} : ∀ {vs : List Nat}, (wipe σ vs)[i]? = if i ∈ vs then (if i < σ.length then some none else none) else σ[i]?
  | [] => by simp [wipe]
  | v :: vs => by
    unfold wipe
    rw [List.getElem?_set, wipe_length]
    by_cases hv : v = i
    · subst hv; simp
    · rw [if_neg hv, wipe_get]
      have : i ≠ v := fun z => hv z.symm
      simp [this]
theorem wipeE_len (e : Slots) : ∀ vs, (wipeE e vs).length = e.length
  | [] => rfl
  | v :: vs => by unfold wipeE; rw [List.length_set, wipeE_len e vs]
theorem wipeE_get {e : Slots} {i : Nat} : ∀ {vs : List Nat}, (wipeE e vs)[i]? = if i ∈ vs then (if i < e.length then some none else none) else e[i]?
  | [] => by simp [wipeE]
  | v :: vs => by
    unfold wipeE
    rw [List.getElem?_set, wipeE_len]
    by_cases hv : v = i
    · subst hv; simp
    · rw [if_neg hv, wipeE_get]
      have : i ≠ v := fun z => hv z.symm
      simp [this]
theorem backE_len (e0 e : Slots) : ∀ vs, (backE e0 e vs).length = e.length
  | [] => rfl
  | v :: vs => by unfold backE; rw [List.length_set, backE_len e0 e vs]
theorem backE_get {e0 e : Slots} (hl : e0.length = e.length) {i : Nat} : ∀ {vs : List Nat}, (backE e0 e vs)[i]? = if i ∈ vs then e0[i]? else e[i]?
  | [] => by simp [backE]
  | v :: vs => by
    unfold backE
    rw [List.getElem?_set, backE_len]
    by_cases hv : v = i
    · subst hv
      simp only [if_true, List.mem_cons, true_or]
      by_cases h : v < e.length
      · rw [if_pos h]
        have : v < e0.length := by omega
        simp [List.getD, this]
      · rw [if_neg h]
        have : ¬ v < e0.length := by omega
        simp [List.getElem?_eq_none (Nat.le_of_not_lt this)]
    · rw [if_neg hv, backE_get hl]
      have : i ≠ v := fun z => hv z.symm
      simp [this]
theorem wipe_same {a b : L2.St} {vs : List Nat} (hl : a.length = b.length) (h : ∀ i, i ∉ vs → a[i]? = b[i]?) : wipe a vs = wipe b vs := by
  apply List.ext_getElem?
  intro i
  rw [wipe_get, wipe_get, hl]
  by_cases hi : i ∈ vs
  · rw [if_pos hi, if_pos hi]
  · rw [if_neg hi, if_neg hi, h i hi]
section
variable {G : Glob} {W W' : Ow} {H H' : Hp}
theorem Sim.wipe {s : Sta} {σ : L2.St} (S : Sim G W H s σ) (vs : List Nat) : Sim G W H { s with e := wipeE s.e vs } (L2.wipe σ vs) := by
  refine ⟨by show (wipeE s.e vs).length = _; rw [wipeE_len, wipe_length]; exact S.len, fun i d e => ?_, fun i d e => ?_, S.tab⟩
  all_goals
    have e : (wipeE s.e vs)[i]? = _ := e
    rw [wipeE_get] at e
    by_cases hi : i ∈ vs
    · rw [if_pos hi] at e; split at e <;> cases e
    · rw [if_neg hi] at e
      first
      | obtain ⟨v, h1, h2⟩ := S.slot i d e; exact ⟨v, by rw [wipe_get, if_neg hi]; exact h1, h2⟩
      | obtain ⟨v, h1, h2⟩ := S.own i d e; exact ⟨v, by rw [wipe_get, if_neg hi]; exact h1, h2⟩
mutual
/-- what nobody owns stays -/
theorem Rep.keep (k : ∀ a o, H a = some o → W a = none → H' a = some o ∧ W' a = none) : ∀ {d : D} {v : V}, Rep G W H d v → Rep G W' H' d v
  | _, _, .con k => .con k
  | _, _, .fn e => .fn e
  | _, _, .tup w h r => .tup (k _ _ h w).2 (k _ _ h w).1 (RepL.keep k r)
  | _, _, .lst w h r => .lst (k _ _ h w).2 (k _ _ h w).1 (RepL.keep k r)
  | _, _, .stm w w' n h h' => .stm (k _ _ h w).2 (k _ _ h' w').2 n (k _ _ h w).1 (k _ _ h' w').1
  | _, _, .clo e w h r => .clo e (k _ _ h w).2 (k _ _ h w).1 (RepL.keep k r)
  | _, _, .scr w r => let z := rd_keep (fun o h => k _ o h w) r; .scr z.1 z.2
  | _, _, .scrK r => .scrK r
theorem RepL.keep (k : ∀ a o, H a = some o → W a = none → H' a = some o ∧ W' a = none) : ∀ {ds : List D} {vs : List V}, RepL G W H ds vs → RepL G W' H' ds vs
  | _, _, .nil => .nil
  | _, _, .cons r t => .cons (Rep.keep k r) (RepL.keep k t)
end
theorem OwnC.keep {o p : Wh} {d : D} {v : V} (f : ∀ a x, H a = some x → W a = none → H' a = some x ∧ W' a = none) (k : ∀ a x, H a = some x → W a = some o → H' a = some x ∧ W' a = some p) (h : OwnC G W H o d v) : OwnC G W' H' p d v := by
  cases d with
  | lst ds =>
    obtain ⟨a, vs, rfl, w, hh, r⟩ := h
    exact ⟨a, vs, rfl, (k a _ hh w).2, (k a _ hh w).1, r.keep f⟩
  | stm cells x y z =>
    obtain ⟨a, b, rfl, n, w, w', h1, h2⟩ := h
    exact ⟨a, b, rfl, n, (k a _ h1 w).2, (k b _ h2 w').2, (k a _ h1 w).1, (k b _ h2 w').1⟩
  | _ => exact h.elim
theorem Sim.keep {s : Sta} {σ : L2.St} (f : ∀ a x, H a = some x → W a = none → H' a = some x ∧ W' a = none) (k : ∀ a x o, o.stays → H a = some x → W a = some o → H' a = some x ∧ W' a = some o) (S : Sim G W H s σ) : Sim G W' H' s σ :=
  ⟨S.len, fun i d e => let ⟨v, h1, h2⟩ := S.slot i d e; ⟨v, h1, h2.keep f⟩, fun i d e => let ⟨v, h1, h2⟩ := S.own i d e; ⟨v, h1, h2.keep f fun a x hx hw => k a x (.s i) ⟨by simp, by simp⟩ hx hw⟩, S.tab.keep f k⟩
/-- ownership with D's owner set -/
def setW (D : Addr) (o : Wh) (W : Ow) : Ow := fun a => if a = D then some o else W a
theorem setW_same {D : Addr} {o : Wh} : setW D o W D = some o := if_pos rfl
theorem setW_ne {D a : Addr} {o : Wh} (h : a ≠ D) : setW D o W a = W a := if_neg h
theorem Go.setW {W1 : Ow} {H1 : Hp} {D : Addr} {o : Wh} (g : Go W1 H1 W H) (hD : H1 D = none) : Go W1 H1 (setW D o W) H where
  keep := g.keep
  dom := g.dom
  less := fun a w h => by
    have : a ≠ D := fun z => h (by rw [z]; exact hD)
    rw [setW_ne this]; exact g.less a w h
  far := fun a w h => by
    have : a ≠ D := fun z => h (by rw [z]; exact hD)
    rw [setW_ne this]; exact g.far a w h
  own := fun a p h => by
    by_cases ha : a = D
    · subst ha; exact .inr hD
    · rw [setW_ne ha] at h; exact g.own a p h
theorem Go.updD {W1 : Ow} {H1 : Hp} {D : Addr} {x : HO} (g : Go W1 H1 W H) (hD : H1 D = none) : Go W1 H1 W (upd H D x) where
  keep := fun a o h w => by
    have : a ≠ D := fun z => by rw [z, hD] at h; cases h
    rw [upd_ne this]; exact g.keep a o h w
  dom := fun a h => by
    have : a ≠ D := fun z => h (by rw [z]; exact hD)
    rw [upd_ne this]; exact g.dom a h
  less := g.less
  far := g.far
  own := g.own
theorem updD_keep {D : Addr} {x : HO} {o : Wh} (w : W D = some o) : ∀ a y, H a = some y → W a = none → (upd H D x) a = some y ∧ W a = none := fun a y h n => by
  have : a ≠ D := fun z => by rw [z, w] at n; cases n
  exact ⟨by rw [upd_ne this]; exact h, n⟩
theorem updD_keepS {D : Addr} {x : HO} (w : W D = some .f) : ∀ a y (o : Wh), o.stays → H a = some y → W a = some o → (upd H D x) a = some y ∧ W a = some o := fun a y o ho h n => by
  have : a ≠ D := fun z => by rw [z, w] at n; cases n; exact ho.2 rfl
  exact ⟨by rw [upd_ne this]; exact h, n⟩
end
section
variable {X : Cx} {cf : CallF} {io : Nat → Option Nat} {G : Glob} {XW : WX} {Γ : Tc}
/-- a block lets no exception out -/
abbrev XW0 : WX := fun _ _ _ _ => False
/-- a clause's tests -/
def RTs (cf : CallF) (io : Nat → Option Nat) (G : Glob) (cond : CL) : TT := fun σ H Q => ∃ W s, Sim G W H s σ ∧ NoT W ∧ match evA cf io cond s with
  | .ok b s' => ∀ W' H', Sim G W' H' s' σ → Go W H W' H' → NoT W' → Q b H'
  | _ => False
theorem pts_imp {ifs : List Expr} {t t' : TT} (h : PTs X ifs t) (i : ∀ σ H Q, t' σ H Q → t σ H Q) : PTs X ifs t' := ⟨fun pins s σ H Q I q => h.run pins s σ H Q I (i σ H Q q)⟩
theorem pts_nil_ : PTs X [] (RTs cf io G .nil) := pts_imp pts_nil fun σ H Q ⟨W, s, S, n, q⟩ => q W H S Go.refl n
theorem pts_one_ {e : Expr} {c : C} (h : PT X e (RT cf io G XW0 c)) : PTs X [e] (RTs cf io G (.cons c .nil)) := pts_imp (pts_one h) fun σ H Q ⟨W, s, S, n, q⟩ => by
  refine ⟨W, s, S, n, ?_⟩
  have q : match ((evC cf io true c s).test fun x s1 => if x = true then R.ok true s1 else R.ok false s1) with
    | .ok b s' => ∀ W' H', Sim G W' H' s' σ → Go W H W' H' → NoT W' → Q b H'
    | _ => False := q
  cases e : evC cf io true c s with
  | ok d s1 =>
    rw [e] at q
    obtain ⟨d, o⟩ := d
    cases d with
    | bl b => cases b <;> exact ⟨_, rfl, q⟩
    | _ => exact q.elim
  | exc x ds s1 => rw [e] at q; exact q.elim
  | bad => rw [e] at q; exact q.elim
theorem CtxOk.blk (O : CtxOk Γ cf io G XW X) (s : Shared) (H : Hp) (scope : Scope) (C : Addr) (cl : List (Str × Addr)) (fp : List Addr) :
    CtxOk { Γ with sc := L2.relS scope Γ.sc, top := false, lam := false } cf io G XW0 (X.blk s H scope (compEnvC scope cl C X.env) fp) where
  calm := O.calm
  K := O.K
  N := O.N
  nd := O.nd
  sc := by show relabel scope X.env = _; rw [← O.sc]; rfl
  un := O.un
  tk := fun u s' ⟨a, B, sI, pins, σ, H, cls, d, e, I, nb, up, sky, na, os, ag, w⟩ => w.elim
  po := PassesOwn.never
  fn := fun h => by cases h
  bl := O.bl
  rm := O.rm
  cls := O.cls
  con := O.con
  lam := O.lam
  clo := O.clo
  tb := fun h => by cases h
theorem sE_lc (O : CtxOk Γ cf io G XW X) {elt tg it : Expr} {ifs : List Expr} {scope : Scope} {pos : Pos} {own : List (Str × Nat)} {t : List Nat × Bool} {ci : IT} {cond : CL} {ce : C} (hb : blkC Γ.N Γ.sc scope own = true)
    (ht : t.1.all (fun i => decide (i ∈ own.map (·.2))) = true) (hs : ∀ x, foldedSetIterable it X.env x = pure x) (hi : PI X tg it (RI cf io G XW ci))
    (hg : ∀ X' : Cx, CtxOk { Γ with sc := L2.relS scope Γ.sc, top := false, lam := false } cf io G XW0 X' → PG X' tg (RG G t))
    (hc : ∀ X' : Cx, CtxOk { Γ with sc := L2.relS scope Γ.sc, top := false, lam := false } cf io G XW0 X' → PTs X' ifs (RTs cf io G cond))
    (he : ∀ X' : Cx, CtxOk { Γ with sc := L2.relS scope Γ.sc, top := false, lam := false } cf io G XW0 X' → PE X' elt (RE cf io G XW0 ce)) :
    PE X (.ListComp elt [⟨tg, it, ifs, 0⟩] scope pos) (RE cf io G XW (.lc (own.map (·.2)) t.1 t.2 ci cond ce)) := by
  have ok : BlkOk X.N X.env.scope scope own := by rw [O.N, O.sc]; exact blkOk_by hb
  refine pe_imp (pe_lc O.calm O.nd hi ok (fun s H C cl fp => hg _ (O.blk s H scope C cl fp)) (fun s H C cl fp => hc _ (O.blk s H scope C cl fp)) (fun s H C cl fp => he _ (O.blk s H scope C cl fp)) hs) fun σ H Q hq => ?_
  obtain ⟨W, s, S, n, q⟩ := hq
  generalize own.map (·.2) = vs at q ht ⊢
  have q : Rd_ (if vs.any (owned s.e) = true then R.bad else fin false ((evI cf io ci s).bind fun ds s1 => if vs.any (owned s1.e) = true then R.bad else
      (lcGo vs t.1 t.2 (evA cf io cond) (evC cf io false ce) ds [] { s1 with e := wipeE s1.e vs }).bind fun ys s2 => R.ok (D.lst ys, true) { s2 with e := backE s1.e s2.e vs })) (XOut G XW W H σ) fun d s' => ∀ v W' H', Res G W H σ s' d.1 d.2 v W' H' → Q v H' := q
  split at q
  · exact q.elim
  rw [fin_false, Rd_.bind] at q
  refine ⟨W, s, S, n, Rd_.imp q (fun _ _ _ z => z) fun ds s1 q1 J W1 H1 S1 g1 n1 wk => ?_⟩
  split at q1
  · exact q1.elim
  rename_i hno
  have hno : ∀ i ∈ vs, owned s1.e i = false := fun i hi => by
    cases z : owned s1.e i with
    | false => rfl
    | true => exact absurd (List.any_eq_true.mpr ⟨i, hi, z⟩) hno
  intro A hA
  -- the loop
  refine ⟨fun i m H' => m = ds.length - i ∧ i ≤ ds.length ∧ ∃ Wi si acc xs, Go W1 H1 Wi H' ∧ NoT Wi ∧ Wi A = some .f ∧ H' A = some (.lst xs) ∧ RepL G Wi H' acc xs ∧ Sim G Wi H' si (L2.wipe σ vs) ∧
    Rd_ ((lcGo vs t.1 t.2 (evA cf io cond) (evC cf io false ce) (ds.drop i) acc si).bind fun ys s2 => R.ok (D.lst ys, true) { s2 with e := backE s1.e s2.e vs }) (XOut G XW W H σ) (fun d s' => ∀ v W' H', Res G W H σ s' d.1 d.2 v W' H' → Q v H'), ⟨ds.length, by simp, Nat.zero_le _, setW A .f W1, { s1 with e := wipeE s1.e vs }, [], [], (Go.refl.setW hA).updD hA, fun a h => ?_, setW_same, upd_same, .nil, ?_, q1⟩, ?_⟩
  · by_cases ha : a = A
    · subst ha; rw [setW_same] at h; cases h
    · rw [setW_ne ha] at h; exact n1 a h
  · refine (S1.wipe vs).keep (fun a x h w => ?_) fun a x o _ h w => ?_
    all_goals
      have : a ≠ A := fun z => by rw [z, hA] at h; cases h
      exact ⟨by rw [upd_ne this]; exact h, by rw [setW_ne this]; exact w⟩
  rintro i m H2 ⟨rfl, hi2, Wi, si, acc, xs, g2, n2, wA, hAx, ra, S2, q2⟩
  by_cases hlt : i < ds.length
  · refine .inr ⟨wk.go i Wi H2 g2 hlt, _, fun H' p' => ⟨ds.length - (i + 1), by omega, p'⟩, fun x H3 y => ?_⟩
    have hd : ds[i]? = some ds[i] := by simp [hlt]
    generalize ds[i] = d at hd
    obtain ⟨W3, g3, k3, n3, r3⟩ := wk.yld i d Wi H2 x H3 g2 n2 hd y
    have S3 := S2.mono g3 fun a x o ho h w => k3 a x o ho h w
    have hdrop : ds.drop i = d :: ds.drop (i + 1) := by
      rw [List.drop_eq_getElem_cons hlt]
      have : ds[i] = d := by
        have := hd
        rw [List.getElem?_eq_getElem hlt] at this
        exact Option.some.inj this
      rw [this]
    rw [hdrop] at q2
    refine ⟨W3, si, d, S3, n3, r3, ?_⟩
    simp only [lcGo] at q2
    cases ha : assignT t.1 t.2 d si.e with
    | none => rw [ha] at q2; exact q2.elim
    | some e1 =>
      rw [ha] at q2
      dsimp only at q2 ⊢
      intro σ4 W4 S4 g4 n4 kp4 le4
      have hw : L2.wipe σ4 vs = L2.wipe σ vs := by
        refine wipe_same (by rw [le4, wipe_length]) fun j hj => ?_
        rw [kp4 j fun z => hj ?_, wipe_get, if_neg hj]
        have := List.all_eq_true.mp ht j z
        simpa using this
      refine ⟨hw, W4, _, S4, n4, ?_⟩
      cases hcnd : evA cf io cond { si with e := e1 } with
      | exc x ds' s' => rw [hcnd] at q2; exact q2.elim
      | bad => rw [hcnd] at q2; exact q2.elim
      | ok b s5 =>
        rw [hcnd] at q2
        intro W5 H5 S5 g5 n5
        have g35 : Go Wi H2 W5 H5 := (g3.trans g4).trans g5
        have w5 : W5 A = some .f := g35.far A wA (by rw [hAx]; exact fun z => nomatch z)
        have h5 : H5 A = some (.lst xs) := g35.keep A _ hAx (.inr wA)
        cases b with
        | false =>
          rw [if_neg Bool.false_ne_true]
          have S6 := S5.wipe vs
          rw [hw] at S6
          exact ⟨rfl, hlt, W5, _, acc, xs, g2.trans g35, n5, w5, h5, ra.mono g35, S6, q2⟩
        | true =>
          rw [if_pos rfl]
          refine ⟨W5, s5, S5, n5, ?_⟩
          cases hev : evC cf io false ce s5 with
          | exc x ds' s' => dsimp only at q2; rw [hev] at q2; exact q2.elim
          | bad => dsimp only at q2; rw [hev] at q2; exact q2.elim
          | ok y s6 =>
            dsimp only at q2
            rw [hev] at q2
            intro v W6 H6 r6
            dsimp only at q2
            split at q2
            · rename_i hlen
              have g6 : Go Wi H2 (dropT W6) H6 := g35.trans r6.go.dropT
              have w6 : dropT W6 A = some .f := g6.far A wA (by rw [hAx]; exact fun z => nomatch z)
              have h6 : H6 A = some (.lst xs) := g6.keep A _ hAx (.inr wA)
              refine ⟨xs, h6, ?_, rfl, hlt, dropT W6, _, acc ++ [y.1], xs ++ [v], (g2.trans g6).updD hA, dropT_not _, w6, upd_same, ?_, ?_, q2⟩
              · rw [← ra.length]
                exact Nat.lt_of_lt_of_le hlen line_most
              · exact ((ra.mono g6).snoc r6.val.rep).keep (updD_keep w6)
              · have S7 := (r6.sim.dropT.wipe vs).keep (H' := upd H6 A (.lst (xs ++ [v]))) (updD_keep w6) (updD_keepS w6)
                rw [hw] at S7
                exact S7
            · exact q2.elim
  · have : i = ds.length := by omega
    subst this
    refine .inl ⟨wk.stop Wi H2 g2, ?_⟩
    rw [List.drop_length] at q2
    have q2 : ∀ v W' H', Res G W H σ { si with e := backE s1.e si.e vs } (.lst acc) true v W' H' → Q v H' := q2
    have k0 : ∀ a y, H2 a = some y → Wi a = none → H2 a = some y ∧ setW A .t Wi a = none := fun a y h w => by
      have : a ≠ A := fun z => by rw [z, wA] at w; cases w
      exact ⟨h, by rw [setW_ne this]; exact w⟩
    refine q2 _ (setW A .t Wi) H2 ⟨⟨?_, fun j d e => ?_, fun j d e => ?_, S2.tab.keep k0 fun a x o ho h w => ?_⟩, g1.trans (g2.setW hA), ?_⟩
    · show (backE s1.e si.e vs).length = _
      rw [backE_len, S2.len, wipe_length]
    · have e : (backE s1.e si.e vs)[j]? = some (some (d, false)) := e
      rw [backE_get (by rw [S1.len, S2.len, wipe_length])] at e
      by_cases hj : j ∈ vs
      · rw [if_pos hj] at e
        obtain ⟨v, h1, h2⟩ := S1.slot j d e
        exact ⟨v, h1, (h2.mono g2).keep k0⟩
      · rw [if_neg hj] at e
        obtain ⟨v, h1, h2⟩ := S2.slot j d e
        rw [wipe_get, if_neg hj] at h1
        exact ⟨v, h1, h2.keep k0⟩
    · have e : (backE s1.e si.e vs)[j]? = some (some (d, true)) := e
      rw [backE_get (by rw [S1.len, S2.len, wipe_length])] at e
      by_cases hj : j ∈ vs
      · rw [if_pos hj] at e
        have := hno j hj
        unfold owned at this
        rw [e] at this
        cases this
      · rw [if_neg hj] at e
        obtain ⟨v, h1, h2⟩ := S2.own j d e
        rw [wipe_get, if_neg hj] at h1
        exact ⟨v, h1, h2.keep k0 fun a x h w => by
          have : a ≠ A := fun z => by rw [z, wA] at w; cases w
          exact ⟨h, by rw [setW_ne this]; exact w⟩⟩
    · have : a ≠ A := fun z => by rw [z, wA] at w; cases w; exact ho.2 rfl
      exact ⟨h, by rw [setW_ne this]; exact w⟩
    · unfold ValOk
      rw [if_pos rfl]
      exact ⟨A, xs, rfl, setW_same, hAx, ra.keep k0⟩
end
end PT

set_option Elab.async false
set_option linter.all false
set_option maxRecDepth 100000
set_option maxHeartbeats 4000000
/-! PTo: a lambda handed to a def. -/
namespace PT
open PySem L2 PySem.Spec PyProof.Rows
/-! ### more closures, the same trees -/
section
variable {G G' : Glob} {W W' : Ow} {H H' : Hp}
mutual
theorem Rep.ext (g : GExt G G') : ∀ {d : D} {v : V}, Rep G W H d v → Rep G' W H d v
  | _, _, .con k => .con (by obtain ⟨g', rfl, _⟩ := g; exact k)
  | _, _, .fn e => .fn (by obtain ⟨g', rfl, _⟩ := g; exact e)
  | _, _, .tup w h r => .tup w h (RepL.ext g r)
  | _, _, .lst w h r => .lst w h (RepL.ext g r)
  | _, _, .stm w w' n h h' => .stm w w' n h h'
  | _, _, .clo e w h r => .clo (by obtain ⟨g', rfl, k⟩ := g; exact k _ _ e) w h (RepL.ext g r)
  | _, _, .scr w r => .scr w r
  | _, _, .scrK r => .scrK (by obtain ⟨g', rfl, k⟩ := g; exact r)
theorem RepL.ext (g : GExt G G') : ∀ {ds : List D} {vs : List V}, RepL G W H ds vs → RepL G' W H ds vs
  | _, _, .nil => .nil
  | _, _, .cons r t => .cons (Rep.ext g r) (RepL.ext g t)
end
mutual
/-- a tree without closures needs none -/
theorem Rep.less (g : GExt G G') : ∀ {d : D} {v : V}, Rep G' W H d v → d.noClo = true → Rep G W H d v
  | _, _, .con k, _ => .con (by obtain ⟨g', rfl, _⟩ := g; exact k)
  | _, _, .fn e, _ => .fn (by obtain ⟨g', rfl, _⟩ := g; exact e)
  | _, _, .tup w h r, n => .tup w h (RepL.less g r (by unfold D.noClo at n; exact n))
  | _, _, .lst w h r, n => .lst w h (RepL.less g r (by unfold D.noClo at n; exact n))
  | _, _, .stm w w' n h h', _ => .stm w w' n h h'
  | _, _, .clo _ _ _ _, n => by unfold D.noClo at n; cases n
  | _, _, .scr w r, _ => .scr w r
  | _, _, .scrK r, _ => .scrK (by obtain ⟨g', rfl, k⟩ := g; exact r)
theorem RepL.less (g : GExt G G') : ∀ {ds : List D} {vs : List V}, RepL G' W H ds vs → D.noCloL ds = true → RepL G W H ds vs
  | _, _, .nil, _ => .nil
  | _, _, .cons r t, n => by
    unfold D.noCloL at n
    rw [Bool.and_eq_true] at n
    exact .cons (Rep.less g r n.1) (RepL.less g t n.2)
end
theorem OwnC.less (g : GExt G G') {o : Wh} {d : D} {v : V} (h : OwnC G' W H o d v) (n : d.noClo = true) : OwnC G W H o d v := by
  cases d with
  | lst ds =>
    obtain ⟨a, vs, rfl, w, hh, r⟩ := h
    exact ⟨a, vs, rfl, w, hh, r.less g (by unfold D.noClo at n; exact n)⟩
  | stm cells x y z => exact h
  | _ => exact h.elim
theorem Tab.ext (g : GExt G G') (t : Tab G W H) : Tab G' W H := by obtain ⟨g', rfl, _⟩ := g; exact t
theorem Tab.less (g : GExt G G') (t : Tab G' W H) : Tab G W H := by obtain ⟨g', rfl, _⟩ := g; exact t
end
/-- the objects at which p holds, alone -/
theorem restrictS (h : Heap) (p : Addr → Bool) : ∃ G : Heap, (∀ b, p b = true → G.get? b = h.get? b) ∧ (∀ b, p b = false → G.get? b = none) ∧ G.objs.size ≤ h.objs.size := by
  obtain ⟨l, hl⟩ : ∃ l : List Addr, l = (List.range h.objs.size).filter fun b => !p b := ⟨_, rfl⟩
  have m1 : ∀ b, b ∈ l → p b = false := fun b hb => by
    rw [hl] at hb
    have z := (List.mem_filter.mp hb).2
    simpa using z
  have m2 : ∀ b, b < h.objs.size → p b = false → b ∈ l := fun b h1 h2 => by
    rw [hl]
    exact List.mem_filter.mpr ⟨List.mem_range.mpr h1, by simp [h2]⟩
  refine ⟨PySem.W.hideAll h l, fun b hb => ?_, fun b hb => ?_, Nat.le_of_eq (PySem.W.hideAll_size _ _)⟩
  · cases e : h.get? b with
    | some o => exact PySem.W.hideAll_get l e fun hm => by rw [m1 b hm] at hb; cases hb
    | none =>
      cases q : (PySem.W.hideAll h l).get? b with
      | none => rfl
      | some o =>
        have z := PySem.W.of_hideAll l q
        rw [e] at z; cases z
  · cases q : (PySem.W.hideAll h l).get? b with
    | none => rfl
    | some o =>
      have z := PySem.W.of_hideAll l q
      rw [PySem.W.hideAll_none l (m2 b (Heap.lt_size z) hb)] at q; cases q
section
variable {X : Cx} {pins : List (Addr × Obj)} {σ : L2.St} {H : Hp} {s : Shared}
/-- the lambda is made: the heap is as it was, or the table has one row more -/
theorem lam_make {c P : Addr} {q : Str} {ps : Array Value} {params : Arguments} {body : Expr} {scope : Scope} {pos : Pos} {E : Value → Shared → Prop} {Q : Value → Shared → Prop} (I : Inv X pins σ H s) (TB : LamX.TabB X.base X.mg c P) (hcode : X.env.code = .ref c) (hq : q = X.env.qual ++ "<lambda>")
    (hP : H P = some (.tbl ps)) (ht : TriplesOk ps.toList) (ha : ∀ (pos : Pos) (cv : Value), codeAmong pos ps.toList = some cv → ∃ c, cv = .ref c ∧ H c = some (LamX.CodeO c q)) (hdef : defaultsOf params X.env = ([], [])) (hfree : ∀ y ∈ scope.names, y.2 = .free → ∃ c, X.env.cells.lookup y.1 = some c)
    (h : ∀ (f c' : Addr) (pm ctv : Value) (H1 : Hp) (s' : Shared), Inv X pins σ H1 s' →
      ((H1 = H ∧ ∃ cv, codeAmong pos ps.toList = some cv ∧ cv = .ref c') ∨ ∃ more : Array Value, H c' = none ∧ H1 = upd (upd H P (.tbl (ps ++ more))) c' (LamX.CodeO c' q) ∧ TriplesOk (ps ++ more).toList ∧ ∀ (pos : Pos) (cv : Value), codeAmong pos (ps ++ more).toList = some cv → codeAmong pos ps.toList = some cv ∨ cv = .ref c') →
      s'.heap.get? f = some (PySem.W.kla_obj "<lambda>" q params body scope (cloFrom X.env.cells scope.names []) pm c' ctv) → H1 f = none → f ∉ frs X.stack → s.heap.objs.size ≤ f → H1 c' = some (LamX.CodeO c' q) → Q (.ref f) s') :
    wpAny (model X.prog X.w) X.A (eval (.Lambda params body scope pos) X.env) Q E s := by
  subst hq
  refine PySem.W.kla_eval hdef ?_
  have bP : s.heap.BuiltinsAt X.mg P := TB.bm.keeps I.bk
  have hP' : s.heap.get? P = some { cls := .none, data := .fields ps } := I.hok P _ hP
  have nofr : ∀ f, s.heap.objs.size ≤ f → f ∉ frs X.stack := fun f hf z => by
    rcases List.mem_cons.mp (I.stkSub _ z) with e | e
    · have h1 := I.lt
      rw [← e] at h1
      exact Nat.lt_irrefl _ (Nat.lt_of_lt_of_le h1 hf)
    · exact I.nofs hf e
  cases hc : codeAmong pos ps.toList with
  | none =>
    refine PySem.W.kla_makeFunction (mg := X.mg) (c := c) (P := P) (ps := ps) (closure_ok hfree) I.ok.glob (I.mod.glob.keeps I.bk) hcode (TB.code.keeps I.bk) hP' ht hc TB.gP bP fun c' ctv h' tk hx hge hlt hrec htb => ?_
    obtain ⟨c2, oc, vs, t, e2, hoc, hd, hv⟩ := hrec
    cases e2
    have hsz : s.heap.objs.size ≤ h'.objs.size := Nat.le_trans hge (Nat.le_of_lt hlt)
    have nC : H c' = none := I.hok.fresh hge
    have I1 := LamX.inv_table (t' := tk) (more := #[rawInt pos.line, rawInt pos.col, .ref c']) (h' := h'.push (PySem.W.kla_obj "<lambda>" (X.env.qual ++ "<lambda>") params body scope (cloFrom X.env.cells scope.names []) ((X.mg "__name__").getD .none) c' ctv)) I hP
      (fun b o hb e => Heap.get?_push_of_some _ (hx b o hb e)) (Heap.get?_push_of_some _ htb) hge ⟨oc, vs, t, Heap.get?_push_of_some _ hoc, hd, hv⟩
    have eL : (ps ++ #[rawInt pos.line, rawInt pos.col, .ref c']).toList = ps.toList ++ [rawInt pos.line, rawInt pos.col, .ref c'] := by simp
    refine h h'.objs.size c' ((X.mg "__name__").getD .none) ctv _ _ I1 (.inr ⟨_, nC, rfl, by rw [eL]; exact PySem.TriplesOk_snoc _ _ _ _ ht, fun p' cv hcv => ?_⟩) (Heap.get?_push_size _ rfl) ?_ (nofr _ hsz) hsz upd_same
    · rw [eL] at hcv
      exact LamX.among_app _ ht hcv
    · have n1 : h'.objs.size ≠ c' := Nat.ne_of_gt hlt
      have n2 : h'.objs.size ≠ P := Nat.ne_of_gt (Nat.lt_of_lt_of_le (Heap.lt_size hP') hsz)
      rw [upd_ne n1, upd_ne n2]
      exact I.hok.fresh hsz
  | some cv =>
    obtain ⟨c', e, hco⟩ := ha pos cv hc
    subst e
    refine PySem.W.kla_makeFunctionHit (mg := X.mg) (c := c) (P := P) (ps := ps) (closure_ok hfree) I.ok.glob (I.mod.glob.keeps I.bk) hcode (TB.code.keeps I.bk) hP' ht hc bP fun ctv h' tk hx hsz => ?_
    have I1 : Inv X pins σ H { s with heap := h'.push (PySem.W.kla_obj "<lambda>" (X.env.qual ++ "<lambda>") params body scope (cloFrom X.env.cells scope.names []) ((X.mg "__name__").getD .none) c' ctv), toks := tk } := I.kept fun b o e => Heap.get?_push_of_some _ (hx b o e)
    exact h h'.objs.size c' ((X.mg "__name__").getD .none) ctv H _ I1 (.inl ⟨rfl, _, hc, rfl⟩) (Heap.get?_push_size _ rfl) (I.hok.fresh hsz) (nofr _ hsz) hsz hco
end
/-- the captured names, as values -/
theorem caps_ok {G : Glob} {H : Hp} {σ : L2.St} : ∀ {caps : List Nat} {W : Ow} {s : Sta} {ds : List D} {e1 : Slots}, capsE s.e caps = some (ds, e1) → Sim G W H s σ → NoT W →
    ∃ W1 us, Sim G W1 H { s with e := e1 } σ ∧ Go W H W1 H ∧ NoT W1 ∧ RepL G W1 H ds us ∧ us.length = caps.length ∧ ∀ (k i : Nat), caps[k]? = some i → ∃ u, us[k]? = some u ∧ σ[i]? = some (some u)
  | [], W, s, ds, e1, h, S, n => by
    simp only [capsE, Option.some.injEq, Prod.mk.injEq] at h
    obtain ⟨rfl, rfl⟩ := h
    exact ⟨W, [], S, Go.refl, n, .nil, rfl, fun k i hk => by simp at hk⟩
  | i :: r, W, s, ds, e1, h, S, n => by
    simp only [capsE] at h
    split at h
    · rename_i d o he
      split at h
      · rename_i ds' e' hr
        simp only [Option.some.injEq, Prod.mk.injEq] at h
        obtain ⟨rfl, rfl⟩ := h
        obtain ⟨v, h1, h2, S1⟩ := S.freeze he
        obtain ⟨W1, us, S2, g2, n2, r2, l2, k2⟩ := caps_ok (s := { s with e := s.e.set i (some (d, false)) }) hr S1 (dropS_not n)
        refine ⟨W1, v :: us, S2, (Go.refl.dropS i).trans g2, n2, .cons (h2.mono g2) r2, by simp [l2], fun k j hk => ?_⟩
        cases k with
        | zero => simp at hk; subst hk; exact ⟨v, rfl, h1⟩
        | succ k => simpa using k2 k j (by simpa using hk)
      · cases h
    · cases h
/-- the caller's slots behind a call that got nothing lent -/
theorem sim_call0 {G : Glob} {W W' : Ow} {H H' : Hp} {σ : L2.St} {e : Slots} {m m' : List Unit} {d : D} (S : Sim G W H ⟨e, m⟩ σ) (n : NoT W) (g0 : Go (toC [Sum.inl d] W) H W' H') (t : Tab G W' H') : Sim G (fromC [Sum.inl d] W W') H' ⟨e, m'⟩ σ := by
  have g := fromC_go n g0
  refine ⟨S.len, fun i d' e' => let ⟨v, h1, h2⟩ := S.slot i d' e'; ⟨v, h1, h2.mono g⟩, fun i d' e' => ?_, t.monoW (fun a w => fromC_none w) fun a w => fromC_b w⟩
  obtain ⟨v, h1, h2⟩ := S.own i d' e'
  refine ⟨v, h1, h2.mono g fun a x hx hw => ?_⟩
  have hc : toC [Sum.inl d] W a = some .f := toC_other hw rfl
  have hne : H a ≠ none := by rw [hx]; exact fun z => nomatch z
  exact ⟨g0.keep a x hx (.inr hc), by rw [fromC_far (g0.far a hc hne)]; exact hw⟩
theorem lamN_free {scope : Scope} {x : Str} (h : x ∈ lamN scope) : (x, NameKind.free) ∈ scope.names := by
  unfold lamN at h
  rw [List.mem_filterMap] at h
  obtain ⟨⟨y, k⟩, hy, hk⟩ := h
  split at hk
  · rename_i e
    cases hk
    have : k = .free := e
    rw [this] at hy
    exact hy
  · cases hk
theorem lamCaps_at {Γ : Tc} : ∀ {N : List Str} {caps : List Nat}, lamCaps Γ N = some caps → caps.length = N.length ∧ ∀ (k : Nat) (x : Str), N[k]? = some x → Γ.sc.names.lookup x = some .cell ∧ ∃ i, caps[k]? = some i ∧ Γ.N[i]? = some x
  | [], caps, h => by
    simp only [lamCaps] at h; cases h
    exact ⟨rfl, fun k x hk => by simp at hk⟩
  | y :: r, caps, h => by
    simp only [lamCaps] at h
    split at h
    · rename_i hy
      split at h
      · rename_i i hi
        rw [Option.map_eq_some_iff] at h
        obtain ⟨cr, hr, rfl⟩ := h
        obtain ⟨h1, h2⟩ := lamCaps_at hr
        refine ⟨by simp [h1], fun k x hk => ?_⟩
        cases k with
        | zero => simp at hk; subst hk; exact ⟨hy, i, rfl, ixOf_ok hi⟩
        | succ k => simpa using h2 k x (by simpa using hk)
      · cases h
    · cases h
section
variable {X : Cx} {cf : CallF} {io : Nat → Option Nat} {G : Glob} {XW : WX} {Γ : Tc}
theorem CloMade.keep {pt : Pt} {K : PySem.W.Frag} {base base' : Heap} {f : Addr} {i : CloI} (k : ∀ b o, base.get? b = some o → base'.get? b = some o) (h : CloMade pt K base f i) : CloMade pt K base' f i := by
  obtain ⟨body, scope, cl, pm, ctv, N, n, h1, h2, h3, h4, h5, h6, h7, h8, h9, h10, h11, h12⟩ := h
  exact ⟨body, scope, cl, pm, ctv, N, n, k _ _ h1, h2, h3, h4, h5, h6, h7, h8, fun a x u e1 e2 => let ⟨c, w, q1, q2, q3⟩ := h9 a x u e1 e2; ⟨c, w, q1, q2.keeps k, q3⟩, fun x c e => let ⟨v, q⟩ := h10 x c e; ⟨v, q.keeps k⟩, h11, h12⟩
theorem sE_lam (O : CtxOk Γ cf io G XW X) {n : Nat} {x : Str} {i : Nat} {body : Expr} {scope : Scope} {lpos p pos : Pos} {b : C} {caps : List Nat} (hl : Γ.lam = true) (ht : Γ.top = true) (hx : Γ.glob x = true) (hd : (x == ("__debug__" : Str)) = false) (hL : LamX.lamSB Γ.sc scope = true) (hnd : (lamN scope).Nodup)
    (hf : Γ.pt.fns.lookup x = some i) (hc : lamCaps Γ (lamN scope) = some caps) (hb : trE n ⟨Γ.pt, lamN scope, scope, false, false⟩ body = some b) :
    PE X (.Call (.Name x p) [.Lambda ⟨[], [], none, [], [], none, []⟩ body scope lpos] [] pos) (RE cf io G XW (.callL i b caps)) := by
  obtain ⟨g, fd0, ps0, k0, hm, _, hk, _, _, hb0⟩ := O.call x i hf
  obtain ⟨c, P, hcode, TB, hmT, hu⟩ := O.tb hl
  have L : LamX.LamS X.env.scope scope := by rw [O.sc]; exact LamX.lamS_by hL
  obtain ⟨lc1, lc2⟩ := lamCaps_at hc
  refine ⟨fun pins s σ H Q I hq => ?_⟩
  obtain ⟨W, st, S, nt, q⟩ := hq
  have q : Rd_ (fin false (match capsE st.e caps with
    | some (vs, e1) => match cf i [(.clo b vs, false)] st.m with
       | .ok d o none m => if d.noClo = true then R.ok (d, o) ⟨e1, m⟩ else .bad
       | .exc x ds none m => if D.noCloL ds = true then .exc x ds ⟨e1, m⟩ else .bad
       | _ => .bad
    | none => .bad)) (XOut G XW W H σ) fun d s' => ∀ v W' H', Res G W H σ s' d.1 d.2 v W' H' → Q v H' := q
  rw [fin_false] at q
  cases hcaps : capsE st.e caps with
  | none => rw [hcaps] at q; exact q.elim
  | some dse =>
  obtain ⟨ds, e1⟩ := dse
  rw [hcaps] at q
  obtain ⟨W1, us, S1, g1, n1, ru, lu, ku⟩ := caps_ok hcaps S nt
  obtain ⟨wP, ps, hP, htr, ha⟩ := S1.tab (P, X.env.qual ++ "<lambda>") hmT
  refine wpAny_Call_Name_kw (ld_glob I (gl_of O hx) hm ?_ hd)
  refine PySem.W.callWith_K (h₀ := X.base) I.ok.mod.kin hk ?_ (by rfl) (by rfl)
  show wpAny _ _ (spliced ((false, eval (.Lambda ⟨[], [], none, [], [], none, []⟩ body scope lpos) X.env) :: backTo pos (starEach [] X.env))) _ _ s
  refine Calls.spliced_cons (lam_make I TB hcode rfl hP htr (fun pos cv h => let ⟨c, e, h1, _⟩ := ha pos cv h; ⟨c, e, h1⟩) (by rfl) (L.has I.ok) fun f c' pm ctv H2 s' I2 hH hfo hfn hfr hsz hco => ?_)
  refine Calls.spliced_nil ⟨I2.kIn, ?_⟩
  -- the ownership behind it
  have key : ∃ W2, Go W1 H W2 H2 ∧ NoT W2 ∧ W2 c' = none ∧ Tab G W2 H2 ∧ (∀ a y o, o ≠ .t → o ≠ .b → H a = some y → W1 a = some o → H2 a = some y ∧ W2 a = some o) := by
    rcases hH with ⟨rfl, cv, hcv, rfl⟩ | ⟨more, nC, rfl, ht2, hm2⟩
    · obtain ⟨c2, e2, _, w2⟩ := ha _ _ hcv
      cases e2
      exact ⟨W1, Go.refl, n1, w2, S1.tab, fun a y o _ _ h w => ⟨h, w⟩⟩
    · have nPc : P ≠ c' := fun z => by rw [z, nC] at hP; cases hP
      have at_ : ∀ a y, H a = some y → W1 a ≠ some .b → upd (upd H P (.tbl (ps ++ more))) c' (LamX.CodeO c' (X.env.qual ++ "<lambda>")) a = some y ∧ a ≠ c' := fun a y h w => by
        have a1 : a ≠ c' := fun z => by rw [z, nC] at h; cases h
        have a2 : a ≠ P := fun z => w (by rw [z]; exact wP)
        exact ⟨by rw [upd_ne a1, upd_ne a2]; exact h, a1⟩
      have wne : ∀ {a}, a ≠ c' → newN c' W1 a = W1 a := fun {a} h => if_neg h
      refine ⟨newN c' W1, ⟨fun a o h w => (at_ a o h (by rcases w with w | w <;> rw [w] <;> simp)).1, fun a h => ?_, fun a w h => ?_, fun a w h => ?_, fun a o h => ?_⟩, fun a h => ?_, if_pos rfl, fun p hp => ?_, fun a y o ho hb h w => ?_⟩
      · by_cases a1 : a = c'
        · rw [a1, upd_same]; exact fun z => nomatch z
        · rw [upd_ne a1]
          by_cases a2 : a = P
          · rw [a2, upd_same]; exact fun z => nomatch z
          · rw [upd_ne a2]; exact h
      · show (if a = c' then none else W1 a) = none
        split
        · rfl
        · exact w
      · have a1 : a ≠ c' := fun z => h (by rw [z]; exact nC)
        rw [wne a1]; exact w
      · have h' : (if a = c' then none else W1 a) = some o := h
        split at h'
        · cases h'
        · exact .inl h'
      · have h' : (if a = c' then none else W1 a) = some .t := h
        split at h'
        · cases h'
        · exact n1 a h'
      · obtain ⟨w1, ps1, h1, h2, h3⟩ := S1.tab p hp
        have a1 : p.1 ≠ c' := fun z => by rw [z, nC] at h1; cases h1
        refine ⟨by rw [wne a1]; exact w1, ?_⟩
        have cok : ∀ (pos : Pos) (cv : Value), codeAmong pos ps1.toList = some cv → ∃ c2, cv = .ref c2 ∧ upd (upd H P (.tbl (ps ++ more))) c' (LamX.CodeO c' (X.env.qual ++ "<lambda>")) c2 = some (LamX.CodeO c2 p.2) ∧ newN c' W1 c2 = none := fun pos cv hcv => by
          obtain ⟨c2, e2, q1, q2⟩ := h3 pos cv hcv
          have := at_ c2 _ q1 (by rw [q2]; simp)
          exact ⟨c2, e2, this.1, by rw [wne this.2]; exact q2⟩
        by_cases hp2 : p.1 = P
        · have e3 := hu p hp hp2
          rw [hp2, hP] at h1
          cases h1
          refine ⟨ps ++ more, by rw [hp2, upd_ne nPc, upd_same], ht2, fun pos cv hcv => ?_⟩
          rcases hm2 pos cv hcv with z | z
          · exact cok pos cv z
          · exact ⟨c', z, by rw [e3]; exact upd_same, if_pos rfl⟩
        · exact ⟨ps1, by rw [upd_ne a1, upd_ne hp2]; exact h1, h2, cok⟩
      · have z := at_ a y h (by rw [w]; intro z; cases z; exact hb rfl)
        exact ⟨z.1, by rw [wne z.2]; exact w⟩
  obtain ⟨W2, g2, n2, wc, tab2, k2⟩ := key
  have S2 : Sim G W2 H2 { st with e := e1 } σ := ⟨S1.len, fun i d e => let ⟨v, h1, h2⟩ := S1.slot i d e; ⟨v, h1, h2.mono g2⟩, fun i d e => let ⟨v, h1, h2⟩ := S1.own i d e; ⟨v, h1, h2.mono g2 fun a y h w => k2 a y _ (by simp) (by simp) h w⟩, tab2⟩
  -- the base that holds the closure too
  let cl := cloFrom X.env.cells scope.names []
  have cm : ∀ {y cc}, cl.lookup y = some cc → X.env.cells.lookup y = some cc := fun {y cc} e => by
    rcases cloFrom_mem (PySem.mem_of_lookup e) with hm | ⟨h1, h2⟩
    · cases hm
    · obtain ⟨c1, hc⟩ := L.has I.ok _ h1 rfl
      have hc : X.env.cells.lookup y = some c1 := hc
      have e2 : cc = c1 := by
        rw [h2, hc] <;> rfl
      rw [e2]
      exact hc
  have look : ∀ {y}, (y, NameKind.free) ∈ scope.names → ∃ cc, cl.lookup y = some cc := fun {y} hy => mem_lookup (cloFrom_has (cells := X.env.cells) (acc := []) hy)
  obtain ⟨base', b1, b2, b3⟩ := restrictS s'.heap fun a => (X.base.get? a).isSome || decide (a = f) || decide (a ∈ cl.map (·.2))
  have inB : ∀ {a o}, X.base.get? a = some o → base'.get? a = some o := fun {a o} e => by
    rw [b1 a (by rw [e]; simp)]; exact I2.bk a o e
  have inF : base'.get? f = s'.heap.get? f := b1 f (by simp)
  have inC : ∀ {y cc}, cl.lookup y = some cc → base'.get? cc = s'.heap.get? cc := fun {y cc} e => b1 cc (by
    have : cc ∈ cl.map (·.2) := List.mem_map.mpr ⟨(y, cc), PySem.mem_of_lookup e, rfl⟩
    simp [this])
  have ofB : ∀ {a o}, base'.get? a = some o → s'.heap.get? a = some o ∧ (X.base.get? a ≠ none ∨ a = f ∨ ∃ y, X.env.cells.lookup y = some a) := fun {a o} e => by
    cases hp : ((X.base.get? a).isSome || decide (a = f) || decide (a ∈ cl.map (·.2))) with
    | false => rw [b2 a hp] at e; cases e
    | true =>
      rw [b1 a hp] at e
      refine ⟨e, ?_⟩
      simp only [Bool.or_eq_true, decide_eq_true_eq] at hp
      rcases hp with (hp | hp) | hp
      · exact .inl (by intro z; rw [z] at hp; cases hp)
      · exact .inr (.inl hp)
      · obtain ⟨⟨y, cc⟩, hy, e3⟩ := List.mem_map.mp hp
        have e3 : cc = a := e3
        subst e3
        rcases cloFrom_mem hy with hm | ⟨h1, h2⟩
        · cases hm
        · obtain ⟨c1, hc1⟩ := L.has I.ok _ h1 rfl
          have hc1 : X.env.cells.lookup y = some c1 := hc1
          have e2 : cc = c1 := by rw [h2, hc1] <;> rfl
          exact .inr (.inr ⟨y, by rw [e2]; exact hc1⟩)
  have cellFr : ∀ y cc, X.env.cells.lookup y = some cc → cc ∉ frs X.stack := fun y cc e z => by
    rcases List.mem_cons.mp (I2.stkSub _ z) with z | z
    · exact I2.cne y cc e z
    · obtain ⟨_, o, ho, _⟩ := I.ok.funs.mem z
      exact absurd (Heap.lt_size ho) (Nat.not_lt_of_le (I.ok.cab y cc (O.fn ht y) e))
  have e0 : Env0 X.prog X.w X.K X.mg base' X.A X.stack s' H2 := by
    have E := I2.env0
    refine ⟨E.frames, ⟨E.mod.kin.keeps fun b o e => inB e, E.mod.glob.keeps fun b o e => inB e, ?_, E.mod.nolimit.keeps fun b o e => inB e⟩, fun a o e => ⟨(ofB e).1, ?_⟩, b3, funFrames_none E.funs fun a ha => ?_, E.frf, E.hok, E.bare⟩
    · obtain ⟨mb, h1, h2⟩ := E.mod.blt
      exact ⟨mb, h1.keeps fun b o e => inB e, h2⟩
    · rcases (ofB e).2 with z | rfl | ⟨y, hy⟩
      · cases e4 : X.base.get? a with
        | none => exact absurd e4 z
        | some o' => exact (I2.bs a o' e4).2
      · exact hfn
      · exact I2.freeC y a hy
    · cases e4 : base'.get? a with
      | none => rfl
      | some o =>
        rcases (ofB e4).2 with z | rfl | ⟨y, hy⟩
        · obtain ⟨z2, _⟩ := E.funs.mem ha
          exact absurd z2 z
        · exact absurd ha hfr
        · exact absurd ha (cellFr y a hy)
  let G' : Glob := { G with cl := fun a => if a = f then some ⟨b, us, c', X.env.qual ++ "<lambda>"⟩ else G.cl a }
  have fresh : X.base.get? f = none := by
    cases e : X.base.get? f with
    | none => rfl
    | some o => exact absurd (Heap.lt_size (I.bk f o e)) (Nat.not_lt_of_le hsz)
  have gx : GExt G G' := ⟨_, rfl, fun a j e => by
    have : a ≠ f := fun z => by
      obtain ⟨_, _, _, _, _, _, _, h1, _⟩ := O.clo a j e
      rw [z, fresh] at h1; cases h1
    rw [if_neg this]; exact e⟩
  have CA : CloAll Γ.pt X.K base' G' := fun a j e => by
    by_cases haf : a = f
    · subst haf
      have e : (if a = a then some (⟨b, us, c', X.env.qual ++ "<lambda>"⟩ : CloI) else G.cl a) = some j := e
      rw [if_pos rfl] at e
      cases e
      refine ⟨body, scope, cl, pm, ctv, lamN scope, n, by rw [inF]; exact hfo, L.kind, L.co, L.gen, L.own, hnd, by rw [lu, lc1], hb, fun k y u hy hu => ?_, fun y cc e => ?_, fun y z cc h1 h2 => I.ok.inj y z cc (cm h1) (cm h2), fun y hy => look (PySem.mem_of_lookup hy)⟩
      · obtain ⟨hy1, i0, hi0, hN0⟩ := lc2 k y hy
        obtain ⟨u', hu', hσ⟩ := ku k i0 hi0
        rw [hu] at hu'; cases hu'
        obtain ⟨m, hn, hlk⟩ := I2.loc
        have hk1 : X.env.scope.names.lookup y = some .cell := by rw [O.sc]; exact hy1
        obtain ⟨w, r, lk⟩ := hlk i0 y u (by rw [O.N]; exact hN0) hσ (.inr (.inl hk1))
        obtain ⟨cc, hcc⟩ := look (lamN_free (List.mem_of_getElem? hy))
        refine ⟨cc, w, hcc, ?_, r⟩
        rcases lk with ⟨z, _⟩ | ⟨_, c3, z, hcell⟩
        · have z : X.env.scope.names.lookup y = some .local := z
          rw [hk1] at z; cases z
        · rw [cm hcc] at z
          cases z
          obtain ⟨o, ho, hdt⟩ := hcell
          exact ⟨o, by rw [inC hcc]; exact ho, hdt⟩
      · obtain ⟨v, o, ho, hdt⟩ := I2.cell y cc (cm e)
        exact ⟨v, o, by rw [inC e]; exact ho, hdt⟩
    · have e : (if a = f then some (⟨b, us, c', X.env.qual ++ "<lambda>"⟩ : CloI) else G.cl a) = some j := e
      rw [if_neg haf] at e
      exact (O.clo a j e).keep fun b o h => inB h
  obtain ⟨g', fd, psx, k, hm', _, _, F, hr, hbd⟩ := O.lam base' G' (fun b o h => inB h) gx CA x i hf
  rw [hm] at hm'
  cases hm'
  -- the call
  have g12 : Go W H W2 H2 := g1.trans g2
  have hsp : spF G' cf (io i) i [.ref f] H2 Q (WE XW σ) := by
    refine ⟨toC [.inl (.clo b ds)] W2, [(.clo b ds, false)], st.m, toC_not, ⟨rfl, fun j d o h => ?_⟩, fun j d h => ?_, fun a j h => ?_, (tab2.monoW (fun a w => toC_none w) (fun a w => toC_b w)).ext gx, ?_⟩
    · cases j with
      | zero =>
        simp at h
        obtain ⟨rfl, rfl⟩ := h
        refine ⟨_, rfl, ?_⟩
        rw [if_neg Bool.false_ne_true]
        exact .clo (us := us) (c := c') (q := X.env.qual ++ "<lambda>") (if_pos rfl) (toC_none wc) hco (((ru.mono g2).monoW fun a w => toC_none w).ext gx)
      | succ j => simp at h
    · cases j with
      | zero => simp at h
      | succ j => simp at h
    · obtain ⟨i', _, h2⟩ := toC_s h
      simp [lentAt] at h2
    · have q : Rd_ (match cf i [(D.clo b ds, false)] st.m with
       | .ok d o none m => if d.noClo = true then R.ok (d, o) ⟨e1, m⟩ else .bad
       | .exc x ds none m => if D.noCloL ds = true then .exc x ds ⟨e1, m⟩ else .bad
       | _ => .bad) (XOut G XW W H σ) (fun (d : D × Bool) s' => ∀ v W' H', Res G W H σ s' d.1 d.2 v W' H' → Q v H') := q
      cases ec : cf i [(.clo b ds, false)] st.m with
      | bad => rw [ec] at q; exact q.elim
      | ok d o out m =>
        rw [ec] at q
        intro v W' H' ce val
        cases out with
        | some z => exact q.elim
        | none =>
          have q : Rd_ (if d.noClo = true then R.ok (d, o) ⟨e1, m⟩ else .bad) (XOut G XW W H σ) fun d s' => ∀ v W' H', Res G W H σ s' d.1 d.2 v W' H' → Q v H' := q
          split at q
          · rename_i hnc
            have gg := fromC_go (as := [Sum.inl (D.clo b ds)]) n2 ce.go
            have sf : Sim G (fromC [Sum.inl (D.clo b ds)] W2 W') H' ⟨e1, m⟩ σ := sim_call0 S2 n2 ce.go (Tab.less gx ce.tab)
            refine q v (fromC [Sum.inl (D.clo b ds)] W2 W') H' ⟨sf, g12.trans gg, ?_⟩
            unfold ValOk at val ⊢
            split
            · rename_i ho
              rw [if_pos ho] at val
              exact (val.less gx hnc).handW (fun r => Rep.monoW (fun a w => fromC_none w) r) fun a w => fromC_t w
            · rename_i ho
              rw [if_neg ho] at val
              exact ⟨Rep.monoW (fun a w => fromC_none w) (val.1.less gx hnc), fromC_not n2 val.2⟩
          · exact q.elim
      | exc y ds' out m =>
        rw [ec] at q
        intro cls dx W' H' ce nt' hcl hv
        cases out with
        | some z => exact q.elim
        | none =>
          have q : Rd_ (if D.noCloL ds' = true then R.exc y ds' ⟨e1, m⟩ else .bad) (XOut G XW W H σ) (fun (d : D × Bool) s' => ∀ v W' H', Res G W H σ s' d.1 d.2 v W' H' → Q v H') := q
          split at q
          · rename_i hnc
            have gg := fromC_go (as := [Sum.inl (D.clo b ds)]) n2 ce.go
            have sf : Sim G (fromC [Sum.inl (D.clo b ds)] W2 W') H' ⟨e1, m⟩ σ := sim_call0 S2 n2 ce.go (Tab.less gx ce.tab)
            obtain ⟨ws, w1, w2, w3⟩ := hv
            exact q cls dx (fromC [Sum.inl (D.clo b ds)] W2 W') H' ⟨sf, g12.trans gg, fromC_not n2 nt', hcl, ws, w1, w2, RepL.monoW (fun a w => fromC_none w) (w3.less gx hnc)⟩
          · exact q.elim
  have hlen := F.len _ _ _ _ hsp
  have rc := F.run X.A X.stack s' H2 ⟨[.ref f], []⟩ [.ref f] [.ref f] Q (WE XW σ) hr e0 (by have := hbd.1 s' [.ref f] I2.kIn (by simpa using hlen); simpa using this) (.cons rfl .nil) hsp
  refine wpAny_call (codeAny_mono rc fun r s2 hq2 => ?_)
  cases r with
  | error e => exact L2N.passAt O.tk σ pins H2 s' e s2 I2 hq2
  | ok fl =>
    cases fl with
    | ret u => exact I2.after hq2
    | next => exact False.elim hq2
    | brk => exact False.elim hq2
    | cont => exact False.elim hq2
end
end PT

set_option Elab.async false
set_option linter.all false
set_option maxRecDepth 100000
set_option maxHeartbeats 4000000
/-! PTl: every expression. -/
namespace PT
open PySem L2 PySem.Spec PyProof.Rows
section
variable {X : Cx} {cf : CallF} {io : Nat → Option Nat} {G : Glob} {XW : WX} {Γ : Tc}
theorem s_con (O : CtxOk Γ cf io G XW X) {e : Expr} {d : D} {v : V} (h : PE X e (tC v)) (r : ∀ W H, Rep G W H d v) (he : ∀ whole, isTrue e X.env whole = (do let v ← whole; standAt e.pos; holding [v] (truthy v)) := by intro _; rfl) : SE3 cf io G XW X e (.con d) :=
  .of O (sE_con O h r) (fun _ => rfl) (fun _ => rfl) he
theorem plain_d {x : Str} (h : plainName x = true) : (x == ("__debug__" : Str)) = false := by
  unfold plainName at h
  rw [Bool.and_eq_true, Bool.not_eq_true', Bool.not_eq_true'] at h
  exact h.1
theorem fold_ok {n : Nat} {e : Expr} {c : C} (h : trE n Γ e = some c) : ∀ env x, foldedSetIterable e env x = pure x := by
  intro env x
  cases e <;> first | rfl | (cases n <;> simp [trE] at h)
theorem trI_fold {n : Nat} {tg : List Nat × Bool} {e : Expr} {c : IT} (h : trI (trE n) Γ tg e = some c) : ∀ env x, foldedSetIterable e env x = pure x := by
  unfold trI at h
  split at h
  · intro env x; rfl
  · intro env x; rfl
  · rw [Option.map_eq_some_iff] at h
    obtain ⟨c, h, _⟩ := h
    exact fold_ok h
theorem tgOf_tup {tg : Expr} {t : List Nat × Bool} (h : tgOf Γ tg = some t) (ht : t.2 ≠ true) : ∃ es k pos, tg = .Tuple es k pos := by
  cases tg <;> simp only [tgOf] at h <;> try contradiction
  · rw [Option.map_eq_some_iff] at h
    obtain ⟨i, _, rfl⟩ := h
    exact absurd rfl ht
  · exact ⟨_, _, _, rfl⟩
theorem sI (O : CtxOk Γ cf io G XW X) {n : Nat} (ih : ∀ e c, trE n Γ e = some c → SE3 cf io G XW X e c) {tg : Expr} {t : List Nat × Bool} (hg : ∃ Γ' : Tc, tgOf Γ' tg = some t) {e : Expr} {c : IT} (h : trI (trE n) Γ t e = some c) : PI X tg e (RI cf io G XW c) := by
  unfold trI at h
  split at h
  · split at h
    · rename_i x p a pos hb
      obtain ⟨hb, rfl⟩ := hb
      rw [Option.map_eq_some_iff] at h
      obtain ⟨ca, ha, rfl⟩ := h
      exact pi_range O hb (trE_star ha) (ih _ _ ha)
    · split at h
      · rename_i x p a pos _ hb
        obtain ⟨hb, rfl⟩ := hb
        split at h
        · cases h
        · rename_i h2
          rw [Option.map_eq_some_iff] at h
          obtain ⟨ca, ha, rfl⟩ := h
          obtain ⟨Γ', hg⟩ := hg
          obtain ⟨es, k, pos, rfl⟩ := tgOf_tup hg h2
          exact pi_enum_ O hb (trE_star ha) (ih _ _ ha)
      · rw [Option.map_eq_some_iff] at h
        obtain ⟨ca, ha, rfl⟩ := h
        exact pi_val O (ih _ _ ha)
  · split at h
    · rename_i x p a b pos hb
      obtain ⟨hb, rfl⟩ := hb
      split at h
      · cases h
      · rename_i h2
        split at h
        · rename_i ca ha
          rw [Option.map_eq_some_iff] at h
          obtain ⟨cb, hcb, rfl⟩ := h
          obtain ⟨Γ', hg⟩ := hg
          obtain ⟨es, k, pos, rfl⟩ := tgOf_tup hg h2
          exact pi_zip_ O hb (trE_star ha) (trE_star hcb) (ih _ _ ha) (ih _ _ hcb)
        · cases h
    · rw [Option.map_eq_some_iff] at h
      obtain ⟨ca, ha, rfl⟩ := h
      exact pi_val O (ih _ _ ha)
  · rw [Option.map_eq_some_iff] at h
    obtain ⟨ca, ha, rfl⟩ := h
    exact pi_val O (ih _ _ ha)
theorem evC_lc_true {own tg : List Nat} {one : Bool} {it : IT} {cond : CL} {e : C} (s : Sta) : evC cf io true (.lc own tg one it cond e) s = fin true (evC cf io false (.lc own tg one it cond e) s) := by
  unfold evC
  split
  · rfl
  · rw [fin_false]
theorem sCall (O : CtxOk Γ cf io G XW X) {n : Nat} (ih : ∀ e c, trE n Γ e = some c → SE3 cf io G XW X e c) {x : Str} {es : List Expr} {as : CL} {c : C} {p pos : Pos} (ht : trL (trE n) Γ es = some as) (h : callOf Γ x as = some c) : SE3 cf io G XW X (.Call (.Name x p) es [] pos) c := by
  unfold callOf at h
  split at h
  · rename_i hgl
    split at h
    · rename_i i hf
      split at h
      · cases h
      · rename_i hne
        cases h
        cases es with
        | nil => simp only [trL] at ht; cases ht; exact absurd rfl hne
        | cons e es =>
          have hd := plain_d hgl.2
          exact s_call O hgl.1 hd hf ih ht
    · split at h
      · rename_i hb
        split at h
        · rename_i a
          have hes : ∃ e, es = [e] ∧ trE n Γ e = some a := by
            cases es with
            | nil => simp [trL] at ht
            | cons e es =>
              simp only [trL] at ht
              split at ht
              · rename_i c1 hc1
                rw [Option.map_eq_some_iff] at ht
                obtain ⟨r, hr, e1⟩ := ht
                cases e1
                cases es with
                | nil => exact ⟨e, rfl, hc1⟩
                | cons e2 es =>
                  simp only [trL] at hr
                  split at hr
                  · rw [Option.map_eq_some_iff] at hr
                    obtain ⟨_, _, z⟩ := hr
                    cases z
                  · cases hr
              · cases ht
          obtain ⟨e, rfl, he⟩ := hes
          have hst := trE_star he
          have pa := pa_P O ih ht
          split at h
          · rename_i hx; subst hx; cases h
            exact s_blt O hb (by decide +kernel) (by decide +kernel) (by decide +kernel) (call_len_ O.K) hst pa
          split at h
          · rename_i hx; subst hx; cases h
            exact s_ty O hb (by decide +kernel) (by decide +kernel) (by decide +kernel) call_str_ hst pa
          split at h
          · rename_i hx; subst hx; cases h
            exact s_ty O hb (by decide +kernel) (by decide +kernel) (by decide +kernel) call_int_ hst pa
          split at h
          · rename_i hx; subst hx; cases h
            exact s_ty O hb (by decide +kernel) (by decide +kernel) (by decide +kernel) (call_list_ O.K O.calm) hst pa
          split at h
          · rename_i hx; subst hx; cases h
            exact s_blt O hb (by decide +kernel) (by decide +kernel) (by decide +kernel) (call_all_ O.K O.calm) hst pa
          · cases h
        · cases h
      · cases h
  · cases h

theorem op_none {op : CmpOp} (h1 : op ≠ .Is) (h2 : op ≠ .IsNot) {α : Type} (a b c : α) : (match op with | .Is => a | .IsNot => b | _ => c) = c := by
  cases op <;> first | rfl | exact absurd rfl h1 | exact absurd rfl h2
theorem isNone_ok {b : Expr} (h : isNone b = true) : ∃ j p, b = .Constant .none j p := by
  unfold isNone at h
  split at h
  · exact ⟨_, _, rfl⟩
  · cases h
theorem sE : ∀ (n : Nat) {X : Cx} {XW : WX} {Γ : Tc}, CtxOk Γ cf io G XW X → ∀ (e : Expr) (c : C), trE n Γ e = some c → SE3 cf io G XW X e c
  | 0, _, _, _, _, _, _, h => by simp [trE] at h
  | n + 1, X, XW, Γ, O, e, c, h => by
    have ih : ∀ e c, trE n Γ e = some c → SE3 cf io G XW X e c := sE n O
    unfold trE at h
    split at h
    · -- names
      rename_i x pos
      split at h
      · rename_i hx
        split at h
        · rename_i i hi
          cases h
          exact ⟨sE_var O hx hi, sP_var O hx hi, sT_var O hx hi⟩
        · split at h
          · rename_i hg
            split at h
            · rename_i d hd
              cases h
              obtain ⟨u, v, h1, h2, h3⟩ := O.con x d hd
              exact s_con O (pe_glob (gl_of O hg) h1 h2 (plain_d hx)) (fun _ _ => .con h3)
            · rw [Option.map_eq_some_iff] at h
              obtain ⟨i, hi, rfl⟩ := h
              obtain ⟨a, fd, ps, k, h1, h2, h3, F, hr, hb⟩ := O.call x i hi
              exact s_con O (v := .ref a) (pe_glob (gl_of O hg) h1 rfl (plain_d hx)) (fun _ _ => .fn h2)
          · cases h
      · cases h
    · -- constants
      split at h <;> first | cases h | skip
      · exact s_con O pe_int fun _ _ => .int _
      · exact s_con O pe_bl fun _ _ => .bl _
      · exact s_con O pe_non fun _ _ => .non
      · exact s_con O pe_str fun _ _ => .str _
    · rw [Option.map_eq_some_iff] at h
      obtain ⟨cs, hcs, rfl⟩ := h
      exact .of O (sE_tup (pa_V O ih hcs)) (fun _ => rfl) (fun _ => rfl) (fun _ => rfl)
    · rw [Option.map_eq_some_iff] at h
      obtain ⟨cs, hcs, rfl⟩ := h
      exact .of O (sE_lst (pa_V O ih hcs)) (fun _ => rfl) (fun _ => rfl) (fun _ => rfl)
    · -- binary
      split at h
      · rename_i op ca cb ho ha hb
        cases h
        exact s_bin O ho (ih _ _ ha) (ih _ _ hb)
      · cases h
    · -- compare
      split at h
      · split at h
        · rename_i hn
          obtain ⟨j, p, rfl⟩ := isNone_ok hn
          rw [Option.map_eq_some_iff] at h
          obtain ⟨ca, ha, rfl⟩ := h
          exact s_isN O (ih _ _ ha)
        · cases h
      · split at h
        · rename_i hn
          obtain ⟨j, p, rfl⟩ := isNone_ok hn
          rw [Option.map_eq_some_iff] at h
          obtain ⟨ca, ha, rfl⟩ := h
          exact s_notN O (ih _ _ ha)
        · cases h
      · split at h
        · rename_i op ca cb ho ha hb
          cases h
          exact s_cmp O ho hb (ih _ _ ha) (ih _ _ hb)
        · cases h
    · split at h
      · rename_i op oq ca cb cc ho hp ha hb hc
        cases h
        exact s_chain O ho hp hc (ih _ _ ha) (ih _ _ hb) (ih _ _ hc)
      · cases h
    · exact s_boolop O ih h
    · rw [Option.map_eq_some_iff] at h
      obtain ⟨ca, ha, rfl⟩ := h
      exact s_not O (ih _ _ ha)
    · split at h
      · rename_i cc ca cb hc ha hb
        cases h
        exact s_ite O (ih _ _ hc) (ih _ _ ha) (ih _ _ hb)
      · cases h
    · -- slices
      split at h
      · split at h
        · rename_i ca cl ha hl
          cases h
          exact s_slc1 O (ih _ _ ha) (ih _ _ hl)
        · cases h
      · split at h
        · rename_i ca cl ha hl
          cases h
          exact s_slc2 O (ih _ _ ha) (ih _ _ hl)
        · cases h
      · cases h
    · split at h
      · rename_i ca cb ha hb
        cases h
        exact s_idx O hb (ih _ _ ha) (ih _ _ hb)
      · cases h
    · -- a lambda handed on
      split at h
      · rename_i hc
        obtain ⟨h1, h2, h3, h4, h5, h6⟩ := hc
        split at h
        · rename_i i caps c hi hcaps hb
          cases h
          exact .of O (sE_lam O h1 h2 h3 (plain_d h4) h5 h6 hi hcaps hb) (fun _ => rfl) (fun _ => rfl) (fun _ => rfl)
        · cases h
      · cases h
    · -- calls
      split at h
      · cases h
      · split at h
        · rename_i hb
          obtain ⟨hb, rfl⟩ := hb
          split at h
          · split at h
            · rename_i ca ts ha ht
              cases h
              exact s_isi O hb ha ht (ih _ _ ha)
            · cases h
          · cases h
        · split at h
          · rename_i as has
            exact sCall O ih has h
          · cases h
    · -- a keyword
      split at h
      · rename_i hc
        obtain ⟨h1, h2, h3⟩ := hc
        split at h
        · rename_i i c hi hc
          cases h
          exact s_callK O h1 (plain_d h2) hi h3 (ih _ _ hc)
        · cases h
      · cases h
    · -- strip
      split at h
      · rename_i hm
        obtain ⟨rfl, hl⟩ := hm
        split at h
        · rename_i co k z j p hco
          cases h
          exact s_strip O hl (ih _ _ hco)
        · cases h
      · cases h
    · -- comprehensions
      dsimp only at h
      split at h
      · rename_i hb
        split at h
        · rename_i t ht
          split at h
          · rename_i ci ce hci hce
            split at h
            · rename_i hal
              cases h
              exact .of O (sE_lc O hb hal (fun x => trI_fold hci _ x) (sI O ih ⟨_, ht⟩ hci) (fun X' O2 => pg_ O2 ht) (fun X' O2 => pts_nil_) (fun X' O2 => (sE n O2 _ _ hce).re)) (fun _ => rfl) (fun s => evC_lc_true s) (fun _ => rfl)
            · cases h
          · cases h
        · rename_i t f ht
          split at h
          · rename_i ci cf' ce hci hcf hce
            split at h
            · rename_i hal
              cases h
              exact .of O (sE_lc O hb hal (fun x => trI_fold hci _ x) (sI O ih ⟨_, ht⟩ hci) (fun X' O2 => pg_ O2 ht) (fun X' O2 => pts_one_ (sE n O2 _ _ hcf).rt) (fun X' O2 => (sE n O2 _ _ hce).re)) (fun _ => rfl) (fun s => evC_lc_true s) (fun _ => rfl)
            · cases h
          · cases h
        · cases h
      · cases h
    · cases h
end
end PT

set_option Elab.async false
set_option linter.all false
set_option maxRecDepth 100000
set_option maxHeartbeats 4000000
/-! PTm: statements: translation, soundness. -/
namespace PT
open PySem L2 PySem.Spec PyProof.Rows
/-! ### translation (what is not covered becomes bad) -/
def isLC : Expr → Bool
  | .ListComp .. => true
  | .SetComp .. => true
  | .DictComp .. => true
  | _ => false
def retOk (own : Option Nat) : C → Bool
  | .var i => decide (own ≠ some i)
  | _ => true
section
variable (n : Nat) (Γ : Tc) (own : Option Nat)
def trSs (tr : Stmt → S) : List Stmt → SL
  | [] => .nil
  | s :: r => .cons (tr s) (trSs tr r)
def trS : Nat → Stmt → S
  | 0, _ => .bad
  | k + 1, st => match st with
    | .Assign [.Name x _] e _ => match Γ.sto x, trE n Γ e with
      | some i, some c => if isLC e = false ∧ own ≠ some i then .asg i c else .bad
      | _, _ => .bad
    | .If c a b _ => match trE n Γ c with
      | some cc => .ifs cc (trSs (trS k) a) (trSs (trS k) b)
      | none => .bad
    | .While c b [] _ => match trE n Γ c with
      | some cc => .whil cc (trSs (trS k) b)
      | none => .bad
    | .For tg it b [] _ => match tgOf Γ tg with
      | some t => match trI (trE n) Γ t it with
        | some ci => if t.1.all (fun i => decide (own ≠ some i)) = true then .forr t.1 t.2 ci (trSs (trS k) b) else .bad
        | none => .bad
      | none => .bad
    | .Return (some e) _ => match trE n Γ e with
      | some c => if retOk own c = true then .ret c else .bad
      | none => .bad
    | .Return none _ => .ret (.con .non)
    | .Expr e _ => match trE n Γ e with
      | some c => if isLC e = false then .expr c else .bad
      | none => .bad
    | .Raise (some (.Call (.Name x _) [a] [] _)) none _ => match Γ.pt.clss.lookup x, trE n Γ a with
      | some i, some c => if Γ.glob x = true ∧ plainName x = true then .rais i (.cons c .nil) else .bad
      | _, _ => .bad
    | .Pass _ => .pass
    | .Break _ => .brk
    | .Continue _ => .cont
    | _ => .bad
end
section
variable {G : Glob} {W W' : Ow} {H H' : Hp}
theorem Go.giveS {i : Nat} (g : Go W H W' H') (n : NoT W) : Go W H (PT.giveS i W') H' := by
  refine ⟨g.keep, g.dom, fun a w h => ?_, fun a w h => ?_, fun a o h => ?_⟩
  · show (if W' a = some Wh.t then some (Wh.s i) else if W' a = some (Wh.s i) then none else W' a) = none
    rw [g.less a w h]; rfl
  · show (if W' a = some Wh.t then some (Wh.s i) else if W' a = some (Wh.s i) then none else W' a) = some Wh.f
    rw [g.far a w h, if_neg (by simp), if_neg (by simp)]
  · have h' : (if W' a = some Wh.t then some (Wh.s i) else if W' a = some (Wh.s i) then none else W' a) = some o := h
    split at h'
    · rename_i e
      exact (g.own a _ e).elim (fun z => absurd z (n a)) .inr
    · split at h'
      · cases h'
      · exact g.own a o h'
/-- a slot's own list is handed out -/
def takeS (i : Nat) (W : Ow) : Ow := fun a => if W a = some (.s i) then some .t else W a
end
/-! ### readings -/
section
variable {X : Cx} {cf : CallF} {io : Nat → Option Nat} {G : Glob} {XW : WX} {Γ : Tc} {own : Option Nat}
def Kp (own : Option Nat) (σ σ' : L2.St) : Prop := ∀ j, own = some j → σ'[j]? = σ[j]?
theorem Kp.refl {σ : L2.St} : Kp own σ σ := fun _ _ => rfl
theorem Kp.trans {a b c : L2.St} (h : Kp own a b) (h' : Kp own b c) : Kp own a c := fun j e => (h' j e).trans (h j e)
/-- a def hands a value back: a slot's own list may be it -/
structure GoR (own : Option Nat) (W : Ow) (H : Hp) (W' : Ow) (H' : Hp) : Prop where
  keep : ∀ a o, H a = some o → (W a = none ∨ W a = some .f) → H' a = some o
  dom : ∀ a, H a ≠ none → H' a ≠ none
  less : ∀ a, W a = none → H a ≠ none → W' a = none
  far : ∀ a, W a = some .f → H a ≠ none → W' a = some .f
  own : ∀ a o, W' a = some o → W a = some o ∨ H a = none ∨ (o = .t ∧ ∃ j, W a = some (.s j) ∧ own ≠ some j)
theorem Go.ret {W W' : Ow} {H H' : Hp} (g : Go W H W' H') : GoR own W H W' H' := ⟨g.keep, g.dom, g.less, g.far, fun a o h => (g.own a o h).elim .inl fun z => .inr (.inl z)⟩
theorem GoR.trans {W W1 W' : Ow} {H H1 H' : Hp} (a : Go W H W1 H1) (b : GoR own W1 H1 W' H') : GoR own W H W' H' where
  keep := fun x o h w => b.keep x o (a.keep x o h w) (w.elim (fun w => .inl (a.less x w (by rw [h]; exact fun z => nomatch z))) fun w => .inr (a.far x w (by rw [h]; exact fun z => nomatch z)))
  dom := fun x h => b.dom x (a.dom x h)
  less := fun x w h => b.less x (a.less x w h) (a.dom x h)
  far := fun x w h => b.far x (a.far x w h) (a.dom x h)
  own := fun x o h => by
    rcases b.own x o h with h | h | ⟨h1, j, h2, h3⟩
    · exact (a.own x o h).elim .inl fun z => .inr (.inl z)
    · exact .inr (.inl (none_of (a.dom x) h))
    · exact (a.own x _ h2).elim (fun z => .inr (.inr ⟨h1, j, z, h3⟩)) fun z => .inr (.inl z)
/-- a statement's end -/
def ESt (G : Glob) (XW : WX) (own : Option Nat) (D : Ends) (W : Ow) (H : Hp) (σ : L2.St) (r : RS) : Prop := match r with
  | .nx s1 => ∀ σ' W' H', Sim G W' H' s1 σ' → Go W H W' H' → NoT W' → Kp own σ σ' → D.nx σ' H'
  | .rt d o s1 => ∀ v σ' W' H', Sim G W' H' s1 σ' → GoR own W H W' H' → ValOk G W' H' d o v → Kp own σ σ' → D.rt v H'
  | .bk s1 => ∀ σ' W' H', Sim G W' H' s1 σ' → Go W H W' H' → NoT W' → Kp own σ σ' → D.bk σ' H'
  | .ct s1 => ∀ σ' W' H', Sim G W' H' s1 σ' → Go W H W' H' → NoT W' → Kp own σ σ' → D.ct σ' H'
  | .exc x ds s1 => ∀ cls dx σ' W' H', ResX G W H σ' s1 x ds cls dx W' H' → Kp own σ σ' → XW cls (some dx) σ' H'
  | .bad => False
theorem ESt.mono {D : Ends} {W W1 : Ow} {H H1 : Hp} {σ σ1 : L2.St} {r : RS} (g : Go W H W1 H1) (k : Kp own σ σ1) (h : ESt G XW own D W H σ r) : ESt G XW own D W1 H1 σ1 r := by
  cases r with
  | nx s => exact fun σ' W' H' S g' n k' => h σ' W' H' S (g.trans g') n (k.trans k')
  | rt d o s => exact fun v σ' W' H' S g' n k' => h v σ' W' H' S (GoR.trans g g') n (k.trans k')
  | bk s => exact fun σ' W' H' S g' n k' => h σ' W' H' S (g.trans g') n (k.trans k')
  | ct s => exact fun σ' W' H' S g' n k' => h σ' W' H' S (g.trans g') n (k.trans k')
  | exc x ds s => exact fun cls dx σ' W' H' r k' => h cls dx σ' W' H' ⟨r.sim, g.trans r.go, r.not, r.cls, r.val⟩ (k.trans k')
  | bad => exact h
def RSt (cf : CallF) (io : Nat → Option Nat) (G : Glob) (XW : WX) (own : Option Nat) (c : S) : TS := fun D σ H => ∃ W s, Sim G W H s σ ∧ NoT W ∧ ESt G XW own D W H σ (evS cf io c s)
def RSl (cf : CallF) (io : Nat → Option Nat) (G : Glob) (XW : WX) (own : Option Nat) (c : SL) : TS := fun D σ H => ∃ W s, Sim G W H s σ ∧ NoT W ∧ ESt G XW own D W H σ (evL cf io c s)
theorem ps_imp {e : Stmt} {t t' : TS} (h : PS X e t) (i : ∀ D σ H, t' D σ H → t D σ H) : PS X e t' := ⟨fun pins s σ H D I q => h.run pins s σ H D I (i D σ H q)⟩
theorem pss_imp {e : List Stmt} {t t' : TS} (h : PSs X e t) (i : ∀ D σ H, t' D σ H → t D σ H) : PSs X e t' := ⟨fun pins s σ H D I q => h.run pins s σ H D I (i D σ H q)⟩
theorem ps_bad {st : Stmt} : PS X st (RSt cf io G XW own .bad) := ⟨fun pins s σ H D I ⟨W, s1, S, n, q⟩ => False.elim q⟩
/-- a step within a statement: an expression -/
theorem st_E {c : C} {σ : L2.St} {H : Hp} {W : Ow} {s : Sta} {E : Ends} {f : D × Bool → Sta → RS} {k : VK} (S : Sim G W H s σ) (n : NoT W) (h : ESt G XW own E W H σ ((evC cf io false c s).st f))
    (go : ∀ d s1 v W1 H1, Res G W H σ s1 d.1 d.2 v W1 H1 → ESt G XW own E W H σ (f d s1) → k v H1) : RE cf io G XW c σ H k := by
  refine ⟨W, s, S, n, ?_⟩
  cases e : evC cf io false c s with
  | ok d s1 => rw [e] at h; exact fun v W1 H1 r => go d s1 v W1 H1 r h
  | exc x ds s1 => rw [e] at h; exact fun cls dx W' H' r => h cls dx σ W' H' r Kp.refl
  | bad => rw [e] at h; exact h
theorem st_T {c : C} {σ : L2.St} {H : Hp} {W : Ow} {s : Sta} {E : Ends} {f : D × Bool → Sta → RS} {k : Bool → Hp → Prop} (hf : ∀ d s1, (∀ b, d.1 ≠ .bl b) → f d s1 = .bad) (S : Sim G W H s σ) (n : NoT W) (h : ESt G XW own E W H σ ((evC cf io true c s).st f))
    (go : ∀ b o s1 W1 H1, Sim G W1 H1 s1 σ → NoT W1 → Go W H W1 H1 → ESt G XW own E W1 H1 σ (f (.bl b, o) s1) → k b H1) : RT cf io G XW c σ H k := by
  refine ⟨W, s, S, n, ?_⟩
  cases e : evC cf io true c s with
  | ok d s1 =>
    rw [e] at h
    obtain ⟨d, o⟩ := d
    by_cases hd : ∃ b, d = .bl b
    · obtain ⟨b, rfl⟩ := hd
      exact ⟨b, rfl, fun W1 H1 S1 g1 n1 => go b o s1 W1 H1 S1 n1 g1 (ESt.mono g1 Kp.refl h)⟩
    · have h : ESt G XW own E W H σ (f (d, o) s1) := h
      rw [hf (d, o) s1 fun b z => hd ⟨b, z⟩] at h
      exact h.elim
  | exc x ds s1 => rw [e] at h; exact fun cls dx W' H' r => h cls dx σ W' H' r Kp.refl
  | bad => rw [e] at h; exact h
theorem gs_nil : PSs X [] (RSl cf io G XW own .nil) := pss_imp pss_nil fun D σ H ⟨W, s, S, n, q⟩ => q σ W H S Go.refl n Kp.refl
theorem gs_cons {st : Stmt} {r : List Stmt} {a : S} {b : SL} (ha : PS X st (RSt cf io G XW own a)) (hb : PSs X r (RSl cf io G XW own b)) : PSs X (st :: r) (RSl cf io G XW own (.cons a b)) := by
  refine pss_imp (pss_cons ha hb) fun D σ H ⟨W, s, S, n, q⟩ => ?_
  refine ⟨W, s, S, n, ?_⟩
  simp only [evL] at q
  cases e : evS cf io a s with
  | nx s1 =>
    rw [e] at q
    exact fun σ' W' H' S' g' n' k' => ⟨W', s1, S', n', ESt.mono g' k' q⟩
  | _ => rw [e] at q; exact q
theorem gs_all {f : Stmt → S} (h : ∀ st, PS X st (RSt cf io G XW own (f st))) : ∀ l : List Stmt, PSs X l (RSl cf io G XW own (trSs f l))
  | [] => gs_nil
  | s :: r => gs_cons (h s) (gs_all h r)
theorem g_asg (O : CtxOk Γ cf io G XW X) {x : Str} {p pos : Pos} {e : Expr} {i : Nat} {c : C} (hi : Γ.sto x = some i) (ho : own ≠ some i) (hl : isLC e = false) (he : SE3 cf io G XW X e c) : PS X (.Assign [.Name x p] e pos) (RSt cf io G XW own (.asg i c)) := by
  obtain ⟨h1, h2, h3⟩ := sto_ok hi
  have hsw : swapsWith e (some (.Name x p)) pos.line X.env = pure false := by
    cases e <;> first | rfl | simp [isLC] at hl
  have pp : PS X (.Assign [.Name x p] e pos) (tAsg (RE cf io G XW c) (gName i)) := by
    refine ps_set O.nd (by rw [O.N]; exact h1) (by rw [O.sc]; exact h2) he.re hsw ?_
    exact h3.elim (fun z => .inl (O.fn z x)) fun z => .inr (by rw [O.sc]; exact z)
  have hlt : i < Γ.N.length := (List.getElem?_eq_some_iff.mp h1).1
  refine ⟨fun pins s0 σ H D I hq => pp.run pins s0 σ H D I ?_⟩
  obtain ⟨W, s, S, n, q⟩ := hq
  have hlen : i < s.e.length := by rw [S.len, I.len, O.N]; exact hlt
  refine st_E S n q fun d s1 v W1 H1 r q1 => ?_
  have hlen1 : i < s1.e.length := by rw [r.sim.len, ← S.len]; exact hlen
  have S2 := r.sim.store hlen1 r.val
  exact q1 _ (giveS i W1) H1 S2 (r.go.giveS n) giveS_not fun j hj => List.getElem?_set_ne fun z => ho (by rw [z]; exact hj)
theorem g_if (O : CtxOk Γ cf io G XW X) {e : Expr} {c : C} {a b : List Stmt} {ca cb : SL} {pos : Pos} (he : SE3 cf io G XW X e c) (ha : PSs X a (RSl cf io G XW own ca)) (hb : PSs X b (RSl cf io G XW own cb)) : PS X (.If e a b pos) (RSt cf io G XW own (.ifs c ca cb)) := by
  refine ps_imp (ps_if he.rt ha hb) fun E σ H ⟨W, s, S, n, q⟩ => ?_
  have q : ESt G XW own E W H σ ((evC cf io true c s).st fun d s1 => match d.1 with
    | .bl true => evL cf io ca s1
    | .bl false => evL cf io cb s1
    | _ => .bad) := q
  refine st_T (fun d s1 hd => ?_) S n q fun b o s1 W1 H1 S1 n1 g1 q1 => ?_
  · obtain ⟨d, o⟩ := d
    cases d <;> first | rfl | exact absurd rfl (hd _)
  · cases b with
    | true => rw [if_pos rfl]; exact ⟨W1, s1, S1, n1, q1⟩
    | false => rw [if_neg Bool.false_ne_true]; exact ⟨W1, s1, S1, n1, q1⟩
theorem g_expr (O : CtxOk Γ cf io G XW X) {e : Expr} {c : C} {pos : Pos} (hl : isLC e = false) (he : SE3 cf io G XW X e c) : PS X (.Expr e pos) (RSt cf io G XW own (.expr c)) := by
  have hsw : swapsWith e none pos.line X.env = pure false := by
    cases e <;> first | rfl | simp [isLC] at hl
  refine ps_imp (ps_expr he.re hsw) fun E σ H ⟨W, s, S, n, q⟩ => ?_
  refine st_E S n (show ESt G XW own E W H σ ((evC cf io false c s).st fun _ s1 => .nx s1) from q) fun d s1 v W1 H1 r q1 => ?_
  exact q1 σ (dropT W1) H1 r.sim.dropT r.go.dropT (dropT_not _) Kp.refl
theorem g_ret (O : CtxOk Γ cf io G XW X) {e : Expr} {c : C} {pos : Pos} (hr : retOk own c = true) (he : SE3 cf io G XW X e c) : PS X (.Return (some e) pos) (RSt cf io G XW own (.ret c)) := by
  by_cases hv : ∃ i, c = .var i
  · obtain ⟨i, rfl⟩ := hv
    refine ps_imp (ps_ret he.rp) fun E σ H ⟨W, s, S, n, q⟩ => ?_
    have q : ESt G XW own E W H σ (match s.e[i]? with
      | some (some (d, o)) => RS.rt d o { s with e := s.e.set i none }
      | _ => .bad) := q
    refine ⟨W, s, S, n, ?_⟩
    cases e1 : s.e[i]? with
    | none => rw [e1] at q; exact q.elim
    | some z =>
      cases z with
      | none => rw [e1] at q; exact q.elim
      | some z =>
        obtain ⟨d, o⟩ := z
        rw [e1] at q
        have hs : slotD s.e i = some d := by unfold slotD; rw [e1]
        have ev : evP1 cf io (.var i) s = .ok (.v i) s := by simp only [evP1, hs]
        rw [ev]
        intro v W1 H1 S1 g1 n1 hv
        have hv : σ[i]? = some (some v) := hv
        have hlt : i < s.e.length := (List.getElem?_eq_some_iff.mp e1).1
        -- the slot is empty behind it
        have drop : ∀ {W2 : Ow}, (∀ a, W1 a = none → W2 a = none) → (∀ a j, j ≠ i → W1 a = some (.s j) → W2 a = some (.s j)) → (∀ a, W1 a = some .b → W2 a = some .b) → Sim G W2 H1 { s with e := s.e.set i none } σ := fun {W2} f k kb =>
          ⟨by show (s.e.set i none).length = _; rw [List.length_set]; exact S1.len, fun j d' h => by
            have h : (s.e.set i none)[j]? = some (some (d', false)) := h
            by_cases hj : i = j
            · subst hj; rw [List.getElem?_set_self hlt] at h; cases h
            · rw [List.getElem?_set_ne hj] at h
              obtain ⟨u, h1, h2⟩ := S1.slot j d' h
              exact ⟨u, h1, h2.monoW f⟩, fun j d' h => by
            have h : (s.e.set i none)[j]? = some (some (d', true)) := h
            by_cases hj : i = j
            · subst hj; rw [List.getElem?_set_self hlt] at h; cases h
            · rw [List.getElem?_set_ne hj] at h
              obtain ⟨u, h1, h2⟩ := S1.own j d' h
              exact ⟨u, h1, h2.handW (fun r => r.monoW f) fun a w => k a j (fun z => hj z.symm) w⟩, S1.tab.monoW f kb⟩
        cases o with
        | false =>
          obtain ⟨u, h1, h2⟩ := S1.slot i d e1
          rw [hv] at h1; cases h1
          exact q v σ W1 H1 (drop (fun _ h => h) (fun _ _ _ h => h) fun _ h => h) g1.ret (set_val n1 h2) Kp.refl
        | true =>
          obtain ⟨u, h1, h2⟩ := S1.own i d e1
          rw [hv] at h1; cases h1
          have f : ∀ a, W1 a = none → takeS i W1 a = none := fun a h => by
            show (if W1 a = some (Wh.s i) then some Wh.t else W1 a) = none
            rw [h]; rfl
          refine q v σ (takeS i W1) H1 (drop f (fun a j hj h => ?_) fun a h => ?_) ?_ ?_ Kp.refl
          · show (if W1 a = some (Wh.s i) then some Wh.t else W1 a) = _
            rw [h, if_neg (by intro z; cases z; exact hj rfl)]
          · show (if W1 a = some (Wh.s i) then some Wh.t else W1 a) = _
            rw [h, if_neg (by simp)]
          · refine ⟨g1.keep, g1.dom, fun a w h => f a (g1.less a w h), fun a w h => ?_, fun a o h => ?_⟩
            · show (if W1 a = some (Wh.s i) then some Wh.t else W1 a) = _
              rw [g1.far a w h, if_neg (by simp)]
            · have h' : (if W1 a = some (Wh.s i) then some Wh.t else W1 a) = some o := h
              split at h'
              · rename_i hw
                cases h'
                rcases g1.own a _ hw with z | z
                · exact .inr (.inr ⟨rfl, i, z, of_decide_eq_true hr⟩)
                · exact .inr (.inl z)
              · exact (g1.own a o h').elim .inl fun z => .inr (.inl z)
          · unfold ValOk
            rw [if_pos rfl]
            exact h2.handW (fun r => r.monoW f) fun a h => by
              show (if W1 a = some (Wh.s i) then some Wh.t else W1 a) = _
              rw [h, if_pos rfl]
  · refine ps_imp (ps_ret he.re) fun E σ H ⟨W, s, S, n, q⟩ => ?_
    have q : ESt G XW own E W H σ ((evC cf io false c s).st fun d s1 => .rt d.1 d.2 s1) := by
      cases c <;> first | exact q | exact absurd ⟨_, rfl⟩ hv
    exact st_E S n q fun d s1 v W1 H1 r q1 => q1 v σ W1 H1 r.sim r.go.ret r.val Kp.refl
theorem g_retN {pos : Pos} : PS X (.Return none pos) (RSt cf io G XW own (.ret (.con .non))) :=
  ps_imp ps_retN fun E σ H ⟨W, s, S, n, q⟩ => q .non σ W H S Go.refl.ret (set_val n .non) Kp.refl
theorem g_pass {pos : Pos} : PS X (.Pass pos) (RSt cf io G XW own .pass) := ps_imp ps_pass fun E σ H ⟨W, s, S, n, q⟩ => q σ W H S Go.refl n Kp.refl
theorem g_brk {pos : Pos} : PS X (.Break pos) (RSt cf io G XW own .brk) := ps_imp ps_break fun E σ H ⟨W, s, S, n, q⟩ => q σ W H S Go.refl n Kp.refl
theorem g_cont {pos : Pos} : PS X (.Continue pos) (RSt cf io G XW own .cont) := ps_imp ps_continue fun E σ H ⟨W, s, S, n, q⟩ => q σ W H S Go.refl n Kp.refl
theorem g_rais (O : CtxOk Γ cf io G XW X) {n : Nat} {x : Str} {i : Nat} {a : Expr} {c : C} {p pos pos2 : Pos} (hx : Γ.glob x = true) (hd : (x == ("__debug__" : Str)) = false) (hc : Γ.pt.clss.lookup x = some i) (hst : ∀ e' p, a ≠ .Starred e' p) (ha : SE3 cf io G XW X a c) :
    PS X (.Raise (some (.Call (.Name x p) [a] [] pos)) none pos2) (RSt cf io G XW own (.rais i (.cons c .nil))) := by
  obtain ⟨C, fI, f, h1, h2, h3, h4, h5⟩ := O.cls x i hc
  refine ps_imp (ps_raiseOwn O.calm h3 h4 h5 O.rm O.tk (pa_cons ha.re pa_nil (star_cons hst)) (gl_of O hx) hd (star_cons hst)) fun E σ H ⟨W, s, S, n, q⟩ => ?_
  have q : ESt G XW own E W H σ ((evV cf io (.cons c .nil) s).st fun ds s1 => .exc i ds s1) := q
  simp only [evV] at q
  refine ⟨W, s, S, n, ?_⟩
  cases e : evC cf io false c s with
  | exc y ds s1 => rw [e] at q; exact fun cls dx W' H' r => q cls dx σ W' H' r Kp.refl
  | bad => rw [e] at q; exact q
  | ok d s1 =>
    rw [e] at q
    have q : ∀ cls dx σ' W' H', ResX G W H σ' s1 i [d.1] cls dx W' H' → Kp own σ σ' → XW cls (some dx) σ' H' := q
    intro v W1 H1 r
    refine ⟨v, rfl, fun dx hdx => ?_⟩
    have keepN : ∀ a o, H1 a = some o → (upd H1 dx (.xd [(f, v)])) a = some o := fun a o h => by
      have : a ≠ dx := fun z => by rw [z, hdx] at h; cases h
      rw [upd_ne this]; exact h
    have g2 : Go (dropT W1) H1 (dropT W1) (upd H1 dx (.xd [(f, v)])) :=
      { keep := fun a o h _ => keepN a o h
        dom := fun a h => by
          cases e : H1 a with
          | none => exact absurd e h
          | some o => rw [keepN a o e]; exact fun z => nomatch z
        less := fun _ w _ => w
        far := fun _ w _ => w
        own := fun _ _ h => .inl h }
    refine q (.ref C) dx σ (dropT W1) _ ⟨?_, r.go.dropT.trans g2, dropT_not _, ⟨C, h1, rfl⟩, ?_⟩ Kp.refl
    · exact r.sim.dropT.mono g2 fun a o j _ h w => ⟨keepN a o h, w⟩
    · refine ⟨[v], ?_, by rw [h2]; rfl, .cons (r.val.rep.mono g2) .nil⟩
      rw [h2, upd_same]
      rfl
/-! ### loops -/
theorem g_while (O : CtxOk Γ cf io G XW X) {e : Expr} {c : C} {b : List Stmt} {cb : SL} {pos : Pos} (he : SE3 cf io G XW X e c) (hb : PSs X b (RSl cf io G XW own cb)) : PS X (.While e b [] pos) (RSt cf io G XW own (.whil c cb)) := by
  refine ps_imp (ps_while O.po he.rt hb) fun E σ H ⟨W, s, S, n, q⟩ => ?_
  refine ⟨fun m σ1 H1 => ∃ W1 s1, Sim G W1 H1 s1 σ1 ∧ NoT W1 ∧ Go W H W1 H1 ∧ Kp own σ σ1 ∧ ESt G XW own E W1 H1 σ1 (whileN (evC cf io true c) (evL cf io cb) m s1), ⟨turns, W, s, S, n, Go.refl, Kp.refl, q⟩, ?_⟩
  rintro m σ1 H1 ⟨W1, s1, S1, n1, g1, k1, q1⟩
  cases m with
  | zero => exact q1.elim
  | succ m =>
    refine ⟨W1, s1, S1, n1, ?_⟩
    simp only [whileN] at q1
    cases e1 : evC cf io true c s1 with
    | exc x ds s2 => rw [e1] at q1; exact fun cls dx W' H' r => q1 cls dx σ1 W' H' r Kp.refl
    | bad => rw [e1] at q1; exact q1
    | ok d s2 =>
      rw [e1] at q1
      obtain ⟨d, o⟩ := d
      cases d <;> first | exact q1.elim | skip
      rename_i bb
      refine ⟨bb, rfl, fun W2 H2 S2 g2 n2 => ?_⟩
      cases bb with
      | false =>
        rw [if_neg Bool.false_ne_true]
        exact q1 σ1 W2 H2 S2 g2 n2 Kp.refl
      | true =>
        rw [if_pos rfl]
        refine ⟨_, fun σ' H' p => ⟨m, Nat.lt_succ_self m, p⟩, W2, s2, S2, n2, ?_⟩
        dsimp only at q1
        cases e2 : evL cf io cb s2 with
        | nx s3 => rw [e2] at q1; exact fun σ3 W3 H3 S3 g3 n3 k3 => ⟨W3, s3, S3, n3, (g1.trans g2).trans g3, k1.trans k3, ESt.mono (g2.trans g3) k3 q1⟩
        | ct s3 => rw [e2] at q1; exact fun σ3 W3 H3 S3 g3 n3 k3 => ⟨W3, s3, S3, n3, (g1.trans g2).trans g3, k1.trans k3, ESt.mono (g2.trans g3) k3 q1⟩
        | bk s3 => rw [e2] at q1; exact fun σ3 W3 H3 S3 g3 n3 k3 => q1 σ3 W3 H3 S3 (g2.trans g3) n3 k3
        | rt d o s3 => rw [e2] at q1; exact ESt.mono (r := .rt d o s3) (XW := XW) (D := E) g2 Kp.refl q1
        | exc x ds s3 => rw [e2] at q1; exact ESt.mono (r := .exc x ds s3) (XW := XW) (D := E) g2 Kp.refl q1
        | bad => rw [e2] at q1; exact q1
theorem g_for (O : CtxOk Γ cf io G XW X) {n : Nat} {tg it : Expr} {t : List Nat × Bool} {ci : IT} {b : List Stmt} {cb : SL} {pos : Pos} (ht : tgOf Γ tg = some t) (ho : t.1.all (fun i => decide (own ≠ some i)) = true) (hs : ∀ x, foldedSetIterable it X.env x = pure x)
    (hi : PI X tg it (RI cf io G XW ci)) (hb : PSs X b (RSl cf io G XW own cb)) : PS X (.For tg it b [] pos) (RSt cf io G XW own (.forr t.1 t.2 ci cb)) := by
  have hto : ∀ j, own = some j → j ∉ t.1 := fun j hj hm => by
    have := List.all_eq_true.mp ho j hm
    exact absurd hj (of_decide_eq_true this)
  refine ps_imp (ps_for O.po O.calm hi (pg_ O ht) hb hs) fun E σ H ⟨W, s, S, n, q⟩ => ?_
  have q : ESt G XW own E W H σ ((evI cf io ci s).st fun ds s1 => forGo t.1 t.2 (evL cf io cb) ds s1) := q
  refine ⟨W, s, S, n, ?_⟩
  cases e0 : evI cf io ci s with
  | exc x ds s1 => rw [e0] at q; exact fun cls dx W' H' r => q cls dx σ W' H' r Kp.refl
  | bad => rw [e0] at q; exact q
  | ok ds s1 =>
    rw [e0] at q
    intro J W1 H1 S1 g1 n1 wk
    refine ⟨fun i m σ2 H2 => m = ds.length - i ∧ i ≤ ds.length ∧ ∃ W2 s2, Sim G W2 H2 s2 σ2 ∧ NoT W2 ∧ Go W1 H1 W2 H2 ∧ Kp own σ σ2 ∧ ESt G XW own E W2 H2 σ2 (forGo t.1 t.2 (evL cf io cb) (ds.drop i) s2), ⟨ds.length, by simp, Nat.zero_le _, W1, s1, S1, n1, Go.refl, Kp.refl, ESt.mono g1 Kp.refl q⟩, ?_⟩
    rintro i m σ2 H2 ⟨rfl, hi2, W2, s2, S2, n2, g2, k2, q2⟩
    by_cases hlt : i < ds.length
    · refine .inr ⟨wk.go i W2 H2 g2 hlt, _, fun σ' H' p => ⟨ds.length - (i + 1), by omega, p⟩, fun x H3 y => ?_⟩
      have hd : ds[i]? = some ds[i] := by simp [hlt]
      generalize ds[i] = d at hd
      obtain ⟨W3, g3, kp3, n3, r3⟩ := wk.yld i d W2 H2 x H3 g2 n2 hd y
      have S3 := S2.mono g3 fun a x o ho h w => kp3 a x o ho h w
      have hdrop : ds.drop i = d :: ds.drop (i + 1) := by
        rw [List.drop_eq_getElem_cons hlt]
        have : ds[i] = d := by
          have := hd
          rw [List.getElem?_eq_getElem hlt] at this
          exact Option.some.inj this
        rw [this]
      rw [hdrop] at q2
      refine ⟨W3, s2, d, S3, n3, r3, ?_⟩
      simp only [forGo] at q2
      cases ha : assignT t.1 t.2 d s2.e with
      | none => rw [ha] at q2; exact q2.elim
      | some e1 =>
        rw [ha] at q2
        dsimp only at q2 ⊢
        intro σ4 W4 S4 g4 n4 kp4 le4
        have k4 : Kp own σ2 σ4 := fun j hj => kp4 j (hto j hj)
        refine ⟨W4, _, S4, n4, ?_⟩
        have g24 := g3.trans g4
        cases e2 : evL cf io cb ⟨e1, s2.m⟩ with
        | nx s5 => rw [e2] at q2; exact fun σ5 W5 H5 S5 g5 n5 k5 => ⟨rfl, hlt, W5, s5, S5, n5, (g2.trans g24).trans g5, (k2.trans k4).trans k5, ESt.mono (g24.trans g5) (k4.trans k5) q2⟩
        | ct s5 => rw [e2] at q2; exact fun σ5 W5 H5 S5 g5 n5 k5 => ⟨rfl, hlt, W5, s5, S5, n5, (g2.trans g24).trans g5, (k2.trans k4).trans k5, ESt.mono (g24.trans g5) (k4.trans k5) q2⟩
        | bk s5 => rw [e2] at q2; exact fun σ5 W5 H5 S5 g5 n5 k5 => q2 σ5 W5 H5 S5 (g24.trans g5) n5 (k4.trans k5)
        | rt d o s5 => rw [e2] at q2; exact ESt.mono (r := .rt d o s5) (XW := XW) (D := E) g24 k4 q2
        | exc x ds s5 => rw [e2] at q2; exact ESt.mono (r := .exc x ds s5) (XW := XW) (D := E) g24 k4 q2
        | bad => rw [e2] at q2; exact q2
    · have : i = ds.length := by omega
      subst this
      refine .inl ⟨wk.stop W2 H2 g2, ?_⟩
      rw [List.drop_length] at q2
      exact q2 σ2 W2 H2 S2 Go.refl n2 Kp.refl
theorem sS (O : CtxOk Γ cf io G XW X) (n : Nat) : ∀ (k : Nat) (st : Stmt), PS X st (RSt cf io G XW own (trS n Γ own k st))
  | 0, st => ps_bad
  | k + 1, st => by
    have ih := sE n O
    have ihL : ∀ l, PSs X l (RSl cf io G XW own (trSs (trS n Γ own k) l)) := gs_all (sS O n k)
    unfold trS
    split
    · split
      · rename_i i c hi hc
        split
        · rename_i h
          exact g_asg O hi h.2 h.1 (ih _ _ hc)
        · exact ps_bad
      · exact ps_bad
    · split
      · rename_i cc hc
        exact g_if O (ih _ _ hc) (ihL _) (ihL _)
      · exact ps_bad
    · split
      · rename_i cc hc
        exact g_while O (ih _ _ hc) (ihL _)
      · exact ps_bad
    · split
      · rename_i t ht
        split
        · rename_i ci hci
          split
          · rename_i h
            exact g_for (n := n) O ht h (fun x => trI_fold hci _ x) (sI O ih ⟨_, ht⟩ hci) (ihL _)
          · exact ps_bad
        · exact ps_bad
      · exact ps_bad
    · split
      · rename_i c hc
        split
        · rename_i h
          exact g_ret O h (ih _ _ hc)
        · exact ps_bad
      · exact ps_bad
    · exact g_retN
    · split
      · rename_i c hc
        split
        · rename_i h
          exact g_expr O h (ih _ _ hc)
        · exact ps_bad
      · exact ps_bad
    · split
      · rename_i i c hi hc
        split
        · rename_i h
          exact g_rais (n := n) O h.1 (plain_d h.2) hi (trE_star hc) (ih _ _ hc)
        · exact ps_bad
      · exact ps_bad
    · exact g_pass
    · exact g_brk
    · exact g_cont
    · exact ps_bad
end
end PT

set_option Elab.async false
set_option linter.all false
set_option maxRecDepth 100000
set_option maxHeartbeats 4000000
/-! PTn: defs. -/
namespace PT
open PySem L2 PySem.Spec PyProof.Rows
section
variable {G : Glob} {W W' : Ow} {H H' : Hp} {io : Option Nat}
/-- at a def's end its own slots' lists are let go -/
def dropO (io : Option Nat) (W : Ow) : Ow := fun a => match W a with
  | some (.s j) => if io = some j then some (.s j) else none
  | o => o
theorem dropO_none {a : Addr} (h : W a = none) : dropO io W a = none := by simp only [dropO, h]
theorem dropO_f {a : Addr} (h : W a = some .f) : dropO io W a = some .f := by simp only [dropO, h]
theorem dropO_t {a : Addr} (h : W a = some .t) : dropO io W a = some .t := by simp only [dropO, h]
theorem dropO_s {a : Addr} {j : Nat} (h : W a = some (.s j)) (e : io = some j) : dropO io W a = some (.s j) := by simp only [dropO, h, if_pos e]
theorem dropO_b {a : Addr} (h : W a = some .b) : dropO io W a = some .b := by simp only [dropO, h]
theorem dropO_of {a : Addr} {o : Wh} (h : dropO io W a = some o) : W a = some o ∧ ∀ j, o = .s j → io = some j := by
  unfold dropO at h
  split at h
  · rename_i j e
    split at h
    · rename_i e2
      cases h
      exact ⟨e, fun k hk => by cases hk; exact e2⟩
    · cases h
  · rename_i hn
    exact ⟨h, fun j hj => by subst hj; exact absurd h (hn j)⟩
theorem GoR.dropO (g : GoR io W H W' H') (hw : ∀ a j, W a = some (.s j) → io = some j) : Go W H (dropO io W') H' where
  keep := g.keep
  dom := g.dom
  less := fun a w h => dropO_none (g.less a w h)
  far := fun a w h => dropO_f (g.far a w h)
  own := fun a o h => by
    rcases g.own a o (dropO_of h).1 with z | z | ⟨_, j, z, e⟩
    · exact .inl z
    · exact .inr z
    · exact absurd (hw a j z) e
theorem start_get {N : List Str} {vs : List V} {j : Nat} {v : V} (h : (L2.start N vs)[j]? = some (some v)) : vs[j]? = some v := by
  unfold L2.start at h
  by_cases hj : j < vs.length
  · rw [List.getElem?_append_left (by simpa using hj), List.getElem?_map] at h
    cases e : vs[j]? with
    | none => rw [e] at h; cases h
    | some a => rw [e] at h; cases h; rfl
  · rw [List.getElem?_append_right (by simpa using hj), List.getElem?_replicate] at h
    split at h <;> cases h
theorem startE_get {n : Nat} {as : List (D × Bool)} {j : Nat} {x : D × Bool} (h : (startE n as)[j]? = some (some x)) : as[j]? = some x := by
  unfold startE at h
  by_cases hj : j < as.length
  · rw [List.getElem?_append_left (by simpa using hj), List.getElem?_map] at h
    cases e : as[j]? with
    | none => rw [e] at h; cases h
    | some a => rw [e] at h; cases h; rfl
  · rw [List.getElem?_append_right (by simpa using hj), List.getElem?_replicate] at h
    split at h <;> cases h
theorem start_put {N : List Str} {vs : List V} {j : Nat} {v : V} (h : vs[j]? = some v) : (L2.start N vs)[j]? = some (some v) := by
  unfold L2.start
  have hj : j < vs.length := (List.getElem?_eq_some_iff.mp h).1
  rw [List.getElem?_append_left (by simpa using hj), List.getElem?_map, h]
  rfl
theorem sim_start {N : List Str} {as : List (D × Bool)} {vs : List V} {m : List Unit} (h : ArgsAt G W H as vs) (t : Tab G W H) : Sim G W H ⟨startE N.length as, m⟩ (L2.start N vs) := by
  refine ⟨?_, fun i d e => ?_, fun i d e => ?_, t⟩
  · show (startE N.length as).length = _
    unfold startE L2.start
    simp [h.1]
  all_goals
    obtain ⟨v, h1, h2⟩ := h.2 i d _ (startE_get e)
    exact ⟨v, start_put h1, h2⟩
/-- the lent list at the end -/
theorem put_ {σ σ' : L2.St} {N : List Str} {vs : List V} {s1 : Sta} {out : Option D} (S : Sim G W' H' s1 σ') (k : Kp io (L2.start N vs) σ') (e : outOf s1.e io = some out) :
    (∀ j, io = some j → ∃ d v, out = some d ∧ vs[j]? = some v ∧ OwnC G (dropO io W') H' (.s j) d v) ∧ (io = none → out = none) := by
  refine ⟨fun j hj => ?_, fun hn => ?_⟩
  · subst hj
    simp only [outOf] at e
    split at e
    · rename_i d hd
      cases e
      obtain ⟨v, h1, h2⟩ := S.own j d hd
      rw [k j rfl] at h1
      exact ⟨d, v, rfl, start_get h1, h2.handW (fun r => r.monoW fun a w => dropO_none w) fun a w => dropO_s w rfl⟩
    · cases e
  · subst hn
    simp only [outOf] at e
    cases e; rfl
end
/-! ### closures -/
/-- a closure's promise: what its body reckons -/
def spC (G : Glob) (run : C → List D → List Unit → RC) (i : CloI) : Sp := fun vs H Q E => vs = [] ∧ ∃ (W : Ow) (ds : List D) (m : List Unit), NoT W ∧ Tab G W H ∧ W i.c = none ∧ H i.c = some (LamX.CodeO i.c i.q) ∧ RepL G W H ds i.us ∧ (∀ a j, W a ≠ some (.s j)) ∧ match run i.b ds m with
  | .ok d o _ _ => ∀ v W' H', CallEnd G W H none [] none W' H' → ValOk G W' H' d o v → Q v H'
  | .exc x ds _ _ => ∀ cls dx W' H', CallEnd G W H none [] none W' H' → NoT W' → (∃ C, G.ca x = some C ∧ cls = .ref C) → (∃ ws, H' dx = some (.xd ((G.xn x).zip ws)) ∧ (G.xn x).length = ws.length ∧ RepL G W' H' ds ws) → E cls (some dx) H'
  | .bad => False
/-- every closure of G keeps it -/
def CloOk (P : Program) (w : World) (K : PySem.W.Frag) (mg : Str → Option Value) (base : Heap) (G : Glob) (run : C → List D → List Unit → RC) (k : Nat) : Prop := ∀ f i, G.cl f = some i → ∃ (fd : FuncData) (o : Obj), base.get? f = some o ∧ o.data = .func fd ∧ (∀ s, BindsTo s fd ⟨[], []⟩ []) ∧
  FnOk P w K mg base (L2N.CX P w) k f fd [] (spC G run i)
/-- the tables' makers -/
def BT (mg : Str → Option Value) (cs : List (Addr × Addr)) (base : Heap) : Prop := ∀ p ∈ cs, LamX.TabB base mg p.1 p.2
theorem BT.keep {mg : Str → Option Value} {cs : List (Addr × Addr)} {base base' : Heap} (k : ∀ b o, base.get? b = some o → base'.get? b = some o) (h : BT mg cs base) : BT mg cs base' := fun p hp => ⟨(h p hp).code.keeps k, (h p hp).bm.keeps k, (h p hp).gP⟩
theorem GExt.trans {A B C : Glob} (a : GExt A B) (b : GExt B C) : GExt A C := by
  obtain ⟨g, rfl, h⟩ := a
  obtain ⟨g', rfl, h'⟩ := b
  exact ⟨g', rfl, fun f i e => h' f i (h f i e)⟩
/-- a def's object in the written part -/
def TextAt (K : PySem.W.Frag) (nm qual : Str) (params : Arguments) (body : List Stmt) (scope : Scope) (cdv : Value) (a : Addr) (fd : FuncData) : Prop := ∃ (oc : Value) (od : Option Addr) (dV kV doc pm : Value) (an : Option Addr) (ct : Value) (osl : Array (Option Value)),
  fd = PySem.W.fnOf nm qual params body scope dV kV doc pm an cdv ct ∧ K.lookup a = some ⟨oc, od, .func fd, osl⟩ ∧ PySem.W.codeIn K cdv qual = true
/-- the module as the walk knows it: c rooms for what is no text; cs: the code objects of defs that make lambdas, their tables -/
structure Txt (P : Program) (w : World) (K : PySem.W.Frag) (mg : Str → Option Value) (G : Glob) (p : Prog) (pt : Pt) (n kk c : Nat) (cs : List (Addr × Addr)) : Prop where
  gK : G.K = K
  bl : ∀ x ∈ blts, mg x = none
  con : ∀ x d, pt.cons.lookup x = some d → ∃ u v, mg x = some u ∧ RelV v u ∧ KRep G.K d v
  cls : ∀ x i, pt.clss.lookup x = some i → ∃ (C fI : Addr) (f : Str), G.ca i = some C ∧ G.xn i = [f] ∧ PySem.PTX.fldOk f ∧ PySem.PTX.OwnX K f C fI ∧ mg x = some (.ref C)
  fn : ∀ x i, pt.fns.lookup x = some i → ∃ (a : Addr) (fd : FuncData) (ps : List Str), mg x = some (.ref a) ∧ G.fa i = some a ∧ PySem.W.keepIn K (.ref a) = true ∧ BindsK pt K x fd ps ∧
    ((∃ (nm qual : Str) (params : Arguments) (body : List Stmt) (scope : Scope) (cdv : Value) (N : List Str) (io : Option Nat) (lm : Bool), p.prim i = none ∧ TextAt K nm qual params body scope cdv a fd ∧ FnScope N ps scope ∧
        p.fns[i]? = some ⟨N.length, ps.length, io, trSs (trS n ⟨pt, N, scope, true, lm⟩ io kk) body⟩ ∧
        (lm = true → ∃ (cA PA : Addr), cdv = .ref cA ∧ (cA, PA) ∈ cs ∧ (PA, qual ++ ".<locals>." ++ "<lambda>") ∈ G.T ∧ ∀ q ∈ G.T, q.1 = PA → q.2 = qual ++ ".<locals>." ++ "<lambda>")) ∨
     (∃ (io : Option Nat) (g : (C → List D → List Unit → RC) → List (D × Bool) → List Unit → RC), p.prim i = some (io, g) ∧
        ∀ (base : Heap) (G' : Glob) (k : Nat) (run : C → List D → List Unit → RC), BT mg cs base → GExt G G' → CloOk P w K mg base G' run (2 * k + c + 1) → FnOk P w K mg base (L2N.CX P w) (2 * k + c + 2) a fd ps (spF G' (fun _ => g run) io i)))
section
variable {P : Program} {w : World} {K : PySem.W.Frag} {mg : Str → Option Value} {G0 : Glob} {p : Prog} {pt : Pt} {n kk c : Nat} {cs : List (Addr × Addr)}
/-- the defs, k calls deep -/
def DefsOk (P : Program) (w : World) (K : PySem.W.Frag) (mg : Str → Option Value) (G0 : Glob) (p : Prog) (pt : Pt) (c : Nat) (cs : List (Addr × Addr)) (k : Nat) : Prop := ∀ (base : Heap) (G : Glob), BT mg cs base → GExt G0 G → CloAll pt K base G →
  ∀ (x : Str) (i : Nat), pt.fns.lookup x = some i → ∃ (a : Addr) (fd : FuncData) (ps : List Str), mg x = some (.ref a) ∧ G0.fa i = some a ∧ PySem.W.keepIn K (.ref a) = true ∧ BindsK pt K x fd ps ∧
    FnOk P w K mg base (L2N.CX P w) (2 * k + c) a fd ps (spF G (p.call k) (p.io i) i)
/-- the context of a text that stands over base -/
theorem ctx_of (T : Txt P w K mg G0 p pt n kk c cs) {k : Nat} (D0 : DefsOk P w K mg G0 p pt c cs k) {base : Heap} {G : Glob} (hB : BT mg cs base) (hG : GExt G0 G) (hC : CloAll pt K base G) {X : Cx} {N : List Str} {scope : Scope} {top lm : Bool} {XW : WX}
    (e1 : X.prog = P) (e2 : X.w = w) (e3 : X.K = K) (e4 : X.mg = mg) (e5 : X.base = base) (hc : X.calm = true) (hN : X.N = N) (hnd : N.Nodup) (hs : X.env.scope = scope) (hr : Room (2 * k + c) X.A) (tk : L2N.Takes X XW) (po : PassesOwn (model X.prog X.w) X.A X.env X.xe) (hfn : top = true → ∀ x, X.fn x = true)
    (htb : lm = true → ∃ (c P : Addr), X.env.code = .ref c ∧ LamX.TabB X.base X.mg c P ∧ (P, X.env.qual ++ "<lambda>") ∈ G.T ∧ ∀ p ∈ G.T, p.1 = P → p.2 = X.env.qual ++ "<lambda>") :
    CtxOk ⟨pt, N, scope, top, lm⟩ (p.call k) p.io G XW X := by
  obtain ⟨g, rfl, hg⟩ := hG
  refine { calm := hc, K := by rw [e3]; exact T.gK.symm, N := hN, nd := by rw [hN]; exact hnd, sc := hs, un := ?_, tk := tk, po := po, fn := hfn, bl := by rw [e4]; exact T.bl, rm := hr.mono (Nat.zero_le _), cls := by rw [e3, e4]; exact T.cls, con := by rw [e4]; exact T.con, lam := ?_, clo := by rw [e3, e5]; exact hC, tb := htb }
  · have := hr.un; omega
  · intro base' G' hk hG' hC' x i hx
    rw [e5] at hk
    rw [e3] at hC'
    obtain ⟨a, fd, ps, q1, q2, q3, q4, q5⟩ := D0 base' G' (hB.keep hk) (GExt.trans ⟨g, rfl, hg⟩ hG') hC' x i hx
    exact ⟨a, fd, ps, _, by rw [e4]; exact q1, q2, by rw [e3]; exact q3, by rw [e1, e2, e3, e4]; exact q5, hr, by rw [e3]; exact q4⟩
/-- the closures, by the defs -/
theorem clo_all (T : Txt P w K mg G0 p pt n kk c cs) {k : Nat} (D0 : DefsOk P w K mg G0 p pt c cs k) {base : Heap} {G : Glob} (hB : BT mg cs base) (hG : GExt G0 G) (hC : CloAll pt K base G) : CloOk P w K mg base G (runC (p.call k) p.io) (2 * k + c + 1) := by
  intro f i hf
  obtain ⟨body, scope, cl, pm, ctv, N, n', h1, h2, h3, h4, h5, h6, h7, h8, h9, h10, h11, h12⟩ := hC f i hf
  refine ⟨_, _, h1, rfl, fun s => BindsTo.of_eq (by rfl), fun vs H Q E h => (by rw [h.1]; rfl), fun A outer s H args us vs Q E hr e0 hb r h => ?_⟩
  obtain ⟨rfl, W, ds, m, nt, ht, wc, hco, ru, hw, q⟩ := h
  cases r
  have of1 := (e0.bs f _ h1).1
  obtain ⟨⟨oc, vs, t, hoc, hdc, hvc⟩, _, _⟩ := e0.hok i.c _ hco
  refine PySem.W.kla_callFunE hr.depth of1 rfl h3 h4 rfl ⟨i.c, oc, vs, t, rfl, hoc, hdc, hvc⟩ (hb _ _ _ _ ?_)
  show wpAny _ A.in1 (newFunctionEnv scope mainGlobals cl [] (i.q ++ ".<locals>.") (some f) (.ref i.c) none builtinsNs) _ _ s
  refine wpAny_newFunctionEnv (fun y hy => (h5 y hy).2) (fun y hy => absurd hy (by simp)) (fun h₁ hns hsb => ⟨e0.mod.nolimit.keeps (fun b o e => hsb.extBut b o (Nat.ne_of_lt (Heap.lt_size (e0.bs b o e).1)) (Heap.get?_push_of_some _ (e0.bs b o e).1)), ?_⟩) h2
  let env := PySem.W.envX i.q scope s.heap.objs.size f (.ref i.c) cl
  show codeAny _ _ (.expr body env) _ _
  have kp : ∀ b o, s.heap.get? b = some o → h₁.get? b = some o := fun b o e => hsb.extBut b o (Nat.ne_of_lt (Heap.lt_size e)) (Heap.get?_push_of_some _ e)
  let Z : Cx := { prog := P, w := w, K := K, mg := mg, base := base, A := A.deeper env, N := N, s_0 := s, H_0 := H, env := env, outer := outer, stack := env :: outer, ex := [], fn := fun _ => false, calm := true, pn := [],
                  xe := fun e s' => wpAny (model P w) (A.deeper env) (leaving env e) (fun _ s'' => L2N.CX P w outer H s E e s'') (fun e' s'' => L2N.CX P w outer H s E e' s'') s' }
  have cellB : ∀ {cc v}, base.IsCell cc v → h₁.IsCell cc v ∧ H cc = none := fun {cc v} ⟨o, ho, hd⟩ => ⟨⟨o, kp _ _ (e0.bs _ _ ho).1, hd⟩, (e0.bs _ _ ho).2⟩
  have J : Inv Z [] (i.us.map some) H { s with heap := h₁, toks := s.toks + ([] : List (Str × Value)).length } := by
    have noA : ∀ b : Addr, b ∉ Z.ex := fun b z => absurd (show b ∈ ([] : List Addr) from z) (by simp)
    refine ⟨⟨e0.mod, h2, rfl, rfl, Nat.le_refl _, fun y z c e1 e2 => h11 y z c e1 e2, fun y hy => ?_, fun y c z _ => ?_, fun _ => hr.hd, Around.frames_deeper e0.frames, .inr ⟨rfl, rfl⟩, fun b z => absurd z (noA b), e0.bs, e0.bsz, fun b _ _ => noA b,
        fun b z => absurd z (noA b), e0.funs, e0.frf⟩,
      rfl, e0.bare, Un.kept kp, ⟨_, hns, fun j y v e1 e2 e3 => ?_⟩, fun y c e => ?_, e0.hok.fresh (Nat.le_refl _), fun y c e => ?_, fun q hq => absurd (show q ∈ ([] : List (Addr × Obj)) ++ [] from hq) (by simp), e0.hok.kept kp, ?_⟩
    · have hy : scope.names.lookup y = some .cell ∨ scope.names.lookup y = some .free := hy
      rcases hy with hy | hy
      · exact absurd rfl (h5 _ (PySem.mem_of_lookup hy)).2
      · exact h12 y hy
    · have z : false = true := z
      cases z
    · have e3 : Vis scope y := e3
      have hu : i.us[j]? = some v := by
        rw [List.getElem?_map] at e2
        cases e4 : i.us[j]? with
        | none => rw [e4] at e2; cases e2
        | some u => rw [e4] at e2; cases e2; rfl
      obtain ⟨cc, w', q1, q2, q3⟩ := h9 j y v e1 hu
      rcases e3 with z | z | z
      · exact absurd rfl (h5 _ (PySem.mem_of_lookup z)).1
      · exact absurd rfl (h5 _ (PySem.mem_of_lookup z)).2
      · exact ⟨w', q3, .inr ⟨.inr z, cc, q1, (cellB q2).1⟩⟩
    · obtain ⟨v, q⟩ := h10 y c e
      exact ⟨v, (cellB q).1⟩
    · obtain ⟨v, q⟩ := h10 y c e
      exact (cellB q).2
    · show _ = N.length
      rw [List.length_map, h7]
  have O : CtxOk ⟨pt, N, scope, false, false⟩ (p.call k) p.io G (fun cls d _ H => E cls d H) Z :=
    ctx_of T D0 hB hG hC rfl rfl rfl rfl rfl rfl rfl h6 rfl (hr.deeper env) (L2N.takes_of rfl rfl rfl rfl) (passes_of rfl) (fun z => by cases z) (fun z => by cases z)
  have B := (sE n' O body i.b h8).re
  refine PySem.W.kla_codeExpr (wpAny_mono (B.run [] _ _ H Q J ?_) (fun v s' hq => ?_) fun e s' hq => hq)
  · have S : Sim G W H ⟨ds.map fun d => some (d, false), m⟩ (i.us.map some) := by
      refine ⟨by simp [ru.length], fun j d e => ?_, fun j d e => ?_, ht⟩
      all_goals
        have e : (ds.map fun d => some (d, false))[j]? = _ := e
        rw [List.getElem?_map] at e
        cases e4 : ds[j]? with
        | none => rw [e4] at e; cases e
        | some d' =>
          rw [e4] at e
          cases e
          try
            obtain ⟨v, q1, q2⟩ := ru.get e4
            exact ⟨v, by rw [List.getElem?_map, q1]; rfl, q2⟩
    refine ⟨W, _, S, nt, ?_⟩
    have fin : ∀ {W' : Ow} {H' : Hp} {s' : Sta}, Sim G W' H' s' (i.us.map some) → Go W H W' H' → CallEnd G W H none [] none (dropO none W') H' := fun {W' H' s'} S' g => ⟨g.ret.dropO (fun a j h => absurd h (hw a j)), fun j hj => (by cases hj), fun _ => rfl, fun a j h => (dropO_of h).2 j rfl, S'.tab.monoW (fun a w => dropO_none w) fun a w => dropO_b w⟩
    simp only [runC] at q
    cases ev : evC (p.call k) p.io false i.b ⟨ds.map fun d => some (d, false), m⟩ with
    | bad => rw [ev] at q; exact q.elim
    | ok d s1 =>
      rw [ev] at q
      intro v W' H' R
      refine q v (dropO none W') H' (fin R.sim R.go) ?_
      have v1 := R.val
      unfold ValOk at v1 ⊢
      split at v1
      · rename_i e; rw [if_pos e]; exact v1.handW (fun r => r.monoW fun a w => dropO_none w) fun a w => dropO_t w
      · rename_i e; rw [if_neg e]; exact ⟨v1.1.monoW fun a w => dropO_none w, fun a h => v1.2 a (dropO_of h).1⟩
    | exc x ds' s1 =>
      rw [ev] at q
      intro cls dx W' H' R
      obtain ⟨ws, q1, q2, q3⟩ := R.val
      exact q cls dx (dropO none W') H' (fin R.sim R.go) (fun a h => R.not a (dropO_of h).1) R.cls ⟨ws, q1, q2, q3.all fun r => r.monoW fun a w => dropO_none w⟩
  · obtain ⟨w', H', J', rv, q⟩ := hq
    exact ⟨w', H', J'.os, J'.bare, J'.base, J'.hok, rv, q⟩
/-- a def told by its text -/
theorem fn_text (T : Txt P w K mg G0 p pt n kk c cs) {k : Nat} (D0 : DefsOk P w K mg G0 p pt c cs k) {base : Heap} {G : Glob} (hB : BT mg cs base) (hG : GExt G0 G) (hC : CloAll pt K base G) {i : Nat} {a : Addr} {fd : FuncData} {ps : List Str}
    {nm qual : Str} {params : Arguments} {body : List Stmt} {scope : Scope} {cdv : Value} {N : List Str} {io : Option Nat} {lm : Bool} (hp : p.prim i = none) (F : TextAt K nm qual params body scope cdv a fd) (S : FnScope N ps scope)
    (hf : p.fns[i]? = some ⟨N.length, ps.length, io, trSs (trS n ⟨pt, N, scope, true, lm⟩ io kk) body⟩)
    (hlm : lm = true → ∃ (cA PA : Addr), cdv = .ref cA ∧ (cA, PA) ∈ cs ∧ (PA, qual ++ ".<locals>." ++ "<lambda>") ∈ G0.T ∧ ∀ q ∈ G0.T, q.1 = PA → q.2 = qual ++ ".<locals>." ++ "<lambda>") :
    FnOk P w K mg base (L2N.CX P w) (2 * (k + 1) + c) a fd ps (spF G (p.call (k + 1)) (p.io i) i) := by
  have hio : p.io i = io := by simp only [Prog.io, hp, hf]
  rw [hio]
  have hcall : ∀ as m, p.call (k + 1) i as m = if as.length = ps.length then endOf io (evL (p.call k) p.io (trSs (trS n ⟨pt, N, scope, true, lm⟩ io kk) body) ⟨startE N.length as, m⟩) else .bad := fun as m => by
    simp only [Prog.call, hp, hf]
  have hk : 2 * (k + 1) + c = (2 * k + c + 1) + 1 := by omega
  rw [hk]
  obtain ⟨oc, od, dV, kV, doc, pm, an, ct, osl, rfl, lk, hcd⟩ := F
  refine fn_of (CX := L2N.CX P w) lk hcd S (fun vs H Q E h => ?_) (fun A outer s H vs Q E hr h => ?_)
  · obtain ⟨W, as, m, _, ha, _, _, _, q⟩ := h
    rw [hcall] at q
    by_cases hl : as.length = ps.length
    · rw [← ha.1, hl]
    · rw [if_neg hl] at q; exact q.elim
  · have O : CtxOk ⟨pt, N, scope, true, lm⟩ (p.call k) p.io G (fun cls d _ H => E cls d H) (cxOf (L2N.CX P w) P w K mg base N qual scope a cdv A outer s H E) :=
      ctx_of T D0 hB hG hC rfl rfl rfl rfl rfl rfl rfl S.nd rfl (hr.mono (by omega)) (L2N.takes_of rfl rfl rfl rfl) (passes_of rfl) (fun _ _ => rfl) (fun hl => by
        obtain ⟨cA, PA, e1, e2, e3, e4⟩ := hlm hl
        obtain ⟨g, rfl, _⟩ := hG
        exact ⟨cA, PA, e1, hB _ e2, e3, e4⟩)
    refine ⟨_, gs_all (sS (own := io) O n kk) body, ?_⟩
    obtain ⟨W, as, m, nt, ha, hle, hw, ht, q⟩ := h
    rw [hcall] at q
    refine ⟨W, ⟨startE N.length as, m⟩, sim_start ha ht, nt, ?_⟩
    split at q
    · rename_i d o out m' hq
      split at hq
      · rename_i hl
        cases hr : evL (p.call k) p.io (trSs (trS n ⟨pt, N, scope, true, lm⟩ io kk) body) ⟨startE N.length as, m⟩ with
        | nx s1 =>
          rw [hr] at hq
          intro σ' W' H' S1 g1 n1 k1
          simp only [endOf] at hq
          split at hq
          · rename_i out' ho
            cases hq
            obtain ⟨p1, p2⟩ := put_ (σ := L2.start N vs) S1 k1 ho
            exact q .non (dropO io W') H' ⟨g1.ret.dropO hw, p1, p2, fun a j h => (dropO_of h).2 j rfl, S1.tab.monoW (fun a w => dropO_none w) fun a w => dropO_b w⟩ (set_val (fun a h => n1 a (dropO_of h).1) .non)
          · cases hq
        | rt d1 o1 s1 =>
          rw [hr] at hq
          intro v σ' W' H' S1 g1 v1 k1
          simp only [endOf] at hq
          split at hq
          · rename_i out' ho
            cases hq
            obtain ⟨p1, p2⟩ := put_ (σ := L2.start N vs) S1 k1 ho
            refine q v (dropO io W') H' ⟨g1.dropO hw, p1, p2, fun a j h => (dropO_of h).2 j rfl, S1.tab.monoW (fun a w => dropO_none w) fun a w => dropO_b w⟩ ?_
            unfold ValOk at v1 ⊢
            split at v1
            · rename_i e; rw [if_pos e]; exact v1.handW (fun r => r.monoW fun a w => dropO_none w) fun a w => dropO_t w
            · rename_i e; rw [if_neg e]; exact ⟨v1.1.monoW fun a w => dropO_none w, fun a h => v1.2 a (dropO_of h).1⟩
          · cases hq
        | exc x1 ds1 s1 => rw [hr] at hq; simp only [endOf] at hq; split at hq <;> cases hq
        | bk s1 => rw [hr] at hq; cases hq
        | ct s1 => rw [hr] at hq; cases hq
        | bad => rw [hr] at hq; cases hq
      · cases hq
    · rename_i x1 ds out m' hq
      split at hq
      · rename_i hl
        cases hr : evL (p.call k) p.io (trSs (trS n ⟨pt, N, scope, true, lm⟩ io kk) body) ⟨startE N.length as, m⟩ with
        | exc x1 ds1 s1 =>
          rw [hr] at hq
          intro cls dx σ' W' H' r1 k1
          simp only [endOf] at hq
          split at hq
          · rename_i out' ho
            cases hq
            obtain ⟨p1, p2⟩ := put_ (σ := L2.start N vs) r1.sim k1 ho
            refine q cls dx (dropO io W') H' ⟨r1.go.ret.dropO hw, p1, p2, fun a j h => (dropO_of h).2 j rfl, r1.sim.tab.monoW (fun a w => dropO_none w) fun a w => dropO_b w⟩ (fun a h => r1.not a (dropO_of h).1) r1.cls ?_
            obtain ⟨ws, q1, q2, q3⟩ := r1.val
            exact ⟨ws, q1, q2, q3.all fun r => r.monoW fun a w => dropO_none w⟩
          · cases hq
        | nx s1 => rw [hr] at hq; simp only [endOf] at hq; split at hq <;> cases hq
        | rt d1 o1 s1 => rw [hr] at hq; simp only [endOf] at hq; split at hq <;> cases hq
        | bk s1 => rw [hr] at hq; cases hq
        | ct s1 => rw [hr] at hq; cases hq
        | bad => rw [hr] at hq; cases hq
      · cases hq
    · exact q.elim
/-- every def, k calls deep, does what is reckoned -/
theorem fn_all (T : Txt P w K mg G0 p pt n kk c cs) : ∀ k : Nat, DefsOk P w K mg G0 p pt c cs k
  | 0 => fun base G hB hG hC x i h => by
    obtain ⟨a, fd, ps, h1, h2, h3, h4, h5⟩ := T.fn x i h
    refine ⟨a, fd, ps, h1, h2, h3, h4, fun vs H Q E h => ?_, fun A outer s H args us vs Q E hr e0 hb r h => ?_⟩
    all_goals
      obtain ⟨W, as, m, _, _, _, _, _, q⟩ := h
      exact q.elim
  | k + 1 => fun base G hB hG hC x i h => by
    have D0 := fn_all T k
    obtain ⟨a, fd, ps, h1, h2, h3, h4, h5⟩ := T.fn x i h
    refine ⟨a, fd, ps, h1, h2, h3, h4, ?_⟩
    rcases h5 with ⟨nm, qual, params, body, scope, cdv, N, io, lm, hp, F, S, hf, hlm⟩ | ⟨io, g, hp, F⟩
    · exact fn_text T D0 hB hG hC hp F S hf hlm
    · have hio : p.io i = io := by simp only [Prog.io, hp]
      rw [hio]
      have hcall : p.call (k + 1) i = g (runC (p.call k) p.io) := by
        funext as m
        simp only [Prog.call, hp]
      have hk : 2 * (k + 1) + c = 2 * k + c + 2 := by omega
      rw [hk]
      refine (F base G k _ hB hG (clo_all T D0 hB hG hC)).imp fun vs H Q E h => ?_
      obtain ⟨W, as, m, a1, a2, a3, a4, a5, q⟩ := h
      rw [hcall] at q
      exact ⟨W, as, m, a1, a2, a3, a4, a5, q⟩
end
end PT

set_option Elab.async false
set_option linter.all false
set_option maxRecDepth 100000
set_option maxHeartbeats 1000000
/-! PTp: try with clauses of any kind. -/
namespace PySem.W
open PySem PySem.Calls PyProof.Rows
section
variable {M : Model} {K : Frag}
theorem exm_tupN {cs : List Value} {cls : Value} {tp e : Addr} {b : Bool} {h : Heap} (X : K.In h) (LT : Looks M h (typeOf (.ref e)) cls) (hp : h.get? tp = some { cls := .type "tuple", data := .seq cs.toArray }) (hx : exmAny K cls cs = some b) :
    Looks M h (excMatches (.ref e) (.ref tp)) b := by
  intro A Q E s k₀ q
  obtain ⟨hh, g, d, tk, os⟩ := s
  have k : ∀ b o, h.get? b = some o → hh.get? b = some o := k₀
  have LT0 : Looks M h (isInstance (.ref tp) (.type "tuple")) true := ((Looks.ld hp).andThen .now).andThen (Looks.of_pure isSubtype_tuple_tuple)
  have LT := LT.keeps k
  have LT0 := LT0.keeps k
  have hp' := k _ _ hp
  unfold excMatches
  refine wpAny_bind (LT0.at ?_)
  dsimp only
  rw [if_pos rfl]
  first
    | refine wpAny_bind (wpAny_seqItems hp' rfl ?_)
    | refine wpAny_bind (wpAny_bind (wpAny_seqItems hp' rfl (wpAny_pure ?_)))
  dsimp only [Option.getD_some, Option.getD]
  have X' : K.In hh := X.keeps k
  have F1 : ∀ (l : List Value) (b1 : Bool), exmAny K cls l = some b1 → ∀ {s : Shared} {Q' : PUnit → Shared → Prop}, s.heap = hh → Q' PUnit.unit s → wpAny M A (forIn l PUnit.unit fun c __s => do
          let __do_lift ← isExcClass c
          if (!__do_lift) = true then do
              rule "try.except-non-exception-class"
              raiseErrorWords "TypeError" "catching classes that do not inherit from BaseException is not allowed"
              pure (ForInStep.yield PUnit.unit)
            else pure (ForInStep.yield PUnit.unit)) Q' E s := by
    intro l
    induction l with
    | nil => intro b1 _ s Q' _ hq; rw [List.forIn_nil]; exact wpAny_pure hq
    | cons c r ih =>
      intro b1 hb s Q' hs hq
      obtain ⟨b2, d2, x2, y2, _⟩ := exmAny_cons hb
      obtain ⟨e2, _⟩ := exm_cls (M := M) X' x2
      rw [List.forIn_cons]
      refine wpAny_bind (wpAny_bind (e2 A _ E s (by rw [hs]; exact fun _ _ z => z) ?_))
      rw [if_neg (by decide)]
      exact wpAny_pure (ih d2 y2 hs hq)
  have F2 : ∀ (l : List Value) (b1 : Bool), exmAny K cls l = some b1 → ∀ {s : Shared} {Q' : Option Bool × Unit → Shared → Prop}, s.heap = hh → Q' (if b1 = true then (some true, ()) else (none, ())) s → wpAny M A (forIn l (none, ()) fun c __s => do
            let __do_lift ← isSubtype cls c
            if __do_lift = true then pure (ForInStep.done (some true, ())) else pure (ForInStep.yield (none, ()))) Q' E s := by
    intro l
    induction l with
    | nil =>
      intro b1 hb s Q' _ hq
      have hb : some false = some b1 := hb
      cases hb
      rw [List.forIn_nil]
      exact wpAny_pure hq
    | cons c r ih =>
      intro b1 hb s Q' hs hq
      obtain ⟨b2, d2, x2, y2, z2⟩ := exmAny_cons hb
      obtain ⟨_, e2⟩ := exm_cls (M := M) X' x2
      rw [List.forIn_cons]
      refine wpAny_bind (wpAny_bind (e2 A _ E s (by rw [hs]; exact fun _ _ z => z) ?_))
      cases b2 with
      | true =>
        rw [if_pos rfl]
        have : b1 = true := by rw [z2]; rfl
        rw [this, if_pos rfl] at hq
        exact wpAny_pure (wpAny_pure hq)
      | false =>
        rw [if_neg Bool.false_ne_true]
        have : b1 = d2 := by rw [z2]; rfl
        rw [this] at hq
        exact wpAny_pure (ih d2 y2 hs hq)
  refine wpAny_bind (wpAny_pure (wpAny_bind (F1 cs b hx rfl ?_)))
  refine wpAny_bind (LT.at (wpAny_bind (F2 cs b hx rfl ?_)))
  cases b with
  | true => exact wpAny_pure q
  | false => exact wpAny_pure q
end
end PySem.W
namespace PT
open PySem L2 PySem.Spec PyProof.Rows
/-- names of classes -/
inductive NamesL (X : Cx) : List Expr → List Value → Prop
  | nil : NamesL X [] []
  | cons {x : Str} {p : Pos} {c : Value} {es : List Expr} {cs : List Value} : Names X x c → NamesL X es cs → NamesL X (.Name x p :: es) (c :: cs)
/-- clauses: one class or a tuple of some, as n -/
inductive HdsA (X : Cx) (n : Str) (dead : Prop) : List ExceptHandler → List (List Value × (Addr → Value → Option Addr → TS)) → Prop
  | nil : HdsA X n dead [] []
  | rest {hds : List ExceptHandler} (h : dead) : HdsA X n dead hds []
  | one {x : Str} {c : Value} {ts : Addr → Value → Option Addr → TS} {b₀ : Stmt} {suite : List Stmt} {np pos' : Pos} {hds : List ExceptHandler} {l : List (List Value × (Addr → Value → Option Addr → TS))} (hc : Names X x c)
      (hsu : ∀ (a : Addr) (oe : Obj) (cls : Value) (d : Option Addr) (pn : List (Addr × Obj)), L2N.Zn cls d oe → (∃ vs, oe.data = .fields vs) → PSs (X.suite a ((a, oe) :: pn)) (b₀ :: suite) (ts a cls d)) (r : HdsA X n dead hds l) :
      HdsA X n dead (.ExceptHandler (some (.Name x np)) (some n) (b₀ :: suite) pos' :: hds) (([c], ts) :: l)
  | tup {es : List Expr} {cs : List Value} {ts : Addr → Value → Option Addr → TS} {b₀ : Stmt} {suite : List Stmt} {k : Nat} {tp pos' : Pos} {hds : List ExceptHandler} {l : List (List Value × (Addr → Value → Option Addr → TS))} (hc : NamesL X es cs) (hz : cs.length ≤ 1000)
      (hsu : ∀ (a : Addr) (oe : Obj) (cls : Value) (d : Option Addr) (pn : List (Addr × Obj)), L2N.Zn cls d oe → (∃ vs, oe.data = .fields vs) → PSs (X.suite a ((a, oe) :: pn)) (b₀ :: suite) (ts a cls d)) (r : HdsA X n dead hds l) :
      HdsA X n dead (.ExceptHandler (some (.Tuple es k tp)) (some n) (b₀ :: suite) pos' :: hds) ((cs, ts) :: l)
/-- what the clauses wish -/
def wClauses (K : PySem.W.Frag) (Wout : WX) (i : Nat) (D : Ends) : List (List Value × (Addr → Value → Option Addr → TS)) → WX
  | [] => Wout
  | (cs, ts) :: r => fun cls d σ H => ∃ b, PySem.W.exmAny K cls cs = some b ∧ (b = true → ∀ a, H a = none → ts a cls d { nx := fun σ' H' => D.nx (σ'.set i none) H', rt := D.rt, bk := fun σ' H' => D.bk (σ'.set i none) H', ct := fun σ' H' => D.ct (σ'.set i none) H' } (σ.set i (some (.ref a))) H) ∧
    (b = false → wClauses K Wout i D r cls d σ H)
theorem flying_keep {B : Heap} {l : List Env} {a : Addr} {Z : Obj → Prop} {h h' : Heap} (k : ∀ b o, h.get? b = some o → h'.get? b = some o) (f : HandSPX.FlyingZ B l a Z h) : HandSPX.FlyingZ B l a Z h' := by
  obtain ⟨k1, k2, k3, oe, vs, T, oT, ts', he, hz, hd, h1, h2, h3, h4, h5, h6⟩ := f
  exact ⟨fun b o e => k b o (k1 b o e), k2, k3.of_keeps fun b o e _ => ⟨o, k b o e, rfl⟩, oe, vs, T, oT, ts', k _ _ he, hz, hd, h1, h2, h3, k _ _ h4, h5, h6⟩
section
variable {X : Cx} {n : Str} {i : Nat} {body : List Stmt} {h₀ : ExceptHandler} {hds : List ExceptHandler} {l : List (List Value × (Addr → Value → Option Addr → TS))} {pos : Pos} {tb : WX → TS} {Wout : WX}
theorem names_ev {a : Addr} {oe : Obj} {pn : List (Addr × Obj)} {σ : L2.St} {H : Hp} {s : Shared} (S : Inv (X.suite a ((a, oe) :: pn)) [] σ H s) {p : Pos} {E : Value → Shared → Prop} : ∀ {es : List Expr} {cs : List Value}, NamesL X es cs → ∀ {Q : List Value → Shared → Prop}, Q cs s →
    wpAny (model X.prog X.w) (X.A.mark (some (.ref a))) (spliced (backTo p (starEach es X.env))) Q E s
  | _, _, .nil, Q, q => Calls.spliced_nil q
  | _, _, .cons (x := x) (p := np) hc r, Q, q => by
    refine spliced_more ?_ (by rfl)
    have nx := names_ev S (p := p) (E := E) r (Q := fun vs s₂ => Q (_ :: vs) s₂) q
    obtain ⟨hg, hdbg, hm | ⟨hm, hv, hnn⟩⟩ := hc
    · exact ld_glob (X := X.suite a ((a, oe) :: pn)) S hg hm nx hdbg
    · exact ld_blt (X := X.suite a ((a, oe) :: pn)) S hg hm hv nx hnn hdbg
theorem ps_try_clauses (hs : X.stack = X.env :: X.outer) (hf : X.env.frame = some X.env.locals) (hN : X.N.Nodup) (hi : X.N[i]? = some n) (hln : X.env.kindOf n = some .local) (tk : L2N.Takes X Wout)
    (hb : ∀ (W : WX) (pn : List (Addr × Obj)) (xe : Value → Shared → Prop), L2N.Takes (X.tr pn xe) W → PassesOwn (model X.prog X.w) X.A X.env xe → PSs (X.tr pn xe) body (tb W))
    {dead : Prop} (hdead : dead → ∀ cls d σ H, ¬ Wout cls d σ H) (hh : HdsA X n dead (h₀ :: hds) l) : PS X (.Try body (h₀ :: hds) [] [] pos) (fun D σ H => tb (wClauses X.K Wout i D l) D σ H) := by
  refine ⟨fun pins s σ H D I h => ?_⟩
  have ok := I.ok
  have hfr : X.A.frames = some (X.env :: X.outer) := by rw [ok.frames, hs]
  have hloc : Loc X.env.scope n := .inl hln
  refine wpAny_Try_except ?_
  refine wpAny_mono ((hb (wClauses X.K Wout i D l) (X.pn ++ pins) (fun e s₁ => wpAny (model X.prog X.w) X.A (noteFrame e X.env) (fun _ s₂ => wpAny (model X.prog X.w) X.A (setFlight e none) (fun _ s₃ =>
    wpAny (model X.prog X.w) X.A (handleBy e X.env (h₀ :: hds)) (SP X pins D) X.xe s₃) X.xe s₂) X.xe s₁) (fun u s' xx => ?_) PassesOwn.looking).run [] s σ H D (I.toTry _) h) (fun f s1 hsp => ?_) (fun e s1 he => he)
  · -- the catch
    obtain ⟨a, B, sI, pins', σ', H', cls, d, rfl, J', nb, up, sky, na, os, ag, w⟩ := xx
    have J : Inv X pins σ' H' sI := J'.ofTry ok
    have sky' : Sky B (X.env :: X.outer) a (L2N.Zn cls d) X.env.locals s'.heap := by rw [← hs]; exact sky
    show wpAny (model X.prog X.w) X.A (noteFrame (.ref a) X.env) _ _ _
    refine L2N.Sky.land L2N.Zn.steady hfr hf sky' fun h3 fl3 up3 => ?_
    have go : ∀ {hds' : List ExceptHandler} {l' : List (List Value × (Addr → Value → Option Addr → TS))}, HdsA X n dead hds' l' → wClauses X.K Wout i D l' cls d σ' H' → ∀ (h3 : Heap) (tk3 : Nat), HandSPX.FlyingZ B (X.env :: X.outer) a (L2N.Zn cls d) h3 → sI.heap.UpToSlots h3 →
        wpAny (model X.prog X.w) X.A (handleBy (.ref a) X.env hds') (SP X pins D) X.xe { s' with heap := h3, toks := tk3 } := by
      intro hds' l' hk
      induction hk with
      | rest hdd =>
        intro w h3 tk3 fl3 up3
        exact absurd w (hdead hdd _ _ _ _)
      | nil =>
        intro w h3 tk3 fl3 up3
        refine wpAny_handleBy_nil ?_
        obtain ⟨k1, k2, k3, oe, vs, T, oT, ts', he, hz, hd, h1, hr⟩ := id fl3
        unfold PySem.passOn
        refine wpAny_bind (wpAny_field he hd h1 ?_)
        rw [if_neg (show ¬ ((Value.ref T == Value.none) = true) from by simp)]
        have fin : wpAny (model X.prog X.w) X.A (setFlight (.ref a) X.env.frame) (fun _ s4 => wpAny (model X.prog X.w) X.A (throw (.ref a) : Sem Flow) (SP X pins D) X.xe s4) X.xe { s' with heap := h3, toks := tk3 } := by
          rw [hf]
          refine HandSPX.setFlight_upZ fl3 fun h4 hh4 up4 => wpAny_throw (tk _ _ ?_)
          exact ⟨a, B, sI, pins, σ', H', cls, d, rfl, J, nb, up3.trans up4, .inr (.inr (by rw [hs]; exact hh4)), na, os, ag, w⟩
        first
          | exact wpAny_bind (wpAny_pure (wpAny_bind fin))
          | exact wpAny_bind fin
      | @one x c ts b₀ suite np pos' hds2 l2 hc hsu r ih =>
        intro w h3 tk3 fl3 up3
        obtain ⟨b, hb1, hyes, hno⟩ := w
        have J3 : Inv X pins σ' H' { s' with heap := h3, toks := tk3 } := J.landed nb fl3.1 up3 os ag
        obtain ⟨oe3, vs3, he3, hz3, hd3⟩ := fl3.there
        have notFr : ∀ {h : Heap} {o : Obj} {vs : Array Value}, h.FunFrames B (X.env :: X.outer) → h.get? a = some o → o.data = .fields vs → a ∉ frs (X.env :: X.outer) := fun {h o vs} ff e dd hm => by
          obtain ⟨_, o', e', hnf⟩ := ff.mem hm
          rw [e] at e'; cases e'
          exact hnf _ dd
        have nfr := notFr fl3.2.2.1 he3 hd3
        have nL : a ≠ X.env.locals := fun z => nfr (List.mem_filterMap.mpr ⟨X.env, List.mem_cons_self, by rw [hf, z]⟩)
        have nF : a ∉ X.fs := fun hm => by
          obtain ⟨e, he, q⟩ := List.mem_filterMap.mp hm
          exact nfr (List.mem_filterMap.mpr ⟨e, List.mem_cons_of_mem _ he, q⟩)
        have S3 := J3.suite he3 hd3 na nL nF
        refine wpAny_handleBy_cons (codeAny_handlers_test ?_) (by intro q; cases q)
        have LT : PySem.W.Looks (model X.prog X.w) h3 (typeOf (.ref a)) cls := fun A Q E s k q => wpAny_typeOf_ref (k _ _ he3) (by rw [hz3.1]; exact q)
        obtain ⟨b1, d1, x1, y1, z1⟩ := PySem.W.exmAny_cons hb1
        have y1 : some false = some d1 := y1
        cases y1
        have z1 : b = b1 := by rw [z1, Bool.or_false]
        subst z1
        have LM := PySem.W.exm_one (M := model X.prog X.w) (J3.kIn) LT x1
        have test : ∀ {Q : Value → Shared → Prop} {E : Value → Shared → Prop}, Q c { s' with heap := h3, toks := tk3 } → wpAny (model X.prog X.w) (X.A.mark (some (.ref a))) (eval (.Name x np) X.env) Q E { s' with heap := h3, toks := tk3 } := fun {Q E} q => by
          obtain ⟨hg, hdbg, hm | ⟨hm, hv, hnn⟩⟩ := hc
          · exact ld_glob (X := X.suite a ((a, oe3) :: (X.pn ++ pins))) S3 hg hm q hdbg
          · exact ld_blt (X := X.suite a ((a, oe3) :: (X.pn ++ pins))) S3 hg hm hv q hnn hdbg
        refine test (LM.here ?_)
        cases b with
        | true =>
          refine codeAny_handlers_suite_as ?_
          refine HandSPX.lands_againZ fl3 fun h4 fl4 up4 => ?_
          have J4 : Inv X pins σ' H' { s' with heap := h4, toks := tk3 } := J.landed nb fl4.1 (up3.trans up4) os ag
          obtain ⟨oe4, vs4, he4, hz4, hd4⟩ := fl4.there
          have S4 := J4.suite he4 hd4 na nL nF
          refine store_ok (X := X.suite a ((a, oe4) :: (X.pn ++ pins))) (v := .ref a) S4 hN hi hloc rfl (fun s5 S5 => ?_) (.inr hln)
          refine wpAny_mono ((hsu a oe4 cls d (X.pn ++ pins) hz4 ⟨_, hd4⟩).run [] s5 _ H' _ S5 (hyes rfl a na)) (fun f s6 hsp => ?_) (fun _ _ z => False.elim z)
          have end_ : ∀ {σ6 : L2.St} {H6 : Hp} {Q : Shared → Prop}, Inv (X.suite a ((a, oe4) :: (X.pn ++ pins))) [] σ6 H6 s6 → (∀ s7, Inv X pins (σ6.set i none) H6 s7 → Q s7) →
              wpAny (model X.prog X.w) X.A (do bindName X.env n .none; unbindBehindTheSuite X.env n pos') (fun _ s7 => Q s7) X.xe s6 := fun {σ6 H6 Q} S6 hq => gone_ok (S6.unsuite ok) hN hi hln hq
          cases f with
          | next =>
            obtain ⟨σ6, H6, S6, q6⟩ := hsp
            exact end_ S6 fun s7 J7 => ⟨_, _, J7, q6⟩
          | brk =>
            obtain ⟨σ6, H6, S6, q6⟩ := hsp
            exact end_ S6 fun s7 J7 => ⟨_, _, J7, q6⟩
          | cont =>
            obtain ⟨σ6, H6, S6, q6⟩ := hsp
            exact end_ S6 fun s7 J7 => ⟨_, _, J7, q6⟩
          | ret u =>
            obtain ⟨v6, σ6, H6, S6, r6, q6⟩ := hsp
            exact end_ S6 fun s7 J7 => ⟨_, _, _, J7, r6, q6⟩
        | false =>
          show wpAny _ X.A (handleBy (.ref a) X.env hds2) _ _ _
          exact ih (hno rfl) _ tk3 fl3 up3
      | @tup es cs ts b₀ suite k tp pos' hds2 l2 hc hz hsu r ih =>
        intro w h3 tk3 fl3 up3
        obtain ⟨b, hb1, hyes, hno⟩ := w
        have J3 : Inv X pins σ' H' { s' with heap := h3, toks := tk3 } := J.landed nb fl3.1 up3 os ag
        obtain ⟨oe3, vs3, he3, hz3, hd3⟩ := fl3.there
        have notFr : ∀ {h : Heap} {o : Obj} {vs : Array Value}, h.FunFrames B (X.env :: X.outer) → h.get? a = some o → o.data = .fields vs → a ∉ frs (X.env :: X.outer) := fun {h o vs} ff e dd hm => by
          obtain ⟨_, o', e', hnf⟩ := ff.mem hm
          rw [e] at e'; cases e'
          exact hnf _ dd
        have nfr := notFr fl3.2.2.1 he3 hd3
        have nL : a ≠ X.env.locals := fun z => nfr (List.mem_filterMap.mpr ⟨X.env, List.mem_cons_self, by rw [hf, z]⟩)
        have nF : a ∉ X.fs := fun hm => by
          obtain ⟨e, he, q⟩ := List.mem_filterMap.mp hm
          exact nfr (List.mem_filterMap.mpr ⟨e, List.mem_cons_of_mem _ he, q⟩)
        have S3 := J3.suite he3 hd3 na nL nF
        refine wpAny_handleBy_cons (codeAny_handlers_test ?_) (by intro q; cases q)
        refine Tuple_ (names_ev S3 hc ?_)
        refine wpAny_newTuple ?_ (by rw [sizeLine_eq]; exact Nat.le_trans hz (by decide))
        have kp : ∀ b o, h3.get? b = some o → (h3.push { cls := .type "tuple", data := .seq cs.toArray }).get? b = some o := fun b o e => Heap.get?_push_of_some _ e
        have fl3' := flying_keep kp fl3
        have up3' := up3.trans (Heap.UpToSlots.of_keeps kp)
        have LT : PySem.W.Looks (model X.prog X.w) (h3.push { cls := .type "tuple", data := .seq cs.toArray }) (typeOf (.ref a)) cls := fun A Q E s k q => wpAny_typeOf_ref (k _ _ (kp _ _ he3)) (by rw [hz3.1]; exact q)
        have LM := PySem.W.exm_tupN (M := model X.prog X.w) (J3.kIn.keeps kp) LT (Heap.get?_push_size _ rfl) hb1
        refine LM.here ?_
        cases b with
        | true =>
          refine codeAny_handlers_suite_as ?_
          refine HandSPX.lands_againZ fl3' fun h4 fl4 up4 => ?_
          have J4 : Inv X pins σ' H' { s' with heap := h4, toks := tk3 } := J.landed nb fl4.1 (up3'.trans up4) os ag
          obtain ⟨oe4, vs4, he4, hz4, hd4⟩ := fl4.there
          have S4 := J4.suite he4 hd4 na nL nF
          refine store_ok (X := X.suite a ((a, oe4) :: (X.pn ++ pins))) (v := .ref a) S4 hN hi hloc rfl (fun s5 S5 => ?_) (.inr hln)
          refine wpAny_mono ((hsu a oe4 cls d (X.pn ++ pins) hz4 ⟨_, hd4⟩).run [] s5 _ H' _ S5 (hyes rfl a na)) (fun f s6 hsp => ?_) (fun _ _ z => False.elim z)
          have end_ : ∀ {σ6 : L2.St} {H6 : Hp} {Q : Shared → Prop}, Inv (X.suite a ((a, oe4) :: (X.pn ++ pins))) [] σ6 H6 s6 → (∀ s7, Inv X pins (σ6.set i none) H6 s7 → Q s7) →
              wpAny (model X.prog X.w) X.A (do bindName X.env n .none; unbindBehindTheSuite X.env n pos') (fun _ s7 => Q s7) X.xe s6 := fun {σ6 H6 Q} S6 hq => gone_ok (S6.unsuite ok) hN hi hln hq
          cases f with
          | next =>
            obtain ⟨σ6, H6, S6, q6⟩ := hsp
            exact end_ S6 fun s7 J7 => ⟨_, _, J7, q6⟩
          | brk =>
            obtain ⟨σ6, H6, S6, q6⟩ := hsp
            exact end_ S6 fun s7 J7 => ⟨_, _, J7, q6⟩
          | cont =>
            obtain ⟨σ6, H6, S6, q6⟩ := hsp
            exact end_ S6 fun s7 J7 => ⟨_, _, J7, q6⟩
          | ret u =>
            obtain ⟨v6, σ6, H6, S6, r6, q6⟩ := hsp
            exact end_ S6 fun s7 J7 => ⟨_, _, _, J7, r6, q6⟩
        | false =>
          show wpAny _ X.A (handleBy (.ref a) X.env hds2) _ _ _
          exact ih (hno rfl) _ tk3 fl3' up3'
    exact go hh w h3 s'.toks fl3 (up.trans up3)
  · cases f with
    | next =>
      obtain ⟨σ', H', J', q⟩ := hsp
      exact wpAny_execs_nil ⟨σ', H', J'.ofTry ok, q⟩
    | brk =>
      obtain ⟨σ', H', J', q⟩ := hsp
      exact ⟨σ', H', J'.ofTry ok, q⟩
    | cont =>
      obtain ⟨σ', H', J', q⟩ := hsp
      exact ⟨σ', H', J'.ofTry ok, q⟩
    | ret u =>
      obtain ⟨v, σ', H', J', r, q⟩ := hsp
      exact ⟨v, σ', H', J'.ofTry ok, r, q⟩
end
end PT

set_option Elab.async false
set_option linter.all false
set_option maxRecDepth 100000
set_option maxHeartbeats 1000000
/-! PTq: what a caught error is. -/
namespace PySem.W
open PySem PySem.Spec PySem.Calls PyProof.Rows
section
variable {prog : Program} {w : World} {A : Around} {E : Value → Shared → Prop} {s : Shared} {K : Frag} {x D : Addr} {ox od : Obj}
/-- e.__class__, e an error with a dict of its own -/
theorem kin_classD {Q : Option Value → Shared → Prop} (hga : findIn K (.ref D) "__getattribute__" = some (some (.builtin "BaseException.__getattribute__"))) (hgt : findIn K (.ref D) "__getattr__" = some none) (hsub : subIn K (.ref D) (.type "BaseException") = some true)
    (hdct : hasDictIn K D = true) (ha : findIn K (.ref D) "__class__" = some (some (.builtin "object.__class__")))
    (hn : specialIn K (.builtin "object.__class__") "__get__" = some (some (.builtin "getset_descriptor.__get__"))) (htk : takesIn K (.builtin "object.__class__") = some true) (hm : mroIn K D (.type "object") = some true)
    (X : K.In s.heap) (I : InstAt s.heap x ox D (some od)) (h : Q (some (.ref D)) { s with toks := s.toks + 1 }) : wpAny (model prog w) A (getAttr? (.ref x) "__class__") Q E s := by
  have hf : findObj K D (some od) "__class__" = some (.bind (.builtin "getset_descriptor.__get__") (.builtin "object.__class__")) := findObj_data (by obtain ⟨cd, hc, _⟩ := any_some hdct; rw [hc]; rfl) ha hn htk
  obtain ⟨hp, g, d, t, os⟩ := s
  have L0 := I.type (M := model prog w)
  have L1 := looks_findIn (M := model prog w) X hga
  have L2 := looks_findIn (M := model prog w) X hgt
  have L3 := looks_find (M := model prog w) X I hf
  have sub : Looks (model prog w) hp (isInstance (.ref x) (.type "BaseException")) true := L0.andThen (looks_subIn X hsub)
  have hx0 : (false && onTheHeap (Value.builtin "BaseException.__getattribute__")) = false := rfl
  have hx2 : (Value.builtin "BaseException.__getattribute__" == Value.builtin "object.__getattribute__") = false := by decide +kernel
  have hx1 : (onTheHeap (Value.ref D) && Value.builtin "BaseException.__getattribute__" == Value.builtin "object.__getattribute__") = false := by rw [hx2]; rfl
  unfold getAttr? getAttrBy? getAttrBy
  refine wpAny_bind (wpAny_mkText (wpAny_bind (wpAny_attempt (wpAny_holding (wpAny_bind (L0.at (wpAny_bind (L1.at ?_))))))))
  show wpAny _ _ (if (onTheHeap (Value.ref D) && Value.builtin "BaseException.__getattribute__" == Value.builtin "object.__getattribute__") = true then _ else _) _ _ _
  rw [hx1, if_neg Bool.false_ne_true]
  unfold getAttrByItsOwn hookBefore
  refine wpAny_bind ?_
  rw [if_pos (show onTheHeap (Value.ref D) = true from rfl)]
  refine L2.at ?_
  refine wpAny_bind (wpAny_attempt (wpAny_holding ?_))
  unfold callGetattribute
  rw [hx0, if_neg Bool.false_ne_true]
  unfold boundAndCalled
  rw [PySem.F.excAttr_ValueError.ga.bind (.ref x)]
  refine wpAny_bind (wpAny_pure ?_)
  show wpAny _ _ (call (.builtin "BaseException.__getattribute__") [.ref x, .str "__class__" t]) _ _ _
  refine wpAny_call (codeAny_call_builtin PySem.F.excAttr_ValueError.ga.plain PySem.F.entry_bexc_ga ?_)
  refine @check_slot (model prog w) _ _ ⟨hp, g, d, t + 1, os⟩ "BaseException.__getattribute__" "BaseException" "__getattribute__" (.ref x) [.str "__class__" t] [] _ (by decide +kernel) (by decide +kernel) sub (PySem.F.args_bexc_ga (.ref x) (.str "__class__" t)) ?_
  unfold Builtin.«object.__getattribute__»
  refine wpAny_bind (wpAny_of_eq (a := ((Value.ref x : Value), [Value.str "__class__" t])) (by first | rfl | (simp only [slotArgs]; rfl)) ?_)
  refine wpAny_bind (wpAny_pure (wpAny_bind (L0.at (wpAny_bind (L3.at ?_)))))
  show wpAny _ _ (holding [Value.builtin "object.__class__"] (call (.builtin "getset_descriptor.__get__") [.builtin "object.__class__", .ref x, .ref D]) >>= ret) _ _ _
  refine wpAny_bind (wpAny_holding (wpAny_call (class_get (s := ⟨hp, g, d, t + 1, os⟩) (ox := ox) (od := some od) X I hm ?_)))
  refine wpAny_pure ?_
  show wpAny _ _ (handedOut (.ref D)) _ _ _
  rw [handedOut_of (v := .ref D) rfl]
  first
    | exact wpAny_pure (wpAny_pure h)
    | exact wpAny_pure h
    | exact wpAny_pure (wpAny_bind (wpAny_pure (wpAny_pure h)))
theorem kitx_excD (C : L2.ExcC K D) : KitX K (.ref x) (.ref D) (fun h => InstAt h x ox D (some od)) where
  ty := fun _ _ _ I => I.type
  it := fun _ _ X _ => by
    obtain ⟨cdD, hcD, _⟩ := any_some C.hd
    unfold clsIn at hcD
    split at hcD
    · rename_i c' d' cd' sl' ho
      intro A' Q' E' s' k q
      unfold isType loadHead
      exact wpAny_bind (wpAny_loadPart (k _ _ (X _ _ ho)) (wpAny_pure q))
    · cases hcD
  ne := fun h tp dd its n sl X htp => by
    obtain ⟨cdD, hcD, _⟩ := any_some C.hd
    refine Bool.eq_false_iff.mpr fun q => ?_
    have e : D = tp := Value.ref.inj (beq_iff_eq.mp q)
    subst e
    unfold clsIn at hcD
    split at hcD
    · rename_i c' d' cd' sl' ho
      have z := (X _ _ ho).symm.trans htp
      cases z
    · cases hcD
  ca := fun X I k => kin_classD C.hg C.hk C.hs C.hd C.ha C.hn C.ht C.hm X I k
end
end PySem.W
namespace PT
open PySem L2 PySem.Spec PyProof.Rows
/-- isinstance(e, c), e the caught error at a, its class at D, its dict at dd -/
def rIsD (K : PySem.W.Frag) (D a dd : Addr) : List V → Hp → VK → Prop := fun xs H Q => ∃ (C : Addr) (b : Bool) (fs : List (Str × V)), xs = [.ref a, .ref C] ∧ H dd = some (.xd fs) ∧ PySem.W.kitOne K (.ref D) (.ref C) = some b ∧ Q (.bl b) H
theorem call_isD {X : Cx} {a D dd : Addr} {oe : Obj} (C : ExcC X.K D) (hp : (a, oe) ∈ X.pn) (hz : Zc (.ref D) (some dd) oe) (hf : ∃ vs, oe.data = .fields vs) : CallR X (.builtin "isinstance") (rIsD X.K D a dd) := by
  intro pins s σ H xs us Q I r h
  obtain ⟨c, b, fs, rfl, hd, e, q⟩ := h
  cases r with
  | cons rx rr =>
    cases rr with
    | cons rt rr =>
      cases rr
      cases rx
      cases rt
      obtain ⟨hget, _⟩ := I.pin (a, oe) (List.mem_append.mpr (.inl hp))
      obtain ⟨vs, hv⟩ := hf
      have hx : ObjOk X.prog X.w H s.heap dd (.xd fs) := I.hok dd _ hd
      obtain ⟨mA, hns, hr⟩ := hx
      obtain ⟨od, ho, hl⟩ := lookIn_ns hns
      have J : PySem.W.InstAt s.heap a oe D (some od) := ⟨hget, hz.1, by unfold PySem.W.notCls; rw [hv] <;> rfl, by rw [hz.2]; exact ho⟩
      exact PySem.W.kia_one (PySem.W.kitx_excD C) I.kIn J e (fun z => nomatch z) fun tk => ⟨.bl b, H, I.kept (t' := tk) fun _ _ z => z, rfl, q⟩
end PT

set_option Elab.async false
set_option linter.all false
set_option maxRecDepth 100000
set_option maxHeartbeats 1000000
/-! PTr: which of its classes an error is, by a list of isinstance and its index. -/
namespace PT
open PySem L2 PySem.Spec PyProof.Rows
/-- [isinstance(e, c), ..] -/
inductive IsiL : List Expr → List Str → Prop
  | nil : IsiL [] []
  | cons {c : Str} {es : List Expr} {cs : List Str} {p p' p'' p''' : Pos} : IsiL es cs → IsiL (.Call (.Name "isinstance" p) [.Name "e" p', .Name c p''] [] p''' :: es) (c :: cs)
inductive StrL : List Expr → List Str → Prop
  | nil : StrL [] []
  | cons {c : Str} {es : List Expr} {cs : List Str} {j : Nat} {p : Pos} : StrL es cs → StrL (.Constant (.str c) j p :: es) (c :: cs)
/-- what is known of the error and its classes, in the context X -/
structure Err (X : Cx) (D a dd : Addr) (oe : Obj) (cls : Str → Option (Addr × Bool)) : Prop where
  c : ExcC X.K D
  at_ : X.base.get? a = some oe
  z : Zc (.ref D) (some dd) oe
  f : ∃ vs, oe.data = .fields vs
  gi : Gl X "isinstance"
  mi : X.mg "isinstance" = none
  cl : ∀ x C b, cls x = some (C, b) → Gl X x ∧ (x == ("__debug__" : Str)) = false ∧ X.mg x = some (.ref C) ∧ PySem.W.kitOne X.K (.ref D) (.ref C) = some b
def bitsOf (cls : Str → Option (Addr × Bool)) : List Str → Option (List Bool)
  | [] => some []
  | x :: r => match cls x with
    | some (_, b) => (bitsOf cls r).map (b :: ·)
    | none => none
section
variable {X : Cx} {D a dd : Addr} {oe : Obj} {cls : Str → Option (Addr × Bool)}
theorem call_isB (E : Err X D a dd oe cls) : CallR X (.builtin "isinstance") (rIsD X.K D a dd) := by
  intro pins s σ H xs us Q I r h
  obtain ⟨c, b, fs, rfl, hd, e, q⟩ := h
  cases r with
  | cons rx rr =>
    cases rr with
    | cons rt rr =>
      cases rr
      cases rx
      cases rt
      have hget := I.bk a oe E.at_
      obtain ⟨vs, hv⟩ := E.f
      have hx : ObjOk X.prog X.w H s.heap dd (.xd fs) := I.hok dd _ hd
      obtain ⟨mA, hns, hr⟩ := hx
      obtain ⟨od, ho, hl⟩ := lookIn_ns hns
      have J : PySem.W.InstAt s.heap a oe D (some od) := ⟨hget, E.z.1, by unfold PySem.W.notCls; rw [hv] <;> rfl, by rw [E.z.2]; exact ho⟩
      exact PySem.W.kia_one (PySem.W.kitx_excD E.c) I.kIn J e (fun z => nomatch z) fun tk => ⟨.bl b, H, I.kept (t' := tk) fun _ _ z => z, rfl, q⟩
theorem pe_isi (E : Err X D a dd oe cls) (h0 : X.N[0]? = some ("e" : Str)) (v0 : Vis X.env.scope "e") {x : Str} {C : Addr} {b : Bool} (hx : cls x = some (C, b)) {p p' p'' p''' : Pos} :
    PE X (.Call (.Name "isinstance" p) [.Name "e" p', .Name x p''] [] p''') (fun σ H Q => σ[0]? = some (some (.ref a)) ∧ (∃ fs, H dd = some (.xd fs)) ∧ Q (.bl b) H) := by
  obtain ⟨g, d, m, k⟩ := E.cl x C b hx
  refine pe_imp (pe_callB (call_isB E) E.gi E.mi (by decide +kernel) (pa_cons (pe_var h0 v0 (by decide) (by decide)) (pa_cons (pe_glob (v := .ref C) g m rfl d) pa_nil (by rfl)) (by rfl)) (by decide) (by decide) (by rfl) (by rfl)) fun σ H Q ⟨q1, ⟨fs, q2⟩, q3⟩ => ?_
  exact ⟨_, q1, C, b, fs, rfl, q2, k, q3⟩
theorem pa_isi (E : Err X D a dd oe cls) (h0 : X.N[0]? = some ("e" : Str)) (v0 : Vis X.env.scope "e") : ∀ {es : List Expr} {cs : List Str} {bs : List Bool}, IsiL es cs → bitsOf cls cs = some bs →
    PA X es (fun σ H Q => σ[0]? = some (some (.ref a)) ∧ (∃ fs, H dd = some (.xd fs)) ∧ Q (bs.map V.bl) H)
  | _, _, bs, .nil, hb => by
    simp only [bitsOf] at hb; cases hb
    exact pa_imp pa_nil fun σ H Q ⟨_, _, q⟩ => q
  | _, _, bs, .cons (c := x) r, hb => by
    simp only [bitsOf] at hb
    split at hb
    · rename_i C b hx
      rw [Option.map_eq_some_iff] at hb
      obtain ⟨bs', hb', rfl⟩ := hb
      exact pa_imp (pa_cons (pe_isi E h0 v0 hx) (pa_isi E h0 v0 r hb') (by rfl)) fun σ H Q ⟨q1, q2, q3⟩ => ⟨q1, q2, q1, q2, q3⟩
    · cases hb
theorem pa_strs : ∀ {es : List Expr} {cs : List Str}, StrL es cs → PA X es (fun _ H Q => Q (cs.map V.str) H)
  | _, _, .nil => pa_imp pa_nil fun σ H Q q => q
  | _, _, .cons r => pa_imp (pa_cons pe_str (pa_strs r) (by rfl)) fun σ H Q q => q
/-- the text -/
structure ThText (body : List Stmt) (cs1 cs2 nms : List Str) : Prop where
  ex : ∃ (es1 es2 es3 : List Expr) (p1 p2 p3 p4 p5 p6 p7 p8 p9 p10 p11 p12 p13 p14 p15 : Pos) (j : Nat), IsiL es1 cs1 ∧ IsiL es2 cs2 ∧ StrL es3 nms ∧ (p5.endLine == p7.line) = true ∧ (p11.endLine == p13.line) = true ∧
    body = [.Assign [.Name "found" p1] (.List es1 p2) p3, .Expr (.Call (.Attribute (.Name "found" p4) "extend" p5) [.List es2 p6] [] p7) p8,
      .Return (some (.Subscript (.List es3 p9) (.Call (.Attribute (.Name "found" p10) "index" p11) [.Constant (.bool true) j p12] [] p13) p14)) p15]
/-- what it answers: the name at the first truth -/
def thAns (cls : Str → Option (Addr × Bool)) (cs1 cs2 nms : List Str) : Option Str := match bitsOf cls cs1, bitsOf cls cs2 with
  | some b1, some b2 => if b1.length + b2.length ≤ 1000 ∧ nms.length ≤ 1000 then match (b1 ++ b2).findIdx? (· == true) with
      | some j => nms[j]?
      | none => none
    else none
  | _, _ => none
def spTh (a dd : Addr) (ans : Str) : Sp := fun vs H Q _ => vs = [.ref a] ∧ (∃ fs, H dd = some (.xd fs)) ∧ ∀ H', (∀ b o, H b = some o → H' b = some o) → Q (.str ans) H'
theorem pss_things (E : Err X D a dd oe cls) (hN : X.N = [("e" : Str), ("found" : Str)]) (ve : Vis X.env.scope "e") (vf : X.env.scope.names.lookup ("found" : Str) = some NameKind.local) {body : List Stmt} {cs1 cs2 nms : List Str} (T : ThText body cs1 cs2 nms) {ans : Str} (hans : thAns cls cs1 cs2 nms = some ans) :
    PSs X body (fun Dn σ H => σ = [some (.ref a), none] ∧ (∃ fs, H dd = some (.xd fs)) ∧ ∀ H', (∀ b o, H b = some o → H' b = some o) → Dn.rt (.str ans) H') := by
  obtain ⟨es1, es2, es3, p1, p2, p3, p4, p5, p6, p7, p8, p9, p10, p11, p12, p13, p14, p15, j, h1, h2, h3, l1, l2, rfl⟩ := T.ex
  have h0 : X.N[0]? = some ("e" : Str) := by rw [hN]; rfl
  have h1' : X.N[1]? = some ("found" : Str) := by rw [hN]; rfl
  have nd : X.N.Nodup := by rw [hN]; decide +kernel
  unfold thAns at hans
  cases hb1 : bitsOf cls cs1 with
  | none => rw [hb1] at hans; cases hans
  | some b1 =>
  cases hb2 : bitsOf cls cs2 with
  | none => rw [hb1, hb2] at hans; cases hans
  | some b2 =>
  rw [hb1, hb2] at hans
  dsimp only at hans
  by_cases hlen : b1.length + b2.length ≤ 1000 ∧ nms.length ≤ 1000
  case neg => rw [if_neg hlen] at hans; cases hans
  rw [if_pos hlen] at hans
  cases hj : (b1 ++ b2).findIdx? (· == true) with
  | none => rw [hj] at hans; cases hans
  | some jj =>
  rw [hj] at hans
  dsimp only at hans
  have hs1000 : (1000 : Nat) ≤ sizeLine := by rw [sizeLine_eq]; decide
  have pf : ∀ p, PE X (.Name "found" p) (tVar 1) := fun p => pe_var h1' (.inl vf) (by decide) (by decide)
  refine pss_imp (pss_cons (ps_set nd h1' (.inl vf) (pe_lst (pa_isi E h0 ve h1 hb1)) (by rfl) (.inr vf)) (pss_cons (ps_expr (pe_bm PySem.F.plainAttrs_list PySem.F.slot_list_extend PySem.F.type_list_extend mt_extend (pf p4) (pa_cons (pe_lst (pa_isi E h0 ve h2 hb2)) pa_nil (by rfl)) (by rfl) (by rfl) l1 (by rfl) (by rfl)) (by rfl))
    (pss_one (ps_ret (pe_ix ix_list (pe_lst (pa_strs h3)) (pe_bm PySem.F.plainAttrs_list PySem.F.slot_list_index PySem.F.type_list_index mt_index (pf p10) (pa_cons pe_bl pa_nil (by rfl)) (by rfl) (by rfl) l2 (by rfl) (by rfl)) fun _ _ => rfl))))) fun Dn σ H ⟨hσ, ⟨fs, hd⟩, q⟩ => ?_
  subst hσ
  refine ⟨rfl, ⟨fs, hd⟩, ?_, fun A hA => ?_⟩
  · rw [List.length_map]; omega
  have dA : dd ≠ A := fun z => by rw [z, hA] at hd; cases hd
  -- found is stored
  refine ⟨.ref A, rfl, ?_, rfl, ⟨fs, by rw [upd_ne dA]; exact hd⟩, ?_, fun B hB => ?_⟩
  · exact .inl ⟨rfl, _, .inl (.inl upd_same)⟩
  · rw [List.length_map]; omega
  have AB : A ≠ B := fun z => by rw [← z, upd_same] at hB; cases hB
  refine ⟨A, B, b1.map V.bl, b2.map V.bl, rfl, rfl, by rw [upd_ne AB, upd_same], upd_same, by rw [List.length_map, List.length_map]; omega, ?_⟩
  obtain ⟨hjl, hjt, hjn⟩ := List.findIdx?_eq_some_iff_getElem.mp hj
  have hB' : H B = none := by rw [upd_ne (Ne.symm AB)] at hB; exact hB
  have hmem : ∀ b o, H b = some o → b ≠ A ∧ b ≠ B := fun b o e => ⟨fun z => (by rw [z, hA] at e; cases e), fun z => (by rw [z, hB'] at e; cases e)⟩
  refine ⟨by rw [List.length_map]; omega, fun C hC => ?_⟩
  have AC : A ≠ C := fun z => by rw [← z, upd_same] at hC; cases hC
  have atA : upd (upd (upd (upd H A (.lst (b1.map V.bl))) B (.lst (b2.map V.bl))) A (.lst (b1.map V.bl ++ b2.map V.bl))) C (.lst (nms.map V.str)) A = some (.lst ((b1 ++ b2).map V.bl)) := by
    rw [upd_ne AC, upd_same, List.map_append]
  refine ⟨.ref A, rfl, .inl ⟨rfl, _, .inl (.inl atA)⟩, A, (b1 ++ b2).map V.bl, .bl true, jj, .bl true, rfl, rfl, .inl (.inl atA), rfl, ?_, ?_, rfl, ?_, C, nms.map V.str, (jj : Nat), .str ans, rfl, rfl, .inl (.inl upd_same), ?_, ?_⟩
  · rw [List.all_eq_true]
    intro v hv
    obtain ⟨b, _, rfl⟩ := List.mem_map.mp hv
    rfl
  · rw [List.getElem?_map, List.getElem?_eq_getElem hjl]
    have : (b1 ++ b2)[jj] = true := by simpa using hjt
    rw [this]; rfl
  · intro m z' hm hz
    rw [List.getElem?_map] at hz
    cases e : (b1 ++ b2)[m]? with
    | none => rw [e] at hz; cases hz
    | some b =>
      rw [e] at hz
      cases hz
      obtain ⟨hml, hme⟩ := List.getElem?_eq_some_iff.mp e
      have := hjn m hm
      rw [hme] at this
      cases b with
      | false => rfl
      | true => simp at this
  · exact atI_nat (by rw [List.getElem?_map, hans]; rfl)
  · refine q _ fun b o e => ?_
    obtain ⟨n1, n2⟩ := hmem b o e
    have n3 : b ≠ C := fun z => by
      rw [← z, upd_ne n1, upd_ne n2, upd_ne n1] at hC
      rw [hC] at e; cases e
    rw [upd_ne n3, upd_ne n1, upd_ne n2, upd_ne n1]
    exact e
end
end PT

set_option Elab.async false
set_option linter.all false
set_option maxRecDepth 100000
set_option maxHeartbeats 1000000
/-! PTs: run() within try: which error came, with what. -/
namespace PT
open PySem L2 PySem.Spec PyProof.Rows
section
variable {P : Program} {w : World} {K : PySem.W.Frag} {mg : Str → Option Value} {base : Heap}
/-- the def that tells which -/
theorem things_fn {nm qual : Str} {params : Arguments} {body : List Stmt} {scope : Scope} {cdv : Value} {f : Addr} {fd : FuncData} {D a dd : Addr} {oe : Obj} {cls : Str → Option (Addr × Bool)} {cs1 cs2 nms : List Str} {ans : Str} {k : Nat} {CX : CXT}
    (F : TextAt K nm qual params body scope cdv f fd) (S : FnScope [("e" : Str), ("found" : Str)] [("e" : Str)] scope) (T : ThText body cs1 cs2 nms) (hans : thAns cls cs1 cs2 nms = some ans) (vf : scope.names.lookup ("found" : Str) = some NameKind.local)
    (C : ExcC K D) (hb : base.get? a = some oe) (hz : Zc (.ref D) (some dd) oe) (hf : ∃ vs, oe.data = .fields vs) (gi : scope.names.lookup ("isinstance" : Str) = some NameKind.globalImplicit) (mi : mg "isinstance" = none)
    (hcl : ∀ x C b, cls x = some (C, b) → scope.names.lookup x = some NameKind.globalImplicit ∧ (x == ("__debug__" : Str)) = false ∧ mg x = some (.ref C) ∧ PySem.W.kitOne K (.ref D) (.ref C) = some b) :
    L2H.FnH P w K mg base CX (k + 1) f fd [("e" : Str)] (spTh a dd ans) := by
  obtain ⟨oc, od, dV, kV, doc, pm, an, ct, osl, rfl, lk, hcd⟩ := F
  refine L2H.fn_ofH lk hcd S (fun vs H Q E h => by rw [h.1]; rfl) fun A outer s H vs Q E p hot hr h => ?_
  obtain ⟨rfl, hd, q⟩ := h
  have E' : Err (L2H.cxH CX P w K mg base [("e" : Str), ("found" : Str)] qual scope f cdv A outer s H E p) D a dd oe cls := ⟨C, hb, hz, hf, gi, mi, hcl⟩
  exact ⟨_, pss_things E' rfl ((S.par "e" (by simp)).elim .inl fun z => .inr (.inl z)) vf T hans, rfl, hd, q⟩
end
section
variable {X : Cx} {a dd Dc : Addr} {oe : Obj} {pn : List (Addr × Obj)}
/-- which(e), in the suite that holds e -/
theorem pe_things {x : Str} {f : Addr} {fd : FuncData} {ps : List Str} {ans : Str} {k i : Nat} {p p' pos : Pos} (hz : L2N.Zn (.ref Dc) (some dd) oe) (hf : ∃ vs, oe.data = .fields vs)
    (F : ∀ base : Heap, base.get? a = some oe → L2H.FnH X.prog X.w X.K X.mg base (L2N.CX X.prog X.w) k f fd ps (spTh a dd ans)) (hr : Room k X.A) (hg : Gl X x) (hm : X.mg x = some (.ref f)) (hk : PySem.W.keepIn X.K (.ref f) = true) (hb : L2.Binds X.K fd ps [])
    (hN : X.N[i]? = some ("e" : Str)) (hv : Vis X.env.scope "e") (hdb : (x == ("__debug__" : Str)) = false) :
    PE (X.suite a ((a, oe) :: pn)) (.Call (.Name x p) [.Name "e" p'] [] pos) (fun σ H Q => σ[i]? = some (some (.ref a)) ∧ (∃ fs, H dd = some (.xd fs)) ∧ ∀ H', (∀ b o, H b = some o → H' b = some o) → Q (.str ans) H') := by
  refine ⟨fun pins s σ H Q I h => ?_⟩
  obtain ⟨h1, hd, q⟩ := h
  refine wpAny_Call_Name_kw (ld_glob (X := X.suite a ((a, oe) :: pn)) I hg hm ?_ hdb)
  refine PySem.W.callWith_K (h₀ := X.base) I.ok.mod.kin hk (thn ((pa_cons (X := X.suite a ((a, oe) :: pn)) (pe_var (X := X.suite a ((a, oe) :: pn)) (i := i) hN hv (by decide) (by decide)) pa_nil (by rfl)).run pos pins s σ H (fun vs H1 => vs = [V.ref a] ∧ H1 = H) I ⟨_, h1, rfl, rfl⟩) fun us s1 hh => ?_) (by rfl) (by rfl)
  obtain ⟨vs, H1, I1, r, e1, e2⟩ := hh
  subst e1
  subst e2
  refine ⟨I1.kIn, ?_⟩
  cases r with
  | cons rv rt =>
    rename_i u us'
    cases rt
    obtain rfl : u = Value.ref a := rv
    have P1 := I1.pin (a, oe) (List.mem_append_left _ List.mem_cons_self)
    obtain ⟨hget, na, nL, nF, ncell⟩ := P1
    obtain ⟨base', b1, b2, b3⟩ := restrictS s1.heap fun b => (X.base.get? b).isSome || decide (b = a)
    have inB : ∀ {b o}, X.base.get? b = some o → base'.get? b = some o := fun {b o} e => by
      rw [b1 b (by rw [e]; simp)]; exact I1.bk b o e
    have inA : base'.get? a = some oe := by rw [b1 a (by simp)]; exact hget
    have ofB : ∀ {b o}, base'.get? b = some o → s1.heap.get? b = some o ∧ (X.base.get? b ≠ none ∨ b = a) := fun {b o} e => by
      cases hp : ((X.base.get? b).isSome || decide (b = a)) with
      | false => rw [b2 b hp] at e; cases e
      | true =>
        rw [b1 b hp] at e
        refine ⟨e, ?_⟩
        simp only [Bool.or_eq_true, decide_eq_true_eq] at hp
        exact hp.elim (fun hp => .inl (by intro z; rw [z] at hp; cases hp)) .inr
    have notS : a ∉ frs X.stack := fun hm => (List.mem_cons.mp (I1.stkSub a hm)).elim nL nF
    have e0 : Env0 X.prog X.w X.K X.mg base' (X.suite a ((a, oe) :: pn)).A X.stack s1 H1 := by
      have E := I1.env0
      refine ⟨E.frames, ⟨E.mod.kin.keeps fun b o e => inB e, E.mod.glob.keeps fun b o e => inB e, ?_, E.mod.nolimit.keeps fun b o e => inB e⟩, fun b o e => ⟨(ofB e).1, ?_⟩, b3, funFrames_none E.funs fun b hb => ?_, E.frf, E.hok, E.bare⟩
      · obtain ⟨mb, h1, h2⟩ := E.mod.blt
        exact ⟨mb, h1.keeps fun b o e => inB e, h2⟩
      · rcases (ofB e).2 with z | rfl
        · cases e4 : X.base.get? b with
          | none => exact absurd e4 z
          | some o' => exact (I1.bs b o' e4).2
        · exact na
      · cases e4 : base'.get? b with
        | none => rfl
        | some o =>
          rcases (ofB e4).2 with z | rfl
          · obtain ⟨z2, _⟩ := E.funs.mem hb
            exact absurd z2 z
          · exact absurd hb notS
    obtain ⟨vs, hvs⟩ := hf
    have hot : L2H.Hot1 (X.suite a ((a, oe) :: pn)).A (a, oe) := ⟨rfl, vs, hvs, hz.2.2 vs hvs⟩
    have hpin : L2H.PinOk X.stack H1 s1 (a, oe) := ⟨hget, na, notS, ncell⟩
    have hsp : spTh a dd ans [.ref a] H1 Q (fun _ _ _ => False) := ⟨rfl, hd, q⟩
    have hl := (F base' inA).len _ _ _ _ hsp
    have b := hb s1 [.ref a] I1.kIn (by simpa using hl)
    rw [List.append_nil] at b
    have rc := (F base' inA).run (X.suite a ((a, oe) :: pn)).A X.stack s1 H1 ⟨[.ref a], []⟩ [.ref a] [.ref a] Q (fun _ _ _ => False) (a, oe) ⟨hr.dp, hr.un⟩ hot hpin e0 b (.cons rfl .nil) hsp
    refine wpAny_call (codeAny_mono rc fun r s' hq => ?_)
    cases r with
    | error e =>
      obtain ⟨_, _, _, _, _, _, _, _, _, _, _, _, z⟩ := hq
      exact z.elim
    | ok fl =>
      cases fl with
      | ret u => exact I1.after hq
      | next => exact False.elim hq
      | brk => exact False.elim hq
      | cont => exact False.elim hq
/-- run(), run a closure -/
theorem pe_clo {x : Str} {f : Addr} {G : Glob} {run : C → List D → List Unit → RC} {i : CloI} {k n : Nat} {p p' : Pos} {xe : Value → Shared → Prop} {W : WX} (hc : CloOk X.prog X.w X.K X.mg X.base G run k) (hf : G.cl f = some i) (hr : Room k X.A) (tk : L2N.Takes (X.tr pn xe) W)
    (hN : X.N[n]? = some x) (hv : Vis X.env.scope x) (hd : (x == ("__debug__" : Str)) = false) (hcd : (x == ("__classdict__" : Str)) = false) :
    PE (X.tr pn xe) (.Call (.Name x p) [] [] p') (fun σ H Q => σ[n]? = some (some (.ref f)) ∧ spC G run i [] H Q (WE W σ)) := by
  refine ⟨fun pins s σ H Q I h => ?_⟩
  obtain ⟨h1, h2⟩ := h
  obtain ⟨fd, o, ho, hod, hbind, F⟩ := hc f i hf
  refine wpAny_Call_Name_kw (thn ((pe_var (X := X.tr pn xe) (pos := p) (i := n) hN hv hd hcd).run pins s σ H (fun v H1 => v = .ref f ∧ H1 = H) I ⟨.ref f, h1, rfl, rfl⟩) fun u s1 ⟨v, H1, I1, r1, q1⟩ => ?_)
  obtain ⟨ev, eH⟩ := q1
  subst ev
  rw [eH] at I1
  obtain rfl : u = Value.ref f := r1
  obtain ⟨oc, od, dat, sl⟩ := o
  have hod : dat = .func fd := hod
  subst hod
  refine PySem.W.callWith_F0 ⟨_, _, _, _, I1.bk _ _ ho⟩ ?_
  have rc := F.run X.A X.stack s1 H ⟨[], []⟩ [] [] Q (WE W σ) hr I1.env0 (hbind s1) .nil h2
  refine wpAny_call (codeAny_mono rc fun r s' hq => ?_)
  cases r with
  | error e => exact L2N.passAt tk σ pins H s1 e s' I1 hq
  | ok fl =>
    cases fl with
    | ret u => exact I1.after hq
    | next => exact False.elim hq
    | brk => exact False.elim hq
    | cont => exact False.elim hq
end
end PT

set_option Elab.async false
set_option linter.all false
set_option maxRecDepth 100000
set_option maxHeartbeats 1000000
/-! PTt: _law_fraised. -/
namespace PT
open PySem L2 PySem.Spec PyProof.Rows
/-- what it answers -/
def gRaised (tag : Nat → Option Str) (run : C → List D → List Unit → RC) (as : List (D × Bool)) (m : List Unit) : RC := match as with
  | [(.clo b vs, false)] => match run b vs m with
    | .ok _ _ _ m' => .ok .non false none m'
    | .exc x [d] _ m' => match tag x with
      | some s => .ok (.tup [.str s, d]) false none m'
      | none => .bad
    | _ => .bad
  | _ => .bad
/-- the text: the first clause tells, the others are never come to -/
def RaisedText (body : List Stmt) (th : Str) (es : List Expr) : Prop := ∃ (p1 p2 p3 p4 p5 p6 p7 p8 p9 p10 p11 p12 p13 p14 p15 p16 p17 p18 p19 : Pos) (j1 k k2 : Nat) (hds : List ExceptHandler),
  body = [.Assign [.Name "found" p1] (.Constant .none j1 p2) p3,
    .Try [.Expr (.Call (.Name "run" p4) [] [] p5) p6] (.ExceptHandler (some (.Tuple es k p7)) (some "e") [.Assign [.Name "found" p8] (.Tuple [.Call (.Name th p9) [.Name "e" p10] [] p11, .Attribute (.Name "e" p12) "thing" p13] k2 p14) p15] p16 :: hds) [] [] p17,
    .Return (some (.Name "found" p18)) p19]
/-- names of classes, in plain view -/
inductive ClsL (mg : Str → Option Value) (sc : Scope) : List Expr → List Value → Prop
  | nil : ClsL mg sc [] []
  | cons {x : Str} {p : Pos} {C : Value} {es : List Expr} {cs : List Value} : sc.names.lookup x = some NameKind.globalImplicit → (x == ("__debug__" : Str)) = false → mg x = some C → ClsL mg sc es cs → ClsL mg sc (.Name x p :: es) (C :: cs)
theorem ClsL.names {X : Cx} {sc : Scope} (hs : X.env.scope = sc) : ∀ {es : List Expr} {cs : List Value}, ClsL X.mg sc es cs → NamesL X es cs
  | _, _, .nil => .nil
  | _, _, .cons h1 h2 h3 r => .cons ⟨by show X.env.scope.names.lookup _ = _; rw [hs]; exact h1, h2, .inl h3⟩ (ClsL.names hs r)
theorem ClsL.len {mg : Str → Option Value} {sc : Scope} : ∀ {es : List Expr} {cs : List Value}, ClsL mg sc es cs → cs.length = es.length
  | _, _, .nil => rfl
  | _, _, .cons _ _ _ r => by rw [List.length_cons, List.length_cons, ClsL.len r]
/-- an error of number x: its class, what tells its name -/
structure Tells (P : Program) (w : World) (K : PySem.W.Frag) (mg : Str → Option Value) (cs : List Value) (th : Addr) (fth : FuncData) (Dc : Addr) (s : Str) : Prop where
  own : ∃ fI, PySem.PTX.OwnX K "thing" Dc fI
  exm : PySem.W.exmAny K (.ref Dc) cs = some true
  tell : ∀ (base : Heap) (a dd : Addr) (oe : Obj), base.get? a = some oe → Zc (.ref Dc) (some dd) oe → (∃ vs, oe.data = .fields vs) → L2H.FnH P w K mg base (L2N.CX P w) 1 th fth [("e" : Str)] (spTh a dd s)
/-- the suite's reading -/
def tSuite (P : Program) (w : World) (K : PySem.W.Frag) (mg : Str → Option Value) (cs : List Value) (th : Addr) (fth : FuncData) (a : Addr) (cls : Value) (d : Option Addr) : TS := fun Dn σ H => ∃ (Dc dd : Addr) (s : Str) (v : V), cls = .ref Dc ∧ d = some dd ∧ Tells P w K mg cs th fth Dc s ∧ σ[2]? = some (some (.ref a)) ∧ H dd = some (.xd [(("thing" : Str), v)]) ∧
  ∀ (H' : Hp) (T : Addr), (∀ b o, H b = some o → H' b = some o) → H' T = none → Dn.nx (σ.set 1 (some (.ref T))) (upd H' T (.tup [.str s, v]))
theorem raised_fn {P : Program} {w : World} {K : PySem.W.Frag} {mg : Str → Option Value} {nm qual : Str} {params : Arguments} {body : List Stmt} {scope : Scope} {cdv : Value} {f th : Addr} {fd fth : FuncData} {thn : Str} {es : List Expr} {cs : List Value} {G : Glob} {tag : Nat → Option Str}
    (F : TextAt K nm qual params body scope cdv f fd) (S : FnScope [("run" : Str), ("found" : Str), ("e" : Str)] [("run" : Str)] scope) (RT : RaisedText body thn es) (hcs : ClsL mg scope es cs) (hlen : es.length ≤ 1000)
    (vr : scope.names.lookup ("run" : Str) = some NameKind.local) (vf : scope.names.lookup ("found" : Str) = some NameKind.local) (ve : scope.names.lookup ("e" : Str) = some NameKind.local)
    (gth : scope.names.lookup thn = some NameKind.globalImplicit) (dth : (thn == ("__debug__" : Str)) = false) (mth : mg thn = some (.ref th)) (kth : PySem.W.keepIn K (.ref th) = true) (bth : L2.Binds K fth [("e" : Str)] [])
    (ht : ∀ x s, tag x = some s → ∃ Dc, G.ca x = some Dc ∧ G.xn x = [("thing" : Str)] ∧ Tells P w K mg cs th fth Dc s)
    {base : Heap} {run : C → List D → List Unit → RC} {lev i : Nat} (hc : CloOk P w K mg base G run (lev + 1)) : FnOk P w K mg base (L2N.CX P w) (lev + 2) f fd [("run" : Str)] (spF G (fun _ => gRaised tag run) none i) := by
  obtain ⟨oc, od, dV, kV, doc, pm, an, ct, osl, rfl, lk, hcd⟩ := F
  obtain ⟨p1, p2, p3, p4, p5, p6, p7, p8, p9, p10, p11, p12, p13, p14, p15, p16, p17, p18, p19, j1, k, k2, hds, rfl⟩ := RT
  have form : ∀ {vs H Q E}, spF G (fun _ => gRaised tag run) none i vs H Q E → ∃ (W : Ow) (m : List Unit) (b : C) (ds : List D) (fc : Addr), vs = [V.ref fc] ∧ NoT W ∧ Rep G W H (.clo b ds) (.ref fc) ∧ (∀ a j, W a ≠ some (.s j)) ∧ Tab G W H ∧ match gRaised tag run [(.clo b ds, false)] m with
      | .ok d o out _ => ∀ v W' H', CallEnd G W H none vs out W' H' → ValOk G W' H' d o v → Q v H'
      | .exc x ds out _ => ∀ cls dx W' H', CallEnd G W H none vs out W' H' → NoT W' → (∃ C, G.ca x = some C ∧ cls = .ref C) → (∃ ws, H' dx = some (.xd ((G.xn x).zip ws)) ∧ (G.xn x).length = ws.length ∧ RepL G W' H' ds ws) → E cls (some dx) H'
      | .bad => False := by
    intro vs H Q E h
    obtain ⟨W, as, m, nt, ha, hle, hw, tab, q⟩ := h
    match as, ha, q with
    | [(.clo b ds, false)], ha, q =>
      obtain ⟨v, h1, h2⟩ := ha.2 0 _ _ rfl
      rw [if_neg Bool.false_ne_true] at h2
      have hl := ha.1
      match vs, hl, h1 with
      | [v'], _, h1 =>
        simp at h1
        subst h1
        have h2' := h2
        cases h2 with
        | con k => cases k
        | clo e w hh r => exact ⟨W, m, b, ds, _, rfl, nt, h2', fun a j h => (by have := hw a j h; cases this), tab, q⟩
  refine fn_of (CX := L2N.CX P w) lk hcd S (fun vs H Q E h => ?_) (fun A outer s H vs Q E hr h => ?_)
  · obtain ⟨_, _, _, _, _, rfl, _⟩ := form h
    rfl
  obtain ⟨W, m, b, ds, fc, rfl, nt, rc, hno, tab, q⟩ := form h
  cases rc with
  | con k => cases k
  | @clo _ _ us cc qq _ hcl wcc hco rus =>
  let X := cxOf (L2N.CX P w) P w K mg base [("run" : Str), ("found" : Str), ("e" : Str)] qual scope f cdv A outer s H E
  have hX : X = cxOf (L2N.CX P w) P w K mg base [("run" : Str), ("found" : Str), ("e" : Str)] qual scope f cdv A outer s H E := rfl
  have nd : X.N.Nodup := S.nd
  have suite : ∀ (a : Addr) (oe : Obj) (cls : Value) (d : Option Addr) (pn : List (Addr × Obj)), L2N.Zn cls d oe → (∃ vs, oe.data = .fields vs) →
      PSs (X.suite a ((a, oe) :: pn)) [.Assign [.Name "found" p8] (.Tuple [.Call (.Name thn p9) [.Name "e" p10] [] p11, .Attribute (.Name "e" p12) "thing" p13] k2 p14) p15] (tSuite P w K mg cs th fth a cls d) := by
    intro a oe cls d pn hz hf
    refine ⟨fun pins s1 σ H1 Dn I h => ?_⟩
    obtain ⟨Dc, dd, s', v, rfl, rfl, T, h2, hd, hq⟩ := h
    obtain ⟨fI, ow⟩ := T.own
    have pt := pe_things (X := X) (pn := pn) (i := 2) (p := p9) (p' := p10) (pos := p11) (k := 1) (ans := s') hz hf (fun base' hb => T.tell base' a dd oe hb ⟨hz.1, hz.2.1⟩ hf) (hr.mono (by omega)) gth mth kth bth rfl (.inl ve) dth
    have pv : PE (X.suite a ((a, oe) :: pn)) (.Name "e" p12) (tVar 2) := pe_var (X := X.suite a ((a, oe) :: pn)) (i := 2) rfl (.inl ve) (by decide) (by decide)
    have pf := pe_fldOwn (X := X) (f := "thing") (pos := p13) ow hz hf pv (by rfl)
    have ps := pss_one (ps_set (X := X.suite a ((a, oe) :: pn)) (i := 1) (pos' := p8) (pos := p15) nd rfl (.inl vf) (pe_tup (x1 := k2) (pos := p14) (pa_cons pt (pa_cons pf pa_nil (by rfl)) (by rfl))) (by rfl) (.inr vf))
    refine ps.run pins s1 σ H1 Dn I ?_
    refine ⟨h2, ⟨_, hd⟩, fun H' ext => ⟨_, h2, rfl, rfl, dd, v, rfl, ext _ _ hd, ?_⟩⟩
    exact ⟨by show 2 ≤ sizeLine; rw [sizeLine_eq]; decide, fun T hT => hq H' T ext hT⟩
  have hdsA : HdsA X "e" True (.ExceptHandler (some (.Tuple es k p7)) (some "e") [.Assign [.Name "found" p8] (.Tuple [.Call (.Name thn p9) [.Name "e" p10] [] p11, .Attribute (.Name "e" p12) "thing" p13] k2 p14) p15] p16 :: hds) [(cs, tSuite P w K mg cs th fth)] :=
    .tup (ClsL.names (X := X) rfl hcs) (by rw [hcs.len]; exact hlen) suite (.rest trivial)
  have tk0 : L2N.Takes X (fun _ _ _ _ => False) := fun u s' ⟨_, _, _, _, _, _, _, _, _, _, _, _, _, _, _, _, z⟩ => z.elim
  have pst := ps_try_clauses (X := X) (n := "e") (i := 2) (pos := p17) (Wout := fun _ _ _ _ => False) (body := [.Expr (.Call (.Name "run" p4) [] [] p5) p6]) (tb := fun W => tDrop (fun σ H Q => σ[0]? = some (some (.ref fc)) ∧ spC G run ⟨b, us, cc, qq⟩ [] H Q (WE W σ))) rfl rfl nd rfl ve tk0
    (fun W pn xe tk _ => pss_one (ps_expr (pe_clo (X := X) (n := 0) hc hcl (hr.mono (by omega)) tk rfl (.inl vr) (by decide) (by decide)) (by rfl))) (dead := True) (fun _ _ _ _ _ z => z) hdsA
  refine ⟨_, pss_cons (ps_set (X := X) (i := 1) nd rfl (.inl vf) pe_non (by rfl) (.inr vf)) (pss_cons pst (pss_one (ps_ret (pe_var (X := X) (i := 1) rfl (.inl vf) (by decide) (by decide))))), ?_⟩
  refine ⟨rfl, rfl, W, ds, m, nt, tab, wcc, hco, rus, hno, ?_⟩
  simp only [gRaised] at q
  cases er : run b ds m with
  | bad => rw [er] at q; exact q.elim
  | ok d o out m' =>
    rw [er] at q
    intro v W' H' ce val
    refine ⟨_, rfl, q .non (dropT W') H' ⟨ce.go.dropT, fun j hj => (by cases hj), fun _ => rfl, fun a j h => ?_, ce.tab.monoW (fun a w => ?_) fun a w => ?_⟩ (set_val (dropT_not _) .non)⟩
    · unfold dropT at h
      split at h
      · cases h
      · exact ce.own a j h
    · unfold dropT; rw [w]; rfl
    · unfold dropT; rw [w, if_neg (by simp)]
  | exc x ds' out m' =>
    rw [er] at q
    match ds', q with
    | [d], q =>
      dsimp only at q
      cases et : tag x with
      | none => rw [et] at q; exact q.elim
      | some sx =>
        rw [et] at q
        dsimp only at q ⊢
        intro cls dx W' H' ce nt' hcls hval
        obtain ⟨Dc, e1, e2, T⟩ := ht x sx et
        obtain ⟨C0, e3, rfl⟩ := hcls
        rw [e1] at e3
        cases e3
        obtain ⟨ws, w1, w2, w3⟩ := hval
        rw [e2] at w1 w2
        match ws, w1, w2, w3 with
        | [v], w1, _, .cons rv _ =>
          refine ⟨true, T.exm, fun _ a ha => ?_, fun z => by cases z⟩
          refine ⟨Dc, dx, sx, v, rfl, rfl, T, rfl, w1, fun H1 T1 ext hT => ?_⟩
          refine ⟨_, rfl, ?_⟩
          have hT0 : H' T1 = none := by
            cases e : H' T1 with
            | none => rfl
            | some o => rw [ext _ _ e] at hT; cases hT
          have ext2 : ∀ b o, H' b = some o → (upd H1 T1 (.tup [.str sx, v])) b = some o := fun b o e => by
            have : b ≠ T1 := fun z => by rw [z, hT0] at e; cases e
            rw [upd_ne this]; exact ext _ _ e
          have gg : Go W' H' (fun y => if H' y = none then none else W' y) (upd H1 T1 (.tup [.str sx, v])) :=
            { keep := fun b o e _ => ext2 b o e
              dom := fun b e => by
                cases e5 : H' b with
                | none => exact absurd e5 e
                | some o => rw [ext2 b o e5]; exact fun z => nomatch z
              less := fun b w _ => by
                show (if H' b = none then none else W' b) = none
                split
                · rfl
                · exact w
              far := fun b w e => by
                show (if H' b = none then none else W' b) = _
                rw [if_neg e]; exact w
              own := fun b o e => by
                have e : (if H' b = none then none else W' b) = some o := e
                split at e
                · cases e
                · exact .inl e }
          have kp : ∀ b y (o : Wh), o.stays → H' b = some y → W' b = some o → (upd H1 T1 (.tup [.str sx, v])) b = some y ∧ (if H' b = none then none else W' b) = some o := fun b y o _ e w => ⟨ext2 b y e, by rw [if_neg (by rw [e]; exact fun z => nomatch z)]; exact w⟩
          refine q (.ref T1) _ _ ⟨ce.go.trans gg, fun j hj => (by cases hj), fun _ => rfl, fun b j e => ?_, ce.tab.mono gg kp⟩ (set_val (fun b e => ?_) (.tup (by show (if H' T1 = none then none else W' T1) = none; rw [if_pos hT0]) upd_same (.cons (.str _) (.cons (rv.mono gg) .nil))))
          · have e : (if H' b = none then none else W' b) = some (.s j) := e
            split at e
            · cases e
            · exact ce.own b j e
          · have e : (if H' b = none then none else W' b) = some .t := e
            split at e
            · cases e
            · exact nt' b e
end PT

set_option Elab.async false
set_option linter.all false
set_option maxRecDepth 100000
set_option maxHeartbeats 1000000
/-! PTu: _law_start, _law_below. -/
namespace PT
open PySem L2 PySem.Spec PyProof.Rows
def gStart (run : C → List D → List Unit → RC) (as : List (D × Bool)) (m : List Unit) : RC := match as with
  | [(.scr cs, false)] => .ok (.stm cs 0 0 73) true none m
  | _ => .bad
def StartText (body : List Stmt) : Prop := ∃ (p1 p2 p3 p4 p5 p6 p7 p8 : Pos) (j1 j2 j3 : Nat), body = [.Return (some (.List [.Call (.Name "list" p1) [.Name "script" p2] [] p3, .Constant (.int 0) j1 p4, .Constant (.int 0) j2 p5, .Constant (.int 73) j3 p6] p7)) p8]
theorem start_fn {P : Program} {w : World} {K : PySem.W.Frag} {mg : Str → Option Value} {nm qual : Str} {params : Arguments} {body : List Stmt} {scope : Scope} {cdv : Value} {f : Addr} {fd : FuncData} {G : Glob}
    (F : TextAt K nm qual params body scope cdv f fd) (S : FnScope [("script" : Str)] [("script" : Str)] scope) (T : StartText body) (vs : scope.names.lookup ("script" : Str) = some NameKind.local) (gl : scope.names.lookup ("list" : Str) = some NameKind.globalImplicit) (ml : mg "list" = none) (hK : K = G.K)
    {base : Heap} {run : C → List D → List Unit → RC} {lev i : Nat} : FnOk P w K mg base (L2N.CX P w) (lev + 1) f fd [("script" : Str)] (spF G (fun _ => gStart run) none i) := by
  obtain ⟨oc, od, dV, kV, doc, pm, an, ct, osl, rfl, lk, hcd⟩ := F
  obtain ⟨p1, p2, p3, p4, p5, p6, p7, p8, j1, j2, j3, rfl⟩ := T
  have form : ∀ {vs H Q E}, spF G (fun _ => gStart run) none i vs H Q E → ∃ (W : Ow) (cs : List Int) (a : Addr), vs = [V.ref a] ∧ SqL G.K H a (cs.map V.int) ∧ NoT W ∧ (∀ a j, W a ≠ some (.s j)) ∧ Tab G W H ∧
      ∀ v W' H', CallEnd G W H none vs none W' H' → OwnC G W' H' .t (.stm cs 0 0 73) v → Q v H' := by
    intro vs H Q E h
    obtain ⟨W, as, m, nt, ha, hle, hw, tab, q⟩ := h
    match as, ha, q with
    | [(.scr cs, false)], ha, q =>
      obtain ⟨v, h1, h2⟩ := ha.2 0 _ _ rfl
      rw [if_neg Bool.false_ne_true] at h2
      have hl := ha.1
      match vs, hl, h1 with
      | [v'], _, h1 =>
        simp at h1
        subst h1
        simp only [gStart] at q
        have fin : ∀ {a : Addr} (_ : v' = V.ref a), SqL G.K H a (cs.map V.int) → ∃ (W : Ow) (cs : List Int) (a : Addr), [v'] = [V.ref a] ∧ SqL G.K H a (cs.map V.int) ∧ NoT W ∧ (∀ a j, W a ≠ some (.s j)) ∧ Tab G W H ∧
      ∀ v W' H', CallEnd G W H none [v'] none W' H' → OwnC G W' H' .t (.stm cs 0 0 73) v → Q v H' := fun {a} e hs => ⟨W, cs, a, by rw [e], hs, nt, fun a j h => (by have := hw a j h; cases this), tab, fun v W' H' ce o => q v W' H' ce (by unfold ValOk; rw [if_pos rfl]; exact o)⟩
        cases h2 with
        | con k => cases k
        | scr w hh => exact fin rfl (.inl hh)
        | scrK hh => exact fin rfl (hh H)
  refine fn_of (CX := L2N.CX P w) lk hcd S (fun vs H Q E h => ?_) (fun A outer s H vs Q E hr h => ?_)
  · obtain ⟨_, _, _, rfl, _⟩ := form h
    rfl
  obtain ⟨W, cs, a, rfl, ha, nt, hno, tab, q⟩ := form h
  let X := cxOf (L2N.CX P w) P w K mg base [("script" : Str)] qual scope f cdv A outer s H E
  refine ⟨_, pss_one (ps_ret (X := X) (pe_lst (pa_cons (pe_callTy call_list_of gl ml (by decide +kernel) (pa_cons (pe_var (X := X) (i := 0) rfl (.inl vs) (by decide) (by decide)) pa_nil (by rfl)) (by decide) (by decide) (by rfl) (by rfl)) (pa_cons pe_int (pa_cons pe_int (pa_cons pe_int pa_nil (by rfl)) (by rfl)) (by rfl)) (by rfl)))), ?_⟩
  refine ⟨_, rfl, a, cs.map V.int, rfl, .inl (by show SqL K H a _; rw [hK]; exact ha), fun B hB => ?_⟩
  refine ⟨by show 4 ≤ sizeLine; rw [sizeLine_eq]; decide, fun A hA => ?_⟩
  have AB : A ≠ B := fun z => by rw [z, upd_same] at hA; cases hA
  have hA0 : H A = none := by rw [upd_ne AB] at hA; exact hA
  have ne : ∀ b o, H b = some o → b ≠ A ∧ b ≠ B := fun b o e => ⟨fun z => (by rw [z, hA0] at e; cases e), fun z => (by rw [z, hB] at e; cases e)⟩
  have kp : ∀ b o, H b = some o → upd (upd H B (.lst (cs.map V.int))) A (.lst [.ref B, .int 0, .int 0, .int 73]) b = some o := fun b o e => by
    obtain ⟨n1, n2⟩ := ne b o e
    rw [upd_ne n1, upd_ne n2]; exact e
  have ws : ∀ b, b ≠ A → b ≠ B → setW A .t (setW B .t W) b = W b := fun b n1 n2 => by rw [setW_ne n1, setW_ne n2]
  have gg : Go W H (setW A .t (setW B .t W)) (upd (upd H B (.lst (cs.map V.int))) A (.lst [.ref B, .int 0, .int 0, .int 73])) :=
    { keep := fun b o e _ => kp b o e
      dom := fun b e => by
        cases e5 : H b with
        | none => exact absurd e5 e
        | some o => rw [kp b o e5]; exact fun z => nomatch z
      less := fun b w e => by
        cases e5 : H b with
        | none => exact absurd e5 e
        | some o => obtain ⟨n1, n2⟩ := ne b o e5; rw [ws b n1 n2]; exact w
      far := fun b w e => by
        cases e5 : H b with
        | none => exact absurd e5 e
        | some o => obtain ⟨n1, n2⟩ := ne b o e5; rw [ws b n1 n2]; exact w
      own := fun b o e => by
        by_cases n1 : b = A
        · exact .inr (by rw [n1]; exact hA0)
        · by_cases n2 : b = B
          · exact .inr (by rw [n2]; exact hB)
          · rw [ws b n1 n2] at e; exact .inl e }
  refine q (.ref A) _ _ ⟨gg, fun j hj => (by cases hj), fun _ => rfl, fun b j e => ?_, tab.mono gg fun b x o _ e w => ?_⟩ ⟨A, B, rfl, AB, setW_same, by rw [setW_ne (Ne.symm AB), setW_same], upd_same, by rw [upd_ne (Ne.symm AB), upd_same]⟩
  · by_cases n1 : b = A
    · rw [n1, setW_same] at e; cases e
    · by_cases n2 : b = B
      · rw [setW_ne n1, n2, setW_same] at e; cases e
      · rw [ws b n1 n2] at e; exact absurd e (hno b j)
  · obtain ⟨n1, n2⟩ := ne b x e
    exact ⟨kp b x e, by rw [ws b n1 n2]; exact w⟩
end PT

set_option Elab.async false
set_option linter.all false
set_option maxRecDepth 100000
set_option maxHeartbeats 1000000
/-! PTv: _law_below. -/
namespace PT
open PySem L2 PySem.Spec PyProof.Rows
def sub_ (p : Nat → Pos) (n : Nat) (i : Int) : Expr := .Subscript (.Name "stream" (p n)) (.Constant (.int i) 0 (p (n + 1))) (p (n + 2))
def num_ (p : Nat → Pos) (n : Nat) (i : Int) : Expr := .Constant (.int i) 0 (p n)
/-- the text's shape: p where its parts stand -/
def belowBody (p : Nat → Pos) : List Stmt :=
  [ (.Assign ([ (sub_ p 0 2)]) ((.BinOp (sub_ p 3 2) .Add (num_ p 6 1) (p 7))) (p 8))
, (.While ((.BoolOp .And ([ (.Compare (sub_ p 9 1) [.Eq] ([num_ p 12 0]) (p 13)), (.Compare (sub_ p 14 0) ([.NotEq]) ([(.List [] (p 17))]) (p 18))]) (p 19))) ([ (.Assign ([(.Name "cell" (p 20))]) ((.Call ((.Attribute (sub_ p 21 0) ("pop") (p 24))) ([num_ p 25 0]) [] (p 26))) (p 27))
  , (.Assign ([ (sub_ p 28 3)]) ((.BinOp ((.Call ((.Name "int" (p 31))) ([ (.BinOp ((.BinOp ((.BinOp (sub_ p 32 3) .Mult (num_ p 35 69031) (p 36))) .Add ((.Name "cell" (p 37))) (p 38))) .Add (num_ p 39 13) (p 40))]) [] (p 41))) .Mod (num_ p 42 2147483647) (p 43))) (p 44))
  , (.Assign ([ (sub_ p 45 1)]) ((.IfExp ((.Compare ((.Name "cell" (p 48))) ([.GtE]) ([ (.BinOp (num_ p 49 10) .Pow (num_ p 50 18) (p 51))]) (p 52))) ((.Name "cell" (p 53))) (num_ p 54 0) (p 55))) (p 56))]) [] (p 57))
, (.If ((.Compare (sub_ p 58 1) ([.Gt]) ([num_ p 61 0]) (p 62))) ([ (.Assign ([(.Name "digit" (p 63))]) ((.BinOp ((.Call ((.Name "int" (p 64))) ([ (sub_ p 65 1)]) [] (p 68))) .Mod ((.Name "many" (p 69))) (p 70))) (p 71))
  , (.Assign ([ (sub_ p 72 1)]) ((.BinOp (sub_ p 75 1) .FloorDiv ((.Name "many" (p 78))) (p 79))) (p 80))
  , (.Return (some (.Name "digit" (p 81))) (p 82))]) [] (p 83))
  , (.Assign ([(.Name "mixed" (p 84))]) ((.BinOp ((.Call ((.Name "int" (p 85))) ([ (.BinOp ((.BinOp ((.BinOp (sub_ p 86 3) .Add ((.BinOp (num_ p 89 9049) .Mult (sub_ p 90 2) (p 93))) (p 94))) .Add (num_ p 95 130073) (p 96))) .Pow (num_ p 97 5) (p 98))]) [] (p 99))) .Mod (num_ p 100 2147483629) (p 101))) (p 102))
  , (.Return ((some (.BinOp ((.BinOp ((.Call ((.Name "int" (p 103))) ([ (.BinOp ((.BinOp ((.BinOp ((.BinOp ((.Name "mixed" (p 104))) .Mult (num_ p 105 44089) (p 106))) .Add ((.BinOp (num_ p 107 60077) .Mult (sub_ p 108 2) (p 111))) (p 112))) .Add (num_ p 113 47) (p 114))) .Pow (num_ p 115 3) (p 116))]) [] (p 117))) .Mod (num_ p 118 1000000007) (p 119))) .Mod ((.Name "many" (p 120))) (p 121)))) (p 122))]
def BelowText (body : List Stmt) : Prop := ∃ p : Nat → Pos, body = belowBody p ∧ ((p 24).endLine == (p 26).line) = true
/-! ### readings that leave the heap as it is -/
def Evs (te : TE) (σ : L2.St) (H : Hp) (v : V) : Prop := ∀ Q : VK, Q v H → te σ H Q
section
variable {σ : L2.St} {H : Hp} {K : PySem.W.Frag}
theorem Evs.var {i : Nat} {v : V} (h : σ[i]? = some (some v)) : Evs (tVar i) σ H v := fun Q q => ⟨v, h, q⟩
theorem Evs.con {v : V} : Evs (tC v) σ H v := fun Q q => q
theorem Evs.sub {a : Addr} {xs : List V} {i : Nat} {v : V} (h : σ[0]? = some (some (.ref a))) (ha : H a = some (.lst xs)) (hi : xs[i]? = some v) : Evs (tOp (rIxL K) (tVar 0) (tC (.int (i : Nat)))) σ H v := fun Q q =>
  ⟨_, h, a, xs, (i : Nat), v, rfl, rfl, .inl (.inl ha), atI_nat hi, q⟩
theorem Evs.bin {C : Int → Int → Prop} {g : Int → Int → V} {ta tb : TE} {i j : Int} (h1 : Evs ta σ H (.int i)) (h2 : Evs tb σ H (.int j)) (c : C i j) : Evs (tOp (rI C g) ta tb) σ H (g i j) := fun Q q => h1 _ (h2 _ ⟨i, j, rfl, rfl, c, q⟩)
theorem Evs.bin0 {g : Int → Int → V} {ta tb : TE} {i j : Int} (h1 : Evs ta σ H (.int i)) (h2 : Evs tb σ H (.int j)) : Evs (tOp (rI0 g) ta tb) σ H (g i j) := fun Q q => h1 _ (h2 _ ⟨i, j, rfl, rfl, q⟩)
theorem Evs.int1 {ta : TE} {i : Int} (h : Evs ta σ H (.int i)) : Evs (tCB (fun xs H Q => (∃ i, xs = [V.int i] ∧ Q (.int i) H) ∨ ∃ k, xs = [V.bl k] ∧ Q (.int (if k then 1 else 0)) H) (tCons ta tNil)) σ H (.int i) := fun Q q => h _ (.inl ⟨i, rfl, q⟩)
end
section
variable {X : Cx} {p : Nat → Pos}
/-- what the body asks of its context -/
structure BelowCx (X : Cx) : Prop where
  N : X.N = [("stream" : Str), ("many" : Str), ("cell" : Str), ("digit" : Str), ("mixed" : Str)]
  v : ∀ x ∈ X.N, X.env.scope.names.lookup x = some NameKind.local
  gi : Gl X "int"
  mi : X.mg "int" = none
  po : PassesOwn (model X.prog X.w) X.A X.env X.xe
  un : X.A.units + 64 < cLine
def tS (K : PySem.W.Frag) (i : Nat) : TE := tOp (rIxL K) (tVar 0) (tC (.int (i : Nat)))
def tInt (t : TE) : TE := tCB (fun xs H Q => (∃ i, xs = [V.int i] ∧ Q (.int i) H) ∨ ∃ k, xs = [V.bl k] ∧ Q (.int (if k then 1 else 0)) H) (tCons t tNil)
def rAddI : R2 := rI0 fun i j => .int (i + j)
def rMulI : R2 := rI CMul fun i j => .int (i * j)
def rModI : R2 := rI (fun _ j => 0 < j) fun i j => .int (i % j)
def rDivI : R2 := rI CDiv fun i j => .int (i / j)
def rPowI : R2 := rI CPow fun i j => .int (i ^ j.toNat)
def gSt (i : Nat) : TG := gSub (tVar 0) (tC (.int (i : Nat))) rSetL
def tI (i : Int) : TE := tC (.int i)
/-- the loop's test, its body -/
def tLoopT (K : PySem.W.Frag) : TT := tAnd (tTest (tOp rEq (tS K 1) (tI 0))) (tTest (tOp (rNeD K) (tS K 0) (tLst tNil)))
def tLoopB (K : PySem.W.Frag) : TS := tSeq (tAsg (tBM K "list" rPopAt (tS K 0) (tCons (tI 0) tNil)) (gName 2))
  (tSeq (tAsg (tOp rModI (tInt (tOp rAddI (tOp rAddI (tOp rMulI (tS K 3) (tI 69031)) (tVar 2)) (tI 13))) (tI 2147483647)) (gSt 3))
    (tAsg (tIf (tTest (tOp (rI0 fun i j => .bl (decide (j ≤ i))) (tVar 2) (tOp rPowI (tI 10) (tI 18)))) (tVar 2) (tI 0)) (gSt 1)))
def tBelow (K : PySem.W.Frag) : TS := tSeq (tAsg (tOp rAddI (tS K 2) (tI 1)) (gSt 2)) (tSeq (tWhile (tLoopT K) (tLoopB K))
  (tSeq (tIfS (tTest (tOp (rI0 fun i j => .bl (decide (j < i))) (tS K 1) (tI 0))) (tSeq (tAsg (tOp rModI (tInt (tS K 1)) (tVar 1)) (gName 3)) (tSeq (tAsg (tOp rDivI (tS K 1) (tVar 1)) (gSt 1)) (tRet (tVar 3)))) tNext)
    (tSeq (tAsg (tOp rModI (tInt (tOp rPowI (tOp rAddI (tOp rAddI (tS K 3) (tOp rMulI (tI 9049) (tS K 2))) (tI 130073)) (tI 5))) (tI 2147483629)) (gName 4))
      (tRet (tOp rModI (tOp rModI (tInt (tOp rPowI (tOp rAddI (tOp rAddI (tOp rMulI (tVar 4) (tI 44089)) (tOp rMulI (tI 60077) (tS K 2))) (tI 47)) (tI 3))) (tI 1000000007)) (tVar 1))))))
theorem pss_below (B : BelowCx X) (hl : ((p 24).endLine == (p 26).line) = true) : PSs X (belowBody p) (tBelow X.K) := by
  have hN := B.N
  have v : ∀ {i : Nat} {x : Str}, X.N[i]? = some x → X.env.scope.names.lookup x = some NameKind.local := fun {i x} h => B.v x (List.mem_of_getElem? h)
  have n0 : X.N[0]? = some ("stream" : Str) := by rw [hN]; rfl
  have n1 : X.N[1]? = some ("many" : Str) := by rw [hN]; rfl
  have n2 : X.N[2]? = some ("cell" : Str) := by rw [hN]; rfl
  have n3 : X.N[3]? = some ("digit" : Str) := by rw [hN]; rfl
  have n4 : X.N[4]? = some ("mixed" : Str) := by rw [hN]; rfl
  have nd : X.N.Nodup := by rw [hN]; decide +kernel
  have e0 : ∀ q, PE X (.Name "stream" q) (tVar 0) := fun q => pe_var n0 (.inl (v n0)) (by decide) (by decide)
  have e1 : ∀ q, PE X (.Name "many" q) (tVar 1) := fun q => pe_var n1 (.inl (v n1)) (by decide) (by decide)
  have e2 : ∀ q, PE X (.Name "cell" q) (tVar 2) := fun q => pe_var n2 (.inl (v n2)) (by decide) (by decide)
  have e3 : ∀ q, PE X (.Name "digit" q) (tVar 3) := fun q => pe_var n3 (.inl (v n3)) (by decide) (by decide)
  have e4 : ∀ q, PE X (.Name "mixed" q) (tVar 4) := fun q => pe_var n4 (.inl (v n4)) (by decide) (by decide)
  have es : ∀ n (i : Nat), PE X (sub_ p n (i : Nat)) (tS X.K i) := fun n i => pe_ix ix_list (e0 _) pe_int fun _ _ => rfl
  have en : ∀ n i, PE X (num_ p n i) (tI i) := fun n i => pe_int
  have gs : ∀ n (i : Nat), PG X (sub_ p n (i : Nat)) (gSt i) := fun n i => pg_sub (e0 _) pe_int set_list (by intro _; rfl)
  have ei : ∀ {e t q q'}, PE X e t → (∀ e' p', e ≠ .Starred e' p') → PE X (.Call (.Name "int" q) [e] [] q') (tInt t) := fun {e t q q'} h hs => pe_callTy call_int1 B.gi B.mi (by decide +kernel) (pa_cons h pa_nil (star_cons hs)) (by decide) (by decide) (star_cons hs) (by rfl)
  have nS : ∀ n (i : Nat) e' p', sub_ p n (i : Nat) ≠ .Starred e' p' := fun _ _ _ _ z => by cases z
  have asg : ∀ {e : Expr} {t : TE} {n : Nat} {i : Nat} {q : Pos}, PE X e t → isLC e = false → PS X (.Assign [sub_ p n (i : Nat)] e q) (tAsg t (gSt i)) := fun {e t n i q} h hl => ps_asg h (gs n i) (by cases e <;> first | rfl | simp [isLC] at hl) (by cases e <;> rfl) (by rfl)
  have loopT : PT X (.BoolOp .And [.Compare (sub_ p 9 1) [.Eq] [num_ p 12 0] (p 13), .Compare (sub_ p 14 0) [.NotEq] [.List [] (p 17)] (p 18)] (p 19)) (tLoopT X.K) :=
    (pw_and (pt_cmpR op_eq (es 9 1) (en 12 0) (nomark _)) (pw_and1 (pt_cmpR (op_neD B.un) (es 14 0) (pe_lst pa_nil) (nomark _)))).pt
  have b1 : PS X (.Assign [.Name "cell" (p 20)] (.Call (.Attribute (sub_ p 21 0) "pop" (p 24)) [num_ p 25 0] [] (p 26)) (p 27)) (tAsg (tBM X.K "list" rPopAt (tS X.K 0) (tCons (tI 0) tNil)) (gName 2)) :=
    ps_set nd n2 (.inl (v n2)) (pe_bm PySem.F.plainAttrs_list PySem.F.slot_list_pop PySem.F.type_list_pop mt_popAt (es 21 0) (pa_cons (en 25 0) pa_nil (by rfl)) (by rfl) (by rfl) hl (by rfl) (by rfl)) (by rfl) (.inr (v n2))
  have loopB : PSs X _ (tLoopB X.K) := pss_cons b1 (pss_cons (asg (i := 3) (n := 28) (q := p 44) (pe_op (pos := p 43) op_mod (ei (q := p 31) (q' := p 41) (pe_op (pos := p 40) op_add (pe_op (pos := p 38) op_add (pe_op (pos := p 36) op_mul (es 32 3) (en 35 69031)) (e2 (p 37))) (en 39 13)) (by intro _ _ z; cases z)) (en 42 2147483647)) rfl)
    (pss_one (asg (i := 1) (n := 45) (q := p 56) (pe_ifExp (pos := p 55) (pt_cmpR (pos := p 52) op_ge (e2 (p 48)) (pe_op (pos := p 51) op_pow (en 49 10) (en 50 18)) (nomark _)) (e2 (p 53)) (en 54 0)) rfl)))
  exact pss_cons (asg (i := 2) (n := 0) (pe_op op_add (es 3 2) (en 6 1)) rfl) (pss_cons (ps_while B.po loopT loopB)
    (pss_cons (ps_if (pt_cmpR op_gt (es 58 1) (en 61 0) (nomark _)) (pss_cons (ps_set nd n3 (.inl (v n3)) (pe_op op_mod (ei (es 65 1) (nS 65 1)) (e1 _)) (by rfl) (.inr (v n3))) (pss_cons (asg (i := 1) (n := 72) (pe_op op_fdiv (es 75 1) (e1 _)) rfl) (pss_one (ps_ret (e3 _))))) pss_nil)
      (pss_cons (ps_set nd n4 (.inl (v n4)) (pe_op op_mod (ei (pe_op op_pow (pe_op op_add (pe_op op_add (es 86 3) (pe_op op_mul (en 89 9049) (es 90 2))) (en 95 130073)) (en 97 5)) (by intro _ _ z; cases z)) (en 100 2147483629)) (by rfl) (.inr (v n4)))
        (pss_one (ps_ret (pe_op op_mod (pe_op op_mod (ei (pe_op op_pow (pe_op op_add (pe_op op_add (pe_op op_mul (e4 _) (en 105 44089)) (pe_op op_mul (en 107 60077) (es 108 2))) (en 113 47)) (en 115 3)) (by intro _ _ z; cases z)) (en 118 1000000007)) (e1 _)))))))
end
end PT

set_option Elab.async false
set_option linter.all false
set_option maxRecDepth 100000
set_option maxHeartbeats 1000000
/-! PTw: what _law_below reckons. -/
namespace PT
open PySem L2 PySem.Spec PyProof.Rows
/-- the cells read until one is great -/
def loopB : List Int → Int → Int → List Int × Int × Int
  | [], x, z => ([], x, z)
  | c :: r, x, z => if x = 0 then loopB r (if 10 ^ 18 ≤ c then c else 0) ((z * 69031 + c + 13) % 2147483647) else (c :: r, x, z)
/-- the answer -/
def digB (many x y z : Int) : Int := if 0 < x then x % many else ((((z + 9049 * y + 130073) ^ 5 % 2147483629) * 44089 + 60077 * y + 47) ^ 3 % 1000000007) % many
def gBelow (run : C → List D → List Unit → RC) (as : List (D × Bool)) (m : List Unit) : RC := match as with
  | [(.stm cells x y z, true), (.int many, false)] =>
    if 0 < many ∧ many < 1000000000 ∧ 0 ≤ x ∧ 0 ≤ y ∧ y < 1000000 ∧ 0 ≤ z ∧ z < 2147483647 then match loopB cells x z with
      | (cs, x', z') => .ok (.int (digB many x' (y + 1) z')) false (some (.stm cs (if 0 < x' then x' / many else x') (y + 1) z')) m
    else .bad
  | _ => .bad
/-- where the stream stands; all else as it was -/
structure Bel (H0 : Hp) (a b : Addr) (cells : List Int) (x y z : Int) (H' : Hp) : Prop where
  at_ : H' a = some (.lst [.ref b, .int x, .int y, .int z])
  bt : H' b = some (.lst (cells.map V.int))
  rest : ∀ c o, c ≠ a → c ≠ b → H0 c = some o → H' c = some o
theorem dp_ints {K : PySem.W.Frag} {H : Hp} : ∀ cs : List Int, DpAll K H (cs.map V.int) (cs.map PyData.int)
  | [] => .nil
  | c :: r => .cons (.int c) (dp_ints r)
theorem lay_ints : ∀ cs : List Int, PyData.canLayAll0 (cs.map PyData.int) = true
  | [] => by simp [PyData.canLayAll0]
  | c :: r => by simp [PyData.canLayAll0, PyData.canLay0, lay_ints r]
theorem depth_ints : ∀ cs : List Int, PyData.depthAll (cs.map PyData.int) = 0
  | [] => by simp [PyData.depthAll]
  | c :: r => by simp [PyData.depthAll, PyData.depth, depth_ints r]
theorem shaped_ints (cs : List Int) : SeqAt.shaped (.list (cs.map PyData.int)) = true := by
  unfold SeqAt.shaped
  rw [Bool.and_eq_true]
  exact ⟨by simp [PyData.canLay0, lay_ints], by simp [PyData.depth, depth_ints]⟩
theorem eqv_nil (cs : List Int) : PyData.eqv (.list (cs.map PyData.int)) (.list []) = cs.isEmpty := by
  cases cs <;> simp [PyData.eqv, PyData.eqvAll]
theorem loopB_rest : ∀ (cells : List Int) (x z : Int), x ≠ 0 → loopB cells x z = (cells, x, z)
  | [], _, _, _ => rfl
  | _ :: _, x, z, h => by simp [loopB, h]
theorem loopB_pos : ∀ (cells : List Int) (x z : Int), 0 ≤ x → 0 ≤ z → z < 2147483647 → 0 ≤ (loopB cells x z).2.1 ∧ 0 ≤ (loopB cells x z).2.2 ∧ (loopB cells x z).2.2 < 2147483647
  | [], _, _, h1, h2, h3 => ⟨h1, h2, h3⟩
  | c :: r, x, z, h1, h2, h3 => by
    unfold loopB
    split
    · exact loopB_pos r _ _ (by split <;> omega) (Int.emod_nonneg _ (by decide)) (Int.emod_lt_of_pos _ (by decide))
    · exact ⟨h1, h2, h3⟩
section
variable {K : PySem.W.Frag}
theorem ite_t {c : Bool} {A B : Prop} (hc : c = true) (h : A) : if c = true then A else B := by rw [if_pos hc]; exact h
theorem ite_f {c : Bool} {A B : Prop} (hc : c = false) (h : B) : if c = true then A else B := by rw [hc, if_neg Bool.false_ne_true]; exact h
theorem ix_nat {n j : Nat} (hj : j < n) : ixN n (j : Int) = some j := by
  unfold ixN
  rw [if_pos (by omega), if_pos (by omega)]
  simp
theorem ev_S {H : Hp} {a b : Addr} {x y z : Int} {σ : L2.St} (h : σ[0]? = some (some (.ref a))) (ha : H a = some (.lst [.ref b, .int x, .int y, .int z])) :
    Evs (tS K 0) σ H (.ref b) ∧ Evs (tS K 1) σ H (.int x) ∧ Evs (tS K 2) σ H (.int y) ∧ Evs (tS K 3) σ H (.int z) := ⟨.sub h ha rfl, .sub h ha rfl, .sub h ha rfl, .sub h ha rfl⟩
theorem set_S {H : Hp} {a : Addr} {xs : List V} {i : Nat} {v : V} {σ : L2.St} {Q : L2.St → Hp → Prop} (h : σ[0]? = some (some (.ref a))) (ha : H a = some (.lst xs)) (hi : i < xs.length) (q : Q σ (upd H a (.lst (xs.set i v)))) : gSt i v σ H Q :=
  ⟨_, h, a, xs, (i : Nat), i, rfl, rfl, ha, ix_nat hi, q⟩
/-- behind the loop -/
def tRest (K : PySem.W.Frag) : TS := tSeq (tIfS (tTest (tOp (rI0 fun i j => .bl (decide (j < i))) (tS K 1) (tI 0))) (tSeq (tAsg (tOp rModI (tInt (tS K 1)) (tVar 1)) (gName 3)) (tSeq (tAsg (tOp rDivI (tS K 1) (tVar 1)) (gSt 1)) (tRet (tVar 3)))) tNext)
    (tSeq (tAsg (tOp rModI (tInt (tOp rPowI (tOp rAddI (tOp rAddI (tS K 3) (tOp rMulI (tI 9049) (tS K 2))) (tI 130073)) (tI 5))) (tI 2147483629)) (gName 4))
      (tRet (tOp rModI (tOp rModI (tInt (tOp rPowI (tOp rAddI (tOp rAddI (tOp rMulI (tVar 4) (tI 44089)) (tOp rMulI (tI 60077) (tS K 2))) (tI 47)) (tI 3))) (tI 1000000007)) (tVar 1))))
theorem rest_run {H0 H : Hp} {a b : Addr} (ab : a ≠ b) {cs : List Int} {many x y z : Int} {u : Option V} {D' : Ends} (hm : 0 < many) (hm2 : many < 1000000000) (hx : 0 ≤ x) (hy : 0 ≤ y) (hy2 : y < 1000001) (hz : 0 ≤ z) (hz2 : z < 2147483647)
    (B : Bel H0 a b cs x y z H) (q : ∀ H', Bel H0 a b cs (if 0 < x then x / many else x) y z H' → D'.rt (.int (digB many x y z)) H') :
    tRest K D' [some (.ref a), some (.int many), u, none, none] H := by
  have s0 : ∀ u v w : Option V, ([some (.ref a), some (.int many), u, v, w] : L2.St)[0]? = some (some (.ref a)) := fun _ _ _ => rfl
  have s1 : ∀ u v w : Option V, ([some (.ref a), some (.int many), u, v, w] : L2.St)[1]? = some (some (.int many)) := fun _ _ _ => rfl
  obtain ⟨e0, e1, e2, e3⟩ := ev_S (K := K) (s0 u none none) B.at_
  refine (Evs.bin0 (g := fun i j => .bl (decide (j < i))) e1 .con) _ ⟨_, rfl, ?_⟩
  by_cases hp : 0 < x
  · refine ite_t (decide_eq_true hp) ?_
    refine (Evs.bin (C := fun _ j => 0 < j) (g := fun i j => .int (i % j)) (Evs.int1 e1) (.var (s1 _ _ _)) hm) _ ?_
    show tSeq _ _ _ [some (.ref a), some (.int many), u, some (.int (x % many)), none] H
    obtain ⟨f0, f1, f2, f3⟩ := ev_S (K := K) (s0 u (some (.int (x % many))) none) B.at_
    refine (Evs.bin (C := CDiv) (g := fun i j => .int (i / j)) f1 (.var (s1 _ _ _)) ⟨hm, by omega⟩) _ (set_S (s0 _ _ _) B.at_ (by show 1 < 4; decide) ?_)
    refine ⟨_, rfl, ?_⟩
    have := q (upd H a (.lst [.ref b, .int (x / many), .int y, .int z])) ⟨by rw [if_pos hp, upd_same], by rw [upd_ne (Ne.symm ab)]; exact B.bt, fun c o n1 n2 e => by rw [upd_ne n1]; exact B.rest c o n1 n2 e⟩
    unfold digB at this
    rw [if_pos hp] at this
    exact this
  · refine ite_f (decide_eq_false hp) ?_
    have q' := q H (by rw [if_neg hp]; exact B)
    unfold digB at q'
    rw [if_neg hp] at q'
    have c1 : CMul (9049 : Int) y := .inl ⟨by decide, by decide⟩
    have c2 : CPow (z + 9049 * y + 130073) 5 := ⟨by decide, by decide, by omega⟩
    refine (Evs.bin (C := fun _ j => 0 < j) (g := fun i j => .int (i % j)) (Evs.int1 (Evs.bin (C := CPow) (g := fun i j => .int (i ^ j.toNat)) (Evs.bin0 (g := fun i j => .int (i + j)) (Evs.bin0 (g := fun i j => .int (i + j)) e3 (Evs.bin (C := CMul) (g := fun i j => .int (i * j)) .con e2 c1)) .con) .con c2)) .con (by decide)) _ ?_
    have h5 : ((5 : Int)).toNat = 5 := rfl
    have h3 : ((3 : Int)).toNat = 3 := rfl
    rw [h5]
    generalize hmx : (z + 9049 * y + 130073) ^ 5 % 2147483629 = mx at q' ⊢
    have m1 : 0 ≤ mx := by rw [← hmx]; exact Int.emod_nonneg _ (by decide)
    have m2 : mx < 2147483629 := by rw [← hmx]; exact Int.emod_lt_of_pos _ (by decide)
    obtain ⟨f0, f1, f2, f3⟩ := ev_S (K := K) (s0 u none (some (.int mx))) B.at_
    have s4 : ([some (.ref a), some (.int many), u, none, some (.int mx)] : L2.St)[4]? = some (some (.int mx)) := rfl
    have c3 : CMul mx (44089 : Int) := .inr ⟨by decide, by decide⟩
    have c4 : CMul (60077 : Int) y := .inl ⟨by decide, by decide⟩
    have c5 : CPow (mx * 44089 + 60077 * y + 47) 3 := ⟨by decide, by decide, by omega⟩
    refine (Evs.bin (C := fun _ j => 0 < j) (g := fun i j => .int (i % j)) (Evs.bin (C := fun _ j => 0 < j) (g := fun i j => .int (i % j)) (Evs.int1 (Evs.bin (C := CPow) (g := fun i j => .int (i ^ j.toNat)) (Evs.bin0 (g := fun i j => .int (i + j)) (Evs.bin0 (g := fun i j => .int (i + j)) (Evs.bin (C := CMul) (g := fun i j => .int (i * j)) (.var s4) .con c3) (Evs.bin (C := CMul) (g := fun i j => .int (i * j)) .con f2 c4)) .con) .con c5)) .con (by decide)) (.var (s1 _ _ _)) hm) _ ?_
    rw [h3]
    exact q'
def tIfB : TE := tIf (tTest (tOp (rI0 fun i j => .bl (decide (j ≤ i))) (tVar 2) (tOp rPowI (tI 10) (tI 18)))) (tVar 2) (tI 0)
theorem last_run {H0 H5 : Hp} {a b : Addr} (ab : a ≠ b) {r : List Int} {many c y z : Int} {Db : Ends} (B5 : Bel H0 a b r 0 y z H5)
    (q : ∀ H', Bel H0 a b r (if 10 ^ 18 ≤ c then c else 0) y z H' → Db.nx [some (.ref a), some (.int many), some (.int c), none, none] H') : tAsg tIfB (gSt 1) Db [some (.ref a), some (.int many), some (.int c), none, none] H5 := by
  have t0 : ([some (.ref a), some (.int many), some (.int c), none, none] : L2.St)[0]? = some (some (.ref a)) := rfl
  have t2 : ([some (.ref a), some (.int many), some (.int c), none, none] : L2.St)[2]? = some (some (.int c)) := rfl
  have cp : CPow (10 : Int) 18 := ⟨by decide, by decide, by decide⟩
  refine (Evs.bin0 (g := fun i j => .bl (decide (j ≤ i))) (.var t2) (Evs.bin (C := CPow) (g := fun i j => .int (i ^ j.toNat)) .con .con cp)) _ ⟨_, rfl, ?_⟩
  have fin : ∀ v : Int, v = (if 10 ^ 18 ≤ c then c else 0) → gSt 1 (.int v) [some (.ref a), some (.int many), some (.int c), none, none] H5 Db.nx := fun v hv =>
    set_S t0 B5.at_ (by show 1 < 4; decide) (q _ ⟨by rw [← hv]; exact upd_same, by rw [upd_ne (Ne.symm ab)]; exact B5.bt, fun c o n1 n2 e => by rw [upd_ne n1]; exact B5.rest c o n1 n2 e⟩)
  by_cases hc : (10 : Int) ^ 18 ≤ c
  · refine ite_t (decide_eq_true hc) ?_
    exact ⟨_, t2, fin c (by rw [if_pos hc])⟩
  · refine ite_f (decide_eq_false hc) ?_
    exact fin 0 (by rw [if_neg hc])
theorem mid_run {H0 H4 : Hp} {a b : Addr} (ab : a ≠ b) {r : List Int} {many c y z : Int} {Db : Ends} (B4 : Bel H0 a b r 0 y z H4)
    (q : ∀ H', Bel H0 a b r (if 10 ^ 18 ≤ c then c else 0) y ((z * 69031 + c + 13) % 2147483647) H' → Db.nx [some (.ref a), some (.int many), some (.int c), none, none] H') :
    tSeq (tAsg (tOp rModI (tInt (tOp rAddI (tOp rAddI (tOp rMulI (tS K 3) (tI 69031)) (tVar 2)) (tI 13))) (tI 2147483647)) (gSt 3)) (tAsg tIfB (gSt 1)) Db [some (.ref a), some (.int many), some (.int c), none, none] H4 := by
  have t0 : ([some (.ref a), some (.int many), some (.int c), none, none] : L2.St)[0]? = some (some (.ref a)) := rfl
  have t2 : ([some (.ref a), some (.int many), some (.int c), none, none] : L2.St)[2]? = some (some (.int c)) := rfl
  obtain ⟨g0, g1, g2, g3⟩ := ev_S (K := K) t0 B4.at_
  have c3 : CMul z (69031 : Int) := .inr ⟨by decide, by decide⟩
  refine (Evs.bin (C := fun _ j => 0 < j) (g := fun i j => .int (i % j)) (Evs.int1 (Evs.bin0 (g := fun i j => .int (i + j)) (Evs.bin0 (g := fun i j => .int (i + j)) (Evs.bin (C := CMul) (g := fun i j => .int (i * j)) g3 .con c3) (.var t2)) .con)) .con (by decide)) _ (set_S t0 B4.at_ (by show 3 < 4; decide) ?_)
  exact last_run ab ⟨upd_same, by rw [upd_ne (Ne.symm ab)]; exact B4.bt, fun c o n1 n2 e => by rw [upd_ne n1]; exact B4.rest c o n1 n2 e⟩ q
theorem body_run {H0 H3 : Hp} {a b : Addr} (ab : a ≠ b) {c : Int} {r : List Int} {many y z : Int} {u : Option V} {Db : Ends} (B3 : Bel H0 a b (c :: r) 0 y z H3)
    (q : ∀ H', Bel H0 a b r (if 10 ^ 18 ≤ c then c else 0) y ((z * 69031 + c + 13) % 2147483647) H' → Db.nx [some (.ref a), some (.int many), some (.int c), none, none] H') :
    tLoopB K Db [some (.ref a), some (.int many), u, none, none] H3 := by
  have s0 : ([some (.ref a), some (.int many), u, none, none] : L2.St)[0]? = some (some (.ref a)) := rfl
  obtain ⟨f0, _, _, _⟩ := ev_S (K := K) s0 B3.at_
  refine f0 _ ⟨.inl ⟨rfl, _, .inl (.inl B3.bt)⟩, b, (c :: r).map V.int, 0, 0, .int c, rfl, rfl, B3.bt, by decide, by decide, by simp [seqIndex?], rfl, ?_⟩
  exact mid_run ab ⟨by rw [upd_ne ab]; exact B3.at_, by rw [upd_same]; rfl, fun c o n1 n2 e => by rw [upd_ne n2]; exact B3.rest c o n1 n2 e⟩ q
theorem below_run {H0 H : Hp} {a b : Addr} (ab : a ≠ b) {cells : List Int} {many x y z : Int} {D' : Ends} (hm : 0 < many) (hm2 : many < 1000000000) (hx : 0 ≤ x) (hy : 0 ≤ y) (hy2 : y < 1000000) (hz : 0 ≤ z) (hz2 : z < 2147483647)
    (B : Bel H0 a b cells x y z H) (q : ∀ H', Bel H0 a b (loopB cells x z).1 (if 0 < (loopB cells x z).2.1 then (loopB cells x z).2.1 / many else (loopB cells x z).2.1) (y + 1) (loopB cells x z).2.2 H' → D'.rt (.int (digB many (loopB cells x z).2.1 (y + 1) (loopB cells x z).2.2)) H') :
    tBelow K D' [some (.ref a), some (.int many), none, none, none] H := by
  have s0 : ([some (.ref a), some (.int many), none, none, none] : L2.St)[0]? = some (some (.ref a)) := rfl
  obtain ⟨_, _, e2, _⟩ := ev_S (K := K) s0 B.at_
  refine (Evs.bin0 (g := fun i j => .int (i + j)) e2 .con) _ (set_S s0 B.at_ (by show 2 < 4; decide) ?_)
  have B1 : Bel H0 a b cells x (y + 1) z (upd H a (.lst [.ref b, .int x, .int (y + 1), .int z])) := ⟨upd_same, by rw [upd_ne (Ne.symm ab)]; exact B.bt, fun c o n1 n2 e => by rw [upd_ne n1]; exact B.rest c o n1 n2 e⟩
  show tWhile (tLoopT K) (tLoopB K) _ _ (upd H a (.lst [.ref b, .int x, .int (y + 1), .int z]))
  generalize upd H a (.lst [.ref b, .int x, .int (y + 1), .int z]) = H1 at B1
  refine ⟨fun m σ H' => ∃ (cs : List Int) (x' z' : Int) (u : Option V), m = cs.length ∧ σ = [some (.ref a), some (.int many), u, none, none] ∧ Bel H0 a b cs x' (y + 1) z' H' ∧ loopB cs x' z' = loopB cells x z, ⟨_, cells, x, z, none, rfl, rfl, B1, rfl⟩, ?_⟩
  rintro m σ H2 ⟨cs, x', z', u, rfl, rfl, B2, hl⟩
  have s0 : ([some (.ref a), some (.int many), u, none, none] : L2.St)[0]? = some (some (.ref a)) := rfl
  obtain ⟨e0, e1, e2, e3⟩ := ev_S (K := K) s0 B2.at_
  have after : ∀ {H3 : Hp}, Bel H0 a b cs x' (y + 1) z' H3 → (cs, x', z') = loopB cells x z → tRest K D' [some (.ref a), some (.int many), u, none, none] H3 := fun {H3} B3 h => by
    obtain ⟨p1, p2, p3⟩ := loopB_pos cells x z hx hz hz2
    rw [← h] at p1 p2 p3 q
    exact rest_run ab hm hm2 p1 (by omega) (by omega) p2 p3 B3 q
  refine e1 _ (Evs.con _ ⟨rfl, ?_⟩)
  refine ⟨_, rfl, ?_⟩
  by_cases hx0 : x' = 0
  · subst hx0
    refine ite_t (by simp) ?_
    refine e0 _ ⟨Nat.zero_le _, fun A hA => ?_⟩
    have nA : ∀ c o, H2 c = some o → c ≠ A := fun c o e z => by rw [z, hA] at e; cases e
    have B3 : Bel H0 a b cs 0 (y + 1) z' (upd H2 A (.lst [])) := ⟨by rw [upd_ne (nA _ _ B2.at_)]; exact B2.at_, by rw [upd_ne (nA _ _ B2.bt)]; exact B2.bt, fun c o n1 n2 e => by have := B2.rest c o n1 n2 e; rw [upd_ne (nA _ _ this)]; exact this⟩
    have hA3 : upd H2 A (.lst []) A = some (.lst []) := upd_same
    refine ⟨.list (cs.map PyData.int), .list [], .lst (.inl (.inl B3.bt)) (dp_ints cs), .lst (.inl (.inl hA3)) .nil, shaped_ints cs, shaped_ints [], _, rfl, ?_⟩
    generalize upd H2 A (.lst []) = H3 at B3
    rw [eqv_nil]
    cases cs with
    | nil =>
      refine ite_f rfl ?_
      exact after B3 (by rw [← hl]; rfl)
    | cons c r =>
      refine ite_t rfl ?_
      refine ⟨fun σ H' => ∃ (cs : List Int) (x' z' : Int) (u : Option V), r.length = cs.length ∧ σ = [some (.ref a), some (.int many), u, none, none] ∧ Bel H0 a b cs x' (y + 1) z' H' ∧ loopB cs x' z' = loopB cells x z, fun σ' H' h => ⟨r.length, Nat.lt_succ_self _, h⟩, ?_⟩
      exact body_run ab B3 fun H' B' => ⟨r, _, _, _, rfl, rfl, B', by rw [← hl]; simp [loopB]⟩
  · refine ite_f (by simpa using hx0) ?_
    exact after B2 (by rw [← hl, loopB_rest _ _ _ hx0])
end
end PT

set_option Elab.async false
set_option linter.all false
set_option maxRecDepth 100000
set_option maxHeartbeats 1000000
/-! PTy: _law_below keeps its promise. -/
namespace PT
open PySem L2 PySem.Spec PyProof.Rows
theorem below_fn {P : Program} {w : World} {K : PySem.W.Frag} {mg : Str → Option Value} {nm qual : Str} {params : Arguments} {body : List Stmt} {scope : Scope} {cdv : Value} {f : Addr} {fd : FuncData} {G : Glob}
    (F : TextAt K nm qual params body scope cdv f fd) (S : FnScope [("stream" : Str), ("many" : Str), ("cell" : Str), ("digit" : Str), ("mixed" : Str)] [("stream" : Str), ("many" : Str)] scope) (T : BelowText body)
    (hv : ∀ x ∈ [("stream" : Str), ("many" : Str), ("cell" : Str), ("digit" : Str), ("mixed" : Str)], scope.names.lookup x = some NameKind.local) (gi : scope.names.lookup ("int" : Str) = some NameKind.globalImplicit) (mi : mg "int" = none)
    {base : Heap} {run : C → List D → List Unit → RC} {lev i : Nat} : FnOk P w K mg base (L2N.CX P w) (lev + 1) f fd [("stream" : Str), ("many" : Str)] (spF G (fun _ => gBelow run) (some 0) i) := by
  obtain ⟨oc, od, dV, kV, doc, pm, an, ct, osl, rfl, lk, hcd⟩ := F
  obtain ⟨p, rfl, hl⟩ := T
  have form : ∀ {vs H Q E}, spF G (fun _ => gBelow run) (some 0) i vs H Q E → ∃ (W : Ow) (cells : List Int) (x y z many : Int) (a b : Addr), vs = [V.ref a, V.int many] ∧ a ≠ b ∧ W a = some (.s 0) ∧ W b = some (.s 0) ∧ H a = some (.lst [.ref b, .int x, .int y, .int z]) ∧ H b = some (.lst (cells.map V.int)) ∧ NoT W ∧ (∀ a j, W a = some (.s j) → (some 0 : Option Nat) = some j) ∧ Tab G W H ∧
      (0 < many ∧ many < 1000000000 ∧ 0 ≤ x ∧ 0 ≤ y ∧ y < 1000000 ∧ 0 ≤ z ∧ z < 2147483647) ∧
      ∀ v W' H', CallEnd G W H (some 0) vs (some (.stm (loopB cells x z).1 (if 0 < (loopB cells x z).2.1 then (loopB cells x z).2.1 / many else (loopB cells x z).2.1) (y + 1) (loopB cells x z).2.2)) W' H' → ValOk G W' H' (.int (digB many (loopB cells x z).2.1 (y + 1) (loopB cells x z).2.2)) false v → Q v H' := by
    intro vs H Q E h
    obtain ⟨W, as, m, nt, ha, hle, hw, tab, q⟩ := h
    match as, ha, q with
    | [(.stm cells x y z, true), (.int many, false)], ha, q =>
      obtain ⟨v, h1, h2⟩ := ha.2 0 _ _ rfl
      obtain ⟨v', h3, h4⟩ := ha.2 1 _ _ rfl
      rw [if_pos rfl] at h2
      rw [if_neg Bool.false_ne_true] at h4
      have hlen := ha.1
      match vs, hlen, h1, h3 with
      | [u, u'], _, h1, h3 =>
        simp at h1 h3
        subst h1 h3
        have e := (Rep1.of h4).int_
        subst e
        obtain ⟨a, b, rfl, ab, wa, wb, haa, hbb⟩ := h2
        simp only [gBelow] at q
        split at q
        · rename_i d o out m' hq
          split at hq
          · rename_i hg
            cases hq
            exact ⟨W, cells, x, y, z, many, a, b, rfl, ab, wa, wb, haa, hbb, nt, hw, tab, hg, q⟩
          · cases hq
        · rename_i hq
          split at hq <;> cases hq
        · exact q.elim
  refine fn_of (CX := L2N.CX P w) lk hcd S (fun vs H Q E h => ?_) (fun A outer s H vs Q E hr h => ?_)
  · obtain ⟨_, _, _, _, _, _, _, _, rfl, _⟩ := form h
    rfl
  obtain ⟨W, cells, x, y, z, many, a, b, rfl, ab, wa, wb, haa, hbb, nt, hw, tab, ⟨g1, g2, g3, g4, g5, g6, g7⟩, q⟩ := form h
  let X := cxOf (L2N.CX P w) P w K mg base [("stream" : Str), ("many" : Str), ("cell" : Str), ("digit" : Str), ("mixed" : Str)] qual scope f cdv A outer s H E
  have B : BelowCx X := ⟨rfl, hv, gi, mi, passes_of rfl, by have := hr.un; show (A.deeper _).units + 64 < _; omega⟩
  refine ⟨_, pss_below B hl, ?_⟩
  refine below_run (H0 := H) ab g1 g2 g3 g4 g5 g6 g7 ⟨haa, hbb, fun _ _ _ _ e => e⟩ fun H' B' => ?_
  have na : ∀ {c}, W c ≠ some (.s 0) → c ≠ a ∧ c ≠ b := fun {c} n => ⟨fun z => n (by rw [z]; exact wa), fun z => n (by rw [z]; exact wb)⟩
  have gg : Go W H (fun c => if H c = none then none else W c) H' :=
    { keep := fun c o e w => by
        obtain ⟨n1, n2⟩ := na (c := c) (by rcases w with w | w <;> rw [w] <;> simp)
        exact B'.rest c o n1 n2 e
      dom := fun c e => by
        by_cases n1 : c = a
        · rw [n1, B'.at_]; exact fun z => nomatch z
        · by_cases n2 : c = b
          · rw [n2, B'.bt]; exact fun z => nomatch z
          · cases e5 : H c with
            | none => exact absurd e5 e
            | some o => rw [B'.rest c o n1 n2 e5]; exact fun z => nomatch z
      less := fun c w _ => by
        show (if H c = none then none else W c) = none
        split
        · rfl
        · exact w
      far := fun c w e => by
        show (if H c = none then none else W c) = _
        rw [if_neg e]; exact w
      own := fun c o e => by
        have e : (if H c = none then none else W c) = some o := e
        split at e
        · cases e
        · exact .inl e }
  refine q (.int _) _ H' ⟨gg, fun j hj => ?_, fun z => (by cases z), fun c j e => ?_, fun p hp => ?_⟩ (set_val (fun c e => ?_) (.int _))
  · cases hj
    exact ⟨_, .ref a, rfl, rfl, a, b, rfl, ab, by show (if H a = none then none else W a) = _; rw [if_neg (by rw [haa]; exact fun z => nomatch z)]; exact wa, by show (if H b = none then none else W b) = _; rw [if_neg (by rw [hbb]; exact fun z => nomatch z)]; exact wb, B'.at_, B'.bt⟩
  · have e : (if H c = none then none else W c) = some (.s j) := e
    split at e
    · cases e
    · exact hw c j e
  · have kp : ∀ c o, H c = some o → W c ≠ some (.s 0) → H' c = some o ∧ (if H c = none then none else W c) = W c := fun c o e n => by
      obtain ⟨n1, n2⟩ := na n
      exact ⟨B'.rest c o n1 n2 e, if_neg (by rw [e]; exact fun z => nomatch z)⟩
    obtain ⟨w, ps, h1, h2, h3⟩ := tab p hp
    obtain ⟨k1, k2⟩ := kp _ _ h1 (by rw [w]; simp)
    refine ⟨k2.trans w, ps, k1, h2, fun pos cv hc => ?_⟩
    obtain ⟨c, e, b1, b2⟩ := h3 pos cv hc
    obtain ⟨k3, k4⟩ := kp _ _ b1 (by rw [b2]; simp)
    exact ⟨c, e, k3, k4.trans b2⟩
  · have e : (if H c = none then none else W c) = some .t := e
    split at e
    · cases e
    · exact nt c e
end PT

set_option Elab.async false
set_option linter.all false
set_option maxRecDepth 100000
set_option maxHeartbeats 1000000
/-! PTz: slots that a text never looks at. -/
namespace PT
open PySem
/-- the slots F filled by v -/
def fill (F : List Nat) (v : Nat → Option (D × Bool)) (e : Slots) : Slots := e.mapIdx fun i x => if i ∈ F then v i else x
/-- the slots F are empty -/
def emp (F : List Nat) (e : Slots) : Prop := ∀ i x, e[i]? = some (some x) → i ∉ F
section
variable {F : List Nat} {v : Nat → Option (D × Bool)}
theorem fill_get {e : Slots} {i : Nat} (h : i ∉ F) : (fill F v e)[i]? = e[i]? := by
  unfold fill
  rw [List.getElem?_mapIdx]
  simp [h]
theorem fill_some {e : Slots} (he : emp F e) {i : Nat} {x : D × Bool} (h : e[i]? = some (some x)) : (fill F v e)[i]? = some (some x) := by rw [fill_get (he i x h)]; exact h
theorem fill_set {e : Slots} {i : Nat} {x : Option (D × Bool)} (h : i ∉ F) : (fill F v e).set i x = fill F v (e.set i x) := by
  apply List.ext_getElem?
  intro j
  unfold fill
  rw [List.getElem?_set, List.getElem?_mapIdx, List.getElem?_mapIdx, List.getElem?_set, List.length_mapIdx]
  by_cases hj : i = j
  · subst hj
    simp only [if_true]
    split <;> simp [h]
  · simp [hj]
theorem emp_set {e : Slots} (he : emp F e) {i : Nat} {x : Option (D × Bool)} (h : i ∉ F) : emp F (e.set i x) := fun j y hy => by
  rw [List.getElem?_set] at hy
  split at hy
  · rename_i e1; rw [← e1]; exact h
  · exact he j y hy
def fl (F : List Nat) (v : Nat → Option (D × Bool)) (s : Sta) : Sta := ⟨fill F v s.e, s.m⟩
theorem slotD_fill {e : Slots} (he : emp F e) {i : Nat} {d : D} (h : slotD e i = some d) : slotD (fill F v e) i = some d := by
  unfold slotD at h ⊢
  split at h
  · rename_i d' o hd
    rw [fill_some he hd]; exact h
  · cases h
theorem getL_fill {e : Slots} (he : emp F e) : ∀ {ps : List Arg} {ds : List D}, getL e ps = some ds → getL (fill F v e) ps = some ds
  | [], ds, h => h
  | p :: ps, ds, h => by
    simp only [getL] at h ⊢
    cases hp : p.get e with
    | none => rw [hp] at h; cases h
    | some d =>
      rw [hp] at h
      have : p.get (fill F v e) = some d := by
        cases p with
        | v i => exact slotD_fill he hp
        | d x => exact hp
      rw [this]
      cases hr : getL e ps with
      | none => rw [hr] at h; cases h
      | some ds' => rw [hr] at h; rw [getL_fill he hr]; exact h
/-- the same with the slots filled -/
def Fr {α : Type} (F : List Nat) (v : Nat → Option (D × Bool)) (r r' : R α) : Prop := match r with
  | .ok a s => emp F s.e ∧ r' = .ok a (fl F v s)
  | .exc x ds s => emp F s.e ∧ r' = .exc x ds (fl F v s)
  | .bad => True
theorem Fr.bind {α β : Type} {r r' : R α} {f f' : α → Sta → R β} (h : Fr F v r r') (k : ∀ a s, emp F s.e → Fr F v (f a s) (f' a (fl F v s))) : Fr F v (r.bind f) (r'.bind f') := by
  cases r with
  | ok a s => obtain ⟨h1, rfl⟩ := h; exact k a s h1
  | exc x ds s => obtain ⟨h1, rfl⟩ := h; exact ⟨h1, rfl⟩
  | bad => trivial
theorem Fr.test {β : Type} {r r' : R (D × Bool)} {f f' : Bool → Sta → R β} (h : Fr F v r r') (k : ∀ a s, emp F s.e → Fr F v (f a s) (f' a (fl F v s))) : Fr F v (r.test f) (r'.test f') := by
  cases r with
  | ok a s =>
    obtain ⟨h1, rfl⟩ := h
    obtain ⟨d, o⟩ := a
    simp only [R.test]
    cases asB d with
    | none => trivial
    | some b => exact k b s h1
  | exc x ds s => obtain ⟨h1, rfl⟩ := h; exact ⟨h1, rfl⟩
  | bad => trivial
theorem Fr.fin {t : Bool} {r r' : R (D × Bool)} (h : Fr F v r r') : Fr F v (PT.fin t r) (PT.fin t r') := by
  cases t with
  | false => cases r <;> (first | exact h | skip)
  | true =>
    cases r with
    | ok a s =>
      obtain ⟨h1, rfl⟩ := h
      obtain ⟨d, o⟩ := a
      simp only [PT.fin]
      cases d.truth with
      | none => trivial
      | some b => exact ⟨h1, rfl⟩
    | exc x ds s => obtain ⟨h1, rfl⟩ := h; exact ⟨h1, rfl⟩
    | bad => trivial
theorem Fr.ok {α : Type} {a : α} {s : Sta} (h : emp F s.e) : Fr F v (.ok a s) (.ok a (fl F v s)) := ⟨h, rfl⟩
theorem Fr.bad {α : Type} {r' : R α} : Fr F v .bad r' := trivial
theorem owned_fill {e : Slots} {i : Nat} (h : i ∉ F) : owned (fill F v e) i = owned e i := by unfold owned; rw [fill_get h]
def dis (F own : List Nat) : Bool := own.all fun i => decide (i ∉ F)
theorem dis_at {own : List Nat} (h : dis F own = true) : ∀ i ∈ own, i ∉ F := fun i hi => of_decide_eq_true (List.all_eq_true.mp h i hi)
theorem any_fill {e : Slots} {own : List Nat} (h : ∀ i ∈ own, i ∉ F) : own.any (owned (fill F v e)) = own.any (owned e) := by
  induction own with
  | nil => rfl
  | cons i r ih =>
    rw [List.any_cons, List.any_cons, owned_fill (h i List.mem_cons_self), ih fun j hj => h j (List.mem_cons_of_mem _ hj)]
theorem wipe_fill {e : Slots} {own : List Nat} (h : ∀ i ∈ own, i ∉ F) : wipeE (fill F v e) own = fill F v (wipeE e own) := by
  induction own with
  | nil => rfl
  | cons i r ih => simp only [wipeE]; rw [ih fun j hj => h j (List.mem_cons_of_mem _ hj), fill_set (h i List.mem_cons_self)]
theorem emp_wipe {e : Slots} (he : emp F e) {own : List Nat} (h : ∀ i ∈ own, i ∉ F) : emp F (wipeE e own) := by
  induction own with
  | nil => exact he
  | cons i r ih => exact emp_set (ih fun j hj => h j (List.mem_cons_of_mem _ hj)) (h i List.mem_cons_self)
theorem back_fill {e0 e : Slots} {own : List Nat} (h : ∀ i ∈ own, i ∉ F) : backE (fill F v e0) (fill F v e) own = fill F v (backE e0 e own) := by
  induction own with
  | nil => rfl
  | cons i r ih =>
    have hi := h i List.mem_cons_self
    simp only [backE]
    rw [ih fun j hj => h j (List.mem_cons_of_mem _ hj), fill_set hi]
    have : (fill F v e0).getD i none = e0.getD i none := by rw [List.getD_eq_getElem?_getD, List.getD_eq_getElem?_getD, fill_get hi]
    rw [this]
theorem emp_back {e0 e : Slots} (he : emp F e) {own : List Nat} (h : ∀ i ∈ own, i ∉ F) : emp F (backE e0 e own) := by
  induction own with
  | nil => exact he
  | cons i r ih => exact emp_set (ih fun j hj => h j (List.mem_cons_of_mem _ hj)) (h i List.mem_cons_self)
theorem foldl_fill : ∀ (l : List (Nat × D)) {e : Slots}, (∀ p ∈ l, p.1 ∉ F) → emp F e → (l.foldl (fun e p => e.set p.1 (some (p.2, false))) (fill F v e) = fill F v (l.foldl (fun e p => e.set p.1 (some (p.2, false))) e)) ∧ emp F (l.foldl (fun e p => e.set p.1 (some (p.2, false))) e)
  | [], e, _, he => ⟨rfl, he⟩
  | p :: l, e, h, he => by
    have hp := h p List.mem_cons_self
    simp only [List.foldl_cons]
    rw [fill_set hp]
    exact foldl_fill l (fun q hq => h q (List.mem_cons_of_mem _ hq)) (emp_set he hp)
theorem assign_fill {tg : List Nat} {one : Bool} {d : D} {e e1 : Slots} (h : ∀ i ∈ tg, i ∉ F) (he : emp F e) (ha : assignT tg one d e = some e1) : assignT tg one d (fill F v e) = some (fill F v e1) ∧ emp F e1 := by
  unfold assignT at ha ⊢
  cases one with
  | true =>
    rw [if_pos rfl] at ha ⊢
    match tg, h, ha with
    | [i], h, ha =>
      cases ha
      have hi := h i List.mem_cons_self
      exact ⟨(by show some ((fill F v e).set i _) = _; rw [fill_set hi]), emp_set he hi⟩
  | false =>
    rw [if_neg Bool.false_ne_true] at ha ⊢
    cases d <;> simp only at ha <;> try contradiction
    rename_i ds
    by_cases hl : ds.length = tg.length
    · rw [if_pos hl] at ha
      cases ha
      obtain ⟨h1, h2⟩ := foldl_fill (v := v) (tg.zip ds) (fun p hp => h p.1 (List.of_mem_zip hp).1) he
      simp only [if_pos hl, h1]
      exact ⟨trivial, h2⟩
    · rw [if_neg hl] at ha; cases ha
/-! ### expressions -/
mutual
def okC (F : List Nat) : C → Bool
  | .mkT es => okCL F es
  | .mkL es => okCL F es
  | .op _ es => okCL F es
  | .and a b => okC F a && okC F b
  | .or a b => okC F a && okC F b
  | .not a => okC F a
  | .ite c a b => okC F c && okC F a && okC F b
  | .chain _ _ a b c => okC F a && okC F b && okC F c
  | .lc own tg _ it cond e => dis F own && dis F tg && okI F it && okCL F cond && okC F e
  | .call _ es => okCL F es
  | _ => true
def okCL (F : List Nat) : CL → Bool
  | .nil => true
  | .cons c r => okC F c && okCL F r
def okI (F : List Nat) : IT → Bool
  | .val c => okC F c
  | .range c => okC F c
  | .zip a b => okC F a && okC F b
  | .enum a => okC F a
end
theorem lcGo_fill {own tg : List Nat} {one : Bool} (ho : ∀ i ∈ own, i ∉ F) (ht : ∀ i ∈ tg, i ∉ F) {cond : Sta → R Bool} {e : Sta → R (D × Bool)} (hc : ∀ s, emp F s.e → Fr F v (cond s) (cond (fl F v s))) (he : ∀ s, emp F s.e → Fr F v (e s) (e (fl F v s))) :
    ∀ (ds acc : List D) (s : Sta), emp F s.e → Fr F v (lcGo own tg one cond e ds acc s) (lcGo own tg one cond e ds acc (fl F v s))
  | [], acc, s, h => ⟨h, rfl⟩
  | d :: ds, acc, s, h => by
    simp only [lcGo]
    cases ha : assignT tg one d s.e with
    | none => trivial
    | some e1 =>
      obtain ⟨a1, a2⟩ := assign_fill (v := v) ht h ha
      have a1' : assignT tg one d (fl F v s).e = some (fill F v e1) := a1
      rw [a1']
      dsimp only
      have h2 := hc { s with e := e1 } a2
      have e2 : ({ fl F v s with e := fill F v e1 } : Sta) = fl F v { s with e := e1 } := rfl
      rw [e2]
      cases hcd : cond { s with e := e1 } with
      | bad => trivial
      | exc x ds s2 => trivial
      | ok b s2 =>
        rw [hcd] at h2
        obtain ⟨h3, h4⟩ := h2
        rw [h4]
        cases b with
        | false =>
          dsimp only
          have := lcGo_fill (one := one) ho ht hc he ds acc { s2 with e := wipeE s2.e own } (emp_wipe h3 ho)
          have e3 : ({ fl F v s2 with e := wipeE (fl F v s2).e own } : Sta) = fl F v { s2 with e := wipeE s2.e own } := by
            show Sta.mk _ _ = Sta.mk _ _
            rw [show wipeE (fl F v s2).e own = fill F v (wipeE s2.e own) from wipe_fill ho]
            rfl
          rw [e3]; exact this
        | true =>
          dsimp only
          have h5 := he s2 h3
          cases hev : e s2 with
          | bad => trivial
          | exc x ds s3 => trivial
          | ok y s3 =>
            rw [hev] at h5
            obtain ⟨h6, h7⟩ := h5
            rw [h7]
            obtain ⟨y, o⟩ := y
            dsimp only
            split
            · have := lcGo_fill (one := one) ho ht hc he ds (acc ++ [y]) { s3 with e := wipeE s3.e own } (emp_wipe h6 ho)
              have e3 : ({ fl F v s3 with e := wipeE (fl F v s3).e own } : Sta) = fl F v { s3 with e := wipeE s3.e own } := by
                show Sta.mk _ _ = Sta.mk _ _
                rw [show wipeE (fl F v s3).e own = fill F v (wipeE s3.e own) from wipe_fill ho]
                rfl
              rw [e3]; exact this
            · trivial
theorem args_fill {e : Slots} (he : emp F e) : ∀ {as : List (D ⊕ Nat)} {ds : List (D × Bool)}, argsOf e as = some ds → argsOf (fill F v e) as = some ds ∧ ∀ i ∈ lents as, i ∉ F
  | [], ds, h => ⟨h, fun i hi => by cases hi⟩
  | .inl d :: r, ds, h => by
    simp only [argsOf] at h ⊢
    cases hr : argsOf e r with
    | none => rw [hr] at h; cases h
    | some ds' =>
      rw [hr] at h
      obtain ⟨a, b⟩ := args_fill he hr
      rw [a]; exact ⟨h, b⟩
  | .inr i :: r, ds, h => by
    simp only [argsOf] at h ⊢
    split at h
    · rename_i d hd
      rw [fill_some he hd]
      cases hr : argsOf e r with
      | none => rw [hr] at h; cases h
      | some ds' =>
        rw [hr] at h
        obtain ⟨a, b⟩ := args_fill he hr
        rw [a]
        refine ⟨h, fun j hj => ?_⟩
        rcases List.mem_cons.mp hj with rfl | hj
        · exact he _ _ hd
        · exact b j hj
    · cases h
theorem out_fill {e e1 : Slots} (he : emp F e) {ls : List Nat} (hl : ∀ i ∈ ls, i ∉ F) {out : Option D} (h : setOut e ls out = some e1) : setOut (fill F v e) ls out = some (fill F v e1) ∧ emp F e1 := by
  unfold setOut at h ⊢
  match ls, out, hl, h with
  | [], none, _, h => cases h; exact ⟨rfl, he⟩
  | [i], some d, hl, h =>
    cases h
    have hi := hl i List.mem_cons_self
    exact ⟨(by show some ((fill F v e).set i _) = _; rw [fill_set hi]), emp_set he hi⟩
theorem caps_fill : ∀ {caps : List Nat} {e e1 : Slots} {ds : List D}, emp F e → capsE e caps = some (ds, e1) → capsE (fill F v e) caps = some (ds, fill F v e1) ∧ emp F e1
  | [], e, e1, ds, he, h => by simp only [capsE, Option.some.injEq, Prod.mk.injEq] at h; obtain ⟨rfl, rfl⟩ := h; exact ⟨rfl, he⟩
  | i :: r, e, e1, ds, he, h => by
    simp only [capsE] at h ⊢
    split at h
    · rename_i d o hd
      have hi := he _ _ hd
      rw [fill_some he hd]
      dsimp only
      rw [fill_set hi]
      split at h
      · rename_i ds' e' hr
        simp only [Option.some.injEq, Prod.mk.injEq] at h
        obtain ⟨rfl, rfl⟩ := h
        obtain ⟨a, b⟩ := caps_fill (emp_set he hi) hr
        rw [a]; exact ⟨rfl, b⟩
      · cases h
    · cases h
variable {call : CallF} {io : Nat → Option Nat}
theorem evF_consC (l : Option Nat) (j : Nat) (c : C) (r : CL) (s : Sta) : evF call io l j (.cons c r) s = if l = some j then match c with
      | .var i => match slotD s.e i with
        | some _ => (evF call io l (j + 1) r s).bind fun as s2 => .ok (.inr i :: as) s2
        | none => .bad
      | _ => .bad
    else (evC call io false c s).bind fun d s1 => (evF call io l (j + 1) r s1).bind fun as s2 => .ok (.inl d.1 :: as) s2 := by
  first
  | (simp only [evF]; done)
  | (simp only [evF]
     split
     · cases c <;> rfl
     · rfl)
mutual
theorem frC : ∀ (c : C), okC F c = true → ∀ (t : Bool) (s : Sta), emp F s.e → Fr F v (evC call io t c s) (evC call io t c (fl F v s))
  | .bad, _, t, s, h => by cases t <;> trivial
  | .var i, _, true, s, h => by
    simp only [evC]
    cases hd : slotD s.e i with
    | none => trivial
    | some d =>
      rw [show slotD (fl F v s).e i = some d from slotD_fill h hd]
      dsimp only
      cases d.truth with
      | none => trivial
      | some b => exact ⟨h, rfl⟩
  | .var i, _, false, s, h => by
    simp only [evC]
    cases hd : s.e[i]? with
    | none => trivial
    | some x =>
      cases x with
      | none => trivial
      | some x =>
        obtain ⟨d, o⟩ := x
        have hi := h i _ hd
        rw [show (fl F v s).e[i]? = some (some (d, o)) from fill_some h hd]
        refine ⟨emp_set h hi, ?_⟩
        show R.ok _ (Sta.mk _ _) = R.ok _ (Sta.mk _ _)
        rw [show (fl F v s).e.set i (some (d, false)) = fill F v (s.e.set i (some (d, false))) from fill_set hi]
        rfl
  | .con d, _, t, s, h => Fr.fin ⟨h, rfl⟩
  | .mkT es, hk, t, s, h => Fr.fin (Fr.bind (frV es hk s h) fun ds s1 h1 => by split <;> first | exact ⟨h1, rfl⟩ | trivial)
  | .mkL es, hk, t, s, h => Fr.fin (Fr.bind (frV es hk s h) fun ds s1 h1 => by split <;> first | exact ⟨h1, rfl⟩ | trivial)
  | .op o es, hk, t, s, h => Fr.fin (Fr.bind (frP es hk s h) fun ps s1 h1 => by
      cases hg : getL s1.e ps with
      | none => trivial
      | some ds =>
        rw [show getL (fl F v s1).e ps = some ds from getL_fill h1 hg]
        dsimp only
        cases opEv o ds with
        | none => trivial
        | some d => exact ⟨h1, rfl⟩)
  | .and a b, hk, t, s, h => by
    unfold okC at hk
    rw [Bool.and_eq_true] at hk
    have e1 : ∀ s, evC call io t (.and a b) s = (evC call io t a s).test fun x s1 => if x then evC call io t b s1 else .ok (.bl false, false) s1 := fun s => by cases t <;> rfl
    rw [e1, e1]
    exact Fr.test (frC a hk.1 t s h) fun x s1 h1 => by
      cases x with
      | true => exact frC b hk.2 t s1 h1
      | false => exact ⟨h1, rfl⟩
  | .or a b, hk, t, s, h => by
    unfold okC at hk
    rw [Bool.and_eq_true] at hk
    have e1 : ∀ s, evC call io t (.or a b) s = (evC call io t a s).test fun x s1 => if x then .ok (.bl true, false) s1 else evC call io t b s1 := fun s => by cases t <;> rfl
    rw [e1, e1]
    exact Fr.test (frC a hk.1 t s h) fun x s1 h1 => by
      cases x with
      | true => exact ⟨h1, rfl⟩
      | false => exact frC b hk.2 t s1 h1
  | .not a, hk, true, s, h => by
    unfold okC at hk
    simp only [evC]
    exact Fr.test (frC a hk true s h) fun x s1 h1 => ⟨h1, rfl⟩
  | .not a, hk, false, s, h => by
    unfold okC at hk
    simp only [evC]
    exact Fr.bind (frC a hk false s h) fun d s1 h1 => by
      cases d.1.truth with
      | none => trivial
      | some b => exact ⟨h1, rfl⟩
  | .ite c a b, hk, t, s, h => by
    unfold okC at hk
    rw [Bool.and_eq_true, Bool.and_eq_true] at hk
    have e1 : ∀ s, evC call io t (.ite c a b) s = (evC call io true c s).test fun x s1 => if x then evC call io t a s1 else evC call io t b s1 := fun s => by cases t <;> rfl
    rw [e1, e1]
    exact Fr.test (frC c hk.1.1 true s h) fun x s1 h1 => by
      cases x with
      | true => exact frC a hk.1.2 t s1 h1
      | false => exact frC b hk.2 t s1 h1
  | .chain o p a b c, hk, t, s, h => by
    unfold okC at hk
    rw [Bool.and_eq_true, Bool.and_eq_true] at hk
    refine Fr.fin (Fr.bind (frC a hk.1.1 false s h) fun x s1 h1 => Fr.bind (frC b hk.1.2 false s1 h1) fun y s2 h2 => ?_)
    split
    · refine Fr.bind (frC c hk.2 false s2 h2) fun z s3 h3 => ?_
      split
      · exact ⟨h3, rfl⟩
      · trivial
    · exact ⟨h2, rfl⟩
    · trivial
  | .lc own tg one it cond e, hk, t, s, h => by
    unfold okC at hk
    simp only [Bool.and_eq_true] at hk
    obtain ⟨⟨⟨⟨h1, h2⟩, h3⟩, h4⟩, h5⟩ := hk
    have ho := dis_at h1
    have e1 : ∀ s, evC call io t (.lc own tg one it cond e) s = if own.any (owned s.e) then .bad else PT.fin t ((evI call io it s).bind fun ds s1 => if own.any (owned s1.e) then .bad else
      (lcGo own tg one (evA call io cond) (evC call io false e) ds [] { s1 with e := wipeE s1.e own }).bind fun ys s2 => .ok (.lst ys, true) { s2 with e := backE s1.e s2.e own }) := fun s => by cases t <;> rfl
    rw [e1, e1]
    rw [show own.any (owned (fl F v s).e) = own.any (owned s.e) from any_fill ho]
    split
    · trivial
    refine Fr.fin (Fr.bind (frI it h3 s h) fun ds s1 k1 => ?_)
    rw [show own.any (owned (fl F v s1).e) = own.any (owned s1.e) from any_fill ho]
    split
    · trivial
    have g := lcGo_fill (v := v) (one := one) ho (dis_at h2) (fun s hs => frA cond h4 s hs) (fun s hs => frC e h5 false s hs) ds [] { s1 with e := wipeE s1.e own } (emp_wipe k1 ho)
    have e3 : ({ fl F v s1 with e := wipeE (fl F v s1).e own } : Sta) = fl F v { s1 with e := wipeE s1.e own } := by
      show Sta.mk _ _ = Sta.mk _ _
      rw [show wipeE (fl F v s1).e own = fill F v (wipeE s1.e own) from wipe_fill ho]
      rfl
    rw [e3]
    refine Fr.bind g fun ys s2 k2 => ⟨emp_back k2 ho, ?_⟩
    show R.ok _ (Sta.mk _ _) = R.ok _ (Sta.mk _ _)
    rw [show backE (fl F v s1).e (fl F v s2).e own = fill F v (backE s1.e s2.e own) from back_fill ho]
    rfl
  | .call f es, hk, t, s, h => by
    refine Fr.fin (Fr.bind (frF es hk (io f) 0 s h) fun as s1 h1 => ?_)
    cases ha : argsOf s1.e as with
    | none => trivial
    | some ds =>
      obtain ⟨a1, a2⟩ := args_fill (v := v) h1 ha
      rw [show argsOf (fl F v s1).e as = some ds from a1]
      show Fr F v (match call f ds s1.m with | .ok d o out m => _ | .exc x ds out m => _ | .bad => _) (match call f ds s1.m with | .ok d o out m => _ | .exc x ds out m => _ | .bad => _)
      cases call f ds s1.m with
      | bad => trivial
      | ok d o out m =>
        dsimp only
        cases hs : setOut s1.e (lents as) out with
        | none => trivial
        | some e1 =>
          obtain ⟨b1, b2⟩ := out_fill (v := v) h1 a2 hs
          rw [show setOut (fl F v s1).e (lents as) out = some (fill F v e1) from b1]
          exact ⟨b2, rfl⟩
      | exc x ds' out m =>
        dsimp only
        cases hs : setOut s1.e (lents as) out with
        | none => trivial
        | some e1 =>
          obtain ⟨b1, b2⟩ := out_fill (v := v) h1 a2 hs
          rw [show setOut (fl F v s1).e (lents as) out = some (fill F v e1) from b1]
          exact ⟨b2, rfl⟩
  | .callL f b caps, hk, t, s, h => by
    refine Fr.fin ?_
    cases hc : capsE s.e caps with
    | none => trivial
    | some de =>
      obtain ⟨ds, e1⟩ := de
      obtain ⟨a1, a2⟩ := caps_fill (v := v) h hc
      rw [show capsE (fl F v s).e caps = some (ds, fill F v e1) from a1]
      show Fr F v (match call f [(.clo b ds, false)] s.m with | .ok d o none m => _ | .exc x ds none m => _ | _ => _) (match call f [(.clo b ds, false)] s.m with | .ok d o none m => _ | .exc x ds none m => _ | _ => _)
      cases call f [(.clo b ds, false)] s.m with
      | bad => trivial
      | ok d o out m =>
        cases out with
        | some z => trivial
        | none => dsimp only; split <;> first | exact ⟨a2, rfl⟩ | trivial
      | exc x ds' out m =>
        cases out with
        | some z => trivial
        | none => dsimp only; split <;> first | exact ⟨a2, rfl⟩ | trivial
theorem frA : ∀ (c : CL), okCL F c = true → ∀ (s : Sta), emp F s.e → Fr F v (evA call io c s) (evA call io c (fl F v s))
  | .nil, _, s, h => ⟨h, rfl⟩
  | .cons c r, hk, s, h => by
    unfold okCL at hk
    rw [Bool.and_eq_true] at hk
    exact Fr.test (frC c hk.1 true s h) fun x s1 h1 => by
      cases x with
      | true => exact frA r hk.2 s1 h1
      | false => exact ⟨h1, rfl⟩
theorem frV : ∀ (c : CL), okCL F c = true → ∀ (s : Sta), emp F s.e → Fr F v (evV call io c s) (evV call io c (fl F v s))
  | .nil, _, s, h => ⟨h, rfl⟩
  | .cons c r, hk, s, h => by
    unfold okCL at hk
    rw [Bool.and_eq_true] at hk
    exact Fr.bind (frC c hk.1 false s h) fun d s1 h1 => Fr.bind (frV r hk.2 s1 h1) fun ds s2 h2 => ⟨h2, rfl⟩
theorem frP : ∀ (c : CL), okCL F c = true → ∀ (s : Sta), emp F s.e → Fr F v (evP call io c s) (evP call io c (fl F v s))
  | .nil, _, s, h => ⟨h, rfl⟩
  | .cons c r, hk, s, h => by
    unfold okCL at hk
    rw [Bool.and_eq_true] at hk
    rw [evP_cons, evP_cons]
    refine Fr.bind ?_ fun p s1 h1 => Fr.bind (frP r hk.2 s1 h1) fun ps s2 h2 => ⟨h2, rfl⟩
    have gen : Fr F v ((evC call io false c s).bind fun d s1 => R.ok (Arg.d d.1) s1) ((evC call io false c (fl F v s)).bind fun d s1 => R.ok (Arg.d d.1) s1) := Fr.bind (frC c hk.1 false s h) fun d s1 h1 => ⟨h1, rfl⟩
    cases c <;> first | exact gen | skip
    rename_i i
    simp only [evP1]
    cases hd : slotD s.e i with
    | none => trivial
    | some d =>
      rw [show slotD (fl F v s).e i = some d from slotD_fill h hd]
      exact ⟨h, rfl⟩
theorem frF : ∀ (c : CL), okCL F c = true → ∀ (l : Option Nat) (j : Nat) (s : Sta), emp F s.e → Fr F v (evF call io l j c s) (evF call io l j c (fl F v s))
  | .nil, _, l, j, s, h => ⟨h, rfl⟩
  | .cons c r, hk, l, j, s, h => by
    unfold okCL at hk
    rw [Bool.and_eq_true] at hk
    rw [evF_consC, evF_consC]
    by_cases hj : l = some j
    · rw [if_pos hj, if_pos hj]
      cases c <;> try trivial
      rename_i i
      dsimp only
      cases hd : slotD s.e i with
      | none => trivial
      | some d =>
        rw [show slotD (fl F v s).e i = some d from slotD_fill h hd]
        exact Fr.bind (frF r hk.2 l (j + 1) s h) fun as s2 h2 => ⟨h2, rfl⟩
    · rw [if_neg hj, if_neg hj]
      exact Fr.bind (frC c hk.1 false s h) fun d s1 h1 => Fr.bind (frF r hk.2 l (j + 1) s1 h1) fun as s2 h2 => ⟨h2, rfl⟩
theorem frI : ∀ (c : IT), okI F c = true → ∀ (s : Sta), emp F s.e → Fr F v (evI call io c s) (evI call io c (fl F v s))
  | .val c, hk, s, h => by
    unfold okI at hk
    exact Fr.bind (frC c hk false s h) fun d s1 h1 => by split <;> first | exact ⟨h1, rfl⟩ | trivial
  | .range c, hk, s, h => by
    unfold okI at hk
    exact Fr.bind (frC c hk false s h) fun d s1 h1 => by
      split
      · split <;> first | exact ⟨h1, rfl⟩ | trivial
      · trivial
  | .zip a b, hk, s, h => by
    unfold okI at hk
    rw [Bool.and_eq_true] at hk
    exact Fr.bind (frC a hk.1 false s h) fun d s1 h1 => Fr.bind (frC b hk.2 false s1 h1) fun y s2 h2 => by
      split
      · split <;> first | exact ⟨h2, rfl⟩ | trivial
      · split <;> first | exact ⟨h2, rfl⟩ | trivial
      · trivial
  | .enum a, hk, s, h => by
    unfold okI at hk
    exact Fr.bind (frC a hk false s h) fun d s1 h1 => by split <;> first | exact ⟨h1, rfl⟩ | trivial
end
/-! ### statements -/
def FrS (F : List Nat) (v : Nat → Option (D × Bool)) (r r' : RS) : Prop := match r with
  | .nx s => emp F s.e ∧ r' = .nx (fl F v s)
  | .rt d o s => emp F s.e ∧ r' = .rt d o (fl F v s)
  | .bk s => emp F s.e ∧ r' = .bk (fl F v s)
  | .ct s => emp F s.e ∧ r' = .ct (fl F v s)
  | .exc x ds s => emp F s.e ∧ r' = .exc x ds (fl F v s)
  | .bad => True
mutual
def okS (F : List Nat) : S → Bool
  | .asg i c => decide (i ∉ F) && okC F c
  | .ifs c a b => okC F c && okSL F a && okSL F b
  | .whil c b => okC F c && okSL F b
  | .forr tg _ it b => dis F tg && okI F it && okSL F b
  | .ret c => okC F c
  | .expr c => okC F c
  | .rais _ es => okCL F es
  | _ => true
def okSL (F : List Nat) : SL → Bool
  | .nil => true
  | .cons a r => okS F a && okSL F r
end
theorem FrS.st {α : Type} {r r' : R α} {f f' : α → Sta → RS} (h : Fr F v r r') (k : ∀ a s, emp F s.e → FrS F v (f a s) (f' a (fl F v s))) : FrS F v (r.st f) (r'.st f') := by
  cases r with
  | ok a s => obtain ⟨h1, rfl⟩ := h; exact k a s h1
  | exc x ds s => obtain ⟨h1, rfl⟩ := h; exact ⟨h1, rfl⟩
  | bad => trivial
theorem while_fill {c : Sta → R (D × Bool)} {b : Sta → RS} (hc : ∀ s, emp F s.e → Fr F v (c s) (c (fl F v s))) (hb : ∀ s, emp F s.e → FrS F v (b s) (b (fl F v s))) : ∀ (n : Nat) (s : Sta), emp F s.e → FrS F v (whileN c b n s) (whileN c b n (fl F v s))
  | 0, s, h => trivial
  | n + 1, s, h => by
    simp only [whileN]
    have h1 := hc s h
    cases e : c s with
    | bad => trivial
    | exc x ds s1 => rw [e] at h1; obtain ⟨a, b⟩ := h1; rw [b]; exact ⟨a, rfl⟩
    | ok d s1 =>
      rw [e] at h1
      obtain ⟨a1, a2⟩ := h1
      rw [a2]
      obtain ⟨d, o⟩ := d
      cases d <;> try trivial
      rename_i bb
      cases bb with
      | false => exact ⟨a1, rfl⟩
      | true =>
        dsimp only
        have h2 := hb s1 a1
        cases e2 : b s1 with
        | nx s2 => rw [e2] at h2; obtain ⟨b1, b2⟩ := h2; rw [b2]; exact while_fill hc hb n s2 b1
        | ct s2 => rw [e2] at h2; obtain ⟨b1, b2⟩ := h2; rw [b2]; exact while_fill hc hb n s2 b1
        | bk s2 => rw [e2] at h2; obtain ⟨b1, b2⟩ := h2; rw [b2]; exact ⟨b1, rfl⟩
        | rt d o s2 => rw [e2] at h2; obtain ⟨b1, b2⟩ := h2; rw [b2]; exact ⟨b1, rfl⟩
        | exc x ds s2 => rw [e2] at h2; obtain ⟨b1, b2⟩ := h2; rw [b2]; exact ⟨b1, rfl⟩
        | bad => trivial
theorem for_fill {tg : List Nat} {one : Bool} {b : Sta → RS} (ht : ∀ i ∈ tg, i ∉ F) (hb : ∀ s, emp F s.e → FrS F v (b s) (b (fl F v s))) : ∀ (ds : List D) (s : Sta), emp F s.e → FrS F v (forGo tg one b ds s) (forGo tg one b ds (fl F v s))
  | [], s, h => ⟨h, rfl⟩
  | d :: ds, s, h => by
    simp only [forGo]
    cases ha : assignT tg one d s.e with
    | none => trivial
    | some e1 =>
      obtain ⟨a1, a2⟩ := assign_fill (v := v) ht h ha
      rw [show assignT tg one d (fl F v s).e = some (fill F v e1) from a1]
      dsimp only
      have h2 := hb { s with e := e1 } a2
      have e2 : ({ fl F v s with e := fill F v e1 } : Sta) = fl F v { s with e := e1 } := rfl
      rw [e2]
      cases e3 : b { s with e := e1 } with
      | nx s2 => rw [e3] at h2; obtain ⟨b1, b2⟩ := h2; rw [b2]; exact for_fill ht hb ds s2 b1
      | ct s2 => rw [e3] at h2; obtain ⟨b1, b2⟩ := h2; rw [b2]; exact for_fill ht hb ds s2 b1
      | bk s2 => rw [e3] at h2; obtain ⟨b1, b2⟩ := h2; rw [b2]; exact ⟨b1, rfl⟩
      | rt d o s2 => rw [e3] at h2; obtain ⟨b1, b2⟩ := h2; rw [b2]; exact ⟨b1, rfl⟩
      | exc x ds s2 => rw [e3] at h2; obtain ⟨b1, b2⟩ := h2; rw [b2]; exact ⟨b1, rfl⟩
      | bad => trivial
mutual
theorem frS : ∀ (a : S), okS F a = true → ∀ (s : Sta), emp F s.e → FrS F v (evS call io a s) (evS call io a (fl F v s))
  | .bad, _, s, h => trivial
  | .asg i c, hk, s, h => by
    unfold okS at hk
    rw [Bool.and_eq_true] at hk
    have hi : i ∉ F := of_decide_eq_true hk.1
    refine FrS.st (frC c hk.2 false s h) fun d s1 h1 => ⟨emp_set h1 hi, ?_⟩
    show RS.nx (Sta.mk _ _) = RS.nx (Sta.mk _ _)
    rw [show (fl F v s1).e.set i (some d) = fill F v (s1.e.set i (some d)) from fill_set hi]
    rfl
  | .ifs c a b, hk, s, h => by
    unfold okS at hk
    rw [Bool.and_eq_true, Bool.and_eq_true] at hk
    refine FrS.st (frC c hk.1.1 true s h) fun d s1 h1 => ?_
    split
    · exact frL a hk.1.2 s1 h1
    · exact frL b hk.2 s1 h1
    · trivial
  | .whil c b, hk, s, h => by
    unfold okS at hk
    rw [Bool.and_eq_true] at hk
    exact while_fill (fun s hs => frC c hk.1 true s hs) (fun s hs => frL b hk.2 s hs) turns s h
  | .forr tg one it b, hk, s, h => by
    unfold okS at hk
    rw [Bool.and_eq_true, Bool.and_eq_true] at hk
    exact FrS.st (frI it hk.1.2 s h) fun ds s1 h1 => for_fill (dis_at hk.1.1) (fun s hs => frL b hk.2 s hs) ds s1 h1
  | .ret c, hk, s, h => by
    unfold okS at hk
    have gen : FrS F v ((evC call io false c s).st fun d s1 => .rt d.1 d.2 s1) ((evC call io false c (fl F v s)).st fun d s1 => .rt d.1 d.2 s1) := FrS.st (frC c hk false s h) fun d s1 h1 => ⟨h1, rfl⟩
    cases c <;> first | exact gen | skip
    rename_i i
    simp only [evS]
    cases hd : s.e[i]? with
    | none => trivial
    | some x =>
      cases x with
      | none => trivial
      | some x =>
        obtain ⟨d, o⟩ := x
        have hi := h i _ hd
        rw [show (fl F v s).e[i]? = some (some (d, o)) from fill_some h hd]
        refine ⟨emp_set h hi, ?_⟩
        show RS.rt _ _ (Sta.mk _ _) = RS.rt _ _ (Sta.mk _ _)
        rw [show (fl F v s).e.set i none = fill F v (s.e.set i none) from fill_set hi]
        rfl
  | .expr c, hk, s, h => by
    unfold okS at hk
    exact FrS.st (frC c hk false s h) fun d s1 h1 => ⟨h1, rfl⟩
  | .rais x es, hk, s, h => by
    unfold okS at hk
    exact FrS.st (frV es hk s h) fun d s1 h1 => ⟨h1, rfl⟩
  | .brk, _, s, h => ⟨h, rfl⟩
  | .cont, _, s, h => ⟨h, rfl⟩
  | .pass, _, s, h => ⟨h, rfl⟩
theorem frL : ∀ (a : SL), okSL F a = true → ∀ (s : Sta), emp F s.e → FrS F v (evL call io a s) (evL call io a (fl F v s))
  | .nil, _, s, h => ⟨h, rfl⟩
  | .cons a r, hk, s, h => by
    unfold okSL at hk
    rw [Bool.and_eq_true] at hk
    simp only [evL]
    have h1 := frS a hk.1 s h
    cases e : evS call io a s with
    | nx s1 => rw [e] at h1; obtain ⟨b1, b2⟩ := h1; rw [b2]; exact frL r hk.2 s1 b1
    | ct s2 => rw [e] at h1; obtain ⟨b1, b2⟩ := h1; rw [b2]; exact ⟨b1, rfl⟩
    | bk s2 => rw [e] at h1; obtain ⟨b1, b2⟩ := h1; rw [b2]; exact ⟨b1, rfl⟩
    | rt d o s2 => rw [e] at h1; obtain ⟨b1, b2⟩ := h1; rw [b2]; exact ⟨b1, rfl⟩
    | exc x ds s2 => rw [e] at h1; obtain ⟨b1, b2⟩ := h1; rw [b2]; exact ⟨b1, rfl⟩
    | bad => trivial
end
end
end PT

set_option Elab.async false
set_option linter.all false
set_option maxRecDepth 100000
set_option maxHeartbeats 4000000
/-! PTH: what the head tells, as Bools of the written part. -/
namespace PT
open PySem L2 PySem.Spec PyProof.Rows
open He (eqO eqO_ok ba ga ma)
/-- an own class over ValueError -/
def clsB (K : PySem.W.Frag) (C : Addr) : Bool := match K.lookup C with
  | some ⟨.type "type", _, .cls cd, sl⟩ => (match cd.mro, sl.toList with
    | .ref C' :: bm, [_, _, _, _, some (.builtin n), _] => C' == C && n == "ValueError.__new__" && !cd.hasDel && cd.hasDict && PySem.HandSPX.refsVE bm
    | _, _ => false)
  | _ => false
theorem clsB_ok {K : PySem.W.Frag} {C : Addr} (h : clsB K C = true) : ∃ nm q N bs bm sn sub ab col dd k0 k1 k2 k3 k5, K.lookup C = some (excClassObj nm q C N bs bm true sn sub ab col dd k0 k1 k2 k3 k5 "ValueError.__new__") ∧ PySem.HandSPX.refsVE bm = true := by
  unfold clsB at h
  split at h
  · rename_i dd cd sl ho
    split at h
    · rename_i C' bm k0 k1 k2 k3 n k5 hm hs
      simp only [Bool.and_eq_true, beq_iff_eq, Bool.not_eq_true'] at h
      obtain ⟨⟨⟨⟨rfl, rfl⟩, hdel⟩, hdict⟩, hr⟩ := h
      obtain ⟨nm, bs, mro, ns, qn, hd, sn, sub, ab, col, del⟩ := cd
      dsimp only at hm hdel hdict
      subst hm
      subst hdel
      subst hdict
      have hsl : sl = #[k0, k1, k2, k3, some (.builtin "ValueError.__new__"), k5] := by
        obtain ⟨l⟩ := sl
        simp only at hs
        rw [hs]
      subst hsl
      exact ⟨nm, qn, ns, bs, bm, sn, sub, ab, col, dd, k0, k1, k2, k3, k5, ho, hr⟩
    · cases h
  · cases h
def noKw (K : PySem.W.Frag) (f : Addr) : Bool := match K.lookup f with
  | some ⟨_, _, .func fd, _⟩ => (match fd.kwdefaults with
    | .none => true
    | _ => false)
  | _ => false
def ownB (K : PySem.W.Frag) (f : Str) (C : Addr) : Bool :=
  clsB K C && (eqO (PySem.W.findIn K (.ref C) "__setattr__") (some (some (.builtin "object.__setattr__"))) && (eqO (PySem.W.findIn K (.ref C) "__getattribute__") (some (some (.builtin "BaseException.__getattribute__"))) &&
  (eqO (PySem.W.findIn K (.ref C) "__getattr__") (some none) && (eqO (PySem.W.findIn K (.ref C) f) (some none) && (eqO (PySem.W.findIn K (.ref C) "__init__") (some (some (.ref (ma K C "__init__")))) &&
  (decide (PySem.W.typeIn K (.ref (ma K C "__init__")) = some (.type "function")) && (PySem.W.keepIn K (.ref C) && (decide (PySem.W.subIn K (.ref C) (.type "BaseException") = some true) &&
  (decide (PySem.W.typeIn K (.ref C) = some (.type "type")) && (PySem.W.hasDictIn K C && noKw K (ma K C "__init__")))))))))))
theorem ownB_ok {K : PySem.W.Frag} {f qual : Str} {C : Addr} {fd : FuncData} {p1 p2 q1 q2 q3 q4 : Pos} (h : ownB K f C = true) (F : FunD K "__init__" qual (PTX.iA f p1 p2) (PTX.iB f q1 q2 q3 q4) (PTX.iS f) [] [] (ma K C "__init__") fd) : PySem.PTX.OwnX K f C (ma K C "__init__") := by
  obtain ⟨h1, h⟩ := ba h
  obtain ⟨h2, h⟩ := ba h
  obtain ⟨h3, h⟩ := ba h
  obtain ⟨h4, h⟩ := ba h
  obtain ⟨h5, h⟩ := ba h
  obtain ⟨h6, h⟩ := ba h
  obtain ⟨h7, h⟩ := ba h
  obtain ⟨h8, h⟩ := ba h
  obtain ⟨h9, h⟩ := ba h
  obtain ⟨h10, h⟩ := ba h
  obtain ⟨h11, h12⟩ := ba h
  refine ⟨clsB_ok h1, eqO_ok h2, eqO_ok h3, eqO_ok h4, eqO_ok h5, eqO_ok h6, of_decide_eq_true h7, h8, of_decide_eq_true h9, of_decide_eq_true h10, h11, ?_⟩
  obtain ⟨oc, od, dV, kV, doc, pm, an, cdv, ct, osl, rfl, lk, hcd, hD, hK⟩ := F.ex
  unfold noKw at h12
  rw [lk] at h12
  have hk : kV = .none := by
    cases kV <;> first | rfl | cases h12
  subst hk
  rcases hD with ⟨_, rfl⟩ | ⟨e, _⟩
  · exact ⟨oc, od, qual, doc, pm, an, cdv, ct, osl, p1, p2, q1, q2, q3, q4, lk, hcd⟩
  · exact absurd rfl e
/-- an exception's class, for isinstance -/
def excB (K : PySem.W.Frag) (D : Addr) : Bool :=
  eqO (PySem.W.findIn K (.ref D) "__getattribute__") (some (some (.builtin "BaseException.__getattribute__"))) && (eqO (PySem.W.findIn K (.ref D) "__getattr__") (some none) && (decide (PySem.W.subIn K (.ref D) (.type "BaseException") = some true) &&
  (PySem.W.hasDictIn K D && (eqO (PySem.W.findIn K (.ref D) "__class__") (some (some (.builtin "object.__class__"))) && (eqO (PySem.W.specialIn K (.builtin "object.__class__") "__get__") (some (some (.builtin "getset_descriptor.__get__"))) &&
  (decide (PySem.W.takesIn K (.builtin "object.__class__") = some true) && decide (PySem.W.mroIn K D (.type "object") = some true)))))))
theorem excB_ok {K : PySem.W.Frag} {D : Addr} (h : excB K D = true) : ExcC K D := by
  obtain ⟨h1, h⟩ := ba h
  obtain ⟨h2, h⟩ := ba h
  obtain ⟨h3, h⟩ := ba h
  obtain ⟨h4, h⟩ := ba h
  obtain ⟨h5, h⟩ := ba h
  obtain ⟨h6, h⟩ := ba h
  obtain ⟨h7, h8⟩ := ba h
  exact ⟨eqO_ok h1, eqO_ok h2, of_decide_eq_true h3, h4, eqO_ok h5, eqO_ok h6, of_decide_eq_true h7, of_decide_eq_true h8⟩
theorem text_of {K : PySem.W.Frag} {nm qual : Str} {params : Arguments} {body : List Stmt} {scope : Scope} {dvs : List V} {kws : List (Str × V)} {f : Addr} {fd : FuncData} (F : FunD K nm qual params body scope dvs kws f fd) : ∃ cdv, TextAt K nm qual params body scope cdv f fd := by
  obtain ⟨oc, od, dV, kV, doc, pm, an, cdv, ct, osl, e, lk, hcd, _, _⟩ := F.ex
  exact ⟨cdv, oc, od, dV, kV, doc, pm, an, ct, osl, e, lk, hcd⟩
theorem mem_lookup {α β : Type} [BEq α] [LawfulBEq α] {x : α} {y : β} : ∀ {l : List (α × β)}, l.lookup x = some y → (x, y) ∈ l
  | [], h => by cases h
  | (a, b) :: r, h => by
    rw [List.lookup_cons] at h
    cases q : x == a with
    | true => rw [q] at h; cases h; rw [eq_of_beq q]; exact List.mem_cons_self
    | false => rw [q] at h; exact List.mem_cons_of_mem _ (mem_lookup h)
/-! ### the places in a text, from left to right -/
def posE : Nat → Expr → List Pos
  | 0, _ => []
  | n + 1, .Subscript v s p => posE n v ++ posE n s ++ [p]
  | _ + 1, .Name _ p => [p]
  | _ + 1, .Constant _ _ p => [p]
  | n + 1, .BinOp l _ r p => posE n l ++ posE n r ++ [p]
  | n + 1, .BoolOp _ vs p => vs.flatMap (posE n) ++ [p]
  | n + 1, .Compare l _ cs p => posE n l ++ cs.flatMap (posE n) ++ [p]
  | n + 1, .List es p => es.flatMap (posE n) ++ [p]
  | n + 1, .Attribute v _ p => posE n v ++ [p]
  | n + 1, .Call f as _ p => posE n f ++ as.flatMap (posE n) ++ [p]
  | n + 1, .IfExp t b o p => posE n t ++ posE n b ++ posE n o ++ [p]
  | _, _ => []
def posS : Nat → Stmt → List Pos
  | 0, _ => []
  | n + 1, .Assign ts v p => ts.flatMap (posE n) ++ posE n v ++ [p]
  | n + 1, .While t b o p => posE n t ++ b.flatMap (posS n) ++ o.flatMap (posS n) ++ [p]
  | n + 1, .If t b o p => posE n t ++ b.flatMap (posS n) ++ o.flatMap (posS n) ++ [p]
  | n + 1, .Return (some v) p => posE n v ++ [p]
  | _, _ => []
def posAt (b : List Stmt) (n : Nat) : Pos := (b.flatMap (posS 30)).getD n ⟨0, 0, 0, 0⟩
end PT

set_option Elab.async false
set_option linter.all false
set_option maxRecDepth 100000
set_option maxHeartbeats 4000000
namespace K37
open PT PySem L2
abbrev P := PySem.Challenge.pw_loopcoats_k37_places_of_labels
def top (i : Nat) : Stmt := P.main.body.getD i (.Pass ⟨0, 0, 0, 0⟩)
def pt : Pt where
  fns := [("is_name", 0), ("is_label", 1), ("need_label", 2), ("turned", 3), ("other_side", 4), ("label_place", 5), ("_law_fraised", 6), ("_law_start", 7), ("_law_below", 8), ("_law_pick", 9), ("_law_same", 10), ("law", 11)]
  cons := [("SMALL", .str "abcdefghijklmnopqrstuvwxyz"), ("SIGNS", .str "abcdefghijklmnopqrstuvwxyz0123456789"), ("FIGURES", .str "0123456789")]
  clss := [("BadLabel", 0)]
  kws := [("other_side", "label")]
/-- a def of the text: its place, its names, its lent parameter -/
def fnOf (i : Nat) (N : List Str) (ps : Nat) (io : Option Nat) (lm : Bool) : Fn := ⟨N.length, ps, io, trSs (trS 40 ⟨pt, N, defScope (top i), true, lm⟩ io 40) (defBody (top i))⟩
def N0 : List Str := ["thing", "sign"]
def N1 : List Str := ["thing"]
def N2 : List Str := ["label"]
def N5 : List Str := ["label", "name", "figures", "sign"]
def N9 : List Str := ["stream", "some"]
def N10 : List Str := ["found", "due", "x", "y"]
def N11 : List Str := ["script", "stream", "letters", "turn", "letter", "number", "name", "label", "own", "figures", "good", "odd", "sign"]
def fns : List Fn := [fnOf 23 N0 1 none false, fnOf 24 N1 1 none false, fnOf 25 N2 1 none false, fnOf 26 N2 1 none false, fnOf 27 N2 1 none false, fnOf 30 N5 1 none false, ⟨0, 0, none, .nil⟩, ⟨0, 0, none, .nil⟩, ⟨0, 0, none, .nil⟩, fnOf 37 N9 2 (some 0) false, fnOf 38 N10 2 none false, fnOf 39 N11 1 none true]
def tag : Nat → Option Str
  | 0 => some "label"
  | _ => none
def prog : Prog where
  fns := fns
  prim := fun i => if i = 6 then some (none, gRaised tag) else if i = 7 then some (none, gStart) else if i = 8 then some (some 0, gBelow) else none
end K37

set_option Elab.async false
set_option linter.all false
set_option maxRecDepth 100000
set_option maxHeartbeats 4000000
namespace K37
open PT PySem L2
def nthS : SL → Nat → S
  | .nil, _ => .bad
  | .cons a _, 0 => a
  | .cons _ r, n + 1 => nthS r n
def dropS_ : SL → Nat → SL
  | s, 0 => s
  | .nil, _ => .nil
  | .cons _ r, n + 1 => dropS_ r n
def forB : S → SL
  | .forr _ _ _ b => b
  | _ => .nil
def lawB : SL := (fnOf 39 N11 1 none true).body
def turnB : SL := forB (nthS lawB 2)
def chkB : SL := dropS_ turnB 4
def lets : Str := "facteptduvlrbk"
def chk0 (l : Str) : Sta := ⟨[none, none, some (.str lets, false), none, none, none, none, some (.str l, false), none, none, none, none, none], []⟩
def lev : Nat := 9
def okEnd : RS → Bool
  | .nx s => s.e.length == 13 && (match s.e[2]?, s.e[12]? with | some (some (D.str x, false)), some none => x == lets | _, _ => false)
  | _ => false
def okTurn (l : Str) : Bool := okEnd (evL (prog.call lev) prog.io chkB (chk0 l))
end K37

set_option Elab.async false
set_option linter.all false
set_option maxRecDepth 100000
set_option maxHeartbeats 4000000
/-! K3: k37's defs in the small language, as they stand (printed by genK3.py). -/
namespace K37
open PT PySem
abbrev st (l : List Nat) : Str := ⟨⟨l⟩⟩
abbrev q (c : C) (r : CL) : CL := .cons c r
abbrev q0 : CL := .nil
def L0 : Fn :=
  { n := 2, ps := 1, io := none, body := SL.cons (S.ifs ((C.op (Op.isi [Ty.str]) (q (C.var 0) q0)).not.or ((C.chain Op.le Op.le (C.con (D.int 1)) (C.op Op.len (q (C.var 0) q0)) (C.con
  (D.int 8))).not.or (C.op Op.notIn (q (C.op Op.idx (q (C.var 0) (q (C.con (D.int 0)) q0))) (q (C.con (D.str (st [97, 98, 99, 100, 101, 102, 103, 104, 105, 106, 107, 108, 109, 110,
  111, 112, 113, 114, 115, 116, 117, 118, 119, 120, 121, 122]))) q0))))) (SL.cons (S.ret (C.con (D.bl false))) SL.nil) SL.nil) (SL.cons (S.ret (C.op Op.all (q (C.lc [1] [1] true
  (IT.val (C.var 0)) q0 (C.op Op.isIn (q (C.var 1) (q (C.con (D.str (st [97, 98, 99, 100, 101, 102, 103, 104, 105, 106, 107, 108, 109, 110, 111, 112, 113, 114, 115, 116, 117, 118,
  119, 120, 121, 122, 48, 49, 50, 51, 52, 53, 54, 55, 56, 57]))) q0)))) q0))) SL.nil) }
def L1 : Fn :=
  { n := 1, ps := 1, io := none, body := SL.cons (S.ret ((C.op (Op.isi [Ty.str]) (q (C.var 0) q0)).and (C.call 0 (q ((C.op Op.eq (q (C.op (Op.slc false true) (q (C.var 0) (q (C.con
  (D.int 1)) q0))) (q (C.con (D.str (st [126]))) q0))).ite (C.op (Op.slc true false) (q (C.var 0) (q (C.con (D.int 1)) q0))) (C.var 0)) q0)))) SL.nil }
def L2 : Fn :=
  { n := 1, ps := 1, io := none, body := SL.cons (S.ifs (C.call 1 (q (C.var 0) q0)).not (SL.cons (S.rais 0 (q (C.var 0) q0)) SL.nil) SL.nil) (SL.cons (S.ret (C.var 0)) SL.nil) }
def L3 : Fn :=
  { n := 1, ps := 1, io := none, body := SL.cons (S.ret ((C.op Op.eq (q (C.op Op.idx (q (C.var 0) (q (C.con (D.int 0)) q0))) (q (C.con (D.str (st [126]))) q0))).ite (C.op (Op.slc true
  false) (q (C.var 0) (q (C.con (D.int 1)) q0))) (C.op Op.add (q (C.con (D.str (st [126]))) (q (C.var 0) q0))))) SL.nil }
def L4 : Fn :=
  { n := 1, ps := 1, io := none, body := SL.cons (S.ret (C.call 3 (q (C.call 2 (q (C.var 0) q0)) q0))) SL.nil }
def L5 : Fn :=
  { n := 4, ps := 1, io := none, body := SL.cons (S.expr (C.call 2 (q (C.var 0) q0))) (SL.cons (S.asg 1 ((C.op Op.eq (q (C.op Op.idx (q (C.var 0) (q (C.con (D.int 0)) q0))) (q (C.con
  (D.str (st [126]))) q0))).ite (C.op (Op.slc true false) (q (C.var 0) (q (C.con (D.int 1)) q0))) (C.var 0))) (SL.cons (S.asg 2 (C.op (Op.slc true false) (q (C.var 1) (q (C.con (D.int
  1)) q0)))) (SL.cons (S.ifs ((C.op Op.notIn (q (C.op Op.idx (q (C.var 1) (q (C.con (D.int 0)) q0))) (q (C.con (D.str (st [102, 97, 99, 116, 101, 112, 108, 114, 98, 107, 100, 117,
  118]))) q0))).or ((C.chain Op.le Op.le (C.con (D.int 1)) (C.op Op.len (q (C.var 2) q0)) (C.con (D.int 3))).not.or ((C.op Op.eq (q (C.op Op.idx (q (C.var 2) (q (C.con (D.int 0))
  q0))) (q (C.con (D.str (st [48]))) q0))).and (C.op Op.gt (q (C.op Op.len (q (C.var 2) q0)) (q (C.con (D.int 1)) q0)))))) (SL.cons (S.ret (C.con D.non)) SL.nil) SL.nil) (SL.cons
  (S.forr [3] true (IT.val (C.var 2)) (SL.cons (S.ifs (C.op Op.notIn (q (C.var 3) (q (C.con (D.str (st [48, 49, 50, 51, 52, 53, 54, 55, 56, 57]))) q0))) (SL.cons (S.ret (C.con D.non))
  SL.nil) SL.nil) SL.nil)) (SL.cons (S.ret ((C.op Op.lt (q (C.op Op.toInt (q (C.var 2) q0)) (q (C.con (D.int 200)) q0))).ite (C.mkT (q (C.op Op.idx (q (C.var 1) (q (C.con (D.int 0))
  q0))) (q (C.op Op.toInt (q (C.var 2) q0)) q0))) (C.con D.non))) SL.nil))))) }
def L9 : Fn :=
  { n := 2, ps := 2, io := some 0, body := SL.cons (S.ret (C.op Op.idx (q (C.var 1) (q (C.call 8 (q (C.var 0) (q (C.op Op.len (q (C.var 1) q0)) q0))) q0)))) SL.nil }
def L10 : Fn :=
  { n := 4, ps := 2, io := none, body := SL.cons (S.ifs (C.op (Op.isi [Ty.list, Ty.tuple]) (q (C.var 1) q0)) (SL.cons (S.ifs ((C.op Op.ne (q (C.op (Op.isi [Ty.list]) (q (C.var 0) q0))
  (q (C.op (Op.isi [Ty.list]) (q (C.var 1) q0)) q0))).or (C.op Op.ne (q (C.op (Op.isi [Ty.tuple]) (q (C.var 0) q0)) (q (C.op (Op.isi [Ty.tuple]) (q (C.var 1) q0)) q0)))) (SL.cons
  (S.ret (C.con (D.bl false))) SL.nil) SL.nil) (SL.cons (S.ret ((C.op Op.eq (q (C.op Op.len (q (C.var 0) q0)) (q (C.op Op.len (q (C.var 1) q0)) q0))).and (C.op Op.all (q (C.lc [2, 3]
  [2, 3] false (IT.zip (C.var 0) (C.var 1)) q0 (C.call 10 (q (C.var 2) (q (C.var 3) q0)))) q0)))) SL.nil)) SL.nil) (SL.cons (S.ifs (C.op (Op.isi [Ty.dict]) (q (C.var 1) q0)) (SL.cons
  S.bad SL.nil) SL.nil) (SL.cons (S.ifs (C.op (Op.isi [Ty.int]) (q (C.var 1) q0)) (SL.cons (S.ret ((C.op (Op.isi [Ty.int]) (q (C.var 0) q0)).and ((C.op Op.eq (q (C.op (Op.isi
  [Ty.bool]) (q (C.var 0) q0)) (q (C.op (Op.isi [Ty.bool]) (q (C.var 1) q0)) q0))).and (C.op Op.eq (q (C.var 0) (q (C.var 1) q0)))))) SL.nil) SL.nil) (SL.cons (S.ifs (C.op Op.isN (q
  (C.var 1) q0)) (SL.cons (S.ret (C.op Op.isN (q (C.var 0) q0))) SL.nil) SL.nil) (SL.cons (S.ifs (C.op (Op.isi [Ty.str]) (q (C.var 1) q0)) (SL.cons (S.ret ((C.op (Op.isi [Ty.str]) (q
  (C.var 0) q0)).and (C.op Op.eq (q (C.var 0) (q (C.var 1) q0))))) SL.nil) SL.nil) (SL.cons (S.ret ((C.op (Op.isi [Ty.int, Ty.str, Ty.list, Ty.tuple, Ty.dict]) (q (C.var 0)
  q0)).not.and (C.op Op.eq (q (C.var 0) (q (C.var 1) q0))))) SL.nil))))) }
def L11 : Fn :=
  { n := 13, ps := 1, io := none, body := SL.cons (S.asg 1 (C.call 7 (q (C.var 0) q0))) (SL.cons (S.asg 2 (C.con (D.str (st [102, 97, 99, 116, 101, 112, 116, 100, 117, 118, 108, 114,
  98, 107])))) (SL.cons (S.forr [3] true (IT.range (C.con (D.int 30))) (SL.cons (S.asg 4 (C.call 9 (q (C.var 1) (q (C.op Op.toList (q (C.con (D.str (st [97, 98, 99, 100, 101, 102,
  103, 104, 105, 106, 107, 108, 109, 110, 111, 112, 113, 114, 115, 116, 117, 118, 119, 120, 121, 122]))) q0)) q0)))) (SL.cons (S.asg 5 (C.call 9 (q (C.var 1) (q (C.mkL (q (C.con
  (D.int 0)) (q (C.con (D.int 9)) (q (C.con (D.int 10)) (q (C.con (D.int 99)) (q (C.con (D.int 100)) (q (C.con (D.int 199)) (q (C.con (D.int 200)) (q (C.con (D.int 201)) (q (C.con
  (D.int 999)) (q (C.call 8 (q (C.var 1) (q (C.con (D.int 250)) q0))) q0))))))))))) q0)))) (SL.cons (S.asg 6 (C.op Op.add (q (C.op Op.add (q (C.var 4) (q (C.call 9 (q (C.var 1) (q
  (C.mkL (q (C.con (D.str (st []))) (q (C.con (D.str (st []))) (q (C.con (D.str (st []))) (q (C.con (D.str (st []))) (q (C.con (D.str (st [48]))) (q (C.con (D.str (st [48, 48]))) (q
  (C.con (D.str (st [107]))) q0)))))))) q0))) q0))) (q (C.op Op.toStr (q (C.var 5) q0)) q0)))) (SL.cons (S.asg 7 (C.op Op.add (q (C.call 9 (q (C.var 1) (q (C.mkL (q (C.con (D.str (st
  []))) (q (C.con (D.str (st [126]))) q0))) q0))) (q (C.call 9 (q (C.var 1) (q (C.mkL (q (C.var 6) (q (C.var 6) (q (C.var 6) (q (C.var 4) (q (C.op Op.add (q (C.var 4) (q (C.con (D.str
  (st [120]))) q0))) (q (C.op Op.add (q (C.con (D.str (st [107]))) (q (C.op Op.toStr (q (C.var 5) q0)) q0))) q0))))))) q0))) q0)))) (SL.cons (S.asg 8 (C.op Op.strip (q (C.var 7) (q
  (C.con (D.str (st [126]))) q0)))) (SL.cons (S.asg 9 (C.op (Op.slc true false) (q (C.var 8) (q (C.con (D.int 1)) q0)))) (SL.cons (S.asg 10 ((C.op Op.isIn (q (C.op Op.idx (q (C.var 8)
  (q (C.con (D.int 0)) q0))) (q (C.var 2) q0))).and ((C.op Op.ne (q (C.var 9) (q (C.con (D.str (st []))) q0))).and (C.op Op.eq (q (C.lc [12] [12] true (IT.val (C.var 9)) (q (C.op
  Op.notIn (q (C.var 12) (q (C.con (D.str (st [48, 49, 50, 51, 52, 53, 54, 55, 56, 57]))) q0))) q0) (C.var 12)) (q (C.mkL q0) q0)))))) (SL.cons (S.asg 10 ((C.var 10).and (((C.op Op.eq
  (q (C.var 9) (q (C.con (D.str (st [48]))) q0))).or (C.op Op.ne (q (C.op Op.idx (q (C.var 9) (q (C.con (D.int 0)) q0))) (q (C.con (D.str (st [48]))) q0)))).and (C.op Op.lt (q (C.op
  Op.toInt (q (C.var 9) q0)) (q (C.con (D.int 200)) q0)))))) (SL.cons (S.ifs (C.call 10 (q (C.call 5 (q (C.var 7) q0)) (q ((C.var 10).ite (C.mkT (q (C.op Op.idx (q (C.var 8) (q (C.con
  (D.int 0)) q0))) (q (C.op Op.toInt (q (C.var 9) q0)) q0))) (C.con D.non)) q0))).not (SL.cons (S.ret (C.con (D.bl false))) SL.nil) SL.nil) (SL.cons (S.ifs (C.call 10 (q (C.mkL (q
  (C.call 4 (q (C.var 7) q0)) (q (C.call 4 (q (C.call 4 (q (C.var 7) q0)) q0)) q0))) (q (C.mkL (q ((C.op Op.eq (q (C.op Op.idx (q (C.var 7) (q (C.con (D.int 0)) q0))) (q (C.con (D.str
  (st [126]))) q0))).ite (C.var 8) (C.op Op.add (q (C.con (D.str (st [126]))) (q (C.var 8) q0)))) (q (C.var 7) q0))) q0))).not (SL.cons (S.ret (C.con (D.bl false))) SL.nil) SL.nil)
  SL.nil))))))))))) (SL.cons (S.forr [11] true (IT.val (C.mkL (q (C.con D.non) (q (C.con (D.int 5)) (q (C.con (D.str (st []))) (q (C.con (D.str (st [126]))) (q (C.con (D.str (st [126,
  126, 107, 51]))) (q (C.con (D.str (st [75, 51]))) (q (C.con (D.str (st [51, 107]))) (q (C.con (D.str (st [107, 32, 51]))) (q (C.con (D.str (st [107, 51, 126]))) (q (C.con (D.str (st
  [116, 111, 111, 108, 111, 110, 103, 49, 50]))) (q (C.mkL (q (C.con (D.str (st [107, 51]))) q0)) (q (C.mkT (q (C.con (D.str (st [107]))) (q (C.con (D.int 3)) q0))) (q (C.con (D.bl
  true)) (q (C.con (D.str (st [107, 51, 10]))) q0)))))))))))))))) (SL.cons (S.ifs (C.call 10 (q (C.mkL (q (C.callL 6 (C.call 5 (q (C.var 0) q0)) [11]) (q (C.callL 6 (C.call 4 (q
  (C.var 0) q0)) [11]) q0))) (q (C.op Op.mul (q (C.mkL (q (C.mkT (q (C.con (D.str (st [108, 97, 98, 101, 108]))) (q (C.var 11) q0))) q0)) (q (C.con (D.int 2)) q0))) q0))).not (SL.cons
  (S.ret (C.con (D.bl false))) SL.nil) SL.nil) SL.nil)) (SL.cons (S.ret (C.con (D.bl true))) SL.nil)))) }
/-- the texts of the program -/
theorem L0_is : fnOf 23 N0 1 none false = L0 := by first | rfl | kernel_rfl
theorem L1_is : fnOf 24 N1 1 none false = L1 := by first | rfl | kernel_rfl
theorem L2_is : fnOf 25 N2 1 none false = L2 := by first | rfl | kernel_rfl
theorem L3_is : fnOf 26 N2 1 none false = L3 := by first | rfl | kernel_rfl
theorem L4_is : fnOf 27 N2 1 none false = L4 := by first | rfl | kernel_rfl
theorem L5_is : fnOf 30 N5 1 none false = L5 := by first | rfl | kernel_rfl
theorem L9_is : fnOf 37 N9 2 (some 0) false = L9 := by first | rfl | kernel_rfl
theorem L10_is : fnOf 38 N10 2 none false = L10 := by first | rfl | kernel_rfl
theorem L11_is : fnOf 39 N11 1 none true = L11 := by first | rfl | kernel_rfl
def progL : Prog where
  fns := [L0, L1, L2, L3, L4, L5, ⟨0, 0, none, .nil⟩, ⟨0, 0, none, .nil⟩, ⟨0, 0, none, .nil⟩, L9, L10, L11]
  prim := prog.prim
theorem prog_is : prog = progL := by
  unfold prog progL fns
  rw [L0_is, L1_is, L2_is, L3_is, L4_is, L5_is, L9_is, L10_is, L11_is]
  rfl
def turnL : SL := forB (nthS L11.body 2)
def chkL : SL := dropS_ turnL 4
def okTurnL (l : Str) : Bool := okEnd (evL (progL.call lev) progL.io chkL (chk0 l))
end K37

set_option Elab.async false
set_option linter.all false
set_option maxRecDepth 100000
set_option maxHeartbeats 1000000
/-! K4: closed forms of k37's defs. -/
namespace K37
open PT PySem
theorem call_at {k i : Nat} {fn : Fn} {as : List (D × Bool)} {m : List Unit} (hp : progL.prim i = none) (hf : progL.fns[i]? = some fn) (hl : as.length = fn.ps) : progL.call (k + 1) i as m = endOf fn.io (evL (progL.call k) progL.io fn.body ⟨startE fn.n as, m⟩) := by
  simp only [Prog.call, hp, hf, if_pos hl]
theorem io_none {i : Nat} {fn : Fn} (hp : progL.prim i = none) (hf : progL.fns[i]? = some fn) : progL.io i = fn.io := by simp only [Prog.io, hp, hf]
/-! ### operations on what is known -/
theorem op_idxS {s : Str} {i : Int} {c : Nat} (h : s.length ≤ most) (hc : L2.atI s.cps.toList i = some c) : opEv .idx [.str s, .int i] = some (.str (sign c)) := by
  show (if s.length ≤ most then (L2.atI s.cps.toList i).map fun c => D.str (sign c) else none) = _
  rw [if_pos h, hc]; rfl
theorem cmp_str (s t : Str) (hs : PyData.strOk s = true) (ht : PyData.strOk t = true) : cmpOk (.str s) (.str t) = true := by
  show (SeqAt.shaped (.str s) && SeqAt.shaped (.str t)) = true
  simp [SeqAt.shaped, PyData.canLay0, PyData.depth, hs, ht]
theorem op_eqS {s t : Str} (hs : PyData.strOk s = true) (ht : PyData.strOk t = true) : opEv .eq [.str s, .str t] = some (.bl (s == t)) := by
  show (if cmpOk (.str s) (.str t) = true then some (D.bl (D.beq (.str s) (.str t))) else none) = _
  rw [if_pos (cmp_str s t hs ht)]; simp [D.beq]
theorem op_slcT {s : Str} {i : Int} (h : s.length ≤ most) : opEv (.slc true false) [.str s, .int i] = some (.str (L2.cutS s (some i) none)) := by
  show (if s.length ≤ most then some (D.str (L2.cutS s (some i) none)) else none) = _
  rw [if_pos h]
theorem op_slcF {s : Str} {i : Int} (h : s.length ≤ most) : opEv (.slc false true) [.str s, .int i] = some (.str (L2.cutS s none (some i))) := by
  show (if s.length ≤ most then some (D.str (L2.cutS s none (some i))) else none) = _
  rw [if_pos h]
theorem op_addS {s t : Str} (h : s.length + t.length ≤ most) : opEv .add [.str s, .str t] = some (.str (s ++ t)) := by
  show (if s.length + t.length ≤ most then some (D.str (s ++ t)) else none) = _
  rw [if_pos h]
theorem sign_ok {c : Nat} (h : c < 0x110000) : PyData.strOk (sign c) = true := by simp [PyData.strOk, sign, h]
theorem st_ok {l : List Nat} (h : l.all (· < 0x110000) = true) : PyData.strOk (st l) = true := by simpa [PyData.strOk, st] using h
theorem sign_eq {c d : Nat} : (sign c == st [d]) = decide (c = d) := by
  by_cases h : c = d
  · subst h; simp [sign, st]
  · have : sign c ≠ st [d] := fun z => h (by
      have := congrArg (fun s => s.cps.toList) z
      simpa [sign, st] using this)
    simp [h, this]
theorem t3 {k : Nat} {s : Str} {c : Nat} {m : List Unit} (hc : L2.atI s.cps.toList 0 = some c) (h110 : c < 0x110000) (hl : s.length ≤ 100) : progL.call (k + 1) 3 [(.str s, false)] m = .ok (.str (if c = 126 then L2.cutS s (some 1) none else st [126] ++ s)) false none m := by
  rw [call_at rfl rfl rfl]
  have h1 : s.length ≤ most := Nat.le_trans hl (by decide)
  show endOf none (evL (progL.call k) progL.io L3.body ⟨[some (.str s, false)], m⟩) = _
  simp only [L3, evL, evS, evC, evP, slotD, List.getElem?_cons_zero, R.bind, R.st, getL, Arg.get, fin]
  rw [op_idxS h1 hc]
  simp only [R.bind, R.st, getL, Arg.get, fin]
  rw [op_eqS (sign_ok h110) (st_ok (by decide)), sign_eq]
  simp only [D.truth, R.test, asB]
  by_cases h : c = 126
  · simp only [h, decide_true, if_true, List.getElem?_cons_zero, getL, Arg.get, slotD]
    rw [op_slcT h1]
    simp [R.st, endOf, outOf, D.isNew]
  · simp only [h, decide_false, Bool.false_eq_true, if_false, List.getElem?_cons_zero, getL, Arg.get, slotD]
    rw [op_addS (by have : (st [126]).length = 1 := rfl; rw [this]; unfold most; omega)]
    simp [R.st, endOf, outOf, D.isNew]
theorem op_isInS {c : Nat} {t : Str} : opEv .isIn [.str (sign c), .str t] = some (.bl (decide (c ∈ t.cps.toList))) := by
  show (if (sign c).length = 1 then some (D.bl (decide ((sign c).cps.getD 0 0 ∈ t.cps.toList))) else none) = _
  rw [if_pos (show (sign c).length = 1 from rfl)]; rfl
theorem op_notInS {c : Nat} {t : Str} : opEv .notIn [.str (sign c), .str t] = some (.bl (!decide (c ∈ t.cps.toList))) := by
  show (if (sign c).length = 1 then some (D.bl (!decide ((sign c).cps.getD 0 0 ∈ t.cps.toList))) else none) = _
  rw [if_pos (show (sign c).length = 1 from rfl)]; rfl
theorem op_lenS {s : Str} (h : s.length ≤ most) : opEv .len [.str s] = some (.int s.length) := by
  show (if s.length ≤ most then some (D.int s.length) else none) = _
  rw [if_pos h]
theorem op_isiS {s : Str} : opEv (.isi [.str]) [.str s] = some (.bl true) := rfl
theorem op_leI {i j : Int} : opEv .le [.int i, .int j] = some (.bl (decide (i ≤ j))) := rfl
theorem allT_bl : ∀ l : List Bool, allT (l.map D.bl) = some (l.all id)
  | [] => rfl
  | b :: r => by simp [allT, allT_bl r]
theorem op_allB {l : List Bool} : opEv .all [.lst (l.map D.bl)] = some (.bl (l.all id)) := by
  show (allT (l.map D.bl)).map D.bl = _
  rw [allT_bl]; rfl
/-- a comprehension whose turns change nothing but its own slot i -/
theorem lc_gen {i : Nat} {E : Slots} {m : List Unit} (hi : E[i]? = some none) {cond : Sta → R Bool} {e : Sta → R (D × Bool)} {p : D → Bool} {f : D → D × Bool} :
    ∀ (ds acc : List D), (∀ d ∈ ds, cond ⟨E.set i (some (d, false)), m⟩ = .ok (p d) ⟨E.set i (some (d, false)), m⟩) → (∀ d ∈ ds, p d = true → e ⟨E.set i (some (d, false)), m⟩ = .ok (f d) ⟨E.set i (some (d, false)), m⟩) → acc.length + ds.length ≤ most →
    lcGo [i] [i] true cond e ds acc ⟨E, m⟩ = .ok (acc ++ (ds.filter p).map fun d => (f d).1) ⟨E, m⟩
  | [], acc, _, _, _ => by simp [lcGo]
  | d :: r, acc, hc, he, h => by
    have back : wipeE (E.set i (some (d, false))) [i] = E := by
      simp only [wipeE]
      apply List.ext_getElem?
      intro j
      rw [List.getElem?_set, List.getElem?_set, List.length_set]
      have hl : i < E.length := (List.getElem?_eq_some_iff.mp hi).1
      by_cases hj : i = j
      · subst hj; simp only [if_true, hl, hi]
      · simp [hj]
    simp only [lcGo, assignT, if_true]
    rw [hc d List.mem_cons_self]
    cases hp : p d with
    | false =>
      dsimp only
      rw [back, lc_gen hi r acc (fun x hx => hc x (List.mem_cons_of_mem _ hx)) (fun x hx => he x (List.mem_cons_of_mem _ hx)) (by simp at h; omega)]
      simp [hp]
    | true =>
      dsimp only
      rw [he d List.mem_cons_self hp]
      dsimp only
      rw [if_pos (by simp at h; omega), back, lc_gen hi r _ (fun x hx => hc x (List.mem_cons_of_mem _ hx)) (fun x hx => he x (List.mem_cons_of_mem _ hx)) (by simp at h ⊢; omega)]
      simp [hp]
def small : List Nat := [97, 98, 99, 100, 101, 102, 103, 104, 105, 106, 107, 108, 109, 110, 111, 112, 113, 114, 115, 116, 117, 118, 119, 120, 121, 122]
def signs : List Nat := [97, 98, 99, 100, 101, 102, 103, 104, 105, 106, 107, 108, 109, 110, 111, 112, 113, 114, 115, 116, 117, 118, 119, 120, 121, 122, 48, 49, 50, 51, 52, 53, 54, 55, 56, 57]
def isName (s : Str) : Bool := decide (1 ≤ s.length) && decide (s.length ≤ 8) && (match s.cps.toList with | c :: _ => decide (c ∈ small) | [] => false) && s.cps.toList.all fun c => decide (c ∈ signs)
theorem t0 {k : Nat} {s : Str} {m : List Unit} (hl : s.length ≤ 100) : progL.call (k + 1) 0 [(.str s, false)] m = .ok (.bl (isName s)) false none m := by
  rw [call_at rfl rfl rfl]
  have h1 : s.length ≤ most := Nat.le_trans hl (by decide)
  show endOf none (evL (progL.call k) progL.io L0.body ⟨[some (.str s, false), none], m⟩) = _
  simp only [L0, evL, evS, evC, evP, slotD, List.getElem?_cons_zero, R.bind, R.st, getL, Arg.get, fin, R.test]
  rw [op_isiS]
  simp only [D.truth, asB, Bool.not_true, Bool.false_eq_true, if_false, R.bind, R.test, fin, evC, evP, slotD, List.getElem?_cons_zero, getL, Arg.get]
  rw [op_lenS h1]
  dsimp only
  rw [op_leI]
  by_cases a1 : (1 : Int) ≤ (s.length : Int)
  · rw [decide_eq_true a1]
    dsimp only
    rw [op_leI]
    by_cases a2 : (s.length : Int) ≤ 8
    · rw [decide_eq_true a2]
      have hn : s.length = s.cps.toList.length := by simp [Str.length]
      obtain ⟨c, r, hc⟩ : ∃ c r, s.cps.toList = c :: r := by
        cases e : s.cps.toList with
        | nil => rw [e] at hn; simp at hn; omega
        | cons c r => exact ⟨c, r, rfl⟩
      have h0 : L2.atI s.cps.toList 0 = some c := by rw [hc]; exact L2.atI_nat (j := 0) rfl
      simp only [slotD, List.getElem?_cons_zero, List.getElem?_cons_succ, R.bind, R.st, getL, Arg.get, fin, R.test, D.truth, asB, Bool.not_true, Bool.not_false, Bool.false_eq_true, if_false, if_true]
      rw [op_idxS h1 h0]
      simp only [slotD, List.getElem?_cons_zero, List.getElem?_cons_succ, R.bind, R.st, getL, Arg.get, fin, R.test, D.truth, asB, Bool.not_true, Bool.not_false, Bool.false_eq_true, if_false, if_true]
      rw [op_notInS]
      have hs : (st [97, 98, 99, 100, 101, 102, 103, 104, 105, 106, 107, 108, 109, 110, 111, 112, 113, 114, 115, 116, 117, 118, 119, 120, 121, 122]).cps.toList = small := rfl
      rw [hs]
      by_cases a3 : c ∈ small
      · rw [decide_eq_true a3]
        simp only [slotD, List.getElem?_cons_zero, List.getElem?_cons_succ, R.bind, R.st, getL, Arg.get, fin, R.test, D.truth, asB, Bool.not_true, Bool.not_false, Bool.false_eq_true, if_false, if_true]
        have hI : evI (progL.call k) progL.io (IT.val (C.var 0)) { e := [some (D.str s, false), none], m := m } = .ok (s.cps.toList.map fun c => D.str (sign c)) { e := [some (D.str s, false), none], m := m } := rfl
        rw [hI]
        have h8 : s.cps.toList.length ≤ 8 := by omega
        have hL := lc_gen (i := 1) (E := [some (D.str s, false), none]) (m := m) rfl (cond := evA (progL.call k) progL.io q0) (e := evC (progL.call k) progL.io false (C.op Op.isIn (q (C.var 1) (q (C.con (D.str (st signs))) q0)))) (p := fun _ => true)
          (f := fun d => (match d with | .str t => D.bl (decide (t.cps.getD 0 0 ∈ signs)) | _ => .non, false)) (s.cps.toList.map fun c => D.str (sign c)) [] (fun d _ => rfl) (fun d hd _ => by
            obtain ⟨c', _, rfl⟩ := List.mem_map.mp hd
            rfl) (by rw [List.length_nil, List.length_map, Nat.zero_add]; exact Nat.le_trans h8 (by decide))
        have hf : (List.map (fun d => ((match d with | .str t => D.bl (decide (t.cps.getD 0 0 ∈ signs)) | _ => D.non, false) : D × Bool).1) (List.filter (fun _ => true) (s.cps.toList.map fun c => D.str (sign c)))) = (s.cps.toList.map fun c => decide (c ∈ signs)).map D.bl := by
          rw [List.filter_eq_self.mpr (fun _ _ => rfl), List.map_map, List.map_map]; rfl
        rw [hf, List.nil_append] at hL
        have any0 : [1].any (owned [some (D.str s, false), none]) = false := rfl
        have w1 : wipeE [some (D.str s, false), none] [1] = [some (D.str s, false), none] := rfl
        have b1 : backE [some (D.str s, false), none] [some (D.str s, false), none] [1] = [some (D.str s, false), none] := rfl
        simp only [any0, Bool.false_eq_true, if_false, w1]
        have hL' : lcGo [1] [1] true (evA (progL.call k) progL.io q0) _ (s.cps.toList.map fun c => D.str (sign c)) [] { e := [some (D.str s, false), none], m := m } = _ := hL
        erw [hL']
        simp only [slotD, List.getElem?_cons_zero, List.getElem?_cons_succ, R.bind, R.st, getL, Arg.get, fin, R.test, D.truth, asB, Bool.not_true, Bool.not_false, Bool.false_eq_true, if_false, if_true, b1]
        rw [op_allB]
        simp only [slotD, List.getElem?_cons_zero, List.getElem?_cons_succ, R.bind, R.st, getL, Arg.get, fin, R.test, D.truth, asB, Bool.not_true, Bool.not_false, Bool.false_eq_true, if_false, if_true, endOf, outOf]
        have : isName s = (List.map (fun c => decide (c ∈ signs)) s.cps.toList).all id := by
          have e1 : 1 ≤ s.length := by omega
          have e2 : s.length ≤ 8 := by omega
          unfold isName
          rw [decide_eq_true e1, decide_eq_true e2, List.all_map]
          simp [hc, a3]
        rw [this]
        rfl
      · rw [decide_eq_false a3]
        simp only [slotD, List.getElem?_cons_zero, List.getElem?_cons_succ, R.bind, R.st, getL, Arg.get, fin, R.test, D.truth, asB, Bool.not_true, Bool.not_false, Bool.false_eq_true, if_false, if_true, endOf, outOf]
        simp [isName, hc, a3]
    · rw [decide_eq_false a2]
      simp only [slotD, List.getElem?_cons_zero, List.getElem?_cons_succ, R.bind, R.st, getL, Arg.get, fin, R.test, D.truth, asB, Bool.not_true, Bool.not_false, Bool.false_eq_true, if_false, if_true, endOf, outOf]
      have : isName s = false := by simp [isName]; omega
      rw [this]
  · rw [decide_eq_false a1]
    simp only [slotD, List.getElem?_cons_zero, List.getElem?_cons_succ, R.bind, R.st, getL, Arg.get, fin, R.test, D.truth, asB, Bool.not_true, Bool.not_false, Bool.false_eq_true, if_false, if_true, endOf, outOf]
    have : isName s = false := by simp [isName]; omega
    rw [this]
def isLabel (s : Str) : Bool := isName (if (L2.cutS s none (some 1) == st [126]) = true then L2.cutS s (some 1) none else s)
theorem io0 : progL.io 0 = none := rfl
theorem t1 {k : Nat} {s : Str} {m : List Unit} (hl : s.length ≤ 100) (hk : PyData.strOk (L2.cutS s none (some 1)) = true) (hc : (L2.cutS s (some 1) none).length ≤ 100) : progL.call (k + 2) 1 [(.str s, false)] m = .ok (.bl (isLabel s)) false none m := by
  rw [call_at rfl rfl rfl]
  have h1 : s.length ≤ most := Nat.le_trans hl (by decide)
  show endOf none (evL (progL.call (k + 1)) progL.io L1.body ⟨[some (.str s, false)], m⟩) = _
  simp only [L1, evL, evS, evC, evP, evF, io0, slotD, List.getElem?_cons_zero, List.getElem?_cons_succ, R.bind, R.st, getL, Arg.get, fin, R.test, D.truth, asB, Bool.not_true, Bool.not_false, Bool.false_eq_true, if_false, if_true]
  rw [op_isiS]
  simp only [slotD, List.getElem?_cons_zero, List.getElem?_cons_succ, R.bind, R.st, getL, Arg.get, fin, R.test, D.truth, asB, Bool.not_true, Bool.not_false, Bool.false_eq_true, if_false, if_true]
  rw [op_slcF h1]
  simp only [slotD, List.getElem?_cons_zero, List.getElem?_cons_succ, R.bind, R.st, getL, Arg.get, fin, R.test, D.truth, asB, Bool.not_true, Bool.not_false, Bool.false_eq_true, if_false, if_true]
  rw [op_eqS hk (st_ok (by decide))]
  simp only [slotD, List.getElem?_cons_zero, List.getElem?_cons_succ, R.bind, R.st, getL, Arg.get, fin, R.test, D.truth, asB, Bool.not_true, Bool.not_false, Bool.false_eq_true, if_false, if_true]
  by_cases h : (L2.cutS s none (some 1) == st [126]) = true
  · simp only [h, slotD, List.getElem?_cons_zero, List.getElem?_cons_succ, R.bind, R.st, getL, Arg.get, fin, R.test, D.truth, asB, Bool.not_true, Bool.not_false, Bool.false_eq_true, if_false, if_true]
    rw [op_slcT h1]
    simp only [slotD, List.getElem?_cons_zero, List.getElem?_cons_succ, R.bind, R.st, getL, Arg.get, fin, R.test, D.truth, asB, Bool.not_true, Bool.not_false, Bool.false_eq_true, if_false, if_true, argsOf, lents, reduceCtorEq]
    rw [t0 hc]
    simp only [slotD, List.getElem?_cons_zero, List.getElem?_cons_succ, R.bind, R.st, getL, Arg.get, fin, R.test, D.truth, asB, Bool.not_true, Bool.not_false, Bool.false_eq_true, if_false, if_true, setOut, endOf, outOf, isLabel, h]
  · simp only [h, slotD, List.getElem?_cons_zero, List.getElem?_cons_succ, R.bind, R.st, getL, Arg.get, fin, R.test, D.truth, asB, Bool.not_true, Bool.not_false, Bool.false_eq_true, if_false, if_true, argsOf, lents, reduceCtorEq]
    rw [t0 hl]
    simp only [slotD, List.getElem?_cons_zero, List.getElem?_cons_succ, R.bind, R.st, getL, Arg.get, fin, R.test, D.truth, asB, Bool.not_true, Bool.not_false, Bool.false_eq_true, if_false, if_true, setOut, endOf, outOf, isLabel, h]
/-- a text that the defs may look at -/
structure Fine (s : Str) : Prop where
  len : s.length ≤ 100
  cut : PyData.strOk (L2.cutS s none (some 1)) = true
  rest : (L2.cutS s (some 1) none).length ≤ 100
theorem io1 : progL.io 1 = none := rfl
theorem io2 : progL.io 2 = none := rfl
theorem io3 : progL.io 3 = none := rfl
theorem t2 {k : Nat} {s : Str} {m : List Unit} (h : Fine s) : progL.call (k + 3) 2 [(.str s, false)] m = if isLabel s = true then .ok (.str s) false none m else .exc 0 [.str s] none m := by
  rw [call_at rfl rfl rfl]
  show endOf none (evL (progL.call (k + 2)) progL.io L2.body ⟨[some (.str s, false)], m⟩) = _
  simp only [L2, evL, evS, evC, evP, evF, evV, io1, slotD, List.getElem?_cons_zero, List.getElem?_cons_succ, R.bind, R.st, getL, Arg.get, fin, R.test, D.truth, asB, Bool.not_true, Bool.not_false, Bool.false_eq_true, if_false, if_true, argsOf, lents, reduceCtorEq]
  rw [show ([some (D.str s, false)] : Slots).set 0 (some (D.str s, false)) = [some (D.str s, false)] from rfl]
  rw [t1 h.len h.cut h.rest]
  cases hb : isLabel s with
  | true => simp only [slotD, List.getElem?_cons_zero, List.getElem?_cons_succ, R.bind, R.st, getL, Arg.get, fin, R.test, D.truth, asB, Bool.not_true, Bool.not_false, Bool.false_eq_true, if_false, if_true, setOut, endOf, outOf]
  | false => simp only [slotD, List.getElem?_cons_zero, List.getElem?_cons_succ, R.bind, R.st, getL, Arg.get, fin, R.test, D.truth, asB, Bool.not_true, Bool.not_false, Bool.false_eq_true, if_false, if_true, setOut, endOf, outOf]
theorem t4 {k : Nat} {s : Str} {c : Nat} {m : List Unit} (h : Fine s) (hc : L2.atI s.cps.toList 0 = some c) (h110 : c < 0x110000) (hb : isLabel s = true) : progL.call (k + 4) 4 [(.str s, false)] m = .ok (.str (if c = 126 then L2.cutS s (some 1) none else st [126] ++ s)) false none m := by
  rw [call_at rfl rfl rfl]
  show endOf none (evL (progL.call (k + 3)) progL.io L4.body ⟨[some (.str s, false)], m⟩) = _
  simp only [L4, evL, evS, evC, evP, evF, evV, io2, io3, slotD, List.getElem?_cons_zero, List.getElem?_cons_succ, R.bind, R.st, getL, Arg.get, fin, R.test, D.truth, asB, Bool.not_true, Bool.not_false, Bool.false_eq_true, if_false, if_true, argsOf, lents, reduceCtorEq]
  rw [show ([some (D.str s, false)] : Slots).set 0 (some (D.str s, false)) = [some (D.str s, false)] from rfl]
  rw [t2 h, hb]
  simp only [slotD, List.getElem?_cons_zero, List.getElem?_cons_succ, R.bind, R.st, getL, Arg.get, fin, R.test, D.truth, asB, Bool.not_true, Bool.not_false, Bool.false_eq_true, if_false, if_true, setOut, argsOf, lents, reduceCtorEq]
  rw [t3 hc h110 h.len]
  simp only [slotD, List.getElem?_cons_zero, List.getElem?_cons_succ, R.bind, R.st, getL, Arg.get, fin, R.test, D.truth, asB, Bool.not_true, Bool.not_false, Bool.false_eq_true, if_false, if_true, setOut, endOf, outOf]
/-- no label: refused -/
theorem t4x {k : Nat} {s : Str} {m : List Unit} (h : Fine s) (hb : isLabel s = false) : progL.call (k + 4) 4 [(.str s, false)] m = .exc 0 [.str s] none m := by
  rw [call_at rfl rfl rfl]
  show endOf none (evL (progL.call (k + 3)) progL.io L4.body ⟨[some (.str s, false)], m⟩) = _
  simp only [L4, evL, evS, evC, evP, evF, evV, io2, io3, slotD, List.getElem?_cons_zero, List.getElem?_cons_succ, R.bind, R.st, getL, Arg.get, fin, R.test, D.truth, asB, Bool.not_true, Bool.not_false, Bool.false_eq_true, if_false, if_true, argsOf, lents, reduceCtorEq]
  rw [show ([some (D.str s, false)] : Slots).set 0 (some (D.str s, false)) = [some (D.str s, false)] from rfl]
  rw [t2 h, hb]
  simp only [slotD, List.getElem?_cons_zero, List.getElem?_cons_succ, R.bind, R.st, getL, Arg.get, fin, R.test, D.truth, asB, Bool.not_true, Bool.not_false, Bool.false_eq_true, if_false, if_true, setOut, endOf, outOf]
/-! ### draws -/
structure Strm (x y z : Int) : Prop where
  x0 : 0 ≤ x
  y0 : 0 ≤ y
  y1 : y < 1000000
  z0 : 0 ≤ z
  z1 : z < 2147483647
theorem io8 : progL.io 8 = some 0 := rfl
theorem op_lenL {xs : List D} : opEv .len [.lst xs] = some (.int xs.length) := rfl
theorem op_idxL {xs : List D} {i : Int} : opEv .idx [.lst xs, .int i] = L2.atI xs i := rfl
theorem dig_lt {many x y z : Int} (h : 0 < many) : 0 ≤ digB many x y z ∧ digB many x y z < many := by
  unfold digB
  split
  · exact ⟨Int.emod_nonneg _ (by omega), Int.emod_lt_of_pos _ h⟩
  · exact ⟨Int.emod_nonneg _ (by omega), Int.emod_lt_of_pos _ h⟩
/-- a draw: some digit below many, some stream -/
theorem t8 {k : Nat} {cells : List Int} {x y z many : Int} {m : List Unit} (h : Strm x y z) (hm : 0 < many) (hm2 : many < 1000000000) :
    ∃ d cs x' z', 0 ≤ d ∧ d < many ∧ 0 ≤ x' ∧ 0 ≤ z' ∧ z' < 2147483647 ∧ progL.call (k + 1) 8 [(.stm cells x y z, true), (.int many, false)] m = .ok (.int d) false (some (.stm cs x' (y + 1) z')) m := by
  obtain ⟨p1, p2, p3⟩ := loopB_pos cells x z h.x0 h.z0 h.z1
  obtain ⟨q1, q2⟩ := dig_lt (x := (loopB cells x z).2.1) (y := y + 1) (z := (loopB cells x z).2.2) hm
  refine ⟨_, (loopB cells x z).1, (if 0 < (loopB cells x z).2.1 then (loopB cells x z).2.1 / many else (loopB cells x z).2.1), (loopB cells x z).2.2, q1, q2, ?_, p2, p3, ?_⟩
  · split
    · exact Int.ediv_nonneg (by omega) (by omega)
    · exact p1
  · show gBelow (runC (progL.call k) progL.io) [(.stm cells x y z, true), (.int many, false)] m = _
    simp only [gBelow]
    rw [if_pos ⟨hm, hm2, h.x0, h.y0, h.y1, h.z0, h.z1⟩]
/-- a pick -/
theorem t9 {k : Nat} {cells : List Int} {x y z : Int} {xs : List D} {m : List Unit} (h : Strm x y z) (hx : xs ≠ []) (hl : xs.length ≤ 1000) :
    ∃ d ∈ xs, ∃ cs x' z', 0 ≤ x' ∧ 0 ≤ z' ∧ z' < 2147483647 ∧ progL.call (k + 2) 9 [(.stm cells x y z, true), (.lst xs, false)] m = .ok d false (some (.stm cs x' (y + 1) z')) m := by
  have hpos : 0 < xs.length := List.length_pos_iff.mpr hx
  obtain ⟨d, cs, x', z', d0, d1, h1, h2, h3, hc⟩ := t8 (k := k) (cells := cells) (m := m) h (many := (xs.length : Int)) (by omega) (by omega)
  obtain ⟨j, rfl⟩ : ∃ j : Nat, d = (j : Int) := ⟨d.toNat, by omega⟩
  have hj : j < xs.length := by omega
  refine ⟨xs[j], List.getElem_mem hj, cs, x', z', h1, h2, h3, ?_⟩
  rw [call_at rfl rfl rfl]
  show endOf (some 0) (evL (progL.call (k + 1)) progL.io L9.body ⟨[some (.stm cells x y z, true), some (.lst xs, false)], m⟩) = _
  simp only [L9, evL, evS, evC, evP, evF, evV, io8, slotD, List.getElem?_cons_zero, List.getElem?_cons_succ, R.bind, R.st, getL, Arg.get, fin, R.test, D.truth, asB, Bool.not_true, Bool.not_false, Bool.false_eq_true, if_false, if_true, argsOf, lents, reduceCtorEq]
  have ne01 : ¬ (some 0 : Option Nat) = some (0 + 1) := by decide
  simp only [ne01, if_false]
  rw [op_lenL]
  simp only [slotD, List.getElem?_cons_zero, List.getElem?_cons_succ, R.bind, R.st, getL, Arg.get, fin, R.test, D.truth, asB, Bool.not_true, Bool.not_false, Bool.false_eq_true, if_false, if_true, argsOf, lents]
  rw [hc]
  simp only [slotD, List.getElem?_cons_zero, List.getElem?_cons_succ, R.bind, R.st, getL, Arg.get, fin, R.test, D.truth, asB, Bool.not_true, Bool.not_false, Bool.false_eq_true, if_false, if_true, setOut, List.set]
  rw [op_idxL, L2.atI_nat (show xs[j]? = some xs[j] from List.getElem?_eq_getElem hj)]
  simp [R.st, D.isNew, endOf, outOf]
/-! ### the figures, one after another -/
def digs : List Nat := [48, 49, 50, 51, 52, 53, 54, 55, 56, 57]
def digB_ : SL := SL.cons (S.ifs (C.op Op.notIn (q (C.var 3) (q (C.con (D.str (st [48, 49, 50, 51, 52, 53, 54, 55, 56, 57]))) q0))) (SL.cons (S.ret (C.con D.non)) SL.nil) SL.nil) SL.nil
theorem dig_turn {call : CallF} {io : Nat → Option Nat} {a0 a1 a2 : Option (D × Bool)} {c : Nat} {m : List Unit} :
    evL call io digB_ ⟨[a0, a1, a2, some (.str (sign c), false)], m⟩ = if c ∈ digs then .nx ⟨[a0, a1, a2, some (.str (sign c), false)], m⟩ else .rt .non false ⟨[a0, a1, a2, some (.str (sign c), false)], m⟩ := by
  simp only [digB_, evL, evS, evC, evP, slotD, List.getElem?_cons_zero, List.getElem?_cons_succ, R.bind, R.st, getL, Arg.get, fin, R.test, D.truth, asB, Bool.not_true, Bool.not_false, Bool.false_eq_true, if_false, if_true]
  rw [op_notInS]
  have hs : (st [48, 49, 50, 51, 52, 53, 54, 55, 56, 57]).cps.toList = digs := rfl
  rw [hs]
  by_cases h : c ∈ digs
  · rw [decide_eq_true h, if_pos h]
    simp only [slotD, List.getElem?_cons_zero, List.getElem?_cons_succ, R.bind, R.st, getL, Arg.get, fin, R.test, D.truth, asB, Bool.not_true, Bool.not_false, Bool.false_eq_true, if_false, if_true]
  · rw [decide_eq_false h, if_neg h]
    simp only [slotD, List.getElem?_cons_zero, List.getElem?_cons_succ, R.bind, R.st, getL, Arg.get, fin, R.test, D.truth, asB, Bool.not_true, Bool.not_false, Bool.false_eq_true, if_false, if_true]
theorem dig_loop {call : CallF} {io : Nat → Option Nat} {a0 a1 a2 : Option (D × Bool)} {m : List Unit} : ∀ (cs : List Nat) (a3 : Option (D × Bool)),
    if (cs.all fun c => decide (c ∈ digs)) = true then ∃ x, forGo [3] true (evL call io digB_) (cs.map fun c => D.str (sign c)) ⟨[a0, a1, a2, a3], m⟩ = .nx ⟨[a0, a1, a2, x], m⟩
    else ∃ x, forGo [3] true (evL call io digB_) (cs.map fun c => D.str (sign c)) ⟨[a0, a1, a2, a3], m⟩ = .rt .non false ⟨[a0, a1, a2, x], m⟩
  | [], a3 => by simp [forGo]
  | c :: r, a3 => by
    have ih := dig_loop (call := call) (io := io) (a0 := a0) (a1 := a1) (a2 := a2) (m := m) r (some (.str (sign c), false))
    have go : forGo [3] true (evL call io digB_) ((c :: r).map fun c => D.str (sign c)) ⟨[a0, a1, a2, a3], m⟩ = match evL call io digB_ ⟨[a0, a1, a2, some (.str (sign c), false)], m⟩ with
      | .nx s2 => forGo [3] true (evL call io digB_) (r.map fun c => D.str (sign c)) s2
      | .ct s2 => forGo [3] true (evL call io digB_) (r.map fun c => D.str (sign c)) s2
      | .bk s2 => .nx s2
      | r => r := rfl
    rw [go, dig_turn]
    by_cases h : c ∈ digs
    · rw [if_pos h]
      simpa [h] using ih
    · rw [if_neg h]
      simp [h]
theorem t5a {k : Nat} {s : Str} {c : Nat} {m : List Unit} (h : Fine s) (hc : L2.atI s.cps.toList 0 = some c) (h110 : c < 0x110000) (hb : isLabel s = true) : ∃ nm, nm = (if c = 126 then L2.cutS s (some 1) none else s) ∧
    progL.call (k + 4) 5 [(.str s, false)] m = endOf none (evL (progL.call (k + 3)) progL.io (dropS_ L5.body 2) ⟨[some (.str s, false), some (.str nm, false), none, none], m⟩) := by
  refine ⟨_, rfl, ?_⟩
  rw [call_at rfl rfl rfl]
  have h1 : s.length ≤ most := Nat.le_trans h.len (by decide)
  show endOf none (evL (progL.call (k + 3)) progL.io L5.body ⟨[some (.str s, false), none, none, none], m⟩) = _
  have e1 : evS (progL.call (k + 3)) progL.io (nthS L5.body 0) ⟨[some (.str s, false), none, none, none], m⟩ = .nx ⟨[some (.str s, false), none, none, none], m⟩ := by
    simp only [L5, nthS, evS, evC, evP, evF, io2, slotD, List.getElem?_cons_zero, List.getElem?_cons_succ, R.bind, R.st, getL, Arg.get, fin, R.test, D.truth, asB, Bool.not_true, Bool.not_false, Bool.false_eq_true, if_false, if_true, argsOf, lents, reduceCtorEq]
    rw [show ([some (D.str s, false), none, none, none] : Slots).set 0 (some (D.str s, false)) = [some (D.str s, false), none, none, none] from rfl]
    rw [t2 h, hb]
    simp only [slotD, List.getElem?_cons_zero, List.getElem?_cons_succ, R.bind, R.st, getL, Arg.get, fin, R.test, D.truth, asB, Bool.not_true, Bool.not_false, Bool.false_eq_true, if_false, if_true, setOut]
  have e2 : evS (progL.call (k + 3)) progL.io (nthS L5.body 1) ⟨[some (.str s, false), none, none, none], m⟩ = .nx ⟨[some (.str s, false), some (.str (if c = 126 then L2.cutS s (some 1) none else s), false), none, none], m⟩ := by
    simp only [L5, nthS, evS, evC, evP, evF, slotD, List.getElem?_cons_zero, List.getElem?_cons_succ, R.bind, R.st, getL, Arg.get, fin, R.test, D.truth, asB, Bool.not_true, Bool.not_false, Bool.false_eq_true, if_false, if_true]
    rw [op_idxS h1 hc]
    simp only [slotD, List.getElem?_cons_zero, List.getElem?_cons_succ, R.bind, R.st, getL, Arg.get, fin, R.test, D.truth, asB, Bool.not_true, Bool.not_false, Bool.false_eq_true, if_false, if_true]
    rw [op_eqS (sign_ok h110) (st_ok (by decide)), sign_eq]
    simp only [slotD, List.getElem?_cons_zero, List.getElem?_cons_succ, R.bind, R.st, getL, Arg.get, fin, R.test, D.truth, asB, Bool.not_true, Bool.not_false, Bool.false_eq_true, if_false, if_true]
    by_cases hx : c = 126
    · simp only [hx, decide_true, slotD, List.getElem?_cons_zero, List.getElem?_cons_succ, R.bind, R.st, getL, Arg.get, fin, R.test, D.truth, asB, Bool.not_true, Bool.not_false, Bool.false_eq_true, if_false, if_true]
      rw [op_slcT h1]
      simp [D.isNew, R.st]
    · simp only [hx, decide_false, slotD, List.getElem?_cons_zero, List.getElem?_cons_succ, R.bind, R.st, getL, Arg.get, fin, R.test, D.truth, asB, Bool.not_true, Bool.not_false, Bool.false_eq_true, if_false, if_true]
      simp [R.st]
  have e0 : L5.body = SL.cons (nthS L5.body 0) (SL.cons (nthS L5.body 1) (dropS_ L5.body 2)) := rfl
  rw [e0]
  simp only [evL]
  rw [e1]
  dsimp only
  rw [e2]
  rfl
def heads : List Nat := [102, 97, 99, 116, 101, 112, 108, 114, 98, 107, 100, 117, 118]
/-- no place -/
def noPlace (d : Nat) (figs : Str) : Bool := !decide (d ∈ heads) || !(decide ((1 : Int) ≤ figs.length) && decide ((figs.length : Int) ≤ 3)) || ((match figs.cps.toList with | f :: _ => decide (f = 48) | [] => false) && decide ((1 : Int) < figs.length))
theorem op_gtI {i j : Int} : opEv .gt [.int i, .int j] = some (.bl (decide (j < i))) := rfl
theorem t5b {call : CallF} {io : Nat → Option Nat} {a0 : Option (D × Bool)} {nm figs : Str} {d : Nat} {m : List Unit} (hl : nm.length ≤ 100) (hd : L2.atI nm.cps.toList 0 = some d) (hfl : figs.length ≤ 100) (hok : ∀ f ∈ figs.cps.toList, f < 0x110000) :
    evC call io true (match nthS L5.body 3 with | .ifs c _ _ => c | _ => .bad) ⟨[a0, some (.str nm, false), some (.str figs, false), none], m⟩ = .ok (.bl (noPlace d figs), false) ⟨[a0, some (.str nm, false), some (.str figs, false), none], m⟩ := by
  have h1 : nm.length ≤ most := Nat.le_trans hl (by decide)
  have h2 : figs.length ≤ most := Nat.le_trans hfl (by decide)
  simp only [L5, nthS, evC, evP, slotD, List.getElem?_cons_zero, List.getElem?_cons_succ, R.bind, R.st, getL, Arg.get, fin, R.test, D.truth, asB, Bool.not_true, Bool.not_false, Bool.false_eq_true, if_false, if_true]
  rw [op_idxS h1 hd]
  simp only [slotD, List.getElem?_cons_zero, List.getElem?_cons_succ, R.bind, R.st, getL, Arg.get, fin, R.test, D.truth, asB, Bool.not_true, Bool.not_false, Bool.false_eq_true, if_false, if_true]
  rw [op_notInS]
  have hs : (st [102, 97, 99, 116, 101, 112, 108, 114, 98, 107, 100, 117, 118]).cps.toList = heads := rfl
  rw [hs]
  by_cases b1 : d ∈ heads
  · rw [decide_eq_true b1]
    simp only [slotD, List.getElem?_cons_zero, List.getElem?_cons_succ, R.bind, R.st, getL, Arg.get, fin, R.test, D.truth, asB, Bool.not_true, Bool.not_false, Bool.false_eq_true, if_false, if_true]
    rw [op_lenS h2]
    dsimp only
    rw [op_leI]
    by_cases b2 : (1 : Int) ≤ figs.length
    · rw [decide_eq_true b2]
      dsimp only
      rw [op_leI]
      by_cases b3 : (figs.length : Int) ≤ 3
      · rw [decide_eq_true b3]
        have hn : figs.length = figs.cps.toList.length := by simp [Str.length]
        obtain ⟨f, r, hc⟩ : ∃ f r, figs.cps.toList = f :: r := by
          cases e : figs.cps.toList with
          | nil => rw [e] at hn; simp at hn; omega
          | cons c r => exact ⟨c, r, rfl⟩
        have h0 : L2.atI figs.cps.toList 0 = some f := by rw [hc]; exact L2.atI_nat (j := 0) rfl
        simp only [slotD, List.getElem?_cons_zero, List.getElem?_cons_succ, R.bind, R.st, getL, Arg.get, fin, R.test, D.truth, asB, Bool.not_true, Bool.not_false, Bool.false_eq_true, if_false, if_true]
        rw [op_idxS h2 h0]
        simp only [slotD, List.getElem?_cons_zero, List.getElem?_cons_succ, R.bind, R.st, getL, Arg.get, fin, R.test, D.truth, asB, Bool.not_true, Bool.not_false, Bool.false_eq_true, if_false, if_true]
        rw [op_eqS (sign_ok (hok f (by rw [hc]; exact List.mem_cons_self))) (st_ok (by decide)), sign_eq]
        simp only [slotD, List.getElem?_cons_zero, List.getElem?_cons_succ, R.bind, R.st, getL, Arg.get, fin, R.test, D.truth, asB, Bool.not_true, Bool.not_false, Bool.false_eq_true, if_false, if_true]
        by_cases b4 : f = 48
        · simp only [b4, decide_true, slotD, List.getElem?_cons_zero, List.getElem?_cons_succ, R.bind, R.st, getL, Arg.get, fin, R.test, D.truth, asB, Bool.not_true, Bool.not_false, Bool.false_eq_true, if_false, if_true]
          rw [op_lenS h2]
          simp only [slotD, List.getElem?_cons_zero, List.getElem?_cons_succ, R.bind, R.st, getL, Arg.get, fin, R.test, D.truth, asB, Bool.not_true, Bool.not_false, Bool.false_eq_true, if_false, if_true]
          rw [op_gtI]
          simp [noPlace, b1, b2, b3, hc, b4, D.isNew, fin, D.truth]
        · simp only [b4, decide_false, slotD, List.getElem?_cons_zero, List.getElem?_cons_succ, R.bind, R.st, getL, Arg.get, fin, R.test, D.truth, asB, Bool.not_true, Bool.not_false, Bool.false_eq_true, if_false, if_true]
          simp [noPlace, b1, b2, b3, hc, b4]
      · rw [decide_eq_false b3]
        simp only [slotD, List.getElem?_cons_zero, List.getElem?_cons_succ, R.bind, R.st, getL, Arg.get, fin, R.test, D.truth, asB, Bool.not_true, Bool.not_false, Bool.false_eq_true, if_false, if_true]
        simp [noPlace, b1, b3]
    · rw [decide_eq_false b2]
      simp only [slotD, List.getElem?_cons_zero, List.getElem?_cons_succ, R.bind, R.st, getL, Arg.get, fin, R.test, D.truth, asB, Bool.not_true, Bool.not_false, Bool.false_eq_true, if_false, if_true]
      simp [noPlace, b1, b2]
  · rw [decide_eq_false b1]
    simp only [slotD, List.getElem?_cons_zero, List.getElem?_cons_succ, R.bind, R.st, getL, Arg.get, fin, R.test, D.truth, asB, Bool.not_true, Bool.not_false, Bool.false_eq_true, if_false, if_true]
    simp [noPlace, b1]
/-- a label's place -/
def placeD (d : Nat) (figs : Str) : D := if noPlace d figs = true then .non else if (figs.cps.toList.all fun c => decide (c ∈ digs)) = true then (match PySem.intText? figs with | some n => if n < 200 then .tup [.str (sign d), .int n] else .non | none => .non) else .non
theorem op_ltI {i j : Int} : opEv .lt [.int i, .int j] = some (.bl (decide (i < j))) := rfl
theorem op_intS {s : Str} {n : Int} (h : s.length ≤ 640) (hn : PySem.intText? s = some n) : opEv .toInt [.str s] = some (.int n) := by
  show (if s.length ≤ 640 then (PySem.intText? s).map D.int else none) = _
  rw [if_pos h, hn]; rfl
theorem t5r {call : CallF} {io : Nat → Option Nat} {a0 a3 : Option (D × Bool)} {nm figs : Str} {d : Nat} {n : Int} {m : List Unit} (hl : nm.length ≤ 100) (hd : L2.atI nm.cps.toList 0 = some d) (hfl : figs.length ≤ 100) (hn : PySem.intText? figs = some n) :
    endOf none (evL call io (dropS_ L5.body 5) ⟨[a0, some (.str nm, false), some (.str figs, false), a3], m⟩) = .ok (if n < 200 then .tup [.str (sign d), .int n] else .non) false none m := by
  have h1 : nm.length ≤ most := Nat.le_trans hl (by decide)
  have h2 : figs.length ≤ 640 := by omega
  simp only [L5, dropS_, evL, evS, evC, evP, evV, slotD, List.getElem?_cons_zero, List.getElem?_cons_succ, R.bind, R.st, getL, Arg.get, fin, R.test, D.truth, asB, Bool.not_true, Bool.not_false, Bool.false_eq_true, if_false, if_true]
  rw [op_intS h2 hn]
  simp only [slotD, List.getElem?_cons_zero, List.getElem?_cons_succ, R.bind, R.st, getL, Arg.get, fin, R.test, D.truth, asB, Bool.not_true, Bool.not_false, Bool.false_eq_true, if_false, if_true]
  rw [op_ltI]
  simp only [slotD, List.getElem?_cons_zero, List.getElem?_cons_succ, R.bind, R.st, getL, Arg.get, fin, R.test, D.truth, asB, Bool.not_true, Bool.not_false, Bool.false_eq_true, if_false, if_true]
  by_cases h : n < 200
  · rw [decide_eq_true h, if_pos h]
    simp only [slotD, List.getElem?_cons_zero, List.getElem?_cons_succ, R.bind, R.st, getL, Arg.get, fin, R.test, D.truth, asB, Bool.not_true, Bool.not_false, Bool.false_eq_true, if_false, if_true]
    rw [op_idxS h1 hd]
    simp only [slotD, List.getElem?_cons_zero, List.getElem?_cons_succ, R.bind, R.st, getL, Arg.get, fin, R.test, D.truth, asB, Bool.not_true, Bool.not_false, Bool.false_eq_true, if_false, if_true]
    rw [op_intS h2 hn]
    simp [R.bind, R.st, endOf, outOf, most]
  · rw [decide_eq_false h, if_neg h]
    simp only [slotD, List.getElem?_cons_zero, List.getElem?_cons_succ, R.bind, R.st, getL, Arg.get, fin, R.test, D.truth, asB, Bool.not_true, Bool.not_false, Bool.false_eq_true, if_false, if_true, endOf, outOf]
theorem t5 {k : Nat} {s nm figs : Str} {c d : Nat} {m : List Unit} (h : Fine s) (hc : L2.atI s.cps.toList 0 = some c) (h110 : c < 0x110000) (hb : isLabel s = true) (hnm : nm = if c = 126 then L2.cutS s (some 1) none else s) (hnl : nm.length ≤ 100) (hd : L2.atI nm.cps.toList 0 = some d)
    (hf : figs = L2.cutS nm (some 1) none) (hfl : figs.length ≤ 100) (hok : ∀ f ∈ figs.cps.toList, f < 0x110000) (hn : (figs.cps.toList.all fun c => decide (c ∈ digs)) = true → noPlace d figs = false → ∃ n, PySem.intText? figs = some n) :
    progL.call (k + 4) 5 [(.str s, false)] m = .ok (placeD d figs) false none m := by
  obtain ⟨nm', e0, e1⟩ := t5a (k := k) (m := m) h hc h110 hb
  rw [← hnm] at e0
  subst e0
  rw [e1]
  have h1 : nm'.length ≤ most := Nat.le_trans hnl (by decide)
  have s2 : evS (progL.call (k + 3)) progL.io (nthS L5.body 2) ⟨[some (.str s, false), some (.str nm', false), none, none], m⟩ = .nx ⟨[some (.str s, false), some (.str nm', false), some (.str figs, false), none], m⟩ := by
    simp only [L5, nthS, evS, evC, evP, slotD, List.getElem?_cons_zero, List.getElem?_cons_succ, R.bind, R.st, getL, Arg.get, fin, R.test, D.truth, asB, Bool.not_true, Bool.not_false, Bool.false_eq_true, if_false, if_true]
    rw [op_slcT h1, ← hf]
    simp [D.isNew, R.st]
  have s3 : evS (progL.call (k + 3)) progL.io (nthS L5.body 3) ⟨[some (.str s, false), some (.str nm', false), some (.str figs, false), none], m⟩ = if noPlace d figs = true then .rt .non false ⟨[some (.str s, false), some (.str nm', false), some (.str figs, false), none], m⟩ else .nx ⟨[some (.str s, false), some (.str nm', false), some (.str figs, false), none], m⟩ := by
    have t := t5b (call := progL.call (k + 3)) (io := progL.io) (a0 := some (.str s, false)) (m := m) hnl hd hfl hok
    show ((evC (progL.call (k + 3)) progL.io true (match nthS L5.body 3 with | .ifs c _ _ => c | _ => .bad) _).st _) = _
    rw [t]
    cases noPlace d figs <;> rfl
  have s4 : evS (progL.call (k + 3)) progL.io (nthS L5.body 4) ⟨[some (.str s, false), some (.str nm', false), some (.str figs, false), none], m⟩ = forGo [3] true (evL (progL.call (k + 3)) progL.io digB_) (figs.cps.toList.map fun c => D.str (sign c)) ⟨[some (.str s, false), some (.str nm', false), some (.str figs, false), none], m⟩ := rfl
  have e5 : dropS_ L5.body 2 = SL.cons (nthS L5.body 2) (SL.cons (nthS L5.body 3) (SL.cons (nthS L5.body 4) (dropS_ L5.body 5))) := rfl
  rw [e5]
  simp only [evL]
  rw [s2]
  dsimp only
  rw [s3]
  cases hp : noPlace d figs with
  | true => simp [placeD, hp, endOf, outOf]
  | false =>
    simp only [Bool.false_eq_true, if_false]
    rw [s4]
    have lp := dig_loop (call := progL.call (k + 3)) (io := progL.io) (a0 := some (D.str s, false)) (a1 := some (D.str nm', false)) (a2 := some (D.str figs, false)) (m := m) figs.cps.toList none
    by_cases ha : (figs.cps.toList.all fun c => decide (c ∈ digs)) = true
    · rw [if_pos ha] at lp
      obtain ⟨x, lp⟩ := lp
      rw [lp]
      obtain ⟨n, hn'⟩ := hn ha hp
      dsimp only
      rw [t5r hnl hd hfl hn']
      simp [placeD, hp, ha, hn']
    · rw [if_neg ha] at lp
      obtain ⟨x, lp⟩ := lp
      rw [lp]
      simp [placeD, hp, ha, endOf, outOf]
end K37

set_option Elab.async false
set_option linter.all false
set_option maxRecDepth 100000
set_option maxHeartbeats 1000000
/-! K5: _law_same on the shapes that k37 meets. -/
namespace K37
open PT PySem
theorem t10n {k : Nat} {m : List Unit} : progL.call (k + 1) 10 [(.non, false), (.non, false)] m = .ok (.bl true) false none m := rfl
def eqX : C := C.and (C.op (Op.isi [Ty.str]) (q (C.var 0) q0)) (C.op Op.eq (q (C.var 0) (q (C.var 1) q0)))
theorem t10s {k : Nat} {s : Str} {m : List Unit} (h : PyData.strOk s = true) : progL.call (k + 1) 10 [(.str s, false), (.str s, false)] m = .ok (.bl true) false none m := by
  rw [call_at rfl rfl rfl]
  show endOf none (evL (progL.call k) progL.io L10.body ⟨[some (.str s, false), some (.str s, false), none, none], m⟩) = _
  have e1 : evC (progL.call k) progL.io false eqX ⟨[some (.str s, false), some (.str s, false), none, none], m⟩ = .ok (.bl true, false) ⟨[some (.str s, false), some (.str s, false), none, none], m⟩ := by
    simp only [eqX, evC, evP, slotD, List.getElem?_cons_zero, List.getElem?_cons_succ, R.bind, getL, Arg.get, fin, R.test]
    rw [op_isiS]
    simp only [asB, if_true, slotD, List.getElem?_cons_zero, List.getElem?_cons_succ, R.bind, getL, Arg.get]
    rw [op_eqS h h]
    simp [D.isNew]
  have e2 : evL (progL.call k) progL.io L10.body ⟨[some (.str s, false), some (.str s, false), none, none], m⟩ = match (match (evC (progL.call k) progL.io false eqX ⟨[some (.str s, false), some (.str s, false), none, none], m⟩).st fun d s1 => RS.rt d.1 d.2 s1 with
    | .nx s1 => RS.nx s1
    | x => x) with
    | .nx s1 => evL (progL.call k) progL.io (dropS_ L10.body 5) s1
    | x => x := rfl
  rw [e2, e1]
  rfl
theorem op_eqI {i : Int} : opEv .eq [.int i, .int i] = some (.bl true) := by
  show (if cmpOk (.int i) (.int i) = true then some (D.bl (D.beq (.int i) (.int i))) else none) = _
  rw [if_pos (show cmpOk (.int i) (.int i) = true from by simp [cmpOk, D.py, SeqAt.shaped, PyData.canLay0, PyData.depth])]
  simp [D.beq]
def eqY : C := C.op Op.eq (q (C.var 0) (q (C.var 1) q0))
theorem t10i {k : Nat} {i : Int} {m : List Unit} : progL.call (k + 1) 10 [(.int i, false), (.int i, false)] m = .ok (.bl true) false none m := by
  rw [call_at rfl rfl rfl]
  show endOf none (evL (progL.call k) progL.io L10.body ⟨[some (.int i, false), some (.int i, false), none, none], m⟩) = _
  have e1 : evC (progL.call k) progL.io false eqY ⟨[some (.int i, false), some (.int i, false), none, none], m⟩ = .ok (.bl true, false) ⟨[some (.int i, false), some (.int i, false), none, none], m⟩ := by
    simp only [eqY, evC, evP, slotD, List.getElem?_cons_zero, List.getElem?_cons_succ, R.bind, getL, Arg.get, fin]
    rw [op_eqI]
    simp [D.isNew]
  have e2 : evL (progL.call k) progL.io L10.body ⟨[some (.int i, false), some (.int i, false), none, none], m⟩ = match (match (evC (progL.call k) progL.io false eqY ⟨[some (.int i, false), some (.int i, false), none, none], m⟩).st fun d s1 => RS.rt d.1 d.2 s1 with
    | .nx s1 => RS.nx s1
    | x => x) with
    | .nx s1 => evL (progL.call k) progL.io (dropS_ L10.body 3) s1
    | x => x := rfl
  rw [e2, e1]
  rfl
def callX : C := C.call 10 (q (C.var 2) (q (C.var 3) q0))
def lcX : C := C.lc [2, 3] [2, 3] false (IT.zip (C.var 0) (C.var 1)) q0 callX
theorem io10 : progL.io 10 = none := rfl
theorem turn10 {call : CallF} {x y : D} {a0 a1 : Option (D × Bool)} {m : List Unit} (h : call 10 [(x, false), (y, false)] m = .ok (.bl true) false none m) :
    evC call progL.io false callX ⟨[a0, a1, some (x, false), some (y, false)], m⟩ = .ok (.bl true, false) ⟨[a0, a1, some (x, false), some (y, false)], m⟩ := by
  simp only [callX, evC, evF, io10, slotD, List.getElem?_cons_zero, List.getElem?_cons_succ, R.bind, fin, reduceCtorEq, if_false, List.set, argsOf, lents]
  rw [h]
  rfl
theorem zip10 {call : CallF} {a0 a1 : Option (D × Bool)} {m : List Unit} {cond : Sta → R Bool} (hc : ∀ s, cond s = .ok true s) : ∀ (xs acc : List D), (∀ x ∈ xs, call 10 [(x, false), (x, false)] m = .ok (.bl true) false none m) → acc.length + xs.length ≤ most →
    lcGo [2, 3] [2, 3] false cond (evC call progL.io false callX) (zipD xs xs) acc ⟨[a0, a1, none, none], m⟩ = .ok (acc ++ xs.map fun _ => D.bl true) ⟨[a0, a1, none, none], m⟩
  | [], acc, _, _ => by simp [zipD, lcGo]
  | x :: r, acc, h, hl => by
    have e : zipD (x :: r) (x :: r) = .tup [x, x] :: zipD r r := rfl
    rw [e]
    have ea : assignT [2, 3] false (.tup [x, x]) [a0, a1, none, none] = some [a0, a1, some (x, false), some (x, false)] := rfl
    have ew : wipeE [a0, a1, some (x, false), some (x, false)] [2, 3] = [a0, a1, none, none] := rfl
    simp only [lcGo, ea, hc]
    rw [turn10 (h x List.mem_cons_self)]
    dsimp only
    rw [if_pos (by simp at hl; omega), ew, zip10 hc r _ (fun y hy => h y (List.mem_cons_of_mem _ hy)) (by simp at hl ⊢; omega)]
    simp
theorem allT_rep (xs : List D) : allT (xs.map fun _ => D.bl true) = some true := by
  induction xs with
  | nil => rfl
  | cons x r ih => simp [allT, ih]
def retX : C := C.and (C.op Op.eq (q (C.op Op.len (q (C.var 0) q0)) (q (C.op Op.len (q (C.var 1) q0)) q0))) (C.op Op.all (q lcX q0))
theorem ret10 {call : CallF} {d : D} {xs : List D} {m : List Unit} (hd : d = .lst xs ∨ d = .tup xs) (h : ∀ x ∈ xs, call 10 [(x, false), (x, false)] m = .ok (.bl true) false none m) (hl : xs.length ≤ most) :
    evC call progL.io false retX ⟨[some (d, false), some (d, false), none, none], m⟩ = .ok (.bl true, false) ⟨[some (d, false), some (d, false), none, none], m⟩ := by
  have hz : evI call progL.io (IT.zip (C.var 0) (C.var 1)) ⟨[some (d, false), some (d, false), none, none], m⟩ = .ok (zipD xs xs) ⟨[some (d, false), some (d, false), none, none], m⟩ := by
    rcases hd with rfl | rfl <;> simp [evI, evC, R.bind]
  have hn : opEv .len [d] = some (.int xs.length) := by rcases hd with rfl | rfl <;> rfl
  have hL := zip10 (cond := evA call progL.io q0) (a0 := some (d, false)) (a1 := some (d, false)) (fun _ => rfl) xs [] h (by simpa using hl)
  have el : evC call progL.io false lcX ⟨[some (d, false), some (d, false), none, none], m⟩ = .ok (.lst (xs.map fun _ => D.bl true), true) ⟨[some (d, false), some (d, false), none, none], m⟩ := by
    have e0 : evC call progL.io false lcX ⟨[some (d, false), some (d, false), none, none], m⟩ = fin false ((evI call progL.io (IT.zip (C.var 0) (C.var 1)) ⟨[some (d, false), some (d, false), none, none], m⟩).bind fun ds s1 => if [2, 3].any (owned s1.e) then .bad else
      (lcGo [2, 3] [2, 3] false (evA call progL.io q0) (evC call progL.io false callX) ds [] { s1 with e := wipeE s1.e [2, 3] }).bind fun ys s2 => .ok (.lst ys, true) { s2 with e := backE s1.e s2.e [2, 3] }) := rfl
    rw [e0, hz]
    have e1 : wipeE [some (d, false), some (d, false), none, none] [2, 3] = [some (d, false), some (d, false), none, none] := rfl
    have e2 : [2, 3].any (owned [some (d, false), some (d, false), none, none]) = false := rfl
    simp only [R.bind, e1, e2, Bool.false_eq_true, if_false]
    rw [hL]
    rfl
  have e0 : evC call progL.io false retX ⟨[some (d, false), some (d, false), none, none], m⟩ = (fin false ((evP call progL.io (q (C.op Op.len (q (C.var 0) q0)) (q (C.op Op.len (q (C.var 1) q0)) q0)) ⟨[some (d, false), some (d, false), none, none], m⟩).bind fun ps s1 => match getL s1.e ps with
    | some ds => match opEv .eq ds with
      | some d => .ok (d, d.isNew && decide (Op.eq ≠ .idx)) s1
      | none => .bad
    | none => .bad)).test fun x s1 => if x then evC call progL.io false (C.op Op.all (q lcX q0)) s1 else .ok (.bl false, false) s1 := rfl
  rw [e0]
  simp only [evP, evC, slotD, List.getElem?_cons_zero, List.getElem?_cons_succ, R.bind, getL, Arg.get, fin, hn]
  rw [op_eqI]
  simp only [R.test, asB, if_true]
  rw [show ∀ s, evP call progL.io (q lcX q0) s = (evC call progL.io false lcX s).bind fun d s1 => (evP call progL.io q0 s1).bind fun ps s2 => .ok (.d d.1 :: ps) s2 from fun _ => rfl, el]
  simp only [R.bind, evP, getL, Arg.get]
  have ha : opEv .all [.lst (xs.map fun _ => D.bl true)] = some (.bl true) := by
    show (allT _).map D.bl = _
    rw [allT_rep]; rfl
  rw [ha]
  rfl
theorem t10L {k : Nat} {xs : List D} {m : List Unit} (h : ∀ x ∈ xs, progL.call k 10 [(x, false), (x, false)] m = .ok (.bl true) false none m) (hl : xs.length ≤ most) : progL.call (k + 1) 10 [(.lst xs, false), (.lst xs, false)] m = .ok (.bl true) false none m := by
  rw [call_at rfl rfl rfl]
  have e2 : evL (progL.call k) progL.io L10.body ⟨[some (.lst xs, false), some (.lst xs, false), none, none], m⟩ = match (match (evC (progL.call k) progL.io false retX ⟨[some (.lst xs, false), some (.lst xs, false), none, none], m⟩).st fun d s1 => RS.rt d.1 d.2 s1 with
    | .nx s1 => RS.nx s1
    | x => x) with
    | .nx s1 => evL (progL.call k) progL.io (dropS_ L10.body 1) s1
    | x => x := rfl
  show endOf none (evL (progL.call k) progL.io L10.body ⟨[some (.lst xs, false), some (.lst xs, false), none, none], m⟩) = _
  rw [e2, ret10 (.inl rfl) h hl]
  rfl
theorem t10T {k : Nat} {xs : List D} {m : List Unit} (h : ∀ x ∈ xs, progL.call k 10 [(x, false), (x, false)] m = .ok (.bl true) false none m) (hl : xs.length ≤ most) : progL.call (k + 1) 10 [(.tup xs, false), (.tup xs, false)] m = .ok (.bl true) false none m := by
  rw [call_at rfl rfl rfl]
  have e2 : evL (progL.call k) progL.io L10.body ⟨[some (.tup xs, false), some (.tup xs, false), none, none], m⟩ = match (match (evC (progL.call k) progL.io false retX ⟨[some (.tup xs, false), some (.tup xs, false), none, none], m⟩).st fun d s1 => RS.rt d.1 d.2 s1 with
    | .nx s1 => RS.nx s1
    | x => x) with
    | .nx s1 => evL (progL.call k) progL.io (dropS_ L10.body 1) s1
    | x => x := rfl
  show endOf none (evL (progL.call k) progL.io L10.body ⟨[some (.tup xs, false), some (.tup xs, false), none, none], m⟩) = _
  rw [e2, ret10 (.inr rfl) h hl]
  rfl
end K37

set_option Elab.async false
set_option linter.all false
set_option maxRecDepth 100000
set_option maxHeartbeats 1000000
/-! K6: texts as lists; the figures' menu. -/
namespace K37
open PT PySem
theorem st_app (a b : List Nat) : st a ++ st b = st (a ++ b) := by
  show Str.mk (_ ++ _) = Str.mk _
  simp
theorem st_len (l : List Nat) : (st l).length = l.length := rfl
theorem cut1 (c : Nat) (r : List Nat) : L2.cutS (st (c :: r)) (some 1) none = st r := by
  unfold L2.cutS
  have h1 : HT.sIx (st (c :: r)).length 0 (some 1) = 1 := by
    rw [st_len, show (1 : Int) = ((1 : Nat) : Int) from rfl, HT.sIx_nat]; simp
  rw [h1, HT.sIx_none, st_len]
  simp [st]
theorem cut0 (c : Nat) (r : List Nat) : L2.cutS (st (c :: r)) none (some 1) = st [c] := by
  unfold L2.cutS
  have h1 : HT.sIx (st (c :: r)).length (st (c :: r)).length (some 1) = 1 := by
    rw [st_len, show (1 : Int) = ((1 : Nat) : Int) from rfl, HT.sIx_nat]; simp
  rw [h1, HT.sIx_none]
  simp [st]
theorem goes_is (c : Nat) : (st [126]).cps.contains c = decide (c = 126) := by
  by_cases h : c = 126 <;> simp [st, h]
theorem strip_is {sg : List Nat} {c : Nat} {r : List Nat} (hs : sg = [] ∨ sg = [126]) (h : ∀ x ∈ c :: r, x ≠ 126) : Txt.stripChars (st (sg ++ c :: r)) (st [126]) = st (c :: r) := by
  unfold Txt.stripChars Txt.stripBy
  have hc : (st [126]).cps.contains c = false := by rw [goes_is]; simpa using h c List.mem_cons_self
  have last : ∀ l : List Nat, (∀ x ∈ l, x ≠ 126) → l.takeWhile (fun x => (st [126]).cps.contains x) = [] := fun l hl => by
    cases l with
    | nil => rfl
    | cons x t => rw [List.takeWhile_cons, goes_is, decide_eq_false (hl x List.mem_cons_self)]; rfl
  have hrev : ∀ x ∈ (c :: r).reverse, x ≠ 126 := fun x hx => h x (List.mem_reverse.mp hx)
  rcases hs with rfl | rfl
  · have lo : stripLo (fun x => (st [126]).cps.contains x) true (st ([] ++ c :: r)) = 0 := by
      show ((c :: r).takeWhile _).length = 0
      rw [last _ h]; rfl
    have hi : stripHi (fun x => (st [126]).cps.contains x) true (st ([] ++ c :: r)) 0 = (st ([] ++ c :: r)).length := by
      show (st ([] ++ c :: r)).length - (((c :: r).drop 0).reverse.takeWhile _).length = _
      rw [List.drop_zero, last _ hrev]; rfl
    have ss : stripSame (fun x => (st [126]).cps.contains x) true true (st ([] ++ c :: r)) = true := by
      unfold stripSame
      rw [lo, hi]; simp
    rw [if_pos ss]; rfl
  · have lo : stripLo (fun x => (st [126]).cps.contains x) true (st ([126] ++ c :: r)) = 1 := by
      show ((126 :: c :: r).takeWhile _).length = 1
      rw [List.takeWhile_cons, goes_is, decide_eq_true rfl, if_pos rfl, last _ h]; rfl
    have hi : stripHi (fun x => (st [126]).cps.contains x) true (st ([126] ++ c :: r)) 1 = (st ([126] ++ c :: r)).length := by
      show (st ([126] ++ c :: r)).length - (((126 :: c :: r).drop 1).reverse.takeWhile _).length = _
      rw [List.drop_succ_cons, List.drop_zero, last _ hrev]; rfl
    have ss : stripSame (fun x => (st [126]).cps.contains x) true true (st ([126] ++ c :: r)) = false := by
      unfold stripSame
      rw [lo]; rfl
    rw [if_neg (by rw [ss]; exact Bool.false_ne_true)]
    unfold stripped
    rw [lo, hi]
    show Builtin.Str.strSub _ _ _ = _
    unfold Builtin.Str.strSub
    apply congrArg Str.mk
    apply Array.ext'
    rw [Array.toList_extract]
    simp [st, Str.length]
/-! ### the menu -/
def dn (n : Int) : List Nat := (Str.ofString (toString n)).cps.toList
def allN : List Int := (List.range 250).map Int.ofNat ++ [999]
def figsAll : List (List Nat) := [] :: [120] :: allN.flatMap fun n => [dn n, 48 :: dn n, 48 :: 48 :: dn n, 107 :: dn n]
def allDig (fs : List Nat) : Bool := fs.all fun c => decide (c ∈ digs)
def g1 (fs : List Nat) : Bool := !fs.isEmpty && allDig fs
def g2 (fs : List Nat) : Bool := decide (fs = [48]) || (match fs with | c :: _ => !decide (c = 48) | [] => false)
def intF (fs : List Nat) : Int := (PySem.intText? (st fs)).getD 0
def badSigns (fs : List Nat) : List D := (fs.filter fun c => !decide (c ∈ digs)).map fun c => .str (sign c)
def eqNil (fs : List Nat) : Bool := match opEv .eq [.lst (badSigns fs), .lst []] with
  | some (.bl b) => b == allDig fs
  | _ => false
def place? (fs : List Nat) : Bool := decide (1 ≤ fs.length) && decide (fs.length ≤ 3) && !((match fs with | c :: _ => decide (c = 48) | [] => false) && decide (1 < fs.length)) && allDig fs && decide (intF fs < 200)
def good? (fs : List Nat) : Bool := g1 fs && g2 fs && decide (intF fs < 200)
def figB (fs : List Nat) : Bool := (fs.all fun c => decide (c ∈ signs)) && decide (fs.length ≤ 7) && eqNil fs && (!g1 fs || (PySem.intText? (st fs)).isSome) && (place? fs == good? fs)
theorem figs_ok : figsAll.all figB = true := by decide +kernel
end K37

set_option Elab.async false
set_option linter.all false
set_option maxRecDepth 100000
set_option maxHeartbeats 1000000
/-! K7: the checks of one label. -/
namespace K37
open PT PySem
theorem small_ok : small.all (fun d => decide (d ≠ 126) && decide (d < 0x110000) && decide (d ∈ signs) && (decide (d ∈ lets.cps.toList) == decide (d ∈ heads))) = true := by decide +kernel
theorem signs_ok : signs.all (fun d => decide (d ≠ 126) && decide (d < 0x110000)) = true := by decide +kernel
/-- one label: a sign or none, a small letter, figures of the menu -/
structure Lab (sg : List Nat) (d : Nat) (fs : List Nat) : Prop where
  sg : sg = [] ∨ sg = [126]
  d : d ∈ small
  f : figB fs = true
section
variable {sg fs : List Nat} {d : Nat} (L : Lab sg d fs)
include L
theorem Lab.dd : d ≠ 126 ∧ d < 0x110000 ∧ d ∈ signs ∧ (d ∈ lets.cps.toList ↔ d ∈ heads) := by
  have h := List.all_eq_true.mp small_ok d L.d
  simp only [Bool.and_eq_true, decide_eq_true_eq, beq_iff_eq, decide_eq_decide] at h
  exact ⟨h.1.1.1, h.1.1.2, h.1.2, h.2⟩
theorem Lab.ff : (∀ f ∈ fs, f ∈ signs) ∧ fs.length ≤ 7 ∧ eqNil fs = true ∧ (g1 fs = true → (PySem.intText? (st fs)).isSome = true) ∧ place? fs = good? fs := by
  have h := L.f
  unfold figB at h
  simp only [Bool.and_eq_true, List.all_eq_true, decide_eq_true_eq, Bool.or_eq_true, Bool.not_eq_true', beq_iff_eq] at h
  obtain ⟨⟨⟨⟨a, b⟩, c⟩, e⟩, f⟩ := h
  exact ⟨a, b, c, fun z => e.elim (fun y => by rw [z] at y; cases y) id, f⟩
theorem Lab.all : ∀ x ∈ d :: fs, x ≠ 126 ∧ x < 0x110000 := by
  intro x hx
  have : x ∈ signs := by
    rcases List.mem_cons.mp hx with rfl | hx
    · exact L.dd.2.2.1
    · exact L.ff.1 x hx
  have h := List.all_eq_true.mp signs_ok x this
  simpa using h
theorem Lab.len : (sg ++ d :: fs).length ≤ 9 := by
  have h := L.ff.2.1
  rcases L.sg with rfl | rfl <;> simp <;> omega
theorem Lab.name : isName (st (d :: fs)) = true := by
  have h := L.ff.2.1
  unfold isName
  have e : (st (d :: fs)).cps.toList = d :: fs := rfl
  have hs : ∀ x ∈ d :: fs, x ∈ signs := fun x hx => by
    rcases List.mem_cons.mp hx with rfl | hx
    · exact L.dd.2.2.1
    · exact L.ff.1 x hx
  rw [e, st_len]
  simp only [Bool.and_eq_true, decide_eq_true_eq, List.all_eq_true]
  exact ⟨⟨⟨by simp, by simp; omega⟩, L.d⟩, hs⟩
theorem Lab.nice : Fine (st (sg ++ d :: fs)) ∧ isLabel (st (sg ++ d :: fs)) = true ∧ ∃ c, L2.atI (st (sg ++ d :: fs)).cps.toList 0 = some c ∧ c < 0x110000 ∧ (decide (c = 126) = decide (sg = [126])) ∧ (if c = 126 then L2.cutS (st (sg ++ d :: fs)) (some 1) none else st (sg ++ d :: fs)) = st (d :: fs) := by
  have hl := L.len
  have hd := L.dd
  rcases L.sg with rfl | rfl
  · have e : ([] ++ d :: fs : List Nat) = d :: fs := rfl
    rw [e] at hl ⊢
    refine ⟨⟨by rw [st_len]; omega, ?_, ?_⟩, ?_, d, L2.atI_nat (j := 0) rfl, hd.2.1, ?_, ?_⟩
    · rw [cut0]; exact st_ok (by simp; exact hd.2.1)
    · rw [cut1, st_len]; simp at hl; omega
    · unfold isLabel
      have : (st [d] == st [126]) = false := by rw [show st [d] = sign d from rfl, sign_eq]; exact decide_eq_false hd.1
      rw [cut0, this, if_neg Bool.false_ne_true]
      exact L.name
    · simp [hd.1]
    · rw [if_neg hd.1]
  · have e : ([126] ++ d :: fs : List Nat) = 126 :: d :: fs := rfl
    rw [e] at hl ⊢
    refine ⟨⟨by rw [st_len]; omega, ?_, ?_⟩, ?_, 126, L2.atI_nat (j := 0) rfl, by decide, by simp, ?_⟩
    · rw [cut0]; exact st_ok (by decide)
    · rw [cut1, st_len]; simp at hl ⊢; omega
    · unfold isLabel
      have : (st [126] == st [126]) = true := by simp
      rw [cut0, this, if_pos rfl, cut1]
      exact L.name
    · rw [if_pos rfl, cut1]
theorem Lab.place : placeD d (st fs) = if (decide (d ∈ lets.cps.toList) && good? fs) = true then .tup [.str (sign d), .int (intF fs)] else .non := by
  obtain ⟨_, _, _, hi, hp⟩ := L.ff
  have hd := L.dd.2.2.2
  rw [← hp]
  unfold placeD noPlace place?
  rw [show decide (d ∈ lets.cps.toList) = decide (d ∈ heads) from decide_eq_decide.mpr hd]
  have e1 : decide ((1 : Int) ≤ ((st fs).length : Int)) = decide (1 ≤ fs.length) := decide_eq_decide.mpr (by rw [st_len]; omega)
  have e2 : decide (((st fs).length : Int) ≤ 3) = decide (fs.length ≤ 3) := decide_eq_decide.mpr (by rw [st_len]; omega)
  have e3 : decide ((1 : Int) < ((st fs).length : Int)) = decide (1 < fs.length) := decide_eq_decide.mpr (by rw [st_len]; omega)
  rw [e1, e2, e3]
  show (if (!decide (d ∈ heads) || !(decide (1 ≤ fs.length) && decide (fs.length ≤ 3)) || (match (generalizing := false) fs with | f :: _ => decide (f = 48) | [] => false) && decide (1 < fs.length)) = true then D.non else if allDig fs = true then match PySem.intText? (st fs) with
    | some n => if n < 200 then D.tup [D.str (sign d), D.int n] else D.non
    | none => D.non
    else D.non) = _
  have h1 : decide (1 ≤ fs.length) = true → fs.isEmpty = false := fun h => by cases fs <;> simp at h ⊢
  cases hE : allDig fs with
  | false => simp
  | true =>
    cases hB : decide (1 ≤ fs.length) with
    | false => simp
    | true =>
      have hg : g1 fs = true := by unfold g1; rw [h1 hB, hE]; rfl
      obtain ⟨n, hn⟩ := Option.isSome_iff_exists.mp (hi hg)
      have hn2 : intF fs = n := by unfold intF; rw [hn]; rfl
      rw [hn, hn2]
      cases decide (d ∈ heads) <;> cases decide (fs.length ≤ 3) <;> cases ((match (generalizing := false) fs with | f :: _ => decide (f = 48) | [] => false) && decide (1 < fs.length)) <;> simp
end
end K37

set_option Elab.async false
set_option linter.all false
set_option maxRecDepth 100000
set_option maxHeartbeats 1000000
/-! K8: the checks of one turn. -/
namespace K37
open PT PySem
def s8 : S := S.asg 8 (C.op Op.strip (q (C.var 7) (q (C.con (D.str (st [126]))) q0)))
def s9 : S := S.asg 9 (C.op (Op.slc true false) (q (C.var 8) (q (C.con (D.int 1)) q0)))
def lcF : C := C.lc [12] [12] true (IT.val (C.var 9)) (q (C.op Op.notIn (q (C.var 12) (q (C.con (D.str (st digs))) q0))) q0) (C.var 12)
def s10 : S := S.asg 10 ((C.op Op.isIn (q (C.op Op.idx (q (C.var 8) (q (C.con (D.int 0)) q0))) (q (C.var 2) q0))).and ((C.op Op.ne (q (C.var 9) (q (C.con (D.str (st []))) q0))).and (C.op Op.eq (q lcF (q (C.mkL q0) q0)))))
def s11 : S := S.asg 10 ((C.var 10).and (((C.op Op.eq (q (C.var 9) (q (C.con (D.str (st [48]))) q0))).or (C.op Op.ne (q (C.op Op.idx (q (C.var 9) (q (C.con (D.int 0)) q0))) (q (C.con (D.str (st [48]))) q0)))).and (C.op Op.lt (q (C.op Op.toInt (q (C.var 9) q0)) (q (C.con (D.int 200)) q0)))))
def c12 : C := C.call 10 (q (C.call 5 (q (C.var 7) q0)) (q ((C.var 10).ite (C.mkT (q (C.op Op.idx (q (C.var 8) (q (C.con (D.int 0)) q0))) (q (C.op Op.toInt (q (C.var 9) q0)) q0))) (C.con D.non)) q0))
def s12 : S := S.ifs c12.not (SL.cons (S.ret (C.con (D.bl false))) SL.nil) SL.nil
def c13 : C := C.call 10 (q (C.mkL (q (C.call 4 (q (C.var 7) q0)) (q (C.call 4 (q (C.call 4 (q (C.var 7) q0)) q0)) q0))) (q (C.mkL (q ((C.op Op.eq (q (C.op Op.idx (q (C.var 7) (q (C.con (D.int 0)) q0))) (q (C.con (D.str (st [126]))) q0))).ite (C.var 8) (C.op Op.add (q (C.con (D.str (st [126]))) (q (C.var 8) q0)))) (q (C.var 7) q0))) q0))
def s13 : S := S.ifs c13.not (SL.cons (S.ret (C.con (D.bl false))) SL.nil) SL.nil
theorem chk_is : chkL = .cons s8 (.cons s9 (.cons s10 (.cons s11 (.cons s12 (.cons s13 .nil))))) := rfl
section
variable {call : CallF} {io : Nat → Option Nat} {a0 a1 a3 a4 a5 a6 a11 x8 x9 x10 : Option (D × Bool)} {m : List Unit} {sg fs : List Nat} {d : Nat}
theorem r8 (L : Lab sg d fs) : evS call io s8 ⟨[a0, a1, some (.str lets, false), a3, a4, a5, a6, some (.str (st (sg ++ d :: fs)), false), x8, x9, x10, a11, none], m⟩
    = .nx ⟨[a0, a1, some (.str lets, false), a3, a4, a5, a6, some (.str (st (sg ++ d :: fs)), false), some (.str (st (d :: fs)), false), x9, x10, a11, none], m⟩ := by
  simp only [s8, evS, evC, evP, slotD, List.getElem?_cons_zero, List.getElem?_cons_succ, R.bind, R.st, getL, Arg.get, fin]
  have e : opEv .strip [.str (st (sg ++ d :: fs)), .str (st [126])] = some (.str (st (d :: fs))) := by
    show (if (st (sg ++ d :: fs)).length ≤ most then some (D.str (Txt.stripChars (st (sg ++ d :: fs)) (st [126]))) else none) = _
    rw [if_pos (by rw [st_len]; exact Nat.le_trans L.len (by decide)), strip_is L.sg fun x hx => (L.all x hx).1]
  rw [e]
  rfl
theorem r9 (L : Lab sg d fs) : evS call io s9 ⟨[a0, a1, some (.str lets, false), a3, a4, a5, a6, some (.str (st (sg ++ d :: fs)), false), some (.str (st (d :: fs)), false), x9, x10, a11, none], m⟩
    = .nx ⟨[a0, a1, some (.str lets, false), a3, a4, a5, a6, some (.str (st (sg ++ d :: fs)), false), some (.str (st (d :: fs)), false), some (.str (st fs), false), x10, a11, none], m⟩ := by
  simp only [s9, evS, evC, evP, slotD, List.getElem?_cons_zero, List.getElem?_cons_succ, R.bind, R.st, getL, Arg.get, fin]
  rw [op_slcT (by rw [st_len]; have := L.ff.2.1; simp; unfold most; omega), cut1]
  rfl
theorem op_neS {s t : Str} (hs : PyData.strOk s = true) (ht : PyData.strOk t = true) : opEv .ne [.str s, .str t] = some (.bl (!(s == t))) := by
  show (if cmpOk (.str s) (.str t) = true then some (D.bl (!D.beq (.str s) (.str t))) else none) = _
  rw [if_pos (cmp_str s t hs ht)]; simp [D.beq]
theorem fs_ok (L : Lab sg d fs) : PyData.strOk (st fs) = true := st_ok (List.all_eq_true.mpr fun x hx => decide_eq_true (L.all x (List.mem_cons_of_mem _ hx)).2)
theorem lc_F (L : Lab sg d fs) {e2 : Option (D × Bool)} : evC call io false lcF ⟨[a0, a1, e2, a3, a4, a5, a6, some (.str (st (sg ++ d :: fs)), false), some (.str (st (d :: fs)), false), some (.str (st fs), false), x10, a11, none], m⟩
    = .ok (.lst (badSigns fs), true) ⟨[a0, a1, e2, a3, a4, a5, a6, some (.str (st (sg ++ d :: fs)), false), some (.str (st (d :: fs)), false), some (.str (st fs), false), x10, a11, none], m⟩ := by
  have e0 : ∀ s, evC call io false lcF s = if [12].any (owned s.e) then .bad else fin false ((evI call io (IT.val (C.var 9)) s).bind fun ds s1 => if [12].any (owned s1.e) then .bad else
      (lcGo [12] [12] true (evA call io (q (C.op Op.notIn (q (C.var 12) (q (C.con (D.str (st digs))) q0))) q0)) (evC call io false (C.var 12)) ds [] { s1 with e := wipeE s1.e [12] }).bind fun ys s2 => .ok (.lst ys, true) { s2 with e := backE s1.e s2.e [12] }) := fun s => rfl
  rw [e0]
  have hI : evI call io (IT.val (C.var 9)) ⟨[a0, a1, e2, a3, a4, a5, a6, some (.str (st (sg ++ d :: fs)), false), some (.str (st (d :: fs)), false), some (.str (st fs), false), x10, a11, none], m⟩ = .ok (fs.map fun c => D.str (sign c)) ⟨[a0, a1, e2, a3, a4, a5, a6, some (.str (st (sg ++ d :: fs)), false), some (.str (st (d :: fs)), false), some (.str (st fs), false), x10, a11, none], m⟩ := rfl
  have ow : [12].any (owned [a0, a1, e2, a3, a4, a5, a6, some (.str (st (sg ++ d :: fs)), false), some (.str (st (d :: fs)), false), some (.str (st fs), false), x10, a11, none]) = false := rfl
  have wp : wipeE [a0, a1, e2, a3, a4, a5, a6, some (.str (st (sg ++ d :: fs)), false), some (.str (st (d :: fs)), false), some (.str (st fs), false), x10, a11, none] [12] = [a0, a1, e2, a3, a4, a5, a6, some (.str (st (sg ++ d :: fs)), false), some (.str (st (d :: fs)), false), some (.str (st fs), false), x10, a11, none] := rfl
  have hL := lc_gen (i := 12) (E := [a0, a1, e2, a3, a4, a5, a6, some (.str (st (sg ++ d :: fs)), false), some (.str (st (d :: fs)), false), some (.str (st fs), false), x10, a11, none]) (m := m) rfl (cond := evA call io (q (C.op Op.notIn (q (C.var 12) (q (C.con (D.str (st digs))) q0))) q0)) (e := evC call io false (C.var 12))
    (p := fun d => match d with | .str t => !decide (t.cps.getD 0 0 ∈ digs) | _ => false) (f := fun d => (d, false)) (fs.map fun c => D.str (sign c)) [] (fun x hx => by
      obtain ⟨c', _, rfl⟩ := List.mem_map.mp hx
      have e1 : ∀ s, evA call io (q (C.op Op.notIn (q (C.var 12) (q (C.con (D.str (st digs))) q0))) q0) s = (evC call io true (C.op Op.notIn (q (C.var 12) (q (C.con (D.str (st digs))) q0))) s).test fun x s1 => if x then .ok true s1 else .ok false s1 := fun s => rfl
      rw [e1]
      simp only [evC, evP, slotD, List.set_cons_succ, List.set_cons_zero, List.getElem?_cons_zero, List.getElem?_cons_succ, R.bind, getL, Arg.get, fin]
      rw [op_notInS]
      have hg : (sign c').cps.getD 0 0 = c' := rfl
      simp only [hg]
      show R.test (.ok (D.bl (!decide (c' ∈ digs)), false) _) _ = _
      simp only [R.test, asB]
      cases (!decide (c' ∈ digs)) <;> rfl) (fun x hx _ => by
      obtain ⟨c', _, rfl⟩ := List.mem_map.mp hx
      rfl) (by have := L.ff.2.1; simp; unfold most; omega)
  have hf : (List.map (fun d => ((d, false) : D × Bool).1) (List.filter (fun d => match d with | .str t => !decide (t.cps.getD 0 0 ∈ digs) | _ => false) (fs.map fun c => D.str (sign c)))) = badSigns fs := by
    rw [List.filter_map]
    simp only [List.map_map]
    rfl
  rw [hI]
  simp only [ow, Bool.false_eq_true, if_false, R.bind, wp]
  rw [hf, List.nil_append] at hL
  rw [hL]
  rfl
end
end K37

set_option Elab.async false
set_option linter.all false
set_option maxRecDepth 100000
set_option maxHeartbeats 1000000
/-! K9: the checks of one turn, on. -/
namespace K37
open PT PySem
section
variable {io : Nat → Option Nat} {a0 a1 a3 a4 a5 a6 a11 x8 x9 x10 : Option (D × Bool)} {m : List Unit} {sg fs : List Nat} {d : Nat}
/-- the state behind good -/
abbrev EE (a0 a1 a3 a4 a5 a6 a11 : Option (D × Bool)) (sg fs : List Nat) (d : Nat) (x10 : Option (D × Bool)) : Slots := [a0, a1, some (.str lets, false), a3, a4, a5, a6, some (.str (st (sg ++ d :: fs)), false), some (.str (st (d :: fs)), false), some (.str (st fs), false), x10, a11, none]
theorem fs_eq0 : (st fs == st []) = fs.isEmpty := by
  cases fs with
  | nil => simp
  | cons a r =>
    have : st (a :: r) ≠ st [] := fun z => by cases z
    simp [this]
theorem fs_eq48 : (st fs == st [48]) = decide (fs = [48]) := by
  by_cases h : fs = [48]
  · subst h; simp
  · have : st fs ≠ st [48] := fun z => h (by cases z; rfl)
    simp [h, this]
theorem r10 {call : CallF} (L : Lab sg d fs) : evS call io s10 ⟨EE a0 a1 a3 a4 a5 a6 a11 sg fs d x10, m⟩ = .nx ⟨EE a0 a1 a3 a4 a5 a6 a11 sg fs d (some (.bl (decide (d ∈ lets.cps.toList) && g1 fs), false)), m⟩ := by
  have hl : (st (d :: fs)).length ≤ most := by have := L.ff.2.1; rw [st_len]; simp; unfold most; omega
  have i0 : opEv .idx [.str (st (d :: fs)), .int 0] = some (.str (sign d)) := op_idxS hl (L2.atI_nat (j := 0) rfl)
  have he : evC call io true (C.op Op.isIn (q (C.op Op.idx (q (C.var 8) (q (C.con (D.int 0)) q0))) (q (C.var 2) q0))) ⟨EE a0 a1 a3 a4 a5 a6 a11 sg fs d x10, m⟩ = .ok (.bl (decide (d ∈ lets.cps.toList)), false) ⟨EE a0 a1 a3 a4 a5 a6 a11 sg fs d x10, m⟩ := by
    simp only [EE, evC, evP, slotD, List.getElem?_cons_zero, List.getElem?_cons_succ, R.bind, getL, Arg.get, fin]
    rw [i0]
    simp only [R.bind, getL, Arg.get, slotD, List.getElem?_cons_zero, List.getElem?_cons_succ]
    rw [op_isInS]
    rfl
  have he' : evC call io false (C.op Op.isIn (q (C.op Op.idx (q (C.var 8) (q (C.con (D.int 0)) q0))) (q (C.var 2) q0))) ⟨EE a0 a1 a3 a4 a5 a6 a11 sg fs d x10, m⟩ = .ok (.bl (decide (d ∈ lets.cps.toList)), false) ⟨EE a0 a1 a3 a4 a5 a6 a11 sg fs d x10, m⟩ := by
    simp only [EE, evC, evP, slotD, List.getElem?_cons_zero, List.getElem?_cons_succ, R.bind, getL, Arg.get, fin]
    rw [i0]
    simp only [R.bind, getL, Arg.get, slotD, List.getElem?_cons_zero, List.getElem?_cons_succ]
    rw [op_isInS]
    rfl
  have hn : evC call io false (C.op Op.ne (q (C.var 9) (q (C.con (D.str (st []))) q0))) ⟨EE a0 a1 a3 a4 a5 a6 a11 sg fs d x10, m⟩ = .ok (.bl (!fs.isEmpty), false) ⟨EE a0 a1 a3 a4 a5 a6 a11 sg fs d x10, m⟩ := by
    simp only [EE, evC, evP, slotD, List.getElem?_cons_zero, List.getElem?_cons_succ, R.bind, getL, Arg.get, fin]
    rw [op_neS (fs_ok L) (st_ok (by decide)), fs_eq0]
    rfl
  have hq : evC call io false (C.op Op.eq (q lcF (q (C.mkL q0) q0))) ⟨EE a0 a1 a3 a4 a5 a6 a11 sg fs d x10, m⟩ = .ok (.bl (allDig fs), false) ⟨EE a0 a1 a3 a4 a5 a6 a11 sg fs d x10, m⟩ := by
    have e0 : ∀ s, evC call io false (C.op Op.eq (q lcF (q (C.mkL q0) q0))) s = fin false (((evC call io false lcF s).bind fun d s1 => ((evC call io false (C.mkL q0) s1).bind fun d s1 => (R.ok [] s1).bind fun ps s2 => .ok (Arg.d d.1 :: ps) s2).bind fun ps s2 => .ok (Arg.d d.1 :: ps) s2).bind fun ps s1 => match getL s1.e ps with
      | some ds => match opEv .eq ds with
        | some d => .ok (d, d.isNew && decide (Op.eq ≠ .idx)) s1
        | none => .bad
      | none => .bad) := fun s => rfl
    rw [e0, lc_F L]
    have em : ∀ s, evC call io false (C.mkL q0) s = .ok (.lst [], true) s := fun s => rfl
    simp only [R.bind, em, getL, Arg.get]
    have h := L.ff.2.2.1
    unfold eqNil at h
    revert h
    split
    · rename_i b hb
      intro h
      rw [hb]
      simp only [beq_iff_eq] at h
      subst h
      rfl
    · intro h; cases h
  have ea : ∀ s, evC call io false (C.and (C.op Op.isIn (q (C.op Op.idx (q (C.var 8) (q (C.con (D.int 0)) q0))) (q (C.var 2) q0))) ((C.op Op.ne (q (C.var 9) (q (C.con (D.str (st []))) q0))).and (C.op Op.eq (q lcF (q (C.mkL q0) q0))))) s =
    (evC call io false (C.op Op.isIn (q (C.op Op.idx (q (C.var 8) (q (C.con (D.int 0)) q0))) (q (C.var 2) q0))) s).test fun x s1 => if x then ((evC call io false (C.op Op.ne (q (C.var 9) (q (C.con (D.str (st []))) q0))) s1).test fun x s1 => if x then evC call io false (C.op Op.eq (q lcF (q (C.mkL q0) q0))) s1 else .ok (.bl false, false) s1) else .ok (.bl false, false) s1 := fun s => rfl
  show (evC call io false _ _).st _ = _
  rw [ea, he']
  simp only [R.test, asB]
  cases h1 : decide (d ∈ lets.cps.toList) with
  | false => rfl
  | true =>
    rw [if_pos rfl, hn]
    simp only [R.test, asB]
    cases h2 : fs.isEmpty with
    | true => simp [R.st, g1, h2, EE]
    | false =>
      rw [Bool.not_false, if_pos rfl, hq]
      simp [R.st, g1, h2, EE]
theorem r11 {call : CallF} (L : Lab sg d fs) : evS call io s11 ⟨EE a0 a1 a3 a4 a5 a6 a11 sg fs d (some (.bl (decide (d ∈ lets.cps.toList) && g1 fs), false)), m⟩ = .nx ⟨EE a0 a1 a3 a4 a5 a6 a11 sg fs d (some (.bl (decide (d ∈ lets.cps.toList) && good? fs), false)), m⟩ := by
  show (evC call io false _ _).st _ = _
  have ea : ∀ s, evC call io false ((C.var 10).and (((C.op Op.eq (q (C.var 9) (q (C.con (D.str (st [48]))) q0))).or (C.op Op.ne (q (C.op Op.idx (q (C.var 9) (q (C.con (D.int 0)) q0))) (q (C.con (D.str (st [48]))) q0)))).and (C.op Op.lt (q (C.op Op.toInt (q (C.var 9) q0)) (q (C.con (D.int 200)) q0))))) s =
    (evC call io false (C.var 10) s).test fun x s1 => if x then (((evC call io false (C.op Op.eq (q (C.var 9) (q (C.con (D.str (st [48]))) q0))) s1).test fun x s1 => if x then .ok (.bl true, false) s1 else evC call io false (C.op Op.ne (q (C.op Op.idx (q (C.var 9) (q (C.con (D.int 0)) q0))) (q (C.con (D.str (st [48]))) q0))) s1).test fun x s1 => if x then evC call io false (C.op Op.lt (q (C.op Op.toInt (q (C.var 9) q0)) (q (C.con (D.int 200)) q0))) s1 else .ok (.bl false, false) s1) else .ok (.bl false, false) s1 := fun s => rfl
  rw [ea]
  have ev : ∀ b, evC call io false (C.var 10) ⟨EE a0 a1 a3 a4 a5 a6 a11 sg fs d (some (.bl b, false)), m⟩ = .ok (.bl b, false) ⟨EE a0 a1 a3 a4 a5 a6 a11 sg fs d (some (.bl b, false)), m⟩ := fun b => rfl
  rw [ev]
  simp only [R.test, asB]
  cases h1 : (decide (d ∈ lets.cps.toList) && g1 fs) with
  | false =>
    have : (decide (d ∈ lets.cps.toList) && good? fs) = false := by
      unfold good?
      revert h1
      cases decide (d ∈ lets.cps.toList) <;> cases g1 fs <;> simp
    rw [this]; rfl
  | true =>
    have hg : g1 fs = true := by revert h1; cases g1 fs <;> simp
    have hd : decide (d ∈ lets.cps.toList) = true := by revert h1; cases decide (d ∈ lets.cps.toList) <;> simp
    obtain ⟨n, hn⟩ := Option.isSome_iff_exists.mp (L.ff.2.2.2.1 hg)
    have hi : intF fs = n := by unfold intF; rw [hn]; rfl
    have hlt : evC call io false (C.op Op.lt (q (C.op Op.toInt (q (C.var 9) q0)) (q (C.con (D.int 200)) q0))) ⟨EE a0 a1 a3 a4 a5 a6 a11 sg fs d (some (.bl true, false)), m⟩ = .ok (.bl (decide (intF fs < 200)), false) ⟨EE a0 a1 a3 a4 a5 a6 a11 sg fs d (some (.bl true, false)), m⟩ := by
      simp only [EE, evC, evP, slotD, List.getElem?_cons_zero, List.getElem?_cons_succ, R.bind, getL, Arg.get, fin]
      rw [op_intS (by have := L.ff.2.1; rw [st_len]; omega) hn]
      simp only [R.bind, getL, Arg.get]
      rw [op_ltI, hi]
      rfl
    rw [if_pos rfl]
    have h48 : evC call io false (C.op Op.eq (q (C.var 9) (q (C.con (D.str (st [48]))) q0))) ⟨EE a0 a1 a3 a4 a5 a6 a11 sg fs d (some (.bl true, false)), m⟩ = .ok (.bl (decide (fs = [48])), false) ⟨EE a0 a1 a3 a4 a5 a6 a11 sg fs d (some (.bl true, false)), m⟩ := by
      simp only [EE, evC, evP, slotD, List.getElem?_cons_zero, List.getElem?_cons_succ, R.bind, getL, Arg.get, fin]
      rw [op_eqS (fs_ok L) (st_ok (by decide)), fs_eq48]
      rfl
    rw [h48]
    simp only [R.test, asB]
    unfold good? g2
    rw [hg, hd]
    by_cases h2 : fs = [48]
    · rw [decide_eq_true h2, if_pos rfl]
      simp only [if_true]
      rw [hlt]
      simp [R.st, EE]
    · rw [decide_eq_false h2, if_neg Bool.false_ne_true]
      obtain ⟨c, r, rfl⟩ : ∃ c r, fs = c :: r := by
        cases fs with
        | nil => simp [g1] at hg
        | cons c r => exact ⟨c, r, rfl⟩
      have hne : evC call io false (C.op Op.ne (q (C.op Op.idx (q (C.var 9) (q (C.con (D.int 0)) q0))) (q (C.con (D.str (st [48]))) q0))) ⟨EE a0 a1 a3 a4 a5 a6 a11 sg (c :: r) d (some (.bl true, false)), m⟩ = .ok (.bl (!decide (c = 48)), false) ⟨EE a0 a1 a3 a4 a5 a6 a11 sg (c :: r) d (some (.bl true, false)), m⟩ := by
        simp only [EE, evC, evP, slotD, List.getElem?_cons_zero, List.getElem?_cons_succ, R.bind, getL, Arg.get, fin]
        have hl7 : (st (c :: r)).length ≤ most := Nat.le_trans L.ff.2.1 (by decide)
        have hi0 : L2.atI (st (c :: r)).cps.toList 0 = some c := L2.atI_nat (j := 0) (show (c :: r)[0]? = some c from rfl)
        rw [op_idxS hl7 hi0]
        simp only [R.bind, getL, Arg.get]
        rw [op_neS (sign_ok (L.all c (by simp)).2) (st_ok (by decide)), sign_eq]
        rfl
      rw [hne]
      simp only
      cases h3 : (!decide (c = 48)) with
      | true =>
        simp only [if_true]
        rw [hlt]
        simp [R.st, EE]
      | false =>
        simp [R.st, EE]
end
end K37

set_option Elab.async false
set_option linter.all false
set_option maxRecDepth 100000
set_option maxHeartbeats 1000000
/-! K10: the checks of one turn, the end. -/
namespace K37
open PT PySem
theorem call1 {call : CallF} {io : Nat → Option Nat} {f : Nat} {c : C} {s s1 : Sta} {d : D} {o : Bool} {dr : D} {orr : Bool} (hf : io f = none) (hc : evC call io false c s = .ok (d, o) s1) (h : call f [(d, false)] s1.m = .ok dr orr none s1.m) :
    evC call io false (C.call f (q c q0)) s = .ok (dr, orr) s1 := by
  have e : evC call io false (C.call f (q c q0)) s = fin false ((evF call io (io f) 0 (q c q0) s).bind fun as s1 => match argsOf s1.e as with
    | some ds => match call f ds s1.m with
      | .ok d o out m => match setOut s1.e (lents as) out with
        | some e => .ok (d, o) ⟨e, m⟩
        | none => .bad
      | .exc x ds out m => match setOut s1.e (lents as) out with
        | some e => .exc x ds ⟨e, m⟩
        | none => .bad
      | .bad => .bad
    | none => .bad) := rfl
  rw [e, hf]
  simp only [evF, reduceCtorEq, if_false, hc, R.bind, argsOf, h, lents, setOut, fin]
theorem call2 {call : CallF} {io : Nat → Option Nat} {f : Nat} {c c' : C} {s s1 s2 : Sta} {d d' : D} {o o' : Bool} {dr : D} {orr : Bool} (hf : io f = none) (hc : evC call io false c s = .ok (d, o) s1) (hc' : evC call io false c' s1 = .ok (d', o') s2) (h : call f [(d, false), (d', false)] s2.m = .ok dr orr none s2.m) :
    evC call io false (C.call f (q c (q c' q0))) s = .ok (dr, orr) s2 := by
  have e : evC call io false (C.call f (q c (q c' q0))) s = fin false ((evF call io (io f) 0 (q c (q c' q0)) s).bind fun as s1 => match argsOf s1.e as with
    | some ds => match call f ds s1.m with
      | .ok d o out m => match setOut s1.e (lents as) out with
        | some e => .ok (d, o) ⟨e, m⟩
        | none => .bad
      | .exc x ds out m => match setOut s1.e (lents as) out with
        | some e => .exc x ds ⟨e, m⟩
        | none => .bad
      | .bad => .bad
    | none => .bad) := rfl
  rw [e, hf]
  simp only [evF, reduceCtorEq, if_false, hc, hc', R.bind, argsOf, h, lents, setOut, fin]
theorem callT {call : CallF} {io : Nat → Option Nat} {f : Nat} {as : CL} {s s1 : Sta} {b o : Bool} (h : evC call io false (C.call f as) s = .ok (.bl b, o) s1) : evC call io true (C.call f as) s = .ok (.bl b, false) s1 := by
  have e : evC call io true (C.call f as) s = fin true (evC call io false (C.call f as) s) := rfl
  rw [e, h]; rfl
/-- a check that holds -/
theorem check {call : CallF} {io : Nat → Option Nat} {f : Nat} {as : CL} {s s1 : Sta} {o : Bool} (h : evC call io false (C.call f as) s = .ok (.bl true, o) s1) : evS call io (S.ifs (C.not (C.call f as)) (SL.cons (S.ret (C.con (D.bl false))) SL.nil) SL.nil) s = .nx s1 := by
  have e : evS call io (S.ifs (C.not (C.call f as)) (SL.cons (S.ret (C.con (D.bl false))) SL.nil) SL.nil) s = ((evC call io true (C.call f as) s).test fun x s1 => R.ok (D.bl (!x), false) s1).st fun d s1 => match d.1 with
    | .bl true => evL call io (SL.cons (S.ret (C.con (D.bl false))) SL.nil) s1
    | .bl false => evL call io SL.nil s1
    | _ => .bad := rfl
  rw [e, callT h]
  rfl
section
variable {a0 a1 a3 a4 a5 a6 a11 x8 x9 x10 : Option (D × Bool)} {m : List Unit} {sg fs : List Nat} {d k : Nat}
theorem io5 : progL.io 5 = none := rfl
theorem io4 : progL.io 4 = none := rfl
theorem lab5 (L : Lab sg d fs) : progL.call (k + 4) 5 [(.str (st (sg ++ d :: fs)), false)] m = .ok (placeD d (st fs)) false none m := by
  obtain ⟨hF, hb, c, hc, h110, _, hnm⟩ := L.nice
  have h7 := L.ff.2.1
  exact t5 hF hc h110 hb hnm.symm (by rw [st_len]; simp; omega) (L2.atI_nat (j := 0) rfl) (cut1 d fs).symm (by rw [st_len]; omega) (fun f hf => (L.all f (List.mem_cons_of_mem _ hf)).2) fun ha hp => by
    have hg : g1 fs = true := by
      unfold g1
      have hE : allDig fs = true := ha
      rw [hE]
      cases fs with
      | nil => revert hp; simp [noPlace, st_len]
      | cons _ _ => rfl
    exact Option.isSome_iff_exists.mp (L.ff.2.2.2.1 hg)
theorem r12 (L : Lab sg d fs) : evS (progL.call (k + 5)) progL.io s12 ⟨EE a0 a1 a3 a4 a5 a6 a11 sg fs d (some (.bl (decide (d ∈ lets.cps.toList) && good? fs), false)), m⟩ = .nx ⟨EE a0 a1 a3 a4 a5 a6 a11 sg fs d (some (.bl (decide (d ∈ lets.cps.toList) && good? fs), false)), m⟩ := by
  refine check (o := false) (call2 io10 (d := placeD d (st fs)) (o := false) (call1 io5 (o := false) (s1 := ⟨EE a0 a1 a3 a4 a5 a6 a11 sg fs d (some (.bl (decide (d ∈ lets.cps.toList) && good? fs), false)), m⟩) rfl (lab5 (k := k + 1) L)) (d' := placeD d (st fs)) (o' := false) ?_ ?_)
  · have e : ∀ s, evC (progL.call (k + 5)) progL.io false ((C.var 10).ite (C.mkT (q (C.op Op.idx (q (C.var 8) (q (C.con (D.int 0)) q0))) (q (C.op Op.toInt (q (C.var 9) q0)) q0))) (C.con D.non)) s = (evC (progL.call (k + 5)) progL.io true (C.var 10) s).test fun x s1 => if x then evC (progL.call (k + 5)) progL.io false (C.mkT (q (C.op Op.idx (q (C.var 8) (q (C.con (D.int 0)) q0))) (q (C.op Op.toInt (q (C.var 9) q0)) q0))) s1 else .ok (.non, false) s1 := fun s => rfl
    rw [e]
    have ev : ∀ b, evC (progL.call (k + 5)) progL.io true (C.var 10) ⟨EE a0 a1 a3 a4 a5 a6 a11 sg fs d (some (.bl b, false)), m⟩ = .ok (.bl b, false) ⟨EE a0 a1 a3 a4 a5 a6 a11 sg fs d (some (.bl b, false)), m⟩ := fun b => rfl
    rw [ev, L.place]
    simp only [R.test, asB]
    cases hg : (decide (d ∈ lets.cps.toList) && good? fs) with
    | false => simp
    | true =>
      simp only [if_true]
      have h7 := L.ff.2.1
      have hg1 : g1 fs = true := by
        have : good? fs = true := by revert hg; cases decide (d ∈ lets.cps.toList) <;> simp
        unfold good? at this
        simp only [Bool.and_eq_true] at this
        exact this.1.1
      obtain ⟨n, hn⟩ := Option.isSome_iff_exists.mp (L.ff.2.2.2.1 hg1)
      have hi : intF fs = n := by unfold intF; rw [hn]; rfl
      have hl : (st (d :: fs)).length ≤ most := by rw [st_len]; simp; unfold most; omega
      have i0 : opEv .idx [.str (st (d :: fs)), .int 0] = some (.str (sign d)) := op_idxS hl (L2.atI_nat (j := 0) rfl)
      simp only [EE, evC, evV, evP, slotD, List.getElem?_cons_zero, List.getElem?_cons_succ, R.bind, getL, Arg.get, fin]
      rw [i0]
      simp only [R.bind, getL, Arg.get, slotD, List.getElem?_cons_zero, List.getElem?_cons_succ]
      rw [op_intS (by rw [st_len]; omega) hn, hi]
      rfl
  · rw [L.place]
    split
    · refine t10T (fun x hx => ?_) (by simp [most])
      rcases List.mem_cons.mp hx with rfl | hx
      · exact t10s (sign_ok L.dd.2.1)
      · rcases List.mem_cons.mp hx with rfl | hx
        · exact t10i
        · cases hx
    · exact t10n
theorem oth (L : Lab sg d fs) : progL.call (k + 4) 4 [(.str (st (sg ++ d :: fs)), false)] m = .ok (.str (st ((if sg = [126] then [] else [126]) ++ d :: fs))) false none m := by
  obtain ⟨hF, hb, c, hc, h110, h126, hnm⟩ := L.nice
  rw [t4 hF hc h110 hb]
  have h126 : c = 126 ↔ sg = [126] := decide_eq_decide.mp h126
  rcases L.sg with rfl | rfl
  · have : c ≠ 126 := fun z => by have := h126.mp z; cases this
    rw [if_neg this, st_app, if_neg (by decide)]; rfl
  · have : c = 126 := h126.mpr rfl
    rw [if_pos this] at hnm
    rw [if_pos this, hnm, if_pos rfl]; rfl
theorem Lab.flip (L : Lab sg d fs) : Lab (if sg = [126] then [] else [126]) d fs := ⟨by split <;> simp, L.d, L.f⟩
theorem oth2 (L : Lab sg d fs) : progL.call (k + 4) 4 [(.str (st ((if sg = [126] then [] else [126]) ++ d :: fs)), false)] m = .ok (.str (st (sg ++ d :: fs))) false none m := by
  rw [oth L.flip]
  rcases L.sg with rfl | rfl <;> rfl
theorem r13 (L : Lab sg d fs) {b : Bool} : evS (progL.call (k + 5)) progL.io s13 ⟨EE a0 a1 a3 a4 a5 a6 a11 sg fs d (some (.bl b, false)), m⟩ = .nx ⟨EE a0 a1 a3 a4 a5 a6 a11 sg fs d (some (.bl b, false)), m⟩ := by
  have sok : ∀ sg, Lab sg d fs → PyData.strOk (st (sg ++ d :: fs)) = true := fun sg L => st_ok (List.all_eq_true.mpr fun x hx => by
    rcases List.mem_append.mp hx with hx | hx
    · rcases L.sg with rfl | rfl
      · cases hx
      · rcases List.mem_cons.mp hx with rfl | hx
        · decide
        · cases hx
    · exact decide_eq_true (L.all x hx).2)
  have ev7 : evC (progL.call (k + 5)) progL.io false (C.var 7) ⟨EE a0 a1 a3 a4 a5 a6 a11 sg fs d (some (.bl b, false)), m⟩ = .ok (.str (st (sg ++ d :: fs)), false) ⟨EE a0 a1 a3 a4 a5 a6 a11 sg fs d (some (.bl b, false)), m⟩ := rfl
  have ev8 : evC (progL.call (k + 5)) progL.io false (C.var 8) ⟨EE a0 a1 a3 a4 a5 a6 a11 sg fs d (some (.bl b, false)), m⟩ = .ok (.str (st (d :: fs)), false) ⟨EE a0 a1 a3 a4 a5 a6 a11 sg fs d (some (.bl b, false)), m⟩ := rfl
  have c4 : evC (progL.call (k + 5)) progL.io false (C.call 4 (q (C.var 7) q0)) ⟨EE a0 a1 a3 a4 a5 a6 a11 sg fs d (some (.bl b, false)), m⟩ = .ok (.str (st ((if sg = [126] then [] else [126]) ++ d :: fs)), false) ⟨EE a0 a1 a3 a4 a5 a6 a11 sg fs d (some (.bl b, false)), m⟩ := call1 io4 ev7 (oth (k := k + 1) L)
  have c44 : evC (progL.call (k + 5)) progL.io false (C.call 4 (q (C.call 4 (q (C.var 7) q0)) q0)) ⟨EE a0 a1 a3 a4 a5 a6 a11 sg fs d (some (.bl b, false)), m⟩ = .ok (.str (st (sg ++ d :: fs)), false) ⟨EE a0 a1 a3 a4 a5 a6 a11 sg fs d (some (.bl b, false)), m⟩ := call1 io4 c4 (oth2 (k := k + 1) L)
  have l1 : evC (progL.call (k + 5)) progL.io false (C.mkL (q (C.call 4 (q (C.var 7) q0)) (q (C.call 4 (q (C.call 4 (q (C.var 7) q0)) q0)) q0))) ⟨EE a0 a1 a3 a4 a5 a6 a11 sg fs d (some (.bl b, false)), m⟩ = .ok (.lst [.str (st ((if sg = [126] then [] else [126]) ++ d :: fs)), .str (st (sg ++ d :: fs))], true) ⟨EE a0 a1 a3 a4 a5 a6 a11 sg fs d (some (.bl b, false)), m⟩ := by
    have e : ∀ c1 c2 s, evC (progL.call (k + 5)) progL.io false (C.mkL (q c1 (q c2 q0))) s = fin false (((evC (progL.call (k + 5)) progL.io false c1 s).bind fun d s1 => ((evC (progL.call (k + 5)) progL.io false c2 s1).bind fun d s1 => (R.ok [] s1).bind fun ds s2 => .ok (d.1 :: ds) s2).bind fun ds s2 => .ok (d.1 :: ds) s2).bind fun ds s1 => if ds.length ≤ most then .ok (.lst ds, true) s1 else .bad) := fun _ _ _ => rfl
    rw [e, c4]
    simp only [R.bind]
    rw [c44]
    simp [R.bind, fin, most]
  obtain ⟨hF, hb, c, hc, h110, h126, hnm⟩ := L.nice
  have hl : (st (sg ++ d :: fs)).length ≤ most := Nat.le_trans hF.len (by decide)
  have ht : evC (progL.call (k + 5)) progL.io true (C.op Op.eq (q (C.op Op.idx (q (C.var 7) (q (C.con (D.int 0)) q0))) (q (C.con (D.str (st [126]))) q0))) ⟨EE a0 a1 a3 a4 a5 a6 a11 sg fs d (some (.bl b, false)), m⟩ = .ok (.bl (decide (sg = [126])), false) ⟨EE a0 a1 a3 a4 a5 a6 a11 sg fs d (some (.bl b, false)), m⟩ := by
    simp only [EE, evC, evP, slotD, List.getElem?_cons_zero, List.getElem?_cons_succ, R.bind, getL, Arg.get, fin]
    rw [op_idxS hl hc]
    simp only [R.bind, getL, Arg.get]
    rw [op_eqS (sign_ok h110) (st_ok (by decide)), sign_eq, h126]
    rfl
  have ho : evC (progL.call (k + 5)) progL.io false (C.ite (C.op Op.eq (q (C.op Op.idx (q (C.var 7) (q (C.con (D.int 0)) q0))) (q (C.con (D.str (st [126]))) q0))) (C.var 8) (C.op Op.add (q (C.con (D.str (st [126]))) (q (C.var 8) q0)))) ⟨EE a0 a1 a3 a4 a5 a6 a11 sg fs d (some (.bl b, false)), m⟩ = .ok (.str (st ((if sg = [126] then [] else [126]) ++ d :: fs)), false) ⟨EE a0 a1 a3 a4 a5 a6 a11 sg fs d (some (.bl b, false)), m⟩ := by
    have e : ∀ c a b' s, evC (progL.call (k + 5)) progL.io false (C.ite c a b') s = (evC (progL.call (k + 5)) progL.io true c s).test fun x s1 => if x then evC (progL.call (k + 5)) progL.io false a s1 else evC (progL.call (k + 5)) progL.io false b' s1 := fun _ _ _ _ => rfl
    rw [e, ht]
    simp only [R.test, asB]
    rcases L.sg with rfl | rfl
    · simp only [show decide (([] : List Nat) = [126]) = false from rfl, Bool.false_eq_true, if_false]
      simp only [EE, evC, evP, slotD, List.getElem?_cons_zero, List.getElem?_cons_succ, R.bind, getL, Arg.get, fin]
      have h7 := L.ff.2.1
      rw [op_addS (by rw [st_len, st_len]; simp; unfold most; omega), st_app]
      rfl
    · rfl
  have l2 : evC (progL.call (k + 5)) progL.io false (C.mkL (q (C.ite (C.op Op.eq (q (C.op Op.idx (q (C.var 7) (q (C.con (D.int 0)) q0))) (q (C.con (D.str (st [126]))) q0))) (C.var 8) (C.op Op.add (q (C.con (D.str (st [126]))) (q (C.var 8) q0)))) (q (C.var 7) q0))) ⟨EE a0 a1 a3 a4 a5 a6 a11 sg fs d (some (.bl b, false)), m⟩ = .ok (.lst [.str (st ((if sg = [126] then [] else [126]) ++ d :: fs)), .str (st (sg ++ d :: fs))], true) ⟨EE a0 a1 a3 a4 a5 a6 a11 sg fs d (some (.bl b, false)), m⟩ := by
    have e : ∀ c1 c2 s, evC (progL.call (k + 5)) progL.io false (C.mkL (q c1 (q c2 q0))) s = fin false (((evC (progL.call (k + 5)) progL.io false c1 s).bind fun d s1 => ((evC (progL.call (k + 5)) progL.io false c2 s1).bind fun d s1 => (R.ok [] s1).bind fun ds s2 => .ok (d.1 :: ds) s2).bind fun ds s2 => .ok (d.1 :: ds) s2).bind fun ds s1 => if ds.length ≤ most then .ok (.lst ds, true) s1 else .bad) := fun _ _ _ => rfl
    rw [e, ho]
    simp only [R.bind]
    rw [ev7]
    simp [R.bind, fin, most]
  refine check (o := false) (call2 io10 l1 l2 ?_)
  refine t10L (fun x hx => ?_) (by simp [most])
  rcases List.mem_cons.mp hx with rfl | hx
  · exact t10s (sok _ L.flip)
  · rcases List.mem_cons.mp hx with rfl | hx
    · exact t10s (sok _ L)
    · cases hx
/-- all checks of a label -/
theorem chk (L : Lab sg d fs) : ∃ b, evL (progL.call (k + 5)) progL.io chkL ⟨[a0, a1, some (.str lets, false), a3, a4, a5, a6, some (.str (st (sg ++ d :: fs)), false), x8, x9, x10, a11, none], m⟩ = .nx ⟨EE a0 a1 a3 a4 a5 a6 a11 sg fs d (some (.bl b, false)), m⟩ := by
  refine ⟨decide (d ∈ lets.cps.toList) && good? fs, ?_⟩
  rw [chk_is]
  simp only [evL]
  rw [r8 L]
  simp only
  rw [r9 L]
  simp only
  rw [r10 L]
  simp only
  rw [r11 L]
  simp only
  rw [r12 L]
  simp only
  rw [r13 L]
end
end K37

set_option Elab.async false
set_option linter.all false
set_option maxRecDepth 100000
set_option maxHeartbeats 1000000
/-! K11: the draws of one turn. -/
namespace K37
open PT PySem
theorem io9 : progL.io 9 = some 0 := rfl
/-- one of some things, the things reckoned first -/
theorem pick_ev {k : Nat} {E E1 : Slots} {m : List Unit} {e : C} {xs : List D} {o : Bool} {cells : List Int} {x y z : Int} {u : D} (h0 : slotD E 1 = some u) (he : evC (progL.call (k + 2)) progL.io false e ⟨E, m⟩ = .ok (.lst xs, o) ⟨E1, m⟩)
    (h1 : E1[1]? = some (some (.stm cells x y z, true))) (hS : Strm x y z) (hx : xs ≠ []) (hl : xs.length ≤ 1000) :
    ∃ d ∈ xs, ∃ cs x' z', 0 ≤ x' ∧ 0 ≤ z' ∧ z' < 2147483647 ∧ evC (progL.call (k + 2)) progL.io false (C.call 9 (q (C.var 1) (q e q0))) ⟨E, m⟩ = .ok (d, false) ⟨E1.set 1 (some (.stm cs x' (y + 1) z', true)), m⟩ := by
  obtain ⟨d, hd, cs, x', z', p1, p2, p3, hc⟩ := t9 (k := k) (cells := cells) (m := m) hS hx hl
  refine ⟨d, hd, cs, x', z', p1, p2, p3, ?_⟩
  have e0 : evC (progL.call (k + 2)) progL.io false (C.call 9 (q (C.var 1) (q e q0))) ⟨E, m⟩ = fin false ((evF (progL.call (k + 2)) progL.io (progL.io 9) 0 (q (C.var 1) (q e q0)) ⟨E, m⟩).bind fun as s1 => match argsOf s1.e as with
    | some ds => match progL.call (k + 2) 9 ds s1.m with
      | .ok d o out m => match setOut s1.e (lents as) out with
        | some e => .ok (d, o) ⟨e, m⟩
        | none => .bad
      | .exc x ds out m => match setOut s1.e (lents as) out with
        | some e => .exc x ds ⟨e, m⟩
        | none => .bad
      | .bad => .bad
    | none => .bad) := rfl
  rw [e0, io9]
  have ne01 : ¬ (some 0 : Option Nat) = some (0 + 1) := by decide
  simp only [evF, if_true, h0, ne01, if_false, he, R.bind, argsOf, h1, hc, lents, setOut, fin]
/-- a number below many -/
theorem draw_ev {k : Nat} {E : Slots} {m : List Unit} {cells : List Int} {x y z many : Int} (h1 : E[1]? = some (some (.stm cells x y z, true))) (hS : Strm x y z) (hm : 0 < many) (hm2 : many < 1000000000) :
    ∃ d cs x' z', 0 ≤ d ∧ d < many ∧ 0 ≤ x' ∧ 0 ≤ z' ∧ z' < 2147483647 ∧ evC (progL.call (k + 1)) progL.io false (C.call 8 (q (C.var 1) (q (C.con (.int many)) q0))) ⟨E, m⟩ = .ok (.int d, false) ⟨E.set 1 (some (.stm cs x' (y + 1) z', true)), m⟩ := by
  obtain ⟨d, cs, x', z', p0, p1, p2, p3, p4, hc⟩ := t8 (k := k) (cells := cells) (m := m) hS hm hm2
  refine ⟨d, cs, x', z', p0, p1, p2, p3, p4, ?_⟩
  have e0 : evC (progL.call (k + 1)) progL.io false (C.call 8 (q (C.var 1) (q (C.con (.int many)) q0))) ⟨E, m⟩ = fin false ((evF (progL.call (k + 1)) progL.io (progL.io 8) 0 (q (C.var 1) (q (C.con (.int many)) q0)) ⟨E, m⟩).bind fun as s1 => match argsOf s1.e as with
    | some ds => match progL.call (k + 1) 8 ds s1.m with
      | .ok d o out m => match setOut s1.e (lents as) out with
        | some e => .ok (d, o) ⟨e, m⟩
        | none => .bad
      | .exc x ds out m => match setOut s1.e (lents as) out with
        | some e => .exc x ds ⟨e, m⟩
        | none => .bad
      | .bad => .bad
    | none => .bad) := rfl
  rw [e0, io8]
  have ne01 : ¬ (some 0 : Option Nat) = some (0 + 1) := by decide
  have h0 : slotD E 1 = some (.stm cells x y z) := by unfold slotD; rw [h1]
  have ec : ∀ s, evC (progL.call (k + 1)) progL.io false (C.con (.int many)) s = .ok (.int many, false) s := fun _ => rfl
  simp only [evF, if_true, h0, ne01, if_false, ec, R.bind, argsOf, h1, hc, lents, setOut, fin]
theorem Strm.next {x y z x' z' : Int} (h : Strm x y z) (hy : y + 1 < 1000000) (a : 0 ≤ x') (b : 0 ≤ z') (c : z' < 2147483647) : Strm x' (y + 1) z' := ⟨a, by have := h.y0; omega, hy, b, c⟩
def abc : List Nat := small
def t0_ : S := S.asg 4 (C.call 9 (q (C.var 1) (q (C.op Op.toList (q (C.con (D.str (st abc))) q0)) q0)))
def ns : CL := q (C.con (D.int 0)) (q (C.con (D.int 9)) (q (C.con (D.int 10)) (q (C.con (D.int 99)) (q (C.con (D.int 100)) (q (C.con (D.int 199)) (q (C.con (D.int 200)) (q (C.con (D.int 201)) (q (C.con (D.int 999)) (q (C.call 8 (q (C.var 1) (q (C.con (D.int 250)) q0))) q0)))))))))
def t1_ : S := S.asg 5 (C.call 9 (q (C.var 1) (q (C.mkL ns) q0)))
def sufs : CL := q (C.con (D.str (st []))) (q (C.con (D.str (st []))) (q (C.con (D.str (st []))) (q (C.con (D.str (st []))) (q (C.con (D.str (st [48]))) (q (C.con (D.str (st [48, 48]))) (q (C.con (D.str (st [107]))) q0))))))
def t2_ : S := S.asg 6 (C.op Op.add (q (C.op Op.add (q (C.var 4) (q (C.call 9 (q (C.var 1) (q (C.mkL sufs) q0))) q0))) (q (C.op Op.toStr (q (C.var 5) q0)) q0)))
def sgs : CL := q (C.con (D.str (st []))) (q (C.con (D.str (st [126]))) q0)
def bods : CL := q (C.var 6) (q (C.var 6) (q (C.var 6) (q (C.var 4) (q (C.op Op.add (q (C.var 4) (q (C.con (D.str (st [120]))) q0))) (q (C.op Op.add (q (C.con (D.str (st [107]))) (q (C.op Op.toStr (q (C.var 5) q0)) q0))) q0)))))
def t3_ : S := S.asg 7 (C.op Op.add (q (C.call 9 (q (C.var 1) (q (C.mkL sgs) q0))) (q (C.call 9 (q (C.var 1) (q (C.mkL bods) q0))) q0)))
theorem turn_is : turnL = .cons t0_ (.cons t1_ (.cons t2_ (.cons t3_ chkL))) := rfl
theorem mem_N {v : Int} (a : 0 ≤ v) (b : v < 250) : v ∈ allN := by
  unfold allN
  refine List.mem_append_left _ (List.mem_map.mpr ⟨v.toNat, List.mem_range.mpr (by omega), ?_⟩)
  show (v.toNat : Int) = v
  omega
theorem dn_ok : allN.all (fun n => decide ((dn n).length ≤ 3) && decide (n.natAbs < 1000000000)) = true := by decide +kernel
theorem dn_at {n : Int} (h : n ∈ allN) : (dn n).length ≤ 3 ∧ n.natAbs < 1000000000 := by
  have := List.all_eq_true.mp dn_ok n h
  simpa using this
theorem op_toStr {n : Int} (h : n ∈ allN) : opEv .toStr [.int n] = some (.str (st (dn n))) := by
  show (if n.natAbs < 1000000000 then some (D.str (Str.ofString (toString n))) else none) = _
  rw [if_pos (dn_at h).2]
  rfl
theorem fig_of {n : Int} (h : n ∈ allN) : figB (dn n) = true ∧ figB (48 :: dn n) = true ∧ figB (48 :: 48 :: dn n) = true ∧ figB (107 :: dn n) = true := by
  have all := List.all_eq_true.mp figs_ok
  have mem : ∀ l ∈ [dn n, 48 :: dn n, 48 :: 48 :: dn n, 107 :: dn n], figB l = true := fun l hl => all l (by
    unfold figsAll
    exact List.mem_cons_of_mem _ (List.mem_cons_of_mem _ (List.mem_flatMap.mpr ⟨n, h, hl⟩)))
  exact ⟨mem _ (by simp), mem _ (by simp), mem _ (by simp), mem _ (by simp)⟩
section
variable {k : Nat} {a0 a3 a4 a5 a6 a7 a8 a9 a10 a11 : Option (D × Bool)} {m : List Unit} {cells : List Int} {x y z : Int}
theorem d0 (hS : Strm x y z) : ∃ d ∈ small, ∃ cs x' z', 0 ≤ x' ∧ 0 ≤ z' ∧ z' < 2147483647 ∧
    evS (progL.call (k + 2)) progL.io t0_ ⟨[a0, some (.stm cells x y z, true), some (.str lets, false), a3, a4, a5, a6, a7, a8, a9, a10, a11, none], m⟩ = .nx ⟨[a0, some (.stm cs x' (y + 1) z', true), some (.str lets, false), a3, some (.str (st [d]), false), a5, a6, a7, a8, a9, a10, a11, none], m⟩ := by
  have he : evC (progL.call (k + 2)) progL.io false (C.op Op.toList (q (C.con (D.str (st abc))) q0)) ⟨[a0, some (.stm cells x y z, true), some (.str lets, false), a3, a4, a5, a6, a7, a8, a9, a10, a11, none], m⟩ = .ok (.lst (small.map fun c => .str (sign c)), true) ⟨[a0, some (.stm cells x y z, true), some (.str lets, false), a3, a4, a5, a6, a7, a8, a9, a10, a11, none], m⟩ := rfl
  obtain ⟨D0, hd, cs, x', z', p1, p2, p3, e⟩ := pick_ev (k := k) rfl he rfl hS (by simp [small]) (by simp [small])
  obtain ⟨d, hd', rfl⟩ := List.mem_map.mp hd
  refine ⟨d, hd', cs, x', z', p1, p2, p3, ?_⟩
  show (evC _ _ false _ _).st _ = _
  rw [e]
  rfl
theorem d1 {a4 : Option (D × Bool)} (hS : Strm x y z) (hy : y + 1 < 1000000) : ∃ n ∈ allN, ∃ cs x' z', 0 ≤ x' ∧ 0 ≤ z' ∧ z' < 2147483647 ∧
    evS (progL.call (k + 2)) progL.io t1_ ⟨[a0, some (.stm cells x y z, true), some (.str lets, false), a3, a4, a5, a6, a7, a8, a9, a10, a11, none], m⟩ = .nx ⟨[a0, some (.stm cs x' (y + 1 + 1) z', true), some (.str lets, false), a3, a4, some (.int n, false), a6, a7, a8, a9, a10, a11, none], m⟩ := by
  obtain ⟨v, cs, x', z', v0, v1, p1, p2, p3, e8⟩ := draw_ev (k := k + 1) (E := [a0, some (.stm cells x y z, true), some (.str lets, false), a3, a4, a5, a6, a7, a8, a9, a10, a11, none]) (m := m) (many := 250) rfl hS (by decide) (by decide)
  have he : evC (progL.call (k + 2)) progL.io false (C.mkL ns) ⟨[a0, some (.stm cells x y z, true), some (.str lets, false), a3, a4, a5, a6, a7, a8, a9, a10, a11, none], m⟩ = .ok (.lst [.int 0, .int 9, .int 10, .int 99, .int 100, .int 199, .int 200, .int 201, .int 999, .int v], true) ⟨[a0, some (.stm cs x' (y + 1) z', true), some (.str lets, false), a3, a4, a5, a6, a7, a8, a9, a10, a11, none], m⟩ := by
    have ec : ∀ d s, evC (progL.call (k + 2)) progL.io false (C.con d) s = .ok (d, false) s := fun _ _ => rfl
    have e0 : ∀ es s, evC (progL.call (k + 2)) progL.io false (C.mkL es) s = fin false ((evV (progL.call (k + 2)) progL.io es s).bind fun ds s1 => if ds.length ≤ most then .ok (.lst ds, true) s1 else .bad) := fun _ _ => rfl
    rw [e0]
    unfold ns
    simp only [evV, ec, R.bind]
    rw [e8]
    simp [R.bind, fin, most]
  obtain ⟨D0, hd, cs', x'', z'', q1, q2, q3, e⟩ := pick_ev (k := k) rfl he rfl (hS.next hy p1 p2 p3) (by simp) (by simp)
  have hn : ∃ n ∈ allN, D0 = .int n := by
    have := mem_N v0 v1
    simp only [List.mem_cons, List.not_mem_nil, or_false] at hd
    rcases hd with rfl | rfl | rfl | rfl | rfl | rfl | rfl | rfl | rfl | rfl
    · exact ⟨_, by decide +kernel, rfl⟩
    · exact ⟨_, by decide +kernel, rfl⟩
    · exact ⟨_, by decide +kernel, rfl⟩
    · exact ⟨_, by decide +kernel, rfl⟩
    · exact ⟨_, by decide +kernel, rfl⟩
    · exact ⟨_, by decide +kernel, rfl⟩
    · exact ⟨_, by decide +kernel, rfl⟩
    · exact ⟨_, by decide +kernel, rfl⟩
    · exact ⟨_, by decide +kernel, rfl⟩
    · exact ⟨_, this, rfl⟩
  obtain ⟨n, hn, rfl⟩ := hn
  refine ⟨n, hn, cs', x'', z'', q1, q2, q3, ?_⟩
  show (evC _ _ false _ _).st _ = _
  rw [e]
  rfl
theorem d2 {d : Nat} {n : Int} (hn : n ∈ allN) (hS : Strm x y z) : ∃ sf, (sf = [] ∨ sf = [48] ∨ sf = [48, 48] ∨ sf = [107]) ∧ ∃ cs x' z', 0 ≤ x' ∧ 0 ≤ z' ∧ z' < 2147483647 ∧
    evS (progL.call (k + 2)) progL.io t2_ ⟨[a0, some (.stm cells x y z, true), some (.str lets, false), a3, some (.str (st [d]), false), some (.int n, false), a6, a7, a8, a9, a10, a11, none], m⟩ = .nx ⟨[a0, some (.stm cs x' (y + 1) z', true), some (.str lets, false), a3, some (.str (st [d]), false), some (.int n, false), some (.str (st (d :: sf ++ dn n)), false), a7, a8, a9, a10, a11, none], m⟩ := by
  have he : evC (progL.call (k + 2)) progL.io false (C.mkL sufs) ⟨[a0, some (.stm cells x y z, true), some (.str lets, false), a3, some (.str (st [d]), false), some (.int n, false), a6, a7, a8, a9, a10, a11, none], m⟩ = .ok (.lst [.str (st []), .str (st []), .str (st []), .str (st []), .str (st [48]), .str (st [48, 48]), .str (st [107])], true) ⟨[a0, some (.stm cells x y z, true), some (.str lets, false), a3, some (.str (st [d]), false), some (.int n, false), a6, a7, a8, a9, a10, a11, none], m⟩ := rfl
  obtain ⟨D0, hd, cs, x', z', p1, p2, p3, e⟩ := pick_ev (k := k) rfl he rfl hS (by simp) (by simp)
  have hsf : ∃ sf, (sf = [] ∨ sf = [48] ∨ sf = [48, 48] ∨ sf = [107]) ∧ D0 = .str (st sf) := by
    simp only [List.mem_cons, List.not_mem_nil, or_false] at hd
    rcases hd with rfl | rfl | rfl | rfl | rfl | rfl | rfl
    · exact ⟨[], by simp, rfl⟩
    · exact ⟨[], by simp, rfl⟩
    · exact ⟨[], by simp, rfl⟩
    · exact ⟨[], by simp, rfl⟩
    · exact ⟨[48], by simp, rfl⟩
    · exact ⟨[48, 48], by simp, rfl⟩
    · exact ⟨[107], by simp, rfl⟩
  obtain ⟨sf, hsf, rfl⟩ := hsf
  have hl : sf.length ≤ 2 := by rcases hsf with rfl | rfl | rfl | rfl <;> simp
  refine ⟨sf, hsf, cs, x', z', p1, p2, p3, ?_⟩
  have e1 : ∀ s, evC (progL.call (k + 2)) progL.io false (C.op Op.add (q (C.op Op.add (q (C.var 4) (q (C.call 9 (q (C.var 1) (q (C.mkL sufs) q0))) q0))) (q (C.op Op.toStr (q (C.var 5) q0)) q0))) s =
      fin false (((evC (progL.call (k + 2)) progL.io false (C.op Op.add (q (C.var 4) (q (C.call 9 (q (C.var 1) (q (C.mkL sufs) q0))) q0))) s).bind fun d s1 => ((evC (progL.call (k + 2)) progL.io false (C.op Op.toStr (q (C.var 5) q0)) s1).bind fun d s1 => (R.ok [] s1).bind fun ps s2 => .ok (Arg.d d.1 :: ps) s2).bind fun ps s2 => .ok (Arg.d d.1 :: ps) s2).bind fun ps s1 => match getL s1.e ps with
      | some ds => match opEv .add ds with
        | some d => .ok (d, d.isNew && decide (Op.add ≠ Op.idx)) s1
        | none => .bad
      | none => .bad) := fun s => rfl
  have e2 : evC (progL.call (k + 2)) progL.io false (C.op Op.add (q (C.var 4) (q (C.call 9 (q (C.var 1) (q (C.mkL sufs) q0))) q0))) ⟨[a0, some (.stm cells x y z, true), some (.str lets, false), a3, some (.str (st [d]), false), some (.int n, false), a6, a7, a8, a9, a10, a11, none], m⟩ = .ok (.str (st (d :: sf)), false) ⟨[a0, some (.stm cs x' (y + 1) z', true), some (.str lets, false), a3, some (.str (st [d]), false), some (.int n, false), a6, a7, a8, a9, a10, a11, none], m⟩ := by
    have e3 : ∀ s, evC (progL.call (k + 2)) progL.io false (C.op Op.add (q (C.var 4) (q (C.call 9 (q (C.var 1) (q (C.mkL sufs) q0))) q0))) s =
      fin false ((match slotD s.e 4 with
        | some _ => ((evC (progL.call (k + 2)) progL.io false (C.call 9 (q (C.var 1) (q (C.mkL sufs) q0))) s).bind fun d s1 => (R.ok [] s1).bind fun ps s2 => .ok (Arg.d d.1 :: ps) s2).bind fun ps s2 => R.ok (Arg.v 4 :: ps) s2
        | none => .bad).bind fun ps s1 => match getL s1.e ps with
      | some ds => match opEv .add ds with
        | some d => .ok (d, d.isNew && decide (Op.add ≠ Op.idx)) s1
        | none => .bad
      | none => .bad) := fun s => rfl
    rw [e3, e]
    simp only [slotD, List.set_cons_succ, List.set_cons_zero, List.getElem?_cons_zero, List.getElem?_cons_succ, R.bind, getL, Arg.get, fin]
    rw [op_addS (by rw [st_len, st_len]; simp; unfold most; omega), st_app]
    rfl
  have e4 : evC (progL.call (k + 2)) progL.io false (C.op Op.toStr (q (C.var 5) q0)) ⟨[a0, some (.stm cs x' (y + 1) z', true), some (.str lets, false), a3, some (.str (st [d]), false), some (.int n, false), a6, a7, a8, a9, a10, a11, none], m⟩ = .ok (.str (st (dn n)), false) ⟨[a0, some (.stm cs x' (y + 1) z', true), some (.str lets, false), a3, some (.str (st [d]), false), some (.int n, false), a6, a7, a8, a9, a10, a11, none], m⟩ := by
    simp only [evC, evP, slotD, List.getElem?_cons_zero, List.getElem?_cons_succ, R.bind, getL, Arg.get, fin]
    rw [op_toStr hn]
    rfl
  show (evC _ _ false _ _).st _ = _
  rw [e1, e2]
  simp only [R.bind]
  rw [e4]
  simp only [R.bind, getL, Arg.get]
  have hdn := (dn_at hn).1
  rw [op_addS (by rw [st_len, st_len]; simp; unfold most; omega), st_app]
  rfl
theorem fig_suf {n : Int} (hn : n ∈ allN) {sf : List Nat} (h : sf = [] ∨ sf = [48] ∨ sf = [48, 48] ∨ sf = [107]) : figB (sf ++ dn n) = true := by
  obtain ⟨f1, f2, f3, f4⟩ := fig_of hn
  rcases h with rfl | rfl | rfl | rfl
  · exact f1
  · exact f2
  · exact f3
  · exact f4
theorem d3 {d : Nat} {n : Int} {sf : List Nat} (hd : d ∈ small) (hn : n ∈ allN) (hsf : sf = [] ∨ sf = [48] ∨ sf = [48, 48] ∨ sf = [107]) (hS : Strm x y z) (hy : y + 1 < 1000000) : ∃ sg d' fs, Lab sg d' fs ∧ ∃ cs x' z', 0 ≤ x' ∧ 0 ≤ z' ∧ z' < 2147483647 ∧
    evS (progL.call (k + 2)) progL.io t3_ ⟨[a0, some (.stm cells x y z, true), some (.str lets, false), a3, some (.str (st [d]), false), some (.int n, false), some (.str (st (d :: sf ++ dn n)), false), a7, a8, a9, a10, a11, none], m⟩ = .nx ⟨[a0, some (.stm cs x' (y + 1 + 1) z', true), some (.str lets, false), a3, some (.str (st [d]), false), some (.int n, false), some (.str (st (d :: sf ++ dn n)), false), some (.str (st (sg ++ d' :: fs)), false), a8, a9, a10, a11, none], m⟩ := by
  have hl : sf.length ≤ 2 := by rcases hsf with rfl | rfl | rfl | rfl <;> simp
  have hdn := (dn_at hn).1
  have he1 : evC (progL.call (k + 2)) progL.io false (C.mkL sgs) ⟨[a0, some (.stm cells x y z, true), some (.str lets, false), a3, some (.str (st [d]), false), some (.int n, false), some (.str (st (d :: sf ++ dn n)), false), a7, a8, a9, a10, a11, none], m⟩ = .ok (.lst [.str (st []), .str (st [126])], true) ⟨[a0, some (.stm cells x y z, true), some (.str lets, false), a3, some (.str (st [d]), false), some (.int n, false), some (.str (st (d :: sf ++ dn n)), false), a7, a8, a9, a10, a11, none], m⟩ := rfl
  obtain ⟨D0, hd0, cs, x', z', p1, p2, p3, e⟩ := pick_ev (k := k) rfl he1 rfl hS (by simp) (by simp)
  have hsg : ∃ sg, (sg = [] ∨ sg = [126]) ∧ D0 = .str (st sg) := by
    simp only [List.mem_cons, List.not_mem_nil, or_false] at hd0
    rcases hd0 with rfl | rfl
    · exact ⟨[], by simp, rfl⟩
    · exact ⟨[126], by simp, rfl⟩
  obtain ⟨sg, hsg, rfl⟩ := hsg
  have he2 : evC (progL.call (k + 2)) progL.io false (C.mkL bods) ⟨[a0, some (.stm cs x' (y + 1) z', true), some (.str lets, false), a3, some (.str (st [d]), false), some (.int n, false), some (.str (st (d :: sf ++ dn n)), false), a7, a8, a9, a10, a11, none], m⟩ = .ok (.lst [.str (st (d :: sf ++ dn n)), .str (st (d :: sf ++ dn n)), .str (st (d :: sf ++ dn n)), .str (st [d]), .str (st [d, 120]), .str (st (107 :: dn n))], true) ⟨[a0, some (.stm cs x' (y + 1) z', true), some (.str lets, false), a3, some (.str (st [d]), false), some (.int n, false), some (.str (st (d :: sf ++ dn n)), false), a7, a8, a9, a10, a11, none], m⟩ := by
    have e0 : ∀ es s, evC (progL.call (k + 2)) progL.io false (C.mkL es) s = fin false ((evV (progL.call (k + 2)) progL.io es s).bind fun ds s1 => if ds.length ≤ most then .ok (.lst ds, true) s1 else .bad) := fun _ _ => rfl
    rw [e0]
    have x1 : evC (progL.call (k + 2)) progL.io false (C.op Op.add (q (C.var 4) (q (C.con (D.str (st [120]))) q0))) ⟨[a0, some (.stm cs x' (y + 1) z', true), some (.str lets, false), a3, some (.str (st [d]), false), some (.int n, false), some (.str (st (d :: sf ++ dn n)), false), a7, a8, a9, a10, a11, none], m⟩ = .ok (.str (st [d, 120]), false) ⟨[a0, some (.stm cs x' (y + 1) z', true), some (.str lets, false), a3, some (.str (st [d]), false), some (.int n, false), some (.str (st (d :: sf ++ dn n)), false), a7, a8, a9, a10, a11, none], m⟩ := by
      simp only [evC, evP, slotD, List.getElem?_cons_zero, List.getElem?_cons_succ, R.bind, getL, Arg.get, fin]
      rw [op_addS (by rw [st_len, st_len]; simp [most]), st_app]
      rfl
    have x2 : evC (progL.call (k + 2)) progL.io false (C.op Op.add (q (C.con (D.str (st [107]))) (q (C.op Op.toStr (q (C.var 5) q0)) q0))) ⟨[a0, some (.stm cs x' (y + 1) z', true), some (.str lets, false), a3, some (.str (st [d]), false), some (.int n, false), some (.str (st (d :: sf ++ dn n)), false), a7, a8, a9, a10, a11, none], m⟩ = .ok (.str (st (107 :: dn n)), false) ⟨[a0, some (.stm cs x' (y + 1) z', true), some (.str lets, false), a3, some (.str (st [d]), false), some (.int n, false), some (.str (st (d :: sf ++ dn n)), false), a7, a8, a9, a10, a11, none], m⟩ := by
      simp only [evC, evP, slotD, List.getElem?_cons_zero, List.getElem?_cons_succ, R.bind, getL, Arg.get, fin]
      rw [op_toStr hn]
      simp only [R.bind, getL, Arg.get]
      rw [op_addS (by rw [st_len, st_len]; simp; unfold most; omega), st_app]
      rfl
    have v6 : evC (progL.call (k + 2)) progL.io false (C.var 6) ⟨[a0, some (.stm cs x' (y + 1) z', true), some (.str lets, false), a3, some (.str (st [d]), false), some (.int n, false), some (.str (st (d :: sf ++ dn n)), false), a7, a8, a9, a10, a11, none], m⟩ = .ok (.str (st (d :: sf ++ dn n)), false) ⟨[a0, some (.stm cs x' (y + 1) z', true), some (.str lets, false), a3, some (.str (st [d]), false), some (.int n, false), some (.str (st (d :: sf ++ dn n)), false), a7, a8, a9, a10, a11, none], m⟩ := rfl
    have v4 : evC (progL.call (k + 2)) progL.io false (C.var 4) ⟨[a0, some (.stm cs x' (y + 1) z', true), some (.str lets, false), a3, some (.str (st [d]), false), some (.int n, false), some (.str (st (d :: sf ++ dn n)), false), a7, a8, a9, a10, a11, none], m⟩ = .ok (.str (st [d]), false) ⟨[a0, some (.stm cs x' (y + 1) z', true), some (.str lets, false), a3, some (.str (st [d]), false), some (.int n, false), some (.str (st (d :: sf ++ dn n)), false), a7, a8, a9, a10, a11, none], m⟩ := rfl
    unfold bods
    simp only [evV]
    rw [v6]
    simp only [R.bind]
    rw [v6]
    simp only [R.bind]
    rw [v6]
    simp only [R.bind]
    rw [v4]
    simp only [R.bind]
    rw [x1]
    simp only [R.bind]
    rw [x2]
    simp [R.bind, fin, most]
  obtain ⟨D1, hd1, cs', x'', z'', q1, q2, q3, e'⟩ := pick_ev (k := k) rfl he2 rfl (hS.next hy p1 p2 p3) (by simp) (by simp)
  have hb : ∃ d' fs, Lab sg d' fs ∧ D1 = .str (st (d' :: fs)) := by
    have f0 := fig_suf hn hsf
    have fe : figB [] = true := by decide +kernel
    have fx : figB [120] = true := by decide +kernel
    simp only [List.mem_cons, List.not_mem_nil, or_false] at hd1
    rcases hd1 with rfl | rfl | rfl | rfl | rfl | rfl
    · exact ⟨d, _, ⟨hsg, hd, f0⟩, rfl⟩
    · exact ⟨d, _, ⟨hsg, hd, f0⟩, rfl⟩
    · exact ⟨d, _, ⟨hsg, hd, f0⟩, rfl⟩
    · exact ⟨d, [], ⟨hsg, hd, fe⟩, rfl⟩
    · exact ⟨d, [120], ⟨hsg, hd, fx⟩, rfl⟩
    · exact ⟨107, dn n, ⟨hsg, by decide, (fig_of hn).1⟩, rfl⟩
  obtain ⟨d', fs, L, rfl⟩ := hb
  refine ⟨sg, d', fs, L, cs', x'', z'', q1, q2, q3, ?_⟩
  have e1 : ∀ s, evC (progL.call (k + 2)) progL.io false (C.op Op.add (q (C.call 9 (q (C.var 1) (q (C.mkL sgs) q0))) (q (C.call 9 (q (C.var 1) (q (C.mkL bods) q0))) q0))) s =
      fin false (((evC (progL.call (k + 2)) progL.io false (C.call 9 (q (C.var 1) (q (C.mkL sgs) q0))) s).bind fun d s1 => ((evC (progL.call (k + 2)) progL.io false (C.call 9 (q (C.var 1) (q (C.mkL bods) q0))) s1).bind fun d s1 => (R.ok [] s1).bind fun ps s2 => .ok (Arg.d d.1 :: ps) s2).bind fun ps s2 => .ok (Arg.d d.1 :: ps) s2).bind fun ps s1 => match getL s1.e ps with
      | some ds => match opEv .add ds with
        | some d => .ok (d, d.isNew && decide (Op.add ≠ Op.idx)) s1
        | none => .bad
      | none => .bad) := fun s => rfl
  show (evC _ _ false _ _).st _ = _
  rw [e1, e]
  simp only [R.bind, List.set_cons_succ, List.set_cons_zero]
  rw [e']
  simp only [R.bind, getL, Arg.get]
  have h9 := L.len
  rw [op_addS (by rw [st_len, st_len]; rw [List.length_append] at h9; unfold most; omega), st_app]
  rfl
end
section
variable {k : Nat} {a0 a3 a4 a5 a6 a7 a8 a9 a10 a11 : Option (D × Bool)} {m : List Unit} {cells : List Int} {x y z : Int}
/-- one turn of the law -/
theorem turn (hS : Strm x y z) (hy : y + 6 < 1000000) : ∃ cs x' z' b4 b5 b6 b7 b8 b9 b10, Strm x' (y + 6) z' ∧
    evL (progL.call (k + 5)) progL.io turnL ⟨[a0, some (.stm cells x y z, true), some (.str lets, false), a3, a4, a5, a6, a7, a8, a9, a10, a11, none], m⟩ = .nx ⟨[a0, some (.stm cs x' (y + 6) z', true), some (.str lets, false), a3, b4, b5, b6, b7, b8, b9, b10, a11, none], m⟩ := by
  obtain ⟨d, hd, c1, x1, z1, p1, p2, p3, e1⟩ := d0 (k := k + 3) (cells := cells) (m := m) (a0 := a0) (a3 := a3) (a4 := a4) (a5 := a5) (a6 := a6) (a7 := a7) (a8 := a8) (a9 := a9) (a10 := a10) (a11 := a11) hS
  have S1 := hS.next (by omega) p1 p2 p3
  obtain ⟨n, hn, c2, x2, z2, p1, p2, p3, e2⟩ := d1 (k := k + 3) (cells := c1) (m := m) (a0 := a0) (a3 := a3) (a4 := some (.str (st [d]), false)) (a5 := a5) (a6 := a6) (a7 := a7) (a8 := a8) (a9 := a9) (a10 := a10) (a11 := a11) S1 (by omega)
  have S2 : Strm x2 (y + 1 + 1 + 1) z2 := ⟨p1, by have := S1.y0; omega, by omega, p2, p3⟩
  obtain ⟨sf, hsf, c3, x3, z3, p1, p2, p3, e3⟩ := d2 (k := k + 3) (cells := c2) (m := m) (a0 := a0) (a3 := a3) (a6 := a6) (a7 := a7) (a8 := a8) (a9 := a9) (a10 := a10) (a11 := a11) (d := d) hn S2
  have S3 := S2.next (by omega) p1 p2 p3
  obtain ⟨sg, d', fs, L, c4, x4, z4, p1, p2, p3, e4⟩ := d3 (k := k + 3) (cells := c3) (m := m) (a0 := a0) (a3 := a3) (a7 := a7) (a8 := a8) (a9 := a9) (a10 := a10) (a11 := a11) hd hn hsf S3 (by omega)
  have ey : y + 1 + 1 + 1 + 1 + 1 + 1 = y + 6 := by omega
  rw [ey] at e4
  obtain ⟨b, e5⟩ := chk (k := k) (a0 := a0) (a1 := some (.stm c4 x4 (y + 6) z4, true)) (a3 := a3) (a4 := some (.str (st [d]), false)) (a5 := some (.int n, false)) (a6 := some (.str (st (d :: sf ++ dn n)), false)) (x8 := a8) (x9 := a9) (x10 := a10) (a11 := a11) (m := m) L
  refine ⟨c4, x4, z4, some (.str (st [d]), false), some (.int n, false), some (.str (st (d :: sf ++ dn n)), false), some (.str (st (sg ++ d' :: fs)), false), some (.str (st (d' :: fs)), false), some (.str (st fs), false), some (.bl b, false), ⟨p1, by have := hS.y0; omega, hy, p2, p3⟩, ?_⟩
  rw [turn_is]
  simp only [evL]
  rw [e1]
  simp only
  rw [e2]
  simp only
  rw [e3]
  simp only
  rw [e4]
  simp only
  exact e5
end
end K37

set_option Elab.async false
set_option linter.all false
set_option maxRecDepth 100000
set_option maxHeartbeats 4000000
/-! K12: the whole law of k37 in the small language. -/
namespace K37
open PT PySem
def endL : SL := dropS_ L11.body 3
def okRt : RS → Bool
  | .rt (.bl true) false s => s.m.isEmpty
  | _ => false
theorem okRt_ {r : RS} (h : okRt r = true) : ∃ s, r = .rt (.bl true) false s ∧ s.m = [] := by
  unfold okRt at h
  split at h
  · exact ⟨_, rfl, by simpa using h⟩
  · cases h
theorem odd_closed : okRt (evL (progL.call 11) progL.io endL ⟨List.replicate 13 none, []⟩) = true := by decide +kernel
theorem odd_free : okSL [0, 1, 2, 3, 4, 5, 6, 7, 8, 9, 10] endL = true := by decide +kernel
theorem rt_fill {F : List Nat} {v : Nat → Option (D × Bool)} {call : CallF} {io : Nat → Option Nat} {a : SL} (hk : okSL F a = true) {s s1 s2 : Sta} {d : D} {o : Bool} (h : evL call io a s = .rt d o s1) (he : emp F s.e) (hs : fl F v s = s2) : ∃ s3, evL call io a s2 = .rt d o s3 ∧ s3.m = s1.m := by
  have f := frL (F := F) (v := v) (call := call) (io := io) a hk s he
  rw [hs, h] at f
  exact ⟨_, f.2, rfl⟩
theorem odd {a0 a1 a2 a3 a4 a5 a6 a7 a8 a9 a10 : Option (D × Bool)} : ∃ s, evL (progL.call 11) progL.io endL ⟨[a0, a1, a2, a3, a4, a5, a6, a7, a8, a9, a10, none, none], []⟩ = .rt (.bl true) false s ∧ s.m = [] := by
  obtain ⟨s, h, hm⟩ := okRt_ odd_closed
  have he : emp [0, 1, 2, 3, 4, 5, 6, 7, 8, 9, 10] (List.replicate 13 none) := fun i x hx => by
    rw [List.getElem?_replicate] at hx
    split at hx <;> cases hx
  have e : fl [0, 1, 2, 3, 4, 5, 6, 7, 8, 9, 10] (fun i => [a0, a1, a2, a3, a4, a5, a6, a7, a8, a9, a10].getD i none) ⟨List.replicate 13 none, []⟩ = ⟨[a0, a1, a2, a3, a4, a5, a6, a7, a8, a9, a10, none, none], []⟩ := rfl
  obtain ⟨s3, h3, m3⟩ := rt_fill odd_free h he e
  exact ⟨s3, h3, m3.trans hm⟩
theorem loop30 {k : Nat} {a0 a11 : Option (D × Bool)} {m : List Unit} : ∀ (ds : List D) (cells : List Int) (x y z : Int) (a3 a4 a5 a6 a7 a8 a9 a10 : Option (D × Bool)), Strm x y z → y + 6 * ds.length < 1000000 → ∃ cs x' y' z' b3 b4 b5 b6 b7 b8 b9 b10,
    forGo [3] true (evL (progL.call (k + 5)) progL.io turnL) ds ⟨[a0, some (.stm cells x y z, true), some (.str lets, false), a3, a4, a5, a6, a7, a8, a9, a10, a11, none], m⟩ = .nx ⟨[a0, some (.stm cs x' y' z', true), some (.str lets, false), b3, b4, b5, b6, b7, b8, b9, b10, a11, none], m⟩
  | [], cells, x, y, z, a3, a4, a5, a6, a7, a8, a9, a10, _, _ => ⟨cells, x, y, z, a3, a4, a5, a6, a7, a8, a9, a10, rfl⟩
  | d :: ds, cells, x, y, z, a3, a4, a5, a6, a7, a8, a9, a10, hS, hy => by
    rw [List.length_cons] at hy
    obtain ⟨cs, x', z', b4, b5, b6, b7, b8, b9, b10, hS', e⟩ := turn (k := k) (cells := cells) (m := m) (a0 := a0) (a3 := some (d, false)) (a4 := a4) (a5 := a5) (a6 := a6) (a7 := a7) (a8 := a8) (a9 := a9) (a10 := a10) (a11 := a11) hS (by omega)
    obtain ⟨cs2, x2, y2, z2, c3, c4, c5, c6, c7, c8, c9, c10, e2⟩ := loop30 ds cs x' (y + 6) z' (some (d, false)) b4 b5 b6 b7 b8 b9 b10 hS' (by omega)
    refine ⟨cs2, x2, y2, z2, c3, c4, c5, c6, c7, c8, c9, c10, ?_⟩
    have go : forGo [3] true (evL (progL.call (k + 5)) progL.io turnL) (d :: ds) ⟨[a0, some (.stm cells x y z, true), some (.str lets, false), a3, a4, a5, a6, a7, a8, a9, a10, a11, none], m⟩ = match evL (progL.call (k + 5)) progL.io turnL ⟨[a0, some (.stm cells x y z, true), some (.str lets, false), some (d, false), a4, a5, a6, a7, a8, a9, a10, a11, none], m⟩ with
      | .nx s2 => forGo [3] true (evL (progL.call (k + 5)) progL.io turnL) ds s2
      | .ct s2 => forGo [3] true (evL (progL.call (k + 5)) progL.io turnL) ds s2
      | .bk s2 => .nx s2
      | r => r := rfl
    rw [go, e]
    exact e2
def forS : S := nthS L11.body 2
theorem forS_run {k : Nat} {s : Sta} : evS (progL.call (k + 5)) progL.io forS s = forGo [3] true (evL (progL.call (k + 5)) progL.io turnL) (rangeD 30) s := by
  have e : forS = S.forr [3] true (IT.range (C.con (D.int 30))) turnL := rfl
  rw [e]
  simp only [evS, evI, evC, fin, R.bind]
  rw [if_pos (by decide)]
  rfl
/-- the law's answer, whatever the script -/
theorem law_true (cs : List Int) : prog.call 12 11 [(.scr cs, false)] [] = .ok (.bl true) false none [] := by
  rw [prog_is, call_at rfl rfl rfl]
  have e0 : L11.body = .cons (nthS L11.body 0) (.cons (nthS L11.body 1) (.cons forS endL)) := rfl
  rw [e0]
  show endOf none (evL (progL.call 11) progL.io _ ⟨[some (.scr cs, false), none, none, none, none, none, none, none, none, none, none, none, none], []⟩) = _
  have r0 : evS (progL.call 11) progL.io (nthS L11.body 0) ⟨[some (.scr cs, false), none, none, none, none, none, none, none, none, none, none, none, none], []⟩ = .nx ⟨[some (.scr cs, false), some (.stm cs 0 0 73, true), none, none, none, none, none, none, none, none, none, none, none], []⟩ := rfl
  have r1 : evS (progL.call 11) progL.io (nthS L11.body 1) ⟨[some (.scr cs, false), some (.stm cs 0 0 73, true), none, none, none, none, none, none, none, none, none, none, none], []⟩ = .nx ⟨[some (.scr cs, false), some (.stm cs 0 0 73, true), some (.str lets, false), none, none, none, none, none, none, none, none, none, none], []⟩ := rfl
  simp only [evL]
  rw [r0]
  simp only
  rw [r1]
  simp only
  rw [show (11 : Nat) = 6 + 5 from rfl, forS_run]
  obtain ⟨cs2, x2, y2, z2, c3, c4, c5, c6, c7, c8, c9, c10, e2⟩ := loop30 (k := 6) (a0 := some (.scr cs, false)) (a11 := none) (m := []) (rangeD 30) cs 0 0 73 none none none none none none none none ⟨by decide, by decide, by decide, by decide, by decide⟩ (by decide)
  rw [e2]
  simp only
  obtain ⟨s, e3, hm⟩ := odd (a0 := some (.scr cs, false)) (a1 := some (.stm cs2 x2 y2 z2, true)) (a2 := some (.str lets, false)) (a3 := c3) (a4 := c4) (a5 := c5) (a6 := c6) (a7 := c7) (a8 := c8) (a9 := c9) (a10 := c10)
  rw [show (6 + 5 : Nat) = 11 from rfl, e3]
  simp only [endOf, outOf, hm]
end K37

set_option Elab.async false
set_option linter.all false
set_option maxRecDepth 100000
set_option maxHeartbeats 0
/-! H1: the head of k37. -/
namespace K37
open PT PySem PySem.Spec PyProof.Rows L2
abbrev Rw : PySem.W.OpenRow := PySem.W.OpenLaw.row PySem.Challenge.rw_loopcoats_k37_places_of_labels
def defAt (x : Str) (i : Nat) : He.DefD := ⟨(x, none), x, x, defArgs (top i), defBody (top i), defScope (top i), [], []⟩
/-- a class's __init__ -/
def initOf (i : Nat) : Stmt := match top i with
  | .ClassDef _ _ _ b _ _ _ _ _ _ _ => b.getD 0 (.Pass ⟨0, 0, 0, 0⟩)
  | s => s
def initAt (x q : Str) (i : Nat) : He.DefD := ⟨(x, some "__init__"), "__init__", q, defArgs (initOf i), defBody (initOf i), defScope (initOf i), [], []⟩
def fnD : List He.DefD := [defAt "is_name" 23, defAt "is_label" 24, defAt "need_label" 25, defAt "turned" 26, defAt "other_side" 27, defAt "label_place" 30, defAt "_law_fraised" 32, defAt "_law_start" 35, defAt "_law_below" 36, defAt "_law_pick" 37, defAt "_law_same" 38, defAt "law" 39, defAt "_law_fthings" 33, initAt "BadLabel" "BadLabel.__init__" 8]
def nine : List Str := ["BadKind", "BadHead", "BadPlace", "BadMany", "BadLabel", "BadCoat", "BadTarget", "BadOther", "BadOrder"]
def faD : List He.Fa := blts.map He.Fa.free ++ nine.map He.Fa.glo ++ [.glo "is_name", .glo "is_label", .glo "need_label", .glo "turned", .glo "other_side", .glo "label_place", .glo "_law_fraised", .glo "_law_start", .glo "_law_below", .glo "_law_pick", .glo "_law_same", .glo "law", .glo "_law_fthings",
  .str "SMALL" "abcdefghijklmnopqrstuvwxyz", .str "SIGNS" "abcdefghijklmnopqrstuvwxyz0123456789", .str "FIGURES" "0123456789"]
def tfD : List He.Defn := [("law", none)]
def exD (K : PySem.W.Frag) : Bool := ownB K "thing" (He.ga K "BadLabel") && (excB K (He.ga K "BadLabel") && (decide (PySem.W.exmAny K (.ref (He.ga K "BadLabel")) (nine.map fun x => .ref (He.ga K x)) = some true) && nine.all fun x => decide (PySem.W.kitOne K (.ref (He.ga K "BadLabel")) (.ref (He.ga K x)) = some (x == "BadLabel"))))
def namesA : List Str := ["LoopError", "BadChain", "BadCoat", "BadEnds", "BadHead", "BadKind", "BadKinds", "BadLabel", "BadLabels", "BadMany", "BadMiddle", "BadOrder", "BadOther", "BadPlace", "BadProbe", "BadSide", "BadTarget", "BadText", "TooMany"]
def namesB : List Str := ["SMALL", "SIGNS", "is_name", "is_label", "need_label", "turned", "other_side", "FIGURES", "label_place", "_law_fraised", "_law_fthings", "_law_fmore", "_law_start", "_law_below", "_law_pick", "_law_same"]
def names : List Str := namesA ++ namesB
abbrev hk : PySem.W.Hook := He.hookX 5 faD fnD [] tfD exD
def ob (s : PySem.W.SharedT) : He.AlX := He.obsX 5 faD fnD [] tfD exD (HandSHeadRun.getT s)
theorem ob_eq (s : PySem.W.SharedT) : ob s = hk.obs s.abs := He.obsX_eq (HandSHeadRun.getT_eq s)
end K37

set_option Elab.async false
set_option linter.all false
set_option maxRecDepth 100000
set_option maxHeartbeats 0
/-! H2: the head's run. -/
namespace K37
open PT PySem PySem.Spec PyProof.Rows L2
theorem run (w : World) : HandSHeadRun.RunEq Rw (PySem.W.view Rw.prog [39]) hk ob 12000 names w := by
  intro os
  kernel_rfl
end K37

set_option Elab.async false
set_option linter.all false
set_option maxRecDepth 100000
set_option maxHeartbeats 4000000
/-! H3: what the head tells of k37's module. -/
namespace K37
open PT PySem PySem.Spec PyProof.Rows L2
def cTl (K : PySem.W.Frag) : Addr × Addr := He.cT K ("law", none)
/-- defs by number -/
def fnNo : Nat → Option Str
  | 0 => some "is_name" | 1 => some "is_label" | 2 => some "need_label" | 3 => some "turned" | 4 => some "other_side" | 5 => some "label_place" | 6 => some "_law_fraised" | 7 => some "_law_start" | 8 => some "_law_below" | 9 => some "_law_pick" | 10 => some "_law_same" | 11 => some "law"
  | _ => none
def G0 (K : PySem.W.Frag) : Glob where
  K := K
  fa := fun i => (fnNo i).map (He.ga K)
  ca := fun | 0 => some (He.ga K "BadLabel") | _ => none
  xn := fun | 0 => ["thing"] | _ => []
  T := [((cTl K).2, "law.<locals>.<lambda>")]
  cl := fun _ => none
/-- a def of one positional list of names -/
def PlainArgs (a : Arguments) (ps : List Str) : Prop := ∀ (x qual : Str) (body : List Stmt) (scope : Scope) (kV doc pm : Value) (an : Option Addr) (cdv ct : Value) (us : List Value), us.length = ps.length → bindArgs (PySem.W.fnOf x qual a body scope .none kV doc pm an cdv ct) ⟨us, []⟩ = pure (ps.zip us)
section
variable {P : Program} {w : World} {K : PySem.W.Frag} {h : Heap} {mg : Str → Option Value}
structure Told (w : World) (h : Heap) (K : PySem.W.Frag) (mg : Str → Option Value) : Prop where
  X : K.In h
  G : h.Ns mainGlobals mg
  c : He.SaysX faD fnD [] tfD exD w h K
variable (T : Told w h K mg)
include T
theorem Told.fact {f : He.Fa} (hf : f ∈ faD) : f.ok K = true := T.c.t.d.facts hf
theorem Told.glo {x : Str} (hf : He.Fa.glo x ∈ faD) : mg x = some (.ref (He.ga K x)) := He.glo_ok T.X T.G (T.fact hf)
theorem Told.free {x : Str} (hf : x ∈ blts) : mg x = none := He.free_ok T.X T.G (T.fact (List.mem_append_left _ (List.mem_append_left _ (List.mem_map_of_mem hf))))
theorem Told.def_ {x : Str} {i : Nat} (hd : defAt x i ∈ fnD) : ∃ fd, FunD K x x (defArgs (top i)) (defBody (top i)) (defScope (top i)) [] [] (He.ga K x) fd := T.c.t.d.defs hd
theorem Told.ex : ownB K "thing" (He.ga K "BadLabel") = true ∧ excB K (He.ga K "BadLabel") = true ∧ PySem.W.exmAny K (.ref (He.ga K "BadLabel")) (nine.map fun x => .ref (He.ga K x)) = some true ∧ ∀ x ∈ nine, PySem.W.kitOne K (.ref (He.ga K "BadLabel")) (.ref (He.ga K x)) = some (x == "BadLabel") := by
  obtain ⟨h1, h⟩ := He.ba T.c.more
  obtain ⟨h2, h⟩ := He.ba h
  obtain ⟨h3, h4⟩ := He.ba h
  exact ⟨h1, h2, of_decide_eq_true h3, fun x hx => of_decide_eq_true (List.all_eq_true.mp h4 x hx)⟩
theorem Told.own : PySem.PTX.OwnX K "thing" (He.ga K "BadLabel") (He.ma K (He.ga K "BadLabel") "__init__") := by
  obtain ⟨fd, F⟩ := T.c.t.d.defs (d := initAt "BadLabel" "BadLabel.__init__" 8) (by simp [fnD])
  obtain ⟨p1, p2, q1, q2, q3, q4, e1, e2, e3⟩ : ∃ p1 p2 q1 q2 q3 q4 : Pos, defArgs (initOf 8) = PTX.iA "thing" p1 p2 ∧ defBody (initOf 8) = PTX.iB "thing" q1 q2 q3 q4 ∧ defScope (initOf 8) = PTX.iS "thing" := ⟨_, _, _, _, _, _, rfl, rfl, rfl⟩
  refine ownB_ok (qual := "BadLabel.__init__") (p1 := p1) (p2 := p2) (q1 := q1) (q2 := q2) (q3 := q3) (q4 := q4) (fd := fd) T.ex.1 ?_
  rw [← e1, ← e2, ← e3]
  exact F
/-- a def told by its text -/
theorem Told.text {x : Str} {i n : Nat} {N ps : List Str} {io : Option Nat} {lm : Bool} (hd : defAt x i ∈ fnD) (hg : He.Fa.glo x ∈ faD) (hn : fnNo n = some x) (hp : prog.prim n = none) (S : FnScope N ps (defScope (top i))) (hf : prog.fns[n]? = some (fnOf i N ps.length io lm))
    (ha : PlainArgs (defArgs (top i)) ps) (hk : ∀ k, pt.kws.lookup x = some k → ps = [k] ∧ ∀ (x qual : Str) (body : List Stmt) (scope : Scope) (kV doc pm : Value) (an : Option Addr) (cdv ct u : Value), bindArgs (PySem.W.fnOf x qual (defArgs (top i)) body scope .none kV doc pm an cdv ct) ⟨[], [(k, u)]⟩ = pure ([k].zip [u]))
    (hl : lm = true → x = ("law" : Str)) :
    ∃ (a : Addr) (fd : FuncData) (ps : List Str), mg x = some (.ref a) ∧ (G0 K).fa n = some a ∧ PySem.W.keepIn K (.ref a) = true ∧ BindsK pt K x fd ps ∧
    ((∃ (nm qual : Str) (params : Arguments) (body : List Stmt) (scope : Scope) (cdv : Value) (N : List Str) (io : Option Nat) (lm : Bool), prog.prim n = none ∧ TextAt K nm qual params body scope cdv a fd ∧ FnScope N ps scope ∧
        prog.fns[n]? = some ⟨N.length, ps.length, io, trSs (trS 40 ⟨pt, N, scope, true, lm⟩ io 40) body⟩ ∧
        (lm = true → ∃ (cA PA : Addr), cdv = .ref cA ∧ (cA, PA) ∈ [cTl K] ∧ (PA, qual ++ ".<locals>." ++ "<lambda>") ∈ (G0 K).T ∧ ∀ q ∈ (G0 K).T, q.1 = PA → q.2 = qual ++ ".<locals>." ++ "<lambda>")) ∨
     (∃ (io : Option Nat) (g : (C → List D → List Unit → RC) → List (D × Bool) → List Unit → RC), prog.prim n = some (io, g) ∧
        ∀ (base : Heap) (G' : Glob) (k : Nat) (run : C → List D → List Unit → RC), BT mg [cTl K] base → GExt (G0 K) G' → CloOk P w K mg base G' run (2 * k + 3 + 1) → FnOk P w K mg base (L2N.CX P w) (2 * k + 3 + 2) a fd ps (spF G' (fun _ => g run) io n))) := by
  obtain ⟨fd, F⟩ := T.def_ hd
  obtain ⟨cdv, F2⟩ := text_of F
  have hb : BindsK pt K x fd ps := by
    refine ⟨F.bindsN fun kV doc pm an cdv ct us hl => ha _ _ _ _ _ _ _ _ _ _ us hl, fun k hk' => ?_⟩
    obtain ⟨e1, e2⟩ := hk k hk'
    refine ⟨e1, fun s u => ?_⟩
    obtain ⟨oc, od, dV, kV, doc, pm, an, cdv, ct, osl, rfl, lk, hcd, hD, hK⟩ := F.ex
    rcases hD with ⟨_, rfl⟩ | ⟨e, _⟩
    · exact .of_eq (e2 _ _ _ _ _ _ _ _ _ _ u)
    · exact absurd rfl e
  refine ⟨He.ga K x, fd, ps, T.glo hg, by show (fnNo n).map _ = _; rw [hn]; rfl, F.kp, hb, .inl ⟨x, x, _, _, _, cdv, N, io, lm, hp, F2, S, hf, fun z => ?_⟩⟩
  have hx := hl z
  subst hx
  obtain ⟨oc, od, dV, kV, doc, pm, an, ct, osl, rfl, lk, hcd⟩ := F2
  obtain ⟨c0, rfl⟩ := He.codeIn_ref hcd
  have e : He.codeOf K ("law", none) = c0 := He.codeOf_eq lk rfl
  refine ⟨c0, (cTl K).2, rfl, ?_, List.mem_cons_self, fun q hq _ => ?_⟩
  · rw [List.mem_singleton]
    show (c0, (cTl K).2) = (He.codeOf K ("law", none), (cTl K).2)
    rw [e]
  · have hq := List.mem_singleton.mp hq
    subst hq
    rfl
end
end K37

set_option Elab.async false
set_option linter.all false
set_option maxRecDepth 100000
set_option maxHeartbeats 4000000
/-! H4: k37's module as the defs' soundness wants it. -/
namespace K37
open PT PySem PySem.Spec PyProof.Rows L2
theorem pa1 {a : Arguments} {x : Str} (h : ∀ (y qual : Str) (body : List Stmt) (scope : Scope) (kV doc pm : Value) (an : Option Addr) (cdv ct u : Value), bindArgs (PySem.W.fnOf y qual a body scope .none kV doc pm an cdv ct) ⟨[u], []⟩ = pure ([x].zip [u])) : PlainArgs a [x] :=
  fun y q b s kV doc pm an cdv ct us hl => match us, hl with | [u], _ => h y q b s kV doc pm an cdv ct u
theorem pa2 {a : Arguments} {x z : Str} (h : ∀ (y qual : Str) (body : List Stmt) (scope : Scope) (kV doc pm : Value) (an : Option Addr) (cdv ct u v : Value), bindArgs (PySem.W.fnOf y qual a body scope .none kV doc pm an cdv ct) ⟨[u, v], []⟩ = pure ([x, z].zip [u, v])) : PlainArgs a [x, z] :=
  fun y q b s kV doc pm an cdv ct us hl => match us, hl with | [u, v], _ => h y q b s kV doc pm an cdv ct u v
section
variable {P : Program} {w : World} {K : PySem.W.Frag} {h : Heap} {mg : Str → Option Value}
variable (T : Told w h K mg)
/-- a def's answer to T.fn -/
abbrev FnT (P : Program) (w : World) (K : PySem.W.Frag) (mg : Str → Option Value) (x : Str) (n : Nat) : Prop := ∃ (a : Addr) (fd : FuncData) (ps : List Str), mg x = some (.ref a) ∧ (G0 K).fa n = some a ∧ PySem.W.keepIn K (.ref a) = true ∧ BindsK pt K x fd ps ∧
    ((∃ (nm qual : Str) (params : Arguments) (body : List Stmt) (scope : Scope) (cdv : Value) (N : List Str) (io : Option Nat) (lm : Bool), prog.prim n = none ∧ TextAt K nm qual params body scope cdv a fd ∧ FnScope N ps scope ∧
        prog.fns[n]? = some ⟨N.length, ps.length, io, trSs (trS 40 ⟨pt, N, scope, true, lm⟩ io 40) body⟩ ∧
        (lm = true → ∃ (cA PA : Addr), cdv = .ref cA ∧ (cA, PA) ∈ [cTl K] ∧ (PA, qual ++ ".<locals>." ++ "<lambda>") ∈ (G0 K).T ∧ ∀ q ∈ (G0 K).T, q.1 = PA → q.2 = qual ++ ".<locals>." ++ "<lambda>")) ∨
     (∃ (io : Option Nat) (g : (C → List D → List Unit → RC) → List (D × Bool) → List Unit → RC), prog.prim n = some (io, g) ∧
        ∀ (base : Heap) (G' : Glob) (k : Nat) (run : C → List D → List Unit → RC), BT mg [cTl K] base → GExt (G0 K) G' → CloOk P w K mg base G' run (2 * k + 3 + 1) → FnOk P w K mg base (L2N.CX P w) (2 * k + 3 + 2) a fd ps (spF G' (fun _ => g run) io n)))
include T
theorem f0 : FnT P w K mg "is_name" 0 := T.text (i := 23) (N := N0) (ps := ["thing"]) (io := none) (lm := false) (by simp [fnD]) (by simp [faD]) rfl rfl ⟨rfl, rfl, rfl, by decide +kernel, rfl, by decide +kernel, by decide +kernel⟩ rfl (pa1 fun _ _ _ _ _ _ _ _ _ _ _ => rfl) (fun k hk => by cases hk) (fun z => by cases z)
theorem f1 : FnT P w K mg "is_label" 1 := T.text (i := 24) (N := N1) (ps := ["thing"]) (io := none) (lm := false) (by simp [fnD]) (by simp [faD]) rfl rfl ⟨rfl, rfl, rfl, by decide +kernel, rfl, by decide +kernel, by decide +kernel⟩ rfl (pa1 fun _ _ _ _ _ _ _ _ _ _ _ => rfl) (fun k hk => by cases hk) (fun z => by cases z)
theorem f2 : FnT P w K mg "need_label" 2 := T.text (i := 25) (N := N2) (ps := ["label"]) (io := none) (lm := false) (by simp [fnD]) (by simp [faD]) rfl rfl ⟨rfl, rfl, rfl, by decide +kernel, rfl, by decide +kernel, by decide +kernel⟩ rfl (pa1 fun _ _ _ _ _ _ _ _ _ _ _ => rfl) (fun k hk => by cases hk) (fun z => by cases z)
theorem f3 : FnT P w K mg "turned" 3 := T.text (i := 26) (N := N2) (ps := ["label"]) (io := none) (lm := false) (by simp [fnD]) (by simp [faD]) rfl rfl ⟨rfl, rfl, rfl, by decide +kernel, rfl, by decide +kernel, by decide +kernel⟩ rfl (pa1 fun _ _ _ _ _ _ _ _ _ _ _ => rfl) (fun k hk => by cases hk) (fun z => by cases z)
theorem f4 : FnT P w K mg "other_side" 4 := T.text (i := 27) (N := N2) (ps := ["label"]) (io := none) (lm := false) (by simp [fnD]) (by simp [faD]) rfl rfl ⟨rfl, rfl, rfl, by decide +kernel, rfl, by decide +kernel, by decide +kernel⟩ rfl (pa1 fun _ _ _ _ _ _ _ _ _ _ _ => rfl) (fun k hk => by
  have e : some ("label" : Str) = some k := hk
  cases e
  exact ⟨rfl, fun _ _ _ _ _ _ _ _ _ _ _ => rfl⟩) (fun z => by cases z)
theorem f5 : FnT P w K mg "label_place" 5 := T.text (i := 30) (N := N5) (ps := ["label"]) (io := none) (lm := false) (by simp [fnD]) (by simp [faD]) rfl rfl ⟨rfl, rfl, rfl, by decide +kernel, rfl, by decide +kernel, by decide +kernel⟩ rfl (pa1 fun _ _ _ _ _ _ _ _ _ _ _ => rfl) (fun k hk => by cases hk) (fun z => by cases z)
theorem f9 : FnT P w K mg "_law_pick" 9 := T.text (i := 37) (N := N9) (ps := ["stream", "some"]) (io := some 0) (lm := false) (by simp [fnD]) (by simp [faD]) rfl rfl ⟨rfl, rfl, rfl, by decide +kernel, rfl, by decide +kernel, by decide +kernel⟩ rfl (pa2 fun _ _ _ _ _ _ _ _ _ _ _ _ => rfl) (fun k hk => by cases hk) (fun z => by cases z)
theorem f10 : FnT P w K mg "_law_same" 10 := T.text (i := 38) (N := N10) (ps := ["found", "due"]) (io := none) (lm := false) (by simp [fnD]) (by simp [faD]) rfl rfl ⟨rfl, rfl, rfl, by decide +kernel, rfl, by decide +kernel, by decide +kernel⟩ rfl (pa2 fun _ _ _ _ _ _ _ _ _ _ _ _ => rfl) (fun k hk => by cases hk) (fun z => by cases z)
theorem f11 : FnT P w K mg "law" 11 := T.text (i := 39) (N := N11) (ps := ["script"]) (io := none) (lm := true) (by simp [fnD]) (by simp [faD]) rfl rfl ⟨rfl, rfl, rfl, by decide +kernel, rfl, by decide +kernel, by decide +kernel⟩ rfl (pa1 fun _ _ _ _ _ _ _ _ _ _ _ => rfl) (fun k hk => by cases hk) (fun _ => rfl)
end
end K37

set_option Elab.async false
set_option linter.all false
set_option maxRecDepth 100000
set_option maxHeartbeats 4000000
/-! H5: the defs told by hand; the module. -/
namespace K37
open PT PySem PySem.Spec PyProof.Rows L2
theorem below_text : BelowText (defBody (top 36)) := ⟨posAt (defBody (top 36)), by first | rfl | kernel_rfl, by decide +kernel⟩
theorem start_text : StartText (defBody (top 35)) := ⟨_, _, _, _, _, _, _, _, _, _, _, rfl⟩
def esOf : List Expr := match (defBody (top 32)).getD 1 (.Pass ⟨0, 0, 0, 0⟩) with
  | .Try _ (.ExceptHandler (some (.Tuple es _ _)) _ _ _ :: _) _ _ _ => es
  | _ => []
theorem raised_text : RaisedText (defBody (top 32)) "_law_fthings" esOf := ⟨_, _, _, _, _, _, _, _, _, _, _, _, _, _, _, _, _, _, _, _, _, _, _, rfl⟩
theorem th_text : ThText (defBody (top 33)) ["BadKind", "BadHead", "BadPlace", "BadMany", "BadLabel"] ["BadCoat", "BadTarget", "BadOther", "BadOrder"] ["kind", "head", "place", "many", "label", "coat", "target", "other", "order"] :=
  ⟨_, _, _, _, _, _, _, _, _, _, _, _, _, _, _, _, _, _, _, .cons (.cons (.cons (.cons (.cons .nil)))), .cons (.cons (.cons (.cons .nil))), .cons (.cons (.cons (.cons (.cons (.cons (.cons (.cons (.cons .nil)))))))), by decide +kernel, by decide +kernel, rfl⟩
end K37

set_option Elab.async false
set_option linter.all false
set_option maxRecDepth 100000
set_option maxHeartbeats 4000000
/-! H6: the module of k37, whole. -/
namespace K37
open PT PySem PySem.Spec PyProof.Rows L2
theorem nine_cls {sc : Scope} (hs : ∀ x ∈ nine, sc.names.lookup x = some NameKind.globalImplicit) {mg : Str → Option Value} {K : PySem.W.Frag} (hm : ∀ x ∈ nine, mg x = some (.ref (He.ga K x))) : ∀ {es : List Expr} {xs : List Str}, (∀ x ∈ xs, x ∈ nine) → es.map (fun e => match e with | .Name x _ => x | _ => ("" : Str)) = xs → (es.all fun e => match e with | .Name x _ => !(x == ("__debug__" : Str)) | _ => false) = true → ClsL mg sc es (xs.map fun x => .ref (He.ga K x))
  | [], xs, _, h, _ => by subst h; exact .nil
  | e :: es, xs, hx, h, hd => by
    subst h
    rw [List.all_cons, Bool.and_eq_true] at hd
    obtain ⟨h1, h2⟩ := hd
    cases e <;> simp only [Bool.false_eq_true] at h1
    rename_i x p
    have hx0 : x ∈ nine := hx x (by simp)
    exact .cons (hs x hx0) (by simpa using h1) (hm x hx0) (nine_cls hs hm (fun y hy => hx y (by rw [List.map_cons]; exact List.mem_cons_of_mem _ hy)) rfl h2)
section
variable {P : Program} {w : World} {K : PySem.W.Frag} {h : Heap} {mg : Str → Option Value}
variable (T : Told w h K mg)
include T
theorem f7 : FnT P w K mg "_law_start" 7 := by
  obtain ⟨fd, F⟩ := T.def_ (x := "_law_start") (i := 35) (by simp [fnD])
  obtain ⟨cdv, F2⟩ := text_of F
  refine ⟨He.ga K "_law_start", fd, ["script"], T.glo (by simp [faD]), rfl, F.kp, ⟨F.bindsN fun kV doc pm an cdv ct us hl => match us, hl with | [u], _ => rfl, fun k hk => by cases hk⟩, .inr ⟨none, gStart, rfl, fun base G' k run hB hG hC => ?_⟩⟩
  obtain ⟨g, rfl, _⟩ := hG
  exact start_fn (G := { G0 K with cl := g }) F2 ⟨rfl, rfl, rfl, by decide +kernel, rfl, by decide +kernel, by decide +kernel⟩ start_text rfl rfl (T.free (by simp [blts])) rfl
theorem f8 : FnT P w K mg "_law_below" 8 := by
  obtain ⟨fd, F⟩ := T.def_ (x := "_law_below") (i := 36) (by simp [fnD])
  obtain ⟨cdv, F2⟩ := text_of F
  refine ⟨He.ga K "_law_below", fd, ["stream", "many"], T.glo (by simp [faD]), rfl, F.kp, ⟨F.bindsN fun kV doc pm an cdv ct us hl => match us, hl with | [u, v], _ => rfl, fun k hk => by cases hk⟩, .inr ⟨some 0, gBelow, rfl, fun base G' k run hB hG hC => ?_⟩⟩
  exact below_fn F2 ⟨rfl, rfl, rfl, by decide +kernel, rfl, by decide +kernel, by decide +kernel⟩ below_text (by decide +kernel) rfl (T.free (by simp [blts]))
theorem f6 : FnT P w K mg "_law_fraised" 6 := by
  obtain ⟨fd, F⟩ := T.def_ (x := "_law_fraised") (i := 32) (by simp [fnD])
  obtain ⟨cdv, F2⟩ := text_of F
  obtain ⟨fth, Fth⟩ := T.def_ (x := "_law_fthings") (i := 33) (by simp [fnD])
  obtain ⟨cdth, Fth2⟩ := text_of Fth
  refine ⟨He.ga K "_law_fraised", fd, ["run"], T.glo (by simp [faD]), rfl, F.kp, ⟨F.bindsN fun kV doc pm an cdv ct us hl => match us, hl with | [u], _ => rfl, fun k hk => by cases hk⟩, .inr ⟨none, gRaised tag, rfl, fun base G' k run hB hG hC => ?_⟩⟩
  have hglo : ∀ x ∈ nine, mg x = some (.ref (He.ga K x)) := fun x hx => T.glo (List.mem_append_left _ (List.mem_append_right _ (List.mem_map_of_mem hx)))
  obtain ⟨ho, he, hx, hk⟩ := T.ex
  refine raised_fn (thn := "_law_fthings") (es := esOf) (cs := nine.map fun x => .ref (He.ga K x)) F2 ⟨rfl, rfl, rfl, by decide +kernel, rfl, by decide +kernel, by decide +kernel⟩ raised_text (nine_cls (by decide +kernel) hglo (fun _ z => z) (by rfl) (by decide +kernel)) (by decide +kernel) rfl rfl rfl rfl (by decide +kernel) (T.glo (by simp [faD])) Fth.kp
    (Fth.bindsN fun kV doc pm an cdv ct us hl => match us, hl with | [u], _ => rfl) (fun x s hxs => ?_) hC
  cases x with
  | succ n => cases hxs
  | zero =>
    have hs : some ("label" : Str) = some s := hxs
    cases hs
    obtain ⟨g, rfl, _⟩ := hG
    refine ⟨He.ga K "BadLabel", rfl, rfl, ⟨_, T.own⟩, hx, fun base a dd oe hb hz hf => ?_⟩
    let cls : Str → Option (Addr × Bool) := fun x => if x ∈ nine then some (He.ga K x, x == "BadLabel") else none
    refine things_fn (cls := cls) Fth2 ⟨rfl, rfl, rfl, by decide +kernel, rfl, by decide +kernel, by decide +kernel⟩ th_text (by rfl) rfl (excB_ok he) hb hz hf rfl (T.free (by simp [blts])) fun x C b hc => ?_
    have hc : (if x ∈ nine then some (He.ga K x, x == "BadLabel") else none) = some (C, b) := hc
    by_cases hn : x ∈ nine
    · rw [if_pos hn] at hc
      cases hc
      have all : ∀ x ∈ nine, (defScope (top 33)).names.lookup x = some NameKind.globalImplicit ∧ (x == ("__debug__" : Str)) = false := by decide +kernel
      exact ⟨(all x hn).1, (all x hn).2, hglo x hn, hk x hn⟩
    · rw [if_neg hn] at hc; cases hc
theorem txt : Txt P w K mg (G0 K) prog pt 40 40 3 [cTl K] where
  gK := rfl
  bl := fun x hx => T.free hx
  con := fun x d hd => by
    have hm := mem_lookup hd
    have h3 : ∀ z : Str, He.Fa.str x z ∈ faD → d = .str z → ∃ u v, mg x = some u ∧ RelV v u ∧ KRep (G0 K).K d v := fun z hz e => by
      obtain ⟨t, ht⟩ := He.str_ok T.X T.G (T.fact hz)
      exact ⟨_, .str z, ht, ⟨t, rfl⟩, by rw [e]; exact .str z⟩
    simp only [pt, List.mem_cons, List.not_mem_nil, or_false, Prod.mk.injEq] at hm
    rcases hm with ⟨rfl, rfl⟩ | ⟨rfl, rfl⟩ | ⟨rfl, rfl⟩
    · exact h3 _ (by simp [faD]) rfl
    · exact h3 _ (by simp [faD]) rfl
    · exact h3 _ (by simp [faD]) rfl
  cls := fun x i hi => by
    have hm := mem_lookup hi
    simp only [pt, List.mem_cons, List.not_mem_nil, or_false, Prod.mk.injEq] at hm
    obtain ⟨rfl, rfl⟩ := hm
    exact ⟨_, _, "thing", rfl, rfl, .inl rfl, T.own, T.glo (by simp [faD, nine])⟩
  fn := fun x i hi => by
    have hm := mem_lookup hi
    simp only [pt, List.mem_cons, List.not_mem_nil, or_false, Prod.mk.injEq] at hm
    rcases hm with ⟨rfl, rfl⟩ | ⟨rfl, rfl⟩ | ⟨rfl, rfl⟩ | ⟨rfl, rfl⟩ | ⟨rfl, rfl⟩ | ⟨rfl, rfl⟩ | ⟨rfl, rfl⟩ | ⟨rfl, rfl⟩ | ⟨rfl, rfl⟩ | ⟨rfl, rfl⟩ | ⟨rfl, rfl⟩ | ⟨rfl, rfl⟩
    · exact f0 T
    · exact f1 T
    · exact f2 T
    · exact f3 T
    · exact f4 T
    · exact f5 T
    · exact f6 T
    · exact f7 T
    · exact f8 T
    · exact f9 T
    · exact f10 T
    · exact f11 T
end
end K37

set_option Elab.async false
set_option linter.all false
set_option maxRecDepth 100000
set_option maxHeartbeats 4000000
/-! H7: the law of k37. -/
namespace K37
open PT PySem PySem.Spec PyProof.Rows L2
/-- the law's own promise at a script -/
theorem law_sp {K : PySem.W.Frag} {H : Hp} {a : Addr} {ns : List Int} (hT : H (cTl K).2 = some (.tbl #[])) (hS : SqL K H a (ns.map V.int)) : spF (G0 K) (prog.call 12) (prog.io 11) 11 [.ref a] H (fun v _ => v = .bl true) fun _ _ _ => False := by
  let W : Ow := fun b => if b = (cTl K).2 then some .b else none
  have nW : ∀ b o, W b = some o → o = .b := fun b o e => by
    have e : (if b = (cTl K).2 then some Wh.b else none) = some o := e
    split at e
    · cases e; rfl
    · cases e
  refine ⟨W, [(.scr ns, false)], [], fun b e => ?_, ⟨rfl, fun j d o e => ?_⟩, fun j d e => ?_, fun b j e => ?_, fun p hp => ?_, ?_⟩
  · have := nW b _ e; cases this
  · match j, e with
    | 0, e =>
      cases e
      refine ⟨.ref a, rfl, ?_⟩
      rw [if_neg Bool.false_ne_true]
      rcases hS with hS | hS
      · refine .scr ?_ hS
        show (if a = (cTl K).2 then some Wh.b else none) = none
        rw [if_neg]
        intro z
        rw [z] at hS
        rcases hS with hS | ⟨o, hS⟩ <;> (rw [hT] at hS; cases hS)
      · exact .scrK fun H => .inr hS
  · match j, e with
    | 0, e => cases e
  · have := nW b _ e; cases this
  · have hp := List.mem_singleton.mp hp
    subst hp
    refine ⟨by show (if (cTl K).2 = (cTl K).2 then some Wh.b else none) = _; rw [if_pos rfl], #[], hT, ?_, fun pos cv hc => ?_⟩
    · trivial
    · cases hc
  · rw [law_true ns]
    intro v W' H' _ hv
    unfold ValOk at hv
    rw [if_neg Bool.false_ne_true] at hv
    exact (Rep1.of hv.1).bl_
theorem facts {P : Program} {w : World} {K : PySem.W.Frag} {h : Heap} {mg : Str → Option Value} (T : Told w h K mg) {f : Addr} (hf : mg ("law" : Str) = some (.ref f)) :
    ∃ fd : FuncData, (∀ (s : Shared) (u : Value), BindsTo s fd ⟨[u], []⟩ [(("script" : Str), u)]) ∧ ∀ base : Heap, (∀ p ∈ [cTl K], LamX.TabB base mg p.1 p.2) → FnOk P w K mg base (L2N.CX P w) 27 f fd [("script" : Str)] (spF (G0 K) (prog.call 12) (prog.io 11) 11) := by
  obtain ⟨fd, F⟩ := T.def_ (x := "law") (i := 39) (by simp [fnD])
  have e := hf.symm.trans (T.glo (x := "law") (by simp [faD]))
  cases e
  refine ⟨fd, fun s u => F.bindsA (ps := [("script" : Str)]) (fun kV doc pm an cdv ct us hl => match us, hl with | [u], _ => rfl) s [u] rfl, fun base hB => ?_⟩
  obtain ⟨cdv, F2⟩ := text_of F
  have Tx := txt (P := P) T
  refine fn_text Tx (fn_all Tx 11) hB GExt.refl (fun f i e => by cases e) (i := 11) (N := N11) (io := none) (lm := true) rfl F2 ⟨rfl, rfl, rfl, by decide +kernel, rfl, by decide +kernel, by decide +kernel⟩ rfl fun _ => ?_
  obtain ⟨oc, od, dV, kV, doc, pm, an, ct, osl, rfl, lk, hcd⟩ := F2
  obtain ⟨c0, rfl⟩ := He.codeIn_ref hcd
  have e : He.codeOf K ("law", none) = c0 := He.codeOf_eq lk rfl
  refine ⟨c0, (cTl K).2, rfl, ?_, List.mem_cons_self, fun q hq _ => ?_⟩
  · rw [List.mem_singleton]
    show (c0, (cTl K).2) = (He.codeOf K ("law", none), (cTl K).2)
    rw [e]
  · have hq := List.mem_singleton.mp hq
    subst hq
    rfl
end K37
open PySem PySem.W PySem.Calls PyProof.Rows
set_option maxHeartbeats 0 in
theorem PySem.Challenge.cw_loopcoats_k37_places_of_labels_holds : PySem.Challenge.rw_loopcoats_k37_places_of_labels.Holds := by
  w_on; o_law
  refine HandSHeadRun.head_any (r := OpenLaw.row PySem.Challenge.rw_loopcoats_k37_places_of_labels) (q := view (OpenLaw.row PySem.Challenge.rw_loopcoats_k37_places_of_labels).prog [39]) (H := K37.hk) (ob := K37.ob) (M := 12000) (loose := K37.names) (d := HandSHeadRun.topDef (OpenLaw.row PySem.Challenge.rw_loopcoats_k37_places_of_labels).prog 39) (kwd := []) K37.ob_eq
    (by kernel_rfl) (fun s => by kernel_rfl) K37.run (by kernel_rfl) (by kernel_rfl) (by kernel_rfl) (by rfl) (by first | assumption | decide +kernel) (by decide +kernel) ⟨rfl, rfl, rfl, rfl, rfl, by decide +kernel⟩ ?hw ?hc
  case hw => w_witness2
  case hc =>
    refine LamX.walk_ofTsE (l := PySem.Challenge.rw_loopcoats_k37_places_of_labels) (n := 63) (k := 27) (x := "script") (CX := fun w => L2N.CX (PySem.Challenge.rw_loopcoats_k37_places_of_labels).prog w) rfl (by decide) (by kernel_rfl) ⟨rfl, by decide, by decide⟩ ?F (fun w H s e s' z => by obtain ⟨_, _, _, _, _, _, _, _, _, _, _, _, z⟩ := z; exact z)
    intro w mg fa h Y G hmg0
    obtain ⟨K, KX, c⟩ := Y
    have hmg : mg ("law" : PySem.Str) = some (.ref fa) := by
      have e : (HandSHeadRun.topDef (OpenLaw.row PySem.Challenge.rw_loopcoats_k37_places_of_labels).prog 39).name = ("law" : PySem.Str) := by kernel_rfl
      rw [← e]
      exact hmg0
    obtain ⟨fd, hb, hF⟩ := K37.facts (P := (PySem.Challenge.rw_loopcoats_k37_places_of_labels).prog) ⟨KX, G, c⟩ hmg
    have mem : (("law", none) : He.Defn) ∈ K37.tfD := List.mem_cons_self
    refine ⟨K, KX, fd, [K37.cTl K], _, fun p hp => ?_, fun p hp => ?_, fun p hp => ?_, hb, fun H a ns hl _ hT hS => K37.law_sp (hT _ List.mem_cons_self) hS, fun base _ _ hB => hF base hB⟩
    · rw [List.mem_singleton.mp hp]; exact c.empty _ mem
    · rw [List.mem_singleton.mp hp]; exact c.out _ mem
    · rw [List.mem_singleton.mp hp]; exact PySem.W.codeHd_of_K KX (c.hd _ mem)

