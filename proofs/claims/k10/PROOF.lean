import PyProof.Rows.All
import Wide.All
import OpenK.AllK
import Wide.FinOn
import HandS.ForMost
import HandS.Flow
import HandS.TupAny
import HandS.TupMul
import HandS.IsInst
import HandS.Exc
import HandS.WordsExc
import HandS.Ends
import PySem.Challenge.RW_promisedhall_k10_any_values_as_numbers_p
set_option Elab.async false
set_option linter.all false
set_option maxRecDepth 100000
set_option autoImplicit false
set_option maxHeartbeats 8000000
/-! A deterministic evaluator over trees of data. -/
namespace Ev
open PySem

/-- a value as data: lists and dicts by value never change, loc n is the n-th changing thing, ro the script -/
inductive D where
  | non | bl (b : Bool) | int (i : Int) | str (x : Str)
  | tup (xs : List D) | lst (xs : List D) | dct (ks : List L2.Key) (vs : List D) | ro (xs : List Int)
  | loc (n : Nat) | fn (x : Str)
instance : Inhabited D := ⟨.non⟩

inductive Ob where
  | lst (xs : List D) | dct (ks : List L2.Key) (vs : List D)
abbrev Sto := List Ob
abbrev Env := List (Option D)

inductive Out (α : Type) where
  | ok (a : α) (s : Sto) | ex (c : Str) (v : D) (s : Sto) | bad
def Out.bnd {α β : Type} (o : Out α) (f : α → Sto → Out β) : Out β := match o with
  | .ok a s => f a s
  | .ex c v s => .ex c v s
  | .bad => .bad
/-- what a value that may lack gives -/
def opt {α : Type} (o : Option α) (s : Sto) : Out α := match o with
  | some a => .ok a s
  | none => .bad

inductive BOp where
  | add | sub | mul | fdiv | mod | pow
inductive COp where
  | eq | ne | lt | le | gt | ge | isN | notN | isIn | notIn
inductive Prim where
  | len | abs | max2 | min2 | int1 | repr | divmod | sum | all | any | tuple | list
inductive Ty where
  | int | bool | str | tuple | list | dict
inductive IK where
  | seq | rng1 | rng2
inductive TN where
  | n (i : Nat) | t (ts : List TN)

inductive E where
  | c (d : D) | v (i : Nat) | g (x : Str)
  | bin (al : Bool) (o : BOp) (a b : E) | neg (a : E) | not (a : E) | and (a b : E) | or (a b : E) | ite (t a b : E)
  | cmp (o : COp) (a b : E) | chain (o p : COp) (a b c : E)
  | tup (es : List E) | lst (al : Bool) (es : List E) | dct (al : Bool) (ks : List L2.Key) (es : List E)
  | ix (a b : E) | sl (al : Bool) (a lo hi : E)
  | call (f : Str) (ks : List Str) (es : List E) | callv (i : Nat) (ks : List Str) (es : List E)
  | pr (al : Bool) (p : Prim) (es : List E) | isi (a : E) (t : Ty)
  | comp (al : Bool) (own : List Nat) (t : TN) (k : IK) (src ifs : List E) (elt : E)
  | app (a b : E) | ext (a b : E)
inductive Tg where
  | n (i : Nat) | t (ts : List Tg) | s (o i : E)
inductive S where
  | asg (t : Tg) (e : E) | par (is : List Nat) (es : List E) | ex (e : E) | iff (t : E) (a b : List S)
  | for_ (t : TN) (k : IK) (src : List E) (body : List S) | whl (t : E) (body : List S) | ret (e : Option E) | pass | brk | cont

/-- the defs that may be called: their parameters, what they do -/
structure Cal where
  all : List Str
  par : Str → List Str
  run : Str → List D → Sto → Out D

/-! ### values -/
def items (st : Sto) : D → Option (List D)
  | .lst xs => some xs
  | .loc n => match st[n]? with
    | some (.lst xs) => some xs
    | _ => none
  | _ => none
def keyPy : L2.Key → PyData
  | .inl i => .int i
  | .inr x => .str x
def zipKv : List L2.Key → List PyData → List (PyData × PyData)
  | k :: ks, v :: vs => (keyPy k, v) :: zipKv ks vs
  | _, _ => []
/-- a value as plain data -/
def toPy (st : Sto) : Nat → D → Option PyData
  | _, .non => some .none
  | _, .bl b => some (.bool b)
  | _, .int i => some (.int i)
  | _, .str x => some (.str x)
  | n + 1, .tup xs => (xs.mapM (toPy st n)).map .tuple
  | n + 1, .lst xs => (xs.mapM (toPy st n)).map .list
  | n + 1, .dct ks vs => if ks.length = vs.length then (vs.mapM (toPy st n)).map fun ps => .dict (zipKv ks ps) else none
  | n + 1, .loc m => match st[m]? with
    | some (.lst xs) => (xs.mapM (toPy st n)).map .list
    | some (.dct ks vs) => if ks.length = vs.length then (vs.mapM (toPy st n)).map fun ps => .dict (zipKv ks ps) else none
    | none => none
  | _, _ => none
/-- a bound of a text's length -/
def widStr (x : Str) : Nat := if x.cps.toList.all (fun c => decide (c < 4294967296)) then 10 * x.length + 2 else 2000000
mutual
def wid : PyData → Nat
  | .none => 4
  | .bool _ => 5
  | .int i => i.natAbs.log2 + 3
  | .str x => widStr x
  | .list xs => widAll xs + 2
  | .tuple xs => widAll xs + 3
  | .dict kvs => widKv kvs + 2
def widAll : List PyData → Nat
  | [] => 0
  | x :: xs => wid x + 2 + widAll xs
def widKv : List (PyData × PyData) → Nat
  | [] => 0
  | (k, v) :: r => wid k + 2 + wid v + 2 + widKv r
end
mutual
def noLst : PyData → Bool
  | .list _ => false
  | .tuple xs => noLstAll xs
  | .dict kvs => noLstKv kvs
  | _ => true
def noLstAll : List PyData → Bool
  | [] => true
  | x :: xs => noLst x && noLstAll xs
def noLstKv : List (PyData × PyData) → Bool
  | [] => true
  | (k, v) :: r => noLst k && noLst v && noLstKv r
end
def deep : Nat := 12
def most : Nat := 1000000
def reprD (st : Sto) (d : D) : Option D := match toPy st deep d with
  | some p => if p.showable = true ∧ wid p ≤ most ∧ (p.hasDict = false ∨ noLst p = true) then some (.str p.shown) else none
  | none => none
def eqD (st : Sto) (a b : D) : Option Bool := match toPy st deep a, toPy st deep b with
  | some p, some q => if SeqAt.shaped p = true ∧ SeqAt.shaped q = true then some (PyData.eqv p q) else none
  | _, _ => none
def flatD : D → Bool
  | .non | .bl _ | .int _ | .str _ => true
  | _ => false
def eqF : D → D → Bool
  | .non, .non => true
  | .bl a, .bl b => a == b
  | .bl a, .int b => (if a then 1 else 0) == b
  | .int a, .bl b => a == (if b then 1 else 0)
  | .int a, .int b => a == b
  | .str a, .str b => a == b
  | _, _ => false
def truth (st : Sto) : D → Option Bool
  | .non => some false
  | .bl b => some b
  | .int i => some (i != 0)
  | .str x => if x.length ≤ most then some ((x.length : Int) != 0) else none
  | .tup xs => some !xs.isEmpty
  | .lst xs => some !xs.isEmpty
  | .ro xs => some !xs.isEmpty
  | .dct ks _ => some !ks.isEmpty
  | .loc n => match st[n]? with
    | some (.lst xs) => some !xs.isEmpty
    | some (.dct ks _) => some !ks.isEmpty
    | none => none
  | .fn _ => none
/-- a new list: by value, or as a changing thing -/
def newL (al : Bool) (xs : List D) (st : Sto) : Out D := if al then .ok (.loc st.length) (st ++ [.lst xs]) else .ok (.lst xs) st
def newDct (al : Bool) (ks : List L2.Key) (vs : List D) (st : Sto) : Out D := if al then .ok (.loc st.length) (st ++ [.dct ks vs]) else .ok (.dct ks vs) st
def small (n : Nat) : Bool := decide (n ≤ most)
def bind2 {α β γ : Type} (a : Option α) (b : Option β) (f : α → β → Option γ) : Option γ := a.bind fun x => b.bind fun y => f x y
def addD (al : Bool) (a b : D) (st : Sto) : Out D := match a, b with
  | .int i, .int j => .ok (.int (i + j)) st
  | .str x, .str y => if small (x.length + y.length) then .ok (.str (x ++ y)) st else .bad
  | .tup xs, .tup ys => if small (xs.length + ys.length) then .ok (.tup (xs ++ ys)) st else .bad
  | x, y => match items st x, items st y with
    | some xs, some ys => if small (xs.length + ys.length) then newL al (xs ++ ys) st else .bad
    | _, _ => .bad
def subD (a b : D) (st : Sto) : Out D := match a, b with
  | .int i, .int j => .ok (.int (i - j)) st
  | _, _ => .bad
def mulD (a b : D) (st : Sto) : Out D := match a, b with
  | .int i, .int j => if (-(2 ^ 64) < i ∧ i < 2 ^ 64) ∨ (-(2 ^ 64) < j ∧ j < 2 ^ 64) then .ok (.int (i * j)) st else .bad
  | .tup xs, .int k => if -1000 ≤ k ∧ k ≤ 1000 ∧ xs.length ≤ 1000 then .ok (.tup (List.replicate k.toNat xs).flatten) st else .bad
  | _, _ => .bad
def fdivD (a b : D) (st : Sto) : Out D := match a, b with
  | .int i, .int j => if 0 < j ∧ j < 1073741824 then .ok (.int (i / j)) st else .bad
  | _, _ => .bad
def modD (a b : D) (st : Sto) : Out D := match a, b with
  | .int i, .int j => if 0 < j then .ok (.int (i % j)) st else .bad
  | _, _ => .bad
def powD (a b : D) (st : Sto) : Out D := match a, b with
  | .int i, .int j => if 0 ≤ j ∧ j ≤ 1000000 ∧ i.natAbs < 2 ^ 64 then .ok (.int (i ^ j.toNat)) st else .bad
  | _, _ => .bad
def binD (al : Bool) (o : BOp) (a b : D) (st : Sto) : Out D := match o with
  | .add => addD al a b st
  | .sub => subD a b st
  | .mul => mulD a b st
  | .fdiv => fdivD a b st
  | .mod => modD a b st
  | .pow => powD a b st
def relD (f : Int → Int → Bool) (a b : D) (st : Sto) : Out D := match a, b with
  | .int i, .int j => .ok (.bl (f i j)) st
  | _, _ => .bad
def eqDD (neg : Bool) (a b : D) (st : Sto) : Out D := match a, b with
  | .int i, .int j => .ok (.bl (neg != decide (i = j))) st
  | .str i, .str j => .ok (.bl (neg != decide (i = j))) st
  | x, y => (opt (eqD st x y) st).bnd fun k st => .ok (.bl (neg != k)) st
def isNoneD (neg : Bool) (a b : D) (st : Sto) : Out D := match b with
  | .non => .ok (.bl (neg != (match a with | .non => true | _ => false))) st
  | _ => .bad
/-- where «in» may look -/
def among (st : Sto) : D → Option (List D)
  | .tup xs => some xs
  | d => items st d
def inD (neg : Bool) (a b : D) (st : Sto) : Out D := match among st b with
  | some ys => if flatD a && ys.all flatD then .ok (.bl (neg != (ys.any fun y => eqF y a))) st else .bad
  | none => .bad
def cmpD (o : COp) (a b : D) (st : Sto) : Out D := match o with
  | .lt => relD (fun i j => decide (i < j)) a b st
  | .le => relD (fun i j => decide (i ≤ j)) a b st
  | .gt => relD (fun i j => decide (j < i)) a b st
  | .ge => relD (fun i j => decide (j ≤ i)) a b st
  | .eq => eqDD false a b st
  | .ne => eqDD true a b st
  | .isN => isNoneD false a b st
  | .notN => isNoneD true a b st
  | .isIn => inD false a b st
  | .notIn => inD true a b st
def intsD : List D → Option (List Int)
  | [] => some []
  | .int i :: r => (intsD r).map (i :: ·)
  | _ :: _ => none
def boolsD : List D → Option (List Bool)
  | [] => some []
  | .bl b :: r => (boolsD r).map (b :: ·)
  | _ :: _ => none
/-- the items of a list, as it stands -/
def lsOf (st : Sto) : D → Option (List D)
  | .lst xs => some xs
  | .ro xs => some (xs.map D.int)
  | .loc n => match st[n]? with
    | some (.lst xs) => some xs
    | _ => none
  | _ => none
/-- .. or of a tuple -/
def seqOf (st : Sto) : D → Option (List D)
  | .tup xs => some xs
  | d => lsOf st d
def lenD (st : Sto) : D → Option Nat
  | .str x => if small x.length then some x.length else none
  | d => (seqOf st d).map List.length
def arg1 (f : D → Sto → Out D) (ds : List D) (st : Sto) : Out D := match ds with
  | [d] => f d st
  | _ => .bad
def arg2 (f : D → D → Sto → Out D) (ds : List D) (st : Sto) : Out D := match ds with
  | [d, e] => f d e st
  | _ => .bad
def lenP (d : D) (st : Sto) : Out D := (opt (lenD st d) st).bnd fun n st => .ok (.int n) st
def absP (d : D) (st : Sto) : Out D := match d with
  | .int i => .ok (.int (if i < 0 then -i else i)) st
  | _ => .bad
def maxP (d e : D) (st : Sto) : Out D := match d, e with
  | .int i, .int j => .ok (.int (if j > i then j else i)) st
  | _, _ => .bad
def minP (d e : D) (st : Sto) : Out D := match d, e with
  | .int i, .int j => .ok (.int (if j < i then j else i)) st
  | _, _ => .bad
def intP (d : D) (st : Sto) : Out D := match d with
  | .int i => .ok (.int i) st
  | .bl b => .ok (.int (if b then 1 else 0)) st
  | _ => .bad
def reprP (d : D) (st : Sto) : Out D := opt (reprD st d) st
def divmodP (d e : D) (st : Sto) : Out D := match d, e with
  | .int i, .int j => if 0 < j ∧ j < 1073741824 then .ok (.tup [.int (i / j), .int (i % j)]) st else .bad
  | _, _ => .bad
def sumP (d : D) (st : Sto) : Out D := (opt ((items st d).bind intsD) st).bnd fun ns st => .ok (.int ns.sum) st
def allP (d : D) (st : Sto) : Out D := (opt ((items st d).bind boolsD) st).bnd fun bs st => .ok (.bl (bs.all id)) st
def anyP (d : D) (st : Sto) : Out D := (opt ((items st d).bind boolsD) st).bnd fun bs st => .ok (.bl (bs.any id)) st
def tupleP (d : D) (st : Sto) : Out D := match d with
  | .tup xs => .ok (.tup xs) st
  | d => (opt (lsOf st d) st).bnd fun xs st => .ok (.tup xs) st
def listP (al : Bool) (d : D) (st : Sto) : Out D := (opt (seqOf st d) st).bnd fun xs st => newL al xs st
def prD (al : Bool) (p : Prim) : List D → Sto → Out D := match p with
  | .len => arg1 lenP
  | .abs => arg1 absP
  | .max2 => arg2 maxP
  | .min2 => arg2 minP
  | .int1 => arg1 intP
  | .repr => arg1 reprP
  | .divmod => arg2 divmodP
  | .sum => arg1 sumP
  | .all => arg1 allP
  | .any => arg1 anyP
  | .tuple => arg1 tupleP
  | .list => arg1 (listP al)
def isTy : Ty → D → Sto → Option Bool
  | t, .non, _ => some false
  | t, .bl _, _ => some (match t with | .int => true | .bool => true | _ => false)
  | t, .int _, _ => some (match t with | .int => true | _ => false)
  | t, .str _, _ => some (match t with | .str => true | _ => false)
  | t, .tup _, _ => some (match t with | .tuple => true | _ => false)
  | t, .lst _, _ => some (match t with | .list => true | _ => false)
  | t, .dct _ _, _ => some (match t with | .dict => true | _ => false)
  | t, .loc n, st => match st[n]? with
    | some (.lst _) => some (match t with | .list => true | _ => false)
    | some (.dct _ _) => some (match t with | .dict => true | _ => false)
    | none => none
  | _, _, _ => none
def ixD (a b : D) (st : Sto) : Option D := match b with
  | .int i => match a with
    | .str z => if small z.length then (L2.atI z.cps.toList i).map fun c => .str ⟨#[c]⟩ else none
    | a => (seqOf st a).bind fun xs => L2.atI xs i
  | _ => none
def cutL {α : Type} (xs : List α) (lo hi : Option Int) : List α := (xs.drop (HT.sIx xs.length 0 lo)).take (HT.sIx xs.length xs.length hi - HT.sIx xs.length 0 lo)
def slD (al : Bool) (a : D) (lo hi : Option Int) (st : Sto) : Out D := match a with
  | .tup xs => .ok (.tup (cutL xs lo hi)) st
  | a => match lsOf st a with
    | some xs => newL al (cutL xs lo hi) st
    | none => .bad
def setAt (st : Sto) (n : Nat) (o : Ob) : Sto := st.set n o
/-- o[i] = v -/
def setItem (o i v : D) (st : Sto) : Option Sto := match o, i with
  | .loc n, .int k => match st[n]? with
    | some (.lst xs) => (L2.ixN xs.length k).map fun j => setAt st n (.lst (xs.set j v))
    | _ => none
  | _, _ => none

def negP (x : D) (st : Sto) : Out D := match x with
  | .int i => .ok (.int (-i)) st
  | _ => .bad
def partP (d : D) (st : Sto) : Out (Option Int) := match d with
  | .int i => .ok (some i) st
  | _ => .bad
/-- a slice's part: the constant None is a part left out -/
def isOmit : E → Bool
  | .c .non => true
  | _ => false
def partO (om : Bool) (r : Sto → Out D) (st : Sto) : Out (Option Int) := if om then .ok none st else (r st).bnd fun d st => partP d st
def isLst (x : D) (st : Sto) : Bool := match x with
  | .loc n => match st[n]? with
    | some (.lst _) => true
    | _ => false
  | _ => false
def appP (x y : D) (st : Sto) : Out D := match x with
  | .loc n => match st[n]? with
    | some (.lst xs) => if xs.length < most then .ok .non (setAt st n (.lst (xs ++ [y]))) else .bad
    | _ => .bad
  | _ => .bad
def extP (x y : D) (st : Sto) : Out D := match x with
  | .loc n => match st[n]?, items st y with
    | some (.lst xs), some ys => if small (xs.length + ys.length) then .ok .non (setAt st n (.lst (xs ++ ys))) else .bad
    | _, _ => .bad
  | _ => .bad

/-! ### walks -/
abbrev Itr := Nat → Sto → Option (Option D)
def atLoc (n : Nat) : Itr := fun i st => match st[n]? with
  | some (.lst xs) => some xs[i]?
  | _ => none
def itSeq (d : D) (st : Sto) : Option Itr := match d with
  | .tup xs => some fun i _ => some xs[i]?
  | .lst xs => some fun i _ => some xs[i]?
  | .ro xs => some fun i _ => some (xs[i]?.map D.int)
  | .loc n => if isLst (.loc n) st then some (atLoc n) else none
  | _ => none
def itRng (a b : Int) : Option Itr := if -(2 ^ 62) ≤ a ∧ a < 2 ^ 62 ∧ -(2 ^ 62) ≤ b ∧ b < 2 ^ 62 then some fun i _ => some (if i < (b - a).toNat then some (.int (a + i)) else none) else none
def itOf (k : IK) (ds : List D) (st : Sto) : Option Itr := match k, ds with
  | .seq, [d] => itSeq d st
  | .rng1, [.int j] => itRng 0 j
  | .rng2, [.int a, .int b] => itRng a b
  | _, _ => none
mutual
def setT : TN → D → Env → Option Env
  | .n i, d, env => some (env.set i (some d))
  | .t ts, .tup xs, env => setTs ts xs env
  | _, _, _ => none
termination_by structural t => t
def setTs : List TN → List D → Env → Option Env
  | [], [], env => some env
  | t :: ts, x :: xs, env => (setT t x env).bind fun env => setTs ts xs env
  | _, _, _ => none
termination_by structural t => t
end
def wipeE (env : Env) : List Nat → Env
  | [] => env
  | v :: vs => (wipeE env vs).set v none
def turns : Nat := 2 ^ 40
/-- a comprehension's turns -/
def compI (J : Itr) (turn : D → Sto → Out (Option D)) : Nat → Nat → List D → Sto → Out (List D)
  | 0, _, _, _ => .bad
  | m + 1, i, acc, st => match J i st with
    | none => .bad
    | some none => .ok acc st
    | some (some d) => (turn d st).bnd fun o st => match o with
      | none => compI J turn m (i + 1) acc st
      | some y => if acc.length < most then compI J turn m (i + 1) (acc ++ [y]) st else .bad

/-- one turn: the element, if the tests let it -/
def compT (t : TN) (env : Env) (rt : Env → Sto → Out Bool) (re : Env → Sto → Out D) (d : D) (st : Sto) : Out (Option D) := match setT t d env with
  | none => .bad
  | some e2 => match rt e2 st with
    | .ok false st => .ok none st
    | .ok true st => (match re e2 st with
      | .ok y st => .ok (some y) st
      | _ => .bad)
    | _ => .bad
def compEnd (al : Bool) (o : Out (List D)) : Out D := match o with
  | .ok ds st => newL al ds st
  | _ => .bad

inductive R where
  | nx (e : Env) (s : Sto) | rt (d : D) (s : Sto) | bk (e : Env) (s : Sto) | ct (e : Env) (s : Sto) | ex (c : Str) (v : D) (e : Env) (s : Sto) | bad
def R.seq (r : R) (f : Env → Sto → R) : R := match r with
  | .nx e s => f e s
  | r => r
def Out.toR {α : Type} (o : Out α) (env : Env) (f : α → Sto → R) : R := match o with
  | .ok a s => f a s
  | .ex c v s => .ex c v env s
  | .bad => .bad
def forI (J : Itr) (body : D → Env → Sto → R) : Nat → Nat → Env → Sto → R
  | 0, _, _, _ => .bad
  | m + 1, i, env, st => match J i st with
    | none => .bad
    | some none => .nx env st
    | some (some d) => match body d env st with
      | .nx e s => forI J body m (i + 1) e s
      | .ct e s => forI J body m (i + 1) e s
      | .bk e s => .nx e s
      | r => r
def whileI (test : Env → Sto → Out Bool) (body : Env → Sto → R) : Nat → Env → Sto → R
  | 0, _, _ => .bad
  | m + 1, env, st => (test env st).toR env fun b st => if b then (match body env st with
      | .nx e s => whileI test body m e s
      | .ct e s => whileI test body m e s
      | .bk e s => .nx e s
      | r => r) else .nx env st

def permIx (ps ks : List Str) (n : Nat) : Option (List Nat) :=
  let np := n - ks.length
  ps.zipIdx.mapM fun (p, j) => if j < np then some j else (ks.idxOf? p).map fun q => np + q
/-- the arguments in the parameters' order -/
def permArgs {α : Type} (ps ks : List Str) (ds : List α) : Option (List α) :=
  if ks = [] then (if ds.length = ps.length then some ds else none) else (permIx ps ks ds.length).bind fun ix => ix.mapM fun i => ds[i]?

def callC (C : Cal) (f : Str) (ks : List Str) (ds : List D) (st : Sto) : Out D := match permArgs (C.par f) ks ds with
  | some ds => C.run f ds st
  | none => .bad
section
variable (C : Cal)
mutual
def evE : E → Env → Sto → Out D
  | .c d, _, st => .ok d st
  | .v i, env, st => match env[i]? with
    | some (some d) => .ok d st
    | _ => .bad
  | .g x, _, st => .ok (.fn x) st
  | .bin al o a b, env, st => (evE a env st).bnd fun x st => (evE b env st).bnd fun y st => binD al o x y st
  | .neg a, env, st => (evE a env st).bnd fun x st => negP x st
  | .not a, env, st => (evE a env st).bnd fun x st => (opt (truth st x) st).bnd fun k st => .ok (.bl !k) st
  | .and a b, env, st => (evE a env st).bnd fun x st => (opt (truth st x) st).bnd fun k st => if k then evE b env st else .ok x st
  | .or a b, env, st => (evE a env st).bnd fun x st => (opt (truth st x) st).bnd fun k st => if k then .ok x st else evE b env st
  | .ite t a b, env, st => (evE t env st).bnd fun x st => (opt (truth st x) st).bnd fun k st => if k then evE a env st else evE b env st
  | .cmp o a b, env, st => (evE a env st).bnd fun x st => (evE b env st).bnd fun y st => cmpD o x y st
  | .chain o p a b c, env, st => (evE a env st).bnd fun x st => (evE b env st).bnd fun y st => (cmpD o x y st).bnd fun r st => match r with
    | .bl true => (evE c env st).bnd fun z st => cmpD p y z st
    | .bl false => .ok (.bl false) st
    | _ => .bad
  | .tup es, env, st => (evEs es env st).bnd fun ds st => if small ds.length then .ok (.tup ds) st else .bad
  | .lst al es, env, st => (evEs es env st).bnd fun ds st => if small ds.length then newL al ds st else .bad
  | .dct al ks es, env, st => (evEs es env st).bnd fun ds st => if ks.length = ds.length ∧ ks.Nodup ∧ ks.length ≤ 15 then newDct al ks ds st else .bad
  | .ix a b, env, st => (evE a env st).bnd fun x st => (evE b env st).bnd fun y st => opt (ixD x y st) st
  | .sl al a lo hi, env, st => (evE a env st).bnd fun x st => (partO (isOmit lo) (evE lo env) st).bnd fun l st => (partO (isOmit hi) (evE hi env) st).bnd fun h st => slD al x l h st
  | .call f ks es, env, st => (evEs es env st).bnd fun ds st => callC C f ks ds st
  | .callv i ks es, env, st => match env[i]? with
    | some (some (.fn f)) => if C.all.contains f then (evEs es env st).bnd fun ds st => callC C f ks ds st else .bad
    | _ => .bad
  | .pr al p es, env, st => (evEs es env st).bnd fun ds st => prD al p ds st
  | .isi a t, env, st => (evE a env st).bnd fun x st => (opt (isTy t x st) st).bnd fun k st => .ok (.bl k) st
  | .comp al own t k src ifs elt, env, st => (evEs src env st).bnd fun ds st => match itOf k ds st with
    | none => .bad
    | some J => compEnd al (compI J (compT t (wipeE env own) (fun e s => evTs ifs e s) fun e s => evE elt e s) turns 0 [] st)
  | .app a b, env, st => (evE a env st).bnd fun x st => if isLst x st then (evE b env st).bnd fun y st => appP x y st else .bad
  | .ext a b, env, st => (evE a env st).bnd fun x st => if isLst x st then (evE b env st).bnd fun y st => extP x y st else .bad
termination_by structural e => e
def evEs : List E → Env → Sto → Out (List D)
  | [], _, st => .ok [] st
  | e :: es, env, st => (evE e env st).bnd fun d st => (evEs es env st).bnd fun ds st => .ok (d :: ds) st
termination_by structural e => e
def evTs : List E → Env → Sto → Out Bool
  | [], _, st => .ok true st
  | e :: es, env, st => (evE e env st).bnd fun x st => (opt (truth st x) st).bnd fun k st => if k then evTs es env st else .ok false st
termination_by structural e => e
end
/-- where nothing may be raised -/
def noEx {α : Type} (o : Out α) : Out α := match o with
  | .ok a s => .ok a s
  | _ => .bad
mutual
def setG : Tg → D → Env → Sto → Out Env
  | .n i, d, env, st => .ok (env.set i (some d)) st
  | .t ts, .tup xs, env, st => setGs ts xs env st
  | .s o i, d, env, st => (noEx (evE C o env st)).bnd fun x st => (noEx (evE C i env st)).bnd fun y st => (opt (setItem x y d st) st).bnd fun st' _ => .ok env st'
  | _, _, _, _ => .bad
termination_by structural t => t
def setGs : List Tg → List D → Env → Sto → Out Env
  | [], [], env, st => .ok env st
  | t :: ts, x :: xs, env, st => (setG t x env st).bnd fun env st => setGs ts xs env st
  | _, _, _, _ => .bad
termination_by structural t => t
end
def test (t : E) (env : Env) (st : Sto) : Out Bool := (evE C t env st).bnd fun x st => opt (truth st x) st
def setMany : List Nat → List D → Env → Option Env
  | [], [], env => some env
  | i :: is, d :: ds, env => setMany is ds (env.set i (some d))
  | _, _, _ => none
mutual
def evS : S → Env → Sto → R
  | .asg t e, env, st => (evE C e env st).toR env fun d st => (noEx (setG C t d env st)).toR env fun env st => .nx env st
  | .par is es, env, st => (evEs C es env st).toR env fun ds st => match setMany is ds env with
    | some env => .nx env st
    | none => .bad
  | .ex e, env, st => (evE C e env st).toR env fun _ st => .nx env st
  | .iff t a b, env, st => (test C t env st).toR env fun k st => if k then evSs a env st else evSs b env st
  | .for_ t k src body, env, st => (evEs C src env st).toR env fun ds st => match itOf k ds st with
    | none => .bad
    | some J => forI J (fun d env st => match setT t d env with
      | none => .bad
      | some env => evSs body env st) turns 0 env st
  | .whl t body, env, st => whileI (test C t) (fun env st => evSs body env st) turns env st
  | .ret none, _, st => .rt .non st
  | .ret (some e), env, st => (evE C e env st).toR env fun d st => .rt d st
  | .pass, env, st => .nx env st
  | .brk, env, st => .bk env st
  | .cont, env, st => .ct env st
termination_by structural t => t
def evSs : List S → Env → Sto → R
  | [], env, st => .nx env st
  | s :: ss, env, st => (evS s env st).seq fun env st => evSs ss env st
termination_by structural t => t
end
end

/-- a def of the text -/
structure Df where
  par : List Str
  names : Nat
  body : List S
/-- what a call of it gives -/
def Df.go (f : Df) (C : Cal) (ds : List D) (st : Sto) : Out D :=
  if ds.length = f.par.length then match evSs C f.body (ds.map some ++ List.replicate (f.names - ds.length) none) st with
    | .rt d st => .ok d st
    | .nx _ st => .ok .non st
    | .ex c v _ st => .ex c v st
    | _ => .bad
  else .bad
/-- the defs by name -/
abbrev Tx := List (Str × Df)
def Tx.par (T : Tx) (f : Str) : List Str := match T.lookup f with
  | some d => d.par
  | none => []
/-- calls at most k deep -/
def Tx.at (T : Tx) : Nat → Cal
  | 0 => ⟨T.map (·.1), T.par, fun _ _ _ => .bad⟩
  | k + 1 => ⟨T.map (·.1), T.par, fun f ds st => match T.lookup f with
    | some d => d.go (T.at k) ds st
    | none => .bad⟩
end Ev
/-! From the text's own trees to the evaluator's. -/
namespace Ev
open PySem

structure Zt where
  N : List Str
  sc : Scope
  stn : List Str
  defs : List Str
  consts : List (Str × D)
  pats : List (Nat × List Str) := []

def isLoc (k : Option NameKind) : Bool := match k with
  | some .local => true
  | some .cell => true
  | some .free => true
  | _ => false
def plainName (x : Str) : Bool := !(x == ("__debug__" : Str)) && !(x == ("__classdict__" : Str)) && !(x == ("__name__" : Str))
def Zt.slot (Z : Zt) (x : Str) : Option Nat := if isLoc (Z.sc.names.lookup x) && plainName x then Z.N.idxOf? x else none
def Zt.slotW (Z : Zt) (x : Str) : Option Nat := if Z.stn.contains x && plainName x then Z.N.idxOf? x else none
def isGl (k : Option NameKind) : Bool := match k with
  | some .globalImplicit => true
  | _ => false
def Zt.glob (Z : Zt) (x : Str) : Bool := isGl (Z.sc.names.lookup x) && plainName x
def biNames : List Str := ["len", "abs", "max", "min", "int", "repr", "divmod", "sum", "all", "any", "tuple", "list", "isinstance", "range", "bool", "str", "dict", "enumerate", "zip", "sorted", "reversed", "set", "type"]
def primOf (x : Str) (n : Nat) : Option Prim :=
  if x = "len" ∧ n = 1 then some .len else if x = "abs" ∧ n = 1 then some .abs else if x = "max" ∧ n = 2 then some .max2 else if x = "min" ∧ n = 2 then some .min2
  else if x = "int" ∧ n = 1 then some .int1 else if x = "repr" ∧ n = 1 then some .repr else if x = "divmod" ∧ n = 2 then some .divmod else if x = "sum" ∧ n = 1 then some .sum
  else if x = "all" ∧ n = 1 then some .all else if x = "any" ∧ n = 1 then some .any else if x = "tuple" ∧ n = 1 then some .tuple else if x = "list" ∧ n = 1 then some .list else none
def tyOf (x : Str) : Option Ty :=
  if x = "int" then some .int else if x = "bool" then some .bool else if x = "str" then some .str else if x = "tuple" then some .tuple else if x = "list" then some .list else if x = "dict" then some .dict else none
def bopOf : Operator → Option BOp
  | .Add => some .add | .Sub => some .sub | .Mult => some .mul | .FloorDiv => some .fdiv | .Mod => some .mod | .Pow => some .pow
  | _ => none
def copOf : CmpOp → Option COp
  | .Eq => some .eq | .NotEq => some .ne | .Lt => some .lt | .LtE => some .le | .Gt => some .gt | .GtE => some .ge | .In => some .isIn | .NotIn => some .notIn
  | _ => none
def isNoneC : Expr → Bool
  | .Constant .none _ _ => true
  | _ => false
def notSet : Expr → Bool
  | .Set _ _ _ => false
  | _ => true
def plainIx : Expr → Bool
  | .Slice _ _ _ _ => false
  | _ => true
def plainObj : Expr → Bool
  | .Name _ _ => true
  | .Subscript _ _ _ => true
  | _ => false
def ownOf (N : List Str) : List (Str × NameKind) → List (Str × Nat)
  | [] => []
  | (x, k) :: r => if k == .local || k == .cell then match N.idxOf? x with
    | some i => (x, i) :: ownOf N r
    | none => ownOf N r
    else ownOf N r
def keysOf : List (Option Expr) → Option (List L2.Key)
  | [] => some []
  | some (.Constant (.int i) _ _) :: r => (keysOf r).map (.inl i :: ·)
  | some (.Constant (.str x) _ _) :: r => (keysOf r).map (.inr x :: ·)
  | _ :: _ => none
mutual
def trTN (Z : Zt) : Nat → Expr → Option TN
  | _, .Name x _ => (Z.slotW x).map .n
  | n + 1, .Tuple ts _ _ => (trTNs Z n ts).map .t
  | _, _ => none
def trTNs (Z : Zt) : Nat → List Expr → Option (List TN)
  | _, [] => some []
  | n + 1, t :: ts => (trTN Z n t).bind fun a => (trTNs Z n ts).bind fun r => some (a :: r)
  | 0, _ :: _ => none
end
mutual
def trE (Z : Zt) : Nat → Bool → Expr → Option E
  | 0, _, _ => none
  | n + 1, al, e => match e with
    | .Constant .none _ _ => some (.c .non)
    | .Constant (.bool b) _ _ => some (.c (.bl b))
    | .Constant (.int i) _ _ => some (.c (.int i))
    | .Constant (.str x) _ _ => some (.c (.str x))
    | .Name x _ => match Z.slot x with
      | some i => some (.v i)
      | none => if Z.glob x then (if Z.defs.contains x then some (.g x) else (Z.consts.lookup x).map .c) else none
    | .BinOp a o b _ => (bopOf o).bind fun o => (trE Z n false a).bind fun a => (trE Z n false b).bind fun b => some (.bin al o a b)
    | .UnaryOp .USub a _ => (trE Z n false a).map .neg
    | .UnaryOp .Not a _ => (trE Z n false a).map .not
    | .BoolOp .And vs _ => trB Z n true vs
    | .BoolOp .Or vs _ => trB Z n false vs
    | .IfExp t a b _ => (trE Z n false t).bind fun t => (trE Z n al a).bind fun a => (trE Z n al b).bind fun b => some (.ite t a b)
    | .Compare a [.Is] [b] _ => if isNoneC b then (trE Z n false a).map fun a => .cmp .isN a (.c .non) else none
    | .Compare a [.IsNot] [b] _ => if isNoneC b then (trE Z n false a).map fun a => .cmp .notN a (.c .non) else none
    | .Compare a [o] [b] _ => if notSet b then (copOf o).bind fun o => (trE Z n false a).bind fun a => (trE Z n false b).bind fun b => some (.cmp o a b) else none
    | .Compare a [o, p] [b, c] _ => if notSet c then (copOf o).bind fun o => (copOf p).bind fun p => (trE Z n false a).bind fun a => (trE Z n false b).bind fun b => (trE Z n false c).bind fun c => some (.chain o p a b c) else none
    | .Tuple es _ _ => (trEs Z n es).map .tup
    | .List es _ => (trEs Z n es).map (.lst al)
    | .Dict ks es _ => (keysOf ks).bind fun ks => (trEs Z n es).bind fun es => if ks.length = es.length && decide (ks.length ≤ 15) then some (.dct al ks es) else none
    | .Subscript a (.Slice lo hi none _) _ => (trE Z n false a).bind fun a => (trO Z n lo).bind fun lo => (trO Z n hi).bind fun hi => some (.sl al a lo hi)
    | .Subscript a b _ => if plainIx b then (trE Z n false a).bind fun a => (trE Z n false b).bind fun b => some (.ix a b) else none
    | .ListComp elt gs sc _ => match gs with
      | [g] => if g.is_async = 0 ∧ L2.blkC Z.N Z.sc sc (ownOf Z.N sc.names) = true then
          (trTN { Z with sc := L2.relS sc Z.sc, stn := (ownOf Z.N sc.names).map (·.1) } n g.target).bind fun t => (trI Z n g.iter).bind fun ks => (trEs { Z with sc := L2.relS sc Z.sc, stn := (ownOf Z.N sc.names).map (·.1) } n g.ifs).bind fun ifs =>
            if ifs.length ≤ 1 then (trE { Z with sc := L2.relS sc Z.sc, stn := (ownOf Z.N sc.names).map (·.1) } n false elt).bind fun elt => some (.comp al ((ownOf Z.N sc.names).map (·.2)) t ks.1 ks.2 ifs elt) else none
        else none
      | _ => none
    | .Call (.Name x _) args kws pos => if x = "isinstance" then (match args, kws with
        | [a, .Name t _], [] => if Z.glob x && Z.glob t then (tyOf t).bind fun t => (trE Z n false a).map fun a => .isi a t else none
        | _, _ => none)
      else match args, kws with
        | _ :: _, [] => (trEs Z n args).bind fun es =>
          match Z.slot x with
          | some i => some (.callv i [] es)
          | none => if Z.glob x then (if Z.defs.contains x then some (.call x [] es) else (primOf x es.length).map fun p => .pr al p es) else none
        | _, _ :: _ => (kws.mapM Keyword.arg).bind fun ks => (trEs Z n args).bind fun es => (trEs Z n (kws.map Keyword.value)).bind fun ws =>
          if Z.pats.contains (args.length, ks) then (match Z.slot x with
          | some i => some (.callv i ks (es ++ ws))
          | none => if Z.glob x && Z.defs.contains x then some (.call x ks (es ++ ws)) else none) else none
        | _, _ => none
    | .Call (.Attribute o m apos) [a] [] pos => if apos.endLine == pos.line && plainObj o then
        (if m = "append" then (trE Z n false o).bind fun o => (trE Z n false a).bind fun a => some (.app o a) else
        if m = "extend" then (trE Z n false o).bind fun o => (trE Z n false a).bind fun a => some (.ext o a) else none) else none
    | _ => none
def trB (Z : Zt) : Nat → Bool → List Expr → Option E
  | 0, _, _ => none
  | _, _, [] => none
  | n + 1, _, [a] => trE Z n false a
  | n + 1, k, a :: r => (trE Z n false a).bind fun a => (trB Z n k r).bind fun r => some (if k then .and a r else .or a r)
def trEs (Z : Zt) : Nat → List Expr → Option (List E)
  | _, [] => some []
  | 0, _ :: _ => none
  | n + 1, e :: es => (trE Z n false e).bind fun e => (trEs Z n es).bind fun es => some (e :: es)
def trO (Z : Zt) : Nat → Option Expr → Option E
  | _, none => some (.c .non)
  | 0, some _ => none
  | n + 1, some e => (trE Z n false e).bind fun m => match m with
    | .c .non => none
    | m => some m
def trI (Z : Zt) : Nat → Expr → Option (IK × List E)
  | 0, _ => none
  | n + 1, e => match e with
    | .Call (.Name x _) [a] [] _ => if x = "range" && Z.glob x && !Z.defs.contains x then (trE Z n false a).map fun a => (.rng1, [a]) else (trE Z n false e).map fun e => (.seq, [e])
    | .Call (.Name x _) [a, b] [] _ => if x = "range" && Z.glob x && !Z.defs.contains x then (trE Z n false a).bind fun a => (trE Z n false b).map fun b => (.rng2, [a, b]) else (trE Z n false e).map fun e => (.seq, [e])
    | .Set _ _ _ => none
    | e => (trE Z n false e).map fun e => (.seq, [e])
end
def isComp : Expr → Bool
  | .ListComp .. => true
  | .SetComp .. => true
  | .DictComp .. => true
  | _ => false
def isTupE : Expr → Bool
  | .Tuple .. => true
  | .List .. => true
  | _ => false
mutual
def trG (Z : Zt) : Nat → Expr → Option Tg
  | _, .Name x _ => (Z.slotW x).map .n
  | n + 1, .Tuple ts _ _ => (trGs Z n ts).map .t
  | n + 1, .Subscript o i _ => if plainIx i then (trE Z n false o).bind fun o => (trE Z n false i).bind fun i => some (.s o i) else none
  | _, _ => none
def trGs (Z : Zt) : Nat → List Expr → Option (List Tg)
  | _, [] => some []
  | n + 1, t :: ts => (trG Z n t).bind fun a => (trGs Z n ts).bind fun r => some (a :: r)
  | 0, _ :: _ => none
end
/-- the names of a pair of targets, both plain locals -/
def parName (Z : Zt) : Expr → Option (Str × Nat)
  | .Name x _ => if Z.sc.names.lookup x = some .local then (Z.slotW x).map (x, ·) else none
  | _ => none
def compLine : Expr → Nat → Pos → Bool
  | .ListComp _ _ _ pos, line, py => py.line == pos.line
  | _, _, _ => false
def compFree (x : Str) : Expr → Bool
  | .ListComp _ _ sc _ => !(sc.names.any fun (n, k) => n == x && (k == .local || k == .cell))
  | _ => false
mutual
def trS (Z : Zt) : Nat → Stmt → Option S
  | 0, _ => none
  | n + 1, s => match s with
    | .Assign [.Tuple [.Name x p, .Name y q] _ _] (.Tuple [a, b] _ _) _ =>
      (parName Z (.Name x p)).bind fun (x, i) => (parName Z (.Name y q)).bind fun (y, j) =>
        if x != y && i != j && p.line == q.line && !([a, b].all (foldedForSure 8)) && !([a, b].all (constantsAlone 8)) then
          (trE Z n true a).bind fun a => (trE Z n true b).bind fun b => some (.par [i, j] [a, b])
        else none
    | .Assign [.Name x p] e pos => if isComp e then
        (if Z.sc.names.lookup x = some .local && compLine e pos.line p && compFree x e then (trG Z n (.Name x p)).bind fun t => (trE Z n true e).bind fun e => some (.asg t e) else none)
      else (trG Z n (.Name x p)).bind fun t => (trE Z n true e).bind fun e => some (.asg t e)
    | .Assign [t] e _ => if isComp e || isTupE e then none else (trG Z n t).bind fun t => (trE Z n true e).bind fun e => some (.asg t e)
    | .Expr (.Constant (.str _) _ _) _ => some .pass
    | .Expr e _ => if isComp e then none else (trE Z n false e).map .ex
    | .If t a b _ => (trE Z n false t).bind fun t => (trSs Z n a).bind fun a => (trSs Z n b).bind fun b => some (.iff t a b)
    | .For t it body [] _ => (trTN Z n t).bind fun t => (trI Z n it).bind fun (k, src) => (trSs Z n body).bind fun body => some (.for_ t k src body)
    | .While t body [] _ => (trE Z n false t).bind fun t => (trSs Z n body).bind fun body => some (.whl t body)
    | .Return none _ => some (.ret none)
    | .Return (some e) _ => (trE Z n true e).map fun e => .ret (some e)
    | .Pass _ => some .pass
    | .Break _ => some .brk
    | .Continue _ => some .cont
    | _ => none
def trSs (Z : Zt) : Nat → List Stmt → Option (List S)
  | _, [] => some []
  | 0, _ :: _ => none
  | n + 1, s :: ss => (trS Z n s).bind fun s => (trSs Z n ss).bind fun ss => some (s :: ss)
end
def fuel : Nat := 200
/-- a def's statement, with the names of its slots -/
def trDef (defs : List Str) (consts : List (Str × D)) (pats : List (Nat × List Str)) (N : List Str) (s : Stmt) : Option Df := match s with
  | .FunctionDef _ args body _ _ _ sc _ _ _ =>
    let stn := (sc.names.map (·.1)).filter fun y => sc.names.lookup y == some .local || sc.names.lookup y == some .cell
    (trSs { N := N, sc := sc, stn := stn, defs := defs, consts := consts, pats := pats } fuel body).map fun b => { par := args.args.map (·.arg), names := N.length, body := b }
  | _ => none
end Ev
/-! How the evaluator's data lie in the abstract heap. -/
namespace Ev
open PySem PySem.Spec PyProof.Rows L2

/-- a list that never changes: the script -/
def RoL (K : PySem.W.Frag) (H : Hp) (a : Addr) (xs : List V) : Prop :=
  (∃ o, H a = some (.frz o (.lst xs))) ∨
    ∃ (o : Obj) (its : Array Value) (n : Nat), K.lookup a = some o ∧ o.cls = .type "list" ∧ o.dict = none ∧ o.data = .seq its n ∧ its.size ≤ sizeLine ∧ Vals xs its.toList
theorem RoL.sq {K : PySem.W.Frag} {H : Hp} {a : Addr} {xs : List V} (h : RoL K H a xs) : SqL K H a xs := by
  rcases h with ⟨o, h⟩ | h
  · exact .inl (.inr ⟨o, h⟩)
  · exact .inr h
section
variable (K : PySem.W.Frag) (mg : Str → Option Value)
mutual
inductive RD (ρ π : List Addr) (H : Hp) : D → V → Prop
  | non : RD ρ π H .non .non
  | bl (b : Bool) : RD ρ π H (.bl b) (.bl b)
  | int (i : Int) : RD ρ π H (.int i) (.int i)
  | str (x : Str) : RD ρ π H (.str x) (.str x)
  | tup {a : Addr} {vs : List V} {xs : List D} (h : SqT K H a vs) (r : RDs ρ π H xs vs) : RD ρ π H (.tup xs) (.ref a)
  | lst {a : Addr} {vs : List V} {xs : List D} (h : H a = some (.lst vs)) (n : a ∉ ρ) (m : a ∉ π) (r : RDs ρ π H xs vs) : RD ρ π H (.lst xs) (.ref a)
  | dct {a : Addr} {kvs : List (Key × V)} {ks : List Key} {xs : List D} (h : H a = some (.dK kvs)) (n : a ∉ ρ) (m : a ∉ π) (e : kvs.map (·.1) = ks) (r : RDs ρ π H xs (kvs.map (·.2))) : RD ρ π H (.dct ks xs) (.ref a)
  | ro {a : Addr} {ns : List Int} (h : RoL K H a (ns.map V.int)) : RD ρ π H (.ro ns) (.ref a)
  | loc {a : Addr} {n : Nat} (h : ρ[n]? = some a) : RD ρ π H (.loc n) (.ref a)
  | fn {a : Addr} {x : Str} (h : mg x = some (.ref a)) : RD ρ π H (.fn x) (.ref a)
inductive RDs (ρ π : List Addr) (H : Hp) : List D → List V → Prop
  | nil : RDs ρ π H [] []
  | cons {d : D} {v : V} {ds : List D} {vs : List V} (h : RD ρ π H d v) (t : RDs ρ π H ds vs) : RDs ρ π H (d :: ds) (v :: vs)
end
end

/-- from one stage to a later one -/
structure Ext (ρ : List Addr) (H : Hp) (ρ' : List Addr) (H' : Hp) : Prop where
  pre : ∃ τ, ρ' = ρ ++ τ ∧ ∀ b ∈ τ, b ∉ ρ ∧ H b = none
  keep : ∀ b o, b ∉ ρ → H b = some o → H' b = some o
theorem Ext.refl (ρ : List Addr) (H : Hp) : Ext ρ H ρ H := ⟨⟨[], by simp, fun _ h => nomatch h⟩, fun _ _ _ h => h⟩
theorem Ext.out {ρ ρ' : List Addr} {H H' : Hp} (e : Ext ρ H ρ' H') {b : Addr} {o : HO} (n : b ∉ ρ) (h : H b = some o) : b ∉ ρ' := by
  obtain ⟨τ, rfl, p⟩ := e.pre
  intro hb
  rcases List.mem_append.mp hb with h1 | h1
  · exact n h1
  · rw [(p b h1).2] at h
    cases h
theorem Ext.trans {ρ ρ1 ρ2 : List Addr} {H H1 H2 : Hp} (e : Ext ρ H ρ1 H1) (f : Ext ρ1 H1 ρ2 H2) : Ext ρ H ρ2 H2 := by
  refine ⟨?_, fun b o n h => f.keep b o (e.out n h) (e.keep b o n h)⟩
  obtain ⟨τ, h1, p⟩ := e.pre
  obtain ⟨τ2, h2, q⟩ := f.pre
  refine ⟨τ ++ τ2, by rw [h2, h1, List.append_assoc], fun b hb => ?_⟩
  rcases List.mem_append.mp hb with hb | hb
  · exact p b hb
  · obtain ⟨n1, n2⟩ := q b hb
    have nr : b ∉ ρ := fun z => n1 (by rw [h1]; exact List.mem_append_left _ z)
    refine ⟨nr, ?_⟩
    cases hh : H b with
    | none => rfl
    | some o =>
      rw [e.keep b o nr hh] at n2
      cases n2
theorem Ext.get {ρ ρ' : List Addr} {H H' : Hp} (e : Ext ρ H ρ' H') {n : Nat} {a : Addr} (h : ρ[n]? = some a) : ρ'[n]? = some a := by
  obtain ⟨τ, rfl, _⟩ := e.pre
  rw [List.getElem?_append_left (List.getElem?_eq_some_iff.mp h).1]
  exact h

/-- what changes -/
def IsMut (o : Option HO) : Prop := (∃ xs, o = some (.lst xs)) ∨ ∃ kvs, o = some (.dK kvs)
def Muts (ρ : List Addr) (H : Hp) : Prop := ∀ a ∈ ρ, IsMut (H a)
theorem Muts.notTup {ρ : List Addr} {H : Hp} (m : Muts ρ H) {a : Addr} {xs : List V} (h : H a = some (.tup xs)) : a ∉ ρ := fun z => by
  rcases m a z with ⟨_, e⟩ | ⟨_, e⟩ <;> rw [h] at e <;> cases e
theorem Muts.notFrz {ρ : List Addr} {H : Hp} (m : Muts ρ H) {a : Addr} {o : Obj} {u : HO} (h : H a = some (.frz o u)) : a ∉ ρ := fun z => by
  rcases m a z with ⟨_, e⟩ | ⟨_, e⟩ <;> rw [h] at e <;> cases e
theorem Muts.notNone {ρ : List Addr} {H : Hp} (m : Muts ρ H) {a : Addr} (h : H a = none) : a ∉ ρ := fun z => by
  rcases m a z with ⟨_, e⟩ | ⟨_, e⟩ <;> rw [h] at e <;> cases e

section
variable {K : PySem.W.Frag} {mg : Str → Option Value} {ρ ρ' π : List Addr} {H H' : Hp}
theorem sqT_mono (x : Ext ρ H ρ' H') (m : Muts ρ H) {a : Addr} {vs : List V} (h : SqT K H a vs) : SqT K H' a vs := by
  rcases h with h | h
  · rcases h with h | ⟨o, h⟩
    · exact .inl (.inl (x.keep _ _ (m.notTup h) h))
    · exact .inl (.inr ⟨o, x.keep _ _ (m.notFrz h) h⟩)
  · exact .inr h
theorem sqL_mono (x : Ext ρ H ρ' H') {a : Addr} {vs : List V} (n : a ∉ ρ) (h : SqL K H a vs) : SqL K H' a vs := by
  rcases h with h | h
  · rcases h with h | ⟨o, h⟩
    · exact .inl (.inl (x.keep _ _ n h))
    · exact .inl (.inr ⟨o, x.keep _ _ n h⟩)
  · exact .inr h
/-- a new thing that the store does not hold -/
theorem Ext.new {p : Addr} {o : HO} (h : H p = none) : Ext ρ H ρ (upd H p o) := ⟨⟨[], by simp, fun _ z => nomatch z⟩, fun b u n e => by rw [upd_ne (ne_of_none e h)]; exact e⟩
theorem RoL.mono (x : Ext ρ H ρ' H') (m : Muts ρ H) {a : Addr} {vs : List V} (h : RoL K H a vs) : RoL K H' a vs := by
  rcases h with ⟨o, h⟩ | h
  · exact .inl ⟨o, x.keep _ _ (m.notFrz h) h⟩
  · exact .inr h
mutual
theorem RD.mono (x : Ext ρ H ρ' H') (m : Muts ρ H) : ∀ {d : D} {v : V}, RD K mg ρ π H d v → RD K mg ρ' π H' d v
  | _, _, .non => .non
  | _, _, .bl b => .bl b
  | _, _, .int i => .int i
  | _, _, .str z => .str z
  | _, _, .tup h r => .tup (sqT_mono x m h) (RDs.mono x m r)
  | _, _, .lst h n p r => .lst (x.keep _ _ n h) (x.out n h) p (RDs.mono x m r)
  | _, _, .dct h n p e r => .dct (x.keep _ _ n h) (x.out n h) p e (RDs.mono x m r)
  | _, _, .ro h => .ro (h.mono x m)
  | _, _, .loc h => .loc (x.get h)
  | _, _, .fn h => .fn h
theorem RDs.mono (x : Ext ρ H ρ' H') (m : Muts ρ H) : ∀ {ds : List D} {vs : List V}, RDs K mg ρ π H ds vs → RDs K mg ρ' π H' ds vs
  | _, _, .nil => .nil
  | _, _, .cons h t => .cons (RD.mono x m h) (RDs.mono x m t)
end
theorem RDs.length : ∀ {ds : List D} {vs : List V}, RDs K mg ρ π H ds vs → ds.length = vs.length
  | _, _, .nil => rfl
  | _, _, .cons _ t => by rw [List.length_cons, List.length_cons, RDs.length t]
theorem RDs.get : ∀ {ds : List D} {vs : List V} {i : Nat} {d : D}, RDs K mg ρ π H ds vs → ds[i]? = some d → ∃ v, vs[i]? = some v ∧ RD K mg ρ π H d v
  | _, _, _, _, .nil, e => by simp at e
  | _, _, 0, _, .cons h _, e => ⟨_, rfl, by simp at e; rw [← e]; exact h⟩
  | _, _, i + 1, _, .cons _ t, e => RDs.get (i := i) t (by simpa using e)
theorem RDs.getV : ∀ {ds : List D} {vs : List V} {i : Nat} {v : V}, RDs K mg ρ π H ds vs → vs[i]? = some v → ∃ d, ds[i]? = some d ∧ RD K mg ρ π H d v
  | _, _, _, _, .nil, e => by simp at e
  | _, _, 0, _, .cons h _, e => ⟨_, rfl, by simp at e; rw [← e]; exact h⟩
  | _, _, i + 1, _, .cons _ t, e => RDs.getV (i := i) t (by simpa using e)
theorem RDs.append : ∀ {ds es : List D} {vs ws : List V}, RDs K mg ρ π H ds vs → RDs K mg ρ π H es ws → RDs K mg ρ π H (ds ++ es) (vs ++ ws)
  | _, _, _, _, .nil, s => s
  | _, _, _, _, .cons h t, s => .cons h (RDs.append t s)
theorem RDs.take (n : Nat) : ∀ {ds : List D} {vs : List V}, RDs K mg ρ π H ds vs → RDs K mg ρ π H (ds.take n) (vs.take n) := by
  induction n with
  | zero => intro ds vs _; simpa using RDs.nil
  | succ n ih =>
    intro ds vs h
    cases h with
    | nil => exact .nil
    | cons h t => exact .cons h (ih t)
theorem RDs.drop (n : Nat) : ∀ {ds : List D} {vs : List V}, RDs K mg ρ π H ds vs → RDs K mg ρ π H (ds.drop n) (vs.drop n) := by
  induction n with
  | zero => intro ds vs h; exact h
  | succ n ih =>
    intro ds vs h
    cases h with
    | nil => exact .nil
    | cons h t => exact ih t
theorem RDs.set (i : Nat) {d : D} {v : V} (h : RD K mg ρ π H d v) : ∀ {ds : List D} {vs : List V}, RDs K mg ρ π H ds vs → RDs K mg ρ π H (ds.set i d) (vs.set i v) := by
  induction i with
  | zero =>
    intro ds vs t
    cases t with
    | nil => exact .nil
    | cons _ t => exact .cons h t
  | succ n ih =>
    intro ds vs t
    cases t with
    | nil => exact .nil
    | cons k t => exact .cons k (ih t)
theorem RDs.rep {ds : List D} {vs : List V} (h : RDs K mg ρ π H ds vs) : ∀ k : Nat, RDs K mg ρ π H (List.replicate k ds).flatten (List.replicate k vs).flatten
  | 0 => .nil
  | k + 1 => by
    rw [List.replicate_succ, List.replicate_succ, List.flatten_cons, List.flatten_cons]
    exact RDs.append h (RDs.rep h k)
theorem RDs.ints : ∀ ns : List Int, RDs K mg ρ π H (ns.map D.int) (ns.map V.int)
  | [] => .nil
  | n :: r => .cons (.int n) (RDs.ints r)

/-- an object of the store -/
inductive ObR (K : PySem.W.Frag) (mg : Str → Option Value) (ρ π : List Addr) (H : Hp) : Ob → Addr → Prop
  | lst {a : Addr} {vs : List V} {xs : List D} (h : H a = some (.lst vs)) (r : RDs K mg ρ π H xs vs) : ObR K mg ρ π H (.lst xs) a
  | dct {a : Addr} {kvs : List (Key × V)} {ks : List Key} {xs : List D} (h : H a = some (.dK kvs)) (e : kvs.map (·.1) = ks) (r : RDs K mg ρ π H xs (kvs.map (·.2))) : ObR K mg ρ π H (.dct ks xs) a
structure SR (K : PySem.W.Frag) (mg : Str → Option Value) (ρ π : List Addr) (H : Hp) (st : Sto) : Prop where
  len : ρ.length = st.length
  nd : ρ.Nodup
  ob : ∀ (n : Nat) (a : Addr) (o : Ob), ρ[n]? = some a → st[n]? = some o → ObR K mg ρ π H o a
  pi : ∀ b ∈ π, b ∉ ρ ∧ H b ≠ none
theorem SR.muts {st : Sto} (s : SR K mg ρ π H st) : Muts ρ H := fun a ha => by
  obtain ⟨n, hn, e⟩ := List.mem_iff_getElem.mp ha
  have h1 : ρ[n]? = some a := by rw [List.getElem?_eq_getElem hn, e]
  have hl : n < st.length := by rw [← s.len]; exact hn
  obtain ⟨o, ho⟩ : ∃ o, st[n]? = some o := ⟨_, List.getElem?_eq_getElem hl⟩
  cases s.ob n a o h1 ho with
  | lst h _ => exact .inl ⟨_, h⟩
  | dct h _ _ => exact .inr ⟨_, h⟩
theorem SR.at {st : Sto} (s : SR K mg ρ π H st) {n : Nat} {a : Addr} {o : Ob} (h : ρ[n]? = some a) (e : st[n]? = some o) : ObR K mg ρ π H o a := s.ob n a o h e
theorem SR.atL {st : Sto} (s : SR K mg ρ π H st) {n : Nat} {a : Addr} {xs : List D} (h : ρ[n]? = some a) (e : st[n]? = some (.lst xs)) : ∃ vs, H a = some (.lst vs) ∧ RDs K mg ρ π H xs vs := by
  cases s.ob n a _ h e with
  | lst h r => exact ⟨_, h, r⟩
theorem SR.fresh {st : Sto} (s : SR K mg ρ π H st) {p : Addr} (h : H p = none) : p ∉ ρ ∧ p ∉ π := ⟨s.muts.notNone h, fun z => (s.pi p z).2 h⟩

theorem ObR.mono (x : Ext ρ H ρ' H') (m : Muts ρ H) {o : Ob} {a : Addr} (e : H' a = H a) (h : ObR K mg ρ π H o a) : ObR K mg ρ' π H' o a := by
  cases h with
  | lst h r => exact .lst (by rw [e]; exact h) (r.mono x m)
  | dct h k r => exact .dct (by rw [e]; exact h) k (r.mono x m)
theorem SR.new {st : Sto} (s : SR K mg ρ π H st) {p : Addr} {o : HO} (h : H p = none) : SR K mg ρ π (upd H p o) st := by
  have hn := s.fresh h
  refine ⟨s.len, s.nd, fun n a u e1 e2 => ?_, fun b hb => ⟨(s.pi b hb).1, ?_⟩⟩
  · have ha : a ≠ p := fun z => hn.1 (z ▸ List.mem_of_getElem? e1)
    exact (s.ob n a u e1 e2).mono (Ext.new h) s.muts (upd_ne ha)
  · have hb' : b ≠ p := fun z => hn.2 (z ▸ hb)
    rw [upd_ne hb']
    exact (s.pi b hb).2
mutual
/-- less is held -/
theorem RD.less {p : Addr} : ∀ {d : D} {v : V}, RD K mg ρ (p :: π) H d v → RD K mg ρ π H d v
  | _, _, .non => .non
  | _, _, .bl b => .bl b
  | _, _, .int i => .int i
  | _, _, .str z => .str z
  | _, _, .tup h r => .tup h (RDs.less r)
  | _, _, .lst h n q r => .lst h n (fun z => q (List.mem_cons_of_mem _ z)) (RDs.less r)
  | _, _, .dct h n q e r => .dct h n (fun z => q (List.mem_cons_of_mem _ z)) e (RDs.less r)
  | _, _, .ro h => .ro h
  | _, _, .loc h => .loc h
  | _, _, .fn h => .fn h
theorem RDs.less {p : Addr} : ∀ {ds : List D} {vs : List V}, RDs K mg ρ (p :: π) H ds vs → RDs K mg ρ π H ds vs
  | _, _, .nil => .nil
  | _, _, .cons h t => .cons (RD.less h) (RDs.less t)
end
mutual
/-- a new thing is held, and stands at p -/
theorem RD.more {p : Addr} {o : HO} (m : Muts ρ H) (hp : H p = none) : ∀ {d : D} {v : V}, RD K mg ρ π H d v → RD K mg ρ (p :: π) (upd H p o) d v
  | _, _, .non => .non
  | _, _, .bl b => .bl b
  | _, _, .int i => .int i
  | _, _, .str z => .str z
  | _, _, .tup h r => .tup (sqT_mono (Ext.new (ρ := ρ) hp) m h) (RDs.more m hp r)
  | _, _, .lst h n q r => .lst (by rw [upd_ne (ne_of_none h hp)]; exact h) n (fun z => by
      rcases List.mem_cons.mp z with z | z
      · exact ne_of_none h hp z
      · exact q z) (RDs.more m hp r)
  | _, _, .dct h n q e r => .dct (by rw [upd_ne (ne_of_none h hp)]; exact h) n (fun z => by
      rcases List.mem_cons.mp z with z | z
      · exact ne_of_none h hp z
      · exact q z) e (RDs.more m hp r)
  | _, _, .ro h => .ro (h.mono (Ext.new (ρ := ρ) hp) m)
  | _, _, .loc h => .loc h
  | _, _, .fn h => .fn h
theorem RDs.more {p : Addr} {o : HO} (m : Muts ρ H) (hp : H p = none) : ∀ {ds : List D} {vs : List V}, RDs K mg ρ π H ds vs → RDs K mg ρ (p :: π) (upd H p o) ds vs
  | _, _, .nil => .nil
  | _, _, .cons h t => .cons (RD.more m hp h) (RDs.more m hp t)
end
theorem SR.more {st : Sto} (s : SR K mg ρ π H st) {p : Addr} {o : HO} (h : H p = none) : SR K mg ρ (p :: π) (upd H p o) st := by
  have hn := s.fresh h
  refine ⟨s.len, s.nd, fun n a u e1 e2 => ?_, fun b hb => ?_⟩
  · have ha : a ≠ p := fun z => hn.1 (z ▸ List.mem_of_getElem? e1)
    cases s.ob n a u e1 e2 with
    | lst h1 r => exact .lst (by rw [upd_ne ha]; exact h1) (r.more s.muts h)
    | dct h1 k r => exact .dct (by rw [upd_ne ha]; exact h1) k (r.more s.muts h)
  · rcases List.mem_cons.mp hb with rfl | hb
    · exact ⟨hn.1, by rw [upd_same]; exact fun z => nomatch z⟩
    · have hb' : b ≠ p := fun z => hn.2 (z ▸ hb)
      rw [upd_ne hb']
      exact s.pi b hb
theorem SR.less {st : Sto} {p : Addr} (s : SR K mg ρ (p :: π) H st) : SR K mg ρ π H st := by
  refine ⟨s.len, s.nd, fun n a u e1 e2 => ?_, fun b hb => s.pi b (List.mem_cons_of_mem _ hb)⟩
  cases s.ob n a u e1 e2 with
  | lst h1 r => exact .lst h1 r.less
  | dct h1 k r => exact .dct h1 k r.less
mutual
/-- what was held becomes a thing of the store -/
theorem RD.push {p : Addr} : ∀ {d : D} {v : V}, RD K mg ρ (p :: π) H d v → RD K mg (ρ ++ [p]) π H d v
  | _, _, .non => .non
  | _, _, .bl b => .bl b
  | _, _, .int i => .int i
  | _, _, .str z => .str z
  | _, _, .tup h r => .tup h (RDs.push r)
  | _, _, .lst h n q r => .lst h (fun z => by
      rcases List.mem_append.mp z with z | z
      · exact n z
      · exact q (List.mem_cons.mpr (.inl (List.mem_singleton.mp z)))) (fun z => q (List.mem_cons_of_mem _ z)) (RDs.push r)
  | _, _, .dct h n q e r => .dct h (fun z => by
      rcases List.mem_append.mp z with z | z
      · exact n z
      · exact q (List.mem_cons.mpr (.inl (List.mem_singleton.mp z)))) (fun z => q (List.mem_cons_of_mem _ z)) e (RDs.push r)
  | _, _, .ro h => .ro h
  | _, _, .loc h => .loc (by rw [List.getElem?_append_left (List.getElem?_eq_some_iff.mp h).1]; exact h)
  | _, _, .fn h => .fn h
theorem RDs.push {p : Addr} : ∀ {ds : List D} {vs : List V}, RDs K mg ρ (p :: π) H ds vs → RDs K mg (ρ ++ [p]) π H ds vs
  | _, _, .nil => .nil
  | _, _, .cons h t => .cons (RD.push h) (RDs.push t)
end
theorem ObR.push {p : Addr} {o : Ob} {a : Addr} (h : ObR K mg ρ (p :: π) H o a) : ObR K mg (ρ ++ [p]) π H o a := by
  cases h with
  | lst h r => exact .lst h r.push
  | dct h k r => exact .dct h k r.push
theorem SR.push {st : Sto} {p : Addr} {o : Ob} (s : SR K mg ρ (p :: π) H st) (hn : p ∉ π) (h : ObR K mg ρ (p :: π) H o p) : SR K mg (ρ ++ [p]) π H (st ++ [o]) := by
  have np : p ∉ ρ := (s.pi p List.mem_cons_self).1
  refine ⟨by rw [List.length_append, List.length_append, s.len]; rfl, ?_, fun n a u e1 e2 => ?_, fun b hb => ?_⟩
  · refine List.nodup_append.mpr ⟨s.nd, by simp, fun a ha b hb e => ?_⟩
    rw [List.mem_singleton.mp hb] at e
    exact np (e ▸ ha)
  · by_cases hl : n < ρ.length
    · rw [List.getElem?_append_left hl] at e1
      rw [List.getElem?_append_left (by rw [← s.len]; exact hl)] at e2
      exact (s.ob n a u e1 e2).push
    · have hl' : ρ.length ≤ n := Nat.le_of_not_lt hl
      rw [List.getElem?_append_right hl'] at e1
      rw [List.getElem?_append_right (by rw [← s.len]; exact hl')] at e2
      have hz : n - ρ.length = 0 := by
        cases hh : n - ρ.length with
        | zero => rfl
        | succ k => rw [hh] at e1; simp at e1
      rw [hz] at e1
      rw [← s.len, hz] at e2
      have ea : p = a := Option.some.inj e1
      have eu : o = u := Option.some.inj e2
      rw [← ea, ← eu]
      exact h.push
  · obtain ⟨h1, h2⟩ := s.pi b (List.mem_cons_of_mem _ hb)
    refine ⟨fun z => ?_, h2⟩
    rcases List.mem_append.mp z with z | z
    · exact h1 z
    · rw [List.mem_singleton.mp z] at hb
      exact hn hb
/-- the store's n-th thing is changed -/
theorem Ext.set {a : Addr} {o : HO} {n : Nat} (h : ρ[n]? = some a) : Ext ρ H ρ (upd H a o) := ⟨⟨[], by simp, fun _ z => nomatch z⟩, fun b u nb e => by
  have hb : b ≠ a := fun z => nb (z ▸ List.mem_of_getElem? h)
  rw [upd_ne hb]
  exact e⟩
theorem nodup_at {l : List Addr} (nd : l.Nodup) {i j : Nat} {a : Addr} (h : l[i]? = some a) (g : l[j]? = some a) : i = j := by
  obtain ⟨hi, ei⟩ := List.getElem?_eq_some_iff.mp h
  exact (List.getElem?_inj hi nd).mp (h.trans g.symm)
theorem SR.set {st : Sto} (s : SR K mg ρ π H st) {n : Nat} {a : Addr} {xs : List D} {vs : List V} (h : ρ[n]? = some a) (r : RDs K mg ρ π H xs vs) : SR K mg ρ π (upd H a (.lst vs)) (st.set n (.lst xs)) := by
  have hx : Ext ρ H ρ (upd H a (.lst vs)) := Ext.set h
  refine ⟨by rw [List.length_set]; exact s.len, s.nd, fun m b u e1 e2 => ?_, fun b hb => ?_⟩
  · by_cases hm : m = n
    · subst hm
      rw [h] at e1
      have eb : a = b := Option.some.inj e1
      subst eb
      have hlt : m < st.length := by rw [← s.len]; exact (List.getElem?_eq_some_iff.mp h).1
      rw [List.getElem?_set_self hlt] at e2
      have eu : Ob.lst xs = u := Option.some.inj e2
      rw [← eu]
      exact .lst upd_same (r.mono hx s.muts)
    · rw [List.getElem?_set_ne (Ne.symm hm)] at e2
      have hb : b ≠ a := fun z => hm (nodup_at s.nd e1 (z ▸ h))
      exact (s.ob m b u e1 e2).mono hx s.muts (upd_ne hb)
  · obtain ⟨h1, h2⟩ := s.pi b hb
    have hb' : b ≠ a := fun z => h1 (z ▸ List.mem_of_getElem? h)
    rw [upd_ne hb']
    exact ⟨h1, h2⟩
end

/-! ### slots -/
def RE (K : PySem.W.Frag) (mg : Str → Option Value) (ρ π : List Addr) (H : Hp) (env : Env) (σ : L2.St) : Prop :=
  env.length = σ.length ∧ ∀ (i : Nat) (d : D), env[i]? = some (some d) → ∃ v, σ[i]? = some (some v) ∧ RD K mg ρ π H d v
section
variable {K : PySem.W.Frag} {mg : Str → Option Value} {ρ ρ' π : List Addr} {H H' : Hp} {env : Env} {σ : L2.St}
theorem RE.mono (x : Ext ρ H ρ' H') (m : Muts ρ H) (h : RE K mg ρ π H env σ) : RE K mg ρ' π H' env σ :=
  ⟨h.1, fun i d e => let ⟨v, e1, r⟩ := h.2 i d e; ⟨v, e1, r.mono x m⟩⟩
theorem RE.set (h : RE K mg ρ π H env σ) (i : Nat) {d : D} {v : V} (r : RD K mg ρ π H d v) : RE K mg ρ π H (env.set i (some d)) (σ.set i (some v)) := by
  refine ⟨by rw [List.length_set, List.length_set]; exact h.1, fun j e hj => ?_⟩
  by_cases hij : j = i
  · subst hij
    by_cases hl : j < env.length
    · rw [List.getElem?_set_self hl] at hj
      have ed : d = e := Option.some.inj (Option.some.inj hj)
      rw [← ed]
      exact ⟨v, by rw [List.getElem?_set_self (by rw [← h.1]; exact hl)], r⟩
    · rw [List.getElem?_eq_none (by rw [List.length_set]; omega)] at hj
      cases hj
  · rw [List.getElem?_set_ne (Ne.symm hij)] at hj
    rw [List.getElem?_set_ne (Ne.symm hij)]
    exact h.2 j e hj
theorem RE.unset (h : RE K mg ρ π H env σ) (i : Nat) : RE K mg ρ π H (env.set i none) (σ.set i none) := by
  refine ⟨by rw [List.length_set, List.length_set]; exact h.1, fun j e hj => ?_⟩
  by_cases hij : j = i
  · subst hij
    by_cases hl : j < env.length
    · rw [List.getElem?_set_self hl] at hj
      cases hj
    · rw [List.getElem?_eq_none (by rw [List.length_set]; omega)] at hj
      cases hj
  · rw [List.getElem?_set_ne (Ne.symm hij)] at hj
    rw [List.getElem?_set_ne (Ne.symm hij)]
    exact h.2 j e hj
theorem RE.wipe (h : RE K mg ρ π H env σ) : ∀ vs : List Nat, RE K mg ρ π H (wipeE env vs) (wipe σ vs)
  | [] => h
  | v :: vs => (RE.wipe h vs).unset v
theorem RE.more {p : Addr} {o : HO} (m : Muts ρ H) (hp : H p = none) (h : RE K mg ρ π H env σ) : RE K mg ρ (p :: π) (upd H p o) env σ :=
  ⟨h.1, fun i d e => let ⟨v, e1, r⟩ := h.2 i d e; ⟨v, e1, r.more m hp⟩⟩

/-! ### what an outcome brings -/
def Fin {α β : Type} (K : PySem.W.Frag) (mg : Str → Option Value) (Rel : List Addr → Hp → α → β → Prop) (W : XK) (ρ π : List Addr) (H : Hp) (o : Out α) (Q : β → Hp → Prop) : Prop := match o with
  | .ok d st => ∀ ρ' H' v, Ext ρ H ρ' H' → SR K mg ρ' π H' st → Rel ρ' H' d v → Q v H'
  | .ex c d st => ∀ ρ' H' C da v, Ext ρ H ρ' H' → SR K mg ρ' π H' st → mg c = some (.ref C) → H' da = some (.xd [("value", v)]) → RD K mg ρ' π H' d v → W (.ref C) (some da) H'
  | .bad => False
variable {α β α' β' : Type} {Rel : List Addr → Hp → α → β → Prop} {Rel' : List Addr → Hp → α' → β' → Prop} {W : XK}
theorem Fin.ext {o : Out α} {Q : β → Hp → Prop} (h : Fin K mg Rel W ρ π H o Q) (x : Ext ρ H ρ' H') : Fin K mg Rel W ρ' π H' o Q := by
  cases o with
  | ok d st => exact fun ρ2 H2 v y => h ρ2 H2 v (x.trans y)
  | ex c d st => exact fun ρ2 H2 C da v y => h ρ2 H2 C da v (x.trans y)
  | bad => exact h
theorem Fin.mono {o : Out α} {Q Q' : β → Hp → Prop} (h : Fin K mg Rel W ρ π H o Q) (f : ∀ v H', Q v H' → Q' v H') : Fin K mg Rel W ρ π H o Q' := by
  cases o with
  | ok d st => exact fun ρ2 H2 v y s r => f _ _ (h ρ2 H2 v y s r)
  | ex c d st => exact h
  | bad => exact h
theorem Fin.bnd {o : Out α} {f : α → Sto → Out α'} {Q : β' → Hp → Prop} {P : β → Hp → Prop} (h : Fin K mg Rel' W ρ π H (o.bnd f) Q)
    (k : ∀ a st1 ρ1 H1 v, o = .ok a st1 → Ext ρ H ρ1 H1 → SR K mg ρ1 π H1 st1 → Rel ρ1 H1 a v → Fin K mg Rel' W ρ1 π H1 (f a st1) Q → P v H1) : Fin K mg Rel W ρ π H o P := by
  cases o with
  | ok a st1 => exact fun ρ1 H1 v x s r => k a st1 ρ1 H1 v rfl x s r (Fin.ext (Rel := Rel') h x)
  | ex c d st => exact h
  | bad => exact h
theorem Fin.opt {o : Option α'} {s : Sto} {f : α' → Sto → Out α} {Q : β → Hp → Prop} (h : Fin K mg Rel W ρ π H ((opt o s).bnd f) Q) : ∃ a, o = some a ∧ Fin K mg Rel W ρ π H (f a s) Q := by
  cases o with
  | none => exact h.elim
  | some a => exact ⟨a, rfl, h⟩
theorem Fin.opt1 {o : Option α} {s : Sto} {Q : β → Hp → Prop} (h : Fin K mg Rel W ρ π H (Ev.opt o s) Q) : ∃ a, o = some a ∧ Fin K mg Rel W ρ π H (.ok a s) Q := by
  cases o with
  | none => exact h.elim
  | some a => exact ⟨a, rfl, h⟩
/-- at the very stage -/
theorem Fin.here {d : α} {st : Sto} {Q : β → Hp → Prop} {v : β} (h : Fin K mg Rel W ρ π H (.ok d st) Q) (s : SR K mg ρ π H st) (r : Rel ρ H d v) : Q v H := h ρ H v (Ext.refl ρ H) s r
end
end Ev
/-! Values as plain data: their texts, whether they are equal. -/
namespace Ev
open PySem PySem.Spec PyProof.Rows L2

/-! ### a text's length -/
theorem listText_le (ts : List Str) : (listText ts).length ≤ piled ts + 2 := by
  have hX : (listText ts).length = (textFrom 0 "[" ts).length + 1 := by
    unfold listText
    rw [strLen_append]
    rfl
  rw [hX]
  cases ts with
  | nil =>
    have e : (textFrom 0 "[" []).length = 1 := rfl
    rw [e]; omega
  | cons t r =>
    have hY : (textFrom 0 "[" (t :: r)).length = (textFrom 1 (("[" : Str) ++ (if (0 : Nat) > 0 then ", " else "" : String) ++ t) r).length := rfl
    have h := textFrom_length_pos r 1 (("[" : Str) ++ (if (0 : Nat) > 0 then ", " else "" : String) ++ t) (Nat.succ_pos 0)
    have e : ((("[" : Str) ++ (if (0 : Nat) > 0 then ", " else "" : String) ++ t)).length = 1 + t.length := by
      rw [strLen_append, strLen_append]; rfl
    rw [hY, h, e, piled_cons]
    omega
theorem joinLen (ts : List Str) : (Str.join ", " ts).length ≤ piled ts := by
  by_cases h : ts = []
  · subst h; exact Nat.zero_le _
  · have := join_length_add ts h
    omega
theorem tupleText_le (ts : List Str) : (tupleText ts).length ≤ piled ts + 3 := by
  unfold tupleText
  rw [strLen_append, strLen_append]
  have h := joinLen ts
  have e1 : ("(" : Str).length = 1 := rfl
  have e2 : ((if ts.length == 1 then ",)" else ")" : String) : Str).length ≤ 2 := by
    split
    · exact Nat.le_refl 2
    · exact Nat.le_succ 1
  rw [e1]
  omega
theorem dictText_le (ts : List Str) : (dictText ts).length ≤ piled ts + 2 := by
  unfold dictText
  rw [strLen_append, strLen_append]
  have h := joinLen ts
  have e1 : ("{" : Str).length = 1 := rfl
  have e2 : ("}" : Str).length = 1 := rfl
  rw [e1, e2]
  omega
theorem intText_le (i : Int) : (Str.ofString (toString i)).length ≤ i.natAbs.log2 + 3 := by
  have h := int_text_length_le (a := i) (k := i.natAbs.log2 + 1) (Nat.succ_pos _) (Nat.lt_succ_self _)
  rw [PySem.ofString_length]
  omega
mutual
theorem shown_le : ∀ p : PyData, wid p ≤ most → p.shown.length ≤ wid p
  | .none, _ => by
    have e : (PyData.shown .none).length = 4 := rfl
    rw [e]; exact Nat.le_refl 4
  | .bool b, _ => by
    cases b with
    | true => exact (by decide : 4 ≤ 5)
    | false => exact (by decide : 5 ≤ 5)
  | .int i, _ => by
    simp only [PyData.shown, wid]
    exact intText_le i
  | .str x, h => by
    simp only [wid, widStr] at h
    simp only [PyData.shown, wid, widStr]
    split at h
    · rename_i hx
      rw [if_pos hx]
      refine StrLaws.reprText_len x fun c hc => ?_
      have := List.all_eq_true.mp hx c hc
      have h2 : c < 4294967296 := by simpa using this
      exact h2
    · exact absurd h (by decide)
  | .list xs, h => by
    simp only [wid] at h
    simp only [PyData.shown, wid]
    have h2 := shownAll_le xs (by omega)
    exact Nat.le_trans (listText_le _) (by omega)
  | .tuple xs, h => by
    simp only [wid] at h
    simp only [PyData.shown, wid]
    have h2 := shownAll_le xs (by omega)
    exact Nat.le_trans (tupleText_le _) (by omega)
  | .dict kvs, h => by
    simp only [wid] at h
    simp only [PyData.shown, wid]
    have h2 := shownKv_le kvs (by omega)
    exact Nat.le_trans (dictText_le _) (by omega)
theorem shownAll_le : ∀ xs : List PyData, widAll xs ≤ most → piled (PyData.shownAll xs) ≤ widAll xs
  | [], _ => Nat.le_refl 0
  | x :: xs, h => by
    simp only [widAll] at h
    simp only [PyData.shownAll, widAll, piled_cons]
    have h1 := shown_le x (by omega)
    have h2 := shownAll_le xs (by omega)
    omega
theorem shownKv_le : ∀ kvs : List (PyData × PyData), widKv kvs ≤ most → piled (PyData.shownKv kvs) ≤ widKv kvs
  | [], _ => Nat.le_refl 0
  | (k, v) :: r, h => by
    simp only [widKv] at h
    simp only [PyData.shownKv, widKv, piled_cons]
    have h1 := shown_le k (by omega)
    have h2 := shown_le v (by omega)
    have h3 := shownKv_le r (by omega)
    rw [strLen_append, strLen_append]
    have e : ((": " : String) : Str).length = 2 := rfl
    rw [e]
    omega
end

/-! ### a value as data, in the abstract heap -/
mutual
inductive Dq (K : PySem.W.Frag) (H : Hp) : V → PyData → Prop
  | non : Dq K H .non .none
  | bl (b : Bool) : Dq K H (.bl b) (.bool b)
  | int (i : Int) : Dq K H (.int i) (.int i)
  | str (x : Str) : Dq K H (.str x) (.str x)
  | lst {a : Addr} {xs : List V} {ds : List PyData} (h : H a = some (.lst xs)) (r : DqAll K H xs ds) : Dq K H (.ref a) (.list ds)
  | tup {a : Addr} {xs : List V} {ds : List PyData} (h : SqT K H a xs) (r : DqAll K H xs ds) : Dq K H (.ref a) (.tuple ds)
  | dct {a : Addr} {kvs : List (Key × V)} {ps : List (PyData × PyData)} (h : H a = some (.dK kvs)) (r : DqKv K H kvs ps) : Dq K H (.ref a) (.dict ps)
inductive DqAll (K : PySem.W.Frag) (H : Hp) : List V → List PyData → Prop
  | nil : DqAll K H [] []
  | cons {v : V} {vs : List V} {d : PyData} {ds : List PyData} (h : Dq K H v d) (t : DqAll K H vs ds) : DqAll K H (v :: vs) (d :: ds)
inductive DqKv (K : PySem.W.Frag) (H : Hp) : List (Key × V) → List (PyData × PyData) → Prop
  | nil : DqKv K H [] []
  | cons {k : Key} {v : V} {kvs : List (Key × V)} {d : PyData} {ps : List (PyData × PyData)} (h : Dq K H v d) (t : DqKv K H kvs ps) : DqKv K H ((k, v) :: kvs) ((keyPy k, d) :: ps)
end
theorem readsKey {h : Heap} {k : Key} {v : Value} (e : keyIs k v = true) : Reads h v (keyPy k) [] := by
  rcases keyIs_shape e with ⟨i, t, rfl, rfl⟩ | ⟨x, t, rfl, rfl⟩
  · exact .int i t
  · exact .str x t
section
variable {X : Cx} {pins : List (Addr × Obj)} {σ : L2.St} {H : Hp} {s : Shared}
theorem readsKeys {kvs : List (Key × V)} {ps : List (PyData × PyData)} (r : DqKv X.K H kvs ps) : ∀ {es : List DictEntry} {vs : List (Key × Value)}, KV kvs vs → PySem.Pairs (mixKind X.prog X.w) es vs →
    ReadsAll s.heap (es.map (·.key)) (ps.map (·.1)) [] := by
  induction kvs generalizing ps with
  | nil =>
    intro es vs kv p
    cases r
    cases kv
    cases p
    exact .nil
  | cons kv0 kvs ih =>
    intro es vs kv p
    cases r with
    | cons h t =>
      cases kv with
      | cons h1 t1 =>
        cases p with
        | cons q1 q2 q3 =>
          rename_i k v d ps kvV vsR e es
          have e1 : k = kvV.1 := h1.1
          have q1' : keyIs kvV.1 e.key = true := q1
          have hk : Reads s.heap e.key (keyPy k) [] := readsKey (by rw [e1]; exact q1')
          exact ReadsAll.cons (as := []) (bs := []) hk (ih t t1 q3)
mutual
theorem Dq.reads (I : Inv X pins σ H s) : ∀ (d : PyData) (v : V) (u : Value), Dq X.K H v d → RelV v u → ∃ as, Reads s.heap u d as ∧ (noLst d = true → sysModules ∉ as)
  | .none, _, _, h, r => by
    cases h
    cases r
    exact ⟨_, Reads.none, fun _ => by simp⟩
  | .bool b, _, _, h, r => by
    cases h
    cases r
    exact ⟨_, Reads.bool b, fun _ => by simp⟩
  | .int i, _, _, h, r => by
    cases h
    obtain ⟨t, rfl⟩ := r
    exact ⟨_, Reads.int i t, fun _ => by simp⟩
  | .str x, _, _, h, r => by
    cases h
    obtain ⟨t, rfl⟩ := r
    exact ⟨_, Reads.str x t, fun _ => by simp⟩
  | .list ds, _, _, h, r => by
    cases h with
    | lst hs ha =>
      cases r
      obtain ⟨its, rv, ⟨o, n, ho, hc, _, hd⟩, _⟩ := I.list (SqL.of hs)
      obtain ⟨as, hr, _⟩ := Dq.readsAll I ds _ its ha rv
      exact ⟨_, Reads.list ho hc hd hr, fun z => by simp [noLst] at z⟩
  | .tuple ds, _, _, h, r => by
    cases h with
    | tup hs ha =>
      cases r
      obtain ⟨its, rv, ⟨o, ho, hc, n, hd⟩, _⟩ := I.tuple hs
      obtain ⟨as, hr, hn⟩ := Dq.readsAll I ds _ its ha rv
      exact ⟨_, Reads.tuple ho hc hd hr, fun z => hn (by simpa [noLst] using z)⟩
  | .dict ps, _, _, h, r => by
    cases h with
    | dct hs ha =>
      cases r
      obtain ⟨_, hm, vs, kv, o, es, ep, ho, hx, hd, _, hp, _⟩ := I.hok _ _ hs
      obtain ⟨bs, hb, hn⟩ := Dq.readsKv I ps _ vs es.toList ha kv hp
      have hk : ReadsAll s.heap (es.toList.map (·.key)) (ps.map (·.1)) [] := readsKeys ha kv hp
      refine ⟨_, Reads.dict ho hx.1 hd hk hb, fun z hz => ?_⟩
      rcases List.mem_append.mp hz with hz | hz
      · rcases List.mem_cons.mp hz with hz | hz
        · rw [← hz] at hm
          exact absurd hm (by decide)
        · cases hz
      · exact hn (by simpa [noLst] using z) hz
theorem Dq.readsAll (I : Inv X pins σ H s) : ∀ (ds : List PyData) (vs : List V) (us : List Value), DqAll X.K H vs ds → Vals vs us → ∃ as, ReadsAll s.heap us ds as ∧ (noLstAll ds = true → sysModules ∉ as)
  | [], _, _, h, r => by
    cases h
    cases r
    exact ⟨_, ReadsAll.nil, fun _ => by simp⟩
  | d :: ds, _, _, h, r => by
    cases h with
    | cons h1 h2 =>
      cases r with
      | cons r1 r2 =>
        obtain ⟨as, q1, n1⟩ := Dq.reads I d _ _ h1 r1
        obtain ⟨bs, q2, n2⟩ := Dq.readsAll I ds _ _ h2 r2
        refine ⟨_, ReadsAll.cons q1 q2, fun z hz => ?_⟩
        simp only [noLstAll, Bool.and_eq_true] at z
        rcases List.mem_append.mp hz with hz | hz
        · exact n1 z.1 hz
        · exact n2 z.2 hz
theorem Dq.readsKv (I : Inv X pins σ H s) : ∀ (ps : List (PyData × PyData)) (kvs : List (Key × V)) (vs : List (Key × Value)) (es : List DictEntry), DqKv X.K H kvs ps → KV kvs vs → PySem.Pairs (mixKind X.prog X.w) es vs →
    ∃ bs, ReadsAll s.heap (es.map (·.val)) (ps.map (·.2)) bs ∧ (noLstKv ps = true → sysModules ∉ bs)
  | [], _, _, _, h, kv, p => by
    cases h
    cases kv
    cases p
    exact ⟨_, ReadsAll.nil, fun _ => by simp⟩
  | (_, d) :: ps, _, _, _, h, kv, p => by
    cases h with
    | cons h1 h2 =>
      cases kv with
      | cons r1 r2 =>
        cases p with
        | cons p1 p2 p3 =>
          rename_i k v kvs kvV vsR e es
          obtain ⟨as, q1, n1⟩ := Dq.reads I d v e.val h1 (by rw [p2]; exact r1.2)
          obtain ⟨bs, q2, n2⟩ := Dq.readsKv I ps _ _ _ h2 r2 p3
          refine ⟨_, ReadsAll.cons q1 q2, fun z hz => ?_⟩
          simp only [noLstKv, Bool.and_eq_true] at z
          rcases List.mem_append.mp hz with hz | hz
          · exact n1 z.1.2 hz
          · exact n2 z.2 hz
end
end
end Ev
/-! Operations on values: the evaluator's answers and the layer's rules. -/
namespace Ev
open PySem PySem.Spec PyProof.Rows L2

section
variable {K : PySem.W.Frag} {mg : Str → Option Value} {ρ ρ' π : List Addr} {H H' : Hp} {st : Sto}
theorem mapM_dq {f : D → Option PyData} (hf : ∀ d v p, RD K mg ρ π H d v → f d = some p → Dq K H v p) : ∀ {xs : List D} {vs : List V} {ps : List PyData}, RDs K mg ρ π H xs vs → xs.mapM f = some ps → DqAll K H vs ps
  | [], _, _, r, e => by
    cases r
    simp at e
    subst e
    exact .nil
  | x :: xs, _, _, r, e => by
    cases r with
    | cons h t =>
      rw [List.mapM_cons] at e
      cases hx : f x with
      | none => rw [hx] at e; simp at e
      | some p =>
        rw [hx] at e
        cases hr : xs.mapM f with
        | none => rw [hr] at e; simp at e
        | some ps =>
          rw [hr] at e
          simp at e
          subst e
          exact .cons (hf _ _ _ h hx) (mapM_dq hf t hr)
theorem mapM_len {α β : Type} {f : α → Option β} : ∀ {xs : List α} {ps : List β}, xs.mapM f = some ps → ps.length = xs.length
  | [], _, e => by simp at e; subst e; rfl
  | x :: xs, _, e => by
    rw [List.mapM_cons] at e
    cases hx : f x with
    | none => rw [hx] at e; simp at e
    | some p =>
      rw [hx] at e
      cases hr : xs.mapM f with
      | none => rw [hr] at e; simp at e
      | some ps =>
        rw [hr] at e
        simp at e
        subst e
        rw [List.length_cons, List.length_cons, mapM_len hr]
theorem dqKv_of : ∀ {kvs : List (Key × V)} {ps : List PyData}, DqAll K H (kvs.map (·.2)) ps → DqKv K H kvs (zipKv (kvs.map (·.1)) ps)
  | [], _, r => by
    cases r
    exact .nil
  | (k, v) :: kvs, _, r => by
    cases r with
    | cons h t => exact .cons h (dqKv_of t)
theorem toPy_ok (s : SR K mg ρ π H st) : ∀ (n : Nat) (d : D) (v : V) (p : PyData), RD K mg ρ π H d v → toPy st n d = some p → Dq K H v p := by
  intro n
  induction n with
  | zero =>
    intro d v p r e
    cases r <;> simp [toPy] at e <;> subst e
    · exact .non
    · exact .bl _
    · exact .int _
    · exact .str _
  | succ n ih =>
    intro d v p r e
    cases r with
    | non => simp [toPy] at e; subst e; exact .non
    | bl b => simp [toPy] at e; subst e; exact .bl _
    | int i => simp [toPy] at e; subst e; exact .int _
    | str x => simp [toPy] at e; subst e; exact .str _
    | tup h r =>
      rw [toPy, Option.map_eq_some_iff] at e
      obtain ⟨ps, e1, rfl⟩ := e
      exact .tup h (mapM_dq ih r e1)
    | lst h a b r =>
      rw [toPy, Option.map_eq_some_iff] at e
      obtain ⟨ps, e1, rfl⟩ := e
      exact .lst h (mapM_dq ih r e1)
    | dct h a b ek r =>
      rw [toPy] at e
      split at e
      · rw [Option.map_eq_some_iff] at e
        obtain ⟨ps, e1, rfl⟩ := e
        subst ek
        exact .dct h (dqKv_of (mapM_dq ih r e1))
      · cases e
    | ro h => simp [toPy] at e
    | fn h => simp [toPy] at e
    | loc h =>
      rw [toPy] at e
      split at e
      · rename_i xs hx
        rw [Option.map_eq_some_iff] at e
        obtain ⟨ps, e1, rfl⟩ := e
        obtain ⟨vs, h1, r1⟩ := s.atL h hx
        exact .lst h1 (mapM_dq ih r1 e1)
      · rename_i ks xs hx
        split at e
        · rw [Option.map_eq_some_iff] at e
          obtain ⟨ps, e1, rfl⟩ := e
          cases s.ob _ _ _ h hx with
          | dct h1 ek r1 =>
            subst ek
            exact .dct h1 (dqKv_of (mapM_dq ih r1 e1))
        · cases e
      · cases e
theorem mapM_depth {f : D → Option PyData} {n : Nat} (hf : ∀ d p, f d = some p → p.depth ≤ n) : ∀ {xs : List D} {ps : List PyData}, xs.mapM f = some ps → PyData.depthAll ps ≤ n
  | [], _, e => by simp at e; subst e; exact Nat.zero_le _
  | x :: xs, _, e => by
    rw [List.mapM_cons] at e
    cases hx : f x with
    | none => rw [hx] at e; simp at e
    | some p =>
      rw [hx] at e
      cases hr : xs.mapM f with
      | none => rw [hr] at e; simp at e
      | some ps =>
        rw [hr] at e
        simp at e
        subst e
        simp only [PyData.depthAll]
        exact Nat.max_le.mpr ⟨hf _ _ hx, mapM_depth hf hr⟩
theorem depthKv_le {n : Nat} : ∀ {ks : List Key} {ps : List PyData}, PyData.depthAll ps ≤ n → PyData.depthKv (zipKv ks ps) ≤ n
  | [], _, _ => Nat.zero_le _
  | _ :: _, [], _ => Nat.zero_le _
  | k :: ks, p :: ps, h => by
    simp only [PyData.depthAll] at h
    simp only [zipKv, PyData.depthKv]
    have h1 : (keyPy k).depth = 0 := by cases k <;> rfl
    rw [h1]
    exact Nat.max_le.mpr ⟨Nat.max_le.mpr ⟨Nat.zero_le _, (Nat.max_le.mp h).1⟩, depthKv_le (Nat.max_le.mp h).2⟩
theorem toPy_depth : ∀ (n : Nat) (d : D) (p : PyData), toPy st n d = some p → p.depth ≤ n := by
  intro n
  induction n with
  | zero =>
    intro d p e
    cases d <;> simp [toPy] at e <;> subst e <;> exact Nat.le_refl 0
  | succ n ih =>
    intro d p e
    cases d with
    | non => simp [toPy] at e; subst e; exact Nat.zero_le _
    | bl b => simp [toPy] at e; subst e; exact Nat.zero_le _
    | int i => simp [toPy] at e; subst e; exact Nat.zero_le _
    | str x => simp [toPy] at e; subst e; exact Nat.zero_le _
    | tup xs =>
      rw [toPy, Option.map_eq_some_iff] at e
      obtain ⟨ps, e1, rfl⟩ := e
      exact Nat.succ_le_succ (mapM_depth ih e1)
    | lst xs =>
      rw [toPy, Option.map_eq_some_iff] at e
      obtain ⟨ps, e1, rfl⟩ := e
      exact Nat.succ_le_succ (mapM_depth ih e1)
    | dct ks xs =>
      rw [toPy] at e
      split at e
      · rw [Option.map_eq_some_iff] at e
        obtain ⟨ps, e1, rfl⟩ := e
        exact Nat.succ_le_succ (depthKv_le (mapM_depth ih e1))
      · cases e
    | ro xs => simp [toPy] at e
    | fn x => simp [toPy] at e
    | loc m =>
      rw [toPy] at e
      split at e
      · rw [Option.map_eq_some_iff] at e
        obtain ⟨ps, e1, rfl⟩ := e
        exact Nat.succ_le_succ (mapM_depth ih e1)
      · split at e
        · rw [Option.map_eq_some_iff] at e
          obtain ⟨ps, e1, rfl⟩ := e
          exact Nat.succ_le_succ (depthKv_le (mapM_depth ih e1))
        · cases e
      · cases e

/-! ### lists, tuples -/
theorem items_ok (s : SR K mg ρ π H st) {d : D} {v : V} {xs : List D} (r : RD K mg ρ π H d v) (e : items st d = some xs) : ∃ a vs, v = .ref a ∧ H a = some (.lst vs) ∧ RDs K mg ρ π H xs vs := by
  cases r <;> simp [items] at e
  · rename_i h n m r
    subst e
    exact ⟨_, _, rfl, h, r⟩
  · rename_i a n h
    split at e
    · rename_i xs' hx
      have e' : xs' = xs := Option.some.inj e
      subst e'
      obtain ⟨vs, h1, r1⟩ := s.atL h hx
      exact ⟨_, vs, rfl, h1, r1⟩
    · cases e
theorem lsOf_ok (s : SR K mg ρ π H st) {d : D} {v : V} {xs : List D} (r : RD K mg ρ π H d v) (e : lsOf st d = some xs) : ∃ a vs, v = .ref a ∧ SqL K H a vs ∧ RDs K mg ρ π H xs vs := by
  cases r <;> simp [lsOf] at e
  · rename_i h n m r
    subst e
    exact ⟨_, _, rfl, SqL.of h, r⟩
  · rename_i a ns h
    subst e
    exact ⟨_, _, rfl, h.sq, RDs.ints ns⟩
  · rename_i a n h
    split at e
    · rename_i xs' hx
      have e' : xs' = xs := Option.some.inj e
      subst e'
      obtain ⟨vs, h1, r1⟩ := s.atL h hx
      exact ⟨_, vs, rfl, SqL.of h1, r1⟩
    · cases e
theorem seqOf_ok (s : SR K mg ρ π H st) {d : D} {v : V} {xs : List D} (r : RD K mg ρ π H d v) (e : seqOf st d = some xs) : ∃ a vs, v = .ref a ∧ (SqL K H a vs ∨ SqT K H a vs) ∧ RDs K mg ρ π H xs vs := by
  unfold seqOf at e
  split at e
  · cases r with
    | tup h r =>
      cases e
      exact ⟨_, _, rfl, .inr h, r⟩
  · obtain ⟨a, vs, e1, h, r1⟩ := lsOf_ok s r e
    exact ⟨a, vs, e1, .inl h, r1⟩
theorem most_le {n : Nat} (h : n ≤ most) : n ≤ sizeLine := by
  rw [sizeLine_eq]
  have : most = 1000000 := rfl
  omega
theorem small_le {n : Nat} (h : small n = true) : n ≤ sizeLine := most_le (of_decide_eq_true h)

/-- a new list -/
theorem newL_ok {W : XK} {Q : V → Hp → Prop} {al : Bool} {xs : List D} {vs : List V} (s : SR K mg ρ π H st) (r : RDs K mg ρ π H xs vs) (h : Fin K mg (RD K mg · π · · ·) W ρ π H (newL al xs st) Q) :
    ∀ p, H p = none → Q (.ref p) (upd H p (.lst vs)) := by
  intro p hp
  have hn := s.fresh hp
  have hx : Ext ρ H ρ (upd H p (.lst vs)) := Ext.new hp
  cases al with
  | false =>
    exact h ρ _ _ hx (s.new hp) (.lst upd_same hn.1 hn.2 (r.mono hx s.muts))
  | true =>
    have s1 := s.more (o := .lst vs) hp
    have hx2 : Ext ρ H (ρ ++ [p]) (upd H p (.lst vs)) := ⟨⟨[p], rfl, fun b hb => by
      rw [List.mem_singleton.mp hb]
      exact ⟨hn.1, hp⟩⟩, hx.keep⟩
    refine h (ρ ++ [p]) _ _ hx2 (s1.push hn.2 (.lst upd_same (r.more s.muts hp))) (.loc ?_)
    rw [List.getElem?_append_right (by rw [s.len]; exact Nat.le_refl _), s.len]
    simp
end
end Ev
/-! tuple * int, any int -/
namespace Ev
open PySem PySem.Spec PyProof.Rows L2 HT
open PySem.SeqAt
open PySem.AutoSeq1 (wpAny_loadPart')
open PySem.MeetsSeq PySem.MeetsSeq2 PySem.MeetsSeq3
theorem tupMul1 (l : Addr) (items : Array Value) (n : Nat) (dd : Option Addr) (sl : Array (Option Value)) (x : Int) (u : Tok) (d0 : (decide (x < -(2 ^ 63)) || decide (x ≥ 2 ^ 63)) = false) (d1 : (items.isEmpty || x == 1) = true) :
    Meets (Builtin.«tuple.__mul__» ⟨[.ref l, .int x u], []⟩) (fun _ R s => s.heap.get? l = some { cls := .type "tuple", dict := dd, data := .seq items n, slots := sl } ∧
      R (.ok (.ret (Value.ref l))) s) :=
  .of_wp fun prog w A R s h => by
    obtain ⟨hp, g, d, tk, os⟩ := s
    obtain ⟨hl, h⟩ := h
    have f1 := AutoSeq1.idx_int
    wp_walk using wpAny_loadPart' hl
    repeat (first
      | (refine wpAny_ite_false (decide_eq_false (by rw [d0]; exact Bool.false_ne_true)) ?_
         wp_walk using wpAny_loadPart' hl)
      | (refine wpAny_ite_true (decide_eq_true d1) ?_
         wp_walk using wpAny_loadPart' hl))
    exact ⟨_, rfl, h⟩
theorem tupMul0 (l : Addr) (items : Array Value) (n : Nat) (dd : Option Addr) (sl : Array (Option Value)) (x : Int) (u : Tok) (d0 : (decide (x < -(2 ^ 63)) || decide (x ≥ 2 ^ 63)) = false) (d1 : (items.isEmpty || x == 1) = false) (d2 : (decide (x ≤ 0) || items.isEmpty) = true) :
    Meets (Builtin.«tuple.__mul__» ⟨[.ref l, .int x u], []⟩) (fun _ R s => s.heap.get? l = some { cls := .type "tuple", dict := dd, data := .seq items n, slots := sl } ∧
      R (.ok (.ret (Value.ref s.heap.objs.size))) { s with heap := s.heap.push { cls := Value.type "tuple", data := Data.seq #[] }, toks := s.toks }) :=
  .of_wp fun prog w A R s h => by
    obtain ⟨hp, g, d, tk, os⟩ := s
    obtain ⟨hl, h⟩ := h
    have f1 := AutoSeq1.idx_int
    wp_walk using wpAny_loadPart' hl
    repeat (first
      | (refine wpAny_ite_false (decide_eq_false (by rw [d0]; exact Bool.false_ne_true)) ?_
         wp_walk using wpAny_loadPart' hl)
      | (refine wpAny_ite_false (decide_eq_false (by rw [d1]; exact Bool.false_ne_true)) ?_
         wp_walk using wpAny_loadPart' hl)
      | (refine wpAny_ite_true (decide_eq_true d2) ?_
         wp_walk using wpAny_loadPart' hl))
    exact ⟨_, rfl, h⟩
/-- a tuple times an int: once is the tuple itself, less is empty -/
def rMulT (K : PySem.W.Frag) : R2 := fun x y H Q => ∃ l k xs, x = .ref l ∧ y = .int k ∧ SqT K H l xs ∧ k ≤ 1000 ∧ xs.length ≤ 1000 ∧ -(2 ^ 62) ≤ k ∧
  ((xs = [] ∨ k = 1) → Q (.ref l) H) ∧ (xs ≠ [] → k ≤ 0 → ∀ p, H p = none → Q (.ref p) (upd H p (.tup []))) ∧
  (xs ≠ [] → 2 ≤ k → ∀ p, H p = none → Q (.ref p) (upd H p (.tup (List.replicate k.toNat xs).flatten)))
theorem op_mulT {X : Cx} : OpR X (binaryOp .Mult) (rMulT X.K) := by
  intro pins s σ H x y v u Q I rx ry h
  obtain ⟨l, k, xs, rfl, rfl, hT, h2, hz, h3, q1, q0, q2⟩ := h
  by_cases hk : xs ≠ [] ∧ 2 ≤ k
  · exact op_repT pins s σ H (.ref l) (.int k) v u Q I rx ry ⟨l, k, xs, rfl, rfl, hT, hk.1, hk.2, h2, hz, q2 hk.1 hk.2⟩
  · cases rx
    obtain ⟨t, rfl⟩ := ry
    obtain ⟨its, r, ⟨⟨cls, dd, data, sl⟩, ho, hc, n, hd⟩, hs⟩ := I.tuple hT
    simp only at hc hd
    subst hc hd
    have hle : its.length = xs.length := r.length.symm
    have d0 : (decide (k < -(2 ^ 63)) || decide (k ≥ 2 ^ 63)) = false := by
      rw [decide_eq_false (by omega), decide_eq_false (by omega)]
      rfl
    have he : its.toArray.isEmpty = true ↔ xs = [] := by
      cases its with
      | nil =>
        have : xs = [] := List.eq_nil_of_length_eq_zero hle.symm
        simp [this]
      | cons a b =>
        have : xs ≠ [] := fun e => by rw [e] at hle; cases hle
        simp [this]
    by_cases h1 : xs = [] ∨ k = 1
    · have d1 : (its.toArray.isEmpty || k == 1) = true := by
        rcases h1 with h1 | h1
        · rw [he.mpr h1]; rfl
        · rw [h1]; simp
      refine wpAny_binaryOp_repeat_ref (T := "tuple") (U := "int") (by decide) ⟨_, ho, rfl⟩ (fun s' => typeIs_int s' k t) noFill_tuple_mul F.fills_int_mul F.slot_int_rmul repeat_tuple F.slot_int_index.lookup
        (call_meets F.slot_int_rmul (typeIs_int s k t) F.entry_int_rmul (F.args_int_rmul_2 _ _) (int_rmul_tuple k t l its.toArray n dd sl)
          ⟨ho, rfl, ⟨_, ho, rfl⟩, call_meets F.slot_tuple_mul ⟨_, ho, rfl⟩ F.entry_tuple_mul (F.args_tuple_mul_2 _ _) (tupMul1 l its.toArray n dd sl k t d0 d1) ⟨ho, ?_⟩⟩)
      exact ⟨.ref l, H, I, rfl, q1 h1⟩
    · have hne : xs ≠ [] := fun e => h1 (.inl e)
      have hk1 : k ≤ 0 := by
        have a1 : k ≠ 1 := fun e => h1 (.inr e)
        have a2 : ¬ 2 ≤ k := fun e => hk ⟨hne, e⟩
        omega
      have hi : its.toArray.isEmpty = false := by
        cases hh : its.toArray.isEmpty with
        | false => rfl
        | true => exact absurd (he.mp hh) hne
      have d1 : (its.toArray.isEmpty || k == 1) = false := by
        rw [hi, Bool.false_or]
        exact beq_eq_false_iff_ne.mpr (by omega)
      have d2 : (decide (k ≤ 0) || its.toArray.isEmpty) = true := by
        rw [decide_eq_true hk1]
        rfl
      refine wpAny_binaryOp_repeat_ref (T := "tuple") (U := "int") (by decide) ⟨_, ho, rfl⟩ (fun s' => typeIs_int s' k t) noFill_tuple_mul F.fills_int_mul F.slot_int_rmul repeat_tuple F.slot_int_index.lookup
        (call_meets F.slot_int_rmul (typeIs_int s k t) F.entry_int_rmul (F.args_int_rmul_2 _ _) (int_rmul_tuple k t l its.toArray n dd sl)
          ⟨ho, rfl, ⟨_, ho, rfl⟩, call_meets F.slot_tuple_mul ⟨_, ho, rfl⟩ F.entry_tuple_mul (F.args_tuple_mul_2 _ _) (tupMul0 l its.toArray n dd sl k t d0 d1 d2) ⟨ho, ?_⟩⟩)
      refine ⟨.ref s.heap.objs.size, _, I.laid (t' := s.toks) (o := .tup []) (fun b ob q => Heap.get?_push_of_some _ q) (Nat.le_refl _) ?_, rfl, q0 hne hk1 _ (I.hok.fresh (Nat.le_refl _))⟩
      exact ⟨Nat.zero_le _, [], .nil, IsTup.new _ _⟩
end Ev
/-! Operators. -/
namespace Ev
open PySem PySem.Spec PyProof.Rows L2

abbrev RelD (K : PySem.W.Frag) (mg : Str → Option Value) (π : List Addr) : List Addr → Hp → D → V → Prop := fun ρ H d v => RD K mg ρ π H d v
abbrev RelDs (K : PySem.W.Frag) (mg : Str → Option Value) (π : List Addr) : List Addr → Hp → List D → List V → Prop := fun ρ H d v => RDs K mg ρ π H d v
abbrev RelEq (α : Type) : List Addr → Hp → α → α → Prop := fun _ _ a b => a = b

section
variable {X : Cx} {mg : Str → Option Value} {ρ ρ' π : List Addr} {H H' : Hp} {st : Sto} {W : XK} {Q : VK} {al : Bool} {x y : D} {v u : V}
theorem tupRes {K : PySem.W.Frag} {xs : List D} {vs : List V} (s : SR K mg ρ π H st) (r : RDs K mg ρ π H xs vs) (h : Fin K mg (RelD K mg π) W ρ π H (.ok (.tup xs) st) Q) : ∀ p, H p = none → Q (.ref p) (upd H p (.tup vs)) := by
  intro p hp
  have hx : Ext ρ H ρ (upd H p (.tup vs)) := Ext.new hp
  exact h ρ _ _ hx (s.new hp) (.tup (SqT.of upd_same) (r.mono hx s.muts))
abbrev rAddS : R2 := fun x y H Q => ∃ i j, x = .str i ∧ y = .str j ∧ i.length + j.length ≤ sizeLine ∧ Q (.str (i ++ j)) H
abbrev rAdd (K : PySem.W.Frag) : R2 := fun x y H Q => rI0 (fun i j => .int (i + j)) x y H Q ∨ (fun x y H Q => rAddS x y H Q ∨ (fun x y H Q => rCatA K x y H Q ∨ rCat x y H Q) x y H Q) x y H Q
theorem op_addAll : OpR X (binaryOp .Add) (rAdd X.K) := op_add.or (op_add_str.or (op_catA.or op_cat))
theorem add_ok (s : SR X.K mg ρ π H st) (rx : RD X.K mg ρ π H x v) (ry : RD X.K mg ρ π H y u) (h : Fin X.K mg (RelD X.K mg π) W ρ π H (addD al x y st) Q) : rAdd X.K v u H Q := by
  unfold addD at h
  split at h
  · cases rx; cases ry
    exact .inl ⟨_, _, rfl, rfl, h.here s (.int _)⟩
  · cases rx; cases ry
    split at h
    · rename_i hs
      exact .inr (.inl ⟨_, _, rfl, rfl, small_le hs, h.here s (.str _)⟩)
    · exact h.elim
  · cases rx with
    | tup h1 r1 =>
      cases ry with
      | tup h2 r2 =>
        split at h
        · rename_i hs
          refine .inr (.inr (.inl ⟨_, _, _, _, rfl, rfl, h1, h2, by rw [← r1.length, ← r2.length]; exact small_le hs, fun e => ?_, fun _ e => ?_, fun _ _ => tupRes s (r1.append r2) h⟩))
          · subst e
            cases r1
            exact h.here s (.tup h2 r2)
          · subst e
            cases r2
            rw [List.append_nil] at h
            exact h.here s (.tup h1 r1)
        · exact h.elim
  · split at h
    · rename_i xs ys e1 e2
      obtain ⟨a, vs, rfl, h1, r1⟩ := items_ok s rx e1
      obtain ⟨b, ws, rfl, h2, r2⟩ := items_ok s ry e2
      split at h
      · rename_i hs
        exact .inr (.inr (.inr ⟨_, _, _, _, rfl, rfl, h1, h2, by rw [← r1.length, ← r2.length]; exact small_le hs, newL_ok s (r1.append r2) h⟩))
      · exact h.elim
    · exact h.elim
abbrev rSub : R2 := rI0 fun i j => .int (i - j)
theorem sub_ok (s : SR X.K mg ρ π H st) (rx : RD X.K mg ρ π H x v) (ry : RD X.K mg ρ π H y u) (h : Fin X.K mg (RelD X.K mg π) W ρ π H (subD x y st) Q) : rSub v u H Q := by
  unfold subD at h
  split at h
  · cases rx; cases ry
    exact ⟨_, _, rfl, rfl, h.here s (.int _)⟩
  · exact h.elim
abbrev rMul (K : PySem.W.Frag) : R2 := fun x y H Q => rI CMul (fun i j => .int (i * j)) x y H Q ∨ rMulT K x y H Q
theorem op_mulAll : OpR X (binaryOp .Mult) (rMul X.K) := op_mul.or op_mulT
theorem flat1 {k : Int} {ys : List D} (e : ys = [] ∨ k = 1) : (List.replicate k.toNat ys).flatten = ys := by
  rcases e with rfl | rfl
  · simp
  · simp
theorem flat0 {k : Int} {ys : List D} (e : k ≤ 0) : (List.replicate k.toNat ys).flatten = [] := by
  rw [show k.toNat = 0 by omega]
  rfl
theorem mul_ok (s : SR X.K mg ρ π H st) (rx : RD X.K mg ρ π H x v) (ry : RD X.K mg ρ π H y u) (h : Fin X.K mg (RelD X.K mg π) W ρ π H (mulD x y st) Q) : rMul X.K v u H Q := by
  unfold mulD at h
  split at h
  · cases rx; cases ry
    split at h
    · rename_i hc
      exact .inl ⟨_, _, rfl, rfl, hc, h.here s (.int _)⟩
    · exact h.elim
  · cases rx with
    | tup h1 r1 =>
      cases ry
      split at h
      · rename_i hc
        have hl := r1.length
        refine .inr ⟨_, _, _, rfl, rfl, h1, hc.2.1, by rw [← hl]; exact hc.2.2, by omega, fun e => ?_, fun _ e => ?_, fun _ _ => tupRes s (r1.rep _) h⟩
        · rw [flat1 (e.imp (fun z => by rw [z] at hl; exact List.eq_nil_of_length_eq_zero hl) id)] at h
          exact h.here s (.tup h1 r1)
        · rw [flat0 e] at h
          exact tupRes s .nil h
      · exact h.elim
  · exact h.elim
abbrev rFdiv : R2 := rI CDiv fun i j => .int (i / j)
theorem fdiv_ok (s : SR X.K mg ρ π H st) (rx : RD X.K mg ρ π H x v) (ry : RD X.K mg ρ π H y u) (h : Fin X.K mg (RelD X.K mg π) W ρ π H (fdivD x y st) Q) : rFdiv v u H Q := by
  unfold fdivD at h
  split at h
  · cases rx; cases ry
    split at h
    · rename_i hc
      exact ⟨_, _, rfl, rfl, hc, h.here s (.int _)⟩
    · exact h.elim
  · exact h.elim
abbrev rMod : R2 := rI (fun _ j => 0 < j) fun i j => .int (i % j)
theorem mod_ok (s : SR X.K mg ρ π H st) (rx : RD X.K mg ρ π H x v) (ry : RD X.K mg ρ π H y u) (h : Fin X.K mg (RelD X.K mg π) W ρ π H (modD x y st) Q) : rMod v u H Q := by
  unfold modD at h
  split at h
  · cases rx; cases ry
    split at h
    · rename_i hc
      exact ⟨_, _, rfl, rfl, hc, h.here s (.int _)⟩
    · exact h.elim
  · exact h.elim
abbrev rPow : R2 := rI CPow fun i j => .int (i ^ j.toNat)
theorem pow_ok (s : SR X.K mg ρ π H st) (rx : RD X.K mg ρ π H x v) (ry : RD X.K mg ρ π H y u) (h : Fin X.K mg (RelD X.K mg π) W ρ π H (powD x y st) Q) : rPow v u H Q := by
  unfold powD at h
  split at h
  · cases rx; cases ry
    split at h
    · rename_i hc
      exact ⟨_, _, rfl, rfl, hc, h.here s (.int _)⟩
    · exact h.elim
  · exact h.elim
/-- the rule of an operator -/
theorem bin_rule {o : Operator} {b : BOp} (e : bopOf o = some b) : ∃ r : R2, OpR X (binaryOp o) r ∧
    ∀ {mg : Str → Option Value} {ρ π : List Addr} {H : Hp} {st : Sto} {W : XK} {Q : VK} {al : Bool} {x y : D} {v u : V}, SR X.K mg ρ π H st → RD X.K mg ρ π H x v → RD X.K mg ρ π H y u → Fin X.K mg (RelD X.K mg π) W ρ π H (binD al b x y st) Q → r v u H Q := by
  cases o <;> simp [bopOf] at e <;> subst e
  · exact ⟨_, op_addAll, fun s rx ry h => add_ok s rx ry h⟩
  · exact ⟨_, op_sub, fun s rx ry h => sub_ok s rx ry h⟩
  · exact ⟨_, op_mulAll, fun s rx ry h => mul_ok s rx ry h⟩
  · exact ⟨_, op_mod, fun s rx ry h => mod_ok s rx ry h⟩
  · exact ⟨_, op_pow, fun s rx ry h => pow_ok s rx ry h⟩
  · exact ⟨_, op_fdiv, fun s rx ry h => fdiv_ok s rx ry h⟩
/-! ### comparisons -/
theorem rel_ok {f : Int → Int → Bool} (s : SR X.K mg ρ π H st) (rx : RD X.K mg ρ π H x v) (ry : RD X.K mg ρ π H y u) (h : Fin X.K mg (RelD X.K mg π) W ρ π H (relD f x y st) Q) : rI0 (fun i j => .bl (f i j)) v u H Q := by
  unfold relD at h
  split at h
  · cases rx; cases ry
    exact ⟨_, _, rfl, rfl, h.here s (.bl _)⟩
  · exact h.elim
def rEqQ (K : PySem.W.Frag) (neg : Bool) : R2 := fun x y H Q => ∃ d e, Dq K H x d ∧ Dq K H y e ∧ SeqAt.shaped d = true ∧ SeqAt.shaped e = true ∧ Q (.bl (neg != PyData.eqv d e)) H
theorem op_eqQ (hu : X.A.units + 64 < cLine) : OpR X (compareOp .Eq) (rEqQ X.K false) := by
  intro pins s σ H x y v u Q I rx ry h
  obtain ⟨d, e, hd, he, sd, se, q⟩ := h
  obtain ⟨as, r1, _⟩ := Dq.reads I d x v hd rx
  obtain ⟨bs, r2, _⟩ := Dq.reads I e y u he ry
  exact SeqAt.compareEq_shaped r1 r2 sd se hu ⟨.bl _, H, I, by simp [L2.RelV], q⟩
theorem op_neQ (hu : X.A.units + 64 < cLine) : OpR X (compareOp .NotEq) (rEqQ X.K true) := by
  intro pins s σ H x y v u Q I rx ry h
  obtain ⟨d, e, hd, he, sd, se, q⟩ := h
  obtain ⟨as, r1, _⟩ := Dq.reads I d x v hd rx
  obtain ⟨bs, r2, _⟩ := Dq.reads I e y u he ry
  exact SeqAt.compareNe_shaped r1 r2 sd se hu ⟨.bl _, H, I, by simp [L2.RelV], q⟩
abbrev rEqAll (K : PySem.W.Frag) : R2 := fun x y H Q => rEq x y H Q ∨ rEqQ K false x y H Q
abbrev rNeAll (K : PySem.W.Frag) : R2 := fun x y H Q => rNe x y H Q ∨ rEqQ K true x y H Q
theorem eqD_ok (s : SR X.K mg ρ π H st) (rx : RD X.K mg ρ π H x v) (ry : RD X.K mg ρ π H y u) {k : Bool} (e : eqD st x y = some k) : ∃ d d', Dq X.K H v d ∧ Dq X.K H u d' ∧ SeqAt.shaped d = true ∧ SeqAt.shaped d' = true ∧ k = PyData.eqv d d' := by
  unfold eqD at e
  split at e
  · rename_i p q h1 h2
    split at e
    · rename_i hc
      exact ⟨p, q, toPy_ok s _ _ _ _ rx h1, toPy_ok s _ _ _ _ ry h2, hc.1, hc.2, (Option.some.inj e).symm⟩
    · cases e
  · cases e
theorem eq_ok (s : SR X.K mg ρ π H st) (rx : RD X.K mg ρ π H x v) (ry : RD X.K mg ρ π H y u) (h : Fin X.K mg (RelD X.K mg π) W ρ π H (eqDD false x y st) Q) : rEqAll X.K v u H Q := by
  unfold eqDD at h
  split at h
  · cases rx; cases ry
    refine .inl ⟨rfl, ?_⟩
    have := h.here s (.bl _)
    simpa using this
  · cases rx; cases ry
    refine .inl ⟨rfl, ?_⟩
    have := h.here s (.bl _)
    simpa using this
  · obtain ⟨k, e, h⟩ := Fin.opt h
    obtain ⟨d, d', h1, h2, s1, s2, rfl⟩ := eqD_ok s rx ry e
    exact .inr ⟨d, d', h1, h2, s1, s2, h.here s (.bl _)⟩
theorem ne_ok (s : SR X.K mg ρ π H st) (rx : RD X.K mg ρ π H x v) (ry : RD X.K mg ρ π H y u) (h : Fin X.K mg (RelD X.K mg π) W ρ π H (eqDD true x y st) Q) : rNeAll X.K v u H Q := by
  unfold eqDD at h
  split at h
  · cases rx; cases ry
    refine .inl ⟨rfl, ?_⟩
    have := h.here s (.bl _)
    simpa using this
  · cases rx; cases ry
    refine .inl ⟨rfl, ?_⟩
    have := h.here s (.bl _)
    simpa using this
  · obtain ⟨k, e, h⟩ := Fin.opt h
    obtain ⟨d, d', h1, h2, s1, s2, rfl⟩ := eqD_ok s rx ry e
    exact .inr ⟨d, d', h1, h2, s1, s2, h.here s (.bl _)⟩
theorem isN_ok (s : SR X.K mg ρ π H st) (rx : RD X.K mg ρ π H x v) (ry : RD X.K mg ρ π H y u) (h : Fin X.K mg (RelD X.K mg π) W ρ π H (isNoneD false x y st) Q) : u = .non ∧ Q (.bl (decide (v = .non))) H := by
  unfold isNoneD at h
  split at h
  · cases ry
    refine ⟨rfl, ?_⟩
    cases rx <;> exact h.here s (.bl _)
  · exact h.elim
theorem notN_ok (s : SR X.K mg ρ π H st) (rx : RD X.K mg ρ π H x v) (ry : RD X.K mg ρ π H y u) (h : Fin X.K mg (RelD X.K mg π) W ρ π H (isNoneD true x y st) Q) : u = .non ∧ Q (.bl (!decide (v = .non))) H := by
  unfold isNoneD at h
  split at h
  · cases ry
    refine ⟨rfl, ?_⟩
    cases rx <;> exact h.here s (.bl _)
  · exact h.elim
theorem flat_ok {K : PySem.W.Frag} (r : RD K mg ρ π H x v) (f : flatD x = true) : flatV v = true := by
  cases r <;> simp [flatD] at f <;> rfl
theorem eqF_ok {K : PySem.W.Frag} (r : RD K mg ρ π H x v) (q : RD K mg ρ π H y u) (f : flatD x = true) (g : flatD y = true) : eqF x y = eqV v u := by
  cases r <;> simp [flatD] at f <;> cases q <;> simp [flatD] at g <;> rfl
theorem flats_ok {K : PySem.W.Frag} : ∀ {xs : List D} {vs : List V}, RDs K mg ρ π H xs vs → xs.all flatD = true → vs.all flatV = true
  | [], _, r, _ => by cases r; rfl
  | x :: xs, _, r, f => by
    cases r with
    | cons h t =>
      rw [List.all_cons, Bool.and_eq_true] at f
      rw [List.all_cons, flat_ok h f.1, flats_ok t f.2]
      rfl
theorem inF_ok {K : PySem.W.Frag} (q : RD K mg ρ π H y u) (g : flatD y = true) : ∀ {xs : List D} {vs : List V}, RDs K mg ρ π H xs vs → xs.all flatD = true → (xs.any fun z => eqF z y) = inV u vs
  | [], _, r, _ => by cases r; rfl
  | x :: xs, _, r, f => by
    cases r with
    | cons h t =>
      rw [List.all_cons, Bool.and_eq_true] at f
      have ih := inF_ok q g t f.2
      unfold inV at ih ⊢
      rw [List.any_cons, List.any_cons, eqF_ok h q f.1 g, ih]
theorem among_ok (s : SR X.K mg ρ π H st) {d : D} {v : V} {xs : List D} (r : RD X.K mg ρ π H d v) (e : among st d = some xs) : ∃ a vs, v = .ref a ∧ (SqL X.K H a vs ∨ SqT X.K H a vs) ∧ RDs X.K mg ρ π H xs vs := by
  unfold among at e
  split at e
  · cases r with
    | tup h r =>
      have := Option.some.inj e
      subst this
      exact ⟨_, _, rfl, .inr h, r⟩
  · obtain ⟨a, vs, e1, h1, r1⟩ := items_ok s r e
    exact ⟨a, vs, e1, .inl (SqL.of h1), r1⟩
theorem in_ok {neg : Bool} (s : SR X.K mg ρ π H st) (rx : RD X.K mg ρ π H x v) (ry : RD X.K mg ρ π H y u) (h : Fin X.K mg (RelD X.K mg π) W ρ π H (inD neg x y st) Q) : rIn X.K neg v u H Q := by
  unfold inD at h
  split at h
  · rename_i ys e
    split at h
    · rename_i hf
      rw [Bool.and_eq_true] at hf
      obtain ⟨a, vs, rfl, h1, r1⟩ := among_ok s ry e
      refine ⟨a, vs, rfl, h1, flat_ok rx hf.1, flats_ok r1 hf.2, ?_⟩
      have := h.here s (.bl _)
      rw [inF_ok rx hf.1 r1 hf.2] at this
      cases neg with
      | true => simpa using this
      | false => simpa using this
    · exact h.elim
  · exact h.elim
/-- the rule of a comparison -/
theorem cmp_rule (hu : X.A.units + 64 < cLine) {o : CmpOp} {b : COp} (e : copOf o = some b) : ∃ r : R2, OpR X (compareOp o) r ∧
    ∀ {mg : Str → Option Value} {ρ π : List Addr} {H : Hp} {st : Sto} {W : XK} {Q : VK} {x y : D} {v u : V}, SR X.K mg ρ π H st → RD X.K mg ρ π H x v → RD X.K mg ρ π H y u → Fin X.K mg (RelD X.K mg π) W ρ π H (cmpD b x y st) Q → r v u H Q := by
  cases o <;> simp [copOf] at e <;> subst e
  · exact ⟨_, op_eq.or (op_eqQ hu), fun s rx ry h => eq_ok s rx ry h⟩
  · exact ⟨_, op_ne.or (op_neQ hu), fun s rx ry h => ne_ok s rx ry h⟩
  · exact ⟨_, op_lt, fun s rx ry h => rel_ok s rx ry h⟩
  · exact ⟨_, op_le, fun s rx ry h => rel_ok s rx ry h⟩
  · exact ⟨_, op_gt, fun s rx ry h => rel_ok s rx ry h⟩
  · exact ⟨_, op_ge, fun s rx ry h => rel_ok s rx ry h⟩
  · exact ⟨_, op_in_seq, fun s rx ry h => in_ok s rx ry h⟩
  · exact ⟨_, op_notIn_seq, fun s rx ry h => in_ok s rx ry h⟩
/-- what a comparison gives is a truth -/
theorem cmp_bl {b : COp} {st' : Sto} {z : D} (h : cmpD b x y st = .ok z st') : (∃ k, z = .bl k) ∧ st' = st := by
  unfold cmpD at h
  split at h
  all_goals first
    | (unfold relD at h; split at h <;> first | (cases h; exact ⟨⟨_, rfl⟩, rfl⟩) | cases h)
    | (unfold isNoneD at h; split at h <;> first | (cases h; exact ⟨⟨_, rfl⟩, rfl⟩) | cases h)
    | (unfold inD at h
       split at h
       · split at h
         · cases h; exact ⟨⟨_, rfl⟩, rfl⟩
         · cases h
       · cases h)
    | (unfold eqDD at h
       split at h
       · cases h; exact ⟨⟨_, rfl⟩, rfl⟩
       · cases h; exact ⟨⟨_, rfl⟩, rfl⟩
       · cases hh : eqD st x y with
         | none => rw [hh] at h; cases h
         | some k => rw [hh] at h; cases h; exact ⟨⟨_, rfl⟩, rfl⟩)
/-! ### truth, kinds -/
theorem truth_ok (s : SR X.K mg ρ π H st) (rx : RD X.K mg ρ π H x v) {k : Bool} (e : truth st x = some k) : TruV X.K v H k := by
  have hemp : ∀ {xs : List D} {vs : List V}, RDs X.K mg ρ π H xs vs → (!xs.isEmpty) = !vs.isEmpty := fun r => by cases r <;> rfl
  cases rx <;> simp only [truth] at e
  · exact (Option.some.inj e).symm
  · exact (Option.some.inj e).symm
  · exact (Option.some.inj e).symm
  · split at e
    · rename_i hz
      exact ⟨most_le hz, (Option.some.inj e).symm⟩
    · cases e
  · rename_i h r
    exact .inr (.inl ⟨_, h, by rw [← hemp r]; exact (Option.some.inj e).symm⟩)
  · rename_i h n m r
    exact .inl ⟨_, SqL.of h, by rw [← hemp r]; exact (Option.some.inj e).symm⟩
  · rename_i h n m ek r
    refine .inr (.inr ⟨_, h, ?_⟩)
    rw [← Option.some.inj e]
    subst ek
    cases ‹List (Key × V)› <;> rfl
  · rename_i a ns h
    refine .inl ⟨_, h.sq, ?_⟩
    rw [← Option.some.inj e]
    cases ns <;> rfl
  · rename_i a n h
    split at e
    · rename_i xs hx
      obtain ⟨vs, h1, r1⟩ := s.atL h hx
      exact .inl ⟨_, SqL.of h1, by rw [← hemp r1]; exact (Option.some.inj e).symm⟩
    · rename_i ks xs hx
      cases s.ob _ _ _ h hx with
      | dct h1 ek r1 =>
        refine .inr (.inr ⟨_, h1, ?_⟩)
        rw [← Option.some.inj e]
        subst ek
        cases ‹List (Key × V)› <;> rfl
    · cases e
  · cases e
def tyName : Ty → String
  | .int => "int" | .bool => "bool" | .str => "str" | .tuple => "tuple" | .list => "list" | .dict => "dict"
theorem isTy_ok (s : SR X.K mg ρ π H st) (rx : RD X.K mg ρ π H x v) {t : Ty} {k : Bool} (e : isTy t x st = some k) : ∃ n, TyX X.K H v (.type n) ∧ kitB n (tyName t) = some k := by
  cases rx <;> simp only [isTy] at e
  · refine ⟨"NoneType", .base .non, ?_⟩
    rw [← e]; cases t <;> decide +kernel
  · refine ⟨"bool", .base (.bl _), ?_⟩
    rw [← e]; cases t <;> decide +kernel
  · refine ⟨"int", .base (.int _), ?_⟩
    rw [← e]; cases t <;> decide +kernel
  · refine ⟨"str", .base (.str _), ?_⟩
    rw [← e]; cases t <;> decide +kernel
  · rename_i h r
    refine ⟨"tuple", ?_, by rw [← e]; cases t <;> decide +kernel⟩
    rcases h with h | ⟨o, its, n, h1, h2, _⟩
    · rcases h with h | ⟨o, h⟩
      · exact .base (.tup h)
      · exact .fTuple h
    · exact .kTuple h1 h2
  · rename_i h n m r
    refine ⟨"list", .base (.lst h), by rw [← e]; cases t <;> decide +kernel⟩
  · rename_i h n m ek r
    refine ⟨"dict", .base (.dK h), by rw [← e]; cases t <;> decide +kernel⟩
  · cases t <;> cases e
  · rename_i a n h
    split at e
    · rename_i xs hx
      obtain ⟨vs, h1, r1⟩ := s.atL h hx
      exact ⟨"list", .base (.lst h1), by rw [← e]; cases t <;> decide +kernel⟩
    · rename_i ks xs hx
      cases s.ob _ _ _ h hx with
      | dct h1 ek r1 => exact ⟨"dict", .base (.dK h1), by rw [← e]; cases t <;> decide +kernel⟩
    · cases e
  · cases t <;> cases e
end
end Ev
/-! Defs: what they promise, where no text is being made (guards). -/
namespace Ev
open PySem PySem.Spec PyProof.Rows L2

/-- as FnOk, called where no repr runs -/
structure FnG (P : Program) (w : World) (K : PySem.W.Frag) (mg : Str → Option Value) (base : Heap) (k : Nat) (f : Addr) (fd : FuncData) (ps : List Str) (sp : Sp) : Prop where
  len : ∀ vs H Q E, sp vs H Q E → vs.length = ps.length
  run : ∀ (A : Around) (outer : List PySem.Env) (s : Shared) (H : Hp) (args : Args) (us : List Value) (vs : List V) (Q : VK) (E : XK),
    Room k A → A.guards = some [] → Env0 P w K mg base A outer s H → BindsTo s fd args (ps.zip us) → Vals vs us → sp vs H Q E →
    codeAny (model P w) A (.call (.ref f) args) (CR (L2.CX P w) outer P w H s Q E) s

/-- what a callee gives, by the evaluator's word -/
def spC (K : PySem.W.Frag) (mg : Str → Option Value) (C : Cal) (x : Str) : Sp := fun vs H Q E =>
  ∃ ρ π st ds, ds.length = (C.par x).length ∧ SR K mg ρ π H st ∧ RDs K mg ρ π H ds vs ∧ Fin K mg (RelD K mg π) E ρ π H (C.run x ds st) Q

/-- a def that may be called -/
structure Callee (P : Program) (w : World) (K : PySem.W.Frag) (mg : Str → Option Value) (base : Heap) (k : Nat) (C : Cal) (pats : List (Nat × List Str)) (x : Str) (f : Addr) : Prop where
  at_ : mg x = some (.ref f)
  kp : PySem.W.keepIn K (.ref f) = true
  ex : ∃ fd : FuncData, FnG P w K mg base k f fd (C.par x) (spC K mg C x) ∧
    (∀ (s : Shared) (us : List Value), K.In s.heap → us.length = (C.par x).length → BindsTo s fd ⟨us, []⟩ ((C.par x).zip us)) ∧
    ∀ p ∈ pats, ∀ (s : Shared) (us ws r : List Value), K.In s.heap → us.length = p.1 → ws.length = p.2.length → p.2 ≠ [] → permArgs (C.par x) p.2 (us ++ ws) = some r → BindsTo s fd ⟨us, p.2.zip ws⟩ ((C.par x).zip r)

theorem pick_rel {α β : Type} {F : α → β → Prop} {xs : List α} {ys : List β} (h : ∀ (i : Nat) (a : α), xs[i]? = some a → ∃ b, ys[i]? = some b ∧ F a b) : ∀ {ix : List Nat} {r : List α}, ix.mapM (fun i => xs[i]?) = some r →
    ∃ r', ix.mapM (fun i => ys[i]?) = some r' ∧ Paired F r r'
  | [], _, e => by
    simp at e
    subst e
    exact ⟨[], by simp, .nil⟩
  | i :: ix, _, e => by
    rw [List.mapM_cons] at e
    cases hx : xs[i]? with
    | none => rw [hx] at e; simp at e
    | some a =>
      rw [hx] at e
      cases hr : ix.mapM (fun i => xs[i]?) with
      | none => rw [hr] at e; simp at e
      | some r =>
        rw [hr] at e
        simp at e
        subst e
        obtain ⟨b, e1, f⟩ := h i a hx
        obtain ⟨r', e2, g⟩ := pick_rel h hr
        exact ⟨b :: r', by rw [List.mapM_cons, e1, e2]; rfl, .cons f g⟩
theorem Paired.len {α β : Type} {F : α → β → Prop} : ∀ {l₁ : List α} {l₂ : List β}, Paired F l₁ l₂ → l₁.length = l₂.length
  | _, _, .nil => rfl
  | _, _, .cons _ t => by rw [List.length_cons, List.length_cons, Paired.len t]
theorem perm_rel {α β : Type} {F : α → β → Prop} {ps ks : List Str} {xs r : List α} {ys : List β} (h : Paired F xs ys) (e : permArgs ps ks xs = some r) : ∃ r', permArgs ps ks ys = some r' ∧ Paired F r r' := by
  have hl : xs.length = ys.length := Paired.len h
  have hg : ∀ {xs : List α} {ys : List β}, Paired F xs ys → ∀ (i : Nat) (a : α), xs[i]? = some a → ∃ b, ys[i]? = some b ∧ F a b := by
    intro xs ys h
    induction h with
    | nil => intro i a e; simp at e
    | cons f t ih =>
      intro i a e
      cases i with
      | zero => simp at e; subst e; exact ⟨_, rfl, f⟩
      | succ i => exact ih i a (by simpa using e)
  unfold permArgs at e ⊢
  split at e
  · rename_i hk
    rw [if_pos hk]
    split at e
    · rename_i hl2
      rw [if_pos (by rw [← hl]; exact hl2)]
      cases e
      exact ⟨ys, rfl, h⟩
    · cases e
  · rename_i hk
    rw [if_neg hk]
    rw [Option.bind_eq_some_iff] at e
    obtain ⟨ix, e1, e2⟩ := e
    obtain ⟨r', e3, g⟩ := pick_rel (hg h) e2
    exact ⟨r', by rw [← hl, e1]; exact e3, g⟩
theorem paired_of {K : PySem.W.Frag} {mg : Str → Option Value} {ρ π : List Addr} {H : Hp} : ∀ {ds : List D} {vs : List V}, RDs K mg ρ π H ds vs → Paired (fun d v => RD K mg ρ π H d v) ds vs
  | _, _, .nil => .nil
  | _, _, .cons h t => .cons h (paired_of t)
theorem of_paired {K : PySem.W.Frag} {mg : Str → Option Value} {ρ π : List Addr} {H : Hp} : ∀ {ds : List D} {vs : List V}, Paired (fun d v => RD K mg ρ π H d v) ds vs → RDs K mg ρ π H ds vs
  | _, _, .nil => .nil
  | _, _, .cons h t => .cons h (of_paired t)

section
variable {X : Cx} {pins : List (Addr × Obj)} {σ : L2.St} {H : Hp} {s : Shared} {W : WX} {k : Nat} {C : Cal} {pats : List (Nat × List Str)} {x : Str} {f : Addr}
/-- the callee runs -/
theorem run_callee (F : Callee X.prog X.w X.K X.mg X.base k C pats x f) (hr : Room k X.A) (hg : X.A.guards = some []) (tk : Takes X W) (I : L2.Inv X pins σ H s) {ks : List Str} {us ws : List Value} {vs zs : List V} {Q : VK}
    {ρ π : List Addr} {st : Sto} {ds es ds' : List D} (S : SR X.K X.mg ρ π H st) (r1 : RDs X.K X.mg ρ π H ds vs) (r2 : RDs X.K X.mg ρ π H es zs) (q1 : Vals vs us) (q2 : Vals zs ws) (hk : ks = [] ∧ es = [] ∨ (ds.length, ks) ∈ pats ∧ es.length = ks.length)
    (hp : permArgs (C.par x) ks (ds ++ es) = some ds') (h : Fin X.K X.mg (RelD X.K X.mg π) (fun c d H => W c d σ H) ρ π H (C.run x ds' st) Q) : wpAny (model X.prog X.w) X.A (call (.ref f) us (ks.zip ws)) (EP X pins σ Q) X.xe s := by
  obtain ⟨fd, F1, F2, F3⟩ := F.ex
  have fin : ∀ {args : Args} {us' : List Value} {vs' : List V}, BindsTo s fd args ((C.par x).zip us') → Vals vs' us' → RDs X.K X.mg ρ π H ds' vs' → us'.length = (C.par x).length →
      codeAny (model X.prog X.w) X.A (.call (.ref f) args) (fun r s' => match r with | .ok (.ret v) => EP X pins σ Q v s' | .ok _ => False | .error e => X.xe e s') s := by
    intro args us' vs' hb hv hd hl
    have hlen : ds'.length = (C.par x).length := by rw [hd.length, hv.length, hl]
    refine codeAny_mono (F1.run X.A X.stack s H args us' vs' Q (fun c d H => W c d σ H) hr hg I.env0 hb hv ⟨ρ, π, st, ds', hlen, S, hd, h⟩) fun r s' hq => ?_
    cases r with
    | error e => exact tk _ _ (XE.of_call I (fun _ _ _ z => z) hq)
    | ok fl =>
      cases fl with
      | ret u => exact I.after hq
      | next => exact False.elim hq
      | brk => exact False.elim hq
      | cont => exact False.elim hq
  refine wpAny_call (codeAny_mono (R := fun r s' => match r with | .ok (.ret v) => EP X pins σ Q v s' | .ok _ => False | .error e => X.xe e s') ?_ fun r s' hq => ?_)
  · rcases hk with ⟨rfl, rfl⟩ | ⟨hm, hl⟩
    · cases r2
      cases q2
      rw [List.append_nil] at hp
      have hp' := hp
      unfold permArgs at hp'
      rw [if_pos rfl] at hp'
      split at hp'
      · rename_i hl
        cases hp'
        have hl2 : us.length = (C.par x).length := by rw [← q1.length, ← r1.length, hl]
        exact fin (F2 s us I.kIn hl2) q1 r1 hl2
      · cases hp'
    · by_cases hke : ks = []
      · subst hke
        cases r2 with
        | cons _ _ => cases hl
        | nil =>
          cases q2
          rw [List.append_nil] at hp
          have hp' := hp
          unfold permArgs at hp'
          rw [if_pos rfl] at hp'
          split at hp'
          · rename_i hl
            cases hp'
            have hl2 : us.length = (C.par x).length := by rw [← q1.length, ← r1.length, hl]
            exact fin (F2 s us I.kIn hl2) q1 r1 hl2
          · cases hp'
      · obtain ⟨vs', e1, g1⟩ := perm_rel (paired_of (r1.append r2)) hp
        obtain ⟨us', e2, g2⟩ := perm_rel (F := L2.RelV) (Vals.append q1 q2) e1
        have hl3 : us'.length = (C.par x).length := by
          unfold permArgs at e2
          rw [if_neg hke, Option.bind_eq_some_iff] at e2
          obtain ⟨ix, a1, a2⟩ := e2
          have b1 : us'.length = ix.length := by
            have : ∀ {ix : List Nat} {r : List Value}, ix.mapM (fun i => (us ++ ws)[i]?) = some r → r.length = ix.length := by
              intro ix
              induction ix with
              | nil => intro r e; simp at e; subst e; rfl
              | cons i ix ih =>
                intro r e
                rw [List.mapM_cons] at e
                cases hx : (us ++ ws)[i]? with
                | none => rw [hx] at e; simp at e
                | some a =>
                  rw [hx] at e
                  cases hr : ix.mapM (fun i => (us ++ ws)[i]?) with
                  | none => rw [hr] at e; simp at e
                  | some r' =>
                    rw [hr] at e
                    simp at e
                    subst e
                    rw [List.length_cons, List.length_cons, ih hr]
            exact this a2
          have b2 : ix.length = (C.par x).length := by
            unfold permIx at a1
            have : ∀ {l : List (Str × Nat)} {r : List Nat} {g : Str × Nat → Option Nat}, l.mapM g = some r → r.length = l.length := by
              intro l
              induction l with
              | nil => intro r g e; simp at e; subst e; rfl
              | cons i l ih =>
                intro r g e
                rw [List.mapM_cons] at e
                cases hx : g i with
                | none => rw [hx] at e; simp at e
                | some a =>
                  rw [hx] at e
                  cases hr : l.mapM g with
                  | none => rw [hr] at e; simp at e
                  | some r' =>
                    rw [hr] at e
                    simp at e
                    subst e
                    rw [List.length_cons, List.length_cons, ih hr]
            have := this a1
            rw [this, List.length_zipIdx]
          rw [b1, b2]
        have hus : us.length = ds.length := by rw [← q1.length, ← r1.length]
        have hws : ws.length = ks.length := by rw [← q2.length, ← r2.length, hl]
        exact fin (F3 _ hm s us ws us' I.kIn hus hws hke e2) g2 (of_paired g1) hl3
  · cases r with
    | error e => exact hq
    | ok fl =>
      cases fl with
      | ret u => exact hq
      | next => exact False.elim hq
      | brk => exact False.elim hq
      | cont => exact False.elim hq
end
end Ev
/-! Expressions: the readings that the evaluator's word gives. -/
namespace Ev
open PySem PySem.Spec PyProof.Rows L2

section
variable {α β : Type} (X : Cx) (W : WX)
/-- the reading of what the evaluator gives -/
def tF (Rel : List Addr → List Addr → Hp → α → β → Prop) (r : Env → Sto → Out α) : L2.St → Hp → (β → Hp → Prop) → Prop := fun σ H Q =>
  ∃ ρ π env st, SR X.K X.mg ρ π H st ∧ RE X.K X.mg ρ π H env σ ∧ Fin X.K X.mg (Rel π) (fun c d H => W c d σ H) ρ π H (r env st) Q
abbrev tM (r : Env → Sto → Out D) : TE := tF X W (RelD X.K X.mg) r
abbrev tMs (r : Env → Sto → Out (List D)) : TA := tF X W (RelDs X.K X.mg) r
abbrev tMB (r : Env → Sto → Out Bool) : TT := tF X W (fun _ => RelEq Bool) r
abbrev tMO (r : Env → Sto → Out (Option Int)) : TO := tF X W (fun _ => RelEq (Option Int)) r
end

section
variable {X : Cx} {W : WX} {e : Expr}
theorem _root_.L2.PE.imp {t t' : TE} (h : PE X e t) (f : ∀ σ H Q, t' σ H Q → t σ H Q) : PE X e t' := ⟨fun pins s σ H Q I hw => h.run pins s σ H Q I (f σ H Q hw)⟩
theorem _root_.L2.PT.imp {t t' : TT} (h : PT X e t) (f : ∀ σ H Q, t' σ H Q → t σ H Q) : PT X e t' := ⟨fun pins s σ H Q I hw => h.run pins s σ H Q I (f σ H Q hw)⟩
theorem _root_.L2.PW.imp {t t' : TT} (h : PW X e t) (f : ∀ σ H Q, t' σ H Q → t σ H Q) : PW X e t' := ⟨fun whole pins s σ H Q I hw => h.run whole pins s σ H Q I (f σ H Q hw)⟩
theorem _root_.L2.PA.imp {es : List Expr} {t t' : TA} (h : PA X es t) (f : ∀ σ H Q, t' σ H Q → t σ H Q) : PA X es t' := ⟨fun pos pins s σ H Q I hw => h.run pos pins s σ H Q I (f σ H Q hw)⟩
theorem _root_.L2.PK.imp {es : List Keyword} {t t' : TA} (h : PK X es t) (f : ∀ σ H Q, t' σ H Q → t σ H Q) : PK X es t' := ⟨fun pos pins s σ H Q I hw => h.run pos pins s σ H Q I (f σ H Q hw)⟩
theorem _root_.L2.PO.imp {o : Option Expr} {t t' : TO} (h : PO X o t) (f : ∀ σ H Q, t' σ H Q → t σ H Q) : PO X o t' := ⟨fun pins s σ H Q I hw => h.run pins s σ H Q I (f σ H Q hw)⟩
theorem _root_.L2.PS.imp {st : Stmt} {t t' : TS} (h : PS X st t) (f : ∀ D σ H, t' D σ H → t D σ H) : PS X st t' := ⟨fun pins s σ H D I hw => h.run pins s σ H D I (f D σ H hw)⟩
theorem _root_.L2.PSs.imp {st : List Stmt} {t t' : TS} (h : PSs X st t) (f : ∀ D σ H, t' D σ H → t D σ H) : PSs X st t' := ⟨fun pins s σ H D I hw => h.run pins s σ H D I (f D σ H hw)⟩
theorem _root_.L2.PG.imp {t t' : TG} (h : PG X e t) (f : ∀ v σ H Q, t' v σ H Q → t v σ H Q) : PG X e t' := ⟨fun pins s σ H v u Q I r hw => h.run pins s σ H v u Q I r (f v σ H Q hw)⟩
theorem _root_.L2.PI.imp {tg : Expr} {t t' : TI} (h : PI X tg e t) (f : ∀ σ H R, t' σ H R → t σ H R) : PI X tg e t' := ⟨fun pins s σ H R I hw => h.run pins s σ H R I (f σ H R hw)⟩
/-- a rule by values, with the state to read the heap by -/
theorem _root_.L2.PE.never {t : TE} (f : ∀ σ H Q, ¬ t σ H Q) : PE X e t := ⟨fun pins s σ H Q I hw => absurd hw (f σ H Q)⟩
end

section
variable {α β α' β' : Type} {X : Cx} {W : WX} {Rel : List Addr → List Addr → Hp → α → β → Prop} {Rel' : List Addr → List Addr → Hp → α' → β' → Prop}
/-- one thing after another: what the first leaves to the second -/
theorem tF.bnd {ra : Env → Sto → Out α} {f : Env → α → Sto → Out α'} {σ : L2.St} {H : Hp} {Q : β' → Hp → Prop} {P : β → Hp → Prop} (h : tF X W Rel' (fun env st => (ra env st).bnd (f env)) σ H Q)
    (k : ∀ ρ π env a st v H1, SR X.K X.mg ρ π H1 st → RE X.K X.mg ρ π H1 env σ → Rel π ρ H1 a v → Fin X.K X.mg (Rel' π) (fun c d H => W c d σ H) ρ π H1 (f env a st) Q → P v H1) : tF X W Rel ra σ H P := by
  obtain ⟨ρ, π, env, st, S, E, F⟩ := h
  exact ⟨ρ, π, env, st, S, E, F.bnd fun a st1 ρ1 H1 v e x S1 r F1 => k ρ1 π env a st1 v H1 S1 (E.mono x S.muts) r F1⟩
/-- the same stage, another word -/
theorem tF.mk {r : Env → Sto → Out α} {σ : L2.St} {H : Hp} {Q : β → Hp → Prop} {ρ π : List Addr} {env : Env} {st : Sto} (S : SR X.K X.mg ρ π H st) (E : RE X.K X.mg ρ π H env σ) (F : Fin X.K X.mg (Rel π) (fun c d H => W c d σ H) ρ π H (r env st) Q) : tF X W Rel r σ H Q :=
  ⟨ρ, π, env, st, S, E, F⟩
end

section
variable {X : Cx} {W : WX} {a b c : Expr} {pos : Pos} {ra rb rc : Env → Sto → Out D}
theorem pm_non {j : Nat} {p : Pos} : PE X (.Constant .none j p) (tM X W fun _ st => .ok .non st) := pe_non.imp fun σ H Q ⟨ρ, π, env, st, S, E, F⟩ => F.here S .non
theorem pm_bl {b : Bool} {j : Nat} {p : Pos} : PE X (.Constant (.bool b) j p) (tM X W fun _ st => .ok (.bl b) st) := pe_bl.imp fun σ H Q ⟨ρ, π, env, st, S, E, F⟩ => F.here S (.bl b)
theorem pm_int {i : Int} {j : Nat} {p : Pos} : PE X (.Constant (.int i) j p) (tM X W fun _ st => .ok (.int i) st) := pe_int.imp fun σ H Q ⟨ρ, π, env, st, S, E, F⟩ => F.here S (.int i)
theorem pm_str {x : Str} {j : Nat} {p : Pos} : PE X (.Constant (.str x) j p) (tM X W fun _ st => .ok (.str x) st) := pe_str.imp fun σ H Q ⟨ρ, π, env, st, S, E, F⟩ => F.here S (.str x)
theorem pm_var {i : Nat} {x : Str} {p : Pos} (hN : X.N[i]? = some x) (hv : Vis X.env.scope x) (h1 : (x == ("__debug__" : Str)) = false) (h2 : (x == ("__classdict__" : Str)) = false) :
    PE X (.Name x p) (tM X W fun env st => match env[i]? with
      | some (some d) => .ok d st
      | _ => .bad) := (pe_var hN hv h1 h2).imp fun σ H Q ⟨ρ, π, env, st, S, E, F⟩ => by
  simp only at F
  split at F
  · rename_i d hd
    obtain ⟨v, e, r⟩ := E.2 i d hd
    exact ⟨v, e, F.here S r⟩
  · exact F.elim
theorem pm_fn {x : Str} {f : Addr} {p : Pos} (hg : Gl X x) (hm : X.mg x = some (.ref f)) (h1 : (x == ("__debug__" : Str)) = false) : PE X (.Name x p) (tM X W fun _ st => .ok (.fn x) st) :=
  (pe_glob (v := .ref f) hg hm rfl h1).imp fun σ H Q ⟨ρ, π, env, st, S, E, F⟩ => F.here S (.fn hm)
theorem pm_co {x : Str} {v : V} {u : Value} {d : D} {p : Pos} (hg : Gl X x) (hm : X.mg x = some u) (r : L2.RelV v u) (rd : ∀ ρ π H, RD X.K X.mg ρ π H d v) (h1 : (x == ("__debug__" : Str)) = false) : PE X (.Name x p) (tM X W fun _ st => .ok d st) :=
  (pe_glob hg hm r h1).imp fun σ H Q ⟨ρ, π, env, st, S, E, F⟩ => F.here S (rd ρ π H)
theorem pm_bin {al : Bool} {o : Operator} {bo : BOp} (he : bopOf o = some bo) (ha : PE X a (tM X W ra)) (hb : PE X b (tM X W rb)) :
    PE X (.BinOp a o b pos) (tM X W fun env st => (ra env st).bnd fun x st => (rb env st).bnd fun y st => binD al bo x y st) := by
  obtain ⟨r, hr, hq⟩ := bin_rule (X := X) he
  refine (pe_op hr ha hb).imp fun σ H Q h => ?_
  refine tF.bnd h fun ρ π env x st v H1 S E rx F => ?_
  refine ⟨ρ, π, env, st, S, E, F.bnd fun y st1 ρ1 H2 u e x1 S1 ry F1 => ?_⟩
  exact hq S1 (rx.mono x1 S.muts) ry F1
theorem pm_neg (ha : PE X a (tM X W ra)) : PE X (.UnaryOp .USub a pos) (tM X W fun env st => (ra env st).bnd fun x st => negP x st) := by
  refine (pe_un un_neg ha).imp fun σ H Q h => ?_
  refine tF.bnd h fun ρ π env x st v H1 S E rx F => ?_
  unfold negP at F
  split at F
  · cases rx
    exact ⟨_, rfl, F.here S (.int _)⟩
  · exact F.elim
/-- a value's truth -/
theorem test_of {ρ π : List Addr} {H : Hp} {st : Sto} {x : D} {v : V} {α β : Type} {Rel : List Addr → Hp → α → β → Prop} {W : XK} {f : Bool → Sto → Out α} {Q : β → Hp → Prop} (S : SR X.K X.mg ρ π H st) (rx : RD X.K X.mg ρ π H x v)
    (F : Fin X.K X.mg Rel W ρ π H ((opt (truth st x) st).bnd f) Q) : ∃ k, TruV X.K v H k ∧ Fin X.K X.mg Rel W ρ π H (f k st) Q := by
  obtain ⟨k, e, F1⟩ := Fin.opt F
  exact ⟨k, truth_ok S rx e, F1⟩
theorem pm_not (ha : PE X a (tM X W ra)) : PE X (.UnaryOp .Not a pos) (tM X W fun env st => (ra env st).bnd fun x st => (opt (truth st x) st).bnd fun k st => .ok (.bl !k) st) := by
  refine (pe_notT ha).imp fun σ H Q h => ?_
  refine tF.bnd h fun ρ π env x st v H1 S E rx F => ?_
  obtain ⟨k, t, F1⟩ := test_of S rx F
  exact ⟨k, t, F1.here S (.bl _)⟩
theorem pm_and {rest : List Expr} (ha : PE X a (tM X W ra)) (hb : PE X (.BoolOp .And (b :: rest) pos) (tM X W rb)) :
    PE X (.BoolOp .And (a :: b :: rest) pos) (tM X W fun env st => (ra env st).bnd fun x st => (opt (truth st x) st).bnd fun k st => if k then rb env st else .ok x st) := by
  refine (pe_andT ha hb).imp fun σ H Q h => ?_
  refine tF.bnd h fun ρ π env x st v H1 S E rx F => ?_
  obtain ⟨k, t, F1⟩ := test_of S rx F
  refine ⟨k, t, ?_⟩
  cases k with
  | true => exact ⟨ρ, π, env, st, S, E, F1⟩
  | false => exact F1.here S rx
theorem pm_or {rest : List Expr} (ha : PE X a (tM X W ra)) (hb : PE X (.BoolOp .Or (b :: rest) pos) (tM X W rb)) :
    PE X (.BoolOp .Or (a :: b :: rest) pos) (tM X W fun env st => (ra env st).bnd fun x st => (opt (truth st x) st).bnd fun k st => if k then .ok x st else rb env st) := by
  refine (pe_orT ha hb).imp fun σ H Q h => ?_
  refine tF.bnd h fun ρ π env x st v H1 S E rx F => ?_
  obtain ⟨k, t, F1⟩ := test_of S rx F
  refine ⟨k, t, ?_⟩
  cases k with
  | true => exact F1.here S rx
  | false => exact ⟨ρ, π, env, st, S, E, F1⟩
/-- the test of a value -/
abbrev tst (r : Env → Sto → Out D) : Env → Sto → Out Bool := fun env st => (r env st).bnd fun x st => opt (truth st x) st
theorem bnd_ok {α : Type} (o : Out α) : (o.bnd fun a st => .ok a st) = o := by cases o <;> rfl
theorem bnd_assoc {α β γ : Type} (o : Out α) (f : α → Sto → Out β) (g : β → Sto → Out γ) : (o.bnd f).bnd g = o.bnd fun a st => (f a st).bnd g := by cases o <;> rfl
theorem pm_ite {t : Expr} {rt : Env → Sto → Out D} (ht : PT X t (tMB X W (tst rt))) (ha : PE X a (tM X W ra)) (hb : PE X b (tM X W rb)) :
    PE X (.IfExp t a b pos) (tM X W fun env st => (rt env st).bnd fun x st => (opt (truth st x) st).bnd fun k st => if k then ra env st else rb env st) := by
  refine (pe_ifExp ht ha hb).imp fun σ H Q h => ?_
  have h' : tM X W (fun env st => (tst rt env st).bnd fun k st => if k then ra env st else rb env st) σ H Q := by
    simpa only [tst, bnd_assoc] using h
  refine tF.bnd h' fun ρ π env k st v H1 S E rx F => ?_
  cases rx
  cases k with
  | true => exact ⟨ρ, π, env, st, S, E, F⟩
  | false => exact ⟨ρ, π, env, st, S, E, F⟩
theorem notSet_mark {o : CmpOp} (h : notSet b = true) : behindInMarks o b = false := by
  cases b <;> first | rfl | cases h
theorem pm_isN {j : Nat} {p : Pos} (ha : PE X a (tM X W ra)) : PE X (.Compare a [.Is] [.Constant .none j p] pos) (tM X W fun env st => (ra env st).bnd fun x st => (Out.ok D.non st).bnd fun y st => cmpD .isN x y st) := by
  refine (pe_cmpR op_isN ha pe_non (nomark _)).imp fun σ H Q h => ?_
  refine tF.bnd h fun ρ π env x st v H1 S E rx F => ?_
  exact isN_ok S rx .non F
theorem pm_notN {j : Nat} {p : Pos} (ha : PE X a (tM X W ra)) : PE X (.Compare a [.IsNot] [.Constant .none j p] pos) (tM X W fun env st => (ra env st).bnd fun x st => (Out.ok D.non st).bnd fun y st => cmpD .notN x y st) := by
  refine (pe_cmpR op_notN ha pe_non (nomark _)).imp fun σ H Q h => ?_
  refine tF.bnd h fun ρ π env x st v H1 S E rx F => ?_
  exact notN_ok S rx .non F
theorem pm_cmp {o : CmpOp} {co : COp} (hu : X.A.units + 64 < cLine) (hn : notSet b = true) (he : copOf o = some co) (ha : PE X a (tM X W ra)) (hb : PE X b (tM X W rb)) :
    PE X (.Compare a [o] [b] pos) (tM X W fun env st => (ra env st).bnd fun x st => (rb env st).bnd fun y st => cmpD co x y st) := by
  obtain ⟨r, hr, hq⟩ := cmp_rule (X := X) hu he
  refine (pe_cmpR hr ha hb (notSet_mark hn)).imp fun σ H Q h => ?_
  refine tF.bnd h fun ρ π env x st v H1 S E rx F => ?_
  refine ⟨ρ, π, env, st, S, E, F.bnd fun y st1 ρ1 H2 u e x1 S1 ry F1 => ?_⟩
  exact hq S1 (rx.mono x1 S.muts) ry F1
theorem ptm_isN {j : Nat} {p : Pos} (ha : PE X a (tM X W ra)) : PT X (.Compare a [.Is] [.Constant .none j p] pos) (tMB X W (tst fun env st => (ra env st).bnd fun x st => (Out.ok D.non st).bnd fun y st => cmpD .isN x y st)) := by
  refine (pt_cmpR op_isN ha pe_non (nomark _)).imp fun σ H Q h => ?_
  obtain ⟨ρ0, π, env, st0, S0, E0, F0⟩ := h
  simp only [tst, bnd_assoc] at F0
  refine ⟨ρ0, π, env, st0, S0, E0, F0.bnd fun x st ρ H1 v e0 x0 S rx F => ?_⟩
  have E := E0.mono x0 S0.muts
  have hz : ∀ Q', Fin X.K X.mg (RelD X.K X.mg π) (fun c d H => W c d σ H) ρ π H1 (cmpD .isN x .non st) Q' → V.non = .non ∧ Q' (.bl (decide (v = .non))) H1 := fun Q' F' => isN_ok S rx .non F'
  refine hz (fun x H' => ∃ k, x = V.bl k ∧ Q k H') ?_
  have F' : Fin X.K X.mg (RelEq Bool) (fun c d H => W c d σ H) ρ π H1 ((cmpD .isN x .non st).bnd fun x st => opt (truth st x) st) Q := F
  refine F'.bnd fun z st1 ρ1 H2 u e x1 S1 rz F1 => ?_
  obtain ⟨⟨k, rfl⟩, rfl⟩ := cmp_bl e
  cases rz
  exact ⟨k, rfl, F1.here S1 rfl⟩
theorem ptm_notN {j : Nat} {p : Pos} (ha : PE X a (tM X W ra)) : PT X (.Compare a [.IsNot] [.Constant .none j p] pos) (tMB X W (tst fun env st => (ra env st).bnd fun x st => (Out.ok D.non st).bnd fun y st => cmpD .notN x y st)) := by
  refine (pt_cmpR op_notN ha pe_non (nomark _)).imp fun σ H Q h => ?_
  obtain ⟨ρ0, π, env, st0, S0, E0, F0⟩ := h
  simp only [tst, bnd_assoc] at F0
  refine ⟨ρ0, π, env, st0, S0, E0, F0.bnd fun x st ρ H1 v e0 x0 S rx F => ?_⟩
  have E := E0.mono x0 S0.muts
  have hz : ∀ Q', Fin X.K X.mg (RelD X.K X.mg π) (fun c d H => W c d σ H) ρ π H1 (cmpD .notN x .non st) Q' → V.non = .non ∧ Q' (.bl (!decide (v = .non))) H1 := fun Q' F' => notN_ok S rx .non F'
  refine hz (fun x H' => ∃ k, x = V.bl k ∧ Q k H') ?_
  have F' : Fin X.K X.mg (RelEq Bool) (fun c d H => W c d σ H) ρ π H1 ((cmpD .notN x .non st).bnd fun x st => opt (truth st x) st) Q := F
  refine F'.bnd fun z st1 ρ1 H2 u e x1 S1 rz F1 => ?_
  obtain ⟨⟨k, rfl⟩, rfl⟩ := cmp_bl e
  cases rz
  exact ⟨k, rfl, F1.here S1 rfl⟩
theorem ptm_cmp {o : CmpOp} {co : COp} (hu : X.A.units + 64 < cLine) (hn : notSet b = true) (he : copOf o = some co) (ha : PE X a (tM X W ra)) (hb : PE X b (tM X W rb)) :
    PT X (.Compare a [o] [b] pos) (tMB X W (tst fun env st => (ra env st).bnd fun x st => (rb env st).bnd fun y st => cmpD co x y st)) := by
  obtain ⟨r, hr, hq⟩ := cmp_rule (X := X) hu he
  refine (pt_cmpR hr ha hb (notSet_mark hn)).imp fun σ H Q h => ?_
  obtain ⟨ρ0, π, env, st0, S0, E0, F0⟩ := h
  simp only [tst, bnd_assoc] at F0
  refine ⟨ρ0, π, env, st0, S0, E0, F0.bnd fun x st ρ H1 v e0 x0 S rx F => ?_⟩
  have E := E0.mono x0 S0.muts
  refine ⟨ρ, π, env, st, S, E, F.bnd fun y st1 ρ1 H2 u e x1 S1 ry F1 => ?_⟩
  refine hq S1 (rx.mono x1 S.muts) ry (F1.bnd fun z st2 ρ2 H3 w e2 x2 S2 rz F2 => ?_)
  obtain ⟨⟨k, rfl⟩, rfl⟩ := cmp_bl e2
  cases rz
  exact ⟨k, rfl, F2.here S2 rfl⟩
theorem lastMark {o p : CmpOp} (h : notSet c = true) : lastMarks [o, p] [b, c] = false := by
  have : lastMarks [o, p] [b, c] = behindInMarks p c := rfl
  rw [this]
  exact notSet_mark h
theorem pm_chain {o p : CmpOp} {co cp : COp} (hu : X.A.units + 64 < cLine) (hn : notSet c = true) (he : copOf o = some co) (hp : copOf p = some cp) (ha : PE X a (tM X W ra)) (hb : PE X b (tM X W rb)) (hc : PE X c (tM X W rc)) :
    PE X (.Compare a [o, p] [b, c] pos) (tM X W fun env st => (ra env st).bnd fun x st => (rb env st).bnd fun y st => (cmpD co x y st).bnd fun r st => match r with
      | .bl true => (rc env st).bnd fun z st => cmpD cp y z st
      | .bl false => .ok (.bl false) st
      | _ => .bad) := by
  obtain ⟨r, hr, hq⟩ := cmp_rule (X := X) hu he
  obtain ⟨r', hr', hq'⟩ := cmp_rule (X := X) hu hp
  refine (pe_chain hr hr' ha hb hc (lastMark hn)).imp fun σ H Q h => ?_
  refine tF.bnd h fun ρ π env x st v H1 S E rx F => ?_
  refine ⟨ρ, π, env, st, S, E, F.bnd fun y st1 ρ1 H2 u e x1 S1 ry F1 => ?_⟩
  refine hq S1 (rx.mono x1 S.muts) ry (F1.bnd fun z st2 ρ2 H3 w e2 x2 S2 rz F2 => ?_)
  obtain ⟨⟨k, rfl⟩, rfl⟩ := cmp_bl e2
  cases rz
  refine ⟨k, rfl, ?_⟩
  cases k with
  | true =>
    refine ⟨ρ2, π, env, st2, S2, (E.mono x1 S.muts).mono x2 S1.muts, F2.bnd fun z st3 ρ3 H4 w2 e3 x3 S3 rz F3 => ?_⟩
    exact hq' S3 ((ry.mono x2 S1.muts).mono x3 S2.muts) rz F3
  | false => exact F2.here S2 (.bl false)
theorem ptm_chain {o p : CmpOp} {co cp : COp} (hu : X.A.units + 64 < cLine) (hn : notSet c = true) (he : copOf o = some co) (hp : copOf p = some cp) (ha : PE X a (tM X W ra)) (hb : PE X b (tM X W rb)) (hc : PE X c (tM X W rc)) :
    PT X (.Compare a [o, p] [b, c] pos) (tMB X W (tst fun env st => (ra env st).bnd fun x st => (rb env st).bnd fun y st => (cmpD co x y st).bnd fun r st => match r with
      | .bl true => (rc env st).bnd fun z st => cmpD cp y z st
      | .bl false => .ok (.bl false) st
      | _ => .bad)) := by
  obtain ⟨r, hr, hq⟩ := cmp_rule (X := X) hu he
  obtain ⟨r', hr', hq'⟩ := cmp_rule (X := X) hu hp
  refine (pt_chain hr hr' ha hb hc (lastMark hn)).imp fun σ H Q h => ?_
  obtain ⟨ρ0, π, env, st0, S0, E0, F0⟩ := h
  simp only [tst, bnd_assoc] at F0
  refine ⟨ρ0, π, env, st0, S0, E0, F0.bnd fun x st ρ H1 v e0 x0 S rx F => ?_⟩
  have E := E0.mono x0 S0.muts
  refine ⟨ρ, π, env, st, S, E, F.bnd fun y st1 ρ1 H2 u e x1 S1 ry F1 => ?_⟩
  refine hq S1 (rx.mono x1 S.muts) ry (F1.bnd fun z st2 ρ2 H3 w e2 x2 S2 rz F2 => ?_)
  obtain ⟨⟨k, rfl⟩, rfl⟩ := cmp_bl e2
  cases rz
  refine ⟨k, rfl, ?_⟩
  cases k with
  | true =>
    simp only [bnd_assoc] at F2
    refine ⟨ρ2, π, env, st2, S2, (E.mono x1 S.muts).mono x2 S1.muts, F2.bnd fun z st3 ρ3 H4 w2 e3 x3 S3 rz F3 => ?_⟩
    refine hq' S3 ((ry.mono x2 S1.muts).mono x3 S2.muts) rz (F3.bnd fun z' st4 ρ4 H5 w3 e4 x4 S4 rz' F4 => ?_)
    obtain ⟨⟨k, rfl⟩, rfl⟩ := cmp_bl e4
    cases rz'
    exact ⟨k, rfl, F4.here S4 rfl⟩
  | false => exact ⟨false, rfl, F2.here S2 rfl⟩
/-- a test by the value's truth -/
theorem ptm_truth (he : ∀ whole, PySem.isTrue a X.env whole = (do let v ← whole; standAt a.pos; holding [v] (truthy v))) (ha : PE X a (tM X W ra)) : PT X a (tMB X W (tst ra)) := by
  refine (pt_truth ha he).imp fun σ H Q h => ?_
  refine tF.bnd h fun ρ π env x st v H1 S E rx F => ?_
  obtain ⟨k, e, F1⟩ := Fin.opt1 F
  exact ⟨k, truth_ok S rx e, F1.here S rfl⟩
theorem ptm_not (ha : PT X a (tMB X W (tst ra))) : PT X (.UnaryOp .Not a pos) (tMB X W (tst fun env st => (ra env st).bnd fun x st => (opt (truth st x) st).bnd fun k st => .ok (.bl !k) st)) := by
  refine (pt_not ha).imp fun σ H Q h => ?_
  have h' : tMB X W (fun env st => (tst ra env st).bnd fun k st => .ok (!k) st) σ H Q := by
    obtain ⟨ρ0, π, env, st0, S0, E0, F0⟩ := h
    refine ⟨ρ0, π, env, st0, S0, E0, ?_⟩
    simp only [tst, bnd_assoc] at F0 ⊢
    exact F0
  refine tF.bnd h' fun ρ π env k st v H1 S E rx F => ?_
  cases rx
  exact F.here S rfl
theorem tst_and : tst (fun env st => (ra env st).bnd fun x st => (opt (truth st x) st).bnd fun k st => if k then rb env st else .ok x st) = fun env st => (tst ra env st).bnd fun k st => if k then tst rb env st else .ok false st := by
  funext env st
  show Out.bnd _ _ = _
  simp only [tst, bnd_assoc]
  cases ra env st with
  | ok x st1 =>
    simp only [Out.bnd]
    cases hk : truth st1 x with
    | none => rfl
    | some k =>
      cases k with
      | true => rfl
      | false => simp [opt, hk]
  | ex c v st1 => rfl
  | bad => rfl
theorem tst_or : tst (fun env st => (ra env st).bnd fun x st => (opt (truth st x) st).bnd fun k st => if k then .ok x st else rb env st) = fun env st => (tst ra env st).bnd fun k st => if k then .ok true st else tst rb env st := by
  funext env st
  show Out.bnd _ _ = _
  simp only [tst, bnd_assoc]
  cases ra env st with
  | ok x st1 =>
    simp only [Out.bnd]
    cases hk : truth st1 x with
    | none => rfl
    | some k =>
      cases k with
      | false => rfl
      | true => simp [opt, hk]
  | ex c v st1 => rfl
  | bad => rfl
theorem tst_ite {rt : Env → Sto → Out D} : tst (fun env st => (rt env st).bnd fun x st => (opt (truth st x) st).bnd fun k st => if k then ra env st else rb env st) = fun env st => (tst rt env st).bnd fun k st => if k then tst ra env st else tst rb env st := by
  funext env st
  show Out.bnd _ _ = _
  simp only [tst, bnd_assoc]
  cases rt env st with
  | ok x st1 =>
    simp only [Out.bnd]
    cases hk : truth st1 x with
    | none => rfl
    | some k => cases k <;> rfl
  | ex c v st1 => rfl
  | bad => rfl
theorem ptm_and {rest : List Expr} (ha : PT X a (tMB X W (tst ra))) (hb : PW X (.BoolOp .And (b :: rest) pos) (tMB X W (tst rb))) :
    PW X (.BoolOp .And (a :: b :: rest) pos) (tMB X W (tst fun env st => (ra env st).bnd fun x st => (opt (truth st x) st).bnd fun k st => if k then rb env st else .ok x st)) := by
  rw [tst_and]
  refine (pw_and ha hb).imp fun σ H Q h => ?_
  refine tF.bnd h fun ρ π env k st v H1 S E rx F => ?_
  cases rx
  cases k with
  | true => exact ⟨ρ, π, env, st, S, E, F⟩
  | false => exact F.here S rfl
theorem ptm_or {rest : List Expr} (ha : PT X a (tMB X W (tst ra))) (hb : PW X (.BoolOp .Or (b :: rest) pos) (tMB X W (tst rb))) :
    PW X (.BoolOp .Or (a :: b :: rest) pos) (tMB X W (tst fun env st => (ra env st).bnd fun x st => (opt (truth st x) st).bnd fun k st => if k then .ok x st else rb env st)) := by
  rw [tst_or]
  refine (pw_or ha hb).imp fun σ H Q h => ?_
  refine tF.bnd h fun ρ π env k st v H1 S E rx F => ?_
  cases rx
  cases k with
  | true => exact F.here S rfl
  | false => exact ⟨ρ, π, env, st, S, E, F⟩
/-- a conditional expression as a test -/
theorem ptm_ite {t : Expr} {rt : Env → Sto → Out D} (ht : PT X t (tMB X W (tst rt))) (ha : PT X a (tMB X W (tst ra))) (hb : PT X b (tMB X W (tst rb))) :
    PT X (.IfExp t a b pos) (tMB X W (tst fun env st => (rt env st).bnd fun x st => (opt (truth st x) st).bnd fun k st => if k then ra env st else rb env st)) := by
  rw [tst_ite]
  refine ⟨fun pins s σ H Q I h => ?_⟩
  have e : PySem.isTrue (.IfExp t a b pos) X.env (eval (.IfExp t a b pos) X.env) = (PySem.isTrue t X.env (eval t X.env) >>= fun k => if k = true then PySem.isTrue a X.env (eval a X.env) else PySem.isTrue b X.env (eval b X.env)) := by
    rw [PySem.isTrue]
  rw [e]
  refine wpAny_bind (thn (ht.run pins s σ H _ I (tF.bnd (P := fun k H1 => tMB X W (fun env st => if k then tst ra env st else tst rb env st) σ H1 Q) h fun ρ π env k st v H1 S E rx F => ?_)) fun k s1 hk => ?_)
  · cases rx
    exact ⟨ρ, π, env, st, S, E, F⟩
  · obtain ⟨H1, I1, q⟩ := hk
    cases k with
    | true => exact ha.run pins s1 σ H1 Q I1 q
    | false => exact hb.run pins s1 σ H1 Q I1 q
end

/-! ### argument lists, displays, subscripts, slices -/
section
variable {X : Cx} {W : WX} {a b c e : Expr} {es : List Expr} {pos : Pos} {ra rb rc : Env → Sto → Out D} {rs : Env → Sto → Out (List D)}
theorem pm_nil : PA X [] (tMs X W fun _ st => .ok [] st) := pa_nil.imp fun σ H Q ⟨ρ, π, env, st, S, E, F⟩ => F.here S .nil
theorem pm_cons (hs : ∀ env : PySem.Env, starEach (e :: es) env = (false, eval e env) :: starEach es env) (ha : PE X e (tM X W ra)) (hr : PA X es (tMs X W rs)) :
    PA X (e :: es) (tMs X W fun env st => (ra env st).bnd fun d st => (rs env st).bnd fun ds st => .ok (d :: ds) st) := by
  refine (pa_cons ha hr (hs _)).imp fun σ H Q h => ?_
  refine tF.bnd h fun ρ π env x st v H1 S E rx F => ?_
  refine ⟨ρ, π, env, st, S, E, F.bnd fun xs st1 ρ1 H2 us e1 x1 S1 rxs F1 => ?_⟩
  exact F1.here S1 (.cons (rx.mono x1 S.muts) rxs)
theorem pkm_nil : PK X [] (tMs X W fun _ st => .ok [] st) := pk_nil.imp fun σ H Q ⟨ρ, π, env, st, S, E, F⟩ => F.here S .nil
theorem pkm_cons {nm : Option Str} {p : Pos} {ks : List Keyword} (ha : PE X e (tM X W ra)) (hr : PK X ks (tMs X W rs)) :
    PK X (⟨nm, e, p⟩ :: ks) (tMs X W fun env st => (ra env st).bnd fun d st => (rs env st).bnd fun ds st => .ok (d :: ds) st) := by
  refine (pk_cons ha hr).imp fun σ H Q h => ?_
  refine tF.bnd h fun ρ π env x st v H1 S E rx F => ?_
  refine ⟨ρ, π, env, st, S, E, F.bnd fun xs st1 ρ1 H2 us e1 x1 S1 rxs F1 => ?_⟩
  exact F1.here S1 (.cons (rx.mono x1 S.muts) rxs)
theorem RDs.lineLe {K : PySem.W.Frag} {mg : Str → Option Value} {ρ π : List Addr} {H : Hp} {ds : List D} {vs : List V} (r : RDs K mg ρ π H ds vs) (h : small ds.length = true) : vs.length ≤ sizeLine := by
  rw [← r.length]
  exact small_le h
theorem pm_tup {k : Nat} (h : PA X es (tMs X W rs)) : PE X (.Tuple es k pos) (tM X W fun env st => (rs env st).bnd fun ds st => if small ds.length then .ok (.tup ds) st else .bad) := by
  refine (pe_tup h).imp fun σ H Q h => ?_
  refine tF.bnd h fun ρ π env ds st vs H1 S E rx F => ?_
  split at F
  · rename_i hs
    exact ⟨rx.lineLe hs, tupRes S rx F⟩
  · exact F.elim
theorem pm_lst {al : Bool} (h : PA X es (tMs X W rs)) : PE X (.List es pos) (tM X W fun env st => (rs env st).bnd fun ds st => if small ds.length then newL al ds st else .bad) := by
  refine (pe_lst h).imp fun σ H Q h => ?_
  refine tF.bnd h fun ρ π env ds st vs H1 S E rx F => ?_
  split at F
  · rename_i hs
    exact ⟨rx.lineLe hs, newL_ok S rx F⟩
  · exact F.elim
end
end Ev
/-! Subscripts, slices, built-in functions. -/
namespace Ev
open PySem PySem.Spec PyProof.Rows L2

section
variable {K : PySem.W.Frag} {mg : Str → Option Value} {ρ ρ' π : List Addr} {H H' : Hp} {st : Sto}
theorem cut_rel {xs : List D} {vs : List V} (r : RDs K mg ρ π H xs vs) (lo hi : Option Int) : RDs K mg ρ π H (cutL xs lo hi) (cutV vs lo hi) := by
  unfold cutL cutV
  rw [r.length]
  exact (r.drop _).take _
theorem cut_whole {α : Type} {xs : List α} {lo hi : Option Int} (h : HT.sIx xs.length 0 lo = 0 ∧ HT.sIx xs.length xs.length hi = xs.length) : cutL xs lo hi = xs := by
  unfold cutL
  rw [h.1, h.2, List.drop_zero, Nat.sub_zero, List.take_length]
theorem atI_rel {xs : List D} {vs : List V} (r : RDs K mg ρ π H xs vs) {i : Int} {d : D} (e : atI xs i = some d) : ∃ v, atI vs i = some v ∧ RD K mg ρ π H d v := by
  unfold atI at e ⊢
  rw [← r.length]
  cases h : ixN xs.length i with
  | none => rw [h] at e; cases e
  | some j =>
    rw [h] at e
    exact r.get e
theorem ints_rel : ∀ {xs : List D} {vs : List V} {ns : List Int}, RDs K mg ρ π H xs vs → intsD xs = some ns → vs = ns.map V.int
  | [], _, _, r, e => by
    cases r
    cases e
    rfl
  | x :: xs, _, ns, r, e => by
    cases r with
    | cons h t =>
      cases h with
      | int i =>
        simp only [intsD, Option.map_eq_some_iff] at e
        obtain ⟨ms, e1, rfl⟩ := e
        rw [List.map_cons, ints_rel t e1]
      | _ => cases e
theorem bools_rel : ∀ {xs : List D} {vs : List V} {bs : List Bool}, RDs K mg ρ π H xs vs → boolsD xs = some bs → vs = bs.map V.bl
  | [], _, _, r, e => by
    cases r
    cases e
    rfl
  | x :: xs, _, bs, r, e => by
    cases r with
    | cons h t =>
      cases h with
      | bl b =>
        simp only [boolsD, Option.map_eq_some_iff] at e
        obtain ⟨ms, e1, rfl⟩ := e
        rw [List.map_cons, bools_rel t e1]
      | _ => cases e
end

section
variable {X : Cx} {W : WX} {a b c e : Expr} {es : List Expr} {pos : Pos} {ra rb rc : Env → Sto → Out D} {rs : Env → Sto → Out (List D)}
theorem plainIx_ok (h : plainIx b = true) : PlainIx b := by
  intro o i
  cases b <;> first | rfl | cases h
theorem pm_ix (hp : plainIx b = true) (ha : PE X a (tM X W ra)) (hb : PE X b (tM X W rb)) : PE X (.Subscript a b pos) (tM X W fun env st => (ra env st).bnd fun x st => (rb env st).bnd fun y st => opt (ixD x y st) st) := by
  refine (pe_ix ix_seq ha hb (plainIx_ok hp)).imp fun σ H Q h => ?_
  refine tF.bnd h fun ρ π env x st v H1 S E rx F => ?_
  refine ⟨ρ, π, env, st, S, E, F.bnd fun y st1 ρ1 H2 u e x1 S1 ry F1 => ?_⟩
  have rx' := rx.mono x1 S.muts
  obtain ⟨d, e, F2⟩ := Fin.opt1 F1
  unfold ixD at e
  split at e
  · cases ry
    split at e
    · cases rx'
      split at e
      · rename_i hz
        rw [Option.map_eq_some_iff] at e
        obtain ⟨c, e1, rfl⟩ := e
        exact .inr (.inr ⟨_, _, c, rfl, rfl, small_le hz, e1, F2.here S1 (.str _)⟩)
      · cases e
    · rw [Option.bind_eq_some_iff] at e
      obtain ⟨xs, e1, e2⟩ := e
      obtain ⟨p, vs, rfl, h1, r1⟩ := seqOf_ok S1 rx' e1
      obtain ⟨w, e3, r2⟩ := atI_rel r1 e2
      rcases h1 with h1 | h1
      · exact .inl ⟨p, vs, _, w, rfl, rfl, h1, e3, F2.here S1 r2⟩
      · exact .inr (.inl ⟨p, vs, _, w, rfl, rfl, h1, e3, F2.here S1 r2⟩)
  · cases e
abbrev rSlQ (K : PySem.W.Frag) : V → Option Int → Option Int → Hp → VK → Prop := fun x lo hi H Q => rSlA K x lo hi H Q ∨ rSlL K x lo hi H Q
theorem sl_all : SlR X (rSlQ X.K) := sl_tupA.or sl_list
variable {rl rh : Env → Sto → Out (Option Int)}
theorem pmo_none : PO X none (tMO X W fun _ st => .ok none st) := po_none.imp fun σ H Q ⟨ρ, π, env, st, S, E, F⟩ => F.here S rfl
theorem pmo_some (ha : PE X a (tM X W ra)) : PO X (some a) (tMO X W fun env st => (ra env st).bnd fun d st => partP d st) := by
  refine (po_some ha).imp fun σ H Q h => ?_
  refine tF.bnd h fun ρ π env x st v H1 S E rx F => ?_
  unfold partP at F
  split at F
  · cases rx
    exact ⟨_, rfl, F.here S rfl⟩
  · exact F.elim
theorem pm_sl {al : Bool} {lo hi : Option Expr} {p2 : Pos} (ha : PE X a (tM X W ra)) (hl : PO X lo (tMO X W rl)) (hh : PO X hi (tMO X W rh)) :
    PE X (.Subscript a (.Slice lo hi none p2) pos) (tM X W fun env st => (ra env st).bnd fun x st => (rl env st).bnd fun l st => (rh env st).bnd fun h st => slD al x l h st) := by
  refine (pe_slice sl_all ha hl hh).imp fun σ H Q h => ?_
  refine tF.bnd h fun ρ π env x st v H1 S E rx F => ?_
  refine ⟨ρ, π, env, st, S, E, F.bnd fun l st1 ρ1 H2 l' e1 x1 S1 r1 F1 => ?_⟩
  cases r1
  have E1 := E.mono x1 S.muts
  refine ⟨ρ1, π, env, st1, S1, E1, F1.bnd fun h st2 ρ2 H3 h' e2 x2 S2 r2 F2 => ?_⟩
  cases r2
  have rx' := (rx.mono x1 S.muts).mono x2 S1.muts
  unfold slD at F2
  split at F2
  · cases rx' with
    | tup ht r =>
      have hlen := r.length
      refine .inl ⟨_, _, rfl, ht, fun hw => ?_, fun _ => tupRes S2 (cut_rel r l h) F2⟩
      rw [← hlen] at hw
      rw [cut_whole hw] at F2
      exact F2.here S2 (.tup ht r)
  · split at F2
    · rename_i xs e
      obtain ⟨p, vs, rfl, h1, r1⟩ := lsOf_ok S2 rx' e
      exact .inr ⟨p, vs, rfl, h1, newL_ok S2 (cut_rel r1 l h) F2⟩
    · exact F2.elim

/-! ### built-in functions -/
def rReprQ (K : PySem.W.Frag) : List V → Hp → VK → Prop := fun xs H Q => ∃ x p, xs = [x] ∧ Dq K H x p ∧ p.showable = true ∧ wid p ≤ most ∧ (p.hasDict = false ∨ noLst p = true) ∧ p.depth ≤ 12 ∧ Q (.str p.shown) H
theorem call_reprQ (hg : X.A.guards = some []) (hu : X.A.units + 64 < cLine) : CallR X (.builtin "repr") (rReprQ X.K) := by
  intro pins s σ H xs us Q I r h
  obtain ⟨x, p, rfl, hd, hs, hw, hn, hdp, q⟩ := h
  obtain ⟨u, rfl, ru⟩ := vals1 r
  obtain ⟨as, rd, hsm⟩ := Dq.reads I p x u hd ru
  have hlen : p.shown.length ≤ sizeLine := Nat.le_trans (shown_le p hw) (most_le hw)
  cases hd with
  | non =>
    cases ru
    exact PySem.P.repr_of_none ⟨.str _, H, I.tok _, ⟨_, rfl⟩, q⟩
  | bl b =>
    cases ru
    exact PySem.P.repr_of_bool ⟨.str _, H, I.tok _, ⟨_, rfl⟩, q⟩
  | int i =>
    obtain ⟨t, rfl⟩ := ru
    simp only [PyData.showable, decide_eq_true_eq] at hs
    exact PySem.P.repr_of_int hs ⟨.str _, H, I.tok _, ⟨_, rfl⟩, q⟩
  | str z =>
    obtain ⟨t, rfl⟩ := ru
    exact PySem.P.repr_of_str ⟨.str _, H, I.tok _, ⟨_, rfl⟩, q⟩ hlen
  | lst h1 r1 =>
    cases ru
    refine repr_of_reads' rd hs (fun z => ?_) hg (by omega) (fun _ _ e => e) (fun h' u' tk hk => ⟨.str _, H, I.kept hk, ⟨_, rfl⟩, q⟩) hlen
    rcases hn with hn | hn
    · rw [hn] at z; cases z
    · exact hsm hn
  | tup h1 r1 =>
    cases ru
    refine repr_of_reads' rd hs (fun z => ?_) hg (by omega) (fun _ _ e => e) (fun h' u' tk hk => ⟨.str _, H, I.kept hk, ⟨_, rfl⟩, q⟩) hlen
    rcases hn with hn | hn
    · rw [hn] at z; cases z
    · exact hsm hn
  | dct h1 r1 =>
    cases ru
    refine repr_of_reads' rd hs (fun z => ?_) hg (by omega) (fun _ _ e => e) (fun h' u' tk hk => ⟨.str _, H, I.kept hk, ⟨_, rfl⟩, q⟩) hlen
    rcases hn with hn | hn
    · rw [hn] at z; cases z
    · exact hsm hn
/-- a built-in's rule and the evaluator's word -/
structure PrimOk (X : Cx) (p : Prim) (x : Str) : Prop where
  ex : ∃ (f : Value) (r : List V → Hp → VK → Prop), bootBuiltins x = some f ∧ ((∃ id, f = .builtin id) ∨ ∃ T, f = .type T) ∧ CallR X f r ∧
    ∀ {al : Bool} {ρ π : List Addr} {H : Hp} {st : Sto} {W : XK} {Q : VK} {ds : List D} {vs : List V}, SR X.K X.mg ρ π H st → RDs X.K X.mg ρ π H ds vs → Fin X.K X.mg (RelD X.K X.mg π) W ρ π H (prD al p ds st) Q → r vs H Q
theorem len_ok {ρ π : List Addr} {H : Hp} {st : Sto} {d : D} {v : V} {n : Nat} (S : SR X.K X.mg ρ π H st) (r : RD X.K X.mg ρ π H d v) (e : lenD st d = some n) : LenV X.K v H n := by
  unfold lenD at e
  split at e
  · cases r
    split at e
    · rename_i hz
      cases e
      exact ⟨small_le hz, rfl⟩
    · cases e
  · rw [Option.map_eq_some_iff] at e
    obtain ⟨xs, e1, rfl⟩ := e
    obtain ⟨a, vs, rfl, h1, r1⟩ := seqOf_ok S r e1
    rcases h1 with h1 | h1
    · exact .inl ⟨vs, h1, r1.length⟩
    · exact .inr ⟨vs, h1, r1.length⟩
section
variable {ρ π : List Addr} {H : Hp} {st : Sto} {Wx : XK} {Q : VK} {ds : List D} {vs : List V} {f1 : D → Sto → Out D} {f2 : D → D → Sto → Out D}
theorem arg1_ok (r : RDs X.K X.mg ρ π H ds vs) (F : Fin X.K X.mg (RelD X.K X.mg π) Wx ρ π H (arg1 f1 ds st) Q) : ∃ d v, vs = [v] ∧ RD X.K X.mg ρ π H d v ∧ Fin X.K X.mg (RelD X.K X.mg π) Wx ρ π H (f1 d st) Q := by
  unfold arg1 at F
  split at F
  · cases r with
    | cons h t =>
      cases t
      exact ⟨_, _, rfl, h, F⟩
  · exact F.elim
theorem arg2_ok (r : RDs X.K X.mg ρ π H ds vs) (F : Fin X.K X.mg (RelD X.K X.mg π) Wx ρ π H (arg2 f2 ds st) Q) : ∃ d v e u, vs = [v, u] ∧ RD X.K X.mg ρ π H d v ∧ RD X.K X.mg ρ π H e u ∧ Fin X.K X.mg (RelD X.K X.mg π) Wx ρ π H (f2 d e st) Q := by
  unfold arg2 at F
  split at F
  · cases r with
    | cons h t =>
      cases t with
      | cons h2 t =>
        cases t
        exact ⟨_, _, _, _, rfl, h, h2, F⟩
  · exact F.elim
end
theorem prim_ok (hc : X.calm = true) (hg : X.A.guards = some []) (hu : X.A.units + 64 < cLine) {x : Str} {n : Nat} {p : Prim} (e : primOf x n = some p) : PrimOk X p x := by
  unfold primOf at e
  by_cases hx : x = "len" ∧ n = 1
  · rw [if_pos hx] at e
    cases e
    obtain ⟨rfl, _⟩ := hx
    refine ⟨_, _, PySem.boot_len, .inl ⟨_, rfl⟩, call_len, fun {al ρ π H st W Q ds vs} S r F => ?_⟩
    obtain ⟨d, v, rfl, r1, F1⟩ := arg1_ok r F
    obtain ⟨m, e1, F2⟩ := Fin.opt F1
    exact ⟨v, m, rfl, len_ok S r1 e1, F2.here S (.int _)⟩
  rw [if_neg hx] at e
  by_cases hx : x = "abs" ∧ n = 1
  · rw [if_pos hx] at e
    cases e
    obtain ⟨rfl, _⟩ := hx
    refine ⟨_, _, by decide +kernel, .inl ⟨_, rfl⟩, call_abs, fun {al ρ π H st W Q ds vs} S r F => ?_⟩
    obtain ⟨d, v, rfl, r1, F1⟩ := arg1_ok r F
    unfold absP at F1
    split at F1
    · cases r1
      exact ⟨_, rfl, F1.here S (.int _)⟩
    · exact F1.elim
  rw [if_neg hx] at e
  by_cases hx : x = "max" ∧ n = 2
  · rw [if_pos hx] at e
    cases e
    obtain ⟨rfl, _⟩ := hx
    refine ⟨_, _, PyProof.Rows.boot_max, .inl ⟨_, rfl⟩, call_max2 hc, fun {al ρ π H st W Q ds vs} S r F => ?_⟩
    obtain ⟨d, v, d2, v2, rfl, r1, r2, F1⟩ := arg2_ok r F
    unfold maxP at F1
    split at F1
    · cases r1; cases r2
      exact ⟨_, _, rfl, F1.here S (.int _)⟩
    · exact F1.elim
  rw [if_neg hx] at e
  by_cases hx : x = "min" ∧ n = 2
  · rw [if_pos hx] at e
    cases e
    obtain ⟨rfl, _⟩ := hx
    refine ⟨_, _, PyProof.Rows.boot_min, .inl ⟨_, rfl⟩, call_min2 hc, fun {al ρ π H st W Q ds vs} S r F => ?_⟩
    obtain ⟨d, v, d2, v2, rfl, r1, r2, F1⟩ := arg2_ok r F
    unfold minP at F1
    split at F1
    · cases r1; cases r2
      exact ⟨_, _, rfl, F1.here S (.int _)⟩
    · exact F1.elim
  rw [if_neg hx] at e
  by_cases hx : x = "int" ∧ n = 1
  · rw [if_pos hx] at e
    cases e
    obtain ⟨rfl, _⟩ := hx
    refine ⟨_, _, PyProof.Rows.boot_int, .inr ⟨_, rfl⟩, call_int1, fun {al ρ π H st W Q ds vs} S r F => ?_⟩
    obtain ⟨d, v, rfl, r1, F1⟩ := arg1_ok r F
    unfold intP at F1
    split at F1
    · cases r1
      exact .inl ⟨_, rfl, F1.here S (.int _)⟩
    · cases r1
      exact .inr ⟨_, rfl, F1.here S (.int _)⟩
    · exact F1.elim
  rw [if_neg hx] at e
  by_cases hx : x = "repr" ∧ n = 1
  · rw [if_pos hx] at e
    cases e
    obtain ⟨rfl, _⟩ := hx
    refine ⟨_, _, PyProof.Rows.boot_repr, .inl ⟨_, rfl⟩, call_reprQ hg hu, fun {al ρ π H st W Q ds vs} S r F => ?_⟩
    obtain ⟨d, v, rfl, r1, F1⟩ := arg1_ok r F
    obtain ⟨z, e1, F2⟩ := Fin.opt1 F1
    unfold reprD at e1
    split at e1
    · rename_i p hp
      split at e1
      · rename_i hcnd
        cases e1
        exact ⟨v, p, rfl, toPy_ok S _ _ _ _ r1 hp, hcnd.1, hcnd.2.1, hcnd.2.2, toPy_depth _ _ _ hp, F2.here S (.str _)⟩
      · cases e1
    · cases e1
  rw [if_neg hx] at e
  by_cases hx : x = "divmod" ∧ n = 2
  · rw [if_pos hx] at e
    cases e
    obtain ⟨rfl, _⟩ := hx
    refine ⟨_, _, PyProof.Rows.boot_divmod, .inl ⟨_, rfl⟩, call_divmod, fun {al ρ π H st W Q ds vs} S r F => ?_⟩
    obtain ⟨d, v, d2, v2, rfl, r1, r2, F1⟩ := arg2_ok r F
    unfold divmodP at F1
    split at F1
    · cases r1; cases r2
      split at F1
      · rename_i hd
        exact ⟨_, _, rfl, hd, tupRes S (.cons (.int _) (.cons (.int _) .nil)) F1⟩
      · exact F1.elim
    · exact F1.elim
  rw [if_neg hx] at e
  by_cases hx : x = "sum" ∧ n = 1
  · rw [if_pos hx] at e
    cases e
    obtain ⟨rfl, _⟩ := hx
    refine ⟨_, _, PyProof.Rows.boot_sum, .inl ⟨_, rfl⟩, cr_sum hc, fun {al ρ π H st W Q ds vs} S r F => ?_⟩
    obtain ⟨d, v, rfl, r1, F1⟩ := arg1_ok r F
    obtain ⟨ns, e1, F2⟩ := Fin.opt F1
    rw [Option.bind_eq_some_iff] at e1
    obtain ⟨xs, e2, e3⟩ := e1
    obtain ⟨a, vs, rfl, h1, r2⟩ := items_ok S r1 e2
    exact ⟨a, ns, rfl, SqL.of (by rw [h1, ints_rel r2 e3]), F2.here S (.int _)⟩
  rw [if_neg hx] at e
  by_cases hx : x = "all" ∧ n = 1
  · rw [if_pos hx] at e
    cases e
    obtain ⟨rfl, _⟩ := hx
    refine ⟨_, _, by decide +kernel, .inl ⟨_, rfl⟩, cr_all hc, fun {al ρ π H st W Q ds vs} S r F => ?_⟩
    obtain ⟨d, v, rfl, r1, F1⟩ := arg1_ok r F
    obtain ⟨ns, e1, F2⟩ := Fin.opt F1
    rw [Option.bind_eq_some_iff] at e1
    obtain ⟨xs, e2, e3⟩ := e1
    obtain ⟨a, vs, rfl, h1, r2⟩ := items_ok S r1 e2
    exact ⟨a, ns, rfl, SqL.of (by rw [h1, bools_rel r2 e3]), F2.here S (.bl _)⟩
  rw [if_neg hx] at e
  by_cases hx : x = "any" ∧ n = 1
  · rw [if_pos hx] at e
    cases e
    obtain ⟨rfl, _⟩ := hx
    refine ⟨_, _, by decide +kernel, .inl ⟨_, rfl⟩, cr_any hc, fun {al ρ π H st W Q ds vs} S r F => ?_⟩
    obtain ⟨d, v, rfl, r1, F1⟩ := arg1_ok r F
    obtain ⟨ns, e1, F2⟩ := Fin.opt F1
    rw [Option.bind_eq_some_iff] at e1
    obtain ⟨xs, e2, e3⟩ := e1
    obtain ⟨a, vs, rfl, h1, r2⟩ := items_ok S r1 e2
    exact ⟨a, ns, rfl, SqL.of (by rw [h1, bools_rel r2 e3]), F2.here S (.bl _)⟩
  rw [if_neg hx] at e
  by_cases hx : x = "tuple" ∧ n = 1
  · rw [if_pos hx] at e
    cases e
    obtain ⟨rfl, _⟩ := hx
    refine ⟨_, _, PyProof.Rows.boot_tuple, .inr ⟨_, rfl⟩, call_tuple_of, fun {al ρ π H st W Q ds vs} S r F => ?_⟩
    obtain ⟨d, v, rfl, r1, F1⟩ := arg1_ok r F
    unfold tupleP at F1
    split at F1
    · cases r1 with
      | tup h r1 => exact ⟨_, _, rfl, .inr ⟨h, F1.here S (.tup h r1)⟩⟩
    · obtain ⟨xs, e1, F2⟩ := Fin.opt F1
      obtain ⟨a, vs, rfl, h1, r2⟩ := lsOf_ok S r1 e1
      exact ⟨a, vs, rfl, .inl ⟨h1, tupRes S r2 F2⟩⟩
  rw [if_neg hx] at e
  by_cases hx : x = "list" ∧ n = 1
  · rw [if_pos hx] at e
    cases e
    obtain ⟨rfl, _⟩ := hx
    refine ⟨_, _, PyProof.Rows.boot_list, .inr ⟨_, rfl⟩, call_list_of, fun {al ρ π H st W Q ds vs} S r F => ?_⟩
    obtain ⟨d, v, rfl, r1, F1⟩ := arg1_ok r F
    obtain ⟨xs, e1, F2⟩ := Fin.opt F1
    obtain ⟨a, vs, rfl, h1, r2⟩ := seqOf_ok S r1 e1
    exact ⟨a, vs, rfl, h1, newL_ok S r2 F2⟩
  rw [if_neg hx] at e
  cases e
/-- no star among them -/
def noStar (es : List Expr) : Prop := ∀ env : PySem.Env, ∀ pos : Pos, (backTo pos (starEach es env)).any (·.1) = false
theorem pm_pr {al : Bool} {p : Prim} {x : Str} {n : Nat} {q : Pos} (hc : X.calm = true) (hg : X.A.guards = some []) (hu : X.A.units + 64 < cLine) (e0 : primOf x n = some p) (hgl : Gl X x) (hm : X.mg x = none) (h1 : x ≠ "__name__") (h2 : (x == ("__debug__" : Str)) = false)
    (hs : ∀ env : PySem.Env, starEach (e :: es) env = (false, eval e env) :: starEach es env) (hn : noStar es) (ha : PA X (e :: es) (tMs X W rs)) : PE X (.Call (.Name x q) (e :: es) [] pos) (tM X W fun env st => (rs env st).bnd fun ds st => prD al p ds st) := by
  obtain ⟨f, r, hb, hf, hr, hq⟩ := (prim_ok hc hg hu e0).ex
  rcases hf with ⟨id, rfl⟩ | ⟨T, rfl⟩
  · refine (pe_callB hr hgl hm hb ha h1 h2 (hs _) (hn _ _)).imp fun σ H Q h => ?_
    refine tF.bnd h fun ρ π env ds st vs H1 S E rx F => ?_
    exact hq S rx F
  · refine (pe_callTy hr hgl hm hb ha h1 h2 (hs _) (hn _ _)).imp fun σ H Q h => ?_
    refine tF.bnd h fun ρ π env ds st vs H1 S E rx F => ?_
    exact hq S rx F
theorem tyOf_boot {t : Str} {ty : Ty} (e : tyOf t = some ty) : bootBuiltins t = some (.type (tyName ty)) := by
  unfold tyOf at e
  by_cases hx : t = "int"
  · rw [if_pos hx] at e
    cases e
    subst hx
    exact PyProof.Rows.boot_int
  rw [if_neg hx] at e
  by_cases hx : t = "bool"
  · rw [if_pos hx] at e
    cases e
    subst hx
    exact PyProof.Rows.boot_bool
  rw [if_neg hx] at e
  by_cases hx : t = "str"
  · rw [if_pos hx] at e
    cases e
    subst hx
    exact PyProof.Rows.boot_str
  rw [if_neg hx] at e
  by_cases hx : t = "tuple"
  · rw [if_pos hx] at e
    cases e
    subst hx
    exact PyProof.Rows.boot_tuple
  rw [if_neg hx] at e
  by_cases hx : t = "list"
  · rw [if_pos hx] at e
    cases e
    subst hx
    exact PyProof.Rows.boot_list
  rw [if_neg hx] at e
  by_cases hx : t = "dict"
  · rw [if_pos hx] at e
    cases e
    subst hx
    exact PyProof.Rows.boot_dict
  rw [if_neg hx] at e
  cases e
theorem pm_isi {t : Str} {ty : Ty} {q1 q2 : Pos} (hgl : Gl X "isinstance") (hm : X.mg "isinstance" = none) (e0 : tyOf t = some ty) (hgt : Gl X t) (hmt : X.mg t = none) (h1 : t ≠ "__name__") (h2 : (t == ("__debug__" : Str)) = false)
    (hs : ∀ (es : List Expr) (env : PySem.Env), starEach (a :: es) env = (false, eval a env) :: starEach es env) (ha : PE X a (tM X W ra)) :
    PE X (.Call (.Name "isinstance" q1) [a, .Name t q2] [] pos) (tM X W fun env st => (ra env st).bnd fun x st => (opt (isTy ty x st) st).bnd fun k st => .ok (.bl k) st) := by
  refine (pe_callB call_isi hgl hm PyProof.Rows.boot_isinstance (pa_cons ha (pa_cons (pe_bltn (v := .ty (tyName ty)) hgt hmt (tyOf_boot e0) rfl h1 h2) pa_nil) (hs _ _)) (by decide) (by decide) (hs _ _) rfl).imp fun σ H Q h => ?_
  refine tF.bnd h fun ρ π env x st v H1 S E rx F => ?_
  obtain ⟨k, e, F1⟩ := Fin.opt F
  obtain ⟨n, t1, t2⟩ := isTy_ok S rx e
  exact ⟨v, .ty (tyName ty), .type n, .type (tyName ty), k, rfl, .ty _, t1, kit_ty t2, F1.here S (.bl _)⟩
theorem attrBase {o : Expr} {m : Str} {env : PySem.Env} (h : plainObj o = true) : attributeBase o m env (eval o env) = eval o env := by
  cases o <;> first | rfl | cases h
theorem isLst_ok {ρ π : List Addr} {H : Hp} {st : Sto} {x : D} {v : V} (S : SR X.K X.mg ρ π H st) (r : RD X.K X.mg ρ π H x v) (h : isLst x st = true) : tyV X.K "list" v H := by
  unfold isLst at h
  split at h
  · cases r with
    | loc hn =>
      split at h
      · rename_i xs hx
        obtain ⟨vs, h1, r1⟩ := S.atL hn hx
        exact .inl ⟨rfl, vs, SqL.of h1⟩
      · cases h
  · cases h
theorem app_ok {ρ π : List Addr} {H : Hp} {st : Sto} {x y : D} {v u : V} {Wx : XK} {Q : VK} (S : SR X.K X.mg ρ π H st) (rx : RD X.K X.mg ρ π H x v) (ry : RD X.K X.mg ρ π H y u) (F : Fin X.K X.mg (RelD X.K X.mg π) Wx ρ π H (appP x y st) Q) : rAppend v [u] H Q := by
  unfold appP at F
  split at F
  · cases rx with
    | loc hn =>
      split at F
      · rename_i xs hx
        split at F
        · rename_i hz
          obtain ⟨vs, h1, r1⟩ := S.atL hn hx
          refine ⟨_, vs, u, rfl, rfl, h1, by rw [← r1.length, sizeLine_eq]; have : most = 1000000 := rfl; omega, ?_⟩
          exact F _ _ _ (Ext.set hn) (S.set hn (r1.append (.cons ry .nil))) .non
        · exact F.elim
      · exact F.elim
  · exact F.elim
theorem ext_ok {ρ π : List Addr} {H : Hp} {st : Sto} {x y : D} {v u : V} {Wx : XK} {Q : VK} (S : SR X.K X.mg ρ π H st) (rx : RD X.K X.mg ρ π H x v) (ry : RD X.K X.mg ρ π H y u) (F : Fin X.K X.mg (RelD X.K X.mg π) Wx ρ π H (extP x y st) Q) : rExtend v [u] H Q := by
  unfold extP at F
  split at F
  · cases rx with
    | loc hn =>
      split at F
      · rename_i xs ys hx hy
        split at F
        · rename_i hz
          obtain ⟨vs, h1, r1⟩ := S.atL hn hx
          obtain ⟨b, ws, rfl, h2, r2⟩ := items_ok S ry hy
          refine ⟨_, b, vs, ws, rfl, rfl, h1, h2, by rw [← r1.length, ← r2.length]; exact small_le hz, ?_⟩
          exact F _ _ _ (Ext.set hn) (S.set hn (r1.append r2)) .non
        · exact F.elim
      · exact F.elim
  · exact F.elim
theorem pm_app {o : Expr} {apos : Pos} {ro : Env → Sto → Out D} (hp : plainObj o = true) (hl : (apos.endLine == pos.line) = true) (hs : ∀ env : PySem.Env, starEach [a] env = [(false, eval a env)]) (ho : PE X o (tM X W ro)) (ha : PE X a (tM X W ra)) :
    PE X (.Call (.Attribute o "append" apos) [a] [] pos) (tM X W fun env st => (ro env st).bnd fun x st => if isLst x st then (ra env st).bnd fun y st => appP x y st else .bad) := by
  refine (pe_bm PySem.F.plainAttrs_list PySem.F.slot_list_append PySem.F.type_list_append mt_append ho (pa_cons ha pa_nil (hs _)) (attrBase hp) (by rw [hs]; rfl) hl (hs _) rfl).imp fun σ H Q h => ?_
  refine tF.bnd h fun ρ π env x st v H1 S E rx F => ?_
  split at F
  · rename_i hi
    exact ⟨isLst_ok S rx hi, ρ, π, env, st, S, E, F.bnd fun y st1 ρ1 H2 u e x1 S1 ry F1 => app_ok S1 (rx.mono x1 S.muts) ry F1⟩
  · exact F.elim
theorem pm_ext {o : Expr} {apos : Pos} {ro : Env → Sto → Out D} (hp : plainObj o = true) (hl : (apos.endLine == pos.line) = true) (hs : ∀ env : PySem.Env, starEach [a] env = [(false, eval a env)]) (ho : PE X o (tM X W ro)) (ha : PE X a (tM X W ra)) :
    PE X (.Call (.Attribute o "extend" apos) [a] [] pos) (tM X W fun env st => (ro env st).bnd fun x st => if isLst x st then (ra env st).bnd fun y st => extP x y st else .bad) := by
  refine (pe_bm PySem.F.plainAttrs_list PySem.F.slot_list_extend PySem.F.type_list_extend mt_extend ho (pa_cons ha pa_nil (hs _)) (attrBase hp) (by rw [hs]; rfl) hl (hs _) rfl).imp fun σ H Q h => ?_
  refine tF.bnd h fun ρ π env x st v H1 S E rx F => ?_
  split at F
  · rename_i hi
    exact ⟨isLst_ok S rx hi, ρ, π, env, st, S, E, F.bnd fun y st1 ρ1 H2 u e x1 S1 ry F1 => ext_ok S1 (rx.mono x1 S.muts) ry F1⟩
  · exact F.elim
end
end Ev
/-! Calls, targets, walks, comprehensions. -/
namespace Ev
open PySem PySem.Spec PyProof.Rows L2

section
variable {K : PySem.W.Frag} {mg : Str → Option Value} {ρ ρ' π : List Addr} {H H' : Hp} {st : Sto}
mutual
/-- what is held is changed -/
theorem RD.held {p : Addr} {o : HO} (m : IsMut (H p)) : ∀ {d : D} {v : V}, RD K mg ρ (p :: π) H d v → RD K mg ρ (p :: π) (upd H p o) d v
  | _, _, .non => .non
  | _, _, .bl b => .bl b
  | _, _, .int i => .int i
  | _, _, .str z => .str z
  | _, _, .tup h r => .tup (by
      rcases h with h | h
      · rcases h with h | ⟨u, h⟩
        · refine .inl (.inl ?_)
          rw [upd_ne (fun z => by rw [z] at h; rcases m with ⟨_, e⟩ | ⟨_, e⟩ <;> rw [h] at e <;> cases e)]
          exact h
        · refine .inl (.inr ⟨u, ?_⟩)
          rw [upd_ne (fun z => by rw [z] at h; rcases m with ⟨_, e⟩ | ⟨_, e⟩ <;> rw [h] at e <;> cases e)]
          exact h
      · exact .inr h) (RDs.held m r)
  | _, _, .lst h n q r => .lst (by rw [upd_ne (fun z => q (by rw [z]; exact List.mem_cons_self))]; exact h) n q (RDs.held m r)
  | _, _, .dct h n q e r => .dct (by rw [upd_ne (fun z => q (by rw [z]; exact List.mem_cons_self))]; exact h) n q e (RDs.held m r)
  | _, _, .ro h => .ro (by
      rcases h with ⟨u, h⟩ | h
      · refine .inl ⟨u, ?_⟩
        rw [upd_ne (fun z => by rw [z] at h; rcases m with ⟨_, e⟩ | ⟨_, e⟩ <;> rw [h] at e <;> cases e)]
        exact h
      · exact .inr h)
  | _, _, .loc h => .loc h
  | _, _, .fn h => .fn h
theorem RDs.held {p : Addr} {o : HO} (m : IsMut (H p)) : ∀ {ds : List D} {vs : List V}, RDs K mg ρ (p :: π) H ds vs → RDs K mg ρ (p :: π) (upd H p o) ds vs
  | _, _, .nil => .nil
  | _, _, .cons h t => .cons (RD.held m h) (RDs.held m t)
end
theorem SR.held {p : Addr} {o : HO} (s : SR K mg ρ (p :: π) H st) (m : IsMut (H p)) : SR K mg ρ (p :: π) (upd H p o) st := by
  have np : p ∉ ρ := (s.pi p List.mem_cons_self).1
  refine ⟨s.len, s.nd, fun n a u e1 e2 => ?_, fun b hb => ⟨(s.pi b hb).1, ?_⟩⟩
  · have ha : a ≠ p := fun z => np (z ▸ List.mem_of_getElem? e1)
    cases s.ob n a u e1 e2 with
    | lst h1 r => exact .lst (by rw [upd_ne ha]; exact h1) (r.held m)
    | dct h1 k r => exact .dct (by rw [upd_ne ha]; exact h1) k (r.held m)
  · by_cases hb' : b = p
    · rw [hb', upd_same]; exact fun z => nomatch z
    · rw [upd_ne hb']; exact (s.pi b hb).2
theorem RE.held {p : Addr} {o : HO} {env : Env} {σ : L2.St} (h : RE K mg ρ (p :: π) H env σ) (m : IsMut (H p)) : RE K mg ρ (p :: π) (upd H p o) env σ :=
  ⟨h.1, fun i d e => let ⟨v, e1, r⟩ := h.2 i d e; ⟨v, e1, r.held m⟩⟩
theorem Ext.held {ρ0 : List Addr} {H0 : Hp} {p : Addr} {o : HO} (x : Ext ρ0 H0 ρ H) (h : H0 p = none) : Ext ρ0 H0 ρ (upd H p o) :=
  ⟨x.pre, fun b u n e => by rw [upd_ne (ne_of_none e h)]; exact x.keep b u n e⟩
/-- a list that was held is handed out -/
theorem newHeld {ρ0 : List Addr} {H0 : Hp} {al : Bool} {p : Addr} {W : XK} {Q : VK} {xs : List D} {vs : List V} (s : SR K mg ρ (p :: π) H st) (hp : p ∉ π) (h0 : H0 p = none) (n0 : p ∉ ρ0) (x : Ext ρ0 H0 ρ H) (e : H p = some (.lst vs)) (r : RDs K mg ρ (p :: π) H xs vs)
    (h : Fin K mg (RelD K mg π) W ρ0 π H0 (newL al xs st) Q) : Q (.ref p) H := by
  have np : p ∉ ρ := (s.pi p List.mem_cons_self).1
  cases al with
  | false => exact h ρ H _ x s.less (.lst e np hp r.less)
  | true =>
    have x2 : Ext ρ0 H0 (ρ ++ [p]) H := by
      obtain ⟨τ, e1, q⟩ := x.pre
      refine ⟨⟨τ ++ [p], by rw [e1, List.append_assoc], fun b hb => ?_⟩, x.keep⟩
      rcases List.mem_append.mp hb with hb | hb
      · exact q b hb
      · rw [List.mem_singleton.mp hb]
        exact ⟨n0, h0⟩
    refine h (ρ ++ [p]) H _ x2 (s.push hp (.lst e r)) (.loc ?_)
    rw [List.getElem?_append_right (by rw [s.len]; exact Nat.le_refl _), s.len]
    simp
end

/-! ### calls -/
section
variable {X : Cx} {W : WX} {k : Nat} {C : Cal} {pats : List (Nat × List Str)} {x : Str} {f : Addr} {e : Expr} {es : List Expr} {pos : Pos} {rs rw : Env → Sto → Out (List D)}
theorem call_vals (F : Callee X.prog X.w X.K X.mg X.base k C pats x f) (hr : Room k X.A) (hg : X.A.guards = some []) (tk : Takes X W) {pins : List (Addr × Obj)} {σ : L2.St} {H : Hp} {s : Shared} (I : L2.Inv X pins σ H s) {ks : List Str} {us ws : List Value} {vs zs : List V} {Q : VK}
    {ρ π : List Addr} {st : Sto} {ds es : List D} (S : SR X.K X.mg ρ π H st) (r1 : RDs X.K X.mg ρ π H ds vs) (r2 : RDs X.K X.mg ρ π H es zs) (q1 : Vals vs us) (q2 : Vals zs ws) (hk : ks = [] ∧ es = [] ∨ (ds.length, ks) ∈ pats ∧ es.length = ks.length)
    (h : Fin X.K X.mg (RelD X.K X.mg π) (fun c d H => W c d σ H) ρ π H (callC C x ks (ds ++ es) st) Q) : wpAny (model X.prog X.w) X.A (call (.ref f) us (ks.zip ws)) (EP X pins σ Q) X.xe s := by
  unfold callC at h
  split at h
  · rename_i ds' hp
    exact run_callee F hr hg tk I S r1 r2 q1 q2 hk hp h
  · exact h.elim
/-- the function of a call: a global def -/
theorem pm_call (F : Callee X.prog X.w X.K X.mg X.base k C pats x f) (hr : Room k X.A) (hg : X.A.guards = some []) (tk : Takes X W) (hgl : Gl X x) (h2 : (x == ("__debug__" : Str)) = false) {q : Pos}
    (hs : ∀ env : PySem.Env, starEach (e :: es) env = (false, eval e env) :: starEach es env) (hn : noStar es) (ha : PA X (e :: es) (tMs X W rs)) :
    PE X (.Call (.Name x q) (e :: es) [] pos) (tM X W fun env st => (rs env st).bnd fun ds st => callC C x [] ds st) := by
  refine ⟨fun pins s σ H Q I h => ?_⟩
  refine wpAny_Call_Name_kw (ld_glob I hgl F.at_ ?_ h2)
  have h' := tF.bnd (P := fun vs H1 => ∃ ρ π st ds, SR X.K X.mg ρ π H1 st ∧ RDs X.K X.mg ρ π H1 ds vs ∧ Fin X.K X.mg (RelD X.K X.mg π) (fun c d H => W c d σ H) ρ π H1 (callC C x [] ds st) Q) h fun ρ π env ds st vs H1 S E rx F1 => ⟨ρ, π, st, ds, S, rx, F1⟩
  refine PySem.W.callWith_K (h₀ := X.base) I.ok.mod.kin F.kp (thn (ha.run pos pins s σ H _ I h') fun us s1 ⟨vs, H1, I1, r, ρ, π, st, ds, S, rd, F1⟩ => ⟨I1.kIn, ?_⟩) (hs _) (hn _ _)
  exact call_vals F hr hg tk I1 (ks := []) (us := us) (ws := []) S rd .nil r .nil (.inl ⟨rfl, rfl⟩) (by rw [List.append_nil]; exact F1)
theorem callk_core {kws : List Keyword} {ks : List Str} (F : Callee X.prog X.w X.K X.mg X.base k C pats x f) (hr : Room k X.A) (hg : X.A.guards = some []) (tk : Takes X W) {args : List Expr}
    (hall : ∀ (env : PySem.Env) (pos : Pos), (backToKw pos (keywordEach kws env)).all (·.1.isSome) = true) (hks : ∀ (env : PySem.Env) (pos : Pos), (backToKw pos (keywordEach kws env)).filterMap (·.1) = ks)
    (hs : (args = [] ∧ ∀ env st, rs env st = .ok [] st) ∨ ∃ e es, args = e :: es ∧ (∀ env : PySem.Env, starEach (e :: es) env = (false, eval e env) :: starEach es env)) (hn : noStar args) (hp : (args.length, ks) ∈ pats) (hl : kws.length = ks.length)
    (hl1 : ∀ env st ds st', rs env st = .ok ds st' → ds.length = args.length) (hl2 : ∀ env st ds st', rw env st = .ok ds st' → ds.length = kws.length)
    (ha : PA X args (tMs X W rs)) (hkw : PK X kws (tMs X W rw)) {pins : List (Addr × Obj)} {s : Shared} {σ : L2.St} {H : Hp} {Q : VK} (I : L2.Inv X pins σ H s) {ρ0 π : List Addr} {env : Env} {st0 : Sto} (S0 : SR X.K X.mg ρ0 π H st0) (E0 : RE X.K X.mg ρ0 π H env σ)
    (F0 : Fin X.K X.mg (RelD X.K X.mg π) (fun c d H => W c d σ H) ρ0 π H ((rs env st0).bnd fun ds st => (rw env st).bnd fun zs st => callC C x ks (ds ++ zs) st) Q) :
    wpAny (model X.prog X.w) X.A (callWith pos (.ref f) [] (backTo pos (starEach args X.env)) (backToKw pos (keywordEach kws X.env))) (EP X pins σ Q) X.xe s := by
  have hnone : ∀ (env : PySem.Env) (pos : Pos), (backToKw pos (keywordEach kws env)).any (·.1.isNone) = false := fun env pos => by
    have h1 := hall env pos
    rw [List.any_eq_false]
    intro y hy
    have h2 := List.all_eq_true.mp h1 y hy
    cases hh : y.1 with
    | none => rw [hh] at h2; cases h2
    | some z => simp
  have core : ∀ {s1 : Shared} {H1 : Hp} {us : List Value} {vs : List V} {ρ1 : List Addr} {st1 : Sto} {ds : List D}, L2.Inv X pins σ H1 s1 → Vals vs us → Ext ρ0 H ρ1 H1 → SR X.K X.mg ρ1 π H1 st1 → RDs X.K X.mg ρ1 π H1 ds vs → ds.length = args.length →
      Fin X.K X.mg (RelD X.K X.mg π) (fun c d H => W c d σ H) ρ1 π H1 ((rw env st1).bnd fun zs st => callC C x ks (ds ++ zs) st) Q →
      wpAny (model X.prog X.w) X.A (evalAll ((backToKw pos (keywordEach kws X.env)).map (·.2))) (fun kv s₂ => X.K.In s₂.heap ∧ wpAny (model X.prog X.w) X.A (call (.ref f) ([] ++ us) (((backToKw pos (keywordEach kws X.env)).filterMap (·.1)).zip kv)) (EP X pins σ Q) X.xe s₂) X.xe s1 := by
    intro s1 H1 us vs ρ1 st1 ds I1 rv x1 S1 rd hld F1
    have h1 : tMs X W rw σ H1 (fun zs H2 => ∃ ρ2 st2 es, Ext ρ1 H1 ρ2 H2 ∧ SR X.K X.mg ρ2 π H2 st2 ∧ RDs X.K X.mg ρ2 π H2 es zs ∧ es.length = kws.length ∧ Fin X.K X.mg (RelD X.K X.mg π) (fun c d H => W c d σ H) ρ2 π H2 (callC C x ks (ds ++ es) st2) Q) :=
      ⟨ρ1, π, env, st1, S1, E0.mono x1 S0.muts, F1.bnd fun zs st2 ρ2 H2 ws e2 x2 S2 r2 F2 => ⟨ρ2, st2, zs, x2, S2, r2, hl2 _ _ _ _ e2, F2⟩⟩
    refine thn (hkw.run pos pins s1 σ H1 _ I1 h1) fun kv s2 ⟨zs, H2, I2, rz, ρ2, st2, es2, x2, S2, r2, hle, F2⟩ => ⟨I2.kIn, ?_⟩
    rw [hks, List.nil_append]
    exact call_vals F hr hg tk I2 S2 (rd.mono x2 S1.muts) r2 rv rz (.inr ⟨by rw [hld]; exact hp, by rw [hle, hl]⟩) F2
  rcases hs with ⟨rfl, hz⟩ | ⟨e, es, rfl, hs⟩
  · rw [hz] at F0
    refine PySem.W.callWith_KW0 (h₀ := X.base) I.ok.mod.kin F.kp (hall _ _) ?_ (by rw [hn, hnone]; rfl)
    exact core I .nil (Ext.refl ρ0 H) S0 .nil rfl F0
  · have h' : tMs X W rs σ H (fun vs H1 => ∃ ρ1 st1 ds, Ext ρ0 H ρ1 H1 ∧ SR X.K X.mg ρ1 π H1 st1 ∧ RDs X.K X.mg ρ1 π H1 ds vs ∧ ds.length = (e :: es).length ∧ Fin X.K X.mg (RelD X.K X.mg π) (fun c d H => W c d σ H) ρ1 π H1 ((rw env st1).bnd fun zs st => callC C x ks (ds ++ zs) st) Q) :=
      ⟨ρ0, π, env, st0, S0, E0, F0.bnd fun ds st1 ρ1 H1 vs e1 x1 S1 r1 F1 => ⟨ρ1, st1, ds, x1, S1, r1, hl1 _ _ _ _ e1, F1⟩⟩
    refine PySem.W.callWith_KW (h₀ := X.base) I.ok.mod.kin F.kp (hall _ _) (thn (ha.run pos pins s σ H _ I h') fun us s1 ⟨vs, H1, I1, r, ρ1, st1, ds, x1, S1, rd, hld, F1⟩ => core I1 r x1 S1 rd hld F1) (by rw [hn, hnone]; rfl) (hs _)
/-- .. with keywords -/
theorem pm_callk {kws : List Keyword} {ks : List Str} (F : Callee X.prog X.w X.K X.mg X.base k C pats x f) (hr : Room k X.A) (hg : X.A.guards = some []) (tk : Takes X W) (hgl : Gl X x) (h2 : (x == ("__debug__" : Str)) = false) {q : Pos} {args : List Expr}
    (hall : ∀ (env : PySem.Env) (pos : Pos), (backToKw pos (keywordEach kws env)).all (·.1.isSome) = true) (hks : ∀ (env : PySem.Env) (pos : Pos), (backToKw pos (keywordEach kws env)).filterMap (·.1) = ks)
    (hs : (args = [] ∧ ∀ env st, rs env st = .ok [] st) ∨ ∃ e es, args = e :: es ∧ (∀ env : PySem.Env, starEach (e :: es) env = (false, eval e env) :: starEach es env)) (hn : noStar args) (hp : (args.length, ks) ∈ pats) (hl : kws.length = ks.length)
    (hl1 : ∀ env st ds st', rs env st = .ok ds st' → ds.length = args.length) (hl2 : ∀ env st ds st', rw env st = .ok ds st' → ds.length = kws.length)
    (ha : PA X args (tMs X W rs)) (hkw : PK X kws (tMs X W rw)) :
    PE X (.Call (.Name x q) args kws pos) (tM X W fun env st => (rs env st).bnd fun ds st => (rw env st).bnd fun zs st => callC C x ks (ds ++ zs) st) := by
  refine ⟨fun pins s σ H Q I h => ?_⟩
  refine wpAny_Call_Name_kw (ld_glob I hgl F.at_ ?_ h2)
  obtain ⟨ρ0, π, env, st0, S0, E0, F0⟩ := h
  exact callk_core F hr hg tk hall hks hs hn hp hl hl1 hl2 ha hkw I S0 E0 F0
/-- .. of a local name -/
theorem pm_callv {i : Nat} {T : List Str} (F : ∀ y ∈ T, ∃ f, Callee X.prog X.w X.K X.mg X.base k C pats y f) (hr : Room k X.A) (hg : X.A.guards = some []) (tk : Takes X W)
    (hN : X.N[i]? = some x) (hv : Vis X.env.scope x) (h2 : (x == ("__debug__" : Str)) = false) (h3 : (x == ("__classdict__" : Str)) = false) {q : Pos}
    (hs : ∀ env : PySem.Env, starEach (e :: es) env = (false, eval e env) :: starEach es env) (hn : noStar es) (ha : PA X (e :: es) (tMs X W rs)) :
    PE X (.Call (.Name x q) (e :: es) [] pos) (tM X W fun env st => match env[i]? with
      | some (some (.fn g)) => if T.contains g then (rs env st).bnd fun ds st => callC C g [] ds st else .bad
      | _ => .bad) := by
  refine ⟨fun pins s σ H Q I h => ?_⟩
  obtain ⟨ρ0, π, env, st0, S0, E0, F0⟩ := h
  dsimp only at F0
  split at F0
  · rename_i g hgi
    split at F0
    · rename_i hg2
      obtain ⟨f, Fc⟩ := F g (List.contains_iff_mem.mp hg2)
      obtain ⟨v, e1, r⟩ := E0.2 i _ hgi
      cases r with
      | fn hm =>
        rename_i a
        have ea : Value.ref a = Value.ref f := Option.some.inj (hm.symm.trans Fc.at_)
        have ea' : a = f := by cases ea; rfl
        subst ea'
        refine wpAny_Call_Name_kw (thn ((pe_var (pos := q) hN hv h2 h3).run pins s σ H (fun v H1 => v = .ref a ∧ H1 = H) I ⟨_, e1, rfl, rfl⟩) fun u s1 ⟨v, H1, I1, r1, e2, e3⟩ => ?_)
        subst e2
        subst e3
        cases r1
        have h' : tMs X W rs σ H1 (fun vs H2 => ∃ ρ st ds, SR X.K X.mg ρ π H2 st ∧ RDs X.K X.mg ρ π H2 ds vs ∧ Fin X.K X.mg (RelD X.K X.mg π) (fun c d H => W c d σ H) ρ π H2 (callC C g [] ds st) Q) :=
          ⟨ρ0, π, env, st0, S0, E0, F0.bnd fun ds st1 ρ1 H2 vs e1 x1 S1 r1 F1 => ⟨ρ1, st1, ds, S1, r1, F1⟩⟩
        refine PySem.W.callWith_K (h₀ := X.base) I1.ok.mod.kin Fc.kp (thn (ha.run pos pins s1 σ H1 _ I1 h') fun us s2 ⟨vs, H2, I2, r, ρ, st, ds, S, rd, F1⟩ => ⟨I2.kIn, ?_⟩) (hs _) (hn _ _)
        exact call_vals Fc hr hg tk I2 (ks := []) (us := us) (ws := []) S rd .nil r .nil (.inl ⟨rfl, rfl⟩) (by rw [List.append_nil]; exact F1)
    · exact F0.elim
  · exact F0.elim
/-- .. with keywords -/
theorem pm_callvk {i : Nat} {T : List Str} {kws : List Keyword} {ks : List Str} (F : ∀ y ∈ T, ∃ f, Callee X.prog X.w X.K X.mg X.base k C pats y f) (hr : Room k X.A) (hg : X.A.guards = some []) (tk : Takes X W)
    (hN : X.N[i]? = some x) (hv : Vis X.env.scope x) (h2 : (x == ("__debug__" : Str)) = false) (h3 : (x == ("__classdict__" : Str)) = false) {q : Pos} {args : List Expr}
    (hall : ∀ (env : PySem.Env) (pos : Pos), (backToKw pos (keywordEach kws env)).all (·.1.isSome) = true) (hks : ∀ (env : PySem.Env) (pos : Pos), (backToKw pos (keywordEach kws env)).filterMap (·.1) = ks)
    (hs : (args = [] ∧ ∀ env st, rs env st = .ok [] st) ∨ ∃ e es, args = e :: es ∧ (∀ env : PySem.Env, starEach (e :: es) env = (false, eval e env) :: starEach es env)) (hn : noStar args) (hp : (args.length, ks) ∈ pats) (hl : kws.length = ks.length)
    (hl1 : ∀ env st ds st', rs env st = .ok ds st' → ds.length = args.length) (hl2 : ∀ env st ds st', rw env st = .ok ds st' → ds.length = kws.length)
    (ha : PA X args (tMs X W rs)) (hkw : PK X kws (tMs X W rw)) :
    PE X (.Call (.Name x q) args kws pos) (tM X W fun env st => match env[i]? with
      | some (some (.fn g)) => if T.contains g then (rs env st).bnd fun ds st => (rw env st).bnd fun zs st => callC C g ks (ds ++ zs) st else .bad
      | _ => .bad) := by
  refine ⟨fun pins s σ H Q I h => ?_⟩
  obtain ⟨ρ0, π, env, st0, S0, E0, F0⟩ := h
  dsimp only at F0
  split at F0
  · rename_i g hgi
    split at F0
    · rename_i hg2
      obtain ⟨f, Fc⟩ := F g (List.contains_iff_mem.mp hg2)
      obtain ⟨v, e1, r⟩ := E0.2 i _ hgi
      cases r with
      | fn hm =>
        rename_i a
        have ea : Value.ref a = Value.ref f := Option.some.inj (hm.symm.trans Fc.at_)
        have ea' : a = f := by cases ea; rfl
        subst ea'
        refine wpAny_Call_Name_kw (thn ((pe_var (pos := q) hN hv h2 h3).run pins s σ H (fun v H1 => v = .ref a ∧ H1 = H) I ⟨_, e1, rfl, rfl⟩) fun u s1 ⟨v, H1, I1, r1, e2, e3⟩ => ?_)
        subst e2
        subst e3
        cases r1
        exact callk_core Fc hr hg tk hall hks hs hn hp hl hl1 hl2 ha hkw I1 S0 E0 F0
    · exact F0.elim
  · exact F0.elim
end
end Ev
/-! Dict displays, targets, walks, comprehensions. -/
namespace Ev
open PySem PySem.Spec PyProof.Rows L2

/-! ### dict displays -/
section
variable {X : Cx} {W : WX} {pos : Pos}
theorem zip_fst {α β : Type} : ∀ {ks : List α} {vs : List β}, ks.length = vs.length → (ks.zip vs).map (·.1) = ks
  | [], [], _ => rfl
  | k :: ks, v :: vs, h => by
    rw [List.zip_cons_cons, List.map_cons, zip_fst (by simpa using h)]
theorem zip_snd {α β : Type} : ∀ {ks : List α} {vs : List β}, ks.length = vs.length → (ks.zip vs).map (·.2) = vs
  | [], [], _ => rfl
  | k :: ks, v :: vs, h => by
    rw [List.zip_cons_cons, List.map_cons, zip_snd (by simpa using h)]
theorem mergeK_new : ∀ {kvs acc : List (Key × V)}, ((acc ++ kvs).map (·.1)).Nodup → mergeK acc kvs = acc ++ kvs
  | [], acc, _ => by
    rw [List.append_nil]
    rfl
  | (k, v) :: r, acc, h => by
    have h1 : putK acc k v = acc ++ [(k, v)] := by
      unfold putK
      rw [if_neg]
      intro z
      rw [List.any_eq_true] at z
      obtain ⟨y, hy, e⟩ := z
      have e' : y.1 = k := of_decide_eq_true e
      rw [List.map_append, List.map_cons] at h
      have h2 := (List.nodup_append.mp h).2.2 y.1 (List.mem_map_of_mem hy) k List.mem_cons_self
      exact h2 e'
    have h3 : mergeK acc ((k, v) :: r) = mergeK (putK acc k v) r := rfl
    rw [h3, h1, mergeK_new (by rw [List.append_assoc]; exact h), List.append_assoc]
    rfl
theorem newDct_held {K : PySem.W.Frag} {mg : Str → Option Value} {ρ ρ0 π : List Addr} {H H0 : Hp} {st : Sto} {al : Bool} {p : Addr} {Wx : XK} {Q : VK} {ks : List Key} {xs : List D} {vs : List V} (s : SR K mg ρ (p :: π) H st) (hp : p ∉ π) (h0 : H0 p = none) (n0 : p ∉ ρ0) (x : Ext ρ0 H0 ρ H)
    (e : IsMut (H p)) (r : RDs K mg ρ (p :: π) H xs vs) (hl : ks.length = xs.length) (h : Fin K mg (RelD K mg π) Wx ρ0 π H0 (newDct al ks xs st) Q) : Q (.ref p) (upd H p (.dK (ks.zip vs))) := by
  have s1 := s.held (o := .dK (ks.zip vs)) e
  have r1 := r.held (o := .dK (ks.zip vs)) e
  have x1 : Ext ρ0 H0 ρ (upd H p (.dK (ks.zip vs))) := x.held h0
  have np : p ∉ ρ := (s.pi p List.mem_cons_self).1
  have hl2 : ks.length = vs.length := by rw [hl, r.length]
  cases al with
  | false => exact h ρ _ _ x1 s1.less (.dct upd_same np hp (zip_fst hl2) (by rw [zip_snd hl2]; exact r1.less))
  | true =>
    have x2 : Ext ρ0 H0 (ρ ++ [p]) (upd H p (.dK (ks.zip vs))) := by
      obtain ⟨τ, e1, q⟩ := x1.pre
      refine ⟨⟨τ ++ [p], by rw [e1, List.append_assoc], fun b hb => ?_⟩, x1.keep⟩
      rcases List.mem_append.mp hb with hb | hb
      · exact q b hb
      · rw [List.mem_singleton.mp hb]
        exact ⟨n0, h0⟩
    refine h (ρ ++ [p]) _ _ x2 (s1.push hp (.dct upd_same (zip_fst hl2) (by rw [zip_snd hl2]; exact r1))) (.loc ?_)
    rw [List.getElem?_append_right (by rw [s.len]; exact Nat.le_refl _), s.len]
    simp
/-- the values of a display, one after another -/
inductive Each (X : Cx) (W : WX) : List Expr → List (Env → Sto → Out D) → Prop
  | nil : Each X W [] []
  | cons {e : Expr} {es : List Expr} {r : Env → Sto → Out D} {rs : List (Env → Sto → Out D)} (h : PE X e (tM X W r)) (t : Each X W es rs) : Each X W (e :: es) (r :: rs)
def seqR : List (Env → Sto → Out D) → Env → Sto → Out (List D)
  | [], _, st => .ok [] st
  | r :: rs, env, st => (r env st).bnd fun d st => (seqR rs env st).bnd fun ds st => .ok (d :: ds) st
theorem keysOf_pps : ∀ {ks : List (Option Expr)} {kk : List Key} {es : List Expr} {rs : List (Env → Sto → Out D)}, keysOf ks = some kk → Each X W es rs → kk.length = es.length →
    ∃ trs : List (TE × TE), PPs X pos ks es trs ∧ ks.all (·.isSome) = true ∧ ks.length = es.length ∧
      ∀ {σ : L2.St} {H : Hp} {Q : List (V × V) → Hp → Prop} {ρ π : List Addr} {env : Env} {st : Sto}, SR X.K X.mg ρ π H st → RE X.K X.mg ρ π H env σ →
        Fin X.K X.mg (RelDs X.K X.mg π) (fun c d H => W c d σ H) ρ π H (seqR rs env st) (fun vs H => Q ((kk.map kV).zip vs) H) → tPairs trs σ H Q
  | [], _, _, _, e, each, hl => by
    cases e
    cases each with
    | nil => exact ⟨[], pps_nil, rfl, rfl, fun S E F => F.here S .nil⟩
    | cons h t => cases hl
  | o :: ks, _, _, _, e, each, hl => by
    have key : ∀ {k : Key} {kk' : List Key} {ek : Expr}, o = some ek → PE X ek (tC (kV k)) → keysOf ks = some kk' → ∀ {es : List Expr} {rs : List (Env → Sto → Out D)}, Each X W es rs → (k :: kk').length = es.length →
        ∃ trs : List (TE × TE), PPs X pos (o :: ks) es trs ∧ (o :: ks).all (·.isSome) = true ∧ (o :: ks).length = es.length ∧
          ∀ {σ : L2.St} {H : Hp} {Q : List (V × V) → Hp → Prop} {ρ π : List Addr} {env : Env} {st : Sto}, SR X.K X.mg ρ π H st → RE X.K X.mg ρ π H env σ →
            Fin X.K X.mg (RelDs X.K X.mg π) (fun c d H => W c d σ H) ρ π H (seqR rs env st) (fun vs H => Q (((k :: kk').map kV).zip vs) H) → tPairs trs σ H Q := by
      intro k kk' ek eo hk ek' es rs each hl
      subst eo
      cases each with
      | nil => cases hl
      | cons h t =>
        obtain ⟨trs, p1, p2, p3, p4⟩ := keysOf_pps ek' t (by simpa using hl)
        refine ⟨_, pps_cons hk h p1, by rw [List.all_cons, p2]; rfl, by rw [List.length_cons, List.length_cons, p3], fun {σ H Q ρ π env st} S E F => ?_⟩
        refine ⟨ρ, π, env, st, S, E, F.bnd fun d st1 ρ1 H1 v e1 x1 S1 r1 F1 => ?_⟩
        refine p4 S1 (E.mono x1 S.muts) (F1.bnd fun ds st2 ρ2 H2 vs e2 x2 S2 r2 F2 => ?_)
        exact F2.here S2 (.cons (r1.mono x2 S1.muts) r2)
    cases o with
    | none => cases e
    | some ek =>
      unfold keysOf at e
      split at e
      · cases ‹_ :: _ = []›
      · rename_i i j p r heq
        injection heq with h1 h2
        injection h1 with h1
        subst h1 h2
        rw [Option.map_eq_some_iff] at e
        obtain ⟨kk', e1, rfl⟩ := e
        exact key rfl pe_int e1 each hl
      · rename_i i j p r heq
        injection heq with h1 h2
        injection h1 with h1
        subst h1 h2
        rw [Option.map_eq_some_iff] at e
        obtain ⟨kk', e1, rfl⟩ := e
        exact key rfl pe_str e1 each hl
      · cases e
theorem zip_kv : ∀ {kk : List Key} {vs : List V}, kk.length = vs.length → (kk.map kV).zip vs = (kk.zip vs).map fun kv => (kV kv.1, kv.2)
  | [], [], _ => rfl
  | k :: kk, v :: vs, h => by rw [List.map_cons, List.zip_cons_cons, List.zip_cons_cons, List.map_cons, zip_kv (by simpa using h)]
theorem pm_dct0 {al : Bool} : PE X (.Dict [] [] pos) (tM X W fun env st => newDct al [] [] st) := by
  refine pe_dnewK.imp fun σ H Q ⟨ρ, π, env, st, S, E, F⟩ => ?_
  intro p hp
  have hn := S.fresh hp
  have h := newDct_held (S.more (o := .dK []) hp) hn.2 hp hn.1 (Ext.new hp) (.inr ⟨_, upd_same⟩) .nil (ks := []) rfl F
  rw [upd_upd] at h
  exact h
theorem pm_dct {al : Bool} {ks : List (Option Expr)} {kk : List Key} {es : List Expr} {rs : List (Env → Sto → Out D)} (hk : keysOf ks = some kk) (each : Each X W es rs) (hl : kk.length = es.length) (h0 : ks ≠ []) (h15 : ks.length ≤ 15) :
    PE X (.Dict ks es pos) (tM X W fun env st => (seqR rs env st).bnd fun ds st => if kk.length = ds.length ∧ kk.Nodup ∧ kk.length ≤ 15 then newDct al kk ds st else .bad) := by
  obtain ⟨trs, p1, p2, p3, p4⟩ := keysOf_pps (pos := pos) hk each hl
  have core : ∀ {σ : L2.St} {H : Hp} {Q : VK}, tM X W (fun env st => (seqR rs env st).bnd fun ds st => if kk.length = ds.length ∧ kk.Nodup ∧ kk.length ≤ 15 then newDct al kk ds st else .bad) σ H Q → ∀ p, H p = none → tPairs trs σ (upd H p (.dK [])) fun ps H2 => H2 p = some (.dK []) ∧ ∃ kvs : List (Key × V), ps = kvs.map (fun kv => (kV kv.1, kv.2)) ∧ kvs.length ≤ 15 ∧ Q (.ref p) (upd H2 p (.dK (mergeK [] kvs))) := by
    intro σ H Q h p hp
    obtain ⟨ρ, π, env, st, S, E, F⟩ := h
    dsimp only at F
    have hn := S.fresh hp
    have S1 : SR X.K X.mg ρ (p :: π) (upd H p (.dK [])) st := S.more hp
    refine p4 S1 (E.more S.muts hp) ?_
    cases hseq : seqR rs env st with
    | bad => rw [hseq] at F; exact F
    | ex c v s' =>
      rw [hseq] at F
      intro ρ' H' Cc da v' x S' hm hd r
      refine F ρ' H' Cc da v' ⟨x.pre.imp fun τ z => ⟨z.1, fun b hb => ⟨(z.2 b hb).1, ?_⟩⟩, fun b o nb e => x.keep b o nb (by rw [upd_ne (ne_of_none e hp)]; exact e)⟩ S'.less hm hd r.less
      have := (z.2 b hb).2
      by_cases hb' : b = p
      · rw [hb']; exact hp
      · rw [upd_ne hb'] at this; exact this
    | ok ds st1 =>
      rw [hseq] at F
      intro ρ' H' vs x S' r
      have xx : Ext ρ H ρ' H' := ⟨x.pre.imp fun τ z => ⟨z.1, fun b hb => ⟨(z.2 b hb).1, by
        have := (z.2 b hb).2
        by_cases hb' : b = p
        · rw [hb']; exact hp
        · rw [upd_ne hb'] at this; exact this⟩⟩, fun b o nb e => x.keep b o nb (by rw [upd_ne (ne_of_none e hp)]; exact e)⟩
      have hH : H' p = some (.dK []) := x.keep p _ hn.1 upd_same
      simp only [Out.bnd] at F
      split at F
      · rename_i hc
        have hl2 : kk.length = vs.length := by rw [hc.1, r.length]
        refine ⟨hH, kk.zip vs, ?_, by rw [List.length_zip]; omega, ?_⟩
        · exact zip_kv hl2
        · have hm : mergeK [] (kk.zip vs) = kk.zip vs := by
            have := mergeK_new (kvs := kk.zip vs) (acc := []) (by rw [List.nil_append, zip_fst hl2]; exact hc.2.1)
            rw [this]
            rfl
          rw [hm]
          exact newDct_held S' hn.2 hp hn.1 xx (.inr ⟨_, hH⟩) r hc.1 F
      · exact F.elim
  exact (pe_disp p1 p2 p3 h0 h15).imp fun σ H Q h => core h
end

/-! ### targets -/
mutual
/-- the slots that a target stores to -/
def slotsT : TN → List Nat
  | .n i => [i]
  | .t ts => slotsTs ts
def slotsTs : List TN → List Nat
  | [] => []
  | t :: ts => slotsT t ++ slotsTs ts
end
theorem wipe_set {v : Option V} {i : Nat} : ∀ {vs : List Nat} {σ : L2.St}, i ∈ vs → wipe (σ.set i v) vs = wipe σ vs
  | j :: vs, σ, h => by
    unfold wipe
    by_cases hj : i ∈ vs
    · rw [wipe_set hj]
    · have e : i = j := by
        rcases List.mem_cons.mp h with e | e
        · exact e
        · exact absurd e hj
      subst e
      have : ∀ (ws : List Nat) (τ : L2.St), i ∉ ws → wipe (τ.set i v) ws = (wipe τ ws).set i v := by
        intro ws
        induction ws with
        | nil => intro τ _; rfl
        | cons w ws ih =>
          intro τ hw
          unfold wipe
          rw [ih τ (fun z => hw (List.mem_cons_of_mem _ z)), List.set_comm _ _ (fun z => hw (by rw [z]; exact List.mem_cons_self))]
      rw [this vs σ hj, List.set_set]
/-- a target's reading -/
def tG (X : Cx) (t : TN) : TG := fun v σ H Q => ∃ ρ π st env d, SR X.K X.mg ρ π H st ∧ RE X.K X.mg ρ π H env σ ∧ RD X.K X.mg ρ π H d v ∧ ∃ env', setT t d env = some env' ∧
  ∀ σ', RE X.K X.mg ρ π H env' σ' → (∀ vs, (∀ i ∈ slotsT t, i ∈ vs) → wipe σ' vs = wipe σ vs) → Q σ' H
def tGs (X : Cx) (ts : List TN) : TGs := fun vs σ H Q => ∃ ρ π st env ds, SR X.K X.mg ρ π H st ∧ RE X.K X.mg ρ π H env σ ∧ RDs X.K X.mg ρ π H ds vs ∧ ∃ env', setTs ts ds env = some env' ∧
  ∀ σ', RE X.K X.mg ρ π H env' σ' → (∀ vs, (∀ i ∈ slotsTs ts, i ∈ vs) → wipe σ' vs = wipe σ vs) → Q σ' H
theorem _root_.L2.PGs.imp {X : Cx} {es : List Expr} {t t' : TGs} (h : PGs X es t) (f : ∀ v σ H Q, t' v σ H Q → t v σ H Q) : PGs X es t' := ⟨fun pins s σ H v u Q I r hw => h.run pins s σ H v u Q I r (f v σ H Q hw)⟩
section
variable {X : Cx} {x : Str} {i : Nat} {p : Pos}
theorem pgm_name (hN : X.N.Nodup) (hi : X.N[i]? = some x) (hx : Loc X.env.scope x) (hf : X.fn x = true ∨ X.env.scope.names.lookup x = some .local) : PG X (.Name x p) (tG X (.n i)) := by
  refine (pg_name hN hi hx hf).imp fun v σ H Q ⟨ρ, π, st, env, d, S, E, r, env', e, q⟩ => ?_
  cases e
  exact q _ (E.set i r) fun vs h => wipe_set (h i (List.mem_singleton.mpr rfl))
theorem pgm_nil : PGs X [] (tGs X []) := by
  refine pgs_nil.imp fun vs σ H Q ⟨ρ, π, st, env, d, S, E, r, env', e, q⟩ => ?_
  cases r with
  | nil =>
    cases e
    exact ⟨rfl, q _ E fun _ _ => rfl⟩
  | cons h t => cases e
theorem pgm_cons {e : Expr} {es : List Expr} {t : TN} {ts : List TN} (h1 : PG X e (tG X t)) (h2 : PGs X es (tGs X ts)) (hs : ∀ env : PySem.Env, (assignEach (e :: es) env).map (·.2) = assign e env :: (assignEach es env).map (·.2)) : PGs X (e :: es) (tGs X (t :: ts)) := by
  refine (pgs_cons h1 h2 (hs _)).imp fun vs σ H Q ⟨ρ, π, st, env, ds, S, E, r, env', e, q⟩ => ?_
  cases r with
  | nil => cases e
  | cons h r =>
    simp only [setTs, Option.bind_eq_some_iff] at e
    obtain ⟨env1, e1, e2⟩ := e
    refine ⟨_, _, rfl, ρ, π, st, env, _, S, E, h, env1, e1, fun σ1 E1 w1 => ⟨ρ, π, st, env1, _, S, E1, r, env', e2, fun σ2 E2 w2 => q σ2 E2 fun vs hv => ?_⟩⟩
    rw [w2 vs fun j hj => hv j (List.mem_append_right _ hj), w1 vs fun j hj => hv j (List.mem_append_left _ hj)]
theorem pgm_tup {es : List Expr} {k : Nat} {ts : List TN} (hc : X.calm = true) (h : PGs X es (tGs X ts)) (hn : ∀ env : PySem.Env, (assignEach es env).length = ts.length) (hst : ∀ env : PySem.Env, (assignEach es env).findIdx? (·.1) = none) : PG X (.Tuple es k p) (tG X (.t ts)) := by
  refine (pg_tup hc h (hn _) (hst _)).imp fun v σ H Q ⟨ρ, π, st, env, d, S, E, r, env', e, q⟩ => ?_
  have hl : ∀ {ts : List TN} {xs : List D} {env env' : Env}, setTs ts xs env = some env' → ts.length = xs.length := by
    intro ts
    induction ts with
    | nil =>
      intro xs env env' e
      cases xs with
      | nil => rfl
      | cons _ _ => cases e
    | cons t ts ih =>
      intro xs env env' e
      cases xs with
      | nil => cases e
      | cons x xs =>
        simp only [setTs, Option.bind_eq_some_iff] at e
        obtain ⟨env1, _, e2⟩ := e
        rw [List.length_cons, List.length_cons, ih e2]
  cases r with
  | tup ht r => exact ⟨_, _, rfl, ht, by rw [← r.length, hl e], ρ, π, st, env, _, S, E, r, env', e, q⟩
  | _ => cases e
end

/-! ### walks -/
/-- which walk of the layer's it is -/
def itFor (K : PySem.W.Frag) : IK → List D → List V → Option It
  | .seq, [.tup _], [.ref a] => some (Itt K a)
  | .seq, [_], [.ref a] => some (Itl K a)
  | .rng1, [.int j], _ => some (L2.Itr 0 (j - 0).toNat)
  | .rng2, [.int a, .int b], _ => some (L2.Itr a (b - a).toNat)
  | _, _, _ => none
/-- a turn of the walk -/
theorem it_ok {K : PySem.W.Frag} {mg : Str → Option Value} {ρ π : List Addr} {H : Hp} {st : Sto} {k : IK} {ds : List D} {vs : List V} {J : Ev.Itr} {I : It} {st0 : Sto} (e : itOf k ds st0 = some J) (e2 : itFor K k ds vs = some I) (S : SR K mg ρ π H st) (r : RDs K mg ρ π H ds vs)
    (i : Nat) :
    match J i st with
    | some (some d) => I.go i H ∧ ∀ x H', I.yld i H x H' → Ext ρ H ρ H' ∧ SR K mg ρ π H' st ∧ RD K mg ρ π H' d x
    | some none => I.stop i H
    | none => True := by
  have seq : ∀ {a : Addr} {xs : List D} {ws : List V}, SqL K H a ws → RDs K mg ρ π H xs ws → match (some xs[i]? : Option (Option D)) with
      | some (some d) => (Itl K a).go i H ∧ ∀ x H', (Itl K a).yld i H x H' → Ext ρ H ρ H' ∧ SR K mg ρ π H' st ∧ RD K mg ρ π H' d x
      | some none => (Itl K a).stop i H
      | none => True := by
    intro a xs ws h r
    cases hx : xs[i]? with
    | none => exact ⟨ws, h, by rw [← r.length]; exact List.getElem?_eq_none_iff.mp hx⟩
    | some d =>
      obtain ⟨v, hv, rv⟩ := r.get hx
      refine ⟨⟨ws, v, h, hv⟩, fun x H' hy => ?_⟩
      obtain ⟨rfl, hy⟩ := hy
      have e1 := hy ws h
      rw [hv] at e1
      cases e1
      exact ⟨Ext.refl _ _, S, rv⟩
  have rng : ∀ {lo : Int} {n : Nat}, match (some (if i < n then some (.int (lo + i)) else none) : Option (Option D)) with
      | some (some d) => (L2.Itr lo n).go i H ∧ ∀ x H', (L2.Itr lo n).yld i H x H' → Ext ρ H ρ H' ∧ SR K mg ρ π H' st ∧ RD K mg ρ π H' d x
      | some none => (L2.Itr lo n).stop i H
      | none => True := by
    intro lo n
    by_cases hi : i < n
    · rw [if_pos hi]
      refine ⟨hi, fun x H' hy => ?_⟩
      obtain ⟨rfl, rfl⟩ := hy
      exact ⟨Ext.refl _ _, S, .int _⟩
    · rw [if_neg hi]
      exact Nat.le_of_not_lt hi
  have rng2 : ∀ {a b : Int} {J : Ev.Itr}, itRng a b = some J → match J i st with
      | some (some d) => (L2.Itr a (b - a).toNat).go i H ∧ ∀ x H', (L2.Itr a (b - a).toNat).yld i H x H' → Ext ρ H ρ H' ∧ SR K mg ρ π H' st ∧ RD K mg ρ π H' d x
      | some none => (L2.Itr a (b - a).toNat).stop i H
      | none => True := by
    intro a b J e
    unfold itRng at e
    split at e
    · cases e
      exact rng
    · cases e
  unfold itOf at e
  split at e
  · cases r with
    | cons h t =>
      cases t
      unfold itSeq at e
      split at e
      · cases e
        cases h with
        | tup ht r =>
          cases e2
          rename_i xs a vs
          show match (some xs[i]? : Option (Option D)) with
            | some (some d) => (Itt K a).go i H ∧ ∀ x H', (Itt K a).yld i H x H' → Ext ρ H ρ H' ∧ SR K mg ρ π H' st ∧ RD K mg ρ π H' d x
            | some none => (Itt K a).stop i H
            | none => True
          cases hx : xs[i]? with
          | none => exact ⟨vs, ht, by rw [← r.length]; exact List.getElem?_eq_none_iff.mp hx⟩
          | some d =>
            obtain ⟨v, hv, rv⟩ := r.get hx
            refine ⟨⟨vs, v, ht, hv⟩, fun x H' hy => ?_⟩
            obtain ⟨rfl, hy⟩ := hy
            have e1 := hy vs ht
            rw [hv] at e1
            cases e1
            exact ⟨Ext.refl _ _, S, rv⟩
      · cases e
        cases h with
        | lst hl n m r =>
          cases e2
          exact seq (SqL.of hl) r
      · cases e
        cases h with
        | ro hl =>
          cases e2
          rename_i ns a
          have := seq (xs := ns.map D.int) hl.sq (RDs.ints ns)
          rw [List.getElem?_map] at this
          exact this
      · split at e
        · cases e
          cases h with
          | loc hn =>
            cases e2
            unfold atLoc
            split
            · rename_i heq
              split at heq
              · rename_i xs hx
                obtain ⟨vs, h1, r1⟩ := S.atL hn hx
                have := seq (SqL.of h1) r1
                rw [heq] at this
                exact this
              · cases heq
            · rename_i heq
              split at heq
              · rename_i xs hx
                obtain ⟨vs, h1, r1⟩ := S.atL hn hx
                have := seq (SqL.of h1) r1
                rw [heq] at this
                exact this
              · cases heq
            · trivial
        · cases e
      · cases e
  · cases e2
    exact rng2 e
  · cases e2
    exact rng2 e
  · cases e
/-- a walk's reading -/
def tI (X : Cx) (W : WX) (k : IK) (rs : Env → Sto → Out (List D)) : TI := fun σ H R => ∃ ρ π env st, SR X.K X.mg ρ π H st ∧ RE X.K X.mg ρ π H env σ ∧
  match rs env st with
  | .ok ds st1 => (∃ J, itOf k ds st1 = some J) ∧ ∀ ρ1 H1 vs I, Ext ρ H ρ1 H1 → SR X.K X.mg ρ1 π H1 st1 → RDs X.K X.mg ρ1 π H1 ds vs → itFor X.K k ds vs = some I → R I H1
  | .ex c d st1 => ∀ ρ' H' C da v, Ext ρ H ρ' H' → SR X.K X.mg ρ' π H' st1 → X.mg c = some (.ref C) → H' da = some (.xd [("value", v)]) → RD X.K X.mg ρ' π H' d v → W (.ref C) (some da) σ H'
  | .bad => False
section
variable {X : Cx} {W : WX} {tg : Expr} {a b e : Expr} {ra rb : Env → Sto → Out D} {rs : Env → Sto → Out (List D)} {pos : Pos}
/-- a list or a tuple -/
def iSeq (K : PySem.W.Frag) (tl : TE) : TI := fun σ H R => tl σ H fun x H1 => ∃ a, x = .ref a ∧ (((∃ xs, SqL K H1 a xs) ∧ R (Itl K a) H1) ∨ ((∃ xs, SqT K H1 a xs) ∧ R (Itt K a) H1))
theorem pi_seq {l : Expr} {tl : TE} (hl : PE X l tl) : PI X tg l (iSeq X.K tl) := by
  refine ⟨fun pins s σ H R I h => thn (hl.run pins s σ H _ I h) fun v s1 hv => ?_⟩
  obtain ⟨x, H1, I1, r1, a, rfl, q⟩ := hv
  cases r1
  have fp : ∀ b ∈ [s1.heap.objs.size], FpOk X pins H1 b := fun b hb => by
    rw [List.mem_singleton.mp hb]
    exact I1.fpOk (Nat.le_refl _) (I1.hok.fresh (Nat.le_refl _))
  rcases q with ⟨⟨xs, hq⟩, q⟩ | ⟨⟨xs, hq⟩, q⟩
  · obtain ⟨its, rv, p, _⟩ := I1.list hq
    exact wpAny_pyIter_list p.isList ⟨_, [s1.heap.objs.size], _, _, H1, rfl, I1.kept (t' := s1.toks) fun b o e => Heap.get?_push_of_some _ e, turn_list a _, ⟨_, Heap.get?_push_size _ rfl, rfl, rfl⟩, fp, q⟩
  · obtain ⟨its, rv, p, _⟩ := I1.tuple hq
    exact wpAny_pyIter_tuple (show s1.heap.IsTuple a its.toArray from p) ⟨_, [s1.heap.objs.size], _, _, H1, rfl, I1.kept (t' := s1.toks) fun b o e => Heap.get?_push_of_some _ e, turn_tuple a _, ⟨_, Heap.get?_push_size _ rfl, rfl, rfl⟩, fp, q⟩
theorem pim_seq (ha : PE X a (tM X W ra)) : PI X tg a (tI X W .seq fun env st => (ra env st).bnd fun d st => (Out.ok [] st).bnd fun ds st => .ok (d :: ds) st) := by
  refine (pi_seq ha).imp fun σ H R ⟨ρ, π, env, st, S, E, F⟩ => ⟨ρ, π, env, st, S, E, ?_⟩
  dsimp only at F
  cases hr : ra env st with
  | bad => rw [hr] at F; exact F
  | ex c d st1 => rw [hr] at F; exact F
  | ok d st1 =>
    rw [hr] at F
    simp only [Out.bnd] at F
    obtain ⟨⟨J, hJ⟩, F⟩ := F
    intro ρ1 H1 v x S1 r1
    have hJ' : itSeq d st1 = some J := hJ
    unfold itSeq at hJ'
    split at hJ'
    · cases r1 with
      | tup ht r => exact ⟨_, rfl, .inr ⟨⟨_, ht⟩, F ρ1 H1 _ _ x S1 (.cons (.tup ht r) .nil) rfl⟩⟩
    · cases r1 with
      | lst hl n m r => exact ⟨_, rfl, .inl ⟨⟨_, SqL.of hl⟩, F ρ1 H1 _ _ x S1 (.cons (.lst hl n m r) .nil) rfl⟩⟩
    · cases r1 with
      | ro hl => exact ⟨_, rfl, .inl ⟨⟨_, hl.sq⟩, F ρ1 H1 _ _ x S1 (.cons (.ro hl) .nil) rfl⟩⟩
    · split at hJ'
      · rename_i hi
        cases r1 with
        | loc hn =>
          have hi' := hi
          unfold isLst at hi'
          dsimp only at hi'
          split at hi'
          · rename_i xs hx
            obtain ⟨vs, h1, r1⟩ := S1.atL hn hx
            exact ⟨_, rfl, .inl ⟨⟨_, SqL.of h1⟩, F ρ1 H1 _ _ x S1 (.cons (.loc hn) .nil) rfl⟩⟩
          · cases hi'
      · cases hJ'
    · cases hJ'
theorem pim_rng1 {p : Pos} (hg : Gl X "range") (hm : X.mg "range" = none) (hs : ∀ env : PySem.Env, starEach [a] env = [(false, eval a env)]) (ha : PA X [a] (tMs X W rs)) : PI X tg (.Call (.Name "range" p) [a] [] pos) (tI X W .rng1 rs) := by
  refine (pi_range1 hg hm ha (hs _)).imp fun σ H R ⟨ρ, π, env, st, S, E, F⟩ => ⟨ρ, π, env, st, S, E, ?_⟩
  cases hr : rs env st with
  | bad => rw [hr] at F; exact F
  | ex c d st1 => rw [hr] at F; exact F
  | ok ds st1 =>
    rw [hr] at F
    obtain ⟨⟨J, hJ⟩, F⟩ := F
    intro ρ1 H1 v x S1 r1
    unfold itOf at hJ
    split at hJ
    · exact nomatch ‹IK.rng1 = IK.seq›
    · rename_i j _
      cases r1 with
      | cons h t =>
        cases t
        cases h
        unfold itRng at hJ
        split at hJ
        · rename_i hb
          have e : (j - 0).toNat = j.toNat := by rw [Int.sub_zero]
          have := F ρ1 H1 _ _ x S1 (.cons (.int j) .nil) rfl
          rw [e] at this
          exact ⟨j, rfl, hb.2.2.1, hb.2.2.2, this⟩
        · cases hJ
    · exact nomatch ‹IK.rng1 = IK.rng2›
    · cases hJ
theorem pim_rng2 {p : Pos} (hg : Gl X "range") (hm : X.mg "range" = none) (hs : ∀ env : PySem.Env, starEach [a, b] env = [(false, eval a env), (false, eval b env)]) (hs2 : ∀ env : PySem.Env, starEach [b] env = [(false, eval b env)]) (ha : PA X [a, b] (tMs X W rs)) : PI X tg (.Call (.Name "range" p) [a, b] [] pos) (tI X W .rng2 rs) := by
  refine (pi_range2 hg hm ha (hs _) (hs2 _)).imp fun σ H R ⟨ρ, π, env, st, S, E, F⟩ => ⟨ρ, π, env, st, S, E, ?_⟩
  cases hr : rs env st with
  | bad => rw [hr] at F; exact F
  | ex c d st1 => rw [hr] at F; exact F
  | ok ds st1 =>
    rw [hr] at F
    obtain ⟨⟨J, hJ⟩, F⟩ := F
    intro ρ1 H1 v x S1 r1
    unfold itOf at hJ
    split at hJ
    · exact nomatch ‹IK.rng2 = IK.seq›
    · exact nomatch ‹IK.rng2 = IK.rng1›
    · cases r1 with
      | cons h t =>
        cases t with
        | cons h2 t =>
          cases t
          cases h
          cases h2
          unfold itRng at hJ
          split at hJ
          · rename_i hb
            exact ⟨_, _, rfl, hb, F ρ1 H1 _ _ x S1 (.cons (.int _) (.cons (.int _) .nil)) rfl⟩
          · cases hJ
    · cases hJ
end
end Ev
/-! List comprehensions. -/
namespace Ev
open PySem PySem.Spec PyProof.Rows L2

theorem wipe_in {i : Nat} : ∀ {vs : List Nat} {σ : L2.St}, i ∈ vs → i < σ.length → (wipe σ vs)[i]? = some none
  | v :: vs, σ, h, hl => by
    unfold wipe
    by_cases e : i = v
    · subst e
      rw [List.getElem?_set_self (by rw [wipe_length]; exact hl)]
    · rw [List.getElem?_set_ne (Ne.symm e)]
      refine wipe_in ?_ hl
      rcases List.mem_cons.mp h with z | z
      · exact absurd z e
      · exact z
theorem wipe_wipe (σ : L2.St) (vs : List Nat) : wipe (wipe σ vs) vs = wipe σ vs := by
  refine List.ext_getElem? fun i => ?_
  by_cases h : i ∈ vs
  · by_cases hl : i < σ.length
    · rw [wipe_in h (by rw [wipe_length]; exact hl), wipe_in h hl]
    · rw [List.getElem?_eq_none (by rw [wipe_length, wipe_length]; omega), List.getElem?_eq_none (by rw [wipe_length]; omega)]
  · rw [wipe_out h]
abbrev W0 : WX := fun _ _ _ _ => False
section
variable {X : Cx} {W : WX} {elt tg iter : Expr} {ifs : List Expr} {scope : Scope} {own : List (Str × Nat)} {pos : Pos} {t : TN} {k : IK} {rs : Env → Sto → Out (List D)} {rt : Env → Sto → Out Bool} {re : Env → Sto → Out D} {al : Bool}
theorem ptsm_nil : PTs X [] (tMB X W fun _ st => .ok true st) := ⟨fun pins s σ H Q I ⟨ρ, π, env, st, S, E, F⟩ => pts_nil.run pins s σ H Q I (F.here S rfl)⟩
theorem ptsm_one {c : Expr} {rc : Env → Sto → Out D} (h : PT X c (tMB X W (tst rc))) : PTs X [c] (tMB X W (tst rc)) := pts_one h
abbrev compM (X : Cx) (W : WX) (al : Bool) (own : List (Str × Nat)) (t : TN) (k : IK) (rs : Env → Sto → Out (List D)) (rt : Env → Sto → Out Bool) (re : Env → Sto → Out D) : TE := tM X W fun env st => (rs env st).bnd fun ds st => match itOf k ds st with
    | none => .bad
    | some J => compEnd al (compI J (compT t (wipeE env (own.map (·.2))) rt re) turns 0 [] st)
theorem lc_word (hsl : ∀ i ∈ slotsT t, i ∈ own.map (·.2)) {σ : L2.St} {H : Hp} {Q : VK} (h : compM X W al own t k rs rt re σ H Q) : tLc (tI X W k rs) (tG X t) (tMB X W0 rt) (tM X W0 re) (own.map (·.2)) σ H Q := by
  obtain ⟨ρ, π, env, st, S, E, F⟩ := h
  dsimp only at F
  refine ⟨ρ, π, env, st, S, E, ?_⟩
  cases hr : rs env st with
  | bad => rw [hr] at F; exact F
  | ex c d st1 => rw [hr] at F; exact F
  | ok ds st1 =>
    rw [hr] at F
    simp only [Out.bnd] at F
    dsimp only
    split at F
    · exact F.elim
    · rename_i J hJ
      refine ⟨⟨J, hJ⟩, fun ρ1 H1 vs I x1 S1 r1 hI => ?_⟩
      have E1 := E.mono x1 S.muts
      have F1 := Fin.ext F x1
      intro Dn hD
      have hfr := S1.fresh hD
      -- what stands between two turns
      refine ⟨fun i m Hc => ∃ ρc stc acc vacc, Ext ρ1 H1 ρc Hc ∧ SR X.K X.mg ρc (Dn :: π) Hc stc ∧ Hc Dn = some (.lst vacc) ∧ RDs X.K X.mg ρc (Dn :: π) Hc acc vacc ∧ RDs X.K X.mg ρc (Dn :: π) Hc ds vs ∧ RE X.K X.mg ρc (Dn :: π) Hc env σ ∧
        Fin X.K X.mg (RelD X.K X.mg π) (fun c d H => W c d σ H) ρ1 π H1 (compEnd al (compI J (compT t (wipeE env (own.map (·.2))) rt re) m i acc stc)) Q,
        ⟨turns, ρ1, st1, [], [], (Ext.new hD), S1.more hD, upd_same, .nil, r1.more S1.muts hD, E1.more S1.muts hD, F1⟩, fun i m Hc hW => ?_⟩
      obtain ⟨ρc, stc, acc, vacc, xc, Sc, hDc, rc, rdc, Ec, Fc⟩ := hW
      have npc : Dn ∉ ρc := (Sc.pi Dn List.mem_cons_self).1
      cases m with
      | zero => exact Fc.elim
      | succ m =>
        have hturn := it_ok hJ hI Sc rdc i
        unfold compI at Fc
        cases hj : J i stc with
        | none => rw [hj] at Fc; exact Fc.elim
        | some o =>
          rw [hj] at Fc hturn
          cases o with
          | none =>
            refine .inl ⟨hturn, ?_⟩
            exact newHeld Sc hfr.2 hD hfr.1 xc hDc rc Fc
          | some d =>
            obtain ⟨hgo, hy⟩ := hturn
            dsimp only at Fc
            refine .inr ⟨hgo, fun H' => ∃ m', m' < m + 1 ∧ ∃ ρc stc acc vacc, Ext ρ1 H1 ρc H' ∧ SR X.K X.mg ρc (Dn :: π) H' stc ∧ H' Dn = some (.lst vacc) ∧ RDs X.K X.mg ρc (Dn :: π) H' acc vacc ∧ RDs X.K X.mg ρc (Dn :: π) H' ds vs ∧ RE X.K X.mg ρc (Dn :: π) H' env σ ∧
              Fin X.K X.mg (RelD X.K X.mg π) (fun c d H => W c d σ H) ρ1 π H1 (compEnd al (compI J (compT t (wipeE env (own.map (·.2))) rt re) m' (i + 1) acc stc)) Q, fun H' hN' => hN', fun x H' hyl => ?_⟩
            obtain ⟨xy, Sy, rx⟩ := hy x H' hyl
            have Ey := (Ec.mono xy Sc.muts).wipe (own.map (·.2))
            -- the turn's own word
            cases hto : compT t (wipeE env (own.map (·.2))) rt re d stc with
            | bad => rw [hto] at Fc; exact Fc.elim
            | ex c v s => rw [hto] at Fc; exact Fc.elim
            | ok o sto =>
              rw [hto] at Fc
              simp only [Out.bnd] at Fc
              unfold compT at hto
              cases hset : setT t d (wipeE env (own.map (·.2))) with
              | none => rw [hset] at hto; cases hto
              | some e2 =>
                rw [hset] at hto
                dsimp only at hto
                refine ⟨ρc, Dn :: π, stc, _, d, Sy, Ey, rx, e2, hset, fun σ2 E2 w2 => ⟨(w2 _ hsl).trans (wipe_wipe _ _), ?_⟩⟩
                refine ⟨ρc, Dn :: π, e2, stc, Sy, E2, ?_⟩
                cases hrt : rt e2 stc with
                | bad => rw [hrt] at hto; cases hto
                | ex c v s => rw [hrt] at hto; cases hto
                | ok b st3 =>
                  rw [hrt] at hto
                  intro ρ3 H3 b' x3 S3 eb
                  cases eb
                  have E3 := (Ec.mono xy Sc.muts).mono x3 Sy.muts
                  have X3 : Ext ρc Hc ρ3 H3 := xy.trans x3
                  cases b with
                  | false =>
                    cases hto
                    exact ⟨m, Nat.lt_succ_self m, ρ3, _, acc, vacc, xc.trans X3, S3, X3.keep _ _ npc hDc, rc.mono X3 Sc.muts, rdc.mono X3 Sc.muts, E3, Fc⟩
                  | true =>
                    dsimp only at hto
                    refine ⟨ρ3, Dn :: π, e2, st3, S3, E2.mono x3 Sy.muts, ?_⟩
                    cases hre : re e2 st3 with
                    | bad => rw [hre] at hto; cases hto
                    | ex c v s => rw [hre] at hto; cases hto
                    | ok y st4 =>
                      rw [hre] at hto
                      cases hto
                      intro ρ4 H4 vy x4 S4 ry
                      have X4 : Ext ρc Hc ρ4 H4 := X3.trans x4
                      have hD4 : H4 Dn = some (.lst vacc) := X4.keep _ _ npc hDc
                      have rc4 := rc.mono X4 Sc.muts
                      dsimp only at Fc
                      split at Fc
                      · rename_i hlen
                        have mu : IsMut (H4 Dn) := .inl ⟨_, hD4⟩
                        refine ⟨vacc, hD4, by rw [← rc4.length, sizeLine_eq]; have : most = 1000000 := rfl; omega, ?_⟩
                        exact ⟨m, Nat.lt_succ_self m, ρ4, _, acc ++ [y], vacc ++ [vy], (xc.trans X4).held hD, S4.held mu, upd_same, (rc4.append (.cons ry .nil)).held mu, (rdc.mono X4 Sc.muts).held mu, (E3.mono x4 S3.muts).held mu, Fc⟩
                      · exact Fc.elim
/-- a comprehension -/
theorem pm_comp (hc : X.calm = true) (hN : X.N.Nodup) (hi : PI X tg iter (tI X W k rs)) (ok : BlkOk X.N X.env.scope scope own) (hs : ∀ x, foldedSetIterable iter X.env x = pure x)
    (hsl : ∀ i ∈ slotsT t, i ∈ own.map (·.2))
    (hg : ∀ (s : Shared) (H : Hp) (C : Addr) (cl : List (Str × Addr)) (fp : List Addr), PG (X.blk s H scope (compEnvC scope cl C X.env) fp) tg (tG X t))
    (ht : ∀ (s : Shared) (H : Hp) (C : Addr) (cl : List (Str × Addr)) (fp : List Addr), PTs (X.blk s H scope (compEnvC scope cl C X.env) fp) ifs (tMB X W0 rt))
    (he : ∀ (s : Shared) (H : Hp) (C : Addr) (cl : List (Str × Addr)) (fp : List Addr), PE (X.blk s H scope (compEnvC scope cl C X.env) fp) elt (tM X W0 re)) :
    PE X (.ListComp elt [⟨tg, iter, ifs, 0⟩] scope pos) (tM X W fun env st => (rs env st).bnd fun ds st => match itOf k ds st with
    | none => .bad
    | some J => compEnd al (compI J (compT t (wipeE env (own.map (·.2))) rt re) turns 0 [] st)) := by
  exact (pe_lc hc hN hi ok hg ht he hs).imp fun σ H Q h => lc_word hsl h
end
end Ev
/-! The translation of expressions is right. -/
namespace Ev
open PySem PySem.Spec PyProof.Rows L2

/-- the context is one in which the translation by Z is right -/
structure Ok (C : Cal) (k : Nat) (X : Cx) (Z : Zt) (W : WX) : Prop where
  sc : X.env.scope = Z.sc
  kd : Z.sc.kind = .function
  N : X.N = Z.N
  nd : X.N.Nodup
  calm : X.calm = true
  room : Room k X.A
  gd : X.A.guards = some []
  bi : ∀ x ∈ biNames, X.mg x = none
  co : ∀ x d, Z.consts.lookup x = some d → ∃ v u, X.mg x = some u ∧ L2.RelV v u ∧ ∀ ρ π H, RD X.K X.mg ρ π H d v
  st : ∀ x ∈ Z.stn, Loc X.env.scope x ∧ (X.fn x = true ∨ X.env.scope.names.lookup x = some .local)
  df : ∀ x ∈ Z.defs, ∃ f, Callee X.prog X.w X.K X.mg X.base k C Z.pats x f
  al : ∀ x ∈ C.all, ∃ f, Callee X.prog X.w X.K X.mg X.base k C Z.pats x f
  tk : Takes X W
  own : PassesOwn (model X.prog X.w) X.A X.env X.xe

theorem idx_at {l : List Str} {x : Str} {i : Nat} (h : l.idxOf? x = some i) : l[i]? = some x := by
  have h1 : l.findIdx? (· == x) = some i := h
  rw [List.findIdx?_eq_some_iff_getElem] at h1
  obtain ⟨hi, e, _⟩ := h1
  rw [List.getElem?_eq_getElem hi, beq_iff_eq.mp e]
section
variable {C : Cal} {k : Nat} {X : Cx} {Z : Zt} {W : WX} {x : Str} {i : Nat}
theorem plain_ok (h : plainName x = true) : (x == ("__debug__" : Str)) = false ∧ (x == ("__classdict__" : Str)) = false ∧ x ≠ "__name__" := by
  unfold plainName at h
  rw [Bool.and_eq_true, Bool.and_eq_true] at h
  obtain ⟨⟨h1, h2⟩, h3⟩ := h
  refine ⟨by simpa using h1, by simpa using h2, ?_⟩
  intro e
  rw [e] at h3
  simp at h3
theorem slot_ok (ok : Ok C k X Z W) (h : Z.slot x = some i) : X.N[i]? = some x ∧ Vis X.env.scope x ∧ (x == ("__debug__" : Str)) = false ∧ (x == ("__classdict__" : Str)) = false := by
  unfold Zt.slot at h
  split at h
  · rename_i hc
    rw [Bool.and_eq_true] at hc
    refine ⟨by rw [ok.N]; exact idx_at h, ?_, (plain_ok hc.2).1, (plain_ok hc.2).2.1⟩
    rw [ok.sc]
    have h1 := hc.1
    unfold isLoc at h1
    split at h1
    · exact .inl ‹_›
    · exact .inr (.inl ‹_›)
    · exact .inr (.inr ‹_›)
    · cases h1
  · cases h
theorem slotW_ok (ok : Ok C k X Z W) (h : Z.slotW x = some i) : X.N[i]? = some x ∧ x ∈ Z.stn ∧ Loc X.env.scope x ∧ (X.fn x = true ∨ X.env.scope.names.lookup x = some .local) := by
  unfold Zt.slotW at h
  split at h
  · rename_i hc
    rw [Bool.and_eq_true] at hc
    have hm : x ∈ Z.stn := List.contains_iff_mem.mp hc.1
    exact ⟨by rw [ok.N]; exact idx_at h, hm, (ok.st x hm).1, (ok.st x hm).2⟩
  · cases h
theorem glob_ok (ok : Ok C k X Z W) (h : Z.glob x = true) : Gl X x ∧ (x == ("__debug__" : Str)) = false ∧ x ≠ "__name__" := by
  unfold Zt.glob at h
  rw [Bool.and_eq_true] at h
  refine ⟨?_, (plain_ok h.2).1, (plain_ok h.2).2.2⟩
  show X.env.scope.names.lookup x = some .globalImplicit
  rw [ok.sc]
  have h1 := h.1
  unfold isGl at h1
  split at h1
  · assumption
  · cases h1
theorem hu_ok (ok : Ok C k X Z W) : X.A.units + 64 < cLine := ok.room.units
/-- expressions, translated one by one -/
inductive EachP (X : Cx) (W : WX) (C : Cal) : List Expr → List E → Prop
  | nil : EachP X W C [] []
  | cons {e : Expr} {m : E} {es : List Expr} {ms : List E} (h : PE X e (tM X W (evE C m))) (b : PT X e (tMB X W (tst (evE C m)))) (s : ∀ (es : List Expr) (env : PySem.Env), starEach (e :: es) env = (false, eval e env) :: starEach es env) (t : EachP X W C es ms) : EachP X W C (e :: es) (m :: ms)
theorem EachP.len {es : List Expr} {ms : List E} (h : EachP X W C es ms) : es.length = ms.length := by
  induction h with
  | nil => rfl
  | cons _ _ _ _ ih => rw [List.length_cons, List.length_cons, ih]
theorem EachP.pa {es : List Expr} {ms : List E} (h : EachP X W C es ms) : PA X es (tMs X W (evEs C ms)) := by
  induction h with
  | nil => exact pm_nil
  | cons h b s t ih => exact pm_cons (s _) h ih
theorem EachP.each {es : List Expr} {ms : List E} (h : EachP X W C es ms) : Each X W es (ms.map (evE C)) := by
  induction h with
  | nil => exact .nil
  | cons h b s t ih => exact .cons h ih
theorem seqR_map : ∀ (ms : List E), seqR (ms.map (evE C)) = evEs C ms
  | [] => rfl
  | m :: ms => by
    funext env st
    rw [List.map_cons]
    show (evE C m env st).bnd _ = (evE C m env st).bnd _
    rw [seqR_map ms]
theorem EachP.noStar {es : List Expr} {ms : List E} (h : EachP X W C es ms) : noStar es := by
  intro env pos
  induction h with
  | nil => rfl
  | cons h b s t ih =>
    rw [s]
    show (false || _) = false
    exact ih
theorem EachP.pk {kws : List Keyword} {ms : List E} (h : EachP X W C (kws.map Keyword.value) ms) : PK X kws (tMs X W (evEs C ms)) := by
  induction kws generalizing ms with
  | nil =>
    cases h
    exact pkm_nil
  | cons kw kws ih =>
    obtain ⟨nm, e, p⟩ := kw
    cases h with
    | cons h b s t => exact pkm_cons h (ih t)
theorem evEs_len {ms : List E} : ∀ {env : Env} {st : Sto} {ds : List D} {st' : Sto}, evEs C ms env st = .ok ds st' → ds.length = ms.length := by
  induction ms with
  | nil => intro env st ds st' h; cases h; rfl
  | cons m ms ih =>
    intro env st ds st' h
    have h' : ((evE C m env st).bnd fun d st => (evEs C ms env st).bnd fun ds st => .ok (d :: ds) st) = .ok ds st' := h
    cases h1 : evE C m env st with
    | bad => rw [h1] at h'; cases h'
    | ex c v s => rw [h1] at h'; cases h'
    | ok d s1 =>
      rw [h1] at h'
      simp only [Out.bnd] at h'
      cases h2 : evEs C ms env s1 with
      | bad => rw [h2] at h'; cases h'
      | ex c v s => rw [h2] at h'; cases h'
      | ok ds2 s2 =>
        rw [h2] at h'
        cases h'
        rw [List.length_cons, List.length_cons, ih h2]
theorem evEs_append {ms ns : List E} : ∀ {env : Env} {st : Sto}, evEs C (ms ++ ns) env st = (evEs C ms env st).bnd fun ds st => (evEs C ns env st).bnd fun zs st => .ok (ds ++ zs) st := by
  induction ms with
  | nil =>
    intro env st
    show evEs C ns env st = (Out.ok [] st).bnd _
    simp only [Out.bnd]
    cases evEs C ns env st <;> rfl
  | cons m ms ih =>
    intro env st
    show ((evE C m env st).bnd fun d st => (evEs C (ms ++ ns) env st).bnd fun ds st => .ok (d :: ds) st) = ((evE C m env st).bnd fun d st => (evEs C ms env st).bnd fun ds st => .ok (d :: ds) st).bnd _
    rw [bnd_assoc]
    congr 1
    funext d st1
    rw [ih, bnd_assoc, bnd_assoc]
    congr 1
    funext ds st2
    rw [bnd_assoc]
    rfl
theorem kwNames {kws : List Keyword} {ks : List Str} (h : kws.mapM Keyword.arg = some ks) : (∀ (env : PySem.Env) (pos : Pos), (backToKw pos (keywordEach kws env)).all (·.1.isSome) = true) ∧ (∀ (env : PySem.Env) (pos : Pos), (backToKw pos (keywordEach kws env)).filterMap (·.1) = ks) ∧ kws.length = ks.length := by
  induction kws generalizing ks with
  | nil =>
    simp at h
    subst h
    exact ⟨fun _ _ => rfl, fun _ _ => rfl, rfl⟩
  | cons kw kws ih =>
    obtain ⟨nm, e, p⟩ := kw
    rw [List.mapM_cons] at h
    cases nm with
    | none => simp at h
    | some a =>
      cases hr : kws.mapM Keyword.arg with
      | none => rw [hr] at h; simp at h
      | some r =>
        rw [hr] at h
        simp at h
        subst h
        obtain ⟨i1, i2, i3⟩ := ih hr
        refine ⟨fun env pos => ?_, fun env pos => ?_, by rw [List.length_cons, List.length_cons, i3]⟩
        · show (true && _) = true
          exact i1 env pos
        · show a :: _ = a :: r
          congr 1
          exact i2 env pos
theorem tr_star {n : Nat} {al : Bool} {e : Expr} {m : E} (h : trE Z n al e = some m) : ∀ (es : List Expr) (env : PySem.Env), starEach (e :: es) env = (false, eval e env) :: starEach es env := by
  intro es env
  cases e <;> first | rfl | (cases n <;> simp [trE] at h)
end
end Ev
/-! The translation of expressions is right. -/
namespace Ev
open PySem PySem.Spec PyProof.Rows L2

section
variable {C : Cal} {k n : Nat} {X : Cx} {Z : Zt} {W : WX}
theorem trTN_ok (ok : Ok C k X Z W) : ∀ n : Nat,
    (∀ (t : Expr) (tn : TN), trTN Z n t = some tn → PG X t (tG X tn) ∧ (∀ i ∈ slotsT tn, ∃ x ∈ Z.stn, Z.N.idxOf? x = some i) ∧ (∀ (es : List Expr) (env : PySem.Env), assignEach (t :: es) env = (false, assign t env) :: assignEach es env)) ∧
    (∀ (ts : List Expr) (tns : List TN), trTNs Z n ts = some tns → PGs X ts (tGs X tns) ∧ (∀ i ∈ slotsTs tns, ∃ x ∈ Z.stn, Z.N.idxOf? x = some i) ∧ (∀ env : PySem.Env, (assignEach ts env).length = tns.length) ∧ (∀ env : PySem.Env, (assignEach ts env).findIdx? (·.1) = none)) := by
  have name : ∀ {x : Str} {p : Pos} {tn : TN}, (Z.slotW x).map TN.n = some tn → PG X (.Name x p) (tG X tn) ∧ (∀ i ∈ slotsT tn, ∃ x ∈ Z.stn, Z.N.idxOf? x = some i) := by
    intro x p tn h
    rw [Option.map_eq_some_iff] at h
    obtain ⟨i, hi, rfl⟩ := h
    obtain ⟨h1, h2, h3, h4⟩ := slotW_ok ok hi
    refine ⟨pgm_name ok.nd h1 h3 h4, fun j hj => ⟨x, h2, ?_⟩⟩
    rw [List.mem_singleton.mp hj]
    unfold Zt.slotW at hi
    split at hi
    · exact hi
    · cases hi
  intro n
  induction n with
  | zero =>
    refine ⟨fun t tn h => ?_, fun ts tns h => ?_⟩
    · cases t <;> simp only [trTN] at h <;> try cases h
      obtain ⟨h1, h2⟩ := name (p := _) h
      exact ⟨h1, h2, fun _ _ => rfl⟩
    · cases ts with
      | nil =>
        simp only [trTNs] at h
        cases h
        exact ⟨pgm_nil, (fun _ z => nomatch z), fun _ => rfl, fun _ => rfl⟩
      | cons _ _ => simp only [trTNs] at h; cases h
  | succ n ih =>
    refine ⟨fun t tn h => ?_, fun ts tns h => ?_⟩
    · cases t <;> simp only [trTN] at h <;> try cases h
      · obtain ⟨h1, h2⟩ := name (p := _) h
        exact ⟨h1, h2, fun _ _ => rfl⟩
      · rw [Option.map_eq_some_iff] at h
        obtain ⟨tns, h1, rfl⟩ := h
        obtain ⟨a, b, c, d⟩ := ih.2 _ _ h1
        exact ⟨pgm_tup ok.calm a c d, b, fun _ _ => rfl⟩
    · cases ts with
      | nil =>
        simp only [trTNs] at h
        cases h
        exact ⟨pgm_nil, (fun _ z => nomatch z), fun _ => rfl, fun _ => rfl⟩
      | cons t ts =>
        simp only [trTNs, Option.bind_eq_some_iff] at h
        obtain ⟨tn, h1, tns', h2, h3⟩ := h
        cases h3
        obtain ⟨a1, b1, c1⟩ := ih.1 _ _ h1
        obtain ⟨a2, b2, c2, d2⟩ := ih.2 _ _ h2
        refine ⟨pgm_cons a1 a2 (fun env => by rw [c1]; rfl), fun i hi => ?_, fun env => by rw [c1, List.length_cons, List.length_cons, c2], fun env => by rw [c1, List.findIdx?_cons]; simp [d2]⟩
        rcases List.mem_append.mp hi with hi | hi
        · exact b1 i hi
        · exact b2 i hi

/-- the names of a block -/
theorem own_mem {N : List Str} : ∀ {names : List (Str × NameKind)} {x : Str} {j : Nat}, (x, j) ∈ ownOf N names → N.idxOf? x = some j ∧ ∃ k, (x, k) ∈ names ∧ (k = .local ∨ k = .cell)
  | (y, kd) :: r, x, j, h => by
    unfold ownOf at h
    split at h
    · rename_i hk
      split at h
      · rename_i i hi
        rcases List.mem_cons.mp h with e | h
        · cases e
          exact ⟨hi, kd, List.mem_cons_self, by simpa using hk⟩
        · obtain ⟨q0, k', q1, q2⟩ := own_mem h
          exact ⟨q0, k', List.mem_cons_of_mem _ q1, q2⟩
      · obtain ⟨q0, k', q1, q2⟩ := own_mem h
        exact ⟨q0, k', List.mem_cons_of_mem _ q1, q2⟩
    · obtain ⟨q0, k', q1, q2⟩ := own_mem h
      exact ⟨q0, k', List.mem_cons_of_mem _ q1, q2⟩
theorem own_fst {N : List Str} {names : List (Str × NameKind)} {x : Str} (h : x ∈ (ownOf N names).map (·.1)) : ∃ j, (x, j) ∈ ownOf N names := by
  obtain ⟨⟨y, j⟩, h1, rfl⟩ := List.mem_map.mp h
  exact ⟨j, h1⟩
/-- the block's own context -/
theorem Ok.blk (ok : Ok C k X Z W) {scope : Scope} (hb : blkC Z.N Z.sc scope (ownOf Z.N scope.names) = true) (s : Shared) (H : Hp) (a : Addr) (cl : List (Str × Addr)) (fp : List Addr) :
    Ok C k (X.blk s H scope (compEnvC scope cl a X.env) fp) { Z with sc := relS scope Z.sc, stn := (ownOf Z.N scope.names).map (·.1) } W0 := by
  have bk : BlkOk Z.N Z.sc scope (ownOf Z.N scope.names) := blkOk_by hb
  have e1 : (compEnvC scope cl a X.env).scope = relS scope X.env.scope := rfl
  refine ⟨by rw [← ok.sc]; exact e1, bk.kind, ok.N, ok.nd, ok.calm, ok.room, ok.gd, ok.bi, ok.co, fun x hx => ?_, ok.df, ok.al, takes0, PassesOwn.never⟩
  obtain ⟨j, hj⟩ := own_fst hx
  obtain ⟨_, kd, hm, hk⟩ := own_mem hj
  have hl : scope.names.lookup x = some kd := bk.uniq _ hm
  have hne : kd ≠ .free := fun z => by rcases hk with e | e <;> rw [e] at z <;> cases z
  have hl2 : (relS scope X.env.scope).names.lookup x = some kd := lookup_relS_keep hne hl
  show Loc (relS scope X.env.scope) x ∧ ((scope.names.lookup x == some .cell) = true ∨ (relS scope X.env.scope).names.lookup x = some .local)
  rcases hk with e | e
  · subst e
    exact ⟨.inl hl2, .inr hl2⟩
  · subst e
    exact ⟨.inr hl2, .inl (by rw [hl]; rfl)⟩
def bo (b : Bool) : BoolOp := if b then .And else .Or
theorem trO_some {n : Nat} {e : Expr} {m : E} (h : trO Z (n + 1) (some e) = some m) : trE Z n false e = some m ∧ isOmit m = false := by
  rw [trO, Option.bind_eq_some_iff] at h
  obtain ⟨m', h1, h2⟩ := h
  split at h2
  · cases h2
  · rename_i hne
    cases h2
    refine ⟨h1, ?_⟩
    unfold isOmit
    split
    · exact absurd rfl hne
    · rfl
/-- what is shown of all expressions -/
structure Snd (C : Cal) (k n : Nat) : Prop where
  e : ∀ (X : Cx) (Z : Zt) (W : WX), Ok C k X Z W → ∀ (al : Bool) (e : Expr) (m : E), trE Z n al e = some m → PE X e (tM X W (evE C m)) ∧ PT X e (tMB X W (tst (evE C m)))
  b : ∀ (X : Cx) (Z : Zt) (W : WX), Ok C k X Z W → ∀ (b : Bool) (vs : List Expr) (m : E) (pos : Pos), trB Z n b vs = some m → PE X (.BoolOp (bo b) vs pos) (tM X W (evE C m)) ∧ PW X (.BoolOp (bo b) vs pos) (tMB X W (tst (evE C m)))
  es : ∀ (X : Cx) (Z : Zt) (W : WX), Ok C k X Z W → ∀ (es : List Expr) (ms : List E), trEs Z n es = some ms → EachP X W C es ms
  o : ∀ (X : Cx) (Z : Zt) (W : WX), Ok C k X Z W → ∀ (o : Option Expr) (m : E), trO Z n o = some m → PO X o (tMO X W fun env st => partO (isOmit m) (evE C m env) st)
  i : ∀ (X : Cx) (Z : Zt) (W : WX), Ok C k X Z W → ∀ (tg e : Expr) (kd : IK) (src : List E), trI Z n e = some (kd, src) → PI X tg e (tI X W kd (evEs C src)) ∧ ∀ x, foldedSetIterable e X.env x = pure x
theorem snd0 : Snd C k 0 := by
  refine ⟨fun X Z W ok al e m h => ?_, fun X Z W ok b vs m pos h => ?_, fun X Z W ok es ms h => ?_, fun X Z W ok o m h => ?_, fun X Z W ok tg e kd src h => ?_⟩
  · rw [trE] at h; cases h
  · rw [trB] at h; cases h
  · cases es with
    | nil => rw [trEs] at h; cases h; exact .nil
    | cons _ _ => rw [trEs] at h; cases h
  · cases o with
    | none =>
      rw [trO] at h
      cases h
      exact pmo_none
    | some _ => rw [trO] at h; cases h
  · rw [trI] at h; cases h
theorem snd_es (ih : Snd C k n) (ok : Ok C k X Z W) {es : List Expr} {ms : List E} (h : trEs Z (n + 1) es = some ms) : EachP X W C es ms := by
  cases es with
  | nil => rw [trEs] at h; cases h; exact .nil
  | cons e es =>
    rw [trEs, Option.bind_eq_some_iff] at h
    obtain ⟨m, h1, h⟩ := h
    rw [Option.bind_eq_some_iff] at h
    obtain ⟨ms', h2, h3⟩ := h
    cases h3
    exact .cons (ih.e X Z W ok _ _ _ h1).1 (ih.e X Z W ok _ _ _ h1).2 (tr_star h1) (ih.es X Z W ok _ _ h2)
theorem snd_o (ih : Snd C k n) (ok : Ok C k X Z W) {o : Option Expr} {m : E} (h : trO Z (n + 1) o = some m) : PO X o (tMO X W fun env st => partO (isOmit m) (evE C m env) st) := by
  cases o with
  | none =>
    rw [trO] at h
    cases h
    exact pmo_none
  | some e =>
    obtain ⟨h1, h2⟩ := trO_some h
    have := pmo_some (ih.e X Z W ok _ _ _ h1).1
    rw [h2]
    exact this
theorem snd_b (ih : Snd C k n) (ok : Ok C k X Z W) {b : Bool} {vs : List Expr} {m : E} {pos : Pos} (h : trB Z (n + 1) b vs = some m) : PE X (.BoolOp (bo b) vs pos) (tM X W (evE C m)) ∧ PW X (.BoolOp (bo b) vs pos) (tMB X W (tst (evE C m))) := by
  cases vs with
  | nil => rw [trB] at h; cases h; all_goals simp
  | cons a r =>
    cases r with
    | nil =>
      rw [trB] at h
      obtain ⟨h1, h2⟩ := ih.e X Z W ok _ _ _ h
      cases b with
      | true => exact ⟨pe_one h1, pw_and1 h2⟩
      | false => exact ⟨pe_one h1, pw_or1 h2⟩
    | cons c r =>
      rw [trB, Option.bind_eq_some_iff] at h
      · obtain ⟨a', h1, h⟩ := h
        rw [Option.bind_eq_some_iff] at h
        obtain ⟨r', h2, h3⟩ := h
        cases h3
        obtain ⟨p1, p2⟩ := ih.e X Z W ok _ _ _ h1
        obtain ⟨q1, q2⟩ := ih.b X Z W ok b _ _ pos h2
        cases b with
        | true => exact ⟨pm_and p1 q1, ptm_and p2 q2⟩
        | false => exact ⟨pm_or p1 q1, ptm_or p2 q2⟩
      · intro z; cases z
theorem snd_i (ih : Snd C k n) (ok : Ok C k X Z W) {tg e : Expr} {kd : IK} {src : List E} (h : trI Z (n + 1) e = some (kd, src)) : PI X tg e (tI X W kd (evEs C src)) ∧ ∀ x, foldedSetIterable e X.env x = pure x := by
  have gen : ∀ {e : Expr}, (trE Z n false e).map (fun e => (IK.seq, [e])) = some (kd, src) → PI X tg e (tI X W kd (evEs C src)) := by
    intro e h
    rw [Option.map_eq_some_iff] at h
    obtain ⟨m, h1, h2⟩ := h
    cases h2
    exact pim_seq (ih.e X Z W ok _ _ _ h1).1
  unfold trI at h
  split at h
  · split at h
    · rename_i hc
      simp only [Bool.and_eq_true, decide_eq_true_eq] at hc
      obtain ⟨⟨rfl, hg⟩, _⟩ := hc
      rw [Option.map_eq_some_iff] at h
      obtain ⟨m, h1, h2⟩ := h
      cases h2
      refine ⟨pim_rng1 (glob_ok ok hg).1 (ok.bi _ (by decide +kernel)) (fun env => tr_star h1 [] env) ?_, fun _ => rfl⟩
      exact pm_cons (tr_star h1 _) (ih.e X Z W ok _ _ _ h1).1 pm_nil
    · exact ⟨gen h, fun _ => rfl⟩
  · split at h
    · rename_i hc
      simp only [Bool.and_eq_true, decide_eq_true_eq] at hc
      obtain ⟨⟨rfl, hg⟩, _⟩ := hc
      rw [Option.bind_eq_some_iff] at h
      obtain ⟨m, h1, h⟩ := h
      rw [Option.map_eq_some_iff] at h
      obtain ⟨m2, h2, h3⟩ := h
      cases h3
      refine ⟨pim_rng2 (glob_ok ok hg).1 (ok.bi _ (by decide +kernel)) (fun env => by rw [tr_star h1, tr_star h2]; rfl) (fun env => tr_star h2 [] env) ?_, fun _ => rfl⟩
      exact pm_cons (tr_star h1 _) (ih.e X Z W ok _ _ _ h1).1 (pm_cons (tr_star h2 _) (ih.e X Z W ok _ _ _ h2).1 pm_nil)
    · exact ⟨gen h, fun _ => rfl⟩
  · cases h
  · rename_i h1 h2 h3
    refine ⟨gen h, fun x => ?_⟩
    cases e <;> first | rfl | exact absurd rfl (h3 _ _ _)
end
end Ev
/-! The translation of expressions is right: each step. -/
namespace Ev
open PySem PySem.Spec PyProof.Rows L2

section
variable {C : Cal} {k n : Nat} {X : Cx} {Z : Zt} {W : WX}
theorem isNoneC_ok {b : Expr} (h : isNoneC b = true) : ∃ j p, b = .Constant .none j p := by
  unfold isNoneC at h
  split at h
  · exact ⟨_, _, rfl⟩
  · cases h
theorem pats_mem {p : Nat × List Str} (h : Z.pats.contains p = true) : p ∈ Z.pats := List.contains_iff_mem.mp h
theorem snd_call (ih : Snd C k n) (ok : Ok C k X Z W) {x : Str} {q pos : Pos} {args : List Expr} {kws : List Keyword} {m : E} {al : Bool} (h : trE Z (n + 1) al (.Call (.Name x q) args kws pos) = some m) : PE X (.Call (.Name x q) args kws pos) (tM X W (evE C m)) := by
  unfold trE at h
  dsimp only at h
  split at h
  · rename_i hx
    subst hx
    split at h
    · rename_i a t p
      split at h
      · rename_i hc
        rw [Bool.and_eq_true] at hc
        rw [Option.bind_eq_some_iff] at h
        obtain ⟨ty, h1, h⟩ := h
        rw [Option.map_eq_some_iff] at h
        obtain ⟨a', h2, rfl⟩ := h
        obtain ⟨g1, g2, g3⟩ := glob_ok ok hc.1
        obtain ⟨t1, t2, t3⟩ := glob_ok ok hc.2
        have hmt : X.mg t = none := by
          refine ok.bi t ?_
          unfold tyOf at h1
          by_cases hz : t = "int"
          · rw [hz]; decide +kernel
          rw [if_neg hz] at h1
          by_cases hz : t = "bool"
          · rw [hz]; decide +kernel
          rw [if_neg hz] at h1
          by_cases hz : t = "str"
          · rw [hz]; decide +kernel
          rw [if_neg hz] at h1
          by_cases hz : t = "tuple"
          · rw [hz]; decide +kernel
          rw [if_neg hz] at h1
          by_cases hz : t = "list"
          · rw [hz]; decide +kernel
          rw [if_neg hz] at h1
          by_cases hz : t = "dict"
          · rw [hz]; decide +kernel
          rw [if_neg hz] at h1
          cases h1
        exact pm_isi g1 (ok.bi _ (by decide +kernel)) h1 t1 hmt t3 t2 (tr_star h2) (ih.e X Z W ok _ _ _ h2).1
      · cases h
    · cases h
  · split at h
    · rename_i e es
      rw [Option.bind_eq_some_iff] at h
      obtain ⟨ms, h1, h⟩ := h
      have each := ih.es X Z W ok _ _ h1
      cases each with
      | cons hp hb hs ht =>
        rename_i m1 ms
        have each : EachP X W C (e :: es) (m1 :: ms) := .cons hp hb hs ht
        split at h
        · rename_i i hi
          cases h
          obtain ⟨s1, s2, s3, s4⟩ := slot_ok ok hi
          have := pm_callv (W := W) (T := C.all) ok.al ok.room ok.gd ok.tk s1 s2 s3 s4 (q := q) (pos := pos) (hs _) ht.noStar each.pa
          exact this
        · split at h
          · rename_i hg
            obtain ⟨g1, g2, g3⟩ := glob_ok ok hg
            split at h
            · rename_i hd
              cases h
              obtain ⟨f, F⟩ := ok.df x (List.contains_iff_mem.mp hd)
              exact pm_call F ok.room ok.gd ok.tk g1 g2 (hs _) ht.noStar each.pa
            · rw [Option.map_eq_some_iff] at h
              obtain ⟨p, hp1, rfl⟩ := h
              have hmx : X.mg x = none := by
                refine ok.bi x ?_
                unfold primOf at hp1
                by_cases hz : x = "len" ∧ (m1 :: ms).length = 1
                · rw [hz.1]; decide +kernel
                rw [if_neg hz] at hp1
                by_cases hz : x = "abs" ∧ (m1 :: ms).length = 1
                · rw [hz.1]; decide +kernel
                rw [if_neg hz] at hp1
                by_cases hz : x = "max" ∧ (m1 :: ms).length = 2
                · rw [hz.1]; decide +kernel
                rw [if_neg hz] at hp1
                by_cases hz : x = "min" ∧ (m1 :: ms).length = 2
                · rw [hz.1]; decide +kernel
                rw [if_neg hz] at hp1
                by_cases hz : x = "int" ∧ (m1 :: ms).length = 1
                · rw [hz.1]; decide +kernel
                rw [if_neg hz] at hp1
                by_cases hz : x = "repr" ∧ (m1 :: ms).length = 1
                · rw [hz.1]; decide +kernel
                rw [if_neg hz] at hp1
                by_cases hz : x = "divmod" ∧ (m1 :: ms).length = 2
                · rw [hz.1]; decide +kernel
                rw [if_neg hz] at hp1
                by_cases hz : x = "sum" ∧ (m1 :: ms).length = 1
                · rw [hz.1]; decide +kernel
                rw [if_neg hz] at hp1
                by_cases hz : x = "all" ∧ (m1 :: ms).length = 1
                · rw [hz.1]; decide +kernel
                rw [if_neg hz] at hp1
                by_cases hz : x = "any" ∧ (m1 :: ms).length = 1
                · rw [hz.1]; decide +kernel
                rw [if_neg hz] at hp1
                by_cases hz : x = "tuple" ∧ (m1 :: ms).length = 1
                · rw [hz.1]; decide +kernel
                rw [if_neg hz] at hp1
                by_cases hz : x = "list" ∧ (m1 :: ms).length = 1
                · rw [hz.1]; decide +kernel
                rw [if_neg hz] at hp1
                cases hp1
              exact pm_pr ok.calm ok.gd (hu_ok ok) hp1 g1 hmx g3 g2 (hs _) ht.noStar each.pa
          · cases h
    · rename_i kw kws
      rw [Option.bind_eq_some_iff] at h
      obtain ⟨ks, h1, h⟩ := h
      rw [Option.bind_eq_some_iff] at h
      obtain ⟨es, h2, h⟩ := h
      rw [Option.bind_eq_some_iff] at h
      obtain ⟨ws, h3, h⟩ := h
      have e1 := ih.es X Z W ok _ _ h2
      have e2 := ih.es X Z W ok _ _ h3
      obtain ⟨k1, k2, k3⟩ := kwNames h1
      have hl2 : (kw :: kws).length = ws.length := by rw [← e2.len, List.length_map]
      have hz : (args = [] ∧ ∀ (env : Env) (st : Sto), evEs C es env st = .ok [] st) ∨ ∃ e es', args = e :: es' ∧ (∀ env : PySem.Env, starEach (e :: es') env = (false, eval e env) :: starEach es' env) := by
        cases e1 with
        | nil => exact .inl ⟨rfl, fun _ _ => rfl⟩
        | cons hp hb hs ht => exact .inr ⟨_, _, rfl, hs _⟩
      have hsplit : (fun (env : Env) (st : Sto) => (evEs C es env st).bnd fun ds st => (evEs C ws env st).bnd fun zs st => callC C x ks (ds ++ zs) st) = fun env st => (evEs C (es ++ ws) env st).bnd fun ds st => callC C x ks ds st := by
        funext env st
        rw [evEs_append, bnd_assoc]
        congr 1
        funext ds st1
        rw [bnd_assoc]
        rfl
      split at h
      · rename_i hp
        split at h
        · rename_i i hi
          cases h
          obtain ⟨s1, s2, s3, s4⟩ := slot_ok ok hi
          have := pm_callvk (W := W) (T := C.all) (rs := evEs C es) (rw := evEs C ws) ok.al ok.room ok.gd ok.tk s1 s2 s3 s4 (q := q) (pos := pos) k1 k2 hz e1.noStar (pats_mem hp) k3 (fun _ _ _ _ e => by rw [evEs_len e, e1.len]) (fun _ _ _ _ e => by rw [evEs_len e, hl2]) e1.pa e2.pk
          have hs2 : (fun (env : Env) (st : Sto) => match env[i]? with
              | some (some (.fn g)) => if C.all.contains g then (evEs C es env st).bnd fun ds st => (evEs C ws env st).bnd fun zs st => callC C g ks (ds ++ zs) st else .bad
              | _ => .bad) = evE C (.callv i ks (es ++ ws)) := by
            funext env st
            show _ = (match env[i]? with
              | some (some (.fn g)) => if C.all.contains g then (evEs C (es ++ ws) env st).bnd fun ds st => callC C g ks ds st else .bad
              | _ => .bad)
            split
            · split
              · rw [evEs_append, bnd_assoc]
                congr 1
                funext ds st1
                rw [bnd_assoc]
                rfl
              · rfl
            · rfl
          exact (congrArg (fun r => PE X (.Call (.Name x q) args (kw :: kws) pos) (tM X W r)) hs2).mp this
        · split at h
          · rename_i hc
            rw [Bool.and_eq_true] at hc
            cases h
            obtain ⟨g1, g2, g3⟩ := glob_ok ok hc.1
            obtain ⟨f, F⟩ := ok.df x (List.contains_iff_mem.mp hc.2)
            have := pm_callk (rs := evEs C es) (rw := evEs C ws) F ok.room ok.gd ok.tk g1 g2 (q := q) (pos := pos) k1 k2 hz e1.noStar (pats_mem hp) k3 (fun _ _ _ _ e => by rw [evEs_len e, e1.len]) (fun _ _ _ _ e => by rw [evEs_len e, hl2]) e1.pa e2.pk
            rw [hsplit] at this
            exact this
          · cases h
      · cases h
    · cases h
end
end Ev
/-! The translation of expressions is right: all together. -/
namespace Ev
open PySem PySem.Spec PyProof.Rows L2

section
variable {C : Cal} {k n : Nat} {X : Cx} {Z : Zt} {W : WX}
abbrev Both (X : Cx) (W : WX) (C : Cal) (e : Expr) (m : E) : Prop := PE X e (tM X W (evE C m)) ∧ PT X e (tMB X W (tst (evE C m)))
theorem both {e : Expr} {m : E} (h : PE X e (tM X W (evE C m))) (ht : ∀ whole, PySem.isTrue e X.env whole = (do let v ← whole; standAt e.pos; holding [v] (truthy v))) : Both X W C e m := ⟨h, ptm_truth ht h⟩
theorem keysOf_len : ∀ {ks : List (Option Expr)} {kk : List Key}, keysOf ks = some kk → ks.length = kk.length
  | [], _, h => by cases h; rfl
  | o :: r, kk, h => by
    unfold keysOf at h
    split at h
    · rename_i hq; cases hq
    · rename_i heq
      cases heq
      rw [Option.map_eq_some_iff] at h
      obtain ⟨r', h1, rfl⟩ := h
      rw [List.length_cons, List.length_cons, keysOf_len h1]
    · rename_i heq
      cases heq
      rw [Option.map_eq_some_iff] at h
      obtain ⟨r', h1, rfl⟩ := h
      rw [List.length_cons, List.length_cons, keysOf_len h1]
    · cases h
theorem snd_e (ih : Snd C k n) (ok : Ok C k X Z W) {al : Bool} {e : Expr} {m : E} (h : trE Z (n + 1) al e = some m) : Both X W C e m := by
  have bt : ∀ {e : Expr} {m : E}, PE X e (tM X W (evE C m)) → (∀ whole, PySem.isTrue e X.env whole = (do let v ← whole; standAt e.pos; holding [v] (truthy v))) → Both X W C e m := fun h ht => ⟨h, ptm_truth ht h⟩
  have hcall : ∀ {f : Expr} {args : List Expr} {kws : List Keyword} {pos : Pos}, e = .Call f args kws pos → Both X W C e m := by
    intro f args kws pos he
    subst he
    cases f with
    | Name x q => exact bt (snd_call ih ok h) fun _ => rfl
    | Attribute o mn apos =>
      cases args with
      | nil => unfold trE at h; cases h
      | cons a r =>
        cases r with
        | cons _ _ => unfold trE at h; cases h
        | nil =>
          cases kws with
          | cons _ _ => unfold trE at h; cases h
          | nil =>
            unfold trE at h
            dsimp only at h
            split at h
            · rename_i hc
              rw [Bool.and_eq_true] at hc
              split at h
              · rename_i hm
                subst hm
                rw [Option.bind_eq_some_iff] at h
                obtain ⟨o', h1, h⟩ := h
                rw [Option.bind_eq_some_iff] at h
                obtain ⟨a', h2, h⟩ := h
                cases h
                exact bt (pm_app hc.2 hc.1 (fun env => tr_star h2 [] env) (ih.e X Z W ok _ _ _ h1).1 (ih.e X Z W ok _ _ _ h2).1) fun _ => rfl
              · split at h
                · rename_i hm
                  subst hm
                  rw [Option.bind_eq_some_iff] at h
                  obtain ⟨o', h1, h⟩ := h
                  rw [Option.bind_eq_some_iff] at h
                  obtain ⟨a', h2, h⟩ := h
                  cases h
                  exact bt (pm_ext hc.2 hc.1 (fun env => tr_star h2 [] env) (ih.e X Z W ok _ _ _ h1).1 (ih.e X Z W ok _ _ _ h2).1) fun _ => rfl
                · cases h
            · cases h
    | _ => unfold trE at h; cases h
  cases e with
  | Constant c j p =>
    cases c with
    | none => rw [trE] at h; cases h; exact bt pm_non fun _ => rfl
    | bool b => rw [trE] at h; cases h; exact bt pm_bl fun _ => rfl
    | int i => rw [trE] at h; cases h; exact bt pm_int fun _ => rfl
    | str x => rw [trE] at h; cases h; exact bt pm_str fun _ => rfl
    | _ => simp [trE] at h
  | Name x p =>
    rw [trE] at h
    split at h
    · rename_i i hi
      cases h
      obtain ⟨s1, s2, s3, s4⟩ := slot_ok ok hi
      exact bt (pm_var s1 s2 s3 s4) fun _ => rfl
    · split at h
      · rename_i hg
        obtain ⟨g1, g2, g3⟩ := glob_ok ok hg
        split at h
        · rename_i hd
          cases h
          obtain ⟨f, F⟩ := ok.df x (List.contains_iff_mem.mp hd)
          exact bt (pm_fn g1 F.at_ g2) fun _ => rfl
        · rw [Option.map_eq_some_iff] at h
          obtain ⟨d, h1, rfl⟩ := h
          obtain ⟨v, u, c1, c2, c3⟩ := ok.co x d h1
          exact bt (pm_co g1 c1 c2 c3 g2) fun _ => rfl
      · cases h
  | BinOp a o b p =>
    rw [trE, Option.bind_eq_some_iff] at h
    obtain ⟨bo', h1, h⟩ := h
    rw [Option.bind_eq_some_iff] at h
    obtain ⟨a', h2, h⟩ := h
    rw [Option.bind_eq_some_iff] at h
    obtain ⟨b', h3, h⟩ := h
    cases h
    exact bt (pm_bin h1 (ih.e X Z W ok _ _ _ h2).1 (ih.e X Z W ok _ _ _ h3).1) fun _ => rfl
  | UnaryOp o a p =>
    cases o with
    | USub =>
      rw [trE, Option.map_eq_some_iff] at h
      obtain ⟨a', h1, rfl⟩ := h
      exact bt (pm_neg (ih.e X Z W ok _ _ _ h1).1) fun _ => rfl
    | Not =>
      rw [trE, Option.map_eq_some_iff] at h
      obtain ⟨a', h1, rfl⟩ := h
      obtain ⟨p1, p2⟩ := ih.e X Z W ok _ _ _ h1
      exact ⟨pm_not p1, ptm_not p2⟩
    | _ => simp [trE] at h
  | BoolOp o vs p =>
    cases o with
    | And =>
      rw [trE] at h
      obtain ⟨p1, p2⟩ := ih.b X Z W ok true _ _ p h
      exact ⟨p1, p2.pt⟩
    | Or =>
      rw [trE] at h
      obtain ⟨p1, p2⟩ := ih.b X Z W ok false _ _ p h
      exact ⟨p1, p2.pt⟩
  | IfExp t a b p =>
    rw [trE, Option.bind_eq_some_iff] at h
    obtain ⟨t', h1, h⟩ := h
    rw [Option.bind_eq_some_iff] at h
    obtain ⟨a', h2, h⟩ := h
    rw [Option.bind_eq_some_iff] at h
    obtain ⟨b', h3, h⟩ := h
    cases h
    obtain ⟨p1, p2⟩ := ih.e X Z W ok _ _ _ h1
    obtain ⟨q1, q2⟩ := ih.e X Z W ok _ _ _ h2
    obtain ⟨r1, r2⟩ := ih.e X Z W ok _ _ _ h3
    exact ⟨pm_ite p2 q1 r1, ptm_ite p2 q2 r2⟩
  | Compare a os bs p =>
    have one : ∀ {o : CmpOp} {b : Expr}, o ≠ .Is → o ≠ .IsNot → trE Z (n + 1) al (.Compare a [o] [b] p) = (if notSet b then (copOf o).bind fun o => (trE Z n false a).bind fun a => (trE Z n false b).bind fun b => some (.cmp o a b) else none) := by
      intro o b h1 h2
      cases o <;> first | exact absurd rfl h1 | exact absurd rfl h2 | rw [trE]
      all_goals first | (intro z; cases z) | skip
    have fin1 : ∀ {o : CmpOp} {b : Expr}, o ≠ .Is → o ≠ .IsNot → trE Z (n + 1) al (.Compare a [o] [b] p) = some m → Both X W C (.Compare a [o] [b] p) m := by
      intro o b h1 h2 h
      rw [one h1 h2] at h
      split at h
      · rename_i hn
        rw [Option.bind_eq_some_iff] at h
        obtain ⟨co, g1, h⟩ := h
        rw [Option.bind_eq_some_iff] at h
        obtain ⟨a', g2, h⟩ := h
        rw [Option.bind_eq_some_iff] at h
        obtain ⟨b', g3, h⟩ := h
        cases h
        have pa := (ih.e X Z W ok _ _ _ g2).1
        have pb := (ih.e X Z W ok _ _ _ g3).1
        exact ⟨pm_cmp (hu_ok ok) hn g1 pa pb, ptm_cmp (hu_ok ok) hn g1 pa pb⟩
      · cases h
    cases os with
    | nil => simp [trE] at h
    | cons o os =>
      cases os with
      | nil =>
        cases bs with
        | nil => cases o <;> simp [trE] at h
        | cons b bs =>
          cases bs with
          | cons _ _ => cases o <;> simp [trE] at h
          | nil =>
            cases o with
            | Is =>
              rw [trE] at h
              split at h
              · rename_i hn
                obtain ⟨j, q, rfl⟩ := isNoneC_ok hn
                rw [Option.map_eq_some_iff] at h
                obtain ⟨a', h1, rfl⟩ := h
                have pa := (ih.e X Z W ok _ _ _ h1).1
                exact ⟨pm_isN pa, ptm_isN pa⟩
              · cases h
            | IsNot =>
              rw [trE] at h
              split at h
              · rename_i hn
                obtain ⟨j, q, rfl⟩ := isNoneC_ok hn
                rw [Option.map_eq_some_iff] at h
                obtain ⟨a', h1, rfl⟩ := h
                have pa := (ih.e X Z W ok _ _ _ h1).1
                exact ⟨pm_notN pa, ptm_notN pa⟩
              · cases h
            | _ => exact fin1 (by intro z; cases z) (by intro z; cases z) h
      | cons o2 os =>
        cases os with
        | cons _ _ => cases o <;> simp [trE] at h
        | nil =>
          cases bs with
          | nil => cases o <;> simp [trE] at h
          | cons b bs =>
            cases bs with
            | nil => cases o <;> simp [trE] at h
            | cons c bs =>
              cases bs with
              | cons _ _ => cases o <;> simp [trE] at h
              | nil =>
                rw [trE] at h
                split at h
                · rename_i hn
                  rw [Option.bind_eq_some_iff] at h
                  obtain ⟨co, g1, h⟩ := h
                  rw [Option.bind_eq_some_iff] at h
                  obtain ⟨cp, g2, h⟩ := h
                  rw [Option.bind_eq_some_iff] at h
                  obtain ⟨a', g3, h⟩ := h
                  rw [Option.bind_eq_some_iff] at h
                  obtain ⟨b', g4, h⟩ := h
                  rw [Option.bind_eq_some_iff] at h
                  obtain ⟨c', g5, h⟩ := h
                  cases h
                  have pa := (ih.e X Z W ok _ _ _ g3).1
                  have pb := (ih.e X Z W ok _ _ _ g4).1
                  have pc := (ih.e X Z W ok _ _ _ g5).1
                  exact ⟨pm_chain (hu_ok ok) hn g1 g2 pa pb pc, ptm_chain (hu_ok ok) hn g1 g2 pa pb pc⟩
                · cases h
  | Tuple es j p =>
    rw [trE, Option.map_eq_some_iff] at h
    obtain ⟨es', h1, rfl⟩ := h
    exact bt (pm_tup (ih.es X Z W ok _ _ h1).pa) fun _ => rfl
  | List es p =>
    rw [trE, Option.map_eq_some_iff] at h
    obtain ⟨es', h1, rfl⟩ := h
    exact bt (pm_lst (ih.es X Z W ok _ _ h1).pa) fun _ => rfl
  | Dict ks es p =>
    rw [trE, Option.bind_eq_some_iff] at h
    obtain ⟨kk, h1, h⟩ := h
    rw [Option.bind_eq_some_iff] at h
    obtain ⟨es', h2, h⟩ := h
    split at h
    · rename_i hc
      cases h
      have each := ih.es X Z W ok _ _ h2
      rw [Bool.and_eq_true, decide_eq_true_eq, decide_eq_true_eq] at hc
      by_cases h0 : kk = []
      · subst h0
        have hk0 : ks = [] := by
          cases ks with
          | nil => rfl
          | cons o r =>
            unfold keysOf at h1
            split at h1
            · rename_i hq; cases hq
            · rw [Option.map_eq_some_iff] at h1
              obtain ⟨_, _, z⟩ := h1
              cases z
            · rw [Option.map_eq_some_iff] at h1
              obtain ⟨_, _, z⟩ := h1
              cases z
            · cases h1
        subst hk0
        cases each with
        | cons _ _ _ _ => cases hc.1
        | nil => exact bt pm_dct0 fun _ => rfl
      · have hk0 : ks ≠ [] := fun z => by
          subst z
          cases h1
          exact h0 rfl
        have hkl : ks.length = kk.length := keysOf_len h1
        have := pm_dct (al := al) (pos := p) h1 each.each (by rw [hc.1, each.len]) hk0 (by rw [hkl]; exact hc.2)
        rw [seqR_map] at this
        exact bt this fun _ => rfl
    · cases h
  | Subscript a b p =>
    have plain : plainIx b = true → trE Z (n + 1) al (.Subscript a b p) = some m → Both X W C (.Subscript a b p) m := by
      intro hp h
      have e : trE Z (n + 1) al (.Subscript a b p) = (if plainIx b then (trE Z n false a).bind fun a => (trE Z n false b).bind fun b => some (.ix a b) else none) := by
        cases b with
        | Slice _ _ _ _ => cases hp
        | _ => rfl
      rw [e, if_pos hp, Option.bind_eq_some_iff] at h
      obtain ⟨a', h1, h⟩ := h
      rw [Option.bind_eq_some_iff] at h
      obtain ⟨b', h2, h⟩ := h
      cases h
      exact bt (pm_ix hp (ih.e X Z W ok _ _ _ h1).1 (ih.e X Z W ok _ _ _ h2).1) fun _ => rfl
    cases b with
    | Slice lo hi stp p2 =>
      cases stp with
      | some _ =>
        unfold trE at h
        cases h
      | none =>
        rw [trE, Option.bind_eq_some_iff] at h
        obtain ⟨a', h1, h⟩ := h
        rw [Option.bind_eq_some_iff] at h
        obtain ⟨lo', h2, h⟩ := h
        rw [Option.bind_eq_some_iff] at h
        obtain ⟨hi', h3, h⟩ := h
        cases h
        exact bt (pm_sl (ih.e X Z W ok _ _ _ h1).1 (ih.o X Z W ok _ _ h2) (ih.o X Z W ok _ _ h3)) fun _ => rfl
    | _ => exact plain rfl h
  | ListComp elt gs sc p =>
    unfold trE at h
    dsimp only at h
    split at h
    · rename_i g
      obtain ⟨t, it, ifs, asy⟩ := g
      split at h
      · rename_i hc
        obtain ⟨ha, hb⟩ := hc
        dsimp only at ha h
        subst ha
        rw [Option.bind_eq_some_iff] at h
        obtain ⟨t', h1, h⟩ := h
        rw [Option.bind_eq_some_iff] at h
        obtain ⟨⟨kd, src⟩, h2, h⟩ := h
        rw [Option.bind_eq_some_iff] at h
        obtain ⟨ifs', h3, h⟩ := h
        split at h
        · rename_i hl
          rw [Option.bind_eq_some_iff] at h
          obtain ⟨elt', h4, h⟩ := h
          cases h
          obtain ⟨i1, i2⟩ := ih.i X Z W ok t it kd src h2
          have hbk : BlkOk X.N X.env.scope sc (ownOf Z.N sc.names) := by
            rw [ok.N, ok.sc]
            exact blkOk_by hb
          have okb := fun (s : Shared) (H : Hp) (a : Addr) (cl : List (Str × Addr)) (fp : List Addr) => ok.blk hb s H a cl fp
          have hsl : ∀ i ∈ slotsT t', i ∈ (ownOf Z.N sc.names).map (·.2) := by
            intro i hi
            obtain ⟨x, hx, hix⟩ := ((trTN_ok (okb X.s_0 X.H_0 0 [] []) n).1 _ _ h1).2.1 i hi
            obtain ⟨j, hj⟩ := own_fst hx
            have := (own_mem hj).1
            rw [hix] at this
            cases this
            exact List.mem_map.mpr ⟨_, hj, rfl⟩
          have hts : ∀ (s : Shared) (H : Hp) (a : Addr) (cl : List (Str × Addr)) (fp : List Addr), PTs (X.blk s H sc (compEnvC sc cl a X.env) fp) ifs (tMB X W0 (evTs C ifs')) := by
            intro s H a cl fp
            have each := ih.es _ _ W0 (okb s H a cl fp) _ _ h3
            cases each with
            | nil => exact ptsm_nil
            | cons hp hb hs ht =>
              cases ht with
              | cons _ _ _ _ => exact absurd hl (by simp)
              | nil =>
                rename_i e1 m1
                have e : evTs C [m1] = tst (evE C m1) := by
                  funext env st
                  show ((evE C m1 env st).bnd fun x st => (opt (truth st x) st).bnd fun k st => if k then evTs C [] env st else .ok false st) = (evE C m1 env st).bnd fun x st => opt (truth st x) st
                  congr 1
                  funext x st1
                  cases truth st1 x with
                  | none => rfl
                  | some k => cases k <;> rfl
                rw [e]
                exact ptsm_one hb
          exact bt (pm_comp ok.calm ok.nd i1 hbk i2 hsl (fun s H a cl fp => ((trTN_ok (okb s H a cl fp) n).1 _ _ h1).1) hts fun s H a cl fp => (ih.e _ _ W0 (okb s H a cl fp) _ _ _ h4).1) fun _ => rfl
        · cases h
      · cases h
    · cases h
  | Call f args kws p => exact hcall rfl
  | _ => simp [trE] at h
/-- every expression that is translated -/
theorem snd_all : ∀ n : Nat, Snd C k n
  | 0 => snd0
  | n + 1 => ⟨fun _ _ _ ok _ _ _ h => snd_e (snd_all n) ok h, fun _ _ _ ok _ _ _ _ h => snd_b (snd_all n) ok h, fun _ _ _ ok _ _ h => snd_es (snd_all n) ok h, fun _ _ _ ok _ _ h => snd_o (snd_all n) ok h, fun _ _ _ ok _ _ _ _ h => snd_i (snd_all n) ok h⟩
end
end Ev
/-! Statements. -/
namespace Ev
open PySem PySem.Spec PyProof.Rows L2

section
variable (K : PySem.W.Frag) (mg : Str → Option Value)
/-- what a statement's outcome brings -/
def FinR (W : WX) (ρ π : List Addr) (H : Hp) (o : R) (D : Ends) : Prop := match o with
  | .nx env st => ∀ ρ' H' σ', Ext ρ H ρ' H' → SR K mg ρ' π H' st → RE K mg ρ' π H' env σ' → D.nx σ' H'
  | .bk env st => ∀ ρ' H' σ', Ext ρ H ρ' H' → SR K mg ρ' π H' st → RE K mg ρ' π H' env σ' → D.bk σ' H'
  | .ct env st => ∀ ρ' H' σ', Ext ρ H ρ' H' → SR K mg ρ' π H' st → RE K mg ρ' π H' env σ' → D.ct σ' H'
  | .rt d st => ∀ ρ' H' v, Ext ρ H ρ' H' → SR K mg ρ' π H' st → RD K mg ρ' π H' d v → D.rt v H'
  | .ex c d env st => ∀ ρ' H' σ' Cc da v, Ext ρ H ρ' H' → SR K mg ρ' π H' st → RE K mg ρ' π H' env σ' → mg c = some (.ref Cc) → H' da = some (.xd [("value", v)]) → RD K mg ρ' π H' d v → W (.ref Cc) (some da) σ' H'
  | .bad => False
end
section
variable {K : PySem.W.Frag} {mg : Str → Option Value} {W : WX} {ρ ρ' π : List Addr} {H H' : Hp} {o : R} {Dd De : Ends}
theorem FinR.ext (h : FinR K mg W ρ π H o Dd) (x : Ext ρ H ρ' H') : FinR K mg W ρ' π H' o Dd := by
  cases o with
  | nx e s => exact fun ρ2 H2 σ y => h ρ2 H2 σ (x.trans y)
  | bk e s => exact fun ρ2 H2 σ y => h ρ2 H2 σ (x.trans y)
  | ct e s => exact fun ρ2 H2 σ y => h ρ2 H2 σ (x.trans y)
  | rt d s => exact fun ρ2 H2 v y => h ρ2 H2 v (x.trans y)
  | ex c v e s => exact fun ρ2 H2 σ Cc da u y => h ρ2 H2 σ Cc da u (x.trans y)
  | bad => exact h
theorem FinR.bnd {α β : Type} {Rel : List Addr → Hp → α → β → Prop} {o : Out α} {f : α → Sto → R} {env : Env} {st : Sto} {σ : L2.St} {P : β → Hp → Prop} (h : FinR K mg W ρ π H (o.toR env f) Dd) (S : SR K mg ρ π H st) (E : RE K mg ρ π H env σ)
    (k : ∀ a st1 ρ1 H1 v, o = .ok a st1 → Ext ρ H ρ1 H1 → SR K mg ρ1 π H1 st1 → Rel ρ1 H1 a v → FinR K mg W ρ1 π H1 (f a st1) Dd → P v H1) : Fin K mg Rel (fun c d H => W c d σ H) ρ π H o P := by
  cases o with
  | ok a st1 => exact fun ρ1 H1 v x S1 r => k a st1 ρ1 H1 v rfl x S1 r (FinR.ext h x)
  | ex c d st1 => exact fun ρ1 H1 Cc da v x S1 hm hd r => h ρ1 H1 σ Cc da v x S1 (E.mono x S.muts) hm hd r
  | bad => exact h
end

/-- a statement's reading -/
def tS (X : Cx) (W : WX) (r : Env → Sto → R) : TS := fun D σ H => ∃ ρ π env st, SR X.K X.mg ρ π H st ∧ RE X.K X.mg ρ π H env σ ∧ FinR X.K X.mg W ρ π H (r env st) D

section
variable {X : Cx} {W : WX} {e : Expr} {pos : Pos} {re : Env → Sto → Out D}
theorem psm_next : PSs X [] (tS X W fun env st => .nx env st) := pss_nil.imp fun D σ H ⟨ρ, π, env, st, S, E, F⟩ => F ρ H σ (Ext.refl _ _) S E
theorem psm_pass : PS X (.Pass pos) (tS X W fun env st => .nx env st) := ps_pass.imp fun D σ H ⟨ρ, π, env, st, S, E, F⟩ => F ρ H σ (Ext.refl _ _) S E
theorem psm_doc {x : Str} {j : Nat} {p1 p2 : Pos} : PS X (.Expr (.Constant (.str x) j p1) p2) (tS X W fun env st => .nx env st) := ps_doc.imp fun D σ H ⟨ρ, π, env, st, S, E, F⟩ => F ρ H σ (Ext.refl _ _) S E
theorem psm_brk : PS X (.Break pos) (tS X W fun env st => .bk env st) := ps_break.imp fun D σ H ⟨ρ, π, env, st, S, E, F⟩ => F ρ H σ (Ext.refl _ _) S E
theorem psm_cont : PS X (.Continue pos) (tS X W fun env st => .ct env st) := ps_continue.imp fun D σ H ⟨ρ, π, env, st, S, E, F⟩ => F ρ H σ (Ext.refl _ _) S E
theorem psm_retN : PS X (.Return none pos) (tS X W fun _ st => .rt .non st) := ps_retN.imp fun D σ H ⟨ρ, π, env, st, S, E, F⟩ => F ρ H .non (Ext.refl _ _) S .non
theorem psm_ret (he : PE X e (tM X W re)) : PS X (.Return (some e) pos) (tS X W fun env st => (re env st).toR env fun d st => .rt d st) := by
  refine (ps_ret he).imp fun D σ H ⟨ρ, π, env, st, S, E, F⟩ => ⟨ρ, π, env, st, S, E, F.bnd S E fun d st1 ρ1 H1 v _ x S1 r F1 => ?_⟩
  exact F1 ρ1 H1 v (Ext.refl _ _) S1 r
theorem swaps_none {tg : Option Expr} {l : Nat} {env : PySem.Env} (h : isComp e = false) : swapsWith e tg l env = pure false := by
  cases e <;> first | rfl | cases h
theorem psm_expr (hc : isComp e = false) (he : PE X e (tM X W re)) : PS X (.Expr e pos) (tS X W fun env st => (re env st).toR env fun _ st => .nx env st) := by
  refine (ps_expr he (swaps_none hc)).imp fun D σ H ⟨ρ, π, env, st, S, E, F⟩ => ⟨ρ, π, env, st, S, E, F.bnd S E fun d st1 ρ1 H1 v _ x S1 r F1 => ?_⟩
  exact F1 ρ1 H1 σ (Ext.refl _ _) S1 (E.mono x S.muts)
theorem psm_cons {s : Stmt} {ss : List Stmt} {r1 r2 : Env → Sto → R} (h1 : PS X s (tS X W r1)) (h2 : PSs X ss (tS X W r2)) : PSs X (s :: ss) (tS X W fun env st => (r1 env st).seq fun env st => r2 env st) := by
  refine (pss_cons h1 h2).imp fun D σ H ⟨ρ, π, env, st, S, E, F⟩ => ⟨ρ, π, env, st, S, E, ?_⟩
  dsimp only at F
  cases hr : r1 env st with
  | nx e s =>
    rw [hr] at F
    exact fun ρ' H' σ' x S1 E1 => ⟨ρ', π, e, s, S1, E1, FinR.ext F x⟩
  | bk e s => rw [hr] at F; exact F
  | ct e s => rw [hr] at F; exact F
  | rt d s => rw [hr] at F; exact F
  | ex c v e s => rw [hr] at F; exact F
  | bad => rw [hr] at F; exact F
theorem psm_if {t : Expr} {a b : List Stmt} {rt : Env → Sto → Out Bool} {ra rb : Env → Sto → R} (ht : PT X t (tMB X W rt)) (ha : PSs X a (tS X W ra)) (hb : PSs X b (tS X W rb)) :
    PS X (.If t a b pos) (tS X W fun env st => (rt env st).toR env fun k st => if k then ra env st else rb env st) := by
  refine (ps_if ht ha hb).imp fun D σ H ⟨ρ, π, env, st, S, E, F⟩ => ⟨ρ, π, env, st, S, E, F.bnd S E fun k st1 ρ1 H1 v _ x S1 r F1 => ?_⟩
  cases r
  cases k with
  | true => exact ⟨ρ1, π, env, st1, S1, E.mono x S.muts, F1⟩
  | false => exact ⟨ρ1, π, env, st1, S1, E.mono x S.muts, F1⟩
theorem psm_for {t : TN} {k : IK} {rs : Env → Sto → Out (List D)} {tg iter : Expr} {body : List Stmt} {rb : Env → Sto → R} (hp : PassesOwn (model X.prog X.w) X.A X.env X.xe) (hc : X.calm = true) (hi : PI X tg iter (tI X W k rs)) (hg : PG X tg (tG X t)) (hb : PSs X body (tS X W rb))
    (hs : ∀ x, foldedSetIterable iter X.env x = pure x) : PS X (.For tg iter body [] pos) (tS X W fun env st => (rs env st).toR env fun ds st => match itOf k ds st with
      | none => .bad
      | some J => forI J (fun d env st => match setT t d env with
        | none => .bad
        | some env => rb env st) turns 0 env st) := by
  refine (ps_for hp hc hi hg hb hs).imp fun D σ H ⟨ρ, π, env, st, S, E, F⟩ => ⟨ρ, π, env, st, S, E, ?_⟩
  dsimp only at F
  cases hr : rs env st with
  | bad => rw [hr] at F; exact F
  | ex c d st1 => rw [hr] at F; exact fun ρ' H' Cc da v x S1 hm hd r => F ρ' H' σ Cc da v x S1 (E.mono x S.muts) hm hd r
  | ok ds st1 =>
    rw [hr] at F
    simp only [Out.toR] at F
    dsimp only
    split at F
    · exact F.elim
    · rename_i J hJ
      refine ⟨⟨J, hJ⟩, fun ρ1 H1 vs I x1 S1 r1 hI => ?_⟩
      have F1 := FinR.ext F x1
      refine ⟨fun i m σc Hc => ∃ ρc envc stc, Ext ρ1 H1 ρc Hc ∧ SR X.K X.mg ρc π Hc stc ∧ RE X.K X.mg ρc π Hc envc σc ∧ RDs X.K X.mg ρc π Hc ds vs ∧ FinR X.K X.mg W ρ1 π H1 (forI J (fun d env st => match setT t d env with
        | none => .bad
        | some env => rb env st) m i envc stc) D, ⟨turns, ρ1, env, st1, Ext.refl _ _, S1, E.mono x1 S.muts, r1, F1⟩, fun i m σc Hc hW => ?_⟩
      obtain ⟨ρc, envc, stc, xc, Sc, Ec, rc, Fc⟩ := hW
      cases m with
      | zero => exact Fc.elim
      | succ m =>
        have hturn := it_ok hJ hI Sc rc i
        unfold forI at Fc
        cases hj : J i stc with
        | none => rw [hj] at Fc; exact Fc.elim
        | some o =>
          rw [hj] at Fc hturn
          cases o with
          | none => exact .inl ⟨hturn, Fc ρc Hc σc xc Sc Ec⟩
          | some d =>
            obtain ⟨hgo, hy⟩ := hturn
            dsimp only at Fc
            refine .inr ⟨hgo, fun σ' H' => ∃ m', m' < m + 1 ∧ ∃ ρc envc stc, Ext ρ1 H1 ρc H' ∧ SR X.K X.mg ρc π H' stc ∧ RE X.K X.mg ρc π H' envc σ' ∧ RDs X.K X.mg ρc π H' ds vs ∧ FinR X.K X.mg W ρ1 π H1 (forI J (fun d env st => match setT t d env with
              | none => .bad
              | some env => rb env st) m' (i + 1) envc stc) D, fun σ' H' hN => hN, fun x H' hyl => ?_⟩
            obtain ⟨xy, Sy, rx⟩ := hy x H' hyl
            cases hset : setT t d envc with
            | none => rw [hset] at Fc; exact Fc.elim
            | some e2 =>
              rw [hset] at Fc
              dsimp only at Fc
              refine ⟨ρc, π, stc, envc, d, Sy, Ec.mono xy Sc.muts, rx, e2, hset, fun σ2 E2 _ => ⟨ρc, π, e2, stc, Sy, E2, ?_⟩⟩
              cases hb2 : rb e2 stc with
              | bad => rw [hb2] at Fc; exact Fc.elim
              | nx e s =>
                rw [hb2] at Fc
                exact fun ρ' H'' σ' x3 S3 E3 => ⟨m, Nat.lt_succ_self m, ρ', e, s, (xc.trans xy).trans x3, S3, E3, (rc.mono xy Sc.muts).mono x3 Sy.muts, Fc⟩
              | ct e s =>
                rw [hb2] at Fc
                exact fun ρ' H'' σ' x3 S3 E3 => ⟨m, Nat.lt_succ_self m, ρ', e, s, (xc.trans xy).trans x3, S3, E3, (rc.mono xy Sc.muts).mono x3 Sy.muts, Fc⟩
              | bk e s =>
                rw [hb2] at Fc
                exact fun ρ' H'' σ' x3 S3 E3 => Fc ρ' H'' σ' ((xc.trans xy).trans x3) S3 E3
              | rt d2 s =>
                rw [hb2] at Fc
                exact fun ρ' H'' v x3 S3 r3 => Fc ρ' H'' v ((xc.trans xy).trans x3) S3 r3
              | ex c v e s =>
                rw [hb2] at Fc
                exact fun ρ' H'' σ' Cc da u x3 S3 E3 => Fc ρ' H'' σ' Cc da u ((xc.trans xy).trans x3) S3 E3
theorem psm_while {t : Expr} {body : List Stmt} {rt : Env → Sto → Out Bool} {rb : Env → Sto → R} (hp : PassesOwn (model X.prog X.w) X.A X.env X.xe) (ht : PT X t (tMB X W rt)) (hb : PSs X body (tS X W rb)) :
    PS X (.While t body [] pos) (tS X W fun env st => whileI rt rb turns env st) := by
  refine (ps_while hp ht hb).imp fun D σ H ⟨ρ, π, env, st, S, E, F⟩ => ?_
  dsimp only at F
  refine ⟨fun m σc Hc => ∃ ρc envc stc, SR X.K X.mg ρc π Hc stc ∧ RE X.K X.mg ρc π Hc envc σc ∧ FinR X.K X.mg W ρc π Hc (whileI rt rb m envc stc) D, ⟨turns, ρ, env, st, S, E, F⟩, fun m σc Hc hW => ?_⟩
  obtain ⟨ρc, envc, stc, Sc, Ec, Fc⟩ := hW
  cases m with
  | zero => exact Fc.elim
  | succ m =>
    unfold whileI at Fc
    refine ⟨ρc, π, envc, stc, Sc, Ec, ?_⟩
    refine FinR.bnd Fc Sc Ec fun b st1 ρ1 H1 v _ x1 S1 r F1 => ?_
    cases r
    cases b with
    | false => exact F1 ρ1 H1 σc (Ext.refl _ _) S1 (Ec.mono x1 Sc.muts)
    | true =>
      refine ⟨fun σ' H' => ∃ m', m' < m + 1 ∧ ∃ ρc envc stc, SR X.K X.mg ρc π H' stc ∧ RE X.K X.mg ρc π H' envc σ' ∧ FinR X.K X.mg W ρc π H' (whileI rt rb m' envc stc) D, fun σ' H' hN => hN, ?_⟩
      refine ⟨ρ1, π, envc, st1, S1, Ec.mono x1 Sc.muts, ?_⟩
      simp only [if_true] at F1
      cases hb2 : rb envc st1 with
      | bad => rw [hb2] at F1; exact F1.elim
      | nx e s =>
        rw [hb2] at F1
        exact fun ρ' H'' σ' x3 S3 E3 => ⟨m, Nat.lt_succ_self m, ρ', e, s, S3, E3, FinR.ext F1 x3⟩
      | ct e s =>
        rw [hb2] at F1
        exact fun ρ' H'' σ' x3 S3 E3 => ⟨m, Nat.lt_succ_self m, ρ', e, s, S3, E3, FinR.ext F1 x3⟩
      | bk e s =>
        rw [hb2] at F1
        exact F1
      | rt d2 s =>
        rw [hb2] at F1
        exact F1
      | ex c v e s =>
        rw [hb2] at F1
        exact F1
end

/-! ### stores -/
/-- a store's reading -/
def tT (X : Cx) (W : WX) (g : D → Env → Sto → Out Env) : TG := fun v σ H Q => ∃ ρ π env st d, SR X.K X.mg ρ π H st ∧ RE X.K X.mg ρ π H env σ ∧ RD X.K X.mg ρ π H d v ∧ ∃ env' st', g d env st = .ok env' st' ∧
  ∀ ρ' H' σ', Ext ρ H ρ' H' → SR X.K X.mg ρ' π H' st' → RE X.K X.mg ρ' π H' env' σ' → Q σ' H'
def tTs (X : Cx) (W : WX) (g : List D → Env → Sto → Out Env) : TGs := fun vs σ H Q => ∃ ρ π env st ds, SR X.K X.mg ρ π H st ∧ RE X.K X.mg ρ π H env σ ∧ RDs X.K X.mg ρ π H ds vs ∧ ∃ env' st', g ds env st = .ok env' st' ∧
  ∀ ρ' H' σ', Ext ρ H ρ' H' → SR X.K X.mg ρ' π H' st' → RE X.K X.mg ρ' π H' env' σ' → Q σ' H'
theorem bnd_eq {α β : Type} {o : Out α} {f : α → Sto → Out β} {b : β} {s : Sto} (h : o.bnd f = .ok b s) : ∃ a s1, o = .ok a s1 ∧ f a s1 = .ok b s := by
  cases o with
  | ok a s1 => exact ⟨a, s1, rfl, h⟩
  | ex c v s1 => cases h
  | bad => cases h
theorem noEx_eq {α : Type} {o : Out α} {a : α} {s : Sto} (h : noEx o = .ok a s) : o = .ok a s := by
  cases o with
  | ok a' s' => exact h
  | ex c v s1 => cases h
  | bad => cases h
theorem opt_eq {α : Type} {o : Option α} {s0 : Sto} {a : α} {s : Sto} (h : opt o s0 = .ok a s) : o = some a ∧ s = s0 := by
  cases o with
  | none => cases h
  | some b => cases h; exact ⟨rfl, rfl⟩
section
variable {X : Cx} {W : WX} {C : Cal} {x : Str} {i : Nat} {p : Pos}
theorem pst_name (hN : X.N.Nodup) (hi : X.N[i]? = some x) (hx : Loc X.env.scope x) (hf : X.fn x = true ∨ X.env.scope.names.lookup x = some .local) : PG X (.Name x p) (tT X W (setG C (.n i))) := by
  refine (pg_name hN hi hx hf).imp fun v σ H Q ⟨ρ, π, env, st, d, S, E, r, env', st', e, q⟩ => ?_
  cases e
  exact q ρ H _ (Ext.refl _ _) S (E.set i r)
theorem pst_nil : PGs X [] (tTs X W (setGs C [])) := by
  refine pgs_nil.imp fun vs σ H Q ⟨ρ, π, env, st, d, S, E, r, env', st', e, q⟩ => ?_
  cases r with
  | nil =>
    cases e
    exact ⟨rfl, q ρ H σ (Ext.refl _ _) S E⟩
  | cons h t => cases e
theorem pst_cons {e : Expr} {es : List Expr} {t : Tg} {ts : List Tg} (h1 : PG X e (tT X W (setG C t))) (h2 : PGs X es (tTs X W (setGs C ts))) (hs : ∀ env : PySem.Env, (assignEach (e :: es) env).map (·.2) = assign e env :: (assignEach es env).map (·.2)) : PGs X (e :: es) (tTs X W (setGs C (t :: ts))) := by
  refine (pgs_cons h1 h2 (hs _)).imp fun vs σ H Q ⟨ρ, π, env, st, ds, S, E, r, env', st', e, q⟩ => ?_
  cases r with
  | nil => cases e
  | cons h r =>
    have e' : ((setG C t _ env st).bnd fun env st => setGs C ts _ env st) = .ok env' st' := e
    obtain ⟨env1, st1, e1, e2⟩ := bnd_eq e'
    exact ⟨_, _, rfl, ρ, π, env, st, _, S, E, h, env1, st1, e1, fun ρ1 H1 σ1 x1 S1 E1 => ⟨ρ1, π, env1, st1, _, S1, E1, r.mono x1 S.muts, env', st', e2, fun ρ2 H2 σ2 x2 S2 E2 => q ρ2 H2 σ2 (x1.trans x2) S2 E2⟩⟩
theorem setGs_len {ts : List Tg} : ∀ {ds : List D} {env env' : Env} {st st' : Sto}, setGs C ts ds env st = .ok env' st' → ts.length = ds.length := by
  induction ts with
  | nil =>
    intro ds env env' st st' e
    cases ds with
    | nil => rfl
    | cons _ _ => cases e
  | cons t ts ih =>
    intro ds env env' st st' e
    cases ds with
    | nil => cases e
    | cons d ds =>
      have e' : ((setG C t d env st).bnd fun env st => setGs C ts ds env st) = .ok env' st' := e
      obtain ⟨env1, st1, e1, e2⟩ := bnd_eq e'
      rw [List.length_cons, List.length_cons, ih e2]
theorem pst_tup {es : List Expr} {k : Nat} {ts : List Tg} (hc : X.calm = true) (h : PGs X es (tTs X W (setGs C ts))) (hn : ∀ env : PySem.Env, (assignEach es env).length = ts.length) (hst : ∀ env : PySem.Env, (assignEach es env).findIdx? (·.1) = none) : PG X (.Tuple es k p) (tT X W (setG C (.t ts))) := by
  refine (pg_tup hc h (hn _) (hst _)).imp fun v σ H Q ⟨ρ, π, env, st, d, S, E, r, env', st', e, q⟩ => ?_
  cases r with
  | tup ht r =>
    have e' : setGs C ts _ env st = .ok env' st' := e
    exact ⟨_, _, rfl, ht, by rw [← r.length, setGs_len e'], ρ, π, env, st, _, S, E, r, env', st', e', q⟩
  | _ => cases e
/-- a store to a place of a list -/
theorem set_ok {ρ π : List Addr} {H : Hp} {st st' : Sto} {o i d : D} {vo vi v : V} {Q : Hp → Prop} (S : SR X.K X.mg ρ π H st) (ro : RD X.K X.mg ρ π H o vo) (ri : RD X.K X.mg ρ π H i vi) (r : RD X.K X.mg ρ π H d v) (e : setItem o i d st = some st')
    (q : ∀ H', Ext ρ H ρ H' → SR X.K X.mg ρ π H' st' → Q H') : rSetL vo vi v H Q := by
  unfold setItem at e
  split at e
  · cases ro with
    | loc hn =>
      cases ri
      split at e
      · rename_i xs hx
        rw [Option.map_eq_some_iff] at e
        obtain ⟨j, e1, rfl⟩ := e
        obtain ⟨vs, h1, r1⟩ := S.atL hn hx
        exact ⟨_, vs, _, j, rfl, rfl, h1, by rw [← r1.length]; exact e1, q _ (Ext.set hn) (S.set hn (r1.set j r))⟩
      · cases e
  · cases e
theorem pst_sub {o i : Expr} {mo mi : E} {pos : Pos} (ho : PE X o (tM X W0 (evE C mo))) (hi : PE X i (tM X W0 (evE C mi))) (ha : ∀ v, assign (.Subscript o i pos) X.env v = (do
      let ov ← holding [v] (eval o X.env)
      let iv ← holding [v, ov] (eval i X.env)
      standAt pos
      holding [v, ov, iv] (PySem.setItem ov iv v)
      release [v, ov, iv] [])) : PG X (.Subscript o i pos) (tT X W (setG C (.s mo mi))) := by
  refine (pg_sub ho hi set_list ha).imp fun v σ H Q ⟨ρ, π, env, st, d, S, E, r, env', st', e, q⟩ => ?_
  have e' : ((noEx (evE C mo env st)).bnd fun x st => (noEx (evE C mi env st)).bnd fun y st => (opt (setItem x y d st) st).bnd fun st' _ => .ok env st') = .ok env' st' := e
  obtain ⟨xo, st1, e1, e2⟩ := bnd_eq e'
  obtain ⟨xi, st2, e3, e4⟩ := bnd_eq e2
  obtain ⟨st3, st4, e5, e6⟩ := bnd_eq e4
  have e1 := noEx_eq e1
  have e3 := noEx_eq e3
  obtain ⟨e5, e7⟩ := opt_eq e5
  cases e6
  refine ⟨ρ, π, env, st, S, E, ?_⟩
  rw [e1]
  intro ρ1 H1 vo x1 S1 ro
  refine ⟨ρ1, π, env, st1, S1, E.mono x1 S.muts, ?_⟩
  rw [e3]
  intro ρ2 H2 vi x2 S2 ri
  refine set_ok S2 (ro.mono x2 S1.muts) ri ((r.mono x1 S.muts).mono x2 S1.muts) e5 fun H' x3 S3 => ?_
  exact q ρ2 H' σ ((x1.trans x2).trans x3) S3 (((E.mono x1 S.muts).mono x2 S1.muts).mono x3 S2.muts)
/-- target = value -/
theorem psm_asg {tg e : Expr} {t : Tg} {re : Env → Sto → Out D} {pos : Pos} (he : PE X e (tM X W re)) (hg : PG X tg (tT X W (setG C t))) (hc : isComp e = false) (hw : swappedStores [tg] e X.env = pure none) (h1 : (assignEach [tg] X.env).map (·.2) = [assign tg X.env]) :
    PS X (.Assign [tg] e pos) (tS X W fun env st => (re env st).toR env fun d st => (noEx (setG C t d env st)).toR env fun env st => .nx env st) := by
  refine (ps_asg he hg (swaps_none hc) hw h1).imp fun D σ H ⟨ρ, π, env, st, S, E, F⟩ => ⟨ρ, π, env, st, S, E, F.bnd S E fun d st1 ρ1 H1 v _ x S1 r F1 => ?_⟩
  cases hg2 : noEx (setG C t d env st1) with
  | bad => rw [hg2] at F1; exact F1.elim
  | ex c u s =>
    exfalso
    cases h2 : setG C t d env st1 <;> rw [h2] at hg2 <;> cases hg2
  | ok env' st' =>
    rw [hg2] at F1
    exact ⟨ρ1, π, env, st1, d, S1, E.mono x S.muts, r, env', st', noEx_eq hg2, F1⟩
/-- a name = a comprehension -/
theorem psm_lc {elt tg iter : Expr} {ifs : List Expr} {scope : Scope} {own : List (Str × Nat)} {pos spos py : Pos} {y : Str} {i : Nat} {t : TN} {k : IK} {rs : Env → Sto → Out (List D)} {rt : Env → Sto → Out Bool} {re : Env → Sto → Out D} {al : Bool}
    (hc : X.calm = true) (hN : X.N.Nodup) (hy : X.N[i]? = some y) (hyl : X.env.scope.names.lookup y = some .local) (hk : X.env.scope.kind = .function) (hl : (py.line == pos.line) = true) (hf : (scope.names.any fun (n, k) => n == y && (k == .local || k == .cell)) = false)
    (hll : True) (hi : PI X tg iter (tI X W k rs)) (ok : BlkOk X.N X.env.scope scope own) (hs : ∀ x, foldedSetIterable iter X.env x = pure x)
    (hsl : ∀ i ∈ slotsT t, i ∈ own.map (·.2))
    (hg : ∀ (s : Shared) (H : Hp) (C : Addr) (cl : List (Str × Addr)) (fp : List Addr), PG (X.blk s H scope (compEnvC scope cl C X.env) fp) tg (tG X t))
    (ht : ∀ (s : Shared) (H : Hp) (C : Addr) (cl : List (Str × Addr)) (fp : List Addr), PTs (X.blk s H scope (compEnvC scope cl C X.env) fp) ifs (tMB X W0 rt))
    (he : ∀ (s : Shared) (H : Hp) (C : Addr) (cl : List (Str × Addr)) (fp : List Addr), PE (X.blk s H scope (compEnvC scope cl C X.env) fp) elt (tM X W0 re)) :
    PS X (.Assign [.Name y py] (.ListComp elt [⟨tg, iter, ifs, 0⟩] scope pos) spos) (tS X W fun env st => ((rs env st).bnd fun ds st => match itOf k ds st with
    | none => .bad
    | some J => compEnd al (compI J (compT t (wipeE env (own.map (·.2))) rt re) turns 0 [] st)).toR env fun d st => (noEx (setG C (.n i) d env st)).toR env fun env st => .nx env st) := by
  refine (ps_setLc hc hN hy hyl (sw_true hk hyl hl hf) hi ok hg ht he hs).imp fun D σ H ⟨ρ, π, env, st, S, E, F⟩ => ?_
  refine lc_word (al := al) hsl ⟨ρ, π, env, st, S, E, F.bnd S E fun d st1 ρ1 H1 v _ x S1 r F1 => ?_⟩
  exact F1 ρ1 H1 _ (Ext.refl _ _) S1 ((E.mono x S.muts).set i r)
/-- two names = two values -/
theorem psm_par {x y : Str} {i j : Nat} {a b : Expr} {px py pt pos : Pos} {kt k2 : Nat} {pt2 : Pos} {rs : Env → Sto → Out (List D)} (hc : X.calm = true) (hN : X.N.Nodup) (hi : X.N[i]? = some x) (hj : X.N[j]? = some y) (hij : i ≠ j)
    (hx : X.env.scope.names.lookup x = some .local) (hy : X.env.scope.names.lookup y = some .local) (ha : PA X [a, b] (tMs X W rs))
    (hw : swappedStores [.Tuple [.Name x px, .Name y py] kt pt] (.Tuple [a, b] k2 pt2) X.env = pure (some [x, y])) :
    PS X (.Assign [.Tuple [.Name x px, .Name y py] kt pt] (.Tuple [a, b] k2 pt2) pos) (tS X W fun env st => (rs env st).toR env fun ds st => match setMany [i, j] ds env with
    | some env => .nx env st
    | none => .bad) := by
  refine (ps_par hc hN hi hj hij hx hy ha hw).imp fun D σ H ⟨ρ, π, env, st, S, E, F⟩ => ⟨ρ, π, env, st, S, E, F.bnd S E fun ds st1 ρ1 H1 vs _ x S1 r F1 => ?_⟩
  cases r with
  | nil => exact F1.elim
  | cons h1 t1 =>
    cases t1 with
    | nil => exact F1.elim
    | cons h2 t2 =>
      cases t2 with
      | cons _ _ => exact F1.elim
      | nil => exact ⟨_, _, rfl, F1 ρ1 H1 _ (Ext.refl _ _) S1 (((E.mono x S.muts).set i h1).set j h2)⟩
end
end Ev
/-! The translation of statements is right. -/
namespace Ev
open PySem PySem.Spec PyProof.Rows L2

section
variable {C : Cal} {k n : Nat} {X : Cx} {Z : Zt} {W : WX}
/-- a context in which nothing may be raised -/
theorem Ok.quiet (ok : Ok C k X Z W) : Ok C k X Z W0 := { ok with tk := takes0 }
theorem trG_ok (ok : Ok C k X Z W) : ∀ n : Nat,
    (∀ (t : Expr) (tg : Tg), trG Z n t = some tg → PG X t (tT X W (setG C tg)) ∧ (∀ (es : List Expr) (env : PySem.Env), assignEach (t :: es) env = (false, assign t env) :: assignEach es env)) ∧
    (∀ (ts : List Expr) (tgs : List Tg), trGs Z n ts = some tgs → PGs X ts (tTs X W (setGs C tgs)) ∧ (∀ env : PySem.Env, (assignEach ts env).length = tgs.length) ∧ (∀ env : PySem.Env, (assignEach ts env).findIdx? (·.1) = none)) := by
  have name : ∀ {x : Str} {p : Pos} {tg : Tg}, (Z.slotW x).map Tg.n = some tg → PG X (.Name x p) (tT X W (setG C tg)) := by
    intro x p tg h
    rw [Option.map_eq_some_iff] at h
    obtain ⟨i, hi, rfl⟩ := h
    obtain ⟨h1, h2, h3, h4⟩ := slotW_ok ok hi
    exact pst_name ok.nd h1 h3 h4
  intro n
  induction n with
  | zero =>
    refine ⟨fun t tg h => ?_, fun ts tgs h => ?_⟩
    · cases t <;> simp only [trG] at h <;> try cases h
      exact ⟨name h, fun _ _ => rfl⟩
    · cases ts with
      | nil =>
        simp only [trGs] at h
        cases h
        exact ⟨pst_nil, fun _ => rfl, fun _ => rfl⟩
      | cons _ _ => simp only [trGs] at h; cases h
  | succ n ih =>
    refine ⟨fun t tg h => ?_, fun ts tgs h => ?_⟩
    · cases t <;> simp only [trG] at h <;> try cases h
      · split at h
        · rename_i o i p hp
          rw [Option.bind_eq_some_iff] at h
          obtain ⟨o', h1, h⟩ := h
          rw [Option.bind_eq_some_iff] at h
          obtain ⟨i', h2, h3⟩ := h
          cases h3
          refine ⟨?_, fun _ _ => rfl⟩
          have := pst_sub (W := W) (pos := p) ((snd_all n).e X Z W0 ok.quiet _ _ _ h1).1 ((snd_all n).e X Z W0 ok.quiet _ _ _ h2).1 (fun v => by
            cases i with
            | Slice _ _ _ _ => cases hp
            | _ => rfl)
          exact this
        · cases h
      · exact ⟨name h, fun _ _ => rfl⟩
      · rw [Option.map_eq_some_iff] at h
        obtain ⟨tgs, h1, rfl⟩ := h
        obtain ⟨a, c, d⟩ := ih.2 _ _ h1
        exact ⟨pst_tup ok.calm a c d, fun _ _ => rfl⟩
    · cases ts with
      | nil =>
        simp only [trGs] at h
        cases h
        exact ⟨pst_nil, fun _ => rfl, fun _ => rfl⟩
      | cons t ts =>
        simp only [trGs, Option.bind_eq_some_iff] at h
        obtain ⟨tn, h1, tns', h2, h3⟩ := h
        cases h3
        obtain ⟨a1, c1⟩ := ih.1 _ _ h1
        obtain ⟨a2, c2, d2⟩ := ih.2 _ _ h2
        exact ⟨pst_cons a1 a2 (fun env => by rw [c1]; rfl), fun env => by rw [c1, List.length_cons, List.length_cons, c2], fun env => by rw [c1, List.findIdx?_cons]; simp [d2]⟩
theorem stores_name {x : Str} {p : Pos} {e : Expr} {env : PySem.Env} : swappedStores [.Name x p] e env = pure none := by
  cases e <;> rfl
theorem stores_none {t e : Expr} {env : PySem.Env} (h : isTupE e = false) : swappedStores [t] e env = pure none := by
  cases e <;> first | (cases t <;> rfl) | cases h
theorem parName_ok (ok : Ok C k X Z W) {x y : Str} {p : Pos} {i : Nat} (h : parName Z (.Name x p) = some (y, i)) : y = x ∧ X.N[i]? = some x ∧ X.env.scope.names.lookup x = some .local := by
  unfold parName at h
  dsimp only at h
  split at h
  · rename_i hl
    rw [Option.map_eq_some_iff] at h
    obtain ⟨j, h1, h2⟩ := h
    cases h2
    exact ⟨rfl, (slotW_ok ok h1).1, by rw [ok.sc]; exact hl⟩
  · cases h
def isStarE : Expr → Bool
  | .Starred .. => true
  | _ => false
theorem star_no {a : Expr} (ha : ∀ (es : List Expr) (env : PySem.Env), starEach (a :: es) env = (false, eval a env) :: starEach es env) (env : PySem.Env) : isStarE a = false := by
  cases a <;> first | rfl | (have := ha [] env; cases this)
def locOn (env : PySem.Env) (line : Nat) : Expr → Option Str
  | .Name id pos => if env.kindOf id == some .local && pos.line == line then some id else none
  | _ => none
theorem swapped_pair {x y : Str} {p q pt pt2 : Pos} {kt k2 : Nat} {a b : Expr} {env : PySem.Env} (hk : env.scope.kind = .function) (hx : env.scope.names.lookup x = some .local) (hy : env.scope.names.lookup y = some .local) (hxy : (x != y) = true) (hl : (p.line == q.line) = true)
    (h1 : [a, b].all (foldedForSure 8) = false) (h2 : [a, b].all (constantsAlone 8) = false) (ha : ∀ (es : List Expr) (env : PySem.Env), starEach (a :: es) env = (false, eval a env) :: starEach es env) (hb : ∀ (es : List Expr) (env : PySem.Env), starEach (b :: es) env = (false, eval b env) :: starEach es env) :
    swappedStores [.Tuple [.Name x p, .Name y q] kt pt] (.Tuple [a, b] k2 pt2) env = pure (some [x, y]) := by
  have sa := star_no ha env
  have sb := star_no hb env
  have hbk : env.blockKind = .function := by
    unfold Env.blockKind
    rw [hk]
    rfl
  have hvs : [a, b].any isStarE = false := by
    show (isStarE a || (isStarE b || false)) = false
    rw [sa, sb]
    rfl
  have hkx : (env.kindOf x == some NameKind.local) = true := by
    show (env.scope.names.lookup x == some NameKind.local) = true
    rw [hx]
    rfl
  have hky : (env.kindOf y == some NameKind.local) = true := by
    show (env.scope.names.lookup y == some NameKind.local) = true
    rw [hy]
    rfl
  have hll : (q.line == p.line) = true := by
    rw [beq_iff_eq] at hl ⊢
    exact hl.symm
  have hed : ([x, y] : List Str).eraseDups.length = 2 := by
    have hyx : (y == x) = false := by
      rw [bne_iff_ne] at hxy
      exact beq_eq_false_iff_ne.mpr fun z => hxy z.symm
    simp [List.eraseDups_cons, hyx]
  have hn : [Expr.Name x p, Expr.Name y q].filterMap (locOn env p.line) = [x, y] := by
    rw [List.filterMap_cons, List.filterMap_cons]
    unfold locOn
    dsimp only
    rw [hkx, hky, hll, show (p.line == p.line) = true from beq_self_eq_true _]
    rfl
  show (if (env.blockKind != ScopeKind.function) = true then pure none else if [a, b].any isStarE = true then pure none else
    if (([Expr.Name x p, Expr.Name y q].filterMap (locOn env p.line)).length != 2 || ([Expr.Name x p, Expr.Name y q].filterMap (locOn env p.line)).eraseDups.length != ([Expr.Name x p, Expr.Name y q].filterMap (locOn env p.line)).length) = true then pure none else
    if [a, b].all (foldedForSure 8) = true then pure none else if [a, b].all (constantsAlone 8) = true then (do unsupported "assign.tuple-of-constant-expressions:order-of-the-stores"; pure (some ([Expr.Name x p, Expr.Name y q].filterMap (locOn env p.line)))) else pure (some ([Expr.Name x p, Expr.Name y q].filterMap (locOn env p.line)))) = _
  rw [if_neg (by rw [hbk]; decide), if_neg (by rw [hvs]; decide)]
  rw [hn]
  rw [if_neg (by rw [hed]; simp), h1, h2]
  rfl
end
end Ev
/-! The translation of statements is right: all of them. -/
namespace Ev
open PySem PySem.Spec PyProof.Rows L2

section
variable {C : Cal} {k n : Nat} {X : Cx} {Z : Zt} {W : WX}
theorem asg_one (ok : Ok C k X Z W) {t e : Expr} {pos : Pos} {m : S} (h : (trG Z n t).bind (fun t => (trE Z n true e).bind fun e => some (S.asg t e)) = some m) (hc : isComp e = false) (hw : swappedStores [t] e X.env = pure none) : PS X (.Assign [t] e pos) (tS X W (evS C m)) := by
  rw [Option.bind_eq_some_iff] at h
  obtain ⟨tg, h1, h⟩ := h
  rw [Option.bind_eq_some_iff] at h
  obtain ⟨e', h2, h⟩ := h
  cases h
  obtain ⟨p1, p2⟩ := (trG_ok ok n).1 _ _ h1
  exact psm_asg ((snd_all n).e X Z W ok _ _ _ h2).1 p1 hc hw (by rw [p2]; rfl)
theorem asg_lc (ok : Ok C k X Z W) {x : Str} {p : Pos} {elt : Expr} {gs : List Comprehension} {sc : Scope} {cp pos : Pos} {m : S} (hl : Z.sc.names.lookup x = some .local) (hcl : (p.line == cp.line) = true) (hf : compFree x (.ListComp elt gs sc cp) = true)
    (h : (trG Z n (.Name x p)).bind (fun t => (trE Z n true (.ListComp elt gs sc cp)).bind fun e => some (S.asg t e)) = some m) : PS X (.Assign [.Name x p] (.ListComp elt gs sc cp) pos) (tS X W (evS C m)) := by
  rw [Option.bind_eq_some_iff] at h
  obtain ⟨tg, h1, h⟩ := h
  rw [Option.bind_eq_some_iff] at h
  obtain ⟨e', h2, h⟩ := h
  cases h
  have hsl : ∃ i, Z.slotW x = some i ∧ tg = .n i := by
    cases n <;> (simp only [trG] at h1; rw [Option.map_eq_some_iff] at h1; obtain ⟨i, hi, rfl⟩ := h1; exact ⟨i, hi, rfl⟩)
  obtain ⟨i, hi, rfl⟩ := hsl
  obtain ⟨s1, s2, s3, s4⟩ := slotW_ok ok hi
  cases n with
  | zero => rw [trE] at h2; cases h2
  | succ n =>
  have ih := @snd_all C k n
  unfold trE at h2
  dsimp only at h2
  split at h2
  · rename_i g
    obtain ⟨t, it, ifs, asy⟩ := g
    split at h2
    · rename_i hc
      obtain ⟨ha, hb⟩ := hc
      dsimp only at ha h2
      subst ha
      rw [Option.bind_eq_some_iff] at h2
      obtain ⟨t', g1, h⟩ := h2
      rw [Option.bind_eq_some_iff] at h
      obtain ⟨⟨kd, src⟩, g2, h⟩ := h
      rw [Option.bind_eq_some_iff] at h
      obtain ⟨ifs', g3, h⟩ := h
      split at h
      · rename_i hll
        rw [Option.bind_eq_some_iff] at h
        obtain ⟨elt', g4, h⟩ := h
        cases h
        obtain ⟨i1, i2⟩ := ih.i X Z W ok t it kd src g2
        have hbk : BlkOk X.N X.env.scope sc (ownOf Z.N sc.names) := by
          rw [ok.N, ok.sc]
          exact blkOk_by hb
        have okb := fun (s : Shared) (H : Hp) (a : Addr) (cl : List (Str × Addr)) (fp : List Addr) => ok.blk hb s H a cl fp
        have hsl : ∀ i ∈ slotsT t', i ∈ (ownOf Z.N sc.names).map (·.2) := by
          intro i hi
          obtain ⟨x, hx, hix⟩ := ((trTN_ok (okb X.s_0 X.H_0 0 [] []) n).1 _ _ g1).2.1 i hi
          obtain ⟨j, hj⟩ := own_fst hx
          have := (own_mem hj).1
          rw [hix] at this
          cases this
          exact List.mem_map.mpr ⟨_, hj, rfl⟩
        have hts : ∀ (s : Shared) (H : Hp) (a : Addr) (cl : List (Str × Addr)) (fp : List Addr), PTs (X.blk s H sc (compEnvC sc cl a X.env) fp) ifs (tMB X W0 (evTs C ifs')) := by
          intro s H a cl fp
          have each := ih.es _ _ W0 (okb s H a cl fp) _ _ g3
          cases each with
          | nil => exact ptsm_nil
          | cons hp hb hs ht =>
            cases ht with
            | cons _ _ _ _ => exact absurd hll (by simp)
            | nil =>
              rename_i e1 m1
              have e : evTs C [m1] = tst (evE C m1) := by
                funext env st
                show ((evE C m1 env st).bnd fun x st => (opt (truth st x) st).bnd fun k st => if k then evTs C [] env st else .ok false st) = (evE C m1 env st).bnd fun x st => opt (truth st x) st
                congr 1
                funext x st1
                cases truth st1 x with
                | none => rfl
                | some k => cases k <;> rfl
              rw [e]
              exact ptsm_one hb
        have hf' : (sc.names.any fun (n, k) => n == x && (k == .local || k == .cell)) = false := by
          unfold compFree at hf
          dsimp only at hf
          simpa using hf
        exact psm_lc (al := true) ok.calm ok.nd s1 (by rw [ok.sc]; exact hl) (by rw [ok.sc]; exact ok.kd) hcl hf' trivial i1 hbk i2 hsl (fun s H a cl fp => ((trTN_ok (okb s H a cl fp) n).1 _ _ g1).1) hts fun s H a cl fp => (ih.e _ _ W0 (okb s H a cl fp) _ _ _ g4).1
      · cases h
    · cases h2
  · cases h2
/-- what a statement's soundness says -/
structure SndS (C : Cal) (k n : Nat) : Prop where
  s : ∀ (X : Cx) (Z : Zt) (W : WX), Ok C k X Z W → ∀ (s : Stmt) (m : S), trS Z n s = some m → PS X s (tS X W (evS C m))
  ss : ∀ (X : Cx) (Z : Zt) (W : WX), Ok C k X Z W → ∀ (ss : List Stmt) (ms : List S), trSs Z n ss = some ms → PSs X ss (tS X W (evSs C ms))
theorem sndS : ∀ n : Nat, SndS C k n := by
  intro n
  induction n with
  | zero =>
    refine ⟨fun X Z W ok s m h => ?_, fun X Z W ok ss ms h => ?_⟩
    · rw [trS] at h; cases h
    · cases ss with
      | nil => rw [trSs] at h; cases h; exact psm_next
      | cons _ _ => rw [trSs] at h; cases h
  | succ n ih =>
    have hE := @snd_all C k n
    refine ⟨fun X Z W ok s m h => ?_, fun X Z W ok ss ms h => ?_⟩
    · unfold trS at h
      split at h
      · rename_i x p y q kt pt a b k2 pt2 pos
        rw [Option.bind_eq_some_iff] at h
        obtain ⟨⟨x', i⟩, h1, h⟩ := h
        rw [Option.bind_eq_some_iff] at h
        obtain ⟨⟨y', j⟩, h2, h⟩ := h
        dsimp only at h
        split at h
        · rename_i hc
          rw [Option.bind_eq_some_iff] at h
          obtain ⟨a', h3, h⟩ := h
          rw [Option.bind_eq_some_iff] at h
          obtain ⟨b', h4, h⟩ := h
          cases h
          obtain ⟨rfl, x1, x2⟩ := parName_ok ok h1
          obtain ⟨rfl, y1, y2⟩ := parName_ok ok h2
          simp only [Bool.and_eq_true, Bool.not_eq_true'] at hc
          obtain ⟨⟨⟨⟨c1, c2⟩, c3⟩, c4⟩, c5⟩ := hc
          have pa := hE.e X Z W ok _ _ _ h3
          have pb := hE.e X Z W ok _ _ _ h4
          have each : EachP X W C [a, b] [a', b'] := .cons pa.1 pa.2 (tr_star h3) (.cons pb.1 pb.2 (tr_star h4) .nil)
          exact psm_par ok.calm ok.nd x1 y1 (by simpa using c2) x2 y2 each.pa (swapped_pair (by rw [ok.sc]; exact ok.kd) x2 y2 c1 c3 c4 c5 (tr_star h3) (tr_star h4))
        · cases h
      · rename_i x p e pos
        split at h
        · rename_i hc
          split at h
          · rename_i hcc
            simp only [Bool.and_eq_true, decide_eq_true_eq] at hcc
            obtain ⟨⟨c1, c2⟩, c3⟩ := hcc
            cases e with
            | ListComp elt gs sc cp =>
              exact asg_lc ok c1 c2 c3 h
            | _ => cases c2
          · cases h
        · rename_i hc
          exact asg_one ok h (by simpa using hc) stores_name
      · rename_i t e pos hn1 hn2
        split at h
        · cases h
        · rename_i hc
          rw [Bool.or_eq_true] at hc
          exact asg_one ok h (by simpa using fun z => hc (.inl z)) (stores_none (by simpa using fun z => hc (.inr z)))
      · cases h
        exact psm_doc
      · split at h
        · cases h
        · rename_i hc
          rw [Option.map_eq_some_iff] at h
          obtain ⟨e', h1, rfl⟩ := h
          exact psm_expr (by simpa using hc) (hE.e X Z W ok _ _ _ h1).1
      · rw [Option.bind_eq_some_iff] at h
        obtain ⟨t', h1, h⟩ := h
        rw [Option.bind_eq_some_iff] at h
        obtain ⟨a', h2, h⟩ := h
        rw [Option.bind_eq_some_iff] at h
        obtain ⟨b', h3, h⟩ := h
        cases h
        exact psm_if (hE.e X Z W ok _ _ _ h1).2 (ih.ss X Z W ok _ _ h2) (ih.ss X Z W ok _ _ h3)
      · rw [Option.bind_eq_some_iff] at h
        obtain ⟨t', h1, h⟩ := h
        rw [Option.bind_eq_some_iff] at h
        obtain ⟨⟨kd, src⟩, h2, h⟩ := h
        dsimp only at h
        rw [Option.bind_eq_some_iff] at h
        obtain ⟨b', h3, h⟩ := h
        cases h
        obtain ⟨i1, i2⟩ := hE.i X Z W ok _ _ kd src h2
        exact psm_for ok.own ok.calm i1 ((trTN_ok ok n).1 _ _ h1).1 (ih.ss X Z W ok _ _ h3) i2
      · rw [Option.bind_eq_some_iff] at h
        obtain ⟨t', h1, h⟩ := h
        rw [Option.bind_eq_some_iff] at h
        obtain ⟨b', h3, h⟩ := h
        cases h
        exact psm_while ok.own (hE.e X Z W ok _ _ _ h1).2 (ih.ss X Z W ok _ _ h3)
      · cases h
        exact psm_retN
      · rw [Option.map_eq_some_iff] at h
        obtain ⟨e', h1, rfl⟩ := h
        exact psm_ret (hE.e X Z W ok _ _ _ h1).1
      · cases h
        exact psm_pass
      · cases h
        exact psm_brk
      · cases h
        exact psm_cont
      · cases h
    · cases ss with
      | nil => rw [trSs] at h; cases h; exact psm_next
      | cons s ss =>
        rw [trSs, Option.bind_eq_some_iff] at h
        obtain ⟨s', h1, h⟩ := h
        rw [Option.bind_eq_some_iff] at h
        obtain ⟨ss', h2, h⟩ := h
        cases h
        exact psm_cons (ih.s X Z W ok _ _ h1) (ih.ss X Z W ok _ _ h2)
end
end Ev
/-! Defs: the evaluator's word about each. -/
namespace Ev
open PySem PySem.Spec PyProof.Rows L2

section
variable {P : Program} {w : World} {K : PySem.W.Frag} {mg : Str → Option Value} {base : Heap}
theorem fnG_weak {j k : Nat} {f : Addr} {fd : FuncData} {ps : List Str} {sp : Sp} (F : FnG P w K mg base j f fd ps sp) (h : j ≤ k) : FnG P w K mg base k f fd ps sp :=
  ⟨F.len, fun A outer s H args us vs Q E hr => F.run A outer s H args us vs Q E (hr.mono h)⟩
/-- a def by its body, called where no text is being made -/
theorem fnG_by {k : Nat} {f : Addr} {x : Str} {st : Stmt} {fd : FuncData} {N ps : List Str} {sp : Sp} (F : L2.Fun K x x st f fd) (S : FnScope N ps (defScope st)) (len : ∀ vs H Q E, sp vs H Q E → vs.length = ps.length)
    (hbody : ∀ (cdv : Value) (A : Around) (outer : List PySem.Env) (s : Shared) (H : Hp) (vs : List V) (Q : VK) (E : XK), Room k (A.deeper (envOfC x (defScope st) s.heap.objs.size f cdv)) → A.guards = some [] → sp vs H Q E →
      ∃ t, PSs (cxOf (L2.CX P w) P w K mg base N x (defScope st) f cdv A outer s H E) (defBody st) t ∧ t { nx := fun _ H' => Q .non H', rt := Q } (L2.start N vs) H) : FnG P w K mg base (k + 1) f fd ps sp := by
  obtain ⟨oc, od, kV, doc, pm, an, cdv, ct, osl, rfl, lk, hcd⟩ := F.ex
  refine ⟨len, fun A outer s H args us vs Q E hr hgd e0 hb r hsp => ?_⟩
  have hl := len _ _ _ _ hsp
  have inK : K.In s.heap := e0.mod.kin.keeps fun b o e => (e0.bs b o e).1
  have noLim : s.heap.NoLimit := e0.mod.nolimit.keeps fun b o e => (e0.bs b o e).1
  have hkinds : ∀ y ∈ ps.zip us, (defScope st).names.lookup y.1 = some .local ∨ ((defScope st).names.lookup y.1 = some .cell ∧ ((cellsFrom (s.heap.objs.size + 1) (defScope st).names []).lookup y.1).isSome = true) := by
    rintro ⟨n, v⟩ hy
    cases S.par n (List.of_mem_zip hy).1 with
    | inl q => exact .inl q
    | inr q => exact .inr ⟨q, PySem.W.cellsFrom_some _ _ _ (.inl q)⟩
  refine codeAny_call_function hr.depth (inK _ _ lk) rfl S.co S.gen rfl (PySem.W.codeRec_of inK hcd) (hb _ _ _ _ ?_)
  refine wpAny_newFunctionEnv_cells S.kind hkinds fun env he s1 xx => ?_
  subst he
  refine ⟨noLim.keeps xx.toInCall.keep, codeAny_func ?_⟩
  obtain ⟨t, ht, hq⟩ := hbody cdv A outer s H vs Q E (hr.deeper _) hgd hsp
  have I0 := inv_start (CX := L2.CX P w) (P := P) (w := w) (E := E) S hr.hd e0 hl r xx
  refine wpAny_mono (ht.run [] s1 (L2.start N vs) H _ I0 hq) (fun fl s' hs => ?_) fun e s' hs => hs
  cases fl with
  | ret u =>
    obtain ⟨v, σ', H', J, rv, q⟩ := hs
    exact ⟨v, H', J.os, J.bare, J.base, J.hok, rv, q⟩
  | next =>
    obtain ⟨σ', H', J, q⟩ := hs
    exact ⟨V.non, H', J.os, J.bare, J.base, J.hok, (show Value.none = Value.none from rfl), q⟩
  | brk =>
    obtain ⟨_, _, _, q⟩ := hs
    exact q.elim
  | cont =>
    obtain ⟨_, _, _, q⟩ := hs
    exact q.elim
end

/-- a def of the text, with its translation -/
structure DefAt (K : PySem.W.Frag) (mg : Str → Option Value) (defs : List Str) (consts : List (Str × D)) (pats : List (Nat × List Str)) (x : Str) (d : Df) : Prop where
  ex : ∃ (st : Stmt) (f : Addr) (fd : FuncData) (N : List Str), L2.Fun K x x st f fd ∧ mg x = some (.ref f) ∧ FnScope N d.par (defScope st) ∧ trDef defs consts pats N st = some d ∧
    (∀ (s : Shared) (us : List Value), K.In s.heap → us.length = d.par.length → BindsTo s fd ⟨us, []⟩ (d.par.zip us)) ∧
    ∀ p ∈ pats, ∀ (s : Shared) (us ws r : List Value), K.In s.heap → us.length = p.1 → ws.length = p.2.length → p.2 ≠ [] → permArgs d.par p.2 (us ++ ws) = some r → BindsTo s fd ⟨us, p.2.zip ws⟩ (d.par.zip r)
/-- what the text's names stand for -/
structure TxOk (K : PySem.W.Frag) (mg : Str → Option Value) (consts : List (Str × D)) (pats : List (Nat × List Str)) (T : Tx) : Prop where
  bi : ∀ x ∈ biNames, mg x = none
  co : ∀ x d, consts.lookup x = some d → ∃ v u, mg x = some u ∧ L2.RelV v u ∧ ∀ ρ π H, RD K mg ρ π H d v
  df : ∀ x d, T.lookup x = some d → DefAt K mg (T.map (·.1)) consts pats x d

theorem lookup_of_mem {T : Tx} {x : Str} (h : x ∈ T.map (·.1)) : ∃ d, T.lookup x = some d := by
  rw [List.mem_map] at h
  obtain ⟨⟨a, d⟩, h1, h2⟩ := h
  dsimp only at h2
  subst h2
  induction T with
  | nil => cases h1
  | cons p T ih =>
    obtain ⟨b, e⟩ := p
    rw [List.lookup_cons]
    by_cases hb : a == b
    · rw [hb]; exact ⟨_, rfl⟩
    · simp only [hb]
      cases h1 with
      | head => exact absurd (beq_self_eq_true a) hb
      | tail _ h1 => exact ih h1

section
variable {P : Program} {w : World} {K : PySem.W.Frag} {mg : Str → Option Value} {base : Heap} {consts : List (Str × D)} {pats : List (Nat × List Str)} {T : Tx}
theorem run_len {T : Tx} {x : Str} : ∀ {k : Nat}, (T.at k).par x = T.par x
  | 0 => rfl
  | _ + 1 => rfl
theorem par_of {x : Str} {d : Df} (h : T.lookup x = some d) : T.par x = d.par := by
  unfold Tx.par
  rw [h]
theorem spC_len {C : Cal} {x : Str} : ∀ vs H Q E, spC K mg C x vs H Q E → vs.length = (C.par x).length := by
  rintro vs H Q E ⟨ρ, π, st, ds, hl, S, r, F⟩
  rw [← r.length, hl]
theorem start_re {ρ π : List Addr} {H : Hp} {ds : List D} {vs : List V} {N : List Str} (r : RDs K mg ρ π H ds vs) : RE K mg ρ π H (ds.map some ++ List.replicate (N.length - ds.length) none) (L2.start N vs) := by
  have hl := r.length
  refine ⟨?_, fun i d e => ?_⟩
  · unfold L2.start
    simp [hl]
  · have hi : i < ds.length := by
      by_cases hi : i < ds.length
      · exact hi
      · rw [List.getElem?_append_right (by simpa using hi), List.getElem?_replicate] at e
        split at e <;> cases e
    rw [List.getElem?_append_left (by simpa using hi), List.getElem?_map] at e
    cases hd : ds[i]? with
    | none => rw [hd] at e; cases e
    | some a =>
      rw [hd] at e
      cases e
      obtain ⟨v, e1, e2⟩ := r.get hd
      refine ⟨v, ?_, e2⟩
      unfold L2.start
      rw [List.getElem?_append_left (by simpa using (hl ▸ hi)), List.getElem?_map, e1]
      rfl
theorem callee_step {k : Nat} (O : TxOk K mg consts pats T) (ih : ∀ x ∈ T.map (·.1), ∃ f, Callee P w K mg base k (T.at k) pats x f) : ∀ x ∈ T.map (·.1), ∃ f, Callee P w K mg base (k + 1) (T.at (k + 1)) pats x f := by
  intro x hx
  obtain ⟨d, hd⟩ := lookup_of_mem hx
  obtain ⟨st, f, fd, N, F, hm, S, ht, hb, hk⟩ := (O.df x d hd).ex
  have hp : (T.at (k + 1)).par x = d.par := par_of hd
  refine ⟨f, hm, F.kp, fd, ?_, ?_, ?_⟩
  · rw [hp]
    refine fnG_by F S (fun vs H Q E h => by rw [spC_len _ _ _ _ h, hp]) fun cdv A outer s H vs Q E hr hg hsp => ?_
    obtain ⟨ρ, π, st0, ds, hl, S0, r, Fi⟩ := hsp
    rw [hp] at hl
    cases st with
    | FunctionDef nm args body dl rt tc sc p1 p2 p3 =>
      unfold trDef at ht
      dsimp only at ht
      rw [Option.map_eq_some_iff] at ht
      obtain ⟨b, hb1, hb2⟩ := ht
      subst hb2
      have ok : Ok (T.at k) k (cxOf (L2.CX P w) P w K mg base N x sc f cdv A outer s H E)
          { N := N, sc := sc, stn := (sc.names.map (·.1)).filter fun y => sc.names.lookup y == some .local || sc.names.lookup y == some .cell, defs := T.map (·.1), consts := consts, pats := pats } (fun c da _ H => E c da H) := by
        refine ⟨rfl, S.kind, rfl, S.nd, rfl, hr, hg, O.bi, O.co, fun y hy => ?_, ih, fun y hy => ih y ?_, takes_of rfl rfl rfl rfl, passes_of rfl⟩
        · have hy2 := (List.mem_filter.mp hy).2
          rw [Bool.or_eq_true, beq_iff_eq, beq_iff_eq] at hy2
          exact ⟨hy2, .inl rfl⟩
        · cases k <;> exact hy
      have body := (sndS fuel).ss _ _ _ ok _ _ hb1
      refine ⟨_, body, ρ, π, _, st0, S0, start_re r, ?_⟩
      have hr2 : (T.at (k + 1)).run x ds st0 = Df.go { par := args.args.map (·.arg), names := N.length, body := b } (T.at k) ds st0 := by
        show (match T.lookup x with | some d => d.go (T.at k) ds st0 | none => .bad) = _
        rw [hd]
      rw [hr2] at Fi
      unfold Df.go at Fi
      rw [if_pos hl] at Fi
      dsimp only at Fi
      cases ho : evSs (T.at k) b (ds.map some ++ List.replicate (N.length - ds.length) none) st0 with
      | bad => rw [ho] at Fi; exact Fi.elim
      | bk e s2 => rw [ho] at Fi; exact Fi.elim
      | ct e s2 => rw [ho] at Fi; exact Fi.elim
      | rt dd s2 => rw [ho] at Fi; exact fun ρ' H' v x1 S1 r1 => Fi ρ' H' v x1 S1 r1
      | nx e s2 => rw [ho] at Fi; exact fun ρ' H' σ' x1 S1 E1 => Fi ρ' H' .non x1 S1 .non
      | ex c v e s2 => rw [ho] at Fi; exact fun ρ' H' σ' Cc da u x1 S1 E1 h1 h2 h3 => Fi ρ' H' Cc da u x1 S1 h1 h2 h3
    | _ => cases ht
  · rw [hp]; exact hb
  · rw [hp]; exact hk
theorem callee_zero (O : TxOk K mg consts pats T) : ∀ x ∈ T.map (·.1), ∃ f, Callee P w K mg base 0 (T.at 0) pats x f := by
  intro x hx
  obtain ⟨d, hd⟩ := lookup_of_mem hx
  obtain ⟨st, f, fd, N, F, hm, S, ht, hb, hk⟩ := (O.df x d hd).ex
  have hp : (T.at 0).par x = d.par := par_of hd
  refine ⟨f, hm, F.kp, fd, ⟨spC_len, fun A outer s H args us vs Q E hr hg e0 hb r hsp => ?_⟩, ?_, ?_⟩
  · obtain ⟨ρ, π, st0, ds, hl, S0, r, Fi⟩ := hsp
    exact Fi.elim
  · rw [hp]; exact hb
  · rw [hp]; exact hk
/-- every def, at every depth -/
theorem callee_all (O : TxOk K mg consts pats T) : ∀ k : Nat, ∀ x ∈ T.map (·.1), ∃ f, Callee P w K mg base k (T.at k) pats x f
  | 0 => callee_zero O
  | k + 1 => callee_step O (callee_all O k)
end
end Ev
/-! From the evaluator's word about the law to the row's promise. -/
namespace Ev
open PySem PySem.Spec PyProof.Rows L2

/-- the abstract heap at the law's call: the script alone, if it is no object of the module -/
def sH (on : Bool) (a : Addr) (vs : List Value) (zs : List V) : Hp := fun b =>
  if on = true ∧ b = a then some (.frz { cls := .type "list", data := .seq vs.toArray } (.lst zs)) else none
section
variable {on : Bool} {a b : Addr} {vs : List Value} {zs : List V}
theorem sH_two : sH on a vs zs b = none ∨ ∃ o xs, sH on a vs zs b = some (.frz o (.lst xs)) := by
  unfold sH
  split
  · exact .inr ⟨_, _, rfl⟩
  · exact .inl rfl
theorem sH_at (h : sH on a vs zs b ≠ none) : on = true ∧ b = a := by
  unfold sH at h
  split at h
  · assumption
  · exact absurd rfl h
end
section
variable {P : Program} {w : World} {K : PySem.W.Frag} {mg mb : Str → Option Value} {k : Nat} {fa a : Addr} {x y : Str} {s1 : Shared} {vs : List Value} {ns : List Int} {C : Cal} {pats : List (Nat × List Str)} {st : Sto}
theorem law_top (inK : K.In s1.heap) (hn1 : s1.heap.Ns mainGlobals mg) (hn2 : s1.heap.Ns builtinsNs mb) (hbt : ∀ z : Str, z ≠ "__name__" → mb z = bootBuiltins z) (hlm : s1.heap.NoLimit) (hgs : s1.gens = #[])
    (hla : s1.heap.get? a = some { cls := .type "list", data := .seq vs.toArray }) (hin : IntsAre vs ns) (hsz : ns.length ≤ sizeLine) (hrm : Room k callerA)
    (F : ∀ base : Heap, ∃ f, Callee P w K mg base k C pats x f) (hmx : mg x = some (.ref fa)) (hp1 : C.par x = [y]) (hrun : C.run x [.ro ns] [] = .ok (.bl true) st) :
    codeAny (model P w) callerA (.call (.ref fa) ⟨[.ref a], []⟩) (fun r s' => r = .ok (.ret (.bool true)) ∧ PySem.OldK s1.heap s'.heap ∧ s'.os = s1.os ∧ AllBare s'.gens) s1 := by
  have hvs := vals_ints hin
  obtain ⟨on, hon⟩ : ∃ on : Bool, on = (K.lookup a).isNone := ⟨_, rfl⟩
  have hoff : ∀ {b : Addr}, sH on a vs (ns.map V.int) b ≠ none → b = a ∧ K.lookup a = none := fun {b} z => by
    obtain ⟨z1, z2⟩ := sH_at z
    rw [z1] at hon
    exact ⟨z2, Option.isNone_iff_eq_none.mp hon.symm⟩
  obtain ⟨H, hH⟩ : ∃ H : Hp, H = sH on a vs (ns.map V.int) := ⟨_, rfl⟩
  rw [← hH] at hoff
  have htwo : ∀ b, H b = none ∨ ∃ o xs, H b = some (.frz o (.lst xs)) := fun b => by rw [hH]; exact sH_two
  have hok : HOk P w H s1.heap := by
    intro b u z
    obtain ⟨z1, z2⟩ := hoff (b := b) (by rw [z]; simp)
    subst z1
    rw [hH] at z
    unfold sH at z
    split at z
    · cases z
      exact ⟨hla, by rw [List.length_map]; exact hsz, vs, _, hvs, hla⟩
    · cases z
  have hro : RoL K H a (ns.map V.int) := by
    cases hk : K.lookup a with
    | none =>
      refine .inl ⟨{ cls := .type "list", data := .seq vs.toArray }, ?_⟩
      rw [hH]
      unfold sH
      rw [hon, hk, if_pos ⟨rfl, rfl⟩]
    | some o =>
      have e := inK a o hk
      rw [hla] at e
      cases e
      exact .inr ⟨_, vs.toArray, _, hk, rfl, rfl, rfl, by rw [List.size_toArray, hin.length]; exact hsz, by simpa using hvs⟩
  have stay : ∀ {b : Addr} {o : Obj}, s1.heap.get? b = some o → (∀ its j, o.data ≠ .seq its j) → (hidT s1.heap H).get? b = some o := fun {b o} e hd => by
    refine hidT_get e ?_
    cases q : H b with
    | none => rfl
    | some u =>
      obtain ⟨z1, -⟩ := hoff (b := b) (by rw [q]; simp)
      subst z1
      rw [hla] at e
      cases e
      exact absurd rfl (hd _ _)
  have nsStay : ∀ {b : Addr} {m : Str → Option Value}, s1.heap.Ns b m → (hidT s1.heap H).Ns b m := fun {b m} ⟨o, es, ep, e, d, r⟩ =>
    ⟨o, es, ep, stay e (fun its j z => by rw [d] at z; cases z), d, r⟩
  have inK2 : K.In (hidT s1.heap H) := by
    intro b o e
    refine hidT_get (inK b o e) ?_
    cases q : H b with
    | none => rfl
    | some u =>
      obtain ⟨z1, z2⟩ := hoff (b := b) (by rw [q]; simp)
      subst z1
      rw [z2] at e
      cases e
  have hmod : Mod K mg (hidT s1.heap H) := by
    obtain ⟨mc, c1, c2⟩ := hlm
    exact ⟨inK2, nsStay hn1, ⟨mb, nsStay hn2, hbt⟩, ⟨mc, nsStay c1, c2⟩⟩
  have henv : Env0 P w K mg (hidT s1.heap H) callerA [] s1 H := by
    refine ⟨rfl, hmod, fun b o e => of_hidT e, Nat.le_of_eq (hidT_size _ _), trivial, ?_, hok, .of_eq hgs⟩
    intro b z
    exact absurd (show b ∈ ([] : List Addr) from z) (by simp)
  obtain ⟨f, Fc⟩ := F (hidT s1.heap H)
  have hff : f = fa := by
    have z := Fc.at_
    rw [hmx] at z
    cases z
    rfl
  subst hff
  obtain ⟨fd, F1, F2, -⟩ := Fc.ex
  rw [hp1] at F1 F2
  have word : spC K mg C x [.ref a] H (fun v _ => v = .bl true) (fun _ _ _ => False) := by
    refine ⟨[], [], [], [.ro ns], by rw [hp1]; rfl, ?_, .cons (.ro hro) .nil, ?_⟩
    · exact ⟨rfl, List.nodup_nil, fun n b o e => (nomatch e), fun b z => (nomatch z)⟩
    · rw [hrun]
      intro ρ' H' v _ _ r
      cases r
      rfl
  refine codeAny_mono (F1.run callerA [] s1 H ⟨[.ref a], []⟩ [.ref a] [.ref a] _ _ hrm rfl henv (F2 s1 [.ref a] inK rfl) (.cons rfl .nil) word) fun r s' h => ?_
  cases r with
  | error e =>
    obtain ⟨_, _, _, _, _, _, _, _, _, _, _, _, z⟩ := h
    exact z.elim
  | ok fl =>
    cases fl with
    | next => exact h.elim
    | brk => exact h.elim
    | cont => exact h.elim
    | ret u =>
      obtain ⟨v, H2, os2, bare2, un2, ok2, r2, q2⟩ := h
      have q3 : v = .bl true := q2
      subst q3
      obtain rfl : u = Value.bool true := r2
      refine ⟨rfl, .of_keep ?_, os2, bare2⟩
      intro b o e
      rcases htwo b with z | ⟨ob, xs, z⟩
      · exact un2.keep b o e z (by intro m; exact absurd (show b ∈ ([] : List Addr) from m) (by simp)) (by simp)
      · obtain ⟨e1, -⟩ := hok b _ z
        obtain ⟨e2, -⟩ := ok2 b _ (un2.frzs b ob _ z)
        rw [e] at e1
        cases e1
        exact e2
end
/-- the row's promise, from the evaluator's word -/
theorem walk_ev {l : PySem.W.OpenLaw} {n k : Nat} {q : Program} {loose : List Str} {XP : (Str → Option Value) → Heap → Prop} {YP : World → Heap → Prop} {d : DefRec} {K : Params → PySem.W.Frag} {y : Str} {consts : List (Str × D)} {pats : List (Nat × List Str)} {T : Tx}
    (hmost : l.most = some n) (hle : n ≤ sizeLine) (hnod : d.params.defaults = []) (hrm : Room k callerA) (hin : ∀ (w : World) (h : Heap), YP w h → (K w.params).In h)
    (hT : ∀ (w : World) (mg : Str → Option Value) (h : Heap), YP w h → (K w.params).In h → h.Ns mainGlobals mg → TxOk (K w.params) mg consts pats T) (hx : d.name ∈ T.map (·.1)) (hp : T.par d.name = [y])
    (hrun : ∀ ns : List Int, ns.length ≤ n → ∃ st, (T.at k).run d.name [.ro ns] [] = .ok (.bl true) st) :
    PySem.W.WalkO q loose XP YP l.row.toRowW d [] (fun f vs => PySem.call f vs) := by
  refine Att.attach_call hmost hnod ?_
  intro w s₀ s1 mg mb fa o pm cd doc a vs ns G Y ho hd hcd hmg hobj hints hlen hgs
  have inK := hin w _ Y
  obtain ⟨st, hst⟩ := hrun ns hlen
  have O := hT w mg _ Y inK G.T.g
  exact law_top inK G.T.g G.T.b G.T.builtins G.T.nolimit hgs hobj hints (Nat.le_trans hlen hle) hrm (fun base => callee_all O k d.name hx) hmg (by rw [run_len]; exact hp) hst
end Ev
/-! From what the top has written to the text's defs. -/
namespace Ev
open PySem PySem.Spec PyProof.Rows L2

/-- a def as the top has written it -/
structure Raw (K : PySem.W.Frag) (x : Str) (st : Stmt) : Prop where
  ex : ∃ (f : Addr) (oc : Value) (od : Option Addr) (osl : Array (Option Value)) (kV doc pm : Value) (an : Option Addr) (cdv ct : Value), PySem.W.nsIn K mainGlobals x = some (some (.ref f)) ∧
    K.lookup f = some ⟨oc, od, .func (PySem.W.fnOf x x (defArgs st) (defBody st) (defScope st) .none kV doc pm an cdv ct), osl⟩ ∧ PySem.W.codeIn K cdv x = true ∧ PySem.W.keepIn K (.ref f) = true
theorem raw_mk {K : PySem.W.Frag} {x : Str} {st : Stmt} {f : Addr} {oc : Value} {od an : Option Addr} {osl : Array (Option Value)} {kV doc pm cdv ct : Value} (a : PySem.W.nsIn K mainGlobals x = some (some (.ref f)))
    (l : K.lookup f = some ⟨oc, od, .func (PySem.W.fnOf x x (defArgs st) (defBody st) (defScope st) .none kV doc pm an cdv ct), osl⟩) (c : PySem.W.codeIn K cdv x = true) (k : PySem.W.keepIn K (.ref f) = true) : Raw K x st :=
  ⟨f, oc, od, osl, kV, doc, pm, an, cdv, ct, a, l, c, k⟩
theorem defAt_mk {K : PySem.W.Frag} {h : Heap} {mg : Str → Option Value} {defs : List Str} {consts : List (Str × D)} {pats : List (Nat × List Str)} {x : Str} {st : Stmt} {d : Df} {N : List Str} (inK : K.In h) (G : h.Ns mainGlobals mg) (r : Raw K x st)
    (S : FnScope N d.par (defScope st)) (t : trDef defs consts pats N st = some d)
    (b : ∀ (kV doc pm : Value) (an : Option Addr) (cdv ct : Value) (us : List Value), us.length = d.par.length → bindArgs (PySem.W.fnOf x x (defArgs st) (defBody st) (defScope st) .none kV doc pm an cdv ct) ⟨us, []⟩ = pure (d.par.zip us))
    (kb : ∀ (kV doc pm : Value) (an : Option Addr) (cdv ct : Value), ∀ p ∈ pats, ∀ (us ws r : List Value), us.length = p.1 → ws.length = p.2.length → p.2 ≠ [] → permArgs d.par p.2 (us ++ ws) = some r →
      bindArgs (PySem.W.fnOf x x (defArgs st) (defBody st) (defScope st) .none kV doc pm an cdv ct) ⟨us, p.2.zip ws⟩ = pure (d.par.zip r)) : DefAt K mg defs consts pats x d := by
  obtain ⟨f, oc, od, osl, kV, doc, pm, an, cdv, ct, a, l, c, k⟩ := r.ex
  refine ⟨st, f, _, N, fun_mk l c k, PySem.W.mg_of inK G a, S, t, fun s us _ hl => .of_eq (b _ _ _ _ _ _ us hl), fun p hp s us ws r _ h1 h2 h3 h4 => .of_eq (kb _ _ _ _ _ _ p hp us ws r h1 h2 h3 h4)⟩
/-- all defs of the text -/
inductive AllT (P : Str → Df → Prop) : Tx → Prop
  | nil : AllT P []
  | cons {x : Str} {d : Df} {T : Tx} (h : P x d) (t : AllT P T) : AllT P ((x, d) :: T)
theorem AllT.get {P : Str → Df → Prop} {T : Tx} (h : AllT P T) {x : Str} {d : Df} (e : T.lookup x = some d) : P x d := by
  induction h with
  | nil => cases e
  | cons h t ih =>
    rename_i y d' T
    rw [List.lookup_cons] at e
    split at e
    · rename_i hy
      have hy : x = y := by simpa using hy
      cases e
      rw [hy]
      exact h
    · exact ih e
/-- all constants of the text -/
inductive AllC (P : Str → D → Prop) : List (Str × D) → Prop
  | nil : AllC P []
  | cons {x : Str} {d : D} {cs : List (Str × D)} (h : P x d) (t : AllC P cs) : AllC P ((x, d) :: cs)
theorem AllC.get {P : Str → D → Prop} {cs : List (Str × D)} (h : AllC P cs) {x : Str} {d : D} (e : cs.lookup x = some d) : P x d := by
  induction h with
  | nil => cases e
  | cons h t ih =>
    rename_i y d' T
    rw [List.lookup_cons] at e
    split at e
    · rename_i hy
      have hy : x = y := by simpa using hy
      cases e
      rw [hy]
      exact h
    · exact ih e
/-- a constant of the text -/
def CoAt (K : PySem.W.Frag) (mg : Str → Option Value) (x : Str) (d : D) : Prop := ∃ v u, mg x = some u ∧ L2.RelV v u ∧ ∀ ρ π H, RD K mg ρ π H d v
theorem co_int {K : PySem.W.Frag} {h : Heap} {mg : Str → Option Value} {x : Str} {i : Int} {t : Nat} (inK : K.In h) (G : h.Ns mainGlobals mg) (a : PySem.W.nsIn K mainGlobals x = some (some (.int i t))) : CoAt K mg x (.int i) :=
  ⟨.int i, .int i t, PySem.W.mg_of inK G a, ⟨t, rfl⟩, fun _ _ _ => .int i⟩
theorem co_str {K : PySem.W.Frag} {h : Heap} {mg : Str → Option Value} {x s : Str} {t : Nat} (inK : K.In h) (G : h.Ns mainGlobals mg) (a : PySem.W.nsIn K mainGlobals x = some (some (.str s t))) : CoAt K mg x (.str s) :=
  ⟨.str s, .str s t, PySem.W.mg_of inK G a, ⟨t, rfl⟩, fun _ _ _ => .str s⟩
/-- the names of built-ins are free -/
inductive AllN (P : Str → Prop) : List Str → Prop
  | nil : AllN P []
  | cons {x : Str} {xs : List Str} (h : P x) (t : AllN P xs) : AllN P (x :: xs)
theorem AllN.get {P : Str → Prop} {xs : List Str} (h : AllN P xs) : ∀ x ∈ xs, P x := by
  induction h with
  | nil => exact fun x hx => nomatch hx
  | cons h t ih =>
    intro x hx
    cases hx with
    | head => exact h
    | tail _ hx => exact ih x hx
def Free (K : PySem.W.Frag) (x : Str) : Prop := PySem.W.nsIn K mainGlobals x = some none
theorem txOk_mk {K : PySem.W.Frag} {h : Heap} {mg : Str → Option Value} {consts : List (Str × D)} {pats : List (Nat × List Str)} {T : Tx} (inK : K.In h) (G : h.Ns mainGlobals mg) (z : AllN (Free K) biNames) (c : AllC (CoAt K mg) consts) (t : AllT (DefAt K mg (T.map (·.1)) consts pats) T) : TxOk K mg consts pats T :=
  ⟨fun x hx => PySem.W.mg_none_of inK G (z.get x hx), fun x d e => c.get e, fun x d e => t.get e⟩
end Ev
/-! Rules for evaluating. -/
namespace Ev
open PySem

section
variable {α β : Type} {a : α} {s : Sto} {f : α → Sto → Out β} {c : Str} {v : D} {env : Env} {g : α → Sto → R} {k : Env → Sto → R}
@[simp] theorem bnd_oks : (Out.ok a s).bnd f = f a s := rfl
@[simp] theorem toR_ok : (Out.ok a s).toR env g = g a s := rfl
@[simp] theorem seq_nx : (R.nx env s).seq k = k env s := rfl
@[simp] theorem seq_rt : (R.rt v s).seq k = R.rt v s := rfl
@[simp] theorem seq_ct : (R.ct env s).seq k = R.ct env s := rfl
@[simp] theorem seq_bk : (R.bk env s).seq k = R.bk env s := rfl
@[simp] theorem opt_some : opt (some a) s = .ok a s := rfl
@[simp] theorem noEx_ok : noEx (Out.ok a s) = .ok a s := rfl
end
section
variable {C : Cal} {env : Env} {st : Sto} {a b c e lo hi t : E} {es src ifs : List E} {al : Bool} {d : D} {i : Nat} {x : Str} {o p : COp} {q : BOp} {pr : Prim} {ks : List Str} {kks : List L2.Key} {ty : Ty} {own : List Nat} {tn : TN} {ik : IK}
@[simp] theorem ev_c : evE C (.c d) env st = .ok d st := rfl
theorem ev_v : evE C (.v i) env st = (match env[i]? with
    | some (some d) => .ok d st
    | _ => .bad) := rfl
@[simp] theorem ev_v0 {d : D} {r : Env} : evE C (.v 0) (some d :: r) st = .ok d st := rfl
@[simp] theorem ev_v1 {d : D} {x0 : Option D} {r : Env} : evE C (.v 1) (x0 :: some d :: r) st = .ok d st := rfl
@[simp] theorem ev_v2 {d : D} {x0 x1 : Option D} {r : Env} : evE C (.v 2) (x0 :: x1 :: some d :: r) st = .ok d st := rfl
@[simp] theorem ev_v3 {d : D} {x0 x1 x2 : Option D} {r : Env} : evE C (.v 3) (x0 :: x1 :: x2 :: some d :: r) st = .ok d st := rfl
@[simp] theorem ev_v4 {d : D} {x0 x1 x2 x3 : Option D} {r : Env} : evE C (.v 4) (x0 :: x1 :: x2 :: x3 :: some d :: r) st = .ok d st := rfl
@[simp] theorem ev_v5 {d : D} {x0 x1 x2 x3 x4 : Option D} {r : Env} : evE C (.v 5) (x0 :: x1 :: x2 :: x3 :: x4 :: some d :: r) st = .ok d st := rfl
@[simp] theorem ev_v6 {d : D} {x0 x1 x2 x3 x4 x5 : Option D} {r : Env} : evE C (.v 6) (x0 :: x1 :: x2 :: x3 :: x4 :: x5 :: some d :: r) st = .ok d st := rfl
@[simp] theorem ev_v7 {d : D} {x0 x1 x2 x3 x4 x5 x6 : Option D} {r : Env} : evE C (.v 7) (x0 :: x1 :: x2 :: x3 :: x4 :: x5 :: x6 :: some d :: r) st = .ok d st := rfl
@[simp] theorem ev_v8 {d : D} {x0 x1 x2 x3 x4 x5 x6 x7 : Option D} {r : Env} : evE C (.v 8) (x0 :: x1 :: x2 :: x3 :: x4 :: x5 :: x6 :: x7 :: some d :: r) st = .ok d st := rfl
@[simp] theorem ev_v9 {d : D} {x0 x1 x2 x3 x4 x5 x6 x7 x8 : Option D} {r : Env} : evE C (.v 9) (x0 :: x1 :: x2 :: x3 :: x4 :: x5 :: x6 :: x7 :: x8 :: some d :: r) st = .ok d st := rfl
@[simp] theorem ev_v10 {d : D} {x0 x1 x2 x3 x4 x5 x6 x7 x8 x9 : Option D} {r : Env} : evE C (.v 10) (x0 :: x1 :: x2 :: x3 :: x4 :: x5 :: x6 :: x7 :: x8 :: x9 :: some d :: r) st = .ok d st := rfl
@[simp] theorem ev_v11 {d : D} {x0 x1 x2 x3 x4 x5 x6 x7 x8 x9 x10 : Option D} {r : Env} : evE C (.v 11) (x0 :: x1 :: x2 :: x3 :: x4 :: x5 :: x6 :: x7 :: x8 :: x9 :: x10 :: some d :: r) st = .ok d st := rfl
@[simp] theorem ev_v12 {d : D} {x0 x1 x2 x3 x4 x5 x6 x7 x8 x9 x10 x11 : Option D} {r : Env} : evE C (.v 12) (x0 :: x1 :: x2 :: x3 :: x4 :: x5 :: x6 :: x7 :: x8 :: x9 :: x10 :: x11 :: some d :: r) st = .ok d st := rfl
@[simp] theorem ev_v13 {d : D} {x0 x1 x2 x3 x4 x5 x6 x7 x8 x9 x10 x11 x12 : Option D} {r : Env} : evE C (.v 13) (x0 :: x1 :: x2 :: x3 :: x4 :: x5 :: x6 :: x7 :: x8 :: x9 :: x10 :: x11 :: x12 :: some d :: r) st = .ok d st := rfl
@[simp] theorem ev_g : evE C (.g x) env st = .ok (.fn x) st := rfl
@[simp] theorem ev_bin : evE C (.bin al q a b) env st = (evE C a env st).bnd fun x st => (evE C b env st).bnd fun y st => binD al q x y st := rfl
@[simp] theorem ev_neg : evE C (.neg a) env st = (evE C a env st).bnd fun x st => negP x st := rfl
@[simp] theorem ev_not : evE C (.not a) env st = (evE C a env st).bnd fun x st => (opt (truth st x) st).bnd fun k st => .ok (.bl !k) st := rfl
@[simp] theorem ev_and : evE C (.and a b) env st = (evE C a env st).bnd fun x st => (opt (truth st x) st).bnd fun k st => if k then evE C b env st else .ok x st := rfl
@[simp] theorem ev_or : evE C (.or a b) env st = (evE C a env st).bnd fun x st => (opt (truth st x) st).bnd fun k st => if k then .ok x st else evE C b env st := rfl
@[simp] theorem ev_ite : evE C (.ite t a b) env st = (evE C t env st).bnd fun x st => (opt (truth st x) st).bnd fun k st => if k then evE C a env st else evE C b env st := rfl
@[simp] theorem ev_cmp : evE C (.cmp o a b) env st = (evE C a env st).bnd fun x st => (evE C b env st).bnd fun y st => cmpD o x y st := rfl
/-- the second half of a chain -/
def chainK (r : D) (st : Sto) (z : Sto → Out D) : Out D := match r with
  | .bl true => z st
  | .bl false => .ok (.bl false) st
  | _ => .bad
@[simp] theorem chainK_t {st : Sto} {z : Sto → Out D} : chainK (.bl true) st z = z st := rfl
@[simp] theorem chainK_f {st : Sto} {z : Sto → Out D} : chainK (.bl false) st z = .ok (.bl false) st := rfl
theorem chainK_b {k : Bool} {st : Sto} {z : Sto → Out D} : chainK (.bl k) st z = if k then z st else .ok (.bl false) st := by
  cases k <;> rfl
@[simp] theorem ev_chain : evE C (.chain o p a b c) env st = (evE C a env st).bnd fun x st => (evE C b env st).bnd fun y st => (cmpD o x y st).bnd fun r st => chainK r st fun st => (evE C c env st).bnd fun z st => cmpD p y z st := by
  congr 1
@[simp] theorem ev_tup : evE C (.tup es) env st = (evEs C es env st).bnd fun ds st => if small ds.length then .ok (.tup ds) st else .bad := rfl
@[simp] theorem ev_lst : evE C (.lst al es) env st = (evEs C es env st).bnd fun ds st => if small ds.length then newL al ds st else .bad := rfl
@[simp] theorem ev_dct : evE C (.dct al kks es) env st = (evEs C es env st).bnd fun ds st => if kks.length = ds.length ∧ kks.Nodup ∧ kks.length ≤ 15 then newDct al kks ds st else .bad := rfl
@[simp] theorem ev_ix : evE C (.ix a b) env st = (evE C a env st).bnd fun x st => (evE C b env st).bnd fun y st => opt (ixD x y st) st := rfl
@[simp] theorem ev_sl : evE C (.sl al a lo hi) env st = (evE C a env st).bnd fun x st => (partO (isOmit lo) (evE C lo env) st).bnd fun l st => (partO (isOmit hi) (evE C hi env) st).bnd fun h st => slD al x l h st := rfl
@[simp] theorem ev_call : evE C (.call x ks es) env st = (evEs C es env st).bnd fun ds st => callC C x ks ds st := rfl
@[simp] theorem ev_pr : evE C (.pr al pr es) env st = (evEs C es env st).bnd fun ds st => prD al pr ds st := rfl
@[simp] theorem ev_isi : evE C (.isi a ty) env st = (evE C a env st).bnd fun x st => (opt (isTy ty x st) st).bnd fun k st => .ok (.bl k) st := rfl
@[simp] theorem ev_app : evE C (.app a b) env st = (evE C a env st).bnd fun x st => if isLst x st then (evE C b env st).bnd fun y st => appP x y st else .bad := rfl
@[simp] theorem ev_ext : evE C (.ext a b) env st = (evE C a env st).bnd fun x st => if isLst x st then (evE C b env st).bnd fun y st => extP x y st else .bad := rfl
theorem ev_comp : evE C (.comp al own tn ik src ifs e) env st = (evEs C src env st).bnd fun ds st => match itOf ik ds st with
    | none => .bad
    | some J => compEnd al (compI J (compT tn (wipeE env own) (evTs C ifs) (evE C e)) turns 0 [] st) := rfl
@[simp] theorem evs_nil : evEs C [] env st = .ok [] st := rfl
@[simp] theorem evs_cons : evEs C (e :: es) env st = (evE C e env st).bnd fun d st => (evEs C es env st).bnd fun ds st => .ok (d :: ds) st := rfl
@[simp] theorem evt_nil : evTs C [] env st = .ok true st := rfl
end
section
variable {C : Cal} {env : Env} {st : Sto} {e : E} {es src : List E} {t : Tg} {s : S} {ss a b body : List S} {tn : TN} {ik : IK} {is : List Nat}
@[simp] theorem st_asg : evS C (.asg t e) env st = (evE C e env st).toR env fun d st => (noEx (setG C t d env st)).toR env fun env st => .nx env st := rfl
@[simp] theorem st_par : evS C (.par is es) env st = (evEs C es env st).toR env fun ds st => match setMany is ds env with
    | some env => .nx env st
    | none => .bad := rfl
@[simp] theorem st_ex : evS C (.ex e) env st = (evE C e env st).toR env fun _ st => .nx env st := rfl
@[simp] theorem st_iff : evS C (.iff e a b) env st = ((evE C e env st).bnd fun x st => opt (truth st x) st).toR env fun k st => if k then evSs C a env st else evSs C b env st := rfl
theorem st_for : evS C (.for_ tn ik src body) env st = (evEs C src env st).toR env fun ds st => match itOf ik ds st with
    | none => .bad
    | some J => forI J (fun d env st => match setT tn d env with
      | none => .bad
      | some env => evSs C body env st) turns 0 env st := rfl
@[simp] theorem st_ret : evS C (.ret (some e)) env st = (evE C e env st).toR env fun d st => .rt d st := rfl
@[simp] theorem st_retN : evS C (.ret none) env st = .rt .non st := rfl
@[simp] theorem st_pass : evS C .pass env st = .nx env st := rfl
@[simp] theorem st_brk : evS C .brk env st = .bk env st := rfl
@[simp] theorem st_cont : evS C .cont env st = .ct env st := rfl
@[simp] theorem sts_nil : evSs C [] env st = .nx env st := rfl
@[simp] theorem sts_cons : evSs C (s :: ss) env st = (evS C s env st).seq fun env st => evSs C ss env st := rfl
@[simp] theorem set_n {i : Nat} {d : D} : setG C (.n i) d env st = .ok (env.set i (some d)) st := rfl
@[simp] theorem set_t {ts : List Tg} {xs : List D} : setG C (.t ts) (.tup xs) env st = setGs C ts xs env st := rfl
@[simp] theorem sets_nil : setGs C [] [] env st = .ok env st := rfl
@[simp] theorem sets_cons {x : D} {xs : List D} {ts : List Tg} : setGs C (t :: ts) (x :: xs) env st = (setG C t x env st).bnd fun env st => setGs C ts xs env st := rfl
theorem set_s {o i : E} {d : D} : setG C (.s o i) d env st = ((noEx (evE C o env st)).bnd fun x st => (noEx (evE C i env st)).bnd fun y st => (opt (setItem x y d st) st).bnd fun st' _ => .ok env st') := rfl
@[simp] theorem setT_n {i : Nat} {d : D} : setT (.n i) d env = some (env.set i (some d)) := rfl
end
/-- how a call ends -/
def R.end_ : R → Out D
  | .rt d st => .ok d st
  | .nx _ st => .ok .non st
  | .ex c v _ st => .ex c v st
  | _ => .bad
@[simp] theorem end_rt {d : D} {st : Sto} : (R.rt d st).end_ = .ok d st := rfl
@[simp] theorem end_nx {e : Env} {st : Sto} : (R.nx e st).end_ = .ok .non st := rfl
theorem run_at {T : Tx} {x : Str} {d : Df} (h : T.lookup x = some d) (k : Nat) (ds : List D) (st : Sto) (hl : ds.length = d.par.length) :
    (T.at (k + 1)).run x ds st = (evSs (T.at k) d.body (ds.map some ++ List.replicate (d.names - ds.length) none) st).end_ := by
  show (match T.lookup x with | some d => d.go (T.at k) ds st | none => .bad) = _
  rw [h]
  dsimp only
  unfold Df.go
  rw [if_pos hl]
  rfl
theorem call_pos {T : Tx} {x : Str} {d : Df} {ds : List D} {st : Sto} {k : Nat} (h : T.lookup x = some d) (hl : ds.length = d.par.length) : callC (T.at k) x [] ds st = (T.at k).run x ds st := by
  unfold callC permArgs
  rw [if_pos rfl, run_len]
  unfold Tx.par
  rw [h, if_pos hl]
theorem call_kw {T : Tx} {x : Str} {d : Df} {ks : List Str} {ds es : List D} {st : Sto} {k : Nat} (h : T.lookup x = some d) (hp : permArgs d.par ks ds = some es) : callC (T.at k) x ks ds st = (T.at k).run x es st := by
  unfold callC
  rw [run_len]
  unfold Tx.par
  rw [h]
  dsimp only
  rw [hp]
theorem all_at {T : Tx} : ∀ {k : Nat}, (T.at k).all = T.map (·.1)
  | 0 => rfl
  | _ + 1 => rfl
theorem ev_callv {T : Tx} {k i : Nat} {ks : List Str} {es : List E} {env : Env} {st : Sto} {f : Str} {d : Df} (h : env[i]? = some (some (.fn f))) (hf : T.lookup f = some d) : evE (T.at k) (.callv i ks es) env st = (evEs (T.at k) es env st).bnd fun ds st => callC (T.at k) f ks ds st := by
  show (match env[i]? with
    | some (some (.fn f)) => if (T.at k).all.contains f then (evEs (T.at k) es env st).bnd fun ds st => callC (T.at k) f ks ds st else .bad
    | _ => .bad) = _
  rw [h]
  dsimp only
  have hm : f ∈ T.map (·.1) := by
    have : ∀ {T : Tx} {f : Str} {d : Df}, T.lookup f = some d → f ∈ T.map (·.1) := by
      intro T
      induction T with
      | nil => intro f d h; cases h
      | cons p T ih =>
        intro f d h
        obtain ⟨y, e⟩ := p
        rw [List.lookup_cons] at h
        split at h
        · rename_i hy
          have : f = y := by simpa using hy
          rw [this]
          exact List.mem_cons_self
        · exact List.mem_cons_of_mem _ (ih h)
    exact this hf
  rw [all_at, if_pos (List.contains_iff_mem.mpr hm)]

/-! ### data -/
section
variable {st : Sto} {xs ys : List D} {i j : Int} {x y : Str} {b : Bool} {d : D} {al : Bool} {ks : List L2.Key}
@[simp] theorem tr_bl : truth st (.bl b) = some b := rfl
@[simp] theorem tr_int : truth st (.int i) = some (i != 0) := rfl
@[simp] theorem tr_non : truth st .non = some false := rfl
@[simp] theorem bin_add_int : binD al .add (.int i) (.int j) st = .ok (.int (i + j)) st := rfl
@[simp] theorem bin_add_tup : binD al .add (.tup xs) (.tup ys) st = if small (xs.length + ys.length) then .ok (.tup (xs ++ ys)) st else .bad := rfl
@[simp] theorem bin_sub_int : binD al .sub (.int i) (.int j) st = .ok (.int (i - j)) st := rfl
@[simp] theorem bin_mod_int : binD al .mod (.int i) (.int j) st = if 0 < j then .ok (.int (i % j)) st else .bad := rfl
@[simp] theorem bin_fdiv_int : binD al .fdiv (.int i) (.int j) st = if 0 < j ∧ j < 1073741824 then .ok (.int (i / j)) st else .bad := rfl
@[simp] theorem bin_mul_int : binD al .mul (.int i) (.int j) st = if (-(2 ^ 64) < i ∧ i < 2 ^ 64) ∨ (-(2 ^ 64) < j ∧ j < 2 ^ 64) then .ok (.int (i * j)) st else .bad := rfl
@[simp] theorem bin_mul_tup : binD al .mul (.tup xs) (.int j) st = if -1000 ≤ j ∧ j ≤ 1000 ∧ xs.length ≤ 1000 then .ok (.tup (List.replicate j.toNat xs).flatten) st else .bad := rfl
@[simp] theorem bin_pow_int : binD al .pow (.int i) (.int j) st = if 0 ≤ j ∧ j ≤ 1000000 ∧ i.natAbs < 2 ^ 64 then .ok (.int (i ^ j.toNat)) st else .bad := rfl
@[simp] theorem cmp_lt : cmpD .lt (.int i) (.int j) st = .ok (.bl (decide (i < j))) st := rfl
@[simp] theorem cmp_le : cmpD .le (.int i) (.int j) st = .ok (.bl (decide (i ≤ j))) st := rfl
@[simp] theorem cmp_gt : cmpD .gt (.int i) (.int j) st = .ok (.bl (decide (j < i))) st := rfl
@[simp] theorem cmp_ge : cmpD .ge (.int i) (.int j) st = .ok (.bl (decide (j ≤ i))) st := rfl
@[simp] theorem cmp_eq_int : cmpD .eq (.int i) (.int j) st = .ok (.bl (decide (i = j))) st := by
  show Out.ok (D.bl (false != decide (i = j))) st = _
  cases decide (i = j) <;> rfl
@[simp] theorem cmp_ne_int : cmpD .ne (.int i) (.int j) st = .ok (.bl (!decide (i = j))) st := by
  show Out.ok (D.bl (true != decide (i = j))) st = _
  cases decide (i = j) <;> rfl
@[simp] theorem cmp_eq_str : cmpD .eq (.str x) (.str y) st = .ok (.bl (decide (x = y))) st := by
  show Out.ok (D.bl (false != decide (x = y))) st = _
  cases decide (x = y) <;> rfl
@[simp] theorem cmp_ne_str : cmpD .ne (.str x) (.str y) st = .ok (.bl (!decide (x = y))) st := by
  show Out.ok (D.bl (true != decide (x = y))) st = _
  cases decide (x = y) <;> rfl
def isNon : D → Bool
  | .non => true
  | _ => false
@[simp] theorem isNon_non : isNon .non = true := rfl
@[simp] theorem isNon_int : isNon (.int i) = false := rfl
@[simp] theorem cmp_isN : cmpD .isN d .non st = .ok (.bl (isNon d)) st := by cases d <;> rfl
@[simp] theorem cmp_notN : cmpD .notN d .non st = .ok (.bl (!isNon d)) st := by cases d <;> rfl
@[simp] theorem pr_len : prD al .len [d] st = (opt (lenD st d) st).bnd fun n st => .ok (.int n) st := rfl
@[simp] theorem len_tup : lenD st (.tup xs) = some xs.length := rfl
@[simp] theorem len_lst : lenD st (.lst xs) = some xs.length := rfl
@[simp] theorem len_ro {ns : List Int} : lenD st (.ro ns) = some ns.length := by
  show some (ns.map D.int).length = _
  rw [List.length_map]
@[simp] theorem pr_abs : prD al .abs [.int i] st = .ok (.int (if i < 0 then -i else i)) st := rfl
@[simp] theorem pr_max : prD al .max2 [.int i, .int j] st = .ok (.int (if j > i then j else i)) st := rfl
@[simp] theorem pr_min : prD al .min2 [.int i, .int j] st = .ok (.int (if j < i then j else i)) st := rfl
@[simp] theorem pr_int : prD al .int1 [.int i] st = .ok (.int i) st := rfl
@[simp] theorem pr_divmod : prD al .divmod [.int i, .int j] st = if 0 < j ∧ j < 1073741824 then .ok (.tup [.int (i / j), .int (i % j)]) st else .bad := rfl
@[simp] theorem pr_repr : prD al .repr [d] st = opt (reprD st d) st := rfl
@[simp] theorem pr_all {xs : List D} : prD al .all [.lst xs] st = (opt (boolsD xs) st).bnd fun bs st => .ok (.bl (bs.all id)) st := rfl
@[simp] theorem pr_any {xs : List D} : prD al .any [.lst xs] st = (opt (boolsD xs) st).bnd fun bs st => .ok (.bl (bs.any id)) st := rfl
@[simp] theorem pr_list_tup {xs : List D} : prD false .list [.tup xs] st = .ok (.lst xs) st := rfl
theorem bools_map {α : Type} (f : α → Bool) : ∀ xs : List α, boolsD (xs.map fun x => D.bl (f x)) = some (xs.map f)
  | [] => rfl
  | x :: xs => by
    show ((boolsD (xs.map fun x => D.bl (f x))).map (f x :: ·)) = _
    rw [bools_map f xs]
    rfl
@[simp] theorem ix_tup : ixD (.tup xs) (.int i) st = L2.atI xs i := rfl
@[simp] theorem ix_lst : ixD (.lst xs) (.int i) st = L2.atI xs i := rfl
@[simp] theorem ix_ro {ns : List Int} : ixD (.ro ns) (.int i) st = L2.atI (ns.map D.int) i := rfl
theorem ix_loc {n : Nat} (h : st[n]? = some (.lst xs)) : ixD (.loc n) (.int i) st = L2.atI xs i := by
  show ((match st[n]? with | some (.lst xs) => some xs | _ => none).bind fun xs => L2.atI xs i) = _
  rw [h]
  rfl
theorem atI_lt {α : Type} {xs : List α} {i : Int} (h0 : 0 ≤ i) (h : i < xs.length) : L2.atI xs i = xs[i.toNat]? := by
  unfold L2.atI L2.ixN
  rw [if_pos h0, if_pos h]
  rfl
@[simp] theorem atI_0 {α : Type} {a : α} {r : List α} : L2.atI (a :: r) 0 = some a := by
  rw [atI_lt (by omega) (by rw [List.length_cons]; omega)]
  rfl
@[simp] theorem atI_1 {α : Type} {a b : α} {r : List α} : L2.atI (a :: b :: r) 1 = some b := by
  rw [atI_lt (by omega) (by rw [List.length_cons, List.length_cons]; omega)]
  rfl
@[simp] theorem atI_2 {α : Type} {a b c : α} {r : List α} : L2.atI (a :: b :: c :: r) 2 = some c := by
  rw [atI_lt (by omega) (by rw [List.length_cons, List.length_cons, List.length_cons]; omega)]
  rfl
@[simp] theorem atI_3 {α : Type} {a b c d : α} {r : List α} : L2.atI (a :: b :: c :: d :: r) 3 = some d := by
  rw [atI_lt (by omega) (by rw [List.length_cons, List.length_cons, List.length_cons, List.length_cons]; omega)]
  rfl
@[simp] theorem newL_t : newL true xs st = .ok (.loc st.length) (st ++ [.lst xs]) := rfl
@[simp] theorem newL_f : newL false xs st = .ok (.lst xs) st := rfl
@[simp] theorem newD_f : newDct false ks xs st = .ok (.dct ks xs) st := rfl
@[simp] theorem omit_t : isOmit (.c .non) = true := rfl
@[simp] theorem part_t {r : Sto → Out D} : partO true r st = .ok none st := rfl
@[simp] theorem part_f {r : Sto → Out D} : partO false r st = (r st).bnd fun d st => partP d st := rfl
@[simp] theorem partP_int : partP (.int i) st = .ok (some i) st := rfl
@[simp] theorem sl_tup {lo hi : Option Int} : slD al (.tup xs) lo hi st = .ok (.tup (cutL xs lo hi)) st := rfl
theorem small_t {n : Nat} (h : n ≤ 1000000) : small n = true := decide_eq_true h
theorem cut_lo {α : Type} {xs : List α} {i : Int} (h0 : 0 ≤ i) (h : i ≤ xs.length) : cutL xs none (some i) = xs.take i.toNat := by
  unfold cutL HT.sIx
  dsimp only
  rw [if_neg (by omega)]
  rw [List.drop_zero, Nat.sub_zero, Nat.min_eq_left (by omega)]
theorem cut_hi {α : Type} {xs : List α} {i : Int} (h0 : 0 ≤ i) (h : i ≤ xs.length) : cutL xs (some i) none = xs.drop i.toNat := by
  unfold cutL HT.sIx
  dsimp only
  rw [if_neg (by omega)]
  rw [Nat.min_eq_left (by omega), List.take_of_length_le (by rw [List.length_drop]; omega)]
/-- data that no name, no script and no changing thing is -/
def data : D → Bool
  | .ro _ => false
  | .loc _ => false
  | .fn _ => false
  | _ => true
def isInt : D → Bool
  | .int _ => true
  | .bl _ => true
  | _ => false
def isBl : D → Bool
  | .bl _ => true
  | _ => false
def isStr : D → Bool
  | .str _ => true
  | _ => false
def isTup : D → Bool
  | .tup _ => true
  | _ => false
def isLs : D → Bool
  | .lst _ => true
  | _ => false
theorem ty_int (h : data d = true) : isTy .int d st = some (isInt d) := by cases d <;> first | rfl | cases h
theorem ty_bool (h : data d = true) : isTy .bool d st = some (isBl d) := by cases d <;> first | rfl | cases h
theorem ty_str (h : data d = true) : isTy .str d st = some (isStr d) := by cases d <;> first | rfl | cases h
theorem ty_tup (h : data d = true) : isTy .tuple d st = some (isTup d) := by cases d <;> first | rfl | cases h
theorem ty_lst (h : data d = true) : isTy .list d st = some (isLs d) := by cases d <;> first | rfl | cases h
end
end Ev
/-! Walks, pots, texts. -/
namespace Ev
open PySem

/-! ### walks -/
theorem for_run {J : Itr} {body : D → Env → Sto → R} {xs : List D} {I : Nat → Env → Sto → Prop} (hJ : ∀ i env st, I i env st → J i st = some xs[i]?)
    (hs : ∀ i d env st, xs[i]? = some d → I i env st → ∃ env' st', body d env st = .nx env' st' ∧ I (i + 1) env' st') :
    ∀ (m i : Nat) (env : Env) (st : Sto), I i env st → i ≤ xs.length → xs.length < m + i → ∃ env' st', forI J body m i env st = .nx env' st' ∧ I xs.length env' st' := by
  intro m
  induction m with
  | zero => intro i env st h h1 h2; omega
  | succ m ih =>
    intro i env st h h1 h2
    unfold forI
    rw [hJ i env st h]
    cases e : xs[i]? with
    | none =>
      have := List.getElem?_eq_none_iff.mp e
      have hi : i = xs.length := by omega
      subst hi
      exact ⟨env, st, rfl, h⟩
    | some d =>
      obtain ⟨env', st', e1, h3⟩ := hs i d env st e h
      have hi : i < xs.length := (List.getElem?_eq_some_iff.mp e).1
      dsimp only
      rw [e1]
      exact ih (i + 1) env' st' h3 (by omega) (by omega)
theorem comp_run {J : Itr} {turn : D → Sto → Out (Option D)} {xs : List D} {I : Nat → List D → Sto → Prop} (hJ : ∀ i acc st, I i acc st → J i st = some xs[i]?) (hl : xs.length ≤ 1000000)
    (hs : ∀ i d acc st, xs[i]? = some d → acc.length = i → I i acc st → ∃ y st', turn d st = .ok (some y) st' ∧ I (i + 1) (acc ++ [y]) st') :
    ∀ (m i : Nat) (acc : List D) (st : Sto), I i acc st → acc.length = i → i ≤ xs.length → xs.length < m + i → ∃ ys st', compI J turn m i acc st = .ok ys st' ∧ ys.length = xs.length ∧ I xs.length ys st' := by
  intro m
  induction m with
  | zero => intro i acc st h h0 h1 h2; omega
  | succ m ih =>
    intro i acc st h h0 h1 h2
    unfold compI
    rw [hJ i acc st h]
    cases e : xs[i]? with
    | none =>
      have := List.getElem?_eq_none_iff.mp e
      have hi : i = xs.length := by omega
      subst hi
      exact ⟨acc, st, rfl, h0, h⟩
    | some d =>
      obtain ⟨y, st', e1, h3⟩ := hs i d acc st e h0 h
      have hi : i < xs.length := (List.getElem?_eq_some_iff.mp e).1
      dsimp only
      rw [e1]
      dsimp only [Out.bnd]
      have : acc.length < most := by unfold most; omega
      rw [if_pos this]
      exact ih (i + 1) (acc ++ [y]) st' h3 (by simp [h0]) (by omega) (by omega)
/-- each thing judged by a function that changes nothing -/
theorem comp_map {turn : D → Sto → Out (Option D)} {f : D → D} {st : Sto} {xs : List D} (hl : xs.length ≤ 1000000) (hs : ∀ d ∈ xs, turn d st = .ok (some (f d)) st) : compI (fun i _ => some xs[i]?) turn turns 0 [] st = .ok (xs.map f) st := by
  obtain ⟨ys, st', e, _, h1, h2⟩ := comp_run (J := fun i _ => some xs[i]?) (turn := turn) (xs := xs) (I := fun i acc s => s = st ∧ acc = (xs.take i).map f) (fun _ _ _ _ => rfl) hl
    (fun i d acc s e _ h => by
      obtain ⟨rfl, rfl⟩ := h
      refine ⟨f d, s, hs d (List.mem_of_getElem? e), rfl, ?_⟩
      rw [List.take_add_one, e, List.map_append]
      rfl) turns 0 [] st ⟨rfl, rfl⟩ rfl (Nat.zero_le _) (by unfold turns; omega)
  rw [e, h1, h2, List.take_length]
theorem it_tup {xs : List D} {st : Sto} : itOf .seq [.tup xs] st = some fun i _ => some xs[i]? := rfl
theorem it_lst {xs : List D} {st : Sto} : itOf .seq [.lst xs] st = some fun i _ => some xs[i]? := rfl
theorem it_loc {n : Nat} {xs : List D} {st : Sto} (h : st[n]? = some (.lst xs)) : itOf .seq [.loc n] st = some (atLoc n) := by
  show (if isLst (.loc n) st then some (atLoc n) else none) = _
  have : isLst (.loc n) st = true := by
    unfold isLst
    dsimp only
    rw [h]
  rw [this]
  rfl
theorem atLoc_at {n i : Nat} {xs : List D} {st : Sto} (h : st[n]? = some (.lst xs)) : atLoc n i st = some xs[i]? := by
  unfold atLoc
  rw [h]
/-- the numbers from 0 on -/
def upTo (j : Nat) : List D := (List.range j).map fun (i : Nat) => D.int (i : Int)
theorem upTo_len {j : Nat} : (upTo j).length = j := by
  unfold upTo
  simp
theorem upTo_at {j i : Nat} {d : D} (h : (upTo j)[i]? = some d) : d = .int i ∧ i < j := by
  unfold upTo at h
  rw [List.getElem?_map] at h
  have hi : i < j := by
    by_cases hi : i < j
    · exact hi
    · rw [List.getElem?_eq_none_iff.mpr (by simpa using hi)] at h
      cases h
  rw [List.getElem?_range hi] at h
  cases h
  exact ⟨rfl, hi⟩
theorem it_rng {j : Nat} {st : Sto} (h : j ≤ 1000000) : itOf .rng1 [.int j] st = some fun i _ => some (upTo j)[i]? := by
  show itRng 0 j = _
  unfold itRng
  rw [if_pos (by omega)]
  congr 1
  funext i s
  congr 1
  by_cases hi : i < j
  · rw [if_pos (by omega)]
    unfold upTo
    rw [List.getElem?_map, List.getElem?_range hi]
    simp
  · rw [if_neg (by omega)]
    exact (List.getElem?_eq_none_iff.mpr (by rw [upTo_len]; omega)).symm

/-! ### pots -/
def Pot (n : Nat) (st : Sto) : Prop := ∃ p0 p1 : Int, st[n]? = some (.lst [.int p0, .int p1]) ∧ 0 ≤ p1 ∧ p1 < 2147483648
/-- all else stays -/
structure Same (n : Nat) (st st' : Sto) : Prop where
  len : st'.length = st.length
  at_ : ∀ j, j ≠ n → st'[j]? = st[j]?
theorem Same.refl (n : Nat) (st : Sto) : Same n st st := ⟨rfl, fun _ _ => rfl⟩
theorem Same.trans {n : Nat} {a b c : Sto} (h : Same n a b) (g : Same n b c) : Same n a c := ⟨g.len.trans h.len, fun j hj => (g.at_ j hj).trans (h.at_ j hj)⟩
theorem same_set {n : Nat} {st : Sto} {o : Ob} : Same n st (st.set n o) := ⟨by simp, fun j hj => by rw [List.getElem?_set_ne (fun z => hj z.symm)]⟩
/-- the store grows; but for n, what was stays -/
structure Grow (n : Nat) (st st' : Sto) : Prop where
  len : st.length ≤ st'.length
  at_ : ∀ j, j < st.length → j ≠ n → st'[j]? = st[j]?
theorem Grow.refl (n : Nat) (st : Sto) : Grow n st st := ⟨Nat.le_refl _, fun _ _ _ => rfl⟩
theorem Grow.trans {n : Nat} {a b c : Sto} (h : Grow n a b) (g : Grow n b c) : Grow n a c := ⟨Nat.le_trans h.len g.len, fun j h1 h2 => (g.at_ j (Nat.lt_of_lt_of_le h1 h.len) h2).trans (h.at_ j h1 h2)⟩
theorem Same.grow {n : Nat} {a b : Sto} (h : Same n a b) : Grow n a b := ⟨Nat.le_of_eq h.len.symm, fun j _ hj => h.at_ j hj⟩
theorem grow_new {n : Nat} {a : Sto} {o : Ob} : Grow n a (a ++ [o]) := ⟨by simp, fun j h1 _ => List.getElem?_append_left h1⟩
theorem Pot.new {n : Nat} {st : Sto} {o : Ob} (h : Pot n st) : Pot n (st ++ [o]) := by
  obtain ⟨p0, p1, e, h0, h1⟩ := h
  exact ⟨p0, p1, by rw [List.getElem?_append_left (List.getElem?_eq_some_iff.mp e).1]; exact e, h0, h1⟩
theorem Pot.lt {n : Nat} {st : Sto} (h : Pot n st) : n < st.length := by
  obtain ⟨p0, p1, e, h0, h1⟩ := h
  exact (List.getElem?_eq_some_iff.mp e).1
theorem Pot.set {n m : Nat} {st : Sto} {o : Ob} (h : Pot n st) (hm : m ≠ n) : Pot n (st.set m o) := by
  obtain ⟨p0, p1, e, h0, h1⟩ := h
  exact ⟨p0, p1, by rw [List.getElem?_set_ne hm]; exact e, h0, h1⟩
/-- a draw's text -/
def drawDf (A B M M2 Q : Int) (ps : List Str) : Df := ⟨ps, 3, [
    (.iff (.cmp .gt (.ix (.v 0) (.c (.int (0)))) (.c (.int (0)))) [(.asg (.t [(.s (.v 0) (.c (.int (0)))), (.n 2)]) (.pr true .divmod [(.ix (.v 0) (.c (.int (0)))), (.v 1)])), (.ret (some (.v 2)))] []),
    (.asg (.s (.v 0) (.c (.int (1)))) (.bin true .mod (.pr false .int1 [(.bin false .add (.bin false .mul (.ix (.v 0) (.c (.int (1)))) (.c (.int A))) (.c (.int B)))]) (.c (.int M)))),
    (.ret (some (.bin true .mod (.pr false .int1 [(.bin false .fdiv (.bin false .mod (.pr false .int1 [(.bin false .mul (.ix (.v 0) (.c (.int (1)))) (.ix (.v 0) (.c (.int (1)))))]) (.c (.int M2))) (.c (.int Q)))]) (.v 1))))]⟩
theorem setItem_loc {n : Nat} {xs : List D} {i : Int} {st : Sto} {v : D} (h : st[n]? = some (.lst xs)) (h0 : 0 ≤ i) (h1 : i < xs.length) : setItem (.loc n) (.int i) v st = some (st.set n (.lst (xs.set i.toNat v))) := by
  show (match st[n]? with
    | some (.lst xs) => (L2.ixN xs.length i).map fun j => setAt st n (.lst (xs.set j v))
    | _ => none) = _
  rw [h]
  dsimp only
  unfold L2.ixN
  rw [if_pos h0, if_pos h1]
  rfl
theorem draw_ok {T : Tx} {x y z : Str} {A B M M2 Q : Int} (hx : T.lookup x = some (drawDf A B M M2 Q [y, z])) (hA : -(2 ^ 64) < A ∧ A < 2 ^ 64) (hM : 0 < M ∧ M < 2147483648) (hM2 : 0 < M2) (hQ : 0 < Q ∧ Q < 1073741824) (k n : Nat) (m : Int) (st : Sto) (P : Pot n st) (h0 : 0 < m) (h1 : m < 1073741824) :
    ∃ (d : Int) (st' : Sto), (T.at (k + 1)).run x [.loc n, .int m] st = .ok (.int d) st' ∧ 0 ≤ d ∧ d < m ∧ Pot n st' ∧ Same n st st' := by
  obtain ⟨p0, p1, e, hp0, hp1⟩ := P
  rw [run_at hx _ _ _ rfl]
  have hn : n < st.length := (List.getElem?_eq_some_iff.mp e).1
  by_cases hp : 0 < p0
  · refine ⟨p0 % m, st.set n (.lst [.int (p0 / m), .int p1]), ?_, Int.emod_nonneg _ (by omega), Int.emod_lt_of_pos _ h0, ⟨p0 / m, p1, ?_, hp0, hp1⟩, same_set⟩
    · have i0 : ixD (.loc n) (.int 0) st = some (.int p0) := by
        rw [ix_loc e]
        simp
      have s0 : setItem (.loc n) (.int 0) (.int (p0 / m)) st = some (st.set n (.lst [.int (p0 / m), .int p1])) := by
        rw [setItem_loc e (by omega) (by simp)]
        rfl
      simp [drawDf, i0, hp, h0, h1, set_s, s0]
    · rw [List.getElem?_set_self hn]
  · have hq0 : 0 ≤ (p1 * A + B) % M := Int.emod_nonneg _ (by omega)
    have hq1 : (p1 * A + B) % M < M := Int.emod_lt_of_pos _ hM.1
    have i0 : ixD (.loc n) (.int 0) st = some (.int p0) := by
      rw [ix_loc e]
      simp
    have i1 : ixD (.loc n) (.int 1) st = some (.int p1) := by
      rw [ix_loc e]
      simp
    have s0 : setItem (.loc n) (.int 1) (.int ((p1 * A + B) % M)) st = some (st.set n (.lst [.int p0, .int ((p1 * A + B) % M)])) := by
      rw [setItem_loc e (by omega) (by simp)]
      rfl
    have e2 : (st.set n (.lst [.int p0, .int ((p1 * A + B) % M)]))[n]? = some (.lst [.int p0, .int ((p1 * A + B) % M)]) := List.getElem?_set_self hn
    have i2 : ixD (.loc n) (.int 1) (st.set n (.lst [.int p0, .int ((p1 * A + B) % M)])) = some (.int ((p1 * A + B) % M)) := by
      rw [ix_loc e2]
      simp
    have b1 : (-(2 ^ 64) < p1 ∧ p1 < 2 ^ 64) ∨ (-(2 ^ 64) < A ∧ A < 2 ^ 64) := .inr hA
    obtain ⟨q, hq⟩ : ∃ q, q = (p1 * A + B) % M := ⟨_, rfl⟩
    rw [← hq] at hq0 hq1 s0 e2 i2
    have b2 : (-(2 ^ 64) < q ∧ q < 2 ^ 64) ∨ (-(2 ^ 64) < q ∧ q < 2 ^ 64) := .inl ⟨by omega, by omega⟩
    refine ⟨(q * q) % M2 / Q % m, st.set n (.lst [.int p0, .int q]), ?_, Int.emod_nonneg _ (by omega), Int.emod_lt_of_pos _ h0, ⟨p0, q, e2, hq0, by omega⟩, same_set⟩
    simp only [drawDf, sts_cons, st_iff, ev_cmp, ev_ix, ev_v0, ev_v1, bnd_oks, ev_c, i0, i1, opt_some, cmp_gt, tr_bl, toR_ok, seq_nx, sts_nil, decide_eq_true_eq, if_neg hp, List.map_cons, List.map_nil, List.cons_append, List.nil_append, st_asg, ev_bin, ev_pr, evs_cons, evs_nil, bin_mul_int, if_pos b1, bin_add_int, pr_int, bin_mod_int, if_pos hM.1, set_s, noEx_ok, ← hq, s0, st_ret, i2, if_pos b2, if_pos hM2, bin_fdiv_int, if_pos hQ, if_pos h0, seq_rt, end_rt]
end Ev
/-! Texts of data; picks, puts, pots. -/
namespace Ev
open PySem

mutual
/-- no name, no script, no changing thing in it -/
def closed : D → Bool
  | .tup xs => closedAll xs
  | .lst xs => closedAll xs
  | .dct _ vs => closedAll vs
  | .ro _ => false
  | .loc _ => false
  | .fn _ => false
  | _ => true
def closedAll : List D → Bool
  | [] => true
  | x :: xs => closed x && closedAll xs
end
theorem closed_mem : ∀ {xs : List D}, closedAll xs = true → ∀ x ∈ xs, closed x = true
  | x :: xs, h, y, hy => by
    unfold closedAll at h
    rw [Bool.and_eq_true] at h
    cases hy with
    | head => exact h.1
    | tail _ hy => exact closed_mem h.2 y hy
theorem closed_all : ∀ {xs : List D}, (∀ x ∈ xs, closed x = true) → closedAll xs = true
  | [], _ => by unfold closedAll; rfl
  | x :: xs, h => by
    unfold closedAll
    rw [h x List.mem_cons_self, closed_all fun y hy => h y (List.mem_cons_of_mem _ hy)]
    rfl
theorem closed_tup {xs : List D} (h : closed (.tup xs) = true) : ∀ x ∈ xs, closed x = true := by
  unfold closed at h
  exact closed_mem h
theorem closed_data {d : D} (h : closed d = true) : data d = true := by
  cases d <;> first | rfl | (unfold closed at h; cases h)

/-- how d's text lies: depth, width; class 0: no list, no dict, 1: no dict, 2: no list -/
def Fn (k w c : Nat) (d : D) : Prop := ∃ p : PyData, (∀ (st : Sto) (n : Nat), k ≤ n → toPy st n d = some p) ∧ p.showable = true ∧ wid p ≤ w ∧ (c ≠ 2 → p.hasDict = false) ∧ (c ≠ 1 → noLst p = true)
theorem Fn.mono {k w c k' w' : Nat} {d : D} (h : Fn k w c d) (hk : k ≤ k') (hw : w ≤ w') : Fn k' w' c d := by
  obtain ⟨p, h1, h2, h3, h4, h5⟩ := h
  exact ⟨p, fun st n hn => h1 st n (Nat.le_trans hk hn), h2, Nat.le_trans h3 hw, h4, h5⟩
theorem Fn.up {k w : Nat} {d : D} (h : Fn k w 0 d) (c : Nat) : Fn k w c d := by
  obtain ⟨p, h1, h2, h3, h4, h5⟩ := h
  exact ⟨p, h1, h2, h3, fun _ => h4 (by omega), fun _ => h5 (by omega)⟩
theorem fn_non : Fn 0 4 0 .non := ⟨.none, fun st n _ => by cases n <;> rfl, by decide +kernel, by unfold wid; omega, fun _ => by decide +kernel, fun _ => by decide +kernel⟩
theorem fn_bl (b : Bool) : Fn 0 5 0 (.bl b) := ⟨.bool b, fun st n _ => by cases n <;> rfl, by cases b <;> decide +kernel, by unfold wid; omega, fun _ => by cases b <;> decide +kernel, fun _ => by cases b <;> decide +kernel⟩
theorem fn_int {i : Int} (h : -(2 ^ 200) < i ∧ i < 2 ^ 200) : Fn 0 203 0 (.int i) := by
  have hl : i.natAbs.log2 < 200 := by
    by_cases h0 : i.natAbs = 0
    · rw [h0]; decide
    · rw [Nat.log2_lt h0]
      omega
  refine ⟨.int i, fun st n _ => by cases n <;> rfl, ?_, ?_, fun _ => ?_, fun _ => ?_⟩
  · simp only [PyData.showable, decide_eq_true_eq]
    omega
  · unfold wid
    omega
  · simp only [PyData.hasDict]
  · simp only [noLst]
theorem fn_str {x : Str} {w : Nat} (h : widStr x ≤ w) : Fn 0 w 0 (.str x) := by
  refine ⟨.str x, fun st n _ => by cases n <;> rfl, ?_, ?_, fun _ => ?_, fun _ => ?_⟩
  · simp only [PyData.showable]
  · unfold wid
    exact h
  · simp only [PyData.hasDict]
  · simp only [noLst]
theorem fn_list {k w c : Nat} : ∀ {xs : List D}, (∀ d ∈ xs, Fn k w c d) → ∃ ps : List PyData, (∀ (st : Sto) (n : Nat), k ≤ n → xs.mapM (toPy st n) = some ps) ∧ PyData.showableAll ps = true ∧ widAll ps ≤ xs.length * (w + 2) ∧ (c ≠ 2 → PyData.hasDictAll ps = false) ∧ (c ≠ 1 → noLstAll ps = true)
  | [], _ => ⟨[], fun st n _ => by simp, by simp only [PyData.showableAll], by unfold widAll; omega, fun _ => by simp only [PyData.hasDictAll], fun _ => by simp only [noLstAll]⟩
  | d :: xs, h => by
    obtain ⟨p, h1, h2, h3, h4, h5⟩ := h d List.mem_cons_self
    obtain ⟨ps, g1, g2, g3, g4, g5⟩ := fn_list (xs := xs) fun y hy => h y (List.mem_cons_of_mem _ hy)
    refine ⟨p :: ps, fun st n hn => ?_, ?_, ?_, fun hc => ?_, fun hc => ?_⟩
    · rw [List.mapM_cons, h1 st n hn, g1 st n hn]
      rfl
    · simp only [PyData.showableAll, h2, g2, Bool.and_true]
    · unfold widAll
      rw [List.length_cons, Nat.add_mul]
      omega
    · simp only [PyData.hasDictAll, h4 hc, g4 hc, Bool.or_false]
    · simp only [noLstAll, h5 hc, g5 hc, Bool.and_true]
theorem fn_tup {k w c : Nat} {xs : List D} (h : ∀ d ∈ xs, Fn k w c d) : Fn (k + 1) (xs.length * (w + 2) + 3) c (.tup xs) := by
  obtain ⟨ps, g1, g2, g3, g4, g5⟩ := fn_list h
  refine ⟨.tuple ps, fun st n hn => ?_, ?_, ?_, fun hc => ?_, fun hc => ?_⟩
  · cases n with
    | zero => omega
    | succ n =>
      show (xs.mapM (toPy st n)).map PyData.tuple = _
      rw [g1 st n (by omega)]
      rfl
  · simp only [PyData.showable, g2]
  · unfold wid
    omega
  · simp only [PyData.hasDict, g4 hc]
  · simp only [noLst, g5 hc]
theorem fn_lst {k w c : Nat} {xs : List D} (hc : c ≠ 2) (h : ∀ d ∈ xs, Fn k w c d) : Fn (k + 1) (xs.length * (w + 2) + 3) 1 (.lst xs) := by
  obtain ⟨ps, g1, g2, g3, g4, g5⟩ := fn_list h
  refine ⟨.list ps, fun st n hn => ?_, ?_, ?_, fun _ => ?_, fun hc => absurd rfl hc⟩
  · cases n with
    | zero => omega
    | succ n =>
      show (xs.mapM (toPy st n)).map PyData.list = _
      rw [g1 st n (by omega)]
      rfl
  · simp only [PyData.showable, g2]
  · unfold wid
    omega
  · simp only [PyData.hasDict, g4 hc]
theorem fn_dct0 : Fn 1 2 2 (.dct [] []) := by
  refine ⟨.dict [], fun st n hn => ?_, by simp only [PyData.showable, PyData.showableKv], by unfold wid widKv; omega, fun hc => absurd rfl hc, fun _ => by simp only [noLst, noLstKv]⟩
  cases n with
  | zero => omega
  | succ n => rfl
theorem fn_dct1 {k w c : Nat} {i : Int} {d : D} (hi : -(2 ^ 200) < i ∧ i < 2 ^ 200) (hc : c ≠ 1) (h : Fn k w c d) : Fn (k + 1) (w + 300) 2 (.dct [.inl i] [d]) := by
  obtain ⟨p, h1, h2, h3, h4, h5⟩ := h
  obtain ⟨q, k1, k2, k3, k4, k5⟩ := fn_int hi
  have eq : PyData.int i = q := Option.some.inj (k1 [] 0 (Nat.le_refl _))
  subst eq
  refine ⟨.dict [(.int i, p)], fun st n hn => ?_, ?_, ?_, fun hc => absurd rfl hc, fun _ => ?_⟩
  · cases n with
    | zero => omega
    | succ n =>
      show (if ([.inl i] : List L2.Key).length = [d].length then ([d].mapM (toPy st n)).map fun ps => PyData.dict (zipKv [.inl i] ps) else none) = _
      rw [if_pos (show ([.inl i] : List L2.Key).length = [d].length from rfl), List.mapM_cons, h1 st n (by omega)]
      rfl
  · simp only [PyData.showable, PyData.showableKv, h2, Bool.and_true] at k2 ⊢
    exact k2
  · unfold wid widKv widKv
    omega
  · have := k5 (by omega)
    simp only [noLst, noLstKv, h5 hc, this, Bool.and_true]
theorem fn_repr {k w c : Nat} {d : D} (h : Fn k w c d) (hk : k ≤ 12) (hw : w ≤ 1000000) : ∃ x, ∀ st, reprD st d = some (.str x) := by
  obtain ⟨p, h1, h2, h3, h4, h5⟩ := h
  refine ⟨p.shown, fun st => ?_⟩
  unfold reprD
  rw [h1 st deep hk]
  dsimp only
  rw [if_pos]
  refine ⟨h2, Nat.le_trans h3 hw, ?_⟩
  by_cases hc : c = 2
  · exact .inr (h5 (by omega))
  · exact .inl (h4 hc)
/-- a list of truths -/
theorem bools_repr (bs : List Bool) (hl : bs.length ≤ 100) : ∃ x, ∀ st, reprD st (.lst (bs.map D.bl)) = some (.str x) := by
  refine fn_repr (fn_lst (k := 0) (w := 5) (c := 0) (by omega) fun d hd => ?_) (by omega) ?_
  · obtain ⟨b, _, rfl⟩ := List.mem_map.mp hd
    exact fn_bl b
  · rw [List.length_map]
    omega

/-! ### picks, puts -/
def DrawOk (T : Tx) (x : Str) : Prop := ∀ (k n : Nat) (m : Int) (st : Sto), Pot n st → 0 < m → m < 1073741824 → ∃ (d : Int) (st' : Sto), (T.at (k + 1)).run x [.loc n, .int m] st = .ok (.int d) st' ∧ 0 ≤ d ∧ d < m ∧ Pot n st' ∧ Same n st st'
def pickDf (x : Str) (ps : List Str) : Df := ⟨ps, 2, [(.ret (some (.ix (.v 1) (.call x [] [(.v 0), (.pr false .len [(.v 1)])]))))]⟩
theorem pick_ok {T : Tx} {x y p q : Str} {dd : Df} (hy : T.lookup y = some (pickDf x [p, q])) (hx : T.lookup x = some dd) (h2 : dd.par.length = 2) (h : DrawOk T x) (k n : Nat) (xs : List D) (st : Sto) (P : Pot n st) (h0 : xs ≠ []) (h1 : xs.length < 1000000) :
    ∃ (d : D) (st' : Sto), (T.at (k + 2)).run y [.loc n, .lst xs] st = .ok d st' ∧ d ∈ xs ∧ Pot n st' ∧ Same n st st' := by
  have hl : 0 < xs.length := List.length_pos_iff.mpr h0
  obtain ⟨i, st', e, i0, i1, P', S'⟩ := h k n xs.length st P (by omega) (by omega)
  obtain ⟨d, hd⟩ : ∃ d, xs[i.toNat]? = some d := ⟨_, List.getElem?_eq_getElem (by omega)⟩
  refine ⟨d, st', ?_, List.mem_of_getElem? hd, P', S'⟩
  rw [run_at hy _ _ _ rfl]
  have c : callC (T.at (k + 1)) x [] [.loc n, .int xs.length] st = .ok (.int i) st' := by
    rw [call_pos hx (show [D.loc n, D.int xs.length].length = dd.par.length by rw [h2]; rfl)]
    exact e
  have g : L2.atI xs i = some d := by rw [atI_lt i0 i1, hd]
  simp [pickDf, c, g]
def putDf (ps : List Str) : Df := ⟨ps, 3, [
    (.ret (some (.bin true .add (.bin false .add (.sl false (.v 0) (.c .non) (.v 1)) (.tup [(.v 2)])) (.sl false (.v 0) (.bin false .add (.v 1) (.c (.int (1)))) (.c .non)))))]⟩
theorem put_ok {T : Tx} {y p q r : Str} (hy : T.lookup y = some (putDf [p, q, r])) (k : Nat) (xs : List D) (i : Int) (d : D) (st : Sto) (h0 : 0 ≤ i) (h1 : i < xs.length) (h2 : xs.length ≤ 1000) : (T.at (k + 1)).run y [.tup xs, .int i, d] st = .ok (.tup (xs.set i.toNat d)) st := by
  rw [run_at hy _ _ _ rfl]
  have c1 : cutL xs none (some i) = xs.take i.toNat := cut_lo h0 (by omega)
  have c2 : cutL xs (some (i + 1)) none = xs.drop (i + 1).toNat := cut_hi (by omega) (by omega)
  have c3 : (i + 1).toNat = i.toNat + 1 := by omega
  have s1 : small ((xs.take i.toNat).length + 1) = true := small_t (by rw [List.length_take]; omega)
  have s2 : small ((xs.take i.toNat ++ [d]).length + (xs.drop (i.toNat + 1)).length) = true := small_t (by
    rw [List.length_append, List.length_take, List.length_drop, List.length_singleton]
    omega)
  have e : xs.take i.toNat ++ [d] ++ xs.drop (i.toNat + 1) = xs.set i.toNat d := by
    rw [List.set_eq_take_append_cons_drop, if_pos (by omega), List.append_assoc]
    rfl
  have o1 : isOmit (E.v 1) = false := rfl
  have o2 : isOmit (.bin false .add (.v 1) (.c (.int (1)))) = false := rfl
  have sm1 : small 1 = true := by decide +kernel
  simp only [putDf, sts_cons, st_ret, ev_bin, ev_sl, ev_v0, ev_v1, ev_v2, ev_c, bnd_oks, omit_t, part_t, part_f, o1, o2, partP_int, sl_tup, ev_tup, evs_cons, evs_nil, List.length_cons, List.length_nil, Nat.zero_add, sm1, if_true, bin_add_tup, bin_add_int, c1, c2, c3, toR_ok, seq_rt, end_rt, List.map_cons, List.map_nil, List.cons_append, List.nil_append, s1]
  rw [if_pos s2, toR_ok, seq_rt, end_rt, e]
/-- a pot's text -/
def potDf (A B M F G H M2 : Int) (ps : List Str) : Df := ⟨ps, 3, [
    (.asg (.n 2) (.ite (.cmp .lt (.v 1) (.pr false .len [(.v 0)])) (.pr true .abs [(.ix (.v 0) (.v 1))]) (.bin true .add (.bin false .mul (.c (.int A)) (.v 1)) (.c (.int B))))),
    (.ret (some (.lst true [(.pr false .max2 [(.c (.int (0))), (.bin false .sub (.v 2) (.bin false .pow (.c (.int (10))) (.c (.int (18)))))]), (.bin false .add (.bin false .mod (.pr false .int1 [(.bin false .add (.bin false .add (.bin false .mul (.bin false .mod (.pr false .int1 [(.v 2)]) (.c (.int M))) (.c (.int F))) (.bin false .mul (.c (.int G)) (.v 1))) (.c (.int H)))]) (.c (.int M2))) (.c (.int (1))))])))]⟩
theorem pot_ok {T : Tx} {y p q : Str} {A B M F G H M2 : Int} (hy : T.lookup y = some (potDf A B M F G H M2 [p, q])) (hM : 0 < M ∧ M < 2147483648) (hM2 : 0 < M2 ∧ M2 < 2147483647) (k : Nat) (ns : List Int) (i : Nat) (st : Sto) (hi : i ≤ 1000) :
    ∃ st', (T.at (k + 1)).run y [.ro ns, .int i] st = .ok (.loc st.length) st' ∧ Pot st.length st' ∧ Grow st.length st st' ∧ st'.length = st.length + 1 := by
  rw [run_at hy _ _ _ rfl]
  have bA : (-(2 ^ 64) < A ∧ A < 2 ^ 64) ∨ (-(2 ^ 64) < (i : Int) ∧ (i : Int) < 2 ^ 64) := .inr ⟨by omega, by omega⟩
  have bG : (-(2 ^ 64) < G ∧ G < 2 ^ 64) ∨ (-(2 ^ 64) < (i : Int) ∧ (i : Int) < 2 ^ 64) := .inr ⟨by omega, by omega⟩
  have fin : ∀ c : Int, ∃ st', (evSs (T.at k) [(.ret (some (.lst true [(.pr false .max2 [(.c (.int (0))), (.bin false .sub (.v 2) (.bin false .pow (.c (.int (10))) (.c (.int (18)))))]), (.bin false .add (.bin false .mod (.pr false .int1 [(.bin false .add (.bin false .add (.bin false .mul (.bin false .mod (.pr false .int1 [(.v 2)]) (.c (.int M))) (.c (.int F))) (.bin false .mul (.c (.int G)) (.v 1))) (.c (.int H)))]) (.c (.int M2))) (.c (.int (1))))])))] [some (.ro ns), some (.int i), some (.int c)] st).end_ = .ok (.loc st.length) st' ∧ Pot st.length st' ∧ Grow st.length st st' ∧ st'.length = st.length + 1 := by
    intro c
    have m0 : 0 ≤ c % M := Int.emod_nonneg _ (by omega)
    have m1 : c % M < M := Int.emod_lt_of_pos _ hM.1
    have bF : (-(2 ^ 64) < c % M ∧ c % M < 2 ^ 64) ∨ (-(2 ^ 64) < F ∧ F < 2 ^ 64) := .inl ⟨by omega, by omega⟩
    have q0 : 0 ≤ (c % M * F + G * i + H) % M2 := Int.emod_nonneg _ (by omega)
    have q1 : (c % M * F + G * i + H) % M2 < M2 := Int.emod_lt_of_pos _ hM2.1
    have pw : (0 : Int) ≤ 18 ∧ (18 : Int) ≤ 1000000 ∧ (10 : Int).natAbs < 2 ^ 64 := by decide
    have sm2 : small 2 = true := by decide +kernel
    refine ⟨st ++ [.lst [.int (if c - 10 ^ (18 : Int).toNat > 0 then c - 10 ^ (18 : Int).toNat else 0), .int ((c % M * F + G * i + H) % M2 + 1)]], ?_, ⟨_, _, List.getElem?_concat_length, by omega, by omega⟩, grow_new, by simp⟩
    simp only [sts_cons, st_ret, ev_lst, evs_cons, evs_nil, ev_pr, ev_c, ev_bin, ev_v0, ev_v1, ev_v2, bnd_oks, bin_pow_int, if_pos pw, bin_sub_int, pr_max, pr_int, bin_mod_int, if_pos hM.1, bin_mul_int, if_pos bF, if_pos bG, bin_add_int, if_pos hM2.1, List.length_cons, List.length_nil, Nat.zero_add, Nat.reduceAdd, sm2, if_true, newL_t, toR_ok, seq_rt, end_rt]
  by_cases hl : i < ns.length
  · obtain ⟨c, hc⟩ : ∃ c, ns[i]? = some c := ⟨_, List.getElem?_eq_getElem hl⟩
    have g : L2.atI (ns.map D.int) (i : Int) = some (.int c) := by
      rw [atI_lt (by omega) (by rw [List.length_map]; omega), Int.toNat_natCast, List.getElem?_map, hc]
      rfl
    have hl2 : (i : Int) < ns.length := by omega
    obtain ⟨st', f1, f2⟩ := fin (if c < 0 then -c else c)
    refine ⟨st', ?_, f2⟩
    rw [← f1]
    simp only [potDf, sts_cons, st_asg, ev_ite, ev_cmp, ev_v0, ev_v1, ev_pr, evs_cons, evs_nil, bnd_oks, pr_len, len_ro, opt_some, cmp_lt, hl2, decide_true, tr_bl, if_true, ev_ix, ix_ro, g, pr_abs, toR_ok, set_n, noEx_ok, seq_nx, List.map_cons, List.map_nil, List.cons_append, List.nil_append, List.length_cons, List.length_nil]
    rfl
  · have hl2 : ¬ (i : Int) < ns.length := by omega
    obtain ⟨st', f1, f2⟩ := fin (A * i + B)
    refine ⟨st', ?_, f2⟩
    rw [← f1]
    simp only [potDf, sts_cons, st_asg, ev_ite, ev_cmp, ev_v0, ev_v1, ev_pr, evs_cons, evs_nil, bnd_oks, pr_len, len_ro, opt_some, cmp_lt, hl2, decide_false, tr_bl, Bool.false_eq_true, if_false, ev_bin, ev_c, bin_mul_int, if_pos bA, bin_add_int, toR_ok, set_n, noEx_ok, seq_nx, List.map_cons, List.map_nil, List.cons_append, List.nil_append, List.length_cons, List.length_nil]
    rfl
end Ev
/-! What must hold ahead, statement by statement. -/
namespace Ev
open PySem

/-- Q: of a return; N: of the end; Z: of a continue -/
def WP (Q : D → Sto → Prop) (N Z : Env → Sto → Prop) : R → Prop
  | .nx e s => N e s
  | .rt d s => Q d s
  | .ct e s => Z e s
  | _ => False
abbrev noCt : Env → Sto → Prop := fun _ _ => False
section
variable {T : Tx} {C : Cal} {Q : D → Sto → Prop} {N Z : Env → Sto → Prop} {env env' : Env} {st st' : Sto} {s : S} {ss a b body : List S} {e t : E} {d v : D} {i : Nat}
theorem wp_run {x : Str} {f : Df} {k : Nat} {ds : List D} {P : D → Sto → Prop} (env0 : Env) (h : T.lookup x = some f) (hl : ds.length = f.par.length) (he : ds.map some ++ List.replicate (f.names - ds.length) none = env0) (w : WP P (fun _ s => P .non s) noCt (evSs (T.at k) f.body env0 st)) :
    ∃ v st', (T.at (k + 1)).run x ds st = .ok v st' ∧ P v st' := by
  subst he
  rw [run_at h _ _ _ hl]
  cases hr : evSs (T.at k) f.body (ds.map some ++ List.replicate (f.names - ds.length) none) st with
  | nx e s => rw [hr] at w; exact ⟨_, _, rfl, w⟩
  | rt d s => rw [hr] at w; exact ⟨_, _, rfl, w⟩
  | ct e s => rw [hr] at w; exact w.elim
  | bk e s => rw [hr] at w; exact w.elim
  | ex c v e s => rw [hr] at w; exact w.elim
  | bad => rw [hr] at w; exact w.elim
theorem wp_nil (h : N env st) : WP Q N Z (evSs C [] env st) := h
theorem wp_cons (h : WP Q (fun e s => WP Q N Z (evSs C ss e s)) Z (evS C s env st)) : WP Q N Z (evSs C (s :: ss) env st) := by
  rw [sts_cons]
  cases hr : evS C s env st with
  | nx e s => rw [hr] at h; exact h
  | rt d s => rw [hr] at h; exact h
  | ct e s => rw [hr] at h; exact h
  | bk e s => rw [hr] at h; exact h.elim
  | ex c v e s => rw [hr] at h; exact h.elim
  | bad => rw [hr] at h; exact h.elim
theorem wp_nx {r : R} (h : r = .nx env' st') (k : N env' st') : WP Q N Z r := by rw [h]; exact k
theorem wp_rt {r : R} (h : r = .rt d st') (k : Q d st') : WP Q N Z r := by rw [h]; exact k
theorem wp_asg (h : evE C e env st = .ok d st') (k : N (env.set i (some d)) st') : WP Q N Z (evS C (.asg (.n i) e) env st) := by
  rw [st_asg, h]
  exact k
theorem wp_ret (h : evE C e env st = .ok d st') (k : Q d st') : WP Q N Z (evS C (.ret (some e)) env st) := by
  rw [st_ret, h]
  exact k
theorem wp_ex (h : evE C e env st = .ok d st') (k : N env st') : WP Q N Z (evS C (.ex e) env st) := by
  rw [st_ex, h]
  exact k
theorem wp_if {k : Bool} (h : evE C t env st = .ok v st') (ht : truth st' v = some k) (h1 : k = true → WP Q N Z (evSs C a env st')) (h2 : k = false → WP Q N Z (evSs C b env st')) : WP Q N Z (evS C (.iff t a b) env st) := by
  rw [st_iff, h, bnd_oks, ht]
  cases k with
  | true => exact h1 rfl
  | false => exact h2 rfl
/-- a test that fails: on -/
theorem wp_no (h : evE C t env st = .ok (.bl false) st') (k : WP Q N Z (evSs C b env st')) : WP Q N Z (evS C (.iff t a b) env st) := wp_if h rfl (fun z => by cases z) fun _ => k
theorem wp_par2 {i j : Nat} {x y : E} {p q : D} {s1 s2 : Sto} (h1 : evE C x env st = .ok p s1) (h2 : evE C y env s1 = .ok q s2) (k : N ((env.set i (some p)).set j (some q)) s2) : WP Q N Z (evS C (.par [i, j] [x, y]) env st) := by
  rw [st_par, evs_cons, h1, bnd_oks, evs_cons, h2]
  exact k
theorem wp_for {tn : TN} {ik : IK} {src : List E} {ds : List D} {J : Itr} {xs : List D} {st1 : Sto} (I : Nat → Env → Sto → Prop) (hsrc : evEs C src env st = .ok ds st1) (hit : itOf ik ds st1 = some J) (hl : xs.length ≤ 1000000) (hJ : ∀ i env st, I i env st → J i st = some xs[i]?)
    (h0 : I 0 env st1) (hs : ∀ i d env st, xs[i]? = some d → I i env st → ∃ env1, setT tn d env = some env1 ∧ WP Q (fun e s => I (i + 1) e s) (fun e s => I (i + 1) e s) (evSs C body env1 st)) (hk : ∀ env st, I xs.length env st → N env st) :
    WP Q N Z (evS C (.for_ tn ik src body) env st) := by
  rw [st_for, hsrc, toR_ok, hit]
  have go : ∀ (m i : Nat) (env : Env) (st : Sto), I i env st → i ≤ xs.length → xs.length < m + i → WP Q N Z (forI J (fun d env st => match setT tn d env with
      | none => .bad
      | some env => evSs C body env st) m i env st) := by
    intro m
    induction m with
    | zero => intro i env st h h1 h2; omega
    | succ m ih =>
      intro i env st h h1 h2
      unfold forI
      rw [hJ i env st h]
      cases e : xs[i]? with
      | none =>
        have := List.getElem?_eq_none_iff.mp e
        have hi : i = xs.length := by omega
        subst hi
        exact hk env st h
      | some d =>
        obtain ⟨env1, e1, w⟩ := hs i d env st e h
        have hi : i < xs.length := (List.getElem?_eq_some_iff.mp e).1
        dsimp only
        rw [e1]
        dsimp only
        cases hr : evSs C body env1 st with
        | nx e s => rw [hr] at w; exact ih (i + 1) e s w (by omega) (by omega)
        | ct e s => rw [hr] at w; exact ih (i + 1) e s w (by omega) (by omega)
        | rt d s => rw [hr] at w; exact w
        | bk e s => rw [hr] at w; exact w.elim
        | ex c v e s => rw [hr] at w; exact w.elim
        | bad => rw [hr] at w; exact w.elim
  exact go turns 0 env st1 h0 (Nat.zero_le _) (by unfold turns; omega)
end
theorem repr_loc {st : Sto} {q : Nat} {xs : List D} (h : st[q]? = some (.lst xs)) : reprD st (.loc q) = reprD st (.lst xs) := by
  have e : toPy st deep (.loc q) = toPy st deep (.lst xs) := by
    show (match st[q]? with
      | some (.lst xs) => (xs.mapM (toPy st 11)).map PyData.list
      | some (.dct ks vs) => if ks.length = vs.length then (vs.mapM (toPy st 11)).map fun ps => PyData.dict (zipKv ks ps) else none
      | none => none) = (xs.mapM (toPy st 11)).map PyData.list
    rw [h]
  unfold reprD
  rw [e]
theorem Grow.get {n q : Nat} {a b : Sto} {o : Ob} (g : Grow n a b) (h : a[q]? = some o) (hq : q ≠ n) : b[q]? = some o := by rw [g.at_ q (List.getElem?_eq_some_iff.mp h).1 hq, h]
theorem at_new {a : Sto} {o : Ob} : (a ++ [o])[a.length]? = some o := List.getElem?_concat_length
theorem cmp_ne_self {x : Str} {st : Sto} : cmpD .ne (.str x) (.str x) st = .ok (.bl false) st := by
  rw [cmp_ne_str]
  simp
end Ev
/-! Changing lists; data of a bounded text. -/
namespace Ev
open PySem
section
variable {st : Sto} {n f : Nat} {xs ys : List D} {al : Bool} {d : D} {i : Int}
theorem isLst_loc (h : st[f]? = some (.lst xs)) : isLst (.loc f) st = true := by
  unfold isLst
  dsimp only
  rw [h]
theorem add_loc_lst (h : st[f]? = some (.lst xs)) (hs : small (xs.length + ys.length) = true) : binD al .add (.loc f) (.lst ys) st = newL al (xs ++ ys) st := by
  show (match items st (.loc f), items st (.lst ys) with
    | some xs, some ys => if small (xs.length + ys.length) then newL al (xs ++ ys) st else .bad
    | _, _ => .bad) = _
  have e : items st (.loc f) = some xs := by
    unfold items
    dsimp only
    rw [h]
  rw [e]
  show (if small (xs.length + ys.length) = true then newL al (xs ++ ys) st else .bad) = _
  rw [if_pos hs]
theorem add_lst_lst (hs : small (xs.length + ys.length) = true) : binD al .add (.lst xs) (.lst ys) st = newL al (xs ++ ys) st := by
  show (if small (xs.length + ys.length) = true then newL al (xs ++ ys) st else .bad) = _
  rw [if_pos hs]
theorem ext_loc (h : st[f]? = some (.lst xs)) (hs : small (xs.length + ys.length) = true) : extP (.loc f) (.lst ys) st = .ok .non (st.set f (.lst (xs ++ ys))) := by
  unfold extP
  dsimp only
  rw [h]
  show (if small (xs.length + ys.length) = true then _ else _) = _
  rw [if_pos hs]
  rfl
theorem app_loc (h : st[f]? = some (.lst xs)) (hs : xs.length < 1000000) : appP (.loc f) d st = .ok .non (st.set f (.lst (xs ++ [d]))) := by
  unfold appP
  dsimp only
  rw [h]
  show (if xs.length < 1000000 then _ else _) = _
  rw [if_pos hs]
  rfl
theorem len_loc (h : st[f]? = some (.lst xs)) : lenD st (.loc f) = some xs.length := by
  show ((match st[f]? with
    | some (.lst xs) => some xs
    | _ => none).map List.length) = _
  rw [h]
  rfl
theorem Grow.set {a b : Sto} {o : Ob} (g : Grow n a b) (h : a.length ≤ f) : Grow n a (b.set f o) := ⟨by rw [List.length_set]; exact g.len, fun j h1 h2 => by rw [List.getElem?_set_ne (by omega)]; exact g.at_ j h1 h2⟩
theorem set_at {o p : Ob} (h : st[f]? = some o) : (st.set f p)[f]? = some p := List.getElem?_set_self (List.getElem?_eq_some_iff.mp h).1
theorem set_off {o p : Ob} {g : Nat} (h : st[g]? = some o) (hg : f ≠ g) : (st.set f p)[g]? = some o := by rw [List.getElem?_set_ne hg, h]
theorem new_off {o p : Ob} (h : st[f]? = some o) : (st ++ [p])[f]? = some o := by
  rw [List.getElem?_append_left (List.getElem?_eq_some_iff.mp h).1]
  exact h
end
/-- an atom, or a list or a tuple of some atoms -/
def At (d : D) : Prop := closed d = true ∧ Fn 0 300 0 d
def El (d : D) : Prop := closed d = true ∧ Fn 1 700 1 d
def Val (d : D) : Prop := closed d = true ∧ ∃ c, Fn 4 6000 c d
theorem at_non : At .non := ⟨rfl, fn_non.mono (by omega) (by omega)⟩
theorem at_bl (b : Bool) : At (.bl b) := ⟨rfl, (fn_bl b).mono (by omega) (by omega)⟩
theorem at_int {i : Int} (h : -(2 ^ 200) < i ∧ i < 2 ^ 200) : At (.int i) := ⟨rfl, (fn_int h).mono (by omega) (by omega)⟩
theorem at_str {x : Str} (h : widStr x ≤ 300) : At (.str x) := ⟨rfl, fn_str h⟩
theorem At.el {d : D} (h : At d) : El d := ⟨h.1, (h.2.mono (by omega) (by omega)).up 1⟩
theorem At.val {d : D} (h : At d) : Val d := ⟨h.1, 0, h.2.mono (by omega) (by omega)⟩
theorem el_tup {xs : List D} (h : ∀ x ∈ xs, At x) (hl : xs.length ≤ 2) : El (.tup xs) := by
  refine ⟨by unfold closed; exact closed_all fun x hx => (h x hx).1, ?_⟩
  refine ((fn_tup fun x hx => (h x hx).2).up 1).mono (by omega) ?_
  have : xs.length * (300 + 2) ≤ 2 * 302 := Nat.mul_le_mul_right _ hl
  omega
theorem el_lst {xs : List D} (h : ∀ x ∈ xs, At x) (hl : xs.length ≤ 2) : El (.lst xs) := by
  refine ⟨by unfold closed; exact closed_all fun x hx => (h x hx).1, ?_⟩
  refine (fn_lst (by omega) fun x hx => (h x hx).2).mono (by omega) ?_
  have : xs.length * (300 + 2) ≤ 2 * 302 := Nat.mul_le_mul_right _ hl
  omega
theorem val_tup {xs : List D} (h : ∀ x ∈ xs, El x) (hl : xs.length ≤ 8) : Val (.tup xs) := by
  refine ⟨by unfold closed; exact closed_all fun x hx => (h x hx).1, 1, ?_⟩
  refine (fn_tup fun x hx => (h x hx).2).mono (by omega) ?_
  have : xs.length * (700 + 2) ≤ 8 * 702 := Nat.mul_le_mul_right _ hl
  omega
theorem val_lst {xs : List D} (h : ∀ x ∈ xs, El x) (hl : xs.length ≤ 8) : Val (.lst xs) := by
  refine ⟨by unfold closed; exact closed_all fun x hx => (h x hx).1, 1, ?_⟩
  refine (fn_lst (by omega) fun x hx => (h x hx).2).mono (by omega) ?_
  have : xs.length * (700 + 2) ≤ 8 * 702 := Nat.mul_le_mul_right _ hl
  omega
theorem El.val {d : D} (h : El d) : Val d := ⟨h.1, 1, h.2.mono (by omega) (by omega)⟩
theorem val_dct0 : Val (.dct [] []) := ⟨rfl, 2, fn_dct0.mono (by omega) (by omega)⟩
theorem Val.repr {d : D} (h : Val d) : ∃ x, ∀ st, reprD st d = some (.str x) := by
  obtain ⟨_, c, f⟩ := h
  exact fn_repr f (by omega) (by omega)
theorem all_cons {α : Type} {P : α → Prop} {x : α} {xs : List α} (h : P x) (t : ∀ y ∈ xs, P y) : ∀ y ∈ x :: xs, P y := by
  intro y hy
  cases hy with
  | head => exact h
  | tail _ hy => exact t y hy
theorem all_nil {α : Type} {P : α → Prop} : ∀ y ∈ ([] : List α), P y := fun y hy => nomatch hy
theorem all_app {α : Type} {P : α → Prop} {xs ys : List α} (h : ∀ y ∈ xs, P y) (t : ∀ y ∈ ys, P y) : ∀ y ∈ xs ++ ys, P y := by
  intro y hy
  rcases List.mem_append.mp hy with hy | hy
  · exact h y hy
  · exact t y hy
theorem all_set {α : Type} {P : α → Prop} {xs : List α} {i : Nat} {v : α} (h : ∀ y ∈ xs, P y) (hv : P v) : ∀ y ∈ xs.set i v, P y := by
  intro y hy
  rcases List.mem_or_eq_of_mem_set hy with hy | rfl
  · exact h y hy
  · exact hv
end Ev
/-! More of statements; the law's own line. -/
namespace Ev
open PySem
section
variable {T : Tx} {C : Cal} {Q : D → Sto → Prop} {N Z : Env → Sto → Prop} {env env' : Env} {st st' : Sto} {e t : E} {d p q : D} {i j : Nat} {xs ys : List D} {al : Bool} {f : Nat}
theorem wp_pair (h : evE C e env st = .ok (.tup [p, q]) st') (k : N ((env.set i (some p)).set j (some q)) st') : WP Q N Z (evS C (.asg (.t [.n i, .n j]) e) env st) := by
  rw [st_asg, h]
  exact k
theorem add_lst_loc (h : st[f]? = some (.lst ys)) (hs : small (xs.length + ys.length) = true) : binD al .add (.lst xs) (.loc f) st = newL al (xs ++ ys) st := by
  show (match items st (.lst xs), items st (.loc f) with
    | some xs, some ys => if small (xs.length + ys.length) then newL al (xs ++ ys) st else .bad
    | _, _ => .bad) = _
  have e : items st (.loc f) = some ys := by
    unfold items
    dsimp only
    rw [h]
  rw [e]
  show (if small (xs.length + ys.length) = true then newL al (xs ++ ys) st else .bad) = _
  rw [if_pos hs]
theorem bools_true : ∀ {ys : List D}, (∀ y ∈ ys, y = .bl true) → ∃ bs, boolsD ys = some bs ∧ bs.all id = true
  | [], _ => ⟨[], rfl, rfl⟩
  | y :: ys, h => by
    obtain ⟨bs, e, a⟩ := bools_true (ys := ys) fun z hz => h z (List.mem_cons_of_mem _ hz)
    have hy := h y List.mem_cons_self
    subst hy
    refine ⟨true :: bs, ?_, a⟩
    show (boolsD ys).map (true :: ·) = _
    rw [e]
    rfl
end
/-- the law's line: all of some turns, each with a pot of its own -/
def lawDf (A B : Int) (right pot : Str) (ps : List Str) : Df := ⟨ps, 2, [
    (.ret (some (.pr true .all [(.comp false [1] (.n 1) .rng1 [(.pr false .max2 [(.c (.int A)), (.pr false .min2 [(.c (.int B)), (.pr false .len [(.v 0)])])])] [] (.call right [] [(.call pot [] [(.v 0), (.v 1)])]))])))]⟩
theorem law_ok {T : Tx} {law right pot s : Str} {dr dp : Df} {A B : Int} (hl : T.lookup law = some (lawDf A B right pot [s])) (hr : T.lookup right = some dr) (hp : T.lookup pot = some dp) (lr : dr.par.length = 1) (lp : dp.par.length = 2) (hA : 0 ≤ A ∧ A ≤ 100) (hB : 0 ≤ B ∧ B ≤ 100) (k : Nat)
    (P : ∀ (ns : List Int) (i : Nat) (st : Sto), i ≤ 1000 → ∃ st', (T.at k).run pot [.ro ns, .int i] st = .ok (.loc st.length) st' ∧ Pot st.length st')
    (R : ∀ (n : Nat) (st : Sto), Pot n st → ∃ st', (T.at k).run right [.loc n] st = .ok (.bl true) st') (ns : List Int) : ∃ st, (T.at (k + 1)).run law [.ro ns] [] = .ok (.bl true) st := by
  obtain ⟨n, hn, n1⟩ : ∃ n : Nat, (if (if (ns.length : Int) < B then (ns.length : Int) else B) > A then (if (ns.length : Int) < B then (ns.length : Int) else B) else A) = (n : Int) ∧ n ≤ 100 := by
    refine ⟨(if (if (ns.length : Int) < B then (ns.length : Int) else B) > A then (if (ns.length : Int) < B then (ns.length : Int) else B) else A).toNat, ?_, ?_⟩ <;> split <;> split <;> omega
  obtain ⟨ys, st1, e, hy, h1⟩ := comp_run (J := fun i _ => some (Ev.upTo n)[i]?) (turn := compT (.n 1) (wipeE [some (.ro ns), none] [1]) (evTs (T.at k) []) (evE (T.at k) (.call right [] [.call pot [] [.v 0, .v 1]]))) (xs := Ev.upTo n) (I := fun i acc s => ∀ y ∈ acc, y = D.bl true) (fun _ _ _ _ => rfl) (by rw [upTo_len]; omega)
    (fun i d acc s hd _ h => by
      obtain ⟨rfl, hi⟩ := upTo_at hd
      obtain ⟨s1, e1, P1⟩ := P ns i s (by omega)
      obtain ⟨s2, e2⟩ := R s.length s1 P1
      refine ⟨.bl true, s2, ?_, all_app h (all_cons rfl all_nil)⟩
      have c1 : callC (T.at k) pot [] [.ro ns, .int i] s = .ok (.loc s.length) s1 := by rw [call_pos hp (show [D.ro ns, D.int i].length = dp.par.length by rw [lp]; rfl)]; exact e1
      have c2 : callC (T.at k) right [] [.loc s.length] s1 = .ok (.bl true) s2 := by rw [call_pos hr (show [D.loc s.length].length = dr.par.length by rw [lr]; rfl)]; exact e2
      unfold compT
      simp [wipeE, c1, c2]) turns 0 [] [] all_nil rfl (Nat.zero_le _) (by rw [upTo_len]; unfold turns; omega)
  obtain ⟨bs, b1, b2⟩ := bools_true h1
  have it : itOf .rng1 [.int n] [] = some fun i _ => some (Ev.upTo n)[i]? := it_rng (by omega)
  have src : evEs (T.at k) [(.pr false .max2 [(.c (.int A)), (.pr false .min2 [(.c (.int B)), (.pr false .len [(.v 0)])])])] [some (.ro ns), none] [] = .ok [.int n] [] := by
    simp only [evs_cons, evs_nil, ev_pr, ev_c, ev_v0, bnd_oks, pr_len, len_ro, opt_some, pr_min, pr_max, hn]
  have ce : evE (T.at k) (.comp false [1] (.n 1) .rng1 [(.pr false .max2 [(.c (.int A)), (.pr false .min2 [(.c (.int B)), (.pr false .len [(.v 0)])])])] [] (.call right [] [(.call pot [] [(.v 0), (.v 1)])])) [some (.ro ns), none] [] = .ok (.lst ys) st1 := by
    rw [ev_comp, src, bnd_oks, it]
    dsimp only
    rw [e]
    rfl
  obtain ⟨v, s2, e2, rfl⟩ := wp_run (P := fun v _ => v = .bl true) (k := k) (ds := [.ro ns]) (st := []) [some (.ro ns), none] hl rfl rfl (by
    refine wp_cons (wp_ret (st' := st1) (d := .bl true) ?_ rfl)
    rw [ev_pr, evs_cons, ce, bnd_oks, evs_nil, bnd_oks, bnd_oks, pr_all, b1, opt_some, bnd_oks, b2])
  exact ⟨s2, e2⟩
end Ev
namespace L10
open PySem PySem.Spec PyProof.Rows Ev
def tops : List Stmt := PySem.Challenge.pw_promisedhall_k10_any_values_as_numbers_p.main.body
def topS (i : Nat) : Stmt := tops.getD i (.Pass ⟨0, 0, 0, 0⟩)
def defs : List Str := ["is_integer", "is_count", "is_within", "is_tuple_of", "is_period", "is_part", "is_group", "are_some", "are_parts", "are_groups", "_law_pot", "_law_draw", "_law_pick", "_law_is_int", "_law_put", "_law_is_part", "_law_is_group", "_law_some", "_law_numbers_right", "_law_parts_some", "_law_groups_some", "_law_rows_right", "_law_right", "law"]
def consts : List (Str × D) := [("MOST_PARTS", .int 6)]
def pats : List (Nat × List Str) := [(0, ["value"])]
def d_is_integer : Df := ⟨["value"], 1, [
    (.ret (some (.and (.isi (.v 0) .int) (.not (.isi (.v 0) .bool)))))]⟩
def d_is_count : Df := ⟨["value"], 1, [
    (.ret (some (.and (.call "is_integer" [] [(.v 0)]) (.cmp .ge (.v 0) (.c (.int (0)))))))]⟩
def d_is_within : Df := ⟨["value", "least", "most"], 3, [
    (.ret (some (.and (.call "is_integer" [] [(.v 0)]) (.chain .le .le (.v 1) (.v 0) (.v 2)))))]⟩
def d_is_tuple_of : Df := ⟨["value", "word", "size"], 3, [
    (.iff (.or (.not (.isi (.v 0) .tuple)) (.cmp .ne (.pr false .len [(.v 0)]) (.v 2))) [(.ret (some (.c (.bl false))))] []),
    (.ret (some (.and (.isi (.ix (.v 0) (.c (.int (0)))) .str) (.cmp .eq (.ix (.v 0) (.c (.int (0)))) (.v 1)))))]⟩
def d_is_period : Df := ⟨["value"], 1, [
    (.ret (some (.call "is_within" [] [(.v 0), (.c (.int (2))), (.c (.int (24)))])))]⟩
def d_is_part : Df := ⟨["value"], 4, [
    (.iff (.not (.call "is_tuple_of" [] [(.v 0), (.c (.str "part")), (.c (.int (3)))])) [(.ret (some (.c (.bl false))))] []),
    (.asg (.t [(.n 1), (.n 2), (.n 3)]) (.v 0)),
    (.ret (some (.and (.call "is_within" [] [(.v 2), (.c (.int (1))), (.c (.int (9)))]) (.and (.call "is_within" [] [(.v 3), (.c (.int (1))), (.c (.int (9)))]) (.cmp .le (.v 2) (.v 3))))))]⟩
def d_is_group : Df := ⟨["value"], 1, [
    (.iff (.or (.not (.isi (.v 0) .tuple)) (.cmp .ne (.pr false .len [(.v 0)]) (.c (.int (2))))) [(.ret (some (.c (.bl false))))] []),
    (.ret (some (.and (.call "is_within" [] [(.ix (.v 0) (.c (.int (0)))), (.c (.int (1))), (.c (.int (9)))]) (.or (.cmp .isN (.ix (.v 0) (.c (.int (1)))) (.c .non)) (.call "is_within" [] [(.ix (.v 0) (.c (.int (1)))), (.c (.int (1))), (.c (.int (16)))])))))]⟩
def d_are_some : Df := ⟨["value", "least", "most"], 3, [
    (.ret (some (.and (.isi (.v 0) .tuple) (.chain .le .le (.v 1) (.pr false .len [(.v 0)]) (.v 2)))))]⟩
def d_are_parts : Df := ⟨["value"], 2, [
    (.ret (some (.and (.call "are_some" [] [(.v 0), (.c (.int (0))), (.c (.int (6)))]) (.pr false .all [(.comp false [1] (.n 1) .seq [(.v 0)] [] (.call "is_part" [] [(.v 1)]))]))))]⟩
def d_are_groups : Df := ⟨["value"], 2, [
    (.ret (some (.and (.call "are_some" [] [(.v 0), (.c (.int (1))), (.c (.int (4)))]) (.pr false .all [(.comp false [1] (.n 1) .seq [(.v 0)] [] (.call "is_group" [] [(.v 1)]))]))))]⟩
def d__law_pot : Df := ⟨["script", "k"], 3, [
    (.asg (.n 2) (.ite (.cmp .lt (.v 1) (.pr false .len [(.v 0)])) (.pr true .abs [(.ix (.v 0) (.v 1))]) (.bin true .add (.bin false .mul (.c (.int (1301))) (.v 1)) (.c (.int (911)))))),
    (.ret (some (.lst true [(.pr false .max2 [(.c (.int (0))), (.bin false .sub (.v 2) (.bin false .pow (.c (.int (10))) (.c (.int (18)))))]), (.bin false .add (.bin false .mod (.pr false .int1 [(.bin false .add (.bin false .add (.bin false .mul (.bin false .mod (.pr false .int1 [(.v 2)]) (.c (.int (2147483549)))) (.c (.int (40014)))) (.bin false .mul (.c (.int (6101))) (.v 1))) (.c (.int (307))))]) (.c (.int (2147483563)))) (.c (.int (1))))])))]⟩
def d__law_draw : Df := ⟨["pot", "many"], 3, [
    (.iff (.cmp .gt (.ix (.v 0) (.c (.int (0)))) (.c (.int (0)))) [(.asg (.t [(.s (.v 0) (.c (.int (0)))), (.n 2)]) (.pr true .divmod [(.ix (.v 0) (.c (.int (0)))), (.v 1)])), (.ret (some (.v 2)))] []),
    (.asg (.s (.v 0) (.c (.int (1)))) (.bin true .mod (.pr false .int1 [(.bin false .add (.bin false .mul (.ix (.v 0) (.c (.int (1)))) (.c (.int (40692)))) (.c (.int (9011))))]) (.c (.int (2147483563))))),
    (.ret (some (.bin true .mod (.pr false .int1 [(.bin false .fdiv (.bin false .mod (.pr false .int1 [(.bin false .mul (.ix (.v 0) (.c (.int (1)))) (.ix (.v 0) (.c (.int (1)))))]) (.c (.int (2147483549)))) (.c (.int (19))))]) (.v 1))))]⟩
def d__law_pick : Df := ⟨["pot", "some"], 2, [
    (.ret (some (.ix (.v 1) (.call "_law_draw" [] [(.v 0), (.pr false .len [(.v 1)])]))))]⟩
def d__law_is_int : Df := ⟨["value", "low", "high"], 3, [
    (.ret (some (.and (.isi (.v 0) .int) (.and (.not (.isi (.v 0) .bool)) (.chain .le .le (.v 1) (.v 0) (.v 2))))))]⟩
def d__law_put : Df := ⟨["row", "at", "thing"], 3, [
    (.ret (some (.bin true .add (.bin false .add (.sl false (.v 0) (.c .non) (.v 1)) (.tup [(.v 2)])) (.sl false (.v 0) (.bin false .add (.v 1) (.c (.int (1)))) (.c .non)))))]⟩
def d__law_is_part : Df := ⟨["value"], 1, [
    (.iff (.or (.not (.isi (.v 0) .tuple)) (.or (.cmp .ne (.pr false .len [(.v 0)]) (.c (.int (3)))) (.or (.not (.isi (.ix (.v 0) (.c (.int (0)))) .str)) (.cmp .ne (.ix (.v 0) (.c (.int (0)))) (.c (.str "part")))))) [(.ret (some (.c (.bl false))))] []),
    (.ret (some (.and (.call "_law_is_int" [] [(.ix (.v 0) (.c (.int (1)))), (.c (.int (1))), (.c (.int (9)))]) (.and (.call "_law_is_int" [] [(.ix (.v 0) (.c (.int (2)))), (.c (.int (1))), (.c (.int (9)))]) (.cmp .le (.ix (.v 0) (.c (.int (1)))) (.ix (.v 0) (.c (.int (2)))))))))]⟩
def d__law_is_group : Df := ⟨["value"], 1, [
    (.iff (.or (.not (.isi (.v 0) .tuple)) (.or (.cmp .ne (.pr false .len [(.v 0)]) (.c (.int (2)))) (.not (.call "_law_is_int" [] [(.ix (.v 0) (.c (.int (0)))), (.c (.int (1))), (.c (.int (9)))])))) [(.ret (some (.c (.bl false))))] []),
    (.ret (some (.or (.cmp .isN (.ix (.v 0) (.c (.int (1)))) (.c .non)) (.call "_law_is_int" [] [(.ix (.v 0) (.c (.int (1)))), (.c (.int (1))), (.c (.int (16)))]))))]⟩
def d__law_some : Df := ⟨["value", "least", "most", "judge"], 5, [
    (.ret (some (.and (.isi (.v 0) .tuple) (.and (.chain .le .le (.v 1) (.pr false .len [(.v 0)]) (.v 2)) (.pr false .all [(.comp false [4] (.n 4) .seq [(.v 0)] [] (.callv 3 [] [(.v 4)]))])))))]⟩
def d__law_numbers_right : Df := ⟨["pot"], 6, [
    (.asg (.n 1) (.call "_law_draw" [] [(.v 0), (.c (.int (30)))])),
    (.asg (.n 2) (.lst true [(.v 1), (.bin false .sub (.bin false .sub (.c (.int (0))) (.v 1)) (.c (.int (1)))), (.c (.int (0))), (.c (.int (1))), (.c (.int (2))), (.c (.int (24))), (.c (.int (25))), (.bin false .pow (.c (.int (10))) (.c (.int (29)))), (.bin false .sub (.c (.int (0))) (.bin false .pow (.c (.int (10))) (.c (.int (29))))), (.c (.bl true)), (.c (.bl false)), (.c .non), (.c (.str "2")), (.c (.str "")), (.lst false [(.c (.int (2)))]), (.tup [(.c (.int (2)))]), (.dct false [] []), (.dct false [.inl (2)] [(.c (.int (2)))]), (.tup [])])),
    (.for_ (.n 3) .seq [(.v 2)] [(.asg (.n 4) (.and (.isi (.v 3) .int) (.not (.isi (.v 3) .bool)))), (.asg (.n 5) (.lst true [(.v 4), (.and (.v 4) (.cmp .ge (.v 3) (.c (.int (0))))), (.and (.v 4) (.chain .le .le (.c (.int (2))) (.v 3) (.c (.int (24)))))])), (.iff (.cmp .ne (.pr false .repr [(.lst false [(.call "is_integer" [] [(.v 3)]), (.call "is_count" [] [(.v 3)]), (.call "is_period" [] [(.v 3)])])]) (.pr false .repr [(.v 5)])) [(.ret (some (.c (.bl false))))] []), (.iff (.cmp .ne (.pr false .repr [(.lst false [(.call "is_integer" ["value"] [(.v 3)]), (.call "is_count" ["value"] [(.v 3)]), (.call "is_period" ["value"] [(.v 3)])])]) (.pr false .repr [(.v 5)])) [(.ret (some (.c (.bl false))))] [])]),
    (.ret (some (.c (.bl true))))]⟩
def d__law_parts_some : Df := ⟨["pot"], 6, [
    (.asg (.n 1) (.bin true .add (.c (.int (1))) (.call "_law_draw" [] [(.v 0), (.c (.int (9)))]))),
    (.asg (.n 2) (.tup [(.c (.str "part")), (.v 1), (.bin false .add (.v 1) (.call "_law_draw" [] [(.v 0), (.bin false .sub (.c (.int (10))) (.v 1))]))])),
    (.asg (.n 3) (.lst true [(.c (.int (0))), (.neg (.c (.int (1)))), (.c (.int (9))), (.c (.int (10))), (.bin false .sub (.v 1) (.c (.int (1)))), (.bin false .add (.v 1) (.c (.int (1)))), (.c (.bl true)), (.c .non), (.c (.str "3")), (.lst false [(.c (.int (3)))]), (.tup [(.c (.int (3)))])])),
    (.asg (.n 4) (.lst true [(.v 2), (.pr false .list [(.v 2)]), (.sl false (.v 2) (.c .non) (.c (.int (2)))), (.bin false .add (.v 2) (.tup [(.c (.int (1)))])), (.bin false .add (.tup [(.c (.str "Part"))]) (.sl false (.v 2) (.c (.int (1))) (.c .non))), (.bin false .add (.tup [(.c (.int (0)))]) (.sl false (.v 2) (.c (.int (1))) (.c .non))), (.bin false .add (.tup [(.lst false [(.c (.str "part"))])]) (.sl false (.v 2) (.c (.int (1))) (.c .non))), (.sl false (.v 2) (.c (.int (1))) (.c .non)), (.c (.str "part")), (.c .non)])),
    (.for_ (.n 5) .seq [(.v 3)] [(.ex (.ext (.v 4) (.lst false [(.call "_law_put" [] [(.v 2), (.c (.int (1))), (.v 5)]), (.call "_law_put" [] [(.v 2), (.c (.int (2))), (.v 5)])])))]),
    (.ret (some (.tup [(.v 2), (.bin false .add (.v 4) (.lst false [(.tup [(.c (.str "part")), (.c (.int (9))), (.c (.int (9)))]), (.tup [(.c (.str "part")), (.c (.int (1))), (.c (.int (1)))]), (.tup [(.c (.str "part")), (.c (.int (1))), (.c (.int (9)))]), (.tup [(.c (.str "part")), (.c (.int (2))), (.c (.int (1)))]), (.tup []), (.dct false [] []), (.c (.bl true)), (.c (.int (0)))]))])))]⟩
def d__law_groups_some : Df := ⟨["pot"], 4, [
    (.asg (.n 1) (.tup [(.bin false .add (.c (.int (1))) (.call "_law_draw" [] [(.v 0), (.c (.int (9)))])), (.call "_law_pick" [] [(.v 0), (.lst false [(.c .non), (.bin false .add (.c (.int (1))) (.call "_law_draw" [] [(.v 0), (.c (.int (16)))]))])])])),
    (.asg (.n 2) (.lst true [(.v 1), (.pr false .list [(.v 1)]), (.sl false (.v 1) (.c .non) (.c (.int (1)))), (.bin false .add (.v 1) (.tup [(.c (.int (1)))])), (.c .non), (.tup []), (.dct false [] []), (.c (.str "")), (.c (.int (3))), (.tup [(.tup [(.c (.int (1))), (.c (.int (2)))])])])),
    (.for_ (.n 3) .seq [(.lst false [(.c (.int (0))), (.neg (.c (.int (1)))), (.c (.int (1))), (.c (.int (9))), (.c (.int (10))), (.c (.bl true)), (.c .non), (.c (.str "3")), (.lst false [(.c (.int (3)))])])] [(.ex (.app (.v 2) (.call "_law_put" [] [(.v 1), (.c (.int (0))), (.v 3)])))]),
    (.for_ (.n 3) .seq [(.lst false [(.c (.int (0))), (.neg (.c (.int (1)))), (.c (.int (1))), (.c (.int (16))), (.c (.int (17))), (.c (.bl true)), (.c .non), (.c (.str "3")), (.tup [(.c (.int (3)))])])] [(.ex (.app (.v 2) (.call "_law_put" [] [(.v 1), (.c (.int (1))), (.v 3)])))]),
    (.ret (some (.tup [(.v 1), (.v 2)])))]⟩
def d__law_rows_right : Df := ⟨["pot", "right", "values", "least", "most", "judge", "asked"], 14, [
    (.for_ (.n 7) .seq [(.comp false [8] (.n 8) .rng1 [(.c (.int (8)))] [] (.call "_law_pick" [] [(.v 0), (.v 2)]))] [(.asg (.n 9) (.bin true .add (.c (.int (1))) (.call "_law_draw" [] [(.v 0), (.v 4)]))), (.asg (.n 10) (.call "_law_pick" [] [(.v 0), (.lst false [(.c (.int (0))), (.bin false .sub (.v 9) (.c (.int (1)))), (.call "_law_draw" [] [(.v 0), (.v 9)])])])), (.asg (.n 11) (.call "_law_put" [] [(.bin false .mul (.tup [(.v 1)]) (.v 9)), (.v 10), (.v 7)])), (.par [12, 13] [(.call "_law_some" [] [(.v 11), (.v 3), (.v 4), (.v 5)]), (.pr true .repr [(.v 11)])]), (.iff (.or (.cmp .ne (.pr false .repr [(.lst false [(.callv 6 [] [(.v 11)]), (.callv 6 ["value"] [(.v 11)])])]) (.pr false .repr [(.lst false [(.v 12), (.v 12)])])) (.cmp .ne (.pr false .repr [(.v 11)]) (.v 13))) [(.ret (some (.c (.bl false))))] [])]),
    (.for_ (.n 11) .seq [(.lst false [(.tup []), (.tup [(.v 1)]), (.bin false .mul (.tup [(.v 1)]) (.v 4)), (.bin false .mul (.tup [(.v 1)]) (.bin false .add (.v 4) (.c (.int (1))))), (.lst false [(.v 1)]), (.v 1), (.c .non), (.c (.int (0))), (.dct false [] []), (.c (.str "")), (.pr false .list [(.bin false .mul (.tup [(.v 1)]) (.c (.int (2))))])])] [(.iff (.cmp .ne (.pr false .repr [(.callv 6 [] [(.v 11)])]) (.pr false .repr [(.call "_law_some" [] [(.v 11), (.v 3), (.v 4), (.v 5)])])) [(.ret (some (.c (.bl false))))] [])]),
    (.ret (some (.c (.bl true))))]⟩
def d__law_right : Df := ⟨["pot"], 8, [
    (.asg (.t [(.n 1), (.n 2)]) (.call "_law_parts_some" [] [(.v 0)])),
    (.asg (.t [(.n 3), (.n 4)]) (.call "_law_groups_some" [] [(.v 0)])),
    (.for_ (.n 5) .seq [(.bin false .add (.v 2) (.v 4))] [(.par [6, 7] [(.lst true [(.call "_law_is_part" [] [(.v 5)]), (.call "_law_is_group" [] [(.v 5)])]), (.pr true .repr [(.v 5)])]), (.iff (.or (.cmp .ne (.pr false .repr [(.lst false [(.call "is_part" [] [(.v 5)]), (.call "is_group" [] [(.v 5)])])]) (.pr false .repr [(.v 6)])) (.cmp .ne (.pr false .repr [(.lst false [(.call "is_part" ["value"] [(.v 5)]), (.call "is_group" ["value"] [(.v 5)])])]) (.pr false .repr [(.v 6)]))) [(.ret (some (.c (.bl false))))] []), (.iff (.cmp .ne (.pr false .repr [(.v 5)]) (.v 7)) [(.ret (some (.c (.bl false))))] [])]),
    (.iff (.or (.not (.call "_law_rows_right" [] [(.v 0), (.v 1), (.v 2), (.c (.int (0))), (.c (.int (6))), (.g "_law_is_part"), (.g "are_parts")])) (.not (.call "_law_numbers_right" [] [(.v 0)]))) [(.ret (some (.c (.bl false))))] []),
    (.ret (some (.call "_law_rows_right" [] [(.v 0), (.v 3), (.v 4), (.c (.int (1))), (.c (.int (4))), (.g "_law_is_group"), (.g "are_groups")])))]⟩
def d_law : Df := ⟨["script"], 2, [
    (.ret (some (.pr true .all [(.comp false [1] (.n 1) .rng1 [(.pr false .max2 [(.c (.int (1))), (.pr false .min2 [(.c (.int (3))), (.pr false .len [(.v 0)])])])] [] (.call "_law_right" [] [(.call "_law_pot" [] [(.v 0), (.v 1)])]))])))]⟩
def T : Tx := [("is_integer", d_is_integer), ("is_count", d_is_count), ("is_within", d_is_within), ("is_tuple_of", d_is_tuple_of), ("is_period", d_is_period), ("is_part", d_is_part), ("is_group", d_is_group), ("are_some", d_are_some), ("are_parts", d_are_parts), ("are_groups", d_are_groups), ("_law_pot", d__law_pot), ("_law_draw", d__law_draw), ("_law_pick", d__law_pick), ("_law_is_int", d__law_is_int), ("_law_put", d__law_put), ("_law_is_part", d__law_is_part), ("_law_is_group", d__law_is_group), ("_law_some", d__law_some), ("_law_numbers_right", d__law_numbers_right), ("_law_parts_some", d__law_parts_some), ("_law_groups_some", d__law_groups_some), ("_law_rows_right", d__law_rows_right), ("_law_right", d__law_right), ("law", d_law)]
theorem names_T : T.map (·.1) = defs := rfl
theorem tr_is_integer : trDef (T.map (·.1)) consts pats ["value"] (topS 1) = some d_is_integer := by kernel_rfl
theorem sc_is_integer : L2.FnScope ["value"] d_is_integer.par (L2.defScope (topS 1)) := ⟨by kernel_rfl, by kernel_rfl, by kernel_rfl, by decide +kernel, by kernel_rfl, by decide +kernel, by decide +kernel⟩
theorem lk_is_integer : T.lookup ("is_integer" : Str) = some d_is_integer := by kernel_rfl
theorem tr_is_count : trDef (T.map (·.1)) consts pats ["value"] (topS 2) = some d_is_count := by kernel_rfl
theorem sc_is_count : L2.FnScope ["value"] d_is_count.par (L2.defScope (topS 2)) := ⟨by kernel_rfl, by kernel_rfl, by kernel_rfl, by decide +kernel, by kernel_rfl, by decide +kernel, by decide +kernel⟩
theorem lk_is_count : T.lookup ("is_count" : Str) = some d_is_count := by kernel_rfl
theorem tr_is_within : trDef (T.map (·.1)) consts pats ["value", "least", "most"] (topS 3) = some d_is_within := by kernel_rfl
theorem sc_is_within : L2.FnScope ["value", "least", "most"] d_is_within.par (L2.defScope (topS 3)) := ⟨by kernel_rfl, by kernel_rfl, by kernel_rfl, by decide +kernel, by kernel_rfl, by decide +kernel, by decide +kernel⟩
theorem lk_is_within : T.lookup ("is_within" : Str) = some d_is_within := by kernel_rfl
theorem tr_is_tuple_of : trDef (T.map (·.1)) consts pats ["value", "word", "size"] (topS 4) = some d_is_tuple_of := by kernel_rfl
theorem sc_is_tuple_of : L2.FnScope ["value", "word", "size"] d_is_tuple_of.par (L2.defScope (topS 4)) := ⟨by kernel_rfl, by kernel_rfl, by kernel_rfl, by decide +kernel, by kernel_rfl, by decide +kernel, by decide +kernel⟩
theorem lk_is_tuple_of : T.lookup ("is_tuple_of" : Str) = some d_is_tuple_of := by kernel_rfl
theorem tr_is_period : trDef (T.map (·.1)) consts pats ["value"] (topS 7) = some d_is_period := by kernel_rfl
theorem sc_is_period : L2.FnScope ["value"] d_is_period.par (L2.defScope (topS 7)) := ⟨by kernel_rfl, by kernel_rfl, by kernel_rfl, by decide +kernel, by kernel_rfl, by decide +kernel, by decide +kernel⟩
theorem lk_is_period : T.lookup ("is_period" : Str) = some d_is_period := by kernel_rfl
theorem tr_is_part : trDef (T.map (·.1)) consts pats ["value", "word", "least", "most"] (topS 8) = some d_is_part := by kernel_rfl
theorem sc_is_part : L2.FnScope ["value", "word", "least", "most"] d_is_part.par (L2.defScope (topS 8)) := ⟨by kernel_rfl, by kernel_rfl, by kernel_rfl, by decide +kernel, by kernel_rfl, by decide +kernel, by decide +kernel⟩
theorem lk_is_part : T.lookup ("is_part" : Str) = some d_is_part := by kernel_rfl
theorem tr_is_group : trDef (T.map (·.1)) consts pats ["value"] (topS 9) = some d_is_group := by kernel_rfl
theorem sc_is_group : L2.FnScope ["value"] d_is_group.par (L2.defScope (topS 9)) := ⟨by kernel_rfl, by kernel_rfl, by kernel_rfl, by decide +kernel, by kernel_rfl, by decide +kernel, by decide +kernel⟩
theorem lk_is_group : T.lookup ("is_group" : Str) = some d_is_group := by kernel_rfl
theorem tr_are_some : trDef (T.map (·.1)) consts pats ["value", "least", "most"] (topS 10) = some d_are_some := by kernel_rfl
theorem sc_are_some : L2.FnScope ["value", "least", "most"] d_are_some.par (L2.defScope (topS 10)) := ⟨by kernel_rfl, by kernel_rfl, by kernel_rfl, by decide +kernel, by kernel_rfl, by decide +kernel, by decide +kernel⟩
theorem lk_are_some : T.lookup ("are_some" : Str) = some d_are_some := by kernel_rfl
theorem tr_are_parts : trDef (T.map (·.1)) consts pats ["value", "one"] (topS 11) = some d_are_parts := by kernel_rfl
theorem sc_are_parts : L2.FnScope ["value", "one"] d_are_parts.par (L2.defScope (topS 11)) := ⟨by kernel_rfl, by kernel_rfl, by kernel_rfl, by decide +kernel, by kernel_rfl, by decide +kernel, by decide +kernel⟩
theorem lk_are_parts : T.lookup ("are_parts" : Str) = some d_are_parts := by kernel_rfl
theorem tr_are_groups : trDef (T.map (·.1)) consts pats ["value", "one"] (topS 12) = some d_are_groups := by kernel_rfl
theorem sc_are_groups : L2.FnScope ["value", "one"] d_are_groups.par (L2.defScope (topS 12)) := ⟨by kernel_rfl, by kernel_rfl, by kernel_rfl, by decide +kernel, by kernel_rfl, by decide +kernel, by decide +kernel⟩
theorem lk_are_groups : T.lookup ("are_groups" : Str) = some d_are_groups := by kernel_rfl
theorem tr__law_pot : trDef (T.map (·.1)) consts pats ["script", "k", "cell"] (topS 14) = some d__law_pot := by kernel_rfl
theorem sc__law_pot : L2.FnScope ["script", "k", "cell"] d__law_pot.par (L2.defScope (topS 14)) := ⟨by kernel_rfl, by kernel_rfl, by kernel_rfl, by decide +kernel, by kernel_rfl, by decide +kernel, by decide +kernel⟩
theorem lk__law_pot : T.lookup ("_law_pot" : Str) = some d__law_pot := by kernel_rfl
theorem tr__law_draw : trDef (T.map (·.1)) consts pats ["pot", "many", "digit"] (topS 15) = some d__law_draw := by kernel_rfl
theorem sc__law_draw : L2.FnScope ["pot", "many", "digit"] d__law_draw.par (L2.defScope (topS 15)) := ⟨by kernel_rfl, by kernel_rfl, by kernel_rfl, by decide +kernel, by kernel_rfl, by decide +kernel, by decide +kernel⟩
theorem lk__law_draw : T.lookup ("_law_draw" : Str) = some d__law_draw := by kernel_rfl
theorem tr__law_pick : trDef (T.map (·.1)) consts pats ["pot", "some"] (topS 16) = some d__law_pick := by kernel_rfl
theorem sc__law_pick : L2.FnScope ["pot", "some"] d__law_pick.par (L2.defScope (topS 16)) := ⟨by kernel_rfl, by kernel_rfl, by kernel_rfl, by decide +kernel, by kernel_rfl, by decide +kernel, by decide +kernel⟩
theorem lk__law_pick : T.lookup ("_law_pick" : Str) = some d__law_pick := by kernel_rfl
theorem tr__law_is_int : trDef (T.map (·.1)) consts pats ["value", "low", "high"] (topS 17) = some d__law_is_int := by kernel_rfl
theorem sc__law_is_int : L2.FnScope ["value", "low", "high"] d__law_is_int.par (L2.defScope (topS 17)) := ⟨by kernel_rfl, by kernel_rfl, by kernel_rfl, by decide +kernel, by kernel_rfl, by decide +kernel, by decide +kernel⟩
theorem lk__law_is_int : T.lookup ("_law_is_int" : Str) = some d__law_is_int := by kernel_rfl
theorem tr__law_put : trDef (T.map (·.1)) consts pats ["row", "at", "thing"] (topS 18) = some d__law_put := by kernel_rfl
theorem sc__law_put : L2.FnScope ["row", "at", "thing"] d__law_put.par (L2.defScope (topS 18)) := ⟨by kernel_rfl, by kernel_rfl, by kernel_rfl, by decide +kernel, by kernel_rfl, by decide +kernel, by decide +kernel⟩
theorem lk__law_put : T.lookup ("_law_put" : Str) = some d__law_put := by kernel_rfl
theorem tr__law_is_part : trDef (T.map (·.1)) consts pats ["value"] (topS 19) = some d__law_is_part := by kernel_rfl
theorem sc__law_is_part : L2.FnScope ["value"] d__law_is_part.par (L2.defScope (topS 19)) := ⟨by kernel_rfl, by kernel_rfl, by kernel_rfl, by decide +kernel, by kernel_rfl, by decide +kernel, by decide +kernel⟩
theorem lk__law_is_part : T.lookup ("_law_is_part" : Str) = some d__law_is_part := by kernel_rfl
theorem tr__law_is_group : trDef (T.map (·.1)) consts pats ["value"] (topS 20) = some d__law_is_group := by kernel_rfl
theorem sc__law_is_group : L2.FnScope ["value"] d__law_is_group.par (L2.defScope (topS 20)) := ⟨by kernel_rfl, by kernel_rfl, by kernel_rfl, by decide +kernel, by kernel_rfl, by decide +kernel, by decide +kernel⟩
theorem lk__law_is_group : T.lookup ("_law_is_group" : Str) = some d__law_is_group := by kernel_rfl
theorem tr__law_some : trDef (T.map (·.1)) consts pats ["value", "least", "most", "judge", "one"] (topS 21) = some d__law_some := by kernel_rfl
theorem sc__law_some : L2.FnScope ["value", "least", "most", "judge", "one"] d__law_some.par (L2.defScope (topS 21)) := ⟨by kernel_rfl, by kernel_rfl, by kernel_rfl, by decide +kernel, by kernel_rfl, by decide +kernel, by decide +kernel⟩
theorem lk__law_some : T.lookup ("_law_some" : Str) = some d__law_some := by kernel_rfl
theorem tr__law_numbers_right : trDef (T.map (·.1)) consts pats ["pot", "number", "some", "value", "is_one", "due"] (topS 22) = some d__law_numbers_right := by kernel_rfl
theorem sc__law_numbers_right : L2.FnScope ["pot", "number", "some", "value", "is_one", "due"] d__law_numbers_right.par (L2.defScope (topS 22)) := ⟨by kernel_rfl, by kernel_rfl, by kernel_rfl, by decide +kernel, by kernel_rfl, by decide +kernel, by decide +kernel⟩
theorem lk__law_numbers_right : T.lookup ("_law_numbers_right" : Str) = some d__law_numbers_right := by kernel_rfl
theorem tr__law_parts_some : trDef (T.map (·.1)) consts pats ["pot", "least", "part", "odd", "found", "thing"] (topS 23) = some d__law_parts_some := by kernel_rfl
theorem sc__law_parts_some : L2.FnScope ["pot", "least", "part", "odd", "found", "thing"] d__law_parts_some.par (L2.defScope (topS 23)) := ⟨by kernel_rfl, by kernel_rfl, by kernel_rfl, by decide +kernel, by kernel_rfl, by decide +kernel, by decide +kernel⟩
theorem lk__law_parts_some : T.lookup ("_law_parts_some" : Str) = some d__law_parts_some := by kernel_rfl
theorem tr__law_groups_some : trDef (T.map (·.1)) consts pats ["pot", "group", "found", "thing"] (topS 24) = some d__law_groups_some := by kernel_rfl
theorem sc__law_groups_some : L2.FnScope ["pot", "group", "found", "thing"] d__law_groups_some.par (L2.defScope (topS 24)) := ⟨by kernel_rfl, by kernel_rfl, by kernel_rfl, by decide +kernel, by kernel_rfl, by decide +kernel, by decide +kernel⟩
theorem lk__law_groups_some : T.lookup ("_law_groups_some" : Str) = some d__law_groups_some := by kernel_rfl
theorem tr__law_rows_right : trDef (T.map (·.1)) consts pats ["pot", "right", "values", "least", "most", "judge", "asked", "value", "turn", "many", "at", "given", "due", "shown"] (topS 25) = some d__law_rows_right := by kernel_rfl
theorem sc__law_rows_right : L2.FnScope ["pot", "right", "values", "least", "most", "judge", "asked", "value", "turn", "many", "at", "given", "due", "shown"] d__law_rows_right.par (L2.defScope (topS 25)) := ⟨by kernel_rfl, by kernel_rfl, by kernel_rfl, by decide +kernel, by kernel_rfl, by decide +kernel, by decide +kernel⟩
theorem lk__law_rows_right : T.lookup ("_law_rows_right" : Str) = some d__law_rows_right := by kernel_rfl
theorem tr__law_right : trDef (T.map (·.1)) consts pats ["pot", "part", "some", "group", "others", "value", "due", "shown"] (topS 26) = some d__law_right := by kernel_rfl
theorem sc__law_right : L2.FnScope ["pot", "part", "some", "group", "others", "value", "due", "shown"] d__law_right.par (L2.defScope (topS 26)) := ⟨by kernel_rfl, by kernel_rfl, by kernel_rfl, by decide +kernel, by kernel_rfl, by decide +kernel, by decide +kernel⟩
theorem lk__law_right : T.lookup ("_law_right" : Str) = some d__law_right := by kernel_rfl
theorem tr_law : trDef (T.map (·.1)) consts pats ["script", "k"] (topS 27) = some d_law := by kernel_rfl
theorem sc_law : L2.FnScope ["script", "k"] d_law.par (L2.defScope (topS 27)) := ⟨by kernel_rfl, by kernel_rfl, by kernel_rfl, by decide +kernel, by kernel_rfl, by decide +kernel, by decide +kernel⟩
theorem lk_law : T.lookup ("law" : Str) = some d_law := by kernel_rfl
theorem bd_is_integer (kV doc pm : Value) (an : Option Addr) (cdv ct : Value) (us : List Value) (hl : us.length = d_is_integer.par.length) : bindArgs (PySem.W.fnOf "is_integer" "is_integer" (L2.defArgs (topS 1)) (L2.defBody (topS 1)) (L2.defScope (topS 1)) .none kV doc pm an cdv ct) ⟨us, []⟩ = pure (d_is_integer.par.zip us) := match us, hl with | [_], _ => rfl
theorem bd_is_count (kV doc pm : Value) (an : Option Addr) (cdv ct : Value) (us : List Value) (hl : us.length = d_is_count.par.length) : bindArgs (PySem.W.fnOf "is_count" "is_count" (L2.defArgs (topS 2)) (L2.defBody (topS 2)) (L2.defScope (topS 2)) .none kV doc pm an cdv ct) ⟨us, []⟩ = pure (d_is_count.par.zip us) := match us, hl with | [_], _ => rfl
theorem bd_is_within (kV doc pm : Value) (an : Option Addr) (cdv ct : Value) (us : List Value) (hl : us.length = d_is_within.par.length) : bindArgs (PySem.W.fnOf "is_within" "is_within" (L2.defArgs (topS 3)) (L2.defBody (topS 3)) (L2.defScope (topS 3)) .none kV doc pm an cdv ct) ⟨us, []⟩ = pure (d_is_within.par.zip us) := match us, hl with | [_, _, _], _ => rfl
theorem bd_is_tuple_of (kV doc pm : Value) (an : Option Addr) (cdv ct : Value) (us : List Value) (hl : us.length = d_is_tuple_of.par.length) : bindArgs (PySem.W.fnOf "is_tuple_of" "is_tuple_of" (L2.defArgs (topS 4)) (L2.defBody (topS 4)) (L2.defScope (topS 4)) .none kV doc pm an cdv ct) ⟨us, []⟩ = pure (d_is_tuple_of.par.zip us) := match us, hl with | [_, _, _], _ => rfl
theorem bd_is_period (kV doc pm : Value) (an : Option Addr) (cdv ct : Value) (us : List Value) (hl : us.length = d_is_period.par.length) : bindArgs (PySem.W.fnOf "is_period" "is_period" (L2.defArgs (topS 7)) (L2.defBody (topS 7)) (L2.defScope (topS 7)) .none kV doc pm an cdv ct) ⟨us, []⟩ = pure (d_is_period.par.zip us) := match us, hl with | [_], _ => rfl
theorem bd_is_part (kV doc pm : Value) (an : Option Addr) (cdv ct : Value) (us : List Value) (hl : us.length = d_is_part.par.length) : bindArgs (PySem.W.fnOf "is_part" "is_part" (L2.defArgs (topS 8)) (L2.defBody (topS 8)) (L2.defScope (topS 8)) .none kV doc pm an cdv ct) ⟨us, []⟩ = pure (d_is_part.par.zip us) := match us, hl with | [_], _ => rfl
theorem bd_is_group (kV doc pm : Value) (an : Option Addr) (cdv ct : Value) (us : List Value) (hl : us.length = d_is_group.par.length) : bindArgs (PySem.W.fnOf "is_group" "is_group" (L2.defArgs (topS 9)) (L2.defBody (topS 9)) (L2.defScope (topS 9)) .none kV doc pm an cdv ct) ⟨us, []⟩ = pure (d_is_group.par.zip us) := match us, hl with | [_], _ => rfl
theorem bd_are_some (kV doc pm : Value) (an : Option Addr) (cdv ct : Value) (us : List Value) (hl : us.length = d_are_some.par.length) : bindArgs (PySem.W.fnOf "are_some" "are_some" (L2.defArgs (topS 10)) (L2.defBody (topS 10)) (L2.defScope (topS 10)) .none kV doc pm an cdv ct) ⟨us, []⟩ = pure (d_are_some.par.zip us) := match us, hl with | [_, _, _], _ => rfl
theorem bd_are_parts (kV doc pm : Value) (an : Option Addr) (cdv ct : Value) (us : List Value) (hl : us.length = d_are_parts.par.length) : bindArgs (PySem.W.fnOf "are_parts" "are_parts" (L2.defArgs (topS 11)) (L2.defBody (topS 11)) (L2.defScope (topS 11)) .none kV doc pm an cdv ct) ⟨us, []⟩ = pure (d_are_parts.par.zip us) := match us, hl with | [_], _ => rfl
theorem bd_are_groups (kV doc pm : Value) (an : Option Addr) (cdv ct : Value) (us : List Value) (hl : us.length = d_are_groups.par.length) : bindArgs (PySem.W.fnOf "are_groups" "are_groups" (L2.defArgs (topS 12)) (L2.defBody (topS 12)) (L2.defScope (topS 12)) .none kV doc pm an cdv ct) ⟨us, []⟩ = pure (d_are_groups.par.zip us) := match us, hl with | [_], _ => rfl
theorem bd__law_pot (kV doc pm : Value) (an : Option Addr) (cdv ct : Value) (us : List Value) (hl : us.length = d__law_pot.par.length) : bindArgs (PySem.W.fnOf "_law_pot" "_law_pot" (L2.defArgs (topS 14)) (L2.defBody (topS 14)) (L2.defScope (topS 14)) .none kV doc pm an cdv ct) ⟨us, []⟩ = pure (d__law_pot.par.zip us) := match us, hl with | [_, _], _ => rfl
theorem bd__law_draw (kV doc pm : Value) (an : Option Addr) (cdv ct : Value) (us : List Value) (hl : us.length = d__law_draw.par.length) : bindArgs (PySem.W.fnOf "_law_draw" "_law_draw" (L2.defArgs (topS 15)) (L2.defBody (topS 15)) (L2.defScope (topS 15)) .none kV doc pm an cdv ct) ⟨us, []⟩ = pure (d__law_draw.par.zip us) := match us, hl with | [_, _], _ => rfl
theorem bd__law_pick (kV doc pm : Value) (an : Option Addr) (cdv ct : Value) (us : List Value) (hl : us.length = d__law_pick.par.length) : bindArgs (PySem.W.fnOf "_law_pick" "_law_pick" (L2.defArgs (topS 16)) (L2.defBody (topS 16)) (L2.defScope (topS 16)) .none kV doc pm an cdv ct) ⟨us, []⟩ = pure (d__law_pick.par.zip us) := match us, hl with | [_, _], _ => rfl
theorem bd__law_is_int (kV doc pm : Value) (an : Option Addr) (cdv ct : Value) (us : List Value) (hl : us.length = d__law_is_int.par.length) : bindArgs (PySem.W.fnOf "_law_is_int" "_law_is_int" (L2.defArgs (topS 17)) (L2.defBody (topS 17)) (L2.defScope (topS 17)) .none kV doc pm an cdv ct) ⟨us, []⟩ = pure (d__law_is_int.par.zip us) := match us, hl with | [_, _, _], _ => rfl
theorem bd__law_put (kV doc pm : Value) (an : Option Addr) (cdv ct : Value) (us : List Value) (hl : us.length = d__law_put.par.length) : bindArgs (PySem.W.fnOf "_law_put" "_law_put" (L2.defArgs (topS 18)) (L2.defBody (topS 18)) (L2.defScope (topS 18)) .none kV doc pm an cdv ct) ⟨us, []⟩ = pure (d__law_put.par.zip us) := match us, hl with | [_, _, _], _ => rfl
theorem bd__law_is_part (kV doc pm : Value) (an : Option Addr) (cdv ct : Value) (us : List Value) (hl : us.length = d__law_is_part.par.length) : bindArgs (PySem.W.fnOf "_law_is_part" "_law_is_part" (L2.defArgs (topS 19)) (L2.defBody (topS 19)) (L2.defScope (topS 19)) .none kV doc pm an cdv ct) ⟨us, []⟩ = pure (d__law_is_part.par.zip us) := match us, hl with | [_], _ => rfl
theorem bd__law_is_group (kV doc pm : Value) (an : Option Addr) (cdv ct : Value) (us : List Value) (hl : us.length = d__law_is_group.par.length) : bindArgs (PySem.W.fnOf "_law_is_group" "_law_is_group" (L2.defArgs (topS 20)) (L2.defBody (topS 20)) (L2.defScope (topS 20)) .none kV doc pm an cdv ct) ⟨us, []⟩ = pure (d__law_is_group.par.zip us) := match us, hl with | [_], _ => rfl
theorem bd__law_some (kV doc pm : Value) (an : Option Addr) (cdv ct : Value) (us : List Value) (hl : us.length = d__law_some.par.length) : bindArgs (PySem.W.fnOf "_law_some" "_law_some" (L2.defArgs (topS 21)) (L2.defBody (topS 21)) (L2.defScope (topS 21)) .none kV doc pm an cdv ct) ⟨us, []⟩ = pure (d__law_some.par.zip us) := match us, hl with | [_, _, _, _], _ => rfl
theorem bd__law_numbers_right (kV doc pm : Value) (an : Option Addr) (cdv ct : Value) (us : List Value) (hl : us.length = d__law_numbers_right.par.length) : bindArgs (PySem.W.fnOf "_law_numbers_right" "_law_numbers_right" (L2.defArgs (topS 22)) (L2.defBody (topS 22)) (L2.defScope (topS 22)) .none kV doc pm an cdv ct) ⟨us, []⟩ = pure (d__law_numbers_right.par.zip us) := match us, hl with | [_], _ => rfl
theorem bd__law_parts_some (kV doc pm : Value) (an : Option Addr) (cdv ct : Value) (us : List Value) (hl : us.length = d__law_parts_some.par.length) : bindArgs (PySem.W.fnOf "_law_parts_some" "_law_parts_some" (L2.defArgs (topS 23)) (L2.defBody (topS 23)) (L2.defScope (topS 23)) .none kV doc pm an cdv ct) ⟨us, []⟩ = pure (d__law_parts_some.par.zip us) := match us, hl with | [_], _ => rfl
theorem bd__law_groups_some (kV doc pm : Value) (an : Option Addr) (cdv ct : Value) (us : List Value) (hl : us.length = d__law_groups_some.par.length) : bindArgs (PySem.W.fnOf "_law_groups_some" "_law_groups_some" (L2.defArgs (topS 24)) (L2.defBody (topS 24)) (L2.defScope (topS 24)) .none kV doc pm an cdv ct) ⟨us, []⟩ = pure (d__law_groups_some.par.zip us) := match us, hl with | [_], _ => rfl
theorem bd__law_rows_right (kV doc pm : Value) (an : Option Addr) (cdv ct : Value) (us : List Value) (hl : us.length = d__law_rows_right.par.length) : bindArgs (PySem.W.fnOf "_law_rows_right" "_law_rows_right" (L2.defArgs (topS 25)) (L2.defBody (topS 25)) (L2.defScope (topS 25)) .none kV doc pm an cdv ct) ⟨us, []⟩ = pure (d__law_rows_right.par.zip us) := match us, hl with | [_, _, _, _, _, _, _], _ => rfl
theorem bd__law_right (kV doc pm : Value) (an : Option Addr) (cdv ct : Value) (us : List Value) (hl : us.length = d__law_right.par.length) : bindArgs (PySem.W.fnOf "_law_right" "_law_right" (L2.defArgs (topS 26)) (L2.defBody (topS 26)) (L2.defScope (topS 26)) .none kV doc pm an cdv ct) ⟨us, []⟩ = pure (d__law_right.par.zip us) := match us, hl with | [_], _ => rfl
theorem bd_law (kV doc pm : Value) (an : Option Addr) (cdv ct : Value) (us : List Value) (hl : us.length = d_law.par.length) : bindArgs (PySem.W.fnOf "law" "law" (L2.defArgs (topS 27)) (L2.defBody (topS 27)) (L2.defScope (topS 27)) .none kV doc pm an cdv ct) ⟨us, []⟩ = pure (d_law.par.zip us) := match us, hl with | [_], _ => rfl
theorem kb_is_integer (kV doc pm : Value) (an : Option Addr) (cdv ct : Value) : ∀ p ∈ pats, ∀ (us ws r : List Value), us.length = p.1 → ws.length = p.2.length → p.2 ≠ [] → permArgs d_is_integer.par p.2 (us ++ ws) = some r → bindArgs (PySem.W.fnOf "is_integer" "is_integer" (L2.defArgs (topS 1)) (L2.defBody (topS 1)) (L2.defScope (topS 1)) .none kV doc pm an cdv ct) ⟨us, p.2.zip ws⟩ = pure (d_is_integer.par.zip r) := by
  intro p hp us ws r h1 h2 _ h
  simp only [pats, List.mem_cons, List.not_mem_nil, or_false] at hp
  subst hp
  · match us, ws, h1, h2 with
    | [], [w0], _, _ =>
      have e : permArgs d_is_integer.par [("value" : Str)] ([] ++ [w0]) = some [w0] := by kernel_rfl
      have h' := e.symm.trans h
      cases h'
      rfl
theorem kb_is_count (kV doc pm : Value) (an : Option Addr) (cdv ct : Value) : ∀ p ∈ pats, ∀ (us ws r : List Value), us.length = p.1 → ws.length = p.2.length → p.2 ≠ [] → permArgs d_is_count.par p.2 (us ++ ws) = some r → bindArgs (PySem.W.fnOf "is_count" "is_count" (L2.defArgs (topS 2)) (L2.defBody (topS 2)) (L2.defScope (topS 2)) .none kV doc pm an cdv ct) ⟨us, p.2.zip ws⟩ = pure (d_is_count.par.zip r) := by
  intro p hp us ws r h1 h2 _ h
  simp only [pats, List.mem_cons, List.not_mem_nil, or_false] at hp
  subst hp
  · match us, ws, h1, h2 with
    | [], [w0], _, _ =>
      have e : permArgs d_is_count.par [("value" : Str)] ([] ++ [w0]) = some [w0] := by kernel_rfl
      have h' := e.symm.trans h
      cases h'
      rfl
theorem kb_is_within (kV doc pm : Value) (an : Option Addr) (cdv ct : Value) : ∀ p ∈ pats, ∀ (us ws r : List Value), us.length = p.1 → ws.length = p.2.length → p.2 ≠ [] → permArgs d_is_within.par p.2 (us ++ ws) = some r → bindArgs (PySem.W.fnOf "is_within" "is_within" (L2.defArgs (topS 3)) (L2.defBody (topS 3)) (L2.defScope (topS 3)) .none kV doc pm an cdv ct) ⟨us, p.2.zip ws⟩ = pure (d_is_within.par.zip r) := by
  intro p hp us ws r h1 h2 _ h
  simp only [pats, List.mem_cons, List.not_mem_nil, or_false] at hp
  subst hp
  · match us, ws, h1, h2 with
    | [], [w0], _, _ =>
      have e : permArgs d_is_within.par [("value" : Str)] ([] ++ [w0]) = none := by kernel_rfl
      have h' := e.symm.trans h
      cases h'
theorem kb_is_tuple_of (kV doc pm : Value) (an : Option Addr) (cdv ct : Value) : ∀ p ∈ pats, ∀ (us ws r : List Value), us.length = p.1 → ws.length = p.2.length → p.2 ≠ [] → permArgs d_is_tuple_of.par p.2 (us ++ ws) = some r → bindArgs (PySem.W.fnOf "is_tuple_of" "is_tuple_of" (L2.defArgs (topS 4)) (L2.defBody (topS 4)) (L2.defScope (topS 4)) .none kV doc pm an cdv ct) ⟨us, p.2.zip ws⟩ = pure (d_is_tuple_of.par.zip r) := by
  intro p hp us ws r h1 h2 _ h
  simp only [pats, List.mem_cons, List.not_mem_nil, or_false] at hp
  subst hp
  · match us, ws, h1, h2 with
    | [], [w0], _, _ =>
      have e : permArgs d_is_tuple_of.par [("value" : Str)] ([] ++ [w0]) = none := by kernel_rfl
      have h' := e.symm.trans h
      cases h'
theorem kb_is_period (kV doc pm : Value) (an : Option Addr) (cdv ct : Value) : ∀ p ∈ pats, ∀ (us ws r : List Value), us.length = p.1 → ws.length = p.2.length → p.2 ≠ [] → permArgs d_is_period.par p.2 (us ++ ws) = some r → bindArgs (PySem.W.fnOf "is_period" "is_period" (L2.defArgs (topS 7)) (L2.defBody (topS 7)) (L2.defScope (topS 7)) .none kV doc pm an cdv ct) ⟨us, p.2.zip ws⟩ = pure (d_is_period.par.zip r) := by
  intro p hp us ws r h1 h2 _ h
  simp only [pats, List.mem_cons, List.not_mem_nil, or_false] at hp
  subst hp
  · match us, ws, h1, h2 with
    | [], [w0], _, _ =>
      have e : permArgs d_is_period.par [("value" : Str)] ([] ++ [w0]) = some [w0] := by kernel_rfl
      have h' := e.symm.trans h
      cases h'
      rfl
theorem kb_is_part (kV doc pm : Value) (an : Option Addr) (cdv ct : Value) : ∀ p ∈ pats, ∀ (us ws r : List Value), us.length = p.1 → ws.length = p.2.length → p.2 ≠ [] → permArgs d_is_part.par p.2 (us ++ ws) = some r → bindArgs (PySem.W.fnOf "is_part" "is_part" (L2.defArgs (topS 8)) (L2.defBody (topS 8)) (L2.defScope (topS 8)) .none kV doc pm an cdv ct) ⟨us, p.2.zip ws⟩ = pure (d_is_part.par.zip r) := by
  intro p hp us ws r h1 h2 _ h
  simp only [pats, List.mem_cons, List.not_mem_nil, or_false] at hp
  subst hp
  · match us, ws, h1, h2 with
    | [], [w0], _, _ =>
      have e : permArgs d_is_part.par [("value" : Str)] ([] ++ [w0]) = some [w0] := by kernel_rfl
      have h' := e.symm.trans h
      cases h'
      rfl
theorem kb_is_group (kV doc pm : Value) (an : Option Addr) (cdv ct : Value) : ∀ p ∈ pats, ∀ (us ws r : List Value), us.length = p.1 → ws.length = p.2.length → p.2 ≠ [] → permArgs d_is_group.par p.2 (us ++ ws) = some r → bindArgs (PySem.W.fnOf "is_group" "is_group" (L2.defArgs (topS 9)) (L2.defBody (topS 9)) (L2.defScope (topS 9)) .none kV doc pm an cdv ct) ⟨us, p.2.zip ws⟩ = pure (d_is_group.par.zip r) := by
  intro p hp us ws r h1 h2 _ h
  simp only [pats, List.mem_cons, List.not_mem_nil, or_false] at hp
  subst hp
  · match us, ws, h1, h2 with
    | [], [w0], _, _ =>
      have e : permArgs d_is_group.par [("value" : Str)] ([] ++ [w0]) = some [w0] := by kernel_rfl
      have h' := e.symm.trans h
      cases h'
      rfl
theorem kb_are_some (kV doc pm : Value) (an : Option Addr) (cdv ct : Value) : ∀ p ∈ pats, ∀ (us ws r : List Value), us.length = p.1 → ws.length = p.2.length → p.2 ≠ [] → permArgs d_are_some.par p.2 (us ++ ws) = some r → bindArgs (PySem.W.fnOf "are_some" "are_some" (L2.defArgs (topS 10)) (L2.defBody (topS 10)) (L2.defScope (topS 10)) .none kV doc pm an cdv ct) ⟨us, p.2.zip ws⟩ = pure (d_are_some.par.zip r) := by
  intro p hp us ws r h1 h2 _ h
  simp only [pats, List.mem_cons, List.not_mem_nil, or_false] at hp
  subst hp
  · match us, ws, h1, h2 with
    | [], [w0], _, _ =>
      have e : permArgs d_are_some.par [("value" : Str)] ([] ++ [w0]) = none := by kernel_rfl
      have h' := e.symm.trans h
      cases h'
theorem kb_are_parts (kV doc pm : Value) (an : Option Addr) (cdv ct : Value) : ∀ p ∈ pats, ∀ (us ws r : List Value), us.length = p.1 → ws.length = p.2.length → p.2 ≠ [] → permArgs d_are_parts.par p.2 (us ++ ws) = some r → bindArgs (PySem.W.fnOf "are_parts" "are_parts" (L2.defArgs (topS 11)) (L2.defBody (topS 11)) (L2.defScope (topS 11)) .none kV doc pm an cdv ct) ⟨us, p.2.zip ws⟩ = pure (d_are_parts.par.zip r) := by
  intro p hp us ws r h1 h2 _ h
  simp only [pats, List.mem_cons, List.not_mem_nil, or_false] at hp
  subst hp
  · match us, ws, h1, h2 with
    | [], [w0], _, _ =>
      have e : permArgs d_are_parts.par [("value" : Str)] ([] ++ [w0]) = some [w0] := by kernel_rfl
      have h' := e.symm.trans h
      cases h'
      rfl
theorem kb_are_groups (kV doc pm : Value) (an : Option Addr) (cdv ct : Value) : ∀ p ∈ pats, ∀ (us ws r : List Value), us.length = p.1 → ws.length = p.2.length → p.2 ≠ [] → permArgs d_are_groups.par p.2 (us ++ ws) = some r → bindArgs (PySem.W.fnOf "are_groups" "are_groups" (L2.defArgs (topS 12)) (L2.defBody (topS 12)) (L2.defScope (topS 12)) .none kV doc pm an cdv ct) ⟨us, p.2.zip ws⟩ = pure (d_are_groups.par.zip r) := by
  intro p hp us ws r h1 h2 _ h
  simp only [pats, List.mem_cons, List.not_mem_nil, or_false] at hp
  subst hp
  · match us, ws, h1, h2 with
    | [], [w0], _, _ =>
      have e : permArgs d_are_groups.par [("value" : Str)] ([] ++ [w0]) = some [w0] := by kernel_rfl
      have h' := e.symm.trans h
      cases h'
      rfl
theorem kb__law_pot (kV doc pm : Value) (an : Option Addr) (cdv ct : Value) : ∀ p ∈ pats, ∀ (us ws r : List Value), us.length = p.1 → ws.length = p.2.length → p.2 ≠ [] → permArgs d__law_pot.par p.2 (us ++ ws) = some r → bindArgs (PySem.W.fnOf "_law_pot" "_law_pot" (L2.defArgs (topS 14)) (L2.defBody (topS 14)) (L2.defScope (topS 14)) .none kV doc pm an cdv ct) ⟨us, p.2.zip ws⟩ = pure (d__law_pot.par.zip r) := by
  intro p hp us ws r h1 h2 _ h
  simp only [pats, List.mem_cons, List.not_mem_nil, or_false] at hp
  subst hp
  · match us, ws, h1, h2 with
    | [], [w0], _, _ =>
      have e : permArgs d__law_pot.par [("value" : Str)] ([] ++ [w0]) = none := by kernel_rfl
      have h' := e.symm.trans h
      cases h'
theorem kb__law_draw (kV doc pm : Value) (an : Option Addr) (cdv ct : Value) : ∀ p ∈ pats, ∀ (us ws r : List Value), us.length = p.1 → ws.length = p.2.length → p.2 ≠ [] → permArgs d__law_draw.par p.2 (us ++ ws) = some r → bindArgs (PySem.W.fnOf "_law_draw" "_law_draw" (L2.defArgs (topS 15)) (L2.defBody (topS 15)) (L2.defScope (topS 15)) .none kV doc pm an cdv ct) ⟨us, p.2.zip ws⟩ = pure (d__law_draw.par.zip r) := by
  intro p hp us ws r h1 h2 _ h
  simp only [pats, List.mem_cons, List.not_mem_nil, or_false] at hp
  subst hp
  · match us, ws, h1, h2 with
    | [], [w0], _, _ =>
      have e : permArgs d__law_draw.par [("value" : Str)] ([] ++ [w0]) = none := by kernel_rfl
      have h' := e.symm.trans h
      cases h'
theorem kb__law_pick (kV doc pm : Value) (an : Option Addr) (cdv ct : Value) : ∀ p ∈ pats, ∀ (us ws r : List Value), us.length = p.1 → ws.length = p.2.length → p.2 ≠ [] → permArgs d__law_pick.par p.2 (us ++ ws) = some r → bindArgs (PySem.W.fnOf "_law_pick" "_law_pick" (L2.defArgs (topS 16)) (L2.defBody (topS 16)) (L2.defScope (topS 16)) .none kV doc pm an cdv ct) ⟨us, p.2.zip ws⟩ = pure (d__law_pick.par.zip r) := by
  intro p hp us ws r h1 h2 _ h
  simp only [pats, List.mem_cons, List.not_mem_nil, or_false] at hp
  subst hp
  · match us, ws, h1, h2 with
    | [], [w0], _, _ =>
      have e : permArgs d__law_pick.par [("value" : Str)] ([] ++ [w0]) = none := by kernel_rfl
      have h' := e.symm.trans h
      cases h'
theorem kb__law_is_int (kV doc pm : Value) (an : Option Addr) (cdv ct : Value) : ∀ p ∈ pats, ∀ (us ws r : List Value), us.length = p.1 → ws.length = p.2.length → p.2 ≠ [] → permArgs d__law_is_int.par p.2 (us ++ ws) = some r → bindArgs (PySem.W.fnOf "_law_is_int" "_law_is_int" (L2.defArgs (topS 17)) (L2.defBody (topS 17)) (L2.defScope (topS 17)) .none kV doc pm an cdv ct) ⟨us, p.2.zip ws⟩ = pure (d__law_is_int.par.zip r) := by
  intro p hp us ws r h1 h2 _ h
  simp only [pats, List.mem_cons, List.not_mem_nil, or_false] at hp
  subst hp
  · match us, ws, h1, h2 with
    | [], [w0], _, _ =>
      have e : permArgs d__law_is_int.par [("value" : Str)] ([] ++ [w0]) = none := by kernel_rfl
      have h' := e.symm.trans h
      cases h'
theorem kb__law_put (kV doc pm : Value) (an : Option Addr) (cdv ct : Value) : ∀ p ∈ pats, ∀ (us ws r : List Value), us.length = p.1 → ws.length = p.2.length → p.2 ≠ [] → permArgs d__law_put.par p.2 (us ++ ws) = some r → bindArgs (PySem.W.fnOf "_law_put" "_law_put" (L2.defArgs (topS 18)) (L2.defBody (topS 18)) (L2.defScope (topS 18)) .none kV doc pm an cdv ct) ⟨us, p.2.zip ws⟩ = pure (d__law_put.par.zip r) := by
  intro p hp us ws r h1 h2 _ h
  simp only [pats, List.mem_cons, List.not_mem_nil, or_false] at hp
  subst hp
  · match us, ws, h1, h2 with
    | [], [w0], _, _ =>
      have e : permArgs d__law_put.par [("value" : Str)] ([] ++ [w0]) = none := by kernel_rfl
      have h' := e.symm.trans h
      cases h'
theorem kb__law_is_part (kV doc pm : Value) (an : Option Addr) (cdv ct : Value) : ∀ p ∈ pats, ∀ (us ws r : List Value), us.length = p.1 → ws.length = p.2.length → p.2 ≠ [] → permArgs d__law_is_part.par p.2 (us ++ ws) = some r → bindArgs (PySem.W.fnOf "_law_is_part" "_law_is_part" (L2.defArgs (topS 19)) (L2.defBody (topS 19)) (L2.defScope (topS 19)) .none kV doc pm an cdv ct) ⟨us, p.2.zip ws⟩ = pure (d__law_is_part.par.zip r) := by
  intro p hp us ws r h1 h2 _ h
  simp only [pats, List.mem_cons, List.not_mem_nil, or_false] at hp
  subst hp
  · match us, ws, h1, h2 with
    | [], [w0], _, _ =>
      have e : permArgs d__law_is_part.par [("value" : Str)] ([] ++ [w0]) = some [w0] := by kernel_rfl
      have h' := e.symm.trans h
      cases h'
      rfl
theorem kb__law_is_group (kV doc pm : Value) (an : Option Addr) (cdv ct : Value) : ∀ p ∈ pats, ∀ (us ws r : List Value), us.length = p.1 → ws.length = p.2.length → p.2 ≠ [] → permArgs d__law_is_group.par p.2 (us ++ ws) = some r → bindArgs (PySem.W.fnOf "_law_is_group" "_law_is_group" (L2.defArgs (topS 20)) (L2.defBody (topS 20)) (L2.defScope (topS 20)) .none kV doc pm an cdv ct) ⟨us, p.2.zip ws⟩ = pure (d__law_is_group.par.zip r) := by
  intro p hp us ws r h1 h2 _ h
  simp only [pats, List.mem_cons, List.not_mem_nil, or_false] at hp
  subst hp
  · match us, ws, h1, h2 with
    | [], [w0], _, _ =>
      have e : permArgs d__law_is_group.par [("value" : Str)] ([] ++ [w0]) = some [w0] := by kernel_rfl
      have h' := e.symm.trans h
      cases h'
      rfl
theorem kb__law_some (kV doc pm : Value) (an : Option Addr) (cdv ct : Value) : ∀ p ∈ pats, ∀ (us ws r : List Value), us.length = p.1 → ws.length = p.2.length → p.2 ≠ [] → permArgs d__law_some.par p.2 (us ++ ws) = some r → bindArgs (PySem.W.fnOf "_law_some" "_law_some" (L2.defArgs (topS 21)) (L2.defBody (topS 21)) (L2.defScope (topS 21)) .none kV doc pm an cdv ct) ⟨us, p.2.zip ws⟩ = pure (d__law_some.par.zip r) := by
  intro p hp us ws r h1 h2 _ h
  simp only [pats, List.mem_cons, List.not_mem_nil, or_false] at hp
  subst hp
  · match us, ws, h1, h2 with
    | [], [w0], _, _ =>
      have e : permArgs d__law_some.par [("value" : Str)] ([] ++ [w0]) = none := by kernel_rfl
      have h' := e.symm.trans h
      cases h'
theorem kb__law_numbers_right (kV doc pm : Value) (an : Option Addr) (cdv ct : Value) : ∀ p ∈ pats, ∀ (us ws r : List Value), us.length = p.1 → ws.length = p.2.length → p.2 ≠ [] → permArgs d__law_numbers_right.par p.2 (us ++ ws) = some r → bindArgs (PySem.W.fnOf "_law_numbers_right" "_law_numbers_right" (L2.defArgs (topS 22)) (L2.defBody (topS 22)) (L2.defScope (topS 22)) .none kV doc pm an cdv ct) ⟨us, p.2.zip ws⟩ = pure (d__law_numbers_right.par.zip r) := by
  intro p hp us ws r h1 h2 _ h
  simp only [pats, List.mem_cons, List.not_mem_nil, or_false] at hp
  subst hp
  · match us, ws, h1, h2 with
    | [], [w0], _, _ =>
      have e : permArgs d__law_numbers_right.par [("value" : Str)] ([] ++ [w0]) = none := by kernel_rfl
      have h' := e.symm.trans h
      cases h'
theorem kb__law_parts_some (kV doc pm : Value) (an : Option Addr) (cdv ct : Value) : ∀ p ∈ pats, ∀ (us ws r : List Value), us.length = p.1 → ws.length = p.2.length → p.2 ≠ [] → permArgs d__law_parts_some.par p.2 (us ++ ws) = some r → bindArgs (PySem.W.fnOf "_law_parts_some" "_law_parts_some" (L2.defArgs (topS 23)) (L2.defBody (topS 23)) (L2.defScope (topS 23)) .none kV doc pm an cdv ct) ⟨us, p.2.zip ws⟩ = pure (d__law_parts_some.par.zip r) := by
  intro p hp us ws r h1 h2 _ h
  simp only [pats, List.mem_cons, List.not_mem_nil, or_false] at hp
  subst hp
  · match us, ws, h1, h2 with
    | [], [w0], _, _ =>
      have e : permArgs d__law_parts_some.par [("value" : Str)] ([] ++ [w0]) = none := by kernel_rfl
      have h' := e.symm.trans h
      cases h'
theorem kb__law_groups_some (kV doc pm : Value) (an : Option Addr) (cdv ct : Value) : ∀ p ∈ pats, ∀ (us ws r : List Value), us.length = p.1 → ws.length = p.2.length → p.2 ≠ [] → permArgs d__law_groups_some.par p.2 (us ++ ws) = some r → bindArgs (PySem.W.fnOf "_law_groups_some" "_law_groups_some" (L2.defArgs (topS 24)) (L2.defBody (topS 24)) (L2.defScope (topS 24)) .none kV doc pm an cdv ct) ⟨us, p.2.zip ws⟩ = pure (d__law_groups_some.par.zip r) := by
  intro p hp us ws r h1 h2 _ h
  simp only [pats, List.mem_cons, List.not_mem_nil, or_false] at hp
  subst hp
  · match us, ws, h1, h2 with
    | [], [w0], _, _ =>
      have e : permArgs d__law_groups_some.par [("value" : Str)] ([] ++ [w0]) = none := by kernel_rfl
      have h' := e.symm.trans h
      cases h'
theorem kb__law_rows_right (kV doc pm : Value) (an : Option Addr) (cdv ct : Value) : ∀ p ∈ pats, ∀ (us ws r : List Value), us.length = p.1 → ws.length = p.2.length → p.2 ≠ [] → permArgs d__law_rows_right.par p.2 (us ++ ws) = some r → bindArgs (PySem.W.fnOf "_law_rows_right" "_law_rows_right" (L2.defArgs (topS 25)) (L2.defBody (topS 25)) (L2.defScope (topS 25)) .none kV doc pm an cdv ct) ⟨us, p.2.zip ws⟩ = pure (d__law_rows_right.par.zip r) := by
  intro p hp us ws r h1 h2 _ h
  simp only [pats, List.mem_cons, List.not_mem_nil, or_false] at hp
  subst hp
  · match us, ws, h1, h2 with
    | [], [w0], _, _ =>
      have e : permArgs d__law_rows_right.par [("value" : Str)] ([] ++ [w0]) = none := by kernel_rfl
      have h' := e.symm.trans h
      cases h'
theorem kb__law_right (kV doc pm : Value) (an : Option Addr) (cdv ct : Value) : ∀ p ∈ pats, ∀ (us ws r : List Value), us.length = p.1 → ws.length = p.2.length → p.2 ≠ [] → permArgs d__law_right.par p.2 (us ++ ws) = some r → bindArgs (PySem.W.fnOf "_law_right" "_law_right" (L2.defArgs (topS 26)) (L2.defBody (topS 26)) (L2.defScope (topS 26)) .none kV doc pm an cdv ct) ⟨us, p.2.zip ws⟩ = pure (d__law_right.par.zip r) := by
  intro p hp us ws r h1 h2 _ h
  simp only [pats, List.mem_cons, List.not_mem_nil, or_false] at hp
  subst hp
  · match us, ws, h1, h2 with
    | [], [w0], _, _ =>
      have e : permArgs d__law_right.par [("value" : Str)] ([] ++ [w0]) = none := by kernel_rfl
      have h' := e.symm.trans h
      cases h'
theorem kb_law (kV doc pm : Value) (an : Option Addr) (cdv ct : Value) : ∀ p ∈ pats, ∀ (us ws r : List Value), us.length = p.1 → ws.length = p.2.length → p.2 ≠ [] → permArgs d_law.par p.2 (us ++ ws) = some r → bindArgs (PySem.W.fnOf "law" "law" (L2.defArgs (topS 27)) (L2.defBody (topS 27)) (L2.defScope (topS 27)) .none kV doc pm an cdv ct) ⟨us, p.2.zip ws⟩ = pure (d_law.par.zip r) := by
  intro p hp us ws r h1 h2 _ h
  simp only [pats, List.mem_cons, List.not_mem_nil, or_false] at hp
  subst hp
  · match us, ws, h1, h2 with
    | [], [w0], _, _ =>
      have e : permArgs d_law.par [("value" : Str)] ([] ++ [w0]) = none := by kernel_rfl
      have h' := e.symm.trans h
      cases h'
theorem okT {K : PySem.W.Frag} {h : Heap} {mg : Str → Option Value} (inK : K.In h) (G : h.Ns mainGlobals mg) (r0 : Raw K "is_integer" (topS 1))
    (r1 : Raw K "is_count" (topS 2))
    (r2 : Raw K "is_within" (topS 3))
    (r3 : Raw K "is_tuple_of" (topS 4))
    (r4 : Raw K "is_period" (topS 7))
    (r5 : Raw K "is_part" (topS 8))
    (r6 : Raw K "is_group" (topS 9))
    (r7 : Raw K "are_some" (topS 10))
    (r8 : Raw K "are_parts" (topS 11))
    (r9 : Raw K "are_groups" (topS 12))
    (r10 : Raw K "_law_pot" (topS 14))
    (r11 : Raw K "_law_draw" (topS 15))
    (r12 : Raw K "_law_pick" (topS 16))
    (r13 : Raw K "_law_is_int" (topS 17))
    (r14 : Raw K "_law_put" (topS 18))
    (r15 : Raw K "_law_is_part" (topS 19))
    (r16 : Raw K "_law_is_group" (topS 20))
    (r17 : Raw K "_law_some" (topS 21))
    (r18 : Raw K "_law_numbers_right" (topS 22))
    (r19 : Raw K "_law_parts_some" (topS 23))
    (r20 : Raw K "_law_groups_some" (topS 24))
    (r21 : Raw K "_law_rows_right" (topS 25))
    (r22 : Raw K "_law_right" (topS 26))
    (r23 : Raw K "law" (topS 27))
    (z0 : PySem.W.nsIn K mainGlobals "len" = some none)
    (z1 : PySem.W.nsIn K mainGlobals "abs" = some none)
    (z2 : PySem.W.nsIn K mainGlobals "max" = some none)
    (z3 : PySem.W.nsIn K mainGlobals "min" = some none)
    (z4 : PySem.W.nsIn K mainGlobals "int" = some none)
    (z5 : PySem.W.nsIn K mainGlobals "repr" = some none)
    (z6 : PySem.W.nsIn K mainGlobals "divmod" = some none)
    (z7 : PySem.W.nsIn K mainGlobals "sum" = some none)
    (z8 : PySem.W.nsIn K mainGlobals "all" = some none)
    (z9 : PySem.W.nsIn K mainGlobals "any" = some none)
    (z10 : PySem.W.nsIn K mainGlobals "tuple" = some none)
    (z11 : PySem.W.nsIn K mainGlobals "list" = some none)
    (z12 : PySem.W.nsIn K mainGlobals "isinstance" = some none)
    (z13 : PySem.W.nsIn K mainGlobals "range" = some none)
    (z14 : PySem.W.nsIn K mainGlobals "bool" = some none)
    (z15 : PySem.W.nsIn K mainGlobals "str" = some none)
    (z16 : PySem.W.nsIn K mainGlobals "dict" = some none)
    (z17 : PySem.W.nsIn K mainGlobals "enumerate" = some none)
    (z18 : PySem.W.nsIn K mainGlobals "zip" = some none)
    (z19 : PySem.W.nsIn K mainGlobals "sorted" = some none)
    (z20 : PySem.W.nsIn K mainGlobals "reversed" = some none)
    (z21 : PySem.W.nsIn K mainGlobals "set" = some none)
    (z22 : PySem.W.nsIn K mainGlobals "type" = some none)
    {t0 : Nat} (c0 : PySem.W.nsIn K mainGlobals "MOST_PARTS" = some (some (.int 6 t0))) : TxOk K mg consts pats T :=
  txOk_mk inK G (.cons z0 (.cons z1 (.cons z2 (.cons z3 (.cons z4 (.cons z5 (.cons z6 (.cons z7 (.cons z8 (.cons z9 (.cons z10 (.cons z11 (.cons z12 (.cons z13 (.cons z14 (.cons z15 (.cons z16 (.cons z17 (.cons z18 (.cons z19 (.cons z20 (.cons z21 (.cons z22 .nil))))))))))))))))))))))) (.cons (co_int inK G c0) .nil)
    (.cons (defAt_mk inK G r0 sc_is_integer tr_is_integer bd_is_integer kb_is_integer) (.cons (defAt_mk inK G r1 sc_is_count tr_is_count bd_is_count kb_is_count) (.cons (defAt_mk inK G r2 sc_is_within tr_is_within bd_is_within kb_is_within) (.cons (defAt_mk inK G r3 sc_is_tuple_of tr_is_tuple_of bd_is_tuple_of kb_is_tuple_of) (.cons (defAt_mk inK G r4 sc_is_period tr_is_period bd_is_period kb_is_period) (.cons (defAt_mk inK G r5 sc_is_part tr_is_part bd_is_part kb_is_part) (.cons (defAt_mk inK G r6 sc_is_group tr_is_group bd_is_group kb_is_group) (.cons (defAt_mk inK G r7 sc_are_some tr_are_some bd_are_some kb_are_some) (.cons (defAt_mk inK G r8 sc_are_parts tr_are_parts bd_are_parts kb_are_parts) (.cons (defAt_mk inK G r9 sc_are_groups tr_are_groups bd_are_groups kb_are_groups) (.cons (defAt_mk inK G r10 sc__law_pot tr__law_pot bd__law_pot kb__law_pot) (.cons (defAt_mk inK G r11 sc__law_draw tr__law_draw bd__law_draw kb__law_draw) (.cons (defAt_mk inK G r12 sc__law_pick tr__law_pick bd__law_pick kb__law_pick) (.cons (defAt_mk inK G r13 sc__law_is_int tr__law_is_int bd__law_is_int kb__law_is_int) (.cons (defAt_mk inK G r14 sc__law_put tr__law_put bd__law_put kb__law_put) (.cons (defAt_mk inK G r15 sc__law_is_part tr__law_is_part bd__law_is_part kb__law_is_part) (.cons (defAt_mk inK G r16 sc__law_is_group tr__law_is_group bd__law_is_group kb__law_is_group) (.cons (defAt_mk inK G r17 sc__law_some tr__law_some bd__law_some kb__law_some) (.cons (defAt_mk inK G r18 sc__law_numbers_right tr__law_numbers_right bd__law_numbers_right kb__law_numbers_right) (.cons (defAt_mk inK G r19 sc__law_parts_some tr__law_parts_some bd__law_parts_some kb__law_parts_some) (.cons (defAt_mk inK G r20 sc__law_groups_some tr__law_groups_some bd__law_groups_some kb__law_groups_some) (.cons (defAt_mk inK G r21 sc__law_rows_right tr__law_rows_right bd__law_rows_right kb__law_rows_right) (.cons (defAt_mk inK G r22 sc__law_right tr__law_right bd__law_right kb__law_right) (.cons (defAt_mk inK G r23 sc_law tr_law bd_law kb_law) .nil))))))))))))))))))))))))
end L10
namespace L10
open PySem Ev
theorem and_bl {x y : Bool} {st : Sto} : (if x = true then Out.ok (D.bl y) st else Out.ok (D.bl x) st) = .ok (.bl (x && y)) st := by cases x <;> rfl
theorem or_bl {x y : Bool} {st : Sto} : (if x = true then Out.ok (D.bl x) st else Out.ok (D.bl y) st) = .ok (.bl (x || y)) st := by cases x <;> rfl
theorem chain_bl {x y : Bool} {st : Sto} : chainK (.bl x) st (fun st => .ok (.bl y) st) = .ok (.bl (x && y)) st := by cases x <;> rfl
/-! ### the judges -/
def within (d : D) (a b : Int) : Bool := match d with
  | .int i => decide (a ≤ i) && decide (i ≤ b)
  | _ => false
def isI (d : D) : Bool := match d with
  | .int _ => true
  | _ => false
def cnt (d : D) : Bool := match d with
  | .int i => decide (0 ≤ i)
  | _ => false
def le2 (a b : D) : Bool := match a, b with
  | .int i, .int j => decide (i ≤ j)
  | _, _ => false
def tup3 (d : D) : Bool := match d with
  | .tup [.str w, _, _] => decide (w = "part")
  | _ => false
def part (d : D) : Bool := match d with
  | .tup [.str w, a, b] => decide (w = "part") && (within a 1 9 && (within b 1 9 && le2 a b))
  | _ => false
def group (d : D) : Bool := match d with
  | .tup [a, b] => within a 1 9 && (isNon b || within b 1 16)
  | _ => false
def sized (d : D) (l m : Int) : Bool := match d with
  | .tup xs => decide (l ≤ (xs.length : Int)) && decide ((xs.length : Int) ≤ m)
  | _ => false
def allOf (d : D) (f : D → Bool) : Bool := match d with
  | .tup xs => xs.all f
  | _ => false
variable (k : Nat) (d : D) (st : Sto)
theorem r_is_integer (h : closed d = true) : (T.at (k + 1)).run "is_integer" [d] st = .ok (.bl (isI d)) st := by
  rw [run_at lk_is_integer _ _ _ rfl]
  cases d <;> first | rfl | cases h
theorem c_is_integer (h : closed d = true) : callC (T.at (k + 1)) "is_integer" [] [d] st = .ok (.bl (isI d)) st := by
  rw [call_pos lk_is_integer rfl, r_is_integer k d st h]
theorem v_is_integer (h : closed d = true) : callC (T.at (k + 1)) "is_integer" ["value"] [d] st = .ok (.bl (isI d)) st := by
  rw [call_kw lk_is_integer (es := [d]) rfl, r_is_integer k d st h]
theorem r_is_count (h : closed d = true) : (T.at (k + 2)).run "is_count" [d] st = .ok (.bl (cnt d)) st := by
  rw [run_at lk_is_count _ _ _ rfl]
  have e := c_is_integer k d st h
  cases d <;> simp [d_is_count, e, isI, cnt]
theorem c_is_count (h : closed d = true) : callC (T.at (k + 2)) "is_count" [] [d] st = .ok (.bl (cnt d)) st := by
  rw [call_pos lk_is_count rfl, r_is_count k d st h]
theorem v_is_count (h : closed d = true) : callC (T.at (k + 2)) "is_count" ["value"] [d] st = .ok (.bl (cnt d)) st := by
  rw [call_kw lk_is_count (es := [d]) rfl, r_is_count k d st h]
theorem c_is_within (a b : Int) (h : closed d = true) : callC (T.at (k + 2)) "is_within" [] [d, .int a, .int b] st = .ok (.bl (within d a b)) st := by
  rw [call_pos lk_is_within rfl, run_at lk_is_within _ _ _ rfl]
  have e := c_is_integer k d st h
  cases d <;> simp [d_is_within, e, isI, within, chain_bl]
theorem r_is_period (h : closed d = true) : (T.at (k + 3)).run "is_period" [d] st = .ok (.bl (within d 2 24)) st := by
  rw [run_at lk_is_period _ _ _ rfl]
  have e := c_is_within k d st 2 24 h
  simp [d_is_period, e]
theorem c_is_period (h : closed d = true) : callC (T.at (k + 3)) "is_period" [] [d] st = .ok (.bl (within d 2 24)) st := by
  rw [call_pos lk_is_period rfl, r_is_period k d st h]
theorem v_is_period (h : closed d = true) : callC (T.at (k + 3)) "is_period" ["value"] [d] st = .ok (.bl (within d 2 24)) st := by
  rw [call_kw lk_is_period (es := [d]) rfl, r_is_period k d st h]
theorem c_law_is_int (a b : Int) (h : closed d = true) : callC (T.at (k + 1)) "_law_is_int" [] [d, .int a, .int b] st = .ok (.bl (within d a b)) st := by
  rw [call_pos lk__law_is_int rfl, run_at lk__law_is_int _ _ _ rfl]
  have e1 := ty_int (st := st) (closed_data h)
  have e2 := ty_bool (st := st) (closed_data h)
  cases d <;> simp [d__law_is_int, e1, e2, isInt, isBl, within, chain_bl]
theorem c_is_tuple_of (h : closed d = true) : callC (T.at (k + 1)) "is_tuple_of" [] [d, .str "part", .int 3] st = .ok (.bl (tup3 d)) st := by
  rw [call_pos lk_is_tuple_of rfl, run_at lk_is_tuple_of _ _ _ rfl]
  have e1 := ty_tup (st := st) (closed_data h)
  cases d with
  | tup xs =>
    have hc := closed_tup h
    match xs, hc with
    | [], _ => simp [d_is_tuple_of, e1, isTup, tup3]
    | [a], _ => simp [d_is_tuple_of, e1, isTup, tup3]
    | [a, b], _ => simp [d_is_tuple_of, e1, isTup, tup3]
    | [a, b, c], hc =>
      have e2 := ty_str (st := st) (closed_data (hc a List.mem_cons_self))
      cases a <;> simp [d_is_tuple_of, e1, e2, isTup, isStr, tup3]
    | a :: b :: c :: e :: r, _ =>
      have hl : ¬ ((r.length : Int) + 1 + 1 + 1 + 1 = 3) := by omega
      simp [d_is_tuple_of, e1, isTup, tup3, hl]
  | _ => simp [d_is_tuple_of, e1, isTup, tup3]
theorem within_int {d : D} {a b : Int} (h : within d a b = true) : ∃ i, d = .int i ∧ a ≤ i ∧ i ≤ b := by
  cases d with
  | int i =>
    have h' : (decide (a ≤ i) && decide (i ≤ b)) = true := h
    rw [Bool.and_eq_true, decide_eq_true_eq, decide_eq_true_eq] at h'
    exact ⟨i, rfl, h'⟩
  | _ => cases h
theorem r_is_part (h : closed d = true) : (T.at (k + 3)).run "is_part" [d] st = .ok (.bl (part d)) st := by
  rw [run_at lk_is_part _ _ _ rfl]
  have e1 := c_is_tuple_of (k + 1) d st h
  by_cases h3 : tup3 d = true
  · cases d with
    | tup xs =>
      have hc := closed_tup h
      match xs, h3, hc with
      | [.str w, a, b], h3, hc =>
        have ea := c_is_within k a st 1 9 (hc a (by simp))
        have eb := c_is_within k b st 1 9 (hc b (by simp))
        have hw : w = "part" := of_decide_eq_true h3
        subst hw
        rw [h3] at e1
        have hp : part (.tup [.str "part", a, b]) = (within a 1 9 && (within b 1 9 && le2 a b)) := by
          simp [part]
        rw [hp]
        cases ha : within a 1 9 with
        | false =>
          rw [ha] at ea
          simp [d_is_part, e1, ea]
        | true =>
          rw [ha] at ea
          obtain ⟨i, rfl, -, -⟩ := within_int ha
          cases hb : within b 1 9 with
          | false =>
            rw [hb] at eb
            simp [d_is_part, e1, ea, eb]
          | true =>
            rw [hb] at eb
            obtain ⟨j, rfl, -, -⟩ := within_int hb
            simp [d_is_part, e1, ea, eb, le2]
    | _ => cases h3
  · have h4 : tup3 d = false := by simpa using h3
    have h5 : part d = false := by
      cases d with
      | tup xs =>
        match xs, h4 with
        | [.str w, a, b], h4 =>
          have hw : decide (w = "part") = false := h4
          simp only [part, hw, Bool.false_and]
        | [], _ => rfl
        | [_], _ => simp [part]
        | [_, _], _ => simp [part]
        | _ :: _ :: _ :: _ :: _, _ => simp [part]
        | [.non, _, _], _ => rfl
        | [.bl _, _, _], _ => rfl
        | [.int _, _, _], _ => rfl
        | [.tup _, _, _], _ => rfl
        | [.lst _, _, _], _ => rfl
        | [.dct _ _, _, _], _ => rfl
        | [.ro _, _, _], _ => rfl
        | [.loc _, _, _], _ => rfl
        | [.fn _, _, _], _ => rfl
      | _ => rfl
    simp [d_is_part, e1, h4, h5]
theorem c_is_part (h : closed d = true) : callC (T.at (k + 3)) "is_part" [] [d] st = .ok (.bl (part d)) st := by
  rw [call_pos lk_is_part rfl, r_is_part k d st h]
theorem v_is_part (h : closed d = true) : callC (T.at (k + 3)) "is_part" ["value"] [d] st = .ok (.bl (part d)) st := by
  rw [call_kw lk_is_part (es := [d]) rfl, r_is_part k d st h]
theorem r_is_group (h : closed d = true) : (T.at (k + 3)).run "is_group" [d] st = .ok (.bl (group d)) st := by
  rw [run_at lk_is_group _ _ _ rfl]
  have e1 := ty_tup (st := st) (closed_data h)
  cases d with
  | tup xs =>
    have hc := closed_tup h
    match xs, hc with
    | [], _ => simp [d_is_group, e1, isTup, group]
    | [a], _ => simp [d_is_group, e1, isTup, group]
    | [a, b], hc =>
      have ea := c_is_within k a st 1 9 (hc a (by simp))
      have eb := c_is_within k b st 1 16 (hc b (by simp))
      have hg : group (.tup [a, b]) = (within a 1 9 && (isNon b || within b 1 16)) := rfl
      rw [hg]
      cases ha : within a 1 9 <;> cases hb : isNon b <;> rw [ha] at ea <;> simp [d_is_group, e1, isTup, ea, eb, hb]
    | a :: b :: c :: r, _ =>
      have hl : ¬ ((r.length : Int) + 1 + 1 + 1 = 2) := by omega
      simp [d_is_group, e1, isTup, group, hl]
  | _ => simp [d_is_group, e1, isTup, group]
theorem c_is_group (h : closed d = true) : callC (T.at (k + 3)) "is_group" [] [d] st = .ok (.bl (group d)) st := by
  rw [call_pos lk_is_group rfl, r_is_group k d st h]
theorem v_is_group (h : closed d = true) : callC (T.at (k + 3)) "is_group" ["value"] [d] st = .ok (.bl (group d)) st := by
  rw [call_kw lk_is_group (es := [d]) rfl, r_is_group k d st h]
theorem r_law_is_part (h : closed d = true) : (T.at (k + 2)).run "_law_is_part" [d] st = .ok (.bl (part d)) st := by
  rw [run_at lk__law_is_part _ _ _ rfl]
  have e1 := ty_tup (st := st) (closed_data h)
  cases d with
  | tup xs =>
    have hc := closed_tup h
    match xs, hc with
    | [], _ => simp [d__law_is_part, e1, isTup, part]
    | [a], _ => simp [d__law_is_part, e1, isTup, part]
    | [a, b], _ => simp [d__law_is_part, e1, isTup, part]
    | [w, a, b], hc =>
      have e2 := ty_str (st := st) (closed_data (hc w (by simp)))
      have ea := c_law_is_int k a st 1 9 (hc a (by simp))
      have eb := c_law_is_int k b st 1 9 (hc b (by simp))
      cases w with
      | str w =>
        have hp : part (.tup [.str w, a, b]) = (decide (w = "part") && (within a 1 9 && (within b 1 9 && le2 a b))) := rfl
        rw [hp]
        cases hw : decide (w = "part") with
        | false => simp [d__law_is_part, e1, e2, isTup, isStr, hw]
        | true =>
          cases ha : within a 1 9 with
          | false =>
            rw [ha] at ea
            simp [d__law_is_part, e1, e2, isTup, isStr, hw, ea]
          | true =>
            rw [ha] at ea
            obtain ⟨i, rfl, -, -⟩ := within_int ha
            cases hb : within b 1 9 with
            | false =>
              rw [hb] at eb
              simp [d__law_is_part, e1, e2, isTup, isStr, hw, ea, eb]
            | true =>
              rw [hb] at eb
              obtain ⟨j, rfl, -, -⟩ := within_int hb
              simp [d__law_is_part, e1, e2, isTup, isStr, hw, ea, eb, le2]
      | _ => simp [d__law_is_part, e1, e2, isTup, isStr, part]
    | a :: b :: c :: e :: r, _ =>
      have hl : ¬ ((r.length : Int) + 1 + 1 + 1 + 1 = 3) := by omega
      simp [d__law_is_part, e1, isTup, part, hl]
  | _ => simp [d__law_is_part, e1, isTup, part]
theorem c_law_is_part (h : closed d = true) : callC (T.at (k + 2)) "_law_is_part" [] [d] st = .ok (.bl (part d)) st := by
  rw [call_pos lk__law_is_part rfl, r_law_is_part k d st h]
theorem r_law_is_group (h : closed d = true) : (T.at (k + 2)).run "_law_is_group" [d] st = .ok (.bl (group d)) st := by
  rw [run_at lk__law_is_group _ _ _ rfl]
  have e1 := ty_tup (st := st) (closed_data h)
  cases d with
  | tup xs =>
    have hc := closed_tup h
    match xs, hc with
    | [], _ => simp [d__law_is_group, e1, isTup, group]
    | [a], _ => simp [d__law_is_group, e1, isTup, group]
    | [a, b], hc =>
      have ea := c_law_is_int k a st 1 9 (hc a (by simp))
      have eb := c_law_is_int k b st 1 16 (hc b (by simp))
      have hg : group (.tup [a, b]) = (within a 1 9 && (isNon b || within b 1 16)) := rfl
      rw [hg]
      cases ha : within a 1 9 <;> cases hb : isNon b <;> rw [ha] at ea <;> simp [d__law_is_group, e1, isTup, ea, eb, hb]
    | a :: b :: c :: r, _ =>
      have hl : ¬ ((r.length : Int) + 1 + 1 + 1 = 2) := by omega
      simp [d__law_is_group, e1, isTup, group, hl]
  | _ => simp [d__law_is_group, e1, isTup, group]
theorem c_law_is_group (h : closed d = true) : callC (T.at (k + 2)) "_law_is_group" [] [d] st = .ok (.bl (group d)) st := by
  rw [call_pos lk__law_is_group rfl, r_law_is_group k d st h]
theorem c_are_some (a b : Int) (h : closed d = true) : callC (T.at (k + 1)) "are_some" [] [d, .int a, .int b] st = .ok (.bl (sized d a b)) st := by
  rw [call_pos lk_are_some rfl, run_at lk_are_some _ _ _ rfl]
  have e1 := ty_tup (st := st) (closed_data h)
  cases d <;> simp [d_are_some, e1, isTup, sized, chain_bl]
/-- a comprehension that judges each of a tuple -/
theorem judged {C : Cal} {i : Nat} {e : E} {env : Ev.Env} {xs : List D} {f : D → Bool} (hi : env[i]? = some none ∨ ∃ v, env[i]? = some v) (hl : xs.length ≤ 1000) (h : ∀ d ∈ xs, evE C e (wipeE env [i] |>.set i (some d)) st = .ok (.bl (f d)) st) :
    compI (fun j _ => some xs[j]?) (compT (.n i) (wipeE env [i]) (evTs C []) (evE C e)) turns 0 [] st = .ok (xs.map fun d => .bl (f d)) st := by
  refine comp_map (by omega) fun d hd => ?_
  unfold compT
  rw [setT_n]
  dsimp only
  rw [evt_nil]
  dsimp only
  rw [h d hd]
theorem all_map {xs : List D} {f : D → Bool} : (xs.map f).all id = xs.all f := by
  induction xs with
  | nil => rfl
  | cons x xs ih => rw [List.map_cons, List.all_cons, List.all_cons, ih]; rfl
theorem sized_tup {d : D} {a b : Int} (h : sized d a b = true) : ∃ xs, d = .tup xs ∧ (xs.length : Int) ≤ b := by
  cases d with
  | tup xs =>
    have h' : (decide (a ≤ (xs.length : Int)) && decide ((xs.length : Int) ≤ b)) = true := h
    rw [Bool.and_eq_true, decide_eq_true_eq, decide_eq_true_eq] at h'
    exact ⟨xs, rfl, h'.2⟩
  | _ => cases h
theorem r_are_parts (h : closed d = true) : (T.at (k + 4)).run "are_parts" [d] st = .ok (.bl (sized d 0 6 && allOf d part)) st := by
  rw [run_at lk_are_parts _ _ _ rfl]
  have e1 := c_are_some (k + 2) d st 0 6 h
  cases hs : sized d 0 6 with
  | false =>
    rw [hs] at e1
    simp [d_are_parts, e1]
  | true =>
    rw [hs] at e1
    obtain ⟨xs, rfl, hl⟩ := sized_tup hs
    have hc := closed_tup h
    have e2 := judged (xs := xs) (C := T.at (k + 3)) (i := 1) (e := .call "is_part" [] [.v 1]) (env := [some (.tup xs), none]) (f := part) st (.inl rfl) (by omega) fun d hd => by
      have := c_is_part k d st (hc d hd)
      simp [wipeE, this]
    simp only [d_are_parts, sts_cons, st_ret, ev_and, ev_call, evs_cons, evs_nil, ev_v0, ev_c, bnd_oks, List.map_cons, List.map_nil, List.length_cons, List.length_nil, List.cons_append, List.nil_append, Nat.reduceAdd, Nat.reduceSub, List.replicate_succ, List.replicate_zero, e1, tr_bl, opt_some, if_true, ev_pr, ev_comp, it_tup, e2, compEnd, newL_f, pr_all, bools_map, all_map, toR_ok, seq_rt, end_rt, Bool.true_and]
    rfl
theorem r_are_groups (h : closed d = true) : (T.at (k + 4)).run "are_groups" [d] st = .ok (.bl (sized d 1 4 && allOf d group)) st := by
  rw [run_at lk_are_groups _ _ _ rfl]
  have e1 := c_are_some (k + 2) d st 1 4 h
  cases hs : sized d 1 4 with
  | false =>
    rw [hs] at e1
    simp [d_are_groups, e1]
  | true =>
    rw [hs] at e1
    obtain ⟨xs, rfl, hl⟩ := sized_tup hs
    have hc := closed_tup h
    have e2 := judged (xs := xs) (C := T.at (k + 3)) (i := 1) (e := .call "is_group" [] [.v 1]) (env := [some (.tup xs), none]) (f := group) st (.inl rfl) (by omega) fun d hd => by
      have := c_is_group k d st (hc d hd)
      simp [wipeE, this]
    simp only [d_are_groups, sts_cons, st_ret, ev_and, ev_call, evs_cons, evs_nil, ev_v0, ev_c, bnd_oks, List.map_cons, List.map_nil, List.length_cons, List.length_nil, List.cons_append, List.nil_append, Nat.reduceAdd, Nat.reduceSub, List.replicate_succ, List.replicate_zero, e1, tr_bl, opt_some, if_true, ev_pr, ev_comp, it_tup, e2, compEnd, newL_f, pr_all, bools_map, all_map, toR_ok, seq_rt, end_rt, Bool.true_and]
    rfl
/-- a judge, by name -/
structure Judge (j : Str) (f : D → Bool) : Prop where
  lk : ∃ dj : Df, T.lookup j = some dj
  run : ∀ (k : Nat) (d : D) (st : Sto), closed d = true → callC (T.at (k + 2)) j [] [d] st = .ok (.bl (f d)) st
theorem j_part : Judge "_law_is_part" part := ⟨⟨_, lk__law_is_part⟩, fun k d st h => c_law_is_part k d st h⟩
theorem j_group : Judge "_law_is_group" group := ⟨⟨_, lk__law_is_group⟩, fun k d st h => c_law_is_group k d st h⟩
theorem c_law_some {j : Str} {f : D → Bool} (J : Judge j f) (a b : Int) (hb : b ≤ 100) (h : closed d = true) : callC (T.at (k + 3)) "_law_some" [] [d, .int a, .int b, .fn j] st = .ok (.bl (sized d a b && allOf d f)) st := by
  rw [call_pos lk__law_some rfl, run_at lk__law_some _ _ _ rfl]
  have e1 := ty_tup (st := st) (closed_data h)
  obtain ⟨dj, lj⟩ := J.lk
  cases d with
  | tup xs =>
    have hc := closed_tup h
    have e2 : ∀ (hl : xs.length ≤ 1000), _ := fun hl => judged (xs := xs) (C := T.at (k + 2)) (i := 4) (e := .callv 3 [] [.v 4]) (env := [some (.tup xs), some (.int a), some (.int b), some (.fn j), none]) (f := f) st (.inl rfl) hl fun d hd => by
      have := J.run k d st (hc d hd)
      rw [ev_callv (f := j) (d := dj) rfl lj]
      simp [wipeE, this]
    have hz : sized (.tup xs) a b = (decide (a ≤ (xs.length : Int)) && decide ((xs.length : Int) ≤ b)) := rfl
    rw [hz]
    cases ha : decide (a ≤ (xs.length : Int)) with
    | false => simp [d__law_some, e1, isTup, ha]
    | true =>
      cases hb2 : decide ((xs.length : Int) ≤ b) with
      | false => simp [d__law_some, e1, isTup, ha, hb2]
      | true =>
        have hb3 := of_decide_eq_true hb2
        have e3 := e2 (by omega)
        simp only [d__law_some, sts_cons, st_ret, ev_and, ev_isi, ev_chain, evs_cons, evs_nil, ev_v0, ev_v1, ev_v2, ev_c, bnd_oks, List.map_cons, List.map_nil, List.length_cons, List.length_nil, List.cons_append, List.nil_append, Nat.reduceAdd, Nat.reduceSub, List.replicate_succ, List.replicate_zero, e1, isTup, tr_bl, opt_some, if_true, ev_pr, pr_len, len_tup, cmp_le, ha, hb2, chainK_t, ev_comp, it_tup, e3, compEnd, newL_f, pr_all, bools_map, all_map, toR_ok, seq_rt, end_rt, Bool.true_and]
        rfl
  | _ => simp [d__law_some, e1, isTup, sized]
end L10
namespace L10
open PySem Ev
theorem draws : DrawOk T "_law_draw" := fun k n m st P h0 h1 => draw_ok (A := 40692) (B := 9011) (M := 2147483563) (M2 := 2147483549) (Q := 19) lk__law_draw (by decide) (by decide) (by decide) (by decide) k n m st P h0 h1
theorem c_draw (k n : Nat) (m : Int) (st : Sto) (P : Pot n st) (h0 : 0 < m) (h1 : m < 1073741824) : ∃ (d : Int) (st' : Sto), callC (T.at (k + 1)) "_law_draw" [] [.loc n, .int m] st = .ok (.int d) st' ∧ 0 ≤ d ∧ d < m ∧ Pot n st' ∧ Same n st st' := by
  rw [call_pos lk__law_draw rfl]
  exact draws k n m st P h0 h1
theorem c_pick (k n : Nat) (xs : List D) (st : Sto) (P : Pot n st) (h0 : xs ≠ []) (h1 : xs.length < 1000000) : ∃ (d : D) (st' : Sto), callC (T.at (k + 2)) "_law_pick" [] [.loc n, .lst xs] st = .ok d st' ∧ d ∈ xs ∧ Pot n st' ∧ Same n st st' := by
  rw [call_pos lk__law_pick rfl]
  exact pick_ok (x := "_law_draw") lk__law_pick lk__law_draw rfl draws k n xs st P h0 h1
theorem c_put (k : Nat) (xs : List D) (i : Int) (d : D) (st : Sto) (h0 : 0 ≤ i) (h1 : i < xs.length) (h2 : xs.length ≤ 1000) : callC (T.at (k + 1)) "_law_put" [] [.tup xs, .int i, d] st = .ok (.tup (xs.set i.toNat d)) st := by
  rw [call_pos lk__law_put rfl]
  exact put_ok lk__law_put k xs i d st h0 h1 h2
theorem isI_eq (d : D) : isI d = (isInt d && !isBl d) := by cases d <;> rfl
/-- the three answers -/
theorem three (d : D) : ∃ x, ∀ st, reprD st (.lst [.bl (isI d), .bl (cnt d), .bl (within d 2 24)]) = some (.str x) := bools_repr [isI d, cnt d, within d 2 24] (by simp)
theorem r_numbers (k n : Nat) (st : Sto) (P : Pot n st) : ∃ v st', (T.at (k + 4)).run "_law_numbers_right" [.loc n] st = .ok v st' ∧ (v = .bl true ∧ Pot n st' ∧ Grow n st st') := by
  refine wp_run (P := fun v s => v = .bl true ∧ Pot n s ∧ Grow n st s) [some (.loc n), none, none, none, none, none] lk__law_numbers_right rfl rfl ?_
  obtain ⟨d, st1, e1, d0, d1, P1, S1⟩ := c_draw (k + 2) n 30 st P (by omega) (by omega)
  refine wp_cons (wp_asg (d := .int d) (st' := st1) (by simp [e1]) ?_)
  have sm : small 19 = true := by decide +kernel
  have sm1 : small 1 = true := by decide +kernel
  have sm0 : small 0 = true := by decide +kernel
  obtain ⟨xs, hx⟩ : ∃ xs : List D, xs = [.int d, .int (0 - d - 1), .int 0, .int 1, .int 2, .int 24, .int 25, .int (10 ^ 29), .int (0 - 10 ^ 29), .bl true, .bl false, .non, .str "2", .str "", .lst [.int 2], .tup [.int 2], .dct [] [], .dct [.inl 2] [.int 2], .tup []] := ⟨_, rfl⟩
  have hc : ∀ d ∈ xs, closed d = true := by
    rw [hx]
    intro d hd
    simp only [List.mem_cons, List.not_mem_nil, or_false] at hd
    rcases hd with rfl | rfl | rfl | rfl | rfl | rfl | rfl | rfl | rfl | rfl | rfl | rfl | rfl | rfl | rfl | rfl | rfl | rfl | rfl <;> rfl
  refine wp_cons (wp_asg (d := .loc st1.length) (st' := st1 ++ [.lst xs]) ?_ ?_)
  · rw [hx]
    simp [sm, sm1, sm0]
  have g0 : Grow n st (st1 ++ [.lst xs]) := S1.grow.trans grow_new
  have hne : st1.length ≠ n := fun z => absurd P1.lt (by omega)
  refine wp_cons (wp_for (xs := xs) (st1 := st1 ++ [.lst xs]) (ds := [.loc st1.length]) (J := atLoc st1.length) (fun i env s => (∃ x3 x4 x5, env = [some (.loc n), some (.int d), some (.loc st1.length), x3, x4, x5]) ∧ Pot n s ∧ Grow n st s ∧ s[st1.length]? = some (.lst xs)) (by simp) (it_loc at_new) (by rw [hx]; simp) (fun i env s h => atLoc_at h.2.2.2) ⟨⟨none, none, none, rfl⟩, P1.new, g0, at_new⟩ ?_ ?_)
  · rintro i v env s hv ⟨⟨x3, x4, x5, rfl⟩, Pi, Gi, hi⟩
    have cv := hc v (List.mem_of_getElem? hv)
    refine ⟨_, setT_n, ?_⟩
    have t1 := ty_int (st := s) (closed_data cv)
    have t2 := ty_bool (st := s) (closed_data cv)
    refine wp_cons (wp_asg (d := .bl (isI v)) (st' := s) ?_ ?_)
    · rw [isI_eq]
      simp [t1, t2, and_bl]
    obtain ⟨x, hxx⟩ := three v
    have sm3 : small 3 = true := by decide +kernel
    refine wp_cons (wp_asg (d := .loc s.length) (st' := s ++ [.lst [.bl (isI v), .bl (cnt v), .bl (within v 2 24)]]) ?_ ?_)
    · cases v <;> simp [isI, cnt, within, sm3, chain_bl]
    have q := repr_loc (at_new (a := s) (o := .lst [.bl (isI v), .bl (cnt v), .bl (within v 2 24)]))
    rw [hxx] at q
    obtain ⟨s2, hs2⟩ : ∃ s2, s2 = s ++ [.lst [.bl (isI v), .bl (cnt v), .bl (within v 2 24)]] := ⟨_, rfl⟩
    rw [← hs2] at q ⊢
    have a1 := c_is_integer (k + 2) v s2 cv
    have a2 := c_is_count (k + 1) v s2 cv
    have a3 := c_is_period k v s2 cv
    have b1 := v_is_integer (k + 2) v s2 cv
    have b2 := v_is_count (k + 1) v s2 cv
    have b3 := v_is_period k v s2 cv
    refine wp_cons (wp_no (st' := s2) (by simp [a1, a2, a3, sm3, hxx, q]) (wp_nil ?_))
    refine wp_cons (wp_no (st' := s2) (by simp [b1, b2, b3, sm3, hxx, q]) (wp_nil (wp_nil ?_)))
    rw [hs2]
    refine ⟨⟨_, _, _, rfl⟩, Pi.new, Gi.trans grow_new, ?_⟩
    rw [List.getElem?_append_left (List.getElem?_eq_some_iff.mp hi).1]
    exact hi
  · rintro env s ⟨⟨x3, x4, x5, rfl⟩, Pi, Gi, hi⟩
    exact wp_cons (wp_ret (by simp) ⟨rfl, Pi, Gi⟩)
end L10
namespace L10
open PySem Ev
theorem cut3a {a b c : D} : cutL [a, b, c] none (some 2) = [a, b] := rfl
theorem cut3b {a b c : D} : cutL [a, b, c] (some 1) none = [b, c] := rfl
theorem cut2a {a b : D} : cutL [a, b] none (some 1) = [a] := rfl
theorem sm : small 0 = true ∧ small 1 = true ∧ small 2 = true ∧ small 3 = true ∧ small 4 = true ∧ small 8 = true ∧ small 10 = true ∧ small 11 = true ∧ small 9 = true := by decide +kernel
theorem ai (i : Int) (h : -100 ≤ i ∧ i ≤ 100 := by omega) : At (.int i) := at_int ⟨by omega, by omega⟩
theorem s_part : At (.str "part") := at_str (by decide +kernel)
theorem s_Part : At (.str "Part") := at_str (by decide +kernel)
theorem s_3 : At (.str "3") := at_str (by decide +kernel)
theorem s_e : At (.str "") := at_str (by decide +kernel)
theorem r_parts (k n : Nat) (st : Sto) (P : Pot n st) : ∃ v st', (T.at (k + 2)).run "_law_parts_some" [.loc n] st = .ok v st' ∧
    ((∃ (a b : Int) (vs : List D), v = .tup [.tup [.str "part", .int a, .int b], .lst vs] ∧ 1 ≤ a ∧ a ≤ b ∧ b ≤ 9 ∧ (∀ x ∈ vs, Val x) ∧ vs.length = 40) ∧ Pot n st' ∧ Grow n st st') := by
  obtain ⟨sm0, sm1, sm2, sm3, sm4, sm8, sm10, sm11, -⟩ := sm
  refine wp_run (P := fun v s => (∃ (a b : Int) (vs : List D), v = .tup [.tup [.str "part", .int a, .int b], .lst vs] ∧ 1 ≤ a ∧ a ≤ b ∧ b ≤ 9 ∧ (∀ x ∈ vs, Val x) ∧ vs.length = 40) ∧ Pot n s ∧ Grow n st s) [some (.loc n), none, none, none, none, none] lk__law_parts_some rfl rfl ?_
  obtain ⟨d, st1, e1, d0, d1, P1, S1⟩ := c_draw k n 9 st P (by omega) (by omega)
  refine wp_cons (wp_asg (d := .int (1 + d)) (st' := st1) (by simp [e1]) ?_)
  obtain ⟨a, ha⟩ : ∃ a, a = 1 + d := ⟨_, rfl⟩
  rw [← ha]
  obtain ⟨g, st2, e2, g0, g1, P2, S2⟩ := c_draw k n (10 - a) st1 P1 (by omega) (by omega)
  obtain ⟨b, hb⟩ : ∃ b, b = a + g := ⟨_, rfl⟩
  refine wp_cons (wp_asg (d := .tup [.str "part", .int a, .int b]) (st' := st2) (by simp [e2, sm3, hb]) ?_)
  obtain ⟨odd, ho⟩ : ∃ odd : List D, odd = [.int 0, .int (-1), .int 9, .int 10, .int (a - 1), .int (a + 1), .bl true, .non, .str "3", .lst [.int 3], .tup [.int 3]] := ⟨_, rfl⟩
  refine wp_cons (wp_asg (d := .loc st2.length) (st' := st2 ++ [.lst odd]) (by rw [ho]; simp [sm11, sm1, negP]) ?_)
  obtain ⟨st3, h3⟩ : ∃ st3, st3 = st2 ++ [.lst odd] := ⟨_, rfl⟩
  have o3 : st3[st2.length]? = some (.lst odd) := by rw [h3]; exact at_new
  have G3 : Grow n st st3 := by rw [h3]; exact (S1.trans S2).grow.trans grow_new
  have P3 : Pot n st3 := by rw [h3]; exact P2.new
  have l3 : st.length ≤ st2.length := Nat.le_of_eq (S1.trans S2).len.symm
  have l4 : st3.length = st2.length + 1 := by rw [h3]; simp
  rw [← h3]
  obtain ⟨fl, hf⟩ : ∃ fl : List D, fl = [.tup [.str "part", .int a, .int b], .lst [.str "part", .int a, .int b], .tup [.str "part", .int a], .tup [.str "part", .int a, .int b, .int 1], .tup [.str "Part", .int a, .int b], .tup [.int 0, .int a, .int b], .tup [.lst [.str "part"], .int a, .int b], .tup [.int a, .int b], .str "part", .non] := ⟨_, rfl⟩
  refine wp_cons (wp_asg (d := .loc st3.length) (st' := st3 ++ [.lst fl]) (by rw [hf]; simp [cut3a, cut3b, sm10, sm1, sm2, sm3, sm4, isOmit]) ?_)
  have Va : At (.int a) := ai a
  have Vb : At (.int b) := ai b
  have hfl : ∀ x ∈ fl, Val x := by
    rw [hf]
    refine all_cons (val_tup (all_cons s_part.el (all_cons Va.el (all_cons Vb.el all_nil))) (by simp)) ?_
    refine all_cons (val_lst (all_cons s_part.el (all_cons Va.el (all_cons Vb.el all_nil))) (by simp)) ?_
    refine all_cons (val_tup (all_cons s_part.el (all_cons Va.el all_nil)) (by simp)) ?_
    refine all_cons (val_tup (all_cons s_part.el (all_cons Va.el (all_cons Vb.el (all_cons (ai 1).el all_nil)))) (by simp)) ?_
    refine all_cons (val_tup (all_cons s_Part.el (all_cons Va.el (all_cons Vb.el all_nil))) (by simp)) ?_
    refine all_cons (val_tup (all_cons (ai 0).el (all_cons Va.el (all_cons Vb.el all_nil))) (by simp)) ?_
    refine all_cons (val_tup (all_cons (el_lst (all_cons s_part all_nil) (by simp)) (all_cons Va.el (all_cons Vb.el all_nil))) (by simp)) ?_
    refine all_cons (val_tup (all_cons Va.el (all_cons Vb.el all_nil)) (by simp)) ?_
    exact all_cons s_part.val (all_cons at_non.val all_nil)
  have hodd : ∀ x ∈ odd, El x := by
    rw [ho]
    refine all_cons (ai 0).el (all_cons (ai (-1)).el (all_cons (ai 9).el (all_cons (ai 10).el (all_cons (ai (a - 1)).el (all_cons (ai (a + 1)).el (all_cons (at_bl true).el (all_cons at_non.el (all_cons s_3.el ?_))))))))
    exact all_cons (el_lst (all_cons (ai 3) all_nil) (by simp)) (all_cons (el_tup (all_cons (ai 3) all_nil) (by simp)) all_nil)
  refine wp_cons (wp_for (xs := odd) (st1 := st3 ++ [.lst fl]) (ds := [.loc st2.length]) (J := atLoc st2.length)
    (fun i env s => (∃ x5, env = [some (.loc n), some (.int a), some (.tup [.str "part", .int a, .int b]), some (.loc st2.length), some (.loc st3.length), x5]) ∧ Pot n s ∧ Grow n st s ∧ s[st2.length]? = some (.lst odd) ∧ ∃ fs, s[st3.length]? = some (.lst fs) ∧ (∀ x ∈ fs, Val x) ∧ fs.length = 10 + 2 * i)
    (by simp) (it_loc (new_off o3)) (by rw [ho]; simp) (fun i env s h => atLoc_at h.2.2.2.1) ⟨⟨none, rfl⟩, P3.new, G3.trans grow_new, new_off o3, fl, at_new, hfl, by rw [hf]; rfl⟩ ?_ ?_)
  · rintro i v env s hv ⟨⟨x5, rfl⟩, Pi, Gi, hi, fs, hfs, hV, hL⟩
    have hi2 : i < odd.length := (List.getElem?_eq_some_iff.mp hv).1
    have hi3 : i < 11 := by rw [ho] at hi2; simpa using hi2
    have Vv := hodd v (List.mem_of_getElem? hv)
    refine ⟨_, setT_n, ?_⟩
    have p1 := c_put k [.str "part", .int a, .int b] 1 v s (by omega) (by simp) (by simp)
    have p2 := c_put k [.str "part", .int a, .int b] 2 v s (by omega) (by simp) (by simp)
    have ls := isLst_loc hfs
    have ex := ext_loc (ys := [.tup [.str "part", v, .int b], .tup [.str "part", .int a, v]]) hfs (small_t (by simp; omega))
    refine wp_cons (wp_ex (d := .non) (st' := s.set st3.length (.lst (fs ++ [.tup [.str "part", v, .int b], .tup [.str "part", .int a, v]]))) (by simp [ls, p1, p2, sm2, ex]) (wp_nil ?_))
    refine ⟨⟨_, rfl⟩, Pi.set (by have := P3.lt; omega), Gi.set (by omega), set_off hi (by omega), _, set_at hfs, all_app hV (all_cons (val_tup (all_cons s_part.el (all_cons Vv (all_cons Vb.el all_nil))) (by simp)) (all_cons (val_tup (all_cons s_part.el (all_cons Va.el (all_cons Vv all_nil))) (by simp)) all_nil)), ?_⟩
    rw [List.length_append, hL]
    simp
    omega
  · rintro env s ⟨⟨x5, rfl⟩, Pi, Gi, hi, fs, hfs, hV, hL⟩
    have hlo : odd.length = 11 := by rw [ho]; rfl
    rw [hlo] at hL
    have ad := add_loc_lst (al := false) (ys := [.tup [.str "part", .int 9, .int 9], .tup [.str "part", .int 1, .int 1], .tup [.str "part", .int 1, .int 9], .tup [.str "part", .int 2, .int 1], .tup [], .dct [] [], .bl true, .int 0]) hfs (small_t (by simp; omega))
    refine wp_cons (wp_ret (st' := s) (d := .tup [.tup [.str "part", .int a, .int b], .lst (fs ++ [.tup [.str "part", .int 9, .int 9], .tup [.str "part", .int 1, .int 1], .tup [.str "part", .int 1, .int 9], .tup [.str "part", .int 2, .int 1], .tup [], .dct [] [], .bl true, .int 0])]) (by simp [sm0, sm3, sm8, sm2, ad]) ⟨⟨a, b, _, rfl, by omega, by omega, by omega, ?_, ?_⟩, Pi, Gi⟩)
    · refine all_app hV ?_
      refine all_cons (val_tup (all_cons s_part.el (all_cons (ai 9).el (all_cons (ai 9).el all_nil))) (by simp)) ?_
      refine all_cons (val_tup (all_cons s_part.el (all_cons (ai 1).el (all_cons (ai 1).el all_nil))) (by simp)) ?_
      refine all_cons (val_tup (all_cons s_part.el (all_cons (ai 1).el (all_cons (ai 9).el all_nil))) (by simp)) ?_
      refine all_cons (val_tup (all_cons s_part.el (all_cons (ai 2).el (all_cons (ai 1).el all_nil))) (by simp)) ?_
      exact all_cons (val_tup all_nil (by simp)) (all_cons val_dct0 (all_cons (at_bl true).val (all_cons (ai 0).val all_nil)))
    · rw [List.length_append, hL]
      rfl
end L10
namespace L10
open PySem Ev
/-- a list of these things, by value or a changing one that is no pot -/
def Vals (n : Nat) (st : Sto) (v : D) (xs : List D) : Prop := v = .lst xs ∨ ∃ j, j ≠ n ∧ v = .loc j ∧ st[j]? = some (.lst xs)
theorem Vals.mono {n : Nat} {a b : Sto} {v : D} {xs : List D} (h : Vals n a v xs) (g : Grow n a b) : Vals n b v xs := by
  rcases h with h | ⟨j, h1, h2, h3⟩
  · exact .inl h
  · exact .inr ⟨j, h1, h2, g.get h3 h1⟩
theorem c_pickV (k n : Nat) (v : D) (xs : List D) (st : Sto) (P : Pot n st) (hv : Vals n st v xs) (h0 : xs ≠ []) (h1 : xs.length < 1000000) : ∃ (d : D) (st' : Sto), callC (T.at (k + 2)) "_law_pick" [] [.loc n, v] st = .ok d st' ∧ d ∈ xs ∧ Pot n st' ∧ Same n st st' := by
  rcases hv with rfl | ⟨j, hj, rfl, hs⟩
  · exact c_pick k n xs st P h0 h1
  · have hl : 0 < xs.length := List.length_pos_iff.mpr h0
    obtain ⟨i, st', e, i0, i1, P', S'⟩ := c_draw k n xs.length st P (by omega) (by omega)
    obtain ⟨d, hd⟩ : ∃ d, xs[i.toNat]? = some d := ⟨_, List.getElem?_eq_getElem (by omega)⟩
    refine ⟨d, st', ?_, List.mem_of_getElem? hd, P', S'⟩
    rw [call_pos lk__law_pick rfl, run_at lk__law_pick _ _ _ rfl]
    have g : ixD (.loc j) (.int i) st' = some d := by
      rw [ix_loc ((S'.at_ j hj).trans hs), atI_lt i0 i1, hd]
    have l := len_loc hs
    simp [d__law_pick, l, e, g]
theorem r_groups (k n : Nat) (st : Sto) (P : Pot n st) : ∃ v st', (T.at (k + 3)).run "_law_groups_some" [.loc n] st = .ok v st' ∧
    ((∃ (a : Int) (b : D) (f : Nat) (vs : List D), v = .tup [.tup [.int a, b], .loc f] ∧ At (.int a) ∧ At b ∧ f ≠ n ∧ st'[f]? = some (.lst vs) ∧ (∀ x ∈ vs, Val x) ∧ vs.length = 28) ∧ Pot n st' ∧ Grow n st st') := by
  obtain ⟨sm0, sm1, sm2, sm3, sm4, sm8, sm10, sm11, sm9⟩ := sm
  refine wp_run (P := fun v s => (∃ (a : Int) (b : D) (f : Nat) (vs : List D), v = .tup [.tup [.int a, b], .loc f] ∧ At (.int a) ∧ At b ∧ f ≠ n ∧ s[f]? = some (.lst vs) ∧ (∀ x ∈ vs, Val x) ∧ vs.length = 28) ∧ Pot n s ∧ Grow n st s) [some (.loc n), none, none, none] lk__law_groups_some rfl rfl ?_
  obtain ⟨d, st1, e1, d0, d1, P1, S1⟩ := c_draw (k + 1) n 9 st P (by omega) (by omega)
  obtain ⟨g, st2, e2, g0, g1, P2, S2⟩ := c_draw (k + 1) n 16 st1 P1 (by omega) (by omega)
  obtain ⟨b, st3, e3, hb, P3, S3⟩ := c_pick k n [.non, .int (1 + g)] st2 P2 (by simp) (by simp)
  have Va : At (.int (1 + d)) := ai _
  have Vb : At b := by
    rcases List.mem_cons.mp hb with rfl | hb
    · exact at_non
    · rcases List.mem_cons.mp hb with rfl | hb
      · exact ai _
      · cases hb
  obtain ⟨a, ha⟩ : ∃ a, a = 1 + d := ⟨_, rfl⟩
  rw [← ha] at Va
  refine wp_cons (wp_asg (d := .tup [.int a, b]) (st' := st3) (by simp [e1, e2, e3, sm2, ha]) ?_)
  obtain ⟨fl, hf⟩ : ∃ fl : List D, fl = [.tup [.int a, b], .lst [.int a, b], .tup [.int a], .tup [.int a, b, .int 1], .non, .tup [], .dct [] [], .str "", .int 3, .tup [.tup [.int 1, .int 2]]] := ⟨_, rfl⟩
  refine wp_cons (wp_asg (d := .loc st3.length) (st' := st3 ++ [.lst fl]) (by rw [hf]; simp [cut2a, sm10, sm0, sm1, sm2, sm3, isOmit]) ?_)
  have hfl : ∀ x ∈ fl, Val x := by
    rw [hf]
    refine all_cons (val_tup (all_cons Va.el (all_cons Vb.el all_nil)) (by simp)) ?_
    refine all_cons (val_lst (all_cons Va.el (all_cons Vb.el all_nil)) (by simp)) ?_
    refine all_cons (val_tup (all_cons Va.el all_nil) (by simp)) ?_
    refine all_cons (val_tup (all_cons Va.el (all_cons Vb.el (all_cons (ai 1).el all_nil))) (by simp)) ?_
    refine all_cons at_non.val (all_cons (val_tup all_nil (by simp)) (all_cons val_dct0 (all_cons s_e.val (all_cons (ai 3).val (all_cons (val_tup (all_cons (el_tup (all_cons (ai 1) (all_cons (ai 2) all_nil)) (by simp)) all_nil) (by simp)) all_nil)))))
  have G3 : Grow n st st3 := ((S1.trans S2).trans S3).grow
  have l3 : st.length ≤ st3.length := G3.len
  have hne : st3.length ≠ n := by have := P3.lt; omega
  obtain ⟨o1, ho1⟩ : ∃ odd : List D, odd = [.int 0, .int (-1), .int 1, .int 9, .int 10, .bl true, .non, .str "3", .lst [.int 3]] := ⟨_, rfl⟩
  obtain ⟨o2, ho2⟩ : ∃ odd : List D, odd = [.int 0, .int (-1), .int 1, .int 16, .int 17, .bl true, .non, .str "3", .tup [.int 3]] := ⟨_, rfl⟩
  have hodd1 : ∀ x ∈ o1, El x := by
    rw [ho1]
    exact all_cons (ai 0).el (all_cons (ai (-1)).el (all_cons (ai 1).el (all_cons (ai 9).el (all_cons (ai 10).el (all_cons (at_bl true).el (all_cons at_non.el (all_cons s_3.el (all_cons (el_lst (all_cons (ai 3) all_nil) (by simp)) all_nil))))))))
  have hodd2 : ∀ x ∈ o2, El x := by
    rw [ho2]
    exact all_cons (ai 0).el (all_cons (ai (-1)).el (all_cons (ai 1).el (all_cons (ai 16).el (all_cons (ai 17).el (all_cons (at_bl true).el (all_cons at_non.el (all_cons s_3.el (all_cons (el_tup (all_cons (ai 3) all_nil) (by simp)) all_nil))))))))
  refine wp_cons (wp_for (xs := o1) (st1 := st3 ++ [.lst fl]) (ds := [.lst o1]) (J := fun i _ => some o1[i]?)
    (fun i env s => (∃ x3, env = [some (.loc n), some (.tup [.int a, b]), some (.loc st3.length), x3]) ∧ Pot n s ∧ Grow n st s ∧ ∃ fs, s[st3.length]? = some (.lst fs) ∧ (∀ x ∈ fs, Val x) ∧ fs.length = 10 + i)
    (by rw [ho1]; simp [sm9, sm1, negP]) it_lst (by rw [ho1]; simp) (fun i env s h => rfl) ⟨⟨none, rfl⟩, P3.new, G3.trans grow_new, fl, at_new, hfl, by rw [hf]; rfl⟩ ?_ ?_)
  · rintro i v env s hv ⟨⟨x3, rfl⟩, Pi, Gi, fs, hfs, hV, hL⟩
    have hi2 : i < o1.length := (List.getElem?_eq_some_iff.mp hv).1
    have hi3 : i < 9 := by rw [ho1] at hi2; simpa using hi2
    have Vv := hodd1 v (List.mem_of_getElem? hv)
    refine ⟨_, setT_n, ?_⟩
    have p1 := c_put (k + 1) [.int a, b] 0 v s (by omega) (by simp) (by simp)
    have ls := isLst_loc hfs
    have ex := app_loc (d := .tup [v, b]) hfs (by omega)
    refine wp_cons (wp_ex (d := .non) (st' := s.set st3.length (.lst (fs ++ [.tup [v, b]]))) (by simp [ls, p1, ex]) (wp_nil ?_))
    refine ⟨⟨_, rfl⟩, Pi.set hne, Gi.set l3, _, set_at hfs, all_app hV (all_cons (val_tup (all_cons Vv (all_cons Vb.el all_nil)) (by simp)) all_nil), ?_⟩
    rw [List.length_append, hL]
    rfl
  rintro env s ⟨⟨x3, rfl⟩, Pi, Gi, fs, hfs, hV, hL⟩
  have hlo : o1.length = 9 := by rw [ho1]; rfl
  rw [hlo] at hL
  refine wp_cons (wp_for (xs := o2) (st1 := s) (ds := [.lst o2]) (J := fun i _ => some o2[i]?)
    (fun i env s => (∃ x3, env = [some (.loc n), some (.tup [.int a, b]), some (.loc st3.length), x3]) ∧ Pot n s ∧ Grow n st s ∧ ∃ fs, s[st3.length]? = some (.lst fs) ∧ (∀ x ∈ fs, Val x) ∧ fs.length = 19 + i)
    (by rw [ho2]; simp [sm9, sm1, negP]) it_lst (by rw [ho2]; simp) (fun i env s h => rfl) ⟨⟨_, rfl⟩, Pi, Gi, fs, hfs, hV, hL⟩ ?_ ?_)
  · rintro i v env s hv ⟨⟨x3, rfl⟩, Pi, Gi, fs, hfs, hV, hL⟩
    have hi2 : i < o2.length := (List.getElem?_eq_some_iff.mp hv).1
    have hi3 : i < 9 := by rw [ho2] at hi2; simpa using hi2
    have Vv := hodd2 v (List.mem_of_getElem? hv)
    refine ⟨_, setT_n, ?_⟩
    have p1 := c_put (k + 1) [.int a, b] 1 v s (by omega) (by simp) (by simp)
    have ls := isLst_loc hfs
    have ex := app_loc (d := .tup [.int a, v]) hfs (by omega)
    refine wp_cons (wp_ex (d := .non) (st' := s.set st3.length (.lst (fs ++ [.tup [.int a, v]]))) (by simp [ls, p1, ex]) (wp_nil ?_))
    refine ⟨⟨_, rfl⟩, Pi.set hne, Gi.set l3, _, set_at hfs, all_app hV (all_cons (val_tup (all_cons Va.el (all_cons Vv all_nil)) (by simp)) all_nil), ?_⟩
    rw [List.length_append, hL]
    rfl
  rintro env s ⟨⟨x3, rfl⟩, Pi, Gi, fs, hfs, hV, hL⟩
  have hlo2 : o2.length = 9 := by rw [ho2]; rfl
  rw [hlo2] at hL
  exact wp_cons (wp_ret (st' := s) (d := .tup [.tup [.int a, b], .loc st3.length]) (by simp [sm2]) ⟨⟨a, b, _, fs, rfl, Va, Vb, hne, hfs, hV, hL⟩, Pi, Gi⟩)
end L10
namespace L10
open PySem Ev
/-- what is asked of a row, by name -/
structure Asked (x : Str) (l m : Int) (f : D → Bool) : Prop where
  lk : ∃ dx : Df, T.lookup x = some dx
  pos : ∀ (k : Nat) (d : D) (st : Sto), closed d = true → callC (T.at (k + 4)) x [] [d] st = .ok (.bl (sized d l m && allOf d f)) st
  kw : ∀ (k : Nat) (d : D) (st : Sto), closed d = true → callC (T.at (k + 4)) x ["value"] [d] st = .ok (.bl (sized d l m && allOf d f)) st
theorem a_parts : Asked "are_parts" 0 6 part := ⟨⟨_, lk_are_parts⟩, fun k d st h => by rw [call_pos lk_are_parts rfl, r_are_parts k d st h], fun k d st h => by rw [call_kw lk_are_parts (es := [d]) rfl, r_are_parts k d st h]⟩
theorem a_groups : Asked "are_groups" 1 4 group := ⟨⟨_, lk_are_groups⟩, fun k d st h => by rw [call_pos lk_are_groups rfl, r_are_groups k d st h], fun k d st h => by rw [call_kw lk_are_groups (es := [d]) rfl, r_are_groups k d st h]⟩
theorem callv6 {f : Str} {dj : Df} (lk : T.lookup f = some dj) {k : Nat} {ks : List Str} {es : List E} {x0 x1 x2 x3 x4 x5 : Option D} {r : Ev.Env} {st : Sto} :
    evE (T.at k) (.callv 6 ks es) (x0 :: x1 :: x2 :: x3 :: x4 :: x5 :: some (.fn f) :: r) st = (evEs (T.at k) es (x0 :: x1 :: x2 :: x3 :: x4 :: x5 :: some (.fn f) :: r) st).bnd fun ds st => callC (T.at k) f ks ds st := ev_callv rfl lk
theorem flat1 {d : D} : ∀ m : Nat, (List.replicate m [d]).flatten = List.replicate m d
  | 0 => rfl
  | m + 1 => by rw [List.replicate_succ, List.flatten_cons, flat1 m]; rfl
theorem closed_rep {d : D} {m : Nat} (h : closed d = true) : closed (.tup (List.replicate m d)) = true := by
  unfold closed
  exact closed_all fun x hx => by rw [(List.mem_replicate.mp hx).2]; exact h
theorem one_repr (b : Bool) : ∃ x, ∀ st, reprD st (.bl b) = some (.str x) := fn_repr (fn_bl b) (by omega) (by omega)
/-- a right thing -/
def Rt (d : D) : Prop := closed d = true ∧ Fn 4 6000 0 d
theorem rt_tup {xs : List D} (h : ∀ x ∈ xs, At x) (hl : xs.length ≤ 8) : Rt (.tup xs) := by
  refine ⟨by unfold closed; exact closed_all fun x hx => (h x hx).1, ?_⟩
  refine (fn_tup fun x hx => (h x hx).2).mono (by omega) ?_
  have : xs.length * (300 + 2) ≤ 8 * 302 := Nat.mul_le_mul_right _ hl
  omega
theorem r_rows {x j : Str} {l m : Int} {f : D → Bool} (A : Asked x l m f) (J : Judge j f) (hm : 1 ≤ m ∧ m ≤ 6) (k n : Nat) (R v : D) (xs : List D) (st : Sto) (P : Pot n st) (hR : Rt R) (hv : Vals n st v xs) (hx : ∀ y ∈ xs, Val y) (h0 : xs ≠ []) (h1 : xs.length < 1000) :
    ∃ w st', (T.at (k + 5)).run "_law_rows_right" [.loc n, R, v, .int l, .int m, .fn j, .fn x] st = .ok w st' ∧ (w = .bl true ∧ Pot n st' ∧ Grow n st st') := by
  obtain ⟨dx, lx⟩ := A.lk
  have cv := @callv6 x dx lx (k + 4)
  refine wp_run (P := fun v s => v = .bl true ∧ Pot n s ∧ Grow n st s) [some (.loc n), some R, some v, some (.int l), some (.int m), some (.fn j), some (.fn x), none, none, none, none, none, none, none] lk__law_rows_right rfl rfl ?_
  have sms : small 1 = true ∧ small 2 = true ∧ small 3 = true ∧ small 0 = true ∧ small 11 = true := by decide +kernel
  obtain ⟨sm1, sm2, sm3, sm0, sm11⟩ := sms
  -- the values
  obtain ⟨ys, st1, e1, hy, P1, G1⟩ : ∃ ys st1, compI (fun i _ => some (Ev.upTo 8)[i]?) (compT (.n 8) (wipeE [some (.loc n), some R, some v, some (.int l), some (.int m), some (.fn j), some (.fn x), none, none, none, none, none, none, none] [8]) (evTs (T.at (k + 4)) []) (evE (T.at (k + 4)) (.call "_law_pick" [] [.v 0, .v 2]))) turns 0 [] st = .ok ys st1 ∧ ((∀ y ∈ ys, Val y) ∧ ys.length = 8) ∧ Pot n st1 ∧ Grow n st st1 := by
    obtain ⟨ys, st1, e, hl, h1, h2, h3⟩ := comp_run (J := fun i _ => some (Ev.upTo 8)[i]?) (turn := compT (.n 8) (wipeE [some (.loc n), some R, some v, some (.int l), some (.int m), some (.fn j), some (.fn x), none, none, none, none, none, none, none] [8]) (evTs (T.at (k + 4)) []) (evE (T.at (k + 4)) (.call "_law_pick" [] [.v 0, .v 2]))) (xs := Ev.upTo 8) (I := fun i acc s => (∀ y ∈ acc, Val y) ∧ Pot n s ∧ Grow n st s) (fun _ _ _ _ => rfl) (by rw [upTo_len]; omega)
      (fun i d acc s hd _ h => by
        obtain ⟨a1, a2, a3⟩ := h
        obtain ⟨y, s', e, hy, P', S'⟩ := c_pickV (k + 2) n v xs s a2 (hv.mono a3) h0 (by omega)
        refine ⟨y, s', ?_, all_app a1 (all_cons (hx y hy) all_nil), P', a3.trans S'.grow⟩
        unfold compT
        simp [wipeE, e]) turns 0 [] st ⟨all_nil, P, Grow.refl _ _⟩ rfl (Nat.zero_le _) (by rw [upTo_len]; unfold turns; omega)
    rw [upTo_len] at hl
    exact ⟨ys, st1, e, ⟨h1, hl⟩, h2, h3⟩
  have i8 : itOf .rng1 [.int 8] st = some fun i _ => some (Ev.upTo 8)[i]? := it_rng (j := 8) (by omega)
  refine wp_cons (wp_for (xs := ys) (st1 := st1) (ds := [.lst ys]) (J := fun i _ => some ys[i]?)
    (fun i env s => (∃ x7 x8 x9 x10 x11 x12 x13, env = [some (.loc n), some R, some v, some (.int l), some (.int m), some (.fn j), some (.fn x), x7, x8, x9, x10, x11, x12, x13]) ∧ Pot n s ∧ Grow n st s)
    (by simp [ev_comp, i8, e1, compEnd]) it_lst (by omega) (fun i env s h => rfl) ⟨⟨none, none, none, none, none, none, none, rfl⟩, P1, G1⟩ ?_ ?_)
  · rintro i y env s hyv ⟨⟨x7, x8, x9, x10, x11, x12, x13, rfl⟩, Pi, Gi⟩
    have Vy := hy.1 y (List.mem_of_getElem? hyv)
    refine ⟨_, setT_n, ?_⟩
    obtain ⟨d, s1, d1, g0, g1, Q1, S1⟩ := c_draw (k + 3) n m s Pi (by omega) (by omega)
    obtain ⟨b, hb⟩ : ∃ b, b = 1 + d := ⟨_, rfl⟩
    refine wp_cons (wp_asg (d := .int b) (st' := s1) (by simp [d1, hb]) ?_)
    obtain ⟨g, s2, d2, k0, k1, Q2, S2⟩ := c_draw (k + 3) n b s1 Q1 (by omega) (by omega)
    obtain ⟨at_, s3, d3, hat, Q3, S3⟩ := c_pick (k + 2) n [.int 0, .int (b - 1), .int g] s2 Q2 (by simp) (by simp)
    obtain ⟨c, hc, c0, c1⟩ : ∃ c : Int, at_ = .int c ∧ 0 ≤ c ∧ c < b := by
      rcases List.mem_cons.mp hat with rfl | hat
      · exact ⟨0, rfl, by omega, by omega⟩
      · rcases List.mem_cons.mp hat with rfl | hat
        · exact ⟨b - 1, rfl, by omega, by omega⟩
        · rcases List.mem_cons.mp hat with rfl | hat
          · exact ⟨g, rfl, by omega, by omega⟩
          · cases hat
    subst hc
    refine wp_cons (wp_asg (d := .int c) (st' := s3) (by simp [d2, sm3, d3]) ?_)
    have lrep : ((List.replicate b.toNat R).length : Int) = b := by rw [List.length_replicate]; omega
    have p1 := c_put (k + 3) (List.replicate b.toNat R) c y s3 c0 (by rw [lrep]; exact c1) (by rw [List.length_replicate]; omega)
    have bnd : -1000 ≤ b ∧ b ≤ 1000 := ⟨by omega, by omega⟩
    obtain ⟨G, hG⟩ : ∃ G : D, G = .tup ((List.replicate b.toNat R).set c.toNat y) := ⟨_, rfl⟩
    rw [← hG] at p1
    refine wp_cons (wp_asg (d := G) (st' := s3) (by simp [sm1, bnd.1, bnd.2, flat1, p1]) ?_)
    have cG : closed G = true := by
      rw [hG]
      unfold closed
      exact closed_all (all_set (fun z hz => by rw [(List.mem_replicate.mp hz).2]; exact hR.1) Vy.1)
    obtain ⟨tx, htx⟩ : ∃ tx, ∀ st, reprD st G = some (.str tx) := by
      obtain ⟨_, cl, fy⟩ := Vy
      rw [hG]
      refine fn_repr (fn_tup (k := 4) (w := 6000) (c := cl) (all_set (fun z hz => by rw [(List.mem_replicate.mp hz).2]; exact hR.2.up cl) fy)) (by omega) ?_
      rw [List.length_set, List.length_replicate]
      omega
    obtain ⟨due, hdue⟩ : ∃ due : Bool, due = (sized G l m && allOf G f) := ⟨_, rfl⟩
    have q1 := c_law_some (k + 1) G s3 J l m (by omega) cG
    have q2 := A.pos k G s3 cG
    have q3 := A.kw k G s3 cG
    rw [← hdue] at q1 q2 q3
    obtain ⟨t2, ht2⟩ := bools_repr [due, due] (by simp)
    have ht3 : ∀ st, reprD st (.lst [.bl due, .bl due]) = some (.str t2) := ht2
    refine wp_cons (wp_par2 (p := .bl due) (q := .str tx) (s1 := s3) (s2 := s3) (by simp [q1]) (by simp [htx]) ?_)
    refine wp_cons (wp_no (st' := s3) (by simp [cv, q2, q3, sm2, ht3, htx]) (wp_nil (wp_nil ?_)))
    exact ⟨⟨_, _, _, _, _, _, _, rfl⟩, Q3, ((Gi.trans S1.grow).trans S2.grow).trans S3.grow⟩
  rintro env s ⟨⟨x7, x8, x9, x10, x11, x12, x13, rfl⟩, Pi, Gi⟩
  obtain ⟨zs, hz⟩ : ∃ zs : List D, zs = [.tup [], .tup [R], .tup (List.replicate m.toNat R), .tup (List.replicate (m + 1).toNat R), .lst [R], R, .non, .int 0, .dct [] [], .str "", .lst (List.replicate 2 R)] := ⟨_, rfl⟩
  have cz : ∀ z ∈ zs, closed z = true := by
    rw [hz]
    refine all_cons rfl (all_cons (closed_rep (m := 1) hR.1) (all_cons (closed_rep hR.1) (all_cons (closed_rep hR.1) (all_cons ?_ (all_cons hR.1 (all_cons rfl (all_cons rfl (all_cons rfl (all_cons rfl (all_cons ?_ all_nil))))))))))
    · unfold closed
      exact closed_all (all_cons hR.1 all_nil)
    · unfold closed
      exact closed_all (all_cons hR.1 (all_cons hR.1 all_nil))
  have m1 : -1000 ≤ m ∧ m ≤ 1000 := ⟨by omega, by omega⟩
  have m2 : -1000 ≤ m + 1 ∧ m + 1 ≤ 1000 := ⟨by omega, by omega⟩
  refine wp_cons (wp_for (xs := zs) (st1 := s) (ds := [.lst zs]) (J := fun i _ => some zs[i]?)
    (fun i env s => (∃ x7 x8 x9 x10 x11 x12 x13, env = [some (.loc n), some R, some v, some (.int l), some (.int m), some (.fn j), some (.fn x), x7, x8, x9, x10, x11, x12, x13]) ∧ Pot n s ∧ Grow n st s)
    (by rw [hz]; simp [sm0, sm1, sm11, m1.1, m1.2, m2.1, m2.2, flat1]) it_lst (by rw [hz]; simp) (fun i env s h => rfl) ⟨⟨_, _, _, _, _, _, _, rfl⟩, Pi, Gi⟩ ?_ ?_)
  · rintro i y env s hyv ⟨⟨x7, x8, x9, x10, x11, x12, x13, rfl⟩, Pi, Gi⟩
    have cy := cz y (List.mem_of_getElem? hyv)
    refine ⟨_, setT_n, ?_⟩
    obtain ⟨due, hdue⟩ : ∃ due : Bool, due = (sized y l m && allOf y f) := ⟨_, rfl⟩
    have q1 := c_law_some (k + 1) y s J l m (by omega) cy
    have q2 := A.pos k y s cy
    rw [← hdue] at q1 q2
    obtain ⟨t2, ht2⟩ := one_repr due
    refine wp_cons (wp_no (st' := s) (by simp [cv, q1, q2, ht2]) (wp_nil (wp_nil ?_)))
    exact ⟨⟨_, _, _, _, _, _, _, rfl⟩, Pi, Gi⟩
  · rintro env s ⟨⟨x7, x8, x9, x10, x11, x12, x13, rfl⟩, Pi, Gi⟩
    exact wp_cons (wp_ret (by simp) ⟨rfl, Pi, Gi⟩)
end L10
namespace L10
open PySem Ev
theorem c_parts (k n : Nat) (st : Sto) (P : Pot n st) : ∃ (a b : Int) (vs : List D) (st' : Sto), callC (T.at (k + 2)) "_law_parts_some" [] [.loc n] st = .ok (.tup [.tup [.str "part", .int a, .int b], .lst vs]) st' ∧ 1 ≤ a ∧ a ≤ b ∧ b ≤ 9 ∧ (∀ x ∈ vs, Val x) ∧ vs.length = 40 ∧ Pot n st' ∧ Grow n st st' := by
  obtain ⟨v, st', e, ⟨a, b, vs, rfl, h1, h2, h3, h4, h5⟩, P', G'⟩ := r_parts k n st P
  exact ⟨a, b, vs, st', by rw [call_pos lk__law_parts_some rfl]; exact e, h1, h2, h3, h4, h5, P', G'⟩
theorem c_groups (k n : Nat) (st : Sto) (P : Pot n st) : ∃ (a : Int) (b : D) (f : Nat) (vs : List D) (st' : Sto), callC (T.at (k + 3)) "_law_groups_some" [] [.loc n] st = .ok (.tup [.tup [.int a, b], .loc f]) st' ∧ At (.int a) ∧ At b ∧ f ≠ n ∧ st'[f]? = some (.lst vs) ∧ (∀ x ∈ vs, Val x) ∧ vs.length = 28 ∧ Pot n st' ∧ Grow n st st' := by
  obtain ⟨v, st', e, ⟨a, b, f, vs, rfl, h1, h2, h3, h4, h5, h6⟩, P', G'⟩ := r_groups k n st P
  exact ⟨a, b, f, vs, st', by rw [call_pos lk__law_groups_some rfl]; exact e, h1, h2, h3, h4, h5, h6, P', G'⟩
theorem c_rows {x j : Str} {l m : Int} {f : D → Bool} (A : Asked x l m f) (J : Judge j f) (hm : 1 ≤ m ∧ m ≤ 6) (k n : Nat) (R v : D) (xs : List D) (st : Sto) (P : Pot n st) (hR : Rt R) (hv : Vals n st v xs) (hx : ∀ y ∈ xs, Val y) (h0 : xs ≠ []) (h1 : xs.length < 1000) :
    ∃ st', callC (T.at (k + 5)) "_law_rows_right" [] [.loc n, R, v, .int l, .int m, .fn j, .fn x] st = .ok (.bl true) st' ∧ Pot n st' ∧ Grow n st st' := by
  obtain ⟨w, st', e, rfl, P', G'⟩ := r_rows A J hm k n R v xs st P hR hv hx h0 h1
  exact ⟨st', by rw [call_pos lk__law_rows_right rfl]; exact e, P', G'⟩
theorem c_numbers (k n : Nat) (st : Sto) (P : Pot n st) : ∃ st', callC (T.at (k + 4)) "_law_numbers_right" [] [.loc n] st = .ok (.bl true) st' ∧ Pot n st' ∧ Grow n st st' := by
  obtain ⟨w, st', e, rfl, P', G'⟩ := r_numbers k n st P
  exact ⟨st', by rw [call_pos lk__law_numbers_right rfl]; exact e, P', G'⟩
theorem r_right (k n : Nat) (st : Sto) (P : Pot n st) : ∃ v st', (T.at (k + 6)).run "_law_right" [.loc n] st = .ok v st' ∧ v = .bl true := by
  refine wp_run (P := fun v s => v = .bl true) [some (.loc n), none, none, none, none, none, none, none] lk__law_right rfl rfl ?_
  obtain ⟨a, b, vs, st1, e1, a1, a2, a3, hV, hL, P1, G1⟩ := c_parts (k + 3) n st P
  refine wp_cons (wp_pair (st' := st1) (p := .tup [.str "part", .int a, .int b]) (q := .lst vs) (by simp [e1]) ?_)
  obtain ⟨c, d, f, ws, st2, e2, c1, c2, hf, hws, hW, hK, P2, G2⟩ := c_groups (k + 2) n st1 P1
  refine wp_cons (wp_pair (st' := st2) (p := .tup [.int c, d]) (q := .loc f) (by simp [e2]) ?_)
  have ad := add_lst_loc (al := false) (xs := vs) hws (small_t (by omega))
  have sm2 : small 2 = true := by decide +kernel
  refine wp_cons (wp_for (xs := vs ++ ws) (st1 := st2) (ds := [.lst (vs ++ ws)]) (J := fun i _ => some (vs ++ ws)[i]?)
    (fun i env s => (∃ x5 x6 x7, env = [some (.loc n), some (.tup [.str "part", .int a, .int b]), some (.lst vs), some (.tup [.int c, d]), some (.loc f), x5, x6, x7]) ∧ Pot n s ∧ Grow n st2 s)
    (by simp [ad]) it_lst (by rw [List.length_append]; omega) (fun i env s h => rfl) ⟨⟨none, none, none, rfl⟩, P2, Grow.refl _ _⟩ ?_ ?_)
  · rintro i y env s hy ⟨⟨x5, x6, x7, rfl⟩, Pi, Gi⟩
    have Vy := all_app hV hW y (List.mem_of_getElem? hy)
    obtain ⟨tx, htx⟩ := Vy.repr
    obtain ⟨t2, ht2⟩ := bools_repr [part y, group y] (by simp)
    have ht3 : ∀ st, reprD st (.lst [.bl (part y), .bl (group y)]) = some (.str t2) := ht2
    refine ⟨_, setT_n, ?_⟩
    have p1 := c_law_is_part (k + 3) y s Vy.1
    have p2 := c_law_is_group (k + 3) y s Vy.1
    obtain ⟨s2, hs2⟩ : ∃ s2, s2 = s ++ [.lst [.bl (part y), .bl (group y)]] := ⟨_, rfl⟩
    refine wp_cons (wp_par2 (p := .loc s.length) (q := .str tx) (s1 := s2) (s2 := s2) (by simp [p1, p2, sm2, hs2]) (by simp [htx]) ?_)
    have q := repr_loc (at_new (a := s) (o := .lst [.bl (part y), .bl (group y)]))
    rw [← hs2, ht3] at q
    have q1 := c_is_part (k + 2) y s2 Vy.1
    have q2 := c_is_group (k + 2) y s2 Vy.1
    have q3 := v_is_part (k + 2) y s2 Vy.1
    have q4 := v_is_group (k + 2) y s2 Vy.1
    refine wp_cons (wp_no (st' := s2) (by simp [q1, q2, q3, q4, sm2, ht3, q]) (wp_nil ?_))
    refine wp_cons (wp_no (st' := s2) (by simp [htx]) (wp_nil (wp_nil ?_)))
    exact ⟨⟨_, _, _, rfl⟩, by rw [hs2]; exact Pi.new, by rw [hs2]; exact Gi.trans grow_new⟩
  rintro env s ⟨⟨x5, x6, x7, rfl⟩, Pi, Gi⟩
  have Ra : Rt (.tup [.str "part", .int a, .int b]) := rt_tup (all_cons s_part (all_cons (ai a) (all_cons (ai b) all_nil))) (by simp)
  have Rb : Rt (.tup [.int c, d]) := rt_tup (all_cons c1 (all_cons c2 all_nil)) (by simp)
  obtain ⟨s3, f1, P3, G3⟩ := c_rows a_parts j_part (by omega) k n _ (.lst vs) vs s Pi Ra (.inl rfl) hV (by rintro rfl; cases hL) (by omega)
  obtain ⟨s4, f2, P4, G4⟩ := c_numbers (k + 1) n s3 P3
  refine wp_cons (wp_no (st' := s4) (by simp [f1, f2]) (wp_nil ?_))
  have hv : Vals n s4 (.loc f) ws := Vals.mono (.inr ⟨f, hf, rfl, hws⟩) ((Gi.trans G3).trans G4)
  obtain ⟨s5, f3, P5, G5⟩ := c_rows a_groups j_group (by omega) k n _ (.loc f) ws s4 P4 Rb hv hW (by rintro rfl; cases hK) (by omega)
  exact wp_cons (wp_ret (st' := s5) (by simp [f3]) rfl)
theorem runs (ns : List Int) (_ : ns.length ≤ 63) : ∃ st, (T.at 8).run "law" [.ro ns] [] = .ok (.bl true) st :=
  law_ok (A := 1) (B := 3) lk_law lk__law_right lk__law_pot rfl rfl (by decide) (by decide) 7
    (fun ns i st hi => by
      obtain ⟨st', e, P, _, _⟩ := pot_ok (A := 1301) (B := 911) (M := 2147483549) (F := 40014) (G := 6101) (H := 307) (M2 := 2147483563) lk__law_pot (by decide) (by decide) 6 ns i st hi
      exact ⟨st', e, P⟩)
    (fun n st P => by
      obtain ⟨v, st', e, rfl⟩ := r_right 1 n st P
      exact ⟨st', e⟩) ns
end L10
open PySem PySem.W PyProof.Rows
set_option maxHeartbeats 0 in
theorem PySem.Challenge.cw_promisedhall_k10_any_values_as_numbers_p_holds : PySem.Challenge.rw_promisedhall_k10_any_values_as_numbers_p.Holds := by
  w_on; o_law; k_head; (case hw => w_witness2)
  k_fill
  refine Ev.walk_ev (l := PySem.Challenge.rw_promisedhall_k10_any_values_as_numbers_p) (n := 63) (k := 8) (y := "script") (consts := L10.consts) (pats := L10.pats) (T := L10.T) rfl (by decide) rfl ⟨rfl, by decide, by decide⟩ (fun w h Y => PySem.W.kIn_of Y) ?F (by decide +kernel) rfl L10.runs
  case F =>
    intro w mg h Y KX G
    refine' L10.okT KX G ?r0 ?r1 ?r2 ?r3 ?r4 ?r5 ?r6 ?r7 ?r8 ?r9 ?r10 ?r11 ?r12 ?r13 ?r14 ?r15 ?r16 ?r17 ?r18 ?r19 ?r20 ?r21 ?r22 ?r23 ?z0 ?z1 ?z2 ?z3 ?z4 ?z5 ?z6 ?z7 ?z8 ?z9 ?z10 ?z11 ?z12 ?z13 ?z14 ?z15 ?z16 ?z17 ?z18 ?z19 ?z20 ?z21 ?z22 ?c0
    case r0 =>
      refine' Ev.raw_mk ?a ?l ?c ?k
      (case a => k_is); (case l => k_is); (case c => k_is); (case k => k_is)
    case r1 =>
      refine' Ev.raw_mk ?a ?l ?c ?k
      (case a => k_is); (case l => k_is); (case c => k_is); (case k => k_is)
    case r2 =>
      refine' Ev.raw_mk ?a ?l ?c ?k
      (case a => k_is); (case l => k_is); (case c => k_is); (case k => k_is)
    case r3 =>
      refine' Ev.raw_mk ?a ?l ?c ?k
      (case a => k_is); (case l => k_is); (case c => k_is); (case k => k_is)
    case r4 =>
      refine' Ev.raw_mk ?a ?l ?c ?k
      (case a => k_is); (case l => k_is); (case c => k_is); (case k => k_is)
    case r5 =>
      refine' Ev.raw_mk ?a ?l ?c ?k
      (case a => k_is); (case l => k_is); (case c => k_is); (case k => k_is)
    case r6 =>
      refine' Ev.raw_mk ?a ?l ?c ?k
      (case a => k_is); (case l => k_is); (case c => k_is); (case k => k_is)
    case r7 =>
      refine' Ev.raw_mk ?a ?l ?c ?k
      (case a => k_is); (case l => k_is); (case c => k_is); (case k => k_is)
    case r8 =>
      refine' Ev.raw_mk ?a ?l ?c ?k
      (case a => k_is); (case l => k_is); (case c => k_is); (case k => k_is)
    case r9 =>
      refine' Ev.raw_mk ?a ?l ?c ?k
      (case a => k_is); (case l => k_is); (case c => k_is); (case k => k_is)
    case r10 =>
      refine' Ev.raw_mk ?a ?l ?c ?k
      (case a => k_is); (case l => k_is); (case c => k_is); (case k => k_is)
    case r11 =>
      refine' Ev.raw_mk ?a ?l ?c ?k
      (case a => k_is); (case l => k_is); (case c => k_is); (case k => k_is)
    case r12 =>
      refine' Ev.raw_mk ?a ?l ?c ?k
      (case a => k_is); (case l => k_is); (case c => k_is); (case k => k_is)
    case r13 =>
      refine' Ev.raw_mk ?a ?l ?c ?k
      (case a => k_is); (case l => k_is); (case c => k_is); (case k => k_is)
    case r14 =>
      refine' Ev.raw_mk ?a ?l ?c ?k
      (case a => k_is); (case l => k_is); (case c => k_is); (case k => k_is)
    case r15 =>
      refine' Ev.raw_mk ?a ?l ?c ?k
      (case a => k_is); (case l => k_is); (case c => k_is); (case k => k_is)
    case r16 =>
      refine' Ev.raw_mk ?a ?l ?c ?k
      (case a => k_is); (case l => k_is); (case c => k_is); (case k => k_is)
    case r17 =>
      refine' Ev.raw_mk ?a ?l ?c ?k
      (case a => k_is); (case l => k_is); (case c => k_is); (case k => k_is)
    case r18 =>
      refine' Ev.raw_mk ?a ?l ?c ?k
      (case a => k_is); (case l => k_is); (case c => k_is); (case k => k_is)
    case r19 =>
      refine' Ev.raw_mk ?a ?l ?c ?k
      (case a => k_is); (case l => k_is); (case c => k_is); (case k => k_is)
    case r20 =>
      refine' Ev.raw_mk ?a ?l ?c ?k
      (case a => k_is); (case l => k_is); (case c => k_is); (case k => k_is)
    case r21 =>
      refine' Ev.raw_mk ?a ?l ?c ?k
      (case a => k_is); (case l => k_is); (case c => k_is); (case k => k_is)
    case r22 =>
      refine' Ev.raw_mk ?a ?l ?c ?k
      (case a => k_is); (case l => k_is); (case c => k_is); (case k => k_is)
    case r23 =>
      refine' Ev.raw_mk ?a ?l ?c ?k
      (case a => k_is); (case l => k_is); (case c => k_is); (case k => k_is)
    (case z0 => k_is)
    (case z1 => k_is)
    (case z2 => k_is)
    (case z3 => k_is)
    (case z4 => k_is)
    (case z5 => k_is)
    (case z6 => k_is)
    (case z7 => k_is)
    (case z8 => k_is)
    (case z9 => k_is)
    (case z10 => k_is)
    (case z11 => k_is)
    (case z12 => k_is)
    (case z13 => k_is)
    (case z14 => k_is)
    (case z15 => k_is)
    (case z16 => k_is)
    (case z17 => k_is)
    (case z18 => k_is)
    (case z19 => k_is)
    (case z20 => k_is)
    (case z21 => k_is)
    (case z22 => k_is)
    (case c0 => k_is)
