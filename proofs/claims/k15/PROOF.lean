import PyProof.Rows.All
import Wide.All
import OpenK.AllK
import Wide.FinOn
import HandS.ForMost
import HandS.Flow
import HandS.TupAny
import HandS.TupMul
import HandS.IsInst
import HandS.Exc
import HandS.WordsExc
import HandS.Conv
import PyProof.Draws
import PyProof.EnumMake
import HandS.Zip0
import HandS.Zip
import HandS.Iter
import HandS.Ends
import PySem.Challenge.RW_promisedhall_k15_whole_what_one_part_cut
set_option Elab.async false
set_option linter.all false
set_option maxRecDepth 100000
set_option autoImplicit false
set_option maxHeartbeats 8000000
/-! A deterministic evaluator over trees of data. -/
namespace Ev
open PySem

/-- a value as data: lists and dicts by value never change, loc n is the n-th changing thing, ro the script -/
inductive D where
  | non | bl (b : Bool) | int (i : Int) | str (x : Str)
  | tup (xs : List D) | lst (xs : List D) | dct (ks : List L2.Key) (vs : List D) | ro (xs : List Int)
  | loc (n : Nat) | fn (x : Str)
instance : Inhabited D := ⟨.non⟩

inductive Ob where
  | lst (xs : List D) | dct (ks : List L2.Key) (vs : List D)
abbrev Sto := List Ob
abbrev Env := List (Option D)

inductive Out (α : Type) where
  | ok (a : α) (s : Sto) | ex (c : Str) (v : D) (s : Sto) | bad
def Out.bnd {α β : Type} (o : Out α) (f : α → Sto → Out β) : Out β := match o with
  | .ok a s => f a s
  | .ex c v s => .ex c v s
  | .bad => .bad
/-- what a value that may lack gives -/
def opt {α : Type} (o : Option α) (s : Sto) : Out α := match o with
  | some a => .ok a s
  | none => .bad

inductive BOp where
  | add | sub | mul | fdiv | mod | pow
inductive COp where
  | eq | ne | lt | le | gt | ge | isN | notN | isIn | notIn
inductive Prim where
  | len | abs | max2 | min2 | int1 | repr | divmod | sum | all | any | tuple | list | max1 | min1 | rg (l : Bool)
inductive Ty where
  | int | bool | str | tuple | list | dict
inductive IK where
  | seq | rng1 | rng2 | enum | zip2
inductive TN where
  | n (i : Nat) | t (ts : List TN)

inductive E where
  | c (d : D) | v (i : Nat) | g (x : Str)
  | bin (al : Bool) (o : BOp) (a b : E) | neg (a : E) | not (a : E) | and (a b : E) | or (a b : E) | ite (t a b : E)
  | cmp (o : COp) (a b : E) | chain (o p : COp) (a b c : E)
  | tup (es : List E) | lst (al : Bool) (es : List E) | dct (al : Bool) (ks : List L2.Key) (es : List E)
  | ix (a b : E) | sl (al : Bool) (a lo hi : E)
  | call (f : Str) (ks : List Str) (es : List E) | callv (i : Nat) (ks : List Str) (es : List E)
  | pr (al : Bool) (p : Prim) (es : List E) | isi (a : E) (t : Ty)
  | comp (al : Bool) (own : List Nat) (t : TN) (k : IK) (src ifs : List E) (elt : E)
  | app (a b : E) | ext (a b : E)
inductive Tg where
  | n (i : Nat) | t (ts : List Tg) | s (o i : E)
inductive S where
  | asg (t : Tg) (e : E) | par (is : List Nat) (es : List E) | ex (e : E) | iff (t : E) (a b : List S)
  | for_ (t : TN) (k : IK) (src : List E) (body : List S) | whl (t : E) (body : List S) | ret (e : Option E) | pass | brk | cont | dead

/-- the defs that may be called: their parameters, what they do -/
structure Cal where
  all : List Str
  par : Str → List Str
  run : Str → List D → Sto → Out D

/-! ### values -/
def items (st : Sto) : D → Option (List D)
  | .lst xs => some xs
  | .loc n => match st[n]? with
    | some (.lst xs) => some xs
    | _ => none
  | _ => none
def keyPy : L2.Key → PyData
  | .inl i => .int i
  | .inr x => .str x
def zipKv : List L2.Key → List PyData → List (PyData × PyData)
  | k :: ks, v :: vs => (keyPy k, v) :: zipKv ks vs
  | _, _ => []
/-- a value as plain data -/
def toPy (st : Sto) : Nat → D → Option PyData
  | _, .non => some .none
  | _, .bl b => some (.bool b)
  | _, .int i => some (.int i)
  | _, .str x => some (.str x)
  | n + 1, .tup xs => (xs.mapM (toPy st n)).map .tuple
  | n + 1, .lst xs => (xs.mapM (toPy st n)).map .list
  | n + 1, .dct ks vs => if ks.length = vs.length then (vs.mapM (toPy st n)).map fun ps => .dict (zipKv ks ps) else none
  | n + 1, .loc m => match st[m]? with
    | some (.lst xs) => (xs.mapM (toPy st n)).map .list
    | some (.dct ks vs) => if ks.length = vs.length then (vs.mapM (toPy st n)).map fun ps => .dict (zipKv ks ps) else none
    | none => none
  | _, _ => none
/-- a bound of a text's length -/
def widStr (x : Str) : Nat := if x.cps.toList.all (fun c => decide (c < 4294967296)) then 10 * x.length + 2 else 2000000
mutual
def wid : PyData → Nat
  | .none => 4
  | .bool _ => 5
  | .int i => i.natAbs.log2 + 3
  | .str x => widStr x
  | .list xs => widAll xs + 2
  | .tuple xs => widAll xs + 3
  | .dict kvs => widKv kvs + 2
def widAll : List PyData → Nat
  | [] => 0
  | x :: xs => wid x + 2 + widAll xs
def widKv : List (PyData × PyData) → Nat
  | [] => 0
  | (k, v) :: r => wid k + 2 + wid v + 2 + widKv r
end
mutual
def noLst : PyData → Bool
  | .list _ => false
  | .tuple xs => noLstAll xs
  | .dict kvs => noLstKv kvs
  | _ => true
def noLstAll : List PyData → Bool
  | [] => true
  | x :: xs => noLst x && noLstAll xs
def noLstKv : List (PyData × PyData) → Bool
  | [] => true
  | (k, v) :: r => noLst k && noLst v && noLstKv r
end
def deep : Nat := 12
def most : Nat := 1000000
def reprD (st : Sto) (d : D) : Option D := match toPy st deep d with
  | some p => if p.showable = true ∧ wid p ≤ most then some (.str p.shown) else none
  | none => none
def eqD (st : Sto) (a b : D) : Option Bool := match toPy st deep a, toPy st deep b with
  | some p, some q => if SeqAt.shaped p = true ∧ SeqAt.shaped q = true then some (PyData.eqv p q) else none
  | _, _ => none
def flatD : D → Bool
  | .non | .bl _ | .int _ | .str _ => true
  | _ => false
def eqF : D → D → Bool
  | .non, .non => true
  | .bl a, .bl b => a == b
  | .bl a, .int b => (if a then 1 else 0) == b
  | .int a, .bl b => a == (if b then 1 else 0)
  | .int a, .int b => a == b
  | .str a, .str b => a == b
  | _, _ => false
def truth (st : Sto) : D → Option Bool
  | .non => some false
  | .bl b => some b
  | .int i => some (i != 0)
  | .str x => if x.length ≤ most then some ((x.length : Int) != 0) else none
  | .tup xs => some !xs.isEmpty
  | .lst xs => some !xs.isEmpty
  | .ro xs => some !xs.isEmpty
  | .dct ks _ => some !ks.isEmpty
  | .loc n => match st[n]? with
    | some (.lst xs) => some !xs.isEmpty
    | some (.dct ks _) => some !ks.isEmpty
    | none => none
  | .fn _ => none
/-- a new list: by value, or as a changing thing -/
def newL (al : Bool) (xs : List D) (st : Sto) : Out D := if al then .ok (.loc st.length) (st ++ [.lst xs]) else .ok (.lst xs) st
def newDct (al : Bool) (ks : List L2.Key) (vs : List D) (st : Sto) : Out D := if al then .ok (.loc st.length) (st ++ [.dct ks vs]) else .ok (.dct ks vs) st
def small (n : Nat) : Bool := decide (n ≤ most)
def bind2 {α β γ : Type} (a : Option α) (b : Option β) (f : α → β → Option γ) : Option γ := a.bind fun x => b.bind fun y => f x y
def addD (al : Bool) (a b : D) (st : Sto) : Out D := match a, b with
  | .int i, .int j => .ok (.int (i + j)) st
  | .str x, .str y => if small (x.length + y.length) then .ok (.str (x ++ y)) st else .bad
  | .tup xs, .tup ys => if small (xs.length + ys.length) then .ok (.tup (xs ++ ys)) st else .bad
  | x, y => match items st x, items st y with
    | some xs, some ys => if small (xs.length + ys.length) then newL al (xs ++ ys) st else .bad
    | _, _ => .bad
def subD (a b : D) (st : Sto) : Out D := match a, b with
  | .int i, .int j => .ok (.int (i - j)) st
  | _, _ => .bad
def mulD (a b : D) (st : Sto) : Out D := match a, b with
  | .int i, .int j => if (-(2 ^ 64) < i ∧ i < 2 ^ 64) ∨ (-(2 ^ 64) < j ∧ j < 2 ^ 64) then .ok (.int (i * j)) st else .bad
  | .tup xs, .int k => if -1000 ≤ k ∧ k ≤ 1000 ∧ xs.length ≤ 1000 then .ok (.tup (List.replicate k.toNat xs).flatten) st else .bad
  | _, _ => .bad
def fdivD (a b : D) (st : Sto) : Out D := match a, b with
  | .int i, .int j => if 0 < j ∧ j < 1073741824 then .ok (.int (i / j)) st else .bad
  | _, _ => .bad
def modD (a b : D) (st : Sto) : Out D := match a, b with
  | .int i, .int j => if 0 < j then .ok (.int (i % j)) st else .bad
  | _, _ => .bad
def powD (a b : D) (st : Sto) : Out D := match a, b with
  | .int i, .int j => if 0 ≤ j ∧ j ≤ 1000000 ∧ i.natAbs < 2 ^ 64 then .ok (.int (i ^ j.toNat)) st else .bad
  | _, _ => .bad
def binD (al : Bool) (o : BOp) (a b : D) (st : Sto) : Out D := match o with
  | .add => addD al a b st
  | .sub => subD a b st
  | .mul => mulD a b st
  | .fdiv => fdivD a b st
  | .mod => modD a b st
  | .pow => powD a b st
def relD (f : Int → Int → Bool) (a b : D) (st : Sto) : Out D := match a, b with
  | .int i, .int j => .ok (.bl (f i j)) st
  | _, _ => .bad
def eqDD (neg : Bool) (a b : D) (st : Sto) : Out D := match a, b with
  | .int i, .int j => .ok (.bl (neg != decide (i = j))) st
  | .str i, .str j => .ok (.bl (neg != decide (i = j))) st
  | x, y => (opt (eqD st x y) st).bnd fun k st => .ok (.bl (neg != k)) st
def isNoneD (neg : Bool) (a b : D) (st : Sto) : Out D := match b with
  | .non => .ok (.bl (neg != (match a with | .non => true | _ => false))) st
  | _ => .bad
/-- where «in» may look -/
def among (st : Sto) : D → Option (List D)
  | .tup xs => some xs
  | d => items st d
def inD (neg : Bool) (a b : D) (st : Sto) : Out D := match among st b with
  | some ys => if flatD a && ys.all flatD then .ok (.bl (neg != (ys.any fun y => eqF y a))) st else .bad
  | none => .bad
def cmpD (o : COp) (a b : D) (st : Sto) : Out D := match o with
  | .lt => relD (fun i j => decide (i < j)) a b st
  | .le => relD (fun i j => decide (i ≤ j)) a b st
  | .gt => relD (fun i j => decide (j < i)) a b st
  | .ge => relD (fun i j => decide (j ≤ i)) a b st
  | .eq => eqDD false a b st
  | .ne => eqDD true a b st
  | .isN => isNoneD false a b st
  | .notN => isNoneD true a b st
  | .isIn => inD false a b st
  | .notIn => inD true a b st
def intsD : List D → Option (List Int)
  | [] => some []
  | .int i :: r => (intsD r).map (i :: ·)
  | _ :: _ => none
def boolsD : List D → Option (List Bool)
  | [] => some []
  | .bl b :: r => (boolsD r).map (b :: ·)
  | _ :: _ => none
/-- the items of a list, as it stands -/
def lsOf (st : Sto) : D → Option (List D)
  | .lst xs => some xs
  | .ro xs => some (xs.map D.int)
  | .loc n => match st[n]? with
    | some (.lst xs) => some xs
    | _ => none
  | _ => none
/-- .. or of a tuple -/
def seqOf (st : Sto) : D → Option (List D)
  | .tup xs => some xs
  | d => lsOf st d
def lenD (st : Sto) : D → Option Nat
  | .str x => if small x.length then some x.length else none
  | d => (seqOf st d).map List.length
def arg1 (f : D → Sto → Out D) (ds : List D) (st : Sto) : Out D := match ds with
  | [d] => f d st
  | _ => .bad
def arg2 (f : D → D → Sto → Out D) (ds : List D) (st : Sto) : Out D := match ds with
  | [d, e] => f d e st
  | _ => .bad
def lenP (d : D) (st : Sto) : Out D := (opt (lenD st d) st).bnd fun n st => .ok (.int n) st
def absP (d : D) (st : Sto) : Out D := match d with
  | .int i => .ok (.int (if i < 0 then -i else i)) st
  | _ => .bad
def maxP (d e : D) (st : Sto) : Out D := match d, e with
  | .int i, .int j => .ok (.int (if j > i then j else i)) st
  | _, _ => .bad
def minP (d e : D) (st : Sto) : Out D := match d, e with
  | .int i, .int j => .ok (.int (if j < i then j else i)) st
  | _, _ => .bad
def intP (d : D) (st : Sto) : Out D := match d with
  | .int i => .ok (.int i) st
  | .bl b => .ok (.int (if b then 1 else 0)) st
  | _ => .bad
def reprP (d : D) (st : Sto) : Out D := opt (reprD st d) st
def divmodP (d e : D) (st : Sto) : Out D := match d, e with
  | .int i, .int j => if 0 < j ∧ j < 1073741824 then .ok (.tup [.int (i / j), .int (i % j)]) st else .bad
  | _, _ => .bad
def sumP (d : D) (st : Sto) : Out D := (opt ((items st d).bind intsD) st).bnd fun ns st => .ok (.int ns.sum) st
def allP (d : D) (st : Sto) : Out D := (opt ((items st d).bind boolsD) st).bnd fun bs st => .ok (.bl (bs.all id)) st
def anyP (d : D) (st : Sto) : Out D := (opt ((items st d).bind boolsD) st).bnd fun bs st => .ok (.bl (bs.any id)) st
def tupleP (d : D) (st : Sto) : Out D := match d with
  | .tup xs => .ok (.tup xs) st
  | d => (opt (lsOf st d) st).bnd fun xs st => .ok (.tup xs) st
def listP (al : Bool) (d : D) (st : Sto) : Out D := (opt (seqOf st d) st).bnd fun xs st => newL al xs st
/-- the greatest, the least of a list of ints -/
def most1 (d : D) (st : Sto) : Out D := (opt ((items st d).bind intsD) st).bnd fun ns st => match ns with
  | [] => .bad
  | n :: r => .ok (.int (r.foldl max n)) st
def least1 (d : D) (st : Sto) : Out D := (opt ((items st d).bind intsD) st).bnd fun ns st => match ns with
  | [] => .bad
  | n :: r => .ok (.int (r.foldl min n)) st
/-- the ints a .. b - 1 -/
def rgD (a b : Int) : List D := (List.range (b - a).toNat).map fun i => D.int (a + (i : Nat))
def rgOk (a b : Int) : Bool := decide (-(2 ^ 62) ≤ a ∧ a < 2 ^ 62 ∧ -(2 ^ 62) ≤ b ∧ b < 2 ^ 62 ∧ b - a ≤ 1000000)
/-- tuple(range(..)), list(range(..)) -/
def rgE (al l : Bool) (a b : Int) (st : Sto) : Out D := if rgOk a b then (if l then newL al (rgD a b) st else .ok (.tup (rgD a b)) st) else .bad
def rgP (al l : Bool) (ds : List D) (st : Sto) : Out D := match ds with
  | [.int n] => rgE al l 0 n st
  | [.int a, .int b] => rgE al l a b st
  | _ => .bad
def prD (al : Bool) (p : Prim) : List D → Sto → Out D := match p with
  | .len => arg1 lenP
  | .abs => arg1 absP
  | .max2 => arg2 maxP
  | .min2 => arg2 minP
  | .int1 => arg1 intP
  | .repr => arg1 reprP
  | .divmod => arg2 divmodP
  | .sum => arg1 sumP
  | .all => arg1 allP
  | .any => arg1 anyP
  | .tuple => arg1 tupleP
  | .list => arg1 (listP al)
  | .max1 => arg1 most1
  | .min1 => arg1 least1
  | .rg l => rgP al l
def isTy : Ty → D → Sto → Option Bool
  | t, .non, _ => some false
  | t, .bl _, _ => some (match t with | .int => true | .bool => true | _ => false)
  | t, .int _, _ => some (match t with | .int => true | _ => false)
  | t, .str _, _ => some (match t with | .str => true | _ => false)
  | t, .tup _, _ => some (match t with | .tuple => true | _ => false)
  | t, .lst _, _ => some (match t with | .list => true | _ => false)
  | t, .dct _ _, _ => some (match t with | .dict => true | _ => false)
  | t, .loc n, st => match st[n]? with
    | some (.lst _) => some (match t with | .list => true | _ => false)
    | some (.dct _ _) => some (match t with | .dict => true | _ => false)
    | none => none
  | _, _, _ => none
def ixD (a b : D) (st : Sto) : Option D := match b with
  | .int i => match a with
    | .str z => if small z.length then (L2.atI z.cps.toList i).map fun c => .str ⟨#[c]⟩ else none
    | a => (seqOf st a).bind fun xs => L2.atI xs i
  | _ => none
def cutL {α : Type} (xs : List α) (lo hi : Option Int) : List α := (xs.drop (HT.sIx xs.length 0 lo)).take (HT.sIx xs.length xs.length hi - HT.sIx xs.length 0 lo)
def slD (al : Bool) (a : D) (lo hi : Option Int) (st : Sto) : Out D := match a with
  | .tup xs => .ok (.tup (cutL xs lo hi)) st
  | a => match lsOf st a with
    | some xs => newL al (cutL xs lo hi) st
    | none => .bad
def setAt (st : Sto) (n : Nat) (o : Ob) : Sto := st.set n o
/-- o[i] = v -/
def setItem (o i v : D) (st : Sto) : Option Sto := match o, i with
  | .loc n, .int k => match st[n]? with
    | some (.lst xs) => (L2.ixN xs.length k).map fun j => setAt st n (.lst (xs.set j v))
    | _ => none
  | _, _ => none

def negP (x : D) (st : Sto) : Out D := match x with
  | .int i => .ok (.int (-i)) st
  | _ => .bad
def partP (d : D) (st : Sto) : Out (Option Int) := match d with
  | .int i => .ok (some i) st
  | _ => .bad
/-- a slice's part: the constant None is a part left out -/
def isOmit : E → Bool
  | .c .non => true
  | _ => false
def partO (om : Bool) (r : Sto → Out D) (st : Sto) : Out (Option Int) := if om then .ok none st else (r st).bnd fun d st => partP d st
def isLst (x : D) (st : Sto) : Bool := match x with
  | .loc n => match st[n]? with
    | some (.lst _) => true
    | _ => false
  | _ => false
def appP (x y : D) (st : Sto) : Out D := match x with
  | .loc n => match st[n]? with
    | some (.lst xs) => if xs.length < most then .ok .non (setAt st n (.lst (xs ++ [y]))) else .bad
    | _ => .bad
  | _ => .bad
def extP (x y : D) (st : Sto) : Out D := match x with
  | .loc n => match st[n]?, items st y with
    | some (.lst xs), some ys => if small (xs.length + ys.length) then .ok .non (setAt st n (.lst (xs ++ ys))) else .bad
    | _, _ => .bad
  | _ => .bad

/-! ### walks -/
abbrev Itr := Nat → Sto → Option (Option D)
def atLoc (n : Nat) : Itr := fun i st => match st[n]? with
  | some (.lst xs) => some xs[i]?
  | _ => none
def itSeq (d : D) (st : Sto) : Option Itr := match d with
  | .tup xs => some fun i _ => some xs[i]?
  | .lst xs => some fun i _ => some xs[i]?
  | .ro xs => some fun i _ => some (xs[i]?.map D.int)
  | .loc n => if isLst (.loc n) st then some (atLoc n) else none
  | _ => none
def itRng (a b : Int) : Option Itr := if -(2 ^ 62) ≤ a ∧ a < 2 ^ 62 ∧ -(2 ^ 62) ≤ b ∧ b < 2 ^ 62 then some fun i _ => some (if i < (b - a).toNat then some (.int (a + i)) else none) else none
def isTupD : D → Bool
  | .tup _ => true
  | _ => false
/-- each thing with its number -/
def itEn (J : Itr) : Itr := fun i st => (J i st).map fun o => o.map fun x => .tup [.int (i : Nat), x]
/-- things of two walks -/
def itZip (J L : Itr) : Itr := fun i st => match J i st, L i st with
  | some (some x), some (some y) => some (some (.tup [x, y]))
  | some none, some _ => some none
  | some (some _), some none => some none
  | _, _ => none
def itOf (k : IK) (ds : List D) (st : Sto) : Option Itr := match k, ds with
  | .seq, [d] => itSeq d st
  | .enum, [d] => (itSeq d st).map itEn
  | .zip2, [d, e] => if isTupD d = isTupD e then (itSeq d st).bind fun J => (itSeq e st).map fun L => itZip J L else none
  | .rng1, [.int j] => itRng 0 j
  | .rng2, [.int a, .int b] => itRng a b
  | _, _ => none
mutual
def setT : TN → D → Env → Option Env
  | .n i, d, env => some (env.set i (some d))
  | .t ts, .tup xs, env => setTs ts xs env
  | _, _, _ => none
termination_by structural t => t
def setTs : List TN → List D → Env → Option Env
  | [], [], env => some env
  | t :: ts, x :: xs, env => (setT t x env).bind fun env => setTs ts xs env
  | _, _, _ => none
termination_by structural t => t
end
def wipeE (env : Env) : List Nat → Env
  | [] => env
  | v :: vs => (wipeE env vs).set v none
def turns : Nat := 2 ^ 40
/-- a comprehension's turns -/
def compI (J : Itr) (turn : D → Sto → Out (Option D)) : Nat → Nat → List D → Sto → Out (List D)
  | 0, _, _, _ => .bad
  | m + 1, i, acc, st => match J i st with
    | none => .bad
    | some none => .ok acc st
    | some (some d) => (turn d st).bnd fun o st => match o with
      | none => compI J turn m (i + 1) acc st
      | some y => if acc.length < most then compI J turn m (i + 1) (acc ++ [y]) st else .bad

/-- one turn: the element, if the tests let it -/
def compT (t : TN) (env : Env) (rt : Env → Sto → Out Bool) (re : Env → Sto → Out D) (d : D) (st : Sto) : Out (Option D) := match setT t d env with
  | none => .bad
  | some e2 => match rt e2 st with
    | .ok false st => .ok none st
    | .ok true st => (match re e2 st with
      | .ok y st => .ok (some y) st
      | _ => .bad)
    | _ => .bad
def compEnd (al : Bool) (o : Out (List D)) : Out D := match o with
  | .ok ds st => newL al ds st
  | _ => .bad

inductive R where
  | nx (e : Env) (s : Sto) | rt (d : D) (s : Sto) | bk (e : Env) (s : Sto) | ct (e : Env) (s : Sto) | ex (c : Str) (v : D) (e : Env) (s : Sto) | bad
def R.seq (r : R) (f : Env → Sto → R) : R := match r with
  | .nx e s => f e s
  | r => r
def Out.toR {α : Type} (o : Out α) (env : Env) (f : α → Sto → R) : R := match o with
  | .ok a s => f a s
  | .ex c v s => .ex c v env s
  | .bad => .bad
def forI (J : Itr) (body : D → Env → Sto → R) : Nat → Nat → Env → Sto → R
  | 0, _, _, _ => .bad
  | m + 1, i, env, st => match J i st with
    | none => .bad
    | some none => .nx env st
    | some (some d) => match body d env st with
      | .nx e s => forI J body m (i + 1) e s
      | .ct e s => forI J body m (i + 1) e s
      | .bk e s => .nx e s
      | r => r
def whileI (test : Env → Sto → Out Bool) (body : Env → Sto → R) : Nat → Env → Sto → R
  | 0, _, _ => .bad
  | m + 1, env, st => (test env st).toR env fun b st => if b then (match body env st with
      | .nx e s => whileI test body m e s
      | .ct e s => whileI test body m e s
      | .bk e s => .nx e s
      | r => r) else .nx env st

def permIx (ps ks : List Str) (n : Nat) : Option (List Nat) :=
  let np := n - ks.length
  ps.zipIdx.mapM fun (p, j) => if j < np then some j else (ks.idxOf? p).map fun q => np + q
/-- the arguments in the parameters' order -/
def permArgs {α : Type} (ps ks : List Str) (ds : List α) : Option (List α) :=
  if ks = [] then (if ds.length = ps.length then some ds else none) else if ds.length = ps.length then (permIx ps ks ds.length).bind fun ix => ix.mapM fun i => ds[i]? else none

def callC (C : Cal) (f : Str) (ks : List Str) (ds : List D) (st : Sto) : Out D := match permArgs (C.par f) ks ds with
  | some ds => C.run f ds st
  | none => .bad
section
variable (C : Cal)
mutual
def evE : E → Env → Sto → Out D
  | .c d, _, st => .ok d st
  | .v i, env, st => match env[i]? with
    | some (some d) => .ok d st
    | _ => .bad
  | .g x, _, st => .ok (.fn x) st
  | .bin al o a b, env, st => (evE a env st).bnd fun x st => (evE b env st).bnd fun y st => binD al o x y st
  | .neg a, env, st => (evE a env st).bnd fun x st => negP x st
  | .not a, env, st => (evE a env st).bnd fun x st => (opt (truth st x) st).bnd fun k st => .ok (.bl !k) st
  | .and a b, env, st => (evE a env st).bnd fun x st => (opt (truth st x) st).bnd fun k st => if k then evE b env st else .ok x st
  | .or a b, env, st => (evE a env st).bnd fun x st => (opt (truth st x) st).bnd fun k st => if k then .ok x st else evE b env st
  | .ite t a b, env, st => (evE t env st).bnd fun x st => (opt (truth st x) st).bnd fun k st => if k then evE a env st else evE b env st
  | .cmp o a b, env, st => (evE a env st).bnd fun x st => (evE b env st).bnd fun y st => cmpD o x y st
  | .chain o p a b c, env, st => (evE a env st).bnd fun x st => (evE b env st).bnd fun y st => (cmpD o x y st).bnd fun r st => match r with
    | .bl true => (evE c env st).bnd fun z st => cmpD p y z st
    | .bl false => .ok (.bl false) st
    | _ => .bad
  | .tup es, env, st => (evEs es env st).bnd fun ds st => if small ds.length then .ok (.tup ds) st else .bad
  | .lst al es, env, st => (evEs es env st).bnd fun ds st => if small ds.length then newL al ds st else .bad
  | .dct al ks es, env, st => (evEs es env st).bnd fun ds st => if ks.length = ds.length ∧ ks.Nodup ∧ ks.length ≤ 15 then newDct al ks ds st else .bad
  | .ix a b, env, st => (evE a env st).bnd fun x st => (evE b env st).bnd fun y st => opt (ixD x y st) st
  | .sl al a lo hi, env, st => (evE a env st).bnd fun x st => (partO (isOmit lo) (evE lo env) st).bnd fun l st => (partO (isOmit hi) (evE hi env) st).bnd fun h st => slD al x l h st
  | .call f ks es, env, st => (evEs es env st).bnd fun ds st => callC C f ks ds st
  | .callv i ks es, env, st => match env[i]? with
    | some (some (.fn f)) => if C.all.contains f then (evEs es env st).bnd fun ds st => callC C f ks ds st else .bad
    | _ => .bad
  | .pr al p es, env, st => (evEs es env st).bnd fun ds st => prD al p ds st
  | .isi a t, env, st => (evE a env st).bnd fun x st => (opt (isTy t x st) st).bnd fun k st => .ok (.bl k) st
  | .comp al own t k src ifs elt, env, st => (evEs src env st).bnd fun ds st => match itOf k ds st with
    | none => .bad
    | some J => compEnd al (compI J (compT t (wipeE env own) (fun e s => evTs ifs e s) fun e s => evE elt e s) turns 0 [] st)
  | .app a b, env, st => (evE a env st).bnd fun x st => if isLst x st then (evE b env st).bnd fun y st => appP x y st else .bad
  | .ext a b, env, st => (evE a env st).bnd fun x st => if isLst x st then (evE b env st).bnd fun y st => extP x y st else .bad
termination_by structural e => e
def evEs : List E → Env → Sto → Out (List D)
  | [], _, st => .ok [] st
  | e :: es, env, st => (evE e env st).bnd fun d st => (evEs es env st).bnd fun ds st => .ok (d :: ds) st
termination_by structural e => e
def evTs : List E → Env → Sto → Out Bool
  | [], _, st => .ok true st
  | e :: es, env, st => (evE e env st).bnd fun x st => (opt (truth st x) st).bnd fun k st => if k then evTs es env st else .ok false st
termination_by structural e => e
end
/-- where nothing may be raised -/
def noEx {α : Type} (o : Out α) : Out α := match o with
  | .ok a s => .ok a s
  | _ => .bad
mutual
def setG : Tg → D → Env → Sto → Out Env
  | .n i, d, env, st => .ok (env.set i (some d)) st
  | .t ts, .tup xs, env, st => setGs ts xs env st
  | .s o i, d, env, st => (noEx (evE C o env st)).bnd fun x st => (noEx (evE C i env st)).bnd fun y st => (opt (setItem x y d st) st).bnd fun st' _ => .ok env st'
  | _, _, _, _ => .bad
termination_by structural t => t
def setGs : List Tg → List D → Env → Sto → Out Env
  | [], [], env, st => .ok env st
  | t :: ts, x :: xs, env, st => (setG t x env st).bnd fun env st => setGs ts xs env st
  | _, _, _, _ => .bad
termination_by structural t => t
end
def test (t : E) (env : Env) (st : Sto) : Out Bool := (evE C t env st).bnd fun x st => opt (truth st x) st
def setMany : List Nat → List D → Env → Option Env
  | [], [], env => some env
  | i :: is, d :: ds, env => setMany is ds (env.set i (some d))
  | _, _, _ => none
mutual
def evS : S → Env → Sto → R
  | .asg t e, env, st => (evE C e env st).toR env fun d st => (noEx (setG C t d env st)).toR env fun env st => .nx env st
  | .par is es, env, st => (evEs C es env st).toR env fun ds st => match setMany is ds env with
    | some env => .nx env st
    | none => .bad
  | .ex e, env, st => (evE C e env st).toR env fun _ st => .nx env st
  | .iff t a b, env, st => (test C t env st).toR env fun k st => if k then evSs a env st else evSs b env st
  | .for_ t k src body, env, st => (evEs C src env st).toR env fun ds st => match itOf k ds st with
    | none => .bad
    | some J => forI J (fun d env st => match setT t d env with
      | none => .bad
      | some env => evSs body env st) turns 0 env st
  | .whl t body, env, st => whileI (test C t) (fun env st => evSs body env st) turns env st
  | .ret none, _, st => .rt .non st
  | .ret (some e), env, st => (evE C e env st).toR env fun d st => .rt d st
  | .pass, env, st => .nx env st
  | .brk, env, st => .bk env st
  | .cont, env, st => .ct env st
  | .dead, _, _ => .bad
termination_by structural t => t
def evSs : List S → Env → Sto → R
  | [], env, st => .nx env st
  | s :: ss, env, st => (evS s env st).seq fun env st => evSs ss env st
termination_by structural t => t
end
end

/-- a def of the text -/
structure Df where
  par : List Str
  names : Nat
  body : List S
/-- what a call of it gives -/
def Df.go (f : Df) (C : Cal) (ds : List D) (st : Sto) : Out D :=
  if ds.length = f.par.length then match evSs C f.body (ds.map some ++ List.replicate (f.names - ds.length) none) st with
    | .rt d st => .ok d st
    | .nx _ st => .ok .non st
    | .ex c v _ st => .ex c v st
    | _ => .bad
  else .bad
/-- the defs by name -/
abbrev Tx := List (Str × Df)
def Tx.par (T : Tx) (f : Str) : List Str := match T.lookup f with
  | some d => d.par
  | none => []
/-- calls at most k deep -/
def Tx.at (T : Tx) : Nat → Cal
  | 0 => ⟨T.map (·.1), T.par, fun _ _ _ => .bad⟩
  | k + 1 => ⟨T.map (·.1), T.par, fun f ds st => match T.lookup f with
    | some d => d.go (T.at k) ds st
    | none => .bad⟩
end Ev
/-! From the text's own trees to the evaluator's. -/
namespace Ev
open PySem

structure Zt where
  N : List Str
  sc : Scope
  stn : List Str
  defs : List Str
  consts : List (Str × D)
  pats : List (Nat × List Str) := []

def isLoc (k : Option NameKind) : Bool := match k with
  | some .local => true
  | some .cell => true
  | some .free => true
  | _ => false
def plainName (x : Str) : Bool := !(x == ("__debug__" : Str)) && !(x == ("__classdict__" : Str)) && !(x == ("__name__" : Str))
def Zt.slot (Z : Zt) (x : Str) : Option Nat := if isLoc (Z.sc.names.lookup x) && plainName x then Z.N.idxOf? x else none
def Zt.slotW (Z : Zt) (x : Str) : Option Nat := if Z.stn.contains x && plainName x then Z.N.idxOf? x else none
def isGl (k : Option NameKind) : Bool := match k with
  | some .globalImplicit => true
  | _ => false
def Zt.glob (Z : Zt) (x : Str) : Bool := isGl (Z.sc.names.lookup x) && plainName x
def biNames : List Str := ["len", "abs", "max", "min", "int", "repr", "divmod", "sum", "all", "any", "tuple", "list", "isinstance", "range", "bool", "str", "dict", "enumerate", "zip", "sorted", "reversed", "set", "type"]
def primOf (x : Str) (n : Nat) : Option Prim :=
  if x = "len" ∧ n = 1 then some .len else if x = "abs" ∧ n = 1 then some .abs else if x = "max" ∧ n = 2 then some .max2 else if x = "min" ∧ n = 2 then some .min2
  else if x = "int" ∧ n = 1 then some .int1 else if x = "repr" ∧ n = 1 then some .repr else if x = "divmod" ∧ n = 2 then some .divmod else if x = "sum" ∧ n = 1 then some .sum
  else if x = "all" ∧ n = 1 then some .all else if x = "any" ∧ n = 1 then some .any else if x = "tuple" ∧ n = 1 then some .tuple else if x = "list" ∧ n = 1 then some .list
  else if x = "max" ∧ n = 1 then some .max1 else if x = "min" ∧ n = 1 then some .min1 else none
/-- a lone range as the argument -/
def rgIn : List Expr → List Keyword → Option (List Expr)
  | [.Call (.Name y _) [a] [] _], [] => if y = "range" then some [a] else none
  | [.Call (.Name y _) [a, b] [] _], [] => if y = "range" then some [a, b] else none
  | _, _ => none
def rgPr (x : Str) : Option Prim := if x = "tuple" then some (.rg false) else if x = "list" then some (.rg true) else none
def tyOf (x : Str) : Option Ty :=
  if x = "int" then some .int else if x = "bool" then some .bool else if x = "str" then some .str else if x = "tuple" then some .tuple else if x = "list" then some .list else if x = "dict" then some .dict else none
def bopOf : Operator → Option BOp
  | .Add => some .add | .Sub => some .sub | .Mult => some .mul | .FloorDiv => some .fdiv | .Mod => some .mod | .Pow => some .pow
  | _ => none
def copOf : CmpOp → Option COp
  | .Eq => some .eq | .NotEq => some .ne | .Lt => some .lt | .LtE => some .le | .Gt => some .gt | .GtE => some .ge | .In => some .isIn | .NotIn => some .notIn
  | _ => none
def isNoneC : Expr → Bool
  | .Constant .none _ _ => true
  | _ => false
def notSet : Expr → Bool
  | .Set _ _ _ => false
  | _ => true
def plainIx : Expr → Bool
  | .Slice _ _ _ _ => false
  | _ => true
def plainObj : Expr → Bool
  | .Name _ _ => true
  | .Subscript _ _ _ => true
  | _ => false
def isTupT : Expr → Bool
  | .Tuple _ _ _ => true
  | _ => false
def ownOf (N : List Str) : List (Str × NameKind) → List (Str × Nat)
  | [] => []
  | (x, k) :: r => if k == .local || k == .cell then match N.idxOf? x with
    | some i => (x, i) :: ownOf N r
    | none => ownOf N r
    else ownOf N r
def keysOf : List (Option Expr) → Option (List L2.Key)
  | [] => some []
  | some (.Constant (.int i) _ _) :: r => (keysOf r).map (.inl i :: ·)
  | some (.Constant (.str x) _ _) :: r => (keysOf r).map (.inr x :: ·)
  | _ :: _ => none
mutual
def trTN (Z : Zt) : Nat → Expr → Option TN
  | _, .Name x _ => (Z.slotW x).map .n
  | n + 1, .Tuple ts _ _ => (trTNs Z n ts).map .t
  | _, _ => none
def trTNs (Z : Zt) : Nat → List Expr → Option (List TN)
  | _, [] => some []
  | n + 1, t :: ts => (trTN Z n t).bind fun a => (trTNs Z n ts).bind fun r => some (a :: r)
  | 0, _ :: _ => none
end
mutual
def trE (Z : Zt) : Nat → Bool → Expr → Option E
  | 0, _, _ => none
  | n + 1, al, e => match e with
    | .Constant .none _ _ => some (.c .non)
    | .Constant (.bool b) _ _ => some (.c (.bl b))
    | .Constant (.int i) _ _ => some (.c (.int i))
    | .Constant (.str x) _ _ => some (.c (.str x))
    | .Name x _ => match Z.slot x with
      | some i => some (.v i)
      | none => if Z.glob x then (if Z.defs.contains x then some (.g x) else (Z.consts.lookup x).map .c) else none
    | .BinOp a o b _ => (bopOf o).bind fun o => (trE Z n false a).bind fun a => (trE Z n false b).bind fun b => some (.bin al o a b)
    | .UnaryOp .USub a _ => (trE Z n false a).map .neg
    | .UnaryOp .Not a _ => (trE Z n false a).map .not
    | .BoolOp .And vs _ => trB Z n true vs
    | .BoolOp .Or vs _ => trB Z n false vs
    | .IfExp t a b _ => (trE Z n false t).bind fun t => (trE Z n al a).bind fun a => (trE Z n al b).bind fun b => some (.ite t a b)
    | .Compare a [.Is] [b] _ => if isNoneC b then (trE Z n false a).map fun a => .cmp .isN a (.c .non) else none
    | .Compare a [.IsNot] [b] _ => if isNoneC b then (trE Z n false a).map fun a => .cmp .notN a (.c .non) else none
    | .Compare a [o] [b] _ => if notSet b then (copOf o).bind fun o => (trE Z n false a).bind fun a => (trE Z n false b).bind fun b => some (.cmp o a b) else none
    | .Compare a [o, p] [b, c] _ => if notSet c then (copOf o).bind fun o => (copOf p).bind fun p => (trE Z n false a).bind fun a => (trE Z n false b).bind fun b => (trE Z n false c).bind fun c => some (.chain o p a b c) else none
    | .Tuple es _ _ => (trEs Z n es).map .tup
    | .List es _ => (trEs Z n es).map (.lst al)
    | .Dict ks es _ => (keysOf ks).bind fun ks => (trEs Z n es).bind fun es => if ks.length = es.length && decide (ks.length ≤ 15) then some (.dct al ks es) else none
    | .Subscript a (.Slice lo hi none _) _ => (trE Z n false a).bind fun a => (trO Z n lo).bind fun lo => (trO Z n hi).bind fun hi => some (.sl al a lo hi)
    | .Subscript a b _ => if plainIx b then (trE Z n false a).bind fun a => (trE Z n false b).bind fun b => some (.ix a b) else none
    | .ListComp elt gs sc _ => match gs with
      | [g] => if g.is_async = 0 ∧ L2.blkC Z.N Z.sc sc (ownOf Z.N sc.names) = true then
          (trTN { Z with sc := L2.relS sc Z.sc, stn := (ownOf Z.N sc.names).map (·.1) } n g.target).bind fun t => (trI Z n g.target g.iter).bind fun ks => (trEs { Z with sc := L2.relS sc Z.sc, stn := (ownOf Z.N sc.names).map (·.1) } n g.ifs).bind fun ifs =>
            if ifs.length ≤ 1 then (trE { Z with sc := L2.relS sc Z.sc, stn := (ownOf Z.N sc.names).map (·.1) } n false elt).bind fun elt => some (.comp al ((ownOf Z.N sc.names).map (·.2)) t ks.1 ks.2 ifs elt) else none
        else none
      | _ => none
    | .Call (.Name x _) args kws pos => if x = "isinstance" then (match args, kws with
        | [a, .Name t _], [] => if Z.glob x && Z.glob t then (tyOf t).bind fun t => (trE Z n false a).map fun a => .isi a t else none
        | _, _ => none)
      else match rgIn args kws with
      | some as => if Z.glob x && !Z.defs.contains x && Z.glob "range" && !Z.defs.contains "range" then (rgPr x).bind fun p => (trEs Z n as).map fun es => .pr al p es else none
      | none => match args, kws with
        | _ :: _, [] => (trEs Z n args).bind fun es =>
          match Z.slot x with
          | some i => some (.callv i [] es)
          | none => if Z.glob x then (if Z.defs.contains x then some (.call x [] es) else (primOf x es.length).map fun p => .pr al p es) else none
        | _, _ :: _ => (kws.mapM Keyword.arg).bind fun ks => (trEs Z n args).bind fun es => (trEs Z n (kws.map Keyword.value)).bind fun ws =>
          if Z.pats.contains (args.length, ks) then (match Z.slot x with
          | some i => some (.callv i ks (es ++ ws))
          | none => if Z.glob x && Z.defs.contains x then some (.call x ks (es ++ ws)) else none) else none
        | [], [] => if Z.glob x && Z.defs.contains x then some (.call x [] []) else none
    | .Call (.Attribute o m apos) [a] [] pos => if apos.endLine == pos.line && plainObj o then
        (if m = "append" then (trE Z n false o).bind fun o => (trE Z n false a).bind fun a => some (.app o a) else
        if m = "extend" then (trE Z n false o).bind fun o => (trE Z n false a).bind fun a => some (.ext o a) else none) else none
    | _ => none
def trB (Z : Zt) : Nat → Bool → List Expr → Option E
  | 0, _, _ => none
  | _, _, [] => none
  | n + 1, _, [a] => trE Z n false a
  | n + 1, k, a :: r => (trE Z n false a).bind fun a => (trB Z n k r).bind fun r => some (if k then .and a r else .or a r)
def trEs (Z : Zt) : Nat → List Expr → Option (List E)
  | _, [] => some []
  | 0, _ :: _ => none
  | n + 1, e :: es => (trE Z n false e).bind fun e => (trEs Z n es).bind fun es => some (e :: es)
def trO (Z : Zt) : Nat → Option Expr → Option E
  | _, none => some (.c .non)
  | 0, some _ => none
  | n + 1, some e => (trE Z n false e).bind fun m => match m with
    | .c .non => none
    | m => some m
def trI (Z : Zt) : Nat → Expr → Expr → Option (IK × List E)
  | 0, _, _ => none
  | n + 1, tg, e => match e with
    | .Call (.Name x _) [a] [] _ => if x = "range" && Z.glob x && !Z.defs.contains x then (trE Z n false a).map fun a => (.rng1, [a])
      else if x = "enumerate" && Z.glob x && !Z.defs.contains x && isTupT tg then (trE Z n false a).map fun a => (.enum, [a]) else (trE Z n false e).map fun e => (.seq, [e])
    | .Call (.Name x _) [a, b] [] _ => if x = "range" && Z.glob x && !Z.defs.contains x then (trE Z n false a).bind fun a => (trE Z n false b).map fun b => (.rng2, [a, b])
      else if x = "zip" && Z.glob x && !Z.defs.contains x && isTupT tg then (trE Z n false a).bind fun a => (trE Z n false b).map fun b => (.zip2, [a, b]) else (trE Z n false e).map fun e => (.seq, [e])
    | .Set _ _ _ => none
    | e => (trE Z n false e).map fun e => (.seq, [e])
end
def isComp : Expr → Bool
  | .ListComp .. => true
  | .SetComp .. => true
  | .DictComp .. => true
  | _ => false
def isTupE : Expr → Bool
  | .Tuple .. => true
  | .List .. => true
  | _ => false
mutual
def trG (Z : Zt) : Nat → Expr → Option Tg
  | _, .Name x _ => (Z.slotW x).map .n
  | n + 1, .Tuple ts _ _ => (trGs Z n ts).map .t
  | n + 1, .Subscript o i _ => if plainIx i then (trE Z n false o).bind fun o => (trE Z n false i).bind fun i => some (.s o i) else none
  | _, _ => none
def trGs (Z : Zt) : Nat → List Expr → Option (List Tg)
  | _, [] => some []
  | n + 1, t :: ts => (trG Z n t).bind fun a => (trGs Z n ts).bind fun r => some (a :: r)
  | 0, _ :: _ => none
end
/-- the names of a pair of targets, both plain locals -/
def parName (Z : Zt) : Expr → Option (Str × Nat)
  | .Name x _ => if Z.sc.names.lookup x = some .local then (Z.slotW x).map (x, ·) else none
  | _ => none
def compLine : Expr → Nat → Pos → Bool
  | .ListComp _ _ _ pos, line, py => py.line == pos.line
  | _, _, _ => false
def compFree (x : Str) : Expr → Bool
  | .ListComp _ _ sc _ => !(sc.names.any fun (n, k) => n == x && (k == .local || k == .cell))
  | _ => false
mutual
def trS (Z : Zt) : Nat → Stmt → Option S
  | 0, _ => none
  | n + 1, s => match s with
    | .Assign [.Tuple [.Name x p, .Name y q] _ _] (.Tuple [a, b] _ _) _ =>
      if Z.sc.names.lookup x = some .local ∧ Z.sc.names.lookup y = some .local then
      (parName Z (.Name x p)).bind fun (x, i) => (parName Z (.Name y q)).bind fun (y, j) =>
        if x != y && i != j && p.line == q.line && !([a, b].all (foldedForSure 8)) && !([a, b].all (constantsAlone 8)) then
          (trE Z n true a).bind fun a => (trE Z n true b).bind fun b => some (.par [i, j] [a, b])
        else none
      else (Z.slotW x).bind fun i => (Z.slotW y).bind fun j => (trE Z n true a).bind fun a => (trE Z n true b).bind fun b => some (.par [i, j] [a, b])
    | .Assign [.Name x p] e pos => if isComp e then
        (if Z.sc.names.lookup x = some .local && compLine e pos.line p && compFree x e then (trG Z n (.Name x p)).bind fun t => (trE Z n true e).bind fun e => some (.asg t e) else none)
      else (trG Z n (.Name x p)).bind fun t => (trE Z n true e).bind fun e => some (.asg t e)
    | .Assign [t] e _ => if isComp e || isTupE e then none else (trG Z n t).bind fun t => (trE Z n true e).bind fun e => some (.asg t e)
    | .Expr (.Constant (.str _) _ _) _ => some .pass
    | .Expr e _ => if isComp e then none else (trE Z n false e).map .ex
    | .If t a b _ => (trE Z n false t).bind fun t => (trSs Z n a).bind fun a => (trSs Z n b).bind fun b => some (.iff t a b)
    | .For t it body [] _ => (trTN Z n t).bind fun tn => (trI Z n t it).bind fun (k, src) => (trSs Z n body).bind fun body => some (.for_ tn k src body)
    | .While t body [] _ => (trE Z n false t).bind fun t => (trSs Z n body).bind fun body => some (.whl t body)
    | .Return none _ => some (.ret none)
    | .Return (some e) _ => (trE Z n true e).map fun e => .ret (some e)
    | .Pass _ => some .pass
    | .Break _ => some .brk
    | .Continue _ => some .cont
    | .Raise _ _ _ => some .dead
    | _ => none
def trSs (Z : Zt) : Nat → List Stmt → Option (List S)
  | _, [] => some []
  | 0, _ :: _ => none
  | n + 1, s :: ss => (trS Z n s).bind fun s => (trSs Z n ss).bind fun ss => some (s :: ss)
end
def fuel : Nat := 200
/-- a def's statement, with the names of its slots -/
def trDef (defs : List Str) (consts : List (Str × D)) (pats : List (Nat × List Str)) (N : List Str) (s : Stmt) : Option Df := match s with
  | .FunctionDef _ args body _ _ _ sc _ _ _ =>
    let stn := (sc.names.map (·.1)).filter fun y => sc.names.lookup y == some .local || sc.names.lookup y == some .cell
    (trSs { N := N, sc := sc, stn := stn, defs := defs, consts := consts, pats := pats } fuel body).map fun b => { par := args.args.map (·.arg), names := N.length, body := b }
  | _ => none
end Ev
/-! How the evaluator's data lie in the abstract heap. -/
namespace Ev
open PySem PySem.Spec PyProof.Rows L2

/-- a list that never changes: the script -/
def RoL (K : PySem.W.Frag) (H : Hp) (a : Addr) (xs : List V) : Prop :=
  (∃ o, H a = some (.frz o (.lst xs))) ∨
    ∃ (o : Obj) (its : Array Value) (n : Nat), K.lookup a = some o ∧ o.cls = .type "list" ∧ o.dict = none ∧ o.data = .seq its n ∧ its.size ≤ sizeLine ∧ Vals xs its.toList
theorem RoL.sq {K : PySem.W.Frag} {H : Hp} {a : Addr} {xs : List V} (h : RoL K H a xs) : SqL K H a xs := by
  rcases h with ⟨o, h⟩ | h
  · exact .inl (.inr ⟨o, h⟩)
  · exact .inr h
section
variable (K : PySem.W.Frag) (mg : Str → Option Value)
mutual
inductive RD (ρ π : List Addr) (H : Hp) : D → V → Prop
  | non : RD ρ π H .non .non
  | bl (b : Bool) : RD ρ π H (.bl b) (.bl b)
  | int (i : Int) : RD ρ π H (.int i) (.int i)
  | str (x : Str) : RD ρ π H (.str x) (.str x)
  | tup {a : Addr} {vs : List V} {xs : List D} (h : SqT K H a vs) (r : RDs ρ π H xs vs) : RD ρ π H (.tup xs) (.ref a)
  | lst {a : Addr} {vs : List V} {xs : List D} (h : H a = some (.lst vs)) (n : a ∉ ρ) (m : a ∉ π) (r : RDs ρ π H xs vs) : RD ρ π H (.lst xs) (.ref a)
  | dct {a : Addr} {kvs : List (Key × V)} {ks : List Key} {xs : List D} (h : H a = some (.dK kvs)) (n : a ∉ ρ) (m : a ∉ π) (e : kvs.map (·.1) = ks) (r : RDs ρ π H xs (kvs.map (·.2))) : RD ρ π H (.dct ks xs) (.ref a)
  | ro {a : Addr} {ns : List Int} (h : RoL K H a (ns.map V.int)) : RD ρ π H (.ro ns) (.ref a)
  | loc {a : Addr} {n : Nat} (h : ρ[n]? = some a) : RD ρ π H (.loc n) (.ref a)
  | fn {a : Addr} {x : Str} (h : mg x = some (.ref a)) : RD ρ π H (.fn x) (.ref a)
inductive RDs (ρ π : List Addr) (H : Hp) : List D → List V → Prop
  | nil : RDs ρ π H [] []
  | cons {d : D} {v : V} {ds : List D} {vs : List V} (h : RD ρ π H d v) (t : RDs ρ π H ds vs) : RDs ρ π H (d :: ds) (v :: vs)
end
end

/-- from one stage to a later one -/
structure Ext (ρ : List Addr) (H : Hp) (ρ' : List Addr) (H' : Hp) : Prop where
  pre : ∃ τ, ρ' = ρ ++ τ ∧ ∀ b ∈ τ, b ∉ ρ ∧ H b = none
  keep : ∀ b o, b ∉ ρ → H b = some o → H' b = some o
theorem Ext.refl (ρ : List Addr) (H : Hp) : Ext ρ H ρ H := ⟨⟨[], by simp, fun _ h => nomatch h⟩, fun _ _ _ h => h⟩
theorem Ext.out {ρ ρ' : List Addr} {H H' : Hp} (e : Ext ρ H ρ' H') {b : Addr} {o : HO} (n : b ∉ ρ) (h : H b = some o) : b ∉ ρ' := by
  obtain ⟨τ, rfl, p⟩ := e.pre
  intro hb
  rcases List.mem_append.mp hb with h1 | h1
  · exact n h1
  · rw [(p b h1).2] at h
    cases h
theorem Ext.trans {ρ ρ1 ρ2 : List Addr} {H H1 H2 : Hp} (e : Ext ρ H ρ1 H1) (f : Ext ρ1 H1 ρ2 H2) : Ext ρ H ρ2 H2 := by
  refine ⟨?_, fun b o n h => f.keep b o (e.out n h) (e.keep b o n h)⟩
  obtain ⟨τ, h1, p⟩ := e.pre
  obtain ⟨τ2, h2, q⟩ := f.pre
  refine ⟨τ ++ τ2, by rw [h2, h1, List.append_assoc], fun b hb => ?_⟩
  rcases List.mem_append.mp hb with hb | hb
  · exact p b hb
  · obtain ⟨n1, n2⟩ := q b hb
    have nr : b ∉ ρ := fun z => n1 (by rw [h1]; exact List.mem_append_left _ z)
    refine ⟨nr, ?_⟩
    cases hh : H b with
    | none => rfl
    | some o =>
      rw [e.keep b o nr hh] at n2
      cases n2
theorem Ext.get {ρ ρ' : List Addr} {H H' : Hp} (e : Ext ρ H ρ' H') {n : Nat} {a : Addr} (h : ρ[n]? = some a) : ρ'[n]? = some a := by
  obtain ⟨τ, rfl, _⟩ := e.pre
  rw [List.getElem?_append_left (List.getElem?_eq_some_iff.mp h).1]
  exact h

/-- what changes -/
def IsMut (o : Option HO) : Prop := (∃ xs, o = some (.lst xs)) ∨ ∃ kvs, o = some (.dK kvs)
def Muts (ρ : List Addr) (H : Hp) : Prop := ∀ a ∈ ρ, IsMut (H a)
theorem Muts.notTup {ρ : List Addr} {H : Hp} (m : Muts ρ H) {a : Addr} {xs : List V} (h : H a = some (.tup xs)) : a ∉ ρ := fun z => by
  rcases m a z with ⟨_, e⟩ | ⟨_, e⟩ <;> rw [h] at e <;> cases e
theorem Muts.notFrz {ρ : List Addr} {H : Hp} (m : Muts ρ H) {a : Addr} {o : Obj} {u : HO} (h : H a = some (.frz o u)) : a ∉ ρ := fun z => by
  rcases m a z with ⟨_, e⟩ | ⟨_, e⟩ <;> rw [h] at e <;> cases e
theorem Muts.notNone {ρ : List Addr} {H : Hp} (m : Muts ρ H) {a : Addr} (h : H a = none) : a ∉ ρ := fun z => by
  rcases m a z with ⟨_, e⟩ | ⟨_, e⟩ <;> rw [h] at e <;> cases e

section
variable {K : PySem.W.Frag} {mg : Str → Option Value} {ρ ρ' π : List Addr} {H H' : Hp}
theorem sqT_mono (x : Ext ρ H ρ' H') (m : Muts ρ H) {a : Addr} {vs : List V} (h : SqT K H a vs) : SqT K H' a vs := by
  rcases h with h | h
  · rcases h with h | ⟨o, h⟩
    · exact .inl (.inl (x.keep _ _ (m.notTup h) h))
    · exact .inl (.inr ⟨o, x.keep _ _ (m.notFrz h) h⟩)
  · exact .inr h
theorem sqL_mono (x : Ext ρ H ρ' H') {a : Addr} {vs : List V} (n : a ∉ ρ) (h : SqL K H a vs) : SqL K H' a vs := by
  rcases h with h | h
  · rcases h with h | ⟨o, h⟩
    · exact .inl (.inl (x.keep _ _ n h))
    · exact .inl (.inr ⟨o, x.keep _ _ n h⟩)
  · exact .inr h
/-- a new thing that the store does not hold -/
theorem Ext.new {p : Addr} {o : HO} (h : H p = none) : Ext ρ H ρ (upd H p o) := ⟨⟨[], by simp, fun _ z => nomatch z⟩, fun b u n e => by rw [upd_ne (ne_of_none e h)]; exact e⟩
theorem RoL.mono (x : Ext ρ H ρ' H') (m : Muts ρ H) {a : Addr} {vs : List V} (h : RoL K H a vs) : RoL K H' a vs := by
  rcases h with ⟨o, h⟩ | h
  · exact .inl ⟨o, x.keep _ _ (m.notFrz h) h⟩
  · exact .inr h
mutual
theorem RD.mono (x : Ext ρ H ρ' H') (m : Muts ρ H) : ∀ {d : D} {v : V}, RD K mg ρ π H d v → RD K mg ρ' π H' d v
  | _, _, .non => .non
  | _, _, .bl b => .bl b
  | _, _, .int i => .int i
  | _, _, .str z => .str z
  | _, _, .tup h r => .tup (sqT_mono x m h) (RDs.mono x m r)
  | _, _, .lst h n p r => .lst (x.keep _ _ n h) (x.out n h) p (RDs.mono x m r)
  | _, _, .dct h n p e r => .dct (x.keep _ _ n h) (x.out n h) p e (RDs.mono x m r)
  | _, _, .ro h => .ro (h.mono x m)
  | _, _, .loc h => .loc (x.get h)
  | _, _, .fn h => .fn h
theorem RDs.mono (x : Ext ρ H ρ' H') (m : Muts ρ H) : ∀ {ds : List D} {vs : List V}, RDs K mg ρ π H ds vs → RDs K mg ρ' π H' ds vs
  | _, _, .nil => .nil
  | _, _, .cons h t => .cons (RD.mono x m h) (RDs.mono x m t)
end
theorem RDs.length : ∀ {ds : List D} {vs : List V}, RDs K mg ρ π H ds vs → ds.length = vs.length
  | _, _, .nil => rfl
  | _, _, .cons _ t => by rw [List.length_cons, List.length_cons, RDs.length t]
theorem RDs.get : ∀ {ds : List D} {vs : List V} {i : Nat} {d : D}, RDs K mg ρ π H ds vs → ds[i]? = some d → ∃ v, vs[i]? = some v ∧ RD K mg ρ π H d v
  | _, _, _, _, .nil, e => by simp at e
  | _, _, 0, _, .cons h _, e => ⟨_, rfl, by simp at e; rw [← e]; exact h⟩
  | _, _, i + 1, _, .cons _ t, e => RDs.get (i := i) t (by simpa using e)
theorem RDs.getV : ∀ {ds : List D} {vs : List V} {i : Nat} {v : V}, RDs K mg ρ π H ds vs → vs[i]? = some v → ∃ d, ds[i]? = some d ∧ RD K mg ρ π H d v
  | _, _, _, _, .nil, e => by simp at e
  | _, _, 0, _, .cons h _, e => ⟨_, rfl, by simp at e; rw [← e]; exact h⟩
  | _, _, i + 1, _, .cons _ t, e => RDs.getV (i := i) t (by simpa using e)
theorem RDs.append : ∀ {ds es : List D} {vs ws : List V}, RDs K mg ρ π H ds vs → RDs K mg ρ π H es ws → RDs K mg ρ π H (ds ++ es) (vs ++ ws)
  | _, _, _, _, .nil, s => s
  | _, _, _, _, .cons h t, s => .cons h (RDs.append t s)
theorem RDs.take (n : Nat) : ∀ {ds : List D} {vs : List V}, RDs K mg ρ π H ds vs → RDs K mg ρ π H (ds.take n) (vs.take n) := by
  induction n with
  | zero => intro ds vs _; simpa using RDs.nil
  | succ n ih =>
    intro ds vs h
    cases h with
    | nil => exact .nil
    | cons h t => exact .cons h (ih t)
theorem RDs.drop (n : Nat) : ∀ {ds : List D} {vs : List V}, RDs K mg ρ π H ds vs → RDs K mg ρ π H (ds.drop n) (vs.drop n) := by
  induction n with
  | zero => intro ds vs h; exact h
  | succ n ih =>
    intro ds vs h
    cases h with
    | nil => exact .nil
    | cons h t => exact ih t
theorem RDs.set (i : Nat) {d : D} {v : V} (h : RD K mg ρ π H d v) : ∀ {ds : List D} {vs : List V}, RDs K mg ρ π H ds vs → RDs K mg ρ π H (ds.set i d) (vs.set i v) := by
  induction i with
  | zero =>
    intro ds vs t
    cases t with
    | nil => exact .nil
    | cons _ t => exact .cons h t
  | succ n ih =>
    intro ds vs t
    cases t with
    | nil => exact .nil
    | cons k t => exact .cons k (ih t)
theorem RDs.rep {ds : List D} {vs : List V} (h : RDs K mg ρ π H ds vs) : ∀ k : Nat, RDs K mg ρ π H (List.replicate k ds).flatten (List.replicate k vs).flatten
  | 0 => .nil
  | k + 1 => by
    rw [List.replicate_succ, List.replicate_succ, List.flatten_cons, List.flatten_cons]
    exact RDs.append h (RDs.rep h k)
theorem RDs.ints : ∀ ns : List Int, RDs K mg ρ π H (ns.map D.int) (ns.map V.int)
  | [] => .nil
  | n :: r => .cons (.int n) (RDs.ints r)

/-- an object of the store -/
inductive ObR (K : PySem.W.Frag) (mg : Str → Option Value) (ρ π : List Addr) (H : Hp) : Ob → Addr → Prop
  | lst {a : Addr} {vs : List V} {xs : List D} (h : H a = some (.lst vs)) (r : RDs K mg ρ π H xs vs) : ObR K mg ρ π H (.lst xs) a
  | dct {a : Addr} {kvs : List (Key × V)} {ks : List Key} {xs : List D} (h : H a = some (.dK kvs)) (e : kvs.map (·.1) = ks) (r : RDs K mg ρ π H xs (kvs.map (·.2))) : ObR K mg ρ π H (.dct ks xs) a
structure SR (K : PySem.W.Frag) (mg : Str → Option Value) (ρ π : List Addr) (H : Hp) (st : Sto) : Prop where
  len : ρ.length = st.length
  nd : ρ.Nodup
  ob : ∀ (n : Nat) (a : Addr) (o : Ob), ρ[n]? = some a → st[n]? = some o → ObR K mg ρ π H o a
  pi : ∀ b ∈ π, b ∉ ρ ∧ H b ≠ none
theorem SR.muts {st : Sto} (s : SR K mg ρ π H st) : Muts ρ H := fun a ha => by
  obtain ⟨n, hn, e⟩ := List.mem_iff_getElem.mp ha
  have h1 : ρ[n]? = some a := by rw [List.getElem?_eq_getElem hn, e]
  have hl : n < st.length := by rw [← s.len]; exact hn
  obtain ⟨o, ho⟩ : ∃ o, st[n]? = some o := ⟨_, List.getElem?_eq_getElem hl⟩
  cases s.ob n a o h1 ho with
  | lst h _ => exact .inl ⟨_, h⟩
  | dct h _ _ => exact .inr ⟨_, h⟩
theorem SR.at {st : Sto} (s : SR K mg ρ π H st) {n : Nat} {a : Addr} {o : Ob} (h : ρ[n]? = some a) (e : st[n]? = some o) : ObR K mg ρ π H o a := s.ob n a o h e
theorem SR.atL {st : Sto} (s : SR K mg ρ π H st) {n : Nat} {a : Addr} {xs : List D} (h : ρ[n]? = some a) (e : st[n]? = some (.lst xs)) : ∃ vs, H a = some (.lst vs) ∧ RDs K mg ρ π H xs vs := by
  cases s.ob n a _ h e with
  | lst h r => exact ⟨_, h, r⟩
theorem SR.fresh {st : Sto} (s : SR K mg ρ π H st) {p : Addr} (h : H p = none) : p ∉ ρ ∧ p ∉ π := ⟨s.muts.notNone h, fun z => (s.pi p z).2 h⟩

theorem ObR.mono (x : Ext ρ H ρ' H') (m : Muts ρ H) {o : Ob} {a : Addr} (e : H' a = H a) (h : ObR K mg ρ π H o a) : ObR K mg ρ' π H' o a := by
  cases h with
  | lst h r => exact .lst (by rw [e]; exact h) (r.mono x m)
  | dct h k r => exact .dct (by rw [e]; exact h) k (r.mono x m)
theorem SR.new {st : Sto} (s : SR K mg ρ π H st) {p : Addr} {o : HO} (h : H p = none) : SR K mg ρ π (upd H p o) st := by
  have hn := s.fresh h
  refine ⟨s.len, s.nd, fun n a u e1 e2 => ?_, fun b hb => ⟨(s.pi b hb).1, ?_⟩⟩
  · have ha : a ≠ p := fun z => hn.1 (z ▸ List.mem_of_getElem? e1)
    exact (s.ob n a u e1 e2).mono (Ext.new h) s.muts (upd_ne ha)
  · have hb' : b ≠ p := fun z => hn.2 (z ▸ hb)
    rw [upd_ne hb']
    exact (s.pi b hb).2
mutual
/-- less is held -/
theorem RD.less {p : Addr} : ∀ {d : D} {v : V}, RD K mg ρ (p :: π) H d v → RD K mg ρ π H d v
  | _, _, .non => .non
  | _, _, .bl b => .bl b
  | _, _, .int i => .int i
  | _, _, .str z => .str z
  | _, _, .tup h r => .tup h (RDs.less r)
  | _, _, .lst h n q r => .lst h n (fun z => q (List.mem_cons_of_mem _ z)) (RDs.less r)
  | _, _, .dct h n q e r => .dct h n (fun z => q (List.mem_cons_of_mem _ z)) e (RDs.less r)
  | _, _, .ro h => .ro h
  | _, _, .loc h => .loc h
  | _, _, .fn h => .fn h
theorem RDs.less {p : Addr} : ∀ {ds : List D} {vs : List V}, RDs K mg ρ (p :: π) H ds vs → RDs K mg ρ π H ds vs
  | _, _, .nil => .nil
  | _, _, .cons h t => .cons (RD.less h) (RDs.less t)
end
mutual
/-- a new thing is held, and stands at p -/
theorem RD.more {p : Addr} {o : HO} (m : Muts ρ H) (hp : H p = none) : ∀ {d : D} {v : V}, RD K mg ρ π H d v → RD K mg ρ (p :: π) (upd H p o) d v
  | _, _, .non => .non
  | _, _, .bl b => .bl b
  | _, _, .int i => .int i
  | _, _, .str z => .str z
  | _, _, .tup h r => .tup (sqT_mono (Ext.new (ρ := ρ) hp) m h) (RDs.more m hp r)
  | _, _, .lst h n q r => .lst (by rw [upd_ne (ne_of_none h hp)]; exact h) n (fun z => by
      rcases List.mem_cons.mp z with z | z
      · exact ne_of_none h hp z
      · exact q z) (RDs.more m hp r)
  | _, _, .dct h n q e r => .dct (by rw [upd_ne (ne_of_none h hp)]; exact h) n (fun z => by
      rcases List.mem_cons.mp z with z | z
      · exact ne_of_none h hp z
      · exact q z) e (RDs.more m hp r)
  | _, _, .ro h => .ro (h.mono (Ext.new (ρ := ρ) hp) m)
  | _, _, .loc h => .loc h
  | _, _, .fn h => .fn h
theorem RDs.more {p : Addr} {o : HO} (m : Muts ρ H) (hp : H p = none) : ∀ {ds : List D} {vs : List V}, RDs K mg ρ π H ds vs → RDs K mg ρ (p :: π) (upd H p o) ds vs
  | _, _, .nil => .nil
  | _, _, .cons h t => .cons (RD.more m hp h) (RDs.more m hp t)
end
theorem SR.more {st : Sto} (s : SR K mg ρ π H st) {p : Addr} {o : HO} (h : H p = none) : SR K mg ρ (p :: π) (upd H p o) st := by
  have hn := s.fresh h
  refine ⟨s.len, s.nd, fun n a u e1 e2 => ?_, fun b hb => ?_⟩
  · have ha : a ≠ p := fun z => hn.1 (z ▸ List.mem_of_getElem? e1)
    cases s.ob n a u e1 e2 with
    | lst h1 r => exact .lst (by rw [upd_ne ha]; exact h1) (r.more s.muts h)
    | dct h1 k r => exact .dct (by rw [upd_ne ha]; exact h1) k (r.more s.muts h)
  · rcases List.mem_cons.mp hb with rfl | hb
    · exact ⟨hn.1, by rw [upd_same]; exact fun z => nomatch z⟩
    · have hb' : b ≠ p := fun z => hn.2 (z ▸ hb)
      rw [upd_ne hb']
      exact s.pi b hb
theorem SR.less {st : Sto} {p : Addr} (s : SR K mg ρ (p :: π) H st) : SR K mg ρ π H st := by
  refine ⟨s.len, s.nd, fun n a u e1 e2 => ?_, fun b hb => s.pi b (List.mem_cons_of_mem _ hb)⟩
  cases s.ob n a u e1 e2 with
  | lst h1 r => exact .lst h1 r.less
  | dct h1 k r => exact .dct h1 k r.less
mutual
/-- what was held becomes a thing of the store -/
theorem RD.push {p : Addr} : ∀ {d : D} {v : V}, RD K mg ρ (p :: π) H d v → RD K mg (ρ ++ [p]) π H d v
  | _, _, .non => .non
  | _, _, .bl b => .bl b
  | _, _, .int i => .int i
  | _, _, .str z => .str z
  | _, _, .tup h r => .tup h (RDs.push r)
  | _, _, .lst h n q r => .lst h (fun z => by
      rcases List.mem_append.mp z with z | z
      · exact n z
      · exact q (List.mem_cons.mpr (.inl (List.mem_singleton.mp z)))) (fun z => q (List.mem_cons_of_mem _ z)) (RDs.push r)
  | _, _, .dct h n q e r => .dct h (fun z => by
      rcases List.mem_append.mp z with z | z
      · exact n z
      · exact q (List.mem_cons.mpr (.inl (List.mem_singleton.mp z)))) (fun z => q (List.mem_cons_of_mem _ z)) e (RDs.push r)
  | _, _, .ro h => .ro h
  | _, _, .loc h => .loc (by rw [List.getElem?_append_left (List.getElem?_eq_some_iff.mp h).1]; exact h)
  | _, _, .fn h => .fn h
theorem RDs.push {p : Addr} : ∀ {ds : List D} {vs : List V}, RDs K mg ρ (p :: π) H ds vs → RDs K mg (ρ ++ [p]) π H ds vs
  | _, _, .nil => .nil
  | _, _, .cons h t => .cons (RD.push h) (RDs.push t)
end
theorem ObR.push {p : Addr} {o : Ob} {a : Addr} (h : ObR K mg ρ (p :: π) H o a) : ObR K mg (ρ ++ [p]) π H o a := by
  cases h with
  | lst h r => exact .lst h r.push
  | dct h k r => exact .dct h k r.push
theorem SR.push {st : Sto} {p : Addr} {o : Ob} (s : SR K mg ρ (p :: π) H st) (hn : p ∉ π) (h : ObR K mg ρ (p :: π) H o p) : SR K mg (ρ ++ [p]) π H (st ++ [o]) := by
  have np : p ∉ ρ := (s.pi p List.mem_cons_self).1
  refine ⟨by rw [List.length_append, List.length_append, s.len]; rfl, ?_, fun n a u e1 e2 => ?_, fun b hb => ?_⟩
  · refine List.nodup_append.mpr ⟨s.nd, by simp, fun a ha b hb e => ?_⟩
    rw [List.mem_singleton.mp hb] at e
    exact np (e ▸ ha)
  · by_cases hl : n < ρ.length
    · rw [List.getElem?_append_left hl] at e1
      rw [List.getElem?_append_left (by rw [← s.len]; exact hl)] at e2
      exact (s.ob n a u e1 e2).push
    · have hl' : ρ.length ≤ n := Nat.le_of_not_lt hl
      rw [List.getElem?_append_right hl'] at e1
      rw [List.getElem?_append_right (by rw [← s.len]; exact hl')] at e2
      have hz : n - ρ.length = 0 := by
        cases hh : n - ρ.length with
        | zero => rfl
        | succ k => rw [hh] at e1; simp at e1
      rw [hz] at e1
      rw [← s.len, hz] at e2
      have ea : p = a := Option.some.inj e1
      have eu : o = u := Option.some.inj e2
      rw [← ea, ← eu]
      exact h.push
  · obtain ⟨h1, h2⟩ := s.pi b (List.mem_cons_of_mem _ hb)
    refine ⟨fun z => ?_, h2⟩
    rcases List.mem_append.mp z with z | z
    · exact h1 z
    · rw [List.mem_singleton.mp z] at hb
      exact hn hb
/-- the store's n-th thing is changed -/
theorem Ext.set {a : Addr} {o : HO} {n : Nat} (h : ρ[n]? = some a) : Ext ρ H ρ (upd H a o) := ⟨⟨[], by simp, fun _ z => nomatch z⟩, fun b u nb e => by
  have hb : b ≠ a := fun z => nb (z ▸ List.mem_of_getElem? h)
  rw [upd_ne hb]
  exact e⟩
theorem nodup_at {l : List Addr} (nd : l.Nodup) {i j : Nat} {a : Addr} (h : l[i]? = some a) (g : l[j]? = some a) : i = j := by
  obtain ⟨hi, ei⟩ := List.getElem?_eq_some_iff.mp h
  exact (List.getElem?_inj hi nd).mp (h.trans g.symm)
theorem SR.set {st : Sto} (s : SR K mg ρ π H st) {n : Nat} {a : Addr} {xs : List D} {vs : List V} (h : ρ[n]? = some a) (r : RDs K mg ρ π H xs vs) : SR K mg ρ π (upd H a (.lst vs)) (st.set n (.lst xs)) := by
  have hx : Ext ρ H ρ (upd H a (.lst vs)) := Ext.set h
  refine ⟨by rw [List.length_set]; exact s.len, s.nd, fun m b u e1 e2 => ?_, fun b hb => ?_⟩
  · by_cases hm : m = n
    · subst hm
      rw [h] at e1
      have eb : a = b := Option.some.inj e1
      subst eb
      have hlt : m < st.length := by rw [← s.len]; exact (List.getElem?_eq_some_iff.mp h).1
      rw [List.getElem?_set_self hlt] at e2
      have eu : Ob.lst xs = u := Option.some.inj e2
      rw [← eu]
      exact .lst upd_same (r.mono hx s.muts)
    · rw [List.getElem?_set_ne (Ne.symm hm)] at e2
      have hb : b ≠ a := fun z => hm (nodup_at s.nd e1 (z ▸ h))
      exact (s.ob m b u e1 e2).mono hx s.muts (upd_ne hb)
  · obtain ⟨h1, h2⟩ := s.pi b hb
    have hb' : b ≠ a := fun z => h1 (z ▸ List.mem_of_getElem? h)
    rw [upd_ne hb']
    exact ⟨h1, h2⟩
end

/-! ### slots -/
def RE (K : PySem.W.Frag) (mg : Str → Option Value) (ρ π : List Addr) (H : Hp) (env : Env) (σ : L2.St) : Prop :=
  env.length = σ.length ∧ ∀ (i : Nat) (d : D), env[i]? = some (some d) → ∃ v, σ[i]? = some (some v) ∧ RD K mg ρ π H d v
section
variable {K : PySem.W.Frag} {mg : Str → Option Value} {ρ ρ' π : List Addr} {H H' : Hp} {env : Env} {σ : L2.St}
theorem RE.mono (x : Ext ρ H ρ' H') (m : Muts ρ H) (h : RE K mg ρ π H env σ) : RE K mg ρ' π H' env σ :=
  ⟨h.1, fun i d e => let ⟨v, e1, r⟩ := h.2 i d e; ⟨v, e1, r.mono x m⟩⟩
theorem RE.set (h : RE K mg ρ π H env σ) (i : Nat) {d : D} {v : V} (r : RD K mg ρ π H d v) : RE K mg ρ π H (env.set i (some d)) (σ.set i (some v)) := by
  refine ⟨by rw [List.length_set, List.length_set]; exact h.1, fun j e hj => ?_⟩
  by_cases hij : j = i
  · subst hij
    by_cases hl : j < env.length
    · rw [List.getElem?_set_self hl] at hj
      have ed : d = e := Option.some.inj (Option.some.inj hj)
      rw [← ed]
      exact ⟨v, by rw [List.getElem?_set_self (by rw [← h.1]; exact hl)], r⟩
    · rw [List.getElem?_eq_none (by rw [List.length_set]; omega)] at hj
      cases hj
  · rw [List.getElem?_set_ne (Ne.symm hij)] at hj
    rw [List.getElem?_set_ne (Ne.symm hij)]
    exact h.2 j e hj
theorem RE.unset (h : RE K mg ρ π H env σ) (i : Nat) : RE K mg ρ π H (env.set i none) (σ.set i none) := by
  refine ⟨by rw [List.length_set, List.length_set]; exact h.1, fun j e hj => ?_⟩
  by_cases hij : j = i
  · subst hij
    by_cases hl : j < env.length
    · rw [List.getElem?_set_self hl] at hj
      cases hj
    · rw [List.getElem?_eq_none (by rw [List.length_set]; omega)] at hj
      cases hj
  · rw [List.getElem?_set_ne (Ne.symm hij)] at hj
    rw [List.getElem?_set_ne (Ne.symm hij)]
    exact h.2 j e hj
theorem RE.wipe (h : RE K mg ρ π H env σ) : ∀ vs : List Nat, RE K mg ρ π H (wipeE env vs) (wipe σ vs)
  | [] => h
  | v :: vs => (RE.wipe h vs).unset v
theorem RE.more {p : Addr} {o : HO} (m : Muts ρ H) (hp : H p = none) (h : RE K mg ρ π H env σ) : RE K mg ρ (p :: π) (upd H p o) env σ :=
  ⟨h.1, fun i d e => let ⟨v, e1, r⟩ := h.2 i d e; ⟨v, e1, r.more m hp⟩⟩

/-! ### what an outcome brings -/
def Fin {α β : Type} (K : PySem.W.Frag) (mg : Str → Option Value) (Rel : List Addr → Hp → α → β → Prop) (W : XK) (ρ π : List Addr) (H : Hp) (o : Out α) (Q : β → Hp → Prop) : Prop := match o with
  | .ok d st => ∀ ρ' H' v, Ext ρ H ρ' H' → SR K mg ρ' π H' st → Rel ρ' H' d v → Q v H'
  | .ex c d st => ∀ ρ' H' C da v, Ext ρ H ρ' H' → SR K mg ρ' π H' st → mg c = some (.ref C) → H' da = some (.xd [("value", v)]) → RD K mg ρ' π H' d v → W (.ref C) (some da) H'
  | .bad => False
variable {α β α' β' : Type} {Rel : List Addr → Hp → α → β → Prop} {Rel' : List Addr → Hp → α' → β' → Prop} {W : XK}
theorem Fin.ext {o : Out α} {Q : β → Hp → Prop} (h : Fin K mg Rel W ρ π H o Q) (x : Ext ρ H ρ' H') : Fin K mg Rel W ρ' π H' o Q := by
  cases o with
  | ok d st => exact fun ρ2 H2 v y => h ρ2 H2 v (x.trans y)
  | ex c d st => exact fun ρ2 H2 C da v y => h ρ2 H2 C da v (x.trans y)
  | bad => exact h
theorem Fin.mono {o : Out α} {Q Q' : β → Hp → Prop} (h : Fin K mg Rel W ρ π H o Q) (f : ∀ v H', Q v H' → Q' v H') : Fin K mg Rel W ρ π H o Q' := by
  cases o with
  | ok d st => exact fun ρ2 H2 v y s r => f _ _ (h ρ2 H2 v y s r)
  | ex c d st => exact h
  | bad => exact h
theorem Fin.bnd {o : Out α} {f : α → Sto → Out α'} {Q : β' → Hp → Prop} {P : β → Hp → Prop} (h : Fin K mg Rel' W ρ π H (o.bnd f) Q)
    (k : ∀ a st1 ρ1 H1 v, o = .ok a st1 → Ext ρ H ρ1 H1 → SR K mg ρ1 π H1 st1 → Rel ρ1 H1 a v → Fin K mg Rel' W ρ1 π H1 (f a st1) Q → P v H1) : Fin K mg Rel W ρ π H o P := by
  cases o with
  | ok a st1 => exact fun ρ1 H1 v x s r => k a st1 ρ1 H1 v rfl x s r (Fin.ext (Rel := Rel') h x)
  | ex c d st => exact h
  | bad => exact h
theorem Fin.opt {o : Option α'} {s : Sto} {f : α' → Sto → Out α} {Q : β → Hp → Prop} (h : Fin K mg Rel W ρ π H ((opt o s).bnd f) Q) : ∃ a, o = some a ∧ Fin K mg Rel W ρ π H (f a s) Q := by
  cases o with
  | none => exact h.elim
  | some a => exact ⟨a, rfl, h⟩
theorem Fin.opt1 {o : Option α} {s : Sto} {Q : β → Hp → Prop} (h : Fin K mg Rel W ρ π H (Ev.opt o s) Q) : ∃ a, o = some a ∧ Fin K mg Rel W ρ π H (.ok a s) Q := by
  cases o with
  | none => exact h.elim
  | some a => exact ⟨a, rfl, h⟩
/-- at the very stage -/
theorem Fin.here {d : α} {st : Sto} {Q : β → Hp → Prop} {v : β} (h : Fin K mg Rel W ρ π H (.ok d st) Q) (s : SR K mg ρ π H st) (r : Rel ρ H d v) : Q v H := h ρ H v (Ext.refl ρ H) s r
end
end Ev
/-! Values as plain data: their texts, whether they are equal. -/
namespace Ev
open PySem PySem.Spec PyProof.Rows L2

/-! ### a text's length -/
theorem listText_le (ts : List Str) : (listText ts).length ≤ piled ts + 2 := by
  have hX : (listText ts).length = (textFrom 0 "[" ts).length + 1 := by
    unfold listText
    rw [strLen_append]
    rfl
  rw [hX]
  cases ts with
  | nil =>
    have e : (textFrom 0 "[" []).length = 1 := rfl
    rw [e]; omega
  | cons t r =>
    have hY : (textFrom 0 "[" (t :: r)).length = (textFrom 1 (("[" : Str) ++ (if (0 : Nat) > 0 then ", " else "" : String) ++ t) r).length := rfl
    have h := textFrom_length_pos r 1 (("[" : Str) ++ (if (0 : Nat) > 0 then ", " else "" : String) ++ t) (Nat.succ_pos 0)
    have e : ((("[" : Str) ++ (if (0 : Nat) > 0 then ", " else "" : String) ++ t)).length = 1 + t.length := by
      rw [strLen_append, strLen_append]; rfl
    rw [hY, h, e, piled_cons]
    omega
theorem joinLen (ts : List Str) : (Str.join ", " ts).length ≤ piled ts := by
  by_cases h : ts = []
  · subst h; exact Nat.zero_le _
  · have := join_length_add ts h
    omega
theorem tupleText_le (ts : List Str) : (tupleText ts).length ≤ piled ts + 3 := by
  unfold tupleText
  rw [strLen_append, strLen_append]
  have h := joinLen ts
  have e1 : ("(" : Str).length = 1 := rfl
  have e2 : ((if ts.length == 1 then ",)" else ")" : String) : Str).length ≤ 2 := by
    split
    · exact Nat.le_refl 2
    · exact Nat.le_succ 1
  rw [e1]
  omega
theorem dictText_le (ts : List Str) : (dictText ts).length ≤ piled ts + 2 := by
  unfold dictText
  rw [strLen_append, strLen_append]
  have h := joinLen ts
  have e1 : ("{" : Str).length = 1 := rfl
  have e2 : ("}" : Str).length = 1 := rfl
  rw [e1, e2]
  omega
theorem intText_le (i : Int) : (Str.ofString (toString i)).length ≤ i.natAbs.log2 + 3 := by
  have h := int_text_length_le (a := i) (k := i.natAbs.log2 + 1) (Nat.succ_pos _) (Nat.lt_succ_self _)
  rw [PySem.ofString_length]
  omega
mutual
theorem shown_le : ∀ p : PyData, wid p ≤ most → p.shown.length ≤ wid p
  | .none, _ => by
    have e : (PyData.shown .none).length = 4 := rfl
    rw [e]; exact Nat.le_refl 4
  | .bool b, _ => by
    cases b with
    | true => exact (by decide : 4 ≤ 5)
    | false => exact (by decide : 5 ≤ 5)
  | .int i, _ => by
    simp only [PyData.shown, wid]
    exact intText_le i
  | .str x, h => by
    simp only [wid, widStr] at h
    simp only [PyData.shown, wid, widStr]
    split at h
    · rename_i hx
      rw [if_pos hx]
      refine StrLaws.reprText_len x fun c hc => ?_
      have := List.all_eq_true.mp hx c hc
      have h2 : c < 4294967296 := by simpa using this
      exact h2
    · exact absurd h (by decide)
  | .list xs, h => by
    simp only [wid] at h
    simp only [PyData.shown, wid]
    have h2 := shownAll_le xs (by omega)
    exact Nat.le_trans (listText_le _) (by omega)
  | .tuple xs, h => by
    simp only [wid] at h
    simp only [PyData.shown, wid]
    have h2 := shownAll_le xs (by omega)
    exact Nat.le_trans (tupleText_le _) (by omega)
  | .dict kvs, h => by
    simp only [wid] at h
    simp only [PyData.shown, wid]
    have h2 := shownKv_le kvs (by omega)
    exact Nat.le_trans (dictText_le _) (by omega)
theorem shownAll_le : ∀ xs : List PyData, widAll xs ≤ most → piled (PyData.shownAll xs) ≤ widAll xs
  | [], _ => Nat.le_refl 0
  | x :: xs, h => by
    simp only [widAll] at h
    simp only [PyData.shownAll, widAll, piled_cons]
    have h1 := shown_le x (by omega)
    have h2 := shownAll_le xs (by omega)
    omega
theorem shownKv_le : ∀ kvs : List (PyData × PyData), widKv kvs ≤ most → piled (PyData.shownKv kvs) ≤ widKv kvs
  | [], _ => Nat.le_refl 0
  | (k, v) :: r, h => by
    simp only [widKv] at h
    simp only [PyData.shownKv, widKv, piled_cons]
    have h1 := shown_le k (by omega)
    have h2 := shown_le v (by omega)
    have h3 := shownKv_le r (by omega)
    rw [strLen_append, strLen_append]
    have e : ((": " : String) : Str).length = 2 := rfl
    rw [e]
    omega
end

/-! ### a value as data, in the abstract heap -/
mutual
inductive Dq (K : PySem.W.Frag) (H : Hp) : V → PyData → Prop
  | non : Dq K H .non .none
  | bl (b : Bool) : Dq K H (.bl b) (.bool b)
  | int (i : Int) : Dq K H (.int i) (.int i)
  | str (x : Str) : Dq K H (.str x) (.str x)
  | lst {a : Addr} {xs : List V} {ds : List PyData} (h : H a = some (.lst xs)) (r : DqAll K H xs ds) : Dq K H (.ref a) (.list ds)
  | tup {a : Addr} {xs : List V} {ds : List PyData} (h : SqT K H a xs) (r : DqAll K H xs ds) : Dq K H (.ref a) (.tuple ds)
  | dct {a : Addr} {kvs : List (Key × V)} {ps : List (PyData × PyData)} (h : H a = some (.dK kvs)) (r : DqKv K H kvs ps) : Dq K H (.ref a) (.dict ps)
inductive DqAll (K : PySem.W.Frag) (H : Hp) : List V → List PyData → Prop
  | nil : DqAll K H [] []
  | cons {v : V} {vs : List V} {d : PyData} {ds : List PyData} (h : Dq K H v d) (t : DqAll K H vs ds) : DqAll K H (v :: vs) (d :: ds)
inductive DqKv (K : PySem.W.Frag) (H : Hp) : List (Key × V) → List (PyData × PyData) → Prop
  | nil : DqKv K H [] []
  | cons {k : Key} {v : V} {kvs : List (Key × V)} {d : PyData} {ps : List (PyData × PyData)} (h : Dq K H v d) (t : DqKv K H kvs ps) : DqKv K H ((k, v) :: kvs) ((keyPy k, d) :: ps)
end
theorem readsKey {h : Heap} {k : Key} {v : Value} (e : keyIs k v = true) : Reads h v (keyPy k) [] := by
  rcases keyIs_shape e with ⟨i, t, rfl, rfl⟩ | ⟨x, t, rfl, rfl⟩
  · exact .int i t
  · exact .str x t
section
variable {X : Cx} {pins : List (Addr × Obj)} {σ : L2.St} {H : Hp} {s : Shared}
theorem readsKeys {kvs : List (Key × V)} {ps : List (PyData × PyData)} (r : DqKv X.K H kvs ps) : ∀ {es : List DictEntry} {vs : List (Key × Value)}, KV kvs vs → PySem.Pairs (mixKind X.prog X.w) es vs →
    ReadsAll s.heap (es.map (·.key)) (ps.map (·.1)) [] := by
  induction kvs generalizing ps with
  | nil =>
    intro es vs kv p
    cases r
    cases kv
    cases p
    exact .nil
  | cons kv0 kvs ih =>
    intro es vs kv p
    cases r with
    | cons h t =>
      cases kv with
      | cons h1 t1 =>
        cases p with
        | cons q1 q2 q3 =>
          rename_i k v d ps kvV vsR e es
          have e1 : k = kvV.1 := h1.1
          have q1' : keyIs kvV.1 e.key = true := q1
          have hk : Reads s.heap e.key (keyPy k) [] := readsKey (by rw [e1]; exact q1')
          exact ReadsAll.cons (as := []) (bs := []) hk (ih t t1 q3)
/-- where the modules' table lies, no list lies -/
theorem notMods {h : Heap} (hsm : ∃ mm, h.Ns sysModules mm) {a : Addr} {o : Obj} {its : Array Value} {n : Nat} (ho : h.get? a = some o) (hd : o.data = .seq its n) : a ≠ sysModules := by
  rintro rfl
  obtain ⟨mm, o2, es, ep, e1, e2, _⟩ := hsm
  rw [ho] at e1
  cases e1
  rw [hd] at e2
  cases e2
mutual
theorem Dq.reads (I : Inv X pins σ H s) : ∀ (d : PyData) (v : V) (u : Value), Dq X.K H v d → RelV v u → ∃ as, Reads s.heap u d as ∧ ((∃ mm, s.heap.Ns sysModules mm) → sysModules ∉ as)
  | .none, _, _, h, r => by
    cases h
    cases r
    exact ⟨_, Reads.none, fun _ => by simp⟩
  | .bool b, _, _, h, r => by
    cases h
    cases r
    exact ⟨_, Reads.bool b, fun _ => by simp⟩
  | .int i, _, _, h, r => by
    cases h
    obtain ⟨t, rfl⟩ := r
    exact ⟨_, Reads.int i t, fun _ => by simp⟩
  | .str x, _, _, h, r => by
    cases h
    obtain ⟨t, rfl⟩ := r
    exact ⟨_, Reads.str x t, fun _ => by simp⟩
  | .list ds, _, _, h, r => by
    cases h with
    | lst hs ha =>
      cases r
      obtain ⟨its, rv, ⟨o, n, ho, hc, _, hd⟩, _⟩ := I.list (SqL.of hs)
      obtain ⟨as, hr, hn⟩ := Dq.readsAll I ds _ its ha rv
      refine ⟨_, Reads.list ho hc hd hr, fun hsm z => ?_⟩
      rcases List.mem_cons.mp z with z | z
      · exact notMods hsm ho hd z.symm
      · exact hn hsm z
  | .tuple ds, _, _, h, r => by
    cases h with
    | tup hs ha =>
      cases r
      obtain ⟨its, rv, ⟨o, ho, hc, n, hd⟩, _⟩ := I.tuple hs
      obtain ⟨as, hr, hn⟩ := Dq.readsAll I ds _ its ha rv
      exact ⟨_, Reads.tuple ho hc hd hr, hn⟩
  | .dict ps, _, _, h, r => by
    cases h with
    | dct hs ha =>
      cases r
      obtain ⟨_, hm, vs, kv, o, es, ep, ho, hx, hd, _, hp, _⟩ := I.hok _ _ hs
      obtain ⟨bs, hb, hn⟩ := Dq.readsKv I ps _ vs es.toList ha kv hp
      have hk : ReadsAll s.heap (es.toList.map (·.key)) (ps.map (·.1)) [] := readsKeys ha kv hp
      refine ⟨_, Reads.dict ho hx.1 hd hk hb, fun hsm hz => ?_⟩
      rcases List.mem_append.mp hz with hz | hz
      · rcases List.mem_cons.mp hz with hz | hz
        · rw [← hz] at hm
          exact absurd hm (by decide)
        · cases hz
      · exact hn hsm hz
theorem Dq.readsAll (I : Inv X pins σ H s) : ∀ (ds : List PyData) (vs : List V) (us : List Value), DqAll X.K H vs ds → Vals vs us → ∃ as, ReadsAll s.heap us ds as ∧ ((∃ mm, s.heap.Ns sysModules mm) → sysModules ∉ as)
  | [], _, _, h, r => by
    cases h
    cases r
    exact ⟨_, ReadsAll.nil, fun _ => by simp⟩
  | d :: ds, _, _, h, r => by
    cases h with
    | cons h1 h2 =>
      cases r with
      | cons r1 r2 =>
        obtain ⟨as, q1, n1⟩ := Dq.reads I d _ _ h1 r1
        obtain ⟨bs, q2, n2⟩ := Dq.readsAll I ds _ _ h2 r2
        refine ⟨_, ReadsAll.cons q1 q2, fun hsm hz => ?_⟩
        rcases List.mem_append.mp hz with hz | hz
        · exact n1 hsm hz
        · exact n2 hsm hz
theorem Dq.readsKv (I : Inv X pins σ H s) : ∀ (ps : List (PyData × PyData)) (kvs : List (Key × V)) (vs : List (Key × Value)) (es : List DictEntry), DqKv X.K H kvs ps → KV kvs vs → PySem.Pairs (mixKind X.prog X.w) es vs →
    ∃ bs, ReadsAll s.heap (es.map (·.val)) (ps.map (·.2)) bs ∧ ((∃ mm, s.heap.Ns sysModules mm) → sysModules ∉ bs)
  | [], _, _, _, h, kv, p => by
    cases h
    cases kv
    cases p
    exact ⟨_, ReadsAll.nil, fun _ => by simp⟩
  | (_, d) :: ps, _, _, _, h, kv, p => by
    cases h with
    | cons h1 h2 =>
      cases kv with
      | cons r1 r2 =>
        cases p with
        | cons p1 p2 p3 =>
          rename_i k v kvs kvV vsR e es
          obtain ⟨as, q1, n1⟩ := Dq.reads I d v e.val h1 (by rw [p2]; exact r1.2)
          obtain ⟨bs, q2, n2⟩ := Dq.readsKv I ps _ _ _ h2 r2 p3
          refine ⟨_, ReadsAll.cons q1 q2, fun hsm hz => ?_⟩
          rcases List.mem_append.mp hz with hz | hz
          · exact n1 hsm hz
          · exact n2 hsm hz
end
end
end Ev
/-! Operations on values: the evaluator's answers and the layer's rules. -/
namespace Ev
open PySem PySem.Spec PyProof.Rows L2

section
variable {K : PySem.W.Frag} {mg : Str → Option Value} {ρ ρ' π : List Addr} {H H' : Hp} {st : Sto}
theorem mapM_dq {f : D → Option PyData} (hf : ∀ d v p, RD K mg ρ π H d v → f d = some p → Dq K H v p) : ∀ {xs : List D} {vs : List V} {ps : List PyData}, RDs K mg ρ π H xs vs → xs.mapM f = some ps → DqAll K H vs ps
  | [], _, _, r, e => by
    cases r
    simp at e
    subst e
    exact .nil
  | x :: xs, _, _, r, e => by
    cases r with
    | cons h t =>
      rw [List.mapM_cons] at e
      cases hx : f x with
      | none => rw [hx] at e; simp at e
      | some p =>
        rw [hx] at e
        cases hr : xs.mapM f with
        | none => rw [hr] at e; simp at e
        | some ps =>
          rw [hr] at e
          simp at e
          subst e
          exact .cons (hf _ _ _ h hx) (mapM_dq hf t hr)
theorem mapM_len {α β : Type} {f : α → Option β} : ∀ {xs : List α} {ps : List β}, xs.mapM f = some ps → ps.length = xs.length
  | [], _, e => by simp at e; subst e; rfl
  | x :: xs, _, e => by
    rw [List.mapM_cons] at e
    cases hx : f x with
    | none => rw [hx] at e; simp at e
    | some p =>
      rw [hx] at e
      cases hr : xs.mapM f with
      | none => rw [hr] at e; simp at e
      | some ps =>
        rw [hr] at e
        simp at e
        subst e
        rw [List.length_cons, List.length_cons, mapM_len hr]
theorem dqKv_of : ∀ {kvs : List (Key × V)} {ps : List PyData}, DqAll K H (kvs.map (·.2)) ps → DqKv K H kvs (zipKv (kvs.map (·.1)) ps)
  | [], _, r => by
    cases r
    exact .nil
  | (k, v) :: kvs, _, r => by
    cases r with
    | cons h t => exact .cons h (dqKv_of t)
theorem toPy_ok (s : SR K mg ρ π H st) : ∀ (n : Nat) (d : D) (v : V) (p : PyData), RD K mg ρ π H d v → toPy st n d = some p → Dq K H v p := by
  intro n
  induction n with
  | zero =>
    intro d v p r e
    cases r <;> simp [toPy] at e <;> subst e
    · exact .non
    · exact .bl _
    · exact .int _
    · exact .str _
  | succ n ih =>
    intro d v p r e
    cases r with
    | non => simp [toPy] at e; subst e; exact .non
    | bl b => simp [toPy] at e; subst e; exact .bl _
    | int i => simp [toPy] at e; subst e; exact .int _
    | str x => simp [toPy] at e; subst e; exact .str _
    | tup h r =>
      rw [toPy, Option.map_eq_some_iff] at e
      obtain ⟨ps, e1, rfl⟩ := e
      exact .tup h (mapM_dq ih r e1)
    | lst h a b r =>
      rw [toPy, Option.map_eq_some_iff] at e
      obtain ⟨ps, e1, rfl⟩ := e
      exact .lst h (mapM_dq ih r e1)
    | dct h a b ek r =>
      rw [toPy] at e
      split at e
      · rw [Option.map_eq_some_iff] at e
        obtain ⟨ps, e1, rfl⟩ := e
        subst ek
        exact .dct h (dqKv_of (mapM_dq ih r e1))
      · cases e
    | ro h => simp [toPy] at e
    | fn h => simp [toPy] at e
    | loc h =>
      rw [toPy] at e
      split at e
      · rename_i xs hx
        rw [Option.map_eq_some_iff] at e
        obtain ⟨ps, e1, rfl⟩ := e
        obtain ⟨vs, h1, r1⟩ := s.atL h hx
        exact .lst h1 (mapM_dq ih r1 e1)
      · rename_i ks xs hx
        split at e
        · rw [Option.map_eq_some_iff] at e
          obtain ⟨ps, e1, rfl⟩ := e
          cases s.ob _ _ _ h hx with
          | dct h1 ek r1 =>
            subst ek
            exact .dct h1 (dqKv_of (mapM_dq ih r1 e1))
        · cases e
      · cases e
theorem mapM_depth {f : D → Option PyData} {n : Nat} (hf : ∀ d p, f d = some p → p.depth ≤ n) : ∀ {xs : List D} {ps : List PyData}, xs.mapM f = some ps → PyData.depthAll ps ≤ n
  | [], _, e => by simp at e; subst e; exact Nat.zero_le _
  | x :: xs, _, e => by
    rw [List.mapM_cons] at e
    cases hx : f x with
    | none => rw [hx] at e; simp at e
    | some p =>
      rw [hx] at e
      cases hr : xs.mapM f with
      | none => rw [hr] at e; simp at e
      | some ps =>
        rw [hr] at e
        simp at e
        subst e
        simp only [PyData.depthAll]
        exact Nat.max_le.mpr ⟨hf _ _ hx, mapM_depth hf hr⟩
theorem depthKv_le {n : Nat} : ∀ {ks : List Key} {ps : List PyData}, PyData.depthAll ps ≤ n → PyData.depthKv (zipKv ks ps) ≤ n
  | [], _, _ => Nat.zero_le _
  | _ :: _, [], _ => Nat.zero_le _
  | k :: ks, p :: ps, h => by
    simp only [PyData.depthAll] at h
    simp only [zipKv, PyData.depthKv]
    have h1 : (keyPy k).depth = 0 := by cases k <;> rfl
    rw [h1]
    exact Nat.max_le.mpr ⟨Nat.max_le.mpr ⟨Nat.zero_le _, (Nat.max_le.mp h).1⟩, depthKv_le (Nat.max_le.mp h).2⟩
theorem toPy_depth : ∀ (n : Nat) (d : D) (p : PyData), toPy st n d = some p → p.depth ≤ n := by
  intro n
  induction n with
  | zero =>
    intro d p e
    cases d <;> simp [toPy] at e <;> subst e <;> exact Nat.le_refl 0
  | succ n ih =>
    intro d p e
    cases d with
    | non => simp [toPy] at e; subst e; exact Nat.zero_le _
    | bl b => simp [toPy] at e; subst e; exact Nat.zero_le _
    | int i => simp [toPy] at e; subst e; exact Nat.zero_le _
    | str x => simp [toPy] at e; subst e; exact Nat.zero_le _
    | tup xs =>
      rw [toPy, Option.map_eq_some_iff] at e
      obtain ⟨ps, e1, rfl⟩ := e
      exact Nat.succ_le_succ (mapM_depth ih e1)
    | lst xs =>
      rw [toPy, Option.map_eq_some_iff] at e
      obtain ⟨ps, e1, rfl⟩ := e
      exact Nat.succ_le_succ (mapM_depth ih e1)
    | dct ks xs =>
      rw [toPy] at e
      split at e
      · rw [Option.map_eq_some_iff] at e
        obtain ⟨ps, e1, rfl⟩ := e
        exact Nat.succ_le_succ (depthKv_le (mapM_depth ih e1))
      · cases e
    | ro xs => simp [toPy] at e
    | fn x => simp [toPy] at e
    | loc m =>
      rw [toPy] at e
      split at e
      · rw [Option.map_eq_some_iff] at e
        obtain ⟨ps, e1, rfl⟩ := e
        exact Nat.succ_le_succ (mapM_depth ih e1)
      · split at e
        · rw [Option.map_eq_some_iff] at e
          obtain ⟨ps, e1, rfl⟩ := e
          exact Nat.succ_le_succ (depthKv_le (mapM_depth ih e1))
        · cases e
      · cases e

/-! ### lists, tuples -/
theorem items_ok (s : SR K mg ρ π H st) {d : D} {v : V} {xs : List D} (r : RD K mg ρ π H d v) (e : items st d = some xs) : ∃ a vs, v = .ref a ∧ H a = some (.lst vs) ∧ RDs K mg ρ π H xs vs := by
  cases r <;> simp [items] at e
  · rename_i h n m r
    subst e
    exact ⟨_, _, rfl, h, r⟩
  · rename_i a n h
    split at e
    · rename_i xs' hx
      have e' : xs' = xs := Option.some.inj e
      subst e'
      obtain ⟨vs, h1, r1⟩ := s.atL h hx
      exact ⟨_, vs, rfl, h1, r1⟩
    · cases e
theorem lsOf_ok (s : SR K mg ρ π H st) {d : D} {v : V} {xs : List D} (r : RD K mg ρ π H d v) (e : lsOf st d = some xs) : ∃ a vs, v = .ref a ∧ SqL K H a vs ∧ RDs K mg ρ π H xs vs := by
  cases r <;> simp [lsOf] at e
  · rename_i h n m r
    subst e
    exact ⟨_, _, rfl, SqL.of h, r⟩
  · rename_i a ns h
    subst e
    exact ⟨_, _, rfl, h.sq, RDs.ints ns⟩
  · rename_i a n h
    split at e
    · rename_i xs' hx
      have e' : xs' = xs := Option.some.inj e
      subst e'
      obtain ⟨vs, h1, r1⟩ := s.atL h hx
      exact ⟨_, vs, rfl, SqL.of h1, r1⟩
    · cases e
theorem seqOf_ok (s : SR K mg ρ π H st) {d : D} {v : V} {xs : List D} (r : RD K mg ρ π H d v) (e : seqOf st d = some xs) : ∃ a vs, v = .ref a ∧ (SqL K H a vs ∨ SqT K H a vs) ∧ RDs K mg ρ π H xs vs := by
  unfold seqOf at e
  split at e
  · cases r with
    | tup h r =>
      cases e
      exact ⟨_, _, rfl, .inr h, r⟩
  · obtain ⟨a, vs, e1, h, r1⟩ := lsOf_ok s r e
    exact ⟨a, vs, e1, .inl h, r1⟩
theorem most_le {n : Nat} (h : n ≤ most) : n ≤ sizeLine := by
  rw [sizeLine_eq]
  have : most = 1000000 := rfl
  omega
theorem small_le {n : Nat} (h : small n = true) : n ≤ sizeLine := most_le (of_decide_eq_true h)

/-- a new list -/
theorem newL_ok {W : XK} {Q : V → Hp → Prop} {al : Bool} {xs : List D} {vs : List V} (s : SR K mg ρ π H st) (r : RDs K mg ρ π H xs vs) (h : Fin K mg (RD K mg · π · · ·) W ρ π H (newL al xs st) Q) :
    ∀ p, H p = none → Q (.ref p) (upd H p (.lst vs)) := by
  intro p hp
  have hn := s.fresh hp
  have hx : Ext ρ H ρ (upd H p (.lst vs)) := Ext.new hp
  cases al with
  | false =>
    exact h ρ _ _ hx (s.new hp) (.lst upd_same hn.1 hn.2 (r.mono hx s.muts))
  | true =>
    have s1 := s.more (o := .lst vs) hp
    have hx2 : Ext ρ H (ρ ++ [p]) (upd H p (.lst vs)) := ⟨⟨[p], rfl, fun b hb => by
      rw [List.mem_singleton.mp hb]
      exact ⟨hn.1, hp⟩⟩, hx.keep⟩
    refine h (ρ ++ [p]) _ _ hx2 (s1.push hn.2 (.lst upd_same (r.more s.muts hp))) (.loc ?_)
    rw [List.getElem?_append_right (by rw [s.len]; exact Nat.le_refl _), s.len]
    simp
end
end Ev
/-! tuple * int, any int -/
namespace Ev
open PySem PySem.Spec PyProof.Rows L2 HT
open PySem.SeqAt
open PySem.AutoSeq1 (wpAny_loadPart')
open PySem.MeetsSeq PySem.MeetsSeq2 PySem.MeetsSeq3
theorem tupMul1 (l : Addr) (items : Array Value) (n : Nat) (dd : Option Addr) (sl : Array (Option Value)) (x : Int) (u : Tok) (d0 : (decide (x < -(2 ^ 63)) || decide (x ≥ 2 ^ 63)) = false) (d1 : (items.isEmpty || x == 1) = true) :
    Meets (Builtin.«tuple.__mul__» ⟨[.ref l, .int x u], []⟩) (fun _ R s => s.heap.get? l = some { cls := .type "tuple", dict := dd, data := .seq items n, slots := sl } ∧
      R (.ok (.ret (Value.ref l))) s) :=
  .of_wp fun prog w A R s h => by
    obtain ⟨hp, g, d, tk, os⟩ := s
    obtain ⟨hl, h⟩ := h
    have f1 := AutoSeq1.idx_int
    wp_walk using wpAny_loadPart' hl
    repeat (first
      | (refine wpAny_ite_false (decide_eq_false (by rw [d0]; exact Bool.false_ne_true)) ?_
         wp_walk using wpAny_loadPart' hl)
      | (refine wpAny_ite_true (decide_eq_true d1) ?_
         wp_walk using wpAny_loadPart' hl))
    exact ⟨_, rfl, h⟩
theorem tupMul0 (l : Addr) (items : Array Value) (n : Nat) (dd : Option Addr) (sl : Array (Option Value)) (x : Int) (u : Tok) (d0 : (decide (x < -(2 ^ 63)) || decide (x ≥ 2 ^ 63)) = false) (d1 : (items.isEmpty || x == 1) = false) (d2 : (decide (x ≤ 0) || items.isEmpty) = true) :
    Meets (Builtin.«tuple.__mul__» ⟨[.ref l, .int x u], []⟩) (fun _ R s => s.heap.get? l = some { cls := .type "tuple", dict := dd, data := .seq items n, slots := sl } ∧
      R (.ok (.ret (Value.ref s.heap.objs.size))) { s with heap := s.heap.push { cls := Value.type "tuple", data := Data.seq #[] }, toks := s.toks }) :=
  .of_wp fun prog w A R s h => by
    obtain ⟨hp, g, d, tk, os⟩ := s
    obtain ⟨hl, h⟩ := h
    have f1 := AutoSeq1.idx_int
    wp_walk using wpAny_loadPart' hl
    repeat (first
      | (refine wpAny_ite_false (decide_eq_false (by rw [d0]; exact Bool.false_ne_true)) ?_
         wp_walk using wpAny_loadPart' hl)
      | (refine wpAny_ite_false (decide_eq_false (by rw [d1]; exact Bool.false_ne_true)) ?_
         wp_walk using wpAny_loadPart' hl)
      | (refine wpAny_ite_true (decide_eq_true d2) ?_
         wp_walk using wpAny_loadPart' hl))
    exact ⟨_, rfl, h⟩
/-- a tuple times an int: once is the tuple itself, less is empty -/
def rMulT (K : PySem.W.Frag) : R2 := fun x y H Q => ∃ l k xs, x = .ref l ∧ y = .int k ∧ SqT K H l xs ∧ k ≤ 1000 ∧ xs.length ≤ 1000 ∧ -(2 ^ 62) ≤ k ∧
  ((xs = [] ∨ k = 1) → Q (.ref l) H) ∧ (xs ≠ [] → k ≤ 0 → ∀ p, H p = none → Q (.ref p) (upd H p (.tup []))) ∧
  (xs ≠ [] → 2 ≤ k → ∀ p, H p = none → Q (.ref p) (upd H p (.tup (List.replicate k.toNat xs).flatten)))
theorem op_mulT {X : Cx} : OpR X (binaryOp .Mult) (rMulT X.K) := by
  intro pins s σ H x y v u Q I rx ry h
  obtain ⟨l, k, xs, rfl, rfl, hT, h2, hz, h3, q1, q0, q2⟩ := h
  by_cases hk : xs ≠ [] ∧ 2 ≤ k
  · exact op_repT pins s σ H (.ref l) (.int k) v u Q I rx ry ⟨l, k, xs, rfl, rfl, hT, hk.1, hk.2, h2, hz, q2 hk.1 hk.2⟩
  · cases rx
    obtain ⟨t, rfl⟩ := ry
    obtain ⟨its, r, ⟨⟨cls, dd, data, sl⟩, ho, hc, n, hd⟩, hs⟩ := I.tuple hT
    simp only at hc hd
    subst hc hd
    have hle : its.length = xs.length := r.length.symm
    have d0 : (decide (k < -(2 ^ 63)) || decide (k ≥ 2 ^ 63)) = false := by
      rw [decide_eq_false (by omega), decide_eq_false (by omega)]
      rfl
    have he : its.toArray.isEmpty = true ↔ xs = [] := by
      cases its with
      | nil =>
        have : xs = [] := List.eq_nil_of_length_eq_zero hle.symm
        simp [this]
      | cons a b =>
        have : xs ≠ [] := fun e => by rw [e] at hle; cases hle
        simp [this]
    by_cases h1 : xs = [] ∨ k = 1
    · have d1 : (its.toArray.isEmpty || k == 1) = true := by
        rcases h1 with h1 | h1
        · rw [he.mpr h1]; rfl
        · rw [h1]; simp
      refine wpAny_binaryOp_repeat_ref (T := "tuple") (U := "int") (by decide) ⟨_, ho, rfl⟩ (fun s' => typeIs_int s' k t) noFill_tuple_mul F.fills_int_mul F.slot_int_rmul repeat_tuple F.slot_int_index.lookup
        (call_meets F.slot_int_rmul (typeIs_int s k t) F.entry_int_rmul (F.args_int_rmul_2 _ _) (int_rmul_tuple k t l its.toArray n dd sl)
          ⟨ho, rfl, ⟨_, ho, rfl⟩, call_meets F.slot_tuple_mul ⟨_, ho, rfl⟩ F.entry_tuple_mul (F.args_tuple_mul_2 _ _) (tupMul1 l its.toArray n dd sl k t d0 d1) ⟨ho, ?_⟩⟩)
      exact ⟨.ref l, H, I, rfl, q1 h1⟩
    · have hne : xs ≠ [] := fun e => h1 (.inl e)
      have hk1 : k ≤ 0 := by
        have a1 : k ≠ 1 := fun e => h1 (.inr e)
        have a2 : ¬ 2 ≤ k := fun e => hk ⟨hne, e⟩
        omega
      have hi : its.toArray.isEmpty = false := by
        cases hh : its.toArray.isEmpty with
        | false => rfl
        | true => exact absurd (he.mp hh) hne
      have d1 : (its.toArray.isEmpty || k == 1) = false := by
        rw [hi, Bool.false_or]
        exact beq_eq_false_iff_ne.mpr (by omega)
      have d2 : (decide (k ≤ 0) || its.toArray.isEmpty) = true := by
        rw [decide_eq_true hk1]
        rfl
      refine wpAny_binaryOp_repeat_ref (T := "tuple") (U := "int") (by decide) ⟨_, ho, rfl⟩ (fun s' => typeIs_int s' k t) noFill_tuple_mul F.fills_int_mul F.slot_int_rmul repeat_tuple F.slot_int_index.lookup
        (call_meets F.slot_int_rmul (typeIs_int s k t) F.entry_int_rmul (F.args_int_rmul_2 _ _) (int_rmul_tuple k t l its.toArray n dd sl)
          ⟨ho, rfl, ⟨_, ho, rfl⟩, call_meets F.slot_tuple_mul ⟨_, ho, rfl⟩ F.entry_tuple_mul (F.args_tuple_mul_2 _ _) (tupMul0 l its.toArray n dd sl k t d0 d1 d2) ⟨ho, ?_⟩⟩)
      refine ⟨.ref s.heap.objs.size, _, I.laid (t' := s.toks) (o := .tup []) (fun b ob q => Heap.get?_push_of_some _ q) (Nat.le_refl _) ?_, rfl, q0 hne hk1 _ (I.hok.fresh (Nat.le_refl _))⟩
      exact ⟨Nat.zero_le _, [], .nil, IsTup.new _ _⟩
end Ev
/-! Operators. -/
namespace Ev
open PySem PySem.Spec PyProof.Rows L2

abbrev RelD (K : PySem.W.Frag) (mg : Str → Option Value) (π : List Addr) : List Addr → Hp → D → V → Prop := fun ρ H d v => RD K mg ρ π H d v
abbrev RelDs (K : PySem.W.Frag) (mg : Str → Option Value) (π : List Addr) : List Addr → Hp → List D → List V → Prop := fun ρ H d v => RDs K mg ρ π H d v
abbrev RelEq (α : Type) : List Addr → Hp → α → α → Prop := fun _ _ a b => a = b

section
variable {X : Cx} {mg : Str → Option Value} {ρ ρ' π : List Addr} {H H' : Hp} {st : Sto} {W : XK} {Q : VK} {al : Bool} {x y : D} {v u : V}
theorem tupRes {K : PySem.W.Frag} {xs : List D} {vs : List V} (s : SR K mg ρ π H st) (r : RDs K mg ρ π H xs vs) (h : Fin K mg (RelD K mg π) W ρ π H (.ok (.tup xs) st) Q) : ∀ p, H p = none → Q (.ref p) (upd H p (.tup vs)) := by
  intro p hp
  have hx : Ext ρ H ρ (upd H p (.tup vs)) := Ext.new hp
  exact h ρ _ _ hx (s.new hp) (.tup (SqT.of upd_same) (r.mono hx s.muts))
abbrev rAddS : R2 := fun x y H Q => ∃ i j, x = .str i ∧ y = .str j ∧ i.length + j.length ≤ sizeLine ∧ Q (.str (i ++ j)) H
abbrev rAdd (K : PySem.W.Frag) : R2 := fun x y H Q => rI0 (fun i j => .int (i + j)) x y H Q ∨ (fun x y H Q => rAddS x y H Q ∨ (fun x y H Q => rCatA K x y H Q ∨ rCat x y H Q) x y H Q) x y H Q
theorem op_addAll : OpR X (binaryOp .Add) (rAdd X.K) := op_add.or (op_add_str.or (op_catA.or op_cat))
theorem add_ok (s : SR X.K mg ρ π H st) (rx : RD X.K mg ρ π H x v) (ry : RD X.K mg ρ π H y u) (h : Fin X.K mg (RelD X.K mg π) W ρ π H (addD al x y st) Q) : rAdd X.K v u H Q := by
  unfold addD at h
  split at h
  · cases rx; cases ry
    exact .inl ⟨_, _, rfl, rfl, h.here s (.int _)⟩
  · cases rx; cases ry
    split at h
    · rename_i hs
      exact .inr (.inl ⟨_, _, rfl, rfl, small_le hs, h.here s (.str _)⟩)
    · exact h.elim
  · cases rx with
    | tup h1 r1 =>
      cases ry with
      | tup h2 r2 =>
        split at h
        · rename_i hs
          refine .inr (.inr (.inl ⟨_, _, _, _, rfl, rfl, h1, h2, by rw [← r1.length, ← r2.length]; exact small_le hs, fun e => ?_, fun _ e => ?_, fun _ _ => tupRes s (r1.append r2) h⟩))
          · subst e
            cases r1
            exact h.here s (.tup h2 r2)
          · subst e
            cases r2
            rw [List.append_nil] at h
            exact h.here s (.tup h1 r1)
        · exact h.elim
  · split at h
    · rename_i xs ys e1 e2
      obtain ⟨a, vs, rfl, h1, r1⟩ := items_ok s rx e1
      obtain ⟨b, ws, rfl, h2, r2⟩ := items_ok s ry e2
      split at h
      · rename_i hs
        exact .inr (.inr (.inr ⟨_, _, _, _, rfl, rfl, h1, h2, by rw [← r1.length, ← r2.length]; exact small_le hs, newL_ok s (r1.append r2) h⟩))
      · exact h.elim
    · exact h.elim
abbrev rSub : R2 := rI0 fun i j => .int (i - j)
theorem sub_ok (s : SR X.K mg ρ π H st) (rx : RD X.K mg ρ π H x v) (ry : RD X.K mg ρ π H y u) (h : Fin X.K mg (RelD X.K mg π) W ρ π H (subD x y st) Q) : rSub v u H Q := by
  unfold subD at h
  split at h
  · cases rx; cases ry
    exact ⟨_, _, rfl, rfl, h.here s (.int _)⟩
  · exact h.elim
abbrev rMul (K : PySem.W.Frag) : R2 := fun x y H Q => rI CMul (fun i j => .int (i * j)) x y H Q ∨ rMulT K x y H Q
theorem op_mulAll : OpR X (binaryOp .Mult) (rMul X.K) := op_mul.or op_mulT
theorem flat1 {k : Int} {ys : List D} (e : ys = [] ∨ k = 1) : (List.replicate k.toNat ys).flatten = ys := by
  rcases e with rfl | rfl
  · simp
  · simp
theorem flat0 {k : Int} {ys : List D} (e : k ≤ 0) : (List.replicate k.toNat ys).flatten = [] := by
  rw [show k.toNat = 0 by omega]
  rfl
theorem mul_ok (s : SR X.K mg ρ π H st) (rx : RD X.K mg ρ π H x v) (ry : RD X.K mg ρ π H y u) (h : Fin X.K mg (RelD X.K mg π) W ρ π H (mulD x y st) Q) : rMul X.K v u H Q := by
  unfold mulD at h
  split at h
  · cases rx; cases ry
    split at h
    · rename_i hc
      exact .inl ⟨_, _, rfl, rfl, hc, h.here s (.int _)⟩
    · exact h.elim
  · cases rx with
    | tup h1 r1 =>
      cases ry
      split at h
      · rename_i hc
        have hl := r1.length
        refine .inr ⟨_, _, _, rfl, rfl, h1, hc.2.1, by rw [← hl]; exact hc.2.2, by omega, fun e => ?_, fun _ e => ?_, fun _ _ => tupRes s (r1.rep _) h⟩
        · rw [flat1 (e.imp (fun z => by rw [z] at hl; exact List.eq_nil_of_length_eq_zero hl) id)] at h
          exact h.here s (.tup h1 r1)
        · rw [flat0 e] at h
          exact tupRes s .nil h
      · exact h.elim
  · exact h.elim
abbrev rFdiv : R2 := rI CDiv fun i j => .int (i / j)
theorem fdiv_ok (s : SR X.K mg ρ π H st) (rx : RD X.K mg ρ π H x v) (ry : RD X.K mg ρ π H y u) (h : Fin X.K mg (RelD X.K mg π) W ρ π H (fdivD x y st) Q) : rFdiv v u H Q := by
  unfold fdivD at h
  split at h
  · cases rx; cases ry
    split at h
    · rename_i hc
      exact ⟨_, _, rfl, rfl, hc, h.here s (.int _)⟩
    · exact h.elim
  · exact h.elim
abbrev rMod : R2 := rI (fun _ j => 0 < j) fun i j => .int (i % j)
theorem mod_ok (s : SR X.K mg ρ π H st) (rx : RD X.K mg ρ π H x v) (ry : RD X.K mg ρ π H y u) (h : Fin X.K mg (RelD X.K mg π) W ρ π H (modD x y st) Q) : rMod v u H Q := by
  unfold modD at h
  split at h
  · cases rx; cases ry
    split at h
    · rename_i hc
      exact ⟨_, _, rfl, rfl, hc, h.here s (.int _)⟩
    · exact h.elim
  · exact h.elim
abbrev rPow : R2 := rI CPow fun i j => .int (i ^ j.toNat)
theorem pow_ok (s : SR X.K mg ρ π H st) (rx : RD X.K mg ρ π H x v) (ry : RD X.K mg ρ π H y u) (h : Fin X.K mg (RelD X.K mg π) W ρ π H (powD x y st) Q) : rPow v u H Q := by
  unfold powD at h
  split at h
  · cases rx; cases ry
    split at h
    · rename_i hc
      exact ⟨_, _, rfl, rfl, hc, h.here s (.int _)⟩
    · exact h.elim
  · exact h.elim
/-- the rule of an operator -/
theorem bin_rule {o : Operator} {b : BOp} (e : bopOf o = some b) : ∃ r : R2, OpR X (binaryOp o) r ∧
    ∀ {mg : Str → Option Value} {ρ π : List Addr} {H : Hp} {st : Sto} {W : XK} {Q : VK} {al : Bool} {x y : D} {v u : V}, SR X.K mg ρ π H st → RD X.K mg ρ π H x v → RD X.K mg ρ π H y u → Fin X.K mg (RelD X.K mg π) W ρ π H (binD al b x y st) Q → r v u H Q := by
  cases o <;> simp [bopOf] at e <;> subst e
  · exact ⟨_, op_addAll, fun s rx ry h => add_ok s rx ry h⟩
  · exact ⟨_, op_sub, fun s rx ry h => sub_ok s rx ry h⟩
  · exact ⟨_, op_mulAll, fun s rx ry h => mul_ok s rx ry h⟩
  · exact ⟨_, op_mod, fun s rx ry h => mod_ok s rx ry h⟩
  · exact ⟨_, op_pow, fun s rx ry h => pow_ok s rx ry h⟩
  · exact ⟨_, op_fdiv, fun s rx ry h => fdiv_ok s rx ry h⟩
/-! ### comparisons -/
theorem rel_ok {f : Int → Int → Bool} (s : SR X.K mg ρ π H st) (rx : RD X.K mg ρ π H x v) (ry : RD X.K mg ρ π H y u) (h : Fin X.K mg (RelD X.K mg π) W ρ π H (relD f x y st) Q) : rI0 (fun i j => .bl (f i j)) v u H Q := by
  unfold relD at h
  split at h
  · cases rx; cases ry
    exact ⟨_, _, rfl, rfl, h.here s (.bl _)⟩
  · exact h.elim
def rEqQ (K : PySem.W.Frag) (neg : Bool) : R2 := fun x y H Q => ∃ d e, Dq K H x d ∧ Dq K H y e ∧ SeqAt.shaped d = true ∧ SeqAt.shaped e = true ∧ Q (.bl (neg != PyData.eqv d e)) H
theorem op_eqQ (hu : X.A.units + 64 < cLine) : OpR X (compareOp .Eq) (rEqQ X.K false) := by
  intro pins s σ H x y v u Q I rx ry h
  obtain ⟨d, e, hd, he, sd, se, q⟩ := h
  obtain ⟨as, r1, _⟩ := Dq.reads I d x v hd rx
  obtain ⟨bs, r2, _⟩ := Dq.reads I e y u he ry
  exact SeqAt.compareEq_shaped r1 r2 sd se hu ⟨.bl _, H, I, by simp [L2.RelV], q⟩
theorem op_neQ (hu : X.A.units + 64 < cLine) : OpR X (compareOp .NotEq) (rEqQ X.K true) := by
  intro pins s σ H x y v u Q I rx ry h
  obtain ⟨d, e, hd, he, sd, se, q⟩ := h
  obtain ⟨as, r1, _⟩ := Dq.reads I d x v hd rx
  obtain ⟨bs, r2, _⟩ := Dq.reads I e y u he ry
  exact SeqAt.compareNe_shaped r1 r2 sd se hu ⟨.bl _, H, I, by simp [L2.RelV], q⟩
abbrev rEqAll (K : PySem.W.Frag) : R2 := fun x y H Q => rEq x y H Q ∨ rEqQ K false x y H Q
abbrev rNeAll (K : PySem.W.Frag) : R2 := fun x y H Q => rNe x y H Q ∨ rEqQ K true x y H Q
theorem eqD_ok (s : SR X.K mg ρ π H st) (rx : RD X.K mg ρ π H x v) (ry : RD X.K mg ρ π H y u) {k : Bool} (e : eqD st x y = some k) : ∃ d d', Dq X.K H v d ∧ Dq X.K H u d' ∧ SeqAt.shaped d = true ∧ SeqAt.shaped d' = true ∧ k = PyData.eqv d d' := by
  unfold eqD at e
  split at e
  · rename_i p q h1 h2
    split at e
    · rename_i hc
      exact ⟨p, q, toPy_ok s _ _ _ _ rx h1, toPy_ok s _ _ _ _ ry h2, hc.1, hc.2, (Option.some.inj e).symm⟩
    · cases e
  · cases e
theorem eq_ok (s : SR X.K mg ρ π H st) (rx : RD X.K mg ρ π H x v) (ry : RD X.K mg ρ π H y u) (h : Fin X.K mg (RelD X.K mg π) W ρ π H (eqDD false x y st) Q) : rEqAll X.K v u H Q := by
  unfold eqDD at h
  split at h
  · cases rx; cases ry
    refine .inl ⟨rfl, ?_⟩
    have := h.here s (.bl _)
    simpa using this
  · cases rx; cases ry
    refine .inl ⟨rfl, ?_⟩
    have := h.here s (.bl _)
    simpa using this
  · obtain ⟨k, e, h⟩ := Fin.opt h
    obtain ⟨d, d', h1, h2, s1, s2, rfl⟩ := eqD_ok s rx ry e
    exact .inr ⟨d, d', h1, h2, s1, s2, h.here s (.bl _)⟩
theorem ne_ok (s : SR X.K mg ρ π H st) (rx : RD X.K mg ρ π H x v) (ry : RD X.K mg ρ π H y u) (h : Fin X.K mg (RelD X.K mg π) W ρ π H (eqDD true x y st) Q) : rNeAll X.K v u H Q := by
  unfold eqDD at h
  split at h
  · cases rx; cases ry
    refine .inl ⟨rfl, ?_⟩
    have := h.here s (.bl _)
    simpa using this
  · cases rx; cases ry
    refine .inl ⟨rfl, ?_⟩
    have := h.here s (.bl _)
    simpa using this
  · obtain ⟨k, e, h⟩ := Fin.opt h
    obtain ⟨d, d', h1, h2, s1, s2, rfl⟩ := eqD_ok s rx ry e
    exact .inr ⟨d, d', h1, h2, s1, s2, h.here s (.bl _)⟩
theorem isN_ok (s : SR X.K mg ρ π H st) (rx : RD X.K mg ρ π H x v) (ry : RD X.K mg ρ π H y u) (h : Fin X.K mg (RelD X.K mg π) W ρ π H (isNoneD false x y st) Q) : u = .non ∧ Q (.bl (decide (v = .non))) H := by
  unfold isNoneD at h
  split at h
  · cases ry
    refine ⟨rfl, ?_⟩
    cases rx <;> exact h.here s (.bl _)
  · exact h.elim
theorem notN_ok (s : SR X.K mg ρ π H st) (rx : RD X.K mg ρ π H x v) (ry : RD X.K mg ρ π H y u) (h : Fin X.K mg (RelD X.K mg π) W ρ π H (isNoneD true x y st) Q) : u = .non ∧ Q (.bl (!decide (v = .non))) H := by
  unfold isNoneD at h
  split at h
  · cases ry
    refine ⟨rfl, ?_⟩
    cases rx <;> exact h.here s (.bl _)
  · exact h.elim
theorem flat_ok {K : PySem.W.Frag} (r : RD K mg ρ π H x v) (f : flatD x = true) : flatV v = true := by
  cases r <;> simp [flatD] at f <;> rfl
theorem eqF_ok {K : PySem.W.Frag} (r : RD K mg ρ π H x v) (q : RD K mg ρ π H y u) (f : flatD x = true) (g : flatD y = true) : eqF x y = eqV v u := by
  cases r <;> simp [flatD] at f <;> cases q <;> simp [flatD] at g <;> rfl
theorem flats_ok {K : PySem.W.Frag} : ∀ {xs : List D} {vs : List V}, RDs K mg ρ π H xs vs → xs.all flatD = true → vs.all flatV = true
  | [], _, r, _ => by cases r; rfl
  | x :: xs, _, r, f => by
    cases r with
    | cons h t =>
      rw [List.all_cons, Bool.and_eq_true] at f
      rw [List.all_cons, flat_ok h f.1, flats_ok t f.2]
      rfl
theorem inF_ok {K : PySem.W.Frag} (q : RD K mg ρ π H y u) (g : flatD y = true) : ∀ {xs : List D} {vs : List V}, RDs K mg ρ π H xs vs → xs.all flatD = true → (xs.any fun z => eqF z y) = inV u vs
  | [], _, r, _ => by cases r; rfl
  | x :: xs, _, r, f => by
    cases r with
    | cons h t =>
      rw [List.all_cons, Bool.and_eq_true] at f
      have ih := inF_ok q g t f.2
      unfold inV at ih ⊢
      rw [List.any_cons, List.any_cons, eqF_ok h q f.1 g, ih]
theorem among_ok (s : SR X.K mg ρ π H st) {d : D} {v : V} {xs : List D} (r : RD X.K mg ρ π H d v) (e : among st d = some xs) : ∃ a vs, v = .ref a ∧ (SqL X.K H a vs ∨ SqT X.K H a vs) ∧ RDs X.K mg ρ π H xs vs := by
  unfold among at e
  split at e
  · cases r with
    | tup h r =>
      have := Option.some.inj e
      subst this
      exact ⟨_, _, rfl, .inr h, r⟩
  · obtain ⟨a, vs, e1, h1, r1⟩ := items_ok s r e
    exact ⟨a, vs, e1, .inl (SqL.of h1), r1⟩
theorem in_ok {neg : Bool} (s : SR X.K mg ρ π H st) (rx : RD X.K mg ρ π H x v) (ry : RD X.K mg ρ π H y u) (h : Fin X.K mg (RelD X.K mg π) W ρ π H (inD neg x y st) Q) : rIn X.K neg v u H Q := by
  unfold inD at h
  split at h
  · rename_i ys e
    split at h
    · rename_i hf
      rw [Bool.and_eq_true] at hf
      obtain ⟨a, vs, rfl, h1, r1⟩ := among_ok s ry e
      refine ⟨a, vs, rfl, h1, flat_ok rx hf.1, flats_ok r1 hf.2, ?_⟩
      have := h.here s (.bl _)
      rw [inF_ok rx hf.1 r1 hf.2] at this
      cases neg with
      | true => simpa using this
      | false => simpa using this
    · exact h.elim
  · exact h.elim
/-- the rule of a comparison -/
theorem cmp_rule (hu : X.A.units + 64 < cLine) {o : CmpOp} {b : COp} (e : copOf o = some b) : ∃ r : R2, OpR X (compareOp o) r ∧
    ∀ {mg : Str → Option Value} {ρ π : List Addr} {H : Hp} {st : Sto} {W : XK} {Q : VK} {x y : D} {v u : V}, SR X.K mg ρ π H st → RD X.K mg ρ π H x v → RD X.K mg ρ π H y u → Fin X.K mg (RelD X.K mg π) W ρ π H (cmpD b x y st) Q → r v u H Q := by
  cases o <;> simp [copOf] at e <;> subst e
  · exact ⟨_, op_eq.or (op_eqQ hu), fun s rx ry h => eq_ok s rx ry h⟩
  · exact ⟨_, op_ne.or (op_neQ hu), fun s rx ry h => ne_ok s rx ry h⟩
  · exact ⟨_, op_lt, fun s rx ry h => rel_ok s rx ry h⟩
  · exact ⟨_, op_le, fun s rx ry h => rel_ok s rx ry h⟩
  · exact ⟨_, op_gt, fun s rx ry h => rel_ok s rx ry h⟩
  · exact ⟨_, op_ge, fun s rx ry h => rel_ok s rx ry h⟩
  · exact ⟨_, op_in_seq, fun s rx ry h => in_ok s rx ry h⟩
  · exact ⟨_, op_notIn_seq, fun s rx ry h => in_ok s rx ry h⟩
/-- what a comparison gives is a truth -/
theorem cmp_bl {b : COp} {st' : Sto} {z : D} (h : cmpD b x y st = .ok z st') : (∃ k, z = .bl k) ∧ st' = st := by
  unfold cmpD at h
  split at h
  all_goals first
    | (unfold relD at h; split at h <;> first | (cases h; exact ⟨⟨_, rfl⟩, rfl⟩) | cases h)
    | (unfold isNoneD at h; split at h <;> first | (cases h; exact ⟨⟨_, rfl⟩, rfl⟩) | cases h)
    | (unfold inD at h
       split at h
       · split at h
         · cases h; exact ⟨⟨_, rfl⟩, rfl⟩
         · cases h
       · cases h)
    | (unfold eqDD at h
       split at h
       · cases h; exact ⟨⟨_, rfl⟩, rfl⟩
       · cases h; exact ⟨⟨_, rfl⟩, rfl⟩
       · cases hh : eqD st x y with
         | none => rw [hh] at h; cases h
         | some k => rw [hh] at h; cases h; exact ⟨⟨_, rfl⟩, rfl⟩)
/-! ### truth, kinds -/
theorem truth_ok (s : SR X.K mg ρ π H st) (rx : RD X.K mg ρ π H x v) {k : Bool} (e : truth st x = some k) : TruV X.K v H k := by
  have hemp : ∀ {xs : List D} {vs : List V}, RDs X.K mg ρ π H xs vs → (!xs.isEmpty) = !vs.isEmpty := fun r => by cases r <;> rfl
  cases rx <;> simp only [truth] at e
  · exact (Option.some.inj e).symm
  · exact (Option.some.inj e).symm
  · exact (Option.some.inj e).symm
  · split at e
    · rename_i hz
      exact ⟨most_le hz, (Option.some.inj e).symm⟩
    · cases e
  · rename_i h r
    exact .inr (.inl ⟨_, h, by rw [← hemp r]; exact (Option.some.inj e).symm⟩)
  · rename_i h n m r
    exact .inl ⟨_, SqL.of h, by rw [← hemp r]; exact (Option.some.inj e).symm⟩
  · rename_i h n m ek r
    refine .inr (.inr ⟨_, h, ?_⟩)
    rw [← Option.some.inj e]
    subst ek
    cases ‹List (Key × V)› <;> rfl
  · rename_i a ns h
    refine .inl ⟨_, h.sq, ?_⟩
    rw [← Option.some.inj e]
    cases ns <;> rfl
  · rename_i a n h
    split at e
    · rename_i xs hx
      obtain ⟨vs, h1, r1⟩ := s.atL h hx
      exact .inl ⟨_, SqL.of h1, by rw [← hemp r1]; exact (Option.some.inj e).symm⟩
    · rename_i ks xs hx
      cases s.ob _ _ _ h hx with
      | dct h1 ek r1 =>
        refine .inr (.inr ⟨_, h1, ?_⟩)
        rw [← Option.some.inj e]
        subst ek
        cases ‹List (Key × V)› <;> rfl
    · cases e
  · cases e
def tyName : Ty → String
  | .int => "int" | .bool => "bool" | .str => "str" | .tuple => "tuple" | .list => "list" | .dict => "dict"
theorem isTy_ok (s : SR X.K mg ρ π H st) (rx : RD X.K mg ρ π H x v) {t : Ty} {k : Bool} (e : isTy t x st = some k) : ∃ n, TyX X.K H v (.type n) ∧ kitB n (tyName t) = some k := by
  cases rx <;> simp only [isTy] at e
  · refine ⟨"NoneType", .base .non, ?_⟩
    rw [← e]; cases t <;> decide +kernel
  · refine ⟨"bool", .base (.bl _), ?_⟩
    rw [← e]; cases t <;> decide +kernel
  · refine ⟨"int", .base (.int _), ?_⟩
    rw [← e]; cases t <;> decide +kernel
  · refine ⟨"str", .base (.str _), ?_⟩
    rw [← e]; cases t <;> decide +kernel
  · rename_i h r
    refine ⟨"tuple", ?_, by rw [← e]; cases t <;> decide +kernel⟩
    rcases h with h | ⟨o, its, n, h1, h2, _⟩
    · rcases h with h | ⟨o, h⟩
      · exact .base (.tup h)
      · exact .fTuple h
    · exact .kTuple h1 h2
  · rename_i h n m r
    refine ⟨"list", .base (.lst h), by rw [← e]; cases t <;> decide +kernel⟩
  · rename_i h n m ek r
    refine ⟨"dict", .base (.dK h), by rw [← e]; cases t <;> decide +kernel⟩
  · cases t <;> cases e
  · rename_i a n h
    split at e
    · rename_i xs hx
      obtain ⟨vs, h1, r1⟩ := s.atL h hx
      exact ⟨"list", .base (.lst h1), by rw [← e]; cases t <;> decide +kernel⟩
    · rename_i ks xs hx
      cases s.ob _ _ _ h hx with
      | dct h1 ek r1 => exact ⟨"dict", .base (.dK h1), by rw [← e]; cases t <;> decide +kernel⟩
    · cases e
  · cases t <;> cases e
end
end Ev
/-! Defs: what they promise, where no text is being made (guards). -/
namespace Ev
open PySem PySem.Spec PyProof.Rows L2

/-- as FnOk, called where no repr runs -/
structure FnG (P : Program) (w : World) (K : PySem.W.Frag) (mg : Str → Option Value) (base : Heap) (k : Nat) (f : Addr) (fd : FuncData) (ps : List Str) (sp : Sp) : Prop where
  len : ∀ vs H Q E, sp vs H Q E → vs.length = ps.length
  run : ∀ (A : Around) (outer : List PySem.Env) (s : Shared) (H : Hp) (args : Args) (us : List Value) (vs : List V) (Q : VK) (E : XK),
    Room k A → A.guards = some [] → Env0 P w K mg base A outer s H → BindsTo s fd args (ps.zip us) → Vals vs us → sp vs H Q E →
    codeAny (model P w) A (.call (.ref f) args) (CR (L2.CX P w) outer P w H s Q E) s

/-- what a callee gives, by the evaluator's word -/
def spC (K : PySem.W.Frag) (mg : Str → Option Value) (C : Cal) (x : Str) : Sp := fun vs H Q E =>
  ∃ ρ π st ds, ds.length = (C.par x).length ∧ SR K mg ρ π H st ∧ RDs K mg ρ π H ds vs ∧ Fin K mg (RelD K mg π) E ρ π H (C.run x ds st) Q

/-- a def that may be called -/
structure Callee (P : Program) (w : World) (K : PySem.W.Frag) (mg : Str → Option Value) (base : Heap) (k : Nat) (C : Cal) (pats : List (Nat × List Str)) (x : Str) (f : Addr) : Prop where
  at_ : mg x = some (.ref f)
  kp : PySem.W.keepIn K (.ref f) = true
  ex : ∃ fd : FuncData, FnG P w K mg base k f fd (C.par x) (spC K mg C x) ∧
    (∀ (s : Shared) (us : List Value), K.In s.heap → us.length = (C.par x).length → BindsTo s fd ⟨us, []⟩ ((C.par x).zip us)) ∧
    ∀ p ∈ pats, ∀ (s : Shared) (us ws r : List Value), K.In s.heap → us.length = p.1 → ws.length = p.2.length → p.2 ≠ [] → permArgs (C.par x) p.2 (us ++ ws) = some r → BindsTo s fd ⟨us, p.2.zip ws⟩ ((C.par x).zip r)

theorem pick_rel {α β : Type} {F : α → β → Prop} {xs : List α} {ys : List β} (h : ∀ (i : Nat) (a : α), xs[i]? = some a → ∃ b, ys[i]? = some b ∧ F a b) : ∀ {ix : List Nat} {r : List α}, ix.mapM (fun i => xs[i]?) = some r →
    ∃ r', ix.mapM (fun i => ys[i]?) = some r' ∧ Paired F r r'
  | [], _, e => by
    simp at e
    subst e
    exact ⟨[], by simp, .nil⟩
  | i :: ix, _, e => by
    rw [List.mapM_cons] at e
    cases hx : xs[i]? with
    | none => rw [hx] at e; simp at e
    | some a =>
      rw [hx] at e
      cases hr : ix.mapM (fun i => xs[i]?) with
      | none => rw [hr] at e; simp at e
      | some r =>
        rw [hr] at e
        simp at e
        subst e
        obtain ⟨b, e1, f⟩ := h i a hx
        obtain ⟨r', e2, g⟩ := pick_rel h hr
        exact ⟨b :: r', by rw [List.mapM_cons, e1, e2]; rfl, .cons f g⟩
theorem Paired.len {α β : Type} {F : α → β → Prop} : ∀ {l₁ : List α} {l₂ : List β}, Paired F l₁ l₂ → l₁.length = l₂.length
  | _, _, .nil => rfl
  | _, _, .cons _ t => by rw [List.length_cons, List.length_cons, Paired.len t]
theorem perm_rel {α β : Type} {F : α → β → Prop} {ps ks : List Str} {xs r : List α} {ys : List β} (h : Paired F xs ys) (e : permArgs ps ks xs = some r) : ∃ r', permArgs ps ks ys = some r' ∧ Paired F r r' := by
  have hl : xs.length = ys.length := Paired.len h
  have hg : ∀ {xs : List α} {ys : List β}, Paired F xs ys → ∀ (i : Nat) (a : α), xs[i]? = some a → ∃ b, ys[i]? = some b ∧ F a b := by
    intro xs ys h
    induction h with
    | nil => intro i a e; simp at e
    | cons f t ih =>
      intro i a e
      cases i with
      | zero => simp at e; subst e; exact ⟨_, rfl, f⟩
      | succ i => exact ih i a (by simpa using e)
  unfold permArgs at e ⊢
  split at e
  · rename_i hk
    rw [if_pos hk]
    split at e
    · rename_i hl2
      rw [if_pos (by rw [← hl]; exact hl2)]
      cases e
      exact ⟨ys, rfl, h⟩
    · cases e
  · rename_i hk
    rw [if_neg hk]
    split at e
    · rename_i hl2
      rw [if_pos (by rw [← hl]; exact hl2)]
      rw [Option.bind_eq_some_iff] at e
      obtain ⟨ix, e1, e2⟩ := e
      obtain ⟨r', e3, g⟩ := pick_rel (hg h) e2
      exact ⟨r', by rw [← hl, e1]; exact e3, g⟩
    · cases e
theorem paired_of {K : PySem.W.Frag} {mg : Str → Option Value} {ρ π : List Addr} {H : Hp} : ∀ {ds : List D} {vs : List V}, RDs K mg ρ π H ds vs → Paired (fun d v => RD K mg ρ π H d v) ds vs
  | _, _, .nil => .nil
  | _, _, .cons h t => .cons h (paired_of t)
theorem of_paired {K : PySem.W.Frag} {mg : Str → Option Value} {ρ π : List Addr} {H : Hp} : ∀ {ds : List D} {vs : List V}, Paired (fun d v => RD K mg ρ π H d v) ds vs → RDs K mg ρ π H ds vs
  | _, _, .nil => .nil
  | _, _, .cons h t => .cons h (of_paired t)

section
variable {X : Cx} {pins : List (Addr × Obj)} {σ : L2.St} {H : Hp} {s : Shared} {W : WX} {k : Nat} {C : Cal} {pats : List (Nat × List Str)} {x : Str} {f : Addr}
/-- the callee runs -/
theorem run_callee (F : Callee X.prog X.w X.K X.mg X.base k C pats x f) (hr : Room k X.A) (hg : X.A.guards = some []) (tk : Takes X W) (I : L2.Inv X pins σ H s) {ks : List Str} {us ws : List Value} {vs zs : List V} {Q : VK}
    {ρ π : List Addr} {st : Sto} {ds es ds' : List D} (S : SR X.K X.mg ρ π H st) (r1 : RDs X.K X.mg ρ π H ds vs) (r2 : RDs X.K X.mg ρ π H es zs) (q1 : Vals vs us) (q2 : Vals zs ws) (hk : ks = [] ∧ es = [] ∨ (ds.length, ks) ∈ pats ∧ es.length = ks.length)
    (hp : permArgs (C.par x) ks (ds ++ es) = some ds') (h : Fin X.K X.mg (RelD X.K X.mg π) (fun c d H => W c d σ H) ρ π H (C.run x ds' st) Q) : wpAny (model X.prog X.w) X.A (call (.ref f) us (ks.zip ws)) (EP X pins σ Q) X.xe s := by
  obtain ⟨fd, F1, F2, F3⟩ := F.ex
  have fin : ∀ {args : Args} {us' : List Value} {vs' : List V}, BindsTo s fd args ((C.par x).zip us') → Vals vs' us' → RDs X.K X.mg ρ π H ds' vs' → us'.length = (C.par x).length →
      codeAny (model X.prog X.w) X.A (.call (.ref f) args) (fun r s' => match r with | .ok (.ret v) => EP X pins σ Q v s' | .ok _ => False | .error e => X.xe e s') s := by
    intro args us' vs' hb hv hd hl
    have hlen : ds'.length = (C.par x).length := by rw [hd.length, hv.length, hl]
    refine codeAny_mono (F1.run X.A X.stack s H args us' vs' Q (fun c d H => W c d σ H) hr hg I.env0 hb hv ⟨ρ, π, st, ds', hlen, S, hd, h⟩) fun r s' hq => ?_
    cases r with
    | error e => exact tk _ _ (XE.of_call I (fun _ _ _ z => z) hq)
    | ok fl =>
      cases fl with
      | ret u => exact I.after hq
      | next => exact False.elim hq
      | brk => exact False.elim hq
      | cont => exact False.elim hq
  refine wpAny_call (codeAny_mono (R := fun r s' => match r with | .ok (.ret v) => EP X pins σ Q v s' | .ok _ => False | .error e => X.xe e s') ?_ fun r s' hq => ?_)
  · rcases hk with ⟨rfl, rfl⟩ | ⟨hm, hl⟩
    · cases r2
      cases q2
      rw [List.append_nil] at hp
      have hp' := hp
      unfold permArgs at hp'
      rw [if_pos rfl] at hp'
      split at hp'
      · rename_i hl
        cases hp'
        have hl2 : us.length = (C.par x).length := by rw [← q1.length, ← r1.length, hl]
        exact fin (F2 s us I.kIn hl2) q1 r1 hl2
      · cases hp'
    · by_cases hke : ks = []
      · subst hke
        cases r2 with
        | cons _ _ => cases hl
        | nil =>
          cases q2
          rw [List.append_nil] at hp
          have hp' := hp
          unfold permArgs at hp'
          rw [if_pos rfl] at hp'
          split at hp'
          · rename_i hl
            cases hp'
            have hl2 : us.length = (C.par x).length := by rw [← q1.length, ← r1.length, hl]
            exact fin (F2 s us I.kIn hl2) q1 r1 hl2
          · cases hp'
      · obtain ⟨vs', e1, g1⟩ := perm_rel (paired_of (r1.append r2)) hp
        obtain ⟨us', e2, g2⟩ := perm_rel (F := L2.RelV) (Vals.append q1 q2) e1
        have hl3 : us'.length = (C.par x).length := by
          unfold permArgs at e2
          rw [if_neg hke] at e2
          split at e2
          case isFalse => cases e2
          rw [Option.bind_eq_some_iff] at e2
          obtain ⟨ix, a1, a2⟩ := e2
          have b1 : us'.length = ix.length := by
            have : ∀ {ix : List Nat} {r : List Value}, ix.mapM (fun i => (us ++ ws)[i]?) = some r → r.length = ix.length := by
              intro ix
              induction ix with
              | nil => intro r e; simp at e; subst e; rfl
              | cons i ix ih =>
                intro r e
                rw [List.mapM_cons] at e
                cases hx : (us ++ ws)[i]? with
                | none => rw [hx] at e; simp at e
                | some a =>
                  rw [hx] at e
                  cases hr : ix.mapM (fun i => (us ++ ws)[i]?) with
                  | none => rw [hr] at e; simp at e
                  | some r' =>
                    rw [hr] at e
                    simp at e
                    subst e
                    rw [List.length_cons, List.length_cons, ih hr]
            exact this a2
          have b2 : ix.length = (C.par x).length := by
            unfold permIx at a1
            have : ∀ {l : List (Str × Nat)} {r : List Nat} {g : Str × Nat → Option Nat}, l.mapM g = some r → r.length = l.length := by
              intro l
              induction l with
              | nil => intro r g e; simp at e; subst e; rfl
              | cons i l ih =>
                intro r g e
                rw [List.mapM_cons] at e
                cases hx : g i with
                | none => rw [hx] at e; simp at e
                | some a =>
                  rw [hx] at e
                  cases hr : l.mapM g with
                  | none => rw [hr] at e; simp at e
                  | some r' =>
                    rw [hr] at e
                    simp at e
                    subst e
                    rw [List.length_cons, List.length_cons, ih hr]
            have := this a1
            rw [this, List.length_zipIdx]
          rw [b1, b2]
        have hus : us.length = ds.length := by rw [← q1.length, ← r1.length]
        have hws : ws.length = ks.length := by rw [← q2.length, ← r2.length, hl]
        exact fin (F3 _ hm s us ws us' I.kIn hus hws hke e2) g2 (of_paired g1) hl3
  · cases r with
    | error e => exact hq
    | ok fl =>
      cases fl with
      | ret u => exact hq
      | next => exact False.elim hq
      | brk => exact False.elim hq
      | cont => exact False.elim hq
end
end Ev
/-! Expressions: the readings that the evaluator's word gives. -/
namespace Ev
open PySem PySem.Spec PyProof.Rows L2

section
variable {α β : Type} (X : Cx) (W : WX)
/-- the reading of what the evaluator gives -/
def tF (Rel : List Addr → List Addr → Hp → α → β → Prop) (r : Env → Sto → Out α) : L2.St → Hp → (β → Hp → Prop) → Prop := fun σ H Q =>
  ∃ ρ π env st, SR X.K X.mg ρ π H st ∧ RE X.K X.mg ρ π H env σ ∧ Fin X.K X.mg (Rel π) (fun c d H => W c d σ H) ρ π H (r env st) Q
abbrev tM (r : Env → Sto → Out D) : TE := tF X W (RelD X.K X.mg) r
abbrev tMs (r : Env → Sto → Out (List D)) : TA := tF X W (RelDs X.K X.mg) r
abbrev tMB (r : Env → Sto → Out Bool) : TT := tF X W (fun _ => RelEq Bool) r
abbrev tMO (r : Env → Sto → Out (Option Int)) : TO := tF X W (fun _ => RelEq (Option Int)) r
end

section
variable {X : Cx} {W : WX} {e : Expr}
theorem _root_.L2.PE.imp {t t' : TE} (h : PE X e t) (f : ∀ σ H Q, t' σ H Q → t σ H Q) : PE X e t' := ⟨fun pins s σ H Q I hw => h.run pins s σ H Q I (f σ H Q hw)⟩
theorem _root_.L2.PT.imp {t t' : TT} (h : PT X e t) (f : ∀ σ H Q, t' σ H Q → t σ H Q) : PT X e t' := ⟨fun pins s σ H Q I hw => h.run pins s σ H Q I (f σ H Q hw)⟩
theorem _root_.L2.PW.imp {t t' : TT} (h : PW X e t) (f : ∀ σ H Q, t' σ H Q → t σ H Q) : PW X e t' := ⟨fun whole pins s σ H Q I hw => h.run whole pins s σ H Q I (f σ H Q hw)⟩
theorem _root_.L2.PA.imp {es : List Expr} {t t' : TA} (h : PA X es t) (f : ∀ σ H Q, t' σ H Q → t σ H Q) : PA X es t' := ⟨fun pos pins s σ H Q I hw => h.run pos pins s σ H Q I (f σ H Q hw)⟩
theorem _root_.L2.PK.imp {es : List Keyword} {t t' : TA} (h : PK X es t) (f : ∀ σ H Q, t' σ H Q → t σ H Q) : PK X es t' := ⟨fun pos pins s σ H Q I hw => h.run pos pins s σ H Q I (f σ H Q hw)⟩
theorem _root_.L2.PO.imp {o : Option Expr} {t t' : TO} (h : PO X o t) (f : ∀ σ H Q, t' σ H Q → t σ H Q) : PO X o t' := ⟨fun pins s σ H Q I hw => h.run pins s σ H Q I (f σ H Q hw)⟩
theorem _root_.L2.PS.imp {st : Stmt} {t t' : TS} (h : PS X st t) (f : ∀ D σ H, t' D σ H → t D σ H) : PS X st t' := ⟨fun pins s σ H D I hw => h.run pins s σ H D I (f D σ H hw)⟩
theorem _root_.L2.PSs.imp {st : List Stmt} {t t' : TS} (h : PSs X st t) (f : ∀ D σ H, t' D σ H → t D σ H) : PSs X st t' := ⟨fun pins s σ H D I hw => h.run pins s σ H D I (f D σ H hw)⟩
theorem _root_.L2.PG.imp {t t' : TG} (h : PG X e t) (f : ∀ v σ H Q, t' v σ H Q → t v σ H Q) : PG X e t' := ⟨fun pins s σ H v u Q I r hw => h.run pins s σ H v u Q I r (f v σ H Q hw)⟩
theorem _root_.L2.PI.imp {tg : Expr} {t t' : TI} (h : PI X tg e t) (f : ∀ σ H R, t' σ H R → t σ H R) : PI X tg e t' := ⟨fun pins s σ H R I hw => h.run pins s σ H R I (f σ H R hw)⟩
/-- a rule by values, with the state to read the heap by -/
theorem _root_.L2.PE.never {t : TE} (f : ∀ σ H Q, ¬ t σ H Q) : PE X e t := ⟨fun pins s σ H Q I hw => absurd hw (f σ H Q)⟩
end

section
variable {α β α' β' : Type} {X : Cx} {W : WX} {Rel : List Addr → List Addr → Hp → α → β → Prop} {Rel' : List Addr → List Addr → Hp → α' → β' → Prop}
/-- one thing after another: what the first leaves to the second -/
theorem tF.bnd {ra : Env → Sto → Out α} {f : Env → α → Sto → Out α'} {σ : L2.St} {H : Hp} {Q : β' → Hp → Prop} {P : β → Hp → Prop} (h : tF X W Rel' (fun env st => (ra env st).bnd (f env)) σ H Q)
    (k : ∀ ρ π env a st v H1, SR X.K X.mg ρ π H1 st → RE X.K X.mg ρ π H1 env σ → Rel π ρ H1 a v → Fin X.K X.mg (Rel' π) (fun c d H => W c d σ H) ρ π H1 (f env a st) Q → P v H1) : tF X W Rel ra σ H P := by
  obtain ⟨ρ, π, env, st, S, E, F⟩ := h
  exact ⟨ρ, π, env, st, S, E, F.bnd fun a st1 ρ1 H1 v e x S1 r F1 => k ρ1 π env a st1 v H1 S1 (E.mono x S.muts) r F1⟩
/-- the same stage, another word -/
theorem tF.mk {r : Env → Sto → Out α} {σ : L2.St} {H : Hp} {Q : β → Hp → Prop} {ρ π : List Addr} {env : Env} {st : Sto} (S : SR X.K X.mg ρ π H st) (E : RE X.K X.mg ρ π H env σ) (F : Fin X.K X.mg (Rel π) (fun c d H => W c d σ H) ρ π H (r env st) Q) : tF X W Rel r σ H Q :=
  ⟨ρ, π, env, st, S, E, F⟩
end

section
variable {X : Cx} {W : WX} {a b c : Expr} {pos : Pos} {ra rb rc : Env → Sto → Out D}
theorem pm_non {j : Nat} {p : Pos} : PE X (.Constant .none j p) (tM X W fun _ st => .ok .non st) := pe_non.imp fun σ H Q ⟨ρ, π, env, st, S, E, F⟩ => F.here S .non
theorem pm_bl {b : Bool} {j : Nat} {p : Pos} : PE X (.Constant (.bool b) j p) (tM X W fun _ st => .ok (.bl b) st) := pe_bl.imp fun σ H Q ⟨ρ, π, env, st, S, E, F⟩ => F.here S (.bl b)
theorem pm_int {i : Int} {j : Nat} {p : Pos} : PE X (.Constant (.int i) j p) (tM X W fun _ st => .ok (.int i) st) := pe_int.imp fun σ H Q ⟨ρ, π, env, st, S, E, F⟩ => F.here S (.int i)
theorem pm_str {x : Str} {j : Nat} {p : Pos} : PE X (.Constant (.str x) j p) (tM X W fun _ st => .ok (.str x) st) := pe_str.imp fun σ H Q ⟨ρ, π, env, st, S, E, F⟩ => F.here S (.str x)
theorem pm_var {i : Nat} {x : Str} {p : Pos} (hN : X.N[i]? = some x) (hv : Vis X.env.scope x) (h1 : (x == ("__debug__" : Str)) = false) (h2 : (x == ("__classdict__" : Str)) = false) :
    PE X (.Name x p) (tM X W fun env st => match env[i]? with
      | some (some d) => .ok d st
      | _ => .bad) := (pe_var hN hv h1 h2).imp fun σ H Q ⟨ρ, π, env, st, S, E, F⟩ => by
  simp only at F
  split at F
  · rename_i d hd
    obtain ⟨v, e, r⟩ := E.2 i d hd
    exact ⟨v, e, F.here S r⟩
  · exact F.elim
theorem pm_fn {x : Str} {f : Addr} {p : Pos} (hg : Gl X x) (hm : X.mg x = some (.ref f)) (h1 : (x == ("__debug__" : Str)) = false) : PE X (.Name x p) (tM X W fun _ st => .ok (.fn x) st) :=
  (pe_glob (v := .ref f) hg hm rfl h1).imp fun σ H Q ⟨ρ, π, env, st, S, E, F⟩ => F.here S (.fn hm)
theorem pm_co {x : Str} {v : V} {u : Value} {d : D} {p : Pos} (hg : Gl X x) (hm : X.mg x = some u) (r : L2.RelV v u) (rd : ∀ ρ π H, RD X.K X.mg ρ π H d v) (h1 : (x == ("__debug__" : Str)) = false) : PE X (.Name x p) (tM X W fun _ st => .ok d st) :=
  (pe_glob hg hm r h1).imp fun σ H Q ⟨ρ, π, env, st, S, E, F⟩ => F.here S (rd ρ π H)
theorem pm_bin {al : Bool} {o : Operator} {bo : BOp} (he : bopOf o = some bo) (ha : PE X a (tM X W ra)) (hb : PE X b (tM X W rb)) :
    PE X (.BinOp a o b pos) (tM X W fun env st => (ra env st).bnd fun x st => (rb env st).bnd fun y st => binD al bo x y st) := by
  obtain ⟨r, hr, hq⟩ := bin_rule (X := X) he
  refine (pe_op hr ha hb).imp fun σ H Q h => ?_
  refine tF.bnd h fun ρ π env x st v H1 S E rx F => ?_
  refine ⟨ρ, π, env, st, S, E, F.bnd fun y st1 ρ1 H2 u e x1 S1 ry F1 => ?_⟩
  exact hq S1 (rx.mono x1 S.muts) ry F1
theorem pm_neg (ha : PE X a (tM X W ra)) : PE X (.UnaryOp .USub a pos) (tM X W fun env st => (ra env st).bnd fun x st => negP x st) := by
  refine (pe_un un_neg ha).imp fun σ H Q h => ?_
  refine tF.bnd h fun ρ π env x st v H1 S E rx F => ?_
  unfold negP at F
  split at F
  · cases rx
    exact ⟨_, rfl, F.here S (.int _)⟩
  · exact F.elim
/-- a value's truth -/
theorem test_of {ρ π : List Addr} {H : Hp} {st : Sto} {x : D} {v : V} {α β : Type} {Rel : List Addr → Hp → α → β → Prop} {W : XK} {f : Bool → Sto → Out α} {Q : β → Hp → Prop} (S : SR X.K X.mg ρ π H st) (rx : RD X.K X.mg ρ π H x v)
    (F : Fin X.K X.mg Rel W ρ π H ((opt (truth st x) st).bnd f) Q) : ∃ k, TruV X.K v H k ∧ Fin X.K X.mg Rel W ρ π H (f k st) Q := by
  obtain ⟨k, e, F1⟩ := Fin.opt F
  exact ⟨k, truth_ok S rx e, F1⟩
theorem pm_not (ha : PE X a (tM X W ra)) : PE X (.UnaryOp .Not a pos) (tM X W fun env st => (ra env st).bnd fun x st => (opt (truth st x) st).bnd fun k st => .ok (.bl !k) st) := by
  refine (pe_notT ha).imp fun σ H Q h => ?_
  refine tF.bnd h fun ρ π env x st v H1 S E rx F => ?_
  obtain ⟨k, t, F1⟩ := test_of S rx F
  exact ⟨k, t, F1.here S (.bl _)⟩
theorem pm_and {rest : List Expr} (ha : PE X a (tM X W ra)) (hb : PE X (.BoolOp .And (b :: rest) pos) (tM X W rb)) :
    PE X (.BoolOp .And (a :: b :: rest) pos) (tM X W fun env st => (ra env st).bnd fun x st => (opt (truth st x) st).bnd fun k st => if k then rb env st else .ok x st) := by
  refine (pe_andT ha hb).imp fun σ H Q h => ?_
  refine tF.bnd h fun ρ π env x st v H1 S E rx F => ?_
  obtain ⟨k, t, F1⟩ := test_of S rx F
  refine ⟨k, t, ?_⟩
  cases k with
  | true => exact ⟨ρ, π, env, st, S, E, F1⟩
  | false => exact F1.here S rx
theorem pm_or {rest : List Expr} (ha : PE X a (tM X W ra)) (hb : PE X (.BoolOp .Or (b :: rest) pos) (tM X W rb)) :
    PE X (.BoolOp .Or (a :: b :: rest) pos) (tM X W fun env st => (ra env st).bnd fun x st => (opt (truth st x) st).bnd fun k st => if k then .ok x st else rb env st) := by
  refine (pe_orT ha hb).imp fun σ H Q h => ?_
  refine tF.bnd h fun ρ π env x st v H1 S E rx F => ?_
  obtain ⟨k, t, F1⟩ := test_of S rx F
  refine ⟨k, t, ?_⟩
  cases k with
  | true => exact F1.here S rx
  | false => exact ⟨ρ, π, env, st, S, E, F1⟩
/-- the test of a value -/
abbrev tst (r : Env → Sto → Out D) : Env → Sto → Out Bool := fun env st => (r env st).bnd fun x st => opt (truth st x) st
theorem bnd_ok {α : Type} (o : Out α) : (o.bnd fun a st => .ok a st) = o := by cases o <;> rfl
theorem bnd_assoc {α β γ : Type} (o : Out α) (f : α → Sto → Out β) (g : β → Sto → Out γ) : (o.bnd f).bnd g = o.bnd fun a st => (f a st).bnd g := by cases o <;> rfl
theorem pm_ite {t : Expr} {rt : Env → Sto → Out D} (ht : PT X t (tMB X W (tst rt))) (ha : PE X a (tM X W ra)) (hb : PE X b (tM X W rb)) :
    PE X (.IfExp t a b pos) (tM X W fun env st => (rt env st).bnd fun x st => (opt (truth st x) st).bnd fun k st => if k then ra env st else rb env st) := by
  refine (pe_ifExp ht ha hb).imp fun σ H Q h => ?_
  have h' : tM X W (fun env st => (tst rt env st).bnd fun k st => if k then ra env st else rb env st) σ H Q := by
    simpa only [tst, bnd_assoc] using h
  refine tF.bnd h' fun ρ π env k st v H1 S E rx F => ?_
  cases rx
  cases k with
  | true => exact ⟨ρ, π, env, st, S, E, F⟩
  | false => exact ⟨ρ, π, env, st, S, E, F⟩
theorem notSet_mark {o : CmpOp} (h : notSet b = true) : behindInMarks o b = false := by
  cases b <;> first | rfl | cases h
theorem pm_isN {j : Nat} {p : Pos} (ha : PE X a (tM X W ra)) : PE X (.Compare a [.Is] [.Constant .none j p] pos) (tM X W fun env st => (ra env st).bnd fun x st => (Out.ok D.non st).bnd fun y st => cmpD .isN x y st) := by
  refine (pe_cmpR op_isN ha pe_non (nomark _)).imp fun σ H Q h => ?_
  refine tF.bnd h fun ρ π env x st v H1 S E rx F => ?_
  exact isN_ok S rx .non F
theorem pm_notN {j : Nat} {p : Pos} (ha : PE X a (tM X W ra)) : PE X (.Compare a [.IsNot] [.Constant .none j p] pos) (tM X W fun env st => (ra env st).bnd fun x st => (Out.ok D.non st).bnd fun y st => cmpD .notN x y st) := by
  refine (pe_cmpR op_notN ha pe_non (nomark _)).imp fun σ H Q h => ?_
  refine tF.bnd h fun ρ π env x st v H1 S E rx F => ?_
  exact notN_ok S rx .non F
theorem pm_cmp {o : CmpOp} {co : COp} (hu : X.A.units + 64 < cLine) (hn : notSet b = true) (he : copOf o = some co) (ha : PE X a (tM X W ra)) (hb : PE X b (tM X W rb)) :
    PE X (.Compare a [o] [b] pos) (tM X W fun env st => (ra env st).bnd fun x st => (rb env st).bnd fun y st => cmpD co x y st) := by
  obtain ⟨r, hr, hq⟩ := cmp_rule (X := X) hu he
  refine (pe_cmpR hr ha hb (notSet_mark hn)).imp fun σ H Q h => ?_
  refine tF.bnd h fun ρ π env x st v H1 S E rx F => ?_
  refine ⟨ρ, π, env, st, S, E, F.bnd fun y st1 ρ1 H2 u e x1 S1 ry F1 => ?_⟩
  exact hq S1 (rx.mono x1 S.muts) ry F1
theorem ptm_isN {j : Nat} {p : Pos} (ha : PE X a (tM X W ra)) : PT X (.Compare a [.Is] [.Constant .none j p] pos) (tMB X W (tst fun env st => (ra env st).bnd fun x st => (Out.ok D.non st).bnd fun y st => cmpD .isN x y st)) := by
  refine (pt_cmpR op_isN ha pe_non (nomark _)).imp fun σ H Q h => ?_
  obtain ⟨ρ0, π, env, st0, S0, E0, F0⟩ := h
  simp only [tst, bnd_assoc] at F0
  refine ⟨ρ0, π, env, st0, S0, E0, F0.bnd fun x st ρ H1 v e0 x0 S rx F => ?_⟩
  have E := E0.mono x0 S0.muts
  have hz : ∀ Q', Fin X.K X.mg (RelD X.K X.mg π) (fun c d H => W c d σ H) ρ π H1 (cmpD .isN x .non st) Q' → V.non = .non ∧ Q' (.bl (decide (v = .non))) H1 := fun Q' F' => isN_ok S rx .non F'
  refine hz (fun x H' => ∃ k, x = V.bl k ∧ Q k H') ?_
  have F' : Fin X.K X.mg (RelEq Bool) (fun c d H => W c d σ H) ρ π H1 ((cmpD .isN x .non st).bnd fun x st => opt (truth st x) st) Q := F
  refine F'.bnd fun z st1 ρ1 H2 u e x1 S1 rz F1 => ?_
  obtain ⟨⟨k, rfl⟩, rfl⟩ := cmp_bl e
  cases rz
  exact ⟨k, rfl, F1.here S1 rfl⟩
theorem ptm_notN {j : Nat} {p : Pos} (ha : PE X a (tM X W ra)) : PT X (.Compare a [.IsNot] [.Constant .none j p] pos) (tMB X W (tst fun env st => (ra env st).bnd fun x st => (Out.ok D.non st).bnd fun y st => cmpD .notN x y st)) := by
  refine (pt_cmpR op_notN ha pe_non (nomark _)).imp fun σ H Q h => ?_
  obtain ⟨ρ0, π, env, st0, S0, E0, F0⟩ := h
  simp only [tst, bnd_assoc] at F0
  refine ⟨ρ0, π, env, st0, S0, E0, F0.bnd fun x st ρ H1 v e0 x0 S rx F => ?_⟩
  have E := E0.mono x0 S0.muts
  have hz : ∀ Q', Fin X.K X.mg (RelD X.K X.mg π) (fun c d H => W c d σ H) ρ π H1 (cmpD .notN x .non st) Q' → V.non = .non ∧ Q' (.bl (!decide (v = .non))) H1 := fun Q' F' => notN_ok S rx .non F'
  refine hz (fun x H' => ∃ k, x = V.bl k ∧ Q k H') ?_
  have F' : Fin X.K X.mg (RelEq Bool) (fun c d H => W c d σ H) ρ π H1 ((cmpD .notN x .non st).bnd fun x st => opt (truth st x) st) Q := F
  refine F'.bnd fun z st1 ρ1 H2 u e x1 S1 rz F1 => ?_
  obtain ⟨⟨k, rfl⟩, rfl⟩ := cmp_bl e
  cases rz
  exact ⟨k, rfl, F1.here S1 rfl⟩
theorem ptm_cmp {o : CmpOp} {co : COp} (hu : X.A.units + 64 < cLine) (hn : notSet b = true) (he : copOf o = some co) (ha : PE X a (tM X W ra)) (hb : PE X b (tM X W rb)) :
    PT X (.Compare a [o] [b] pos) (tMB X W (tst fun env st => (ra env st).bnd fun x st => (rb env st).bnd fun y st => cmpD co x y st)) := by
  obtain ⟨r, hr, hq⟩ := cmp_rule (X := X) hu he
  refine (pt_cmpR hr ha hb (notSet_mark hn)).imp fun σ H Q h => ?_
  obtain ⟨ρ0, π, env, st0, S0, E0, F0⟩ := h
  simp only [tst, bnd_assoc] at F0
  refine ⟨ρ0, π, env, st0, S0, E0, F0.bnd fun x st ρ H1 v e0 x0 S rx F => ?_⟩
  have E := E0.mono x0 S0.muts
  refine ⟨ρ, π, env, st, S, E, F.bnd fun y st1 ρ1 H2 u e x1 S1 ry F1 => ?_⟩
  refine hq S1 (rx.mono x1 S.muts) ry (F1.bnd fun z st2 ρ2 H3 w e2 x2 S2 rz F2 => ?_)
  obtain ⟨⟨k, rfl⟩, rfl⟩ := cmp_bl e2
  cases rz
  exact ⟨k, rfl, F2.here S2 rfl⟩
theorem lastMark {o p : CmpOp} (h : notSet c = true) : lastMarks [o, p] [b, c] = false := by
  have : lastMarks [o, p] [b, c] = behindInMarks p c := rfl
  rw [this]
  exact notSet_mark h
theorem pm_chain {o p : CmpOp} {co cp : COp} (hu : X.A.units + 64 < cLine) (hn : notSet c = true) (he : copOf o = some co) (hp : copOf p = some cp) (ha : PE X a (tM X W ra)) (hb : PE X b (tM X W rb)) (hc : PE X c (tM X W rc)) :
    PE X (.Compare a [o, p] [b, c] pos) (tM X W fun env st => (ra env st).bnd fun x st => (rb env st).bnd fun y st => (cmpD co x y st).bnd fun r st => match r with
      | .bl true => (rc env st).bnd fun z st => cmpD cp y z st
      | .bl false => .ok (.bl false) st
      | _ => .bad) := by
  obtain ⟨r, hr, hq⟩ := cmp_rule (X := X) hu he
  obtain ⟨r', hr', hq'⟩ := cmp_rule (X := X) hu hp
  refine (pe_chain hr hr' ha hb hc (lastMark hn)).imp fun σ H Q h => ?_
  refine tF.bnd h fun ρ π env x st v H1 S E rx F => ?_
  refine ⟨ρ, π, env, st, S, E, F.bnd fun y st1 ρ1 H2 u e x1 S1 ry F1 => ?_⟩
  refine hq S1 (rx.mono x1 S.muts) ry (F1.bnd fun z st2 ρ2 H3 w e2 x2 S2 rz F2 => ?_)
  obtain ⟨⟨k, rfl⟩, rfl⟩ := cmp_bl e2
  cases rz
  refine ⟨k, rfl, ?_⟩
  cases k with
  | true =>
    refine ⟨ρ2, π, env, st2, S2, (E.mono x1 S.muts).mono x2 S1.muts, F2.bnd fun z st3 ρ3 H4 w2 e3 x3 S3 rz F3 => ?_⟩
    exact hq' S3 ((ry.mono x2 S1.muts).mono x3 S2.muts) rz F3
  | false => exact F2.here S2 (.bl false)
theorem ptm_chain {o p : CmpOp} {co cp : COp} (hu : X.A.units + 64 < cLine) (hn : notSet c = true) (he : copOf o = some co) (hp : copOf p = some cp) (ha : PE X a (tM X W ra)) (hb : PE X b (tM X W rb)) (hc : PE X c (tM X W rc)) :
    PT X (.Compare a [o, p] [b, c] pos) (tMB X W (tst fun env st => (ra env st).bnd fun x st => (rb env st).bnd fun y st => (cmpD co x y st).bnd fun r st => match r with
      | .bl true => (rc env st).bnd fun z st => cmpD cp y z st
      | .bl false => .ok (.bl false) st
      | _ => .bad)) := by
  obtain ⟨r, hr, hq⟩ := cmp_rule (X := X) hu he
  obtain ⟨r', hr', hq'⟩ := cmp_rule (X := X) hu hp
  refine (pt_chain hr hr' ha hb hc (lastMark hn)).imp fun σ H Q h => ?_
  obtain ⟨ρ0, π, env, st0, S0, E0, F0⟩ := h
  simp only [tst, bnd_assoc] at F0
  refine ⟨ρ0, π, env, st0, S0, E0, F0.bnd fun x st ρ H1 v e0 x0 S rx F => ?_⟩
  have E := E0.mono x0 S0.muts
  refine ⟨ρ, π, env, st, S, E, F.bnd fun y st1 ρ1 H2 u e x1 S1 ry F1 => ?_⟩
  refine hq S1 (rx.mono x1 S.muts) ry (F1.bnd fun z st2 ρ2 H3 w e2 x2 S2 rz F2 => ?_)
  obtain ⟨⟨k, rfl⟩, rfl⟩ := cmp_bl e2
  cases rz
  refine ⟨k, rfl, ?_⟩
  cases k with
  | true =>
    simp only [bnd_assoc] at F2
    refine ⟨ρ2, π, env, st2, S2, (E.mono x1 S.muts).mono x2 S1.muts, F2.bnd fun z st3 ρ3 H4 w2 e3 x3 S3 rz F3 => ?_⟩
    refine hq' S3 ((ry.mono x2 S1.muts).mono x3 S2.muts) rz (F3.bnd fun z' st4 ρ4 H5 w3 e4 x4 S4 rz' F4 => ?_)
    obtain ⟨⟨k, rfl⟩, rfl⟩ := cmp_bl e4
    cases rz'
    exact ⟨k, rfl, F4.here S4 rfl⟩
  | false => exact ⟨false, rfl, F2.here S2 rfl⟩
/-- a test by the value's truth -/
theorem ptm_truth (he : ∀ whole, PySem.isTrue a X.env whole = (do let v ← whole; standAt a.pos; holding [v] (truthy v))) (ha : PE X a (tM X W ra)) : PT X a (tMB X W (tst ra)) := by
  refine (pt_truth ha he).imp fun σ H Q h => ?_
  refine tF.bnd h fun ρ π env x st v H1 S E rx F => ?_
  obtain ⟨k, e, F1⟩ := Fin.opt1 F
  exact ⟨k, truth_ok S rx e, F1.here S rfl⟩
theorem ptm_not (ha : PT X a (tMB X W (tst ra))) : PT X (.UnaryOp .Not a pos) (tMB X W (tst fun env st => (ra env st).bnd fun x st => (opt (truth st x) st).bnd fun k st => .ok (.bl !k) st)) := by
  refine (pt_not ha).imp fun σ H Q h => ?_
  have h' : tMB X W (fun env st => (tst ra env st).bnd fun k st => .ok (!k) st) σ H Q := by
    obtain ⟨ρ0, π, env, st0, S0, E0, F0⟩ := h
    refine ⟨ρ0, π, env, st0, S0, E0, ?_⟩
    simp only [tst, bnd_assoc] at F0 ⊢
    exact F0
  refine tF.bnd h' fun ρ π env k st v H1 S E rx F => ?_
  cases rx
  exact F.here S rfl
theorem tst_and : tst (fun env st => (ra env st).bnd fun x st => (opt (truth st x) st).bnd fun k st => if k then rb env st else .ok x st) = fun env st => (tst ra env st).bnd fun k st => if k then tst rb env st else .ok false st := by
  funext env st
  show Out.bnd _ _ = _
  simp only [tst, bnd_assoc]
  cases ra env st with
  | ok x st1 =>
    simp only [Out.bnd]
    cases hk : truth st1 x with
    | none => rfl
    | some k =>
      cases k with
      | true => rfl
      | false => simp [opt, hk]
  | ex c v st1 => rfl
  | bad => rfl
theorem tst_or : tst (fun env st => (ra env st).bnd fun x st => (opt (truth st x) st).bnd fun k st => if k then .ok x st else rb env st) = fun env st => (tst ra env st).bnd fun k st => if k then .ok true st else tst rb env st := by
  funext env st
  show Out.bnd _ _ = _
  simp only [tst, bnd_assoc]
  cases ra env st with
  | ok x st1 =>
    simp only [Out.bnd]
    cases hk : truth st1 x with
    | none => rfl
    | some k =>
      cases k with
      | false => rfl
      | true => simp [opt, hk]
  | ex c v st1 => rfl
  | bad => rfl
theorem tst_ite {rt : Env → Sto → Out D} : tst (fun env st => (rt env st).bnd fun x st => (opt (truth st x) st).bnd fun k st => if k then ra env st else rb env st) = fun env st => (tst rt env st).bnd fun k st => if k then tst ra env st else tst rb env st := by
  funext env st
  show Out.bnd _ _ = _
  simp only [tst, bnd_assoc]
  cases rt env st with
  | ok x st1 =>
    simp only [Out.bnd]
    cases hk : truth st1 x with
    | none => rfl
    | some k => cases k <;> rfl
  | ex c v st1 => rfl
  | bad => rfl
theorem ptm_and {rest : List Expr} (ha : PT X a (tMB X W (tst ra))) (hb : PW X (.BoolOp .And (b :: rest) pos) (tMB X W (tst rb))) :
    PW X (.BoolOp .And (a :: b :: rest) pos) (tMB X W (tst fun env st => (ra env st).bnd fun x st => (opt (truth st x) st).bnd fun k st => if k then rb env st else .ok x st)) := by
  rw [tst_and]
  refine (pw_and ha hb).imp fun σ H Q h => ?_
  refine tF.bnd h fun ρ π env k st v H1 S E rx F => ?_
  cases rx
  cases k with
  | true => exact ⟨ρ, π, env, st, S, E, F⟩
  | false => exact F.here S rfl
theorem ptm_or {rest : List Expr} (ha : PT X a (tMB X W (tst ra))) (hb : PW X (.BoolOp .Or (b :: rest) pos) (tMB X W (tst rb))) :
    PW X (.BoolOp .Or (a :: b :: rest) pos) (tMB X W (tst fun env st => (ra env st).bnd fun x st => (opt (truth st x) st).bnd fun k st => if k then .ok x st else rb env st)) := by
  rw [tst_or]
  refine (pw_or ha hb).imp fun σ H Q h => ?_
  refine tF.bnd h fun ρ π env k st v H1 S E rx F => ?_
  cases rx
  cases k with
  | true => exact F.here S rfl
  | false => exact ⟨ρ, π, env, st, S, E, F⟩
/-- a conditional expression as a test -/
theorem ptm_ite {t : Expr} {rt : Env → Sto → Out D} (ht : PT X t (tMB X W (tst rt))) (ha : PT X a (tMB X W (tst ra))) (hb : PT X b (tMB X W (tst rb))) :
    PT X (.IfExp t a b pos) (tMB X W (tst fun env st => (rt env st).bnd fun x st => (opt (truth st x) st).bnd fun k st => if k then ra env st else rb env st)) := by
  rw [tst_ite]
  refine ⟨fun pins s σ H Q I h => ?_⟩
  have e : PySem.isTrue (.IfExp t a b pos) X.env (eval (.IfExp t a b pos) X.env) = (PySem.isTrue t X.env (eval t X.env) >>= fun k => if k = true then PySem.isTrue a X.env (eval a X.env) else PySem.isTrue b X.env (eval b X.env)) := by
    rw [PySem.isTrue]
  rw [e]
  refine wpAny_bind (thn (ht.run pins s σ H _ I (tF.bnd (P := fun k H1 => tMB X W (fun env st => if k then tst ra env st else tst rb env st) σ H1 Q) h fun ρ π env k st v H1 S E rx F => ?_)) fun k s1 hk => ?_)
  · cases rx
    exact ⟨ρ, π, env, st, S, E, F⟩
  · obtain ⟨H1, I1, q⟩ := hk
    cases k with
    | true => exact ha.run pins s1 σ H1 Q I1 q
    | false => exact hb.run pins s1 σ H1 Q I1 q
end

/-! ### argument lists, displays, subscripts, slices -/
section
variable {X : Cx} {W : WX} {a b c e : Expr} {es : List Expr} {pos : Pos} {ra rb rc : Env → Sto → Out D} {rs : Env → Sto → Out (List D)}
theorem pm_nil : PA X [] (tMs X W fun _ st => .ok [] st) := pa_nil.imp fun σ H Q ⟨ρ, π, env, st, S, E, F⟩ => F.here S .nil
theorem pm_cons (hs : ∀ env : PySem.Env, starEach (e :: es) env = (false, eval e env) :: starEach es env) (ha : PE X e (tM X W ra)) (hr : PA X es (tMs X W rs)) :
    PA X (e :: es) (tMs X W fun env st => (ra env st).bnd fun d st => (rs env st).bnd fun ds st => .ok (d :: ds) st) := by
  refine (pa_cons ha hr (hs _)).imp fun σ H Q h => ?_
  refine tF.bnd h fun ρ π env x st v H1 S E rx F => ?_
  refine ⟨ρ, π, env, st, S, E, F.bnd fun xs st1 ρ1 H2 us e1 x1 S1 rxs F1 => ?_⟩
  exact F1.here S1 (.cons (rx.mono x1 S.muts) rxs)
theorem pkm_nil : PK X [] (tMs X W fun _ st => .ok [] st) := pk_nil.imp fun σ H Q ⟨ρ, π, env, st, S, E, F⟩ => F.here S .nil
theorem pkm_cons {nm : Option Str} {p : Pos} {ks : List Keyword} (ha : PE X e (tM X W ra)) (hr : PK X ks (tMs X W rs)) :
    PK X (⟨nm, e, p⟩ :: ks) (tMs X W fun env st => (ra env st).bnd fun d st => (rs env st).bnd fun ds st => .ok (d :: ds) st) := by
  refine (pk_cons ha hr).imp fun σ H Q h => ?_
  refine tF.bnd h fun ρ π env x st v H1 S E rx F => ?_
  refine ⟨ρ, π, env, st, S, E, F.bnd fun xs st1 ρ1 H2 us e1 x1 S1 rxs F1 => ?_⟩
  exact F1.here S1 (.cons (rx.mono x1 S.muts) rxs)
theorem RDs.lineLe {K : PySem.W.Frag} {mg : Str → Option Value} {ρ π : List Addr} {H : Hp} {ds : List D} {vs : List V} (r : RDs K mg ρ π H ds vs) (h : small ds.length = true) : vs.length ≤ sizeLine := by
  rw [← r.length]
  exact small_le h
theorem pm_tup {k : Nat} (h : PA X es (tMs X W rs)) : PE X (.Tuple es k pos) (tM X W fun env st => (rs env st).bnd fun ds st => if small ds.length then .ok (.tup ds) st else .bad) := by
  refine (pe_tup h).imp fun σ H Q h => ?_
  refine tF.bnd h fun ρ π env ds st vs H1 S E rx F => ?_
  split at F
  · rename_i hs
    exact ⟨rx.lineLe hs, tupRes S rx F⟩
  · exact F.elim
theorem pm_lst {al : Bool} (h : PA X es (tMs X W rs)) : PE X (.List es pos) (tM X W fun env st => (rs env st).bnd fun ds st => if small ds.length then newL al ds st else .bad) := by
  refine (pe_lst h).imp fun σ H Q h => ?_
  refine tF.bnd h fun ρ π env ds st vs H1 S E rx F => ?_
  split at F
  · rename_i hs
    exact ⟨rx.lineLe hs, newL_ok S rx F⟩
  · exact F.elim
end
end Ev
/-! Subscripts, slices, built-in functions. -/
namespace Ev
open PySem PySem.Spec PyProof.Rows L2

section
variable {K : PySem.W.Frag} {mg : Str → Option Value} {ρ ρ' π : List Addr} {H H' : Hp} {st : Sto}
theorem cut_rel {xs : List D} {vs : List V} (r : RDs K mg ρ π H xs vs) (lo hi : Option Int) : RDs K mg ρ π H (cutL xs lo hi) (cutV vs lo hi) := by
  unfold cutL cutV
  rw [r.length]
  exact (r.drop _).take _
theorem cut_whole {α : Type} {xs : List α} {lo hi : Option Int} (h : HT.sIx xs.length 0 lo = 0 ∧ HT.sIx xs.length xs.length hi = xs.length) : cutL xs lo hi = xs := by
  unfold cutL
  rw [h.1, h.2, List.drop_zero, Nat.sub_zero, List.take_length]
theorem atI_rel {xs : List D} {vs : List V} (r : RDs K mg ρ π H xs vs) {i : Int} {d : D} (e : atI xs i = some d) : ∃ v, atI vs i = some v ∧ RD K mg ρ π H d v := by
  unfold atI at e ⊢
  rw [← r.length]
  cases h : ixN xs.length i with
  | none => rw [h] at e; cases e
  | some j =>
    rw [h] at e
    exact r.get e
theorem ints_rel : ∀ {xs : List D} {vs : List V} {ns : List Int}, RDs K mg ρ π H xs vs → intsD xs = some ns → vs = ns.map V.int
  | [], _, _, r, e => by
    cases r
    cases e
    rfl
  | x :: xs, _, ns, r, e => by
    cases r with
    | cons h t =>
      cases h with
      | int i =>
        simp only [intsD, Option.map_eq_some_iff] at e
        obtain ⟨ms, e1, rfl⟩ := e
        rw [List.map_cons, ints_rel t e1]
      | _ => cases e
theorem bools_rel : ∀ {xs : List D} {vs : List V} {bs : List Bool}, RDs K mg ρ π H xs vs → boolsD xs = some bs → vs = bs.map V.bl
  | [], _, _, r, e => by
    cases r
    cases e
    rfl
  | x :: xs, _, bs, r, e => by
    cases r with
    | cons h t =>
      cases h with
      | bl b =>
        simp only [boolsD, Option.map_eq_some_iff] at e
        obtain ⟨ms, e1, rfl⟩ := e
        rw [List.map_cons, bools_rel t e1]
      | _ => cases e
end

section
variable {X : Cx} {W : WX} {a b c e : Expr} {es : List Expr} {pos : Pos} {ra rb rc : Env → Sto → Out D} {rs : Env → Sto → Out (List D)}
theorem plainIx_ok (h : plainIx b = true) : PlainIx b := by
  intro o i
  cases b <;> first | rfl | cases h
theorem pm_ix (hp : plainIx b = true) (ha : PE X a (tM X W ra)) (hb : PE X b (tM X W rb)) : PE X (.Subscript a b pos) (tM X W fun env st => (ra env st).bnd fun x st => (rb env st).bnd fun y st => opt (ixD x y st) st) := by
  refine (pe_ix ix_seq ha hb (plainIx_ok hp)).imp fun σ H Q h => ?_
  refine tF.bnd h fun ρ π env x st v H1 S E rx F => ?_
  refine ⟨ρ, π, env, st, S, E, F.bnd fun y st1 ρ1 H2 u e x1 S1 ry F1 => ?_⟩
  have rx' := rx.mono x1 S.muts
  obtain ⟨d, e, F2⟩ := Fin.opt1 F1
  unfold ixD at e
  split at e
  · cases ry
    split at e
    · cases rx'
      split at e
      · rename_i hz
        rw [Option.map_eq_some_iff] at e
        obtain ⟨c, e1, rfl⟩ := e
        exact .inr (.inr ⟨_, _, c, rfl, rfl, small_le hz, e1, F2.here S1 (.str _)⟩)
      · cases e
    · rw [Option.bind_eq_some_iff] at e
      obtain ⟨xs, e1, e2⟩ := e
      obtain ⟨p, vs, rfl, h1, r1⟩ := seqOf_ok S1 rx' e1
      obtain ⟨w, e3, r2⟩ := atI_rel r1 e2
      rcases h1 with h1 | h1
      · exact .inl ⟨p, vs, _, w, rfl, rfl, h1, e3, F2.here S1 r2⟩
      · exact .inr (.inl ⟨p, vs, _, w, rfl, rfl, h1, e3, F2.here S1 r2⟩)
  · cases e
abbrev rSlQ (K : PySem.W.Frag) : V → Option Int → Option Int → Hp → VK → Prop := fun x lo hi H Q => rSlA K x lo hi H Q ∨ rSlL K x lo hi H Q
theorem sl_all : SlR X (rSlQ X.K) := sl_tupA.or sl_list
variable {rl rh : Env → Sto → Out (Option Int)}
theorem pmo_none : PO X none (tMO X W fun _ st => .ok none st) := po_none.imp fun σ H Q ⟨ρ, π, env, st, S, E, F⟩ => F.here S rfl
theorem pmo_some (ha : PE X a (tM X W ra)) : PO X (some a) (tMO X W fun env st => (ra env st).bnd fun d st => partP d st) := by
  refine (po_some ha).imp fun σ H Q h => ?_
  refine tF.bnd h fun ρ π env x st v H1 S E rx F => ?_
  unfold partP at F
  split at F
  · cases rx
    exact ⟨_, rfl, F.here S rfl⟩
  · exact F.elim
theorem pm_sl {al : Bool} {lo hi : Option Expr} {p2 : Pos} (ha : PE X a (tM X W ra)) (hl : PO X lo (tMO X W rl)) (hh : PO X hi (tMO X W rh)) :
    PE X (.Subscript a (.Slice lo hi none p2) pos) (tM X W fun env st => (ra env st).bnd fun x st => (rl env st).bnd fun l st => (rh env st).bnd fun h st => slD al x l h st) := by
  refine (pe_slice sl_all ha hl hh).imp fun σ H Q h => ?_
  refine tF.bnd h fun ρ π env x st v H1 S E rx F => ?_
  refine ⟨ρ, π, env, st, S, E, F.bnd fun l st1 ρ1 H2 l' e1 x1 S1 r1 F1 => ?_⟩
  cases r1
  have E1 := E.mono x1 S.muts
  refine ⟨ρ1, π, env, st1, S1, E1, F1.bnd fun h st2 ρ2 H3 h' e2 x2 S2 r2 F2 => ?_⟩
  cases r2
  have rx' := (rx.mono x1 S.muts).mono x2 S1.muts
  unfold slD at F2
  split at F2
  · cases rx' with
    | tup ht r =>
      have hlen := r.length
      refine .inl ⟨_, _, rfl, ht, fun hw => ?_, fun _ => tupRes S2 (cut_rel r l h) F2⟩
      rw [← hlen] at hw
      rw [cut_whole hw] at F2
      exact F2.here S2 (.tup ht r)
  · split at F2
    · rename_i xs e
      obtain ⟨p, vs, rfl, h1, r1⟩ := lsOf_ok S2 rx' e
      exact .inr ⟨p, vs, rfl, h1, newL_ok S2 (cut_rel r1 l h) F2⟩
    · exact F2.elim

/-! ### built-in functions -/
def rReprQ (K : PySem.W.Frag) : List V → Hp → VK → Prop := fun xs H Q => ∃ x p, xs = [x] ∧ Dq K H x p ∧ p.showable = true ∧ wid p ≤ most ∧ p.depth ≤ 12 ∧ Q (.str p.shown) H
theorem call_reprQ (hsb : ∃ mm, X.base.Ns sysModules mm) (hg : X.A.guards = some []) (hu : X.A.units + 64 < cLine) : CallR X (.builtin "repr") (rReprQ X.K) := by
  intro pins s σ H xs us Q I r h
  obtain ⟨x, p, rfl, hd, hs, hw, hdp, q⟩ := h
  obtain ⟨u, rfl, ru⟩ := vals1 r
  obtain ⟨as, rd, hsm⟩ := Dq.reads I p x u hd ru
  have hsm := hsm (let ⟨mm, e⟩ := hsb; ⟨mm, e.keeps I.bk⟩)
  have hlen : p.shown.length ≤ sizeLine := Nat.le_trans (shown_le p hw) (most_le hw)
  cases hd with
  | non =>
    cases ru
    exact PySem.P.repr_of_none ⟨.str _, H, I.tok _, ⟨_, rfl⟩, q⟩
  | bl b =>
    cases ru
    exact PySem.P.repr_of_bool ⟨.str _, H, I.tok _, ⟨_, rfl⟩, q⟩
  | int i =>
    obtain ⟨t, rfl⟩ := ru
    simp only [PyData.showable, decide_eq_true_eq] at hs
    exact PySem.P.repr_of_int hs ⟨.str _, H, I.tok _, ⟨_, rfl⟩, q⟩
  | str z =>
    obtain ⟨t, rfl⟩ := ru
    exact PySem.P.repr_of_str ⟨.str _, H, I.tok _, ⟨_, rfl⟩, q⟩ hlen
  | lst h1 r1 =>
    cases ru
    refine repr_of_reads' rd hs (fun z => ?_) hg (by omega) (fun _ _ e => e) (fun h' u' tk hk => ⟨.str _, H, I.kept hk, ⟨_, rfl⟩, q⟩) hlen
    exact hsm
  | tup h1 r1 =>
    cases ru
    refine repr_of_reads' rd hs (fun z => ?_) hg (by omega) (fun _ _ e => e) (fun h' u' tk hk => ⟨.str _, H, I.kept hk, ⟨_, rfl⟩, q⟩) hlen
    exact hsm
  | dct h1 r1 =>
    cases ru
    refine repr_of_reads' rd hs (fun z => ?_) hg (by omega) (fun _ _ e => e) (fun h' u' tk hk => ⟨.str _, H, I.kept hk, ⟨_, rfl⟩, q⟩) hlen
    exact hsm
/-- a built-in's rule and the evaluator's word -/
structure PrimOk (X : Cx) (p : Prim) (x : Str) : Prop where
  ex : ∃ (f : Value) (r : List V → Hp → VK → Prop), bootBuiltins x = some f ∧ ((∃ id, f = .builtin id) ∨ ∃ T, f = .type T) ∧ CallR X f r ∧
    ∀ {al : Bool} {ρ π : List Addr} {H : Hp} {st : Sto} {W : XK} {Q : VK} {ds : List D} {vs : List V}, SR X.K X.mg ρ π H st → RDs X.K X.mg ρ π H ds vs → Fin X.K X.mg (RelD X.K X.mg π) W ρ π H (prD al p ds st) Q → r vs H Q
theorem len_ok {ρ π : List Addr} {H : Hp} {st : Sto} {d : D} {v : V} {n : Nat} (S : SR X.K X.mg ρ π H st) (r : RD X.K X.mg ρ π H d v) (e : lenD st d = some n) : LenV X.K v H n := by
  unfold lenD at e
  split at e
  · cases r
    split at e
    · rename_i hz
      cases e
      exact ⟨small_le hz, rfl⟩
    · cases e
  · rw [Option.map_eq_some_iff] at e
    obtain ⟨xs, e1, rfl⟩ := e
    obtain ⟨a, vs, rfl, h1, r1⟩ := seqOf_ok S r e1
    rcases h1 with h1 | h1
    · exact .inl ⟨vs, h1, r1.length⟩
    · exact .inr ⟨vs, h1, r1.length⟩
section
variable {ρ π : List Addr} {H : Hp} {st : Sto} {Wx : XK} {Q : VK} {ds : List D} {vs : List V} {f1 : D → Sto → Out D} {f2 : D → D → Sto → Out D}
theorem arg1_ok (r : RDs X.K X.mg ρ π H ds vs) (F : Fin X.K X.mg (RelD X.K X.mg π) Wx ρ π H (arg1 f1 ds st) Q) : ∃ d v, vs = [v] ∧ RD X.K X.mg ρ π H d v ∧ Fin X.K X.mg (RelD X.K X.mg π) Wx ρ π H (f1 d st) Q := by
  unfold arg1 at F
  split at F
  · cases r with
    | cons h t =>
      cases t
      exact ⟨_, _, rfl, h, F⟩
  · exact F.elim
theorem arg2_ok (r : RDs X.K X.mg ρ π H ds vs) (F : Fin X.K X.mg (RelD X.K X.mg π) Wx ρ π H (arg2 f2 ds st) Q) : ∃ d v e u, vs = [v, u] ∧ RD X.K X.mg ρ π H d v ∧ RD X.K X.mg ρ π H e u ∧ Fin X.K X.mg (RelD X.K X.mg π) Wx ρ π H (f2 d e st) Q := by
  unfold arg2 at F
  split at F
  · cases r with
    | cons h t =>
      cases t with
      | cons h2 t =>
        cases t
        exact ⟨_, _, _, _, rfl, h, h2, F⟩
  · exact F.elim
end
theorem fold_max : ∀ {r : List Int} {m : Int} (y : Int), y ∈ m :: r → (∀ z, z ∈ m :: r → z ≤ y) → y = r.foldl max m
  | [], m, y, h, _ => by
    rcases List.mem_cons.mp h with h | h
    · exact h
    · cases h
  | a :: r, m, y, h, hb => by
    refine fold_max (r := r) (m := max m a) y ?_ fun z hz => ?_
    · have h1 := hb m List.mem_cons_self
      have h2 := hb a (List.mem_cons_of_mem _ List.mem_cons_self)
      rcases List.mem_cons.mp h with h | h
      · rw [show max m a = y by omega]; exact List.mem_cons_self
      · rcases List.mem_cons.mp h with h | h
        · rw [show max m a = y by omega]; exact List.mem_cons_self
        · exact List.mem_cons_of_mem _ h
    · have h1 := hb m List.mem_cons_self
      have h2 := hb a (List.mem_cons_of_mem _ List.mem_cons_self)
      rcases List.mem_cons.mp hz with h | h
      · omega
      · exact hb z (List.mem_cons_of_mem _ (List.mem_cons_of_mem _ h))
theorem fold_min : ∀ {r : List Int} {m : Int} (y : Int), y ∈ m :: r → (∀ z, z ∈ m :: r → y ≤ z) → y = r.foldl min m
  | [], m, y, h, _ => by
    rcases List.mem_cons.mp h with h | h
    · exact h
    · cases h
  | a :: r, m, y, h, hb => by
    refine fold_min (r := r) (m := min m a) y ?_ fun z hz => ?_
    · have h1 := hb m List.mem_cons_self
      have h2 := hb a (List.mem_cons_of_mem _ List.mem_cons_self)
      rcases List.mem_cons.mp h with h | h
      · rw [show min m a = y by omega]; exact List.mem_cons_self
      · rcases List.mem_cons.mp h with h | h
        · rw [show min m a = y by omega]; exact List.mem_cons_self
        · exact List.mem_cons_of_mem _ h
    · have h1 := hb m List.mem_cons_self
      have h2 := hb a (List.mem_cons_of_mem _ List.mem_cons_self)
      rcases List.mem_cons.mp hz with h | h
      · omega
      · exact hb z (List.mem_cons_of_mem _ (List.mem_cons_of_mem _ h))
theorem prim_ok (hsb : ∃ mm, X.base.Ns sysModules mm) (hc : X.calm = true) (hg : X.A.guards = some []) (hu : X.A.units + 64 < cLine) {x : Str} {n : Nat} {p : Prim} (e : primOf x n = some p) : PrimOk X p x := by
  unfold primOf at e
  by_cases hx : x = "len" ∧ n = 1
  · rw [if_pos hx] at e
    cases e
    obtain ⟨rfl, _⟩ := hx
    refine ⟨_, _, PySem.boot_len, .inl ⟨_, rfl⟩, call_len, fun {al ρ π H st W Q ds vs} S r F => ?_⟩
    obtain ⟨d, v, rfl, r1, F1⟩ := arg1_ok r F
    obtain ⟨m, e1, F2⟩ := Fin.opt F1
    exact ⟨v, m, rfl, len_ok S r1 e1, F2.here S (.int _)⟩
  rw [if_neg hx] at e
  by_cases hx : x = "abs" ∧ n = 1
  · rw [if_pos hx] at e
    cases e
    obtain ⟨rfl, _⟩ := hx
    refine ⟨_, _, by decide +kernel, .inl ⟨_, rfl⟩, call_abs, fun {al ρ π H st W Q ds vs} S r F => ?_⟩
    obtain ⟨d, v, rfl, r1, F1⟩ := arg1_ok r F
    unfold absP at F1
    split at F1
    · cases r1
      exact ⟨_, rfl, F1.here S (.int _)⟩
    · exact F1.elim
  rw [if_neg hx] at e
  by_cases hx : x = "max" ∧ n = 2
  · rw [if_pos hx] at e
    cases e
    obtain ⟨rfl, _⟩ := hx
    refine ⟨_, _, PyProof.Rows.boot_max, .inl ⟨_, rfl⟩, call_max2 hc, fun {al ρ π H st W Q ds vs} S r F => ?_⟩
    obtain ⟨d, v, d2, v2, rfl, r1, r2, F1⟩ := arg2_ok r F
    unfold maxP at F1
    split at F1
    · cases r1; cases r2
      exact ⟨_, _, rfl, F1.here S (.int _)⟩
    · exact F1.elim
  rw [if_neg hx] at e
  by_cases hx : x = "min" ∧ n = 2
  · rw [if_pos hx] at e
    cases e
    obtain ⟨rfl, _⟩ := hx
    refine ⟨_, _, PyProof.Rows.boot_min, .inl ⟨_, rfl⟩, call_min2 hc, fun {al ρ π H st W Q ds vs} S r F => ?_⟩
    obtain ⟨d, v, d2, v2, rfl, r1, r2, F1⟩ := arg2_ok r F
    unfold minP at F1
    split at F1
    · cases r1; cases r2
      exact ⟨_, _, rfl, F1.here S (.int _)⟩
    · exact F1.elim
  rw [if_neg hx] at e
  by_cases hx : x = "int" ∧ n = 1
  · rw [if_pos hx] at e
    cases e
    obtain ⟨rfl, _⟩ := hx
    refine ⟨_, _, PyProof.Rows.boot_int, .inr ⟨_, rfl⟩, call_int1, fun {al ρ π H st W Q ds vs} S r F => ?_⟩
    obtain ⟨d, v, rfl, r1, F1⟩ := arg1_ok r F
    unfold intP at F1
    split at F1
    · cases r1
      exact .inl ⟨_, rfl, F1.here S (.int _)⟩
    · cases r1
      exact .inr ⟨_, rfl, F1.here S (.int _)⟩
    · exact F1.elim
  rw [if_neg hx] at e
  by_cases hx : x = "repr" ∧ n = 1
  · rw [if_pos hx] at e
    cases e
    obtain ⟨rfl, _⟩ := hx
    refine ⟨_, _, PyProof.Rows.boot_repr, .inl ⟨_, rfl⟩, call_reprQ hsb hg hu, fun {al ρ π H st W Q ds vs} S r F => ?_⟩
    obtain ⟨d, v, rfl, r1, F1⟩ := arg1_ok r F
    obtain ⟨z, e1, F2⟩ := Fin.opt1 F1
    unfold reprD at e1
    split at e1
    · rename_i p hp
      split at e1
      · rename_i hcnd
        cases e1
        exact ⟨v, p, rfl, toPy_ok S _ _ _ _ r1 hp, hcnd.1, hcnd.2, toPy_depth _ _ _ hp, F2.here S (.str _)⟩
      · cases e1
    · cases e1
  rw [if_neg hx] at e
  by_cases hx : x = "divmod" ∧ n = 2
  · rw [if_pos hx] at e
    cases e
    obtain ⟨rfl, _⟩ := hx
    refine ⟨_, _, PyProof.Rows.boot_divmod, .inl ⟨_, rfl⟩, call_divmod, fun {al ρ π H st W Q ds vs} S r F => ?_⟩
    obtain ⟨d, v, d2, v2, rfl, r1, r2, F1⟩ := arg2_ok r F
    unfold divmodP at F1
    split at F1
    · cases r1; cases r2
      split at F1
      · rename_i hd
        exact ⟨_, _, rfl, hd, tupRes S (.cons (.int _) (.cons (.int _) .nil)) F1⟩
      · exact F1.elim
    · exact F1.elim
  rw [if_neg hx] at e
  by_cases hx : x = "sum" ∧ n = 1
  · rw [if_pos hx] at e
    cases e
    obtain ⟨rfl, _⟩ := hx
    refine ⟨_, _, PyProof.Rows.boot_sum, .inl ⟨_, rfl⟩, cr_sum hc, fun {al ρ π H st W Q ds vs} S r F => ?_⟩
    obtain ⟨d, v, rfl, r1, F1⟩ := arg1_ok r F
    obtain ⟨ns, e1, F2⟩ := Fin.opt F1
    rw [Option.bind_eq_some_iff] at e1
    obtain ⟨xs, e2, e3⟩ := e1
    obtain ⟨a, vs, rfl, h1, r2⟩ := items_ok S r1 e2
    exact ⟨a, ns, rfl, SqL.of (by rw [h1, ints_rel r2 e3]), F2.here S (.int _)⟩
  rw [if_neg hx] at e
  by_cases hx : x = "all" ∧ n = 1
  · rw [if_pos hx] at e
    cases e
    obtain ⟨rfl, _⟩ := hx
    refine ⟨_, _, by decide +kernel, .inl ⟨_, rfl⟩, cr_all hc, fun {al ρ π H st W Q ds vs} S r F => ?_⟩
    obtain ⟨d, v, rfl, r1, F1⟩ := arg1_ok r F
    obtain ⟨ns, e1, F2⟩ := Fin.opt F1
    rw [Option.bind_eq_some_iff] at e1
    obtain ⟨xs, e2, e3⟩ := e1
    obtain ⟨a, vs, rfl, h1, r2⟩ := items_ok S r1 e2
    exact ⟨a, ns, rfl, SqL.of (by rw [h1, bools_rel r2 e3]), F2.here S (.bl _)⟩
  rw [if_neg hx] at e
  by_cases hx : x = "any" ∧ n = 1
  · rw [if_pos hx] at e
    cases e
    obtain ⟨rfl, _⟩ := hx
    refine ⟨_, _, by decide +kernel, .inl ⟨_, rfl⟩, cr_any hc, fun {al ρ π H st W Q ds vs} S r F => ?_⟩
    obtain ⟨d, v, rfl, r1, F1⟩ := arg1_ok r F
    obtain ⟨ns, e1, F2⟩ := Fin.opt F1
    rw [Option.bind_eq_some_iff] at e1
    obtain ⟨xs, e2, e3⟩ := e1
    obtain ⟨a, vs, rfl, h1, r2⟩ := items_ok S r1 e2
    exact ⟨a, ns, rfl, SqL.of (by rw [h1, bools_rel r2 e3]), F2.here S (.bl _)⟩
  rw [if_neg hx] at e
  by_cases hx : x = "tuple" ∧ n = 1
  · rw [if_pos hx] at e
    cases e
    obtain ⟨rfl, _⟩ := hx
    refine ⟨_, _, PyProof.Rows.boot_tuple, .inr ⟨_, rfl⟩, call_tuple_of, fun {al ρ π H st W Q ds vs} S r F => ?_⟩
    obtain ⟨d, v, rfl, r1, F1⟩ := arg1_ok r F
    unfold tupleP at F1
    split at F1
    · cases r1 with
      | tup h r1 => exact ⟨_, _, rfl, .inr ⟨h, F1.here S (.tup h r1)⟩⟩
    · obtain ⟨xs, e1, F2⟩ := Fin.opt F1
      obtain ⟨a, vs, rfl, h1, r2⟩ := lsOf_ok S r1 e1
      exact ⟨a, vs, rfl, .inl ⟨h1, tupRes S r2 F2⟩⟩
  rw [if_neg hx] at e
  by_cases hx : x = "list" ∧ n = 1
  · rw [if_pos hx] at e
    cases e
    obtain ⟨rfl, _⟩ := hx
    refine ⟨_, _, PyProof.Rows.boot_list, .inr ⟨_, rfl⟩, call_list_of, fun {al ρ π H st W Q ds vs} S r F => ?_⟩
    obtain ⟨d, v, rfl, r1, F1⟩ := arg1_ok r F
    obtain ⟨xs, e1, F2⟩ := Fin.opt F1
    obtain ⟨a, vs, rfl, h1, r2⟩ := seqOf_ok S r1 e1
    exact ⟨a, vs, rfl, h1, newL_ok S r2 F2⟩
  rw [if_neg hx] at e
  by_cases hx : x = "max" ∧ n = 1
  · rw [if_pos hx] at e
    cases e
    obtain ⟨rfl, _⟩ := hx
    refine ⟨_, _, PyProof.Rows.boot_max, .inl ⟨_, rfl⟩, cr_max hc, fun {al ρ π H st W Q ds vs} S r F => ?_⟩
    obtain ⟨d, v, rfl, r1, F1⟩ := arg1_ok r F
    obtain ⟨ns, e1, F2⟩ := Fin.opt F1
    rw [Option.bind_eq_some_iff] at e1
    obtain ⟨xs, e2, e3⟩ := e1
    obtain ⟨a, vs, rfl, h1, r2⟩ := items_ok S r1 e2
    cases ns with
    | nil => exact F2.elim
    | cons m r =>
      refine ⟨a, m :: r, rfl, SqL.of (by rw [h1, ints_rel r2 e3]), Nat.succ_pos _, fun y hy hb => ?_⟩
      rw [fold_max y hy hb]
      exact F2.here S (.int _)
  rw [if_neg hx] at e
  by_cases hx : x = "min" ∧ n = 1
  · rw [if_pos hx] at e
    cases e
    obtain ⟨rfl, _⟩ := hx
    refine ⟨_, _, PyProof.Rows.boot_min, .inl ⟨_, rfl⟩, cr_min hc, fun {al ρ π H st W Q ds vs} S r F => ?_⟩
    obtain ⟨d, v, rfl, r1, F1⟩ := arg1_ok r F
    obtain ⟨ns, e1, F2⟩ := Fin.opt F1
    rw [Option.bind_eq_some_iff] at e1
    obtain ⟨xs, e2, e3⟩ := e1
    obtain ⟨a, vs, rfl, h1, r2⟩ := items_ok S r1 e2
    cases ns with
    | nil => exact F2.elim
    | cons m r =>
      refine ⟨a, m :: r, rfl, SqL.of (by rw [h1, ints_rel r2 e3]), Nat.succ_pos _, fun y hy hb => ?_⟩
      rw [fold_min y hy hb]
      exact F2.here S (.int _)
  rw [if_neg hx] at e
  cases e
/-- no star among them -/
def noStar (es : List Expr) : Prop := ∀ env : PySem.Env, ∀ pos : Pos, (backTo pos (starEach es env)).any (·.1) = false
theorem pm_pr {al : Bool} {p : Prim} {x : Str} {n : Nat} {q : Pos} (hsb : ∃ mm, X.base.Ns sysModules mm) (hc : X.calm = true) (hg : X.A.guards = some []) (hu : X.A.units + 64 < cLine) (e0 : primOf x n = some p) (hgl : Gl X x) (hm : X.mg x = none) (h1 : x ≠ "__name__") (h2 : (x == ("__debug__" : Str)) = false)
    (hs : ∀ env : PySem.Env, starEach (e :: es) env = (false, eval e env) :: starEach es env) (hn : noStar es) (ha : PA X (e :: es) (tMs X W rs)) : PE X (.Call (.Name x q) (e :: es) [] pos) (tM X W fun env st => (rs env st).bnd fun ds st => prD al p ds st) := by
  obtain ⟨f, r, hb, hf, hr, hq⟩ := (prim_ok hsb hc hg hu e0).ex
  rcases hf with ⟨id, rfl⟩ | ⟨T, rfl⟩
  · refine (pe_callB hr hgl hm hb ha h1 h2 (hs _) (hn _ _)).imp fun σ H Q h => ?_
    refine tF.bnd h fun ρ π env ds st vs H1 S E rx F => ?_
    exact hq S rx F
  · refine (pe_callTy hr hgl hm hb ha h1 h2 (hs _) (hn _ _)).imp fun σ H Q h => ?_
    refine tF.bnd h fun ρ π env ds st vs H1 S E rx F => ?_
    exact hq S rx F
/-! ### tuple(range(..)), list(range(..)) -/
theorem rg_rel {ρ π : List Addr} {H : Hp} {a b : Int} : RDs X.K X.mg ρ π H (rgD a b) (rgV a b) := by
  unfold rgD rgV
  generalize List.range (b - a).toNat = l
  induction l with
  | nil => exact .nil
  | cons i l ih => exact .cons (.int _) ih
theorem rgOk_ok {a b : Int} (h : rgOk a b = true) : RgOk a b := by
  obtain ⟨h1, h2, h3, h4, h5⟩ := of_decide_eq_true h
  exact ⟨h1, h2, h3, h4, by omega⟩
theorem rgT_ok {ρ π : List Addr} {H : Hp} {st : Sto} {Wx : XK} {Q : VK} {al : Bool} {a b : Int} (S : SR X.K X.mg ρ π H st) (F : Fin X.K X.mg (RelD X.K X.mg π) Wx ρ π H (rgE al false a b st) Q) : RgOk a b ∧ ∀ q, H q = none → Q (.ref q) (upd H q (.tup (rgV a b))) := by
  unfold rgE at F
  split at F
  · rename_i h
    exact ⟨rgOk_ok h, tupRes S rg_rel F⟩
  · exact F.elim
theorem rgL_ok {ρ π : List Addr} {H : Hp} {st : Sto} {Wx : XK} {Q : VK} {al : Bool} {a b : Int} (S : SR X.K X.mg ρ π H st) (F : Fin X.K X.mg (RelD X.K X.mg π) Wx ρ π H (rgE al true a b st) Q) : RgOk a b ∧ ∀ q, H q = none → Q (.ref q) (upd H q (.lst (rgV a b))) := by
  unfold rgE at F
  split at F
  · rename_i h
    exact ⟨rgOk_ok h, newL_ok S rg_rel F⟩
  · exact F.elim
theorem rg1_inv {ρ π : List Addr} {H : Hp} {st : Sto} {Wx : XK} {Q : VK} {al l : Bool} {d : D} (F : Fin X.K X.mg (RelD X.K X.mg π) Wx ρ π H (rgP al l [d] st) Q) : ∃ n, d = .int n ∧ Fin X.K X.mg (RelD X.K X.mg π) Wx ρ π H (rgE al l 0 n st) Q := by
  unfold rgP at F
  split at F
  · rename_i n h
    cases h
    exact ⟨_, rfl, F⟩
  · rename_i h
    cases h
  · exact F.elim
theorem rg2_inv {ρ π : List Addr} {H : Hp} {st : Sto} {Wx : XK} {Q : VK} {al l : Bool} {d e : D} (F : Fin X.K X.mg (RelD X.K X.mg π) Wx ρ π H (rgP al l [d, e] st) Q) : ∃ n m, d = .int n ∧ e = .int m ∧ Fin X.K X.mg (RelD X.K X.mg π) Wx ρ π H (rgE al l n m st) Q := by
  unfold rgP at F
  split at F
  · rename_i h
    cases h
  · rename_i h
    cases h
    exact ⟨_, _, rfl, rfl, F⟩
  · exact F.elim
section
variable {al : Bool} {q p p2 : Pos}
theorem pm_rg1 (l : Bool) (hc : X.calm = true) (hg : Gl X (if l then "list" else "tuple")) (hm : X.mg (if l then "list" else "tuple") = none) (hr : Gl X "range") (hn : X.mg "range" = none) (ha : PE X a (tM X W ra)) (na : starEach [a] X.env = (false, eval a X.env) :: starEach [] X.env) :
    PE X (.Call (.Name (if l then "list" else "tuple") q) [.Call (.Name "range" p) [a] [] p2] [] pos) (tM X W fun env st => (ra env st).bnd fun x st => rgP al l [x] st) := by
  cases l with
  | false =>
    refine (pe_tupRg hc hg hm (prg_1 hr hn ha na)).imp fun σ H Q h => ?_
    refine tF.bnd h fun ρ π env x st v H1 S E rx F => ?_
    obtain ⟨n, rfl, F1⟩ := rg1_inv F
    cases rx
    obtain ⟨h1, h2⟩ := rgT_ok S F1
    exact ⟨n, rfl, h1, h2⟩
  | true =>
    refine (pe_listRg hc hg hm (prg_1 hr hn ha na)).imp fun σ H Q h => ?_
    refine tF.bnd h fun ρ π env x st v H1 S E rx F => ?_
    obtain ⟨n, rfl, F1⟩ := rg1_inv F
    cases rx
    obtain ⟨h1, h2⟩ := rgL_ok S F1
    exact ⟨n, rfl, h1, h2⟩
theorem pm_rg2 (l : Bool) (hc : X.calm = true) (hg : Gl X (if l then "list" else "tuple")) (hm : X.mg (if l then "list" else "tuple") = none) (hr : Gl X "range") (hn : X.mg "range" = none) (ha : PE X a (tM X W ra)) (hb : PE X b (tM X W rb))
    (na : starEach [a, b] X.env = (false, eval a X.env) :: starEach [b] X.env) (nb : starEach [b] X.env = (false, eval b X.env) :: starEach [] X.env) (hp : (backTo p2 (starEach [b] X.env)).any (·.1) = false) :
    PE X (.Call (.Name (if l then "list" else "tuple") q) [.Call (.Name "range" p) [a, b] [] p2] [] pos) (tM X W fun env st => (ra env st).bnd fun x st => (rb env st).bnd fun y st => rgP al l [x, y] st) := by
  cases l with
  | false =>
    refine (pe_tupRg hc hg hm (prg_2 hr hn ha hb na nb hp)).imp fun σ H Q h => ?_
    refine tF.bnd h fun ρ π env x st v H1 S E rx F => ?_
    refine ⟨ρ, π, env, st, S, E, F.bnd fun y st1 ρ1 H2 u e x1 S1 ry F1 => ?_⟩
    obtain ⟨n, m, rfl, rfl, F2⟩ := rg2_inv F1
    cases rx
    cases ry
    obtain ⟨h1, h2⟩ := rgT_ok S1 F2
    exact ⟨n, m, rfl, rfl, h1, h2⟩
  | true =>
    refine (pe_listRg hc hg hm (prg_2 hr hn ha hb na nb hp)).imp fun σ H Q h => ?_
    refine tF.bnd h fun ρ π env x st v H1 S E rx F => ?_
    refine ⟨ρ, π, env, st, S, E, F.bnd fun y st1 ρ1 H2 u e x1 S1 ry F1 => ?_⟩
    obtain ⟨n, m, rfl, rfl, F2⟩ := rg2_inv F1
    cases rx
    cases ry
    obtain ⟨h1, h2⟩ := rgL_ok S1 F2
    exact ⟨n, m, rfl, rfl, h1, h2⟩
end
theorem tyOf_boot {t : Str} {ty : Ty} (e : tyOf t = some ty) : bootBuiltins t = some (.type (tyName ty)) := by
  unfold tyOf at e
  by_cases hx : t = "int"
  · rw [if_pos hx] at e
    cases e
    subst hx
    exact PyProof.Rows.boot_int
  rw [if_neg hx] at e
  by_cases hx : t = "bool"
  · rw [if_pos hx] at e
    cases e
    subst hx
    exact PyProof.Rows.boot_bool
  rw [if_neg hx] at e
  by_cases hx : t = "str"
  · rw [if_pos hx] at e
    cases e
    subst hx
    exact PyProof.Rows.boot_str
  rw [if_neg hx] at e
  by_cases hx : t = "tuple"
  · rw [if_pos hx] at e
    cases e
    subst hx
    exact PyProof.Rows.boot_tuple
  rw [if_neg hx] at e
  by_cases hx : t = "list"
  · rw [if_pos hx] at e
    cases e
    subst hx
    exact PyProof.Rows.boot_list
  rw [if_neg hx] at e
  by_cases hx : t = "dict"
  · rw [if_pos hx] at e
    cases e
    subst hx
    exact PyProof.Rows.boot_dict
  rw [if_neg hx] at e
  cases e
theorem pm_isi {t : Str} {ty : Ty} {q1 q2 : Pos} (hgl : Gl X "isinstance") (hm : X.mg "isinstance" = none) (e0 : tyOf t = some ty) (hgt : Gl X t) (hmt : X.mg t = none) (h1 : t ≠ "__name__") (h2 : (t == ("__debug__" : Str)) = false)
    (hs : ∀ (es : List Expr) (env : PySem.Env), starEach (a :: es) env = (false, eval a env) :: starEach es env) (ha : PE X a (tM X W ra)) :
    PE X (.Call (.Name "isinstance" q1) [a, .Name t q2] [] pos) (tM X W fun env st => (ra env st).bnd fun x st => (opt (isTy ty x st) st).bnd fun k st => .ok (.bl k) st) := by
  refine (pe_callB call_isi hgl hm PyProof.Rows.boot_isinstance (pa_cons ha (pa_cons (pe_bltn (v := .ty (tyName ty)) hgt hmt (tyOf_boot e0) rfl h1 h2) pa_nil) (hs _ _)) (by decide) (by decide) (hs _ _) rfl).imp fun σ H Q h => ?_
  refine tF.bnd h fun ρ π env x st v H1 S E rx F => ?_
  obtain ⟨k, e, F1⟩ := Fin.opt F
  obtain ⟨n, t1, t2⟩ := isTy_ok S rx e
  exact ⟨v, .ty (tyName ty), .type n, .type (tyName ty), k, rfl, .ty _, t1, kit_ty t2, F1.here S (.bl _)⟩
theorem attrBase {o : Expr} {m : Str} {env : PySem.Env} (h : plainObj o = true) : attributeBase o m env (eval o env) = eval o env := by
  cases o <;> first | rfl | cases h
theorem isLst_ok {ρ π : List Addr} {H : Hp} {st : Sto} {x : D} {v : V} (S : SR X.K X.mg ρ π H st) (r : RD X.K X.mg ρ π H x v) (h : isLst x st = true) : tyV X.K "list" v H := by
  unfold isLst at h
  split at h
  · cases r with
    | loc hn =>
      split at h
      · rename_i xs hx
        obtain ⟨vs, h1, r1⟩ := S.atL hn hx
        exact .inl ⟨rfl, vs, SqL.of h1⟩
      · cases h
  · cases h
theorem app_ok {ρ π : List Addr} {H : Hp} {st : Sto} {x y : D} {v u : V} {Wx : XK} {Q : VK} (S : SR X.K X.mg ρ π H st) (rx : RD X.K X.mg ρ π H x v) (ry : RD X.K X.mg ρ π H y u) (F : Fin X.K X.mg (RelD X.K X.mg π) Wx ρ π H (appP x y st) Q) : rAppend v [u] H Q := by
  unfold appP at F
  split at F
  · cases rx with
    | loc hn =>
      split at F
      · rename_i xs hx
        split at F
        · rename_i hz
          obtain ⟨vs, h1, r1⟩ := S.atL hn hx
          refine ⟨_, vs, u, rfl, rfl, h1, by rw [← r1.length, sizeLine_eq]; have : most = 1000000 := rfl; omega, ?_⟩
          exact F _ _ _ (Ext.set hn) (S.set hn (r1.append (.cons ry .nil))) .non
        · exact F.elim
      · exact F.elim
  · exact F.elim
theorem ext_ok {ρ π : List Addr} {H : Hp} {st : Sto} {x y : D} {v u : V} {Wx : XK} {Q : VK} (S : SR X.K X.mg ρ π H st) (rx : RD X.K X.mg ρ π H x v) (ry : RD X.K X.mg ρ π H y u) (F : Fin X.K X.mg (RelD X.K X.mg π) Wx ρ π H (extP x y st) Q) : rExtend v [u] H Q := by
  unfold extP at F
  split at F
  · cases rx with
    | loc hn =>
      split at F
      · rename_i xs ys hx hy
        split at F
        · rename_i hz
          obtain ⟨vs, h1, r1⟩ := S.atL hn hx
          obtain ⟨b, ws, rfl, h2, r2⟩ := items_ok S ry hy
          refine ⟨_, b, vs, ws, rfl, rfl, h1, h2, by rw [← r1.length, ← r2.length]; exact small_le hz, ?_⟩
          exact F _ _ _ (Ext.set hn) (S.set hn (r1.append r2)) .non
        · exact F.elim
      · exact F.elim
  · exact F.elim
theorem pm_app {o : Expr} {apos : Pos} {ro : Env → Sto → Out D} (hp : plainObj o = true) (hl : (apos.endLine == pos.line) = true) (hs : ∀ env : PySem.Env, starEach [a] env = [(false, eval a env)]) (ho : PE X o (tM X W ro)) (ha : PE X a (tM X W ra)) :
    PE X (.Call (.Attribute o "append" apos) [a] [] pos) (tM X W fun env st => (ro env st).bnd fun x st => if isLst x st then (ra env st).bnd fun y st => appP x y st else .bad) := by
  refine (pe_bm PySem.F.plainAttrs_list PySem.F.slot_list_append PySem.F.type_list_append mt_append ho (pa_cons ha pa_nil (hs _)) (attrBase hp) (by rw [hs]; rfl) hl (hs _) rfl).imp fun σ H Q h => ?_
  refine tF.bnd h fun ρ π env x st v H1 S E rx F => ?_
  split at F
  · rename_i hi
    exact ⟨isLst_ok S rx hi, ρ, π, env, st, S, E, F.bnd fun y st1 ρ1 H2 u e x1 S1 ry F1 => app_ok S1 (rx.mono x1 S.muts) ry F1⟩
  · exact F.elim
theorem pm_ext {o : Expr} {apos : Pos} {ro : Env → Sto → Out D} (hp : plainObj o = true) (hl : (apos.endLine == pos.line) = true) (hs : ∀ env : PySem.Env, starEach [a] env = [(false, eval a env)]) (ho : PE X o (tM X W ro)) (ha : PE X a (tM X W ra)) :
    PE X (.Call (.Attribute o "extend" apos) [a] [] pos) (tM X W fun env st => (ro env st).bnd fun x st => if isLst x st then (ra env st).bnd fun y st => extP x y st else .bad) := by
  refine (pe_bm PySem.F.plainAttrs_list PySem.F.slot_list_extend PySem.F.type_list_extend mt_extend ho (pa_cons ha pa_nil (hs _)) (attrBase hp) (by rw [hs]; rfl) hl (hs _) rfl).imp fun σ H Q h => ?_
  refine tF.bnd h fun ρ π env x st v H1 S E rx F => ?_
  split at F
  · rename_i hi
    exact ⟨isLst_ok S rx hi, ρ, π, env, st, S, E, F.bnd fun y st1 ρ1 H2 u e x1 S1 ry F1 => ext_ok S1 (rx.mono x1 S.muts) ry F1⟩
  · exact F.elim
end
end Ev
/-! Calls, targets, walks, comprehensions. -/
namespace Ev
open PySem PySem.Spec PyProof.Rows L2

section
variable {K : PySem.W.Frag} {mg : Str → Option Value} {ρ ρ' π : List Addr} {H H' : Hp} {st : Sto}
mutual
/-- what is held is changed -/
theorem RD.held {p : Addr} {o : HO} (m : IsMut (H p)) : ∀ {d : D} {v : V}, RD K mg ρ (p :: π) H d v → RD K mg ρ (p :: π) (upd H p o) d v
  | _, _, .non => .non
  | _, _, .bl b => .bl b
  | _, _, .int i => .int i
  | _, _, .str z => .str z
  | _, _, .tup h r => .tup (by
      rcases h with h | h
      · rcases h with h | ⟨u, h⟩
        · refine .inl (.inl ?_)
          rw [upd_ne (fun z => by rw [z] at h; rcases m with ⟨_, e⟩ | ⟨_, e⟩ <;> rw [h] at e <;> cases e)]
          exact h
        · refine .inl (.inr ⟨u, ?_⟩)
          rw [upd_ne (fun z => by rw [z] at h; rcases m with ⟨_, e⟩ | ⟨_, e⟩ <;> rw [h] at e <;> cases e)]
          exact h
      · exact .inr h) (RDs.held m r)
  | _, _, .lst h n q r => .lst (by rw [upd_ne (fun z => q (by rw [z]; exact List.mem_cons_self))]; exact h) n q (RDs.held m r)
  | _, _, .dct h n q e r => .dct (by rw [upd_ne (fun z => q (by rw [z]; exact List.mem_cons_self))]; exact h) n q e (RDs.held m r)
  | _, _, .ro h => .ro (by
      rcases h with ⟨u, h⟩ | h
      · refine .inl ⟨u, ?_⟩
        rw [upd_ne (fun z => by rw [z] at h; rcases m with ⟨_, e⟩ | ⟨_, e⟩ <;> rw [h] at e <;> cases e)]
        exact h
      · exact .inr h)
  | _, _, .loc h => .loc h
  | _, _, .fn h => .fn h
theorem RDs.held {p : Addr} {o : HO} (m : IsMut (H p)) : ∀ {ds : List D} {vs : List V}, RDs K mg ρ (p :: π) H ds vs → RDs K mg ρ (p :: π) (upd H p o) ds vs
  | _, _, .nil => .nil
  | _, _, .cons h t => .cons (RD.held m h) (RDs.held m t)
end
theorem SR.held {p : Addr} {o : HO} (s : SR K mg ρ (p :: π) H st) (m : IsMut (H p)) : SR K mg ρ (p :: π) (upd H p o) st := by
  have np : p ∉ ρ := (s.pi p List.mem_cons_self).1
  refine ⟨s.len, s.nd, fun n a u e1 e2 => ?_, fun b hb => ⟨(s.pi b hb).1, ?_⟩⟩
  · have ha : a ≠ p := fun z => np (z ▸ List.mem_of_getElem? e1)
    cases s.ob n a u e1 e2 with
    | lst h1 r => exact .lst (by rw [upd_ne ha]; exact h1) (r.held m)
    | dct h1 k r => exact .dct (by rw [upd_ne ha]; exact h1) k (r.held m)
  · by_cases hb' : b = p
    · rw [hb', upd_same]; exact fun z => nomatch z
    · rw [upd_ne hb']; exact (s.pi b hb).2
theorem RE.held {p : Addr} {o : HO} {env : Env} {σ : L2.St} (h : RE K mg ρ (p :: π) H env σ) (m : IsMut (H p)) : RE K mg ρ (p :: π) (upd H p o) env σ :=
  ⟨h.1, fun i d e => let ⟨v, e1, r⟩ := h.2 i d e; ⟨v, e1, r.held m⟩⟩
theorem Ext.held {ρ0 : List Addr} {H0 : Hp} {p : Addr} {o : HO} (x : Ext ρ0 H0 ρ H) (h : H0 p = none) : Ext ρ0 H0 ρ (upd H p o) :=
  ⟨x.pre, fun b u n e => by rw [upd_ne (ne_of_none e h)]; exact x.keep b u n e⟩
/-- a list that was held is handed out -/
theorem newHeld {ρ0 : List Addr} {H0 : Hp} {al : Bool} {p : Addr} {W : XK} {Q : VK} {xs : List D} {vs : List V} (s : SR K mg ρ (p :: π) H st) (hp : p ∉ π) (h0 : H0 p = none) (n0 : p ∉ ρ0) (x : Ext ρ0 H0 ρ H) (e : H p = some (.lst vs)) (r : RDs K mg ρ (p :: π) H xs vs)
    (h : Fin K mg (RelD K mg π) W ρ0 π H0 (newL al xs st) Q) : Q (.ref p) H := by
  have np : p ∉ ρ := (s.pi p List.mem_cons_self).1
  cases al with
  | false => exact h ρ H _ x s.less (.lst e np hp r.less)
  | true =>
    have x2 : Ext ρ0 H0 (ρ ++ [p]) H := by
      obtain ⟨τ, e1, q⟩ := x.pre
      refine ⟨⟨τ ++ [p], by rw [e1, List.append_assoc], fun b hb => ?_⟩, x.keep⟩
      rcases List.mem_append.mp hb with hb | hb
      · exact q b hb
      · rw [List.mem_singleton.mp hb]
        exact ⟨n0, h0⟩
    refine h (ρ ++ [p]) H _ x2 (s.push hp (.lst e r)) (.loc ?_)
    rw [List.getElem?_append_right (by rw [s.len]; exact Nat.le_refl _), s.len]
    simp
end

/-! ### calls -/
section
variable {X : Cx} {W : WX} {k : Nat} {C : Cal} {pats : List (Nat × List Str)} {x : Str} {f : Addr} {e : Expr} {es : List Expr} {pos : Pos} {rs rw : Env → Sto → Out (List D)}
theorem call_vals (F : Callee X.prog X.w X.K X.mg X.base k C pats x f) (hr : Room k X.A) (hg : X.A.guards = some []) (tk : Takes X W) {pins : List (Addr × Obj)} {σ : L2.St} {H : Hp} {s : Shared} (I : L2.Inv X pins σ H s) {ks : List Str} {us ws : List Value} {vs zs : List V} {Q : VK}
    {ρ π : List Addr} {st : Sto} {ds es : List D} (S : SR X.K X.mg ρ π H st) (r1 : RDs X.K X.mg ρ π H ds vs) (r2 : RDs X.K X.mg ρ π H es zs) (q1 : Vals vs us) (q2 : Vals zs ws) (hk : ks = [] ∧ es = [] ∨ (ds.length, ks) ∈ pats ∧ es.length = ks.length)
    (h : Fin X.K X.mg (RelD X.K X.mg π) (fun c d H => W c d σ H) ρ π H (callC C x ks (ds ++ es) st) Q) : wpAny (model X.prog X.w) X.A (call (.ref f) us (ks.zip ws)) (EP X pins σ Q) X.xe s := by
  unfold callC at h
  split at h
  · rename_i ds' hp
    exact run_callee F hr hg tk I S r1 r2 q1 q2 hk hp h
  · exact h.elim
/-- the function of a call: a global def -/
theorem pm_call (F : Callee X.prog X.w X.K X.mg X.base k C pats x f) (hr : Room k X.A) (hg : X.A.guards = some []) (tk : Takes X W) (hgl : Gl X x) (h2 : (x == ("__debug__" : Str)) = false) {q : Pos}
    (hs : ∀ env : PySem.Env, starEach (e :: es) env = (false, eval e env) :: starEach es env) (hn : noStar es) (ha : PA X (e :: es) (tMs X W rs)) :
    PE X (.Call (.Name x q) (e :: es) [] pos) (tM X W fun env st => (rs env st).bnd fun ds st => callC C x [] ds st) := by
  refine ⟨fun pins s σ H Q I h => ?_⟩
  refine wpAny_Call_Name_kw (ld_glob I hgl F.at_ ?_ h2)
  have h' := tF.bnd (P := fun vs H1 => ∃ ρ π st ds, SR X.K X.mg ρ π H1 st ∧ RDs X.K X.mg ρ π H1 ds vs ∧ Fin X.K X.mg (RelD X.K X.mg π) (fun c d H => W c d σ H) ρ π H1 (callC C x [] ds st) Q) h fun ρ π env ds st vs H1 S E rx F1 => ⟨ρ, π, st, ds, S, rx, F1⟩
  refine PySem.W.callWith_K (h₀ := X.base) I.ok.mod.kin F.kp (thn (ha.run pos pins s σ H _ I h') fun us s1 ⟨vs, H1, I1, r, ρ, π, st, ds, S, rd, F1⟩ => ⟨I1.kIn, ?_⟩) (hs _) (hn _ _)
  exact call_vals F hr hg tk I1 (ks := []) (us := us) (ws := []) S rd .nil r .nil (.inl ⟨rfl, rfl⟩) (by rw [List.append_nil]; exact F1)
theorem pm_call0 (F : Callee X.prog X.w X.K X.mg X.base k C pats x f) (hr : Room k X.A) (hg : X.A.guards = some []) (tk : Takes X W) (hgl : Gl X x) (h2 : (x == ("__debug__" : Str)) = false) {q : Pos} : PE X (.Call (.Name x q) [] [] pos) (tM X W fun env st => callC C x [] [] st) := by
  refine ⟨fun pins s σ H Q I h => ?_⟩
  refine wpAny_Call_Name_kw (ld_glob I hgl F.at_ ?_ h2)
  obtain ⟨ρ, π, env, st, S, E, F1⟩ := h
  exact PySem.W.callWith_K0 I.kIn F.kp (call_vals F hr hg tk I (ks := []) (us := []) (ws := []) S .nil .nil .nil .nil (.inl ⟨rfl, rfl⟩) F1)
theorem callk_core {kws : List Keyword} {ks : List Str} (F : Callee X.prog X.w X.K X.mg X.base k C pats x f) (hr : Room k X.A) (hg : X.A.guards = some []) (tk : Takes X W) {args : List Expr}
    (hall : ∀ (env : PySem.Env) (pos : Pos), (backToKw pos (keywordEach kws env)).all (·.1.isSome) = true) (hks : ∀ (env : PySem.Env) (pos : Pos), (backToKw pos (keywordEach kws env)).filterMap (·.1) = ks)
    (hs : (args = [] ∧ ∀ env st, rs env st = .ok [] st) ∨ ∃ e es, args = e :: es ∧ (∀ env : PySem.Env, starEach (e :: es) env = (false, eval e env) :: starEach es env)) (hn : noStar args) (hp : (args.length, ks) ∈ pats) (hl : kws.length = ks.length)
    (hl1 : ∀ env st ds st', rs env st = .ok ds st' → ds.length = args.length) (hl2 : ∀ env st ds st', rw env st = .ok ds st' → ds.length = kws.length)
    (ha : PA X args (tMs X W rs)) (hkw : PK X kws (tMs X W rw)) {pins : List (Addr × Obj)} {s : Shared} {σ : L2.St} {H : Hp} {Q : VK} (I : L2.Inv X pins σ H s) {ρ0 π : List Addr} {env : Env} {st0 : Sto} (S0 : SR X.K X.mg ρ0 π H st0) (E0 : RE X.K X.mg ρ0 π H env σ)
    (F0 : Fin X.K X.mg (RelD X.K X.mg π) (fun c d H => W c d σ H) ρ0 π H ((rs env st0).bnd fun ds st => (rw env st).bnd fun zs st => callC C x ks (ds ++ zs) st) Q) :
    wpAny (model X.prog X.w) X.A (callWith pos (.ref f) [] (backTo pos (starEach args X.env)) (backToKw pos (keywordEach kws X.env))) (EP X pins σ Q) X.xe s := by
  have hnone : ∀ (env : PySem.Env) (pos : Pos), (backToKw pos (keywordEach kws env)).any (·.1.isNone) = false := fun env pos => by
    have h1 := hall env pos
    rw [List.any_eq_false]
    intro y hy
    have h2 := List.all_eq_true.mp h1 y hy
    cases hh : y.1 with
    | none => rw [hh] at h2; cases h2
    | some z => simp
  have core : ∀ {s1 : Shared} {H1 : Hp} {us : List Value} {vs : List V} {ρ1 : List Addr} {st1 : Sto} {ds : List D}, L2.Inv X pins σ H1 s1 → Vals vs us → Ext ρ0 H ρ1 H1 → SR X.K X.mg ρ1 π H1 st1 → RDs X.K X.mg ρ1 π H1 ds vs → ds.length = args.length →
      Fin X.K X.mg (RelD X.K X.mg π) (fun c d H => W c d σ H) ρ1 π H1 ((rw env st1).bnd fun zs st => callC C x ks (ds ++ zs) st) Q →
      wpAny (model X.prog X.w) X.A (evalAll ((backToKw pos (keywordEach kws X.env)).map (·.2))) (fun kv s₂ => X.K.In s₂.heap ∧ wpAny (model X.prog X.w) X.A (call (.ref f) ([] ++ us) (((backToKw pos (keywordEach kws X.env)).filterMap (·.1)).zip kv)) (EP X pins σ Q) X.xe s₂) X.xe s1 := by
    intro s1 H1 us vs ρ1 st1 ds I1 rv x1 S1 rd hld F1
    have h1 : tMs X W rw σ H1 (fun zs H2 => ∃ ρ2 st2 es, Ext ρ1 H1 ρ2 H2 ∧ SR X.K X.mg ρ2 π H2 st2 ∧ RDs X.K X.mg ρ2 π H2 es zs ∧ es.length = kws.length ∧ Fin X.K X.mg (RelD X.K X.mg π) (fun c d H => W c d σ H) ρ2 π H2 (callC C x ks (ds ++ es) st2) Q) :=
      ⟨ρ1, π, env, st1, S1, E0.mono x1 S0.muts, F1.bnd fun zs st2 ρ2 H2 ws e2 x2 S2 r2 F2 => ⟨ρ2, st2, zs, x2, S2, r2, hl2 _ _ _ _ e2, F2⟩⟩
    refine thn (hkw.run pos pins s1 σ H1 _ I1 h1) fun kv s2 ⟨zs, H2, I2, rz, ρ2, st2, es2, x2, S2, r2, hle, F2⟩ => ⟨I2.kIn, ?_⟩
    rw [hks, List.nil_append]
    exact call_vals F hr hg tk I2 S2 (rd.mono x2 S1.muts) r2 rv rz (.inr ⟨by rw [hld]; exact hp, by rw [hle, hl]⟩) F2
  rcases hs with ⟨rfl, hz⟩ | ⟨e, es, rfl, hs⟩
  · rw [hz] at F0
    refine PySem.W.callWith_KW0 (h₀ := X.base) I.ok.mod.kin F.kp (hall _ _) ?_ (by rw [hn, hnone]; rfl)
    exact core I .nil (Ext.refl ρ0 H) S0 .nil rfl F0
  · have h' : tMs X W rs σ H (fun vs H1 => ∃ ρ1 st1 ds, Ext ρ0 H ρ1 H1 ∧ SR X.K X.mg ρ1 π H1 st1 ∧ RDs X.K X.mg ρ1 π H1 ds vs ∧ ds.length = (e :: es).length ∧ Fin X.K X.mg (RelD X.K X.mg π) (fun c d H => W c d σ H) ρ1 π H1 ((rw env st1).bnd fun zs st => callC C x ks (ds ++ zs) st) Q) :=
      ⟨ρ0, π, env, st0, S0, E0, F0.bnd fun ds st1 ρ1 H1 vs e1 x1 S1 r1 F1 => ⟨ρ1, st1, ds, x1, S1, r1, hl1 _ _ _ _ e1, F1⟩⟩
    refine PySem.W.callWith_KW (h₀ := X.base) I.ok.mod.kin F.kp (hall _ _) (thn (ha.run pos pins s σ H _ I h') fun us s1 ⟨vs, H1, I1, r, ρ1, st1, ds, x1, S1, rd, hld, F1⟩ => core I1 r x1 S1 rd hld F1) (by rw [hn, hnone]; rfl) (hs _)
/-- .. with keywords -/
theorem pm_callk {kws : List Keyword} {ks : List Str} (F : Callee X.prog X.w X.K X.mg X.base k C pats x f) (hr : Room k X.A) (hg : X.A.guards = some []) (tk : Takes X W) (hgl : Gl X x) (h2 : (x == ("__debug__" : Str)) = false) {q : Pos} {args : List Expr}
    (hall : ∀ (env : PySem.Env) (pos : Pos), (backToKw pos (keywordEach kws env)).all (·.1.isSome) = true) (hks : ∀ (env : PySem.Env) (pos : Pos), (backToKw pos (keywordEach kws env)).filterMap (·.1) = ks)
    (hs : (args = [] ∧ ∀ env st, rs env st = .ok [] st) ∨ ∃ e es, args = e :: es ∧ (∀ env : PySem.Env, starEach (e :: es) env = (false, eval e env) :: starEach es env)) (hn : noStar args) (hp : (args.length, ks) ∈ pats) (hl : kws.length = ks.length)
    (hl1 : ∀ env st ds st', rs env st = .ok ds st' → ds.length = args.length) (hl2 : ∀ env st ds st', rw env st = .ok ds st' → ds.length = kws.length)
    (ha : PA X args (tMs X W rs)) (hkw : PK X kws (tMs X W rw)) :
    PE X (.Call (.Name x q) args kws pos) (tM X W fun env st => (rs env st).bnd fun ds st => (rw env st).bnd fun zs st => callC C x ks (ds ++ zs) st) := by
  refine ⟨fun pins s σ H Q I h => ?_⟩
  refine wpAny_Call_Name_kw (ld_glob I hgl F.at_ ?_ h2)
  obtain ⟨ρ0, π, env, st0, S0, E0, F0⟩ := h
  exact callk_core F hr hg tk hall hks hs hn hp hl hl1 hl2 ha hkw I S0 E0 F0
/-- .. of a local name -/
theorem pm_callv {i : Nat} {T : List Str} (F : ∀ y ∈ T, ∃ f, Callee X.prog X.w X.K X.mg X.base k C pats y f) (hr : Room k X.A) (hg : X.A.guards = some []) (tk : Takes X W)
    (hN : X.N[i]? = some x) (hv : Vis X.env.scope x) (h2 : (x == ("__debug__" : Str)) = false) (h3 : (x == ("__classdict__" : Str)) = false) {q : Pos}
    (hs : ∀ env : PySem.Env, starEach (e :: es) env = (false, eval e env) :: starEach es env) (hn : noStar es) (ha : PA X (e :: es) (tMs X W rs)) :
    PE X (.Call (.Name x q) (e :: es) [] pos) (tM X W fun env st => match env[i]? with
      | some (some (.fn g)) => if T.contains g then (rs env st).bnd fun ds st => callC C g [] ds st else .bad
      | _ => .bad) := by
  refine ⟨fun pins s σ H Q I h => ?_⟩
  obtain ⟨ρ0, π, env, st0, S0, E0, F0⟩ := h
  dsimp only at F0
  split at F0
  · rename_i g hgi
    split at F0
    · rename_i hg2
      obtain ⟨f, Fc⟩ := F g (List.contains_iff_mem.mp hg2)
      obtain ⟨v, e1, r⟩ := E0.2 i _ hgi
      cases r with
      | fn hm =>
        rename_i a
        have ea : Value.ref a = Value.ref f := Option.some.inj (hm.symm.trans Fc.at_)
        have ea' : a = f := by cases ea; rfl
        subst ea'
        refine wpAny_Call_Name_kw (thn ((pe_var (pos := q) hN hv h2 h3).run pins s σ H (fun v H1 => v = .ref a ∧ H1 = H) I ⟨_, e1, rfl, rfl⟩) fun u s1 ⟨v, H1, I1, r1, e2, e3⟩ => ?_)
        subst e2
        subst e3
        cases r1
        have h' : tMs X W rs σ H1 (fun vs H2 => ∃ ρ st ds, SR X.K X.mg ρ π H2 st ∧ RDs X.K X.mg ρ π H2 ds vs ∧ Fin X.K X.mg (RelD X.K X.mg π) (fun c d H => W c d σ H) ρ π H2 (callC C g [] ds st) Q) :=
          ⟨ρ0, π, env, st0, S0, E0, F0.bnd fun ds st1 ρ1 H2 vs e1 x1 S1 r1 F1 => ⟨ρ1, st1, ds, S1, r1, F1⟩⟩
        refine PySem.W.callWith_K (h₀ := X.base) I1.ok.mod.kin Fc.kp (thn (ha.run pos pins s1 σ H1 _ I1 h') fun us s2 ⟨vs, H2, I2, r, ρ, st, ds, S, rd, F1⟩ => ⟨I2.kIn, ?_⟩) (hs _) (hn _ _)
        exact call_vals Fc hr hg tk I2 (ks := []) (us := us) (ws := []) S rd .nil r .nil (.inl ⟨rfl, rfl⟩) (by rw [List.append_nil]; exact F1)
    · exact F0.elim
  · exact F0.elim
/-- .. with keywords -/
theorem pm_callvk {i : Nat} {T : List Str} {kws : List Keyword} {ks : List Str} (F : ∀ y ∈ T, ∃ f, Callee X.prog X.w X.K X.mg X.base k C pats y f) (hr : Room k X.A) (hg : X.A.guards = some []) (tk : Takes X W)
    (hN : X.N[i]? = some x) (hv : Vis X.env.scope x) (h2 : (x == ("__debug__" : Str)) = false) (h3 : (x == ("__classdict__" : Str)) = false) {q : Pos} {args : List Expr}
    (hall : ∀ (env : PySem.Env) (pos : Pos), (backToKw pos (keywordEach kws env)).all (·.1.isSome) = true) (hks : ∀ (env : PySem.Env) (pos : Pos), (backToKw pos (keywordEach kws env)).filterMap (·.1) = ks)
    (hs : (args = [] ∧ ∀ env st, rs env st = .ok [] st) ∨ ∃ e es, args = e :: es ∧ (∀ env : PySem.Env, starEach (e :: es) env = (false, eval e env) :: starEach es env)) (hn : noStar args) (hp : (args.length, ks) ∈ pats) (hl : kws.length = ks.length)
    (hl1 : ∀ env st ds st', rs env st = .ok ds st' → ds.length = args.length) (hl2 : ∀ env st ds st', rw env st = .ok ds st' → ds.length = kws.length)
    (ha : PA X args (tMs X W rs)) (hkw : PK X kws (tMs X W rw)) :
    PE X (.Call (.Name x q) args kws pos) (tM X W fun env st => match env[i]? with
      | some (some (.fn g)) => if T.contains g then (rs env st).bnd fun ds st => (rw env st).bnd fun zs st => callC C g ks (ds ++ zs) st else .bad
      | _ => .bad) := by
  refine ⟨fun pins s σ H Q I h => ?_⟩
  obtain ⟨ρ0, π, env, st0, S0, E0, F0⟩ := h
  dsimp only at F0
  split at F0
  · rename_i g hgi
    split at F0
    · rename_i hg2
      obtain ⟨f, Fc⟩ := F g (List.contains_iff_mem.mp hg2)
      obtain ⟨v, e1, r⟩ := E0.2 i _ hgi
      cases r with
      | fn hm =>
        rename_i a
        have ea : Value.ref a = Value.ref f := Option.some.inj (hm.symm.trans Fc.at_)
        have ea' : a = f := by cases ea; rfl
        subst ea'
        refine wpAny_Call_Name_kw (thn ((pe_var (pos := q) hN hv h2 h3).run pins s σ H (fun v H1 => v = .ref a ∧ H1 = H) I ⟨_, e1, rfl, rfl⟩) fun u s1 ⟨v, H1, I1, r1, e2, e3⟩ => ?_)
        subst e2
        subst e3
        cases r1
        exact callk_core Fc hr hg tk hall hks hs hn hp hl hl1 hl2 ha hkw I1 S0 E0 F0
    · exact F0.elim
  · exact F0.elim
end
end Ev
/-! Walks over tuples by enumerate, at the hand layer's level. -/
namespace Ev.Wk
open PySem PySem.Spec PyProof.Rows L2
section
variable {P0 : Program} {w0 : World} {Ar : Around}
/-- a tuple's iterator draws its items -/
theorem drawsTup (hh : Ar.handled = none) (t a : Addr) (hne : a ≠ t) (vs : Array Value) : Draws P0 w0 Ar t [t, a] vs.size (fun j v => vs[j]? = some v) (fun j h => h.IsTupleIter t a j ∧ h.IsTuple a vs) where
  live := fun _ _ q => by obtain ⟨⟨o, e, _⟩, _⟩ := q; exact ⟨o, e⟩
  frame := fun _ _ _ q k => ⟨q.1.at (k t (List.mem_cons_self)), q.2.at (k a (by simp))⟩
  item := fun j s' Q' E' hj q hQ' => RZ.nextOf_tuple_item q.1 q.2 (x := vs[j]) (Array.getElem?_eq_getElem hj) fun h1 it1 sb => hQ' _ h1 s'.toks (Array.getElem?_eq_getElem hj) ⟨it1, q.2.extBut sb.extBut hne⟩ sb
  done := fun s' Q' E' q hE' => RZ.nextOf_tuple_end hh q.1 q.2 (by simp) hE'
/-- .. and is at its end behind them -/
theorem drawsTupEnd (hh : Ar.handled = none) (t a : Addr) (hne : a ≠ t) (vs : Array Value) (m : Nat) (hm : vs.size ≤ m) : Draws P0 w0 Ar t [t, a] m (fun _ _ => True) (fun j h => j = m ∧ h.IsTupleIter t a m ∧ h.IsTuple a vs) where
  live := fun _ _ q => by obtain ⟨_, ⟨o, e, _⟩, _⟩ := q; exact ⟨o, e⟩
  frame := fun _ _ _ q k => ⟨q.1, q.2.1.at (k t (List.mem_cons_self)), q.2.2.at (k a (by simp))⟩
  item := fun j s' Q' E' hj q hQ' => absurd q.1 (Nat.ne_of_lt hj)
  done := fun s' Q' E' q hE' => RZ.nextOf_tuple_end hh q.2.1 q.2.2 (Array.getElem?_eq_none hm) hE'
end
/-- enumerate over a tuple: a new object, and a tuple's iterator in it -/
theorem enumTupNew (a : Addr) (vs : Array Value) (n : Nat) (dd : Option Addr) (sl : Array (Option Value)) :
    Meets (Builtin.«enumerate.__new__» ⟨[.type "enumerate", .ref a], []⟩) (fun _ R s => s.heap.get? a = some { cls := .type "tuple", dict := dd, data := .seq vs n, slots := sl } ∧
      R (.ok (.ret (.ref (s.heap.push { cls := .type "tuple_iterator", data := .fields #[.ref a, .int 0 0] }).objs.size)))
        { s with heap := (s.heap.push { cls := .type "tuple_iterator", data := .fields #[.ref a, .int 0 0] }).push { cls := .type "enumerate", data := .fields #[.none, .bool false, .ref s.heap.objs.size, rawInt 0, .none, .none] } }) :=
  .of_wp fun P1 w1 A1 R1 s1 q => by
    obtain ⟨hp1, g1, d1, t1, o1⟩ := s1
    obtain ⟨ha, q⟩ := q
    have sub1 := sub_enumerate
    have isT : Heap.IsTuple (Shared.heap ⟨hp1, g1, d1, t1, o1⟩) a vs := ⟨_, ha, rfl, n, rfl⟩
    wp_walk using wpAny_loadPart' ha
    refine wpAny_stack_any fun st1 => wpAny_pure ?_
    split
    · rename_i cc _ _ _ _ _
      cases (cc == Value.type "enumerate") <;> (wp_walk using wpAny_loadPart' ha, wpAny_pyIter_tuple isT; exact ⟨_, rfl, q⟩)
    · wp_walk using wpAny_loadPart' ha, wpAny_pyIter_tuple isT
      exact ⟨_, rfl, q⟩
section
variable {P0 : Program} {w0 : World} {Ar : Around} {Er : Value → Shared → Prop} {sh : Shared}
theorem callEnumTup {a : Addr} {vs : Array Value} {Q0 : Value → Shared → Prop} (isT : sh.heap.IsTuple a vs)
    (k : ∀ h1, IsEnum h1 (sh.heap.objs.size + 1) sh.heap.objs.size 0 .none → h1.IsTupleIter sh.heap.objs.size a 0 → h1.objs.size = sh.heap.objs.size + 2 → (∀ c o, sh.heap.get? c = some o → h1.get? c = some o) → Q0 (.ref (sh.heap.objs.size + 1)) { sh with heap := h1 }) :
    wpAny (model P0 w0) Ar (call (.type "enumerate") [.ref a]) Q0 Er sh := by
  obtain ⟨⟨cc, dd, dat, sl⟩, ha, hc, n, hd⟩ := isT
  obtain rfl : cc = .type "tuple" := hc
  obtain rfl : dat = .seq vs n := hd
  refine callType_new F.called_enumerate (by decide) (F.typeCall_enumerate_1 _) (F.newCall_enumerate_1 _) (fun ob => F.args_object_init_2 ob _) F.entry_enumerate_new (enumTupNew a vs n dd sl) ⟨ha, ?_⟩
  obtain ⟨h1, e1⟩ : ∃ h1, h1 = sh.heap.push { cls := .type "tuple_iterator", data := .fields #[.ref a, .int 0 0] } := ⟨_, rfl⟩
  obtain ⟨h2, e2⟩ : ∃ h2, h2 = h1.push { cls := .type "enumerate", data := .fields #[.none, .bool false, .ref sh.heap.objs.size, rawInt 0, .none, .none] } := ⟨_, rfl⟩
  have z1 : h1.objs.size = sh.heap.objs.size + 1 := by rw [e1, Heap.size_push]
  have z2 : h2.objs.size = sh.heap.objs.size + 2 := by rw [e2, Heap.size_push, z1]
  have en : IsEnum h2 (sh.heap.objs.size + 1) sh.heap.objs.size 0 .none := by
    show h2.get? (sh.heap.objs.size + 1) = some _
    rw [e2, ← z1]
    exact Heap.get?_push_size _ rfl
  have ti : h2.IsTupleIter sh.heap.objs.size a 0 := by
    refine ⟨{ cls := .type "tuple_iterator", data := .fields #[.ref a, .int 0 0] }, ?_, rfl, rfl⟩
    rw [e2]
    refine Heap.get?_push_of_some _ ?_
    rw [e1]
    exact Heap.get?_push_size _ rfl
  have kp : ∀ c o, sh.heap.get? c = some o → h2.get? c = some o := fun c o q => by
    rw [e2]
    refine Heap.get?_push_of_some _ ?_
    rw [e1]
    exact Heap.get?_push_of_some _ q
  rw [← e1, ← e2, z1]
  show _ ∧ _
  exact ⟨⟨_, en, rfl⟩, k h2 en ti z2 kp⟩
end
/-- the tuple at a as it stands at each turn, each item with its number in a new pair -/
def EnT (K : PySem.W.Frag) (a : Addr) : It :=
  ⟨fun j H => ∃ (vs : List V) (v : V), SqT K H a vs ∧ vs[j]? = some v,
    fun j H u H' => ∃ N v, u = .ref N ∧ H N = none ∧ H' = upd H N (.tup [.int (j : Nat), v]) ∧ ∀ vs, SqT K H a vs → vs[j]? = some v,
    fun j H => ∃ vs : List V, SqT K H a vs ∧ vs.length ≤ j⟩
theorem turnEnT {P0 : Program} {w0 : World} {K : PySem.W.Frag} {ts : List Expr} {c0 : Nat} {p0 : Pos} (a e t : Addr) :
    Turn P0 w0 K (.Tuple ts c0 p0) (EnT K a) [e, t] e (fun j h => (∃ u, IsEnum h e t ((j : Nat) : Int) u) ∧ h.IsTupleIter t a j ∧ e ≠ t ∧ a ≠ t ∧ a ≠ e) where
  mem := List.mem_cons_self
  obj := fun j h q c hc => by
    obtain ⟨⟨u, q1⟩, ⟨o, o1, o2, o3⟩, _⟩ := q
    simp only [List.mem_cons, List.not_mem_nil, or_false] at hc
    rcases hc with rfl | rfl
    · exact ⟨_, q1, fun v z => by cases z⟩
    · exact ⟨o, o1, fun v z => by rw [o3] at z; cases z⟩
  keep := fun j h h1 q k => by
    obtain ⟨⟨u, q1⟩, q2, q3⟩ := q
    exact ⟨⟨u, k e List.mem_cons_self _ q1⟩, q2.at (k t (by simp)), q3⟩
  item := by
    intro X e1 e2 e3 calm j pins s σ H E0 I fp q g
    subst e1 e2 e3
    obtain ⟨⟨u, q1⟩, q2, ne, na, ne2⟩ := q
    obtain ⟨vs, v, s1, s2⟩ := g
    obtain ⟨is, r1, isT, -⟩ := I.tuple s1
    obtain ⟨y, y1, y2⟩ := r1.get s2
    have le : e < s.heap.objs.size := Heap.lt_size q1
    have lt : t < s.heap.objs.size := by obtain ⟨_, z, _⟩ := q2; exact Heap.lt_size z
    have hj : j < is.toArray.size := by
      have := (List.getElem?_eq_some_iff.mp y1).1
      simpa using this
    refine wpAny_pyNext_enum_itemD (drawsTup (Ar := X.A.in1) (I.ok.hd calm) t a na is.toArray) q1 ⟨q2, isT⟩ hj ne (by simp [ne, ne2.symm]) fun x h1 tk px out st new sz kp => ?_
    have hx : x = y := by
      have px : is.toArray[j]? = some x := px
      rw [List.getElem?_toArray, y1] at px
      cases px
      rfl
    subst hx
    refine ⟨_, rfl, wpAny_letOwnedTupleGo_enum (s := { s with heap := h1, toks := tk + 1 }) out fun h2 en sb => ?_⟩
    have new2 : h2.get? s.heap.objs.size = some { cls := .type "tuple", data := .seq #[.int j tk, x] } := (sb.2 _ (Nat.ne_of_gt le)).trans new
    have ok : ObjOk X.prog X.w (upd H s.heap.objs.size (.tup [.int (j : Nat), v])) h2 s.heap.objs.size (.tup [.int (j : Nat), v]) := ⟨by show 2 ≤ sizeLine; decide, [.int j tk, x], .cons ⟨_, rfl⟩ (.cons y2 .nil), ⟨_, new2, rfl, _, rfl⟩⟩
    have I2 : Inv X pins σ (upd H s.heap.objs.size (.tup [.int (j : Nat), v])) { s with heap := h2, toks := tk + 1 } :=
      I.turnedNew (ch := [e, t]) (fun c o hc z => (sb.2 c (fun w => hc (by simp [w]))).trans (kp c o (fun w => hc (by simp [w])) (fun w => hc (by simp [w])) z)) fp (Nat.le_refl _) ok
    refine ⟨.ref s.heap.objs.size, _, I2, rfl, ⟨_, v, rfl, I.hok.fresh (Nat.le_refl _), rfl, fun zs hz => by rw [I.tuple_inj hz s1]; exact s2⟩, ⟨⟨x, ?_⟩, st.1.at fun o z => (sb.2 t (Ne.symm ne)).trans z, ne, na, ne2⟩, fun c hc => ?_⟩
    · have : ((j + 1 : Nat) : Int) = (j : Int) + 1 := by omega
      rw [this]
      exact en
    · have lc : c < s.heap.objs.size := by
        simp only [List.mem_cons, List.not_mem_nil, or_false] at hc
        rcases hc with rfl | rfl
        · exact le
        · exact lt
      rw [upd_ne (Nat.ne_of_lt lc)]
      exact (fp c hc).1
  done := by
    intro X e1 e2 e3 calm j pins s σ H E0 I fp q g
    subst e1 e2 e3
    obtain ⟨⟨u, q1⟩, q2, ne, na, ne2⟩ := q
    obtain ⟨vs, s1, s2⟩ := g
    obtain ⟨is, r1, isT, -⟩ := I.tuple s1
    obtain ⟨f0, f1, f2, f3, f4, f5⟩ := fp t (by simp)
    have hl := r1.length
    refine wpAny_pyNext_enum_endD (drawsTupEnd (Ar := X.A.in1) (I.ok.hd calm) t a na is.toArray j (by simp; omega)) q1 ⟨rfl, q2, isT⟩ fun h1 eb => ⟨rfl, I.turned (t' := s.toks) (fun c o hc z => eb c o hc z) f0 f1 f3 f4 f5⟩
  self := fun A1 j s Q1 E1 q k => by
    obtain ⟨⟨u, q1⟩, _⟩ := q
    exact wpAny_pyIter_enum q1 k
/-- enumerate over a list or a tuple -/
def iEnQ (K : PySem.W.Frag) (ta : TA) : TI := fun σ H R => ta σ H fun vs H1 => ∃ a, vs = [.ref a] ∧ (((∃ xs, SqL K H1 a xs) ∧ R (Ite K a) H1) ∨ ((∃ xs, SqT K H1 a xs) ∧ R (EnT K a) H1))
theorem pi_enQ {X : Cx} {x : Expr} {ta : TA} {p1 p2 p3 : Pos} {ts : List Expr} {c0 : Nat} (g0 : Gl X "enumerate") (m0 : X.mg "enumerate" = none) (ha : PA X [x] ta) (hs : starEach [x] X.env = [(false, eval x X.env)]) : PI X (.Tuple ts c0 p3) (.Call (.Name "enumerate" p1) [x] [] p2) (iEnQ X.K ta) := by
  refine ⟨fun pins s σ H R I w => ?_⟩
  refine Call_ (ld_blt I g0 m0 boot_enumerate (PyProof.Rows.callWith_type1 (thn (ha.run p2 pins s σ H _ I w) fun us s1 ⟨vs, H1, I1, rv, q⟩ => ?_) hs rfl))
  obtain ⟨a, rfl, q⟩ := q
  cases rv with
  | cons r0 r1 =>
    cases r1
    obtain rfl := r0
    have young : ∀ c, c ∈ [s1.heap.objs.size + 1, s1.heap.objs.size] → s1.heap.objs.size ≤ c := fun c hc => by
      simp only [List.mem_cons, List.not_mem_nil, or_false] at hc
      omega
    rcases q with ⟨⟨xs, hx⟩, q⟩ | ⟨⟨xs, hx⟩, q⟩
    · obtain ⟨is, r2, isL, -⟩ := I1.list hx
      refine call_enumerate_list isL.isList fun h1 en li sz kp => wpAny_pyIter_enum en ?_
      have I2 : Inv X pins σ H1 { s1 with heap := h1 } := I1.kept (t' := s1.toks) kp
      exact ⟨s1.heap.objs.size + 1, [s1.heap.objs.size + 1, s1.heap.objs.size], _, _, H1, rfl, I2, turn_enum a (s1.heap.objs.size + 1) s1.heap.objs.size, ⟨⟨.none, en⟩, li, Nat.succ_ne_self _⟩, fun c hc => I1.fpOk (young c hc) (I1.hok.fresh (young c hc)), q⟩
    · obtain ⟨is, r2, isT, -⟩ := I1.tuple hx
      have la : a < s1.heap.objs.size := by obtain ⟨_, z, _⟩ := isT; exact Heap.lt_size z
      refine callEnumTup isT fun h1 en li sz kp => wpAny_pyIter_enum en ?_
      have I2 : Inv X pins σ H1 { s1 with heap := h1 } := I1.kept (t' := s1.toks) kp
      exact ⟨s1.heap.objs.size + 1, [s1.heap.objs.size + 1, s1.heap.objs.size], _, _, H1, rfl, I2, turnEnT a (s1.heap.objs.size + 1) s1.heap.objs.size, ⟨⟨.none, en⟩, li, Nat.succ_ne_self _, Nat.ne_of_lt la, Nat.ne_of_lt (Nat.lt_succ_of_lt la)⟩, fun c hc => I1.fpOk (young c hc) (I1.hok.fresh (young c hc)), q⟩
end Ev.Wk
/-! Dict displays, targets, walks, comprehensions. -/
namespace Ev
open PySem PySem.Spec PyProof.Rows L2

/-! ### dict displays -/
section
variable {X : Cx} {W : WX} {pos : Pos}
theorem zip_fst {α β : Type} : ∀ {ks : List α} {vs : List β}, ks.length = vs.length → (ks.zip vs).map (·.1) = ks
  | [], [], _ => rfl
  | k :: ks, v :: vs, h => by
    rw [List.zip_cons_cons, List.map_cons, zip_fst (by simpa using h)]
theorem zip_snd {α β : Type} : ∀ {ks : List α} {vs : List β}, ks.length = vs.length → (ks.zip vs).map (·.2) = vs
  | [], [], _ => rfl
  | k :: ks, v :: vs, h => by
    rw [List.zip_cons_cons, List.map_cons, zip_snd (by simpa using h)]
theorem mergeK_new : ∀ {kvs acc : List (Key × V)}, ((acc ++ kvs).map (·.1)).Nodup → mergeK acc kvs = acc ++ kvs
  | [], acc, _ => by
    rw [List.append_nil]
    rfl
  | (k, v) :: r, acc, h => by
    have h1 : putK acc k v = acc ++ [(k, v)] := by
      unfold putK
      rw [if_neg]
      intro z
      rw [List.any_eq_true] at z
      obtain ⟨y, hy, e⟩ := z
      have e' : y.1 = k := of_decide_eq_true e
      rw [List.map_append, List.map_cons] at h
      have h2 := (List.nodup_append.mp h).2.2 y.1 (List.mem_map_of_mem hy) k List.mem_cons_self
      exact h2 e'
    have h3 : mergeK acc ((k, v) :: r) = mergeK (putK acc k v) r := rfl
    rw [h3, h1, mergeK_new (by rw [List.append_assoc]; exact h), List.append_assoc]
    rfl
theorem newDct_held {K : PySem.W.Frag} {mg : Str → Option Value} {ρ ρ0 π : List Addr} {H H0 : Hp} {st : Sto} {al : Bool} {p : Addr} {Wx : XK} {Q : VK} {ks : List Key} {xs : List D} {vs : List V} (s : SR K mg ρ (p :: π) H st) (hp : p ∉ π) (h0 : H0 p = none) (n0 : p ∉ ρ0) (x : Ext ρ0 H0 ρ H)
    (e : IsMut (H p)) (r : RDs K mg ρ (p :: π) H xs vs) (hl : ks.length = xs.length) (h : Fin K mg (RelD K mg π) Wx ρ0 π H0 (newDct al ks xs st) Q) : Q (.ref p) (upd H p (.dK (ks.zip vs))) := by
  have s1 := s.held (o := .dK (ks.zip vs)) e
  have r1 := r.held (o := .dK (ks.zip vs)) e
  have x1 : Ext ρ0 H0 ρ (upd H p (.dK (ks.zip vs))) := x.held h0
  have np : p ∉ ρ := (s.pi p List.mem_cons_self).1
  have hl2 : ks.length = vs.length := by rw [hl, r.length]
  cases al with
  | false => exact h ρ _ _ x1 s1.less (.dct upd_same np hp (zip_fst hl2) (by rw [zip_snd hl2]; exact r1.less))
  | true =>
    have x2 : Ext ρ0 H0 (ρ ++ [p]) (upd H p (.dK (ks.zip vs))) := by
      obtain ⟨τ, e1, q⟩ := x1.pre
      refine ⟨⟨τ ++ [p], by rw [e1, List.append_assoc], fun b hb => ?_⟩, x1.keep⟩
      rcases List.mem_append.mp hb with hb | hb
      · exact q b hb
      · rw [List.mem_singleton.mp hb]
        exact ⟨n0, h0⟩
    refine h (ρ ++ [p]) _ _ x2 (s1.push hp (.dct upd_same (zip_fst hl2) (by rw [zip_snd hl2]; exact r1))) (.loc ?_)
    rw [List.getElem?_append_right (by rw [s.len]; exact Nat.le_refl _), s.len]
    simp
/-- the values of a display, one after another -/
inductive Each (X : Cx) (W : WX) : List Expr → List (Env → Sto → Out D) → Prop
  | nil : Each X W [] []
  | cons {e : Expr} {es : List Expr} {r : Env → Sto → Out D} {rs : List (Env → Sto → Out D)} (h : PE X e (tM X W r)) (t : Each X W es rs) : Each X W (e :: es) (r :: rs)
def seqR : List (Env → Sto → Out D) → Env → Sto → Out (List D)
  | [], _, st => .ok [] st
  | r :: rs, env, st => (r env st).bnd fun d st => (seqR rs env st).bnd fun ds st => .ok (d :: ds) st
theorem keysOf_pps : ∀ {ks : List (Option Expr)} {kk : List Key} {es : List Expr} {rs : List (Env → Sto → Out D)}, keysOf ks = some kk → Each X W es rs → kk.length = es.length →
    ∃ trs : List (TE × TE), PPs X pos ks es trs ∧ ks.all (·.isSome) = true ∧ ks.length = es.length ∧
      ∀ {σ : L2.St} {H : Hp} {Q : List (V × V) → Hp → Prop} {ρ π : List Addr} {env : Env} {st : Sto}, SR X.K X.mg ρ π H st → RE X.K X.mg ρ π H env σ →
        Fin X.K X.mg (RelDs X.K X.mg π) (fun c d H => W c d σ H) ρ π H (seqR rs env st) (fun vs H => Q ((kk.map kV).zip vs) H) → tPairs trs σ H Q
  | [], _, _, _, e, each, hl => by
    cases e
    cases each with
    | nil => exact ⟨[], pps_nil, rfl, rfl, fun S E F => F.here S .nil⟩
    | cons h t => cases hl
  | o :: ks, _, _, _, e, each, hl => by
    have key : ∀ {k : Key} {kk' : List Key} {ek : Expr}, o = some ek → PE X ek (tC (kV k)) → keysOf ks = some kk' → ∀ {es : List Expr} {rs : List (Env → Sto → Out D)}, Each X W es rs → (k :: kk').length = es.length →
        ∃ trs : List (TE × TE), PPs X pos (o :: ks) es trs ∧ (o :: ks).all (·.isSome) = true ∧ (o :: ks).length = es.length ∧
          ∀ {σ : L2.St} {H : Hp} {Q : List (V × V) → Hp → Prop} {ρ π : List Addr} {env : Env} {st : Sto}, SR X.K X.mg ρ π H st → RE X.K X.mg ρ π H env σ →
            Fin X.K X.mg (RelDs X.K X.mg π) (fun c d H => W c d σ H) ρ π H (seqR rs env st) (fun vs H => Q (((k :: kk').map kV).zip vs) H) → tPairs trs σ H Q := by
      intro k kk' ek eo hk ek' es rs each hl
      subst eo
      cases each with
      | nil => cases hl
      | cons h t =>
        obtain ⟨trs, p1, p2, p3, p4⟩ := keysOf_pps ek' t (by simpa using hl)
        refine ⟨_, pps_cons hk h p1, by rw [List.all_cons, p2]; rfl, by rw [List.length_cons, List.length_cons, p3], fun {σ H Q ρ π env st} S E F => ?_⟩
        refine ⟨ρ, π, env, st, S, E, F.bnd fun d st1 ρ1 H1 v e1 x1 S1 r1 F1 => ?_⟩
        refine p4 S1 (E.mono x1 S.muts) (F1.bnd fun ds st2 ρ2 H2 vs e2 x2 S2 r2 F2 => ?_)
        exact F2.here S2 (.cons (r1.mono x2 S1.muts) r2)
    cases o with
    | none => cases e
    | some ek =>
      unfold keysOf at e
      split at e
      · cases ‹_ :: _ = []›
      · rename_i i j p r heq
        injection heq with h1 h2
        injection h1 with h1
        subst h1 h2
        rw [Option.map_eq_some_iff] at e
        obtain ⟨kk', e1, rfl⟩ := e
        exact key rfl pe_int e1 each hl
      · rename_i i j p r heq
        injection heq with h1 h2
        injection h1 with h1
        subst h1 h2
        rw [Option.map_eq_some_iff] at e
        obtain ⟨kk', e1, rfl⟩ := e
        exact key rfl pe_str e1 each hl
      · cases e
theorem zip_kv : ∀ {kk : List Key} {vs : List V}, kk.length = vs.length → (kk.map kV).zip vs = (kk.zip vs).map fun kv => (kV kv.1, kv.2)
  | [], [], _ => rfl
  | k :: kk, v :: vs, h => by rw [List.map_cons, List.zip_cons_cons, List.zip_cons_cons, List.map_cons, zip_kv (by simpa using h)]
theorem pm_dct0 {al : Bool} : PE X (.Dict [] [] pos) (tM X W fun env st => newDct al [] [] st) := by
  refine pe_dnewK.imp fun σ H Q ⟨ρ, π, env, st, S, E, F⟩ => ?_
  intro p hp
  have hn := S.fresh hp
  have h := newDct_held (S.more (o := .dK []) hp) hn.2 hp hn.1 (Ext.new hp) (.inr ⟨_, upd_same⟩) .nil (ks := []) rfl F
  rw [upd_upd] at h
  exact h
theorem pm_dct {al : Bool} {ks : List (Option Expr)} {kk : List Key} {es : List Expr} {rs : List (Env → Sto → Out D)} (hk : keysOf ks = some kk) (each : Each X W es rs) (hl : kk.length = es.length) (h0 : ks ≠ []) (h15 : ks.length ≤ 15) :
    PE X (.Dict ks es pos) (tM X W fun env st => (seqR rs env st).bnd fun ds st => if kk.length = ds.length ∧ kk.Nodup ∧ kk.length ≤ 15 then newDct al kk ds st else .bad) := by
  obtain ⟨trs, p1, p2, p3, p4⟩ := keysOf_pps (pos := pos) hk each hl
  have core : ∀ {σ : L2.St} {H : Hp} {Q : VK}, tM X W (fun env st => (seqR rs env st).bnd fun ds st => if kk.length = ds.length ∧ kk.Nodup ∧ kk.length ≤ 15 then newDct al kk ds st else .bad) σ H Q → ∀ p, H p = none → tPairs trs σ (upd H p (.dK [])) fun ps H2 => H2 p = some (.dK []) ∧ ∃ kvs : List (Key × V), ps = kvs.map (fun kv => (kV kv.1, kv.2)) ∧ kvs.length ≤ 15 ∧ Q (.ref p) (upd H2 p (.dK (mergeK [] kvs))) := by
    intro σ H Q h p hp
    obtain ⟨ρ, π, env, st, S, E, F⟩ := h
    dsimp only at F
    have hn := S.fresh hp
    have S1 : SR X.K X.mg ρ (p :: π) (upd H p (.dK [])) st := S.more hp
    refine p4 S1 (E.more S.muts hp) ?_
    cases hseq : seqR rs env st with
    | bad => rw [hseq] at F; exact F
    | ex c v s' =>
      rw [hseq] at F
      intro ρ' H' Cc da v' x S' hm hd r
      refine F ρ' H' Cc da v' ⟨x.pre.imp fun τ z => ⟨z.1, fun b hb => ⟨(z.2 b hb).1, ?_⟩⟩, fun b o nb e => x.keep b o nb (by rw [upd_ne (ne_of_none e hp)]; exact e)⟩ S'.less hm hd r.less
      have := (z.2 b hb).2
      by_cases hb' : b = p
      · rw [hb']; exact hp
      · rw [upd_ne hb'] at this; exact this
    | ok ds st1 =>
      rw [hseq] at F
      intro ρ' H' vs x S' r
      have xx : Ext ρ H ρ' H' := ⟨x.pre.imp fun τ z => ⟨z.1, fun b hb => ⟨(z.2 b hb).1, by
        have := (z.2 b hb).2
        by_cases hb' : b = p
        · rw [hb']; exact hp
        · rw [upd_ne hb'] at this; exact this⟩⟩, fun b o nb e => x.keep b o nb (by rw [upd_ne (ne_of_none e hp)]; exact e)⟩
      have hH : H' p = some (.dK []) := x.keep p _ hn.1 upd_same
      simp only [Out.bnd] at F
      split at F
      · rename_i hc
        have hl2 : kk.length = vs.length := by rw [hc.1, r.length]
        refine ⟨hH, kk.zip vs, ?_, by rw [List.length_zip]; omega, ?_⟩
        · exact zip_kv hl2
        · have hm : mergeK [] (kk.zip vs) = kk.zip vs := by
            have := mergeK_new (kvs := kk.zip vs) (acc := []) (by rw [List.nil_append, zip_fst hl2]; exact hc.2.1)
            rw [this]
            rfl
          rw [hm]
          exact newDct_held S' hn.2 hp hn.1 xx (.inr ⟨_, hH⟩) r hc.1 F
      · exact F.elim
  exact (pe_disp p1 p2 p3 h0 h15).imp fun σ H Q h => core h
end

/-! ### targets -/
mutual
/-- the slots that a target stores to -/
def slotsT : TN → List Nat
  | .n i => [i]
  | .t ts => slotsTs ts
def slotsTs : List TN → List Nat
  | [] => []
  | t :: ts => slotsT t ++ slotsTs ts
end
theorem wipe_set {v : Option V} {i : Nat} : ∀ {vs : List Nat} {σ : L2.St}, i ∈ vs → wipe (σ.set i v) vs = wipe σ vs
  | j :: vs, σ, h => by
    unfold wipe
    by_cases hj : i ∈ vs
    · rw [wipe_set hj]
    · have e : i = j := by
        rcases List.mem_cons.mp h with e | e
        · exact e
        · exact absurd e hj
      subst e
      have : ∀ (ws : List Nat) (τ : L2.St), i ∉ ws → wipe (τ.set i v) ws = (wipe τ ws).set i v := by
        intro ws
        induction ws with
        | nil => intro τ _; rfl
        | cons w ws ih =>
          intro τ hw
          unfold wipe
          rw [ih τ (fun z => hw (List.mem_cons_of_mem _ z)), List.set_comm _ _ (fun z => hw (by rw [z]; exact List.mem_cons_self))]
      rw [this vs σ hj, List.set_set]
/-- a target's reading -/
def tG (X : Cx) (t : TN) : TG := fun v σ H Q => ∃ ρ π st env d, SR X.K X.mg ρ π H st ∧ RE X.K X.mg ρ π H env σ ∧ RD X.K X.mg ρ π H d v ∧ ∃ env', setT t d env = some env' ∧
  ∀ σ', RE X.K X.mg ρ π H env' σ' → (∀ vs, (∀ i ∈ slotsT t, i ∈ vs) → wipe σ' vs = wipe σ vs) → Q σ' H
def tGs (X : Cx) (ts : List TN) : TGs := fun vs σ H Q => ∃ ρ π st env ds, SR X.K X.mg ρ π H st ∧ RE X.K X.mg ρ π H env σ ∧ RDs X.K X.mg ρ π H ds vs ∧ ∃ env', setTs ts ds env = some env' ∧
  ∀ σ', RE X.K X.mg ρ π H env' σ' → (∀ vs, (∀ i ∈ slotsTs ts, i ∈ vs) → wipe σ' vs = wipe σ vs) → Q σ' H
theorem _root_.L2.PGs.imp {X : Cx} {es : List Expr} {t t' : TGs} (h : PGs X es t) (f : ∀ v σ H Q, t' v σ H Q → t v σ H Q) : PGs X es t' := ⟨fun pins s σ H v u Q I r hw => h.run pins s σ H v u Q I r (f v σ H Q hw)⟩
section
variable {X : Cx} {x : Str} {i : Nat} {p : Pos}
theorem pgm_name (hN : X.N.Nodup) (hi : X.N[i]? = some x) (hx : Loc X.env.scope x) (hf : X.fn x = true ∨ X.env.scope.names.lookup x = some .local) : PG X (.Name x p) (tG X (.n i)) := by
  refine (pg_name hN hi hx hf).imp fun v σ H Q ⟨ρ, π, st, env, d, S, E, r, env', e, q⟩ => ?_
  cases e
  exact q _ (E.set i r) fun vs h => wipe_set (h i (List.mem_singleton.mpr rfl))
theorem pgm_nil : PGs X [] (tGs X []) := by
  refine pgs_nil.imp fun vs σ H Q ⟨ρ, π, st, env, d, S, E, r, env', e, q⟩ => ?_
  cases r with
  | nil =>
    cases e
    exact ⟨rfl, q _ E fun _ _ => rfl⟩
  | cons h t => cases e
theorem pgm_cons {e : Expr} {es : List Expr} {t : TN} {ts : List TN} (h1 : PG X e (tG X t)) (h2 : PGs X es (tGs X ts)) (hs : ∀ env : PySem.Env, (assignEach (e :: es) env).map (·.2) = assign e env :: (assignEach es env).map (·.2)) : PGs X (e :: es) (tGs X (t :: ts)) := by
  refine (pgs_cons h1 h2 (hs _)).imp fun vs σ H Q ⟨ρ, π, st, env, ds, S, E, r, env', e, q⟩ => ?_
  cases r with
  | nil => cases e
  | cons h r =>
    simp only [setTs, Option.bind_eq_some_iff] at e
    obtain ⟨env1, e1, e2⟩ := e
    refine ⟨_, _, rfl, ρ, π, st, env, _, S, E, h, env1, e1, fun σ1 E1 w1 => ⟨ρ, π, st, env1, _, S, E1, r, env', e2, fun σ2 E2 w2 => q σ2 E2 fun vs hv => ?_⟩⟩
    rw [w2 vs fun j hj => hv j (List.mem_append_right _ hj), w1 vs fun j hj => hv j (List.mem_append_left _ hj)]
theorem pgm_tup {es : List Expr} {k : Nat} {ts : List TN} (hc : X.calm = true) (h : PGs X es (tGs X ts)) (hn : ∀ env : PySem.Env, (assignEach es env).length = ts.length) (hst : ∀ env : PySem.Env, (assignEach es env).findIdx? (·.1) = none) : PG X (.Tuple es k p) (tG X (.t ts)) := by
  refine (pg_tup hc h (hn _) (hst _)).imp fun v σ H Q ⟨ρ, π, st, env, d, S, E, r, env', e, q⟩ => ?_
  have hl : ∀ {ts : List TN} {xs : List D} {env env' : Env}, setTs ts xs env = some env' → ts.length = xs.length := by
    intro ts
    induction ts with
    | nil =>
      intro xs env env' e
      cases xs with
      | nil => rfl
      | cons _ _ => cases e
    | cons t ts ih =>
      intro xs env env' e
      cases xs with
      | nil => cases e
      | cons x xs =>
        simp only [setTs, Option.bind_eq_some_iff] at e
        obtain ⟨env1, _, e2⟩ := e
        rw [List.length_cons, List.length_cons, ih e2]
  cases r with
  | tup ht r => exact ⟨_, _, rfl, ht, by rw [← r.length, hl e], ρ, π, st, env, _, S, E, r, env', e, q⟩
  | _ => cases e
end

/-! ### walks -/
/-- which walk of the layer's it is -/
def itFor (K : PySem.W.Frag) : IK → List D → List V → Option It
  | .seq, [.tup _], [.ref a] => some (Itt K a)
  | .seq, [_], [.ref a] => some (Itl K a)
  | .enum, [.tup _], [.ref a] => some (Wk.EnT K a)
  | .enum, [_], [.ref a] => some (Ite K a)
  | .zip2, [.tup _, .tup _], [.ref a, .ref b] => some (RZ.ItzT K a b)
  | .zip2, [_, _], [.ref a, .ref b] => some (Itz K a b)
  | .rng1, [.int j], _ => some (L2.Itr 0 (j - 0).toNat)
  | .rng2, [.int a, .int b], _ => some (L2.Itr a (b - a).toNat)
  | _, _, _ => none
/-- what is walked over, as it stands -/
theorem seqAt {K : PySem.W.Frag} {mg : Str → Option Value} {ρ π : List Addr} {H : Hp} {st : Sto} {d : D} {v : V} {J : Ev.Itr} {st0 : Sto} (e : itSeq d st0 = some J) (S : SR K mg ρ π H st) (r : RD K mg ρ π H d v) :
    ∃ a, v = .ref a ∧ ((isTupD d = true ∧ ∃ vs xs, SqT K H a vs ∧ RDs K mg ρ π H xs vs ∧ ∀ i, J i st = some xs[i]?) ∨ (isTupD d = false ∧ ((∃ vs xs, SqL K H a vs ∧ RDs K mg ρ π H xs vs ∧ ∀ i, J i st = some xs[i]?) ∨ ∀ i, J i st = none))) := by
  unfold itSeq at e
  split at e
  · cases e
    cases r with
    | tup h r => exact ⟨_, rfl, .inl ⟨rfl, _, _, h, r, fun _ => rfl⟩⟩
  · cases e
    cases r with
    | lst h n m r => exact ⟨_, rfl, .inr ⟨rfl, .inl ⟨_, _, SqL.of h, r, fun _ => rfl⟩⟩⟩
  · cases e
    cases r with
    | ro h => exact ⟨_, rfl, .inr ⟨rfl, .inl ⟨_, _, h.sq, RDs.ints _, fun i => by rw [List.getElem?_map]⟩⟩⟩
  · split at e
    · cases e
      cases r with
      | loc hn =>
        refine ⟨_, rfl, .inr ⟨rfl, ?_⟩⟩
        rename_i n a _
        cases hx : st[n]? with
        | none => exact .inr fun i => by unfold atLoc; rw [hx]
        | some o =>
          cases o with
          | dct ks xs => exact .inr fun i => by unfold atLoc; rw [hx]
          | lst xs =>
            obtain ⟨vs, h1, r1⟩ := S.atL hn hx
            exact .inl ⟨vs, xs, SqL.of h1, r1, fun i => by unfold atLoc; rw [hx]⟩
    · cases e
  · cases e
/-- a list that was there when the walk began -/
theorem seqL_now {K : PySem.W.Frag} {mg : Str → Option Value} {ρ π : List Addr} {H : Hp} {st : Sto} {d : D} {a : Addr} {J : Ev.Itr} (e : itSeq d st = some J) (S : SR K mg ρ π H st) (r : RD K mg ρ π H d (.ref a)) (ht : isTupD d = false) : ∃ vs, SqL K H a vs := by
  unfold itSeq at e
  split at e
  · cases ht
  · cases r with
    | lst h n m r => exact ⟨_, SqL.of h⟩
  · cases r with
    | ro h => exact ⟨_, h.sq⟩
  · split at e
    · rename_i hi
      cases r with
      | loc hn =>
        unfold isLst at hi
        dsimp only at hi
        split at hi
        · rename_i xs hx
          obtain ⟨vs, h1, _⟩ := S.atL hn hx
          exact ⟨vs, SqL.of h1⟩
        · cases hi
    · cases e
  · cases e
/-- a new pair of two things -/
theorem newPair {K : PySem.W.Frag} {mg : Str → Option Value} {ρ π : List Addr} {H : Hp} {st : Sto} {x y : D} {v u : V} {N : Addr} (S : SR K mg ρ π H st) (rx : RD K mg ρ π H x v) (ry : RD K mg ρ π H y u) (h : H N = none) :
    Ext ρ H ρ (upd H N (.tup [v, u])) ∧ SR K mg ρ π (upd H N (.tup [v, u])) st ∧ RD K mg ρ π (upd H N (.tup [v, u])) (.tup [x, y]) (.ref N) := by
  have hx : Ext ρ H ρ (upd H N (.tup [v, u])) := Ext.new h
  exact ⟨hx, S.new h, .tup (SqT.of upd_same) (.cons (rx.mono hx S.muts) (.cons (ry.mono hx S.muts) .nil))⟩
/-- a turn of the walk -/
theorem it_ok {K : PySem.W.Frag} {mg : Str → Option Value} {ρ π : List Addr} {H : Hp} {st : Sto} {k : IK} {ds : List D} {vs : List V} {J : Ev.Itr} {I : It} {st0 : Sto} (e : itOf k ds st0 = some J) (e2 : itFor K k ds vs = some I) (S : SR K mg ρ π H st) (r : RDs K mg ρ π H ds vs)
    (i : Nat) :
    match J i st with
    | some (some d) => I.go i H ∧ ∀ x H', I.yld i H x H' → Ext ρ H ρ H' ∧ SR K mg ρ π H' st ∧ RD K mg ρ π H' d x
    | some none => I.stop i H
    | none => True := by
  have seq : ∀ {a : Addr} {xs : List D} {ws : List V}, SqL K H a ws → RDs K mg ρ π H xs ws → match (some xs[i]? : Option (Option D)) with
      | some (some d) => (Itl K a).go i H ∧ ∀ x H', (Itl K a).yld i H x H' → Ext ρ H ρ H' ∧ SR K mg ρ π H' st ∧ RD K mg ρ π H' d x
      | some none => (Itl K a).stop i H
      | none => True := by
    intro a xs ws h r
    cases hx : xs[i]? with
    | none => exact ⟨ws, h, by rw [← r.length]; exact List.getElem?_eq_none_iff.mp hx⟩
    | some d =>
      obtain ⟨v, hv, rv⟩ := r.get hx
      refine ⟨⟨ws, v, h, hv⟩, fun x H' hy => ?_⟩
      obtain ⟨rfl, hy⟩ := hy
      have e1 := hy ws h
      rw [hv] at e1
      cases e1
      exact ⟨Ext.refl _ _, S, rv⟩
  have rng : ∀ {lo : Int} {n : Nat}, match (some (if i < n then some (.int (lo + i)) else none) : Option (Option D)) with
      | some (some d) => (L2.Itr lo n).go i H ∧ ∀ x H', (L2.Itr lo n).yld i H x H' → Ext ρ H ρ H' ∧ SR K mg ρ π H' st ∧ RD K mg ρ π H' d x
      | some none => (L2.Itr lo n).stop i H
      | none => True := by
    intro lo n
    by_cases hi : i < n
    · rw [if_pos hi]
      refine ⟨hi, fun x H' hy => ?_⟩
      obtain ⟨rfl, rfl⟩ := hy
      exact ⟨Ext.refl _ _, S, .int _⟩
    · rw [if_neg hi]
      exact Nat.le_of_not_lt hi
  have rng2 : ∀ {a b : Int} {J : Ev.Itr}, itRng a b = some J → match J i st with
      | some (some d) => (L2.Itr a (b - a).toNat).go i H ∧ ∀ x H', (L2.Itr a (b - a).toNat).yld i H x H' → Ext ρ H ρ H' ∧ SR K mg ρ π H' st ∧ RD K mg ρ π H' d x
      | some none => (L2.Itr a (b - a).toNat).stop i H
      | none => True := by
    intro a b J e
    unfold itRng at e
    split at e
    · cases e
      exact rng
    · cases e
  unfold itOf at e
  split at e
  · cases r with
    | cons h t =>
      cases t
      unfold itSeq at e
      split at e
      · cases e
        cases h with
        | tup ht r =>
          cases e2
          rename_i xs a vs
          show match (some xs[i]? : Option (Option D)) with
            | some (some d) => (Itt K a).go i H ∧ ∀ x H', (Itt K a).yld i H x H' → Ext ρ H ρ H' ∧ SR K mg ρ π H' st ∧ RD K mg ρ π H' d x
            | some none => (Itt K a).stop i H
            | none => True
          cases hx : xs[i]? with
          | none => exact ⟨vs, ht, by rw [← r.length]; exact List.getElem?_eq_none_iff.mp hx⟩
          | some d =>
            obtain ⟨v, hv, rv⟩ := r.get hx
            refine ⟨⟨vs, v, ht, hv⟩, fun x H' hy => ?_⟩
            obtain ⟨rfl, hy⟩ := hy
            have e1 := hy vs ht
            rw [hv] at e1
            cases e1
            exact ⟨Ext.refl _ _, S, rv⟩
      · cases e
        cases h with
        | lst hl n m r =>
          cases e2
          exact seq (SqL.of hl) r
      · cases e
        cases h with
        | ro hl =>
          cases e2
          rename_i ns a
          have := seq (xs := ns.map D.int) hl.sq (RDs.ints ns)
          rw [List.getElem?_map] at this
          exact this
      · split at e
        · cases e
          cases h with
          | loc hn =>
            cases e2
            unfold atLoc
            split
            · rename_i heq
              split at heq
              · rename_i xs hx
                obtain ⟨vs, h1, r1⟩ := S.atL hn hx
                have := seq (SqL.of h1) r1
                rw [heq] at this
                exact this
              · cases heq
            · rename_i heq
              split at heq
              · rename_i xs hx
                obtain ⟨vs, h1, r1⟩ := S.atL hn hx
                have := seq (SqL.of h1) r1
                rw [heq] at this
                exact this
              · cases heq
            · trivial
        · cases e
      · cases e
  · -- enumerate
    rename_i d
    rw [Option.map_eq_some_iff] at e
    obtain ⟨J1, j1, rfl⟩ := e
    cases r with
    | cons h t =>
      cases t
      obtain ⟨a, rfl, ⟨ht, ws, xs, q1, q2, q3⟩ | ⟨ht, ⟨ws, xs, q1, q2, q3⟩ | q3⟩⟩ := seqAt j1 S h
      · cases d with
        | tup ds =>
          cases e2
          show match (J1 i st).map fun o => o.map fun x => D.tup [.int (i : Nat), x] with
            | some (some d) => (Wk.EnT K a).go i H ∧ ∀ x H', (Wk.EnT K a).yld i H x H' → Ext ρ H ρ H' ∧ SR K mg ρ π H' st ∧ RD K mg ρ π H' d x
            | some none => (Wk.EnT K a).stop i H
            | none => True
          rw [q3]
          cases hx : xs[i]? with
          | none => exact ⟨ws, q1, by rw [← q2.length]; exact List.getElem?_eq_none_iff.mp hx⟩
          | some d =>
            obtain ⟨v, hv, rv⟩ := q2.get hx
            refine ⟨⟨ws, v, q1, hv⟩, fun x H' hy => ?_⟩
            obtain ⟨N, v', rfl, hN, rfl, hy⟩ := hy
            have e1 := hy ws q1
            rw [hv] at e1
            cases e1
            exact newPair S (.int _) rv hN
        | _ => cases ht
      · have hI : I = Ite K a := by cases d <;> first | (cases ht; done) | (cases e2; rfl)
        subst hI
        show match (J1 i st).map fun o => o.map fun x => D.tup [.int (i : Nat), x] with
          | some (some d) => (Ite K a).go i H ∧ ∀ x H', (Ite K a).yld i H x H' → Ext ρ H ρ H' ∧ SR K mg ρ π H' st ∧ RD K mg ρ π H' d x
          | some none => (Ite K a).stop i H
          | none => True
        rw [q3]
        cases hx : xs[i]? with
        | none => exact ⟨ws, q1, by rw [← q2.length]; exact List.getElem?_eq_none_iff.mp hx⟩
        | some d =>
          obtain ⟨v, hv, rv⟩ := q2.get hx
          refine ⟨⟨ws, v, q1, hv⟩, fun x H' hy => ?_⟩
          obtain ⟨N, v', rfl, hN, rfl, hy⟩ := hy
          have e1 := hy ws q1
          rw [hv] at e1
          cases e1
          exact newPair S (.int _) rv hN
      · show match (J1 i st).map fun o => o.map fun x => D.tup [.int (i : Nat), x] with
          | some (some d) => I.go i H ∧ ∀ x H', I.yld i H x H' → Ext ρ H ρ H' ∧ SR K mg ρ π H' st ∧ RD K mg ρ π H' d x
          | some none => I.stop i H
          | none => True
        rw [q3]
        trivial
  · -- zip
    rename_i d1 d2
    split at e
    case isFalse => cases e
    rename_i htt
    rw [Option.bind_eq_some_iff] at e
    obtain ⟨J1, j1, e⟩ := e
    rw [Option.map_eq_some_iff] at e
    obtain ⟨J2, j2, rfl⟩ := e
    cases r with
    | cons h t =>
      cases t with
      | cons g t =>
        cases t
        have fin : ∀ (a b : Addr) (G : Hp → Addr → List V → Prop) (xs ys : List D) (ws us : List V), I.go = (fun i H => ∃ (xs ys : List V) (x y : V), G H a xs ∧ G H b ys ∧ xs[i]? = some x ∧ ys[i]? = some y) →
            I.yld = (fun i H v H' => ∃ T x y, v = .ref T ∧ H T = none ∧ H' = upd H T (.tup [x, y]) ∧ (∀ xs, G H a xs → xs[i]? = some x) ∧ ∀ ys, G H b ys → ys[i]? = some y) → I.stop = (fun i H => ∃ xs ys : List V, G H a xs ∧ G H b ys ∧ (xs.length ≤ i ∨ ys.length ≤ i)) →
            G H a ws → G H b us → RDs K mg ρ π H xs ws → RDs K mg ρ π H ys us → J1 i st = some xs[i]? → J2 i st = some ys[i]? →
            match itZip J1 J2 i st with
            | some (some d) => I.go i H ∧ ∀ x H', I.yld i H x H' → Ext ρ H ρ H' ∧ SR K mg ρ π H' st ∧ RD K mg ρ π H' d x
            | some none => I.stop i H
            | none => True := by
          intro a b G xs ys ws us g1 g2 g3 q1 p1 q2 p2 q3 p3
          unfold itZip
          rw [q3, p3]
          cases hx : xs[i]? with
          | none =>
            have : I.stop i H := by
              rw [g3]
              exact ⟨ws, us, q1, p1, .inl (by rw [← q2.length]; exact List.getElem?_eq_none_iff.mp hx)⟩
            cases ys[i]? <;> exact this
          | some d =>
            cases hy : ys[i]? with
            | none =>
              show I.stop i H
              rw [g3]
              exact ⟨ws, us, q1, p1, .inr (by rw [← p2.length]; exact List.getElem?_eq_none_iff.mp hy)⟩
            | some e =>
              obtain ⟨v, hv, rv⟩ := q2.get hx
              obtain ⟨u, hu, ru⟩ := p2.get hy
              show I.go i H ∧ _
              rw [g1, g2]
              refine ⟨⟨ws, us, v, u, q1, p1, hv, hu⟩, fun x H' hz => ?_⟩
              obtain ⟨N, v', u', rfl, hN, rfl, z1, z2⟩ := hz
              have e1 := z1 ws q1
              rw [hv] at e1
              cases e1
              have e1 := z2 us p1
              rw [hu] at e1
              cases e1
              exact newPair S rv ru hN
        obtain ⟨a, rfl, ⟨ht, ws, xs, q1, q2, q3⟩ | ⟨ht, ⟨ws, xs, q1, q2, q3⟩ | q3⟩⟩ := seqAt j1 S h
        · obtain ⟨b, rfl, ⟨hu, us, ys, p1, p2, p3⟩ | ⟨hu, _⟩⟩ := seqAt j2 S g
          · have hI : I = RZ.ItzT K a b := by cases d1 <;> first | (cases ht; done) | (cases d2 <;> first | (cases hu; done) | (cases e2; rfl))
            subst hI
            exact fin a b (fun H a xs => SqT K H a xs) xs ys ws us rfl rfl rfl q1 p1 q2 p2 (q3 i) (p3 i)
          · rw [ht, hu] at htt; cases htt
        · obtain ⟨b, rfl, ⟨hu, us, ys, p1, p2, p3⟩ | ⟨hu, ⟨us, ys, p1, p2, p3⟩ | p3⟩⟩ := seqAt j2 S g
          · rw [ht, hu] at htt; cases htt
          · have hI : I = Itz K a b := by cases d1 <;> first | (cases ht; done) | (cases d2 <;> first | (cases hu; done) | (cases e2; rfl))
            subst hI
            exact fin a b (fun H a xs => SqL K H a xs) xs ys ws us rfl rfl rfl q1 p1 q2 p2 (q3 i) (p3 i)
          · have : itZip J1 J2 i st = none := by
              unfold itZip
              rw [q3, p3]
              cases xs[i]? <;> rfl
            rw [this]
            trivial
        · unfold itZip
          rw [q3]
          trivial
  · cases e2
    exact rng2 e
  · cases e2
    exact rng2 e
  · cases e
/-- a walk's reading -/
def tI (X : Cx) (W : WX) (k : IK) (rs : Env → Sto → Out (List D)) : TI := fun σ H R => ∃ ρ π env st, SR X.K X.mg ρ π H st ∧ RE X.K X.mg ρ π H env σ ∧
  match rs env st with
  | .ok ds st1 => (∃ J, itOf k ds st1 = some J) ∧ ∀ ρ1 H1 vs I, Ext ρ H ρ1 H1 → SR X.K X.mg ρ1 π H1 st1 → RDs X.K X.mg ρ1 π H1 ds vs → itFor X.K k ds vs = some I → R I H1
  | .ex c d st1 => ∀ ρ' H' C da v, Ext ρ H ρ' H' → SR X.K X.mg ρ' π H' st1 → X.mg c = some (.ref C) → H' da = some (.xd [("value", v)]) → RD X.K X.mg ρ' π H' d v → W (.ref C) (some da) σ H'
  | .bad => False
section
variable {X : Cx} {W : WX} {tg : Expr} {a b e : Expr} {ra rb : Env → Sto → Out D} {rs : Env → Sto → Out (List D)} {pos : Pos}
/-- a list or a tuple -/
def iSeq (K : PySem.W.Frag) (tl : TE) : TI := fun σ H R => tl σ H fun x H1 => ∃ a, x = .ref a ∧ (((∃ xs, SqL K H1 a xs) ∧ R (Itl K a) H1) ∨ ((∃ xs, SqT K H1 a xs) ∧ R (Itt K a) H1))
theorem pi_seq {l : Expr} {tl : TE} (hl : PE X l tl) : PI X tg l (iSeq X.K tl) := by
  refine ⟨fun pins s σ H R I h => thn (hl.run pins s σ H _ I h) fun v s1 hv => ?_⟩
  obtain ⟨x, H1, I1, r1, a, rfl, q⟩ := hv
  cases r1
  have fp : ∀ b ∈ [s1.heap.objs.size], FpOk X pins H1 b := fun b hb => by
    rw [List.mem_singleton.mp hb]
    exact I1.fpOk (Nat.le_refl _) (I1.hok.fresh (Nat.le_refl _))
  rcases q with ⟨⟨xs, hq⟩, q⟩ | ⟨⟨xs, hq⟩, q⟩
  · obtain ⟨its, rv, p, _⟩ := I1.list hq
    exact wpAny_pyIter_list p.isList ⟨_, [s1.heap.objs.size], _, _, H1, rfl, I1.kept (t' := s1.toks) fun b o e => Heap.get?_push_of_some _ e, turn_list a _, ⟨_, Heap.get?_push_size _ rfl, rfl, rfl⟩, fp, q⟩
  · obtain ⟨its, rv, p, _⟩ := I1.tuple hq
    exact wpAny_pyIter_tuple (show s1.heap.IsTuple a its.toArray from p) ⟨_, [s1.heap.objs.size], _, _, H1, rfl, I1.kept (t' := s1.toks) fun b o e => Heap.get?_push_of_some _ e, turn_tuple a _, ⟨_, Heap.get?_push_size _ rfl, rfl, rfl⟩, fp, q⟩
theorem pim_seq (ha : PE X a (tM X W ra)) : PI X tg a (tI X W .seq fun env st => (ra env st).bnd fun d st => (Out.ok [] st).bnd fun ds st => .ok (d :: ds) st) := by
  refine (pi_seq ha).imp fun σ H R ⟨ρ, π, env, st, S, E, F⟩ => ⟨ρ, π, env, st, S, E, ?_⟩
  dsimp only at F
  cases hr : ra env st with
  | bad => rw [hr] at F; exact F
  | ex c d st1 => rw [hr] at F; exact F
  | ok d st1 =>
    rw [hr] at F
    simp only [Out.bnd] at F
    obtain ⟨⟨J, hJ⟩, F⟩ := F
    intro ρ1 H1 v x S1 r1
    have hJ' : itSeq d st1 = some J := hJ
    unfold itSeq at hJ'
    split at hJ'
    · cases r1 with
      | tup ht r => exact ⟨_, rfl, .inr ⟨⟨_, ht⟩, F ρ1 H1 _ _ x S1 (.cons (.tup ht r) .nil) rfl⟩⟩
    · cases r1 with
      | lst hl n m r => exact ⟨_, rfl, .inl ⟨⟨_, SqL.of hl⟩, F ρ1 H1 _ _ x S1 (.cons (.lst hl n m r) .nil) rfl⟩⟩
    · cases r1 with
      | ro hl => exact ⟨_, rfl, .inl ⟨⟨_, hl.sq⟩, F ρ1 H1 _ _ x S1 (.cons (.ro hl) .nil) rfl⟩⟩
    · split at hJ'
      · rename_i hi
        cases r1 with
        | loc hn =>
          have hi' := hi
          unfold isLst at hi'
          dsimp only at hi'
          split at hi'
          · rename_i xs hx
            obtain ⟨vs, h1, r1⟩ := S1.atL hn hx
            exact ⟨_, rfl, .inl ⟨⟨_, SqL.of h1⟩, F ρ1 H1 _ _ x S1 (.cons (.loc hn) .nil) rfl⟩⟩
          · cases hi'
      · cases hJ'
    · cases hJ'
theorem pim_rng1 {p : Pos} (hg : Gl X "range") (hm : X.mg "range" = none) (hs : ∀ env : PySem.Env, starEach [a] env = [(false, eval a env)]) (ha : PA X [a] (tMs X W rs)) : PI X tg (.Call (.Name "range" p) [a] [] pos) (tI X W .rng1 rs) := by
  refine (pi_range1 hg hm ha (hs _)).imp fun σ H R ⟨ρ, π, env, st, S, E, F⟩ => ⟨ρ, π, env, st, S, E, ?_⟩
  cases hr : rs env st with
  | bad => rw [hr] at F; exact F
  | ex c d st1 => rw [hr] at F; exact F
  | ok ds st1 =>
    rw [hr] at F
    obtain ⟨⟨J, hJ⟩, F⟩ := F
    intro ρ1 H1 v x S1 r1
    unfold itOf at hJ
    split at hJ
    · exact nomatch ‹IK.rng1 = IK.seq›
    · exact nomatch ‹IK.rng1 = IK.enum›
    · exact nomatch ‹IK.rng1 = IK.zip2›
    · rename_i j _
      cases r1 with
      | cons h t =>
        cases t
        cases h
        unfold itRng at hJ
        split at hJ
        · rename_i hb
          have e : (j - 0).toNat = j.toNat := by rw [Int.sub_zero]
          have := F ρ1 H1 _ _ x S1 (.cons (.int j) .nil) rfl
          rw [e] at this
          exact ⟨j, rfl, hb.2.2.1, hb.2.2.2, this⟩
        · cases hJ
    · exact nomatch ‹IK.rng1 = IK.rng2›
    · cases hJ
theorem pim_rng2 {p : Pos} (hg : Gl X "range") (hm : X.mg "range" = none) (hs : ∀ env : PySem.Env, starEach [a, b] env = [(false, eval a env), (false, eval b env)]) (hs2 : ∀ env : PySem.Env, starEach [b] env = [(false, eval b env)]) (ha : PA X [a, b] (tMs X W rs)) : PI X tg (.Call (.Name "range" p) [a, b] [] pos) (tI X W .rng2 rs) := by
  refine (pi_range2 hg hm ha (hs _) (hs2 _)).imp fun σ H R ⟨ρ, π, env, st, S, E, F⟩ => ⟨ρ, π, env, st, S, E, ?_⟩
  cases hr : rs env st with
  | bad => rw [hr] at F; exact F
  | ex c d st1 => rw [hr] at F; exact F
  | ok ds st1 =>
    rw [hr] at F
    obtain ⟨⟨J, hJ⟩, F⟩ := F
    intro ρ1 H1 v x S1 r1
    unfold itOf at hJ
    split at hJ
    · exact nomatch ‹IK.rng2 = IK.seq›
    · exact nomatch ‹IK.rng2 = IK.enum›
    · exact nomatch ‹IK.rng2 = IK.zip2›
    · exact nomatch ‹IK.rng2 = IK.rng1›
    · cases r1 with
      | cons h t =>
        cases t with
        | cons h2 t =>
          cases t
          cases h
          cases h2
          unfold itRng at hJ
          split at hJ
          · rename_i hb
            exact ⟨_, _, rfl, hb, F ρ1 H1 _ _ x S1 (.cons (.int _) (.cons (.int _) .nil)) rfl⟩
          · cases hJ
    · cases hJ
theorem pim_enum {p p3 : Pos} {ts : List Expr} {c0 : Nat} (hg : Gl X "enumerate") (hm : X.mg "enumerate" = none) (hs : ∀ env : PySem.Env, starEach [a] env = [(false, eval a env)]) (ha : PA X [a] (tMs X W rs)) : PI X (.Tuple ts c0 p3) (.Call (.Name "enumerate" p) [a] [] pos) (tI X W .enum rs) := by
  refine (Wk.pi_enQ hg hm ha (hs _)).imp fun σ H R ⟨ρ, π, env, st, S, E, F⟩ => ⟨ρ, π, env, st, S, E, ?_⟩
  cases hr : rs env st with
  | bad => rw [hr] at F; exact F
  | ex c d st1 => rw [hr] at F; exact F
  | ok ds st1 =>
    rw [hr] at F
    obtain ⟨⟨J, hJ⟩, F⟩ := F
    intro ρ1 H1 v x S1 r1
    unfold itOf at hJ
    split at hJ
    · exact nomatch ‹IK.enum = IK.seq›
    · rename_i d _
      rw [Option.map_eq_some_iff] at hJ
      obtain ⟨J1, j1, -⟩ := hJ
      cases r1 with
      | cons h t =>
        cases t
        obtain ⟨a, rfl, ⟨ht, ws, xs, q1, q2, q3⟩ | ⟨ht, q⟩⟩ := seqAt j1 S1 h
        · refine ⟨a, rfl, .inr ⟨⟨ws, q1⟩, F ρ1 H1 _ _ x S1 (.cons h .nil) ?_⟩⟩
          cases d <;> first | rfl | cases ht
        · have := seqL_now j1 S1 h ht
          refine ⟨a, rfl, .inl ⟨this, F ρ1 H1 _ _ x S1 (.cons h .nil) ?_⟩⟩
          cases d <;> first | rfl | cases ht
    · exact nomatch ‹IK.enum = IK.zip2›
    · exact nomatch ‹IK.enum = IK.rng1›
    · exact nomatch ‹IK.enum = IK.rng2›
    · cases hJ
theorem pim_zip {p p3 : Pos} {ts : List Expr} {c0 : Nat} (hg : Gl X "zip") (hm : X.mg "zip" = none) (hs : ∀ env : PySem.Env, starEach [a, b] env = (false, eval a env) :: starEach [b] env) (hs2 : ∀ env : PySem.Env, starEach [b] env = [(false, eval b env)]) (ha : PA X [a, b] (tMs X W rs)) : PI X (.Tuple ts c0 p3) (.Call (.Name "zip" p) [a, b] [] pos) (tI X W .zip2 rs) := by
  refine (RZ.pi_zipA hg hm ha (hs _) (by rw [hs2]; rfl)).imp fun σ H R ⟨ρ, π, env, st, S, E, F⟩ => ⟨ρ, π, env, st, S, E, ?_⟩
  cases hr : rs env st with
  | bad => rw [hr] at F; exact F
  | ex c d st1 => rw [hr] at F; exact F
  | ok ds st1 =>
    rw [hr] at F
    obtain ⟨⟨J, hJ⟩, F⟩ := F
    intro ρ1 H1 v x S1 r1
    unfold itOf at hJ
    split at hJ
    · exact nomatch ‹IK.zip2 = IK.seq›
    · exact nomatch ‹IK.zip2 = IK.enum›
    · rename_i d1 d2 _
      split at hJ
      case isFalse => cases hJ
      rename_i htt
      rw [Option.bind_eq_some_iff] at hJ
      obtain ⟨J1, j1, hJ⟩ := hJ
      rw [Option.map_eq_some_iff] at hJ
      obtain ⟨J2, j2, -⟩ := hJ
      cases r1 with
      | cons h t =>
        cases t with
        | cons g t =>
          cases t
          obtain ⟨a, rfl, ⟨ht, ws, xs, q1, q2, q3⟩ | ⟨ht, q⟩⟩ := seqAt j1 S1 h
          · obtain ⟨b, rfl, ⟨hu, us, ys, p1, p2, p3⟩ | ⟨hu, _⟩⟩ := seqAt j2 S1 g
            · refine ⟨a, b, ws, us, rfl, .inr ⟨q1, p1, F ρ1 H1 _ _ x S1 (.cons h (.cons g .nil)) ?_⟩⟩
              cases d1 <;> first | (cases ht; done) | (cases d2 <;> first | rfl | (cases hu; done))
            · rw [ht, hu] at htt; cases htt
          · obtain ⟨b, rfl, ⟨hu, _⟩ | ⟨hu, q'⟩⟩ := seqAt j2 S1 g
            · rw [ht, hu] at htt; cases htt
            · obtain ⟨ws, w1⟩ := seqL_now j1 S1 h ht
              obtain ⟨us, w2⟩ := seqL_now j2 S1 g hu
              refine ⟨a, b, ws, us, rfl, .inl ⟨w1, w2, F ρ1 H1 _ _ x S1 (.cons h (.cons g .nil)) ?_⟩⟩
              cases d1 <;> first | (cases ht; done) | (cases d2 <;> first | rfl | (cases hu; done))
    · exact nomatch ‹IK.zip2 = IK.rng1›
    · exact nomatch ‹IK.zip2 = IK.rng2›
    · cases hJ
end
end Ev
/-! List comprehensions. -/
namespace Ev
open PySem PySem.Spec PyProof.Rows L2

theorem wipe_in {i : Nat} : ∀ {vs : List Nat} {σ : L2.St}, i ∈ vs → i < σ.length → (wipe σ vs)[i]? = some none
  | v :: vs, σ, h, hl => by
    unfold wipe
    by_cases e : i = v
    · subst e
      rw [List.getElem?_set_self (by rw [wipe_length]; exact hl)]
    · rw [List.getElem?_set_ne (Ne.symm e)]
      refine wipe_in ?_ hl
      rcases List.mem_cons.mp h with z | z
      · exact absurd z e
      · exact z
theorem wipe_wipe (σ : L2.St) (vs : List Nat) : wipe (wipe σ vs) vs = wipe σ vs := by
  refine List.ext_getElem? fun i => ?_
  by_cases h : i ∈ vs
  · by_cases hl : i < σ.length
    · rw [wipe_in h (by rw [wipe_length]; exact hl), wipe_in h hl]
    · rw [List.getElem?_eq_none (by rw [wipe_length, wipe_length]; omega), List.getElem?_eq_none (by rw [wipe_length]; omega)]
  · rw [wipe_out h]
abbrev W0 : WX := fun _ _ _ _ => False
section
variable {X : Cx} {W : WX} {elt tg iter : Expr} {ifs : List Expr} {scope : Scope} {own : List (Str × Nat)} {pos : Pos} {t : TN} {k : IK} {rs : Env → Sto → Out (List D)} {rt : Env → Sto → Out Bool} {re : Env → Sto → Out D} {al : Bool}
theorem ptsm_nil : PTs X [] (tMB X W fun _ st => .ok true st) := ⟨fun pins s σ H Q I ⟨ρ, π, env, st, S, E, F⟩ => pts_nil.run pins s σ H Q I (F.here S rfl)⟩
theorem ptsm_one {c : Expr} {rc : Env → Sto → Out D} (h : PT X c (tMB X W (tst rc))) : PTs X [c] (tMB X W (tst rc)) := pts_one h
abbrev compM (X : Cx) (W : WX) (al : Bool) (own : List (Str × Nat)) (t : TN) (k : IK) (rs : Env → Sto → Out (List D)) (rt : Env → Sto → Out Bool) (re : Env → Sto → Out D) : TE := tM X W fun env st => (rs env st).bnd fun ds st => match itOf k ds st with
    | none => .bad
    | some J => compEnd al (compI J (compT t (wipeE env (own.map (·.2))) rt re) turns 0 [] st)
theorem lc_word (hsl : ∀ i ∈ slotsT t, i ∈ own.map (·.2)) {σ : L2.St} {H : Hp} {Q : VK} (h : compM X W al own t k rs rt re σ H Q) : tLc (tI X W k rs) (tG X t) (tMB X W0 rt) (tM X W0 re) (own.map (·.2)) σ H Q := by
  obtain ⟨ρ, π, env, st, S, E, F⟩ := h
  dsimp only at F
  refine ⟨ρ, π, env, st, S, E, ?_⟩
  cases hr : rs env st with
  | bad => rw [hr] at F; exact F
  | ex c d st1 => rw [hr] at F; exact F
  | ok ds st1 =>
    rw [hr] at F
    simp only [Out.bnd] at F
    dsimp only
    split at F
    · exact F.elim
    · rename_i J hJ
      refine ⟨⟨J, hJ⟩, fun ρ1 H1 vs I x1 S1 r1 hI => ?_⟩
      have E1 := E.mono x1 S.muts
      have F1 := Fin.ext F x1
      intro Dn hD
      have hfr := S1.fresh hD
      -- what stands between two turns
      refine ⟨fun i m Hc => ∃ ρc stc acc vacc, Ext ρ1 H1 ρc Hc ∧ SR X.K X.mg ρc (Dn :: π) Hc stc ∧ Hc Dn = some (.lst vacc) ∧ RDs X.K X.mg ρc (Dn :: π) Hc acc vacc ∧ RDs X.K X.mg ρc (Dn :: π) Hc ds vs ∧ RE X.K X.mg ρc (Dn :: π) Hc env σ ∧
        Fin X.K X.mg (RelD X.K X.mg π) (fun c d H => W c d σ H) ρ1 π H1 (compEnd al (compI J (compT t (wipeE env (own.map (·.2))) rt re) m i acc stc)) Q,
        ⟨turns, ρ1, st1, [], [], (Ext.new hD), S1.more hD, upd_same, .nil, r1.more S1.muts hD, E1.more S1.muts hD, F1⟩, fun i m Hc hW => ?_⟩
      obtain ⟨ρc, stc, acc, vacc, xc, Sc, hDc, rc, rdc, Ec, Fc⟩ := hW
      have npc : Dn ∉ ρc := (Sc.pi Dn List.mem_cons_self).1
      cases m with
      | zero => exact Fc.elim
      | succ m =>
        have hturn := it_ok hJ hI Sc rdc i
        unfold compI at Fc
        cases hj : J i stc with
        | none => rw [hj] at Fc; exact Fc.elim
        | some o =>
          rw [hj] at Fc hturn
          cases o with
          | none =>
            refine .inl ⟨hturn, ?_⟩
            exact newHeld Sc hfr.2 hD hfr.1 xc hDc rc Fc
          | some d =>
            obtain ⟨hgo, hy⟩ := hturn
            dsimp only at Fc
            refine .inr ⟨hgo, fun H' => ∃ m', m' < m + 1 ∧ ∃ ρc stc acc vacc, Ext ρ1 H1 ρc H' ∧ SR X.K X.mg ρc (Dn :: π) H' stc ∧ H' Dn = some (.lst vacc) ∧ RDs X.K X.mg ρc (Dn :: π) H' acc vacc ∧ RDs X.K X.mg ρc (Dn :: π) H' ds vs ∧ RE X.K X.mg ρc (Dn :: π) H' env σ ∧
              Fin X.K X.mg (RelD X.K X.mg π) (fun c d H => W c d σ H) ρ1 π H1 (compEnd al (compI J (compT t (wipeE env (own.map (·.2))) rt re) m' (i + 1) acc stc)) Q, fun H' hN' => hN', fun x H' hyl => ?_⟩
            obtain ⟨xy, Sy, rx⟩ := hy x H' hyl
            have Ey := (Ec.mono xy Sc.muts).wipe (own.map (·.2))
            -- the turn's own word
            cases hto : compT t (wipeE env (own.map (·.2))) rt re d stc with
            | bad => rw [hto] at Fc; exact Fc.elim
            | ex c v s => rw [hto] at Fc; exact Fc.elim
            | ok o sto =>
              rw [hto] at Fc
              simp only [Out.bnd] at Fc
              unfold compT at hto
              cases hset : setT t d (wipeE env (own.map (·.2))) with
              | none => rw [hset] at hto; cases hto
              | some e2 =>
                rw [hset] at hto
                dsimp only at hto
                refine ⟨ρc, Dn :: π, stc, _, d, Sy, Ey, rx, e2, hset, fun σ2 E2 w2 => ⟨(w2 _ hsl).trans (wipe_wipe _ _), ?_⟩⟩
                refine ⟨ρc, Dn :: π, e2, stc, Sy, E2, ?_⟩
                cases hrt : rt e2 stc with
                | bad => rw [hrt] at hto; cases hto
                | ex c v s => rw [hrt] at hto; cases hto
                | ok b st3 =>
                  rw [hrt] at hto
                  intro ρ3 H3 b' x3 S3 eb
                  cases eb
                  have E3 := (Ec.mono xy Sc.muts).mono x3 Sy.muts
                  have X3 : Ext ρc Hc ρ3 H3 := xy.trans x3
                  cases b with
                  | false =>
                    cases hto
                    exact ⟨m, Nat.lt_succ_self m, ρ3, _, acc, vacc, xc.trans X3, S3, X3.keep _ _ npc hDc, rc.mono X3 Sc.muts, rdc.mono X3 Sc.muts, E3, Fc⟩
                  | true =>
                    dsimp only at hto
                    refine ⟨ρ3, Dn :: π, e2, st3, S3, E2.mono x3 Sy.muts, ?_⟩
                    cases hre : re e2 st3 with
                    | bad => rw [hre] at hto; cases hto
                    | ex c v s => rw [hre] at hto; cases hto
                    | ok y st4 =>
                      rw [hre] at hto
                      cases hto
                      intro ρ4 H4 vy x4 S4 ry
                      have X4 : Ext ρc Hc ρ4 H4 := X3.trans x4
                      have hD4 : H4 Dn = some (.lst vacc) := X4.keep _ _ npc hDc
                      have rc4 := rc.mono X4 Sc.muts
                      dsimp only at Fc
                      split at Fc
                      · rename_i hlen
                        have mu : IsMut (H4 Dn) := .inl ⟨_, hD4⟩
                        refine ⟨vacc, hD4, by rw [← rc4.length, sizeLine_eq]; have : most = 1000000 := rfl; omega, ?_⟩
                        exact ⟨m, Nat.lt_succ_self m, ρ4, _, acc ++ [y], vacc ++ [vy], (xc.trans X4).held hD, S4.held mu, upd_same, (rc4.append (.cons ry .nil)).held mu, (rdc.mono X4 Sc.muts).held mu, (E3.mono x4 S3.muts).held mu, Fc⟩
                      · exact Fc.elim
/-- a comprehension -/
theorem pm_comp (hc : X.calm = true) (hN : X.N.Nodup) (hi : PI X tg iter (tI X W k rs)) (ok : BlkOk X.N X.env.scope scope own) (hs : ∀ x, foldedSetIterable iter X.env x = pure x)
    (hsl : ∀ i ∈ slotsT t, i ∈ own.map (·.2))
    (hg : ∀ (s : Shared) (H : Hp) (C : Addr) (cl : List (Str × Addr)) (fp : List Addr), PG (X.blk s H scope (compEnvC scope cl C X.env) fp) tg (tG X t))
    (ht : ∀ (s : Shared) (H : Hp) (C : Addr) (cl : List (Str × Addr)) (fp : List Addr), PTs (X.blk s H scope (compEnvC scope cl C X.env) fp) ifs (tMB X W0 rt))
    (he : ∀ (s : Shared) (H : Hp) (C : Addr) (cl : List (Str × Addr)) (fp : List Addr), PE (X.blk s H scope (compEnvC scope cl C X.env) fp) elt (tM X W0 re)) :
    PE X (.ListComp elt [⟨tg, iter, ifs, 0⟩] scope pos) (tM X W fun env st => (rs env st).bnd fun ds st => match itOf k ds st with
    | none => .bad
    | some J => compEnd al (compI J (compT t (wipeE env (own.map (·.2))) rt re) turns 0 [] st)) := by
  exact (pe_lc hc hN hi ok hg ht he hs).imp fun σ H Q h => lc_word hsl h
end
end Ev
/-! The translation of expressions is right. -/
namespace Ev
open PySem PySem.Spec PyProof.Rows L2

/-- the context is one in which the translation by Z is right -/
structure Ok (C : Cal) (k : Nat) (X : Cx) (Z : Zt) (W : WX) : Prop where
  sc : X.env.scope = Z.sc
  kd : Z.sc.kind = .function
  N : X.N = Z.N
  nd : X.N.Nodup
  calm : X.calm = true
  room : Room k X.A
  gd : X.A.guards = some []
  bi : ∀ x ∈ biNames, X.mg x = none
  co : ∀ x d, Z.consts.lookup x = some d → ∃ v u, X.mg x = some u ∧ L2.RelV v u ∧ ∀ ρ π H, RD X.K X.mg ρ π H d v
  st : ∀ x ∈ Z.stn, Loc X.env.scope x ∧ (X.fn x = true ∨ X.env.scope.names.lookup x = some .local)
  df : ∀ x ∈ Z.defs, ∃ f, Callee X.prog X.w X.K X.mg X.base k C Z.pats x f
  al : ∀ x ∈ C.all, ∃ f, Callee X.prog X.w X.K X.mg X.base k C Z.pats x f
  tk : Takes X W
  own : PassesOwn (model X.prog X.w) X.A X.env X.xe
  sm : ∃ mm, X.base.Ns sysModules mm

theorem idx_at {l : List Str} {x : Str} {i : Nat} (h : l.idxOf? x = some i) : l[i]? = some x := by
  have h1 : l.findIdx? (· == x) = some i := h
  rw [List.findIdx?_eq_some_iff_getElem] at h1
  obtain ⟨hi, e, _⟩ := h1
  rw [List.getElem?_eq_getElem hi, beq_iff_eq.mp e]
section
variable {C : Cal} {k : Nat} {X : Cx} {Z : Zt} {W : WX} {x : Str} {i : Nat}
theorem plain_ok (h : plainName x = true) : (x == ("__debug__" : Str)) = false ∧ (x == ("__classdict__" : Str)) = false ∧ x ≠ "__name__" := by
  unfold plainName at h
  rw [Bool.and_eq_true, Bool.and_eq_true] at h
  obtain ⟨⟨h1, h2⟩, h3⟩ := h
  refine ⟨by simpa using h1, by simpa using h2, ?_⟩
  intro e
  rw [e] at h3
  simp at h3
theorem slot_ok (ok : Ok C k X Z W) (h : Z.slot x = some i) : X.N[i]? = some x ∧ Vis X.env.scope x ∧ (x == ("__debug__" : Str)) = false ∧ (x == ("__classdict__" : Str)) = false := by
  unfold Zt.slot at h
  split at h
  · rename_i hc
    rw [Bool.and_eq_true] at hc
    refine ⟨by rw [ok.N]; exact idx_at h, ?_, (plain_ok hc.2).1, (plain_ok hc.2).2.1⟩
    rw [ok.sc]
    have h1 := hc.1
    unfold isLoc at h1
    split at h1
    · exact .inl ‹_›
    · exact .inr (.inl ‹_›)
    · exact .inr (.inr ‹_›)
    · cases h1
  · cases h
theorem slotW_ok (ok : Ok C k X Z W) (h : Z.slotW x = some i) : X.N[i]? = some x ∧ x ∈ Z.stn ∧ Loc X.env.scope x ∧ (X.fn x = true ∨ X.env.scope.names.lookup x = some .local) := by
  unfold Zt.slotW at h
  split at h
  · rename_i hc
    rw [Bool.and_eq_true] at hc
    have hm : x ∈ Z.stn := List.contains_iff_mem.mp hc.1
    exact ⟨by rw [ok.N]; exact idx_at h, hm, (ok.st x hm).1, (ok.st x hm).2⟩
  · cases h
theorem glob_ok (ok : Ok C k X Z W) (h : Z.glob x = true) : Gl X x ∧ (x == ("__debug__" : Str)) = false ∧ x ≠ "__name__" := by
  unfold Zt.glob at h
  rw [Bool.and_eq_true] at h
  refine ⟨?_, (plain_ok h.2).1, (plain_ok h.2).2.2⟩
  show X.env.scope.names.lookup x = some .globalImplicit
  rw [ok.sc]
  have h1 := h.1
  unfold isGl at h1
  split at h1
  · assumption
  · cases h1
theorem hu_ok (ok : Ok C k X Z W) : X.A.units + 64 < cLine := ok.room.units
/-- expressions, translated one by one -/
inductive EachP (X : Cx) (W : WX) (C : Cal) : List Expr → List E → Prop
  | nil : EachP X W C [] []
  | cons {e : Expr} {m : E} {es : List Expr} {ms : List E} (h : PE X e (tM X W (evE C m))) (b : PT X e (tMB X W (tst (evE C m)))) (s : ∀ (es : List Expr) (env : PySem.Env), starEach (e :: es) env = (false, eval e env) :: starEach es env) (t : EachP X W C es ms) : EachP X W C (e :: es) (m :: ms)
theorem EachP.len {es : List Expr} {ms : List E} (h : EachP X W C es ms) : es.length = ms.length := by
  induction h with
  | nil => rfl
  | cons _ _ _ _ ih => rw [List.length_cons, List.length_cons, ih]
theorem EachP.pa {es : List Expr} {ms : List E} (h : EachP X W C es ms) : PA X es (tMs X W (evEs C ms)) := by
  induction h with
  | nil => exact pm_nil
  | cons h b s t ih => exact pm_cons (s _) h ih
theorem EachP.each {es : List Expr} {ms : List E} (h : EachP X W C es ms) : Each X W es (ms.map (evE C)) := by
  induction h with
  | nil => exact .nil
  | cons h b s t ih => exact .cons h ih
theorem seqR_map : ∀ (ms : List E), seqR (ms.map (evE C)) = evEs C ms
  | [] => rfl
  | m :: ms => by
    funext env st
    rw [List.map_cons]
    show (evE C m env st).bnd _ = (evE C m env st).bnd _
    rw [seqR_map ms]
theorem EachP.noStar {es : List Expr} {ms : List E} (h : EachP X W C es ms) : noStar es := by
  intro env pos
  induction h with
  | nil => rfl
  | cons h b s t ih =>
    rw [s]
    show (false || _) = false
    exact ih
theorem EachP.pk {kws : List Keyword} {ms : List E} (h : EachP X W C (kws.map Keyword.value) ms) : PK X kws (tMs X W (evEs C ms)) := by
  induction kws generalizing ms with
  | nil =>
    cases h
    exact pkm_nil
  | cons kw kws ih =>
    obtain ⟨nm, e, p⟩ := kw
    cases h with
    | cons h b s t => exact pkm_cons h (ih t)
theorem evEs_len {ms : List E} : ∀ {env : Env} {st : Sto} {ds : List D} {st' : Sto}, evEs C ms env st = .ok ds st' → ds.length = ms.length := by
  induction ms with
  | nil => intro env st ds st' h; cases h; rfl
  | cons m ms ih =>
    intro env st ds st' h
    have h' : ((evE C m env st).bnd fun d st => (evEs C ms env st).bnd fun ds st => .ok (d :: ds) st) = .ok ds st' := h
    cases h1 : evE C m env st with
    | bad => rw [h1] at h'; cases h'
    | ex c v s => rw [h1] at h'; cases h'
    | ok d s1 =>
      rw [h1] at h'
      simp only [Out.bnd] at h'
      cases h2 : evEs C ms env s1 with
      | bad => rw [h2] at h'; cases h'
      | ex c v s => rw [h2] at h'; cases h'
      | ok ds2 s2 =>
        rw [h2] at h'
        cases h'
        rw [List.length_cons, List.length_cons, ih h2]
theorem evEs_append {ms ns : List E} : ∀ {env : Env} {st : Sto}, evEs C (ms ++ ns) env st = (evEs C ms env st).bnd fun ds st => (evEs C ns env st).bnd fun zs st => .ok (ds ++ zs) st := by
  induction ms with
  | nil =>
    intro env st
    show evEs C ns env st = (Out.ok [] st).bnd _
    simp only [Out.bnd]
    cases evEs C ns env st <;> rfl
  | cons m ms ih =>
    intro env st
    show ((evE C m env st).bnd fun d st => (evEs C (ms ++ ns) env st).bnd fun ds st => .ok (d :: ds) st) = ((evE C m env st).bnd fun d st => (evEs C ms env st).bnd fun ds st => .ok (d :: ds) st).bnd _
    rw [bnd_assoc]
    congr 1
    funext d st1
    rw [ih, bnd_assoc, bnd_assoc]
    congr 1
    funext ds st2
    rw [bnd_assoc]
    rfl
theorem kwNames {kws : List Keyword} {ks : List Str} (h : kws.mapM Keyword.arg = some ks) : (∀ (env : PySem.Env) (pos : Pos), (backToKw pos (keywordEach kws env)).all (·.1.isSome) = true) ∧ (∀ (env : PySem.Env) (pos : Pos), (backToKw pos (keywordEach kws env)).filterMap (·.1) = ks) ∧ kws.length = ks.length := by
  induction kws generalizing ks with
  | nil =>
    simp at h
    subst h
    exact ⟨fun _ _ => rfl, fun _ _ => rfl, rfl⟩
  | cons kw kws ih =>
    obtain ⟨nm, e, p⟩ := kw
    rw [List.mapM_cons] at h
    cases nm with
    | none => simp at h
    | some a =>
      cases hr : kws.mapM Keyword.arg with
      | none => rw [hr] at h; simp at h
      | some r =>
        rw [hr] at h
        simp at h
        subst h
        obtain ⟨i1, i2, i3⟩ := ih hr
        refine ⟨fun env pos => ?_, fun env pos => ?_, by rw [List.length_cons, List.length_cons, i3]⟩
        · show (true && _) = true
          exact i1 env pos
        · show a :: _ = a :: r
          congr 1
          exact i2 env pos
theorem tr_star {n : Nat} {al : Bool} {e : Expr} {m : E} (h : trE Z n al e = some m) : ∀ (es : List Expr) (env : PySem.Env), starEach (e :: es) env = (false, eval e env) :: starEach es env := by
  intro es env
  cases e <;> first | rfl | (cases n <;> simp [trE] at h)
end
end Ev
/-! The translation of expressions is right. -/
namespace Ev
open PySem PySem.Spec PyProof.Rows L2

section
variable {C : Cal} {k n : Nat} {X : Cx} {Z : Zt} {W : WX}
theorem trTN_ok (ok : Ok C k X Z W) : ∀ n : Nat,
    (∀ (t : Expr) (tn : TN), trTN Z n t = some tn → PG X t (tG X tn) ∧ (∀ i ∈ slotsT tn, ∃ x ∈ Z.stn, Z.N.idxOf? x = some i) ∧ (∀ (es : List Expr) (env : PySem.Env), assignEach (t :: es) env = (false, assign t env) :: assignEach es env)) ∧
    (∀ (ts : List Expr) (tns : List TN), trTNs Z n ts = some tns → PGs X ts (tGs X tns) ∧ (∀ i ∈ slotsTs tns, ∃ x ∈ Z.stn, Z.N.idxOf? x = some i) ∧ (∀ env : PySem.Env, (assignEach ts env).length = tns.length) ∧ (∀ env : PySem.Env, (assignEach ts env).findIdx? (·.1) = none)) := by
  have name : ∀ {x : Str} {p : Pos} {tn : TN}, (Z.slotW x).map TN.n = some tn → PG X (.Name x p) (tG X tn) ∧ (∀ i ∈ slotsT tn, ∃ x ∈ Z.stn, Z.N.idxOf? x = some i) := by
    intro x p tn h
    rw [Option.map_eq_some_iff] at h
    obtain ⟨i, hi, rfl⟩ := h
    obtain ⟨h1, h2, h3, h4⟩ := slotW_ok ok hi
    refine ⟨pgm_name ok.nd h1 h3 h4, fun j hj => ⟨x, h2, ?_⟩⟩
    rw [List.mem_singleton.mp hj]
    unfold Zt.slotW at hi
    split at hi
    · exact hi
    · cases hi
  intro n
  induction n with
  | zero =>
    refine ⟨fun t tn h => ?_, fun ts tns h => ?_⟩
    · cases t <;> simp only [trTN] at h <;> try cases h
      obtain ⟨h1, h2⟩ := name (p := _) h
      exact ⟨h1, h2, fun _ _ => rfl⟩
    · cases ts with
      | nil =>
        simp only [trTNs] at h
        cases h
        exact ⟨pgm_nil, (fun _ z => nomatch z), fun _ => rfl, fun _ => rfl⟩
      | cons _ _ => simp only [trTNs] at h; cases h
  | succ n ih =>
    refine ⟨fun t tn h => ?_, fun ts tns h => ?_⟩
    · cases t <;> simp only [trTN] at h <;> try cases h
      · obtain ⟨h1, h2⟩ := name (p := _) h
        exact ⟨h1, h2, fun _ _ => rfl⟩
      · rw [Option.map_eq_some_iff] at h
        obtain ⟨tns, h1, rfl⟩ := h
        obtain ⟨a, b, c, d⟩ := ih.2 _ _ h1
        exact ⟨pgm_tup ok.calm a c d, b, fun _ _ => rfl⟩
    · cases ts with
      | nil =>
        simp only [trTNs] at h
        cases h
        exact ⟨pgm_nil, (fun _ z => nomatch z), fun _ => rfl, fun _ => rfl⟩
      | cons t ts =>
        simp only [trTNs, Option.bind_eq_some_iff] at h
        obtain ⟨tn, h1, tns', h2, h3⟩ := h
        cases h3
        obtain ⟨a1, b1, c1⟩ := ih.1 _ _ h1
        obtain ⟨a2, b2, c2, d2⟩ := ih.2 _ _ h2
        refine ⟨pgm_cons a1 a2 (fun env => by rw [c1]; rfl), fun i hi => ?_, fun env => by rw [c1, List.length_cons, List.length_cons, c2], fun env => by rw [c1, List.findIdx?_cons]; simp [d2]⟩
        rcases List.mem_append.mp hi with hi | hi
        · exact b1 i hi
        · exact b2 i hi

/-- the names of a block -/
theorem own_mem {N : List Str} : ∀ {names : List (Str × NameKind)} {x : Str} {j : Nat}, (x, j) ∈ ownOf N names → N.idxOf? x = some j ∧ ∃ k, (x, k) ∈ names ∧ (k = .local ∨ k = .cell)
  | (y, kd) :: r, x, j, h => by
    unfold ownOf at h
    split at h
    · rename_i hk
      split at h
      · rename_i i hi
        rcases List.mem_cons.mp h with e | h
        · cases e
          exact ⟨hi, kd, List.mem_cons_self, by simpa using hk⟩
        · obtain ⟨q0, k', q1, q2⟩ := own_mem h
          exact ⟨q0, k', List.mem_cons_of_mem _ q1, q2⟩
      · obtain ⟨q0, k', q1, q2⟩ := own_mem h
        exact ⟨q0, k', List.mem_cons_of_mem _ q1, q2⟩
    · obtain ⟨q0, k', q1, q2⟩ := own_mem h
      exact ⟨q0, k', List.mem_cons_of_mem _ q1, q2⟩
theorem own_fst {N : List Str} {names : List (Str × NameKind)} {x : Str} (h : x ∈ (ownOf N names).map (·.1)) : ∃ j, (x, j) ∈ ownOf N names := by
  obtain ⟨⟨y, j⟩, h1, rfl⟩ := List.mem_map.mp h
  exact ⟨j, h1⟩
/-- the block's own context -/
theorem Ok.blk (ok : Ok C k X Z W) {scope : Scope} (hb : blkC Z.N Z.sc scope (ownOf Z.N scope.names) = true) (s : Shared) (H : Hp) (a : Addr) (cl : List (Str × Addr)) (fp : List Addr) :
    Ok C k (X.blk s H scope (compEnvC scope cl a X.env) fp) { Z with sc := relS scope Z.sc, stn := (ownOf Z.N scope.names).map (·.1) } W0 := by
  have bk : BlkOk Z.N Z.sc scope (ownOf Z.N scope.names) := blkOk_by hb
  have e1 : (compEnvC scope cl a X.env).scope = relS scope X.env.scope := rfl
  refine ⟨by rw [← ok.sc]; exact e1, bk.kind, ok.N, ok.nd, ok.calm, ok.room, ok.gd, ok.bi, ok.co, fun x hx => ?_, ok.df, ok.al, takes0, PassesOwn.never, ok.sm⟩
  obtain ⟨j, hj⟩ := own_fst hx
  obtain ⟨_, kd, hm, hk⟩ := own_mem hj
  have hl : scope.names.lookup x = some kd := bk.uniq _ hm
  have hne : kd ≠ .free := fun z => by rcases hk with e | e <;> rw [e] at z <;> cases z
  have hl2 : (relS scope X.env.scope).names.lookup x = some kd := lookup_relS_keep hne hl
  show Loc (relS scope X.env.scope) x ∧ ((scope.names.lookup x == some .cell) = true ∨ (relS scope X.env.scope).names.lookup x = some .local)
  rcases hk with e | e
  · subst e
    exact ⟨.inl hl2, .inr hl2⟩
  · subst e
    exact ⟨.inr hl2, .inl (by rw [hl]; rfl)⟩
def bo (b : Bool) : BoolOp := if b then .And else .Or
theorem trO_some {n : Nat} {e : Expr} {m : E} (h : trO Z (n + 1) (some e) = some m) : trE Z n false e = some m ∧ isOmit m = false := by
  rw [trO, Option.bind_eq_some_iff] at h
  obtain ⟨m', h1, h2⟩ := h
  split at h2
  · cases h2
  · rename_i hne
    cases h2
    refine ⟨h1, ?_⟩
    unfold isOmit
    split
    · exact absurd rfl hne
    · rfl
/-- what is shown of all expressions -/
structure Snd (C : Cal) (k n : Nat) : Prop where
  e : ∀ (X : Cx) (Z : Zt) (W : WX), Ok C k X Z W → ∀ (al : Bool) (e : Expr) (m : E), trE Z n al e = some m → PE X e (tM X W (evE C m)) ∧ PT X e (tMB X W (tst (evE C m)))
  b : ∀ (X : Cx) (Z : Zt) (W : WX), Ok C k X Z W → ∀ (b : Bool) (vs : List Expr) (m : E) (pos : Pos), trB Z n b vs = some m → PE X (.BoolOp (bo b) vs pos) (tM X W (evE C m)) ∧ PW X (.BoolOp (bo b) vs pos) (tMB X W (tst (evE C m)))
  es : ∀ (X : Cx) (Z : Zt) (W : WX), Ok C k X Z W → ∀ (es : List Expr) (ms : List E), trEs Z n es = some ms → EachP X W C es ms
  o : ∀ (X : Cx) (Z : Zt) (W : WX), Ok C k X Z W → ∀ (o : Option Expr) (m : E), trO Z n o = some m → PO X o (tMO X W fun env st => partO (isOmit m) (evE C m env) st)
  i : ∀ (X : Cx) (Z : Zt) (W : WX), Ok C k X Z W → ∀ (tg e : Expr) (kd : IK) (src : List E), trI Z n tg e = some (kd, src) → PI X tg e (tI X W kd (evEs C src)) ∧ ∀ x, foldedSetIterable e X.env x = pure x
theorem snd0 : Snd C k 0 := by
  refine ⟨fun X Z W ok al e m h => ?_, fun X Z W ok b vs m pos h => ?_, fun X Z W ok es ms h => ?_, fun X Z W ok o m h => ?_, fun X Z W ok tg e kd src h => ?_⟩
  · rw [trE] at h; cases h
  · rw [trB] at h; cases h
  · cases es with
    | nil => rw [trEs] at h; cases h; exact .nil
    | cons _ _ => rw [trEs] at h; cases h
  · cases o with
    | none =>
      rw [trO] at h
      cases h
      exact pmo_none
    | some _ => rw [trO] at h; cases h
  · rw [trI] at h; cases h
theorem snd_es (ih : Snd C k n) (ok : Ok C k X Z W) {es : List Expr} {ms : List E} (h : trEs Z (n + 1) es = some ms) : EachP X W C es ms := by
  cases es with
  | nil => rw [trEs] at h; cases h; exact .nil
  | cons e es =>
    rw [trEs, Option.bind_eq_some_iff] at h
    obtain ⟨m, h1, h⟩ := h
    rw [Option.bind_eq_some_iff] at h
    obtain ⟨ms', h2, h3⟩ := h
    cases h3
    exact .cons (ih.e X Z W ok _ _ _ h1).1 (ih.e X Z W ok _ _ _ h1).2 (tr_star h1) (ih.es X Z W ok _ _ h2)
theorem snd_o (ih : Snd C k n) (ok : Ok C k X Z W) {o : Option Expr} {m : E} (h : trO Z (n + 1) o = some m) : PO X o (tMO X W fun env st => partO (isOmit m) (evE C m env) st) := by
  cases o with
  | none =>
    rw [trO] at h
    cases h
    exact pmo_none
  | some e =>
    obtain ⟨h1, h2⟩ := trO_some h
    have := pmo_some (ih.e X Z W ok _ _ _ h1).1
    rw [h2]
    exact this
theorem snd_b (ih : Snd C k n) (ok : Ok C k X Z W) {b : Bool} {vs : List Expr} {m : E} {pos : Pos} (h : trB Z (n + 1) b vs = some m) : PE X (.BoolOp (bo b) vs pos) (tM X W (evE C m)) ∧ PW X (.BoolOp (bo b) vs pos) (tMB X W (tst (evE C m))) := by
  cases vs with
  | nil => rw [trB] at h; cases h; all_goals simp
  | cons a r =>
    cases r with
    | nil =>
      rw [trB] at h
      obtain ⟨h1, h2⟩ := ih.e X Z W ok _ _ _ h
      cases b with
      | true => exact ⟨pe_one h1, pw_and1 h2⟩
      | false => exact ⟨pe_one h1, pw_or1 h2⟩
    | cons c r =>
      rw [trB, Option.bind_eq_some_iff] at h
      · obtain ⟨a', h1, h⟩ := h
        rw [Option.bind_eq_some_iff] at h
        obtain ⟨r', h2, h3⟩ := h
        cases h3
        obtain ⟨p1, p2⟩ := ih.e X Z W ok _ _ _ h1
        obtain ⟨q1, q2⟩ := ih.b X Z W ok b _ _ pos h2
        cases b with
        | true => exact ⟨pm_and p1 q1, ptm_and p2 q2⟩
        | false => exact ⟨pm_or p1 q1, ptm_or p2 q2⟩
      · intro z; cases z
theorem isTupT_ok {e : Expr} (h : isTupT e = true) : ∃ ts c p, e = .Tuple ts c p := by
  cases e <;> first | exact ⟨_, _, _, rfl⟩ | cases h
theorem snd_i (ih : Snd C k n) (ok : Ok C k X Z W) {tg e : Expr} {kd : IK} {src : List E} (h : trI Z (n + 1) tg e = some (kd, src)) : PI X tg e (tI X W kd (evEs C src)) ∧ ∀ x, foldedSetIterable e X.env x = pure x := by
  have gen : ∀ {e : Expr}, (trE Z n false e).map (fun e => (IK.seq, [e])) = some (kd, src) → PI X tg e (tI X W kd (evEs C src)) := by
    intro e h
    rw [Option.map_eq_some_iff] at h
    obtain ⟨m, h1, h2⟩ := h
    cases h2
    exact pim_seq (ih.e X Z W ok _ _ _ h1).1
  unfold trI at h
  split at h
  · split at h
    · rename_i hc
      simp only [Bool.and_eq_true, decide_eq_true_eq] at hc
      obtain ⟨⟨rfl, hg⟩, _⟩ := hc
      rw [Option.map_eq_some_iff] at h
      obtain ⟨m, h1, h2⟩ := h
      cases h2
      refine ⟨pim_rng1 (glob_ok ok hg).1 (ok.bi _ (by decide +kernel)) (fun env => tr_star h1 [] env) ?_, fun _ => rfl⟩
      exact pm_cons (tr_star h1 _) (ih.e X Z W ok _ _ _ h1).1 pm_nil
    · split at h
      · rename_i hc
        simp only [Bool.and_eq_true, decide_eq_true_eq] at hc
        obtain ⟨⟨⟨rfl, hg⟩, _⟩, ht⟩ := hc
        rw [Option.map_eq_some_iff] at h
        obtain ⟨m, h1, h2⟩ := h
        cases h2
        obtain ⟨ts, c0, p3, rfl⟩ := isTupT_ok ht
        refine ⟨pim_enum (glob_ok ok hg).1 (ok.bi _ (by decide +kernel)) (fun env => tr_star h1 [] env) ?_, fun _ => rfl⟩
        exact pm_cons (tr_star h1 _) (ih.e X Z W ok _ _ _ h1).1 pm_nil
      · exact ⟨gen h, fun _ => rfl⟩
  · split at h
    · rename_i hc
      simp only [Bool.and_eq_true, decide_eq_true_eq] at hc
      obtain ⟨⟨rfl, hg⟩, _⟩ := hc
      rw [Option.bind_eq_some_iff] at h
      obtain ⟨m, h1, h⟩ := h
      rw [Option.map_eq_some_iff] at h
      obtain ⟨m2, h2, h3⟩ := h
      cases h3
      refine ⟨pim_rng2 (glob_ok ok hg).1 (ok.bi _ (by decide +kernel)) (fun env => by rw [tr_star h1, tr_star h2]; rfl) (fun env => tr_star h2 [] env) ?_, fun _ => rfl⟩
      exact pm_cons (tr_star h1 _) (ih.e X Z W ok _ _ _ h1).1 (pm_cons (tr_star h2 _) (ih.e X Z W ok _ _ _ h2).1 pm_nil)
    · split at h
      · rename_i hc
        simp only [Bool.and_eq_true, decide_eq_true_eq] at hc
        obtain ⟨⟨⟨rfl, hg⟩, _⟩, ht⟩ := hc
        rw [Option.bind_eq_some_iff] at h
        obtain ⟨m, h1, h⟩ := h
        rw [Option.map_eq_some_iff] at h
        obtain ⟨m2, h2, h3⟩ := h
        cases h3
        obtain ⟨ts, c0, p3, rfl⟩ := isTupT_ok ht
        refine ⟨pim_zip (glob_ok ok hg).1 (ok.bi _ (by decide +kernel)) (fun env => tr_star h1 _ env) (fun env => tr_star h2 [] env) ?_, fun _ => rfl⟩
        exact pm_cons (tr_star h1 _) (ih.e X Z W ok _ _ _ h1).1 (pm_cons (tr_star h2 _) (ih.e X Z W ok _ _ _ h2).1 pm_nil)
      · exact ⟨gen h, fun _ => rfl⟩
  · cases h
  · rename_i h1 h2 h3
    refine ⟨gen h, fun x => ?_⟩
    cases e <;> first | rfl | exact absurd rfl (h3 _ _ _)
end
end Ev
/-! The translation of expressions is right: each step. -/
namespace Ev
open PySem PySem.Spec PyProof.Rows L2

section
variable {C : Cal} {k n : Nat} {X : Cx} {Z : Zt} {W : WX}
theorem isNoneC_ok {b : Expr} (h : isNoneC b = true) : ∃ j p, b = .Constant .none j p := by
  unfold isNoneC at h
  split at h
  · exact ⟨_, _, rfl⟩
  · cases h
theorem pats_mem {p : Nat × List Str} (h : Z.pats.contains p = true) : p ∈ Z.pats := List.contains_iff_mem.mp h
theorem rgPr_ok {x : Str} {p : Prim} (h : rgPr x = some p) : ∃ l : Bool, x = (if l then ("list" : Str) else ("tuple" : Str)) ∧ p = .rg l := by
  unfold rgPr at h
  split at h
  · rename_i e
    cases h
    exact ⟨false, e, rfl⟩
  · split at h
    · rename_i e
      cases h
      exact ⟨true, e, rfl⟩
    · cases h
theorem rgIn_ok {args : List Expr} {kws : List Keyword} {as : List Expr} (h : rgIn args kws = some as) : (∃ (y : Str) (p1 p2 : Pos) (a : Expr), y = ("range" : Str) ∧ args = [.Call (.Name y p1) [a] [] p2] ∧ kws = [] ∧ as = [a]) ∨ (∃ (y : Str) (p1 p2 : Pos) (a b : Expr), y = ("range" : Str) ∧ args = [.Call (.Name y p1) [a, b] [] p2] ∧ kws = [] ∧ as = [a, b]) := by
  unfold rgIn at h
  split at h
  · split at h
    · rename_i e
      cases h
      exact .inl ⟨_, _, _, _, e, rfl, rfl, rfl⟩
    · cases h
  · split at h
    · rename_i e
      cases h
      exact .inr ⟨_, _, _, _, _, e, rfl, rfl, rfl⟩
    · cases h
  · cases h
theorem snd_call (ih : Snd C k n) (ok : Ok C k X Z W) {x : Str} {q pos : Pos} {args : List Expr} {kws : List Keyword} {m : E} {al : Bool} (h : trE Z (n + 1) al (.Call (.Name x q) args kws pos) = some m) : PE X (.Call (.Name x q) args kws pos) (tM X W (evE C m)) := by
  unfold trE at h
  dsimp only at h
  split at h
  · rename_i hx
    subst hx
    split at h
    · rename_i a t p
      split at h
      · rename_i hc
        rw [Bool.and_eq_true] at hc
        rw [Option.bind_eq_some_iff] at h
        obtain ⟨ty, h1, h⟩ := h
        rw [Option.map_eq_some_iff] at h
        obtain ⟨a', h2, rfl⟩ := h
        obtain ⟨g1, g2, g3⟩ := glob_ok ok hc.1
        obtain ⟨t1, t2, t3⟩ := glob_ok ok hc.2
        have hmt : X.mg t = none := by
          refine ok.bi t ?_
          unfold tyOf at h1
          by_cases hz : t = "int"
          · rw [hz]; decide +kernel
          rw [if_neg hz] at h1
          by_cases hz : t = "bool"
          · rw [hz]; decide +kernel
          rw [if_neg hz] at h1
          by_cases hz : t = "str"
          · rw [hz]; decide +kernel
          rw [if_neg hz] at h1
          by_cases hz : t = "tuple"
          · rw [hz]; decide +kernel
          rw [if_neg hz] at h1
          by_cases hz : t = "list"
          · rw [hz]; decide +kernel
          rw [if_neg hz] at h1
          by_cases hz : t = "dict"
          · rw [hz]; decide +kernel
          rw [if_neg hz] at h1
          cases h1
        exact pm_isi g1 (ok.bi _ (by decide +kernel)) h1 t1 hmt t3 t2 (tr_star h2) (ih.e X Z W ok _ _ _ h2).1
      · cases h
    · cases h
  · split at h
    · rename_i as has
      split at h
      · rename_i hc
        simp only [Bool.and_eq_true] at hc
        obtain ⟨⟨⟨hx1, _⟩, hr1⟩, _⟩ := hc
        rw [Option.bind_eq_some_iff] at h
        obtain ⟨p, hp, h⟩ := h
        rw [Option.map_eq_some_iff] at h
        obtain ⟨es, hes, rfl⟩ := h
        obtain ⟨g1, g2, g3⟩ := glob_ok ok hx1
        obtain ⟨r1, r2, r3⟩ := glob_ok ok hr1
        have each := ih.es X Z W ok _ _ hes
        have hmr := ok.bi "range" (by decide +kernel)
        obtain ⟨l, hl, rfl⟩ := rgPr_ok hp
        subst hl
        have hml : X.mg (if l then ("list" : Str) else ("tuple" : Str)) = none := ok.bi _ (by cases l <;> decide +kernel)
        rcases rgIn_ok has with ⟨y, p1, p2, a, rfl, rfl, rfl, rfl⟩ | ⟨y, p1, p2, a, b, rfl, rfl, rfl, rfl⟩
        · cases each with
          | cons ha hb hs ht =>
            cases ht
            refine (congrArg (fun r => PE X _ (tM X W r)) ?_).mp (pm_rg1 (al := al) l ok.calm g1 hml r1 hmr ha (hs _ _))
            · funext env st
              show _ = ((evE C _ env st).bnd fun d st => Out.ok [d] st).bnd fun ds st => rgP al l ds st
              rw [bnd_assoc]
              rfl
        · cases each with
          | cons ha _ hs ht =>
            cases ht with
            | cons hb _ hs2 ht =>
              cases ht
              refine (congrArg (fun r => PE X _ (tM X W r)) ?_).mp (pm_rg2 (al := al) l ok.calm g1 hml r1 hmr ha hb (hs _ _) (hs2 _ _) (by rw [hs2]; rfl))
              · funext env st
                show _ = ((evE C _ env st).bnd fun d st => ((evE C _ env st).bnd fun e st => Out.ok [e] st).bnd fun ds st => Out.ok (d :: ds) st).bnd fun ds st => rgP al l ds st
                rw [bnd_assoc]
                congr 1
                funext d st1
                rw [bnd_assoc, bnd_assoc]
                rfl
      · cases h
    · split at h
      · rename_i e es _
        rw [Option.bind_eq_some_iff] at h
        obtain ⟨ms, h1, h⟩ := h
        have each := ih.es X Z W ok _ _ h1
        cases each with
        | cons hp hb hs ht =>
          rename_i m1 ms
          have each : EachP X W C (e :: es) (m1 :: ms) := .cons hp hb hs ht
          split at h
          · rename_i i hi
            cases h
            obtain ⟨s1, s2, s3, s4⟩ := slot_ok ok hi
            have := pm_callv (W := W) (T := C.all) ok.al ok.room ok.gd ok.tk s1 s2 s3 s4 (q := q) (pos := pos) (hs _) ht.noStar each.pa
            exact this
          · split at h
            · rename_i hg
              obtain ⟨g1, g2, g3⟩ := glob_ok ok hg
              split at h
              · rename_i hd
                cases h
                obtain ⟨f, F⟩ := ok.df x (List.contains_iff_mem.mp hd)
                exact pm_call F ok.room ok.gd ok.tk g1 g2 (hs _) ht.noStar each.pa
              · rw [Option.map_eq_some_iff] at h
                obtain ⟨p, hp1, rfl⟩ := h
                have hmx : X.mg x = none := by
                  refine ok.bi x ?_
                  unfold primOf at hp1
                  by_cases hz : x = "len" ∧ (m1 :: ms).length = 1
                  · rw [hz.1]; decide +kernel
                  rw [if_neg hz] at hp1
                  by_cases hz : x = "abs" ∧ (m1 :: ms).length = 1
                  · rw [hz.1]; decide +kernel
                  rw [if_neg hz] at hp1
                  by_cases hz : x = "max" ∧ (m1 :: ms).length = 2
                  · rw [hz.1]; decide +kernel
                  rw [if_neg hz] at hp1
                  by_cases hz : x = "min" ∧ (m1 :: ms).length = 2
                  · rw [hz.1]; decide +kernel
                  rw [if_neg hz] at hp1
                  by_cases hz : x = "int" ∧ (m1 :: ms).length = 1
                  · rw [hz.1]; decide +kernel
                  rw [if_neg hz] at hp1
                  by_cases hz : x = "repr" ∧ (m1 :: ms).length = 1
                  · rw [hz.1]; decide +kernel
                  rw [if_neg hz] at hp1
                  by_cases hz : x = "divmod" ∧ (m1 :: ms).length = 2
                  · rw [hz.1]; decide +kernel
                  rw [if_neg hz] at hp1
                  by_cases hz : x = "sum" ∧ (m1 :: ms).length = 1
                  · rw [hz.1]; decide +kernel
                  rw [if_neg hz] at hp1
                  by_cases hz : x = "all" ∧ (m1 :: ms).length = 1
                  · rw [hz.1]; decide +kernel
                  rw [if_neg hz] at hp1
                  by_cases hz : x = "any" ∧ (m1 :: ms).length = 1
                  · rw [hz.1]; decide +kernel
                  rw [if_neg hz] at hp1
                  by_cases hz : x = "tuple" ∧ (m1 :: ms).length = 1
                  · rw [hz.1]; decide +kernel
                  rw [if_neg hz] at hp1
                  by_cases hz : x = "list" ∧ (m1 :: ms).length = 1
                  · rw [hz.1]; decide +kernel
                  rw [if_neg hz] at hp1
                  by_cases hz : x = "max" ∧ (m1 :: ms).length = 1
                  · rw [hz.1]; decide +kernel
                  rw [if_neg hz] at hp1
                  by_cases hz : x = "min" ∧ (m1 :: ms).length = 1
                  · rw [hz.1]; decide +kernel
                  rw [if_neg hz] at hp1
                  cases hp1
                exact pm_pr ok.sm ok.calm ok.gd (hu_ok ok) hp1 g1 hmx g3 g2 (hs _) ht.noStar each.pa
            · cases h
      · rename_i kw kws _
        rw [Option.bind_eq_some_iff] at h
        obtain ⟨ks, h1, h⟩ := h
        rw [Option.bind_eq_some_iff] at h
        obtain ⟨es, h2, h⟩ := h
        rw [Option.bind_eq_some_iff] at h
        obtain ⟨ws, h3, h⟩ := h
        have e1 := ih.es X Z W ok _ _ h2
        have e2 := ih.es X Z W ok _ _ h3
        obtain ⟨k1, k2, k3⟩ := kwNames h1
        have hl2 : (kw :: kws).length = ws.length := by rw [← e2.len, List.length_map]
        have hz : (args = [] ∧ ∀ (env : Env) (st : Sto), evEs C es env st = .ok [] st) ∨ ∃ e es', args = e :: es' ∧ (∀ env : PySem.Env, starEach (e :: es') env = (false, eval e env) :: starEach es' env) := by
          cases e1 with
          | nil => exact .inl ⟨rfl, fun _ _ => rfl⟩
          | cons hp hb hs ht => exact .inr ⟨_, _, rfl, hs _⟩
        have hsplit : (fun (env : Env) (st : Sto) => (evEs C es env st).bnd fun ds st => (evEs C ws env st).bnd fun zs st => callC C x ks (ds ++ zs) st) = fun env st => (evEs C (es ++ ws) env st).bnd fun ds st => callC C x ks ds st := by
          funext env st
          rw [evEs_append, bnd_assoc]
          congr 1
          funext ds st1
          rw [bnd_assoc]
          rfl
        split at h
        · rename_i hp
          split at h
          · rename_i i hi
            cases h
            obtain ⟨s1, s2, s3, s4⟩ := slot_ok ok hi
            have := pm_callvk (W := W) (T := C.all) (rs := evEs C es) (rw := evEs C ws) ok.al ok.room ok.gd ok.tk s1 s2 s3 s4 (q := q) (pos := pos) k1 k2 hz e1.noStar (pats_mem hp) k3 (fun _ _ _ _ e => by rw [evEs_len e, e1.len]) (fun _ _ _ _ e => by rw [evEs_len e, hl2]) e1.pa e2.pk
            have hs2 : (fun (env : Env) (st : Sto) => match env[i]? with
                | some (some (.fn g)) => if C.all.contains g then (evEs C es env st).bnd fun ds st => (evEs C ws env st).bnd fun zs st => callC C g ks (ds ++ zs) st else .bad
                | _ => .bad) = evE C (.callv i ks (es ++ ws)) := by
              funext env st
              show _ = (match env[i]? with
                | some (some (.fn g)) => if C.all.contains g then (evEs C (es ++ ws) env st).bnd fun ds st => callC C g ks ds st else .bad
                | _ => .bad)
              split
              · split
                · rw [evEs_append, bnd_assoc]
                  congr 1
                  funext ds st1
                  rw [bnd_assoc]
                  rfl
                · rfl
              · rfl
            exact (congrArg (fun r => PE X (.Call (.Name x q) args (kw :: kws) pos) (tM X W r)) hs2).mp this
          · split at h
            · rename_i hc
              rw [Bool.and_eq_true] at hc
              cases h
              obtain ⟨g1, g2, g3⟩ := glob_ok ok hc.1
              obtain ⟨f, F⟩ := ok.df x (List.contains_iff_mem.mp hc.2)
              have := pm_callk (rs := evEs C es) (rw := evEs C ws) F ok.room ok.gd ok.tk g1 g2 (q := q) (pos := pos) k1 k2 hz e1.noStar (pats_mem hp) k3 (fun _ _ _ _ e => by rw [evEs_len e, e1.len]) (fun _ _ _ _ e => by rw [evEs_len e, hl2]) e1.pa e2.pk
              rw [hsplit] at this
              exact this
            · cases h
        · cases h
      · split at h
        · rename_i hc
          rw [Bool.and_eq_true] at hc
          cases h
          obtain ⟨g1, g2, g3⟩ := glob_ok ok hc.1
          obtain ⟨f, F⟩ := ok.df x (List.contains_iff_mem.mp hc.2)
          exact pm_call0 F ok.room ok.gd ok.tk g1 g2
        · cases h
end
end Ev
/-! The translation of expressions is right: all together. -/
namespace Ev
open PySem PySem.Spec PyProof.Rows L2

section
variable {C : Cal} {k n : Nat} {X : Cx} {Z : Zt} {W : WX}
abbrev Both (X : Cx) (W : WX) (C : Cal) (e : Expr) (m : E) : Prop := PE X e (tM X W (evE C m)) ∧ PT X e (tMB X W (tst (evE C m)))
theorem both {e : Expr} {m : E} (h : PE X e (tM X W (evE C m))) (ht : ∀ whole, PySem.isTrue e X.env whole = (do let v ← whole; standAt e.pos; holding [v] (truthy v))) : Both X W C e m := ⟨h, ptm_truth ht h⟩
theorem keysOf_len : ∀ {ks : List (Option Expr)} {kk : List Key}, keysOf ks = some kk → ks.length = kk.length
  | [], _, h => by cases h; rfl
  | o :: r, kk, h => by
    unfold keysOf at h
    split at h
    · rename_i hq; cases hq
    · rename_i heq
      cases heq
      rw [Option.map_eq_some_iff] at h
      obtain ⟨r', h1, rfl⟩ := h
      rw [List.length_cons, List.length_cons, keysOf_len h1]
    · rename_i heq
      cases heq
      rw [Option.map_eq_some_iff] at h
      obtain ⟨r', h1, rfl⟩ := h
      rw [List.length_cons, List.length_cons, keysOf_len h1]
    · cases h
theorem snd_e (ih : Snd C k n) (ok : Ok C k X Z W) {al : Bool} {e : Expr} {m : E} (h : trE Z (n + 1) al e = some m) : Both X W C e m := by
  have bt : ∀ {e : Expr} {m : E}, PE X e (tM X W (evE C m)) → (∀ whole, PySem.isTrue e X.env whole = (do let v ← whole; standAt e.pos; holding [v] (truthy v))) → Both X W C e m := fun h ht => ⟨h, ptm_truth ht h⟩
  have hcall : ∀ {f : Expr} {args : List Expr} {kws : List Keyword} {pos : Pos}, e = .Call f args kws pos → Both X W C e m := by
    intro f args kws pos he
    subst he
    cases f with
    | Name x q => exact bt (snd_call ih ok h) fun _ => rfl
    | Attribute o mn apos =>
      cases args with
      | nil => unfold trE at h; cases h
      | cons a r =>
        cases r with
        | cons _ _ => unfold trE at h; cases h
        | nil =>
          cases kws with
          | cons _ _ => unfold trE at h; cases h
          | nil =>
            unfold trE at h
            dsimp only at h
            split at h
            · rename_i hc
              rw [Bool.and_eq_true] at hc
              split at h
              · rename_i hm
                subst hm
                rw [Option.bind_eq_some_iff] at h
                obtain ⟨o', h1, h⟩ := h
                rw [Option.bind_eq_some_iff] at h
                obtain ⟨a', h2, h⟩ := h
                cases h
                exact bt (pm_app hc.2 hc.1 (fun env => tr_star h2 [] env) (ih.e X Z W ok _ _ _ h1).1 (ih.e X Z W ok _ _ _ h2).1) fun _ => rfl
              · split at h
                · rename_i hm
                  subst hm
                  rw [Option.bind_eq_some_iff] at h
                  obtain ⟨o', h1, h⟩ := h
                  rw [Option.bind_eq_some_iff] at h
                  obtain ⟨a', h2, h⟩ := h
                  cases h
                  exact bt (pm_ext hc.2 hc.1 (fun env => tr_star h2 [] env) (ih.e X Z W ok _ _ _ h1).1 (ih.e X Z W ok _ _ _ h2).1) fun _ => rfl
                · cases h
            · cases h
    | _ => unfold trE at h; cases h
  cases e with
  | Constant c j p =>
    cases c with
    | none => rw [trE] at h; cases h; exact bt pm_non fun _ => rfl
    | bool b => rw [trE] at h; cases h; exact bt pm_bl fun _ => rfl
    | int i => rw [trE] at h; cases h; exact bt pm_int fun _ => rfl
    | str x => rw [trE] at h; cases h; exact bt pm_str fun _ => rfl
    | _ => simp [trE] at h
  | Name x p =>
    rw [trE] at h
    split at h
    · rename_i i hi
      cases h
      obtain ⟨s1, s2, s3, s4⟩ := slot_ok ok hi
      exact bt (pm_var s1 s2 s3 s4) fun _ => rfl
    · split at h
      · rename_i hg
        obtain ⟨g1, g2, g3⟩ := glob_ok ok hg
        split at h
        · rename_i hd
          cases h
          obtain ⟨f, F⟩ := ok.df x (List.contains_iff_mem.mp hd)
          exact bt (pm_fn g1 F.at_ g2) fun _ => rfl
        · rw [Option.map_eq_some_iff] at h
          obtain ⟨d, h1, rfl⟩ := h
          obtain ⟨v, u, c1, c2, c3⟩ := ok.co x d h1
          exact bt (pm_co g1 c1 c2 c3 g2) fun _ => rfl
      · cases h
  | BinOp a o b p =>
    rw [trE, Option.bind_eq_some_iff] at h
    obtain ⟨bo', h1, h⟩ := h
    rw [Option.bind_eq_some_iff] at h
    obtain ⟨a', h2, h⟩ := h
    rw [Option.bind_eq_some_iff] at h
    obtain ⟨b', h3, h⟩ := h
    cases h
    exact bt (pm_bin h1 (ih.e X Z W ok _ _ _ h2).1 (ih.e X Z W ok _ _ _ h3).1) fun _ => rfl
  | UnaryOp o a p =>
    cases o with
    | USub =>
      rw [trE, Option.map_eq_some_iff] at h
      obtain ⟨a', h1, rfl⟩ := h
      exact bt (pm_neg (ih.e X Z W ok _ _ _ h1).1) fun _ => rfl
    | Not =>
      rw [trE, Option.map_eq_some_iff] at h
      obtain ⟨a', h1, rfl⟩ := h
      obtain ⟨p1, p2⟩ := ih.e X Z W ok _ _ _ h1
      exact ⟨pm_not p1, ptm_not p2⟩
    | _ => simp [trE] at h
  | BoolOp o vs p =>
    cases o with
    | And =>
      rw [trE] at h
      obtain ⟨p1, p2⟩ := ih.b X Z W ok true _ _ p h
      exact ⟨p1, p2.pt⟩
    | Or =>
      rw [trE] at h
      obtain ⟨p1, p2⟩ := ih.b X Z W ok false _ _ p h
      exact ⟨p1, p2.pt⟩
  | IfExp t a b p =>
    rw [trE, Option.bind_eq_some_iff] at h
    obtain ⟨t', h1, h⟩ := h
    rw [Option.bind_eq_some_iff] at h
    obtain ⟨a', h2, h⟩ := h
    rw [Option.bind_eq_some_iff] at h
    obtain ⟨b', h3, h⟩ := h
    cases h
    obtain ⟨p1, p2⟩ := ih.e X Z W ok _ _ _ h1
    obtain ⟨q1, q2⟩ := ih.e X Z W ok _ _ _ h2
    obtain ⟨r1, r2⟩ := ih.e X Z W ok _ _ _ h3
    exact ⟨pm_ite p2 q1 r1, ptm_ite p2 q2 r2⟩
  | Compare a os bs p =>
    have one : ∀ {o : CmpOp} {b : Expr}, o ≠ .Is → o ≠ .IsNot → trE Z (n + 1) al (.Compare a [o] [b] p) = (if notSet b then (copOf o).bind fun o => (trE Z n false a).bind fun a => (trE Z n false b).bind fun b => some (.cmp o a b) else none) := by
      intro o b h1 h2
      cases o <;> first | exact absurd rfl h1 | exact absurd rfl h2 | rw [trE]
      all_goals first | (intro z; cases z) | skip
    have fin1 : ∀ {o : CmpOp} {b : Expr}, o ≠ .Is → o ≠ .IsNot → trE Z (n + 1) al (.Compare a [o] [b] p) = some m → Both X W C (.Compare a [o] [b] p) m := by
      intro o b h1 h2 h
      rw [one h1 h2] at h
      split at h
      · rename_i hn
        rw [Option.bind_eq_some_iff] at h
        obtain ⟨co, g1, h⟩ := h
        rw [Option.bind_eq_some_iff] at h
        obtain ⟨a', g2, h⟩ := h
        rw [Option.bind_eq_some_iff] at h
        obtain ⟨b', g3, h⟩ := h
        cases h
        have pa := (ih.e X Z W ok _ _ _ g2).1
        have pb := (ih.e X Z W ok _ _ _ g3).1
        exact ⟨pm_cmp (hu_ok ok) hn g1 pa pb, ptm_cmp (hu_ok ok) hn g1 pa pb⟩
      · cases h
    cases os with
    | nil => simp [trE] at h
    | cons o os =>
      cases os with
      | nil =>
        cases bs with
        | nil => cases o <;> simp [trE] at h
        | cons b bs =>
          cases bs with
          | cons _ _ => cases o <;> simp [trE] at h
          | nil =>
            cases o with
            | Is =>
              rw [trE] at h
              split at h
              · rename_i hn
                obtain ⟨j, q, rfl⟩ := isNoneC_ok hn
                rw [Option.map_eq_some_iff] at h
                obtain ⟨a', h1, rfl⟩ := h
                have pa := (ih.e X Z W ok _ _ _ h1).1
                exact ⟨pm_isN pa, ptm_isN pa⟩
              · cases h
            | IsNot =>
              rw [trE] at h
              split at h
              · rename_i hn
                obtain ⟨j, q, rfl⟩ := isNoneC_ok hn
                rw [Option.map_eq_some_iff] at h
                obtain ⟨a', h1, rfl⟩ := h
                have pa := (ih.e X Z W ok _ _ _ h1).1
                exact ⟨pm_notN pa, ptm_notN pa⟩
              · cases h
            | _ => exact fin1 (by intro z; cases z) (by intro z; cases z) h
      | cons o2 os =>
        cases os with
        | cons _ _ => cases o <;> simp [trE] at h
        | nil =>
          cases bs with
          | nil => cases o <;> simp [trE] at h
          | cons b bs =>
            cases bs with
            | nil => cases o <;> simp [trE] at h
            | cons c bs =>
              cases bs with
              | cons _ _ => cases o <;> simp [trE] at h
              | nil =>
                rw [trE] at h
                split at h
                · rename_i hn
                  rw [Option.bind_eq_some_iff] at h
                  obtain ⟨co, g1, h⟩ := h
                  rw [Option.bind_eq_some_iff] at h
                  obtain ⟨cp, g2, h⟩ := h
                  rw [Option.bind_eq_some_iff] at h
                  obtain ⟨a', g3, h⟩ := h
                  rw [Option.bind_eq_some_iff] at h
                  obtain ⟨b', g4, h⟩ := h
                  rw [Option.bind_eq_some_iff] at h
                  obtain ⟨c', g5, h⟩ := h
                  cases h
                  have pa := (ih.e X Z W ok _ _ _ g3).1
                  have pb := (ih.e X Z W ok _ _ _ g4).1
                  have pc := (ih.e X Z W ok _ _ _ g5).1
                  exact ⟨pm_chain (hu_ok ok) hn g1 g2 pa pb pc, ptm_chain (hu_ok ok) hn g1 g2 pa pb pc⟩
                · cases h
  | Tuple es j p =>
    rw [trE, Option.map_eq_some_iff] at h
    obtain ⟨es', h1, rfl⟩ := h
    exact bt (pm_tup (ih.es X Z W ok _ _ h1).pa) fun _ => rfl
  | List es p =>
    rw [trE, Option.map_eq_some_iff] at h
    obtain ⟨es', h1, rfl⟩ := h
    exact bt (pm_lst (ih.es X Z W ok _ _ h1).pa) fun _ => rfl
  | Dict ks es p =>
    rw [trE, Option.bind_eq_some_iff] at h
    obtain ⟨kk, h1, h⟩ := h
    rw [Option.bind_eq_some_iff] at h
    obtain ⟨es', h2, h⟩ := h
    split at h
    · rename_i hc
      cases h
      have each := ih.es X Z W ok _ _ h2
      rw [Bool.and_eq_true, decide_eq_true_eq, decide_eq_true_eq] at hc
      by_cases h0 : kk = []
      · subst h0
        have hk0 : ks = [] := by
          cases ks with
          | nil => rfl
          | cons o r =>
            unfold keysOf at h1
            split at h1
            · rename_i hq; cases hq
            · rw [Option.map_eq_some_iff] at h1
              obtain ⟨_, _, z⟩ := h1
              cases z
            · rw [Option.map_eq_some_iff] at h1
              obtain ⟨_, _, z⟩ := h1
              cases z
            · cases h1
        subst hk0
        cases each with
        | cons _ _ _ _ => cases hc.1
        | nil => exact bt pm_dct0 fun _ => rfl
      · have hk0 : ks ≠ [] := fun z => by
          subst z
          cases h1
          exact h0 rfl
        have hkl : ks.length = kk.length := keysOf_len h1
        have := pm_dct (al := al) (pos := p) h1 each.each (by rw [hc.1, each.len]) hk0 (by rw [hkl]; exact hc.2)
        rw [seqR_map] at this
        exact bt this fun _ => rfl
    · cases h
  | Subscript a b p =>
    have plain : plainIx b = true → trE Z (n + 1) al (.Subscript a b p) = some m → Both X W C (.Subscript a b p) m := by
      intro hp h
      have e : trE Z (n + 1) al (.Subscript a b p) = (if plainIx b then (trE Z n false a).bind fun a => (trE Z n false b).bind fun b => some (.ix a b) else none) := by
        cases b with
        | Slice _ _ _ _ => cases hp
        | _ => rfl
      rw [e, if_pos hp, Option.bind_eq_some_iff] at h
      obtain ⟨a', h1, h⟩ := h
      rw [Option.bind_eq_some_iff] at h
      obtain ⟨b', h2, h⟩ := h
      cases h
      exact bt (pm_ix hp (ih.e X Z W ok _ _ _ h1).1 (ih.e X Z W ok _ _ _ h2).1) fun _ => rfl
    cases b with
    | Slice lo hi stp p2 =>
      cases stp with
      | some _ =>
        unfold trE at h
        cases h
      | none =>
        rw [trE, Option.bind_eq_some_iff] at h
        obtain ⟨a', h1, h⟩ := h
        rw [Option.bind_eq_some_iff] at h
        obtain ⟨lo', h2, h⟩ := h
        rw [Option.bind_eq_some_iff] at h
        obtain ⟨hi', h3, h⟩ := h
        cases h
        exact bt (pm_sl (ih.e X Z W ok _ _ _ h1).1 (ih.o X Z W ok _ _ h2) (ih.o X Z W ok _ _ h3)) fun _ => rfl
    | _ => exact plain rfl h
  | ListComp elt gs sc p =>
    unfold trE at h
    dsimp only at h
    split at h
    · rename_i g
      obtain ⟨t, it, ifs, asy⟩ := g
      split at h
      · rename_i hc
        obtain ⟨ha, hb⟩ := hc
        dsimp only at ha h
        subst ha
        rw [Option.bind_eq_some_iff] at h
        obtain ⟨t', h1, h⟩ := h
        rw [Option.bind_eq_some_iff] at h
        obtain ⟨⟨kd, src⟩, h2, h⟩ := h
        rw [Option.bind_eq_some_iff] at h
        obtain ⟨ifs', h3, h⟩ := h
        split at h
        · rename_i hl
          rw [Option.bind_eq_some_iff] at h
          obtain ⟨elt', h4, h⟩ := h
          cases h
          obtain ⟨i1, i2⟩ := ih.i X Z W ok t it kd src h2
          have hbk : BlkOk X.N X.env.scope sc (ownOf Z.N sc.names) := by
            rw [ok.N, ok.sc]
            exact blkOk_by hb
          have okb := fun (s : Shared) (H : Hp) (a : Addr) (cl : List (Str × Addr)) (fp : List Addr) => ok.blk hb s H a cl fp
          have hsl : ∀ i ∈ slotsT t', i ∈ (ownOf Z.N sc.names).map (·.2) := by
            intro i hi
            obtain ⟨x, hx, hix⟩ := ((trTN_ok (okb X.s_0 X.H_0 0 [] []) n).1 _ _ h1).2.1 i hi
            obtain ⟨j, hj⟩ := own_fst hx
            have := (own_mem hj).1
            rw [hix] at this
            cases this
            exact List.mem_map.mpr ⟨_, hj, rfl⟩
          have hts : ∀ (s : Shared) (H : Hp) (a : Addr) (cl : List (Str × Addr)) (fp : List Addr), PTs (X.blk s H sc (compEnvC sc cl a X.env) fp) ifs (tMB X W0 (evTs C ifs')) := by
            intro s H a cl fp
            have each := ih.es _ _ W0 (okb s H a cl fp) _ _ h3
            cases each with
            | nil => exact ptsm_nil
            | cons hp hb hs ht =>
              cases ht with
              | cons _ _ _ _ => exact absurd hl (by simp)
              | nil =>
                rename_i e1 m1
                have e : evTs C [m1] = tst (evE C m1) := by
                  funext env st
                  show ((evE C m1 env st).bnd fun x st => (opt (truth st x) st).bnd fun k st => if k then evTs C [] env st else .ok false st) = (evE C m1 env st).bnd fun x st => opt (truth st x) st
                  congr 1
                  funext x st1
                  cases truth st1 x with
                  | none => rfl
                  | some k => cases k <;> rfl
                rw [e]
                exact ptsm_one hb
          exact bt (pm_comp ok.calm ok.nd i1 hbk i2 hsl (fun s H a cl fp => ((trTN_ok (okb s H a cl fp) n).1 _ _ h1).1) hts fun s H a cl fp => (ih.e _ _ W0 (okb s H a cl fp) _ _ _ h4).1) fun _ => rfl
        · cases h
      · cases h
    · cases h
  | Call f args kws p => exact hcall rfl
  | _ => simp [trE] at h
/-- every expression that is translated -/
theorem snd_all : ∀ n : Nat, Snd C k n
  | 0 => snd0
  | n + 1 => ⟨fun _ _ _ ok _ _ _ h => snd_e (snd_all n) ok h, fun _ _ _ ok _ _ _ _ h => snd_b (snd_all n) ok h, fun _ _ _ ok _ _ h => snd_es (snd_all n) ok h, fun _ _ _ ok _ _ h => snd_o (snd_all n) ok h, fun _ _ _ ok _ _ _ _ h => snd_i (snd_all n) ok h⟩
end
end Ev
/-! Statements. -/
namespace Ev
open PySem PySem.Spec PyProof.Rows L2

section
variable (K : PySem.W.Frag) (mg : Str → Option Value)
/-- what a statement's outcome brings -/
def FinR (W : WX) (ρ π : List Addr) (H : Hp) (o : R) (D : Ends) : Prop := match o with
  | .nx env st => ∀ ρ' H' σ', Ext ρ H ρ' H' → SR K mg ρ' π H' st → RE K mg ρ' π H' env σ' → D.nx σ' H'
  | .bk env st => ∀ ρ' H' σ', Ext ρ H ρ' H' → SR K mg ρ' π H' st → RE K mg ρ' π H' env σ' → D.bk σ' H'
  | .ct env st => ∀ ρ' H' σ', Ext ρ H ρ' H' → SR K mg ρ' π H' st → RE K mg ρ' π H' env σ' → D.ct σ' H'
  | .rt d st => ∀ ρ' H' v, Ext ρ H ρ' H' → SR K mg ρ' π H' st → RD K mg ρ' π H' d v → D.rt v H'
  | .ex c d env st => ∀ ρ' H' σ' Cc da v, Ext ρ H ρ' H' → SR K mg ρ' π H' st → RE K mg ρ' π H' env σ' → mg c = some (.ref Cc) → H' da = some (.xd [("value", v)]) → RD K mg ρ' π H' d v → W (.ref Cc) (some da) σ' H'
  | .bad => False
end
section
variable {K : PySem.W.Frag} {mg : Str → Option Value} {W : WX} {ρ ρ' π : List Addr} {H H' : Hp} {o : R} {Dd De : Ends}
theorem FinR.ext (h : FinR K mg W ρ π H o Dd) (x : Ext ρ H ρ' H') : FinR K mg W ρ' π H' o Dd := by
  cases o with
  | nx e s => exact fun ρ2 H2 σ y => h ρ2 H2 σ (x.trans y)
  | bk e s => exact fun ρ2 H2 σ y => h ρ2 H2 σ (x.trans y)
  | ct e s => exact fun ρ2 H2 σ y => h ρ2 H2 σ (x.trans y)
  | rt d s => exact fun ρ2 H2 v y => h ρ2 H2 v (x.trans y)
  | ex c v e s => exact fun ρ2 H2 σ Cc da u y => h ρ2 H2 σ Cc da u (x.trans y)
  | bad => exact h
theorem FinR.bnd {α β : Type} {Rel : List Addr → Hp → α → β → Prop} {o : Out α} {f : α → Sto → R} {env : Env} {st : Sto} {σ : L2.St} {P : β → Hp → Prop} (h : FinR K mg W ρ π H (o.toR env f) Dd) (S : SR K mg ρ π H st) (E : RE K mg ρ π H env σ)
    (k : ∀ a st1 ρ1 H1 v, o = .ok a st1 → Ext ρ H ρ1 H1 → SR K mg ρ1 π H1 st1 → Rel ρ1 H1 a v → FinR K mg W ρ1 π H1 (f a st1) Dd → P v H1) : Fin K mg Rel (fun c d H => W c d σ H) ρ π H o P := by
  cases o with
  | ok a st1 => exact fun ρ1 H1 v x S1 r => k a st1 ρ1 H1 v rfl x S1 r (FinR.ext h x)
  | ex c d st1 => exact fun ρ1 H1 Cc da v x S1 hm hd r => h ρ1 H1 σ Cc da v x S1 (E.mono x S.muts) hm hd r
  | bad => exact h
end

/-- a statement's reading -/
def tS (X : Cx) (W : WX) (r : Env → Sto → R) : TS := fun D σ H => ∃ ρ π env st, SR X.K X.mg ρ π H st ∧ RE X.K X.mg ρ π H env σ ∧ FinR X.K X.mg W ρ π H (r env st) D

section
variable {X : Cx} {W : WX} {e : Expr} {pos : Pos} {re : Env → Sto → Out D}
theorem psm_next : PSs X [] (tS X W fun env st => .nx env st) := pss_nil.imp fun D σ H ⟨ρ, π, env, st, S, E, F⟩ => F ρ H σ (Ext.refl _ _) S E
theorem psm_pass : PS X (.Pass pos) (tS X W fun env st => .nx env st) := ps_pass.imp fun D σ H ⟨ρ, π, env, st, S, E, F⟩ => F ρ H σ (Ext.refl _ _) S E
theorem psm_doc {x : Str} {j : Nat} {p1 p2 : Pos} : PS X (.Expr (.Constant (.str x) j p1) p2) (tS X W fun env st => .nx env st) := ps_doc.imp fun D σ H ⟨ρ, π, env, st, S, E, F⟩ => F ρ H σ (Ext.refl _ _) S E
theorem psm_brk : PS X (.Break pos) (tS X W fun env st => .bk env st) := ps_break.imp fun D σ H ⟨ρ, π, env, st, S, E, F⟩ => F ρ H σ (Ext.refl _ _) S E
theorem psm_cont : PS X (.Continue pos) (tS X W fun env st => .ct env st) := ps_continue.imp fun D σ H ⟨ρ, π, env, st, S, E, F⟩ => F ρ H σ (Ext.refl _ _) S E
/-- what never runs -/
theorem psm_dead {s : Stmt} : PS X s (tS X W fun _ _ => .bad) := ⟨fun pins s0 σ H Dd I ⟨ρ, π, env, st, S, E, F⟩ => F.elim⟩
theorem psm_retN : PS X (.Return none pos) (tS X W fun _ st => .rt .non st) := ps_retN.imp fun D σ H ⟨ρ, π, env, st, S, E, F⟩ => F ρ H .non (Ext.refl _ _) S .non
theorem psm_ret (he : PE X e (tM X W re)) : PS X (.Return (some e) pos) (tS X W fun env st => (re env st).toR env fun d st => .rt d st) := by
  refine (ps_ret he).imp fun D σ H ⟨ρ, π, env, st, S, E, F⟩ => ⟨ρ, π, env, st, S, E, F.bnd S E fun d st1 ρ1 H1 v _ x S1 r F1 => ?_⟩
  exact F1 ρ1 H1 v (Ext.refl _ _) S1 r
theorem swaps_none {tg : Option Expr} {l : Nat} {env : PySem.Env} (h : isComp e = false) : swapsWith e tg l env = pure false := by
  cases e <;> first | rfl | cases h
theorem psm_expr (hc : isComp e = false) (he : PE X e (tM X W re)) : PS X (.Expr e pos) (tS X W fun env st => (re env st).toR env fun _ st => .nx env st) := by
  refine (ps_expr he (swaps_none hc)).imp fun D σ H ⟨ρ, π, env, st, S, E, F⟩ => ⟨ρ, π, env, st, S, E, F.bnd S E fun d st1 ρ1 H1 v _ x S1 r F1 => ?_⟩
  exact F1 ρ1 H1 σ (Ext.refl _ _) S1 (E.mono x S.muts)
theorem psm_cons {s : Stmt} {ss : List Stmt} {r1 r2 : Env → Sto → R} (h1 : PS X s (tS X W r1)) (h2 : PSs X ss (tS X W r2)) : PSs X (s :: ss) (tS X W fun env st => (r1 env st).seq fun env st => r2 env st) := by
  refine (pss_cons h1 h2).imp fun D σ H ⟨ρ, π, env, st, S, E, F⟩ => ⟨ρ, π, env, st, S, E, ?_⟩
  dsimp only at F
  cases hr : r1 env st with
  | nx e s =>
    rw [hr] at F
    exact fun ρ' H' σ' x S1 E1 => ⟨ρ', π, e, s, S1, E1, FinR.ext F x⟩
  | bk e s => rw [hr] at F; exact F
  | ct e s => rw [hr] at F; exact F
  | rt d s => rw [hr] at F; exact F
  | ex c v e s => rw [hr] at F; exact F
  | bad => rw [hr] at F; exact F
theorem psm_if {t : Expr} {a b : List Stmt} {rt : Env → Sto → Out Bool} {ra rb : Env → Sto → R} (ht : PT X t (tMB X W rt)) (ha : PSs X a (tS X W ra)) (hb : PSs X b (tS X W rb)) :
    PS X (.If t a b pos) (tS X W fun env st => (rt env st).toR env fun k st => if k then ra env st else rb env st) := by
  refine (ps_if ht ha hb).imp fun D σ H ⟨ρ, π, env, st, S, E, F⟩ => ⟨ρ, π, env, st, S, E, F.bnd S E fun k st1 ρ1 H1 v _ x S1 r F1 => ?_⟩
  cases r
  cases k with
  | true => exact ⟨ρ1, π, env, st1, S1, E.mono x S.muts, F1⟩
  | false => exact ⟨ρ1, π, env, st1, S1, E.mono x S.muts, F1⟩
theorem psm_for {t : TN} {k : IK} {rs : Env → Sto → Out (List D)} {tg iter : Expr} {body : List Stmt} {rb : Env → Sto → R} (hp : PassesOwn (model X.prog X.w) X.A X.env X.xe) (hc : X.calm = true) (hi : PI X tg iter (tI X W k rs)) (hg : PG X tg (tG X t)) (hb : PSs X body (tS X W rb))
    (hs : ∀ x, foldedSetIterable iter X.env x = pure x) : PS X (.For tg iter body [] pos) (tS X W fun env st => (rs env st).toR env fun ds st => match itOf k ds st with
      | none => .bad
      | some J => forI J (fun d env st => match setT t d env with
        | none => .bad
        | some env => rb env st) turns 0 env st) := by
  refine (ps_for hp hc hi hg hb hs).imp fun D σ H ⟨ρ, π, env, st, S, E, F⟩ => ⟨ρ, π, env, st, S, E, ?_⟩
  dsimp only at F
  cases hr : rs env st with
  | bad => rw [hr] at F; exact F
  | ex c d st1 => rw [hr] at F; exact fun ρ' H' Cc da v x S1 hm hd r => F ρ' H' σ Cc da v x S1 (E.mono x S.muts) hm hd r
  | ok ds st1 =>
    rw [hr] at F
    simp only [Out.toR] at F
    dsimp only
    split at F
    · exact F.elim
    · rename_i J hJ
      refine ⟨⟨J, hJ⟩, fun ρ1 H1 vs I x1 S1 r1 hI => ?_⟩
      have F1 := FinR.ext F x1
      refine ⟨fun i m σc Hc => ∃ ρc envc stc, Ext ρ1 H1 ρc Hc ∧ SR X.K X.mg ρc π Hc stc ∧ RE X.K X.mg ρc π Hc envc σc ∧ RDs X.K X.mg ρc π Hc ds vs ∧ FinR X.K X.mg W ρ1 π H1 (forI J (fun d env st => match setT t d env with
        | none => .bad
        | some env => rb env st) m i envc stc) D, ⟨turns, ρ1, env, st1, Ext.refl _ _, S1, E.mono x1 S.muts, r1, F1⟩, fun i m σc Hc hW => ?_⟩
      obtain ⟨ρc, envc, stc, xc, Sc, Ec, rc, Fc⟩ := hW
      cases m with
      | zero => exact Fc.elim
      | succ m =>
        have hturn := it_ok hJ hI Sc rc i
        unfold forI at Fc
        cases hj : J i stc with
        | none => rw [hj] at Fc; exact Fc.elim
        | some o =>
          rw [hj] at Fc hturn
          cases o with
          | none => exact .inl ⟨hturn, Fc ρc Hc σc xc Sc Ec⟩
          | some d =>
            obtain ⟨hgo, hy⟩ := hturn
            dsimp only at Fc
            refine .inr ⟨hgo, fun σ' H' => ∃ m', m' < m + 1 ∧ ∃ ρc envc stc, Ext ρ1 H1 ρc H' ∧ SR X.K X.mg ρc π H' stc ∧ RE X.K X.mg ρc π H' envc σ' ∧ RDs X.K X.mg ρc π H' ds vs ∧ FinR X.K X.mg W ρ1 π H1 (forI J (fun d env st => match setT t d env with
              | none => .bad
              | some env => rb env st) m' (i + 1) envc stc) D, fun σ' H' hN => hN, fun x H' hyl => ?_⟩
            obtain ⟨xy, Sy, rx⟩ := hy x H' hyl
            cases hset : setT t d envc with
            | none => rw [hset] at Fc; exact Fc.elim
            | some e2 =>
              rw [hset] at Fc
              dsimp only at Fc
              refine ⟨ρc, π, stc, envc, d, Sy, Ec.mono xy Sc.muts, rx, e2, hset, fun σ2 E2 _ => ⟨ρc, π, e2, stc, Sy, E2, ?_⟩⟩
              cases hb2 : rb e2 stc with
              | bad => rw [hb2] at Fc; exact Fc.elim
              | nx e s =>
                rw [hb2] at Fc
                exact fun ρ' H'' σ' x3 S3 E3 => ⟨m, Nat.lt_succ_self m, ρ', e, s, (xc.trans xy).trans x3, S3, E3, (rc.mono xy Sc.muts).mono x3 Sy.muts, Fc⟩
              | ct e s =>
                rw [hb2] at Fc
                exact fun ρ' H'' σ' x3 S3 E3 => ⟨m, Nat.lt_succ_self m, ρ', e, s, (xc.trans xy).trans x3, S3, E3, (rc.mono xy Sc.muts).mono x3 Sy.muts, Fc⟩
              | bk e s =>
                rw [hb2] at Fc
                exact fun ρ' H'' σ' x3 S3 E3 => Fc ρ' H'' σ' ((xc.trans xy).trans x3) S3 E3
              | rt d2 s =>
                rw [hb2] at Fc
                exact fun ρ' H'' v x3 S3 r3 => Fc ρ' H'' v ((xc.trans xy).trans x3) S3 r3
              | ex c v e s =>
                rw [hb2] at Fc
                exact fun ρ' H'' σ' Cc da u x3 S3 E3 => Fc ρ' H'' σ' Cc da u ((xc.trans xy).trans x3) S3 E3
theorem psm_while {t : Expr} {body : List Stmt} {rt : Env → Sto → Out Bool} {rb : Env → Sto → R} (hp : PassesOwn (model X.prog X.w) X.A X.env X.xe) (ht : PT X t (tMB X W rt)) (hb : PSs X body (tS X W rb)) :
    PS X (.While t body [] pos) (tS X W fun env st => whileI rt rb turns env st) := by
  refine (ps_while hp ht hb).imp fun D σ H ⟨ρ, π, env, st, S, E, F⟩ => ?_
  dsimp only at F
  refine ⟨fun m σc Hc => ∃ ρc envc stc, SR X.K X.mg ρc π Hc stc ∧ RE X.K X.mg ρc π Hc envc σc ∧ FinR X.K X.mg W ρc π Hc (whileI rt rb m envc stc) D, ⟨turns, ρ, env, st, S, E, F⟩, fun m σc Hc hW => ?_⟩
  obtain ⟨ρc, envc, stc, Sc, Ec, Fc⟩ := hW
  cases m with
  | zero => exact Fc.elim
  | succ m =>
    unfold whileI at Fc
    refine ⟨ρc, π, envc, stc, Sc, Ec, ?_⟩
    refine FinR.bnd Fc Sc Ec fun b st1 ρ1 H1 v _ x1 S1 r F1 => ?_
    cases r
    cases b with
    | false => exact F1 ρ1 H1 σc (Ext.refl _ _) S1 (Ec.mono x1 Sc.muts)
    | true =>
      refine ⟨fun σ' H' => ∃ m', m' < m + 1 ∧ ∃ ρc envc stc, SR X.K X.mg ρc π H' stc ∧ RE X.K X.mg ρc π H' envc σ' ∧ FinR X.K X.mg W ρc π H' (whileI rt rb m' envc stc) D, fun σ' H' hN => hN, ?_⟩
      refine ⟨ρ1, π, envc, st1, S1, Ec.mono x1 Sc.muts, ?_⟩
      simp only [if_true] at F1
      cases hb2 : rb envc st1 with
      | bad => rw [hb2] at F1; exact F1.elim
      | nx e s =>
        rw [hb2] at F1
        exact fun ρ' H'' σ' x3 S3 E3 => ⟨m, Nat.lt_succ_self m, ρ', e, s, S3, E3, FinR.ext F1 x3⟩
      | ct e s =>
        rw [hb2] at F1
        exact fun ρ' H'' σ' x3 S3 E3 => ⟨m, Nat.lt_succ_self m, ρ', e, s, S3, E3, FinR.ext F1 x3⟩
      | bk e s =>
        rw [hb2] at F1
        exact F1
      | rt d2 s =>
        rw [hb2] at F1
        exact F1
      | ex c v e s =>
        rw [hb2] at F1
        exact F1
end

/-! ### stores -/
/-- a store's reading -/
def tT (X : Cx) (W : WX) (g : D → Env → Sto → Out Env) : TG := fun v σ H Q => ∃ ρ π env st d, SR X.K X.mg ρ π H st ∧ RE X.K X.mg ρ π H env σ ∧ RD X.K X.mg ρ π H d v ∧ ∃ env' st', g d env st = .ok env' st' ∧
  ∀ ρ' H' σ', Ext ρ H ρ' H' → SR X.K X.mg ρ' π H' st' → RE X.K X.mg ρ' π H' env' σ' → Q σ' H'
def tTs (X : Cx) (W : WX) (g : List D → Env → Sto → Out Env) : TGs := fun vs σ H Q => ∃ ρ π env st ds, SR X.K X.mg ρ π H st ∧ RE X.K X.mg ρ π H env σ ∧ RDs X.K X.mg ρ π H ds vs ∧ ∃ env' st', g ds env st = .ok env' st' ∧
  ∀ ρ' H' σ', Ext ρ H ρ' H' → SR X.K X.mg ρ' π H' st' → RE X.K X.mg ρ' π H' env' σ' → Q σ' H'
theorem bnd_eq {α β : Type} {o : Out α} {f : α → Sto → Out β} {b : β} {s : Sto} (h : o.bnd f = .ok b s) : ∃ a s1, o = .ok a s1 ∧ f a s1 = .ok b s := by
  cases o with
  | ok a s1 => exact ⟨a, s1, rfl, h⟩
  | ex c v s1 => cases h
  | bad => cases h
theorem noEx_eq {α : Type} {o : Out α} {a : α} {s : Sto} (h : noEx o = .ok a s) : o = .ok a s := by
  cases o with
  | ok a' s' => exact h
  | ex c v s1 => cases h
  | bad => cases h
theorem opt_eq {α : Type} {o : Option α} {s0 : Sto} {a : α} {s : Sto} (h : opt o s0 = .ok a s) : o = some a ∧ s = s0 := by
  cases o with
  | none => cases h
  | some b => cases h; exact ⟨rfl, rfl⟩
section
variable {X : Cx} {W : WX} {C : Cal} {x : Str} {i : Nat} {p : Pos}
theorem pst_name (hN : X.N.Nodup) (hi : X.N[i]? = some x) (hx : Loc X.env.scope x) (hf : X.fn x = true ∨ X.env.scope.names.lookup x = some .local) : PG X (.Name x p) (tT X W (setG C (.n i))) := by
  refine (pg_name hN hi hx hf).imp fun v σ H Q ⟨ρ, π, env, st, d, S, E, r, env', st', e, q⟩ => ?_
  cases e
  exact q ρ H _ (Ext.refl _ _) S (E.set i r)
theorem pst_nil : PGs X [] (tTs X W (setGs C [])) := by
  refine pgs_nil.imp fun vs σ H Q ⟨ρ, π, env, st, d, S, E, r, env', st', e, q⟩ => ?_
  cases r with
  | nil =>
    cases e
    exact ⟨rfl, q ρ H σ (Ext.refl _ _) S E⟩
  | cons h t => cases e
theorem pst_cons {e : Expr} {es : List Expr} {t : Tg} {ts : List Tg} (h1 : PG X e (tT X W (setG C t))) (h2 : PGs X es (tTs X W (setGs C ts))) (hs : ∀ env : PySem.Env, (assignEach (e :: es) env).map (·.2) = assign e env :: (assignEach es env).map (·.2)) : PGs X (e :: es) (tTs X W (setGs C (t :: ts))) := by
  refine (pgs_cons h1 h2 (hs _)).imp fun vs σ H Q ⟨ρ, π, env, st, ds, S, E, r, env', st', e, q⟩ => ?_
  cases r with
  | nil => cases e
  | cons h r =>
    have e' : ((setG C t _ env st).bnd fun env st => setGs C ts _ env st) = .ok env' st' := e
    obtain ⟨env1, st1, e1, e2⟩ := bnd_eq e'
    exact ⟨_, _, rfl, ρ, π, env, st, _, S, E, h, env1, st1, e1, fun ρ1 H1 σ1 x1 S1 E1 => ⟨ρ1, π, env1, st1, _, S1, E1, r.mono x1 S.muts, env', st', e2, fun ρ2 H2 σ2 x2 S2 E2 => q ρ2 H2 σ2 (x1.trans x2) S2 E2⟩⟩
theorem setGs_len {ts : List Tg} : ∀ {ds : List D} {env env' : Env} {st st' : Sto}, setGs C ts ds env st = .ok env' st' → ts.length = ds.length := by
  induction ts with
  | nil =>
    intro ds env env' st st' e
    cases ds with
    | nil => rfl
    | cons _ _ => cases e
  | cons t ts ih =>
    intro ds env env' st st' e
    cases ds with
    | nil => cases e
    | cons d ds =>
      have e' : ((setG C t d env st).bnd fun env st => setGs C ts ds env st) = .ok env' st' := e
      obtain ⟨env1, st1, e1, e2⟩ := bnd_eq e'
      rw [List.length_cons, List.length_cons, ih e2]
theorem pst_tup {es : List Expr} {k : Nat} {ts : List Tg} (hc : X.calm = true) (h : PGs X es (tTs X W (setGs C ts))) (hn : ∀ env : PySem.Env, (assignEach es env).length = ts.length) (hst : ∀ env : PySem.Env, (assignEach es env).findIdx? (·.1) = none) : PG X (.Tuple es k p) (tT X W (setG C (.t ts))) := by
  refine (pg_tup hc h (hn _) (hst _)).imp fun v σ H Q ⟨ρ, π, env, st, d, S, E, r, env', st', e, q⟩ => ?_
  cases r with
  | tup ht r =>
    have e' : setGs C ts _ env st = .ok env' st' := e
    exact ⟨_, _, rfl, ht, by rw [← r.length, setGs_len e'], ρ, π, env, st, _, S, E, r, env', st', e', q⟩
  | _ => cases e
/-- a store to a place of a list -/
theorem set_ok {ρ π : List Addr} {H : Hp} {st st' : Sto} {o i d : D} {vo vi v : V} {Q : Hp → Prop} (S : SR X.K X.mg ρ π H st) (ro : RD X.K X.mg ρ π H o vo) (ri : RD X.K X.mg ρ π H i vi) (r : RD X.K X.mg ρ π H d v) (e : setItem o i d st = some st')
    (q : ∀ H', Ext ρ H ρ H' → SR X.K X.mg ρ π H' st' → Q H') : rSetL vo vi v H Q := by
  unfold setItem at e
  split at e
  · cases ro with
    | loc hn =>
      cases ri
      split at e
      · rename_i xs hx
        rw [Option.map_eq_some_iff] at e
        obtain ⟨j, e1, rfl⟩ := e
        obtain ⟨vs, h1, r1⟩ := S.atL hn hx
        exact ⟨_, vs, _, j, rfl, rfl, h1, by rw [← r1.length]; exact e1, q _ (Ext.set hn) (S.set hn (r1.set j r))⟩
      · cases e
  · cases e
theorem pst_sub {o i : Expr} {mo mi : E} {pos : Pos} (ho : PE X o (tM X W0 (evE C mo))) (hi : PE X i (tM X W0 (evE C mi))) (ha : ∀ v, assign (.Subscript o i pos) X.env v = (do
      let ov ← holding [v] (eval o X.env)
      let iv ← holding [v, ov] (eval i X.env)
      standAt pos
      holding [v, ov, iv] (PySem.setItem ov iv v)
      release [v, ov, iv] [])) : PG X (.Subscript o i pos) (tT X W (setG C (.s mo mi))) := by
  refine (pg_sub ho hi set_list ha).imp fun v σ H Q ⟨ρ, π, env, st, d, S, E, r, env', st', e, q⟩ => ?_
  have e' : ((noEx (evE C mo env st)).bnd fun x st => (noEx (evE C mi env st)).bnd fun y st => (opt (setItem x y d st) st).bnd fun st' _ => .ok env st') = .ok env' st' := e
  obtain ⟨xo, st1, e1, e2⟩ := bnd_eq e'
  obtain ⟨xi, st2, e3, e4⟩ := bnd_eq e2
  obtain ⟨st3, st4, e5, e6⟩ := bnd_eq e4
  have e1 := noEx_eq e1
  have e3 := noEx_eq e3
  obtain ⟨e5, e7⟩ := opt_eq e5
  cases e6
  refine ⟨ρ, π, env, st, S, E, ?_⟩
  rw [e1]
  intro ρ1 H1 vo x1 S1 ro
  refine ⟨ρ1, π, env, st1, S1, E.mono x1 S.muts, ?_⟩
  rw [e3]
  intro ρ2 H2 vi x2 S2 ri
  refine set_ok S2 (ro.mono x2 S1.muts) ri ((r.mono x1 S.muts).mono x2 S1.muts) e5 fun H' x3 S3 => ?_
  exact q ρ2 H' σ ((x1.trans x2).trans x3) S3 (((E.mono x1 S.muts).mono x2 S1.muts).mono x3 S2.muts)
/-- target = value -/
theorem psm_asg {tg e : Expr} {t : Tg} {re : Env → Sto → Out D} {pos : Pos} (he : PE X e (tM X W re)) (hg : PG X tg (tT X W (setG C t))) (hc : isComp e = false) (hw : swappedStores [tg] e X.env = pure none) (h1 : (assignEach [tg] X.env).map (·.2) = [assign tg X.env]) :
    PS X (.Assign [tg] e pos) (tS X W fun env st => (re env st).toR env fun d st => (noEx (setG C t d env st)).toR env fun env st => .nx env st) := by
  refine (ps_asg he hg (swaps_none hc) hw h1).imp fun D σ H ⟨ρ, π, env, st, S, E, F⟩ => ⟨ρ, π, env, st, S, E, F.bnd S E fun d st1 ρ1 H1 v _ x S1 r F1 => ?_⟩
  cases hg2 : noEx (setG C t d env st1) with
  | bad => rw [hg2] at F1; exact F1.elim
  | ex c u s =>
    exfalso
    cases h2 : setG C t d env st1 <;> rw [h2] at hg2 <;> cases hg2
  | ok env' st' =>
    rw [hg2] at F1
    exact ⟨ρ1, π, env, st1, d, S1, E.mono x S.muts, r, env', st', noEx_eq hg2, F1⟩
/-- a name = a comprehension -/
theorem psm_lc {elt tg iter : Expr} {ifs : List Expr} {scope : Scope} {own : List (Str × Nat)} {pos spos py : Pos} {y : Str} {i : Nat} {t : TN} {k : IK} {rs : Env → Sto → Out (List D)} {rt : Env → Sto → Out Bool} {re : Env → Sto → Out D} {al : Bool}
    (hc : X.calm = true) (hN : X.N.Nodup) (hy : X.N[i]? = some y) (hyl : X.env.scope.names.lookup y = some .local) (hk : X.env.scope.kind = .function) (hl : (py.line == pos.line) = true) (hf : (scope.names.any fun (n, k) => n == y && (k == .local || k == .cell)) = false)
    (hll : True) (hi : PI X tg iter (tI X W k rs)) (ok : BlkOk X.N X.env.scope scope own) (hs : ∀ x, foldedSetIterable iter X.env x = pure x)
    (hsl : ∀ i ∈ slotsT t, i ∈ own.map (·.2))
    (hg : ∀ (s : Shared) (H : Hp) (C : Addr) (cl : List (Str × Addr)) (fp : List Addr), PG (X.blk s H scope (compEnvC scope cl C X.env) fp) tg (tG X t))
    (ht : ∀ (s : Shared) (H : Hp) (C : Addr) (cl : List (Str × Addr)) (fp : List Addr), PTs (X.blk s H scope (compEnvC scope cl C X.env) fp) ifs (tMB X W0 rt))
    (he : ∀ (s : Shared) (H : Hp) (C : Addr) (cl : List (Str × Addr)) (fp : List Addr), PE (X.blk s H scope (compEnvC scope cl C X.env) fp) elt (tM X W0 re)) :
    PS X (.Assign [.Name y py] (.ListComp elt [⟨tg, iter, ifs, 0⟩] scope pos) spos) (tS X W fun env st => ((rs env st).bnd fun ds st => match itOf k ds st with
    | none => .bad
    | some J => compEnd al (compI J (compT t (wipeE env (own.map (·.2))) rt re) turns 0 [] st)).toR env fun d st => (noEx (setG C (.n i) d env st)).toR env fun env st => .nx env st) := by
  refine (ps_setLc hc hN hy hyl (sw_true hk hyl hl hf) hi ok hg ht he hs).imp fun D σ H ⟨ρ, π, env, st, S, E, F⟩ => ?_
  refine lc_word (al := al) hsl ⟨ρ, π, env, st, S, E, F.bnd S E fun d st1 ρ1 H1 v _ x S1 r F1 => ?_⟩
  exact F1 ρ1 H1 _ (Ext.refl _ _) S1 ((E.mono x S.muts).set i r)
/-- two names = two values -/
theorem psm_par {x y : Str} {i j : Nat} {a b : Expr} {px py pt pos : Pos} {kt k2 : Nat} {pt2 : Pos} {rs : Env → Sto → Out (List D)} (hc : X.calm = true) (hN : X.N.Nodup) (hi : X.N[i]? = some x) (hj : X.N[j]? = some y) (hij : i ≠ j)
    (hx : X.env.scope.names.lookup x = some .local) (hy : X.env.scope.names.lookup y = some .local) (ha : PA X [a, b] (tMs X W rs))
    (hw : swappedStores [.Tuple [.Name x px, .Name y py] kt pt] (.Tuple [a, b] k2 pt2) X.env = pure (some [x, y])) :
    PS X (.Assign [.Tuple [.Name x px, .Name y py] kt pt] (.Tuple [a, b] k2 pt2) pos) (tS X W fun env st => (rs env st).toR env fun ds st => match setMany [i, j] ds env with
    | some env => .nx env st
    | none => .bad) := by
  refine (ps_par hc hN hi hj hij hx hy ha hw).imp fun D σ H ⟨ρ, π, env, st, S, E, F⟩ => ⟨ρ, π, env, st, S, E, F.bnd S E fun ds st1 ρ1 H1 vs _ x S1 r F1 => ?_⟩
  cases r with
  | nil => exact F1.elim
  | cons h1 t1 =>
    cases t1 with
    | nil => exact F1.elim
    | cons h2 t2 =>
      cases t2 with
      | cons _ _ => exact F1.elim
      | nil => exact ⟨_, _, rfl, F1 ρ1 H1 _ (Ext.refl _ _) S1 (((E.mono x S.muts).set i h1).set j h2)⟩
/-- .. that are not both plain locals: by way of the pair -/
theorem psm_parC {x y : Str} {i j : Nat} {a b : Expr} {px py pt pos : Pos} {kt k2 : Nat} {pt2 : Pos} {rs : Env → Sto → Out (List D)} (hc : X.calm = true) (hN : X.N.Nodup) (hi : X.N[i]? = some x) (hj : X.N[j]? = some y)
    (hx : Loc X.env.scope x) (hy : Loc X.env.scope y) (fx : X.fn x = true ∨ X.env.scope.names.lookup x = some .local) (fy : X.fn y = true ∨ X.env.scope.names.lookup y = some .local) (ha : PA X [a, b] (tMs X W rs))
    (hw : swappedStores [.Tuple [.Name x px, .Name y py] kt pt] (.Tuple [a, b] k2 pt2) X.env = pure none) :
    PS X (.Assign [.Tuple [.Name x px, .Name y py] kt pt] (.Tuple [a, b] k2 pt2) pos) (tS X W fun env st => (rs env st).toR env fun ds st => match setMany [i, j] ds env with
    | some env => .nx env st
    | none => .bad) := by
  refine (ps_asg (pe_tup ha) (pg_tup hc (pgs_cons (pg_name hN hi hx fx) (pgs_cons (pg_name hN hj hy fy) pgs_nil))) rfl hw rfl).imp fun D σ H ⟨ρ, π, env, st, S, E, F⟩ => ⟨ρ, π, env, st, S, E, F.bnd S E fun ds st1 ρ1 H1 vs _ x S1 r F1 => ?_⟩
  cases r with
  | nil => exact F1.elim
  | cons h1 t1 =>
    cases t1 with
    | nil => exact F1.elim
    | cons h2 t2 =>
      cases t2 with
      | cons _ _ => exact F1.elim
      | nil =>
        refine ⟨by show 2 ≤ sizeLine; decide, tupRes (W := fun _ _ _ => True) (Q := fun v H => gTup X.K 2 (gCons (gName i) (gCons (gName j) gNil)) v σ H D.nx) S1 (.cons h1 (.cons h2 .nil)) fun ρ2 H2 v x2 S2 r2 => ?_⟩
        cases r2 with
        | tup ht rr =>
          cases rr with
          | cons k1 t1 =>
            cases t1 with
            | cons k2 t2 =>
              cases t2
              exact ⟨_, _, rfl, ht, rfl, _, _, rfl, _, _, rfl, rfl, F1 ρ2 H2 _ x2 S2 ((((E.mono x S.muts).mono x2 S1.muts).set i k1).set j k2)⟩
end
end Ev
/-! The translation of statements is right. -/
namespace Ev
open PySem PySem.Spec PyProof.Rows L2

section
variable {C : Cal} {k n : Nat} {X : Cx} {Z : Zt} {W : WX}
/-- a context in which nothing may be raised -/
theorem Ok.quiet (ok : Ok C k X Z W) : Ok C k X Z W0 := { ok with tk := takes0 }
theorem trG_ok (ok : Ok C k X Z W) : ∀ n : Nat,
    (∀ (t : Expr) (tg : Tg), trG Z n t = some tg → PG X t (tT X W (setG C tg)) ∧ (∀ (es : List Expr) (env : PySem.Env), assignEach (t :: es) env = (false, assign t env) :: assignEach es env)) ∧
    (∀ (ts : List Expr) (tgs : List Tg), trGs Z n ts = some tgs → PGs X ts (tTs X W (setGs C tgs)) ∧ (∀ env : PySem.Env, (assignEach ts env).length = tgs.length) ∧ (∀ env : PySem.Env, (assignEach ts env).findIdx? (·.1) = none)) := by
  have name : ∀ {x : Str} {p : Pos} {tg : Tg}, (Z.slotW x).map Tg.n = some tg → PG X (.Name x p) (tT X W (setG C tg)) := by
    intro x p tg h
    rw [Option.map_eq_some_iff] at h
    obtain ⟨i, hi, rfl⟩ := h
    obtain ⟨h1, h2, h3, h4⟩ := slotW_ok ok hi
    exact pst_name ok.nd h1 h3 h4
  intro n
  induction n with
  | zero =>
    refine ⟨fun t tg h => ?_, fun ts tgs h => ?_⟩
    · cases t <;> simp only [trG] at h <;> try cases h
      exact ⟨name h, fun _ _ => rfl⟩
    · cases ts with
      | nil =>
        simp only [trGs] at h
        cases h
        exact ⟨pst_nil, fun _ => rfl, fun _ => rfl⟩
      | cons _ _ => simp only [trGs] at h; cases h
  | succ n ih =>
    refine ⟨fun t tg h => ?_, fun ts tgs h => ?_⟩
    · cases t <;> simp only [trG] at h <;> try cases h
      · split at h
        · rename_i o i p hp
          rw [Option.bind_eq_some_iff] at h
          obtain ⟨o', h1, h⟩ := h
          rw [Option.bind_eq_some_iff] at h
          obtain ⟨i', h2, h3⟩ := h
          cases h3
          refine ⟨?_, fun _ _ => rfl⟩
          have := pst_sub (W := W) (pos := p) ((snd_all n).e X Z W0 ok.quiet _ _ _ h1).1 ((snd_all n).e X Z W0 ok.quiet _ _ _ h2).1 (fun v => by
            cases i with
            | Slice _ _ _ _ => cases hp
            | _ => rfl)
          exact this
        · cases h
      · exact ⟨name h, fun _ _ => rfl⟩
      · rw [Option.map_eq_some_iff] at h
        obtain ⟨tgs, h1, rfl⟩ := h
        obtain ⟨a, c, d⟩ := ih.2 _ _ h1
        exact ⟨pst_tup ok.calm a c d, fun _ _ => rfl⟩
    · cases ts with
      | nil =>
        simp only [trGs] at h
        cases h
        exact ⟨pst_nil, fun _ => rfl, fun _ => rfl⟩
      | cons t ts =>
        simp only [trGs, Option.bind_eq_some_iff] at h
        obtain ⟨tn, h1, tns', h2, h3⟩ := h
        cases h3
        obtain ⟨a1, c1⟩ := ih.1 _ _ h1
        obtain ⟨a2, c2, d2⟩ := ih.2 _ _ h2
        exact ⟨pst_cons a1 a2 (fun env => by rw [c1]; rfl), fun env => by rw [c1, List.length_cons, List.length_cons, c2], fun env => by rw [c1, List.findIdx?_cons]; simp [d2]⟩
theorem stores_name {x : Str} {p : Pos} {e : Expr} {env : PySem.Env} : swappedStores [.Name x p] e env = pure none := by
  cases e <;> rfl
theorem stores_none {t e : Expr} {env : PySem.Env} (h : isTupE e = false) : swappedStores [t] e env = pure none := by
  cases e <;> first | (cases t <;> rfl) | cases h
theorem parName_ok (ok : Ok C k X Z W) {x y : Str} {p : Pos} {i : Nat} (h : parName Z (.Name x p) = some (y, i)) : y = x ∧ X.N[i]? = some x ∧ X.env.scope.names.lookup x = some .local := by
  unfold parName at h
  dsimp only at h
  split at h
  · rename_i hl
    rw [Option.map_eq_some_iff] at h
    obtain ⟨j, h1, h2⟩ := h
    cases h2
    exact ⟨rfl, (slotW_ok ok h1).1, by rw [ok.sc]; exact hl⟩
  · cases h
def isStarE : Expr → Bool
  | .Starred .. => true
  | _ => false
theorem star_no {a : Expr} (ha : ∀ (es : List Expr) (env : PySem.Env), starEach (a :: es) env = (false, eval a env) :: starEach es env) (env : PySem.Env) : isStarE a = false := by
  cases a <;> first | rfl | (have := ha [] env; cases this)
def locOn (env : PySem.Env) (line : Nat) : Expr → Option Str
  | .Name id pos => if env.kindOf id == some .local && pos.line == line then some id else none
  | _ => none
theorem swapped_pair {x y : Str} {p q pt pt2 : Pos} {kt k2 : Nat} {a b : Expr} {env : PySem.Env} (hk : env.scope.kind = .function) (hx : env.scope.names.lookup x = some .local) (hy : env.scope.names.lookup y = some .local) (hxy : (x != y) = true) (hl : (p.line == q.line) = true)
    (h1 : [a, b].all (foldedForSure 8) = false) (h2 : [a, b].all (constantsAlone 8) = false) (ha : ∀ (es : List Expr) (env : PySem.Env), starEach (a :: es) env = (false, eval a env) :: starEach es env) (hb : ∀ (es : List Expr) (env : PySem.Env), starEach (b :: es) env = (false, eval b env) :: starEach es env) :
    swappedStores [.Tuple [.Name x p, .Name y q] kt pt] (.Tuple [a, b] k2 pt2) env = pure (some [x, y]) := by
  have sa := star_no ha env
  have sb := star_no hb env
  have hbk : env.blockKind = .function := by
    unfold Env.blockKind
    rw [hk]
    rfl
  have hvs : [a, b].any isStarE = false := by
    show (isStarE a || (isStarE b || false)) = false
    rw [sa, sb]
    rfl
  have hkx : (env.kindOf x == some NameKind.local) = true := by
    show (env.scope.names.lookup x == some NameKind.local) = true
    rw [hx]
    rfl
  have hky : (env.kindOf y == some NameKind.local) = true := by
    show (env.scope.names.lookup y == some NameKind.local) = true
    rw [hy]
    rfl
  have hll : (q.line == p.line) = true := by
    rw [beq_iff_eq] at hl ⊢
    exact hl.symm
  have hed : ([x, y] : List Str).eraseDups.length = 2 := by
    have hyx : (y == x) = false := by
      rw [bne_iff_ne] at hxy
      exact beq_eq_false_iff_ne.mpr fun z => hxy z.symm
    simp [List.eraseDups_cons, hyx]
  have hn : [Expr.Name x p, Expr.Name y q].filterMap (locOn env p.line) = [x, y] := by
    rw [List.filterMap_cons, List.filterMap_cons]
    unfold locOn
    dsimp only
    rw [hkx, hky, hll, show (p.line == p.line) = true from beq_self_eq_true _]
    rfl
  show (if (env.blockKind != ScopeKind.function) = true then pure none else if [a, b].any isStarE = true then pure none else
    if (([Expr.Name x p, Expr.Name y q].filterMap (locOn env p.line)).length != 2 || ([Expr.Name x p, Expr.Name y q].filterMap (locOn env p.line)).eraseDups.length != ([Expr.Name x p, Expr.Name y q].filterMap (locOn env p.line)).length) = true then pure none else
    if [a, b].all (foldedForSure 8) = true then pure none else if [a, b].all (constantsAlone 8) = true then (do unsupported "assign.tuple-of-constant-expressions:order-of-the-stores"; pure (some ([Expr.Name x p, Expr.Name y q].filterMap (locOn env p.line)))) else pure (some ([Expr.Name x p, Expr.Name y q].filterMap (locOn env p.line)))) = _
  rw [if_neg (by rw [hbk]; decide), if_neg (by rw [hvs]; decide)]
  rw [hn]
  rw [if_neg (by rw [hed]; simp), h1, h2]
  rfl
theorem swapped_cell {x y : Str} {p q pt pt2 : Pos} {kt k2 : Nat} {a b : Expr} {env : PySem.Env} (hk : env.scope.kind = .function) (hxy : env.scope.names.lookup x ≠ some .local ∨ env.scope.names.lookup y ≠ some .local)
    (ha : ∀ (es : List Expr) (env : PySem.Env), starEach (a :: es) env = (false, eval a env) :: starEach es env) (hb : ∀ (es : List Expr) (env : PySem.Env), starEach (b :: es) env = (false, eval b env) :: starEach es env) :
    swappedStores [.Tuple [.Name x p, .Name y q] kt pt] (.Tuple [a, b] k2 pt2) env = pure none := by
  have sa := star_no ha env
  have sb := star_no hb env
  have hbk : env.blockKind = .function := by
    unfold Env.blockKind
    rw [hk]
    rfl
  have hvs : [a, b].any isStarE = false := by
    show (isStarE a || (isStarE b || false)) = false
    rw [sa, sb]
    rfl
  have no : ∀ {z : Str}, env.scope.names.lookup z ≠ some .local → (env.kindOf z == some NameKind.local) = false := by
    intro z h
    show (env.scope.names.lookup z == some NameKind.local) = false
    cases hl : env.scope.names.lookup z with
    | none => rfl
    | some kd => cases kd <;> first | rfl | exact absurd hl h
  have hn : (([Expr.Name x p, Expr.Name y q].filterMap (locOn env p.line)).length != 2) = true := by
    rw [List.filterMap_cons, List.filterMap_cons, List.filterMap_nil]
    unfold locOn
    dsimp only
    rcases hxy with h | h
    · rw [no h, Bool.false_and]
      cases (env.kindOf y == some NameKind.local && q.line == p.line) <;> rfl
    · rw [no h, Bool.false_and]
      cases (env.kindOf x == some NameKind.local && p.line == p.line) <;> rfl
  show (if (env.blockKind != ScopeKind.function) = true then pure none else if [a, b].any isStarE = true then pure none else
    if (([Expr.Name x p, Expr.Name y q].filterMap (locOn env p.line)).length != 2 || ([Expr.Name x p, Expr.Name y q].filterMap (locOn env p.line)).eraseDups.length != ([Expr.Name x p, Expr.Name y q].filterMap (locOn env p.line)).length) = true then pure none else
    if [a, b].all (foldedForSure 8) = true then pure none else if [a, b].all (constantsAlone 8) = true then (do unsupported "assign.tuple-of-constant-expressions:order-of-the-stores"; pure (some ([Expr.Name x p, Expr.Name y q].filterMap (locOn env p.line)))) else pure (some ([Expr.Name x p, Expr.Name y q].filterMap (locOn env p.line)))) = _
  rw [if_neg (by rw [hbk]; decide), if_neg (by rw [hvs]; decide), if_pos (by rw [hn]; rfl)]
end
end Ev
/-! The translation of statements is right: all of them. -/
namespace Ev
open PySem PySem.Spec PyProof.Rows L2

section
variable {C : Cal} {k n : Nat} {X : Cx} {Z : Zt} {W : WX}
theorem asg_one (ok : Ok C k X Z W) {t e : Expr} {pos : Pos} {m : S} (h : (trG Z n t).bind (fun t => (trE Z n true e).bind fun e => some (S.asg t e)) = some m) (hc : isComp e = false) (hw : swappedStores [t] e X.env = pure none) : PS X (.Assign [t] e pos) (tS X W (evS C m)) := by
  rw [Option.bind_eq_some_iff] at h
  obtain ⟨tg, h1, h⟩ := h
  rw [Option.bind_eq_some_iff] at h
  obtain ⟨e', h2, h⟩ := h
  cases h
  obtain ⟨p1, p2⟩ := (trG_ok ok n).1 _ _ h1
  exact psm_asg ((snd_all n).e X Z W ok _ _ _ h2).1 p1 hc hw (by rw [p2]; rfl)
theorem asg_lc (ok : Ok C k X Z W) {x : Str} {p : Pos} {elt : Expr} {gs : List Comprehension} {sc : Scope} {cp pos : Pos} {m : S} (hl : Z.sc.names.lookup x = some .local) (hcl : (p.line == cp.line) = true) (hf : compFree x (.ListComp elt gs sc cp) = true)
    (h : (trG Z n (.Name x p)).bind (fun t => (trE Z n true (.ListComp elt gs sc cp)).bind fun e => some (S.asg t e)) = some m) : PS X (.Assign [.Name x p] (.ListComp elt gs sc cp) pos) (tS X W (evS C m)) := by
  rw [Option.bind_eq_some_iff] at h
  obtain ⟨tg, h1, h⟩ := h
  rw [Option.bind_eq_some_iff] at h
  obtain ⟨e', h2, h⟩ := h
  cases h
  have hsl : ∃ i, Z.slotW x = some i ∧ tg = .n i := by
    cases n <;> (simp only [trG] at h1; rw [Option.map_eq_some_iff] at h1; obtain ⟨i, hi, rfl⟩ := h1; exact ⟨i, hi, rfl⟩)
  obtain ⟨i, hi, rfl⟩ := hsl
  obtain ⟨s1, s2, s3, s4⟩ := slotW_ok ok hi
  cases n with
  | zero => rw [trE] at h2; cases h2
  | succ n =>
  have ih := @snd_all C k n
  unfold trE at h2
  dsimp only at h2
  split at h2
  · rename_i g
    obtain ⟨t, it, ifs, asy⟩ := g
    split at h2
    · rename_i hc
      obtain ⟨ha, hb⟩ := hc
      dsimp only at ha h2
      subst ha
      rw [Option.bind_eq_some_iff] at h2
      obtain ⟨t', g1, h⟩ := h2
      rw [Option.bind_eq_some_iff] at h
      obtain ⟨⟨kd, src⟩, g2, h⟩ := h
      rw [Option.bind_eq_some_iff] at h
      obtain ⟨ifs', g3, h⟩ := h
      split at h
      · rename_i hll
        rw [Option.bind_eq_some_iff] at h
        obtain ⟨elt', g4, h⟩ := h
        cases h
        obtain ⟨i1, i2⟩ := ih.i X Z W ok t it kd src g2
        have hbk : BlkOk X.N X.env.scope sc (ownOf Z.N sc.names) := by
          rw [ok.N, ok.sc]
          exact blkOk_by hb
        have okb := fun (s : Shared) (H : Hp) (a : Addr) (cl : List (Str × Addr)) (fp : List Addr) => ok.blk hb s H a cl fp
        have hsl : ∀ i ∈ slotsT t', i ∈ (ownOf Z.N sc.names).map (·.2) := by
          intro i hi
          obtain ⟨x, hx, hix⟩ := ((trTN_ok (okb X.s_0 X.H_0 0 [] []) n).1 _ _ g1).2.1 i hi
          obtain ⟨j, hj⟩ := own_fst hx
          have := (own_mem hj).1
          rw [hix] at this
          cases this
          exact List.mem_map.mpr ⟨_, hj, rfl⟩
        have hts : ∀ (s : Shared) (H : Hp) (a : Addr) (cl : List (Str × Addr)) (fp : List Addr), PTs (X.blk s H sc (compEnvC sc cl a X.env) fp) ifs (tMB X W0 (evTs C ifs')) := by
          intro s H a cl fp
          have each := ih.es _ _ W0 (okb s H a cl fp) _ _ g3
          cases each with
          | nil => exact ptsm_nil
          | cons hp hb hs ht =>
            cases ht with
            | cons _ _ _ _ => exact absurd hll (by simp)
            | nil =>
              rename_i e1 m1
              have e : evTs C [m1] = tst (evE C m1) := by
                funext env st
                show ((evE C m1 env st).bnd fun x st => (opt (truth st x) st).bnd fun k st => if k then evTs C [] env st else .ok false st) = (evE C m1 env st).bnd fun x st => opt (truth st x) st
                congr 1
                funext x st1
                cases truth st1 x with
                | none => rfl
                | some k => cases k <;> rfl
              rw [e]
              exact ptsm_one hb
        have hf' : (sc.names.any fun (n, k) => n == x && (k == .local || k == .cell)) = false := by
          unfold compFree at hf
          dsimp only at hf
          simpa using hf
        exact psm_lc (al := true) ok.calm ok.nd s1 (by rw [ok.sc]; exact hl) (by rw [ok.sc]; exact ok.kd) hcl hf' trivial i1 hbk i2 hsl (fun s H a cl fp => ((trTN_ok (okb s H a cl fp) n).1 _ _ g1).1) hts fun s H a cl fp => (ih.e _ _ W0 (okb s H a cl fp) _ _ _ g4).1
      · cases h
    · cases h2
  · cases h2
/-- what a statement's soundness says -/
structure SndS (C : Cal) (k n : Nat) : Prop where
  s : ∀ (X : Cx) (Z : Zt) (W : WX), Ok C k X Z W → ∀ (s : Stmt) (m : S), trS Z n s = some m → PS X s (tS X W (evS C m))
  ss : ∀ (X : Cx) (Z : Zt) (W : WX), Ok C k X Z W → ∀ (ss : List Stmt) (ms : List S), trSs Z n ss = some ms → PSs X ss (tS X W (evSs C ms))
theorem sndS : ∀ n : Nat, SndS C k n := by
  intro n
  induction n with
  | zero =>
    refine ⟨fun X Z W ok s m h => ?_, fun X Z W ok ss ms h => ?_⟩
    · rw [trS] at h; cases h
    · cases ss with
      | nil => rw [trSs] at h; cases h; exact psm_next
      | cons _ _ => rw [trSs] at h; cases h
  | succ n ih =>
    have hE := @snd_all C k n
    refine ⟨fun X Z W ok s m h => ?_, fun X Z W ok ss ms h => ?_⟩
    · unfold trS at h
      split at h
      · rename_i x p y q kt pt a b k2 pt2 pos
        split at h
        · rw [Option.bind_eq_some_iff] at h
          obtain ⟨⟨x', i⟩, h1, h⟩ := h
          rw [Option.bind_eq_some_iff] at h
          obtain ⟨⟨y', j⟩, h2, h⟩ := h
          dsimp only at h
          split at h
          · rename_i hc
            rw [Option.bind_eq_some_iff] at h
            obtain ⟨a', h3, h⟩ := h
            rw [Option.bind_eq_some_iff] at h
            obtain ⟨b', h4, h⟩ := h
            cases h
            obtain ⟨rfl, x1, x2⟩ := parName_ok ok h1
            obtain ⟨rfl, y1, y2⟩ := parName_ok ok h2
            simp only [Bool.and_eq_true, Bool.not_eq_true'] at hc
            obtain ⟨⟨⟨⟨c1, c2⟩, c3⟩, c4⟩, c5⟩ := hc
            have pa := hE.e X Z W ok _ _ _ h3
            have pb := hE.e X Z W ok _ _ _ h4
            have each : EachP X W C [a, b] [a', b'] := .cons pa.1 pa.2 (tr_star h3) (.cons pb.1 pb.2 (tr_star h4) .nil)
            exact psm_par ok.calm ok.nd x1 y1 (by simpa using c2) x2 y2 each.pa (swapped_pair (by rw [ok.sc]; exact ok.kd) x2 y2 c1 c3 c4 c5 (tr_star h3) (tr_star h4))
          · cases h
        · rename_i hnl
          rw [Option.bind_eq_some_iff] at h
          obtain ⟨i, h1, h⟩ := h
          rw [Option.bind_eq_some_iff] at h
          obtain ⟨j, h2, h⟩ := h
          rw [Option.bind_eq_some_iff] at h
          obtain ⟨a', h3, h⟩ := h
          rw [Option.bind_eq_some_iff] at h
          obtain ⟨b', h4, h⟩ := h
          cases h
          obtain ⟨x1, _, x2, x3⟩ := slotW_ok ok h1
          obtain ⟨y1, _, y2, y3⟩ := slotW_ok ok h2
          have pa := hE.e X Z W ok _ _ _ h3
          have pb := hE.e X Z W ok _ _ _ h4
          have each : EachP X W C [a, b] [a', b'] := .cons pa.1 pa.2 (tr_star h3) (.cons pb.1 pb.2 (tr_star h4) .nil)
          exact psm_parC ok.calm ok.nd x1 y1 x2 y2 x3 y3 each.pa (swapped_cell (by rw [ok.sc]; exact ok.kd) (by rw [ok.sc]; exact Classical.not_and_iff_not_or_not.mp hnl) (tr_star h3) (tr_star h4))
      · rename_i x p e pos
        split at h
        · rename_i hc
          split at h
          · rename_i hcc
            simp only [Bool.and_eq_true, decide_eq_true_eq] at hcc
            obtain ⟨⟨c1, c2⟩, c3⟩ := hcc
            cases e with
            | ListComp elt gs sc cp =>
              exact asg_lc ok c1 c2 c3 h
            | _ => cases c2
          · cases h
        · rename_i hc
          exact asg_one ok h (by simpa using hc) stores_name
      · rename_i t e pos hn1 hn2
        split at h
        · cases h
        · rename_i hc
          rw [Bool.or_eq_true] at hc
          exact asg_one ok h (by simpa using fun z => hc (.inl z)) (stores_none (by simpa using fun z => hc (.inr z)))
      · cases h
        exact psm_doc
      · split at h
        · cases h
        · rename_i hc
          rw [Option.map_eq_some_iff] at h
          obtain ⟨e', h1, rfl⟩ := h
          exact psm_expr (by simpa using hc) (hE.e X Z W ok _ _ _ h1).1
      · rw [Option.bind_eq_some_iff] at h
        obtain ⟨t', h1, h⟩ := h
        rw [Option.bind_eq_some_iff] at h
        obtain ⟨a', h2, h⟩ := h
        rw [Option.bind_eq_some_iff] at h
        obtain ⟨b', h3, h⟩ := h
        cases h
        exact psm_if (hE.e X Z W ok _ _ _ h1).2 (ih.ss X Z W ok _ _ h2) (ih.ss X Z W ok _ _ h3)
      · rw [Option.bind_eq_some_iff] at h
        obtain ⟨t', h1, h⟩ := h
        rw [Option.bind_eq_some_iff] at h
        obtain ⟨⟨kd, src⟩, h2, h⟩ := h
        dsimp only at h
        rw [Option.bind_eq_some_iff] at h
        obtain ⟨b', h3, h⟩ := h
        cases h
        obtain ⟨i1, i2⟩ := hE.i X Z W ok _ _ kd src h2
        exact psm_for ok.own ok.calm i1 ((trTN_ok ok n).1 _ _ h1).1 (ih.ss X Z W ok _ _ h3) i2
      · rw [Option.bind_eq_some_iff] at h
        obtain ⟨t', h1, h⟩ := h
        rw [Option.bind_eq_some_iff] at h
        obtain ⟨b', h3, h⟩ := h
        cases h
        exact psm_while ok.own (hE.e X Z W ok _ _ _ h1).2 (ih.ss X Z W ok _ _ h3)
      · cases h
        exact psm_retN
      · rw [Option.map_eq_some_iff] at h
        obtain ⟨e', h1, rfl⟩ := h
        exact psm_ret (hE.e X Z W ok _ _ _ h1).1
      · cases h
        exact psm_pass
      · cases h
        exact psm_brk
      · cases h
        exact psm_cont
      · cases h
        exact psm_dead
      · cases h
    · cases ss with
      | nil => rw [trSs] at h; cases h; exact psm_next
      | cons s ss =>
        rw [trSs, Option.bind_eq_some_iff] at h
        obtain ⟨s', h1, h⟩ := h
        rw [Option.bind_eq_some_iff] at h
        obtain ⟨ss', h2, h⟩ := h
        cases h
        exact psm_cons (ih.s X Z W ok _ _ h1) (ih.ss X Z W ok _ _ h2)
end
end Ev
/-! Defs: the evaluator's word about each. -/
namespace Ev
open PySem PySem.Spec PyProof.Rows L2

section
variable {P : Program} {w : World} {K : PySem.W.Frag} {mg : Str → Option Value} {base : Heap}
theorem fnG_weak {j k : Nat} {f : Addr} {fd : FuncData} {ps : List Str} {sp : Sp} (F : FnG P w K mg base j f fd ps sp) (h : j ≤ k) : FnG P w K mg base k f fd ps sp :=
  ⟨F.len, fun A outer s H args us vs Q E hr => F.run A outer s H args us vs Q E (hr.mono h)⟩
/-- a def by its body, called where no text is being made -/
theorem fnG_by {k : Nat} {f : Addr} {x : Str} {st : Stmt} {fd : FuncData} {N ps : List Str} {sp : Sp} (F : L2.Fun K x x st f fd) (S : FnScope N ps (defScope st)) (len : ∀ vs H Q E, sp vs H Q E → vs.length = ps.length)
    (hbody : ∀ (cdv : Value) (A : Around) (outer : List PySem.Env) (s : Shared) (H : Hp) (vs : List V) (Q : VK) (E : XK), Room k (A.deeper (envOfC x (defScope st) s.heap.objs.size f cdv)) → A.guards = some [] → sp vs H Q E →
      ∃ t, PSs (cxOf (L2.CX P w) P w K mg base N x (defScope st) f cdv A outer s H E) (defBody st) t ∧ t { nx := fun _ H' => Q .non H', rt := Q } (L2.start N vs) H) : FnG P w K mg base (k + 1) f fd ps sp := by
  obtain ⟨oc, od, kV, doc, pm, an, cdv, ct, osl, rfl, lk, hcd⟩ := F.ex
  refine ⟨len, fun A outer s H args us vs Q E hr hgd e0 hb r hsp => ?_⟩
  have hl := len _ _ _ _ hsp
  have inK : K.In s.heap := e0.mod.kin.keeps fun b o e => (e0.bs b o e).1
  have noLim : s.heap.NoLimit := e0.mod.nolimit.keeps fun b o e => (e0.bs b o e).1
  have hkinds : ∀ y ∈ ps.zip us, (defScope st).names.lookup y.1 = some .local ∨ ((defScope st).names.lookup y.1 = some .cell ∧ ((cellsFrom (s.heap.objs.size + 1) (defScope st).names []).lookup y.1).isSome = true) := by
    rintro ⟨n, v⟩ hy
    cases S.par n (List.of_mem_zip hy).1 with
    | inl q => exact .inl q
    | inr q => exact .inr ⟨q, PySem.W.cellsFrom_some _ _ _ (.inl q)⟩
  refine codeAny_call_function hr.depth (inK _ _ lk) rfl S.co S.gen rfl (PySem.W.codeRec_of inK hcd) (hb _ _ _ _ ?_)
  refine wpAny_newFunctionEnv_cells S.kind hkinds fun env he s1 xx => ?_
  subst he
  refine ⟨noLim.keeps xx.toInCall.keep, codeAny_func ?_⟩
  obtain ⟨t, ht, hq⟩ := hbody cdv A outer s H vs Q E (hr.deeper _) hgd hsp
  have I0 := inv_start (CX := L2.CX P w) (P := P) (w := w) (E := E) S hr.hd e0 hl r xx
  refine wpAny_mono (ht.run [] s1 (L2.start N vs) H _ I0 hq) (fun fl s' hs => ?_) fun e s' hs => hs
  cases fl with
  | ret u =>
    obtain ⟨v, σ', H', J, rv, q⟩ := hs
    exact ⟨v, H', J.os, J.bare, J.base, J.hok, rv, q⟩
  | next =>
    obtain ⟨σ', H', J, q⟩ := hs
    exact ⟨V.non, H', J.os, J.bare, J.base, J.hok, (show Value.none = Value.none from rfl), q⟩
  | brk =>
    obtain ⟨_, _, _, q⟩ := hs
    exact q.elim
  | cont =>
    obtain ⟨_, _, _, q⟩ := hs
    exact q.elim
end

/-- a def of the text, with its translation -/
structure DefAt (K : PySem.W.Frag) (mg : Str → Option Value) (defs : List Str) (consts : List (Str × D)) (pats : List (Nat × List Str)) (x : Str) (d : Df) : Prop where
  ex : ∃ (st : Stmt) (f : Addr) (fd : FuncData) (N : List Str), L2.Fun K x x st f fd ∧ mg x = some (.ref f) ∧ FnScope N d.par (defScope st) ∧ trDef defs consts pats N st = some d ∧
    (∀ (s : Shared) (us : List Value), K.In s.heap → us.length = d.par.length → BindsTo s fd ⟨us, []⟩ (d.par.zip us)) ∧
    ∀ p ∈ pats, ∀ (s : Shared) (us ws r : List Value), K.In s.heap → us.length = p.1 → ws.length = p.2.length → p.2 ≠ [] → permArgs d.par p.2 (us ++ ws) = some r → BindsTo s fd ⟨us, p.2.zip ws⟩ (d.par.zip r)
/-- what the text's names stand for -/
structure TxOk (K : PySem.W.Frag) (mg : Str → Option Value) (consts : List (Str × D)) (pats : List (Nat × List Str)) (T : Tx) : Prop where
  bi : ∀ x ∈ biNames, mg x = none
  co : ∀ x d, consts.lookup x = some d → ∃ v u, mg x = some u ∧ L2.RelV v u ∧ ∀ ρ π H, RD K mg ρ π H d v
  df : ∀ x d, T.lookup x = some d → DefAt K mg (T.map (·.1)) consts pats x d

theorem lookup_of_mem {T : Tx} {x : Str} (h : x ∈ T.map (·.1)) : ∃ d, T.lookup x = some d := by
  rw [List.mem_map] at h
  obtain ⟨⟨a, d⟩, h1, h2⟩ := h
  dsimp only at h2
  subst h2
  induction T with
  | nil => cases h1
  | cons p T ih =>
    obtain ⟨b, e⟩ := p
    rw [List.lookup_cons]
    by_cases hb : a == b
    · rw [hb]; exact ⟨_, rfl⟩
    · simp only [hb]
      cases h1 with
      | head => exact absurd (beq_self_eq_true a) hb
      | tail _ h1 => exact ih h1

section
variable {P : Program} {w : World} {K : PySem.W.Frag} {mg : Str → Option Value} {base : Heap} {consts : List (Str × D)} {pats : List (Nat × List Str)} {T : Tx}
theorem run_len {T : Tx} {x : Str} : ∀ {k : Nat}, (T.at k).par x = T.par x
  | 0 => rfl
  | _ + 1 => rfl
theorem par_of {x : Str} {d : Df} (h : T.lookup x = some d) : T.par x = d.par := by
  unfold Tx.par
  rw [h]
theorem spC_len {C : Cal} {x : Str} : ∀ vs H Q E, spC K mg C x vs H Q E → vs.length = (C.par x).length := by
  rintro vs H Q E ⟨ρ, π, st, ds, hl, S, r, F⟩
  rw [← r.length, hl]
theorem start_re {ρ π : List Addr} {H : Hp} {ds : List D} {vs : List V} {N : List Str} (r : RDs K mg ρ π H ds vs) : RE K mg ρ π H (ds.map some ++ List.replicate (N.length - ds.length) none) (L2.start N vs) := by
  have hl := r.length
  refine ⟨?_, fun i d e => ?_⟩
  · unfold L2.start
    simp [hl]
  · have hi : i < ds.length := by
      by_cases hi : i < ds.length
      · exact hi
      · rw [List.getElem?_append_right (by simpa using hi), List.getElem?_replicate] at e
        split at e <;> cases e
    rw [List.getElem?_append_left (by simpa using hi), List.getElem?_map] at e
    cases hd : ds[i]? with
    | none => rw [hd] at e; cases e
    | some a =>
      rw [hd] at e
      cases e
      obtain ⟨v, e1, e2⟩ := r.get hd
      refine ⟨v, ?_, e2⟩
      unfold L2.start
      rw [List.getElem?_append_left (by simpa using (hl ▸ hi)), List.getElem?_map, e1]
      rfl
theorem callee_step {k : Nat} (hsb : ∃ mm, base.Ns sysModules mm) (O : TxOk K mg consts pats T) (ih : ∀ x ∈ T.map (·.1), ∃ f, Callee P w K mg base k (T.at k) pats x f) : ∀ x ∈ T.map (·.1), ∃ f, Callee P w K mg base (k + 1) (T.at (k + 1)) pats x f := by
  intro x hx
  obtain ⟨d, hd⟩ := lookup_of_mem hx
  obtain ⟨st, f, fd, N, F, hm, S, ht, hb, hk⟩ := (O.df x d hd).ex
  have hp : (T.at (k + 1)).par x = d.par := par_of hd
  refine ⟨f, hm, F.kp, fd, ?_, ?_, ?_⟩
  · rw [hp]
    refine fnG_by F S (fun vs H Q E h => by rw [spC_len _ _ _ _ h, hp]) fun cdv A outer s H vs Q E hr hg hsp => ?_
    obtain ⟨ρ, π, st0, ds, hl, S0, r, Fi⟩ := hsp
    rw [hp] at hl
    cases st with
    | FunctionDef nm args body dl rt tc sc p1 p2 p3 =>
      unfold trDef at ht
      dsimp only at ht
      rw [Option.map_eq_some_iff] at ht
      obtain ⟨b, hb1, hb2⟩ := ht
      subst hb2
      have ok : Ok (T.at k) k (cxOf (L2.CX P w) P w K mg base N x sc f cdv A outer s H E)
          { N := N, sc := sc, stn := (sc.names.map (·.1)).filter fun y => sc.names.lookup y == some .local || sc.names.lookup y == some .cell, defs := T.map (·.1), consts := consts, pats := pats } (fun c da _ H => E c da H) := by
        refine ⟨rfl, S.kind, rfl, S.nd, rfl, hr, hg, O.bi, O.co, fun y hy => ?_, ih, fun y hy => ih y ?_, takes_of rfl rfl rfl rfl, passes_of rfl, hsb⟩
        · have hy2 := (List.mem_filter.mp hy).2
          rw [Bool.or_eq_true, beq_iff_eq, beq_iff_eq] at hy2
          exact ⟨hy2, .inl rfl⟩
        · cases k <;> exact hy
      have body := (sndS fuel).ss _ _ _ ok _ _ hb1
      refine ⟨_, body, ρ, π, _, st0, S0, start_re r, ?_⟩
      have hr2 : (T.at (k + 1)).run x ds st0 = Df.go { par := args.args.map (·.arg), names := N.length, body := b } (T.at k) ds st0 := by
        show (match T.lookup x with | some d => d.go (T.at k) ds st0 | none => .bad) = _
        rw [hd]
      rw [hr2] at Fi
      unfold Df.go at Fi
      rw [if_pos hl] at Fi
      dsimp only at Fi
      cases ho : evSs (T.at k) b (ds.map some ++ List.replicate (N.length - ds.length) none) st0 with
      | bad => rw [ho] at Fi; exact Fi.elim
      | bk e s2 => rw [ho] at Fi; exact Fi.elim
      | ct e s2 => rw [ho] at Fi; exact Fi.elim
      | rt dd s2 => rw [ho] at Fi; exact fun ρ' H' v x1 S1 r1 => Fi ρ' H' v x1 S1 r1
      | nx e s2 => rw [ho] at Fi; exact fun ρ' H' σ' x1 S1 E1 => Fi ρ' H' .non x1 S1 .non
      | ex c v e s2 => rw [ho] at Fi; exact fun ρ' H' σ' Cc da u x1 S1 E1 h1 h2 h3 => Fi ρ' H' Cc da u x1 S1 h1 h2 h3
    | _ => cases ht
  · rw [hp]; exact hb
  · rw [hp]; exact hk
theorem callee_zero (O : TxOk K mg consts pats T) : ∀ x ∈ T.map (·.1), ∃ f, Callee P w K mg base 0 (T.at 0) pats x f := by
  intro x hx
  obtain ⟨d, hd⟩ := lookup_of_mem hx
  obtain ⟨st, f, fd, N, F, hm, S, ht, hb, hk⟩ := (O.df x d hd).ex
  have hp : (T.at 0).par x = d.par := par_of hd
  refine ⟨f, hm, F.kp, fd, ⟨spC_len, fun A outer s H args us vs Q E hr hg e0 hb r hsp => ?_⟩, ?_, ?_⟩
  · obtain ⟨ρ, π, st0, ds, hl, S0, r, Fi⟩ := hsp
    exact Fi.elim
  · rw [hp]; exact hb
  · rw [hp]; exact hk
/-- every def, at every depth -/
theorem callee_all (hsb : ∃ mm, base.Ns sysModules mm) (O : TxOk K mg consts pats T) : ∀ k : Nat, ∀ x ∈ T.map (·.1), ∃ f, Callee P w K mg base k (T.at k) pats x f
  | 0 => callee_zero O
  | k + 1 => callee_step hsb O (callee_all hsb O k)
end
end Ev
/-! From the evaluator's word about the law to the row's promise. -/
namespace Ev
open PySem PySem.Spec PyProof.Rows L2

/-- the abstract heap at the law's call: the script alone, if it is no object of the module -/
def sH (on : Bool) (a : Addr) (vs : List Value) (zs : List V) : Hp := fun b =>
  if on = true ∧ b = a then some (.frz { cls := .type "list", data := .seq vs.toArray } (.lst zs)) else none
section
variable {on : Bool} {a b : Addr} {vs : List Value} {zs : List V}
theorem sH_two : sH on a vs zs b = none ∨ ∃ o xs, sH on a vs zs b = some (.frz o (.lst xs)) := by
  unfold sH
  split
  · exact .inr ⟨_, _, rfl⟩
  · exact .inl rfl
theorem sH_at (h : sH on a vs zs b ≠ none) : on = true ∧ b = a := by
  unfold sH at h
  split at h
  · assumption
  · exact absurd rfl h
end
section
variable {P : Program} {w : World} {K : PySem.W.Frag} {mg mb : Str → Option Value} {k : Nat} {fa a : Addr} {x y : Str} {s1 : Shared} {vs : List Value} {ns : List Int} {C : Cal} {pats : List (Nat × List Str)} {st : Sto}
theorem law_top (inK : K.In s1.heap) (hn1 : s1.heap.Ns mainGlobals mg) (hn2 : s1.heap.Ns builtinsNs mb) (hbt : ∀ z : Str, z ≠ "__name__" → mb z = bootBuiltins z) (hlm : s1.heap.NoLimit) (hgs : s1.gens = #[])
    (hla : s1.heap.get? a = some { cls := .type "list", data := .seq vs.toArray }) (hin : IntsAre vs ns) (hsz : ns.length ≤ sizeLine) (hrm : Room k callerA)
    (hsm : ∃ mm, s1.heap.Ns sysModules mm) (F : ∀ base : Heap, (∃ mm, base.Ns sysModules mm) → ∃ f, Callee P w K mg base k C pats x f) (hmx : mg x = some (.ref fa)) (hp1 : C.par x = [y]) (hrun : C.run x [.ro ns] [] = .ok (.bl true) st) :
    codeAny (model P w) callerA (.call (.ref fa) ⟨[.ref a], []⟩) (fun r s' => r = .ok (.ret (.bool true)) ∧ PySem.OldK s1.heap s'.heap ∧ s'.os = s1.os ∧ AllBare s'.gens) s1 := by
  have hvs := vals_ints hin
  obtain ⟨on, hon⟩ : ∃ on : Bool, on = (K.lookup a).isNone := ⟨_, rfl⟩
  have hoff : ∀ {b : Addr}, sH on a vs (ns.map V.int) b ≠ none → b = a ∧ K.lookup a = none := fun {b} z => by
    obtain ⟨z1, z2⟩ := sH_at z
    rw [z1] at hon
    exact ⟨z2, Option.isNone_iff_eq_none.mp hon.symm⟩
  obtain ⟨H, hH⟩ : ∃ H : Hp, H = sH on a vs (ns.map V.int) := ⟨_, rfl⟩
  rw [← hH] at hoff
  have htwo : ∀ b, H b = none ∨ ∃ o xs, H b = some (.frz o (.lst xs)) := fun b => by rw [hH]; exact sH_two
  have hok : HOk P w H s1.heap := by
    intro b u z
    obtain ⟨z1, z2⟩ := hoff (b := b) (by rw [z]; simp)
    subst z1
    rw [hH] at z
    unfold sH at z
    split at z
    · cases z
      exact ⟨hla, by rw [List.length_map]; exact hsz, vs, _, hvs, hla⟩
    · cases z
  have hro : RoL K H a (ns.map V.int) := by
    cases hk : K.lookup a with
    | none =>
      refine .inl ⟨{ cls := .type "list", data := .seq vs.toArray }, ?_⟩
      rw [hH]
      unfold sH
      rw [hon, hk, if_pos ⟨rfl, rfl⟩]
    | some o =>
      have e := inK a o hk
      rw [hla] at e
      cases e
      exact .inr ⟨_, vs.toArray, _, hk, rfl, rfl, rfl, by rw [List.size_toArray, hin.length]; exact hsz, by simpa using hvs⟩
  have stay : ∀ {b : Addr} {o : Obj}, s1.heap.get? b = some o → (∀ its j, o.data ≠ .seq its j) → (hidT s1.heap H).get? b = some o := fun {b o} e hd => by
    refine hidT_get e ?_
    cases q : H b with
    | none => rfl
    | some u =>
      obtain ⟨z1, -⟩ := hoff (b := b) (by rw [q]; simp)
      subst z1
      rw [hla] at e
      cases e
      exact absurd rfl (hd _ _)
  have nsStay : ∀ {b : Addr} {m : Str → Option Value}, s1.heap.Ns b m → (hidT s1.heap H).Ns b m := fun {b m} ⟨o, es, ep, e, d, r⟩ =>
    ⟨o, es, ep, stay e (fun its j z => by rw [d] at z; cases z), d, r⟩
  have inK2 : K.In (hidT s1.heap H) := by
    intro b o e
    refine hidT_get (inK b o e) ?_
    cases q : H b with
    | none => rfl
    | some u =>
      obtain ⟨z1, z2⟩ := hoff (b := b) (by rw [q]; simp)
      subst z1
      rw [z2] at e
      cases e
  have hmod : Mod K mg (hidT s1.heap H) := by
    obtain ⟨mc, c1, c2⟩ := hlm
    exact ⟨inK2, nsStay hn1, ⟨mb, nsStay hn2, hbt⟩, ⟨mc, nsStay c1, c2⟩⟩
  have henv : Env0 P w K mg (hidT s1.heap H) callerA [] s1 H := by
    refine ⟨rfl, hmod, fun b o e => of_hidT e, Nat.le_of_eq (hidT_size _ _), trivial, ?_, hok, .of_eq hgs⟩
    intro b z
    exact absurd (show b ∈ ([] : List Addr) from z) (by simp)
  obtain ⟨f, Fc⟩ := F (hidT s1.heap H) (let ⟨mm, e⟩ := hsm; ⟨mm, nsStay e⟩)
  have hff : f = fa := by
    have z := Fc.at_
    rw [hmx] at z
    cases z
    rfl
  subst hff
  obtain ⟨fd, F1, F2, -⟩ := Fc.ex
  rw [hp1] at F1 F2
  have word : spC K mg C x [.ref a] H (fun v _ => v = .bl true) (fun _ _ _ => False) := by
    refine ⟨[], [], [], [.ro ns], by rw [hp1]; rfl, ?_, .cons (.ro hro) .nil, ?_⟩
    · exact ⟨rfl, List.nodup_nil, fun n b o e => (nomatch e), fun b z => (nomatch z)⟩
    · rw [hrun]
      intro ρ' H' v _ _ r
      cases r
      rfl
  refine codeAny_mono (F1.run callerA [] s1 H ⟨[.ref a], []⟩ [.ref a] [.ref a] _ _ hrm rfl henv (F2 s1 [.ref a] inK rfl) (.cons rfl .nil) word) fun r s' h => ?_
  cases r with
  | error e =>
    obtain ⟨_, _, _, _, _, _, _, _, _, _, _, _, z⟩ := h
    exact z.elim
  | ok fl =>
    cases fl with
    | next => exact h.elim
    | brk => exact h.elim
    | cont => exact h.elim
    | ret u =>
      obtain ⟨v, H2, os2, bare2, un2, ok2, r2, q2⟩ := h
      have q3 : v = .bl true := q2
      subst q3
      obtain rfl : u = Value.bool true := r2
      refine ⟨rfl, .of_keep ?_, os2, bare2⟩
      intro b o e
      rcases htwo b with z | ⟨ob, xs, z⟩
      · exact un2.keep b o e z (by intro m; exact absurd (show b ∈ ([] : List Addr) from m) (by simp)) (by simp)
      · obtain ⟨e1, -⟩ := hok b _ z
        obtain ⟨e2, -⟩ := ok2 b _ (un2.frzs b ob _ z)
        rw [e] at e1
        cases e1
        exact e2
end
/-- the row's promise, from the evaluator's word -/
theorem walk_ev {l : PySem.W.OpenLaw} {n k : Nat} {q : Program} {loose : List Str} {XP : (Str → Option Value) → Heap → Prop} {YP : World → Heap → Prop} {d : DefRec} {K : Params → PySem.W.Frag} {y : Str} {consts : List (Str × D)} {pats : List (Nat × List Str)} {T : Tx}
    (himp : importsNone q = true) (hmost : l.most = some n) (hle : n ≤ sizeLine) (hnod : d.params.defaults = []) (hrm : Room k callerA) (hin : ∀ (w : World) (h : Heap), YP w h → (K w.params).In h)
    (hT : ∀ (w : World) (mg : Str → Option Value) (h : Heap), YP w h → (K w.params).In h → h.Ns mainGlobals mg → TxOk (K w.params) mg consts pats T) (hx : d.name ∈ T.map (·.1)) (hp : T.par d.name = [y])
    (hrun : ∀ ns : List Int, ns.length ≤ n → ∃ st, (T.at k).run d.name [.ro ns] [] = .ok (.bl true) st) :
    PySem.W.WalkO q loose XP YP l.row.toRowW d [] (fun f vs => PySem.call f vs) := by
  refine Att.attach_call hmost hnod ?_
  intro w s₀ s1 mg mb fa o pm cd doc a vs ns G Y ho hd hcd hmg hobj hints hlen hgs
  have inK := hin w _ Y
  obtain ⟨st, hst⟩ := hrun ns hlen
  have O := hT w mg _ Y inK G.T.g
  exact law_top inK G.T.g G.T.b G.T.builtins G.T.nolimit hgs hobj hints (Nat.le_trans hlen hle) hrm (let ⟨mm, e, _⟩ := (G.T.seer himp).mods; ⟨mm, e⟩) (fun base hb => callee_all hb O k d.name hx) hmg (by rw [run_len]; exact hp) hst
end Ev
/-! From what the top has written to the text's defs. -/
namespace Ev
open PySem PySem.Spec PyProof.Rows L2

/-- a def as the top has written it -/
structure Raw (K : PySem.W.Frag) (x : Str) (st : Stmt) : Prop where
  ex : ∃ (f : Addr) (oc : Value) (od : Option Addr) (osl : Array (Option Value)) (kV doc pm : Value) (an : Option Addr) (cdv ct : Value), PySem.W.nsIn K mainGlobals x = some (some (.ref f)) ∧
    K.lookup f = some ⟨oc, od, .func (PySem.W.fnOf x x (defArgs st) (defBody st) (defScope st) .none kV doc pm an cdv ct), osl⟩ ∧ PySem.W.codeIn K cdv x = true ∧ PySem.W.keepIn K (.ref f) = true
theorem raw_mk {K : PySem.W.Frag} {x : Str} {st : Stmt} {f : Addr} {oc : Value} {od an : Option Addr} {osl : Array (Option Value)} {kV doc pm cdv ct : Value} (a : PySem.W.nsIn K mainGlobals x = some (some (.ref f)))
    (l : K.lookup f = some ⟨oc, od, .func (PySem.W.fnOf x x (defArgs st) (defBody st) (defScope st) .none kV doc pm an cdv ct), osl⟩) (c : PySem.W.codeIn K cdv x = true) (k : PySem.W.keepIn K (.ref f) = true) : Raw K x st :=
  ⟨f, oc, od, osl, kV, doc, pm, an, cdv, ct, a, l, c, k⟩
theorem defAt_mk {K : PySem.W.Frag} {h : Heap} {mg : Str → Option Value} {defs : List Str} {consts : List (Str × D)} {pats : List (Nat × List Str)} {x : Str} {st : Stmt} {d : Df} {N : List Str} (inK : K.In h) (G : h.Ns mainGlobals mg) (r : Raw K x st)
    (S : FnScope N d.par (defScope st)) (t : trDef defs consts pats N st = some d)
    (b : ∀ (kV doc pm : Value) (an : Option Addr) (cdv ct : Value) (us : List Value), us.length = d.par.length → bindArgs (PySem.W.fnOf x x (defArgs st) (defBody st) (defScope st) .none kV doc pm an cdv ct) ⟨us, []⟩ = pure (d.par.zip us))
    (kb : ∀ (kV doc pm : Value) (an : Option Addr) (cdv ct : Value), ∀ p ∈ pats, ∀ (us ws r : List Value), us.length = p.1 → ws.length = p.2.length → p.2 ≠ [] → permArgs d.par p.2 (us ++ ws) = some r →
      bindArgs (PySem.W.fnOf x x (defArgs st) (defBody st) (defScope st) .none kV doc pm an cdv ct) ⟨us, p.2.zip ws⟩ = pure (d.par.zip r)) : DefAt K mg defs consts pats x d := by
  obtain ⟨f, oc, od, osl, kV, doc, pm, an, cdv, ct, a, l, c, k⟩ := r.ex
  refine ⟨st, f, _, N, fun_mk l c k, PySem.W.mg_of inK G a, S, t, fun s us _ hl => .of_eq (b _ _ _ _ _ _ us hl), fun p hp s us ws r _ h1 h2 h3 h4 => .of_eq (kb _ _ _ _ _ _ p hp us ws r h1 h2 h3 h4)⟩
/-- all defs of the text -/
inductive AllT (P : Str → Df → Prop) : Tx → Prop
  | nil : AllT P []
  | cons {x : Str} {d : Df} {T : Tx} (h : P x d) (t : AllT P T) : AllT P ((x, d) :: T)
theorem AllT.get {P : Str → Df → Prop} {T : Tx} (h : AllT P T) {x : Str} {d : Df} (e : T.lookup x = some d) : P x d := by
  induction h with
  | nil => cases e
  | cons h t ih =>
    rename_i y d' T
    rw [List.lookup_cons] at e
    split at e
    · rename_i hy
      have hy : x = y := by simpa using hy
      cases e
      rw [hy]
      exact h
    · exact ih e
/-- all constants of the text -/
inductive AllC (P : Str → D → Prop) : List (Str × D) → Prop
  | nil : AllC P []
  | cons {x : Str} {d : D} {cs : List (Str × D)} (h : P x d) (t : AllC P cs) : AllC P ((x, d) :: cs)
theorem AllC.get {P : Str → D → Prop} {cs : List (Str × D)} (h : AllC P cs) {x : Str} {d : D} (e : cs.lookup x = some d) : P x d := by
  induction h with
  | nil => cases e
  | cons h t ih =>
    rename_i y d' T
    rw [List.lookup_cons] at e
    split at e
    · rename_i hy
      have hy : x = y := by simpa using hy
      cases e
      rw [hy]
      exact h
    · exact ih e
/-- a constant of the text -/
def CoAt (K : PySem.W.Frag) (mg : Str → Option Value) (x : Str) (d : D) : Prop := ∃ v u, mg x = some u ∧ L2.RelV v u ∧ ∀ ρ π H, RD K mg ρ π H d v
theorem co_int {K : PySem.W.Frag} {h : Heap} {mg : Str → Option Value} {x : Str} {i : Int} {t : Nat} (inK : K.In h) (G : h.Ns mainGlobals mg) (a : PySem.W.nsIn K mainGlobals x = some (some (.int i t))) : CoAt K mg x (.int i) :=
  ⟨.int i, .int i t, PySem.W.mg_of inK G a, ⟨t, rfl⟩, fun _ _ _ => .int i⟩
theorem co_str {K : PySem.W.Frag} {h : Heap} {mg : Str → Option Value} {x s : Str} {t : Nat} (inK : K.In h) (G : h.Ns mainGlobals mg) (a : PySem.W.nsIn K mainGlobals x = some (some (.str s t))) : CoAt K mg x (.str s) :=
  ⟨.str s, .str s t, PySem.W.mg_of inK G a, ⟨t, rfl⟩, fun _ _ _ => .str s⟩
/-- the names of built-ins are free -/
inductive AllN (P : Str → Prop) : List Str → Prop
  | nil : AllN P []
  | cons {x : Str} {xs : List Str} (h : P x) (t : AllN P xs) : AllN P (x :: xs)
theorem AllN.get {P : Str → Prop} {xs : List Str} (h : AllN P xs) : ∀ x ∈ xs, P x := by
  induction h with
  | nil => exact fun x hx => nomatch hx
  | cons h t ih =>
    intro x hx
    cases hx with
    | head => exact h
    | tail _ hx => exact ih x hx
def Free (K : PySem.W.Frag) (x : Str) : Prop := PySem.W.nsIn K mainGlobals x = some none
theorem txOk_mk {K : PySem.W.Frag} {h : Heap} {mg : Str → Option Value} {consts : List (Str × D)} {pats : List (Nat × List Str)} {T : Tx} (inK : K.In h) (G : h.Ns mainGlobals mg) (z : AllN (Free K) biNames) (c : AllC (CoAt K mg) consts) (t : AllT (DefAt K mg (T.map (·.1)) consts pats) T) : TxOk K mg consts pats T :=
  ⟨fun x hx => PySem.W.mg_none_of inK G (z.get x hx), fun x d e => c.get e, fun x d e => t.get e⟩
end Ev
/-! Rules for evaluating. -/
namespace Ev
open PySem

section
variable {α β : Type} {a : α} {s : Sto} {f : α → Sto → Out β} {c : Str} {v : D} {env : Env} {g : α → Sto → R} {k : Env → Sto → R}
@[simp] theorem bnd_oks : (Out.ok a s).bnd f = f a s := rfl
@[simp] theorem toR_ok : (Out.ok a s).toR env g = g a s := rfl
@[simp] theorem seq_nx : (R.nx env s).seq k = k env s := rfl
@[simp] theorem seq_rt : (R.rt v s).seq k = R.rt v s := rfl
@[simp] theorem seq_ct : (R.ct env s).seq k = R.ct env s := rfl
@[simp] theorem seq_bk : (R.bk env s).seq k = R.bk env s := rfl
@[simp] theorem opt_some : opt (some a) s = .ok a s := rfl
@[simp] theorem noEx_ok : noEx (Out.ok a s) = .ok a s := rfl
end
section
variable {C : Cal} {env : Env} {st : Sto} {a b c e lo hi t : E} {es src ifs : List E} {al : Bool} {d : D} {i : Nat} {x : Str} {o p : COp} {q : BOp} {pr : Prim} {ks : List Str} {kks : List L2.Key} {ty : Ty} {own : List Nat} {tn : TN} {ik : IK}
@[simp] theorem ev_c : evE C (.c d) env st = .ok d st := rfl
theorem ev_v : evE C (.v i) env st = (match env[i]? with
    | some (some d) => .ok d st
    | _ => .bad) := rfl
@[simp] theorem ev_v0 {d : D} {r : Env} : evE C (.v 0) (some d :: r) st = .ok d st := rfl
@[simp] theorem ev_v1 {d : D} {x0 : Option D} {r : Env} : evE C (.v 1) (x0 :: some d :: r) st = .ok d st := rfl
@[simp] theorem ev_v2 {d : D} {x0 x1 : Option D} {r : Env} : evE C (.v 2) (x0 :: x1 :: some d :: r) st = .ok d st := rfl
@[simp] theorem ev_v3 {d : D} {x0 x1 x2 : Option D} {r : Env} : evE C (.v 3) (x0 :: x1 :: x2 :: some d :: r) st = .ok d st := rfl
@[simp] theorem ev_v4 {d : D} {x0 x1 x2 x3 : Option D} {r : Env} : evE C (.v 4) (x0 :: x1 :: x2 :: x3 :: some d :: r) st = .ok d st := rfl
@[simp] theorem ev_v5 {d : D} {x0 x1 x2 x3 x4 : Option D} {r : Env} : evE C (.v 5) (x0 :: x1 :: x2 :: x3 :: x4 :: some d :: r) st = .ok d st := rfl
@[simp] theorem ev_v6 {d : D} {x0 x1 x2 x3 x4 x5 : Option D} {r : Env} : evE C (.v 6) (x0 :: x1 :: x2 :: x3 :: x4 :: x5 :: some d :: r) st = .ok d st := rfl
@[simp] theorem ev_v7 {d : D} {x0 x1 x2 x3 x4 x5 x6 : Option D} {r : Env} : evE C (.v 7) (x0 :: x1 :: x2 :: x3 :: x4 :: x5 :: x6 :: some d :: r) st = .ok d st := rfl
@[simp] theorem ev_v8 {d : D} {x0 x1 x2 x3 x4 x5 x6 x7 : Option D} {r : Env} : evE C (.v 8) (x0 :: x1 :: x2 :: x3 :: x4 :: x5 :: x6 :: x7 :: some d :: r) st = .ok d st := rfl
@[simp] theorem ev_v9 {d : D} {x0 x1 x2 x3 x4 x5 x6 x7 x8 : Option D} {r : Env} : evE C (.v 9) (x0 :: x1 :: x2 :: x3 :: x4 :: x5 :: x6 :: x7 :: x8 :: some d :: r) st = .ok d st := rfl
@[simp] theorem ev_v10 {d : D} {x0 x1 x2 x3 x4 x5 x6 x7 x8 x9 : Option D} {r : Env} : evE C (.v 10) (x0 :: x1 :: x2 :: x3 :: x4 :: x5 :: x6 :: x7 :: x8 :: x9 :: some d :: r) st = .ok d st := rfl
@[simp] theorem ev_v11 {d : D} {x0 x1 x2 x3 x4 x5 x6 x7 x8 x9 x10 : Option D} {r : Env} : evE C (.v 11) (x0 :: x1 :: x2 :: x3 :: x4 :: x5 :: x6 :: x7 :: x8 :: x9 :: x10 :: some d :: r) st = .ok d st := rfl
@[simp] theorem ev_v12 {d : D} {x0 x1 x2 x3 x4 x5 x6 x7 x8 x9 x10 x11 : Option D} {r : Env} : evE C (.v 12) (x0 :: x1 :: x2 :: x3 :: x4 :: x5 :: x6 :: x7 :: x8 :: x9 :: x10 :: x11 :: some d :: r) st = .ok d st := rfl
@[simp] theorem ev_v13 {d : D} {x0 x1 x2 x3 x4 x5 x6 x7 x8 x9 x10 x11 x12 : Option D} {r : Env} : evE C (.v 13) (x0 :: x1 :: x2 :: x3 :: x4 :: x5 :: x6 :: x7 :: x8 :: x9 :: x10 :: x11 :: x12 :: some d :: r) st = .ok d st := rfl
@[simp] theorem ev_g : evE C (.g x) env st = .ok (.fn x) st := rfl
@[simp] theorem ev_bin : evE C (.bin al q a b) env st = (evE C a env st).bnd fun x st => (evE C b env st).bnd fun y st => binD al q x y st := rfl
@[simp] theorem ev_neg : evE C (.neg a) env st = (evE C a env st).bnd fun x st => negP x st := rfl
@[simp] theorem ev_not : evE C (.not a) env st = (evE C a env st).bnd fun x st => (opt (truth st x) st).bnd fun k st => .ok (.bl !k) st := rfl
@[simp] theorem ev_and : evE C (.and a b) env st = (evE C a env st).bnd fun x st => (opt (truth st x) st).bnd fun k st => if k then evE C b env st else .ok x st := rfl
@[simp] theorem ev_or : evE C (.or a b) env st = (evE C a env st).bnd fun x st => (opt (truth st x) st).bnd fun k st => if k then .ok x st else evE C b env st := rfl
@[simp] theorem ev_ite : evE C (.ite t a b) env st = (evE C t env st).bnd fun x st => (opt (truth st x) st).bnd fun k st => if k then evE C a env st else evE C b env st := rfl
@[simp] theorem ev_cmp : evE C (.cmp o a b) env st = (evE C a env st).bnd fun x st => (evE C b env st).bnd fun y st => cmpD o x y st := rfl
/-- the second half of a chain -/
def chainK (r : D) (st : Sto) (z : Sto → Out D) : Out D := match r with
  | .bl true => z st
  | .bl false => .ok (.bl false) st
  | _ => .bad
@[simp] theorem chainK_t {st : Sto} {z : Sto → Out D} : chainK (.bl true) st z = z st := rfl
@[simp] theorem chainK_f {st : Sto} {z : Sto → Out D} : chainK (.bl false) st z = .ok (.bl false) st := rfl
theorem chainK_b {k : Bool} {st : Sto} {z : Sto → Out D} : chainK (.bl k) st z = if k then z st else .ok (.bl false) st := by
  cases k <;> rfl
@[simp] theorem ev_chain : evE C (.chain o p a b c) env st = (evE C a env st).bnd fun x st => (evE C b env st).bnd fun y st => (cmpD o x y st).bnd fun r st => chainK r st fun st => (evE C c env st).bnd fun z st => cmpD p y z st := by
  congr 1
@[simp] theorem ev_tup : evE C (.tup es) env st = (evEs C es env st).bnd fun ds st => if small ds.length then .ok (.tup ds) st else .bad := rfl
@[simp] theorem ev_lst : evE C (.lst al es) env st = (evEs C es env st).bnd fun ds st => if small ds.length then newL al ds st else .bad := rfl
@[simp] theorem ev_dct : evE C (.dct al kks es) env st = (evEs C es env st).bnd fun ds st => if kks.length = ds.length ∧ kks.Nodup ∧ kks.length ≤ 15 then newDct al kks ds st else .bad := rfl
@[simp] theorem ev_ix : evE C (.ix a b) env st = (evE C a env st).bnd fun x st => (evE C b env st).bnd fun y st => opt (ixD x y st) st := rfl
@[simp] theorem ev_sl : evE C (.sl al a lo hi) env st = (evE C a env st).bnd fun x st => (partO (isOmit lo) (evE C lo env) st).bnd fun l st => (partO (isOmit hi) (evE C hi env) st).bnd fun h st => slD al x l h st := rfl
@[simp] theorem ev_call : evE C (.call x ks es) env st = (evEs C es env st).bnd fun ds st => callC C x ks ds st := rfl
@[simp] theorem ev_pr : evE C (.pr al pr es) env st = (evEs C es env st).bnd fun ds st => prD al pr ds st := rfl
@[simp] theorem ev_isi : evE C (.isi a ty) env st = (evE C a env st).bnd fun x st => (opt (isTy ty x st) st).bnd fun k st => .ok (.bl k) st := rfl
@[simp] theorem ev_app : evE C (.app a b) env st = (evE C a env st).bnd fun x st => if isLst x st then (evE C b env st).bnd fun y st => appP x y st else .bad := rfl
@[simp] theorem ev_ext : evE C (.ext a b) env st = (evE C a env st).bnd fun x st => if isLst x st then (evE C b env st).bnd fun y st => extP x y st else .bad := rfl
theorem ev_comp : evE C (.comp al own tn ik src ifs e) env st = (evEs C src env st).bnd fun ds st => match itOf ik ds st with
    | none => .bad
    | some J => compEnd al (compI J (compT tn (wipeE env own) (evTs C ifs) (evE C e)) turns 0 [] st) := rfl
@[simp] theorem evs_nil : evEs C [] env st = .ok [] st := rfl
@[simp] theorem evs_cons : evEs C (e :: es) env st = (evE C e env st).bnd fun d st => (evEs C es env st).bnd fun ds st => .ok (d :: ds) st := rfl
@[simp] theorem evt_nil : evTs C [] env st = .ok true st := rfl
end
section
variable {C : Cal} {env : Env} {st : Sto} {e : E} {es src : List E} {t : Tg} {s : S} {ss a b body : List S} {tn : TN} {ik : IK} {is : List Nat}
@[simp] theorem st_asg : evS C (.asg t e) env st = (evE C e env st).toR env fun d st => (noEx (setG C t d env st)).toR env fun env st => .nx env st := rfl
@[simp] theorem st_par : evS C (.par is es) env st = (evEs C es env st).toR env fun ds st => match setMany is ds env with
    | some env => .nx env st
    | none => .bad := rfl
@[simp] theorem st_ex : evS C (.ex e) env st = (evE C e env st).toR env fun _ st => .nx env st := rfl
@[simp] theorem st_iff : evS C (.iff e a b) env st = ((evE C e env st).bnd fun x st => opt (truth st x) st).toR env fun k st => if k then evSs C a env st else evSs C b env st := rfl
theorem st_for : evS C (.for_ tn ik src body) env st = (evEs C src env st).toR env fun ds st => match itOf ik ds st with
    | none => .bad
    | some J => forI J (fun d env st => match setT tn d env with
      | none => .bad
      | some env => evSs C body env st) turns 0 env st := rfl
@[simp] theorem st_ret : evS C (.ret (some e)) env st = (evE C e env st).toR env fun d st => .rt d st := rfl
@[simp] theorem st_retN : evS C (.ret none) env st = .rt .non st := rfl
@[simp] theorem st_pass : evS C .pass env st = .nx env st := rfl
@[simp] theorem st_brk : evS C .brk env st = .bk env st := rfl
@[simp] theorem st_cont : evS C .cont env st = .ct env st := rfl
@[simp] theorem sts_nil : evSs C [] env st = .nx env st := rfl
@[simp] theorem sts_cons : evSs C (s :: ss) env st = (evS C s env st).seq fun env st => evSs C ss env st := rfl
@[simp] theorem set_n {i : Nat} {d : D} : setG C (.n i) d env st = .ok (env.set i (some d)) st := rfl
@[simp] theorem set_t {ts : List Tg} {xs : List D} : setG C (.t ts) (.tup xs) env st = setGs C ts xs env st := rfl
@[simp] theorem sets_nil : setGs C [] [] env st = .ok env st := rfl
@[simp] theorem sets_cons {x : D} {xs : List D} {ts : List Tg} : setGs C (t :: ts) (x :: xs) env st = (setG C t x env st).bnd fun env st => setGs C ts xs env st := rfl
theorem set_s {o i : E} {d : D} : setG C (.s o i) d env st = ((noEx (evE C o env st)).bnd fun x st => (noEx (evE C i env st)).bnd fun y st => (opt (setItem x y d st) st).bnd fun st' _ => .ok env st') := rfl
@[simp] theorem setT_n {i : Nat} {d : D} : setT (.n i) d env = some (env.set i (some d)) := rfl
end
/-- how a call ends -/
def R.end_ : R → Out D
  | .rt d st => .ok d st
  | .nx _ st => .ok .non st
  | .ex c v _ st => .ex c v st
  | _ => .bad
@[simp] theorem end_rt {d : D} {st : Sto} : (R.rt d st).end_ = .ok d st := rfl
@[simp] theorem end_nx {e : Env} {st : Sto} : (R.nx e st).end_ = .ok .non st := rfl
theorem run_at {T : Tx} {x : Str} {d : Df} (h : T.lookup x = some d) (k : Nat) (ds : List D) (st : Sto) (hl : ds.length = d.par.length) :
    (T.at (k + 1)).run x ds st = (evSs (T.at k) d.body (ds.map some ++ List.replicate (d.names - ds.length) none) st).end_ := by
  show (match T.lookup x with | some d => d.go (T.at k) ds st | none => .bad) = _
  rw [h]
  dsimp only
  unfold Df.go
  rw [if_pos hl]
  rfl
theorem call_pos {T : Tx} {x : Str} {d : Df} {ds : List D} {st : Sto} {k : Nat} (h : T.lookup x = some d) (hl : ds.length = d.par.length) : callC (T.at k) x [] ds st = (T.at k).run x ds st := by
  unfold callC permArgs
  rw [if_pos rfl, run_len]
  unfold Tx.par
  rw [h, if_pos hl]
theorem call_kw {T : Tx} {x : Str} {d : Df} {ks : List Str} {ds es : List D} {st : Sto} {k : Nat} (h : T.lookup x = some d) (hp : permArgs d.par ks ds = some es) : callC (T.at k) x ks ds st = (T.at k).run x es st := by
  unfold callC
  rw [run_len]
  unfold Tx.par
  rw [h]
  dsimp only
  rw [hp]
theorem all_at {T : Tx} : ∀ {k : Nat}, (T.at k).all = T.map (·.1)
  | 0 => rfl
  | _ + 1 => rfl
theorem ev_callv {T : Tx} {k i : Nat} {ks : List Str} {es : List E} {env : Env} {st : Sto} {f : Str} {d : Df} (h : env[i]? = some (some (.fn f))) (hf : T.lookup f = some d) : evE (T.at k) (.callv i ks es) env st = (evEs (T.at k) es env st).bnd fun ds st => callC (T.at k) f ks ds st := by
  show (match env[i]? with
    | some (some (.fn f)) => if (T.at k).all.contains f then (evEs (T.at k) es env st).bnd fun ds st => callC (T.at k) f ks ds st else .bad
    | _ => .bad) = _
  rw [h]
  dsimp only
  have hm : f ∈ T.map (·.1) := by
    have : ∀ {T : Tx} {f : Str} {d : Df}, T.lookup f = some d → f ∈ T.map (·.1) := by
      intro T
      induction T with
      | nil => intro f d h; cases h
      | cons p T ih =>
        intro f d h
        obtain ⟨y, e⟩ := p
        rw [List.lookup_cons] at h
        split at h
        · rename_i hy
          have : f = y := by simpa using hy
          rw [this]
          exact List.mem_cons_self
        · exact List.mem_cons_of_mem _ (ih h)
    exact this hf
  rw [all_at, if_pos (List.contains_iff_mem.mpr hm)]

/-! ### data -/
section
variable {st : Sto} {xs ys : List D} {i j : Int} {x y : Str} {b : Bool} {d : D} {al : Bool} {ks : List L2.Key}
@[simp] theorem tr_bl : truth st (.bl b) = some b := rfl
@[simp] theorem tr_int : truth st (.int i) = some (i != 0) := rfl
@[simp] theorem tr_non : truth st .non = some false := rfl
@[simp] theorem bin_add_int : binD al .add (.int i) (.int j) st = .ok (.int (i + j)) st := rfl
@[simp] theorem bin_add_tup : binD al .add (.tup xs) (.tup ys) st = if small (xs.length + ys.length) then .ok (.tup (xs ++ ys)) st else .bad := rfl
@[simp] theorem bin_sub_int : binD al .sub (.int i) (.int j) st = .ok (.int (i - j)) st := rfl
@[simp] theorem bin_mod_int : binD al .mod (.int i) (.int j) st = if 0 < j then .ok (.int (i % j)) st else .bad := rfl
@[simp] theorem bin_fdiv_int : binD al .fdiv (.int i) (.int j) st = if 0 < j ∧ j < 1073741824 then .ok (.int (i / j)) st else .bad := rfl
@[simp] theorem bin_mul_int : binD al .mul (.int i) (.int j) st = if (-(2 ^ 64) < i ∧ i < 2 ^ 64) ∨ (-(2 ^ 64) < j ∧ j < 2 ^ 64) then .ok (.int (i * j)) st else .bad := rfl
@[simp] theorem bin_mul_tup : binD al .mul (.tup xs) (.int j) st = if -1000 ≤ j ∧ j ≤ 1000 ∧ xs.length ≤ 1000 then .ok (.tup (List.replicate j.toNat xs).flatten) st else .bad := rfl
@[simp] theorem bin_pow_int : binD al .pow (.int i) (.int j) st = if 0 ≤ j ∧ j ≤ 1000000 ∧ i.natAbs < 2 ^ 64 then .ok (.int (i ^ j.toNat)) st else .bad := rfl
@[simp] theorem cmp_lt : cmpD .lt (.int i) (.int j) st = .ok (.bl (decide (i < j))) st := rfl
@[simp] theorem cmp_le : cmpD .le (.int i) (.int j) st = .ok (.bl (decide (i ≤ j))) st := rfl
@[simp] theorem cmp_gt : cmpD .gt (.int i) (.int j) st = .ok (.bl (decide (j < i))) st := rfl
@[simp] theorem cmp_ge : cmpD .ge (.int i) (.int j) st = .ok (.bl (decide (j ≤ i))) st := rfl
@[simp] theorem cmp_eq_int : cmpD .eq (.int i) (.int j) st = .ok (.bl (decide (i = j))) st := by
  show Out.ok (D.bl (false != decide (i = j))) st = _
  cases decide (i = j) <;> rfl
@[simp] theorem cmp_ne_int : cmpD .ne (.int i) (.int j) st = .ok (.bl (!decide (i = j))) st := by
  show Out.ok (D.bl (true != decide (i = j))) st = _
  cases decide (i = j) <;> rfl
@[simp] theorem cmp_eq_str : cmpD .eq (.str x) (.str y) st = .ok (.bl (decide (x = y))) st := by
  show Out.ok (D.bl (false != decide (x = y))) st = _
  cases decide (x = y) <;> rfl
@[simp] theorem cmp_ne_str : cmpD .ne (.str x) (.str y) st = .ok (.bl (!decide (x = y))) st := by
  show Out.ok (D.bl (true != decide (x = y))) st = _
  cases decide (x = y) <;> rfl
def isNon : D → Bool
  | .non => true
  | _ => false
@[simp] theorem isNon_non : isNon .non = true := rfl
@[simp] theorem isNon_int : isNon (.int i) = false := rfl
@[simp] theorem cmp_isN : cmpD .isN d .non st = .ok (.bl (isNon d)) st := by cases d <;> rfl
@[simp] theorem cmp_notN : cmpD .notN d .non st = .ok (.bl (!isNon d)) st := by cases d <;> rfl
@[simp] theorem pr_len : prD al .len [d] st = (opt (lenD st d) st).bnd fun n st => .ok (.int n) st := rfl
@[simp] theorem len_tup : lenD st (.tup xs) = some xs.length := rfl
@[simp] theorem len_lst : lenD st (.lst xs) = some xs.length := rfl
@[simp] theorem len_ro {ns : List Int} : lenD st (.ro ns) = some ns.length := by
  show some (ns.map D.int).length = _
  rw [List.length_map]
@[simp] theorem pr_abs : prD al .abs [.int i] st = .ok (.int (if i < 0 then -i else i)) st := rfl
@[simp] theorem pr_max : prD al .max2 [.int i, .int j] st = .ok (.int (if j > i then j else i)) st := rfl
@[simp] theorem pr_min : prD al .min2 [.int i, .int j] st = .ok (.int (if j < i then j else i)) st := rfl
@[simp] theorem pr_int : prD al .int1 [.int i] st = .ok (.int i) st := rfl
@[simp] theorem pr_divmod : prD al .divmod [.int i, .int j] st = if 0 < j ∧ j < 1073741824 then .ok (.tup [.int (i / j), .int (i % j)]) st else .bad := rfl
@[simp] theorem pr_repr : prD al .repr [d] st = opt (reprD st d) st := rfl
@[simp] theorem pr_all {xs : List D} : prD al .all [.lst xs] st = (opt (boolsD xs) st).bnd fun bs st => .ok (.bl (bs.all id)) st := rfl
@[simp] theorem pr_any {xs : List D} : prD al .any [.lst xs] st = (opt (boolsD xs) st).bnd fun bs st => .ok (.bl (bs.any id)) st := rfl
@[simp] theorem pr_list_tup {xs : List D} : prD false .list [.tup xs] st = .ok (.lst xs) st := rfl
theorem bools_map {α : Type} (f : α → Bool) : ∀ xs : List α, boolsD (xs.map fun x => D.bl (f x)) = some (xs.map f)
  | [] => rfl
  | x :: xs => by
    show ((boolsD (xs.map fun x => D.bl (f x))).map (f x :: ·)) = _
    rw [bools_map f xs]
    rfl
@[simp] theorem ix_tup : ixD (.tup xs) (.int i) st = L2.atI xs i := rfl
@[simp] theorem ix_lst : ixD (.lst xs) (.int i) st = L2.atI xs i := rfl
@[simp] theorem ix_ro {ns : List Int} : ixD (.ro ns) (.int i) st = L2.atI (ns.map D.int) i := rfl
theorem ix_loc {n : Nat} (h : st[n]? = some (.lst xs)) : ixD (.loc n) (.int i) st = L2.atI xs i := by
  show ((match st[n]? with | some (.lst xs) => some xs | _ => none).bind fun xs => L2.atI xs i) = _
  rw [h]
  rfl
theorem atI_lt {α : Type} {xs : List α} {i : Int} (h0 : 0 ≤ i) (h : i < xs.length) : L2.atI xs i = xs[i.toNat]? := by
  unfold L2.atI L2.ixN
  rw [if_pos h0, if_pos h]
  rfl
@[simp] theorem atI_0 {α : Type} {a : α} {r : List α} : L2.atI (a :: r) 0 = some a := by
  rw [atI_lt (by omega) (by rw [List.length_cons]; omega)]
  rfl
@[simp] theorem atI_1 {α : Type} {a b : α} {r : List α} : L2.atI (a :: b :: r) 1 = some b := by
  rw [atI_lt (by omega) (by rw [List.length_cons, List.length_cons]; omega)]
  rfl
@[simp] theorem atI_2 {α : Type} {a b c : α} {r : List α} : L2.atI (a :: b :: c :: r) 2 = some c := by
  rw [atI_lt (by omega) (by rw [List.length_cons, List.length_cons, List.length_cons]; omega)]
  rfl
@[simp] theorem atI_3 {α : Type} {a b c d : α} {r : List α} : L2.atI (a :: b :: c :: d :: r) 3 = some d := by
  rw [atI_lt (by omega) (by rw [List.length_cons, List.length_cons, List.length_cons, List.length_cons]; omega)]
  rfl
@[simp] theorem newL_t : newL true xs st = .ok (.loc st.length) (st ++ [.lst xs]) := rfl
@[simp] theorem newL_f : newL false xs st = .ok (.lst xs) st := rfl
@[simp] theorem newD_f : newDct false ks xs st = .ok (.dct ks xs) st := rfl
@[simp] theorem omit_t : isOmit (.c .non) = true := rfl
@[simp] theorem part_t {r : Sto → Out D} : partO true r st = .ok none st := rfl
@[simp] theorem part_f {r : Sto → Out D} : partO false r st = (r st).bnd fun d st => partP d st := rfl
@[simp] theorem partP_int : partP (.int i) st = .ok (some i) st := rfl
@[simp] theorem sl_tup {lo hi : Option Int} : slD al (.tup xs) lo hi st = .ok (.tup (cutL xs lo hi)) st := rfl
theorem small_t {n : Nat} (h : n ≤ 1000000) : small n = true := decide_eq_true h
theorem cut_lo {α : Type} {xs : List α} {i : Int} (h0 : 0 ≤ i) (h : i ≤ xs.length) : cutL xs none (some i) = xs.take i.toNat := by
  unfold cutL HT.sIx
  dsimp only
  rw [if_neg (by omega)]
  rw [List.drop_zero, Nat.sub_zero, Nat.min_eq_left (by omega)]
theorem cut_hi {α : Type} {xs : List α} {i : Int} (h0 : 0 ≤ i) (h : i ≤ xs.length) : cutL xs (some i) none = xs.drop i.toNat := by
  unfold cutL HT.sIx
  dsimp only
  rw [if_neg (by omega)]
  rw [Nat.min_eq_left (by omega), List.take_of_length_le (by rw [List.length_drop]; omega)]
/-- data that no name, no script and no changing thing is -/
def data : D → Bool
  | .ro _ => false
  | .loc _ => false
  | .fn _ => false
  | _ => true
def isInt : D → Bool
  | .int _ => true
  | .bl _ => true
  | _ => false
def isBl : D → Bool
  | .bl _ => true
  | _ => false
def isStr : D → Bool
  | .str _ => true
  | _ => false
def isTup : D → Bool
  | .tup _ => true
  | _ => false
def isLs : D → Bool
  | .lst _ => true
  | _ => false
theorem ty_int (h : data d = true) : isTy .int d st = some (isInt d) := by cases d <;> first | rfl | cases h
theorem ty_bool (h : data d = true) : isTy .bool d st = some (isBl d) := by cases d <;> first | rfl | cases h
theorem ty_str (h : data d = true) : isTy .str d st = some (isStr d) := by cases d <;> first | rfl | cases h
theorem ty_tup (h : data d = true) : isTy .tuple d st = some (isTup d) := by cases d <;> first | rfl | cases h
theorem ty_lst (h : data d = true) : isTy .list d st = some (isLs d) := by cases d <;> first | rfl | cases h
end
end Ev
/-! Walks, pots, texts. -/
namespace Ev
open PySem

/-! ### walks -/
theorem for_run {J : Itr} {body : D → Env → Sto → R} {xs : List D} {I : Nat → Env → Sto → Prop} (hJ : ∀ i env st, I i env st → J i st = some xs[i]?)
    (hs : ∀ i d env st, xs[i]? = some d → I i env st → ∃ env' st', body d env st = .nx env' st' ∧ I (i + 1) env' st') :
    ∀ (m i : Nat) (env : Env) (st : Sto), I i env st → i ≤ xs.length → xs.length < m + i → ∃ env' st', forI J body m i env st = .nx env' st' ∧ I xs.length env' st' := by
  intro m
  induction m with
  | zero => intro i env st h h1 h2; omega
  | succ m ih =>
    intro i env st h h1 h2
    unfold forI
    rw [hJ i env st h]
    cases e : xs[i]? with
    | none =>
      have := List.getElem?_eq_none_iff.mp e
      have hi : i = xs.length := by omega
      subst hi
      exact ⟨env, st, rfl, h⟩
    | some d =>
      obtain ⟨env', st', e1, h3⟩ := hs i d env st e h
      have hi : i < xs.length := (List.getElem?_eq_some_iff.mp e).1
      dsimp only
      rw [e1]
      exact ih (i + 1) env' st' h3 (by omega) (by omega)
theorem comp_run {J : Itr} {turn : D → Sto → Out (Option D)} {xs : List D} {I : Nat → List D → Sto → Prop} (hJ : ∀ i acc st, I i acc st → J i st = some xs[i]?) (hl : xs.length ≤ 1000000)
    (hs : ∀ i d acc st, xs[i]? = some d → acc.length = i → I i acc st → ∃ y st', turn d st = .ok (some y) st' ∧ I (i + 1) (acc ++ [y]) st') :
    ∀ (m i : Nat) (acc : List D) (st : Sto), I i acc st → acc.length = i → i ≤ xs.length → xs.length < m + i → ∃ ys st', compI J turn m i acc st = .ok ys st' ∧ ys.length = xs.length ∧ I xs.length ys st' := by
  intro m
  induction m with
  | zero => intro i acc st h h0 h1 h2; omega
  | succ m ih =>
    intro i acc st h h0 h1 h2
    unfold compI
    rw [hJ i acc st h]
    cases e : xs[i]? with
    | none =>
      have := List.getElem?_eq_none_iff.mp e
      have hi : i = xs.length := by omega
      subst hi
      exact ⟨acc, st, rfl, h0, h⟩
    | some d =>
      obtain ⟨y, st', e1, h3⟩ := hs i d acc st e h0 h
      have hi : i < xs.length := (List.getElem?_eq_some_iff.mp e).1
      dsimp only
      rw [e1]
      dsimp only [Out.bnd]
      have : acc.length < most := by unfold most; omega
      rw [if_pos this]
      exact ih (i + 1) (acc ++ [y]) st' h3 (by simp [h0]) (by omega) (by omega)
/-- each thing judged by a function that changes nothing -/
theorem comp_map {turn : D → Sto → Out (Option D)} {f : D → D} {st : Sto} {xs : List D} (hl : xs.length ≤ 1000000) (hs : ∀ d ∈ xs, turn d st = .ok (some (f d)) st) : compI (fun i _ => some xs[i]?) turn turns 0 [] st = .ok (xs.map f) st := by
  obtain ⟨ys, st', e, _, h1, h2⟩ := comp_run (J := fun i _ => some xs[i]?) (turn := turn) (xs := xs) (I := fun i acc s => s = st ∧ acc = (xs.take i).map f) (fun _ _ _ _ => rfl) hl
    (fun i d acc s e _ h => by
      obtain ⟨rfl, rfl⟩ := h
      refine ⟨f d, s, hs d (List.mem_of_getElem? e), rfl, ?_⟩
      rw [List.take_add_one, e, List.map_append]
      rfl) turns 0 [] st ⟨rfl, rfl⟩ rfl (Nat.zero_le _) (by unfold turns; omega)
  rw [e, h1, h2, List.take_length]
theorem it_tup {xs : List D} {st : Sto} : itOf .seq [.tup xs] st = some fun i _ => some xs[i]? := rfl
theorem it_lst {xs : List D} {st : Sto} : itOf .seq [.lst xs] st = some fun i _ => some xs[i]? := rfl
theorem it_loc {n : Nat} {xs : List D} {st : Sto} (h : st[n]? = some (.lst xs)) : itOf .seq [.loc n] st = some (atLoc n) := by
  show (if isLst (.loc n) st then some (atLoc n) else none) = _
  have : isLst (.loc n) st = true := by
    unfold isLst
    dsimp only
    rw [h]
  rw [this]
  rfl
theorem atLoc_at {n i : Nat} {xs : List D} {st : Sto} (h : st[n]? = some (.lst xs)) : atLoc n i st = some xs[i]? := by
  unfold atLoc
  rw [h]
/-- the numbers from 0 on -/
def upTo (j : Nat) : List D := (List.range j).map fun (i : Nat) => D.int (i : Int)
theorem upTo_len {j : Nat} : (upTo j).length = j := by
  unfold upTo
  simp
theorem upTo_at {j i : Nat} {d : D} (h : (upTo j)[i]? = some d) : d = .int i ∧ i < j := by
  unfold upTo at h
  rw [List.getElem?_map] at h
  have hi : i < j := by
    by_cases hi : i < j
    · exact hi
    · rw [List.getElem?_eq_none_iff.mpr (by simpa using hi)] at h
      cases h
  rw [List.getElem?_range hi] at h
  cases h
  exact ⟨rfl, hi⟩
theorem it_rng {j : Nat} {st : Sto} (h : j ≤ 1000000) : itOf .rng1 [.int j] st = some fun i _ => some (upTo j)[i]? := by
  show itRng 0 j = _
  unfold itRng
  rw [if_pos (by omega)]
  congr 1
  funext i s
  congr 1
  by_cases hi : i < j
  · rw [if_pos (by omega)]
    unfold upTo
    rw [List.getElem?_map, List.getElem?_range hi]
    simp
  · rw [if_neg (by omega)]
    exact (List.getElem?_eq_none_iff.mpr (by rw [upTo_len]; omega)).symm

/-! ### pots -/
def Pot (n : Nat) (st : Sto) : Prop := ∃ p0 p1 : Int, st[n]? = some (.lst [.int p0, .int p1]) ∧ 0 ≤ p1 ∧ p1 < 2147483648
/-- all else stays -/
structure Same (n : Nat) (st st' : Sto) : Prop where
  len : st'.length = st.length
  at_ : ∀ j, j ≠ n → st'[j]? = st[j]?
theorem Same.refl (n : Nat) (st : Sto) : Same n st st := ⟨rfl, fun _ _ => rfl⟩
theorem Same.trans {n : Nat} {a b c : Sto} (h : Same n a b) (g : Same n b c) : Same n a c := ⟨g.len.trans h.len, fun j hj => (g.at_ j hj).trans (h.at_ j hj)⟩
theorem same_set {n : Nat} {st : Sto} {o : Ob} : Same n st (st.set n o) := ⟨by simp, fun j hj => by rw [List.getElem?_set_ne (fun z => hj z.symm)]⟩
/-- the store grows; but for n, what was stays -/
structure Grow (n : Nat) (st st' : Sto) : Prop where
  len : st.length ≤ st'.length
  at_ : ∀ j, j < st.length → j ≠ n → st'[j]? = st[j]?
theorem Grow.refl (n : Nat) (st : Sto) : Grow n st st := ⟨Nat.le_refl _, fun _ _ _ => rfl⟩
theorem Grow.trans {n : Nat} {a b c : Sto} (h : Grow n a b) (g : Grow n b c) : Grow n a c := ⟨Nat.le_trans h.len g.len, fun j h1 h2 => (g.at_ j (Nat.lt_of_lt_of_le h1 h.len) h2).trans (h.at_ j h1 h2)⟩
theorem Same.grow {n : Nat} {a b : Sto} (h : Same n a b) : Grow n a b := ⟨Nat.le_of_eq h.len.symm, fun j _ hj => h.at_ j hj⟩
theorem grow_new {n : Nat} {a : Sto} {o : Ob} : Grow n a (a ++ [o]) := ⟨by simp, fun j h1 _ => List.getElem?_append_left h1⟩
theorem Pot.new {n : Nat} {st : Sto} {o : Ob} (h : Pot n st) : Pot n (st ++ [o]) := by
  obtain ⟨p0, p1, e, h0, h1⟩ := h
  exact ⟨p0, p1, by rw [List.getElem?_append_left (List.getElem?_eq_some_iff.mp e).1]; exact e, h0, h1⟩
theorem Pot.lt {n : Nat} {st : Sto} (h : Pot n st) : n < st.length := by
  obtain ⟨p0, p1, e, h0, h1⟩ := h
  exact (List.getElem?_eq_some_iff.mp e).1
theorem Pot.set {n m : Nat} {st : Sto} {o : Ob} (h : Pot n st) (hm : m ≠ n) : Pot n (st.set m o) := by
  obtain ⟨p0, p1, e, h0, h1⟩ := h
  exact ⟨p0, p1, by rw [List.getElem?_set_ne hm]; exact e, h0, h1⟩
/-- a draw's text -/
def drawDf (A B M M2 Q : Int) (ps : List Str) : Df := ⟨ps, 3, [
    (.iff (.cmp .gt (.ix (.v 0) (.c (.int (0)))) (.c (.int (0)))) [(.asg (.t [(.s (.v 0) (.c (.int (0)))), (.n 2)]) (.pr true .divmod [(.ix (.v 0) (.c (.int (0)))), (.v 1)])), (.ret (some (.v 2)))] []),
    (.asg (.s (.v 0) (.c (.int (1)))) (.bin true .mod (.pr false .int1 [(.bin false .add (.bin false .mul (.ix (.v 0) (.c (.int (1)))) (.c (.int A))) (.c (.int B)))]) (.c (.int M)))),
    (.ret (some (.bin true .mod (.pr false .int1 [(.bin false .fdiv (.bin false .mod (.pr false .int1 [(.bin false .mul (.ix (.v 0) (.c (.int (1)))) (.ix (.v 0) (.c (.int (1)))))]) (.c (.int M2))) (.c (.int Q)))]) (.v 1))))]⟩
theorem setItem_loc {n : Nat} {xs : List D} {i : Int} {st : Sto} {v : D} (h : st[n]? = some (.lst xs)) (h0 : 0 ≤ i) (h1 : i < xs.length) : setItem (.loc n) (.int i) v st = some (st.set n (.lst (xs.set i.toNat v))) := by
  show (match st[n]? with
    | some (.lst xs) => (L2.ixN xs.length i).map fun j => setAt st n (.lst (xs.set j v))
    | _ => none) = _
  rw [h]
  dsimp only
  unfold L2.ixN
  rw [if_pos h0, if_pos h1]
  rfl
theorem draw_ok {T : Tx} {x y z : Str} {A B M M2 Q : Int} (hx : T.lookup x = some (drawDf A B M M2 Q [y, z])) (hA : -(2 ^ 64) < A ∧ A < 2 ^ 64) (hM : 0 < M ∧ M < 2147483648) (hM2 : 0 < M2) (hQ : 0 < Q ∧ Q < 1073741824) (k n : Nat) (m : Int) (st : Sto) (P : Pot n st) (h0 : 0 < m) (h1 : m < 1073741824) :
    ∃ (d : Int) (st' : Sto), (T.at (k + 1)).run x [.loc n, .int m] st = .ok (.int d) st' ∧ 0 ≤ d ∧ d < m ∧ Pot n st' ∧ Same n st st' := by
  obtain ⟨p0, p1, e, hp0, hp1⟩ := P
  rw [run_at hx _ _ _ rfl]
  have hn : n < st.length := (List.getElem?_eq_some_iff.mp e).1
  by_cases hp : 0 < p0
  · refine ⟨p0 % m, st.set n (.lst [.int (p0 / m), .int p1]), ?_, Int.emod_nonneg _ (by omega), Int.emod_lt_of_pos _ h0, ⟨p0 / m, p1, ?_, hp0, hp1⟩, same_set⟩
    · have i0 : ixD (.loc n) (.int 0) st = some (.int p0) := by
        rw [ix_loc e]
        simp
      have s0 : setItem (.loc n) (.int 0) (.int (p0 / m)) st = some (st.set n (.lst [.int (p0 / m), .int p1])) := by
        rw [setItem_loc e (by omega) (by simp)]
        rfl
      simp [drawDf, i0, hp, h0, h1, set_s, s0]
    · rw [List.getElem?_set_self hn]
  · have hq0 : 0 ≤ (p1 * A + B) % M := Int.emod_nonneg _ (by omega)
    have hq1 : (p1 * A + B) % M < M := Int.emod_lt_of_pos _ hM.1
    have i0 : ixD (.loc n) (.int 0) st = some (.int p0) := by
      rw [ix_loc e]
      simp
    have i1 : ixD (.loc n) (.int 1) st = some (.int p1) := by
      rw [ix_loc e]
      simp
    have s0 : setItem (.loc n) (.int 1) (.int ((p1 * A + B) % M)) st = some (st.set n (.lst [.int p0, .int ((p1 * A + B) % M)])) := by
      rw [setItem_loc e (by omega) (by simp)]
      rfl
    have e2 : (st.set n (.lst [.int p0, .int ((p1 * A + B) % M)]))[n]? = some (.lst [.int p0, .int ((p1 * A + B) % M)]) := List.getElem?_set_self hn
    have i2 : ixD (.loc n) (.int 1) (st.set n (.lst [.int p0, .int ((p1 * A + B) % M)])) = some (.int ((p1 * A + B) % M)) := by
      rw [ix_loc e2]
      simp
    have b1 : (-(2 ^ 64) < p1 ∧ p1 < 2 ^ 64) ∨ (-(2 ^ 64) < A ∧ A < 2 ^ 64) := .inr hA
    obtain ⟨q, hq⟩ : ∃ q, q = (p1 * A + B) % M := ⟨_, rfl⟩
    rw [← hq] at hq0 hq1 s0 e2 i2
    have b2 : (-(2 ^ 64) < q ∧ q < 2 ^ 64) ∨ (-(2 ^ 64) < q ∧ q < 2 ^ 64) := .inl ⟨by omega, by omega⟩
    refine ⟨(q * q) % M2 / Q % m, st.set n (.lst [.int p0, .int q]), ?_, Int.emod_nonneg _ (by omega), Int.emod_lt_of_pos _ h0, ⟨p0, q, e2, hq0, by omega⟩, same_set⟩
    simp only [drawDf, sts_cons, st_iff, ev_cmp, ev_ix, ev_v0, ev_v1, bnd_oks, ev_c, i0, i1, opt_some, cmp_gt, tr_bl, toR_ok, seq_nx, sts_nil, decide_eq_true_eq, if_neg hp, List.map_cons, List.map_nil, List.cons_append, List.nil_append, st_asg, ev_bin, ev_pr, evs_cons, evs_nil, bin_mul_int, if_pos b1, bin_add_int, pr_int, bin_mod_int, if_pos hM.1, set_s, noEx_ok, ← hq, s0, st_ret, i2, if_pos b2, if_pos hM2, bin_fdiv_int, if_pos hQ, if_pos h0, seq_rt, end_rt]
end Ev
/-! Texts of data; picks, puts, pots. -/
namespace Ev
open PySem

mutual
/-- no name, no script, no changing thing in it -/
def closed : D → Bool
  | .tup xs => closedAll xs
  | .lst xs => closedAll xs
  | .dct _ vs => closedAll vs
  | .ro _ => false
  | .loc _ => false
  | .fn _ => false
  | _ => true
def closedAll : List D → Bool
  | [] => true
  | x :: xs => closed x && closedAll xs
end
theorem closed_mem : ∀ {xs : List D}, closedAll xs = true → ∀ x ∈ xs, closed x = true
  | x :: xs, h, y, hy => by
    unfold closedAll at h
    rw [Bool.and_eq_true] at h
    cases hy with
    | head => exact h.1
    | tail _ hy => exact closed_mem h.2 y hy
theorem closed_all : ∀ {xs : List D}, (∀ x ∈ xs, closed x = true) → closedAll xs = true
  | [], _ => by unfold closedAll; rfl
  | x :: xs, h => by
    unfold closedAll
    rw [h x List.mem_cons_self, closed_all fun y hy => h y (List.mem_cons_of_mem _ hy)]
    rfl
theorem closed_tup {xs : List D} (h : closed (.tup xs) = true) : ∀ x ∈ xs, closed x = true := by
  unfold closed at h
  exact closed_mem h
theorem closed_data {d : D} (h : closed d = true) : data d = true := by
  cases d <;> first | rfl | (unfold closed at h; cases h)

/-- how d's text lies: depth, width -/
def Fn (k w : Nat) (d : D) : Prop := ∃ p : PyData, (∀ (st : Sto) (n : Nat), k ≤ n → toPy st n d = some p) ∧ p.showable = true ∧ wid p ≤ w
theorem Fn.mono {k w k' w' : Nat} {d : D} (h : Fn k w d) (hk : k ≤ k') (hw : w ≤ w') : Fn k' w' d := by
  obtain ⟨p, h1, h2, h3⟩ := h
  exact ⟨p, fun st n hn => h1 st n (Nat.le_trans hk hn), h2, Nat.le_trans h3 hw⟩
theorem fn_non : Fn 0 4 .non := ⟨.none, fun st n _ => by cases n <;> rfl, by decide +kernel, by unfold wid; omega⟩
theorem fn_bl (b : Bool) : Fn 0 5 (.bl b) := ⟨.bool b, fun st n _ => by cases n <;> rfl, by cases b <;> decide +kernel, by unfold wid; omega⟩
theorem fn_int {i : Int} (h : -(2 ^ 200) < i ∧ i < 2 ^ 200) : Fn 0 203 (.int i) := by
  have hl : i.natAbs.log2 < 200 := by
    by_cases h0 : i.natAbs = 0
    · rw [h0]; decide
    · rw [Nat.log2_lt h0]
      omega
  refine ⟨.int i, fun st n _ => by cases n <;> rfl, ?_, ?_⟩
  · simp only [PyData.showable, decide_eq_true_eq]
    omega
  · unfold wid
    omega
theorem fn_str {x : Str} {w : Nat} (h : widStr x ≤ w) : Fn 0 w (.str x) := by
  refine ⟨.str x, fun st n _ => by cases n <;> rfl, ?_, ?_⟩
  · simp only [PyData.showable]
  · unfold wid
    exact h
theorem fn_list {k w : Nat} : ∀ {xs : List D}, (∀ d ∈ xs, Fn k w d) → ∃ ps : List PyData, (∀ (st : Sto) (n : Nat), k ≤ n → xs.mapM (toPy st n) = some ps) ∧ PyData.showableAll ps = true ∧ widAll ps ≤ xs.length * (w + 2)
  | [], _ => ⟨[], fun st n _ => by simp, by simp only [PyData.showableAll], by unfold widAll; omega⟩
  | d :: xs, h => by
    obtain ⟨p, h1, h2, h3⟩ := h d List.mem_cons_self
    obtain ⟨ps, g1, g2, g3⟩ := fn_list (xs := xs) fun y hy => h y (List.mem_cons_of_mem _ hy)
    refine ⟨p :: ps, fun st n hn => ?_, ?_, ?_⟩
    · rw [List.mapM_cons, h1 st n hn, g1 st n hn]
      rfl
    · simp only [PyData.showableAll, h2, g2, Bool.and_true]
    · unfold widAll
      rw [List.length_cons, Nat.add_mul]
      omega
theorem fn_tup {k w : Nat} {xs : List D} (h : ∀ d ∈ xs, Fn k w d) : Fn (k + 1) (xs.length * (w + 2) + 3) (.tup xs) := by
  obtain ⟨ps, g1, g2, g3⟩ := fn_list h
  refine ⟨.tuple ps, fun st n hn => ?_, ?_, ?_⟩
  · cases n with
    | zero => omega
    | succ n =>
      show (xs.mapM (toPy st n)).map PyData.tuple = _
      rw [g1 st n (by omega)]
      rfl
  · simp only [PyData.showable, g2]
  · unfold wid
    omega
theorem fn_lst {k w : Nat} {xs : List D} (h : ∀ d ∈ xs, Fn k w d) : Fn (k + 1) (xs.length * (w + 2) + 3) (.lst xs) := by
  obtain ⟨ps, g1, g2, g3⟩ := fn_list h
  refine ⟨.list ps, fun st n hn => ?_, ?_, ?_⟩
  · cases n with
    | zero => omega
    | succ n =>
      show (xs.mapM (toPy st n)).map PyData.list = _
      rw [g1 st n (by omega)]
      rfl
  · simp only [PyData.showable, g2]
  · unfold wid
    omega
theorem fn_dct0 : Fn 1 2 (.dct [] []) := by
  refine ⟨.dict [], fun st n hn => ?_, by simp only [PyData.showable, PyData.showableKv], by unfold wid widKv; omega⟩
  cases n with
  | zero => omega
  | succ n => rfl
theorem fn_repr {k w : Nat} {d : D} (h : Fn k w d) (hk : k ≤ 12) (hw : w ≤ 1000000) : ∃ x, ∀ st, reprD st d = some (.str x) := by
  obtain ⟨p, h1, h2, h3⟩ := h
  refine ⟨p.shown, fun st => ?_⟩
  unfold reprD
  rw [h1 st deep hk]
  dsimp only
  rw [if_pos ⟨h2, Nat.le_trans h3 hw⟩]
/-- a list of truths -/
theorem bools_repr (bs : List Bool) (hl : bs.length ≤ 100) : ∃ x, ∀ st, reprD st (.lst (bs.map D.bl)) = some (.str x) := by
  refine fn_repr (fn_lst (k := 0) (w := 5) fun d hd => ?_) (by omega) ?_
  · obtain ⟨b, _, rfl⟩ := List.mem_map.mp hd
    exact fn_bl b
  · rw [List.length_map]
    omega

/-! ### picks, puts -/
def DrawOk (T : Tx) (x : Str) : Prop := ∀ (k n : Nat) (m : Int) (st : Sto), Pot n st → 0 < m → m < 1073741824 → ∃ (d : Int) (st' : Sto), (T.at (k + 1)).run x [.loc n, .int m] st = .ok (.int d) st' ∧ 0 ≤ d ∧ d < m ∧ Pot n st' ∧ Same n st st'
def pickDf (x : Str) (ps : List Str) : Df := ⟨ps, 2, [(.ret (some (.ix (.v 1) (.call x [] [(.v 0), (.pr false .len [(.v 1)])]))))]⟩
theorem pick_ok {T : Tx} {x y p q : Str} {dd : Df} (hy : T.lookup y = some (pickDf x [p, q])) (hx : T.lookup x = some dd) (h2 : dd.par.length = 2) (h : DrawOk T x) (k n : Nat) (xs : List D) (st : Sto) (P : Pot n st) (h0 : xs ≠ []) (h1 : xs.length < 1000000) :
    ∃ (d : D) (st' : Sto), (T.at (k + 2)).run y [.loc n, .lst xs] st = .ok d st' ∧ d ∈ xs ∧ Pot n st' ∧ Same n st st' := by
  have hl : 0 < xs.length := List.length_pos_iff.mpr h0
  obtain ⟨i, st', e, i0, i1, P', S'⟩ := h k n xs.length st P (by omega) (by omega)
  obtain ⟨d, hd⟩ : ∃ d, xs[i.toNat]? = some d := ⟨_, List.getElem?_eq_getElem (by omega)⟩
  refine ⟨d, st', ?_, List.mem_of_getElem? hd, P', S'⟩
  rw [run_at hy _ _ _ rfl]
  have c : callC (T.at (k + 1)) x [] [.loc n, .int xs.length] st = .ok (.int i) st' := by
    rw [call_pos hx (show [D.loc n, D.int xs.length].length = dd.par.length by rw [h2]; rfl)]
    exact e
  have g : L2.atI xs i = some d := by rw [atI_lt i0 i1, hd]
  simp [pickDf, c, g]
def putDf (ps : List Str) : Df := ⟨ps, 3, [
    (.ret (some (.bin true .add (.bin false .add (.sl false (.v 0) (.c .non) (.v 1)) (.tup [(.v 2)])) (.sl false (.v 0) (.bin false .add (.v 1) (.c (.int (1)))) (.c .non)))))]⟩
theorem put_ok {T : Tx} {y p q r : Str} (hy : T.lookup y = some (putDf [p, q, r])) (k : Nat) (xs : List D) (i : Int) (d : D) (st : Sto) (h0 : 0 ≤ i) (h1 : i < xs.length) (h2 : xs.length ≤ 1000) : (T.at (k + 1)).run y [.tup xs, .int i, d] st = .ok (.tup (xs.set i.toNat d)) st := by
  rw [run_at hy _ _ _ rfl]
  have c1 : cutL xs none (some i) = xs.take i.toNat := cut_lo h0 (by omega)
  have c2 : cutL xs (some (i + 1)) none = xs.drop (i + 1).toNat := cut_hi (by omega) (by omega)
  have c3 : (i + 1).toNat = i.toNat + 1 := by omega
  have s1 : small ((xs.take i.toNat).length + 1) = true := small_t (by rw [List.length_take]; omega)
  have s2 : small ((xs.take i.toNat ++ [d]).length + (xs.drop (i.toNat + 1)).length) = true := small_t (by
    rw [List.length_append, List.length_take, List.length_drop, List.length_singleton]
    omega)
  have e : xs.take i.toNat ++ [d] ++ xs.drop (i.toNat + 1) = xs.set i.toNat d := by
    rw [List.set_eq_take_append_cons_drop, if_pos (by omega), List.append_assoc]
    rfl
  have o1 : isOmit (E.v 1) = false := rfl
  have o2 : isOmit (.bin false .add (.v 1) (.c (.int (1)))) = false := rfl
  have sm1 : small 1 = true := by decide +kernel
  simp only [putDf, sts_cons, st_ret, ev_bin, ev_sl, ev_v0, ev_v1, ev_v2, ev_c, bnd_oks, omit_t, part_t, part_f, o1, o2, partP_int, sl_tup, ev_tup, evs_cons, evs_nil, List.length_cons, List.length_nil, Nat.zero_add, sm1, if_true, bin_add_tup, bin_add_int, c1, c2, c3, toR_ok, seq_rt, end_rt, List.map_cons, List.map_nil, List.cons_append, List.nil_append, s1]
  rw [if_pos s2, toR_ok, seq_rt, end_rt, e]
/-- a pot's text -/
def potDf (A B M F G H M2 : Int) (ps : List Str) : Df := ⟨ps, 3, [
    (.asg (.n 2) (.ite (.cmp .lt (.v 1) (.pr false .len [(.v 0)])) (.pr true .abs [(.ix (.v 0) (.v 1))]) (.bin true .add (.bin false .mul (.c (.int A)) (.v 1)) (.c (.int B))))),
    (.ret (some (.lst true [(.pr false .max2 [(.c (.int (0))), (.bin false .sub (.v 2) (.bin false .pow (.c (.int (10))) (.c (.int (18)))))]), (.bin false .add (.bin false .mod (.pr false .int1 [(.bin false .add (.bin false .add (.bin false .mul (.bin false .mod (.pr false .int1 [(.v 2)]) (.c (.int M))) (.c (.int F))) (.bin false .mul (.c (.int G)) (.v 1))) (.c (.int H)))]) (.c (.int M2))) (.c (.int (1))))])))]⟩
theorem pot_ok {T : Tx} {y p q : Str} {A B M F G H M2 : Int} (hy : T.lookup y = some (potDf A B M F G H M2 [p, q])) (hM : 0 < M ∧ M < 2147483648) (hM2 : 0 < M2 ∧ M2 < 2147483647) (k : Nat) (ns : List Int) (i : Nat) (st : Sto) (hi : i ≤ 1000) :
    ∃ st', (T.at (k + 1)).run y [.ro ns, .int i] st = .ok (.loc st.length) st' ∧ Pot st.length st' ∧ Grow st.length st st' ∧ st'.length = st.length + 1 := by
  rw [run_at hy _ _ _ rfl]
  have bA : (-(2 ^ 64) < A ∧ A < 2 ^ 64) ∨ (-(2 ^ 64) < (i : Int) ∧ (i : Int) < 2 ^ 64) := .inr ⟨by omega, by omega⟩
  have bG : (-(2 ^ 64) < G ∧ G < 2 ^ 64) ∨ (-(2 ^ 64) < (i : Int) ∧ (i : Int) < 2 ^ 64) := .inr ⟨by omega, by omega⟩
  have fin : ∀ c : Int, ∃ st', (evSs (T.at k) [(.ret (some (.lst true [(.pr false .max2 [(.c (.int (0))), (.bin false .sub (.v 2) (.bin false .pow (.c (.int (10))) (.c (.int (18)))))]), (.bin false .add (.bin false .mod (.pr false .int1 [(.bin false .add (.bin false .add (.bin false .mul (.bin false .mod (.pr false .int1 [(.v 2)]) (.c (.int M))) (.c (.int F))) (.bin false .mul (.c (.int G)) (.v 1))) (.c (.int H)))]) (.c (.int M2))) (.c (.int (1))))])))] [some (.ro ns), some (.int i), some (.int c)] st).end_ = .ok (.loc st.length) st' ∧ Pot st.length st' ∧ Grow st.length st st' ∧ st'.length = st.length + 1 := by
    intro c
    have m0 : 0 ≤ c % M := Int.emod_nonneg _ (by omega)
    have m1 : c % M < M := Int.emod_lt_of_pos _ hM.1
    have bF : (-(2 ^ 64) < c % M ∧ c % M < 2 ^ 64) ∨ (-(2 ^ 64) < F ∧ F < 2 ^ 64) := .inl ⟨by omega, by omega⟩
    have q0 : 0 ≤ (c % M * F + G * i + H) % M2 := Int.emod_nonneg _ (by omega)
    have q1 : (c % M * F + G * i + H) % M2 < M2 := Int.emod_lt_of_pos _ hM2.1
    have pw : (0 : Int) ≤ 18 ∧ (18 : Int) ≤ 1000000 ∧ (10 : Int).natAbs < 2 ^ 64 := by decide
    have sm2 : small 2 = true := by decide +kernel
    refine ⟨st ++ [.lst [.int (if c - 10 ^ (18 : Int).toNat > 0 then c - 10 ^ (18 : Int).toNat else 0), .int ((c % M * F + G * i + H) % M2 + 1)]], ?_, ⟨_, _, List.getElem?_concat_length, by omega, by omega⟩, grow_new, by simp⟩
    simp only [sts_cons, st_ret, ev_lst, evs_cons, evs_nil, ev_pr, ev_c, ev_bin, ev_v0, ev_v1, ev_v2, bnd_oks, bin_pow_int, if_pos pw, bin_sub_int, pr_max, pr_int, bin_mod_int, if_pos hM.1, bin_mul_int, if_pos bF, if_pos bG, bin_add_int, if_pos hM2.1, List.length_cons, List.length_nil, Nat.zero_add, Nat.reduceAdd, sm2, if_true, newL_t, toR_ok, seq_rt, end_rt]
  by_cases hl : i < ns.length
  · obtain ⟨c, hc⟩ : ∃ c, ns[i]? = some c := ⟨_, List.getElem?_eq_getElem hl⟩
    have g : L2.atI (ns.map D.int) (i : Int) = some (.int c) := by
      rw [atI_lt (by omega) (by rw [List.length_map]; omega), Int.toNat_natCast, List.getElem?_map, hc]
      rfl
    have hl2 : (i : Int) < ns.length := by omega
    obtain ⟨st', f1, f2⟩ := fin (if c < 0 then -c else c)
    refine ⟨st', ?_, f2⟩
    rw [← f1]
    simp only [potDf, sts_cons, st_asg, ev_ite, ev_cmp, ev_v0, ev_v1, ev_pr, evs_cons, evs_nil, bnd_oks, pr_len, len_ro, opt_some, cmp_lt, hl2, decide_true, tr_bl, if_true, ev_ix, ix_ro, g, pr_abs, toR_ok, set_n, noEx_ok, seq_nx, List.map_cons, List.map_nil, List.cons_append, List.nil_append, List.length_cons, List.length_nil]
    rfl
  · have hl2 : ¬ (i : Int) < ns.length := by omega
    obtain ⟨st', f1, f2⟩ := fin (A * i + B)
    refine ⟨st', ?_, f2⟩
    rw [← f1]
    simp only [potDf, sts_cons, st_asg, ev_ite, ev_cmp, ev_v0, ev_v1, ev_pr, evs_cons, evs_nil, bnd_oks, pr_len, len_ro, opt_some, cmp_lt, hl2, decide_false, tr_bl, Bool.false_eq_true, if_false, ev_bin, ev_c, bin_mul_int, if_pos bA, bin_add_int, toR_ok, set_n, noEx_ok, seq_nx, List.map_cons, List.map_nil, List.cons_append, List.nil_append, List.length_cons, List.length_nil]
    rfl
end Ev
/-! What must hold ahead, statement by statement. -/
namespace Ev
open PySem

/-- Q: of a return; N: of the end; Z: of a continue -/
def WP0 (Q : D → Sto → Prop) (N Z : Env → Sto → Prop) : R → Prop
  | .nx e s => N e s
  | .rt d s => Q d s
  | .ct e s => Z e s
  | _ => False
/-- the same, closed to unfolding -/
structure WP (Q : D → Sto → Prop) (N Z : Env → Sto → Prop) (r : R) : Prop where
  h : WP0 Q N Z r
abbrev noCt : Env → Sto → Prop := fun _ _ => False
section
variable {T : Tx} {C : Cal} {Q : D → Sto → Prop} {N Z : Env → Sto → Prop} {env env' : Env} {st st' : Sto} {s : S} {ss a b body : List S} {e t : E} {d v : D} {i : Nat}
theorem wp_run {x : Str} {f : Df} {k : Nat} {ds : List D} {P : D → Sto → Prop} (env0 : Env) (h : T.lookup x = some f) (hl : ds.length = f.par.length) (he : ds.map some ++ List.replicate (f.names - ds.length) none = env0) (w : WP P (fun _ s => P .non s) noCt (evSs (T.at k) f.body env0 st)) :
    ∃ v st', (T.at (k + 1)).run x ds st = .ok v st' ∧ P v st' := by
  subst he
  have w := w.h
  rw [run_at h _ _ _ hl]
  cases hr : evSs (T.at k) f.body (ds.map some ++ List.replicate (f.names - ds.length) none) st with
  | nx e s => rw [hr] at w; exact ⟨_, _, rfl, w⟩
  | rt d s => rw [hr] at w; exact ⟨_, _, rfl, w⟩
  | ct e s => rw [hr] at w; exact w.elim
  | bk e s => rw [hr] at w; exact w.elim
  | ex c v e s => rw [hr] at w; exact w.elim
  | bad => rw [hr] at w; exact w.elim
theorem wp_nil (h : N env st) : WP Q N Z (evSs C [] env st) := ⟨h⟩
theorem wp_cons (h : WP Q (fun e s => WP Q N Z (evSs C ss e s)) Z (evS C s env st)) : WP Q N Z (evSs C (s :: ss) env st) := by
  rw [sts_cons]
  have h := h.h
  refine ⟨?_⟩
  cases hr : evS C s env st with
  | nx e s => rw [hr] at h; exact WP.h h
  | rt d s => rw [hr] at h; exact h
  | ct e s => rw [hr] at h; exact h
  | bk e s => rw [hr] at h; exact h.elim
  | ex c v e s => rw [hr] at h; exact h.elim
  | bad => rw [hr] at h; exact h.elim
theorem wp_nx {r : R} (h : r = .nx env' st') (k : N env' st') : WP Q N Z r := by rw [h]; exact ⟨k⟩
theorem wp_rt {r : R} (h : r = .rt d st') (k : Q d st') : WP Q N Z r := by rw [h]; exact ⟨k⟩
theorem wp_asg (h : evE C e env st = .ok d st') (k : N (env.set i (some d)) st') : WP Q N Z (evS C (.asg (.n i) e) env st) := by
  rw [st_asg, h]
  exact ⟨k⟩
theorem wp_ret (h : evE C e env st = .ok d st') (k : Q d st') : WP Q N Z (evS C (.ret (some e)) env st) := by
  rw [st_ret, h]
  exact ⟨k⟩
theorem wp_ex (h : evE C e env st = .ok d st') (k : N env st') : WP Q N Z (evS C (.ex e) env st) := by
  rw [st_ex, h]
  exact ⟨k⟩
theorem wp_if {k : Bool} (h : evE C t env st = .ok v st') (ht : truth st' v = some k) (h1 : k = true → WP Q N Z (evSs C a env st')) (h2 : k = false → WP Q N Z (evSs C b env st')) : WP Q N Z (evS C (.iff t a b) env st) := by
  rw [st_iff, h, bnd_oks, ht]
  cases k with
  | true => exact h1 rfl
  | false => exact h2 rfl
/-- a test that fails: on -/
theorem wp_no (h : evE C t env st = .ok (.bl false) st') (k : WP Q N Z (evSs C b env st')) : WP Q N Z (evS C (.iff t a b) env st) := wp_if h rfl (fun z => by cases z) fun _ => k
theorem wp_par2 {i j : Nat} {x y : E} {p q : D} {s1 s2 : Sto} (h1 : evE C x env st = .ok p s1) (h2 : evE C y env s1 = .ok q s2) (k : N ((env.set i (some p)).set j (some q)) s2) : WP Q N Z (evS C (.par [i, j] [x, y]) env st) := by
  rw [st_par, evs_cons, h1, bnd_oks, evs_cons, h2]
  exact ⟨k⟩
theorem wp_for {tn : TN} {ik : IK} {src : List E} {ds : List D} {J : Itr} {xs : List D} {st1 : Sto} (I : Nat → Env → Sto → Prop) (hsrc : evEs C src env st = .ok ds st1) (hit : itOf ik ds st1 = some J) (hl : xs.length ≤ 1000000) (hJ : ∀ i env st, I i env st → J i st = some xs[i]?)
    (h0 : I 0 env st1) (hs : ∀ i d env st, xs[i]? = some d → I i env st → ∃ env1, setT tn d env = some env1 ∧ WP Q (fun e s => I (i + 1) e s) (fun e s => I (i + 1) e s) (evSs C body env1 st)) (hk : ∀ env st, I xs.length env st → N env st) :
    WP Q N Z (evS C (.for_ tn ik src body) env st) := by
  rw [st_for, hsrc, toR_ok, hit]
  have go : ∀ (m i : Nat) (env : Env) (st : Sto), I i env st → i ≤ xs.length → xs.length < m + i → WP Q N Z (forI J (fun d env st => match setT tn d env with
      | none => .bad
      | some env => evSs C body env st) m i env st) := by
    intro m
    induction m with
    | zero => intro i env st h h1 h2; omega
    | succ m ih =>
      intro i env st h h1 h2
      unfold forI
      rw [hJ i env st h]
      cases e : xs[i]? with
      | none =>
        have := List.getElem?_eq_none_iff.mp e
        have hi : i = xs.length := by omega
        subst hi
        exact ⟨hk env st h⟩
      | some d =>
        obtain ⟨env1, e1, w⟩ := hs i d env st e h
        have hi : i < xs.length := (List.getElem?_eq_some_iff.mp e).1
        dsimp only
        rw [e1]
        dsimp only
        have w := w.h
        cases hr : evSs C body env1 st with
        | nx e s => rw [hr] at w; exact ih (i + 1) e s w (by omega) (by omega)
        | ct e s => rw [hr] at w; exact ih (i + 1) e s w (by omega) (by omega)
        | rt d s => rw [hr] at w; exact ⟨w⟩
        | bk e s => rw [hr] at w; exact w.elim
        | ex c v e s => rw [hr] at w; exact w.elim
        | bad => rw [hr] at w; exact w.elim
  exact go turns 0 env st1 h0 (Nat.zero_le _) (by unfold turns; omega)
end
theorem repr_loc {st : Sto} {q : Nat} {xs : List D} (h : st[q]? = some (.lst xs)) : reprD st (.loc q) = reprD st (.lst xs) := by
  have e : toPy st deep (.loc q) = toPy st deep (.lst xs) := by
    show (match st[q]? with
      | some (.lst xs) => (xs.mapM (toPy st 11)).map PyData.list
      | some (.dct ks vs) => if ks.length = vs.length then (vs.mapM (toPy st 11)).map fun ps => PyData.dict (zipKv ks ps) else none
      | none => none) = (xs.mapM (toPy st 11)).map PyData.list
    rw [h]
  unfold reprD
  rw [e]
theorem Grow.get {n q : Nat} {a b : Sto} {o : Ob} (g : Grow n a b) (h : a[q]? = some o) (hq : q ≠ n) : b[q]? = some o := by rw [g.at_ q (List.getElem?_eq_some_iff.mp h).1 hq, h]
theorem at_new {a : Sto} {o : Ob} : (a ++ [o])[a.length]? = some o := List.getElem?_concat_length
theorem cmp_ne_self {x : Str} {st : Sto} : cmpD .ne (.str x) (.str x) st = .ok (.bl false) st := by
  rw [cmp_ne_str]
  simp
end Ev
/-! Changing lists; data of a bounded text. -/
namespace Ev
open PySem
section
variable {st : Sto} {n f : Nat} {xs ys : List D} {al : Bool} {d : D} {i : Int}
theorem isLst_loc (h : st[f]? = some (.lst xs)) : isLst (.loc f) st = true := by
  unfold isLst
  dsimp only
  rw [h]
theorem add_loc_lst (h : st[f]? = some (.lst xs)) (hs : small (xs.length + ys.length) = true) : binD al .add (.loc f) (.lst ys) st = newL al (xs ++ ys) st := by
  show (match items st (.loc f), items st (.lst ys) with
    | some xs, some ys => if small (xs.length + ys.length) then newL al (xs ++ ys) st else .bad
    | _, _ => .bad) = _
  have e : items st (.loc f) = some xs := by
    unfold items
    dsimp only
    rw [h]
  rw [e]
  show (if small (xs.length + ys.length) = true then newL al (xs ++ ys) st else .bad) = _
  rw [if_pos hs]
theorem add_lst_lst (hs : small (xs.length + ys.length) = true) : binD al .add (.lst xs) (.lst ys) st = newL al (xs ++ ys) st := by
  show (if small (xs.length + ys.length) = true then newL al (xs ++ ys) st else .bad) = _
  rw [if_pos hs]
theorem ext_loc (h : st[f]? = some (.lst xs)) (hs : small (xs.length + ys.length) = true) : extP (.loc f) (.lst ys) st = .ok .non (st.set f (.lst (xs ++ ys))) := by
  unfold extP
  dsimp only
  rw [h]
  show (if small (xs.length + ys.length) = true then _ else _) = _
  rw [if_pos hs]
  rfl
theorem app_loc (h : st[f]? = some (.lst xs)) (hs : xs.length < 1000000) : appP (.loc f) d st = .ok .non (st.set f (.lst (xs ++ [d]))) := by
  unfold appP
  dsimp only
  rw [h]
  show (if xs.length < 1000000 then _ else _) = _
  rw [if_pos hs]
  rfl
theorem len_loc (h : st[f]? = some (.lst xs)) : lenD st (.loc f) = some xs.length := by
  show ((match st[f]? with
    | some (.lst xs) => some xs
    | _ => none).map List.length) = _
  rw [h]
  rfl
theorem Grow.set {a b : Sto} {o : Ob} (g : Grow n a b) (h : a.length ≤ f) : Grow n a (b.set f o) := ⟨by rw [List.length_set]; exact g.len, fun j h1 h2 => by rw [List.getElem?_set_ne (by omega)]; exact g.at_ j h1 h2⟩
theorem set_at {o p : Ob} (h : st[f]? = some o) : (st.set f p)[f]? = some p := List.getElem?_set_self (List.getElem?_eq_some_iff.mp h).1
theorem set_off {o p : Ob} {g : Nat} (h : st[g]? = some o) (hg : f ≠ g) : (st.set f p)[g]? = some o := by rw [List.getElem?_set_ne hg, h]
theorem new_off {o p : Ob} (h : st[f]? = some o) : (st ++ [p])[f]? = some o := by
  rw [List.getElem?_append_left (List.getElem?_eq_some_iff.mp h).1]
  exact h
end
/-- an atom, or a list or a tuple of some atoms -/
def At (d : D) : Prop := closed d = true ∧ Fn 0 300 d
def El (d : D) : Prop := closed d = true ∧ Fn 1 700 d
def Val (d : D) : Prop := closed d = true ∧ Fn 4 6000 d
theorem at_non : At .non := ⟨rfl, fn_non.mono (by omega) (by omega)⟩
theorem at_bl (b : Bool) : At (.bl b) := ⟨rfl, (fn_bl b).mono (by omega) (by omega)⟩
theorem at_int {i : Int} (h : -(2 ^ 200) < i ∧ i < 2 ^ 200) : At (.int i) := ⟨rfl, (fn_int h).mono (by omega) (by omega)⟩
theorem at_str {x : Str} (h : widStr x ≤ 300) : At (.str x) := ⟨rfl, fn_str h⟩
theorem At.el {d : D} (h : At d) : El d := ⟨h.1, h.2.mono (by omega) (by omega)⟩
theorem At.val {d : D} (h : At d) : Val d := ⟨h.1, h.2.mono (by omega) (by omega)⟩
theorem el_tup {xs : List D} (h : ∀ x ∈ xs, At x) (hl : xs.length ≤ 2) : El (.tup xs) := by
  refine ⟨by unfold closed; exact closed_all fun x hx => (h x hx).1, ?_⟩
  refine (fn_tup fun x hx => (h x hx).2).mono (by omega) ?_
  have : xs.length * (300 + 2) ≤ 2 * 302 := Nat.mul_le_mul_right _ hl
  omega
theorem el_lst {xs : List D} (h : ∀ x ∈ xs, At x) (hl : xs.length ≤ 2) : El (.lst xs) := by
  refine ⟨by unfold closed; exact closed_all fun x hx => (h x hx).1, ?_⟩
  refine (fn_lst fun x hx => (h x hx).2).mono (by omega) ?_
  have : xs.length * (300 + 2) ≤ 2 * 302 := Nat.mul_le_mul_right _ hl
  omega
theorem val_tup {xs : List D} (h : ∀ x ∈ xs, El x) (hl : xs.length ≤ 8) : Val (.tup xs) := by
  refine ⟨by unfold closed; exact closed_all fun x hx => (h x hx).1, ?_⟩
  refine (fn_tup fun x hx => (h x hx).2).mono (by omega) ?_
  have : xs.length * (700 + 2) ≤ 8 * 702 := Nat.mul_le_mul_right _ hl
  omega
theorem val_lst {xs : List D} (h : ∀ x ∈ xs, El x) (hl : xs.length ≤ 8) : Val (.lst xs) := by
  refine ⟨by unfold closed; exact closed_all fun x hx => (h x hx).1, ?_⟩
  refine (fn_lst fun x hx => (h x hx).2).mono (by omega) ?_
  have : xs.length * (700 + 2) ≤ 8 * 702 := Nat.mul_le_mul_right _ hl
  omega
theorem El.val {d : D} (h : El d) : Val d := ⟨h.1, h.2.mono (by omega) (by omega)⟩
theorem val_dct0 : Val (.dct [] []) := ⟨rfl, fn_dct0.mono (by omega) (by omega)⟩
theorem Val.repr {d : D} (h : Val d) : ∃ x, ∀ st, reprD st d = some (.str x) := by
  exact fn_repr h.2 (by omega) (by omega)
theorem all_cons {α : Type} {P : α → Prop} {x : α} {xs : List α} (h : P x) (t : ∀ y ∈ xs, P y) : ∀ y ∈ x :: xs, P y := by
  intro y hy
  cases hy with
  | head => exact h
  | tail _ hy => exact t y hy
theorem all_nil {α : Type} {P : α → Prop} : ∀ y ∈ ([] : List α), P y := fun y hy => nomatch hy
theorem all_app {α : Type} {P : α → Prop} {xs ys : List α} (h : ∀ y ∈ xs, P y) (t : ∀ y ∈ ys, P y) : ∀ y ∈ xs ++ ys, P y := by
  intro y hy
  rcases List.mem_append.mp hy with hy | hy
  · exact h y hy
  · exact t y hy
theorem all_set {α : Type} {P : α → Prop} {xs : List α} {i : Nat} {v : α} (h : ∀ y ∈ xs, P y) (hv : P v) : ∀ y ∈ xs.set i v, P y := by
  intro y hy
  rcases List.mem_or_eq_of_mem_set hy with hy | rfl
  · exact h y hy
  · exact hv
end Ev
/-! More of statements; the law's own line. -/
namespace Ev
open PySem
section
variable {T : Tx} {C : Cal} {Q : D → Sto → Prop} {N Z : Env → Sto → Prop} {env env' : Env} {st st' : Sto} {e t : E} {d p q : D} {i j : Nat} {xs ys : List D} {al : Bool} {f : Nat}
theorem wp_pair (h : evE C e env st = .ok (.tup [p, q]) st') (k : N ((env.set i (some p)).set j (some q)) st') : WP Q N Z (evS C (.asg (.t [.n i, .n j]) e) env st) := by
  rw [st_asg, h]
  exact ⟨k⟩
theorem add_lst_loc (h : st[f]? = some (.lst ys)) (hs : small (xs.length + ys.length) = true) : binD al .add (.lst xs) (.loc f) st = newL al (xs ++ ys) st := by
  show (match items st (.lst xs), items st (.loc f) with
    | some xs, some ys => if small (xs.length + ys.length) then newL al (xs ++ ys) st else .bad
    | _, _ => .bad) = _
  have e : items st (.loc f) = some ys := by
    unfold items
    dsimp only
    rw [h]
  rw [e]
  show (if small (xs.length + ys.length) = true then newL al (xs ++ ys) st else .bad) = _
  rw [if_pos hs]
theorem bools_true : ∀ {ys : List D}, (∀ y ∈ ys, y = .bl true) → ∃ bs, boolsD ys = some bs ∧ bs.all id = true
  | [], _ => ⟨[], rfl, rfl⟩
  | y :: ys, h => by
    obtain ⟨bs, e, a⟩ := bools_true (ys := ys) fun z hz => h z (List.mem_cons_of_mem _ hz)
    have hy := h y List.mem_cons_self
    subst hy
    refine ⟨true :: bs, ?_, a⟩
    show (boolsD ys).map (true :: ·) = _
    rw [e]
    rfl
end
/-- the law's line: all of some turns, each with a pot of its own -/
def lawDf (A B : Int) (right pot : Str) (ps : List Str) : Df := ⟨ps, 2, [
    (.ret (some (.pr true .all [(.comp false [1] (.n 1) .rng1 [(.pr false .max2 [(.c (.int A)), (.pr false .min2 [(.c (.int B)), (.pr false .len [(.v 0)])])])] [] (.call right [] [(.call pot [] [(.v 0), (.v 1)])]))])))]⟩
theorem law_ok {T : Tx} {law right pot s : Str} {dr dp : Df} {A B : Int} (hl : T.lookup law = some (lawDf A B right pot [s])) (hr : T.lookup right = some dr) (hp : T.lookup pot = some dp) (lr : dr.par.length = 1) (lp : dp.par.length = 2) (hA : 0 ≤ A ∧ A ≤ 100) (hB : 0 ≤ B ∧ B ≤ 100) (k : Nat)
    (P : ∀ (ns : List Int) (i : Nat) (st : Sto), i ≤ 1000 → ∃ st', (T.at k).run pot [.ro ns, .int i] st = .ok (.loc st.length) st' ∧ Pot st.length st')
    (R : ∀ (n : Nat) (st : Sto), Pot n st → ∃ st', (T.at k).run right [.loc n] st = .ok (.bl true) st') (ns : List Int) : ∃ st, (T.at (k + 1)).run law [.ro ns] [] = .ok (.bl true) st := by
  obtain ⟨n, hn, n1⟩ : ∃ n : Nat, (if (if (ns.length : Int) < B then (ns.length : Int) else B) > A then (if (ns.length : Int) < B then (ns.length : Int) else B) else A) = (n : Int) ∧ n ≤ 100 := by
    refine ⟨(if (if (ns.length : Int) < B then (ns.length : Int) else B) > A then (if (ns.length : Int) < B then (ns.length : Int) else B) else A).toNat, ?_, ?_⟩ <;> split <;> split <;> omega
  obtain ⟨ys, st1, e, hy, h1⟩ := comp_run (J := fun i _ => some (Ev.upTo n)[i]?) (turn := compT (.n 1) (wipeE [some (.ro ns), none] [1]) (evTs (T.at k) []) (evE (T.at k) (.call right [] [.call pot [] [.v 0, .v 1]]))) (xs := Ev.upTo n) (I := fun i acc s => ∀ y ∈ acc, y = D.bl true) (fun _ _ _ _ => rfl) (by rw [upTo_len]; omega)
    (fun i d acc s hd _ h => by
      obtain ⟨rfl, hi⟩ := upTo_at hd
      obtain ⟨s1, e1, P1⟩ := P ns i s (by omega)
      obtain ⟨s2, e2⟩ := R s.length s1 P1
      refine ⟨.bl true, s2, ?_, all_app h (all_cons rfl all_nil)⟩
      have c1 : callC (T.at k) pot [] [.ro ns, .int i] s = .ok (.loc s.length) s1 := by rw [call_pos hp (show [D.ro ns, D.int i].length = dp.par.length by rw [lp]; rfl)]; exact e1
      have c2 : callC (T.at k) right [] [.loc s.length] s1 = .ok (.bl true) s2 := by rw [call_pos hr (show [D.loc s.length].length = dr.par.length by rw [lr]; rfl)]; exact e2
      unfold compT
      simp [wipeE, c1, c2]) turns 0 [] [] all_nil rfl (Nat.zero_le _) (by rw [upTo_len]; unfold turns; omega)
  obtain ⟨bs, b1, b2⟩ := bools_true h1
  have it : itOf .rng1 [.int n] [] = some fun i _ => some (Ev.upTo n)[i]? := it_rng (by omega)
  have src : evEs (T.at k) [(.pr false .max2 [(.c (.int A)), (.pr false .min2 [(.c (.int B)), (.pr false .len [(.v 0)])])])] [some (.ro ns), none] [] = .ok [.int n] [] := by
    simp only [evs_cons, evs_nil, ev_pr, ev_c, ev_v0, bnd_oks, pr_len, len_ro, opt_some, pr_min, pr_max, hn]
  have ce : evE (T.at k) (.comp false [1] (.n 1) .rng1 [(.pr false .max2 [(.c (.int A)), (.pr false .min2 [(.c (.int B)), (.pr false .len [(.v 0)])])])] [] (.call right [] [(.call pot [] [(.v 0), (.v 1)])])) [some (.ro ns), none] [] = .ok (.lst ys) st1 := by
    rw [ev_comp, src, bnd_oks, it]
    dsimp only
    rw [e]
    rfl
  obtain ⟨v, s2, e2, rfl⟩ := wp_run (P := fun v _ => v = .bl true) (k := k) (ds := [.ro ns]) (st := []) [some (.ro ns), none] hl rfl rfl (by
    refine wp_cons (wp_ret (st' := st1) (d := .bl true) ?_ rfl)
    rw [ev_pr, evs_cons, ce, bnd_oks, evs_nil, bnd_oks, bnd_oks, pr_all, b1, opt_some, bnd_oks, b2])
  exact ⟨s2, e2⟩
end Ev
/-! The evaluator over values alone: lists are values, a variable that owns its list may change it; draws are asked. -/
namespace Ev
open PySem

inductive Tr (α : Type) where
  | ret (a : α) | exc (c : Str) (v : D) | bad | ask (m : Int) (k : Int → Tr α) | pot (k : Nat → Tr α)
namespace Tr
def bnd {α β : Type} : Tr α → (α → Tr β) → Tr β
  | .ret a, f => f a
  | .exc c v, _ => .exc c v
  | .bad, _ => .bad
  | .ask m k, f => .ask m fun i => (k i).bnd f
  | .pot k, f => .pot fun n => (k n).bnd f
def ofO {α : Type} : Option α → Tr α
  | some a => .ret a
  | none => .bad
def of {α : Type} : Out α → Tr α
  | .ok a _ => .ret a
  | .ex c v _ => .exc c v
  | .bad => .bad
/-- where nothing may be raised -/
def noEx {α : Type} : Tr α → Tr α
  | .ret a => .ret a
  | .ask m k => .ask m fun i => (k i).noEx
  | .pot k => .pot fun n => (k n).noEx
  | _ => .bad
/-- whatever is drawn, it ends so -/
def wp0 {α : Type} (Q : α → Prop) (X : Str → D → Prop) : Tr α → Prop
  | .ret a => Q a
  | .exc c v => X c v
  | .bad => False
  | .ask m k => 0 < m ∧ m < 1073741824 ∧ ∀ i, 0 ≤ i → i < m → (k i).wp0 Q X
  | .pot k => ∀ n, (k n).wp0 Q X
end Tr

inductive PR where
  | nx (e : Env) | rt (d : D) | bk (e : Env) | ct (e : Env) | ex (c : Str) (v : D) (e : Env)
structure PCal where
  all : List Str
  par : Str → List Str
  run : Str → List D → Tr D
def pCall (C : PCal) (f : Str) (ks : List Str) (ds : List D) : Tr D := match permArgs (C.par f) ks ds with
  | some ds => C.run f ds
  | none => .bad
def numsI (a : Int) (n : Nat) : List D := (List.range n).map fun i => .int (a + (i : Nat))
/-- the things of a list, a tuple, the script -/
def pSeqOf : D → Option (List D)
  | .tup xs => some xs
  | .lst xs => some xs
  | .ro xs => some (xs.map D.int)
  | _ => none
def enumD : Nat → List D → List D
  | _, [] => []
  | i, x :: xs => .tup [.int (i : Nat), x] :: enumD (i + 1) xs
def zipD : List D → List D → List D
  | x :: xs, y :: ys => .tup [x, y] :: zipD xs ys
  | _, _ => []
/-- what is walked over -/
def pIt : IK → List D → Option (List D)
  | .enum, [d] => (pSeqOf d).map (enumD 0)
  | .zip2, [d, e] => if isTupD d = isTupD e then (pSeqOf d).bind fun xs => (pSeqOf e).map fun ys => zipD xs ys else none
  | .seq, [d] => pSeqOf d
  | .rng1, [.int j] => if -(2 ^ 62) ≤ j ∧ j ≤ 1000000 then some (numsI 0 j.toNat) else none
  | .rng2, [.int a, .int b] => if -(2 ^ 62) ≤ a ∧ a < 2 ^ 62 ∧ -(2 ^ 62) ≤ b ∧ b < 2 ^ 62 ∧ b - a ≤ 1000000 then some (numsI a (b - a).toNat) else none
  | _, _ => none
def pComp (turn : D → Tr (Option D)) : List D → Tr (List D)
  | [] => .ret []
  | d :: xs => (turn d).bnd fun o => match o with
    | none => pComp turn xs
    | some y => (pComp turn xs).bnd fun ys => .ret (y :: ys)
def pPart (om : Bool) (r : Tr D) : Tr (Option Int) := if om then .ret none else r.bnd fun d => Tr.of (partP d [])
section
variable (C : PCal)
mutual
def pE : E → Env → Tr D
  | .c d, _ => if closed d then .ret d else .bad
  | .v i, env => match env[i]? with
    | some (some d) => .ret d
    | _ => .bad
  | .g x, _ => .ret (.fn x)
  | .bin al o a b, env => (pE a env).bnd fun x => (pE b env).bnd fun y => Tr.of (binD false o x y [])
  | .neg a, env => (pE a env).bnd fun x => Tr.of (negP x [])
  | .not a, env => (pE a env).bnd fun x => (Tr.ofO (truth [] x)).bnd fun k => .ret (.bl !k)
  | .and a b, env => (pE a env).bnd fun x => (Tr.ofO (truth [] x)).bnd fun k => if k then pE b env else .ret x
  | .or a b, env => (pE a env).bnd fun x => (Tr.ofO (truth [] x)).bnd fun k => if k then .ret x else pE b env
  | .ite t a b, env => (pE t env).bnd fun x => (Tr.ofO (truth [] x)).bnd fun k => if k then pE a env else pE b env
  | .cmp o a b, env => (pE a env).bnd fun x => (pE b env).bnd fun y => Tr.of (cmpD o x y [])
  | .chain o p a b c, env => (pE a env).bnd fun x => (pE b env).bnd fun y => (Tr.of (cmpD o x y [])).bnd fun r => match r with
    | .bl true => (pE c env).bnd fun z => Tr.of (cmpD p y z [])
    | .bl false => .ret (.bl false)
    | _ => .bad
  | .tup es, env => (pEs es env).bnd fun ds => if small ds.length then .ret (.tup ds) else .bad
  | .lst al es, env => (pEs es env).bnd fun ds => if small ds.length then .ret (.lst ds) else .bad
  | .dct al ks es, env => (pEs es env).bnd fun ds => if ks.length = ds.length ∧ ks.Nodup ∧ ks.length ≤ 15 then .ret (.dct ks ds) else .bad
  | .ix a b, env => (pE a env).bnd fun x => (pE b env).bnd fun y => Tr.ofO (ixD x y [])
  | .sl al a lo hi, env => (pE a env).bnd fun x => (pPart (isOmit lo) (pE lo env)).bnd fun l => (pPart (isOmit hi) (pE hi env)).bnd fun h => Tr.of (slD false x l h [])
  | .call f ks es, env => (pEs es env).bnd fun ds => pCall C f ks ds
  | .callv i ks es, env => match env[i]? with
    | some (some (.fn f)) => if C.all.contains f then (pEs es env).bnd fun ds => pCall C f ks ds else .bad
    | _ => .bad
  | .pr al p es, env => (pEs es env).bnd fun ds => Tr.of (prD false p ds [])
  | .isi a t, env => (pE a env).bnd fun x => (Tr.ofO (isTy t x [])).bnd fun k => .ret (.bl k)
  | .comp al own t k src ifs elt, env => (pEs src env).bnd fun ds => match pIt k ds with
    | none => .bad
    | some xs => if small xs.length then (Tr.noEx (pComp (fun d => match setT t d (wipeE env own) with
      | none => .bad
      | some e2 => (pTs ifs e2).bnd fun k => if k then (pE elt e2).bnd fun y => .ret (some y) else .ret none) xs)).bnd fun ys => .ret (.lst ys) else .bad
  | .app _ _, _ => .bad
  | .ext _ _, _ => .bad
termination_by structural e => e
def pEs : List E → Env → Tr (List D)
  | [], _ => .ret []
  | e :: es, env => (pE e env).bnd fun d => (pEs es env).bnd fun ds => .ret (d :: ds)
termination_by structural e => e
def pTs : List E → Env → Tr Bool
  | [], _ => .ret true
  | e :: es, env => (pE e env).bnd fun x => (Tr.ofO (truth [] x)).bnd fun k => if k then pTs es env else .ret false
termination_by structural e => e
end
/-- an expression in a statement -/
def Tr.toR {α : Type} : Tr α → Env → (α → Tr PR) → Tr PR
  | .ret a, _, f => f a
  | .exc c v, env, _ => .ret (.ex c v env)
  | .bad, _, _ => .bad
  | .ask m k, env, f => .ask m fun i => (k i).toR env f
  | .pot k, env, f => .pot fun n => (k n).toR env f
/-- the list of a variable -/
def lstAt (env : Env) (i : Nat) : Option (List D) := match env[i]? with
  | some (some (.lst xs)) => some xs
  | _ => none
mutual
def pG : Tg → D → Env → Tr Env
  | .n i, d, env => .ret (env.set i (some d))
  | .t ts, .tup xs, env => pGs ts xs env
  | .s (.v j) i, d, env => (Tr.noEx (pE C i env)).bnd fun y => match y with
    | .int k => match lstAt env j with
      | some xs => match L2.ixN xs.length k with
        | some q => .ret (env.set j (some (.lst (xs.set q d))))
        | none => .bad
      | none => .bad
    | _ => .bad
  | _, _, _ => .bad
termination_by structural t => t
def pGs : List Tg → List D → Env → Tr Env
  | [], [], env => .ret env
  | t :: ts, x :: xs, env => (pG t x env).bnd fun env => pGs ts xs env
  | _, _, _ => .bad
termination_by structural t => t
end
def pTest (t : E) (env : Env) : Tr Bool := (pE C t env).bnd fun x => Tr.ofO (truth [] x)
def pFor (body : D → Env → Tr PR) : List D → Env → Tr PR
  | [], env => .ret (.nx env)
  | d :: xs, env => (body d env).bnd fun r => match r with
    | .nx e => pFor body xs e
    | .ct e => pFor body xs e
    | .bk e => .ret (.nx e)
    | r => .ret r
def pWhl (test : Env → Tr Bool) (body : Env → Tr PR) : Nat → Env → Tr PR
  | 0, _ => .bad
  | m + 1, env => (test env).toR env fun b => if b then (body env).bnd fun r => match r with
      | .nx e => pWhl test body m e
      | .ct e => pWhl test body m e
      | .bk e => .ret (.nx e)
      | r => .ret r
    else .ret (.nx env)
def pSeq (r : Tr PR) (f : Env → Tr PR) : Tr PR := r.bnd fun x => match x with
  | .nx e => f e
  | r => .ret r
/-- an expression as a statement -/
def pX (e : E) (env : Env) : Tr PR := match e with
  | .app (.v i) b => match lstAt env i with
    | some xs => (pE C b env).toR env fun y => if xs.length < most then .ret (.nx (env.set i (some (.lst (xs ++ [y]))))) else .bad
    | none => .bad
  | .ext (.v i) b => match lstAt env i with
    | some xs => (pE C b env).toR env fun y => match y with
      | .lst ys => if small (xs.length + ys.length) then .ret (.nx (env.set i (some (.lst (xs ++ ys))))) else .bad
      | _ => .bad
    | none => .bad
  | e => (pE C e env).toR env fun _ => .ret (.nx env)
mutual
def pS : S → Env → Tr PR
  | .asg t e, env => (pE C e env).toR env fun d => (Tr.noEx (pG C t d env)).bnd fun env => .ret (.nx env)
  | .par is es, env => (pEs C es env).toR env fun ds => match setMany is ds env with
    | some env => .ret (.nx env)
    | none => .bad
  | .ex e, env => pX C e env
  | .iff t a b, env => (pTest C t env).toR env fun k => if k then pSs a env else pSs b env
  | .for_ t k src body, env => (pEs C src env).toR env fun ds => match pIt k ds with
    | none => .bad
    | some xs => if small xs.length then pFor (fun d env => match setT t d env with
      | none => .bad
      | some env => pSs body env) xs env else .bad
  | .whl t body, env => pWhl (pTest C t) (fun env => pSs body env) turns env
  | .ret none, _ => .ret (.rt .non)
  | .ret (some e), env => (pE C e env).toR env fun d => .ret (.rt d)
  | .pass, env => .ret (.nx env)
  | .brk, env => .ret (.bk env)
  | .cont, env => .ret (.ct env)
  | .dead, _ => .bad
termination_by structural t => t
def pSs : List S → Env → Tr PR
  | [], env => .ret (.nx env)
  | s :: ss, env => pSeq (pS s env) fun env => pSs ss env
termination_by structural t => t
end
end
/-- how a call ends -/
def PR.end_ : PR → Tr D
  | .rt d => .ret d
  | .nx _ => .ret .non
  | .ex c v _ => .exc c v
  | _ => .bad
def Df.pgo (f : Df) (C : PCal) (ds : List D) : Tr D :=
  if ds.length = f.par.length then (Tr.noEx (pSs C f.body (ds.map some ++ List.replicate (f.names - ds.length) none))).bnd PR.end_ else .bad
/-- what is not looked into: draws, the making of pots -/
inductive Kd where
  | own | draw | mk (two : Bool)
deriving DecidableEq
/-- the making of a pot: from the script and a place -/
def mkPot (two : Bool) : List D → Tr D
  | [.ro _, .int i] => if two = true ∧ 0 ≤ i ∧ i ≤ 1000 then .pot fun n => .ret (.loc n) else .bad
  | [.ro _] => if two = true then .bad else .pot fun n => .ret (.loc n)
  | _ => .bad
def draw : List D → Tr D
  | [.loc _, .int m] => .ask m fun i => .ret (.int i)
  | _ => .bad
/-- calls at most k deep -/
def Tx.pat (T : Tx) (kd : Str → Kd) : Nat → PCal
  | 0 => ⟨T.map (·.1), T.par, fun _ _ => .bad⟩
  | k + 1 => ⟨T.map (·.1), T.par, fun f ds => match kd f with
    | .draw => draw ds
    | .mk two => mkPot two ds
    | .own => match T.lookup f with
      | some d => d.pgo (T.pat kd k) ds
      | none => .bad⟩
end Ev
/-! How values lie in a store. fz: things that no longer change; pt: pots. -/
namespace Ev
open PySem

abbrev NS := Nat → Prop
mutual
inductive Res (st : Sto) (fz pt : NS) : D → D → Prop
  | non : Res st fz pt .non .non
  | bl (b : Bool) : Res st fz pt (.bl b) (.bl b)
  | int (i : Int) : Res st fz pt (.int i) (.int i)
  | str (x : Str) : Res st fz pt (.str x) (.str x)
  | tup {xs vs : List D} (r : Ress st fz pt xs vs) : Res st fz pt (.tup xs) (.tup vs)
  | lst {xs vs : List D} (r : Ress st fz pt xs vs) : Res st fz pt (.lst xs) (.lst vs)
  | dct {ks : List L2.Key} {xs vs : List D} (r : Ress st fz pt xs vs) : Res st fz pt (.dct ks xs) (.dct ks vs)
  | ll {n : Nat} {xs vs : List D} (f : fz n) (h : st[n]? = some (.lst xs)) (r : Ress st fz pt xs vs) : Res st fz pt (.loc n) (.lst vs)
  | ld {n : Nat} {ks : List L2.Key} {xs vs : List D} (f : fz n) (h : st[n]? = some (.dct ks xs)) (r : Ress st fz pt xs vs) : Res st fz pt (.loc n) (.dct ks vs)
  | ro (ns : List Int) : Res st fz pt (.ro ns) (.ro ns)
  | pot {n : Nat} (p : pt n) : Res st fz pt (.loc n) (.loc n)
  | fn (x : Str) : Res st fz pt (.fn x) (.fn x)
inductive Ress (st : Sto) (fz pt : NS) : List D → List D → Prop
  | nil : Ress st fz pt [] []
  | cons {d v : D} {ds vs : List D} (h : Res st fz pt d v) (t : Ress st fz pt ds vs) : Ress st fz pt (d :: ds) (v :: vs)
end
/-- what never changes stays, pots stay pots -/
structure Km (st : Sto) (fz pt : NS) (st' : Sto) (fz' pt' : NS) : Prop where
  fz : ∀ n, fz n → fz' n ∧ st'[n]? = st[n]?
  pt : ∀ n, pt n → pt' n
theorem Km.refl (st : Sto) (fz pt : NS) : Km st fz pt st fz pt := ⟨fun n h => ⟨h, rfl⟩, fun n h => h⟩
section
variable {st st' st'' : Sto} {fz pt fz' pt' fz'' pt'' : NS}
theorem Km.trans (h : Km st fz pt st' fz' pt') (g : Km st' fz' pt' st'' fz'' pt'') : Km st fz pt st'' fz'' pt'' :=
  ⟨fun n f => ⟨(g.fz n (h.fz n f).1).1, ((g.fz n (h.fz n f).1).2).trans (h.fz n f).2⟩, fun n p => g.pt n (h.pt n p)⟩
mutual
theorem Res.mono (k : Km st fz pt st' fz' pt') : ∀ {d v : D}, Res st fz pt d v → Res st' fz' pt' d v
  | _, _, .non => .non
  | _, _, .bl b => .bl b
  | _, _, .int i => .int i
  | _, _, .str x => .str x
  | _, _, .tup r => .tup (Ress.mono k r)
  | _, _, .lst r => .lst (Ress.mono k r)
  | _, _, .dct r => .dct (Ress.mono k r)
  | _, _, .ll f h r => .ll (k.fz _ f).1 (((k.fz _ f).2).trans h) (Ress.mono k r)
  | _, _, .ld f h r => .ld (k.fz _ f).1 (((k.fz _ f).2).trans h) (Ress.mono k r)
  | _, _, .ro ns => .ro ns
  | _, _, .pot p => .pot (k.pt _ p)
  | _, _, .fn x => .fn x
theorem Ress.mono (k : Km st fz pt st' fz' pt') : ∀ {ds vs : List D}, Ress st fz pt ds vs → Ress st' fz' pt' ds vs
  | _, _, .nil => .nil
  | _, _, .cons h t => .cons (Res.mono k h) (Ress.mono k t)
end
mutual
theorem Res.refl : ∀ {d : D}, closed d = true → Res st fz pt d d
  | .non, _ => .non
  | .bl b, _ => .bl b
  | .int i, _ => .int i
  | .str x, _ => .str x
  | .tup xs, h => .tup (Ress.refl (by unfold closed at h; exact h))
  | .lst xs, h => .lst (Ress.refl (by unfold closed at h; exact h))
  | .dct ks xs, h => .dct (Ress.refl (by unfold closed at h; exact h))
  | .ro _, h => by unfold closed at h; cases h
  | .loc _, h => by unfold closed at h; cases h
  | .fn _, h => by unfold closed at h; cases h
theorem Ress.refl : ∀ {ds : List D}, closedAll ds = true → Ress st fz pt ds ds
  | [], _ => .nil
  | d :: ds, h => .cons (Res.refl (by unfold closedAll at h; exact (Bool.and_eq_true _ _ ▸ h).1)) (Ress.refl (by unfold closedAll at h; exact (Bool.and_eq_true _ _ ▸ h).2))
end
theorem Ress.length : ∀ {ds vs : List D}, Ress st fz pt ds vs → ds.length = vs.length
  | _, _, .nil => rfl
  | _, _, .cons _ t => by rw [List.length_cons, List.length_cons, Ress.length t]
theorem Ress.get : ∀ {ds vs : List D} {i : Nat} {v : D}, Ress st fz pt ds vs → vs[i]? = some v → ∃ d, ds[i]? = some d ∧ Res st fz pt d v
  | _, _, _, _, .nil, e => by simp at e
  | _, _, 0, _, .cons h _, e => ⟨_, rfl, by simp at e; rw [← e]; exact h⟩
  | _, _, i + 1, _, .cons _ t, e => Ress.get (i := i) t (by simpa using e)
theorem Ress.get' : ∀ {ds vs : List D} {i : Nat} {d : D}, Ress st fz pt ds vs → ds[i]? = some d → ∃ v, vs[i]? = some v ∧ Res st fz pt d v
  | _, _, _, _, .nil, e => by simp at e
  | _, _, 0, _, .cons h _, e => ⟨_, rfl, by simp at e; rw [← e]; exact h⟩
  | _, _, i + 1, _, .cons _ t, e => Ress.get' (i := i) t (by simpa using e)
theorem Ress.append : ∀ {ds es vs ws : List D}, Ress st fz pt ds vs → Ress st fz pt es ws → Ress st fz pt (ds ++ es) (vs ++ ws)
  | _, _, _, _, .nil, s => s
  | _, _, _, _, .cons h t, s => .cons h (Ress.append t s)
theorem Ress.take (n : Nat) : ∀ {ds vs : List D}, Ress st fz pt ds vs → Ress st fz pt (ds.take n) (vs.take n) := by
  induction n with
  | zero => intro ds vs _; simpa using Ress.nil
  | succ n ih =>
    intro ds vs h
    cases h with
    | nil => exact .nil
    | cons h t => exact .cons h (ih t)
theorem Ress.drop (n : Nat) : ∀ {ds vs : List D}, Ress st fz pt ds vs → Ress st fz pt (ds.drop n) (vs.drop n) := by
  induction n with
  | zero => intro ds vs h; exact h
  | succ n ih =>
    intro ds vs h
    cases h with
    | nil => exact .nil
    | cons h t => exact ih t
theorem Ress.set (i : Nat) {d v : D} (h : Res st fz pt d v) : ∀ {ds vs : List D}, Ress st fz pt ds vs → Ress st fz pt (ds.set i d) (vs.set i v) := by
  induction i with
  | zero =>
    intro ds vs t
    cases t with
    | nil => exact .nil
    | cons _ t => exact .cons h t
  | succ i ih =>
    intro ds vs t
    cases t with
    | nil => exact .nil
    | cons g t => exact .cons g (ih t)
theorem Ress.rep (n : Nat) {ds vs : List D} (h : Ress st fz pt ds vs) : Ress st fz pt (List.replicate n ds).flatten (List.replicate n vs).flatten := by
  induction n with
  | zero => exact .nil
  | succ n ih =>
    rw [List.replicate_succ, List.replicate_succ, List.flatten_cons, List.flatten_cons]
    exact h.append ih
theorem Ress.one {d v : D} (h : Res st fz pt d v) : Ress st fz pt [d] [v] := .cons h .nil
end
/-- the thing at n, whatever becomes of it -/
def Held (st : Sto) (fz pt : NS) (d v : D) (n : Nat) : Prop := d = .loc n ∧ ¬ pt n ∧ ((∃ xs vs, v = .lst vs ∧ st[n]? = some (.lst xs) ∧ Ress st fz pt xs vs) ∨ ∃ ks xs vs, v = .dct ks vs ∧ st[n]? = some (.dct ks xs) ∧ Ress st fz pt xs vs)
def noBox : D → Bool
  | .lst _ => false
  | .dct _ _ => false
  | _ => true
/-- as it stands now -/
def Top (st : Sto) (fz pt : NS) (d v : D) : Prop := Res st fz pt d v ∨ ∃ n, Held st fz pt d v n
/-- nobody else's, from b on -/
def Frs (b : Nat) (st : Sto) (fz pt : NS) (d v : D) : Prop := (noBox v = true ∧ Res st fz pt d v) ∨ ∃ n, b ≤ n ∧ ¬ fz n ∧ Held st fz pt d v n
structure Wd (st : Sto) (fz pt : NS) : Prop where
  fz : ∀ n, fz n → n < st.length ∧ ¬ pt n
  pt : ∀ n, pt n → Pot n st
/-- from before a call to after it -/
structure Xt (st : Sto) (fz pt : NS) (st' : Sto) (fz' pt' : NS) : Prop where
  len : st.length ≤ st'.length
  keep : ∀ n, n < st.length → ¬ pt n → st'[n]? = st[n]?
  fz1 : ∀ n, fz n → fz' n
  fz2 : ∀ n, fz' n → n < st.length → fz n
  pt1 : ∀ n, pt n → pt' n
  pt2 : ∀ n, pt' n → n < st.length → pt n
  wd : Wd st' fz' pt'
section
variable {st st' st'' : Sto} {fz pt fz' pt' fz'' pt'' : NS} {d v : D} {n b : Nat}
theorem Xt.refl (w : Wd st fz pt) : Xt st fz pt st fz pt := ⟨Nat.le_refl _, fun _ _ _ => rfl, fun _ h => h, fun _ h _ => h, fun _ h => h, fun _ h _ => h, w⟩
theorem Xt.trans (h : Xt st fz pt st' fz' pt') (g : Xt st' fz' pt' st'' fz'' pt'') : Xt st fz pt st'' fz'' pt'' :=
  ⟨Nat.le_trans h.len g.len, fun n l p => (g.keep n (Nat.lt_of_lt_of_le l h.len) (fun z => p (h.pt2 n z l))).trans (h.keep n l p), fun n f => g.fz1 n (h.fz1 n f),
    fun n f l => h.fz2 n (g.fz2 n f (Nat.lt_of_lt_of_le l h.len)) l, fun n p => g.pt1 n (h.pt1 n p), fun n p l => h.pt2 n (g.pt2 n p (Nat.lt_of_lt_of_le l h.len)) l, g.wd⟩
theorem Xt.km (w : Wd st fz pt) (h : Xt st fz pt st' fz' pt') : Km st fz pt st' fz' pt' := ⟨fun n f => ⟨h.fz1 n f, h.keep n (w.fz n f).1 (w.fz n f).2⟩, h.pt1⟩
theorem Held.lt (h : Held st fz pt d v n) : n < st.length := by
  obtain ⟨_, _, ⟨xs, vs, _, e, _⟩ | ⟨ks, xs, vs, _, e, _⟩⟩ := h
  · exact (List.getElem?_eq_some_iff.mp e).1
  · exact (List.getElem?_eq_some_iff.mp e).1
theorem Held.mono (w : Wd st fz pt) (h : Held st fz pt d v n) (x : Xt st fz pt st' fz' pt') : Held st' fz' pt' d v n := by
  have hl := h.lt
  obtain ⟨e1, p, c⟩ := h
  refine ⟨e1, fun z => p (x.pt2 n z hl), ?_⟩
  rcases c with ⟨xs, vs, ev, e, r⟩ | ⟨ks, xs, vs, ev, e, r⟩
  · exact .inl ⟨xs, vs, ev, by rw [x.keep n hl p, e], r.mono (x.km w)⟩
  · exact .inr ⟨ks, xs, vs, ev, by rw [x.keep n hl p, e], r.mono (x.km w)⟩
theorem Top.mono (w : Wd st fz pt) (h : Top st fz pt d v) (x : Xt st fz pt st' fz' pt') : Top st' fz' pt' d v := by
  rcases h with h | ⟨n, h⟩
  · exact .inl (h.mono (x.km w))
  · exact .inr ⟨n, h.mono w x⟩
theorem Frs.mono (w : Wd st fz pt) (h : Frs b st fz pt d v) (x : Xt st fz pt st' fz' pt') : Frs b st' fz' pt' d v := by
  rcases h with ⟨h1, h2⟩ | ⟨n, h1, h2, h3⟩
  · exact .inl ⟨h1, h2.mono (x.km w)⟩
  · exact .inr ⟨n, h1, fun z => h2 (x.fz2 n z h3.lt), h3.mono w x⟩
theorem Frs.top (h : Frs b st fz pt d v) : Top st fz pt d v := by
  rcases h with ⟨h1, h2⟩ | ⟨n, h1, h2, h3⟩
  · exact .inl h2
  · exact .inr ⟨n, h3⟩
theorem Frs.weak {a : Nat} (h : Frs b st fz pt d v) (l : a ≤ b) : Frs a st fz pt d v := by
  rcases h with h | ⟨n, h1, h2, h3⟩
  · exact .inl h
  · exact .inr ⟨n, Nat.le_trans l h1, h2, h3⟩
/-- a thing of one's own is given away: it no longer changes -/
theorem Frs.freeze (h : Frs st.length st' fz' pt' d v) (x : Xt st fz pt st' fz' pt') : ∃ fz'', Xt st fz pt st' fz'' pt' ∧ Res st' fz'' pt' d v ∧ ∀ n, fz' n → fz'' n := by
  rcases h with ⟨h1, h2⟩ | ⟨n, h1, h2, h3⟩
  · exact ⟨fz', x, h2, fun _ h => h⟩
  · have hl := h3.lt
    obtain ⟨e1, p, c⟩ := h3
    have km : Km st' fz' pt' st' (fun m => fz' m ∨ m = n) pt' := ⟨fun m f => ⟨.inl f, rfl⟩, fun m f => f⟩
    refine ⟨fun m => fz' m ∨ m = n, ⟨x.len, x.keep, fun m f => .inl (x.fz1 m f), fun m f l => ?_, x.pt1, x.pt2, ⟨fun m f => ?_, x.wd.pt⟩⟩, ?_, fun m f => .inl f⟩
    · rcases f with f | rfl
      · exact x.fz2 m f l
      · omega
    · rcases f with f | rfl
      · exact x.wd.fz m f
      · exact ⟨hl, p⟩
    · subst e1
      rcases c with ⟨xs, vs, rfl, e, r⟩ | ⟨ks, xs, vs, rfl, e, r⟩
      · exact .ll (.inr rfl) e (r.mono km)
      · exact .ld (.inr rfl) e (r.mono km)
/-- a new list -/
theorem Xt.new (w : Wd st fz pt) (o : Ob) : Xt st fz pt (st ++ [o]) fz pt :=
  ⟨by simp, fun n l _ => List.getElem?_append_left l, fun _ h => h, fun _ h _ => h, fun _ h => h, fun _ h _ => h,
    ⟨fun n f => ⟨by rw [List.length_append]; exact Nat.lt_of_lt_of_le (w.fz n f).1 (Nat.le_add_right _ _), (w.fz n f).2⟩, fun n p => (w.pt n p).new⟩⟩
theorem Wd.notFz (w : Wd st fz pt) : ¬ fz st.length := fun z => Nat.lt_irrefl _ (w.fz _ z).1
theorem Wd.notPt (w : Wd st fz pt) : ¬ pt st.length := fun z => Nat.lt_irrefl _ (w.pt _ z).lt
theorem frs_newL (w : Wd st fz pt) {xs vs : List D} (r : Ress st fz pt xs vs) : Frs st.length (st ++ [.lst xs]) fz pt (.loc st.length) (.lst vs) :=
  .inr ⟨_, Nat.le_refl _, w.notFz, rfl, w.notPt, .inl ⟨xs, vs, rfl, List.getElem?_concat_length, r.mono ((Xt.new w _).km w)⟩⟩
theorem frs_newD (w : Wd st fz pt) {ks : List L2.Key} {xs vs : List D} (r : Ress st fz pt xs vs) : Frs st.length (st ++ [.dct ks xs]) fz pt (.loc st.length) (.dct ks vs) :=
  .inr ⟨_, Nat.le_refl _, w.notFz, rfl, w.notPt, .inr ⟨ks, xs, vs, rfl, List.getElem?_concat_length, r.mono ((Xt.new w _).km w)⟩⟩

/-! ### a value, looked at -/
/-- d is a list of xs, as it stands -/
def Lv (st : Sto) (pt : NS) (d : D) (xs : List D) : Prop := d = .lst xs ∨ ∃ n, d = .loc n ∧ ¬ pt n ∧ st[n]? = some (.lst xs)
def Dv (st : Sto) (pt : NS) (d : D) (ks : List L2.Key) (xs : List D) : Prop := d = .dct ks xs ∨ ∃ n, d = .loc n ∧ ¬ pt n ∧ st[n]? = some (.dct ks xs)
theorem Top.lst {vs : List D} (w : Wd st fz pt) (h : Top st fz pt d (.lst vs)) : ∃ xs, Ress st fz pt xs vs ∧ Lv st pt d xs := by
  rcases h with h | ⟨n, e1, p, ⟨xs, ws, e, g, r⟩ | ⟨ks, xs, ws, e, g, r⟩⟩
  · cases h with
    | lst r => exact ⟨_, r, .inl rfl⟩
    | ll f g r => exact ⟨_, r, .inr ⟨_, rfl, (w.fz _ f).2, g⟩⟩
  · cases e
    exact ⟨xs, r, .inr ⟨n, e1, p, g⟩⟩
  · cases e
theorem Top.dct {ks : List L2.Key} {vs : List D} (w : Wd st fz pt) (h : Top st fz pt d (.dct ks vs)) : ∃ xs, Ress st fz pt xs vs ∧ Dv st pt d ks xs := by
  rcases h with h | ⟨n, e1, p, ⟨xs, ws, e, g, r⟩ | ⟨ks, xs, ws, e, g, r⟩⟩
  · cases h with
    | dct r => exact ⟨_, r, .inl rfl⟩
    | ld f g r => exact ⟨_, r, .inr ⟨_, rfl, (w.fz _ f).2, g⟩⟩
  · cases e
  · cases e
    exact ⟨xs, r, .inr ⟨n, e1, p, g⟩⟩
/-- what is no list and no dict is there by value -/
theorem Top.res (h : Top st fz pt d v) (hv : noBox v = true) : Res st fz pt d v := by
  rcases h with h | ⟨n, e1, p, ⟨xs, ws, rfl, g, r⟩ | ⟨ks, xs, ws, rfl, g, r⟩⟩
  · exact h
  · cases hv
  · cases hv
theorem Top.tup {vs : List D} (h : Top st fz pt d (.tup vs)) : ∃ xs, d = .tup xs ∧ Ress st fz pt xs vs := by
  cases h.res rfl with
  | tup r => exact ⟨_, rfl, r⟩
theorem Top.int {i : Int} (h : Top st fz pt d (.int i)) : d = .int i := by cases h.res rfl; rfl
theorem Top.bl {i : Bool} (h : Top st fz pt d (.bl i)) : d = .bl i := by cases h.res rfl; rfl
theorem Top.str {x : Str} (h : Top st fz pt d (.str x)) : d = .str x := by cases h.res rfl; rfl
theorem Top.non (h : Top st fz pt d .non) : d = .non := by cases h.res rfl; rfl
theorem Top.ro {ns : List Int} (h : Top st fz pt d (.ro ns)) : d = .ro ns := by cases h.res rfl; rfl
theorem Top.fn {x : Str} (h : Top st fz pt d (.fn x)) : d = .fn x := by cases h.res rfl; rfl
theorem Top.loc (h : Top st fz pt d (.loc n)) : d = .loc n ∧ pt n := by cases h.res rfl with | pot p => exact ⟨rfl, p⟩
section
variable {xs vs : List D}
theorem Lv.items (h : Lv st pt d xs) : items st d = some xs := by
  rcases h with rfl | ⟨n, rfl, _, e⟩
  · rfl
  · unfold Ev.items; dsimp only; rw [e]
theorem Lv.lsOf (h : Lv st pt d xs) : lsOf st d = some xs := by
  rcases h with rfl | ⟨n, rfl, _, e⟩
  · rfl
  · unfold Ev.lsOf; dsimp only; rw [e]
theorem Lv.seqOf (h : Lv st pt d xs) : seqOf st d = some xs := by
  rcases h with rfl | ⟨n, rfl, p, e⟩
  · rfl
  · exact Lv.lsOf (pt := pt) (.inr ⟨n, rfl, p, e⟩)
end
theorem Res.flat (h : Res st fz pt d v) (hv : flatD v = true) : d = v := by
  cases h <;> first | rfl | cases hv
theorem Ress.flat : ∀ {ds vs : List D}, Ress st fz pt ds vs → vs.all flatD = true → ds = vs
  | _, _, .nil, _ => rfl
  | _, _, .cons h t, e => by
    rw [List.all_cons, Bool.and_eq_true] at e
    rw [h.flat e.1, Ress.flat t e.2]
theorem Ress.ints : ∀ {ds vs : List D} {ns : List Int}, Ress st fz pt ds vs → intsD vs = some ns → intsD ds = some ns
  | _, _, _, .nil, e => e
  | _, .int i :: vs, _, .cons h t, e => by
    cases h
    unfold intsD at e ⊢
    rw [Option.map_eq_some_iff] at e
    obtain ⟨r, e1, e2⟩ := e
    rw [Ress.ints t e1, ← e2]
    rfl
theorem Ress.bools : ∀ {ds vs : List D} {ns : List Bool}, Ress st fz pt ds vs → boolsD vs = some ns → boolsD ds = some ns
  | _, _, _, .nil, e => e
  | _, .bl i :: vs, _, .cons h t, e => by
    cases h
    unfold boolsD at e ⊢
    rw [Option.map_eq_some_iff] at e
    obtain ⟨r, e1, e2⟩ := e
    rw [Ress.bools t e1, ← e2]
    rfl
theorem Ress.ofInts (ns : List Int) : Ress st fz pt (ns.map D.int) (ns.map D.int) := by
  induction ns with
  | nil => exact .nil
  | cons n ns ih => exact .cons (.int n) ih
theorem empty_eq : ∀ {ds vs : List D}, Ress st fz pt ds vs → ds.isEmpty = vs.isEmpty
  | _, _, .nil => rfl
  | _, _, .cons _ _ => rfl
/-- the same plain data -/
theorem toPyR : ∀ (k : Nat) {d v : D} {p : PyData}, Res st fz pt d v → toPy [] k v = some p → toPy st k d = some p := by
  intro k
  induction k with
  | zero =>
    intro d v p r h
    cases r <;> first | exact h | (unfold toPy at h; cases h)
  | succ k ih =>
    have many : ∀ {ds vs : List D} {ps : List PyData}, Ress st fz pt ds vs → vs.mapM (toPy [] k) = some ps → ds.mapM (toPy st k) = some ps := by
      intro ds vs ps r
      induction r using Ress.rec (motive_1 := fun _ _ _ => True) generalizing ps with
      | nil => intro h; simpa using h
      | cons h t _ ih2 =>
        intro e
        rw [List.mapM_cons] at e ⊢
        cases hv : toPy [] k _ with
        | none => rw [hv] at e; simp at e
        | some a =>
          rw [hv] at e
          rw [ih h hv]
          cases hm : List.mapM (toPy [] k) _ with
          | none => rw [hm] at e; simp at e
          | some b =>
            rw [hm] at e
            rw [ih2 hm]
            exact e
      | _ => trivial
    intro d v p r h
    cases r with
    | non => exact h
    | bl b => exact h
    | int i => exact h
    | str x => exact h
    | tup r =>
      change (List.mapM (toPy [] k) _).map _ = _ at h
      change (List.mapM (toPy st k) _).map _ = _
      rw [Option.map_eq_some_iff] at h ⊢
      obtain ⟨a, h1, h2⟩ := h
      exact ⟨a, many r h1, h2⟩
    | lst r =>
      change (List.mapM (toPy [] k) _).map _ = _ at h
      change (List.mapM (toPy st k) _).map _ = _
      rw [Option.map_eq_some_iff] at h ⊢
      obtain ⟨a, h1, h2⟩ := h
      exact ⟨a, many r h1, h2⟩
    | dct r =>
      unfold toPy at h ⊢
      rw [r.length]
      split at h
      · rename_i hl
        rw [if_pos hl]
        rw [Option.map_eq_some_iff] at h ⊢
        obtain ⟨a, h1, h2⟩ := h
        exact ⟨a, many r h1, h2⟩
      · cases h
    | ll f e r =>
      change (List.mapM (toPy [] k) _).map _ = _ at h
      unfold toPy
      rw [e]
      dsimp only
      rw [Option.map_eq_some_iff] at h ⊢
      obtain ⟨a, h1, h2⟩ := h
      exact ⟨a, many r h1, h2⟩
    | ld f e r =>
      unfold toPy at h ⊢
      rw [e]
      dsimp only
      rw [r.length]
      split at h
      · rename_i hl
        rw [if_pos hl]
        rw [Option.map_eq_some_iff] at h ⊢
        obtain ⟨a, h1, h2⟩ := h
        exact ⟨a, many r h1, h2⟩
      · cases h
    | ro ns => unfold toPy at h; cases h
    | pot p => unfold toPy at h; simp at h
    | fn x => unfold toPy at h; cases h
theorem toPy_top {k : Nat} {p : PyData} (w : Wd st fz pt) (r : Top st fz pt d v) (h : toPy [] k v = some p) : toPy st k d = some p := by
  rcases r with r | ⟨n, e1, pn, c⟩
  · exact toPyR k r h
  · -- the same with that thing given away
    have km : Km st fz pt st (fun m => fz m ∨ m = n) pt := ⟨fun m f => ⟨.inl f, rfl⟩, fun m f => f⟩
    subst e1
    rcases c with ⟨xs, vs, rfl, e, r⟩ | ⟨ks, xs, vs, rfl, e, r⟩
    · exact toPyR (fz := fun m => fz m ∨ m = n) (pt := pt) k (.ll (.inr rfl) e (r.mono km)) h
    · exact toPyR (fz := fun m => fz m ∨ m = n) (pt := pt) k (.ld (.inr rfl) e (r.mono km)) h
end
end Ev
/-! Operators on values and on what lies in a store. -/
namespace Ev
open PySem
section
variable {st st' : Sto} {fz pt fz' pt' : NS} {d e v u r : D} {n b : Nat} {s : Sto} {al : Bool}
/-- an outcome of an operator -/
def Fine (fr : Bool) (st : Sto) (fz pt : NS) (o : Out D) (r : D) : Prop := ∃ d st', o = .ok d st' ∧ Xt st fz pt st' fz pt ∧ if fr = true then Frs st.length st' fz pt d r else Res st' fz pt d r
theorem Fine.atom {fr : Bool} {o : Out D} (w : Wd st fz pt) (h : o = .ok d st) (hv : noBox v = true) (r : Res st fz pt d v) : Fine fr st fz pt o v := by
  refine ⟨d, st, h, Xt.refl w, ?_⟩
  cases fr with
  | true => exact .inl ⟨hv, r⟩
  | false => exact r
theorem newL_fine (w : Wd st fz pt) {xs vs : List D} (r : Ress st fz pt xs vs) : Fine al st fz pt (newL al xs st) (.lst vs) := by
  cases al with
  | true => exact ⟨_, _, rfl, Xt.new w _, frs_newL w r⟩
  | false => exact ⟨_, _, rfl, Xt.refl w, .lst r⟩
theorem newD_fine (w : Wd st fz pt) {ks : List L2.Key} {xs vs : List D} (r : Ress st fz pt xs vs) : Fine al st fz pt (newDct al ks xs st) (.dct ks vs) := by
  cases al with
  | true => exact ⟨_, _, rfl, Xt.new w _, frs_newD w r⟩
  | false => exact ⟨_, _, rfl, Xt.refl w, .dct r⟩
theorem truthT (w : Wd st fz pt) (h : Top st fz pt d v) {k : Bool} (e : truth [] v = some k) : truth st d = some k := by
  cases v with
  | non => rw [h.non]; exact e
  | bl b => rw [h.bl]; exact e
  | int i => rw [h.int]; exact e
  | str x => rw [h.str]; exact e
  | tup vs => obtain ⟨xs, rfl, r⟩ := h.tup; change some _ = _ at e; change some _ = _; rw [empty_eq r]; exact e
  | lst vs =>
    obtain ⟨xs, r, rfl | ⟨n, rfl, p, g⟩⟩ := h.lst w
    · change some _ = _ at e; change some _ = _; rw [empty_eq r]; exact e
    · unfold truth; dsimp only; rw [g]; change some _ = _ at e; dsimp only; rw [empty_eq r]; exact e
  | dct ks vs =>
    obtain ⟨xs, r, rfl | ⟨n, rfl, p, g⟩⟩ := h.dct w
    · exact e
    · unfold truth; dsimp only; rw [g]; exact e
  | ro ns => rw [h.ro]; exact e
  | loc n => exact nomatch e
  | fn x => cases e
theorem isTyT (w : Wd st fz pt) (h : Top st fz pt d v) {t : Ty} {k : Bool} (e : isTy t v [] = some k) : isTy t d st = some k := by
  cases v with
  | non => rw [h.non]; exact e
  | bl b => rw [h.bl]; exact e
  | int i => rw [h.int]; exact e
  | str x => rw [h.str]; exact e
  | tup vs => obtain ⟨xs, rfl, r⟩ := h.tup; exact e
  | lst vs =>
    obtain ⟨xs, r, rfl | ⟨n, rfl, p, g⟩⟩ := h.lst w
    · exact e
    · unfold isTy; dsimp only; rw [g]; exact e
  | dct ks vs =>
    obtain ⟨xs, r, rfl | ⟨n, rfl, p, g⟩⟩ := h.dct w
    · exact e
    · unfold isTy; dsimp only; rw [g]; exact e
  | ro ns => unfold isTy at e; cases e
  | loc n => unfold isTy at e; cases e
  | fn x => unfold isTy at e; cases e
theorem itemsT (w : Wd st fz pt) (h : Top st fz pt d v) {vs : List D} (e : items [] v = some vs) : ∃ xs, items st d = some xs ∧ Ress st fz pt xs vs := by
  cases v with
  | lst ws => cases e; obtain ⟨xs, r, l⟩ := h.lst w; exact ⟨xs, l.items, r⟩
  | loc n => exact nomatch e
  | _ => cases e
theorem lsOfT (w : Wd st fz pt) (h : Top st fz pt d v) {vs : List D} (e : lsOf [] v = some vs) : ∃ xs, lsOf st d = some xs ∧ Ress st fz pt xs vs := by
  cases v with
  | lst ws => cases e; obtain ⟨xs, r, l⟩ := h.lst w; exact ⟨xs, l.lsOf, r⟩
  | ro ns => cases e; rw [h.ro]; exact ⟨_, rfl, .ofInts ns⟩
  | loc n => exact nomatch e
  | _ => cases e
theorem seqOfT (w : Wd st fz pt) (h : Top st fz pt d v) {vs : List D} (e : seqOf [] v = some vs) : ∃ xs, seqOf st d = some xs ∧ Ress st fz pt xs vs := by
  cases v with
  | tup ws => cases e; obtain ⟨xs, rfl, r⟩ := h.tup; exact ⟨xs, rfl, r⟩
  | lst ws => cases e; obtain ⟨xs, r, l⟩ := h.lst w; exact ⟨xs, l.seqOf, r⟩
  | ro ns => cases e; rw [h.ro]; exact ⟨_, rfl, .ofInts ns⟩
  | loc n => exact nomatch e
  | _ => cases e
theorem amongT (w : Wd st fz pt) (h : Top st fz pt d v) {vs : List D} (e : among [] v = some vs) : ∃ xs, among st d = some xs ∧ Ress st fz pt xs vs := by
  cases v with
  | tup ws => cases e; obtain ⟨xs, rfl, r⟩ := h.tup; exact ⟨xs, rfl, r⟩
  | lst ws =>
    cases e
    obtain ⟨xs, r, l⟩ := h.lst w
    refine ⟨xs, ?_, r⟩
    have := l.items
    rcases l with rfl | ⟨n, rfl, p, g⟩
    · exact this
    · exact this
  | loc n => exact nomatch e
  | _ => cases e
theorem Ress.atI {xs vs : List D} {i : Int} (r : Ress st fz pt xs vs) {a : D} (h : L2.atI vs i = some a) : ∃ x, L2.atI xs i = some x ∧ Res st fz pt x a := by
  unfold L2.atI at h ⊢
  rw [r.length]
  cases hj : L2.ixN vs.length i with
  | none => rw [hj] at h; cases h
  | some j =>
    rw [hj] at h
    exact r.get (i := j) h
theorem ixT (w : Wd st fz pt) (h : Top st fz pt d v) (g : Top st fz pt e u) {r : D} (q : ixD v u [] = some r) : ∃ x, ixD d e st = some x ∧ Res st fz pt x r := by
  unfold ixD at q
  split at q
  · rename_i i
    have he := g.int
    subst he
    split at q
    · rename_i z
      have hd := h.str
      subst hd
      unfold ixD
      dsimp only
      split at q
      · rename_i hs
        rw [if_pos hs]
        rw [Option.map_eq_some_iff] at q
        obtain ⟨c, q1, rfl⟩ := q
        exact ⟨_, by rw [q1]; rfl, .str _⟩
      · cases q
    · rename_i hns
      rw [Option.bind_eq_some_iff] at q
      obtain ⟨vs, q1, q2⟩ := q
      obtain ⟨xs, p1, p2⟩ := seqOfT w h q1
      obtain ⟨x, p3, p4⟩ := p2.atI q2
      refine ⟨x, ?_, p4⟩
      have : ixD d (.int i) st = (seqOf st d).bind fun xs => L2.atI xs i := by
        unfold ixD
        dsimp only
        split
        · rename_i z2
          -- a text: then v is one
          exfalso
          cases p1
        · rfl
      rw [this, p1]
      exact p3
  · cases q
theorem cut_ress {xs vs : List D} (r : Ress st fz pt xs vs) (lo hi : Option Int) : Ress st fz pt (cutL xs lo hi) (cutL vs lo hi) := by
  unfold cutL
  rw [r.length]
  exact (r.drop _).take _
theorem lsOf_not_tup {vs : List D} {xs : List D} (h : lsOf st (.tup vs) = some xs) : False := by cases h
theorem slT (w : Wd st fz pt) (h : Top st fz pt d v) {lo hi : Option Int} {r : D} (q : slD false v lo hi [] = .ok r s) : Fine al st fz pt (slD al d lo hi st) r := by
  unfold slD at q
  split at q
  · rename_i vs
    cases q
    obtain ⟨xs, rfl, r⟩ := h.tup
    exact .atom w rfl rfl (.tup (cut_ress r lo hi))
  · split at q
    · rename_i vs e
      cases q
      obtain ⟨xs, p1, p2⟩ := lsOfT w h e
      have : slD al d lo hi st = newL al (cutL xs lo hi) st := by
        unfold slD
        split
        · cases p1
        · rw [p1]
      rw [this]
      exact newL_fine w (cut_ress p2 lo hi)
    · cases q
theorem addT (w : Wd st fz pt) (h : Top st fz pt d v) (g : Top st fz pt e u) {r : D} (q : addD false v u [] = .ok r s) : Fine al st fz pt (addD al d e st) r := by
  unfold addD at q
  split at q
  · cases q
    rw [h.int, g.int]
    exact .atom w rfl rfl (.int _)
  · rename_i x y
    split at q
    · rename_i hs
      cases q
      rw [h.str, g.str]
      refine .atom w ?_ rfl (.str _)
      unfold addD
      dsimp only
      rw [if_pos hs]
    · cases q
  · rename_i xs ys
    split at q
    · rename_i hs
      cases q
      obtain ⟨xs', rfl, r1⟩ := h.tup
      obtain ⟨ys', rfl, r2⟩ := g.tup
      refine .atom w ?_ rfl (.tup (r1.append r2))
      unfold addD
      dsimp only
      rw [r1.length, r2.length, if_pos hs]
    · cases q
  · rename_i n1 n2 n3
    split at q
    · rename_i xs ys e1 e2
      split at q
      · rename_i hs
        cases q
        obtain ⟨xs', p1, r1⟩ := itemsT w h e1
        obtain ⟨ys', p2, r2⟩ := itemsT w g e2
        have : addD al d e st = newL al (xs' ++ ys') st := by
          unfold addD
          split
          · cases p1
          · cases p1
          · cases p1
          · rw [p1, p2]
            dsimp only
            rw [r1.length, r2.length, if_pos hs]
        rw [this]
        exact newL_fine w (r1.append r2)
      · cases q
    · cases q
/-- fresh, if it is a list -/
def frB : BOp → Bool → Bool
  | .add, al => al
  | _, _ => true
theorem binT (w : Wd st fz pt) (h : Top st fz pt d v) (g : Top st fz pt e u) {o : BOp} {r : D} (q : binD false o v u [] = .ok r s) : Fine (frB o al) st fz pt (binD al o d e st) r := by
  cases o with
  | add => exact addT w h g q
  | sub =>
    unfold binD subD at q
    dsimp only at q
    split at q
    · cases q; rw [h.int, g.int]; exact .atom w rfl rfl (.int _)
    · cases q
  | mul =>
    unfold binD mulD at q
    dsimp only at q
    split at q
    · split at q
      · rename_i hs
        cases q; rw [h.int, g.int]
        exact .atom w (by unfold binD mulD; dsimp only; rw [if_pos hs]) rfl (.int _)
      · cases q
    · split at q
      · rename_i hs
        cases q
        obtain ⟨xs', rfl, r1⟩ := h.tup
        rw [g.int]
        exact .atom w (by unfold binD mulD; dsimp only; rw [r1.length, if_pos hs]) rfl (.tup (r1.rep _))
      · cases q
    · cases q
  | fdiv =>
    unfold binD fdivD at q
    dsimp only at q
    split at q
    · split at q
      · rename_i hs
        cases q; rw [h.int, g.int]
        exact .atom w (by unfold binD fdivD; dsimp only; rw [if_pos hs]) rfl (.int _)
      · cases q
    · cases q
  | mod =>
    unfold binD modD at q
    dsimp only at q
    split at q
    · split at q
      · rename_i hs
        cases q; rw [h.int, g.int]
        exact .atom w (by unfold binD modD; dsimp only; rw [if_pos hs]) rfl (.int _)
      · cases q
    · cases q
  | pow =>
    unfold binD powD at q
    dsimp only at q
    split at q
    · split at q
      · rename_i hs
        cases q; rw [h.int, g.int]
        exact .atom w (by unfold binD powD; dsimp only; rw [if_pos hs]) rfl (.int _)
      · cases q
    · cases q
theorem opt_ok {α : Type} {o : Option α} {a : α} {s s' : Sto} (h : opt o s = .ok a s') : o = some a := by
  cases o with
  | none => cases h
  | some b => cases h; rfl
theorem eqDT (w : Wd st fz pt) (h : Top st fz pt d v) (g : Top st fz pt e u) {k : Bool} (q : eqD [] v u = some k) : eqD st d e = some k := by
  unfold eqD at q ⊢
  split at q
  · rename_i p1 p2 e1 e2
    rw [toPy_top w h e1, toPy_top w g e2]
    exact q
  · cases q
theorem eqDDT (w : Wd st fz pt) (h : Top st fz pt d v) (g : Top st fz pt e u) {neg : Bool} {r : D} (q : eqDD neg v u [] = .ok r s) : ∃ k, r = .bl k ∧ eqDD neg d e st = .ok (.bl k) st := by
  unfold eqDD at q
  split at q
  · cases q; rw [h.int, g.int]; exact ⟨_, rfl, rfl⟩
  · cases q; rw [h.str, g.str]; exact ⟨_, rfl, rfl⟩
  · rename_i n1 n2
    cases hq : eqD [] v u with
    | none => rw [hq] at q; cases q
    | some k =>
      rw [hq] at q
      cases q
      refine ⟨_, rfl, ?_⟩
      have hh := eqDT w h g hq
      unfold eqDD
      split
      · rename_i i j
        -- then v, u are ints, too
        exfalso
        have hv : v = .int i := by
          rcases h with h | ⟨n, z, _⟩
          · cases h; rfl
          · cases z
        have hu : u = .int j := by
          rcases g with g | ⟨n, z, _⟩
          · cases g; rfl
          · cases z
        exact n1 i j hv hu
      · rename_i i j
        exfalso
        have hv : v = .str i := by
          rcases h with h | ⟨n, z, _⟩
          · cases h; rfl
          · cases z
        have hu : u = .str j := by
          rcases g with g | ⟨n, z, _⟩
          · cases g; rfl
          · cases z
        exact n2 i j hv hu
      · rw [hh]
        rfl
theorem isNoneT (w : Wd st fz pt) (h : Top st fz pt d v) (g : Top st fz pt e u) {neg : Bool} {r : D} (q : isNoneD neg v u [] = .ok r s) : ∃ k, r = .bl k ∧ isNoneD neg d e st = .ok (.bl k) st := by
  unfold isNoneD at q
  split at q
  · cases q
    rw [g.non]
    refine ⟨_, rfl, ?_⟩
    unfold isNoneD
    dsimp only
    congr 3
    rcases h with h | ⟨n, rfl, p, ⟨xs, ws, rfl, _⟩ | ⟨ks, xs, ws, rfl, _⟩⟩
    · cases h <;> rfl
    · rfl
    · rfl
  · cases q
theorem inDT (w : Wd st fz pt) (h : Top st fz pt d v) (g : Top st fz pt e u) {neg : Bool} {r : D} (q : inD neg v u [] = .ok r s) : ∃ k, r = .bl k ∧ inD neg d e st = .ok (.bl k) st := by
  unfold inD at q
  split at q
  · rename_i ys e1
    split at q
    · rename_i hf
      cases q
      have hf2 := hf
      rw [Bool.and_eq_true] at hf2
      obtain ⟨xs, p1, p2⟩ := amongT w g e1
      have e2 := p2.flat hf2.2
      subst e2
      have e3 : d = v := (h.res (by revert hf2; cases v <;> simp [flatD, noBox])).flat hf2.1
      subst e3
      refine ⟨_, rfl, ?_⟩
      unfold inD
      rw [p1]
      dsimp only
      rw [if_pos hf]
    · cases q
  · cases q
theorem relT (h : Top st fz pt d v) (g : Top st fz pt e u) {f : Int → Int → Bool} {r : D} (q : relD f v u [] = .ok r s) : ∃ k, r = .bl k ∧ relD f d e st = .ok (.bl k) st := by
  unfold relD at q
  split at q
  · cases q; rw [h.int, g.int]; exact ⟨_, rfl, rfl⟩
  · cases q
theorem cmpT (w : Wd st fz pt) (h : Top st fz pt d v) (g : Top st fz pt e u) {o : COp} {r : D} (q : cmpD o v u [] = .ok r s) : ∃ k, r = .bl k ∧ cmpD o d e st = .ok (.bl k) st := by
  cases o with
  | eq => exact eqDDT w h g q
  | ne => exact eqDDT w h g q
  | lt => exact relT h g q
  | le => exact relT h g q
  | gt => exact relT h g q
  | ge => exact relT h g q
  | isN => exact isNoneT w h g q
  | notN => exact isNoneT w h g q
  | isIn => exact inDT w h g q
  | notIn => exact inDT w h g q
/-- arguments, as they stand -/
inductive Tops (st : Sto) (fz pt : NS) : List D → List D → Prop
  | nil : Tops st fz pt [] []
  | cons {d v : D} {ds vs : List D} (h : Top st fz pt d v) (t : Tops st fz pt ds vs) : Tops st fz pt (d :: ds) (v :: vs)
theorem Tops.mono (w : Wd st fz pt) (x : Xt st fz pt st' fz' pt') : ∀ {ds vs : List D}, Tops st fz pt ds vs → Tops st' fz' pt' ds vs
  | _, _, .nil => .nil
  | _, _, .cons h t => .cons (h.mono w x) (Tops.mono w x t)
theorem Ress.tops : ∀ {ds vs : List D}, Ress st fz pt ds vs → Tops st fz pt ds vs
  | _, _, .nil => .nil
  | _, _, .cons h t => .cons (.inl h) (Ress.tops t)
theorem lenT (w : Wd st fz pt) (h : Top st fz pt d v) {n : Nat} (q : lenD [] v = some n) : lenD st d = some n := by
  unfold lenD at q
  split at q
  · split at q
    · rename_i hs
      rw [h.str]
      unfold lenD
      dsimp only
      rw [if_pos hs]
      exact q
    · cases q
  · rw [Option.map_eq_some_iff] at q
    obtain ⟨vs, q1, q2⟩ := q
    obtain ⟨xs, p1, p2⟩ := seqOfT w h q1
    unfold lenD
    split
    · cases p1
    · rw [p1, Option.map_some, p2.length, q2]
def frP : Prim → Bool → Bool
  | .list, al => al
  | .rg l, al => !l || al
  | _, _ => true
theorem arg1_inv {f : D → Sto → Out D} {vs : List D} {r : D} (h : arg1 f vs [] = .ok r s) : ∃ v, vs = [v] ∧ f v [] = .ok r s := by
  unfold arg1 at h
  split at h
  · exact ⟨_, rfl, h⟩
  · cases h
theorem arg2_inv {f : D → D → Sto → Out D} {vs : List D} {r : D} (h : arg2 f vs [] = .ok r s) : ∃ v u, vs = [v, u] ∧ f v u [] = .ok r s := by
  unfold arg2 at h
  split at h
  · exact ⟨_, _, rfl, h⟩
  · cases h
theorem bnd_inv {α β : Type} {o : Option α} {f : α → Sto → Out β} {r : β} {s0 : Sto} (h : (opt o s0).bnd f = .ok r s) : ∃ a, o = some a ∧ f a s0 = .ok r s := by
  cases o with
  | none => cases h
  | some a => exact ⟨a, rfl, h⟩
theorem prT (w : Wd st fz pt) {ds vs : List D} (h : Tops st fz pt ds vs) {p : Prim} {r : D} (q : prD false p vs [] = .ok r s) : Fine (frP p al) st fz pt (prD al p ds st) r := by
  cases p with
  | len =>
    obtain ⟨v, rfl, q⟩ := arg1_inv q
    obtain ⟨n, q1, q2⟩ := bnd_inv q
    cases q2
    cases h with | cons h t => cases t; exact .atom w (by show (opt (lenD st _) st).bnd _ = _; rw [lenT w h q1]; rfl) rfl (.int _)
  | abs =>
    obtain ⟨v, rfl, q⟩ := arg1_inv q
    change absP v [] = _ at q
    unfold absP at q
    split at q
    · cases q
      cases h with | cons h t => cases t; rw [h.int]; exact .atom w rfl rfl (.int _)
    · cases q
  | max2 =>
    obtain ⟨v, u, rfl, q⟩ := arg2_inv q
    change maxP v u [] = _ at q
    unfold maxP at q
    split at q
    · cases q
      cases h with | cons h t => cases t with | cons g t => cases t; rw [h.int, g.int]; exact .atom w rfl rfl (.int _)
    · cases q
  | min2 =>
    obtain ⟨v, u, rfl, q⟩ := arg2_inv q
    change minP v u [] = _ at q
    unfold minP at q
    split at q
    · cases q
      cases h with | cons h t => cases t with | cons g t => cases t; rw [h.int, g.int]; exact .atom w rfl rfl (.int _)
    · cases q
  | int1 =>
    obtain ⟨v, rfl, q⟩ := arg1_inv q
    change intP v [] = _ at q
    unfold intP at q
    split at q
    · cases q
      cases h with | cons h t => cases t; rw [h.int]; exact .atom w rfl rfl (.int _)
    · cases q
      cases h with | cons h t => cases t; rw [h.bl]; exact .atom w rfl rfl (.int _)
    · cases q
  | repr =>
    obtain ⟨v, rfl, q⟩ := arg1_inv q
    have q := opt_ok q
    unfold reprD at q
    split at q
    · rename_i p1 e1
      split at q
      · rename_i hs
        cases q
        cases h with
        | cons h t =>
          cases t
          refine .atom w ?_ rfl (.str _)
          show opt (reprD st _) st = _
          unfold reprD
          rw [toPy_top w h e1]
          dsimp only
          rw [if_pos hs]
          rfl
      · cases q
    · cases q
  | divmod =>
    obtain ⟨v, u, rfl, q⟩ := arg2_inv q
    change divmodP v u [] = _ at q
    unfold divmodP at q
    split at q
    · split at q
      · rename_i hs
        cases q
        cases h with
        | cons h t =>
          cases t with
          | cons g t =>
            cases t
            rw [h.int, g.int]
            refine .atom w ?_ rfl (.tup (.cons (.int _) (.cons (.int _) .nil)))
            rw [pr_divmod, if_pos hs]
      · cases q
    · cases q
  | sum =>
    obtain ⟨v, rfl, q⟩ := arg1_inv q
    obtain ⟨n, q1, q2⟩ := bnd_inv q
    cases q2
    rw [Option.bind_eq_some_iff] at q1
    obtain ⟨vs, q3, q4⟩ := q1
    cases h with
    | cons h t =>
      cases t
      obtain ⟨xs, p1, p2⟩ := itemsT w h q3
      exact .atom w (by show (opt ((items st _).bind intsD) st).bnd _ = _; rw [p1]; show (opt (intsD xs) st).bnd _ = _; rw [p2.ints q4]; rfl) rfl (.int _)
  | all =>
    obtain ⟨v, rfl, q⟩ := arg1_inv q
    obtain ⟨n, q1, q2⟩ := bnd_inv q
    cases q2
    rw [Option.bind_eq_some_iff] at q1
    obtain ⟨vs, q3, q4⟩ := q1
    cases h with
    | cons h t =>
      cases t
      obtain ⟨xs, p1, p2⟩ := itemsT w h q3
      exact .atom w (by show (opt ((items st _).bind boolsD) st).bnd _ = _; rw [p1]; show (opt (boolsD xs) st).bnd _ = _; rw [p2.bools q4]; rfl) rfl (.bl _)
  | any =>
    obtain ⟨v, rfl, q⟩ := arg1_inv q
    obtain ⟨n, q1, q2⟩ := bnd_inv q
    cases q2
    rw [Option.bind_eq_some_iff] at q1
    obtain ⟨vs, q3, q4⟩ := q1
    cases h with
    | cons h t =>
      cases t
      obtain ⟨xs, p1, p2⟩ := itemsT w h q3
      exact .atom w (by show (opt ((items st _).bind boolsD) st).bnd _ = _; rw [p1]; show (opt (boolsD xs) st).bnd _ = _; rw [p2.bools q4]; rfl) rfl (.bl _)
  | tuple =>
    obtain ⟨v, rfl, q⟩ := arg1_inv q
    change tupleP v [] = _ at q
    unfold tupleP at q
    split at q
    · cases q
      cases h with
      | cons h t =>
        cases t
        obtain ⟨xs, rfl, r⟩ := h.tup
        exact .atom w rfl rfl (.tup r)
    · obtain ⟨vs, q1, q2⟩ := bnd_inv q
      cases q2
      cases h with
      | cons h t =>
        cases t
        obtain ⟨xs, p1, p2⟩ := lsOfT w h q1
        refine .atom w ?_ rfl (.tup p2)
        show tupleP _ st = _
        unfold tupleP
        split
        · cases p1
        · rw [p1]
          rfl
  | list =>
    obtain ⟨v, rfl, q⟩ := arg1_inv q
    obtain ⟨vs, q1, q2⟩ := bnd_inv q
    cases q2
    cases h with
    | cons h t =>
      cases t
      obtain ⟨xs, p1, p2⟩ := seqOfT w h q1
      have : ∀ d', seqOf st d' = some xs → prD al .list [d'] st = newL al xs st := by
        intro d' p
        show (opt (seqOf st d') st).bnd _ = _
        rw [p]
        rfl
      rw [this _ p1]
      exact newL_fine w p2
  | max1 =>
    obtain ⟨v, rfl, q⟩ := arg1_inv q
    change most1 v [] = _ at q
    unfold most1 at q
    obtain ⟨n, q1, q2⟩ := bnd_inv q
    rw [Option.bind_eq_some_iff] at q1
    obtain ⟨vs, q3, q4⟩ := q1
    cases h with
    | cons h t =>
      cases t
      obtain ⟨xs, p1, p2⟩ := itemsT w h q3
      cases n with
      | nil => cases q2
      | cons m l =>
        cases q2
        refine .atom w ?_ rfl (.int _)
        show most1 _ st = _
        unfold most1
        rw [p1]
        show (opt (intsD xs) st).bnd _ = _
        rw [p2.ints q4]
        rfl
  | min1 =>
    obtain ⟨v, rfl, q⟩ := arg1_inv q
    change least1 v [] = _ at q
    unfold least1 at q
    obtain ⟨n, q1, q2⟩ := bnd_inv q
    rw [Option.bind_eq_some_iff] at q1
    obtain ⟨vs, q3, q4⟩ := q1
    cases h with
    | cons h t =>
      cases t
      obtain ⟨xs, p1, p2⟩ := itemsT w h q3
      cases n with
      | nil => cases q2
      | cons m l =>
        cases q2
        refine .atom w ?_ rfl (.int _)
        show least1 _ st = _
        unfold least1
        rw [p1]
        show (opt (intsD xs) st).bnd _ = _
        rw [p2.ints q4]
        rfl
  | rg l =>
    change rgP false l vs [] = _ at q
    have key : ∀ a b : Int, rgE false l a b [] = .ok r s → Fine (!l || al) st fz pt (rgE al l a b st) r := by
      intro a b q
      unfold rgE at q ⊢
      split at q
      · rename_i hk
        rw [if_pos hk]
        have rr : Ress st fz pt (rgD a b) (rgD a b) := by
          unfold rgD
          generalize List.range (b - a).toNat = l
          induction l with
          | nil => exact .nil
          | cons i l ih => exact .cons (.int _) ih
        cases l with
        | false =>
          cases q
          exact .atom w rfl rfl (.tup rr)
        | true =>
          cases q
          exact newL_fine w rr
      · cases q
    unfold rgP at q
    split at q
    · cases h with
      | cons h t =>
        cases t
        rw [h.int]
        exact key _ _ q
    · cases h with
      | cons h t =>
        cases t with
        | cons g t =>
          cases t
          rw [h.int, g.int]
          exact key _ _ q
    · cases q
/-! what operators end in: never in an exception -/
theorem of_wp0 {o : Out D} {Q : D → Prop} {X : Str → D → Prop} (h : (Tr.of o).wp0 Q X) (hx : ∀ c v s, o ≠ .ex c v s) : ∃ r s, o = .ok r s ∧ Q r := by
  cases o with
  | ok r s => exact ⟨r, s, rfl, h⟩
  | ex c v s => exact absurd rfl (hx c v s)
  | bad => exact h.elim
theorem ofO_wp0 {α : Type} {o : Option α} {Q : α → Prop} {X : Str → D → Prop} (h : (Tr.ofO o).wp0 Q X) : ∃ r, o = some r ∧ Q r := by
  cases o with
  | none => exact h.elim
  | some r => exact ⟨r, rfl, h⟩
end
end Ev
/-! Who owns its list; environments; expressions. -/
namespace Ev
open PySem

/-! ### names whose list may be kept by a value -/
def rdOf (e : E) (l : List Nat) : List Nat := match e with
  | .v _ => []
  | _ => l
mutual
def esc : E → List Nat
  | .c _ => []
  | .v i => [i]
  | .g _ => []
  | .bin _ _ a b => rdOf a (esc a) ++ rdOf b (esc b)
  | .neg a => rdOf a (esc a)
  | .not a => rdOf a (esc a)
  | .and a b => esc a ++ esc b
  | .or a b => esc a ++ esc b
  | .ite t a b => rdOf t (esc t) ++ (esc a ++ esc b)
  | .cmp _ a b => rdOf a (esc a) ++ rdOf b (esc b)
  | .chain _ _ a b c => rdOf a (esc a) ++ (rdOf b (esc b) ++ rdOf c (esc c))
  | .tup es => escs es
  | .lst _ es => escs es
  | .dct _ _ es => escs es
  | .ix a b => rdOf a (esc a) ++ rdOf b (esc b)
  | .sl _ a lo hi => rdOf a (esc a) ++ (rdOf lo (esc lo) ++ rdOf hi (esc hi))
  | .call _ _ es => escs es
  | .callv i _ es => i :: escs es
  | .pr _ _ es => rds es
  | .isi a _ => rdOf a (esc a)
  | .comp _ _ _ _ src ifs elt => rds src ++ (rds ifs ++ esc elt)
  | .app a b => esc a ++ esc b
  | .ext a b => esc a ++ esc b
termination_by structural e => e
def escs : List E → List Nat
  | [] => []
  | e :: es => esc e ++ escs es
termination_by structural e => e
def rds : List E → List Nat
  | [] => []
  | e :: es => rdOf e (esc e) ++ rds es
termination_by structural e => e
end
/-- whether what comes is nobody else's -/
def frE (fresh : Str → Bool) : E → Bool
  | .lst al _ => al
  | .dct al _ _ => al
  | .comp al _ _ _ _ _ _ => al
  | .bin al o _ _ => frB o al
  | .pr al p _ => frP p al
  | .cmp .. => true
  | .chain .. => true
  | .not _ => true
  | .neg _ => true
  | .isi .. => true
  | .tup _ => true
  | .ite _ a b => frE fresh a && frE fresh b
  | .call f _ _ => fresh f
  | _ => false

/-- the names that own their list -/
abbrev Fl := List Nat
def own (fl : Fl) (i : Nat) : Bool := fl.contains i
def unow (fl : Fl) (i : Nat) : Fl := fl.filter (· != i)
/-- the names' values, and what they are in the store -/
structure Rel (b : Nat) (fl : Fl) (p e : Env) (st : Sto) (fz pt : NS) : Prop where
  base : b ≤ st.length
  len : e.length = p.length
  val : ∀ i v, p[i]? = some (some v) → ∃ d, e[i]? = some (some d) ∧ (own fl i = true → Frs b st fz pt d v) ∧ (own fl i = false → Res st fz pt d v)
  dis : ∀ i j n v u, i ≠ j → own fl i = true → own fl j = true → p[i]? = some (some v) → p[j]? = some (some u) → e[i]? = some (some (.loc n)) → e[j]? = some (some (.loc n)) → pt n
section
variable {st st' : Sto} {fz pt fz' pt' : NS} {b : Nat} {fl : Fl} {p e : Env}
theorem Rel.mono (w : Wd st fz pt) (h : Rel b fl p e st fz pt) (x : Xt st fz pt st' fz' pt') : Rel b fl p e st' fz' pt' :=
  ⟨Nat.le_trans h.base x.len, h.len, fun i v hv => let ⟨d, e1, e2, e3⟩ := h.val i v hv; ⟨d, e1, fun o => (e2 o).mono w x, fun o => (e3 o).mono (x.km w)⟩, fun i j n v u hij oi oj pi pj ei ej => x.pt1 _ (h.dis i j n v u hij oi oj pi pj ei ej)⟩
theorem Rel.top (h : Rel b fl p e st fz pt) {i : Nat} {v : D} (hv : p[i]? = some (some v)) : ∃ d, e[i]? = some (some d) ∧ Top st fz pt d v := by
  obtain ⟨d, e1, e2, e3⟩ := h.val i v hv
  cases ho : own fl i with
  | true => exact ⟨d, e1, (e2 ho).top⟩
  | false => exact ⟨d, e1, .inl (e3 ho)⟩
theorem own_set_false {i j : Nat} : own (unow fl i) j = (own fl j && !decide (i = j)) := by
  unfold own unow
  rw [Bool.eq_iff_iff]
  simp only [List.contains_iff_mem, List.mem_filter, Bool.and_eq_true, bne_iff_ne, ne_eq, Bool.not_eq_true', decide_eq_false_iff_not]
  constructor
  · rintro ⟨h1, h2⟩
    exact ⟨h1, fun z => h2 z.symm⟩
  · rintro ⟨h1, h2⟩
    exact ⟨h1, fun z => h2 z.symm⟩
end
/-- an outcome, and what it is as a value -/
def Ho {δ α : Type} (R : Sto → NS → NS → δ → α → Prop) (Q : α → Prop) (X : Str → D → Prop) (st : Sto) (fz pt : NS) : Out δ → Prop
  | .ok d st' => ∃ fz' pt' v, Xt st fz pt st' fz' pt' ∧ Q v ∧ R st' fz' pt' d v
  | .ex c d st' => ∃ fz' pt' v, Xt st fz pt st' fz' pt' ∧ X c v ∧ Res st' fz' pt' d v
  | .bad => False
def RF (fr : Bool) (b : Nat) : Sto → NS → NS → D → D → Prop := fun st fz pt d v => if fr = true then Frs b st fz pt d v else Res st fz pt d v
def RE_ : Sto → NS → NS → D → D → Prop := fun st fz pt d v => Res st fz pt d v
def RT : Sto → NS → NS → D → D → Prop := fun st fz pt d v => Top st fz pt d v
def RB : Sto → NS → NS → Bool → Bool → Prop := fun _ _ _ d v => d = v
def RO : Sto → NS → NS → Option Int → Option Int → Prop := fun _ _ _ d v => d = v
def RSs : Sto → NS → NS → List D → List D → Prop := fun st fz pt d v => Ress st fz pt d v
def RTs : Sto → NS → NS → List D → List D → Prop := fun st fz pt d v => Tops st fz pt d v
section
variable {δ α ε β : Type} {R : Sto → NS → NS → δ → α → Prop} {R2 : Sto → NS → NS → ε → β → Prop} {Q : α → Prop} {Q2 : β → Prop} {X : Str → D → Prop} {st st' : Sto} {fz pt fz' pt' : NS} {o : Out δ} {f : δ → Sto → Out ε}
theorem Ho.pre (x : Xt st fz pt st' fz' pt') (h : Ho R Q X st' fz' pt' o) : Ho R Q X st fz pt o := by
  cases o with
  | ok d s => obtain ⟨a, b, v, y, q⟩ := h; exact ⟨a, b, v, x.trans y, q⟩
  | ex c d s => obtain ⟨a, b, v, y, q⟩ := h; exact ⟨a, b, v, x.trans y, q⟩
  | bad => exact h
theorem Ho.bnd (h : Ho R Q X st fz pt o) (k : ∀ d st' fz' pt' v, Xt st fz pt st' fz' pt' → Q v → R st' fz' pt' d v → Ho R2 Q2 X st' fz' pt' (f d st')) : Ho R2 Q2 X st fz pt (o.bnd f) := by
  cases o with
  | ok d s => obtain ⟨a, b, v, y, q, r⟩ := h; exact (k d s a b v y q r).pre y
  | ex c d s => exact h
  | bad => exact h
theorem Ho.imp {R' : Sto → NS → NS → δ → α → Prop} {Q' : α → Prop} (h : Ho R Q X st fz pt o) (k : ∀ d st' fz' pt' v, Xt st fz pt st' fz' pt' → Q v → R st' fz' pt' d v → ∃ fz'' pt'' v', Xt st fz pt st' fz'' pt'' ∧ Q' v' ∧ R' st' fz'' pt'' d v') : Ho R' Q' X st fz pt o := by
  cases o with
  | ok d s => obtain ⟨a, b, v, y, q, r⟩ := h; exact k d s a b v y q r
  | ex c d s => exact h
  | bad => exact h
end
section
variable {st : Sto} {fz pt : NS} {Q : D → Prop} {X : Str → D → Prop} {o : Out D}
theorem Ho.res {fr : Bool} (h : Ho (RF fr st.length) Q X st fz pt o) : Ho RE_ Q X st fz pt o := h.imp fun d s a b v y q r => by
  cases fr with
  | false => exact ⟨a, b, v, y, q, r⟩
  | true =>
    obtain ⟨fz'', y2, r2, _⟩ := Frs.freeze r y
    exact ⟨fz'', b, v, y2, q, r2⟩
theorem Ho.top {fr : Bool} {n : Nat} (h : Ho (RF fr n) Q X st fz pt o) : Ho RT Q X st fz pt o := h.imp fun d s a b v y q r => by
  cases fr with
  | false => exact ⟨a, b, v, y, q, .inl r⟩
  | true => exact ⟨a, b, v, y, q, Frs.top r⟩
theorem Ho.fine {fr : Bool} {r : D} (h : Fine fr st fz pt o r) (q : Q r) : Ho (RF fr st.length) Q X st fz pt o := by
  obtain ⟨d, s, rfl, x, r'⟩ := h
  exact ⟨fz, pt, r, x, q, r'⟩
end
section
variable {α β : Type} {Q : β → Prop} {X : Str → D → Prop}
theorem wp_bnd0 {t : Tr α} {f : α → Tr β} : (t.bnd f).wp0 Q X ↔ t.wp0 (fun a => (f a).wp0 Q X) X := by
  induction t with
  | ret a => exact Iff.rfl
  | exc c v => exact Iff.rfl
  | bad => exact Iff.rfl
  | ask m k ih => exact and_congr Iff.rfl (and_congr Iff.rfl (forall_congr' fun i => imp_congr Iff.rfl (imp_congr Iff.rfl (ih i))))
  | pot k ih => exact forall_congr' fun n => ih n
theorem wp_mono0 {t : Tr β} {Q' : β → Prop} {X' : Str → D → Prop} (h : t.wp0 Q X) (hq : ∀ a, Q a → Q' a) (hx : ∀ c v, X c v → X' c v) : t.wp0 Q' X' := by
  induction t with
  | ret a => exact hq a h
  | exc c v => exact hx c v h
  | bad => exact h
  | ask m k ih => exact ⟨h.1, h.2.1, fun i h1 h2 => ih i (h.2.2 i h1 h2)⟩
  | pot k ih => exact fun n => ih n (h n)
theorem wp_noEx0 {t : Tr β} : t.noEx.wp0 Q X ↔ t.wp0 Q (fun _ _ => False) := by
  induction t with
  | ret a => exact Iff.rfl
  | exc c v => exact Iff.rfl
  | bad => exact Iff.rfl
  | ask m k ih => exact and_congr Iff.rfl (and_congr Iff.rfl (forall_congr' fun i => imp_congr Iff.rfl (imp_congr Iff.rfl (ih i))))
  | pot k ih => exact forall_congr' fun n => ih n
end
end Ev
/-! Walks, targets, expressions. -/
namespace Ev
open PySem
section
variable {st st' : Sto} {fz pt fz' pt' : NS} {b : Nat} {fl : Fl} {p e : Env} {d v : D} {i : Nat}
theorem nums_at {a : Int} {n i : Nat} : (numsI a n)[i]? = if i < n then some (.int (a + (i : Nat))) else none := by
  unfold numsI
  rw [List.getElem?_map]
  split
  · rename_i h; rw [List.getElem?_range h]; rfl
  · rename_i h; rw [List.getElem?_eq_none_iff.mpr (by rw [List.length_range]; omega)]; rfl
theorem nums_res {a : Int} {n : Nat} : Ress st fz pt (numsI a n) (numsI a n) := by
  unfold numsI
  generalize List.range n = l
  induction l with
  | nil => exact .nil
  | cons x l ih => exact .cons (.int _) ih
theorem seq_it {xs : List D} : itOf .seq [.tup xs] st = some fun i _ => some xs[i]? := rfl
theorem ro_it {ns : List Int} : ∃ J, itOf .seq [.ro ns] st = some J ∧ ∀ s i, J i s = some (ns.map D.int)[i]? :=
  ⟨_, rfl, fun s i => by show some (ns[i]?.map D.int) = _; rw [List.getElem?_map]⟩
theorem enum_at : ∀ (xs : List D) (k i : Nat), (enumD k xs)[i]? = xs[i]?.map fun x => .tup [.int ((k + i : Nat) : Int), x]
  | [], _, _ => by simp [enumD]
  | x :: xs, k, 0 => by simp [enumD]
  | x :: xs, k, i + 1 => by
    unfold enumD
    rw [List.getElem?_cons_succ, List.getElem?_cons_succ, enum_at xs (k + 1) i]
    have : k + 1 + i = k + (i + 1) := by omega
    rw [this]
theorem zip_at : ∀ (xs ys : List D) (i : Nat), (zipD xs ys)[i]? = match xs[i]?, ys[i]? with
    | some x, some y => some (.tup [x, y])
    | _, _ => none
  | [], _, _ => by simp [zipD]
  | x :: xs, [], i => by
    unfold zipD
    cases (x :: xs)[i]? <;> simp
  | x :: xs, y :: ys, 0 => by simp [zipD]
  | x :: xs, y :: ys, i + 1 => by
    unfold zipD
    rw [List.getElem?_cons_succ, List.getElem?_cons_succ, List.getElem?_cons_succ, zip_at xs ys i]
theorem enum_res : ∀ {xs vs : List D} {k : Nat}, Ress st fz pt xs vs → Ress st fz pt (enumD k xs) (enumD k vs)
  | _, _, _, .nil => .nil
  | _, _, k, .cons h t => .cons (.tup (.cons (.int _) (.cons h .nil))) (enum_res t)
theorem zip_res : ∀ {xs vs ys us : List D}, Ress st fz pt xs vs → Ress st fz pt ys us → Ress st fz pt (zipD xs ys) (zipD vs us)
  | _, _, _, _, .nil, _ => .nil
  | _, _, _, _, .cons _ _, .nil => .nil
  | _, _, _, _, .cons h t, .cons g s => .cons (.tup (.cons h (.cons g .nil))) (zip_res t s)
/-- a thing that is walked over -/
theorem seqT (w : Wd st fz pt) (h : Top st fz pt d v) {vs : List D} (q : pSeqOf v = some vs) :
    ∃ J xs, itSeq d st = some J ∧ Ress st fz pt xs vs ∧ isTupD d = isTupD v ∧ (∀ st', (∀ n, d = .loc n → st'[n]? = st[n]?) → ∀ i, J i st' = some xs[i]?) ∧ ∀ n, d = .loc n → ¬ pt n ∧ n < st.length := by
  cases v with
  | tup ws =>
    cases q
    obtain ⟨xs, rfl, r⟩ := h.tup
    exact ⟨_, xs, rfl, r, rfl, fun _ _ _ => rfl, fun n z => (nomatch z)⟩
  | lst ws =>
    cases q
    obtain ⟨xs, r, rfl | ⟨n, rfl, pn, g⟩⟩ := h.lst w
    · exact ⟨_, xs, rfl, r, rfl, fun _ _ _ => rfl, fun n z => (nomatch z)⟩
    · refine ⟨_, xs, it_loc g, r, rfl, fun st' k i => atLoc_at (by rw [k n rfl, g]), fun m z => ?_⟩
      cases z
      exact ⟨pn, (List.getElem?_eq_some_iff.mp g).1⟩
  | ro ns =>
    cases q
    rw [h.ro]
    obtain ⟨J, j1, j2⟩ := ro_it (st := st)
    exact ⟨J, _, j1, .ofInts _, rfl, fun s _ i => j2 s i, fun n z => (nomatch z)⟩
  | _ => cases q
theorem itT (w : Wd st fz pt) {k : IK} {ds vs ys : List D} (h : Tops st fz pt ds vs) (q : pIt k vs = some ys) :
    ∃ J xs, itOf k ds st = some J ∧ Ress st fz pt xs ys ∧ (∀ st', (∀ n, D.loc n ∈ ds → st'[n]? = st[n]?) → ∀ i, J i st' = some xs[i]?) ∧ ∀ n, D.loc n ∈ ds → ¬ pt n ∧ n < st.length := by
  unfold pIt at q
  split at q
  · rename_i v
    rw [Option.map_eq_some_iff] at q
    obtain ⟨ws, q1, rfl⟩ := q
    cases h with
    | cons h t =>
      cases t
      obtain ⟨J, xs, j1, j2, _, j3, j4⟩ := seqT w h q1
      refine ⟨itEn J, enumD 0 xs, by show (itSeq _ st).map itEn = _; rw [j1]; rfl, enum_res j2, fun st' k i => ?_, fun n z => j4 n (List.mem_singleton.mp z).symm⟩
      unfold itEn
      rw [j3 st' (fun n z => k n (by rw [z]; exact List.mem_cons_self)) i, enum_at, Nat.zero_add]
      rfl
  · rename_i v u
    split at q
    case isFalse => cases q
    rename_i ht
    rw [Option.bind_eq_some_iff] at q
    obtain ⟨ws, q1, q⟩ := q
    rw [Option.map_eq_some_iff] at q
    obtain ⟨us, q2, rfl⟩ := q
    cases h with
    | cons h t =>
      cases t with
      | cons g t =>
        cases t
        obtain ⟨J, xs, j1, j2, j5, j3, j4⟩ := seqT w h q1
        obtain ⟨L, ys, l1, l2, l5, l3, l4⟩ := seqT w g q2
        refine ⟨itZip J L, zipD xs ys, ?_, zip_res j2 l2, fun st' k i => ?_, fun n z => ?_⟩
        · show (if isTupD _ = isTupD _ then (itSeq _ st).bind fun J => (itSeq _ st).map fun L => itZip J L else none) = _
          rw [if_pos (by rw [j5, l5, ht]), j1, l1]
          rfl
        · unfold itZip
          rw [j3 st' (fun n z => k n (by rw [z]; exact List.mem_cons_self)) i, l3 st' (fun n z => k n (by rw [z]; simp)) i, zip_at]
          cases xs[i]? <;> cases ys[i]? <;> rfl
        · rcases List.mem_cons.mp z with z | z
          · exact j4 n z.symm
          · exact l4 n (List.mem_singleton.mp z).symm
  · rename_i v
    cases h with
    | cons h t =>
      cases t
      obtain ⟨J, xs, j1, j2, _, j3, j4⟩ := seqT w h q
      exact ⟨J, xs, j1, j2, fun st' k i => j3 st' (fun n z => k n (by rw [z]; exact List.mem_cons_self)) i, fun n z => j4 n (List.mem_singleton.mp z).symm⟩
  · split at q
    · rename_i j hj
      cases q
      cases h with
      | cons h t =>
        cases t
        rw [h.int]
        refine ⟨_, numsI 0 j.toNat, by show itRng 0 j = _; unfold itRng; rw [if_pos ⟨by omega, by omega, hj.1, by omega⟩], nums_res, fun st' _ i => ?_, fun n z => (by simp at z)⟩
        rw [nums_at, Int.sub_zero]
    · cases q
  · split at q
    · rename_i a c hj
      cases q
      cases h with
      | cons h t =>
        cases t with
        | cons g t =>
          cases t
          rw [h.int, g.int]
          refine ⟨_, numsI a (c - a).toNat, by show itRng a c = _; unfold itRng; rw [if_pos ⟨hj.1, hj.2.1, hj.2.2.1, hj.2.2.2.1⟩], nums_res, fun st' _ i => ?_, fun n z => (by simp at z)⟩
          rw [nums_at]
    · cases q
  · cases q

/-! ### targets -/
mutual
def dropT : TN → Fl → Fl
  | .n i, fl => unow fl i
  | .t ts, fl => dropTs ts fl
termination_by structural t => t
def dropTs : List TN → Fl → Fl
  | [], fl => fl
  | t :: ts, fl => dropTs ts (dropT t fl)
termination_by structural t => t
end
theorem Rel.setv (h : Rel b fl p e st fz pt) (r : Res st fz pt d v) : Rel b (unow fl i) (p.set i (some v)) (e.set i (some d)) st fz pt := by
  refine ⟨h.base, by rw [List.length_set, List.length_set]; exact h.len, fun j u hj => ?_, fun j k n u u2 hjk oj ok pj pk ej ek => ?_⟩
  · by_cases hij : i = j
    · subst hij
      have hl : i < p.length := by
        have := (List.getElem?_eq_some_iff.mp hj).1
        rwa [List.length_set] at this
      rw [List.getElem?_set_self hl] at hj
      cases hj
      refine ⟨d, List.getElem?_set_self (by rw [h.len]; exact hl), fun o => ?_, fun _ => r⟩
      rw [own_set_false] at o
      simp at o
    · rw [List.getElem?_set_ne hij] at hj
      obtain ⟨d', e1, e2, e3⟩ := h.val j u hj
      refine ⟨d', by rw [List.getElem?_set_ne hij]; exact e1, fun o => e2 ?_, fun o => e3 ?_⟩
      · rw [own_set_false] at o; simp [hij] at o; exact o
      · rw [own_set_false] at o; simp [hij] at o; exact o
  · rw [own_set_false] at oj ok
    simp at oj ok
    rw [List.getElem?_set_ne oj.2] at pj ej
    rw [List.getElem?_set_ne ok.2] at pk ek
    exact h.dis j k n u u2 hjk oj.1 ok.1 pj pk ej ek
theorem Rel.unset (h : Rel b fl p e st fz pt) : Rel b (unow fl i) (p.set i none) (e.set i none) st fz pt := by
  refine ⟨h.base, by rw [List.length_set, List.length_set]; exact h.len, fun j u hj => ?_, fun j k n u u2 hjk oj ok pj pk ej ek => ?_⟩
  · by_cases hij : i = j
    · subst hij
      have hl : i < p.length := by
        have := (List.getElem?_eq_some_iff.mp hj).1
        rwa [List.length_set] at this
      rw [List.getElem?_set_self hl] at hj
      cases hj
    · rw [List.getElem?_set_ne hij] at hj
      obtain ⟨d', e1, e2, e3⟩ := h.val j u hj
      refine ⟨d', by rw [List.getElem?_set_ne hij]; exact e1, fun o => e2 ?_, fun o => e3 ?_⟩
      · rw [own_set_false] at o; simp [hij] at o; exact o
      · rw [own_set_false] at o; simp [hij] at o; exact o
  · rw [own_set_false] at oj ok
    simp at oj ok
    rw [List.getElem?_set_ne oj.2] at pj ej
    rw [List.getElem?_set_ne ok.2] at pk ek
    exact h.dis j k n u u2 hjk oj.1 ok.1 pj pk ej ek
mutual
theorem Rel.setT : ∀ (t : TN) {fl : Fl} {p e : Env} {d v : D} {p' : Env}, Rel b fl p e st fz pt → Res st fz pt d v → Ev.setT t v p = some p' → ∃ e', Ev.setT t d e = some e' ∧ Rel b (dropT t fl) p' e' st fz pt
  | .n i, fl, p, e, d, v, p', h, r, q => by
    cases q
    exact ⟨_, rfl, h.setv r⟩
  | .t ts, fl, p, e, d, v, p', h, r, q => by
    cases r with
    | tup r => exact Rel.setTs ts h r q
    | _ => cases q
theorem Rel.setTs : ∀ (ts : List TN) {fl : Fl} {p e : Env} {ds vs : List D} {p' : Env}, Rel b fl p e st fz pt → Ress st fz pt ds vs → Ev.setTs ts vs p = some p' → ∃ e', Ev.setTs ts ds e = some e' ∧ Rel b (dropTs ts fl) p' e' st fz pt
  | [], fl, p, e, _, _, p', h, .nil, q => by
    cases q
    exact ⟨_, rfl, h⟩
  | [], fl, p, e, _, _, p', h, .cons _ _, q => by cases q
  | t :: ts, fl, p, e, _, _, p', h, .nil, q => by cases q
  | t :: ts, fl, p, e, _, _, p', h, .cons (d := d) (v := v) (ds := ds) (vs := vs) r rs, q => by
    change (Ev.setT t v p).bind _ = _ at q
    rw [Option.bind_eq_some_iff] at q
    obtain ⟨p1, q1, q2⟩ := q
    obtain ⟨e1, s1, r1⟩ := Rel.setT t h r q1
    obtain ⟨e2, s2, r2⟩ := Rel.setTs ts r1 rs q2
    refine ⟨e2, ?_, r2⟩
    show (Ev.setT t d e).bind _ = _
    rw [s1]
    exact s2
end
def dropL : List Nat → Fl → Fl
  | [], fl => fl
  | i :: is, fl => unow (dropL is fl) i
theorem Rel.wipe : ∀ (l : List Nat) {fl : Fl} {p e : Env}, Rel b fl p e st fz pt → Rel b (dropL l fl) (wipeE p l) (wipeE e l) st fz pt
  | [], _, _, _, h => h
  | i :: l, _, _, _, h => (Rel.wipe l h).unset
theorem own_dropL {l : List Nat} {j : Nat} : own (dropL l fl) j = true → own fl j = true ∧ j ∉ l := by
  induction l with
  | nil => exact fun h => ⟨h, List.not_mem_nil⟩
  | cons i l ih =>
    intro h
    unfold dropL at h
    rw [own_set_false] at h
    simp at h
    obtain ⟨h1, h2⟩ := ih h.1
    exact ⟨h1, fun z => by cases z with | head => exact h.2 rfl | tail _ z => exact h2 z⟩
mutual
theorem own_dropT {j : Nat} : ∀ (t : TN) {fl : Fl}, own (dropT t fl) j = true → own fl j = true
  | .n i, fl, h => by
    unfold dropT at h
    rw [own_set_false] at h
    simp at h
    exact h.1
  | .t ts, fl, h => own_dropTs ts h
theorem own_dropTs {j : Nat} : ∀ (ts : List TN) {fl : Fl}, own (dropTs ts fl) j = true → own fl j = true
  | [], fl, h => h
  | t :: ts, fl, h => own_dropT t (own_dropTs ts h)
end
theorem own_mono {fl' : Fl} {l : List Nat} (h : ∀ j, own fl' j = true → own fl j = true) (g : ∀ i ∈ l, own fl i = false) : ∀ i ∈ l, own fl' i = false := by
  intro i hi
  cases ho : own fl' i with
  | false => rfl
  | true =>
    have := g i hi
    rw [h i ho] at this
    cases this
end

/-! ### calls -/
structure CalOk (fresh : Str → Bool) (C : Cal) (PC : PCal) : Prop where
  par : PC.par = C.par
  all : PC.all = C.all
  run : ∀ f ds vs st fz pt Q X, Wd st fz pt → Ress st fz pt ds vs → (PC.run f vs).wp0 Q X → Ho (RF (fresh f) st.length) Q X st fz pt (C.run f ds st)
theorem ress_paired {st : Sto} {fz pt : NS} : ∀ {ds vs : List D}, Ress st fz pt ds vs → Paired (fun v d => Res st fz pt d v) vs ds
  | _, _, .nil => .nil
  | _, _, .cons h t => .cons h (ress_paired t)
theorem paired_ress {st : Sto} {fz pt : NS} : ∀ {vs ds : List D}, Paired (fun v d => Res st fz pt d v) vs ds → Ress st fz pt ds vs
  | _, _, .nil => .nil
  | _, _, .cons h t => .cons h (paired_ress t)
theorem CalOk.call {fresh : Str → Bool} {C : Cal} {PC : PCal} (c : CalOk fresh C PC) {f : Str} {ks : List Str} {ds vs : List D} {st : Sto} {fz pt : NS} {Q : D → Prop} {X : Str → D → Prop} (w : Wd st fz pt) (r : Ress st fz pt ds vs) (h : (pCall PC f ks vs).wp0 Q X) : Ho (RF (fresh f) st.length) Q X st fz pt (callC C f ks ds st) := by
  unfold pCall at h
  rw [c.par] at h
  cases hp : permArgs (C.par f) ks vs with
  | none => rw [hp] at h; exact h.elim
  | some us =>
    rw [hp] at h
    obtain ⟨es, e1, e2⟩ := perm_rel (ress_paired r) hp
    unfold callC
    rw [e1]
    exact c.run f es us st fz pt Q X w (paired_ress e2) h

/-! ### comprehensions -/
def ROp : Sto → NS → NS → Option D → Option D → Prop := fun st fz pt d v => match d, v with
  | none, none => True
  | some d, some v => Res st fz pt d v
  | _, _ => False
abbrev noX : Str → D → Prop := fun _ _ => False
theorem comp_ok {J : Itr} {turn : D → Sto → Out (Option D)} {pturn : D → Tr (Option D)} {xs : List D} {st0 : Sto} {fz0 pt0 : NS} (hJ : ∀ st' fz' pt', Xt st0 fz0 pt0 st' fz' pt' → ∀ i, J i st' = some xs[i]?)
    (ht : ∀ d v st1 fz1 pt1 Q, Xt st0 fz0 pt0 st1 fz1 pt1 → Res st1 fz1 pt1 d v → (pturn v).wp0 Q noX → Ho ROp Q noX st1 fz1 pt1 (turn d st1)) (hl : xs.length ≤ most) :
    ∀ (ws : List D) (i m : Nat) (acc wacc : List D) (st1 : Sto) (fz1 pt1 : NS) (Q : List D → Prop), Xt st0 fz0 pt0 st1 fz1 pt1 → Ress st1 fz1 pt1 (xs.drop i) ws → Ress st1 fz1 pt1 acc wacc → acc.length ≤ i → ws.length < m → (pComp pturn ws).wp0 (fun ys => Q (wacc ++ ys)) noX →
      Ho RSs Q noX st1 fz1 pt1 (compI J turn m i acc st1) := by
  intro ws
  induction ws with
  | nil =>
    intro i m acc wacc st1 fz1 pt1 Q x r ra la lm q
    cases m with
    | zero => omega
    | succ m =>
      unfold compI
      rw [hJ st1 fz1 pt1 x i]
      have : xs[i]? = none := by
        rw [List.getElem?_eq_none_iff]
        have := r.length
        rw [List.length_drop, List.length_nil] at this
        omega
      rw [this]
      have q' : Q (wacc ++ []) := q
      rw [List.append_nil] at q'
      exact ⟨fz1, pt1, wacc, Xt.refl x.wd, q', ra⟩
  | cons v ws ih =>
    intro i m acc wacc st1 fz1 pt1 Q x r ra la lm q
    cases m with
    | zero => rw [List.length_cons] at lm; omega
    | succ m =>
      unfold compI
      rw [hJ st1 fz1 pt1 x i]
      obtain ⟨d, rest, hd, hdv, hrest⟩ : ∃ d rest, xs.drop i = d :: rest ∧ Res st1 fz1 pt1 d v ∧ Ress st1 fz1 pt1 rest ws := by
        cases hx : xs.drop i with
        | nil => rw [hx] at r; cases r
        | cons d rest => rw [hx] at r; cases r with | cons h t => exact ⟨d, rest, rfl, h, t⟩
      have hi : i < xs.length := by
        have : (xs.drop i).length = (d :: rest).length := by rw [hd]
        rw [List.length_drop, List.length_cons] at this
        omega
      have e1 : xs[i]? = some d := by
        have := List.getElem?_drop (xs := xs) (i := i) (j := 0)
        rw [hd] at this
        simpa using this.symm
      have e2 : xs.drop (i + 1) = rest := by
        rw [← List.tail_drop, hd]
        rfl
      rw [e1]
      dsimp only
      unfold pComp at q
      rw [wp_bnd0] at q
      refine (ht d v st1 fz1 pt1 _ x hdv q).bnd fun o st2 fz2 pt2 ov x2 q2 r2 => ?_
      have hrest2 := hrest.mono (x2.km x.wd)
      have ra2 := ra.mono (x2.km x.wd)
      cases o with
      | none =>
        cases ov with
        | some z => exact r2.elim
        | none =>
          dsimp only at q2 ⊢
          refine ih (i + 1) m acc wacc st2 fz2 pt2 Q (x.trans x2) (by rw [e2]; exact hrest2) ra2 (by omega) (by rw [List.length_cons] at lm; omega) q2
      | some y =>
        cases ov with
        | none => exact r2.elim
        | some z =>
          dsimp only at q2 ⊢
          rw [if_pos (by omega)]
          rw [wp_bnd0] at q2
          refine ih (i + 1) m (acc ++ [y]) (wacc ++ [z]) st2 fz2 pt2 Q (x.trans x2) (by rw [e2]; exact hrest2) (ra2.append (.one r2)) (by rw [List.length_append, List.length_singleton]; omega) (by rw [List.length_cons] at lm; omega) ?_
          refine wp_mono0 q2 (fun ys h => ?_) fun _ _ h => h
          rw [List.append_assoc]
          exact h
end Ev
/-! Expressions: the evaluator over values is right. -/
namespace Ev
open PySem
section
variable {fresh : Str → Bool} {C : Cal} {PC : PCal}
def PEo (fresh : Str → Bool) (C : Cal) (PC : PCal) (e : E) : Prop := ∀ {b : Nat} {fl : Fl} {p env : Env} {st : Sto} {fz pt : NS} {Q : D → Prop} {X : Str → D → Prop}, Wd st fz pt → Rel b fl p env st fz pt → (∀ i ∈ esc e, own fl i = false) → (pE PC e p).wp0 Q X → Ho (RF (frE fresh e) st.length) Q X st fz pt (evE C e env st)
def PEs (fresh : Str → Bool) (C : Cal) (PC : PCal) (es : List E) : Prop := ∀ {b : Nat} {fl : Fl} {p env : Env} {st : Sto} {fz pt : NS} {Q : List D → Prop} {X : Str → D → Prop}, Wd st fz pt → Rel b fl p env st fz pt → (∀ i ∈ escs es, own fl i = false) → (pEs PC es p).wp0 Q X → Ho RSs Q X st fz pt (evEs C es env st)
def PRs (fresh : Str → Bool) (C : Cal) (PC : PCal) (es : List E) : Prop := ∀ {b : Nat} {fl : Fl} {p env : Env} {st : Sto} {fz pt : NS} {Q : List D → Prop} {X : Str → D → Prop}, Wd st fz pt → Rel b fl p env st fz pt → (∀ i ∈ rds es, own fl i = false) → (pEs PC es p).wp0 Q X → Ho RTs Q X st fz pt (evEs C es env st)
def PTs (fresh : Str → Bool) (C : Cal) (PC : PCal) (es : List E) : Prop := ∀ {b : Nat} {fl : Fl} {p env : Env} {st : Sto} {fz pt : NS} {Q : Bool → Prop} {X : Str → D → Prop}, Wd st fz pt → Rel b fl p env st fz pt → (∀ i ∈ rds es, own fl i = false) → (pTs PC es p).wp0 Q X → Ho RB Q X st fz pt (evTs C es env st)
section
variable {b : Nat} {fl : Fl} {p env : Env} {st : Sto} {fz pt : NS} {Q : D → Prop} {X : Str → D → Prop} {a : E}
/-- a name's value -/
theorem var_top (r : Rel b fl p env st fz pt) (w : Wd st fz pt) {i : Nat} (h : (pE PC (.v i) p).wp0 Q X) : Ho RT Q X st fz pt (evE C (.v i) env st) := by
  unfold pE at h
  split at h
  · rename_i d hd
    obtain ⟨d', e1, e2⟩ := r.top hd
    rw [ev_v, e1]
    exact ⟨fz, pt, d, Xt.refl w, h, e2⟩
  · exact h.elim
theorem rd_of (h : PEo fresh C PC a) (w : Wd st fz pt) (r : Rel b fl p env st fz pt) (ho : ∀ i ∈ rdOf a (esc a), own fl i = false) (q : (pE PC a p).wp0 Q X) : Ho RT Q X st fz pt (evE C a env st) := by
  cases a with
  | v i => exact var_top r w q
  | _ => exact (h w r ho q).top
theorem val_of (h : PEo fresh C PC a) (w : Wd st fz pt) (r : Rel b fl p env st fz pt) (ho : ∀ i ∈ esc a, own fl i = false) (q : (pE PC a p).wp0 Q X) : Ho RE_ Q X st fz pt (evE C a env st) := (h w r ho q).res
theorem truth_ho {d v : D} {Q : Bool → Prop} {f : Bool → Sto → Out D} {g : Bool → Tr D} {R : Sto → NS → NS → D → D → Prop} {Q2 : D → Prop} (w : Wd st fz pt) (h : Top st fz pt d v) (q : ((Tr.ofO (truth [] v)).bnd g).wp0 Q2 X)
    (k : ∀ b, (g b).wp0 Q2 X → Ho R Q2 X st fz pt (f b st)) : Ho R Q2 X st fz pt ((opt (truth st d) st).bnd f) := by
  rw [wp_bnd0] at q
  obtain ⟨b, e, q⟩ := ofO_wp0 q
  rw [truthT w h e]
  exact k b q
theorem atom_ho {fr : Bool} {v : D} (w : Wd st fz pt) (hv : noBox v = true) (r : Res st fz pt v v) (q : Q v) : Ho (RF fr st.length) Q X st fz pt (.ok v st) := Ho.fine (.atom w rfl hv r) q
theorem cmp_ho {o : COp} {d e v u : D} {fr : Bool} (w : Wd st fz pt) (h : Top st fz pt d v) (g : Top st fz pt e u) (q : (Tr.of (cmpD o v u [])).wp0 Q X) : Ho (RF fr st.length) Q X st fz pt (cmpD o d e st) := by
  cases hq : cmpD o v u [] with
  | ok r s =>
    rw [hq] at q
    obtain ⟨k, rfl, e1⟩ := cmpT w h g hq
    rw [e1]
    exact atom_ho w rfl (.bl k) q
  | ex c v s =>
    exfalso
    revert hq
    cases o <;> simp only [cmpD, relD, eqDD, isNoneD, inD, opt] <;> (repeat' split) <;> simp [Out.bnd]
  | bad => rw [hq] at q; exact q.elim
end
theorem no_ex_bin {al : Bool} {o : BOp} {a b : D} {st : Sto} : ∀ c v s, binD al o a b st ≠ .ex c v s := by
  intro c v s
  cases o <;> simp only [binD, addD, subD, mulD, fdivD, modD, powD, newL] <;> (repeat' split) <;> simp
theorem no_ex_pr {al : Bool} {o : Prim} {ds : List D} {st : Sto} : ∀ c v s, prD al o ds st ≠ .ex c v s := by
  intro c v s
  cases o <;> simp only [prD, arg1, arg2, lenP, absP, maxP, minP, intP, reprP, divmodP, sumP, allP, anyP, tupleP, listP, most1, least1, rgP, rgE, opt, newL] <;> (repeat' split) <;> simp [Out.bnd] <;> (repeat' split) <;> simp
theorem no_ex_sl {al : Bool} {a : D} {lo hi : Option Int} {st : Sto} : ∀ c v s, slD al a lo hi st ≠ .ex c v s := by
  intro c v s
  simp only [slD, newL]
  (repeat' split) <;> simp
theorem no_ex_neg {a : D} {st : Sto} : ∀ c v s, negP a st ≠ .ex c v s := by
  intro c v s
  simp only [negP]
  split <;> simp
theorem own_l {fl : Fl} {l1 l2 : List Nat} (h : ∀ i ∈ l1 ++ l2, own fl i = false) : ∀ i ∈ l1, own fl i = false := fun i hi => h i (List.mem_append_left _ hi)
theorem own_r {fl : Fl} {l1 l2 : List Nat} (h : ∀ i ∈ l1 ++ l2, own fl i = false) : ∀ i ∈ l2, own fl i = false := fun i hi => h i (List.mem_append_right _ hi)
theorem part_ho {b : Nat} {fl : Fl} {p env : Env} {st : Sto} {fz pt : NS} {X : Str → D → Prop} {a : E} {Q : Option Int → Prop} (h : PEo fresh C PC a) (w : Wd st fz pt) (r : Rel b fl p env st fz pt) (ho : ∀ i ∈ rdOf a (esc a), own fl i = false) (q : (pPart (isOmit a) (pE PC a p)).wp0 Q X) :
    Ho RO Q X st fz pt (partO (isOmit a) (evE C a env) st) := by
  cases hm : isOmit a with
  | true =>
    rw [hm] at q
    exact ⟨fz, pt, none, Xt.refl w, q, rfl⟩
  | false =>
    rw [hm] at q
    change ((pE PC a p).bnd _).wp0 Q X at q
    rw [wp_bnd0] at q
    show Ho RO Q X st fz pt ((evE C a env st).bnd _)
    refine (rd_of h w r ho q).bnd fun d st1 fz1 pt1 v x q1 r1 => ?_
    unfold partP at q1
    split at q1
    · rw [r1.int]
      exact ⟨fz1, pt1, _, Xt.refl x.wd, q1, rfl⟩
    · exact q1.elim
variable (K : CalOk fresh C PC)
include K
mutual
theorem soundE : ∀ e : E, PEo fresh C PC e
  | .c d => by
    rename_i b fl p env st fz pt Q X
    intro w r ho q
    unfold pE at q
    split at q
    · rename_i hc
      exact ⟨fz, pt, d, Xt.refl w, q, Res.refl hc⟩
    · exact q.elim
  | .v i => by
    rename_i b fl p env st fz pt Q X
    intro w r ho q
    unfold pE at q
    split at q
    · rename_i d hd
      obtain ⟨d', e1, e2, e3⟩ := r.val i d hd
      rw [ev_v, e1]
      exact ⟨fz, pt, d, Xt.refl w, q, e3 (ho i (by unfold esc; exact List.mem_cons_self))⟩
    · exact q.elim
  | .g x => by
    rename_i b fl p env st fz pt Q X
    intro w r ho q
    exact ⟨fz, pt, .fn x, Xt.refl w, q, .fn x⟩
  | .bin al o a c => by
    rename_i b fl p env st fz pt Q X
    intro w r ho q
    unfold esc at ho
    unfold pE at q
    rw [wp_bnd0] at q
    rw [ev_bin]
    refine (rd_of (soundE a) w r (own_l ho) q).bnd fun d st1 fz1 pt1 v x q1 r1 => ?_
    rw [wp_bnd0] at q1
    refine (rd_of (soundE c) x.wd (r.mono w x) (own_r ho) q1).bnd fun d2 st2 fz2 pt2 v2 x2 q2 r2 => ?_
    obtain ⟨z, s, e, q3⟩ := of_wp0 q2 no_ex_bin
    have F := binT (al := al) x2.wd (Top.mono x.wd r1 x2) r2 e
    obtain ⟨d', st', e', x', r'⟩ := F
    rw [e']
    refine ⟨fz2, pt2, z, x', q3, ?_⟩
    unfold RF
    unfold frE
    split at r'
    · rename_i hf
      rw [if_pos hf]
      exact Frs.weak r' (Nat.le_trans x.len x2.len)
    · rename_i hf
      rw [if_neg hf]
      exact r'
  | .neg a => by
    rename_i b fl p env st fz pt Q X
    intro w r ho q
    unfold esc at ho
    unfold pE at q
    rw [wp_bnd0] at q
    rw [ev_neg]
    refine (rd_of (soundE a) w r ho q).bnd fun d st1 fz1 pt1 v x q1 r1 => ?_
    obtain ⟨z, s, e, q3⟩ := of_wp0 q1 no_ex_neg
    unfold negP at e
    split at e
    · cases e
      rw [r1.int]
      exact ⟨fz1, pt1, _, Xt.refl x.wd, q3, .inl ⟨rfl, .int _⟩⟩
    · cases e
  | .not a => by
    rename_i b fl p env st fz pt Q X
    intro w r ho q
    unfold esc at ho
    unfold pE at q
    rw [wp_bnd0] at q
    rw [ev_not]
    refine (rd_of (soundE a) w r ho q).bnd fun d st1 fz1 pt1 v x q1 r1 => ?_
    refine truth_ho (Q := fun _ => True) x.wd r1 q1 fun k q2 => ?_
    exact ⟨fz1, pt1, _, Xt.refl x.wd, q2, .inl ⟨rfl, .bl _⟩⟩
  | .and a c => by
    rename_i b fl p env st fz pt Q X
    intro w r ho q
    unfold esc at ho
    unfold pE at q
    rw [wp_bnd0] at q
    rw [ev_and]
    refine (val_of (soundE a) w r (own_l ho) q).bnd fun d st1 fz1 pt1 v x q1 r1 => ?_
    refine truth_ho (Q := fun _ => True) x.wd (.inl r1) q1 fun k q2 => ?_
    cases k with
    | true => exact val_of (soundE c) x.wd (r.mono w x) (own_r ho) q2
    | false => exact ⟨fz1, pt1, v, Xt.refl x.wd, q2, r1⟩
  | .or a c => by
    rename_i b fl p env st fz pt Q X
    intro w r ho q
    unfold esc at ho
    unfold pE at q
    rw [wp_bnd0] at q
    rw [ev_or]
    refine (val_of (soundE a) w r (own_l ho) q).bnd fun d st1 fz1 pt1 v x q1 r1 => ?_
    refine truth_ho (Q := fun _ => True) x.wd (.inl r1) q1 fun k q2 => ?_
    cases k with
    | false => exact val_of (soundE c) x.wd (r.mono w x) (own_r ho) q2
    | true => exact ⟨fz1, pt1, v, Xt.refl x.wd, q2, r1⟩
  | .ite t a c => by
    rename_i b fl p env st fz pt Q X
    intro w r ho q
    unfold esc at ho
    unfold pE at q
    rw [wp_bnd0] at q
    rw [ev_ite]
    refine (rd_of (soundE t) w r (own_l ho) q).bnd fun d st1 fz1 pt1 v x q1 r1 => ?_
    refine truth_ho (Q := fun _ => True) x.wd r1 q1 fun k q2 => ?_
    have both : ∀ {f : Bool} {o : Out D}, (frE fresh (.ite t a c) = true → f = true) → Ho (RF f st1.length) Q X st1 fz1 pt1 o → Ho (RF (frE fresh (.ite t a c)) st.length) Q X st1 fz1 pt1 o := by
      intro f o hf h
      cases hg : frE fresh (.ite t a c) with
      | false => exact h.res
      | true =>
        rw [hf hg] at h
        exact h.imp fun d s fa pa v y q r => ⟨fa, pa, v, y, q, Frs.weak r x.len⟩
    have hfr : ∀ z, frE fresh (.ite t a c) = z → (frE fresh a && frE fresh c) = z := fun z h => by unfold frE at h; exact h
    cases k with
    | true => exact both (fun h => (Bool.and_eq_true _ _ ▸ hfr true h).1) (soundE a x.wd (r.mono w x) (own_l (own_r ho)) q2)
    | false => exact both (fun h => (Bool.and_eq_true _ _ ▸ hfr true h).2) (soundE c x.wd (r.mono w x) (own_r (own_r ho)) q2)
  | .cmp o a c => by
    rename_i b fl p env st fz pt Q X
    intro w r ho q
    unfold esc at ho
    unfold pE at q
    rw [wp_bnd0] at q
    rw [ev_cmp]
    refine (rd_of (soundE a) w r (own_l ho) q).bnd fun d st1 fz1 pt1 v x q1 r1 => ?_
    rw [wp_bnd0] at q1
    refine (rd_of (soundE c) x.wd (r.mono w x) (own_r ho) q1).bnd fun d2 st2 fz2 pt2 v2 x2 q2 r2 => ?_
    refine (cmp_ho (fr := true) x2.wd (Top.mono x.wd r1 x2) r2 q2).imp fun d s fa pa v y q r => ⟨fa, pa, v, y, q, Frs.weak r (Nat.le_trans x.len x2.len)⟩
  | .chain o p' a c e => by
    rename_i b fl p env st fz pt Q X
    intro w r ho q
    unfold esc at ho
    unfold pE at q
    rw [wp_bnd0] at q
    rw [ev_chain]
    refine (rd_of (soundE a) w r (own_l ho) q).bnd fun d st1 fz1 pt1 v x q1 r1 => ?_
    rw [wp_bnd0] at q1
    refine (rd_of (soundE c) x.wd (r.mono w x) (own_l (own_r ho)) q1).bnd fun d2 st2 fz2 pt2 v2 x2 q2 r2 => ?_
    rw [wp_bnd0] at q2
    refine (cmp_ho (fr := true) x2.wd (Top.mono x.wd r1 x2) r2 q2).bnd fun d3 st3 fz3 pt3 v3 x3 q3 r3 => ?_
    have x13 := x2.trans x3
    cases v3 with
    | bl k =>
      have h3 : d3 = .bl k := (Frs.top r3).bl
      rw [h3]
      cases k with
      | false => exact ⟨fz3, pt3, _, Xt.refl x3.wd, q3, .inl ⟨rfl, .bl _⟩⟩
      | true =>
        dsimp only at q3
        rw [wp_bnd0] at q3
        rw [chainK_t]
        refine (rd_of (soundE e) x3.wd ((r.mono w x).mono x.wd x13) (own_r (own_r ho)) q3).bnd fun d4 st4 fz4 pt4 v4 x4 q4 r4 => ?_
        refine (cmp_ho (fr := true) x4.wd (Top.mono x2.wd r2 (x3.trans x4)) r4 q4).imp fun d s fa pa v y q r => ⟨fa, pa, v, y, q, Frs.weak r (Nat.le_trans x.len (Nat.le_trans x13.len x4.len))⟩
    | _ => exact q3.elim
  | .tup es => by
    rename_i b fl p env st fz pt Q X
    intro w r ho q
    unfold esc at ho
    unfold pE at q
    rw [wp_bnd0] at q
    rw [ev_tup]
    refine (soundEs es w r ho q).bnd fun ds st1 fz1 pt1 vs x q1 r1 => ?_
    have hl := Ress.length r1
    rw [hl]
    split at q1
    · rename_i hs
      rw [if_pos hs]
      exact ⟨fz1, pt1, _, Xt.refl x.wd, q1, .inl ⟨rfl, .tup r1⟩⟩
    · exact q1.elim
  | .lst al es => by
    rename_i b fl p env st fz pt Q X
    intro w r ho q
    unfold esc at ho
    unfold pE at q
    rw [wp_bnd0] at q
    rw [ev_lst]
    refine (soundEs es w r ho q).bnd fun ds st1 fz1 pt1 vs x q1 r1 => ?_
    have hl := Ress.length r1
    rw [hl]
    split at q1
    · rename_i hs
      rw [if_pos hs]
      have F := newL_fine (al := al) x.wd r1
      refine (Ho.fine (X := X) F q1).imp fun d s fa pa v y q r => ⟨fa, pa, v, y, q, ?_⟩
      unfold RF frE at *
      split at r
      · rename_i h
        rw [if_pos h]
        exact Frs.weak r x.len
      · rename_i h
        rw [if_neg h]
        exact r
    · exact q1.elim
  | .dct al ks es => by
    rename_i b fl p env st fz pt Q X
    intro w r ho q
    unfold esc at ho
    unfold pE at q
    rw [wp_bnd0] at q
    rw [ev_dct]
    refine (soundEs es w r ho q).bnd fun ds st1 fz1 pt1 vs x q1 r1 => ?_
    have hl := Ress.length r1
    rw [hl]
    split at q1
    · rename_i hs
      rw [if_pos hs]
      have F := newD_fine (al := al) (ks := ks) x.wd r1
      refine (Ho.fine (X := X) F q1).imp fun d s fa pa v y q r => ⟨fa, pa, v, y, q, ?_⟩
      unfold RF frE at *
      split at r
      · rename_i h
        rw [if_pos h]
        exact Frs.weak r x.len
      · rename_i h
        rw [if_neg h]
        exact r
    · exact q1.elim
  | .ix a c => by
    rename_i b fl p env st fz pt Q X
    intro w r ho q
    unfold esc at ho
    unfold pE at q
    rw [wp_bnd0] at q
    rw [ev_ix]
    refine (rd_of (soundE a) w r (own_l ho) q).bnd fun d st1 fz1 pt1 v x q1 r1 => ?_
    rw [wp_bnd0] at q1
    refine (rd_of (soundE c) x.wd (r.mono w x) (own_r ho) q1).bnd fun d2 st2 fz2 pt2 v2 x2 q2 r2 => ?_
    obtain ⟨z, e, q3⟩ := ofO_wp0 q2
    obtain ⟨y, e2, r3⟩ := ixT x2.wd (Top.mono x.wd r1 x2) r2 e
    rw [e2]
    exact ⟨fz2, pt2, z, Xt.refl x2.wd, q3, r3⟩
  | .sl al a lo hi => by
    rename_i b fl p env st fz pt Q X
    intro w r ho q
    unfold esc at ho
    unfold pE at q
    rw [wp_bnd0] at q
    rw [ev_sl]
    refine (rd_of (soundE a) w r (own_l ho) q).bnd fun d st1 fz1 pt1 v x q1 r1 => ?_
    rw [wp_bnd0] at q1
    refine (part_ho (soundE lo) x.wd (r.mono w x) (own_l (own_r ho)) q1).bnd fun l st2 fz2 pt2 lv x2 q2 r2 => ?_
    rw [wp_bnd0] at q2
    refine (part_ho (soundE hi) x2.wd ((r.mono w x).mono x.wd x2) (own_r (own_r ho)) q2).bnd fun h st3 fz3 pt3 hv x3 q3 r3 => ?_
    obtain ⟨z, s, e, q4⟩ := of_wp0 q3 no_ex_sl
    unfold RO at r2 r3
    subst r2
    subst r3
    exact (Ho.fine (slT (al := al) x3.wd (Top.mono x.wd r1 (x2.trans x3)) e) q4).res
  | .call f ks es => by
    rename_i b fl p env st fz pt Q X
    intro w r ho q
    unfold esc at ho
    unfold pE at q
    rw [wp_bnd0] at q
    rw [ev_call]
    refine (soundEs es w r ho q).bnd fun ds st1 fz1 pt1 vs x q1 r1 => ?_
    refine (K.call x.wd r1 q1).imp fun d s fa pa v y q r => ⟨fa, pa, v, y, q, ?_⟩
    unfold RF frE at *
    split at r
    · rename_i h
      rw [if_pos h]
      exact Frs.weak r x.len
    · rename_i h
      rw [if_neg h]
      exact r
  | .callv i ks es => by
    rename_i b fl p env st fz pt Q X
    intro w r ho q
    unfold esc at ho
    unfold pE at q
    split at q
    · rename_i f hf
      split at q
      · rename_i hc
        rw [wp_bnd0] at q
        obtain ⟨d, e1, e2⟩ := r.top hf
        have e3 := e2.fn
        subst e3
        show Ho _ Q X st fz pt (match env[i]? with
          | some (some (.fn f)) => if C.all.contains f then (evEs C es env st).bnd fun ds st => callC C f ks ds st else .bad
          | _ => .bad)
        rw [e1]
        dsimp only
        rw [← K.all, if_pos hc]
        refine (soundEs es w r (fun j hj => ho j (List.mem_cons_of_mem _ hj)) q).bnd fun ds st1 fz1 pt1 vs x q1 r1 => ?_
        exact (K.call x.wd r1 q1).res
      · exact q.elim
    · exact q.elim
  | .pr al o es => by
    rename_i b fl p env st fz pt Q X
    intro w r ho q
    unfold esc at ho
    unfold pE at q
    rw [wp_bnd0] at q
    rw [ev_pr]
    refine (soundRs es w r ho q).bnd fun ds st1 fz1 pt1 vs x q1 r1 => ?_
    obtain ⟨z, s, e, q4⟩ := of_wp0 q1 no_ex_pr
    refine (Ho.fine (X := X) (prT (al := al) x.wd r1 e) q4).imp fun d s fa pa v y q r => ⟨fa, pa, v, y, q, ?_⟩
    unfold RF frE at *
    split at r
    · rename_i h
      rw [if_pos h]
      exact Frs.weak r x.len
    · rename_i h
      rw [if_neg h]
      exact r
  | .isi a t => by
    rename_i b fl p env st fz pt Q X
    intro w r ho q
    unfold esc at ho
    unfold pE at q
    rw [wp_bnd0] at q
    rw [ev_isi]
    refine (rd_of (soundE a) w r ho q).bnd fun d st1 fz1 pt1 v x q1 r1 => ?_
    rw [wp_bnd0] at q1
    obtain ⟨z, e, q3⟩ := ofO_wp0 q1
    rw [isTyT x.wd r1 e]
    exact ⟨fz1, pt1, _, Xt.refl x.wd, q3, .inl ⟨rfl, .bl _⟩⟩
  | .comp al own' t k src ifs elt => by
    rename_i b fl p env st fz pt Q X
    intro w r ho q
    unfold esc at ho
    unfold pE at q
    rw [wp_bnd0] at q
    rw [ev_comp]
    refine (soundRs src w r (own_l ho) q).bnd fun ds st1 fz1 pt1 vs x q1 r1 => ?_
    split at q1
    · exact q1.elim
    · rename_i ws hw
      split at q1
      · rename_i hs
        obtain ⟨J, xs, j1, j2, j3, j4⟩ := itT x.wd r1 hw
        rw [j1]
        dsimp only
        rw [wp_bnd0, wp_noEx0] at q1
        have hl : ws.length ≤ 1000000 := of_decide_eq_true hs
        have r0 := r.mono w x
        have G := comp_ok (turn := compT t (wipeE env own') (evTs C ifs) (evE C elt)) (xs := xs) (st0 := st1) (fz0 := fz1) (pt0 := pt1)
          (pturn := fun d => match setT t d (wipeE p own') with
            | none => .bad
            | some e2 => (pTs PC ifs e2).bnd fun k => if k then (pE PC elt e2).bnd fun y => .ret (some y) else .ret none)
          (fun st' fz' pt' y => j3 st' fun n hn => y.keep n (j4 n hn).2 (j4 n hn).1)
          (fun d v st2 fz2 pt2 Q2 y rv q2 => by
            split at q2
            · exact q2.elim
            · rename_i p2 hp2
              obtain ⟨e2, s2, R2⟩ := ((r0.mono x.wd y).wipe own').setT t rv hp2
              unfold compT
              rw [s2]
              dsimp only
              rw [wp_bnd0] at q2
              have lo : ∀ j, own (dropT t (dropL own' fl)) j = true → own fl j = true := fun j hj => (own_dropL (own_dropT t hj)).1
              have h1 := soundTs ifs y.wd R2 (own_mono lo (own_l (own_r ho))) q2
              cases ht : evTs C ifs e2 st2 with
              | bad => rw [ht] at h1; exact h1.elim
              | ex c v s => rw [ht] at h1; obtain ⟨_, _, _, _, z, _⟩ := h1; exact z.elim
              | ok kb s =>
                rw [ht] at h1
                obtain ⟨fz3, pt3, kv, x3, q3, rfl⟩ := h1
                cases kb with
                | false => exact ⟨fz3, pt3, none, x3, q3, trivial⟩
                | true =>
                  simp only [if_true] at q3
                  rw [wp_bnd0] at q3
                  have h2 := val_of (soundE elt) x3.wd (R2.mono y.wd x3) (own_mono lo (own_r (own_r ho))) q3
                  dsimp only
                  cases he : evE C elt e2 s with
                  | bad => rw [he] at h2; exact h2.elim
                  | ex c v s => rw [he] at h2; obtain ⟨_, _, _, _, z, _⟩ := h2; exact z.elim
                  | ok yd s2 =>
                    rw [he] at h2
                    obtain ⟨fz4, pt4, yv, x4, q4, r4⟩ := h2
                    exact ⟨fz4, pt4, some yv, x3.trans x4, q4, r4⟩)
          (by rw [j2.length]; exact hl) ws 0 turns [] [] st1 fz1 pt1 (fun ys => Q (.lst ys)) (Xt.refl x.wd) (by rw [List.drop_zero]; exact j2) .nil (Nat.le_refl _) (by unfold turns; omega) q1
        cases hc : compI J (compT t (wipeE env own') (evTs C ifs) (evE C elt)) turns 0 [] st1 with
        | bad => rw [hc] at G; exact G.elim
        | ex c v s => rw [hc] at G; obtain ⟨_, _, _, _, z, _⟩ := G; exact z.elim
        | ok ys s =>
          rw [hc] at G
          obtain ⟨fz3, pt3, yv, x3, q3, r3⟩ := G
          have F := newL_fine (al := al) x3.wd r3
          refine ((Ho.fine (X := X) F q3).imp fun d s fa pa v y q r => ⟨fa, pa, v, y, q, ?_⟩).pre x3
          unfold RF frE at *
          split at r
          · rename_i h
            rw [if_pos h]
            exact Frs.weak r (Nat.le_trans x.len x3.len)
          · rename_i h
            rw [if_neg h]
            exact r
      · exact q1.elim
  | .app _ _ => by
    rename_i b fl p env st fz pt Q X
    intro w r ho q
    exact q.elim
  | .ext _ _ => by
    rename_i b fl p env st fz pt Q X
    intro w r ho q
    exact q.elim
termination_by structural e => e
theorem soundEs : ∀ es : List E, PEs fresh C PC es
  | [] => by
    rename_i b fl p env st fz pt Q X
    intro w r ho q
    exact ⟨fz, pt, [], Xt.refl w, q, .nil⟩
  | e :: es => by
    rename_i b fl p env st fz pt Q X
    intro w r ho q
    unfold escs at ho
    unfold pEs at q
    rw [wp_bnd0] at q
    rw [evs_cons]
    refine (val_of (soundE e) w r (own_l ho) q).bnd fun d st1 fz1 pt1 v x q1 r1 => ?_
    rw [wp_bnd0] at q1
    refine (soundEs es x.wd (r.mono w x) (own_r ho) q1).bnd fun ds st2 fz2 pt2 vs x2 q2 r2 => ?_
    exact ⟨fz2, pt2, v :: vs, Xt.refl x2.wd, q2, .cons (Res.mono (x2.km x.wd) r1) r2⟩
termination_by structural es => es
theorem soundRs : ∀ es : List E, PRs fresh C PC es
  | [] => by
    rename_i b fl p env st fz pt Q X
    intro w r ho q
    exact ⟨fz, pt, [], Xt.refl w, q, .nil⟩
  | e :: es => by
    rename_i b fl p env st fz pt Q X
    intro w r ho q
    unfold rds at ho
    unfold pEs at q
    rw [wp_bnd0] at q
    rw [evs_cons]
    refine (rd_of (soundE e) w r (own_l ho) q).bnd fun d st1 fz1 pt1 v x q1 r1 => ?_
    rw [wp_bnd0] at q1
    refine (soundRs es x.wd (r.mono w x) (own_r ho) q1).bnd fun ds st2 fz2 pt2 vs x2 q2 r2 => ?_
    exact ⟨fz2, pt2, v :: vs, Xt.refl x2.wd, q2, .cons (Top.mono x.wd r1 x2) r2⟩
termination_by structural es => es
theorem soundTs : ∀ es : List E, PTs fresh C PC es
  | [] => by
    rename_i b fl p env st fz pt Q X
    intro w r ho q
    exact ⟨fz, pt, true, Xt.refl w, q, rfl⟩
  | e :: es => by
    rename_i b fl p env st fz pt Q X
    intro w r ho q
    unfold rds at ho
    unfold pTs at q
    rw [wp_bnd0] at q
    show Ho RB Q X st fz pt ((evE C e env st).bnd _)
    refine (rd_of (soundE e) w r (own_l ho) q).bnd fun d st1 fz1 pt1 v x q1 r1 => ?_
    rw [wp_bnd0] at q1
    obtain ⟨k, e1, q2⟩ := ofO_wp0 q1
    rw [truthT x.wd r1 e1]
    show Ho RB Q X st1 fz1 pt1 (if k then evTs C es env st1 else .ok false st1)
    cases k with
    | true => exact soundTs es x.wd (r.mono w x) (own_r ho) q2
    | false => exact ⟨fz1, pt1, false, Xt.refl x.wd, q2, rfl⟩
termination_by structural es => es
end
end
end Ev
/-! Statements: who owns what behind each. -/
namespace Ev
open PySem

structure FR where
  nx : Option Fl
  bk : Option Fl
  ct : Option Fl
def meetF (a b : Fl) : Fl := a.filter fun i => own b i
def setF (fl : Fl) (i : Nat) (k : Bool) : Fl := if k then i :: unow fl i else unow fl i
def meetO : Option Fl → Option Fl → Option Fl
  | none, x => x
  | some a, none => some a
  | some a, some b => some (meetF a b)
def leF (a b : Fl) : Bool := a.all fun i => own b i
def leO (a : Fl) : Option Fl → Bool
  | none => true
  | some b => leF a b
/-- an expression that ends in what holds no list -/
def flatE : E → Bool
  | .cmp .. => true
  | .not _ => true
  | .isi .. => true
  | .pr _ p _ => match p with
    | .tuple => false
    | .list => false
    | .rg _ => false
    | _ => true
  | _ => false
mutual
def dropG : Tg → Fl → Option Fl
  | .n i, fl => some (unow fl i)
  | .t ts, fl => dropGs ts fl
  | .s _ _, _ => none
termination_by structural t => t
def dropGs : List Tg → Fl → Option Fl
  | [], fl => some fl
  | t :: ts, fl => (dropG t fl).bind fun fl => dropGs ts fl
termination_by structural t => t
end
def keepL (e : E) (fl : Fl) : Fl := if flatE e then fl else dropL (esc e) fl
def fixF (g : Fl → Option FR) : Nat → Fl → Option (Fl × FR)
  | 0, _ => none
  | n + 1, x => match g x with
    | none => none
    | some r => if leO x r.nx && leO x r.ct then some (x, r) else fixF g n ((meetO (some x) (meetO r.nx r.ct)).getD x)
section
variable (fresh : Str → Bool) (frf : Bool)
def okRet (e : E) (fl : Fl) : Bool := !frf || (match e with
  | .v i => own fl i
  | e => frE fresh e)
mutual
def flS : S → Fl → Option FR
  | .asg (.n i) e, fl => some ⟨some (setF (keepL e fl) i (frE fresh e)), none, none⟩
  | .asg (.t ts) e, fl => (dropG (.t ts) (dropL (esc e) fl)).map fun fl => ⟨some fl, none, none⟩
  | .asg (.s (.v j) ie) e, fl => if own (dropL (rdOf ie (esc ie)) (dropL (esc e) fl)) j then some ⟨some (dropL (rdOf ie (esc ie)) (dropL (esc e) fl)), none, none⟩ else none
  | .asg (.s _ _) _, _ => none
  | .par [i, j] [a, c], fl => some ⟨some (setF (setF (dropL (esc a ++ esc c) fl) i (frE fresh a)) j (frE fresh c)), none, none⟩
  | .par _ _, _ => none
  | .ex (.app (.v i) b), fl => if own (keepL b fl) i then some ⟨some (keepL b fl), none, none⟩ else none
  | .ex (.ext (.v i) b), fl => if own (dropL (rdOf b (esc b)) fl) i then some ⟨some (dropL (rdOf b (esc b)) fl), none, none⟩ else none
  | .ex e, fl => some ⟨some (keepL e fl), none, none⟩
  | .iff t a b, fl => (flSs a fl).bind fun r1 => (flSs b fl).map fun r2 => ⟨meetO r1.nx r2.nx, meetO r1.bk r2.bk, meetO r1.ct r2.ct⟩
  | .for_ t k src body, fl => (fixF (fun x => flSs body (dropT t x)) 5 (dropT t (dropL (escs src) fl))).map fun (x, r) => ⟨meetO (some x) r.bk, none, none⟩
  | .whl t body, fl => (fixF (fun x => flSs body x) 5 fl).map fun (x, r) => ⟨meetO (some x) r.bk, none, none⟩
  | .ret none, fl => if frf then none else some ⟨none, none, none⟩
  | .ret (some e), fl => if okRet fresh frf e fl then some ⟨none, none, none⟩ else none
  | .pass, fl => some ⟨some fl, none, none⟩
  | .brk, fl => some ⟨none, some fl, none⟩
  | .cont, fl => some ⟨none, none, some fl⟩
  | .dead, fl => some ⟨none, none, none⟩
termination_by structural s => s
def flSs : List S → Fl → Option FR
  | [], fl => some ⟨some fl, none, none⟩
  | s :: ss, fl => (flS s fl).bind fun r => match r.nx with
    | none => some r
    | some fl => (flSs ss fl).map fun r2 => ⟨r2.nx, meetO r.bk r2.bk, meetO r.ct r2.ct⟩
termination_by structural s => s
end
end
theorem own_meet {a b : Fl} {i : Nat} (h : own (meetF a b) i = true) : own a i = true ∧ own b i = true := by
  unfold own meetF at *
  rw [List.contains_iff_mem, List.mem_filter] at h
  exact ⟨List.contains_iff_mem.mpr h.1, h.2⟩
theorem own_leF {a b : Fl} (h : leF a b = true) {i : Nat} (o : own a i = true) : own b i = true := by
  unfold leF at h
  rw [List.all_eq_true] at h
  exact h i (List.contains_iff_mem.mp o)
theorem own_nil {i : Nat} : own [] i = false := rfl
theorem own_setF {fl : Fl} {i j : Nat} {k : Bool} : own (setF fl i k) j = if i = j then k else own fl j := by
  by_cases hij : i = j
  · subst hij
    rw [if_pos rfl]
    unfold setF
    cases k with
    | false =>
      show own (unow fl i) i = false
      rw [own_set_false]
      simp
    | true =>
      show own (i :: unow fl i) i = true
      unfold own
      simp
  · rw [if_neg hij]
    unfold setF
    have : own (unow fl i) j = own fl j := by rw [own_set_false]; simp [hij]
    cases k with
    | false => exact this
    | true =>
      show own (i :: unow fl i) j = own fl j
      rw [← this]
      unfold own
      rw [List.contains_cons]
      have : (j == i) = false := by simp; exact fun z => hij z.symm
      rw [this]
      rfl
theorem own_set {fl : Fl} {i j : Nat} {k : Bool} (h : own (setF fl i k) j = true) : (j = i ∧ k = true) ∨ (j ≠ i ∧ own fl j = true) := by
  rw [own_setF] at h
  split at h
  · rename_i z
    exact .inl ⟨z.symm, h⟩
  · rename_i z
    exact .inr ⟨fun y => z y.symm, h⟩

/-- within a def: what its callers know stays -/
structure Gr (b : Nat) (st : Sto) (fz pt : NS) (st' : Sto) (fz' pt' : NS) : Prop where
  len : st.length ≤ st'.length
  keep : ∀ n, n < b → ¬ pt n → st'[n]? = st[n]?
  fz1 : ∀ n, fz n → fz' n ∧ st'[n]? = st[n]?
  fz2 : ∀ n, fz' n → n < b → fz n
  pt1 : ∀ n, pt n → pt' n
  pt2 : ∀ n, pt' n → n < st.length → pt n
section
variable {st st' st'' : Sto} {fz pt fz' pt' fz'' pt'' : NS} {b : Nat} {fl fl' : Fl} {p e : Env} {d v : D} {i : Nat}
theorem Gr.refl : Gr b st fz pt st fz pt := ⟨Nat.le_refl _, fun _ _ _ => rfl, fun _ h => ⟨h, rfl⟩, fun _ h _ => h, fun _ h => h, fun _ h _ => h⟩
theorem Gr.trans (hb : b ≤ st.length) (h : Gr b st fz pt st' fz' pt') (g : Gr b st' fz' pt' st'' fz'' pt'') : Gr b st fz pt st'' fz'' pt'' :=
  ⟨Nat.le_trans h.len g.len, fun n l z => (g.keep n l (fun z2 => z (h.pt2 n z2 (Nat.lt_of_lt_of_le l hb)))).trans (h.keep n l z), fun n f => ⟨(g.fz1 n (h.fz1 n f).1).1, ((g.fz1 n (h.fz1 n f).1).2).trans (h.fz1 n f).2⟩,
    fun n f l => h.fz2 n (g.fz2 n f l) l, fun n z => g.pt1 n (h.pt1 n z), fun n z l => h.pt2 n (g.pt2 n z (Nat.lt_of_lt_of_le l h.len)) l⟩
theorem Xt.gr (hb : b ≤ st.length) (w : Wd st fz pt) (x : Xt st fz pt st' fz' pt') : Gr b st fz pt st' fz' pt' :=
  ⟨x.len, fun n l z => x.keep n (Nat.lt_of_lt_of_le l hb) z, (x.km w).fz, fun n f l => x.fz2 n f (Nat.lt_of_lt_of_le l hb), x.pt1, x.pt2⟩
theorem Gr.xt (g : Gr st.length st fz pt st' fz' pt') (w : Wd st' fz' pt') : Xt st fz pt st' fz' pt' := ⟨g.len, g.keep, fun n f => (g.fz1 n f).1, g.fz2, g.pt1, g.pt2, w⟩
theorem Gr.km (g : Gr b st fz pt st' fz' pt') : Km st fz pt st' fz' pt' := ⟨g.fz1, g.pt1⟩
/-- some lists are given away -/
theorem Rel.freeze (w : Wd st fz pt) (h : Rel b fl p e st fz pt) (le : ∀ i, own fl' i = true → own fl i = true) : ∃ fz', Wd st fz' pt ∧ Gr b st fz pt st fz' pt ∧ Rel b fl' p e st fz' pt := by
  let N : NS := fun n => ∃ i v d, own fl i = true ∧ own fl' i = false ∧ p[i]? = some (some v) ∧ e[i]? = some (some d) ∧ b ≤ n ∧ ¬ fz n ∧ Held st fz pt d v n
  have km : Km st fz pt st (fun n => fz n ∨ N n) pt := ⟨fun n f => ⟨.inl f, rfl⟩, fun n f => f⟩
  refine ⟨fun n => fz n ∨ N n, ⟨fun n f => ?_, w.pt⟩, ⟨Nat.le_refl _, fun _ _ _ => rfl, fun n f => ⟨.inl f, rfl⟩, fun n f l => ?_, fun _ z => z, fun _ z _ => z⟩, ⟨h.base, h.len, fun i v hv => ?_, fun i j n v u hij oi oj pi pj ei ej => h.dis i j n v u hij (le i oi) (le j oj) pi pj ei ej⟩⟩
  · rcases f with f | ⟨i, v, d, _, _, _, _, _, _, hh⟩
    · exact w.fz n f
    · exact ⟨hh.lt, hh.2.1⟩
  · rcases f with f | ⟨i, v, d, _, _, _, _, hb, _, hh⟩
    · exact f
    · omega
  · obtain ⟨d, e1, e2, e3⟩ := h.val i v hv
    refine ⟨d, e1, fun o => ?_, fun o => ?_⟩
    · rcases e2 (le i o) with ⟨h1, h2⟩ | ⟨n, h1, h2, h3⟩
      · exact .inl ⟨h1, h2.mono km⟩
      · refine .inr ⟨n, h1, fun z => ?_, h3.1, h3.2.1, ?_⟩
        · rcases z with z | ⟨j, v2, d2, oj, oj', pj, ej, _, _, hj⟩
          · exact h2 z
          · have hij : i ≠ j := fun z => by subst z; rw [o] at oj'; cases oj'
            rw [h3.1] at e1
            rw [hj.1] at ej
            exact h3.2.1 (h.dis i j n v v2 hij (le i o) oj hv pj e1 ej)
        · rcases h3.2.2 with ⟨xs, vs, ev, g, r⟩ | ⟨ks, xs, vs, ev, g, r⟩
          · exact .inl ⟨xs, vs, ev, g, r.mono km⟩
          · exact .inr ⟨ks, xs, vs, ev, g, r.mono km⟩
    · cases ho : own fl i with
      | false => exact (e3 ho).mono km
      | true =>
        rcases e2 ho with ⟨h1, h2⟩ | ⟨n, h1, h2, h3⟩
        · exact h2.mono km
        · have hN : N n := ⟨i, v, d, ho, o, hv, e1, h1, h2, h3⟩
          obtain ⟨q1, q2, q3⟩ := h3
          subst q1
          rcases q3 with ⟨xs, vs, rfl, g, r⟩ | ⟨ks, xs, vs, rfl, g, r⟩
          · exact .ll (.inr hN) g (r.mono km)
          · exact .ld (.inr hN) g (r.mono km)
/-- what was given away for a while is there again -/
theorem Rel.back {fzA fzA' : NS} (w : Wd st fz pt) (h : Rel b fl p e st fz pt) (le : ∀ n, fz n → fzA n) (x : Xt st fzA pt st' fzA' pt') : Wd st' fz pt' ∧ Gr b st fz pt st' fz pt' ∧ Rel b fl p e st' fz pt' := by
  have wd' : Wd st' fz pt' := ⟨fun n f => ⟨Nat.lt_of_lt_of_le (w.fz n f).1 x.len, fun z => (w.fz n f).2 (x.pt2 n z (w.fz n f).1)⟩, x.wd.pt⟩
  have x2 : Xt st fz pt st' fz pt' := ⟨x.len, x.keep, fun _ f => f, fun _ f _ => f, x.pt1, x.pt2, wd'⟩
  exact ⟨wd', x2.gr h.base w, h.mono w x2⟩
theorem Rel.setRF {fr : Bool} (w : Wd st fz pt) (h : Rel b fl p e st fz pt) (x : Xt st fz pt st' fz' pt') (r : RF fr st.length st' fz' pt' d v) : Rel b (setF fl i fr) (p.set i (some v)) (e.set i (some d)) st' fz' pt' := by
  have h' := h.mono w x
  cases fr with
  | false => exact h'.setv r
  | true =>
    have r : Frs st.length st' fz' pt' d v := r
    -- a name's thing is none of the new ones
    have other : ∀ j n u, own fl j = true → p[j]? = some (some u) → e[j]? = some (some (.loc n)) → d = .loc n → pt' n := by
      intro j n u oj pj ej hd
      obtain ⟨dj, f1, f2, _⟩ := h.val j u pj
      rw [ej] at f1
      cases f1
      subst hd
      rcases f2 oj with ⟨g1, g2⟩ | ⟨m, g1, g2, g3⟩
      · cases g2 with
        | pot q => exact x.pt1 _ q
        | ll => cases g1
        | ld => cases g1
      · have hm : n = m := by have := g3.1; cases this; rfl
        subst hm
        rcases r with ⟨k1, k2⟩ | ⟨m, k1, k2, k3⟩
        · cases k2 with
          | pot q => exact q
          | ll => cases k1
          | ld => cases k1
        · have hm : n = m := by have := k3.1; cases this; rfl
          subst hm
          have := g3.lt
          omega
    refine ⟨h'.base, by rw [List.length_set, List.length_set]; exact h'.len, fun j u hj => ?_, fun j k n u u2 hjk oj ok pj pk ej ek => ?_⟩
    · by_cases hij : i = j
      · subst hij
        have hl : i < p.length := by
          have := (List.getElem?_eq_some_iff.mp hj).1
          rwa [List.length_set] at this
        rw [List.getElem?_set_self hl] at hj
        cases hj
        refine ⟨d, List.getElem?_set_self (by rw [h.len]; exact hl), fun o => Frs.weak r h.base, fun o => ?_⟩
        rw [own_setF, if_pos rfl] at o
        cases o
      · rw [List.getElem?_set_ne hij] at hj
        obtain ⟨d', e1, e2, e3⟩ := h'.val j u hj
        refine ⟨d', by rw [List.getElem?_set_ne hij]; exact e1, fun o => e2 ?_, fun o => e3 ?_⟩
        · rcases own_set o with ⟨z, _⟩ | ⟨_, z⟩
          · exact absurd z.symm hij
          · exact z
        · rw [own_setF, if_neg hij] at o
          exact o
    · by_cases hij : i = j
      · subst hij
        have hik : i ≠ k := hjk
        rcases own_set ok with ⟨z, _⟩ | ⟨_, ok⟩
        · exact absurd z.symm hik
        · rw [List.getElem?_set_ne hik] at pk ek
          have hl : i < e.length := by
            have := (List.getElem?_eq_some_iff.mp ej).1
            rwa [List.length_set] at this
          rw [List.getElem?_set_self hl] at ej
          cases ej
          exact other k n u2 ok pk ek rfl
      · rcases own_set oj with ⟨z, _⟩ | ⟨_, oj⟩
        · exact absurd z.symm hij
        · rw [List.getElem?_set_ne hij] at pj ej
          by_cases hik : i = k
          · subst hik
            have hl : i < e.length := by
              have := (List.getElem?_eq_some_iff.mp ek).1
              rwa [List.length_set] at this
            rw [List.getElem?_set_self hl] at ek
            cases ek
            exact other j n u oj pj ej rfl
          · rcases own_set ok with ⟨z, _⟩ | ⟨_, ok⟩
            · exact absurd z.symm hik
            · rw [List.getElem?_set_ne hik] at pk ek
              exact h'.dis j k n u u2 hjk oj ok pj pk ej ek
end
end Ev
/-! Statements: the evaluator over values is right. -/
namespace Ev
open PySem
section
variable {st st' : Sto} {fz pt fz' pt' : NS} {b : Nat} {fl fl' : Fl} {p e : Env} {d v : D} {i : Nat}
theorem own_dropL_mono {l : List Nat} : ∀ j, own (dropL l fl) j = true → own fl j = true := fun j h => (own_dropL h).1
theorem own_dropL_out {l : List Nat} : ∀ i ∈ l, own (dropL l fl) i = false := fun i hi => by
  cases h : own (dropL l fl) i with
  | false => rfl
  | true => exact absurd hi (own_dropL h).2
/-- an owned list is changed -/
theorem Rel.put {vs ys ws : List D} (w : Wd st fz pt) (h : Rel b fl p e st fz pt) (o : own fl i = true) (hp : p[i]? = some (some (.lst vs))) (r : Ress st fz pt ys ws) :
    ∃ n xs, e[i]? = some (some (.loc n)) ∧ ¬ pt n ∧ st[n]? = some (.lst xs) ∧ Ress st fz pt xs vs ∧ Wd (st.set n (.lst ys)) fz pt ∧ Gr b st fz pt (st.set n (.lst ys)) fz pt ∧ Rel b fl (p.set i (some (.lst ws))) e (st.set n (.lst ys)) fz pt := by
  obtain ⟨d, e1, e2, _⟩ := h.val i _ hp
  rcases e2 o with ⟨h1, _⟩ | ⟨n, h1, h2, h3, h4, h5⟩
  · cases h1
  · rcases h5 with ⟨xs, us, ev, g, rx⟩ | ⟨ks, xs, us, ev, g, rx⟩
    case inr => cases ev
    cases ev
    subst h3
    have hn := (List.getElem?_eq_some_iff.mp g).1
    have km : Km st fz pt (st.set n (.lst ys)) fz pt := ⟨fun m f => ⟨f, by rw [List.getElem?_set_ne (fun z => h2 (by rw [z]; exact f))]⟩, fun _ f => f⟩
    refine ⟨n, xs, e1, h4, g, rx, ⟨fun m f => by rw [List.length_set]; exact w.fz m f, fun m f => (w.pt m f).set (fun z => h4 (by rw [z]; exact f))⟩, ⟨by rw [List.length_set]; exact Nat.le_refl _, fun m l z => by rw [List.getElem?_set_ne (by omega)], km.fz, fun _ f _ => f, fun _ f => f, fun _ f _ => f⟩, ?_⟩
    refine ⟨by rw [List.length_set]; exact h.base, by rw [List.length_set]; exact h.len, fun j u hj => ?_, fun j k m u u2 hjk oj ok pj pk ej ek => ?_⟩
    · by_cases hij : i = j
      · subst hij
        have hl : i < p.length := (List.getElem?_eq_some_iff.mp hp).1
        rw [List.getElem?_set_self hl] at hj
        cases hj
        refine ⟨.loc n, e1, fun _ => .inr ⟨n, h1, h2, rfl, h4, .inl ⟨ys, ws, rfl, List.getElem?_set_self hn, r.mono km⟩⟩, fun z => by rw [o] at z; cases z⟩
      · rw [List.getElem?_set_ne hij] at hj
        obtain ⟨d', f1, f2, f3⟩ := h.val j u hj
        refine ⟨d', f1, fun oj => ?_, fun oj => (f3 oj).mono km⟩
        rcases f2 oj with ⟨k1, k2⟩ | ⟨m, k1, k2, k3⟩
        · exact .inl ⟨k1, k2.mono km⟩
        · have hmn : m ≠ n := fun z => by
            subst z
            rw [k3.1] at f1
            exact h4 (h.dis i j m _ u hij o oj hp hj e1 f1)
          refine .inr ⟨m, k1, k2, k3.1, k3.2.1, ?_⟩
          rcases k3.2.2 with ⟨xs2, vs2, ev, g2, r2⟩ | ⟨ks, xs2, vs2, ev, g2, r2⟩
          · exact .inl ⟨xs2, vs2, ev, by rw [List.getElem?_set_ne (fun z => hmn z.symm)]; exact g2, r2.mono km⟩
          · exact .inr ⟨ks, xs2, vs2, ev, by rw [List.getElem?_set_ne (fun z => hmn z.symm)]; exact g2, r2.mono km⟩
    · have back : ∀ {j : Nat} {u : D}, (p.set i (some (.lst ws)))[j]? = some (some u) → ∃ u', p[j]? = some (some u') := by
        intro j u hj
        by_cases hij : i = j
        · subst hij; exact ⟨_, hp⟩
        · rw [List.getElem?_set_ne hij] at hj; exact ⟨_, hj⟩
      obtain ⟨_, pj'⟩ := back pj
      obtain ⟨_, pk'⟩ := back pk
      exact h.dis j k m _ _ hjk oj ok pj' pk' ej ek
mutual
theorem RelG {C : Cal} {PC : PCal} {X : Str → D → Prop} : ∀ (t : Tg) {fl fl' : Fl} {p e : Env} {d v : D} {Q : Env → Prop}, dropG t fl = some fl' → Rel b fl p e st fz pt → Res st fz pt d v → (pG PC t v p).wp0 Q X → ∃ p' e', Q p' ∧ setG C t d e st = .ok e' st ∧ Rel b fl' p' e' st fz pt
  | .n i, fl, fl', p, e, d, v, Q, hf, h, r, q => by
    cases hf
    exact ⟨_, _, q, rfl, h.setv r⟩
  | .t ts, fl, fl', p, e, d, v, Q, hf, h, r, q => by
    cases r with
    | tup r => exact RelGs ts hf h r q
    | _ => exact q.elim
  | .s _ _, fl, fl', p, e, d, v, Q, hf, h, r, q => by cases hf
theorem RelGs {C : Cal} {PC : PCal} {X : Str → D → Prop} : ∀ (ts : List Tg) {fl fl' : Fl} {p e : Env} {ds vs : List D} {Q : Env → Prop}, dropGs ts fl = some fl' → Rel b fl p e st fz pt → Ress st fz pt ds vs → (pGs PC ts vs p).wp0 Q X → ∃ p' e', Q p' ∧ setGs C ts ds e st = .ok e' st ∧ Rel b fl' p' e' st fz pt
  | [], fl, fl', p, e, _, _, Q, hf, h, .nil, q => by
    cases hf
    exact ⟨p, e, q, rfl, h⟩
  | [], fl, fl', p, e, _, _, Q, hf, h, .cons _ _, q => q.elim
  | t :: ts, fl, fl', p, e, _, _, Q, hf, h, .nil, q => q.elim
  | t :: ts, fl, fl', p, e, _, _, Q, hf, h, .cons (d := d) (v := v) (ds := ds) (vs := vs) r rs, q => by
    unfold dropGs at hf
    rw [Option.bind_eq_some_iff] at hf
    obtain ⟨fl1, g1, g2⟩ := hf
    unfold pGs at q
    rw [wp_bnd0] at q
    obtain ⟨p1, e1, q1, s1, r1⟩ := RelG (C := C) t g1 h r q
    obtain ⟨p2, e2, q2, s2, r2⟩ := RelGs (C := C) ts g2 r1 rs q1
    refine ⟨p2, e2, q2, ?_, r2⟩
    rw [sets_cons, s1]
    exact s2
end
end
/-- a statement's outcome, and what it is over values -/
def HoR (frf : Bool) (N : PR → Prop) (b : Nat) (out : FR) (st : Sto) (fz pt : NS) : R → Prop
  | .nx e s => ∃ fl p fz' pt', out.nx = some fl ∧ N (.nx p) ∧ Wd s fz' pt' ∧ Gr b st fz pt s fz' pt' ∧ Rel b fl p e s fz' pt'
  | .bk e s => ∃ fl p fz' pt', out.bk = some fl ∧ N (.bk p) ∧ Wd s fz' pt' ∧ Gr b st fz pt s fz' pt' ∧ Rel b fl p e s fz' pt'
  | .ct e s => ∃ fl p fz' pt', out.ct = some fl ∧ N (.ct p) ∧ Wd s fz' pt' ∧ Gr b st fz pt s fz' pt' ∧ Rel b fl p e s fz' pt'
  | .rt d s => ∃ fz' pt' v, N (.rt v) ∧ Wd s fz' pt' ∧ Gr b st fz pt s fz' pt' ∧ RF frf b s fz' pt' d v
  | .ex c d e s => ∃ p fz' pt' v, N (.ex c v p) ∧ Wd s fz' pt' ∧ Gr b st fz pt s fz' pt' ∧ Rel b [] p e s fz' pt' ∧ Res s fz' pt' d v
  | .bad => False
section
variable {α : Type} {N : PR → Prop} {X : Str → D → Prop}
theorem wp_toR0 {t : Tr α} {env : Env} {f : α → Tr PR} : (t.toR env f).wp0 N X ↔ t.wp0 (fun a => (f a).wp0 N X) (fun c v => N (.ex c v env)) := by
  induction t with
  | ret a => exact Iff.rfl
  | exc c v => exact Iff.rfl
  | bad => exact Iff.rfl
  | ask m k ih => exact and_congr Iff.rfl (and_congr Iff.rfl (forall_congr' fun i => imp_congr Iff.rfl (imp_congr Iff.rfl (ih i))))
  | pot k ih => exact forall_congr' fun n => ih n
end
section
variable {frf : Bool} {N : PR → Prop} {b : Nat} {out : FR} {st st' : Sto} {fz pt fz' pt' : NS} {fl : Fl} {p e : Env}
theorem HoR.pre (hb : b ≤ st.length) (g : Gr b st fz pt st' fz' pt') {r : R} (h : HoR frf N b out st' fz' pt' r) : HoR frf N b out st fz pt r := by
  cases r with
  | nx e s => obtain ⟨fl, p, a, c, h1, h2, h3, h4, h5⟩ := h; exact ⟨fl, p, a, c, h1, h2, h3, Gr.trans hb g h4, h5⟩
  | bk e s => obtain ⟨fl, p, a, c, h1, h2, h3, h4, h5⟩ := h; exact ⟨fl, p, a, c, h1, h2, h3, Gr.trans hb g h4, h5⟩
  | ct e s => obtain ⟨fl, p, a, c, h1, h2, h3, h4, h5⟩ := h; exact ⟨fl, p, a, c, h1, h2, h3, Gr.trans hb g h4, h5⟩
  | rt d s => obtain ⟨a, c, v, h2, h3, h4, h5⟩ := h; exact ⟨a, c, v, h2, h3, Gr.trans hb g h4, h5⟩
  | ex c d e s => obtain ⟨p, a, c, v, h2, h3, h4, h5⟩ := h; exact ⟨p, a, c, v, h2, h3, Gr.trans hb g h4, h5⟩
  | bad => exact h
/-- an exception of an expression -/
theorem HoR.exc {fzA : NS} {c : Str} {d v : D} (w : Wd st fz pt) (r : Rel b fl p e st fz pt) (x : Xt st fz pt st' fz' pt') (n : N (.ex c v p)) (rv : Res st' fz' pt' d v) : HoR frf N b out st fz pt (.ex c d e st') := by
  obtain ⟨fz'', w', g', r'⟩ := (r.mono w x).freeze (fl' := []) x.wd (fun i h => by rw [own_nil] at h; cases h)
  exact ⟨p, fz'', pt', v, n, w', Gr.trans r.base (x.gr r.base w) g', r', rv.mono g'.km⟩
/-- an expression in a statement -/
theorem toR_ho {δ α : Type} {Rr : Sto → NS → NS → δ → α → Prop} {o : Out δ} {f : δ → Sto → R} {g : α → Tr PR} (w : Wd st fz pt) (r : Rel b fl p e st fz pt) (h : Ho Rr (fun v => (g v).wp0 N noX) (fun c v => N (.ex c v p)) st fz pt o)
    (k : ∀ d st' fz' pt' v, Xt st fz pt st' fz' pt' → (g v).wp0 N noX → Rr st' fz' pt' d v → HoR frf N b out st' fz' pt' (f d st')) : HoR frf N b out st fz pt (o.toR e f) := by
  cases o with
  | ok d s => obtain ⟨a, c, v, x, q, rv⟩ := h; exact (k d s a c v x q rv).pre r.base (x.gr r.base w)
  | ex c d s => obtain ⟨a, c2, v, x, q, rv⟩ := h; exact HoR.exc (fzA := fz) w r x q rv
  | bad => exact h
/-- .. whose lists are given away for a while -/
theorem toR_back {δ α : Type} {Rr : Sto → NS → NS → δ → α → Prop} {o : Out δ} {f : δ → Sto → R} {g : α → Tr PR} {l : List Nat} (w : Wd st fz pt) (r : Rel b fl p e st fz pt)
    (h : ∀ fzA, Wd st fzA pt → Rel b (dropL l fl) p e st fzA pt → Ho Rr (fun v => (g v).wp0 N noX) (fun c v => N (.ex c v p)) st fzA pt o)
    (k : ∀ d st' fzA pt' v, o = .ok d st' → Wd st' fz pt' → Rel b fl p e st' fz pt' → (g v).wp0 N noX → Rr st' fzA pt' d v → HoR frf N b out st' fz pt' (f d st')) : HoR frf N b out st fz pt (o.toR e f) := by
  obtain ⟨fzA, w1, g1, r1⟩ := r.freeze (fl' := dropL l fl) w own_dropL_mono
  have h := h fzA w1 r1
  cases o with
  | ok d s =>
    obtain ⟨a, c, v, x, q, rv⟩ := h
    obtain ⟨w2, g2, r2⟩ := r.back w (fun n f => (g1.fz1 n f).1) x
    exact (k d s a c v rfl w2 r2 q rv).pre r.base g2
  | ex c d s =>
    obtain ⟨a, c2, v, x, q, rv⟩ := h
    exact (HoR.exc (fzA := fz) w1 r1 x q rv).pre r.base g1
  | bad => exact h
theorem HoR.nx {fl : Fl} (w : Wd st fz pt) (h : out.nx = some fl) (r : Rel b fl p e st fz pt) (n : N (.nx p)) : HoR frf N b out st fz pt (.nx e st) := ⟨fl, p, fz, pt, h, n, w, Gr.refl, r⟩
end
/-- a value without lists is the same in any store -/
structure Ind (d : D) : Prop where
  to : ∀ {st1 : Sto} {fz pt : NS} {v : D} {st2 : Sto} {fz2 pt2 : NS}, Res st1 fz pt d v → Res st2 fz2 pt2 d v
  bx : ∀ {st : Sto} {fz pt : NS} {v : D}, Res st fz pt d v → noBox v = true
  nl : ∀ n, d ≠ .loc n
theorem flatE_ok {C : Cal} {env : Env} {st : Sto} {e : E} {d : D} {s : Sto} (hf : flatE e = true) (h : evE C e env st = .ok d s) : Ind d := by
  have fin : (∃ i, d = .int i) ∨ (∃ k, d = .bl k) ∨ (∃ x, d = .str x) ∨ (∃ i j, d = .tup [.int i, .int j]) → Ind d := by
    rintro (⟨i, rfl⟩ | ⟨k, rfl⟩ | ⟨x, rfl⟩ | ⟨i, j, rfl⟩) <;> refine ⟨fun {st1 fz pt v st2 fz2 pt2} r => ?_, fun {st fz pt v} r => (by cases r; rfl), fun n z => by cases z⟩
    · cases r; exact .int i
    · cases r; exact .bl k
    · cases r; exact .str x
    · cases r with
      | tup r => cases r with | cons h t => cases t with | cons h2 t => cases t; cases h; cases h2; exact .tup (.cons (.int _) (.cons (.int _) .nil))
  cases e with
  | cmp o a c =>
    rw [ev_cmp] at h
    obtain ⟨x, s1, _, h⟩ := bnd_eq h
    obtain ⟨y, s2, _, h⟩ := bnd_eq h
    refine fin (.inr (.inl ?_))
    exact (cmp_bl h).1
  | not a =>
    rw [ev_not] at h
    obtain ⟨x, s1, _, h⟩ := bnd_eq h
    obtain ⟨y, s2, _, h⟩ := bnd_eq h
    cases h
    exact fin (.inr (.inl ⟨_, rfl⟩))
  | isi a t =>
    rw [ev_isi] at h
    obtain ⟨x, s1, _, h⟩ := bnd_eq h
    obtain ⟨y, s2, _, h⟩ := bnd_eq h
    cases h
    exact fin (.inr (.inl ⟨_, rfl⟩))
  | pr al o es =>
    rw [ev_pr] at h
    obtain ⟨ds, s1, _, h⟩ := bnd_eq h
    have two : ∀ {f : D → D → Sto → Out D}, arg2 f ds s1 = .ok d s → ∃ x y, f x y s1 = .ok d s := by
      intro f h
      unfold arg2 at h
      split at h
      · exact ⟨_, _, h⟩
      · cases h
    have one : ∀ {f : D → Sto → Out D}, arg1 f ds s1 = .ok d s → ∃ x, f x s1 = .ok d s := by
      intro f h
      unfold arg1 at h
      split at h
      · exact ⟨_, h⟩
      · cases h
    cases o with
    | len =>
      obtain ⟨x, h⟩ := one h
      obtain ⟨a, _, h⟩ := bnd_inv h
      cases h; exact fin (.inl ⟨_, rfl⟩)
    | abs =>
      obtain ⟨x, h⟩ := one (f := absP) h
      unfold absP at h
      split at h <;> cases h
      exact fin (.inl ⟨_, rfl⟩)
    | max2 =>
      obtain ⟨x, y, h⟩ := two (f := maxP) h
      unfold maxP at h
      split at h <;> cases h
      exact fin (.inl ⟨_, rfl⟩)
    | min2 =>
      obtain ⟨x, y, h⟩ := two (f := minP) h
      unfold minP at h
      split at h <;> cases h
      exact fin (.inl ⟨_, rfl⟩)
    | int1 =>
      obtain ⟨x, h⟩ := one (f := intP) h
      unfold intP at h
      split at h <;> cases h
      · exact fin (.inl ⟨_, rfl⟩)
      · exact fin (.inl ⟨_, rfl⟩)
    | repr =>
      obtain ⟨x, h⟩ := one (f := reprP) h
      have h := opt_ok h
      unfold reprD at h
      split at h
      · split at h <;> cases h
        exact fin (.inr (.inr (.inl ⟨_, rfl⟩)))
      · cases h
    | divmod =>
      obtain ⟨x, y, h⟩ := two (f := divmodP) h
      unfold divmodP at h
      split at h
      · split at h <;> cases h
        exact fin (.inr (.inr (.inr ⟨_, _, rfl⟩)))
      · cases h
    | sum =>
      obtain ⟨x, h⟩ := one h
      obtain ⟨a, _, h⟩ := bnd_inv h
      cases h; exact fin (.inl ⟨_, rfl⟩)
    | all =>
      obtain ⟨x, h⟩ := one h
      obtain ⟨a, _, h⟩ := bnd_inv h
      cases h; exact fin (.inr (.inl ⟨_, rfl⟩))
    | any =>
      obtain ⟨x, h⟩ := one h
      obtain ⟨a, _, h⟩ := bnd_inv h
      cases h; exact fin (.inr (.inl ⟨_, rfl⟩))
    | tuple => cases hf
    | list => cases hf
    | rg l => cases hf
    | max1 =>
      obtain ⟨x, h⟩ := one h
      change most1 x _ = _ at h
      unfold most1 at h
      obtain ⟨a, _, h⟩ := bnd_inv h
      cases a with
      | nil => cases h
      | cons m r => cases h; exact fin (.inl ⟨_, rfl⟩)
    | min1 =>
      obtain ⟨x, h⟩ := one h
      change least1 x _ = _ at h
      unfold least1 at h
      obtain ⟨a, _, h⟩ := bnd_inv h
      cases a with
      | nil => cases h
      | cons m r => cases h; exact fin (.inl ⟨_, rfl⟩)
  | _ => cases hf
end Ev
/-! Statements, defs, levels: the evaluator over values is right. -/
namespace Ev
open PySem
theorem leO_own {x : Fl} {o : Option Fl} {y : Fl} (h : leO x o = true) (e : o = some y) : ∀ i, own x i = true → own y i = true := by
  subst e
  exact fun i => own_leF h
theorem meet_l {x : Fl} {o : Option Fl} {y : Fl} (e : meetO (some x) o = some y) : ∀ i, own y i = true → own x i = true := by
  cases o with
  | none => cases e; exact fun i h => h
  | some a => cases e; exact fun i h => (own_meet h).1
theorem meet_r {x a : Fl} {o : Option Fl} {y : Fl} (h : o = some a) (e : meetO (some x) o = some y) : ∀ i, own y i = true → own a i = true := by
  subst h
  cases e
  exact fun i h => (own_meet h).2
theorem meetO_l {a : Fl} {o1 o2 : Option Fl} (h : o1 = some a) : ∃ y, meetO o1 o2 = some y ∧ ∀ i, own y i = true → own a i = true := by
  subst h
  cases o2 with
  | none => exact ⟨a, rfl, fun i h => h⟩
  | some c => exact ⟨meetF a c, rfl, fun i h => (own_meet h).1⟩
theorem meetO_r {a : Fl} {o1 o2 : Option Fl} (h : o2 = some a) : ∃ y, meetO o1 o2 = some y ∧ ∀ i, own y i = true → own a i = true := by
  subst h
  cases o1 with
  | none => exact ⟨a, rfl, fun i h => h⟩
  | some c => exact ⟨meetF c a, rfl, fun i h => (own_meet h).2⟩
theorem fixF_ok {g : Fl → Option FR} : ∀ {n : Nat} {x0 x : Fl} {r : FR}, fixF g n x0 = some (x, r) → g x = some r ∧ leO x r.nx = true ∧ leO x r.ct = true ∧ ∀ i, own x i = true → own x0 i = true
  | 0, _, _, _, h => by cases h
  | n + 1, x0, x, r, h => by
    unfold fixF at h
    split at h
    · cases h
    · rename_i r0 h0
      split at h
      · rename_i hc
        cases h
        rw [Bool.and_eq_true] at hc
        exact ⟨h0, hc.1, hc.2, fun i h => h⟩
      · obtain ⟨h1, h2, h3, h4⟩ := fixF_ok h
        refine ⟨h1, h2, h3, fun i hi => ?_⟩
        have := h4 i hi
        cases e : meetO (some x0) (meetO r0.nx r0.ct) with
        | none => rw [e] at this; exact this
        | some y => rw [e] at this; exact meet_l e i this
section
variable {frf : Bool} {N : PR → Prop} {b : Nat} {out out' : FR} {st st' : Sto} {fz pt fz' pt' : NS} {fl : Fl} {p e : Env}
/-- an outcome, with fewer names that own -/
theorem HoR.weak {r : R} (h : HoR frf N b out st fz pt r) (h1 : ∀ fl, out.nx = some fl → ∃ fl', out'.nx = some fl' ∧ ∀ i, own fl' i = true → own fl i = true) (h2 : ∀ fl, out.bk = some fl → ∃ fl', out'.bk = some fl' ∧ ∀ i, own fl' i = true → own fl i = true)
    (h3 : ∀ fl, out.ct = some fl → ∃ fl', out'.ct = some fl' ∧ ∀ i, own fl' i = true → own fl i = true) (hb : b ≤ st.length) : HoR frf N b out' st fz pt r := by
  cases r with
  | nx e s =>
    obtain ⟨fl, p, a, c, k1, k2, k3, k4, k5⟩ := h
    obtain ⟨fl', e1, e2⟩ := h1 fl k1
    obtain ⟨fz2, w2, g2, r2⟩ := k5.freeze k3 e2
    exact ⟨fl', p, fz2, c, e1, k2, w2, Gr.trans hb k4 g2, r2⟩
  | bk e s =>
    obtain ⟨fl, p, a, c, k1, k2, k3, k4, k5⟩ := h
    obtain ⟨fl', e1, e2⟩ := h2 fl k1
    obtain ⟨fz2, w2, g2, r2⟩ := k5.freeze k3 e2
    exact ⟨fl', p, fz2, c, e1, k2, w2, Gr.trans hb k4 g2, r2⟩
  | ct e s =>
    obtain ⟨fl, p, a, c, k1, k2, k3, k4, k5⟩ := h
    obtain ⟨fl', e1, e2⟩ := h3 fl k1
    obtain ⟨fz2, w2, g2, r2⟩ := k5.freeze k3 e2
    exact ⟨fl', p, fz2, c, e1, k2, w2, Gr.trans hb k4 g2, r2⟩
  | rt d s => exact h
  | ex c d e s => exact h
  | bad => exact h
theorem for_ho {J : Itr} {body : D → Env → Sto → R} {pbody : D → Env → Tr PR} {xs : List D} {x : Fl} {r : FR} {st0 : Sto} {fz0 pt0 : NS} (hJ : ∀ st' fz' pt', Km st0 fz0 pt0 st' fz' pt' → ∀ i, J i st' = some xs[i]?)
    (hb : ∀ (d v : D) (env p : Env) (st : Sto) (fz pt : NS) (N : PR → Prop), Wd st fz pt → Rel b x p env st fz pt → Res st fz pt d v → (pbody v p).wp0 N noX → HoR frf N b r st fz pt (body d env st))
    (l1 : leO x r.nx = true) (l2 : leO x r.ct = true) : ∀ (ws : List D) (i m : Nat) (env p : Env) (st : Sto) (fz pt : NS), Wd st fz pt → Rel b x p env st fz pt → Km st0 fz0 pt0 st fz pt → Ress st fz pt (xs.drop i) ws → ws.length < m → (pFor pbody ws p).wp0 N noX →
      HoR frf N b ⟨meetO (some x) r.bk, none, none⟩ st fz pt (forI J body m i env st) := by
  intro ws
  induction ws with
  | nil =>
    intro i m env p st fz pt w rl km rr lm q
    cases m with
    | zero => omega
    | succ m =>
      unfold forI
      rw [hJ st fz pt km i]
      have : xs[i]? = none := by
        rw [List.getElem?_eq_none_iff]
        have := rr.length
        rw [List.length_drop, List.length_nil] at this
        omega
      rw [this]
      obtain ⟨y, e1, e2⟩ := meetO_l (o1 := some x) (o2 := r.bk) rfl
      obtain ⟨fz2, w2, g2, r2⟩ := rl.freeze w e2
      exact ⟨y, p, fz2, pt, e1, q, w2, g2, r2⟩
  | cons v ws ih =>
    intro i m env p st fz pt w rl km rr lm q
    cases m with
    | zero => rw [List.length_cons] at lm; omega
    | succ m =>
      unfold forI
      rw [hJ st fz pt km i]
      obtain ⟨d, rest, hd, hdv, hrest⟩ : ∃ d rest, xs.drop i = d :: rest ∧ Res st fz pt d v ∧ Ress st fz pt rest ws := by
        cases hx : xs.drop i with
        | nil => rw [hx] at rr; cases rr
        | cons d rest => rw [hx] at rr; cases rr with | cons h t => exact ⟨d, rest, rfl, h, t⟩
      have e1 : xs[i]? = some d := by
        have := List.getElem?_drop (xs := xs) (i := i) (j := 0)
        rw [hd] at this
        simpa using this.symm
      have e2 : xs.drop (i + 1) = rest := by
        rw [← List.tail_drop, hd]
        rfl
      rw [e1]
      dsimp only
      unfold pFor at q
      rw [wp_bnd0] at q
      have H := hb d v env p st fz pt _ w rl hdv q
      have next : ∀ {e s fl p' fz' pt'}, (∀ i, own x i = true → own fl i = true) → (pFor pbody ws p').wp0 N noX → Wd s fz' pt' → Gr b st fz pt s fz' pt' → Rel b fl p' e s fz' pt' → HoR frf N b ⟨meetO (some x) r.bk, none, none⟩ st fz pt (forI J body m (i + 1) e s) := by
        intro e s fl p' fz' pt' le q2 w2 g2 r2
        obtain ⟨fz3, w3, g3, r3⟩ := r2.freeze w2 le
        have g23 := Gr.trans rl.base g2 g3
        exact (ih (i + 1) m e p' s fz3 pt' w3 r3 (km.trans g23.km) (by rw [e2]; exact hrest.mono g23.km) (by rw [List.length_cons] at lm; omega) q2).pre rl.base g23
      cases hr : body d env st with
      | nx e s =>
        rw [hr] at H
        obtain ⟨fl, p', fz', pt', k1, k2, k3, k4, k5⟩ := H
        exact next (leO_own l1 k1) k2 k3 k4 k5
      | ct e s =>
        rw [hr] at H
        obtain ⟨fl, p', fz', pt', k1, k2, k3, k4, k5⟩ := H
        exact next (leO_own l2 k1) k2 k3 k4 k5
      | bk e s =>
        rw [hr] at H
        obtain ⟨fl, p', fz', pt', k1, k2, k3, k4, k5⟩ := H
        obtain ⟨y, f1, f2⟩ := meetO_r (o1 := some x) k1
        obtain ⟨fz2, w2, g2, r2⟩ := k5.freeze k3 f2
        exact ⟨y, p', fz2, pt', f1, k2, w2, Gr.trans rl.base k4 g2, r2⟩
      | rt d s => rw [hr] at H; exact H
      | ex c d e s => rw [hr] at H; exact H
      | bad => rw [hr] at H; exact H
theorem whl_ho {test : Env → Sto → Out Bool} {ptest : Env → Tr Bool} {body : Env → Sto → R} {pbody : Env → Tr PR} {x : Fl} {r : FR} {l : List Nat}
    (ht : ∀ (env p : Env) (st : Sto) (fz pt : NS) (Q : Bool → Prop) (X : Str → D → Prop), Wd st fz pt → Rel b (dropL l x) p env st fz pt → (ptest p).wp0 Q X → Ho RB Q X st fz pt (test env st))
    (hb : ∀ (env p : Env) (st : Sto) (fz pt : NS) (N : PR → Prop), Wd st fz pt → Rel b x p env st fz pt → (pbody p).wp0 N noX → HoR frf N b r st fz pt (body env st))
    (l1 : leO x r.nx = true) (l2 : leO x r.ct = true) : ∀ (m : Nat) (env p : Env) (st : Sto) (fz pt : NS), Wd st fz pt → Rel b x p env st fz pt → (pWhl ptest pbody m p).wp0 N noX →
      HoR frf N b ⟨meetO (some x) r.bk, none, none⟩ st fz pt (whileI test body m env st) := by
  intro m
  induction m with
  | zero => intro env p st fz pt w rl q; exact q.elim
  | succ m ih =>
    intro env p st fz pt w rl q
    unfold pWhl at q
    rw [wp_toR0] at q
    unfold whileI
    refine toR_back (l := l) w rl (fun fzA wA rA => ht env p st fzA pt _ _ wA rA q) fun k st1 fzA pt1 v _ w1 r1 q1 rv => ?_
    have rv : k = v := rv
    subst rv
    cases k with
    | false =>
      obtain ⟨y, e1, e2⟩ := meetO_l (o1 := some x) (o2 := r.bk) rfl
      obtain ⟨fz2, w2, g2, r2⟩ := r1.freeze w1 e2
      exact ⟨y, p, fz2, pt1, e1, q1, w2, g2, r2⟩
    | true =>
      have q1 : ((pbody p).bnd _).wp0 N noX := q1
      rw [wp_bnd0] at q1
      have H := hb env p st1 fz pt1 _ w1 r1 q1
      have next : ∀ {e s fl p' fz' pt'}, (∀ i, own x i = true → own fl i = true) → (pWhl ptest pbody m p').wp0 N noX → Wd s fz' pt' → Gr b st1 fz pt1 s fz' pt' → Rel b fl p' e s fz' pt' → HoR frf N b ⟨meetO (some x) r.bk, none, none⟩ st1 fz pt1 (whileI test body m e s) := by
        intro e s fl p' fz' pt' le q2 w2 g2 r2
        obtain ⟨fz3, w3, g3, r3⟩ := r2.freeze w2 le
        exact (ih e p' s fz3 pt' w3 r3 q2).pre r1.base (Gr.trans r1.base g2 g3)
      simp only [if_true]
      cases hr : body env st1 with
      | nx e s =>
        rw [hr] at H
        obtain ⟨fl, p', fz', pt', k1, k2, k3, k4, k5⟩ := H
        exact next (leO_own l1 k1) k2 k3 k4 k5
      | ct e s =>
        rw [hr] at H
        obtain ⟨fl, p', fz', pt', k1, k2, k3, k4, k5⟩ := H
        exact next (leO_own l2 k1) k2 k3 k4 k5
      | bk e s =>
        rw [hr] at H
        obtain ⟨fl, p', fz', pt', k1, k2, k3, k4, k5⟩ := H
        obtain ⟨y, f1, f2⟩ := meetO_r (o1 := some x) k1
        obtain ⟨fz2, w2, g2, r2⟩ := k5.freeze k3 f2
        exact ⟨y, p', fz2, pt', f1, k2, w2, Gr.trans r1.base k4 g2, r2⟩
      | rt d s => rw [hr] at H; exact H
      | ex c d e s => rw [hr] at H; exact H
      | bad => rw [hr] at H; exact H
end
section
variable {fresh : Str → Bool} {frf : Bool} {C : Cal} {PC : PCal}
def PSo (fresh : Str → Bool) (frf : Bool) (C : Cal) (PC : PCal) (s : S) : Prop := ∀ {b : Nat} {fl : Fl} {p env : Env} {st : Sto} {fz pt : NS} {N : PR → Prop} {out : FR}, Wd st fz pt → Rel b fl p env st fz pt → flS fresh frf s fl = some out → (pS PC s p).wp0 N noX → HoR frf N b out st fz pt (evS C s env st)
def PSs_ (fresh : Str → Bool) (frf : Bool) (C : Cal) (PC : PCal) (s : List S) : Prop := ∀ {b : Nat} {fl : Fl} {p env : Env} {st : Sto} {fz pt : NS} {N : PR → Prop} {out : FR}, Wd st fz pt → Rel b fl p env st fz pt → flSs fresh frf s fl = some out → (pSs PC s p).wp0 N noX → HoR frf N b out st fz pt (evSs C s env st)
variable (K : CalOk fresh C PC)
include K
theorem test_ho {t : E} {b : Nat} {x : Fl} (env p : Env) (st : Sto) (fz pt : NS) (Q : Bool → Prop) (X : Str → D → Prop) (w : Wd st fz pt) (r : Rel b (dropL (esc t) x) p env st fz pt) (q : (pTest PC t p).wp0 Q X) : Ho RB Q X st fz pt (test C t env st) := by
  unfold pTest at q
  rw [wp_bnd0] at q
  unfold test
  refine ((soundE K t) w r own_dropL_out q).top.bnd fun d st1 fz1 pt1 v x q1 r1 => ?_
  obtain ⟨k, e, q2⟩ := ofO_wp0 q1
  rw [truthT x.wd r1 e]
  exact ⟨fz1, pt1, k, Xt.refl x.wd, q2, rfl⟩
/-- an expression whose value is kept as a name's, or thrown away -/
theorem keep_ho {e : E} {b : Nat} {fl : Fl} {p env : Env} {st : Sto} {fz pt : NS} {N : PR → Prop} {out : FR} {f : D → Sto → R} {g : D → Tr PR} (w : Wd st fz pt) (r : Rel b fl p env st fz pt) (q : ((pE PC e p).toR p g).wp0 N noX)
    (k : ∀ d st0 fz0 pt0 st' fz' pt' v, Wd st0 fz0 pt0 → Rel b (keepL e fl) p env st0 fz0 pt0 → Xt st0 fz0 pt0 st' fz' pt' → (g v).wp0 N noX → RF (frE fresh e) st0.length st' fz' pt' d v → HoR frf N b out st' fz' pt' (f d st')) :
    HoR frf N b out st fz pt ((evE C e env st).toR env f) := by
  rw [wp_toR0] at q
  cases hf : flatE e with
  | true =>
    have hk : keepL e fl = fl := by unfold keepL; rw [hf]; rfl
    rw [hk] at k
    refine toR_back (l := esc e) w r (fun fzA wA rA => soundE K e wA rA own_dropL_out q) fun d st1 fzA pt1 v he w1 r1 q1 rv => ?_
    have ind := flatE_ok hf he
    have rv0 : Res st1 fzA pt1 d v ∨ ∃ n, Held st1 fzA pt1 d v n := by
      unfold RF at rv
      split at rv
      · exact Frs.top rv
      · exact .inl rv
    have rv1 : Res st1 fz pt1 d v := by
      rcases rv0 with h | ⟨n, h1, h2, _⟩
      · exact ind.to h
      · exact absurd h1 (ind.nl n)
    have box : noBox v = true := ind.bx rv1
    refine k d st1 fz pt1 st1 fz pt1 v w1 r1 (Xt.refl w1) q1 ?_
    unfold RF
    split
    · exact .inl ⟨box, rv1⟩
    · exact rv1
  | false =>
    have hk : keepL e fl = dropL (esc e) fl := by unfold keepL; rw [hf]; rfl
    rw [hk] at k
    obtain ⟨fzA, wA, gA, rA⟩ := r.freeze (fl' := dropL (esc e) fl) w own_dropL_mono
    refine (toR_ho wA rA (soundE K e wA rA own_dropL_out q) fun d st1 fz1 pt1 v x q1 rv => ?_).pre r.base gA
    exact k d st fzA pt st1 fz1 pt1 v wA rA x q1 rv
/-- .. whose value goes into a list or a dict -/
theorem keep_res {e : E} {b : Nat} {fl : Fl} {p env : Env} {st : Sto} {fz pt : NS} {N : PR → Prop} {out : FR} {f : D → Sto → R} {g : D → Tr PR} (w : Wd st fz pt) (r : Rel b fl p env st fz pt) (q : ((pE PC e p).toR p g).wp0 N noX)
    (k : ∀ d st' fz' pt' v, Wd st' fz' pt' → Rel b (keepL e fl) p env st' fz' pt' → (g v).wp0 N noX → Res st' fz' pt' d v → HoR frf N b out st' fz' pt' (f d st')) :
    HoR frf N b out st fz pt ((evE C e env st).toR env f) := by
  refine keep_ho K w r q fun d st0 fz0 pt0 st1 fz1 pt1 v w0 r0 x q1 rv => ?_
  cases hf : frE fresh e with
  | false =>
    rw [hf] at rv
    exact k d st1 fz1 pt1 v x.wd (r0.mono w0 x) q1 rv
  | true =>
    rw [hf] at rv
    rcases rv with ⟨h1, h2⟩ | ⟨n, h1, h2, h3⟩
    · exact k d st1 fz1 pt1 v x.wd (r0.mono w0 x) q1 h2
    · obtain ⟨fz2, x2, r2, le⟩ := Frs.freeze (.inr ⟨n, h1, h2, h3⟩) x
      have g : Gr b st1 fz1 pt1 st1 fz2 pt1 := ⟨Nat.le_refl _, fun _ _ _ => rfl, fun m f => ⟨le m f, rfl⟩, fun m f l => x.fz1 m (x2.fz2 m f (Nat.lt_of_lt_of_le l r0.base)), fun _ z => z, fun _ z _ => z⟩
      exact (k d st1 fz2 pt1 v x2.wd (r0.mono w0 x2) q1 r2).pre (Nat.le_trans r0.base x.len) g
end
end Ev
namespace Ev
open PySem
section
variable {fresh : Str → Bool} {frf : Bool} {C : Cal} {PC : PCal}
theorem lstAt_eq {p : Env} {i : Nat} {vs : List D} (h : lstAt p i = some vs) : p[i]? = some (some (.lst vs)) := by
  unfold lstAt at h
  split at h
  · rename_i e
    cases h
    exact e
  · cases h
theorem setMany2 {i j : Nat} {d1 d2 : D} {env : Env} : setMany [i, j] [d1, d2] env = some ((env.set i (some d1)).set j (some d2)) := rfl
theorem own_app_l {l1 l2 : List Nat} {fl : Fl} : ∀ i ∈ l1, own (dropL (l1 ++ l2) fl) i = false := fun i hi => own_dropL_out i (List.mem_append_left _ hi)
theorem own_app_r {l1 l2 : List Nat} {fl : Fl} : ∀ i ∈ l2, own (dropL (l1 ++ l2) fl) i = false := fun i hi => own_dropL_out i (List.mem_append_right _ hi)
variable (K : CalOk fresh C PC)
include K
/-- what an expression changes: it is not one that changes a list -/
theorem ex_ho {e : E} (hx : pX PC e = fun env => (pE PC e env).toR env fun _ => .ret (.nx env)) : ∀ {b : Nat} {fl : Fl} {p env : Env} {st : Sto} {fz pt : NS} {N : PR → Prop} {out : FR}, Wd st fz pt → Rel b fl p env st fz pt → out = ⟨some (keepL e fl), none, none⟩ → (pS PC (.ex e) p).wp0 N noX → HoR frf N b out st fz pt (evS C (.ex e) env st) := by
  intro b fl p env st fz pt N out w r hf q
  change (pX PC e p).wp0 N noX at q
  rw [hx] at q
  rw [st_ex]
  subst hf
  exact keep_res K w r q fun d st1 fz1 pt1 v w1 r1 q1 rv => HoR.nx w1 rfl r1 q1
/-- a list that is changed is there, by name -/
theorem own_lst {b : Nat} {fl : Fl} {p env : Env} {st : Sto} {fz pt : NS} {i : Nat} {vs : List D} (r : Rel b fl p env st fz pt) (o : own fl i = true) (hv : p[i]? = some (some (.lst vs))) : ∃ n xs, env[i]? = some (some (.loc n)) ∧ ¬ pt n ∧ st[n]? = some (.lst xs) ∧ Ress st fz pt xs vs := by
  obtain ⟨d, e1, e2, _⟩ := r.val i _ hv
  rcases e2 o with ⟨h1, _⟩ | ⟨n, h1, h2, h3, h4, h5⟩
  · cases h1
  · rcases h5 with ⟨xs, us, ev, g, rx⟩ | ⟨ks, xs, us, ev, g, rx⟩
    · cases ev
      subst h3
      exact ⟨n, xs, e1, h4, g, rx⟩
    · cases ev
theorem keepL_own {e : E} {fl : Fl} : ∀ i, own (keepL e fl) i = true → own fl i = true := by
  intro i h
  unfold keepL at h
  split at h
  · exact h
  · exact (own_dropL h).1
theorem app_eq {i : Nat} {c : E} {env : Env} {st : Sto} {n : Nat} {xs : List D} (e1 : env[i]? = some (some (.loc n))) (g : st[n]? = some (.lst xs)) : evS C (.ex (.app (.v i) c)) env st = (evE C c env st).toR env fun y st => (appP (.loc n) y st).toR env fun _ st => .nx env st := by
  rw [st_ex, ev_app, ev_v, e1]
  dsimp only [bnd_oks]
  rw [isLst_loc g, if_pos rfl]
  cases evE C c env st <;> rfl
theorem ext_eq {i : Nat} {c : E} {env : Env} {st : Sto} {n : Nat} {xs : List D} (e1 : env[i]? = some (some (.loc n))) (g : st[n]? = some (.lst xs)) : evS C (.ex (.ext (.v i) c)) env st = (evE C c env st).toR env fun y st => (extP (.loc n) y st).toR env fun _ st => .nx env st := by
  rw [st_ex, ev_ext, ev_v, e1]
  dsimp only [bnd_oks]
  rw [isLst_loc g, if_pos rfl]
  cases evE C c env st <;> rfl
theorem app_ho {i : Nat} {c : E} {b : Nat} {fl : Fl} {p env : Env} {st : Sto} {fz pt : NS} {N : PR → Prop} {out : FR} (w : Wd st fz pt) (r : Rel b fl p env st fz pt) (hf : flS fresh frf (.ex (.app (.v i) c)) fl = some out) (q : (pS PC (.ex (.app (.v i) c)) p).wp0 N noX) : HoR frf N b out st fz pt (evS C (.ex (.app (.v i) c)) env st) := by
  unfold flS at hf
  split at hf
  case isFalse => cases hf
  rename_i ho
  cases hf
  change Tr.wp0 N noX (match lstAt p i with
    | some xs => (pE PC c p).toR p fun y => if xs.length < most then .ret (.nx (p.set i (some (.lst (xs ++ [y]))))) else .bad
    | none => .bad) at q
  split at q
  case h_2 => exact q.elim
  rename_i vs hl
  have hv := lstAt_eq hl
  obtain ⟨n, xs, e1, hp, g, rx⟩ := own_lst K r (keepL_own K i ho) hv
  rw [app_eq K e1 g]
  refine keep_res K w r q fun d st1 fz1 pt1 v w1 r1 q1 rv => ?_
  split at q1
  case isFalse => exact q1.elim
  rename_i hs
  obtain ⟨n2, xs2, e2, hp2, g2, rx2⟩ := own_lst K r1 ho hv
  have hn : n2 = n := by rw [e1] at e2; cases e2; rfl
  subst hn
  rw [app_loc g2 (by rw [rx2.length]; exact hs)]
  obtain ⟨_, _, e3, _, _, _, w3, g3, r3⟩ := r1.put w1 ho hv (rx2.append (.one rv))
  rw [e2] at e3
  cases e3
  exact ⟨_, _, fz1, pt1, rfl, q1, w3, g3, r3⟩
theorem ext_ho {i : Nat} {c : E} {b : Nat} {fl : Fl} {p env : Env} {st : Sto} {fz pt : NS} {N : PR → Prop} {out : FR} (w : Wd st fz pt) (r : Rel b fl p env st fz pt) (hf : flS fresh frf (.ex (.ext (.v i) c)) fl = some out) (q : (pS PC (.ex (.ext (.v i) c)) p).wp0 N noX) : HoR frf N b out st fz pt (evS C (.ex (.ext (.v i) c)) env st) := by
  unfold flS at hf
  split at hf
  case isFalse => cases hf
  rename_i ho
  cases hf
  change Tr.wp0 N noX (match lstAt p i with
    | some xs => (pE PC c p).toR p fun y => match y with
      | .lst ys => if small (xs.length + ys.length) then .ret (.nx (p.set i (some (.lst (xs ++ ys))))) else .bad
      | _ => .bad
    | none => .bad) at q
  split at q
  case h_2 => exact q.elim
  rename_i vs hl
  have hv := lstAt_eq hl
  obtain ⟨n, xs, e1, hp, g, rx⟩ := own_lst K r (own_dropL_mono i ho) hv
  rw [ext_eq K e1 g]
  rw [wp_toR0] at q
  obtain ⟨fzA, wA, gA, rA⟩ := r.freeze (fl' := dropL (rdOf c (esc c)) fl) w own_dropL_mono
  refine (toR_ho wA rA (rd_of (soundE K c) wA rA own_dropL_out q) fun d st1 fz1 pt1 v x q1 rv => ?_).pre r.base gA
  have rv : Top st1 fz1 pt1 d v := rv
  have r1 := rA.mono wA x
  split at q1
  case h_2 => exact q1.elim
  rename_i us
  split at q1
  case isFalse => exact q1.elim
  rename_i hs
  obtain ⟨ys, ry, ly⟩ := rv.lst x.wd
  obtain ⟨n2, xs2, e2, hp2, g2, rx2⟩ := own_lst K r1 ho hv
  have hn : n2 = n := by rw [e1] at e2; cases e2; rfl
  subst hn
  have ex : extP (.loc n2) d st1 = .ok .non (st1.set n2 (.lst (xs2 ++ ys))) := by
    unfold extP
    dsimp only
    rw [g2, ly.items]
    dsimp only
    rw [rx2.length, ry.length, if_pos hs]
    rfl
  rw [ex]
  obtain ⟨_, _, e3, _, _, _, w3, g3, r3⟩ := r1.put x.wd ho hv (rx2.append ry)
  rw [e2] at e3
  cases e3
  exact ⟨_, _, fz1, pt1, rfl, q1, w3, g3, r3⟩
theorem put_ho {j : Nat} {ie e : E} {b : Nat} {fl : Fl} {p env : Env} {st : Sto} {fz pt : NS} {N : PR → Prop} {out : FR} (w : Wd st fz pt) (r : Rel b fl p env st fz pt) (hf : flS fresh frf (.asg (.s (.v j) ie) e) fl = some out) (q : (pS PC (.asg (.s (.v j) ie) e) p).wp0 N noX) : HoR frf N b out st fz pt (evS C (.asg (.s (.v j) ie) e) env st) := by
  unfold flS at hf
  split at hf
  case isFalse => cases hf
  rename_i ho
  cases hf
  change ((pE PC e p).toR p fun d => (Tr.noEx (pG PC (.s (.v j) ie) d p)).bnd fun env => .ret (.nx env)).wp0 N noX at q
  rw [wp_toR0] at q
  rw [st_asg]
  obtain ⟨fzA, wA, gA, rA⟩ := r.freeze (fl' := dropL (rdOf ie (esc ie)) (dropL (esc e) fl)) w (fun i h => (own_dropL (own_dropL h).1).1)
  have h1 : ∀ i ∈ esc e, own (dropL (rdOf ie (esc ie)) (dropL (esc e) fl)) i = false := own_mono (fl := dropL (esc e) fl) (fun i h => (own_dropL h).1) own_dropL_out
  refine (toR_ho wA rA (soundE K e wA rA h1 q).res fun d st1 fz1 pt1 v x q1 rv => ?_).pre r.base gA
  have rv : Res st1 fz1 pt1 d v := rv
  have r1 := rA.mono wA x
  rw [wp_bnd0] at q1
  unfold pG at q1
  rw [wp_noEx0, wp_bnd0, wp_noEx0] at q1
  rw [set_s]
  have H := rd_of (soundE K ie) x.wd r1 own_dropL_out q1
  cases he : evE C ie env st1 with
  | bad => rw [he] at H; exact H.elim
  | ex c v s => rw [he] at H; obtain ⟨_, _, _, _, z, _⟩ := H; exact z.elim
  | ok y st2 =>
    rw [he] at H
    obtain ⟨fz2, pt2, v2, x2, q2, rt⟩ := H
    split at q2
    case h_2 => exact q2.elim
    rename_i k
    split at q2
    case h_2 => exact q2.elim
    rename_i vs hl
    split at q2
    case h_2 => exact q2.elim
    rename_i qq hq
    have hy := Top.int rt
    subst hy
    have hv := lstAt_eq hl
    have r2 := r1.mono x.wd x2
    obtain ⟨n, xs, e1, hp, g, rx⟩ := own_lst K r2 ho hv
    have hev : evE C (.v j) env st1 = .ok (.loc n) st1 := by rw [ev_v, e1]
    rw [hev]
    have hs : setItem (.loc n) (.int k) d st2 = some (st2.set n (.lst (xs.set qq d))) := by
      unfold setItem
      dsimp only
      rw [g]
      dsimp only
      rw [rx.length, hq]
      rfl
    obtain ⟨_, _, e3, _, _, _, w3, g3, r3⟩ := r2.put x2.wd ho hv (rx.set qq (rv.mono (x2.km x.wd)))
    rw [e1] at e3
    cases e3
    simp only [noEx_ok, bnd_oks, he]
    rw [hs]
    simp only [opt_some, bnd_oks, noEx_ok, toR_ok]
    exact ⟨_, _, fz2, pt2, rfl, q2, w3, Gr.trans r1.base (x2.gr r1.base x.wd) g3, r3⟩
end
end Ev
namespace Ev
open PySem
section
variable {fresh : Str → Bool} {frf : Bool} {C : Cal} {PC : PCal}
section
variable (K : CalOk fresh C PC)
include K
theorem ret_ho {e : E} {b : Nat} {fl : Fl} {p env : Env} {st : Sto} {fz pt : NS} {N : PR → Prop} {out : FR} (w : Wd st fz pt) (r : Rel b fl p env st fz pt) (hf : okRet fresh frf e fl = true) (q : (pS PC (.ret (some e)) p).wp0 N noX) : HoR frf N b out st fz pt (evS C (.ret (some e)) env st) := by
  change ((pE PC e p).toR p fun d => .ret (.rt d)).wp0 N noX at q
  rw [st_ret]
  have plain : (frf = true → frE fresh e = true) → HoR frf N b out st fz pt ((evE C e env st).toR env fun d st => .rt d st) := by
    intro h
    rw [wp_toR0] at q
    obtain ⟨fzA, wA, gA, rA⟩ := r.freeze (fl' := dropL (esc e) fl) w own_dropL_mono
    cases frf with
    | false =>
      refine (toR_ho wA rA (soundE K e wA rA own_dropL_out q).res fun d st1 fz1 pt1 v x q1 rv => ?_).pre r.base gA
      exact ⟨fz1, pt1, v, q1, x.wd, Gr.refl, rv⟩
    | true =>
      refine (toR_ho wA rA (soundE K e wA rA own_dropL_out q) fun d st1 fz1 pt1 v x q1 rv => ?_).pre r.base gA
      rw [h rfl] at rv
      exact ⟨fz1, pt1, v, q1, x.wd, Gr.refl, Frs.weak rv r.base⟩
  cases hfr : frf with
  | false => rw [← hfr]; exact plain (fun z => by rw [hfr] at z; cases z)
  | true =>
    rw [← hfr]
    unfold okRet at hf
    rw [hfr] at hf
    cases e with
    | v i =>
      have hf : own fl i = true := hf
      rw [wp_toR0] at q
      unfold pE at q
      split at q
      · rename_i v hv
        obtain ⟨d, e1, e2, _⟩ := r.val i v hv
        rw [ev_v, e1]
        rw [hfr]
        exact ⟨fz, pt, v, q, w, Gr.refl, e2 hf⟩
      · exact q.elim
    | _ => exact plain (fun _ => hf)
mutual
theorem soundS : ∀ s : S, PSo fresh frf C PC s
  | .asg (.n i) e => by
    rename_i b fl p env st fz pt N out
    intro w r hf q
    unfold flS at hf
    cases hf
    change ((pE PC e p).toR p fun d => (Tr.noEx (pG PC (.n i) d p)).bnd fun env => .ret (.nx env)).wp0 N noX at q
    rw [st_asg]
    refine keep_ho K w r q fun d st0 fz0 pt0 st1 fz1 pt1 v w0 r0 x q1 rv => ?_
    exact HoR.nx x.wd rfl (Rel.setRF w0 r0 x rv) q1
  | .asg (.t ts) e => by
    rename_i b fl p env st fz pt N out
    intro w r hf q
    unfold flS at hf
    rw [Option.map_eq_some_iff] at hf
    obtain ⟨fl1, hf, rfl⟩ := hf
    change ((pE PC e p).toR p fun d => (Tr.noEx (pG PC (.t ts) d p)).bnd fun env => .ret (.nx env)).wp0 N noX at q
    rw [wp_toR0] at q
    rw [st_asg]
    obtain ⟨fzA, wA, gA, rA⟩ := r.freeze (fl' := dropL (esc e) fl) w own_dropL_mono
    refine (toR_ho wA rA (soundE K e wA rA own_dropL_out q).res fun d st1 fz1 pt1 v x q1 rv => ?_).pre r.base gA
    rw [wp_bnd0, wp_noEx0] at q1
    obtain ⟨p', e', q2, s2, r2⟩ := RelG (C := C) _ hf (rA.mono wA x) rv q1
    rw [s2, noEx_ok, toR_ok]
    exact HoR.nx x.wd rfl r2 q2
  | .asg (.s o i) e => by
    rename_i b fl p env st fz pt N out
    intro w r hf q
    cases o with
    | v j => exact put_ho K w r hf q
    | _ => unfold flS at hf; cases hf
  | .par is es => by
    rename_i b fl p env st fz pt N out
    intro w r hf q
    match is, es, hf, q with
    | [i, j], [a, c], hf, q =>
      unfold flS at hf
      cases hf
      change ((pEs PC [a, c] p).toR p fun ds => match setMany [i, j] ds p with
        | some env => .ret (.nx env)
        | none => .bad).wp0 N noX at q
      rw [wp_toR0] at q
      unfold pEs at q
      rw [wp_bnd0] at q
      rw [st_par]
      obtain ⟨fzA, wA, gA, rA⟩ := r.freeze (fl' := dropL (esc a ++ esc c) fl) w own_dropL_mono
      have H := soundE K a wA rA own_app_l q
      rw [evs_cons]
      cases ha : evE C a env st with
      | bad => rw [ha] at H; exact H.elim
      | ex cc d s =>
        rw [ha] at H
        obtain ⟨fz1, pt1, v, x, z, rv⟩ := H
        exact (HoR.exc (fzA := fz) wA rA x z rv).pre r.base gA
      | ok d1 s1 =>
        rw [ha] at H
        obtain ⟨fz1, pt1, v1, x1, q1, rv1⟩ := H
        rw [wp_bnd0] at q1
        unfold pEs at q1
        rw [wp_bnd0] at q1
        have r1 := rA.mono wA x1
        have H2 := soundE K c x1.wd r1 own_app_r q1
        rw [bnd_oks, evs_cons]
        cases hc : evE C c env s1 with
        | bad => rw [hc] at H2; exact H2.elim
        | ex cc d s =>
          rw [hc] at H2
          obtain ⟨fz2, pt2, v, x, z, rv⟩ := H2
          exact ((HoR.exc (fzA := fz) x1.wd r1 x z rv).pre rA.base (x1.gr rA.base wA)).pre r.base gA
        | ok d2 s2 =>
          rw [hc] at H2
          obtain ⟨fz2, pt2, v2, x2, q2, rv2⟩ := H2
          have R1 := Rel.setRF (i := i) wA rA x1 rv1
          have R2 := Rel.setRF (i := j) x1.wd R1 x2 rv2
          exact ⟨_, _, fz2, pt2, rfl, q2, x2.wd, Gr.trans r.base gA (Gr.trans rA.base (x1.gr rA.base wA) (x2.gr r1.base x1.wd)), R2⟩
  | .ex e => by
    rename_i b fl p env st fz pt N out
    intro w r hf q
    match e, hf, q with
    | .app (.v i) c, hf, q => exact app_ho K w r hf q
    | .ext (.v i) c, hf, q => exact ext_ho K w r hf q
    | .app (.c _) c, hf, q => exact q.elim
    | .c d, hf, q => exact ex_ho K rfl w r (by unfold flS at hf; cases hf; rfl) q
    | .v d, hf, q => exact ex_ho K rfl w r (by unfold flS at hf; cases hf; rfl) q
    | .g d, hf, q => exact ex_ho K rfl w r (by unfold flS at hf; cases hf; rfl) q
    | .bin .., hf, q => exact ex_ho K rfl w r (by unfold flS at hf; cases hf; rfl) q
    | .neg .., hf, q => exact ex_ho K rfl w r (by unfold flS at hf; cases hf; rfl) q
    | .not .., hf, q => exact ex_ho K rfl w r (by unfold flS at hf; cases hf; rfl) q
    | .and .., hf, q => exact ex_ho K rfl w r (by unfold flS at hf; cases hf; rfl) q
    | .or .., hf, q => exact ex_ho K rfl w r (by unfold flS at hf; cases hf; rfl) q
    | .ite .., hf, q => exact ex_ho K rfl w r (by unfold flS at hf; cases hf; rfl) q
    | .cmp .., hf, q => exact ex_ho K rfl w r (by unfold flS at hf; cases hf; rfl) q
    | .chain .., hf, q => exact ex_ho K rfl w r (by unfold flS at hf; cases hf; rfl) q
    | .tup .., hf, q => exact ex_ho K rfl w r (by unfold flS at hf; cases hf; rfl) q
    | .lst .., hf, q => exact ex_ho K rfl w r (by unfold flS at hf; cases hf; rfl) q
    | .dct .., hf, q => exact ex_ho K rfl w r (by unfold flS at hf; cases hf; rfl) q
    | .ix .., hf, q => exact ex_ho K rfl w r (by unfold flS at hf; cases hf; rfl) q
    | .sl .., hf, q => exact ex_ho K rfl w r (by unfold flS at hf; cases hf; rfl) q
    | .call .., hf, q => exact ex_ho K rfl w r (by unfold flS at hf; cases hf; rfl) q
    | .callv .., hf, q => exact ex_ho K rfl w r (by unfold flS at hf; cases hf; rfl) q
    | .pr .., hf, q => exact ex_ho K rfl w r (by unfold flS at hf; cases hf; rfl) q
    | .isi .., hf, q => exact ex_ho K rfl w r (by unfold flS at hf; cases hf; rfl) q
    | .comp .., hf, q => exact ex_ho K rfl w r (by unfold flS at hf; cases hf; rfl) q
    | .app a c, hf, q =>
      by_cases h : ∃ i, a = .v i
      · obtain ⟨i, rfl⟩ := h; exact app_ho K w r hf q
      · cases a <;> first | exact q.elim | exact absurd ⟨_, rfl⟩ h
    | .ext a c, hf, q =>
      by_cases h : ∃ i, a = .v i
      · obtain ⟨i, rfl⟩ := h; exact ext_ho K w r hf q
      · cases a <;> first | exact q.elim | exact absurd ⟨_, rfl⟩ h
  | .iff t a c => by
    rename_i b fl p env st fz pt N out
    intro w r hf q
    unfold flS at hf
    rw [Option.bind_eq_some_iff] at hf
    obtain ⟨r1, h1, hf⟩ := hf
    rw [Option.map_eq_some_iff] at hf
    obtain ⟨r2, h2, rfl⟩ := hf
    change ((pTest PC t p).toR p fun k => if k then pSs PC a p else pSs PC c p).wp0 N noX at q
    rw [wp_toR0] at q
    show HoR frf N b _ st fz pt ((test C t env st).toR env fun k st => if k then evSs C a env st else evSs C c env st)
    refine toR_back (l := esc t) w r (fun fzA wA rA => test_ho K env p st fzA pt _ _ wA rA q) fun k st1 fzA pt1 v _ w1 rr1 q1 rv => ?_
    have rv : k = v := rv
    subst rv
    cases k with
    | true => exact (soundSs a w1 rr1 h1 q1).weak (fun fl e => meetO_l e) (fun fl e => meetO_l e) (fun fl e => meetO_l e) rr1.base
    | false => exact (soundSs c w1 rr1 h2 q1).weak (fun fl e => meetO_r e) (fun fl e => meetO_r e) (fun fl e => meetO_r e) rr1.base
  | .for_ t k src body => by
    rename_i b fl p env st fz pt N out
    intro w r hf q
    unfold flS at hf
    rw [Option.map_eq_some_iff] at hf
    obtain ⟨⟨x, rb⟩, hx, rfl⟩ := hf
    obtain ⟨g1, g2, g3, g4⟩ := fixF_ok hx
    change ((pEs PC src p).toR p fun ds => match pIt k ds with
      | none => .bad
      | some xs => if small xs.length then pFor (fun d env => match setT t d env with
        | none => .bad
        | some env => pSs PC body env) xs p else .bad).wp0 N noX at q
    rw [wp_toR0] at q
    rw [st_for]
    obtain ⟨fzA, wA, gA, rA⟩ := r.freeze (fl' := dropL (escs src) fl) w own_dropL_mono
    refine (toR_ho wA rA (soundEs K src wA rA own_dropL_out q) fun ds st1 fz1 pt1 vs x1 q1 rv => ?_).pre r.base gA
    have rv : Ress st1 fz1 pt1 ds vs := rv
    split at q1
    case h_1 => exact q1.elim
    rename_i ws hw
    split at q1
    case isFalse => exact q1.elim
    rename_i hs
    have hl : ws.length ≤ 1000000 := of_decide_eq_true hs
    obtain ⟨J, xs, j1, j2, j3, j4⟩ := itT x1.wd rv.tops hw
    rw [j1]
    dsimp only
    have rA1 := rA.mono wA x1
    obtain ⟨fz2, w2, gg2, r2⟩ := rA1.freeze (fl' := x) x1.wd (fun i hi => own_dropT t (g4 i hi))
    -- a list that is walked over no longer changes
    have hfz : ∀ n, D.loc n ∈ ds → fz2 n ∨ pt1 n := by
      intro n hn
      obtain ⟨j, hj⟩ := List.getElem?_of_mem hn
      obtain ⟨u, hu, r0⟩ := rv.get' hj
      cases r0 with
      | ll f _ _ => exact .inl (gg2.fz1 _ f).1
      | ld f _ _ => exact .inl (gg2.fz1 _ f).1
      | pot z => exact .inr z
    refine (for_ho (frf := frf) (N := N) (b := b) (st0 := st1) (fz0 := fz2) (pt0 := pt1) (x := x) (r := rb) (xs := xs) (pbody := fun d env => match setT t d env with
        | none => .bad
        | some env => pSs PC body env) (fun st' fz' pt' km i => j3 st' (fun n hn => ?_) i) (fun d v env p st fz pt N w rr rd q => ?_) g2 g3 ws 0 turns env p st1 fz2 pt1 w2 r2 (Km.refl _ _ _) (by rw [List.drop_zero]; exact j2.mono gg2.km) (by unfold turns; omega) q1).pre rA1.base gg2
    · rcases hfz n hn with h | h
      · exact (km.fz n h).2
      · exact absurd h (j4 n hn).1
    · split at q
      case h_1 => exact q.elim
      rename_i p2 hp2
      obtain ⟨e2, s2, R2⟩ := rr.setT t rd hp2
      rw [s2]
      exact soundSs body w R2 g1 q
  | .whl t body => by
    rename_i b fl p env st fz pt N out
    intro w r hf q
    unfold flS at hf
    rw [Option.map_eq_some_iff] at hf
    obtain ⟨⟨x, rb⟩, hx, rfl⟩ := hf
    obtain ⟨g1, g2, g3, g4⟩ := fixF_ok hx
    change (pWhl (pTest PC t) (fun env => pSs PC body env) turns p).wp0 N noX at q
    show HoR frf N b _ st fz pt (whileI (test C t) (fun env st => evSs C body env st) turns env st)
    obtain ⟨fz2, w2, gg2, r2⟩ := r.freeze (fl' := x) w g4
    exact (whl_ho (l := esc t) (fun env p st fz pt Q X w rr q => test_ho K env p st fz pt Q X w rr q) (fun env p st fz pt N w rr q => soundSs body w rr g1 q) g2 g3 turns env p st fz2 pt w2 r2 q).pre r.base gg2
  | .ret none => by
    rename_i b fl p env st fz pt N out
    intro w r hf q
    unfold flS at hf
    split at hf
    case isTrue => cases hf
    rename_i hn
    have : frf = false := by simpa using hn
    subst this
    exact ⟨fz, pt, .non, q, w, Gr.refl, .non⟩
  | .ret (some e) => by
    rename_i b fl p env st fz pt N out
    intro w r hf q
    unfold flS at hf
    split at hf
    case isFalse => cases hf
    rename_i ho
    exact ret_ho K w r ho q
  | .pass => by
    rename_i b fl p env st fz pt N out
    intro w r hf q
    unfold flS at hf
    cases hf
    exact HoR.nx w rfl r q
  | .brk => by
    rename_i b fl p env st fz pt N out
    intro w r hf q
    unfold flS at hf
    cases hf
    exact ⟨fl, p, fz, pt, rfl, q, w, Gr.refl, r⟩
  | .cont => by
    rename_i b fl p env st fz pt N out
    intro w r hf q
    unfold flS at hf
    cases hf
    exact ⟨fl, p, fz, pt, rfl, q, w, Gr.refl, r⟩
  | .dead => by
    rename_i b fl p env st fz pt N out
    intro w r hf q
    exact q.elim
termination_by structural s => s
theorem soundSs : ∀ ss : List S, PSs_ fresh frf C PC ss
  | [] => by
    rename_i b fl p env st fz pt N out
    intro w r hf q
    unfold flSs at hf
    cases hf
    exact HoR.nx w rfl r q
  | s :: ss => by
    rename_i b fl p env st fz pt N out
    intro w r hf q
    unfold flSs at hf
    rw [Option.bind_eq_some_iff] at hf
    obtain ⟨r1, h1, hf⟩ := hf
    change ((pS PC s p).bnd _).wp0 N noX at q
    rw [wp_bnd0] at q
    have H := soundS s w r h1 q
    rw [sts_cons]
    -- what has ended ends so
    have up : ∀ {rr : R}, (∀ e s, rr ≠ .nx e s) → HoR frf (fun a => Tr.wp0 N noX (match a with
      | .nx e => pSs PC ss e
      | r => .ret r)) b r1 st fz pt rr → HoR frf N b out st fz pt rr := by
      intro rr hn h
      have hbk : ∀ {fl}, r1.bk = some fl → ∃ fl', out.bk = some fl' ∧ ∀ i, own fl' i = true → own fl i = true := by
        intro fl hb
        cases hnx : r1.nx with
        | none => rw [hnx] at hf; cases hf; exact ⟨fl, hb, fun _ h => h⟩
        | some fl2 =>
          rw [hnx] at hf
          rw [Option.map_eq_some_iff] at hf
          obtain ⟨r2, _, rfl⟩ := hf
          exact meetO_l hb
      have hct : ∀ {fl}, r1.ct = some fl → ∃ fl', out.ct = some fl' ∧ ∀ i, own fl' i = true → own fl i = true := by
        intro fl hb
        cases hnx : r1.nx with
        | none => rw [hnx] at hf; cases hf; exact ⟨fl, hb, fun _ h => h⟩
        | some fl2 =>
          rw [hnx] at hf
          rw [Option.map_eq_some_iff] at hf
          obtain ⟨r2, _, rfl⟩ := hf
          exact meetO_l hb
      cases rr with
      | nx e s => exact absurd rfl (hn e s)
      | bk e s =>
        obtain ⟨fl, p, a, c, k1, k2, k3, k4, k5⟩ := h
        obtain ⟨fl', e1, e2⟩ := hbk k1
        obtain ⟨fz2, w2, g2, r2⟩ := k5.freeze k3 e2
        exact ⟨fl', p, fz2, c, e1, k2, w2, Gr.trans r.base k4 g2, r2⟩
      | ct e s =>
        obtain ⟨fl, p, a, c, k1, k2, k3, k4, k5⟩ := h
        obtain ⟨fl', e1, e2⟩ := hct k1
        obtain ⟨fz2, w2, g2, r2⟩ := k5.freeze k3 e2
        exact ⟨fl', p, fz2, c, e1, k2, w2, Gr.trans r.base k4 g2, r2⟩
      | rt d s => exact h
      | ex c d e s => exact h
      | bad => exact h
    cases hr : evS C s env st with
    | nx e s1 =>
      rw [hr] at H
      obtain ⟨fl1, p1, fz1, pt1, k1, k2, k3, k4, k5⟩ := H
      rw [k1] at hf
      rw [Option.map_eq_some_iff] at hf
      obtain ⟨r2, hf2, rfl⟩ := hf
      exact ((soundSs ss k3 k5 hf2 k2).weak (out' := ⟨r2.nx, meetO r1.bk r2.bk, meetO r1.ct r2.ct⟩) (fun fl e => ⟨fl, e, fun _ h => h⟩) (fun fl e => meetO_r e) (fun fl e => meetO_r e) k5.base).pre r.base k4
    | bk e s1 => rw [hr] at H; exact up (fun _ _ z => by cases z) H
    | ct e s1 => rw [hr] at H; exact up (fun _ _ z => by cases z) H
    | rt d s1 => rw [hr] at H; exact up (fun _ _ z => by cases z) H
    | ex c d e s1 => rw [hr] at H; exact up (fun _ _ z => by cases z) H
    | bad => rw [hr] at H; exact H.elim
termination_by structural ss => ss
end
end
end
end Ev
/-! Defs, levels, the law. -/
namespace Ev
open PySem
/-- the making of a pot -/
def MkOk (T : Tx) (x : Str) (two : Bool) : Prop := ∀ (k : Nat) (ns : List Int) (i : Nat) (st : Sto), i ≤ 1000 → ∃ st', (T.at (k + 1)).run x (if two then [.ro ns, .int i] else [.ro ns]) st = .ok (.loc st.length) st' ∧ Pot st.length st' ∧ ∀ j, j < st.length → st'[j]? = st[j]?
/-- the text, looked through -/
structure TxP (T : Tx) (kd : Str → Kd) (fresh : Str → Bool) : Prop where
  draw : ∀ f, kd f = .draw → DrawOk T f ∧ fresh f = false
  mak : ∀ f two, kd f = .mk two → MkOk T f two ∧ fresh f = false
  own : ∀ f d, T.lookup f = some d → kd f = .own → ∃ out, flSs fresh (fresh f) d.body [] = some out
section
variable {T : Tx} {kd : Str → Kd} {fresh : Str → Bool}
theorem start_rel {st : Sto} {fz pt : NS} {ds vs : List D} {n : Nat} (r : Ress st fz pt ds vs) : Rel st.length [] (vs.map some ++ List.replicate n none) (ds.map some ++ List.replicate n none) st fz pt := by
  have hl := r.length
  refine ⟨Nat.le_refl _, by simp [hl], fun i v e => ?_, fun i j n v u hij oi => by rw [own_nil] at oi; cases oi⟩
  have hi : i < vs.length := by
    by_cases hi : i < vs.length
    · exact hi
    · rw [List.getElem?_append_right (by simpa using hi), List.getElem?_replicate] at e
      split at e <;> cases e
  rw [List.getElem?_append_left (by simpa using hi), List.getElem?_map] at e
  cases hv : vs[i]? with
  | none => rw [hv] at e; cases e
  | some a =>
    rw [hv] at e
    cases e
    obtain ⟨d, e1, e2⟩ := r.get hv
    refine ⟨d, ?_, (fun z => by rw [own_nil] at z; cases z), fun _ => e2⟩
    rw [List.getElem?_append_left (by simpa [hl] using hi), List.getElem?_map, e1]
    rfl
theorem go_ho {f : Str} {d : Df} {C : Cal} {PC : PCal} {st : Sto} {fz pt : NS} {ds vs : List D} {Q : D → Prop} {X : Str → D → Prop} (K : CalOk fresh C PC) (hf : ∃ out, flSs fresh (fresh f) d.body [] = some out) (w : Wd st fz pt) (r : Ress st fz pt ds vs) (q : (d.pgo PC vs).wp0 Q X) : Ho (RF (fresh f) st.length) Q X st fz pt (d.go C ds st) := by
  obtain ⟨out, hf⟩ := hf
  unfold Df.pgo at q
  split at q
  case isFalse => exact q.elim
  rename_i hl
  rw [wp_bnd0, wp_noEx0] at q
  unfold Df.go
  rw [if_pos (r.length.trans hl)]
  have H := soundSs (frf := fresh f) K d.body w (start_rel (n := d.names - vs.length) r) hf q
  rw [← r.length] at H
  cases hr : evSs C d.body (ds.map some ++ List.replicate (d.names - ds.length) none) st with
  | nx e s =>
    rw [hr] at H
    obtain ⟨fl, p, fz', pt', k1, k2, k3, k4, k5⟩ := H
    refine ⟨fz', pt', .non, k4.xt k3, k2, ?_⟩
    unfold RF
    split
    · exact .inl ⟨rfl, .non⟩
    · exact .non
  | bk e s => rw [hr] at H; obtain ⟨fl, p, fz', pt', k1, k2, k3, k4, k5⟩ := H; exact k2.elim
  | ct e s => rw [hr] at H; obtain ⟨fl, p, fz', pt', k1, k2, k3, k4, k5⟩ := H; exact k2.elim
  | rt d s =>
    rw [hr] at H
    obtain ⟨fz', pt', v, k1, k2, k3, k4⟩ := H
    exact ⟨fz', pt', v, k3.xt k2, k1, k4⟩
  | ex c d e s =>
    rw [hr] at H
    obtain ⟨p, fz', pt', v, k1, k2, k3, k4, k5⟩ := H
    exact ⟨fz', pt', v, k3.xt k2, k1, k5⟩
  | bad => rw [hr] at H; exact H.elim
/-- every level is right -/
theorem calOk (S : TxP T kd fresh) : ∀ k : Nat, CalOk fresh (T.at k) (T.pat kd k)
  | 0 => ⟨rfl, rfl, fun f ds vs st fz pt Q X w r q => q.elim⟩
  | k + 1 => by
    have K := calOk S k
    refine ⟨rfl, rfl, fun f ds vs st fz pt Q X w r q => ?_⟩
    change (match kd f with
      | .draw => draw vs
      | .mk two => mkPot two vs
      | .own => match T.lookup f with
        | some d => d.pgo (T.pat kd k) vs
        | none => .bad).wp0 Q X at q
    cases hk : kd f with
    | own =>
      rw [hk] at q
      dsimp only at q
      cases hl : T.lookup f with
      | none => rw [hl] at q; exact q.elim
      | some d =>
        rw [hl] at q
        have : (T.at (k + 1)).run f ds st = d.go (T.at k) ds st := by
          show (match T.lookup f with | some d => d.go (T.at k) ds st | none => .bad) = _
          rw [hl]
        rw [this]
        exact go_ho K (S.own f d hl hk) w r q
    | draw =>
      rw [hk] at q
      obtain ⟨D, hf⟩ := S.draw f hk
      rw [hf]
      dsimp only at q
      unfold draw at q
      split at q
      case h_2 => exact q.elim
      rename_i n m
      cases r with
      | cons h t =>
        cases t with
        | cons g t =>
          cases t
          cases g
          cases h with
          | pot hp =>
            obtain ⟨q1, q2, q3⟩ := q
            obtain ⟨i, st', e, i0, i1, P', Sm⟩ := D k n m st (w.pt n hp) q1 q2
            rw [e]
            refine ⟨fz, pt, .int i, ⟨Nat.le_of_eq Sm.len.symm, fun j hj hjp => Sm.at_ j (fun z => hjp (by rw [z]; exact hp)), fun _ h => h, fun _ h _ => h, fun _ h => h, fun _ h _ => h, ⟨fun j f => ⟨by rw [Sm.len]; exact (w.fz j f).1, (w.fz j f).2⟩, fun j jp => ?_⟩⟩, q3 i i0 i1, .int i⟩
            by_cases hj : j = n
            · rw [hj]; exact P'
            · obtain ⟨p0, p1, z, z0, z1⟩ := w.pt j jp
              exact ⟨p0, p1, by rw [Sm.at_ j hj]; exact z, z0, z1⟩
    | mk two =>
      rw [hk] at q
      obtain ⟨M, hf⟩ := S.mak f two hk
      rw [hf]
      dsimp only at q
      have fin : ∀ (ns : List Int) (i : Nat), i ≤ 1000 → ds = (if two then [.ro ns, .int i] else [.ro ns]) → (∀ n, Q (.loc n)) → Ho (RF false st.length) Q X st fz pt ((T.at (k + 1)).run f ds st) := by
        intro ns i hi hd hq
        subst hd
        obtain ⟨st', e, P, keep⟩ := M k ns i st hi
        rw [e]
        have hlt := P.lt
        refine ⟨fz, fun j => pt j ∨ j = st.length, .loc st.length, ⟨Nat.le_of_lt hlt, fun j hj _ => keep j hj, fun _ h => h, fun _ h _ => h, fun j h => .inl h, fun j h hj => ?_, ⟨fun j f => ⟨Nat.lt_trans (w.fz j f).1 hlt, fun z => ?_⟩, fun j jp => ?_⟩⟩, hq _, .pot (.inr rfl)⟩
        · rcases h with h | h
          · exact h
          · omega
        · rcases z with z | z
          · exact (w.fz j f).2 z
          · have := (w.fz j f).1; omega
        · rcases jp with jp | rfl
          · obtain ⟨p0, p1, z, z0, z1⟩ := w.pt j jp
            exact ⟨p0, p1, by rw [keep j (w.pt j jp).lt]; exact z, z0, z1⟩
          · exact P
      unfold mkPot at q
      split at q
      · rename_i ns i
        split at q
        case isFalse => exact q.elim
        rename_i hc
        obtain ⟨h1, h2, h3⟩ := hc
        subst h1
        cases r with
        | cons h t =>
          cases t with
          | cons g t =>
            cases t
            cases h
            cases g
            have : (i.toNat : Int) = i := Int.toNat_of_nonneg h2
            exact fin ns i.toNat (by omega) (by rw [this]; rfl) q
      · rename_i ns
        split at q
        case isTrue => exact q.elim
        rename_i hc
        have h2 : two = false := by simpa using hc
        subst h2
        cases r with
        | cons h t =>
          cases t
          cases h
          exact fin ns 0 (by omega) rfl q
      · exact q.elim
/-- the law's word, from that over values -/
theorem law_of (S : TxP T kd fresh) {k : Nat} {f : Str} {ns : List Int} (h : ((T.pat kd k).run f [.ro ns]).wp0 (fun v => v = .bl true) noX) : ∃ st, (T.at k).run f [.ro ns] [] = .ok (.bl true) st := by
  have w : Wd [] (fun _ => False) (fun _ => False) := ⟨fun _ z => z.elim, fun _ z => z.elim⟩
  have H := (calOk S k).run f [.ro ns] [.ro ns] [] _ _ _ _ w (.cons (.ro ns) .nil) h
  cases hr : (T.at k).run f [.ro ns] [] with
  | ok d s =>
    rw [hr] at H
    obtain ⟨fz', pt', v, x, rfl, r⟩ := H
    have : d = .bl true := by
      unfold RF at r
      split at r
      · exact (Frs.top r).bl
      · exact Top.bl (.inl r)
    rw [this]
    exact ⟨s, rfl⟩
  | ex c d s => rw [hr] at H; obtain ⟨_, _, _, _, z, _⟩ := H; exact z.elim
  | bad => rw [hr] at H; exact H.elim
end
end Ev
/-! Rules for evaluating over values. -/
namespace Ev
open PySem
/-- whatever is drawn, it ends so; closed to unfolding -/
structure Tr.wp {α : Type} (Q : α → Prop) (X : Str → D → Prop) (t : Tr α) : Prop where
  h : t.wp0 Q X
section
variable {α β : Type} {Q : β → Prop} {X : Str → D → Prop}
theorem wp_bnd {t : Tr α} {f : α → Tr β} : (t.bnd f).wp Q X ↔ t.wp (fun a => (f a).wp Q X) X :=
  ⟨fun h => ⟨wp_mono0 (wp_bnd0.mp h.h) (fun _ g => ⟨g⟩) fun _ _ g => g⟩, fun h => ⟨wp_bnd0.mpr (wp_mono0 h.h (fun _ g => g.h) fun _ _ g => g)⟩⟩
theorem wp_mono {t : Tr β} {Q' : β → Prop} {X' : Str → D → Prop} (h : t.wp Q X) (hq : ∀ a, Q a → Q' a) (hx : ∀ c v, X c v → X' c v) : t.wp Q' X' := ⟨wp_mono0 h.h hq hx⟩
theorem wp_noEx {t : Tr β} : t.noEx.wp Q X ↔ t.wp Q (fun _ _ => False) := ⟨fun h => ⟨wp_noEx0.mp h.h⟩, fun h => ⟨wp_noEx0.mpr h.h⟩⟩
theorem wp_toR {t : Tr α} {env : Env} {f : α → Tr PR} {N : PR → Prop} : (t.toR env f).wp N X ↔ t.wp (fun a => (f a).wp N X) (fun c v => N (.ex c v env)) :=
  ⟨fun h => ⟨wp_mono0 (wp_toR0.mp h.h) (fun _ g => ⟨g⟩) fun _ _ g => g⟩, fun h => ⟨wp_toR0.mpr (wp_mono0 h.h (fun _ g => g.h) fun _ _ g => g)⟩⟩
theorem ofO_wp {o : Option β} (h : (Tr.ofO o).wp Q X) : ∃ r, o = some r ∧ Q r := ofO_wp0 h.h
end
section
variable {α β : Type} {a : α} {s : Sto} {f : α → Tr β} {c : Str} {v : D} {env : Env} {g : α → Tr PR} {Q : α → Prop} {X : Str → D → Prop} {m : Int} {k : Int → Tr α}
@[simp] theorem t_bnd : (Tr.ret a).bnd f = f a := rfl
@[simp] theorem t_bndx : (Tr.exc c v : Tr α).bnd f = .exc c v := rfl
@[simp] theorem t_bndb : (Tr.bad : Tr α).bnd f = .bad := rfl
@[simp] theorem t_toR : (Tr.ret a).toR env g = g a := rfl
@[simp] theorem t_toRx : (Tr.exc c v : Tr α).toR env g = .ret (.ex c v env) := rfl
@[simp] theorem t_ofO : Tr.ofO (some a) = .ret a := rfl
@[simp] theorem t_of : Tr.of (.ok a s) = .ret a := rfl
@[simp] theorem t_ofx : (Tr.of (.ex c v s) : Tr α) = .exc c v := rfl
@[simp] theorem t_noEx : Tr.noEx (.ret a) = .ret a := rfl
@[simp] theorem w_ret : (Tr.ret a).wp Q X ↔ Q a := ⟨fun h => h.h, fun h => ⟨h⟩⟩
@[simp] theorem w_exc : (Tr.exc c v : Tr α).wp Q X ↔ X c v := ⟨fun h => h.h, fun h => ⟨h⟩⟩
@[simp] theorem w_bad : (Tr.bad : Tr α).wp Q X ↔ False := ⟨fun h => h.h, fun h => h.elim⟩
theorem w_pot {α : Type} {k : Nat → Tr α} {Q : α → Prop} {X : Str → D → Prop} : (Tr.pot k).wp Q X ↔ ∀ n, (k n).wp Q X := ⟨fun h n => ⟨h.h n⟩, fun h => ⟨fun n => (h n).h⟩⟩
theorem w_ask : (Tr.ask m k).wp Q X ↔ (0 < m ∧ m < 1073741824 ∧ ∀ i, 0 ≤ i → i < m → (k i).wp Q X) := ⟨fun h => ⟨h.h.1, h.h.2.1, fun i h0 h1 => ⟨h.h.2.2 i h0 h1⟩⟩, fun h => ⟨⟨h.1, h.2.1, fun i h0 h1 => (h.2.2 i h0 h1).h⟩⟩⟩
end
section
variable {C : PCal} {env : Env} {a b c e lo hi t : E} {es src ifs : List E} {al : Bool} {d : D} {i : Nat} {x : Str} {o p : COp} {q : BOp} {pr : Prim} {ks : List Str} {kks : List L2.Key} {ty : Ty} {own : List Nat} {tn : TN} {ik : IK} {r : Env} {x0 x1 x2 x3 x4 x5 x6 x7 x8 x9 x10 x11 x12 : Option D}
theorem p_c : pE C (.c d) env = if closed d then .ret d else .bad := rfl
@[simp] theorem p_cn : pE C (.c .non) env = .ret .non := rfl
@[simp] theorem p_cb {k : Bool} : pE C (.c (.bl k)) env = .ret (.bl k) := rfl
@[simp] theorem p_ci {k : Int} : pE C (.c (.int k)) env = .ret (.int k) := rfl
@[simp] theorem p_cs {k : Str} : pE C (.c (.str k)) env = .ret (.str k) := rfl
theorem p_v : pE C (.v i) env = (match env[i]? with
    | some (some d) => .ret d
    | _ => .bad) := rfl
@[simp] theorem p_v0 : pE C (.v 0) (some d :: r) = .ret d := rfl
@[simp] theorem p_v1 : pE C (.v 1) (x0 :: some d :: r) = .ret d := rfl
@[simp] theorem p_v2 : pE C (.v 2) (x0 :: x1 :: some d :: r) = .ret d := rfl
@[simp] theorem p_v3 : pE C (.v 3) (x0 :: x1 :: x2 :: some d :: r) = .ret d := rfl
@[simp] theorem p_v4 : pE C (.v 4) (x0 :: x1 :: x2 :: x3 :: some d :: r) = .ret d := rfl
@[simp] theorem p_v5 : pE C (.v 5) (x0 :: x1 :: x2 :: x3 :: x4 :: some d :: r) = .ret d := rfl
@[simp] theorem p_v6 : pE C (.v 6) (x0 :: x1 :: x2 :: x3 :: x4 :: x5 :: some d :: r) = .ret d := rfl
@[simp] theorem p_v7 : pE C (.v 7) (x0 :: x1 :: x2 :: x3 :: x4 :: x5 :: x6 :: some d :: r) = .ret d := rfl
@[simp] theorem p_v8 : pE C (.v 8) (x0 :: x1 :: x2 :: x3 :: x4 :: x5 :: x6 :: x7 :: some d :: r) = .ret d := rfl
@[simp] theorem p_v9 : pE C (.v 9) (x0 :: x1 :: x2 :: x3 :: x4 :: x5 :: x6 :: x7 :: x8 :: some d :: r) = .ret d := rfl
@[simp] theorem p_v10 : pE C (.v 10) (x0 :: x1 :: x2 :: x3 :: x4 :: x5 :: x6 :: x7 :: x8 :: x9 :: some d :: r) = .ret d := rfl
@[simp] theorem p_v11 : pE C (.v 11) (x0 :: x1 :: x2 :: x3 :: x4 :: x5 :: x6 :: x7 :: x8 :: x9 :: x10 :: some d :: r) = .ret d := rfl
@[simp] theorem p_v12 : pE C (.v 12) (x0 :: x1 :: x2 :: x3 :: x4 :: x5 :: x6 :: x7 :: x8 :: x9 :: x10 :: x11 :: some d :: r) = .ret d := rfl
@[simp] theorem p_v13 : pE C (.v 13) (x0 :: x1 :: x2 :: x3 :: x4 :: x5 :: x6 :: x7 :: x8 :: x9 :: x10 :: x11 :: x12 :: some d :: r) = .ret d := rfl
@[simp] theorem p_g : pE C (.g x) env = .ret (.fn x) := rfl
@[simp] theorem p_bin : pE C (.bin al q a b) env = (pE C a env).bnd fun x => (pE C b env).bnd fun y => Tr.of (binD false q x y []) := rfl
@[simp] theorem p_neg : pE C (.neg a) env = (pE C a env).bnd fun x => Tr.of (negP x []) := rfl
@[simp] theorem p_not : pE C (.not a) env = (pE C a env).bnd fun x => (Tr.ofO (truth [] x)).bnd fun k => .ret (.bl !k) := rfl
@[simp] theorem p_and : pE C (.and a b) env = (pE C a env).bnd fun x => (Tr.ofO (truth [] x)).bnd fun k => if k then pE C b env else .ret x := rfl
@[simp] theorem p_or : pE C (.or a b) env = (pE C a env).bnd fun x => (Tr.ofO (truth [] x)).bnd fun k => if k then .ret x else pE C b env := rfl
@[simp] theorem p_ite : pE C (.ite t a b) env = (pE C t env).bnd fun x => (Tr.ofO (truth [] x)).bnd fun k => if k then pE C a env else pE C b env := rfl
@[simp] theorem p_cmp : pE C (.cmp o a b) env = (pE C a env).bnd fun x => (pE C b env).bnd fun y => Tr.of (cmpD o x y []) := rfl
/-- the second half of a chain -/
def chainP (r : D) (z : Tr D) : Tr D := match r with
  | .bl true => z
  | .bl false => .ret (.bl false)
  | _ => .bad
@[simp] theorem chainP_b {k : Bool} {z : Tr D} : chainP (.bl k) z = if k then z else .ret (.bl false) := by cases k <;> rfl
@[simp] theorem p_chain : pE C (.chain o p a b c) env = (pE C a env).bnd fun x => (pE C b env).bnd fun y => (Tr.of (cmpD o x y [])).bnd fun r => chainP r ((pE C c env).bnd fun z => Tr.of (cmpD p y z [])) := rfl
@[simp] theorem p_tup : pE C (.tup es) env = (pEs C es env).bnd fun ds => if small ds.length then .ret (.tup ds) else .bad := rfl
@[simp] theorem p_lst : pE C (.lst al es) env = (pEs C es env).bnd fun ds => if small ds.length then .ret (.lst ds) else .bad := rfl
@[simp] theorem p_dct : pE C (.dct al kks es) env = (pEs C es env).bnd fun ds => if kks.length = ds.length ∧ kks.Nodup ∧ kks.length ≤ 15 then .ret (.dct kks ds) else .bad := rfl
@[simp] theorem p_ix : pE C (.ix a b) env = (pE C a env).bnd fun x => (pE C b env).bnd fun y => Tr.ofO (ixD x y []) := rfl
@[simp] theorem p_sl : pE C (.sl al a lo hi) env = (pE C a env).bnd fun x => (pPart (isOmit lo) (pE C lo env)).bnd fun l => (pPart (isOmit hi) (pE C hi env)).bnd fun h => Tr.of (slD false x l h []) := rfl
@[simp] theorem p_call : pE C (.call x ks es) env = (pEs C es env).bnd fun ds => pCall C x ks ds := rfl
@[simp] theorem p_pr : pE C (.pr al pr es) env = (pEs C es env).bnd fun ds => Tr.of (prD false pr ds []) := rfl
@[simp] theorem p_isi : pE C (.isi a ty) env = (pE C a env).bnd fun x => (Tr.ofO (isTy ty x [])).bnd fun k => .ret (.bl k) := rfl
/-- a turn of a comprehension -/
def pTurn (C : PCal) (tn : TN) (env : Env) (ifs : List E) (e : E) (d : D) : Tr (Option D) := match setT tn d env with
  | none => .bad
  | some e2 => (pTs C ifs e2).bnd fun k => if k then (pE C e e2).bnd fun y => .ret (some y) else .ret none
theorem p_comp : pE C (.comp al own tn ik src ifs e) env = (pEs C src env).bnd fun ds => match pIt ik ds with
    | none => .bad
    | some xs => if small xs.length then (Tr.noEx (pComp (pTurn C tn (wipeE env own) ifs e) xs)).bnd fun ys => .ret (.lst ys) else .bad := rfl
@[simp] theorem p_nil : pEs C [] env = .ret [] := rfl
@[simp] theorem p_cons : pEs C (e :: es) env = (pE C e env).bnd fun d => (pEs C es env).bnd fun ds => .ret (d :: ds) := rfl
@[simp] theorem p_tnil : pTs C [] env = .ret true := rfl
@[simp] theorem p_tcons : pTs C (e :: es) env = (pE C e env).bnd fun x => (Tr.ofO (truth [] x)).bnd fun k => if k then pTs C es env else .ret false := rfl
@[simp] theorem pPart_t {r : Tr D} : pPart true r = .ret none := rfl
@[simp] theorem pPart_f {r : Tr D} : pPart false r = r.bnd fun d => Tr.of (partP d []) := rfl
end
section
variable {C : PCal} {env : Env} {e : E} {es src : List E} {t : Tg} {ts : List Tg} {s : S} {ss a b body : List S} {tn : TN} {ik : IK} {is : List Nat} {d : D} {ds : List D} {i : Nat}
@[simp] theorem q_asg : pS C (.asg t e) env = (pE C e env).toR env fun d => (Tr.noEx (pG C t d env)).bnd fun env => .ret (.nx env) := rfl
@[simp] theorem q_par : pS C (.par is es) env = (pEs C es env).toR env fun ds => match setMany is ds env with
    | some env => .ret (.nx env)
    | none => .bad := rfl
@[simp] theorem q_ex : pS C (.ex e) env = pX C e env := rfl
@[simp] theorem q_iff : pS C (.iff e a b) env = ((pE C e env).bnd fun x => Tr.ofO (truth [] x)).toR env fun k => if k then pSs C a env else pSs C b env := rfl
theorem q_for : pS C (.for_ tn ik src body) env = (pEs C src env).toR env fun ds => match pIt ik ds with
    | none => .bad
    | some xs => if small xs.length then pFor (fun d env => match setT tn d env with
      | none => .bad
      | some env => pSs C body env) xs env else .bad := rfl
@[simp] theorem q_ret : pS C (.ret (some e)) env = (pE C e env).toR env fun d => .ret (.rt d) := rfl
@[simp] theorem q_retN : pS C (.ret none) env = .ret (.rt .non) := rfl
@[simp] theorem q_pass : pS C .pass env = .ret (.nx env) := rfl
@[simp] theorem q_brk : pS C .brk env = .ret (.bk env) := rfl
@[simp] theorem q_cont : pS C .cont env = .ret (.ct env) := rfl
@[simp] theorem q_nil : pSs C [] env = .ret (.nx env) := rfl
theorem q_cons : pSs C (s :: ss) env = pSeq (pS C s env) fun env => pSs C ss env := rfl
@[simp] theorem q_seq_nx {f : Env → Tr PR} : pSeq (.ret (.nx env)) f = f env := rfl
@[simp] theorem q_seq_rt {f : Env → Tr PR} : pSeq (.ret (.rt d)) f = .ret (.rt d) := rfl
@[simp] theorem q_seq_ct {f : Env → Tr PR} : pSeq (.ret (.ct env)) f = .ret (.ct env) := rfl
@[simp] theorem q_seq_bk {f : Env → Tr PR} : pSeq (.ret (.bk env)) f = .ret (.bk env) := rfl
@[simp] theorem q_seq_if {k : Prop} [Decidable k] {r1 r2 : Tr PR} {f : Env → Tr PR} : pSeq (if k then r1 else r2) f = if k then pSeq r1 f else pSeq r2 f := by split <;> rfl
@[simp] theorem g_n : pG C (.n i) d env = .ret (env.set i (some d)) := rfl
@[simp] theorem g_t {xs : List D} : pG C (.t ts) (.tup xs) env = pGs C ts xs env := rfl
@[simp] theorem g_nil : pGs C [] [] env = .ret env := rfl
@[simp] theorem g_cons : pGs C (t :: ts) (d :: ds) env = (pG C t d env).bnd fun env => pGs C ts ds env := rfl
@[simp] theorem end_rt' : PR.end_ (.rt d) = .ret d := rfl
@[simp] theorem end_nx' : PR.end_ (.nx env) = .ret .non := rfl
@[simp] theorem end_ex' {c : Str} {v : D} : PR.end_ (.ex c v env) = .exc c v := rfl
theorem x_app {b : E} : pX C (.app (.v i) b) env = match lstAt env i with
    | some xs => (pE C b env).toR env fun y => if xs.length < most then .ret (.nx (env.set i (some (.lst (xs ++ [y]))))) else .bad
    | none => .bad := rfl
theorem x_ext {b : E} : pX C (.ext (.v i) b) env = match lstAt env i with
    | some xs => (pE C b env).toR env fun y => match y with
      | .lst ys => if small (xs.length + ys.length) then .ret (.nx (env.set i (some (.lst (xs ++ ys))))) else .bad
      | _ => .bad
    | none => .bad := rfl
end
/-! ### calls -/
section
variable {T : Tx} {kd : Str → Kd} {f : Str} {d : Df} {ds es : List D} {k : Nat}
theorem p_run (h : T.lookup f = some d) (hk : kd f = .own) (hl : ds.length = d.par.length) : (T.pat kd (k + 1)).run f ds = (Tr.noEx (pSs (T.pat kd k) d.body (ds.map some ++ List.replicate (d.names - ds.length) none))).bnd PR.end_ := by
  show (match kd f with
    | .draw => draw ds
    | .mk two => mkPot two ds
    | .own => match T.lookup f with
      | some d => d.pgo (T.pat kd k) ds
      | none => .bad) = _
  rw [hk, h]
  dsimp only
  unfold Df.pgo
  rw [if_pos hl]
theorem p_draw (hk : kd f = .draw) {n : Nat} {m : Int} : (T.pat kd (k + 1)).run f [.loc n, .int m] = .ask m fun i => .ret (.int i) := by
  show (match kd f with
    | .draw => draw _
    | .mk two => mkPot two _
    | .own => match T.lookup f with
      | some d => d.pgo (T.pat kd k) _
      | none => .bad) = _
  rw [hk]
  rfl
theorem p_par : ∀ {k : Nat}, (T.pat kd k).par = T.par
  | 0 => rfl
  | _ + 1 => rfl
theorem p_pos (h : T.lookup f = some d) (hl : ds.length = d.par.length) : pCall (T.pat kd k) f [] ds = (T.pat kd k).run f ds := by
  unfold pCall permArgs
  rw [if_pos rfl, p_par]
  unfold Tx.par
  rw [h, if_pos hl]
theorem p_kw {ks : List Str} (h : T.lookup f = some d) (hp : permArgs d.par ks ds = some es) : pCall (T.pat kd k) f ks ds = (T.pat kd k).run f es := by
  unfold pCall
  rw [p_par]
  unfold Tx.par
  rw [h]
  dsimp only
  rw [hp]
theorem p_all : ∀ {k : Nat}, (T.pat kd k).all = T.map (·.1)
  | 0 => rfl
  | _ + 1 => rfl
end
/-! ### comprehensions and walks -/
section
variable {C : PCal} {Q : D → Prop} {X : Str → D → Prop}
theorem comp_mapP {turn : D → Tr (Option D)} {f : D → D} : ∀ {xs : List D}, (∀ d ∈ xs, turn d = .ret (some (f d))) → pComp turn xs = .ret (xs.map f)
  | [], _ => rfl
  | d :: xs, h => by
    unfold pComp
    rw [h d List.mem_cons_self, t_bnd]
    dsimp only
    rw [comp_mapP fun y hy => h y (List.mem_cons_of_mem _ hy)]
    rfl
theorem comp_filtP {turn : D → Tr (Option D)} {f : D → Option D} : ∀ {xs : List D}, (∀ d ∈ xs, turn d = .ret (f d)) → pComp turn xs = .ret (xs.filterMap f)
  | [], _ => rfl
  | d :: xs, h => by
    unfold pComp
    rw [h d List.mem_cons_self, t_bnd]
    cases hf : f d with
    | none =>
      dsimp only
      rw [comp_filtP fun y hy => h y (List.mem_cons_of_mem _ hy), List.filterMap_cons, hf]
    | some y =>
      dsimp only
      rw [comp_filtP fun y hy => h y (List.mem_cons_of_mem _ hy), List.filterMap_cons, hf]
      rfl
/-- what is drawn, turn by turn -/
theorem comp_wp {turn : D → Tr (Option D)} {P : D → Prop} {Y : Str → D → Prop} : ∀ {xs : List D} {Q : List D → Prop}, (∀ d ∈ xs, (turn d).wp (fun o => ∃ y, o = some y ∧ P y) Y) → (∀ ys : List D, ys.length = xs.length → (∀ y ∈ ys, P y) → Q ys) → (pComp turn xs).wp Q Y
  | [], Q, _, k => ⟨k [] rfl (fun _ h => nomatch h)⟩
  | d :: xs, Q, h, k => by
    unfold pComp
    rw [wp_bnd]
    refine wp_mono (h d List.mem_cons_self) (fun o ho => ?_) fun _ _ z => z
    obtain ⟨y, rfl, hy⟩ := ho
    dsimp only
    rw [wp_bnd]
    refine comp_wp (fun z hz => h z (List.mem_cons_of_mem _ hz)) fun ys hl hys => ?_
    refine ⟨k (y :: ys) (by rw [List.length_cons, List.length_cons, hl]) fun z hz => ?_⟩
    cases hz with
    | head => exact hy
    | tail _ hz => exact hys z hz
/-- .. with what is let alone -/
theorem comp_wpF {turn : D → Tr (Option D)} {P : D → Prop} {Y : Str → D → Prop} : ∀ {xs : List D} {Q : List D → Prop}, (∀ d ∈ xs, (turn d).wp (fun o => ∀ y, o = some y → P y) Y) → (∀ ys : List D, ys.length ≤ xs.length → (∀ y ∈ ys, P y) → Q ys) → (pComp turn xs).wp Q Y
  | [], Q, _, k => ⟨k [] (Nat.le_refl _) (fun _ h => nomatch h)⟩
  | d :: xs, Q, h, k => by
    unfold pComp
    rw [wp_bnd]
    refine wp_mono (h d List.mem_cons_self) (fun o ho => ?_) fun _ _ z => z
    cases o with
    | none =>
      dsimp only
      exact comp_wpF (fun z hz => h z (List.mem_cons_of_mem _ hz)) fun ys hl hys => k ys (by rw [List.length_cons]; omega) hys
    | some y =>
      dsimp only
      rw [wp_bnd]
      refine comp_wpF (fun z hz => h z (List.mem_cons_of_mem _ hz)) fun ys hl hys => ?_
      refine ⟨k (y :: ys) (by rw [List.length_cons, List.length_cons]; omega) fun z hz => ?_⟩
      cases hz with
      | head => exact ho y rfl
      | tail _ hz => exact hys z hz
/-- a walk by its invariant; ends by itself, by a break, or by a return -/
theorem for_wp {body : D → Env → Tr PR} {N : PR → Prop} {xs : List D} (I : Nat → Env → Prop) (hs : ∀ i d env, xs[i]? = some d → I i env → (body d env).wp (fun r => match r with
      | .nx e => I (i + 1) e
      | .ct e => I (i + 1) e
      | .bk e => N (.nx e)
      | r => N r) noX) (hk : ∀ env, I xs.length env → N (.nx env)) : ∀ (env : Env), I 0 env → (pFor body xs env).wp N noX := by
  have go : ∀ (ys : List D) (i : Nat) (env : Env), xs.drop i = ys → i ≤ xs.length → I i env → (pFor body ys env).wp N noX := by
    intro ys
    induction ys with
    | nil =>
      intro i env hd hl h
      have : i = xs.length := by
        have := congrArg List.length hd
        rw [List.length_drop, List.length_nil] at this
        omega
      subst this
      exact ⟨hk env h⟩
    | cons d ys ih =>
      intro i env hd hl h
      have hi : i < xs.length := by
        have := congrArg List.length hd
        rw [List.length_drop, List.length_cons] at this
        omega
      have e1 : xs[i]? = some d := by
        have := List.getElem?_drop (xs := xs) (i := i) (j := 0)
        rw [hd] at this
        simpa using this.symm
      have e2 : xs.drop (i + 1) = ys := by
        rw [← List.tail_drop, hd]
        rfl
      unfold pFor
      rw [wp_bnd]
      refine wp_mono (hs i d env e1 h) (fun r hr => ?_) fun _ _ z => z
      cases r with
      | nx e => exact ih (i + 1) e e2 hi hr
      | ct e => exact ih (i + 1) e e2 hi hr
      | bk e => exact ⟨hr⟩
      | rt d => exact ⟨hr⟩
      | ex c v e => exact ⟨hr⟩
  exact fun env h => go xs 0 env (List.drop_zero) (Nat.zero_le _) h
end
end Ev
/-! The text, looked through: who owns what. -/
namespace Ev
open PySem
def Kd.isOwn : Kd → Bool
  | .own => true
  | _ => false
/-- defs whose answer is nobody else's -/
def freshStep (T : Tx) (kd : Str → Kd) (l : List Str) : List Str := (T.filter fun (f, d) => (kd f).isOwn && l.contains f && (flSs (fun g => l.contains g) true d.body []).isSome).map (·.1)
def freshOf (T : Tx) (kd : Str → Kd) : Nat → List Str
  | 0 => (T.filter fun (f, _) => (kd f).isOwn).map (·.1)
  | n + 1 => freshStep T kd (freshOf T kd n)
def lookOk (T : Tx) (kd : Str → Kd) (l : List Str) : Bool := T.all fun (f, d) => !(kd f).isOwn || (flSs (fun g => l.contains g) (l.contains f) d.body []).isSome
theorem lookup_mem {T : Tx} {f : Str} {d : Df} : T.lookup f = some d → (f, d) ∈ T := by
  induction T with
  | nil => intro h; cases h
  | cons p T ih =>
    intro h
    obtain ⟨y, e⟩ := p
    rw [List.lookup_cons] at h
    split at h
    · rename_i hy
      have : f = y := by simpa using hy
      cases h
      rw [this]
      exact List.mem_cons_self
    · exact List.mem_cons_of_mem _ (ih h)
theorem txP_mk {T : Tx} {kd : Str → Kd} {l : List Str} (h : lookOk T kd l = true) (hd : ∀ f, kd f = .draw → DrawOk T f ∧ l.contains f = false) (hm : ∀ f two, kd f = .mk two → MkOk T f two ∧ l.contains f = false) : TxP T kd fun f => l.contains f := by
  refine ⟨hd, hm, fun f d hl hk => ?_⟩
  unfold lookOk at h
  rw [List.all_eq_true] at h
  have := h _ (lookup_mem hl)
  dsimp only at this
  rw [hk] at this
  have : (flSs (fun g => l.contains g) (l.contains f) d.body []).isSome = true := this
  exact Option.isSome_iff_exists.mp this
/-- one draw, one way to make a pot -/
def kdOf (dr mk : Str) (two : Bool) (f : Str) : Kd := if f = dr then .draw else if f = mk then .mk two else .own
theorem txP_of {T : Tx} {dr mk : Str} {two : Bool} {l : List Str} (h : lookOk T (kdOf dr mk two) l = true) (hd : DrawOk T dr) (hm : MkOk T mk two) (n1 : l.contains dr = false) (n2 : l.contains mk = false) : TxP T (kdOf dr mk two) fun f => l.contains f := by
  refine txP_mk h (fun f hk => ?_) fun f t hk => ?_
  · unfold kdOf at hk
    split at hk
    · rename_i e; subst e; exact ⟨hd, n1⟩
    · split at hk <;> cases hk
  · unfold kdOf at hk
    split at hk
    · cases hk
    · split at hk
      · rename_i e; subst e; cases hk; exact ⟨hm, n2⟩
      · cases hk
/-- a pot of two parameters, by its text -/
theorem mk_two {T : Tx} {y p q : Str} {A B M F G H M2 : Int} (hy : T.lookup y = some (potDf A B M F G H M2 [p, q])) (hM : 0 < M ∧ M < 2147483648) (hM2 : 0 < M2 ∧ M2 < 2147483647) : MkOk T y true := by
  intro k ns i st hi
  obtain ⟨st', e, P, G, hl⟩ := pot_ok hy hM hM2 k ns i st hi
  exact ⟨st', e, P, fun j hj => G.at_ j hj (by omega)⟩
end Ev
/-! Texts: how wide and how deep a value is; more rules. -/
namespace Ev
open PySem
mutual
/-- a bound of a text's length -/
def tw : D → Nat
  | .non => 4
  | .bl _ => 5
  | .int i => if -(2 ^ 200) < i ∧ i < 2 ^ 200 then 203 else 2000000
  | .str x => widStr x
  | .tup xs => tws xs + 3
  | .lst xs => tws xs + 2
  | .dct ks xs => twk ks + tws xs + 2
  | _ => 2000000
def tws : List D → Nat
  | [] => 0
  | x :: xs => tw x + 2 + tws xs
/-- .. of keys -/
def twk : List L2.Key → Nat
  | [] => 0
  | .inl i :: r => (if -(2 ^ 200) < i ∧ i < 2 ^ 200 then 203 else 2000000) + 2 + twk r
  | .inr x :: r => widStr x + 2 + twk r
end
mutual
def dp : D → Nat
  | .tup xs => dps xs + 1
  | .lst xs => dps xs + 1
  | .dct _ xs => dps xs + 1
  | _ => 0
def dps : List D → Nat
  | [] => 0
  | x :: xs => max (dp x) (dps xs)
end
mutual
/-- a dict's keys are as many as its values -/
def dok : D → Bool
  | .tup xs => doks xs
  | .lst xs => doks xs
  | .dct ks xs => decide (ks.length = xs.length) && doks xs
  | _ => true
def doks : List D → Bool
  | [] => true
  | x :: xs => dok x && doks xs
end
/-- data with a text -/
structure Okv (k w : Nat) (d : D) : Prop where
  cl : closed d = true
  dk : dok d = true
  dp : dp d ≤ k
  tw : tw d ≤ w
theorem showKey_int {i : Int} (h : -(2 ^ 200) < i ∧ i < 2 ^ 200) : (PyData.int i).showable = true := by
  simp only [PyData.showable, decide_eq_true_eq]
  have hl : i.natAbs.log2 < 200 := by
    by_cases h0 : i.natAbs = 0
    · rw [h0]; decide
    · rw [Nat.log2_lt h0]; omega
  omega
theorem wid_int {i : Int} (h : -(2 ^ 200) < i ∧ i < 2 ^ 200) : wid (.int i) ≤ 203 := by
  have hl : i.natAbs.log2 < 200 := by
    by_cases h0 : i.natAbs = 0
    · rw [h0]; decide
    · rw [Nat.log2_lt h0]; omega
  unfold wid
  omega
theorem dps_mem {xs : List D} {x : D} (h : x ∈ xs) : dp x ≤ dps xs := by
  induction xs with
  | nil => cases h
  | cons y ys ih =>
    unfold dps
    cases h with
    | head => exact Nat.le_max_left _ _
    | tail _ h => exact Nat.le_trans (ih h) (Nat.le_max_right _ _)
theorem tw_py : ∀ (n : Nat) (d : D), dp d ≤ n → closed d = true → dok d = true → tw d ≤ 1999999 → ∃ p, toPy [] n d = some p ∧ p.showable = true ∧ wid p ≤ tw d := by
  intro n
  induction n with
  | zero =>
    intro d hd hc hk hw
    cases d with
    | non => exact ⟨.none, rfl, by decide +kernel, by unfold wid tw; omega⟩
    | bl b => exact ⟨.bool b, rfl, by cases b <;> decide +kernel, by unfold wid tw; omega⟩
    | int i =>
      unfold tw at hw ⊢
      split at hw
      · rename_i h
        rw [if_pos h]
        exact ⟨.int i, rfl, showKey_int h, wid_int h⟩
      · omega
    | str x => exact ⟨.str x, rfl, by simp only [PyData.showable], by unfold wid tw; omega⟩
    | tup xs => unfold dp at hd; omega
    | lst xs => unfold dp at hd; omega
    | dct ks xs => unfold dp at hd; omega
    | _ => unfold closed at hc; cases hc
  | succ n ih =>
    have many : ∀ xs : List D, dps xs ≤ n → closedAll xs = true → doks xs = true → tws xs ≤ 1999999 → ∃ ps, xs.mapM (toPy [] n) = some ps ∧ PyData.showableAll ps = true ∧ widAll ps ≤ tws xs := by
      intro xs
      induction xs with
      | nil => intro _ _ _ _; exact ⟨[], by simp, by simp only [PyData.showableAll], by unfold widAll tws; omega⟩
      | cons x xs ih2 =>
        intro h1 h2 h3 h4
        unfold dps at h1
        unfold closedAll at h2
        unfold doks at h3
        unfold tws at h4
        rw [Bool.and_eq_true] at h2 h3
        obtain ⟨p, p1, p2, p3⟩ := ih x (by omega) h2.1 h3.1 (by omega)
        obtain ⟨ps, q1, q2, q3⟩ := ih2 (by omega) h2.2 h3.2 (by omega)
        refine ⟨p :: ps, ?_, ?_, ?_⟩
        · rw [List.mapM_cons, p1, q1]; rfl
        · simp only [PyData.showableAll, p2, q2, Bool.and_true]
        · unfold widAll tws; omega
    intro d hd hc hk hw
    cases d with
    | non => exact ⟨.none, rfl, by decide +kernel, by unfold wid tw; omega⟩
    | bl b => exact ⟨.bool b, rfl, by cases b <;> decide +kernel, by unfold wid tw; omega⟩
    | int i =>
      unfold tw at hw ⊢
      split at hw
      · rename_i h
        rw [if_pos h]
        exact ⟨.int i, rfl, showKey_int h, wid_int h⟩
      · omega
    | str x => exact ⟨.str x, rfl, by simp only [PyData.showable], by unfold wid tw; omega⟩
    | tup xs =>
      unfold dp at hd
      unfold closed at hc
      unfold dok at hk
      unfold tw at hw
      obtain ⟨ps, q1, q2, q3⟩ := many xs (by omega) hc hk (by omega)
      refine ⟨.tuple ps, ?_, ?_, ?_⟩
      · show (xs.mapM (toPy [] n)).map PyData.tuple = _
        rw [q1]; rfl
      · simp only [PyData.showable, q2]
      · unfold wid tw; omega
    | lst xs =>
      unfold dp at hd
      unfold closed at hc
      unfold dok at hk
      unfold tw at hw
      obtain ⟨ps, q1, q2, q3⟩ := many xs (by omega) hc hk (by omega)
      refine ⟨.list ps, ?_, ?_, ?_⟩
      · show (xs.mapM (toPy [] n)).map PyData.list = _
        rw [q1]; rfl
      · simp only [PyData.showable, q2]
      · unfold wid tw; omega
    | dct ks xs =>
      unfold dp at hd
      unfold closed at hc
      unfold dok at hk
      unfold tw at hw
      rw [Bool.and_eq_true, decide_eq_true_eq] at hk
      obtain ⟨ps, q1, q2, q3⟩ := many xs (by omega) hc hk.2 (by omega)
      have hl : ks.length = ps.length := by rw [mapM_len q1]; exact hk.1
      have kv : ∀ (ks : List L2.Key) (ps : List PyData), ks.length = ps.length → PyData.showableAll ps = true → twk ks + widAll ps ≤ 1999999 → PyData.showableKv (zipKv ks ps) = true ∧ widKv (zipKv ks ps) ≤ twk ks + widAll ps := by
        intro ks
        induction ks with
        | nil => intro ps _ _ _; exact ⟨by simp only [zipKv, PyData.showableKv], by unfold zipKv widKv; omega⟩
        | cons k ks ih =>
          intro ps hl hs hw
          cases ps with
          | nil => cases hl
          | cons p ps =>
            simp only [PyData.showableAll, Bool.and_eq_true] at hs
            cases k with
            | inl i =>
              unfold twk widAll at hw
              have hi : -(2 ^ 200) < i ∧ i < 2 ^ 200 := by
                by_cases h : -(2 ^ 200) < i ∧ i < 2 ^ 200
                · exact h
                · rw [if_neg h] at hw; omega
              rw [if_pos hi] at hw
              obtain ⟨g1, g2⟩ := ih ps (by simpa using hl) hs.2 (by omega)
              have := wid_int hi
              refine ⟨?_, ?_⟩
              · simp only [zipKv, PyData.showableKv, keyPy, showKey_int hi, hs.1, g1, Bool.and_true]
              · unfold zipKv widKv twk widAll
                rw [if_pos hi]
                have : wid (keyPy (.inl i)) = wid (.int i) := rfl
                omega
            | inr x =>
              unfold twk widAll at hw
              obtain ⟨g1, g2⟩ := ih ps (by simpa using hl) hs.2 (by omega)
              have hx : (PyData.str x).showable = true := by simp only [PyData.showable]
              have hwx : wid (.str x) = widStr x := by unfold wid; rfl
              refine ⟨?_, ?_⟩
              · simp only [zipKv, PyData.showableKv, keyPy, hx, hs.1, g1, Bool.and_true]
              · unfold zipKv widKv twk widAll
                have : wid (keyPy (.inr x)) = widStr x := hwx
                omega
      obtain ⟨k1, k2⟩ := kv ks ps hl q2 (by omega)
      refine ⟨.dict (zipKv ks ps), ?_, ?_, ?_⟩
      · show (if ks.length = xs.length then (xs.mapM (toPy [] n)).map fun ps => PyData.dict (zipKv ks ps) else none) = _
        rw [if_pos hk.1, q1]; rfl
      · simp only [PyData.showable, k1]
      · unfold wid tw; omega
    | _ => unfold closed at hc; cases hc
theorem Okv.repr {k w : Nat} {d : D} (h : Okv k w d) (hk : k ≤ 12) (hw : w ≤ 1000000) : ∃ x, reprD [] d = some (.str x) := by
  obtain ⟨p, p1, p2, p3⟩ := tw_py deep d (Nat.le_trans h.dp hk) h.cl h.dk (by have := h.tw; omega)
  refine ⟨p.shown, ?_⟩
  unfold reprD
  rw [p1]
  dsimp only
  rw [if_pos ⟨p2, Nat.le_trans p3 (Nat.le_trans h.tw hw)⟩]
theorem Okv.mono {k w k' w' : Nat} {d : D} (h : Okv k w d) (hk : k ≤ k') (hw : w ≤ w') : Okv k' w' d := ⟨h.cl, h.dk, Nat.le_trans h.dp hk, Nat.le_trans h.tw hw⟩
theorem ok_int {i : Int} (h : -(2 ^ 200) < i ∧ i < 2 ^ 200) : Okv 0 203 (.int i) := ⟨rfl, rfl, Nat.le_refl _, by unfold tw; rw [if_pos h]; exact Nat.le_refl _⟩
theorem ok_bl (b : Bool) : Okv 0 5 (.bl b) := ⟨rfl, rfl, Nat.le_refl _, Nat.le_refl _⟩
theorem ok_non : Okv 0 4 .non := ⟨rfl, rfl, Nat.le_refl _, Nat.le_refl _⟩
theorem ok_str {x : Str} {w : Nat} (h : widStr x ≤ w) : Okv 0 w (.str x) := ⟨rfl, rfl, Nat.le_refl _, h⟩
theorem ok_all {k w : Nat} : ∀ {xs : List D}, (∀ x ∈ xs, Okv k w x) → closedAll xs = true ∧ doks xs = true ∧ dps xs ≤ k ∧ tws xs ≤ xs.length * (w + 2)
  | [], _ => ⟨rfl, rfl, Nat.zero_le _, Nat.zero_le _⟩
  | x :: xs, h => by
    have h1 := h x List.mem_cons_self
    obtain ⟨a, b, c, d⟩ := ok_all (xs := xs) fun y hy => h y (List.mem_cons_of_mem _ hy)
    refine ⟨?_, ?_, ?_, ?_⟩
    · unfold closedAll; rw [h1.cl, a]; rfl
    · unfold doks; rw [h1.dk, b]; rfl
    · unfold dps; exact Nat.max_le.mpr ⟨h1.dp, c⟩
    · unfold tws
      rw [List.length_cons, Nat.add_mul]
      have := h1.tw
      omega
theorem ok_tup {k w n : Nat} {xs : List D} (h : ∀ x ∈ xs, Okv k w x) (hl : xs.length ≤ n) : Okv (k + 1) (n * (w + 2) + 3) (.tup xs) := by
  obtain ⟨a, b, c, d⟩ := ok_all h
  refine ⟨by unfold closed; exact a, by unfold dok; exact b, by unfold dp; omega, ?_⟩
  unfold tw
  have := Nat.mul_le_mul_right (w + 2) hl
  omega
theorem ok_lst {k w n : Nat} {xs : List D} (h : ∀ x ∈ xs, Okv k w x) (hl : xs.length ≤ n) : Okv (k + 1) (n * (w + 2) + 3) (.lst xs) := by
  obtain ⟨a, b, c, d⟩ := ok_all h
  refine ⟨by unfold closed; exact a, by unfold dok; exact b, by unfold dp; omega, ?_⟩
  unfold tw
  have := Nat.mul_le_mul_right (w + 2) hl
  omega
end Ev
/-! Defs that many texts have: numbers, positions, tuples by a word, some elements. -/
namespace Ev
open PySem
structure Has (T : Tx) (kd : Str → Kd) (f : Str) (d : Df) : Prop where
  lk : T.lookup f = some d
  ow : kd f = .own
theorem Has.call {T : Tx} {kd : Str → Kd} {f : Str} {d : Df} {ds : List D} {k : Nat} (h : Has T kd f d) (hl : ds.length = d.par.length) : pCall (T.pat kd (k + 1)) f [] ds = (Tr.noEx (pSs (T.pat kd k) d.body (ds.map some ++ List.replicate (d.names - ds.length) none))).bnd PR.end_ := by
  rw [p_pos h.lk hl, p_run h.lk h.ow hl]
namespace Bd
def is_integer : Df := ⟨["value"], 1, [
    (.ret (some (.and (.isi (.v 0) .int) (.not (.isi (.v 0) .bool)))))]⟩
def is_count : Df := ⟨["value"], 1, [
    (.ret (some (.and (.call "is_integer" [] [(.v 0)]) (.cmp .ge (.v 0) (.c (.int (0)))))))]⟩
def is_within : Df := ⟨["value", "least", "most"], 3, [
    (.ret (some (.and (.call "is_integer" [] [(.v 0)]) (.chain .le .le (.v 1) (.v 0) (.v 2)))))]⟩
def is_position : Df := ⟨["value", "things"], 2, [
    (.ret (some (.and (.call "is_count" [] [(.v 0)]) (.cmp .lt (.v 0) (.pr false .len [(.v 1)])))))]⟩
def is_tuple_of : Df := ⟨["value", "word", "size"], 3, [
    (.iff (.or (.not (.isi (.v 0) .tuple)) (.cmp .ne (.pr false .len [(.v 0)]) (.v 2))) [(.ret (some (.c (.bl false))))] []),
    (.ret (some (.and (.isi (.ix (.v 0) (.c (.int (0)))) .str) (.cmp .eq (.ix (.v 0) (.c (.int (0)))) (.v 1)))))]⟩
def are_some : Df := ⟨["value", "least", "most"], 3, [
    (.ret (some (.and (.isi (.v 0) .tuple) (.chain .le .le (.v 1) (.pr false .len [(.v 0)]) (.v 2)))))]⟩
def law_is_int : Df := ⟨["value", "low", "high"], 3, [
    (.ret (some (.and (.isi (.v 0) .int) (.and (.not (.isi (.v 0) .bool)) (.chain .le .le (.v 1) (.v 0) (.v 2))))))]⟩
def law_pick : Df := ⟨["pot", "some"], 2, [
    (.ret (some (.ix (.v 1) (.call "_law_draw" [] [(.v 0), (.pr false .len [(.v 1)])]))))]⟩
def law_put : Df := ⟨["row", "at", "thing"], 3, [
    (.ret (some (.bin true .add (.bin false .add (.sl false (.v 0) (.c .non) (.v 1)) (.tup [(.v 2)])) (.sl false (.v 0) (.bin false .add (.v 1) (.c (.int (1)))) (.c .non)))))]⟩
end Bd
structure Bas (T : Tx) (kd : Str → Kd) : Prop where
  is_integer : Has T kd "is_integer" Bd.is_integer
  is_count : Has T kd "is_count" Bd.is_count
  is_within : Has T kd "is_within" Bd.is_within
  is_position : Has T kd "is_position" Bd.is_position
  is_tuple_of : Has T kd "is_tuple_of" Bd.is_tuple_of
  are_some : Has T kd "are_some" Bd.are_some
/-! ### what they say -/
def within (d : D) (a b : Int) : Bool := match d with
  | .int i => decide (a ≤ i) && decide (i ≤ b)
  | _ => false
def isI (d : D) : Bool := match d with
  | .int _ => true
  | _ => false
def cnt (d : D) : Bool := match d with
  | .int i => decide (0 ≤ i)
  | _ => false
/-- a tuple of so many that begins with a word -/
def tupOf (d : D) (w : Str) (n : Int) : Bool := match d with
  | .tup (.str x :: r) => decide ((r.length : Int) + 1 = n) && decide (x = w)
  | _ => false
def sized (d : D) (l m : Int) : Bool := match d with
  | .tup xs => decide (l ≤ (xs.length : Int)) && decide ((xs.length : Int) ≤ m)
  | _ => false
def allOf (d : D) (f : D → Bool) : Bool := match d with
  | .tup xs => xs.all f
  | _ => false
@[simp] theorem tr_if {α : Type} {c : Prop} [Decidable c] {x y : α} : (if c then Tr.ret x else Tr.ret y) = .ret (if c then x else y) := by split <;> rfl
@[simp] theorem tr_if_bnd {α β : Type} {c : Prop} [Decidable c] {x y : Tr α} {f : α → Tr β} : (if c then x else y).bnd f = if c then x.bnd f else y.bnd f := by split <;> rfl
@[simp] theorem tr_if_noEx {α : Type} {c : Prop} [Decidable c] {x y : Tr α} : (if c then x else y).noEx = if c then x.noEx else y.noEx := by split <;> rfl
@[simp] theorem tr_if_toR {α : Type} {c : Prop} [Decidable c] {x y : Tr α} {env : Env} {f : α → Tr PR} : (if c then x else y).toR env f = if c then x.toR env f else y.toR env f := by split <;> rfl
@[simp] theorem q_seq_ret_if {c : Prop} [Decidable c] {x y : PR} {f : Env → Tr PR} : pSeq (.ret (if c then x else y)) f = if c then pSeq (.ret x) f else pSeq (.ret y) f := by split <;> rfl
@[simp] theorem end_if {c : Prop} [Decidable c] {x y : PR} : (if c then x else y).end_ = if c then x.end_ else y.end_ := by split <;> rfl
@[simp] theorem bl_if {c : Prop} [Decidable c] {x y : Bool} : (if c then D.bl x else D.bl y) = .bl (if c then x else y) := by split <;> rfl
@[simp] theorem rt_if {c : Prop} [Decidable c] {x y : D} : (if c then PR.rt x else PR.rt y) = .rt (if c then x else y) := by split <;> rfl
@[simp] theorem and_bb {x y : Bool} : (if x = true then y else x) = (x && y) := by cases x <;> rfl
@[simp] theorem or_bb {x y : Bool} : (if x = true then x else y) = (x || y) := by cases x <;> rfl
section
variable {T : Tx} {kd : Str → Kd} (B : Bas T kd) (k : Nat) (d : D)
include B
theorem c_is_integer (h : closed d = true) : pCall (T.pat kd (k + 1)) "is_integer" [] [d] = .ret (.bl (isI d)) := by
  rw [B.is_integer.call rfl]
  have e1 := ty_int (st := []) (closed_data h)
  have e2 := ty_bool (st := []) (closed_data h)
  cases d <;> simp [Bd.is_integer, q_cons, e1, e2, isInt, isBl, isI]
theorem c_is_count (h : closed d = true) : pCall (T.pat kd (k + 2)) "is_count" [] [d] = .ret (.bl (cnt d)) := by
  rw [B.is_count.call rfl]
  have e := c_is_integer B k d h
  cases d <;> simp [Bd.is_count, q_cons, e, isI, cnt]
theorem c_is_within (a b : Int) (h : closed d = true) : pCall (T.pat kd (k + 2)) "is_within" [] [d, .int a, .int b] = .ret (.bl (within d a b)) := by
  rw [B.is_within.call rfl]
  have e := c_is_integer B k d h
  cases d <;> simp [Bd.is_within, q_cons, e, isI, within]
theorem c_is_position (ps : List D) (h : closed d = true) : pCall (T.pat kd (k + 3)) "is_position" [] [d, .tup ps] = .ret (.bl (within d 0 (ps.length - 1))) := by
  rw [B.is_position.call rfl]
  have e := c_is_count B k d h
  cases d with
  | int i =>
    have e3 : within (.int i) 0 (ps.length - 1) = (cnt (.int i) && decide (i < (ps.length : Int))) := by
      show (decide (0 ≤ i) && decide (i ≤ (ps.length : Int) - 1)) = (decide (0 ≤ i) && decide (i < (ps.length : Int)))
      congr 1
      exact decide_eq_decide.mpr (by omega)
    simp [Bd.is_position, q_cons, e, e3]
  | _ => simp [Bd.is_position, q_cons, e, cnt, within]
theorem c_is_tuple_of (w : Str) (n : Int) (hn : 0 < n) (h : closed d = true) : pCall (T.pat kd (k + 1)) "is_tuple_of" [] [d, .str w, .int n] = .ret (.bl (tupOf d w n)) := by
  rw [B.is_tuple_of.call rfl]
  have e1 := ty_tup (st := []) (closed_data h)
  cases d with
  | tup xs =>
    have hc := closed_tup h
    match xs, hc with
    | [], _ =>
      have : ¬ ((0 : Int) = n) := by omega
      simp [Bd.is_tuple_of, q_cons, e1, isTup, tupOf, this]
    | a :: r, hc =>
      have e2 := ty_str (st := []) (closed_data (hc a List.mem_cons_self))
      by_cases hl : (r.length : Int) + 1 = n
      · cases a <;> simp [Bd.is_tuple_of, q_cons, e1, e2, isTup, isStr, tupOf, hl]
      · cases a <;> simp [Bd.is_tuple_of, q_cons, e1, isTup, tupOf, hl]
  | _ => simp [Bd.is_tuple_of, q_cons, e1, isTup, tupOf]
theorem c_are_some (a b : Int) (h : closed d = true) : pCall (T.pat kd (k + 1)) "are_some" [] [d, .int a, .int b] = .ret (.bl (sized d a b)) := by
  rw [B.are_some.call rfl]
  have e1 := ty_tup (st := []) (closed_data h)
  cases d <;> simp [Bd.are_some, q_cons, e1, isTup, sized]
end
section
variable {T : Tx} {kd : Str → Kd}
theorem c_law_is_int (hh : Has T kd "_law_is_int" Bd.law_is_int) (k : Nat) (d : D) (a b : Int) (h : closed d = true) : pCall (T.pat kd (k + 1)) "_law_is_int" [] [d, .int a, .int b] = .ret (.bl (within d a b)) := by
  rw [hh.call rfl]
  have e1 := ty_int (st := []) (closed_data h)
  have e2 := ty_bool (st := []) (closed_data h)
  cases d <;> simp [Bd.law_is_int, q_cons, e1, e2, isInt, isBl, within]
/-- a pick from some -/
theorem w_pick (hh : Has T kd "_law_pick" Bd.law_pick) (hd : kd "_law_draw" = .draw) {dd : Df} (hl : T.lookup ("_law_draw" : Str) = some dd) (hp : dd.par.length = 2) (k n : Nat) (xs : List D) {Q : D → Prop} {X : Str → D → Prop} (h0 : xs ≠ []) (h1 : xs.length < 1000000) (h : ∀ d ∈ xs, Q d) : (pCall (T.pat kd (k + 2)) "_law_pick" [] [.loc n, .lst xs]).wp Q X := by
  rw [hh.call rfl]
  have hl0 : 0 < xs.length := List.length_pos_iff.mpr h0
  have hdr : pCall (T.pat kd (k + 1)) "_law_draw" [] [.loc n, .int xs.length] = .ask xs.length fun i => .ret (.int i) := by
    rw [p_pos hl (by rw [hp]; rfl), p_draw hd]
  simp only [Bd.law_pick, q_cons, q_ret, p_ix, p_v1, p_v0, p_call, p_cons, p_nil, p_pr, pr_len, len_lst, opt_some, bnd_oks, t_of, t_bnd, hdr, List.map_cons, List.map_nil, List.cons_append, List.nil_append, List.length_cons, List.length_nil, List.replicate]
  rw [wp_bnd, wp_noEx]
  unfold pSeq
  rw [wp_bnd, wp_toR, wp_bnd, w_ask]
  refine ⟨by omega, by omega, fun i i0 i1 => ?_⟩
  obtain ⟨d, hd⟩ : ∃ d, xs[i.toNat]? = some d := ⟨_, List.getElem?_eq_getElem (by omega)⟩
  have g : L2.atI xs i = some d := by rw [atI_lt i0 i1, hd]
  simp only [w_ret, t_bnd, ix_lst, g, t_ofO, end_rt']
  exact h d (List.mem_of_getElem? hd)
/-- a put -/
theorem c_put (hh : Has T kd "_law_put" Bd.law_put) (k : Nat) (xs : List D) (i : Int) (d : D) (h0 : 0 ≤ i) (h1 : i < xs.length) (h2 : xs.length ≤ 1000) : pCall (T.pat kd (k + 1)) "_law_put" [] [.tup xs, .int i, d] = .ret (.tup (xs.set i.toNat d)) := by
  rw [hh.call rfl]
  have c1 : cutL xs none (some i) = xs.take i.toNat := cut_lo h0 (by omega)
  have c2 : cutL xs (some (i + 1)) none = xs.drop (i + 1).toNat := cut_hi (by omega) (by omega)
  have c3 : (i + 1).toNat = i.toNat + 1 := by omega
  have s1 : small ((xs.take i.toNat).length + 1) = true := small_t (by rw [List.length_take]; omega)
  have s2 : small ((xs.take i.toNat ++ [d]).length + (xs.drop (i.toNat + 1)).length) = true := small_t (by
    rw [List.length_append, List.length_take, List.length_drop, List.length_singleton]
    omega)
  have e : xs.take i.toNat ++ [d] ++ xs.drop (i.toNat + 1) = xs.set i.toNat d := by
    rw [List.set_eq_take_append_cons_drop, if_pos (by omega), List.append_assoc]
    rfl
  have o1 : isOmit (E.v 1) = false := rfl
  have o2 : isOmit (.bin false .add (.v 1) (.c (.int (1)))) = false := rfl
  have sm1 : small 1 = true := by decide +kernel
  simp only [Bd.law_put, q_cons, q_ret, p_bin, p_sl, p_v0, p_v1, p_v2, p_cn, p_ci, t_bnd, omit_t, pPart_t, pPart_f, o1, o2, partP_int, sl_tup, t_of, p_tup, p_cons, p_nil, List.length_cons, List.length_nil, Nat.zero_add, sm1, if_true, bin_add_tup, bin_add_int, c1, c2, c3, t_toR, q_seq_rt, t_noEx, end_rt', List.map_cons, List.map_nil, List.cons_append, List.nil_append, s1, List.replicate]
  rw [if_pos s2, t_of, t_toR, q_seq_rt, t_noEx, t_bnd, end_rt', e]
end
/-! ### all of some -/
section
variable {C : PCal}
theorem all_map {α : Type} {xs : List α} {f : α → Bool} : (xs.map f).all id = xs.all f := by
  induction xs with
  | nil => rfl
  | cons x xs ih => rw [List.map_cons, List.all_cons, List.all_cons, ih]; rfl
/-- a tuple's or list's judges, one by one -/
theorem judgeP {i : Nat} {e : E} {env : Env} {xs : List D} {f : D → Bool} {src : E} {al : Bool} (hs : pE C src env = .ret (.tup xs)) (hl : xs.length ≤ 1000000) (h : ∀ d ∈ xs, pE C e ((wipeE env [i]).set i (some d)) = .ret (.bl (f d))) :
    pE C (.comp al [i] (.n i) .seq [src] [] e) env = .ret (.lst (xs.map fun d => .bl (f d))) := by
  rw [p_comp, p_cons, hs, t_bnd, p_nil, t_bnd, t_bnd]
  dsimp only [pIt, pSeqOf]
  rw [if_pos (small_t hl), comp_mapP (f := fun d => .bl (f d)) fun d hd => ?_]
  · rfl
  · unfold pTurn
    rw [setT_n]
    dsimp only
    rw [p_tnil, t_bnd, if_pos rfl, h d hd]
    rfl
@[simp] theorem all_p {xs : List D} {f : D → Bool} {al : Bool} : Tr.of (prD al .all [.lst (xs.map fun d => .bl (f d))] []) = .ret (.bl (xs.all f)) := by
  rw [pr_all, bools_map, opt_some, bnd_oks, all_map]
  rfl
end
theorem sized_tup {d : D} {a b : Int} (h : sized d a b = true) : ∃ xs, d = .tup xs ∧ a ≤ (xs.length : Int) ∧ (xs.length : Int) ≤ b := by
  cases d with
  | tup xs =>
    have h' : (decide (a ≤ (xs.length : Int)) && decide ((xs.length : Int) ≤ b)) = true := h
    rw [Bool.and_eq_true, decide_eq_true_eq, decide_eq_true_eq] at h'
    exact ⟨xs, rfl, h'⟩
  | _ => cases h
theorem tupOf_eq {d : D} {w : Str} {n : Nat} (h : tupOf d w ((n : Nat) + 1 : Nat) = true) : ∃ r, d = .tup (.str w :: r) ∧ r.length = n := by
  cases d with
  | tup xs =>
    match xs, h with
    | .str x :: r, h =>
      have h' : (decide ((r.length : Int) + 1 = ((n : Nat) + 1 : Nat)) && decide (x = w)) = true := h
      rw [Bool.and_eq_true, decide_eq_true_eq, decide_eq_true_eq] at h'
      exact ⟨r, by rw [h'.2], by omega⟩
  | _ => cases h
theorem within_int {d : D} {a b : Int} (h : within d a b = true) : ∃ i, d = .int i ∧ a ≤ i ∧ i ≤ b := by
  cases d with
  | int i =>
    have h' : (decide (a ≤ i) && decide (i ≤ b)) = true := h
    rw [Bool.and_eq_true, decide_eq_true_eq, decide_eq_true_eq] at h'
    exact ⟨i, rfl, h'⟩
  | _ => cases h
end Ev
/-! Parts, rows: the program's judges, a law's judges. -/
namespace Ev
open PySem
namespace Bd
def is_part : Df := ⟨["value"], 4, [
    (.iff (.not (.call "is_tuple_of" [] [(.v 0), (.c (.str "part")), (.c (.int (3)))])) [(.ret (some (.c (.bl false))))] []),
    (.asg (.t [(.n 1), (.n 2), (.n 3)]) (.v 0)),
    (.ret (some (.and (.call "is_within" [] [(.v 2), (.c (.int (1))), (.c (.int (9)))]) (.and (.call "is_within" [] [(.v 3), (.c (.int (1))), (.c (.int (9)))]) (.cmp .le (.v 2) (.v 3))))))]⟩
def hangs_on : Df := ⟨["parts", "value", "least"], 3, [
    (.iff (.or (.not (.isi (.v 1) .tuple)) (.cmp .ne (.pr false .len [(.v 1)]) (.c (.int (2))))) [(.ret (some (.c (.bl false))))] []),
    (.ret (some (.and (.or (.cmp .isN (.ix (.v 1) (.c (.int (0)))) (.c .non)) (.call "is_position" [] [(.ix (.v 1) (.c (.int (0)))), (.v 0)])) (.call "is_within" [] [(.ix (.v 1) (.c (.int (1)))), (.v 2), (.c (.int (99)))]))))]⟩
def is_row_of : Df := ⟨["parts", "value"], 7, [
    (.iff (.not (.call "is_tuple_of" [] [(.v 1), (.c (.str "row")), (.c (.int (4)))])) [(.ret (some (.c (.bl false))))] []),
    (.asg (.t [(.n 2), (.n 3), (.n 4), (.n 5)]) (.v 1)),
    (.iff (.or (.not (.isi (.v 3) .tuple)) (.not (.chain .le .le (.c (.int (1))) (.pr false .len [(.v 3)]) (.c (.int (3)))))) [(.ret (some (.c (.bl false))))] []),
    (.iff (.or (.not (.pr false .all [(.comp false [6] (.n 6) .seq [(.v 3)] [] (.call "hangs_on" [] [(.v 0), (.v 6), (.c (.int (1)))]))])) (.not (.call "hangs_on" [] [(.v 0), (.v 4), (.c (.int (0)))]))) [(.ret (some (.c (.bl false))))] []),
    (.ret (some (.or (.cmp .isN (.v 5) (.c .non)) (.call "is_within" [] [(.v 5), (.c (.int (0))), (.c (.int (99)))]))))]⟩
def are_parts : Df := ⟨["value"], 2, [
    (.ret (some (.and (.call "are_some" [] [(.v 0), (.c (.int (0))), (.c (.int (6)))]) (.pr false .all [(.comp false [1] (.n 1) .seq [(.v 0)] [] (.call "is_part" [] [(.v 1)]))]))))]⟩
def are_rows_of : Df := ⟨["parts", "value"], 3, [
    (.ret (some (.and (.call "are_some" [] [(.v 1), (.c (.int (1))), (.c (.int (3)))]) (.pr false .all [(.comp false [2] (.n 2) .seq [(.v 1)] [] (.call "is_row_of" [] [(.v 0), (.v 2)]))]))))]⟩
def want_parts : Df := ⟨["parts"], 1, [
    (.iff (.not (.call "are_parts" [] [(.v 0)])) [.dead] [])]⟩
def is_row : Df := ⟨["parts", "value"], 2, [
    (.ex (.call "want_parts" [] [(.v 0)])),
    (.ret (some (.call "is_row_of" [] [(.v 0), (.v 1)])))]⟩
def are_rows : Df := ⟨["parts", "value"], 2, [
    (.ex (.call "want_parts" [] [(.v 0)])),
    (.ret (some (.call "are_rows_of" [] [(.v 0), (.v 1)])))]⟩
def law_is_part_of : Df := ⟨["parts", "value"], 2, [
    (.ret (some (.or (.cmp .isN (.v 1) (.c .non)) (.call "_law_is_int" [] [(.v 1), (.c (.int (0))), (.bin false .sub (.pr false .len [(.v 0)]) (.c (.int (1))))]))))]⟩
def law_is_feed : Df := ⟨["parts", "value"], 2, [
    (.ret (some (.and (.isi (.v 1) .tuple) (.and (.cmp .eq (.pr false .len [(.v 1)]) (.c (.int (2)))) (.and (.call "_law_is_part_of" [] [(.v 0), (.ix (.v 1) (.c (.int (0))))]) (.call "_law_is_int" [] [(.ix (.v 1) (.c (.int (1)))), (.c (.int (1))), (.c (.int (99)))]))))))]⟩
def law_is_row : Df := ⟨["parts", "value"], 6, [
    (.iff (.or (.not (.isi (.v 1) .tuple)) (.or (.cmp .ne (.pr false .len [(.v 1)]) (.c (.int (4)))) (.or (.not (.isi (.ix (.v 1) (.c (.int (0)))) .str)) (.cmp .ne (.ix (.v 1) (.c (.int (0)))) (.c (.str "row")))))) [(.ret (some (.c (.bl false))))] []),
    (.asg (.t [(.n 2), (.n 3), (.n 4)]) (.sl true (.v 1) (.c (.int (1))) (.c .non))),
    (.iff (.or (.not (.isi (.v 2) .tuple)) (.or (.not (.chain .le .le (.c (.int (1))) (.pr false .len [(.v 2)]) (.c (.int (3))))) (.not (.pr false .all [(.comp false [5] (.n 5) .seq [(.v 2)] [] (.call "_law_is_feed" [] [(.v 0), (.v 5)]))])))) [(.ret (some (.c (.bl false))))] []),
    (.iff (.or (.not (.isi (.v 3) .tuple)) (.or (.cmp .ne (.pr false .len [(.v 3)]) (.c (.int (2)))) (.or (.not (.call "_law_is_part_of" [] [(.v 0), (.ix (.v 3) (.c (.int (0))))])) (.not (.call "_law_is_int" [] [(.ix (.v 3) (.c (.int (1)))), (.c (.int (0))), (.c (.int (99)))]))))) [(.ret (some (.c (.bl false))))] []),
    (.ret (some (.or (.cmp .isN (.v 4) (.c .non)) (.call "_law_is_int" [] [(.v 4), (.c (.int (0))), (.c (.int (99)))]))))]⟩
def law_are_rows : Df := ⟨["parts", "value"], 3, [
    (.ret (some (.and (.isi (.v 1) .tuple) (.and (.chain .le .le (.c (.int (1))) (.pr false .len [(.v 1)]) (.c (.int (3)))) (.pr false .all [(.comp false [2] (.n 2) .seq [(.v 1)] [] (.call "_law_is_row" [] [(.v 0), (.v 2)]))])))))]⟩
end Bd
structure Prt (T : Tx) (kd : Str → Kd) : Prop extends Bas T kd where
  is_part : Has T kd "is_part" Bd.is_part
  are_parts : Has T kd "are_parts" Bd.are_parts
  want_parts : Has T kd "want_parts" Bd.want_parts
structure Row (T : Tx) (kd : Str → Kd) : Prop extends Prt T kd where
  hangs_on : Has T kd "hangs_on" Bd.hangs_on
  is_row_of : Has T kd "is_row_of" Bd.is_row_of
  are_rows_of : Has T kd "are_rows_of" Bd.are_rows_of
def le2 (a b : D) : Bool := match a, b with
  | .int i, .int j => decide (i ≤ j)
  | _, _ => false
def part (d : D) : Bool := match d with
  | .tup [.str w, a, b] => decide (w = "part") && (within a 1 9 && (within b 1 9 && le2 a b))
  | _ => false
/-- hangs on a part (of n), for at least l -/
def feed (n l : Int) (d : D) : Bool := match d with
  | .tup [a, b] => (isNon a || within a 0 (n - 1)) && within b l 99
  | _ => false
section
variable {n l : Int} {a b c : D} {r : List D}
@[simp] theorem feed_0 : feed n l (.tup []) = false := rfl
@[simp] theorem feed_1 : feed n l (.tup [a]) = false := rfl
@[simp] theorem feed_2 : feed n l (.tup (a :: b :: c :: r)) = false := rfl
@[simp] theorem feed_3 : feed n l .non = false := rfl
@[simp] theorem feed_4 {z : Bool} : feed n l (.bl z) = false := rfl
@[simp] theorem feed_5 {z : Int} : feed n l (.int z) = false := rfl
@[simp] theorem feed_6 {z : Str} : feed n l (.str z) = false := rfl
@[simp] theorem feed_7 {z : List D} : feed n l (.lst z) = false := rfl
@[simp] theorem feed_8 {z : List L2.Key} {y : List D} : feed n l (.dct z y) = false := rfl
@[simp] theorem feed_9 {z : List Int} : feed n l (.ro z) = false := rfl
@[simp] theorem feed_10 {z : Nat} : feed n l (.loc z) = false := rfl
@[simp] theorem feed_11 {z : Str} : feed n l (.fn z) = false := rfl
end
def row (n : Int) (d : D) : Bool := match d with
  | .tup [.str w, f, c, h] => decide (w = "row") && (sized f 1 3 && (allOf f (feed n 1) && (feed n 0 c && (isNon h || within h 0 99))))
  | _ => false
/-- a judge of a tuple by its word says no where there is no such -/
theorem tup_no {d : D} {w : Str} {n : Int} (h : tupOf d w n = false) {f : D → Bool} (hf : ∀ r : List D, (r.length : Int) + 1 = n → f (.tup (.str w :: r)) = true ∨ f (.tup (.str w :: r)) = false) : True := trivial
theorem len2 {r : List D} (h : r.length = 2) : ∃ a b, r = [a, b] := by
  match r, h with
  | [a, b], _ => exact ⟨a, b, rfl⟩
theorem len3 {r : List D} (h : r.length = 3) : ∃ a b c, r = [a, b, c] := by
  match r, h with
  | [a, b, c], _ => exact ⟨a, b, c, rfl⟩
theorem part_no {d : D} (h : tupOf d "part" 3 = false) : part d = false := by
  unfold part
  split
  · rename_i w a b
    have : (decide (((([a, b] : List D).length : Nat) : Int) + 1 = 3) && decide (w = "part")) = false := h
    have : decide (w = "part") = false := by simpa using this
    rw [this]
    rfl
  · rfl
theorem row_no {n : Int} {d : D} (h : tupOf d "row" 4 = false) : row n d = false := by
  unfold row
  split
  · rename_i w a b c
    have : (decide (((([a, b, c] : List D).length : Nat) : Int) + 1 = 4) && decide (w = "row")) = false := h
    have : decide (w = "row") = false := by simpa using this
    rw [this]
    rfl
  · rfl
section
variable {T : Tx} {kd : Str → Kd} (k : Nat) (d : D)
section
variable (B : Prt T kd)
include B
theorem c_is_part (h : closed d = true) : pCall (T.pat kd (k + 3)) "is_part" [] [d] = .ret (.bl (part d)) := by
  rw [B.is_part.call rfl]
  have e1 := c_is_tuple_of B.toBas (k + 1) d "part" 3 (by decide) h
  cases ht : tupOf d "part" 3 with
  | false => rw [ht] at e1; simp [Bd.is_part, q_cons, e1, part_no ht]
  | true =>
    obtain ⟨r, rfl, hr⟩ := tupOf_eq (n := 2) ht
    obtain ⟨a, b, rfl⟩ := len2 hr
    rw [ht] at e1
    have hc := closed_tup h
    have ea := c_is_within B.toBas k a 1 9 (hc a (by simp))
    have eb := c_is_within B.toBas k b 1 9 (hc b (by simp))
    cases ha : within a 1 9 with
    | false => rw [ha] at ea; simp [Bd.is_part, q_cons, e1, ea, part, ha]
    | true =>
      obtain ⟨i, rfl, -, -⟩ := within_int ha
      cases hb : within b 1 9 with
      | false => rw [ha] at ea; rw [hb] at eb; simp [Bd.is_part, q_cons, e1, ea, eb, part, ha, hb]
      | true =>
        obtain ⟨j, rfl, -, -⟩ := within_int hb
        rw [ha] at ea; rw [hb] at eb
        simp [Bd.is_part, q_cons, e1, ea, eb, part, ha, hb, le2]
theorem c_are_parts (h : closed d = true) : pCall (T.pat kd (k + 4)) "are_parts" [] [d] = .ret (.bl (sized d 0 6 && allOf d part)) := by
  rw [B.are_parts.call rfl]
  have e1 := c_are_some B.toBas (k + 2) d 0 6 h
  cases hs : sized d 0 6 with
  | false => rw [hs] at e1; simp [Bd.are_parts, q_cons, e1]
  | true =>
    rw [hs] at e1
    obtain ⟨xs, rfl, _, hl⟩ := sized_tup hs
    have hc := closed_tup h
    have e2 := judgeP (C := T.pat kd (k + 3)) (i := 1) (e := .call "is_part" [] [.v 1]) (env := [some (.tup xs), none]) (xs := xs) (f := part) (src := .v 0) (al := false) rfl (by omega) fun d hd => by
      simp [wipeE, c_is_part k d B (hc d hd)]
    simp [Bd.are_parts, q_cons, e1, -pr_all, e2, allOf]
theorem c_want_parts (h : closed d = true) (hp : (sized d 0 6 && allOf d part) = true) : pCall (T.pat kd (k + 5)) "want_parts" [] [d] = .ret .non := by
  rw [B.want_parts.call rfl]
  have e := c_are_parts k d B h
  rw [hp] at e
  simp [Bd.want_parts, q_cons, e]
end
section
variable (B : Row T kd)
include B
theorem c_hangs_on (ps : List D) (l : Int) (h : closed d = true) : pCall (T.pat kd (k + 4)) "hangs_on" [] [.tup ps, d, .int l] = .ret (.bl (feed ps.length l d)) := by
  rw [B.hangs_on.call rfl]
  have e1 := ty_tup (st := []) (closed_data h)
  cases d with
  | tup xs =>
    have hc := closed_tup h
    match xs, hc with
    | [], _ => simp [Bd.hangs_on, q_cons, e1, isTup, feed]
    | [a], _ => simp [Bd.hangs_on, q_cons, e1, isTup, feed]
    | [a, b], hc =>
      have ea := c_is_position B.toBas k a ps (hc a (by simp))
      have eb := c_is_within B.toBas (k + 1) b l 99 (hc b (by simp))
      cases hn : isNon a <;> cases hw : within a 0 ((ps.length : Int) - 1) <;> rw [hw] at ea <;> simp [Bd.hangs_on, q_cons, e1, isTup, ea, eb, hn, feed, hw]
    | a :: b :: c :: r, _ =>
      have hl : ¬ ((r.length : Int) + 1 + 1 + 1 = 2) := by omega
      simp [Bd.hangs_on, q_cons, e1, isTup, feed, hl]
  | _ => simp [Bd.hangs_on, q_cons, e1, isTup, feed]
theorem c_is_row_of (ps : List D) (h : closed d = true) : pCall (T.pat kd (k + 5)) "is_row_of" [] [.tup ps, d] = .ret (.bl (row ps.length d)) := by
  rw [B.is_row_of.call rfl]
  have e1 := c_is_tuple_of B.toBas (k + 3) d "row" 4 (by decide) h
  cases ht : tupOf d "row" 4 with
  | false => rw [ht] at e1; simp [Bd.is_row_of, q_cons, e1, row_no ht]
  | true =>
    obtain ⟨r, rfl, hr⟩ := tupOf_eq (n := 3) ht
    obtain ⟨f, c, g, rfl⟩ := len3 hr
    rw [ht] at e1
    have hc := closed_tup h
    have tf := ty_tup (st := []) (closed_data (hc f (by simp)))
    have ec := c_hangs_on k c B ps 0 (hc c (by simp))
    have eg := c_is_within B.toBas (k + 2) g 0 99 (hc g (by simp))
    have hr : row ps.length (.tup [.str "row", f, c, g]) = (sized f 1 3 && (allOf f (feed ps.length 1) && (feed ps.length 0 c && (isNon g || within g 0 99)))) := by simp [row]
    rw [hr]
    cases hs : sized f 1 3 with
    | false =>
      cases f with
      | tup fs =>
        have hs' : (decide (1 ≤ (fs.length : Int)) && decide ((fs.length : Int) ≤ 3)) = false := hs
        simp [Bd.is_row_of, q_cons, e1, tf, isTup, hs']
      | _ => simp [Bd.is_row_of, q_cons, e1, tf, isTup]
    | true =>
      obtain ⟨fs, rfl, a1, a2⟩ := sized_tup hs
      have hf := closed_tup (hc (.tup fs) (by simp))
      have ea := judgeP (C := T.pat kd (k + 4)) (i := 6) (e := .call "hangs_on" [] [.v 0, .v 6, .c (.int 1)]) (env := [some (.tup ps), some (.tup [.str "row", .tup fs, c, g]), some (.str "row"), some (.tup fs), some c, some g, none]) (xs := fs) (f := feed ps.length 1) (src := .v 3) (al := false) rfl (by omega) (fun d hd => by
        simp [wipeE, c_hangs_on k d B ps 1 (hf d hd)])
      cases b1 : fs.all (feed ps.length 1) with
      | false => simp [Bd.is_row_of, q_cons, e1, tf, isTup, a1, a2, ea, -pr_all, b1, allOf]
      | true => cases b2 : feed ps.length 0 c <;> rw [b2] at ec <;> simp [Bd.is_row_of, q_cons, e1, tf, isTup, a1, a2, ea, -pr_all, b1, ec, eg, allOf]
theorem c_are_rows_of (ps : List D) (h : closed d = true) : pCall (T.pat kd (k + 6)) "are_rows_of" [] [.tup ps, d] = .ret (.bl (sized d 1 3 && allOf d (row ps.length))) := by
  rw [B.are_rows_of.call rfl]
  have e1 := c_are_some B.toBas (k + 4) d 1 3 h
  cases hs : sized d 1 3 with
  | false => rw [hs] at e1; simp [Bd.are_rows_of, q_cons, e1]
  | true =>
    rw [hs] at e1
    obtain ⟨xs, rfl, _, hl⟩ := sized_tup hs
    have hc := closed_tup h
    have e2 := judgeP (C := T.pat kd (k + 5)) (i := 2) (e := .call "is_row_of" [] [.v 0, .v 2]) (env := [some (.tup ps), some (.tup xs), none]) (xs := xs) (f := row ps.length) (src := .v 1) (al := false) rfl (by omega) fun d hd => by
      simp [wipeE, c_is_row_of k d B ps (hc d hd)]
    simp [Bd.are_rows_of, q_cons, e1, -pr_all, e2, allOf]
end
/-! ### a law's own -/
structure LRow (T : Tx) (kd : Str → Kd) : Prop where
  is_int : Has T kd "_law_is_int" Bd.law_is_int
  is_part_of : Has T kd "_law_is_part_of" Bd.law_is_part_of
  is_feed : Has T kd "_law_is_feed" Bd.law_is_feed
  is_row : Has T kd "_law_is_row" Bd.law_is_row
  are_rows : Has T kd "_law_are_rows" Bd.law_are_rows
section
variable (L : LRow T kd)
include L
theorem c_law_is_part_of (ps : List D) (h : closed d = true) : pCall (T.pat kd (k + 2)) "_law_is_part_of" [] [.tup ps, d] = .ret (.bl (isNon d || within d 0 (ps.length - 1))) := by
  rw [L.is_part_of.call rfl]
  have e := c_law_is_int L.is_int k d 0 (ps.length - 1) h
  simp [Bd.law_is_part_of, q_cons, e]
theorem c_law_is_feed (ps : List D) (h : closed d = true) : pCall (T.pat kd (k + 3)) "_law_is_feed" [] [.tup ps, d] = .ret (.bl (feed ps.length 1 d)) := by
  rw [L.is_feed.call rfl]
  have e1 := ty_tup (st := []) (closed_data h)
  cases d with
  | tup xs =>
    have hc := closed_tup h
    match xs, hc with
    | [], _ => simp [Bd.law_is_feed, q_cons, e1, isTup, feed]
    | [a], _ => simp [Bd.law_is_feed, q_cons, e1, isTup, feed]
    | [a, b], hc =>
      have ea := c_law_is_part_of k a L ps (hc a (by simp))
      have eb := c_law_is_int L.is_int (k + 1) b 1 99 (hc b (by simp))
      cases hw : (isNon a || within a 0 ((ps.length : Int) - 1)) <;> rw [hw] at ea <;> simp [Bd.law_is_feed, q_cons, e1, isTup, ea, eb, feed, hw]
    | a :: b :: c :: r, _ =>
      have hl : ¬ ((r.length : Int) + 1 + 1 + 1 = 2) := by omega
      simp [Bd.law_is_feed, q_cons, e1, isTup, feed, hl]
  | _ => simp [Bd.law_is_feed, q_cons, e1, isTup, feed]
theorem c_law_is_row (ps : List D) (h : closed d = true) : pCall (T.pat kd (k + 4)) "_law_is_row" [] [.tup ps, d] = .ret (.bl (row ps.length d)) := by
  rw [L.is_row.call rfl]
  have e1 := ty_tup (st := []) (closed_data h)
  cases d with
  | tup xs =>
    have hc := closed_tup h
    match xs, hc with
    | [], _ => simp [Bd.law_is_row, q_cons, e1, isTup, row]
    | [_], _ => simp [Bd.law_is_row, q_cons, e1, isTup, row]
    | [_, _], _ => simp [Bd.law_is_row, q_cons, e1, isTup, row]
    | [_, _, _], _ => simp [Bd.law_is_row, q_cons, e1, isTup, row]
    | a :: b :: c :: d :: e :: r, _ =>
      have hl : ¬ ((r.length : Int) + 1 + 1 + 1 + 1 + 1 = 4) := by omega
      simp [Bd.law_is_row, q_cons, e1, isTup, row, hl]
    | [w, f, c, g], hc =>
      have e2 := ty_str (st := []) (closed_data (hc w (by simp)))
      have tf := ty_tup (st := []) (closed_data (hc f (by simp)))
      have tc := ty_tup (st := []) (closed_data (hc c (by simp)))
      have eg := c_law_is_int L.is_int (k + 2) g 0 99 (hc g (by simp))
      cases w with
      | str w =>
        by_cases hw : w = "row"
        · subst hw
          have hr : row ps.length (.tup [.str "row", f, c, g]) = (sized f 1 3 && (allOf f (feed ps.length 1) && (feed ps.length 0 c && (isNon g || within g 0 99)))) := by simp [row]
          rw [hr]
          have cut : cutL [.str "row", f, c, g] (some 1) none = [f, c, g] := rfl
          have o1 : isOmit (E.c (.int 1)) = false := rfl
          cases hs : sized f 1 3 with
          | false =>
            cases f with
            | tup fs =>
              have hs' : (decide (1 ≤ (fs.length : Int)) && decide ((fs.length : Int) ≤ 3)) = false := hs
              simp [Bd.law_is_row, q_cons, e1, e2, tf, isTup, isStr, hs', cut, o1]
            | _ => simp [Bd.law_is_row, q_cons, e1, e2, tf, isTup, isStr, cut, o1]
          | true =>
            obtain ⟨fs, rfl, a1, a2⟩ := sized_tup hs
            have hf := closed_tup (hc (.tup fs) (by simp))
            have ea := judgeP (C := T.pat kd (k + 3)) (i := 5) (e := .call "_law_is_feed" [] [.v 0, .v 5]) (env := [some (.tup ps), some (.tup [.str "row", .tup fs, c, g]), some (.tup fs), some c, some g, none]) (xs := fs) (f := feed ps.length 1) (src := .v 2) (al := false) rfl (by omega) (fun d hd => by
              simp [wipeE, c_law_is_feed k d L ps (hf d hd)])
            have hal : allOf (.tup fs) (feed ps.length 1) = fs.all (feed ps.length 1) := rfl
            rw [hal]
            cases b1 : fs.all (feed ps.length 1) with
            | false => simp [Bd.law_is_row, q_cons, e1, e2, tf, isTup, isStr, cut, o1, a1, a2, ea, -pr_all, b1]
            | true =>
              cases c with
              | tup cs =>
                have hcs := closed_tup (hc (.tup cs) (by simp))
                match cs, hcs with
                | [], _ => simp [Bd.law_is_row, q_cons, e1, e2, tf, tc, isTup, isStr, cut, o1, a1, a2, ea, -pr_all, b1]
                | [_], _ => simp [Bd.law_is_row, q_cons, e1, e2, tf, tc, isTup, isStr, cut, o1, a1, a2, ea, -pr_all, b1]
                | [x, y], hcs =>
                  have ex := c_law_is_part_of (k + 1) x L ps (hcs x (by simp))
                  have ey := c_law_is_int L.is_int (k + 2) y 0 99 (hcs y (by simp))
                  cases hx : (isNon x || within x 0 ((ps.length : Int) - 1)) <;> cases hy : within y 0 99 <;> rw [hx] at ex <;> rw [hy] at ey <;> simp [Bd.law_is_row, q_cons, e1, e2, tf, tc, isTup, isStr, cut, o1, a1, a2, ea, -pr_all, b1, ex, ey, eg, show feed ps.length 0 (.tup [x, y]) = ((isNon x || within x 0 ((ps.length : Int) - 1)) && within y 0 99) from rfl, hx, hy]
                | x :: y :: z :: r, _ =>
                  have hl : ¬ ((r.length : Int) + 1 + 1 + 1 = 2) := by omega
                  simp [Bd.law_is_row, q_cons, e1, e2, tf, tc, isTup, isStr, cut, o1, a1, a2, ea, -pr_all, b1, hl]
              | _ => simp [Bd.law_is_row, q_cons, e1, e2, tf, tc, isTup, isStr, cut, o1, a1, a2, ea, -pr_all, b1]
        · simp [Bd.law_is_row, q_cons, e1, e2, isTup, isStr, row, hw]
      | _ => simp [Bd.law_is_row, q_cons, e1, e2, isTup, isStr, row]
  | _ => simp [Bd.law_is_row, q_cons, e1, isTup, row]
theorem c_law_are_rows (ps : List D) (h : closed d = true) : pCall (T.pat kd (k + 5)) "_law_are_rows" [] [.tup ps, d] = .ret (.bl (sized d 1 3 && allOf d (row ps.length))) := by
  rw [L.are_rows.call rfl]
  have e1 := ty_tup (st := []) (closed_data h)
  cases hs : sized d 1 3 with
  | false =>
    cases d with
    | tup fs =>
      have hs' : (decide (1 ≤ (fs.length : Int)) && decide ((fs.length : Int) ≤ 3)) = false := hs
      simp [Bd.law_are_rows, q_cons, e1, isTup, hs']
    | _ => simp [Bd.law_are_rows, q_cons, e1, isTup]
  | true =>
    obtain ⟨xs, rfl, a1, a2⟩ := sized_tup hs
    have hc := closed_tup h
    have e2 := judgeP (C := T.pat kd (k + 4)) (i := 2) (e := .call "_law_is_row" [] [.v 0, .v 2]) (env := [some (.tup ps), some (.tup xs), none]) (xs := xs) (f := row ps.length) (src := .v 1) (al := false) rfl (by omega) fun d hd => by
      simp [wipeE, c_law_is_row k d L ps (hc d hd)]
    simp [Bd.law_are_rows, q_cons, e1, isTup, a1, a2, -pr_all, e2, allOf]
end
end
end Ev
/-! Racks: the program's judges. -/
namespace Ev
open PySem
namespace Bd
def is_rising : Df := ⟨["value", "most"], 4, [
    (.iff (.or (.not (.isi (.v 0) .tuple)) (.not (.pr false .all [(.comp false [2] (.n 2) .seq [(.v 0)] [] (.and (.call "is_count" [] [(.v 2)]) (.cmp .lt (.v 2) (.v 1))))]))) [(.ret (some (.c (.bl false))))] []),
    (.ret (some (.pr true .all [(.comp false [2, 3] (.t [(.n 2), (.n 3)]) .zip2 [(.v 0), (.sl false (.v 0) (.c (.int (1))) (.c .non))] [] (.cmp .lt (.v 2) (.v 3)))])))]⟩
def is_rack_of : Df := ⟨["parts", "rows", "value"], 10, [
    (.iff (.not (.call "is_tuple_of" [] [(.v 2), (.c (.str "rack")), (.c (.int (7)))])) [(.ret (some (.c (.bl false))))] []),
    (.asg (.t [(.n 3), (.n 4), (.n 5), (.n 6), (.n 7), (.n 8), (.n 9)]) (.v 2)),
    (.iff (.or (.not (.call "is_position" [] [(.v 4), (.v 1)])) (.or (.not (.call "is_within" [] [(.v 5), (.c (.int (0))), (.c (.int (2)))])) (.not (.call "is_within" [] [(.v 6), (.c (.int (1))), (.c (.int (6)))])))) [(.ret (some (.c (.bl false))))] []),
    (.ret (some (.and (.call "is_within" [] [(.v 7), (.c (.int (0))), (.c (.int (9)))]) (.and (.call "is_rising" [] [(.v 8), (.pr false .len [(.v 0)])]) (.call "is_within" [] [(.v 9), (.c (.int (1))), (.c (.int (9)))])))))]⟩
def are_racks_of : Df := ⟨["parts", "rows", "value"], 5, [
    (.iff (.or (.not (.call "are_some" [] [(.v 2), (.c (.int (1))), (.c (.int (5)))])) (.not (.pr false .all [(.comp false [3] (.n 3) .seq [(.v 2)] [] (.call "is_rack_of" [] [(.v 0), (.v 1), (.v 3)]))]))) [(.ret (some (.c (.bl false))))] []),
    (.ret (some (.cmp .le (.pr false .sum [(.comp false [4] (.n 4) .seq [(.v 2)] [] (.ix (.v 4) (.c (.int (3)))))]) (.c (.int (16))))))]⟩
def want_rows : Df := ⟨["parts", "rows"], 2, [
    (.ex (.call "want_parts" [] [(.v 0)])),
    (.iff (.not (.call "are_rows_of" [] [(.v 0), (.v 1)])) [.dead] [])]⟩
def want_racks : Df := ⟨["parts", "rows", "racks"], 3, [
    (.ex (.call "want_rows" [] [(.v 0), (.v 1)])),
    (.iff (.not (.call "are_racks_of" [] [(.v 0), (.v 1), (.v 2)])) [.dead] [])]⟩
def want_row : Df := ⟨["rows", "row"], 2, [
    (.iff (.not (.call "is_position" [] [(.v 1), (.v 0)])) [.dead] [])]⟩
def want_out : Df := ⟨["parts", "out"], 2, [
    (.iff (.not (.call "is_rising" [] [(.v 1), (.pr false .len [(.v 0)])])) [.dead] [])]⟩
end Bd
structure Rck (T : Tx) (kd : Str → Kd) : Prop extends Row T kd where
  is_rising : Has T kd "is_rising" Bd.is_rising
  is_rack_of : Has T kd "is_rack_of" Bd.is_rack_of
  are_racks_of : Has T kd "are_racks_of" Bd.are_racks_of
  want_rows : Has T kd "want_rows" Bd.want_rows
  want_racks : Has T kd "want_racks" Bd.want_racks
/-- a pair that rises -/
def ltP (d : D) : Bool := match d with
  | .tup [.int a, .int b] => decide (a < b)
  | _ => false
def rising (m : Int) (d : D) : Bool := match d with
  | .tup xs => xs.all (fun d => within d 0 (m - 1)) && (zipD xs (xs.drop 1)).all ltP
  | _ => false
def rack (n m : Int) (d : D) : Bool := match d with
  | .tup [.str w, a, b, c, e, hs, g] => decide (w = "rack") && (within a 0 (m - 1) && (within b 0 2 && (within c 1 6 && (within e 0 9 && (rising n hs && within g 1 9)))))
  | _ => false
def manyOf (d : D) : Int := match d with
  | .tup [_, _, _, .int c, _, _, _] => c
  | _ => 0
def racks (n m : Int) (d : D) : Bool := match d with
  | .tup xs => sized (.tup xs) 1 5 && (xs.all (rack n m) && decide ((xs.map manyOf).sum ≤ 16))
  | _ => false
/-- no long tuple -/
def Shrt (d : D) : Prop := ∀ xs, d = .tup xs → xs.length ≤ 1000
def ShrtR (d : D) : Prop := ∀ w a b c e hs g, d = .tup [w, a, b, c, e, hs, g] → Shrt hs
theorem zip_mem : ∀ {xs ys : List D} {d : D}, d ∈ zipD xs ys → ∃ x ∈ xs, ∃ y ∈ ys, d = .tup [x, y]
  | [], _, d, h => nomatch h
  | _ :: _, [], d, h => nomatch h
  | x :: xs, y :: ys, d, h => by
    rcases List.mem_cons.mp h with h | h
    · exact ⟨x, List.mem_cons_self, y, List.mem_cons_self, h⟩
    · obtain ⟨a, ha, b, hb, e⟩ := zip_mem h
      exact ⟨a, List.mem_cons_of_mem _ ha, b, List.mem_cons_of_mem _ hb, e⟩
theorem zip_len : ∀ {xs ys : List D}, (zipD xs ys).length ≤ xs.length
  | [], _ => Nat.le_refl _
  | _ :: _, [] => Nat.zero_le _
  | x :: xs, y :: ys => Nat.succ_le_succ zip_len
theorem cut_1 {xs : List D} : cutL xs (some 1) none = xs.drop 1 := by
  cases xs with
  | nil => simp [cutL]
  | cons x xs => exact cut_hi (by omega) (by rw [List.length_cons]; omega)
theorem len6 {r : List D} (h : r.length = 6) : ∃ a b c d e f, r = [a, b, c, d, e, f] := by
  match r, h with
  | [a, b, c, d, e, f], _ => exact ⟨a, b, c, d, e, f, rfl⟩
theorem rack_no {n m : Int} {d : D} (h : tupOf d "rack" 7 = false) : rack n m d = false := by
  unfold rack
  split
  · rename_i w a b c e hs g
    have : (decide (((([a, b, c, e, hs, g] : List D).length : Nat) : Int) + 1 = 7) && decide (w = "rack")) = false := h
    have : decide (w = "rack") = false := by simpa using this
    rw [this]
    rfl
  · rfl
theorem ints_map {α : Type} (f : α → Int) : ∀ xs : List α, intsD (xs.map fun x => D.int (f x)) = some (xs.map f)
  | [] => rfl
  | x :: xs => by
    show ((intsD (xs.map fun x => D.int (f x))).map (f x :: ·)) = _
    rw [ints_map f xs]
    rfl
theorem rack_many {n m : Int} {d : D} (h : rack n m d = true) : ∃ w a b c e hs g, d = .tup [w, a, b, .int c, e, hs, g] ∧ manyOf d = c := by
  unfold rack at h
  split at h
  · rename_i w a b c e hs g
    simp only [Bool.and_eq_true] at h
    obtain ⟨c, rfl, _⟩ := within_int h.2.2.2.1
    exact ⟨_, _, _, _, _, _, _, rfl, rfl⟩
  · cases h
section
variable {T : Tx} {kd : Str → Kd} (k : Nat) (d : D)
section
variable (B : Rck T kd)
include B
theorem c_is_rising (m : Int) (h : closed d = true) (hs : Shrt d) : pCall (T.pat kd (k + 3)) "is_rising" [] [d, .int m] = .ret (.bl (rising m d)) := by
  rw [B.is_rising.call rfl]
  have e1 := ty_tup (st := []) (closed_data h)
  cases d with
  | tup xs =>
    have hl := hs xs rfl
    have hc := closed_tup h
    have e2 := judgeP (C := T.pat kd (k + 2)) (i := 2) (e := .and (.call "is_count" [] [.v 2]) (.cmp .lt (.v 2) (.v 1))) (env := [some (.tup xs), some (.int m), none, none]) (xs := xs) (f := fun d => within d 0 (m - 1)) (src := .v 0) (al := false) rfl (by omega) (fun d hd => by
      have e := c_is_count B.toBas k d (hc d hd)
      cases d with
      | int i =>
        cases hi : cnt (.int i) with
        | false =>
          rw [hi] at e
          have : ¬ 0 ≤ i := by simpa [cnt] using hi
          simp [wipeE, e, within, this]
        | true =>
          rw [hi] at e
          have h0 : 0 ≤ i := by simpa [cnt] using hi
          have : (i < m) ↔ (i ≤ m - 1) := by omega
          simp [wipeE, e, within, h0, this]
      | _ => simp [wipeE, e, within, cnt])
    cases ha : xs.all (fun d => within d 0 (m - 1)) with
    | false =>
      have : rising m (.tup xs) = false := by show (xs.all _ && _) = false; rw [ha]; rfl
      simp [Bd.is_rising, q_cons, e1, isTup, e2, -pr_all, ha, this]
    | true =>
      have hr : rising m (.tup xs) = (zipD xs (xs.drop 1)).all ltP := by show (xs.all _ && _) = _; rw [ha]; rfl
      have hi : ∀ x ∈ xs, ∃ i : Int, x = .int i := fun x hx => by
        obtain ⟨i, e, _⟩ := within_int (List.all_eq_true.mp ha x hx)
        exact ⟨i, e⟩
      have e3 : pE (T.pat kd (k + 2)) (.comp false [2, 3] (.t [.n 2, .n 3]) .zip2 [.v 0, .sl false (.v 0) (.c (.int 1)) (.c .non)] [] (.cmp .lt (.v 2) (.v 3))) [some (.tup xs), some (.int m), none, none] = .ret (.lst ((zipD xs (xs.drop 1)).map fun d => .bl (ltP d))) := by
        rw [p_comp]
        have s1 : pEs (T.pat kd (k + 2)) [.v 0, .sl false (.v 0) (.c (.int 1)) (.c .non)] [some (.tup xs), some (.int m), none, none] = .ret [.tup xs, .tup (xs.drop 1)] := by
          simp [cut_1, show isOmit (.c (.int 1)) = false from rfl, pPart]
        rw [s1, t_bnd]
        have s2 : pIt .zip2 [.tup xs, .tup (xs.drop 1)] = some (zipD xs (xs.drop 1)) := rfl
        rw [s2]
        dsimp only
        rw [if_pos (small_t (Nat.le_trans zip_len (by omega))), comp_mapP (f := fun d => .bl (ltP d)) fun d hd => ?_]
        · rfl
        · obtain ⟨x, hx, y, hy, rfl⟩ := zip_mem hd
          obtain ⟨i, rfl⟩ := hi x hx
          obtain ⟨j, rfl⟩ := hi y (List.mem_of_mem_drop hy)
          unfold pTurn
          simp [wipeE, setT, setTs, ltP]
      simp [Bd.is_rising, q_cons, e1, isTup, e2, e3, -pr_all, ha, hr]
  | _ => simp [Bd.is_rising, q_cons, e1, isTup, rising]
theorem c_is_rack_of (ps rs : List D) (h : closed d = true) (hs : ShrtR d) : pCall (T.pat kd (k + 4)) "is_rack_of" [] [.tup ps, .tup rs, d] = .ret (.bl (rack ps.length rs.length d)) := by
  rw [B.is_rack_of.call rfl]
  have e1 := c_is_tuple_of B.toBas (k + 2) d "rack" 7 (by decide) h
  cases ht : tupOf d "rack" 7 with
  | false => rw [ht] at e1; simp [Bd.is_rack_of, q_cons, e1, rack_no ht]
  | true =>
    obtain ⟨r, rfl, hr⟩ := tupOf_eq (n := 6) ht
    obtain ⟨a, b, c, e, hg, g, rfl⟩ := len6 hr
    rw [ht] at e1
    have hc := closed_tup h
    have ea := c_is_position B.toBas k a rs (hc a (by simp))
    have eb := c_is_within B.toBas (k + 1) b 0 2 (hc b (by simp))
    have ec := c_is_within B.toBas (k + 1) c 1 6 (hc c (by simp))
    have ee := c_is_within B.toBas (k + 1) e 0 9 (hc e (by simp))
    have eh := c_is_rising k hg B ps.length (hc hg (by simp)) (hs _ _ _ _ _ _ _ rfl)
    have eg := c_is_within B.toBas (k + 1) g 1 9 (hc g (by simp))
    have hr : rack ps.length rs.length (.tup [.str "rack", a, b, c, e, hg, g]) = (within a 0 (rs.length - 1) && (within b 0 2 && (within c 1 6 && (within e 0 9 && (rising ps.length hg && within g 1 9))))) := by simp [rack]
    rw [hr]
    cases h1 : within a 0 ((rs.length : Int) - 1) with
    | false => rw [h1] at ea; simp [Bd.is_rack_of, q_cons, e1, ea]
    | true =>
      rw [h1] at ea
      cases h2 : within b 0 2 with
      | false => rw [h2] at eb; simp [Bd.is_rack_of, q_cons, e1, ea, eb]
      | true =>
        rw [h2] at eb
        cases h3 : within c 1 6 with
        | false => rw [h3] at ec; simp [Bd.is_rack_of, q_cons, e1, ea, eb, ec]
        | true =>
          rw [h3] at ec
          cases h4 : within e 0 9 with
          | false => rw [h4] at ee; simp [Bd.is_rack_of, q_cons, e1, ea, eb, ec, ee]
          | true =>
            rw [h4] at ee
            cases h5 : rising (ps.length : Int) hg <;> rw [h5] at eh <;> simp [Bd.is_rack_of, q_cons, e1, ea, eb, ec, ee, eh, eg]
theorem c_are_racks_of (ps rs : List D) (h : closed d = true) (hs : ∀ xs, d = .tup xs → ∀ x ∈ xs, ShrtR x) : pCall (T.pat kd (k + 5)) "are_racks_of" [] [.tup ps, .tup rs, d] = .ret (.bl (racks ps.length rs.length d)) := by
  rw [B.are_racks_of.call rfl]
  have e1 := c_are_some B.toBas (k + 3) d 1 5 h
  cases hz : sized d 1 5 with
  | false =>
    rw [hz] at e1
    have : racks ps.length rs.length d = false := by
      cases d with
      | tup xs => show (sized (.tup xs) 1 5 && _) = false; rw [hz]; rfl
      | _ => rfl
    simp [Bd.are_racks_of, q_cons, e1, this]
  | true =>
    rw [hz] at e1
    obtain ⟨xs, rfl, _, hl⟩ := sized_tup hz
    have hc := closed_tup h
    have e2 := judgeP (C := T.pat kd (k + 4)) (i := 3) (e := .call "is_rack_of" [] [.v 0, .v 1, .v 3]) (env := [some (.tup ps), some (.tup rs), some (.tup xs), none, none]) (xs := xs) (f := rack ps.length rs.length) (src := .v 2) (al := false) rfl (by omega) fun d hd => by
      simp [wipeE, c_is_rack_of k d B ps rs (hc d hd) (hs xs rfl d hd)]
    have hr : racks ps.length rs.length (.tup xs) = (xs.all (rack ps.length rs.length) && decide ((xs.map manyOf).sum ≤ 16)) := by
      show (sized (.tup xs) 1 5 && _) = _
      rw [hz]
      rfl
    rw [hr]
    cases ha : xs.all (rack ps.length rs.length) with
    | false => simp [Bd.are_racks_of, q_cons, e1, -pr_all, e2, ha]
    | true =>
      have e3 : pE (T.pat kd (k + 4)) (.comp false [4] (.n 4) .seq [.v 2] [] (.ix (.v 4) (.c (.int 3)))) [some (.tup ps), some (.tup rs), some (.tup xs), none, none] = .ret (.lst (xs.map fun d => .int (manyOf d))) := by
        rw [p_comp, p_cons, p_v2, t_bnd, p_nil, t_bnd, t_bnd]
        dsimp only [pIt, pSeqOf]
        rw [if_pos (small_t (by omega)), comp_mapP (f := fun d => .int (manyOf d)) fun d hd => ?_]
        · rfl
        · obtain ⟨w, a, b, c, e, hs, g, rfl, hm⟩ := rack_many (List.all_eq_true.mp ha d hd)
          rw [hm]
          unfold pTurn
          simp [wipeE]
      have e4 : Tr.of (prD false .sum [.lst (xs.map fun d => .int (manyOf d))] []) = .ret (.int (xs.map manyOf).sum) := by
        show Tr.of ((opt (intsD (xs.map fun d => .int (manyOf d))) []).bnd _) = _
        rw [ints_map]
        rfl
      simp [Bd.are_racks_of, q_cons, e1, -pr_all, e2, ha, e3, e4]
theorem c_want_rows (ps : List D) (hp : closed (.tup ps) = true) (hp2 : (sized (.tup ps) 0 6 && allOf (.tup ps) part) = true) (h : closed d = true) (hr : (sized d 1 3 && allOf d (row ps.length)) = true) : pCall (T.pat kd (k + 7)) "want_rows" [] [.tup ps, d] = .ret .non := by
  rw [B.want_rows.call rfl]
  have e1 := c_want_parts (k + 1) (.tup ps) B.toPrt hp hp2
  have e2 := c_are_rows_of k d B.toRow ps h
  rw [hr] at e2
  simp [Bd.want_rows, q_cons, pX, e1, e2]
theorem c_want_racks (ps rs : List D) (hp : closed (.tup ps) = true) (hp2 : (sized (.tup ps) 0 6 && allOf (.tup ps) part) = true) (h : closed (.tup rs) = true) (hr : (sized (.tup rs) 1 3 && allOf (.tup rs) (row ps.length)) = true) (hd : closed d = true) (hs : ∀ xs, d = .tup xs → ∀ x ∈ xs, ShrtR x) (hk : racks ps.length rs.length d = true) : pCall (T.pat kd (k + 8)) "want_racks" [] [.tup ps, .tup rs, d] = .ret .non := by
  rw [B.want_racks.call rfl]
  have e1 := c_want_rows k (.tup rs) B ps hp hp2 h hr
  have e2 := c_are_racks_of (k + 2) d B ps rs hd hs
  rw [hk] at e2
  simp [Bd.want_racks, q_cons, pX, e1, e2]
end
end
end Ev
/-! What must hold ahead, over values: statement by statement. -/
namespace Ev
open PySem
/-- what follows a statement -/
def thenW (N : PR → Prop) (f : Env → Prop) : PR → Prop
  | .nx e => f e
  | r => N r
@[simp] theorem thenW_nx {N : PR → Prop} {f : Env → Prop} {e : Env} : thenW N f (.nx e) = f e := rfl
@[simp] theorem thenW_rt {N : PR → Prop} {f : Env → Prop} {d : D} : thenW N f (.rt d) = N (.rt d) := rfl
@[simp] theorem thenW_ct {N : PR → Prop} {f : Env → Prop} {e : Env} : thenW N f (.ct e) = N (.ct e) := rfl
@[simp] theorem thenW_bk {N : PR → Prop} {f : Env → Prop} {e : Env} : thenW N f (.bk e) = N (.bk e) := rfl
@[simp] theorem thenW_ex {N : PR → Prop} {f : Env → Prop} {e : Env} {c : Str} {v : D} : thenW N f (.ex c v e) = N (.ex c v e) := rfl
section
variable {α : Type} {C : PCal} {env : Env} {e t : E} {s : S} {ss a b body : List S} {N : PR → Prop} {X : Str → D → Prop} {i j : Nat} {tn : TN} {ik : IK} {src es : List E} {Q : D → Prop}
@[simp] theorem ws_nil : (pSs C [] env).wp N X ↔ N (.nx env) := by rw [q_nil, w_ret]
theorem ws_cons : (pSs C (s :: ss) env).wp N X ↔ (pS C s env).wp (thenW N fun e => (pSs C ss e).wp N X) X := by
  rw [q_cons]
  unfold pSeq
  rw [wp_bnd]
  constructor
  · intro h
    refine wp_mono h (fun r hr => ?_) fun _ _ z => z
    cases r with
    | nx e => exact hr
    | rt d => exact (w_ret (Q := N)).mp hr
    | bk e => exact (w_ret (Q := N)).mp hr
    | ct e => exact (w_ret (Q := N)).mp hr
    | ex c v e => exact (w_ret (Q := N)).mp hr
  · intro h
    refine wp_mono h (fun r hr => ?_) fun _ _ z => z
    cases r with
    | nx e => exact hr
    | rt d => exact (w_ret (Q := N)).mpr hr
    | bk e => exact (w_ret (Q := N)).mpr hr
    | ct e => exact (w_ret (Q := N)).mpr hr
    | ex c v e => exact (w_ret (Q := N)).mpr hr
@[simp] theorem w_asg : (pS C (.asg (.n i) e) env).wp N X ↔ (pE C e env).wp (fun d => N (.nx (env.set i (some d)))) (fun c v => N (.ex c v env)) := by
  rw [q_asg, wp_toR]
  simp only [g_n, t_noEx, t_bnd, w_ret]
theorem w_asgT {ts : List Tg} : (pS C (.asg (.t ts) e) env).wp N X ↔ (pE C e env).wp (fun d => (pG C (.t ts) d env).wp (fun e => N (.nx e)) noX) (fun c v => N (.ex c v env)) := by
  rw [q_asg, wp_toR]
  simp only [wp_bnd, wp_noEx, w_ret]
@[simp] theorem w_par {x y : E} : (pS C (.par [i, j] [x, y]) env).wp N X ↔ (pE C x env).wp (fun d => (pE C y env).wp (fun g => N (.nx ((env.set i (some d)).set j (some g)))) (fun c v => N (.ex c v env))) (fun c v => N (.ex c v env)) := by
  rw [q_par, wp_toR]
  simp only [p_cons, p_nil, wp_bnd, t_bnd, w_ret, show ∀ d g : D, setMany [i, j] [d, g] env = some ((env.set i (some d)).set j (some g)) from fun _ _ => rfl]
theorem w_iff : (pS C (.iff t a b) env).wp N X ↔ (pE C t env).wp (fun x => ∃ k, truth [] x = some k ∧ (k = true → (pSs C a env).wp N X) ∧ (k = false → (pSs C b env).wp N X)) (fun c v => N (.ex c v env)) := by
  rw [q_iff, wp_toR, wp_bnd]
  constructor
  · intro h
    refine wp_mono h (fun x hx => ?_) fun _ _ z => z
    obtain ⟨k, e, q⟩ := ofO_wp hx
    exact ⟨k, e, fun z => by rw [z] at q; exact q, fun z => by rw [z] at q; exact q⟩
  · intro h
    refine wp_mono h (fun x hx => ?_) fun _ _ z => z
    obtain ⟨k, e, q1, q2⟩ := hx
    rw [e, t_ofO, w_ret]
    cases k with
    | true => exact q1 rfl
    | false => exact q2 rfl
@[simp] theorem w_ret_ : (pS C (.ret (some e)) env).wp N X ↔ (pE C e env).wp (fun d => N (.rt d)) (fun c v => N (.ex c v env)) := by
  rw [q_ret, wp_toR]
  simp only [w_ret]
theorem w_ex {f : Str} {ks : List Str} : (pS C (.ex (.call f ks es)) env).wp N X ↔ (pE C (.call f ks es) env).wp (fun d => N (.nx env)) (fun c v => N (.ex c v env)) := by
  show ((pE C (.call f ks es) env).toR env fun _ => .ret (.nx env)).wp N X ↔ _
  rw [wp_toR]
  simp only [w_ret]
theorem w_app {x : E} {xs : List D} (h : lstAt env i = some xs) : (pS C (.ex (.app (.v i) x)) env).wp N X ↔ (pE C x env).wp (fun d => xs.length < most ∧ N (.nx (env.set i (some (.lst (xs ++ [d])))))) (fun c v => N (.ex c v env)) := by
  rw [q_ex, x_app, h]
  dsimp only
  rw [wp_toR]
  constructor
  · intro g
    refine wp_mono g (fun d hd => ?_) fun _ _ z => z
    split at hd
    · exact ⟨‹_›, w_ret.mp hd⟩
    · exact (w_bad.mp hd).elim
  · intro g
    refine wp_mono g (fun d hd => ?_) fun _ _ z => z
    rw [if_pos hd.1]
    exact w_ret.mpr hd.2
theorem w_ext {x : E} {xs : List D} (h : lstAt env i = some xs) (g : (pE C x env).wp (fun d => ∃ ys, d = .lst ys ∧ xs.length + ys.length ≤ 1000000 ∧ N (.nx (env.set i (some (.lst (xs ++ ys)))))) (fun c v => N (.ex c v env))) : (pS C (.ex (.ext (.v i) x)) env).wp N X := by
  rw [q_ex, x_ext, h]
  dsimp only
  rw [wp_toR]
  refine wp_mono g (fun d hd => ?_) fun _ _ z => z
  obtain ⟨ys, rfl, h1, h2⟩ := hd
  dsimp only
  rw [if_pos (small_t h1)]
  exact w_ret.mpr h2
theorem w_for (h : (pEs C src env).wp (fun ds => ∃ xs, pIt ik ds = some xs ∧ xs.length ≤ 1000000 ∧ (pFor (fun d env => match setT tn d env with
      | none => .bad
      | some env => pSs C body env) xs env).wp N X) (fun c v => N (.ex c v env))) : (pS C (.for_ tn ik src body) env).wp N X := by
  rw [q_for, wp_toR]
  refine wp_mono h (fun ds hd => ?_) fun _ _ z => z
  obtain ⟨xs, e, hl, g⟩ := hd
  rw [e]
  dsimp only
  rw [if_pos (small_t hl)]
  exact g
/-- a walk with one name -/
theorem w_forN {xs : List D} (I : Nat → Env → Prop) (hsrc : (pEs C src env).wp (fun ds => pIt ik ds = some xs) (fun _ _ => False)) (hl : xs.length ≤ 1000000) (h0 : I 0 env)
    (hs : ∀ m d env, xs[m]? = some d → I m env → (pSs C body (env.set i (some d))).wp (fun r => match r with
      | .nx e => I (m + 1) e
      | .ct e => I (m + 1) e
      | .bk e => N (.nx e)
      | r => N r) noX) (hk : ∀ env, I xs.length env → N (.nx env)) : (pS C (.for_ (.n i) ik src body) env).wp N noX := by
  refine w_for (wp_mono hsrc (fun ds hd => ⟨xs, hd, hl, ?_⟩) fun _ _ z => z.elim)
  exact for_wp I (fun m d env hd hI => hs m d env hd hI) hk env h0
/-- .. with several -/
theorem w_forT {tns : List TN} {xs : List D} (I : Nat → Env → Prop) (hsrc : (pEs C src env).wp (fun ds => pIt ik ds = some xs) (fun _ _ => False)) (hl : xs.length ≤ 1000000) (h0 : I 0 env)
    (hs : ∀ m d env, xs[m]? = some d → I m env → ∃ env1, setT (.t tns) d env = some env1 ∧ (pSs C body env1).wp (fun r => match r with
      | .nx e => I (m + 1) e
      | .ct e => I (m + 1) e
      | .bk e => N (.nx e)
      | r => N r) noX) (hk : ∀ env, I xs.length env → N (.nx env)) : (pS C (.for_ (.t tns) ik src body) env).wp N noX := by
  refine w_for (wp_mono hsrc (fun ds hd => ⟨xs, hd, hl, ?_⟩) fun _ _ z => z.elim)
  refine for_wp I (fun m d env hd hI => ?_) hk env h0
  obtain ⟨env1, e1, w⟩ := hs m d env hd hI
  rw [e1]
  exact w
end
section
variable {α β : Type} {Q : β → Prop} {X : Str → D → Prop}
@[simp] theorem wp_bnds {t : Tr α} {f : α → Tr β} : (t.bnd f).wp Q X ↔ t.wp (fun a => (f a).wp Q X) X := wp_bnd
@[simp] theorem wp_noExs {t : Tr β} : t.noEx.wp Q X ↔ t.wp Q (fun _ _ => False) := wp_noEx
end
section
variable {C : PCal} {env : Env} {elt : E} {ifs src : List E} {i : Nat} {own : List Nat} {ik : IK} {al : Bool} {Q : D → Prop} {X : Str → D → Prop}
/-- a comprehension: each turn's word, the whole list's word -/
theorem w_comp {xs : List D} (P : D → Prop) (hsrc : (pEs C src env).wp (fun ds => pIt ik ds = some xs) X) (hl : xs.length ≤ 1000000) (ht : ∀ d ∈ xs, (pE C elt ((wipeE env own).set i (some d))).wp P noX) (h : ∀ ys : List D, ys.length = xs.length → (∀ y ∈ ys, P y) → Q (.lst ys)) :
    (pE C (.comp al own (.n i) ik src [] elt) env).wp Q X := by
  rw [p_comp, wp_bnd]
  refine wp_mono hsrc (fun ds hd => ?_) fun _ _ z => z
  rw [hd]
  dsimp only
  rw [if_pos (small_t hl), wp_bnd, wp_noEx]
  refine comp_wp (P := P) (fun d hd => ?_) fun ys h1 h2 => w_ret.mpr (h ys h1 h2)
  unfold pTurn
  rw [setT_n]
  dsimp only
  rw [p_tnil, t_bnd, if_pos rfl, wp_bnd]
  exact wp_mono (ht d hd) (fun y hy => w_ret.mpr ⟨y, rfl, hy⟩) fun _ _ z => z
/-- .. in which nothing is drawn -/
theorem e_comp {xs ds : List D} (f : D → D) (hsrc : pEs C src env = .ret ds) (hit : pIt ik ds = some xs) (hl : xs.length ≤ 1000000) (ht : ∀ d ∈ xs, pE C elt ((wipeE env own).set i (some d)) = .ret (f d)) :
    pE C (.comp al own (.n i) ik src [] elt) env = .ret (.lst (xs.map f)) := by
  rw [p_comp, hsrc, t_bnd, hit]
  dsimp only
  rw [if_pos (small_t hl), comp_mapP (f := f) fun d hd => ?_]
  · rfl
  · unfold pTurn
    rw [setT_n]
    dsimp only
    rw [p_tnil, t_bnd, if_pos rfl, ht d hd]
    rfl
end
section
variable {T : Tx} {kd : Str → Kd} {f : Str} {d : Df} {ds : List D} {k : Nat} {Q : D → Prop} {X : Str → D → Prop}
/-- a call of a def, from its body -/
theorem Has.wp (h : Has T kd f d) (env0 : Env) (hl : ds.length = d.par.length) (he : ds.map some ++ List.replicate (d.names - ds.length) none = env0) (w : (pSs (T.pat kd k) d.body env0).wp (fun r => r.end_.wp Q X) noX) : (pCall (T.pat kd (k + 1)) f [] ds).wp Q X := by
  rw [h.call hl, wp_bnd, wp_noEx, he]
  exact w
theorem nums_len {a : Int} {n : Nat} : (numsI a n).length = n := by unfold numsI; simp
theorem nums_is {a : Int} {n m : Nat} {d : D} (h : (numsI a n)[m]? = some d) : d = .int (a + m) ∧ m < n := by
  rw [nums_at] at h
  split at h
  · cases h; exact ⟨rfl, ‹_›⟩
  · cases h
theorem it_rng1 {m : Nat} (h : m ≤ 1000000) : pIt .rng1 [.int m] = some (numsI 0 m) := by
  unfold pIt
  dsimp only
  rw [if_pos (by omega)]
  rfl
end
end Ev
/-! Values alike. -/
namespace Ev
open PySem
mutual
/-- data that may be compared -/
def pln : D → Bool
  | .non => true
  | .bl _ => true
  | .int _ => true
  | .str x => PyData.strOk x
  | .tup xs => plns xs
  | .lst xs => plns xs
  | _ => false
def plns : List D → Bool
  | [] => true
  | x :: xs => pln x && plns xs
end
mutual
/-- == -/
def eqP : D → D → Bool
  | .non, .non => true
  | .bl a, .bl b => a == b
  | .bl a, .int j => (if a then 1 else 0) == j
  | .int i, .bl b => i == (if b then 1 else 0)
  | .int i, .int j => i == j
  | .str x, .str y => x == y
  | .lst xs, .lst ys => eqPs xs ys
  | .tup xs, .tup ys => eqPs xs ys
  | _, _ => false
def eqPs : List D → List D → Bool
  | [], [] => true
  | x :: xs, y :: ys => eqP x y && eqPs xs ys
  | _, _ => false
end
theorem pln_py : ∀ (n : Nat) (d : D), dp d ≤ n → pln d = true → ∃ p, toPy [] n d = some p ∧ p.canLay0 = true := by
  intro n
  induction n with
  | zero =>
    intro d hd hp
    cases d with
    | non => exact ⟨.none, rfl, by decide +kernel⟩
    | bl b => exact ⟨.bool b, rfl, by cases b <;> decide +kernel⟩
    | int i => exact ⟨.int i, rfl, by simp only [PyData.canLay0]⟩
    | str x => unfold pln at hp; exact ⟨.str x, rfl, by simp only [PyData.canLay0]; exact hp⟩
    | tup xs => unfold dp at hd; omega
    | lst xs => unfold dp at hd; omega
    | _ => unfold pln at hp; cases hp
  | succ n ih =>
    have many : ∀ xs : List D, dps xs ≤ n → plns xs = true → ∃ ps, xs.mapM (toPy [] n) = some ps ∧ PyData.canLayAll0 ps = true := by
      intro xs
      induction xs with
      | nil => intro _ _; exact ⟨[], by simp, by simp only [PyData.canLayAll0]⟩
      | cons x xs ih2 =>
        intro h1 h2
        unfold dps at h1
        unfold plns at h2
        rw [Bool.and_eq_true] at h2
        obtain ⟨p, p1, p2⟩ := ih x (by omega) h2.1
        obtain ⟨ps, q1, q2⟩ := ih2 (by omega) h2.2
        refine ⟨p :: ps, ?_, ?_⟩
        · rw [List.mapM_cons, p1, q1]; rfl
        · simp only [PyData.canLayAll0, p2, q2, Bool.and_true]
    intro d hd hp
    cases d with
    | non => exact ⟨.none, rfl, by decide +kernel⟩
    | bl b => exact ⟨.bool b, rfl, by cases b <;> decide +kernel⟩
    | int i => exact ⟨.int i, rfl, by simp only [PyData.canLay0]⟩
    | str x => unfold pln at hp; exact ⟨.str x, rfl, by simp only [PyData.canLay0]; exact hp⟩
    | tup xs =>
      unfold dp at hd
      unfold pln at hp
      obtain ⟨ps, q1, q2⟩ := many xs (by omega) hp
      refine ⟨.tuple ps, ?_, by simp only [PyData.canLay0, q2]⟩
      show (xs.mapM (toPy [] n)).map PyData.tuple = _
      rw [q1]; rfl
    | lst xs =>
      unfold dp at hd
      unfold pln at hp
      obtain ⟨ps, q1, q2⟩ := many xs (by omega) hp
      refine ⟨.list ps, ?_, by simp only [PyData.canLay0, q2]⟩
      show (xs.mapM (toPy [] n)).map PyData.list = _
      rw [q1]; rfl
    | _ => unfold pln at hp; cases hp
theorem eqv_py : ∀ (n : Nat) (d e : D) (p q : PyData), pln d = true → pln e = true → toPy [] n d = some p → toPy [] n e = some q → PyData.eqv p q = eqP d e := by
  intro n
  induction n with
  | zero =>
    intro d e p q hd he hp hq
    cases d <;> first | (unfold pln at hd; cases hd; done) | (unfold toPy at hp; cases hp; done) | (cases hp; cases e <;> first | (unfold pln at he; cases he; done) | (unfold toPy at hq; cases hq; done) | (cases hq; simp only [PyData.eqv, eqP]))
  | succ n ih =>
    have many : ∀ (xs ys : List D) (ps qs : List PyData), plns xs = true → plns ys = true → xs.mapM (toPy [] n) = some ps → ys.mapM (toPy [] n) = some qs → PyData.eqvAll ps qs = eqPs xs ys := by
      intro xs
      induction xs with
      | nil =>
        intro ys ps qs _ _ h1 h2
        simp at h1
        subst h1
        cases ys with
        | nil => simp at h2; subst h2; simp only [PyData.eqvAll, eqPs]
        | cons y ys =>
          have := mapM_len h2
          cases qs with
          | nil => cases this
          | cons q qs => simp only [PyData.eqvAll, eqPs]
      | cons x xs ih2 =>
        intro ys ps qs k1 k2 h1 h2
        rw [List.mapM_cons] at h1
        unfold plns at k1
        rw [Bool.and_eq_true] at k1
        cases hx : toPy [] n x with
        | none => rw [hx] at h1; simp at h1
        | some p =>
          rw [hx] at h1
          cases hxs : xs.mapM (toPy [] n) with
          | none => rw [hxs] at h1; simp at h1
          | some ps' =>
            rw [hxs] at h1
            simp at h1
            subst h1
            cases ys with
            | nil => simp at h2; subst h2; simp only [PyData.eqvAll, eqPs]
            | cons y ys =>
              rw [List.mapM_cons] at h2
              unfold plns at k2
              rw [Bool.and_eq_true] at k2
              cases hy : toPy [] n y with
              | none => rw [hy] at h2; simp at h2
              | some q =>
                rw [hy] at h2
                cases hys : ys.mapM (toPy [] n) with
                | none => rw [hys] at h2; simp at h2
                | some qs' =>
                  rw [hys] at h2
                  simp at h2
                  subst h2
                  simp only [PyData.eqvAll, eqPs]
                  rw [ih x y p q k1.1 k2.1 hx hy, ih2 ys ps' qs' k1.2 k2.2 hxs hys]
    have up : ∀ {xs : List D} {f : List PyData → PyData} {p : PyData}, (xs.mapM (toPy [] n)).map f = some p → ∃ ps, xs.mapM (toPy [] n) = some ps ∧ p = f ps := by
      intro xs f p h
      rw [Option.map_eq_some_iff] at h
      obtain ⟨ps, h1, h2⟩ := h
      exact ⟨ps, h1, h2.symm⟩
    intro d e p q hd he hp hq
    have hde : ∀ z, pln z = true → (∃ xs, z = .tup xs) ∨ (∃ xs, z = .lst xs) ∨ ((∀ xs, z ≠ .tup xs) ∧ (∀ xs, z ≠ .lst xs)) := by
      intro z _
      cases z <;> simp
    cases d <;> first | (unfold pln at hd; cases hd; done) | skip
    all_goals (cases e <;> first | (unfold pln at he; cases he; done) | skip)
    all_goals first
      | (cases hp; cases hq; simp only [PyData.eqv, eqP]; done)
      | (obtain ⟨ps, p1, rfl⟩ := up hp; obtain ⟨qs, q1, rfl⟩ := up hq; simp only [PyData.eqv, eqP]; first | exact many _ _ _ _ (by unfold pln at hd; exact hd) (by unfold pln at he; exact he) p1 q1 | done)
      | (obtain ⟨ps, p1, rfl⟩ := up hp; cases hq; simp only [PyData.eqv, eqP]; done)
      | (cases hp; obtain ⟨qs, q1, rfl⟩ := up hq; simp only [PyData.eqv, eqP]; done)
/-- data that may be compared, at most k deep -/
structure Pl (k : Nat) (d : D) : Prop where
  pl : pln d = true
  dp : dp d ≤ k
theorem eqD_pl {d e : D} (hd : Pl 12 d) (he : Pl 12 e) : eqD [] d e = some (eqP d e) := by
  obtain ⟨p, p1, p2⟩ := pln_py deep d hd.dp hd.pl
  obtain ⟨q, q1, q2⟩ := pln_py deep e he.dp he.pl
  have h1 := toPy_depth deep d p p1
  have h2 := toPy_depth deep e q q1
  unfold eqD
  rw [p1, q1]
  dsimp only
  have s1 : SeqAt.shaped p = true := by unfold SeqAt.shaped; rw [p2]; simp; unfold deep at h1; omega
  have s2 : SeqAt.shaped q = true := by unfold SeqAt.shaped; rw [q2]; simp; unfold deep at h2; omega
  rw [if_pos ⟨s1, s2⟩, eqv_py deep d e p q hd.pl he.pl p1 q1]
theorem eqDD_pl {d e : D} {neg : Bool} (hd : Pl 12 d) (he : Pl 12 e) : eqDD neg d e [] = .ok (.bl (neg != eqP d e)) [] := by
  unfold eqDD
  split
  · congr 3
  · congr 3
  · rw [eqD_pl hd he]
    rfl
theorem cmp_eq_pl {d e : D} (hd : Pl 12 d) (he : Pl 12 e) : cmpD .eq d e [] = .ok (.bl (eqP d e)) [] := by
  show eqDD false d e [] = _
  rw [eqDD_pl hd he]
  cases eqP d e <;> rfl
theorem cmp_ne_pl {d e : D} (hd : Pl 12 d) (he : Pl 12 e) : cmpD .ne d e [] = .ok (.bl (!eqP d e)) [] := by
  show eqDD true d e [] = _
  rw [eqDD_pl hd he]
  cases eqP d e <;> rfl
@[simp] theorem eqP_nil {xs : List D} : eqP (.tup xs) (.tup []) = xs.isEmpty := by cases xs <;> simp [eqP, eqPs]
@[simp] theorem eqP_nilL {xs : List D} : eqP (.lst xs) (.lst []) = xs.isEmpty := by cases xs <;> simp [eqP, eqPs]
mutual
theorem eqP_refl : ∀ d : D, pln d = true → eqP d d = true
  | .non, _ => by simp [eqP]
  | .bl _, _ => by simp [eqP]
  | .int _, _ => by simp [eqP]
  | .str _, _ => by simp [eqP]
  | .tup xs, h => by unfold pln at h; simp only [eqP]; exact eqPs_refl xs h
  | .lst xs, h => by unfold pln at h; simp only [eqP]; exact eqPs_refl xs h
  | .dct _ _, h => by unfold pln at h; cases h
  | .ro _, h => by unfold pln at h; cases h
  | .loc _, h => by unfold pln at h; cases h
  | .fn _, h => by unfold pln at h; cases h
theorem eqPs_refl : ∀ xs : List D, plns xs = true → eqPs xs xs = true
  | [], _ => by simp [eqPs]
  | x :: xs, h => by
    unfold plns at h
    rw [Bool.and_eq_true] at h
    simp only [eqPs, eqP_refl x h.1, eqPs_refl xs h.2, Bool.and_true]
end
theorem pl_all {k : Nat} : ∀ {xs : List D}, (∀ x ∈ xs, Pl k x) → plns xs = true ∧ dps xs ≤ k
  | [], _ => ⟨rfl, Nat.zero_le _⟩
  | x :: xs, h => by
    have h1 := h x List.mem_cons_self
    obtain ⟨a, b⟩ := pl_all (xs := xs) fun y hy => h y (List.mem_cons_of_mem _ hy)
    exact ⟨by unfold plns; rw [h1.pl, a]; rfl, by unfold dps; exact Nat.max_le.mpr ⟨h1.dp, b⟩⟩
theorem pl_tup {k : Nat} {xs : List D} (h : ∀ x ∈ xs, Pl k x) : Pl (k + 1) (.tup xs) := by
  obtain ⟨a, b⟩ := pl_all h
  exact ⟨by unfold pln; exact a, by unfold dp; omega⟩
theorem pl_lst {k : Nat} {xs : List D} (h : ∀ x ∈ xs, Pl k x) : Pl (k + 1) (.lst xs) := by
  obtain ⟨a, b⟩ := pl_all h
  exact ⟨by unfold pln; exact a, by unfold dp; omega⟩
theorem pl_int {i : Int} : Pl 0 (.int i) := ⟨rfl, Nat.le_refl _⟩
theorem pl_non : Pl 0 .non := ⟨rfl, Nat.le_refl _⟩
theorem pl_bl {b : Bool} : Pl 0 (.bl b) := ⟨rfl, Nat.le_refl _⟩
theorem pl_str {x : Str} (h : PyData.strOk x = true) : Pl 0 (.str x) := ⟨h, Nat.le_refl _⟩
theorem Pl.mono {k k' : Nat} {d : D} (h : Pl k d) (hk : k ≤ k') : Pl k' d := ⟨h.pl, Nat.le_trans h.dp hk⟩
end Ev
/-! Loops in which nothing is drawn: what they come to, as an equation. -/
namespace Ev
open PySem
theorem for_ret {body : D → Env → Tr PR} {xs : List D} (I : Nat → Env → Prop) (hs : ∀ i d env, xs[i]? = some d → I i env → ∃ e, (body d env = .ret (.nx e) ∨ body d env = .ret (.ct e)) ∧ I (i + 1) e) {env : Env} (h0 : I 0 env) : ∃ e, pFor body xs env = .ret (.nx e) ∧ I xs.length e := by
  have go : ∀ (ys : List D) (i : Nat) (env : Env), xs.drop i = ys → i ≤ xs.length → I i env → ∃ e, pFor body ys env = .ret (.nx e) ∧ I xs.length e := by
    intro ys
    induction ys with
    | nil =>
      intro i env hd hl h
      have : i = xs.length := by
        have := congrArg List.length hd
        rw [List.length_drop, List.length_nil] at this
        omega
      subst this
      exact ⟨env, rfl, h⟩
    | cons d ys ih =>
      intro i env hd hl h
      have hi : i < xs.length := by
        have := congrArg List.length hd
        rw [List.length_drop, List.length_cons] at this
        omega
      have e1 : xs[i]? = some d := by
        have := List.getElem?_drop (xs := xs) (i := i) (j := 0)
        rw [hd] at this
        simpa using this.symm
      have e2 : xs.drop (i + 1) = ys := by
        rw [← List.tail_drop, hd]
        rfl
      obtain ⟨e, he, hI⟩ := hs i d env e1 h
      unfold pFor
      rcases he with he | he <;> (rw [he, t_bnd]; exact ih (i + 1) e e2 hi hI)
  exact go xs 0 env List.drop_zero (Nat.zero_le _) h0
/-- .. or a return on the way -/
theorem for_retR {body : D → Env → Tr PR} {xs : List D} (I : Nat → Env → Prop) (N : D → Prop) (hs : ∀ i d env, xs[i]? = some d → I i env → (∃ e, (body d env = .ret (.nx e) ∨ body d env = .ret (.ct e)) ∧ I (i + 1) e) ∨ ∃ v, body d env = .ret (.rt v) ∧ N v) {env : Env} (h0 : I 0 env) : (∃ e, pFor body xs env = .ret (.nx e) ∧ I xs.length e) ∨ ∃ v, pFor body xs env = .ret (.rt v) ∧ N v := by
  have go : ∀ (ys : List D) (i : Nat) (env : Env), xs.drop i = ys → i ≤ xs.length → I i env → (∃ e, pFor body ys env = .ret (.nx e) ∧ I xs.length e) ∨ ∃ v, pFor body ys env = .ret (.rt v) ∧ N v := by
    intro ys
    induction ys with
    | nil =>
      intro i env hd hl h
      have : i = xs.length := by
        have := congrArg List.length hd
        rw [List.length_drop, List.length_nil] at this
        omega
      subst this
      exact .inl ⟨env, rfl, h⟩
    | cons d ys ih =>
      intro i env hd hl h
      have hi : i < xs.length := by
        have := congrArg List.length hd
        rw [List.length_drop, List.length_cons] at this
        omega
      have e1 : xs[i]? = some d := by
        have := List.getElem?_drop (xs := xs) (i := i) (j := 0)
        rw [hd] at this
        simpa using this.symm
      have e2 : xs.drop (i + 1) = ys := by
        rw [← List.tail_drop, hd]
        rfl
      unfold pFor
      rcases hs i d env e1 h with ⟨e, he, hI⟩ | ⟨v, he, hv⟩
      · rcases he with he | he <;> (rw [he, t_bnd]; exact ih (i + 1) e e2 hi hI)
      · exact .inr ⟨v, by rw [he, t_bnd], hv⟩
  exact go xs 0 env List.drop_zero (Nat.zero_le _) h0
section
variable {C : PCal} {env : Env} {src : List E} {body : List S} {ds xs : List D} {ik : IK} {tn : TN}
theorem s_for (I : Nat → Env → Prop) (hsrc : pEs C src env = .ret ds) (hit : pIt ik ds = some xs) (hl : xs.length ≤ 1000000) (h0 : I 0 env)
    (hs : ∀ m d env, xs[m]? = some d → I m env → ∃ env1 e, setT tn d env = some env1 ∧ (pSs C body env1 = .ret (.nx e) ∨ pSs C body env1 = .ret (.ct e)) ∧ I (m + 1) e) : ∃ e, pS C (.for_ tn ik src body) env = .ret (.nx e) ∧ I xs.length e := by
  rw [q_for, hsrc, t_toR, hit]
  dsimp only
  rw [if_pos (small_t hl)]
  refine for_ret I (fun i d env hd hI => ?_) h0
  obtain ⟨env1, e, h1, h2, h3⟩ := hs i d env hd hI
  refine ⟨e, ?_, h3⟩
  rw [h1]
  exact h2
theorem s_forR (I : Nat → Env → Prop) (N : D → Prop) (hsrc : pEs C src env = .ret ds) (hit : pIt ik ds = some xs) (hl : xs.length ≤ 1000000) (h0 : I 0 env)
    (hs : ∀ m d env, xs[m]? = some d → I m env → ∃ env1, setT tn d env = some env1 ∧ ((∃ e, (pSs C body env1 = .ret (.nx e) ∨ pSs C body env1 = .ret (.ct e)) ∧ I (m + 1) e) ∨ ∃ v, pSs C body env1 = .ret (.rt v) ∧ N v)) : (∃ e, pS C (.for_ tn ik src body) env = .ret (.nx e) ∧ I xs.length e) ∨ ∃ v, pS C (.for_ tn ik src body) env = .ret (.rt v) ∧ N v := by
  rw [q_for, hsrc, t_toR, hit]
  dsimp only
  rw [if_pos (small_t hl)]
  refine for_retR I N (fun i d env hd hI => ?_) h0
  obtain ⟨env1, h1, h2⟩ := hs i d env hd hI
  rw [h1]
  exact h2
end
/-- tuple(range(n)) -/
theorem pr_rg {al : Bool} {n : Nat} (h : n ≤ 1000000) : Tr.of (prD al (.rg false) [.int (n : Int)] []) = .ret (.tup (numsI 0 n)) := by
  have e : prD al (.rg false) [.int (n : Int)] [] = rgE al false 0 n [] := rfl
  have o : rgOk 0 (n : Int) = true := by unfold rgOk; exact decide_eq_true (by omega)
  rw [e]
  unfold rgE
  rw [if_pos o, if_neg (by decide), t_of]
  unfold rgD numsI
  rw [Int.sub_zero, Int.toNat_natCast]
/-! ### sums -/
theorem sum_nn {α : Type} {f : α → Int} : ∀ {xs : List α}, (∀ x ∈ xs, 0 ≤ f x) → 0 ≤ (xs.map f).sum
  | [], _ => Int.le_refl _
  | x :: xs, h => by
    have h1 := h x List.mem_cons_self
    have h2 := sum_nn (xs := xs) fun y hy => h y (List.mem_cons_of_mem _ hy)
    rw [List.map_cons, List.sum_cons]
    omega
theorem sum_ge {α : Type} {f : α → Int} {x : α} : ∀ {xs : List α}, (∀ x ∈ xs, 0 ≤ f x) → x ∈ xs → f x ≤ (xs.map f).sum
  | y :: xs, h, hx => by
    have h2 := sum_nn (xs := xs) fun y hy => h y (List.mem_cons_of_mem _ hy)
    have h1 := h y List.mem_cons_self
    rw [List.map_cons, List.sum_cons]
    rcases List.mem_cons.mp hx with rfl | hx
    · omega
    · have := sum_ge (xs := xs) (fun y hy => h y (List.mem_cons_of_mem _ hy)) hx
      omega
theorem sum_0 {α : Type} {f : α → Int} : ∀ {xs : List α}, (∀ x ∈ xs, f x = 0) → (xs.map f).sum = 0
  | [], _ => rfl
  | x :: xs, h => by
    have h1 := h x List.mem_cons_self
    have h2 := sum_0 (xs := xs) fun y hy => h y (List.mem_cons_of_mem _ hy)
    rw [List.map_cons, List.sum_cons]
    omega
theorem sum_le {α : Type} {f g : α → Int} : ∀ {xs : List α}, (∀ x ∈ xs, f x ≤ g x) → (xs.map f).sum ≤ (xs.map g).sum
  | [], _ => Int.le_refl _
  | x :: xs, h => by
    have h1 := h x List.mem_cons_self
    have h2 := sum_le (xs := xs) fun y hy => h y (List.mem_cons_of_mem _ hy)
    rw [List.map_cons, List.sum_cons, List.map_cons, List.sum_cons]
    omega
/-! ### things with their places, two by two -/
theorem nums0_is {n m : Nat} {d : D} (h : (numsI 0 n)[m]? = some d) : d = .int m ∧ m < n := by
  obtain ⟨e, h⟩ := nums_is h
  rw [Int.zero_add] at e
  exact ⟨e, h⟩
theorem atI_nat {xs : List D} {j : Nat} {x : D} (h : xs[j]? = some x) : L2.atI xs (j : Int) = some x := by
  have := (List.getElem?_eq_some_iff.mp h).1
  rw [atI_lt (by omega) (by omega), Int.toNat_natCast, h]
theorem enum_is {xs : List D} {m : Nat} {d : D} (h : (enumD 0 xs)[m]? = some d) : ∃ x, xs[m]? = some x ∧ d = .tup [.int (m : Int), x] := by
  rw [enum_at, Nat.zero_add] at h
  cases hx : xs[m]? with
  | none => rw [hx] at h; cases h
  | some x => rw [hx] at h; cases h; exact ⟨x, rfl, rfl⟩
theorem enum_len : ∀ {xs : List D} {i : Nat}, (enumD i xs).length = xs.length
  | [], i => rfl
  | x :: xs, i => by rw [enumD, List.length_cons, List.length_cons, enum_len]
theorem zip_is {xs ys : List D} {m : Nat} {d : D} (h : (zipD xs ys)[m]? = some d) : ∃ x y, xs[m]? = some x ∧ ys[m]? = some y ∧ d = .tup [x, y] := by
  rw [zip_at] at h
  split at h
  · rename_i x y hx hy
    cases h
    exact ⟨x, y, hx, hy, rfl⟩
  · cases h
theorem zip_len_eq : ∀ {xs ys : List D}, xs.length = ys.length → (zipD xs ys).length = xs.length
  | [], ys, _ => rfl
  | x :: xs, [], h => by simp at h
  | x :: xs, y :: ys, h => by
    rw [zipD, List.length_cons, List.length_cons, zip_len_eq (by simpa using h)]
/-! ### comprehensions with draws that come to known things -/
theorem comp_wpM {turn : D → Tr (Option D)} {f : D → D} {Y : Str → D → Prop} : ∀ {xs : List D} {Q : List D → Prop}, (∀ d ∈ xs, (turn d).wp (fun o => o = some (f d)) Y) → Q (xs.map f) → (pComp turn xs).wp Q Y
  | [], Q, _, k => ⟨k⟩
  | d :: xs, Q, h, k => by
    unfold pComp
    rw [wp_bnd]
    refine wp_mono (h d List.mem_cons_self) (fun o ho => ?_) fun _ _ z => z
    subst ho
    dsimp only
    rw [wp_bnd]
    refine comp_wpM (f := f) (fun d hd => h d (List.mem_cons_of_mem _ hd)) ?_
    rw [w_ret]
    exact k
/-! ### lists by positions: what is told of each thing with its position, or nothing -/
def idxFil (f : Nat → D → Option D) : Nat → List D → List D
  | _, [] => []
  | i, r :: rs => match f i r with
    | some d => d :: idxFil f (i + 1) rs
    | none => idxFil f (i + 1) rs
section
variable {f g : Nat → D → Option D}
theorem idxFil_app : ∀ {xs ys : List D} {i : Nat}, idxFil f i (xs ++ ys) = idxFil f i xs ++ idxFil f (i + xs.length) ys
  | [], ys, i => rfl
  | x :: xs, ys, i => by
    have e : i + 1 + xs.length = i + (xs.length + 1) := by omega
    rw [List.cons_append, idxFil, idxFil, List.length_cons]
    cases f i x with
    | none => dsimp only; rw [idxFil_app, e]
    | some d => dsimp only; rw [idxFil_app, e, List.cons_append]
theorem idxFil_one {x : D} {i : Nat} : idxFil f i [x] = (f i x).toList := by
  rw [idxFil]
  cases f i x <;> rfl
theorem take_succ' {α : Type} {xs : List α} {j : Nat} {x : α} (h : xs[j]? = some x) : xs.take (j + 1) = xs.take j ++ [x] := by
  rw [List.take_add_one, h]
  rfl
theorem idxFil_take {xs : List D} {j : Nat} {x : D} (h : xs[j]? = some x) : idxFil f 0 (xs.take (j + 1)) = idxFil f 0 (xs.take j) ++ (f j x).toList := by
  have hl : j < xs.length := (List.getElem?_eq_some_iff.mp h).1
  rw [take_succ' h, idxFil_app, idxFil_one, List.length_take, Nat.min_eq_left (by omega), Nat.zero_add]
theorem idxFil_congr : ∀ {xs : List D} {i : Nat}, (∀ j x, xs[j]? = some x → f (i + j) x = g (i + j) x) → idxFil f i xs = idxFil g i xs
  | [], i, h => rfl
  | x :: xs, i, h => by
    have h0 : f i x = g i x := h 0 x rfl
    have ht : idxFil f (i + 1) xs = idxFil g (i + 1) xs := idxFil_congr fun j y hy => by
      have := h (j + 1) y hy
      rw [show i + 1 + j = i + (j + 1) by omega]
      exact this
    rw [idxFil, idxFil, h0, ht]
theorem idxFil_mem : ∀ {xs : List D} {i : Nat} {d : D}, d ∈ idxFil f i xs ↔ ∃ j x, xs[j]? = some x ∧ f (i + j) x = some d
  | [], i, d => by
    constructor
    · intro h; cases h
    · rintro ⟨j, x, h, _⟩; simp at h
  | x :: xs, i, d => by
    have ih := idxFil_mem (xs := xs) (i := i + 1) (d := d)
    have key : (∃ j y, (x :: xs)[j]? = some y ∧ f (i + j) y = some d) ↔ (f i x = some d ∨ ∃ j y, xs[j]? = some y ∧ f (i + 1 + j) y = some d) := by
      constructor
      · rintro ⟨j, y, h1, h2⟩
        cases j with
        | zero => cases h1; exact .inl h2
        | succ j => exact .inr ⟨j, y, h1, by rw [show i + 1 + j = i + (j + 1) by omega]; exact h2⟩
      · rintro (h | ⟨j, y, h1, h2⟩)
        · exact ⟨0, x, rfl, h⟩
        · exact ⟨j + 1, y, h1, by rw [show i + (j + 1) = i + 1 + j by omega]; exact h2⟩
    rw [key, ← ih, idxFil]
    cases hf : f i x with
    | none => simp
    | some e => simp only [List.mem_cons, Option.some.injEq]; constructor <;> (rintro (h | h); exact .inl h.symm; exact .inr h)
theorem idxFil_len : ∀ {xs : List D} {i : Nat}, (idxFil f i xs).length ≤ xs.length
  | [], i => Nat.le_refl _
  | x :: xs, i => by
    have := idxFil_len (xs := xs) (i := i + 1)
    rw [idxFil, List.length_cons]
    cases f i x with
    | none => dsimp only; omega
    | some d => dsimp only; rw [List.length_cons]; omega
/-- of those at a position, there is at most one -/
theorem idxFil_at {p : D → Bool} {i0 : Nat} : ∀ {xs : List D} {i : Nat}, (∀ j x d, xs[j]? = some x → f (i + j) x = some d → p d = decide (i + j = i0)) → (idxFil f i xs).filter p = (if i ≤ i0 then (match xs[i0 - i]? with
    | some x => (f i0 x).toList
    | none => []) else [])
  | [], i, h => by simp [idxFil]
  | x :: xs, i, h => by
    have h' : ∀ j y d, xs[j]? = some y → f (i + 1 + j) y = some d → p d = decide (i + 1 + j = i0) := fun j y d hy hd => by
      have := h (j + 1) y d hy (by rw [show i + (j + 1) = i + 1 + j by omega]; exact hd)
      rw [this, show i + (j + 1) = i + 1 + j by omega]
    have ih := idxFil_at (p := p) (i0 := i0) (xs := xs) (i := i + 1) h'
    have h0 : ∀ d, f i x = some d → p d = decide (i = i0) := fun d hd => h 0 x d rfl hd
    rw [idxFil]
    by_cases e : i = i0
    · subst e
      rw [if_neg (by omega)] at ih
      rw [if_pos (Nat.le_refl _), Nat.sub_self]
      show _ = (f i x).toList
      cases hf : f i x with
      | none => dsimp only; rw [ih]; rfl
      | some d =>
        dsimp only
        rw [List.filter_cons_of_pos (by rw [h0 d hf]; simp), ih]
        rfl
    · have hn : (match f i x with
        | some d => d :: idxFil f (i + 1) xs
        | none => idxFil f (i + 1) xs).filter p = (idxFil f (i + 1) xs).filter p := by
        cases hf : f i x with
        | none => rfl
        | some d => dsimp only; rw [List.filter_cons_of_neg (by rw [h0 d hf]; simpa using e)]
      rw [hn, ih]
      by_cases hl : i ≤ i0
      · rw [if_pos hl, if_pos (by omega)]
        have : i0 - i = (i0 - (i + 1)) + 1 := by omega
        rw [this]
        rfl
      · rw [if_neg hl, if_neg (by omega)]
end
theorem comp_idx {turn : D → Tr (Option D)} {f : Nat → D → Option D} : ∀ {xs : List D} {n : Nat}, (∀ i d, xs[i]? = some d → turn d = .ret (f (n + i) d)) → pComp turn xs = .ret (idxFil f n xs)
  | [], n, _ => rfl
  | x :: xs, n, h => by
    have h0 := h 0 x rfl
    have ht := comp_idx (turn := turn) (f := f) (xs := xs) (n := n + 1) fun i d hd => by
      rw [show n + 1 + i = n + (i + 1) by omega]
      exact h (i + 1) d hd
    unfold pComp
    rw [h0, t_bnd, idxFil]
    dsimp only [Nat.add_zero]
    cases f n x with
    | none => exact ht
    | some y =>
      dsimp only
      rw [ht]
      rfl
theorem comp_enum {turn : D → Tr (Option D)} {f : Nat → D → Option D} : ∀ {xs : List D} {n : Nat}, (∀ (i : Nat) x, xs[i]? = some x → turn (.tup [.int ((n + i : Nat) : Int), x]) = .ret (f (n + i) x)) → pComp turn (enumD n xs) = .ret (idxFil f n xs)
  | [], n, _ => rfl
  | x :: xs, n, h => by
    have h0 : turn (.tup [.int (n : Int), x]) = .ret (f n x) := h 0 x rfl
    have ht := comp_enum (turn := turn) (f := f) (xs := xs) (n := n + 1) fun i d hd => by
      rw [show n + 1 + i = n + (i + 1) by omega]
      exact h (i + 1) d hd
    unfold enumD pComp
    rw [h0, t_bnd, idxFil]
    cases f n x with
    | none => exact ht
    | some y =>
      dsimp only
      rw [ht]
      rfl
/-! ### statement by statement, as equations -/
theorem trb_assoc {α β γ : Type} {f : α → Tr β} {g : β → Tr γ} : ∀ {t : Tr α}, (t.bnd f).bnd g = t.bnd fun a => (f a).bnd g
  | .ret a => rfl
  | .exc c v => rfl
  | .bad => rfl
  | .ask m k => by show Tr.ask m _ = Tr.ask m _; congr 1; funext i; exact trb_assoc
  | .pot k => by show Tr.pot _ = Tr.pot _; congr 1; funext i; exact trb_assoc
section
variable {C : PCal} {env env' : Env} {e t x y : E} {s : S} {ss a b body : List S} {r : PR} {d g : D} {i j : Nat} {tn : TN} {ik : IK} {src es : List E} {ds xs : List D} {k : Bool}
theorem ss_nil : pSs C [] env = .ret (.nx env) := rfl
theorem ss_cons (h : pS C s env = .ret (.nx env')) (g : pSs C ss env' = .ret r) : pSs C (s :: ss) env = .ret r := by
  rw [q_cons, h]
  exact g
theorem ss_asg (h : pE C e env = .ret d) (g : pSs C ss (env.set i (some d)) = .ret r) : pSs C (.asg (.n i) e :: ss) env = .ret r := by
  refine ss_cons ?_ g
  rw [q_asg, h]
  rfl
theorem ss_asgT {ts : List Tg} (h : pE C e env = .ret d) (h2 : pG C (.t ts) d env = .ret env') (g : pSs C ss env' = .ret r) : pSs C (.asg (.t ts) e :: ss) env = .ret r := by
  refine ss_cons ?_ g
  rw [q_asg, h, t_toR, h2]
  rfl
theorem ss_par (h : pE C x env = .ret d) (h2 : pE C y env = .ret g) (w : pSs C ss ((env.set i (some d)).set j (some g)) = .ret r) : pSs C (.par [i, j] [x, y] :: ss) env = .ret r := by
  refine ss_cons ?_ w
  rw [q_par, p_cons, h, t_bnd, p_cons, h2, t_bnd]
  rfl
theorem ss_ret (h : pE C e env = .ret d) : pSs C (.ret (some e) :: ss) env = .ret (.rt d) := by
  rw [q_cons, q_ret, h]
  rfl
theorem ss_call {f : Str} {ks : List Str} (h : pE C (.call f ks es) env = .ret d) (g : pSs C ss env = .ret r) : pSs C (.ex (.call f ks es) :: ss) env = .ret r := by
  refine ss_cons ?_ g
  show (pE C (.call f ks es) env).toR env (fun _ => .ret (.nx env)) = _
  rw [h]
  rfl
theorem ss_iff (h : pE C t env = .ret d) (ht : truth [] d = some k) (h1 : k = true → pSs C (a ++ ss) env = .ret r) (h2 : k = false → pSs C (b ++ ss) env = .ret r) : pSs C (.iff t a b :: ss) env = .ret r := by
  have app : ∀ (a : List S) (env : Env), pSeq (pSs C a env) (fun env => pSs C ss env) = pSs C (a ++ ss) env := by
    intro a
    induction a with
    | nil => intro env; rfl
    | cons s a ih =>
      intro env
      rw [List.cons_append, q_cons, q_cons]
      unfold pSeq at ih ⊢
      rw [trb_assoc]
      congr 1
      funext z
      cases z <;> first | rfl | exact ih _
  rw [q_cons, q_iff, h, t_bnd, ht, t_ofO, t_toR]
  cases k with
  | true => rw [if_pos rfl, app]; exact h1 rfl
  | false => rw [if_neg (by decide), app]; exact h2 rfl
theorem ss_no (h : pE C t env = .ret (.bl false)) (g : pSs C ss env = .ret r) : pSs C (.iff t a [] :: ss) env = .ret r := ss_iff h rfl (fun z => nomatch z) fun _ => g
theorem ss_yes (h : pE C t env = .ret (.bl true)) (g : pSs C (a ++ ss) env = .ret r) : pSs C (.iff t a b :: ss) env = .ret r := ss_iff h rfl (fun _ => g) fun z => nomatch z
theorem ss_app (hl : lstAt env i = some xs) (h : pE C x env = .ret d) (hm : xs.length < 1000000) (g : pSs C ss (env.set i (some (.lst (xs ++ [d])))) = .ret r) : pSs C (.ex (.app (.v i) x) :: ss) env = .ret r := by
  refine ss_cons ?_ g
  rw [q_ex, x_app, hl]
  dsimp only
  rw [h, t_toR]
  exact if_pos hm
theorem ss_ext {ys : List D} (hl : lstAt env i = some xs) (h : pE C x env = .ret (.lst ys)) (hm : xs.length + ys.length ≤ 1000000) (g : pSs C ss (env.set i (some (.lst (xs ++ ys)))) = .ret r) : pSs C (.ex (.ext (.v i) x) :: ss) env = .ret r := by
  refine ss_cons ?_ g
  rw [q_ex, x_ext, hl]
  dsimp only
  rw [h, t_toR]
  dsimp only
  rw [if_pos (small_t hm)]
/-- something put at the end, where it is so -/
theorem ss_ifApp (h : pE C t env = .ret (.bl k)) (hl : lstAt env i = some xs) (hx : k = true → pE C x env = .ret d) (hm : xs.length < 1000000) (g : pSs C ss (env.set i (some (.lst (xs ++ if k = true then [d] else [])))) = .ret r) : pSs C (.iff t [.ex (.app (.v i) x)] [] :: ss) env = .ret r := by
  cases k with
  | true => exact ss_yes h (ss_app hl (hx rfl) hm g)
  | false =>
    refine ss_no h ?_
    rw [if_neg (by decide), List.append_nil] at g
    have e : env.set i (some (.lst xs)) = env := by
      unfold lstAt at hl
      split at hl
      · rename_i ys hy
        cases hl
        obtain ⟨hi, hv⟩ := List.getElem?_eq_some_iff.mp hy
        rw [← hv, List.set_getElem_self]
      · cases hl
    rw [e] at g
    exact g
theorem ss_for (xs : List D) (I : Nat → Env → Prop) (hsrc : pEs C src env = .ret ds) (hit : pIt ik ds = some xs) (hl : xs.length ≤ 1000000) (h0 : I 0 env)
    (hs : ∀ m d env, xs[m]? = some d → I m env → ∃ env1 e, setT tn d env = some env1 ∧ (pSs C body env1 = .ret (.nx e) ∨ pSs C body env1 = .ret (.ct e)) ∧ I (m + 1) e) (hk : ∀ e, I xs.length e → pSs C ss e = .ret r) : pSs C (.for_ tn ik src body :: ss) env = .ret r := by
  obtain ⟨e, he, hI⟩ := s_for I hsrc hit hl h0 hs
  exact ss_cons he (hk e hI)
/-- .. with one name -/
theorem ss_forN (xs : List D) (I : Nat → Env → Prop) (hsrc : pEs C src env = .ret ds) (hit : pIt ik ds = some xs) (hl : xs.length ≤ 1000000) (h0 : I 0 env)
    (hs : ∀ m d env, xs[m]? = some d → I m env → ∃ e, pSs C body (env.set i (some d)) = .ret (.nx e) ∧ I (m + 1) e) (hk : ∀ e, I xs.length e → pSs C ss e = .ret r) : pSs C (.for_ (.n i) ik src body :: ss) env = .ret r :=
  ss_for xs I hsrc hit hl h0 (fun m d env hd hI => by
    obtain ⟨e, h1, h2⟩ := hs m d env hd hI
    exact ⟨_, e, rfl, .inl h1, h2⟩) hk
/-- .. or a return on the way -/
theorem ss_forR (xs : List D) (I : Nat → Env → Prop) (N : D → Prop) (hsrc : pEs C src env = .ret ds) (hit : pIt ik ds = some xs) (hl : xs.length ≤ 1000000) (h0 : I 0 env)
    (hs : ∀ m d env, xs[m]? = some d → I m env → ∃ env1, setT tn d env = some env1 ∧ ((∃ e, (pSs C body env1 = .ret (.nx e) ∨ pSs C body env1 = .ret (.ct e)) ∧ I (m + 1) e) ∨ ∃ v, pSs C body env1 = .ret (.rt v) ∧ N v)) (hk : ∀ e, I xs.length e → ∃ v, pSs C ss e = .ret (.rt v) ∧ N v) : ∃ v, pSs C (.for_ tn ik src body :: ss) env = .ret (.rt v) ∧ N v := by
  rcases s_forR I N hsrc hit hl h0 hs with ⟨e, he, hI⟩ | ⟨v, hv, hN⟩
  · obtain ⟨v, h1, h2⟩ := hk e hI
    exact ⟨v, ss_cons he h1, h2⟩
  · refine ⟨v, ?_, hN⟩
    rw [q_cons, hv]
    rfl
end
section
variable {T : Tx} {kd : Str → Kd} {f : Str} {d : Df} {ds : List D} {k : Nat}
/-- a call of a def, from its body -/
theorem Has.ret (h : Has T kd f d) (env0 : Env) {v : D} (hl : ds.length = d.par.length) (he : ds.map some ++ List.replicate (d.names - ds.length) none = env0) (w : pSs (T.pat kd k) d.body env0 = .ret (.rt v)) : pCall (T.pat kd (k + 1)) f [] ds = .ret v := by
  rw [h.call hl, he, w]
  rfl
/-- .. by names -/
theorem Has.retK (h : Has T kd f d) {ks : List Str} {es : List D} (hp : permArgs d.par ks ds = some es) (hl : es.length = d.par.length) : pCall (T.pat kd k) f ks ds = pCall (T.pat kd k) f [] es := by
  rw [p_kw h.lk hp, p_pos h.lk hl]
end
section
variable {C : PCal} {env : Env} {src ifs : List E} {own : List Nat} {al : Bool} {ik : IK} {tn : TN} {elt : E} {ds xs : List D}
/-- a comprehension by places -/
theorem e_compI (f : Nat → D → Option D) (hsrc : pEs C src env = .ret ds) (hit : pIt ik ds = some xs) (hl : xs.length ≤ 1000000) (ht : ∀ i d, xs[i]? = some d → pTurn C tn (wipeE env own) ifs elt d = .ret (f i d)) : pE C (.comp al own tn ik src ifs elt) env = .ret (.lst (idxFil f 0 xs)) := by
  rw [p_comp, hsrc, t_bnd, hit]
  dsimp only
  rw [if_pos (small_t hl), comp_idx (f := f) (n := 0) fun i d hd => by rw [Nat.zero_add]; exact ht i d hd]
  rfl
/-- .. of things with their places -/
theorem e_compE {d : D} (f : Nat → D → Option D) (hsrc : pEs C src env = .ret [d]) (hq : pSeqOf d = some xs) (hl : xs.length ≤ 1000000) (ht : ∀ (i : Nat) x, xs[i]? = some x → pTurn C tn (wipeE env own) ifs elt (.tup [.int i, x]) = .ret (f i x)) : pE C (.comp al own tn .enum src ifs elt) env = .ret (.lst (idxFil f 0 xs)) := by
  have hit : pIt .enum [d] = some (enumD 0 xs) := by unfold pIt; dsimp only; rw [hq]; rfl
  rw [p_comp, hsrc, t_bnd, hit]
  dsimp only
  rw [if_pos (small_t (by rw [enum_len]; exact hl)), comp_enum (f := f) (n := 0) fun i x hx => by rw [Nat.zero_add]; exact ht i x hx]
  rfl
/-- .. some of them -/
theorem e_compF (p : D → Bool) (f : D → D) (hsrc : pEs C src env = .ret ds) (hit : pIt ik ds = some xs) (hl : xs.length ≤ 1000000) (ht : ∀ d ∈ xs, pTurn C tn (wipeE env own) ifs elt d = .ret (if p d then some (f d) else none)) : pE C (.comp al own tn ik src ifs elt) env = .ret (.lst ((xs.filter p).map f)) := by
  have go : ∀ xs : List D, (∀ d ∈ xs, pTurn C tn (wipeE env own) ifs elt d = .ret (if p d then some (f d) else none)) → pComp (pTurn C tn (wipeE env own) ifs elt) xs = .ret ((xs.filter p).map f) := by
    intro xs
    induction xs with
    | nil => intro _; rfl
    | cons x xs ih =>
      intro h
      have ht := ih fun d hd => h d (List.mem_cons_of_mem _ hd)
      unfold pComp
      rw [h x List.mem_cons_self, t_bnd, ht]
      cases hp : p x with
      | true => rw [List.filter_cons_of_pos hp]; rfl
      | false => rw [List.filter_cons_of_neg (by rw [hp]; decide)]; rfl
  rw [p_comp, hsrc, t_bnd, hit]
  dsimp only
  rw [if_pos (small_t hl), go xs ht]
  rfl
end
end Ev
/-! Drawn parts and rows. -/
namespace Ev
open PySem
namespace Bd
def law_parts : Df := ⟨["pot", "many"], 5, [
    (.asg (.n 2) (.lst true [])),
    (.for_ (.n 3) .rng1 [(.v 1)] [(.asg (.n 4) (.bin true .add (.c (.int (1))) (.call "_law_draw" [] [(.v 0), (.c (.int (9)))]))), (.ex (.app (.v 2) (.tup [(.c (.str "part")), (.v 4), (.bin false .add (.v 4) (.call "_law_draw" [] [(.v 0), (.bin false .sub (.c (.int (10))) (.v 4))]))])))]),
    (.ret (some (.pr true .tuple [(.v 2)])))]⟩
def law_on : Df := ⟨["pot", "parts"], 2, [
    (.ret (some (.ite (.or (.cmp .eq (.v 1) (.tup [])) (.cmp .eq (.call "_law_draw" [] [(.v 0), (.c (.int (3)))]) (.c (.int (0))))) (.c .non) (.call "_law_draw" [] [(.v 0), (.pr false .len [(.v 1)])]))))]⟩
def law_rows : Df := ⟨["pot", "parts", "many"], 8, [
    (.asg (.n 3) (.lst true [])),
    (.for_ (.n 4) .rng1 [(.v 2)] [(.asg (.n 5) (.pr true .tuple [(.comp false [6] (.n 6) .rng1 [(.bin false .add (.c (.int (1))) (.call "_law_draw" [] [(.v 0), (.c (.int (3)))]))] [] (.tup [(.call "_law_on" [] [(.v 0), (.v 1)]), (.bin false .add (.c (.int (1))) (.call "_law_draw" [] [(.v 0), (.c (.int (30)))]))]))])), (.asg (.n 7) (.ite (.cmp .eq (.call "_law_draw" [] [(.v 0), (.c (.int (2)))]) (.c (.int (0)))) (.c .non) (.call "_law_draw" [] [(.v 0), (.c (.int (100)))]))), (.ex (.app (.v 3) (.tup [(.c (.str "row")), (.v 5), (.tup [(.call "_law_on" [] [(.v 0), (.v 1)]), (.call "_law_draw" [] [(.v 0), (.c (.int (40)))])]), (.v 7)])))]),
    (.ret (some (.pr true .tuple [(.v 3)])))]⟩
end Bd
structure LDr (T : Tx) (kd : Str → Kd) : Prop where
  draw : kd "_law_draw" = .draw
  drawT : ∃ dd, T.lookup ("_law_draw" : Str) = some dd ∧ dd.par.length = 2
  pick : Has T kd "_law_pick" Bd.law_pick
structure LPr (T : Tx) (kd : Str → Kd) : Prop extends LDr T kd where
  parts : Has T kd "_law_parts" Bd.law_parts
  on : Has T kd "_law_on" Bd.law_on
  rows : Has T kd "_law_rows" Bd.law_rows
theorem pr_tuple_lst {al : Bool} {xs : List D} : Tr.of (prD al .tuple [.lst xs] []) = .ret (.tup xs) := rfl
/-- a drawn part -/
def IsPart (d : D) : Prop := ∃ a b : Int, d = .tup [.str "part", .int a, .int b] ∧ 1 ≤ a ∧ a ≤ b ∧ b ≤ 9
/-- a place of n, or none -/
def IsOn (n : Nat) (d : D) : Prop := d = .non ∨ ∃ i : Int, d = .int i ∧ 0 ≤ i ∧ i < n
def IsFeed (n : Nat) (m : Int) (d : D) : Prop := ∃ (x : D) (p : Int), d = .tup [x, .int p] ∧ IsOn n x ∧ m ≤ p ∧ p ≤ 39
def IsRow (n : Nat) (d : D) : Prop := ∃ (fs : List D) (c h : D), d = .tup [.str "row", .tup fs, c, h] ∧ 1 ≤ fs.length ∧ fs.length ≤ 3 ∧ (∀ f ∈ fs, IsFeed n 1 f) ∧ IsFeed n 0 c ∧ (h = .non ∨ ∃ i : Int, h = .int i ∧ 0 ≤ i ∧ i < 100)
section
variable {T : Tx} {kd : Str → Kd} (k n : Nat) {Q : D → Prop} {X : Str → D → Prop}
theorem d_draw (L : LDr T kd) (m : Int) : pCall (T.pat kd (k + 1)) "_law_draw" [] [.loc n, .int m] = .ask m fun i => .ret (.int i) := by
  obtain ⟨dd, h1, h2⟩ := L.drawT
  rw [p_pos h1 (by rw [h2]; rfl), p_draw L.draw]
theorem small_1 : small 1 = true := by decide +kernel
theorem small_2 : small 2 = true := by decide +kernel
theorem small_3 : small 3 = true := by decide +kernel
theorem small_4 : small 4 = true := by decide +kernel
theorem w_law_parts (L : LPr T kd) (m : Nat) (hm : m ≤ 1000) (h : ∀ ps : List D, ps.length = m → (∀ p ∈ ps, IsPart p) → Q (.tup ps)) : (pCall (T.pat kd (k + 2)) "_law_parts" [] [.loc n, .int m]).wp Q X := by
  refine L.parts.wp [some (.loc n), some (.int m), none, none, none] rfl rfl ?_
  have dr := d_draw (T := T) k n L.toLDr
  rw [show Bd.law_parts.body = [_, _, _] from rfl, ws_cons, w_asg]
  simp only [p_lst, p_nil, t_bnd, List.length_nil, show small 0 = true by decide +kernel, if_true, w_ret, thenW_nx, List.set_cons_succ, List.set_cons_zero]
  rw [ws_cons]
  refine w_forN (xs := numsI 0 m) (fun j env => ∃ ps t l, env = [some (.loc n), some (.int m), some (.lst ps), t, l] ∧ ps.length = j ∧ ∀ p ∈ ps, IsPart p) ?_ (by rw [nums_len]; omega) ⟨[], none, none, rfl, rfl, fun _ z => nomatch z⟩ ?_ ?_
  · simp only [p_cons, p_nil, p_v1, t_bnd, w_ret]
    exact it_rng1 (by omega)
  · rintro j d env hd ⟨ps, t, l, rfl, hl, hps⟩
    obtain ⟨-, hj⟩ := nums_is hd
    rw [ws_cons, w_asg]
    simp only [p_bin, p_ci, t_bnd, p_call, p_cons, p_nil, List.set_cons_succ, List.set_cons_zero, p_v0, dr, wp_bnd, w_ask, w_ret, bin_add_int, t_of]
    refine ⟨by omega, by omega, fun a a0 a1 => ?_⟩
    rw [thenW_nx, ws_cons, w_app (xs := ps) rfl]
    simp only [p_tup, p_cs, p_bin, p_ci, t_bnd, p_call, p_cons, p_nil, List.set_cons_succ, List.set_cons_zero, p_v0, p_v4, dr, wp_bnd, w_ask, w_ret, bin_add_int, bin_sub_int, t_of, List.length_cons, List.length_nil, Nat.zero_add, Nat.reduceAdd, small_3, if_true, thenW_nx, ws_nil]
    refine ⟨by omega, by omega, fun c c0 c1 => ⟨by unfold most; omega, _, _, _, rfl, by simp [hl], fun p hp => ?_⟩⟩
    rcases List.mem_append.mp hp with hp | hp
    · exact hps p hp
    · rw [List.mem_singleton.mp hp]
      exact ⟨_, _, rfl, by omega, by omega, by omega⟩
  · rintro env ⟨ps, t, l, rfl, hl, hps⟩
    rw [nums_len] at hl
    rw [thenW_nx, ws_cons, w_ret_]
    simp only [p_pr, p_cons, p_nil, p_v2, t_bnd, pr_tuple_lst, w_ret, thenW_rt, end_rt']
    exact h ps hl hps
theorem w_law_on (L : LPr T kd) (ps : List D) (hl : ps.length ≤ 1000) (hp : Pl 11 (.tup ps)) (h : ∀ d, IsOn ps.length d → Q d) : (pCall (T.pat kd (k + 2)) "_law_on" [] [.loc n, .tup ps]).wp Q X := by
  refine L.on.wp [some (.loc n), some (.tup ps)] rfl rfl ?_
  have dr := d_draw (T := T) k n L.toLDr
  have sm : small 0 = true := by decide +kernel
  have e0 : cmpD .eq (.tup ps) (.tup []) [] = .ok (.bl ps.isEmpty) [] := by
    rw [cmp_eq_pl (hp.mono (by omega)) ⟨rfl, by decide⟩, eqP_nil]
  rw [show Bd.law_on.body = [_] from rfl, ws_cons, w_ret_]
  simp only [p_ite, p_or, p_cmp, p_v1, p_tup, p_nil, t_bnd, List.length_nil, sm, if_true, List.map_cons, List.map_nil, List.cons_append, List.nil_append, e0, t_of, tr_bl, t_ofO]
  cases ps with
  | nil =>
    simp only [List.isEmpty_nil, if_true, t_bnd, tr_bl, t_ofO, p_cn, w_ret, thenW_rt, end_rt']
    exact h _ (.inl rfl)
  | cons p ps =>
    simp only [List.isEmpty_cons, Bool.false_eq_true, if_false, p_call, p_cons, p_nil, p_v0, p_ci, t_bnd, dr, wp_bnd, w_ask, w_ret, cmp_eq_int, t_of, tr_bl, t_ofO]
    refine ⟨by omega, by omega, fun a a0 a1 => ?_⟩
    by_cases ha : a = 0
    · rw [if_pos (by simpa using ha)]
      simp only [p_cn, w_ret, thenW_rt, end_rt']
      exact h _ (.inl rfl)
    · rw [if_neg (by simpa using ha)]
      simp only [p_call, p_cons, p_nil, p_v0, p_v1, p_pr, pr_len, len_tup, opt_some, bnd_oks, t_of, t_bnd, dr, w_ask, w_ret, thenW_rt, end_rt']
      refine ⟨by rw [List.length_cons]; omega, by omega, fun i i0 i1 => h _ (.inr ⟨i, rfl, i0, i1⟩)⟩
theorem isOn_pl {n : Nat} {d : D} (h : IsOn n d) : Pl 0 d := by
  rcases h with rfl | ⟨i, rfl, _⟩
  · exact pl_non
  · exact pl_int
theorem isPart_pl {d : D} (h : IsPart d) : Pl 1 d := by
  obtain ⟨a, b, rfl, _⟩ := h
  exact pl_tup (all_cons (pl_str (by decide +kernel)) (all_cons pl_int (all_cons pl_int all_nil)))
theorem parts_pl {ps : List D} (h : ∀ p ∈ ps, IsPart p) : Pl 2 (.tup ps) := pl_tup fun p hp => isPart_pl (h p hp)
theorem w_law_rows (L : LPr T kd) (ps : List D) (hl : ps.length ≤ 1000) (hp : ∀ p ∈ ps, IsPart p) (m : Nat) (hm : m ≤ 1000) (h : ∀ rs : List D, rs.length = m → (∀ r ∈ rs, IsRow ps.length r) → Q (.tup rs)) : (pCall (T.pat kd (k + 3)) "_law_rows" [] [.loc n, .tup ps, .int m]).wp Q X := by
  refine L.rows.wp [some (.loc n), some (.tup ps), some (.int m), none, none, none, none, none] rfl rfl ?_
  have dr := d_draw (T := T) (k + 1) n L.toLDr
  have on : ∀ {Q : D → Prop} {X : Str → D → Prop}, (∀ d, IsOn ps.length d → Q d) → (pCall (T.pat kd (k + 2)) "_law_on" [] [.loc n, .tup ps]).wp Q X := fun h => w_law_on k n L ps hl ((parts_pl hp).mono (by omega)) h
  have s0 : small 0 = true := by decide +kernel
  rw [show Bd.law_rows.body = [_, _, _] from rfl, ws_cons, w_asg]
  simp only [p_lst, p_nil, t_bnd, List.length_nil, s0, if_true, w_ret, thenW_nx, List.set_cons_succ, List.set_cons_zero]
  rw [ws_cons]
  refine w_forN (xs := numsI 0 m) (fun j env => ∃ rs t a b c, env = [some (.loc n), some (.tup ps), some (.int m), some (.lst rs), t, a, b, c] ∧ rs.length = j ∧ ∀ r ∈ rs, IsRow ps.length r) ?_ (by rw [nums_len]; omega) ⟨[], _, _, _, _, rfl, rfl, fun _ z => nomatch z⟩ ?_ ?_
  · simp only [p_cons, p_nil, p_v2, t_bnd, w_ret]
    exact it_rng1 (by omega)
  · rintro j d env hd ⟨rs, t, a, b, c, rfl, hl, hrs⟩
    obtain ⟨-, hj⟩ := nums_is hd
    simp only [List.set_cons_succ, List.set_cons_zero]
    rw [ws_cons, w_asg]
    simp only [p_pr, p_cons, p_nil, wp_bnd]
    -- the feeds
    refine wp_mono (Q := fun v => ∃ fs : List D, v = .lst fs ∧ 1 ≤ fs.length ∧ fs.length ≤ 3 ∧ ∀ f ∈ fs, IsFeed ps.length 1 f) (X := noX) ?_ ?_ fun _ _ z => z.elim
    · rw [p_comp]
      simp only [p_cons, p_nil, p_bin, p_ci, p_call, p_v0, t_bnd, dr, wp_bnd, w_ask, w_ret, bin_add_int, t_of]
      refine ⟨by omega, by omega, fun z z0 z1 => ?_⟩
      obtain ⟨q, rfl⟩ : ∃ q : Nat, z = q := ⟨z.toNat, by omega⟩
      have : (1 + (q : Int)) = ((q + 1 : Nat) : Int) := by omega
      rw [this, it_rng1 (by omega)]
      dsimp only
      rw [if_pos (small_t (by rw [nums_len]; omega))]
      simp only [wp_bnd, wp_noEx]
      refine comp_wp (P := IsFeed ps.length 1) (fun d hd => ?_) fun ys h1 h2 => ?_
      · unfold pTurn
        rw [setT_n]
        dsimp only
        rw [p_tnil, t_bnd, if_pos rfl]
        simp only [wp_bnd, p_tup, p_cons, p_nil, wipeE, List.set_cons_succ, List.set_cons_zero, p_call, p_v0, p_v1, t_bnd]
        refine on fun x hx => ?_
        simp only [p_bin, p_ci, p_call, p_cons, p_nil, p_v0, t_bnd, dr, wp_bnd, w_ask, w_ret, bin_add_int, t_of, List.length_cons, List.length_nil, Nat.zero_add, Nat.reduceAdd, small_2, if_true]
        refine ⟨by omega, by omega, fun y y0 y1 => ⟨_, rfl, x, 1 + y, rfl, hx, by omega, by omega⟩⟩
      · rw [nums_len] at h1
        exact ⟨ys, rfl, by omega, by omega, h2⟩
    · rintro v ⟨fs, rfl, f1, f2, f3⟩
      simp only [w_ret, pr_tuple_lst, t_bnd, thenW_nx, List.set_cons_succ, List.set_cons_zero]
      rw [ws_cons, w_asg]
      -- the heat
      refine wp_mono (Q := fun v => v = .non ∨ ∃ i : Int, v = .int i ∧ 0 ≤ i ∧ i < 100) (X := noX) ?_ ?_ fun _ _ z => z.elim
      · simp only [p_ite, p_cmp, p_call, p_cons, p_nil, p_v0, p_ci, t_bnd, dr, wp_bnd, w_ask, w_ret, cmp_eq_int, t_of, tr_bl, t_ofO]
        refine ⟨by omega, by omega, fun z z0 z1 => ?_⟩
        split
        · rw [p_cn, w_ret]
          exact .inl rfl
        · simp only [p_call, p_cons, p_nil, p_v0, p_ci, t_bnd, dr, w_ask, w_ret]
          exact ⟨by omega, by omega, fun i i0 i1 => .inr ⟨i, rfl, i0, i1⟩⟩
      · intro g hg
        simp only [thenW_nx, List.set_cons_succ, List.set_cons_zero]
        rw [ws_cons, w_app (xs := rs) rfl]
        simp only [p_tup, p_cons, p_nil, p_cs, p_v5, p_v7, p_v0, p_v1, p_call, p_ci, t_bnd, wp_bnd]
        refine on fun x hx => ?_
        simp only [dr, wp_bnd, w_ask, w_ret, t_bnd, List.length_cons, List.length_nil, Nat.zero_add, Nat.reduceAdd, small_2, small_4, if_true, ws_nil, thenW_nx, List.set_cons_succ, List.set_cons_zero]
        refine ⟨by omega, by omega, fun y y0 y1 => ⟨by unfold most; omega, _, _, _, _, _, rfl, by simp [hl], fun r hr => ?_⟩⟩
        rcases List.mem_append.mp hr with hr | hr
        · exact hrs r hr
        · rw [List.mem_singleton.mp hr]
          exact ⟨fs, _, g, rfl, f1, f2, f3, ⟨x, y, rfl, hx, y0, by omega⟩, hg⟩
  · rintro env ⟨rs, t, a, b, c, rfl, hl, hrs⟩
    rw [nums_len] at hl
    rw [thenW_nx, ws_cons, w_ret_]
    simp only [p_pr, p_cons, p_nil, p_v3, t_bnd, pr_tuple_lst, w_ret, thenW_rt, end_rt']
    exact h rs hl hrs
end
end Ev
/-! Power, cool, dark racks: what the program tells. -/
namespace Ev
open PySem
namespace Bd
def power_of : Df := ⟨["rows", "row", "out"], 5, [
    (.ret (some (.pr true .sum [(.comp false [3, 4] (.t [(.n 3), (.n 4)]) .seq [(.ix (.ix (.v 0) (.v 1)) (.c (.int (1))))] [(.or (.cmp .isN (.v 3) (.c .non)) (.cmp .notIn (.v 3) (.v 2)))] (.v 4))])))]⟩
def cool_of : Df := ⟨["rows", "row", "out"], 5, [
    (.asg (.t [(.n 3), (.n 4)]) (.ix (.ix (.v 0) (.v 1)) (.c (.int (2))))),
    (.ret (some (.ite (.or (.cmp .isN (.v 3) (.c .non)) (.cmp .notIn (.v 3) (.v 2))) (.v 4) (.c (.int (0))))))]⟩
def dark_of : Df := ⟨["racks", "out"], 4, [
    (.ret (some (.comp true [3] (.n 3) .seq [(.v 0)] [] (.pr false .any [(.comp false [2] (.n 2) .seq [(.ix (.v 3) (.c (.int (5))))] [] (.cmp .isIn (.v 2) (.v 1)))]))))]⟩
end Bd
theorem comp_filP {turn : D → Tr (Option D)} {p : D → Bool} {f : D → D} : ∀ {xs : List D}, (∀ d ∈ xs, turn d = .ret (if p d then some (f d) else none)) → pComp turn xs = .ret ((xs.filter p).map f)
  | [], _ => rfl
  | d :: xs, h => by
    unfold pComp
    rw [h d List.mem_cons_self, t_bnd, comp_filP fun d hd => h d (List.mem_cons_of_mem _ hd)]
    cases hp : p d with
    | true => rw [List.filter_cons_of_pos hp]; rfl
    | false => rw [List.filter_cons_of_neg (by rw [hp]; decide)]; rfl
/-- is it among these -/
def hit (out : List D) (x : D) : Bool := out.any fun y => eqF y x
theorem in_tup {neg : Bool} {out : List D} {x : D} (hx : flatD x = true) (ho : out.all flatD = true) : inD neg x (.tup out) [] = .ok (.bl (neg != hit out x)) [] := by
  unfold inD among
  dsimp only
  rw [hx, ho]
  rfl
theorem cmp_in {out : List D} {x : D} (hx : flatD x = true) (ho : out.all flatD = true) : cmpD .isIn x (.tup out) [] = .ok (.bl (hit out x)) [] := by
  show inD false x (.tup out) [] = _
  rw [in_tup hx ho]
  cases hit out x <;> rfl
theorem cmp_notIn {out : List D} {x : D} (hx : flatD x = true) (ho : out.all flatD = true) : cmpD .notIn x (.tup out) [] = .ok (.bl (!hit out x)) [] := by
  show inD true x (.tup out) [] = _
  rw [in_tup hx ho]
  cases hit out x <;> rfl
/-- what hangs on a part, and for how much -/
structure IsHang (f : D) : Prop where
  ex : ∃ (x : D) (p : Int), f = .tup [x, .int p] ∧ flatD x = true
/-- it stands -/
def on1 (out : List D) (f : D) : Bool := match f with
  | .tup [x, _] => isNon x || !hit out x
  | _ => false
def val1 (f : D) : Int := match f with
  | .tup [_, .int p] => p
  | _ => 0
def powOf (out fs : List D) : Int := ((fs.filter (on1 out)).map val1).sum
def coolOf (out : List D) (c : D) : Int := if on1 out c then val1 c else 0
theorem any_p (f : D → Bool) {xs : List D} {al : Bool} : Tr.of (prD al .any [.lst (xs.map fun d => .bl (f d))] []) = .ret (.bl (xs.any f)) := by
  rw [pr_any, bools_map, opt_some, bnd_oks]
  show Tr.ret _ = _
  rw [List.any_map]
  rfl
structure Pow (T : Tx) (kd : Str → Kd) : Prop extends Rck T kd where
  power_of : Has T kd "power_of" Bd.power_of
  cool_of : Has T kd "cool_of" Bd.cool_of
  dark_of : Has T kd "dark_of" Bd.dark_of
section
variable {T : Tx} {kd : Str → Kd} (k : Nat)
section
variable (B : Pow T kd)
include B
theorem c_power_of {rs fs out : List D} {i : Int} {w c h : D} (hi : L2.atI rs i = some (.tup [w, .tup fs, c, h])) (hl : fs.length ≤ 1000) (hf : ∀ f ∈ fs, IsHang f) (ho : out.all flatD = true) : pCall (T.pat kd (k + 1)) "power_of" [] [.tup rs, .int i, .tup out] = .ret (.int (powOf out fs)) := by
  rw [B.power_of.call rfl]
  have e3 : pE (T.pat kd k) (.comp false [3, 4] (.t [(.n 3), (.n 4)]) .seq [(.ix (.ix (.v 0) (.v 1)) (.c (.int (1))))] [(.or (.cmp .isN (.v 3) (.c .non)) (.cmp .notIn (.v 3) (.v 2)))] (.v 4)) [some (.tup rs), some (.int i), some (.tup out), none, none] = .ret (.lst ((fs.filter (on1 out)).map fun d => .int (val1 d))) := by
    rw [p_comp]
    have s1 : pEs (T.pat kd k) [(.ix (.ix (.v 0) (.v 1)) (.c (.int (1))))] [some (.tup rs), some (.int i), some (.tup out), none, none] = .ret [.tup fs] := by
      simp [hi]
    rw [s1, t_bnd]
    have s2 : pIt .seq [.tup fs] = some fs := rfl
    rw [s2]
    dsimp only
    rw [if_pos (small_t (by omega)), comp_filP (p := on1 out) (f := fun d => .int (val1 d)) fun d hd => ?_]
    · rfl
    · obtain ⟨x, p, rfl, hx⟩ := (hf d hd).ex
      unfold pTurn
      cases hn : isNon x <;> cases hh : hit out x <;> simp [wipeE, setT, setTs, on1, val1, hn, hh, cmp_notIn hx ho]
  have e4 : Tr.of (prD false .sum [.lst ((fs.filter (on1 out)).map fun d => .int (val1 d))] []) = .ret (.int (powOf out fs)) := by
    show Tr.of ((opt (intsD ((fs.filter (on1 out)).map fun d => .int (val1 d))) []).bnd _) = _
    rw [ints_map]
    rfl
  simp [Bd.power_of, q_cons, e3, e4]
theorem c_cool_of {rs out : List D} {i : Int} {w f c h : D} (hi : L2.atI rs i = some (.tup [w, f, c, h])) (hc : IsHang c) (ho : out.all flatD = true) : pCall (T.pat kd (k + 1)) "cool_of" [] [.tup rs, .int i, .tup out] = .ret (.int (coolOf out c)) := by
  rw [B.cool_of.call rfl]
  obtain ⟨x, p, rfl, hx⟩ := hc.ex
  cases hn : isNon x <;> cases hh : hit out x <;> simp [Bd.cool_of, q_cons, hi, cmp_notIn hx ho, hn, hh, coolOf, on1, val1]
/-- a rack: where it hangs -/
structure IsHs (d : D) : Prop where
  ex : ∃ (w a b c e g : D) (hs : List D), d = .tup [w, a, b, c, e, .tup hs, g] ∧ hs.length ≤ 1000 ∧ hs.all flatD = true
def dark1 (out : List D) (d : D) : Bool := match d with
  | .tup [_, _, _, _, _, .tup hs, _] => hs.any (hit out)
  | _ => false
theorem c_dark_of {ks out : List D} (hl : ks.length ≤ 1000) (hk : ∀ d ∈ ks, IsHs d) (ho : out.all flatD = true) : pCall (T.pat kd (k + 1)) "dark_of" [] [.tup ks, .tup out] = .ret (.lst (ks.map fun d => .bl (dark1 out d))) := by
  rw [B.dark_of.call rfl]
  have e : pE (T.pat kd k) (.comp true [3] (.n 3) .seq [(.v 0)] [] (.pr false .any [(.comp false [2] (.n 2) .seq [(.ix (.v 3) (.c (.int (5))))] [] (.cmp .isIn (.v 2) (.v 1)))])) [some (.tup ks), some (.tup out), none, none] = .ret (.lst (ks.map fun d => .bl (dark1 out d))) := by
    refine e_comp (xs := ks) (ds := [.tup ks]) (fun d => .bl (dark1 out d)) rfl rfl (by omega) fun d hd => ?_
    obtain ⟨w, a, b, c, e, g, hs, rfl, h1, h2⟩ := (hk d hd).ex
    have e5 : L2.atI [w, a, b, c, e, D.tup hs, g] 5 = some (.tup hs) := by
      rw [atI_lt (by omega) (by simp)]
      rfl
    have e1 : pE (T.pat kd k) (.comp false [2] (.n 2) .seq [(.ix (.v 3) (.c (.int (5))))] [] (.cmp .isIn (.v 2) (.v 1))) [some (.tup ks), some (.tup out), none, some (.tup [w, a, b, c, e, .tup hs, g])] = .ret (.lst (hs.map fun d => .bl (hit out d))) := by
      refine e_comp (xs := hs) (ds := [.tup hs]) (fun d => .bl (hit out d)) ?_ rfl (by omega) fun d hd => ?_
      · simp [e5]
      · simp [wipeE, cmp_in (List.all_eq_true.mp h2 d hd) ho]
    have e2 : Tr.of (prD false .any [.lst (hs.map fun d => .bl (hit out d))] []) = .ret (.bl (hs.any (hit out))) := any_p (hit out)
    simp [wipeE, e1, -pr_any, e2, dark1]
  simp [Bd.dark_of, q_cons, e]
end
end
end Ev
/-! The doors of power, cool, dark racks, of right halls. -/
namespace Ev
open PySem
namespace Bd
def row_power : Df := ⟨["parts", "rows", "row", "out"], 4, [
    (.ex (.call "want_rows" [] [(.v 0), (.v 1)])),
    (.ex (.call "want_row" [] [(.v 1), (.v 2)])),
    (.ex (.call "want_out" [] [(.v 0), (.v 3)])),
    (.ret (some (.call "power_of" [] [(.v 1), (.v 2), (.v 3)])))]⟩
def row_cool : Df := ⟨["parts", "rows", "row", "out"], 4, [
    (.ex (.call "want_rows" [] [(.v 0), (.v 1)])),
    (.ex (.call "want_row" [] [(.v 1), (.v 2)])),
    (.ex (.call "want_out" [] [(.v 0), (.v 3)])),
    (.ret (some (.call "cool_of" [] [(.v 1), (.v 2), (.v 3)])))]⟩
def is_dark : Df := ⟨["parts", "rows", "racks", "rack", "out"], 5, [
    (.ex (.call "want_racks" [] [(.v 0), (.v 1), (.v 2)])),
    (.iff (.not (.call "is_position" [] [(.v 3), (.v 2)])) [.dead] []),
    (.ex (.call "want_out" [] [(.v 0), (.v 4)])),
    (.ret (some (.ix (.call "dark_of" [] [(.v 2), (.v 4)]) (.v 3))))]⟩
end Bd
structure Dor (T : Tx) (kd : Str → Kd) : Prop extends Pow T kd where
  want_row : Has T kd "want_row" Bd.want_row
  want_out : Has T kd "want_out" Bd.want_out
  row_power : Has T kd "row_power" Bd.row_power
  row_cool : Has T kd "row_cool" Bd.row_cool
  is_dark : Has T kd "is_dark" Bd.is_dark
/-- right parts and rows -/
structure RRow (ps rs : List D) : Prop where
  cp : closed (.tup ps) = true
  pp : (sized (.tup ps) 0 6 && allOf (.tup ps) part) = true
  cr : closed (.tup rs) = true
  rr : (sized (.tup rs) 1 3 && allOf (.tup rs) (row ps.length)) = true
/-- .. and racks -/
structure RRck (ps rs ks : List D) : Prop extends RRow ps rs where
  ck : closed (.tup ks) = true
  sk : ∀ x ∈ ks, ShrtR x
  kk : racks ps.length rs.length (.tup ks) = true
/-- a right OUT -/
structure ROut (ps out : List D) : Prop where
  co : closed (.tup out) = true
  lo : out.length ≤ 1000
  ro : rising ps.length (.tup out) = true
section
variable {T : Tx} {kd : Str → Kd} (k : Nat) (B : Dor T kd)
include B
theorem c_want_row (rs : List D) {d : D} (h : closed d = true) (hw : within d 0 (rs.length - 1) = true) : pCall (T.pat kd (k + 4)) "want_row" [] [.tup rs, d] = .ret .non := by
  rw [B.want_row.call rfl]
  have e := c_is_position B.toBas k d rs h
  rw [hw] at e
  simp [Bd.want_row, q_cons, e]
theorem c_want_out {ps out : List D} (h : ROut ps out) : pCall (T.pat kd (k + 4)) "want_out" [] [.tup ps, .tup out] = .ret .non := by
  rw [B.want_out.call rfl]
  have e := c_is_rising k (.tup out) B.toRck ps.length h.co (fun xs hx => by cases hx; exact h.lo)
  rw [h.ro] at e
  simp [Bd.want_out, q_cons, e]
theorem rising_flat {m : Int} {out : List D} (h : rising m (.tup out) = true) : out.all flatD = true := by
  have h' : (out.all (fun d => within d 0 (m - 1)) && (zipD out (out.drop 1)).all ltP) = true := h
  rw [Bool.and_eq_true] at h'
  refine List.all_eq_true.mpr fun d hd => ?_
  obtain ⟨i, rfl, _⟩ := within_int (List.all_eq_true.mp h'.1 d hd)
  rfl
theorem c_row_power {ps rs fs out : List D} {i : Int} {w c g : D} (H : RRow ps rs) (O : ROut ps out) (hw : within (.int i) 0 (rs.length - 1) = true) (hi : L2.atI rs i = some (.tup [w, .tup fs, c, g])) (hl : fs.length ≤ 1000) (hf : ∀ f ∈ fs, IsHang f) :
    pCall (T.pat kd (k + 8)) "row_power" [] [.tup ps, .tup rs, .int i, .tup out] = .ret (.int (powOf out fs)) := by
  rw [B.row_power.call rfl]
  have e1 := c_want_rows k (.tup rs) B.toRck ps H.cp H.pp H.cr H.rr
  have e2 := c_want_row (k + 3) B rs (d := .int i) rfl hw
  have e3 := c_want_out (k + 3) B O
  have e4 := c_power_of (k + 6) B.toPow hi hl hf (rising_flat B O.ro)
  simp [Bd.row_power, q_cons, pX, e1, e2, e3, e4]
theorem c_row_cool {ps rs out : List D} {i : Int} {w f c g : D} (H : RRow ps rs) (O : ROut ps out) (hw : within (.int i) 0 (rs.length - 1) = true) (hi : L2.atI rs i = some (.tup [w, f, c, g])) (hc : IsHang c) :
    pCall (T.pat kd (k + 8)) "row_cool" [] [.tup ps, .tup rs, .int i, .tup out] = .ret (.int (coolOf out c)) := by
  rw [B.row_cool.call rfl]
  have e1 := c_want_rows k (.tup rs) B.toRck ps H.cp H.pp H.cr H.rr
  have e2 := c_want_row (k + 3) B rs (d := .int i) rfl hw
  have e3 := c_want_out (k + 3) B O
  have e4 := c_cool_of (k + 6) B.toPow hi hc (rising_flat B O.ro)
  simp [Bd.row_cool, q_cons, pX, e1, e2, e3, e4]
theorem c_is_dark {ps rs ks out : List D} {i : Int} {d : D} (H : RRck ps rs ks) (O : ROut ps out) (hw : within (.int i) 0 (ks.length - 1) = true) (hi : L2.atI (ks.map fun d => D.bl (dark1 out d)) i = some (.bl (dark1 out d))) (hl : ks.length ≤ 1000) (hk : ∀ d ∈ ks, IsHs d) :
    pCall (T.pat kd (k + 9)) "is_dark" [] [.tup ps, .tup rs, .tup ks, .int i, .tup out] = .ret (.bl (dark1 out d)) := by
  rw [B.is_dark.call rfl]
  have e1 := c_want_racks k (.tup ks) B.toRck ps rs H.cp H.pp H.cr H.rr H.ck (fun xs e => by cases e; exact H.sk) H.kk
  have e2 := c_is_position B.toBas (k + 5) (.int i) ks rfl
  rw [hw] at e2
  have e3 := c_want_out (k + 4) B O
  have e4 := c_dark_of (k + 7) B.toPow hl hk (rising_flat B O.ro)
  simp [Bd.is_dark, q_cons, pX, e1, e2, e3, e4, hi]
end
end Ev
/-! Drawn OUTs. -/
namespace Ev
open PySem
theorem comp_wpS {turn : D → Tr (Option D)} {Y : Str → D → Prop} : ∀ {xs : List D} {Q : List D → Prop}, (∀ d ∈ xs, (turn d).wp (fun o => o = none ∨ o = some d) Y) → (∀ ys : List D, ys.Sublist xs → Q ys) → (pComp turn xs).wp Q Y
  | [], Q, _, k => ⟨k [] (List.Sublist.refl _)⟩
  | d :: xs, Q, h, k => by
    unfold pComp
    rw [wp_bnd]
    refine wp_mono (h d List.mem_cons_self) (fun o ho => ?_) fun _ _ z => z
    rcases ho with rfl | rfl
    · exact comp_wpS (fun d hd => h d (List.mem_cons_of_mem _ hd)) fun ys hs => k ys (hs.cons d)
    · dsimp only
      rw [wp_bnd]
      refine comp_wpS (fun d hd => h d (List.mem_cons_of_mem _ hd)) fun ys hs => ?_
      rw [w_ret]
      exact k _ (hs.cons₂ d)
/-- one int below another -/
def ltD (x y : D) : Prop := ∃ i j : Int, x = .int i ∧ y = .int j ∧ i < j
theorem zip_lt : ∀ {xs : List D}, xs.Pairwise ltD → (zipD xs (xs.drop 1)).all ltP = true
  | [], _ => rfl
  | [_], _ => rfl
  | x :: y :: r, h => by
    obtain ⟨i, j, rfl, rfl, hl⟩ := (List.pairwise_cons.mp h).1 y List.mem_cons_self
    show (ltP (.tup [.int i, .int j]) && (zipD (.int j :: r) r).all ltP) = true
    rw [Bool.and_eq_true]
    exact ⟨decide_eq_true hl, zip_lt (List.pairwise_cons.mp h).2⟩
theorem nums_lt (a : Int) (n : Nat) : (numsI a n).Pairwise ltD := by
  unfold numsI
  rw [List.pairwise_map]
  exact List.pairwise_lt_range.imp fun {i j} h => ⟨_, _, rfl, rfl, by omega⟩
theorem nums_mem {n : Nat} {d : D} (h : d ∈ numsI 0 n) : ∃ i : Int, d = .int i ∧ 0 ≤ i ∧ i < n := by
  unfold numsI at h
  obtain ⟨j, hj, rfl⟩ := List.mem_map.mp h
  exact ⟨_, rfl, by omega, by have := List.mem_range.mp hj; omega⟩
/-- ints of a range, in its order -/
theorem out_ok {ps out : List D} (hp : ps.length ≤ 1000) (h : out.Sublist (numsI 0 ps.length)) : ROut ps out := by
  have hm : ∀ d ∈ out, ∃ i : Int, d = .int i ∧ 0 ≤ i ∧ i < ps.length := fun d hd => nums_mem (h.subset hd)
  refine ⟨?_, ?_, ?_⟩
  · have : closedAll out = true := closed_all fun d hd => by
      obtain ⟨i, rfl, _⟩ := hm d hd
      rfl
    simpa [closed] using this
  · have := h.length_le
    rw [nums_len] at this
    omega
  · show (out.all (fun d => within d 0 ((ps.length : Int) - 1)) && (zipD out (out.drop 1)).all ltP) = true
    rw [Bool.and_eq_true]
    refine ⟨List.all_eq_true.mpr fun d hd => ?_, zip_lt ((nums_lt 0 _).sublist h)⟩
    obtain ⟨i, rfl, h0, h1⟩ := hm d hd
    show (decide (0 ≤ i) && decide (i ≤ (ps.length : Int) - 1)) = true
    rw [decide_eq_true h0, decide_eq_true (by omega)]
    rfl
namespace Bd
def law_out : Df := ⟨["pot", "parts"], 3, [
    (.ret (some (.pr true .tuple [(.comp false [2] (.n 2) .rng1 [(.pr false .len [(.v 1)])] [(.cmp .eq (.call "_law_draw" [] [(.v 0), (.c (.int (2)))]) (.c (.int (0))))] (.v 2))])))]⟩
end Bd
structure LOut (T : Tx) (kd : Str → Kd) : Prop extends LPr T kd where
  out : Has T kd "_law_out" Bd.law_out
section
variable {T : Tx} {kd : Str → Kd} (k n : Nat) {Q : D → Prop} {X : Str → D → Prop}
theorem w_law_out (L : LOut T kd) (ps : List D) (hl : ps.length ≤ 1000) (h : ∀ out : List D, out.Sublist (numsI 0 ps.length) → Q (.tup out)) : (pCall (T.pat kd (k + 2)) "_law_out" [] [.loc n, .tup ps]).wp Q X := by
  refine L.out.wp [some (.loc n), some (.tup ps), none] rfl rfl ?_
  have dr := d_draw (T := T) k n L.toLDr
  rw [show Bd.law_out.body = [_] from rfl, ws_cons, w_ret_]
  simp only [p_pr, p_cons, p_nil, wp_bnd]
  rw [p_comp]
  simp only [p_cons, p_nil, p_pr, p_v1, pr_len, len_tup, opt_some, bnd_oks, t_of, t_bnd, wp_bnd]
  rw [it_rng1 (by omega)]
  dsimp only
  rw [if_pos (small_t (by rw [nums_len]; omega))]
  simp only [wp_bnd, wp_noEx]
  refine comp_wpS (fun d hd => ?_) fun ys hs => ?_
  · unfold pTurn
    rw [setT_n]
    dsimp only
    simp only [p_tcons, p_tnil, p_cmp, p_call, p_cons, p_nil, p_v0, p_v2, p_ci, wipeE, List.set_cons_succ, List.set_cons_zero, t_bnd, dr, wp_bnd, w_ask, w_ret, cmp_eq_int, t_of, tr_bl, t_ofO]
    refine ⟨by omega, by omega, fun a a0 a1 => ?_⟩
    by_cases ha : a = 0
    · rw [if_pos (by simpa using ha)]
      simp only [w_ret, if_true, p_v2, t_bnd, wp_bnd]
      exact .inr trivial
    · rw [if_neg (by simpa using ha)]
      simp only [w_ret, Bool.false_eq_true, if_false]
      exact .inl trivial
  · simp only [w_ret, pr_tuple_lst, t_bnd, thenW_rt, end_rt']
    exact h ys hs
end
end Ev
/-! What is drawn is right. -/
namespace Ev
open PySem
theorem within_of {i a b : Int} (h1 : a ≤ i) (h2 : i ≤ b) : within (.int i) a b = true := by
  show (decide (a ≤ i) && decide (i ≤ b)) = true
  rw [decide_eq_true h1, decide_eq_true h2]
  rfl
theorem isPart_part {d : D} (h : IsPart d) : part d = true := by
  obtain ⟨a, b, rfl, h1, h2, h3⟩ := h
  have e1 := within_of (i := a) (a := 1) (b := 9) h1 (by omega)
  have e2 := within_of (i := b) (a := 1) (b := 9) (by omega) h3
  simp [part, e1, e2, le2, h2]
theorem isFeed_feed {n : Nat} {m : Int} {d : D} (h : IsFeed n m d) : feed n m d = true := by
  obtain ⟨x, p, rfl, hx, h1, h2⟩ := h
  have e2 := within_of (i := p) (a := m) (b := 99) h1 (by omega)
  rcases hx with rfl | ⟨i, rfl, i0, i1⟩
  · simp [feed, e2]
  · have e1 := within_of (i := i) (a := 0) (b := (n : Int) - 1) i0 (by omega)
    simp [feed, e1, e2]
theorem isFeed_hang {n : Nat} {m : Int} {d : D} (h : IsFeed n m d) : IsHang d := by
  obtain ⟨x, p, rfl, hx, h1, h2⟩ := h
  refine ⟨x, p, rfl, ?_⟩
  rcases hx with rfl | ⟨i, rfl, i0, i1⟩ <;> rfl
theorem isRow_row {n : Nat} {d : D} (h : IsRow n d) : row n d = true := by
  obtain ⟨fs, c, g, rfl, f1, f2, f3, hc, hg⟩ := h
  have e1 : sized (.tup fs) 1 3 = true := by
    show (decide ((1 : Int) ≤ (fs.length : Int)) && decide ((fs.length : Int) ≤ 3)) = true
    rw [decide_eq_true (by omega), decide_eq_true (by omega)]
    rfl
  have e2 : allOf (.tup fs) (feed n 1) = true := List.all_eq_true.mpr fun f hf => isFeed_feed (f3 f hf)
  have e3 : (isNon g || within g 0 99) = true := by
    rcases hg with rfl | ⟨i, rfl, i0, i1⟩
    · rfl
    · rw [within_of i0 (by omega)]
      cases isNon (D.int i) <;> rfl
  show (decide (("row" : Str) = "row") && (sized (.tup fs) 1 3 && (allOf (.tup fs) (feed n 1) && (feed n 0 c && (isNon g || within g 0 99))))) = true
  rw [e1, e2, isFeed_feed hc, e3]
  simp
end Ev
/-! A drawn rack is right. -/
namespace Ev
open PySem
/-- a drawn rack, of n parts, m rows -/
def IsRack (ps : List D) (m : Nat) (d : D) : Prop := ∃ (a b c e g : Int) (hs : List D), d = .tup [.str "rack", .int a, .int b, .int c, .int e, .tup hs, .int g] ∧ (0 ≤ a ∧ a < m) ∧ (0 ≤ b ∧ b < 3) ∧ (1 ≤ c ∧ c ≤ 6) ∧ (0 ≤ e ∧ e < 10) ∧ hs.Sublist (numsI 0 ps.length) ∧ (1 ≤ g ∧ g ≤ 9)
section
variable {ps : List D} {m : Nat} {d : D}
theorem isRack_rack (hp : ps.length ≤ 1000) (h : IsRack ps m d) : rack ps.length m d = true := by
  obtain ⟨a, b, c, e, g, hs, rfl, ⟨a0, a1⟩, ⟨b0, b1⟩, ⟨c0, c1⟩, ⟨e0, e1⟩, hh, ⟨g0, g1⟩⟩ := h
  show (decide (("rack" : Str) = "rack") && (within (.int a) 0 ((m : Int) - 1) && (within (.int b) 0 2 && (within (.int c) 1 6 && (within (.int e) 0 9 && (rising ps.length (.tup hs) && within (.int g) 1 9)))))) = true
  rw [within_of a0 (by omega), within_of b0 (by omega), within_of c0 c1, within_of e0 (by omega), within_of g0 g1, (out_ok hp hh).ro]
  simp
theorem isRack_shrt (hp : ps.length ≤ 1000) (h : IsRack ps m d) : ShrtR d := by
  obtain ⟨a, b, c, e, g, hs, rfl, _, _, _, _, hh, _⟩ := h
  intro w a' b' c' e' hs' g' ee xs hx
  cases ee
  cases hx
  exact (out_ok hp hh).lo
theorem isRack_hs (hp : ps.length ≤ 1000) (h : IsRack ps m d) : IsHs d := by
  obtain ⟨a, b, c, e, g, hs, rfl, _, _, _, _, hh, _⟩ := h
  refine ⟨_, _, _, _, _, _, hs, rfl, (out_ok hp hh).lo, List.all_eq_true.mpr fun d hd => ?_⟩
  obtain ⟨i, rfl, _⟩ := nums_mem (hh.subset hd)
  rfl
end
end Ev
/-! Drawn racks. -/
namespace Ev
open PySem
namespace Bd
def law_racks : Df := ⟨["pot", "parts", "rows", "many"], 9, [
    (.par [4, 5] [(.lst true []), (.c (.int (16)))]),
    (.for_ (.n 6) .rng1 [(.v 3)] [(.asg (.n 7) (.bin true .add (.c (.int (1))) (.call "_law_draw" [] [(.v 0), (.pr false .min2 [(.c (.int (6))), (.bin false .sub (.v 5) (.bin false .sub (.bin false .sub (.v 3) (.v 6)) (.c (.int (1)))))])]))), (.asg (.n 5) (.bin true .sub (.v 5) (.v 7))), (.asg (.n 8) (.ite (.cmp .eq (.call "_law_draw" [] [(.v 0), (.c (.int (2)))]) (.c (.int (0)))) (.call "_law_out" [] [(.v 0), (.v 1)]) (.tup []))), (.ex (.app (.v 4) (.tup [(.c (.str "rack")), (.call "_law_draw" [] [(.v 0), (.pr false .len [(.v 2)])]), (.call "_law_draw" [] [(.v 0), (.c (.int (3)))]), (.v 7), (.call "_law_draw" [] [(.v 0), (.c (.int (10)))]), (.v 8), (.bin false .add (.c (.int (1))) (.call "_law_draw" [] [(.v 0), (.c (.int (9)))]))])))]),
    (.ret (some (.pr true .tuple [(.v 4)])))]⟩
end Bd
structure LRk (T : Tx) (kd : Str → Kd) : Prop extends LOut T kd where
  racks : Has T kd "_law_racks" Bd.law_racks
theorem small_7 : small 7 = true := by decide +kernel
section
variable {T : Tx} {kd : Str → Kd} (k n : Nat) {Q : D → Prop} {X : Str → D → Prop}
theorem w_law_racks (L : LRk T kd) (ps rs : List D) (hl : ps.length ≤ 1000) (hr : 1 ≤ rs.length) (hr2 : rs.length ≤ 1000) (m : Nat) (hm : m ≤ 16) (h : ∀ ks : List D, ks.length = m → (∀ r ∈ ks, IsRack ps rs.length r) → (ks.map manyOf).sum ≤ 16 → Q (.tup ks)) : (pCall (T.pat kd (k + 3)) "_law_racks" [] [.loc n, .tup ps, .tup rs, .int m]).wp Q X := by
  refine L.racks.wp [some (.loc n), some (.tup ps), some (.tup rs), some (.int m), none, none, none, none, none] rfl rfl ?_
  have dr := d_draw (T := T) (k + 1) n L.toLDr
  have s0 : small 0 = true := by decide +kernel
  rw [show Bd.law_racks.body = [_, _, _] from rfl, ws_cons, w_par]
  simp only [p_lst, p_cons, p_ci, p_nil, t_bnd, List.length_nil, s0, if_true, w_ret, thenW_nx, List.set_cons_succ, List.set_cons_zero]
  rw [ws_cons]
  refine w_forN (xs := numsI 0 m) (fun j env => ∃ (ks : List D) (l : Int) (t a b : Option D), env = [some (.loc n), some (.tup ps), some (.tup rs), some (.int m), some (.lst ks), some (.int l), t, a, b] ∧ ks.length = j ∧ (∀ r ∈ ks, IsRack ps rs.length r) ∧ (ks.map manyOf).sum = 16 - l ∧ (m : Int) - j ≤ l) ?_ (by rw [nums_len]; omega) ⟨[], 16, none, none, none, rfl, rfl, (fun _ z => nomatch z), rfl, by omega⟩ ?_ ?_
  · simp only [p_cons, p_nil, p_v3, t_bnd, w_ret]
    exact it_rng1 (by omega)
  · rintro j d env hd ⟨ks, l, t, a, b, rfl, hl2, hks, hsum, hleft⟩
    obtain ⟨rfl, hj⟩ := nums_is hd
    simp only [List.set_cons_succ, List.set_cons_zero]
    rw [ws_cons, w_asg]
    simp only [p_bin, p_ci, t_bnd, p_call, p_cons, p_nil, p_v0, p_v3, p_v5, p_v6, p_pr, bin_sub_int, pr_min, t_of, dr, wp_bnd, w_ask, w_ret, bin_add_int]
    refine ⟨by split <;> omega, by split <;> omega, fun z z0 z1 => ?_⟩
    have z2 : z < 6 ∧ z < l - (↑m - (0 + (j : Int)) - 1) := by split at z1 <;> omega
    simp only [List.set_cons_succ, List.set_cons_zero]
    rw [thenW_nx, ws_cons, w_asg]
    simp only [p_bin, p_v5, p_v7, t_bnd, bin_sub_int, t_of, w_ret, List.set_cons_succ, List.set_cons_zero]
    rw [thenW_nx, ws_cons, w_asg]
    refine wp_mono (Q := fun v => ∃ hs : List D, v = .tup hs ∧ hs.Sublist (numsI 0 ps.length)) (X := noX) ?_ ?_ fun _ _ z => z.elim
    · simp only [p_ite, p_cmp, p_call, p_cons, p_nil, p_v0, p_ci, t_bnd, dr, wp_bnd, w_ask, w_ret, cmp_eq_int, t_of, tr_bl, t_ofO]
      refine ⟨by omega, by omega, fun q q0 q1 => ?_⟩
      split
      · simp only [p_call, p_cons, p_nil, p_v0, p_v1, t_bnd]
        exact w_law_out k n L.toLOut ps hl fun out ho => ⟨out, rfl, ho⟩
      · simp only [p_tup, p_nil, t_bnd, List.length_nil, s0, if_true, w_ret]
        exact ⟨[], rfl, List.nil_sublist _⟩
    · rintro v ⟨hs, rfl, hh⟩
      simp only [thenW_nx, List.set_cons_succ, List.set_cons_zero]
      rw [ws_cons, w_app (xs := ks) rfl]
      simp only [p_tup, p_cons, p_nil, p_cs, p_ci, p_v0, p_v2, p_v7, p_v8, p_pr, pr_len, len_tup, opt_some, bnd_oks, p_call, p_bin, t_bnd, t_of, dr, wp_bnd, w_ask, w_ret, bin_add_int, List.length_cons, List.length_nil, Nat.zero_add, Nat.reduceAdd, small_7, if_true, ws_nil, thenW_nx, List.set_cons_succ, List.set_cons_zero]
      refine ⟨by omega, by omega, fun x x0 x1 => ⟨by omega, by omega, fun y y0 y1 => ⟨by omega, by omega, fun e e0 e1 => ⟨by omega, by omega, fun g g0 g1 => ⟨by unfold most; omega, _, _, _, _, _, rfl, by simp [hl2], fun r hr => ?_, ?_, by omega⟩⟩⟩⟩⟩
      · rcases List.mem_append.mp hr with hr | hr
        · exact hks r hr
        · rw [List.mem_singleton.mp hr]
          exact ⟨x, y, 1 + z, e, 1 + g, hs, rfl, ⟨x0, by omega⟩, ⟨y0, y1⟩, ⟨by omega, by omega⟩, ⟨e0, e1⟩, hh, ⟨by omega, by omega⟩⟩
      · rw [List.map_append, List.sum_append, hsum]
        show 16 - l + (1 + z + 0) = _
        omega
  · rintro env ⟨ks, l, t, a, b, rfl, hl2, hks, hsum, hleft⟩
    rw [nums_len] at hl2 hleft
    rw [thenW_nx, ws_cons, w_ret_]
    simp only [p_pr, p_cons, p_nil, p_v4, t_bnd, pr_tuple_lst, w_ret, thenW_rt, end_rt']
    exact h ks hl2 hks (by omega)
end
end Ev
/-! A drawn hall is right. -/
namespace Ev
open PySem
theorem cl_tup {xs : List D} (h : ∀ x ∈ xs, closed x = true) : closed (.tup xs) = true := by
  unfold closed
  exact closed_all h
theorem isPart_cl {d : D} (h : IsPart d) : closed d = true := by
  obtain ⟨a, b, rfl, _⟩ := h
  rfl
theorem isFeed_cl {n : Nat} {m : Int} {d : D} (h : IsFeed n m d) : closed d = true := by
  obtain ⟨x, p, rfl, hx, _⟩ := h
  rcases hx with rfl | ⟨i, rfl, _⟩ <;> rfl
theorem isRow_cl {n : Nat} {d : D} (h : IsRow n d) : closed d = true := by
  obtain ⟨fs, c, g, rfl, f1, f2, f3, hc, hg⟩ := h
  refine cl_tup fun x hx => ?_
  simp only [List.mem_cons, List.not_mem_nil, or_false] at hx
  rcases hx with rfl | rfl | rfl | rfl
  · rfl
  · exact cl_tup fun f hf => isFeed_cl (f3 f hf)
  · exact isFeed_cl hc
  · rcases hg with rfl | ⟨i, rfl, _⟩ <;> rfl
theorem isRack_cl {ps : List D} {m : Nat} {d : D} (hp : ps.length ≤ 1000) (h : IsRack ps m d) : closed d = true := by
  obtain ⟨a, b, c, e, g, hs, rfl, _, _, _, _, hh, _⟩ := h
  refine cl_tup fun x hx => ?_
  simp only [List.mem_cons, List.not_mem_nil, or_false] at hx
  rcases hx with rfl | rfl | rfl | rfl | rfl | rfl | rfl
  · rfl
  · rfl
  · rfl
  · rfl
  · rfl
  · exact (out_ok hp hh).co
  · rfl
theorem sized_of {xs : List D} {a b : Int} (h1 : a ≤ xs.length) (h2 : (xs.length : Int) ≤ b) : sized (.tup xs) a b = true := by
  show (decide (a ≤ (xs.length : Int)) && decide ((xs.length : Int) ≤ b)) = true
  rw [decide_eq_true h1, decide_eq_true h2]
  rfl
theorem hall_ok {ps rs ks : List D} (p1 : ps.length ≤ 6) (p2 : ∀ p ∈ ps, IsPart p) (r1 : 1 ≤ rs.length) (r2 : rs.length ≤ 3) (r3 : ∀ r ∈ rs, IsRow ps.length r) (k1 : 1 ≤ ks.length) (k2 : ks.length ≤ 5) (k3 : ∀ x ∈ ks, IsRack ps rs.length x) (k4 : (ks.map manyOf).sum ≤ 16) : RRck ps rs ks where
  cp := cl_tup fun p hp => isPart_cl (p2 p hp)
  pp := by
    rw [sized_of (by omega) (by omega)]
    exact List.all_eq_true.mpr fun p hp => isPart_part (p2 p hp)
  cr := cl_tup fun r hr => isRow_cl (r3 r hr)
  rr := by
    rw [sized_of (by omega) (by omega)]
    exact List.all_eq_true.mpr fun r hr => isRow_row (r3 r hr)
  ck := cl_tup fun x hx => isRack_cl (by omega) (k3 x hx)
  sk := fun x hx => isRack_shrt (by omega) (k3 x hx)
  kk := by
    show (sized (.tup ks) 1 5 && (ks.all (rack ps.length rs.length) && decide ((ks.map manyOf).sum ≤ 16))) = true
    rw [sized_of (by omega) (by omega), decide_eq_true k4, List.all_eq_true.mpr fun x hx => isRack_rack (by omega) (k3 x hx)]
    rfl
end Ev
/-! Lists by positions: what is told of each thing with its position, or nothing. -/
namespace Ev
open PySem
/-! ### power, cut by cut -/
def feedsOf : D → List D
  | .tup [_, .tup fs, _, _] => fs
  | _ => []
def coolerOf : D → D
  | .tup [_, _, c, _] => c
  | _ => .non
def hsOf : D → List D
  | .tup [_, _, _, _, _, .tup hs, _] => hs
  | _ => []
/-- what a feed gives -/
def c1 (out : List D) (f : D) : Int := if on1 out f then val1 f else 0
theorem powOf_sum (out : List D) : ∀ fs : List D, powOf out fs = (fs.map (c1 out)).sum
  | [] => rfl
  | f :: fs => by
    have ih := powOf_sum out fs
    unfold powOf at ih ⊢
    rw [List.map_cons, List.sum_cons, ← ih]
    unfold c1
    cases h : on1 out f with
    | true => rw [List.filter_cons_of_pos h, List.map_cons, List.sum_cons, if_pos rfl]
    | false => rw [List.filter_cons_of_neg (by rw [h]; decide)]; simp
theorem sum_swap {α β : Type} (g : α → β → Int) : ∀ (xs : List α) (ys : List β), (xs.map fun x => (ys.map (g x)).sum).sum = (ys.map fun y => (xs.map fun x => g x y).sum).sum
  | [], ys => by
    induction ys with
    | nil => rfl
    | cons y ys ih => simpa using ih
  | x :: xs, ys => by
    rw [List.map_cons, List.sum_cons, sum_swap g xs ys]
    induction ys with
    | nil => rfl
    | cons y ys ih =>
      simp only [List.map_cons, List.sum_cons] at ih ⊢
      omega
/-- ints, none twice -/
structure Ints (out : List D) : Prop where
  int : ∀ d ∈ out, ∃ i : Int, d = .int i
  nd : out.Nodup
theorem Ints.tail {d : D} {out : List D} (h : Ints (d :: out)) : Ints out := ⟨fun x hx => h.int x (List.mem_cons_of_mem _ hx), (List.nodup_cons.mp h.nd).2⟩
theorem Ints.flat {out : List D} (h : Ints out) : out.all flatD = true := List.all_eq_true.mpr fun d hd => by
  obtain ⟨i, rfl⟩ := h.int d hd
  rfl
theorem hit_int {out : List D} (h : ∀ d ∈ out, ∃ i : Int, d = .int i) (i : Int) : hit out (.int i) = true ↔ D.int i ∈ out := by
  unfold hit
  rw [List.any_eq_true]
  constructor
  · rintro ⟨y, hy, e⟩
    obtain ⟨j, rfl⟩ := h y hy
    have : (j == i) = true := e
    rw [beq_iff_eq] at this
    rw [← this]
    exact hy
  · intro hy
    exact ⟨_, hy, by show (i == i) = true; simp⟩
theorem hit_non {out : List D} (h : ∀ d ∈ out, ∃ i : Int, d = .int i) : hit out .non = false := by
  unfold hit
  rw [List.any_eq_false]
  intro y hy
  obtain ⟨j, rfl⟩ := h y hy
  exact fun z => nomatch z
theorem c1_cuts {x : D} {v : Int} (hx : x = .non ∨ ∃ i : Int, x = .int i) : ∀ {out : List D}, Ints out → (out.map fun p => c1 [] (.tup [x, .int v]) - c1 [p] (.tup [x, .int v])).sum = c1 [] (.tup [x, .int v]) - c1 out (.tup [x, .int v])
  | [], _ => by simp
  | p :: out, h => by
    have ih := c1_cuts hx h.tail (v := v)
    rw [List.map_cons, List.sum_cons, ih]
    obtain ⟨i, rfl⟩ := h.int p List.mem_cons_self
    rcases hx with rfl | ⟨j, rfl⟩
    · simp [c1, on1]
    · have e0 : on1 [] (.tup [D.int j, .int v]) = true := rfl
      have e1 : on1 [.int i] (.tup [D.int j, .int v]) = !decide (i = j) := by
        show (isNon (.int j) || !hit [.int i] (.int j)) = _
        have : hit [.int i] (.int j) = decide (i = j) := by
          show ((i == j) || false) = _
          rw [Bool.or_false]
          by_cases e : i = j <;> simp [e]
        rw [this]
        rfl
      have e2 : on1 (.int i :: out) (.tup [D.int j, .int v]) = (!decide (i = j) && on1 out (.tup [D.int j, .int v])) := by
        show (isNon (.int j) || !hit (.int i :: out) (.int j)) = (_ && (isNon (.int j) || !hit out (.int j)))
        have : hit (.int i :: out) (.int j) = (decide (i = j) || hit out (.int j)) := by
          show ((i == j) || hit out (.int j)) = _
          by_cases e : i = j <;> simp [e]
        rw [this]
        simp
      unfold c1
      rw [e0, e1, e2]
      by_cases e : i = j
      · subst e
        have hn : on1 out (.tup [D.int i, .int v]) = true := by
          show (isNon (.int i) || !hit out (.int i)) = true
          have : hit out (.int i) = false := by
            rw [Bool.eq_false_iff, Ne, hit_int h.tail.int]
            exact (List.nodup_cons.mp h.nd).1
          rw [this]
          rfl
        simp [hn, val1]
      · simp [e, val1]
theorem lost_sum {fs : List D} (hf : ∀ f ∈ fs, ∃ (x : D) (v : Int), f = .tup [x, .int v] ∧ (x = .non ∨ ∃ i : Int, x = .int i)) {out : List D} (h : Ints out) : (out.map fun p => powOf [] fs - powOf [p] fs).sum = powOf [] fs - powOf out fs := by
  have e1 : ∀ p, powOf [] fs - powOf [p] fs = (fs.map fun f => c1 [] f - c1 [p] f).sum := by
    intro p
    rw [powOf_sum, powOf_sum]
    clear hf
    induction fs with
    | nil => rfl
    | cons f fs ih => simp only [List.map_cons, List.sum_cons] at ih ⊢; omega
  simp only [e1]
  rw [sum_swap (fun p f => c1 [] f - c1 [p] f), powOf_sum, powOf_sum]
  induction fs with
  | nil => rfl
  | cons f fs ih =>
    obtain ⟨x, v, rfl, hx⟩ := hf f List.mem_cons_self
    have ih := ih (fun g hg => hf g (List.mem_cons_of_mem _ hg)) (by
      intro p
      rw [powOf_sum, powOf_sum]
      clear hf ih e1
      induction fs with
      | nil => rfl
      | cons f fs ih => simp only [List.map_cons, List.sum_cons] at ih ⊢; omega)
    simp only [List.map_cons, List.sum_cons] at ih ⊢
    rw [c1_cuts hx h, ih]
    omega
end Ev
/-! Texts of drawn halls. -/
namespace Ev
open PySem
def gB : Nat → Nat
  | 0 => 300
  | k + 1 => 4 * (gB k + 2) + 3
/-- data at most k deep, with at most four things in each -/
def G (k : Nat) (d : D) : Prop := Okv k (gB k) d
theorem g_tup {k : Nat} {xs : List D} (h : ∀ x ∈ xs, G k x) (hl : xs.length ≤ 4) : G (k + 1) (.tup xs) := ok_tup h hl
theorem g_lst {k : Nat} {xs : List D} (h : ∀ x ∈ xs, G k x) (hl : xs.length ≤ 4) : G (k + 1) (.lst xs) := ok_lst h hl
theorem gB_le {k : Nat} : gB k ≤ gB (k + 1) := by show gB k ≤ 4 * (gB k + 2) + 3; omega
theorem G.up {k : Nat} {d : D} (h : G k d) : G (k + 1) d := h.mono (by omega) gB_le
theorem G.up2 {k : Nat} {d : D} (h : G k d) : G (k + 2) d := h.up.up
theorem g_int {i : Int} (h : -(2 ^ 200) < i ∧ i < 2 ^ 200) : G 0 (.int i) := (ok_int h).mono (Nat.le_refl _) (by decide)
theorem g_bl {b : Bool} : G 0 (.bl b) := (ok_bl b).mono (Nat.le_refl _) (by decide)
theorem g_non : G 0 .non := ok_non.mono (Nat.le_refl _) (by decide)
theorem g_str {x : Str} (h : widStr x ≤ 300) : G 0 (.str x) := ok_str h
theorem isOn_g {n : Nat} {d : D} (hn : n ≤ 1000) (h : IsOn n d) : G 0 d := by
  rcases h with rfl | ⟨i, rfl, i0, i1⟩
  · exact g_non
  · exact g_int (by omega)
theorem isFeed_g {n : Nat} {m : Int} {d : D} (hn : n ≤ 1000) (hm : 0 ≤ m) (h : IsFeed n m d) : G 1 d := by
  obtain ⟨x, p, rfl, hx, p0, p1⟩ := h
  exact g_tup (all_cons (isOn_g hn hx) (all_cons (g_int (by omega)) all_nil)) (by simp)
theorem isRow_g {n : Nat} {d : D} (hn : n ≤ 1000) (h : IsRow n d) : G 3 d := by
  obtain ⟨fs, c, g, rfl, f1, f2, f3, hc, hg⟩ := h
  refine g_tup (all_cons (g_str (by decide +kernel)).up2 (all_cons (g_tup (fun f hf => isFeed_g hn (by omega) (f3 f hf)) (by omega)) (all_cons (isFeed_g hn (by omega) hc).up (all_cons ?_ all_nil)))) (by simp)
  rcases hg with rfl | ⟨i, rfl, i0, i1⟩
  · exact g_non.up2
  · exact (g_int (by omega)).up2
theorem isPart_ok {d : D} (h : IsPart d) : Okv 1 700 d := by
  obtain ⟨a, b, rfl, h1, h2, h3⟩ := h
  exact (ok_tup (all_cons ((ok_str (w := 203) (by decide +kernel)).mono (Nat.le_refl _) (Nat.le_refl _)) (all_cons (ok_int (by omega)) (all_cons (ok_int (by omega)) all_nil))) (n := 3) (by simp)).mono (by omega) (by omega)
theorem parts_ok {ps : List D} (hl : ps.length ≤ 6) (h : ∀ p ∈ ps, IsPart p) : Okv 2 5000 (.tup ps) := (ok_tup (fun p hp => isPart_ok (h p hp)) hl).mono (by omega) (by omega)
theorem ok_ints {xs : List D} {n : Nat} (h : ∀ x ∈ xs, ∃ i : Int, x = .int i ∧ 0 ≤ i ∧ i < 1000000) (hl : xs.length ≤ n) : Okv 1 (n * 205 + 3) (.tup xs) := ok_tup (w := 203) (fun x hx => by
  obtain ⟨i, rfl, i0, i1⟩ := h x hx
  exact ok_int (by omega)) hl
theorem isRack_ok {ps : List D} {m : Nat} {d : D} (hp : ps.length ≤ 6) (hm : m ≤ 1000) (h : IsRack ps m d) : Okv 2 8700 d := by
  obtain ⟨a, b, c, e, g, hs, rfl, ⟨a0, a1⟩, ⟨b0, b1⟩, ⟨c0, c1⟩, ⟨e0, e1⟩, hh, ⟨g0, g1⟩⟩ := h
  have hl := hh.length_le
  rw [nums_len] at hl
  have h5 : Okv 1 1233 (.tup hs) := (ok_ints (n := 6) (fun x hx => by
    obtain ⟨i, rfl, i0, i1⟩ := nums_mem (hh.subset hx)
    exact ⟨i, rfl, i0, by omega⟩) (by omega)).mono (by omega) (by omega)
  have up : ∀ {i : Int}, 0 ≤ i → i < 1000000 → Okv 1 1233 (.int i) := fun h0 h1 => (ok_int (by omega)).mono (by omega) (by omega)
  exact (ok_tup (all_cons ((ok_str (w := 1233) (by decide +kernel)).mono (by omega) (by omega)) (all_cons (up a0 (by omega)) (all_cons (up b0 (by omega)) (all_cons (up (by omega) (by omega)) (all_cons (up e0 (by omega)) (all_cons h5 (all_cons (up (by omega) (by omega)) all_nil))))))) (n := 7) (by simp)).mono (by omega) (by omega)
theorem rows_ok {n : Nat} {rs : List D} (hn : n ≤ 1000) (hl : rs.length ≤ 3) (h : ∀ r ∈ rs, IsRow n r) : Okv 4 80000 (.tup rs) := (g_tup (fun r hr => isRow_g hn (h r hr)) (by omega)).mono (Nat.le_refl _) (by decide)
theorem racks_ok {ps ks : List D} {m : Nat} (hp : ps.length ≤ 6) (hm : m ≤ 1000) (hl : ks.length ≤ 5) (h : ∀ r ∈ ks, IsRack ps m r) : Okv 3 44000 (.tup ks) := (ok_tup (fun r hr => isRack_ok hp hm (h r hr)) hl).mono (by omega) (by omega)
/-- a hall's text -/
theorem hall_repr {ps rs ks : List D} (p1 : ps.length ≤ 6) (p2 : ∀ p ∈ ps, IsPart p) (r2 : rs.length ≤ 3) (r3 : ∀ r ∈ rs, IsRow ps.length r) (k2 : ks.length ≤ 5) (k3 : ∀ x ∈ ks, IsRack ps rs.length x) : ∃ x, reprD [] (.lst [.tup ps, .tup rs, .tup ks]) = some (.str x) :=
  (ok_lst (k := 4) (w := 80000) (n := 3) (all_cons ((parts_ok p1 p2).mono (by omega) (by omega)) (all_cons (rows_ok (by omega) r2 r3) (all_cons ((racks_ok p1 (by omega) k2 k3).mono (by omega) (by omega)) all_nil))) (by simp)).repr (by omega) (by omega)
end Ev
/-! What one part cuts off: the program's word. -/
namespace Ev
open PySem
namespace Bd
def cut_off : Df := ⟨["parts", "rows", "racks", "part"], 10, [
    (.ex (.call "want_racks" [] [(.v 0), (.v 1), (.v 2)])),
    (.iff (.not (.call "is_position" [] [(.v 3), (.v 0)])) [.dead] []),
    (.par [4, 5] [(.lst true []), (.lst true [])]),
    (.for_ (.n 6) .rng1 [(.pr false .len [(.v 1)])] [(.asg (.n 7) (.bin true .sub (.call "power_of" [] [(.v 1), (.v 6), (.tup [])]) (.call "power_of" [] [(.v 1), (.v 6), (.tup [(.v 3)])]))), (.iff (.cmp .gt (.v 7) (.c (.int (0)))) [(.ex (.app (.v 4) (.tup [(.v 6), (.v 7)])))] []), (.iff (.cmp .lt (.call "cool_of" [] [(.v 1), (.v 6), (.tup [(.v 3)])]) (.call "cool_of" [] [(.v 1), (.v 6), (.tup [])])) [(.ex (.app (.v 5) (.v 6)))] [])]),
    (.ret (some (.tup [(.pr false .tuple [(.v 4)]), (.pr false .tuple [(.v 5)]), (.pr false .tuple [(.comp false [8, 9] (.t [(.n 8), (.n 9)]) .enum [(.v 2)] [(.cmp .isIn (.v 3) (.ix (.v 9) (.c (.int (5)))))] (.v 8))])])))]⟩
end Bd
structure Cut (T : Tx) (kd : Str → Kd) : Prop extends Dor T kd where
  cut_off : Has T kd "cut_off" Bd.cut_off
/-- a row: its feeds, its cooler -/
def RowV (r : D) : Prop := ∃ (w c h : D) (fs : List D), r = .tup [w, .tup fs, c, h] ∧ fs.length ≤ 1000 ∧ (∀ f ∈ fs, IsHang f) ∧ IsHang c
/-- what a part's feeds of a row give -/
def lostOf (p r : D) : Int := powOf [] (feedsOf r) - powOf [p] (feedsOf r)
def cutP (p : D) (i : Nat) (r : D) : Option D := if 0 < lostOf p r then some (.tup [.int i, .int (lostOf p r)]) else none
def cutC (p : D) (i : Nat) (r : D) : Option D := if coolOf [p] (coolerOf r) < coolOf [] (coolerOf r) then some (.int i) else none
def cutK (p : D) (i : Nat) (k : D) : Option D := if hit (hsOf k) p then some (.int i) else none
def cutV (p : D) (rs ks : List D) : D := .tup [.tup (idxFil (cutP p) 0 rs), .tup (idxFil (cutC p) 0 rs), .tup (idxFil (cutK p) 0 ks)]
/-- a drawn hall -/
structure DHall (ps rs ks : List D) : Prop where
  p1 : ps.length ≤ 6
  p2 : ∀ p ∈ ps, IsPart p
  r1 : 1 ≤ rs.length
  r2 : rs.length ≤ 3
  r3 : ∀ r ∈ rs, IsRow ps.length r
  k1 : 1 ≤ ks.length
  k2 : ks.length ≤ 5
  k3 : ∀ x ∈ ks, IsRack ps rs.length x
  k4 : (ks.map manyOf).sum ≤ 16
section
variable {ps rs ks : List D}
theorem DHall.right (h : DHall ps rs ks) : RRck ps rs ks := hall_ok h.p1 h.p2 h.r1 h.r2 h.r3 h.k1 h.k2 h.k3 h.k4
theorem DHall.rowV (h : DHall ps rs ks) : ∀ r ∈ rs, RowV r := fun r hr => by
  obtain ⟨fs, c, g, rfl, f1, f2, f3, hc, hg⟩ := h.r3 r hr
  exact ⟨_, c, g, fs, rfl, by omega, fun f hf => isFeed_hang (f3 f hf), isFeed_hang hc⟩
theorem DHall.hs (h : DHall ps rs ks) : ∀ x ∈ ks, IsHs x := fun x hx => isRack_hs (by have := h.p1; omega) (h.k3 x hx)
theorem DHall.repr (h : DHall ps rs ks) : ∃ x, reprD [] (.lst [.tup ps, .tup rs, .tup ks]) = some (.str x) := hall_repr h.p1 h.p2 h.r2 h.r3 h.k2 h.k3
end
section
variable {T : Tx} {kd : Str → Kd} (k : Nat)
theorem c_cut_off (B : Cut T kd) {ps rs ks : List D} {i : Int} (H : RRck ps rs ks) (h0 : 0 ≤ i) (h1 : i < ps.length) (hr : ∀ r ∈ rs, RowV r) (hk : ∀ x ∈ ks, IsHs x) (rl : rs.length ≤ 1000) (kl : ks.length ≤ 1000) : pCall (T.pat kd (k + 9)) "cut_off" [] [.tup ps, .tup rs, .tup ks, .int i] = .ret (cutV (.int i) rs ks) := by
  refine B.cut_off.ret [some (.tup ps), some (.tup rs), some (.tup ks), some (.int i), none, none, none, none, none, none] rfl rfl ?_
  have e1 := c_want_racks k (.tup ks) B.toRck ps rs H.cp H.pp H.cr H.rr H.ck (fun xs e => by cases e; exact H.sk) H.kk
  have e2 := c_is_position B.toBas (k + 5) (.int i) ps rfl
  rw [within_of h0 (by omega)] at e2
  have s0 : small 0 = true := by decide +kernel
  refine ss_call (d := .non) (by simp [e1]) ?_
  refine ss_no (by simp [e2]) ?_
  refine ss_par (d := .lst []) (g := .lst []) (by simp [s0]) (by simp [s0]) ?_
  refine ss_forN (numsI 0 rs.length) (fun j env => ∃ a b, env = [some (.tup ps), some (.tup rs), some (.tup ks), some (.int i), some (.lst (idxFil (cutP (.int i)) 0 (rs.take j))), some (.lst (idxFil (cutC (.int i)) 0 (rs.take j))), a, b, none, none]) (ds := [.int rs.length]) (by simp) (it_rng1 (by omega)) (by rw [nums_len]; omega) ⟨none, none, rfl⟩ ?_ ?_
  · rintro j d env hd ⟨a, b, rfl⟩
    obtain ⟨rfl, hj⟩ := nums0_is hd
    obtain ⟨r, hr'⟩ : ∃ r, rs[j]? = some r := ⟨_, List.getElem?_eq_getElem hj⟩
    obtain ⟨w, c, h, fs, e, fl, ff, fc⟩ := hr r (List.mem_of_getElem? hr')
    have at_ : L2.atI rs ((j : Nat) : Int) = some r := atI_nat hr'
    rw [e] at at_
    have fi : ([D.int i]).all flatD = true := rfl
    have p1 := c_power_of (k + 7) B.toPow at_ fl ff (out := []) rfl
    have p2 := c_power_of (k + 7) B.toPow at_ fl ff (out := [.int i]) rfl
    have p3 := c_cool_of (k + 7) B.toPow at_ fc (out := []) rfl
    have p4 := c_cool_of (k + 7) B.toPow at_ fc (out := [.int i]) rfl
    have q1 : lostOf (.int i) r = powOf [] fs - powOf [.int i] fs := by rw [e]; rfl
    have q2 : coolerOf r = c := by rw [e]; rfl
    have l1 := idxFil_len (f := cutP (.int i)) (xs := rs.take j) (i := 0)
    have l2 := idxFil_len (f := cutC (.int i)) (xs := rs.take j) (i := 0)
    have l3 : (rs.take j).length ≤ rs.length := by rw [List.length_take]; omega
    simp only [List.set_cons_succ, List.set_cons_zero]
    refine ⟨_, ?_, some (.int ((j : Nat) : Int)), some (.int (powOf [] fs - powOf [.int i] fs)), rfl⟩
    refine ss_asg (d := .int (powOf [] fs - powOf [.int i] fs)) (by simp [s0, small_1, p1, p2]) ?_
    refine ss_ifApp (k := decide (0 < powOf [] fs - powOf [.int i] fs)) (d := .tup [.int ((j : Nat) : Int), .int (powOf [] fs - powOf [.int i] fs)]) (by simp) rfl (fun _ => by simp [small_2]) (by omega) ?_
    refine ss_ifApp (k := decide (coolOf [.int i] c < coolOf [] c)) (d := .int ((j : Nat) : Int)) (by simp [s0, small_1, p3, p4]) rfl (fun _ => by simp) (by omega) ?_
    rw [idxFil_take hr', idxFil_take hr']
    have t1 : (cutP (.int i) j r).toList = if decide (0 < powOf [] fs - powOf [.int i] fs) = true then [.tup [.int ((j : Nat) : Int), .int (powOf [] fs - powOf [.int i] fs)]] else [] := by
      unfold cutP
      rw [q1]
      by_cases h : 0 < powOf [] fs - powOf [.int i] fs
      · rw [if_pos h, if_pos (decide_eq_true h)]; rfl
      · rw [if_neg h, if_neg (by rw [decide_eq_true_eq]; exact h)]; rfl
    have t2 : (cutC (.int i) j r).toList = if decide (coolOf [.int i] c < coolOf [] c) = true then [.int ((j : Nat) : Int)] else [] := by
      unfold cutC
      rw [q2]
      by_cases h : coolOf [.int i] c < coolOf [] c
      · rw [if_pos h, if_pos (decide_eq_true h)]; rfl
      · rw [if_neg h, if_neg (by rw [decide_eq_true_eq]; exact h)]; rfl
    rw [t1, t2]
    rfl
  · rintro env ⟨a, b, rfl⟩
    rw [nums_len, List.take_length]
    have e3 : pE (T.pat kd (k + 8)) (.comp false [8, 9] (.t [(.n 8), (.n 9)]) .enum [(.v 2)] [(.cmp .isIn (.v 3) (.ix (.v 9) (.c (.int (5)))))] (.v 8)) [some (.tup ps), some (.tup rs), some (.tup ks), some (.int i), some (.lst (idxFil (cutP (.int i)) 0 rs)), some (.lst (idxFil (cutC (.int i)) 0 rs)), a, b, none, none] = .ret (.lst (idxFil (cutK (.int i)) 0 ks)) := by
      refine e_compE (d := .tup ks) (cutK (.int i)) (by simp) rfl (by omega) fun m x hx => ?_
      obtain ⟨w, a, b, c, e, g, hs, rfl, h1, h2⟩ := (hk x (List.mem_of_getElem? hx)).ex
      have e5 : L2.atI [w, a, b, c, e, D.tup hs, g] 5 = some (.tup hs) := by
        rw [atI_lt (by omega) (by simp)]
        rfl
      unfold pTurn cutK
      cases hh : hit hs (.int i) <;> simp [wipeE, setT, setTs, e5, cmp_in (x := .int i) rfl h2, hh, hsOf]
    refine ss_ret ?_
    simp [e3, pr_tuple_lst, small_3, cutV]
end
end Ev
namespace L15
open PySem PySem.Spec PyProof.Rows Ev
def tops : List Stmt := PySem.Challenge.pw_promisedhall_k15_whole_what_one_part_cut.main.body
def topS (i : Nat) : Stmt := tops.getD i (.Pass ⟨0, 0, 0, 0⟩)
def defs : List Str := [("is_integer" : Str), ("is_count" : Str), ("is_within" : Str), ("is_position" : Str), ("is_tuple_of" : Str), ("is_rising" : Str), ("is_part" : Str), ("hangs_on" : Str), ("is_row_of" : Str), ("is_rack_of" : Str), ("are_some" : Str), ("are_parts" : Str), ("are_rows_of" : Str), ("are_racks_of" : Str), ("want_parts" : Str), ("want_rows" : Str), ("want_racks" : Str), ("want_row" : Str), ("want_out" : Str), ("power_of" : Str), ("cool_of" : Str), ("dark_of" : Str), ("row_power" : Str), ("row_cool" : Str), ("is_dark" : Str), ("cut_off" : Str), ("_law_pot" : Str), ("_law_draw" : Str), ("_law_pick" : Str), ("_law_parts" : Str), ("_law_on" : Str), ("_law_rows" : Str), ("_law_out" : Str), ("_law_racks" : Str), ("_law_due" : Str), ("_law_out_right" : Str), ("_law_known_right" : Str), ("_law_right" : Str), ("law" : Str)]
def consts : List (Str × D) := [("MOST_MACHINES", .int 16), ("MOST_PARTS", .int 6), ("MOST_KIND", .int 2)]
def pats : List (Nat × List Str) := [(0, ["part", "racks", "rows", "parts"])]
def d_is_integer : Df := ⟨["value"], 1, [
    (.ret (some (.and (.isi (.v 0) .int) (.not (.isi (.v 0) .bool)))))]⟩
def d_is_count : Df := ⟨["value"], 1, [
    (.ret (some (.and (.call "is_integer" [] [(.v 0)]) (.cmp .ge (.v 0) (.c (.int (0)))))))]⟩
def d_is_within : Df := ⟨["value", "least", "most"], 3, [
    (.ret (some (.and (.call "is_integer" [] [(.v 0)]) (.chain .le .le (.v 1) (.v 0) (.v 2)))))]⟩
def d_is_position : Df := ⟨["value", "things"], 2, [
    (.ret (some (.and (.call "is_count" [] [(.v 0)]) (.cmp .lt (.v 0) (.pr false .len [(.v 1)])))))]⟩
def d_is_tuple_of : Df := ⟨["value", "word", "size"], 3, [
    (.iff (.or (.not (.isi (.v 0) .tuple)) (.cmp .ne (.pr false .len [(.v 0)]) (.v 2))) [(.ret (some (.c (.bl false))))] []),
    (.ret (some (.and (.isi (.ix (.v 0) (.c (.int (0)))) .str) (.cmp .eq (.ix (.v 0) (.c (.int (0)))) (.v 1)))))]⟩
def d_is_rising : Df := ⟨["value", "most"], 4, [
    (.iff (.or (.not (.isi (.v 0) .tuple)) (.not (.pr false .all [(.comp false [2] (.n 2) .seq [(.v 0)] [] (.and (.call "is_count" [] [(.v 2)]) (.cmp .lt (.v 2) (.v 1))))]))) [(.ret (some (.c (.bl false))))] []),
    (.ret (some (.pr true .all [(.comp false [2, 3] (.t [(.n 2), (.n 3)]) .zip2 [(.v 0), (.sl false (.v 0) (.c (.int (1))) (.c .non))] [] (.cmp .lt (.v 2) (.v 3)))])))]⟩
def d_is_part : Df := ⟨["value"], 4, [
    (.iff (.not (.call "is_tuple_of" [] [(.v 0), (.c (.str "part")), (.c (.int (3)))])) [(.ret (some (.c (.bl false))))] []),
    (.asg (.t [(.n 1), (.n 2), (.n 3)]) (.v 0)),
    (.ret (some (.and (.call "is_within" [] [(.v 2), (.c (.int (1))), (.c (.int (9)))]) (.and (.call "is_within" [] [(.v 3), (.c (.int (1))), (.c (.int (9)))]) (.cmp .le (.v 2) (.v 3))))))]⟩
def d_hangs_on : Df := ⟨["parts", "value", "least"], 3, [
    (.iff (.or (.not (.isi (.v 1) .tuple)) (.cmp .ne (.pr false .len [(.v 1)]) (.c (.int (2))))) [(.ret (some (.c (.bl false))))] []),
    (.ret (some (.and (.or (.cmp .isN (.ix (.v 1) (.c (.int (0)))) (.c .non)) (.call "is_position" [] [(.ix (.v 1) (.c (.int (0)))), (.v 0)])) (.call "is_within" [] [(.ix (.v 1) (.c (.int (1)))), (.v 2), (.c (.int (99)))]))))]⟩
def d_is_row_of : Df := ⟨["parts", "value"], 7, [
    (.iff (.not (.call "is_tuple_of" [] [(.v 1), (.c (.str "row")), (.c (.int (4)))])) [(.ret (some (.c (.bl false))))] []),
    (.asg (.t [(.n 2), (.n 3), (.n 4), (.n 5)]) (.v 1)),
    (.iff (.or (.not (.isi (.v 3) .tuple)) (.not (.chain .le .le (.c (.int (1))) (.pr false .len [(.v 3)]) (.c (.int (3)))))) [(.ret (some (.c (.bl false))))] []),
    (.iff (.or (.not (.pr false .all [(.comp false [6] (.n 6) .seq [(.v 3)] [] (.call "hangs_on" [] [(.v 0), (.v 6), (.c (.int (1)))]))])) (.not (.call "hangs_on" [] [(.v 0), (.v 4), (.c (.int (0)))]))) [(.ret (some (.c (.bl false))))] []),
    (.ret (some (.or (.cmp .isN (.v 5) (.c .non)) (.call "is_within" [] [(.v 5), (.c (.int (0))), (.c (.int (99)))]))))]⟩
def d_is_rack_of : Df := ⟨["parts", "rows", "value"], 10, [
    (.iff (.not (.call "is_tuple_of" [] [(.v 2), (.c (.str "rack")), (.c (.int (7)))])) [(.ret (some (.c (.bl false))))] []),
    (.asg (.t [(.n 3), (.n 4), (.n 5), (.n 6), (.n 7), (.n 8), (.n 9)]) (.v 2)),
    (.iff (.or (.not (.call "is_position" [] [(.v 4), (.v 1)])) (.or (.not (.call "is_within" [] [(.v 5), (.c (.int (0))), (.c (.int (2)))])) (.not (.call "is_within" [] [(.v 6), (.c (.int (1))), (.c (.int (6)))])))) [(.ret (some (.c (.bl false))))] []),
    (.ret (some (.and (.call "is_within" [] [(.v 7), (.c (.int (0))), (.c (.int (9)))]) (.and (.call "is_rising" [] [(.v 8), (.pr false .len [(.v 0)])]) (.call "is_within" [] [(.v 9), (.c (.int (1))), (.c (.int (9)))])))))]⟩
def d_are_some : Df := ⟨["value", "least", "most"], 3, [
    (.ret (some (.and (.isi (.v 0) .tuple) (.chain .le .le (.v 1) (.pr false .len [(.v 0)]) (.v 2)))))]⟩
def d_are_parts : Df := ⟨["value"], 2, [
    (.ret (some (.and (.call "are_some" [] [(.v 0), (.c (.int (0))), (.c (.int (6)))]) (.pr false .all [(.comp false [1] (.n 1) .seq [(.v 0)] [] (.call "is_part" [] [(.v 1)]))]))))]⟩
def d_are_rows_of : Df := ⟨["parts", "value"], 3, [
    (.ret (some (.and (.call "are_some" [] [(.v 1), (.c (.int (1))), (.c (.int (3)))]) (.pr false .all [(.comp false [2] (.n 2) .seq [(.v 1)] [] (.call "is_row_of" [] [(.v 0), (.v 2)]))]))))]⟩
def d_are_racks_of : Df := ⟨["parts", "rows", "value"], 5, [
    (.iff (.or (.not (.call "are_some" [] [(.v 2), (.c (.int (1))), (.c (.int (5)))])) (.not (.pr false .all [(.comp false [3] (.n 3) .seq [(.v 2)] [] (.call "is_rack_of" [] [(.v 0), (.v 1), (.v 3)]))]))) [(.ret (some (.c (.bl false))))] []),
    (.ret (some (.cmp .le (.pr false .sum [(.comp false [4] (.n 4) .seq [(.v 2)] [] (.ix (.v 4) (.c (.int (3)))))]) (.c (.int (16))))))]⟩
def d_want_parts : Df := ⟨["parts"], 1, [
    (.iff (.not (.call "are_parts" [] [(.v 0)])) [.dead] [])]⟩
def d_want_rows : Df := ⟨["parts", "rows"], 2, [
    (.ex (.call "want_parts" [] [(.v 0)])),
    (.iff (.not (.call "are_rows_of" [] [(.v 0), (.v 1)])) [.dead] [])]⟩
def d_want_racks : Df := ⟨["parts", "rows", "racks"], 3, [
    (.ex (.call "want_rows" [] [(.v 0), (.v 1)])),
    (.iff (.not (.call "are_racks_of" [] [(.v 0), (.v 1), (.v 2)])) [.dead] [])]⟩
def d_want_row : Df := ⟨["rows", "row"], 2, [
    (.iff (.not (.call "is_position" [] [(.v 1), (.v 0)])) [.dead] [])]⟩
def d_want_out : Df := ⟨["parts", "out"], 2, [
    (.iff (.not (.call "is_rising" [] [(.v 1), (.pr false .len [(.v 0)])])) [.dead] [])]⟩
def d_power_of : Df := ⟨["rows", "row", "out"], 5, [
    (.ret (some (.pr true .sum [(.comp false [3, 4] (.t [(.n 3), (.n 4)]) .seq [(.ix (.ix (.v 0) (.v 1)) (.c (.int (1))))] [(.or (.cmp .isN (.v 3) (.c .non)) (.cmp .notIn (.v 3) (.v 2)))] (.v 4))])))]⟩
def d_cool_of : Df := ⟨["rows", "row", "out"], 5, [
    (.asg (.t [(.n 3), (.n 4)]) (.ix (.ix (.v 0) (.v 1)) (.c (.int (2))))),
    (.ret (some (.ite (.or (.cmp .isN (.v 3) (.c .non)) (.cmp .notIn (.v 3) (.v 2))) (.v 4) (.c (.int (0))))))]⟩
def d_dark_of : Df := ⟨["racks", "out"], 4, [
    (.ret (some (.comp true [3] (.n 3) .seq [(.v 0)] [] (.pr false .any [(.comp false [2] (.n 2) .seq [(.ix (.v 3) (.c (.int (5))))] [] (.cmp .isIn (.v 2) (.v 1)))]))))]⟩
def d_row_power : Df := ⟨["parts", "rows", "row", "out"], 4, [
    (.ex (.call "want_rows" [] [(.v 0), (.v 1)])),
    (.ex (.call "want_row" [] [(.v 1), (.v 2)])),
    (.ex (.call "want_out" [] [(.v 0), (.v 3)])),
    (.ret (some (.call "power_of" [] [(.v 1), (.v 2), (.v 3)])))]⟩
def d_row_cool : Df := ⟨["parts", "rows", "row", "out"], 4, [
    (.ex (.call "want_rows" [] [(.v 0), (.v 1)])),
    (.ex (.call "want_row" [] [(.v 1), (.v 2)])),
    (.ex (.call "want_out" [] [(.v 0), (.v 3)])),
    (.ret (some (.call "cool_of" [] [(.v 1), (.v 2), (.v 3)])))]⟩
def d_is_dark : Df := ⟨["parts", "rows", "racks", "rack", "out"], 5, [
    (.ex (.call "want_racks" [] [(.v 0), (.v 1), (.v 2)])),
    (.iff (.not (.call "is_position" [] [(.v 3), (.v 2)])) [.dead] []),
    (.ex (.call "want_out" [] [(.v 0), (.v 4)])),
    (.ret (some (.ix (.call "dark_of" [] [(.v 2), (.v 4)]) (.v 3))))]⟩
def d_cut_off : Df := ⟨["parts", "rows", "racks", "part"], 10, [
    (.ex (.call "want_racks" [] [(.v 0), (.v 1), (.v 2)])),
    (.iff (.not (.call "is_position" [] [(.v 3), (.v 0)])) [.dead] []),
    (.par [4, 5] [(.lst true []), (.lst true [])]),
    (.for_ (.n 6) .rng1 [(.pr false .len [(.v 1)])] [(.asg (.n 7) (.bin true .sub (.call "power_of" [] [(.v 1), (.v 6), (.tup [])]) (.call "power_of" [] [(.v 1), (.v 6), (.tup [(.v 3)])]))), (.iff (.cmp .gt (.v 7) (.c (.int (0)))) [(.ex (.app (.v 4) (.tup [(.v 6), (.v 7)])))] []), (.iff (.cmp .lt (.call "cool_of" [] [(.v 1), (.v 6), (.tup [(.v 3)])]) (.call "cool_of" [] [(.v 1), (.v 6), (.tup [])])) [(.ex (.app (.v 5) (.v 6)))] [])]),
    (.ret (some (.tup [(.pr false .tuple [(.v 4)]), (.pr false .tuple [(.v 5)]), (.pr false .tuple [(.comp false [8, 9] (.t [(.n 8), (.n 9)]) .enum [(.v 2)] [(.cmp .isIn (.v 3) (.ix (.v 9) (.c (.int (5)))))] (.v 8))])])))]⟩
def d__law_pot : Df := ⟨["script", "k"], 3, [
    (.asg (.n 2) (.ite (.cmp .lt (.v 1) (.pr false .len [(.v 0)])) (.pr true .abs [(.ix (.v 0) (.v 1))]) (.bin true .add (.bin false .mul (.c (.int (1327))) (.v 1)) (.c (.int (947)))))),
    (.ret (some (.lst true [(.pr false .max2 [(.c (.int (0))), (.bin false .sub (.v 2) (.bin false .pow (.c (.int (10))) (.c (.int (18)))))]), (.bin false .add (.bin false .mod (.pr false .int1 [(.bin false .add (.bin false .add (.bin false .mul (.bin false .mod (.pr false .int1 [(.v 2)]) (.c (.int (2147483549)))) (.c (.int (40014)))) (.bin false .mul (.c (.int (6607))) (.v 1))) (.c (.int (337))))]) (.c (.int (2147483563)))) (.c (.int (1))))])))]⟩
def d__law_draw : Df := ⟨["pot", "many"], 3, [
    (.iff (.cmp .gt (.ix (.v 0) (.c (.int (0)))) (.c (.int (0)))) [(.asg (.t [(.s (.v 0) (.c (.int (0)))), (.n 2)]) (.pr true .divmod [(.ix (.v 0) (.c (.int (0)))), (.v 1)])), (.ret (some (.v 2)))] []),
    (.asg (.s (.v 0) (.c (.int (1)))) (.bin true .mod (.pr false .int1 [(.bin false .add (.bin false .mul (.ix (.v 0) (.c (.int (1)))) (.c (.int (40692)))) (.c (.int (9043))))]) (.c (.int (2147483563))))),
    (.ret (some (.bin true .mod (.pr false .int1 [(.bin false .fdiv (.bin false .mod (.pr false .int1 [(.bin false .mul (.ix (.v 0) (.c (.int (1)))) (.ix (.v 0) (.c (.int (1)))))]) (.c (.int (2147483549)))) (.c (.int (19))))]) (.v 1))))]⟩
def d__law_pick : Df := ⟨["pot", "some"], 2, [
    (.ret (some (.ix (.v 1) (.call "_law_draw" [] [(.v 0), (.pr false .len [(.v 1)])]))))]⟩
def d__law_parts : Df := ⟨["pot", "many"], 5, [
    (.asg (.n 2) (.lst true [])),
    (.for_ (.n 3) .rng1 [(.v 1)] [(.asg (.n 4) (.bin true .add (.c (.int (1))) (.call "_law_draw" [] [(.v 0), (.c (.int (9)))]))), (.ex (.app (.v 2) (.tup [(.c (.str "part")), (.v 4), (.bin false .add (.v 4) (.call "_law_draw" [] [(.v 0), (.bin false .sub (.c (.int (10))) (.v 4))]))])))]),
    (.ret (some (.pr true .tuple [(.v 2)])))]⟩
def d__law_on : Df := ⟨["pot", "parts"], 2, [
    (.ret (some (.ite (.or (.cmp .eq (.v 1) (.tup [])) (.cmp .eq (.call "_law_draw" [] [(.v 0), (.c (.int (3)))]) (.c (.int (0))))) (.c .non) (.call "_law_draw" [] [(.v 0), (.pr false .len [(.v 1)])]))))]⟩
def d__law_rows : Df := ⟨["pot", "parts", "many"], 8, [
    (.asg (.n 3) (.lst true [])),
    (.for_ (.n 4) .rng1 [(.v 2)] [(.asg (.n 5) (.pr true .tuple [(.comp false [6] (.n 6) .rng1 [(.bin false .add (.c (.int (1))) (.call "_law_draw" [] [(.v 0), (.c (.int (3)))]))] [] (.tup [(.call "_law_on" [] [(.v 0), (.v 1)]), (.bin false .add (.c (.int (1))) (.call "_law_draw" [] [(.v 0), (.c (.int (30)))]))]))])), (.asg (.n 7) (.ite (.cmp .eq (.call "_law_draw" [] [(.v 0), (.c (.int (2)))]) (.c (.int (0)))) (.c .non) (.call "_law_draw" [] [(.v 0), (.c (.int (100)))]))), (.ex (.app (.v 3) (.tup [(.c (.str "row")), (.v 5), (.tup [(.call "_law_on" [] [(.v 0), (.v 1)]), (.call "_law_draw" [] [(.v 0), (.c (.int (40)))])]), (.v 7)])))]),
    (.ret (some (.pr true .tuple [(.v 3)])))]⟩
def d__law_out : Df := ⟨["pot", "parts"], 3, [
    (.ret (some (.pr true .tuple [(.comp false [2] (.n 2) .rng1 [(.pr false .len [(.v 1)])] [(.cmp .eq (.call "_law_draw" [] [(.v 0), (.c (.int (2)))]) (.c (.int (0))))] (.v 2))])))]⟩
def d__law_racks : Df := ⟨["pot", "parts", "rows", "many"], 9, [
    (.par [4, 5] [(.lst true []), (.c (.int (16)))]),
    (.for_ (.n 6) .rng1 [(.v 3)] [(.asg (.n 7) (.bin true .add (.c (.int (1))) (.call "_law_draw" [] [(.v 0), (.pr false .min2 [(.c (.int (6))), (.bin false .sub (.v 5) (.bin false .sub (.bin false .sub (.v 3) (.v 6)) (.c (.int (1)))))])]))), (.asg (.n 5) (.bin true .sub (.v 5) (.v 7))), (.asg (.n 8) (.ite (.cmp .eq (.call "_law_draw" [] [(.v 0), (.c (.int (2)))]) (.c (.int (0)))) (.call "_law_out" [] [(.v 0), (.v 1)]) (.tup []))), (.ex (.app (.v 4) (.tup [(.c (.str "rack")), (.call "_law_draw" [] [(.v 0), (.pr false .len [(.v 2)])]), (.call "_law_draw" [] [(.v 0), (.c (.int (3)))]), (.v 7), (.call "_law_draw" [] [(.v 0), (.c (.int (10)))]), (.v 8), (.bin false .add (.c (.int (1))) (.call "_law_draw" [] [(.v 0), (.c (.int (9)))]))])))]),
    (.ret (some (.pr true .tuple [(.v 4)])))]⟩
def d__law_due : Df := ⟨["rows", "racks", "part"], 11, [
    (.asg (.n 3) (.lst true [])),
    (.for_ (.t [(.n 4), (.n 5)]) .enum [(.v 0)] [(.asg (.n 6) (.comp true [7, 8] (.t [(.n 7), (.n 8)]) .seq [(.ix (.v 5) (.c (.int (1))))] [(.cmp .eq (.v 7) (.v 2))] (.v 8))), (.iff (.cmp .ne (.v 6) (.lst false [])) [(.ex (.app (.v 3) (.tup [(.v 4), (.pr false .sum [(.v 6)])])))] [])]),
    (.asg (.n 9) (.pr true .tuple [(.comp false [4, 5] (.t [(.n 4), (.n 5)]) .enum [(.v 0)] [(.and (.cmp .eq (.ix (.ix (.v 5) (.c (.int (2)))) (.c (.int (0)))) (.v 2)) (.cmp .gt (.ix (.ix (.v 5) (.c (.int (2)))) (.c (.int (1)))) (.c (.int (0)))))] (.v 4))])),
    (.ret (some (.tup [(.pr false .tuple [(.v 3)]), (.v 9), (.pr false .tuple [(.comp false [4, 10] (.t [(.n 4), (.n 10)]) .enum [(.v 1)] [(.cmp .isIn (.v 2) (.ix (.v 10) (.c (.int (5)))))] (.v 4))])])))]⟩
def d__law_out_right : Df := ⟨["parts", "rows", "racks", "cuts", "out"], 12, [
    (.for_ (.n 5) .rng1 [(.pr false .len [(.v 1)])] [(.asg (.n 6) (.pr true .sum [(.comp false [9] (.n 9) .seq [(.v 4)] [] (.pr false .sum [(.comp false [7, 8] (.t [(.n 7), (.n 8)]) .seq [(.ix (.ix (.v 3) (.v 9)) (.c (.int (0))))] [(.cmp .eq (.v 7) (.v 5))] (.v 8))]))])), (.iff (.cmp .ne (.call "row_power" [] [(.v 0), (.v 1), (.v 5), (.v 4)]) (.bin false .sub (.call "row_power" [] [(.v 0), (.v 1), (.v 5), (.tup [])]) (.v 6))) [(.ret (some (.c (.bl false))))] []), (.asg (.n 10) (.pr true .any [(.comp false [9] (.n 9) .seq [(.v 4)] [] (.cmp .isIn (.v 5) (.ix (.ix (.v 3) (.v 9)) (.c (.int (1))))))])), (.iff (.cmp .ne (.call "row_cool" [] [(.v 0), (.v 1), (.v 5), (.v 4)]) (.ite (.v 10) (.c (.int (0))) (.call "row_cool" [] [(.v 0), (.v 1), (.v 5), (.tup [])]))) [(.ret (some (.c (.bl false))))] [])]),
    (.for_ (.n 11) .rng1 [(.pr false .len [(.v 2)])] [(.iff (.cmp .ne (.pr false .repr [(.call "is_dark" [] [(.v 0), (.v 1), (.v 2), (.v 11), (.v 4)])]) (.pr false .repr [(.pr false .any [(.comp false [9] (.n 9) .seq [(.v 4)] [] (.cmp .isIn (.v 11) (.ix (.ix (.v 3) (.v 9)) (.c (.int (2))))))])])) [(.ret (some (.c (.bl false))))] [])]),
    (.ret (some (.c (.bl true))))]⟩
def d__law_known_right : Df := ⟨[], 4, [
    (.asg (.n 0) (.tup [(.tup [(.c (.str "part")), (.c (.int (1))), (.c (.int (1)))]), (.tup [(.c (.str "part")), (.c (.int (2))), (.c (.int (9)))])])),
    (.asg (.n 1) (.tup [(.tup [(.c (.str "row")), (.tup [(.tup [(.c (.int (1))), (.c (.int (5)))]), (.tup [(.c .non), (.c (.int (9)))]), (.tup [(.c (.int (1))), (.c (.int (7)))])]), (.tup [(.c (.int (0))), (.c (.int (3)))]), (.c (.int (4)))]), (.tup [(.c (.str "row")), (.tup [(.tup [(.c (.int (1))), (.c (.int (2)))])]), (.tup [(.c (.int (1))), (.c (.int (0)))]), (.c .non)]), (.tup [(.c (.str "row")), (.tup [(.tup [(.c (.int (0))), (.c (.int (1)))])]), (.tup [(.c (.int (1))), (.c (.int (6)))]), (.c .non)])])),
    (.asg (.n 2) (.tup [(.tup [(.c (.str "rack")), (.c (.int (0))), (.c (.int (0))), (.c (.int (1))), (.c (.int (0))), (.tup [(.c (.int (1)))]), (.c (.int (1)))]), (.tup [(.c (.str "rack")), (.c (.int (1))), (.c (.int (0))), (.c (.int (2))), (.c (.int (0))), (.tup [(.c (.int (0)))]), (.c (.int (1)))]), (.tup [(.c (.str "rack")), (.c (.int (2))), (.c (.int (1))), (.c (.int (2))), (.c (.int (0))), (.tup [(.c (.int (0))), (.c (.int (1)))]), (.c (.int (1)))])])),
    (.asg (.n 3) (.lst true [(.call "cut_off" [] [(.v 0), (.v 1), (.v 2), (.c (.int (0)))]), (.call "cut_off" ["part", "racks", "rows", "parts"] [(.c (.int (1))), (.v 2), (.v 1), (.v 0)])])),
    (.ret (some (.cmp .eq (.pr false .repr [(.v 3)]) (.pr false .repr [(.lst false [(.tup [(.tup [(.tup [(.c (.int (2))), (.c (.int (1)))])]), (.tup [(.c (.int (0)))]), (.tup [(.c (.int (1))), (.c (.int (2)))])]), (.tup [(.tup [(.tup [(.c (.int (0))), (.c (.int (12)))]), (.tup [(.c (.int (1))), (.c (.int (2)))])]), (.tup [(.c (.int (2)))]), (.tup [(.c (.int (0))), (.c (.int (2)))])])])]))))]⟩
def d__law_right : Df := ⟨["pot"], 12, [
    (.asg (.n 1) (.call "_law_parts" [] [(.v 0), (.call "_law_pick" [] [(.v 0), (.lst false [(.c (.int (1))), (.c (.int (2))), (.c (.int (3))), (.c (.int (4))), (.c (.int (6)))])])])),
    (.asg (.n 2) (.call "_law_rows" [] [(.v 0), (.v 1), (.bin false .add (.c (.int (1))) (.call "_law_draw" [] [(.v 0), (.c (.int (3)))]))])),
    (.asg (.n 3) (.call "_law_racks" [] [(.v 0), (.v 1), (.v 2), (.bin false .add (.c (.int (1))) (.call "_law_draw" [] [(.v 0), (.c (.int (5)))]))])),
    (.par [4, 5] [(.pr true .repr [(.lst false [(.v 1), (.v 2), (.v 3)])]), (.lst true [])]),
    (.for_ (.n 6) .rng1 [(.pr false .len [(.v 1)])] [(.asg (.n 7) (.call "cut_off" [] [(.v 1), (.v 2), (.v 3), (.v 6)])), (.iff (.or (.not (.isi (.v 7) .tuple)) (.not (.pr false .all [(.comp false [8] (.n 8) .seq [(.v 7)] [] (.isi (.v 8) .tuple))]))) [(.ret (some (.c (.bl false))))] []), (.iff (.cmp .ne (.pr false .repr [(.v 7)]) (.pr false .repr [(.call "_law_due" [] [(.v 2), (.v 3), (.v 6)])])) [(.ret (some (.c (.bl false))))] []), (.ex (.app (.v 5) (.v 7)))]),
    (.asg (.n 9) (.bin true .add (.lst false [(.tup []), (.pr false (.rg false) [(.pr false .len [(.v 1)])])]) (.comp false [10] (.n 10) .rng1 [(.c (.int (4)))] [] (.call "_law_out" [] [(.v 0), (.v 1)])))),
    (.iff (.not (.pr false .all [(.comp false [11] (.n 11) .seq [(.v 9)] [] (.call "_law_out_right" [] [(.v 1), (.v 2), (.v 3), (.v 5), (.v 11)]))])) [(.ret (some (.c (.bl false))))] []),
    (.ret (some (.and (.call "_law_known_right" [] []) (.cmp .eq (.pr false .repr [(.lst false [(.v 1), (.v 2), (.v 3)])]) (.v 4)))))]⟩
def d_law : Df := ⟨["script"], 1, [
    (.ret (some (.call "_law_right" [] [(.call "_law_pot" [] [(.v 0), (.c (.int (0)))])])))]⟩
def T : Tx := [(("is_integer" : Str), d_is_integer), (("is_count" : Str), d_is_count), (("is_within" : Str), d_is_within), (("is_position" : Str), d_is_position), (("is_tuple_of" : Str), d_is_tuple_of), (("is_rising" : Str), d_is_rising), (("is_part" : Str), d_is_part), (("hangs_on" : Str), d_hangs_on), (("is_row_of" : Str), d_is_row_of), (("is_rack_of" : Str), d_is_rack_of), (("are_some" : Str), d_are_some), (("are_parts" : Str), d_are_parts), (("are_rows_of" : Str), d_are_rows_of), (("are_racks_of" : Str), d_are_racks_of), (("want_parts" : Str), d_want_parts), (("want_rows" : Str), d_want_rows), (("want_racks" : Str), d_want_racks), (("want_row" : Str), d_want_row), (("want_out" : Str), d_want_out), (("power_of" : Str), d_power_of), (("cool_of" : Str), d_cool_of), (("dark_of" : Str), d_dark_of), (("row_power" : Str), d_row_power), (("row_cool" : Str), d_row_cool), (("is_dark" : Str), d_is_dark), (("cut_off" : Str), d_cut_off), (("_law_pot" : Str), d__law_pot), (("_law_draw" : Str), d__law_draw), (("_law_pick" : Str), d__law_pick), (("_law_parts" : Str), d__law_parts), (("_law_on" : Str), d__law_on), (("_law_rows" : Str), d__law_rows), (("_law_out" : Str), d__law_out), (("_law_racks" : Str), d__law_racks), (("_law_due" : Str), d__law_due), (("_law_out_right" : Str), d__law_out_right), (("_law_known_right" : Str), d__law_known_right), (("_law_right" : Str), d__law_right), (("law" : Str), d_law)]
theorem names_T : T.map (·.1) = defs := rfl
abbrev kd : Str → Kd := kdOf "_law_draw" "_law_pot" true
def freshL : List Str := ["want_parts", "want_rows", "want_racks", "want_row", "want_out", "power_of", "dark_of", "row_power", "cut_off", "_law_parts", "_law_rows", "_law_out", "_law_racks", "_law_due", "_law_known_right"]
theorem look_T : lookOk T kd freshL = true := by decide +kernel
theorem tr_is_integer : trDef (T.map (·.1)) consts pats ["value"] (topS 1) = some d_is_integer := by kernel_rfl
theorem sc_is_integer : L2.FnScope ["value"] d_is_integer.par (L2.defScope (topS 1)) := ⟨by kernel_rfl, by kernel_rfl, by kernel_rfl, by decide +kernel, by kernel_rfl, by decide +kernel, by decide +kernel⟩
theorem kd_is_integer : kd "is_integer" = .own := by decide +kernel
theorem lk_is_integer : T.lookup ("is_integer" : Str) = some d_is_integer := by kernel_rfl
theorem tr_is_count : trDef (T.map (·.1)) consts pats ["value"] (topS 2) = some d_is_count := by kernel_rfl
theorem sc_is_count : L2.FnScope ["value"] d_is_count.par (L2.defScope (topS 2)) := ⟨by kernel_rfl, by kernel_rfl, by kernel_rfl, by decide +kernel, by kernel_rfl, by decide +kernel, by decide +kernel⟩
theorem kd_is_count : kd "is_count" = .own := by decide +kernel
theorem lk_is_count : T.lookup ("is_count" : Str) = some d_is_count := by kernel_rfl
theorem tr_is_within : trDef (T.map (·.1)) consts pats ["value", "least", "most"] (topS 3) = some d_is_within := by kernel_rfl
theorem sc_is_within : L2.FnScope ["value", "least", "most"] d_is_within.par (L2.defScope (topS 3)) := ⟨by kernel_rfl, by kernel_rfl, by kernel_rfl, by decide +kernel, by kernel_rfl, by decide +kernel, by decide +kernel⟩
theorem kd_is_within : kd "is_within" = .own := by decide +kernel
theorem lk_is_within : T.lookup ("is_within" : Str) = some d_is_within := by kernel_rfl
theorem tr_is_position : trDef (T.map (·.1)) consts pats ["value", "things"] (topS 4) = some d_is_position := by kernel_rfl
theorem sc_is_position : L2.FnScope ["value", "things"] d_is_position.par (L2.defScope (topS 4)) := ⟨by kernel_rfl, by kernel_rfl, by kernel_rfl, by decide +kernel, by kernel_rfl, by decide +kernel, by decide +kernel⟩
theorem kd_is_position : kd "is_position" = .own := by decide +kernel
theorem lk_is_position : T.lookup ("is_position" : Str) = some d_is_position := by kernel_rfl
theorem tr_is_tuple_of : trDef (T.map (·.1)) consts pats ["value", "word", "size"] (topS 5) = some d_is_tuple_of := by kernel_rfl
theorem sc_is_tuple_of : L2.FnScope ["value", "word", "size"] d_is_tuple_of.par (L2.defScope (topS 5)) := ⟨by kernel_rfl, by kernel_rfl, by kernel_rfl, by decide +kernel, by kernel_rfl, by decide +kernel, by decide +kernel⟩
theorem kd_is_tuple_of : kd "is_tuple_of" = .own := by decide +kernel
theorem lk_is_tuple_of : T.lookup ("is_tuple_of" : Str) = some d_is_tuple_of := by kernel_rfl
theorem tr_is_rising : trDef (T.map (·.1)) consts pats ["value", "most", "one", "other"] (topS 6) = some d_is_rising := by kernel_rfl
theorem sc_is_rising : L2.FnScope ["value", "most", "one", "other"] d_is_rising.par (L2.defScope (topS 6)) := ⟨by kernel_rfl, by kernel_rfl, by kernel_rfl, by decide +kernel, by kernel_rfl, by decide +kernel, by decide +kernel⟩
theorem kd_is_rising : kd "is_rising" = .own := by decide +kernel
theorem lk_is_rising : T.lookup ("is_rising" : Str) = some d_is_rising := by kernel_rfl
theorem tr_is_part : trDef (T.map (·.1)) consts pats ["value", "word", "least", "most"] (topS 20) = some d_is_part := by kernel_rfl
theorem sc_is_part : L2.FnScope ["value", "word", "least", "most"] d_is_part.par (L2.defScope (topS 20)) := ⟨by kernel_rfl, by kernel_rfl, by kernel_rfl, by decide +kernel, by kernel_rfl, by decide +kernel, by decide +kernel⟩
theorem kd_is_part : kd "is_part" = .own := by decide +kernel
theorem lk_is_part : T.lookup ("is_part" : Str) = some d_is_part := by kernel_rfl
theorem tr_hangs_on : trDef (T.map (·.1)) consts pats ["parts", "value", "least"] (topS 21) = some d_hangs_on := by kernel_rfl
theorem sc_hangs_on : L2.FnScope ["parts", "value", "least"] d_hangs_on.par (L2.defScope (topS 21)) := ⟨by kernel_rfl, by kernel_rfl, by kernel_rfl, by decide +kernel, by kernel_rfl, by decide +kernel, by decide +kernel⟩
theorem kd_hangs_on : kd "hangs_on" = .own := by decide +kernel
theorem lk_hangs_on : T.lookup ("hangs_on" : Str) = some d_hangs_on := by kernel_rfl
theorem tr_is_row_of : trDef (T.map (·.1)) consts pats ["parts", "value", "word", "feeds", "cooler", "heat", "feed"] (topS 22) = some d_is_row_of := by kernel_rfl
theorem sc_is_row_of : L2.FnScope ["parts", "value", "word", "feeds", "cooler", "heat", "feed"] d_is_row_of.par (L2.defScope (topS 22)) := ⟨by kernel_rfl, by kernel_rfl, by kernel_rfl, by decide +kernel, by kernel_rfl, by decide +kernel, by decide +kernel⟩
theorem kd_is_row_of : kd "is_row_of" = .own := by decide +kernel
theorem lk_is_row_of : T.lookup ("is_row_of" : Str) = some d_is_row_of := by kernel_rfl
theorem tr_is_rack_of : trDef (T.map (·.1)) consts pats ["parts", "rows", "value", "word", "row", "kind", "many", "idle", "hangs", "repair"] (topS 23) = some d_is_rack_of := by kernel_rfl
theorem sc_is_rack_of : L2.FnScope ["parts", "rows", "value", "word", "row", "kind", "many", "idle", "hangs", "repair"] d_is_rack_of.par (L2.defScope (topS 23)) := ⟨by kernel_rfl, by kernel_rfl, by kernel_rfl, by decide +kernel, by kernel_rfl, by decide +kernel, by decide +kernel⟩
theorem kd_is_rack_of : kd "is_rack_of" = .own := by decide +kernel
theorem lk_is_rack_of : T.lookup ("is_rack_of" : Str) = some d_is_rack_of := by kernel_rfl
theorem tr_are_some : trDef (T.map (·.1)) consts pats ["value", "least", "most"] (topS 24) = some d_are_some := by kernel_rfl
theorem sc_are_some : L2.FnScope ["value", "least", "most"] d_are_some.par (L2.defScope (topS 24)) := ⟨by kernel_rfl, by kernel_rfl, by kernel_rfl, by decide +kernel, by kernel_rfl, by decide +kernel, by decide +kernel⟩
theorem kd_are_some : kd "are_some" = .own := by decide +kernel
theorem lk_are_some : T.lookup ("are_some" : Str) = some d_are_some := by kernel_rfl
theorem tr_are_parts : trDef (T.map (·.1)) consts pats ["value", "one"] (topS 25) = some d_are_parts := by kernel_rfl
theorem sc_are_parts : L2.FnScope ["value", "one"] d_are_parts.par (L2.defScope (topS 25)) := ⟨by kernel_rfl, by kernel_rfl, by kernel_rfl, by decide +kernel, by kernel_rfl, by decide +kernel, by decide +kernel⟩
theorem kd_are_parts : kd "are_parts" = .own := by decide +kernel
theorem lk_are_parts : T.lookup ("are_parts" : Str) = some d_are_parts := by kernel_rfl
theorem tr_are_rows_of : trDef (T.map (·.1)) consts pats ["parts", "value", "one"] (topS 26) = some d_are_rows_of := by kernel_rfl
theorem sc_are_rows_of : L2.FnScope ["parts", "value", "one"] d_are_rows_of.par (L2.defScope (topS 26)) := ⟨by kernel_rfl, by kernel_rfl, by kernel_rfl, by decide +kernel, by kernel_rfl, by decide +kernel, by decide +kernel⟩
theorem kd_are_rows_of : kd "are_rows_of" = .own := by decide +kernel
theorem lk_are_rows_of : T.lookup ("are_rows_of" : Str) = some d_are_rows_of := by kernel_rfl
theorem tr_are_racks_of : trDef (T.map (·.1)) consts pats ["parts", "rows", "value", "one", "rack"] (topS 27) = some d_are_racks_of := by kernel_rfl
theorem sc_are_racks_of : L2.FnScope ["parts", "rows", "value", "one", "rack"] d_are_racks_of.par (L2.defScope (topS 27)) := ⟨by kernel_rfl, by kernel_rfl, by kernel_rfl, by decide +kernel, by kernel_rfl, by decide +kernel, by decide +kernel⟩
theorem kd_are_racks_of : kd "are_racks_of" = .own := by decide +kernel
theorem lk_are_racks_of : T.lookup ("are_racks_of" : Str) = some d_are_racks_of := by kernel_rfl
theorem tr_want_parts : trDef (T.map (·.1)) consts pats ["parts"] (topS 28) = some d_want_parts := by kernel_rfl
theorem sc_want_parts : L2.FnScope ["parts"] d_want_parts.par (L2.defScope (topS 28)) := ⟨by kernel_rfl, by kernel_rfl, by kernel_rfl, by decide +kernel, by kernel_rfl, by decide +kernel, by decide +kernel⟩
theorem kd_want_parts : kd "want_parts" = .own := by decide +kernel
theorem lk_want_parts : T.lookup ("want_parts" : Str) = some d_want_parts := by kernel_rfl
theorem tr_want_rows : trDef (T.map (·.1)) consts pats ["parts", "rows"] (topS 29) = some d_want_rows := by kernel_rfl
theorem sc_want_rows : L2.FnScope ["parts", "rows"] d_want_rows.par (L2.defScope (topS 29)) := ⟨by kernel_rfl, by kernel_rfl, by kernel_rfl, by decide +kernel, by kernel_rfl, by decide +kernel, by decide +kernel⟩
theorem kd_want_rows : kd "want_rows" = .own := by decide +kernel
theorem lk_want_rows : T.lookup ("want_rows" : Str) = some d_want_rows := by kernel_rfl
theorem tr_want_racks : trDef (T.map (·.1)) consts pats ["parts", "rows", "racks"] (topS 30) = some d_want_racks := by kernel_rfl
theorem sc_want_racks : L2.FnScope ["parts", "rows", "racks"] d_want_racks.par (L2.defScope (topS 30)) := ⟨by kernel_rfl, by kernel_rfl, by kernel_rfl, by decide +kernel, by kernel_rfl, by decide +kernel, by decide +kernel⟩
theorem kd_want_racks : kd "want_racks" = .own := by decide +kernel
theorem lk_want_racks : T.lookup ("want_racks" : Str) = some d_want_racks := by kernel_rfl
theorem tr_want_row : trDef (T.map (·.1)) consts pats ["rows", "row"] (topS 31) = some d_want_row := by kernel_rfl
theorem sc_want_row : L2.FnScope ["rows", "row"] d_want_row.par (L2.defScope (topS 31)) := ⟨by kernel_rfl, by kernel_rfl, by kernel_rfl, by decide +kernel, by kernel_rfl, by decide +kernel, by decide +kernel⟩
theorem kd_want_row : kd "want_row" = .own := by decide +kernel
theorem lk_want_row : T.lookup ("want_row" : Str) = some d_want_row := by kernel_rfl
theorem tr_want_out : trDef (T.map (·.1)) consts pats ["parts", "out"] (topS 32) = some d_want_out := by kernel_rfl
theorem sc_want_out : L2.FnScope ["parts", "out"] d_want_out.par (L2.defScope (topS 32)) := ⟨by kernel_rfl, by kernel_rfl, by kernel_rfl, by decide +kernel, by kernel_rfl, by decide +kernel, by decide +kernel⟩
theorem kd_want_out : kd "want_out" = .own := by decide +kernel
theorem lk_want_out : T.lookup ("want_out" : Str) = some d_want_out := by kernel_rfl
theorem tr_power_of : trDef (T.map (·.1)) consts pats ["rows", "row", "out", "part", "power"] (topS 33) = some d_power_of := by kernel_rfl
theorem sc_power_of : L2.FnScope ["rows", "row", "out", "part", "power"] d_power_of.par (L2.defScope (topS 33)) := ⟨by kernel_rfl, by kernel_rfl, by kernel_rfl, by decide +kernel, by kernel_rfl, by decide +kernel, by decide +kernel⟩
theorem kd_power_of : kd "power_of" = .own := by decide +kernel
theorem lk_power_of : T.lookup ("power_of" : Str) = some d_power_of := by kernel_rfl
theorem tr_cool_of : trDef (T.map (·.1)) consts pats ["rows", "row", "out", "part", "cool"] (topS 34) = some d_cool_of := by kernel_rfl
theorem sc_cool_of : L2.FnScope ["rows", "row", "out", "part", "cool"] d_cool_of.par (L2.defScope (topS 34)) := ⟨by kernel_rfl, by kernel_rfl, by kernel_rfl, by decide +kernel, by kernel_rfl, by decide +kernel, by decide +kernel⟩
theorem kd_cool_of : kd "cool_of" = .own := by decide +kernel
theorem lk_cool_of : T.lookup ("cool_of" : Str) = some d_cool_of := by kernel_rfl
theorem tr_dark_of : trDef (T.map (·.1)) consts pats ["racks", "out", "part", "rack"] (topS 35) = some d_dark_of := by kernel_rfl
theorem sc_dark_of : L2.FnScope ["racks", "out", "part", "rack"] d_dark_of.par (L2.defScope (topS 35)) := ⟨by kernel_rfl, by kernel_rfl, by kernel_rfl, by decide +kernel, by kernel_rfl, by decide +kernel, by decide +kernel⟩
theorem kd_dark_of : kd "dark_of" = .own := by decide +kernel
theorem lk_dark_of : T.lookup ("dark_of" : Str) = some d_dark_of := by kernel_rfl
theorem tr_row_power : trDef (T.map (·.1)) consts pats ["parts", "rows", "row", "out"] (topS 36) = some d_row_power := by kernel_rfl
theorem sc_row_power : L2.FnScope ["parts", "rows", "row", "out"] d_row_power.par (L2.defScope (topS 36)) := ⟨by kernel_rfl, by kernel_rfl, by kernel_rfl, by decide +kernel, by kernel_rfl, by decide +kernel, by decide +kernel⟩
theorem kd_row_power : kd "row_power" = .own := by decide +kernel
theorem lk_row_power : T.lookup ("row_power" : Str) = some d_row_power := by kernel_rfl
theorem tr_row_cool : trDef (T.map (·.1)) consts pats ["parts", "rows", "row", "out"] (topS 37) = some d_row_cool := by kernel_rfl
theorem sc_row_cool : L2.FnScope ["parts", "rows", "row", "out"] d_row_cool.par (L2.defScope (topS 37)) := ⟨by kernel_rfl, by kernel_rfl, by kernel_rfl, by decide +kernel, by kernel_rfl, by decide +kernel, by decide +kernel⟩
theorem kd_row_cool : kd "row_cool" = .own := by decide +kernel
theorem lk_row_cool : T.lookup ("row_cool" : Str) = some d_row_cool := by kernel_rfl
theorem tr_is_dark : trDef (T.map (·.1)) consts pats ["parts", "rows", "racks", "rack", "out"] (topS 38) = some d_is_dark := by kernel_rfl
theorem sc_is_dark : L2.FnScope ["parts", "rows", "racks", "rack", "out"] d_is_dark.par (L2.defScope (topS 38)) := ⟨by kernel_rfl, by kernel_rfl, by kernel_rfl, by decide +kernel, by kernel_rfl, by decide +kernel, by decide +kernel⟩
theorem kd_is_dark : kd "is_dark" = .own := by decide +kernel
theorem lk_is_dark : T.lookup ("is_dark" : Str) = some d_is_dark := by kernel_rfl
theorem tr_cut_off : trDef (T.map (·.1)) consts pats ["parts", "rows", "racks", "part", "powers", "cools", "row", "lost", "at", "rack"] (topS 39) = some d_cut_off := by kernel_rfl
theorem sc_cut_off : L2.FnScope ["parts", "rows", "racks", "part", "powers", "cools", "row", "lost", "at", "rack"] d_cut_off.par (L2.defScope (topS 39)) := ⟨by kernel_rfl, by kernel_rfl, by kernel_rfl, by decide +kernel, by kernel_rfl, by decide +kernel, by decide +kernel⟩
theorem kd_cut_off : kd "cut_off" = .own := by decide +kernel
theorem lk_cut_off : T.lookup ("cut_off" : Str) = some d_cut_off := by kernel_rfl
theorem tr__law_pot : trDef (T.map (·.1)) consts pats ["script", "k", "cell"] (topS 41) = some d__law_pot := by kernel_rfl
theorem sc__law_pot : L2.FnScope ["script", "k", "cell"] d__law_pot.par (L2.defScope (topS 41)) := ⟨by kernel_rfl, by kernel_rfl, by kernel_rfl, by decide +kernel, by kernel_rfl, by decide +kernel, by decide +kernel⟩
theorem kd__law_pot : kd "_law_pot" = .mk true := by decide +kernel
theorem lk__law_pot : T.lookup ("_law_pot" : Str) = some d__law_pot := by kernel_rfl
theorem tr__law_draw : trDef (T.map (·.1)) consts pats ["pot", "many", "digit"] (topS 42) = some d__law_draw := by kernel_rfl
theorem sc__law_draw : L2.FnScope ["pot", "many", "digit"] d__law_draw.par (L2.defScope (topS 42)) := ⟨by kernel_rfl, by kernel_rfl, by kernel_rfl, by decide +kernel, by kernel_rfl, by decide +kernel, by decide +kernel⟩
theorem kd__law_draw : kd "_law_draw" = .draw := by decide +kernel
theorem lk__law_draw : T.lookup ("_law_draw" : Str) = some d__law_draw := by kernel_rfl
theorem tr__law_pick : trDef (T.map (·.1)) consts pats ["pot", "some"] (topS 43) = some d__law_pick := by kernel_rfl
theorem sc__law_pick : L2.FnScope ["pot", "some"] d__law_pick.par (L2.defScope (topS 43)) := ⟨by kernel_rfl, by kernel_rfl, by kernel_rfl, by decide +kernel, by kernel_rfl, by decide +kernel, by decide +kernel⟩
theorem kd__law_pick : kd "_law_pick" = .own := by decide +kernel
theorem lk__law_pick : T.lookup ("_law_pick" : Str) = some d__law_pick := by kernel_rfl
theorem tr__law_parts : trDef (T.map (·.1)) consts pats ["pot", "many", "found", "turn", "least"] (topS 44) = some d__law_parts := by kernel_rfl
theorem sc__law_parts : L2.FnScope ["pot", "many", "found", "turn", "least"] d__law_parts.par (L2.defScope (topS 44)) := ⟨by kernel_rfl, by kernel_rfl, by kernel_rfl, by decide +kernel, by kernel_rfl, by decide +kernel, by decide +kernel⟩
theorem kd__law_parts : kd "_law_parts" = .own := by decide +kernel
theorem lk__law_parts : T.lookup ("_law_parts" : Str) = some d__law_parts := by kernel_rfl
theorem tr__law_on : trDef (T.map (·.1)) consts pats ["pot", "parts"] (topS 45) = some d__law_on := by kernel_rfl
theorem sc__law_on : L2.FnScope ["pot", "parts"] d__law_on.par (L2.defScope (topS 45)) := ⟨by kernel_rfl, by kernel_rfl, by kernel_rfl, by decide +kernel, by kernel_rfl, by decide +kernel, by decide +kernel⟩
theorem kd__law_on : kd "_law_on" = .own := by decide +kernel
theorem lk__law_on : T.lookup ("_law_on" : Str) = some d__law_on := by kernel_rfl
theorem tr__law_rows : trDef (T.map (·.1)) consts pats ["pot", "parts", "many", "found", "turn", "feeds", "feed", "heat"] (topS 46) = some d__law_rows := by kernel_rfl
theorem sc__law_rows : L2.FnScope ["pot", "parts", "many", "found", "turn", "feeds", "feed", "heat"] d__law_rows.par (L2.defScope (topS 46)) := ⟨by kernel_rfl, by kernel_rfl, by kernel_rfl, by decide +kernel, by kernel_rfl, by decide +kernel, by decide +kernel⟩
theorem kd__law_rows : kd "_law_rows" = .own := by decide +kernel
theorem lk__law_rows : T.lookup ("_law_rows" : Str) = some d__law_rows := by kernel_rfl
theorem tr__law_out : trDef (T.map (·.1)) consts pats ["pot", "parts", "part"] (topS 47) = some d__law_out := by kernel_rfl
theorem sc__law_out : L2.FnScope ["pot", "parts", "part"] d__law_out.par (L2.defScope (topS 47)) := ⟨by kernel_rfl, by kernel_rfl, by kernel_rfl, by decide +kernel, by kernel_rfl, by decide +kernel, by decide +kernel⟩
theorem kd__law_out : kd "_law_out" = .own := by decide +kernel
theorem lk__law_out : T.lookup ("_law_out" : Str) = some d__law_out := by kernel_rfl
theorem tr__law_racks : trDef (T.map (·.1)) consts pats ["pot", "parts", "rows", "many", "found", "left", "turn", "machines", "hangs"] (topS 48) = some d__law_racks := by kernel_rfl
theorem sc__law_racks : L2.FnScope ["pot", "parts", "rows", "many", "found", "left", "turn", "machines", "hangs"] d__law_racks.par (L2.defScope (topS 48)) := ⟨by kernel_rfl, by kernel_rfl, by kernel_rfl, by decide +kernel, by kernel_rfl, by decide +kernel, by decide +kernel⟩
theorem kd__law_racks : kd "_law_racks" = .own := by decide +kernel
theorem lk__law_racks : T.lookup ("_law_racks" : Str) = some d__law_racks := by kernel_rfl
theorem tr__law_due : trDef (T.map (·.1)) consts pats ["rows", "racks", "part", "powers", "at", "row", "some", "one", "power", "cools", "rack"] (topS 49) = some d__law_due := by kernel_rfl
theorem sc__law_due : L2.FnScope ["rows", "racks", "part", "powers", "at", "row", "some", "one", "power", "cools", "rack"] d__law_due.par (L2.defScope (topS 49)) := ⟨by kernel_rfl, by kernel_rfl, by kernel_rfl, by decide +kernel, by kernel_rfl, by decide +kernel, by decide +kernel⟩
theorem kd__law_due : kd "_law_due" = .own := by decide +kernel
theorem lk__law_due : T.lookup ("_law_due" : Str) = some d__law_due := by kernel_rfl
theorem tr__law_out_right : trDef (T.map (·.1)) consts pats ["parts", "rows", "racks", "cuts", "out", "row", "lost", "at", "power", "part", "is_off", "rack"] (topS 50) = some d__law_out_right := by kernel_rfl
theorem sc__law_out_right : L2.FnScope ["parts", "rows", "racks", "cuts", "out", "row", "lost", "at", "power", "part", "is_off", "rack"] d__law_out_right.par (L2.defScope (topS 50)) := ⟨by kernel_rfl, by kernel_rfl, by kernel_rfl, by decide +kernel, by kernel_rfl, by decide +kernel, by decide +kernel⟩
theorem kd__law_out_right : kd "_law_out_right" = .own := by decide +kernel
theorem lk__law_out_right : T.lookup ("_law_out_right" : Str) = some d__law_out_right := by kernel_rfl
theorem tr__law_known_right : trDef (T.map (·.1)) consts pats ["parts", "rows", "racks", "told"] (topS 51) = some d__law_known_right := by kernel_rfl
theorem sc__law_known_right : L2.FnScope ["parts", "rows", "racks", "told"] d__law_known_right.par (L2.defScope (topS 51)) := ⟨by kernel_rfl, by kernel_rfl, by kernel_rfl, by decide +kernel, by kernel_rfl, by decide +kernel, by decide +kernel⟩
theorem kd__law_known_right : kd "_law_known_right" = .own := by decide +kernel
theorem lk__law_known_right : T.lookup ("_law_known_right" : Str) = some d__law_known_right := by kernel_rfl
theorem tr__law_right : trDef (T.map (·.1)) consts pats ["pot", "parts", "rows", "racks", "shown", "cuts", "part", "told", "one", "outs", "turn", "out"] (topS 52) = some d__law_right := by kernel_rfl
theorem sc__law_right : L2.FnScope ["pot", "parts", "rows", "racks", "shown", "cuts", "part", "told", "one", "outs", "turn", "out"] d__law_right.par (L2.defScope (topS 52)) := ⟨by kernel_rfl, by kernel_rfl, by kernel_rfl, by decide +kernel, by kernel_rfl, by decide +kernel, by decide +kernel⟩
theorem kd__law_right : kd "_law_right" = .own := by decide +kernel
theorem lk__law_right : T.lookup ("_law_right" : Str) = some d__law_right := by kernel_rfl
theorem tr_law : trDef (T.map (·.1)) consts pats ["script"] (topS 53) = some d_law := by kernel_rfl
theorem sc_law : L2.FnScope ["script"] d_law.par (L2.defScope (topS 53)) := ⟨by kernel_rfl, by kernel_rfl, by kernel_rfl, by decide +kernel, by kernel_rfl, by decide +kernel, by decide +kernel⟩
theorem kd_law : kd "law" = .own := by decide +kernel
theorem lk_law : T.lookup ("law" : Str) = some d_law := by kernel_rfl
theorem bd_is_integer (kV doc pm : Value) (an : Option Addr) (cdv ct : Value) (us : List Value) (hl : us.length = d_is_integer.par.length) : bindArgs (PySem.W.fnOf "is_integer" "is_integer" (L2.defArgs (topS 1)) (L2.defBody (topS 1)) (L2.defScope (topS 1)) .none kV doc pm an cdv ct) ⟨us, []⟩ = pure (d_is_integer.par.zip us) := match us, hl with | [_], _ => rfl
theorem bd_is_count (kV doc pm : Value) (an : Option Addr) (cdv ct : Value) (us : List Value) (hl : us.length = d_is_count.par.length) : bindArgs (PySem.W.fnOf "is_count" "is_count" (L2.defArgs (topS 2)) (L2.defBody (topS 2)) (L2.defScope (topS 2)) .none kV doc pm an cdv ct) ⟨us, []⟩ = pure (d_is_count.par.zip us) := match us, hl with | [_], _ => rfl
theorem bd_is_within (kV doc pm : Value) (an : Option Addr) (cdv ct : Value) (us : List Value) (hl : us.length = d_is_within.par.length) : bindArgs (PySem.W.fnOf "is_within" "is_within" (L2.defArgs (topS 3)) (L2.defBody (topS 3)) (L2.defScope (topS 3)) .none kV doc pm an cdv ct) ⟨us, []⟩ = pure (d_is_within.par.zip us) := match us, hl with | [_, _, _], _ => rfl
theorem bd_is_position (kV doc pm : Value) (an : Option Addr) (cdv ct : Value) (us : List Value) (hl : us.length = d_is_position.par.length) : bindArgs (PySem.W.fnOf "is_position" "is_position" (L2.defArgs (topS 4)) (L2.defBody (topS 4)) (L2.defScope (topS 4)) .none kV doc pm an cdv ct) ⟨us, []⟩ = pure (d_is_position.par.zip us) := match us, hl with | [_, _], _ => rfl
theorem bd_is_tuple_of (kV doc pm : Value) (an : Option Addr) (cdv ct : Value) (us : List Value) (hl : us.length = d_is_tuple_of.par.length) : bindArgs (PySem.W.fnOf "is_tuple_of" "is_tuple_of" (L2.defArgs (topS 5)) (L2.defBody (topS 5)) (L2.defScope (topS 5)) .none kV doc pm an cdv ct) ⟨us, []⟩ = pure (d_is_tuple_of.par.zip us) := match us, hl with | [_, _, _], _ => rfl
theorem bd_is_rising (kV doc pm : Value) (an : Option Addr) (cdv ct : Value) (us : List Value) (hl : us.length = d_is_rising.par.length) : bindArgs (PySem.W.fnOf "is_rising" "is_rising" (L2.defArgs (topS 6)) (L2.defBody (topS 6)) (L2.defScope (topS 6)) .none kV doc pm an cdv ct) ⟨us, []⟩ = pure (d_is_rising.par.zip us) := match us, hl with | [_, _], _ => rfl
theorem bd_is_part (kV doc pm : Value) (an : Option Addr) (cdv ct : Value) (us : List Value) (hl : us.length = d_is_part.par.length) : bindArgs (PySem.W.fnOf "is_part" "is_part" (L2.defArgs (topS 20)) (L2.defBody (topS 20)) (L2.defScope (topS 20)) .none kV doc pm an cdv ct) ⟨us, []⟩ = pure (d_is_part.par.zip us) := match us, hl with | [_], _ => rfl
theorem bd_hangs_on (kV doc pm : Value) (an : Option Addr) (cdv ct : Value) (us : List Value) (hl : us.length = d_hangs_on.par.length) : bindArgs (PySem.W.fnOf "hangs_on" "hangs_on" (L2.defArgs (topS 21)) (L2.defBody (topS 21)) (L2.defScope (topS 21)) .none kV doc pm an cdv ct) ⟨us, []⟩ = pure (d_hangs_on.par.zip us) := match us, hl with | [_, _, _], _ => rfl
theorem bd_is_row_of (kV doc pm : Value) (an : Option Addr) (cdv ct : Value) (us : List Value) (hl : us.length = d_is_row_of.par.length) : bindArgs (PySem.W.fnOf "is_row_of" "is_row_of" (L2.defArgs (topS 22)) (L2.defBody (topS 22)) (L2.defScope (topS 22)) .none kV doc pm an cdv ct) ⟨us, []⟩ = pure (d_is_row_of.par.zip us) := match us, hl with | [_, _], _ => rfl
theorem bd_is_rack_of (kV doc pm : Value) (an : Option Addr) (cdv ct : Value) (us : List Value) (hl : us.length = d_is_rack_of.par.length) : bindArgs (PySem.W.fnOf "is_rack_of" "is_rack_of" (L2.defArgs (topS 23)) (L2.defBody (topS 23)) (L2.defScope (topS 23)) .none kV doc pm an cdv ct) ⟨us, []⟩ = pure (d_is_rack_of.par.zip us) := match us, hl with | [_, _, _], _ => rfl
theorem bd_are_some (kV doc pm : Value) (an : Option Addr) (cdv ct : Value) (us : List Value) (hl : us.length = d_are_some.par.length) : bindArgs (PySem.W.fnOf "are_some" "are_some" (L2.defArgs (topS 24)) (L2.defBody (topS 24)) (L2.defScope (topS 24)) .none kV doc pm an cdv ct) ⟨us, []⟩ = pure (d_are_some.par.zip us) := match us, hl with | [_, _, _], _ => rfl
theorem bd_are_parts (kV doc pm : Value) (an : Option Addr) (cdv ct : Value) (us : List Value) (hl : us.length = d_are_parts.par.length) : bindArgs (PySem.W.fnOf "are_parts" "are_parts" (L2.defArgs (topS 25)) (L2.defBody (topS 25)) (L2.defScope (topS 25)) .none kV doc pm an cdv ct) ⟨us, []⟩ = pure (d_are_parts.par.zip us) := match us, hl with | [_], _ => rfl
theorem bd_are_rows_of (kV doc pm : Value) (an : Option Addr) (cdv ct : Value) (us : List Value) (hl : us.length = d_are_rows_of.par.length) : bindArgs (PySem.W.fnOf "are_rows_of" "are_rows_of" (L2.defArgs (topS 26)) (L2.defBody (topS 26)) (L2.defScope (topS 26)) .none kV doc pm an cdv ct) ⟨us, []⟩ = pure (d_are_rows_of.par.zip us) := match us, hl with | [_, _], _ => rfl
theorem bd_are_racks_of (kV doc pm : Value) (an : Option Addr) (cdv ct : Value) (us : List Value) (hl : us.length = d_are_racks_of.par.length) : bindArgs (PySem.W.fnOf "are_racks_of" "are_racks_of" (L2.defArgs (topS 27)) (L2.defBody (topS 27)) (L2.defScope (topS 27)) .none kV doc pm an cdv ct) ⟨us, []⟩ = pure (d_are_racks_of.par.zip us) := match us, hl with | [_, _, _], _ => rfl
theorem bd_want_parts (kV doc pm : Value) (an : Option Addr) (cdv ct : Value) (us : List Value) (hl : us.length = d_want_parts.par.length) : bindArgs (PySem.W.fnOf "want_parts" "want_parts" (L2.defArgs (topS 28)) (L2.defBody (topS 28)) (L2.defScope (topS 28)) .none kV doc pm an cdv ct) ⟨us, []⟩ = pure (d_want_parts.par.zip us) := match us, hl with | [_], _ => rfl
theorem bd_want_rows (kV doc pm : Value) (an : Option Addr) (cdv ct : Value) (us : List Value) (hl : us.length = d_want_rows.par.length) : bindArgs (PySem.W.fnOf "want_rows" "want_rows" (L2.defArgs (topS 29)) (L2.defBody (topS 29)) (L2.defScope (topS 29)) .none kV doc pm an cdv ct) ⟨us, []⟩ = pure (d_want_rows.par.zip us) := match us, hl with | [_, _], _ => rfl
theorem bd_want_racks (kV doc pm : Value) (an : Option Addr) (cdv ct : Value) (us : List Value) (hl : us.length = d_want_racks.par.length) : bindArgs (PySem.W.fnOf "want_racks" "want_racks" (L2.defArgs (topS 30)) (L2.defBody (topS 30)) (L2.defScope (topS 30)) .none kV doc pm an cdv ct) ⟨us, []⟩ = pure (d_want_racks.par.zip us) := match us, hl with | [_, _, _], _ => rfl
theorem bd_want_row (kV doc pm : Value) (an : Option Addr) (cdv ct : Value) (us : List Value) (hl : us.length = d_want_row.par.length) : bindArgs (PySem.W.fnOf "want_row" "want_row" (L2.defArgs (topS 31)) (L2.defBody (topS 31)) (L2.defScope (topS 31)) .none kV doc pm an cdv ct) ⟨us, []⟩ = pure (d_want_row.par.zip us) := match us, hl with | [_, _], _ => rfl
theorem bd_want_out (kV doc pm : Value) (an : Option Addr) (cdv ct : Value) (us : List Value) (hl : us.length = d_want_out.par.length) : bindArgs (PySem.W.fnOf "want_out" "want_out" (L2.defArgs (topS 32)) (L2.defBody (topS 32)) (L2.defScope (topS 32)) .none kV doc pm an cdv ct) ⟨us, []⟩ = pure (d_want_out.par.zip us) := match us, hl with | [_, _], _ => rfl
theorem bd_power_of (kV doc pm : Value) (an : Option Addr) (cdv ct : Value) (us : List Value) (hl : us.length = d_power_of.par.length) : bindArgs (PySem.W.fnOf "power_of" "power_of" (L2.defArgs (topS 33)) (L2.defBody (topS 33)) (L2.defScope (topS 33)) .none kV doc pm an cdv ct) ⟨us, []⟩ = pure (d_power_of.par.zip us) := match us, hl with | [_, _, _], _ => rfl
theorem bd_cool_of (kV doc pm : Value) (an : Option Addr) (cdv ct : Value) (us : List Value) (hl : us.length = d_cool_of.par.length) : bindArgs (PySem.W.fnOf "cool_of" "cool_of" (L2.defArgs (topS 34)) (L2.defBody (topS 34)) (L2.defScope (topS 34)) .none kV doc pm an cdv ct) ⟨us, []⟩ = pure (d_cool_of.par.zip us) := match us, hl with | [_, _, _], _ => rfl
theorem bd_dark_of (kV doc pm : Value) (an : Option Addr) (cdv ct : Value) (us : List Value) (hl : us.length = d_dark_of.par.length) : bindArgs (PySem.W.fnOf "dark_of" "dark_of" (L2.defArgs (topS 35)) (L2.defBody (topS 35)) (L2.defScope (topS 35)) .none kV doc pm an cdv ct) ⟨us, []⟩ = pure (d_dark_of.par.zip us) := match us, hl with | [_, _], _ => rfl
theorem bd_row_power (kV doc pm : Value) (an : Option Addr) (cdv ct : Value) (us : List Value) (hl : us.length = d_row_power.par.length) : bindArgs (PySem.W.fnOf "row_power" "row_power" (L2.defArgs (topS 36)) (L2.defBody (topS 36)) (L2.defScope (topS 36)) .none kV doc pm an cdv ct) ⟨us, []⟩ = pure (d_row_power.par.zip us) := match us, hl with | [_, _, _, _], _ => rfl
theorem bd_row_cool (kV doc pm : Value) (an : Option Addr) (cdv ct : Value) (us : List Value) (hl : us.length = d_row_cool.par.length) : bindArgs (PySem.W.fnOf "row_cool" "row_cool" (L2.defArgs (topS 37)) (L2.defBody (topS 37)) (L2.defScope (topS 37)) .none kV doc pm an cdv ct) ⟨us, []⟩ = pure (d_row_cool.par.zip us) := match us, hl with | [_, _, _, _], _ => rfl
theorem bd_is_dark (kV doc pm : Value) (an : Option Addr) (cdv ct : Value) (us : List Value) (hl : us.length = d_is_dark.par.length) : bindArgs (PySem.W.fnOf "is_dark" "is_dark" (L2.defArgs (topS 38)) (L2.defBody (topS 38)) (L2.defScope (topS 38)) .none kV doc pm an cdv ct) ⟨us, []⟩ = pure (d_is_dark.par.zip us) := match us, hl with | [_, _, _, _, _], _ => rfl
theorem bd_cut_off (kV doc pm : Value) (an : Option Addr) (cdv ct : Value) (us : List Value) (hl : us.length = d_cut_off.par.length) : bindArgs (PySem.W.fnOf "cut_off" "cut_off" (L2.defArgs (topS 39)) (L2.defBody (topS 39)) (L2.defScope (topS 39)) .none kV doc pm an cdv ct) ⟨us, []⟩ = pure (d_cut_off.par.zip us) := match us, hl with | [_, _, _, _], _ => rfl
theorem bd__law_pot (kV doc pm : Value) (an : Option Addr) (cdv ct : Value) (us : List Value) (hl : us.length = d__law_pot.par.length) : bindArgs (PySem.W.fnOf "_law_pot" "_law_pot" (L2.defArgs (topS 41)) (L2.defBody (topS 41)) (L2.defScope (topS 41)) .none kV doc pm an cdv ct) ⟨us, []⟩ = pure (d__law_pot.par.zip us) := match us, hl with | [_, _], _ => rfl
theorem bd__law_draw (kV doc pm : Value) (an : Option Addr) (cdv ct : Value) (us : List Value) (hl : us.length = d__law_draw.par.length) : bindArgs (PySem.W.fnOf "_law_draw" "_law_draw" (L2.defArgs (topS 42)) (L2.defBody (topS 42)) (L2.defScope (topS 42)) .none kV doc pm an cdv ct) ⟨us, []⟩ = pure (d__law_draw.par.zip us) := match us, hl with | [_, _], _ => rfl
theorem bd__law_pick (kV doc pm : Value) (an : Option Addr) (cdv ct : Value) (us : List Value) (hl : us.length = d__law_pick.par.length) : bindArgs (PySem.W.fnOf "_law_pick" "_law_pick" (L2.defArgs (topS 43)) (L2.defBody (topS 43)) (L2.defScope (topS 43)) .none kV doc pm an cdv ct) ⟨us, []⟩ = pure (d__law_pick.par.zip us) := match us, hl with | [_, _], _ => rfl
theorem bd__law_parts (kV doc pm : Value) (an : Option Addr) (cdv ct : Value) (us : List Value) (hl : us.length = d__law_parts.par.length) : bindArgs (PySem.W.fnOf "_law_parts" "_law_parts" (L2.defArgs (topS 44)) (L2.defBody (topS 44)) (L2.defScope (topS 44)) .none kV doc pm an cdv ct) ⟨us, []⟩ = pure (d__law_parts.par.zip us) := match us, hl with | [_, _], _ => rfl
theorem bd__law_on (kV doc pm : Value) (an : Option Addr) (cdv ct : Value) (us : List Value) (hl : us.length = d__law_on.par.length) : bindArgs (PySem.W.fnOf "_law_on" "_law_on" (L2.defArgs (topS 45)) (L2.defBody (topS 45)) (L2.defScope (topS 45)) .none kV doc pm an cdv ct) ⟨us, []⟩ = pure (d__law_on.par.zip us) := match us, hl with | [_, _], _ => rfl
theorem bd__law_rows (kV doc pm : Value) (an : Option Addr) (cdv ct : Value) (us : List Value) (hl : us.length = d__law_rows.par.length) : bindArgs (PySem.W.fnOf "_law_rows" "_law_rows" (L2.defArgs (topS 46)) (L2.defBody (topS 46)) (L2.defScope (topS 46)) .none kV doc pm an cdv ct) ⟨us, []⟩ = pure (d__law_rows.par.zip us) := match us, hl with | [_, _, _], _ => rfl
theorem bd__law_out (kV doc pm : Value) (an : Option Addr) (cdv ct : Value) (us : List Value) (hl : us.length = d__law_out.par.length) : bindArgs (PySem.W.fnOf "_law_out" "_law_out" (L2.defArgs (topS 47)) (L2.defBody (topS 47)) (L2.defScope (topS 47)) .none kV doc pm an cdv ct) ⟨us, []⟩ = pure (d__law_out.par.zip us) := match us, hl with | [_, _], _ => rfl
theorem bd__law_racks (kV doc pm : Value) (an : Option Addr) (cdv ct : Value) (us : List Value) (hl : us.length = d__law_racks.par.length) : bindArgs (PySem.W.fnOf "_law_racks" "_law_racks" (L2.defArgs (topS 48)) (L2.defBody (topS 48)) (L2.defScope (topS 48)) .none kV doc pm an cdv ct) ⟨us, []⟩ = pure (d__law_racks.par.zip us) := match us, hl with | [_, _, _, _], _ => rfl
theorem bd__law_due (kV doc pm : Value) (an : Option Addr) (cdv ct : Value) (us : List Value) (hl : us.length = d__law_due.par.length) : bindArgs (PySem.W.fnOf "_law_due" "_law_due" (L2.defArgs (topS 49)) (L2.defBody (topS 49)) (L2.defScope (topS 49)) .none kV doc pm an cdv ct) ⟨us, []⟩ = pure (d__law_due.par.zip us) := match us, hl with | [_, _, _], _ => rfl
theorem bd__law_out_right (kV doc pm : Value) (an : Option Addr) (cdv ct : Value) (us : List Value) (hl : us.length = d__law_out_right.par.length) : bindArgs (PySem.W.fnOf "_law_out_right" "_law_out_right" (L2.defArgs (topS 50)) (L2.defBody (topS 50)) (L2.defScope (topS 50)) .none kV doc pm an cdv ct) ⟨us, []⟩ = pure (d__law_out_right.par.zip us) := match us, hl with | [_, _, _, _, _], _ => rfl
theorem bd__law_known_right (kV doc pm : Value) (an : Option Addr) (cdv ct : Value) (us : List Value) (hl : us.length = d__law_known_right.par.length) : bindArgs (PySem.W.fnOf "_law_known_right" "_law_known_right" (L2.defArgs (topS 51)) (L2.defBody (topS 51)) (L2.defScope (topS 51)) .none kV doc pm an cdv ct) ⟨us, []⟩ = pure (d__law_known_right.par.zip us) := match us, hl with | [], _ => rfl
theorem bd__law_right (kV doc pm : Value) (an : Option Addr) (cdv ct : Value) (us : List Value) (hl : us.length = d__law_right.par.length) : bindArgs (PySem.W.fnOf "_law_right" "_law_right" (L2.defArgs (topS 52)) (L2.defBody (topS 52)) (L2.defScope (topS 52)) .none kV doc pm an cdv ct) ⟨us, []⟩ = pure (d__law_right.par.zip us) := match us, hl with | [_], _ => rfl
theorem bd_law (kV doc pm : Value) (an : Option Addr) (cdv ct : Value) (us : List Value) (hl : us.length = d_law.par.length) : bindArgs (PySem.W.fnOf "law" "law" (L2.defArgs (topS 53)) (L2.defBody (topS 53)) (L2.defScope (topS 53)) .none kV doc pm an cdv ct) ⟨us, []⟩ = pure (d_law.par.zip us) := match us, hl with | [_], _ => rfl
theorem kb_is_integer (kV doc pm : Value) (an : Option Addr) (cdv ct : Value) : ∀ p ∈ pats, ∀ (us ws r : List Value), us.length = p.1 → ws.length = p.2.length → p.2 ≠ [] → permArgs d_is_integer.par p.2 (us ++ ws) = some r → bindArgs (PySem.W.fnOf "is_integer" "is_integer" (L2.defArgs (topS 1)) (L2.defBody (topS 1)) (L2.defScope (topS 1)) .none kV doc pm an cdv ct) ⟨us, p.2.zip ws⟩ = pure (d_is_integer.par.zip r) := by
  intro p hp us ws r h1 h2 _ h
  simp only [pats, List.mem_cons, List.not_mem_nil, or_false] at hp
  subst hp
  · match us, ws, h1, h2 with
    | [], [w0, w1, w2, w3], _, _ =>
      have e : permArgs d_is_integer.par [("part" : Str), ("racks" : Str), ("rows" : Str), ("parts" : Str)] ([] ++ [w0, w1, w2, w3]) = none := by kernel_rfl
      have h' := e.symm.trans h
      cases h'
theorem kb_is_count (kV doc pm : Value) (an : Option Addr) (cdv ct : Value) : ∀ p ∈ pats, ∀ (us ws r : List Value), us.length = p.1 → ws.length = p.2.length → p.2 ≠ [] → permArgs d_is_count.par p.2 (us ++ ws) = some r → bindArgs (PySem.W.fnOf "is_count" "is_count" (L2.defArgs (topS 2)) (L2.defBody (topS 2)) (L2.defScope (topS 2)) .none kV doc pm an cdv ct) ⟨us, p.2.zip ws⟩ = pure (d_is_count.par.zip r) := by
  intro p hp us ws r h1 h2 _ h
  simp only [pats, List.mem_cons, List.not_mem_nil, or_false] at hp
  subst hp
  · match us, ws, h1, h2 with
    | [], [w0, w1, w2, w3], _, _ =>
      have e : permArgs d_is_count.par [("part" : Str), ("racks" : Str), ("rows" : Str), ("parts" : Str)] ([] ++ [w0, w1, w2, w3]) = none := by kernel_rfl
      have h' := e.symm.trans h
      cases h'
theorem kb_is_within (kV doc pm : Value) (an : Option Addr) (cdv ct : Value) : ∀ p ∈ pats, ∀ (us ws r : List Value), us.length = p.1 → ws.length = p.2.length → p.2 ≠ [] → permArgs d_is_within.par p.2 (us ++ ws) = some r → bindArgs (PySem.W.fnOf "is_within" "is_within" (L2.defArgs (topS 3)) (L2.defBody (topS 3)) (L2.defScope (topS 3)) .none kV doc pm an cdv ct) ⟨us, p.2.zip ws⟩ = pure (d_is_within.par.zip r) := by
  intro p hp us ws r h1 h2 _ h
  simp only [pats, List.mem_cons, List.not_mem_nil, or_false] at hp
  subst hp
  · match us, ws, h1, h2 with
    | [], [w0, w1, w2, w3], _, _ =>
      have e : permArgs d_is_within.par [("part" : Str), ("racks" : Str), ("rows" : Str), ("parts" : Str)] ([] ++ [w0, w1, w2, w3]) = none := by kernel_rfl
      have h' := e.symm.trans h
      cases h'
theorem kb_is_position (kV doc pm : Value) (an : Option Addr) (cdv ct : Value) : ∀ p ∈ pats, ∀ (us ws r : List Value), us.length = p.1 → ws.length = p.2.length → p.2 ≠ [] → permArgs d_is_position.par p.2 (us ++ ws) = some r → bindArgs (PySem.W.fnOf "is_position" "is_position" (L2.defArgs (topS 4)) (L2.defBody (topS 4)) (L2.defScope (topS 4)) .none kV doc pm an cdv ct) ⟨us, p.2.zip ws⟩ = pure (d_is_position.par.zip r) := by
  intro p hp us ws r h1 h2 _ h
  simp only [pats, List.mem_cons, List.not_mem_nil, or_false] at hp
  subst hp
  · match us, ws, h1, h2 with
    | [], [w0, w1, w2, w3], _, _ =>
      have e : permArgs d_is_position.par [("part" : Str), ("racks" : Str), ("rows" : Str), ("parts" : Str)] ([] ++ [w0, w1, w2, w3]) = none := by kernel_rfl
      have h' := e.symm.trans h
      cases h'
theorem kb_is_tuple_of (kV doc pm : Value) (an : Option Addr) (cdv ct : Value) : ∀ p ∈ pats, ∀ (us ws r : List Value), us.length = p.1 → ws.length = p.2.length → p.2 ≠ [] → permArgs d_is_tuple_of.par p.2 (us ++ ws) = some r → bindArgs (PySem.W.fnOf "is_tuple_of" "is_tuple_of" (L2.defArgs (topS 5)) (L2.defBody (topS 5)) (L2.defScope (topS 5)) .none kV doc pm an cdv ct) ⟨us, p.2.zip ws⟩ = pure (d_is_tuple_of.par.zip r) := by
  intro p hp us ws r h1 h2 _ h
  simp only [pats, List.mem_cons, List.not_mem_nil, or_false] at hp
  subst hp
  · match us, ws, h1, h2 with
    | [], [w0, w1, w2, w3], _, _ =>
      have e : permArgs d_is_tuple_of.par [("part" : Str), ("racks" : Str), ("rows" : Str), ("parts" : Str)] ([] ++ [w0, w1, w2, w3]) = none := by kernel_rfl
      have h' := e.symm.trans h
      cases h'
theorem kb_is_rising (kV doc pm : Value) (an : Option Addr) (cdv ct : Value) : ∀ p ∈ pats, ∀ (us ws r : List Value), us.length = p.1 → ws.length = p.2.length → p.2 ≠ [] → permArgs d_is_rising.par p.2 (us ++ ws) = some r → bindArgs (PySem.W.fnOf "is_rising" "is_rising" (L2.defArgs (topS 6)) (L2.defBody (topS 6)) (L2.defScope (topS 6)) .none kV doc pm an cdv ct) ⟨us, p.2.zip ws⟩ = pure (d_is_rising.par.zip r) := by
  intro p hp us ws r h1 h2 _ h
  simp only [pats, List.mem_cons, List.not_mem_nil, or_false] at hp
  subst hp
  · match us, ws, h1, h2 with
    | [], [w0, w1, w2, w3], _, _ =>
      have e : permArgs d_is_rising.par [("part" : Str), ("racks" : Str), ("rows" : Str), ("parts" : Str)] ([] ++ [w0, w1, w2, w3]) = none := by kernel_rfl
      have h' := e.symm.trans h
      cases h'
theorem kb_is_part (kV doc pm : Value) (an : Option Addr) (cdv ct : Value) : ∀ p ∈ pats, ∀ (us ws r : List Value), us.length = p.1 → ws.length = p.2.length → p.2 ≠ [] → permArgs d_is_part.par p.2 (us ++ ws) = some r → bindArgs (PySem.W.fnOf "is_part" "is_part" (L2.defArgs (topS 20)) (L2.defBody (topS 20)) (L2.defScope (topS 20)) .none kV doc pm an cdv ct) ⟨us, p.2.zip ws⟩ = pure (d_is_part.par.zip r) := by
  intro p hp us ws r h1 h2 _ h
  simp only [pats, List.mem_cons, List.not_mem_nil, or_false] at hp
  subst hp
  · match us, ws, h1, h2 with
    | [], [w0, w1, w2, w3], _, _ =>
      have e : permArgs d_is_part.par [("part" : Str), ("racks" : Str), ("rows" : Str), ("parts" : Str)] ([] ++ [w0, w1, w2, w3]) = none := by kernel_rfl
      have h' := e.symm.trans h
      cases h'
theorem kb_hangs_on (kV doc pm : Value) (an : Option Addr) (cdv ct : Value) : ∀ p ∈ pats, ∀ (us ws r : List Value), us.length = p.1 → ws.length = p.2.length → p.2 ≠ [] → permArgs d_hangs_on.par p.2 (us ++ ws) = some r → bindArgs (PySem.W.fnOf "hangs_on" "hangs_on" (L2.defArgs (topS 21)) (L2.defBody (topS 21)) (L2.defScope (topS 21)) .none kV doc pm an cdv ct) ⟨us, p.2.zip ws⟩ = pure (d_hangs_on.par.zip r) := by
  intro p hp us ws r h1 h2 _ h
  simp only [pats, List.mem_cons, List.not_mem_nil, or_false] at hp
  subst hp
  · match us, ws, h1, h2 with
    | [], [w0, w1, w2, w3], _, _ =>
      have e : permArgs d_hangs_on.par [("part" : Str), ("racks" : Str), ("rows" : Str), ("parts" : Str)] ([] ++ [w0, w1, w2, w3]) = none := by kernel_rfl
      have h' := e.symm.trans h
      cases h'
theorem kb_is_row_of (kV doc pm : Value) (an : Option Addr) (cdv ct : Value) : ∀ p ∈ pats, ∀ (us ws r : List Value), us.length = p.1 → ws.length = p.2.length → p.2 ≠ [] → permArgs d_is_row_of.par p.2 (us ++ ws) = some r → bindArgs (PySem.W.fnOf "is_row_of" "is_row_of" (L2.defArgs (topS 22)) (L2.defBody (topS 22)) (L2.defScope (topS 22)) .none kV doc pm an cdv ct) ⟨us, p.2.zip ws⟩ = pure (d_is_row_of.par.zip r) := by
  intro p hp us ws r h1 h2 _ h
  simp only [pats, List.mem_cons, List.not_mem_nil, or_false] at hp
  subst hp
  · match us, ws, h1, h2 with
    | [], [w0, w1, w2, w3], _, _ =>
      have e : permArgs d_is_row_of.par [("part" : Str), ("racks" : Str), ("rows" : Str), ("parts" : Str)] ([] ++ [w0, w1, w2, w3]) = none := by kernel_rfl
      have h' := e.symm.trans h
      cases h'
theorem kb_is_rack_of (kV doc pm : Value) (an : Option Addr) (cdv ct : Value) : ∀ p ∈ pats, ∀ (us ws r : List Value), us.length = p.1 → ws.length = p.2.length → p.2 ≠ [] → permArgs d_is_rack_of.par p.2 (us ++ ws) = some r → bindArgs (PySem.W.fnOf "is_rack_of" "is_rack_of" (L2.defArgs (topS 23)) (L2.defBody (topS 23)) (L2.defScope (topS 23)) .none kV doc pm an cdv ct) ⟨us, p.2.zip ws⟩ = pure (d_is_rack_of.par.zip r) := by
  intro p hp us ws r h1 h2 _ h
  simp only [pats, List.mem_cons, List.not_mem_nil, or_false] at hp
  subst hp
  · match us, ws, h1, h2 with
    | [], [w0, w1, w2, w3], _, _ =>
      have e : permArgs d_is_rack_of.par [("part" : Str), ("racks" : Str), ("rows" : Str), ("parts" : Str)] ([] ++ [w0, w1, w2, w3]) = none := by kernel_rfl
      have h' := e.symm.trans h
      cases h'
theorem kb_are_some (kV doc pm : Value) (an : Option Addr) (cdv ct : Value) : ∀ p ∈ pats, ∀ (us ws r : List Value), us.length = p.1 → ws.length = p.2.length → p.2 ≠ [] → permArgs d_are_some.par p.2 (us ++ ws) = some r → bindArgs (PySem.W.fnOf "are_some" "are_some" (L2.defArgs (topS 24)) (L2.defBody (topS 24)) (L2.defScope (topS 24)) .none kV doc pm an cdv ct) ⟨us, p.2.zip ws⟩ = pure (d_are_some.par.zip r) := by
  intro p hp us ws r h1 h2 _ h
  simp only [pats, List.mem_cons, List.not_mem_nil, or_false] at hp
  subst hp
  · match us, ws, h1, h2 with
    | [], [w0, w1, w2, w3], _, _ =>
      have e : permArgs d_are_some.par [("part" : Str), ("racks" : Str), ("rows" : Str), ("parts" : Str)] ([] ++ [w0, w1, w2, w3]) = none := by kernel_rfl
      have h' := e.symm.trans h
      cases h'
theorem kb_are_parts (kV doc pm : Value) (an : Option Addr) (cdv ct : Value) : ∀ p ∈ pats, ∀ (us ws r : List Value), us.length = p.1 → ws.length = p.2.length → p.2 ≠ [] → permArgs d_are_parts.par p.2 (us ++ ws) = some r → bindArgs (PySem.W.fnOf "are_parts" "are_parts" (L2.defArgs (topS 25)) (L2.defBody (topS 25)) (L2.defScope (topS 25)) .none kV doc pm an cdv ct) ⟨us, p.2.zip ws⟩ = pure (d_are_parts.par.zip r) := by
  intro p hp us ws r h1 h2 _ h
  simp only [pats, List.mem_cons, List.not_mem_nil, or_false] at hp
  subst hp
  · match us, ws, h1, h2 with
    | [], [w0, w1, w2, w3], _, _ =>
      have e : permArgs d_are_parts.par [("part" : Str), ("racks" : Str), ("rows" : Str), ("parts" : Str)] ([] ++ [w0, w1, w2, w3]) = none := by kernel_rfl
      have h' := e.symm.trans h
      cases h'
theorem kb_are_rows_of (kV doc pm : Value) (an : Option Addr) (cdv ct : Value) : ∀ p ∈ pats, ∀ (us ws r : List Value), us.length = p.1 → ws.length = p.2.length → p.2 ≠ [] → permArgs d_are_rows_of.par p.2 (us ++ ws) = some r → bindArgs (PySem.W.fnOf "are_rows_of" "are_rows_of" (L2.defArgs (topS 26)) (L2.defBody (topS 26)) (L2.defScope (topS 26)) .none kV doc pm an cdv ct) ⟨us, p.2.zip ws⟩ = pure (d_are_rows_of.par.zip r) := by
  intro p hp us ws r h1 h2 _ h
  simp only [pats, List.mem_cons, List.not_mem_nil, or_false] at hp
  subst hp
  · match us, ws, h1, h2 with
    | [], [w0, w1, w2, w3], _, _ =>
      have e : permArgs d_are_rows_of.par [("part" : Str), ("racks" : Str), ("rows" : Str), ("parts" : Str)] ([] ++ [w0, w1, w2, w3]) = none := by kernel_rfl
      have h' := e.symm.trans h
      cases h'
theorem kb_are_racks_of (kV doc pm : Value) (an : Option Addr) (cdv ct : Value) : ∀ p ∈ pats, ∀ (us ws r : List Value), us.length = p.1 → ws.length = p.2.length → p.2 ≠ [] → permArgs d_are_racks_of.par p.2 (us ++ ws) = some r → bindArgs (PySem.W.fnOf "are_racks_of" "are_racks_of" (L2.defArgs (topS 27)) (L2.defBody (topS 27)) (L2.defScope (topS 27)) .none kV doc pm an cdv ct) ⟨us, p.2.zip ws⟩ = pure (d_are_racks_of.par.zip r) := by
  intro p hp us ws r h1 h2 _ h
  simp only [pats, List.mem_cons, List.not_mem_nil, or_false] at hp
  subst hp
  · match us, ws, h1, h2 with
    | [], [w0, w1, w2, w3], _, _ =>
      have e : permArgs d_are_racks_of.par [("part" : Str), ("racks" : Str), ("rows" : Str), ("parts" : Str)] ([] ++ [w0, w1, w2, w3]) = none := by kernel_rfl
      have h' := e.symm.trans h
      cases h'
theorem kb_want_parts (kV doc pm : Value) (an : Option Addr) (cdv ct : Value) : ∀ p ∈ pats, ∀ (us ws r : List Value), us.length = p.1 → ws.length = p.2.length → p.2 ≠ [] → permArgs d_want_parts.par p.2 (us ++ ws) = some r → bindArgs (PySem.W.fnOf "want_parts" "want_parts" (L2.defArgs (topS 28)) (L2.defBody (topS 28)) (L2.defScope (topS 28)) .none kV doc pm an cdv ct) ⟨us, p.2.zip ws⟩ = pure (d_want_parts.par.zip r) := by
  intro p hp us ws r h1 h2 _ h
  simp only [pats, List.mem_cons, List.not_mem_nil, or_false] at hp
  subst hp
  · match us, ws, h1, h2 with
    | [], [w0, w1, w2, w3], _, _ =>
      have e : permArgs d_want_parts.par [("part" : Str), ("racks" : Str), ("rows" : Str), ("parts" : Str)] ([] ++ [w0, w1, w2, w3]) = none := by kernel_rfl
      have h' := e.symm.trans h
      cases h'
theorem kb_want_rows (kV doc pm : Value) (an : Option Addr) (cdv ct : Value) : ∀ p ∈ pats, ∀ (us ws r : List Value), us.length = p.1 → ws.length = p.2.length → p.2 ≠ [] → permArgs d_want_rows.par p.2 (us ++ ws) = some r → bindArgs (PySem.W.fnOf "want_rows" "want_rows" (L2.defArgs (topS 29)) (L2.defBody (topS 29)) (L2.defScope (topS 29)) .none kV doc pm an cdv ct) ⟨us, p.2.zip ws⟩ = pure (d_want_rows.par.zip r) := by
  intro p hp us ws r h1 h2 _ h
  simp only [pats, List.mem_cons, List.not_mem_nil, or_false] at hp
  subst hp
  · match us, ws, h1, h2 with
    | [], [w0, w1, w2, w3], _, _ =>
      have e : permArgs d_want_rows.par [("part" : Str), ("racks" : Str), ("rows" : Str), ("parts" : Str)] ([] ++ [w0, w1, w2, w3]) = none := by kernel_rfl
      have h' := e.symm.trans h
      cases h'
theorem kb_want_racks (kV doc pm : Value) (an : Option Addr) (cdv ct : Value) : ∀ p ∈ pats, ∀ (us ws r : List Value), us.length = p.1 → ws.length = p.2.length → p.2 ≠ [] → permArgs d_want_racks.par p.2 (us ++ ws) = some r → bindArgs (PySem.W.fnOf "want_racks" "want_racks" (L2.defArgs (topS 30)) (L2.defBody (topS 30)) (L2.defScope (topS 30)) .none kV doc pm an cdv ct) ⟨us, p.2.zip ws⟩ = pure (d_want_racks.par.zip r) := by
  intro p hp us ws r h1 h2 _ h
  simp only [pats, List.mem_cons, List.not_mem_nil, or_false] at hp
  subst hp
  · match us, ws, h1, h2 with
    | [], [w0, w1, w2, w3], _, _ =>
      have e : permArgs d_want_racks.par [("part" : Str), ("racks" : Str), ("rows" : Str), ("parts" : Str)] ([] ++ [w0, w1, w2, w3]) = none := by kernel_rfl
      have h' := e.symm.trans h
      cases h'
theorem kb_want_row (kV doc pm : Value) (an : Option Addr) (cdv ct : Value) : ∀ p ∈ pats, ∀ (us ws r : List Value), us.length = p.1 → ws.length = p.2.length → p.2 ≠ [] → permArgs d_want_row.par p.2 (us ++ ws) = some r → bindArgs (PySem.W.fnOf "want_row" "want_row" (L2.defArgs (topS 31)) (L2.defBody (topS 31)) (L2.defScope (topS 31)) .none kV doc pm an cdv ct) ⟨us, p.2.zip ws⟩ = pure (d_want_row.par.zip r) := by
  intro p hp us ws r h1 h2 _ h
  simp only [pats, List.mem_cons, List.not_mem_nil, or_false] at hp
  subst hp
  · match us, ws, h1, h2 with
    | [], [w0, w1, w2, w3], _, _ =>
      have e : permArgs d_want_row.par [("part" : Str), ("racks" : Str), ("rows" : Str), ("parts" : Str)] ([] ++ [w0, w1, w2, w3]) = none := by kernel_rfl
      have h' := e.symm.trans h
      cases h'
theorem kb_want_out (kV doc pm : Value) (an : Option Addr) (cdv ct : Value) : ∀ p ∈ pats, ∀ (us ws r : List Value), us.length = p.1 → ws.length = p.2.length → p.2 ≠ [] → permArgs d_want_out.par p.2 (us ++ ws) = some r → bindArgs (PySem.W.fnOf "want_out" "want_out" (L2.defArgs (topS 32)) (L2.defBody (topS 32)) (L2.defScope (topS 32)) .none kV doc pm an cdv ct) ⟨us, p.2.zip ws⟩ = pure (d_want_out.par.zip r) := by
  intro p hp us ws r h1 h2 _ h
  simp only [pats, List.mem_cons, List.not_mem_nil, or_false] at hp
  subst hp
  · match us, ws, h1, h2 with
    | [], [w0, w1, w2, w3], _, _ =>
      have e : permArgs d_want_out.par [("part" : Str), ("racks" : Str), ("rows" : Str), ("parts" : Str)] ([] ++ [w0, w1, w2, w3]) = none := by kernel_rfl
      have h' := e.symm.trans h
      cases h'
theorem kb_power_of (kV doc pm : Value) (an : Option Addr) (cdv ct : Value) : ∀ p ∈ pats, ∀ (us ws r : List Value), us.length = p.1 → ws.length = p.2.length → p.2 ≠ [] → permArgs d_power_of.par p.2 (us ++ ws) = some r → bindArgs (PySem.W.fnOf "power_of" "power_of" (L2.defArgs (topS 33)) (L2.defBody (topS 33)) (L2.defScope (topS 33)) .none kV doc pm an cdv ct) ⟨us, p.2.zip ws⟩ = pure (d_power_of.par.zip r) := by
  intro p hp us ws r h1 h2 _ h
  simp only [pats, List.mem_cons, List.not_mem_nil, or_false] at hp
  subst hp
  · match us, ws, h1, h2 with
    | [], [w0, w1, w2, w3], _, _ =>
      have e : permArgs d_power_of.par [("part" : Str), ("racks" : Str), ("rows" : Str), ("parts" : Str)] ([] ++ [w0, w1, w2, w3]) = none := by kernel_rfl
      have h' := e.symm.trans h
      cases h'
theorem kb_cool_of (kV doc pm : Value) (an : Option Addr) (cdv ct : Value) : ∀ p ∈ pats, ∀ (us ws r : List Value), us.length = p.1 → ws.length = p.2.length → p.2 ≠ [] → permArgs d_cool_of.par p.2 (us ++ ws) = some r → bindArgs (PySem.W.fnOf "cool_of" "cool_of" (L2.defArgs (topS 34)) (L2.defBody (topS 34)) (L2.defScope (topS 34)) .none kV doc pm an cdv ct) ⟨us, p.2.zip ws⟩ = pure (d_cool_of.par.zip r) := by
  intro p hp us ws r h1 h2 _ h
  simp only [pats, List.mem_cons, List.not_mem_nil, or_false] at hp
  subst hp
  · match us, ws, h1, h2 with
    | [], [w0, w1, w2, w3], _, _ =>
      have e : permArgs d_cool_of.par [("part" : Str), ("racks" : Str), ("rows" : Str), ("parts" : Str)] ([] ++ [w0, w1, w2, w3]) = none := by kernel_rfl
      have h' := e.symm.trans h
      cases h'
theorem kb_dark_of (kV doc pm : Value) (an : Option Addr) (cdv ct : Value) : ∀ p ∈ pats, ∀ (us ws r : List Value), us.length = p.1 → ws.length = p.2.length → p.2 ≠ [] → permArgs d_dark_of.par p.2 (us ++ ws) = some r → bindArgs (PySem.W.fnOf "dark_of" "dark_of" (L2.defArgs (topS 35)) (L2.defBody (topS 35)) (L2.defScope (topS 35)) .none kV doc pm an cdv ct) ⟨us, p.2.zip ws⟩ = pure (d_dark_of.par.zip r) := by
  intro p hp us ws r h1 h2 _ h
  simp only [pats, List.mem_cons, List.not_mem_nil, or_false] at hp
  subst hp
  · match us, ws, h1, h2 with
    | [], [w0, w1, w2, w3], _, _ =>
      have e : permArgs d_dark_of.par [("part" : Str), ("racks" : Str), ("rows" : Str), ("parts" : Str)] ([] ++ [w0, w1, w2, w3]) = none := by kernel_rfl
      have h' := e.symm.trans h
      cases h'
theorem kb_row_power (kV doc pm : Value) (an : Option Addr) (cdv ct : Value) : ∀ p ∈ pats, ∀ (us ws r : List Value), us.length = p.1 → ws.length = p.2.length → p.2 ≠ [] → permArgs d_row_power.par p.2 (us ++ ws) = some r → bindArgs (PySem.W.fnOf "row_power" "row_power" (L2.defArgs (topS 36)) (L2.defBody (topS 36)) (L2.defScope (topS 36)) .none kV doc pm an cdv ct) ⟨us, p.2.zip ws⟩ = pure (d_row_power.par.zip r) := by
  intro p hp us ws r h1 h2 _ h
  simp only [pats, List.mem_cons, List.not_mem_nil, or_false] at hp
  subst hp
  · match us, ws, h1, h2 with
    | [], [w0, w1, w2, w3], _, _ =>
      have e : permArgs d_row_power.par [("part" : Str), ("racks" : Str), ("rows" : Str), ("parts" : Str)] ([] ++ [w0, w1, w2, w3]) = none := by kernel_rfl
      have h' := e.symm.trans h
      cases h'
theorem kb_row_cool (kV doc pm : Value) (an : Option Addr) (cdv ct : Value) : ∀ p ∈ pats, ∀ (us ws r : List Value), us.length = p.1 → ws.length = p.2.length → p.2 ≠ [] → permArgs d_row_cool.par p.2 (us ++ ws) = some r → bindArgs (PySem.W.fnOf "row_cool" "row_cool" (L2.defArgs (topS 37)) (L2.defBody (topS 37)) (L2.defScope (topS 37)) .none kV doc pm an cdv ct) ⟨us, p.2.zip ws⟩ = pure (d_row_cool.par.zip r) := by
  intro p hp us ws r h1 h2 _ h
  simp only [pats, List.mem_cons, List.not_mem_nil, or_false] at hp
  subst hp
  · match us, ws, h1, h2 with
    | [], [w0, w1, w2, w3], _, _ =>
      have e : permArgs d_row_cool.par [("part" : Str), ("racks" : Str), ("rows" : Str), ("parts" : Str)] ([] ++ [w0, w1, w2, w3]) = none := by kernel_rfl
      have h' := e.symm.trans h
      cases h'
theorem kb_is_dark (kV doc pm : Value) (an : Option Addr) (cdv ct : Value) : ∀ p ∈ pats, ∀ (us ws r : List Value), us.length = p.1 → ws.length = p.2.length → p.2 ≠ [] → permArgs d_is_dark.par p.2 (us ++ ws) = some r → bindArgs (PySem.W.fnOf "is_dark" "is_dark" (L2.defArgs (topS 38)) (L2.defBody (topS 38)) (L2.defScope (topS 38)) .none kV doc pm an cdv ct) ⟨us, p.2.zip ws⟩ = pure (d_is_dark.par.zip r) := by
  intro p hp us ws r h1 h2 _ h
  simp only [pats, List.mem_cons, List.not_mem_nil, or_false] at hp
  subst hp
  · match us, ws, h1, h2 with
    | [], [w0, w1, w2, w3], _, _ =>
      have e : permArgs d_is_dark.par [("part" : Str), ("racks" : Str), ("rows" : Str), ("parts" : Str)] ([] ++ [w0, w1, w2, w3]) = none := by kernel_rfl
      have h' := e.symm.trans h
      cases h'
theorem kb_cut_off (kV doc pm : Value) (an : Option Addr) (cdv ct : Value) : ∀ p ∈ pats, ∀ (us ws r : List Value), us.length = p.1 → ws.length = p.2.length → p.2 ≠ [] → permArgs d_cut_off.par p.2 (us ++ ws) = some r → bindArgs (PySem.W.fnOf "cut_off" "cut_off" (L2.defArgs (topS 39)) (L2.defBody (topS 39)) (L2.defScope (topS 39)) .none kV doc pm an cdv ct) ⟨us, p.2.zip ws⟩ = pure (d_cut_off.par.zip r) := by
  intro p hp us ws r h1 h2 _ h
  simp only [pats, List.mem_cons, List.not_mem_nil, or_false] at hp
  subst hp
  · match us, ws, h1, h2 with
    | [], [w0, w1, w2, w3], _, _ =>
      have e : permArgs d_cut_off.par [("part" : Str), ("racks" : Str), ("rows" : Str), ("parts" : Str)] ([] ++ [w0, w1, w2, w3]) = some [w3, w2, w1, w0] := by kernel_rfl
      have h' := e.symm.trans h
      cases h'
      rfl
theorem kb__law_pot (kV doc pm : Value) (an : Option Addr) (cdv ct : Value) : ∀ p ∈ pats, ∀ (us ws r : List Value), us.length = p.1 → ws.length = p.2.length → p.2 ≠ [] → permArgs d__law_pot.par p.2 (us ++ ws) = some r → bindArgs (PySem.W.fnOf "_law_pot" "_law_pot" (L2.defArgs (topS 41)) (L2.defBody (topS 41)) (L2.defScope (topS 41)) .none kV doc pm an cdv ct) ⟨us, p.2.zip ws⟩ = pure (d__law_pot.par.zip r) := by
  intro p hp us ws r h1 h2 _ h
  simp only [pats, List.mem_cons, List.not_mem_nil, or_false] at hp
  subst hp
  · match us, ws, h1, h2 with
    | [], [w0, w1, w2, w3], _, _ =>
      have e : permArgs d__law_pot.par [("part" : Str), ("racks" : Str), ("rows" : Str), ("parts" : Str)] ([] ++ [w0, w1, w2, w3]) = none := by kernel_rfl
      have h' := e.symm.trans h
      cases h'
theorem kb__law_draw (kV doc pm : Value) (an : Option Addr) (cdv ct : Value) : ∀ p ∈ pats, ∀ (us ws r : List Value), us.length = p.1 → ws.length = p.2.length → p.2 ≠ [] → permArgs d__law_draw.par p.2 (us ++ ws) = some r → bindArgs (PySem.W.fnOf "_law_draw" "_law_draw" (L2.defArgs (topS 42)) (L2.defBody (topS 42)) (L2.defScope (topS 42)) .none kV doc pm an cdv ct) ⟨us, p.2.zip ws⟩ = pure (d__law_draw.par.zip r) := by
  intro p hp us ws r h1 h2 _ h
  simp only [pats, List.mem_cons, List.not_mem_nil, or_false] at hp
  subst hp
  · match us, ws, h1, h2 with
    | [], [w0, w1, w2, w3], _, _ =>
      have e : permArgs d__law_draw.par [("part" : Str), ("racks" : Str), ("rows" : Str), ("parts" : Str)] ([] ++ [w0, w1, w2, w3]) = none := by kernel_rfl
      have h' := e.symm.trans h
      cases h'
theorem kb__law_pick (kV doc pm : Value) (an : Option Addr) (cdv ct : Value) : ∀ p ∈ pats, ∀ (us ws r : List Value), us.length = p.1 → ws.length = p.2.length → p.2 ≠ [] → permArgs d__law_pick.par p.2 (us ++ ws) = some r → bindArgs (PySem.W.fnOf "_law_pick" "_law_pick" (L2.defArgs (topS 43)) (L2.defBody (topS 43)) (L2.defScope (topS 43)) .none kV doc pm an cdv ct) ⟨us, p.2.zip ws⟩ = pure (d__law_pick.par.zip r) := by
  intro p hp us ws r h1 h2 _ h
  simp only [pats, List.mem_cons, List.not_mem_nil, or_false] at hp
  subst hp
  · match us, ws, h1, h2 with
    | [], [w0, w1, w2, w3], _, _ =>
      have e : permArgs d__law_pick.par [("part" : Str), ("racks" : Str), ("rows" : Str), ("parts" : Str)] ([] ++ [w0, w1, w2, w3]) = none := by kernel_rfl
      have h' := e.symm.trans h
      cases h'
theorem kb__law_parts (kV doc pm : Value) (an : Option Addr) (cdv ct : Value) : ∀ p ∈ pats, ∀ (us ws r : List Value), us.length = p.1 → ws.length = p.2.length → p.2 ≠ [] → permArgs d__law_parts.par p.2 (us ++ ws) = some r → bindArgs (PySem.W.fnOf "_law_parts" "_law_parts" (L2.defArgs (topS 44)) (L2.defBody (topS 44)) (L2.defScope (topS 44)) .none kV doc pm an cdv ct) ⟨us, p.2.zip ws⟩ = pure (d__law_parts.par.zip r) := by
  intro p hp us ws r h1 h2 _ h
  simp only [pats, List.mem_cons, List.not_mem_nil, or_false] at hp
  subst hp
  · match us, ws, h1, h2 with
    | [], [w0, w1, w2, w3], _, _ =>
      have e : permArgs d__law_parts.par [("part" : Str), ("racks" : Str), ("rows" : Str), ("parts" : Str)] ([] ++ [w0, w1, w2, w3]) = none := by kernel_rfl
      have h' := e.symm.trans h
      cases h'
theorem kb__law_on (kV doc pm : Value) (an : Option Addr) (cdv ct : Value) : ∀ p ∈ pats, ∀ (us ws r : List Value), us.length = p.1 → ws.length = p.2.length → p.2 ≠ [] → permArgs d__law_on.par p.2 (us ++ ws) = some r → bindArgs (PySem.W.fnOf "_law_on" "_law_on" (L2.defArgs (topS 45)) (L2.defBody (topS 45)) (L2.defScope (topS 45)) .none kV doc pm an cdv ct) ⟨us, p.2.zip ws⟩ = pure (d__law_on.par.zip r) := by
  intro p hp us ws r h1 h2 _ h
  simp only [pats, List.mem_cons, List.not_mem_nil, or_false] at hp
  subst hp
  · match us, ws, h1, h2 with
    | [], [w0, w1, w2, w3], _, _ =>
      have e : permArgs d__law_on.par [("part" : Str), ("racks" : Str), ("rows" : Str), ("parts" : Str)] ([] ++ [w0, w1, w2, w3]) = none := by kernel_rfl
      have h' := e.symm.trans h
      cases h'
theorem kb__law_rows (kV doc pm : Value) (an : Option Addr) (cdv ct : Value) : ∀ p ∈ pats, ∀ (us ws r : List Value), us.length = p.1 → ws.length = p.2.length → p.2 ≠ [] → permArgs d__law_rows.par p.2 (us ++ ws) = some r → bindArgs (PySem.W.fnOf "_law_rows" "_law_rows" (L2.defArgs (topS 46)) (L2.defBody (topS 46)) (L2.defScope (topS 46)) .none kV doc pm an cdv ct) ⟨us, p.2.zip ws⟩ = pure (d__law_rows.par.zip r) := by
  intro p hp us ws r h1 h2 _ h
  simp only [pats, List.mem_cons, List.not_mem_nil, or_false] at hp
  subst hp
  · match us, ws, h1, h2 with
    | [], [w0, w1, w2, w3], _, _ =>
      have e : permArgs d__law_rows.par [("part" : Str), ("racks" : Str), ("rows" : Str), ("parts" : Str)] ([] ++ [w0, w1, w2, w3]) = none := by kernel_rfl
      have h' := e.symm.trans h
      cases h'
theorem kb__law_out (kV doc pm : Value) (an : Option Addr) (cdv ct : Value) : ∀ p ∈ pats, ∀ (us ws r : List Value), us.length = p.1 → ws.length = p.2.length → p.2 ≠ [] → permArgs d__law_out.par p.2 (us ++ ws) = some r → bindArgs (PySem.W.fnOf "_law_out" "_law_out" (L2.defArgs (topS 47)) (L2.defBody (topS 47)) (L2.defScope (topS 47)) .none kV doc pm an cdv ct) ⟨us, p.2.zip ws⟩ = pure (d__law_out.par.zip r) := by
  intro p hp us ws r h1 h2 _ h
  simp only [pats, List.mem_cons, List.not_mem_nil, or_false] at hp
  subst hp
  · match us, ws, h1, h2 with
    | [], [w0, w1, w2, w3], _, _ =>
      have e : permArgs d__law_out.par [("part" : Str), ("racks" : Str), ("rows" : Str), ("parts" : Str)] ([] ++ [w0, w1, w2, w3]) = none := by kernel_rfl
      have h' := e.symm.trans h
      cases h'
theorem kb__law_racks (kV doc pm : Value) (an : Option Addr) (cdv ct : Value) : ∀ p ∈ pats, ∀ (us ws r : List Value), us.length = p.1 → ws.length = p.2.length → p.2 ≠ [] → permArgs d__law_racks.par p.2 (us ++ ws) = some r → bindArgs (PySem.W.fnOf "_law_racks" "_law_racks" (L2.defArgs (topS 48)) (L2.defBody (topS 48)) (L2.defScope (topS 48)) .none kV doc pm an cdv ct) ⟨us, p.2.zip ws⟩ = pure (d__law_racks.par.zip r) := by
  intro p hp us ws r h1 h2 _ h
  simp only [pats, List.mem_cons, List.not_mem_nil, or_false] at hp
  subst hp
  · match us, ws, h1, h2 with
    | [], [w0, w1, w2, w3], _, _ =>
      have e : permArgs d__law_racks.par [("part" : Str), ("racks" : Str), ("rows" : Str), ("parts" : Str)] ([] ++ [w0, w1, w2, w3]) = none := by kernel_rfl
      have h' := e.symm.trans h
      cases h'
theorem kb__law_due (kV doc pm : Value) (an : Option Addr) (cdv ct : Value) : ∀ p ∈ pats, ∀ (us ws r : List Value), us.length = p.1 → ws.length = p.2.length → p.2 ≠ [] → permArgs d__law_due.par p.2 (us ++ ws) = some r → bindArgs (PySem.W.fnOf "_law_due" "_law_due" (L2.defArgs (topS 49)) (L2.defBody (topS 49)) (L2.defScope (topS 49)) .none kV doc pm an cdv ct) ⟨us, p.2.zip ws⟩ = pure (d__law_due.par.zip r) := by
  intro p hp us ws r h1 h2 _ h
  simp only [pats, List.mem_cons, List.not_mem_nil, or_false] at hp
  subst hp
  · match us, ws, h1, h2 with
    | [], [w0, w1, w2, w3], _, _ =>
      have e : permArgs d__law_due.par [("part" : Str), ("racks" : Str), ("rows" : Str), ("parts" : Str)] ([] ++ [w0, w1, w2, w3]) = none := by kernel_rfl
      have h' := e.symm.trans h
      cases h'
theorem kb__law_out_right (kV doc pm : Value) (an : Option Addr) (cdv ct : Value) : ∀ p ∈ pats, ∀ (us ws r : List Value), us.length = p.1 → ws.length = p.2.length → p.2 ≠ [] → permArgs d__law_out_right.par p.2 (us ++ ws) = some r → bindArgs (PySem.W.fnOf "_law_out_right" "_law_out_right" (L2.defArgs (topS 50)) (L2.defBody (topS 50)) (L2.defScope (topS 50)) .none kV doc pm an cdv ct) ⟨us, p.2.zip ws⟩ = pure (d__law_out_right.par.zip r) := by
  intro p hp us ws r h1 h2 _ h
  simp only [pats, List.mem_cons, List.not_mem_nil, or_false] at hp
  subst hp
  · match us, ws, h1, h2 with
    | [], [w0, w1, w2, w3], _, _ =>
      have e : permArgs d__law_out_right.par [("part" : Str), ("racks" : Str), ("rows" : Str), ("parts" : Str)] ([] ++ [w0, w1, w2, w3]) = none := by kernel_rfl
      have h' := e.symm.trans h
      cases h'
theorem kb__law_known_right (kV doc pm : Value) (an : Option Addr) (cdv ct : Value) : ∀ p ∈ pats, ∀ (us ws r : List Value), us.length = p.1 → ws.length = p.2.length → p.2 ≠ [] → permArgs d__law_known_right.par p.2 (us ++ ws) = some r → bindArgs (PySem.W.fnOf "_law_known_right" "_law_known_right" (L2.defArgs (topS 51)) (L2.defBody (topS 51)) (L2.defScope (topS 51)) .none kV doc pm an cdv ct) ⟨us, p.2.zip ws⟩ = pure (d__law_known_right.par.zip r) := by
  intro p hp us ws r h1 h2 _ h
  simp only [pats, List.mem_cons, List.not_mem_nil, or_false] at hp
  subst hp
  · match us, ws, h1, h2 with
    | [], [w0, w1, w2, w3], _, _ =>
      have e : permArgs d__law_known_right.par [("part" : Str), ("racks" : Str), ("rows" : Str), ("parts" : Str)] ([] ++ [w0, w1, w2, w3]) = none := by kernel_rfl
      have h' := e.symm.trans h
      cases h'
theorem kb__law_right (kV doc pm : Value) (an : Option Addr) (cdv ct : Value) : ∀ p ∈ pats, ∀ (us ws r : List Value), us.length = p.1 → ws.length = p.2.length → p.2 ≠ [] → permArgs d__law_right.par p.2 (us ++ ws) = some r → bindArgs (PySem.W.fnOf "_law_right" "_law_right" (L2.defArgs (topS 52)) (L2.defBody (topS 52)) (L2.defScope (topS 52)) .none kV doc pm an cdv ct) ⟨us, p.2.zip ws⟩ = pure (d__law_right.par.zip r) := by
  intro p hp us ws r h1 h2 _ h
  simp only [pats, List.mem_cons, List.not_mem_nil, or_false] at hp
  subst hp
  · match us, ws, h1, h2 with
    | [], [w0, w1, w2, w3], _, _ =>
      have e : permArgs d__law_right.par [("part" : Str), ("racks" : Str), ("rows" : Str), ("parts" : Str)] ([] ++ [w0, w1, w2, w3]) = none := by kernel_rfl
      have h' := e.symm.trans h
      cases h'
theorem kb_law (kV doc pm : Value) (an : Option Addr) (cdv ct : Value) : ∀ p ∈ pats, ∀ (us ws r : List Value), us.length = p.1 → ws.length = p.2.length → p.2 ≠ [] → permArgs d_law.par p.2 (us ++ ws) = some r → bindArgs (PySem.W.fnOf "law" "law" (L2.defArgs (topS 53)) (L2.defBody (topS 53)) (L2.defScope (topS 53)) .none kV doc pm an cdv ct) ⟨us, p.2.zip ws⟩ = pure (d_law.par.zip r) := by
  intro p hp us ws r h1 h2 _ h
  simp only [pats, List.mem_cons, List.not_mem_nil, or_false] at hp
  subst hp
  · match us, ws, h1, h2 with
    | [], [w0, w1, w2, w3], _, _ =>
      have e : permArgs d_law.par [("part" : Str), ("racks" : Str), ("rows" : Str), ("parts" : Str)] ([] ++ [w0, w1, w2, w3]) = none := by kernel_rfl
      have h' := e.symm.trans h
      cases h'
theorem okT {K : PySem.W.Frag} {h : Heap} {mg : Str → Option Value} (inK : K.In h) (G : h.Ns mainGlobals mg) (r0 : Raw K "is_integer" (topS 1))
    (r1 : Raw K "is_count" (topS 2))
    (r2 : Raw K "is_within" (topS 3))
    (r3 : Raw K "is_position" (topS 4))
    (r4 : Raw K "is_tuple_of" (topS 5))
    (r5 : Raw K "is_rising" (topS 6))
    (r6 : Raw K "is_part" (topS 20))
    (r7 : Raw K "hangs_on" (topS 21))
    (r8 : Raw K "is_row_of" (topS 22))
    (r9 : Raw K "is_rack_of" (topS 23))
    (r10 : Raw K "are_some" (topS 24))
    (r11 : Raw K "are_parts" (topS 25))
    (r12 : Raw K "are_rows_of" (topS 26))
    (r13 : Raw K "are_racks_of" (topS 27))
    (r14 : Raw K "want_parts" (topS 28))
    (r15 : Raw K "want_rows" (topS 29))
    (r16 : Raw K "want_racks" (topS 30))
    (r17 : Raw K "want_row" (topS 31))
    (r18 : Raw K "want_out" (topS 32))
    (r19 : Raw K "power_of" (topS 33))
    (r20 : Raw K "cool_of" (topS 34))
    (r21 : Raw K "dark_of" (topS 35))
    (r22 : Raw K "row_power" (topS 36))
    (r23 : Raw K "row_cool" (topS 37))
    (r24 : Raw K "is_dark" (topS 38))
    (r25 : Raw K "cut_off" (topS 39))
    (r26 : Raw K "_law_pot" (topS 41))
    (r27 : Raw K "_law_draw" (topS 42))
    (r28 : Raw K "_law_pick" (topS 43))
    (r29 : Raw K "_law_parts" (topS 44))
    (r30 : Raw K "_law_on" (topS 45))
    (r31 : Raw K "_law_rows" (topS 46))
    (r32 : Raw K "_law_out" (topS 47))
    (r33 : Raw K "_law_racks" (topS 48))
    (r34 : Raw K "_law_due" (topS 49))
    (r35 : Raw K "_law_out_right" (topS 50))
    (r36 : Raw K "_law_known_right" (topS 51))
    (r37 : Raw K "_law_right" (topS 52))
    (r38 : Raw K "law" (topS 53))
    (z0 : PySem.W.nsIn K mainGlobals "len" = some none)
    (z1 : PySem.W.nsIn K mainGlobals "abs" = some none)
    (z2 : PySem.W.nsIn K mainGlobals "max" = some none)
    (z3 : PySem.W.nsIn K mainGlobals "min" = some none)
    (z4 : PySem.W.nsIn K mainGlobals "int" = some none)
    (z5 : PySem.W.nsIn K mainGlobals "repr" = some none)
    (z6 : PySem.W.nsIn K mainGlobals "divmod" = some none)
    (z7 : PySem.W.nsIn K mainGlobals "sum" = some none)
    (z8 : PySem.W.nsIn K mainGlobals "all" = some none)
    (z9 : PySem.W.nsIn K mainGlobals "any" = some none)
    (z10 : PySem.W.nsIn K mainGlobals "tuple" = some none)
    (z11 : PySem.W.nsIn K mainGlobals "list" = some none)
    (z12 : PySem.W.nsIn K mainGlobals "isinstance" = some none)
    (z13 : PySem.W.nsIn K mainGlobals "range" = some none)
    (z14 : PySem.W.nsIn K mainGlobals "bool" = some none)
    (z15 : PySem.W.nsIn K mainGlobals "str" = some none)
    (z16 : PySem.W.nsIn K mainGlobals "dict" = some none)
    (z17 : PySem.W.nsIn K mainGlobals "enumerate" = some none)
    (z18 : PySem.W.nsIn K mainGlobals "zip" = some none)
    (z19 : PySem.W.nsIn K mainGlobals "sorted" = some none)
    (z20 : PySem.W.nsIn K mainGlobals "reversed" = some none)
    (z21 : PySem.W.nsIn K mainGlobals "set" = some none)
    (z22 : PySem.W.nsIn K mainGlobals "type" = some none)
    {t0 : Nat} (c0 : PySem.W.nsIn K mainGlobals "MOST_MACHINES" = some (some (.int 16 t0)))
    {t1 : Nat} (c1 : PySem.W.nsIn K mainGlobals "MOST_PARTS" = some (some (.int 6 t1)))
    {t2 : Nat} (c2 : PySem.W.nsIn K mainGlobals "MOST_KIND" = some (some (.int 2 t2))) : TxOk K mg consts pats T :=
  txOk_mk inK G (.cons z0 (.cons z1 (.cons z2 (.cons z3 (.cons z4 (.cons z5 (.cons z6 (.cons z7 (.cons z8 (.cons z9 (.cons z10 (.cons z11 (.cons z12 (.cons z13 (.cons z14 (.cons z15 (.cons z16 (.cons z17 (.cons z18 (.cons z19 (.cons z20 (.cons z21 (.cons z22 .nil))))))))))))))))))))))) (.cons (co_int inK G c0) (.cons (co_int inK G c1) (.cons (co_int inK G c2) .nil)))
    (.cons (defAt_mk inK G r0 sc_is_integer tr_is_integer bd_is_integer kb_is_integer) (.cons (defAt_mk inK G r1 sc_is_count tr_is_count bd_is_count kb_is_count) (.cons (defAt_mk inK G r2 sc_is_within tr_is_within bd_is_within kb_is_within) (.cons (defAt_mk inK G r3 sc_is_position tr_is_position bd_is_position kb_is_position) (.cons (defAt_mk inK G r4 sc_is_tuple_of tr_is_tuple_of bd_is_tuple_of kb_is_tuple_of) (.cons (defAt_mk inK G r5 sc_is_rising tr_is_rising bd_is_rising kb_is_rising) (.cons (defAt_mk inK G r6 sc_is_part tr_is_part bd_is_part kb_is_part) (.cons (defAt_mk inK G r7 sc_hangs_on tr_hangs_on bd_hangs_on kb_hangs_on) (.cons (defAt_mk inK G r8 sc_is_row_of tr_is_row_of bd_is_row_of kb_is_row_of) (.cons (defAt_mk inK G r9 sc_is_rack_of tr_is_rack_of bd_is_rack_of kb_is_rack_of) (.cons (defAt_mk inK G r10 sc_are_some tr_are_some bd_are_some kb_are_some) (.cons (defAt_mk inK G r11 sc_are_parts tr_are_parts bd_are_parts kb_are_parts) (.cons (defAt_mk inK G r12 sc_are_rows_of tr_are_rows_of bd_are_rows_of kb_are_rows_of) (.cons (defAt_mk inK G r13 sc_are_racks_of tr_are_racks_of bd_are_racks_of kb_are_racks_of) (.cons (defAt_mk inK G r14 sc_want_parts tr_want_parts bd_want_parts kb_want_parts) (.cons (defAt_mk inK G r15 sc_want_rows tr_want_rows bd_want_rows kb_want_rows) (.cons (defAt_mk inK G r16 sc_want_racks tr_want_racks bd_want_racks kb_want_racks) (.cons (defAt_mk inK G r17 sc_want_row tr_want_row bd_want_row kb_want_row) (.cons (defAt_mk inK G r18 sc_want_out tr_want_out bd_want_out kb_want_out) (.cons (defAt_mk inK G r19 sc_power_of tr_power_of bd_power_of kb_power_of) (.cons (defAt_mk inK G r20 sc_cool_of tr_cool_of bd_cool_of kb_cool_of) (.cons (defAt_mk inK G r21 sc_dark_of tr_dark_of bd_dark_of kb_dark_of) (.cons (defAt_mk inK G r22 sc_row_power tr_row_power bd_row_power kb_row_power) (.cons (defAt_mk inK G r23 sc_row_cool tr_row_cool bd_row_cool kb_row_cool) (.cons (defAt_mk inK G r24 sc_is_dark tr_is_dark bd_is_dark kb_is_dark) (.cons (defAt_mk inK G r25 sc_cut_off tr_cut_off bd_cut_off kb_cut_off) (.cons (defAt_mk inK G r26 sc__law_pot tr__law_pot bd__law_pot kb__law_pot) (.cons (defAt_mk inK G r27 sc__law_draw tr__law_draw bd__law_draw kb__law_draw) (.cons (defAt_mk inK G r28 sc__law_pick tr__law_pick bd__law_pick kb__law_pick) (.cons (defAt_mk inK G r29 sc__law_parts tr__law_parts bd__law_parts kb__law_parts) (.cons (defAt_mk inK G r30 sc__law_on tr__law_on bd__law_on kb__law_on) (.cons (defAt_mk inK G r31 sc__law_rows tr__law_rows bd__law_rows kb__law_rows) (.cons (defAt_mk inK G r32 sc__law_out tr__law_out bd__law_out kb__law_out) (.cons (defAt_mk inK G r33 sc__law_racks tr__law_racks bd__law_racks kb__law_racks) (.cons (defAt_mk inK G r34 sc__law_due tr__law_due bd__law_due kb__law_due) (.cons (defAt_mk inK G r35 sc__law_out_right tr__law_out_right bd__law_out_right kb__law_out_right) (.cons (defAt_mk inK G r36 sc__law_known_right tr__law_known_right bd__law_known_right kb__law_known_right) (.cons (defAt_mk inK G r37 sc__law_right tr__law_right bd__law_right kb__law_right) (.cons (defAt_mk inK G r38 sc_law tr_law bd_law kb_law) .nil)))))))))))))))))))))))))))))))))))))))
end L15
namespace L15
open PySem Ev
theorem draws : DrawOk T "_law_draw" := fun k n m st P h0 h1 => draw_ok (A := 40692) (B := 9043) (M := 2147483563) (M2 := 2147483549) (Q := 19) lk__law_draw (by decide) (by decide) (by decide) (by decide) k n m st P h0 h1
theorem pots : MkOk T "_law_pot" true := mk_two (A := 1327) (B := 947) (M := 2147483549) (F := 40014) (G := 6607) (H := 337) (M2 := 2147483563) lk__law_pot (by decide) (by decide)
theorem txp : TxP T kd fun f => freshL.contains f := txP_of look_T draws pots (by decide +kernel) (by decide +kernel)
theorem cut : Ev.Cut T kd where
  is_integer := ⟨lk_is_integer, kd_is_integer⟩
  is_count := ⟨lk_is_count, kd_is_count⟩
  is_within := ⟨lk_is_within, kd_is_within⟩
  is_position := ⟨lk_is_position, kd_is_position⟩
  is_tuple_of := ⟨lk_is_tuple_of, kd_is_tuple_of⟩
  are_some := ⟨lk_are_some, kd_are_some⟩
  is_part := ⟨lk_is_part, kd_is_part⟩
  are_parts := ⟨lk_are_parts, kd_are_parts⟩
  want_parts := ⟨lk_want_parts, kd_want_parts⟩
  hangs_on := ⟨lk_hangs_on, kd_hangs_on⟩
  is_row_of := ⟨lk_is_row_of, kd_is_row_of⟩
  are_rows_of := ⟨lk_are_rows_of, kd_are_rows_of⟩
  is_rising := ⟨lk_is_rising, kd_is_rising⟩
  is_rack_of := ⟨lk_is_rack_of, kd_is_rack_of⟩
  are_racks_of := ⟨lk_are_racks_of, kd_are_racks_of⟩
  want_rows := ⟨lk_want_rows, kd_want_rows⟩
  want_racks := ⟨lk_want_racks, kd_want_racks⟩
  power_of := ⟨lk_power_of, kd_power_of⟩
  cool_of := ⟨lk_cool_of, kd_cool_of⟩
  dark_of := ⟨lk_dark_of, kd_dark_of⟩
  want_row := ⟨lk_want_row, kd_want_row⟩
  want_out := ⟨lk_want_out, kd_want_out⟩
  row_power := ⟨lk_row_power, kd_row_power⟩
  row_cool := ⟨lk_row_cool, kd_row_cool⟩
  is_dark := ⟨lk_is_dark, kd_is_dark⟩
  cut_off := ⟨lk_cut_off, kd_cut_off⟩
theorem lrk : Ev.LRk T kd where
  draw := kd__law_draw
  drawT := ⟨_, lk__law_draw, rfl⟩
  pick := ⟨lk__law_pick, kd__law_pick⟩
  parts := ⟨lk__law_parts, kd__law_parts⟩
  on := ⟨lk__law_on, kd__law_on⟩
  rows := ⟨lk__law_rows, kd__law_rows⟩
  out := ⟨lk__law_out, kd__law_out⟩
  racks := ⟨lk__law_racks, kd__law_racks⟩
end L15
namespace Ev
open PySem
/-! ### the law's way to look -/
def isP (i : Int) (f : D) : Bool := match f with
  | .tup [.int j, _] => decide (j = i)
  | _ => false
theorem c1_P {n : Nat} {m : Int} {f : D} (h : IsFeed n m f) (i : Int) : c1 [] f - c1 [.int i] f = if isP i f then val1 f else 0 := by
  obtain ⟨x, p, rfl, hx, _⟩ := h
  rcases hx with rfl | ⟨j, rfl, _⟩
  · simp [c1, on1, isP]
  · have e0 : on1 [] (.tup [D.int j, .int p]) = true := rfl
    have e1 : on1 [.int i] (.tup [D.int j, .int p]) = !decide (j = i) := by
      show (isNon (.int j) || !hit [.int i] (.int j)) = _
      have : hit [.int i] (.int j) = decide (j = i) := by
        show ((i == j) || false) = _
        rw [Bool.or_false]
        by_cases e : i = j
        · simp [e]
        · have : ¬ j = i := fun z => e z.symm
          simp [e, this]
      rw [this]
      rfl
    unfold c1
    rw [e0, e1]
    by_cases e : j = i <;> simp [isP, val1, e]
theorem lost_is {n : Nat} {m : Int} (i : Int) : ∀ {fs : List D}, (∀ f ∈ fs, IsFeed n m f) → powOf [] fs - powOf [.int i] fs = ((fs.filter (isP i)).map val1).sum
  | [], _ => rfl
  | f :: fs, h => by
    have ih := lost_is i (fs := fs) fun g hg => h g (List.mem_cons_of_mem _ hg)
    have h1 := c1_P (h f List.mem_cons_self) i
    rw [powOf_sum, powOf_sum] at ih ⊢
    rw [List.map_cons, List.map_cons, List.sum_cons, List.sum_cons]
    cases hp : isP i f with
    | true => rw [List.filter_cons_of_pos hp, List.map_cons, List.sum_cons]; rw [hp, if_pos rfl] at h1; omega
    | false => rw [List.filter_cons_of_neg (by rw [hp]; decide)]; rw [hp, if_neg (by decide)] at h1; omega
theorem lost_pos {n : Nat} : ∀ {fs : List D}, (∀ f ∈ fs, IsFeed n 1 f) → 0 ≤ (fs.map val1).sum ∧ (0 < (fs.map val1).sum ↔ fs.isEmpty = false)
  | [], _ => ⟨Int.le_refl _, by simp⟩
  | f :: fs, h => by
    have ih := lost_pos (fs := fs) fun g hg => h g (List.mem_cons_of_mem _ hg)
    obtain ⟨x, p, rfl, hx, p1, _⟩ := h f List.mem_cons_self
    rw [List.map_cons, List.sum_cons]
    have : val1 (.tup [x, .int p]) = p := rfl
    rw [this]
    exact ⟨by omega, by simp; omega⟩
theorem val_bound {n : Nat} {m : Int} : ∀ {fs : List D}, (∀ f ∈ fs, IsFeed n m f) → (fs.map val1).sum ≤ 39 * fs.length
  | [], _ => by simp
  | f :: fs, h => by
    have ih := val_bound (fs := fs) fun g hg => h g (List.mem_cons_of_mem _ hg)
    obtain ⟨x, p, rfl, hx, p1, p2⟩ := h f List.mem_cons_self
    rw [List.map_cons, List.sum_cons, List.length_cons]
    have : val1 (.tup [x, .int p]) = p := rfl
    rw [this]
    omega
/-- a drawn cooler and a part -/
theorem cool_is {n : Nat} {c : D} (h : IsFeed n 0 c) (i : Int) : decide (coolOf [.int i] c < coolOf [] c) = (isP i c && decide (0 < val1 c)) := by
  have e : coolOf [] c - coolOf [.int i] c = if isP i c then val1 c else 0 := c1_P h i
  cases hp : isP i c with
  | true =>
    rw [hp, if_pos rfl] at e
    rw [Bool.true_and]
    exact decide_eq_decide.mpr (by omega)
  | false =>
    rw [hp, if_neg (by decide)] at e
    rw [Bool.false_and]
    exact decide_eq_false (by omega)
theorem hit_idx {g : Nat → D → Option D} (hg : ∀ i x d, g i x = some d → d = .int i) {xs : List D} {j : Nat} {x : D} (hx : xs[j]? = some x) : hit (idxFil g 0 xs) (.int j) = (g j x).isSome := by
  have hi : ∀ d ∈ idxFil g 0 xs, ∃ i : Int, d = .int i := fun d hd => by
    obtain ⟨i, y, _, h⟩ := idxFil_mem.mp hd
    exact ⟨_, hg _ _ _ h⟩
  rw [Bool.eq_iff_iff, hit_int hi, idxFil_mem]
  constructor
  · rintro ⟨i, y, hy, h⟩
    have := hg _ _ _ h
    rw [Nat.zero_add] at h this
    have : (j : Int) = i := by simpa using this
    have : j = i := by omega
    subst this
    rw [hx] at hy
    cases hy
    rw [h]
    rfl
  · intro h
    obtain ⟨d, hd⟩ := Option.isSome_iff_exists.mp h
    refine ⟨j, x, hx, ?_⟩
    rw [Nat.zero_add, hd, hg _ _ _ hd]
theorem cutC_key {p : D} : ∀ (i : Nat) (x d : D), cutC p i x = some d → d = .int i := by
  intro i x d h
  unfold cutC at h
  split at h <;> cases h
  rfl
theorem cutK_key {p : D} : ∀ (i : Nat) (x d : D), cutK p i x = some d → d = .int i := by
  intro i x d h
  unfold cutK at h
  split at h <;> cases h
  rfl
/-- .. at this position -/
def atI (j : Nat) (d : D) : Bool := match d with
  | .tup [.int i, _] => decide (i = j)
  | _ => false
theorem cutP_key {p : D} {j : Nat} : ∀ (i : Nat) (x d : D), cutP p i x = some d → ∃ l, d = .tup [.int i, .int l] := by
  intro i x d h
  unfold cutP at h
  split at h <;> cases h
  exact ⟨_, rfl⟩
theorem cutP_at {p : D} {rs : List D} {j : Nat} {r : D} (hr : rs[j]? = some r) (h0 : 0 ≤ lostOf p r) : (((idxFil (cutP p) 0 rs).filter (atI j)).map val1).sum = lostOf p r := by
  rw [idxFil_at (i0 := j) (p := atI j) (fun i x d hx hd => by
    obtain ⟨l, rfl⟩ := cutP_key (j := j) _ _ _ hd
    rw [Nat.zero_add]
    show decide ((i : Int) = (j : Int)) = decide (i = j)
    exact decide_eq_decide.mpr (by omega)), if_pos (Nat.zero_le _), Nat.sub_zero, hr]
  dsimp only
  unfold cutP
  by_cases h : 0 < lostOf p r
  · rw [if_pos h]; show _ + (0 : Int) = _; rw [Int.add_zero]; rfl
  · rw [if_neg h]; show (0 : Int) = _; omega
theorem flat_ints {xs : List D} (h : ∀ d ∈ xs, ∃ i : Int, d = .int i) : xs.all flatD = true := List.all_eq_true.mpr fun d hd => by
  obtain ⟨i, rfl⟩ := h d hd
  rfl
end Ev
namespace L15
open PySem Ev
theorem eq_part {x : D} {n : Nat} (hx : IsOn n x) (v : D) (i : Int) : cmpD .eq x (.int i) [] = .ok (.bl (isP i (.tup [x, v]))) [] := by
  rcases hx with rfl | ⟨j, rfl, _⟩
  · rw [cmp_eq_pl (pl_non.mono (by omega)) (pl_int.mono (by omega))]
    rfl
  · rw [cmp_eq_int]
    rfl
theorem has_due : Has T kd "_law_due" d__law_due := ⟨lk__law_due, kd__law_due⟩
theorem has_out : Has T kd "_law_out_right" d__law_out_right := ⟨lk__law_out_right, kd__law_out_right⟩
theorem has_right : Has T kd "_law_right" d__law_right := ⟨lk__law_right, kd__law_right⟩
theorem has_law : Has T kd "law" d_law := ⟨lk_law, kd_law⟩
variable (k : Nat) {ps rs ks : List D} (H : DHall ps rs ks)
include H
theorem c_due (i : Int) : pCall (T.pat kd (k + 1)) "_law_due" [] [.tup rs, .tup ks, .int i] = .ret (cutV (.int i) rs ks) := by
  have s0 : small 0 = true := by decide +kernel
  have rl := H.r2
  have kl := H.k2
  refine has_due.ret [some (.tup rs), some (.tup ks), some (.int i), none, none, none, none, none, none, none, none] rfl rfl ?_
  refine ss_asg (d := .lst []) (by simp [s0]) ?_
  refine ss_for (enumD 0 rs) (fun j env => ∃ a b c, env = [some (.tup rs), some (.tup ks), some (.int i), some (.lst (idxFil (cutP (.int i)) 0 (rs.take j))), a, b, c, none, none, none, none]) (ds := [.tup rs]) (by simp) rfl (by rw [enum_len]; omega) ⟨none, none, none, rfl⟩ ?_ ?_
  · rintro j d env hd ⟨a, b, c, rfl⟩
    obtain ⟨r, hr, rfl⟩ := enum_is hd
    obtain ⟨fs, cl, g, e, f1, f2, f3, hc, hg⟩ := H.r3 r (List.mem_of_getElem? hr)
    have l1 := idxFil_len (f := cutP (.int i)) (xs := rs.take j) (i := 0)
    have l3 : (rs.take j).length ≤ rs.length := by rw [List.length_take]; omega
    have e1 : L2.atI [D.str "row", .tup fs, cl, g] 1 = some (.tup fs) := rfl
    have c1 : pE (T.pat kd k) (.comp true [7, 8] (.t [(.n 7), (.n 8)]) .seq [(.ix (.v 5) (.c (.int (1))))] [(.cmp .eq (.v 7) (.v 2))] (.v 8)) [some (.tup rs), some (.tup ks), some (.int i), some (.lst (idxFil (cutP (.int i)) 0 (rs.take j))), some (.int j), some r, c, none, none, none, none] = .ret (.lst ((fs.filter (isP i)).map fun f => .int (val1 f))) := by
      refine e_compF (xs := fs) (ds := [.tup fs]) (isP i) (fun f => .int (val1 f)) (by rw [e]; simp [e1]) rfl (by omega) fun f hf => ?_
      obtain ⟨x, p, rfl, hx, _⟩ := f3 f hf
      unfold pTurn
      cases hp : isP i (.tup [x, .int p]) <;> simp [wipeE, setT, setTs, eq_part hx (.int p), hp, val1]
    have sm : Tr.of (prD false .sum [.lst ((fs.filter (isP i)).map fun f => .int (val1 f))] []) = .ret (.int (lostOf (.int i) r)) := by
      show Tr.of ((opt (intsD ((fs.filter (isP i)).map fun f => .int (val1 f))) []).bnd _) = _
      rw [ints_map]
      have : lostOf (.int i) r = ((fs.filter (isP i)).map val1).sum := by rw [e]; exact lost_is i f3
      rw [this]
      rfl
    have ne : cmpD .ne (.lst ((fs.filter (isP i)).map fun f => .int (val1 f))) (.lst []) [] = .ok (.bl (decide (0 < lostOf (.int i) r))) [] := by
      rw [cmp_ne_pl ((pl_lst (k := 0) (fun x hx => by
        obtain ⟨f, _, rfl⟩ := List.mem_map.mp hx
        exact pl_int)).mono (by omega)) ⟨rfl, by decide⟩, eqP_nilL]
      have : lostOf (.int i) r = ((fs.filter (isP i)).map val1).sum := by rw [e]; exact lost_is i f3
      rw [this, List.isEmpty_map]
      have h := (lost_pos (fs := fs.filter (isP i)) fun f hf => f3 f (List.mem_filter.mp hf).1).2
      cases he : (fs.filter (isP i)).isEmpty with
      | true => rw [decide_eq_false (by rw [h, he]; decide)]; rfl
      | false => rw [decide_eq_true (h.mpr he)]; rfl
    refine ⟨_, _, rfl, .inl ?_, some (.int j), some r, some (.lst ((fs.filter (isP i)).map fun f => .int (val1 f))), rfl⟩
    refine ss_asg c1 ?_
    refine ss_ifApp (k := decide (0 < lostOf (.int i) r)) (d := .tup [.int j, .int (lostOf (.int i) r)]) (by simp [s0, ne]) rfl (fun _ => by simp [small_2, sm]) (by omega) ?_
    rw [idxFil_take hr]
    unfold cutP
    by_cases h : 0 < lostOf (.int i) r
    · rw [if_pos h, if_pos (decide_eq_true h)]; rfl
    · rw [if_neg h, if_neg (by rw [decide_eq_true_eq]; exact h)]; rfl
  · rintro env ⟨a, b, c, rfl⟩
    rw [enum_len, List.take_length]
    have e2 : pE (T.pat kd k) (.comp false [4, 5] (.t [(.n 4), (.n 5)]) .enum [(.v 0)] [(.and (.cmp .eq (.ix (.ix (.v 5) (.c (.int (2)))) (.c (.int (0)))) (.v 2)) (.cmp .gt (.ix (.ix (.v 5) (.c (.int (2)))) (.c (.int (1)))) (.c (.int (0)))))] (.v 4)) [some (.tup rs), some (.tup ks), some (.int i), some (.lst (idxFil (cutP (.int i)) 0 rs)), a, b, c, none, none, none, none] = .ret (.lst (idxFil (cutC (.int i)) 0 rs)) := by
      refine e_compE (d := .tup rs) (cutC (.int i)) (by simp) rfl (by omega) fun m r hr => ?_
      obtain ⟨fs, cl, g, rfl, f1, f2, f3, hc, hg⟩ := H.r3 r (List.mem_of_getElem? hr)
      have hc' := cool_is hc i
      obtain ⟨x, p, rfl, hx, _⟩ := hc
      have e1 : L2.atI [D.str "row", .tup fs, .tup [x, .int p], g] 2 = some (.tup [x, .int p]) := rfl
      have e3 : L2.atI [x, D.int p] 0 = some x := rfl
      have e4 : L2.atI [x, D.int p] 1 = some (.int p) := rfl
      have e5 : coolerOf (.tup [.str "row", .tup fs, .tup [x, .int p], g]) = .tup [x, .int p] := rfl
      unfold pTurn cutC
      rw [e5]
      by_cases h : coolOf [.int i] (.tup [x, .int p]) < coolOf [] (.tup [x, .int p])
      · rw [decide_eq_true h] at hc'
        have h2 := (Bool.and_eq_true _ _ ▸ hc'.symm)
        have h3 : 0 < p := of_decide_eq_true h2.2
        simp [wipeE, setT, setTs, e1, e3, e4, eq_part hx (.int p), h2.1, h3, h]
      · rw [decide_eq_false h] at hc'
        cases hp : isP i (.tup [x, .int p]) with
        | false => simp [wipeE, setT, setTs, e1, e3, e4, eq_part hx (.int p), hp, h]
        | true =>
          rw [hp, Bool.true_and] at hc'
          have h3 : ¬ 0 < p := of_decide_eq_false hc'.symm
          simp [wipeE, setT, setTs, e1, e3, e4, eq_part hx (.int p), hp, h3, h]
    have e3 : pE (T.pat kd k) (.comp false [4, 10] (.t [(.n 4), (.n 10)]) .enum [(.v 1)] [(.cmp .isIn (.v 2) (.ix (.v 10) (.c (.int (5)))))] (.v 4)) [some (.tup rs), some (.tup ks), some (.int i), some (.lst (idxFil (cutP (.int i)) 0 rs)), a, b, c, none, none, some (.tup (idxFil (cutC (.int i)) 0 rs)), none] = .ret (.lst (idxFil (cutK (.int i)) 0 ks)) := by
      refine e_compE (d := .tup ks) (cutK (.int i)) (by simp) rfl (by omega) fun m x hx => ?_
      obtain ⟨w, a, b, c, e, g, hs, rfl, h1, h2⟩ := (H.hs x (List.mem_of_getElem? hx)).ex
      have e5 : L2.atI [w, a, b, c, e, D.tup hs, g] 5 = some (.tup hs) := by
        rw [atI_lt (by omega) (by simp)]
        rfl
      unfold pTurn cutK
      cases hh : hit hs (.int i) <;> simp [wipeE, setT, setTs, e5, cmp_in (x := .int i) rfl h2, hh, hsOf]
    refine ss_asg (d := .tup (idxFil (cutC (.int i)) 0 rs)) (by simp [e2, pr_tuple_lst]) ?_
    refine ss_ret ?_
    simp [e3, pr_tuple_lst, small_3, cutV]
end L15
namespace L15
open PySem Ev
/-- an OUT of parts -/
structure OutI (ps out : List D) : Prop where
  sub : out.Sublist (numsI 0 ps.length)
theorem nums_nodup (a : Int) (n : Nat) : (numsI a n).Nodup := by
  refine (nums_lt a n).imp ?_
  rintro x y ⟨i, j, rfl, rfl, h⟩ e
  cases e
  omega
theorem OutI.ints {ps out : List D} (h : OutI ps out) : Ints out := ⟨fun d hd => by
  obtain ⟨i, rfl, _⟩ := nums_mem (h.sub.subset hd)
  exact ⟨i, rfl⟩, (nums_nodup 0 _).sublist h.sub⟩
theorem OutI.mem {ps out : List D} (h : OutI ps out) {d : D} (hd : d ∈ out) : ∃ q : Nat, d = .int q ∧ q < ps.length := by
  obtain ⟨i, rfl, h0, h1⟩ := nums_mem (h.sub.subset hd)
  exact ⟨i.toNat, by rw [Int.toNat_of_nonneg h0], by omega⟩
theorem OutI.rout {ps out : List D} (h : OutI ps out) (hp : ps.length ≤ 1000) : ROut ps out := out_ok hp h.sub
def cutsL (n : Nat) (rs ks : List D) : List D := (numsI 0 n).map fun p => cutV p rs ks
theorem cuts_at {n q : Nat} {rs ks : List D} (h : q < n) : L2.atI (cutsL n rs ks) (q : Int) = some (cutV (.int q) rs ks) := by
  refine atI_nat ?_
  unfold cutsL
  rw [List.getElem?_map, nums_at, if_pos h, Int.zero_add]
  rfl
theorem cut3_0 {a b c : D} : L2.atI [a, b, c] 0 = some a := rfl
theorem cut3_1 {a b c : D} : L2.atI [a, b, c] 1 = some b := rfl
theorem cut3_2 {a b c : D} : L2.atI [a, b, c] 2 = some c := rfl
variable (k : Nat) {ps rs ks : List D} (H : DHall ps rs ks)
include H
theorem off_is {out : List D} (O : OutI ps out) {n : Nat} {c : D} (hc : IsFeed n 0 c) : (if (out.any fun p => decide (coolOf [p] c < coolOf [] c)) = true then 0 else coolOf [] c) = coolOf out c := by
  obtain ⟨x, p, rfl, hx, p0, _⟩ := hc
  have key := c1_cuts (x := x) (v := p) (by
    rcases hx with rfl | ⟨j, rfl, _⟩
    · exact .inl rfl
    · exact .inr ⟨_, rfl⟩) O.ints
  have e0 : coolOf [] (.tup [x, .int p]) = p := by
    show (if (isNon x || !hit [] x) = true then p else 0) = p
    have : hit [] x = false := rfl
    rw [this]
    simp
  have e1 : coolOf out (.tup [x, .int p]) = p ∨ coolOf out (.tup [x, .int p]) = 0 := by
    unfold coolOf
    split
    · exact .inl rfl
    · exact .inr rfl
  have e2 : ∀ q, coolOf [q] (.tup [x, .int p]) = p ∨ coolOf [q] (.tup [x, .int p]) = 0 := fun q => by
    unfold coolOf
    split
    · exact .inl rfl
    · exact .inr rfl
  have e3 : ∀ o, c1 o (.tup [x, .int p]) = coolOf o (.tup [x, .int p]) := fun _ => rfl
  simp only [e3, e0] at key
  cases ha : out.any fun q => decide (coolOf [q] (.tup [x, .int p]) < coolOf [] (.tup [x, .int p])) with
  | false =>
    rw [if_neg (by decide), e0]
    rw [List.any_eq_false] at ha
    have := sum_0 (f := fun q => p - coolOf [q] (.tup [x, .int p])) (xs := out) fun q hq => by
      have := ha q hq
      rw [e0, decide_eq_true_eq] at this
      rcases e2 q with e | e <;> omega
    omega
  | true =>
    rw [if_pos rfl]
    obtain ⟨q, hq, h⟩ := List.any_eq_true.mp ha
    rw [e0, decide_eq_true_eq] at h
    have := sum_ge (f := fun q => p - coolOf [q] (.tup [x, .int p])) (xs := out) (fun q hq => by rcases e2 q with e | e <;> omega) hq
    rcases e1 with e | e
    · rcases e2 q with e' | e' <;> omega
    · exact e.symm
theorem lost_nn {n : Nat} {r p : D} (hr : IsRow n r) {q : Nat} (hp : p = .int q) : 0 ≤ lostOf p r := by
  obtain ⟨fs, cl, g, rfl, f1, f2, f3, hc, hg⟩ := hr
  subst hp
  have : lostOf (.int q) (.tup [.str "row", .tup fs, cl, g]) = ((fs.filter (isP q)).map val1).sum := lost_is q f3
  rw [this]
  exact (lost_pos fun f hf => f3 f (List.mem_filter.mp hf).1).1
theorem c_out {out : List D} (O : OutI ps out) : pCall (T.pat kd (k + 10)) "_law_out_right" [] [.tup ps, .tup rs, .tup ks, .lst (cutsL ps.length rs ks), .tup out] = .ret (.bl true) := by
  have s0 : small 0 = true := by decide +kernel
  have pl := H.p1
  have rl := H.r2
  have kl := H.k2
  have ol : out.length ≤ 1000 := (O.rout (by omega)).lo
  have R := H.right
  have R0 : ROut ps [] := OutI.rout ⟨List.nil_sublist _⟩ (by omega)
  have RO := O.rout (by omega)
  refine has_out.ret [some (.tup ps), some (.tup rs), some (.tup ks), some (.lst (cutsL ps.length rs ks)), some (.tup out), none, none, none, none, none, none, none] rfl rfl ?_
  refine ss_forN (numsI 0 rs.length) (fun j env => ∃ a b c, env = [some (.tup ps), some (.tup rs), some (.tup ks), some (.lst (cutsL ps.length rs ks)), some (.tup out), a, b, none, none, none, c, none]) (ds := [.int rs.length]) (by simp) (it_rng1 (by omega)) (by rw [nums_len]; omega) ⟨none, none, none, rfl⟩ ?_ ?_
  · rintro j d env hd ⟨a, b, c, rfl⟩
    obtain ⟨rfl, hj⟩ := nums0_is hd
    obtain ⟨r, hr⟩ : ∃ r, rs[j]? = some r := ⟨_, List.getElem?_eq_getElem hj⟩
    have ir := H.r3 r (List.mem_of_getElem? hr)
    have at_ := atI_nat hr
    obtain ⟨fs, cl, g, e, f1, f2, f3, hc, hg⟩ := ir
    have lo : ∀ p, lostOf p r = powOf [] fs - powOf [p] fs := fun p => by rw [e]; rfl
    have in_ : ∀ q : Nat, q < ps.length → pE (T.pat kd (k + 9)) (.pr false .sum [(.comp false [7, 8] (.t [(.n 7), (.n 8)]) .seq [(.ix (.ix (.v 3) (.v 9)) (.c (.int (0))))] [(.cmp .eq (.v 7) (.v 5))] (.v 8))]) [some (.tup ps), some (.tup rs), some (.tup ks), some (.lst (cutsL ps.length rs ks)), some (.tup out), some (.int j), b, none, none, some (.int q), c, none] = .ret (.int (lostOf (.int q) r)) := by
      intro q hq
      have c1 := e_compF (C := T.pat kd (k + 9)) (env := [some (.tup ps), some (.tup rs), some (.tup ks), some (.lst (cutsL ps.length rs ks)), some (.tup out), some (.int j), b, none, none, some (.int q), c, none]) (src := [(.ix (.ix (.v 3) (.v 9)) (.c (.int (0))))]) (ifs := [(.cmp .eq (.v 7) (.v 5))]) (own := [7, 8]) (al := false) (ik := .seq) (tn := .t [(.n 7), (.n 8)]) (elt := .v 8) (xs := idxFil (cutP (.int q)) 0 rs) (ds := [.tup (idxFil (cutP (.int q)) 0 rs)]) (atI j) (fun d => .int (val1 d)) (by simp [cuts_at hq, cutV, cut3_0]) rfl (by have := idxFil_len (f := cutP (.int q)) (xs := rs) (i := 0); omega) (fun d hd => by
        obtain ⟨i, x, _, h⟩ := idxFil_mem.mp hd
        obtain ⟨l, rfl⟩ := cutP_key (j := j) _ _ _ h
        unfold pTurn
        by_cases h : i = j
        · subst h; simp [wipeE, setT, setTs, atI, val1]
        · simp [wipeE, setT, setTs, atI, val1, h])
      have sm : Tr.of (prD false .sum [.lst (((idxFil (cutP (.int q)) 0 rs).filter (atI j)).map fun d => .int (val1 d))] []) = .ret (.int (lostOf (.int q) r)) := by
        show Tr.of ((opt (intsD (((idxFil (cutP (.int q)) 0 rs).filter (atI j)).map fun d => .int (val1 d))) []).bnd _) = _
        rw [ints_map, ← cutP_at hr (lost_nn H (H.r3 r (List.mem_of_getElem? hr)) rfl)]
        rfl
      simp [c1, sm]
    have c2 : pE (T.pat kd (k + 9)) (.comp false [9] (.n 9) .seq [(.v 4)] [] (.pr false .sum [(.comp false [7, 8] (.t [(.n 7), (.n 8)]) .seq [(.ix (.ix (.v 3) (.v 9)) (.c (.int (0))))] [(.cmp .eq (.v 7) (.v 5))] (.v 8))])) [some (.tup ps), some (.tup rs), some (.tup ks), some (.lst (cutsL ps.length rs ks)), some (.tup out), some (.int j), b, none, none, none, c, none] = .ret (.lst (out.map fun p => .int (lostOf p r))) := by
      refine e_comp (xs := out) (ds := [.tup out]) (fun p => .int (lostOf p r)) (by simp) rfl (by omega) fun d hd => ?_
      obtain ⟨q, rfl, hq⟩ := O.mem hd
      exact in_ q hq
    have sm : Tr.of (prD false .sum [.lst (out.map fun p => .int (lostOf p r))] []) = .ret (.int (powOf [] fs - powOf out fs)) := by
      show Tr.of ((opt (intsD (out.map fun p => .int (lostOf p r))) []).bnd _) = _
      rw [ints_map]
      have := lost_sum (fs := fs) (fun f hf => by
        obtain ⟨x, p, rfl, hx, _⟩ := f3 f hf
        refine ⟨x, p, rfl, ?_⟩
        rcases hx with rfl | ⟨i, rfl, _⟩
        · exact .inl rfl
        · exact .inr ⟨_, rfl⟩) O.ints
      rw [← this]
      have : (fun p => lostOf p r) = fun p => powOf [] fs - powOf [p] fs := funext lo
      rw [this]
      rfl
    have wi : within (.int j) 0 ((rs.length : Int) - 1) = true := within_of (by omega) (by omega)
    have at2 := at_
    rw [e] at at2
    have ff : ∀ f ∈ fs, IsHang f := fun f hf => isFeed_hang (f3 f hf)
    have p1 := c_row_power (k + 1) cut.toDor R.toRRow RO wi at2 (by omega) ff
    have p2 := c_row_power (k + 1) cut.toDor R.toRRow R0 wi at2 (by omega) ff
    have p3 := c_row_cool (k + 1) cut.toDor R.toRRow RO wi at2 (isFeed_hang hc)
    have p4 := c_row_cool (k + 1) cut.toDor R.toRRow R0 wi at2 (isFeed_hang hc)
    have c3 : pE (T.pat kd (k + 9)) (.comp false [9] (.n 9) .seq [(.v 4)] [] (.cmp .isIn (.v 5) (.ix (.ix (.v 3) (.v 9)) (.c (.int (1)))))) [some (.tup ps), some (.tup rs), some (.tup ks), some (.lst (cutsL ps.length rs ks)), some (.tup out), some (.int j), some (.int (powOf [] fs - powOf out fs)), none, none, none, c, none] = .ret (.lst (out.map fun p => .bl (decide (coolOf [p] cl < coolOf [] cl)))) := by
      refine e_comp (xs := out) (ds := [.tup out]) (fun p => .bl (decide (coolOf [p] cl < coolOf [] cl))) (by simp) rfl (by omega) fun d hd => ?_
      obtain ⟨q, rfl, hq⟩ := O.mem hd
      have h1 := hit_idx (g := cutC (.int q)) cutC_key hr
      have h2 : (cutC (.int q) j r).isSome = decide (coolOf [.int q] cl < coolOf [] cl) := by
        unfold cutC
        rw [e]
        show Option.isSome (if coolOf [.int q] cl < coolOf [] cl then _ else _) = _
        by_cases h : coolOf [.int q] cl < coolOf [] cl
        · rw [if_pos h, decide_eq_true h]; rfl
        · rw [if_neg h, decide_eq_false h]; rfl
      have h3 := cmp_in (x := .int j) (out := idxFil (cutC (.int q)) 0 rs) rfl (flat_ints fun d hd => by
        obtain ⟨i, x, _, h⟩ := idxFil_mem.mp hd
        exact ⟨_, cutC_key _ _ _ h⟩)
      simp [wipeE, cuts_at hq, cutV, cut3_1, h3, h1, h2]
    have an : Tr.of (prD false .any [.lst (out.map fun p => .bl (decide (coolOf [p] cl < coolOf [] cl)))] []) = .ret (.bl (out.any fun p => decide (coolOf [p] cl < coolOf [] cl))) := any_p _
    refine ⟨_, ?_, some (.int j), some (.int (powOf [] fs - powOf out fs)), some (.bl (out.any fun p => decide (coolOf [p] cl < coolOf [] cl))), rfl⟩
    refine ss_asg (d := .int (powOf [] fs - powOf out fs)) (by simp [c2, sm]) ?_
    refine ss_no (by simp [s0, p1, p2]; omega) ?_
    refine ss_asg (d := .bl (out.any fun p => decide (coolOf [p] cl < coolOf [] cl))) (by simp [-pr_any, c3, an]) ?_
    have of := off_is H O hc
    refine ss_no ?_ ss_nil
    cases ha : out.any fun p => decide (coolOf [p] cl < coolOf [] cl) with
    | true =>
      rw [ha, if_pos rfl] at of
      simp [s0, p3, ← of]
    | false =>
      rw [ha, if_neg (by decide)] at of
      simp [s0, p3, p4, ← of]
  · rintro env ⟨a, b, c, rfl⟩
    refine ss_forN (numsI 0 ks.length) (fun j env => ∃ x, env = [some (.tup ps), some (.tup rs), some (.tup ks), some (.lst (cutsL ps.length rs ks)), some (.tup out), a, b, none, none, none, c, x]) (ds := [.int ks.length]) (by simp) (it_rng1 (by omega)) (by rw [nums_len]; omega) ⟨none, rfl⟩ ?_ ?_
    · rintro j d env hd ⟨x, rfl⟩
      obtain ⟨rfl, hj⟩ := nums0_is hd
      obtain ⟨r, hr⟩ : ∃ r, ks[j]? = some r := ⟨_, List.getElem?_eq_getElem hj⟩
      have wi : within (.int j) 0 ((ks.length : Int) - 1) = true := within_of (by omega) (by omega)
      have hm : L2.atI (ks.map fun d => D.bl (dark1 out d)) (j : Int) = some (.bl (dark1 out r)) := atI_nat (by rw [List.getElem?_map, hr]; rfl)
      have p1 := c_is_dark k cut.toDor R RO wi hm (by omega) H.hs
      have c3 : pE (T.pat kd (k + 9)) (.comp false [9] (.n 9) .seq [(.v 4)] [] (.cmp .isIn (.v 11) (.ix (.ix (.v 3) (.v 9)) (.c (.int (2)))))) [some (.tup ps), some (.tup rs), some (.tup ks), some (.lst (cutsL ps.length rs ks)), some (.tup out), a, b, none, none, none, c, some (.int j)] = .ret (.lst (out.map fun p => .bl (hit (hsOf r) p))) := by
        refine e_comp (xs := out) (ds := [.tup out]) (fun p => .bl (hit (hsOf r) p)) (by simp) rfl (by omega) fun d hd => ?_
        obtain ⟨q, rfl, hq⟩ := O.mem hd
        have h1 := hit_idx (g := cutK (.int q)) cutK_key hr
        have h2 : (cutK (.int q) j r).isSome = hit (hsOf r) (.int q) := by
          unfold cutK
          cases hit (hsOf r) (.int q) <;> rfl
        have h3 := cmp_in (x := .int j) (out := idxFil (cutK (.int q)) 0 ks) rfl (flat_ints fun d hd => by
          obtain ⟨i, x, _, h⟩ := idxFil_mem.mp hd
          exact ⟨_, cutK_key _ _ _ h⟩)
        simp [wipeE, cuts_at hq, cutV, cut3_2, h3, h1, h2]
      have an : Tr.of (prD false .any [.lst (out.map fun p => .bl (hit (hsOf r) p))] []) = .ret (.bl (out.any fun p => hit (hsOf r) p)) := any_p _
      have da : (out.any fun p => hit (hsOf r) p) = dark1 out r := by
        obtain ⟨a, b, c, e, g, hs, rfl, _, _, _, _, hh, _⟩ := H.k3 r (List.mem_of_getElem? hr)
        show out.any (hit hs) = hs.any (hit out)
        have hi : ∀ d ∈ hs, ∃ i : Int, d = .int i := fun d hd => by
          obtain ⟨i, rfl, _⟩ := nums_mem (hh.subset hd)
          exact ⟨i, rfl⟩
        rw [Bool.eq_iff_iff, List.any_eq_true, List.any_eq_true]
        constructor
        · rintro ⟨d, hd, h⟩
          obtain ⟨i, rfl⟩ := O.ints.int d hd
          exact ⟨_, (hit_int hi i).mp h, (hit_int O.ints.int i).mpr hd⟩
        · rintro ⟨d, hd, h⟩
          obtain ⟨i, rfl⟩ := hi d hd
          exact ⟨_, (hit_int O.ints.int i).mp h, (hit_int hi i).mpr hd⟩
      refine ⟨_, ss_no ?_ ss_nil, some (.int j), rfl⟩
      obtain ⟨x, hx⟩ := (ok_bl (dark1 out r)).repr (by omega) (by omega)
      simp [s0, p1, c3, -pr_any, an, da, hx, cmp_ne_self]
    · rintro env ⟨x, rfl⟩
      exact ss_ret rfl
end L15
namespace L15
open PySem Ev
theorem pick (k n : Nat) (xs : List D) {Q : D → Prop} {X : Str → D → Prop} (h0 : xs ≠ []) (h1 : xs.length < 1000000) (h : ∀ d ∈ xs, Q d) : (pCall (T.pat kd (k + 2)) "_law_pick" [] [.loc n, .lst xs]).wp Q X := w_pick lrk.pick lrk.draw lk__law_draw rfl k n xs h0 h1 h
theorem known : pCall (T.pat kd 14) "_law_known_right" [] [] = .ret (.bl true) := by kernel_rfl
theorem cut_repr {ps rs ks : List D} (H : DHall ps rs ks) (i : Int) : ∃ x, reprD [] (cutV (.int i) rs ks) = some (.str x) := by
  have rl := H.r2
  have kl := H.k2
  have a1 := idxFil_len (f := cutP (.int i)) (xs := rs) (i := 0)
  have a2 := idxFil_len (f := cutC (.int i)) (xs := rs) (i := 0)
  have a3 := idxFil_len (f := cutK (.int i)) (xs := ks) (i := 0)
  have b1 : Okv 2 2000 (.tup (idxFil (cutP (.int i)) 0 rs)) := (ok_tup (k := 1) (w := 413) (n := 3) (fun d hd => by
    obtain ⟨j, r, hr, h⟩ := idxFil_mem.mp hd
    rw [Nat.zero_add] at h
    have hj := (List.getElem?_eq_some_iff.mp hr).1
    have ir := H.r3 r (List.mem_of_getElem? hr)
    have nn := lost_nn H ir (p := .int i.toNat) rfl
    have bd : -(2 ^ 200) < lostOf (.int i) r ∧ lostOf (.int i) r < 2 ^ 200 := by
      obtain ⟨fs, cl, g, rfl, f1, f2, f3, hc, hg⟩ := ir
      have e : lostOf (.int i) (.tup [.str "row", .tup fs, cl, g]) = ((fs.filter (isP i)).map val1).sum := lost_is i f3
      have p := lost_pos (fs := fs.filter (isP i)) fun f hf => f3 f (List.mem_filter.mp hf).1
      have q := val_bound (fs := fs.filter (isP i)) fun f hf => f3 f (List.mem_filter.mp hf).1
      have := List.length_filter_le (isP i) fs
      rw [e]
      omega
    unfold cutP at h
    split at h <;> cases h
    exact (ok_tup (all_cons (ok_int (by omega)) (all_cons (ok_int bd) all_nil)) (n := 2) (by simp)).mono (by omega) (by omega)) (by omega)).mono (by omega) (by omega)
  have b2 : Okv 2 2000 (.tup (idxFil (cutC (.int i)) 0 rs)) := (ok_ints (n := 3) (fun d hd => by
    obtain ⟨j, r, hr, h⟩ := idxFil_mem.mp hd
    have hj := (List.getElem?_eq_some_iff.mp hr).1
    exact ⟨_, cutC_key _ _ _ h, by omega, by omega⟩) (by omega)).mono (by omega) (by omega)
  have b3 : Okv 2 2000 (.tup (idxFil (cutK (.int i)) 0 ks)) := (ok_ints (n := 5) (fun d hd => by
    obtain ⟨j, r, hr, h⟩ := idxFil_mem.mp hd
    have hj := (List.getElem?_eq_some_iff.mp hr).1
    exact ⟨_, cutK_key _ _ _ h, by omega, by omega⟩) (by omega)).mono (by omega) (by omega)
  exact (ok_tup (all_cons b1 (all_cons b2 (all_cons b3 all_nil))) (n := 3) (by simp)).repr (by omega) (by omega)
theorem w_step (n : Nat) {ps rs ks : List D} (H : DHall ps rs ks) {j : Nat} (hj : j < ps.length) {sh : Str} {a b : Option D} : pSs (T.pat kd 14) [(.asg (.n 7) (.call "cut_off" [] [(.v 1), (.v 2), (.v 3), (.v 6)])), (.iff (.or (.not (.isi (.v 7) .tuple)) (.not (.pr false .all [(.comp false [8] (.n 8) .seq [(.v 7)] [] (.isi (.v 8) .tuple))]))) [(.ret (some (.c (.bl false))))] []), (.iff (.cmp .ne (.pr false .repr [(.v 7)]) (.pr false .repr [(.call "_law_due" [] [(.v 2), (.v 3), (.v 6)])])) [(.ret (some (.c (.bl false))))] []), (.ex (.app (.v 5) (.v 7)))] [some (.loc n), some (.tup ps), some (.tup rs), some (.tup ks), some (.str sh), some (.lst (cutsL j rs ks)), some (.int j), b, none, none, none, none] = .ret (.nx [some (.loc n), some (.tup ps), some (.tup rs), some (.tup ks), some (.str sh), some (.lst (cutsL (j + 1) rs ks)), some (.int j), some (cutV (.int j) rs ks), none, none, none, none]) := by
  have pl := H.p1
  have rl := H.r2
  have kl := H.k2
  have e1 := c_cut_off 5 cut (i := (j : Int)) H.right (by omega) (by omega) H.rowV H.hs (by omega) (by omega)
  have e2 := c_due 13 H (j : Int)
  obtain ⟨x, hx⟩ := cut_repr H (j : Int)
  have ty : isTy .tuple (cutV (.int j) rs ks) [] = some true := rfl
  have ju : pE (T.pat kd 14) (.comp false [8] (.n 8) .seq [.v 7] [] (.isi (.v 8) .tuple)) [some (.loc n), some (.tup ps), some (.tup rs), some (.tup ks), some (.str sh), some (.lst (cutsL j rs ks)), some (.int j), some (cutV (.int j) rs ks), none, none, none, none] = .ret (.lst [.bl true, .bl true, .bl true]) := by
    rw [e_comp (xs := [.tup (idxFil (cutP (.int j)) 0 rs), .tup (idxFil (cutC (.int j)) 0 rs), .tup (idxFil (cutK (.int j)) 0 ks)]) (ds := [cutV (.int j) rs ks]) (fun _ => .bl true) rfl rfl (by simp) (by
      intro d hd
      simp only [List.mem_cons, List.not_mem_nil, or_false] at hd
      rcases hd with rfl | rfl | rfl <;> rfl)]
    rfl
  have cl : (cutsL j rs ks).length = j := by unfold cutsL; rw [List.length_map, nums_len]
  have cn : cutsL j rs ks ++ [cutV (.int j) rs ks] = cutsL (j + 1) rs ks := by
    unfold cutsL
    have : numsI 0 (j + 1) = numsI 0 j ++ [.int j] := by
      unfold numsI
      rw [List.range_succ, List.map_append]
      simp
    rw [this, List.map_append]
    rfl
  have al : Tr.of (prD false .all [.lst [.bl true, .bl true, .bl true]] []) = .ret (.bl true) := rfl
  exact ss_asg (d := cutV (.int j) rs ks) (by simp [e1]) (ss_no (by simp [ty, ju, -pr_all, al]) (ss_no (by simp [hx, e2, cmp_ne_self]) (ss_app (xs := cutsL j rs ks) (d := cutV (.int j) rs ks) rfl (by simp) (by omega) (by rw [cn]; rfl))))
theorem w_tail (n : Nat) {ps rs ks : List D} (H : DHall ps rs ks) {sh : Str} (hsh : reprD [] (.lst [.tup ps, .tup rs, .tup ks]) = some (.str sh)) {a b : Option D} : (pSs (T.pat kd 14) (d__law_right.body.drop 5) [some (.loc n), some (.tup ps), some (.tup rs), some (.tup ks), some (.str sh), some (.lst (cutsL ps.length rs ks)), a, b, none, none, none, none]).wp (fun r => r.end_.wp (fun v => v = .bl true) noX) noX := by
  have s0 : small 0 = true := by decide +kernel
  have pl := H.p1
  rw [show d__law_right.body.drop 5 = [_, _, _] from rfl]
  rw [ws_cons, w_asg]
  have rg : pE (T.pat kd 14) (.pr false (.rg false) [.pr false .len [.v 1]]) [some (.loc n), some (.tup ps), some (.tup rs), some (.tup ks), some (.str sh), some (.lst (cutsL ps.length rs ks)), a, b, none, none, none, none] = .ret (.tup (numsI 0 ps.length)) := by
    have := pr_rg (al := false) (n := ps.length) (by omega)
    simp -implicitDefEqProofs [this]
  rw [p_bin, wp_bnd]
  rw [show pE (T.pat kd 14) (.lst false [(.tup []), (.pr false (.rg false) [(.pr false .len [(.v 1)])])]) _ = .ret (.lst [.tup [], .tup (numsI 0 ps.length)]) by simp [-p_pr, rg, s0, small_2], w_ret, wp_bnd]
  refine w_comp (xs := numsI 0 4) (fun v => ∃ out, v = .tup out ∧ OutI ps out) ?_ (by rw [nums_len]; omega) ?_ fun ys hl hy => ?_
  · simp only [p_cons, p_nil, p_ci, t_bnd, w_ret]
    exact it_rng1 (m := 4) (by omega)
  · intro d hd
    simp only [wipeE, List.set_cons_succ, List.set_cons_zero, p_call, p_cons, p_nil, p_v0, p_v1, t_bnd]
    exact w_law_out 12 n lrk.toLOut ps (by omega) fun out ho => ⟨out, rfl, ⟨ho⟩⟩
  · rw [nums_len] at hl
    have ad : binD false .add (.lst [.tup [], .tup (numsI 0 ps.length)]) (.lst ys) [] = .ok (.lst ([.tup [], .tup (numsI 0 ps.length)] ++ ys)) [] := by
      rw [add_lst_lst (small_t (by simp only [List.length_cons, List.length_nil]; omega))]
      rfl
    rw [ad, t_of, w_ret, thenW_nx, ws_cons]
    simp only [List.set_cons_succ, List.set_cons_zero]
    have oi : ∀ d ∈ [D.tup [], .tup (numsI 0 ps.length)] ++ ys, ∃ out, d = .tup out ∧ OutI ps out := all_app (all_cons ⟨[], rfl, ⟨List.nil_sublist _⟩⟩ (all_cons ⟨_, rfl, ⟨List.Sublist.refl _⟩⟩ all_nil)) hy
    generalize hos : [D.tup [], .tup (numsI 0 ps.length)] ++ ys = os at oi
    have ol : os.length = 6 := by rw [← hos, List.length_append, hl]; rfl
    have ju : pE (T.pat kd 14) (.comp false [11] (.n 11) .seq [(.v 9)] [] (.call "_law_out_right" [] [(.v 1), (.v 2), (.v 3), (.v 5), (.v 11)])) [some (.loc n), some (.tup ps), some (.tup rs), some (.tup ks), some (.str sh), some (.lst (cutsL ps.length rs ks)), a, b, none, some (.lst os), none, none] = .ret (.lst (os.map fun _ => .bl true)) := by
      refine e_comp (xs := os) (ds := [.lst os]) (fun _ => .bl true) (by simp) rfl (by omega) fun d hd => ?_
      obtain ⟨out, rfl, O⟩ := oi d hd
      simp [wipeE, c_out 4 H O]
    have al : Tr.of (prD false .all [.lst (os.map fun _ => D.bl true)] []) = .ret (.bl true) := by
      rw [all_p (f := fun _ => true)]
      simp
    rw [show pS (T.pat kd 14) _ _ = .ret (.nx [some (.loc n), some (.tup ps), some (.tup rs), some (.tup ks), some (.str sh), some (.lst (cutsL ps.length rs ks)), a, b, none, some (.lst os), none, none]) by
      rw [q_iff]
      simp [ju, -pr_all, al], w_ret, thenW_nx, ws_cons, w_ret_]
    rw [p_and, p_call, p_nil, t_bnd, known, t_bnd, tr_bl, t_ofO, t_bnd, if_pos rfl]
    have fin : ∀ (C : PCal) (e : Ev.Env), pE C (.cmp .eq (.pr false .repr [(.lst false [(.v 1), (.v 2), (.v 3)])]) (.v 4)) (some (.loc n) :: some (.tup ps) :: some (.tup rs) :: some (.tup ks) :: some (.str sh) :: e) = .ret (.bl true) := fun C e => by simp [small_3, hsh]
    rw [fin, w_ret, thenW_rt, end_rt', w_ret]
theorem w_right (n : Nat) : (pCall (T.pat kd 15) "_law_right" [] [.loc n]).wp (fun v => v = .bl true) noX := by
  refine has_right.wp [some (.loc n), none, none, none, none, none, none, none, none, none, none, none] rfl rfl ?_
  have dr := d_draw (T := T) 13 n lrk.toLDr
  have s0 : small 0 = true := by decide +kernel
  rw [show d__law_right.body = [_, _, _, _, _, _, _, _] from rfl, ws_cons, w_asg]
  simp only [p_call, p_cons, p_nil, p_v0, t_bnd, p_lst, p_ci, List.length_cons, List.length_nil, Nat.zero_add, Nat.reduceAdd, show small 5 = true by decide +kernel, if_true, wp_bnd]
  refine pick 12 n _ (by simp) (by simp) fun m hm => ?_
  obtain ⟨m, rfl, hm6⟩ : ∃ q : Nat, m = .int q ∧ q ≤ 6 := by
    simp only [List.mem_cons, List.not_mem_nil, or_false] at hm
    rcases hm with rfl | rfl | rfl | rfl | rfl
    · exact ⟨1, rfl, by omega⟩
    · exact ⟨2, rfl, by omega⟩
    · exact ⟨3, rfl, by omega⟩
    · exact ⟨4, rfl, by omega⟩
    · exact ⟨6, rfl, by omega⟩
  simp only [w_ret]
  refine w_law_parts 12 n lrk.toLPr m (by omega) fun ps hpl hp => ?_
  simp only [thenW_nx, List.set_cons_succ, List.set_cons_zero]
  rw [ws_cons, w_asg]
  simp only [p_call, p_cons, p_nil, p_v0, p_v1, p_ci, p_bin, t_bnd, dr, wp_bnd, w_ask, w_ret, bin_add_int, t_of]
  refine ⟨by omega, by omega, fun z z0 z1 => ?_⟩
  obtain ⟨q, rfl⟩ : ∃ q : Nat, z = q := ⟨z.toNat, by omega⟩
  have : (1 + (q : Int)) = ((q + 1 : Nat) : Int) := by omega
  rw [this]
  refine w_law_rows 11 n lrk.toLPr ps (by omega) hp (q + 1) (by omega) fun rs hrl hr => ?_
  simp only [thenW_nx, List.set_cons_succ, List.set_cons_zero]
  rw [ws_cons, w_asg]
  simp only [p_call, p_cons, p_nil, p_v0, p_v1, p_v2, p_ci, p_bin, t_bnd, dr, wp_bnd, w_ask, w_ret, bin_add_int, t_of]
  refine ⟨by omega, by omega, fun y y0 y1 => ?_⟩
  obtain ⟨q2, rfl⟩ : ∃ q : Nat, y = q := ⟨y.toNat, by omega⟩
  have : (1 + (q2 : Int)) = ((q2 + 1 : Nat) : Int) := by omega
  rw [this]
  refine w_law_racks 11 n lrk ps rs (by omega) (by omega) (by omega) (q2 + 1) (by omega) fun ks hkl hk hks => ?_
  have H : DHall ps rs ks := ⟨by omega, hp, by omega, by omega, hr, by omega, by omega, hk, hks⟩
  have pl := H.p1
  have kl := H.k2
  obtain ⟨sh, hsh⟩ := H.repr
  simp only [thenW_nx, List.set_cons_succ, List.set_cons_zero]
  rw [ws_cons, w_par]
  simp only [p_pr, p_cons, p_nil, p_lst, p_v1, p_v2, p_v3, t_bnd, List.length_cons, List.length_nil, Nat.zero_add, Nat.reduceAdd, small_3, s0, if_true, pr_repr, hsh, opt_some, t_of, w_ret, thenW_nx, List.set_cons_succ, List.set_cons_zero]
  rw [ws_cons]
  refine w_forN (xs := numsI 0 ps.length) (fun j env => ∃ a b, env = [some (.loc n), some (.tup ps), some (.tup rs), some (.tup ks), some (.str sh), some (.lst (cutsL j rs ks)), a, b, none, none, none, none]) ?_ (by rw [nums_len]; omega) ⟨none, none, rfl⟩ ?_ ?_
  · simp only [p_cons, p_nil, p_pr, p_v1, pr_len, len_tup, opt_some, bnd_oks, t_of, t_bnd, w_ret]
    exact it_rng1 (by omega)
  · rintro j d env hd ⟨a, b, rfl⟩
    obtain ⟨rfl, hj⟩ := nums0_is hd
    simp only [List.set_cons_succ, List.set_cons_zero]
    rw [w_step n H hj (a := a), w_ret]
    exact ⟨_, _, rfl⟩
  · rintro env ⟨a, b, rfl⟩
    rw [nums_len, thenW_nx]
    exact w_tail n H hsh
theorem runs (ns : List Int) (_ : ns.length ≤ 63) : ∃ st, (T.at 16).run "law" [.ro ns] [] = .ok (.bl true) st := by
  refine law_of txp (Tr.wp.h ?_)
  rw [← p_pos (ds := [.ro ns]) lk_law rfl]
  refine has_law.wp [some (.ro ns)] rfl rfl ?_
  have mk : pCall (T.pat kd 15) "_law_pot" [] [.ro ns, .int 0] = .pot fun n => .ret (.loc n) := by
    rw [p_pos lk__law_pot rfl]
    rfl
  rw [show d_law.body = [_] from rfl, ws_cons, w_ret_]
  simp only [p_call, p_cons, p_nil, p_v0, p_ci, t_bnd, mk, wp_bnd]
  rw [w_pot]
  intro n
  simp only [w_ret]
  refine wp_mono (w_right n) (fun v hv => ?_) fun _ _ z => z.elim
  subst hv
  simp only [thenW_rt, end_rt', w_ret]
end L15
open PySem PySem.W PyProof.Rows
set_option maxHeartbeats 0 in
theorem PySem.Challenge.cw_promisedhall_k15_whole_what_one_part_cut_holds : PySem.Challenge.rw_promisedhall_k15_whole_what_one_part_cut.Holds := by
  w_on; o_law; k_head; (case hw => w_witness2)
  k_fill
  refine Ev.walk_ev (l := PySem.Challenge.rw_promisedhall_k15_whole_what_one_part_cut) (n := 63) (k := 16) (y := "script") (consts := L15.consts) (pats := L15.pats) (T := L15.T) (by decide +kernel) rfl (by decide) rfl ⟨rfl, by decide, by decide⟩ (fun w h Y => PySem.W.kIn_of Y) ?F (by decide +kernel) rfl L15.runs
  case F =>
    intro w mg h Y KX G
    refine' L15.okT KX G ?r0 ?r1 ?r2 ?r3 ?r4 ?r5 ?r6 ?r7 ?r8 ?r9 ?r10 ?r11 ?r12 ?r13 ?r14 ?r15 ?r16 ?r17 ?r18 ?r19 ?r20 ?r21 ?r22 ?r23 ?r24 ?r25 ?r26 ?r27 ?r28 ?r29 ?r30 ?r31 ?r32 ?r33 ?r34 ?r35 ?r36 ?r37 ?r38 ?z0 ?z1 ?z2 ?z3 ?z4 ?z5 ?z6 ?z7 ?z8 ?z9 ?z10 ?z11 ?z12 ?z13 ?z14 ?z15 ?z16 ?z17 ?z18 ?z19 ?z20 ?z21 ?z22 ?c0 ?c1 ?c2
    case r0 =>
      refine' Ev.raw_mk ?a ?l ?c ?k
      (case a => k_is); (case l => k_is); (case c => k_is); (case k => k_is)
    case r1 =>
      refine' Ev.raw_mk ?a ?l ?c ?k
      (case a => k_is); (case l => k_is); (case c => k_is); (case k => k_is)
    case r2 =>
      refine' Ev.raw_mk ?a ?l ?c ?k
      (case a => k_is); (case l => k_is); (case c => k_is); (case k => k_is)
    case r3 =>
      refine' Ev.raw_mk ?a ?l ?c ?k
      (case a => k_is); (case l => k_is); (case c => k_is); (case k => k_is)
    case r4 =>
      refine' Ev.raw_mk ?a ?l ?c ?k
      (case a => k_is); (case l => k_is); (case c => k_is); (case k => k_is)
    case r5 =>
      refine' Ev.raw_mk ?a ?l ?c ?k
      (case a => k_is); (case l => k_is); (case c => k_is); (case k => k_is)
    case r6 =>
      refine' Ev.raw_mk ?a ?l ?c ?k
      (case a => k_is); (case l => k_is); (case c => k_is); (case k => k_is)
    case r7 =>
      refine' Ev.raw_mk ?a ?l ?c ?k
      (case a => k_is); (case l => k_is); (case c => k_is); (case k => k_is)
    case r8 =>
      refine' Ev.raw_mk ?a ?l ?c ?k
      (case a => k_is); (case l => k_is); (case c => k_is); (case k => k_is)
    case r9 =>
      refine' Ev.raw_mk ?a ?l ?c ?k
      (case a => k_is); (case l => k_is); (case c => k_is); (case k => k_is)
    case r10 =>
      refine' Ev.raw_mk ?a ?l ?c ?k
      (case a => k_is); (case l => k_is); (case c => k_is); (case k => k_is)
    case r11 =>
      refine' Ev.raw_mk ?a ?l ?c ?k
      (case a => k_is); (case l => k_is); (case c => k_is); (case k => k_is)
    case r12 =>
      refine' Ev.raw_mk ?a ?l ?c ?k
      (case a => k_is); (case l => k_is); (case c => k_is); (case k => k_is)
    case r13 =>
      refine' Ev.raw_mk ?a ?l ?c ?k
      (case a => k_is); (case l => k_is); (case c => k_is); (case k => k_is)
    case r14 =>
      refine' Ev.raw_mk ?a ?l ?c ?k
      (case a => k_is); (case l => k_is); (case c => k_is); (case k => k_is)
    case r15 =>
      refine' Ev.raw_mk ?a ?l ?c ?k
      (case a => k_is); (case l => k_is); (case c => k_is); (case k => k_is)
    case r16 =>
      refine' Ev.raw_mk ?a ?l ?c ?k
      (case a => k_is); (case l => k_is); (case c => k_is); (case k => k_is)
    case r17 =>
      refine' Ev.raw_mk ?a ?l ?c ?k
      (case a => k_is); (case l => k_is); (case c => k_is); (case k => k_is)
    case r18 =>
      refine' Ev.raw_mk ?a ?l ?c ?k
      (case a => k_is); (case l => k_is); (case c => k_is); (case k => k_is)
    case r19 =>
      refine' Ev.raw_mk ?a ?l ?c ?k
      (case a => k_is); (case l => k_is); (case c => k_is); (case k => k_is)
    case r20 =>
      refine' Ev.raw_mk ?a ?l ?c ?k
      (case a => k_is); (case l => k_is); (case c => k_is); (case k => k_is)
    case r21 =>
      refine' Ev.raw_mk ?a ?l ?c ?k
      (case a => k_is); (case l => k_is); (case c => k_is); (case k => k_is)
    case r22 =>
      refine' Ev.raw_mk ?a ?l ?c ?k
      (case a => k_is); (case l => k_is); (case c => k_is); (case k => k_is)
    case r23 =>
      refine' Ev.raw_mk ?a ?l ?c ?k
      (case a => k_is); (case l => k_is); (case c => k_is); (case k => k_is)
    case r24 =>
      refine' Ev.raw_mk ?a ?l ?c ?k
      (case a => k_is); (case l => k_is); (case c => k_is); (case k => k_is)
    case r25 =>
      refine' Ev.raw_mk ?a ?l ?c ?k
      (case a => k_is); (case l => k_is); (case c => k_is); (case k => k_is)
    case r26 =>
      refine' Ev.raw_mk ?a ?l ?c ?k
      (case a => k_is); (case l => k_is); (case c => k_is); (case k => k_is)
    case r27 =>
      refine' Ev.raw_mk ?a ?l ?c ?k
      (case a => k_is); (case l => k_is); (case c => k_is); (case k => k_is)
    case r28 =>
      refine' Ev.raw_mk ?a ?l ?c ?k
      (case a => k_is); (case l => k_is); (case c => k_is); (case k => k_is)
    case r29 =>
      refine' Ev.raw_mk ?a ?l ?c ?k
      (case a => k_is); (case l => k_is); (case c => k_is); (case k => k_is)
    case r30 =>
      refine' Ev.raw_mk ?a ?l ?c ?k
      (case a => k_is); (case l => k_is); (case c => k_is); (case k => k_is)
    case r31 =>
      refine' Ev.raw_mk ?a ?l ?c ?k
      (case a => k_is); (case l => k_is); (case c => k_is); (case k => k_is)
    case r32 =>
      refine' Ev.raw_mk ?a ?l ?c ?k
      (case a => k_is); (case l => k_is); (case c => k_is); (case k => k_is)
    case r33 =>
      refine' Ev.raw_mk ?a ?l ?c ?k
      (case a => k_is); (case l => k_is); (case c => k_is); (case k => k_is)
    case r34 =>
      refine' Ev.raw_mk ?a ?l ?c ?k
      (case a => k_is); (case l => k_is); (case c => k_is); (case k => k_is)
    case r35 =>
      refine' Ev.raw_mk ?a ?l ?c ?k
      (case a => k_is); (case l => k_is); (case c => k_is); (case k => k_is)
    case r36 =>
      refine' Ev.raw_mk ?a ?l ?c ?k
      (case a => k_is); (case l => k_is); (case c => k_is); (case k => k_is)
    case r37 =>
      refine' Ev.raw_mk ?a ?l ?c ?k
      (case a => k_is); (case l => k_is); (case c => k_is); (case k => k_is)
    case r38 =>
      refine' Ev.raw_mk ?a ?l ?c ?k
      (case a => k_is); (case l => k_is); (case c => k_is); (case k => k_is)
    (case z0 => k_is)
    (case z1 => k_is)
    (case z2 => k_is)
    (case z3 => k_is)
    (case z4 => k_is)
    (case z5 => k_is)
    (case z6 => k_is)
    (case z7 => k_is)
    (case z8 => k_is)
    (case z9 => k_is)
    (case z10 => k_is)
    (case z11 => k_is)
    (case z12 => k_is)
    (case z13 => k_is)
    (case z14 => k_is)
    (case z15 => k_is)
    (case z16 => k_is)
    (case z17 => k_is)
    (case z18 => k_is)
    (case z19 => k_is)
    (case z20 => k_is)
    (case z21 => k_is)
    (case z22 => k_is)
    (case c0 => k_is)
    (case c1 => k_is)
    (case c2 => k_is)
