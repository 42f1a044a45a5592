import PyProof.Rows.All
import PySem.PyData
import Wide.All
import OpenK.AllK
import Wide.FinOn
import HandS.ForMost
import HandS.ForExc
import HandS.IsInst
import HandS.Wide
import HandS.Star
import HandS.TupAny
import HandS.SortInts
import HandS.Style
import HandS.CallSlots
import HandS.ExcInit
import HandS.Strs
import HandS.More
import HandS.Set
import PyProof.Rows.SortShellAny
import KE.KExcSuper
import HandS.ExcField
import PyProof.Rows.SetFrom
import KE.GoesEnum
import HandS.Iter
import HandS.Deep
import HandS.Zip
import HandS.Conv
import HandS.Dict
import HandS.DictComp
import KE.SortData
import KE.DataMinMax
import PyProof.Rows.Range3
import PyProof.FactsAll.range_1
import PySem.Challenge.RW_bodyforbody_k26_whole_counted_rows
set_option Elab.async false
set_option linter.all false
/-! FyCore: data, environments and what Python's constructs ask of data (no heap, no program). -/
namespace Fy
open PySem (Str)

abbrev cap : Nat := 16777216

/-! ### data -/
inductive D where
  | non | bl (b : Bool) | int (i : Int) | str (x : Str)
  | lst (l : List D) | tup (l : List D)
  | set (l : List Int)
  | dct (ks : List (Sum Int Str)) (vs : List D)
  | rep (d : D)
  | exc (tag : Nat) (d : D)
  | scr (ns : List Int)
  | deal
structure S where
  cells : List Int
  blend : Int

/-! Python's == over plain data -/
mutual
def D.eqv : D → D → Bool
  | .non, .non => true
  | .bl a, .bl b => a == b
  | .bl a, .int j => (if a then 1 else 0) == j
  | .int i, .bl b => i == (if b then 1 else 0)
  | .int i, .int j => i == j
  | .str x, .str y => x == y
  | .lst a, .lst b => eqvL a b
  | .tup a, .tup b => eqvL a b
  | _, _ => false
def eqvL : List D → List D → Bool
  | [], [] => true
  | x :: xs, y :: ys => x.eqv y && eqvL xs ys
  | _, _ => false
end
/-- plain data, at most so deep -/
def okN : Nat → D → Bool
  | _, .non => true
  | _, .bl _ => true
  | _, .int _ => true
  | _, .str x => x.cps.all (· < 0x110000)
  | n + 1, .lst l => l.all (okN n)
  | n + 1, .tup l => l.all (okN n)
  | _, _ => false
abbrev ok (d : D) : Bool := okN 60 d

/-! ### transformers -/
abbrev Env := List (Option D)
def look : Env → Nat → Option D
  | [], _ => none
  | x :: _, 0 => x
  | _ :: r, n + 1 => look r n
abbrev KD := D → S → Prop
abbrev XC := Nat → D → S → Prop
abbrev FTE := Env → S → KD → XC → Prop
abbrev FTC := Env → S → (Bool → S → Prop) → XC → Prop
abbrev FTA := Env → S → (List D → S → Prop) → XC → Prop
abbrev FSp := List D → S → KD → XC → Prop
abbrev Op1 := D → (D → Prop) → Prop
abbrev Op2 := D → D → (D → Prop) → Prop

def fVar (i : Nat) : FTE := fun env st Q _ => match look env i with
  | some d => Q d st
  | none => False
def fC (d : D) : FTE := fun _ st Q _ => Q d st
def fOp (op : Op2) (a b : FTE) : FTE := fun env st Q X => a env st (fun x s1 => b env s1 (fun y s2 => op x y (fun r => Q r s2)) X) X
def fUn (op : Op1) (a : FTE) : FTE := fun env st Q X => a env st (fun x s1 => op x (fun r => Q r s1)) X
def isB (Q : Bool → Prop) : D → Prop
  | .bl b => Q b
  | _ => False
def fTst (a : FTE) : FTC := fun env st Q X => a env st (fun x s1 => isB (fun b => Q b s1) x) X
def fAnd (a b : FTC) : FTC := fun env st Q X => a env st (fun c s1 => if c = true then b env s1 Q X else Q false s1) X
def fOr (a b : FTC) : FTC := fun env st Q X => a env st (fun c s1 => if c = true then Q true s1 else b env s1 Q X) X
def fNot (a : FTC) : FTC := fun env st Q X => a env st (fun c s1 => Q (!c) s1) X
/-- and, or, not as values, all but the last truth values -/
def fAndV (a b : FTE) : FTE := fun env st Q X => a env st (fun x s1 => isB (fun c => if c = true then b env s1 Q X else Q (.bl false) s1) x) X
def fOrV (a b : FTE) : FTE := fun env st Q X => a env st (fun x s1 => isB (fun c => if c = true then Q (.bl true) s1 else b env s1 Q X) x) X
def fNotV (a : FTE) : FTE := fun env st Q X => a env st (fun x s1 => isB (fun c => Q (.bl (!c)) s1) x) X
def fIfE (c : FTC) (a b : FTE) : FTE := fun env st Q X => c env st (fun k s1 => if k = true then a env s1 Q X else b env s1 Q X) X
/-- a op b op' c -/
def fChain (op op' : Op2) (a b c : FTE) : FTE := fun env st Q X => a env st (fun x s1 => b env s1 (fun y s2 => op x y (isB (fun k => if k = true then c env s2 (fun z s3 => op' y z (fun r => Q r s3)) X else Q (.bl false) s2))) X) X
def aNil : FTA := fun _ st Q _ => Q [] st
def aCons (a : FTE) (r : FTA) : FTA := fun env st Q X => a env st (fun x s1 => r env s1 (fun xs s2 => Q (x :: xs) s2) X) X
def asSeq (Q : List D → Prop) : D → Prop
  | .lst l => Q l
  | .tup l => Q l
  | _ => False
def aStar (a : FTE) (r : FTA) : FTA := fun env st Q X => a env st (fun x s1 => asSeq (fun l => r env s1 (fun xs s2 => Q (l ++ xs) s2) X) x) X
/-- displays without a star (few items); with one -/
def fTup (a : FTA) : FTE := fun env st Q X => a env st (fun xs s1 => Q (.tup xs) s1) X
def fLst (a : FTA) : FTE := fun env st Q X => a env st (fun xs s1 => Q (.lst xs) s1) X
def fTupS (a : FTA) : FTE := fun env st Q X => a env st (fun xs s1 => xs.length ≤ cap ∧ Q (.tup xs) s1) X
def fLstS (a : FTA) : FTE := fun env st Q X => a env st (fun xs s1 => xs.length ≤ cap ∧ Q (.lst xs) s1) X
def fCall (sp : FSp) (a : FTA) : FTE := fun env st Q X => a env st (fun ds s1 => sp ds s1 Q X) X
/-- arguments by keywords: evaluated as written, handed over in the parameters' order (ix: where each parameter's value stands) -/
def pick {α : Type} : List Nat → List α → List α
  | [], _ => []
  | i :: r, l => match l[i]? with
    | some x => x :: pick r l
    | none => pick r l
def fCallP (sp : FSp) (ix : List Nat) (a : FTA) : FTE := fun env st Q X => a env st (fun ds s1 => sp (pick ix ds) s1 Q X) X

/-! ### operators -/
def MulOk (i j : Int) : Prop := i.natAbs < 2 ^ 64 ∨ j.natAbs < 2 ^ 64 ∨ i.natAbs.log2 + j.natAbs.log2 < 1000000
def DivOk (j : Int) : Prop := 0 < j ∧ j.natAbs.log2 < 9000
def qAdd : Op2
  | .int i, .int j, Q => Q (.int (i + j))
  | .lst a, .lst b, Q => a.length + b.length ≤ cap ∧ Q (.lst (a ++ b))
  | .tup a, .tup b, Q => a.length + b.length ≤ cap ∧ Q (.tup (a ++ b))
  | .str a, .str b, Q => a.length + b.length ≤ cap ∧ Q (.str (a ++ b))
  | _, _, _ => False
def qSub : Op2
  | .int i, .int j, Q => Q (.int (i - j))
  | _, _, _ => False
def qMul : Op2
  | .int i, .int j, Q => MulOk i j ∧ Q (.int (i * j))
  | .lst a, .int k, Q => 0 ≤ k ∧ k < 2 ^ 62 ∧ a.length * k.toNat ≤ cap ∧ Q (.lst (List.replicate k.toNat a).flatten)
  | _, _, _ => False
def qDiv : Op2
  | .int i, .int j, Q => DivOk j ∧ Q (.int (i / j))
  | _, _, _ => False
def qMod : Op2
  | .int i, .int j, Q => 0 < j ∧ Q (.int (i % j))
  | _, _, _ => False
def qPow : Op2
  | .int i, .int j, Q => (0 ≤ j ∧ j ≤ 1000000 ∧ i.natAbs < 2 ^ 64) ∧ Q (.int (i ^ j.toNat))
  | _, _, _ => False
def qNeg : Op1
  | .int i, Q => Q (.int (-i))
  | _, _ => False
def qLt : Op2
  | .int i, .int j, Q => Q (.bl (decide (i < j)))
  | _, _, _ => False
def qLe : Op2
  | .int i, .int j, Q => Q (.bl (decide (i ≤ j)))
  | _, _, _ => False
def qGt : Op2
  | .int i, .int j, Q => Q (.bl (decide (j < i)))
  | _, _, _ => False
def qGe : Op2
  | .int i, .int j, Q => Q (.bl (decide (j ≤ i)))
  | _, _, _ => False
/-- two texts told by what they are the repr of are compared only where these are known to be the same -/
def qEq : Op2
  | .rep a, .rep b, Q => a = b ∧ Q (.bl true)
  | x, y, Q => ok x = true ∧ ok y = true ∧ Q (.bl (x.eqv y))
def qNe : Op2
  | .rep a, .rep b, Q => a = b ∧ Q (.bl false)
  | x, y, Q => ok x = true ∧ ok y = true ∧ Q (.bl (!x.eqv y))
/-- no list, no tuple -/
def flD : D → Bool
  | .non => true
  | .bl _ => true
  | .int _ => true
  | .str _ => true
  | _ => false
def qIn : Op2
  | x, .lst l, Q => ok x = true ∧ ok (.lst l) = true ∧ Q (.bl (l.any fun y => y.eqv x))
  | x, .tup l, Q => flD x = true ∧ l.all flD = true ∧ Q (.bl (l.any fun y => y.eqv x))
  | _, _, _ => False
def qNotIn : Op2
  | x, .lst l, Q => ok x = true ∧ ok (.lst l) = true ∧ Q (.bl (!l.any fun y => y.eqv x))
  | x, .tup l, Q => flD x = true ∧ l.all flD = true ∧ Q (.bl (!l.any fun y => y.eqv x))
  | _, _, _ => False
def isNone : D → Bool
  | .non => true
  | _ => false
/-- is, is not: of None, of truth values -/
def qIs : Op2
  | x, .non, Q => Q (.bl (isNone x))
  | .bl a, .bl b, Q => Q (.bl (decide (a = b)))
  | _, _, _ => False
def qIsNot : Op2
  | x, .non, Q => Q (.bl (!isNone x))
  | .bl a, .bl b, Q => Q (.bl (!decide (a = b)))
  | _, _, _ => False
/-- the place that an index means -/
def ixOf (n : Nat) (i : Int) : Option Nat := if 0 ≤ i then (if i < n then some i.toNat else none) else if -(n : Int) ≤ i then some (i + n).toNat else none
def atD (l : List D) (i : Int) (Q : D → Prop) : Prop := ∃ d, (ixOf l.length i).bind (fun j => l[j]?) = some d ∧ Q d
def qIx : Op2
  | .lst l, .int i, Q => atD l i Q
  | .tup l, .int i, Q => atD l i Q
  | .scr ns, .int i, Q => ∃ n, (ixOf ns.length i).bind (fun j => ns[j]?) = some n ∧ Q (.int n)
  | _, _, _ => False
/-! slices -/
def sIx (n : Nat) (dflt : Nat) : Option Int → Nat
  | none => dflt
  | some i => if i < 0 then (i + (n : Int)).toNat else min i.toNat n
def cutL {α : Type} (xs : List α) (lo hi : Option Int) : List α := (xs.drop (sIx xs.length 0 lo)).take (sIx xs.length xs.length hi - sIx xs.length 0 lo)
def qCut (lo hi : Option Int) : Op1
  | .lst l, Q => Q (.lst (cutL l lo hi))
  | .tup l, Q => Q (.tup (cutL l lo hi))
  | .scr ns, Q => Q (.lst ((cutL ns lo hi).map .int))
  | _, _ => False
abbrev FTO := Env → S → (Option Int → S → Prop) → XC → Prop
def oNone : FTO := fun _ st Q _ => Q none st
def oSome (a : FTE) : FTO := fun env st Q X => a env st (fun x s1 => match x with | .int i => Q (some i) s1 | _ => False) X
def fCut (a : FTE) (lo hi : FTO) : FTE := fun env st Q X => a env st (fun x s1 => lo env s1 (fun l s2 => hi env s2 (fun h s3 => qCut l h x (fun r => Q r s3)) X) X) X
def qRev : Op1
  | .lst l, Q => Q (.lst l.reverse)
  | _, _ => False

/-! ### built-ins -/
def ints? : List D → Option (List Int)
  | [] => some []
  | .int i :: r => (ints? r).map (i :: ·)
  | _ :: _ => none
def bools? : List D → Option (List Bool)
  | [] => some []
  | .bl i :: r => (bools? r).map (i :: ·)
  | _ :: _ => none
def qLen : Op1
  | .lst l, Q => Q (.int l.length)
  | .tup l, Q => Q (.int l.length)
  | .scr l, Q => Q (.int l.length)
  | .str x, Q => x.length ≤ cap ∧ Q (.int x.length)
  | .dct ks _, Q => Q (.int ks.length)
  | _, _ => False
def qInt : Op1
  | .int i, Q => Q (.int i)
  | .bl k, Q => Q (.int (if k = true then 1 else 0))
  | _, _ => False
def qAbs : Op1
  | .int i, Q => Q (.int (if i < 0 then -i else i))
  | _, _ => False
/-- max(a, b), min(a, b) -/
def qMax2 : Op2
  | .int i, .int j, Q => Q (.int (if j > i then j else i))
  | _, _, _ => False
def qMin2 : Op2
  | .int i, .int j, Q => Q (.int (if j < i then j else i))
  | _, _, _ => False
def minL : List Int → Int
  | [] => 0
  | [x] => x
  | x :: r => if x ≤ minL r then x else minL r
def maxL : List Int → Int
  | [] => 0
  | [x] => x
  | x :: r => if maxL r ≤ x then x else maxL r
def qMin : Op1
  | .lst l, Q => ∃ ns, ints? l = some ns ∧ 0 < ns.length ∧ Q (.int (minL ns))
  | _, _ => False
def qMax : Op1
  | .lst l, Q => ∃ ns, ints? l = some ns ∧ 0 < ns.length ∧ Q (.int (maxL ns))
  | _, _ => False
def qSum : Op1
  | .lst l, Q => ∃ ns, ints? l = some ns ∧ Q (.int ns.sum)
  | _, _ => False
def qAll : Op1
  | .lst l, Q => ∃ bs, bools? l = some bs ∧ Q (.bl (bs.all id))
  | _, _ => False
def qAny : Op1
  | .lst l, Q => ∃ bs, bools? l = some bs ∧ Q (.bl (bs.any id))
  | _, _ => False
def qList : Op1
  | .lst l, Q => Q (.lst l)
  | .tup l, Q => Q (.lst l)
  | _, _ => False
def qTuple : Op1
  | .lst l, Q => Q (.tup l)
  | .tup l, Q => Q (.tup l)
  | _, _ => False
/-- ascending, each once -/
def insU (x : Int) : List Int → List Int
  | [] => [x]
  | y :: r => if x < y then x :: y :: r else if x = y then y :: r else y :: insU x r
def sortU : List Int → List Int
  | [] => []
  | x :: r => insU x (sortU r)
def insI (x : Int) : List Int → List Int
  | [] => [x]
  | y :: r => if x ≤ y then x :: y :: r else y :: insI x r
def sortI : List Int → List Int
  | [] => []
  | x :: r => insI x (sortI r)
def qSet : Op1
  | .lst l, Q => ∃ ns, ints? l = some ns ∧ ns.length < 1000 ∧ Q (.set (sortU ns))
  | .tup l, Q => ∃ ns, ints? l = some ns ∧ ns.length < 1000 ∧ Q (.set (sortU ns))
  | _, _ => False
def qSetL : Op1
  | .lst l, Q => ∃ ns, ints? l = some ns ∧ ns.length < 1000 ∧ Q (.set (sortU ns))
  | .tup l, Q => ∃ ns, ints? l = some ns ∧ ns.length < 1000 ∧ Q (.set (sortU ns))
  | _, _ => False
def qSorted : Op1
  | .lst l, Q => ∃ ns, ints? l = some ns ∧ Q (.lst ((sortI ns).map .int))
  | .set l, Q => l.length < 1000 ∧ Q (.lst (l.map .int))
  | _, _ => False
/-! how long a repr is at most (too long where it is not known) -/
mutual
def repB : D → Nat
  | .non => 4
  | .bl _ => 5
  | .int i => if i.natAbs < 2 ^ 1900 then 600 else 16000001
  | .str x => if x.cps.all (· < 0x110000) = true then 10 * x.length + 2 else 16000001
  | .lst l => repBs l + 2 * l.length + 3
  | .tup l => repBs l + 2 * l.length + 3
  | _ => 16000001
def repBs : List D → Nat
  | [] => 0
  | x :: r => repB x + repBs r
end
def qRepr : Op1 := fun x Q => ok x = true ∧ repB x ≤ 16000000 ∧ Q (.rep x)
/-- types, as isinstance names them -/
inductive Ty where
  | int | bool | str | list | tuple
  deriving DecidableEq
def isTy : D → Ty → Option Bool
  | .non, _ => some false
  | .bl _, .int => some true
  | .bl _, .bool => some true
  | .bl _, _ => some false
  | .int _, .int => some true
  | .int _, _ => some false
  | .str _, .str => some true
  | .str _, _ => some false
  | .rep _, .str => some true
  | .rep _, _ => some false
  | .lst _, .list => some true
  | .lst _, _ => some false
  | .tup _, .tuple => some true
  | .tup _, _ => some false
  | .dct _ _, _ => some false
  | _, _ => none
def isTys : D → List Ty → Option Bool
  | _, [] => some false
  | d, t :: r => (isTy d t).bind fun b => if b = true then some true else isTys d r
def qIsI (ts : List Ty) : Op1 := fun x Q => ∃ b, isTys x ts = some b ∧ Q (.bl b)

/-! ### what is walked -/
abbrev FTI := Env → S → (List D → S → Prop) → XC → Prop
def iSeq (a : FTE) : FTI := fun env st Q X => a env st (fun x s1 => asSeq (fun l => Q l s1) x) X
def rangeD (lo : Int) (n : Nat) : List D := (List.range n).map fun (i : Nat) => D.int (lo + (i : Int))
def iRng1 (a : FTE) : FTI := fun env st Q X => a env st (fun x s1 => match x with
  | .int j => (-(2 ^ 62) ≤ j ∧ j < 2 ^ 62) ∧ Q (rangeD 0 j.toNat) s1
  | _ => False) X
def iRng2 (a b : FTE) : FTI := fun env st Q X => a env st (fun x s1 => b env s1 (fun y s2 => match x, y with
  | .int i, .int j => (-(2 ^ 62) ≤ i ∧ i < 2 ^ 62 ∧ -(2 ^ 62) ≤ j ∧ j < 2 ^ 62) ∧ Q (rangeD i (j - i).toNat) s2
  | _, _ => False) X) X
def enumD : Nat → List D → List D
  | _, [] => []
  | k, x :: r => .tup [.int k, x] :: enumD (k + 1) r
def asLst (Q : List D → Prop) : D → Prop
  | .lst l => Q l
  | _ => False
def asTup (Q : List D → Prop) : D → Prop
  | .tup l => Q l
  | _ => False
def iEnum (a : FTE) : FTI := fun env st Q X => a env st (fun x s1 => asSeq (fun l => Q (enumD 0 l) s1) x) X
/-- targets -/
abbrev FTG := D → Env → (Env → Prop) → Prop
def put : Env → Nat → Option D → Env
  | [], _, _ => []
  | _ :: r, 0, d => d :: r
  | x :: r, n + 1, d => x :: put r n d
def gNm (i : Nat) : FTG := fun d env Q => Q (put env i (some d))
abbrev FTGs := List D → Env → (Env → Prop) → Prop
def gNil : FTGs := fun ds env Q => ds = [] ∧ Q env
def gMore (g : FTG) (r : FTGs) : FTGs := fun ds env Q => match ds with
  | d :: rest => g d env fun e => r rest e Q
  | [] => False
def gTp (r : FTGs) : FTG := fun d env Q => asTup (fun l => r l env Q) d
/-- list comprehensions: one for -/
def wipes (env : Env) : List Nat → Env
  | [] => env
  | i :: r => put (wipes env r) i none
def compL (g : FTG) (c : FTC) (e : FTE) : List D → List D → Env → S → (List D → S → Prop) → Prop
  | [], acc, _, st, Q => Q acc st
  | x :: xs, acc, env, st, Q => g x env fun env2 => c env2 st (fun b s1 => if b = true then e env2 s1 (fun y s2 => acc.length < cap ∧ compL g c e xs (acc ++ [y]) env s2 Q) (fun _ _ _ => False) else compL g c e xs acc env s1 Q) (fun _ _ _ => False)
def cYes : FTC := fun _ st Q _ => Q true st
def fLC (it : FTI) (g : FTG) (c : FTC) (e : FTE) (vs : List Nat) : FTE := fun env st Q X => it env st (fun l s1 => compL g c e l [] (wipes env vs) s1 (fun r s2 => Q (.lst r) s2)) X

/-! ### statements -/
structure Ends where
  nx : Env → S → Prop
  rt : KD
  bk : Env → S → Prop
  ct : Env → S → Prop
  ex : Env → XC
abbrev FTS := Ends → Env → S → Prop
def sNx : FTS := fun E env st => E.nx env st
def sSeq (a b : FTS) : FTS := fun E env st => a { E with nx := b E } env st
def sRet (a : FTE) : FTS := fun E env st => a env st E.rt (E.ex env)
def sRetN : FTS := fun E _ st => E.rt .non st
def sBrk : FTS := fun E env st => E.bk env st
def sCnt : FTS := fun E env st => E.ct env st
def sExp (a : FTE) : FTS := fun E env st => a env st (fun _ s1 => E.nx env s1) (E.ex env)
def sIf (c : FTC) (a b : FTS) : FTS := fun E env st => c env st (fun k s1 => if k = true then a E env s1 else b E env s1) (E.ex env)
def sAsg (a : FTE) (g : FTG) : FTS := fun E env st => a env st (fun d s1 => g d env fun e => E.nx e s1) (E.ex env)
/-- i, j = a, b -/
def sPar2 (i j : Nat) (a b : FTE) : FTS := fun E env st => a env st (fun x s1 => b env s1 (fun y s2 => E.nx (put (put env i (some x)) j (some y)) s2) (E.ex env)) (E.ex env)
def sPar3 (i j k : Nat) (a b c : FTE) : FTS := fun E env st => a env st (fun x s1 => b env s1 (fun y s2 => c env s2 (fun z s3 => E.nx (put (put (put env i (some x)) j (some y)) k (some z)) s3) (E.ex env)) (E.ex env)) (E.ex env)
def forL (g : FTG) (b : FTS) : List D → Ends → Env → S → Prop
  | [], E, env, st => E.nx env st
  | x :: xs, E, env, st => g x env fun env2 => b { E with nx := fun e s => forL g b xs E e s, ct := fun e s => forL g b xs E e s, bk := E.nx } env2 st
def sFor (it : FTI) (g : FTG) (b : FTS) : FTS := fun E env st => it env st (fun l s1 => forL g b l E env s1) (E.ex env)
def sWhile (c : FTC) (b : FTS) : FTS := fun E env st => ∃ I : Nat → Env → S → Prop, (∃ m, I m env st) ∧ ∀ m env st, I m env st →
  c env st (fun k s1 => if k = true then b { E with nx := fun e s => ∃ m', m' < m ∧ I m' e s, ct := fun e s => ∃ m', m' < m ∧ I m' e s, bk := E.nx } env s1 else E.nx env s1) (E.ex env)
/-- what a slot's own list becomes -/
def sApp (i : Nat) (a : FTE) : FTS := fun E env st => a env st (fun d s1 => match look env i with
  | some (.lst l) => l.length < cap ∧ E.nx (put env i (some (.lst (l ++ [d])))) s1
  | _ => False) (E.ex env)
/-- raise C(a) -/
def sRaise (tag : Nat) (a : FTE) : FTS := fun E env st => a env st (fun d s1 => E.ex env tag d s1) (fun _ _ _ => False)
/-! no caught error within -/
mutual
def noX : D → Bool
  | .lst l => noXs l
  | .tup l => noXs l
  | .dct _ l => noXs l
  | .exc _ _ => false
  | _ => true
def noXs : List D → Bool
  | [] => true
  | x :: r => noX x && noXs r
end
/-- try: .. except (classes of these tags) as slot: suite (that ends in a return) -/
def sutE (E : Ends) : Ends := { nx := fun _ _ => False, rt := fun d s => noX d = true ∧ E.rt d s, bk := fun _ _ => False, ct := fun _ _ => False, ex := fun _ _ _ _ => False }
def tryE (E : Ends) (tags : Nat → Bool) (i : Nat) (h : FTS) : Ends :=
  { nx := E.nx, rt := E.rt, bk := E.bk, ct := E.ct, ex := fun env' tag d s1 => if tags tag = true then h (sutE E) (put env' i (some (.exc tag d))) s1 else E.ex env' tag d s1 }
def sTry (b : FTS) (tags : Nat → Bool) (i : Nat) (h : FTS) : FTS := fun E env st => b (tryE E tags i h) env st
/-- several clauses: the classes, the slot of the name, the suite (that ends in a return) -/
abbrev FH := (Nat → Bool) × Option Nat × FTS
def hdX (E : Ends) : List FH → Env → XC
  | [], env, tag, d, s => E.ex env tag d s
  | (tags, o, h) :: r, env, tag, d, s => if tags tag = true then h (sutE E) (match o with | some i => put env i (some (.exc tag d)) | none => env) s else hdX E r env tag d s
def tryN (E : Ends) (r : List FH) : Ends := { nx := E.nx, rt := E.rt, bk := E.bk, ct := E.ct, ex := hdX E r }
def sTryN (b : FTS) (r : List FH) : FTS := fun E env st => b (tryN E r) env st
def qAt : Op1
  | .exc _ d, Q => Q d
  | _, _ => False
/-- a def's body as a spec: arguments in slots, then so many empty ones -/
def start (ds : List D) (k : Nat) : Env := ds.map some ++ List.replicate k none
def ends (Q : KD) (X : XC) : Ends := { nx := fun _ s => Q .non s, rt := Q, bk := fun _ _ => False, ct := fun _ _ => False, ex := fun _ => X }

/-- a def's spec: k slots more than parameters -/
def spOf (n k : Nat) (f : FTS) : FSp := fun ds st Q X => ds.length = n ∧ f (ends Q X) (start ds k) st
/-- a draw may give any number below the bound -/
inductive AnyOk : List D → KD → XC → Prop
  | mk {b : Int} {Q : KD} {X : XC} : 0 < b → b.natAbs.log2 < 9000 → (∀ (x : Int) (s : S), 0 ≤ x → x < b → Q (.int x) s) → AnyOk [.deal, .int b] Q X
def spAny : FSp := fun ds _ Q X => AnyOk ds Q X
/-- a method's work on a list, by its data -/
abbrev OL := List D → List D → (List D → Prop) → Prop
def sMut (i : Nat) (q : OL) (a : FTA) : FTS := fun E env st => match look env i with
  | some (.lst _) => a env st (fun ds s1 => match look env i with
    | some (.lst l) => q ds l (fun l' => E.nx (put env i (some (.lst l'))) s1)
    | _ => False) (E.ex env)
  | _ => False
def oAppend : OL
  | [d], l, Q => l.length < cap ∧ Q (l ++ [d])
  | _, _, _ => False
def oInsert : OL
  | [.int k, d], l, Q => 0 ≤ k ∧ k < 2 ^ 62 ∧ l.length < cap ∧ Q (l.take k.toNat ++ [d] ++ l.drop k.toNat)
  | _, _, _ => False
def oExtend : OL
  | [.lst m], l, Q => l.length + m.length ≤ cap ∧ Q (l ++ m)
  | _, _, _ => False
def oPop : OL
  | [], l, Q => l ≠ [] ∧ Q l.dropLast
  | _, _, _ => False
def oPopAt : OL
  | [.int k], l, Q => (-(2 ^ 62) ≤ k ∧ k < 2 ^ 62) ∧ ∃ j, ixOf l.length k = some j ∧ Q (l.eraseIdx j)
  | _, _, _ => False
def sStL (i : Nat) (fk fe : FTE) : FTS := fun E env st => fe env st (fun d s1 => fk env s1 (fun k s2 => match look env i, k with
  | some (.lst l), .int k => ∃ j, ixOf l.length k = some j ∧ E.nx (put env i (some (.lst (l.set j d)))) s2
  | _, _ => False) (E.ex env)) (E.ex env)
/-- what a method takes out of a list, and what stays -/
abbrev OLV := List D → List D → (D → List D → Prop) → Prop
def vPop : OLV
  | [], l, Q => ∃ d, l.getLast? = some d ∧ Q d l.dropLast
  | _, _, _ => False
def vPopAt : OLV
  | [.int k], l, Q => (-(2 ^ 62) ≤ k ∧ k < 2 ^ 62) ∧ ∃ j d, ixOf l.length k = some j ∧ l[j]? = some d ∧ Q d (l.eraseIdx j)
  | _, _, _ => False
def fMutV (i : Nat) (q : OLV) (a : FTA) (env : Env) (st : S) (Q : D → Env → S → Prop) (X : XC) : Prop := match look env i with
  | some (.lst _) => a env st (fun ds s1 => match look env i with
    | some (.lst l) => q ds l (fun d l' => Q d (put env i (some (.lst l'))) s1)
    | _ => False) X
  | _ => False
/-- j = i.pop(..) -/
def sPopSet (j i : Nat) (q : OLV) (a : FTA) : FTS := fun E env st => fMutV i q a env st (fun d e s => E.nx (put e j (some d)) s) (E.ex env)
/-- x.append(i.pop(..)) -/
def sAppPop (x i : Nat) (q : OLV) (a : FTA) : FTS := fun E env st => match look env x with
  | some (.lst _) => fMutV i q a env st (fun d e s => match look e x with
    | some (.lst l) => l.length < cap ∧ E.nx (put e x (some (.lst (l ++ [d])))) s
    | _ => False) (E.ex env)
  | _ => False
/-- list(range(a)), tuple(range(a)) -/
def fLstR (a : FTE) : FTE := fun env st Q X => a env st (fun x s1 => match x with
  | .int j => (-(2 ^ 62) ≤ j ∧ j < 2 ^ 62 ∧ j.toNat ≤ cap) ∧ Q (.lst (rangeD 0 j.toNat)) s1
  | _ => False) X
def fTupR (a : FTE) : FTE := fun env st Q X => a env st (fun x s1 => match x with
  | .int j => (-(2 ^ 62) ≤ j ∧ j < 2 ^ 62 ∧ j.toNat ≤ cap) ∧ Q (.tup (rangeD 0 j.toNat)) s1
  | _ => False) X
def zipD : List D → List D → List D
  | x :: l, y :: r => .tup [x, y] :: zipD l r
  | _, _ => []
def iZip (a b : FTE) : FTI := fun env st Q X => a env st (fun x s1 => b env s1 (fun y s2 => match x, y with
  | .lst l, .lst m => Q (zipD l m) s2
  | .tup l, .tup m => Q (zipD l m) s2
  | _, _ => False) X) X
def fChT (op op' : Op2) (a b c : FTE) : FTC := fun env st Q X => fChain op op' a b c env st (fun x s1 => isB (fun k => Q k s1) x) X
/-! the law: its first row makes the draws' source in slot i; the rest holds whatever it gives -/
def lawE : Ends := { nx := fun _ _ => False, rt := fun d _ => d = .bl true, bk := fun _ _ => False, ct := fun _ _ => False, ex := fun _ _ _ _ => False }
def drawE (i : Nat) (g : FTS) : Ends :=
  { nx := fun env _ => ∃ (cells : List Int) (blend : Int), look env i = some (.lst [.lst (cells.map .int), .int blend]) ∧ cells.length ≤ 1000 ∧ (∀ j d, j ≠ i → look env j = some d → ∃ ms, d = .scr ms) ∧ ∀ st : S, g lawE (put env i (some .deal)) st,
    rt := fun _ _ => False, bk := fun _ _ => False, ct := fun _ _ => False, ex := fun _ _ _ _ => False }
def lawF (k i : Nat) (f g : FTS) (ns : List Int) : Prop := f (drawE i g) (start [.scr ns] k) ⟨[], 0⟩

/-! ### lemmas for reckoning -/
section
theorem look_put_same : ∀ {env : Env} {i : Nat} {d : Option D}, i < env.length → look (put env i d) i = d
  | _ :: _, 0, _, _ => rfl
  | _ :: r, i + 1, _, h => look_put_same (env := r) (by simpa using h)
theorem put_length : ∀ (env : Env) (i : Nat) (d : Option D), (put env i d).length = env.length
  | [], _, _ => rfl
  | _ :: r, 0, _ => rfl
  | _ :: r, i + 1, d => by simp [put, put_length r i d]
theorem look_put_ne : ∀ {env : Env} {i j : Nat} {d : Option D}, i ≠ j → look (put env i d) j = look env j
  | [], _, _, _, _ => rfl
  | _ :: r, 0, 0, _, h => absurd rfl h
  | _ :: r, 0, j + 1, _, _ => rfl
  | _ :: r, i + 1, 0, _, _ => rfl
  | _ :: r, i + 1, j + 1, d, h => look_put_ne (env := r) (by omega)
theorem look_lt : ∀ {env : Env} {i : Nat} {d : D}, look env i = some d → i < env.length
  | [], _, _, h => by cases h
  | _ :: r, 0, _, _ => by simp
  | _ :: r, i + 1, _, h => by
    have := look_lt (env := r) (i := i) h
    simp
    omega
theorem ints?_map (ns : List Int) : ints? (ns.map .int) = some ns := by
  induction ns with
  | nil => rfl
  | cons n r ih => simp [ints?, ih]
theorem bools?_map (ns : List Bool) : bools? (ns.map .bl) = some ns := by
  induction ns with
  | nil => rfl
  | cons n r ih => simp [bools?, ih]
end
end Fy
set_option Elab.async false
set_option linter.all false
set_option maxRecDepth 100000
set_option maxHeartbeats 4000000
/-! FyA: what data mean in the abstract heap; expressions. -/
namespace Fy
open PySem L2

/-! ### where we stand -/
structure G0 where
  K : PySem.W.Frag
  w : World
  dz : Option (Addr × Addr)
  ex : Option (Addr × Addr)
/-- the draws' source: two lists that may change -/
def Zone (Γ : G0) (a : Addr) : Prop := ∃ p, Γ.dz = some p ∧ (a = p.1 ∨ a = p.2)
/-- B: what no data may lean on (the draws' source, what callers change) -/
structure G where
  g : G0
  B : Addr → Prop
  zb : ∀ a, Zone g a → B a
  CT : Nat → Option Addr
  n : Nat
mutual
def toPy : D → PyData
  | .non => .none
  | .bl b => .bool b
  | .int i => .int i
  | .str x => .str x
  | .lst l => .list (toPys l)
  | .tup l => .tuple (toPys l)
  | _ => .none
def toPys : List D → List PyData
  | [] => []
  | x :: r => toPy x :: toPys r
end
/-- the script: an object that is not written while the law runs -/
def ScrAt (K : PySem.W.Frag) (N : Addr → Prop) (H : Hp) (a : Addr) (ns : List Int) : Prop :=
  (∃ o, H a = some (.frz o (.lst (ns.map V.int))) ∧ ¬ N a) ∨ ∀ H' : Hp, SqL K H' a (ns.map V.int)
theorem ScrAt.sq {K : PySem.W.Frag} {N : Addr → Prop} {H : Hp} {a : Addr} {ns : List Int} (h : ScrAt K N H a ns) : SqL K H a (ns.map V.int) := by
  rcases h with ⟨o, h, _⟩ | h
  · exact .inl (.inr ⟨o, h⟩)
  · exact h H
mutual
inductive Rep (Γ : G0) (N : Addr → Prop) (H : Hp) : V → D → Prop
  | non : Rep Γ N H .non .non
  | bl (b : Bool) : Rep Γ N H (.bl b) (.bl b)
  | int (i : Int) : Rep Γ N H (.int i) (.int i)
  | str (x : Str) : Rep Γ N H (.str x) (.str x)
  | lst {a : Addr} {vs : List V} {ds : List D} : H a = some (.lst vs) → ¬ N a → RepL Γ N H vs ds → Rep Γ N H (.ref a) (.lst ds)
  | tup {a : Addr} {vs : List V} {ds : List D} : H a = some (.tup vs) → ¬ N a → RepL Γ N H vs ds → Rep Γ N H (.ref a) (.tup ds)
  | dct {a : Addr} {kvs : List (Key × V)} {ds : List D} : H a = some (.dK kvs) → ¬ N a → RepL Γ N H (kvs.map (·.2)) ds → Rep Γ N H (.ref a) (.dct (kvs.map (·.1)) ds)
  | set {a : Addr} {l : List Int} : H a = some (SetO Γ.w a (fun i => l.contains i) l.length) → ¬ N a → l.Pairwise (· < ·) → Rep Γ N H (.ref a) (.set l)
  | rep (d : D) : Rep Γ N H (.str (PyData.shown (toPy d))) (.rep d)
  | scr {a : Addr} {ns : List Int} : ScrAt Γ.K N H a ns → Rep Γ N H (.ref a) (.scr ns)
  | deal {p : Addr × Addr} : Γ.dz = some p → Rep Γ N H (.ref p.1) .deal
  | exc {p : Addr × Addr} {v : V} {tag : Nat} {d : D} : Γ.ex = some p → H p.2 = some (.xd [(("at" : Str), v)]) → ¬ N p.2 → Rep Γ N H v d → Rep Γ N H (.ref p.1) (.exc tag d)
inductive RepL (Γ : G0) (N : Addr → Prop) (H : Hp) : List V → List D → Prop
  | nil : RepL Γ N H [] []
  | cons {v : V} {vs : List V} {d : D} {ds : List D} : Rep Γ N H v d → RepL Γ N H vs ds → RepL Γ N H (v :: vs) (d :: ds)
end
section
variable {Γ : G0} {N N' : Addr → Prop} {H H' : Hp}
theorem some_ne {H : Hp} {a : Addr} {o : HO} (h : H a = some o) : H a ≠ none := fun z => by rw [h] at z; cases z
mutual
theorem Rep.ev (k : ∀ b o, H b = some o → ¬ N b → H' b = some o) (s : ∀ b, H b ≠ none → N' b → N b) : ∀ (d : D) (v : V), Rep Γ N H v d → Rep Γ N' H' v d
  | .non, _, h => by cases h; exact .non
  | .bl _, _, h => by cases h; exact .bl _
  | .int _, _, h => by cases h; exact .int _
  | .str _, _, h => by cases h; exact .str _
  | .lst ds, _, h => by
    cases h with
    | lst e n r => exact .lst (k _ _ e n) (fun z => n (s _ (some_ne e) z)) (RepL.ev k s ds _ r)
  | .tup ds, _, h => by
    cases h with
    | tup e n r => exact .tup (k _ _ e n) (fun z => n (s _ (some_ne e) z)) (RepL.ev k s ds _ r)
  | .dct ks ds, _, h => by
    cases h with
    | dct e n r => exact .dct (k _ _ e n) (fun z => n (s _ (some_ne e) z)) (RepL.ev k s ds _ r)
  | .set _, _, h => by
    cases h with
    | set e n r => exact .set (k _ _ e n) (fun z => n (s _ (some_ne e) z)) r
  | .rep d, _, h => by cases h; exact .rep d
  | .scr _, _, h => by
    cases h with
    | scr e =>
      rcases e with ⟨o, e, n⟩ | e
      · exact .scr (.inl ⟨o, k _ _ e n, fun z => n (s _ (some_ne e) z)⟩)
      · exact .scr (.inr e)
  | .deal, _, h => by
    cases h with
    | deal e => exact .deal e
  | .exc _ d, _, h => by
    cases h with
    | exc e1 e2 n r => exact .exc e1 (k _ _ e2 n) (fun z => n (s _ (some_ne e2) z)) (Rep.ev k s d _ r)
theorem RepL.ev (k : ∀ b o, H b = some o → ¬ N b → H' b = some o) (s : ∀ b, H b ≠ none → N' b → N b) : ∀ (ds : List D) (vs : List V), RepL Γ N H vs ds → RepL Γ N' H' vs ds
  | [], _, h => by cases h; exact .nil
  | d :: ds, _, h => by
    cases h with
    | cons h1 h2 => exact .cons (Rep.ev k s d _ h1) (RepL.ev k s ds _ h2)
end
end
/-- what a slot alone holds -/
def OwnR (Γ : G0) (N : Addr → Prop) (H : Hp) (a : Addr) : D → Prop
  | .lst ds => ∃ vs, H a = some (.lst vs) ∧ RepL Γ N H vs ds
  | .dct ks ds => ∃ kvs : List (Key × V), H a = some (.dK kvs) ∧ kvs.map (·.1) = ks ∧ RepL Γ N H (kvs.map (·.2)) ds
  | _ => False
def Sh (Γ : G) (N : Addr → Prop) (H : Hp) (v : V) (d : D) : Prop := Rep Γ.g N H v d ∨ ∃ a, v = .ref a ∧ ¬ Γ.B a ∧ OwnR Γ.g N H a d
/-- all but N stays, nothing goes -/
structure Ev (N : Addr → Prop) (H H' : Hp) : Prop where
  k : ∀ b o, H b = some o → ¬ N b → H' b = some o
  t : ∀ b, H' b = none → H b = none
theorem Ev.refl {N : Addr → Prop} {H : Hp} : Ev N H H := ⟨fun _ _ h _ => h, fun _ h => h⟩
theorem Ev.trans {N : Addr → Prop} {H H1 H2 : Hp} (a : Ev N H H1) (b : Ev N H1 H2) : Ev N H H2 := ⟨fun c o h n => b.k c o (a.k c o h n) n, fun c h => a.t c (b.t c h)⟩
theorem Ev.mono {N N' : Addr → Prop} {H H1 : Hp} (a : Ev N H H1) (s : ∀ b, N b → N' b) : Ev N' H H1 := ⟨fun c o h n => a.k c o h fun z => n (s c z), a.t⟩
/-- nothing changed -/
def Ext (H H' : Hp) : Prop := Ev (fun _ => False) H H'
theorem Ext.refl {H : Hp} : Ext H H := Ev.refl
theorem Ext.new {H : Hp} {p : Addr} {o : HO} (h : H p = none) : Ext H (upd H p o) := ⟨fun b u e _ => by rw [upd_ne (ne_of_none e h)]; exact e, fun b e => by
  by_cases hb : b = p
  · subst hb; exact h
  · rw [upd_ne hb] at e; exact e⟩
theorem Ext.ev {N : Addr → Prop} {H H' : Hp} (e : Ext H H') : Ev N H H' := Ev.mono e fun _ z => z.elim
theorem Ext.trans {H H1 H2 : Hp} (a : Ext H H1) (b : Ext H1 H2) : Ext H H2 := Ev.trans a b
theorem Ext.at {H H' : Hp} (e : Ext H H') {b : Addr} {o : HO} (h : H b = some o) : H' b = some o := e.k b o h fun z => z
theorem OwnR.ev {Γ : G0} {N N' : Addr → Prop} {H H' : Hp} {a : Addr} {d : D} (h : OwnR Γ N H a d) (ka : ∀ o, H a = some o → H' a = some o) (k : ∀ b o, H b = some o → ¬ N b → H' b = some o) (s : ∀ b, H b ≠ none → N' b → N b) : OwnR Γ N' H' a d := by
  cases d <;> first | exact h.elim | skip
  · obtain ⟨vs, e, r⟩ := h
    exact ⟨vs, ka _ e, RepL.ev k s _ _ r⟩
  · obtain ⟨kvs, e, z, r⟩ := h
    exact ⟨kvs, ka _ e, z, RepL.ev k s _ _ r⟩
theorem OwnR.there {Γ : G0} {N : Addr → Prop} {H : Hp} {a : Addr} {d : D} (h : OwnR Γ N H a d) : ∃ o, H a = some o := by
  cases d <;> first | exact h.elim | skip
  · obtain ⟨vs, e, r⟩ := h
    exact ⟨_, e⟩
  · obtain ⟨kvs, e, z, r⟩ := h
    exact ⟨_, e⟩
theorem OwnR.rep {Γ : G0} {N : Addr → Prop} {H : Hp} {a : Addr} {d : D} (h : OwnR Γ N H a d) (n : ¬ N a) : Rep Γ N H (.ref a) d := by
  cases d <;> first | exact h.elim | skip
  · obtain ⟨vs, e, r⟩ := h
    exact .lst e n r
  · obtain ⟨kvs, e, z, r⟩ := h
    subst z
    exact .dct e n r

/-- what stood ahead of the new thing at a does not lean on it -/
theorem RepL.fresh {Γ : G0} {N : Addr → Prop} {H H' : Hp} {vs : List V} {ds : List D} {a : Addr} (r : RepL Γ N H vs ds) (e : Ext H H') (h : H a = none) : RepL Γ (fun b => N b ∨ b = a) H' vs ds :=
  RepL.ev (fun _ _ hb _ => e.at hb) (fun b hb z => by
    rcases z with z | z
    · exact z
    · rw [z] at hb; exact absurd h hb) _ _ r
/-! ### slots -/
def OwnA (O : List Nat) (σ : St) (a : Addr) : Prop := ∃ i, i ∈ O ∧ σ[i]? = some (some (V.ref a))
def NN (Γ : G) (O : List Nat) (σ : St) (a : Addr) : Prop := Γ.B a ∨ OwnA O σ a
structure ST (Γ : G) (H : Hp) (st : S) : Prop where
  z : ∀ p, Γ.g.dz = some p → p.1 ≠ p.2 ∧ H p.1 = some (.lst [.ref p.2, .int st.blend]) ∧ H p.2 = some (.lst (st.cells.map V.int))
  b : ∀ a, Γ.B a → H a ≠ none
  sz : st.cells.length ≤ 1000
structure EnvR (Γ : G) (O : List Nat) (H : Hp) (σ : St) (env : Env) : Prop where
  len : env.length = σ.length
  cnt : σ.length = Γ.n
  val : ∀ i d, look env i = some d → i ∉ O → ∃ v, σ[i]? = some (some v) ∧ Rep Γ.g (NN Γ O σ) H v d
  own : ∀ i, i ∈ O → ∃ a d, look env i = some d ∧ σ[i]? = some (some (V.ref a)) ∧ ¬ Γ.B a ∧ OwnR Γ.g (NN Γ O σ) H a d
  dis : ∀ i, i ∈ O → ∀ j, j ∈ O → ∀ a, σ[i]? = some (some (V.ref a)) → σ[j]? = some (some (V.ref a)) → i = j
section
variable {Γ : G} {O O' : List Nat} {H H' : Hp} {σ : St} {env : Env} {st : S}
theorem ST.ext (T : ST Γ H st) (e : Ext H H') : ST Γ H' st := ⟨fun p hp => by
  obtain ⟨h0, h1, h2⟩ := T.z p hp
  exact ⟨h0, e.at h1, e.at h2⟩, fun a z q => T.b a z (e.t a q), T.sz⟩
theorem EnvR.nn (R : EnvR Γ O H σ env) (T : ST Γ H st) {a : Addr} (z : NN Γ O σ a) : H a ≠ none := by
  rcases z with z | ⟨i, hi, e⟩
  · exact T.b a z
  · obtain ⟨b, d, _, e2, _, ow⟩ := R.own i hi
    rw [e] at e2
    have q : a = b := by injection e2 with e2; injection e2 with e2; injection e2
    subst q
    obtain ⟨o, ho⟩ := ow.there
    rw [ho]; intro q; cases q
theorem EnvR.fresh (R : EnvR Γ O H σ env) (T : ST Γ H st) {a : Addr} (h : H a = none) : ¬ NN Γ O σ a := fun z => R.nn T z h
/-- a heap in which no more than the zone has changed -/
theorem EnvR.ev (R : EnvR Γ O H σ env) (e : Ev (Zone Γ.g) H H') : EnvR Γ O H' σ env where
  len := R.len
  cnt := R.cnt
  val := fun i d h n => by
    obtain ⟨v, e1, r⟩ := R.val i d h n
    exact ⟨v, e1, Rep.ev (fun b o hb nb => e.k b o hb fun z => nb (.inl (Γ.zb _ z))) (fun _ _ z => z) _ _ r⟩
  own := fun i hi => by
    obtain ⟨a, d, e1, e2, nz, ow⟩ := R.own i hi
    exact ⟨a, d, e1, e2, nz, ow.ev (fun o h => e.k a o h fun z => nz (Γ.zb _ z)) (fun b o hb nb => e.k b o hb fun z => nb (.inl (Γ.zb _ z))) fun _ _ z => z⟩
  dis := R.dis
/-- fewer owned slots -/
theorem NN.sub (s : ∀ i, i ∈ O' → i ∈ O) {a : Addr} (z : NN Γ O' σ a) : NN Γ O σ a := by
  rcases z with z | ⟨i, hi, e⟩
  · exact .inl z
  · exact .inr ⟨i, s i hi, e⟩
theorem EnvR.drop (R : EnvR Γ O H σ env) (s : ∀ i, i ∈ O' → i ∈ O) : EnvR Γ O' H σ env where
  len := R.len
  cnt := R.cnt
  val := fun i d h n => by
    by_cases hi : i ∈ O
    · obtain ⟨a, d', e1, e2, nz, ow⟩ := R.own i hi
      rw [h] at e1
      injection e1 with e1
      subst e1
      refine ⟨_, e2, ?_⟩
      have ow' : OwnR Γ.g (NN Γ O' σ) H a d := ow.ev (fun _ z => z) (fun _ _ z _ => z) fun b _ z => NN.sub s z
      refine ow'.rep ?_
      rintro (z | ⟨j, hj, e⟩)
      · exact nz z
      · have q := R.dis i hi j (s j hj) a e2 e
        subst q
        exact n hj
    · obtain ⟨v, e1, r⟩ := R.val i d h hi
      exact ⟨v, e1, Rep.ev (fun _ _ z _ => z) (fun b _ z => NN.sub s z) _ _ r⟩
  own := fun i hi => by
    obtain ⟨a, d, e1, e2, nz, ow⟩ := R.own i (s i hi)
    exact ⟨a, d, e1, e2, nz, ow.ev (fun _ z => z) (fun _ _ z _ => z) fun b _ z => NN.sub s z⟩
  dis := fun i hi j hj => R.dis i (s i hi) j (s j hj)
end

/-! ### what a result is -/
inductive Md where
  | cl | sh | fr
def Res (Γ : G) (N : Addr → Prop) (m : Md) (H H' : Hp) (v : V) (d : D) : Prop := match m with
  | .cl => Rep Γ.g N H' v d
  | .sh => Sh Γ N H' v d
  | .fr => ∃ a, v = .ref a ∧ H a = none ∧ OwnR Γ.g (fun b => N b ∨ b = a) H' a d

def exK (Γ : G) (W : WX) (O : List Nat) (σ : St) (H : Hp) : XC := fun tag d st' => ∀ (C dx : Addr) (v : V) (H' : Hp), Γ.CT tag = some C → Ev (Zone Γ.g) H H' → ST Γ H' st' →
  H' dx = some (.xd [(("at" : Str), v)]) → ¬ NN Γ O σ dx → Rep Γ.g (NN Γ O σ) H' v d → W (.ref C) (some dx) σ H'
def liftE (Γ : G) (W : WX) (m : Md) (O : List Nat) (f : FTE) : TE := fun σ H Q => ∃ env st, EnvR Γ O H σ env ∧ ST Γ H st ∧
  f env st (fun d st' => ∀ v H', Ev (Zone Γ.g) H H' → ST Γ H' st' → Res Γ (NN Γ O σ) m H H' v d → Q v H') (exK Γ W O σ H)
def liftC (Γ : G) (W : WX) (O : List Nat) (f : FTC) : TT := fun σ H Q => ∃ env st, EnvR Γ O H σ env ∧ ST Γ H st ∧
  f env st (fun b st' => ∀ H', Ev (Zone Γ.g) H H' → ST Γ H' st' → Q b H') (exK Γ W O σ H)
def liftA (Γ : G) (W : WX) (O : List Nat) (f : FTA) : TA := fun σ H Q => ∃ env st, EnvR Γ O H σ env ∧ ST Γ H st ∧
  f env st (fun ds st' => ∀ vs H', Ev (Zone Γ.g) H H' → ST Γ H' st' → RepL Γ.g (NN Γ O σ) H' vs ds → Q vs H') (exK Γ W O σ H)
theorem exK.ev {Γ : G} {W : WX} {O : List Nat} {σ : St} {H H1 : Hp} (e : Ev (Zone Γ.g) H H1) {tag : Nat} {d : D} {s : S} (h : exK Γ W O σ H tag d s) : exK Γ W O σ H1 tag d s :=
  fun C dx v H' hc he hs hx n r => h C dx v H' hc (e.trans he) hs hx n r

def MonoE (f : FTE) : Prop := ∀ env st (Q Q' : KD) (X X' : XC), (∀ d s, Q d s → Q' d s) → (∀ t d s, X t d s → X' t d s) → f env st Q X → f env st Q' X'
def MonoC (f : FTC) : Prop := ∀ env st (Q Q' : Bool → S → Prop) (X X' : XC), (∀ d s, Q d s → Q' d s) → (∀ t d s, X t d s → X' t d s) → f env st Q X → f env st Q' X'
def MonoA (f : FTA) : Prop := ∀ env st (Q Q' : List D → S → Prop) (X X' : XC), (∀ d s, Q d s → Q' d s) → (∀ t d s, X t d s → X' t d s) → f env st Q X → f env st Q' X'
def Mono1 (q : Op1) : Prop := ∀ x (Q Q' : D → Prop), (∀ d, Q d → Q' d) → q x Q → q x Q'
def Mono2 (q : Op2) : Prop := ∀ x y (Q Q' : D → Prop), (∀ d, Q d → Q' d) → q x y Q → q x y Q'
structure FE (X : Cx) (Γ : G) (W : WX) (O : List Nat) (m : Md) (e : Expr) (f : FTE) : Prop where
  mono : MonoE f
  pe : PE X e (liftE Γ W m O f)
structure FC (X : Cx) (Γ : G) (W : WX) (O : List Nat) (e : Expr) (f : FTC) : Prop where
  mono : MonoC f
  pt : PT X e (liftC Γ W O f)
/-- a test as a part of and, or -/
structure FW (X : Cx) (Γ : G) (W : WX) (O : List Nat) (e : Expr) (f : FTC) : Prop where
  mono : MonoC f
  pw : PW X e (liftC Γ W O f)
structure FA (X : Cx) (Γ : G) (W : WX) (O : List Nat) (es : List Expr) (f : FTA) : Prop where
  mono : MonoA f
  pa : PA X es (liftA Γ W O f)
theorem _root_.L2.PE.imp {X : Cx} {e : Expr} {t t' : TE} (h : PE X e t) (k : ∀ σ H Q, t' σ H Q → t σ H Q) : PE X e t' := ⟨fun pins s σ H Q I hw => h.run pins s σ H Q I (k σ H Q hw)⟩
theorem _root_.L2.PT.imp {X : Cx} {e : Expr} {t t' : TT} (h : PT X e t) (k : ∀ σ H Q, t' σ H Q → t σ H Q) : PT X e t' := ⟨fun pins s σ H Q I hw => h.run pins s σ H Q I (k σ H Q hw)⟩
theorem _root_.L2.PW.imp {X : Cx} {e : Expr} {t t' : TT} (h : PW X e t) (k : ∀ σ H Q, t' σ H Q → t σ H Q) : PW X e t' := ⟨fun wh pins s σ H Q I hw => h.run wh pins s σ H Q I (k σ H Q hw)⟩
theorem _root_.L2.PA.imp {X : Cx} {e : List Expr} {t t' : TA} (h : PA X e t) (k : ∀ σ H Q, t' σ H Q → t σ H Q) : PA X e t' := ⟨fun p pins s σ H Q I hw => h.run p pins s σ H Q I (k σ H Q hw)⟩

section
variable {X : Cx} {Γ : G} {W : WX} {O : List Nat} {e a b c : Expr} {f fa fb : FTE} {pos : Pos} {m : Md}
theorem FE.sh (h : FE X Γ W O .cl e f) : FE X Γ W O .sh e f := ⟨h.mono, h.pe.imp fun σ H Q ⟨env, st, R, T, q⟩ => ⟨env, st, R, T, h.mono _ _ _ _ _ _ (fun d s k v H' e1 e2 r => k v H' e1 e2 (.inl r)) (fun _ _ _ z => z) q⟩⟩
theorem FE.cl (h : FE X Γ W O .fr e f) : FE X Γ W O .cl e f := ⟨h.mono, h.pe.imp fun σ H Q ⟨env, st, R, T, q⟩ => ⟨env, st, R, T, h.mono _ _ _ _ _ _ (fun d s k v H' e1 e2 ⟨a, hv, ha, ow⟩ => k v H' e1 e2 (by
  subst hv
  exact Rep.ev (fun _ _ z _ => z) (fun b _ z => z) _ _ ((ow.ev (N' := NN Γ O σ) (fun _ z => z) (fun _ _ z _ => z) fun b _ z => .inl z).rep (R.fresh T ha)))) (fun _ _ _ z => z) q⟩⟩
/-! constants and names -/
theorem mono_C {d : D} : MonoE (fC d) := fun _ _ _ _ _ _ h _ q => h _ _ q
theorem fe_const {v : V} {d : D} (h : PE X e (tC v)) (r : ∀ N H, Rep Γ.g N H v d) : FE X Γ W O .cl e (fC d) :=
  ⟨mono_C, h.imp fun σ H Q ⟨env, st, R, T, q⟩ => q v H Ev.refl T (r _ _)⟩
theorem fe_int {i j} : FE X Γ W O .cl (.Constant (.int i) j pos) (fC (.int i)) := fe_const pe_int fun _ _ => .int _
theorem fe_bl {i j} : FE X Γ W O .cl (.Constant (.bool i) j pos) (fC (.bl i)) := fe_const pe_bl fun _ _ => .bl _
theorem fe_non {j} : FE X Γ W O .cl (.Constant .none j pos) (fC .non) := fe_const pe_non fun _ _ => .non
theorem fe_str {i j} : FE X Γ W O .cl (.Constant (.str i) j pos) (fC (.str i)) := fe_const pe_str fun _ _ => .str _
theorem mono_Var {i : Nat} : MonoE (fVar i) := fun env st Q Q' _ _ h _ q => by
  unfold fVar at q ⊢
  cases hl : look env i with
  | none => rw [hl] at q; exact q
  | some d => rw [hl] at q; exact h _ _ q
theorem fe_var (i : Nat) {x : Str} (hi : i ∉ O := by decide) (hN : X.N[i]? = some x := by rfl) (hv : Vis X.env.scope x := by first | exact Or.inl rfl | exact Or.inr (Or.inl rfl) | exact Or.inr (Or.inr rfl)) (hd : (x == ("__debug__" : Str)) = false := by decide)
    (hcd : (x == ("__classdict__" : Str)) = false := by decide) : FE X Γ W O .cl (.Name x pos) (fVar i) :=
  ⟨mono_Var, (pe_var hN hv hd hcd).imp fun σ H Q ⟨env, st, R, T, q⟩ => by
    unfold fVar at q
    cases hl : look env i with
    | none => rw [hl] at q; exact q.elim
    | some d =>
      rw [hl] at q
      obtain ⟨v, e1, r⟩ := R.val i d hl hi
      exact ⟨v, e1, q v H Ev.refl T r⟩⟩
theorem fs_var (i : Nat) {x : Str} (hN : X.N[i]? = some x := by rfl) (hv : Vis X.env.scope x := by first | exact Or.inl rfl | exact Or.inr (Or.inl rfl) | exact Or.inr (Or.inr rfl)) (hd : (x == ("__debug__" : Str)) = false := by decide)
    (hcd : (x == ("__classdict__" : Str)) = false := by decide) : FE X Γ W O .sh (.Name x pos) (fVar i) :=
  ⟨mono_Var, (pe_var hN hv hd hcd).imp fun σ H Q ⟨env, st, R, T, q⟩ => by
    unfold fVar at q
    cases hl : look env i with
    | none => rw [hl] at q; exact q.elim
    | some d =>
      rw [hl] at q
      by_cases hi : i ∈ O
      · obtain ⟨a, d', e1, e2, nz, ow⟩ := R.own i hi
        rw [hl] at e1
        injection e1 with e1
        subst e1
        exact ⟨_, e2, q _ H Ev.refl T (.inr ⟨a, rfl, nz, ow⟩)⟩
      · obtain ⟨v, e1, r⟩ := R.val i d hl hi
        exact ⟨v, e1, q v H Ev.refl T (.inl r)⟩⟩
/-! operators -/
def NOk (N : Addr → Prop) (H : Hp) : Prop := ∀ a, N a → H a ≠ none
/-- a rule by values answers as the data say -/
def Op2Ok (Γ : G) (q : Op2) (r : R2) : Prop := ∀ (N : Addr → Prop) (H : Hp) (x y : V) (dx dy : D) (Qd : D → Prop) (Q : VK), NOk N H → Sh Γ N H x dx → Sh Γ N H y dy → q dx dy Qd →
  (∀ v H' d, Ext H H' → Rep Γ.g N H' v d → Qd d → Q v H') → r x y H Q
def Op1Ok (Γ : G) (q : Op1) (r : V → Hp → VK → Prop) : Prop := ∀ (N : Addr → Prop) (H : Hp) (x : V) (dx : D) (Qd : D → Prop) (Q : VK), NOk N H → Sh Γ N H x dx → q dx Qd →
  (∀ v H' d, Ext H H' → Rep Γ.g N H' v d → Qd d → Q v H') → r x H Q
/-- .. what is new is the asker's own -/
def Op1Fr (Γ : G) (q : Op1) (r : V → Hp → VK → Prop) : Prop := ∀ (N : Addr → Prop) (H : Hp) (x : V) (dx : D) (Qd : D → Prop) (Q : VK), NOk N H → Sh Γ N H x dx → q dx Qd →
  (∀ a H' d, Ext H H' → H a = none → OwnR Γ.g (fun b => N b ∨ b = a) H' a d → Qd d → Q (.ref a) H') → r x H Q
theorem mono_Op {op : Op2} (hq : Mono2 op) (ha : MonoE fa) (hb : MonoE fb) : MonoE (fOp op fa fb) := fun env st Q Q' X X' h hx q =>
  ha _ _ _ _ _ _ (fun x s1 q1 => hb _ _ _ _ _ _ (fun y s2 q2 => hq _ _ _ _ (fun r => h r s2) q2) hx q1) hx q
theorem mono_Un {op : Op1} (hq : Mono1 op) (ha : MonoE fa) : MonoE (fUn op fa) := fun env st Q Q' X X' h hx q =>
  ha _ _ _ _ _ _ (fun x s1 q1 => hq _ _ _ (fun r => h r s1) q1) hx q
/-- what is no zone's stays while the zone changes -/
theorem Sh.zone {H H' : Hp} {σ : St} {v : V} {d : D} (h : Sh Γ (NN Γ O σ) H v d) (e : Ev (Zone Γ.g) H H') : Sh Γ (NN Γ O σ) H' v d := by
  have k : ∀ b o, H b = some o → ¬ NN Γ O σ b → H' b = some o := fun b o hb nb => e.k b o hb fun z => nb (.inl (Γ.zb _ z))
  rcases h with h | ⟨a, hv, nz, ow⟩
  · exact .inl (Rep.ev k (fun _ _ z => z) _ _ h)
  · exact .inr ⟨a, hv, nz, ow.ev (fun o ho => e.k a o ho fun z => nz (Γ.zb _ z)) k fun _ _ z => z⟩
theorem Rep.zone {H H' : Hp} {σ : St} {v : V} {d : D} (h : Rep Γ.g (NN Γ O σ) H v d) (e : Ev (Zone Γ.g) H H') : Rep Γ.g (NN Γ O σ) H' v d :=
  Rep.ev (fun b o hb nb => e.k b o hb fun z => nb (.inl (Γ.zb _ z))) (fun _ _ z => z) _ _ h
theorem RepL.zone {H H' : Hp} {σ : St} {v : List V} {d : List D} (h : RepL Γ.g (NN Γ O σ) H v d) (e : Ev (Zone Γ.g) H H') : RepL Γ.g (NN Γ O σ) H' v d :=
  RepL.ev (fun b o hb nb => e.k b o hb fun z => nb (.inl (Γ.zb _ z))) (fun _ _ z => z) _ _ h
theorem Rep.ext {N : Addr → Prop} {H H' : Hp} {v : V} {d : D} (h : Rep Γ.g N H v d) (e : Ext H H') : Rep Γ.g N H' v d := Rep.ev (fun _ _ hb _ => e.at hb) (fun _ _ z => z) _ _ h
theorem RepL.ext {N : Addr → Prop} {H H' : Hp} {v : List V} {d : List D} (h : RepL Γ.g N H v d) (e : Ext H H') : RepL Γ.g N H' v d := RepL.ev (fun _ _ hb _ => e.at hb) (fun _ _ z => z) _ _ h
theorem EnvR.nok {H : Hp} {σ : St} {env : Env} {st : S} (R : EnvR Γ O H σ env) (T : ST Γ H st) : NOk (NN Γ O σ) H := fun _ z => R.nn T z
theorem NOk.zone {H H' : Hp} {σ : St} (n : NOk (NN Γ O σ) H) (e : Ev (Zone Γ.g) H H') : NOk (NN Γ O σ) H' := fun a z q => n a z (e.t a q)
theorem NOk.new {N : Addr → Prop} {H : Hp} {p : Addr} (n : NOk N H) (h : H p = none) : ¬ N p := fun z => n p z h
/-! the rules for operators -/
theorem op_run {r : R2} {q : Op2} (ok : Op2Ok Γ q r) (hq : Mono2 q) (ha : FE X Γ W O .sh a fa) (hb : FE X Γ W O .sh b fb) {σ : St} {H : Hp} {Q : VK} (h : liftE Γ W .cl O (fOp q fa fb) σ H Q) :
    tOp r (liftE Γ W .sh O fa) (liftE Γ W .sh O fb) σ H Q := by
  obtain ⟨env, st, R, T, h⟩ := h
  refine ⟨env, st, R, T, ha.mono _ _ _ _ _ _ (fun dx s1 q1 v H1 e1 T1 r1 => ⟨env, s1, R.ev e1, T1, hb.mono _ _ _ _ _ _ (fun dy s2 q2 y H2 e2 T2 r2 => ?_) (fun t d s z => exK.ev e1 z) q1⟩) (fun _ _ _ z => z) h⟩
  exact ok _ H2 v y dx dy _ Q (((R.nok T).zone e1).zone e2) (r1.zone e2) r2 q2 fun u H' d x rp qd => qd u H' (e1.trans (e2.trans x.ev)) (T2.ext x) rp
theorem fe_bin {op : Operator} {r : R2} {q : Op2} (ho : OpR X (binaryOp op) r) (ok : Op2Ok Γ q r) (hq : Mono2 q) (ha : FE X Γ W O .sh a fa) (hb : FE X Γ W O .sh b fb) : FE X Γ W O .cl (.BinOp a op b pos) (fOp q fa fb) :=
  ⟨mono_Op hq ha.mono hb.mono, (pe_op ho ha.pe hb.pe).imp fun _ _ _ h => op_run ok hq ha hb h⟩
theorem fe_cmp {op : CmpOp} {r : R2} {q : Op2} (ho : OpR X (compareOp op) r) (ok : Op2Ok Γ q r) (hq : Mono2 q) (ha : FE X Γ W O .sh a fa) (hb : FE X Γ W O .sh b fb) (hm : behindInMarks op b = false) : FE X Γ W O .cl (.Compare a [op] [b] pos) (fOp q fa fb) :=
  ⟨mono_Op hq ha.mono hb.mono, (pe_cmpR ho ha.pe hb.pe hm).imp fun _ _ _ h => op_run ok hq ha hb h⟩
theorem mono_isB {x : D} {Q Q' : Bool → Prop} (h : ∀ b, Q b → Q' b) (q : isB Q x) : isB Q' x := by
  cases x <;> first | exact q.elim | exact h _ q
theorem mono_Tst (ha : MonoE fa) : MonoC (fTst fa) := fun env st Q Q' X X' h hx q => ha _ _ _ _ _ _ (fun x s1 q1 => mono_isB (fun b => h b s1) q1) hx q
theorem tst_run {t : TE} (hi : ∀ σ H Q, liftE Γ W .cl O fa σ H Q → t σ H Q) (ha : MonoE fa) {σ : St} {H : Hp} {Q : Bool → Hp → Prop} (h : liftC Γ W O (fTst fa) σ H Q) : t σ H fun x H' => ∃ k, x = .bl k ∧ Q k H' := by
  obtain ⟨env, st, R, T, h⟩ := h
  refine hi _ _ _ ⟨env, st, R, T, ha _ _ _ _ _ _ (fun d s q v H' e1 e2 r => ?_) (fun _ _ _ z => z) h⟩
  cases d <;> first | exact q.elim | skip
  cases r
  exact ⟨_, rfl, q H' e1 e2⟩
theorem fc_cmp {op : CmpOp} {r : R2} {q : Op2} (ho : OpR X (compareOp op) r) (ok : Op2Ok Γ q r) (hq : Mono2 q) (ha : FE X Γ W O .sh a fa) (hb : FE X Γ W O .sh b fb) (hm : behindInMarks op b = false) : FC X Γ W O (.Compare a [op] [b] pos) (fTst (fOp q fa fb)) :=
  ⟨mono_Tst (mono_Op hq ha.mono hb.mono), (pt_cmpR ho ha.pe hb.pe hm).imp fun _ _ _ h => tst_run (fun _ _ _ z => op_run ok hq ha hb z) (mono_Op hq ha.mono hb.mono) h⟩
theorem fc_val (h : FE X Γ W O .cl e f) (he : ∀ whole, isTrue e X.env whole = (do let v ← whole; standAt e.pos; holding [v] (truthy v)) := by intro _; rfl) : FC X Γ W O e (fTst f) :=
  ⟨mono_Tst h.mono, (pt_val h.pe he).imp fun _ _ _ z => tst_run (fun _ _ _ z => z) h.mono z⟩
theorem FW.toC {f : FTC} (h : FW X Γ W O e f) : FC X Γ W O e f := ⟨h.mono, h.pw.pt⟩
theorem mono_Not {f : FTC} (h : MonoC f) : MonoC (fNot f) := fun env st Q Q' X X' hq hx q => h _ _ _ _ _ _ (fun b s => hq _ s) hx q
theorem mono_And {f g : FTC} (h : MonoC f) (h2 : MonoC g) : MonoC (fAnd f g) := fun env st Q Q' X X' hq hx q => h _ _ _ _ _ _ (fun b s z => by
  cases b with
  | true => exact h2 _ _ _ _ _ _ hq hx z
  | false => exact hq _ _ z) hx q
theorem mono_Or {f g : FTC} (h : MonoC f) (h2 : MonoC g) : MonoC (fOr f g) := fun env st Q Q' X X' hq hx q => h _ _ _ _ _ _ (fun b s z => by
  cases b with
  | true => exact hq _ _ z
  | false => exact h2 _ _ _ _ _ _ hq hx z) hx q
theorem fc_not {f : FTC} (h : FC X Γ W O a f) : FC X Γ W O (.UnaryOp .Not a pos) (fNot f) :=
  ⟨mono_Not h.mono, (pt_not h.pt).imp fun _ _ _ z => z⟩
theorem fw_and1 {f : FTC} (h : FC X Γ W O a f) : FW X Γ W O (.BoolOp .And [a] pos) f := ⟨h.mono, pw_and1 h.pt⟩
theorem fw_or1 {f : FTC} (h : FC X Γ W O a f) : FW X Γ W O (.BoolOp .Or [a] pos) f := ⟨h.mono, pw_or1 h.pt⟩
theorem fw_and {f g : FTC} {rest : List Expr} (h : FC X Γ W O a f) (h2 : FW X Γ W O (.BoolOp .And (b :: rest) pos) g) : FW X Γ W O (.BoolOp .And (a :: b :: rest) pos) (fAnd f g) :=
  ⟨mono_And h.mono h2.mono, (pw_and h.pt h2.pw).imp fun σ H Q ⟨env, st, R, T, z⟩ => ⟨env, st, R, T, h.mono _ _ _ _ _ _ (fun k s z2 H' e1 e2 => by
    cases k with
    | true => exact ⟨env, s, R.ev e1, e2, h2.mono _ _ _ _ _ _ (fun b s2 z3 H2 e3 e4 => z3 H2 (e1.trans e3) e4) (fun t d s z => exK.ev e1 z) z2⟩
    | false => exact z2 H' e1 e2) (fun _ _ _ z => z) z⟩⟩
theorem fw_or {f g : FTC} {rest : List Expr} (h : FC X Γ W O a f) (h2 : FW X Γ W O (.BoolOp .Or (b :: rest) pos) g) : FW X Γ W O (.BoolOp .Or (a :: b :: rest) pos) (fOr f g) :=
  ⟨mono_Or h.mono h2.mono, (pw_or h.pt h2.pw).imp fun σ H Q ⟨env, st, R, T, z⟩ => ⟨env, st, R, T, h.mono _ _ _ _ _ _ (fun k s z2 H' e1 e2 => by
    cases k with
    | true => exact z2 H' e1 e2
    | false => exact ⟨env, s, R.ev e1, e2, h2.mono _ _ _ _ _ _ (fun b s2 z3 H2 e3 e4 => z3 H2 (e1.trans e3) e4) (fun t d s z => exK.ev e1 z) z2⟩) (fun _ _ _ z => z) z⟩⟩
/-! and, or, not as values -/
theorem mono_AndV (ha : MonoE fa) (hb : MonoE fb) : MonoE (fAndV fa fb) := fun env st Q Q' X X' h hx q => ha _ _ _ _ _ _ (fun x s z => mono_isB (fun b z => by
  cases b with
  | true => exact hb _ _ _ _ _ _ h hx z
  | false => exact h _ _ z) z) hx q
theorem mono_OrV (ha : MonoE fa) (hb : MonoE fb) : MonoE (fOrV fa fb) := fun env st Q Q' X X' h hx q => ha _ _ _ _ _ _ (fun x s z => mono_isB (fun b z => by
  cases b with
  | true => exact h _ _ z
  | false => exact hb _ _ _ _ _ _ h hx z) z) hx q
theorem mono_NotV (ha : MonoE fa) : MonoE (fNotV fa) := fun env st Q Q' X X' h hx q => ha _ _ _ _ _ _ (fun x s z => mono_isB (fun b z => h _ _ z) z) hx q
theorem Rep.isB {N : Addr → Prop} {H : Hp} {v : V} {d : D} {Q : Bool → Prop} (r : Rep Γ.g N H v d) (q : isB Q d) : ∃ k, v = .bl k ∧ d = .bl k ∧ Q k := by
  cases d <;> first | exact q.elim | skip
  cases r
  exact ⟨_, rfl, rfl, q⟩
theorem fe_andV {rest : List Expr} (ha : FE X Γ W O .cl a fa) (hb : FE X Γ W O .cl (.BoolOp .And (b :: rest) pos) fb) : FE X Γ W O .cl (.BoolOp .And (a :: b :: rest) pos) (fAndV fa fb) :=
  ⟨mono_AndV ha.mono hb.mono, (pe_and ha.pe hb.pe).imp fun σ H Q ⟨env, st, R, T, z⟩ => ⟨env, st, R, T, ha.mono _ _ _ _ _ _ (fun d s z v H' e1 e2 r => by
    obtain ⟨k, e, _, z⟩ := r.isB z
    refine ⟨k, e, ?_⟩
    cases k with
    | true => exact ⟨env, s, R.ev e1, e2, hb.mono _ _ _ _ _ _ (fun b s2 z3 v H2 e3 e4 => z3 v H2 (e1.trans e3) e4) (fun t d s z => exK.ev e1 z) z⟩
    | false => exact z _ H' e1 e2 (.bl _)) (fun _ _ _ z => z) z⟩⟩
theorem fe_orV {rest : List Expr} (ha : FE X Γ W O .cl a fa) (hb : FE X Γ W O .cl (.BoolOp .Or (b :: rest) pos) fb) : FE X Γ W O .cl (.BoolOp .Or (a :: b :: rest) pos) (fOrV fa fb) :=
  ⟨mono_OrV ha.mono hb.mono, (pe_or ha.pe hb.pe).imp fun σ H Q ⟨env, st, R, T, z⟩ => ⟨env, st, R, T, ha.mono _ _ _ _ _ _ (fun d s z v H' e1 e2 r => by
    obtain ⟨k, e, _, z⟩ := r.isB z
    refine ⟨k, e, ?_⟩
    cases k with
    | true => exact z _ H' e1 e2 (.bl _)
    | false => exact ⟨env, s, R.ev e1, e2, hb.mono _ _ _ _ _ _ (fun b s2 z3 v H2 e3 e4 => z3 v H2 (e1.trans e3) e4) (fun t d s z => exK.ev e1 z) z⟩) (fun _ _ _ z => z) z⟩⟩
theorem fe_oneV {op : BoolOp} (ha : FE X Γ W O m a fa) : FE X Γ W O m (.BoolOp op [a] pos) fa := ⟨ha.mono, pe_one ha.pe⟩
theorem fe_notV (ha : FE X Γ W O .cl a fa) : FE X Γ W O .cl (.UnaryOp .Not a pos) (fNotV fa) :=
  ⟨mono_NotV ha.mono, (pe_not ha.pe).imp fun σ H Q ⟨env, st, R, T, z⟩ => ⟨env, st, R, T, ha.mono _ _ _ _ _ _ (fun d s z v H' e1 e2 r => by
    obtain ⟨k, e, _, z⟩ := r.isB z
    exact ⟨k, e, z _ H' e1 e2 (.bl _)⟩) (fun _ _ _ z => z) z⟩⟩
/-! a if c else b -/
theorem mono_IfE {fc : FTC} (hc : MonoC fc) (ha : MonoE fa) (hb : MonoE fb) : MonoE (fIfE fc fa fb) := fun env st Q Q' X X' h hx q => hc _ _ _ _ _ _ (fun b s z => by
  cases b with
  | true => exact ha _ _ _ _ _ _ h hx z
  | false => exact hb _ _ _ _ _ _ h hx z) hx q
theorem fe_ifE {fc : FTC} (hc : FC X Γ W O c fc) (ha : FE X Γ W O .cl a fa) (hb : FE X Γ W O .cl b fb) : FE X Γ W O .cl (.IfExp c a b pos) (fIfE fc fa fb) :=
  ⟨mono_IfE hc.mono ha.mono hb.mono, (pe_ifExp hc.pt ha.pe hb.pe).imp fun σ H Q ⟨env, st, R, T, z⟩ => ⟨env, st, R, T, hc.mono _ _ _ _ _ _ (fun k s z H' e1 e2 => by
    cases k with
    | true => exact ⟨env, s, R.ev e1, e2, ha.mono _ _ _ _ _ _ (fun b s2 z3 v H2 e3 e4 => z3 v H2 (e1.trans e3) e4) (fun t d s z => exK.ev e1 z) z⟩
    | false => exact ⟨env, s, R.ev e1, e2, hb.mono _ _ _ _ _ _ (fun b s2 z3 v H2 e3 e4 => z3 v H2 (e1.trans e3) e4) (fun t d s z => exK.ev e1 z) z⟩) (fun _ _ _ z => z) z⟩⟩
end
end Fy
set_option Elab.async false
set_option linter.all false
set_option maxRecDepth 100000
set_option maxHeartbeats 4000000
/-! FyB: operators, indexes, slices, built-ins by values. -/
namespace Fy
open PySem L2

section
variable {Γ : G} {N : Addr → Prop} {H : Hp} {x y : V} {i : Int}
theorem Sh.int (h : Sh Γ N H x (.int i)) : x = .int i := by
  rcases h with h | ⟨a, _, _, ow⟩
  · cases h; rfl
  · exact ow.elim
theorem Sh.bl {b : Bool} (h : Sh Γ N H x (.bl b)) : x = .bl b := by
  rcases h with h | ⟨a, _, _, ow⟩
  · cases h; rfl
  · exact ow.elim
theorem Sh.non (h : Sh Γ N H x .non) : x = .non := by
  rcases h with h | ⟨a, _, _, ow⟩
  · cases h; rfl
  · exact ow.elim
theorem Sh.str {z : Str} (h : Sh Γ N H x (.str z)) : x = .str z := by
  rcases h with h | ⟨a, _, _, ow⟩
  · cases h; rfl
  · exact ow.elim
theorem Sh.rep {d : D} (h : Sh Γ N H x (.rep d)) : x = .str (PyData.shown (toPy d)) := by
  rcases h with h | ⟨a, _, _, ow⟩
  · cases h; rfl
  · exact ow.elim
theorem Sh.lst {l : List D} (h : Sh Γ N H x (.lst l)) : ∃ a vs, x = .ref a ∧ H a = some (.lst vs) ∧ RepL Γ.g N H vs l := by
  rcases h with h | ⟨a, e, _, vs, e2, r⟩
  · cases h with
    | lst e n r => exact ⟨_, _, rfl, e, r⟩
  · exact ⟨a, vs, e, e2, r⟩
theorem Sh.tup {l : List D} (h : Sh Γ N H x (.tup l)) : ∃ a vs, x = .ref a ∧ H a = some (.tup vs) ∧ ¬ N a ∧ RepL Γ.g N H vs l := by
  rcases h with h | ⟨a, _, _, ow⟩
  · cases h with
    | tup e n r => exact ⟨_, _, rfl, e, n, r⟩
  · exact ow.elim
theorem Sh.scr {l : List Int} (h : Sh Γ N H x (.scr l)) : ∃ a, x = .ref a ∧ SqL Γ.g.K H a (l.map V.int) := by
  rcases h with h | ⟨a, _, _, ow⟩
  · cases h with
    | scr e => exact ⟨_, rfl, e.sq⟩
  · exact ow.elim
theorem Sh.set {l : List Int} (h : Sh Γ N H x (.set l)) : ∃ a, x = .ref a ∧ H a = some (SetO Γ.g.w a (fun i => l.contains i) l.length) ∧ l.Pairwise (· < ·) := by
  rcases h with h | ⟨a, _, _, ow⟩
  · cases h with
    | set e n r => exact ⟨_, rfl, e, r⟩
  · exact ow.elim
theorem Sh.dct {ks : List Key} {l : List D} (h : Sh Γ N H x (.dct ks l)) : ∃ (a : Addr) (kvs : List (Key × V)), x = .ref a ∧ H a = some (.dK kvs) ∧ kvs.map (·.1) = ks ∧ RepL Γ.g N H (kvs.map (·.2)) l := by
  rcases h with h | ⟨a, e, _, kvs, e2, z, r⟩
  · cases h with
    | dct e n r => exact ⟨_, _, rfl, e, rfl, r⟩
  · exact ⟨a, kvs, e, e2, z, r⟩
end
section
variable {g : G0} {N : Addr → Prop} {H : Hp} {x y : V} {i : Int}
theorem RepL.length : ∀ {vs : List V} {ds : List D}, RepL g N H vs ds → vs.length = ds.length
  | [], [], _ => rfl
  | v :: vs, d :: ds, h => by
    cases h with
    | cons _ h => simp [RepL.length h]
  | [], _ :: _, h => by cases h
  | _ :: _, [], h => by cases h
theorem RepL.append : ∀ {vs : List V} {ds : List D} {ws : List V} {es : List D}, RepL g N H vs ds → RepL g N H ws es → RepL g N H (vs ++ ws) (ds ++ es)
  | [], [], _, _, _, h => h
  | v :: vs, d :: ds, _, _, h, h2 => by
    cases h with
    | cons a b => exact .cons a (RepL.append b h2)
  | [], _ :: _, _, _, h, _ => by cases h
  | _ :: _, [], _, _, h, _ => by cases h
theorem RepL.get : ∀ {vs : List V} {ds : List D} {j : Nat} {d : D}, RepL g N H vs ds → ds[j]? = some d → ∃ v, vs[j]? = some v ∧ Rep g N H v d
  | [], [], j, d, _, e => by simp at e
  | v :: vs, d :: ds, 0, d', h, e => by
    cases h with
    | cons a b =>
      simp at e
      subst e
      exact ⟨v, rfl, a⟩
  | v :: vs, d :: ds, j + 1, d', h, e => by
    cases h with
    | cons a b =>
      obtain ⟨w, e1, r⟩ := RepL.get (j := j) (d := d') b (by simpa using e)
      exact ⟨w, by simpa using e1, r⟩
  | [], _ :: _, _, _, h, _ => by cases h
  | _ :: _, [], _, _, h, _ => by cases h
theorem RepL.drop : ∀ {vs : List V} {ds : List D} (n : Nat), RepL g N H vs ds → RepL g N H (vs.drop n) (ds.drop n)
  | [], [], n, h => by simpa using h
  | v :: vs, d :: ds, 0, h => h
  | v :: vs, d :: ds, n + 1, h => by
    cases h with
    | cons a b => exact RepL.drop n b
  | [], _ :: _, _, h => by cases h
  | _ :: _, [], _, h => by cases h
theorem RepL.take : ∀ {vs : List V} {ds : List D} (n : Nat), RepL g N H vs ds → RepL g N H (vs.take n) (ds.take n)
  | [], [], n, h => by simpa using h
  | v :: vs, d :: ds, 0, h => .nil
  | v :: vs, d :: ds, n + 1, h => by
    cases h with
    | cons a b => exact .cons a (RepL.take n b)
  | [], _ :: _, _, h => by cases h
  | _ :: _, [], _, h => by cases h
theorem RepL.set' : ∀ {vs : List V} {ds : List D} (n : Nat) {v : V} {d : D}, RepL g N H vs ds → Rep g N H v d → RepL g N H (vs.set n v) (ds.set n d)
  | [], [], n, _, _, h, _ => by simpa using h
  | v :: vs, d :: ds, 0, _, _, h, r => by
    cases h with
    | cons a b => exact .cons r b
  | v :: vs, d :: ds, n + 1, _, _, h, r => by
    cases h with
    | cons a b => exact .cons a (RepL.set' n b r)
  | [], _ :: _, _, _, _, h, _ => by cases h
  | _ :: _, [], _, _, _, h, _ => by cases h
theorem RepL.rev : ∀ {vs : List V} {ds : List D}, RepL g N H vs ds → RepL g N H vs.reverse ds.reverse
  | [], [], h => h
  | v :: vs, d :: ds, h => by
    cases h with
    | cons a b =>
      rw [List.reverse_cons, List.reverse_cons]
      exact (RepL.rev b).append (.cons a .nil)
  | [], _ :: _, h => by cases h
  | _ :: _, [], h => by cases h
theorem RepL.ints : ∀ {vs : List V} {ds : List D} {ns : List Int}, RepL g N H vs ds → ints? ds = some ns → vs = ns.map V.int
  | [], [], ns, h, e => by
    simp [ints?] at e
    subst e
    rfl
  | v :: vs, d :: ds, ns, h, e => by
    cases h with
    | cons a b =>
      cases d <;> simp only [ints?, Option.map_eq_some_iff, reduceCtorEq] at e
      obtain ⟨ms, e1, e2⟩ := e
      subst e2
      cases a
      rw [RepL.ints b e1]
      rfl
  | [], _ :: _, _, h, _ => by cases h
  | _ :: _, [], _, h, _ => by cases h
theorem RepL.bools : ∀ {vs : List V} {ds : List D} {ns : List Bool}, RepL g N H vs ds → bools? ds = some ns → vs = ns.map V.bl
  | [], [], ns, h, e => by
    simp [bools?] at e
    subst e
    rfl
  | v :: vs, d :: ds, ns, h, e => by
    cases h with
    | cons a b =>
      cases d <;> simp only [bools?, Option.map_eq_some_iff, reduceCtorEq] at e
      obtain ⟨ms, e1, e2⟩ := e
      subst e2
      cases a
      rw [RepL.bools b e1]
      rfl
  | [], _ :: _, _, h, _ => by cases h
  | _ :: _, [], _, h, _ => by cases h
theorem RepL.ofInts (ns : List Int) : RepL g N H (ns.map V.int) (ns.map D.int) := by
  induction ns with
  | nil => exact .nil
  | cons n r ih => exact .cons (.int n) ih
/-! plain data as the model's -/
mutual
theorem Rep.dp {K : PySem.W.Frag} : ∀ (n : Nat) (d : D) (v : V), okN n d = true → Rep g N H v d → Dp K H v (toPy d)
  | _, .non, _, _, h => by cases h; exact .non
  | _, .bl b, _, _, h => by cases h; exact .bl b
  | _, .int b, _, _, h => by cases h; exact .int b
  | _, .str b, _, _, h => by cases h; exact .str b
  | n + 1, .lst l, _, o, h => by
    cases h with
    | lst e _ r => exact .lst (SqL.of e) (RepL.dp n l _ (by simpa [okN] using o) r)
  | n + 1, .tup l, _, o, h => by
    cases h with
    | tup e _ r => exact .tup (SqT.of e) (RepL.dp n l _ (by simpa [okN] using o) r)
  | 0, .lst _, _, o, _ => by simp [okN] at o
  | 0, .tup _, _, o, _ => by simp [okN] at o
  | n, .set _, _, o, _ => by cases n <;> simp [okN] at o
  | n, .dct _ _, _, o, _ => by cases n <;> simp [okN] at o
  | n, .rep _, _, o, _ => by cases n <;> simp [okN] at o
  | n, .exc _ _, _, o, _ => by cases n <;> simp [okN] at o
  | n, .scr _, _, o, _ => by cases n <;> simp [okN] at o
  | n, .deal, _, o, _ => by cases n <;> simp [okN] at o
theorem RepL.dp {K : PySem.W.Frag} : ∀ (n : Nat) (ds : List D) (vs : List V), (∀ d ∈ ds, okN n d = true) → RepL g N H vs ds → DpAll K H vs (toPys ds)
  | _, [], _, _, h => by cases h; exact .nil
  | n, d :: ds, _, o, h => by
    cases h with
    | cons a b => exact .cons (Rep.dp n d _ (o d (List.mem_cons_self ..)) a) (RepL.dp n ds _ (fun z hz => o z (List.mem_cons_of_mem _ hz)) b)
end
end
section
variable {Γ : G} {N : Addr → Prop} {H : Hp} {x y : V} {i : Int}
theorem Sh.dp {K : PySem.W.Frag} {n : Nat} {d : D} (o : okN n d = true) (h : Sh Γ N H x d) : Dp K H x (toPy d) := by
  rcases h with h | ⟨a, e, _, ow⟩
  · exact Rep.dp n d x o h
  · cases d <;> first | exact ow.elim | skip
    · obtain ⟨vs, e2, r⟩ := ow
      subst e
      cases n with
      | zero => simp [okN] at o
      | succ n => exact .lst (SqL.of e2) (RepL.dp n _ _ (by simpa [okN] using o) r)
    · cases n <;> simp [okN] at o
end
mutual
theorem ok_lay : ∀ (n : Nat) (d : D), okN n d = true → (toPy d).canLay0 = true ∧ (toPy d).depth ≤ n
  | _, .non, _ => ⟨rfl, Nat.zero_le _⟩
  | _, .bl b, _ => ⟨rfl, Nat.zero_le _⟩
  | _, .int b, _ => ⟨rfl, Nat.zero_le _⟩
  | n, .str b, o => ⟨by cases n <;> simpa [okN, toPy, PyData.canLay0, PyData.strOk] using o, Nat.zero_le _⟩
  | n + 1, .lst l, o => by
    obtain ⟨h1, h2⟩ := ok_lays n l (by simpa [okN] using o)
    exact ⟨by simpa [toPy, PyData.canLay0] using h1, by simpa [toPy, PyData.depth] using h2⟩
  | n + 1, .tup l, o => by
    obtain ⟨h1, h2⟩ := ok_lays n l (by simpa [okN] using o)
    exact ⟨by simpa [toPy, PyData.canLay0] using h1, by simpa [toPy, PyData.depth] using h2⟩
  | 0, .lst _, o => by simp [okN] at o
  | 0, .tup _, o => by simp [okN] at o
  | n, .set _, o => by cases n <;> simp [okN] at o
  | n, .dct _ _, o => by cases n <;> simp [okN] at o
  | n, .rep _, o => by cases n <;> simp [okN] at o
  | n, .exc _ _, o => by cases n <;> simp [okN] at o
  | n, .scr _, o => by cases n <;> simp [okN] at o
  | n, .deal, o => by cases n <;> simp [okN] at o
theorem ok_lays : ∀ (n : Nat) (ds : List D), (∀ d ∈ ds, okN n d = true) → PyData.canLayAll0 (toPys ds) = true ∧ PyData.depthAll (toPys ds) ≤ n
  | _, [], _ => ⟨rfl, Nat.zero_le _⟩
  | n, d :: ds, o => by
    obtain ⟨h1, h2⟩ := ok_lay n d (o d (List.mem_cons_self ..))
    obtain ⟨h3, h4⟩ := ok_lays n ds (fun z hz => o z (List.mem_cons_of_mem _ hz))
    exact ⟨by simp [toPys, PyData.canLayAll0, h1, h3], by simp only [toPys, PyData.depthAll]; omega⟩
end
theorem ok_shaped {d : D} (o : ok d = true) : SeqAt.shaped (toPy d) = true := by
  obtain ⟨h1, h2⟩ := ok_lay 60 d o
  unfold SeqAt.shaped
  rw [h1]
  simp only [Bool.true_and, decide_eq_true_eq]
  omega
mutual
theorem eqv_py : ∀ (n m : Nat) (a b : D), okN n a = true → okN m b = true → PyData.eqv (toPy a) (toPy b) = a.eqv b
  | n, m, .lst l, .lst k, h, h' => by
    cases n <;> cases m <;> simp only [okN, Bool.false_eq_true] at h h'
    rename_i n m
    rw [D.eqv, toPy, toPy, PyData.eqv]
    exact eqv_pys n m l k (by simpa using h) (by simpa using h')
  | n, m, .tup l, .tup k, h, h' => by
    cases n <;> cases m <;> simp only [okN, Bool.false_eq_true] at h h'
    rename_i n m
    rw [D.eqv, toPy, toPy, PyData.eqv]
    exact eqv_pys n m l k (by simpa using h) (by simpa using h')
  | n, m, .non, b, h, h' => by cases m <;> cases b <;> simp_all [okN, toPy, D.eqv, PyData.eqv]
  | n, m, .bl _, b, h, h' => by cases m <;> cases b <;> simp_all [okN, toPy, D.eqv, PyData.eqv]
  | n, m, .int _, b, h, h' => by cases m <;> cases b <;> simp_all [okN, toPy, D.eqv, PyData.eqv]
  | n, m, .str _, b, h, h' => by cases m <;> cases b <;> simp_all [okN, toPy, D.eqv, PyData.eqv]
  | n, m, .lst _, .non, h, h' => by simp [toPy, D.eqv, PyData.eqv]
  | n, m, .lst _, .bl _, h, h' => by simp [toPy, D.eqv, PyData.eqv]
  | n, m, .lst _, .int _, h, h' => by simp [toPy, D.eqv, PyData.eqv]
  | n, m, .lst _, .str _, h, h' => by simp [toPy, D.eqv, PyData.eqv]
  | n, m, .lst _, .tup _, h, h' => by simp [toPy, D.eqv, PyData.eqv]
  | n, m, .tup _, .non, h, h' => by simp [toPy, D.eqv, PyData.eqv]
  | n, m, .tup _, .bl _, h, h' => by simp [toPy, D.eqv, PyData.eqv]
  | n, m, .tup _, .int _, h, h' => by simp [toPy, D.eqv, PyData.eqv]
  | n, m, .tup _, .str _, h, h' => by simp [toPy, D.eqv, PyData.eqv]
  | n, m, .tup _, .lst _, h, h' => by simp [toPy, D.eqv, PyData.eqv]
  | n, m, .lst _, .set _, _, o => by cases m <;> simp [okN] at o
  | n, m, .lst _, .dct _ _, _, o => by cases m <;> simp [okN] at o
  | n, m, .lst _, .rep _, _, o => by cases m <;> simp [okN] at o
  | n, m, .lst _, .exc _ _, _, o => by cases m <;> simp [okN] at o
  | n, m, .lst _, .scr _, _, o => by cases m <;> simp [okN] at o
  | n, m, .lst _, .deal, _, o => by cases m <;> simp [okN] at o
  | n, m, .tup _, .set _, _, o => by cases m <;> simp [okN] at o
  | n, m, .tup _, .dct _ _, _, o => by cases m <;> simp [okN] at o
  | n, m, .tup _, .rep _, _, o => by cases m <;> simp [okN] at o
  | n, m, .tup _, .exc _ _, _, o => by cases m <;> simp [okN] at o
  | n, m, .tup _, .scr _, _, o => by cases m <;> simp [okN] at o
  | n, m, .tup _, .deal, _, o => by cases m <;> simp [okN] at o
  | n, m, .set _, _, o, _ => by cases n <;> simp [okN] at o
  | n, m, .dct _ _, _, o, _ => by cases n <;> simp [okN] at o
  | n, m, .rep _, _, o, _ => by cases n <;> simp [okN] at o
  | n, m, .exc _ _, _, o, _ => by cases n <;> simp [okN] at o
  | n, m, .scr _, _, o, _ => by cases n <;> simp [okN] at o
  | n, m, .deal, _, o, _ => by cases n <;> simp [okN] at o
theorem eqv_pys : ∀ (n m : Nat) (a b : List D), (∀ d ∈ a, okN n d = true) → (∀ d ∈ b, okN m d = true) → PyData.eqvAll (toPys a) (toPys b) = eqvL a b
  | _, _, [], [], _, _ => rfl
  | _, _, [], _ :: _, _, _ => rfl
  | _, _, _ :: _, [], _, _ => rfl
  | n, m, x :: a, y :: b, h, h' => by
    rw [toPys, toPys, PyData.eqvAll, eqvL, eqv_py n m x y (h x (List.mem_cons_self ..)) (h' y (List.mem_cons_self ..)), eqv_pys n m a b (fun z hz => h z (List.mem_cons_of_mem _ hz)) (fun z hz => h' z (List.mem_cons_of_mem _ hz))]
end

/-! ### the operators -/
section
variable {X : Cx} {Γ : G}
theorem mono_qAdd : Mono2 qAdd := by intro x y Q Q' h q; cases x <;> cases y <;> first | exact (q : False).elim | exact h _ q | exact ⟨q.1, h _ q.2⟩
theorem mono_qSub : Mono2 qSub := by intro x y Q Q' h q; cases x <;> cases y <;> first | exact (q : False).elim | exact h _ q | exact ⟨q.1, h _ q.2⟩
theorem mono_qMul : Mono2 qMul := by intro x y Q Q' h q; cases x <;> cases y <;> first | exact (q : False).elim | exact h _ q | exact ⟨q.1, h _ q.2⟩ | exact ⟨q.1, q.2.1, q.2.2.1, h _ q.2.2.2⟩
theorem mono_qDiv : Mono2 qDiv := by intro x y Q Q' h q; cases x <;> cases y <;> first | exact (q : False).elim | exact h _ q | exact ⟨q.1, h _ q.2⟩
theorem mono_qMod : Mono2 qMod := by intro x y Q Q' h q; cases x <;> cases y <;> first | exact (q : False).elim | exact h _ q | exact ⟨q.1, h _ q.2⟩
theorem mono_qPow : Mono2 qPow := by intro x y Q Q' h q; cases x <;> cases y <;> first | exact (q : False).elim | exact h _ q | exact ⟨q.1, h _ q.2⟩
theorem mono_qLt : Mono2 qLt := by intro x y Q Q' h q; cases x <;> cases y <;> first | exact (q : False).elim | exact h _ q
theorem mono_qLe : Mono2 qLe := by intro x y Q Q' h q; cases x <;> cases y <;> first | exact (q : False).elim | exact h _ q
theorem mono_qGt : Mono2 qGt := by intro x y Q Q' h q; cases x <;> cases y <;> first | exact (q : False).elim | exact h _ q
theorem mono_qGe : Mono2 qGe := by intro x y Q Q' h q; cases x <;> cases y <;> first | exact (q : False).elim | exact h _ q
theorem mono_qEq : Mono2 qEq := by intro x y Q Q' h q; cases x <;> cases y <;> first | exact ⟨q.1, h _ q.2⟩ | exact ⟨q.1, q.2.1, h _ q.2.2⟩
theorem mono_qNe : Mono2 qNe := by intro x y Q Q' h q; cases x <;> cases y <;> first | exact ⟨q.1, h _ q.2⟩ | exact ⟨q.1, q.2.1, h _ q.2.2⟩
theorem mono_qIs : Mono2 qIs := by intro x y Q Q' h q; cases x <;> cases y <;> first | exact (q : False).elim | exact h _ q
theorem mono_qIsNot : Mono2 qIsNot := by intro x y Q Q' h q; cases x <;> cases y <;> first | exact (q : False).elim | exact h _ q
theorem mono_qIx : Mono2 qIx := by
  intro x y Q Q' h q
  cases x <;> cases y <;> first | exact (q : False).elim | skip
  all_goals
    obtain ⟨d, e, q⟩ := q
    exact ⟨d, e, h _ q⟩
theorem mono_qNeg : Mono1 qNeg := by intro x Q Q' h q; cases x <;> first | exact (q : False).elim | exact h _ q
theorem cap_line : cap = sizeLine := by rw [sizeLine_eq]

def rAddF (K : PySem.W.Frag) : R2 := fun x y H Q => rI0 (fun i j => .int (i + j)) x y H Q ∨ rCat x y H Q ∨ rCatA K x y H Q ∨ (∃ i j, x = .str i ∧ y = .str j ∧ i.length + j.length ≤ sizeLine ∧ Q (.str (i ++ j)) H)
theorem or_add : OpR X (binaryOp .Add) (rAddF X.K) := op_add.or (op_cat.or (op_catA.or op_add_str))
theorem ok_add : Op2Ok Γ qAdd (rAddF Γ.g.K) := by
  intro N H x y dx dy Qd Q n rx ry q k
  cases dx <;> cases dy <;> first | exact (q : False).elim | skip
  · exact .inl ⟨_, _, rx.int, ry.int, k _ H _ Ext.refl (.int _) q⟩
  · obtain ⟨z, q⟩ := q
    refine .inr (.inr (.inr ⟨_, _, rx.str, ry.str, ?_, k _ H _ Ext.refl (.str _) q⟩))
    rw [← cap_line]; exact z
  · obtain ⟨z, q⟩ := q
    obtain ⟨a, vs, rfl, ha, r1⟩ := rx.lst
    obtain ⟨b, ws, rfl, hb, r2⟩ := ry.lst
    refine .inr (.inl ⟨a, b, vs, ws, rfl, rfl, ha, hb, ?_, fun p hp => ?_⟩)
    · rw [← cap_line, r1.length, r2.length]; exact z
    · exact k _ _ _ (Ext.new hp) (.lst upd_same (n.new hp) ((r1.append r2).ext (Ext.new hp))) q
  · obtain ⟨z, q⟩ := q
    have rx' := rx
    have ry' := ry
    obtain ⟨a, vs, rfl, ha, na, r1⟩ := rx.tup
    obtain ⟨b, ws, rfl, hb, nb, r2⟩ := ry.tup
    refine .inr (.inr (.inl ⟨a, b, vs, ws, rfl, rfl, SqT.of ha, SqT.of hb, ?_, fun e => ?_, fun _ e => ?_, fun _ _ p hp => ?_⟩))
    · rw [← cap_line, r1.length, r2.length]; exact z
    · subst e
      cases r1
      exact k _ H _ Ext.refl (.tup hb nb r2) q
    · subst e
      cases r2
      rw [List.append_nil] at q
      exact k _ H _ Ext.refl (.tup ha na r1) q
    · exact k _ _ _ (Ext.new hp) (.tup upd_same (n.new hp) ((r1.append r2).ext (Ext.new hp))) q
theorem ok_sub : Op2Ok Γ qSub (rI0 fun i j => .int (i - j)) := by
  intro N H x y dx dy Qd Q n rx ry q k
  cases dx <;> cases dy <;> first | exact (q : False).elim | skip
  exact ⟨_, _, rx.int, ry.int, k _ H _ Ext.refl (.int _) q⟩
theorem mul_any {i j : Int} (h : MulOk i j) : IntMulOk i j := by
  rcases h with h | h | h
  · exact CMul.ok (.inl ⟨by omega, by omega⟩)
  · exact CMul.ok (.inr ⟨by omega, by omega⟩)
  · exact CMulW.ok h
theorem op_mulF : OpR X (binaryOp .Mult) (rI MulOk fun i j => .int (i * j)) := opI fun _ _ _ _ _ _ _ hc q => PyProof.Rows.mul_int q (mul_any hc)
def rMulF : R2 := fun x y H Q => rI MulOk (fun i j => .int (i * j)) x y H Q ∨ rRep x y H Q
theorem or_mul : OpR X (binaryOp .Mult) rMulF := op_mulF.or op_rep
theorem RepL.times {g : G0} {N : Addr → Prop} {H : Hp} {vs : List V} {ds : List D} (h : RepL g N H vs ds) : ∀ k : Nat, RepL g N H (List.replicate k vs).flatten (List.replicate k ds).flatten
  | 0 => .nil
  | k + 1 => by
    rw [List.replicate_succ, List.replicate_succ, List.flatten_cons, List.flatten_cons]
    exact h.append (h.times k)
theorem ok_mul : Op2Ok Γ qMul rMulF := by
  intro N H x y dx dy Qd Q n rx ry q k
  cases dx <;> cases dy <;> first | exact (q : False).elim | skip
  · exact .inl ⟨_, _, rx.int, ry.int, q.1, k _ H _ Ext.refl (.int _) q.2⟩
  · obtain ⟨z0, z1, z, q⟩ := q
    obtain ⟨a, vs, rfl, ha, r1⟩ := rx.lst
    refine .inr ⟨a, _, vs, rfl, ry.int, ha, by omega, by omega, ?_, fun p hp => ?_⟩
    · rw [← cap_line, r1.length]; exact z
    · exact k _ _ _ (Ext.new hp) (.lst upd_same (n.new hp) ((r1.times _).ext (Ext.new hp))) q
theorem ok_div : Op2Ok Γ qDiv (rI CDivW fun i j => .int (i / j)) := by
  intro N H x y dx dy Qd Q n rx ry q k
  cases dx <;> cases dy <;> first | exact (q : False).elim | skip
  exact ⟨_, _, rx.int, ry.int, q.1, k _ H _ Ext.refl (.int _) q.2⟩
theorem ok_mod : Op2Ok Γ qMod (rI (fun _ j => 0 < j) fun i j => .int (i % j)) := by
  intro N H x y dx dy Qd Q n rx ry q k
  cases dx <;> cases dy <;> first | exact (q : False).elim | skip
  exact ⟨_, _, rx.int, ry.int, q.1, k _ H _ Ext.refl (.int _) q.2⟩
theorem ok_pow : Op2Ok Γ qPow (rI CPow fun i j => .int (i ^ j.toNat)) := by
  intro N H x y dx dy Qd Q n rx ry q k
  cases dx <;> cases dy <;> first | exact (q : False).elim | skip
  exact ⟨_, _, rx.int, ry.int, q.1, k _ H _ Ext.refl (.int _) q.2⟩
theorem ok_lt : Op2Ok Γ qLt (rI0 fun i j => .bl (decide (i < j))) := by
  intro N H x y dx dy Qd Q n rx ry q k
  cases dx <;> cases dy <;> first | exact (q : False).elim | skip
  exact ⟨_, _, rx.int, ry.int, k _ H _ Ext.refl (.bl _) q⟩
theorem ok_le : Op2Ok Γ qLe (rI0 fun i j => .bl (decide (i ≤ j))) := by
  intro N H x y dx dy Qd Q n rx ry q k
  cases dx <;> cases dy <;> first | exact (q : False).elim | skip
  exact ⟨_, _, rx.int, ry.int, k _ H _ Ext.refl (.bl _) q⟩
theorem ok_gt : Op2Ok Γ qGt (rI0 fun i j => .bl (decide (j < i))) := by
  intro N H x y dx dy Qd Q n rx ry q k
  cases dx <;> cases dy <;> first | exact (q : False).elim | skip
  exact ⟨_, _, rx.int, ry.int, k _ H _ Ext.refl (.bl _) q⟩
theorem ok_ge : Op2Ok Γ qGe (rI0 fun i j => .bl (decide (j ≤ i))) := by
  intro N H x y dx dy Qd Q n rx ry q k
  cases dx <;> cases dy <;> first | exact (q : False).elim | skip
  exact ⟨_, _, rx.int, ry.int, k _ H _ Ext.refl (.bl _) q⟩
def rEqF (K : PySem.W.Frag) : R2 := fun x y H Q => rEq x y H Q ∨ rEqD K x y H Q
def rNeF (K : PySem.W.Frag) : R2 := fun x y H Q => rNe x y H Q ∨ rNeD K x y H Q
theorem or_eq (hu : X.A.units + 64 < cLine) : OpR X (compareOp .Eq) (rEqF X.K) := op_eq.or (op_eqD hu)
theorem or_ne (hu : X.A.units + 64 < cLine) : OpR X (compareOp .NotEq) (rNeF X.K) := op_ne.or (op_neD hu)
theorem ok_eq : Op2Ok Γ qEq (rEqF Γ.g.K) := by
  intro N H x y dx dy Qd Q n rx ry q k
  have gen : (ok dx = true ∧ ok dy = true ∧ Qd (.bl (dx.eqv dy))) → rEqF Γ.g.K x y H Q := fun ⟨o1, o2, q⟩ =>
    .inr ⟨toPy dx, toPy dy, rx.dp o1, ry.dp o2, ok_shaped o1, ok_shaped o2, by rw [eqv_py 60 60 dx dy o1 o2]; exact k _ H _ Ext.refl (.bl _) q⟩
  cases dx <;> cases dy <;> first | exact gen q | skip
  obtain ⟨rfl, q⟩ := q
  refine .inl ?_
  rw [rx.rep, ry.rep]
  exact ⟨rfl, by rw [decide_eq_true rfl]; exact k _ H _ Ext.refl (.bl _) q⟩
theorem ok_ne : Op2Ok Γ qNe (rNeF Γ.g.K) := by
  intro N H x y dx dy Qd Q n rx ry q k
  have gen : (ok dx = true ∧ ok dy = true ∧ Qd (.bl (!dx.eqv dy))) → rNeF Γ.g.K x y H Q := fun ⟨o1, o2, q⟩ =>
    .inr ⟨toPy dx, toPy dy, rx.dp o1, ry.dp o2, ok_shaped o1, ok_shaped o2, by rw [eqv_py 60 60 dx dy o1 o2]; exact k _ H _ Ext.refl (.bl _) q⟩
  cases dx <;> cases dy <;> first | exact gen q | skip
  obtain ⟨rfl, q⟩ := q
  refine .inl ?_
  rw [rx.rep, ry.rep]
  exact ⟨rfl, by rw [decide_eq_true rfl]; exact k _ H _ Ext.refl (.bl _) q⟩
theorem Sh.isNone {N : Addr → Prop} {H : Hp} {x : V} {d : D} (h : Sh Γ N H x d) : decide (x = .non) = isNone d := by
  rcases h with h | ⟨a, e, _, ow⟩
  · cases h <;> rfl
  · subst e
    cases d <;> first | exact ow.elim | rfl
def rIsF : R2 := fun x y H Q => (y = .non ∧ Q (.bl (decide (x = .non))) H) ∨ rIsB x y H Q
def rIsNotF : R2 := fun x y H Q => (y = .non ∧ Q (.bl (!decide (x = .non))) H) ∨ rNotB x y H Q
theorem or_is : OpR X (compareOp .Is) rIsF := op_isN.or op_isBl
theorem or_isnot : OpR X (compareOp .IsNot) rIsNotF := op_notN.or op_notBl
theorem ok_is : Op2Ok Γ qIs rIsF := by
  intro N H x y dx dy Qd Q n rx ry q k
  have gen : dy = .non → Qd (.bl (isNone dx)) → rIsF x y H Q := fun e q => by
    subst e
    exact .inl ⟨ry.non, by rw [rx.isNone]; exact k _ H _ Ext.refl (.bl _) q⟩
  cases dx <;> cases dy <;> first | exact (q : False).elim | exact gen rfl q | skip
  exact .inr ⟨_, _, rx.bl, ry.bl, k _ H _ Ext.refl (.bl _) q⟩
theorem ok_isnot : Op2Ok Γ qIsNot rIsNotF := by
  intro N H x y dx dy Qd Q n rx ry q k
  have gen : dy = .non → Qd (.bl (!isNone dx)) → rIsNotF x y H Q := fun e q => by
    subst e
    exact .inl ⟨ry.non, by rw [rx.isNone]; exact k _ H _ Ext.refl (.bl _) q⟩
  cases dx <;> cases dy <;> first | exact (q : False).elim | exact gen rfl q | skip
  exact .inr ⟨_, _, rx.bl, ry.bl, k _ H _ Ext.refl (.bl _) q⟩
end
end Fy
set_option Elab.async false
set_option linter.all false
set_option maxRecDepth 100000
set_option maxHeartbeats 4000000
/-! FyC: indexes, slices, built-in calls, displays, own calls, comprehensions. -/
namespace Fy
open PySem L2

section
variable {X : Cx} {Γ : G} {W : WX} {O : List Nat} {e a b c : Expr} {f fa fb : FTE} {pos p p2 : Pos} {m : Md}
/-! ### x[i] -/
def rIxF (K : PySem.W.Frag) : R2 := fun x y H Q => rIxL K x y H Q ∨ rIxT K x y H Q
theorem or_ix : IxR X (rIxF X.K) := ix_list.or ix_tup
theorem at_some {N : Addr → Prop} {H : Hp} {vs : List V} {l : List D} {i : Int} {d : D} (r : RepL Γ.g N H vs l) (h : (ixOf l.length i).bind (fun j => l[j]?) = some d) : ∃ v, atI vs i = some v ∧ Rep Γ.g N H v d := by
  cases hx : ixOf l.length i with
  | none => rw [hx] at h; cases h
  | some j =>
    rw [hx] at h
    obtain ⟨v, e1, r1⟩ := r.get (j := j) (d := d) h
    refine ⟨v, ?_, r1⟩
    unfold atI
    rw [show ixN vs.length i = ixOf l.length i from by rw [r.length]; rfl, hx]
    exact e1
theorem ok_ix : Op2Ok Γ qIx (rIxF Γ.g.K) := by
  intro N H x y dx dy Qd Q n rx ry q k
  cases dx <;> cases dy <;> first | exact (q : False).elim | skip
  · obtain ⟨d, e, q⟩ := q
    obtain ⟨a, vs, rfl, ha, r1⟩ := rx.lst
    obtain ⟨v, e1, r2⟩ := at_some r1 e
    exact .inl ⟨a, vs, _, v, rfl, ry.int, SqL.of ha, e1, k _ H _ Ext.refl r2 q⟩
  · obtain ⟨d, e, q⟩ := q
    obtain ⟨a, vs, rfl, ha, _, r1⟩ := rx.tup
    obtain ⟨v, e1, r2⟩ := at_some r1 e
    exact .inr ⟨a, vs, _, v, rfl, ry.int, SqT.of ha, e1, k _ H _ Ext.refl r2 q⟩
  · obtain ⟨n, e, q⟩ := q
    obtain ⟨a, rfl, ha⟩ := rx.scr
    refine .inl ⟨a, _, _, .int n, rfl, ry.int, ha, ?_, k _ H _ Ext.refl (.int n) q⟩
    rename_i ns i
    cases hx : ixOf ns.length i with
    | none => rw [hx] at e; cases e
    | some j =>
      rw [hx] at e
      have e' : ns[j]? = some n := e
      unfold atI
      rw [show ixN (ns.map V.int).length i = ixOf ns.length i from by rw [List.length_map]; rfl, hx]
      show (ns.map V.int)[j]? = _
      rw [List.getElem?_map, e']
      rfl
theorem fe_ix (hK : Γ.g.K = X.K) (ha : FE X Γ W O .sh a fa) (hb : FE X Γ W O .sh b fb) (hs : PlainIx b := by exact fun _ _ => rfl) : FE X Γ W O .cl (.Subscript a b pos) (fOp qIx fa fb) :=
  ⟨mono_Op mono_qIx ha.mono hb.mono, (pe_ix or_ix ha.pe hb.pe hs).imp fun _ _ _ h => by rw [← hK]; exact op_run ok_ix mono_qIx ha hb h⟩
/-! ### slices -/
def MonoO (f : FTO) : Prop := ∀ env st (Q Q' : Option Int → S → Prop) (X X' : XC), (∀ d s, Q d s → Q' d s) → (∀ t d s, X t d s → X' t d s) → f env st Q X → f env st Q' X'
def liftO (Γ : G) (W : WX) (O : List Nat) (f : FTO) : TO := fun σ H Q => ∃ env st, EnvR Γ O H σ env ∧ ST Γ H st ∧
  f env st (fun d st' => ∀ H', Ev (Zone Γ.g) H H' → ST Γ H' st' → Q d H') (exK Γ W O σ H)
structure FO (X : Cx) (Γ : G) (W : WX) (O : List Nat) (e : Option Expr) (f : FTO) : Prop where
  mono : MonoO f
  po : PO X e (liftO Γ W O f)
theorem _root_.L2.PO.imp {X : Cx} {e : Option Expr} {t t' : TO} (h : PO X e t) (k : ∀ σ H Q, t' σ H Q → t σ H Q) : PO X e t' := ⟨fun pins s σ H Q I hw => h.run pins s σ H Q I (k σ H Q hw)⟩
theorem fo_none : FO X Γ W O none oNone := ⟨fun _ _ _ _ _ _ h _ q => h _ _ q, po_none.imp fun σ H Q ⟨env, st, R, T, q⟩ => q H Ev.refl T⟩
theorem mono_oSome (ha : MonoE fa) : MonoO (oSome fa) := fun env st Q Q' X X' h hx q => ha _ _ _ _ _ _ (fun d s z => by
  cases d <;> first | exact z.elim | exact h _ _ z) hx q
theorem fo_some (ha : FE X Γ W O .cl a fa) : FO X Γ W O (some a) (oSome fa) :=
  ⟨mono_oSome ha.mono, (po_some ha.pe).imp fun σ H Q ⟨env, st, R, T, q⟩ => ⟨env, st, R, T, ha.mono _ _ _ _ _ _ (fun d s z v H' e1 e2 r => by
    cases d <;> first | exact z.elim | skip
    cases r
    exact ⟨_, rfl, z H' e1 e2⟩) (fun _ _ _ z => z) q⟩⟩
theorem mono_qCut {lo hi : Option Int} : Mono1 (qCut lo hi) := by intro x Q Q' h q; cases x <;> first | exact (q : False).elim | exact h _ q
theorem RepL.cut {g : G0} {N : Addr → Prop} {H : Hp} {vs : List V} {l : List D} (r : RepL g N H vs l) (lo hi : Option Int) : RepL g N H (cutV vs lo hi) (cutL l lo hi) := by
  unfold cutV cutL
  rw [r.length]
  exact (r.drop _).take _
def rCutF (K : PySem.W.Frag) : V → Option Int → Option Int → Hp → VK → Prop := fun x lo hi H Q => rSlL K x lo hi H Q ∨ rSlA K x lo hi H Q
theorem or_cut : SlR X (rCutF X.K) := sl_list.or sl_tupA
theorem cut_map {α β : Type} (g : α → β) (l : List α) (lo hi : Option Int) : (cutL l lo hi).map g = cutL (l.map g) lo hi := by
  unfold cutL
  rw [List.length_map, List.map_take, List.map_drop]
theorem cut_whole {α : Type} {l : List α} {lo hi : Option Int} (h : sIx l.length 0 lo = 0 ∧ sIx l.length l.length hi = l.length) : cutL l lo hi = l := by
  unfold cutL
  rw [h.1, h.2]
  simp
theorem ok_cut {lo hi : Option Int} : Op1Ok Γ (qCut lo hi) (fun x H Q => rCutF Γ.g.K x lo hi H Q) := by
  intro N H x dx Qd Q n rx q k
  cases dx <;> first | exact (q : False).elim | skip
  · obtain ⟨a, vs, rfl, ha, r1⟩ := rx.lst
    exact .inl ⟨a, vs, rfl, SqL.of ha, fun p hp => k _ _ _ (Ext.new hp) (.lst upd_same (n.new hp) ((r1.cut lo hi).ext (Ext.new hp))) q⟩
  · obtain ⟨a, vs, rfl, ha, na, r1⟩ := rx.tup
    refine .inr ⟨a, vs, rfl, SqT.of ha, fun w => ?_, fun _ p hp => k _ _ _ (Ext.new hp) (.tup upd_same (n.new hp) ((r1.cut lo hi).ext (Ext.new hp))) q⟩
    refine k _ H _ Ext.refl (.tup ha na r1) ?_
    rename_i l
    have w' : sIx l.length 0 lo = 0 ∧ sIx l.length l.length hi = l.length := by rw [← r1.length]; exact w
    have q' : Qd (.tup (cutL l lo hi)) := q
    rw [cut_whole w'] at q'
    exact q'
  · obtain ⟨a, rfl, ha⟩ := rx.scr
    rename_i ns
    refine .inl ⟨a, _, rfl, ha, fun p hp => k _ _ _ (Ext.new hp) (.lst upd_same (n.new hp) ?_) q⟩
    rw [show cutV (ns.map V.int) lo hi = (cutL ns lo hi).map V.int from (cut_map _ _ _ _).symm]
    exact RepL.ofInts _
theorem fe_cut {lo hi : Option Expr} {fl fh : FTO} (hK : Γ.g.K = X.K) (ha : FE X Γ W O .sh a fa) (hl : FO X Γ W O lo fl) (hh : FO X Γ W O hi fh) : FE X Γ W O .cl (.Subscript a (.Slice lo hi none p2) pos) (fCut fa fl fh) :=
  ⟨fun env st Q Q' X X' h hx q => ha.mono _ _ _ _ _ _ (fun x s1 z => hl.mono _ _ _ _ _ _ (fun l s2 z => hh.mono _ _ _ _ _ _ (fun h2 s3 z => mono_qCut _ _ _ (fun r => h r s3) z) hx z) hx z) hx q,
  (pe_slice or_cut ha.pe hl.po hh.po).imp fun σ H Q ⟨env, st, R, T, q⟩ => ⟨env, st, R, T, ha.mono _ _ _ _ _ _ (fun dx s1 z v H1 e1 T1 r1 => ⟨env, s1, R.ev e1, T1, hl.mono _ _ _ _ _ _ (fun l s2 z H2 e2 T2 => ⟨env, s2, (R.ev e1).ev e2, T2,
    hh.mono _ _ _ _ _ _ (fun h s3 z H3 e3 T3 => by
      rw [← hK]
      refine ok_cut _ H3 v dx _ Q ((((R.nok T).zone e1).zone e2).zone e3) ((r1.zone e2).zone e3) z fun u H' d x rp qd => qd u H' (e1.trans (e2.trans (e3.trans x.ev))) (T3.ext x) rp) (fun t d s z => exK.ev (e1.trans e2) z) z⟩) (fun t d s z => exK.ev e1 z) z⟩) (fun _ _ _ z => z) q⟩⟩
/-- x[::-1] of a list -/
theorem fe_rev {k : Nat} {p1 p3 : Pos} (hK : Γ.g.K = X.K) (ha : FE X Γ W O .sh a fa) : FE X Γ W O .cl (.Subscript a (.Slice none none (some (.UnaryOp .USub (.Constant (.int 1) k p1) p2)) p3) pos) (fUn qRev fa) :=
  ⟨mono_Un (by intro x Q Q' h q; cases x <;> first | exact (q : False).elim | exact h _ q) ha.mono, (pe_revL ha.pe).imp fun σ H Q ⟨env, st, R, T, q⟩ => ⟨env, st, R, T, ha.mono _ _ _ _ _ _ (fun dx s1 z v H1 e1 T1 r1 => by
    cases dx <;> first | exact (z : False).elim | skip
    obtain ⟨a, vs, rfl, ha, r2⟩ := r1.lst
    exact ⟨a, vs, rfl, SqL.of ha, fun p hp => z _ _ (e1.trans (Ext.new hp).ev) (T1.ext (Ext.new hp)) (.lst upd_same (((R.nok T).zone e1).new hp) (r2.rev.ext (Ext.new hp)))⟩) (fun _ _ _ z => z) q⟩⟩
/-! ### built-ins by one value -/
theorem un_run {r : V → Hp → VK → Prop} {q : Op1} (ok : Op1Ok Γ q r) (ha : FE X Γ W O .sh a fa) {σ : St} {H : Hp} {Q : VK} (h : liftE Γ W .cl O (fUn q fa) σ H Q) :
    liftE Γ W .sh O fa σ H fun x H1 => r x H1 Q := by
  obtain ⟨env, st, R, T, h⟩ := h
  exact ⟨env, st, R, T, ha.mono _ _ _ _ _ _ (fun dx s1 q1 v H1 e1 T1 r1 => ok _ H1 v dx _ Q ((R.nok T).zone e1) r1 q1 fun u H' d x rp qd => qd u H' (e1.trans x.ev) (T1.ext x) rp) (fun _ _ _ z => z) h⟩
theorem un_runF {r : V → Hp → VK → Prop} {q : Op1} (ok : Op1Fr Γ q r) (ha : FE X Γ W O .sh a fa) {σ : St} {H : Hp} {Q : VK} (h : liftE Γ W .fr O (fUn q fa) σ H Q) :
    liftE Γ W .sh O fa σ H fun x H1 => r x H1 Q := by
  obtain ⟨env, st, R, T, h⟩ := h
  exact ⟨env, st, R, T, ha.mono _ _ _ _ _ _ (fun dx s1 q1 v H1 e1 T1 r1 => ok _ H1 v dx _ Q ((R.nok T).zone e1) r1 q1 fun u H' d x hn rp qd => qd _ H' (e1.trans x.ev) (T1.ext x) ⟨u, rfl, e1.t _ hn, rp⟩) (fun _ _ _ z => z) h⟩
theorem fe_un {op : UnaryOp} {r : V → Hp → VK → Prop} {q : Op1} (ho : UnR X (unaryOp op) r) (ok : Op1Ok Γ q r) (hq : Mono1 q) (ha : FE X Γ W O .sh a fa) : FE X Γ W O .cl (.UnaryOp op a pos) (fUn q fa) :=
  ⟨mono_Un hq ha.mono, (pe_un ho ha.pe).imp fun _ _ _ h => un_run ok ha h⟩
theorem ok_neg : Op1Ok Γ qNeg (rU fun i => .int (-i)) := by
  intro N H x dx Qd Q n rx q k
  cases dx <;> first | exact (q : False).elim | skip
  exact ⟨_, rx.int, k _ H _ Ext.refl (.int _) q⟩
/-- f(e), f a built-in function; a built-in class -/
theorem fe_b1 {id : String} {x : Str} {r : List V → Hp → VK → Prop} {q : Op1} (hc : CallR X (.builtin id) r) (ok : Op1Ok Γ q (fun x H Q => r [x] H Q)) (hq : Mono1 q) (hm : X.mg x = none) (ha : FE X Γ W O .sh a fa)
    (hg : Gl X x := by rfl) (hv : bootBuiltins x = some (.builtin id) := by decide +kernel) (hn : x ≠ "__name__" := by decide) (hdb : (x == ("__debug__" : Str)) = false := by decide)
    (he : starEach [a] X.env = (false, eval a X.env) :: starEach [] X.env := by rfl) (hpl : (backTo pos (starEach [] X.env)).any (·.1) = false := by rfl) : FE X Γ W O .cl (.Call (.Name x p) [a] [] pos) (fUn q fa) :=
  ⟨mono_Un hq ha.mono, (pe_callB hc hg hm hv (pa_cons ha.pe pa_nil he) hn hdb he hpl).imp fun _ _ _ h => un_run (r := fun x H Q => r [x] H Q) ok ha h⟩
theorem fe_t1 {T : String} {x : Str} {r : List V → Hp → VK → Prop} {q : Op1} (hc : CallR X (.type T) r) (ok : Op1Ok Γ q (fun x H Q => r [x] H Q)) (hq : Mono1 q) (hm : X.mg x = none) (ha : FE X Γ W O .sh a fa)
    (hg : Gl X x := by rfl) (hv : bootBuiltins x = some (.type T) := by decide +kernel) (hn : x ≠ "__name__" := by decide) (hdb : (x == ("__debug__" : Str)) = false := by decide)
    (he : starEach [a] X.env = (false, eval a X.env) :: starEach [] X.env := by rfl) (hpl : (backTo pos (starEach [] X.env)).any (·.1) = false := by rfl) : FE X Γ W O .cl (.Call (.Name x p) [a] [] pos) (fUn q fa) :=
  ⟨mono_Un hq ha.mono, (pe_callTy hc hg hm hv (pa_cons ha.pe pa_nil he) hn hdb he hpl).imp fun _ _ _ h => un_run (r := fun x H Q => r [x] H Q) ok ha h⟩
theorem fe_t1F {T : String} {x : Str} {r : List V → Hp → VK → Prop} {q : Op1} (hc : CallR X (.type T) r) (ok : Op1Fr Γ q (fun x H Q => r [x] H Q)) (hq : Mono1 q) (hm : X.mg x = none) (ha : FE X Γ W O .sh a fa)
    (hg : Gl X x := by rfl) (hv : bootBuiltins x = some (.type T) := by decide +kernel) (hn : x ≠ "__name__" := by decide) (hdb : (x == ("__debug__" : Str)) = false := by decide)
    (he : starEach [a] X.env = (false, eval a X.env) :: starEach [] X.env := by rfl) (hpl : (backTo pos (starEach [] X.env)).any (·.1) = false := by rfl) : FE X Γ W O .fr (.Call (.Name x p) [a] [] pos) (fUn q fa) :=
  ⟨mono_Un hq ha.mono, (pe_callTy hc hg hm hv (pa_cons ha.pe pa_nil he) hn hdb he hpl).imp fun _ _ _ h => un_runF (r := fun x H Q => r [x] H Q) ok ha h⟩
/-- f(a, b) -/
theorem fe_b2 {id : String} {x : Str} {r : List V → Hp → VK → Prop} {q : Op2} (hc : CallR X (.builtin id) r) (ok : Op2Ok Γ q (fun x y H Q => r [x, y] H Q)) (hq : Mono2 q) (hm : X.mg x = none) (ha : FE X Γ W O .sh a fa) (hb : FE X Γ W O .sh b fb)
    (hg : Gl X x := by rfl) (hv : bootBuiltins x = some (.builtin id) := by decide +kernel) (hn : x ≠ "__name__" := by decide) (hdb : (x == ("__debug__" : Str)) = false := by decide)
    (he : starEach [a, b] X.env = (false, eval a X.env) :: starEach [b] X.env := by rfl) (he2 : starEach [b] X.env = (false, eval b X.env) :: starEach [] X.env := by rfl) (hpl : (backTo pos (starEach [b] X.env)).any (·.1) = false := by rfl) :
    FE X Γ W O .cl (.Call (.Name x p) [a, b] [] pos) (fOp q fa fb) :=
  ⟨mono_Op hq ha.mono hb.mono, (pe_callB hc hg hm hv (pa_cons ha.pe (pa_cons hb.pe pa_nil he2) he) hn hdb he hpl).imp fun _ _ _ h => op_run (r := fun x y H Q => r [x, y] H Q) ok hq ha hb h⟩
theorem mono1 {q : Op1} (h : ∀ x (Q Q' : D → Prop), (∀ d, Q d → Q' d) → q x Q → q x Q') : Mono1 q := h
theorem mono_qLen : Mono1 qLen := by intro x Q Q' h q; cases x <;> first | exact (q : False).elim | exact h _ q | exact ⟨q.1, h _ q.2⟩
theorem mono_qInt : Mono1 qInt := by intro x Q Q' h q; cases x <;> first | exact (q : False).elim | exact h _ q
theorem mono_qAbs : Mono1 qAbs := by intro x Q Q' h q; cases x <;> first | exact (q : False).elim | exact h _ q
theorem mono_qList : Mono1 qList := by intro x Q Q' h q; cases x <;> first | exact (q : False).elim | exact h _ q
theorem mono_qTuple : Mono1 qTuple := by intro x Q Q' h q; cases x <;> first | exact (q : False).elim | exact h _ q
theorem mono_qMax2 : Mono2 qMax2 := by intro x y Q Q' h q; cases x <;> cases y <;> first | exact (q : False).elim | exact h _ q
theorem mono_qMin2 : Mono2 qMin2 := by intro x y Q Q' h q; cases x <;> cases y <;> first | exact (q : False).elim | exact h _ q
theorem mono_qSum : Mono1 qSum := by intro x Q Q' h q; cases x <;> first | exact (q : False).elim | exact ⟨_, q.choose_spec.1, h _ q.choose_spec.2⟩
theorem mono_qAll : Mono1 qAll := by intro x Q Q' h q; cases x <;> first | exact (q : False).elim | exact ⟨_, q.choose_spec.1, h _ q.choose_spec.2⟩
theorem mono_qAny : Mono1 qAny := by intro x Q Q' h q; cases x <;> first | exact (q : False).elim | exact ⟨_, q.choose_spec.1, h _ q.choose_spec.2⟩
theorem mono_qMin : Mono1 qMin := by intro x Q Q' h q; cases x <;> first | exact (q : False).elim | exact ⟨_, q.choose_spec.1, q.choose_spec.2.1, h _ q.choose_spec.2.2⟩
theorem mono_qMax : Mono1 qMax := by intro x Q Q' h q; cases x <;> first | exact (q : False).elim | exact ⟨_, q.choose_spec.1, q.choose_spec.2.1, h _ q.choose_spec.2.2⟩
theorem mono_qSorted : Mono1 qSorted := by intro x Q Q' h q; cases x <;> first | exact (q : False).elim | exact ⟨_, q.choose_spec.1, h _ q.choose_spec.2⟩ | exact ⟨q.1, h _ q.2⟩
theorem mono_qSet : Mono1 qSet := by intro x Q Q' h q; cases x <;> first | exact (q : False).elim | exact ⟨_, q.choose_spec.1, q.choose_spec.2.1, h _ q.choose_spec.2.2⟩
theorem mono_qRepr : Mono1 qRepr := by intro x Q Q' h q; exact ⟨q.1, q.2.1, h _ q.2.2⟩
theorem mono_qIsI {ts : List Ty} : Mono1 (qIsI ts) := by intro x Q Q' h ⟨b, e, q⟩; exact ⟨b, e, h _ q⟩
/-! len -/
def rLenF (K : PySem.W.Frag) : List V → Hp → VK → Prop := fun xs H Q => (∃ p ys, xs = [.ref p] ∧ (SqL K H p ys ∨ SqT K H p ys) ∧ Q (.int ys.length) H) ∨ (∃ z, xs = [.str z] ∧ z.length ≤ sizeLine ∧ Q (.int z.length) H) ∨
  ∃ (d : Addr) (kvs : List (Key × V)), xs = [.ref d] ∧ H d = some (.dK kvs) ∧ Q (.int kvs.length) H
theorem CallR.or {f : Value} {r r' : List V → Hp → VK → Prop} (h : CallR X f r) (h' : CallR X f r') : CallR X f (fun xs H Q => r xs H Q ∨ r' xs H Q) := by
  intro pins s σ H xs us Q I rv q
  rcases q with q | q
  · exact h pins s σ H xs us Q I rv q
  · exact h' pins s σ H xs us Q I rv q
end
end Fy
set_option Elab.async false
set_option linter.all false
set_option maxRecDepth 100000
set_option maxHeartbeats 4000000
/-! FyD: built-ins by values. -/
namespace Fy
open PySem L2

/-! ### sorted lists are told by their members -/
theorem sorted_eq : ∀ {a b : List Int}, a.Pairwise (· < ·) → b.Pairwise (· < ·) → (∀ k, k ∈ a ↔ k ∈ b) → a = b
  | [], [], _, _, _ => rfl
  | [], y :: b, _, _, h => by have := (h y).2 (List.mem_cons_self ..); cases this
  | x :: a, [], _, _, h => by have := (h x).1 (List.mem_cons_self ..); cases this
  | x :: a, y :: b, ha, hb, h => by
    rw [List.pairwise_cons] at ha hb
    have e : x = y := by
      rcases List.mem_cons.mp ((h x).1 (List.mem_cons_self ..)) with q | q
      · exact q
      · rcases List.mem_cons.mp ((h y).2 (List.mem_cons_self ..)) with r | r
        · exact r.symm
        · have := hb.1 x q
          have := ha.1 y r
          omega
    subst e
    rw [sorted_eq ha.2 hb.2 fun k => ?_]
    constructor
    · intro hk
      rcases List.mem_cons.mp ((h k).1 (List.mem_cons_of_mem _ hk)) with q | q
      · subst q
        have := ha.1 k hk
        omega
      · exact q
    · intro hk
      rcases List.mem_cons.mp ((h k).2 (List.mem_cons_of_mem _ hk)) with q | q
      · subst q
        have := hb.1 k hk
        omega
      · exact q
theorem perm_insI (x : Int) : ∀ l, (insI x l).Perm (x :: l)
  | [] => .refl _
  | y :: r => by
    unfold insI
    split
    · exact .refl _
    · exact (List.Perm.cons y (perm_insI x r)).trans (List.Perm.swap x y r)
theorem perm_sortI : ∀ l, (sortI l).Perm l
  | [] => .refl _
  | x :: r => (perm_insI x _).trans ((perm_sortI r).cons x)
theorem pw_insI (x : Int) : ∀ l : List Int, l.Pairwise (· ≤ ·) → (insI x l).Pairwise (· ≤ ·)
  | [], _ => by simp [insI]
  | y :: r, h => by
    rw [List.pairwise_cons] at h
    unfold insI
    split
    · rw [List.pairwise_cons]
      refine ⟨fun z hz => ?_, List.pairwise_cons.mpr h⟩
      rcases List.mem_cons.mp hz with q | q
      · subst q; assumption
      · have := h.1 z q; omega
    · rw [List.pairwise_cons]
      refine ⟨fun z hz => ?_, pw_insI x r h.2⟩
      rcases List.mem_cons.mp ((perm_insI x r).mem_iff.mp hz) with q | q
      · subst q; omega
      · exact h.1 z q
theorem pw_sortI : ∀ l : List Int, (sortI l).Pairwise (· ≤ ·)
  | [] => .nil
  | x :: r => pw_insI x _ (pw_sortI r)
theorem perm_sorted_eq : ∀ {a b : List Int}, a.Perm b → a.Pairwise (· ≤ ·) → b.Pairwise (· ≤ ·) → a = b := fun {a b} p ha hb =>
  p.eq_of_pairwise (le := (· ≤ ·)) (fun x y _ _ h1 h2 => by omega) ha hb
theorem mem_insU (x k : Int) : ∀ l : List Int, k ∈ insU x l ↔ k = x ∨ k ∈ l
  | [] => by simp [insU]
  | y :: r => by
    unfold insU
    split
    · simp
    · split
      · rename_i h
        subst h
        simp
      · simp only [List.mem_cons, mem_insU x k r]
        constructor <;> intro h <;> rcases h with h | h | h <;> simp [h]
theorem mem_sortU (k : Int) : ∀ l : List Int, k ∈ sortU l ↔ k ∈ l
  | [] => by simp [sortU]
  | x :: r => by rw [sortU, mem_insU, mem_sortU k r, List.mem_cons]
theorem pw_insU (x : Int) : ∀ l : List Int, l.Pairwise (· < ·) → (insU x l).Pairwise (· < ·)
  | [], _ => by simp [insU]
  | y :: r, h => by
    have h' := List.pairwise_cons.mp h
    unfold insU
    split
    · rw [List.pairwise_cons]
      refine ⟨fun z hz => ?_, h⟩
      rcases List.mem_cons.mp hz with q | q
      · subst q; assumption
      · have := h'.1 z q; omega
    · split
      · exact h
      · rw [List.pairwise_cons]
        refine ⟨fun z hz => ?_, pw_insU x r h'.2⟩
        rcases (mem_insU x z r).mp hz with q | q
        · subst q; omega
        · exact h'.1 z q
theorem pw_sortU : ∀ l : List Int, (sortU l).Pairwise (· < ·)
  | [] => .nil
  | x :: r => pw_insU x _ (pw_sortU r)
theorem minL_spec : ∀ {l : List Int}, 0 < l.length → minL l ∈ l ∧ ∀ y ∈ l, minL l ≤ y
  | [], h => by cases h
  | [x], _ => by simp [minL]
  | x :: y :: r, _ => by
    obtain ⟨h1, h2⟩ := minL_spec (l := y :: r) (by simp)
    have e : minL (x :: y :: r) = if x ≤ minL (y :: r) then x else minL (y :: r) := rfl
    rw [e]
    split
    · refine ⟨List.mem_cons_self .., fun z hz => ?_⟩
      rcases List.mem_cons.mp hz with q | q
      · omega
      · have := h2 z q; omega
    · refine ⟨List.mem_cons_of_mem _ h1, fun z hz => ?_⟩
      rcases List.mem_cons.mp hz with q | q
      · omega
      · exact h2 z q
theorem maxL_spec : ∀ {l : List Int}, 0 < l.length → maxL l ∈ l ∧ ∀ y ∈ l, y ≤ maxL l
  | [], h => by cases h
  | [x], _ => by simp [maxL]
  | x :: y :: r, _ => by
    obtain ⟨h1, h2⟩ := maxL_spec (l := y :: r) (by simp)
    have e : maxL (x :: y :: r) = if maxL (y :: r) ≤ x then x else maxL (y :: r) := rfl
    rw [e]
    split
    · refine ⟨List.mem_cons_self .., fun z hz => ?_⟩
      rcases List.mem_cons.mp hz with q | q
      · omega
      · have := h2 z q; omega
    · refine ⟨List.mem_cons_of_mem _ h1, fun z hz => ?_⟩
      rcases List.mem_cons.mp hz with q | q
      · omega
      · exact h2 z q

section
variable {X : Cx} {Γ : G}
theorem or_len : CallR X (.builtin "len") (rLenF X.K) := call_len_seq.or (call_len_str.or call_lenD)
theorem ok_len : Op1Ok Γ qLen (fun x H Q => rLenF Γ.g.K [x] H Q) := by
  intro N H x dx Qd Q n rx q k
  cases dx <;> first | exact (q : False).elim | skip
  · refine .inr (.inl ⟨_, by rw [rx.str], ?_, k _ H _ Ext.refl (.int _) q.2⟩)
    rw [← cap_line]; exact q.1
  · obtain ⟨a, vs, rfl, ha, r1⟩ := rx.lst
    exact .inl ⟨a, vs, rfl, .inl (SqL.of ha), by rw [r1.length]; exact k _ H _ Ext.refl (.int _) q⟩
  · obtain ⟨a, vs, rfl, ha, _, r1⟩ := rx.tup
    exact .inl ⟨a, vs, rfl, .inr (SqT.of ha), by rw [r1.length]; exact k _ H _ Ext.refl (.int _) q⟩
  · obtain ⟨a, kvs, rfl, ha, e, r1⟩ := rx.dct
    refine .inr (.inr ⟨a, kvs, rfl, ha, ?_⟩)
    rw [show kvs.length = (kvs.map (·.1)).length from by rw [List.length_map], e]
    exact k _ H _ Ext.refl (.int _) q
  · obtain ⟨a, rfl, ha⟩ := rx.scr
    rename_i ns
    refine .inl ⟨a, _, rfl, .inl ha, ?_⟩
    rw [List.length_map]
    exact k _ H _ Ext.refl (.int _) q
theorem ok_int : Op1Ok Γ qInt (fun x H Q => (∃ i, [x] = [.int i] ∧ Q (.int i) H) ∨ ∃ k, [x] = [.bl k] ∧ Q (.int (if k then 1 else 0)) H) := by
  intro N H x dx Qd Q n rx q k
  cases dx <;> first | exact (q : False).elim | skip
  · exact .inr ⟨_, by rw [rx.bl], k _ H _ Ext.refl (.int _) q⟩
  · exact .inl ⟨_, by rw [rx.int], k _ H _ Ext.refl (.int _) q⟩
theorem ok_abs : Op1Ok Γ qAbs (fun x H Q => ∃ i, [x] = [.int i] ∧ Q (.int (if i < 0 then -i else i)) H) := by
  intro N H x dx Qd Q n rx q k
  cases dx <;> first | exact (q : False).elim | skip
  exact ⟨_, by rw [rx.int], k _ H _ Ext.refl (.int _) q⟩
theorem fr_list : Op1Fr Γ qList (fun x H Q => ∃ p ys, [x] = [.ref p] ∧ (SqL Γ.g.K H p ys ∨ SqT Γ.g.K H p ys) ∧ ∀ l, H l = none → Q (.ref l) (upd H l (.lst ys))) := by
  intro N H x dx Qd Q n rx q k
  cases dx <;> first | exact (q : False).elim | skip
  · obtain ⟨a, vs, rfl, ha, r1⟩ := rx.lst
    exact ⟨a, vs, rfl, .inl (SqL.of ha), fun l hl => k _ _ _ (Ext.new hl) hl (show OwnR _ _ _ _ (.lst _) from ⟨_, upd_same, r1.fresh (Ext.new hl) hl⟩) q⟩
  · obtain ⟨a, vs, rfl, ha, _, r1⟩ := rx.tup
    exact ⟨a, vs, rfl, .inr (SqT.of ha), fun l hl => k _ _ _ (Ext.new hl) hl (show OwnR _ _ _ _ (.lst _) from ⟨_, upd_same, r1.fresh (Ext.new hl) hl⟩) q⟩
theorem ok_tuple : Op1Ok Γ qTuple (fun x H Q => ∃ p ys, [x] = [.ref p] ∧ ((SqL Γ.g.K H p ys ∧ ∀ l, H l = none → Q (.ref l) (upd H l (.tup ys))) ∨ (SqT Γ.g.K H p ys ∧ Q (.ref p) H))) := by
  intro N H x dx Qd Q n rx q k
  cases dx <;> first | exact (q : False).elim | skip
  · obtain ⟨a, vs, rfl, ha, r1⟩ := rx.lst
    exact ⟨a, vs, rfl, .inl ⟨SqL.of ha, fun l hl => k _ _ _ (Ext.new hl) (.tup upd_same (n.new hl) (r1.ext (Ext.new hl))) q⟩⟩
  · obtain ⟨a, vs, rfl, ha, na, r1⟩ := rx.tup
    exact ⟨a, vs, rfl, .inr ⟨SqT.of ha, k _ H _ Ext.refl (.tup ha na r1) q⟩⟩
theorem ok_max2 : Op2Ok Γ qMax2 (fun x y H Q => ∃ i j, [x, y] = [V.int i, V.int j] ∧ Q (.int (if j > i then j else i)) H) := by
  intro N H x y dx dy Qd Q n rx ry q k
  cases dx <;> cases dy <;> first | exact (q : False).elim | skip
  exact ⟨_, _, by rw [rx.int, ry.int], k _ H _ Ext.refl (.int _) q⟩
theorem ok_min2 : Op2Ok Γ qMin2 (fun x y H Q => ∃ i j, [x, y] = [V.int i, V.int j] ∧ Q (.int (if j < i then j else i)) H) := by
  intro N H x y dx dy Qd Q n rx ry q k
  cases dx <;> cases dy <;> first | exact (q : False).elim | skip
  exact ⟨_, _, by rw [rx.int, ry.int], k _ H _ Ext.refl (.int _) q⟩
theorem ok_sum : Op1Ok Γ qSum (fun x H Q => rSum Γ.g.K [x] H Q) := by
  intro N H x dx Qd Q n rx q k
  cases dx <;> first | exact (q : False).elim | skip
  obtain ⟨ns, e, q⟩ := q
  obtain ⟨a, vs, rfl, ha, r1⟩ := rx.lst
  have ev := r1.ints e
  subst ev
  exact ⟨a, ns, rfl, SqL.of ha, k _ H _ Ext.refl (.int _) q⟩
theorem ok_min : Op1Ok Γ qMin (fun x H Q => rMin Γ.g.K [x] H Q) := by
  intro N H x dx Qd Q n rx q k
  cases dx <;> first | exact (q : False).elim | skip
  obtain ⟨ns, e, h0, q⟩ := q
  obtain ⟨a, vs, rfl, ha, r1⟩ := rx.lst
  have ev := r1.ints e
  subst ev
  refine ⟨a, ns, rfl, SqL.of ha, h0, fun m h1 h2 => ?_⟩
  obtain ⟨h3, h4⟩ := minL_spec h0
  have em : m = minL ns := by have := h2 _ h3; have := h4 _ h1; omega
  subst em
  exact k _ H _ Ext.refl (.int _) q
theorem ok_max : Op1Ok Γ qMax (fun x H Q => rMax Γ.g.K [x] H Q) := by
  intro N H x dx Qd Q n rx q k
  cases dx <;> first | exact (q : False).elim | skip
  obtain ⟨ns, e, h0, q⟩ := q
  obtain ⟨a, vs, rfl, ha, r1⟩ := rx.lst
  have ev := r1.ints e
  subst ev
  refine ⟨a, ns, rfl, SqL.of ha, h0, fun m h1 h2 => ?_⟩
  obtain ⟨h3, h4⟩ := maxL_spec h0
  have em : m = maxL ns := by have := h2 _ h3; have := h4 _ h1; omega
  subst em
  exact k _ H _ Ext.refl (.int _) q
theorem ok_all : Op1Ok Γ qAll (fun x H Q => rAll Γ.g.K [x] H Q) := by
  intro N H x dx Qd Q n rx q k
  cases dx <;> first | exact (q : False).elim | skip
  obtain ⟨ns, e, q⟩ := q
  obtain ⟨a, vs, rfl, ha, r1⟩ := rx.lst
  have ev := r1.bools e
  subst ev
  exact ⟨a, ns, rfl, SqL.of ha, k _ H _ Ext.refl (.bl _) q⟩
theorem ok_any : Op1Ok Γ qAny (fun x H Q => rAny Γ.g.K [x] H Q) := by
  intro N H x dx Qd Q n rx q k
  cases dx <;> first | exact (q : False).elim | skip
  obtain ⟨ns, e, q⟩ := q
  obtain ⟨a, vs, rfl, ha, r1⟩ := rx.lst
  have ev := r1.bools e
  subst ev
  exact ⟨a, ns, rfl, SqL.of ha, k _ H _ Ext.refl (.bl _) q⟩
/-! sorted -/
section
open PySem.Spec PyProof.Rows
/-- sorted(a set of fewer than a thousand) -/
theorem sorted_set2 {P : Program} {w : World} {A : Around} {E : Value → Shared → Prop} {s : Shared} {a : Addr} {S : Int → Bool} {n : Nat} {Q : Value → Shared → Prop} (R : SetR w s.heap a S n) (hh : A.handled = none) (h64 : n < 1000)
    (hQ : ∀ s' p (out : Array Value) (c : Nat) (ns : List Int), (∀ b o, s.heap.get? b = some o → s'.heap.get? b = some o) → s'.gens = s.gens → s'.os = s.os → s.heap.objs.size ≤ p →
      s'.heap.get? p = some (seqObj "list" out c) → IntsAre out.toList ns → ns.Pairwise (· < ·) → (∀ k, k ∈ ns ↔ S k = true) → ns.length = n → Q (.ref p) s') :
    wpAny (model P w) A (call (.builtin "sorted") [.ref a]) Q E s := by
  obtain ⟨o, es, ep, t, ho, hex, hd, g, nd, hm, hb, hf, hn, hr, hl⟩ := R
  refine Calls.call_function_entry kind_sorted plain_sorted entry_sorted (args_sorted1 _) ?_
  unfold Builtin.«sorted»
  refine wpAny_bind (m := checkCount "sorted" 1 1 _) (wpAny_pure ?_)
  refine wpAny_bind (collect_set (A := A.in1) hh ⟨o, ho, hex.1, hd⟩ hf hb hr hl fun s1 vs k1 hz g1 o1 pm => ?_)
  have hvl : vs.length = n := by rw [pm.length_eq, List.length_map, Array.length_toList]; exact hn
  have hI : IntsAre vs (vs.map Builtin.Re.reRawOf) := ints_of vs fun v hv => by
    obtain ⟨e, he, q⟩ := List.mem_map.mp (pm.mem_iff.mp hv)
    obtain ⟨k, tk, h1, _⟩ := g e he
    exact ⟨k, tk, by rw [← q]; exact h1⟩
  have pk : (vs.map Builtin.Re.reRawOf).Perm (es.toList.map keyOf) := by
    have q := pm.map Builtin.Re.reRawOf
    rw [List.map_map] at q
    exact q
  have hz1 : vs.length ≤ sizeLine := by rw [hvl, sizeLine_eq]; omega
  refine wpAny_bind (wpAny_newList ?_ hz1)
  have hoL : (s1.heap.push (seqObj "list" vs.toArray 0)).get? s1.heap.objs.size = some (seqObj "list" vs.toArray 0) := Heap.get?_push_size _ rfl
  refine wpAny_bind (wpAny_holding (wpAny_call_entry slot_list_sort ⟨_, hoL, rfl⟩ entry_list_sort (list_sort_treeAny hoL hI hz1 fun out ns' a1 a2 a3 => ⟨_, rfl, ?_⟩) (args_list_sort _)))
  obtain ⟨c, hc⟩ := sortedHeap_at (vs := vs) (out := out) hoL
  have pn : ns'.Perm (es.toList.map keyOf) := a2.trans pk
  refine wpAny_pure ⟨_, rfl, hQ _ s1.heap.objs.size out c ns' (fun b u e => ?_) g1 o1 hz hc a1 (lt_of_le_nodup ns' a3 (pn.nodup_iff.mpr nd)) (fun k => by rw [pn.mem_iff, ← hm k]) ?_⟩
  · have q := k1 b u e
    have hlt := Heap.lt_size q
    show (sortedHeap (s1.heap.push (seqObj "list" vs.toArray 0)) s1.heap.objs.size vs out).get? b = some u
    rw [sortedHeap_old (Nat.ne_of_lt hlt) (by rw [size_push']; exact Nat.lt_succ_of_lt hlt)]
    exact Heap.get?_push_of_some _ q
  · rw [pn.length_eq, List.length_map, Array.length_toList]; exact hn
end
def rSortedSet2 (w : World) : List V → Hp → VK → Prop := fun vs H Q => ∃ (a : Addr) (S : Int → Bool) (n : Nat), vs = [V.ref a] ∧ H a = some (SetO w a S n) ∧ n < 1000 ∧
  ∀ (ns : List Int) (p : Addr), ns.Pairwise (· < ·) → (∀ k : Int, k ∈ ns ↔ S k = true) → ns.length = n → H p = none → Q (.ref p) (upd H p (.lst (ns.map V.int)))
theorem cr_sortedSet2 {X : Cx} (hc : X.calm = true) : CallR X (.builtin "sorted") (rSortedSet2 X.w) := by
  intro pins s σ H vs us Q I r h
  obtain ⟨a, S, n, rfl, ha, h64, q⟩ := h
  have R := setO_get I ha
  rw [Vals.ref1 r]
  refine sorted_set2 R (I.ok.hd hc) h64 fun s' p out c ns k g o hp hg hi hs hm hl => ?_
  have hlen : (ns.map V.int).length ≤ sizeLine := by rw [List.length_map, hl, sizeLine_eq]; omega
  have hn : H p = none := I.hok.fresh hp
  have J : Inv X pins σ (upd H p (.lst (ns.map V.int))) { s with heap := s'.heap, gens := s'.gens, drawn := s'.drawn, toks := s'.toks } :=
    I.call (ch := []) (Un.laid k hp hn) (I.hok.laid k hp ⟨hlen, out.toList, c, vals_of_ints hi, hg⟩) (by rw [g]; exact I.bare) (fun _ z => nomatch z)
  have e : s' = { s with heap := s'.heap, gens := s'.gens, drawn := s'.drawn, toks := s'.toks } := by
    cases s'
    cases s
    cases o
    rfl
  rw [e]
  exact ⟨.ref p, _, J, rfl, q ns p hs hm hl hn⟩
def rSortedF (K : PySem.W.Frag) (w : World) : List V → Hp → VK → Prop := fun xs H Q => rSortedI K xs H Q ∨ rSortedSet2 w xs H Q
theorem or_sorted (hc : X.calm = true) : CallR X (.builtin "sorted") (rSortedF X.K X.w) := cr_sortedI.or (cr_sortedSet2 hc)
theorem ok_sorted : Op1Ok Γ qSorted (fun x H Q => rSortedF Γ.g.K Γ.g.w [x] H Q) := by
  intro N H x dx Qd Q n rx q k
  cases dx <;> first | exact (q : False).elim | skip
  · obtain ⟨ns, e, q⟩ := q
    obtain ⟨a, vs, rfl, ha, r1⟩ := rx.lst
    have ev := r1.ints e
    subst ev
    refine .inl ⟨a, ns, rfl, SqL.of ha, fun ns' p h1 h2 hp => ?_⟩
    have e2 : ns' = sortI ns := perm_sorted_eq (h1.trans (perm_sortI ns).symm) h2 (pw_sortI ns)
    subst e2
    exact k _ _ _ (Ext.new hp) (.lst upd_same (n.new hp) (RepL.ofInts _)) q
  · obtain ⟨h64, q⟩ := q
    obtain ⟨a, rfl, ha, pw⟩ := rx.set
    refine .inr ⟨a, _, _, rfl, ha, h64, fun ns p h1 h2 h3 hp => ?_⟩
    rename_i l
    have e2 : ns = l := sorted_eq h1 pw fun z => by rw [h2]; simp
    subst e2
    exact k _ _ _ (Ext.new hp) (.lst upd_same (n.new hp) (RepL.ofInts _)) q
/-! isinstance -/
def tyN : Ty → String
  | .int => "int"
  | .bool => "bool"
  | .str => "str"
  | .list => "list"
  | .tuple => "tuple"
theorem kb1 : kitB "NoneType" "int" = some false := by decide +kernel
theorem kb2 : kitB "NoneType" "bool" = some false := by decide +kernel
theorem kb3 : kitB "NoneType" "str" = some false := by decide +kernel
theorem kb4 : kitB "NoneType" "list" = some false := by decide +kernel
theorem kb5 : kitB "NoneType" "tuple" = some false := by decide +kernel
theorem kb6 : kitB "bool" "int" = some true := by decide +kernel
theorem kb7 : kitB "bool" "bool" = some true := by decide +kernel
theorem kb8 : kitB "bool" "str" = some false := by decide +kernel
theorem kb9 : kitB "bool" "list" = some false := by decide +kernel
theorem kb10 : kitB "bool" "tuple" = some false := by decide +kernel
theorem kb11 : kitB "int" "int" = some true := by decide +kernel
theorem kb12 : kitB "int" "bool" = some false := by decide +kernel
theorem kb13 : kitB "int" "str" = some false := by decide +kernel
theorem kb14 : kitB "int" "list" = some false := by decide +kernel
theorem kb15 : kitB "int" "tuple" = some false := by decide +kernel
theorem kb16 : kitB "str" "int" = some false := by decide +kernel
theorem kb17 : kitB "str" "bool" = some false := by decide +kernel
theorem kb18 : kitB "str" "str" = some true := by decide +kernel
theorem kb19 : kitB "str" "list" = some false := by decide +kernel
theorem kb20 : kitB "str" "tuple" = some false := by decide +kernel
theorem kb21 : kitB "list" "int" = some false := by decide +kernel
theorem kb22 : kitB "list" "bool" = some false := by decide +kernel
theorem kb23 : kitB "list" "str" = some false := by decide +kernel
theorem kb24 : kitB "list" "list" = some true := by decide +kernel
theorem kb25 : kitB "list" "tuple" = some false := by decide +kernel
theorem kb26 : kitB "tuple" "int" = some false := by decide +kernel
theorem kb27 : kitB "tuple" "bool" = some false := by decide +kernel
theorem kb28 : kitB "tuple" "str" = some false := by decide +kernel
theorem kb29 : kitB "tuple" "list" = some false := by decide +kernel
theorem kb30 : kitB "tuple" "tuple" = some true := by decide +kernel
theorem kb31 : kitB "dict" "int" = some false := by decide +kernel
theorem kb32 : kitB "dict" "bool" = some false := by decide +kernel
theorem kb33 : kitB "dict" "str" = some false := by decide +kernel
theorem kb34 : kitB "dict" "list" = some false := by decide +kernel
theorem kb35 : kitB "dict" "tuple" = some false := by decide +kernel
/-- the type of what is told by data -/
def tyS : D → Option String
  | .non => some "NoneType"
  | .bl _ => some "bool"
  | .int _ => some "int"
  | .str _ => some "str"
  | .rep _ => some "str"
  | .lst _ => some "list"
  | .tup _ => some "tuple"
  | .dct _ _ => some "dict"
  | _ => none
theorem isTy_kit {d : D} {t : Ty} {b : Bool} (h : isTy d t = some b) : ∃ T, tyS d = some T ∧ kitB T (tyN t) = some b := by
  cases d <;> cases t <;> simp only [isTy, Option.some.injEq, reduceCtorEq] at h <;> subst h <;> refine ⟨_, rfl, ?_⟩ <;>
    first | exact kb1 | exact kb2 | exact kb3 | exact kb4 | exact kb5 | exact kb6 | exact kb7 | exact kb8 | exact kb9 | exact kb10 | exact kb11 | exact kb12 | exact kb13 | exact kb14 | exact kb15 | exact kb16 | exact kb17 | exact kb18 | exact kb19 | exact kb20 | exact kb21 | exact kb22 | exact kb23 | exact kb24 | exact kb25 | exact kb26 | exact kb27 | exact kb28 | exact kb29 | exact kb30 | exact kb31 | exact kb32 | exact kb33 | exact kb34 | exact kb35
theorem Sh.ty {K : PySem.W.Frag} {N : Addr → Prop} {H : Hp} {x : V} {d : D} {T : String} (h : Sh Γ N H x d) (e : tyS d = some T) : TyOf K H x (.type T) := by
  cases d <;> simp only [tyS, Option.some.injEq, reduceCtorEq] at e <;> subst e
  · rw [h.non]; exact .non
  · rw [h.bl]; exact .bl _
  · rw [h.int]; exact .int _
  · rw [h.str]; exact .str _
  · obtain ⟨a, vs, rfl, ha, _⟩ := h.lst; exact .lst ha
  · obtain ⟨a, vs, rfl, ha, _⟩ := h.tup; exact .tup ha
  · obtain ⟨a, vs, rfl, ha, _⟩ := h.dct; exact .dK ha
  · rw [h.rep]; exact .str _
theorem isTys_kit : ∀ {ts : List Ty} {d : D} {b : Bool} {K : PySem.W.Frag}, isTys d ts = some b → ∀ T, tyS d = some T → PySem.W.kitAny K (.type T) (ts.map fun t => .type (tyN t)) = some b
  | [], _, b, _, h, _, _ => by
    simp [isTys] at h
    subst h
    exact kitAny_nil
  | t :: ts, d, b, K, h, T, hT => by
    unfold isTys at h
    cases h1 : isTy d t with
    | none => rw [h1] at h; cases h
    | some c =>
      rw [h1] at h
      obtain ⟨T', e1, e2⟩ := isTy_kit h1
      rw [hT] at e1
      injection e1 with e1
      subst e1
      rw [List.map_cons]
      refine kitAny_cons (kit_ty e2) (fun z => ?_) fun z => ?_
      · subst z
        exact isTys_kit h T hT
      · subst z
        simp at h
        exact h
end
/-! ### repr -/
theorem int_text {i : Int} (h : i.natAbs < 2 ^ 1900) : (Str.ofString (toString i)).length ≤ 600 := by
  have e := int_text_length_le10 (k := 599) (by decide) (Nat.lt_of_lt_of_le h (by decide +kernel))
  rw [ofString_length]
  exact e
theorem log_small {i : Int} (h : i.natAbs < 2 ^ 1900) : i.natAbs.log2 < 1920 := by
  by_cases h0 : i.natAbs = 0
  · rw [h0]; decide
  · have := (Nat.log2_lt h0).mpr h
    omega
mutual
theorem shown_le : ∀ d : D, repB d ≤ 16000000 → (PyData.shown (toPy d)).length ≤ repB d ∧ (toPy d).showable = true ∧ (toPy d).hasDict = false
  | .non, _ => by simp [toPy, PyData.shown, PyData.showable, PyData.hasDict, repB]; decide
  | .bl b, _ => by
    simp only [toPy, PyData.shown, PyData.showable, PyData.hasDict, repB, and_self, and_true]
    cases b <;> decide
  | .int i, h => by
    simp only [toPy, PyData.shown, PyData.showable, PyData.hasDict, repB] at h ⊢
    by_cases hi : i.natAbs < 2 ^ 1900
    · rw [if_pos hi]
      exact ⟨int_text hi, decide_eq_true (log_small hi), trivial⟩
    · rw [if_neg hi] at h
      omega
  | .str x, h => by
    simp only [toPy, PyData.shown, PyData.showable, PyData.hasDict, repB] at h ⊢
    by_cases hx : x.cps.all (· < 0x110000) = true
    · rw [if_pos hx]
      refine ⟨StrLaws.reprText_len x fun c hc => ?_, trivial, trivial⟩
      have := (Array.all_eq_true_iff_forall_mem.mp hx) c (Array.mem_toList_iff.mp hc)
      have e : (16 : Nat) ^ 8 = 4294967296 := by decide
      simp at this
      omega
    · rw [if_neg hx] at h
      omega
  | .lst l, h => by
    simp only [repB] at h ⊢
    obtain ⟨h1, h2, h3, h4⟩ := shown_les l (by omega)
    simp only [toPy, PyData.shown, PyData.showable, PyData.hasDict]
    refine ⟨?_, h2, h3⟩
    have := listText_len_le (PyData.shownAll (toPys l))
    omega
  | .tup l, h => by
    simp only [repB] at h ⊢
    obtain ⟨h1, h2, h3, h4⟩ := shown_les l (by omega)
    simp only [toPy, PyData.shown, PyData.showable, PyData.hasDict]
    refine ⟨?_, h2, h3⟩
    have := tupleText_len_le (PyData.shownAll (toPys l))
    omega
  | .set _, h => by simp [repB] at h
  | .dct _ _, h => by simp [repB] at h
  | .rep _, h => by simp [repB] at h
  | .exc _ _, h => by simp [repB] at h
  | .scr _, h => by simp [repB] at h
  | .deal, h => by simp [repB] at h
theorem shown_les : ∀ l : List D, repBs l ≤ 16000000 → ((PyData.shownAll (toPys l)).map (·.length)).sum ≤ repBs l ∧ PyData.showableAll (toPys l) = true ∧ PyData.hasDictAll (toPys l) = false ∧ (PyData.shownAll (toPys l)).length = l.length
  | [], _ => by simp [toPys, PyData.shownAll, PyData.showableAll, PyData.hasDictAll]
  | x :: r, h => by
    simp only [repBs] at h ⊢
    obtain ⟨a1, a2, a3⟩ := shown_le x (by omega)
    obtain ⟨b1, b2, b3, b4⟩ := shown_les r (by omega)
    simp only [toPys, PyData.shownAll, PyData.showableAll, PyData.hasDictAll, List.map_cons, List.sum_cons, List.length_cons, a2, a3, b2, b3, b4, Bool.and_self, Bool.or_self, and_self, and_true]
    omega
end
section
variable {X : Cx} {Γ : G}
def rReprF (K : PySem.W.Frag) : List V → Hp → VK → Prop := fun xs H Q => ∃ x d, xs = [x] ∧ Dp K H x (toPy d) ∧ ok d = true ∧ repB d ≤ 16000000 ∧ Q (.str (PyData.shown (toPy d))) H
theorem or_repr (hg : X.A.guards = some []) (hu : X.A.units + 128 < cLine) : CallR X (.builtin "repr") (rReprF X.K) := by
  intro pins s σ H xs us Q I rv q
  obtain ⟨x, d, rfl, hd, hok, hB, q⟩ := q
  obtain ⟨u, rfl, rx⟩ := vals1 rv
  obtain ⟨h1, h2, h3⟩ := shown_le d hB
  have hsz : (PyData.shown (toPy d)).length ≤ sizeLine := by rw [sizeLine_eq]; omega
  obtain ⟨as, r⟩ := Dp.reads I (toPy d) x u hd rx
  have hdep : (toPy d).depth ≤ 60 := (ok_lay 60 d hok).2
  have fin : ∀ h' u tk, (∀ b o, s.heap.get? b = some o → h'.get? b = some o) → EP X pins σ Q (.str (PyData.shown (toPy d)) u) { s with heap := h', toks := tk } := fun h' u tk hk => ⟨.str (PyData.shown (toPy d)), H, I.kept hk, ⟨u, rfl⟩, q⟩
  cases d <;> first | (simp [repB] at hB; done) | skip
  · cases hd; cases rx; exact P.repr_of_none (fin s.heap _ _ fun _ _ z => z)
  · cases hd; cases rx; exact P.repr_of_bool (fin s.heap _ _ fun _ _ z => z)
  · cases hd
    obtain ⟨t, rfl⟩ := rx
    exact P.repr_of_int (by simpa [toPy, PyData.showable] using h2) (fin s.heap _ _ fun _ _ z => z)
  · cases hd
    obtain ⟨t, rfl⟩ := rx
    exact P.repr_of_str (fin s.heap _ _ fun _ _ z => z) hsz
  · cases hd
    cases rx
    exact repr_of_reads' r h2 (PyData.noDict_hsm h3) hg (by omega) (fun _ _ z => z) fin hsz
  · cases hd
    cases rx
    exact repr_of_reads' r h2 (PyData.noDict_hsm h3) hg (by omega) (fun _ _ z => z) fin hsz
theorem ok_repr : Op1Ok Γ qRepr (fun x H Q => rReprF Γ.g.K [x] H Q) := by
  intro N H x dx Qd Q n rx q k
  obtain ⟨h1, h2, q⟩ := q
  exact ⟨x, dx, rfl, rx.dp h1, h1, h2, k _ H _ Ext.refl (.rep _) q⟩
end
end Fy
set_option Elab.async false
set_option linter.all false
set_option maxRecDepth 100000
set_option maxHeartbeats 4000000
/-! FyE: argument lists, displays, isinstance, own defs and their calls. -/
namespace Fy
open PySem L2

/-- what stands around a piece of code -/
structure Ctx (X : Cx) (Γ : G) (W : WX) (k : Nat) : Prop where
  hK : Γ.g.K = X.K
  hw : Γ.g.w = X.w
  gd : X.A.guards = some []
  tk : Takes X W
  room : Room k X.A
  nd : X.N.Nodup
  hn : Γ.n = X.N.length
  ex0 : Γ.g.ex = none
theorem Ctx.u64 {X : Cx} {Γ : G} {W : WX} {k : Nat} (c : Ctx X Γ W k) : X.A.units + 64 < cLine := c.room.units
theorem Ctx.u128 {X : Cx} {Γ : G} {W : WX} {k : Nat} (c : Ctx X Γ W k) : X.A.units + 128 < cLine := by have := c.room.un; omega

section
variable {X : Cx} {Γ : G} {W : WX} {O : List Nat} {e a b : Expr} {es : List Expr} {f fa fb : FTE} {fr : FTA} {pos p p2 p3 p4 : Pos} {m : Md} {n k : Nat}
/-! ### argument lists -/
structure FAn (X : Cx) (Γ : G) (W : WX) (O : List Nat) (es : List Expr) (n : Nat) (f : FTA) : Prop where
  fa : FA X Γ W O es f
  len : ∀ env st (Q : List D → S → Prop) (X : XC), f env st Q X → f env st (fun ds s => ds.length = n ∧ Q ds s) X
theorem fa_nil : FAn X Γ W O [] 0 aNil := ⟨⟨fun _ _ _ _ _ _ h _ q => h _ _ q, pa_nil.imp fun σ H Q ⟨env, st, R, T, q⟩ => q [] H Ev.refl T .nil⟩, fun _ _ _ _ q => ⟨rfl, q⟩⟩
theorem mono_Cons (ha : MonoE fa) (hr : MonoA fr) : MonoA (aCons fa fr) := fun env st Q Q' X X' h hx q => ha _ _ _ _ _ _ (fun x s1 z => hr _ _ _ _ _ _ (fun xs s2 z => h _ _ z) hx z) hx q
theorem fa_more (ha : FE X Γ W O .cl a fa) (hr : FA X Γ W O es fr) (hs : starEach (a :: es) X.env = (false, eval a X.env) :: starEach es X.env := by rfl) : FA X Γ W O (a :: es) (aCons fa fr) :=
  ⟨mono_Cons ha.mono hr.mono, (pa_cons ha.pe hr.pa hs).imp fun σ H Q ⟨env, st, R, T, q⟩ => ⟨env, st, R, T, ha.mono _ _ _ _ _ _ (fun d s1 z v H1 e1 T1 r1 => ⟨env, s1, R.ev e1, T1, hr.mono _ _ _ _ _ _ (fun ds s2 z vs H2 e2 T2 r2 =>
    z (v :: vs) H2 (e1.trans e2) T2 (.cons (r1.zone e2) r2)) (fun t d s z => exK.ev e1 z) z⟩) (fun _ _ _ z => z) q⟩⟩
theorem fa_cons (ha : FE X Γ W O .cl a fa) (hr : FAn X Γ W O es n fr) (hs : starEach (a :: es) X.env = (false, eval a X.env) :: starEach es X.env := by rfl) : FAn X Γ W O (a :: es) (n + 1) (aCons fa fr) :=
  ⟨fa_more ha hr.fa hs, fun env st Q X q => ha.mono _ _ _ _ _ _ (fun d s1 z => hr.fa.mono _ _ _ _ _ _ (fun ds s2 ⟨l, z⟩ => ⟨by rw [List.length_cons, l], z⟩) (fun _ _ _ z => z) (hr.len _ _ _ _ z)) (fun _ _ _ z => z) q⟩
theorem mono_seq {x : D} {Q Q' : List D → Prop} (h : ∀ l, Q l → Q' l) (q : asSeq Q x) : asSeq Q' x := by
  cases x <;> first | exact q.elim | exact h _ q
theorem Sh.seq {N : Addr → Prop} {H : Hp} {x : V} {d : D} {Q : List D → Prop} (r : Sh Γ N H x d) (q : asSeq Q d) : ∃ a vs l, x = .ref a ∧ (H a = some (.tup vs) ∨ H a = some (.lst vs)) ∧ RepL Γ.g N H vs l ∧ Q l := by
  cases d <;> first | exact q.elim | skip
  · obtain ⟨a, vs, e, ha, r1⟩ := r.lst
    exact ⟨a, vs, _, e, .inr ha, r1, q⟩
  · obtain ⟨a, vs, e, ha, _, r1⟩ := r.tup
    exact ⟨a, vs, _, e, .inl ha, r1, q⟩
theorem fa_star (hK : Γ.g.K = X.K) (ha : FE X Γ W O .sh a fa) (hr : FA X Γ W O es fr) (hs : starEach (.Starred a p :: es) X.env = (true, eval a X.env) :: starEach es X.env := by rfl) : FA X Γ W O (.Starred a p :: es) (aStar fa fr) :=
  ⟨fun env st Q Q' X X' h hx q => ha.mono _ _ _ _ _ _ (fun x s1 z => mono_seq (fun l z => hr.mono _ _ _ _ _ _ (fun xs s2 z => h _ _ z) hx z) z) hx q,
  (StX.pa_star ha.pe hr.pa hs).imp fun σ H Q ⟨env, st, R, T, q⟩ => ⟨env, st, R, T, ha.mono _ _ _ _ _ _ (fun d s1 z v H1 e1 T1 r1 => by
    obtain ⟨a, vs, l, ev, ha1, rl, z⟩ := r1.seq z
    refine ⟨a, vs, ev, ?_, env, s1, R.ev e1, T1, hr.mono _ _ _ _ _ _ (fun ds s2 z ws H2 e2 T2 r2 => z (vs ++ ws) H2 (e1.trans e2) T2 ((rl.zone e2).append r2)) (fun t d s z => exK.ev e1 z) z⟩
    rcases ha1 with h | h
    · exact .inl (SqT.of h)
    · exact .inr (SqL.of h)) (fun _ _ _ z => z) q⟩⟩
/-! ### displays -/
theorem mono_TupA (h : MonoA fr) : MonoE (fTup fr) := fun env st Q Q' X X' hq hx q => h _ _ _ _ _ _ (fun x s z => hq _ _ z) hx q
theorem mono_LstA (h : MonoA fr) : MonoE (fLst fr) := fun env st Q Q' X X' hq hx q => h _ _ _ _ _ _ (fun x s z => hq _ _ z) hx q
theorem mono_TupS (h : MonoA fr) : MonoE (fTupS fr) := fun env st Q Q' X X' hq hx q => h _ _ _ _ _ _ (fun x s z => ⟨z.1, hq _ _ z.2⟩) hx q
theorem mono_LstS (h : MonoA fr) : MonoE (fLstS fr) := fun env st Q Q' X X' hq hx q => h _ _ _ _ _ _ (fun x s z => ⟨z.1, hq _ _ z.2⟩) hx q
theorem small_cap {n : Nat} (h : n ≤ 1000) : n ≤ sizeLine := by rw [sizeLine_eq]; omega
theorem fe_tup {x1} (h : FAn X Γ W O es n fr) (hn : n ≤ 1000 := by decide) : FE X Γ W O .cl (.Tuple es x1 pos) (fTup fr) :=
  ⟨mono_TupA h.fa.mono, (pe_tup h.fa.pa).imp fun σ H Q ⟨env, st, R, T, q⟩ => ⟨env, st, R, T, h.fa.mono _ _ _ _ _ _ (fun ds s1 ⟨hl, z⟩ vs H1 e1 T1 r1 => ⟨small_cap (by rw [r1.length]; omega), fun p hp =>
    z _ _ (e1.trans (Ext.new hp).ev) (T1.ext (Ext.new hp)) (.tup upd_same (((R.nok T).zone e1).new hp) (r1.ext (Ext.new hp)))⟩) (fun _ _ _ z => z) (h.len _ _ _ _ q)⟩⟩
theorem fe_lstF (h : FAn X Γ W O es n fr) (hn : n ≤ 1000 := by decide) : FE X Γ W O .fr (.List es pos) (fLst fr) :=
  ⟨mono_LstA h.fa.mono, (pe_lst h.fa.pa).imp fun σ H Q ⟨env, st, R, T, q⟩ => ⟨env, st, R, T, h.fa.mono _ _ _ _ _ _ (fun ds s1 ⟨hl, z⟩ vs H1 e1 T1 r1 => ⟨small_cap (by rw [r1.length]; omega), fun p hp =>
    z _ _ (e1.trans (Ext.new hp).ev) (T1.ext (Ext.new hp)) ⟨p, rfl, e1.t _ hp, _, upd_same, r1.fresh (Ext.new hp) hp⟩⟩) (fun _ _ _ z => z) (h.len _ _ _ _ q)⟩⟩
theorem fe_lst (h : FAn X Γ W O es n fr) (hn : n ≤ 1000 := by decide) : FE X Γ W O .cl (.List es pos) (fLst fr) := (fe_lstF h hn).cl
theorem fe_tupS {x1} (h : FA X Γ W O es fr) : FE X Γ W O .cl (.Tuple es x1 pos) (fTupS fr) :=
  ⟨mono_TupS h.mono, (pe_tup h.pa).imp fun σ H Q ⟨env, st, R, T, q⟩ => ⟨env, st, R, T, h.mono _ _ _ _ _ _ (fun ds s1 ⟨hl, z⟩ vs H1 e1 T1 r1 => ⟨by rw [r1.length, ← cap_line]; exact hl, fun p hp =>
    z _ _ (e1.trans (Ext.new hp).ev) (T1.ext (Ext.new hp)) (.tup upd_same (((R.nok T).zone e1).new hp) (r1.ext (Ext.new hp)))⟩) (fun _ _ _ z => z) q⟩⟩
theorem fe_lstSF (h : FA X Γ W O es fr) : FE X Γ W O .fr (.List es pos) (fLstS fr) :=
  ⟨mono_LstS h.mono, (pe_lst h.pa).imp fun σ H Q ⟨env, st, R, T, q⟩ => ⟨env, st, R, T, h.mono _ _ _ _ _ _ (fun ds s1 ⟨hl, z⟩ vs H1 e1 T1 r1 => ⟨by rw [r1.length, ← cap_line]; exact hl, fun p hp =>
    z _ _ (e1.trans (Ext.new hp).ev) (T1.ext (Ext.new hp)) ⟨p, rfl, e1.t _ hp, _, upd_same, r1.fresh (Ext.new hp) hp⟩⟩) (fun _ _ _ z => z) q⟩⟩
theorem fe_lstS (h : FA X Γ W O es fr) : FE X Γ W O .cl (.List es pos) (fLstS fr) := (fe_lstSF h).cl
/-! ### isinstance(x, T), isinstance(x, (T, U)) -/
theorem fe_isi {T : Str} (t : Ty) (hm : X.mg "isinstance" = none) (hmT : X.mg T = none) (ha : FE X Γ W O .sh a fa) (hT : bootBuiltins T = some (.type (tyN t)) := by decide +kernel)
    (hg : Gl X "isinstance" := by rfl) (hgT : Gl X T := by rfl) (hn : T ≠ "__name__" := by decide) (hd : (T == ("__debug__" : Str)) = false := by decide)
    (he : starEach [a, .Name T p2] X.env = (false, eval a X.env) :: starEach [.Name T p2] X.env := by rfl) (he2 : starEach [.Name T p2] X.env = (false, eval (.Name T p2) X.env) :: starEach [] X.env := by rfl)
    (hpl : (backTo pos (starEach [.Name T p2] X.env)).any (·.1) = false := by rfl) : FE X Γ W O .cl (.Call (.Name "isinstance" p) [a, .Name T p2] [] pos) (fUn (qIsI [t]) fa) :=
  ⟨mono_Un mono_qIsI ha.mono, (pe_callB (x := "isinstance") (id := "isinstance") call_isi hg hm (by decide +kernel) (pa_cons ha.pe (pa_cons (pe_bltn (v := .ty (tyN t)) hgT hmT hT rfl hn hd) pa_nil he2) he) (by decide) (by decide) he hpl).imp fun σ H Q ⟨env, st, R, T', q⟩ =>
    ⟨env, st, R, T', ha.mono _ _ _ _ _ _ (fun d s1 ⟨bb, hb, z⟩ v H1 e1 T1 r1 => by
      have hb' : isTy d t = some bb := by
        unfold isTys at hb
        cases h1 : isTy d t with
        | none => rw [h1] at hb; cases hb
        | some c => rw [h1] at hb; cases c <;> simp_all [isTys]
      obtain ⟨S, e3, e4⟩ := isTy_kit hb'
      exact ⟨v, .ty (tyN t), .type S, .type (tyN t), bb, rfl, .ty _, .base (r1.ty e3), kit_ty e4, z _ H1 e1 T1 (.bl _)⟩) (fun _ _ _ z => z) q⟩⟩
theorem fe_isi2 {T U : Str} (t u : Ty) {x1} (hm : X.mg "isinstance" = none) (hmT : X.mg T = none) (hmU : X.mg U = none) (ha : FE X Γ W O .sh a fa) (hT : bootBuiltins T = some (.type (tyN t)) := by decide +kernel) (hU : bootBuiltins U = some (.type (tyN u)) := by decide +kernel)
    (hg : Gl X "isinstance" := by rfl) (hgT : Gl X T := by rfl) (hgU : Gl X U := by rfl) (hn : T ≠ "__name__" := by decide) (hn2 : U ≠ "__name__" := by decide) (hd : (T == ("__debug__" : Str)) = false := by decide) (hd2 : (U == ("__debug__" : Str)) = false := by decide)
    (he3 : starEach [.Name T p2, .Name U p3] X.env = (false, eval (.Name T p2) X.env) :: starEach [.Name U p3] X.env := by rfl) (he4 : starEach [.Name U p3] X.env = (false, eval (.Name U p3) X.env) :: starEach [] X.env := by rfl)
    (he : starEach [a, .Tuple [.Name T p2, .Name U p3] x1 p4] X.env = (false, eval a X.env) :: starEach [.Tuple [.Name T p2, .Name U p3] x1 p4] X.env := by rfl) (he2 : starEach [.Tuple [.Name T p2, .Name U p3] x1 p4] X.env = (false, eval (.Tuple [.Name T p2, .Name U p3] x1 p4) X.env) :: starEach [] X.env := by rfl)
    (hpl : (backTo pos (starEach [.Tuple [.Name T p2, .Name U p3] x1 p4] X.env)).any (·.1) = false := by rfl) : FE X Γ W O .cl (.Call (.Name "isinstance" p) [a, .Tuple [.Name T p2, .Name U p3] x1 p4] [] pos) (fUn (qIsI [t, u]) fa) :=
  ⟨mono_Un mono_qIsI ha.mono, (pe_callB (x := "isinstance") (id := "isinstance") call_isiT hg hm (by decide +kernel) (pa_cons ha.pe (pa_cons (pe_tup (pa_cons (pe_bltn (v := .ty (tyN t)) hgT hmT hT rfl hn hd) (pa_cons (pe_bltn (v := .ty (tyN u)) hgU hmU hU rfl hn2 hd2) pa_nil he4) he3)) pa_nil he2) he) (by decide) (by decide) he hpl).imp fun σ H Q ⟨env, st, R, T', q⟩ =>
    ⟨env, st, R, T', ha.mono _ _ _ _ _ _ (fun d s1 ⟨bb, hb, z⟩ v H1 e1 T1 r1 => by
      refine ⟨(by rw [sizeLine_eq]; decide : 2 ≤ sizeLine), fun tp htp => ?_⟩
      have hS : ∃ S, tyS d = some S := by
        unfold isTys at hb
        cases h1 : isTy d t with
        | none => rw [h1] at hb; cases hb
        | some c =>
          obtain ⟨S, e3, _⟩ := isTy_kit h1
          exact ⟨S, e3⟩
      obtain ⟨S, e3⟩ := hS
      have r2 : Sh Γ (NN Γ O σ) (upd H1 tp (.tup [.ty (tyN t), .ty (tyN u)])) v d := r1.zone (Ext.new htp).ev
      exact ⟨v, tp, [.ty (tyN t), .ty (tyN u)], .type S, [.type (tyN t), .type (tyN u)], bb, rfl, upd_same, .cons (.ty _) (.cons (.ty _) .nil), .base (r2.ty e3), isTys_kit hb S e3, z _ _ (e1.trans (Ext.new htp).ev) (T1.ext (Ext.new htp)) (.bl _)⟩) (fun _ _ _ z => z) q⟩⟩
end

/-! ### own defs -/
/-- a def keeps its promise wherever nothing is being shown by repr -/
structure FnG (P : Program) (w : World) (K : PySem.W.Frag) (mg : Str → Option Value) (base : Heap) (k : Nat) (f : Addr) (fd : FuncData) (ps : List Str) (sp : Sp) : Prop where
  len : ∀ vs H Q E, sp vs H Q E → vs.length = ps.length
  run : ∀ (A : Around) (outer : List PySem.Env) (s : Shared) (H : Hp) (args : Args) (us : List Value) (vs : List V) (Q : VK) (E : XK), A.guards = some [] → Room k A → Env0 P w K mg base A outer s H → BindsTo s fd args (ps.zip us) → Vals vs us → sp vs H Q E →
    codeAny (model P w) A (.call (.ref f) args) (CR (L2.CX P w) outer P w H s Q E) s
def MonoSp (sp : FSp) : Prop := ∀ ds st (Q Q' : KD) (X X' : XC), (∀ d s, Q d s → Q' d s) → (∀ t d s, X t d s → X' t d s) → sp ds st Q X → sp ds st Q' X'
/-- a spec over data as a promise over the heap; n: how many parameters -/
def liftSp (K : PySem.W.Frag) (w : World) (CT : Nat → Option Addr) (n : Nat) (sp : FSp) : Sp := fun vs H Q E => vs.length = n ∧ ∃ (Γ : G) (ds : List D) (st : S), Γ.g.K = K ∧ Γ.g.w = w ∧ Γ.g.ex = none ∧ Γ.CT = CT ∧ ST Γ H st ∧ RepL Γ.g Γ.B H vs ds ∧
  sp ds st (fun d st' => ∀ v H', Ev (Zone Γ.g) H H' → ST Γ H' st' → Rep Γ.g Γ.B H' v d → Q v H')
    (fun tag d st' => ∀ (C dx : Addr) (v : V) (H' : Hp), CT tag = some C → Ev (Zone Γ.g) H H' → ST Γ H' st' → H' dx = some (.xd [(("at" : Str), v)]) → ¬ Γ.B dx → Rep Γ.g Γ.B H' v d → E (.ref C) (some dx) H')
/-- the def st stands under the name x and keeps the spec -/
structure Def (P : Program) (w : World) (K : PySem.W.Frag) (mg : Str → Option Value) (base : Heap) (CT : Nat → Option Addr) (x : Str) (st : Stmt) (ps : List Str) (k : Nat) (sp : FSp) : Prop where
  mono : MonoSp sp
  ex : ∃ (f : Addr) (fd : FuncData), mg x = some (.ref f) ∧ Fun K x x st f fd ∧ FnG P w K mg base k f fd ps (liftSp K w CT ps.length sp)
/-- how the values given bind: those by place, then those by name -/
def KwOk (x : Str) (st : Stmt) (ps ks : List Str) (n : Nat) (ix : List Nat) : Prop := ∀ (kV doc pm : Value) (an : Option Addr) (cdv ct : Value) (us ws : List Value), us.length = n → ws.length = ks.length →
  bindArgs (PySem.W.fnOf x x (defArgs st) (defBody st) (defScope st) .none kV doc pm an cdv ct) ⟨us, ks.zip ws⟩ = pure (ps.zip (pick ix (us ++ ws)))
theorem pick_range' {α : Type} : ∀ (n k : Nat) (us : List α), pick (List.range' k n) us = (us.drop k).take n
  | 0, _, _ => by simp [pick]
  | n + 1, k, us => by
    rw [List.range'_succ]
    unfold pick
    rw [pick_range' n (k + 1) us]
    cases h : us[k]? with
    | none =>
      have hl := List.getElem?_eq_none_iff.mp h
      rw [List.drop_eq_nil_of_le (by omega), List.drop_eq_nil_of_le hl]
      simp
    | some x =>
      obtain ⟨hl, e⟩ := List.getElem?_eq_some_iff.mp h
      rw [List.drop_eq_getElem_cons hl, e, List.take_succ_cons]
theorem pick_range {α : Type} (us : List α) : pick (List.range us.length) us = us := by
  rw [List.range_eq_range', pick_range', List.drop_zero, List.take_length]
theorem pick_len {α β : Type} : ∀ (ix : List Nat) (l : List α) (l' : List β), l.length = l'.length → (pick ix l).length = (pick ix l').length
  | [], _, _, _ => rfl
  | i :: r, l, l', h => by
    unfold pick
    have ih := pick_len r l l' h
    by_cases hi : i < l.length
    · rw [List.getElem?_eq_getElem hi, List.getElem?_eq_getElem (h ▸ hi)]
      simp [ih]
    · rw [List.getElem?_eq_none_iff.mpr (by omega), List.getElem?_eq_none_iff.mpr (by omega)]
      exact ih
theorem Vals.pick : ∀ {ix : List Nat} {vs : List V} {us : List Value}, Vals vs us → Vals (pick ix vs) (pick ix us)
  | [], _, _, _ => .nil
  | i :: r, vs, us, h => by
    unfold Fy.pick
    cases hv : vs[i]? with
    | none =>
      rw [h.none_of hv]
      exact Vals.pick h
    | some v =>
      obtain ⟨u, hu, ru⟩ := h.get hv
      rw [hu]
      exact .cons ru (Vals.pick h)
theorem RepL.pick {g : G0} {N : Addr → Prop} {H : Hp} : ∀ {ix : List Nat} {vs : List V} {ds : List D}, RepL g N H vs ds → RepL g N H (pick ix vs) (pick ix ds)
  | [], _, _, _ => .nil
  | i :: r, vs, ds, h => by
    unfold Fy.pick
    cases hv : ds[i]? with
    | none =>
      have : vs[i]? = none := by
        rw [List.getElem?_eq_none_iff] at hv ⊢
        rw [h.length]
        exact hv
      rw [this]
      exact RepL.pick h
    | some d =>
      obtain ⟨v, hu, ru⟩ := h.get hv
      rw [hu]
      exact .cons ru (RepL.pick h)
section
variable {X : Cx} {Γ : G} {W : WX} {O : List Nat} {a : Expr} {es : List Expr} {fr : FTA} {pos p : Pos} {n k kk : Nat} {CT : Nat → Option Addr} {x : Str} {st : Stmt} {ps ks : List Str} {sp : FSp} {ix : List Nat}
/-- what a callee may change is no more than the draws' source -/
def Γin (Γ : G) (O : List Nat) (σ : L2.St) : G := { g := Γ.g, B := NN Γ O σ, zb := fun a z => .inl (Γ.zb a z), CT := Γ.CT, n := Γ.n }
theorem callSp {H H1 : Hp} {σ : L2.St} {env : Env} {s0 s1 : S} {ds : List D} {vs : List V} {Q : VK} (c : Ctx X Γ W kk) (hCT : Γ.CT = CT) (hm : MonoSp sp) (R : EnvR Γ O H σ env) (T : ST Γ H s0) (e1 : Ev (Zone Γ.g) H H1) (T1 : ST Γ H1 s1) (r1 : RepL Γ.g (NN Γ O σ) H1 vs ds) (hl : vs.length = n)
    (z : sp ds s1 (fun d st' => ∀ v H', Ev (Zone Γ.g) H H' → ST Γ H' st' → Rep Γ.g (NN Γ O σ) H' v d → Q v H') (exK Γ W O σ H)) : liftSp X.K X.w CT n sp vs H1 Q (WE W σ) := by
  have toIn : ∀ {H' : Hp} {s' : S}, Ev (Zone Γ.g) H H' → ST Γ H' s' → ST (Γin Γ O σ) H' s' := fun e T' => ⟨T'.z, fun a za => (R.ev e).nn T' za, T'.sz⟩
  have ofIn : ∀ {H' : Hp} {s' : S}, ST (Γin Γ O σ) H' s' → ST Γ H' s' := fun T' => ⟨T'.z, fun a za => T'.b a (.inl za), T'.sz⟩
  refine ⟨hl, Γin Γ O σ, ds, s1, c.hK, c.hw, c.ex0, hCT, toIn e1 T1, r1, hm _ _ _ _ _ _ (fun d s2 q v H2 e2 T2 r2 => q v H2 (e1.trans e2) (ofIn T2) r2) (fun t d s2 q C dx v H2 hC e2 T2 hx nb r2 => ?_) z⟩
  exact q C dx v H2 (by rw [hCT]; exact hC) (e1.trans e2) (ofIn T2) hx nb r2
theorem mono_Call (hm : MonoSp sp) (hf : MonoA fr) : MonoE (fCall sp fr) := fun env st Q Q' X X' h hx q => hf _ _ _ _ _ _ (fun ds s z => hm _ _ _ _ _ _ h hx z) hx q
theorem mono_CallP (hm : MonoSp sp) (hf : MonoA fr) : MonoE (fCallP sp ix fr) := fun env st Q Q' X X' h hx q => hf _ _ _ _ _ _ (fun ds s z => hm _ _ _ _ _ _ h hx z) hx q
theorem run_fnG {f : Addr} {fd : FuncData} {E : L2.St → XK} {pins : List (Addr × Obj)} {σ : L2.St} {H : Hp} {s : Shared} {Q : VK} {us : List Value} {vs : List V} {args : Args} {hsp : Sp} (F : FnG X.prog X.w X.K X.mg X.base k f fd ps hsp) (gd : X.A.guards = some []) (hr : Room k X.A) (hx : PassesAt (L2.CX X.prog X.w) X σ (E σ))
    (I : Inv X pins σ H s) (hb : BindsTo s fd args (ps.zip us)) (r : Vals vs us) (h : hsp vs H Q (E σ)) : wpAny (model X.prog X.w) X.A (call (.ref f) args.pos args.kw) (EP X pins σ Q) X.xe s := by
  refine wpAny_call (codeAny_mono (F.run X.A X.stack s H ⟨args.pos, args.kw⟩ us vs Q (E σ) gd hr I.env0 hb r h) fun r s' hq => ?_)
  cases r with
  | error e => exact hx pins H s e s' I hq
  | ok fl =>
    cases fl with
    | ret u => exact I.after hq
    | next => exact False.elim hq
    | brk => exact False.elim hq
    | cont => exact False.elim hq
/-- x(a, ..), x an own def -/
theorem fe_call (c : Ctx X Γ W kk) (hCT : Γ.CT = CT) (D : Def X.prog X.w X.K X.mg X.base CT x st ps k sp) (hb : KwOk x st ps [] ps.length (List.range ps.length)) (ha : FAn X Γ W O (a :: es) n fr) (hn : n = ps.length := by rfl) (hk : k ≤ kk := by decide) (hg : Gl X x := by rfl) (hdb : (x == ("__debug__" : Str)) = false := by decide)
    (he : starEach (a :: es) X.env = (false, eval a X.env) :: starEach es X.env := by rfl) (hpl : (backTo pos (starEach es X.env)).any (·.1) = false := by rfl) : FE X Γ W O .cl (.Call (.Name x p) (a :: es) [] pos) (fCall sp fr) := by
  refine ⟨mono_Call D.mono ha.fa.mono, ⟨fun pins s σ H Q I h => ?_⟩⟩
  obtain ⟨f, fd, hm, F, G⟩ := D.ex
  obtain ⟨env, st, R, T, h⟩ := h
  refine wpAny_Call_Name_kw (ld_glob I hg hm ?_ hdb)
  have pre : liftA Γ W O fr σ H (fun vs H1 => vs.length = ps.length ∧ liftSp X.K X.w CT ps.length sp vs H1 Q (WE W σ)) :=
    ⟨env, st, R, T, ha.fa.mono _ _ _ _ _ _ (fun ds s1 ⟨hl, z⟩ vs H1 e1 T1 r1 => by
      have hv : vs.length = ps.length := by rw [r1.length, hl, hn]
      exact ⟨hv, callSp c hCT D.mono R T e1 T1 r1 hv z⟩) (fun _ _ _ z => z) (ha.len _ _ _ _ h)⟩
  refine PySem.W.callWith_K (h₀ := X.base) I.ok.mod.kin F.kp (thn (ha.fa.pa.run pos pins s σ H _ I pre) fun us s1 ⟨vs, H1, I1, r, hv, q⟩ => ⟨I1.kIn, ?_⟩) he hpl
  have hu : us.length = ps.length := by rw [← r.length, hv]
  obtain ⟨oc, od, kV, doc, pm, an, cdv, ct, osl, e, lk, hcd⟩ := F.ex
  subst e
  have hbi := hb kV doc pm an cdv ct us [] hu rfl
  have pk : pick (List.range ps.length) (us ++ []) = us := by
    rw [List.append_nil, ← hu]
    exact pick_range us
  rw [pk] at hbi
  exact run_fnG (E := WE W) (args := ⟨us, []⟩) G c.gd (c.room.mono hk) (passAt c.tk σ) I1 (.of_eq hbi) r q
/-- x(), no argument -/
theorem fe_call0 (c : Ctx X Γ W kk) (hCT : Γ.CT = CT) (D : Def X.prog X.w X.K X.mg X.base CT x st [] k sp) (hb : KwOk x st [] [] 0 []) (hk : k ≤ kk := by decide) (hg : Gl X x := by rfl) (hdb : (x == ("__debug__" : Str)) = false := by decide) :
    FE X Γ W O .cl (.Call (.Name x p) [] [] pos) (fCall sp aNil) := by
  refine ⟨mono_Call D.mono (fun _ _ _ _ _ _ h _ q => h _ _ q), ⟨fun pins s σ H Q I h => ?_⟩⟩
  obtain ⟨f, fd, hm, F, G⟩ := D.ex
  obtain ⟨env, st, R, T, h⟩ := h
  refine wpAny_Call_Name_kw (ld_glob I hg hm ?_ hdb)
  refine PySem.W.callWith_KW0 (kws := []) (env := X.env) (h₀ := X.base) I.ok.mod.kin F.kp rfl ?_ rfl
  refine wpAny_evalAll_nil ⟨I.kIn, ?_⟩
  obtain ⟨oc, od, kV, doc, pm, an, cdv, ct, osl, e, lk, hcd⟩ := F.ex
  subst e
  have hbi := hb kV doc pm an cdv ct [] [] rfl rfl
  exact run_fnG (E := WE W) (args := ⟨[], []⟩) (us := []) G c.gd (c.room.mono hk) (passAt c.tk σ) I (.of_eq hbi) .nil (callSp c hCT D.mono R T Ev.refl T .nil rfl h)
/-! arguments by keywords -/
structure FK (X : Cx) (Γ : G) (W : WX) (O : List Nat) (kws : List Keyword) (n : Nat) (f : FTA) : Prop where
  mono : MonoA f
  pk : PK X kws (liftA Γ W O f)
  len : ∀ env st (Q : List D → S → Prop) (X : XC), f env st Q X → f env st (fun ds s => ds.length = n ∧ Q ds s) X
theorem _root_.L2.PK.imp {X : Cx} {e : List Keyword} {t t' : TA} (h : PK X e t) (k : ∀ σ H Q, t' σ H Q → t σ H Q) : PK X e t' := ⟨fun p pins s σ H Q I hw => h.run p pins s σ H Q I (k σ H Q hw)⟩
theorem fk_nil : FK X Γ W O [] 0 aNil := ⟨fun _ _ _ _ _ _ h _ q => h _ _ q, pk_nil.imp fun σ H Q ⟨env, st, R, T, q⟩ => q [] H Ev.refl T .nil, fun _ _ _ _ q => ⟨rfl, q⟩⟩
theorem fk_cons {fa : FTE} {nm : Option Str} {kws : List Keyword} {kpos : Pos} (ha : FE X Γ W O .cl a fa) (hr : FK X Γ W O kws n fr) : FK X Γ W O (⟨nm, a, kpos⟩ :: kws) (n + 1) (aCons fa fr) :=
  ⟨mono_Cons ha.mono hr.mono, (pk_cons ha.pe hr.pk).imp fun σ H Q ⟨env, st, R, T, q⟩ => ⟨env, st, R, T, ha.mono _ _ _ _ _ _ (fun d s1 z v H1 e1 T1 r1 => ⟨env, s1, R.ev e1, T1, hr.mono _ _ _ _ _ _ (fun ds s2 z vs H2 e2 T2 r2 =>
    z (v :: vs) H2 (e1.trans e2) T2 (.cons (r1.zone e2) r2)) (fun t d s z => exK.ev e1 z) z⟩) (fun _ _ _ z => z) q⟩,
  fun env st Q X q => ha.mono _ _ _ _ _ _ (fun d s1 z => hr.mono _ _ _ _ _ _ (fun ds s2 ⟨l, z⟩ => ⟨by rw [List.length_cons, l], z⟩) (fun _ _ _ z => z) (hr.len _ _ _ _ z)) (fun _ _ _ z => z) q⟩
/-- x(k = a, ..), keywords alone -/
theorem fe_callK {kws : List Keyword} (ix : List Nat) (c : Ctx X Γ W kk) (hCT : Γ.CT = CT) (D : Def X.prog X.w X.K X.mg X.base CT x st ps k sp) (hb : KwOk x st ps ks 0 ix) (ha : FK X Γ W O kws n fr) (hn : n = ks.length := by rfl) (hi : (pick ix (List.range n)).length = ps.length := by decide) (hk : k ≤ kk := by decide) (hg : Gl X x := by rfl) (hdb : (x == ("__debug__" : Str)) = false := by decide)
    (hall : (backToKw pos (keywordEach kws X.env)).all (·.1.isSome) = true := by rfl) (hks : (backToKw pos (keywordEach kws X.env)).filterMap (·.1) = ks := by rfl)
    (hpl : ((backTo pos (starEach [] X.env)).any (·.1) || (backToKw pos (keywordEach kws X.env)).any (·.1.isNone)) = false := by rfl) : FE X Γ W O .cl (.Call (.Name x p) [] kws pos) (fCallP sp ix fr) := by
  refine ⟨mono_CallP D.mono ha.mono, ⟨fun pins s σ H Q I h => ?_⟩⟩
  obtain ⟨f, fd, hm, F, G⟩ := D.ex
  obtain ⟨env, st, R, T, h⟩ := h
  refine wpAny_Call_Name_kw (ld_glob I hg hm ?_ hdb)
  have pre : liftA Γ W O fr σ H (fun vs H1 => vs.length = ks.length ∧ liftSp X.K X.w CT ps.length sp (pick ix vs) H1 Q (WE W σ)) :=
    ⟨env, st, R, T, ha.mono _ _ _ _ _ _ (fun ds s1 ⟨hl, z⟩ vs H1 e1 T1 r1 => by
      have hv : vs.length = n := by rw [r1.length, hl]
      have hp : (pick ix vs).length = ps.length := by
        have e := pick_len ix vs (List.range n) (by rw [hv, List.length_range])
        rw [e]
        exact hi
      exact ⟨by rw [hv, hn], callSp c hCT D.mono R T e1 T1 r1.pick hp z⟩) (fun _ _ _ z => z) (ha.len _ _ _ _ h)⟩
  refine PySem.W.callWith_KW0 (h₀ := X.base) I.ok.mod.kin F.kp hall ?_ hpl
  refine thn (ha.pk.run pos pins s σ H _ I pre) fun us s1 ⟨vs, H1, I1, r, hv, q⟩ => ⟨I1.kIn, ?_⟩
  rw [hks]
  obtain ⟨oc, od, kV, doc, pm, an, cdv, ct, osl, e, lk, hcd⟩ := F.ex
  subst e
  have hbi := hb kV doc pm an cdv ct [] us rfl (by rw [← r.length, hv])
  rw [List.nil_append] at hbi
  exact run_fnG (E := WE W) (args := ⟨[], ks.zip us⟩) G c.gd (c.room.mono hk) (passAt c.tk σ) I1 (.of_eq hbi) (Vals.pick r) q
end
end Fy
set_option Elab.async false
set_option linter.all false
set_option maxRecDepth 100000
set_option maxHeartbeats 4000000
/-! FyF: slots stored, targets, what is walked, comprehensions. -/
namespace Fy
open PySem L2

section
variable {Γ : G} {O O' O1 O2 : List Nat} {H H' H1 H2 : Hp} {σ σ' σ1 σ2 : L2.St} {env : Env} {st : S}
/-- the owned slots hold what they held -/
def Agr (O : List Nat) (σ σ' : L2.St) : Prop := ∀ i, i ∈ O → σ'[i]? = σ[i]?
theorem Agr.refl : Agr O σ σ := fun _ _ => rfl
theorem Agr.trans (a : Agr O σ σ1) (b : Agr O σ1 σ2) : Agr O σ σ2 := fun i h => (b i h).trans (a i h)
theorem Agr.own (a : Agr O σ σ') {b : Addr} : OwnA O σ' b ↔ OwnA O σ b := ⟨fun ⟨i, h, e⟩ => ⟨i, h, (a i h).symm.trans e⟩, fun ⟨i, h, e⟩ => ⟨i, h, (a i h).trans e⟩⟩
theorem Agr.nn (a : Agr O σ σ') {b : Addr} : NN Γ O σ' b ↔ NN Γ O σ b := by
  unfold NN
  rw [a.own]
theorem agr_set {i : Nat} {x : Option V} (h : i ∉ O) : Agr O σ (σ.set i x) := fun j hj => List.getElem?_set_ne (fun (e : i = j) => h (by rw [e]; exact hj))
theorem Rep.nn {g : G0} {N N' : Addr → Prop} {v : V} {d : D} (h : Rep g N H v d) (s : ∀ b, N' b → N b) : Rep g N' H v d := Rep.ev (fun _ _ z _ => z) (fun b _ z => s b z) _ _ h
theorem RepL.nn {g : G0} {N N' : Addr → Prop} {v : List V} {d : List D} (h : RepL g N H v d) (s : ∀ b, N' b → N b) : RepL g N' H v d := RepL.ev (fun _ _ z _ => z) (fun b _ z => s b z) _ _ h
theorem EnvR.agr (R : EnvR Γ O H σ env) {σ' : L2.St} {env' : Env} (a : Agr O σ σ') (hl : env'.length = σ'.length) (hc : σ'.length = Γ.n) (hv : ∀ i d, look env' i = some d → i ∉ O → ∃ v, σ'[i]? = some (some v) ∧ Rep Γ.g (NN Γ O σ) H v d) (ho : ∀ i, i ∈ O → look env' i = look env i) : EnvR Γ O H σ' env' where
  len := hl
  cnt := hc
  val := fun i d h n => by
    obtain ⟨v, e, r⟩ := hv i d h n
    exact ⟨v, e, r.nn fun b z => a.nn.mp z⟩
  own := fun i hi => by
    obtain ⟨b, d, e1, e2, nb, ow⟩ := R.own i hi
    exact ⟨b, d, (ho i hi).trans e1, (a i hi).trans e2, nb, ow.ev (fun _ z => z) (fun _ _ z _ => z) fun b _ z => a.nn.mp z⟩
  dis := fun i hi j hj b h1 h2 => R.dis i hi j hj b ((a i hi).symm.trans h1) ((a j hj).symm.trans h2)
theorem EnvR.put (R : EnvR Γ O H σ env) {i : Nat} {v : V} {d : D} (hi : i ∉ O) (r : Rep Γ.g (NN Γ O σ) H v d) : EnvR Γ O H (σ.set i (some v)) (Fy.put env i (some d)) := by
  refine R.agr (agr_set hi) (by rw [put_length, List.length_set, R.len]) (by rw [List.length_set]; exact R.cnt) (fun j e h n => ?_) fun j hj => look_put_ne fun e => hi (e ▸ hj)
  by_cases hj : i = j
  · subst hj
    have hlt := look_lt h
    rw [put_length] at hlt
    rw [look_put_same hlt] at h
    injection h with h
    subst h
    exact ⟨v, List.getElem?_set_self (by rw [← R.len]; exact hlt), r⟩
  · rw [look_put_ne hj] at h
    obtain ⟨w, e1, r1⟩ := R.val j e h n
    exact ⟨w, by rw [List.getElem?_set_ne hj]; exact e1, r1⟩
theorem EnvR.putNone (R : EnvR Γ O H σ env) {i : Nat} (hi : i ∉ O) : EnvR Γ O H (σ.set i none) (Fy.put env i none) := by
  refine R.agr (agr_set hi) (by rw [put_length, List.length_set, R.len]) (by rw [List.length_set]; exact R.cnt) (fun j e h n => ?_) fun j hj => look_put_ne fun e => hi (e ▸ hj)
  by_cases hj : i = j
  · subst hj
    have hlt := look_lt h
    rw [put_length] at hlt
    rw [look_put_same hlt] at h
    cases h
  · rw [look_put_ne hj] at h
    obtain ⟨w, e1, r1⟩ := R.val j e h n
    exact ⟨w, by rw [List.getElem?_set_ne hj]; exact e1, r1⟩
theorem EnvR.wipe (R : EnvR Γ O H σ env) : ∀ {vs : List Nat}, (∀ i, i ∈ vs → i ∉ O) → EnvR Γ O H (L2.wipe σ vs) (wipes env vs) ∧ Agr O σ (L2.wipe σ vs)
  | [], _ => ⟨R, Agr.refl⟩
  | v :: vs, h => by
    obtain ⟨r, a⟩ := R.wipe (vs := vs) fun i hi => h i (List.mem_cons_of_mem _ hi)
    have hv := h v (List.mem_cons_self ..)
    exact ⟨r.putNone hv, a.trans (agr_set hv)⟩
/-! ### targets -/
def liftG (Γ : G) (O : List Nat) (ts : List Nat) (f : FTG) : TG := fun v σ H Q => ∃ env d, EnvR Γ O H σ env ∧ Rep Γ.g (NN Γ O σ) H v d ∧
  f d env (fun env' => ∀ σ', EnvR Γ O H σ' env' → Agr O σ σ' → (∀ vs : List Nat, (∀ i, i ∈ ts → i ∈ vs) → wipe σ' vs = wipe σ vs) → Q σ' H)
def liftGs (Γ : G) (O : List Nat) (ts : List Nat) (f : FTGs) : TGs := fun vs σ H Q => ∃ env ds, EnvR Γ O H σ env ∧ RepL Γ.g (NN Γ O σ) H vs ds ∧
  f ds env (fun env' => ∀ σ', EnvR Γ O H σ' env' → Agr O σ σ' → (∀ vs : List Nat, (∀ i, i ∈ ts → i ∈ vs) → wipe σ' vs = wipe σ vs) → Q σ' H)
def MonoG (f : FTG) : Prop := ∀ d env (Q Q' : Env → Prop), (∀ e, Q e → Q' e) → f d env Q → f d env Q'
def MonoGs (f : FTGs) : Prop := ∀ d env (Q Q' : Env → Prop), (∀ e, Q e → Q' e) → f d env Q → f d env Q'
structure FG (X : Cx) (Γ : G) (O : List Nat) (ts : List Nat) (e : Expr) (f : FTG) : Prop where
  mono : MonoG f
  pg : PG X e (liftG Γ O ts f)
structure FGs (X : Cx) (Γ : G) (O : List Nat) (ts : List Nat) (es : List Expr) (f : FTGs) : Prop where
  mono : MonoGs f
  pg : PGs X es (liftGs Γ O ts f)
theorem _root_.L2.PG.imp {X : Cx} {e : Expr} {t t' : TG} (h : PG X e t) (k : ∀ v σ H Q, t' v σ H Q → t v σ H Q) : PG X e t' := ⟨fun pins s σ H v u Q I r hw => h.run pins s σ H v u Q I r (k v σ H Q hw)⟩
theorem _root_.L2.PGs.imp {X : Cx} {e : List Expr} {t t' : TGs} (h : PGs X e t) (k : ∀ v σ H Q, t' v σ H Q → t v σ H Q) : PGs X e t' := ⟨fun pins s σ H v u Q I r hw => h.run pins s σ H v u Q I r (k v σ H Q hw)⟩
theorem wipe_set {i : Nat} {x : Option V} : ∀ {vs : List Nat}, i ∈ vs → wipe (σ.set i x) vs = wipe σ vs
  | v :: vs, h => by
    show (wipe (σ.set i x) vs).set v none = (wipe σ vs).set v none
    by_cases hv : v = i
    · subst hv
      by_cases hm : v ∈ vs
      · rw [wipe_set hm]
      · have key : ∀ (vs : List Nat), v ∉ vs → wipe (σ.set v x) vs = (wipe σ vs).set v x := by
          intro vs
          induction vs with
          | nil => intro _; rfl
          | cons w r ih =>
            intro hn
            show (wipe (σ.set v x) r).set w none = ((wipe σ r).set w none).set v x
            rw [ih fun z => hn (List.mem_cons_of_mem _ z)]
            exact List.set_comm _ _ fun e => hn (e ▸ List.mem_cons_self ..)
        rw [key vs hm, List.set_set]
    · have hm : i ∈ vs := by
        rcases List.mem_cons.mp h with e | e
        · exact absurd e.symm hv
        · exact e
      rw [wipe_set hm]
variable {X : Cx} {W : WX} {pos p : Pos}
theorem fg_name (i : Nat) {x : Str} (hN : X.N.Nodup) (ho : i ∉ O := by decide) (hi : X.N[i]? = some x := by rfl) (hx : Loc X.env.scope x := by first | exact Or.inl rfl | exact Or.inr rfl) (hf : X.fn x = true ∨ X.env.scope.names.lookup x = some .local := by first | exact .inl rfl | exact .inr rfl) :
    FG X Γ O [i] (.Name x pos) (gNm i) :=
  ⟨fun d env Q Q' h q => h _ q, (pg_name hN hi hx hf).imp fun v σ H Q ⟨env, d, R, r, q⟩ => q _ (R.put ho r) (agr_set ho) fun vs hv => wipe_set (hv i (List.mem_cons_self ..))⟩
theorem fgs_nil : FGs X Γ O [] [] gNil := ⟨fun d env Q Q' h q => ⟨q.1, h _ q.2⟩, pgs_nil.imp fun v σ H Q ⟨env, ds, R, r, e, q⟩ => by
  subst e
  cases r
  exact ⟨rfl, q σ R Agr.refl fun _ _ => rfl⟩⟩
theorem fgs_cons {e : Expr} {es : List Expr} {f : FTG} {fr : FTGs} {ts ts' : List Nat} (h1 : FG X Γ O ts e f) (h2 : FGs X Γ O ts' es fr) (hs : (assignEach (e :: es) X.env).map (·.2) = assign e X.env :: (assignEach es X.env).map (·.2) := by rfl) : FGs X Γ O (ts ++ ts') (e :: es) (gMore f fr) :=
  ⟨fun ds env Q Q' h q => by
    cases ds with
    | nil => exact q.elim
    | cons d r => exact h1.mono _ _ _ _ (fun e z => h2.mono _ _ _ _ h z) q,
  (pgs_cons h1.pg h2.pg hs).imp fun vs σ H Q ⟨env, ds, R, r, q⟩ => by
    cases r with
    | nil => exact q.elim
    | @cons v vr d dr r1 r2 =>
      refine ⟨v, vr, rfl, env, d, R, r1, h1.mono _ _ _ _ (fun e z σ1 R1 a1 w1 => ⟨e, dr, R1, r2.nn fun b z => a1.nn.mp z, h2.mono _ _ _ _ (fun e2 z σ2 R2 a2 w2 => z σ2 R2 (a1.trans a2) fun vs hv => ?_) z⟩) q⟩
      rw [w2 vs fun i hi => hv i (List.mem_append_right _ hi), w1 vs fun i hi => hv i (List.mem_append_left _ hi)]⟩
theorem mono_asTup {x : D} {Q Q' : List D → Prop} (h : ∀ l, Q l → Q' l) (q : asTup Q x) : asTup Q' x := by
  cases x <;> first | exact q.elim | exact h _ q
/-- how many targets -/
def LenGs (n : Nat) (f : FTGs) : Prop := ∀ ds env Q, f ds env Q → ds.length = n
theorem len_nil : LenGs 0 gNil := fun ds env Q q => by rw [q.1]; rfl
theorem len_more {f : FTG} {fr : FTGs} {n : Nat} (hm : MonoG f) (h : LenGs n fr) (hne : ∀ d env (Q : Env → Prop), f d env Q → ∃ e, Q e) : LenGs (n + 1) (gMore f fr) := fun ds env Q q => by
  cases ds with
  | nil => exact q.elim
  | cons d r =>
    obtain ⟨e, z⟩ := hne _ _ _ q
    rw [List.length_cons, h r e Q z]
theorem fg_tup {es : List Expr} {kk n : Nat} {f : FTGs} {ts : List Nat} (h : FGs X Γ O ts es f) (hl : LenGs n f) (hc : X.calm = true := by rfl) (hn : (assignEach es X.env).length = n := by rfl) (hst : (assignEach es X.env).findIdx? (·.1) = none := by rfl) :
    FG X Γ O ts (.Tuple es kk pos) (gTp f) :=
  ⟨fun d env Q Q' hq q => mono_asTup (fun l z => h.mono _ _ _ _ hq z) q, (pg_tup hc h.pg hn hst).imp fun v σ H Q ⟨env, d, R, r, q⟩ => by
    cases d <;> first | exact (q : False).elim | skip
    cases r with
    | @tup a vs ds ha na rl => exact ⟨a, vs, rfl, SqT.of ha, by rw [rl.length]; exact hl _ _ _ q, env, _, R, rl, q⟩⟩
/-! ### what is walked -/
/-- from H to H' all but N' stays, and of what stood in H no more is in N' than in N -/
structure Keep (N N' : Addr → Prop) (H H' : Hp) : Prop where
  s : ∀ b, H b ≠ none → N' b → N b
  k : ∀ b o, H b = some o → ¬ N b → H' b = some o
theorem Keep.at {N N' : Addr → Prop} (k : Keep N N' H H') {a : Addr} {o : HO} (h : H a = some o) (n : ¬ N a) : H' a = some o := k.k a o h n
theorem Keep.rep {g : G0} {N N' : Addr → Prop} (k : Keep N N' H H') {v : V} {d : D} (r : Rep g N H v d) : Rep g N' H' v d := Rep.ev (fun _ _ h n => k.at h n) k.s _ _ r
/-- the iterator J gives the data l while what they lean on stays -/
structure ItOk (g : G0) (N : Addr → Prop) (J : It) (l : List D) (H : Hp) : Prop where
  go : ∀ N' H' i, Keep N N' H H' → i < l.length → J.go i H'
  stop : ∀ N' H', Keep N N' H H' → J.stop l.length H'
  yld : ∀ N' H' i x H'', Keep N N' H H' → NOk N' H' → J.yld i H' x H'' → i < l.length → Ext H' H'' ∧ ∃ d, l[i]? = some d ∧ Rep g N' H'' x d
def MonoI (f : FTI) : Prop := ∀ env st (Q Q' : List D → S → Prop) (X X' : XC), (∀ d s, Q d s → Q' d s) → (∀ t d s, X t d s → X' t d s) → f env st Q X → f env st Q' X'
def liftI (Γ : G) (W : WX) (O : List Nat) (f : FTI) : TI := fun σ H R => ∃ env st, EnvR Γ O H σ env ∧ ST Γ H st ∧
  f env st (fun l st' => ∀ J H', Ev (Zone Γ.g) H H' → ST Γ H' st' → ItOk Γ.g (NN Γ O σ) J l H' → R J H') (exK Γ W O σ H)
structure FI (X : Cx) (Γ : G) (W : WX) (O : List Nat) (tg e : Expr) (f : FTI) : Prop where
  mono : MonoI f
  pi : PI X tg e (liftI Γ W O f)
theorem _root_.L2.PI.imp {X : Cx} {tg e : Expr} {t t' : TI} (h : PI X tg e t) (k : ∀ σ H Q, t' σ H Q → t σ H Q) : PI X tg e t' := ⟨fun pins s σ H Q I hw => h.run pins s σ H Q I (k σ H Q hw)⟩
/-- a list or a tuple -/
def iSeqW (K : PySem.W.Frag) (tl : TE) : TI := fun σ H R => tl σ H fun x H1 => ∃ a, x = .ref a ∧ (((∃ xs, SqL K H1 a xs) ∧ R (Itl K a) H1) ∨ ((∃ xs, SqT K H1 a xs) ∧ R (Itt K a) H1))
theorem pi_seq {tg e : Expr} {tl : TE} (h : PE X e tl) : PI X tg e (iSeqW X.K tl) := by
  refine ⟨fun pins s σ H R I hq => ?_⟩
  -- the item's expression is run; what it gives is known again as a constant
  refine thn (h.run pins s σ H _ I hq) fun v s1 ⟨x, H1, I1, r1, a, ex, q⟩ => ?_
  subst ex
  obtain rfl : v = Value.ref a := r1
  rcases q with ⟨⟨xs, hs⟩, q⟩ | ⟨⟨xs, hs⟩, q⟩
  · obtain ⟨its, rv, pl, hz⟩ := I1.list hs
    refine wpAny_pyIter_list pl.isList ⟨s1.heap.objs.size, [s1.heap.objs.size], _, _, H1, rfl, I1.kept (t' := s1.toks) fun b o z => Heap.get?_push_of_some _ z, turn_list a _, ⟨_, Heap.get?_push_size _ rfl, rfl, rfl⟩, fun b hb => ?_, q⟩
    obtain rfl : b = s1.heap.objs.size := by simpa using hb
    exact I1.fpOk (Nat.le_refl _) (I1.hok.fresh (Nat.le_refl _))
  · obtain ⟨its, rv, pl, hz⟩ := I1.tuple hs
    refine wpAny_pyIter_tuple (show s1.heap.IsTuple a its.toArray from pl) ⟨s1.heap.objs.size, [s1.heap.objs.size], _, _, H1, rfl, I1.kept (t' := s1.toks) fun b o z => Heap.get?_push_of_some _ z, turn_tuple a _, ⟨_, Heap.get?_push_size _ rfl, rfl, rfl⟩, fun b hb => ?_, q⟩
    obtain rfl : b = s1.heap.objs.size := by simpa using hb
    exact I1.fpOk (Nat.le_refl _) (I1.hok.fresh (Nat.le_refl _))
theorem keep_rep {g : G0} {N : Addr → Prop} {v : V} {d : D} (r : Rep g N H v d) (k : ∀ b o, H b = some o → ¬ N b → H' b = some o) : Rep g N H' v d := Rep.ev k (fun _ _ z => z) _ _ r
theorem keep_repL {g : G0} {N : Addr → Prop} {v : List V} {d : List D} (r : RepL g N H v d) (k : ∀ b o, H b = some o → ¬ N b → H' b = some o) : RepL g N H' v d := RepL.ev k (fun _ _ z => z) _ _ r
theorem it_list {g : G0} {N : Addr → Prop} {K : PySem.W.Frag} {a : Addr} {vs : List V} {l : List D} (ha : H a = some (.lst vs)) (na : ¬ N a) (r : RepL g N H vs l) : ItOk g N (Itl K a) l H where
  go := fun N' H' i k hi => ⟨vs, vs[i]'(by rw [r.length]; exact hi), SqL.of (k.at ha na), by simp⟩
  stop := fun N' H' k => ⟨vs, SqL.of (k.at ha na), by rw [r.length]; exact Nat.le_refl _⟩
  yld := fun N' H' i x H'' k n y hi => by
    obtain ⟨rfl, y⟩ := y
    obtain ⟨v, hv, rv⟩ := r.get (j := i) (d := l[i]) (by simp)
    have e := y vs (SqL.of (k.at ha na))
    rw [hv] at e
    injection e with e
    subst e
    exact ⟨Ext.refl, l[i], by simp, k.rep rv⟩
theorem it_tup {g : G0} {N : Addr → Prop} {K : PySem.W.Frag} {a : Addr} {vs : List V} {l : List D} (ha : H a = some (.tup vs)) (na : ¬ N a) (r : RepL g N H vs l) : ItOk g N (Itt K a) l H where
  go := fun N' H' i k hi => ⟨vs, vs[i]'(by rw [r.length]; exact hi), SqT.of (k.at ha na), by simp⟩
  stop := fun N' H' k => ⟨vs, SqT.of (k.at ha na), by rw [r.length]; exact Nat.le_refl _⟩
  yld := fun N' H' i x H'' k n y hi => by
    obtain ⟨rfl, y⟩ := y
    obtain ⟨v, hv, rv⟩ := r.get (j := i) (d := l[i]) (by simp)
    have e := y vs (SqT.of (k.at ha na))
    rw [hv] at e
    injection e with e
    subst e
    exact ⟨Ext.refl, l[i], by simp, k.rep rv⟩
theorem fi_seq {tg e : Expr} {f : FTE} (hK : Γ.g.K = X.K) (h : FE X Γ W O .cl e f) : FI X Γ W O tg e (iSeq f) :=
  ⟨fun env st Q Q' X X' hq hx q => h.mono _ _ _ _ _ _ (fun x s z => mono_seq (fun l z => hq _ _ z) z) hx q, (pi_seq h.pe).imp fun σ H R ⟨env, st, Rr, T, q⟩ => ⟨env, st, Rr, T, h.mono _ _ _ _ _ _ (fun d s z v H1 e1 T1 r1 => by
    cases d <;> first | exact (z : False).elim | skip
    · cases r1 with
      | @lst a vs ds ha na rl => exact ⟨a, rfl, .inl ⟨⟨vs, SqL.of ha⟩, z _ H1 e1 T1 (it_list ha na rl)⟩⟩
    · cases r1 with
      | @tup a vs ds ha na rl => exact ⟨a, rfl, .inr ⟨⟨vs, SqT.of ha⟩, z _ H1 e1 T1 (it_tup ha na rl)⟩⟩) (fun _ _ _ z => z) q⟩⟩
theorem rangeD_get {lo : Int} {n i : Nat} (h : i < n) : (rangeD lo n)[i]? = some (.int (lo + i)) := by
  unfold rangeD
  rw [List.getElem?_map, List.getElem?_range h]
  rfl
theorem rangeD_len {lo : Int} {n : Nat} : (rangeD lo n).length = n := by simp [rangeD]
theorem it_range {g : G0} {N : Addr → Prop} {lo : Int} {n : Nat} : ItOk g N (Itr lo n) (rangeD lo n) H where
  go := fun N' H' i k hi => by rw [rangeD_len] at hi; exact hi
  stop := fun N' H' k => by rw [rangeD_len]; exact Nat.le_refl _
  yld := fun N' H' i x H'' k n y hi => by
    obtain ⟨rfl, rfl⟩ := y
    rw [rangeD_len] at hi
    exact ⟨Ext.refl, _, rangeD_get hi, .int _⟩
theorem fi_rng1 {tg a : Expr} {f : FTE} (hm : X.mg "range" = none) (ha : FE X Γ W O .cl a f) (hg : Gl X "range" := by rfl) (hs : starEach [a] X.env = [(false, eval a X.env)] := by rfl) (hs3 : starEach [a] X.env = (false, eval a X.env) :: starEach [] X.env := by rfl) : FI X Γ W O tg (.Call (.Name "range" p) [a] [] pos) (iRng1 f) :=
  ⟨fun env st Q Q' X X' hq hx q => ha.mono _ _ _ _ _ _ (fun x s z => by
    cases x <;> first | exact z.elim | exact ⟨z.1, hq _ _ z.2⟩) hx q, (pi_range1 hg hm (pa_cons ha.pe pa_nil hs3) hs).imp fun σ H R ⟨env, st, Rr, T, q⟩ => ⟨env, st, Rr, T, ha.mono _ _ _ _ _ _ (fun d s z v H1 e1 T1 r1 => by
    cases d <;> first | exact (z : False).elim | skip
    cases r1
    obtain ⟨⟨b1, b2⟩, z⟩ := z
    exact ⟨_, rfl, b1, b2, z _ H1 e1 T1 it_range⟩) (fun _ _ _ z => z) q⟩⟩
theorem fi_rng2 {tg a b : Expr} {f fb : FTE} (hm : X.mg "range" = none) (ha : FE X Γ W O .cl a f) (hb : FE X Γ W O .cl b fb) (hg : Gl X "range" := by rfl) (hs : starEach [a, b] X.env = [(false, eval a X.env), (false, eval b X.env)] := by rfl) (hs2 : starEach [b] X.env = [(false, eval b X.env)] := by rfl) (hs3 : starEach [b] X.env = (false, eval b X.env) :: starEach [] X.env := by rfl) :
    FI X Γ W O tg (.Call (.Name "range" p) [a, b] [] pos) (iRng2 f fb) :=
  ⟨fun env st Q Q' X X' hq hx q => ha.mono _ _ _ _ _ _ (fun x s z => hb.mono _ _ _ _ _ _ (fun y s z => by
    cases x <;> cases y <;> first | exact z.elim | exact ⟨z.1, hq _ _ z.2⟩) hx z) hx q, (pi_range2 hg hm (pa_cons ha.pe (pa_cons hb.pe pa_nil hs3) (by rw [hs, hs2])) hs hs2).imp fun σ H R ⟨env, st, Rr, T, q⟩ => ⟨env, st, Rr, T, ha.mono _ _ _ _ _ _ (fun d s z v H1 e1 T1 r1 =>
    ⟨env, s, Rr.ev e1, T1, hb.mono _ _ _ _ _ _ (fun d2 s2 z v2 H2 e2 T2 r2 => by
      cases d <;> cases d2 <;> first | exact (z : False).elim | skip
      cases r1
      cases r2
      obtain ⟨bd, z⟩ := z
      exact ⟨_, _, rfl, bd, z _ H2 (e1.trans e2) T2 it_range⟩) (fun t d s z => exK.ev e1 z) z⟩) (fun _ _ _ z => z) q⟩⟩
/-! ### [e for t in it if c] -/
def W0 : WX := fun _ _ _ _ => False
/-- the same place with more that data may not lean on -/
def G.wB (Γ : G) (B : Addr → Prop) (zb : ∀ a, Zone Γ.g a → B a) : G := { g := Γ.g, B := B, zb := zb, CT := Γ.CT, n := Γ.n }
theorem Ctx.blk {k : Nat} (c : Ctx X Γ W k) (B : Addr → Prop) (zb : ∀ a, Zone Γ.g a → B a) (s : Shared) (H : Hp) (scope : Scope) (cenv : PySem.Env) (fp : List Addr) : Ctx (X.blk s H scope cenv fp) (Γ.wB B zb) W0 k :=
  ⟨c.hK, c.hw, c.gd, takes0, c.room, c.nd, c.hn, c.ex0⟩
structure FTs (X : Cx) (Γ : G) (W : WX) (O : List Nat) (es : List Expr) (f : FTC) : Prop where
  mono : MonoC f
  pt : PTs X es (liftC Γ W O f)
theorem fts_nil : FTs X Γ W O [] cYes := ⟨fun _ _ _ _ _ _ h _ q => h _ _ q, ⟨fun pins s σ H Q I ⟨env, st, R, T, q⟩ => pts_nil.run pins s σ H Q I (q H Ev.refl T)⟩⟩
theorem fts_one {c : Expr} {f : FTC} (h : FC X Γ W O c f) : FTs X Γ W O [c] f := ⟨h.mono, pts_one h.pt⟩
theorem mono_compL {g : FTG} {c : FTC} {e : FTE} (hg : MonoG g) (hc : MonoC c) (he : MonoE e) : ∀ (l acc : List D) (env : Env) (st : S) (Q Q' : List D → S → Prop), (∀ d s, Q d s → Q' d s) → compL g c e l acc env st Q → compL g c e l acc env st Q'
  | [], acc, env, st, Q, Q', h, q => h _ _ q
  | x :: xs, acc, env, st, Q, Q', h, q => hg _ _ _ _ (fun env2 z => hc _ _ _ _ _ _ (fun b s1 z => by
    cases b with
    | true => exact he _ _ _ _ _ _ (fun y s2 z => ⟨z.1, mono_compL hg hc he xs _ env s2 Q Q' h z.2⟩) (fun _ _ _ z => z) z
    | false => exact mono_compL hg hc he xs acc env s1 Q Q' h z) (fun _ _ _ z => z) z) q
theorem mono_LC {it : FTI} {g : FTG} {c : FTC} {e : FTE} {vs : List Nat} (hi : MonoI it) (hg : MonoG g) (hc : MonoC c) (he : MonoE e) : MonoE (fLC it g c e vs) := fun env st Q Q' X X' h hx q =>
  hi _ _ _ _ _ _ (fun l s1 z => mono_compL hg hc he _ _ _ _ _ _ (fun d s z => h _ _ z) z) hx q
theorem EnvR.toB {Ld : Addr} {o : HO} (R : EnvR Γ O H σ env) (hL : H Ld = none) (zb : ∀ a, Zone Γ.g a → Γ.B a ∨ a = Ld) : EnvR (Γ.wB (fun a => Γ.B a ∨ a = Ld) zb) O (upd H Ld o) σ env := by
  have s : ∀ b, H b ≠ none → NN (Γ.wB (fun a => Γ.B a ∨ a = Ld) zb) O σ b → NN Γ O σ b := fun b hb z => by
    rcases z with (z | z) | z
    · exact .inl z
    · exact absurd (by rw [z]; exact hL) hb
    · exact .inr z
  have k : ∀ b u, H b = some u → ¬ NN Γ O σ b → upd H Ld o b = some u := fun b u h _ => (Ext.new hL).at h
  refine ⟨R.len, R.cnt, fun i d h n => ?_, fun i hi => ?_, R.dis⟩
  · obtain ⟨v, e, r⟩ := R.val i d h n
    exact ⟨v, e, Rep.ev k s _ _ r⟩
  · obtain ⟨b, d, e1, e2, nb, ow⟩ := R.own i hi
    obtain ⟨u, hu⟩ := ow.there
    refine ⟨b, d, e1, e2, fun z => ?_, ow.ev (fun u h => (Ext.new hL).at h) k s⟩
    rcases z with z | z
    · exact nb z
    · rw [z, hL] at hu; cases hu
theorem EnvR.setB {Ld : Addr} {o : HO} (R : EnvR Γ O H σ env) (hL : Γ.B Ld) : EnvR Γ O (upd H Ld o) σ env := by
  have k : ∀ b u, H b = some u → ¬ NN Γ O σ b → upd H Ld o b = some u := fun b u h n => by rw [upd_ne (fun (e : b = Ld) => n (.inl (by rw [e]; exact hL)))]; exact h
  exact ⟨R.len, R.cnt, fun i d h n => by
    obtain ⟨v, e, r⟩ := R.val i d h n
    exact ⟨v, e, Rep.ev k (fun _ _ z => z) _ _ r⟩, fun i hi => by
    obtain ⟨b, d, e1, e2, nb, ow⟩ := R.own i hi
    exact ⟨b, d, e1, e2, nb, ow.ev (fun u h => by rw [upd_ne (fun (e : b = Ld) => nb (by rw [e]; exact hL))]; exact h) k fun _ _ z => z⟩, R.dis⟩
theorem PE.ex {ι : Sort _} {X : Cx} {e : Expr} {t : ι → TE} (h : ∀ i, PE X e (t i)) : PE X e (fun σ H Q => ∃ i, t i σ H Q) := ⟨fun pins s σ H Q I ⟨i, q⟩ => (h i).run pins s σ H Q I q⟩
theorem PTs.ex {ι : Sort _} {X : Cx} {e : List Expr} {t : ι → TT} (h : ∀ i, PTs X e (t i)) : PTs X e (fun σ H Q => ∃ i, t i σ H Q) := ⟨fun pins s σ H Q I ⟨i, q⟩ => (h i).run pins s σ H Q I q⟩
theorem PG.ex {ι : Sort _} {X : Cx} {e : Expr} {t : ι → TG} (h : ∀ i, PG X e (t i)) : PG X e (fun v σ H Q => ∃ i, t i v σ H Q) := ⟨fun pins s σ H v u Q I r ⟨i, q⟩ => (h i).run pins s σ H v u Q I r q⟩
/-- what more data may not lean on, as one thing -/
def Bs (Γ : G) : Type := { B : Addr → Prop // ∀ a, Zone Γ.g a → B a }
def G.w2 (Γ : G) (b : Bs Γ) : G := Γ.wB b.1 b.2
def tG (Γ : G) (O ts : List Nat) (fg : FTG) : TG := fun v σ H Q => ∃ b : Bs Γ, liftG (Γ.w2 b) O ts fg v σ H Q
def tC' (Γ : G) (O : List Nat) (fc : FTC) : TT := fun σ H Q => ∃ b : Bs Γ, liftC (Γ.w2 b) W0 O fc σ H Q
def tE' (Γ : G) (O : List Nat) (fe : FTE) : TE := fun σ H Q => ∃ b : Bs Γ, liftE (Γ.w2 b) W0 .cl O fe σ H Q
theorem wipe_in {i : Nat} : ∀ {vs : List Nat}, i ∈ vs → (wipe σ vs)[i]? = if i < σ.length then some none else none
  | v :: vs, h => by
    show ((wipe σ vs).set v none)[i]? = _
    by_cases hv : v = i
    · subst hv
      rw [List.getElem?_set]
      simp only [if_true, wipe_length]
    · rw [List.getElem?_set_ne hv]
      rcases List.mem_cons.mp h with e | e
      · exact absurd e.symm hv
      · exact wipe_in e
theorem wipe_wipe (vs : List Nat) : wipe (wipe σ vs) vs = wipe σ vs := by
  apply List.ext_getElem?
  intro i
  by_cases h : i ∈ vs
  · rw [wipe_in h, wipe_in h, wipe_length]
  · rw [wipe_out h]
theorem lc_read {fit : FTI} {fg : FTG} {fc : FTC} {fe : FTE} {ts vs : List Nat} {Q : VK} (mi : MonoI fit) (mg : MonoG fg) (mc : MonoC fc) (me : MonoE fe) (hts : ∀ i, i ∈ ts → i ∈ vs) (hO : ∀ i, i ∈ vs → i ∉ O)
    (h : liftE Γ W .fr O (fLC fit fg fc fe vs) σ H Q) : tLc (liftI Γ W O fit) (tG Γ O ts fg) (tC' Γ O fc) (tE' Γ O fe) vs σ H Q := by
  obtain ⟨env, st, R, T, h⟩ := h
  refine ⟨env, st, R, T, mi _ _ _ _ _ _ (fun l s1 z J H1 e1 T1 hJ Ld hL => ?_) (fun _ _ _ z => z) h⟩
  have R1 := R.ev e1
  obtain ⟨Rw, Aw⟩ := R1.wipe hO
  have zb : ∀ a, Zone Γ.g a → Γ.B a ∨ a = Ld := fun a za => .inl (Γ.zb a za)
  have nzD : ¬ Zone Γ.g Ld := fun z => T1.b Ld (Γ.zb Ld z) hL
  let bs : Bs Γ := ⟨fun a => Γ.B a ∨ a = Ld, zb⟩
  have hBD : (Γ.w2 bs).B Ld := .inr rfl
  have subN : ∀ b, NN Γ O σ b → NN (Γ.w2 bs) O (wipe σ vs) b := fun b z => by
    rcases z with z | z
    · exact .inl (.inl z)
    · exact .inr (Aw.own.mpr z)
  have stB : ∀ {H' : Hp} {s : S}, ST Γ H' s → H' Ld ≠ none → ST (Γ.w2 bs) H' s := fun T' h' => by
    refine ⟨T'.z, fun a za => ?_, T'.sz⟩
    rcases za with za | za
    · exact T'.b a za
    · rw [za]; exact h'
  have ofB : ∀ {H' : Hp} {s : S}, ST (Γ.w2 bs) H' s → ST Γ H' s := fun T' => ⟨T'.z, fun a za => T'.b a (.inl za), T'.sz⟩
  have x2 : Ext H1 (upd H1 Ld (.lst [])) := Ext.new hL
  -- the zone or Ld may change
  have evD : ∀ {Ha Hb : Hp}, Ev (Zone Γ.g) Ha Hb → Ev (fun a => Zone Γ.g a ∨ a = Ld) Ha Hb := fun e => e.mono fun _ z => .inl z
  have keep1 : ∀ {H' : Hp}, Ev (fun a => Zone Γ.g a ∨ a = Ld) (upd H1 Ld (.lst [])) H' → Keep (NN Γ O σ) (NN (Γ.w2 bs) O (wipe σ vs)) H1 H' := fun {H'} e => by
    refine ⟨fun b hb z => ?_, fun b o hb n => e.k b o (x2.at hb) fun z => ?_⟩
    · rcases z with (z | z) | z
      · exact .inl z
      · exact absurd (by rw [z]; exact hL) hb
      · exact .inr (Aw.own.mp z)
    · rcases z with z | z
      · exact n (.inl (Γ.zb b z))
      · rw [z, hL] at hb; cases hb
  let Inv' : Nat → Hp → Prop := fun i H' => ∃ (s' : S) (acc : List D) (av : List V), Ev (fun a => Zone Γ.g a ∨ a = Ld) (upd H1 Ld (.lst [])) H' ∧ EnvR (Γ.w2 bs) O H' (wipe σ vs) (wipes env vs) ∧ ST (Γ.w2 bs) H' s' ∧ H' Ld = some (.lst av) ∧
    RepL Γ.g (NN (Γ.w2 bs) O (wipe σ vs)) H' av acc ∧ compL fg fc fe (l.drop i) acc (wipes env vs) s' (fun r s2 => ∀ v H', Ev (Zone Γ.g) H H' → ST Γ H' s2 → Res Γ (NN Γ O σ) .fr H H' v (.lst r) → Q v H')
  refine ⟨fun i m H' => m = l.length - i ∧ i ≤ l.length ∧ Inv' i H', ⟨l.length, by simp, Nat.zero_le _, s1, [], [], Ev.refl, Rw.toB hL zb, stB (T1.ext x2) (by rw [upd_same]; intro z; cases z), upd_same, .nil, by rw [List.drop_zero]; exact z⟩, ?_⟩
  rintro i m H' ⟨rfl, hi, s', acc, av, eD, R', T', hL', rl, q⟩
  by_cases hlt : i < l.length
  · refine .inr ⟨hJ.go _ H' i (keep1 eD) hlt, Inv' (i + 1), fun H4 p => ⟨l.length - (i + 1), by omega, rfl, hlt, p⟩, fun x H3 y => ?_⟩
    obtain ⟨x3, d, hd, rd⟩ := hJ.yld _ H' i x H3 (keep1 eD) (R'.nok T') y hlt
    have eL : l.drop i = d :: l.drop (i + 1) := by
      rw [List.drop_eq_getElem_cons hlt]
      congr 1
      rw [List.getElem?_eq_getElem hlt] at hd
      injection hd
    rw [eL] at q
    have R3 := R'.ev x3.ev
    have T3 := T'.ext x3
    refine ⟨bs, wipes env vs, d, R3, rd, mg _ _ _ _ (fun env2 z σ2 R2 a2 w2 => ⟨(w2 vs hts).trans (wipe_wipe vs), bs, env2, s', R2, T3, mc _ _ _ _ _ _ (fun b s1 z H4 e4 T4 => ?_) (fun _ _ _ z => z.elim) z⟩) q⟩
    cases b with
    | true =>
      refine ⟨bs, env2, s1, R2.ev e4, T4, me _ _ _ _ _ _ (fun yd s2 z v H5 e5 T5 r5 => ?_) (fun _ _ _ z => z.elim) z⟩
      obtain ⟨hl, z⟩ := z
      have h5 : H5 Ld = some (.lst av) := e5.k Ld _ (e4.k Ld _ (x3.at hL') nzD) nzD
      have R5 : EnvR (Γ.w2 bs) O H5 (wipe σ vs) (wipes env vs) := (R3.ev e4).ev e5
      have toU : ∀ b u, H5 b = some u → ¬ NN (Γ.w2 bs) O (wipe σ vs) b → upd H5 Ld (.lst (av ++ [v])) b = some u := fun b u hb n => by rw [upd_ne (fun e => n (.inl (.inr e)))]; exact hb
      have r5' : Rep Γ.g (NN (Γ.w2 bs) O (wipe σ vs)) H5 v yd := Rep.nn r5 fun b z => a2.nn.mpr z
      have rl5 : RepL Γ.g (NN (Γ.w2 bs) O (wipe σ vs)) H5 av acc := ((rl.ext x3).zone (Γ := Γ.w2 bs) e4).zone (Γ := Γ.w2 bs) e5
      refine ⟨av, h5, by rw [rl.length, ← cap_line]; exact hl, s2, acc ++ [yd], av ++ [v], ?_, R5.setB hBD, ?_, upd_same, (RepL.ev toU (fun _ _ z => z) _ _ (rl5.append (.cons r5' .nil))), z⟩
      · have e0 := eD.trans ((x3.ev (N := fun a => Zone Γ.g a ∨ a = Ld)).trans ((evD e4).trans (evD e5)))
        refine ⟨fun b o hb n => ?_, fun b hb => ?_⟩
        · rw [upd_ne (fun e => n (.inr e))]
          exact e0.k b o hb n
        · by_cases hbD : b = Ld
          · rw [hbD, upd_same] at hb; cases hb
          · rw [upd_ne hbD] at hb; exact e0.t b hb
      · refine ⟨fun p hp => ?_, fun a za => ?_, T5.sz⟩
        · obtain ⟨z0, z1, z2⟩ := T5.z p hp
          exact ⟨z0, by rw [upd_ne (fun e => nzD ⟨p, hp, .inl e.symm⟩)]; exact z1, by rw [upd_ne (fun e => nzD ⟨p, hp, .inr e.symm⟩)]; exact z2⟩
        · by_cases haD : a = Ld
          · rw [haD, upd_same]; intro z; cases z
          · rw [upd_ne haD]; exact T5.b a za
    | false =>
      exact ⟨s1, acc, av, eD.trans ((x3.ev (N := fun a => Zone Γ.g a ∨ a = Ld)).trans (evD e4)), R3.ev e4, T4, e4.k Ld _ (x3.at hL') nzD, (rl.ext x3).zone (Γ := Γ.w2 bs) e4, z⟩
  · have ei : i = l.length := by omega
    subst ei
    rw [List.drop_length] at q
    refine .inl ⟨hJ.stop _ H' (keep1 eD), q (.ref Ld) H' ?_ (ofB T') ⟨Ld, rfl, e1.t _ hL, av, hL', rl.nn fun b z => z.elim (subN b) fun e => .inl (.inr e)⟩⟩
    refine ⟨fun b o hb n => ?_, fun b hb => e1.t b (x2.t b (eD.t b hb))⟩
    have h1 := e1.k b o hb n
    refine eD.k b o (x2.at h1) fun z => ?_
    rcases z with z | z
    · exact n z
    · rw [z, hL] at h1; cases h1
theorem fe_lc {elt tg iter : Expr} {ifs : List Expr} {scope : Scope} (own : List (Str × Nat)) {fit : FTI} {fg : FTG} {fc : FTC} {fe : FTE} {ts : List Nat} (nd : X.N.Nodup) (hi : FI X Γ W O tg iter fit) (ok : BlkOk X.N X.env.scope scope own)
    (hg : ∀ (b : Bs Γ) (s : Shared) (H : Hp) (C : Addr) (cl : List (Str × Addr)) (fp : List Addr), FG (X.blk s H scope (compEnvC scope cl C X.env) fp) (Γ.w2 b) O ts tg fg)
    (ht : ∀ (b : Bs Γ) (s : Shared) (H : Hp) (C : Addr) (cl : List (Str × Addr)) (fp : List Addr), FTs (X.blk s H scope (compEnvC scope cl C X.env) fp) (Γ.w2 b) W0 O ifs fc)
    (he : ∀ (b : Bs Γ) (s : Shared) (H : Hp) (C : Addr) (cl : List (Str × Addr)) (fp : List Addr), FE (X.blk s H scope (compEnvC scope cl C X.env) fp) (Γ.w2 b) W0 O .cl elt fe)
    (hts : ∀ i, i ∈ ts → i ∈ own.map (·.2) := by decide) (hO : ∀ i, i ∈ own.map (·.2) → i ∉ O := by decide) (hc : X.calm = true := by rfl) (hs : ∀ x, foldedSetIterable iter X.env x = pure x := by intro _; rfl) :
    FE X Γ W O .fr (.ListComp elt [⟨tg, iter, ifs, 0⟩] scope pos) (fLC fit fg fc fe (own.map (·.2))) := by
  have b0 : Bs Γ := ⟨Γ.B, Γ.zb⟩
  have m1 := (hg b0 X.s_0 X.H_0 0 [] []).mono
  have m2 := (ht b0 X.s_0 X.H_0 0 [] []).mono
  have m3 := (he b0 X.s_0 X.H_0 0 [] []).mono
  exact ⟨mono_LC hi.mono m1 m2 m3, (pe_lc hc nd hi.pi ok (fun s H C cl fp => PG.ex fun b => (hg b s H C cl fp).pg) (fun s H C cl fp => PTs.ex fun b => (ht b s H C cl fp).pt) (fun s H C cl fp => PE.ex fun b => (he b s H C cl fp).pe) hs).imp fun _ _ _ h => lc_read hi.mono m1 m2 m3 hts hO h⟩
end
end Fy
set_option Elab.async false
set_option linter.all false
set_option maxRecDepth 100000
set_option maxHeartbeats 4000000
/-! FyG: statements. -/
namespace Fy
open PySem L2

section
variable {Γ : G} {W : WX} {O O' O1 O2 Ob : List Nat} {H H' H1 H2 : Hp} {σ σ' σ1 σ2 : L2.St} {env : Env} {st : S}
/-- what may change: the draws' source, what slots own -/
def MV (Γ : G) (O : List Nat) (σ : L2.St) (a : Addr) : Prop := Zone Γ.g a ∨ OwnA O σ a
structure Step (Γ : G) (O : List Nat) (σ : L2.St) (H : Hp) (O' : List Nat) (σ' : L2.St) (H' : Hp) : Prop where
  k : ∀ b o, H b = some o → ¬ MV Γ O σ b → H' b = some o
  t : ∀ b, H' b = none → H b = none
  o : ∀ b, OwnA O' σ' b → OwnA O σ b ∨ H b = none
theorem Step.refl : Step Γ O σ H O σ H := ⟨fun _ _ h _ => h, fun _ h => h, fun _ h => .inl h⟩
theorem Step.trans (a : Step Γ O σ H O1 σ1 H1) (b : Step Γ O1 σ1 H1 O2 σ2 H2) : Step Γ O σ H O2 σ2 H2 where
  k := fun c o h n => b.k c o (a.k c o h n) fun z => by
    rcases z with z | z
    · exact n (.inl z)
    · rcases a.o c z with z | z
      · exact n (.inr z)
      · rw [z] at h; cases h
  t := fun c h => a.t c (b.t c h)
  o := fun c h => by
    rcases b.o c h with z | z
    · exact a.o c z
    · exact .inr (a.t c z)
theorem OwnA.sub (s : ∀ i, i ∈ O' → i ∈ O) {a : Addr} (z : OwnA O' σ a) : OwnA O σ a := by
  obtain ⟨i, hi, e⟩ := z
  exact ⟨i, s i hi, e⟩
theorem Step.drop (s : ∀ i, i ∈ O' → i ∈ O) : Step Γ O σ H O' σ H := ⟨fun _ _ h _ => h, fun _ h => h, fun _ h => .inl (h.sub s)⟩
theorem Step.sub (a : Step Γ O σ H O1 σ1 H1) (s : ∀ i, i ∈ O2 → i ∈ O1) : Step Γ O σ H O2 σ1 H1 := a.trans (.drop s)
theorem Step.ev (e : Ev (Zone Γ.g) H H') : Step Γ O σ H O σ H' := ⟨fun b o h n => e.k b o h fun z => n (.inl z), e.t, fun _ h => .inl h⟩
theorem Step.agr (a : Agr O σ σ') : Step Γ O σ H O σ' H := ⟨fun _ _ h _ => h, fun _ h => h, fun _ h => .inl (a.own.mp h)⟩
theorem Step.keep (a : Step Γ O σ H O' σ' H') : Keep (NN Γ O σ) (NN Γ O' σ') H H' where
  s := fun b hb z => by
    rcases z with z | z
    · exact .inl z
    · rcases a.o b z with z | z
      · exact .inr z
      · exact absurd z hb
  k := fun b o h n => a.k b o h fun z => n (by
    rcases z with z | z
    · exact .inl (Γ.zb b z)
    · exact .inr z)
theorem Step.evm (a : Step Γ O σ H O' σ' H') (e : Ev (MV Γ O' σ') H' H2) : Ev (MV Γ O σ) H H2 where
  k := fun c o h n => e.k c o (a.k c o h n) fun z => by
    rcases z with z | z
    · exact n (.inl z)
    · rcases a.o c z with z | z
      · exact n (.inr z)
      · rw [z] at h; cases h
  t := fun c h => a.t c (e.t c h)
/-- the wished ends of data answer those of the heap -/
structure Lk (Γ : G) (W : WX) (O : List Nat) (σ : L2.St) (H : Hp) (O' Ob : List Nat) (E : Ends) (Dn : L2.Ends) : Prop where
  nx : ∀ env' st' σ' H', Step Γ O σ H O' σ' H' → EnvR Γ O' H' σ' env' → ST Γ H' st' → E.nx env' st' → Dn.nx σ' H'
  rt : ∀ d st' v H', Ev (MV Γ O σ) H H' → ST Γ H' st' → Rep Γ.g Γ.B H' v d → E.rt d st' → Dn.rt v H'
  bk : ∀ env' st' σ' H', Step Γ O σ H Ob σ' H' → EnvR Γ Ob H' σ' env' → ST Γ H' st' → E.bk env' st' → Dn.bk σ' H'
  ct : ∀ env' st' σ' H', Step Γ O σ H Ob σ' H' → EnvR Γ Ob H' σ' env' → ST Γ H' st' → E.ct env' st' → Dn.ct σ' H'
  ex : ∀ env' tag d st' σ' H' C dx v, Step Γ O σ H [] σ' H' → EnvR Γ [] H' σ' env' → ST Γ H' st' → Γ.CT tag = some C → H' dx = some (.xd [(("at" : Str), v)]) → ¬ NN Γ [] σ' dx → Rep Γ.g (NN Γ [] σ') H' v d →
    E.ex env' tag d st' → W (.ref C) (some dx) σ' H'
theorem Lk.step {E : Ends} {Dn : L2.Ends} (L : Lk Γ W O σ H O' Ob E Dn) (s : Step Γ O σ H O1 σ1 H1) : Lk Γ W O1 σ1 H1 O' Ob E Dn where
  nx := fun _ _ _ _ a => L.nx _ _ _ _ (s.trans a)
  rt := fun _ _ _ _ a => L.rt _ _ _ _ (s.evm a)
  bk := fun _ _ _ _ a => L.bk _ _ _ _ (s.trans a)
  ct := fun _ _ _ _ a => L.ct _ _ _ _ (s.trans a)
  ex := fun _ _ _ _ _ _ _ _ _ a => L.ex _ _ _ _ _ _ _ _ _ (s.trans a)
theorem nil_sub (i : Nat) (h : i ∈ ([] : List Nat)) : i ∈ O := nomatch h
theorem Lk.toX {E : Ends} {Dn : L2.Ends} (L : Lk Γ W O σ H O' Ob E Dn) (R : EnvR Γ O H σ env) (tag : Nat) (d : D) (s : S) (h : E.ex env tag d s) : exK Γ W O σ H tag d s := fun C dx v H' hc e T hx nb r =>
  L.ex env tag d s σ H' C dx v ((Step.ev e).sub nil_sub) ((R.ev e).drop nil_sub) T hc hx (fun z => nb (z.sub nil_sub)) (r.nn fun b z => z.sub nil_sub) h
def liftS (Γ : G) (W : WX) (Ob O O' : List Nat) (f : FTS) : TS := fun Dn σ H => ∃ env st E, EnvR Γ O H σ env ∧ ST Γ H st ∧ Lk Γ W O σ H O' Ob E Dn ∧ f E env st
structure LeE (E E' : Ends) : Prop where
  nx : ∀ e s, E.nx e s → E'.nx e s
  rt : ∀ d s, E.rt d s → E'.rt d s
  bk : ∀ e s, E.bk e s → E'.bk e s
  ct : ∀ e s, E.ct e s → E'.ct e s
  ex : ∀ e t d s, E.ex e t d s → E'.ex e t d s
def MonoS (f : FTS) : Prop := ∀ E E' env st, LeE E E' → f E env st → f E' env st
structure FSt (X : Cx) (Γ : G) (W : WX) (Ob O O' : List Nat) (s : Stmt) (f : FTS) : Prop where
  mono : MonoS f
  ps : PS X s (liftS Γ W Ob O O' f)
structure FB (X : Cx) (Γ : G) (W : WX) (Ob O O' : List Nat) (s : List Stmt) (f : FTS) : Prop where
  mono : MonoS f
  ps : PSs X s (liftS Γ W Ob O O' f)
theorem _root_.L2.PS.imp {X : Cx} {e : Stmt} {t t' : TS} (h : PS X e t) (k : ∀ D σ H, t' D σ H → t D σ H) : PS X e t' := ⟨fun pins s σ H D I hw => h.run pins s σ H D I (k D σ H hw)⟩
theorem _root_.L2.PSs.imp {X : Cx} {e : List Stmt} {t t' : TS} (h : PSs X e t) (k : ∀ D σ H, t' D σ H → t D σ H) : PSs X e t' := ⟨fun pins s σ H D I hw => h.run pins s σ H D I (k D σ H hw)⟩
theorem LeE.nxs {E : Ends} {p q : Env → S → Prop} (h : ∀ e s, p e s → q e s) : LeE { E with nx := p } { E with nx := q } := ⟨h, fun _ _ z => z, fun _ _ z => z, fun _ _ z => z, fun _ _ _ _ z => z⟩
theorem LeE.setNx {E E' : Ends} {p q : Env → S → Prop} (l : LeE E E') (h : ∀ e s, p e s → q e s) : LeE { E with nx := p } { E' with nx := q } := ⟨h, l.rt, l.bk, l.ct, l.ex⟩
theorem LeE.setLoop {E E' : Ends} {p q : Env → S → Prop} (l : LeE E E') (h : ∀ e s, p e s → q e s) : LeE { E with nx := p, ct := p, bk := E.nx } { E' with nx := q, ct := q, bk := E'.nx } := ⟨h, l.rt, l.nx, h, l.ex⟩
variable {X : Cx} {e a b : Expr} {f g : FTS} {fe fa fb : FTE} {pos p : Pos} {s : Stmt} {rest : List Stmt}
/-! ### rows of statements -/
theorem fb_nil : FB X Γ W Ob O O [] sNx := ⟨fun _ _ _ _ l q => l.nx _ _ q, pss_nil.imp fun Dn σ H ⟨env, st, E, R, T, L, q⟩ => L.nx _ _ _ _ .refl R T q⟩
theorem fb_cons (h1 : FSt X Γ W Ob O O1 s f) (h2 : FB X Γ W Ob O1 O2 rest g) : FB X Γ W Ob O O2 (s :: rest) (sSeq f g) :=
  ⟨fun E E' env st l q => h1.mono _ _ _ _ (l.setNx fun e s z => h2.mono _ _ _ _ l z) q, (pss_cons h1.ps h2.ps).imp fun Dn σ H ⟨env, st, E, R, T, L, q⟩ =>
    ⟨env, st, { E with nx := g E }, R, T, ⟨fun env' st' σ' H' a R' T' z => ⟨env', st', E, R', T', L.step a, z⟩, L.rt, L.bk, L.ct, L.ex⟩, q⟩⟩
theorem fb_one (h1 : FSt X Γ W Ob O O' s f) : FB X Γ W Ob O O' [s] f := ⟨h1.mono, pss_one h1.ps⟩
/-- what a slot owned is given up: ahead, behind -/
theorem lift_pre (hs : ∀ i, i ∈ O1 → i ∈ O) {Dn : L2.Ends} (h : liftS Γ W Ob O O' f Dn σ H) : liftS Γ W Ob O1 O' f Dn σ H := by
  obtain ⟨env, st, E, R, T, L, q⟩ := h
  exact ⟨env, st, E, R.drop hs, T, L.step (.drop hs), q⟩
theorem lift_post (hs : ∀ i, i ∈ O2 → i ∈ O') {Dn : L2.Ends} (h : liftS Γ W Ob O O2 f Dn σ H) : liftS Γ W Ob O O' f Dn σ H := by
  obtain ⟨env, st, E, R, T, L, q⟩ := h
  exact ⟨env, st, E, R, T, ⟨fun _ _ _ _ a R' => L.nx _ _ _ _ (a.sub hs) (R'.drop hs), L.rt, L.bk, L.ct, L.ex⟩, q⟩
theorem FSt.pre (h : FSt X Γ W Ob O1 O' s f) (hs : ∀ i, i ∈ O1 → i ∈ O := by decide) : FSt X Γ W Ob O O' s f := ⟨h.mono, h.ps.imp fun _ _ _ z => lift_pre hs z⟩
theorem FSt.post (h : FSt X Γ W Ob O O' s f) (hs : ∀ i, i ∈ O2 → i ∈ O' := by decide) : FSt X Γ W Ob O O2 s f := ⟨h.mono, h.ps.imp fun _ _ _ z => lift_post hs z⟩
theorem FB.pre (h : FB X Γ W Ob O1 O' rest f) (hs : ∀ i, i ∈ O1 → i ∈ O := by decide) : FB X Γ W Ob O O' rest f := ⟨h.mono, h.ps.imp fun _ _ _ z => lift_pre hs z⟩
theorem FB.post (h : FB X Γ W Ob O O' rest f) (hs : ∀ i, i ∈ O2 → i ∈ O' := by decide) : FB X Γ W Ob O O2 rest f := ⟨h.mono, h.ps.imp fun _ _ _ z => lift_post hs z⟩
/-! ### simple ones -/
theorem mono_Nx : MonoS sNx := fun _ _ _ _ l q => l.nx _ _ q
theorem fs_pass : FSt X Γ W Ob O O (.Pass pos) sNx := ⟨mono_Nx, ps_pass.imp fun Dn σ H ⟨env, st, E, R, T, L, q⟩ => L.nx _ _ _ _ .refl R T q⟩
theorem fs_doc {x j} : FSt X Γ W Ob O O (.Expr (.Constant (.str x) j p) pos) sNx := ⟨mono_Nx, ps_doc.imp fun Dn σ H ⟨env, st, E, R, T, L, q⟩ => L.nx _ _ _ _ .refl R T q⟩
theorem fs_brk (hs : ∀ i, i ∈ Ob → i ∈ O := by decide) : FSt X Γ W Ob O O' (.Break pos) sBrk := ⟨fun _ _ _ _ l q => l.bk _ _ q, ps_break.imp fun Dn σ H ⟨env, st, E, R, T, L, q⟩ => L.bk _ _ _ _ (.drop hs) (R.drop hs) T q⟩
theorem fs_cnt (hs : ∀ i, i ∈ Ob → i ∈ O := by decide) : FSt X Γ W Ob O O' (.Continue pos) sCnt := ⟨fun _ _ _ _ l q => l.ct _ _ q, ps_continue.imp fun Dn σ H ⟨env, st, E, R, T, L, q⟩ => L.ct _ _ _ _ (.drop hs) (R.drop hs) T q⟩
theorem mono_Ret (h : MonoE fe) : MonoS (sRet fe) := fun _ _ _ _ l q => h _ _ _ _ _ _ l.rt (l.ex _) q
theorem Ev.zmv (h : Ev (Zone Γ.g) H H') : Ev (MV Γ O σ) H H' := h.mono fun _ z => .inl z
/-- what is owned is given up: the answer may be made of it -/
theorem fs_ret (h : FE X Γ W [] .cl e fe) : FSt X Γ W Ob O O' (.Return (some e) pos) (sRet fe) := ⟨mono_Ret h.mono, (ps_ret h.pe).imp fun Dn σ H ⟨env, st, E, R, T, L, q⟩ => by
  have L0 := L.step (.drop nil_sub)
  have R0 := R.drop (O' := []) nil_sub
  refine ⟨env, st, R0, T, h.mono _ _ _ _ _ _ (fun d s z v H' e1 e2 r => L0.rt d s v H' e1.zmv e2 (r.nn fun b z => .inl z) z) (fun t d s z => L0.toX R0 t d s z) q⟩⟩
theorem fs_retN : FSt X Γ W Ob O O' (.Return none pos) sRetN := ⟨fun _ _ _ _ l q => l.rt _ _ q, ps_retN.imp fun Dn σ H ⟨env, st, E, R, T, L, q⟩ => L.rt _ _ _ _ Ev.refl T .non q⟩
theorem fs_exp {m : Md} (h : FE X Γ W O m e fe) (hs : swapsWith e none pos.line X.env = pure false := by rfl) : FSt X Γ W Ob O O (.Expr e pos) (sExp fe) :=
  ⟨fun _ _ _ _ l q => h.mono _ _ _ _ _ _ (fun _ _ z => l.nx _ _ z) (l.ex _) q, (ps_expr h.pe hs).imp fun Dn σ H ⟨env, st, E, R, T, L, q⟩ =>
    ⟨env, st, R, T, h.mono _ _ _ _ _ _ (fun d s z v H' e1 e2 r => L.nx _ _ _ _ (.ev e1) (R.ev e1) e2 z) (fun t d s z => L.toX R t d s z) q⟩⟩
theorem fs_if {c : Expr} {p q : List Stmt} {fc : FTC} (hc : FC X Γ W O c fc) (h1 : FB X Γ W Ob O O' p f) (h2 : FB X Γ W Ob O O' q g) : FSt X Γ W Ob O O' (.If c p q pos) (sIf fc f g) :=
  ⟨fun E E' env st l z => hc.mono _ _ _ _ _ _ (fun k s z => by
    cases k with
    | true => exact h1.mono _ _ _ _ l z
    | false => exact h2.mono _ _ _ _ l z) (l.ex _) z, (ps_if hc.pt h1.ps h2.ps).imp fun Dn σ H ⟨env, st, E, R, T, L, z⟩ =>
    ⟨env, st, R, T, hc.mono _ _ _ _ _ _ (fun k s z H' e1 e2 => by
      cases k with
      | true => exact ⟨env, s, E, R.ev e1, e2, L.step (.ev e1), z⟩
      | false => exact ⟨env, s, E, R.ev e1, e2, L.step (.ev e1), z⟩) (fun t d s z => L.toX R t d s z) z⟩⟩
/-! ### stores -/
theorem mono_Asg {fg : FTG} (h : MonoE fe) (hg : MonoG fg) : MonoS (sAsg fe fg) := fun _ _ _ _ l q => h _ _ _ _ _ _ (fun d s z => hg _ _ _ _ (fun e z => l.nx _ _ z) z) (l.ex _) q
theorem fs_set (i : Nat) {x : Str} (h : FE X Γ W O .cl e fe) (nd : X.N.Nodup) (ho : i ∉ O := by decide) (hi : X.N[i]? = some x := by rfl) (hx : Loc X.env.scope x := by first | exact Or.inl rfl | exact Or.inr rfl) (hs : swapsWith e (some (.Name x p)) pos.line X.env = pure false := by rfl)
    (hf : X.fn x = true ∨ X.env.scope.names.lookup x = some .local := by first | exact .inl rfl | exact .inr rfl) : FSt X Γ W Ob O O (.Assign [.Name x p] e pos) (sAsg fe (gNm i)) :=
  ⟨mono_Asg h.mono fun d env Q Q' h q => h _ q, (ps_set nd hi hx h.pe hs hf).imp fun Dn σ H ⟨env, st, E, R, T, L, q⟩ =>
    ⟨env, st, R, T, h.mono _ _ _ _ _ _ (fun d s z v H' e1 e2 r => L.nx _ _ _ _ ((Step.ev e1).trans (.agr (agr_set ho))) ((R.ev e1).put ho r) e2 z) (fun t d s z => L.toX R t d s z) q⟩⟩
theorem fs_asg {tg : Expr} {ts : List Nat} {fg : FTG} (h : FE X Γ W O .cl e fe) (hg : FG X Γ O ts tg fg) (hs : swapsWithSole [tg] e pos.line X.env = pure false := by rfl) (hw : swappedStores [tg] e X.env = pure none := by rfl)
    (h1 : (assignEach [tg] X.env).map (·.2) = [assign tg X.env] := by rfl) : FSt X Γ W Ob O O (.Assign [tg] e pos) (sAsg fe fg) :=
  ⟨mono_Asg h.mono hg.mono, (ps_asg h.pe hg.pg hs hw h1).imp fun Dn σ H ⟨env, st, E, R, T, L, q⟩ =>
    ⟨env, st, R, T, h.mono _ _ _ _ _ _ (fun d s z v H' e1 e2 r => ⟨env, d, R.ev e1, r, hg.mono _ _ _ _ (fun env2 z σ2 R2 a2 w2 => L.nx _ _ _ _ ((Step.ev e1).trans (.agr a2)) R2 e2 z) z⟩) (fun t d s z => L.toX R t d s z) q⟩⟩
/-- what is new is the slot's own -/
theorem EnvR.own1 (R : EnvR Γ O H σ env) (T : ST Γ H st) {i : Nat} {a : Addr} {d : D} (ho : i ∉ O) (hi : i < Γ.n) (e : Ev (Zone Γ.g) H H') (ha : H a = none) (ow : OwnR Γ.g (fun b => NN Γ O σ b ∨ b = a) H' a d) :
    EnvR Γ (i :: O) H' (σ.set i (some (.ref a))) (Fy.put env i (some d)) ∧ Step Γ O σ H (i :: O) (σ.set i (some (.ref a))) H' := by
  have hlt : i < σ.length := by rw [R.cnt]; exact hi
  have ag : Agr O σ (σ.set i (some (.ref a))) := agr_set ho
  have nB : ¬ Γ.B a := fun z => T.b a z ha
  have own : ∀ b, OwnA (i :: O) (σ.set i (some (V.ref a))) b → OwnA O σ b ∨ b = a := fun b ⟨j, hj, ej⟩ => by
    by_cases hji : j = i
    · subst hji
      rw [List.getElem?_set_self hlt] at ej
      injection ej with ej; injection ej with ej; injection ej with ej
      exact .inr ej.symm
    · rw [List.getElem?_set_ne (Ne.symm hji)] at ej
      rcases List.mem_cons.mp hj with z | z
      · exact absurd z hji
      · exact .inl ⟨j, z, ej⟩
  have nn : ∀ b, NN Γ (i :: O) (σ.set i (some (V.ref a))) b → NN Γ O σ b ∨ b = a := fun b z => by
    rcases z with z | z
    · exact .inl (.inl z)
    · rcases own b z with z | z
      · exact .inl (.inr z)
      · exact .inr z
  have kk : ∀ b o, H b = some o → ¬ NN Γ O σ b → H' b = some o := fun b o hb nb => e.k b o hb fun z => nb (.inl (Γ.zb _ z))
  have ss : ∀ b, H b ≠ none → NN Γ (i :: O) (σ.set i (some (V.ref a))) b → NN Γ O σ b := fun b hb z => by
    rcases nn b z with z | z
    · exact z
    · rw [z] at hb; exact absurd ha hb
  have ne : ∀ j b, j ∈ O → σ[j]? = some (some (V.ref b)) → b ≠ a := fun j b hj ej z => by
    subst z
    obtain ⟨b, d', e1, e2, nb, ow'⟩ := R.own j hj
    rw [ej] at e2
    injection e2 with e2; injection e2 with e2; injection e2 with e2
    subst e2
    obtain ⟨o, h⟩ := ow'.there
    rw [ha] at h; cases h
  refine ⟨⟨by rw [put_length, List.length_set]; exact R.len, by rw [List.length_set]; exact R.cnt, fun j dj hj nj => ?_, fun j hj => ?_, fun j hj l hl b e1 e2 => ?_⟩, ⟨fun b o hb nb => e.k b o hb fun z => nb (.inl z), e.t, fun b z => ?_⟩⟩
  · have hji : i ≠ j := fun z => nj (by rw [← z]; exact List.mem_cons_self ..)
    rw [look_put_ne hji] at hj
    obtain ⟨v, ev, rv⟩ := R.val j dj hj fun z => nj (List.mem_cons_of_mem _ z)
    exact ⟨v, by rw [List.getElem?_set_ne hji]; exact ev, Rep.ev kk ss _ _ rv⟩
  · rcases List.mem_cons.mp hj with z | z
    · subst z
      exact ⟨a, d, look_put_same (by rw [R.len]; exact hlt), List.getElem?_set_self hlt, nB, ow.ev (fun _ z => z) (fun _ _ z _ => z) fun b _ z => nn b z⟩
    · have hji : i ≠ j := fun q => ho (q ▸ z)
      obtain ⟨b, d', e1, e2, nb, ow'⟩ := R.own j z
      exact ⟨b, d', by rw [look_put_ne hji]; exact e1, by rw [List.getElem?_set_ne hji]; exact e2, nb, ow'.ev (fun o hb => e.k b o hb fun q => nb (Γ.zb b q)) kk ss⟩
  · rcases List.mem_cons.mp hj with zj | zj <;> rcases List.mem_cons.mp hl with zl | zl
    · rw [zj, zl]
    · subst zj
      rw [List.getElem?_set_self hlt] at e1
      injection e1 with e1; injection e1 with e1; injection e1 with e1
      have hne : j ≠ l := fun q => ho (q ▸ zl)
      rw [List.getElem?_set_ne hne] at e2
      exact absurd e1.symm (ne l b zl e2)
    · subst zl
      rw [List.getElem?_set_self hlt] at e2
      injection e2 with e2; injection e2 with e2; injection e2 with e2
      have hne : l ≠ j := fun q => ho (q ▸ zj)
      rw [List.getElem?_set_ne hne] at e1
      exact absurd e2.symm (ne j b zj e1)
    · have h1 : i ≠ j := fun q => ho (q ▸ zj)
      have h2 : i ≠ l := fun q => ho (q ▸ zl)
      rw [List.getElem?_set_ne h1] at e1
      rw [List.getElem?_set_ne h2] at e2
      exact R.dis j zj l zl b e1 e2
  · rcases own b z with z | z
    · exact .inl z
    · exact .inr (z ▸ ha)
theorem lt_N {i : Nat} {x : Str} {k : Nat} (c : Ctx X Γ W k) (hi : X.N[i]? = some x) : i < Γ.n := by
  rw [c.hn]
  exact (List.getElem?_eq_some_iff.mp hi).1
theorem fs_setF (i : Nat) {x : Str} {k : Nat} (c : Ctx X Γ W k) (h : FE X Γ W O .fr e fe) (ho : i ∉ O := by decide) (hi : X.N[i]? = some x := by rfl) (hx : Loc X.env.scope x := by first | exact Or.inl rfl | exact Or.inr rfl) (hs : swapsWith e (some (.Name x p)) pos.line X.env = pure false := by rfl)
    (hf : X.fn x = true ∨ X.env.scope.names.lookup x = some .local := by first | exact .inl rfl | exact .inr rfl) : FSt X Γ W Ob O (i :: O) (.Assign [.Name x p] e pos) (sAsg fe (gNm i)) :=
  ⟨mono_Asg h.mono fun d env Q Q' h q => h _ q, (ps_set c.nd hi hx h.pe hs hf).imp fun Dn σ H ⟨env, st, E, R, T, L, q⟩ =>
    ⟨env, st, R, T, h.mono _ _ _ _ _ _ (fun d s z v H' e1 e2 ⟨a, hv, ha, ow⟩ => by
      subst hv
      obtain ⟨R', S'⟩ := R.own1 T ho (lt_N c hi) e1 ha ow
      exact L.nx _ _ _ _ S' R' e2 z) (fun t d s z => L.toX R t d s z) q⟩⟩
/-! ### loops -/
theorem mono_forL {fg : FTG} (hg : MonoG fg) (hb : MonoS f) : ∀ (l : List D) (E E' : Ends) (env : Env) (st : S), LeE E E' → forL fg f l E env st → forL fg f l E' env st
  | [], E, E', env, st, h, q => h.nx _ _ q
  | x :: xs, E, E', env, st, h, q => hg _ _ _ _ (fun env2 z => hb _ _ _ _ (h.setLoop fun e s z => mono_forL hg hb xs E E' e s h z) z) q
theorem for_read {fit : FTI} {fg : FTG} {ts : List Nat} {Dn : L2.Ends} (mi : MonoI fit) (mg : MonoG fg) (mb : MonoS f) (h : liftS Γ W Ob O O (sFor fit fg f) Dn σ H) : tFor (liftI Γ W O fit) (liftG Γ O ts fg) (liftS Γ W O O O f) Dn σ H := by
  obtain ⟨env, st, E, R, T, L, h⟩ := h
  refine ⟨env, st, R, T, mi _ _ _ _ _ _ (fun l s1 z J H1 e1 T1 hJ => ?_) (fun t d s z => L.toX R t d s z) h⟩
  have L1 := L.step (.ev e1)
  let Pv : Nat → L2.St → Hp → Prop := fun i σ' H' => ∃ env' st', Step Γ O σ H1 O σ' H' ∧ EnvR Γ O H' σ' env' ∧ ST Γ H' st' ∧ forL fg f (l.drop i) E env' st'
  refine ⟨fun i m σ' H' => m = l.length - i ∧ i ≤ l.length ∧ Pv i σ' H', ⟨l.length, by simp, Nat.zero_le _, env, s1, .refl, R.ev e1, T1, by rw [List.drop_zero]; exact z⟩, ?_⟩
  rintro i m σ' H' ⟨rfl, hi, env', st', S', R', T', q⟩
  by_cases hlt : i < l.length
  · refine .inr ⟨hJ.go _ H' i S'.keep hlt, Pv (i + 1), fun σ2 H2 p => ⟨l.length - (i + 1), by omega, rfl, hlt, p⟩, fun x H3 y => ?_⟩
    obtain ⟨x3, d, hd, rd⟩ := hJ.yld _ H' i x H3 S'.keep (R'.nok T') y hlt
    have eL : l.drop i = d :: l.drop (i + 1) := by
      rw [List.drop_eq_getElem_cons hlt]
      congr 1
      rw [List.getElem?_eq_getElem hlt] at hd
      injection hd
    rw [eL] at q
    have e3 : Ev (Zone Γ.g) H' H3 := x3.ev
    refine ⟨env', d, R'.ev e3, rd, mg _ _ _ _ (fun env2 z σ2 R2 a2 w2 => ?_) q⟩
    have S3 : Step Γ O σ H1 O σ2 H3 := (S'.trans (.ev e3)).trans (.agr a2)
    refine ⟨env2, st', { E with nx := fun e s => forL fg f (l.drop (i + 1)) E e s, ct := fun e s => forL fg f (l.drop (i + 1)) E e s, bk := E.nx }, R2, T'.ext x3, ⟨fun env4 st4 σ4 H4 a4 R4 T4 z4 => ⟨env4, st4, S3.trans a4, R4, T4, z4⟩, (L1.step S3).rt, (L1.step S3).nx, fun env4 st4 σ4 H4 a4 R4 T4 z4 => ⟨env4, st4, S3.trans a4, R4, T4, z4⟩, (L1.step S3).ex⟩, z⟩
  · have ei : i = l.length := by omega
    subst ei
    rw [List.drop_length] at q
    exact .inl ⟨hJ.stop _ H' S'.keep, L1.nx _ _ _ _ S' R' T' q⟩
theorem fs_for {tg iter : Expr} {body : List Stmt} {fit : FTI} {fg : FTG} {ts : List Nat} (hp : PassesOwn (model X.prog X.w) X.A X.env X.xe) (hi : FI X Γ W O tg iter fit) (hg : FG X Γ O ts tg fg) (hb : FB X Γ W O O O body f) (hc : X.calm = true := by rfl) (hs : ∀ x, foldedSetIterable iter X.env x = pure x := by intro _; rfl) :
    FSt X Γ W Ob O O (.For tg iter body [] pos) (sFor fit fg f) :=
  ⟨fun E E' env st l q => hi.mono _ _ _ _ _ _ (fun ds s z => mono_forL hg.mono hb.mono _ _ _ _ _ l z) (l.ex _) q, (ps_for hp hc hi.pi hg.pg hb.ps hs).imp fun Dn σ H h => for_read hi.mono hg.mono hb.mono h⟩
theorem while_read {fc : FTC} {Dn : L2.Ends} (mc : MonoC fc) (mb : MonoS f) (h : liftS Γ W Ob O O (sWhile fc f) Dn σ H) : tWhile (liftC Γ W O fc) (liftS Γ W O O O f) Dn σ H := by
  obtain ⟨env, st, E, R, T, L, I, ⟨m0, i0⟩, turn⟩ := h
  refine ⟨fun m σ' H' => ∃ env' st', Step Γ O σ H O σ' H' ∧ EnvR Γ O H' σ' env' ∧ ST Γ H' st' ∧ I m env' st', ⟨m0, env, st, .refl, R, T, i0⟩, ?_⟩
  rintro m σ' H' ⟨env', st', S', R', T', q⟩
  have L1 := L.step S'
  refine ⟨env', st', R', T', mc _ _ _ _ _ _ (fun k s1 z H1 e1 T1 => ?_) (fun t d s z => L1.toX R' t d s z) (turn m env' st' q)⟩
  have S1 : Step Γ O σ H O σ' H1 := S'.trans (.ev e1)
  have L2 := L.step S1
  cases k with
  | true =>
    refine ⟨fun σ2 H2 => ∃ m', m' < m ∧ ∃ env' st', Step Γ O σ H O σ2 H2 ∧ EnvR Γ O H2 σ2 env' ∧ ST Γ H2 st' ∧ I m' env' st', fun σ2 H2 q => q, env', s1, { E with nx := fun e s => ∃ m', m' < m ∧ I m' e s, ct := fun e s => ∃ m', m' < m ∧ I m' e s, bk := E.nx }, R'.ev e1, T1,
      ⟨fun env4 st4 σ4 H4 a4 R4 T4 ⟨m4, l4, z4⟩ => ⟨m4, l4, env4, st4, S1.trans a4, R4, T4, z4⟩, L2.rt, L2.nx, fun env4 st4 σ4 H4 a4 R4 T4 ⟨m4, l4, z4⟩ => ⟨m4, l4, env4, st4, S1.trans a4, R4, T4, z4⟩, L2.ex⟩, z⟩
  | false => exact L2.nx _ _ _ _ .refl (R'.ev e1) T1 z
theorem mono_While {fc : FTC} (mc : MonoC fc) (mb : MonoS f) : MonoS (sWhile fc f) := fun E E' env st l ⟨I, i0, turn⟩ => ⟨I, i0, fun m env st q => mc _ _ _ _ _ _ (fun k s z => by
  cases k with
  | true => exact mb _ _ _ _ (l.setLoop fun _ _ z => z) z
  | false => exact l.nx _ _ z) (l.ex _) (turn m env st q)⟩
theorem fs_while {c : Expr} {body : List Stmt} {fc : FTC} (hp : PassesOwn (model X.prog X.w) X.A X.env X.xe) (hc : FC X Γ W O c fc) (hb : FB X Γ W O O O body f) : FSt X Γ W Ob O O (.While c body [] pos) (sWhile fc f) :=
  ⟨mono_While hc.mono hb.mono, (ps_while hp hc.pt hb.ps).imp fun Dn σ H h => while_read hc.mono hb.mono h⟩
end
end Fy
set_option Elab.async false
set_option linter.all false
set_option maxRecDepth 100000
set_option maxHeartbeats 4000000
/-! FyH: several stores at once, what a slot owns changed, a comprehension stored. -/
namespace Fy
open PySem L2

section
variable {Γ : G} {W : WX} {O O' O1 O2 Ob : List Nat} {H H' H1 H2 : Hp} {σ σ' σ1 σ2 : L2.St} {env : Env} {st : S}
/-! ### fewer, more things that data may not lean on -/
theorem EnvR.moreB (R : EnvR Γ O H σ env) (e : Ev (Zone Γ.g) H H') {B' : Addr → Prop} (zb : ∀ a, Zone Γ.g a → B' a) (h : ∀ b, H b ≠ none → B' b → Γ.B b) : EnvR (Γ.wB B' zb) O H' σ env := by
  have s : ∀ b, H b ≠ none → NN (Γ.wB B' zb) O σ b → NN Γ O σ b := fun b hb z => by
    rcases z with z | z
    · exact .inl (h b hb z)
    · exact .inr z
  have k : ∀ b o, H b = some o → ¬ NN Γ O σ b → H' b = some o := fun b o hb nb => e.k b o hb fun z => nb (.inl (Γ.zb _ z))
  refine ⟨R.len, R.cnt, fun i d hi n => ?_, fun i hi => ?_, R.dis⟩
  · obtain ⟨v, ev, r⟩ := R.val i d hi n
    exact ⟨v, ev, Rep.ev k s _ _ r⟩
  · obtain ⟨b, d, e1, e2, nb, ow⟩ := R.own i hi
    obtain ⟨u, hu⟩ := ow.there
    exact ⟨b, d, e1, e2, fun z => nb (h b (by rw [hu]; intro q; cases q) z), ow.ev (fun o ho => e.k b o ho fun z => nb (Γ.zb _ z)) k s⟩
theorem EnvR.lessB (R : EnvR Γ O H σ env) {B' : Addr → Prop} (zb : ∀ a, Zone Γ.g a → B' a) (h : ∀ b, B' b → Γ.B b) : EnvR (Γ.wB B' zb) O H σ env := R.moreB Ev.refl zb fun b _ => h b
theorem exK.w2 {B' : Addr → Prop} {zb : ∀ a, Zone Γ.g a → B' a} (h : ∀ b, Γ.B b → B' b) {tag : Nat} {d : D} {s : S} (x : exK Γ W O σ H tag d s) : exK (Γ.wB B' zb) W O σ H tag d s := fun C dx v H' hc e T hx nb r =>
  x C dx v H' hc e ⟨T.z, fun a za => T.b a (h a za), T.sz⟩ hx (fun z => nb (z.elim (fun z => .inl (h _ z)) .inr)) (r.nn fun b z => z.elim (fun z => .inl (h _ z)) .inr)
/-! ### several values, some of them new -/
def RM (g : G0) (N : Addr → Prop) (H H' : Hp) : List Bool → List V → List D → List Addr → Prop
  | [], [], [], F => F = []
  | false :: ms, v :: vs, d :: ds, F => Rep g N H' v d ∧ RM g N H H' ms vs ds F
  | true :: ms, v :: vs, d :: ds, a :: F => v = .ref a ∧ H a = none ∧ a ∉ F ∧ OwnR g N H' a d ∧ RM g N H H' ms vs ds F
  | _, _, _, _ => False
theorem RM.new {g : G0} {N : Addr → Prop} : ∀ {ms : List Bool} {vs : List V} {ds : List D} {F : List Addr}, RM g N H H' ms vs ds F → ∀ b, b ∈ F → H b = none
  | [], [], [], F, h, b, hb => by rw [show F = [] from h] at hb; cases hb
  | false :: ms, v :: vs, d :: ds, F, h, b, hb => RM.new h.2 b hb
  | true :: ms, v :: vs, d :: ds, a :: F, h, b, hb => by
    rcases List.mem_cons.mp hb with e | e
    · rw [e]; exact h.2.1
    · exact RM.new h.2.2.2.2 b e
  | [], [], _ :: _, _, h, _, _ => h.elim
  | [], _ :: _, _, _, h, _, _ => h.elim
  | false :: _, [], _, _, h, _, _ => h.elim
  | false :: _, _ :: _, [], _, h, _, _ => h.elim
  | true :: _, [], _, _, h, _, _ => h.elim
  | true :: _, _ :: _, [], _, h, _, _ => h.elim
  | true :: _, _ :: _, _ :: _, [], h, _, _ => h.elim
theorem RM.imp {g : G0} {N N' : Addr → Prop} {G1 : Hp} (hN : ∀ b, N' b → N b) (hH : ∀ b, H b = none → G1 b = none) : ∀ {ms : List Bool} {vs : List V} {ds : List D} {F : List Addr}, RM g N H H' ms vs ds F → RM g N' G1 H' ms vs ds F
  | [], [], [], F, h => h
  | false :: ms, v :: vs, d :: ds, F, h => ⟨h.1.nn hN, RM.imp hN hH h.2⟩
  | true :: ms, v :: vs, d :: ds, a :: F, h => ⟨h.1, hH _ h.2.1, h.2.2.1, h.2.2.2.1.ev (fun _ z => z) (fun _ _ z _ => z) fun b _ z => hN b z, RM.imp hN hH h.2.2.2.2⟩
  | [], [], _ :: _, _, h => h.elim
  | [], _ :: _, _, _, h => h.elim
  | false :: _, [], _, _, h => h.elim
  | false :: _, _ :: _, [], _, h => h.elim
  | true :: _, [], _, _, h => h.elim
  | true :: _, _ :: _, [], _, h => h.elim
  | true :: _, _ :: _, _ :: _, [], h => h.elim
def NF (Γ : G) (O : List Nat) (σ : L2.St) (F : List Addr) (b : Addr) : Prop := NN Γ O σ b ∨ b ∈ F
def liftM (Γ : G) (W : WX) (O : List Nat) (ms : List Bool) (f : FTA) : TA := fun σ H Q => ∃ env st, EnvR Γ O H σ env ∧ ST Γ H st ∧
  f env st (fun ds st' => ∀ vs H' F, Ev (Zone Γ.g) H H' → ST Γ H' st' → RM Γ.g (NF Γ O σ F) H H' ms vs ds F → Q vs H') (exK Γ W O σ H)
structure FM (X : Cx) (Γ : G) (W : WX) (O : List Nat) (es : List Expr) (ms : List Bool) (f : FTA) : Prop where
  mono : MonoA f
  pa : PA X es (liftM Γ W O ms f)
variable {X : Cx} {e a b : Expr} {es : List Expr} {ms : List Bool} {f g : FTS} {fe fa fb : FTE} {fr : FTA} {pos p : Pos} {s : Stmt} {rest : List Stmt} {kk : Nat}
theorem fm_nil : FM X Γ W O [] [] aNil := ⟨fun _ _ _ _ _ _ h _ q => h _ _ q, pa_nil.imp fun σ H Q ⟨env, st, R, T, q⟩ => q [] H [] Ev.refl T rfl⟩
theorem fm_cl (ha : FE X Γ W O .cl a fa) (hr : FM X Γ W O es ms fr) (hs : starEach (a :: es) X.env = (false, eval a X.env) :: starEach es X.env := by rfl) : FM X Γ W O (a :: es) (false :: ms) (aCons fa fr) :=
  ⟨mono_Cons ha.mono hr.mono, (pa_cons ha.pe hr.pa hs).imp fun σ H Q ⟨env, st, R, T, q⟩ => ⟨env, st, R, T, ha.mono _ _ _ _ _ _ (fun d s1 z v H1 e1 T1 r1 => ⟨env, s1, R.ev e1, T1, hr.mono _ _ _ _ _ _ (fun ds s2 z vs H2 F e2 T2 r2 => by
    have hF := r2.new
    refine z (v :: vs) H2 F (e1.trans e2) T2 ⟨Rep.ev (fun b o hb nb => e2.k b o hb fun z => nb (.inl (Γ.zb _ z))) (fun b hb z => ?_) _ _ r1, r2.imp (fun _ z => z) fun b hb => e1.t b hb⟩
    rcases z with z | z
    · exact z
    · exact absurd (hF b z) hb) (fun t d s z => exK.ev e1 z) z⟩) (fun _ _ _ z => z) q⟩⟩
theorem fm_fr (ha : FE X Γ W O .fr a fa) (hr : ∀ b : Bs Γ, FM X (Γ.w2 b) W O es ms fr) (hs : starEach (a :: es) X.env = (false, eval a X.env) :: starEach es X.env := by rfl) : FM X Γ W O (a :: es) (true :: ms) (aCons fa fr) := by
  have b0 : Bs Γ := ⟨Γ.B, Γ.zb⟩
  refine ⟨mono_Cons ha.mono (hr b0).mono, ⟨fun pos pins s σ H Q I h => ?_⟩⟩
  have pr : PA X es (fun σ H Q => ∃ b : Bs Γ, liftM (Γ.w2 b) W O ms fr σ H Q) := ⟨fun pos pins s σ H Q I ⟨b, q⟩ => (hr b).pa.run pos pins s σ H Q I q⟩
  refine (pa_cons ha.pe pr hs).run pos pins s σ H Q I ?_
  obtain ⟨env, st, R, T, q⟩ := h
  refine ⟨env, st, R, T, ha.mono _ _ _ _ _ _ (fun d s1 z v H1 e1 T1 r1 => ?_) (fun _ _ _ z => z) q⟩
  obtain ⟨a, hv, hna, ow⟩ := r1
  subst hv
  have zb : ∀ c, Zone Γ.g c → Γ.B c ∨ c = a := fun c z => .inl (Γ.zb c z)
  have there : H1 a ≠ none := by
    obtain ⟨o, ho⟩ := ow.there
    rw [ho]; intro z; cases z
  have nz : ¬ Zone Γ.g a := fun z => T.b a (Γ.zb a z) hna
  refine ⟨⟨fun c => Γ.B c ∨ c = a, zb⟩, env, s1, R.moreB e1 zb fun c hc z => z.elim (fun z => z) fun z => absurd hna (z ▸ hc), ⟨T1.z, fun c zc => zc.elim (T1.b c) fun z => z ▸ there, T1.sz⟩,
    (hr b0).mono _ _ _ _ _ _ (fun ds s2 z vs H2 F e2 T2 r2 => ?_) (fun t d s z => (exK.ev e1 z).w2 fun b z => .inl z) z⟩
  have hF := r2.new
  have naF : a ∉ F := fun z => there (hF a z)
  have sub : ∀ c, NF Γ O σ (a :: F) c → NF (Γ.wB (fun c => Γ.B c ∨ c = a) zb) O σ F c := fun c z => by
    rcases z with (z | z) | z
    · exact .inl (.inl (.inl z))
    · exact .inl (.inr z)
    · rcases List.mem_cons.mp z with z | z
      · exact .inl (.inl (.inr z))
      · exact .inr z
  refine z (.ref a :: vs) H2 (a :: F) (e1.trans e2) ⟨T2.z, fun c zc => T2.b c (.inl zc), T2.sz⟩ ⟨rfl, hna, naF, ?_, r2.imp sub fun b hb => e1.t b hb⟩
  refine ow.ev (fun o ho => e2.k a o ho nz) (fun c o ho nc => e2.k c o ho fun z => nc (.inl (.inl (Γ.zb c z)))) fun c hc z => ?_
  rcases z with z | z
  · exact .inl z
  · rcases List.mem_cons.mp z with z | z
    · exact .inr z
    · exact absurd (hF c z) hc
/-! stored one after another -/
def BF (Γ : G) (F : List Addr) (b : Addr) : Prop := Γ.B b ∨ b ∈ F
theorem BF.zb {F : List Addr} : ∀ a, Zone Γ.g a → BF Γ F a := fun a z => .inl (Γ.zb a z)
def putsV : L2.St → List Nat → List V → L2.St
  | σ, i :: is, v :: vs => putsV (σ.set i (some v)) is vs
  | σ, _, _ => σ
def putsD : Env → List Nat → List D → Env
  | env, i :: is, d :: ds => putsD (Fy.put env i (some d)) is ds
  | env, _, _ => env
def ownsM : List Nat → List Nat → List Bool → List Nat
  | O, i :: is, true :: ms => ownsM (i :: O) is ms
  | O, _ :: is, false :: ms => ownsM O is ms
  | O, _, _ => O
/-- one of the new things becomes a slot's own -/
theorem EnvR.take {F : List Addr} {a : Addr} {d : D} {i : Nat} (R : EnvR (Γ.wB (BF Γ (a :: F)) BF.zb) O H σ env) (nB : ¬ Γ.B a) (nF : a ∉ F) (ho : i ∉ O) (hi : i < Γ.n) (ow : OwnR Γ.g (NN (Γ.wB (BF Γ (a :: F)) BF.zb) O σ) H a d) :
    EnvR (Γ.wB (BF Γ F) BF.zb) (i :: O) H (σ.set i (some (.ref a))) (Fy.put env i (some d)) ∧ (∀ b, OwnA (i :: O) (σ.set i (some (.ref a))) b → OwnA O σ b ∨ b = a) := by
  have hlt : i < σ.length := by rw [R.cnt]; exact hi
  have own : ∀ b, OwnA (i :: O) (σ.set i (some (V.ref a))) b → OwnA O σ b ∨ b = a := fun b ⟨j, hj, ej⟩ => by
    by_cases hji : j = i
    · subst hji
      rw [List.getElem?_set_self hlt] at ej
      injection ej with ej; injection ej with ej; injection ej with ej
      exact .inr ej.symm
    · rw [List.getElem?_set_ne (Ne.symm hji)] at ej
      rcases List.mem_cons.mp hj with z | z
      · exact absurd z hji
      · exact .inl ⟨j, z, ej⟩
  have nn : ∀ b, NN (Γ.wB (BF Γ F) BF.zb) (i :: O) (σ.set i (some (V.ref a))) b → NN (Γ.wB (BF Γ (a :: F)) BF.zb) O σ b := fun b z => by
    rcases z with (z | z) | z
    · exact .inl (.inl z)
    · exact .inl (.inr (List.mem_cons_of_mem _ z))
    · rcases own b z with z | z
      · exact .inr z
      · exact .inl (.inr (z ▸ List.mem_cons_self ..))
  have ne : ∀ j b, j ∈ O → σ[j]? = some (some (V.ref b)) → b ≠ a := fun j b hj ej z => by
    subst z
    obtain ⟨b, d', e1, e2, nb, ow'⟩ := R.own j hj
    rw [ej] at e2
    injection e2 with e2; injection e2 with e2; injection e2 with e2
    subst e2
    exact nb (.inr (List.mem_cons_self ..))
  refine ⟨⟨by rw [put_length, List.length_set]; exact R.len, by rw [List.length_set]; exact R.cnt, fun j dj hj nj => ?_, fun j hj => ?_, fun j hj l hl b e1 e2 => ?_⟩, own⟩
  · have hji : i ≠ j := fun z => nj (by rw [← z]; exact List.mem_cons_self ..)
    rw [look_put_ne hji] at hj
    obtain ⟨v, ev, rv⟩ := R.val j dj hj fun z => nj (List.mem_cons_of_mem _ z)
    exact ⟨v, by rw [List.getElem?_set_ne hji]; exact ev, rv.nn nn⟩
  · rcases List.mem_cons.mp hj with z | z
    · subst z
      refine ⟨a, d, look_put_same (by rw [R.len]; exact hlt), List.getElem?_set_self hlt, fun z => ?_, ow.ev (fun _ z => z) (fun _ _ z _ => z) fun b _ z => nn b z⟩
      rcases z with z | z
      · exact nB z
      · exact nF z
    · have hji : i ≠ j := fun q => ho (q ▸ z)
      obtain ⟨b, d', e1, e2, nb, ow'⟩ := R.own j z
      refine ⟨b, d', by rw [look_put_ne hji]; exact e1, by rw [List.getElem?_set_ne hji]; exact e2, fun q => nb ?_, ow'.ev (fun _ z => z) (fun _ _ z _ => z) fun b _ z => nn b z⟩
      rcases q with q | q
      · exact .inl q
      · exact .inr (List.mem_cons_of_mem _ q)
  · rcases List.mem_cons.mp hj with zj | zj <;> rcases List.mem_cons.mp hl with zl | zl
    · rw [zj, zl]
    · subst zj
      rw [List.getElem?_set_self hlt] at e1
      injection e1 with e1; injection e1 with e1; injection e1 with e1
      have hne : j ≠ l := fun q => ho (q ▸ zl)
      rw [List.getElem?_set_ne hne] at e2
      exact absurd e1.symm (ne l b zl e2)
    · subst zl
      rw [List.getElem?_set_self hlt] at e2
      injection e2 with e2; injection e2 with e2; injection e2 with e2
      have hne : l ≠ j := fun q => ho (q ▸ zj)
      rw [List.getElem?_set_ne hne] at e1
      exact absurd e2.symm (ne j b zj e1)
    · have h1 : i ≠ j := fun q => ho (q ▸ zj)
      have h2 : i ≠ l := fun q => ho (q ▸ zl)
      rw [List.getElem?_set_ne h1] at e1
      rw [List.getElem?_set_ne h2] at e2
      exact R.dis j zj l zl b e1 e2
theorem putsM {N : Addr → Prop} {G1 : Hp} : ∀ {is : List Nat} {ms : List Bool} {vs : List V} {ds : List D} {F : List Addr} {O : List Nat} {σ : L2.St} {env : Env}, EnvR (Γ.wB (BF Γ F) BF.zb) O H σ env → (∀ b, NN (Γ.wB (BF Γ F) BF.zb) O σ b → N b) → (∀ b, b ∈ F → ¬ Γ.B b) →
    RM Γ.g N G1 H ms vs ds F → is.length = ms.length → is.Nodup → (∀ i, i ∈ is → i ∉ O ∧ i < Γ.n) → EnvR Γ (ownsM O is ms) H (putsV σ is vs) (putsD env is ds) ∧ (∀ b, OwnA (ownsM O is ms) (putsV σ is vs) b → OwnA O σ b ∨ b ∈ F)
  | [], [], [], [], F, O, σ, env, R, _, _, h, _, _, _ => by
    obtain rfl : F = [] := h
    exact ⟨R.lessB Γ.zb fun b z => .inl z, fun b z => .inl z⟩
  | i :: is, false :: ms, v :: vs, d :: ds, F, O, σ, env, R, hN, hB, h, hl, nd, hi => by
    obtain ⟨ho, hlt⟩ := hi i (List.mem_cons_self ..)
    have R1 := R.put (v := v) (d := d) ho (h.1.nn hN)
    have ag : Agr O σ (σ.set i (some v)) := agr_set ho
    obtain ⟨R2, o2⟩ := putsM (is := is) R1 (fun b z => hN b (ag.nn.mp z)) hB h.2 (by simpa using hl) (List.nodup_cons.mp nd).2 fun j hj => hi j (List.mem_cons_of_mem _ hj)
    exact ⟨R2, fun b z => (o2 b z).elim (fun z => .inl (ag.own.mp z)) .inr⟩
  | i :: is, true :: ms, v :: vs, d :: ds, a :: F, O, σ, env, R, hN, hB, h, hl, nd, hi => by
    obtain ⟨ho, hlt⟩ := hi i (List.mem_cons_self ..)
    obtain ⟨hv, _, naF, ow, h⟩ := h
    subst hv
    have ow' : OwnR Γ.g (NN (Γ.wB (BF Γ (a :: F)) BF.zb) O σ) H a d := ow.ev (fun _ z => z) (fun _ _ z _ => z) fun b _ z => hN b z
    obtain ⟨R1, o1⟩ := R.take (hB a (List.mem_cons_self ..)) naF ho hlt ow'
    obtain ⟨R2, o2⟩ := putsM (is := is) R1 (fun b z => by
      rcases z with (z | z) | z
      · exact hN b (.inl (.inl z))
      · exact hN b (.inl (.inr (List.mem_cons_of_mem _ z)))
      · rcases o1 b z with z | z
        · exact hN b (.inr z)
        · exact hN b (.inl (.inr (z ▸ List.mem_cons_self ..)))) (fun b z => hB b (List.mem_cons_of_mem _ z)) h (by simpa using hl) (List.nodup_cons.mp nd).2 fun j hj => ⟨fun z => by
        rcases List.mem_cons.mp z with z | z
        · exact (List.nodup_cons.mp nd).1 (z ▸ hj)
        · exact (hi j (List.mem_cons_of_mem _ hj)).1 z, (hi j (List.mem_cons_of_mem _ hj)).2⟩
    refine ⟨R2, fun b z => ?_⟩
    rcases o2 b z with z | z
    · rcases o1 b z with z | z
      · exact .inl z
      · exact .inr (z ▸ List.mem_cons_self ..)
    · exact .inr (List.mem_cons_of_mem _ z)
  | [], [], [], _ :: _, _, _, _, _, _, _, _, h, _, _, _ => h.elim
  | [], [], _ :: _, _, _, _, _, _, _, _, _, h, _, _, _ => h.elim
  | [], _ :: _, _, _, _, _, _, _, _, _, _, _, hl, _, _ => by simp at hl
  | _ :: _, [], _, _, _, _, _, _, _, _, _, _, hl, _, _ => by simp at hl
  | _ :: _, false :: _, [], _, _, _, _, _, _, _, _, h, _, _, _ => h.elim
  | _ :: _, false :: _, _ :: _, [], _, _, _, _, _, _, _, h, _, _, _ => h.elim
  | _ :: _, true :: _, [], _, _, _, _, _, _, _, _, h, _, _, _ => h.elim
  | _ :: _, true :: _, _ :: _, [], _, _, _, _, _, _, _, h, _, _, _ => h.elim
  | _ :: _, true :: _, _ :: _, _ :: _, [], _, _, _, _, _, _, h, _, _, _ => h.elim
theorem puts_all {is : List Nat} {vs : List V} {ds : List D} {F : List Addr} (R : EnvR Γ O H σ env) (T : ST Γ H st) (e : Ev (Zone Γ.g) H H') (h : RM Γ.g (NF Γ O σ F) H H' ms vs ds F) (hl : is.length = ms.length) (nd : is.Nodup) (hi : ∀ i, i ∈ is → i ∉ O ∧ i < Γ.n) :
    EnvR Γ (ownsM O is ms) H' (putsV σ is vs) (putsD env is ds) ∧ Step Γ O σ H (ownsM O is ms) (putsV σ is vs) H' := by
  have hF := h.new
  have R1 : EnvR (Γ.wB (BF Γ F) BF.zb) O H' σ env := R.moreB e BF.zb fun b hb z => z.elim (fun z => z) fun z => absurd (hF b z) hb
  obtain ⟨R2, o2⟩ := putsM (N := NF Γ O σ F) R1 (fun b z => by
    rcases z with (z | z) | z
    · exact .inl (.inl z)
    · exact .inr z
    · exact .inl (.inr z)) (fun b hb z => T.b b z (hF b hb)) h hl nd hi
  refine ⟨R2, fun b o hb nb => e.k b o hb fun z => nb (.inl z), e.t, fun b z => (o2 b z).elim .inl fun z => .inr (hF b z)⟩
theorem RM.len {g : G0} {N : Addr → Prop} : ∀ {ms : List Bool} {vs : List V} {ds : List D} {F : List Addr}, RM g N H H' ms vs ds F → vs.length = ds.length ∧ ds.length = ms.length := by
  intro ms
  induction ms with
  | nil =>
    intro vs ds F h
    cases vs <;> cases ds <;> first | exact h.elim | exact ⟨rfl, rfl⟩
  | cons m ms ih =>
    intro vs ds F h
    cases m <;> cases vs <;> cases ds <;> first | exact h.elim | skip
    · obtain ⟨h1, h2⟩ := ih h.2
      exact ⟨by simp [h1], by simp [h2]⟩
    · cases F with
      | nil => exact h.elim
      | cons a F =>
        obtain ⟨h1, h2⟩ := ih h.2.2.2.2
        exact ⟨by simp [h1], by simp [h2]⟩
/-- i, j = a, b -/
theorem fs_par2 (i j : Nat) {x y : Str} {px py pt : Pos} {kt k2 pt2} {m1 m2 : Bool} (c : Ctx X Γ W kk) (ha : FM X Γ W O [a, b] [m1, m2] (aCons fa (aCons fb aNil))) (hij : i ≠ j := by decide) (hoi : i ∉ O := by decide) (hoj : j ∉ O := by decide) (hi : X.N[i]? = some x := by rfl) (hj : X.N[j]? = some y := by rfl)
    (hx : X.env.scope.names.lookup x = some .local := by rfl) (hy : X.env.scope.names.lookup y = some .local := by rfl) (hc : X.calm = true := by rfl)
    (hw : swappedStores [.Tuple [.Name x px, .Name y py] kt pt] (.Tuple [a, b] k2 pt2) X.env = pure (some [x, y]) := by rfl)
    (hs : swapsWithSole [.Tuple [.Name x px, .Name y py] kt pt] (.Tuple [a, b] k2 pt2) pos.line X.env = pure false := by rfl) :
    FSt X Γ W Ob O (ownsM O [i, j] [m1, m2]) (.Assign [.Tuple [.Name x px, .Name y py] kt pt] (.Tuple [a, b] k2 pt2) pos) (sPar2 i j fa fb) := by
  refine ⟨fun E E' env st l q => ha.mono _ _ _ (fun ds s => match ds with | [x, y] => E'.nx (Fy.put (Fy.put env i (some x)) j (some y)) s | _ => False) _ _ (fun ds s z => ?_) (l.ex _) (show aCons fa (aCons fb aNil) env st (fun ds s => match ds with | [x, y] => E.nx (Fy.put (Fy.put env i (some x)) j (some y)) s | _ => False) (E.ex env) from q), (ps_par hc c.nd hi hj hij hx hy ha.pa hw hs).imp fun Dn σ H ⟨env, st, E, R, T, L, q⟩ => ?_⟩
  · cases ds with
    | nil => exact z
    | cons d1 r1 =>
      cases r1 with
      | nil => exact z
      | cons d2 r2 =>
        cases r2 with
        | nil => exact l.nx _ _ z
        | cons _ _ => exact z
  · refine ⟨env, st, R, T, ha.mono _ _ (fun ds s => match ds with | [x, y] => E.nx (Fy.put (Fy.put env i (some x)) j (some y)) s | _ => False) _ _ _ (fun ds s z vs H' F e1 e2 r => ?_) (fun t d s z => L.toX R t d s z) q⟩
    obtain ⟨R', S'⟩ := puts_all (is := [i, j]) R T e1 r rfl (by simp [hij]) (fun k hk => by
      rcases List.mem_cons.mp hk with h | h
      · rw [h]; exact ⟨hoi, lt_N c hi⟩
      · rw [List.mem_singleton.mp h]; exact ⟨hoj, lt_N c hj⟩)
    obtain ⟨l1, l2⟩ := r.len
    match ds, vs, z, l1, l2 with
    | [d1, d2], [v1, v2], z, _, _ => exact ⟨v1, v2, rfl, L.nx _ _ _ _ S' R' e2 z⟩
/-- i, j, k = a, b, c -/
theorem fs_par3 (i j l : Nat) {x y z : Str} {c' : Expr} {fc : FTE} {px py pz pt : Pos} {kt k2 pt2} {m1 m2 m3 : Bool} (c : Ctx X Γ W kk) (ha : FM X Γ W O [a, b, c'] [m1, m2, m3] (aCons fa (aCons fb (aCons fc aNil)))) (hij : i ≠ j := by decide) (hil : i ≠ l := by decide) (hjl : j ≠ l := by decide) (hoi : i ∉ O := by decide) (hoj : j ∉ O := by decide) (hol : l ∉ O := by decide)
    (hi : X.N[i]? = some x := by rfl) (hj : X.N[j]? = some y := by rfl) (hl : X.N[l]? = some z := by rfl) (hx : X.env.scope.names.lookup x = some .local := by rfl) (hy : X.env.scope.names.lookup y = some .local := by rfl) (hz : X.env.scope.names.lookup z = some .local := by rfl) (hc : X.calm = true := by rfl)
    (hw : swappedStores [.Tuple [.Name x px, .Name y py, .Name z pz] kt pt] (.Tuple [a, b, c'] k2 pt2) X.env = pure (some [x, y, z]) := by rfl)
    (hs : swapsWithSole [.Tuple [.Name x px, .Name y py, .Name z pz] kt pt] (.Tuple [a, b, c'] k2 pt2) pos.line X.env = pure false := by rfl) :
    FSt X Γ W Ob O (ownsM O [i, j, l] [m1, m2, m3]) (.Assign [.Tuple [.Name x px, .Name y py, .Name z pz] kt pt] (.Tuple [a, b, c'] k2 pt2) pos) (sPar3 i j l fa fb fc) := by
  refine ⟨fun E E' env st le q => ha.mono _ _ _ (fun ds s => match ds with | [x, y, z] => E'.nx (Fy.put (Fy.put (Fy.put env i (some x)) j (some y)) l (some z)) s | _ => False) _ _ (fun ds s w => ?_) (le.ex _)
    (show aCons fa (aCons fb (aCons fc aNil)) env st (fun ds s => match ds with | [x, y, z] => E.nx (Fy.put (Fy.put (Fy.put env i (some x)) j (some y)) l (some z)) s | _ => False) (E.ex env) from q), (ps_par3 hc c.nd hi hj hl hij hil hjl hx hy hz ha.pa hw hs).imp fun Dn σ H ⟨env, st, E, R, T, L, q⟩ => ?_⟩
  · match ds, w with
    | [], w => exact w
    | [_], w => exact w
    | [_, _], w => exact w
    | [_, _, _], w => exact le.nx _ _ w
    | _ :: _ :: _ :: _ :: _, w => exact w
  · refine ⟨env, st, R, T, ha.mono _ _ (fun ds s => match ds with | [x, y, z] => E.nx (Fy.put (Fy.put (Fy.put env i (some x)) j (some y)) l (some z)) s | _ => False) _ _ _ (fun ds s z vs H' F e1 e2 r => ?_) (fun t d s z => L.toX R t d s z) q⟩
    obtain ⟨R', S'⟩ := puts_all (is := [i, j, l]) R T e1 r rfl (by simp [hij, hil, hjl]) (fun k hk => by
      rcases List.mem_cons.mp hk with h | h
      · rw [h]; exact ⟨hoi, lt_N c hi⟩
      · rcases List.mem_cons.mp h with h | h
        · rw [h]; exact ⟨hoj, lt_N c hj⟩
        · rw [List.mem_singleton.mp h]; exact ⟨hol, lt_N c hl⟩)
    obtain ⟨l1, l2⟩ := r.len
    match ds, vs, z, l1, l2 with
    | [d1, d2, d3], [v1, v2, v3], z, _, _ => exact ⟨v1, v2, v3, rfl, L.nx _ _ _ _ S' R' e2 z⟩
/-! ### a comprehension stored -/
theorem fs_setLc {elt tg iter : Expr} {ifs : List Expr} {scope : Scope} (i : Nat) {x : Str} (own : List (Str × Nat)) {fit : FTI} {fg : FTG} {fc : FTC} {fe : FTE} {ts : List Nat} {p2 : Pos} (c : Ctx X Γ W kk) (hi : FI X Γ W O tg iter fit) (ok : BlkOk X.N X.env.scope scope own)
    (hg : ∀ (b : Bs Γ) (s : Shared) (H : Hp) (C : Addr) (cl : List (Str × Addr)) (fp : List Addr), FG (X.blk s H scope (compEnvC scope cl C X.env) fp) (Γ.w2 b) O ts tg fg)
    (ht : ∀ (b : Bs Γ) (s : Shared) (H : Hp) (C : Addr) (cl : List (Str × Addr)) (fp : List Addr), FTs (X.blk s H scope (compEnvC scope cl C X.env) fp) (Γ.w2 b) W0 O ifs fc)
    (he : ∀ (b : Bs Γ) (s : Shared) (H : Hp) (C : Addr) (cl : List (Str × Addr)) (fp : List Addr), FE (X.blk s H scope (compEnvC scope cl C X.env) fp) (Γ.w2 b) W0 O .cl elt fe)
    (ho : i ∉ O := by decide) (hN : X.N[i]? = some x := by rfl) (hx : X.env.scope.names.lookup x = some .local := by rfl) (hsw : swapsWith (.ListComp elt [⟨tg, iter, ifs, 0⟩] scope p2) (some (.Name x p)) pos.line X.env = pure true := by rfl)
    (hts : ∀ i, i ∈ ts → i ∈ own.map (·.2) := by decide) (hO : ∀ i, i ∈ own.map (·.2) → i ∉ O := by decide) (hc : X.calm = true := by rfl) (hs : ∀ x, foldedSetIterable iter X.env x = pure x := by intro _; rfl) :
    FSt X Γ W Ob O (i :: O) (.Assign [.Name x p] (.ListComp elt [⟨tg, iter, ifs, 0⟩] scope p2) pos) (sAsg (fLC fit fg fc fe (own.map (·.2))) (gNm i)) := by
  have b0 : Bs Γ := ⟨Γ.B, Γ.zb⟩
  have m1 := (hg b0 X.s_0 X.H_0 0 [] []).mono
  have m2 := (ht b0 X.s_0 X.H_0 0 [] []).mono
  have m3 := (he b0 X.s_0 X.H_0 0 [] []).mono
  have me := mono_LC (vs := own.map (·.2)) hi.mono m1 m2 m3
  refine ⟨mono_Asg me fun d env Q Q' h q => h _ q, (ps_setLc hc c.nd hN hx hsw hi.pi ok (fun s H C cl fp => PG.ex fun b => (hg b s H C cl fp).pg) (fun s H C cl fp => PTs.ex fun b => (ht b s H C cl fp).pt) (fun s H C cl fp => PE.ex fun b => (he b s H C cl fp).pe) hs).imp fun Dn σ H ⟨env, st, E, R, T, L, q⟩ => ?_⟩
  refine lc_read hi.mono m1 m2 m3 hts hO ⟨env, st, R, T, me _ _ _ _ _ _ (fun d s z v H' e1 e2 ⟨a, hv, ha, ow⟩ => ?_) (fun t d s z => L.toX R t d s z) q⟩
  subst hv
  obtain ⟨R', S'⟩ := R.own1 T ho (lt_N c hN) e1 ha ow
  exact L.nx _ _ _ _ S' R' e2 z
/-! ### what a slot owns changes -/
theorem EnvR.chg (R : EnvR Γ O H σ env) (T : ST Γ H st) {i : Nat} {a : Addr} {o : HO} {d : D} (hi : i ∈ O) (ha : σ[i]? = some (some (V.ref a))) (ow : OwnR Γ.g (NN Γ O σ) (upd H a o) a d) :
    EnvR Γ O (upd H a o) σ (Fy.put env i (some d)) ∧ Step Γ O σ H O σ (upd H a o) ∧ ST Γ (upd H a o) st := by
  have oa : OwnA O σ a := ⟨i, hi, ha⟩
  have k : ∀ b u, H b = some u → ¬ NN Γ O σ b → upd H a o b = some u := fun b u hb nb => by rw [upd_ne (fun (e : b = a) => nb (.inr (e ▸ oa)))]; exact hb
  obtain ⟨a', d0, e1, e2, nb, ow0⟩ := R.own i hi
  have eq : a = a' := by rw [ha] at e2; injection e2 with e2; injection e2 with e2; injection e2
  subst eq
  have hlt : i < env.length := look_lt e1
  refine ⟨⟨by rw [put_length]; exact R.len, R.cnt, fun j dj hj nj => ?_, fun j hj => ?_, R.dis⟩, ⟨fun b u hb n => by rw [upd_ne (fun (e : b = a) => n (.inr (e ▸ oa)))]; exact hb, fun b hb => ?_, fun b z => .inl z⟩, ⟨fun p hp => ?_, fun b zb hb => ?_, T.sz⟩⟩
  · have hji : i ≠ j := fun z => nj (z ▸ hi)
    rw [look_put_ne hji] at hj
    obtain ⟨v, ev, rv⟩ := R.val j dj hj nj
    exact ⟨v, ev, Rep.ev k (fun _ _ z => z) _ _ rv⟩
  · by_cases hji : i = j
    · subst hji
      exact ⟨a, d, look_put_same hlt, ha, nb, ow⟩
    · obtain ⟨b, dj, f1, f2, nb2, owj⟩ := R.own j hj
      have hne : b ≠ a := fun z => hji (R.dis i hi j hj a ha (z ▸ f2))
      exact ⟨b, dj, by rw [look_put_ne hji]; exact f1, f2, nb2, owj.ev (fun u hu => by rw [upd_ne hne]; exact hu) k fun _ _ z => z⟩
  · by_cases hba : b = a
    · rw [hba, upd_same] at hb; cases hb
    · rw [upd_ne hba] at hb; exact hb
  · obtain ⟨z0, z1, z2⟩ := T.z p hp
    exact ⟨z0, by rw [upd_ne (fun e => nb (Γ.zb a ⟨p, hp, .inl e.symm⟩))]; exact z1, by rw [upd_ne (fun e => nb (Γ.zb a ⟨p, hp, .inr e.symm⟩))]; exact z2⟩
  · by_cases hba : b = a
    · rw [hba, upd_same] at hb; cases hb
    · rw [upd_ne hba] at hb; exact T.b b zb hb
theorem EnvR.ownL (R : EnvR Γ O H σ env) {i : Nat} {l : List D} (hi : i ∈ O) (hl : look env i = some (.lst l)) : ∃ a vs, σ[i]? = some (some (V.ref a)) ∧ H a = some (.lst vs) ∧ RepL Γ.g (NN Γ O σ) H vs l ∧ NN Γ O σ a := by
  obtain ⟨a, d, e1, e2, nb, ow⟩ := R.own i hi
  rw [hl] at e1
  injection e1 with e1
  subst e1
  obtain ⟨vs, ha, r⟩ := ow
  exact ⟨a, vs, e2, ha, r, .inr ⟨i, hi, e2⟩⟩
def MutL (q : OL) (r : V → List V → Hp → VK → Prop) : Prop := ∀ (g : G0) (N : Addr → Prop) (H : Hp) (a : Addr) (xs vs : List V) (l ds : List D) (Ql : List D → Prop) (Q : VK), H a = some (.lst xs) → RepL g N H xs l → RepL g N H vs ds → N a → q ds l Ql →
  (∀ v xs' l', RepL g N H xs' l' → Ql l' → Q v (upd H a (.lst xs'))) → r (.ref a) vs H Q
def MonoL (q : OL) : Prop := ∀ ds l (Q Q' : List D → Prop), (∀ l, Q l → Q' l) → q ds l Q → q ds l Q'
theorem mono_Mut {i : Nat} {q : OL} (hq : MonoL q) (ha : MonoA fr) : MonoS (sMut i q fr) := fun E E' env st l z => by
  unfold sMut at z ⊢
  cases hl : look env i with
  | none => rw [hl] at z; exact z
  | some d =>
    rw [hl] at z
    cases d <;> first | exact z | skip
    exact ha _ _ _ _ _ _ (fun ds s z => hq _ _ _ _ (fun _ z => l.nx _ _ z) z) (l.ex _) z
theorem mut_run {i : Nat} {q : OL} {r : V → List V → Hp → VK → Prop} {Dn : L2.Ends} (hm : MutL q r) (ho : i ∈ O) (ha : MonoA fr) (h : liftS Γ W Ob O O (sMut i q fr) Dn σ H) :
    ∃ a xs, σ[i]? = some (some (V.ref a)) ∧ H a = some (.lst xs) ∧ liftA Γ W O fr σ H (fun vs H1 => r (.ref a) vs H1 fun _ H2 => Dn.nx σ H2) := by
  obtain ⟨env, st, E, R, T, L, z⟩ := h
  unfold sMut at z
  cases hl : look env i with
  | none => rw [hl] at z; exact z.elim
  | some d =>
    rw [hl] at z
    cases d <;> first | exact z.elim | skip
    obtain ⟨a, xs, e1, e2, r1, n1⟩ := R.ownL ho hl
    refine ⟨a, xs, e1, e2, env, st, R, T, ha _ _ _ _ _ _ (fun ds s z vs H1 ev T1 rv => ?_) (fun t d s z => L.toX R t d s z) z⟩
    have R1 := R.ev ev
    obtain ⟨a1, xs1, e3, e4, r3, n3⟩ := R1.ownL ho hl
    have eq : a = a1 := by rw [e1] at e3; injection e3 with e3; injection e3 with e3; injection e3
    subst eq
    refine hm _ _ _ _ _ _ _ _ _ _ e4 r3 rv n3 z fun v xs' l' r' ql => ?_
    have r5 : RepL Γ.g (NN Γ O σ) (upd H1 a (.lst xs')) xs' l' := RepL.ev (fun b u hb nb => by rw [upd_ne (fun (e : b = a) => nb (e ▸ n3))]; exact hb) (fun _ _ z => z) _ _ r'
    obtain ⟨R2, S2, T2⟩ := R1.chg T1 ho e1 (o := .lst xs') (d := .lst l') ⟨xs', upd_same, r5⟩
    exact L.nx _ _ _ _ ((Step.ev ev).trans S2) R2 T2 ql
theorem mono_oAppend : MonoL oAppend := fun ds l Q Q' h z => by
  match ds, z with
  | [d], z => exact ⟨z.1, h _ z.2⟩
theorem mono_oInsert : MonoL oInsert := fun ds l Q Q' h z => by
  match ds, z with
  | [.int k, d], z => exact ⟨z.1, z.2.1, z.2.2.1, h _ z.2.2.2⟩
theorem mono_oExtend : MonoL oExtend := fun ds l Q Q' h z => by
  match ds, z with
  | [.lst m], z => exact ⟨z.1, h _ z.2⟩
theorem mono_oPop : MonoL oPop := fun ds l Q Q' h z => by
  match ds, z with
  | [], z => exact ⟨z.1, h _ z.2⟩
theorem mono_oPopAt : MonoL oPopAt := fun ds l Q Q' h z => by
  match ds, z with
  | [.int k], ⟨z0, j, z1, z2⟩ => exact ⟨z0, j, z1, h _ z2⟩
theorem mut_append : MutL oAppend rAppend := fun g N H a xs vs l ds Ql Q ha rl rv na z k => by
  match ds, z with
  | [d], z =>
    cases rv with
    | cons r1 r2 =>
      cases r2
      exact ⟨a, xs, _, rfl, rfl, ha, by rw [rl.length, ← cap_line]; exact z.1, k _ _ _ (rl.append (.cons r1 .nil)) z.2⟩
theorem RepL.take' {g : G0} {N : Addr → Prop} : ∀ {n : Nat} {vs : List V} {ds : List D}, RepL g N H vs ds → RepL g N H (vs.take n) (ds.take n)
  | 0, _, _, _ => by rw [List.take_zero, List.take_zero]; exact .nil
  | n + 1, _, _, .nil => .nil
  | n + 1, _, _, .cons r1 r2 => .cons r1 (RepL.take' r2)
theorem RepL.drop' {g : G0} {N : Addr → Prop} : ∀ {n : Nat} {vs : List V} {ds : List D}, RepL g N H vs ds → RepL g N H (vs.drop n) (ds.drop n)
  | 0, _, _, h => h
  | n + 1, _, _, .nil => .nil
  | n + 1, _, _, .cons r1 r2 => RepL.drop' (n := n) r2
theorem RepL.erase' {g : G0} {N : Addr → Prop} : ∀ {n : Nat} {vs : List V} {ds : List D}, RepL g N H vs ds → RepL g N H (vs.eraseIdx n) (ds.eraseIdx n)
  | _, _, _, .nil => .nil
  | 0, _, _, .cons _ r2 => r2
  | n + 1, _, _, .cons r1 r2 => .cons r1 (RepL.erase' r2)
theorem RepL.setA {g : G0} {N : Addr → Prop} {v : V} {d : D} (h : Rep g N H v d) : ∀ {n : Nat} {vs : List V} {ds : List D}, RepL g N H vs ds → RepL g N H (vs.set n v) (ds.set n d)
  | _, _, _, .nil => .nil
  | 0, _, _, .cons _ r2 => .cons h r2
  | n + 1, _, _, .cons r1 r2 => .cons r1 (RepL.setA h r2)
theorem mut_insert : MutL oInsert (fun x vs H Q => ∃ (l : Addr) (xs : List V) (i : Int) (y : V), x = .ref l ∧ vs = [.int i, y] ∧ H l = some (.lst xs) ∧ xs.length < sizeLine ∧ 0 ≤ i ∧ i < 2 ^ 63 ∧
    Q .non (upd H l (.lst (xs.take i.toNat ++ [y] ++ xs.drop i.toNat)))) := fun g N H a xs vs l ds Ql Q ha rl rv na z k => by
  match ds, z with
  | [.int i, d], z =>
    cases rv with
    | cons r1 r2 =>
      cases r1
      cases r2 with
      | cons r2 r3 =>
        cases r3
        exact ⟨a, xs, i, _, rfl, rfl, ha, by rw [rl.length, ← cap_line]; exact z.2.2.1, z.1, by have := z.2.1; omega, k _ _ _ ((rl.take'.append (.cons r2 .nil)).append rl.drop') z.2.2.2⟩
theorem mut_extend : MutL oExtend rExtend := fun g N H a xs vs l ds Ql Q ha rl rv na z k => by
  match ds, z with
  | [.lst m], z =>
    cases rv with
    | cons r1 r2 =>
      cases r2
      cases r1 with
      | @lst b ws _ hb nb rm => exact ⟨a, b, xs, ws, rfl, rfl, ha, hb, by rw [rl.length, rm.length, ← cap_line]; exact z.1, k _ _ _ (rl.append rm) z.2⟩
theorem mut_pop : MutL oPop rPop := fun g N H a xs vs l ds Ql Q ha rl rv na z k => by
  match ds, z with
  | [], z =>
    cases rv
    have hl := rl.length
    have hpos : 0 < xs.length := by
      cases l with
      | nil => exact absurd rfl z.1
      | cons _ _ => rw [hl]; simp
    refine ⟨a, xs, xs[xs.length - 1]'(by omega), rfl, rfl, ha, by simp, k _ _ _ ?_ z.2⟩
    rw [List.dropLast_eq_take, List.dropLast_eq_take, hl]
    exact rl.take'
theorem mut_popAt : MutL oPopAt rPopAt := fun g N H a xs vs l ds Ql Q ha rl rv na z k => by
  match ds, z with
  | [.int i], ⟨⟨b1, b2⟩, j, z1, z2⟩ =>
    cases rv with
    | cons r1 r2 =>
      cases r2
      cases r1
      have hl := rl.length
      have z1' : ixN xs.length i = some j := by rw [hl]; exact z1
      obtain ⟨h1, h2, h3, h4⟩ := ixN_seq z1'
      exact ⟨a, xs, i, j, xs[j], rfl, rfl, ha, by omega, by omega, h1, by simp, k _ _ _ rl.erase' z2⟩
end
end Fy
set_option Elab.async false
set_option linter.all false
set_option maxRecDepth 100000
set_option maxHeartbeats 4000000
/-! FyI: methods that change a slot's list, x[k] = e. -/
namespace Fy
open PySem L2
section
variable {Γ : G} {W : WX} {O O' O1 O2 Ob : List Nat} {H H' H1 H2 : Hp} {σ σ' σ1 σ2 : L2.St} {env : Env} {st : S}
variable {X : Cx} {e a b k : Expr} {es : List Expr} {f g : FTS} {fe fa fb fk : FTE} {fr : FTA} {pos p p2 p3 : Pos} {x : Str}
/-- where a name stands and may be read -/
structure Nm (X : Cx) (x : Str) (i : Nat) : Prop where
  at_ : X.N[i]? = some x
  vis : Vis X.env.scope x
  dbg : (x == ("__debug__" : Str)) = false
  cd : (x == ("__classdict__" : Str)) = false
theorem Nm.pe (h : Nm X x i) : PE X (.Name x p) (tVar i) := pe_var h.at_ h.vis h.dbg h.cd
theorem mut_stmt {i : Nat} {q : OL} {r : V → List V → Hp → VK → Prop} {t : TE} (he : PE X e t) (hq : MonoL q) (hm : MutL q r) (ho : i ∈ O) (ha : MonoA fr) (hs : swapsWith e none pos.line X.env = pure false)
    (ht : ∀ σ H (Q : VK), (∃ a xs, σ[i]? = some (some (V.ref a)) ∧ H a = some (.lst xs) ∧ liftA Γ W O fr σ H (fun vs H1 => r (.ref a) vs H1 Q)) → t σ H Q) : FSt X Γ W Ob O O (.Expr e pos) (sMut i q fr) :=
  ⟨mono_Mut hq ha, (ps_expr he hs).imp fun Dn σ H h => ht _ _ _ (mut_run hm ho ha h)⟩
theorem bm_run {i : Nat} {r : V → List V → Hp → VK → Prop} {Q : VK} {t : TA} (h : ∃ a xs, σ[i]? = some (some (V.ref a)) ∧ H a = some (.lst xs) ∧ t σ H (fun vs H1 => r (.ref a) vs H1 Q)) : tBM X.K "list" r (tVar i) t σ H Q := by
  obtain ⟨a, xs, e1, e2, h⟩ := h
  exact ⟨_, e1, .inl ⟨rfl, xs, SqL.of e2⟩, h⟩
theorem fs_append {i : Nat} (hn : Nm X x i) (ha : FA X Γ W O [e] fr) (ho : i ∈ O := by decide) (hs : swapsWith (.Call (.Attribute (.Name x p) "append" p2) [e] [] p3) none pos.line X.env = pure false := by rfl)
    (hbase : attributeBase (.Name x p) "append" X.env (eval (.Name x p) X.env) = eval (.Name x p) X.env := by rfl)
    (hfew : ((backTo p3 (starEach [e] X.env)).all (fun x => !x.1) && (backToKw p3 (keywordEach [] X.env)).all (fun x => x.1.isSome)
      && decide (([e] : List Expr).length + ([] : List Keyword).length + (if ([] : List Keyword).isEmpty then 0 else 1) < 30)) = true := by rfl)
    (hline : (p2.endLine == p3.line) = true := by rfl) (hs2 : starEach [e] X.env = (false, eval e X.env) :: starEach [] X.env := by rfl) (hplain : (backTo p3 (starEach [] X.env)).any (·.1) = false := by rfl) :
    FSt X Γ W Ob O O (.Expr (.Call (.Attribute (.Name x p) "append" p2) [e] [] p3) pos) (sMut i oAppend fr) :=
  mut_stmt (pe_bm PySem.F.plainAttrs_list PySem.F.slot_list_append PySem.F.type_list_append mt_append hn.pe ha.pa hbase hfew hline hs2 hplain) mono_oAppend mut_append ho ha.mono hs fun _ _ _ h => bm_run h
theorem fs_insert {i : Nat} {e2 : Expr} (hn : Nm X x i) (ha : FA X Γ W O [e, e2] fr) (ho : i ∈ O := by decide) (hs : swapsWith (.Call (.Attribute (.Name x p) "insert" p2) [e, e2] [] p3) none pos.line X.env = pure false := by rfl)
    (hbase : attributeBase (.Name x p) "insert" X.env (eval (.Name x p) X.env) = eval (.Name x p) X.env := by rfl)
    (hfew : ((backTo p3 (starEach [e, e2] X.env)).all (fun x => !x.1) && (backToKw p3 (keywordEach [] X.env)).all (fun x => x.1.isSome)
      && decide (([e, e2] : List Expr).length + ([] : List Keyword).length + (if ([] : List Keyword).isEmpty then 0 else 1) < 30)) = true := by rfl)
    (hline : (p2.endLine == p3.line) = true := by rfl) (hs2 : starEach [e, e2] X.env = (false, eval e X.env) :: starEach [e2] X.env := by rfl) (hplain : (backTo p3 (starEach [e2] X.env)).any (·.1) = false := by rfl) :
    FSt X Γ W Ob O O (.Expr (.Call (.Attribute (.Name x p) "insert" p2) [e, e2] [] p3) pos) (sMut i oInsert fr) :=
  mut_stmt (pe_bm PySem.F.plainAttrs_list PySem.F.slot_list_insert PySem.F.type_list_insert mt_insert hn.pe ha.pa hbase hfew hline hs2 hplain) mono_oInsert mut_insert ho ha.mono hs fun _ _ _ h => bm_run h
theorem fs_extend {i : Nat} (hn : Nm X x i) (ha : FA X Γ W O [e] fr) (ho : i ∈ O := by decide) (hs : swapsWith (.Call (.Attribute (.Name x p) "extend" p2) [e] [] p3) none pos.line X.env = pure false := by rfl)
    (hbase : attributeBase (.Name x p) "extend" X.env (eval (.Name x p) X.env) = eval (.Name x p) X.env := by rfl)
    (hfew : ((backTo p3 (starEach [e] X.env)).all (fun x => !x.1) && (backToKw p3 (keywordEach [] X.env)).all (fun x => x.1.isSome)
      && decide (([e] : List Expr).length + ([] : List Keyword).length + (if ([] : List Keyword).isEmpty then 0 else 1) < 30)) = true := by rfl)
    (hline : (p2.endLine == p3.line) = true := by rfl) (hs2 : starEach [e] X.env = (false, eval e X.env) :: starEach [] X.env := by rfl) (hplain : (backTo p3 (starEach [] X.env)).any (·.1) = false := by rfl) :
    FSt X Γ W Ob O O (.Expr (.Call (.Attribute (.Name x p) "extend" p2) [e] [] p3) pos) (sMut i oExtend fr) :=
  mut_stmt (pe_bm PySem.F.plainAttrs_list PySem.F.slot_list_extend PySem.F.type_list_extend mt_extend hn.pe ha.pa hbase hfew hline hs2 hplain) mono_oExtend mut_extend ho ha.mono hs fun _ _ _ h => bm_run h
theorem fs_popAt {i : Nat} (hn : Nm X x i) (ha : FA X Γ W O [e] fr) (ho : i ∈ O := by decide) (hs : swapsWith (.Call (.Attribute (.Name x p) "pop" p2) [e] [] p3) none pos.line X.env = pure false := by rfl)
    (hbase : attributeBase (.Name x p) "pop" X.env (eval (.Name x p) X.env) = eval (.Name x p) X.env := by rfl)
    (hfew : ((backTo p3 (starEach [e] X.env)).all (fun x => !x.1) && (backToKw p3 (keywordEach [] X.env)).all (fun x => x.1.isSome)
      && decide (([e] : List Expr).length + ([] : List Keyword).length + (if ([] : List Keyword).isEmpty then 0 else 1) < 30)) = true := by rfl)
    (hline : (p2.endLine == p3.line) = true := by rfl) (hs2 : starEach [e] X.env = (false, eval e X.env) :: starEach [] X.env := by rfl) (hplain : (backTo p3 (starEach [] X.env)).any (·.1) = false := by rfl) :
    FSt X Γ W Ob O O (.Expr (.Call (.Attribute (.Name x p) "pop" p2) [e] [] p3) pos) (sMut i oPopAt fr) :=
  mut_stmt (pe_bm PySem.F.plainAttrs_list PySem.F.slot_list_pop PySem.F.type_list_pop mt_popAt hn.pe ha.pa hbase hfew hline hs2 hplain) mono_oPopAt mut_popAt ho ha.mono hs fun _ _ _ h => bm_run h
theorem fs_pop {i : Nat} (hn : Nm X x i) (ho : i ∈ O := by decide) (hs : swapsWith (.Call (.Attribute (.Name x p) "pop" p2) [] [] p3) none pos.line X.env = pure false := by rfl)
    (hbase : attributeBase (.Name x p) "pop" X.env (eval (.Name x p) X.env) = eval (.Name x p) X.env := by rfl) (hline : (p2.endLine == p3.line) = true := by rfl) :
    FSt X Γ W Ob O O (.Expr (.Call (.Attribute (.Name x p) "pop" p2) [] [] p3) pos) (sMut i oPop aNil) :=
  mut_stmt (pe_bm0 PySem.F.plainAttrs_list PySem.F.slot_list_pop PySem.F.type_list_pop mt_pop hn.pe hbase hline) mono_oPop mut_pop ho (fun _ _ _ _ _ _ h _ q => h _ _ q) hs fun σ H Q ⟨a, xs, e1, e2, h⟩ => by
    obtain ⟨env, st, R, T, z⟩ := h
    exact ⟨_, e1, .inl ⟨rfl, xs, SqL.of e2⟩, z [] H Ev.refl T .nil⟩
/-! ### x[k] = e -/
theorem fs_stL {i : Nat} (hn : Nm X x i) (he : FE X Γ W O .cl e fe) (hk : FE X Γ W O .cl k fk) (ho : i ∈ O := by decide) (hs : swapsWithSole [.Subscript (.Name x p) k p2] e pos.line X.env = pure false := by rfl) (hw : swappedStores [.Subscript (.Name x p) k p2] e X.env = pure none := by rfl)
    (h1 : (assignEach [.Subscript (.Name x p) k p2] X.env).map (·.2) = [assign (.Subscript (.Name x p) k p2) X.env] := by rfl)
    (ha : ∀ v, assign (.Subscript (.Name x p) k p2) X.env v = (do
      let ov ← holding [v] (eval (.Name x p) X.env)
      let iv ← holding [v, ov] (eval k X.env)
      standAt p2
      holding [v, ov, iv] (setItem ov iv v)
      release [v, ov, iv] []) := by intro _; rfl) : FSt X Γ W Ob O O (.Assign [.Subscript (.Name x p) k p2] e pos) (sStL i fk fe) := by
  refine ⟨fun E E' env st l q => he.mono _ _ _ _ _ _ (fun d s z => hk.mono _ _ _ _ _ _ (fun kd s z => ?_) (l.ex _) z) (l.ex _) q, (ps_asg he.pe (pg_sub hn.pe hk.pe set_list ha) hs hw h1).imp fun Dn σ H ⟨env, st, E, R, T, L, q⟩ => ⟨env, st, R, T, he.mono _ _ _ _ _ _ (fun d s1 z v H1 e1 T1 r1 => ?_) (fun t d s z => L.toX R t d s z) q⟩⟩
  · cases hl : look env i with
    | none => rw [hl] at z; exact z.elim
    | some dd =>
      rw [hl] at z
      cases dd <;> first | exact z.elim | skip
      cases kd <;> first | exact z.elim | skip
      exact ⟨z.choose, z.choose_spec.1, l.nx _ _ z.choose_spec.2⟩
  · -- what the slot holds
    cases hl : look env i with
    | none =>
      have bad : fk env s1 (fun _ _ => False) (E.ex env) := hk.mono _ _ _ _ _ _ (fun kd s z => by rw [hl] at z; exact z.elim) (fun _ _ _ z => z) z
      obtain ⟨b, d', f1, _⟩ := R.own i ho
      rw [hl] at f1; cases f1
    | some dd =>
      obtain ⟨a, d', f1, f2, _, ow⟩ := R.own i ho
      refine ⟨_, f2, env, s1, R.ev e1, T1, hk.mono _ _ _ _ _ _ (fun kd s2 z kv H2 e2 T2 rk => ?_) (fun t d s z => (L.step (.ev e1)).toX (R.ev e1) t d s z) z⟩
      rw [hl] at z
      cases dd <;> first | exact z.elim | skip
      cases kd <;> first | exact z.elim | skip
      cases rk
      obtain ⟨j, hj, q⟩ := z
      have R2 := (R.ev e1).ev e2
      obtain ⟨a2, xs, g1, g2, g3, g4⟩ := R2.ownL ho hl
      have eq : a = a2 := by rw [f2] at g1; injection g1 with g1; injection g1 with g1; injection g1
      subst eq
      refine ⟨a, xs, _, j, rfl, rfl, g2, by rw [g3.length]; exact hj, ?_⟩
      have r5 : RepL Γ.g (NN Γ O σ) (upd H2 a (.lst (xs.set j v))) (xs.set j v) (List.set _ j d) := RepL.ev (fun b u hb nb => by rw [upd_ne (fun (e : b = a) => nb (e ▸ g4))]; exact hb) (fun _ _ z => z) _ _ (RepL.setA (r1.zone e2) g3)
      obtain ⟨R3, S3, T3⟩ := R2.chg T2 ho f2 (o := .lst (xs.set j v)) (d := .lst _) ⟨_, upd_same, r5⟩
      exact L.nx _ _ _ _ (((Step.ev e1).trans (.ev e2)).trans S3) R3 T3 q
end
end Fy
set_option Elab.async false
set_option linter.all false
set_option maxRecDepth 100000
set_option maxHeartbeats 4000000
/-! FyJ: own exception classes whose __init__ says super().__init__(text); self.at = at. -/
namespace Fy
open PySem L2 PySem.W PySem.Calls PyProof.Rows

/-- the body of such an __init__ -/
def siBody (txt : Str) (j : Nat) (p0 p1 p2 p3 p4 p5 p6 p7 p8 p9 : Pos) : List Stmt :=
  [.Expr (.Call (.Attribute (.Call (.Name "super" p0) [] [] p1) "__init__" p2) [.Constant (.str txt) j p3] [] p4) p5, .Assign [.Attribute (.Name "self" p6) "at" p7] (.Name "at" p8) p9]
/-- the call is a method's -/
def SiCall (txt : Str) (j : Nat) (p0 p1 p2 p3 p4 : Pos) : Prop := ∀ env : PySem.Env, ∃ pl : Sem Bool, eval (.Call (.Attribute (.Call (.Name "super" p0) [] [] p1) "__init__" p2) [.Constant (.str txt) j p3] [] p4) env = (do
      let ov ← attributeBase (.Call (.Name "super" p0) [] [] p1) "__init__" env (eval (.Call (.Name "super" p0) [] [] p1) env)
      standAt p2.atName
      let (f, first) ← holding [ov] (getMethod ov "__init__" pl)
      callWith p4 f first (backTo p4 (starEach [.Constant (.str txt) j p3] env)) [])
/-- a scope with the same locals and no free name -/
def siScope (sc : Scope) : Scope := { sc with names := [("self", .local), ("at", .local)] }
def spSI (K : Frag) : Sp := fun vs H Q _ => ∃ (a C : Addr) (v : V), vs = [.ref a, v] ∧ OexC K C ∧ findIn K (.ref C) "at" = some none ∧ H a = some (exo a C none) ∧
  ks_superIn K C C "__init__" = some (some (.builtin "ValueError.__init__")) ∧ subIn K (.ref C) (.type "ValueError") = some true ∧ mroIn K C (.ref C) = some true ∧
  ∀ dx, H dx = none → dx ≠ a → Q .non (upd (upd H dx (exd dx [(("at" : Str), v)])) a (exo a C (some dx)))
/-- what the facts say of the __init__ at f, of the class C -/
structure SInit (P : Program) (K : Frag) (mg : Str → Option Value) (C f : Addr) (fd : FuncData) : Prop where
  ex : ∃ (name qual : Str) (params : Arguments) (txt : Str) (j : Nat) (p0 p1 p2 p3 p4 p5 p6 p7 p8 p9 : Pos) (scope : Scope) (dV kV doc pm cdv ct oc : Value) (an od : Option Addr) (osl : Array (Option Value)) (cc cda : Addr) (ccl cl : Value) (cdd cld : Option Addr) (ccs csl : Array (Option Value)) (vs : Array Value) (file : Str) (tf : Tok) (ar : Arg) (cdD : ClassData),
    fd = fnX name qual params (siBody txt j p0 p1 p2 p3 p4 p5 p6 p7 p8 p9) scope [("__class__", cc)] dV kV doc pm an cdv ct ∧
    K.lookup f = some ⟨oc, od, .func fd, osl⟩ ∧ codeIn K cdv qual = true ∧ cdv = .ref cda ∧ K.lookup cda = some ⟨ccl, cdd, .fields vs, ccs⟩ ∧ vs[2]? = some (.str file tf) ∧ ((P.main.file : Str) == file) = true ∧
    K.lookup cc = some ⟨cl, cld, .cell (some (.ref C)), csl⟩ ∧ clsIn K C = some cdD ∧ (fd.params.posonlyargs ++ fd.params.args).head? = some ar ∧ ar.arg = "self" ∧
    (scope.kind = .function ∧ scope.isCoroutine = false ∧ scope.isGenerator = false) ∧ (∀ x ∈ scope.names, x.2 ≠ .cell) ∧ scope.names.lookup ("self" : Str) = some .local ∧ scope.names.lookup ("at" : Str) = some .local ∧
    scope.names.lookup ("super" : Str) = some .globalImplicit ∧ scope.names.lookup ("__class__" : Str) = some .free ∧ SiCall txt j p0 p1 p2 p3 p4
  sup : mg "super" = none
  top : (P.main.scope.names.lookup ("super" : Str)).isSome = false
  any : nsIn K cStatics "thirdparty.any" = some none
section
variable {P : Program} {w : World} {K : Frag} {mg : Str → Option Value} {base : Heap} {CX : CXT} {C f : Addr} {fd : FuncData} {k : Nat}
theorem fn_sinit (h : SInit P K mg C f fd) : FnOk P w K mg base CX (k + 1) f fd ["self", "at"] (fun vs H Q E => (∃ a, vs[0]? = some (V.ref a) ∧ H a = some (exo a C none)) ∧ spSI K vs H Q E) := by
  obtain ⟨⟨name, qual, params, txt, j, p0, p1, p2, p3, p4, p5, p6, p7, p8, p9, scope, dV, kV, doc, pm, cdv, ct, oc, an, od, osl, cc, cda, ccl, cl, cdd, cld, ccs, csl, cvs, file, tf, ar, cdD, efd, lk, hcd, ecd, lcd, hvs, hfile, lcc, hD, hpar, har, ⟨hk, hco, hgen⟩, hcell, hself, hat, hks, hkc, hsc⟩, hsup, htop, hany⟩ := h
  refine ⟨fun vs H Q E ⟨_, _, _, _, e, _⟩ => by rw [e]; rfl, fun A outer s H args us vs Q E hr e0 hb r hsp => ?_⟩
  obtain ⟨⟨a0, ea0, ha0⟩, a, C', v, evs, T, hno, ha, hsi, hsub, hmro, hq⟩ := hsp
  subst evs
  have eaa : a0 = a := by
    have : (V.ref a) = V.ref a0 := Option.some.inj ea0
    injection this with this
    exact this.symm
  subst eaa
  have eC : C' = C := by
    rw [ha] at ha0
    have q := Option.some.inj ha0
    have q1 : HO.ext (fun h => ∃ t1 : Addr, h.get? a0 = some ({ cls := .ref C', dict := none, data := .fields #[.ref t1, .none, .none, .none, .bool false, .none] } : Obj)) = HO.ext (fun h => ∃ t1 : Addr, h.get? a0 = some ({ cls := .ref C, dict := none, data := .fields #[.ref t1, .none, .none, .none, .bool false, .none] } : Obj)) := q
    obtain ⟨t1, ho⟩ := exo_at e0.hok ha
    have q2 := (HO.ext.inj q1)
    have q3 : ∃ t1 : Addr, s.heap.get? a0 = some ({ cls := .ref C, dict := none, data := .fields #[.ref t1, .none, .none, .none, .bool false, .none] } : Obj) := (congrFun q2 s.heap) ▸ ⟨t1, ho⟩
    obtain ⟨t2, ho2⟩ := q3
    rw [ho] at ho2
    injection ho2 with ho2
    have := congrArg Obj.cls ho2
    injection this
  subst eC
  subst ecd
  have KX : K.In s.heap := e0.mod.kin.keeps fun b o e => (e0.bs b o e).1
  have lim : s.heap.NoLimit := e0.mod.nolimit.keeps fun b o e => (e0.bs b o e).1
  obtain ⟨u0, u1, rfl, ru0, ru1⟩ := r.two
  obtain rfl : u0 = Value.ref a0 := ru0
  subst efd
  refine ks_codeAny_call_defAt (fd := fnX name qual params (siBody txt j p0 p1 p2 p3 p4 p5 p6 p7 p8 p9) scope [("__class__", cc)] dV kV doc pm an (.ref cda) ct) (binds := [("self", .ref a0), ("at", u1)]) hr.depth (KX _ _ lk) rfl lim (codeRec_of KX hcd) rfl hb hcell (fun y hy => ?_) (fun h₁ hns hk1 => ?_) hco hgen hk
  · rcases List.mem_cons.mp hy with e | e
    · rw [e]; exact hself
    · rw [List.mem_singleton.mp e]; exact hat
  · have S : FnScope ["self", "at"] ["self", "at"] (siScope scope) := ⟨hk, hco, hgen, by decide, rfl, fun x hx => by
      rcases List.mem_cons.mp hx with e | e
      · subst e; exact .inl rfl
      · obtain rfl := List.mem_singleton.mp e; exact .inl rfl, fun y hy => by
      rcases List.mem_cons.mp hy with e | e
      · subst e; decide
      · obtain rfl := List.mem_singleton.mp e; decide⟩
    have hm : (fun x => ([(("self" : Str), Value.ref a0), ("at", u1)] : List (Str × Value)).reverse.lookup x) = bindL (envOfC qual (siScope scope) s.heap.objs.size f (.ref cda)).kindOf ((["self", "at"] : List Str).zip [Value.ref a0, u1]) fun _ => none := by
      funext y
      show List.lookup y [(("at" : Str), u1), ("self", Value.ref a0)] = if y = ("at" : Str) then some u1 else if y = ("self" : Str) then some (.ref a0) else none
      by_cases h1 : y = ("at" : Str)
      · subst h1; rfl
      · have e1 : (y == ("at" : Str)) = false := by simpa using h1
        by_cases h2 : y = ("self" : Str)
        · subst h2; rfl
        · have e2 : (y == ("self" : Str)) = false := by simpa using h2
          simp only [List.lookup, e1, e2, if_neg h1, if_neg h2]
    have x : InCallC s s.heap.objs.size (bindL (envOfC qual (siScope scope) s.heap.objs.size f (.ref cda)).kindOf ((["self", "at"] : List Str).zip [Value.ref a0, u1]) fun _ => none) (cellsFrom (s.heap.objs.size + 1) (siScope scope).names []) (bindC (envOfC qual (siScope scope) s.heap.objs.size f (.ref cda)).kindOf ((["self", "at"] : List Str).zip [Value.ref a0, u1]) fun _ => none) { s with heap := h₁, toks := s.toks + 2 } :=
      ⟨⟨⟨h₁, _, rfl⟩, hm ▸ hns, hk1, Nat.le_refl _⟩, fun n c e => (nomatch e), List.Pairwise.nil, fun n c e => (nomatch e)⟩
    have I1 : Inv (cxOf CX P w K mg base ["self", "at"] qual (siScope scope) f (.ref cda) A outer s H E) [] (L2.start ["self", "at"] [V.ref a0, v]) H { s with heap := h₁, toks := s.toks + 2 } := inv_start S hr.hd e0 rfl (.cons rfl (.cons ru1 .nil)) x
    obtain ⟨hp, g, d, t, os⟩ := s
    obtain ⟨t1, hoa⟩ := exo_at I1.hok ha
    have hoa : h₁.get? a0 = some (PySem.HandSPX.excO C' t1) := hoa
    have KX1 : K.In h₁ := KX.keeps hk1
    have hoL : a0 ≠ hp.objs.size := by
      obtain ⟨t2, z⟩ := exo_at e0.hok ha
      exact Nat.ne_of_lt (Heap.lt_size z)
    have mself : (fun x => ([(("self" : Str), Value.ref a0), ("at", u1)] : List (Str × Value)).reverse.lookup x) ("self" : Str) = some (.ref a0) := rfl
    have mat : (fun x => ([(("self" : Str), Value.ref a0), ("at", u1)] : List (Str × Value)).reverse.lookup x) ("at" : Str) = some u1 := rfl
    let env : PySem.Env := ksEnv qual scope hp.objs.size f (.ref cda) cc
    show _root_.PySem.wpAt (model P w) (A.deeper env) (.func (siBody txt j p0 p1 p2 p3 p4 p5 p6 p7 p8 p9) env) (execs (siBody txt j p0 p1 p2 p3 p4 p5 p6 p7 p8 p9) env) _ _ _
    have hke : env.scope.kind = .function := hk
    obtain ⟨oD, hD1, hD2⟩ : ∃ oD, h₁.get? C' = some oD ∧ oD.data = .cls cdD := by
      unfold clsIn at hD
      split at hD
      · rename_i c d cd' sl ho
        cases hD
        exact ⟨_, KX1 _ _ ho, rfl⟩
      · cases hD
    obtain ⟨pl, hmc⟩ := hsc env
    refine ks_wpAt_execs_cons (ks_wpAt_Expr_any (ks_wpAt_MethodCall ?_ hmc) (by simp [interactive, hke]) rfl)
    refine ks_wpAt_mono (ks_wpAt_super_base (env := env) hks hkc rfl rfl (KX1 _ _ lk) rfl hpar rfl (KX1 _ _ lcd) rfl hvs hfile htop (Q := fun so s' => ∃ h', so = .ref h₁.objs.size ∧ s' = ⟨h', g, d, t + 2, os⟩ ∧ h'.get? h₁.objs.size = some { cls := .type "super", dict := none, data := .fields #[.ref C', .ref a0, .ref C'], slots := #[] } ∧ (∀ y o, h₁.get? y = some o → h'.get? y = some o)) (E := fun _ _ => False) ?_) ?_ fun _ _ z => z.elim
    · refine ks_loadName_global hke hks ?_
      obtain ⟨mb, hb1, hb2⟩ := I1.mod.blt
      refine Calls.loadGlobal_builtin (env := env) (I1.mod.glob.keeps I1.bk) hsup (hb1.keeps I1.bk) ((hb2 "super" (by decide)).trans (by decide +kernel)) ⟨rfl, ?_⟩
      refine wpAny_loadName_free hke hkc rfl ⟨_, KX1 _ _ lcc, rfl⟩ ?_
      rw [har]
      refine wpAny_loadName_local hke hself hns mself ?_
      refine ks_wpAny_isType_cls hD1 hD2 ⟨rfl, ?_⟩
      exact ks_wpAny_call_super hD1 hD2 hoa rfl (fun c e => by cases e) (looks_mroIn KX1 hmro) fun h' e k => ⟨h', rfl, rfl, e, k⟩
    · rintro so s2 ⟨h2, rfl, rfl, hso, k2⟩
      have KX2 : K.In h2 := KX1.keeps k2
      have hoa2 := k2 _ _ hoa
      have In2 : InstAt h2 a0 (PySem.HandSPX.excO C' t1) C' none := ⟨hoa2, rfl, rfl, trivial⟩
      have hI : Looks (model P w) h2 (isInstance (.ref a0) (.type "ValueError")) true := In2.type.andThen (looks_subIn KX2 hsub)
      cases hc : clsIn K C' with
      | none => rw [hc] at hD; cases hD
      | some cd =>
        unfold ks_superIn at hsi
        rw [hc] at hsi
        refine kxs_getMethod kxs_ValueError hso (looks_opaque KX2 hany) (l₀ := cd.mro) ?_ rfl KX2 hsi hI (ks_ne KX2 In2 hc) rfl ?_
        · exact fun A Q E s k q => wpAny_bind ((looks_clsIn KX2 hc) A _ E s k (wpAny_pure q))
        · have k3 : ∀ b o, h₁.get? b = some o → (h2.push (kxs_mw "ValueError.__init__" a0)).get? b = some o := fun b o e => Heap.get?_push_of_some _ (k2 b o e)
          have hu : (h2.push (kxs_mw "ValueError.__init__" a0)).get? h2.objs.size = some (kxs_mw "ValueError.__init__" a0) := Heap.get?_push_at rfl rfl
          refine kxs_callWith (i := "ValueError.__init__") (x := a0) rfl ?_
          refine Calls.evalArgs_plain (PyProof.Rows.spliced_more (Calls.Constant_str (PyProof.Rows.spliced_none ⟨hu, ?_⟩)))
          obtain ⟨nm, q, N, bs, bm, sn, sub, ab, col, dd, k0, k1, k2', k3', k5, hC, hbm⟩ := T.cls
          refine wpAny_call (codeAny_of_tree ?_)
          show wpAny _ _ (callAny (.ref h2.objs.size) _) _ _ _
          simp only [callAny]
          refine wpAny_bind (wpAny_load hu ?_)
          simp only [kxs_mw, show (Value.type "method-wrapper" == Value.type "method" || Value.type "method-wrapper" == Value.type "builtin_function_or_method" || Value.type "method-wrapper" == Value.type "method-wrapper") = true by decide, if_true]
          refine KFB.if_so (by decide) ?_
          refine wpAny_bind (check_bound_init F.excBase_ValueError.toExcCallFacts (KX1.keeps k3 _ _ hC) (k3 _ _ hoa) rfl ?_)
          refine wpAny_bind (wpAny_pure (wpAny_pure ?_))
          refine ⟨plainId_quiet F.excBase_ValueError.init.plain _, codeAny_builtin F.excBase_ValueError.initEntry ?_⟩
          refine exc_init_tree (cls := .ref C') (t0 := t1) (dv := none) (c2 := .none) (c3 := .none) (b4 := .bool false) (k3 _ _ hoa) (by rw [sizeLine_eq]; simp) fun h4 k4 e4 t4 => ?_
          have e4' : h4.get? a0 = some ({ cls := .ref C', dict := none, data := .fields #[.ref (h2.push (kxs_mw "ValueError.__init__" a0)).objs.size, .none, .none, .none, .bool false, .none] } : Obj) := e4
          have I4 := I1.write (t' := t + 2 + 1 + 1) (x := a0) (e := a0) (h' := h4) (o := exo a0 C' none) (by rw [ha]; exact True.intro) (.inl rfl) (fun b o hb ho => k4 b o hb (k3 b o ho)) ⟨_, e4'⟩ (exo_ok e4')
          have eu : upd H a0 (exo a0 C' none) = H := by
            funext b
            by_cases hb : b = a0
            · rw [hb, upd_same, ha]
            · rw [upd_ne hb]
          rw [eu] at I4
          have ns4 : h4.Ns hp.objs.size (fun x => ([(("self" : Str), Value.ref a0), ("at", u1)] : List (Str × Value)).reverse.lookup x) := by
            obtain ⟨oL, es, ep, hL, rr⟩ := hns
            exact ⟨oL, es, ep, k4 _ _ (Ne.symm hoL) (k3 _ _ hL), rr⟩
          show _root_.PySem.wpAt (model P w) (A.deeper env) (.func (siBody txt j p0 p1 p2 p3 p4 p5 p6 p7 p8 p9) env) (execs [.Assign [.Attribute (.Name "self" p6) "at" p7] (.Name "at" p8) p9] env) _ _ _
          refine ks_wpAt_execs_cons (ks_wpAt_Assign_Attr (_root_.PySem.wpAt_of_wpAny ?_) rfl)
          refine wpAny_Name (wpAny_loadName_local (env := env) hke hat ns4 mat ?_) (by decide)
          refine wpAny_Name (wpAny_loadName_local (env := env) hke hself ns4 mself ?_) (by decide)
          refine ost_new T I4 ha hno ru1 fun dx s5 hdx hne J => ?_
          refine _root_.PySem.wpAt_of_wpAny (wpAny_execs_nil ?_)
          exact ⟨.non, _, J.os, J.bare, J.base, J.hok, rfl, hq dx hdx hne⟩
end
end Fy
set_option Elab.async false
set_option linter.all false
set_option maxRecDepth 100000
set_option maxHeartbeats 4000000
/-! FyK: raise, try. -/
namespace Fy
open PySem L2

section
variable {Γ : G} {W : WX} {O O' O1 O2 Ob : List Nat} {H H' H1 H2 : Hp} {σ σ' σ1 σ2 : L2.St} {env : Env} {st : S}
variable {X : Cx} {e a b : Expr} {es : List Expr} {f g h : FTS} {fe fa fb fk : FTE} {pos p p2 p3 np pos' : Pos} {x n : Str} {k : Nat}
/-! ### raise C(e) -/
/-- an own error class as the facts tell it -/
structure OwnE (P : Program) (K : PySem.W.Frag) (mg : Str → Option Value) (x : Str) (C : Addr) : Prop where
  oex : OexC K C
  at_ : PySem.W.findIn K (.ref C) "at" = some none
  sup : PySem.W.ks_superIn K C C "__init__" = some (some (.builtin "ValueError.__init__"))
  sub : PySem.W.subIn K (.ref C) (.type "ValueError") = some true
  mro : PySem.W.mroIn K C (.ref C) = some true
  xf : XfC K C
  gm : mg x = some (.ref C)
  ex : ∃ (fI : Addr) (fd : FuncData), PySem.W.findIn K (.ref C) "__init__" = some (some (.ref fI)) ∧ PySem.W.typeIn K (.ref fI) = some (.type "function") ∧ SInit P K mg C fI fd ∧ Binds K fd ["self", "at"] []
theorem fs_raise (tag : Nat) {C : Addr} (c : Ctx X Γ W (k + 2)) (hC : Γ.CT tag = some C) (w : OwnE X.prog X.K X.mg x C) (ha : FE X Γ W O .cl e fe) (hg : Gl X x := by rfl) (hc : X.calm = true := by rfl) (hdb : (x == ("__debug__" : Str)) = false := by decide)
    (he : starEach [e] X.env = (false, eval e X.env) :: starEach [] X.env := by rfl) (hpl : (backTo p2 (starEach [] X.env)).any (·.1) = false := by rfl) : FSt X Γ W Ob O O' (.Raise (some (.Call (.Name x p) [e] [] p2)) none pos) (sRaise tag fe) := by
  obtain ⟨fI, fd, hi, ti, hs, hb⟩ := w.ex
  have F1 := fn_sinit (w := X.w) (base := X.base) (CX := fun _ _ _ _ _ _ => False) (k := k) hs
  have z := pmk_oex (X := X) (p := p) (pos := p2) (ds := []) (dvs := []) w.oex hi ti F1 (c.room.mono (by omega)) hb .nil (fun _ _ _ _ _ _ _ z => z.elim) hg w.gm (pa_cons ha.pe pa_nil he) hdb he hpl
  refine ⟨fun E E' env st l q => ha.mono _ _ _ _ _ _ (fun d s z => l.ex _ _ _ _ z) (fun _ _ _ z => z) q, (L2.ps_raise hc c.tk z).imp fun Dn σ H ⟨env, st, E, R, T, L, q⟩ => ?_⟩
  refine ⟨env, st, R, T, ha.mono _ _ _ _ _ _ (fun d s1 q v H1 e1 T1 r1 => ⟨by show 1 ≤ 1000; omega, fun a hna => ?_⟩) (fun _ _ _ z => z.elim) q⟩
  refine ⟨⟨a, rfl, upd_same⟩, a, C, v, rfl, w.oex, w.at_, upd_same, w.sup, w.sub, w.mro, fun dx hdx hne => ⟨rfl, dx, [(("at" : Str), v)], upd_same, by rw [upd_ne hne, upd_same], by rw [upd_ne hne] at hdx; exact hdx, ?_⟩⟩
  have hdx1 : H1 dx = none := by rw [upd_ne hne] at hdx; exact hdx
  have eH : upd (del (upd (upd (upd H1 a (exo a C none)) dx (exd dx [(("at" : Str), v)])) a (exo a C (some dx))) a) dx (.xd [(("at" : Str), v)]) = upd H1 dx (.xd [(("at" : Str), v)]) := by
    funext b
    by_cases hb1 : b = dx
    · rw [hb1, upd_same, upd_same]
    · rw [upd_ne hb1, upd_ne hb1]
      by_cases hb2 : b = a
      · rw [hb2, del_same, hna]
      · rw [del_ne hb2, upd_ne hb2, upd_ne hb1, upd_ne hb2]
  rw [eH]
  have e2 : Ext H1 (upd H1 dx (.xd [(("at" : Str), v)])) := Ext.new hdx1
  have R1 := R.ev e1
  have nd : ¬ NN Γ O σ dx := R1.fresh T1 hdx1
  exact L.ex env tag d s1 σ _ C dx v (((Step.ev e1).trans (.ev e2.ev)).sub nil_sub) ((R1.ev e2.ev).drop nil_sub) (T1.ext e2) hC upd_same (fun z => nd (z.sub nil_sub)) ((r1.ext e2).nn fun b z => z.sub nil_sub) q
/-! ### try: .. except C as n: suite -/
/-- the same place with a caught error -/
def G.wE (Γ : G) (p : Addr × Addr) : G := { g := { Γ.g with ex := some p }, B := Γ.B, zb := Γ.zb, CT := Γ.CT, n := Γ.n }
mutual
theorem Rep.toE {g : G0} {p : Addr × Addr} {N : Addr → Prop} (hx : g.ex = none) : ∀ (d : D) (v : V), Rep g N H v d → Rep { g with ex := some p } N H v d
  | .non, _, h => by cases h; exact .non
  | .bl _, _, h => by cases h; exact .bl _
  | .int _, _, h => by cases h; exact .int _
  | .str _, _, h => by cases h; exact .str _
  | .lst ds, _, h => by
    cases h with
    | lst e n r => exact .lst e n (RepL.toE hx ds _ r)
  | .tup ds, _, h => by
    cases h with
    | tup e n r => exact .tup e n (RepL.toE hx ds _ r)
  | .dct ks ds, _, h => by
    cases h with
    | dct e n r => exact .dct e n (RepL.toE hx ds _ r)
  | .set _, _, h => by
    cases h with
    | set e n r => exact .set e n r
  | .rep d, _, h => by cases h; exact .rep d
  | .scr _, _, h => by
    cases h with
    | scr e => exact .scr e
  | .deal, _, h => by
    cases h with
    | deal e => exact .deal e
  | .exc _ d, _, h => by
    cases h with
    | exc e1 e2 n r => rw [hx] at e1; cases e1
theorem RepL.toE {g : G0} {p : Addr × Addr} {N : Addr → Prop} (hx : g.ex = none) : ∀ (ds : List D) (vs : List V), RepL g N H vs ds → RepL { g with ex := some p } N H vs ds
  | [], _, h => by cases h; exact .nil
  | d :: ds, _, h => by
    cases h with
    | cons h1 h2 => exact .cons (Rep.toE hx d _ h1) (RepL.toE hx ds _ h2)
end
mutual
theorem Rep.ofE {g : G0} {p : Option (Addr × Addr)} {N : Addr → Prop} : ∀ (d : D) (v : V), noX d = true → Rep { g with ex := p } N H v d → Rep g N H v d
  | .non, _, _, h => by cases h; exact .non
  | .bl _, _, _, h => by cases h; exact .bl _
  | .int _, _, _, h => by cases h; exact .int _
  | .str _, _, _, h => by cases h; exact .str _
  | .lst ds, _, hn, h => by
    cases h with
    | lst e n r => exact .lst e n (RepL.ofE ds _ hn r)
  | .tup ds, _, hn, h => by
    cases h with
    | tup e n r => exact .tup e n (RepL.ofE ds _ hn r)
  | .dct ks ds, _, hn, h => by
    cases h with
    | dct e n r => exact .dct e n (RepL.ofE ds _ hn r)
  | .set _, _, _, h => by
    cases h with
    | set e n r => exact .set e n r
  | .rep d, _, _, h => by cases h; exact .rep d
  | .scr _, _, _, h => by
    cases h with
    | scr e => exact .scr e
  | .deal, _, _, h => by
    cases h with
    | deal e => exact .deal e
  | .exc _ d, _, hn, h => by cases hn
theorem RepL.ofE {g : G0} {p : Option (Addr × Addr)} {N : Addr → Prop} : ∀ (ds : List D) (vs : List V), noXs ds = true → RepL { g with ex := p } N H vs ds → RepL g N H vs ds
  | [], _, _, h => by cases h; exact .nil
  | d :: ds, _, hn, h => by
    have hn := Bool.and_eq_true_iff.mp hn
    cases h with
    | cons h1 h2 => exact .cons (Rep.ofE d _ hn.1 h1) (RepL.ofE ds _ hn.2 h2)
end
theorem EnvR.toE {p : Addr × Addr} (R : EnvR Γ [] H σ env) (hx : Γ.g.ex = none) : EnvR (Γ.wE p) [] H σ env := ⟨R.len, R.cnt, fun i d h n => by
  obtain ⟨v, e, r⟩ := R.val i d h n
  exact ⟨v, e, Rep.toE hx _ _ r⟩, fun i hi => (nomatch hi), fun i hi => (nomatch hi)⟩
/-- e.at in a suite -/
theorem fe_at {a C dx : Addr} {oe : Obj} {pn : List (Addr × Obj)} (hxf : XfC X.K C) (hno : PySem.W.findIn X.K (.ref C) "at" = some none) (hz : Zc (.ref C) (some dx) oe) (hf : ∃ vs, oe.data = .fields vs) (he : FE (X.suite a ((a, oe) :: pn)) (Γ.wE (a, dx)) W O .cl e fe) (hb : attributeBase e "at" X.env (eval e X.env) = eval e X.env := by rfl) :
    FE (X.suite a ((a, oe) :: pn)) (Γ.wE (a, dx)) W O .cl (.Attribute e "at" pos) (fUn qAt fe) :=
  ⟨mono_Un (fun x Q Q' h q => by cases x <;> first | exact q.elim | exact h _ q) he.mono, (pe_xf hxf hno hz hf he.pe hb).imp fun σ H Q ⟨env, st, R, T, q⟩ => ⟨env, st, R, T, he.mono _ _ _ _ _ _ (fun d s z v H1 e1 T1 r1 => by
    cases d <;> first | exact (z : False).elim | skip
    cases r1 with
    | @exc p v' tag d' e1' e2 n r =>
      have ep : p = (a, dx) := by
        have : some (a, dx) = some p := e1'
        injection this with this
        exact this.symm
      subst ep
      exact ⟨rfl, rfl, dx, _, v', rfl, e2, rfl, z v' H1 e1 T1 r⟩) (fun _ _ _ z => z) q⟩⟩
theorem Ctx.tr {W' : WX} (c : Ctx X Γ W k) {pn : List (Addr × Obj)} {xe : Value → Shared → Prop} (tk : Takes (X.tr pn xe) W') : Ctx (X.tr pn xe) Γ W' k := ⟨c.hK, c.hw, c.gd, tk, c.room, c.nd, c.hn, c.ex0⟩
theorem fs_try (i : Nat) {tags : Nat → Bool} {cv : Value} {b₀ : Stmt} {body suite : List Stmt} (c : Ctx X Γ W k) (hnm : Names X x cv) (hT : ∀ tag C, Γ.CT tag = some C → PySem.W.exmOne X.K (.ref C) cv = some (tags tag)) (po : PassesOwn (model X.prog X.w) X.A X.env X.xe)
    (hb : ∀ (W' : WX) (pn : List (Addr × Obj)) (xe : Value → Shared → Prop), Takes (X.tr pn xe) W' → PassesOwn (model X.prog X.w) X.A X.env xe → FB (X.tr pn xe) Γ W' Ob O O' body f)
    (mh : MonoS h) (hsu : ∀ (a C dx : Addr) (tag : Nat) (oe : Obj) (pn : List (Addr × Obj)), Γ.CT tag = some C → Zc (.ref C) (some dx) oe → (∃ vs, oe.data = .fields vs) → FB (X.suite a ((a, oe) :: pn)) (Γ.wE (a, dx)) W0 [] [] [] (b₀ :: suite) h)
    (hi : X.N[i]? = some n := by rfl) (hln : X.env.kindOf n = some .local := by rfl) (hs : X.stack = X.env :: X.outer := by rfl) (hf : X.env.frame = some X.env.locals := by rfl) :
    FSt X Γ W Ob O O' (.Try body [.ExceptHandler (some (.Name x np)) (some n) (b₀ :: suite) pos'] [] [] pos) (sTry f tags i h) := by
  have hex := c.ex0
  have mf : MonoS f := (hb W X.pn X.xe c.tk po).mono
  refine ⟨fun E E' env st l q => mf (tryE E tags i h) (tryE E' tags i h) _ _ ⟨l.nx, l.rt, l.bk, l.ct, fun e t d s z => ?_⟩ q, ?_⟩
  · by_cases ht : tags t = true
    · have z : (if tags t = true then _ else _) := z
      rw [if_pos ht] at z
      show (if tags t = true then _ else _)
      rw [if_pos ht]
      exact mh (sutE E) (sutE E') _ _ ⟨fun _ _ z => z, fun _ _ z => ⟨z.1, l.rt _ _ z.2⟩, fun _ _ z => z, fun _ _ z => z, fun _ _ _ _ z => z⟩ z
    · have z : (if tags t = true then _ else _) := z
      rw [if_neg ht] at z
      show (if tags t = true then _ else _)
      rw [if_neg ht]
      exact l.ex _ _ _ _ z
  · have hu := L2.ps_try_as (n := n) (np := np) (pos' := pos') (pos := pos) (tb := fun W' => liftS Γ W' Ob O O' f) (ts := fun a cls d => fun Dn σ H => ∃ (C dx : Addr) (tag : Nat), cls = .ref C ∧ d = some dx ∧ Γ.CT tag = some C ∧ liftS (Γ.wE (a, dx)) W0 [] [] [] h Dn σ H) (Wout := W) (c := cv) (i := i) (body := body) (suite := suite) (b₀ := b₀) hs hf c.nd hi hln hnm c.tk
      (fun W' pn xe tk po' => (hb W' pn xe tk po').ps) (fun a oe cls d pn hz hfd => ?_)
    · refine hu.imp fun Dn σ H ⟨env, st, E, R, T, L, q⟩ => ?_
      refine ⟨env, st, tryE E tags i h, R, T, ⟨L.nx, L.rt, L.bk, L.ct, ?_⟩, q⟩
      intro env' tag d st' σ' H' C dx v S' R' T' hC hx nb rv z
      unfold tryE at z
      dsimp only at z
      refine ⟨tags tag, hT tag C hC, fun ht a hna => ?_, fun ht => ?_⟩
      · rw [if_pos ht] at z
        refine ⟨C, dx, tag, rfl, rfl, hC, Fy.put env' i (some (.exc tag d)), st', sutE E, ?_, ⟨T'.z, T'.b, T'.sz⟩, ⟨fun _ _ _ _ _ _ _ z => (z : False).elim, fun d2 s2 v2 H2 e2 T2 r2 z2 => ?_, fun _ _ _ _ _ _ _ z => (z : False).elim, fun _ _ _ _ _ _ _ z => (z : False).elim, fun _ _ _ _ _ _ _ _ _ _ _ _ _ _ _ _ z => (z : False).elim⟩, z⟩
        · exact (R'.toE hex).put (nomatch ·) (Rep.exc (p := (a, dx)) rfl hx nb (Rep.toE hex _ _ rv))
        · have Ev2 : Ev (MV Γ [] (σ'.set i (some (.ref a)))) H' H2 := e2
          refine L.rt d2 s2 v2 H2 (S'.evm ?_) ⟨T2.z, T2.b, T2.sz⟩ (Rep.ofE _ _ z2.1 r2) z2.2
          exact Ev2.mono fun b zb => by
            rcases zb with zb | ⟨j, hj, _⟩
            · exact .inl zb
            · cases hj
      · rw [if_neg (by rw [ht]; decide)] at z
        exact L.ex env' tag d st' σ' H' C dx v S' R' T' hC hx nb rv z
    · refine ⟨fun pins s σ H D I ⟨C, dx, tag, e1, e2, hC, q⟩ => ?_⟩
      subst e1 e2
      exact (hsu a C dx tag oe pn hC hz hfd).ps.run pins s σ H D I q
end
end Fy
set_option Elab.async false
set_option linter.all false
set_option maxRecDepth 100000
set_option maxHeartbeats 4000000
/-! FyL: a def of the text keeps the spec that its body is. -/
namespace Fy
open PySem L2

theorem mono_spOf {n k : Nat} {f : FTS} (h : MonoS f) : MonoSp (spOf n k f) := fun ds st Q Q' X X' hq hx z => ⟨z.1, h (ends Q X) (ends Q' X') _ _ ⟨fun _ s z => hq _ s z, hq, fun _ _ z => z, fun _ _ z => z, fun _ t d s z => hx t d s z⟩ z.2⟩
abbrev cxD (P : Program) (w : World) (K : PySem.W.Frag) (mg : Str → Option Value) (base : Heap) (N : List Str) (x : Str) (st : Stmt) (f : Addr) (cd : Value) (A : Around) (outer : List PySem.Env) (s : Shared) (H : Hp) (E : XK) : Cx :=
  cxOf (L2.CX P w) P w K mg base N x (defScope st) f cd A outer s H E
abbrev wOf (E : XK) : WX := fun c d _ H => E c d H
theorem start_len {N ps : List Str} {vs : List V} (hl : vs.length = ps.length) (hp : ps.length ≤ N.length) : (L2.start N vs).length = N.length := by
  unfold L2.start
  rw [List.length_append, List.length_map, List.length_replicate]
  omega
theorem look_start {ds : List D} {k i : Nat} {d : D} (h : look (Fy.start ds k) i = some d) : ds[i]? = some d := by
  have key : ∀ (ds : List D) (i : Nat), look (ds.map some ++ List.replicate k none) i = some d → ds[i]? = some d := by
    intro ds
    induction ds with
    | nil =>
      intro i h
      exfalso
      have : ∀ (k i : Nat), look (List.replicate k none) i = (none : Option D) := by
        intro k
        induction k with
        | zero => intro i; rfl
        | succ k ih =>
          intro i
          cases i with
          | zero => rfl
          | succ i => exact ih i
      have h' : look (List.replicate k none) i = some d := h
      rw [this] at h'
      cases h'
    | cons x r ih =>
      intro i h
      cases i with
      | zero => simpa [look] using h
      | succ i => exact ih i h
  exact key ds i h
theorem envR_start {Γ : G} {H : Hp} {N ps : List Str} {vs : List V} {ds : List D} (hn : Γ.n = N.length) (hl : vs.length = ps.length) (hp : ps.length ≤ N.length) (r : RepL Γ.g Γ.B H vs ds) : EnvR Γ [] H (L2.start N vs) (Fy.start ds (N.length - ps.length)) := by
  have hd : ds.length = vs.length := r.length.symm
  have hl1 := start_len hl hp
  refine ⟨?_, by rw [hl1, hn], fun i d h _ => ?_, fun i hi => (nomatch hi), fun i hi => (nomatch hi)⟩
  · rw [hl1]
    unfold Fy.start
    rw [List.length_append, List.length_map, List.length_replicate]
    omega
  · obtain ⟨v, hv, rv⟩ := r.get (look_start h)
    have hi : i < vs.length := (List.getElem?_eq_some_iff.mp hv).1
    refine ⟨v, ?_, rv.nn fun b z => ?_⟩
    · unfold L2.start
      rw [List.getElem?_append_left (by rw [List.length_map]; exact hi), List.getElem?_map, hv]
      rfl
    · rcases z with z | ⟨_, hi, _⟩
      · exact z
      · cases hi
section
variable {P : Program} {w : World} {K : PySem.W.Frag} {mg : Str → Option Value} {base : Heap} {CT : Nat → Option Addr} {x : Str} {st : Stmt} {N ps : List Str} {f : FTS} {k : Nat}
/-- what a def's body may lean on -/
structure In (X : Cx) (Γ : G) (W : WX) (CT : Nat → Option Addr) (k : Nat) : Prop where
  c : Ctx X Γ W k
  po : PassesOwn (model X.prog X.w) X.A X.env X.xe
  ct : Γ.CT = CT
theorem guards_deeper {A : Around} {env : PySem.Env} (h : A.guards = some []) : (A.deeper env).guards = some [] := h
theorem fn_gen {f0 : Addr} {fd : FuncData} {sp : Sp} (Fu : Fun K x x st f0 fd) (S : FnScope N ps (defScope st)) (len : ∀ vs H Q E, sp vs H Q E → vs.length = ps.length)
    (hb : ∀ (A : Around) (outer : List PySem.Env) (s : Shared) (H : Hp) (vs : List V) (Q : VK) (E : XK) (cd : Value), A.guards = some [] → Room k (A.deeper (PyProof.Rows.envOfC x (defScope st) s.heap.objs.size f0 cd)) → sp vs H Q E →
      ∃ t, PSs (cxD P w K mg base N x st f0 cd A outer s H E) (defBody st) t ∧ t { nx := fun _ H' => Q .non H', rt := Q } (L2.start N vs) H) : FnG P w K mg base (k + 1) f0 fd ps sp := by
  refine ⟨len, fun A outer s H args us vs Q E hg hr e0 hbd r hsp => ?_⟩
  obtain ⟨oc, od, kV, doc, pm, an, cdv, ct, osl, rfl, lk, hcd⟩ := Fu.ex
  have inK : K.In s.heap := e0.mod.kin.keeps fun b o e => (e0.bs b o e).1
  have kinds : ∀ y ∈ ps.zip us, (defScope st).names.lookup y.1 = some .local ∨ ((defScope st).names.lookup y.1 = some .cell ∧ ((cellsFrom (s.heap.objs.size + 1) (defScope st).names []).lookup y.1).isSome = true) := fun y hy => by
    rcases S.par y.1 (List.of_mem_zip (show (y.1, y.2) ∈ ps.zip us from hy)).1 with q | q
    · exact .inl q
    · exact .inr ⟨q, PySem.W.cellsFrom_some _ _ _ (.inl q)⟩
  refine codeAny_call_function hr.depth (inK _ _ lk) rfl S.co S.gen rfl (PySem.W.codeRec_of inK hcd) (hbd _ _ _ _ (wpAny_newFunctionEnv_cells S.kind kinds fun env he s1 x1 => ?_))
  subst he
  refine ⟨(e0.mod.nolimit.keeps fun b o e => (e0.bs b o e).1).keeps x1.toInCall.keep, codeAny_func ?_⟩
  have I := inv_start (CX := L2.CX P w) (E := E) S hr.hd e0 (len _ _ _ _ hsp) r x1
  obtain ⟨t, ht, hq⟩ := hb A outer s H vs Q E cdv hg (hr.deeper _) hsp
  refine wpAny_mono (ht.run [] s1 (L2.start N vs) H _ I hq) (fun fl s' hs => ?_) fun _ _ y => y
  cases fl with
  | ret u =>
    obtain ⟨v, σ', H', J, rv, q⟩ := hs
    exact ⟨v, H', J.os, J.bare, J.base, J.hok, rv, q⟩
  | next =>
    obtain ⟨σ', H', J, q⟩ := hs
    exact ⟨.non, H', J.os, J.bare, J.base, J.hok, rfl, q⟩
  | brk =>
    obtain ⟨_, _, _, q⟩ := hs
    exact (q : False).elim
  | cont =>
    obtain ⟨_, _, _, q⟩ := hs
    exact (q : False).elim
theorem pre_le (S : FnScope N ps (defScope st)) : ps.length ≤ N.length := by
  have q := congrArg List.length S.pre
  rw [List.length_take] at q
  omega
/-- the context of a body, and its two premises -/
theorem in_of {f0 : Addr} {A : Around} {outer : List PySem.Env} {s : Shared} {H : Hp} {E : XK} {cd : Value} {Γ : G} (S : FnScope N ps (defScope st)) (hg : A.guards = some []) (hr : Room k (A.deeper (PyProof.Rows.envOfC x (defScope st) s.heap.objs.size f0 cd))) (gK : Γ.g.K = K) (gw : Γ.g.w = w) (gx : Γ.g.ex = none) (gC : Γ.CT = CT) (gn : Γ.n = N.length) :
    In (cxD P w K mg base N x st f0 cd A outer s H E) Γ (wOf E) CT k :=
  ⟨⟨gK, gw, hg, takes_of (X := cxD P w K mg base N x st f0 cd A outer s H E) (E := E) rfl rfl rfl rfl, hr, S.nd, gn, gx⟩, passes_of (X := cxD P w K mg base N x st f0 cd A outer s H E) rfl, gC⟩
/-- the ends of a call -/
theorem lk_def {Γ Γ' : G} {Q : VK} {E : XK} {H : Hp} {σ : L2.St} {Qd : KD} {Xd : XC} (eB : Γ'.B = Γ.B) (eg : Γ'.g = Γ.g) (eC : Γ'.CT = Γ.CT)
    (h1 : ∀ d st' v H', Ev (Zone Γ.g) H H' → ST Γ H' st' → Rep Γ.g Γ.B H' v d → Qd d st' → Q v H')
    (h2 : ∀ tag d st' C dx v H', Γ.CT tag = some C → Ev (Zone Γ.g) H H' → ST Γ H' st' → H' dx = some (.xd [(("at" : Str), v)]) → ¬ Γ.B dx → Rep Γ.g Γ.B H' v d → Xd tag d st' → E (.ref C) (some dx) H') :
    Lk Γ' (wOf E) [] σ H [] [] (ends Qd Xd) { nx := fun _ H' => Q .non H', rt := Q } := by
  obtain ⟨g, B, zb, C0, n⟩ := Γ
  obtain ⟨g', B', zb', C0', n'⟩ := Γ'
  dsimp only at eB eg eC
  subst eB eg eC
  have evz : ∀ {H' : Hp}, Ev (MV { g := g', B := B', zb := zb', CT := C0', n := n' } [] σ) H H' → Ev (Zone g') H H' := fun e => e.mono fun b z => z.elim id fun ⟨_, hi, _⟩ => (nomatch hi)
  refine ⟨fun env' st' σ' H' a R' T' q => ?_, fun d st' v H' e T' r' q => ?_, fun _ _ _ _ _ _ _ q => (q : False).elim, fun _ _ _ _ _ _ _ q => (q : False).elim, fun env' tag d st' σ' H' C dx v a R' T' hC hx nb r' q => ?_⟩
  · exact h1 .non st' .non H' (evz ⟨a.k, a.t⟩) ⟨T'.z, T'.b, T'.sz⟩ .non q
  · exact h1 d st' v H' (evz e) ⟨T'.z, T'.b, T'.sz⟩ r' q
  · exact h2 tag d st' C dx v H' hC (evz ⟨a.k, a.t⟩) ⟨T'.z, T'.b, T'.sz⟩ hx (fun z => nb (.inl z)) (r'.nn fun b z => .inl z) q
theorem fn_g {f0 : Addr} {fd : FuncData} (Fu : Fun K x x st f0 fd) (S : FnScope N ps (defScope st))
    (hb : ∀ (A : Around) (outer : List PySem.Env) (s : Shared) (H : Hp) (E : XK) (cd : Value) (Γ : G), In (cxD P w K mg base N x st f0 cd A outer s H E) Γ (wOf E) CT k → FB (cxD P w K mg base N x st f0 cd A outer s H E) Γ (wOf E) [] [] [] (defBody st) f) :
    FnG P w K mg base (k + 1) f0 fd ps (liftSp K w CT ps.length (spOf ps.length (N.length - ps.length) f)) := by
  refine fn_gen Fu S (fun vs H Q E h => h.1) fun A outer s H vs Q E cd hg hr hsp => ?_
  obtain ⟨hl, Γ, ds, s0, gK, gw, gx, gC, T, rl, z⟩ := hsp
  have B := hb A outer s H E cd { Γ with n := N.length } (in_of S hg hr gK gw gx gC rfl)
  refine ⟨_, B.ps, _, s0, ends _ _, envR_start rfl hl (pre_le S) rl, ⟨T.z, T.b, T.sz⟩, lk_def (Γ := Γ) rfl rfl rfl (fun d st' v H' e T' r' q => q v H' e T' r') (fun tag d st' C dx v H' hC e T' hx nb r' q => q C dx v H' (by rw [← gC]; exact hC) e T' hx nb r'), z.2⟩
theorem def_of {f0 : Addr} {fd : FuncData} (hm : mg x = some (.ref f0)) (Fu : Fun K x x st f0 fd) (S : FnScope N ps (defScope st)) (mf : MonoS f)
    (hb : ∀ (A : Around) (outer : List PySem.Env) (s : Shared) (H : Hp) (E : XK) (cd : Value) (Γ : G), In (cxD P w K mg base N x st f0 cd A outer s H E) Γ (wOf E) CT k → FB (cxD P w K mg base N x st f0 cd A outer s H E) Γ (wOf E) [] [] [] (defBody st) f) :
    Def P w K mg base CT x st ps (k + 1) (spOf ps.length (N.length - ps.length) f) := ⟨mono_spOf mf, f0, fd, hm, Fu, fn_g Fu S hb⟩
end
end Fy
set_option Elab.async false
set_option linter.all false
set_option maxRecDepth 100000
set_option maxHeartbeats 4000000
/-! FyM: the draws (_law_any), read over the heap itself. -/
namespace Fy
open PySem L2

/-- the draws' source behind the heap H0 -/
structure DS (H0 : Hp) (dl d0 : Addr) (H : Hp) (cells : List Int) (blend : Int) : Prop where
  l : H dl = some (.lst [.ref d0, .int blend])
  c : H d0 = some (.lst (cells.map V.int))
  k : ∀ b o, H0 b = some o → b ≠ dl → b ≠ d0 → H b = some o
  t : ∀ b, H b = none → H0 b = none
  ne : dl ≠ d0
section
variable {H0 H : Hp} {dl d0 : Addr} {cells cells' : List Int} {blend blend' : Int}
theorem DS.new {p : Addr} {o : HO} (h : DS H0 dl d0 H cells blend) (hp : H p = none) : DS H0 dl d0 (upd H p o) cells blend where
  l := by rw [upd_ne (ne_of_none h.l hp)]; exact h.l
  c := by rw [upd_ne (ne_of_none h.c hp)]; exact h.c
  k := fun b u e n1 n2 => by
    have := h.k b u e n1 n2
    rw [upd_ne (ne_of_none this hp)]; exact this
  t := fun b e => h.t b (by
    by_cases hb : b = p
    · rw [hb]; exact hp
    · rw [upd_ne hb] at e; exact e)
  ne := h.ne
theorem DS.setC (h : DS H0 dl d0 H cells blend) : DS H0 dl d0 (upd H d0 (.lst (cells'.map V.int))) cells' blend where
  l := by rw [upd_ne h.ne]; exact h.l
  c := upd_same
  k := fun b u e n1 n2 => by rw [upd_ne n2]; exact h.k b u e n1 n2
  t := fun b e => by
    by_cases hb : b = d0
    · rw [hb, upd_same] at e; cases e
    · rw [upd_ne hb] at e; exact h.t b e
  ne := h.ne
theorem DS.setB (h : DS H0 dl d0 H cells blend) : DS H0 dl d0 (upd H dl (.lst [.ref d0, .int blend'])) cells blend' where
  l := upd_same
  c := by rw [upd_ne (Ne.symm h.ne)]; exact h.c
  k := fun b u e n1 n2 => by rw [upd_ne n1]; exact h.k b u e n1 n2
  t := fun b e => by
    by_cases hb : b = dl
    · rw [hb, upd_same] at e; cases e
    · rw [upd_ne hb] at e; exact h.t b e
  ne := h.ne
theorem ite_t {a b : Prop} (h : a) : (if true = true then a else b) := h
theorem ite_f {a b : Prop} (h : b) : (if false = true then a else b) := h
def Γ0 (K : PySem.W.Frag) (w : World) : G := { g := { K := K, w := w, dz := none, ex := none }, B := fun _ => False, zb := (fun a ⟨p, h, _⟩ => nomatch h), CT := fun _ => none, n := 0 }
theorem nok0 : NOk (fun _ => False) H := fun _ h => h.elim
theorem ix_l {K : PySem.W.Frag} {a : Addr} {vs : List V} {i : Int} {v : V} {Q : VK} (ha : H a = some (.lst vs)) (h : atI vs i = some v) (q : Q v H) : rIxF K (.ref a) (.int i) H Q := .inl ⟨a, vs, i, v, rfl, rfl, SqL.of ha, h, q⟩
theorem ok_ints (l : List Int) : ok (.lst (l.map D.int)) = true := by
  show (l.map D.int).all (okN 59) = true
  rw [List.all_eq_true]
  intro x hx
  obtain ⟨i, _, rfl⟩ := List.mem_map.mp hx
  rfl
theorem DS.ext {H' : Hp} (h : DS H0 dl d0 H cells blend) (e : Ext H H') : DS H0 dl d0 H' cells blend := ⟨e.at h.l, e.at h.c, fun b o q n1 n2 => e.at (h.k b o q n1 n2), fun b q => h.t b (e.t b q), h.ne⟩
theorem ne_nil {K : PySem.W.Frag} {w : World} {a p : Addr} {Q : VK} (ha : H a = some (.lst (cells.map V.int))) (hp : H p = some (.lst [])) (q : ∀ H', Ext H H' → Q (.bl (decide (cells ≠ []))) H') : rNeF K (.ref a) (.ref p) H Q := by
  refine ok_ne (Γ := Γ0 K w) (fun _ => False) H (.ref a) (.ref p) (.lst (cells.map D.int)) (.lst []) (fun d => d = .bl (decide (cells ≠ []))) Q nok0 (.inl (.lst ha id (RepL.ofInts _))) (.inl (.lst hp id .nil)) ⟨ok_ints _, rfl, ?_⟩ fun v H' d e r hd => ?_
  · cases cells <;> rfl
  · subst hd
    cases r
    exact q H' e
theorem eq_int {K : PySem.W.Frag} {w : World} {i j : Int} {Q : VK} (q : ∀ H', Ext H H' → Q (.bl (decide (i = j))) H') : rEqF K (.int i) (.int j) H Q := by
  refine ok_eq (Γ := Γ0 K w) (fun _ => False) H (.int i) (.int j) (.int i) (.int j) (fun d => d = .bl (decide (i = j))) Q nok0 (.inl (.int _)) (.inl (.int _)) ⟨rfl, rfl, ?_⟩ fun v H' d e r hd => ?_
  · show D.bl (i == j) = _
    congr 1
  · subst hd
    cases r
    exact q H' e
theorem atI_0 {x : V} {r : List V} : atI (x :: r) 0 = some x := by simp [atI, ixN]
theorem atI_1 {x y : V} {r : List V} : atI (x :: y :: r) 1 = some y := by
  unfold atI ixN
  have : (1 : Int) < ((x :: y :: r).length : Nat) := by simp; omega
  rw [if_pos (by decide), if_pos this]
  rfl
theorem atI_last {l : List V} {x : V} : atI (l ++ [x]) (-1) = some x := by
  unfold atI ixN
  rw [if_neg (by decide), if_pos (by simp; omega)]
  have : ((-1 : Int) + ((l ++ [x]).length : Nat)).toNat = l.length := by simp; omega
  rw [this]
  simp
abbrev tAt (K : PySem.W.Frag) (i : Int) : TE := tOp (rIxF K) (tVar 0) (tC (.int i))
abbrev rInt : List V → Hp → VK → Prop := fun xs H Q => (∃ i, xs = [.int i] ∧ Q (.int i) H) ∨ ∃ k, xs = [.bl k] ∧ Q (.int (if k then 1 else 0)) H
abbrev rModI : R2 := rI (fun _ j => 0 < j) fun i j => .int (i % j)
abbrev rDivI : R2 := rI CDivW fun i j => .int (i / j)
abbrev tFull (K : PySem.W.Frag) : TT := tTest (tOp (rNeF K) (tAt K 0) (tLst tNil))
abbrev tZero (K : PySem.W.Frag) : TT := tTest (tOp (rEqF K) (tOp (rIxF K) (tAt K 0) (tUn (rU fun i => .int (-i)) (tC (.int 1)))) (tC (.int 0)))
/-- the reading of _law_any's body -/
abbrev tAny2 (K : PySem.W.Frag) : TS :=
  tSeq (tIfS (tFull K)
    (tSeq (tAsg (tCB rInt (tCons (tBM0 K "list" rPop (tAt K 0)) tNil)) (gName 2)) (tSeq (tDrop (tBM K "list" rAppend (tAt K 0) (tCons (tOp rDivI (tVar 2) (tVar 1)) tNil))) (tRet (tOp rModI (tVar 2) (tVar 1)))))
    tNext)
  (tSeq (tAsg (tOp rModI (tCB rInt (tCons (tOp (rI0 fun i j => .int (i + j)) (tOp (rI MulOk fun i j => .int (i * j)) (tAt K 1) (tC (.int 40693))) (tC (.int 71))) tNil)) (tC (.int 2147483647))) (gSub (tVar 0) (tC (.int 1)) rSetL))
  (tRet (tOp rModI (tCB rInt (tCons (tOp rDivI (tAt K 1) (tC (.int 64))) tNil)) (tVar 1))))
abbrev tAny (K : PySem.W.Frag) : TS := tSeq (tWhile (L2.tAnd (tFull K) (tZero K)) (tDrop (tBM0 K "list" rPop (tAt K 0)))) (tAny2 K)
section
variable {K : PySem.W.Frag} {w : World} {σ : L2.St} {Q : VK} {r : Option V} {b : Int}
theorem at0 (h : DS H0 dl d0 H cells blend) (q : Q (.ref d0) H) : tAt K 0 (some (.ref dl) :: σ) H Q := ⟨_, rfl, ix_l h.l atI_0 q⟩
theorem at1 (h : DS H0 dl d0 H cells blend) (q : Q (.int blend) H) : tAt K 1 (some (.ref dl) :: σ) H Q := ⟨_, rfl, ix_l h.l atI_1 q⟩
theorem full (w : World) (h : DS H0 dl d0 H cells blend) {Q : Bool → Hp → Prop} (q : ∀ H', DS H0 dl d0 H' cells blend → Q (decide (cells ≠ [])) H') : tFull K (some (.ref dl) :: σ) H Q := by
  refine at0 h ⟨by show 0 ≤ sizeLine; exact Nat.zero_le _, fun p hp => ?_⟩
  have h2 := h.new (o := .lst []) hp
  exact ne_nil (w := w) h2.c upd_same fun H' e => ⟨_, rfl, q H' (h2.ext e)⟩
theorem pop0 {x : Int} (h : DS H0 dl d0 H (cells ++ [x]) blend) (q : ∀ H', DS H0 dl d0 H' cells blend → Q (.int x) H') : tBM0 K "list" rPop (tAt K 0) (some (.ref dl) :: σ) H Q := by
  refine at0 h ⟨.inl ⟨rfl, _, SqL.of h.c⟩, d0, _, .int x, rfl, rfl, h.c, by simp, ?_⟩
  have e : ((cells ++ [x]).map V.int).dropLast = cells.map V.int := by simp
  rw [e]
  exact q _ h.setC
theorem div_w {i j : Int} (h : 0 < j ∧ j.natAbs.log2 < 9000) (q : Q (.int (i / j)) H) : rDivI (.int i) (.int j) H Q := ⟨_, _, rfl, rfl, h, q⟩
theorem any_reads (w : World) {D : L2.Ends} (h : DS H0 dl d0 H cells blend) (hb : 0 < b) (hb2 : b.natAbs.log2 < 9000) (hz : cells.length ≤ 1000) (q : ∀ x H' cells' blend', 0 ≤ x → x < b → cells'.length ≤ 1000 → DS H0 dl d0 H' cells' blend' → D.rt (.int x) H') : tAny K D [some (.ref dl), some (.int b), r] H := by
  refine ⟨fun m σ H => σ = [some (.ref dl), some (.int b), r] ∧ ∃ cells, m = cells.length ∧ cells.length ≤ 1000 ∧ DS H0 dl d0 H cells blend, ⟨_, rfl, cells, rfl, hz, h⟩, ?_⟩
  rintro m σ H ⟨rfl, cells, rfl, hz, h⟩
  refine full w h fun H1 h1 => ?_
  -- what comes behind the loop
  have rest : ∀ {cells : List Int} {H : Hp}, cells.length ≤ 1000 → DS H0 dl d0 H cells blend → tAny2 K D [some (.ref dl), some (.int b), r] H := by
    intro cells H hz h
    refine full w h fun H1 h1 => ?_
    rcases List.eq_nil_or_concat cells with rfl | ⟨cs, x, rfl⟩
    · rw [decide_eq_false (by simp)]
      refine ite_f ?_
      refine at1 h1 ⟨_, _, rfl, rfl, .inr (.inl (by decide)), _, _, rfl, rfl, .inl ⟨_, rfl, _, _, rfl, rfl, by show (0 : Int) < 2147483647; decide, _, rfl, dl, _, 1, 1, rfl, rfl, h1.l, rfl, ?_⟩⟩
      have h2 := h1.setB (blend' := (blend * 40693 + 71) % 2147483647)
      refine at1 h2 ⟨_, _, rfl, rfl, ⟨by decide, by decide +kernel⟩, .inl ⟨_, rfl, _, rfl, _, _, rfl, rfl, hb, ?_⟩⟩
      exact q _ _ _ _ (Int.emod_nonneg _ (by omega)) (Int.emod_lt_of_pos _ hb) hz h2
    · rw [decide_eq_true (by simp)]
      refine ite_t ?_
      rw [List.concat_eq_append] at h1
      refine pop0 h1 fun H2 h2 => .inl ⟨x, rfl, ?_⟩
      refine at0 h2 ⟨.inl ⟨rfl, _, SqL.of h2.c⟩, ⟨_, rfl, _, rfl, _, _, rfl, rfl, ⟨hb, hb2⟩, d0, _, _, rfl, rfl, h2.c, ?_, _, rfl, _, rfl, _, _, rfl, rfl, hb, ?_⟩⟩
      · rw [← cap_line]; simp at hz ⊢; show _ < 16777216; omega
      · have h3 := h2.setC (cells' := cs ++ [x / b])
        rw [List.map_append] at h3
        exact q _ _ _ _ (Int.emod_nonneg _ (by omega)) (Int.emod_lt_of_pos _ hb) (by simp at hz ⊢; omega) h3
  rcases List.eq_nil_or_concat cells with rfl | ⟨cs, x, rfl⟩
  · rw [decide_eq_false (by simp)]
    refine ite_f ?_
    exact rest hz h1
  · rw [decide_eq_true (by simp)]
    refine ite_t ?_
    rw [List.concat_eq_append] at h1 hz ⊢
    refine at0 h1 ⟨_, rfl, ix_l h1.c (v := .int x) ?_ (eq_int (w := w) fun H2 e2 => ⟨_, rfl, ?_⟩)⟩
    · rw [List.map_append]
      exact atI_last
    · have h2 := h1.ext e2
      by_cases hx : x = 0
      · rw [decide_eq_true hx]
        refine ite_t ?_
        refine ⟨fun σ H => σ = [some (.ref dl), some (.int b), r] ∧ ∃ cells, cells.length < (cs ++ [x]).length ∧ DS H0 dl d0 H cells blend, fun σ' H' ⟨e, cells, l, h'⟩ => ⟨cells.length, l, e, cells, rfl, by omega, h'⟩, ?_⟩
        exact pop0 h2 fun H3 h3 => ⟨rfl, cs, by simp, h3⟩
      · rw [decide_eq_false hx]
        refine ite_f ?_
        exact rest hz h2
end
end
theorem mono_spAny : MonoSp spAny := fun ds st Q Q' X X' h _ z => by
  cases z with
  | mk z0 z1 z2 => exact .mk z0 z1 fun x s h0 h1 => h _ _ (z2 x s h0 h1)
section
variable {P : Program} {w : World} {K : PySem.W.Frag} {mg : Str → Option Value} {base : Heap} {CT : Nat → Option Addr} {st : Stmt} {k : Nat}
abbrev anyN : List Str := ["_law_deal", "_law_bound", "_law_rest"]
abbrev anyP : List Str := ["_law_deal", "_law_bound"]
theorem def_any {f0 : Addr} {fd : FuncData} (hm : mg "_law_any" = some (.ref f0)) (Fu : Fun K "_law_any" "_law_any" st f0 fd) (S : FnScope anyN anyP (defScope st))
    (hb : ∀ (A : Around) (outer : List PySem.Env) (s : Shared) (H : Hp) (E : XK) (cd : Value), A.units + 100 < cLine → PassesOwn (model P w) (A.deeper (PyProof.Rows.envOfC "_law_any" (defScope st) s.heap.objs.size f0 cd)) (PyProof.Rows.envOfC "_law_any" (defScope st) s.heap.objs.size f0 cd) (cxD P w K mg base anyN "_law_any" st f0 cd A outer s H E).xe →
      PSs (cxD P w K mg base anyN "_law_any" st f0 cd A outer s H E) (defBody st) (tAny K)) : Def P w K mg base CT "_law_any" st anyP 1 spAny := by
  refine ⟨mono_spAny, f0, fd, hm, Fu, fn_gen (k := 0) Fu S (fun vs H Q E h => h.1) fun A outer s H vs Q E cd hg hr hsp => ?_⟩
  obtain ⟨hl, Γ, ds, s0, gK, gw, gx, gC, T, rl, z⟩ := hsp
  refine ⟨_, hb A outer s H E cd (by have := hr.un; have e : (A.deeper (PyProof.Rows.envOfC "_law_any" (defScope st) s.heap.objs.size f0 cd)).units = A.units + 3 := rfl; omega) (passes_of (X := cxD P w K mg base anyN "_law_any" st f0 cd A outer s H E) rfl), ?_⟩
  cases z with
  | @mk b _ _ y0 y1 y2 =>
    cases rl with
    | cons r1 r2 =>
      cases r2 with
      | cons r2 r3 =>
        cases r3
        cases r2
        cases r1 with
        | @deal p e =>
          obtain ⟨z0, z1, z2⟩ := T.z p e
          have h0 : DS H p.1 p.2 H s0.cells s0.blend := ⟨z1, z2, fun _ _ h _ _ => h, fun _ h => h, z0⟩
          refine any_reads w h0 y0 y1 T.sz fun x H' c' b' hx0 hx1 hz h' => y2 x ⟨c', b'⟩ hx0 hx1 _ H' ⟨fun c o hc nz => h'.k c o hc (fun e' => nz ⟨p, e, .inl e'⟩) (fun e' => nz ⟨p, e, .inr e'⟩), h'.t⟩ ⟨fun p' e' => ?_, fun c hc q => T.b c hc (h'.t c q), hz⟩ (.int _)
          rw [e] at e'
          injection e' with e'
          subst e'
          exact ⟨z0, h'.l, h'.c⟩
end
end Fy
set_option Elab.async false
set_option linter.all false
set_option maxRecDepth 100000
set_option maxHeartbeats 4000000
/-! FyN: the law itself. -/
namespace Fy
open PySem L2 PySem.Spec PyProof.Rows

def spLaw (K : PySem.W.Frag) (L : List Int → Prop) : Sp := fun vs H Q _ => ∃ (a : Addr) (ns : List Int), vs = [.ref a] ∧ Only H ∧ SqL K H a (ns.map V.int) ∧ L ns ∧ ∀ H', Q (.bl true) H'
/-- the same place behind the first row -/
def zG (Γ : G) (p : Addr × Addr) : G0 := { Γ.g with dz := some p }
theorem zG_in {Γ : G} {p : Addr × Addr} (a : Addr) (h : Zone (zG Γ p) a) : a = p.1 ∨ a = p.2 := by
  obtain ⟨q, h, e⟩ := h
  have h' : some p = some q := h
  injection h' with h'
  rw [h']
  exact e
def G.wZ (Γ : G) (p : Addr × Addr) : G := { g := zG Γ p, B := fun b => b = p.1 ∨ b = p.2, zb := zG_in, CT := Γ.CT, n := Γ.n }
theorem scr_of {K : PySem.W.Frag} {N : Addr → Prop} {H : Hp} {a : Addr} {ns : List Int} (hO : Only H) (h : SqL K H a (ns.map V.int)) (hN : ∀ b, N b → False) : ScrAt K N H a ns := by
  rcases h with (h | ⟨o, h⟩) | h
  · rcases hO a with z | ⟨o, xs, z⟩ <;> rw [h] at z <;> cases z
  · exact .inl ⟨o, h, hN a⟩
  · exact .inr fun H' => .inr h
section
variable {P : Program} {w : World} {K : PySem.W.Frag} {mg : Str → Option Value} {base : Heap} {CT : Nat → Option Addr} {x p0 : Str} {st : Stmt} {N : List Str} {f g : FTS} {k i : Nat} {s1 : Stmt} {rest : List Stmt}
theorem fn_law {f0 : Addr} {fd : FuncData} (Fu : Fun K x x st f0 fd) (S : FnScope N [p0] (defScope st)) (hs : defBody st = s1 :: rest) (hi : i < N.length)
    (h1 : ∀ (A : Around) (outer : List PySem.Env) (s : Shared) (H : Hp) (E : XK) (cd : Value) (Γ : G), In (cxD P w K mg base N x st f0 cd A outer s H E) Γ (wOf E) CT k → FSt (cxD P w K mg base N x st f0 cd A outer s H E) Γ (wOf E) [] [] [] s1 f)
    (h2 : ∀ (A : Around) (outer : List PySem.Env) (s : Shared) (H : Hp) (E : XK) (cd : Value) (Γ : G), In (cxD P w K mg base N x st f0 cd A outer s H E) Γ (wOf E) CT k → FB (cxD P w K mg base N x st f0 cd A outer s H E) Γ (wOf E) [] [] [] rest g) :
    FnG P w K mg base (k + 1) f0 fd [p0] (spLaw K (lawF (N.length - 1) i f g)) := by
  refine fn_gen Fu S (fun vs H Q E ⟨a, ns, e, _⟩ => by rw [e]; rfl) fun A outer s H vs Q E cd hg hr hsp => ?_
  obtain ⟨a, ns, rfl, hO, hS, hL, hQ⟩ := hsp
  let Γ1 : G := { g := { K := K, w := w, dz := none, ex := none }, B := fun _ => False, zb := (fun a ⟨p, h, _⟩ => nomatch h), CT := CT, n := N.length }
  have i1 : In (cxD P w K mg base N x st f0 cd A outer s H E) Γ1 (wOf E) CT k := in_of S hg hr rfl rfl rfl rfl rfl
  have B1 := h1 A outer s H E cd Γ1 i1
  have i2 : ∀ p : Addr × Addr, In (cxD P w K mg base N x st f0 cd A outer s H E) (Γ1.wZ p) (wOf E) CT k := fun p => in_of S hg hr rfl rfl rfl rfl rfl
  have B2 : PSs (cxD P w K mg base N x st f0 cd A outer s H E) rest (fun D σ H' => ∃ p : Addr × Addr, liftS (Γ1.wZ p) (wOf E) [] [] [] g D σ H') := ⟨fun pins s' σ H' D I ⟨p, q⟩ => (h2 A outer s H E cd (Γ1.wZ p) (i2 p)).ps.run pins s' σ H' D I q⟩
  have hp1 := pre_le S
  have r0 : RepL Γ1.g Γ1.B H [V.ref a] [.scr ns] := .cons (.scr (scr_of hO hS fun _ z => z)) .nil
  have R0 : EnvR Γ1 [] H (L2.start N [V.ref a]) (Fy.start [.scr ns] (N.length - 1)) := envR_start (ps := [p0]) rfl rfl hp1 r0
  have T0 : ST Γ1 H ⟨[], 0⟩ := ⟨fun p e => (nomatch e), fun _ z => z.elim, Nat.zero_le _⟩
  rw [hs]
  refine ⟨_, pss_cons B1.ps B2, _, _, drawE i g, R0, T0, ⟨fun env' st' σ' H' a' R' T' q => ?_, fun _ _ _ _ _ _ _ q => (q : False).elim, fun _ _ _ _ _ _ _ q => (q : False).elim, fun _ _ _ _ _ _ _ q => (q : False).elim, fun _ _ _ _ _ _ _ _ _ _ _ _ _ _ _ _ q => (q : False).elim⟩, hL⟩
  obtain ⟨cells, blend, hl, hz, ho, hg2⟩ := q
  obtain ⟨v, ev, rv⟩ := R'.val i _ hl (nomatch ·)
  cases rv with
  | @lst dl vs _ hdl ndl rl =>
    cases rl with
    | cons r1 r2 =>
      cases r2 with
      | cons r2 r3 =>
        cases r3
        cases r2
        cases r1 with
        | @lst d0 us _ hd0 nd0 ru =>
          have hus : us = cells.map V.int := by
            have key : ∀ (l : List Int) (us : List V), RepL Γ1.g (NN Γ1 [] σ') H' us (l.map D.int) → us = l.map V.int := by
              intro l
              induction l with
              | nil => intro us h; cases h; rfl
              | cons z r ih =>
                intro us h
                cases h with
                | cons h1 h2 =>
                  cases h1
                  rw [ih _ h2]
                  rfl
            exact key _ _ ru
          subst hus
          have hne : dl ≠ d0 := fun e => by
            subst e
            rw [hdl] at hd0
            injection hd0 with hd0
            injection hd0 with hd0
            cases cells with
            | nil => cases hd0
            | cons c r => injection hd0 with h1 h2; cases h1
          have hin : i < env'.length := look_lt hl
          refine ⟨(dl, d0), Fy.put env' i (some .deal), ⟨cells, blend⟩, lawE, ⟨by rw [put_length]; exact R'.len, R'.cnt, fun j d hj hn => ?_, fun _ h => (nomatch h), fun _ h => (nomatch h)⟩, ⟨fun p e => ?_, fun b zb hb => ?_, hz⟩, ⟨fun _ _ _ _ _ _ _ q => (q : False).elim, fun d st2 v2 H2 e T2 r2 q => ?_, fun _ _ _ _ _ _ _ q => (q : False).elim, fun _ _ _ _ _ _ _ q => (q : False).elim, fun _ _ _ _ _ _ _ _ _ _ _ _ _ _ _ _ q => (q : False).elim⟩, hg2 _⟩
          · by_cases hji : j = i
            · subst hji
              rw [look_put_same hin] at hj
              injection hj with hj
              subst hj
              exact ⟨.ref dl, ev, .deal (p := (dl, d0)) rfl⟩
            · rw [look_put_ne (Ne.symm hji)] at hj
              obtain ⟨ms, rfl⟩ := ho j d hji hj
              obtain ⟨u, eu, ru2⟩ := R'.val j _ hj (nomatch ·)
              cases ru2 with
              | @scr c _ hsc =>
                refine ⟨_, eu, .scr ?_⟩
                rcases hsc with ⟨o, h, _⟩ | h
                · refine .inl ⟨o, h, fun z => ?_⟩
                  rcases z with (z | z) | ⟨_, hz', _⟩
                  · rw [show c = dl from z, hdl] at h; cases h
                  · rw [show c = d0 from z, hd0] at h; cases h
                  · cases hz'
                · exact .inr h
          · have e' : some (dl, d0) = some p := e
            injection e' with e'
            subst e'
            exact ⟨hne, hdl, hd0⟩
          · rcases zb with z | z
            · rw [show b = dl from z, hdl] at hb; cases hb
            · rw [show b = d0 from z, hd0] at hb; cases hb
          · have q' : d = .bl true := q
            subst q'
            cases r2
            exact hQ H2
/-- the promise that the head asks for, from the law's -/
theorem law_goes {mb : Str → Option Value} {fa a : Addr} {fd : FuncData} {s₁ : Shared} {vs : List Value} {ns : List Int} {L : List Int → Prop}
    (inK : K.In s₁.heap) (top : s₁.heap.Ns mainGlobals mg) (bi : s₁.heap.Ns builtinsNs mb) (bb : ∀ x : Str, x ≠ "__name__" → mb x = bootBuiltins x) (lim : s₁.heap.NoLimit) (gs : s₁.gens = #[])
    (script : s₁.heap.get? a = some { cls := .type "list", data := .seq vs.toArray }) (are : IntsAre vs ns) (len : ns.length ≤ sizeLine) (room : Room k callerA)
    (F : ∀ base : Heap, K.In base → base.Ns mainGlobals mg → FnG P w K mg base k fa fd [p0] (spLaw K L)) (bind : ∀ (s : Shared) (u : Value), BindsTo s fd ⟨[u], []⟩ [(p0, u)]) (holds : L ns) :
    codeAny (model P w) callerA (.call (.ref fa) ⟨[.ref a], []⟩) (fun r s' => r = .ok (.ret (.bool true)) ∧ OldK s₁.heap s'.heap ∧ s'.os = s₁.os ∧ AllBare s'.gens) s₁ := by
  have rv := vals_ints are
  have lenV := are.length
  have scriptOnly : ∀ {H : Hp}, (∀ b, H b ≠ none → b = a) → ∀ {b : Addr} {o : Obj}, s₁.heap.get? b = some o → (∀ vs n, o.data ≠ .seq vs n) → H b = none := fun {H} hA {b o} e hd => by
    cases q : H b with
    | none => rfl
    | some u =>
      obtain rfl := hA b (by rw [q]; intro z; cases z)
      rw [script] at e
      injection e with e
      exact absurd (by rw [← e]) (hd vs.toArray 0)
  -- at an abstract heap that tells of the script at most
  have at_ : ∀ H : Hp, Only H → SqL K H a (ns.map V.int) → HOk P w H s₁.heap → (∀ b, H b ≠ none → b = a) → (H a ≠ none → K.lookup a = none) →
      codeAny (model P w) callerA (.call (.ref fa) ⟨[.ref a], []⟩) (fun r s' => r = .ok (.ret (.bool true)) ∧ OldK s₁.heap s'.heap ∧ s'.os = s₁.os ∧ AllBare s'.gens) s₁ := by
    intro H hO hS hok hA hK
    have ns_ : ∀ {b : Addr} {m : Str → Option Value}, s₁.heap.Ns b m → (hidT s₁.heap H).Ns b m := fun {b m} ⟨o, es, ep, e, d, r⟩ => ⟨o, es, ep, hidT_get e (scriptOnly hA e fun vs n z => by rw [d] at z; cases z), d, r⟩
    have k_ : K.In (hidT s₁.heap H) := fun b o e => hidT_get (inK b o e) (by
      cases q : H b with
      | none => rfl
      | some u =>
        obtain rfl := hA b (by rw [q]; intro z; cases z)
        rw [hK (by rw [q]; intro z; cases z)] at e
        cases e)
    have mod_ : Mod K mg (hidT s₁.heap H) := ⟨k_, ns_ top, ⟨mb, ns_ bi, bb⟩, by
      obtain ⟨mc, h1, h2⟩ := lim
      exact ⟨mc, ns_ h1, h2⟩⟩
    have e0 : Env0 P w K mg (hidT s₁.heap H) callerA [] s₁ H := ⟨rfl, mod_, fun b o e => of_hidT e, Nat.le_of_eq (hidT_size _ _), trivial, fun b hb => absurd (show b ∈ ([] : List Addr) from hb) (by simp), hok, .of_eq gs⟩
    have G := (F _ k_ (ns_ top)).run callerA [] s₁ H ⟨[.ref a], []⟩ [.ref a] [.ref a] (fun v _ => v = .bl true) (fun _ _ _ => False) rfl room e0 (bind s₁ (.ref a)) (.cons rfl .nil) ⟨a, ns, rfl, hO, hS, holds, fun _ => rfl⟩
    refine codeAny_mono G fun r s' h => ?_
    cases r with
    | error e =>
      obtain ⟨_, _, _, _, _, _, _, _, _, _, _, _, z⟩ := h
      exact z.elim
    | ok fl =>
      cases fl with
      | ret u =>
        obtain ⟨v, H', os, bare, un, hok', r', q⟩ := h
        obtain rfl : v = V.bl true := q
        obtain rfl : u = Value.bool true := r'
        refine ⟨rfl, OldK.of_keep fun b o e => ?_, os, bare⟩
        cases q : H b with
        | none => exact un.keep b o e q (fun z => absurd (show b ∈ ([] : List Addr) from z) (by simp)) (by simp)
        | some u =>
          rcases hO b with z | ⟨ob, xs, z⟩
          · rw [q] at z; cases z
          · obtain ⟨e2, _⟩ := hok' b _ (un.frzs b ob _ z)
            obtain ⟨e1, _⟩ := hok b _ z
            rw [e] at e1
            injection e1 with e1
            rw [e1]
            exact e2
      | next => exact (h : False).elim
      | brk => exact (h : False).elim
      | cont => exact (h : False).elim
  cases hk : K.lookup a with
  | some o =>
    have e := inK a o hk
    rw [script] at e
    injection e with e
    subst e
    exact at_ (fun _ => none) (fun _ => .inl rfl) (.inr ⟨_, vs.toArray, _, hk, rfl, rfl, rfl, by rw [List.size_toArray, lenV]; exact len, by simpa using rv⟩) (fun b u z => by have z' : (none : Option HO) = some u := z; cases z') (fun b z => absurd rfl z) fun z => absurd rfl z
  | none =>
    have at_a : ∀ {b : Addr}, b = a → (fun b => if b = a then some (HO.frz { cls := .type "list", data := .seq vs.toArray } (.lst (ns.map V.int))) else none) b = some (HO.frz { cls := .type "list", data := .seq vs.toArray } (.lst (ns.map V.int))) := fun h => if_pos h
    have at_n : ∀ {b : Addr}, b ≠ a → (fun b => if b = a then some (HO.frz { cls := .type "list", data := .seq vs.toArray } (.lst (ns.map V.int))) else none) b = none := fun h => if_neg h
    refine at_ (fun b => if b = a then some (.frz { cls := .type "list", data := .seq vs.toArray } (.lst (ns.map V.int))) else none) (fun b => ?_) (.inl (.inr ⟨_, at_a rfl⟩)) (fun b u z => ?_) (fun b z => ?_) fun _ => hk
    · by_cases hb : b = a
      · exact .inr ⟨_, _, at_a hb⟩
      · exact .inl (at_n hb)
    · by_cases hb : b = a
      · rw [at_a hb] at z
        injection z with z
        subst z
        subst hb
        exact ⟨script, by rw [List.length_map]; exact len, vs, _, rv, script⟩
      · rw [at_n hb] at z; cases z
    · by_cases hb : b = a
      · exact hb
      · exact absurd (at_n hb) z
end
theorem law_walk {l : PySem.W.OpenLaw} {n k : Nat} {q : Program} {loose : List Str} {XP : (Str → Option Value) → Heap → Prop} {YP : World → Heap → Prop} {d : DefRec} {K : Params → PySem.W.Frag} {p0 : Str} {L : List Int → Prop}
    (hn : l.most = some n) (hn2 : n ≤ sizeLine) (hdf : d.params.defaults = []) (hr : Room k callerA) (hY : ∀ (w : World) (h : Heap), YP w h → (K w.params).In h) (holds : ∀ ns, ns.length ≤ n → L ns)
    (F : ∀ (w : World) (mg : Str → Option Value) (fa : Addr) (h : Heap), (K w.params).In h → h.Ns mainGlobals mg → mg d.name = some (.ref fa) →
      ∃ fd : FuncData, (∀ (s : Shared) (u : Value), BindsTo s fd ⟨[u], []⟩ [(p0, u)]) ∧ ∀ base : Heap, (K w.params).In base → base.Ns mainGlobals mg → FnG l.prog w (K w.params) mg base k fa fd [p0] (spLaw (K w.params) L)) :
    PySem.W.WalkO q loose XP YP l.row.toRowW d [] (fun f vs => PySem.call f vs) := by
  refine Att.attach_call hn hdf fun w s₀ s₁ mg mb fa o pm cd doc a vs ns G Y ho hd hcd hmg hobj hints hlen hg => ?_
  obtain ⟨fd, hb, hF⟩ := F w mg fa _ (hY w _ Y) G.T.g hmg
  exact law_goes (hY w _ Y) G.T.g G.T.b G.T.builtins G.T.nolimit hg hobj hints (Nat.le_trans hlen hn2) hr hF hb (holds ns hlen)
end Fy
set_option Elab.async false
set_option linter.all false
set_option maxRecDepth 100000
set_option maxHeartbeats 4000000
/-! FyO: set(list of ints) as a set whose order is known. -/
namespace Fy
open PySem L2 PySem.Spec PyProof.Rows

section
variable {P : Program} {w : World} {A : Around} {R : Result → Shared → Prop} {I : Addr} {fp wr : List Addr} {Gs : Array GenState → Array GenState → Prop} {n : Nat} {Pv : Nat → Value → Prop} {Sv : Nat → Shared → Prop}
abbrev fM (val : Nat → Int) (i : Nat) : Int → Bool := fun k => (firstMet val i).any (· == k)
theorem set_loop (W : WalksS P w A.in1 I fp wr Gs n Pv Sv) (T : Addr) (hT : T ∉ fp) (val : Nat → Int) (hval : ∀ i v, Pv i v → ∃ t, v = .int (val i) t) (room : n + 1 < scanBound) :
    ∀ (m i : Nat) (s : Shared), n - i = m → i ≤ n → Sv i s → SetR w s.heap T (fM val i) (firstMet val i).length →
      (∀ s', Moved (T :: wr) Gs s s' → SetR w s'.heap T (fM val n) (firstMet val n).length → R (.ok (.ret .none)) s') → codeAny (model P w) A (.builtin "set.update.loop" ⟨[.ref T, .ref I], []⟩) R s := by
  have nw : T ∉ wr := fun z => hT (W.sub _ z)
  have up : ∀ b ∈ wr, b ∈ T :: wr := fun b z => List.mem_cons_of_mem _ z
  intro m
  induction m with
  | zero =>
    intro i s em hi sv hR k
    obtain rfl : i = n := by omega
    refine codeAny_builtin PyProof.Rows.F.entry_set_update_loop ?_
    rw [Around.under_plainId PyProof.Rows.F.plain_set_update_loop _]
    refine wpAny_bind (m := pyNext (.ref I)) (W.done s _ _ sv fun s1 mv => ?_)
    exact wpAny_pure (k s1 (mv.mono up) (hR.at fun o e => mv.heap T o nw e))
  | succ m ih =>
    intro i s em hi sv hR k
    have lt : i < n := by omega
    refine codeAny_builtin PyProof.Rows.F.entry_set_update_loop ?_
    rw [Around.under_plainId PyProof.Rows.F.plain_set_update_loop _]
    refine wpAny_bind (m := pyNext (.ref I)) (W.item i s _ _ lt sv fun v s1 pv sv1 mv => ?_)
    obtain ⟨t, rfl⟩ := hval i v pv
    have R1 : SetR w s1.heap T (fM val i) (firstMet val i).length := hR.at fun o e => mv.heap T o nw e
    refine wpAny_bind (m := holding [Value.int (val i) t] (setAdd T (.int (val i) t))) (wpAny_holding ?_)
    unfold setAdd
    refine wpAny_holding (wpAny_bind ((intKind P w).pyHash (k := val i) (intKind_is _ _ _ _) ?_))
    refine setR_add_hashed (s := { s1 with toks := s1.toks + 1 }) R1 (by have := firstMet_length_le val i; omega) fun h2 sb R2 => ?_
    have e1 : ∀ j, fM val (i + 1) j = (fM val i j || decide (j = val i)) := fun j => by
      show (firstMet val (i + 1)).any _ = _
      rw [firstMet_succ, step_any]
    have R3 : SetR w h2 T (fM val (i + 1)) (firstMet val (i + 1)).length := by
      have q := R2.congr e1
      rw [show (firstMet val (i + 1)).length = if fM val i (val i) = true then (firstMet val i).length else (firstMet val i).length + 1 from by rw [firstMet_succ, step_length]]
      exact q
    refine wpAny_pure ⟨plainId_quiet PyProof.Rows.F.plain_set_update_loop _, ih (i + 1) _ (by omega) lt (W.frame _ s1 _ _ sv1 (Nat.le_succ _) fun b hb o e => ?_) R3 fun s3 mv3 R4 => ?_⟩
    · rw [sb.2 b fun (z : b = T) => hT (z ▸ hb)]
      exact e
    · refine k s3 (Moved.trans W.gtrans ((mv.mono up).then_heap (Nat.le_succ _) fun b o hb e => ?_) mv3) R4
      rw [sb.2 b fun (z : b = T) => hb (z ▸ List.mem_cons_self ..)]
      exact e
end
section
variable {P : Program} {w : World} {A : Around} {E : Value → Shared → Prop} {s : Shared}
def newS (w : World) : Obj := { cls := .type "set", dict := none, data := .set #[] 0 (.fresh 0 0 (!w.params.followText "set-order")) }
theorem set_new1 (a : Value) {Q : Value → Shared → Prop} (h : Q (.ref s.heap.objs.size) { s with heap := s.heap.push (newS w) }) : codeAny (model P w) A (.call (.builtin "set.__new__") ⟨[.type "set", a], []⟩) (wants Q E) s := by
  refine codeAny_of_tree ?_
  refine wpAny_bind (m := checkBuiltinCall "set.__new__" ⟨[.type "set", a], []⟩) (wpAny_of_eq (PySem.F.newCall_set_1 a) (wpAny_pure ⟨plainId_quiet PySem.F.plain_set_new _, codeAny_builtin PySem.F.entry_set_new ?_⟩))
  rw [Around.under_plainId PySem.F.plain_set_new _]
  unfold Builtin.«set.__new__» Builtin.Frozenset.newClass
  have hsub := sub_set_self
  obtain ⟨hp, g, d, tk, os⟩ := s
  dsimp only
  wp_walk
  refine wpAny_askSetting (wpAny_pure ?_)
  dsimp only
  simp only [newObj]
  exact wpAny_bind (wpAny_alloc (wpAny_pure (wpAny_pure h)))
set_option maxHeartbeats 8000000 in
theorem set_of_list {l : Addr} {items : Array Value} {ns : List Int} {Q : Value → Shared → Prop} (hh : A.handled = none) (hl : s.heap.IsList l items) (hi : IntsAre items.toList ns) (room : items.size + 1 < scanBound)
    (h : ∀ (h' : Heap) (tk : Nat), SetR w h' s.heap.objs.size (fM (fun i => ns.getD i 0) items.size) (firstMet (fun i => ns.getD i 0) items.size).length →
      (∀ b o, b < s.heap.objs.size → s.heap.get? b = some o → h'.get? b = some o) → Q (.ref s.heap.objs.size) { s with heap := h', toks := tk }) : wpAny (model P w) A (call (.type "set") [.ref l]) Q E s := by
  obtain ⟨c, tl, hmro⟩ := PySem.F.called_set.mro
  have hmade := PySem.F.called_set.made
  have hsub := PySem.F.called_set.sub
  refine wpAny_call (codeAny_of_tree ?_)
  show wpAny _ _ (callAny (.type "set") _) _ _ _
  refine wpAny_pure ⟨Code.quiet_builtin _ (by decide +kernel), codeAny_builtin PySem.F.entry_type_call ?_⟩
  rw [Around.under_plain (weight_type_call_type "set" [.ref l] []) rfl]
  have h1 := PySem.F.called_set.notType
  have h2 := PySem.F.called_set.canCreate
  have hct := PySem.F.typeCall_set_1 (.ref l)
  repeat (any_goals (first | assumption | wp_step))
  refine codeAny_mono (set_new1 (P := P) (w := w) (.ref l) (E := E) (Q := fun u s1 => u = .ref s.heap.objs.size ∧ s1 = { s with heap := s.heap.push (newS w) }) ⟨rfl, rfl⟩) fun r s1 hr => ?_
  rcases r with e | (v | _ | _ | _) <;> first | exact hr | exact hr.elim | skip
  obtain ⟨rfl, rfl⟩ := hr
  have at_ : (s.heap.push (newS w)).get? s.heap.objs.size = some (newS w) := Heap.get?_push_size _ rfl
  have ty : Shared.TypeIs { s with heap := s.heap.push (newS w) } (.ref s.heap.objs.size) "set" := ⟨_, at_, rfl⟩
  have hli := PySem.F.called_set.init.lookup
  have hbi := PySem.F.called_set.init.bind (.ref s.heap.objs.size)
  repeat (any_goals (first | assumption | wp_step))
  refine codeAny_mono (codeAny_call_builtin (R := wants (fun r s2 => r = .none ∧ ∃ h' tk, s2 = { s with heap := h', toks := tk } ∧ SetR w h' s.heap.objs.size (fM (fun i => ns.getD i 0) items.size) (firstMet (fun i => ns.getD i 0) items.size).length ∧
      (∀ b o, b < s.heap.objs.size → s.heap.get? b = some o → h'.get? b = some o)) E) PySem.F.called_set.init.plain PySem.F.entry_set_init (check_set_init_1 ty ?_)) fun r2 s2 hr2 => ?_
  · obtain ⟨ol, hol, hcl, nl, hdl⟩ := hl
    obtain ⟨ocls, odict, odata, oslots⟩ := ol
    simp only at hcl hdl
    subst hcl hdl
    have lt : l < s.heap.objs.size := Heap.lt_size hol
    have sz1 : (s.heap.push (newS w)).objs.size = s.heap.objs.size + 1 := Heap.size_push ..
    have hol' : (s.heap.push (newS w)).get? l = some { cls := .type "list", dict := odict, data := .seq items nl, slots := oslots } := Heap.get?_push_of_some _ hol
    have hsls := PySem.F.sub_list_set
    have hslf := PySem.F.sub_list_frozenset
    have hne : (Value.type "list" == Value.type "dict") = false := by decide
    have il : (s.heap.push (newS w)).IsList l items := ⟨_, hol', rfl, nl, rfl⟩
    unfold Builtin.«set.__init__» noKeywords Builtin.Frozenset.updateFrom
    generalize hPI : pyIter = PI
    wp_walk
    subst hPI
    refine wpAny_pyIter_list il (wpAny_bind (wpAny_runValue ?_))
    have nl' : l ≠ (s.heap.push (newS w)).objs.size := by rw [sz1]; exact Nat.ne_of_lt (Nat.lt_succ_of_lt lt)
    have nf : s.heap.objs.size ∉ [(s.heap.push (newS w)).objs.size, l] := by
      rw [sz1]
      simp only [List.mem_cons, List.not_mem_nil, or_false, not_or]
      exact ⟨Nat.ne_of_lt (Nat.lt_succ_self _), Nat.ne_of_gt lt⟩
    refine set_loop ((Walks.list (by simp [hh]) _ l nl' items).toS) s.heap.objs.size nf (fun i => ns.getD i 0) (fun i v hv => IntsAre.int_at hi i v (by rw [Array.getElem?_toList]; exact hv)) room (items.size - 0) 0 _ (by omega) (Nat.zero_le _)
      ⟨⟨_, Heap.get?_push_size _ rfl, rfl, rfl⟩, il.push _⟩ ((setR_fresh (h := s.heap) w).at fun o e => Heap.get?_push_of_some _ e) fun s' mv R' => ?_
    obtain ⟨h', g', d', tk', os'⟩ := s'
    obtain rfl : g' = s.gens := mv.gens
    obtain rfl : d' = s.drawn := mv.drawn
    obtain rfl : os' = s.os := mv.os
    refine wpAny_pure (wpAny_pure ⟨rfl, h', tk', rfl, R', fun b o hb e => ?_⟩)
    refine mv.heap b o ?_ (Heap.get?_push_of_some _ (Heap.get?_push_of_some _ e))
    rw [sz1]
    simp only [List.mem_cons, List.not_mem_nil, or_false, not_or]
    exact ⟨Nat.ne_of_lt hb, Nat.ne_of_lt (Nat.lt_succ_of_lt hb)⟩
  · rcases r2 with e | (v | _ | _ | _) <;> first | exact hr2 | exact hr2.elim | skip
    obtain ⟨rfl, h', tk, rfl, R', k'⟩ := hr2
    repeat (any_goals (first | assumption | wp_step))
    exact h _ _ R' k'
set_option maxHeartbeats 8000000 in
theorem set_of_tuple {l : Addr} {items : Array Value} {ns : List Int} {Q : Value → Shared → Prop} (hh : A.handled = none) (hl : s.heap.IsTuple l items) (hi : IntsAre items.toList ns) (room : items.size + 1 < scanBound)
    (h : ∀ (h' : Heap) (tk : Nat), SetR w h' s.heap.objs.size (fM (fun i => ns.getD i 0) items.size) (firstMet (fun i => ns.getD i 0) items.size).length →
      (∀ b o, b < s.heap.objs.size → s.heap.get? b = some o → h'.get? b = some o) → Q (.ref s.heap.objs.size) { s with heap := h', toks := tk }) : wpAny (model P w) A (call (.type "set") [.ref l]) Q E s := by
  obtain ⟨c, tl, hmro⟩ := PySem.F.called_set.mro
  have hmade := PySem.F.called_set.made
  have hsub := PySem.F.called_set.sub
  refine wpAny_call (codeAny_of_tree ?_)
  show wpAny _ _ (callAny (.type "set") _) _ _ _
  refine wpAny_pure ⟨Code.quiet_builtin _ (by decide +kernel), codeAny_builtin PySem.F.entry_type_call ?_⟩
  rw [Around.under_plain (weight_type_call_type "set" [.ref l] []) rfl]
  have h1 := PySem.F.called_set.notType
  have h2 := PySem.F.called_set.canCreate
  have hct := PySem.F.typeCall_set_1 (.ref l)
  repeat (any_goals (first | assumption | wp_step))
  refine codeAny_mono (set_new1 (P := P) (w := w) (.ref l) (E := E) (Q := fun u s1 => u = .ref s.heap.objs.size ∧ s1 = { s with heap := s.heap.push (newS w) }) ⟨rfl, rfl⟩) fun r s1 hr => ?_
  rcases r with e | (v | _ | _ | _) <;> first | exact hr | exact hr.elim | skip
  obtain ⟨rfl, rfl⟩ := hr
  have at_ : (s.heap.push (newS w)).get? s.heap.objs.size = some (newS w) := Heap.get?_push_size _ rfl
  have ty : Shared.TypeIs { s with heap := s.heap.push (newS w) } (.ref s.heap.objs.size) "set" := ⟨_, at_, rfl⟩
  have hli := PySem.F.called_set.init.lookup
  have hbi := PySem.F.called_set.init.bind (.ref s.heap.objs.size)
  repeat (any_goals (first | assumption | wp_step))
  refine codeAny_mono (codeAny_call_builtin (R := wants (fun r s2 => r = .none ∧ ∃ h' tk, s2 = { s with heap := h', toks := tk } ∧ SetR w h' s.heap.objs.size (fM (fun i => ns.getD i 0) items.size) (firstMet (fun i => ns.getD i 0) items.size).length ∧
      (∀ b o, b < s.heap.objs.size → s.heap.get? b = some o → h'.get? b = some o)) E) PySem.F.called_set.init.plain PySem.F.entry_set_init (check_set_init_1 ty ?_)) fun r2 s2 hr2 => ?_
  · obtain ⟨ol, hol, hcl, nl, hdl⟩ := hl
    obtain ⟨ocls, odict, odata, oslots⟩ := ol
    simp only at hcl hdl
    subst hcl hdl
    have lt : l < s.heap.objs.size := Heap.lt_size hol
    have sz1 : (s.heap.push (newS w)).objs.size = s.heap.objs.size + 1 := Heap.size_push ..
    have hol' : (s.heap.push (newS w)).get? l = some { cls := .type "tuple", dict := odict, data := .seq items nl, slots := oslots } := Heap.get?_push_of_some _ hol
    have hsls := PySem.F.sub_tuple_set
    have hslf := PySem.F.sub_tuple_frozenset
    have hne : (Value.type "tuple" == Value.type "dict") = false := by decide
    have il : (s.heap.push (newS w)).IsTuple l items := ⟨_, hol', rfl, nl, rfl⟩
    unfold Builtin.«set.__init__» noKeywords Builtin.Frozenset.updateFrom
    generalize hPI : pyIter = PI
    wp_walk
    subst hPI
    refine wpAny_pyIter_tuple il (wpAny_bind (wpAny_runValue ?_))
    have nl' : l ≠ (s.heap.push (newS w)).objs.size := by rw [sz1]; exact Nat.ne_of_lt (Nat.lt_succ_of_lt lt)
    have nf : s.heap.objs.size ∉ [(s.heap.push (newS w)).objs.size, l] := by
      rw [sz1]
      simp only [List.mem_cons, List.not_mem_nil, or_false, not_or]
      exact ⟨Nat.ne_of_lt (Nat.lt_succ_self _), Nat.ne_of_gt lt⟩
    refine set_loop ((Walks.tuple (by simp [hh]) _ l nl' items).toS) s.heap.objs.size nf (fun i => ns.getD i 0) (fun i v hv => IntsAre.int_at hi i v (by rw [Array.getElem?_toList]; exact hv)) room (items.size - 0) 0 _ (by omega) (Nat.zero_le _)
      ⟨⟨_, Heap.get?_push_size _ rfl, rfl, rfl⟩, il.push _⟩ ((setR_fresh (h := s.heap) w).at fun o e => Heap.get?_push_of_some _ e) fun s' mv R' => ?_
    obtain ⟨h', g', d', tk', os'⟩ := s'
    obtain rfl : g' = s.gens := mv.gens
    obtain rfl : d' = s.drawn := mv.drawn
    obtain rfl : os' = s.os := mv.os
    refine wpAny_pure (wpAny_pure ⟨rfl, h', tk', rfl, R', fun b o hb e => ?_⟩)
    refine mv.heap b o ?_ (Heap.get?_push_of_some _ (Heap.get?_push_of_some _ e))
    rw [sz1]
    simp only [List.mem_cons, List.not_mem_nil, or_false, not_or]
    exact ⟨Nat.ne_of_lt hb, Nat.ne_of_lt (Nat.lt_succ_of_lt hb)⟩
  · rcases r2 with e | (v | _ | _ | _) <;> first | exact hr2 | exact hr2.elim | skip
    obtain ⟨rfl, h', tk, rfl, R', k'⟩ := hr2
    repeat (any_goals (first | assumption | wp_step))
    exact h _ _ R' k'
end
/-! ### by values -/
theorem firstMet_mem (val : Nat → Int) (n : Nat) (k : Int) : k ∈ firstMet val n ↔ k ∈ (List.range n).map val := by
  have h := firstMet_any val n k
  constructor
  · intro q
    have h1 : (firstMet val n).any (· == k) = true := List.any_eq_true.mpr ⟨k, q, by simp⟩
    rw [h] at h1
    obtain ⟨x, hx, e⟩ := List.any_eq_true.mp h1
    have e' : x = k := by simpa using e
    exact e' ▸ hx
  · intro q
    have h1 : ((List.range n).map val).any (· == k) = true := List.any_eq_true.mpr ⟨k, q, by simp⟩
    rw [← h] at h1
    obtain ⟨x, hx, e⟩ := List.any_eq_true.mp h1
    have e' : x = k := by simpa using e
    exact e' ▸ hx
theorem firstMet_nodup (val : Nat → Int) : ∀ n, (firstMet val n).Nodup
  | 0 => List.nodup_nil
  | n + 1 => by
    rw [firstMet_succ]
    unfold step_dedup
    have ih := firstMet_nodup val n
    split
    · exact ih
    · rename_i h
      refine List.nodup_append.mpr ⟨ih, by simp, fun a ha b hb e => h ?_⟩
      rw [List.mem_singleton.mp hb] at e
      exact List.any_eq_true.mpr ⟨a, ha, by simp [e]⟩
theorem range_getD (ns : List Int) : (List.range ns.length).map (fun i => ns.getD i 0) = ns := by
  apply List.ext_getElem
  · simp
  · intro i h1 h2
    simp only [List.getElem_map, List.getElem_range]
    rw [List.getD_eq_getElem?_getD, List.getElem?_eq_getElem h2]
    rfl
theorem firstMet_sortU (ns : List Int) : (firstMet (fun i => ns.getD i 0) ns.length).length = (sortU ns).length ∧ ∀ k, (sortU ns).contains k = fM (fun i => ns.getD i 0) ns.length k := by
  have hm : ∀ k, k ∈ firstMet (fun i => ns.getD i 0) ns.length ↔ k ∈ sortU ns := fun k => by
    rw [firstMet_mem, range_getD, mem_sortU]
  have nd : (sortU ns).Nodup := (pw_sortU ns).imp fun h => Int.ne_of_lt h
  refine ⟨(List.perm_ext_iff_of_nodup (firstMet_nodup _ _) nd).mpr hm |>.length_eq, fun k => ?_⟩
  rw [Bool.eq_iff_iff]
  constructor
  · intro h
    have : k ∈ sortU ns := by simpa using h
    exact List.any_eq_true.mpr ⟨k, (hm k).mpr this, by simp⟩
  · intro h
    obtain ⟨x, hx, e⟩ := List.any_eq_true.mp h
    have e' : x = k := by simpa using e
    have : k ∈ sortU ns := (hm k).mp (e' ▸ hx)
    simpa using this
theorem ints_vals : ∀ {ns : List Int} {vs : List Value}, Vals (ns.map V.int) vs → IntsAre vs ns
  | [], _, .nil => .nil
  | n :: ns, _, .cons r t => by
    obtain ⟨tk, rfl⟩ := r
    exact .cons n tk (ints_vals t)
section
variable {X : Cx} {Γ : G}
def rSetL1 (K : PySem.W.Frag) (w : World) : List V → Hp → VK → Prop := fun xs H Q => ∃ p ns, xs = [.ref p] ∧ (SqL K H p (ns.map V.int) ∨ SqT K H p (ns.map V.int)) ∧ ns.length < 1000 ∧ ∀ a, H a = none → Q (.ref a) (upd H a (SetO w a (fun i => (sortU ns).contains i) (sortU ns).length))
theorem call_setL (hc : X.calm = true) : CallR X (.type "set") (rSetL1 X.K X.w) := by
  intro pins s σ H xs us Q I r h
  obtain ⟨p, ns, rfl, hq, hl, q⟩ := h
  obtain ⟨u, rfl, rx⟩ := vals1 r
  cases rx
  obtain ⟨e1, e2⟩ := firstMet_sortU ns
  rcases hq with hq | hq
  · obtain ⟨its, r', pl, hz⟩ := I.list hq
    have hi := ints_vals r'
    have hlen : its.toArray.size = ns.length := by rw [List.size_toArray]; exact hi.length
    refine set_of_list (I.ok.hd hc) pl.isList (ns := ns) (by simpa using hi) (by rw [hlen]; unfold scanBound; omega) fun h' tk R k => ?_
    rw [hlen] at R
    have R' : SetR X.w h' s.heap.objs.size (fun i => (sortU ns).contains i) (sortU ns).length := by
      rw [← e1]
      exact R.congr e2
    exact ⟨.ref s.heap.objs.size, _, I.laid (t' := tk) (fun b o e => k b o (Heap.lt_size e) e) (Nat.le_refl _) (setO_new R'), rfl, q _ (I.hok.fresh (Nat.le_refl _))⟩
  · obtain ⟨its, r', pl, hz⟩ := I.tuple hq
    have hi := ints_vals r'
    have hlen : its.toArray.size = ns.length := by rw [List.size_toArray]; exact hi.length
    refine set_of_tuple (I.ok.hd hc) pl (ns := ns) (by simpa using hi) (by rw [hlen]; unfold scanBound; omega) fun h' tk R k => ?_
    rw [hlen] at R
    have R' : SetR X.w h' s.heap.objs.size (fun i => (sortU ns).contains i) (sortU ns).length := by
      rw [← e1]
      exact R.congr e2
    exact ⟨.ref s.heap.objs.size, _, I.laid (t' := tk) (fun b o e => k b o (Heap.lt_size e) e) (Nat.le_refl _) (setO_new R'), rfl, q _ (I.hok.fresh (Nat.le_refl _))⟩
theorem ok_setL : Op1Ok Γ qSetL (fun x H Q => rSetL1 Γ.g.K Γ.g.w [x] H Q) := by
  intro N H x dx Qd Q n rx q k
  cases dx <;> first | exact (q : False).elim | skip
  · obtain ⟨a, vs, rfl, ha, r1⟩ := rx.lst
    obtain ⟨ns, hi, hl, q⟩ := q
    obtain ⟨rfl, rfl⟩ := r1.ints hi
    exact ⟨a, ns, rfl, .inl (SqL.of ha), hl, fun p hp => k _ _ _ (Ext.new hp) (.set upd_same (n.new hp) (pw_sortU ns)) q⟩
  · obtain ⟨a, vs, rfl, ha, _, r1⟩ := rx.tup
    obtain ⟨ns, hi, hl, q⟩ := q
    obtain ⟨rfl, rfl⟩ := r1.ints hi
    exact ⟨a, ns, rfl, .inr (SqT.of ha), hl, fun p hp => k _ _ _ (Ext.new hp) (.set upd_same (n.new hp) (pw_sortU ns)) q⟩
theorem mono_qSetL : Mono1 qSetL := by
  intro x Q Q' h q
  cases x <;> first | exact (q : False).elim | skip
  all_goals (obtain ⟨ns, a, b, c⟩ := q; exact ⟨ns, a, b, h _ c⟩)
end
end Fy
set_option Elab.async false
set_option linter.all false
set_option maxRecDepth 100000
set_option maxHeartbeats 4000000
/-! FyP: enumerate of a list or a tuple. -/
namespace Fy
open PySem L2 PySem.Spec PyProof.Rows

theorem enum_made {v : Value} {o : Obj} {H : Heap → Prop} (B : Begins v o H) : Meets (Builtin.«enumerate.__new__» ⟨[.type "enumerate", v], []⟩) (fun _ R s => H s.heap ∧
    R (.ok (.ret (.ref (s.heap.push o).objs.size))) { s with heap := (s.heap.push o).push { cls := .type "enumerate", data := .fields #[.none, .bool false, .ref s.heap.objs.size, rawInt 0, .none, .none] } }) :=
  .of_wp fun prog w A R s h => by
    obtain ⟨hp, g, d, tk, os⟩ := s
    have hsub := sub_enumerate
    have go : ∀ {A' : Around} {E : Value → Shared → Prop} {Q : Value → Shared → Prop}, Q (.ref hp.objs.size) ⟨hp.push o, g, d, tk, os⟩ → wpAny (model prog w) A' (pyIter v) Q E ⟨hp, g, d, tk, os⟩ := fun q => B.iter prog w _ _ ⟨hp, g, d, tk, os⟩ _ h.1 q
    wp_walk using go
    refine wpAny_stack_any fun st => wpAny_pure ?_
    split
    · rename_i c _ _ _ _ _
      cases (c == Value.type "enumerate") <;> (wp_walk using go; exact ⟨_, rfl, h.2⟩)
    · wp_walk using go
      exact ⟨_, rfl, h.2⟩
section
variable {prog : Program} {w : World} {A : Around} {E : Value → Shared → Prop} {s : Shared}
theorem call_enum {v : Value} {o : Obj} {H : Heap → Prop} {Q : Value → Shared → Prop} (B : Begins v o H) (h1 : H s.heap)
    (h : ∀ h', IsEnum h' (s.heap.objs.size + 1) s.heap.objs.size 0 .none → h'.get? s.heap.objs.size = some o → (∀ b o, s.heap.get? b = some o → h'.get? b = some o) → Q (.ref (s.heap.objs.size + 1)) { s with heap := h' }) :
    wpAny (model prog w) A (call (.type "enumerate") [v]) Q E s := by
  refine callType_new PySem.F.called_enumerate (by decide) (PySem.F.typeCall_enumerate_1 _) (PySem.F.newCall_enumerate_1 _) (fun obj => PySem.F.args_object_init_2 obj _) PySem.F.entry_enumerate_new (enum_made B) ⟨h1, ?_⟩
  have sz : (s.heap.push o).objs.size = s.heap.objs.size + 1 := Heap.size_push ..
  have it : ((s.heap.push o).push { cls := .type "enumerate", data := .fields #[.none, .bool false, .ref s.heap.objs.size, rawInt 0, .none, .none] }).get? s.heap.objs.size = some o := Heap.get?_push_of_some _ (Heap.get?_push_size _ B.free)
  have en : IsEnum ((s.heap.push o).push { cls := .type "enumerate", data := .fields #[.none, .bool false, .ref s.heap.objs.size, rawInt 0, .none, .none] }) (s.heap.objs.size + 1) s.heap.objs.size 0 .none := by
    have q := Heap.get?_push_size (s.heap.push o) (o := { cls := .type "enumerate", data := .fields #[.none, .bool false, .ref s.heap.objs.size, rawInt 0, .none, .none] }) rfl
    rw [sz] at q
    exact q
  show _ ∧ _
  rw [sz]
  exact ⟨⟨_, en, rfl⟩, h _ en it fun b o x => Heap.get?_push_of_some _ (Heap.get?_push_of_some _ x)⟩
end
/-- the tuple at a, each item in a new pair -/
def ItE (K : PySem.W.Frag) (a : Addr) : It :=
  ⟨fun i H => ∃ (xs : List V) (x : V), SqT K H a xs ∧ xs[i]? = some x, fun i H v H' => ∃ T x, v = .ref T ∧ H T = none ∧ H' = upd H T (.tup [.int (i : Nat), x]) ∧ ∀ xs, SqT K H a xs → xs[i]? = some x, fun i H => ∃ xs : List V, SqT K H a xs ∧ xs.length = i⟩
theorem turnE {P : Program} {w : World} {K : PySem.W.Frag} {elts : List Expr} {kk : Nat} {tpos : Pos} (a e it : Addr) (hea : a ≠ it) (hee : e ≠ a) :
    Turn P w K (.Tuple elts kk tpos) (ItE K a) [e, it] e (fun i h => (∃ old, IsEnum h e it ((i : Nat) : Int) old) ∧ h.IsTupleIter it a i ∧ e ≠ it) where
  mem := by simp
  obj := fun i h st b hb => by
    obtain ⟨⟨old, he⟩, ⟨o, ho, hc, hd⟩, _⟩ := st
    rcases (show b = e ∨ b = it by simpa using hb) with z | z
    · exact ⟨_, z ▸ he, fun v q => by cases q⟩
    · exact ⟨o, z ▸ ho, fun v q => by rw [hd] at q; cases q⟩
  keep := fun i h h' st k => by
    obtain ⟨⟨old, he⟩, hi, hne⟩ := st
    exact ⟨⟨old, k e (by simp) _ he⟩, hi.at fun o q => k it (by simp) o q, hne⟩
  item := by
    intro X hP hw hK hc i pins s σ H E I hf st hg
    subst hP hw hK
    obtain ⟨⟨old, he⟩, hit, hne⟩ := st
    obtain ⟨xs, x, hq, hx⟩ := hg
    obtain ⟨its, rv, pl, hz⟩ := I.tuple hq
    obtain ⟨u, hu, ru⟩ := rv.get hx
    have hel : e < s.heap.objs.size := Heap.lt_size he
    have hil : it < s.heap.objs.size := by
      obtain ⟨_, q, _⟩ := hit
      exact Heap.lt_size q
    have hlt : i < its.toArray.size := by
      rw [List.size_toArray]
      exact (List.getElem?_eq_some_iff.mp hu).1
    have D := Draws.tuple (prog := X.prog) (w := X.w) (A := X.A.in1) (I.ok.hd hc) it a hea its.toArray
    refine wpAny_pyNext_enum_itemD D he ⟨hit, pl⟩ hlt hne (by simp [hne, hee]) fun y h' tk hy ho hst' hT hsz hk => ?_
    have ey : y = u := by
      have : its.toArray[i]? = some y := hy
      rw [show its.toArray[i]? = some u from by simpa using hu] at this
      exact (Option.some.inj this).symm
    subst ey
    refine ⟨_, rfl, wpAny_letOwnedTupleGo_enum (s := { s with heap := h', toks := tk + 1 }) ho fun h2 he2 sb => ?_⟩
    have hT2 : h2.get? s.heap.objs.size = some { cls := .type "tuple", data := .seq #[.int i tk, y] } := (sb.2 _ (Nat.ne_of_gt hel)).trans hT
    have new : ObjOk X.prog X.w (upd H s.heap.objs.size (.tup [.int (i : Nat), x])) h2 s.heap.objs.size (.tup [.int (i : Nat), x]) :=
      ⟨by show 2 ≤ sizeLine; decide, [.int i tk, y], .cons ⟨_, rfl⟩ (.cons ru .nil), ⟨_, hT2, rfl, _, rfl⟩⟩
    have I1 : Inv X pins σ (upd H s.heap.objs.size (.tup [.int (i : Nat), x])) { s with heap := h2, toks := tk + 1 } :=
      I.turnedNew (ch := [e, it]) (fun b ob hb q => (sb.2 b (fun z => hb (by simp [z]))).trans (hk b ob (fun z => hb (by simp [z])) (fun z => hb (by simp [z])) q)) hf (Nat.le_refl _) new
    refine ⟨.ref s.heap.objs.size, _, I1, rfl, ⟨_, x, rfl, I.hok.fresh (Nat.le_refl _), rfl, fun ys hy' => by rw [I.tuple_inj hy' hq]; exact hx⟩, ⟨⟨y, ?_⟩, hst'.1.at fun o q => (sb.2 it (Ne.symm hne)).trans q, hne⟩, fun b hb => ?_⟩
    · rw [show ((i + 1 : Nat) : Int) = (i : Int) + 1 from by omega]
      exact he2
    · have hb' : b < s.heap.objs.size := by
        rcases (show b = e ∨ b = it by simpa using hb) with z | z
        · rw [z]; exact hel
        · rw [z]; exact hil
      rw [upd_ne (Nat.ne_of_lt hb')]
      exact (hf b hb).1
  done := by
    intro X hP hw hK hc i pins s σ H E I hf st hg
    subst hP hw hK
    obtain ⟨⟨old, he⟩, hit, hne⟩ := st
    obtain ⟨xs, hq, hx⟩ := hg
    obtain ⟨its, rv, pl, hz⟩ := I.tuple hq
    obtain ⟨f0, f1, f2, f3, f4, f5⟩ := hf it (by simp)
    have D := Draws.tuple (prog := X.prog) (w := X.w) (A := X.A.in1) (I.ok.hd hc) it a hea its.toArray
    have hn : i = its.toArray.size := by rw [List.size_toArray, ← rv.length, hx]
    subst hn
    exact wpAny_pyNext_enum_endD (A := X.A) D he ⟨hit, pl⟩ fun h' eb => ⟨rfl, I.turned (t' := s.toks) (fun b o hb q => eb b o hb q) f0 f1 f3 f4 f5⟩
  self := fun A i s Q E st h => by
    obtain ⟨⟨_, he⟩, _⟩ := st
    exact wpAny_pyIter_enum he h
section
variable {X : Cx} {Γ : G} {W : WX} {O : List Nat} {f : FTE} {a : Expr} {p pos tpos : Pos} {elts : List Expr} {kk : Nat}
def iEnumW (K : PySem.W.Frag) (tl : TE) : TI := fun σ H R => tl σ H fun x H1 => ∃ a, [x] = [V.ref a] ∧ (((∃ xs, SqL K H1 a xs) ∧ R (Ite K a) H1) ∨ ((∃ xs, SqT K H1 a xs) ∧ R (ItE K a) H1))
theorem pi_enumA {tl : TE} (hg : Gl X "enumerate") (hm : X.mg "enumerate" = none) (ha : PE X a tl) (hs : starEach [a] X.env = [(false, eval a X.env)]) (hs2 : starEach [a] X.env = (false, eval a X.env) :: starEach [] X.env) : PI X (.Tuple elts kk tpos) (.Call (.Name "enumerate" p) [a] [] pos) (iEnumW X.K tl) := by
  refine ⟨fun pins s σ H R I h => ?_⟩
  refine Call_ (ld_blt I hg hm boot_enumerate (PyProof.Rows.callWith_type1 (thn ((pa_cons ha pa_nil hs2).run pos pins s σ H (fun vs H1 => ∃ a, vs = [V.ref a] ∧ (((∃ xs, SqL X.K H1 a xs) ∧ R (Ite X.K a) H1) ∨ ((∃ xs, SqT X.K H1 a xs) ∧ R (ItE X.K a) H1))) I h) fun us s1 hq => ?_) hs rfl))
  · obtain ⟨vs, H1, I1, r1, a, rfl, hq⟩ := hq
    obtain ⟨u, rfl, ru⟩ := r1.one
    obtain rfl : u = Value.ref a := ru
    have two : ∀ b, b ∈ [s1.heap.objs.size + 1, s1.heap.objs.size] → s1.heap.objs.size ≤ b := fun b hb => by
      rcases (show b = s1.heap.objs.size + 1 ∨ b = s1.heap.objs.size by simpa using hb) with z | z
      · rw [z]; exact Nat.le_add_right _ _
      · rw [z]; exact Nat.le_refl _
    rcases hq with ⟨⟨xs, hq⟩, q⟩ | ⟨⟨xs, hq⟩, q⟩
    · obtain ⟨its, rv, pl, hz⟩ := I1.list hq
      refine call_enumerate_list pl.isList fun h' he hit hsz hk => wpAny_pyIter_enum he ?_
      exact ⟨s1.heap.objs.size + 1, [s1.heap.objs.size + 1, s1.heap.objs.size], _, _, H1, rfl, I1.kept (t' := s1.toks) hk, turn_enum a (s1.heap.objs.size + 1) s1.heap.objs.size, ⟨⟨.none, he⟩, hit, Nat.succ_ne_self _⟩,
        fun b hb => I1.fpOk (two b hb) (I1.hok.fresh (two b hb)), q⟩
    · obtain ⟨its, rv, pl, hz⟩ := I1.tuple hq
      have la : a < s1.heap.objs.size := by
        obtain ⟨_, e, _⟩ := pl
        exact Heap.lt_size e
      refine call_enum (begins_tuple a its.toArray) pl fun h' he hit hk => wpAny_pyIter_enum he ?_
      exact ⟨s1.heap.objs.size + 1, [s1.heap.objs.size + 1, s1.heap.objs.size], _, _, H1, rfl, I1.kept (t' := s1.toks) hk, turnE a (s1.heap.objs.size + 1) s1.heap.objs.size (Nat.ne_of_lt la) (Ne.symm (Nat.ne_of_lt (Nat.lt_succ_of_lt la))), ⟨⟨.none, he⟩, ⟨_, hit, rfl, rfl⟩, Nat.succ_ne_self _⟩,
        fun b hb => I1.fpOk (two b hb) (I1.hok.fresh (two b hb)), q⟩
theorem enumD_len : ∀ (k : Nat) (l : List D), (enumD k l).length = l.length
  | _, [] => rfl
  | k, x :: r => by simp [enumD, enumD_len (k + 1) r]
theorem enumD_get : ∀ (k : Nat) (l : List D) (i : Nat) (d : D), l[i]? = some d → (enumD k l)[i]? = some (.tup [.int ((k + i : Nat) : Int), d])
  | k, x :: r, 0, d, h => by
    have h' : x = d := by simpa using h
    subst h'
    rfl
  | k, x :: r, i + 1, d, h => by
    have := enumD_get (k + 1) r i d (by simpa using h)
    rw [show k + (i + 1) = k + 1 + i from by omega]
    simpa [enumD] using this
theorem it_pairs {g : G0} {N : Addr → Prop} {H H' H2 : Hp} {N' : Addr → Prop} {vs : List V} {l : List D} {i : Nat} {x : V} {T : Addr} {y : V} (r : RepL g N H vs l) (k : Keep N N' H H') (n : NOk N' H') (hx : x = .ref T) (hT : H' T = none) (hH : H2 = upd H' T (.tup [.int (i : Nat), y])) (hy : vs[i]? = some y) (hi : i < l.length) :
    Ext H' H2 ∧ ∃ d, (enumD 0 l)[i]? = some d ∧ Rep g N' H2 x d := by
  subst hx hH
  obtain ⟨v, hv, rv⟩ := r.get (j := i) (d := l[i]) (by simp)
  rw [hy] at hv
  injection hv with hv
  subst hv
  refine ⟨Ext.new hT, _, enumD_get 0 l i l[i] (by simp), .tup upd_same (n.new hT) (.cons ?_ (.cons (Rep.ev (fun _ _ hb _ => (Ext.new hT).at hb) (fun _ _ z => z) _ _ (k.rep rv)) .nil))⟩
  rw [Nat.zero_add]
  exact .int _
theorem it_enum {g : G0} {N : Addr → Prop} {H : Hp} {K : PySem.W.Frag} {a : Addr} {vs : List V} {l : List D} (ha : H a = some (.lst vs)) (na : ¬ N a) (r : RepL g N H vs l) : ItOk g N (Ite K a) (enumD 0 l) H where
  go := fun N' H' i k hi => by
    rw [enumD_len] at hi
    exact ⟨vs, vs[i]'(by rw [r.length]; exact hi), SqL.of (k.at ha na), by simp⟩
  stop := fun N' H' k => ⟨vs, SqL.of (k.at ha na), by rw [enumD_len, r.length]; exact Nat.le_refl _⟩
  yld := fun N' H' i x H'' k n y hi => by
    rw [enumD_len] at hi
    obtain ⟨T, y, e1, e2, e3, e4⟩ := y
    exact it_pairs r k n e1 e2 e3 (e4 vs (SqL.of (k.at ha na))) hi
theorem it_enumT {g : G0} {N : Addr → Prop} {H : Hp} {K : PySem.W.Frag} {a : Addr} {vs : List V} {l : List D} (ha : H a = some (.tup vs)) (na : ¬ N a) (r : RepL g N H vs l) : ItOk g N (ItE K a) (enumD 0 l) H where
  go := fun N' H' i k hi => by
    rw [enumD_len] at hi
    exact ⟨vs, vs[i]'(by rw [r.length]; exact hi), SqT.of (k.at ha na), by simp⟩
  stop := fun N' H' k => ⟨vs, SqT.of (k.at ha na), by rw [enumD_len, r.length]⟩
  yld := fun N' H' i x H'' k n y hi => by
    rw [enumD_len] at hi
    obtain ⟨T, y, e1, e2, e3, e4⟩ := y
    exact it_pairs r k n e1 e2 e3 (e4 vs (SqT.of (k.at ha na))) hi
theorem fi_enum (hm : X.mg "enumerate" = none) (ha : FE X Γ W O .cl a f) (hg : Gl X "enumerate" := by rfl) (hs : starEach [a] X.env = [(false, eval a X.env)] := by rfl) (hs2 : starEach [a] X.env = (false, eval a X.env) :: starEach [] X.env := by rfl) :
    FI X Γ W O (.Tuple elts kk tpos) (.Call (.Name "enumerate" p) [a] [] pos) (Fy.iEnum f) :=
  ⟨fun env st Q Q' X X' hq hx q => ha.mono _ _ _ _ _ _ (fun x s z => mono_seq (fun l z => hq _ _ z) z) hx q, (pi_enumA hg hm ha.pe hs hs2).imp fun σ H R ⟨env, st, Rr, T, q⟩ => ⟨env, st, Rr, T, ha.mono _ _ _ _ _ _ (fun d s z v H1 e1 T1 r1 => by
    cases d <;> first | exact (z : False).elim | skip
    · cases r1 with
      | @lst a vs ds ha na rl => exact ⟨a, rfl, .inl ⟨⟨vs, SqL.of ha⟩, z _ H1 e1 T1 (it_enum ha na rl)⟩⟩
    · cases r1 with
      | @tup a vs ds ha na rl => exact ⟨a, rfl, .inr ⟨⟨vs, SqT.of ha⟩, z _ H1 e1 T1 (it_enumT ha na rl)⟩⟩) (fun _ _ _ z => z) q⟩⟩
end
end Fy
set_option Elab.async false
set_option linter.all false
set_option maxRecDepth 100000
set_option maxHeartbeats 4000000
/-! FyQ: the rules as the printed derivations name them. -/
namespace Fy
open PySem L2

theorem Ctx.w2 {X : Cx} {Γ : G} {W : WX} {k : Nat} (c : Ctx X Γ W k) (b : Bs Γ) : Ctx X (Γ.w2 b) W k := ⟨c.hK, c.hw, c.gd, c.tk, c.room, c.nd, c.hn, c.ex0⟩
theorem Ctx.blk2 {X : Cx} {Γ : G} {W : WX} {k : Nat} (c : Ctx X Γ W k) (b : Bs Γ) (s : Shared) (H : Hp) (scope : Scope) (cenv : PySem.Env) (fp : List Addr) : Ctx (X.blk s H scope cenv fp) (Γ.w2 b) W0 k := c.blk b.1 b.2 s H scope cenv fp
theorem Ctx.u65 {X : Cx} {Γ : G} {W : WX} {k : Nat} (c : Ctx X Γ W k) : X.A.units + 65 < cLine := by have := c.room.un; omega
theorem len_nm {i n : Nat} {fr : FTGs} (h : LenGs n fr) : LenGs (n + 1) (gMore (gNm i) fr) := len_more (fun _ _ _ _ h q => h _ q) h fun _ _ _ q => ⟨_, q⟩
theorem len_tp {n : Nat} {f fr : FTGs} (hf : MonoGs f) (hne : ∀ l env (Q : Env → Prop), f l env Q → ∃ e, Q e) (h : LenGs n fr) : LenGs (n + 1) (gMore (gTp f) fr) := len_more (fun d env Q Q' h q => mono_asTup (fun l z => hf _ _ _ _ h z) q) h fun d env Q q => by
  cases d <;> first | exact (q : False).elim | exact hne _ _ _ q
section
variable {X : Cx} {Γ : G} {W : WX} {O : List Nat} {a b : Expr} {fa fb : FTE} {p pos : Pos} {k : Nat} {x : Str}
theorem fe_add (c : Ctx X Γ W k) (ha : FE X Γ W O .sh a fa) (hb : FE X Γ W O .sh b fb) : FE X Γ W O .cl (.BinOp a .Add b pos) (fOp qAdd fa fb) := fe_bin or_add (by have z := ok_add (Γ := Γ); rw [c.hK] at z; exact z) mono_qAdd ha hb
theorem fe_sub (c : Ctx X Γ W k) (ha : FE X Γ W O .sh a fa) (hb : FE X Γ W O .sh b fb) : FE X Γ W O .cl (.BinOp a .Sub b pos) (fOp qSub fa fb) := fe_bin op_sub ok_sub mono_qSub ha hb
theorem fe_mul (c : Ctx X Γ W k) (ha : FE X Γ W O .sh a fa) (hb : FE X Γ W O .sh b fb) : FE X Γ W O .cl (.BinOp a .Mult b pos) (fOp qMul fa fb) := fe_bin or_mul ok_mul mono_qMul ha hb
theorem fe_div (c : Ctx X Γ W k) (ha : FE X Γ W O .sh a fa) (hb : FE X Γ W O .sh b fb) : FE X Γ W O .cl (.BinOp a .FloorDiv b pos) (fOp qDiv fa fb) := fe_bin op_fdivW ok_div mono_qDiv ha hb
theorem fe_mod (c : Ctx X Γ W k) (ha : FE X Γ W O .sh a fa) (hb : FE X Γ W O .sh b fb) : FE X Γ W O .cl (.BinOp a .Mod b pos) (fOp qMod fa fb) := fe_bin op_mod ok_mod mono_qMod ha hb
theorem fe_pow (c : Ctx X Γ W k) (ha : FE X Γ W O .sh a fa) (hb : FE X Γ W O .sh b fb) : FE X Γ W O .cl (.BinOp a .Pow b pos) (fOp qPow fa fb) := fe_bin op_pow ok_pow mono_qPow ha hb
theorem fe_lt (c : Ctx X Γ W k) (ha : FE X Γ W O .sh a fa) (hb : FE X Γ W O .sh b fb) (hm : behindInMarks .Lt b = false := by rfl) : FE X Γ W O .cl (.Compare a [.Lt] [b] pos) (fOp qLt fa fb) := fe_cmp op_lt ok_lt mono_qLt ha hb hm
theorem fc_lt (c : Ctx X Γ W k) (ha : FE X Γ W O .sh a fa) (hb : FE X Γ W O .sh b fb) (hm : behindInMarks .Lt b = false := by rfl) : FC X Γ W O (.Compare a [.Lt] [b] pos) (fTst (fOp qLt fa fb)) := fc_cmp op_lt ok_lt mono_qLt ha hb hm
theorem fe_le (c : Ctx X Γ W k) (ha : FE X Γ W O .sh a fa) (hb : FE X Γ W O .sh b fb) (hm : behindInMarks .LtE b = false := by rfl) : FE X Γ W O .cl (.Compare a [.LtE] [b] pos) (fOp qLe fa fb) := fe_cmp op_le ok_le mono_qLe ha hb hm
theorem fc_le (c : Ctx X Γ W k) (ha : FE X Γ W O .sh a fa) (hb : FE X Γ W O .sh b fb) (hm : behindInMarks .LtE b = false := by rfl) : FC X Γ W O (.Compare a [.LtE] [b] pos) (fTst (fOp qLe fa fb)) := fc_cmp op_le ok_le mono_qLe ha hb hm
theorem fe_gt (c : Ctx X Γ W k) (ha : FE X Γ W O .sh a fa) (hb : FE X Γ W O .sh b fb) (hm : behindInMarks .Gt b = false := by rfl) : FE X Γ W O .cl (.Compare a [.Gt] [b] pos) (fOp qGt fa fb) := fe_cmp op_gt ok_gt mono_qGt ha hb hm
theorem fc_gt (c : Ctx X Γ W k) (ha : FE X Γ W O .sh a fa) (hb : FE X Γ W O .sh b fb) (hm : behindInMarks .Gt b = false := by rfl) : FC X Γ W O (.Compare a [.Gt] [b] pos) (fTst (fOp qGt fa fb)) := fc_cmp op_gt ok_gt mono_qGt ha hb hm
theorem fe_ge (c : Ctx X Γ W k) (ha : FE X Γ W O .sh a fa) (hb : FE X Γ W O .sh b fb) (hm : behindInMarks .GtE b = false := by rfl) : FE X Γ W O .cl (.Compare a [.GtE] [b] pos) (fOp qGe fa fb) := fe_cmp op_ge ok_ge mono_qGe ha hb hm
theorem fc_ge (c : Ctx X Γ W k) (ha : FE X Γ W O .sh a fa) (hb : FE X Γ W O .sh b fb) (hm : behindInMarks .GtE b = false := by rfl) : FC X Γ W O (.Compare a [.GtE] [b] pos) (fTst (fOp qGe fa fb)) := fc_cmp op_ge ok_ge mono_qGe ha hb hm
theorem fe_eq (c : Ctx X Γ W k) (ha : FE X Γ W O .sh a fa) (hb : FE X Γ W O .sh b fb) (hm : behindInMarks .Eq b = false := by rfl) : FE X Γ W O .cl (.Compare a [.Eq] [b] pos) (fOp qEq fa fb) := fe_cmp (or_eq c.u64) (by have z := ok_eq (Γ := Γ); rw [c.hK] at z; exact z) mono_qEq ha hb hm
theorem fc_eq (c : Ctx X Γ W k) (ha : FE X Γ W O .sh a fa) (hb : FE X Γ W O .sh b fb) (hm : behindInMarks .Eq b = false := by rfl) : FC X Γ W O (.Compare a [.Eq] [b] pos) (fTst (fOp qEq fa fb)) := fc_cmp (or_eq c.u64) (by have z := ok_eq (Γ := Γ); rw [c.hK] at z; exact z) mono_qEq ha hb hm
theorem fe_ne (c : Ctx X Γ W k) (ha : FE X Γ W O .sh a fa) (hb : FE X Γ W O .sh b fb) (hm : behindInMarks .NotEq b = false := by rfl) : FE X Γ W O .cl (.Compare a [.NotEq] [b] pos) (fOp qNe fa fb) := fe_cmp (or_ne c.u64) (by have z := ok_ne (Γ := Γ); rw [c.hK] at z; exact z) mono_qNe ha hb hm
theorem fc_ne (c : Ctx X Γ W k) (ha : FE X Γ W O .sh a fa) (hb : FE X Γ W O .sh b fb) (hm : behindInMarks .NotEq b = false := by rfl) : FC X Γ W O (.Compare a [.NotEq] [b] pos) (fTst (fOp qNe fa fb)) := fc_cmp (or_ne c.u64) (by have z := ok_ne (Γ := Γ); rw [c.hK] at z; exact z) mono_qNe ha hb hm
theorem fe_is (c : Ctx X Γ W k) (ha : FE X Γ W O .sh a fa) (hb : FE X Γ W O .sh b fb) (hm : behindInMarks .Is b = false := by rfl) : FE X Γ W O .cl (.Compare a [.Is] [b] pos) (fOp qIs fa fb) := fe_cmp or_is ok_is mono_qIs ha hb hm
theorem fc_is (c : Ctx X Γ W k) (ha : FE X Γ W O .sh a fa) (hb : FE X Γ W O .sh b fb) (hm : behindInMarks .Is b = false := by rfl) : FC X Γ W O (.Compare a [.Is] [b] pos) (fTst (fOp qIs fa fb)) := fc_cmp or_is ok_is mono_qIs ha hb hm
theorem fe_isnot (c : Ctx X Γ W k) (ha : FE X Γ W O .sh a fa) (hb : FE X Γ W O .sh b fb) (hm : behindInMarks .IsNot b = false := by rfl) : FE X Γ W O .cl (.Compare a [.IsNot] [b] pos) (fOp qIsNot fa fb) := fe_cmp or_isnot ok_isnot mono_qIsNot ha hb hm
theorem fc_isnot (c : Ctx X Γ W k) (ha : FE X Γ W O .sh a fa) (hb : FE X Γ W O .sh b fb) (hm : behindInMarks .IsNot b = false := by rfl) : FC X Γ W O (.Compare a [.IsNot] [b] pos) (fTst (fOp qIsNot fa fb)) := fc_cmp or_isnot ok_isnot mono_qIsNot ha hb hm
theorem any_py {l : List D} {x : D} (ox : ok x = true) (ol : ok (.lst l) = true) : ((toPys l).any fun z => PyData.eqv z (toPy x)) = l.any fun y => y.eqv x := by
  have hl : l.all (okN 59) = true := ol
  clear ol
  induction l with
  | nil => rfl
  | cons y r ih =>
    rw [List.all_cons, Bool.and_eq_true] at hl
    rw [toPys, List.any_cons, List.any_cons, eqv_py 59 60 y x hl.1 ox, ih hl.2]
theorem mono_qIn : Mono2 qIn := by intro x y Q Q' h q; cases y <;> first | exact (q : False).elim | exact ⟨q.1, q.2.1, h _ q.2.2⟩
theorem mono_qNotIn : Mono2 qNotIn := by intro x y Q Q' h q; cases y <;> first | exact (q : False).elim | exact ⟨q.1, q.2.1, h _ q.2.2⟩
def toV : D → V
  | .non => .non
  | .bl b => .bl b
  | .int i => .int i
  | .str x => .str x
  | _ => .non
theorem rep_fl {g : G0} {N : Addr → Prop} {H : Hp} {v : V} {d : D} (r : Rep g N H v d) (f : flD d = true) : v = toV d ∧ flatV v = true := by
  cases d <;> first | (cases f; done) | skip
  all_goals (cases r; exact ⟨rfl, rfl⟩)
theorem sh_fl {N : Addr → Prop} {H : Hp} {v : V} {d : D} (r : Sh Γ N H v d) (f : flD d = true) : v = toV d ∧ flatV v = true := by
  rcases r with r | ⟨a, hv, nz, ow⟩
  · exact rep_fl r f
  · cases d <;> first | (cases f; done) | exact (ow : False).elim
theorem reps_fl {g : G0} {N : Addr → Prop} {H : Hp} : ∀ {vs : List V} {l : List D}, RepL g N H vs l → l.all flD = true → vs = l.map toV ∧ vs.all flatV = true
  | _, _, .nil, _ => ⟨rfl, rfl⟩
  | _, _, .cons r1 r2, h => by
    rw [List.all_cons, Bool.and_eq_true] at h
    obtain ⟨e1, e2⟩ := rep_fl r1 h.1
    obtain ⟨e3, e4⟩ := reps_fl r2 h.2
    exact ⟨by rw [e1, e3]; rfl, by rw [List.all_cons, e2, e4]; rfl⟩
theorem eqv_fl {y x : D} (fy : flD y = true) (fx : flD x = true) : eqV (toV y) (toV x) = y.eqv x := by
  cases y <;> first | (cases fy; done) | skip
  all_goals (cases x <;> first | (cases fx; done) | rfl)
theorem inV_fl {x : D} (fx : flD x = true) : ∀ {l : List D}, l.all flD = true → inV (toV x) (l.map toV) = l.any fun y => y.eqv x
  | [], _ => rfl
  | y :: l, h => by
    rw [List.all_cons, Bool.and_eq_true] at h
    show (eqV (toV y) (toV x) || inV (toV x) (l.map toV)) = _
    rw [eqv_fl h.1 fx, inV_fl fx h.2]
    rfl
def rIn2 (K : PySem.W.Frag) : R2 := fun x y H Q => rInD K x y H Q ∨ rIn K false x y H Q
def rNotIn2 (K : PySem.W.Frag) : R2 := fun x y H Q => rNotInD K x y H Q ∨ rIn K true x y H Q
theorem op_in2 (hu : X.A.units + 65 < cLine) : OpR X (compareOp .In) (rIn2 X.K) := fun pins s σ H x y v u Q I rx ry h => h.elim (op_inD hu pins s σ H x y v u Q I rx ry) (op_in_seq pins s σ H x y v u Q I rx ry)
theorem op_notIn2 (hu : X.A.units + 65 < cLine) : OpR X (compareOp .NotIn) (rNotIn2 X.K) := fun pins s σ H x y v u Q I rx ry h => h.elim (op_notInD hu pins s σ H x y v u Q I rx ry) (op_notIn_seq pins s σ H x y v u Q I rx ry)
theorem ok_in : Op2Ok Γ qIn (rIn2 Γ.g.K) := by
  intro N H x y dx dy Qd Q n rx ry q k
  cases dy <;> first | exact (q : False).elim | skip
  · obtain ⟨o1, o2, q⟩ := q
    refine .inl ⟨toPy dx, toPys _, rx.dp o1, ry.dp o2, ok_shaped o1, ok_shaped o2, ?_⟩
    rw [any_py o1 o2]
    exact k _ H _ Ext.refl (.bl _) q
  · obtain ⟨o1, o2, q⟩ := q
    obtain ⟨a, vs, rfl, ha, na, r1⟩ := ry.tup
    obtain ⟨e1, e2⟩ := sh_fl rx o1
    obtain ⟨e3, e4⟩ := reps_fl r1 o2
    refine .inr ⟨a, vs, rfl, .inr (SqT.of ha), e2, e4, ?_⟩
    rw [if_neg Bool.false_ne_true, e1, e3, inV_fl o1 o2]
    exact k _ H _ Ext.refl (.bl _) q
theorem ok_notin : Op2Ok Γ qNotIn (rNotIn2 Γ.g.K) := by
  intro N H x y dx dy Qd Q n rx ry q k
  cases dy <;> first | exact (q : False).elim | skip
  · obtain ⟨o1, o2, q⟩ := q
    refine .inl ⟨toPy dx, toPys _, rx.dp o1, ry.dp o2, ok_shaped o1, ok_shaped o2, ?_⟩
    rw [any_py o1 o2]
    exact k _ H _ Ext.refl (.bl _) q
  · obtain ⟨o1, o2, q⟩ := q
    obtain ⟨a, vs, rfl, ha, na, r1⟩ := ry.tup
    obtain ⟨e1, e2⟩ := sh_fl rx o1
    obtain ⟨e3, e4⟩ := reps_fl r1 o2
    refine .inr ⟨a, vs, rfl, .inr (SqT.of ha), e2, e4, ?_⟩
    rw [if_pos rfl, e1, e3, inV_fl o1 o2]
    exact k _ H _ Ext.refl (.bl _) q
theorem fe_in (c : Ctx X Γ W k) (ha : FE X Γ W O .sh a fa) (hb : FE X Γ W O .sh b fb) (hm : behindInMarks .In b = false := by rfl) : FE X Γ W O .cl (.Compare a [.In] [b] pos) (fOp qIn fa fb) := fe_cmp (op_in2 c.u65) (by have z := ok_in (Γ := Γ); rw [c.hK] at z; exact z) mono_qIn ha hb hm
theorem fc_in (c : Ctx X Γ W k) (ha : FE X Γ W O .sh a fa) (hb : FE X Γ W O .sh b fb) (hm : behindInMarks .In b = false := by rfl) : FC X Γ W O (.Compare a [.In] [b] pos) (fTst (fOp qIn fa fb)) := fc_cmp (op_in2 c.u65) (by have z := ok_in (Γ := Γ); rw [c.hK] at z; exact z) mono_qIn ha hb hm
theorem fe_notin (c : Ctx X Γ W k) (ha : FE X Γ W O .sh a fa) (hb : FE X Γ W O .sh b fb) (hm : behindInMarks .NotIn b = false := by rfl) : FE X Γ W O .cl (.Compare a [.NotIn] [b] pos) (fOp qNotIn fa fb) := fe_cmp (op_notIn2 c.u65) (by have z := ok_notin (Γ := Γ); rw [c.hK] at z; exact z) mono_qNotIn ha hb hm
theorem fc_notin (c : Ctx X Γ W k) (ha : FE X Γ W O .sh a fa) (hb : FE X Γ W O .sh b fb) (hm : behindInMarks .NotIn b = false := by rfl) : FC X Γ W O (.Compare a [.NotIn] [b] pos) (fTst (fOp qNotIn fa fb)) := fc_cmp (op_notIn2 c.u65) (by have z := ok_notin (Γ := Γ); rw [c.hK] at z; exact z) mono_qNotIn ha hb hm
theorem fe_neg (c : Ctx X Γ W k) (ha : FE X Γ W O .sh a fa) : FE X Γ W O .cl (.UnaryOp .USub a pos) (fUn qNeg fa) := fe_un un_neg ok_neg mono_qNeg ha
theorem fe_len (c : Ctx X Γ W k) (hm : X.mg "len" = none) (ha : FE X Γ W O .sh a fa) (hc : X.calm = true := by rfl) (hg : Gl X "len" := by rfl) (he : starEach [a] X.env = (false, eval a X.env) :: starEach [] X.env := by rfl) (hpl : (backTo pos (starEach [] X.env)).any (·.1) = false := by rfl) : FE X Γ W O .cl (.Call (.Name "len" p) [a] [] pos) (fUn qLen fa) := fe_b1 or_len (by have z := ok_len (Γ := Γ); rw [c.hK] at z; exact z) mono_qLen hm ha hg (he := he) (hpl := hpl)
theorem fe_abs (c : Ctx X Γ W k) (hm : X.mg "abs" = none) (ha : FE X Γ W O .sh a fa) (hc : X.calm = true := by rfl) (hg : Gl X "abs" := by rfl) (he : starEach [a] X.env = (false, eval a X.env) :: starEach [] X.env := by rfl) (hpl : (backTo pos (starEach [] X.env)).any (·.1) = false := by rfl) : FE X Γ W O .cl (.Call (.Name "abs" p) [a] [] pos) (fUn qAbs fa) := fe_b1 call_abs ok_abs mono_qAbs hm ha hg (he := he) (hpl := hpl)
theorem fe_sum (c : Ctx X Γ W k) (hm : X.mg "sum" = none) (ha : FE X Γ W O .sh a fa) (hc : X.calm = true := by rfl) (hg : Gl X "sum" := by rfl) (he : starEach [a] X.env = (false, eval a X.env) :: starEach [] X.env := by rfl) (hpl : (backTo pos (starEach [] X.env)).any (·.1) = false := by rfl) : FE X Γ W O .cl (.Call (.Name "sum" p) [a] [] pos) (fUn qSum fa) := fe_b1 (cr_sum hc) (by have z := ok_sum (Γ := Γ); rw [c.hK] at z; exact z) mono_qSum hm ha hg (he := he) (hpl := hpl)
theorem fe_min (c : Ctx X Γ W k) (hm : X.mg "min" = none) (ha : FE X Γ W O .sh a fa) (hc : X.calm = true := by rfl) (hg : Gl X "min" := by rfl) (he : starEach [a] X.env = (false, eval a X.env) :: starEach [] X.env := by rfl) (hpl : (backTo pos (starEach [] X.env)).any (·.1) = false := by rfl) : FE X Γ W O .cl (.Call (.Name "min" p) [a] [] pos) (fUn qMin fa) := fe_b1 (cr_min hc) (by have z := ok_min (Γ := Γ); rw [c.hK] at z; exact z) mono_qMin hm ha hg (he := he) (hpl := hpl)
theorem fe_max (c : Ctx X Γ W k) (hm : X.mg "max" = none) (ha : FE X Γ W O .sh a fa) (hc : X.calm = true := by rfl) (hg : Gl X "max" := by rfl) (he : starEach [a] X.env = (false, eval a X.env) :: starEach [] X.env := by rfl) (hpl : (backTo pos (starEach [] X.env)).any (·.1) = false := by rfl) : FE X Γ W O .cl (.Call (.Name "max" p) [a] [] pos) (fUn qMax fa) := fe_b1 (cr_max hc) (by have z := ok_max (Γ := Γ); rw [c.hK] at z; exact z) mono_qMax hm ha hg (he := he) (hpl := hpl)
theorem fe_all (c : Ctx X Γ W k) (hm : X.mg "all" = none) (ha : FE X Γ W O .sh a fa) (hc : X.calm = true := by rfl) (hg : Gl X "all" := by rfl) (he : starEach [a] X.env = (false, eval a X.env) :: starEach [] X.env := by rfl) (hpl : (backTo pos (starEach [] X.env)).any (·.1) = false := by rfl) : FE X Γ W O .cl (.Call (.Name "all" p) [a] [] pos) (fUn qAll fa) := fe_b1 (cr_all hc) (by have z := ok_all (Γ := Γ); rw [c.hK] at z; exact z) mono_qAll hm ha hg (he := he) (hpl := hpl)
theorem fe_any (c : Ctx X Γ W k) (hm : X.mg "any" = none) (ha : FE X Γ W O .sh a fa) (hc : X.calm = true := by rfl) (hg : Gl X "any" := by rfl) (he : starEach [a] X.env = (false, eval a X.env) :: starEach [] X.env := by rfl) (hpl : (backTo pos (starEach [] X.env)).any (·.1) = false := by rfl) : FE X Γ W O .cl (.Call (.Name "any" p) [a] [] pos) (fUn qAny fa) := fe_b1 (cr_any hc) (by have z := ok_any (Γ := Γ); rw [c.hK] at z; exact z) mono_qAny hm ha hg (he := he) (hpl := hpl)
theorem fe_sorted (c : Ctx X Γ W k) (hm : X.mg "sorted" = none) (ha : FE X Γ W O .sh a fa) (hc : X.calm = true := by rfl) (hg : Gl X "sorted" := by rfl) (he : starEach [a] X.env = (false, eval a X.env) :: starEach [] X.env := by rfl) (hpl : (backTo pos (starEach [] X.env)).any (·.1) = false := by rfl) : FE X Γ W O .cl (.Call (.Name "sorted" p) [a] [] pos) (fUn qSorted fa) := fe_b1 (or_sorted hc) (by have z := ok_sorted (Γ := Γ); rw [c.hK, c.hw] at z; exact z) mono_qSorted hm ha hg (he := he) (hpl := hpl)
theorem fe_repr (c : Ctx X Γ W k) (hm : X.mg "repr" = none) (ha : FE X Γ W O .sh a fa) (hc : X.calm = true := by rfl) (hg : Gl X "repr" := by rfl) (he : starEach [a] X.env = (false, eval a X.env) :: starEach [] X.env := by rfl) (hpl : (backTo pos (starEach [] X.env)).any (·.1) = false := by rfl) : FE X Γ W O .cl (.Call (.Name "repr" p) [a] [] pos) (fUn qRepr fa) := fe_b1 (or_repr c.gd c.u128) (by have z := ok_repr (Γ := Γ); rw [c.hK] at z; exact z) mono_qRepr hm ha hg (he := he) (hpl := hpl)
theorem fe_toint (c : Ctx X Γ W k) (hm : X.mg "int" = none) (ha : FE X Γ W O .sh a fa) (hc : X.calm = true := by rfl) (hg : Gl X "int" := by rfl) (he : starEach [a] X.env = (false, eval a X.env) :: starEach [] X.env := by rfl) (hpl : (backTo pos (starEach [] X.env)).any (·.1) = false := by rfl) : FE X Γ W O .cl (.Call (.Name "int" p) [a] [] pos) (fUn qInt fa) := fe_t1 call_int1 ok_int mono_qInt hm ha hg (he := he) (hpl := hpl)
theorem fe_tuple (c : Ctx X Γ W k) (hm : X.mg "tuple" = none) (ha : FE X Γ W O .sh a fa) (hc : X.calm = true := by rfl) (hg : Gl X "tuple" := by rfl) (he : starEach [a] X.env = (false, eval a X.env) :: starEach [] X.env := by rfl) (hpl : (backTo pos (starEach [] X.env)).any (·.1) = false := by rfl) : FE X Γ W O .cl (.Call (.Name "tuple" p) [a] [] pos) (fUn qTuple fa) := fe_t1 call_tuple_of (by have z := ok_tuple (Γ := Γ); rw [c.hK] at z; exact z) mono_qTuple hm ha hg (he := he) (hpl := hpl)
theorem fe_set (c : Ctx X Γ W k) (hm : X.mg "set" = none) (ha : FE X Γ W O .sh a fa) (hc : X.calm = true := by rfl) (hg : Gl X "set" := by rfl) (he : starEach [a] X.env = (false, eval a X.env) :: starEach [] X.env := by rfl) (hpl : (backTo pos (starEach [] X.env)).any (·.1) = false := by rfl) : FE X Γ W O .cl (.Call (.Name "set" p) [a] [] pos) (fUn qSetL fa) := fe_t1 (call_setL hc) (by have z := ok_setL (Γ := Γ); rw [c.hK, c.hw] at z; exact z) mono_qSetL hm ha hg (he := he) (hpl := hpl)
theorem fe_listF (c : Ctx X Γ W k) (hm : X.mg "list" = none) (ha : FE X Γ W O .sh a fa) (hg : Gl X "list" := by rfl) (he : starEach [a] X.env = (false, eval a X.env) :: starEach [] X.env := by rfl) (hpl : (backTo pos (starEach [] X.env)).any (·.1) = false := by rfl) : FE X Γ W O .fr (.Call (.Name "list" p) [a] [] pos) (fUn qList fa) := fe_t1F call_list_of (by have z := fr_list (Γ := Γ); rw [c.hK] at z; exact z) mono_qList hm ha hg (he := he) (hpl := hpl)
theorem fe_max2 (c : Ctx X Γ W k) (hm : X.mg "max" = none) (ha : FE X Γ W O .sh a fa) (hb : FE X Γ W O .sh b fb) (hg : Gl X "max" := by rfl) (hc : X.calm = true := by rfl) (he : starEach [a, b] X.env = (false, eval a X.env) :: starEach [b] X.env := by rfl) (he2 : starEach [b] X.env = (false, eval b X.env) :: starEach [] X.env := by rfl) (hpl : (backTo pos (starEach [b] X.env)).any (·.1) = false := by rfl) : FE X Γ W O .cl (.Call (.Name "max" p) [a, b] [] pos) (fOp qMax2 fa fb) := fe_b2 (call_max2 hc) ok_max2 mono_qMax2 hm ha hb hg (he := he) (he2 := he2) (hpl := hpl)
theorem fe_min2 (c : Ctx X Γ W k) (hm : X.mg "min" = none) (ha : FE X Γ W O .sh a fa) (hb : FE X Γ W O .sh b fb) (hg : Gl X "min" := by rfl) (hc : X.calm = true := by rfl) (he : starEach [a, b] X.env = (false, eval a X.env) :: starEach [b] X.env := by rfl) (he2 : starEach [b] X.env = (false, eval b X.env) :: starEach [] X.env := by rfl) (hpl : (backTo pos (starEach [b] X.env)).any (·.1) = false := by rfl) : FE X Γ W O .cl (.Call (.Name "min" p) [a, b] [] pos) (fOp qMin2 fa fb) := fe_b2 (call_min2 hc) ok_min2 mono_qMin2 hm ha hb hg (he := he) (he2 := he2) (hpl := hpl)
end
/-! monotone -/
section
variable {f g : FTS} {fe fa fb fd : FTE} {fc : FTC} {fr : FTA} {fit : FTI} {fg : FTG} {fgs : FTGs} {fl fh : FTO} {i j l : Nat} {vs : List Nat}
theorem mono_Seq (hf : MonoS f) (hg : MonoS g) : MonoS (sSeq f g) := fun E E' env st l q => hf _ _ _ _ (l.setNx fun e s z => hg _ _ _ _ l z) q
theorem mono_If (hc : MonoC fc) (hf : MonoS f) (hg : MonoS g) : MonoS (sIf fc f g) := fun E E' env st l z => hc _ _ _ _ _ _ (fun k s z => by
  cases k with
  | true => exact hf _ _ _ _ l z
  | false => exact hg _ _ _ _ l z) (l.ex _) z
theorem mono_RetN : MonoS sRetN := fun _ _ _ _ l q => l.rt _ _ q
theorem mono_Brk : MonoS sBrk := fun _ _ _ _ l q => l.bk _ _ q
theorem mono_Cnt : MonoS sCnt := fun _ _ _ _ l q => l.ct _ _ q
theorem mono_Exp (h : MonoE fe) : MonoS (sExp fe) := fun _ _ _ _ l q => h _ _ _ _ _ _ (fun _ _ z => l.nx _ _ z) (l.ex _) q
theorem mono_For (hi : MonoI fit) (hg : MonoG fg) (hb : MonoS f) : MonoS (sFor fit fg f) := fun E E' env st l q => hi _ _ _ _ _ _ (fun ds s z => mono_forL hg hb _ _ _ _ _ l z) (l.ex _) q
theorem mono_Par2 (ha : MonoE fa) (hb : MonoE fb) : MonoS (sPar2 i j fa fb) := fun _ _ _ _ l q => ha _ _ _ _ _ _ (fun x s z => hb _ _ _ _ _ _ (fun y s z => l.nx _ _ z) (l.ex _) z) (l.ex _) q
theorem mono_Par3 (ha : MonoE fa) (hb : MonoE fb) (hd : MonoE fd) : MonoS (sPar3 i j l fa fb fd) := fun _ _ _ _ l q => ha _ _ _ _ _ _ (fun x s z => hb _ _ _ _ _ _ (fun y s z => hd _ _ _ _ _ _ (fun w s z => l.nx _ _ z) (l.ex _) z) (l.ex _) z) (l.ex _) q
theorem mono_StL (ha : MonoE fa) (hb : MonoE fb) : MonoS (sStL i fa fb) := fun E E' env st l q => hb _ _ _ _ _ _ (fun d s z => ha _ _ _ _ _ _ (fun kd s z => by
  cases hl : look env i with
  | none => rw [hl] at z; exact z.elim
  | some dd =>
    rw [hl] at z
    cases dd <;> first | exact z.elim | skip
    cases kd <;> first | exact z.elim | skip
    exact ⟨z.choose, z.choose_spec.1, l.nx _ _ z.choose_spec.2⟩) (l.ex _) z) (l.ex _) q
theorem mono_Raise {tag : Nat} (ha : MonoE fa) : MonoS (sRaise tag fa) := fun _ _ _ _ l q => ha _ _ _ _ _ _ (fun d s z => l.ex _ _ _ _ z) (fun _ _ _ z => z) q
theorem mono_Try {tags : Nat → Bool} (hf : MonoS f) (hg : MonoS g) : MonoS (sTry f tags i g) := fun E E' env st l q => hf (tryE E tags i g) (tryE E' tags i g) _ _ ⟨l.nx, l.rt, l.bk, l.ct, fun e t d s z => by
  by_cases ht : tags t = true
  · unfold tryE at z ⊢
    simp only [ht, if_true] at z ⊢
    exact hg (sutE E) (sutE E') _ _ ⟨fun _ _ z => z, fun _ _ z => ⟨z.1, l.rt _ _ z.2⟩, fun _ _ z => z, fun _ _ z => z, fun _ _ _ _ z => z⟩ z
  · unfold tryE at z ⊢
    simp only [ht, if_false] at z ⊢
    exact l.ex _ _ _ _ z⟩ q
theorem mono_aNil : MonoA aNil := fun _ _ _ _ _ _ h _ q => h _ _ q
theorem mono_aStar (ha : MonoE fa) (hr : MonoA fr) : MonoA (aStar fa fr) := fun env st Q Q' X X' h hx q => ha _ _ _ _ _ _ (fun x s1 z => mono_seq (fun l z => hr _ _ _ _ _ _ (fun xs s2 z => h _ _ z) hx z) z) hx q
theorem mono_cYes : MonoC cYes := fun _ _ _ _ _ _ h _ q => h _ _ q
theorem mono_iSeq (ha : MonoE fa) : MonoI (iSeq fa) := fun env st Q Q' X X' h hx q => ha _ _ _ _ _ _ (fun x s z => mono_seq (fun l z => h _ _ z) z) hx q
theorem mono_iEnum (ha : MonoE fa) : MonoI (iEnum fa) := fun env st Q Q' X X' h hx q => ha _ _ _ _ _ _ (fun x s z => mono_seq (fun l z => h _ _ z) z) hx q
theorem mono_iRng1 (ha : MonoE fa) : MonoI (iRng1 fa) := fun env st Q Q' X X' h hx q => ha _ _ _ _ _ _ (fun x s z => by
  cases x <;> first | exact (z : False).elim | exact ⟨z.1, h _ _ z.2⟩) hx q
theorem mono_iRng2 (ha : MonoE fa) (hb : MonoE fb) : MonoI (iRng2 fa fb) := fun env st Q Q' X X' h hx q => ha _ _ _ _ _ _ (fun x s z => hb _ _ _ _ _ _ (fun y s z => by
  cases x <;> cases y <;> first | exact (z : False).elim | exact ⟨z.1, h _ _ z.2⟩) hx z) hx q
theorem mono_gNm : MonoG (gNm i) := fun _ _ _ _ h q => h _ q
theorem mono_gNil : MonoGs gNil := fun _ _ _ _ h q => ⟨q.1, h _ q.2⟩
theorem mono_gMore (h : MonoG fg) (h2 : MonoGs fgs) : MonoGs (gMore fg fgs) := fun ds env Q Q' hq q => by
  cases ds with
  | nil => exact q.elim
  | cons d r => exact h _ _ _ _ (fun e z => h2 _ _ _ _ hq z) q
theorem mono_gTp (h : MonoGs fgs) : MonoG (gTp fgs) := fun d env Q Q' hq q => mono_asTup (fun l z => h _ _ _ _ hq z) q
theorem mono_oNone : MonoO oNone := fun _ _ _ _ _ _ h _ q => h _ _ q
theorem mono_Cut (ha : MonoE fa) (hl : MonoO fl) (hh : MonoO fh) : MonoE (fCut fa fl fh) := fun env st Q Q' X X' h hx q => ha _ _ _ _ _ _ (fun x s1 z => hl _ _ _ _ _ _ (fun l s2 z => hh _ _ _ _ _ _ (fun h2 s3 z => mono_qCut _ _ _ (fun r => h r s3) z) hx z) hx z) hx q
theorem mono_qRev : Mono1 qRev := by intro x Q Q' h q; cases x <;> first | exact (q : False).elim | exact h _ q
theorem mono_qAt : Mono1 qAt := by intro x Q Q' h q; cases x <;> first | exact (q : False).elim | exact h _ q
end
/-! a comprehension's names -/
def blkB (N : List Str) (sc scope : Scope) (own : List (Str × Nat)) : Bool :=
  decide (scope.kind = .function) && (scope.names.all (fun y => decide (scope.names.lookup y.1 = some y.2)) && (own.all (fun p => decide (N[p.2]? = some p.1)) &&
    (scope.names.all (fun y => !decide (y.2 = .free) || (decide (sc.names.lookup y.1 = some .cell) || decide (sc.names.lookup y.1 = some .free))) &&
      scope.names.all (fun y => !(decide (y.2 = .local) || decide (y.2 = .cell)) || (decide (y.1 ∈ own.map (·.1)) || decide (y.1 ∉ N))))))
theorem blk_ok {N : List Str} {sc scope : Scope} {own : List (Str × Nat)} (h : blkB N sc scope own = true) : BlkOk N sc scope own := by
  unfold blkB at h
  simp only [Bool.and_eq_true, List.all_eq_true, decide_eq_true_eq, Bool.or_eq_true, Bool.not_eq_true', decide_eq_false_iff_not] at h
  obtain ⟨h1, h2, h3, h4, h5⟩ := h
  refine ⟨h1, h2, h3, fun y hy e => ?_, fun y hy e => ?_⟩
  · rcases h4 y hy with z | z
    · exact absurd e z
    · exact z
  · rcases h5 y hy with z | z
    · rcases e with e | e <;> simp [e] at z
    · exact z
end Fy
set_option Elab.async false
set_option linter.all false
set_option maxRecDepth 100000
set_option maxHeartbeats 4000000
/-! FyR: what is taken from the written part. -/
namespace Fy
open PySem L2 PySem.W

/-- a def of the text -/
def D0 (K : Frag) (x : Str) (st : Stmt) : Prop := ∃ (f : Addr) (fd : FuncData), nsIn K mainGlobals x = some (some (.ref f)) ∧ Fun K x x st f fd
theorem d0_mk {K : Frag} {x : Str} {st : Stmt} {f : Addr} {oc kV dc pm cd ct : Value} {od an : Option Addr} {sl : Array (Option Value)} (a : nsIn K mainGlobals x = some (some (.ref f)))
    (l : K.lookup f = some ⟨oc, od, .func (fnOf x x (defArgs st) (defBody st) (defScope st) .none kV dc pm an cd ct), sl⟩) (c : codeIn K cd x = true) (k : keepIn K (.ref f) = true) : D0 K x st := ⟨f, _, a, fun_mk l c k⟩
/-- an own error class of the text -/
def E0 (P : Program) (K : Frag) (x : Str) (C : Addr) : Prop := nsIn K mainGlobals x = some (some (.ref C)) ∧ ∀ mg : Str → Option Value, mg x = some (.ref C) → mg "super" = none → OwnE P K mg x C
theorem e0_mk {P : Program} {K : Frag} {x : Str} {C fI cc cda N : Addr} {nm q : Str} {bs bm sub : List Value} {sn : List Str} {ab : Bool} {col : Option Bool} {dd : Option Addr} {m0 m1 m2 m3 m5 : Option Value}
    {name qual : Str} {params : Arguments} {txt : Str} {j : Nat} {p0 p1 p2 p3 p4 p5 p6 p7 p8 p9 : Pos} {scope : Scope} {dV kV doc pm cdv ct oc : Value} {an od : Option Addr} {osl : Array (Option Value)} {ccl cl : Value} {cdd cld : Option Addr} {ccs csl : Array (Option Value)} {vs : Array Value} {file : Str} {tf : Tok} {ar : Arg} {cdD : ClassData}
    (aC : nsIn K mainGlobals x = some (some (.ref C)))
    (xL : K.lookup C = some (excClassObj nm q C N bs bm true sn sub ab col dd m0 m1 m2 m3 m5 "ValueError.__new__")) (hb : PySem.HandSPX.refsVE bm = true)
    (sa : findIn K (.ref C) "__setattr__" = some (some (.builtin "object.__setattr__"))) (eC : subIn K (.ref C) (.type "BaseException") = some true) (tC : typeIn K (.ref C) = some (.type "type")) (kC : keepIn K (.ref C) = true)
    (nb : findIn K (.ref C) "at" = some none) (su : ks_superIn K C C "__init__" = some (some (.builtin "ValueError.__init__"))) (sv : subIn K (.ref C) (.type "ValueError") = some true) (mr : mroIn K C (.ref C) = some true)
    (ga : findIn K (.ref C) "__getattribute__" = some (some (.builtin "BaseException.__getattribute__"))) (gg : findIn K (.ref C) "__getattr__" = some none) (hd : hasDictIn K C = true)
    (a1 : findIn K (.ref C) "__init__" = some (some (.ref fI))) (t1 : typeIn K (.ref fI) = some (.type "function"))
    (l1 : K.lookup fI = some ⟨oc, od, .func (fnX name qual params (siBody txt j p0 p1 p2 p3 p4 p5 p6 p7 p8 p9) scope [("__class__", cc)] dV kV doc pm an cdv ct), osl⟩) (c1 : codeIn K cdv qual = true) (e1 : cdv = .ref cda)
    (lc : K.lookup cda = some ⟨ccl, cdd, .fields vs, ccs⟩) (hv : vs[2]? = some (.str file tf)) (hf : ((P.main.file : Str) == file) = true) (lcc : K.lookup cc = some ⟨cl, cld, .cell (some (.ref C)), csl⟩) (hD : clsIn K C = some cdD)
    (par : (params.posonlyargs ++ params.args).head? = some ar) (par2 : ar.arg = "self") (sk : scope.kind = .function ∧ scope.isCoroutine = false ∧ scope.isGenerator = false) (sc : ∀ x ∈ scope.names, x.2 ≠ .cell)
    (s1 : scope.names.lookup ("self" : Str) = some .local) (s2 : scope.names.lookup ("at" : Str) = some .local) (s3 : scope.names.lookup ("super" : Str) = some .globalImplicit) (s4 : scope.names.lookup ("__class__" : Str) = some .free) (sic : SiCall txt j p0 p1 p2 p3 p4)
    (top : (P.main.scope.names.lookup ("super" : Str)).isSome = false) (any : nsIn K cStatics "thirdparty.any" = some none)
    (bn : ∀ (s : Shared) (us : List Value), us.length = 2 → BindsTo s (fnX name qual params (siBody txt j p0 p1 p2 p3 p4 p5 p6 p7 p8 p9) scope [("__class__", cc)] dV kV doc pm an cdv ct) ⟨us, []⟩ ((["self", "at"] : List Str).zip us)) : E0 P K x C := by
  refine ⟨aC, fun mg gm sup => ⟨⟨⟨nm, q, N, bs, bm, sn, sub, ab, col, dd, m0, m1, m2, m3, m5, xL, hb⟩, sa, eC, tC, kC⟩, nb, su, sv, mr, ⟨ga, gg, eC, hd⟩, gm, fI, _, a1, t1, ⟨⟨name, qual, params, txt, j, p0, p1, p2, p3, p4, p5, p6, p7, p8, p9, scope, dV, kV, doc, pm, cdv, ct, oc, an, od, osl, cc, cda, ccl, cl, cdd, cld, ccs, csl, vs, file, tf, ar, cdD, rfl, l1, c1, e1, lc, hv, hf, lcc, hD, par, par2, sk, sc, s1, s2, s3, s4, sic⟩, sup, top, any⟩, fun s us _ hl => ?_⟩⟩
  have hl' : us.length = 2 := by
    rw [List.append_nil] at hl
    exact hl
  have z := bn s us hl'
  rw [List.append_nil]
  exact z
theorem d0_def {K : Frag} {x : Str} {st : Stmt} {h : Heap} {mg : Str → Option Value} (X : K.In h) (G : h.Ns mainGlobals mg) (d : D0 K x st) : ∃ (f : Addr) (fd : FuncData), mg x = some (.ref f) ∧ Fun K x x st f fd := by
  obtain ⟨f, fd, a, F⟩ := d
  exact ⟨f, fd, mg_of X G a, F⟩
end Fy
set_option Elab.async false
set_option linter.all false
set_option maxRecDepth 100000
set_option maxHeartbeats 4000000
/-! FyS: several except clauses, with and without a name. -/
namespace Fy
open PySem L2 PySem.Spec PyProof.Rows

/-- one clause: what it names, the slot of its name, what its suite asks -/
abbrev Cl := Value × Option Nat × (Addr → Value → Option Addr → TS)
def offE (D : L2.Ends) : Option Nat → L2.Ends
  | none => D
  | some i => { nx := fun τ G => D.nx (τ.set i none) G, rt := D.rt, bk := fun τ G => D.bk (τ.set i none) G, ct := fun τ G => D.ct (τ.set i none) G }
def onS (τ : L2.St) (a : Addr) : Option Nat → L2.St
  | none => τ
  | some i => τ.set i (some (.ref a))
def wCl (K : PySem.W.Frag) (Wo : WX) (D : L2.Ends) : List Cl → WX
  | [] => Wo
  | q :: r => fun cls d τ G => ∃ b, PySem.W.exmOne K cls q.1 = some b ∧ (b = true → ∀ a, G a = none → q.2.2 a cls d (offE D q.2.1) (onS τ a q.2.1) G) ∧ (b = false → wCl K Wo D r cls d τ G)
def SuOk (X : Cx) (l : List Stmt) (ts : Addr → Value → Option Addr → TS) : Prop :=
  ∀ (a : Addr) (oe : Obj) (cls : Value) (d : Option Addr) (pn : List (Addr × Obj)), Zc cls d oe → (∃ vs, oe.data = .fields vs) → PSs (X.suite a ((a, oe) :: pn)) l (ts a cls d)
inductive ClOk (X : Cx) : List ExceptHandler → List Cl → Prop
  | nil : ClOk X [] []
  | nm {x n : Str} {c : Value} {i : Nat} {ts : Addr → Value → Option Addr → TS} {b : Stmt} {l : List Stmt} {p p' : Pos} {hs : List ExceptHandler} {r : List Cl} : Names X x c → X.N[i]? = some n → X.env.kindOf n = some .local → SuOk X (b :: l) ts → ClOk X hs r →
      ClOk X (.ExceptHandler (some (.Name x p)) (some n) (b :: l) p' :: hs) ((c, some i, ts) :: r)
  | no {x : Str} {c : Value} {ts : Addr → Value → Option Addr → TS} {b : Stmt} {l : List Stmt} {p p' : Pos} {hs : List ExceptHandler} {r : List Cl} : Names X x c → SuOk X (b :: l) ts → ClOk X hs r →
      ClOk X (.ExceptHandler (some (.Name x p)) none (b :: l) p' :: hs) ((c, none, ts) :: r)
section
variable {X : Cx} {body : List Stmt} {h₀ : ExceptHandler} {hds : List ExceptHandler} {cl : List Cl} {pos : Pos} {tb : WX → TS} {Wo : WX}
theorem SP.off {pins : List (Addr × Obj)} {D : L2.Ends} {f : Flow} {s6 : Shared} {a : Addr} {oe : Obj} {pn : List (Addr × Obj)} (ok : X.Ok) : SP (X.suite a ((a, oe) :: pn)) [] D f s6 → pn = X.pn ++ pins → SP X pins D f s6 := fun z e => by
  subst e
  cases f with
  | next => exact let ⟨_, _, S, q⟩ := z; ⟨_, _, S.unsuite ok, q⟩
  | brk => exact let ⟨_, _, S, q⟩ := z; ⟨_, _, S.unsuite ok, q⟩
  | cont => exact let ⟨_, _, S, q⟩ := z; ⟨_, _, S.unsuite ok, q⟩
  | ret u => exact let ⟨_, _, _, S, r, q⟩ := z; ⟨_, _, _, S.unsuite ok, r, q⟩
/-- try: body, then clauses one after the other -/
theorem ps_tryN (hst : X.stack = X.env :: X.outer) (hfl : X.env.frame = some X.env.locals) (hN : X.N.Nodup) (tk : Takes X Wo)
    (hb : ∀ (W' : WX) (pn : List (Addr × Obj)) (xe : Value → Shared → Prop), Takes (X.tr pn xe) W' → PassesOwn (model X.prog X.w) X.A X.env xe → PSs (X.tr pn xe) body (tb W'))
    (hcl : ClOk X (h₀ :: hds) cl) : PS X (.Try body (h₀ :: hds) [] [] pos) (fun D σ H => tb (wCl X.K Wo D cl) D σ H) := by
  refine ⟨fun pins s σ H D I h0 => wpAny_Try_except ?_⟩
  have ok := I.ok
  have hfr : X.A.frames = some (X.env :: X.outer) := ok.frames.trans (by rw [hst])
  have body_ := hb (wCl X.K Wo D cl) (X.pn ++ pins) (fun e t1 => wpAny (model X.prog X.w) X.A (noteFrame e X.env) (fun _ t2 => wpAny (model X.prog X.w) X.A (setFlight e none) (fun _ t3 => wpAny (model X.prog X.w) X.A (handleBy e X.env (h₀ :: hds)) (SP X pins D) X.xe t3) X.xe t2) X.xe t1)
    (fun u t xx => ?cat1) PassesOwn.looking
  case cat1 =>
    obtain ⟨a, B, sI, ps', τ, G, cls, dd, rfl, J', nb, up, sky, na, os, ag, wish⟩ := xx
    have J : Inv X pins τ G sI := J'.ofTry ok
    rw [show (X.tr (X.pn ++ pins) _).stack = X.env :: X.outer from hst] at sky
    show wpAny (model X.prog X.w) X.A (noteFrame (.ref a) X.env) _ _ _
    refine Sky.land Zc.steady hfr hfl sky fun g3 fly up3 => ?_
    have J3 : Inv X pins τ G { t with heap := g3 } := J.landed nb fly.1 (up.trans up3) os ag
    obtain ⟨o3, f3, e3, z3, d3⟩ := fly.there
    have far : a ∉ frs (X.env :: X.outer) := fun hm => by
      obtain ⟨_, o', e', hnf⟩ := fly.2.2.1.mem hm
      cases e3.symm.trans e'
      exact hnf _ d3
    have far0 : a ≠ X.env.locals := fun z => far (List.mem_filterMap.mpr ⟨_, List.mem_cons_self, hfl.trans (congrArg some z.symm)⟩)
    have far1 : a ∉ X.fs := fun hm => let ⟨e, he, q⟩ := List.mem_filterMap.mp hm; far (List.mem_filterMap.mpr ⟨e, List.mem_cons_of_mem _ he, q⟩)
    have S3 := J3.suite e3 d3 na far0 far1
    have look : ∀ {x : Str} {c : Value} {p : Pos} {b : Bool} {Q : Value → Shared → Prop} {E : Value → Shared → Prop}, Names X x c → (Q c { t with heap := g3 }) → wpAny (model X.prog X.w) (X.A.mark (some (.ref a))) (eval (.Name x p) X.env) Q E { t with heap := g3 } := fun hc q => by
      obtain ⟨n1, n2, n3 | ⟨n3, n4, n5⟩⟩ := hc
      · exact ld_glob (X := X.suite a ((a, o3) :: (X.pn ++ pins))) S3 n1 n3 q n2
      · exact ld_blt (X := X.suite a ((a, o3) :: (X.pn ++ pins))) S3 n1 n3 n4 q n5 n2
    have match_ : ∀ {c : Value} {b : Bool}, PySem.W.exmOne X.K cls c = some b → _ := fun {c b} hb1 => PySem.W.exm_one (M := model X.prog X.w) J3.kIn (fun A Q E s k q => wpAny_typeOf_ref (k _ _ e3) (by rw [z3.1]; exact q) : PySem.W.Looks (model X.prog X.w) g3 (typeOf (.ref a)) cls) hb1
    have go : ∀ {hs : List ExceptHandler} {l : List Cl}, ClOk X hs l → wCl X.K Wo D l cls dd τ G → wpAny (model X.prog X.w) X.A (handleBy (.ref a) X.env hs) (SP X pins D) X.xe { t with heap := g3 } := by
      intro hs l hk
      induction hk with
      | nil =>
        intro w
        obtain ⟨k1, k2, k3, oe, vs, T, oT, tb', he, hz, hd, h1, hr⟩ := id fly
        have out : wpAny (model X.prog X.w) X.A (setFlight (.ref a) X.env.frame) (fun _ t4 => wpAny (model X.prog X.w) X.A (throw (.ref a) : Sem Flow) (SP X pins D) X.xe t4) X.xe { t with heap := g3 } := by
          rw [hfl]
          exact HandSPX.setFlight_upZ fly fun g4 held up4 => wpAny_throw (tk _ _ ⟨a, B, sI, pins, τ, G, cls, dd, rfl, J, nb, (up.trans up3).trans up4, .inr (.inr (by rw [hst]; exact held)), na, os, ag, w⟩)
        refine wpAny_handleBy_nil ?_
        unfold PySem.passOn
        refine wpAny_bind (wpAny_field he hd h1 ?_)
        have nn : ¬ ((Value.ref T == Value.none) = true) := by simp
        rw [if_neg nn]
        first | exact wpAny_bind out | exact wpAny_bind (wpAny_pure (wpAny_bind out))
      | @nm x n c i ts b l0 p p' hs2 l2 hc hi hln su r ih =>
        intro ⟨bb, m1, yes, nope⟩
        refine wpAny_handleBy_cons (codeAny_handlers_test (look (b := bb) hc ((match_ m1).here ?_))) (by intro q; cases q)
        cases bb with
        | false => exact ih (nope rfl)
        | true =>
          refine codeAny_handlers_suite_as (HandSPX.lands_againZ fly fun g4 fly4 up4 => ?_)
          obtain ⟨o4, f4, e4, z4, d4⟩ := fly4.there
          have S4 := (J.landed (s' := { t with heap := g4 }) nb fly4.1 ((up.trans up3).trans up4) os ag).suite e4 d4 na far0 far1
          refine store_ok (X := X.suite a ((a, o4) :: (X.pn ++ pins))) (v := .ref a) S4 hN hi (.inl hln) rfl (fun s5 S5 => ?_) (.inr hln)
          refine wpAny_mono ((su a o4 cls dd (X.pn ++ pins) z4 ⟨_, d4⟩).run [] s5 _ G _ S5 (yes rfl a na)) (fun f s6 hsp => ?_) (fun _ _ z => False.elim z)
          have gone : ∀ {σ6 : L2.St} {H6 : Hp} {Q : Shared → Prop}, Inv (X.suite a ((a, o4) :: (X.pn ++ pins))) [] σ6 H6 s6 → (∀ s7, Inv X pins (σ6.set i none) H6 s7 → Q s7) → wpAny (model X.prog X.w) X.A (do bindName X.env n .none; unbindBehindTheSuite X.env n p') (fun _ s7 => Q s7) X.xe s6 :=
            fun S6 hq => gone_ok (S6.unsuite ok) hN hi hln hq
          cases f with
          | next => exact let ⟨_, _, S6, q6⟩ := hsp; gone S6 fun s7 J7 => ⟨_, _, J7, q6⟩
          | brk => exact let ⟨_, _, S6, q6⟩ := hsp; gone S6 fun s7 J7 => ⟨_, _, J7, q6⟩
          | cont => exact let ⟨_, _, S6, q6⟩ := hsp; gone S6 fun s7 J7 => ⟨_, _, J7, q6⟩
          | ret u => exact let ⟨_, _, _, S6, r6, q6⟩ := hsp; gone S6 fun s7 J7 => ⟨_, _, _, J7, r6, q6⟩
      | @no x c ts b l0 p p' hs2 l2 hc su r ih =>
        intro ⟨bb, m1, yes, nope⟩
        refine wpAny_handleBy_cons (codeAny_handlers_test (look (b := bb) hc ((match_ m1).here ?_))) (by intro q; cases q)
        cases bb with
        | false => exact ih (nope rfl)
        | true =>
          refine codeAny_handlers_suite (HandSPX.lands_againZ fly fun g4 fly4 up4 => ?_)
          obtain ⟨o4, f4, e4, z4, d4⟩ := fly4.there
          have S4 := (J.landed (s' := { t with heap := g4 }) nb fly4.1 ((up.trans up3).trans up4) os ag).suite e4 d4 na far0 far1
          exact wpAny_mono ((su a o4 cls dd (X.pn ++ pins) z4 ⟨_, d4⟩).run [] _ _ G _ S4 (yes rfl a na)) (fun f s6 hsp => SP.off ok hsp rfl) (fun _ _ z => False.elim z)
    exact go hcl wish
  refine wpAny_mono (body_.run [] s σ H D (I.toTry _) h0) (fun f s1 hsp => ?_) fun _ _ z => z
  cases f with
  | next => exact let ⟨_, _, J', q⟩ := hsp; wpAny_execs_nil ⟨_, _, J'.ofTry ok, q⟩
  | brk => exact let ⟨_, _, J', q⟩ := hsp; ⟨_, _, J'.ofTry ok, q⟩
  | cont => exact let ⟨_, _, J', q⟩ := hsp; ⟨_, _, J'.ofTry ok, q⟩
  | ret u => exact let ⟨_, _, _, J', r, q⟩ := hsp; ⟨_, _, _, J'.ofTry ok, r, q⟩
end
/-! ### the same over data -/
section
variable {Γ : G} {W : WX} {O O' O1 O2 Ob : List Nat} {H H' H1 H2 : Hp} {σ σ' σ1 σ2 : L2.St} {env : Env} {st : S}
variable {X : Cx} {f g h : FTS} {pos p p2 p3 np pos' : Pos} {k : Nat}
/-- the clauses hold what data ask of them -/
inductive FCl (X : Cx) (Γ : G) : List ExceptHandler → List FH → Prop
  | nil : FCl X Γ [] []
  | nm {x n : Str} {cv : Value} (i : Nat) {tags : Nat → Bool} {h : FTS} {b : Stmt} {l : List Stmt} {p p' : Pos} {hs : List ExceptHandler} {r : List FH} (hc : Names X x cv) (hT : ∀ tag C, Γ.CT tag = some C → PySem.W.exmOne X.K (.ref C) cv = some (tags tag))
      (mh : MonoS h) (hsu : ∀ (a C dx : Addr) (tag : Nat) (oe : Obj) (pn : List (Addr × Obj)), Γ.CT tag = some C → Zc (.ref C) (some dx) oe → (∃ vs, oe.data = .fields vs) → FB (X.suite a ((a, oe) :: pn)) (Γ.wE (a, dx)) W0 [] [] [] (b :: l) h)
      (hr : FCl X Γ hs r) (hi : X.N[i]? = some n := by rfl) (hln : X.env.kindOf n = some .local := by rfl) : FCl X Γ (.ExceptHandler (some (.Name x p)) (some n) (b :: l) p' :: hs) ((tags, some i, h) :: r)
  | no {x : Str} {cv : Value} {tags : Nat → Bool} {h : FTS} {b : Stmt} {l : List Stmt} {p p' : Pos} {hs : List ExceptHandler} {r : List FH} (hc : Names X x cv) (hT : ∀ tag C, Γ.CT tag = some C → PySem.W.exmOne X.K (.ref C) cv = some (tags tag))
      (mh : MonoS h) (hsu : ∀ (a C dx : Addr) (tag : Nat) (oe : Obj) (pn : List (Addr × Obj)), Γ.CT tag = some C → Zc (.ref C) (some dx) oe → (∃ vs, oe.data = .fields vs) → FB (X.suite a ((a, oe) :: pn)) (Γ.wE (a, dx)) W0 [] [] [] (b :: l) h)
      (hr : FCl X Γ hs r) : FCl X Γ (.ExceptHandler (some (.Name x p)) none (b :: l) p' :: hs) ((tags, none, h) :: r)
theorem FCl.mono {hs : List ExceptHandler} {r : List FH} (h : FCl X Γ hs r) : ∀ {E E' : Ends}, LeE E E' → ∀ env t d s, hdX E r env t d s → hdX E' r env t d s := by
  induction h with
  | nil => exact fun l env t d s z => l.ex _ _ _ _ z
  | @nm x n cv i tags h b l p p' hs r hc hT mh hsu hr hi hln ih =>
    intro E E' le env t d s z
    unfold hdX at z ⊢
    by_cases ht : tags t = true
    · rw [if_pos ht] at z ⊢
      exact mh (sutE E) (sutE E') _ _ ⟨fun _ _ z => z, fun _ _ z => ⟨z.1, le.rt _ _ z.2⟩, fun _ _ z => z, fun _ _ z => z, fun _ _ _ _ z => z⟩ z
    · rw [if_neg ht] at z ⊢
      exact ih le _ _ _ _ z
  | @no x cv tags h b l p p' hs r hc hT mh hsu hr ih =>
    intro E E' le env t d s z
    unfold hdX at z ⊢
    by_cases ht : tags t = true
    · rw [if_pos ht] at z ⊢
      exact mh (sutE E) (sutE E') _ _ ⟨fun _ _ z => z, fun _ _ z => ⟨z.1, le.rt _ _ z.2⟩, fun _ _ z => z, fun _ _ z => z, fun _ _ _ _ z => z⟩ z
    · rw [if_neg ht] at z ⊢
      exact ih le _ _ _ _ z
/-- the heap's side of one clause -/
def tsOf (Γ : G) (h : FTS) : Addr → Value → Option Addr → TS := fun a cls d => fun Dn σ H => ∃ (C dx : Addr) (tag : Nat), cls = .ref C ∧ d = some dx ∧ Γ.CT tag = some C ∧ liftS (Γ.wE (a, dx)) W0 [] [] [] h Dn σ H
theorem su_of {b : Stmt} {l : List Stmt} (hsu : ∀ (a C dx : Addr) (tag : Nat) (oe : Obj) (pn : List (Addr × Obj)), Γ.CT tag = some C → Zc (.ref C) (some dx) oe → (∃ vs, oe.data = .fields vs) → FB (X.suite a ((a, oe) :: pn)) (Γ.wE (a, dx)) W0 [] [] [] (b :: l) h) : SuOk X (b :: l) (tsOf Γ h) :=
  fun a oe cls d pn hz hfd => ⟨fun pins s σ H D I ⟨C, dx, tag, e1, e2, hC, q⟩ => by
    subst e1 e2
    exact (hsu a C dx tag oe pn hC hz hfd).ps.run pins s σ H D I q⟩
/-- what holds where an error is caught -/
theorem sut_in {E : Ends} {Dn : L2.Ends} {a dx : Addr} (Lrt : ∀ d st' v H', Ev (MV Γ O σ) H H' → ST Γ H' st' → Rep Γ.g Γ.B H' v d → E.rt d st' → Dn.rt v H') (hex : Γ.g.ex = none) (S' : Step Γ O σ H [] σ' H') (T' : ST Γ H' st) {τ : L2.St} (hτ : EnvR (Γ.wE (a, dx)) [] H' τ env) {o : Option Nat}
    (q : h (sutE E) env st) : liftS (Γ.wE (a, dx)) W0 [] [] [] h (offE Dn o) τ H' := by
  have e0 : (offE Dn o).rt = Dn.rt := by cases o <;> rfl
  refine ⟨env, st, sutE E, hτ, ⟨T'.z, T'.b, T'.sz⟩, ⟨fun _ _ _ _ _ _ _ z => (z : False).elim, fun d2 s2 v2 H2 e2 T2 r2 z2 => ?_, fun _ _ _ _ _ _ _ z => (z : False).elim, fun _ _ _ _ _ _ _ z => (z : False).elim, fun _ _ _ _ _ _ _ _ _ _ _ _ _ _ _ _ z => (z : False).elim⟩, q⟩
  rw [e0]
  have Ev2 : Ev (MV (Γ.wE (a, dx)) [] τ) H' H2 := e2
  refine Lrt d2 s2 v2 H2 (S'.evm ?_) ⟨T2.z, T2.b, T2.sz⟩ (Rep.ofE _ _ z2.1 r2) z2.2
  exact Ev2.mono fun b zb => by
    rcases zb with zb | ⟨j, hj, _⟩
    · exact .inl zb
    · cases hj
theorem FCl.cl {hs : List ExceptHandler} {r : List FH} (hF : FCl X Γ hs r) (hex : Γ.g.ex = none) : ∃ cl, ClOk X hs cl ∧ ∀ {O O' Ob : List Nat} {σ : L2.St} {H : Hp} {E : Ends} {Dn : L2.Ends}, Lk Γ W O σ H O' Ob E Dn →
    ∀ env' tag d st' σ' H' C dx v, Step Γ O σ H [] σ' H' → EnvR Γ [] H' σ' env' → ST Γ H' st' → Γ.CT tag = some C → H' dx = some (.xd [(("at" : Str), v)]) → ¬ NN Γ [] σ' dx → Rep Γ.g (NN Γ [] σ') H' v d → hdX E r env' tag d st' → wCl X.K W Dn cl (.ref C) (some dx) σ' H' := by
  induction hF with
  | nil => exact ⟨[], .nil, fun L env' tag d st' σ' H' C dx v S' R' T' hC hx nb rv z => L.ex _ _ _ _ _ _ _ _ _ S' R' T' hC hx nb rv z⟩
  | @nm x n cv i tags h b l p p' hs r hc hT mh hsu hr hi hln ih =>
    obtain ⟨cl, k1, k2⟩ := ih
    refine ⟨(cv, some i, tsOf Γ h) :: cl, .nm hc hi hln (su_of hsu) k1, fun L env' tag d st' σ' H' C dx v S' R' T' hC hx nb rv z => ⟨tags tag, hT tag C hC, fun ht a hna => ?_, fun ht => ?_⟩⟩
    · have z' : (if tags tag = true then _ else _) := z
      rw [if_pos ht] at z'
      exact ⟨C, dx, tag, rfl, rfl, hC, sut_in L.rt hex S' T' ((R'.toE hex).put (nomatch ·) (Rep.exc (p := (a, dx)) rfl hx nb (Rep.toE hex _ _ rv))) z'⟩
    · have z' : (if tags tag = true then _ else _) := z
      rw [if_neg (by rw [ht]; decide)] at z'
      exact k2 L _ _ _ _ _ _ _ _ _ S' R' T' hC hx nb rv z'
  | @no x cv tags h b l p p' hs r hc hT mh hsu hr ih =>
    obtain ⟨cl, k1, k2⟩ := ih
    refine ⟨(cv, none, tsOf Γ h) :: cl, .no hc (su_of hsu) k1, fun L env' tag d st' σ' H' C dx v S' R' T' hC hx nb rv z => ⟨tags tag, hT tag C hC, fun ht a hna => ?_, fun ht => ?_⟩⟩
    · have z' : (if tags tag = true then _ else _) := z
      rw [if_pos ht] at z'
      exact ⟨C, dx, tag, rfl, rfl, hC, sut_in L.rt hex S' T' (R'.toE hex) z'⟩
    · have z' : (if tags tag = true then _ else _) := z
      rw [if_neg (by rw [ht]; decide)] at z'
      exact k2 L _ _ _ _ _ _ _ _ _ S' R' T' hC hx nb rv z'
theorem fs_tryN {h₀ : ExceptHandler} {hds : List ExceptHandler} {r : List FH} {body : List Stmt} (c : Ctx X Γ W k) (po : PassesOwn (model X.prog X.w) X.A X.env X.xe)
    (hb : ∀ (W' : WX) (pn : List (Addr × Obj)) (xe : Value → Shared → Prop), Takes (X.tr pn xe) W' → PassesOwn (model X.prog X.w) X.A X.env xe → FB (X.tr pn xe) Γ W' Ob O O' body f) (hF : FCl X Γ (h₀ :: hds) r)
    (hs : X.stack = X.env :: X.outer := by rfl) (hf : X.env.frame = some X.env.locals := by rfl) : FSt X Γ W Ob O O' (.Try body (h₀ :: hds) [] [] pos) (sTryN f r) := by
  have mf : MonoS f := (hb W X.pn X.xe c.tk po).mono
  refine ⟨fun E E' env st l q => mf (tryN E r) (tryN E' r) _ _ ⟨l.nx, l.rt, l.bk, l.ct, fun e t d s z => hF.mono l _ _ _ _ z⟩ q, ?_⟩
  obtain ⟨cl, k1, k2⟩ := hF.cl (W := W) c.ex0
  exact (ps_tryN (tb := fun W' => liftS Γ W' Ob O O' f) hs hf c.nd c.tk (fun W' pn xe tk po' => (hb W' pn xe tk po').ps) k1).imp fun Dn σ H ⟨env, st, E, R, T, L, q⟩ =>
    ⟨env, st, tryN E r, R, T, ⟨L.nx, L.rt, L.bk, L.ct, fun env' tag d st' σ' H' C dx v S' R' T' hC hx nb rv z => k2 L _ _ _ _ _ _ _ _ _ S' R' T' hC hx nb rv z⟩, q⟩
end
end Fy
namespace Fy
open PySem L2
theorem mgs_nil : MonoGs gNil := fun ds env Q Q' h q => ⟨q.1, h _ q.2⟩
theorem mgs_nm {i : Nat} {fr : FTGs} (h : MonoGs fr) : MonoGs (gMore (gNm i) fr) := fun ds env Q Q' hq q => by
  cases ds with
  | nil => exact q.elim
  | cons d r => exact h _ _ _ _ hq q
theorem ngs_nil : ∀ (l : List D) (env : Env) (Q : Env → Prop), gNil l env Q → ∃ e, Q e := fun _ _ _ q => ⟨_, q.2⟩
theorem ngs_nm {i : Nat} {fr : FTGs} (h : ∀ (l : List D) (env : Env) (Q : Env → Prop), fr l env Q → ∃ e, Q e) : ∀ (l : List D) (env : Env) (Q : Env → Prop), gMore (gNm i) fr l env Q → ∃ e, Q e := fun l env Q q => by
  cases l with
  | nil => exact q.elim
  | cons d r => exact h _ _ _ q
def MonoHs (r : List FH) : Prop := ∀ q, q ∈ r → MonoS q.2.2
theorem mono_hnil : MonoHs [] := fun q h => nomatch h
theorem mono_hcons {t : Nat → Bool} {o : Option Nat} {h : FTS} {r : List FH} (hh : MonoS h) (hr : MonoHs r) : MonoHs ((t, o, h) :: r) := fun q hq => by
  rcases List.mem_cons.mp hq with rfl | hq
  · exact hh
  · exact hr q hq
theorem hdX_mono : ∀ {r : List FH}, MonoHs r → ∀ {E E' : Ends}, LeE E E' → ∀ env t d s, hdX E r env t d s → hdX E' r env t d s
  | [], _, E, E', l, env, t, d, s, z => l.ex _ _ _ _ z
  | (tags, o, h) :: r, hr, E, E', l, env, t, d, s, z => by
    unfold hdX at z ⊢
    by_cases ht : tags t = true
    · rw [if_pos ht] at z ⊢
      exact hr _ (List.mem_cons_self ..) (sutE E) (sutE E') _ _ ⟨fun _ _ z => z, fun _ _ z => ⟨z.1, l.rt _ _ z.2⟩, fun _ _ z => z, fun _ _ z => z, fun _ _ _ _ z => z⟩ z
    · rw [if_neg ht] at z ⊢
      exact hdX_mono (fun q hq => hr q (List.mem_cons_of_mem _ hq)) l _ _ _ _ z
theorem mono_TryN {f : FTS} {r : List FH} (mf : MonoS f) (hr : MonoHs r) : MonoS (sTryN f r) := fun E E' env st l q => mf (tryN E r) (tryN E' r) _ _ ⟨l.nx, l.rt, l.bk, l.ct, fun e t d s z => hdX_mono hr l _ _ _ _ z⟩ q
end Fy
set_option Elab.async false
set_option linter.all false
set_option maxRecDepth 100000
set_option maxHeartbeats 4000000
/-! FyV: more constructs: x.pop(..) as a value, tuples of new lists into slots of any kind, list(range(..)), zip, {}, chains. -/
namespace Fy
open PySem L2
section
variable {Γ : G} {W : WX} {O O' O1 O2 Ob : List Nat} {H H' H1 H2 : Hp} {σ σ' σ1 σ2 : L2.St} {env : Env} {st : S}
variable {X : Cx} {e a b c : Expr} {es : List Expr} {f g : FTS} {fe fa fb fc : FTE} {fr : FTA} {pos p p2 p3 q1 q2 q3 : Pos} {x y : Str} {k : Nat}
/-! ### what is taken out of a slot's list -/
def MutV (q : OLV) (r : V → List V → Hp → VK → Prop) : Prop := ∀ (g : G0) (N : Addr → Prop) (H : Hp) (a : Addr) (xs vs : List V) (l ds : List D) (Ql : D → List D → Prop) (Q : VK), H a = some (.lst xs) → RepL g N H xs l → RepL g N H vs ds → N a → q ds l Ql →
  (∀ v d xs' l', Rep g N H v d → RepL g N H xs' l' → Ql d l' → Q v (upd H a (.lst xs'))) → r (.ref a) vs H Q
def MonoV (q : OLV) : Prop := ∀ ds l (Q Q' : D → List D → Prop), (∀ d l, Q d l → Q' d l) → q ds l Q → q ds l Q'
theorem mono_vPop : MonoV vPop := fun ds l Q Q' h z => by
  match ds, z with
  | [], ⟨d, e, z⟩ => exact ⟨d, e, h _ _ z⟩
theorem mono_vPopAt : MonoV vPopAt := fun ds l Q Q' h z => by
  match ds, z with
  | [.int k], ⟨z0, j, d, z1, z2, z3⟩ => exact ⟨z0, j, d, z1, z2, h _ _ z3⟩
theorem mutV_pop : MutV vPop rPop := fun g N H a xs vs l ds Ql Q ha rl rv na z k => by
  match ds, z with
  | [], ⟨d, z1, z2⟩ =>
    cases rv
    have hl := rl.length
    have hpos : 0 < l.length := by
      cases l with
      | nil => cases z1
      | cons _ _ => simp
    have hx : xs[xs.length - 1]? = some (xs[xs.length - 1]'(by omega)) := by simp
    obtain ⟨v, hv, rd⟩ := rl.get (j := l.length - 1) (d := d) (by rw [← List.getLast?_eq_getElem?]; exact z1)
    have hv' : xs[xs.length - 1]? = some v := by rw [hl]; exact hv
    rw [hx] at hv'
    injection hv' with e
    refine ⟨a, xs, xs[xs.length - 1]'(by omega), rfl, rfl, ha, by simp, k _ _ _ _ ?_ ?_ z2⟩
    · rw [e]
      exact rd
    · rw [List.dropLast_eq_take, List.dropLast_eq_take, hl]
      exact rl.take'
theorem mutV_popAt : MutV vPopAt rPopAt := fun g N H a xs vs l ds Ql Q ha rl rv na z k => by
  match ds, z with
  | [.int i], ⟨⟨b1, b2⟩, j, d, z1, z2, z3⟩ =>
    cases rv with
    | cons r1 r2 =>
      cases r2
      cases r1
      have hl := rl.length
      have z1' : ixN xs.length i = some j := by rw [hl]; exact z1
      obtain ⟨h1, h2, h3, h4⟩ := ixN_seq z1'
      obtain ⟨v, hv, rd⟩ := rl.get (j := j) (d := d) z2
      have e : xs[j] = v := by
        have hx : xs[j]? = some xs[j] := by simp
        rw [hx] at hv
        injection hv
      exact ⟨a, xs, i, j, xs[j], rfl, rfl, ha, by omega, by omega, h1, by simp, k _ _ _ _ (e ▸ rd) rl.erase' z3⟩
theorem fMutV_mono {i : Nat} {q : OLV} (hq : MonoV q) (ha : MonoA fr) {Q Q' : D → Env → S → Prop} {X X' : XC} (h : ∀ d e s, Q d e s → Q' d e s) (hx : ∀ t d s, X t d s → X' t d s) (z : fMutV i q fr env st Q X) : fMutV i q fr env st Q' X' := by
  unfold fMutV at z ⊢
  cases hl : look env i with
  | none => rw [hl] at z; exact z
  | some d =>
    rw [hl] at z
    cases d <;> first | exact z | skip
    exact ha _ _ _ _ _ _ (fun ds s z => hq _ _ _ _ (fun _ _ z => h _ _ _ z) z) hx z
/-- the heap's side -/
theorem mutV_run {i : Nat} {q : OLV} {r : V → List V → Hp → VK → Prop} {K : D → Env → S → Prop} {Xc : XC} {Q : VK} (hm : MutV q r) (ho : i ∈ O) (ha : MonoA fr) (R : EnvR Γ O H σ env) (T : ST Γ H st) (hx : ∀ t d s, Xc t d s → exK Γ W O σ H t d s)
    (z : fMutV i q fr env st K Xc) (hk : ∀ d e' s v H', Step Γ O σ H O σ H' → EnvR Γ O H' σ e' → ST Γ H' s → Rep Γ.g (NN Γ O σ) H' v d → K d e' s → Q v H') :
    ∃ a xs, σ[i]? = some (some (V.ref a)) ∧ H a = some (.lst xs) ∧ liftA Γ W O fr σ H (fun vs H1 => r (.ref a) vs H1 Q) := by
  unfold fMutV at z
  cases hl : look env i with
  | none => rw [hl] at z; exact z.elim
  | some d =>
    rw [hl] at z
    cases d <;> first | exact z.elim | skip
    obtain ⟨a, xs, e1, e2, r1, n1⟩ := R.ownL ho hl
    refine ⟨a, xs, e1, e2, env, st, R, T, ha _ _ _ _ _ _ (fun ds s z vs H1 ev T1 rv => ?_) hx z⟩
    have R1 := R.ev ev
    obtain ⟨a1, xs1, e3, e4, r3, n3⟩ := R1.ownL ho hl
    have eq : a = a1 := by rw [e1] at e3; injection e3 with e3; injection e3 with e3; injection e3
    subst eq
    refine hm _ _ _ _ _ _ _ _ _ _ e4 r3 rv n3 z fun v d xs' l' rd r' ql => ?_
    have kp : ∀ b u, H1 b = some u → ¬ NN Γ O σ b → upd H1 a (.lst xs') b = some u := fun b u hb nb => by rw [upd_ne (fun (e : b = a) => nb (e ▸ n3))]; exact hb
    have r5 : RepL Γ.g (NN Γ O σ) (upd H1 a (.lst xs')) xs' l' := RepL.ev kp (fun _ _ z => z) _ _ r'
    obtain ⟨R2, S2, T2⟩ := R1.chg T1 ho e1 (o := .lst xs') (d := .lst l') ⟨xs', upd_same, r5⟩
    exact hk _ _ _ _ _ ((Step.ev ev).trans S2) R2 T2 (Rep.ev kp (fun _ _ z => z) _ _ rd) ql
theorem mono_PopSet {i j : Nat} {q : OLV} (hq : MonoV q) (ha : MonoA fr) : MonoS (sPopSet j i q fr) := fun E E' env st l z => fMutV_mono hq ha (fun d e s z => l.nx _ _ z) (l.ex _) z
theorem mono_AppPop {i j : Nat} {q : OLV} (hq : MonoV q) (ha : MonoA fr) : MonoS (sAppPop j i q fr) := fun E E' env st l z => by
  unfold sAppPop at z ⊢
  cases hl : look env j with
  | none => rw [hl] at z; exact z
  | some d =>
    rw [hl] at z
    cases d <;> first | exact z | skip
    refine fMutV_mono hq ha (fun d e s z => ?_) (l.ex _) z
    cases hl2 : look e j with
    | none => rw [hl2] at z; exact z
    | some d =>
      rw [hl2] at z
      cases d <;> first | exact z | exact ⟨z.1, l.nx _ _ z.2⟩
/-- a pop's arguments: none, one -/
inductive PopE (X : Cx) (Γ : G) (W : WX) (O : List Nat) (i : Nat) : Expr → OLV → FTA → Prop
  | none {x : Str} {p p2 p3 : Pos} (hn : Nm X x i) (hbase : attributeBase (.Name x p) "pop" X.env (eval (.Name x p) X.env) = eval (.Name x p) X.env := by rfl) (hline : (p2.endLine == p3.line) = true := by rfl) : PopE X Γ W O i (.Call (.Attribute (.Name x p) "pop" p2) [] [] p3) vPop aNil
  | one {x : Str} {e : Expr} {fr : FTA} {p p2 p3 : Pos} (hn : Nm X x i) (ha : FA X Γ W O [e] fr)
      (hbase : attributeBase (.Name x p) "pop" X.env (eval (.Name x p) X.env) = eval (.Name x p) X.env := by rfl)
      (hfew : ((backTo p3 (starEach [e] X.env)).all (fun x => !x.1) && (backToKw p3 (keywordEach [] X.env)).all (fun x => x.1.isSome)
        && decide (([e] : List Expr).length + ([] : List Keyword).length + (if ([] : List Keyword).isEmpty then 0 else 1) < 30)) = true := by rfl)
      (hline : (p2.endLine == p3.line) = true := by rfl) (hs2 : starEach [e] X.env = (false, eval e X.env) :: starEach [] X.env := by rfl) (hplain : (backTo p3 (starEach [] X.env)).any (·.1) = false := by rfl) : PopE X Γ W O i (.Call (.Attribute (.Name x p) "pop" p2) [e] [] p3) vPopAt fr
def liftV (Γ : G) (W : WX) (O : List Nat) (i : Nat) (q : OLV) (fr : FTA) : TE := fun σ H Q => ∃ env st K Xc, EnvR Γ O H σ env ∧ ST Γ H st ∧ (∀ t d s, Xc t d s → exK Γ W O σ H t d s) ∧ fMutV i q fr env st K Xc ∧
  ∀ d e' s v H', Step Γ O σ H O σ H' → EnvR Γ O H' σ e' → ST Γ H' s → Rep Γ.g (NN Γ O σ) H' v d → K d e' s → Q v H'
theorem PopE.mono {i : Nat} {q : OLV} (h : PopE X Γ W O i e q fr) : MonoV q ∧ MonoA fr := by
  cases h with
  | none => exact ⟨mono_vPop, fun _ _ _ _ _ _ h _ q => h _ _ q⟩
  | one hn ha => exact ⟨mono_vPopAt, ha.mono⟩
theorem PopE.pe {i : Nat} {q : OLV} (h : PopE X Γ W O i e q fr) (ho : i ∈ O) : PE X e (liftV Γ W O i q fr) := by
  cases h with
  | none hn hbase hline =>
    exact (pe_bm0 PySem.F.plainAttrs_list PySem.F.slot_list_pop PySem.F.type_list_pop mt_pop hn.pe hbase hline).imp fun σ H Q ⟨env, st, K, Xc, R, T, hx, z, hk⟩ => by
      obtain ⟨a, xs, e1, e2, env2, st2, R2, T2, z2⟩ := mutV_run mutV_pop ho (fun _ _ _ _ _ _ h _ q => h _ _ q) R T hx z hk
      exact ⟨_, e1, .inl ⟨rfl, xs, SqL.of e2⟩, by first | exact z2 [] H Ev.refl T2 .nil | exact z2 [] H Ev.refl T .nil⟩
  | one hn ha hbase hfew hline hs2 hplain =>
    exact (pe_bm PySem.F.plainAttrs_list PySem.F.slot_list_pop PySem.F.type_list_pop mt_popAt hn.pe ha.pa hbase hfew hline hs2 hplain).imp fun σ H Q ⟨env, st, K, Xc, R, T, hx, z, hk⟩ =>
      bm_run (mutV_run mutV_popAt ho ha.mono R T hx z hk)
theorem fs_popSet (j : Nat) {i : Nat} {q : OLV} (c : Ctx X Γ W k) (h : PopE X Γ W O i e q fr) (ho : i ∈ O := by decide) (hj : j ∉ O := by decide) (hN : X.N[j]? = some x := by rfl) (hx : Loc X.env.scope x := by first | exact Or.inl rfl | exact Or.inr rfl)
    (hs : swapsWith e (some (.Name x p)) pos.line X.env = pure false := by rfl) (hf : X.fn x = true ∨ X.env.scope.names.lookup x = some .local := by first | exact .inl rfl | exact .inr rfl) : FSt X Γ W Ob O O (.Assign [.Name x p] e pos) (sPopSet j i q fr) :=
  ⟨mono_PopSet h.mono.1 h.mono.2, (ps_set c.nd hN hx (h.pe ho) hs hf).imp fun Dn σ H ⟨env, st, E, R, T, L, z⟩ => ⟨env, st, _, _, R, T, fun t d s z => L.toX R t d s z, z, fun d e' s v H' S' R' T' rd z =>
    L.nx _ _ _ _ (S'.trans (.agr (agr_set hj))) (R'.put hj rd) T' z⟩⟩
theorem fs_appPop {i j : Nat} {q : OLV} (hn : Nm X x j) (h : PopE X Γ W O i e q fr) (hij : i ≠ j := by decide) (ho : i ∈ O := by decide) (hj : j ∈ O := by decide) (hs : swapsWith (.Call (.Attribute (.Name x p) "append" p2) [e] [] p3) none pos.line X.env = pure false := by rfl)
    (hbase : attributeBase (.Name x p) "append" X.env (eval (.Name x p) X.env) = eval (.Name x p) X.env := by rfl)
    (hfew : ((backTo p3 (starEach [e] X.env)).all (fun x => !x.1) && (backToKw p3 (keywordEach [] X.env)).all (fun x => x.1.isSome)
      && decide (([e] : List Expr).length + ([] : List Keyword).length + (if ([] : List Keyword).isEmpty then 0 else 1) < 30)) = true := by rfl)
    (hline : (p2.endLine == p3.line) = true := by rfl) (hs2 : starEach [e] X.env = (false, eval e X.env) :: starEach [] X.env := by rfl) (hplain : (backTo p3 (starEach [] X.env)).any (·.1) = false := by rfl) :
    FSt X Γ W Ob O O (.Expr (.Call (.Attribute (.Name x p) "append" p2) [e] [] p3) pos) (sAppPop j i q fr) :=
  ⟨mono_AppPop h.mono.1 h.mono.2, (ps_expr (pe_bm PySem.F.plainAttrs_list PySem.F.slot_list_append PySem.F.type_list_append mt_append hn.pe (pa_cons (h.pe ho) pa_nil hs2) hbase hfew hline hs2 hplain) hs).imp fun Dn σ H ⟨env, st, E, R, T, L, z⟩ => by
    unfold sAppPop at z
    cases hl : look env j with
    | none => rw [hl] at z; exact z.elim
    | some d =>
      rw [hl] at z
      cases d <;> first | exact z.elim | skip
      obtain ⟨a, xs, e1, e2, r1, n1⟩ := R.ownL hj hl
      refine bm_run ⟨a, xs, e1, e2, env, st, _, _, R, T, fun t d s z => L.toX R t d s z, z, fun d e' s v H' S' R' T' rd z => ?_⟩
      cases hl2 : look e' j with
      | none => rw [hl2] at z; exact z.elim
      | some d2 =>
        rw [hl2] at z
        cases d2 <;> first | exact z.elim | skip
        obtain ⟨a1, xs1, e3, e4, r3, n3⟩ := R'.ownL hj hl2
        have eq : a = a1 := by rw [e1] at e3; injection e3 with e3; injection e3 with e3; injection e3
        subst eq
        refine ⟨a, xs1, v, rfl, rfl, e4, by rw [r3.length, ← cap_line]; exact z.1, ?_⟩
        have kp : ∀ b u, H' b = some u → ¬ NN Γ O σ b → upd H' a (.lst (xs1 ++ [v])) b = some u := fun b u hb nb => by rw [upd_ne (fun (e : b = a) => nb (e ▸ n3))]; exact hb
        obtain ⟨R2, S2, T2⟩ := R'.chg T' hj e1 (o := .lst (xs1 ++ [v])) (d := .lst _) ⟨_, upd_same, RepL.ev kp (fun _ _ z => z) _ _ (r3.append (.cons rd .nil))⟩
        exact L.nx _ _ _ _ (S'.trans S2) R2 T2 z.2⟩
/-! ### a tuple of values, some of them new lists, into slots of any kind: the tuple itself is made -/
theorem RM.ext {g : G0} {N : Addr → Prop} {G1 H H2 : Hp} (e : Ext H H2) : ∀ {ms : List Bool} {vs : List V} {ds : List D} {F : List Addr}, RM g N G1 H ms vs ds F → RM g N G1 H2 ms vs ds F
  | [], [], [], F, h => h
  | false :: ms, v :: vs, d :: ds, F, h => ⟨Rep.ev (fun _ _ hb _ => e.at hb) (fun _ _ z => z) _ _ h.1, RM.ext e h.2⟩
  | true :: ms, v :: vs, d :: ds, a :: F, h => ⟨h.1, h.2.1, h.2.2.1, h.2.2.2.1.ev (fun _ z => e.at z) (fun _ _ z _ => e.at z) fun b _ z => z, RM.ext e h.2.2.2.2⟩
  | [], [], _ :: _, _, h => h.elim
  | [], _ :: _, _, _, h => h.elim
  | false :: _, [], _, _, h => h.elim
  | false :: _, _ :: _, [], _, h => h.elim
  | true :: _, [], _, _, h => h.elim
  | true :: _, _ :: _, [], _, h => h.elim
  | true :: _, _ :: _, _ :: _, [], h => h.elim
theorem fs_parT2 (i j : Nat) {x y : Str} {px py pt : Pos} {kt k2 pt2} {m1 m2 : Bool} (c : Ctx X Γ W k) (ha : FM X Γ W O [a, b] [m1, m2] (aCons fa (aCons fb aNil))) (hij : i ≠ j := by decide) (hoi : i ∉ O := by decide) (hoj : j ∉ O := by decide) (hi : X.N[i]? = some x := by rfl) (hj : X.N[j]? = some y := by rfl)
    (hx : Loc X.env.scope x := by first | exact Or.inl rfl | exact Or.inr rfl) (hy : Loc X.env.scope y := by first | exact Or.inl rfl | exact Or.inr rfl)
    (fx : X.fn x = true ∨ X.env.scope.names.lookup x = some .local := by first | exact .inl rfl | exact .inr rfl) (fy : X.fn y = true ∨ X.env.scope.names.lookup y = some .local := by first | exact .inl rfl | exact .inr rfl) (hc : X.calm = true := by rfl)
    (hw : swappedStores [.Tuple [.Name x px, .Name y py] kt pt] (.Tuple [a, b] k2 pt2) X.env = pure none := by rfl)
    (hs : swapsWithSole [.Tuple [.Name x px, .Name y py] kt pt] (.Tuple [a, b] k2 pt2) pos.line X.env = pure false := by rfl)
    (h1 : (assignEach [.Tuple [.Name x px, .Name y py] kt pt] X.env).map (·.2) = [assign (.Tuple [.Name x px, .Name y py] kt pt) X.env] := by rfl)
    (hs1 : (assignEach [.Name x px, .Name y py] X.env).map (·.2) = assign (.Name x px) X.env :: (assignEach [.Name y py] X.env).map (·.2) := by rfl) (hs2 : (assignEach [.Name y py] X.env).map (·.2) = assign (.Name y py) X.env :: (assignEach [] X.env).map (·.2) := by rfl)
    (hn : (assignEach [.Name x px, .Name y py] X.env).length = 2 := by rfl) (hst : (assignEach [.Name x px, .Name y py] X.env).findIdx? (·.1) = none := by rfl) :
    FSt X Γ W Ob O (ownsM O [i, j] [m1, m2]) (.Assign [.Tuple [.Name x px, .Name y py] kt pt] (.Tuple [a, b] k2 pt2) pos) (sPar2 i j fa fb) := by
  have pg := pg_tup (X := X) (pos := pt) (k := kt) hc (pgs_cons (pg_name (pos := px) c.nd hi hx fx) (pgs_cons (pg_name (pos := py) c.nd hj hy fy) pgs_nil hs2) hs1) hn hst
  refine ⟨fun E E' env st l q => ha.mono _ _ _ (fun ds s => match ds with | [x, y] => E'.nx (Fy.put (Fy.put env i (some x)) j (some y)) s | _ => False) _ _ (fun ds s z => ?_) (l.ex _) (show aCons fa (aCons fb aNil) env st (fun ds s => match ds with | [x, y] => E.nx (Fy.put (Fy.put env i (some x)) j (some y)) s | _ => False) (E.ex env) from q), (ps_asg (pe_tup ha.pa) pg hs hw h1).imp fun Dn σ H ⟨env, st, E, R, T, L, q⟩ => ?_⟩
  · match ds, z with
    | [d1, d2], z => exact l.nx _ _ z
  · refine ⟨env, st, R, T, ha.mono _ _ (fun ds s => match ds with | [x, y] => E.nx (Fy.put (Fy.put env i (some x)) j (some y)) s | _ => False) _ _ _ (fun ds s z vs H' F e1 e2 r => ?_) (fun t d s z => L.toX R t d s z) q⟩
    obtain ⟨l1, l2⟩ := r.len
    refine ⟨small_cap (by rw [l1, l2]; show 2 ≤ 1000; omega), fun p hp => ?_⟩
    have e3 : Ext H' (upd H' p (.tup vs)) := Ext.new hp
    obtain ⟨R', S'⟩ := puts_all (is := [i, j]) R T (e1.trans e3.ev) (r.ext e3) rfl (by simp [hij]) (fun k hk => by
      rcases List.mem_cons.mp hk with h | h
      · rw [h]; exact ⟨hoi, lt_N c hi⟩
      · rw [List.mem_singleton.mp h]; exact ⟨hoj, lt_N c hj⟩)
    match ds, vs, z, l1, l2, hp, e3, R', S' with
    | [d1, d2], [v1, v2], z, _, _, hp, e3, R', S' => exact ⟨p, [v1, v2], rfl, SqT.of upd_same, rfl, v1, [v2], rfl, v2, [], rfl, rfl, L.nx _ _ _ _ S' R' (e2.ext e3) z⟩
theorem fs_parT3 (i j l : Nat) {x y z : Str} {c' : Expr} {px py pz pt : Pos} {kt k2 pt2} {m1 m2 m3 : Bool} (c : Ctx X Γ W k) (ha : FM X Γ W O [a, b, c'] [m1, m2, m3] (aCons fa (aCons fb (aCons fc aNil)))) (hij : i ≠ j := by decide) (hil : i ≠ l := by decide) (hjl : j ≠ l := by decide) (hoi : i ∉ O := by decide) (hoj : j ∉ O := by decide) (hol : l ∉ O := by decide)
    (hi : X.N[i]? = some x := by rfl) (hj : X.N[j]? = some y := by rfl) (hl : X.N[l]? = some z := by rfl)
    (hx : Loc X.env.scope x := by first | exact Or.inl rfl | exact Or.inr rfl) (hy : Loc X.env.scope y := by first | exact Or.inl rfl | exact Or.inr rfl) (hz : Loc X.env.scope z := by first | exact Or.inl rfl | exact Or.inr rfl)
    (fx : X.fn x = true ∨ X.env.scope.names.lookup x = some .local := by first | exact .inl rfl | exact .inr rfl) (fy : X.fn y = true ∨ X.env.scope.names.lookup y = some .local := by first | exact .inl rfl | exact .inr rfl) (fz : X.fn z = true ∨ X.env.scope.names.lookup z = some .local := by first | exact .inl rfl | exact .inr rfl) (hc : X.calm = true := by rfl)
    (hw : swappedStores [.Tuple [.Name x px, .Name y py, .Name z pz] kt pt] (.Tuple [a, b, c'] k2 pt2) X.env = pure none := by rfl)
    (hs : swapsWithSole [.Tuple [.Name x px, .Name y py, .Name z pz] kt pt] (.Tuple [a, b, c'] k2 pt2) pos.line X.env = pure false := by rfl)
    (h1 : (assignEach [.Tuple [.Name x px, .Name y py, .Name z pz] kt pt] X.env).map (·.2) = [assign (.Tuple [.Name x px, .Name y py, .Name z pz] kt pt) X.env] := by rfl)
    (hs1 : (assignEach [.Name x px, .Name y py, .Name z pz] X.env).map (·.2) = assign (.Name x px) X.env :: (assignEach [.Name y py, .Name z pz] X.env).map (·.2) := by rfl) (hs2 : (assignEach [.Name y py, .Name z pz] X.env).map (·.2) = assign (.Name y py) X.env :: (assignEach [.Name z pz] X.env).map (·.2) := by rfl)
    (hs3 : (assignEach [.Name z pz] X.env).map (·.2) = assign (.Name z pz) X.env :: (assignEach [] X.env).map (·.2) := by rfl)
    (hn : (assignEach [.Name x px, .Name y py, .Name z pz] X.env).length = 3 := by rfl) (hst : (assignEach [.Name x px, .Name y py, .Name z pz] X.env).findIdx? (·.1) = none := by rfl) :
    FSt X Γ W Ob O (ownsM O [i, j, l] [m1, m2, m3]) (.Assign [.Tuple [.Name x px, .Name y py, .Name z pz] kt pt] (.Tuple [a, b, c'] k2 pt2) pos) (sPar3 i j l fa fb fc) := by
  have pg := pg_tup (X := X) (pos := pt) (k := kt) hc (pgs_cons (pg_name (pos := px) c.nd hi hx fx) (pgs_cons (pg_name (pos := py) c.nd hj hy fy) (pgs_cons (pg_name (pos := pz) c.nd hl hz fz) pgs_nil hs3) hs2) hs1) hn hst
  refine ⟨fun E E' env st le q => ha.mono _ _ _ (fun ds s => match ds with | [x, y, z] => E'.nx (Fy.put (Fy.put (Fy.put env i (some x)) j (some y)) l (some z)) s | _ => False) _ _ (fun ds s z => ?_) (le.ex _) (show aCons fa (aCons fb (aCons fc aNil)) env st (fun ds s => match ds with | [x, y, z] => E.nx (Fy.put (Fy.put (Fy.put env i (some x)) j (some y)) l (some z)) s | _ => False) (E.ex env) from q), (ps_asg (pe_tup ha.pa) pg hs hw h1).imp fun Dn σ H ⟨env, st, E, R, T, L, q⟩ => ?_⟩
  · match ds, z with
    | [d1, d2, d3], z => exact le.nx _ _ z
  · refine ⟨env, st, R, T, ha.mono _ _ (fun ds s => match ds with | [x, y, z] => E.nx (Fy.put (Fy.put (Fy.put env i (some x)) j (some y)) l (some z)) s | _ => False) _ _ _ (fun ds s z vs H' F e1 e2 r => ?_) (fun t d s z => L.toX R t d s z) q⟩
    obtain ⟨l1, l2⟩ := r.len
    refine ⟨small_cap (by rw [l1, l2]; show 3 ≤ 1000; omega), fun p hp => ?_⟩
    have e3 : Ext H' (upd H' p (.tup vs)) := Ext.new hp
    obtain ⟨R', S'⟩ := puts_all (is := [i, j, l]) R T (e1.trans e3.ev) (r.ext e3) rfl (by simp [hij, hil, hjl]) (fun k hk => by
      rcases List.mem_cons.mp hk with h | h
      · rw [h]; exact ⟨hoi, lt_N c hi⟩
      · rcases List.mem_cons.mp h with h | h
        · rw [h]; exact ⟨hoj, lt_N c hj⟩
        · rw [List.mem_singleton.mp h]; exact ⟨hol, lt_N c hl⟩)
    match ds, vs, z, l1, l2, hp, e3, R', S' with
    | [d1, d2, d3], [v1, v2, v3], z, _, _, hp, e3, R', S' => exact ⟨p, [v1, v2, v3], rfl, SqT.of upd_same, rfl, v1, [v2, v3], rfl, v2, [v3], rfl, v3, [], rfl, rfl, L.nx _ _ _ _ S' R' (e2.ext e3) z⟩
/-! ### list(range(a)), tuple(range(a)), {} -/
theorem rg_rep {N : Addr → Prop} {j : Int} : RepL Γ.g N H (rgV 0 j) (rangeD 0 j.toNat) := by
  unfold rgV rangeD
  rw [show (j - 0).toNat = j.toNat by rw [Int.sub_zero]]
  generalize List.range j.toNat = l
  induction l with
  | nil => exact .nil
  | cons i l ih => exact .cons (.int _) ih
theorem mono_LstR {f : FTE} (h : MonoE f) : MonoE (fLstR f) := fun env st Q Q' X X' hq hx q => h _ _ _ _ _ _ (fun x s z => by
  cases x <;> first | exact z.elim | exact ⟨z.1, hq _ _ z.2⟩) hx q
theorem mono_TupR {f : FTE} (h : MonoE f) : MonoE (fTupR f) := fun env st Q Q' X X' hq hx q => h _ _ _ _ _ _ (fun x s z => by
  cases x <;> first | exact z.elim | exact ⟨z.1, hq _ _ z.2⟩) hx q
theorem cap24 : cap = 2 ^ 24 := by decide
theorem fe_lstR {p p2 : Pos} (c : Ctx X Γ W k) (hm : X.mg "list" = none) (hr : X.mg "range" = none) (ha : FE X Γ W O .cl a fa) (hg : Gl X "list" := by rfl) (hg2 : Gl X "range" := by rfl) (hc : X.calm = true := by rfl)
    (na : starEach [a] X.env = (false, eval a X.env) :: starEach [] X.env := by rfl) (nb : starEach [.Call (.Name "range" p2) [a] [] q1] X.env = (false, eval (.Call (.Name "range" p2) [a] [] q1) X.env) :: starEach [] X.env := by rfl) :
    FE X Γ W O .fr (.Call (.Name "list" p) [.Call (.Name "range" p2) [a] [] q1] [] pos) (fLstR fa) :=
  ⟨mono_LstR ha.mono, (pe_listRg hc hg hm (prg_1 hg2 hr ha.pe na) nb).imp fun σ H Q ⟨env, st, R, T, q⟩ => ⟨env, st, R, T, ha.mono _ _ _ _ _ _ (fun d s1 z v H1 e1 T1 r1 => by
    cases d <;> first | exact (z : False).elim | skip
    cases r1
    obtain ⟨⟨b1, b2, b3⟩, z⟩ := z
    refine ⟨_, rfl, ⟨by decide, by decide, b1, b2, by rw [Int.sub_zero, ← cap24]; exact b3⟩, fun p hp => ?_⟩
    exact z _ _ (e1.trans (Ext.new hp).ev) (T1.ext (Ext.new hp)) ⟨p, rfl, e1.t _ hp, _, upd_same, rg_rep⟩) (fun _ _ _ z => z) q⟩⟩
theorem fe_tupR {p p2 : Pos} (c : Ctx X Γ W k) (hm : X.mg "tuple" = none) (hr : X.mg "range" = none) (ha : FE X Γ W O .cl a fa) (hg : Gl X "tuple" := by rfl) (hg2 : Gl X "range" := by rfl) (hc : X.calm = true := by rfl)
    (na : starEach [a] X.env = (false, eval a X.env) :: starEach [] X.env := by rfl) (nb : starEach [.Call (.Name "range" p2) [a] [] q1] X.env = (false, eval (.Call (.Name "range" p2) [a] [] q1) X.env) :: starEach [] X.env := by rfl) :
    FE X Γ W O .cl (.Call (.Name "tuple" p) [.Call (.Name "range" p2) [a] [] q1] [] pos) (fTupR fa) :=
  ⟨mono_TupR ha.mono, (pe_tupRg hc hg hm (prg_1 hg2 hr ha.pe na) nb).imp fun σ H Q ⟨env, st, R, T, q⟩ => ⟨env, st, R, T, ha.mono _ _ _ _ _ _ (fun d s1 z v H1 e1 T1 r1 => by
    cases d <;> first | exact (z : False).elim | skip
    cases r1
    obtain ⟨⟨b1, b2, b3⟩, z⟩ := z
    refine ⟨_, rfl, ⟨by decide, by decide, b1, b2, by rw [Int.sub_zero, ← cap24]; exact b3⟩, fun p hp => ?_⟩
    exact z _ _ (e1.trans (Ext.new hp).ev) (T1.ext (Ext.new hp)) (.tup upd_same (((R.nok T).zone e1).new hp) rg_rep)) (fun _ _ _ z => z) q⟩⟩
theorem fe_dict0 : FE X Γ W O .cl (.Dict [] [] pos) (fC (.dct [] [])) :=
  ⟨fun _ _ _ _ _ _ h _ q => h _ _ q, pe_dnewK.imp fun σ H Q ⟨env, st, R, T, q⟩ p hp => q _ _ (Ext.new hp).ev (T.ext (Ext.new hp)) (.dct (kvs := []) upd_same ((R.nok T).new hp) .nil)⟩
/-! ### zip -/
theorem zipD_get : ∀ (l m : List D) (i : Nat), i < (zipD l m).length → ∃ x y, l[i]? = some x ∧ m[i]? = some y ∧ (zipD l m)[i]? = some (.tup [x, y])
  | [], _, i, h => by simp [zipD] at h
  | _ :: _, [], i, h => by simp [zipD] at h
  | x :: l, y :: m, 0, _ => ⟨x, y, rfl, rfl, rfl⟩
  | x :: l, y :: m, i + 1, h => by
    obtain ⟨u, v, e1, e2, e3⟩ := zipD_get l m i (by simpa [zipD] using h)
    exact ⟨u, v, by simpa using e1, by simpa using e2, by simpa [zipD] using e3⟩
theorem zipD_len : ∀ (l m : List D), l.length ≤ (zipD l m).length ∨ m.length ≤ (zipD l m).length
  | [], _ => .inl (Nat.zero_le _)
  | _ :: _, [] => .inr (Nat.zero_le _)
  | x :: l, y :: m => (zipD_len l m).imp (fun h => by simpa [zipD] using h) fun h => by simpa [zipD] using h
theorem zip_yld {g : G0} {N N' : Addr → Prop} {vs ws : List V} {l m : List D} {i : Nat} {x' : V} {T : Addr} {u w : V} (rl : RepL g N H vs l) (rm : RepL g N H ws m) (kp : Keep N N' H H') (n : NOk N' H') (hx : x' = .ref T) (hT : H' T = none) (hH : H2 = upd H' T (.tup [u, w])) (hu : vs[i]? = some u) (hw : ws[i]? = some w) (hi : i < (zipD l m).length) :
    Ext H' H2 ∧ ∃ d, (zipD l m)[i]? = some d ∧ Rep g N' H2 x' d := by
  subst hx hH
  obtain ⟨dx, dy, e1, e2, e3⟩ := zipD_get l m i hi
  obtain ⟨v1, hv1, r1⟩ := rl.get e1
  obtain ⟨v2, hv2, r2⟩ := rm.get e2
  rw [hu] at hv1
  rw [hw] at hv2
  injection hv1 with hv1
  injection hv2 with hv2
  subst hv1 hv2
  have e : Ext H' (upd H' T (.tup [u, w])) := Ext.new hT
  have mv : ∀ {v : V} {d : D}, Rep g N H v d → Rep g N' (upd H' T (.tup [u, w])) v d := fun r => Rep.ev (fun _ _ hb _ => e.at hb) (fun _ _ z => z) _ _ (kp.rep r)
  exact ⟨e, _, e3, .tup upd_same (n.new hT) (.cons (mv r1) (.cons (mv r2) .nil))⟩
theorem it_zip {g : G0} {N : Addr → Prop} {K : PySem.W.Frag} {p q : Addr} {vs ws : List V} {l m : List D} (ha : H p = some (.lst vs)) (na : ¬ N p) (rl : RepL g N H vs l) (hb : H q = some (.lst ws)) (nb : ¬ N q) (rm : RepL g N H ws m) : ItOk g N (Itz K p q) (zipD l m) H where
  go := fun N' H' i kp hi => by
    obtain ⟨dx, dy, e1, e2, e3⟩ := zipD_get l m i hi
    obtain ⟨v1, hv1, _⟩ := rl.get e1
    obtain ⟨v2, hv2, _⟩ := rm.get e2
    exact ⟨vs, ws, v1, v2, SqL.of (kp.at ha na), SqL.of (kp.at hb nb), hv1, hv2⟩
  stop := fun N' H' kp => ⟨vs, ws, SqL.of (kp.at ha na), SqL.of (kp.at hb nb), by rw [rl.length, rm.length]; exact zipD_len l m⟩
  yld := fun N' H' i x' H'' kp n y hi => by
    obtain ⟨T, u, w, e1, e2, e3, e4, e5⟩ := y
    exact zip_yld rl rm kp n e1 e2 e3 (e4 vs (SqL.of (kp.at ha na))) (e5 ws (SqL.of (kp.at hb nb))) hi
theorem it_zipT {g : G0} {N : Addr → Prop} {K : PySem.W.Frag} {p q : Addr} {vs ws : List V} {l m : List D} (ha : H p = some (.tup vs)) (na : ¬ N p) (rl : RepL g N H vs l) (hb : H q = some (.tup ws)) (nb : ¬ N q) (rm : RepL g N H ws m) : ItOk g N (RZ.ItzT K p q) (zipD l m) H where
  go := fun N' H' i kp hi => by
    obtain ⟨dx, dy, e1, e2, e3⟩ := zipD_get l m i hi
    obtain ⟨v1, hv1, _⟩ := rl.get e1
    obtain ⟨v2, hv2, _⟩ := rm.get e2
    exact ⟨vs, ws, v1, v2, SqT.of (kp.at ha na), SqT.of (kp.at hb nb), hv1, hv2⟩
  stop := fun N' H' kp => ⟨vs, ws, SqT.of (kp.at ha na), SqT.of (kp.at hb nb), by rw [rl.length, rm.length]; exact zipD_len l m⟩
  yld := fun N' H' i x' H'' kp n y hi => by
    obtain ⟨T, u, w, e1, e2, e3, e4, e5⟩ := y
    exact zip_yld rl rm kp n e1 e2 e3 (e4 vs (SqT.of (kp.at ha na))) (e5 ws (SqT.of (kp.at hb nb))) hi
theorem mono_iZip (ha : MonoE fa) (hb : MonoE fb) : MonoI (iZip fa fb) := fun env st Q Q' X X' hq hx q => ha _ _ _ _ _ _ (fun u s z => hb _ _ _ _ _ _ (fun v s z => by
  cases u <;> cases v <;> first | exact z.elim | exact hq _ _ z) hx z) hx q
theorem fi_zip {tpos : Pos} {elts : List Expr} {kk : Nat} (hm : X.mg "zip" = none) (ha : FE X Γ W O .cl a fa) (hb : FE X Γ W O .cl b fb) (hg : Gl X "zip" := by rfl)
    (hs : starEach [a, b] X.env = (false, eval a X.env) :: starEach [b] X.env := by rfl) (hs2 : starEach [b] X.env = (false, eval b X.env) :: starEach [] X.env := by rfl) (hpl : (backTo pos (starEach [b] X.env)).any (·.1) = false := by rfl) :
    FI X Γ W O (.Tuple elts kk tpos) (.Call (.Name "zip" p) [a, b] [] pos) (iZip fa fb) :=
  ⟨mono_iZip ha.mono hb.mono, (RZ.pi_zipA hg hm (pa_cons ha.pe (pa_cons hb.pe pa_nil hs2) hs) hs hpl).imp fun σ H Rr ⟨env, st, R, T, q⟩ => ⟨env, st, R, T, ha.mono _ _ _ _ _ _ (fun dx s1 z v H1 e1 T1 r1 => ⟨env, s1, R.ev e1, T1, hb.mono _ _ _ _ _ _ (fun dy s2 z w H2 e2 T2 r2 => by
    have r1' := r1.zone e2
    cases dx <;> cases dy <;> first | exact (z : False).elim | skip
    · cases r1' with
      | @lst p1 vs _ h1 n1 l1 =>
        cases r2 with
        | @lst p2 ws _ h2 n2 l2 => exact ⟨p1, p2, vs, ws, rfl, .inl ⟨SqL.of h1, SqL.of h2, z _ H2 (e1.trans e2) T2 (it_zip h1 n1 l1 h2 n2 l2)⟩⟩
    · cases r1' with
      | @tup p1 vs _ h1 n1 l1 =>
        cases r2 with
        | @tup p2 ws _ h2 n2 l2 => exact ⟨p1, p2, vs, ws, rfl, .inr ⟨SqT.of h1, SqT.of h2, z _ H2 (e1.trans e2) T2 (it_zipT h1 n1 l1 h2 n2 l2)⟩⟩) (fun t d s z => exK.ev e1 z) z⟩) (fun _ _ _ z => z) q⟩⟩
/-! ### a op b op' c -/
theorem mono_Chain {o o' : Op2} (ho : Mono2 o) (ho' : Mono2 o') (ha : MonoE fa) (hb : MonoE fb) (hc : MonoE fc) : MonoE (fChain o o' fa fb fc) := fun env st Q Q' X X' hq hx q =>
  ha _ _ _ _ _ _ (fun x s z => hb _ _ _ _ _ _ (fun y s2 z => ho _ _ _ _ (fun r z => mono_isB (fun kk z => by
    cases kk with
    | true => exact hc _ _ _ _ _ _ (fun w s3 z => ho' _ _ _ _ (fun r => hq r s3) z) hx z
    | false => exact hq _ _ z) z) z) hx z) hx q
theorem ch_run {r r' : R2} {o o' : Op2} (ok : Op2Ok Γ o r) (ok' : Op2Ok Γ o' r') (ho : Mono2 o) (ho' : Mono2 o') (ha : FE X Γ W O .sh a fa) (hb : FE X Γ W O .cl b fb) (hc : FE X Γ W O .sh c fc) {σ : L2.St} {H : Hp} {Q : VK} (h : liftE Γ W .cl O (fChain o o' fa fb fc) σ H Q) :
    tChain r r' (liftE Γ W .sh O fa) (liftE Γ W .cl O fb) (liftE Γ W .sh O fc) σ H Q := by
  obtain ⟨env, st, R, T, h⟩ := h
  refine ⟨env, st, R, T, ha.mono _ _ _ _ _ _ (fun dx s1 q1 v H1 e1 T1 r1 => ⟨env, s1, R.ev e1, T1, hb.mono _ _ _ _ _ _ (fun dy s2 q2 y H2 e2 T2 r2 => ?_) (fun t d s z => exK.ev e1 z) q1⟩) (fun _ _ _ z => z) h⟩
  refine ok _ H2 v y dx dy _ _ (((R.nok T).zone e1).zone e2) (r1.zone e2) (.inl r2) q2 fun u H' d x rp qd => ?_
  cases d <;> first | exact (qd : False).elim | skip
  rename_i kb
  cases rp
  refine ⟨kb, rfl, ?_⟩
  have e3 : Ev (Zone Γ.g) H H' := e1.trans (e2.trans x.ev)
  cases kb with
  | false => exact qd _ H' e3 (T2.ext x) (.bl false)
  | true => exact ⟨env, s2, R.ev e3, T2.ext x, hc.mono _ _ _ _ _ _ (fun dz s3 q3 w H4 e4 T4 r4 => ok' _ H4 y w dy dz _ Q (((R.nok T).zone e3).zone e4) (.inl ((r2.ext x).zone e4)) r4 q3 fun u H5 d x5 rp qd => qd u H5 (e3.trans (e4.trans x5.ev)) (T4.ext x5) rp) (fun t d s z => exK.ev e3 z) qd⟩
theorem fe_chain {op op' : CmpOp} {r r' : R2} {o o' : Op2} (h : OpR X (compareOp op) r) (h' : OpR X (compareOp op') r') (ok : Op2Ok Γ o r) (ok' : Op2Ok Γ o' r') (ho : Mono2 o) (ho' : Mono2 o') (ha : FE X Γ W O .sh a fa) (hb : FE X Γ W O .cl b fb) (hc : FE X Γ W O .sh c fc)
    (hm : lastMarks [op, op'] [b, c] = false := by with_unfolding_all rfl) : FE X Γ W O .cl (.Compare a [op, op'] [b, c] pos) (fChain o o' fa fb fc) :=
  ⟨mono_Chain ho ho' ha.mono hb.mono hc.mono, (pe_chain h h' ha.pe hb.pe hc.pe hm).imp fun _ _ _ z => ch_run ok ok' ho ho' ha hb hc z⟩
theorem fc_chain {op op' : CmpOp} {r r' : R2} {o o' : Op2} (h : OpR X (compareOp op) r) (h' : OpR X (compareOp op') r') (ok : Op2Ok Γ o r) (ok' : Op2Ok Γ o' r') (ho : Mono2 o) (ho' : Mono2 o') (ha : FE X Γ W O .sh a fa) (hb : FE X Γ W O .cl b fb) (hc : FE X Γ W O .sh c fc)
    (hm : lastMarks [op, op'] [b, c] = false := by with_unfolding_all rfl) : FC X Γ W O (.Compare a [op, op'] [b, c] pos) (fTst (fChain o o' fa fb fc)) :=
  ⟨mono_Tst (mono_Chain ho ho' ha.mono hb.mono hc.mono), (pt_chain h h' ha.pe hb.pe hc.pe hm).imp fun _ _ _ z => tst_run (fun _ _ _ z => ch_run ok ok' ho ho' ha hb hc z) (mono_Chain ho ho' ha.mono hb.mono hc.mono) z⟩
end
end Fy
set_option Elab.async false
set_option linter.all false
set_option maxRecDepth 100000
set_option maxHeartbeats 4000000
/-! FyU: plain laws that the pure proofs of several laws share. -/
namespace Fy.Pu
open PySem (Str)
variable {v : D} {s : S} {Q : KD} {X : XC}
mutual
def pl : D → Bool
  | .non => true
  | .bl _ => true
  | .int i => decide (i.natAbs < 2 ^ 1000)
  | .str _ => true
  | .lst l => decide (l.length ≤ 1000) && pls l
  | .tup l => decide (l.length ≤ 1000) && pls l
  | _ => false
def pls : List D → Bool
  | [] => true
  | x :: r => pl x && pls r
end
def isI : D → Bool
  | .int _ => true
  | _ => false
def isN : D → Bool
  | .int i => decide (0 ≤ i)
  | _ => false
def pos : D → Bool
  | .int i => decide (0 < i)
  | _ => false
def isR : D → Bool
  | .tup [a, b] => pos a && pos b
  | _ => false
theorem pls_all {l : List D} (h : pls l = true) : ∀ x, x ∈ l → pl x = true := by
  induction l with
  | nil => intro x hx; cases hx
  | cons y r ih =>
    intro x hx
    rw [pls, Bool.and_eq_true] at h
    rcases List.mem_cons.mp hx with e | e
    · rw [e]; exact h.1
    · exact ih h.2 x e
theorem pl_tup {l : List D} (h : pl (.tup l) = true) : pls l = true := by
  unfold pl at h
  rw [Bool.and_eq_true] at h
  exact h.2
theorem pl_len {l : List D} (h : pl (.tup l) = true) : l.length ≤ 1000 := by
  unfold pl at h
  rw [Bool.and_eq_true] at h
  exact of_decide_eq_true h.1
/-- a comprehension over a row without a condition -/
theorem comp_map {g : FTG} {e : FTE} {f : D → D} {env : Env} {Q : List D → S → Prop} (P : D → Prop) (hg : ∀ x s (Q : D → S → Prop), P x → Q (f x) s → ∃ env2, (∀ R : Env → Prop, R env2 → g x env R) ∧ e env2 s Q (fun _ _ _ => False)) :
    ∀ (l acc : List D) (s : S), (∀ x, x ∈ l → P x) → acc.length + l.length ≤ cap → Q (acc ++ l.map f) s → compL g cYes e l acc env s Q
  | [], acc, s, _, _, q => by
    have q' : Q (acc ++ []) s := q
    rw [List.append_nil] at q'
    exact q'
  | x :: r, acc, s, hP, hc, q => by
    have hx := hP x (List.mem_cons_self ..)
    simp only [List.length_cons] at hc
    obtain ⟨env2, h1, h2⟩ := hg x s (fun y s2 => acc.length < cap ∧ compL g cYes e r (acc ++ [y]) env s2 Q) hx ⟨by omega, comp_map P hg r (acc ++ [f x]) s (fun y hy => hP y (List.mem_cons_of_mem _ hy)) (by simp; omega) (by rw [List.append_assoc]; exact q)⟩
    exact h1 _ h2
def inR : List (Int × Int) → Int → Int → Bool
  | [], e, n => if e = 0 then n == 0 else n % e == 0
  | p :: r, e, n => if n < p.1 * p.2 then n % p.1 == 0 else inR r e (n - p.1 * p.2)
def prD (p : Int × Int) : D := .tup [.int p.1, .int p.2]
def rowD (rs : List (Int × Int)) (e : Int) : D := .tup [.tup (rs.map prD), .int e]
def Good (p : Int × Int) : Prop := 0 < p.1 ∧ 0 < p.2 ∧ p.1.natAbs < 2 ^ 1000 ∧ p.2.natAbs < 2 ^ 1000
theorem log_lt {i : Int} {k : Nat} (hk : 0 < k) (h : i.natAbs < 2 ^ k) : i.natAbs.log2 < k := by
  by_cases h0 : i.natAbs = 0
  · rw [h0]; exact hk
  · exact (Nat.log2_lt h0).mpr h
theorem mul_ok {i j : Int} (hi : i.natAbs < 2 ^ 1000) (hj : j.natAbs < 2 ^ 1000) : MulOk i j := .inr (.inr (by
  have := log_lt (by decide) hi
  have := log_lt (by decide) hj
  omega))
theorem within_loop {E : Ends} {e : Int} {d0 d1 d2 : Option D} {Q : KD} (hrt : ∀ b s, Q (.bl b) s → E.rt (.bl b) s) (hnx : ∀ n x4 x5 s, Q (.bl (inR [] e n)) s → E.nx [d0, d1, d2, some (.int n), x4, x5] s) : ∀ (rs : List (Int × Int)) (n : Int) (x4 x5 : Option D) (s : S), (∀ p, p ∈ rs → Good p) → Q (.bl (inR rs e n)) s →
    forL (gTp (gMore (gNm 4) (gMore (gNm 5) gNil))) (sSeq (sIf (fTst (fOp qLt (fVar 3) (fOp qMul (fVar 4) (fVar 5)))) (sRet (fOp qEq (fOp qMod (fVar 3) (fVar 4)) (fC (.int 0)))) sNx) (sAsg (fOp qSub (fVar 3) (fOp qMul (fVar 4) (fVar 5))) (gNm 3))) (rs.map prD) E [d0, d1, d2, some (.int n), x4, x5] s
  | [], n, x4, x5, s, _, q => hnx n x4 x5 s q
  | p :: r, n, x4, x5, s, hg, q => by
    obtain ⟨h1, h2, h3, h4⟩ := hg p (List.mem_cons_self ..)
    refine ⟨rfl, mul_ok h3 h4, ?_⟩
    show (if decide (n < p.1 * p.2) = true then _ else _)
    unfold inR at q
    by_cases hlt : n < p.1 * p.2
    · rw [decide_eq_true hlt, if_pos rfl]
      rw [if_pos hlt] at q
      exact ⟨h1, rfl, rfl, hrt _ _ q⟩
    · rw [decide_eq_false hlt, if_neg Bool.false_ne_true]
      rw [if_neg hlt] at q
      exact ⟨mul_ok h3 h4, within_loop hrt hnx r _ _ _ s (fun x hx => hg x (List.mem_cons_of_mem _ hx)) q⟩
theorem inR_zero {e : Int} : ∀ {rs : List (Int × Int)}, (∀ p, p ∈ rs → Good p) → inR rs e 0 = true
  | [], _ => by
    unfold inR
    split <;> simp
  | p :: r, h => by
    obtain ⟨h1, h2, _, _⟩ := h p (List.mem_cons_self ..)
    unfold inR
    rw [if_pos (Int.mul_pos h1 h2)]
    simp
/-- what the boundary of a run answers -/
theorem inR_le {e n : Int} {p : Int × Int} {r : List (Int × Int)} (h : ∀ q, q ∈ p :: r → Good q) (hn : n ≤ p.1 * p.2) : inR (p :: r) e n = (n % p.1 == 0) := by
  unfold inR
  by_cases hlt : n < p.1 * p.2
  · rw [if_pos hlt]
  · rw [if_neg hlt, show n - p.1 * p.2 = 0 by omega, inR_zero fun q hq => h q (List.mem_cons_of_mem _ hq), show n = p.1 * p.2 by omega]
    simp
/-- the law's own -/
theorem in_loop {E : Ends} {e N : Int} {d0 : Option D} {Q : KD} (hrt : ∀ b s, Q (.bl b) s → E.rt (.bl b) s) (hnx : ∀ a x4 x5 s, Q (.bl (inR [] e (N - a))) s → E.nx [d0, some (.int N), some (.int a), x4, x5] s) : ∀ (rs : List (Int × Int)) (a : Int) (x4 x5 : Option D) (s : S), 0 ≤ e → (∀ p, p ∈ rs → Good p) → Q (.bl (inR rs e (N - a))) s →
    forL (gTp (gMore (gNm 3) (gMore (gNm 4) gNil))) (sSeq (sIf (fTst (fOp qLe (fVar 1) (fOp qAdd (fVar 2) (fOp qMul (fVar 3) (fVar 4))))) (sRet (fOp qEq (fOp qMod (fUn qInt (fOp qSub (fVar 1) (fVar 2))) (fVar 3)) (fC (.int 0)))) sNx) (sAsg (fOp qAdd (fVar 2) (fOp qMul (fVar 3) (fVar 4))) (gNm 2))) (rs.map prD) E [d0, some (.int N), some (.int a), x4, x5] s
  | [], a, x4, x5, s, _, _, q => hnx a x4 x5 s q
  | p :: r, a, x4, x5, s, he, hg, q => by
    obtain ⟨h1, h2, h3, h4⟩ := hg p (List.mem_cons_self ..)
    refine ⟨rfl, mul_ok h3 h4, ?_⟩
    show (if decide (N ≤ a + p.1 * p.2) = true then _ else _)
    by_cases hle : N ≤ a + p.1 * p.2
    · rw [decide_eq_true hle, if_pos rfl]
      refine ⟨h1, rfl, rfl, hrt _ _ ?_⟩
      rw [inR_le hg (by omega)] at q
      exact q
    · rw [decide_eq_false hle, if_neg Bool.false_ne_true]
      unfold inR at q
      rw [if_neg (by omega)] at q
      exact ⟨mul_ok h3 h4, in_loop hrt hnx r _ _ _ s he (fun x hx => hg x (List.mem_cons_of_mem _ hx)) (by rw [show N - (a + p.1 * p.2) = N - a - p.1 * p.2 by omega]; exact q)⟩
def runOf : D → Option (Int × Int)
  | .tup [.int a, .int b] => if 0 < a ∧ 0 < b then some (a, b) else none
  | _ => none
def runsOf : List D → Option (List (Int × Int))
  | [] => some []
  | x :: r => (runOf x).bind fun p => (runsOf r).map (p :: ·)
def headS : List (Int × Int) → Int → Int
  | [], e => e
  | p :: _, _ => p.1
/-- run by run: less behind, and among the numbers of what is behind -/
def fall : List (Int × Int) → Int → Bool
  | [], _ => true
  | p :: r, e => decide (headS r e < p.1) && (inR r e p.1 && fall r e)
def isF : D → Bool
  | .tup [.tup l, .int e] => decide (0 ≤ e) && (match runsOf l with
    | some rs => !(decide (e = 0) && decide (0 < rs.length)) && fall rs e
    | none => false)
  | _ => false
/-- one answer for each -/
def Each (P : D → D → Prop) : List D → List D → Prop
  | [], [] => True
  | x :: l, y :: r => P x y ∧ Each P l r
  | _, _ => False
theorem comp_each {g : FTG} {e : FTE} {env : Env} {Q : List D → S → Prop} : ∀ (l ds acc : List D) (s : S), Each (fun x y => ∀ s (Q : D → S → Prop), Q y s → ∃ env2, (∀ R : Env → Prop, R env2 → g x env R) ∧ e env2 s Q (fun _ _ _ => False)) l ds → acc.length + l.length ≤ cap → Q (acc ++ ds) s → compL g cYes e l acc env s Q
  | [], [], acc, s, _, _, q => by
    rw [List.append_nil] at q
    exact q
  | x :: l, y :: ds, acc, s, h, hc, q => by
    simp only [List.length_cons] at hc
    obtain ⟨env2, h1, h2⟩ := h.1 s (fun y s2 => acc.length < cap ∧ compL g cYes e l (acc ++ [y]) env s2 Q) ⟨by omega, comp_each l ds (acc ++ [y]) s h.2 (by simp; omega) (by rw [List.append_assoc]; exact q)⟩
    exact h1 _ h2
  | [], _ :: _, _, _, h, _, _ => h.elim
  | _ :: _, [], _, _, h, _, _ => h.elim
theorem Each.map {P : D → D → Prop} {f : D → D} : ∀ {l : List D}, (∀ x, x ∈ l → P x (f x)) → Each P l (l.map f)
  | [], _ => trivial
  | x :: l, h => ⟨h x (List.mem_cons_self ..), Each.map fun y hy => h y (List.mem_cons_of_mem _ hy)⟩
theorem Each.of {P : D → D → Prop} {α : Type} {a b : α → D} : ∀ {l : List α}, (∀ x, x ∈ l → P (a x) (b x)) → Each P (l.map a) (l.map b)
  | [], _ => trivial
  | x :: l, h => ⟨h x (List.mem_cons_self ..), Each.of fun y hy => h y (List.mem_cons_of_mem _ hy)⟩
theorem pos_int {d : D} (h : pos d = true) : ∃ i : Int, d = .int i ∧ 0 < i := by
  cases d <;> first | (cases h; done) | skip
  exact ⟨_, rfl, of_decide_eq_true h⟩
theorem isR_pr {x : D} (h : isR x = true) : ∃ p : Int × Int, x = prD p ∧ 0 < p.1 ∧ 0 < p.2 := by
  cases x with
  | tup l =>
    match l, h with
    | [a, b], h =>
      have h' : (pos a && pos b) = true := h
      rw [Bool.and_eq_true] at h'
      obtain ⟨i, rfl, hi⟩ := pos_int h'.1
      obtain ⟨j, rfl, hj⟩ := pos_int h'.2
      exact ⟨(i, j), rfl, hi, hj⟩
    | [], h => cases h
    | [_], h => cases h
    | _ :: _ :: _ :: _, h => cases h
  | _ => cases h
theorem runOf_pr {p : Int × Int} (h1 : 0 < p.1) (h2 : 0 < p.2) : runOf (prD p) = some p := by
  show (if 0 < p.1 ∧ 0 < p.2 then some (p.1, p.2) else none) = some p
  rw [if_pos ⟨h1, h2⟩]
theorem runOf_no {x : D} (h : isR x = false) : runOf x = none := by
  cases hx : runOf x with
  | none => rfl
  | some p =>
    exfalso
    unfold runOf at hx
    split at hx
    · split at hx
      · rename_i a b hab
        have : isR (.tup [.int a, .int b]) = true := by
          show (decide (0 < a) && decide (0 < b)) = true
          rw [decide_eq_true hab.1, decide_eq_true hab.2]
          rfl
        rw [this] at h
        cases h
      · cases hx
    · cases hx
theorem runsOf_all : ∀ {l : List D}, pls l = true → (l.all isR) = true → ∃ rs, runsOf l = some rs ∧ l = rs.map prD ∧ ∀ p, p ∈ rs → Good p
  | [], _, _ => ⟨[], rfl, rfl, fun _ h => by cases h⟩
  | x :: r, hp, h => by
    rw [List.all_cons, Bool.and_eq_true] at h
    rw [pls, Bool.and_eq_true] at hp
    obtain ⟨p, rfl, h1, h2⟩ := isR_pr h.1
    obtain ⟨rs, e1, e2, e3⟩ := runsOf_all hp.2 h.2
    have hp1 := pl_tup hp.1
    simp only [pls, pl, Bool.and_eq_true, decide_eq_true_eq] at hp1
    refine ⟨p :: rs, by unfold runsOf; rw [runOf_pr h1 h2, e1]; rfl, by rw [e2]; rfl, fun q hq => ?_⟩
    rcases List.mem_cons.mp hq with rfl | hq
    · exact ⟨h1, h2, hp1.1, hp1.2.1⟩
    · exact e3 q hq
theorem runsOf_no : ∀ {l : List D}, (l.all isR) = false → runsOf l = none
  | [], h => by cases h
  | x :: r, h => by
    rw [List.all_cons, Bool.and_eq_false_iff] at h
    unfold runsOf
    rcases h with h | h
    · rw [runOf_no h]; rfl
    · rw [runsOf_no h]
      cases runOf x <;> rfl
/-- a row of steps, all less and less; all among what is behind -/
def stp (rs : List (Int × Int)) (e : Int) (i : Nat) : Int := (rs.map (·.1) ++ [e]).getD i 0
def decB (rs : List (Int × Int)) (e : Int) : Bool := (List.range rs.length).all fun i => decide (stp rs e (i + 1) < stp rs e i)
def witB (rs : List (Int × Int)) (e : Int) : Bool := (List.range rs.length).all fun i => inR (rs.drop (i + 1)) e (stp rs e i)
theorem stp_succ {p : Int × Int} {rs : List (Int × Int)} {e : Int} {i : Nat} : stp (p :: rs) e (i + 1) = stp rs e i := by
  unfold stp
  simp
theorem stp_zero {rs : List (Int × Int)} {e : Int} : stp rs e 0 = headS rs e := by
  cases rs <;> rfl
theorem fall_eq {e : Int} : ∀ rs : List (Int × Int), (decB rs e && witB rs e) = fall rs e
  | [] => rfl
  | p :: rs => by
    have h1 : decB (p :: rs) e = (decide (headS rs e < p.1) && decB rs e) := by
      unfold decB
      rw [List.length_cons, List.range_succ_eq_map, List.all_cons, List.all_map]
      congr 1
      · rw [stp_succ, stp_zero]; rfl
    have h2 : witB (p :: rs) e = (inR rs e p.1 && witB rs e) := by
      unfold witB
      rw [List.length_cons, List.range_succ_eq_map, List.all_cons, List.all_map]
      congr 1
    rw [h1, h2, fall, ← fall_eq rs]
    cases decide (headS rs e < p.1) <;> cases decB rs e <;> cases inR rs e p.1 <;> cases witB rs e <;> rfl
theorem bools_map {α : Type} {f : α → Bool} : ∀ {l : List α}, bools? (l.map fun x => D.bl (f x)) = some (l.map f)
  | [] => rfl
  | x :: l => by
    show (bools? (l.map fun x => D.bl (f x))).map (f x :: ·) = _
    rw [bools_map]
    rfl
theorem all_id {α : Type} {f : α → Bool} (l : List α) : (l.map f).all id = l.all f := by
  rw [List.all_map]
  rfl
theorem isF_some {rs : List (Int × Int)} {e : Int} (hg : ∀ p, p ∈ rs → Good p) : isF (rowD rs e) = (decide (0 ≤ e) && (!(decide (e = 0) && decide (0 < rs.length)) && fall rs e)) := by
  have key : ∀ rs : List (Int × Int), (∀ p, p ∈ rs → Good p) → runsOf (rs.map prD) = some rs := by
    intro rs
    induction rs with
    | nil => intro _; rfl
    | cons p r ih =>
      intro hg
      obtain ⟨h1, h2, _, _⟩ := hg p (List.mem_cons_self ..)
      show (runOf (prD p)).bind _ = _
      rw [runOf_pr h1 h2, ih fun q hq => hg q (List.mem_cons_of_mem _ hq)]
      rfl
  show (decide (0 ≤ e) && _) = _
  rw [key rs hg]
theorem cut_from {l : List D} {i : Nat} (h : i + 1 ≤ l.length) : cutL l (some ((i : Int) + 1)) none = l.drop (i + 1) := by
  have e1 : sIx l.length 0 (some ((i : Int) + 1)) = i + 1 := by
    show (if ((i : Int) + 1) < 0 then (((i : Int) + 1) + (l.length : Int)).toNat else min ((i : Int) + 1).toNat l.length) = i + 1
    rw [if_neg (by omega)]
    omega
  unfold cutL
  rw [e1]
  show (l.drop (i + 1)).take (l.length - (i + 1)) = _
  rw [List.take_of_length_le (by simp)]
theorem ix_map {rs : List (Int × Int)} {i : Nat} (h : i < rs.length) {R : D → Prop} (q : R (prD rs[i])) : qIx (.tup (rs.map prD)) (.int (i : Int)) R := by
  refine ⟨_, ?_, q⟩
  have ei : ixOf (rs.map prD).length (i : Int) = some i := by
    unfold ixOf
    rw [if_pos (by omega), if_pos (by rw [List.length_map]; omega)]
    rfl
  rw [ei]
  show (rs.map prD)[i]? = _
  rw [List.getElem?_map, List.getElem?_eq_getElem h]
  rfl
theorem stp_get {rs : List (Int × Int)} {e : Int} {i : Nat} (h : i < rs.length) : stp rs e i = rs[i].1 := by
  unfold stp
  rw [List.getD_eq_getElem?_getD, List.getElem?_append_left (by simpa using h), List.getElem?_map, List.getElem?_eq_getElem h]
  rfl
theorem okN_mono : ∀ (n m : Nat) (d : D), n ≤ m → okN n d = true → okN m d = true
  | n, m, .non, _, _ => by cases m <;> rfl
  | n, m, .bl _, _, _ => by cases m <;> rfl
  | n, m, .int _, _, _ => by cases m <;> rfl
  | n, m, .str _, _, h => by cases n <;> cases m <;> exact h
  | 0, m, .lst _, _, h => by cases h
  | 0, m, .tup _, _, h => by cases h
  | n + 1, 0, .lst _, h, _ => by omega
  | n + 1, 0, .tup _, h, _ => by omega
  | n + 1, m + 1, .lst l, hm, h => by
    have h' : l.all (okN n) = true := h
    show l.all (okN m) = true
    rw [List.all_eq_true] at h' ⊢
    exact fun x hx => okN_mono n m x (by omega) (h' x hx)
  | n + 1, m + 1, .tup l, hm, h => by
    have h' : l.all (okN n) = true := h
    show l.all (okN m) = true
    rw [List.all_eq_true] at h' ⊢
    exact fun x hx => okN_mono n m x (by omega) (h' x hx)
  | n, m, .set _, _, h => by cases n <;> cases h
  | n, m, .dct _ _, _, h => by cases n <;> cases h
  | n, m, .rep _, _, h => by cases n <;> cases h
  | n, m, .exc _ _, _, h => by cases n <;> cases h
  | n, m, .scr _, _, h => by cases n <;> cases h
  | n, m, .deal, _, h => by cases n <;> cases h
theorem okN_tup {n : Nat} {l : List D} (h : okN (n + 1) (.tup l) = true) : ∀ x, x ∈ l → okN n x = true := by
  have h' : l.all (okN n) = true := h
  rw [List.all_eq_true] at h'
  exact h'
theorem comp_if {g : FTG} {c : FTC} {e : FTE} {env : Env} {Q : List D → S → Prop} {keep : D → Bool} : ∀ (l acc : List D) (s : S), (∀ x, x ∈ l → ∃ env2, (∀ R : Env → Prop, R env2 → g x env R) ∧ (∀ s (Qb : Bool → S → Prop), Qb (keep x) s → c env2 s Qb (fun _ _ _ => False)) ∧ ∀ s (Q : D → S → Prop), Q x s → e env2 s Q (fun _ _ _ => False)) →
    acc.length + l.length ≤ cap → Q (acc ++ l.filter keep) s → compL g c e l acc env s Q
  | [], acc, s, _, _, q => by
    have q' : Q (acc ++ []) s := q
    rw [List.append_nil] at q'
    exact q'
  | x :: l, acc, s, h, hc, q => by
    simp only [List.length_cons] at hc
    obtain ⟨env2, h1, h2, h3⟩ := h x (List.mem_cons_self ..)
    refine h1 _ (h2 _ _ ?_)
    rw [List.filter_cons] at q
    cases hk : keep x with
    | true =>
      rw [hk, if_pos rfl] at q
      refine h3 s (fun y s2 => acc.length < cap ∧ compL g c e l (acc ++ [y]) env s2 Q) ⟨by omega, comp_if l (acc ++ [x]) s (fun y hy => h y (List.mem_cons_of_mem _ hy)) (by simp; omega) (by rw [List.append_assoc]; exact q)⟩
    | false =>
      rw [hk, if_neg Bool.false_ne_true] at q
      exact comp_if l acc s (fun y hy => h y (List.mem_cons_of_mem _ hy)) (by omega) q
theorem isR_filter {a b : D} : isR (.tup [a, b]) = (([a, b].filter fun x => !pos x).isEmpty) := by
  show (pos a && pos b) = _
  cases ha : pos a <;> cases hb : pos b <;> simp [ha, hb]
theorem isF_row (h : pl v = true) (hF : isF v = true) : ∃ (rs : List (Int × Int)) (e : Int), v = rowD rs e ∧ (∀ p, p ∈ rs → Good p) ∧ 0 ≤ e ∧ (e = 0 → rs = []) ∧ fall rs e = true := by
  unfold isF at hF
  split at hF
  · rename_i l e
    have hl := pls_all (pl_tup h) (.tup l) (List.mem_cons_self ..)
    have hrl := pl_tup hl
    rw [Bool.and_eq_true] at hF
    obtain ⟨he, hF⟩ := hF
    cases hr : l.all isR with
    | false =>
      rw [runsOf_no hr] at hF
      cases hF
    | true =>
      obtain ⟨rs, e1, rfl, hg⟩ := runsOf_all hrl hr
      rw [e1] at hF
      have hF' : (!(decide (e = 0) && decide (0 < rs.length)) && fall rs e) = true := hF
      rw [Bool.and_eq_true, Bool.not_eq_true', Bool.and_eq_false_iff, decide_eq_false_iff_not, decide_eq_false_iff_not] at hF'
      refine ⟨rs, e, rfl, hg, of_decide_eq_true he, fun h0 => ?_, hF'.2⟩
      rcases hF'.1 with z | z
      · exact absurd h0 z
      · cases rs with
        | nil => rfl
        | cons _ _ => exact absurd (by simp) z
  · cases hF
def inZ (rs : List (Int × Int)) (e n : Int) : Prop := 0 ≤ n ∧ inR rs e n = true
theorem fall_parts {p : Int × Int} {r : List (Int × Int)} {e : Int} (h : fall (p :: r) e = true) : headS r e < p.1 ∧ inR r e p.1 = true ∧ fall r e = true := by
  unfold fall at h
  rw [Bool.and_eq_true, Bool.and_eq_true, decide_eq_true_eq] at h
  exact ⟨h.1, h.2.1, h.2.2⟩
theorem inZ_add {rs : List (Int × Int)} {e : Int} (hc : ∀ x y z, inZ rs e x → inZ rs e y → inZ rs e z → z ≤ x → z ≤ y → inZ rs e (x + y - z)) (hz : inZ rs e 0) {x y : Int} (hx : inZ rs e x) (hy : inZ rs e y) : inZ rs e (x + y) := by
  have h := hc x y 0 hx hy hz hx.1 hy.1
  rw [Int.sub_zero] at h
  exact h
theorem inZ_mul {rs : List (Int × Int)} {e s : Int} (hc : ∀ x y z, inZ rs e x → inZ rs e y → inZ rs e z → z ≤ x → z ≤ y → inZ rs e (x + y - z)) (hz : inZ rs e 0) (hs : inZ rs e s) : ∀ k : Nat, inZ rs e (s * (k : Int))
  | 0 => by simpa using hz
  | k + 1 => by
    have h := inZ_add hc hz (inZ_mul hc hz hs k) hs
    rw [show s * ((k + 1 : Nat) : Int) = s * (k : Int) + s by rw [Int.natCast_add, Int.mul_add]; simp]
    exact h
theorem closed : ∀ (rs : List (Int × Int)) (e : Int), 0 ≤ e → (∀ p, p ∈ rs → Good p) → fall rs e = true → ∀ x y z, inZ rs e x → inZ rs e y → inZ rs e z → z ≤ x → z ≤ y → inZ rs e (x + y - z)
  | [], e, he, _, _, x, y, z, hx, hy, hz, h1, h2 => by
    obtain ⟨x0, hx⟩ := hx
    obtain ⟨y0, hy⟩ := hy
    obtain ⟨z0, hz⟩ := hz
    refine ⟨by omega, ?_⟩
    unfold inR at hx hy hz ⊢
    by_cases h0 : e = 0
    · rw [if_pos h0, beq_iff_eq] at hx hy hz ⊢
      omega
    · rw [if_neg h0, beq_iff_eq] at hx hy hz ⊢
      rw [← Int.dvd_iff_emod_eq_zero] at hx hy hz ⊢
      exact Int.dvd_sub (Int.dvd_add hx hy) hz
  | p :: r, e, he, hg, hf, x, y, z, hx, hy, hz, h1, h2 => by
    obtain ⟨g1, g2, _, _⟩ := hg p (List.mem_cons_self ..)
    have hg' : ∀ q, q ∈ r → Good q := fun q hq => hg q (List.mem_cons_of_mem _ hq)
    obtain ⟨_, f2, f3⟩ := fall_parts hf
    have hc := closed r e he hg' f3
    have z0 : inZ r e 0 := ⟨Int.le_refl _, inR_zero hg'⟩
    have ps : inZ r e p.1 := ⟨by omega, f2⟩
    have T0 : 0 < p.1 * p.2 := Int.mul_pos g1 g2
    -- multiples of the step
    have mul : ∀ n, 0 ≤ n → p.1 ∣ n → inZ r e n := fun n hn ⟨k, hk⟩ => by
      have hk0 : 0 ≤ k := by
        rcases Int.lt_or_le k 0 with h | h
        · have := Int.mul_neg_of_pos_of_neg g1 h
          omega
        · exact h
      have h := inZ_mul hc z0 ps k.toNat
      rw [Int.toNat_of_nonneg hk0, ← hk] at h
      exact h
    have lo : ∀ n, n ≤ p.1 * p.2 → inR (p :: r) e n = true → p.1 ∣ n := fun n hn h => by
      rw [inR_le hg hn, beq_iff_eq] at h
      exact Int.dvd_of_emod_eq_zero h
    have hi : ∀ n, p.1 * p.2 < n → inR (p :: r) e n = true → inZ r e (n - p.1 * p.2) := fun n hn h => by
      unfold inR at h
      rw [if_neg (by omega)] at h
      exact ⟨by omega, h⟩
    have back : ∀ n, p.1 * p.2 < n → inZ r e (n - p.1 * p.2) → inZ (p :: r) e n := fun n hn h => by
      refine ⟨by omega, ?_⟩
      unfold inR
      rw [if_neg (by omega)]
      exact h.2
    have all : ∀ n, 0 ≤ n → p.1 ∣ n → inZ (p :: r) e n := fun n hn hd => by
      rcases Int.lt_or_le (p.1 * p.2) n with h | h
      · exact back n h (mul _ (by omega) (Int.dvd_sub hd (Int.dvd_mul_right ..)))
      · refine ⟨hn, ?_⟩
        rw [inR_le hg h, beq_iff_eq]
        exact Int.emod_eq_zero_of_dvd hd
    obtain ⟨x0, hx⟩ := hx
    obtain ⟨y0, hy⟩ := hy
    obtain ⟨w0, hz⟩ := hz
    have T1 : p.1 ∣ p.1 * p.2 := Int.dvd_mul_right ..
    rcases Int.lt_or_le (p.1 * p.2) z with cz | cz
    · refine back _ (by omega) ?_
      have h := hc _ _ _ (hi x (by omega) hx) (hi y (by omega) hy) (hi z cz hz) (by omega) (by omega)
      rw [show x + y - z - p.1 * p.2 = x - p.1 * p.2 + (y - p.1 * p.2) - (z - p.1 * p.2) by omega]
      exact h
    · have dz := lo z cz hz
      rcases Int.lt_or_le (p.1 * p.2) x with cx | cx <;> rcases Int.lt_or_le (p.1 * p.2) y with cy | cy
      · refine back _ (by omega) ?_
        have h := inZ_add hc z0 (inZ_add hc z0 (hi x cx hx) (hi y cy hy)) (mul (p.1 * p.2 - z) (by omega) (Int.dvd_sub T1 dz))
        rw [show x + y - z - p.1 * p.2 = x - p.1 * p.2 + (y - p.1 * p.2) + (p.1 * p.2 - z) by omega]
        exact h
      · refine back _ (by omega) ?_
        have h := inZ_add hc z0 (hi x cx hx) (mul (y - z) (by omega) (Int.dvd_sub (lo y cy hy) dz))
        rw [show x + y - z - p.1 * p.2 = x - p.1 * p.2 + (y - z) by omega]
        exact h
      · refine back _ (by omega) ?_
        have h := inZ_add hc z0 (hi y cy hy) (mul (x - z) (by omega) (Int.dvd_sub (lo x cx hx) dz))
        rw [show x + y - z - p.1 * p.2 = y - p.1 * p.2 + (x - z) by omega]
        exact h
      · exact all _ (by omega) (Int.dvd_sub (Int.dvd_add (lo x cx hx) (lo y cy hy)) dz)
/-- l has the least number m, all above 0 -/
structure Lst (l : List Int) (m : Int) : Prop where
  pos : 0 < m
  mem : m ∈ l
  le : ∀ x, x ∈ l → m ≤ x
/-- one turn: times the least quotient of what m does not divide -/
structure Turn1 (l : List Int) (m t : Int) (l' : List Int) : Prop where
  ex : ∃ x, x ∈ l ∧ 0 < x % m ∧ x / m = t
  le : ∀ x, x ∈ l → 0 < x % m → t ≤ x / m
  new : ∀ y, y ∈ l' ↔ y = m ∨ ∃ x, x ∈ l ∧ m * t < x ∧ y = x - m * t
inductive Euc : List Int → Int → List (Int × Int) → Int → Prop
  | done {l m} : Lst l m → (∀ x, x ∈ l → x % m = 0) → Euc l m [] m
  | more {l m t l' m' rs e} : Lst l m → Turn1 l m t l' → Euc l' m' rs e → Euc l m ((m, t) :: rs) e
theorem Euc.lst {l : List Int} {m e : Int} {rs : List (Int × Int)} (h : Euc l m rs e) : Lst l m := by
  cases h with
  | done a _ => exact a
  | more a _ _ => exact a
theorem Turn1.t_pos {l l' : List Int} {m t : Int} (a : Lst l m) (h : Turn1 l m t l') : 0 < t := by
  obtain ⟨x, hx, h1, rfl⟩ := h.ex
  have h := a.le x hx
  have : 1 ≤ x / m := Int.le_ediv_of_mul_le a.pos (by omega)
  omega
theorem inR_zero2 {e : Int} : ∀ {rs : List (Int × Int)}, (∀ p, p ∈ rs → 0 < p.1 ∧ 0 < p.2) → inR rs e 0 = true
  | [], _ => by
    unfold inR
    split <;> simp
  | p :: r, h => by
    obtain ⟨h1, h2⟩ := h p (List.mem_cons_self ..)
    unfold inR
    rw [if_pos (Int.mul_pos h1 h2)]
    simp
theorem Euc.ok {l : List Int} {m e : Int} {rs : List (Int × Int)} (h : Euc l m rs e) : headS rs e = m ∧ fall rs e = true ∧ 0 < e ∧ (∀ p, p ∈ rs → 0 < p.1 ∧ 0 < p.2) ∧ ∀ x, x ∈ l → inR rs e x = true := by
  induction h with
  | done a d =>
    refine ⟨rfl, rfl, a.pos, (fun p hp => nomatch hp), fun x hx => ?_⟩
    unfold inR
    have := a.pos
    rw [if_neg (by omega), d x hx]
    rfl
  | @more l m t l' m' rs e a u k ih =>
    obtain ⟨i1, i2, i3, i4, i5⟩ := ih
    have tp := u.t_pos a
    have mp := a.pos
    have ml : m ∈ l' := (u.new m).mpr (.inl rfl)
    have lt : m' < m := by
      obtain ⟨x, hx, h1, h2⟩ := u.ex
      have e1 : m * t + x % m = x := by rw [← h2]; exact Int.mul_ediv_add_emod x m
      have hm : x - m * t ∈ l' := (u.new _).mpr (.inr ⟨x, hx, by omega, rfl⟩)
      have h3 := k.lst.le _ hm
      have h4 := Int.emod_lt_of_pos x mp
      omega
    refine ⟨rfl, ?_, i3, fun p hp => ?_, fun x hx => ?_⟩
    · unfold fall
      rw [i1, decide_eq_true lt, i5 m ml, i2]
      rfl
    · rcases List.mem_cons.mp hp with rfl | hp
      · exact ⟨mp, tp⟩
      · exact i4 p hp
    · unfold inR
      show (if x < m * t then x % m == 0 else inR rs e (x - m * t)) = true
      by_cases hlt : x < m * t
      · rw [if_pos hlt, beq_iff_eq]
        have h0 := Int.emod_nonneg x (show m ≠ 0 by omega)
        rcases Int.lt_or_le 0 (x % m) with h | h
        · have h1 := u.le x hx h
          have e1 := Int.mul_ediv_add_emod x m
          have h2 := Int.mul_le_mul_of_nonneg_left h1 (show (0 : Int) ≤ m by omega)
          omega
        · omega
      · rw [if_neg hlt]
        by_cases he : x = m * t
        · rw [he, Int.sub_self]
          exact inR_zero2 i4
        · exact i5 _ ((u.new _).mpr (.inr ⟨x, hx, by omega, rfl⟩))
theorem Turn1.lt {l l' : List Int} {m t m' : Int} (a : Lst l m) (u : Turn1 l m t l') (b : Lst l' m') : m' < m := by
  obtain ⟨x, hx, h1, h2⟩ := u.ex
  have e1 : m * t + x % m = x := by rw [← h2]; exact Int.mul_ediv_add_emod x m
  have hm : x - m * t ∈ l' := (u.new _).mpr (.inr ⟨x, hx, by omega, rfl⟩)
  have h3 := b.le _ hm
  have h4 := Int.emod_lt_of_pos x a.pos
  omega
theorem Turn1.half {l l' : List Int} {m t m' q : Int} (a : Lst l m) (u : Turn1 l m t l') (b : Lst l' m') (hq : q ∈ l) (hm : m < q) : 2 * m' ≤ q := by
  have h1 := u.lt a b
  have mp := a.pos
  rcases Int.lt_or_le q (2 * m) with h | h
  · have e1 : q % m = q - m := by
      have h0 : (q - m + m) % m = (q - m) % m := Int.add_emod_right ..
      rw [Int.sub_add_cancel] at h0
      rw [h0, Int.emod_eq_of_lt (by omega) (by omega)]
    have e2 : q / m = 1 := by
      have := Int.mul_ediv_add_emod q m
      rw [e1] at this
      have h3 : m * (q / m) = m * 1 := by omega
      exact Int.eq_of_mul_eq_mul_left (by omega) h3
    have h3 := u.le q hq (by omega)
    have h4 := u.t_pos a
    have e3 : t = 1 := by omega
    have h5 : q - m * t ∈ l' := (u.new _).mpr (.inr ⟨q, hq, by rw [e3]; omega, rfl⟩)
    have h6 := b.le _ h5
    rw [e3] at h6
    omega
  · omega
theorem Euc.len {l : List Int} {m e : Int} {rs : List (Int × Int)} (h : Euc l m rs e) : ∀ q, q ∈ l → m < q → (2 : Int) ^ rs.length ≤ q * m := by
  induction h with
  | @done l m a d =>
    intro q hq hm
    have h1 := a.pos
    have := Int.mul_pos (show 0 < q by omega) h1
    simp
    omega
  | @more l m t l' m' rs e a u k ih =>
    intro q hq hm
    have h1 := ih m ((u.new m).mpr (.inl rfl)) (u.lt a k.lst)
    have h2 := u.half a k.lst hq hm
    have h3 := Int.mul_le_mul_of_nonneg_right h2 (show (0 : Int) ≤ m by have := a.pos; omega)
    rw [List.length_cons, Int.pow_succ]
    have e1 : m * m' * 2 = 2 * m' * m := by rw [Int.mul_comm (m * m') 2, Int.mul_comm m m', Int.mul_assoc]
    omega
/-- what each run is at most -/
theorem Euc.bound {l : List Int} {m e B : Int} {rs : List (Int × Int)} (h : Euc l m rs e) : (∀ x, x ∈ l → x ≤ B) → e ≤ B ∧ ∀ p, p ∈ rs → p.1 ≤ B ∧ p.2 ≤ B := by
  induction h with
  | @done l m a d => exact fun hb => ⟨hb _ a.mem, (fun p hp => nomatch hp)⟩
  | @more l m t l' m' rs e a u k ih =>
    intro hb
    have mp := a.pos
    have tp := u.t_pos a
    have mB := hb _ a.mem
    have h1 : ∀ y, y ∈ l' → y ≤ B := fun y hy => by
      rcases (u.new y).mp hy with rfl | ⟨x, hx, h2, rfl⟩
      · exact mB
      · have := hb x hx
        have := Int.mul_pos mp tp
        omega
    obtain ⟨i1, i2⟩ := ih h1
    refine ⟨i1, fun p hp => ?_⟩
    rcases List.mem_cons.mp hp with rfl | hp
    · refine ⟨mB, ?_⟩
      obtain ⟨x, hx, h2, h3⟩ := u.ex
      show t ≤ B
      have h4 := hb x hx
      have h5 : x / m ≤ x := Int.ediv_le_self _ (by have := a.le x hx; omega)
      omega
    · exact i2 p hp
theorem comp_ints {g : FTG} {c : FTC} {e : FTE} {env : Env} {Q : List D → S → Prop} {keep : Int → Bool} {f : Int → Int} : ∀ (l : List Int) (acc : List D) (s : S), (∀ x, x ∈ l → ∃ env2, (∀ R : Env → Prop, R env2 → g (.int x) env R) ∧ (∀ s (Qb : Bool → S → Prop), Qb (keep x) s → c env2 s Qb (fun _ _ _ => False)) ∧ ∀ s (Q : D → S → Prop), keep x = true → Q (.int (f x)) s → e env2 s Q (fun _ _ _ => False)) →
    acc.length + l.length ≤ cap → Q (acc ++ ((l.filter keep).map f).map .int) s → compL g c e (l.map .int) acc env s Q
  | [], acc, s, _, _, q => by
    have q' : Q (acc ++ []) s := q
    rw [List.append_nil] at q'
    exact q'
  | x :: l, acc, s, h, hc, q => by
    simp only [List.length_cons] at hc
    obtain ⟨env2, h1, h2, h3⟩ := h x (List.mem_cons_self ..)
    refine h1 _ (h2 _ _ ?_)
    rw [List.filter_cons] at q
    cases hk : keep x with
    | true =>
      rw [hk, if_pos rfl] at q
      refine h3 s (fun y s2 => acc.length < cap ∧ compL g c e (l.map .int) (acc ++ [y]) env s2 Q) hk ⟨by omega, comp_ints l (acc ++ [.int (f x)]) s (fun y hy => h y (List.mem_cons_of_mem _ hy)) (by simp; omega) (by rw [List.append_assoc]; exact q)⟩
    | false =>
      rw [hk, if_neg Bool.false_ne_true] at q
      exact comp_ints l acc s (fun y hy => h y (List.mem_cons_of_mem _ hy)) (by omega) q
theorem len_insU (x : Int) : ∀ l : List Int, (insU x l).length ≤ l.length + 1
  | [] => by simp [insU]
  | y :: r => by
    unfold insU
    split
    · simp
    · split
      · simp
      · have := len_insU x r
        simp only [List.length_cons]
        omega
theorem len_sortU : ∀ l : List Int, (sortU l).length ≤ l.length
  | [] => Nat.le_refl _
  | x :: r => by
    have h1 := len_insU x (sortU r)
    have h2 := len_sortU r
    rw [sortU, List.length_cons]
    omega
theorem mem_insU (x k : Int) : ∀ l : List Int, k ∈ insU x l ↔ k = x ∨ k ∈ l
  | [] => by simp [insU]
  | y :: r => by
    unfold insU
    split
    · simp
    · split
      · rename_i h
        subst h
        simp
      · simp only [List.mem_cons, mem_insU x k r]
        constructor
        · rintro (h | h | h)
          · exact .inr (.inl h)
          · exact .inl h
          · exact .inr (.inr h)
        · rintro (h | h | h)
          · exact .inr (.inl h)
          · exact .inl h
          · exact .inr (.inr h)
theorem mem_sortU (k : Int) : ∀ l : List Int, k ∈ sortU l ↔ k ∈ l
  | [] => by simp [sortU]
  | x :: r => by rw [sortU, mem_insU, mem_sortU k r, List.mem_cons]
theorem pw_insU (x : Int) : ∀ l : List Int, l.Pairwise (· < ·) → (insU x l).Pairwise (· < ·)
  | [], _ => by simp [insU]
  | y :: r, h => by
    have h' := List.pairwise_cons.mp h
    unfold insU
    split
    · rename_i hx
      refine List.pairwise_cons.mpr ⟨fun z hz => ?_, h⟩
      rcases List.mem_cons.mp hz with e | e
      · rw [e]; exact hx
      · have := h'.1 z e; omega
    · split
      · exact h
      · refine List.pairwise_cons.mpr ⟨fun z hz => ?_, pw_insU x r h'.2⟩
        rcases (mem_insU x z r).mp hz with e | e
        · omega
        · exact h'.1 z e
theorem pw_sortU : ∀ l : List Int, (sortU l).Pairwise (· < ·)
  | [] => List.Pairwise.nil
  | x :: r => pw_insU x _ (pw_sortU r)
/-- a rising row of numbers above 0 has its first one as its least -/
theorem lst_sortU {l : List Int} {m : Int} {r : List Int} (h : sortU l = m :: r) (hp : ∀ x, x ∈ l → 0 < x) : Lst (sortU l) m := by
  have pw := pw_sortU l
  have mm : m ∈ sortU l := by rw [h]; exact List.mem_cons_self ..
  refine ⟨hp m ((mem_sortU m l).mp mm), mm, fun x hx => ?_⟩
  rw [h] at pw hx
  rcases List.mem_cons.mp hx with e | e
  · omega
  · have := (List.pairwise_cons.mp pw).1 x e
    omega
theorem minL_mem : ∀ {l : List Int}, l ≠ [] → minL l ∈ l
  | [], h => absurd rfl h
  | [x], _ => by simp [minL]
  | x :: y :: r, _ => by
    unfold minL
    split
    · exact List.mem_cons_self ..
    · exact List.mem_cons_of_mem _ (minL_mem (by simp))
theorem minL_le : ∀ {l : List Int} {z : Int}, z ∈ l → minL l ≤ z
  | [], _, h => by cases h
  | [x], z, h => by
    rw [List.mem_singleton] at h
    rw [h]
    exact Int.le_refl _
  | x :: y :: r, z, h => by
    unfold minL
    rcases List.mem_cons.mp h with rfl | h
    · split <;> omega
    · have := minL_le h
      split <;> omega
theorem pow_le {a b : Nat} (h : (2 : Int) ^ a ≤ 2 ^ b) : a ≤ b := by
  have h' : 2 ^ a ≤ 2 ^ b := by exact_mod_cast h
  exact (Nat.pow_le_pow_iff_right (by decide)).mp h'
/-- what Euclid's way may answer -/
def EuR (ns : List Int) (rs : List (Int × Int)) (e : Int) : Prop := (rs = [] ∧ e = 0 ∧ ∀ x, x ∈ ns → ¬ 0 < x) ∨ ∃ l m, (∀ x, x ∈ l ↔ x ∈ ns ∧ 0 < x) ∧ Euc l m rs e
theorem ix0 {m : Int} {r : List Int} {R : D → Prop} (q : R (.int m)) : qIx (.lst ((m :: r).map .int)) (.int 0) R := by
  refine ⟨.int m, ?_, q⟩
  have ei : ixOf (((m :: r).map D.int).length) 0 = some 0 := by
    unfold ixOf
    rw [if_pos (by omega), if_pos (by simp)]
    rfl
  rw [ei]
  rfl
def euI (ns : List Int) (k : Nat) (env : Env) : Prop := ∃ (d0 : Option D) (l : List Int) (acc : List (Int × Int)) (x3 x4 x5 x6 : Option D), env = [d0, some (.lst (l.map .int)), some (.lst (acc.map prD)), x3, x4, x5, x6] ∧ l.length < 1000 ∧ (∀ x, x ∈ l → x ≤ 2 ^ 100) ∧
  ((l = [] ∧ acc = [] ∧ ∀ x, x ∈ ns → ¬ 0 < x) ∨ ∃ m r, l = m :: r ∧ Lst l m ∧ k = m.toNat ∧ (acc = [] ∨ ∃ q, q ∈ l ∧ m < q ∧ (2 : Int) ^ acc.length * (q * m) ≤ 2 ^ 201) ∧ ∀ rs e, Euc l m rs e → EuR ns (acc ++ rs) e)
abbrev euB : FTS := (sSeq (sAsg (fOp qIx (fVar 1) (fC (.int 0))) (gNm 3)) (sSeq (sAsg (fLC (iSeq (fVar 1)) (gNm 6) (fTst (fOp qGt (fOp qMod (fUn qInt (fVar 6)) (fVar 3)) (fC (.int 0)))) (fOp qDiv (fVar 6) (fVar 3)) [6]) (gNm 4)) (sSeq (sIf (fTst (fOp qEq (fVar 4) (fLst aNil))) (sRet (fTup (aCons (fUn qTuple (fVar 2)) (aCons (fVar 3) aNil)))) sNx) (sSeq (sAsg (fUn qMin (fVar 4)) (gNm 5)) (sSeq (sMut 2 oAppend (aCons (fTup (aCons (fVar 3) (aCons (fVar 5) aNil))) aNil)) (sAsg (fUn qSorted (fUn qSetL (fOp qAdd (fLC (iSeq (fVar 1)) (gNm 6) (fTst (fOp qGt (fVar 6) (fOp qMul (fVar 3) (fVar 5)))) (fOp qSub (fVar 6) (fOp qMul (fVar 3) (fVar 5))) [6]) (fLst (aCons (fVar 3) aNil))))) (gNm 1)))))))
theorem ok_ints {n : Nat} : ∀ l : List Int, okN (n + 1) (.lst (l.map .int)) = true := fun l => by
  show (l.map D.int).all (okN n) = true
  rw [List.all_eq_true]
  intro x hx
  obtain ⟨i, _, rfl⟩ := List.mem_map.mp hx
  cases n <;> rfl
theorem ints_nil {l : List Int} : (D.lst (l.map .int)).eqv (.lst []) = l.isEmpty := by
  cases l <;> rfl
theorem eu_body {E : Ends} {ns : List Int} {k : Nat} {m : Int} {r : List Int} {acc : List (Int × Int)} {d0 x3 x4 x5 x6 : Option D}
    (hlen : (m :: r).length < 1000) (hB : ∀ x, x ∈ m :: r → x ≤ 2 ^ 100) (hL : Lst (m :: r) m) (hk : k = m.toNat) (hacc : acc = [] ∨ ∃ q, q ∈ m :: r ∧ m < q ∧ (2 : Int) ^ acc.length * (q * m) ≤ 2 ^ 201) (hE : ∀ rs e, Euc (m :: r) m rs e → EuR ns (acc ++ rs) e)
    (hrt : ∀ rs e, EuR ns rs e → E.rt (rowD rs e) s) (hnx : ∀ k' env, k' < k → euI ns k' env → E.nx env s) : euB E [d0, some (.lst ((m :: r).map .int)), some (.lst (acc.map prD)), x3, x4, x5, x6] s := by
  have mp := hL.pos
  have mB := hB m hL.mem
  have mlog : m.natAbs.log2 < 101 := log_lt (by decide) (by have : (2 : Int) ^ 101 = 2 * 2 ^ 100 := by decide
                                                            have : (2 : Nat) ^ 101 = 2 * 2 ^ 100 := by decide
                                                            omega)
  refine ix0 ?_
  show compL (gNm 6) (fTst (fOp qGt (fOp qMod (fUn qInt (fVar 6)) (fVar 3)) (fC (.int 0)))) (fOp qDiv (fVar 6) (fVar 3)) ((m :: r).map .int) [] [d0, some (.lst ((m :: r).map .int)), some (.lst (acc.map prD)), some (.int m), x4, x5, none] s _
  refine comp_ints (keep := fun x => decide (0 < x % m)) (f := fun x => x / m) (m :: r) [] s (fun x hx => ⟨[d0, some (.lst ((m :: r).map .int)), some (.lst (acc.map prD)), some (.int m), x4, x5, some (.int x)], fun R r => r, fun s Qb qb => ⟨mp, qb⟩, fun s Q _ qx => ⟨⟨mp, by omega⟩, qx⟩⟩) (by show 0 + _ ≤ 16777216; omega) ?_
  generalize hts : ((m :: r).filter fun x => decide (0 < x % m)).map (fun x => x / m) = ts
  refine ⟨ok_ints ts, rfl, ?_⟩
  show (if (D.lst (ts.map .int)).eqv (.lst []) = true then _ else _)
  rw [ints_nil]
  by_cases hn : ts = []
  · subst hn
    show E.rt (rowD acc m) s
    refine hrt _ _ ?_
    have h := hE [] m (.done hL fun x hx => ?_)
    · rw [List.append_nil] at h
      exact h
    · rw [List.map_eq_nil_iff, List.filter_eq_nil_iff] at hts
      have h1 := hts x hx
      rw [decide_eq_true_eq] at h1
      have := Int.emod_nonneg x (show m ≠ 0 by omega)
      omega
  · have hne : ts.isEmpty = false := by
      cases ts with
      | nil => exact absurd rfl hn
      | cons _ _ => rfl
    rw [hne, if_neg Bool.false_ne_true]
    refine ⟨ts, ints?_map ts, List.length_pos_iff.mpr hn, ?_⟩
    generalize ht : minL ts = t
    have tm : t ∈ ts := ht ▸ minL_mem hn
    have tl : ∀ z, z ∈ ts → t ≤ z := fun z hz => ht ▸ minL_le hz
    rw [← hts] at tm
    obtain ⟨x0, hx0, hx1⟩ := List.mem_map.mp tm
    obtain ⟨hx2, hx3⟩ := List.mem_filter.mp hx0
    rw [decide_eq_true_eq] at hx3
    have tle : ∀ x, x ∈ m :: r → 0 < x % m → t ≤ x / m := fun x hx h => tl _ (hts ▸ List.mem_map.mpr ⟨x, List.mem_filter.mpr ⟨hx, decide_eq_true h⟩, rfl⟩)
    have hx1' : x0 / m = t := hx1
    have tB : t ≤ 2 ^ 100 := by
      have h4 := hB x0 hx2
      have h5 : x0 / m ≤ x0 := Int.ediv_le_self _ (by have := hL.le x0 hx2; omega)
      omega
    have tp : 0 < t := by
      have : 1 ≤ x0 / m := Int.le_ediv_of_mul_le mp (by have := hL.le x0 hx2; omega)
      omega
    have accl : acc.length < 202 := by
      rcases hacc with h | ⟨q, _, h1, h2⟩
      · rw [h]; decide
      · have h3 : 1 ≤ q * m := Int.mul_pos (by omega) mp
        have h4 : (0 : Int) < 2 ^ acc.length := Int.pow_pos (by decide)
        have h5 := Int.mul_le_mul_of_nonneg_left h3 (Int.le_of_lt h4)
        have := pow_le (a := acc.length) (b := 201) (by omega)
        omega
    have tlog : t.natAbs.log2 < 101 := log_lt (by decide) (by have : (2 : Int) ^ 101 = 2 * 2 ^ 100 := by decide
                                                              have : (2 : Nat) ^ 101 = 2 * 2 ^ 100 := by decide
                                                              omega)
    have mt : MulOk m t := .inr (.inr (by omega))
    refine ⟨by show (acc.map prD).length < 16777216; rw [List.length_map]; omega, ?_⟩
    show compL (gNm 6) (fTst (fOp qGt (fVar 6) (fOp qMul (fVar 3) (fVar 5)))) (fOp qSub (fVar 6) (fOp qMul (fVar 3) (fVar 5))) ((m :: r).map .int) [] [d0, some (.lst ((m :: r).map .int)), some (.lst (acc.map prD ++ [prD (m, t)])), some (.int m), some (.lst (ts.map .int)), some (.int t), none] s _
    refine comp_ints (keep := fun x => decide (m * t < x)) (f := fun x => x - m * t) (m :: r) [] s (fun x hx => ⟨[d0, some (.lst ((m :: r).map .int)), some (.lst (acc.map prD ++ [prD (m, t)])), some (.int m), some (.lst (ts.map .int)), some (.int t), some (.int x)], fun R r => r, fun s Qb qb => ⟨mt, qb⟩, fun s Q _ qx => ⟨mt, qx⟩⟩) (by show 0 + _ ≤ 16777216; omega) ?_
    generalize hus : ((m :: r).filter fun x => decide (m * t < x)).map (fun x => x - m * t) = us
    have mT : m ≤ m * t := by
      have := Int.mul_le_mul_of_nonneg_left (show 1 ≤ t by omega) (Int.le_of_lt mp)
      omega
    have ul : us.length < (m :: r).length := by
      rw [← hus, List.length_map, List.filter_cons, if_neg (by rw [decide_eq_true_eq]; omega), List.length_cons]
      have := List.length_filter_le (fun x => decide (m * t < x)) r
      omega
    have um : ∀ y, y ∈ us ++ [m] ↔ y = m ∨ ∃ x, x ∈ m :: r ∧ m * t < x ∧ y = x - m * t := fun y => by
      rw [List.mem_append, List.mem_singleton, ← hus, List.mem_map]
      constructor
      · rintro (⟨x, hx, rfl⟩ | h)
        · obtain ⟨h1, h2⟩ := List.mem_filter.mp hx
          rw [decide_eq_true_eq] at h2
          exact .inr ⟨x, h1, h2, rfl⟩
        · exact .inl h
      · rintro (h | ⟨x, h1, h2, rfl⟩)
        · exact .inr h
        · exact .inl ⟨x, List.mem_filter.mpr ⟨h1, decide_eq_true h2⟩, rfl⟩
    refine ⟨by show (us.map D.int).length + 1 ≤ 16777216; rw [List.length_map]; omega, us ++ [m], ?_, by rw [List.length_append]; show us.length + 1 < 1000; omega, ?_⟩
    · show ints? (us.map D.int ++ [D.int m]) = _
      rw [show us.map D.int ++ [D.int m] = (us ++ [m]).map D.int by simp]
      exact ints?_map _
    have sl : (sortU (us ++ [m])).length < 1000 := by
      have := len_sortU (us ++ [m])
      rw [List.length_append] at this
      have e1 : [m].length = 1 := rfl
      omega
    refine ⟨sl, ?_⟩
    have posA : ∀ x, x ∈ us ++ [m] → 0 < x := fun x hx => by
      rcases (um x).mp hx with rfl | ⟨y, _, h, rfl⟩ <;> omega
    have sm : ∀ y, y ∈ sortU (us ++ [m]) ↔ y = m ∨ ∃ x, x ∈ m :: r ∧ m * t < x ∧ y = x - m * t := fun y => by rw [mem_sortU, um]
    have bA : ∀ x, x ∈ sortU (us ++ [m]) → x ≤ 2 ^ 100 := fun x hx => by
      rcases (sm x).mp hx with rfl | ⟨y, h1, h, rfl⟩
      · exact mB
      · have := hB y h1
        omega
    cases hs : sortU (us ++ [m]) with
    | nil =>
      have := (sm m).mpr (.inl rfl)
      rw [hs] at this
      cases this
    | cons m' r' =>
      have L' : Lst (m' :: r') m' := hs ▸ lst_sortU hs posA
      have T1 : Turn1 (m :: r) m t (m' :: r') := ⟨⟨x0, hx2, hx3, hx1'⟩, tle, fun y => by rw [← hs]; exact sm y⟩
      have lt' := T1.lt hL L'
      have mp' := L'.pos
      refine hnx m'.toNat _ (by omega) ⟨d0, m' :: r', acc ++ [(m, t)], some (.int m), some (.lst (ts.map .int)), some (.int t), x6, ?_, hs ▸ sl, hs ▸ bA, .inr ⟨m', r', rfl, L', rfl, .inr ⟨m, (T1.new m).mpr (.inl rfl), lt', ?_⟩, fun rs e h => ?_⟩⟩
      · show [d0, some (D.lst ((m' :: r').map .int)), some (.lst (acc.map prD ++ [prD (m, t)])), some (.int m), some (.lst (ts.map .int)), some (.int t), x6] = _
        rw [List.map_append]
        rfl
      · rw [List.length_append]
        show (2 : Int) ^ (acc.length + 1) * (m * m') ≤ 2 ^ 201
        rcases hacc with h | ⟨q, h0, h1, h2⟩
        · rw [h]
          show (2 : Int) ^ 1 * (m * m') ≤ 2 ^ 201
          have h3 : m * m' ≤ m * 2 ^ 100 := Int.mul_le_mul_of_nonneg_left (by omega) (by omega)
          have h4 : m * 2 ^ 100 ≤ (2 : Int) ^ 100 * 2 ^ 100 := Int.mul_le_mul_of_nonneg_right mB (by decide)
          have h5 : (2 : Int) ^ 201 = 2 * (2 ^ 100 * 2 ^ 100) := by decide
          rw [show (2 : Int) ^ 1 = 2 from rfl]
          omega
        · have h3 := T1.half hL L' h0 h1
          have h4 : m * (2 * m') ≤ m * q := Int.mul_le_mul_of_nonneg_left h3 (by omega)
          have h5 : (0 : Int) < 2 ^ acc.length := Int.pow_pos (by decide)
          have h6 := Int.mul_le_mul_of_nonneg_left h4 (Int.le_of_lt h5)
          rw [Int.pow_succ]
          have e1 : (2 : Int) ^ acc.length * 2 * (m * m') = 2 ^ acc.length * (m * (2 * m')) := by
            rw [Int.mul_assoc, show 2 * (m * m') = m * (2 * m') by rw [Int.mul_left_comm]]
          rw [Int.mul_comm q m] at h2
          omega
      · rw [List.append_assoc]
        exact hE _ _ (.more hL T1 h)
structure Row (rs : List (Int × Int)) (e : Int) : Prop where
  len : rs.length ≤ 250
  good : ∀ p, p ∈ rs → Good p ∧ p.1 ≤ 2 ^ 100 ∧ p.2 ≤ 2 ^ 100
  e0 : 0 ≤ e
  e1 : e ≤ 2 ^ 100
  nz : e = 0 → rs = []
  fl : fall rs e = true
theorem abs_lt {i : Int} (h0 : 0 ≤ i) (h : i ≤ 2 ^ 200) : i.natAbs < 2 ^ 1000 := by
  have h2 : (2 : Nat) ^ 200 < 2 ^ 1000 := Nat.pow_lt_pow_right (by decide) (by decide)
  omega
theorem EuR.row {ns : List Int} {rs : List (Int × Int)} {e : Int} (hB : ∀ x, x ∈ ns → x ≤ 2 ^ 100) (h : EuR ns rs e) : Row rs e := by
  rcases h with ⟨rfl, rfl, _⟩ | ⟨l, m, hl0, h⟩
  · exact ⟨by decide, fun p hp => (nomatch hp), Int.le_refl _, by decide, fun _ => rfl, rfl⟩
  · have hl : ∀ x, x ∈ l → x ∈ ns := fun x hx => ((hl0 x).mp hx).1
    obtain ⟨h1, h2, h3, h4, h5⟩ := h.ok
    obtain ⟨b1, b2⟩ := h.bound (B := 2 ^ 100) fun x hx => hB x (hl x hx)
    refine ⟨?_, fun p hp => ?_, by omega, b1, fun z => by omega, h2⟩
    · cases h with
      | done a d => decide
      | @more _ _ t l' m' rs' e' a u k =>
        obtain ⟨x, hx, h6, h7⟩ := u.ex
        have mp := a.pos
        have hlt : m < x := by
          have h8 := a.le x hx
          rcases Int.lt_or_le m x with h | h
          · exact h
          · have : x = m := by omega
            rw [this, Int.emod_self] at h6
            omega
        have h9 := Euc.len (.more a u k) x hx hlt
        have hx1 := hB x (hl x hx)
        have hm1 := hB m (hl m a.mem)
        have h10 : x * m ≤ 2 ^ 100 * 2 ^ 100 := Int.le_trans (Int.mul_le_mul_of_nonneg_right hx1 (by omega)) (Int.mul_le_mul_of_nonneg_left hm1 (by decide))
        rw [← Int.pow_add] at h10
        have := pow_le (Int.le_trans h9 h10)
        omega
    · obtain ⟨g1, g2⟩ := h4 p hp
      obtain ⟨g3, g4⟩ := b2 p hp
      exact ⟨⟨g1, g2, abs_lt (by omega) (by omega), abs_lt (by omega) (by omega)⟩, g3, g4⟩
theorem Row.g {rs : List (Int × Int)} {e : Int} (h : Row rs e) : ∀ p, p ∈ rs → Good p := fun p hp => (h.good p hp).1
theorem Row.isF {rs : List (Int × Int)} {e : Int} (h : Row rs e) : isF (rowD rs e) = true := by
  rw [isF_some h.g, decide_eq_true h.e0, h.fl, Bool.true_and, Bool.and_true]
  by_cases z : e = 0
  · rw [h.nz z]
    rw [decide_eq_true z]
    rfl
  · rw [decide_eq_false z]
    rfl
def W (n : Nat) (v : D) : Prop := pl v = true ∧ okN n v = true
theorem pls_of : ∀ {l : List D}, (∀ x, x ∈ l → pl x = true) → pls l = true
  | [], _ => rfl
  | x :: l, h => by
    rw [pls, h x (List.mem_cons_self ..), pls_of fun y hy => h y (List.mem_cons_of_mem _ hy)]
    rfl
theorem W.tup {n : Nat} {l : List D} (hl : l.length ≤ 1000) (h : ∀ x, x ∈ l → W n x) : W (n + 1) (.tup l) := by
  refine ⟨?_, ?_⟩
  · show (decide (l.length ≤ 1000) && pls l) = true
    rw [decide_eq_true hl, pls_of fun x hx => (h x hx).1]
    rfl
  · show l.all (okN n) = true
    rw [List.all_eq_true]
    exact fun x hx => (h x hx).2
theorem W.lst {n : Nat} {l : List D} (hl : l.length ≤ 1000) (h : ∀ x, x ∈ l → W n x) : W (n + 1) (.lst l) := by
  refine ⟨?_, ?_⟩
  · show (decide (l.length ≤ 1000) && pls l) = true
    rw [decide_eq_true hl, pls_of fun x hx => (h x hx).1]
    rfl
  · show l.all (okN n) = true
    rw [List.all_eq_true]
    exact fun x hx => (h x hx).2
theorem W.tupS {n : Nat} {l : List D} (hl : Nat.ble l.length 1000 = true) (h : ∀ x, x ∈ l → W n x) : W (n + 1) (.tup l) := W.tup (Nat.le_of_ble_eq_true hl) h
theorem W.lstS {n : Nat} {l : List D} (hl : Nat.ble l.length 1000 = true) (h : ∀ x, x ∈ l → W n x) : W (n + 1) (.lst l) := W.lst (Nat.le_of_ble_eq_true hl) h
theorem W.int {n : Nat} {i : Int} (h : i.natAbs < 2 ^ 1000) : W n (.int i) := ⟨decide_eq_true h, by cases n <;> rfl⟩
theorem W.sml {n : Nat} {i : Int} (h0 : -(2 ^ 200) ≤ i) (h1 : i ≤ 2 ^ 200) : W n (.int i) := W.int (by
  have h3 : (2 : Nat) ^ 200 < 2 ^ 1000 := Nat.pow_lt_pow_right (by decide) (by decide)
  omega)
theorem W.bl {n : Nat} {b : Bool} : W n (.bl b) := ⟨rfl, by cases n <;> rfl⟩
theorem W.non {n : Nat} : W n .non := ⟨rfl, by cases n <;> rfl⟩
theorem W.mono {n m : Nat} {v : D} (h : W n v) (hm : n ≤ m) : W m v := ⟨h.1, okN_mono n m v hm h.2⟩
theorem W.nil {n : Nat} : ∀ x, x ∈ ([] : List D) → W n x := fun x hx => nomatch hx
theorem W.cons {n : Nat} {a : D} {l : List D} (h1 : W n a) (h2 : ∀ x, x ∈ l → W n x) : ∀ x, x ∈ a :: l → W n x := fun x hx => by
  rcases List.mem_cons.mp hx with rfl | hx
  · exact h1
  · exact h2 x hx
theorem Row.w {rs : List (Int × Int)} {e : Int} (h : Row rs e) : ∀ x, x ∈ rs.map prD → W 2 x := fun x hx => by
  obtain ⟨p, hp, rfl⟩ := List.mem_map.mp hx
  obtain ⟨_, _, h3, h4⟩ := (h.good p hp).1
  exact W.tupS rfl (W.cons (W.int h3) (W.cons (W.int h4) W.nil))
theorem Row.wr {rs : List (Int × Int)} {e : Int} (h : Row rs e) : W 4 (rowD rs e) :=
  W.tupS rfl (W.cons (W.tup (by rw [List.length_map]; have := h.len; omega) h.w) (W.cons (W.int (abs_lt h.e0 (by have := h.e1; omega))) W.nil))
theorem comp_draw {g : FTG} {e : FTE} {env : Env} {Q : List D → S → Prop} {P : Int → Prop} : ∀ (l acc : List D) (s : S), (∀ x, x ∈ l → ∃ env2, (∀ R : Env → Prop, R env2 → g x env R) ∧ ∀ s (Q : D → S → Prop), (∀ n s, P n → Q (.int n) s) → e env2 s Q (fun _ _ _ => False)) →
    acc.length + l.length ≤ cap → (∀ (ns : List Int) (s : S), ns.length = l.length → (∀ n, n ∈ ns → P n) → Q (acc ++ ns.map .int) s) → compL g cYes e l acc env s Q
  | [], acc, s, _, _, q => by
    have q' := q [] s rfl fun n hn => nomatch hn
    rw [List.map_nil, List.append_nil] at q'
    exact q'
  | x :: l, acc, s, h, hc, q => by
    simp only [List.length_cons] at hc
    obtain ⟨env2, h1, h2⟩ := h x (List.mem_cons_self ..)
    refine h1 _ (h2 s (fun y s2 => acc.length < cap ∧ compL g cYes e l (acc ++ [y]) env s2 Q) fun n s hn => ⟨by omega, comp_draw l (acc ++ [.int n]) s (fun y hy => h y (List.mem_cons_of_mem _ hy)) (by simp; omega) fun ns s h3 h4 => ?_⟩)
    rw [List.append_assoc]
    exact q (n :: ns) s (by rw [List.length_cons, List.length_cons, h3]) fun k hk => by
      rcases List.mem_cons.mp hk with rfl | hk
      · exact hn
      · exact h4 k hk
/-- comprehension of drawn numbers, then Euclid's way -/
theorem rng1 {b : Int} (h0 : -(2 ^ 62) ≤ b) (h1 : b < 2 ^ 62) {P : List D → S → Prop} (q : P (rangeD 0 b.toNat) s) : (-(2 ^ 62) ≤ b ∧ b < 2 ^ 62) ∧ P (rangeD 0 b.toNat) s := ⟨⟨h0, h1⟩, q⟩
theorem rangeD_len {a : Int} {n : Nat} : (rangeD a n).length = n := by
  unfold rangeD
  rw [List.length_map, List.length_range]
theorem ints_prod (rs : List (Int × Int)) : ints? (rs.map fun p => D.int (p.1 * p.2)) = some (rs.map fun p => p.1 * p.2) := by
  rw [show (rs.map fun p => D.int (p.1 * p.2)) = (rs.map fun p => p.1 * p.2).map D.int by rw [List.map_map]; rfl]
  exact ints?_map _
theorem ix_lst {rs : List (Int × Int)} {x : Int} (h0 : 0 ≤ x) (h1 : x < (((rs.map prD).length : Nat) : Int)) : ∃ p, p ∈ rs ∧ ixOf (rs.map prD).length x = some x.toNat ∧ (rs.map prD)[x.toNat]? = some (prD p) := by
  have L : (rs.map prD).length = rs.length := List.length_map ..
  have hx : x.toNat < rs.length := by omega
  refine ⟨rs[x.toNat], List.getElem_mem hx, ?_, ?_⟩
  · unfold ixOf
    rw [if_pos h0, if_pos h1]
  · rw [List.getElem?_map, List.getElem?_eq_getElem hx]
    rfl
theorem at_of {l : List D} {x : Int} {j : Nat} {d : D} {R : D → Prop} (h1 : ixOf l.length x = some j) (h2 : l[j]? = some d) (q : R d) : atD l x R := ⟨d, by rw [h1]; exact h2, q⟩
theorem W.app {n : Nat} {l m : List D} (h1 : ∀ x, x ∈ l → W n x) (h2 : ∀ x, x ∈ m → W n x) : ∀ x, x ∈ l ++ m → W n x := fun x hx => by
  rcases List.mem_append.mp hx with h | h
  · exact h1 x h
  · exact h2 x h
theorem W.set {n : Nat} {l : List D} {d : D} {j : Nat} (h1 : ∀ x, x ∈ l → W n x) (h2 : W n d) : ∀ x, x ∈ l.set j d → W n x := fun x hx => by
  rcases List.mem_or_eq_of_mem_set hx with h | rfl
  · exact h1 x h
  · exact h2
theorem W.str1 {n : Nat} : W n (.str "1") := ⟨rfl, by
  have h : ((PySem.Str.ofString "1").cps.all (· < 0x110000)) = true := by decide +kernel
  cases n <;> exact h⟩
/-- a loop by an invariant of what is left and of the slots -/
theorem forL_inv {g : FTG} {b : FTS} {E : Ends} (I : List D → Env → Prop) : ∀ (l : List D) (env : Env) (s : S), I l env →
    (∀ x xs env s (E' : Ends), I (x :: xs) env → E'.rt = E.rt → E'.ex = E.ex → (∀ e s, I xs e → E'.nx e s) → (∀ e s, I xs e → E'.ct e s) → (∀ e s, E.nx e s → E'.bk e s) → g x env fun env2 => b E' env2 s) → (∀ env s, I [] env → E.nx env s) → forL g b l E env s
  | [], env, s, h, _, hn => hn env s h
  | x :: xs, env, s, h, hb, hn => hb x xs env s _ h rfl rfl (fun e s he => forL_inv I xs e s he hb hn) (fun e s he => forL_inv I xs e s he hb hn) (fun e s h => h)
theorem look_none : ∀ (n j : Nat) (d : D), look (List.replicate n none) j ≠ some d
  | 0, _, _, h => nomatch h
  | n + 1, 0, _, h => nomatch h
  | n + 1, j + 1, d, h => look_none n j d h
theorem eqv_ints : ∀ (a b : List Int), (D.lst (a.map .int)).eqv (.lst (b.map .int)) = (a == b)
  | [], [] => rfl
  | [], _ :: _ => rfl
  | _ :: _, [] => rfl
  | x :: a, y :: b => by
    show ((x == y) && (D.lst (a.map .int)).eqv (.lst (b.map .int))) = _
    rw [eqv_ints a b]
    rfl
theorem any_ints (k : Int) : ∀ a : List Int, ((a.map D.int).any fun y => y.eqv (.int k)) = a.contains k
  | [] => rfl
  | x :: a => by
    show ((x == k) || ((a.map D.int).any fun y => y.eqv (.int k))) = _
    rw [any_ints k a, List.contains_cons, show (x == k) = (k == x) by rw [Bool.eq_iff_iff, beq_iff_eq, beq_iff_eq]; exact eq_comm]
def L25 : List Int := (List.range 25).map fun (i : Nat) => (0 : Int) + (i : Int)
theorem L25_eq : rangeD 0 25 = L25.map D.int := by
  unfold L25 rangeD
  rw [List.map_map]
  rfl
theorem mem_L25 {k : Int} : k ∈ L25 ↔ 0 ≤ k ∧ k < 25 := by
  unfold L25
  rw [List.mem_map]
  constructor
  · rintro ⟨i, h, rfl⟩
    have := List.mem_range.mp h
    omega
  · rintro ⟨h0, h1⟩
    exact ⟨k.toNat, List.mem_range.mpr (by omega), by omega⟩
theorem repr_bl {b : Bool} {R : D → Prop} (q : R (.rep (.bl b))) : qRepr (.bl b) R := ⟨rfl, (by show 5 ≤ 16000000; decide), q⟩
/-- the slots around -/
def Sh (x0 : D) (rs : List (Int × Int)) (e : Int) (env : Env) : Prop := ∃ x2 x3 x4 x6 x7 x8 x9 x10 x11 : Option D, env = [some x0, some .deal, x2, x3, x4, some (rowD rs e), x6, x7, x8, x9, x10, x11]
end Fy.Pu
set_option Elab.async false
set_option linter.all false
set_option maxRecDepth 100000
set_option maxHeartbeats 4000000
/-! FyAC: new lists: a if c else b, sorted, x[::-1]. -/
namespace Fy
open PySem L2
section
variable {X : Cx} {Γ : G} {W : WX} {O : List Nat} {a b c : Expr} {fa fb : FTE} {p pos p2 : Pos} {k : Nat} {x : Str}
theorem fe_ifEF {fc : FTC} (hc : FC X Γ W O c fc) (ha : FE X Γ W O .fr a fa) (hb : FE X Γ W O .fr b fb) : FE X Γ W O .fr (.IfExp c a b pos) (fIfE fc fa fb) :=
  ⟨mono_IfE hc.mono ha.mono hb.mono, (pe_ifExp hc.pt ha.pe hb.pe).imp fun σ H Q ⟨env, st, R, T, z⟩ => ⟨env, st, R, T, hc.mono _ _ _ _ _ _ (fun k s z H' e1 e2 => by
    cases k with
    | true => exact ⟨env, s, R.ev e1, e2, ha.mono _ _ _ _ _ _ (fun b s2 z3 v H2 e3 e4 ⟨l, h1, h2, h3⟩ => z3 v H2 (e1.trans e3) e4 ⟨l, h1, e1.t _ h2, h3⟩) (fun t d s z => exK.ev e1 z) z⟩
    | false => exact ⟨env, s, R.ev e1, e2, hb.mono _ _ _ _ _ _ (fun b s2 z3 v H2 e3 e4 ⟨l, h1, h2, h3⟩ => z3 v H2 (e1.trans e3) e4 ⟨l, h1, e1.t _ h2, h3⟩) (fun t d s z => exK.ev e1 z) z⟩) (fun _ _ _ z => z) z⟩⟩
theorem fr_sorted : Op1Fr Γ qSorted (fun x H Q => rSortedF Γ.g.K Γ.g.w [x] H Q) := by
  intro N H x dx Qd Q n rx q k
  cases dx <;> first | exact (q : False).elim | skip
  · obtain ⟨ns, e, q⟩ := q
    obtain ⟨a, vs, rfl, ha, r1⟩ := rx.lst
    have ev := r1.ints e
    subst ev
    refine .inl ⟨a, ns, rfl, SqL.of ha, fun ns' p h1 h2 hp => ?_⟩
    have e2 : ns' = sortI ns := perm_sorted_eq (h1.trans (perm_sortI ns).symm) h2 (pw_sortI ns)
    subst e2
    exact k _ _ _ (Ext.new hp) hp (show OwnR _ _ _ _ (.lst _) from ⟨_, upd_same, RepL.ofInts _⟩) q
  · obtain ⟨h64, q⟩ := q
    obtain ⟨a, rfl, ha, pw⟩ := rx.set
    refine .inr ⟨a, _, _, rfl, ha, h64, fun ns p h1 h2 h3 hp => ?_⟩
    rename_i l
    have e2 : ns = l := sorted_eq h1 pw fun z => by rw [h2]; simp
    subst e2
    exact k _ _ _ (Ext.new hp) hp (show OwnR _ _ _ _ (.lst _) from ⟨_, upd_same, RepL.ofInts _⟩) q
theorem fe_b1F {id : String} {x : Str} {r : List V → Hp → VK → Prop} {q : Op1} (hc : CallR X (.builtin id) r) (ok : Op1Fr Γ q (fun x H Q => r [x] H Q)) (hq : Mono1 q) (hm : X.mg x = none) (ha : FE X Γ W O .sh a fa)
    (hg : Gl X x := by rfl) (hv : bootBuiltins x = some (.builtin id) := by decide +kernel) (hn : x ≠ "__name__" := by decide) (hdb : (x == ("__debug__" : Str)) = false := by decide)
    (he : starEach [a] X.env = (false, eval a X.env) :: starEach [] X.env := by rfl) (hpl : (backTo pos (starEach [] X.env)).any (·.1) = false := by rfl) : FE X Γ W O .fr (.Call (.Name x p) [a] [] pos) (fUn q fa) :=
  ⟨mono_Un hq ha.mono, (pe_callB hc hg hm hv (pa_cons ha.pe pa_nil he) hn hdb he hpl).imp fun _ _ _ h => un_runF (r := fun x H Q => r [x] H Q) ok ha h⟩
theorem fe_sortedF (c : Ctx X Γ W k) (hm : X.mg "sorted" = none) (ha : FE X Γ W O .sh a fa) (hc : X.calm = true := by rfl) (hg : Gl X "sorted" := by rfl) (he : starEach [a] X.env = (false, eval a X.env) :: starEach [] X.env := by rfl) (hpl : (backTo pos (starEach [] X.env)).any (·.1) = false := by rfl) : FE X Γ W O .fr (.Call (.Name "sorted" p) [a] [] pos) (fUn qSorted fa) := fe_b1F (or_sorted hc) (by have z := fr_sorted (Γ := Γ); rw [c.hK, c.hw] at z; exact z) mono_qSorted hm ha hg (he := he) (hpl := hpl)
theorem fe_revF {k : Nat} {p1 p3 : Pos} (hK : Γ.g.K = X.K) (ha : FE X Γ W O .sh a fa) : FE X Γ W O .fr (.Subscript a (.Slice none none (some (.UnaryOp .USub (.Constant (.int 1) k p1) p2)) p3) pos) (fUn qRev fa) :=
  ⟨mono_Un (by intro x Q Q' h q; cases x <;> first | exact (q : False).elim | exact h _ q) ha.mono, (pe_revL ha.pe).imp fun σ H Q ⟨env, st, R, T, q⟩ => ⟨env, st, R, T, ha.mono _ _ _ _ _ _ (fun dx s1 z v H1 e1 T1 r1 => by
    cases dx <;> first | exact (z : False).elim | skip
    obtain ⟨a, vs, rfl, ha, r2⟩ := r1.lst
    exact ⟨a, vs, rfl, SqL.of ha, fun p hp => z _ _ (e1.trans (Ext.new hp).ev) (T1.ext (Ext.new hp)) ⟨p, rfl, e1.t _ hp, _, upd_same, r2.rev.fresh (Ext.new hp) hp⟩⟩) (fun _ _ _ z => z) q⟩⟩
end
end Fy
set_option Elab.async false
set_option linter.all false
/-! FyBA: two more data terms: lists put together anew, numbers' lists made while a slot's own list is lent. -/
namespace Fy
open PySem (Str)
def qAddL : Op2
  | .lst a, .lst b, Q => a.length + b.length ≤ cap ∧ Q (.lst (a ++ b))
  | _, _, _ => False
def qMulL : Op2
  | .lst a, .int k, Q => 0 ≤ k ∧ k < 2 ^ 62 ∧ a.length * k.toNat ≤ cap ∧ Q (.lst (List.replicate k.toNat a).flatten)
  | _, _, _ => False
/-- a number among a dict's keys -/
def qInK : Op2
  | .int k, .dct ks _, Q => Q (.bl (ks.any fun z => decide (z = .inl k)))
  | _, _, _ => False
def qNotInK : Op2
  | .int k, .dct ks _, Q => Q (.bl (!ks.any fun z => decide (z = .inl k)))
  | _, _, _ => False
/-- a dict's entry put in its place, or at the end -/
def putD (ks : List (Sum Int Str)) (vs : List D) (k : Sum Int Str) (d : D) : D :=
  if (ks.any fun z => decide (z = k)) = true then .dct ks ((ks.zip vs).map fun p => if p.1 = k then d else p.2) else .dct (ks ++ [k]) (vs ++ [d])
/-- x[k] = v, x a slot's own dict, k a number -/
def sStD (i : Nat) (fk fe : FTE) : FTS := fun E env st => fe env st (fun d s1 => fk env s1 (fun k s2 => match look env i, k with
  | some (.dct ks vs), .int z => ks.length < cap ∧ E.nx (put env i (some (putD ks vs (.inl z) d))) s2
  | _, _ => False) (E.ex env)) (E.ex env)
/-- {k: b}, k a number, b a truth value -/
def fDct1 (fk fv : FTE) : FTE := fun env st Q X => fk env st (fun k s1 => fv env s1 (fun d s2 => match k, d with
  | .int z, .bl b => Q (.dct [.inl z] [.bl b]) s2
  | _, _ => False) X) X
def putKs (ks : List (Sum Int Str)) (k : Sum Int Str) : List (Sum Int Str) := if (ks.any fun z => decide (z = k)) = true then ks else ks ++ [k]
def putVs (ks : List (Sum Int Str)) (vs : List D) (k : Sum Int Str) (d : D) : List D := if (ks.any fun z => decide (z = k)) = true then (ks.zip vs).map fun p => if p.1 = k then d else p.2 else vs ++ [d]
/-- {k: v for ..} -/
def dcL (g : FTG) (c : FTC) (ke ve : FTE) : List D → List (Sum Int Str) → List D → Env → S → (D → S → Prop) → Prop
  | [], ks, vs, _, st, Q => Q (.dct ks vs) st
  | x :: xs, ks, vs, env, st, Q => g x env fun env2 => c env2 st (fun b s1 => if b = true then ke env2 s1 (fun k s2 => ve env2 s2 (fun d s3 => match k with
      | .int z => ks.length < cap ∧ dcL g c ke ve xs (putKs ks (.inl z)) (putVs ks vs (.inl z) d) env s3 Q
      | _ => False) (fun _ _ _ => False)) (fun _ _ _ => False) else dcL g c ke ve xs ks vs env s1 Q) (fun _ _ _ => False)
def fDC (it : FTI) (g : FTG) (c : FTC) (ke ve : FTE) (vs : List Nat) : FTE := fun env st Q X => it env st (fun l s1 => dcL g c ke ve l [] [] (wipes env vs) s1 Q) X
def sAsgI (a : FTE) (j : Nat) : FTS := fun E env st => a env st (fun d s1 => (∃ l ns, d = .lst l ∧ ints? l = some ns) ∧ E.nx (put env j (some d)) s1) (E.ex env)
end Fy
set_option Elab.async false
set_option linter.all false
set_option maxRecDepth 100000
set_option maxHeartbeats 4000000
/-! FyBB: the rules for FyBA. -/
namespace Fy
open PySem L2
section
variable {X : Cx} {Γ : G} {W : WX} {O Ob : List Nat} {a b : Expr} {fa fb : FTE} {p pos p2 : Pos} {k kk : Nat} {x : Str}
theorem mono_qAddL : Mono2 qAddL := by intro x y Q Q' h q; cases x <;> cases y <;> first | exact (q : False).elim | exact ⟨q.1, h _ q.2⟩
def Op2Fr (Γ : G) (q : Op2) (r : R2) : Prop := ∀ (N : Addr → Prop) (H : Hp) (x y : V) (dx dy : D) (Qd : D → Prop) (Q : VK), NOk N H → Sh Γ N H x dx → Sh Γ N H y dy → q dx dy Qd →
  (∀ a H' d, Ext H H' → H a = none → OwnR Γ.g (fun b => N b ∨ b = a) H' a d → Qd d → Q (.ref a) H') → r x y H Q
theorem fr_add : Op2Fr Γ qAddL (rAddF Γ.g.K) := by
  intro N H x y dx dy Qd Q n rx ry q k
  cases dx <;> cases dy <;> first | exact (q : False).elim | skip
  obtain ⟨z, q⟩ := q
  obtain ⟨a, vs, rfl, ha, r1⟩ := rx.lst
  obtain ⟨b, ws, rfl, hb, r2⟩ := ry.lst
  refine .inr (.inl ⟨a, b, vs, ws, rfl, rfl, ha, hb, ?_, fun p hp => ?_⟩)
  · rw [← cap_line, r1.length, r2.length]; exact z
  · exact k _ _ _ (Ext.new hp) hp (show OwnR _ _ _ _ (.lst _) from ⟨_, upd_same, (r1.append r2).fresh (Ext.new hp) hp⟩) q
theorem op_runF {r : R2} {q : Op2} (ok : Op2Fr Γ q r) (hq : Mono2 q) (ha : FE X Γ W O .sh a fa) (hb : FE X Γ W O .sh b fb) {σ : St} {H : Hp} {Q : VK} (h : liftE Γ W .fr O (fOp q fa fb) σ H Q) :
    tOp r (liftE Γ W .sh O fa) (liftE Γ W .sh O fb) σ H Q := by
  obtain ⟨env, st, R, T, h⟩ := h
  refine ⟨env, st, R, T, ha.mono _ _ _ _ _ _ (fun dx s1 q1 v H1 e1 T1 r1 => ⟨env, s1, R.ev e1, T1, hb.mono _ _ _ _ _ _ (fun dy s2 q2 y H2 e2 T2 r2 => ?_) (fun t d s z => exK.ev e1 z) q1⟩) (fun _ _ _ z => z) h⟩
  exact ok _ H2 v y dx dy _ Q (((R.nok T).zone e1).zone e2) (r1.zone e2) r2 q2 fun u H' d x hn rp qd => qd _ H' (e1.trans (e2.trans x.ev)) (T2.ext x) ⟨u, rfl, e1.t _ (e2.t _ hn), rp⟩
theorem fe_addF (c : Ctx X Γ W k) (ha : FE X Γ W O .sh a fa) (hb : FE X Γ W O .sh b fb) : FE X Γ W O .fr (.BinOp a .Add b pos) (fOp qAddL fa fb) :=
  ⟨mono_Op mono_qAddL ha.mono hb.mono, (pe_op or_add ha.pe hb.pe).imp fun _ _ _ h => op_runF (by have z := fr_add (Γ := Γ); rw [c.hK] at z; exact z) mono_qAddL ha hb h⟩
theorem mono_qMulL : Mono2 qMulL := by intro x y Q Q' h q; cases x <;> cases y <;> first | exact (q : False).elim | exact ⟨q.1, q.2.1, q.2.2.1, h _ q.2.2.2⟩
theorem fr_mul : Op2Fr Γ qMulL rMulF := by
  intro N H x y dx dy Qd Q n rx ry q k
  cases dx <;> cases dy <;> first | exact (q : False).elim | skip
  obtain ⟨z0, z1, z, q⟩ := q
  obtain ⟨a, vs, rfl, ha, r1⟩ := rx.lst
  refine .inr ⟨a, _, vs, rfl, ry.int, ha, by omega, by omega, ?_, fun p hp => ?_⟩
  · rw [← cap_line, r1.length]; exact z
  · exact k _ _ _ (Ext.new hp) hp (show OwnR _ _ _ _ (.lst _) from ⟨_, upd_same, (r1.times _).fresh (Ext.new hp) hp⟩) q
theorem fe_mulF (c : Ctx X Γ W k) (ha : FE X Γ W O .sh a fa) (hb : FE X Γ W O .sh b fb) : FE X Γ W O .fr (.BinOp a .Mult b pos) (fOp qMulL fa fb) :=
  ⟨mono_Op mono_qMulL ha.mono hb.mono, (pe_op or_mul ha.pe hb.pe).imp fun _ _ _ h => op_runF fr_mul mono_qMulL ha hb h⟩
theorem mono_AsgI {fe : FTE} {i : Nat} (h : MonoE fe) : MonoS (sAsgI fe i) := fun _ _ _ _ l q => h _ _ _ _ _ _ (fun d s z => ⟨z.1, l.nx _ _ z.2⟩) (l.ex _) q
theorem ints_repl {g : G0} {N : Addr → Prop} {H : Hp} : ∀ {l : List D} {ns : List Int}, ints? l = some ns → RepL g N H (ns.map V.int) l
  | [], ns, h => by
    simp [ints?] at h
    subst h
    exact .nil
  | x :: l, ns, h => by
    cases x <;> first | (cases h; done) | skip
    rename_i i
    have h' : (ints? l).map (i :: ·) = some ns := h
    cases hr : ints? l with
    | none => rw [hr] at h'; cases h'
    | some ms =>
      rw [hr] at h'
      injection h' with h'
      subst h'
      exact .cons (.int _) (ints_repl hr)
/-- a list of numbers stored, made while slots' own lists are lent -/
theorem fs_setLcB {elt tg iter : Expr} {ifs : List Expr} {scope : Scope} (O1 : List Nat) (i : Nat) {x : Str} (own : List (Str × Nat)) {fit : FTI} {fg : FTG} {fc : FTC} {fe : FTE} {ts : List Nat} {p2 : Pos} (c : Ctx X Γ W kk) (hi : FI X Γ W O1 tg iter fit) (ok : BlkOk X.N X.env.scope scope own)
    (hg : ∀ (b : Bs Γ) (s : Shared) (H : Hp) (C : Addr) (cl : List (Str × Addr)) (fp : List Addr), FG (X.blk s H scope (compEnvC scope cl C X.env) fp) (Γ.w2 b) O1 ts tg fg)
    (ht : ∀ (b : Bs Γ) (s : Shared) (H : Hp) (C : Addr) (cl : List (Str × Addr)) (fp : List Addr), FTs (X.blk s H scope (compEnvC scope cl C X.env) fp) (Γ.w2 b) W0 O1 ifs fc)
    (he : ∀ (b : Bs Γ) (s : Shared) (H : Hp) (C : Addr) (cl : List (Str × Addr)) (fp : List Addr), FE (X.blk s H scope (compEnvC scope cl C X.env) fp) (Γ.w2 b) W0 O1 .cl elt fe)
    (hO1 : ∀ i, i ∈ O1 → i ∈ O := by decide)
    (ho : i ∉ O := by decide) (hN : X.N[i]? = some x := by rfl) (hx : X.env.scope.names.lookup x = some .local := by rfl) (hsw : swapsWith (.ListComp elt [⟨tg, iter, ifs, 0⟩] scope p2) (some (.Name x p)) pos.line X.env = pure true := by rfl)
    (hts : ∀ i, i ∈ ts → i ∈ own.map (·.2) := by decide) (hO : ∀ i, i ∈ own.map (·.2) → i ∉ O1 := by decide) (hc : X.calm = true := by rfl) (hs : ∀ x, foldedSetIterable iter X.env x = pure x := by intro _; rfl) :
    FSt X Γ W Ob O (i :: O) (.Assign [.Name x p] (.ListComp elt [⟨tg, iter, ifs, 0⟩] scope p2) pos) (sAsgI (fLC fit fg fc fe (own.map (·.2))) i) := by
  have b0 : Bs Γ := ⟨Γ.B, Γ.zb⟩
  have m1 := (hg b0 X.s_0 X.H_0 0 [] []).mono
  have m2 := (ht b0 X.s_0 X.H_0 0 [] []).mono
  have m3 := (he b0 X.s_0 X.H_0 0 [] []).mono
  have me := mono_LC (vs := own.map (·.2)) hi.mono m1 m2 m3
  refine ⟨mono_AsgI me, (ps_setLc hc c.nd hN hx hsw hi.pi ok (fun s H C cl fp => PG.ex fun b => (hg b s H C cl fp).pg) (fun s H C cl fp => PTs.ex fun b => (ht b s H C cl fp).pt) (fun s H C cl fp => PE.ex fun b => (he b s H C cl fp).pe) hs).imp fun Dn σ H ⟨env, st, E, R, T, L, q⟩ => ?_⟩
  have R0 := R.drop hO1
  refine lc_read hi.mono m1 m2 m3 hts hO ⟨env, st, R0, T, me _ _ _ _ _ _ (fun d s z v H' e1 e2 ⟨a, hv, ha, ow⟩ => ?_) (fun t d s z => (L.step (.drop hO1)).toX R0 t d s z) q⟩
  subst hv
  obtain ⟨⟨l, ns, rfl, hl⟩, z⟩ := z
  have ow' : OwnR Γ.g (fun b => NN Γ O σ b ∨ b = a) H' a (.lst l) := by
    obtain ⟨vs, h1, r⟩ := ow
    have ev := r.ints hl
    subst ev
    exact ⟨_, h1, ints_repl hl⟩
  obtain ⟨R', S'⟩ := R.own1 T ho (lt_N c hN) e1 ha ow'
  exact L.nx _ _ _ _ S' R' e2 z
end
end Fy
set_option Elab.async false
set_option linter.all false
set_option maxRecDepth 100000
set_option maxHeartbeats 4000000
/-! FyBC: a dict's keys looked at. -/
namespace Fy
open PySem L2
section
variable {X : Cx} {Γ : G} {W : WX} {O Ob : List Nat} {a b : Expr} {fa fb : FTE} {p pos p2 : Pos} {k kk : Nat} {x : Str}
theorem mono_qInK : Mono2 qInK := by intro x y Q Q' h q; cases x <;> cases y <;> first | exact (q : False).elim | exact h _ q
theorem mono_qNotInK : Mono2 qNotInK := by intro x y Q Q' h q; cases x <;> cases y <;> first | exact (q : False).elim | exact h _ q
theorem get_k {N : Addr → Prop} {H : Hp} {y : V} {ks : List Key} {l : List D} {i : Int} (r : Sh Γ N H y (.dct ks l)) : ∃ (a : Addr) (o : Option V), y = .ref a ∧ DGet H a (.int i) o ∧ o.isSome = ks.any fun z => decide (z = .inl i) := by
  obtain ⟨a, kvs, rfl, ha, hk, _⟩ := r.dct
  refine ⟨a, _, rfl, DGet.k (k := .inl i) ha, ?_⟩
  rw [← valV_any, ← hk, List.any_map]
  rfl
theorem fe_inK (c : Ctx X Γ W k) (ha : FE X Γ W O .sh a fa) (hb : FE X Γ W O .sh b fb) (hm : behindInMarks .In b = false := by rfl) : FE X Γ W O .cl (.Compare a [.In] [b] pos) (fOp qInK fa fb) :=
  ⟨mono_Op mono_qInK ha.mono hb.mono, (pe_cmp (pc_din (by have := c.u65; omega) ha.pe hb.pe) hm).imp fun σ H Q ⟨env, st, R, T, h⟩ => ⟨env, st, R, T, ha.mono _ _ _ _ _ _ (fun dx s1 q1 v H1 e1 T1 r1 => ⟨env, s1, R.ev e1, T1, hb.mono _ _ _ _ _ _ (fun dy s2 q2 y H2 e2 T2 r2 => by
    cases dx <;> cases dy <;> first | exact (q2 : False).elim | skip
    obtain rfl := r1.int
    obtain ⟨b, o, rfl, g, eo⟩ := get_k r2
    refine ⟨b, o, rfl, g, ?_⟩
    rw [eo]
    exact q2 _ _ (e1.trans e2) T2 (.bl _)) (fun t d s z => exK.ev e1 z) q1⟩) (fun _ _ _ z => z) h⟩⟩
theorem fe_notinK (c : Ctx X Γ W k) (ha : FE X Γ W O .sh a fa) (hb : FE X Γ W O .sh b fb) (hm : behindInMarks .NotIn b = false := by rfl) : FE X Γ W O .cl (.Compare a [.NotIn] [b] pos) (fOp qNotInK fa fb) :=
  ⟨mono_Op mono_qNotInK ha.mono hb.mono, (pe_cmp (pc_dnotin (by have := c.u65; omega) ha.pe hb.pe) hm).imp fun σ H Q ⟨env, st, R, T, h⟩ => ⟨env, st, R, T, ha.mono _ _ _ _ _ _ (fun dx s1 q1 v H1 e1 T1 r1 => ⟨env, s1, R.ev e1, T1, hb.mono _ _ _ _ _ _ (fun dy s2 q2 y H2 e2 T2 r2 => by
    cases dx <;> cases dy <;> first | exact (q2 : False).elim | skip
    obtain rfl := r1.int
    obtain ⟨b, o, rfl, g, eo⟩ := get_k r2
    refine ⟨b, o, rfl, g, ?_⟩
    rw [eo]
    exact q2 _ _ (e1.trans e2) T2 (.bl _)) (fun t d s z => exK.ev e1 z) q1⟩) (fun _ _ _ z => z) h⟩⟩
theorem in_run (ha : FE X Γ W O .sh a fa) (hb : FE X Γ W O .sh b fb) {σ : St} {H : Hp} {Q : VK} (h : liftE Γ W .cl O (fOp qInK fa fb) σ H Q) : tDIn (liftE Γ W .sh O fa) (liftE Γ W .sh O fb) σ H Q := by
  obtain ⟨env, st, R, T, h⟩ := h
  exact ⟨env, st, R, T, ha.mono _ _ _ _ _ _ (fun dx s1 q1 v H1 e1 T1 r1 => ⟨env, s1, R.ev e1, T1, hb.mono _ _ _ _ _ _ (fun dy s2 q2 y H2 e2 T2 r2 => by
    cases dx <;> cases dy <;> first | exact (q2 : False).elim | skip
    obtain rfl := r1.int
    obtain ⟨b, o, rfl, g, eo⟩ := get_k r2
    refine ⟨b, o, rfl, g, ?_⟩
    rw [eo]
    exact q2 _ _ (e1.trans e2) T2 (.bl _)) (fun t d s z => exK.ev e1 z) q1⟩) (fun _ _ _ z => z) h⟩
theorem notin_run (ha : FE X Γ W O .sh a fa) (hb : FE X Γ W O .sh b fb) {σ : St} {H : Hp} {Q : VK} (h : liftE Γ W .cl O (fOp qNotInK fa fb) σ H Q) : tDNotIn (liftE Γ W .sh O fa) (liftE Γ W .sh O fb) σ H Q := by
  obtain ⟨env, st, R, T, h⟩ := h
  exact ⟨env, st, R, T, ha.mono _ _ _ _ _ _ (fun dx s1 q1 v H1 e1 T1 r1 => ⟨env, s1, R.ev e1, T1, hb.mono _ _ _ _ _ _ (fun dy s2 q2 y H2 e2 T2 r2 => by
    cases dx <;> cases dy <;> first | exact (q2 : False).elim | skip
    obtain rfl := r1.int
    obtain ⟨b, o, rfl, g, eo⟩ := get_k r2
    refine ⟨b, o, rfl, g, ?_⟩
    rw [eo]
    exact q2 _ _ (e1.trans e2) T2 (.bl _)) (fun t d s z => exK.ev e1 z) q1⟩) (fun _ _ _ z => z) h⟩
theorem fc_inK (c : Ctx X Γ W k) (ha : FE X Γ W O .sh a fa) (hb : FE X Γ W O .sh b fb) (hm : behindInMarks .In b = false := by rfl) : FC X Γ W O (.Compare a [.In] [b] pos) (fTst (fOp qInK fa fb)) :=
  ⟨mono_Tst (mono_Op mono_qInK ha.mono hb.mono), (pt_cmp (pc_din (by have := c.u65; omega) ha.pe hb.pe) hm).imp fun _ _ _ h => tst_run (fun _ _ _ z => in_run ha hb z) (mono_Op mono_qInK ha.mono hb.mono) h⟩
theorem fc_notinK (c : Ctx X Γ W k) (ha : FE X Γ W O .sh a fa) (hb : FE X Γ W O .sh b fb) (hm : behindInMarks .NotIn b = false := by rfl) : FC X Γ W O (.Compare a [.NotIn] [b] pos) (fTst (fOp qNotInK fa fb)) :=
  ⟨mono_Tst (mono_Op mono_qNotInK ha.mono hb.mono), (pt_cmp (pc_dnotin (by have := c.u65; omega) ha.pe hb.pe) hm).imp fun _ _ _ h => tst_run (fun _ _ _ z => notin_run ha hb z) (mono_Op mono_qNotInK ha.mono hb.mono) h⟩
theorem mono_Dct1 {fk fv : FTE} (ha : MonoE fk) (hb : MonoE fv) : MonoE (fDct1 fk fv) := fun env st Q Q' X X' h hx q => ha _ _ _ _ _ _ (fun k s1 q1 => hb _ _ _ _ _ _ (fun d s2 q2 => by
  cases k <;> first | exact q2.elim | skip
  cases d <;> first | exact q2.elim | skip
  exact h _ _ q2) hx q1) hx q
theorem fe_dct1 {ke ve : Expr} {fk fv : FTE} (ha : FE X Γ W O .cl ke fk) (hb : FE X Γ W O .cl ve fv) : FE X Γ W O .fr (.Dict [some ke] [ve] pos) (fDct1 fk fv) :=
  ⟨mono_Dct1 ha.mono hb.mono, (pe_disp (pps_cons ha.pe hb.pe pps_nil) rfl rfl (by intro h; cases h) (by show 1 ≤ 15; omega)).imp fun σ H Q ⟨env, st, R, T, h⟩ p hp => by
    have en := Ext.new (o := .dK []) hp
    have np := R.fresh T hp
    refine ⟨env, st, R.ev en.ev, T.ext en, ha.mono _ _ _ _ _ _ (fun kd s1 q1 kv H1 e1 T1 r1 => ⟨env, s1, (R.ev en.ev).ev e1, T1, hb.mono _ _ _ _ _ _ (fun d s2 q2 v H2 e2 T2 r2 => ?_) (fun t d s z => exK.ev (en.ev.trans e1) z) q1⟩) (fun t d s z => exK.ev en.ev z) h⟩
    cases kd <;> first | exact q2.elim | skip
    cases d <;> first | exact q2.elim | skip
    cases r1
    cases r2
    rename_i z b
    have hp2 : H2 p = some (.dK []) := e2.k _ _ (e1.k _ _ upd_same fun z => np (.inl (Γ.zb _ z))) fun z => np (.inl (Γ.zb _ z))
    refine ⟨hp2, [(.inl z, .bl b)], rfl, by show 1 ≤ 15; omega, ?_⟩
    have e3 : Ev (Zone Γ.g) H (upd H2 p (.dK (mergeK [] [(.inl z, .bl b)]))) := by
      refine ⟨fun c o hc nz => ?_, fun c hc => ?_⟩
      · have h1 := e2.k _ _ (e1.k _ _ (en.at hc) nz) nz
        rw [upd_ne (fun (e : c = p) => by rw [e, hp] at hc; cases hc)]
        exact h1
      · by_cases e : c = p
        · rw [e]; exact hp
        · rw [upd_ne e] at hc
          exact en.t _ (e1.t _ (e2.t _ hc))
    have T3 : ST Γ (upd H2 p (.dK (mergeK [] [(.inl z, .bl b)]))) s2 := by
      refine ⟨fun y hy => ?_, fun c hc => ?_, T2.sz⟩
      · obtain ⟨h0, h1, h2⟩ := T2.z y hy
        have nb : ∀ c, H2 c ≠ some (.dK []) → c ≠ p := fun c hc e => hc (e ▸ hp2)
        rw [upd_ne (nb _ (by rw [h1]; intro h; cases h)), upd_ne (nb _ (by rw [h2]; intro h; cases h))]
        exact ⟨h0, h1, h2⟩
      · by_cases e : c = p
        · rw [e, upd_same]; intro h; cases h
        · rw [upd_ne e]; exact T2.b c hc
    exact q2 _ _ e3 T3 ⟨p, rfl, hp, show OwnR _ _ _ _ (.dct _ _) from ⟨_, upd_same, rfl, .cons (.bl _) .nil⟩⟩⟩
theorem repl_put {g : G0} {N : Addr → Prop} {H : Hp} {k : Key} {v : V} {d : D} (r : Rep g N H v d) : ∀ (kvs : List (Key × V)) (vs : List D), RepL g N H (kvs.map (·.2)) vs → RepL g N H ((kvs.map fun kv => if kv.1 = k then (kv.1, v) else kv).map (·.2)) (((kvs.map (·.1)).zip vs).map fun p => if p.1 = k then d else p.2)
  | [], [], _ => .nil
  | kv :: kvs, w :: vs, h => by
    cases h with
    | cons h1 h2 =>
      have ih := repl_put (k := k) r kvs vs h2
      show RepL g N H ((if kv.1 = k then (kv.1, v) else kv).2 :: _) ((if kv.1 = k then d else w) :: _)
      by_cases e : kv.1 = k
      · rw [if_pos e, if_pos e]
        exact .cons r ih
      · rw [if_neg e, if_neg e]
        exact .cons h1 ih
  | [], _ :: _, h => by cases h
  | _ :: _, [], h => by cases h
theorem own_put {g : G0} {N : Addr → Prop} {H : Hp} {a : Addr} {kvs : List (Key × V)} {vs : List D} {k : Key} {v : V} {d : D} (ha : H a = some (.dK (putK kvs k v))) (r : Rep g N H v d) (rl : RepL g N H (kvs.map (·.2)) vs) : OwnR g N H a (putD (kvs.map (·.1)) vs k d) := by
  unfold putD
  unfold putK at ha
  have e : ((kvs.map (·.1)).any fun z => decide (z = k)) = kvs.any fun kv => decide (kv.1 = k) := by
    rw [List.any_map]
    rfl
  rw [e]
  by_cases h : (kvs.any fun kv => decide (kv.1 = k)) = true
  · rw [if_pos h] at ha ⊢
    refine ⟨_, ha, ?_, repl_put r kvs vs rl⟩
    rw [List.map_map]
    refine List.map_congr_left fun kv _ => ?_
    show (if kv.1 = k then (kv.1, v) else kv).1 = kv.1
    split <;> rfl
  · rw [if_neg h] at ha ⊢
    refine ⟨_, ha, ?_, ?_⟩
    · rw [List.map_append]
      rfl
    · rw [List.map_append]
      exact rl.append (.cons r .nil)
theorem mono_StD {i : Nat} {fe fk : FTE} (he : MonoE fe) (hk : MonoE fk) : MonoS (sStD i fk fe) := fun E E' env st l q => he _ _ _ _ _ _ (fun d s z => hk _ _ _ _ _ _ (fun kd s z => by
  cases hl : look env i with
  | none => rw [hl] at z; exact z.elim
  | some dd =>
    rw [hl] at z
    cases dd <;> first | exact z.elim | skip
    cases kd <;> first | exact z.elim | skip
    exact ⟨z.1, l.nx _ _ z.2⟩) (l.ex _) z) (l.ex _) q
theorem fs_stD {i : Nat} {e ke : Expr} {fe fk : FTE} (c : Ctx X Γ W kk) (hn : Nm X x i) (he : FE X Γ W O .cl e fe) (hk : FE X Γ W O .cl ke fk) (ho : i ∈ O := by decide) (hs : swapsWith e (some (.Subscript (.Name x p) ke p2)) pos.line X.env = pure false := by rfl) : FSt X Γ W Ob O O (.Assign [.Subscript (.Name x p) ke p2] e pos) (sStD i fk fe) := by
  refine ⟨fun E E' env st l q => he.mono _ _ _ _ _ _ (fun d s z => hk.mono _ _ _ _ _ _ (fun kd s z => ?_) (l.ex _) z) (l.ex _) q, (ps_dput (by have := c.u65; omega) hn.pe hk.pe he.pe hs).imp fun Dn σ H ⟨env, st, E, R, T, L, q⟩ => ⟨env, st, R, T, he.mono _ _ _ _ _ _ (fun d s1 z v H1 e1 T1 r1 => ?_) (fun t d s z => L.toX R t d s z) q⟩⟩
  · cases hl : look env i with
    | none => rw [hl] at z; exact z.elim
    | some dd =>
      rw [hl] at z
      cases dd <;> first | exact z.elim | skip
      cases kd <;> first | exact z.elim | skip
      exact ⟨z.1, l.nx _ _ z.2⟩
  · obtain ⟨a, d', f1, f2, _, ow⟩ := R.own i ho
    refine ⟨_, f2, env, s1, R.ev e1, T1, hk.mono _ _ _ _ _ _ (fun kd s2 z kv H2 e2 T2 rk => ?_) (fun t d s z => (L.step (.ev e1)).toX (R.ev e1) t d s z) z⟩
    rw [f1] at z
    cases d' <;> first | exact z.elim | skip
    cases kd <;> first | exact z.elim | skip
    cases rk
    obtain ⟨hz, q⟩ := z
    have R2 := (R.ev e1).ev e2
    obtain ⟨a2, d2, g1, g2, g3, ow2⟩ := R2.own i ho
    have eq : a = a2 := by rw [f2] at g2; injection g2 with g2; injection g2 with g2; injection g2
    subst eq
    rw [f1] at g1
    injection g1 with g1
    subst g1
    obtain ⟨kvs, ha, hks, rl⟩ := ow2
    subst hks
    have nz : NN Γ O σ a := .inr ⟨i, ho, f2⟩
    rename_i vs z0
    refine ⟨a, _, rfl, DPut.k (k := .inl z0) ha (by rw [← cap_line]; rw [List.length_map] at hz; exact hz), ?_⟩
    have ext : ∀ b u, H2 b = some u → ¬ NN Γ O σ b → upd H2 a (.dK (putK kvs (.inl z0) v)) b = some u := fun b u hb nb => by
      rw [upd_ne (fun (e : b = a) => nb (e ▸ nz))]; exact hb
    have r5 := own_put (g := Γ.g) (N := NN Γ O σ) (H := upd H2 a (.dK (putK kvs (.inl z0) v))) (a := a) (kvs := kvs) (vs := vs) (k := .inl z0) (v := v) (d := d) upd_same (Rep.ev ext (fun _ _ z => z) _ _ (r1.zone e2)) (RepL.ev ext (fun _ _ z => z) _ _ rl)
    obtain ⟨R3, S3, T3⟩ := R2.chg T2 ho f2 r5
    exact L.nx _ _ _ _ (((Step.ev e1).trans (.ev e2)).trans S3) R3 T3 q
end
end Fy
set_option Elab.async false
set_option linter.all false
set_option maxRecDepth 100000
set_option maxHeartbeats 4000000
/-! FyBD: {k: v for ..}. -/
namespace Fy
open PySem L2
section
variable {X : Cx} {Γ : G} {W : WX} {O O1 O2 : List Nat} {a b c : Expr} {pos p p2 : Pos} {σ : St} {env : Env} {H H1 : Hp}
theorem put_both {g : G0} {N : Addr → Prop} {H : Hp} {kvs : List (Key × V)} {vs : List D} {k : Key} {v : V} {d : D} (r : Rep g N H v d) (rl : RepL g N H (kvs.map (·.2)) vs) : (putK kvs k v).map (·.1) = putKs (kvs.map (·.1)) k ∧ RepL g N H ((putK kvs k v).map (·.2)) (putVs (kvs.map (·.1)) vs k d) := by
  unfold putKs putVs putK
  have e : ((kvs.map (·.1)).any fun z => decide (z = k)) = kvs.any fun kv => decide (kv.1 = k) := by
    rw [List.any_map]
    rfl
  rw [e]
  by_cases h : (kvs.any fun kv => decide (kv.1 = k)) = true
  · rw [if_pos h, if_pos h, if_pos h]
    refine ⟨?_, repl_put r kvs vs rl⟩
    rw [List.map_map]
    refine List.map_congr_left fun kv _ => ?_
    show (if kv.1 = k then (kv.1, v) else kv).1 = kv.1
    split <;> rfl
  · rw [if_neg h, if_neg h, if_neg h]
    refine ⟨by rw [List.map_append]; rfl, ?_⟩
    rw [List.map_append]
    exact rl.append (.cons r .nil)
theorem dc_read {fit : FTI} {fg : FTG} {fc : FTC} {fk fe : FTE} {ts vs : List Nat} {Q : VK} (mi : MonoI fit) (mg : MonoG fg) (mc : MonoC fc) (mk : MonoE fk) (me : MonoE fe) (hts : ∀ i, i ∈ ts → i ∈ vs) (hO : ∀ i, i ∈ vs → i ∉ O)
    (h : liftE Γ W .fr O (fDC fit fg fc fk fe vs) σ H Q) : tDc (liftI Γ W O fit) (tG Γ O ts fg) (tC' Γ O fc) (tE' Γ O fk) (tE' Γ O fe) vs σ H Q := by
  obtain ⟨env, st, R, T, h⟩ := h
  refine ⟨env, st, R, T, mi _ _ _ _ _ _ (fun l s1 z J H1 e1 T1 hJ Ld hL => ?_) (fun _ _ _ z => z) h⟩
  have R1 := R.ev e1
  obtain ⟨Rw, Aw⟩ := R1.wipe hO
  have zb : ∀ a, Zone Γ.g a → Γ.B a ∨ a = Ld := fun a za => .inl (Γ.zb a za)
  have nzD : ¬ Zone Γ.g Ld := fun z => T1.b Ld (Γ.zb Ld z) hL
  let bs : Bs Γ := ⟨fun a => Γ.B a ∨ a = Ld, zb⟩
  have hBD : (Γ.w2 bs).B Ld := .inr rfl
  have subN : ∀ b, NN Γ O σ b → NN (Γ.w2 bs) O (wipe σ vs) b := fun b z => by
    rcases z with z | z
    · exact .inl (.inl z)
    · exact .inr (Aw.own.mpr z)
  have stB : ∀ {H' : Hp} {s : S}, ST Γ H' s → H' Ld ≠ none → ST (Γ.w2 bs) H' s := fun T' h' => by
    refine ⟨T'.z, fun a za => ?_, T'.sz⟩
    rcases za with za | za
    · exact T'.b a za
    · rw [za]; exact h'
  have ofB : ∀ {H' : Hp} {s : S}, ST (Γ.w2 bs) H' s → ST Γ H' s := fun T' => ⟨T'.z, fun a za => T'.b a (.inl za), T'.sz⟩
  have x2 : Ext H1 (upd H1 Ld (.dK [])) := Ext.new hL
  -- the zone or Ld may change
  have evD : ∀ {Ha Hb : Hp}, Ev (Zone Γ.g) Ha Hb → Ev (fun a => Zone Γ.g a ∨ a = Ld) Ha Hb := fun e => e.mono fun _ z => .inl z
  have keep1 : ∀ {H' : Hp}, Ev (fun a => Zone Γ.g a ∨ a = Ld) (upd H1 Ld (.dK [])) H' → Keep (NN Γ O σ) (NN (Γ.w2 bs) O (wipe σ vs)) H1 H' := fun {H'} e => by
    refine ⟨fun b hb z => ?_, fun b o hb n => e.k b o (x2.at hb) fun z => ?_⟩
    · rcases z with (z | z) | z
      · exact .inl z
      · exact absurd (by rw [z]; exact hL) hb
      · exact .inr (Aw.own.mp z)
    · rcases z with z | z
      · exact n (.inl (Γ.zb b z))
      · rw [z, hL] at hb; cases hb
  let Inv' : Nat → Hp → Prop := fun i H' => ∃ (s' : S) (acc : List D) (av : List (Key × V)), Ev (fun a => Zone Γ.g a ∨ a = Ld) (upd H1 Ld (.dK [])) H' ∧ EnvR (Γ.w2 bs) O H' (wipe σ vs) (wipes env vs) ∧ ST (Γ.w2 bs) H' s' ∧ H' Ld = some (.dK av) ∧
    RepL Γ.g (NN (Γ.w2 bs) O (wipe σ vs)) H' (av.map (·.2)) acc ∧ dcL fg fc fk fe (l.drop i) (av.map (·.1)) acc (wipes env vs) s' (fun r s2 => ∀ v H', Ev (Zone Γ.g) H H' → ST Γ H' s2 → Res Γ (NN Γ O σ) .fr H H' v r → Q v H')
  refine ⟨fun i m H' => m = l.length - i ∧ i ≤ l.length ∧ Inv' i H', ⟨l.length, by simp, Nat.zero_le _, s1, [], [], Ev.refl, Rw.toB hL zb, stB (T1.ext x2) (by rw [upd_same]; intro z; cases z), upd_same, .nil, by rw [List.drop_zero]; exact z⟩, ?_⟩
  rintro i m H' ⟨rfl, hi, s', acc, av, eD, R', T', hL', rl, q⟩
  by_cases hlt : i < l.length
  · refine .inr ⟨hJ.go _ H' i (keep1 eD) hlt, Inv' (i + 1), fun H4 p => ⟨l.length - (i + 1), by omega, rfl, hlt, p⟩, fun x H3 y => ?_⟩
    obtain ⟨x3, d, hd, rd⟩ := hJ.yld _ H' i x H3 (keep1 eD) (R'.nok T') y hlt
    have eL : l.drop i = d :: l.drop (i + 1) := by
      rw [List.drop_eq_getElem_cons hlt]
      congr 1
      rw [List.getElem?_eq_getElem hlt] at hd
      injection hd
    rw [eL] at q
    have R3 := R'.ev x3.ev
    have T3 := T'.ext x3
    refine ⟨bs, wipes env vs, d, R3, rd, mg _ _ _ _ (fun env2 z σ2 R2 a2 w2 => ⟨(w2 vs hts).trans (wipe_wipe vs), bs, env2, s', R2, T3, mc _ _ _ _ _ _ (fun b s1 z H4 e4 T4 => ?_) (fun _ _ _ z => z.elim) z⟩) q⟩
    cases b with
    | true =>
      refine ⟨bs, env2, s1, R2.ev e4, T4, mk _ _ _ _ _ _ (fun kd s2 z kv H4' e4' T4' rk => ?_) (fun _ _ _ z => z.elim) z⟩
      refine ⟨bs, env2, s2, (R2.ev e4).ev e4', T4', me _ _ _ _ _ _ (fun yd s3 z v H5 e5 T5 r5 => ?_) (fun _ _ _ z => z.elim) z⟩
      cases kd <;> first | exact z.elim | skip
      cases rk
      rename_i z0 zz
      obtain ⟨hl, z⟩ := z
      have h5 : H5 Ld = some (.dK av) := e5.k Ld _ (e4'.k Ld _ (e4.k Ld _ (x3.at hL') nzD) nzD) nzD
      have R5 : EnvR (Γ.w2 bs) O H5 (wipe σ vs) (wipes env vs) := ((R3.ev e4).ev e4').ev e5
      have toU : ∀ b u, H5 b = some u → ¬ NN (Γ.w2 bs) O (wipe σ vs) b → upd H5 Ld (.dK (putK av (.inl z0) v)) b = some u := fun b u hb n => by rw [upd_ne (fun e => n (.inl (.inr e)))]; exact hb
      have r5' : Rep Γ.g (NN (Γ.w2 bs) O (wipe σ vs)) H5 v yd := Rep.nn r5 fun b z => a2.nn.mpr z
      have rl5 : RepL Γ.g (NN (Γ.w2 bs) O (wipe σ vs)) H5 (av.map (·.2)) acc := (((rl.ext x3).zone (Γ := Γ.w2 bs) e4).zone (Γ := Γ.w2 bs) e4').zone (Γ := Γ.w2 bs) e5
      obtain ⟨pk, pv⟩ := put_both (k := .inl z0) (Rep.ev toU (fun _ _ z => z) _ _ r5') (RepL.ev toU (fun _ _ z => z) _ _ rl5)
      rw [← pk] at z
      refine ⟨av, .inl z0, rfl, h5, by rw [← cap_line]; rw [List.length_map] at hl; exact hl, s3, putVs (av.map (·.1)) acc (.inl z0) yd, putK av (.inl z0) v, ?_, R5.setB hBD, ?_, upd_same, pv, z⟩
      · have e0 := eD.trans ((x3.ev (N := fun a => Zone Γ.g a ∨ a = Ld)).trans ((evD e4).trans ((evD e4').trans (evD e5))))
        refine ⟨fun b o hb n => ?_, fun b hb => ?_⟩
        · rw [upd_ne (fun e => n (.inr e))]
          exact e0.k b o hb n
        · by_cases hbD : b = Ld
          · rw [hbD, upd_same] at hb; cases hb
          · rw [upd_ne hbD] at hb; exact e0.t b hb
      · refine ⟨fun p hp => ?_, fun a za => ?_, T5.sz⟩
        · obtain ⟨z0, z1, z2⟩ := T5.z p hp
          exact ⟨z0, by rw [upd_ne (fun e => nzD ⟨p, hp, .inl e.symm⟩)]; exact z1, by rw [upd_ne (fun e => nzD ⟨p, hp, .inr e.symm⟩)]; exact z2⟩
        · by_cases haD : a = Ld
          · rw [haD, upd_same]; intro z; cases z
          · rw [upd_ne haD]; exact T5.b a za
    | false =>
      exact ⟨s1, acc, av, eD.trans ((x3.ev (N := fun a => Zone Γ.g a ∨ a = Ld)).trans (evD e4)), R3.ev e4, T4, e4.k Ld _ (x3.at hL') nzD, (rl.ext x3).zone (Γ := Γ.w2 bs) e4, z⟩
  · have ei : i = l.length := by omega
    subst ei
    rw [List.drop_length] at q
    refine .inl ⟨hJ.stop _ H' (keep1 eD), q (.ref Ld) H' ?_ (ofB T') ⟨Ld, rfl, e1.t _ hL, show OwnR _ _ _ _ (.dct _ _) from ⟨av, hL', rfl, rl.nn fun b z => z.elim (subN b) fun e => .inl (.inr e)⟩⟩⟩
    refine ⟨fun b o hb n => ?_, fun b hb => e1.t b (x2.t b (eD.t b hb))⟩
    have h1 := e1.k b o hb n
    refine eD.k b o (x2.at h1) fun z => ?_
    rcases z with z | z
    · exact n z
    · rw [z, hL] at h1; cases h1
theorem mono_dcL {fg : FTG} {fc : FTC} {fk fe : FTE} (mg : MonoG fg) (mc : MonoC fc) (mk : MonoE fk) (me : MonoE fe) : ∀ (l : List D) (ks : List (Sum Int Str)) (vs : List D) (env : Env) (st : S) (Q Q' : D → S → Prop), (∀ d s, Q d s → Q' d s) → dcL fg fc fk fe l ks vs env st Q → dcL fg fc fk fe l ks vs env st Q'
  | [], ks, vs, env, st, Q, Q', h, q => h _ _ q
  | x :: l, ks, vs, env, st, Q, Q', h, q => mg _ _ _ _ (fun env2 z => mc _ _ _ _ _ _ (fun b s1 z => by
    cases b with
    | true => exact mk _ _ _ _ _ _ (fun k s2 z => me _ _ _ _ _ _ (fun d s3 z => by
        cases k <;> first | exact z.elim | skip
        exact ⟨z.1, mono_dcL mg mc mk me l _ _ env s3 Q Q' h z.2⟩) (fun _ _ _ z => z) z) (fun _ _ _ z => z) z
    | false => exact mono_dcL mg mc mk me l ks vs env s1 Q Q' h z) (fun _ _ _ z => z) z) q
theorem mono_DC {fit : FTI} {fg : FTG} {fc : FTC} {fk fe : FTE} {vs : List Nat} (mi : MonoI fit) (mg : MonoG fg) (mc : MonoC fc) (mk : MonoE fk) (me : MonoE fe) : MonoE (fDC fit fg fc fk fe vs) := fun env st Q Q' X X' h hx q => mi _ _ _ _ _ _ (fun l s1 z => mono_dcL mg mc mk me l _ _ _ _ _ _ h z) hx q
theorem fe_dc {kx vx tg iter : Expr} {ifs : List Expr} {scope : Scope} (own : List (Str × Nat)) {fit : FTI} {fg : FTG} {fc : FTC} {fk fe : FTE} {ts : List Nat} (nd : X.N.Nodup) (hi : FI X Γ W O tg iter fit) (ok : BlkOk X.N X.env.scope scope own)
    (hg : ∀ (b : Bs Γ) (s : Shared) (H : Hp) (C : Addr) (cl : List (Str × Addr)) (fp : List Addr), FG (X.blk s H scope (compEnvC scope cl C X.env) fp) (Γ.w2 b) O ts tg fg)
    (ht : ∀ (b : Bs Γ) (s : Shared) (H : Hp) (C : Addr) (cl : List (Str × Addr)) (fp : List Addr), FTs (X.blk s H scope (compEnvC scope cl C X.env) fp) (Γ.w2 b) W0 O ifs fc)
    (hk : ∀ (b : Bs Γ) (s : Shared) (H : Hp) (C : Addr) (cl : List (Str × Addr)) (fp : List Addr), FE (X.blk s H scope (compEnvC scope cl C X.env) fp) (Γ.w2 b) W0 O .cl kx fk)
    (he : ∀ (b : Bs Γ) (s : Shared) (H : Hp) (C : Addr) (cl : List (Str × Addr)) (fp : List Addr), FE (X.blk s H scope (compEnvC scope cl C X.env) fp) (Γ.w2 b) W0 O .cl vx fe)
    (hts : ∀ i, i ∈ ts → i ∈ own.map (·.2) := by decide) (hO : ∀ i, i ∈ own.map (·.2) → i ∉ O := by decide) (hc : X.calm = true := by rfl) (hs : ∀ x, foldedSetIterable iter X.env x = pure x := by intro _; rfl) :
    FE X Γ W O .fr (.DictComp kx vx [⟨tg, iter, ifs, 0⟩] scope pos) (fDC fit fg fc fk fe (own.map (·.2))) := by
  have b0 : Bs Γ := ⟨Γ.B, Γ.zb⟩
  have m1 := (hg b0 X.s_0 X.H_0 0 [] []).mono
  have m2 := (ht b0 X.s_0 X.H_0 0 [] []).mono
  have m3 := (hk b0 X.s_0 X.H_0 0 [] []).mono
  have m4 := (he b0 X.s_0 X.H_0 0 [] []).mono
  exact ⟨mono_DC hi.mono m1 m2 m3 m4, (pe_dc hc nd hi.pi ok (fun s H C cl fp => PG.ex fun b => (hg b s H C cl fp).pg) (fun s H C cl fp => PTs.ex fun b => (ht b s H C cl fp).pt) (fun s H C cl fp => PE.ex fun b => (hk b s H C cl fp).pe) (fun s H C cl fp => PE.ex fun b => (he b s H C cl fp).pe) hs).imp fun _ _ _ h => dc_read hi.mono m1 m2 m3 m4 hts hO h⟩
end
end Fy
set_option Elab.async false
set_option linter.all false
set_option maxRecDepth 100000
set_option maxHeartbeats 4000000
/-! FyBE: a dict made by a comprehension, stored under a local's name. -/
namespace Fy
open PySem PySem.Spec PyProof.Rows L2
section
variable {X : Cx} {Γ : G} {W : WX} {O Ob : List Nat} {kk : Nat}
theorem ps_setDc {i : Nat} {z : Str} {pz p1 p0 : Pos} {kx vx tg iter : Expr} {ifs : List Expr} {scope : Scope} {own : List (Str × Nat)} {wi : TI} {g : TG} {tt : TT} {tk tv : TE} (calm : X.calm = true) (nd : X.N.Nodup) (hz : X.N[i]? = some z) (loc : X.env.scope.names.lookup z = some .local)
    (sw : swapsWith (.DictComp kx vx [⟨tg, iter, ifs, 0⟩] scope p1) (some (.Name z pz)) p0.line X.env = pure true) (pit : PI X tg iter wi) (ok : BlkOk X.N X.env.scope scope own)
    (hgg : ∀ (s : Shared) (H : Hp) (C : Addr) (cl : List (Str × Addr)) (fp : List Addr), PG (X.blk s H scope (compEnvC scope cl C X.env) fp) tg g) (htt : ∀ (s : Shared) (H : Hp) (C : Addr) (cl : List (Str × Addr)) (fp : List Addr), PTs (X.blk s H scope (compEnvC scope cl C X.env) fp) ifs tt)
    (hkk : ∀ (s : Shared) (H : Hp) (C : Addr) (cl : List (Str × Addr)) (fp : List Addr), PE (X.blk s H scope (compEnvC scope cl C X.env) fp) kx tk)
    (hvv : ∀ (s : Shared) (H : Hp) (C : Addr) (cl : List (Str × Addr)) (fp : List Addr), PE (X.blk s H scope (compEnvC scope cl C X.env) fp) vx tv) (fs : ∀ x, foldedSetIterable iter X.env x = pure x := by intro _; rfl) :
    PS X (.Assign [.Name z pz] (.DictComp kx vx [⟨tg, iter, ifs, 0⟩] scope p1) p0) (tAsg (tDc wi g tt tk tv (own.map (·.2))) (gName i)) := by
  refine ⟨fun pins s σ H Dn I hw => ?_⟩
  rw [exec_Assign_Name_used _ _ _ _ sw]
  refine wpAny_bind (wpAny_standAt (wpAny_bind ?_))
  show wpAny _ X.A (do let _ ← comprehension (.DictComp kx vx [⟨tg, iter, ifs, 0⟩] scope p1) scope X.env (firstIterPos [⟨tg, iter, ifs, 0⟩] p1) newDict false (eval iter X.env) (some (assign (.Name z pz) X.env))) _ _ s
  have hw2 : tDc wi g tt tk tv (own.map (·.2)) σ H (fun x H1 => gName i x σ H1 Dn.nx) := hw
  refine wpAny_bind (thn (dc_core (Qf := fun _ s' => SP X pins Dn .next s') calm nd I pit ok hgg htt hkk hvv fs hw2 fun D C s' m H' I' q hn f => ?_) fun _ s' hq => wpAny_pure (wpAny_pure hq))
  show wpAny _ _ (assign (.Name z pz) X.env (.ref D)) _ _ _
  refine wpAny_assign_Name (store_ok2 (v := V.ref D) I' nd hz (.inl loc) rfl (fun s2 I2 ⟨a, same, at'⟩ => ?_) (.inr loc))
  obtain ⟨k0, k1, k2, k3, k4, k5⟩ := f
  have ne : C ≠ a := by
    rcases at' with u | u
    · rw [u]; exact k1
    · exact fun e => k4 z a u e.symm
  exact ⟨m, hn.sameBut same ne, fun h3 sb => ⟨_, H', I2.turned (t' := s2.toks) (fun b o hb e => (sb.2 b hb).trans e) k0 k1 k3 k4 k5, q⟩⟩
theorem fs_setDc {kx vx tg iter : Expr} {ifs : List Expr} {scope : Scope} (i : Nat) {x : Str} (own : List (Str × Nat)) {fit : FTI} {fg : FTG} {fc : FTC} {fk fe : FTE} {ts : List Nat} {p pos p2 : Pos} (c : Ctx X Γ W kk) (hi : FI X Γ W O tg iter fit) (ok : BlkOk X.N X.env.scope scope own)
    (hg : ∀ (b : Bs Γ) (s : Shared) (H : Hp) (C : Addr) (cl : List (Str × Addr)) (fp : List Addr), FG (X.blk s H scope (compEnvC scope cl C X.env) fp) (Γ.w2 b) O ts tg fg)
    (ht : ∀ (b : Bs Γ) (s : Shared) (H : Hp) (C : Addr) (cl : List (Str × Addr)) (fp : List Addr), FTs (X.blk s H scope (compEnvC scope cl C X.env) fp) (Γ.w2 b) W0 O ifs fc)
    (hk : ∀ (b : Bs Γ) (s : Shared) (H : Hp) (C : Addr) (cl : List (Str × Addr)) (fp : List Addr), FE (X.blk s H scope (compEnvC scope cl C X.env) fp) (Γ.w2 b) W0 O .cl kx fk)
    (he : ∀ (b : Bs Γ) (s : Shared) (H : Hp) (C : Addr) (cl : List (Str × Addr)) (fp : List Addr), FE (X.blk s H scope (compEnvC scope cl C X.env) fp) (Γ.w2 b) W0 O .cl vx fe)
    (ho : i ∉ O := by decide) (hN : X.N[i]? = some x := by rfl) (hx : X.env.scope.names.lookup x = some .local := by rfl) (hsw : swapsWith (.DictComp kx vx [⟨tg, iter, ifs, 0⟩] scope p2) (some (.Name x p)) pos.line X.env = pure true := by rfl)
    (hts : ∀ i, i ∈ ts → i ∈ own.map (·.2) := by decide) (hO : ∀ i, i ∈ own.map (·.2) → i ∉ O := by decide) (hc : X.calm = true := by rfl) (hs : ∀ x, foldedSetIterable iter X.env x = pure x := by intro _; rfl) :
    FSt X Γ W Ob O (i :: O) (.Assign [.Name x p] (.DictComp kx vx [⟨tg, iter, ifs, 0⟩] scope p2) pos) (sAsg (fDC fit fg fc fk fe (own.map (·.2))) (gNm i)) := by
  have b0 : Bs Γ := ⟨Γ.B, Γ.zb⟩
  have m1 := (hg b0 X.s_0 X.H_0 0 [] []).mono
  have m2 := (ht b0 X.s_0 X.H_0 0 [] []).mono
  have m3 := (hk b0 X.s_0 X.H_0 0 [] []).mono
  have m4 := (he b0 X.s_0 X.H_0 0 [] []).mono
  have me := mono_DC (vs := own.map (·.2)) hi.mono m1 m2 m3 m4
  refine ⟨mono_Asg me fun d env Q Q' h q => h _ q, (ps_setDc hc c.nd hN hx hsw hi.pi ok (fun s H C cl fp => PG.ex fun b => (hg b s H C cl fp).pg) (fun s H C cl fp => PTs.ex fun b => (ht b s H C cl fp).pt) (fun s H C cl fp => PE.ex fun b => (hk b s H C cl fp).pe) (fun s H C cl fp => PE.ex fun b => (he b s H C cl fp).pe) hs).imp fun Dn σ H ⟨env, st, E, R, T, L, q⟩ => ?_⟩
  refine dc_read hi.mono m1 m2 m3 m4 hts hO ⟨env, st, R, T, me _ _ _ _ _ _ (fun d s z v H' e1 e2 ⟨a, hv, ha, ow⟩ => ?_) (fun t d s z => L.toX R t d s z) q⟩
  subst hv
  obtain ⟨R', S'⟩ := R.own1 T ho (lt_N c hN) e1 ha ow
  exact L.nx _ _ _ _ S' R' e2 z
end
end Fy
set_option Elab.async false
set_option linter.all false
/-! FyBS: more data terms: the least of a tuple's numbers; falling rows sorted. -/
namespace Fy
open PySem (Str)
def qMinT : Op1
  | .tup l, Q => ∃ ns, ints? l = some ns ∧ 0 < ns.length ∧ Q (.int (minL ns))
  | .lst l, Q => ∃ ns, ints? l = some ns ∧ 0 < ns.length ∧ Q (.int (minL ns))
  | _, _ => False
abbrev FRw := List (Int × Int) × Int
abbrev rowOf (r : FRw) : D := Pu.rowD r.1 r.2
def lexZ : List Int → List Int → Bool
  | [], [] => false
  | [], _ :: _ => true
  | _ :: _, [] => false
  | x :: r, y :: t => decide (x < y) || (!decide (y < x) && lexZ r t)
def tokRs : List (Int × Int) → List Int
  | [] => [0]
  | p :: r => 1 :: 1 :: p.1 :: 1 :: p.2 :: 0 :: tokRs r
def tokR (r : FRw) : List Int := 1 :: (tokRs r.1 ++ [1, r.2, 0])
def leR (a b : FRw) : Bool := !lexZ (tokR b) (tokR a)
def sortR (l : List FRw) : List FRw := l.mergeSort leR
/-- sorted(a list of falling rows) -/
def qSortR : Op1
  | .lst l, Q => ∃ rs : List FRw, l = rs.map rowOf ∧ rs.length ≤ cap ∧ Q (.lst ((sortR rs).map rowOf))
  | _, _ => False
/-! the order -/
theorem lexZ_irr : ∀ l : List Int, lexZ l l = false
  | [] => rfl
  | x :: r => by simp [lexZ, lexZ_irr r]
theorem lexZ_tot : ∀ a b : List Int, lexZ a b = false → lexZ b a = false → a = b
  | [], [], _, _ => rfl
  | [], _ :: _, h, _ => by simp [lexZ] at h
  | _ :: _, [], _, h => by simp [lexZ] at h
  | x :: r, y :: t, h, k => by
    simp [lexZ] at h k
    have e : x = y := by omega
    subst e
    rw [lexZ_tot r t (h.2 (by omega)) (k.2 (by omega))]
theorem lexZ_tr : ∀ a b c : List Int, lexZ a b = true → lexZ b c = true → lexZ a c = true
  | [], [], _, h, _ => by simp [lexZ] at h
  | [], _ :: _, [], _, h => by simp [lexZ] at h
  | [], _ :: _, _ :: _, _, _ => rfl
  | _ :: _, [], _, h, _ => by simp [lexZ] at h
  | _ :: _, _ :: _, [], _, h => by simp [lexZ] at h
  | x :: r, y :: t, z :: u, h, k => by
    simp [lexZ] at h k ⊢
    rcases h with h | ⟨h1, h2⟩
    · rcases k with k | ⟨k1, k2⟩
      · left; omega
      · left; omega
    · rcases k with k | ⟨k1, k2⟩
      · left; omega
      · by_cases e : x < z
        · exact .inl e
        · exact .inr ⟨by omega, lexZ_tr r t u h2 k2⟩
theorem tokRs_inj : ∀ {a b : List (Int × Int)} {x y : List Int}, tokRs a ++ x = tokRs b ++ y → a = b ∧ x = y
  | [], [], x, y, h => by simp [tokRs] at h; exact ⟨rfl, h⟩
  | [], p :: r, x, y, h => by simp [tokRs] at h
  | p :: r, [], x, y, h => by simp [tokRs] at h
  | p :: r, q :: t, x, y, h => by
    simp [tokRs] at h
    obtain ⟨h1, h2, h3⟩ := h
    obtain ⟨rfl, rfl⟩ := tokRs_inj h3
    exact ⟨by rw [Prod.ext h1 h2], rfl⟩
theorem tokR_inj {a b : FRw} (h : tokR a = tokR b) : a = b := by
  unfold tokR at h
  simp at h
  obtain ⟨h1, h2⟩ := tokRs_inj h
  simp at h2
  exact Prod.ext h1 h2
theorem leR_anti {a b : FRw} (h : leR a b = true) (k : leR b a = true) : a = b := by
  unfold leR at h k
  exact tokR_inj (lexZ_tot _ _ (by simpa using k) (by simpa using h))
theorem leR_total (a b : FRw) : (leR a b || leR b a) = true := by
  unfold leR
  cases h : lexZ (tokR b) (tokR a) with
  | false => rfl
  | true =>
    cases k : lexZ (tokR a) (tokR b) with
    | false => rfl
    | true =>
      have := lexZ_tr _ _ _ h k
      rw [lexZ_irr] at this
      cases this
theorem leR_trans (a b c : FRw) (h : leR a b = true) (k : leR b c = true) : leR a c = true := by
  unfold leR at h k ⊢
  have h' : lexZ (tokR b) (tokR a) = false := by simpa using h
  have k' : lexZ (tokR c) (tokR b) = false := by simpa using k
  cases e : lexZ (tokR c) (tokR a) with
  | false => rfl
  | true =>
    cases e2 : lexZ (tokR a) (tokR b) with
    | true =>
      have := lexZ_tr _ _ _ e e2
      rw [this] at k'
      cases k'
    | false =>
      have := tokR_inj (lexZ_tot _ _ e2 h')
      subst this
      rw [e] at k'
      cases k'
theorem sortR_perm (l : List FRw) : (sortR l).Perm l := List.mergeSort_perm l leR
theorem sortR_pw (l : List FRw) : (sortR l).Pairwise (fun a b => leR a b = true) := List.pairwise_mergeSort leR_trans leR_total l
theorem leR_eq : ∀ {l m : List FRw}, l.Perm m → l.Pairwise (fun a b => leR a b = true) → m.Pairwise (fun a b => leR a b = true) → l = m := fun h a b => h.eq_of_pairwise (fun x y _ _ h1 h2 => leR_anti h1 h2) a b
theorem sortR_filter (f : FRw → Bool) (l : List FRw) : (sortR l).filter f = sortR (l.filter f) :=
  leR_eq (((sortR_perm l).filter f).trans (sortR_perm _).symm) ((sortR_pw l).sublist List.filter_sublist) (sortR_pw _)
theorem sortR_congr {l m : List FRw} (h : l.Perm m) : sortR l = sortR m := leR_eq ((sortR_perm l).trans (h.trans (sortR_perm m).symm)) (sortR_pw l) (sortR_pw m)
theorem mem_sortR {l : List FRw} {r : FRw} : r ∈ sortR l ↔ r ∈ l := (sortR_perm l).mem_iff
theorem len_sortR (l : List FRw) : (sortR l).length = l.length := (sortR_perm l).length_eq
end Fy
set_option Elab.async false
set_option linter.all false
set_option maxRecDepth 100000
set_option maxHeartbeats 4000000
/-! FyBT: the rules for FyBS. -/
namespace Fy
open PySem L2 PyProof.Rows
/-! the order of rows is that of the model's data -/
theorem lex_zi : ∀ a b : List Int, PyProof.Rows.lexLt PyProof.Rows.itemOrd (a.map Sum.inl) (b.map Sum.inl) = lexZ a b
  | [], [] => rfl
  | [], _ :: _ => rfl
  | _ :: _, [] => rfl
  | x :: r, y :: t => by
    have := lex_zi r t
    show (decide (x < y) || (!decide (y < x) && _)) = _
    rw [this]
    rfl
theorem toks_runs : ∀ rs : List (Int × Int), PySem.W.keyToksAll (toPys (rs.map Pu.prD)) = (tokRs rs).map Sum.inl
  | [] => rfl
  | p :: r => by
    show Sum.inl 1 :: (Sum.inl 1 :: ([Sum.inl p.1] ++ (Sum.inl 1 :: ([Sum.inl p.2] ++ [Sum.inl 0]))) ++ PySem.W.keyToksAll (toPys (r.map Pu.prD))) = _
    rw [toks_runs r]
    rfl
theorem toks_row (r : FRw) : PySem.W.keyToks (toPy (rowOf r)) = (tokR r).map Sum.inl := by
  show Sum.inl 1 :: (PySem.W.keyToksAll (toPys (r.1.map Pu.prD)) ++ (Sum.inl 1 :: ([Sum.inl r.2] ++ [Sum.inl 0]))) = _
  rw [toks_runs]
  unfold tokR
  simp
theorem le_row (a b : FRw) : PySem.W.dataLe false (fun r : FRw => toPy (rowOf r)) a b = leR a b := by
  show (!(PyProof.Rows.lexLt PyProof.Rows.itemOrd (PySem.W.keyToks (toPy (rowOf b))) (PySem.W.keyToks (toPy (rowOf a))))) = _
  rw [toks_row, toks_row, lex_zi]
  rfl
theorem alike_runs : ∀ rs qs : List (Int × Int), PySem.W.alikeAll (toPys (rs.map Pu.prD)) (toPys (qs.map Pu.prD)) = true
  | [], _ => by simp [toPys, PySem.W.alikeAll]
  | p :: r, [] => by simp [toPys, PySem.W.alikeAll]
  | p :: r, q :: t => by
    have := alike_runs r t
    simp [toPys, toPy, Pu.prD, PySem.W.alikeAll, PySem.W.alike, this]
theorem alike_row (a b : FRw) : PySem.W.alike (toPy (rowOf a)) (toPy (rowOf b)) = true := by
  have := alike_runs a.1 b.1
  simp [rowOf, Pu.rowD, toPy, toPys, PySem.W.alike, PySem.W.alikeAll, this]
theorem depth_runs : ∀ rs : List (Int × Int), PyData.depthAll (toPys (rs.map Pu.prD)) ≤ 1
  | [] => by simp [toPys, PyData.depthAll]
  | p :: r => by
    have := depth_runs r
    simp [toPys, toPy, Pu.prD, PyData.depthAll, PyData.depth]
    omega
theorem depth_row (a : FRw) : (toPy (rowOf a)).depth ≤ 3 := by
  have := depth_runs a.1
  simp [rowOf, Pu.rowD, toPy, toPys, PyData.depthAll, PyData.depth]
  omega
theorem ok_runs (rs : List (Int × Int)) : (rs.map Pu.prD).all (okN 4) = true := by
  induction rs with
  | nil => rfl
  | cons p r ih => rw [List.map_cons, List.all_cons, ih]; rfl
theorem ok_row (a : FRw) : okN 6 (rowOf a) = true := by
  show ((D.tup (a.1.map Pu.prD)) :: [D.int a.2]).all (okN 5) = true
  rw [List.all_cons]
  show ((a.1.map Pu.prD).all (okN 4) && true) = true
  rw [ok_runs]
  rfl
section
variable {X : Cx} {Γ : G} {W : WX} {O : List Nat} {a : Expr} {fa : FTE} {p pos : Pos} {k : Nat}
/-- sorted(rows): items v that stand for rows -/
def rSortR (K : PySem.W.Frag) : List V → Hp → VK → Prop := fun xs H Q => ∃ (l : Addr) (ps : List (V × FRw)), xs = [.ref l] ∧ SqL K H l (ps.map (·.1)) ∧ (∀ q ∈ ps, Dp K H q.1 (toPy (rowOf q.2))) ∧
  ∀ p, H p = none → Q (.ref p) (upd H p (.lst ((ps.mergeSort (fun a b => leR a.2 b.2)).map (·.1))))
theorem vals_each : ∀ {ps : List (V × FRw)} {us : List Value}, Vals (ps.map (·.1)) us → PySem.W.EachIs (fun u (q : V × FRw) => RelV q.1 u) us ps
  | [], _, .nil => .nil
  | q :: ps, _, .cons r t => .cons r (vals_each t)
theorem each_vals : ∀ {ps : List (V × FRw)} {us : List Value}, PySem.W.EachIs (fun u (q : V × FRw) => RelV q.1 u) us ps → Vals (ps.map (·.1)) us
  | [], _, .nil => .nil
  | q :: ps, _, .cons r t => .cons r (each_vals t)
theorem each_and {α β : Type} {R S : α → β → Prop} : ∀ {us : List α} {ps : List β}, PySem.W.EachIs R us ps → (∀ u q, q ∈ ps → R u q → S u q) → PySem.W.EachIs S us ps
  | _, _, .nil, _ => .nil
  | _, _, .cons r t, h => .cons (h _ _ (List.mem_cons_self ..) r) (each_and t fun u q hq => h u q (List.mem_cons_of_mem _ hq))
theorem cr_sortR (hu : X.A.units + 65 < cLine) : CallR X (.builtin "sorted") (rSortR X.K) := by
  intro pins s σ H vs us Q I r h
  obtain ⟨l, ps, rfl, hs, hd, q⟩ := h
  obtain ⟨its, rv, hl, hz⟩ := I.list hs
  rw [Vals.ref1 r]
  have e := vals_each rv
  have hlen : ps.length ≤ sizeLine := by simpa using hz
  refine PySem.W.sorted_data (R := fun u (q : V × FRw) => RelV q.1 u) (enc := fun q : V × FRw => toPy (rowOf q.2)) (bs := ps) hl.isList e (each_and e fun u q hq rq => Dp.reads I _ _ _ (hd q hq) rq) (.of fun b b' => alike_row _ _) (.tuples fun b => ⟨_, _, rfl⟩) hlen (fun b hb => by have := depth_row b.2; show X.A.units + 2 + _ < cLine; omega) fun out h1 h2 => ?_
  obtain ⟨ep, he'⟩ := PyProof.Rows.sortedAll_at s.heap its out.toArray
  have e1 : PySem.W.dataLe false (fun q : V × FRw => toPy (rowOf q.2)) = fun a b => leR a.2 b.2 := by
    funext a b
    exact le_row a.2 b.2
  rw [e1] at h2
  have hlen2 : ((ps.mergeSort (fun a b => leR a.2 b.2)).map (·.1)).length ≤ sizeLine := by
    rw [List.length_map, List.length_mergeSort]
    exact hlen
  exact ⟨.ref _, upd H (s.heap.objs.size + 1) (.lst ((ps.mergeSort (fun a b => leR a.2 b.2)).map (·.1))), I.laid (t' := s.toks) (fun _ _ => PyProof.Rows.sortedAll_old) (Nat.le_succ _) ⟨hlen2, _, ep, by simpa using each_vals h2, he'⟩, rfl, q _ (I.hok.fresh (Nat.le_succ _))⟩
theorem mono_qSortR : Mono1 qSortR := by
  intro x Q Q' h q
  cases x <;> first | exact (q : False).elim | skip
  obtain ⟨rs, a, b, c⟩ := q
  exact ⟨rs, a, b, h _ c⟩
theorem repl_zip {g : G0} {N : Addr → Prop} {H : Hp} : ∀ {vs : List V} {rs : List FRw}, RepL g N H vs (rs.map rowOf) → ∃ ps : List (V × FRw), ps.map (·.1) = vs ∧ ps.map (·.2) = rs ∧ ∀ q ∈ ps, Rep g N H q.1 (rowOf q.2)
  | [], [], _ => ⟨[], rfl, rfl, fun _ h => nomatch h⟩
  | _ :: _, [], h => by cases h
  | [], _ :: _, h => by cases h
  | v :: vs, r :: rs, h => by
    cases h with
    | cons h1 h2 =>
      obtain ⟨ps, e1, e2, h3⟩ := repl_zip h2
      exact ⟨(v, r) :: ps, by simp [e1], by simp [e2], fun q hq => by
        rcases List.mem_cons.mp hq with rfl | hq
        · exact h1
        · exact h3 q hq⟩
theorem zip_repl {g : G0} {N : Addr → Prop} {H : Hp} : ∀ {ps : List (V × FRw)}, (∀ q ∈ ps, Rep g N H q.1 (rowOf q.2)) → RepL g N H (ps.map (·.1)) ((ps.map (·.2)).map rowOf)
  | [], _ => .nil
  | q :: ps, h => .cons (h q (List.mem_cons_self ..)) (zip_repl fun q hq => h q (List.mem_cons_of_mem _ hq))
theorem sorted_snd (ps : List (V × FRw)) : (ps.mergeSort (fun a b => leR a.2 b.2)).map (·.2) = sortR (ps.map (·.2)) := List.map_mergeSort fun _ _ _ _ => rfl
theorem ok_sortR : Op1Ok Γ qSortR (fun x H Q => rSortR Γ.g.K [x] H Q) := by
  intro N H x dx Qd Q n rx q k
  cases dx <;> first | exact (q : False).elim | skip
  obtain ⟨rs, e, hc, q⟩ := q
  obtain ⟨a, vs, rfl, ha, r1⟩ := rx.lst
  subst e
  obtain ⟨ps, e1, e2, h3⟩ := repl_zip r1
  subst e1
  refine ⟨a, ps, rfl, SqL.of ha, fun z hz => Rep.dp 6 _ _ (ok_row z.2) (h3 z hz), fun p hp => ?_⟩
  have h4 := zip_repl (ps := ps.mergeSort (fun a b => leR a.2 b.2)) fun z hz => h3 z (List.mem_mergeSort.mp hz)
  rw [sorted_snd, e2] at h4
  exact k _ _ _ (Ext.new hp) (.lst upd_same (n.new hp) (RepL.ev (fun b o e _ => (Ext.new hp).k b o e (fun z => z)) (fun _ _ z => z) _ _ h4)) q
theorem fr_sortR : Op1Fr Γ qSortR (fun x H Q => rSortR Γ.g.K [x] H Q) := by
  intro N H x dx Qd Q n rx q k
  cases dx <;> first | exact (q : False).elim | skip
  obtain ⟨rs, e, hc, q⟩ := q
  obtain ⟨a, vs, rfl, ha, r1⟩ := rx.lst
  subst e
  obtain ⟨ps, e1, e2, h3⟩ := repl_zip r1
  subst e1
  refine ⟨a, ps, rfl, SqL.of ha, fun z hz => Rep.dp 6 _ _ (ok_row z.2) (h3 z hz), fun p hp => ?_⟩
  have h4 := zip_repl (ps := ps.mergeSort (fun a b => leR a.2 b.2)) fun z hz => h3 z (List.mem_mergeSort.mp hz)
  rw [sorted_snd, e2] at h4
  exact k _ _ _ (Ext.new hp) hp (show OwnR _ _ _ _ (.lst _) from ⟨_, upd_same, h4.fresh (Ext.new hp) hp⟩) q
theorem fe_sortR (c : Ctx X Γ W k) (hm : X.mg "sorted" = none) (ha : FE X Γ W O .sh a fa) (hc : X.calm = true := by rfl) (hg : Gl X "sorted" := by rfl) (he : starEach [a] X.env = (false, eval a X.env) :: starEach [] X.env := by rfl) (hpl : (backTo pos (starEach [] X.env)).any (·.1) = false := by rfl) : FE X Γ W O .cl (.Call (.Name "sorted" p) [a] [] pos) (fUn qSortR fa) := fe_b1 (cr_sortR c.u65) (by have z := ok_sortR (Γ := Γ); rw [c.hK] at z; exact z) mono_qSortR hm ha hg (he := he) (hpl := hpl)
theorem fe_sortRF (c : Ctx X Γ W k) (hm : X.mg "sorted" = none) (ha : FE X Γ W O .sh a fa) (hc : X.calm = true := by rfl) (hg : Gl X "sorted" := by rfl) (he : starEach [a] X.env = (false, eval a X.env) :: starEach [] X.env := by rfl) (hpl : (backTo pos (starEach [] X.env)).any (·.1) = false := by rfl) : FE X Γ W O .fr (.Call (.Name "sorted" p) [a] [] pos) (fUn qSortR fa) := fe_b1F (cr_sortR c.u65) (by have z := fr_sortR (Γ := Γ); rw [c.hK] at z; exact z) mono_qSortR hm ha hg (he := he) (hpl := hpl)
/-! min of a tuple -/
theorem mono_qMinT : Mono1 qMinT := by
  intro x Q Q' h q
  cases x <;> first | exact (q : False).elim | skip
  all_goals (obtain ⟨ns, a, b, c⟩ := q; exact ⟨ns, a, b, h _ c⟩)
def rMinT (K : PySem.W.Frag) : List V → Hp → VK → Prop := fun vs H Q => ∃ (a : Addr) (ns : List Int), vs = [V.ref a] ∧ (SqL K H a (ns.map V.int) ∨ SqT K H a (ns.map V.int)) ∧ 0 < ns.length ∧ ∀ m, m ∈ ns → (∀ y, y ∈ ns → m ≤ y) → Q (.int m) H
theorem reads_ints {h : Heap} : ∀ {its : List Value} {ns : List Int}, IntsAre its ns → ReadsAll h its (ns.map .int) []
  | _, _, .nil => .nil
  | _, _, .cons n tk t => .cons (as := []) (.int n tk) (reads_ints t)
theorem foldMin (n : Int) : ∀ ns : List Int, ns.foldl min n ∈ n :: ns ∧ ∀ y ∈ n :: ns, ns.foldl min n ≤ y := fun ns => by
  induction ns generalizing n with
  | nil => simp
  | cons m r ih =>
    obtain ⟨h1, h2⟩ := ih (min n m)
    rw [List.foldl_cons]
    constructor
    · rcases List.mem_cons.mp h1 with h | h
      · rw [h]
        rcases Int.le_total n m with z | z
        · rw [Int.min_eq_left z]; simp
        · rw [Int.min_eq_right z]; simp
      · simp [h]
    · intro y hy
      have h3 := h2 (min n m) (List.mem_cons_self ..)
      rcases List.mem_cons.mp hy with rfl | hy
      · have := Int.min_le_left y m; omega
      · rcases List.mem_cons.mp hy with rfl | hy
        · have := Int.min_le_right n y; omega
        · exact h2 y (List.mem_cons_of_mem _ hy)
theorem cr_minT (hc : X.calm = true) (hu : X.A.units + 65 < cLine) : CallR X (.builtin "min") (rMinT X.K) := by
  intro pins s σ H vs us Q I r h
  obtain ⟨a, ns, rfl, hs | hs, hne, q⟩ := h
  · obtain ⟨its, rv, hl, _⟩ := I.list hs
    rw [Vals.ref1 r]
    exact min_raw (I.ok.hd hc) hl.isList rv.ints hne fun h' tk m t' hk h1 h2 => ⟨.int _, H, I.kept hk, ⟨_, rfl⟩, q m h1 h2⟩
  · obtain ⟨its, rv, hl, _⟩ := I.tuple hs
    rw [Vals.ref1 r]
    cases ns with
    | nil => simp at hne
    | cons n ns =>
      obtain ⟨h1, h2⟩ := foldMin n ns
      refine PySem.W.min_tuple_data (x := .int n) (xs := ns.map .int) (I.ok.hd hc) hl (by simpa using reads_ints (h := s.heap) (ints_vals rv)) ⟨fun x hx y hy => ?_, fun x hx => ?_⟩ ?_ fun i v h' tk bs hv hr hk => ?_
      · rcases List.mem_cons.mp hx with rfl | hx <;> rcases List.mem_cons.mp hy with rfl | hy
        · rfl
        · obtain ⟨_, _, rfl⟩ := List.mem_map.mp hy; rfl
        · obtain ⟨_, _, rfl⟩ := List.mem_map.mp hx; rfl
        · obtain ⟨_, _, rfl⟩ := List.mem_map.mp hx
          obtain ⟨_, _, rfl⟩ := List.mem_map.mp hy; rfl
      · rcases List.mem_cons.mp hx with rfl | hx
        · intro z; cases z
        · obtain ⟨_, _, rfl⟩ := List.mem_map.mp hx
          intro z; cases z
      · have := PySem.W.depth_ints (n :: ns)
        rw [List.map_cons] at this
        rw [this]
        omega
      · rw [PySem.W.minD_ints] at hr
        cases hr
        exact ⟨.int _, H, I.kept hk, ⟨_, rfl⟩, q _ h1 h2⟩
theorem ok_minT : Op1Ok Γ qMinT (fun x H Q => rMinT Γ.g.K [x] H Q) := by
  intro N H x dx Qd Q n rx q k
  cases dx <;> first | exact (q : False).elim | skip
  · obtain ⟨ns, e, h0, q⟩ := q
    obtain ⟨a, vs, rfl, ha, r1⟩ := rx.lst
    have ev := r1.ints e
    subst ev
    refine ⟨a, ns, rfl, .inl (SqL.of ha), h0, fun m h1 h2 => ?_⟩
    obtain ⟨h3, h4⟩ := minL_spec h0
    have em : m = minL ns := by have := h2 _ h3; have := h4 _ h1; omega
    subst em
    exact k _ H _ Ext.refl (.int _) q
  · obtain ⟨ns, e, h0, q⟩ := q
    obtain ⟨a, vs, rfl, ha, _, r1⟩ := rx.tup
    have ev := r1.ints e
    subst ev
    refine ⟨a, ns, rfl, .inr (SqT.of ha), h0, fun m h1 h2 => ?_⟩
    obtain ⟨h3, h4⟩ := minL_spec h0
    have em : m = minL ns := by have := h2 _ h3; have := h4 _ h1; omega
    subst em
    exact k _ H _ Ext.refl (.int _) q
theorem fe_minT (c : Ctx X Γ W k) (hm : X.mg "min" = none) (ha : FE X Γ W O .sh a fa) (hc : X.calm = true := by rfl) (hg : Gl X "min" := by rfl) (he : starEach [a] X.env = (false, eval a X.env) :: starEach [] X.env := by rfl) (hpl : (backTo pos (starEach [] X.env)).any (·.1) = false := by rfl) : FE X Γ W O .cl (.Call (.Name "min" p) [a] [] pos) (fUn qMinT fa) := fe_b1 (cr_minT hc c.u65) (by have z := ok_minT (Γ := Γ); rw [c.hK] at z; exact z) mono_qMinT hm ha hg (he := he) (hpl := hpl)
end
end Fy
set_option Elab.async false
set_option linter.all false
/-! FyBU: one more data term: *range(a, b, c) in a display. -/
namespace Fy
open PySem (Str)
def rngN (i j k : Int) : Nat := if i < j then ((j - i - 1) / k + 1).toNat else 0
def rngKD (i k : Int) (n : Nat) : List D := (List.range n).map fun (m : Nat) => D.int (i + (m : Int) * k)
def inR3 (i j k : Int) (Q : List D → Prop) : Prop := (0 < k ∧ k < 1073741824 ∧ -(2 ^ 61) ≤ i ∧ i < 2 ^ 61 ∧ -(2 ^ 61) ≤ j ∧ j < 2 ^ 61 ∧ rngN i j k ≤ cap) ∧ Q (rngKD i k (rngN i j k))
def asR3 (Q : List D → Prop) : List D → Prop
  | [.int i, .int j, .int k] => inR3 i j k Q
  | _ => False
def aStarR3 (a r : FTA) : FTA := fun env st Q X => a env st (fun ds s1 => asR3 (fun l => r env s1 (fun xs s4 => Q (l ++ xs) s4) X) ds) X
end Fy
set_option Elab.async false
set_option linter.all false
set_option maxRecDepth 100000
set_option maxHeartbeats 4000000
/-! FyBV: the rule for FyBU. -/
namespace Fy
open PySem L2 PySem.Spec PyProof.Rows
theorem rngS {i j k : Int} (hk : 0 < k) : Builtin.Range.rangeSize i j k = ((rngN i j k : Nat) : Int) := by
  unfold Builtin.Range.rangeSize rngN
  rw [if_pos hk]
  split
  · have : 0 ≤ (j - i - 1) / k := Int.ediv_nonneg (by omega) (by omega)
    omega
  · rfl
theorem rngSmall {i j k : Int} (hk : 0 < k) (k1 : k < 1073741824) (i0 : -(2 ^ 61) ≤ i) (i1 : i < 2 ^ 61) (j0 : -(2 ^ 61) ≤ j) (j1 : j < 2 ^ 61) : Builtin.Range.small i j k = true := by
  have hn : ((rngN i j k : Nat) : Int) ≤ 2 ^ 62 := by
    unfold rngN
    split
    · have h1 : (j - i - 1) / k ≤ j - i - 1 := Int.ediv_le_self _ (by omega)
      have h2 : 0 ≤ (j - i - 1) / k := Int.ediv_nonneg (by omega) (by omega)
      omega
    · decide
  unfold Builtin.Range.small
  rw [rngS hk]
  simp only [Builtin.Range.rangeFitsLong, Bool.and_eq_true, Bool.or_eq_true, decide_eq_true_eq, beq_iff_eq, if_pos (show k > 0 from hk)]
  omega
/-- the numbers of range(i, .., k) -/
def rgVK (i k : Int) (n : Nat) : List V := (List.range n).map fun (m : Nat) => V.int (i + (m : Int) * k)
theorem vals_rgK {i k : Int} {n : Nat} {acc : Array Value} (h : ItemsOf (fun m v => ∃ t, v = .int (i + m * k) t) acc n) : Vals (rgVK i k n) acc.toList := by
  have e : acc.toList.length = n := by rw [Array.length_toList]; exact h.1
  unfold rgVK
  rw [← e]
  refine vals_of_get acc.toList _ fun j u hj => ?_
  obtain ⟨t, rfl⟩ := h.2 j u (by rw [← hj, Array.getElem?_toList])
  exact ⟨t, rfl⟩
section
variable {X : Cx} {Γ : G} {W : WX} {O : List Nat} {a b c : Expr} {es : List Expr} {fa fr : FTA} {t ta : TA} {p p2 p3 : Pos} {k : Nat}
def tStarR3 (ta t : TA) : TA := fun σ H Q => ta σ H fun vs H1 => ∃ i j k, vs = [V.int i, V.int j, V.int k] ∧ (0 < k ∧ k < 1073741824 ∧ -(2 ^ 61) ≤ i ∧ i < 2 ^ 61 ∧ -(2 ^ 61) ≤ j ∧ j < 2 ^ 61 ∧ rngN i j k ≤ cap) ∧ t σ H1 fun ys H2 => Q (rgVK i k (rngN i j k) ++ ys) H2
theorem pa_starR3 (hc : X.calm = true) (hg : Gl X "range") (hm : X.mg "range" = none) (ha : PA X [a, b, c] ta) (hr : PA X es t)
    (hs3 : starEach [a, b, c] X.env = (false, eval a X.env) :: starEach [b, c] X.env := by rfl) (hpl : (backTo p3 (starEach [b, c] X.env)).any (·.1) = false := by rfl)
    (hs : starEach (.Starred (.Call (.Name "range" p2) [a, b, c] [] p3) p :: es) X.env = (true, eval (.Call (.Name "range" p2) [a, b, c] [] p3) X.env) :: starEach es X.env := by rfl) :
    PA X (.Starred (.Call (.Name "range" p2) [a, b, c] [] p3) p :: es) (tStarR3 ta t) := by
  refine ⟨fun pos pins s σ H Q I h => ?_⟩
  refine PySem.W.items_star ?_ hs
  refine Call_ (ld_blt I hg hm boot_range (PyProof.Rows.callWith_type1 (thn (ha.run p3 pins s σ H _ I h) fun us s1 ⟨vs, H1, I1, r1, q1⟩ => ?_) hs3 hpl))
  obtain ⟨i, j, k, e, ⟨k0, k1, i0, i1, j0, j1, hn⟩, q⟩ := q1
  subst e
  cases r1 with
  | cons r rr =>
    cases rr with
    | cons r' rr =>
      cases rr with
      | cons r'' rr =>
        cases rr
        obtain ⟨t, rfl⟩ := r
        obtain ⟨t', rfl⟩ := r'
        obtain ⟨t'', rfl⟩ := r''
        refine call_range_3 (by omega) ?_ (.inl (PyProof.noPylong_small (by omega)))
        have I2 : Inv X pins σ H1 { s1 with heap := s1.heap.push { cls := .type "range", data := .fields #[.int i t, .int j t', .int k t''] } } := I1.kept (t' := s1.toks) fun b o e => Heap.get?_push_of_some _ e
        have hR : IsRange (s1.heap.push { cls := .type "range", data := .fields #[.int i t, .int j t', .int k t''] }) s1.heap.objs.size i j k t t' t'' := IsRange.new ..
        have hT : Shared.TypeIs { s1 with heap := s1.heap.push { cls := .type "range", data := .fields #[.int i t, .int j t', .int k t''] } } (.ref s1.heap.objs.size) "range" := ⟨_, Heap.get?_push_size _ rfl, rfl⟩
        unfold PySem.W.StarOf notIterableAtAll
        refine wpAny_bind (wpAny_specialOf hT PySem.F.slot_range_iter.lookup (wpAny_pure ⟨rfl, ?_⟩))
        refine collect_range (n := rngN i j k) (I2.ok.hd hc) hR (rngSmall k0 k1 i0 i1 j0 j1) (rngS k0) (by rw [← cap24]; exact hn) fun h' tk acc hk hi => ?_
        have I3 := I2.kept (t' := tk) hk
        exact thn (hr.run pos pins _ σ H1 _ I3 q) fun ws s3 ⟨vs, H3, I4, r3, q3⟩ => ⟨rgVK i k (rngN i j k) ++ vs, H3, I4, (vals_rgK hi).append r3, q3⟩
theorem rgK_rep {N : Addr → Prop} {H : Hp} {i k : Int} {n : Nat} : RepL Γ.g N H (rgVK i k n) (rngKD i k n) := by
  unfold rgVK rngKD
  generalize List.range n = l
  induction l with
  | nil => exact .nil
  | cons i l ih => exact .cons (.int _) ih
theorem mono_asR3 {Q Q' : List D → Prop} (h : ∀ l, Q l → Q' l) : ∀ {ds : List D}, asR3 Q ds → asR3 Q' ds := fun {ds} q => by
  unfold asR3 at q ⊢
  split at q
  · exact ⟨q.1, h _ q.2⟩
  · exact q.elim
theorem mono_StarR3 (ha : MonoA fa) (hr : MonoA fr) : MonoA (aStarR3 fa fr) := fun env st Q Q' X X' h hx q => ha _ _ _ _ _ _ (fun ds s1 z => mono_asR3 (fun l z => hr _ _ _ _ _ _ (fun xs s2 z => h _ _ z) hx z) z) hx q
theorem asR3_in {Q : List D → Prop} {ds : List D} (q : asR3 Q ds) : ∃ i j k, ds = [.int i, .int j, .int k] ∧ inR3 i j k Q := by
  unfold asR3 at q
  split at q
  · exact ⟨_, _, _, rfl, q⟩
  · exact q.elim
theorem fa_starR3 (hm : X.mg "range" = none) (ha : FA X Γ W O [a, b, c] fa) (hr : FA X Γ W O es fr) (hc : X.calm = true := by rfl) (hg : Gl X "range" := by rfl)
    (hs3 : starEach [a, b, c] X.env = (false, eval a X.env) :: starEach [b, c] X.env := by rfl) (hpl : (backTo p3 (starEach [b, c] X.env)).any (·.1) = false := by rfl)
    (hs : starEach (.Starred (.Call (.Name "range" p2) [a, b, c] [] p3) p :: es) X.env = (true, eval (.Call (.Name "range" p2) [a, b, c] [] p3) X.env) :: starEach es X.env := by rfl) :
    FA X Γ W O (.Starred (.Call (.Name "range" p2) [a, b, c] [] p3) p :: es) (aStarR3 fa fr) :=
  ⟨mono_StarR3 ha.mono hr.mono, (pa_starR3 hc hg hm ha.pa hr.pa hs3 hpl hs).imp fun σ H Q ⟨env, st, R, T, q⟩ => ⟨env, st, R, T, ha.mono _ _ _ _ _ _ (fun ds s1 z vs H1 e1 T1 r1 => by
    obtain ⟨i, j, k, rfl, hcond, z⟩ := asR3_in z
    cases r1 with
    | cons r r1 =>
      cases r1 with
      | cons r' r1 =>
        cases r1 with
        | cons r'' r1 =>
          cases r1
          cases r
          cases r'
          cases r''
          refine ⟨i, j, k, rfl, hcond, env, s1, R.ev e1, T1, hr.mono _ _ _ _ _ _ (fun ds s2 z ws H2 e2 T2 r2 => z (rgVK i k (rngN i j k) ++ ws) H2 (e1.trans e2) T2 (rgK_rep.append r2)) (fun t d s z => exK.ev e1 z) z⟩) (fun _ _ _ z => z) q⟩⟩
end
end Fy
set_option Elab.async false
set_option linter.all false
set_option maxRecDepth 100000
/-! FyBW: data terms: the first place of a value in a list, list(range(a, b)). -/
namespace Fy
open PySem (Str)
def qIdx : List D → D → (D → Prop) → Prop := fun l x Q => ok x = true ∧ ok (.lst l) = true ∧ ∃ (j : Nat) (d : D), l[j]? = some d ∧ d.eqv x = true ∧ (∀ (m : Nat) (d' : D), m < j → l[m]? = some d' → d'.eqv x = false) ∧ Q (.int (j : Nat))
/-- a.index(b) of a list -/
def fIdx (a b : FTE) : FTE := fun env st Q X => a env st (fun x s1 => asLst (fun l => b env s1 (fun y s2 => qIdx l y (fun r => Q r s2)) X) x) X
/-- list(range(a, b)) -/
def fLstR2 (a b : FTE) : FTE := fun env st Q X => a env st (fun x s1 => b env s1 (fun y s2 => match x, y with
  | .int i, .int j => (-(2 ^ 62) ≤ i ∧ i < 2 ^ 62 ∧ -(2 ^ 62) ≤ j ∧ j < 2 ^ 62 ∧ (j - i).toNat ≤ cap) ∧ Q (.lst (rangeD i (j - i).toNat)) s2
  | _, _ => False) X) X
end Fy
set_option Elab.async false
set_option linter.all false
set_option maxRecDepth 100000
set_option maxHeartbeats 4000000
/-! FyBX: the rules for FyBW. -/
namespace Fy
open PySem L2 PySem.Spec PyProof.Rows
variable {X : Cx} {Γ : G} {W : WX} {O : List Nat} {a b o e : Expr} {fa fb fo fe : FTE} {p pos q1p : Pos} {k : Nat}
theorem mono_Idx (ha : MonoE fa) (hb : MonoE fb) : MonoE (fIdx fa fb) := fun env st Q Q' X X' hq hx q => ha _ _ _ _ _ _ (fun x s z => by
  cases x <;> first | exact (z : False).elim | skip
  exact hb _ _ _ _ _ _ (fun y s2 w => by
    obtain ⟨o1, o2, j, d, h1, h2, h3, h4⟩ := w
    exact ⟨o1, o2, j, d, h1, h2, h3, hq _ _ h4⟩) hx z) hx q
theorem toPys_at : ∀ {l : List D} {j : Nat} {d : D}, l[j]? = some d → (toPys l)[j]? = some (toPy d)
  | x :: l, 0, d, h => by
    injection h with h
    subst h
    rfl
  | x :: l, j + 1, d, h => toPys_at (l := l) (j := j) (by simpa using h)
theorem toPys_from : ∀ {l : List D} {j : Nat} {z : PyData}, (toPys l)[j]? = some z → ∃ d, l[j]? = some d ∧ z = toPy d
  | x :: l, 0, z, h => by
    injection h with h
    exact ⟨x, rfl, h.symm⟩
  | x :: l, j + 1, z, h => by
    obtain ⟨d, h1, h2⟩ := toPys_from (l := l) (j := j) (z := z) h
    exact ⟨d, by simpa using h1, h2⟩
theorem fe_index {apos cpos : Pos} (c : Ctx X Γ W k) (ho : FE X Γ W O .sh o fo) (he : FE X Γ W O .sh e fe)
    (hbase : attributeBase o "index" X.env (eval o X.env) = eval o X.env := by rfl)
    (hfew : ((backTo cpos (starEach [e] X.env)).all (fun x => !x.1) && (backToKw cpos (keywordEach [] X.env)).all (fun x => x.1.isSome)
      && decide ([e].length + ([] : List Keyword).length + (if ([] : List Keyword).isEmpty then 0 else 1) < 30)) = true := by rfl)
    (hline : (apos.endLine == cpos.line) = true := by rfl) (hs : starEach [e] X.env = (false, eval e X.env) :: starEach [] X.env := by rfl) (hplain : (backTo cpos (starEach [] X.env)).any (·.1) = false := by rfl) :
    FE X Γ W O .cl (.Call (.Attribute o "index" apos) [e] [] cpos) (fIdx fo fe) :=
  ⟨mono_Idx ho.mono he.mono, (pe_bm (T := "list") PySem.F.plainAttrs_list PySem.F.slot_list_index PySem.F.type_list_index (mt_indexD c.u65) ho.pe (pa_cons he.pe pa_nil hs) hbase hfew hline hs hplain).imp fun σ H Q ⟨env, st, R, T, h⟩ => by
    refine ⟨env, st, R, T, ho.mono _ _ _ _ _ _ (fun dx s1 q1 v H1 e1 T1 r1 => ?_) (fun _ _ _ z => z) h⟩
    cases dx <;> first | exact (q1 : False).elim | skip
    rename_i l
    obtain ⟨p, vs, rfl, hp, _⟩ := r1.lst
    refine ⟨.inl ⟨rfl, vs, SqL.of hp⟩, ?_⟩
    refine ⟨env, s1, R.ev e1, T1, he.mono _ _ _ _ _ _ (fun dy s2 q2 y H2 e2 T2 r2 => ?_) (fun t d s z => exK.ev e1 z) q1⟩
    obtain ⟨o1, o2, j, d, hj, hd, hno, q⟩ := q2
    have hl : l.all (okN 59) = true := o2
    have hm : ∀ {i : Nat} {z : D}, l[i]? = some z → okN 59 z = true := fun {i z} hz => List.all_eq_true.mp hl z (List.mem_of_getElem? hz)
    refine ⟨p, y, toPy dy, toPys l, j, toPy d, rfl, rfl, (r1.zone e2).dp o2, r2.dp o1, ok_shaped o2, ok_shaped o1, toPys_at hj, ?_, fun m z' hmj hz => ?_, ?_⟩
    · rw [eqv_py 59 60 d dy (hm hj) o1]
      exact hd
    · obtain ⟨d', h1, rfl⟩ := toPys_from hz
      rw [eqv_py 59 60 d' dy (hm h1) o1]
      exact hno m d' hmj h1
    · exact q _ _ (e1.trans e2) T2 (.int _)⟩
theorem mono_LstR2 (ha : MonoE fa) (hb : MonoE fb) : MonoE (fLstR2 fa fb) := fun env st Q Q' X X' hq hx q => ha _ _ _ _ _ _ (fun x s z => hb _ _ _ _ _ _ (fun y s2 w => by
  cases x <;> cases y <;> first | exact (w : False).elim | exact ⟨w.1, hq _ _ w.2⟩) hx z) hx q
theorem rg_rep2 {N : Addr → Prop} {H : Hp} {i j : Int} : RepL Γ.g N H (rgV i j) (rangeD i (j - i).toNat) := by
  unfold rgV rangeD
  generalize List.range (j - i).toNat = l
  induction l with
  | nil => exact .nil
  | cons i l ih => exact .cons (.int _) ih
theorem fe_lstR2 {p p2 : Pos} (c : Ctx X Γ W k) (hm : X.mg "list" = none) (hr : X.mg "range" = none) (ha : FE X Γ W O .cl a fa) (hb : FE X Γ W O .cl b fb) (hg : Gl X "list" := by rfl) (hg2 : Gl X "range" := by rfl) (hc : X.calm = true := by rfl)
    (na : starEach [a, b] X.env = (false, eval a X.env) :: starEach [b] X.env := by rfl) (nc : starEach [b] X.env = (false, eval b X.env) :: starEach [] X.env := by rfl) (hp : (backTo q1p (starEach [b] X.env)).any (·.1) = false := by rfl) (nb : starEach [.Call (.Name "range" p2) [a, b] [] q1p] X.env = (false, eval (.Call (.Name "range" p2) [a, b] [] q1p) X.env) :: starEach [] X.env := by rfl) :
    FE X Γ W O .fr (.Call (.Name "list" p) [.Call (.Name "range" p2) [a, b] [] q1p] [] pos) (fLstR2 fa fb) :=
  ⟨mono_LstR2 ha.mono hb.mono, (pe_listRg hc hg hm (prg_2 hg2 hr ha.pe hb.pe na nc hp) nb).imp fun σ H Q ⟨env, st, R, T, q⟩ => ⟨env, st, R, T, ha.mono _ _ _ _ _ _ (fun d s1 z v H1 e1 T1 r1 => ⟨env, s1, R.ev e1, T1, hb.mono _ _ _ _ _ _ (fun d2 s2 z v2 H2 e2 T2 r2 => by
    cases d <;> cases d2 <;> first | exact (z : False).elim | skip
    cases r1
    cases r2
    obtain ⟨⟨b1, b2, b3, b4, b5⟩, z⟩ := z
    refine ⟨_, _, rfl, rfl, ⟨b1, b2, b3, b4, by rw [← cap24]; exact b5⟩, fun p hp => ?_⟩
    have e3 := e1.trans e2
    exact z _ _ (e3.trans (Ext.new hp).ev) (T2.ext (Ext.new hp)) ⟨p, rfl, e3.t _ hp, _, upd_same, rg_rep2⟩) (fun t d s z => exK.ev e1 z) z⟩) (fun _ _ _ z => z) q⟩⟩
end Fy
set_option Elab.async false
set_option linter.all false
set_option maxRecDepth 100000
set_option maxHeartbeats 4000000
/-! FyX: closings: least, alone, what Euclid's way answers. -/
namespace Fy.Pu
open PySem (Str)
/-- closed under x + y - z -/
structure Cl (P : Int → Prop) : Prop where
  z : P 0
  c : ∀ x y z, P x → P y → P z → z ≤ x → z ≤ y → P (x + y - z)
theorem Cl.add {P : Int → Prop} (h : Cl P) {x y : Int} (hx : P x) (hy : P y) (x0 : 0 ≤ x) (y0 : 0 ≤ y) : P (x + y) := by
  have := h.c x y 0 hx hy h.z x0 y0
  rw [Int.sub_zero] at this
  exact this
theorem Cl.mul {P : Int → Prop} (h : Cl P) {s : Int} (hs : P s) (s0 : 0 ≤ s) : ∀ k : Nat, P (s * (k : Int))
  | 0 => by simpa using h.z
  | k + 1 => by
    have := h.add (h.mul hs s0 k) hs (Int.mul_nonneg s0 (by omega)) s0
    rw [show s * ((k + 1 : Nat) : Int) = s * (k : Int) + s by rw [Int.natCast_add, Int.mul_add]; simp]
    exact this
theorem Cl.dvd {P : Int → Prop} (h : Cl P) {s n : Int} (hs : P s) (s0 : 0 < s) (n0 : 0 ≤ n) (hd : s ∣ n) : P n := by
  obtain ⟨k, hk⟩ := hd
  have hk0 : 0 ≤ k := by
    rcases Int.lt_or_le k 0 with z | z
    · have := Int.mul_neg_of_pos_of_neg s0 z
      omega
    · exact z
  have := h.mul hs (Int.le_of_lt s0) k.toNat
  rw [Int.toNat_of_nonneg hk0, ← hk] at this
  exact this
theorem Cl.shift {P : Int → Prop} (h : Cl P) {a : Int} (ha : P a) : Cl fun y => P (y + a) where
  z := by simpa using ha
  c := fun x y z hx hy hz h1 h2 => by
    have := h.c _ _ _ hx hy hz (by omega) (by omega)
    rw [show x + y - z + a = x + a + (y + a) - (z + a) by omega]
    exact this
def Pos (rs : List (Int × Int)) : Prop := ∀ p, p ∈ rs → 0 < p.1 ∧ 0 < p.2
theorem Pos.of {rs : List (Int × Int)} (h : ∀ p, p ∈ rs → Good p) : Pos rs := fun p hp => ⟨(h p hp).1, (h p hp).2.1⟩
theorem inR_le2 {e n : Int} {p : Int × Int} {r : List (Int × Int)} (h : Pos (p :: r)) (hn : n ≤ p.1 * p.2) : inR (p :: r) e n = (n % p.1 == 0) := by
  unfold inR
  by_cases hlt : n < p.1 * p.2
  · rw [if_pos hlt]
  · rw [if_neg hlt, show n - p.1 * p.2 = 0 by omega, inR_zero2 fun q hq => h q (List.mem_cons_of_mem _ hq), show n = p.1 * p.2 by omega]
    simp
/-- a falling row of any size -/
structure FR (rs : List (Int × Int)) (e : Int) : Prop where
  pos : Pos rs
  e0 : 0 ≤ e
  nz : e = 0 → rs = []
  fl : fall rs e = true
theorem FR.tail {p : Int × Int} {r : List (Int × Int)} {e : Int} (h : FR (p :: r) e) : FR r e :=
  ⟨fun q hq => h.pos q (List.mem_cons_of_mem _ hq), h.e0, fun z => (by have := h.nz z; cases this), (fall_parts h.fl).2.2⟩
theorem FR.epos {p : Int × Int} {r : List (Int × Int)} {e : Int} (h : FR (p :: r) e) : 0 < e := by
  have h1 := h.e0
  rcases Int.lt_or_le 0 e with z | z
  · exact z
  · have := h.nz (by omega)
    cases this
theorem FR.hpos {r : List (Int × Int)} {e : Int} (h : FR r e) (he : 0 < e) : 0 < headS r e := by
  cases r with
  | nil => exact he
  | cons p r => exact (h.pos p (List.mem_cons_self ..)).1
theorem FR.hin {r : List (Int × Int)} {e : Int} (h : FR r e) : inR r e (headS r e) = true := by
  cases r with
  | nil =>
    show inR [] e e = true
    unfold inR
    split
    · rename_i z; rw [z]; rfl
    · simp
  | cons p r =>
    obtain ⟨h1, h2⟩ := h.pos p (List.mem_cons_self ..)
    show inR (p :: r) e p.1 = true
    have : p.1 * 1 ≤ p.1 * p.2 := Int.mul_le_mul_of_nonneg_left (by omega) (by omega)
    rw [inR_le2 h.pos (by omega)]
    simp
/-- no number of the set lies between 0 and its first step -/
theorem FR.first {r : List (Int × Int)} {e n : Int} (h : FR r e) (n0 : 0 < n) (hn : n < headS r e) : inR r e n = false := by
  cases r with
  | nil =>
    have hn' : n < e := hn
    unfold inR
    rw [if_neg (by omega), Int.emod_eq_of_lt (by omega) hn']
    simp
    omega
  | cons p r =>
    obtain ⟨h1, h2⟩ := h.pos p (List.mem_cons_self ..)
    have hn' : n < p.1 := hn
    have : p.1 * 1 ≤ p.1 * p.2 := Int.mul_le_mul_of_nonneg_left (by omega) (by omega)
    rw [inR_le2 h.pos (by omega), Int.emod_eq_of_lt (by omega) hn']
    simp
    omega
/-- the set of a row is closed (any size) -/
theorem clR {e : Int} : ∀ {rs : List (Int × Int)}, FR rs e → Cl (inZ rs e)
  | [], h => ⟨⟨Int.le_refl _, by unfold inR; split <;> simp⟩, fun x y z hx hy hz h1 h2 => closed [] e h.e0 (fun p hp => nomatch hp) rfl x y z hx hy hz h1 h2⟩
  | p :: r, h => by
    obtain ⟨g1, g2⟩ := h.pos p (List.mem_cons_self ..)
    obtain ⟨_, f2, _⟩ := fall_parts h.fl
    have hc := clR h.tail
    have ps : inZ r e p.1 := ⟨by omega, f2⟩
    have T0 : 0 < p.1 * p.2 := Int.mul_pos g1 g2
    have mul : ∀ n, 0 ≤ n → p.1 ∣ n → inZ r e n := fun n hn hd => hc.dvd ps g1 hn hd
    have lo : ∀ n, n ≤ p.1 * p.2 → inR (p :: r) e n = true → p.1 ∣ n := fun n hn h' => by
      rw [inR_le2 h.pos hn, beq_iff_eq] at h'
      exact Int.dvd_of_emod_eq_zero h'
    have hi : ∀ n, p.1 * p.2 < n → inR (p :: r) e n = true → inZ r e (n - p.1 * p.2) := fun n hn h' => by
      unfold inR at h'
      rw [if_neg (by omega)] at h'
      exact ⟨by omega, h'⟩
    have back : ∀ n, p.1 * p.2 < n → inZ r e (n - p.1 * p.2) → inZ (p :: r) e n := fun n hn h' => by
      refine ⟨by omega, ?_⟩
      unfold inR
      rw [if_neg (by omega)]
      exact h'.2
    have all : ∀ n, 0 ≤ n → p.1 ∣ n → inZ (p :: r) e n := fun n hn hd => by
      rcases Int.lt_or_le (p.1 * p.2) n with h' | h'
      · exact back n h' (mul _ (by omega) (Int.dvd_sub hd (Int.dvd_mul_right ..)))
      · refine ⟨hn, ?_⟩
        rw [inR_le2 h.pos h', beq_iff_eq]
        exact Int.emod_eq_zero_of_dvd hd
    refine ⟨⟨Int.le_refl _, inR_zero2 h.pos⟩, fun x y z hx hy hz h1 h2 => ?_⟩
    obtain ⟨x0, hx⟩ := hx
    obtain ⟨y0, hy⟩ := hy
    obtain ⟨w0, hz⟩ := hz
    have T1 : p.1 ∣ p.1 * p.2 := Int.dvd_mul_right ..
    rcases Int.lt_or_le (p.1 * p.2) z with cz | cz
    · refine back _ (by omega) ?_
      have h' := hc.c _ _ _ (hi x (by omega) hx) (hi y (by omega) hy) (hi z cz hz) (by omega) (by omega)
      rw [show x + y - z - p.1 * p.2 = x - p.1 * p.2 + (y - p.1 * p.2) - (z - p.1 * p.2) by omega]
      exact h'
    · have dz := lo z cz hz
      rcases Int.lt_or_le (p.1 * p.2) x with cx | cx <;> rcases Int.lt_or_le (p.1 * p.2) y with cy | cy
      · refine back _ (by omega) ?_
        have h' := hc.add (hc.add (hi x cx hx) (hi y cy hy) (by omega) (by omega)) (mul (p.1 * p.2 - z) (by omega) (Int.dvd_sub T1 dz)) (by omega) (by omega)
        rw [show x + y - z - p.1 * p.2 = x - p.1 * p.2 + (y - p.1 * p.2) + (p.1 * p.2 - z) by omega]
        exact h'
      · refine back _ (by omega) ?_
        have h' := hc.add (hi x cx hx) (mul (y - z) (by omega) (Int.dvd_sub (lo y cy hy) dz)) (by omega) (by omega)
        rw [show x + y - z - p.1 * p.2 = x - p.1 * p.2 + (y - z) by omega]
        exact h'
      · refine back _ (by omega) ?_
        have h' := hc.add (hi y cy hy) (mul (x - z) (by omega) (Int.dvd_sub (lo x cx hx) dz)) (by omega) (by omega)
        rw [show x + y - z - p.1 * p.2 = y - p.1 * p.2 + (x - z) by omega]
        exact h'
      · exact all _ (by omega) (Int.dvd_sub (Int.dvd_add (lo x cx hx) (lo y cy hy)) dz)
/-! two rows of one set are one -/
theorem row_nil {e e2 : Int} {r2 : List (Int × Int)} (h2 : FR r2 e2) (he : 0 ≤ e) (hs : ∀ n, 0 ≤ n → inR [] e n = inR r2 e2 n) : r2 = [] ∧ e2 = e := by
  have hz : ∀ n : Int, e = 0 → 0 < n → inR [] e n = false := fun n z n0 => by
    unfold inR
    rw [if_pos z]
    simp
    omega
  have hm : ∀ n : Int, 0 < e → inR [] e n = true → e ∣ n := fun n e0 h => by
    unfold inR at h
    rw [if_neg (by omega), beq_iff_eq] at h
    exact Int.dvd_of_emod_eq_zero h
  cases r2 with
  | nil =>
    refine ⟨rfl, ?_⟩
    have e20 := h2.e0
    have a1 : inR [] e e2 = true := by rw [hs e2 e20]; exact h2.hin
    have a2 : inR [] e2 e = true := by
      rw [← hs e he]
      exact (FR.mk (fun p hp => nomatch hp) he (fun _ => rfl) rfl : FR [] e).hin
    by_cases z : e = 0
    · rcases Int.lt_or_le 0 e2 with q | q
      · rw [hz e2 z q] at a1
        cases a1
      · omega
    · have d1 := hm e2 (by omega) a1
      by_cases z2 : e2 = 0
      · subst z2
        unfold inR at a2
        rw [if_pos rfl, beq_iff_eq] at a2
        omega
      · unfold inR at a2
        rw [if_neg z2, beq_iff_eq] at a2
        have d2 := Int.dvd_of_emod_eq_zero a2
        have := Int.le_of_dvd (by omega) d1
        have := Int.le_of_dvd (by omega) d2
        omega
  | cons p r =>
    exfalso
    obtain ⟨g1, g2⟩ := h2.pos p (List.mem_cons_self ..)
    have e2p := h2.epos
    have hp := h2.tail.hpos e2p
    obtain ⟨f1, _, _⟩ := fall_parts h2.fl
    have T0 : 0 < p.1 * p.2 := Int.mul_pos g1 g2
    have b1 : inR (p :: r) e2 p.1 = true := h2.hin
    have b2 : inR (p :: r) e2 (p.1 * p.2 + headS r e2) = true := by
      unfold inR
      rw [if_neg (by omega), show p.1 * p.2 + headS r e2 - p.1 * p.2 = headS r e2 by omega]
      exact h2.tail.hin
    have b3 : ∀ n, 0 < n → n < p.1 → inR (p :: r) e2 n = false := fun n n0 hn => h2.first n0 hn
    rw [← hs _ (by omega)] at b1 b2
    by_cases z : e = 0
    · rw [hz _ z g1] at b1
      cases b1
    · have d1 := hm _ (by omega) b1
      have e1 : e = p.1 := by
        have l1 := Int.le_of_dvd g1 d1
        rcases Int.lt_or_le e p.1 with q | q
        · have := b3 e (by omega) q
          rw [← hs e he] at this
          have a2 := (FR.mk (fun p hp => nomatch hp) he (fun _ => rfl) rfl : FR [] e).hin
          rw [show headS [] e = e from rfl, this] at a2
          cases a2
        · omega
      have d2 := hm _ (by omega) b2
      rw [e1] at d2
      have d3 : p.1 ∣ headS r e2 := (Int.dvd_add_right (Int.dvd_mul_right ..)).mp d2
      have := Int.le_of_dvd hp d3
      omega
theorem rows_one {e e2 : Int} : ∀ {r1 r2 : List (Int × Int)}, FR r1 e → FR r2 e2 → (∀ n, 0 ≤ n → inR r1 e n = inR r2 e2 n) → r1 = r2 ∧ e = e2
  | [], r2, h1, h2, hs => by
    obtain ⟨a, b⟩ := row_nil h2 h1.e0 hs
    exact ⟨a.symm, b.symm⟩
  | p :: r, [], h1, h2, hs => by
    obtain ⟨a, b⟩ := row_nil h1 h2.e0 fun n hn => (hs n hn).symm
    cases a
  | p :: r, q :: r2, h1, h2, hs => by
    obtain ⟨g1, g2⟩ := h1.pos p (List.mem_cons_self ..)
    obtain ⟨k1, k2⟩ := h2.pos q (List.mem_cons_self ..)
    have step : p.1 = q.1 := by
      have a1 : inR (q :: r2) e2 p.1 = true := by rw [← hs _ (by omega)]; exact h1.hin
      have a2 : inR (p :: r) e q.1 = true := by rw [hs _ (by omega)]; exact h2.hin
      rcases Int.lt_or_le p.1 q.1 with z | z
      · rw [h2.first g1 z] at a1
        cases a1
      · rcases Int.lt_or_le q.1 p.1 with z2 | z2
        · rw [h1.first k1 z2] at a2
          cases a2
        · omega
    have key : ∀ {a b : Int × Int} {ra rb : List (Int × Int)} {ea eb : Int}, FR (a :: ra) ea → FR (b :: rb) eb → (∀ n, 0 ≤ n → inR (a :: ra) ea n = inR (b :: rb) eb n) → a.1 = b.1 → ¬ a.2 < b.2 := fun {a b ra rb ea eb} ha hb hs hab hlt => by
      obtain ⟨g1, g2⟩ := ha.pos a (List.mem_cons_self ..)
      have hp := ha.tail.hpos ha.epos
      obtain ⟨f1, _, _⟩ := fall_parts ha.fl
      have T0 : 0 < a.1 * a.2 := Int.mul_pos g1 g2
      have b2 : inR (a :: ra) ea (a.1 * a.2 + headS ra ea) = true := by
        unfold inR
        rw [if_neg (by omega), show a.1 * a.2 + headS ra ea - a.1 * a.2 = headS ra ea by omega]
        exact ha.tail.hin
      rw [hs _ (by omega)] at b2
      have le : a.1 * a.2 + a.1 ≤ b.1 * b.2 := by
        rw [← hab, show a.1 * a.2 + a.1 = a.1 * (a.2 + 1) by rw [Int.mul_add]; omega]
        exact Int.mul_le_mul_of_nonneg_left (by omega) (by omega)
      rw [inR_le2 hb.pos (by omega), beq_iff_eq, ← hab] at b2
      have d2 := Int.dvd_of_emod_eq_zero b2
      have d3 : a.1 ∣ headS ra ea := (Int.dvd_add_right (Int.dvd_mul_right ..)).mp d2
      have := Int.le_of_dvd hp d3
      omega
    have n1 := key h1 h2 hs step
    have n2 := key h2 h1 (fun n hn => (hs n hn).symm) step.symm
    have hpq : p = q := Prod.ext step (by omega)
    subst hpq
    have T0 : 0 < p.1 * p.2 := Int.mul_pos g1 g2
    obtain ⟨a, b⟩ := rows_one h1.tail h2.tail fun n hn => by
      have := hs (n + p.1 * p.2) (by omega)
      unfold inR at this
      rw [if_neg (by omega), if_neg (by omega), show n + p.1 * p.2 - p.1 * p.2 = n by omega] at this
      exact this
    exact ⟨by rw [a], b⟩
/-! Euclid's way answers the least closed set -/
theorem Euc.least {l : List Int} {m e : Int} {rs : List (Int × Int)} (h : Euc l m rs e) : ∀ {P : Int → Prop}, Cl P → (∀ x, x ∈ l → P x) → ∀ n, inZ rs e n → P n := by
  induction h with
  | @done l m a d =>
    intro P hc hl n hn
    have hn2 := hn.2
    unfold inR at hn2
    have mp := a.pos
    rw [if_neg (by omega), beq_iff_eq] at hn2
    exact hc.dvd (hl m a.mem) mp hn.1 (Int.dvd_of_emod_eq_zero hn2)
  | @more l m t l' m' rs e a u k ih =>
    intro P hc hl n hn
    have mp := a.pos
    have tp := u.t_pos a
    have T0 : 0 < m * t := Int.mul_pos mp tp
    have pm : P m := hl m a.mem
    have pT : P (m * t) := hc.dvd pm mp (by omega) (Int.dvd_mul_right ..)
    obtain ⟨n0, hn⟩ := hn
    have hn' : (if n < m * t then n % m == 0 else inR rs e (n - m * t)) = true := hn
    by_cases hlt : n < m * t
    · rw [if_pos hlt, beq_iff_eq] at hn'
      exact hc.dvd pm mp n0 (Int.dvd_of_emod_eq_zero hn')
    · rw [if_neg hlt] at hn'
      have := ih (hc.shift pT) (fun y hy => by
        rcases (u.new y).mp hy with rfl | ⟨x, hx, h2, rfl⟩
        · exact hc.add pm pT (by omega) (by omega)
        · rw [show x - m * t + m * t = x by omega]
          exact hl x hx) (n - m * t) ⟨by omega, hn'⟩
      rw [show n - m * t + m * t = n by omega] at this
      exact this
theorem Euc.fr {l : List Int} {m e : Int} {rs : List (Int × Int)} (h : Euc l m rs e) : FR rs e := by
  obtain ⟨_, h2, h3, h4, _⟩ := h.ok
  exact ⟨h4, by omega, fun z => by omega, h2⟩
/-- the closing of counts, as a row -/
structure CloR (ns : List Int) (rs : List (Int × Int)) (e : Int) : Prop where
  fr : FR rs e
  has : ∀ x, x ∈ ns → 0 ≤ x → inR rs e x = true
  least : ∀ {P : Int → Prop}, Cl P → (∀ x, x ∈ ns → 0 < x → P x) → ∀ n, inZ rs e n → P n
theorem CloR.one {ns ms : List Int} {rs r2 : List (Int × Int)} {e e2 : Int} (h : CloR ns rs e) (h2 : CloR ms r2 e2) (hm : ∀ x, 0 < x → (x ∈ ns ↔ x ∈ ms)) : rs = r2 ∧ e = e2 := by
  refine rows_one h.fr h2.fr fun n hn => ?_
  rw [Bool.eq_iff_iff]
  constructor
  · intro q
    exact (h.least (clR h2.fr) (fun x hx h0 => ⟨by omega, h2.has x ((hm x h0).mp hx) (by omega)⟩) n ⟨hn, q⟩).2
  · intro q
    exact (h2.least (clR h.fr) (fun x hx h0 => ⟨by omega, h.has x ((hm x h0).mpr hx) (by omega)⟩) n ⟨hn, q⟩).2
theorem CloR.mono {ns ms : List Int} {rs r2 : List (Int × Int)} {e e2 n : Int} (h : CloR ns rs e) (h2 : CloR ms r2 e2) (hm : ∀ x, 0 < x → x ∈ ns → x ∈ ms) (n0 : 0 ≤ n) (hn : inR rs e n = true) : inR r2 e2 n = true :=
  (h.least (clR h2.fr) (fun x hx h0 => ⟨by omega, h2.has x (hm x h0 hx) (by omega)⟩) n ⟨n0, hn⟩).2
theorem Euc.clo {l : List Int} {m e : Int} {rs : List (Int × Int)} {ns : List Int} (h : Euc l m rs e) (hl : ∀ x, x ∈ l ↔ x ∈ ns ∧ 0 < x) : CloR ns rs e where
  fr := h.fr
  has := fun x hx h0 => by
    rcases Int.lt_or_le 0 x with z | z
    · exact h.ok.2.2.2.2 x ((hl x).mpr ⟨hx, z⟩)
    · rw [show x = 0 by omega]
      exact inR_zero2 h.fr.pos
  least := fun hc hp n hn => h.least hc (fun x hx => hp x ((hl x).mp hx).1 ((hl x).mp hx).2) n hn
theorem clo_nil {ns : List Int} (h : ∀ x, x ∈ ns → ¬ 0 < x) : CloR ns [] 0 where
  fr := ⟨fun p hp => (nomatch hp), Int.le_refl _, fun _ => rfl, rfl⟩
  has := fun x hx h0 => by
    have := h x hx
    unfold inR
    rw [if_pos rfl, beq_iff_eq]
    omega
  least := fun hc _ n hn => by
    have := hn.2
    unfold inR at this
    rw [if_pos rfl, beq_iff_eq] at this
    rw [this]
    exact hc.z
end Fy.Pu
set_option Elab.async false
set_option linter.all false
set_option maxRecDepth 100000
set_option maxHeartbeats 4000000
/-! FyY: the package's closing, one turn. -/
namespace Fy.Pu
open PySem (Str)
variable {v : D} {s : S} {Q : KD} {X : XC}
/-! the package's own Euclid's way -/
theorem len_zero {ts : List Int} : ((((ts.map D.int).length : Nat) : Int) == 0) = ts.isEmpty := by
  cases ts with
  | nil => rfl
  | cons x r =>
    rw [List.length_map, List.length_cons]
    show (_ == _) = false
    rw [beq_eq_false_iff_ne]
    omega
def clI (ns : List Int) (k : Nat) (env : Env) : Prop := ∃ (d0 : Option D) (l : List Int) (acc : List (Int × Int)) (x3 x4 x5 x6 x7 : Option D), env = [d0, some (.lst (l.map .int)), some (.lst (acc.map prD)), x3, x4, x5, x6, x7] ∧ l.length < 1000 ∧ (∀ x, x ∈ l → x ≤ 2 ^ 100) ∧
  ((l = [] ∧ acc = [] ∧ ∀ x, x ∈ ns → ¬ 0 < x) ∨ ∃ m r, l = m :: r ∧ Lst l m ∧ k = m.toNat ∧ (acc = [] ∨ ∃ q, q ∈ l ∧ m < q ∧ (2 : Int) ^ acc.length * (q * m) ≤ 2 ^ 201) ∧ ∀ rs e, Euc l m rs e → EuR ns (acc ++ rs) e)
abbrev clB : FTS := (sSeq (sAsg (fOp qIx (fVar 1) (fC (.int 0))) (gNm 3)) (sSeq (sAsg (fLC (iSeq (fVar 1)) (gNm 7) (fTst (fOp qGt (fOp qMod (fVar 7) (fVar 3)) (fC (.int 0)))) (fOp qDiv (fVar 7) (fVar 3)) [7]) (gNm 4)) (sSeq (sIf (fTst (fOp qEq (fUn qLen (fVar 4)) (fC (.int 0)))) (sRet (fTup (aCons (fUn qTuple (fVar 2)) (aCons (fVar 3) aNil)))) sNx) (sSeq (sAsg (fUn qMin (fVar 4)) (gNm 5)) (sSeq (sMut 2 oAppend (aCons (fTup (aCons (fVar 3) (aCons (fVar 5) aNil))) aNil)) (sSeq (sAsg (fLC (iSeq (fVar 1)) (gNm 7) (fTst (fOp qGt (fVar 7) (fOp qMul (fVar 3) (fVar 5)))) (fOp qSub (fVar 7) (fOp qMul (fVar 3) (fVar 5))) [7]) (gNm 6)) (sAsg (fUn qSorted (fUn qSetL (fLstS (aCons (fVar 3) (aStar (fVar 6) aNil))))) (gNm 1))))))))
theorem cl_body {E : Ends} {ns : List Int} {k : Nat} {m : Int} {r : List Int} {acc : List (Int × Int)} {d0 x3 x4 x5 x6 x7 : Option D}
    (hlen : (m :: r).length < 1000) (hB : ∀ x, x ∈ m :: r → x ≤ 2 ^ 100) (hL : Lst (m :: r) m) (hk : k = m.toNat) (hacc : acc = [] ∨ ∃ q, q ∈ m :: r ∧ m < q ∧ (2 : Int) ^ acc.length * (q * m) ≤ 2 ^ 201) (hE : ∀ rs e, Euc (m :: r) m rs e → EuR ns (acc ++ rs) e)
    (hrt : ∀ rs e, EuR ns rs e → E.rt (rowD rs e) s) (hnx : ∀ k' env, k' < k → clI ns k' env → E.nx env s) : clB E [d0, some (.lst ((m :: r).map .int)), some (.lst (acc.map prD)), x3, x4, x5, x6, x7] s := by
  have mp := hL.pos
  have mB := hB m hL.mem
  have mlog : m.natAbs.log2 < 101 := log_lt (by decide) (by have : (2 : Int) ^ 101 = 2 * 2 ^ 100 := by decide
                                                            have : (2 : Nat) ^ 101 = 2 * 2 ^ 100 := by decide
                                                            omega)
  refine ix0 ?_
  show compL (gNm 7) (fTst (fOp qGt (fOp qMod (fVar 7) (fVar 3)) (fC (.int 0)))) (fOp qDiv (fVar 7) (fVar 3)) ((m :: r).map .int) [] [d0, some (.lst ((m :: r).map .int)), some (.lst (acc.map prD)), some (.int m), x4, x5, x6, none] s _
  refine comp_ints (keep := fun x => decide (0 < x % m)) (f := fun x => x / m) (m :: r) [] s (fun x hx => ⟨[d0, some (.lst ((m :: r).map .int)), some (.lst (acc.map prD)), some (.int m), x4, x5, x6, some (.int x)], fun R r => r, fun s Qb qb => ⟨mp, qb⟩, fun s Q _ qx => ⟨⟨mp, by omega⟩, qx⟩⟩) (by show 0 + _ ≤ 16777216; omega) ?_
  generalize hts : ((m :: r).filter fun x => decide (0 < x % m)).map (fun x => x / m) = ts
  refine ⟨rfl, rfl, ?_⟩
  show (if ((((ts.map D.int).length : Nat) : Int) == 0) = true then _ else _)
  rw [len_zero]
  by_cases hn : ts = []
  · subst hn
    show E.rt (rowD acc m) s
    refine hrt _ _ ?_
    have h := hE [] m (.done hL fun x hx => ?_)
    · rw [List.append_nil] at h
      exact h
    · rw [List.map_eq_nil_iff, List.filter_eq_nil_iff] at hts
      have h1 := hts x hx
      rw [decide_eq_true_eq] at h1
      have := Int.emod_nonneg x (show m ≠ 0 by omega)
      omega
  · have hne : ts.isEmpty = false := by
      cases ts with
      | nil => exact absurd rfl hn
      | cons _ _ => rfl
    rw [hne, if_neg Bool.false_ne_true]
    refine ⟨ts, ints?_map ts, List.length_pos_iff.mpr hn, ?_⟩
    generalize ht : minL ts = t
    have tm : t ∈ ts := ht ▸ minL_mem hn
    have tl : ∀ z, z ∈ ts → t ≤ z := fun z hz => ht ▸ minL_le hz
    rw [← hts] at tm
    obtain ⟨x0, hx0, hx1⟩ := List.mem_map.mp tm
    obtain ⟨hx2, hx3⟩ := List.mem_filter.mp hx0
    rw [decide_eq_true_eq] at hx3
    have tle : ∀ x, x ∈ m :: r → 0 < x % m → t ≤ x / m := fun x hx h => tl _ (hts ▸ List.mem_map.mpr ⟨x, List.mem_filter.mpr ⟨hx, decide_eq_true h⟩, rfl⟩)
    have hx1' : x0 / m = t := hx1
    have tB : t ≤ 2 ^ 100 := by
      have h4 := hB x0 hx2
      have h5 : x0 / m ≤ x0 := Int.ediv_le_self _ (by have := hL.le x0 hx2; omega)
      omega
    have tp : 0 < t := by
      have : 1 ≤ x0 / m := Int.le_ediv_of_mul_le mp (by have := hL.le x0 hx2; omega)
      omega
    have accl : acc.length < 202 := by
      rcases hacc with h | ⟨q, _, h1, h2⟩
      · rw [h]; decide
      · have h3 : 1 ≤ q * m := Int.mul_pos (by omega) mp
        have h4 : (0 : Int) < 2 ^ acc.length := Int.pow_pos (by decide)
        have h5 := Int.mul_le_mul_of_nonneg_left h3 (Int.le_of_lt h4)
        have := pow_le (a := acc.length) (b := 201) (by omega)
        omega
    have tlog : t.natAbs.log2 < 101 := log_lt (by decide) (by have : (2 : Int) ^ 101 = 2 * 2 ^ 100 := by decide
                                                              have : (2 : Nat) ^ 101 = 2 * 2 ^ 100 := by decide
                                                              omega)
    have mt : MulOk m t := .inr (.inr (by omega))
    refine ⟨by show (acc.map prD).length < 16777216; rw [List.length_map]; omega, ?_⟩
    show compL (gNm 7) (fTst (fOp qGt (fVar 7) (fOp qMul (fVar 3) (fVar 5)))) (fOp qSub (fVar 7) (fOp qMul (fVar 3) (fVar 5))) ((m :: r).map .int) [] [d0, some (.lst ((m :: r).map .int)), some (.lst (acc.map prD ++ [prD (m, t)])), some (.int m), some (.lst (ts.map .int)), some (.int t), x6, none] s _
    refine comp_ints (keep := fun x => decide (m * t < x)) (f := fun x => x - m * t) (m :: r) [] s (fun x hx => ⟨[d0, some (.lst ((m :: r).map .int)), some (.lst (acc.map prD ++ [prD (m, t)])), some (.int m), some (.lst (ts.map .int)), some (.int t), x6, some (.int x)], fun R r => r, fun s Qb qb => ⟨mt, qb⟩, fun s Q _ qx => ⟨mt, qx⟩⟩) (by show 0 + _ ≤ 16777216; omega) ?_
    generalize hus : ((m :: r).filter fun x => decide (m * t < x)).map (fun x => x - m * t) = us
    have mT : m ≤ m * t := by
      have := Int.mul_le_mul_of_nonneg_left (show 1 ≤ t by omega) (Int.le_of_lt mp)
      omega
    have ul : us.length < (m :: r).length := by
      rw [← hus, List.length_map, List.filter_cons, if_neg (by rw [decide_eq_true_eq]; omega), List.length_cons]
      have := List.length_filter_le (fun x => decide (m * t < x)) r
      omega
    have um : ∀ y, y ∈ m :: us ↔ y = m ∨ ∃ x, x ∈ m :: r ∧ m * t < x ∧ y = x - m * t := fun y => by
      rw [List.mem_cons, ← hus, List.mem_map]
      constructor
      · rintro (h | ⟨x, hx, rfl⟩)
        · exact .inl h
        · obtain ⟨h1, h2⟩ := List.mem_filter.mp hx
          rw [decide_eq_true_eq] at h2
          exact .inr ⟨x, h1, h2, rfl⟩
      · rintro (h | ⟨x, h1, h2, rfl⟩)
        · exact .inl h
        · exact .inr ⟨x, List.mem_filter.mpr ⟨h1, decide_eq_true h2⟩, rfl⟩
    refine ⟨by show ((us.map D.int) ++ []).length + 1 ≤ 16777216; rw [List.append_nil, List.length_map]; omega, m :: us, ?_, by show us.length + 1 < 1000; omega, ?_⟩
    · show ints? (D.int m :: (us.map D.int ++ [])) = _
      rw [List.append_nil]
      exact ints?_map (m :: us)
    have sl : (sortU (m :: us)).length < 1000 := by
      have := len_sortU (m :: us)
      rw [List.length_cons] at this
      omega
    refine ⟨sl, ?_⟩
    have posA : ∀ x, x ∈ m :: us → 0 < x := fun x hx => by
      rcases (um x).mp hx with rfl | ⟨y, _, h, rfl⟩ <;> omega
    have sm : ∀ y, y ∈ sortU (m :: us) ↔ y = m ∨ ∃ x, x ∈ m :: r ∧ m * t < x ∧ y = x - m * t := fun y => by rw [mem_sortU, um]
    have bA : ∀ x, x ∈ sortU (m :: us) → x ≤ 2 ^ 100 := fun x hx => by
      rcases (sm x).mp hx with rfl | ⟨y, h1, h, rfl⟩
      · exact mB
      · have := hB y h1
        omega
    cases hs : sortU (m :: us) with
    | nil =>
      have := (sm m).mpr (.inl rfl)
      rw [hs] at this
      cases this
    | cons m' r' =>
      have L' : Lst (m' :: r') m' := hs ▸ lst_sortU hs posA
      have T1 : Turn1 (m :: r) m t (m' :: r') := ⟨⟨x0, hx2, hx3, hx1'⟩, tle, fun y => by rw [← hs]; exact sm y⟩
      have lt' := T1.lt hL L'
      have mp' := L'.pos
      refine hnx m'.toNat _ (by omega) ⟨d0, m' :: r', acc ++ [(m, t)], some (.int m), some (.lst (ts.map .int)), some (.int t), some (.lst (us.map .int)), x7, ?_, hs ▸ sl, hs ▸ bA, .inr ⟨m', r', rfl, L', rfl, .inr ⟨m, (T1.new m).mpr (.inl rfl), lt', ?_⟩, fun rs e h => ?_⟩⟩
      · show [d0, some (D.lst ((m' :: r').map .int)), some (.lst (acc.map prD ++ [prD (m, t)])), some (.int m), some (.lst (ts.map .int)), some (.int t), some (.lst (us.map .int)), x7] = _
        rw [List.map_append]
        rfl
      · rw [List.length_append]
        show (2 : Int) ^ (acc.length + 1) * (m * m') ≤ 2 ^ 201
        rcases hacc with h | ⟨q, h0, h1, h2⟩
        · rw [h]
          show (2 : Int) ^ 1 * (m * m') ≤ 2 ^ 201
          have h3 : m * m' ≤ m * 2 ^ 100 := Int.mul_le_mul_of_nonneg_left (by omega) (by omega)
          have h4 : m * 2 ^ 100 ≤ (2 : Int) ^ 100 * 2 ^ 100 := Int.mul_le_mul_of_nonneg_right mB (by decide)
          have h5 : (2 : Int) ^ 201 = 2 * (2 ^ 100 * 2 ^ 100) := by decide
          rw [show (2 : Int) ^ 1 = 2 from rfl]
          omega
        · have h3 := T1.half hL L' h0 h1
          have h4 : m * (2 * m') ≤ m * q := Int.mul_le_mul_of_nonneg_left h3 (by omega)
          have h5 : (0 : Int) < 2 ^ acc.length := Int.pow_pos (by decide)
          have h6 := Int.mul_le_mul_of_nonneg_left h4 (Int.le_of_lt h5)
          rw [Int.pow_succ]
          have e1 : (2 : Int) ^ acc.length * 2 * (m * m') = 2 ^ acc.length * (m * (2 * m')) := by
            rw [Int.mul_assoc, show 2 * (m * m') = m * (2 * m') by rw [Int.mul_left_comm]]
          rw [Int.mul_comm q m] at h2
          omega
      · rw [List.append_assoc]
        exact hE _ _ (.more hL T1 h)
end Fy.Pu
set_option Elab.async false
set_option linter.all false
set_option maxRecDepth 100000
set_option maxHeartbeats 4000000
/-! FyAA: the first numbers of runs; where two sets part. -/
namespace Fy.Pu
open PySem (Str)
/-- the first number of each run; what stands one step behind a run; where the runs end -/
def starts : List (Int × Int) → Int → List Int
  | [], _ => []
  | p :: r, a => (a + p.1) :: starts r (a + p.1 * p.2)
def bars : List (Int × Int) → Int → List Int
  | [], _ => []
  | p :: r, a => (a + p.1 * p.2 + p.1) :: bars r (a + p.1 * p.2)
def topA : List (Int × Int) → Int → Int
  | [], a => a
  | p :: r, a => topA r (a + p.1 * p.2)
def founds (rs : List (Int × Int)) (e : Int) : List Int := starts rs 0 ++ (if 0 < e then [topA rs 0 + e] else [])
def tell (rs : List (Int × Int)) (e : Int) : List Int := (founds rs e).filter fun n => !(bars rs 0).contains n
theorem starts_len : ∀ (rs : List (Int × Int)) (a : Int), (starts rs a).length = rs.length
  | [], _ => rfl
  | p :: r, a => by simp [starts, starts_len r]
theorem bars_len : ∀ (rs : List (Int × Int)) (a : Int), (bars rs a).length = rs.length
  | [], _ => rfl
  | p :: r, a => by simp [bars, bars_len r]
/-- what is in the set is at least 0 -/
theorem topA_ge : ∀ {rs : List (Int × Int)} {a : Int}, Pos rs → a ≤ topA rs a
  | [], a, _ => Int.le_refl _
  | p :: r, a, h => by
    obtain ⟨h1, h2⟩ := h p (List.mem_cons_self ..)
    have := Int.mul_pos h1 h2
    have := topA_ge (rs := r) (a := a + p.1 * p.2) fun q hq => h q (List.mem_cons_of_mem _ hq)
    show a ≤ topA r (a + p.1 * p.2)
    omega
theorem starts_ge : ∀ {rs : List (Int × Int)} {a : Int}, Pos rs → ∀ n, n ∈ starts rs a → a < n
  | [], a, _, n, hn => nomatch hn
  | p :: r, a, h, n, hn => by
    obtain ⟨h1, h2⟩ := h p (List.mem_cons_self ..)
    have := Int.mul_pos h1 h2
    rcases List.mem_cons.mp hn with rfl | hn
    · omega
    · have := starts_ge (fun q hq => h q (List.mem_cons_of_mem _ hq)) n hn
      omega
theorem founds_pos {rs : List (Int × Int)} {e : Int} (h : Pos rs) : ∀ n, n ∈ founds rs e → 0 < n := fun n hn => by
  unfold founds at hn
  rcases List.mem_append.mp hn with hn | hn
  · exact starts_ge h n hn
  · split at hn
    · rw [List.mem_singleton] at hn
      have := topA_ge (a := 0) h
      omega
    · cases hn
/-- a number that others do not lead to is the first of its run -/
theorem lone {e : Int} {P : Int → Prop} (hP : Cl P) {d : Int} : ∀ {rs : List (Int × Int)} {a : Int}, FR rs e → P a → a ≤ d → inR rs e (d - a) = true → (∀ n, a ≤ n → n < d → inR rs e (n - a) = true → P n) → ¬ P d → d ∈ starts rs a ++ (if 0 < e then [topA rs a + e] else [])
  | [], a, h, pa, had, hd, hl, hn => by
    have e0 := h.e0
    unfold inR at hd
    have key : ∀ j : Int, d - a = e * j → 0 < e → d = a + e := fun j hj ep => by
      have j1 : ¬ j ≤ 0 := fun z => by
        have : e * j ≤ 0 := Int.mul_nonpos_of_nonneg_of_nonpos (by omega) z
        have : d = a := by omega
        exact hn (this ▸ pa)
      have j2 : ¬ 2 ≤ j := fun z => by
        have h2 : e * 2 ≤ e * j := Int.mul_le_mul_of_nonneg_left z (by omega)
        have inn : ∀ k : Int, inR [] e (e * k) = true := fun k => by
          unfold inR
          rw [if_neg (by omega)]
          simp
        have p1 := hl (d - e) (by omega) (by omega) (by rw [show d - e - a = e * (j - 1) by rw [Int.mul_sub]; omega]; exact inn _)
        have p2 := hl (d - e - e) (by omega) (by omega) (by rw [show d - e - e - a = e * (j - 2) by rw [Int.mul_sub]; omega]; exact inn _)
        have := hP.c _ _ _ p1 p1 p2 (by omega) (by omega)
        rw [show d - e + (d - e) - (d - e - e) = d by omega] at this
        exact hn this
      have : j = 1 := by omega
      subst this
      omega
    by_cases z : e = 0
    · rw [if_pos z, beq_iff_eq] at hd
      have : d = a := by omega
      exact absurd (this ▸ pa) hn
    · rw [if_neg z, beq_iff_eq] at hd
      obtain ⟨j, hj⟩ := Int.dvd_of_emod_eq_zero hd
      rw [if_pos (show 0 < e by omega)]
      exact List.mem_append_right _ (by rw [List.mem_singleton]; exact key j hj (by omega))
  | p :: r, a, h, pa, had, hd, hl, hn => by
    obtain ⟨g1, g2⟩ := h.pos p (List.mem_cons_self ..)
    have T0 := Int.mul_pos g1 g2
    rcases Int.lt_or_le (p.1 * p.2) (d - a) with hgt | hle
    · refine List.mem_cons_of_mem _ (lone hP (rs := r) (a := a + p.1 * p.2) h.tail ?_ (by omega) ?_ (fun n h1 h2 h3 => ?_) hn)
      · refine hl _ (by omega) (by omega) ?_
        rw [show a + p.1 * p.2 - a = p.1 * p.2 by omega, inR_le2 h.pos (Int.le_refl _)]
        simp
      · unfold inR at hd
        rw [if_neg (by omega)] at hd
        rw [show d - (a + p.1 * p.2) = d - a - p.1 * p.2 by omega]
        exact hd
      · refine hl n (by omega) h2 ?_
        rcases Int.lt_or_le (p.1 * p.2) (n - a) with z | z
        · unfold inR
          rw [if_neg (by omega), show n - a - p.1 * p.2 = n - (a + p.1 * p.2) by omega]
          exact h3
        · rw [show n - a = p.1 * p.2 by omega, inR_le2 h.pos (Int.le_refl _)]
          simp
    · rw [inR_le2 h.pos hle, beq_iff_eq] at hd
      obtain ⟨j, hj⟩ := Int.dvd_of_emod_eq_zero hd
      have j1 : ¬ j ≤ 0 := fun z => by
        have : p.1 * j ≤ 0 := Int.mul_nonpos_of_nonneg_of_nonpos (by omega) z
        have : d = a := by omega
        exact hn (this ▸ pa)
      have j2 : ¬ 2 ≤ j := fun z => by
        have h2 : p.1 * 2 ≤ p.1 * j := Int.mul_le_mul_of_nonneg_left z (by omega)
        have inn : ∀ k : Int, p.1 * k ≤ p.1 * p.2 → inR (p :: r) e (p.1 * k) = true := fun k hk => by
          rw [inR_le2 h.pos hk]
          simp
        have p1 := hl (d - p.1) (by omega) (by omega) (by rw [show d - p.1 - a = p.1 * (j - 1) by rw [Int.mul_sub]; omega]; exact inn _ (by rw [Int.mul_sub]; omega))
        have p2 := hl (d - p.1 - p.1) (by omega) (by omega) (by rw [show d - p.1 - p.1 - a = p.1 * (j - 2) by rw [Int.mul_sub]; omega]; exact inn _ (by rw [Int.mul_sub]; omega))
        have := hP.c _ _ _ p1 p1 p2 (by omega) (by omega)
        rw [show d - p.1 + (d - p.1) - (d - p.1 - p.1) = d by omega] at this
        exact hn this
      have : j = 1 := by omega
      subst this
      have : d = a + p.1 := by omega
      rw [this]
      exact List.mem_cons_self ..
/-- what stands behind a run comes of lesser ones -/
theorem bars_of {e : Int} : ∀ {rs : List (Int × Int)} {a b : Int}, FR rs e → b ∈ bars rs a → ∃ g s, 0 < s ∧ b = g + s ∧ a ≤ g - s ∧ inR rs e (g - a) = true ∧ inR rs e (g - s - a) = true
  | [], a, b, _, hb => nomatch hb
  | p :: r, a, b, h, hb => by
    obtain ⟨g1, g2⟩ := h.pos p (List.mem_cons_self ..)
    have T0 := Int.mul_pos g1 g2
    have T1 : p.1 * 1 ≤ p.1 * p.2 := Int.mul_le_mul_of_nonneg_left (by omega) (by omega)
    rcases List.mem_cons.mp hb with rfl | hb
    · refine ⟨a + p.1 * p.2, p.1, g1, rfl, by omega, ?_, ?_⟩
      · rw [show a + p.1 * p.2 - a = p.1 * p.2 by omega, inR_le2 h.pos (Int.le_refl _)]
        simp
      · rw [show a + p.1 * p.2 - p.1 - a = p.1 * (p.2 - 1) by rw [Int.mul_sub]; omega, inR_le2 h.pos (by rw [Int.mul_sub]; omega)]
        simp
    · obtain ⟨g, s, h1, h2, h3, h4, h5⟩ := bars_of h.tail hb
      have up : ∀ n, a + p.1 * p.2 ≤ n → inR r e (n - (a + p.1 * p.2)) = true → inR (p :: r) e (n - a) = true := fun n hn hi => by
        unfold inR
        rw [if_neg (by omega), show n - a - p.1 * p.2 = n - (a + p.1 * p.2) by omega]
        exact hi
      exact ⟨g, s, h1, h2, by omega, up g (by omega) h4, up (g - s) h3 h5⟩
/-- the least number at which two sets part -/
structure Least (r1 : List (Int × Int)) (e1 : Int) (r2 : List (Int × Int)) (e2 d : Int) : Prop where
  nn : 0 ≤ d
  df : inR r1 e1 d ≠ inR r2 e2 d
  le : ∀ n, 0 ≤ n → n < d → inR r1 e1 n = inR r2 e2 n
theorem least_nat (f : Nat → Bool) : ∀ n : Nat, f n = true → ∃ d, f d = true ∧ ∀ k, k < d → f k = false := fun n => by
  induction n using Nat.strongRecOn with
  | _ n ih =>
    intro hn
    by_cases h : ∃ k, k < n ∧ f k = true
    · obtain ⟨k, h1, h2⟩ := h
      exact ih k h1 h2
    · refine ⟨n, hn, fun k hk => ?_⟩
      cases hf : f k with
      | false => rfl
      | true => exact absurd ⟨k, hk, hf⟩ h
theorem least_of {r1 r2 : List (Int × Int)} {e1 e2 : Int} (h1 : FR r1 e1) (h2 : FR r2 e2) (hne : ¬ (r1 = r2 ∧ e1 = e2)) : ∃ d, Least r1 e1 r2 e2 d := by
  by_cases h : ∃ n : Nat, (inR r1 e1 (n : Int) != inR r2 e2 (n : Int)) = true
  · obtain ⟨n, hn⟩ := h
    obtain ⟨d, hd, hk⟩ := least_nat (fun n => inR r1 e1 (n : Int) != inR r2 e2 (n : Int)) n hn
    refine ⟨d, by omega, by simpa using hd, fun n n0 hn => ?_⟩
    have := hk n.toNat (by omega)
    rw [show ((n.toNat : Nat) : Int) = n by omega] at this
    simpa using this
  · refine absurd (rows_one h1 h2 fun n hn => ?_) hne
    have := fun q => h ⟨n.toNat, q⟩
    rw [show ((n.toNat : Nat) : Int) = n by omega] at this
    simpa using this
theorem least_in {r1 r2 : List (Int × Int)} {e1 e2 d : Int} (h1 : FR r1 e1) (h2 : FR r2 e2) (hd : Least r1 e1 r2 e2 d) (hi : inR r1 e1 d = true) : d ∈ tell r1 e1 := by
  have hno : ¬ inZ r2 e2 d := fun z => hd.df (by rw [hi, z.2])
  have hP := clR h2
  have lo : ∀ n, 0 ≤ n → n < d → inR r1 e1 n = true → inZ r2 e2 n := fun n h0 hn hi => ⟨h0, by rw [← hd.le n h0 hn]; exact hi⟩
  unfold tell
  refine List.mem_filter.mpr ⟨?_, ?_⟩
  · exact lone hP h1 hP.z hd.nn (by rw [Int.sub_zero]; exact hi) (fun n h0 hn hi => lo n h0 hn (by rw [Int.sub_zero] at hi; exact hi)) hno
  · rw [Bool.not_eq_true']
    rw [← Bool.not_eq_true]
    intro hb
    obtain ⟨g, s, k1, k2, k3, k4, k5⟩ := bars_of h1 (List.contains_iff_mem.mp hb)
    rw [Int.sub_zero] at k4 k5
    have p1 := lo g (by omega) (by omega) k4
    have p2 := lo (g - s) k3 (by omega) k5
    have := hP.c _ _ _ p1 p1 p2 (by omega) (by omega)
    rw [show g + g - (g - s) = d by omega] at this
    exact hno this
theorem least_in2 {r1 r2 : List (Int × Int)} {e1 e2 d : Int} (h1 : FR r1 e1) (h2 : FR r2 e2) (hd : Least r1 e1 r2 e2 d) : d ∈ tell r1 e1 ∨ d ∈ tell r2 e2 := by
  cases hi : inR r1 e1 d with
  | true => exact .inl (least_in h1 h2 hd hi)
  | false =>
    refine .inr (least_in h2 h1 ⟨hd.nn, fun z => hd.df z.symm, fun n h0 hn => (hd.le n h0 hn).symm⟩ ?_)
    cases hj : inR r2 e2 d with
    | true => rfl
    | false => exact absurd (by rw [hi, hj]) hd.df
/-- the first of a rising list that keeps is the least -/
theorem first_least {f : Int → Bool} {d : Int} : ∀ {l : List Int}, l.Pairwise (· ≤ ·) → d ∈ l → f d = true → (∀ k, k ∈ l → f k = true → d ≤ k) → ∃ r, l.filter f = d :: r
  | [], _, h, _, _ => nomatch h
  | x :: l, pw, hd, hf, hk => by
    obtain ⟨p1, p2⟩ := List.pairwise_cons.mp pw
    rw [List.filter_cons]
    cases hx : f x with
    | true =>
      have h1 := hk x (List.mem_cons_self ..) hx
      have : x = d := by
        rcases List.mem_cons.mp hd with h | h
        · exact h.symm
        · have := p1 d h
          omega
      rw [if_pos rfl, this]
      exact ⟨_, rfl⟩
    | false =>
      rw [if_neg Bool.false_ne_true]
      refine first_least p2 ?_ hf fun k h => hk k (List.mem_cons_of_mem _ h)
      rcases List.mem_cons.mp hd with h | h
      · rw [h, hx] at hf
        cases hf
      · exact h
theorem mem_insI (x k : Int) : ∀ l : List Int, k ∈ insI x l ↔ k = x ∨ k ∈ l
  | [] => by simp [insI]
  | y :: r => by
    unfold insI
    split
    · simp
    · simp only [List.mem_cons, mem_insI x k r]
      constructor
      · rintro (h | h | h)
        · exact .inr (.inl h)
        · exact .inl h
        · exact .inr (.inr h)
      · rintro (h | h | h)
        · exact .inr (.inl h)
        · exact .inl h
        · exact .inr (.inr h)
theorem mem_sortI (k : Int) : ∀ l : List Int, k ∈ sortI l ↔ k ∈ l
  | [] => by simp [sortI]
  | x :: r => by rw [sortI, mem_insI, mem_sortI k r, List.mem_cons]
theorem pw_insI (x : Int) : ∀ l : List Int, l.Pairwise (· ≤ ·) → (insI x l).Pairwise (· ≤ ·)
  | [], _ => by simp [insI]
  | y :: r, h => by
    have h' := List.pairwise_cons.mp h
    unfold insI
    split
    · rename_i hx
      refine List.pairwise_cons.mpr ⟨fun z hz => ?_, h⟩
      rcases List.mem_cons.mp hz with e | e
      · rw [e]; exact hx
      · have := h'.1 z e; omega
    · refine List.pairwise_cons.mpr ⟨fun z hz => ?_, pw_insI x r h'.2⟩
      rcases (mem_insI x z r).mp hz with e | e
      · omega
      · exact h'.1 z e
theorem pw_sortI : ∀ l : List Int, (sortI l).Pairwise (· ≤ ·)
  | [] => List.Pairwise.nil
  | x :: r => pw_insI x _ (pw_sortI r)
theorem len_insI (x : Int) : ∀ l : List Int, (insI x l).length = l.length + 1
  | [] => by simp [insI]
  | y :: r => by
    unfold insI
    split
    · simp
    · simp [len_insI x r]
theorem len_sortI : ∀ l : List Int, (sortI l).length = l.length
  | [] => rfl
  | x :: r => by rw [sortI, len_insI, len_sortI r, List.length_cons]
/-! the runs' sum is not great -/
theorem topA_add : ∀ (rs : List (Int × Int)) (a : Int), topA rs a = a + topA rs 0
  | [], a => by simp [topA]
  | p :: r, a => by
    show topA r (a + p.1 * p.2) = a + topA r (0 + p.1 * p.2)
    rw [topA_add r (a + p.1 * p.2), topA_add r (0 + p.1 * p.2)]
    omega
theorem Euc.top {l : List Int} {m e : Int} {rs : List (Int × Int)} (h : Euc l m rs e) : ∀ M, (∀ x, x ∈ l → x ≤ M) → topA rs 0 + e ≤ M + 2 * m := by
  induction h with
  | @done l m a d =>
    intro M hM
    have := hM m a.mem
    have := a.pos
    show 0 + m ≤ M + 2 * m
    omega
  | @more l m t l' m' rs e a u k ih =>
    intro M hM
    have mp := a.pos
    have tp := u.t_pos a
    have lt := u.lt a k.lst
    obtain ⟨x, hx, h1, h2⟩ := u.ex
    have e1 : m * t + x % m = x := by rw [← h2]; exact Int.mul_ediv_add_emod x m
    have hm : x - m * t ∈ l' := (u.new _).mpr (.inr ⟨x, hx, by omega, rfl⟩)
    have h3 := k.lst.le _ hm
    have h4 := hM x hx
    show topA rs (0 + m * t) + e ≤ M + 2 * m
    rw [topA_add]
    rcases Int.lt_or_le (M - m * t) m with z | z
    · have := ih m fun y hy => by
        rcases (u.new y).mp hy with rfl | ⟨w, hw, h5, rfl⟩
        · exact Int.le_refl _
        · have := hM w hw
          omega
      omega
    · have := ih (M - m * t) fun y hy => by
        rcases (u.new y).mp hy with rfl | ⟨w, hw, h5, rfl⟩
        · omega
        · have := hM w hw
          omega
      omega
theorem EuR.top {ns : List Int} {rs : List (Int × Int)} {e M : Int} (h : EuR ns rs e) (M0 : 0 ≤ M) (hM : ∀ x, x ∈ ns → x ≤ M) : topA rs 0 + e ≤ 3 * M := by
  rcases h with ⟨rfl, rfl, _⟩ | ⟨l, m, hl, h⟩
  · show (0 : Int) + 0 ≤ 3 * M
    omega
  · have h1 : ∀ x, x ∈ l → x ≤ M := fun x hx => hM x ((hl x).mp hx).1
    have := h.top M h1
    have := h1 m h.lst.mem
    omega
end Fy.Pu
set_option Elab.async false
set_option linter.all false
set_option maxRecDepth 100000
set_option maxHeartbeats 4000000
/-! FyAB: tellers come of no lesser ones; rising lists; what lesser ones lead to. -/
namespace Fy.Pu
open PySem (Str)
theorem lone_tell {rs : List (Int × Int)} {e d : Int} {P : Int → Prop} (hP : Cl P) (h1 : FR rs e) (nn : 0 ≤ d) (hi : inR rs e d = true) (lo : ∀ n, 0 ≤ n → n < d → inR rs e n = true → P n) (hno : ¬ P d) : d ∈ tell rs e := by
  unfold tell
  refine List.mem_filter.mpr ⟨?_, ?_⟩
  · exact lone hP h1 hP.z nn (by rw [Int.sub_zero]; exact hi) (fun n h0 hn hi => lo n h0 hn (by rw [Int.sub_zero] at hi; exact hi)) hno
  · rw [Bool.not_eq_true', ← Bool.not_eq_true]
    intro hb
    obtain ⟨g, s, k1, k2, k3, k4, k5⟩ := bars_of h1 (List.contains_iff_mem.mp hb)
    rw [Int.sub_zero] at k4 k5
    have p1 := lo g (by omega) (by omega) k4
    have p2 := lo (g - s) k3 (by omega) k5
    have := hP.c _ _ _ p1 p1 p2 (by omega) (by omega)
    rw [show g + g - (g - s) = d by omega] at this
    exact hno this
/-- two equal steps between neighbours lead to no first number, or to what is barred -/
theorem two_steps {e : Int} : ∀ {rs : List (Int × Int)} {a z s : Int}, FR rs e → a ≤ z → 0 < s → inR rs e (z - a) = true → inR rs e (z + s - a) = true → (∀ t, 0 < t → t < s → inR rs e (z + t - a) = false) →
    z + s + s ∈ starts rs a ++ (if 0 < e then [topA rs a + e] else []) → z + s + s ∈ bars rs a
  | [], a, z, s, h, haz, s0, h1, h2, h3, hm => by
    exfalso
    have e0 := h.e0
    rw [show starts [] a = [] from rfl, List.nil_append] at hm
    split at hm
    · rename_i ep
      rw [List.mem_singleton] at hm
      have hm' : z + s + s = a + e := hm
      unfold inR at h1 h2
      rw [if_neg (by omega), beq_iff_eq] at h1 h2
      obtain ⟨i, hi⟩ := Int.dvd_of_emod_eq_zero h1
      obtain ⟨j, hj⟩ := Int.dvd_of_emod_eq_zero h2
      have i0 : 0 ≤ i := by
        rcases Int.lt_or_le i 0 with q | q
        · have := Int.mul_neg_of_pos_of_neg ep q
          omega
        · exact q
      have : i < j := by
        rcases Int.lt_or_le i j with q | q
        · exact q
        · have := Int.mul_le_mul_of_nonneg_left q (show (0 : Int) ≤ e by omega)
          omega
      have h4 : e * (i + 1) ≤ e * j := Int.mul_le_mul_of_nonneg_left (by omega) (by omega)
      rw [Int.mul_add, Int.mul_one] at h4
      have h5 : 0 ≤ e * i := Int.mul_nonneg (by omega) i0
      omega
    · cases hm
  | p :: r, a, z, s, h, haz, s0, h1, h2, h3, hm => by
    obtain ⟨g1, g2⟩ := h.pos p (List.mem_cons_self ..)
    have T0 := Int.mul_pos g1 g2
    have T1 : p.1 * 1 ≤ p.1 * p.2 := Int.mul_le_mul_of_nonneg_left (by omega) (by omega)
    have hr : Pos r := h.tail.pos
    rcases Int.lt_or_le (z - a) (p.1 * p.2) with hlt | hge
    · rw [inR_le2 h.pos (by omega), beq_iff_eq] at h1
      obtain ⟨i, hi⟩ := Int.dvd_of_emod_eq_zero h1
      have i0 : 0 ≤ i := by
        rcases Int.lt_or_le i 0 with q | q
        · have := Int.mul_neg_of_pos_of_neg g1 q
          omega
        · exact q
      have i1 : i < p.2 := by
        rcases Int.lt_or_le i p.2 with q | q
        · exact q
        · have := Int.mul_le_mul_of_nonneg_left q (show (0 : Int) ≤ p.1 by omega)
          omega
      have nxt : z - a + p.1 ≤ p.1 * p.2 := by
        have := Int.mul_le_mul_of_nonneg_left (show i + 1 ≤ p.2 by omega) (show (0 : Int) ≤ p.1 by omega)
        rw [Int.mul_add, Int.mul_one] at this
        omega
      have hin : inR (p :: r) e (z + p.1 - a) = true := by
        rw [inR_le2 h.pos (by omega), beq_iff_eq, show z + p.1 - a = p.1 * (i + 1) by rw [Int.mul_add, Int.mul_one]; omega]
        exact Int.mul_emod_right ..
      have hs : s ≤ p.1 := by
        rcases Int.lt_or_le p.1 s with q | q
        · have := h3 p.1 g1 q
          rw [hin] at this
          cases this
        · exact q
      have hs2 : s = p.1 := by
        rw [inR_le2 h.pos (by omega), beq_iff_eq] at h2
        obtain ⟨j, hj⟩ := Int.dvd_of_emod_eq_zero h2
        have : i < j := by
          rcases Int.lt_or_le i j with q | q
          · exact q
          · have := Int.mul_le_mul_of_nonneg_left q (show (0 : Int) ≤ p.1 by omega)
            omega
        have h4 : p.1 * (i + 1) ≤ p.1 * j := Int.mul_le_mul_of_nonneg_left (by omega) (by omega)
        rw [Int.mul_add, Int.mul_one] at h4
        omega
      subst hs2
      rcases Int.lt_or_le (z - a + p.1) (p.1 * p.2) with q | q
      · exfalso
        have le : z + p.1 + p.1 - a ≤ p.1 * p.2 := by
          have i2 : i + 1 < p.2 := by
            rcases Int.lt_or_le (i + 1) p.2 with w | w
            · exact w
            · have := Int.mul_le_mul_of_nonneg_left w (show (0 : Int) ≤ p.1 by omega)
              rw [Int.mul_add, Int.mul_one] at this
              omega
          have := Int.mul_le_mul_of_nonneg_left (show i + 2 ≤ p.2 by omega) (show (0 : Int) ≤ p.1 by omega)
          rw [Int.mul_add] at this
          omega
        have h5 : 0 ≤ p.1 * i := Int.mul_nonneg (by omega) i0
        rcases List.mem_append.mp hm with hm | hm
        · rcases List.mem_cons.mp hm with hm | hm
          · omega
          · have := starts_ge hr _ hm
            omega
        · split at hm
          · rw [List.mem_singleton] at hm
            have hm' : z + p.1 + p.1 = topA r (a + p.1 * p.2) + e := hm
            have := topA_ge (rs := r) (a := a + p.1 * p.2) hr
            omega
          · cases hm
      · have : z + p.1 + p.1 = a + p.1 * p.2 + p.1 := by omega
        rw [this]
        exact List.mem_cons_self ..
    · have dn : ∀ m, a + p.1 * p.2 ≤ m → inR (p :: r) e (m - a) = inR r e (m - (a + p.1 * p.2)) := fun m hm => by
        show (if m - a < p.1 * p.2 then _ else _) = _
        rw [if_neg (by omega), show m - a - p.1 * p.2 = m - (a + p.1 * p.2) by omega]
      refine List.mem_cons_of_mem _ (two_steps (a := a + p.1 * p.2) h.tail (by omega) s0 (by rw [← dn z (by omega)]; exact h1) (by rw [← dn (z + s) (by omega)]; exact h2) (fun t t0 t1 => by rw [← dn (z + t) (by omega)]; exact h3 t t0 t1) ?_)
      rcases List.mem_append.mp hm with hm | hm
      · rcases List.mem_cons.mp hm with hm | hm
        · omega
        · exact List.mem_append_left _ hm
      · exact List.mem_append_right _ hm
/-- a teller is no x + y - z of lesser ones -/
theorem tell_lone {rs : List (Int × Int)} {e n : Int} (h : FR rs e) (hn : n ∈ tell rs e) : ∀ x y z, inZ rs e x → inZ rs e y → inZ rs e z → z ≤ x → z ≤ y → x < n → y < n → x + y - z ≠ n := by
  have hc := clR h
  have hf := List.mem_filter.mp hn
  have key : ∀ (k : Nat) x y z, (n - z).toNat ≤ k → inZ rs e x → inZ rs e y → inZ rs e z → z ≤ x → z ≤ y → x < n → y < n → x + y - z = n → False := by
    intro k
    induction k with
    | zero =>
      intro x y z hk _ _ _ _ _ _ _ _
      omega
    | succ k ih =>
      intro x y z hk hx hy hz h1 h2 h3 h4 h5
      -- the next number behind z
      have ex : inR rs e (z + ((x - z).toNat : Nat)) = true := by
        rw [show z + ((x - z).toNat : Nat) = x by omega]
        exact hx.2
      obtain ⟨s, hs, hlt⟩ := least_nat (fun t => inR rs e (z + (t : Int)) && decide (0 < t)) (x - z).toNat (by
        rw [ex, decide_eq_true (by omega)]
        rfl)
      rw [Bool.and_eq_true, decide_eq_true_eq] at hs
      have sx : (s : Int) ≤ x - z := by
        rcases Nat.lt_or_ge (x - z).toNat s with q | q
        · have := hlt _ q
          rw [ex, decide_eq_true (by omega)] at this
          cases this
        · omega
      have sy : (s : Int) ≤ y - z := by
        rcases Nat.lt_or_ge (y - z).toNat s with q | q
        · have := hlt _ q
          rw [show z + ((y - z).toNat : Nat) = y by omega, hy.2, decide_eq_true (by omega)] at this
          cases this
        · omega
      have z0 := hz.1
      have hs1 : inZ rs e (z + s) := ⟨by omega, hs.1⟩
      rcases Int.lt_or_le (z + s) x with q | q
      · have hy2 := hc.c _ _ _ hy hs1 hz h2 (by omega)
        exact ih x (y + (z + s) - z) (z + s) (by omega) hx hy2 hs1 (by omega) (by omega) h3 (by omega) (by omega)
      · rcases Int.lt_or_le (z + s) y with w | w
        · have hx2 := hc.c _ _ _ hx hs1 hz h1 (by omega)
          exact ih (x + (z + s) - z) y (z + s) (by omega) hx2 hy hs1 (by omega) (by omega) (by omega) h4 (by omega)
        · have en : n = z + s + s := by omega
          have hb := two_steps (a := 0) (z := z) (s := s) h z0 (by omega) (by rw [Int.sub_zero]; exact hz.2) (by rw [Int.sub_zero]; exact hs.1) (fun t t0 t1 => by
            have := hlt t.toNat (by omega)
            rw [decide_eq_true (show 0 < t.toNat by omega), Bool.and_true] at this
            rw [Int.sub_zero, show z + t = z + (t.toNat : Nat) by omega]
            exact this) (by rw [← en]; exact hf.1)
          rw [← en] at hb
          have h6 := hf.2
          rw [List.contains_iff_mem.mpr hb] at h6
          cases h6
  intro x y z hx hy hz h1 h2 h3 h4 h5
  exact key _ x y z (Nat.le_refl _) hx hy hz h1 h2 h3 h4 h5
theorem founds_in {rs : List (Int × Int)} {e : Int} (h : FR rs e) : ∀ n, n ∈ founds rs e → inR rs e n = true := by
  have st : ∀ {r : List (Int × Int)} {a n : Int}, FR r e → n ∈ starts r a ++ (if 0 < e then [topA r a + e] else []) → a ≤ n ∧ inR r e (n - a) = true := by
    intro r
    induction r with
    | nil =>
      intro a n hf hn
      rw [show starts [] a = [] from rfl, List.nil_append] at hn
      split at hn
      · rename_i ep
        rw [List.mem_singleton] at hn
        have hn' : n = a + e := hn
        refine ⟨by omega, ?_⟩
        rw [hn', show a + e - a = e by omega]
        unfold inR
        rw [if_neg (by omega), Int.emod_self]
        rfl
      · cases hn
    | cons p r ih =>
      intro a n hf hn
      obtain ⟨g1, g2⟩ := hf.pos p (List.mem_cons_self ..)
      have T0 := Int.mul_pos g1 g2
      have T1 : p.1 * 1 ≤ p.1 * p.2 := Int.mul_le_mul_of_nonneg_left (by omega) (by omega)
      have rest : n ∈ starts r (a + p.1 * p.2) ++ (if 0 < e then [topA r (a + p.1 * p.2) + e] else []) → a ≤ n ∧ inR (p :: r) e (n - a) = true := fun hm => by
        obtain ⟨k1, k2⟩ := ih hf.tail hm
        refine ⟨by omega, ?_⟩
        show (if n - a < p.1 * p.2 then _ else _) = true
        rw [if_neg (by omega), show n - a - p.1 * p.2 = n - (a + p.1 * p.2) by omega]
        exact k2
      rcases List.mem_append.mp hn with hn | hn
      · rcases List.mem_cons.mp hn with rfl | hn
        · refine ⟨by omega, ?_⟩
          rw [show a + p.1 - a = p.1 by omega, inR_le2 hf.pos (by omega), Int.emod_self]
          rfl
        · exact rest (List.mem_append_left _ hn)
      · exact rest (List.mem_append_right _ hn)
  intro n hn
  have := (st h hn).2
  rw [Int.sub_zero] at this
  exact this
/-- tellers lead to the set; each stands among all that do -/
theorem tell_clo {rs : List (Int × Int)} {e : Int} (h : FR rs e) : CloR (tell rs e) rs e where
  fr := h
  has := fun x hx _ => founds_in h x (List.mem_filter.mp hx).1
  least := fun {P} hP hp n hn => by
    have key : ∀ (k : Nat) n, n.toNat ≤ k → inZ rs e n → P n := by
      intro k
      induction k using Nat.strongRecOn with
      | _ k ih =>
        intro n hk hn
        refine Classical.byContradiction fun hno => ?_
        have hm := lone_tell hP h hn.1 hn.2 (fun m m0 hm hi => ih m.toNat (by have := hn.1; omega) m (Nat.le_refl _) ⟨m0, hi⟩) hno
        exact hno (hp n hm (founds_pos h.pos n (List.mem_filter.mp hm).1))
    exact key _ n (Nat.le_refl _) hn
theorem tell_gen {ns : List Int} {rs : List (Int × Int)} {e : Int} (h : CloR ns rs e) : ∀ n, n ∈ tell rs e → n ∈ ns := fun n hn => by
  refine Classical.byContradiction fun hno => ?_
  have hf := h.fr
  have hc := clR hf
  have n0 := founds_pos hf.pos n (List.mem_filter.mp hn).1
  have hin := founds_in hf n (List.mem_filter.mp hn).1
  have hP : Cl fun m => inZ rs e m ∧ m ≠ n := ⟨⟨hc.z, by omega⟩, fun x y z hx hy hz h1 h2 => ⟨hc.c _ _ _ hx.1 hy.1 hz.1 h1 h2, fun q => tell_lone hf hn x y z hx.1 hy.1 hz.1 h1 h2 (by have := hx.2; omega) (by have := hy.2; omega) q⟩⟩
  exact (h.least hP (fun x hx x0 => ⟨⟨by omega, h.has x hx (by omega)⟩, fun q => hno (q ▸ hx)⟩) n ⟨by omega, hin⟩).2 rfl
/-! rising lists -/
theorem starts_pw : ∀ {rs : List (Int × Int)} {a : Int}, Pos rs → (starts rs a).Pairwise (· < ·)
  | [], _, _ => List.Pairwise.nil
  | p :: r, a, h => by
    obtain ⟨h1, h2⟩ := h p (List.mem_cons_self ..)
    have hr : Pos r := fun q hq => h q (List.mem_cons_of_mem _ hq)
    have T1 : p.1 * 1 ≤ p.1 * p.2 := Int.mul_le_mul_of_nonneg_left (by omega) (by omega)
    refine List.pairwise_cons.mpr ⟨fun n hn => ?_, starts_pw hr⟩
    have := starts_ge hr n hn
    omega
theorem starts_le2 : ∀ {rs : List (Int × Int)} {a : Int}, Pos rs → ∀ n, n ∈ starts rs a → n ≤ topA rs a
  | [], a, _, n, hn => nomatch hn
  | p :: r, a, h, n, hn => by
    obtain ⟨h1, h2⟩ := h p (List.mem_cons_self ..)
    have hr : Pos r := fun q hq => h q (List.mem_cons_of_mem _ hq)
    have h3 : p.1 * 1 ≤ p.1 * p.2 := Int.mul_le_mul_of_nonneg_left (by omega) (by omega)
    have h4 := topA_ge (rs := r) (a := a + p.1 * p.2) hr
    show n ≤ topA r (a + p.1 * p.2)
    rcases List.mem_cons.mp hn with rfl | hn
    · omega
    · exact starts_le2 hr n hn
theorem tell_pw {rs : List (Int × Int)} {e : Int} (h : Pos rs) : (tell rs e).Pairwise (· < ·) := by
  unfold tell
  refine List.Pairwise.filter _ ?_
  unfold founds
  refine List.pairwise_append.mpr ⟨starts_pw h, ?_, fun x hx y hy => ?_⟩
  · split
    · simp
    · exact List.Pairwise.nil
  · split at hy
    · rw [List.mem_singleton] at hy
      have := starts_le2 h x hx
      omega
    · cases hy
theorem tell_top {rs : List (Int × Int)} {e : Int} (h : FR rs e) : ∀ n, n ∈ tell rs e → n ≤ topA rs 0 + e := fun n hn => by
  have hf := (List.mem_filter.mp hn).1
  have e0 := h.e0
  unfold founds at hf
  rcases List.mem_append.mp hf with hf | hf
  · have := starts_le2 h.pos n hf
    omega
  · split at hf
    · rw [List.mem_singleton] at hf
      omega
    · cases hf
theorem rise_eq : ∀ {a b : List Int}, a.Pairwise (· < ·) → b.Pairwise (· < ·) → (∀ x, x ∈ a ↔ x ∈ b) → a = b
  | [], [], _, _, _ => rfl
  | [], y :: b, _, _, h => nomatch (h y).mpr (List.mem_cons_self ..)
  | x :: a, [], _, _, h => nomatch (h x).mp (List.mem_cons_self ..)
  | x :: a, y :: b, ha, hb, h => by
    obtain ⟨a1, a2⟩ := List.pairwise_cons.mp ha
    obtain ⟨b1, b2⟩ := List.pairwise_cons.mp hb
    have e : x = y := by
      have m1 := (h x).mp (List.mem_cons_self ..)
      have m2 := (h y).mpr (List.mem_cons_self ..)
      rcases List.mem_cons.mp m1 with q | q
      · exact q
      · rcases List.mem_cons.mp m2 with w | w
        · exact w.symm
        · have := b1 x q
          have := a1 y w
          omega
    subst e
    rw [rise_eq a2 b2 fun z => ?_]
    constructor
    · intro hz
      rcases List.mem_cons.mp ((h z).mp (List.mem_cons_of_mem _ hz)) with q | q
      · have := a1 z hz
        omega
      · exact q
    · intro hz
      rcases List.mem_cons.mp ((h z).mpr (List.mem_cons_of_mem _ hz)) with q | q
      · have := b1 z hz
        omega
      · exact q
theorem sortU_rise {l : List Int} : (l = sortU l) ↔ l.Pairwise (· < ·) := by
  constructor
  · intro h
    rw [h]
    exact pw_sortU l
  · intro h
    exact rise_eq h (pw_sortU l) fun x => (mem_sortU x l).symm
/-! whether lesser ones lead to a number -/
def cmB (all : List Int) (n : Int) : List Int → Bool
  | [] => false
  | x :: r => !((x :: r).filter fun y => (decide (0 ≤ x + y - n) && decide (x + y - n ≤ x)) && all.contains (x + y - n)).isEmpty || cmB all n r
theorem cmB_iff {all : List Int} {n : Int} : ∀ {l : List Int}, cmB all n l = true ↔ ∃ l1 x l2 y, l = l1 ++ x :: l2 ∧ y ∈ x :: l2 ∧ 0 ≤ x + y - n ∧ x + y - n ≤ x ∧ x + y - n ∈ all
  | [] => by
    constructor
    · intro h; cases h
    · rintro ⟨l1, x, l2, y, h, _⟩
      cases l1 <;> cases h
  | x :: r => by
    unfold cmB
    rw [Bool.or_eq_true, cmB_iff (l := r)]
    constructor
    · rintro (h | ⟨l1, x', l2, y, rfl, h⟩)
      · rw [Bool.not_eq_true', List.isEmpty_eq_false_iff_exists_mem] at h
        obtain ⟨y, hy⟩ := h
        obtain ⟨h1, h2⟩ := List.mem_filter.mp hy
        rw [Bool.and_eq_true, Bool.and_eq_true, decide_eq_true_eq, decide_eq_true_eq] at h2
        exact ⟨[], x, r, y, rfl, h1, h2.1.1, h2.1.2, List.contains_iff_mem.mp h2.2⟩
      · exact ⟨x :: l1, x', l2, y, rfl, h⟩
    · rintro ⟨l1, x', l2, y, he, h1, h2, h3, h4⟩
      cases l1 with
      | nil =>
        injection he with e1 e2
        subst e1 e2
        refine .inl ?_
        rw [Bool.not_eq_true', List.isEmpty_eq_false_iff_exists_mem]
        exact ⟨y, List.mem_filter.mpr ⟨h1, by rw [decide_eq_true h2, decide_eq_true h3, List.contains_iff_mem.mpr h4]; rfl⟩⟩
      | cons z l1 =>
        injection he with e1 e2
        exact .inr ⟨l1, x', l2, y, e2, h1, h2, h3, h4⟩
theorem cm_iff {L : List Int} {n : Int} (pw : L.Pairwise (· < ·)) (nn : ∀ x, x ∈ L → 0 ≤ x ∧ x < n) : cmB L n L = true ↔ ∃ x y z, x ∈ L ∧ y ∈ L ∧ z ∈ L ∧ z ≤ x ∧ z ≤ y ∧ x + y - z = n := by
  rw [cmB_iff]
  constructor
  · rintro ⟨l1, x, l2, y, he, h1, h2, h3, h4⟩
    have hx : x ∈ L := by rw [he]; exact List.mem_append_right _ (List.mem_cons_self ..)
    have hy : y ∈ L := by rw [he]; exact List.mem_append_right _ h1
    have hxy : x ≤ y := by
      rcases List.mem_cons.mp h1 with q | q
      · omega
      · rw [he] at pw
        have := (List.pairwise_cons.mp (List.pairwise_append.mp pw).2.1).1 y q
        omega
    exact ⟨x, y, x + y - n, hx, hy, h4, h3, by omega, by omega⟩
  · rintro ⟨x, y, z, hx, hy, hz, h1, h2, h3⟩
    have go : ∀ x y, x ∈ L → y ∈ L → z ≤ x → z ≤ y → x + y - z = n → x ≤ y → ∃ l1 x l2 y, L = l1 ++ x :: l2 ∧ y ∈ x :: l2 ∧ 0 ≤ x + y - n ∧ x + y - n ≤ x ∧ x + y - n ∈ L := fun x y hx hy h1 h2 h3 hxy => by
      obtain ⟨l1, l2, he⟩ := List.append_of_mem hx
      have ez : x + y - n = z := by omega
      refine ⟨l1, x, l2, y, he, ?_, by rw [ez]; exact (nn z hz).1, by omega, by rw [ez]; exact hz⟩
      rw [he] at hy pw
      rcases List.mem_append.mp hy with q | q
      · have := (List.pairwise_append.mp pw).2.2 y q x (List.mem_cons_self ..)
        omega
      · exact q
    rcases Int.lt_or_le y x with q | q
    · exact go y x hy hx h2 h1 (by omega) (by omega)
    · exact go x y hx hy h1 h2 h3 q
end Fy.Pu
set_option Elab.async false
set_option linter.all false
set_option maxRecDepth 100000
set_option maxHeartbeats 4000000
/-! FyAE: rows out of pieces; a set without one of its tellers. -/
namespace Fy.Pu
open PySem (Str)
def NNp (ps : List (Int × Int)) : Prop := ∀ p, p ∈ ps → 0 < p.1 ∧ 0 ≤ p.2
def Eqv (A B : List (Int × Int)) (e : Int) : Prop := ∀ n, 0 ≤ n → inR A e n = inR B e n
theorem Eqv.refl {A : List (Int × Int)} {e : Int} : Eqv A A e := fun _ _ => rfl
theorem Eqv.trans {A B C : List (Int × Int)} {e : Int} (h : Eqv A B e) (k : Eqv B C e) : Eqv A C e := fun n hn => (h n hn).trans (k n hn)
theorem inR_cons (p : Int × Int) (r : List (Int × Int)) (e n : Int) : inR (p :: r) e n = if n < p.1 * p.2 then (n % p.1 == 0) else inR r e (n - p.1 * p.2) := rfl
theorem inR_nil (e n : Int) : inR [] e n = if e = 0 then (n == 0) else (n % e == 0) := rfl
theorem Eqv.cons {A B : List (Int × Int)} {e : Int} (p : Int × Int) (h : Eqv A B e) : Eqv (p :: A) (p :: B) e := fun n hn => by
  rw [inR_cons, inR_cons]
  split
  · rfl
  · exact h _ (by omega)
theorem Eqv.app {A B : List (Int × Int)} {e : Int} (h : Eqv A B e) : ∀ C : List (Int × Int), Eqv (C ++ A) (C ++ B) e
  | [] => h
  | p :: C => (h.app C).cons p
theorem eqv_zero {s e : Int} {A : List (Int × Int)} : Eqv ((s, 0) :: A) A e := fun n hn => by
  rw [inR_cons, Int.mul_zero, if_neg (by omega), Int.sub_zero]
theorem eqv_join {s t u e : Int} {A : List (Int × Int)} (s0 : 0 < s) (t0 : 0 ≤ t) (u0 : 0 ≤ u) : Eqv ((s, t) :: (s, u) :: A) ((s, t + u) :: A) e := fun n hn => by
  rw [inR_cons, inR_cons, inR_cons]
  show (if n < s * t then _ else if n - s * t < s * u then _ else _) = if n < s * (t + u) then _ else _
  have e1 : s * (t + u) = s * t + s * u := Int.mul_add ..
  have h1 : 0 ≤ s * u := Int.mul_nonneg (by omega) u0
  by_cases c1 : n < s * t
  · rw [if_pos c1, if_pos (by omega)]
  · rw [if_neg c1]
    by_cases c2 : n - s * t < s * u
    · rw [if_pos c2, if_pos (by omega), Int.sub_mul_emod_self_left]
    · rw [if_neg c2, if_neg (by omega), show n - s * (t + u) = n - s * t - s * u by omega]
/-- one more piece behind runs (the last one ahead) -/
def addR (rev : List (Int × Int)) (p : Int × Int) : List (Int × Int) :=
  if 0 < p.2 then (match rev with
    | q :: r => if q.1 = p.1 then (p.1, q.2 + p.2) :: r else p :: q :: r
    | [] => [p]) else rev
def joinP (ps : List (Int × Int)) : List (Int × Int) := (ps.foldl addR []).reverse
theorem addR_nn {rev : List (Int × Int)} {p : Int × Int} (hr : Pos rev) (hp : 0 < p.1 ∧ 0 ≤ p.2) : Pos (addR rev p) := by
  unfold addR
  split
  · rename_i h
    split
    · rename_i q r
      obtain ⟨h1, h2⟩ := hr q (List.mem_cons_self ..)
      split
      · intro x hx
        rcases List.mem_cons.mp hx with rfl | hx
        · exact ⟨hp.1, by show 0 < q.2 + p.2; omega⟩
        · exact hr x (List.mem_cons_of_mem _ hx)
      · intro x hx
        rcases List.mem_cons.mp hx with rfl | hx
        · exact ⟨hp.1, h⟩
        · exact hr x hx
    · intro x hx
      rw [List.mem_singleton] at hx
      subst hx
      exact ⟨hp.1, h⟩
  · exact hr
theorem addR_eqv {rev B : List (Int × Int)} {p : Int × Int} {e : Int} (hr : Pos rev) (hp : 0 < p.1 ∧ 0 ≤ p.2) : Eqv ((addR rev p).reverse ++ B) (rev.reverse ++ (p :: B)) e := by
  unfold addR
  split
  · rename_i h
    split
    · rename_i q r
      obtain ⟨h1, h2⟩ := hr q (List.mem_cons_self ..)
      split
      · rename_i heq
        rw [List.reverse_cons, List.reverse_cons, List.append_assoc, List.append_assoc]
        refine Eqv.app ?_ _
        show Eqv ((p.1, q.2 + p.2) :: B) (q :: p :: B) e
        have := eqv_join (s := p.1) (t := q.2) (u := p.2) (A := B) (e := e) hp.1 (by omega) hp.2
        intro n hn
        rw [← this n hn]
        obtain ⟨q1, q2⟩ := q
        obtain ⟨p1, p2⟩ := p
        have heq' : q1 = p1 := heq
        subst heq'
        rfl
      · rw [List.reverse_cons, List.append_assoc]
        exact Eqv.refl
    · exact Eqv.refl
  · have : p.2 = 0 := by omega
    refine Eqv.app ?_ _
    intro n hn
    have z := eqv_zero (s := p.1) (A := B) (e := e) n hn
    rw [← z, ← this]
theorem fold_eqv {B : List (Int × Int)} {e : Int} : ∀ (ps rev : List (Int × Int)), NNp ps → Pos rev → Pos (ps.foldl addR rev) ∧ Eqv ((ps.foldl addR rev).reverse ++ B) (rev.reverse ++ (ps ++ B)) e
  | [], rev, _, hr => ⟨hr, Eqv.refl⟩
  | p :: ps, rev, hp, hr => by
    have h1 := hp p (List.mem_cons_self ..)
    obtain ⟨a, b⟩ := fold_eqv (B := B) (e := e) ps (addR rev p) (fun q hq => hp q (List.mem_cons_of_mem _ hq)) (addR_nn hr h1)
    exact ⟨a, b.trans (addR_eqv hr h1)⟩
theorem join_eqv {ps : List (Int × Int)} {e : Int} (h : NNp ps) : Eqv (joinP ps) ps e := by
  have := (fold_eqv (B := []) (e := e) ps [] h (fun p hp => nomatch hp)).2
  rw [List.append_nil, List.append_nil] at this
  exact this
theorem join_pos {ps : List (Int × Int)} (h : NNp ps) : Pos (joinP ps) := fun p hp => (fold_eqv (B := []) (e := 0) ps [] h (fun p hp => nomatch hp)).1 p (List.mem_reverse.mp hp)
/-! neighbours unlike -/
def AdjR : List (Int × Int) → Prop
  | [] => True
  | p :: r => (∀ q t, r = q :: t → p.1 ≠ q.1) ∧ AdjR r
def adjE : List (Int × Int) → Int → Prop
  | [], _ => True
  | p :: r, e => p.1 ≠ headS r e ∧ adjE r e
theorem addR_adj {rev : List (Int × Int)} {p : Int × Int} (hr : AdjR rev) : AdjR (addR rev p) := by
  unfold addR
  split
  · split
    · rename_i q r
      split
      · rename_i heq
        exact ⟨fun q' t e => by rw [← heq]; exact hr.1 q' t e, hr.2⟩
      · rename_i hne
        exact ⟨fun q' t e => by injection e with e1 _; rw [← e1]; exact fun z => hne z.symm, hr⟩
    · exact ⟨fun q t e => (nomatch e), trivial⟩
  · exact hr
theorem fold_adj : ∀ (ps rev : List (Int × Int)), AdjR rev → AdjR (ps.foldl addR rev)
  | [], _, h => h
  | p :: ps, rev, h => fold_adj ps _ (addR_adj h)
theorem adj_rev {e : Int} : ∀ (rev acc : List (Int × Int)), AdjR rev → adjE acc e → (∀ q r, rev = q :: r → q.1 ≠ headS acc e) → adjE (rev.reverseAux acc) e
  | [], acc, _, h, _ => h
  | q :: r, acc, h, ha, hq => adj_rev r (q :: acc) h.2 ⟨hq q r rfl, ha⟩ fun q' t e' => fun z => h.1 q' t e' z.symm
/-- the steps of what is joined -/
theorem addR_mem {rev : List (Int × Int)} {p : Int × Int} {P : Int → Prop} (hr : ∀ q, q ∈ rev → P q.1) (hp : 0 < p.2 → P p.1) : ∀ q, q ∈ addR rev p → P q.1 := by
  unfold addR
  split
  · rename_i h
    split
    · rename_i q r
      split
      · intro x hx
        rcases List.mem_cons.mp hx with rfl | hx
        · exact hp h
        · exact hr x (List.mem_cons_of_mem _ hx)
      · intro x hx
        rcases List.mem_cons.mp hx with rfl | hx
        · exact hp h
        · exact hr x hx
    · intro x hx
      rw [List.mem_singleton] at hx
      exact hx ▸ hp h
  · exact hr
theorem fold_mem {P : Int → Prop} : ∀ (ps rev : List (Int × Int)), (∀ q, q ∈ rev → P q.1) → (∀ p, p ∈ ps → 0 < p.2 → P p.1) → ∀ q, q ∈ ps.foldl addR rev → P q.1
  | [], _, h, _ => h
  | p :: ps, rev, h, hp => fold_mem ps _ (addR_mem h (hp p (List.mem_cons_self ..))) fun q hq => hp q (List.mem_cons_of_mem _ hq)
theorem fr_of_adj {e : Int} (e0 : 0 < e) : ∀ {rs : List (Int × Int)}, Pos rs → adjE rs e → Cl (inZ rs e) → FR rs e
  | [], hp, _, _ => ⟨hp, by omega, fun z => by omega, rfl⟩
  | p :: r, hp, ha, hc => by
    obtain ⟨g1, g2⟩ := hp p (List.mem_cons_self ..)
    have hp' : Pos r := fun q hq => hp q (List.mem_cons_of_mem _ hq)
    have T0 : 0 < p.1 * p.2 := Int.mul_pos g1 g2
    have up : ∀ n, inZ r e n ↔ (0 ≤ n ∧ inZ (p :: r) e (n + p.1 * p.2)) := fun n => by
      have e1 : 0 ≤ n → inR (p :: r) e (n + p.1 * p.2) = inR r e n := fun hn => by
        rw [inR_cons, if_neg (by omega), Int.add_sub_cancel]
      exact ⟨fun h => ⟨h.1, by have := h.1; omega, by rw [e1 h.1]; exact h.2⟩, fun h => ⟨h.1, by rw [← e1 h.1]; exact h.2.2⟩⟩
    have hT : inZ (p :: r) e (p.1 * p.2) := ⟨by omega, by rw [inR_le2 hp (Int.le_refl _)]; simp⟩
    have hc' : Cl (inZ r e) := by
      refine ⟨(up 0).mpr ⟨Int.le_refl _, by rw [Int.zero_add]; exact hT⟩, fun x y z hx hy hz h1 h2 => ?_⟩
      have hx0 := hx.1
      have hz0 := hz.1
      refine (up _).mpr ⟨by omega, ?_⟩
      have := hc.c _ _ _ ((up x).mp hx).2 ((up y).mp hy).2 ((up z).mp hz).2 (by omega) (by omega)
      rwa [show x + y - z + p.1 * p.2 = x + p.1 * p.2 + (y + p.1 * p.2) - (z + p.1 * p.2) by omega]
    have ih := fr_of_adj e0 hp' ha.2 hc'
    have hle : p.1 ≤ p.1 * p.2 := by
      have := Int.mul_le_mul_of_nonneg_left (show 1 ≤ p.2 by omega) (Int.le_of_lt g1)
      omega
    have hm : inZ (p :: r) e (p.1 * p.2 - p.1) := ⟨by omega, by
      rw [inR_le2 hp (by omega), Int.sub_emod, Int.mul_emod_right]
      simp⟩
    have hs : inZ r e p.1 := (up _).mpr ⟨by omega, by
      have := hc.c _ _ _ hT hT hm (by omega) (by omega)
      rwa [show p.1 * p.2 + p.1 * p.2 - (p.1 * p.2 - p.1) = p.1 + p.1 * p.2 by omega] at this⟩
    refine ⟨hp, by omega, fun z => by omega, ?_⟩
    show (decide (headS r e < p.1) && (inR r e p.1 && fall r e)) = true
    rw [hs.2, ih.fl]
    simp
    have h1 := ha.1
    rcases Int.lt_or_le p.1 (headS r e) with z | z
    · have := ih.first g1 z
      rw [hs.2] at this
      cases this
    · omega
theorem join_fr {ps : List (Int × Int)} {e : Int} (e0 : 0 < e) (h : NNp ps) (hs : ∀ p, p ∈ ps → 0 < p.2 → p.1 ≠ e) (hc : Cl (inZ ps e)) : FR (joinP ps) e := by
  refine fr_of_adj e0 (join_pos h) ?_ ?_
  · refine adj_rev (ps.foldl addR []) [] (fold_adj ps [] trivial) trivial fun q r e1 => ?_
    exact fold_mem (P := fun s => s ≠ e) ps [] (fun q hq => nomatch hq) hs q (by rw [e1]; exact List.mem_cons_self ..)
  · have k := join_eqv (e := e) h
    have iz : ∀ n, inZ (joinP ps) e n ↔ inZ ps e n := fun n => ⟨fun z => ⟨z.1, by rw [← k n z.1]; exact z.2⟩, fun z => ⟨z.1, by rw [k n z.1]; exact z.2⟩⟩
    exact ⟨(iz 0).mpr hc.z, fun x y z hx hy hz h1 h2 => (iz _).mpr (hc.c _ _ _ ((iz x).mp hx) ((iz y).mp hy) ((iz z).mp hz) h1 h2)⟩
/-! without a teller -/
def leftP : List (Int × Int) → Int → Int → List (Int × Int)
  | [], e, _ => [(2 * e, 1)]
  | p :: r, e, c => if c = p.1 then (if 1 < p.2 then (2 * p.1, 1) :: (p.1, p.2 - 2) :: r else match r with
      | [] => [(p.1 + e, 1)]
      | q :: t => (p.1 + q.1, 1) :: (q.1, q.2 - 1) :: t) else p :: leftP r e (c - p.1 * p.2)
def isE : List (Int × Int) → Int → Int → Prop
  | [], e, c => c = e
  | p :: r, e, c => c = p.1 ∨ isE r e (c - p.1 * p.2)
theorem isE_pos {e : Int} (e0 : 0 < e) : ∀ {rs : List (Int × Int)} {c : Int}, Pos rs → isE rs e c → 0 < c
  | [], c, _, h => by
    have : c = e := h
    omega
  | p :: r, c, hp, h => by
    obtain ⟨g1, g2⟩ := hp p (List.mem_cons_self ..)
    rcases h with h | h
    · omega
    · have := isE_pos e0 (fun q hq => hp q (List.mem_cons_of_mem _ hq)) h
      have := Int.mul_pos g1 g2
      omega
theorem isE_of {e : Int} : ∀ {rs : List (Int × Int)} {a c : Int}, (c ∈ starts rs a ∨ c = topA rs a + e) → isE rs e (c - a)
  | [], a, c, h => by
    rcases h with h | h
    · cases h
    · show c - a = e
      have : topA [] a = a := rfl
      omega
  | p :: r, a, c, h => by
    have k : (c ∈ starts r (a + p.1 * p.2) ∨ c = topA r (a + p.1 * p.2) + e) → isE (p :: r) e (c - a) := fun h => by
      have := isE_of h
      exact .inr (by rwa [show c - (a + p.1 * p.2) = c - a - p.1 * p.2 by omega] at this)
    rcases h with h | h
    · rcases List.mem_cons.mp h with h | h
      · exact .inl (by omega)
      · exact k (.inl h)
    · exact k (.inr h)
theorem modlt {n s : Int} (n0 : 0 ≤ n) (h : n < s) : (n % s == 0) = decide (n = 0) := by
  rw [Int.emod_eq_of_lt n0 h, Bool.eq_iff_iff]
  simp
theorem left_in {e : Int} (e0 : 0 < e) : ∀ {rs : List (Int × Int)} {c : Int}, Pos rs → isE rs e c → ∀ n, 0 ≤ n → inR (leftP rs e c) e n = (inR rs e n && decide (n ≠ c))
  | [], c, _, h, n, n0 => by
    have hc : c = e := h
    subst hc
    show (if n < 2 * c * 1 then (n % (2 * c) == 0) else inR [] c (n - 2 * c * 1)) = _
    have hz : ¬ c = 0 := by omega
    rw [inR_nil, inR_nil, if_neg hz, if_neg hz]
    by_cases h1 : n < 2 * c * 1
    · rw [if_pos h1, modlt n0 (by omega)]
      by_cases h2 : n < c
      · rw [modlt n0 h2, Bool.eq_iff_iff]
        simp
        omega
      · have : n % c = n - c := by
          rw [show n = (n - c) + c by omega, Int.add_emod_right, Int.emod_eq_of_lt (by omega) (by omega)]
          omega
        rw [this, Bool.eq_iff_iff]
        simp
        omega
    · rw [if_neg h1, show n - 2 * c * 1 = n - c * 2 by omega, Int.sub_mul_emod_self_left, decide_eq_true (by omega), Bool.and_true]
  | p :: r, c, hp, h, n, n0 => by
    obtain ⟨g1, g2⟩ := hp p (List.mem_cons_self ..)
    have hp' : Pos r := fun q hq => hp q (List.mem_cons_of_mem _ hq)
    have T0 : 0 < p.1 * p.2 := Int.mul_pos g1 g2
    unfold leftP
    by_cases hc : c = p.1
    · subst hc
      rw [if_pos rfl]
      by_cases ht : 1 < p.2
      · rw [if_pos ht, inR_cons, inR_cons, inR_cons]
        show (if n < 2 * p.1 * 1 then (n % (2 * p.1) == 0) else if n - 2 * p.1 * 1 < p.1 * (p.2 - 2) then ((n - 2 * p.1 * 1) % p.1 == 0) else inR r e (n - 2 * p.1 * 1 - p.1 * (p.2 - 2))) = _
        have e1 : p.1 * (p.2 - 2) = p.1 * p.2 - 2 * p.1 := by rw [Int.mul_sub]; omega
        have e2 : 2 * p.1 ≤ p.1 * p.2 := by
          have := Int.mul_le_mul_of_nonneg_left (show 2 ≤ p.2 by omega) (Int.le_of_lt g1)
          omega
        by_cases h1 : n < 2 * p.1 * 1
        · rw [if_pos h1, if_pos (by omega), modlt n0 (by omega)]
          by_cases h2 : n < p.1
          · rw [modlt n0 h2, Bool.eq_iff_iff]
            simp
            omega
          · have : n % p.1 = n - p.1 := by
              rw [show n = (n - p.1) + p.1 by omega, Int.add_emod_right, Int.emod_eq_of_lt (by omega) (by omega)]
              omega
            rw [this, Bool.eq_iff_iff]
            simp
            omega
        · rw [if_neg h1, decide_eq_true (show n ≠ p.1 by omega), Bool.and_true]
          by_cases h2 : n < p.1 * p.2
          · rw [if_pos (by omega), if_pos h2, show n - 2 * p.1 * 1 = n - p.1 * 2 by omega, Int.sub_mul_emod_self_left]
          · rw [if_neg (by omega), if_neg h2]
            congr 1
            omega
      · rw [if_neg ht]
        have hp2 : p.2 = 1 := by omega
        cases r with
        | nil =>
          show inR [(p.1 + e, 1)] e n = _
          have hz : ¬ e = 0 := by omega
          rw [inR_cons, inR_nil, inR_cons, inR_nil, if_neg hz, if_neg hz, hp2]
          show (if n < (p.1 + e) * 1 then (n % (p.1 + e) == 0) else ((n - (p.1 + e) * 1) % e == 0)) = _
          by_cases h1 : n < (p.1 + e) * 1
          · rw [if_pos h1, modlt n0 (by omega)]
            by_cases h2 : n < p.1 * 1
            · rw [if_pos h2, modlt n0 (by omega), Bool.eq_iff_iff]
              simp
              omega
            · rw [if_neg h2, modlt (by omega) (by omega), Bool.eq_iff_iff]
              simp
              omega
          · rw [if_neg h1, if_neg (show ¬ n < p.1 * 1 by omega), decide_eq_true (show n ≠ p.1 by omega), Bool.and_true, show n - (p.1 + e) * 1 = n - p.1 * 1 - e by omega, Int.sub_emod_right]
        | cons q t =>
          obtain ⟨q1, q2⟩ := hp' q (List.mem_cons_self ..)
          show inR ((p.1 + q.1, 1) :: (q.1, q.2 - 1) :: t) e n = _
          rw [inR_cons, inR_cons, inR_cons, inR_cons, hp2]
          show (if n < (p.1 + q.1) * 1 then (n % (p.1 + q.1) == 0) else if n - (p.1 + q.1) * 1 < q.1 * (q.2 - 1) then ((n - (p.1 + q.1) * 1) % q.1 == 0) else inR t e (n - (p.1 + q.1) * 1 - q.1 * (q.2 - 1))) = _
          have e1 : q.1 * (q.2 - 1) = q.1 * q.2 - q.1 := by rw [Int.mul_sub]; omega
          have e2 : q.1 ≤ q.1 * q.2 := by
            have := Int.mul_le_mul_of_nonneg_left (show 1 ≤ q.2 by omega) (Int.le_of_lt q1)
            omega
          by_cases h1 : n < (p.1 + q.1) * 1
          · rw [if_pos h1, modlt n0 (by omega)]
            by_cases h2 : n < p.1 * 1
            · rw [if_pos h2, modlt n0 (by omega), Bool.eq_iff_iff]
              simp
              omega
            · rw [if_neg h2, if_pos (by omega), modlt (by omega) (by omega), Bool.eq_iff_iff]
              simp
              omega
          · rw [if_neg h1, if_neg (show ¬ n < p.1 * 1 by omega), decide_eq_true (show n ≠ p.1 by omega), Bool.and_true]
            by_cases h2 : n - p.1 * 1 < q.1 * q.2
            · rw [if_pos (by omega), if_pos h2, show n - (p.1 + q.1) * 1 = n - p.1 * 1 - q.1 by omega, Int.sub_emod_right]
            · rw [if_neg (by omega), if_neg h2]
              congr 1
              omega
    · rw [if_neg hc]
      have h' : isE r e (c - p.1 * p.2) := h.resolve_left hc
      have hpos := isE_pos e0 hp' h'
      rw [inR_cons, inR_cons]
      by_cases h1 : n < p.1 * p.2
      · rw [if_pos h1, if_pos h1, decide_eq_true (show n ≠ c by omega), Bool.and_true]
      · rw [if_neg h1, if_neg h1, left_in e0 hp' h' _ (by omega)]
        congr 1
        apply decide_eq_decide.mpr
        omega
theorem left_nn {e : Int} (e0 : 0 < e) : ∀ {rs : List (Int × Int)} {c : Int}, Pos rs → NNp (leftP rs e c)
  | [], c, _ => fun p hp => by
    have : p = (2 * e, 1) := by simpa [leftP] using hp
    subst this
    dsimp only
    omega
  | p :: r, c, hp => by
    obtain ⟨g1, g2⟩ := hp p (List.mem_cons_self ..)
    have hp' : Pos r := fun q hq => hp q (List.mem_cons_of_mem _ hq)
    have nn : ∀ x, x ∈ r → 0 < x.1 ∧ 0 ≤ x.2 := fun x hx => by have := hp' x hx; omega
    unfold leftP
    split
    · split
      · intro x hx
        rcases List.mem_cons.mp hx with rfl | hx
        · dsimp only; omega
        · rcases List.mem_cons.mp hx with rfl | hx
          · dsimp only; omega
          · exact nn x hx
      · cases r with
        | nil =>
          intro x hx
          have : x = (p.1 + e, 1) := by simpa using hx
          subst this
          dsimp only
          omega
        | cons q t =>
          obtain ⟨q1, q2⟩ := hp' q (List.mem_cons_self ..)
          intro x hx
          rcases List.mem_cons.mp hx with rfl | hx
          · dsimp only; omega
          · rcases List.mem_cons.mp hx with rfl | hx
            · dsimp only; omega
            · exact nn x (List.mem_cons_of_mem _ hx)
    · intro x hx
      rcases List.mem_cons.mp hx with rfl | hx
      · omega
      · exact left_nn e0 hp' x hx
theorem FR.gt {e : Int} : ∀ {rs : List (Int × Int)}, FR rs e → ∀ p, p ∈ rs → e < p.1
  | p :: r, h, q, hq => by
    have hh := (fall_parts h.fl).1
    have e0 := h.epos
    rcases List.mem_cons.mp hq with rfl | hq
    · cases r with
      | nil => exact hh
      | cons x r =>
        have := h.tail.gt x (List.mem_cons_self ..)
        have hh' : x.1 < q.1 := hh
        omega
    · exact h.tail.gt q hq
theorem left_gt {e : Int} (e0 : 0 < e) : ∀ {rs : List (Int × Int)} {c : Int}, FR rs e → ∀ p, p ∈ leftP rs e c → e < p.1
  | [], c, _ => fun p hp => by
    have : p = (2 * e, 1) := by simpa [leftP] using hp
    subst this
    dsimp only
    omega
  | p :: r, c, h => by
    have g := h.gt p (List.mem_cons_self ..)
    have gr := h.tail.gt
    unfold leftP
    split
    · split
      · intro x hx
        rcases List.mem_cons.mp hx with rfl | hx
        · dsimp only; omega
        · rcases List.mem_cons.mp hx with rfl | hx
          · exact g
          · exact gr x hx
      · cases r with
        | nil =>
          intro x hx
          have : x = (p.1 + e, 1) := by simpa using hx
          subst this
          dsimp only
          omega
        | cons q t =>
          have q1 := gr q (List.mem_cons_self ..)
          intro x hx
          rcases List.mem_cons.mp hx with rfl | hx
          · dsimp only; omega
          · rcases List.mem_cons.mp hx with rfl | hx
            · exact q1
            · exact gr x (List.mem_cons_of_mem _ hx)
    · intro x hx
      rcases List.mem_cons.mp hx with rfl | hx
      · exact g
      · exact left_gt e0 h.tail x hx
theorem tell_isE {rs : List (Int × Int)} {e c : Int} (h : c ∈ tell rs e) : isE rs e c := by
  have hf := (List.mem_filter.mp h).1
  unfold founds at hf
  have : isE rs e (c - 0) := isE_of (by
    rcases List.mem_append.mp hf with hf | hf
    · exact .inl hf
    · split at hf
      · exact .inr (by simpa using hf)
      · cases hf)
  rwa [Int.sub_zero] at this
/-- what is left of a closed set without a teller is closed -/
theorem without_cl {rs : List (Int × Int)} {e c : Int} (h : FR rs e) (hc : c ∈ tell rs e) : Cl fun n => inZ rs e n ∧ n ≠ c := by
  have hcl := clR h
  have hpos : 0 < c := founds_pos h.pos c (List.mem_filter.mp hc).1
  refine ⟨⟨hcl.z, by omega⟩, fun x y z hx hy hz h1 h2 => ⟨hcl.c _ _ _ hx.1 hy.1 hz.1 h1 h2, fun heq => ?_⟩⟩
  rcases Int.lt_or_le x c with hx' | hx'
  · rcases Int.lt_or_le y c with hy' | hy'
    · exact tell_lone h hc x y z hx.1 hy.1 hz.1 h1 h2 hx' hy' heq
    · have := hy.2
      omega
  · have := hx.2
    omega
theorem tell_e0 {rs : List (Int × Int)} {e c : Int} (h : FR rs e) (hc : c ∈ tell rs e) : 0 < e := by
  rcases Int.lt_or_le 0 e with z | z
  · exact z
  · have he : e = 0 := by have := h.e0; omega
    have := h.nz he
    subst he this
    have hf := (List.mem_filter.mp hc).1
    unfold founds at hf
    rw [if_neg (by omega)] at hf
    cases hf
theorem left_row {rs : List (Int × Int)} {e c : Int} (h : FR rs e) (hc : c ∈ tell rs e) : FR (joinP (leftP rs e c)) e ∧ ∀ n, 0 ≤ n → inR (joinP (leftP rs e c)) e n = (inR rs e n && decide (n ≠ c)) := by
  have e0 := tell_e0 h hc
  have hE := tell_isE hc
  have hin := left_in e0 h.pos hE
  have hcl := without_cl h hc
  have iz : ∀ n, inZ (leftP rs e c) e n ↔ (inZ rs e n ∧ n ≠ c) := fun n => ⟨fun z => by
    have := z.2
    rw [hin n z.1, Bool.and_eq_true, decide_eq_true_eq] at this
    exact ⟨⟨z.1, this.1⟩, this.2⟩, fun z => ⟨z.1.1, by rw [hin n z.1.1, z.1.2, decide_eq_true z.2]; rfl⟩⟩
  refine ⟨join_fr e0 (left_nn e0 h.pos) (fun p hp _ => by have := left_gt e0 h p hp; omega) ?_, fun n hn => by rw [join_eqv (left_nn e0 h.pos) n hn, hin n hn]⟩
  exact ⟨(iz 0).mpr hcl.z, fun x y z hx hy hz h1 h2 => (iz _).mpr (hcl.c _ _ _ ((iz x).mp hx) ((iz y).mp hy) ((iz z).mp hz) h1 h2)⟩
end Fy.Pu
set_option Elab.async false
set_option linter.all false
set_option maxRecDepth 100000
set_option maxHeartbeats 4000000
/-! FyAF: what a set without a teller is the closing of; the tellers found by leaving out. -/
namespace Fy.Pu
open PySem (Str)
theorem FR.dvd {e : Int} : ∀ {rs : List (Int × Int)}, FR rs e → ∀ n, inR rs e n = true → e ∣ n
  | [], h, n, hn => by
    rw [inR_nil] at hn
    split at hn
    · rename_i he
      have : n = 0 := by simpa using hn
      subst this
      exact Int.dvd_zero e
    · exact Int.dvd_of_emod_eq_zero (by simpa using hn)
  | p :: r, h, n, hn => by
    have hp : e ∣ p.1 := h.tail.dvd p.1 (fall_parts h.fl).2.1
    rw [inR_cons] at hn
    split at hn
    · exact Int.dvd_trans hp (Int.dvd_of_emod_eq_zero (by simpa using hn))
    · have h1 := h.tail.dvd _ hn
      have h2 : e ∣ p.1 * p.2 := Int.dvd_trans hp (Int.dvd_mul_right ..)
      have := Int.dvd_add h1 h2
      rwa [Int.sub_add_cancel] at this
/-! closed sets that have the first number of each piece -/
def gens (P : Int → Prop) : List (Int × Int) → Int → Int → Prop
  | [], e, a => P (a + e)
  | p :: r, e, a => (0 < p.2 → P (a + p.1)) ∧ gens P r e (a + p.1 * p.2)
theorem Cl.steps {P : Int → Prop} (h : Cl P) {a s : Int} (ha : P a) (hs : P (a + s)) (s0 : 0 ≤ s) : ∀ k : Nat, P (a + s * (k : Int))
  | 0 => by simpa using ha
  | k + 1 => by
    have h1 := h.steps ha hs s0 k
    have h2 : 0 ≤ s * (k : Int) := Int.mul_nonneg s0 (by omega)
    have := h.c _ _ _ h1 hs ha (by omega) (by omega)
    rw [show a + s * ((k + 1 : Nat) : Int) = a + s * (k : Int) + (a + s) - a by rw [Int.natCast_add, Int.mul_add]; simp; omega]
    exact this
theorem Cl.stepsD {P : Int → Prop} (h : Cl P) {a s n : Int} (ha : P a) (hs : P (a + s)) (s0 : 0 < s) (n0 : 0 ≤ n) (hd : n % s = 0) : P (a + n) := by
  have h1 := Int.mul_ediv_add_emod n s
  have h2 : 0 ≤ n / s := Int.ediv_nonneg n0 (by omega)
  have := h.steps ha hs (Int.le_of_lt s0) (n / s).toNat
  rw [Int.toNat_of_nonneg h2] at this
  rwa [show s * (n / s) = n by omega] at this
theorem gens_all {P : Int → Prop} (hP : Cl P) {e : Int} (e0 : 0 < e) : ∀ {ps : List (Int × Int)} {a : Int}, NNp ps → P a → gens P ps e a → ∀ n, 0 ≤ n → inR ps e n = true → P (a + n)
  | [], a, _, ha, hg, n, n0, hn => by
    rw [inR_nil, if_neg (show ¬ e = 0 by omega)] at hn
    exact hP.stepsD ha hg e0 n0 (by simpa using hn)
  | p :: r, a, hp, ha, hg, n, n0, hn => by
    obtain ⟨g1, g2⟩ := hp p (List.mem_cons_self ..)
    have T0 : 0 ≤ p.1 * p.2 := Int.mul_nonneg (by omega) g2
    rw [inR_cons] at hn
    split at hn
    · rename_i hlt
      have p2 : 0 < p.2 := by
        rcases Int.lt_or_le 0 p.2 with z | z
        · exact z
        · have : p.2 = 0 := by omega
          rw [this, Int.mul_zero] at hlt
          omega
      exact hP.stepsD ha (hg.1 p2) g1 n0 (by simpa using hn)
    · have hb : P (a + p.1 * p.2) := by
        rcases Int.lt_or_le 0 p.2 with z | z
        · exact hP.stepsD ha (hg.1 z) g1 T0 (Int.mul_emod_right ..)
        · have : p.2 = 0 := by omega
          rw [this, Int.mul_zero, Int.add_zero]
          exact ha
      have := gens_all hP e0 (fun q hq => hp q (List.mem_cons_of_mem _ hq)) hb hg.2 (n - p.1 * p.2) (by omega) hn
      rwa [show a + p.1 * p.2 + (n - p.1 * p.2) = a + n by omega] at this
/-- the marks: the first three numbers of each run and of the end -/
def Mk (P : Int → Prop) (c : Int) : List (Int × Int) → Int → Int → Prop
  | [], e, a => ∀ k : Int, 1 ≤ k → k ≤ 3 → a + e * k ≠ c → P (a + e * k)
  | p :: r, e, a => (∀ k : Int, 1 ≤ k → k ≤ 3 → k ≤ p.2 → a + p.1 * k ≠ c → P (a + p.1 * k)) ∧ Mk P c r e (a + p.1 * p.2)
theorem mk_gens {P : Int → Prop} {c e : Int} (e0 : 0 < e) : ∀ {rs : List (Int × Int)} {a : Int}, Pos rs → c < a + headS rs e → Mk P c rs e a → gens P rs e a
  | [], a, _, hc, h => by
    have hc' : c < a + e := hc
    have := h 1 (by decide) (by decide) (by omega)
    rwa [Int.mul_one] at this
  | p :: r, a, hp, hc, h => by
    obtain ⟨g1, g2⟩ := hp p (List.mem_cons_self ..)
    have hp' : Pos r := fun q hq => hp q (List.mem_cons_of_mem _ hq)
    have hc' : c < a + p.1 := hc
    have hle : p.1 ≤ p.1 * p.2 := by
      have := Int.mul_le_mul_of_nonneg_left (show 1 ≤ p.2 by omega) (Int.le_of_lt g1)
      omega
    have hh : 0 < headS r e := by
      cases r with
      | nil => exact e0
      | cons q t => exact (hp' q (List.mem_cons_self ..)).1
    refine ⟨fun _ => ?_, mk_gens e0 hp' (by omega) h.2⟩
    have := h.1 1 (by decide) (by decide) (by omega) (by omega)
    rwa [Int.mul_one] at this
theorem mk_left {P : Int → Prop} {c e : Int} (e0 : 0 < e) : ∀ {rs : List (Int × Int)} {a : Int}, Pos rs → isE rs e (c - a) → Mk P c rs e a → gens P (leftP rs e (c - a)) e a
  | [], a, _, hE, h => by
    have hc : c - a = e := hE
    have h2 := h 2 (by decide) (by decide) (by omega)
    have h3 := h 3 (by decide) (by decide) (by omega)
    refine ⟨fun _ => ?_, ?_⟩
    · rwa [show a + (2 * e, (1 : Int)).1 = a + e * 2 by show a + 2 * e = _; omega]
    · show P (a + 2 * e * 1 + e)
      rwa [show a + 2 * e * 1 + e = a + e * 3 by omega]
  | p :: r, a, hp, hE, h => by
    obtain ⟨g1, g2⟩ := hp p (List.mem_cons_self ..)
    have hp' : Pos r := fun q hq => hp q (List.mem_cons_of_mem _ hq)
    have T0 : 0 < p.1 * p.2 := Int.mul_pos g1 g2
    have hh : 0 < headS r e := by
      cases r with
      | nil => exact e0
      | cons q t => exact (hp' q (List.mem_cons_self ..)).1
    unfold leftP
    by_cases hc : c - a = p.1
    · rw [if_pos hc]
      by_cases ht : 1 < p.2
      · rw [if_pos ht]
        have h2 := h.1 2 (by decide) (by decide) (by omega) (by omega)
        refine ⟨fun _ => ?_, fun h3 => ?_, ?_⟩
        · rwa [show a + (2 * p.1, (1 : Int)).1 = a + p.1 * 2 by show a + 2 * p.1 = _; omega]
        · have h3' : 0 < p.2 - 2 := h3
          have := h.1 3 (by decide) (by decide) (by omega) (by omega)
          show P (a + 2 * p.1 * 1 + p.1)
          rwa [show a + 2 * p.1 * 1 + p.1 = a + p.1 * 3 by omega]
        · show gens P r e (a + 2 * p.1 * 1 + p.1 * (p.2 - 2))
          rw [show a + 2 * p.1 * 1 + p.1 * (p.2 - 2) = a + p.1 * p.2 by rw [Int.mul_sub]; omega]
          have : p.1 * 2 ≤ p.1 * p.2 := Int.mul_le_mul_of_nonneg_left (by omega) (by omega)
          exact mk_gens e0 hp' (by omega) h.2
      · rw [if_neg ht]
        have hp2 : p.2 = 1 := by omega
        have h2 := h.2
        rw [hp2, Int.mul_one] at h2
        cases r with
        | nil =>
          have k1 := h2 1 (by decide) (by decide) (by omega)
          have k2 := h2 2 (by decide) (by decide) (by omega)
          refine ⟨fun _ => ?_, ?_⟩
          · show P (a + (p.1 + e))
            rwa [show a + (p.1 + e) = a + p.1 + e * 1 by omega]
          · show P (a + (p.1 + e) * 1 + e)
            rwa [show a + (p.1 + e) * 1 + e = a + p.1 + e * 2 by omega]
        | cons q t =>
          obtain ⟨q1, q2⟩ := hp' q (List.mem_cons_self ..)
          have hq' : Pos t := fun x hx => hp' x (List.mem_cons_of_mem _ hx)
          have k1 := h2.1 1 (by decide) (by decide) (by omega) (by omega)
          have hle : q.1 ≤ q.1 * q.2 := by
            have := Int.mul_le_mul_of_nonneg_left (show 1 ≤ q.2 by omega) (Int.le_of_lt q1)
            omega
          have ht0 : 0 < headS t e := by
            cases t with
            | nil => exact e0
            | cons x t => exact (hq' x (List.mem_cons_self ..)).1
          refine ⟨fun _ => ?_, fun h3 => ?_, ?_⟩
          · show P (a + (p.1 + q.1))
            rwa [show a + (p.1 + q.1) = a + p.1 + q.1 * 1 by omega]
          · have h3' : 0 < q.2 - 1 := h3
            have := h2.1 2 (by decide) (by decide) (by omega) (by omega)
            show P (a + (p.1 + q.1) * 1 + q.1)
            rwa [show a + (p.1 + q.1) * 1 + q.1 = a + p.1 + q.1 * 2 by omega]
          · show gens P t e (a + (p.1 + q.1) * 1 + q.1 * (q.2 - 1))
            rw [show a + (p.1 + q.1) * 1 + q.1 * (q.2 - 1) = a + p.1 + q.1 * q.2 by rw [Int.mul_sub]; omega]
            exact mk_gens e0 hq' (by omega) h2.2
    · rw [if_neg hc]
      have h' : isE r e (c - a - p.1 * p.2) := hE.resolve_left hc
      have hpos := isE_pos e0 hp' h'
      refine ⟨fun _ => ?_, ?_⟩
      · have := h.1 1 (by decide) (by decide) (by omega) (by omega)
        rwa [Int.mul_one] at this
      · rw [show c - a - p.1 * p.2 = c - (a + p.1 * p.2) by omega] at h' ⊢
        exact mk_left e0 hp' h' h.2
/-- a closing that lies in the set without the teller and has the marks -/
theorem marks_row {ns : List Int} {rs r2 : List (Int × Int)} {e e2 c : Int} (h : FR rs e) (hc : c ∈ tell rs e) (h2 : CloR ns r2 e2) (hin : ∀ x, x ∈ ns → 0 < x → inR rs e x = true ∧ x ≠ c) (hm : Mk (inZ r2 e2) c rs e 0) : r2 = joinP (leftP rs e c) ∧ e2 = e := by
  obtain ⟨f1, f2⟩ := left_row h hc
  have e0 := tell_e0 h hc
  refine rows_one h2.fr f1 fun n n0 => ?_
  rw [f2 n n0, Bool.eq_iff_iff, Bool.and_eq_true, decide_eq_true_eq]
  constructor
  · intro hn
    have := h2.least (without_cl h hc) (fun x hx h0 => ⟨⟨by omega, (hin x hx h0).1⟩, (hin x hx h0).2⟩) n ⟨n0, hn⟩
    exact ⟨this.1.2, this.2⟩
  · intro ⟨hn, hne⟩
    have hE := tell_isE hc
    have hg := mk_left (P := inZ r2 e2) (c := c) (a := 0) e0 h.pos (by rw [Int.sub_zero]; exact hE) hm
    rw [Int.sub_zero] at hg
    have := gens_all (clR h2.fr) e0 (left_nn e0 h.pos) (clR h2.fr).z hg n n0 (by rw [left_in e0 h.pos hE n n0, hn, decide_eq_true hne]; rfl)
    rw [Int.zero_add] at this
    exact this.2
/-- marks lie in the set -/
theorem mk_of {P : Int → Prop} {c e : Int} (e0 : 0 < e) : ∀ {rs : List (Int × Int)} {a : Int}, Pos rs → (∀ n, 0 < n → inR rs e n = true → n ≤ topA rs 0 + 3 * e → a + n ≠ c → P (a + n)) → Mk P c rs e a
  | [], a, _, h => fun k k1 k2 hk => by
    have h1 : 0 < e * k := Int.mul_pos e0 (by omega)
    have h2 : e * k ≤ e * 3 := Int.mul_le_mul_of_nonneg_left k2 (by omega)
    have h3 : topA [] (0 : Int) = 0 := rfl
    exact h _ h1 (by rw [inR_nil, if_neg (by omega)]; simp) (by omega) hk
  | p :: r, a, hp, h => by
    obtain ⟨g1, g2⟩ := hp p (List.mem_cons_self ..)
    have hp' : Pos r := fun q hq => hp q (List.mem_cons_of_mem _ hq)
    have T0 : 0 < p.1 * p.2 := Int.mul_pos g1 g2
    have ht : topA (p :: r) 0 = p.1 * p.2 + topA r 0 := by
      show topA r (0 + p.1 * p.2) = _
      rw [topA_add]
      omega
    have hr0 := topA_ge (a := 0) hp'
    refine ⟨fun k k1 k2 k3 hk => ?_, mk_of e0 hp' fun n n0 hn hb hk => ?_⟩
    · have h1 : 0 < p.1 * k := Int.mul_pos g1 (by omega)
      have h2 : p.1 * k ≤ p.1 * p.2 := Int.mul_le_mul_of_nonneg_left k3 (by omega)
      exact h _ h1 (by rw [inR_le2 hp h2]; simp) (by omega) hk
    · have := h (p.1 * p.2 + n) (by omega) (by rw [inR_cons, if_neg (by omega), show p.1 * p.2 + n - p.1 * p.2 = n by omega]; exact hn) (by omega) (by omega)
      rwa [show a + (p.1 * p.2 + n) = a + p.1 * p.2 + n by omega] at this
/-! the tellers, found by leaving out -/
theorem founds_pw {rs : List (Int × Int)} {e : Int} (h : Pos rs) : (founds rs e).Pairwise (· < ·) := by
  unfold founds
  split
  · rename_i he
    refine List.pairwise_append.mpr ⟨starts_pw h, List.pairwise_singleton .., fun x hx y hy => ?_⟩
    rw [List.mem_singleton] at hy
    have := starts_le2 h x hx
    omega
  · rw [List.append_nil]
    exact starts_pw h
theorem tell_fil {rs : List (Int × Int)} {e : Int} : (founds rs e).filter (fun n => decide (n ∈ tell rs e)) = tell rs e := by
  show _ = (founds rs e).filter _
  refine List.filter_congr fun n hn => ?_
  rw [Bool.eq_iff_iff, decide_eq_true_eq]
  constructor
  · intro h
    exact (List.mem_filter.mp h).2
  · intro h
    exact List.mem_filter.mpr ⟨hn, h⟩
theorem fewer_row {rs r2 : List (Int × Int)} {e e2 one : Int} {l : List Int} (h : FR rs e) (hl : ∀ x, x ∈ tell rs e → x ∈ l) (hl2 : ∀ x, x ∈ l → x ∈ founds rs e) (h2 : CloR (l.filter fun n => decide (n ≠ one)) r2 e2) : (r2 = rs ∧ e2 = e) ↔ one ∉ tell rs e := by
  constructor
  · rintro ⟨rfl, rfl⟩ ho
    have := tell_gen h2 one ho
    have := (List.mem_filter.mp this).2
    simp at this
  · intro ho
    refine h2.one (ms := l.filter fun n => decide (n ≠ one)) ⟨h, fun x hx h0 => ?_, fun {P} hP hx n hn => ?_⟩ fun _ _ => Iff.rfl
    · exact founds_in h x (hl2 x (List.mem_filter.mp hx).1)
    · exact (tell_clo h).least hP (fun x hx' h0 => hx x (List.mem_filter.mpr ⟨hl x hx', by
        rw [decide_eq_true_eq]
        intro e
        exact ho (e ▸ hx')⟩) h0) n hn
end Fy.Pu
set_option Elab.async false
set_option linter.all false
set_option maxRecDepth 100000
set_option maxHeartbeats 4000000
/-! FyAG: the greatest gap of a set, the set filled. -/
namespace Fy.Pu
open PySem (Str)
def fillP : List (Int × Int) → Int → List (Int × Int)
  | [], _ => []
  | [p], e => [(p.1, p.2 - 1), if 2 * e < p.1 then (p.1 - e, 1) else (p.1, 0)]
  | p :: q :: r, e => p :: fillP (q :: r) e
theorem topA_cons (p : Int × Int) (r : List (Int × Int)) : topA (p :: r) 0 = p.1 * p.2 + topA r 0 := by
  show topA r (0 + p.1 * p.2) = _
  rw [topA_add]
  omega
theorem inR_top {e : Int} : ∀ {rs : List (Int × Int)} {n : Int}, Pos rs → topA rs 0 ≤ n → inR rs e n = inR [] e (n - topA rs 0)
  | [], n, _, _ => by
    rw [show topA [] (0 : Int) = 0 from rfl, Int.sub_zero]
  | p :: r, n, hp, h => by
    have hp' : Pos r := fun q hq => hp q (List.mem_cons_of_mem _ hq)
    rw [topA_cons] at h ⊢
    have := topA_ge (a := 0) hp'
    rw [inR_cons, if_neg (by omega), inR_top hp' (by omega)]
    congr 1
    omega
theorem FR.dvdS {e : Int} {rs : List (Int × Int)} (h : FR rs e) : ∀ p, p ∈ rs → e ∣ p.1 := by
  induction rs with
  | nil => intro p hp; cases hp
  | cons q r ih =>
    intro p hp
    rcases List.mem_cons.mp hp with rfl | hp
    · exact h.tail.dvd p.1 (fall_parts h.fl).2.1
    · exact ih h.tail p hp
theorem FR.dvdT {e : Int} : ∀ {rs : List (Int × Int)}, FR rs e → e ∣ topA rs 0
  | [], _ => Int.dvd_zero e
  | p :: r, h => by
    rw [topA_cons]
    exact Int.dvd_add (Int.dvd_trans (h.dvdS p (List.mem_cons_self ..)) (Int.dvd_mul_right ..)) h.tail.dvdT
theorem FR.two {e : Int} {rs : List (Int × Int)} (h : FR rs e) (e0 : 0 < e) {p : Int × Int} (hp : p ∈ rs) : 2 * e ≤ p.1 := by
  obtain ⟨k, hk⟩ := h.dvdS p hp
  have h1 := h.gt p hp
  have : 1 < k := by
    rcases Int.lt_or_le 1 k with z | z
    · exact z
    · have := Int.mul_le_mul_of_nonneg_left z (Int.le_of_lt e0)
      omega
  have := Int.mul_le_mul_of_nonneg_left (show 2 ≤ k by omega) (Int.le_of_lt e0)
  omega
theorem fill_in {e : Int} (e0 : 0 < e) : ∀ {rs : List (Int × Int)}, rs ≠ [] → FR rs e → ∀ n, 0 ≤ n → inR (fillP rs e) e n = (inR rs e n || decide (n = topA rs 0 - e))
  | [], h, _, _, _ => absurd rfl h
  | [p], _, h, n, n0 => by
    obtain ⟨g1, g2⟩ := h.pos p (List.mem_cons_self ..)
    have hd := h.dvdS p (List.mem_cons_self ..)
    have h2 := h.two e0 (List.mem_cons_self ..)
    have hz : ¬ e = 0 := by omega
    have ht : topA [p] 0 = p.1 * p.2 := by rw [topA_cons]; show _ + 0 = _; omega
    have e1 : p.1 * (p.2 - 1) = p.1 * p.2 - p.1 := by rw [Int.mul_sub]; omega
    have e2 : 0 ≤ p.1 * (p.2 - 1) := Int.mul_nonneg (by omega) (by omega)
    rw [ht, inR_cons p [], inR_nil, if_neg hz]
    unfold fillP
    rw [inR_cons]
    show (if n < p.1 * (p.2 - 1) then (n % p.1 == 0) else inR [_] e (n - p.1 * (p.2 - 1))) = _
    have em : ∀ m : Int, (n - p.1 * (p.2 - 1)) = m → n % p.1 = m % p.1 := fun m hm => by
      rw [← hm, Int.sub_mul_emod_self_left]
    by_cases h1 : n < p.1 * (p.2 - 1)
    · rw [if_pos h1, if_pos (by omega), decide_eq_false (by omega), Bool.or_false]
    · rw [if_neg h1]
      generalize hm : n - p.1 * (p.2 - 1) = m
      have m0 : 0 ≤ m := by omega
      have emm := em m hm
      by_cases h3 : 2 * e < p.1
      · rw [if_pos h3, inR_cons, inR_nil, if_neg hz]
        show (if m < (p.1 - e) * 1 then (m % (p.1 - e) == 0) else ((m - (p.1 - e) * 1) % e == 0)) = _
        by_cases h4 : m < (p.1 - e) * 1
        · rw [if_pos h4, if_pos (by omega), modlt m0 (by omega), emm, modlt m0 (by omega), decide_eq_false (show ¬ n = p.1 * p.2 - e by omega), Bool.or_false]
        · rw [if_neg h4]
          by_cases h5 : m < p.1
          · rw [if_pos (show n < p.1 * p.2 by omega), emm, modlt m0 h5, modlt (by omega) (by omega), Bool.eq_iff_iff]
            simp
            omega
          · rw [if_neg (show ¬ n < p.1 * p.2 by omega), decide_eq_false (show ¬ n = p.1 * p.2 - e by omega), Bool.or_false, show m - (p.1 - e) * 1 = (n - p.1 * p.2) + e by omega, Int.add_emod_right]
      · rw [if_neg h3, inR_cons, inR_nil, if_neg hz]
        show (if m < p.1 * 0 then (m % p.1 == 0) else ((m - p.1 * 0) % e == 0)) = _
        have hp2 : p.1 = 2 * e := by omega
        rw [Int.mul_zero, if_neg (by omega), Int.sub_zero]
        by_cases h5 : m < p.1
        · rw [if_pos (show n < p.1 * p.2 by omega), emm, modlt m0 h5]
          by_cases h6 : m < e
          · rw [modlt m0 h6, decide_eq_false (show ¬ n = p.1 * p.2 - e by omega), Bool.or_false]
          · have : m % e = m - e := by
              rw [show m = (m - e) + e by omega, Int.add_emod_right, Int.emod_eq_of_lt (by omega) (by omega)]
              omega
            rw [this, Bool.eq_iff_iff]
            simp
            omega
        · rw [if_neg (show ¬ n < p.1 * p.2 by omega), decide_eq_false (show ¬ n = p.1 * p.2 - e by omega), Bool.or_false, show m = (n - p.1 * p.2) + e * 2 by omega, Int.add_mul_emod_self_left]
  | p :: q :: r, _, h, n, n0 => by
    obtain ⟨g1, g2⟩ := h.pos p (List.mem_cons_self ..)
    have T0 : 0 < p.1 * p.2 := Int.mul_pos g1 g2
    have ih := fill_in e0 (rs := q :: r) (by simp) h.tail
    obtain ⟨q1, q2⟩ := h.tail.pos q (List.mem_cons_self ..)
    have tq : 2 * e ≤ topA (q :: r) 0 := by
      rw [topA_cons]
      have a := topA_ge (a := 0) h.tail.tail.pos
      have b := h.tail.two e0 (List.mem_cons_self ..)
      have c := Int.mul_le_mul_of_nonneg_left (show 1 ≤ q.2 by omega) (Int.le_of_lt q1)
      omega
    show inR (p :: fillP (q :: r) e) e n = _
    rw [topA_cons p, inR_cons, inR_cons p]
    by_cases h1 : n < p.1 * p.2
    · rw [if_pos h1, if_pos h1, decide_eq_false (by omega), Bool.or_false]
    · rw [if_neg h1, if_neg h1, ih _ (by omega)]
      congr 1
      apply decide_eq_decide.mpr
      omega
theorem fill_nn {e : Int} (e0 : 0 < e) : ∀ {rs : List (Int × Int)}, FR rs e → NNp (fillP rs e) ∧ ∀ p, p ∈ fillP rs e → 0 < p.2 → p.1 ≠ e
  | [], _ => ⟨fun p hp => (nomatch hp), fun p hp => nomatch hp⟩
  | [p], h => by
    obtain ⟨g1, g2⟩ := h.pos p (List.mem_cons_self ..)
    have h2 := h.two e0 (List.mem_cons_self ..)
    have key : ∀ x, x ∈ fillP [p] e → (0 < x.1 ∧ 0 ≤ x.2) ∧ (0 < x.2 → x.1 ≠ e) := fun x hx => by
      unfold fillP at hx
      simp only [List.mem_cons, List.not_mem_nil, or_false] at hx
      rcases hx with rfl | rfl
      · dsimp only
        omega
      · split
        · dsimp only
          omega
        · dsimp only
          omega
    exact ⟨fun x hx => (key x hx).1, fun x hx => (key x hx).2⟩
  | p :: q :: r, h => by
    obtain ⟨g1, g2⟩ := h.pos p (List.mem_cons_self ..)
    have h2 := h.two e0 (List.mem_cons_self ..)
    obtain ⟨i1, i2⟩ := fill_nn e0 h.tail
    refine ⟨fun x hx => ?_, fun x hx => ?_⟩
    · have hx' : x ∈ p :: fillP (q :: r) e := hx
      rcases List.mem_cons.mp hx' with rfl | hx'
      · omega
      · exact i1 x hx'
    · have hx' : x ∈ p :: fillP (q :: r) e := hx
      rcases List.mem_cons.mp hx' with rfl | hx'
      · omega
      · exact i2 x hx'
theorem fill_top {e : Int} : ∀ {rs : List (Int × Int)} {a : Int}, rs ≠ [] → 0 < e → FR rs e → topA (fillP rs e) a ≤ topA rs a - e
  | [], _, h, _, _ => absurd rfl h
  | [p], a, _, e0, h => by
    have h2 := h.two e0 (List.mem_cons_self ..)
    unfold fillP
    split
    · show a + p.1 * (p.2 - 1) + (p.1 - e) * 1 ≤ a + p.1 * p.2 - e
      rw [Int.mul_sub]
      omega
    · show a + p.1 * (p.2 - 1) + p.1 * 0 ≤ a + p.1 * p.2 - e
      rw [Int.mul_sub]
      omega
  | p :: q :: r, a, _, e0, h => fill_top (rs := q :: r) (by simp) e0 h.tail
theorem fill_len {e : Int} : ∀ {rs : List (Int × Int)}, (fillP rs e).length ≤ rs.length + 1
  | [] => by simp [fillP]
  | [p] => by simp [fillP]
  | p :: q :: r => by
    have := fill_len (e := e) (rs := q :: r)
    show (p :: fillP (q :: r) e).length ≤ _
    rw [List.length_cons, List.length_cons]
    omega
/-! the gap -/
theorem gap_pos {rs : List (Int × Int)} {e : Int} (h : FR rs e) (e0 : 0 < e) (hne : rs ≠ []) : e ≤ topA rs 0 - e := by
  cases rs with
  | nil => exact absurd rfl hne
  | cons p r =>
    obtain ⟨g1, g2⟩ := h.pos p (List.mem_cons_self ..)
    rw [topA_cons]
    have a := topA_ge (a := 0) h.tail.pos
    have b := h.two e0 (List.mem_cons_self ..)
    have c := Int.mul_le_mul_of_nonneg_left (show 1 ≤ p.2 by omega) (Int.le_of_lt g1)
    omega
theorem gap_out {e : Int} (e0 : 0 < e) : ∀ {rs : List (Int × Int)}, rs ≠ [] → FR rs e → inR rs e (topA rs 0 - e) = false
  | [], h, _ => absurd rfl h
  | [p], _, h => by
    obtain ⟨g1, g2⟩ := h.pos p (List.mem_cons_self ..)
    have b := h.two e0 (List.mem_cons_self ..)
    have ht : topA [p] 0 = p.1 * p.2 := by rw [topA_cons]; show _ + 0 = _; omega
    rw [ht, inR_le2 h.pos (by omega), show p.1 * p.2 - e = (p.1 - e) + p.1 * (p.2 - 1) by rw [Int.mul_sub]; omega, Int.add_mul_emod_self_left, Int.emod_eq_of_lt (by omega) (by omega)]
    simp
    omega
  | p :: q :: r, _, h => by
    have := gap_out e0 (rs := q :: r) (by simp) h.tail
    have hg := gap_pos h.tail e0 (by simp)
    rw [topA_cons p, inR_cons, if_neg (by omega), show p.1 * p.2 + topA (q :: r) 0 - e - p.1 * p.2 = topA (q :: r) 0 - e by omega]
    exact this
theorem gap_above {rs : List (Int × Int)} {e n : Int} (h : FR rs e) (e0 : 0 < e) (hd : e ∣ n) (n0 : 0 ≤ n) (hn : topA rs 0 - e < n) : inR rs e n = true := by
  obtain ⟨k, hk⟩ := hd
  obtain ⟨j, hj⟩ := h.dvdT
  have hle : topA rs 0 ≤ n := by
    rcases Int.lt_or_le k j with z | z
    · have := Int.mul_le_mul_of_nonneg_left (show k ≤ j - 1 by omega) (Int.le_of_lt e0)
      rw [Int.mul_sub] at this
      omega
    · have := Int.mul_le_mul_of_nonneg_left z (Int.le_of_lt e0)
      omega
  rw [inR_top h.pos hle, inR_nil, if_neg (by omega), hk, hj, ← Int.mul_sub]
  simp
/-- a set with its greatest gap -/
def Fil (rs : List (Int × Int)) (e n : Int) : Prop := inZ rs e n ∨ n = topA rs 0 - e
theorem fil_cl {rs : List (Int × Int)} {e : Int} (h : FR rs e) (e0 : 0 < e) (hne : rs ≠ []) : Cl (Fil rs e) := by
  have hc := clR h
  have gp := gap_pos h e0 hne
  have hT := h.dvdT
  have big : ∀ n, e ∣ n → topA rs 0 - e ≤ n → Fil rs e n := fun n hd hn => by
    rcases Int.lt_or_le (topA rs 0 - e) n with z | z
    · exact .inl ⟨by omega, gap_above h e0 hd (by omega) z⟩
    · exact .inr (by omega)
  have dv : ∀ n, Fil rs e n → e ∣ n := fun n hn => by
    rcases hn with hn | rfl
    · exact h.dvd n hn.2
    · exact Int.dvd_sub hT (Int.dvd_refl e)
  refine ⟨.inl hc.z, fun x y z hx hy hz h1 h2 => ?_⟩
  have hd : e ∣ x + y - z := Int.dvd_sub (Int.dvd_add (dv x hx) (dv y hy)) (dv z hz)
  rcases hx with hx | rfl
  · rcases hy with hy | rfl
    · rcases hz with hz | rfl
      · exact .inl (hc.c _ _ _ hx hy hz h1 h2)
      · exact big _ hd (by omega)
    · exact big _ hd (by omega)
  · exact big _ hd (by omega)
theorem fill_row {rs : List (Int × Int)} {e : Int} (h : FR rs e) (e0 : 0 < e) (hne : rs ≠ []) : FR (joinP (fillP rs e)) e ∧ ∀ n, 0 ≤ n → inR (joinP (fillP rs e)) e n = (inR rs e n || decide (n = topA rs 0 - e)) := by
  obtain ⟨nn, ns⟩ := fill_nn e0 h
  have hin := fill_in e0 hne h
  have gp := gap_pos h e0 hne
  have iz : ∀ n, inZ (fillP rs e) e n ↔ Fil rs e n := fun n => by
    constructor
    · intro z
      have := z.2
      rw [hin n z.1, Bool.or_eq_true, decide_eq_true_eq] at this
      rcases this with t | t
      · exact .inl ⟨z.1, t⟩
      · exact .inr t
    · rintro (z | rfl)
      · exact ⟨z.1, by rw [hin n z.1, z.2]; rfl⟩
      · exact ⟨by omega, by rw [hin _ (by omega), decide_eq_true rfl, Bool.or_true]⟩
  have hcl := fil_cl h e0 hne
  refine ⟨join_fr e0 nn ns ?_, fun n hn => by rw [join_eqv nn n hn, hin n hn]⟩
  exact ⟨(iz 0).mpr hcl.z, fun x y z hx hy hz h1 h2 => (iz _).mpr (hcl.c _ _ _ ((iz x).mp hx) ((iz y).mp hy) ((iz z).mp hz) h1 h2)⟩
theorem fill_clo {ns : List Int} {rs r2 : List (Int × Int)} {e e2 : Int} (h : FR rs e) (e0 : 0 < e) (hne : rs ≠ []) (h2 : CloR ns r2 e2) (hn : ∀ x, x ∈ ns ↔ x ∈ founds rs e ∨ x = topA rs 0 - e) : r2 = joinP (fillP rs e) ∧ e2 = e := by
  obtain ⟨f1, f2⟩ := fill_row h e0 hne
  have gp := gap_pos h e0 hne
  refine rows_one h2.fr f1 fun n n0 => ?_
  rw [f2 n n0, Bool.eq_iff_iff, Bool.or_eq_true, decide_eq_true_eq]
  constructor
  · intro hi
    have := h2.least (fil_cl h e0 hne) (fun x hx h0 => by
      rcases (hn x).mp hx with z | z
      · exact .inl ⟨by omega, founds_in h x z⟩
      · exact .inr z) n ⟨n0, hi⟩
    rcases this with t | t
    · exact .inl t.2
    · exact .inr t
  · rintro (hi | rfl)
    · exact ((tell_clo h).least (clR h2.fr) (fun x hx h0 => ⟨by omega, h2.has x ((hn x).mpr (.inl (List.mem_filter.mp hx).1)) (by omega)⟩) n ⟨n0, hi⟩).2
    · exact h2.has _ ((hn _).mpr (.inr rfl)) n0
/-- a teller above the gap, taken out, is the gap of what is left -/
theorem left_gap {rs : List (Int × Int)} {e c : Int} (h : FR rs e) (hc : c ∈ tell rs e) (hg : rs = [] ∨ topA rs 0 - e < c) : joinP (leftP rs e c) ≠ [] ∧ topA (joinP (leftP rs e c)) 0 - e = c ∧ joinP (fillP (joinP (leftP rs e c)) e) = rs := by
  have e0 := tell_e0 h hc
  obtain ⟨f1, f2⟩ := left_row h hc
  have hcin := founds_in h c (List.mem_filter.mp hc).1
  have hcp := founds_pos h.pos c (List.mem_filter.mp hc).1
  have hcd := h.dvd c hcin
  have hcout : inR (joinP (leftP rs e c)) e c = false := by
    rw [f2 c (by omega), decide_eq_false (by omega), Bool.and_false]
  have hne : joinP (leftP rs e c) ≠ [] := fun z => by
    rw [z, inR_nil, if_neg (by omega)] at hcout
    rw [Int.emod_eq_zero_of_dvd hcd] at hcout
    simp at hcout
  have up : ∀ n, e ∣ n → c < n → inR rs e n = true := fun n hd hn => by
    rcases hg with rfl | hg
    · rw [inR_nil, if_neg (by omega), Int.emod_eq_zero_of_dvd hd]
      rfl
    · exact gap_above h e0 hd (by omega) (by omega)
  have gout := gap_out e0 hne f1
  have gpos := gap_pos f1 e0 hne
  have hgc : topA (joinP (leftP rs e c)) 0 - e = c := by
    rcases Int.lt_trichotomy (topA (joinP (leftP rs e c)) 0 - e) c with z | z | z
    · have := gap_above f1 e0 hcd (by omega) z
      rw [hcout] at this
      cases this
    · exact z
    · have hd : e ∣ topA (joinP (leftP rs e c)) 0 - e := Int.dvd_sub f1.dvdT (Int.dvd_refl e)
      have := up _ hd z
      rw [f2 _ (by omega), this, decide_eq_true (by omega)] at gout
      cases gout
  refine ⟨hne, hgc, ?_⟩
  obtain ⟨k1, k2⟩ := fill_row f1 e0 hne
  refine (rows_one k1 h fun n n0 => ?_).1
  rw [k2 n n0, f2 n n0, hgc]
  by_cases hn : n = c
  · subst hn
    rw [hcin]
    simp
  · simp [hn]
/-! filling again and again -/
inductive PathR (e : Int) : List (Int × Int) → List (List (Int × Int)) → Prop
  | nil : PathR e [] [[]]
  | cons {rs : List (Int × Int)} {L : List (List (Int × Int))} : rs ≠ [] → PathR e (joinP (fillP rs e)) L → PathR e rs (rs :: L)
theorem PathR.one {e : Int} {rs : List (Int × Int)} {L : List (List (Int × Int))} (h : PathR e rs L) : ∀ {M}, PathR e rs M → L = M := by
  induction h with
  | nil =>
    intro M hM
    cases hM with
    | nil => rfl
    | cons h _ => exact absurd rfl h
  | cons hne _ ih =>
    intro M hM
    cases hM with
    | nil => exact absurd rfl hne
    | cons _ h2 => rw [ih h2]
theorem PathR.ne {e : Int} {rs : List (Int × Int)} {L : List (List (Int × Int))} (h : PathR e rs L) : L ≠ [] := by
  cases h <;> simp
theorem PathR.last {e : Int} {rs : List (Int × Int)} {L : List (List (Int × Int))} (h : PathR e rs L) : L.getLast? = some [] := by
  induction h with
  | nil => rfl
  | @cons rs L hne k ih =>
    cases L with
    | nil => exact absurd rfl k.ne
    | cons x L => rw [List.getLast?_cons_cons]; exact ih
end Fy.Pu
set_option Elab.async false
set_option linter.all false
set_option maxRecDepth 100000
set_option maxHeartbeats 4000000
/-! FyAH: all falling rows of an end, up to a height. -/
namespace Fy.Pu
open PySem (Str)
abbrev Rn := List (Int × Int)
/-- one more step ahead -/
def lift (s : Int) : Rn → Rn
  | [] => [(s, 1)]
  | p :: r => if p.1 = s then (s, p.2 + 1) :: r else (s, 1) :: p :: r
theorem lift_cons (s : Int) (p : Int × Int) (r : Rn) : lift s (p :: r) = if p.1 = s then (s, p.2 + 1) :: r else (s, 1) :: p :: r := rfl
theorem lift_eqv {s e : Int} {rs : Rn} (hp : Pos rs) (s0 : 0 < s) : Eqv (lift s rs) ((s, 1) :: rs) e := by
  cases rs with
  | nil => exact Eqv.refl
  | cons p r =>
    obtain ⟨g1, g2⟩ := hp p (List.mem_cons_self ..)
    rw [lift_cons]
    split
    · rename_i heq
      obtain ⟨a, b⟩ := p
      have heq' : a = s := heq
      subst heq'
      have := eqv_join (s := a) (t := 1) (u := b) (A := r) (e := e) s0 (by decide) (Int.le_of_lt g2)
      intro n hn
      rw [this n hn, Int.add_comm]
    · exact Eqv.refl
theorem lift_pos {s : Int} {rs : Rn} (hp : Pos rs) (s0 : 0 < s) : Pos (lift s rs) := by
  cases rs with
  | nil =>
    intro x hx
    have : x = (s, 1) := by simpa [lift] using hx
    subst this
    exact ⟨s0, (show (0 : Int) < 1 by decide)⟩
  | cons p r =>
    rw [lift_cons]
    split
    · intro x hx
      rcases List.mem_cons.mp hx with rfl | hx
      · have := (hp p (List.mem_cons_self ..)).2
        exact ⟨s0, by show 0 < p.2 + 1; omega⟩
      · exact hp x (List.mem_cons_of_mem _ hx)
    · intro x hx
      rcases List.mem_cons.mp hx with rfl | hx
      · exact ⟨s0, (show (0 : Int) < 1 by decide)⟩
      · exact hp x hx
theorem lift_top {s : Int} (rs : Rn) : topA (lift s rs) 0 = s + topA rs 0 := by
  cases rs with
  | nil =>
    show 0 + s * 1 = s + 0
    omega
  | cons p r =>
    rw [lift_cons]
    split
    · rename_i heq
      rw [topA_cons, topA_cons]
      show s * (p.2 + 1) + _ = _
      rw [heq, Int.mul_add]
      omega
    · rw [topA_cons, topA_cons]
      show s * 1 + _ = _
      omega
/-- a closed set of pieces with one more step ahead -/
theorem cl_ahead {ps : Rn} {s e : Int} (h : Cl (inZ ps e)) (s0 : 0 < s) (hs : inR ps e s = true) : Cl (inZ ((s, 1) :: ps) e) := by
  have mem : ∀ n, inZ ((s, 1) :: ps) e n ↔ n = 0 ∨ (s ≤ n ∧ inZ ps e (n - s)) := fun n => by
    unfold inZ
    rw [inR_cons]
    show _ ∧ (if n < s * 1 then (n % s == 0) else inR ps e (n - s * 1)) = true ↔ _
    constructor
    · intro ⟨n0, hn⟩
      split at hn
      · rw [modlt n0 (by omega)] at hn
        exact .inl (of_decide_eq_true hn)
      · refine .inr ⟨by omega, by omega, ?_⟩
        rwa [Int.mul_one] at hn
    · rintro (rfl | ⟨h1, h2, h3⟩)
      · refine ⟨Int.le_refl _, ?_⟩
        rw [if_pos (by omega)]
        simp
      · refine ⟨by omega, ?_⟩
        rw [if_neg (by omega), Int.mul_one]
        exact h3
  refine ⟨(mem 0).mpr (.inl rfl), fun x y z hx hy hz h1 h2 => (mem _).mpr ?_⟩
  have hs' : inZ ps e s := ⟨by omega, hs⟩
  rcases (mem z).mp hz with rfl | ⟨hz1, hz2⟩
  · rcases (mem x).mp hx with rfl | ⟨hx1, hx2⟩
    · rw [Int.zero_add, Int.sub_zero]
      exact (mem y).mp hy
    · rcases (mem y).mp hy with rfl | ⟨hy1, hy2⟩
      · rw [Int.add_zero, Int.sub_zero]
        exact .inr ⟨hx1, hx2⟩
      · have a := h.add hs' (h.add hx2 hy2 (by omega) (by omega)) (by omega) (by omega)
        exact .inr ⟨by omega, by rwa [show s + (x - s + (y - s)) = x + y - 0 - s by omega] at a⟩
  · rcases (mem x).mp hx with rfl | ⟨hx1, hx2⟩
    · omega
    rcases (mem y).mp hy with rfl | ⟨hy1, hy2⟩
    · omega
    have := h.c _ _ _ hx2 hy2 hz2 (by omega) (by omega)
    exact .inr ⟨by omega, by rwa [show x - s + (y - s) - (z - s) = x + y - z - s by omega] at this⟩
theorem cl_eqv {A B : Rn} {e : Int} (h : Eqv A B e) (hc : Cl (inZ B e)) : Cl (inZ A e) := by
  have iz : ∀ n, inZ A e n ↔ inZ B e n := fun n => ⟨fun z => ⟨z.1, by rw [← h n z.1]; exact z.2⟩, fun z => ⟨z.1, by rw [h n z.1]; exact z.2⟩⟩
  exact ⟨(iz 0).mpr hc.z, fun x y z hx hy hz h1 h2 => (iz _).mpr (hc.c _ _ _ ((iz x).mp hx) ((iz y).mp hy) ((iz z).mp hz) h1 h2)⟩
/-- which steps may come ahead -/
def may (rs : Rn) (e s : Int) : Bool := inR rs e s && (!rs.isEmpty || decide (s ≠ e))
theorem lift_fr {s e : Int} {rs : Rn} (h : FR rs e) (e0 : 0 < e) (s0 : 0 < s) (hm : may rs e s = true) : FR (lift s rs) e := by
  unfold may at hm
  rw [Bool.and_eq_true, Bool.or_eq_true, decide_eq_true_eq] at hm
  obtain ⟨hin, hd⟩ := hm
  refine fr_of_adj e0 (lift_pos h.pos s0) ?_ (cl_eqv (lift_eqv h.pos s0) (cl_ahead (clR h) s0 hin))
  have ha : ∀ {r : Rn}, FR r e → adjE r e := fun {r} hr => by
    induction r with
    | nil => trivial
    | cons p r ih =>
      have := (fall_parts hr.fl).1
      exact ⟨by omega, ih hr.tail⟩
  cases rs with
  | nil =>
    refine ⟨?_, trivial⟩
    show s ≠ e
    rcases hd with hd | hd
    · cases hd
    · exact hd
  | cons p r =>
    have hadj := ha h
    rw [lift_cons]
    split
    · rename_i heq
      exact ⟨by show s ≠ headS r e; rw [← heq]; exact hadj.1, hadj.2⟩
    · rename_i hne
      exact ⟨fun z => hne z.symm, hadj⟩
/-- a row with its end, up to a height -/
structure RH (e H : Int) (rs : Rn) : Prop where
  fr : FR rs e
  e0 : 0 < e
  top : topA rs 0 ≤ H
def kids (e H : Int) (rs : Rn) : List Int := ((List.range (H - topA rs 0).toNat).map fun (i : Nat) => 1 + (i : Int)).filter (may rs e)
theorem mem_kids {e H s : Int} {rs : Rn} : s ∈ kids e H rs ↔ (1 ≤ s ∧ s ≤ H - topA rs 0) ∧ may rs e s = true := by
  unfold kids
  rw [List.mem_filter]
  constructor
  · rintro ⟨h, k⟩
    obtain ⟨i, hi, rfl⟩ := List.mem_map.mp h
    rw [List.mem_range] at hi
    exact ⟨by omega, k⟩
  · rintro ⟨h, k⟩
    exact ⟨List.mem_map.mpr ⟨(s - 1).toNat, by rw [List.mem_range]; omega, by omega⟩, k⟩
theorem kid {e H s : Int} {rs : Rn} (h : RH e H rs) (hs : s ∈ kids e H rs) : RH e H (lift s rs) := by
  obtain ⟨⟨h1, h2⟩, h3⟩ := mem_kids.mp hs
  exact ⟨lift_fr h.fr h.e0 (by omega) h3, h.e0, by rw [lift_top]; omega⟩
def dfs (e H : Int) : Nat → Rn → List Rn
  | 0, rs => [rs]
  | n + 1, rs => rs :: (kids e H rs).reverse.flatMap fun s => dfs e H n (lift s rs)
def room (H : Int) (rs : Rn) : Nat := (H - topA rs 0).toNat
theorem dfs_room {e H : Int} : ∀ (n : Nat) (rs : Rn), room H rs ≤ n → dfs e H n rs = dfs e H (room H rs) rs := by
  intro n
  induction n using Nat.strongRecOn with
  | _ n ih =>
    intro rs hn
    have kr : ∀ s, s ∈ kids e H rs → room H (lift s rs) < room H rs := fun s hs => by
      obtain ⟨⟨h1, h2⟩, _⟩ := mem_kids.mp hs
      unfold room
      rw [lift_top]
      omega
    cases n with
    | zero =>
      have : room H rs = 0 := by omega
      rw [this]
    | succ n =>
      cases hr : room H rs with
      | zero =>
        have : kids e H rs = [] := by
          cases hk : kids e H rs with
          | nil => rfl
          | cons s l =>
            have := kr s (by rw [hk]; exact List.mem_cons_self ..)
            omega
        show rs :: (kids e H rs).reverse.flatMap _ = [rs]
        rw [this]
        rfl
      | succ m =>
        show rs :: _ = rs :: _
        congr 1
        have : ∀ l : List Int, (∀ s, s ∈ l → s ∈ kids e H rs) → l.flatMap (fun s => dfs e H n (lift s rs)) = l.flatMap (fun s => dfs e H m (lift s rs)) := fun l => by
          induction l with
          | nil => intro _; rfl
          | cons s l ihl =>
            intro hl
            have hs := kr s (hl s (List.mem_cons_self ..))
            rw [List.flatMap_cons, List.flatMap_cons, ihl fun t ht => hl t (List.mem_cons_of_mem _ ht)]
            congr 1
            rw [ih n (by omega) _ (by omega), ih m (by omega) _ (by omega)]
        exact this _ fun s hs => List.mem_reverse.mp hs
def rows (e H : Int) (rs : Rn) : List Rn := dfs e H (room H rs) rs
theorem rows_eq {e H : Int} (rs : Rn) : rows e H rs = rs :: (kids e H rs).reverse.flatMap fun s => rows e H (lift s rs) := by
  unfold rows
  rw [← dfs_room (room H rs + 1) rs (by omega)]
  show rs :: _ = rs :: _
  congr 1
  have : ∀ l : List Int, (∀ s, s ∈ l → s ∈ kids e H rs) → l.flatMap (fun s => dfs e H (room H rs) (lift s rs)) = l.flatMap (fun s => dfs e H (room H (lift s rs)) (lift s rs)) := fun l => by
    induction l with
    | nil => intro _; rfl
    | cons s l ihl =>
      intro hl
      obtain ⟨⟨h1, h2⟩, _⟩ := mem_kids.mp (hl s (List.mem_cons_self ..))
      rw [List.flatMap_cons, List.flatMap_cons, ihl fun t ht => hl t (List.mem_cons_of_mem _ ht)]
      congr 1
      refine dfs_room _ _ ?_
      unfold room
      rw [lift_top]
      omega
  exact this _ fun s hs => List.mem_reverse.mp hs
theorem rows_ne {e H : Int} (rs : Rn) : 0 < (rows e H rs).length := by
  rw [rows_eq, List.length_cons]
  omega
theorem rows_all {e H : Int} : ∀ (n : Nat) (rs : Rn), room H rs ≤ n → RH e H rs → ∀ x, x ∈ rows e H rs → RH e H x := by
  intro n
  induction n with
  | zero =>
    intro rs hn h x hx
    unfold rows at hx
    rw [show room H rs = 0 by omega] at hx
    have : x = rs := by simpa [dfs] using hx
    exact this ▸ h
  | succ n ih =>
    intro rs hn h x hx
    rw [rows_eq] at hx
    rcases List.mem_cons.mp hx with rfl | hx
    · exact h
    · obtain ⟨s, hs, hx⟩ := List.mem_flatMap.mp hx
      have hs' := List.mem_reverse.mp hs
      obtain ⟨⟨h1, h2⟩, _⟩ := mem_kids.mp hs'
      refine ih _ ?_ (kid h hs') x hx
      unfold room at hn ⊢
      rw [lift_top]
      omega
/-! rows are told apart by their steps one by one -/
def expand : Rn → List Int
  | [] => []
  | p :: r => List.replicate p.2.toNat p.1 ++ expand r
theorem expand_lift {s : Int} {rs : Rn} (hp : Pos rs) : expand (lift s rs) = s :: expand rs := by
  cases rs with
  | nil => rfl
  | cons p r =>
    have := (hp p (List.mem_cons_self ..)).2
    rw [lift_cons]
    split
    · rename_i heq
      show List.replicate (p.2 + 1).toNat s ++ expand r = s :: (List.replicate p.2.toNat p.1 ++ expand r)
      rw [heq, show (p.2 + 1).toNat = p.2.toNat + 1 by omega, List.replicate_succ]
      rfl
    · rfl
theorem rows_suffix {e H : Int} : ∀ (n : Nat) (rs : Rn), room H rs ≤ n → RH e H rs → ∀ x, x ∈ rows e H rs → ∃ l, expand x = l ++ expand rs := by
  intro n
  induction n with
  | zero =>
    intro rs hn h x hx
    unfold rows at hx
    rw [show room H rs = 0 by omega] at hx
    have : x = rs := by simpa [dfs] using hx
    exact ⟨[], by rw [this]; rfl⟩
  | succ n ih =>
    intro rs hn h x hx
    rw [rows_eq] at hx
    rcases List.mem_cons.mp hx with rfl | hx
    · exact ⟨[], rfl⟩
    · obtain ⟨s, hs, hx⟩ := List.mem_flatMap.mp hx
      have hs' := List.mem_reverse.mp hs
      obtain ⟨⟨h1, h2⟩, _⟩ := mem_kids.mp hs'
      obtain ⟨l, hl⟩ := ih (lift s rs) (by unfold room at hn ⊢; rw [lift_top]; omega) (kid h hs') x hx
      exact ⟨l ++ [s], by rw [hl, expand_lift h.fr.pos]; simp⟩
theorem kids_pw {e H : Int} {rs : Rn} : (kids e H rs).Pairwise (· < ·) := by
  unfold kids
  exact (List.pairwise_map.mpr (List.pairwise_lt_range.imp fun h => by omega)).filter _
theorem rows_nodup {e H : Int} : ∀ (n : Nat) (rs : Rn), room H rs ≤ n → RH e H rs → (rows e H rs).Nodup := by
  intro n
  induction n with
  | zero =>
    intro rs hn h
    unfold rows
    rw [show room H rs = 0 by omega]
    simp [dfs]
  | succ n ih =>
    intro rs hn h
    rw [rows_eq, List.nodup_cons]
    have hroom : ∀ s, s ∈ kids e H rs → room H (lift s rs) ≤ n := fun s hs => by
      obtain ⟨⟨h1, h2⟩, _⟩ := mem_kids.mp hs
      unfold room at hn ⊢
      rw [lift_top]
      omega
    have suf : ∀ s, s ∈ kids e H rs → ∀ x, x ∈ rows e H (lift s rs) → ∃ l, expand x = l ++ s :: expand rs := fun s hs x hx => by
      obtain ⟨l, hl⟩ := rows_suffix _ _ (Nat.le_refl _) (kid h hs) x hx
      exact ⟨l, by rw [hl, expand_lift h.fr.pos]⟩
    constructor
    · intro hx
      obtain ⟨s, hs, hx⟩ := List.mem_flatMap.mp hx
      obtain ⟨l, hl⟩ := suf s (List.mem_reverse.mp hs) rs hx
      have := congrArg List.length hl
      simp at this
      omega
    · have key : ∀ l : List Int, l.Nodup → (∀ s, s ∈ l → s ∈ kids e H rs) → (l.flatMap fun s => rows e H (lift s rs)).Nodup := fun l => by
        induction l with
        | nil => intro _ _; exact List.nodup_nil
        | cons s l ihl =>
          intro hnd hl
          obtain ⟨n1, n2⟩ := List.nodup_cons.mp hnd
          have hs := hl s (List.mem_cons_self ..)
          rw [List.flatMap_cons, List.nodup_append]
          refine ⟨ih _ (hroom s hs) (kid h hs), ihl n2 fun t ht => hl t (List.mem_cons_of_mem _ ht), fun x hx y hy hxy => ?_⟩
          subst hxy
          obtain ⟨t, ht, hy⟩ := List.mem_flatMap.mp hy
          obtain ⟨l1, h1⟩ := suf s hs x hx
          obtain ⟨l2, h2⟩ := suf t (hl t (List.mem_cons_of_mem _ ht)) x hy
          rw [h1] at h2
          have hlen : (l1 : List Int).length = l2.length := by
            have := congrArg List.length h2
            simp at this
            omega
          have := (List.append_inj h2 hlen).2
          injection this with e1 _
          exact n1 (e1 ▸ ht)
      exact key _ ((List.reverse_perm _).nodup_iff.mpr (kids_pw.imp fun h => Int.ne_of_lt h)) fun s hs => List.mem_reverse.mp hs
theorem rows_nil {e H : Int} (e0 : 0 < e) (hH : 0 ≤ H) : RH e H [] := ⟨⟨fun p hp => (nomatch hp), by omega, fun z => by omega, rfl⟩, e0, hH⟩
end Fy.Pu
namespace Fy.Pu
def lens (E H : Nat) : Nat := ((List.range E).map fun (e : Nat) => (rows ((e : Int) + 1) (H : Int) []).length).sum
theorem lens_all : ((List.range 17).all fun H => decide (lens 65 H ≤ 400)) = true := by decide +kernel
theorem lens_le {H : Nat} (h : H ≤ 16) : lens 65 H ≤ 400 := by
  have := List.all_eq_true.mp lens_all H (List.mem_range.mpr (by omega))
  exact of_decide_eq_true this
theorem RH.good {e H : Int} {rs : Rn} (h : RH e H rs) (hH : H ≤ 1000) : ∀ p, p ∈ rs → Good p ∧ p.2 ≤ 1000 := fun p hp => by
  obtain ⟨g1, g2⟩ := h.fr.pos p hp
  have key : ∀ {r : Rn}, Pos r → ∀ p, p ∈ r → p.1 * p.2 ≤ topA r 0 := fun {r} hr => by
    induction r with
    | nil => intro p hp; cases hp
    | cons q r ih =>
      intro p hp
      have hr' : Pos r := fun x hx => hr x (List.mem_cons_of_mem _ hx)
      have h0 := topA_ge (a := 0) hr'
      obtain ⟨k1, k2⟩ := hr q (List.mem_cons_self ..)
      have := Int.mul_pos k1 k2
      rw [topA_cons]
      rcases List.mem_cons.mp hp with rfl | hp
      · omega
      · have := ih hr' p hp
        omega
  have h1 := key h.fr.pos p hp
  have h2 := h.top
  have h3 := Int.mul_le_mul_of_nonneg_left (show 1 ≤ p.2 by omega) (Int.le_of_lt g1)
  have h4 := Int.mul_le_mul_of_nonneg_right (show 1 ≤ p.1 by omega) (Int.le_of_lt g2)
  have p10 : (1024 : Nat) < 2 ^ 1000 := Nat.lt_of_lt_of_le (by decide) (Nat.pow_le_pow_right (by decide) (show 11 ≤ 1000 by decide))
  exact ⟨⟨g1, g2, by omega, by omega⟩, by omega⟩
theorem RH.len {e H : Int} {rs : Rn} (h : RH e H rs) : (rs.length : Int) ≤ H := by
  have key : ∀ {r : Rn}, Pos r → (r.length : Int) ≤ topA r 0 := fun {r} hr => by
    induction r with
    | nil => simp [topA]
    | cons q r ih =>
      have hr' : Pos r := fun x hx => hr x (List.mem_cons_of_mem _ hx)
      obtain ⟨k1, k2⟩ := hr q (List.mem_cons_self ..)
      have := Int.mul_pos k1 k2
      have := ih hr'
      rw [topA_cons, List.length_cons]
      omega
  have := key h.fr.pos
  have := h.top
  omega
end Fy.Pu
set_option Elab.async false
set_option linter.all false
set_option maxRecDepth 100000
/-! The data terms of law_k26_whole_counted_rows, printed by gen.py. -/
namespace Fy
namespace Lk26
open PySem (Str)
abbrev sp__law_any : FSp := spAny
def f_is_integer : FTS := (sRet (fAndV (fUn (qIsI [.int]) (fVar 0)) (fNotV (fUn (qIsI [.bool]) (fVar 0)))))
def sp_is_integer : FSp := spOf 1 0 f_is_integer
def f_is_number : FTS := (sRet (fAndV (fCall sp_is_integer (aCons (fVar 0) aNil)) (fOp qGe (fVar 0) (fC (.int 0)))))
def sp_is_number : FSp := spOf 1 0 f_is_number
def f_is_run : FTS := (sRet (fAndV (fUn (qIsI [.tuple]) (fVar 0)) (fAndV (fOp qEq (fUn qLen (fVar 0)) (fC (.int 2))) (fUn qAll (fLC (iSeq (fVar 0)) (gNm 1) cYes (fAndV (fCall sp_is_number (aCons (fVar 1) aNil)) (fOp qGt (fVar 1) (fC (.int 0)))) [1])))))
def sp_is_run : FSp := spOf 1 1 f_is_run
def f_is_within : FTS := (sSeq (sAsg (fVar 2) (gNm 3)) (sSeq (sFor (iSeq (fVar 0)) (gTp (gMore (gNm 4) (gMore (gNm 5) gNil))) (sSeq (sIf (fTst (fOp qLt (fVar 3) (fOp qMul (fVar 4) (fVar 5)))) (sRet (fOp qEq (fOp qMod (fVar 3) (fVar 4)) (fC (.int 0)))) sNx) (sAsg (fOp qSub (fVar 3) (fOp qMul (fVar 4) (fVar 5))) (gNm 3)))) (sRet (fIfE (fTst (fOp qEq (fVar 1) (fC (.int 0)))) (fOp qEq (fVar 3) (fC (.int 0))) (fOp qEq (fOp qMod (fVar 3) (fVar 1)) (fC (.int 0)))))))
def sp_is_within : FSp := spOf 3 3 f_is_within
def f_is_falling : FTS := (sSeq (sIf (fOr (fNot (fTst (fUn (qIsI [.tuple]) (fVar 0)))) (fOr (fTst (fOp qNe (fUn qLen (fVar 0)) (fC (.int 2)))) (fOr (fNot (fTst (fUn (qIsI [.tuple]) (fOp qIx (fVar 0) (fC (.int 0)))))) (fNot (fTst (fCall sp_is_number (aCons (fOp qIx (fVar 0) (fC (.int 1))) aNil))))))) (sRet (fC (.bl false))) sNx) (sSeq (sAsg (fVar 0) (gTp (gMore (gNm 2) (gMore (gNm 3) gNil)))) (sSeq (sIf (fOr (fNot (fTst (fUn qAll (fLC (iSeq (fVar 2)) (gNm 5) cYes (fCall sp_is_run (aCons (fVar 5) aNil)) [5])))) (fAnd (fTst (fOp qEq (fVar 3) (fC (.int 0)))) (fTst (fOp qGt (fUn qLen (fVar 2)) (fC (.int 0)))))) (sRet (fC (.bl false))) sNx) (sSeq (sAsg (fLstS (aStar (fLC (iSeq (fVar 2)) (gTp (gMore (gNm 6) (gMore (gNm 7) gNil))) cYes (fVar 6) [6, 7]) (aCons (fVar 3) aNil))) (gNm 1)) (sSeq (sIf (fNot (fTst (fUn qAll (fLC (iRng1 (fUn qLen (fVar 2))) (gNm 4) cYes (fOp qGt (fOp qIx (fVar 1) (fVar 4)) (fOp qIx (fVar 1) (fOp qAdd (fVar 4) (fC (.int 1))))) [4])))) (sRet (fC (.bl false))) sNx) (sRet (fUn qAll (fLC (iRng1 (fUn qLen (fVar 2))) (gNm 4) cYes (fCall sp_is_within (aCons (fCut (fVar 2) (oSome (fOp qAdd (fVar 4) (fC (.int 1)))) oNone) (aCons (fVar 3) (aCons (fOp qIx (fOp qIx (fVar 2) (fVar 4)) (fC (.int 0))) aNil)))) [4]))))))))
def sp_is_falling : FSp := spOf 1 7 f_is_falling
def f_checked_falling : FTS := (sSeq (sIf (fNot (fTst (fCall sp_is_falling (aCons (fVar 0) aNil)))) (sRaise 4 (fC (.int 0))) sNx) (sRet (fVar 0)))
def sp_checked_falling : FSp := spOf 1 0 f_checked_falling
def f_lifted : FTS := (sSeq (sAsg (fVar 0) (gTp (gMore (gNm 2) (gMore (gNm 3) gNil)))) (sSeq (sIf (fAnd (fTst (fOp qGt (fUn qLen (fVar 2)) (fC (.int 0)))) (fTst (fOp qEq (fOp qIx (fOp qIx (fVar 2) (fC (.int 0))) (fC (.int 0))) (fVar 1)))) (sRet (fTup (aCons (fTupS (aCons (fTup (aCons (fVar 1) (aCons (fOp qAdd (fOp qIx (fOp qIx (fVar 2) (fC (.int 0))) (fC (.int 1))) (fC (.int 1))) aNil))) (aStar (fCut (fVar 2) (oSome (fC (.int 1))) oNone) aNil))) (aCons (fVar 3) aNil)))) sNx) (sRet (fTup (aCons (fTupS (aCons (fTup (aCons (fVar 1) (aCons (fC (.int 1)) aNil))) (aStar (fVar 2) aNil))) (aCons (fVar 3) aNil))))))
def sp_lifted : FSp := spOf 2 2 f_lifted
def f_steps_for : FTS := (sSeq (sPar2 2 3 (fLst aNil) (fC (.int 0))) (sSeq (sFor (iSeq (fOp qIx (fVar 0) (fC (.int 0)))) (gTp (gMore (gNm 4) (gMore (gNm 5) gNil))) (sFor (iRng1 (fVar 5)) (gNm 6) (sSeq (sAsg (fOp qAdd (fVar 3) (fVar 4)) (gNm 3)) (sSeq (sIf (fTst (fOp qGt (fVar 3) (fVar 1))) (sRet (fVar 2)) sNx) (sMut 2 oAppend (aCons (fVar 3) aNil)))))) (sRet (fLstS (aStar (fVar 2) (aStarR3 (aCons (fOp qAdd (fVar 3) (fOp qIx (fVar 0) (fC (.int 1)))) (aCons (fOp qAdd (fVar 1) (fC (.int 1))) (aCons (fOp qIx (fVar 0) (fC (.int 1))) aNil))) aNil))))))
def sp_steps_for : FSp := spOf 2 5 f_steps_for
def f_rows_with : FTS := (sSeq (sPar2 2 3 (fLst aNil) (fLst (aCons (fTup (aCons (fTup aNil) (aCons (fVar 0) aNil))) aNil))) (sSeq (sWhile (fTst (fOp qGt (fUn qLen (fVar 3)) (fC (.int 0)))) (sSeq (sPopSet 4 3 vPop aNil) (sSeq (sMut 2 oAppend (aCons (fVar 4) aNil)) (sSeq (sAsg (fOp qSub (fVar 1) (fUn qSum (fLC (iSeq (fOp qIx (fVar 4) (fC (.int 0)))) (gTp (gMore (gNm 6) (gMore (gNm 7) gNil))) cYes (fOp qMul (fVar 6) (fVar 7)) [6, 7]))) (gNm 5)) (sFor (iSeq (fCall sp_steps_for (aCons (fVar 4) (aCons (fVar 5) aNil)))) (gNm 6) (sIf (fOr (fTst (fOp qGt (fUn qLen (fOp qIx (fVar 4) (fC (.int 0)))) (fC (.int 0)))) (fTst (fOp qNe (fVar 6) (fVar 0)))) (sMut 3 oAppend (aCons (fCall sp_lifted (aCons (fVar 4) (aCons (fVar 6) aNil))) aNil)) sNx)))))) (sRet (fVar 2))))
def sp_rows_with : FSp := spOf 2 6 f_rows_with
def f_sum_of : FTS := (sRet (fUn qSum (fLC (iSeq (fOp qIx (fVar 0) (fC (.int 0)))) (gTp (gMore (gNm 1) (gMore (gNm 2) gNil))) cYes (fOp qMul (fVar 1) (fVar 2)) [1, 2])))
def sp_sum_of : FSp := spOf 1 2 f_sum_of
def f_rows_of : FTS := (sRet (fUn qSortR (fLC (iSeq (fCall sp_rows_with (aCons (fC (.int 1)) (aCons (fVar 0) aNil)))) (gNm 1) (fTst (fOp qEq (fCall sp_sum_of (aCons (fVar 1) aNil)) (fVar 0))) (fVar 1) [1])))
def sp_rows_of : FSp := spOf 1 1 f_rows_of
def f_how_many : FTS := (sRet (fUn qLen (fCall sp_rows_of (aCons (fVar 0) aNil))))
def sp_how_many : FSp := spOf 1 0 f_how_many
def f_row_at : FTS := (sSeq (sAsg (fCall sp_rows_of (aCons (fVar 0) aNil)) (gNm 2)) (sSeq (sIf (fTst (fOp qGe (fVar 1) (fUn qLen (fVar 2)))) (sRaise 5 (fC (.int 1))) sNx) (sRet (fOp qIx (fVar 2) (fVar 1)))))
def sp_row_at : FSp := spOf 2 1 f_row_at
def f_index_of : FTS := (sSeq (sAsg (fCall sp_sum_of (aCons (fCall sp_checked_falling (aCons (fVar 0) aNil)) aNil)) (gNm 1)) (sSeq (sIf (fOr (fTst (fOp qNe (fOp qIx (fVar 0) (fC (.int 1))) (fC (.int 1)))) (fTst (fOp qGt (fVar 1) (fC (.int 30))))) (sRaise 5 (fC (.int 0))) sNx) (sRet (fIdx (fCall sp_rows_of (aCons (fVar 1) aNil)) (fVar 0)))))
def sp_index_of : FSp := spOf 1 1 f_index_of
def f__law_draw : FTS := (sSeq (sAsg (fLC (iSeq (fCut (fVar 0) oNone (oSome (fC (.int 48))))) (gNm 4) cYes (fUn qAbs (fUn qInt (fVar 4))) [4]) (gNm 2)) (sSeq (sAsg (fOp qAdd (fC (.int 7919)) (fOp qMul (fC (.int 104729)) (fVar 1))) (gNm 3)) (sSeq (sFor (iSeq (fVar 2)) (gNm 4) (sAsg (fOp qMod (fUn qInt (fOp qAdd (fOp qAdd (fOp qMul (fVar 3) (fC (.int 48271))) (fOp qMod (fVar 4) (fC (.int 2147483549)))) (fC (.int 11)))) (fC (.int 2147483647))) (gNm 3))) (sRet (fLst (aCons (fUn qRev (fLC (iSeq (fVar 2)) (gNm 4) (fTst (fOp qGe (fVar 4) (fOp qPow (fC (.int 10)) (fC (.int 18))))) (fVar 4) [4])) (aCons (fVar 3) aNil)))))))
def sp__law_draw : FSp := spOf 2 3 f__law_draw
def f__law_of : FTS := (sRet (fOp qIx (fVar 1) (fCall sp__law_any (aCons (fVar 0) (aCons (fUn qLen (fVar 1)) aNil)))))
def sp__law_of : FSp := spOf 2 0 f__law_of
def f__law_in : FTS := (sSeq (sAsg (fC (.int 0)) (gNm 2)) (sSeq (sFor (iSeq (fOp qIx (fVar 0) (fC (.int 0)))) (gTp (gMore (gNm 3) (gMore (gNm 4) gNil))) (sSeq (sIf (fTst (fOp qLe (fVar 1) (fOp qAdd (fVar 2) (fOp qMul (fVar 3) (fVar 4))))) (sRet (fOp qEq (fOp qMod (fUn qInt (fOp qSub (fVar 1) (fVar 2))) (fVar 3)) (fC (.int 0)))) sNx) (sAsg (fOp qAdd (fVar 2) (fOp qMul (fVar 3) (fVar 4))) (gNm 2)))) (sRet (fIfE (fTst (fOp qEq (fOp qIx (fVar 0) (fC (.int 1))) (fC (.int 0)))) (fOp qEq (fVar 1) (fVar 2)) (fOp qEq (fOp qMod (fUn qInt (fOp qSub (fVar 1) (fVar 2))) (fOp qIx (fVar 0) (fC (.int 1)))) (fC (.int 0)))))))
def sp__law_in : FSp := spOf 2 3 f__law_in
def f__law_euclid : FTS := (sSeq (sPar2 1 2 (fUn qSorted (fUn qSetL (fLC (iSeq (fVar 0)) (gNm 6) (fTst (fOp qGt (fVar 6) (fC (.int 0)))) (fVar 6) [6]))) (fLst aNil)) (sSeq (sWhile (fTst (fOp qNe (fVar 1) (fLst aNil))) (sSeq (sAsg (fOp qIx (fVar 1) (fC (.int 0))) (gNm 3)) (sSeq (sAsg (fLC (iSeq (fVar 1)) (gNm 6) (fTst (fOp qGt (fOp qMod (fUn qInt (fVar 6)) (fVar 3)) (fC (.int 0)))) (fOp qDiv (fVar 6) (fVar 3)) [6]) (gNm 4)) (sSeq (sIf (fTst (fOp qEq (fVar 4) (fLst aNil))) (sRet (fTup (aCons (fUn qTuple (fVar 2)) (aCons (fVar 3) aNil)))) sNx) (sSeq (sAsg (fUn qMin (fVar 4)) (gNm 5)) (sSeq (sMut 2 oAppend (aCons (fTup (aCons (fVar 3) (aCons (fVar 5) aNil))) aNil)) (sAsg (fUn qSorted (fUn qSetL (fOp qAdd (fLC (iSeq (fVar 1)) (gNm 6) (fTst (fOp qGt (fVar 6) (fOp qMul (fVar 3) (fVar 5)))) (fOp qSub (fVar 6) (fOp qMul (fVar 3) (fVar 5))) [6]) (fLst (aCons (fVar 3) aNil))))) (gNm 1)))))))) (sRet (fTup (aCons (fTup aNil) (aCons (fC (.int 0)) aNil))))))
def sp__law_euclid : FSp := spOf 1 6 f__law_euclid
def f__law_row : FTS := (sSeq (sAsg (fCall sp__law_any (aCons (fVar 0) (aCons (fC (.int 8)) aNil))) (gNm 1)) (sSeq (sIf (fTst (fOp qEq (fVar 1) (fC (.int 0)))) (sRet (fTup (aCons (fTup aNil) (aCons (fCall sp__law_any (aCons (fVar 0) (aCons (fC (.int 5)) aNil))) aNil)))) sNx) (sSeq (sIf (fTst (fOp qLt (fVar 1) (fC (.int 4)))) (sRet (fCall sp__law_euclid (aCons (fLC (iRng1 (fOp qAdd (fC (.int 1)) (fCall sp__law_any (aCons (fVar 0) (aCons (fC (.int 4)) aNil))))) (gNm 4) cYes (fOp qAdd (fC (.int 1)) (fCall sp__law_any (aCons (fVar 0) (aCons (fC (.int 24)) aNil)))) [4]) aNil))) sNx) (sSeq (sIf (fTst (fOp qLt (fVar 1) (fC (.int 6)))) (sSeq (sAsg (fCall sp__law_of (aCons (fVar 0) (aCons (fLst (aCons (fC (.int 1)) (aCons (fC (.int 1)) (aCons (fC (.int 2)) (aCons (fC (.int 3)) (aCons (fC (.int 6)) aNil)))))) aNil))) (gNm 3)) (sRet (fCall sp__law_euclid (aCons (fOp qAdd (fLC (iRng1 (fOp qAdd (fC (.int 2)) (fCall sp__law_any (aCons (fVar 0) (aCons (fC (.int 2)) aNil))))) (gNm 4) cYes (fOp qMul (fVar 3) (fOp qAdd (fC (.int 1)) (fCall sp__law_any (aCons (fVar 0) (aCons (fC (.int 12)) aNil))))) [4]) (fLst (aCons (fOp qMul (fVar 3) (fOp qAdd (fC (.int 20)) (fCall sp__law_any (aCons (fVar 0) (aCons (fC (.int 9)) aNil))))) aNil))) aNil)))) sNx) (sSeq (sAsg (fCall sp__law_of (aCons (fVar 0) (aCons (fLst (aCons (fOp qPow (fC (.int 10)) (fC (.int 3))) (aCons (fOp qPow (fC (.int 10)) (fC (.int 6))) (aCons (fOp qPow (fC (.int 10)) (fC (.int 12))) (aCons (fOp qPow (fC (.int 10)) (fC (.int 29))) aNil))))) aNil))) (gNm 2)) (sRet (fCall sp__law_euclid (aCons (fLC (iRng1 (fOp qAdd (fC (.int 1)) (fCall sp__law_any (aCons (fVar 0) (aCons (fC (.int 4)) aNil))))) (gNm 4) cYes (fOp qAdd (fC (.int 1)) (fCall sp__law_any (aCons (fVar 0) (aCons (fVar 2) aNil)))) [4]) aNil))))))))
def sp__law_row : FSp := spOf 1 4 f__law_row
def f__law_small_row : FTS := (sSeq (sAsg (fCall sp__law_of (aCons (fVar 0) (aCons (fLst (aCons (fC (.int 1)) (aCons (fC (.int 1)) (aCons (fC (.int 1)) (aCons (fC (.int 2)) (aCons (fC (.int 3)) (aCons (fC (.int 4)) (aCons (fC (.int 6)) aNil)))))))) aNil))) (gNm 1)) (sSeq (sIf (fTst (fOp qEq (fCall sp__law_any (aCons (fVar 0) (aCons (fC (.int 10)) aNil))) (fC (.int 0)))) (sRet (fTup (aCons (fTup aNil) (aCons (fC (.int 0)) aNil)))) sNx) (sSeq (sAsg (fLC (iRng1 (fCall sp__law_any (aCons (fVar 0) (aCons (fC (.int 4)) aNil)))) (gNm 3) cYes (fOp qMul (fVar 1) (fOp qAdd (fC (.int 1)) (fCall sp__law_any (aCons (fVar 0) (aCons (fCall sp__law_of (aCons (fVar 0) (aCons (fLst (aCons (fC (.int 4)) (aCons (fC (.int 9)) (aCons (fC (.int 16)) aNil)))) aNil))) aNil))))) [3]) (gNm 2)) (sSeq (sIf (fTst (fOp qGt (fCall sp__law_any (aCons (fVar 0) (aCons (fC (.int 3)) aNil))) (fC (.int 0)))) (sAsg (fOp qAdd (fVar 2) (fLst (aCons (fOp qMul (fVar 1) (fOp qAdd (fC (.int 10)) (fCall sp__law_any (aCons (fVar 0) (aCons (fC (.int 6)) aNil))))) (aCons (fOp qMul (fVar 1) (fC (.int 17))) aNil)))) (gNm 2)) sNx) (sRet (fIfE (fTst (fOp qNe (fVar 2) (fLst aNil))) (fCall sp__law_euclid (aCons (fOp qAdd (fVar 2) (fLst (aCons (fOp qMul (fVar 1) (fC (.int 18))) aNil))) aNil)) (fTup (aCons (fTup aNil) (aCons (fVar 1) aNil)))))))))
def sp__law_small_row : FSp := spOf 1 3 f__law_small_row
def f__law_top : FTS := (sRet (fUn qSum (fLC (iSeq (fOp qIx (fVar 0) (fC (.int 0)))) (gTp (gMore (gNm 1) (gMore (gNm 2) gNil))) cYes (fOp qMul (fVar 1) (fVar 2)) [1, 2])))
def sp__law_top : FSp := spOf 1 2 f__law_top
def f__law_none_row : FTS := (sRet (fCall sp__law_of (aCons (fVar 0) (aCons (fLst (aCons (fC .non) (aCons (fTup aNil) (aCons (fTup (aCons (fTup (aCons (fTup (aCons (fC (.int 2)) (aCons (fC (.int 1)) aNil))) aNil)) (aCons (fC (.int 0)) aNil))) (aCons (fTup (aCons (fTup (aCons (fTup (aCons (fC (.int 2)) (aCons (fC (.int 1)) aNil))) aNil)) (aCons (fC (.int 2)) aNil))) (aCons (fLst (aCons (fTup aNil) (aCons (fC (.int 1)) aNil))) (aCons (fTup (aCons (fTup (aCons (fTup (aCons (fC (.int 3)) (aCons (fC (.int 1)) aNil))) aNil)) (aCons (fC (.int 2)) aNil))) (aCons (fTup (aCons (fTup aNil) (aCons (fUn qNeg (fC (.int 1))) aNil))) (aCons (fTup (aCons (fTup aNil) (aCons (fC (.bl true)) aNil))) (aCons (fTup (aCons (fTup (aCons (fTup (aCons (fC (.int 1)) (aCons (fC (.int 1)) aNil))) (aCons (fTup (aCons (fC (.int 2)) (aCons (fC (.int 1)) aNil))) aNil))) (aCons (fC (.int 1)) aNil))) (aCons (fTup (aCons (fTup (aCons (fTup (aCons (fC (.int 2)) (aCons (fC (.int 0)) aNil))) aNil)) (aCons (fC (.int 1)) aNil))) aNil))))))))))) aNil))))
def sp__law_none_row : FSp := spOf 1 0 f__law_none_row
def f__law_rows_low : FTS := (sSeq (sPar2 2 3 (fLst aNil) (fLst (aCons (fLst aNil) aNil))) (sSeq (sWhile (fTst (fOp qNe (fVar 3) (fLst aNil))) (sSeq (sPopSet 4 3 vPop aNil) (sSeq (sAsg (fLst aNil) (gNm 5)) (sSeq (sFor (iSeq (fVar 4)) (gNm 6) (sIf (fAnd (fTst (fOp qNe (fVar 5) (fLst aNil))) (fTst (fOp qEq (fOp qIx (fOp qIx (fVar 5) (fUn qNeg (fC (.int 1)))) (fC (.int 0))) (fVar 6)))) (sStL 5 (fUn qNeg (fC (.int 1))) (fTup (aCons (fVar 6) (aCons (fOp qAdd (fOp qIx (fOp qIx (fVar 5) (fUn qNeg (fC (.int 1)))) (fC (.int 1))) (fC (.int 1))) aNil)))) (sMut 5 oAppend (aCons (fTup (aCons (fVar 6) (aCons (fC (.int 1)) aNil))) aNil)))) (sSeq (sAsg (fTup (aCons (fUn qTuple (fVar 5)) (aCons (fVar 0) aNil))) (gNm 7)) (sSeq (sMut 2 oAppend (aCons (fVar 7) aNil)) (sFor (iRng2 (fC (.int 1)) (fOp qAdd (fOp qSub (fVar 1) (fUn qSum (fVar 4))) (fC (.int 1)))) (gNm 6) (sIf (fAnd (fTst (fCall sp__law_in (aCons (fVar 7) (aCons (fVar 6) aNil)))) (fOr (fTst (fOp qNe (fVar 4) (fLst aNil))) (fTst (fOp qNe (fVar 6) (fVar 0))))) (sMut 3 oAppend (aCons (fOp qAdd (fLst (aCons (fVar 6) aNil)) (fVar 4)) aNil)) sNx)))))))) (sRet (fVar 2))))
def sp__law_rows_low : FSp := spOf 2 6 f__law_rows_low
def f__law_asked : FTS := (sTryN (sRet (fTup (aCons (fC (.str "told")) (aCons (fIfE (fTst (fOp qEq (fVar 0) (fC (.int 0)))) (fCallP sp_row_at [1, 0] (aCons (fVar 2) (aCons (fVar 1) aNil))) (fCallP sp_index_of [0] (aCons (fVar 1) aNil))) aNil)))) [((fun t => t == 4), (some 3), (sRet (fTup (aCons (fC (.str "question")) (aCons (fUn qAt (fVar 3)) aNil))))), ((fun t => t == 5), (some 4), (sRet (fTup (aCons (fC (.str "refused")) (aCons (fUn qAt (fVar 4)) aNil)))))])
def sp__law_asked : FSp := spOf 3 2 f__law_asked
def f__law_by_sets : FTS := (sSeq (sPar2 2 3 (fC (.int 0)) (fLstR2 (fC (.int 1)) (fOp qSub (fVar 0) (fC (.int 1))))) (sSeq (sFor (iRng1 (fOp qIx (fLst (aCons (fC (.int 1)) (aCons (fC (.int 1)) (aCons (fC (.int 1)) (aCons (fC (.int 2)) (aCons (fC (.int 4)) (aCons (fC (.int 8)) (aCons (fC (.int 16)) (aCons (fC (.int 32)) (aCons (fC (.int 64)) aNil)))))))))) (fVar 0))) (gNm 1) (sSeq (sAsg (fTup (aCons (fVar 1) (aCons (fLst (aCons (fC (.int 0)) aNil)) aNil))) (gTp (gMore (gNm 8) (gMore (gNm 5) gNil)))) (sSeq (sFor (iSeq (fVar 3)) (gNm 4) (sSeq (sAsg (fIfE (fTst (fOp qEq (fOp qMod (fUn qInt (fVar 8)) (fC (.int 2))) (fC (.int 1)))) (fOp qAdd (fVar 5) (fLst (aCons (fVar 4) aNil))) (fVar 5)) (gNm 5)) (sAsg (fOp qDiv (fVar 8) (fC (.int 2))) (gNm 8)))) (sSeq (sAsg (fOp qAdd (fVar 5) (fLstR2 (fVar 0) (fOp qAdd (fOp qMul (fC (.int 2)) (fVar 0)) (fC (.int 1))))) (gNm 5)) (sSeq (sAsg (fC (.bl false)) (gNm 6)) (sSeq (sFor (iSeq (fVar 5)) (gNm 7) (sFor (iSeq (fVar 5)) (gNm 9) (sIf (fNot (fTst (fVar 6))) (sAsg (fOp qNe (fLC (iSeq (fVar 5)) (gNm 10) (fAnd (fTst (fOp qLe (fVar 10) (fOp qMin2 (fVar 7) (fVar 9)))) (fAnd (fTst (fOp qLe (fOp qSub (fOp qAdd (fVar 7) (fVar 9)) (fVar 10)) (fOp qMul (fC (.int 2)) (fVar 0)))) (fTst (fOp qNotIn (fOp qSub (fOp qAdd (fVar 7) (fVar 9)) (fVar 10)) (fVar 5))))) (fVar 10) [10]) (fLst aNil)) (gNm 6)) sNx))) (sAsg (fIfE (fTst (fVar 6)) (fVar 2) (fOp qAdd (fVar 2) (fC (.int 1)))) (gNm 2)))))))) (sRet (fVar 2))))
def sp__law_by_sets : FSp := spOf 1 10 f__law_by_sets
def f_law0 : FTS := (sAsg (fCall sp__law_draw (aCons (fVar 0) (aCons (fC (.int 26)) aNil))) (gNm 1))
def f_law : FTS := (sSeq (sAsg (fIfE (fTst (fOp qGt (fCall sp__law_any (aCons (fVar 1) (aCons (fC (.int 6)) aNil))) (fC (.int 0)))) (fCall sp__law_any (aCons (fVar 1) (aCons (fC (.int 12)) aNil))) (fOp qAdd (fC (.int 12)) (fCall sp__law_any (aCons (fVar 1) (aCons (fC (.int 7)) aNil))))) (gNm 2)) (sSeq (sAsg (fUn qSortR (fLC (iSeq (fCall sp__law_rows_low (aCons (fC (.int 1)) (aCons (fVar 2) aNil)))) (gNm 6) (fTst (fOp qEq (fCall sp__law_top (aCons (fVar 6) aNil)) (fVar 2))) (fVar 6) [6])) (gNm 3)) (sSeq (sIf (fOr (fTst (fOp qNe (fUn qRepr (fCall sp_how_many (aCons (fVar 2) aNil))) (fUn qRepr (fUn qLen (fVar 3))))) (fTst (fOp qNe (fUn qRepr (fCallP sp_how_many [0] (aCons (fVar 2) aNil))) (fUn qRepr (fUn qLen (fVar 3)))))) (sRet (fC (.bl false))) sNx) (sSeq (sAsg (fOp qAdd (fC (.int 2)) (fCall sp__law_any (aCons (fVar 1) (aCons (fC (.int 5)) aNil)))) (gNm 4)) (sSeq (sIf (fOr (fTst (fOp qNe (fCall sp_how_many (aCons (fVar 4) aNil)) (fCall sp__law_by_sets (aCons (fVar 4) aNil)))) (fOr (fTst (fOp qNe (fCall sp_how_many (aCons (fC (.int 1)) aNil)) (fC (.int 0)))) (fTst (fOp qNe (fCall sp_how_many (aCons (fC (.int 0)) aNil)) (fC (.int 1)))))) (sRet (fC (.bl false))) sNx) (sSeq (sFor (iRng1 (fC (.int 2))) (gNm 5) (sSeq (sAsg (fCall sp__law_any (aCons (fVar 1) (aCons (fOp qAdd (fUn qLen (fVar 3)) (fC (.int 2))) aNil))) (gNm 7)) (sSeq (sIf (fTst (fOp qNe (fUn qRepr (fCall sp__law_asked (aCons (fC (.int 0)) (aCons (fVar 2) (aCons (fVar 7) aNil))))) (fUn qRepr (fIfE (fTst (fOp qLt (fVar 7) (fUn qLen (fVar 3)))) (fTup (aCons (fC (.str "told")) (aCons (fOp qIx (fVar 3) (fVar 7)) aNil))) (fTup (aCons (fC (.str "refused")) (aCons (fC (.int 1)) aNil))))))) (sRet (fC (.bl false))) sNx) (sIf (fAnd (fTst (fOp qLt (fVar 7) (fUn qLen (fVar 3)))) (fTst (fOp qNe (fUn qRepr (fCall sp__law_asked (aCons (fC (.int 1)) (aCons (fOp qIx (fVar 3) (fVar 7)) (aCons (fC .non) aNil))))) (fUn qRepr (fTup (aCons (fC (.str "told")) (aCons (fVar 7) aNil))))))) (sRet (fC (.bl false))) sNx)))) (sSeq (sIf (fTst (fOp qNe (fCall sp__law_asked (aCons (fC (.int 0)) (aCons (fVar 2) (aCons (fOp qPow (fC (.int 10)) (fC (.int 20))) aNil)))) (fTup (aCons (fC (.str "refused")) (aCons (fC (.int 1)) aNil))))) (sRet (fC (.bl false))) sNx) (sSeq (sAsg (fCall sp__law_of (aCons (fVar 1) (aCons (fLst (aCons (fCall sp__law_row (aCons (fVar 1) aNil)) (aCons (fCall sp__law_small_row (aCons (fVar 1) aNil)) (aCons (fTup (aCons (fTup aNil) (aCons (fC (.int 0)) aNil))) (aCons (fTup (aCons (fTup aNil) (aCons (fC (.int 2)) aNil))) (aCons (fTup (aCons (fTup (aCons (fTup (aCons (fC (.int 31)) (aCons (fC (.int 1)) aNil))) aNil)) (aCons (fC (.int 1)) aNil))) (aCons (fTup (aCons (fTup (aCons (fTup (aCons (fC (.int 30)) (aCons (fC (.int 1)) aNil))) aNil)) (aCons (fC (.int 2)) aNil))) aNil))))))) aNil))) (gNm 6)) (sSeq (sIf (fAnd (fOr (fTst (fOp qNe (fOp qIx (fVar 6) (fC (.int 1))) (fC (.int 1)))) (fTst (fOp qGt (fCall sp__law_top (aCons (fVar 6) aNil)) (fC (.int 30))))) (fTst (fOp qNe (fCall sp__law_asked (aCons (fC (.int 1)) (aCons (fVar 6) (aCons (fC .non) aNil)))) (fTup (aCons (fC (.str "refused")) (aCons (fC (.int 0)) aNil)))))) (sRet (fC (.bl false))) sNx) (sRet (fOp qEq (fCall sp__law_asked (aCons (fC (.int 1)) (aCons (fCall sp__law_none_row (aCons (fVar 1) aNil)) (aCons (fC .non) aNil)))) (fTup (aCons (fC (.str "question")) (aCons (fC (.int 0)) aNil))))))))))))))
def Holds (ns : List Int) : Prop := lawF 7 1 f_law0 f_law ns
end Lk26
end Fy
set_option Elab.async false
set_option linter.all false
set_option maxRecDepth 100000
set_option maxHeartbeats 4000000
namespace Fy
namespace Lk26
open Pu
open PySem (Str)
variable {v : D} {s : S} {Q : KD} {X : XC}
theorem p_is_integer (h : pl v = true) (q : Q (.bl (isI v)) s) : sp_is_integer [v] s Q X := by
  refine ⟨rfl, ?_⟩
  cases v <;> first | cases h | skip
  all_goals first | exact ⟨_, rfl, q⟩ | exact ⟨_, rfl, _, rfl, q⟩
theorem p_is_number (h : pl v = true) (q : Q (.bl (isN v)) s) : sp_is_number [v] s Q X := by
  refine ⟨rfl, ?_⟩
  show sp_is_integer [v] s _ _
  refine p_is_integer h ?_
  cases v <;> first | exact q | cases h
theorem p_is_run (h : pl v = true) (q : Q (.bl (isR v)) s) : sp_is_run [v] s Q X := by
  refine ⟨rfl, ?_⟩
  cases v with
  | tup l =>
    refine ⟨true, rfl, rfl, rfl, ?_⟩
    have fin : l.length ≠ 2 → isR (.tup l) = false := fun hn => by
      match l, hn with
      | [], _ => rfl
      | [_], _ => rfl
      | [_, _], hn => exact absurd rfl hn
      | _ :: _ :: _ :: _, _ => rfl
    by_cases h2 : l.length = 2
    · match l, h2, h, q with
      | [a, b], _, h, q =>
        show compL (gNm 1) cYes (fAndV (fCall sp_is_number (aCons (fVar 1) aNil)) (fOp qGt (fVar 1) (fC (.int 0)))) [a, b] [] [some (.tup [a, b]), none] s _
        refine comp_map (f := fun x => .bl (pos x)) (fun x => pl x = true) (fun x s Q hx qx => ⟨[some (.tup [a, b]), some x], fun R r => r, ?_⟩) [a, b] [] s (pls_all (pl_tup h)) (by show 2 ≤ 16777216; decide) ⟨[pos a, pos b], rfl, ?_⟩
        · show sp_is_number [x] s _ _
          refine p_is_number hx ?_
          cases x <;> first | exact qx | skip
          rename_i i
          show isB _ (.bl (decide (0 ≤ i)))
          by_cases hi : 0 ≤ i
          · rw [decide_eq_true hi]
            exact qx
          · rw [decide_eq_false hi]
            have e : pos (.int i) = false := decide_eq_false (by omega)
            rw [e] at qx
            exact qx
        · show Q (.bl (pos a && (pos b && true))) s
          rw [Bool.and_true]
          exact q
    · have hb : (D.int l.length).eqv (.int 2) = false := by
        show ((l.length : Int) == 2) = false
        rw [beq_eq_false_iff_ne]
        omega
      show isB _ (.bl ((D.int l.length).eqv (.int 2)))
      rw [hb]
      rw [fin h2] at q
      exact q
  | _ => first | exact ⟨_, rfl, q⟩ | cases h
theorem p_is_within {rs : List (Int × Int)} {e n : Int} {d : D} (hd : d = .tup (rs.map prD) ∨ d = .lst (rs.map prD)) (hg : ∀ p, p ∈ rs → Good p) (he : 0 ≤ e) (q : Q (.bl (inR rs e n)) s) : sp_is_within [d, .int e, .int n] s Q X := by
  refine ⟨rfl, ?_⟩
  have go : forL (gTp (gMore (gNm 4) (gMore (gNm 5) gNil))) (sSeq (sIf (fTst (fOp qLt (fVar 3) (fOp qMul (fVar 4) (fVar 5)))) (sRet (fOp qEq (fOp qMod (fVar 3) (fVar 4)) (fC (.int 0)))) sNx) (sAsg (fOp qSub (fVar 3) (fOp qMul (fVar 4) (fVar 5))) (gNm 3))) (rs.map prD)
      { (ends Q X) with nx := (sRet (fIfE (fTst (fOp qEq (fVar 1) (fC (.int 0)))) (fOp qEq (fVar 3) (fC (.int 0))) (fOp qEq (fOp qMod (fVar 3) (fVar 1)) (fC (.int 0))))) (ends Q X) } [some d, some (.int e), some (.int n), some (.int n), none, none] s := by
    refine within_loop (Q := Q) (e := e) (fun b s q => q) (fun n x4 x5 s q => ?_) rs n none none s hg q
    refine ⟨rfl, rfl, ?_⟩
    show (if (e == 0) = true then _ else _)
    unfold inR at q
    by_cases h0 : e = 0
    · subst h0
      exact ⟨rfl, rfl, q⟩
    · rw [if_neg h0] at q
      have hb : (e == 0) = false := by simpa using h0
      rw [hb, if_neg Bool.false_ne_true]
      exact ⟨by omega, rfl, rfl, q⟩
  rcases hd with rfl | rfl
  · exact go
  · exact go
theorem p__law_in {rs : List (Int × Int)} {e n : Int} {d : D} (hd : d = .tup [.tup (rs.map prD), .int e] ∨ d = .tup [.lst (rs.map prD), .int e]) (hg : ∀ p, p ∈ rs → Good p) (he : 0 ≤ e) (q : Q (.bl (inR rs e n)) s) : sp__law_in [d, .int n] s Q X := by
  refine ⟨rfl, ?_⟩
  have go : ∀ d0, d0 = some d → forL (gTp (gMore (gNm 3) (gMore (gNm 4) gNil))) (sSeq (sIf (fTst (fOp qLe (fVar 1) (fOp qAdd (fVar 2) (fOp qMul (fVar 3) (fVar 4))))) (sRet (fOp qEq (fOp qMod (fUn qInt (fOp qSub (fVar 1) (fVar 2))) (fVar 3)) (fC (.int 0)))) sNx) (sAsg (fOp qAdd (fVar 2) (fOp qMul (fVar 3) (fVar 4))) (gNm 2))) (rs.map prD)
      { (ends Q X) with nx := (sRet (fIfE (fTst (fOp qEq (fOp qIx (fVar 0) (fC (.int 1))) (fC (.int 0)))) (fOp qEq (fVar 1) (fVar 2)) (fOp qEq (fOp qMod (fUn qInt (fOp qSub (fVar 1) (fVar 2))) (fOp qIx (fVar 0) (fC (.int 1)))) (fC (.int 0))))) (ends Q X) } [d0, some (.int n), some (.int 0), none, none] s := by
    intro d0 e0
    refine in_loop (Q := Q) (e := e) (N := n) (fun b s q => q) (fun a x4 x5 s q => ?_) rs 0 none none s he hg (by rw [Int.sub_zero]; exact q)
    subst e0
    have ix : ∀ (Q : D → Prop), Q (.int e) → qIx d (.int 1) Q := fun Q hq => by
      rcases hd with rfl | rfl <;> exact ⟨_, rfl, hq⟩
    refine ix _ ⟨rfl, rfl, ?_⟩
    show (if (e == 0) = true then _ else _)
    unfold inR at q
    by_cases h0 : e = 0
    · subst h0
      have q' : Q (.bl (n - a == 0)) s := q
      refine ⟨rfl, rfl, ?_⟩
      show Q (.bl (n == a)) s
      rw [show (n == a) = (n - a == 0) by rw [Bool.eq_iff_iff, beq_iff_eq, beq_iff_eq]; omega]
      exact q'
    · rw [if_neg h0] at q
      have hb : (e == 0) = false := by simpa using h0
      rw [hb, if_neg Bool.false_ne_true]
      exact ix _ ⟨by omega, rfl, rfl, q⟩
  rcases hd with rfl | rfl
  · exact ⟨_, rfl, go _ rfl⟩
  · exact ⟨_, rfl, go _ rfl⟩
/-- the second half of is_falling, over a row of pairs -/
theorem falling_2 {rs : List (Int × Int)} {e : Int} {x0 : Option D} (hg : ∀ p, p ∈ rs → Good p) (he : 0 ≤ e) (hl : rs.length ≤ 1000) (hz : ¬ (e = 0 ∧ 0 < rs.length)) (q : Q (.bl (fall rs e)) s) :
    (sSeq (sAsg (fLstS (aStar (fLC (iSeq (fVar 2)) (gTp (gMore (gNm 6) (gMore (gNm 7) gNil))) cYes (fVar 6) [6, 7]) (aCons (fVar 3) aNil))) (gNm 1)) (sSeq (sIf (fNot (fTst (fUn qAll (fLC (iRng1 (fUn qLen (fVar 2))) (gNm 4) cYes (fOp qGt (fOp qIx (fVar 1) (fVar 4)) (fOp qIx (fVar 1) (fOp qAdd (fVar 4) (fC (.int 1))))) [4])))) (sRet (fC (.bl false))) sNx) (sRet (fUn qAll (fLC (iRng1 (fUn qLen (fVar 2))) (gNm 4) cYes (fCall sp_is_within (aCons (fCut (fVar 2) (oSome (fOp qAdd (fVar 4) (fC (.int 1)))) oNone) (aCons (fVar 3) (aCons (fOp qIx (fOp qIx (fVar 2) (fVar 4)) (fC (.int 0))) aNil)))) [4])))))
      (ends Q X) [x0, none, some (.tup (rs.map prD)), some (.int e), none, none, none, none] s := by
  have L : (rs.map prD).length = rs.length := List.length_map ..
  show compL (gTp (gMore (gNm 6) (gMore (gNm 7) gNil))) cYes (fVar 6) (rs.map prD) [] [x0, none, some (.tup (rs.map prD)), some (.int e), none, none, none, none] s _
  refine comp_each (rs.map prD) (rs.map fun p => .int p.1) [] s (Each.of (a := prD) (b := fun p => .int p.1) fun p _ s Q qx => ⟨[x0, none, some (.tup (rs.map prD)), some (.int e), none, none, some (.int p.1), some (.int p.2)], fun R r => ⟨rfl, r⟩, qx⟩) (by rw [L]; show 0 + rs.length ≤ 16777216; omega) ?_
  refine ⟨by show ((rs.map fun p => D.int p.1) ++ [D.int e]).length ≤ 16777216; simp; omega, ?_⟩
  have es : (rs.map fun p => D.int p.1) ++ [D.int e] = (rs.map (·.1) ++ [e]).map D.int := by simp
  have at_ : ∀ (j : Nat) (R : D → Prop), j ≤ rs.length → R (.int (stp rs e j)) → qIx (.lst ((rs.map fun p => D.int p.1) ++ [D.int e])) (.int (j : Nat)) R := fun j R hj hR => by
    refine ⟨_, ?_, hR⟩
    have hlt : j < (rs.map (·.1) ++ [e]).length := by simp; omega
    have hl2 : ((rs.map fun p => D.int p.1) ++ [D.int e]).length = (rs.map (·.1) ++ [e]).length := by simp
    have ei : ixOf ((rs.map fun p => D.int p.1) ++ [D.int e]).length (j : Nat) = some j := by
      unfold ixOf
      rw [if_pos (by omega), if_pos (by rw [hl2]; omega)]
      rfl
    rw [ei, es]
    show ((rs.map (·.1) ++ [e]).map D.int)[j]? = _
    rw [List.getElem?_map, List.getElem?_eq_getElem hlt]
    show some (D.int _) = some (D.int (stp rs e j))
    unfold stp
    rw [List.getD_eq_getElem?_getD, List.getElem?_eq_getElem hlt]
    rfl
  have rg : rangeD 0 rs.length = (List.range rs.length).map fun (i : Nat) => D.int ((0 : Int) + (i : Int)) := rfl
  refine ⟨by show -(2 ^ 62) ≤ ((rs.map prD).length : Int) ∧ _; rw [L]; omega, ?_⟩
  show compL (gNm 4) cYes (fOp qGt (fOp qIx (fVar 1) (fVar 4)) (fOp qIx (fVar 1) (fOp qAdd (fVar 4) (fC (.int 1))))) (rangeD 0 ((rs.map prD).length : Int).toNat) [] [x0, some (.lst ((rs.map fun p => D.int p.1) ++ [D.int e])), some (.tup (rs.map prD)), some (.int e), none, none, none, none] s _
  rw [show ((rs.map prD).length : Int).toNat = rs.length by rw [L]; rfl, rg]
  refine comp_each _ _ [] s (Each.of (b := fun (i : Nat) => .bl (decide (stp rs e (i + 1) < stp rs e i))) fun i hi s Q qx => ⟨[x0, some (.lst ((rs.map fun p => D.int p.1) ++ [D.int e])), some (.tup (rs.map prD)), some (.int e), some (.int ((0 : Int) + (i : Int))), none, none, none], fun R r => r, ?_⟩) (by simp; show rs.length ≤ 16777216; omega) ?_
  · have hi' : i < rs.length := List.mem_range.mp hi
    rw [Int.zero_add]
    refine at_ i _ (by omega) ?_
    exact at_ (i + 1) _ (by omega) qx
  · refine ⟨_, bools_map, ?_⟩
    rw [all_id]
    show (if (!decB rs e) = true then _ else _)
    rw [← fall_eq] at q
    cases hd : decB rs e with
    | false =>
      rw [hd] at q
      exact q
    | true =>
      rw [hd, Bool.true_and] at q
      refine ⟨by show -(2 ^ 62) ≤ ((rs.map prD).length : Int) ∧ _; rw [L]; omega, ?_⟩
      show compL (gNm 4) cYes (fCall sp_is_within (aCons (fCut (fVar 2) (oSome (fOp qAdd (fVar 4) (fC (.int 1)))) oNone) (aCons (fVar 3) (aCons (fOp qIx (fOp qIx (fVar 2) (fVar 4)) (fC (.int 0))) aNil)))) (rangeD 0 ((rs.map prD).length : Int).toNat) [] [x0, some (.lst ((rs.map fun p => D.int p.1) ++ [D.int e])), some (.tup (rs.map prD)), some (.int e), none, none, none, none] s _
      rw [show ((rs.map prD).length : Int).toNat = rs.length by rw [L]; rfl, rg]
      refine comp_each _ _ [] s (Each.of (b := fun (i : Nat) => .bl (inR (rs.drop (i + 1)) e (stp rs e i))) fun i hi s Q qx => ⟨[x0, some (.lst ((rs.map fun p => D.int p.1) ++ [D.int e])), some (.tup (rs.map prD)), some (.int e), some (.int ((0 : Int) + (i : Int))), none, none, none], fun R r => r, ?_⟩) (by simp; show rs.length ≤ 16777216; omega) ?_
      · have hi' : i < rs.length := List.mem_range.mp hi
        rw [Int.zero_add]
        show qIx (.tup (rs.map prD)) (.int (i : Int)) _
        refine ix_map hi' ⟨.int rs[i].1, rfl, ?_⟩
        show sp_is_within [.tup (cutL (rs.map prD) (some ((i : Int) + 1)) none), .int e, .int rs[i].1] s _ _
        rw [cut_from (by rw [L]; omega), ← List.map_drop]
        refine p_is_within (.inl rfl) (fun p hp => hg p (List.mem_of_mem_drop hp)) he ?_
        rw [show rs[i].1 = stp rs e i by rw [stp_get hi']]
        exact qx
      · exact ⟨_, bools_map, by rw [all_id]; exact q⟩
theorem p_is_falling (h : pl v = true) (q : Q (.bl (isF v)) s) : sp_is_falling [v] s Q X := by
  refine ⟨rfl, ?_⟩
  cases v with
  | tup l =>
    have hl := pl_tup h
    refine ⟨true, rfl, rfl, rfl, ?_⟩
    by_cases h2 : l.length = 2
    · match l, h2, hl, q with
      | [a, b], _, hl, q =>
        have pa : pl a = true := pls_all hl a (List.mem_cons_self ..)
        have pb : pl b = true := pls_all hl b (List.mem_cons_of_mem _ (List.mem_cons_self ..))
        refine ⟨a, rfl, ?_⟩
        cases a with
        | tup rl =>
          refine ⟨true, rfl, ⟨b, rfl, ?_⟩⟩
          show sp_is_number [b] s _ _
          refine p_is_number pb ?_
          have hrl := pl_tup pa
          cases b with
          | int e =>
            by_cases he : 0 ≤ e
            · show (if (!decide (0 ≤ e)) = true then _ else _)
              rw [decide_eq_true he, if_neg (by decide)]
              refine ⟨rfl, ?_⟩
              show compL (gNm 5) cYes (fCall sp_is_run (aCons (fVar 5) aNil)) rl [] [some (.tup [.tup rl, .int e]), none, some (.tup rl), some (.int e), none, none, none, none] s _
              refine comp_each rl (rl.map fun x => .bl (isR x)) [] s (Each.map fun x hx s Q qx => ⟨[some (.tup [.tup rl, .int e]), none, some (.tup rl), some (.int e), none, some x, none, none], fun R r => r, p_is_run (pls_all hrl x hx) qx⟩) (by have := pl_len pa; show 0 + rl.length ≤ 16777216; omega) ?_
              refine ⟨_, bools_map, ?_⟩
              rw [all_id]
              show (if (!rl.all isR) = true then _ else _)
              cases hr : rl.all isR with
              | false =>
                have hF : isF (.tup [.tup rl, .int e]) = false := by
                  show (decide (0 ≤ e) && _) = false
                  rw [runsOf_no hr]
                  exact Bool.and_false _
                rw [hF] at q
                exact q
              | true =>
                obtain ⟨rs, _, rfl, hg⟩ := runsOf_all hrl hr
                have hlen : rs.length ≤ 1000 := by
                  have := pl_len pa
                  rw [List.length_map] at this
                  exact this
                have q' : Q (.bl (isF (rowD rs e))) s := q
                rw [isF_some hg, decide_eq_true he, Bool.true_and] at q'
                refine ⟨rfl, rfl, ?_⟩
                show (if (e == 0) = true then _ else _)
                by_cases h0 : e = 0
                · rw [show (e == 0) = true by simpa using h0, if_pos rfl]
                  show (if decide (0 < (((rs.map prD).length : Nat) : Int)) = true then _ else _)
                  by_cases hp : 0 < rs.length
                  · rw [decide_eq_true (by rw [List.length_map]; omega), if_pos rfl]
                    rw [decide_eq_true h0, decide_eq_true hp] at q'
                    exact q'
                  · rw [decide_eq_false (by rw [List.length_map]; omega), if_neg Bool.false_ne_true]
                    rw [decide_eq_false hp, Bool.and_false] at q'
                    exact falling_2 hg he hlen (fun z => hp z.2) q'
                · rw [show (e == 0) = false by simpa using h0, if_neg Bool.false_ne_true]
                  rw [decide_eq_false h0] at q'
                  exact falling_2 hg he hlen (fun z => h0 z.1) q'
            · show (if (!decide (0 ≤ e)) = true then _ else _)
              rw [decide_eq_false he, if_pos (show (!false) = true from rfl)]
              have hF : isF (.tup [.tup rl, .int e]) = false := by
                show (decide (0 ≤ e) && _) = false
                rw [decide_eq_false he]
                rfl
              rw [hF] at q
              exact q
          | _ => first | exact q | cases pb
        | _ => first | exact ⟨_, rfl, q⟩ | cases pa
    · have hb : (D.int l.length).eqv (.int 2) = false := by
        show ((l.length : Int) == 2) = false
        rw [beq_eq_false_iff_ne]
        omega
      show isB _ (.bl (!(D.int l.length).eqv (.int 2)))
      rw [hb]
      have hF : isF (.tup l) = false := by
        unfold isF
        split
        · rename_i heq
          injection heq with heq
          rw [heq] at h2
          exact absurd rfl h2
        · rfl
      rw [hF] at q
      exact q
  | _ => first | exact ⟨_, rfl, q⟩ | cases h
theorem p_checked (h : pl v = true) (q1 : isF v = true → Q v s) (q2 : isF v = false → X 4 (.int 0) s) : sp_checked_falling [v] s Q X := by
  refine ⟨rfl, ?_⟩
  show sp_is_falling [v] s _ _
  refine p_is_falling h ?_
  show (if (!isF v) = true then _ else _)
  cases hF : isF v with
  | true => exact q1 hF
  | false => exact q2 hF
theorem p_of {l : List D} (hl : 0 < l.length ∧ l.length ≤ 1000) (q : ∀ x s, x ∈ l → Q x s) : sp__law_of [.deal, .lst l] s Q X := by
  refine ⟨rfl, ?_⟩
  refine ⟨(show (0 : Int) < ((l.length : Nat) : Int) by omega), ?_, fun x s h0 h1 => ?_⟩
  · have := log_lt (i := ((l.length : Nat) : Int)) (k := 10) (by decide) (by show l.length < 1024; omega)
    show ((l.length : Nat) : Int).natAbs.log2 < 9000
    omega
  · have hx : x.toNat < l.length := by omega
    refine ⟨l[x.toNat], ?_, q _ _ (List.getElem_mem hx)⟩
    have ei : ixOf l.length x = some x.toNat := by
      unfold ixOf
      rw [if_pos h0, if_pos h1]
    rw [ei]
    exact List.getElem?_eq_getElem hx
/-- what a draw is -/
theorem p_any {b : Int} (h0 : 0 < b) (h1 : b.natAbs < 2 ^ 1000) (q : ∀ x s, 0 ≤ x → x < b → Q (.int x) s) : sp__law_any [.deal, .int b] s Q X := ⟨h0, by have := log_lt (by decide) h1; omega, fun x s a b => q x s a b⟩
theorem p__law_euclidD {ns : List Int} {d : D} (hd : d = .lst (ns.map .int) ∨ d = .tup (ns.map .int)) (hl : ns.length < 1000) (hB : ∀ x, x ∈ ns → x ≤ 2 ^ 100) (q : ∀ rs e, EuR ns rs e → Q (rowD rs e) s) : sp__law_euclid [d] s Q X := by
  refine ⟨rfl, ?_⟩
  have sq : asSeq (fun l => compL (gNm 6) (fTst (fOp qGt (fVar 6) (fC (.int 0)))) (fVar 6) l [] [some d, none, none, none, none, none, none] s (fun l s2 => qSetL (.lst l) fun x => qSorted x fun y => sWhile (fTst (fOp qNe (fVar 1) (fLst aNil))) euB { (ends Q X) with nx := (sRet (fTup (aCons (fTup aNil) (aCons (fC (.int 0)) aNil)))) (ends Q X) } [some d, some y, some (.lst []), none, none, none, none] s2)) d → f__law_euclid (ends Q X) (start [d] 6) s := fun h => h
  refine sq ?_
  have sq2 : ∀ {P : List D → Prop}, P (ns.map .int) → asSeq P d := fun h => by rcases hd with rfl | rfl <;> exact h
  refine sq2 ?_
  refine comp_ints (keep := fun x => decide (0 < x)) (f := fun x => x) ns [] s (fun x hx => ⟨[some d, none, none, none, none, none, some (.int x)], fun R r => r, fun s Qb qb => qb, fun s Q _ qx => qx⟩) (by show 0 + _ ≤ 16777216; omega) ?_
  rw [List.map_id' (ns.filter fun x => decide (0 < x))]
  generalize hps : ns.filter (fun x => decide (0 < x)) = ps
  have pl : ps.length < 1000 := by
    rw [← hps]
    have := List.length_filter_le (fun x => decide (0 < x)) ns
    omega
  have pm : ∀ x, x ∈ ps ↔ x ∈ ns ∧ 0 < x := fun x => by
    rw [← hps, List.mem_filter, decide_eq_true_eq]
  refine ⟨ps, ints?_map ps, pl, ?_⟩
  have sl : (sortU ps).length < 1000 := by
    have := len_sortU ps
    omega
  refine ⟨sl, ?_⟩
  show sWhile (fTst (fOp qNe (fVar 1) (fLst aNil))) euB { (ends Q X) with nx := (sRet (fTup (aCons (fTup aNil) (aCons (fC (.int 0)) aNil)))) (ends Q X) } [some d, some (.lst ((sortU ps).map .int)), some (.lst []), none, none, none, none] s
  refine ⟨fun k env s2 => s2 = s ∧ euI ns k env, ⟨(sortU ps).headD 0 |>.toNat, rfl, _, sortU ps, [], _, _, _, _, rfl, sl, fun x hx => hB x ((pm x).mp ((mem_sortU x ps).mp hx)).1, ?_⟩, fun k env s2 hI => ?_⟩
  · cases hs : sortU ps with
    | nil => exact .inl ⟨rfl, rfl, fun x hx h0 => by
        have := (mem_sortU x ps).mpr ((pm x).mpr ⟨hx, h0⟩)
        rw [hs] at this
        cases this⟩
    | cons m r =>
      refine .inr ⟨m, r, rfl, hs ▸ lst_sortU hs fun x hx => ((pm x).mp hx).2, rfl, .inl rfl, fun rs e h => .inr ⟨m :: r, m, fun x => ?_, h⟩⟩
      rw [← hs, mem_sortU, pm]
  · obtain ⟨rfl, d0, l, acc, x3, x4, x5, x6, rfl, hlen, hb, h⟩ := hI
    refine ⟨ok_ints l, rfl, ?_⟩
    show (if (!(D.lst (l.map .int)).eqv (.lst [])) = true then _ else _)
    rw [ints_nil]
    rcases h with ⟨rfl, rfl, hno⟩ | ⟨m, r, rfl, hL, hk, hacc, hE⟩
    · exact q [] 0 (.inl ⟨rfl, rfl, hno⟩)
    · refine eu_body hlen hb hL hk hacc hE (fun rs e h => q rs e h) fun k' env hk' hI => ⟨k', hk', rfl, hI⟩
theorem p__law_euclid {ns : List Int} (hl : ns.length < 1000) (hB : ∀ x, x ∈ ns → x ≤ 2 ^ 100) (q : ∀ rs e, EuR ns rs e → Q (rowD rs e) s) : sp__law_euclid [.lst (ns.map .int)] s Q X := p__law_euclidD (.inl rfl) hl hB q
theorem any_s {b : Int} (h0 : 0 < b) (h1 : b ≤ 2 ^ 200) (q : ∀ x s, 0 ≤ x → x < b → Q (.int x) s) : sp__law_any [.deal, .int b] s Q X := p_any h0 (abs_lt (by omega) (by omega)) q
theorem p__law_draw {ns : List Int} {k : Int} (hl : ns.length ≤ 63) (q : ∀ (cells : List Int) (b : Int) s, cells.length ≤ 1000 → Q (.lst [.lst (cells.map .int), .int b]) s) : sp__law_draw [.scr ns, .int k] s Q X := by
  refine ⟨rfl, ?_⟩
  generalize hc : cutL ns none (some 48) = cs
  have cl : cs.length ≤ 48 := by
    rw [← hc]
    unfold cutL
    rw [List.length_take]
    have : sIx ns.length ns.length (some 48) ≤ 48 := by
      show min 48 ns.length ≤ 48
      exact Nat.min_le_left ..
    omega
  show compL (gNm 4) cYes (fUn qAbs (fUn qInt (fVar 4))) ((cutL ns none (some 48)).map .int) [] [some (.scr ns), some (.int k), none, none, none] s _
  rw [hc]
  refine comp_each _ _ [] s (Each.of (a := D.int) (b := fun x => .int (if x < 0 then -x else x)) fun x _ s Q qx => ⟨[some (.scr ns), some (.int k), none, none, some (.int x)], fun R r => r, qx⟩) (by rw [List.length_map]; show 0 + _ ≤ 16777216; omega) ?_
  refine ⟨.inl (by decide), ?_⟩
  have go : ∀ (l : List Int) (b : Int) (x4 : Option D) (s : S), forL (gNm 4) (sAsg (fOp qMod (fUn qInt (fOp qAdd (fOp qAdd (fOp qMul (fVar 3) (fC (.int 48271))) (fOp qMod (fVar 4) (fC (.int 2147483549)))) (fC (.int 11)))) (fC (.int 2147483647))) (gNm 3)) (l.map .int)
      { (ends Q X) with nx := sRet (fLst (aCons (fUn qRev (fLC (iSeq (fVar 2)) (gNm 4) (fTst (fOp qGe (fVar 4) (fOp qPow (fC (.int 10)) (fC (.int 18))))) (fVar 4) [4])) (aCons (fVar 3) aNil))) (ends Q X) }
      [some (.scr ns), some (.int k), some (.lst (cs.map fun x => .int (if x < 0 then -x else x))), some (.int b), x4] s := by
    intro l
    induction l with
    | nil =>
      intro b x4 s
      show compL (gNm 4) (fTst (fOp qGe (fVar 4) (fOp qPow (fC (.int 10)) (fC (.int 18))))) (fVar 4) (cs.map fun x => .int (if x < 0 then -x else x)) [] [some (.scr ns), some (.int k), some (.lst (cs.map fun x => .int (if x < 0 then -x else x))), some (.int b), none] s _
      rw [show (cs.map fun x => D.int (if x < 0 then -x else x)) = (cs.map fun x => (if x < 0 then -x else x)).map D.int by rw [List.map_map]; rfl]
      refine comp_ints (keep := fun x => decide ((10 : Int) ^ (Int.toNat 18) ≤ x)) (f := fun x => x) _ [] s (fun x hx => ⟨[some (.scr ns), some (.int k), some (.lst ((cs.map fun x => (if x < 0 then -x else x)).map D.int)), some (.int b), some (.int x)], fun R r => r, fun s Qb qb => ⟨by decide, qb⟩, fun s Q _ qx => qx⟩) (by rw [List.length_map]; show 0 + _ ≤ 16777216; omega) ?_
      show Q (.lst [.lst (List.reverse _), .int b]) s
      rw [List.nil_append, ← List.map_reverse]
      refine q _ _ _ ?_
      rw [List.length_reverse, List.length_map]
      refine Nat.le_trans (List.length_filter_le ..) ?_
      rw [List.length_map]
      omega
    | cons x l ih =>
      intro b x4 s
      refine ⟨.inr (.inl (by decide)), by decide, by decide, ?_⟩
      exact ih _ _ _
  have es : (cs.map fun x => D.int (if x < 0 then -x else x)) = (cs.map fun x => (if x < 0 then -x else x)).map D.int := by rw [List.map_map]; rfl
  have h := go (cs.map fun x => (if x < 0 then -x else x)) (7919 + 104729 * k) none s
  rw [← es] at h
  exact h
theorem p__law_row (q : ∀ rs e s, Row rs e → Q (rowD rs e) s) : sp__law_row [.deal] s Q X := by
  refine ⟨rfl, ?_⟩
  have eu : ∀ (ns : List Int) s, ns.length < 64 → (∀ x, x ∈ ns → x ≤ 2 ^ 100) → sp__law_euclid [.lst (ns.map .int)] s Q X := fun ns s hl hB => p__law_euclid (by omega) hB fun rs e h => q rs e s (h.row hB)
  show sp__law_any [.deal, .int 8] s _ _
  refine any_s (by decide) (by decide) fun f s f0 f1 => ?_
  refine ⟨rfl, rfl, ?_⟩
  show (if (f == 0) = true then _ else _)
  cases hf : f == 0 with
  | true =>
    show sp__law_any [.deal, .int 5] s _ _
    refine any_s (by decide) (by decide) fun x s x0 x1 => ?_
    exact q [] x s ⟨by decide, fun p hp => (nomatch hp), x0, by omega, fun _ => rfl, rfl⟩
  | false =>
    show (if decide (f < 4) = true then _ else _)
    cases h4 : decide (f < 4) with
    | true =>
      show sp__law_any [.deal, .int 4] s _ _
      refine any_s (by decide) (by decide) fun k s k0 k1 => ⟨by omega, ?_⟩
      refine comp_draw (P := fun n => n ≤ 24) _ [] s (fun x hx => ⟨[some .deal, some (.int f), none, none, some x], fun R r => r, fun s Q qx => ?_⟩) (by rw [rangeD_len]; show 0 + _ ≤ 16777216; omega) fun ns s hl hP => ?_
      · show sp__law_any [.deal, .int 24] s _ _
        exact any_s (by decide) (by decide) fun n s n0 n1 => qx _ _ (by omega)
      · refine eu ns s (by rw [hl, rangeD_len]; omega) fun x hx => ?_
        have := hP x hx
        have : (2 : Int) ^ 100 = 1267650600228229401496703205376 := by decide
        omega
    | false =>
      show (if decide (f < 6) = true then _ else _)
      cases h6 : decide (f < 6) with
      | true =>
        show sp__law_of [.deal, .lst [.int 1, .int 1, .int 2, .int 3, .int 6]] s _ _
        refine p_of (by decide) fun d s hd => ?_
        have hd' : ∃ e : Int, d = .int e ∧ 0 < e ∧ e ≤ 6 := by
          simp only [List.mem_cons, List.not_mem_nil, or_false] at hd
          rcases hd with rfl | rfl | rfl | rfl | rfl <;> exact ⟨_, rfl, by decide, by decide⟩
        obtain ⟨e, rfl, e0, e1⟩ := hd'
        show sp__law_any [.deal, .int 2] s _ _
        refine any_s (by decide) (by decide) fun k s k0 k1 => ⟨by omega, ?_⟩
        refine comp_draw (P := fun n => n ≤ 174) _ [] s (fun x hx => ⟨[some .deal, some (.int f), none, some (.int e), some x], fun R r => r, fun s Q qx => ?_⟩) (by rw [rangeD_len]; show 0 + _ ≤ 16777216; omega) fun ns s hl hP => ?_
        · show sp__law_any [.deal, .int 12] s _ _
          refine any_s (by decide) (by decide) fun n s n0 n1 => ⟨.inl (by omega), qx _ _ ?_⟩
          have h1 : e * (1 + n) ≤ 6 * (1 + n) := Int.mul_le_mul_of_nonneg_right e1 (by omega)
          omega
        · show sp__law_any [.deal, .int 9] s _ _
          refine any_s (by decide) (by decide) fun n s n0 n1 => ⟨.inl (by omega), ?_⟩
          have h1 : e * (20 + n) ≤ 6 * (20 + n) := Int.mul_le_mul_of_nonneg_right e1 (by omega)
          rw [rangeD_len] at hl
          refine ⟨by show (List.map D.int ns).length + 1 ≤ 16777216; rw [List.length_map]; omega, ?_⟩
          show sp__law_euclid [.lst (ns.map D.int ++ [.int (e * (20 + n))])] s Q X
          rw [show ns.map D.int ++ [D.int (e * (20 + n))] = (ns ++ [e * (20 + n)]).map D.int by simp]
          refine eu _ s (by rw [List.length_append, List.length_singleton]; omega) fun x hx => ?_
          have h100 : (2 : Int) ^ 100 = 1267650600228229401496703205376 := by decide
          rcases List.mem_append.mp hx with hx | hx
          · have := hP x hx
            omega
          · rw [List.mem_singleton] at hx
            omega
      | false =>
        refine ⟨by decide, ⟨by decide, ⟨by decide, ⟨by decide, ?_⟩⟩⟩⟩
        show sp__law_of [.deal, .lst [.int (10 ^ 3), .int (10 ^ 6), .int (10 ^ 12), .int (10 ^ 29)]] s _ _
        refine p_of (by decide) fun d s hd => ?_
        have h100 : (2 : Int) ^ 100 = 1267650600228229401496703205376 := by decide
        have hd' : ∃ b : Int, d = .int b ∧ 0 < b ∧ b ≤ 10 ^ 29 := by
          simp only [List.mem_cons, List.not_mem_nil, or_false] at hd
          rcases hd with rfl | rfl | rfl | rfl <;> exact ⟨_, rfl, by decide, by decide⟩
        obtain ⟨b, rfl, b0, b1⟩ := hd'
        have h29 : (10 : Int) ^ 29 = 100000000000000000000000000000 := by decide
        show sp__law_any [.deal, .int 4] s _ _
        refine any_s (by decide) (by decide) fun k s k0 k1 => ⟨by omega, ?_⟩
        refine comp_draw (P := fun n => n ≤ 10 ^ 29) _ [] s (fun x hx => ⟨[some .deal, some (.int f), some (.int b), none, some x], fun R r => r, fun s Q qx => ?_⟩) (by rw [rangeD_len]; show 0 + _ ≤ 16777216; omega) fun ns s hl hP => ?_
        · show sp__law_any [.deal, .int b] s _ _
          exact any_s b0 (by omega) fun n s n0 n1 => qx _ _ (by omega)
        · refine eu ns s (by rw [hl, rangeD_len]; omega) fun x hx => ?_
          have := hP x hx
          omega
theorem p_ofS {l : List D} (hl : (Nat.ble 1 l.length && Nat.ble l.length 1000) = true) (q : ∀ x s, x ∈ l → Q x s) : sp__law_of [.deal, .lst l] s Q X := by
  rw [Bool.and_eq_true] at hl
  exact p_of ⟨Nat.le_of_ble_eq_true hl.1, Nat.le_of_ble_eq_true hl.2⟩ q
theorem eqv_prs : ∀ (a b : List (Int × Int)), eqvL (a.map prD) (b.map prD) = (a == b)
  | [], [] => rfl
  | [], _ :: _ => rfl
  | _ :: _, [] => rfl
  | x :: a, y :: b => by
    show ((D.tup [.int x.1, .int x.2]).eqv (.tup [.int y.1, .int y.2]) && eqvL (a.map prD) (b.map prD)) = _
    rw [eqv_prs a b]
    show (((x.1 == y.1) && ((x.2 == y.2) && true)) && (a == b)) = ((x == y) && (a == b))
    rw [Bool.and_true]
    rfl
theorem eqv_row {rs r2 : List (Int × Int)} {e e2 : Int} : (rowD rs e).eqv (rowD r2 e2) = ((rs == r2) && (e == e2)) := by
  show (eqvL (rs.map prD) (r2.map prD) && ((e == e2) && true)) = _
  rw [eqv_prs, Bool.and_true]
theorem ok_of {l : List D} (h : ∀ x, x ∈ l → okN 50 x = true) : ok (.lst l) = true := by
  show l.all (okN 59) = true
  rw [List.all_eq_true]
  exact fun x hx => okN_mono 50 59 x (by omega) (h x hx)
theorem eqv_nil {l : List D} : (D.lst l).eqv (.lst []) = l.isEmpty := by cases l <;> rfl
theorem W.strS {n : Nat} {x : Str} (h : x.cps.all (· < 0x110000) = true) : W n (.str x) := ⟨rfl, by cases n <;> exact h⟩
theorem lt1900 {i : Int} (h0 : 0 ≤ i) (h : i ≤ 2 ^ 200) : i.natAbs < 2 ^ 1900 := by
  have h2 : (2 : Nat) ^ 200 < 2 ^ 1900 := Nat.pow_lt_pow_right (by decide) (by decide)
  omega
theorem num_in {l : List D} (P : Int → Prop) (hl : (Nat.ble 1 l.length && Nat.ble l.length 1000) = true) (h : ∀ x, x ∈ l → ∃ i : Int, x = .int i ∧ P i) (q : ∀ i s, P i → Q (.int i) s) : sp__law_of [.deal, .lst l] s Q X := by
  refine p_ofS hl fun x s hx => ?_
  obtain ⟨i, rfl, hi⟩ := h x hx
  exact q i s hi
theorem p__law_none_row (q : ∀ v s, W 10 v → isF v = false → Q v s) : sp__law_none_row [.deal] s Q X := by
  refine ⟨rfl, ?_⟩
  show sp__law_of [.deal, .lst [.non, .tup [], .tup [.tup [prD (2, 1)], .int 0], .tup [.tup [prD (2, 1)], .int 2], .lst [.tup [], .int 1], .tup [.tup [prD (3, 1)], .int 2], .tup [.tup [], .int (-1)], .tup [.tup [], .bl true], .tup [.tup [prD (1, 1), prD (2, 1)], .int 1], .tup [.tup [prD (2, 0)], .int 1]]] s _ _
  refine p_ofS rfl fun d s hd => ?_
  have i : ∀ {n : Nat} {k : Int}, -(2 ^ 100) ≤ k → k ≤ 2 ^ 100 → W n (.int k) := fun a b => W.sml (by omega) (by omega)
  have pr : ∀ a b : Int, -(2 ^ 100) ≤ a → a ≤ 2 ^ 100 → -(2 ^ 100) ≤ b → b ≤ 2 ^ 100 → W 8 (prD (a, b)) := fun a b h1 h2 h3 h4 => W.tupS rfl (W.cons (i h1 h2) (W.cons (i h3 h4) W.nil))
  simp only [List.mem_cons, List.not_mem_nil, or_false] at hd
  rcases hd with rfl | rfl | rfl | rfl | rfl | rfl | rfl | rfl | rfl | rfl
  · exact q _ s W.non rfl
  · exact q _ s (W.tupS rfl W.nil) rfl
  · exact q _ s (W.tupS rfl (W.cons (W.tupS rfl (W.cons (pr _ _ (by decide) (by decide) (by decide) (by decide)) W.nil)) (W.cons (i (by decide) (by decide)) W.nil))) rfl
  · exact q _ s (W.tupS rfl (W.cons (W.tupS rfl (W.cons (pr _ _ (by decide) (by decide) (by decide) (by decide)) W.nil)) (W.cons (i (by decide) (by decide)) W.nil))) rfl
  · exact q _ s (W.lstS rfl (W.cons (W.tupS rfl W.nil) (W.cons (i (by decide) (by decide)) W.nil))) rfl
  · exact q _ s (W.tupS rfl (W.cons (W.tupS rfl (W.cons (pr _ _ (by decide) (by decide) (by decide) (by decide)) W.nil)) (W.cons (i (by decide) (by decide)) W.nil))) rfl
  · exact q _ s (W.tupS rfl (W.cons (W.tupS rfl W.nil) (W.cons (i (by decide) (by decide)) W.nil))) rfl
  · exact q _ s (W.tupS rfl (W.cons (W.tupS rfl W.nil) (W.cons W.bl W.nil))) rfl
  · exact q _ s (W.tupS rfl (W.cons (W.tupS rfl (W.cons (pr _ _ (by decide) (by decide) (by decide) (by decide)) (W.cons (pr _ _ (by decide) (by decide) (by decide) (by decide)) W.nil))) (W.cons (i (by decide) (by decide)) W.nil))) rfl
  · exact q _ s (W.tupS rfl (W.cons (W.tupS rfl (W.cons (pr _ _ (by decide) (by decide) (by decide) (by decide)) W.nil)) (W.cons (i (by decide) (by decide)) W.nil))) rfl
theorem repB_int {i : Int} (h0 : 0 ≤ i) (h : i ≤ 2 ^ 200) : repB (.int i) = 600 := by
  show (if i.natAbs < 2 ^ 1900 then 600 else 16000001) = 600
  rw [if_pos (lt1900 h0 h)]
theorem repBs_prs : ∀ {rs : List (Int × Int)}, (∀ p, p ∈ rs → 0 ≤ p.1 ∧ p.1 ≤ 2 ^ 200 ∧ 0 ≤ p.2 ∧ p.2 ≤ 2 ^ 200) → repBs (rs.map prD) = 1207 * rs.length
  | [], _ => rfl
  | p :: rs, h => by
    obtain ⟨h1, h2, h3, h4⟩ := h p (List.mem_cons_self ..)
    show (repB (.int p.1) + (repB (.int p.2) + 0) + 2 * 2 + 3) + repBs (rs.map prD) = _
    rw [repB_int h1 h2, repB_int h3 h4, repBs_prs fun q hq => h q (List.mem_cons_of_mem _ hq), List.length_cons]
    omega
theorem repB_row {rs : List (Int × Int)} {e : Int} (h : Row rs e) : repB (rowD rs e) ≤ 1300 * rs.length + 700 := by
  have h0 := h.e0
  have h1 := h.e1
  show (repBs (rs.map prD) + 2 * (rs.map prD).length + 3) + (repB (.int e) + 0) + 2 * 2 + 3 ≤ _
  rw [repBs_prs (fun p hp => by have := h.good p hp; obtain ⟨⟨g1, g2, _⟩, g3, g4⟩ := this; omega), repB_int h0 (by omega), List.length_map]
  omega
end Lk26
end Fy
set_option Elab.async false
set_option linter.all false
set_option maxRecDepth 100000
set_option maxHeartbeats 4000000
namespace Fy
namespace Lk26
open Pu
open PySem (Str)
variable {v : D} {s : S} {Q : KD} {X : XC}
theorem comp_aD {α : Type} {a : α → D} {g : FTG} {c : FTC} {e : FTE} {env : Env} {Q : List D → S → Prop} {keep : α → Bool} {f : α → D} : ∀ (l : List α) (acc : List D) (s : S), (∀ x, x ∈ l → ∃ env2, (∀ R : Env → Prop, R env2 → g (a x) env R) ∧ (∀ s (Qb : Bool → S → Prop), Qb (keep x) s → c env2 s Qb (fun _ _ _ => False)) ∧ ∀ s (Q : D → S → Prop), Q (f x) s → e env2 s Q (fun _ _ _ => False)) →
    acc.length + l.length ≤ cap → Q (acc ++ (l.filter keep).map f) s → compL g c e (l.map a) acc env s Q
  | [], acc, s, _, _, q => by
    have q' : Q (acc ++ []) s := q
    rw [List.append_nil] at q'
    exact q'
  | x :: l, acc, s, h, hc, q => by
    rw [List.length_cons] at hc
    obtain ⟨env2, h1, h2, h3⟩ := h x (List.mem_cons_self ..)
    refine h1 _ (h2 s _ ?_)
    by_cases hk : keep x = true
    · rw [if_pos hk]
      refine h3 s _ ⟨by omega, ?_⟩
      refine comp_aD l (acc ++ [f x]) s (fun y hy => h y (List.mem_cons_of_mem _ hy)) (by rw [List.length_append]; show _ + 1 + _ ≤ _; omega) ?_
      rw [List.filter_cons_of_pos hk, List.map_cons] at q
      rw [List.append_assoc]
      exact q
    · rw [if_neg hk]
      refine comp_aD l acc s (fun y hy => h y (List.mem_cons_of_mem _ hy)) (by omega) ?_
      rw [List.filter_cons_of_neg hk] at q
      exact q
/-! one step ahead -/
theorem cut_1 {l : List D} {d : D} : cutL (d :: l) (some 1) none = l := by
  unfold cutL
  show ((d :: l).drop (sIx (d :: l).length 0 (some 1))).take ((d :: l).length - sIx (d :: l).length 0 (some 1)) = l
  unfold sIx
  show ((d :: l).drop (if (1 : Int) < 0 then _ else min (1 : Int).toNat (d :: l).length)).take ((d :: l).length - (if (1 : Int) < 0 then _ else min (1 : Int).toNat (d :: l).length)) = l
  rw [if_neg (by decide), show min (1 : Int).toNat (d :: l).length = 1 by rw [List.length_cons]; show min 1 _ = 1; omega]
  simp
theorem ixHead {l : List D} {d : D} {R : D → Prop} (q : R d) : qIx (.tup (d :: l)) (.int 0) R := ⟨d, by
  rw [show ixOf (d :: l).length 0 = some 0 by
    unfold ixOf
    rw [if_pos (by decide), if_pos (by rw [List.length_cons]; omega)]
    rfl]
  rfl, q⟩
theorem p_lifted {rs : Rn} {e st : Int} (hl : rs.length ≤ 1000) (q : Q (rowD (lift st rs) e) s) : sp_lifted [rowD rs e, .int st] s Q X := by
  refine ⟨rfl, rfl, ?_⟩
  show (if decide (0 < (((rs.map prD).length : Nat) : Int)) = true then _ else _)
  cases rs with
  | nil => exact ⟨(by show 1 ≤ 16777216; decide), q⟩
  | cons p r =>
    rw [List.length_cons] at hl
    rw [decide_eq_true (by simp), if_pos rfl]
    refine ixHead (ixHead (l := [.int p.2]) ⟨rfl, rfl, ?_⟩)
    show (if (p.1 == st) = true then _ else _)
    rw [lift_cons] at q
    by_cases hc : p.1 = st
    · rw [if_pos (by simpa using hc)]
      rw [if_pos hc] at q
      refine ixHead ⟨.int p.2, rfl, ?_, ?_⟩
      · show (D.tup [.int st, .int (p.2 + 1)] :: (cutL (prD p :: r.map prD) (some 1) none ++ [])).length ≤ cap
        rw [cut_1]
        show _ ≤ 16777216
        simp
        omega
      · show Q (.tup [.tup (D.tup [.int st, .int (p.2 + 1)] :: (cutL (prD p :: r.map prD) (some 1) none ++ [])), .int e]) s
        rw [cut_1, List.append_nil]
        exact q
    · rw [if_neg (by simpa using hc)]
      rw [if_neg hc] at q
      refine ⟨?_, ?_⟩
      · show (D.tup [.int st, .int 1] :: (((p :: r).map prD) ++ [])).length ≤ cap
        show _ ≤ 16777216
        simp
        omega
      · show Q (.tup [.tup (D.tup [.int st, .int 1] :: (((p :: r).map prD) ++ [])), .int e]) s
        rw [List.append_nil]
        exact q
/-! steps for a room -/
/-- the numbers of a set from 1 on that are at most a number, ascending -/
structure Asc (rs : Rn) (e a : Int) (F : List Int) : Prop where
  pw : F.Pairwise (· < ·)
  mem : ∀ x, x ∈ F ↔ (1 ≤ x ∧ x ≤ a) ∧ inR rs e x = true
theorem Asc.more {rs : Rn} {e a st : Int} {F : List Int} (h : Asc rs e a F) (a0 : 0 ≤ a) (s0 : 0 < st) (hin : inR rs e (a + st) = true) (hno : ∀ x, a < x → x < a + st → inR rs e x = false) : Asc rs e (a + st) (F ++ [a + st]) := by
  refine ⟨List.pairwise_append.mpr ⟨h.pw, List.pairwise_singleton .., fun x hx y hy => ?_⟩, fun x => ?_⟩
  · rw [List.mem_singleton] at hy
    have := ((h.mem x).mp hx).1.2
    omega
  · rw [List.mem_append, List.mem_singleton, h.mem]
    constructor
    · rintro (⟨⟨h1, h2⟩, h3⟩ | rfl)
      · exact ⟨by omega, h3⟩
      · exact ⟨by omega, hin⟩
    · rintro ⟨⟨h1, h2⟩, h3⟩
      rcases Int.lt_trichotomy x (a + st) with z | z | z
      · rcases Int.lt_or_le a x with y | y
        · rw [hno x y z] at h3
          cases h3
        · exact .inl ⟨by omega, h3⟩
      · exact .inr z
      · omega
theorem Asc.stop {rs : Rn} {e a st r : Int} {F : List Int} (h : Asc rs e a F) (hr : a ≤ r) (hr2 : r < a + st) (hno : ∀ x, a < x → x < a + st → inR rs e x = false) : Asc rs e r F := by
  refine ⟨h.pw, fun x => ?_⟩
  rw [h.mem]
  constructor
  · rintro ⟨⟨h1, h2⟩, h3⟩
    exact ⟨by omega, h3⟩
  · rintro ⟨⟨h1, h2⟩, h3⟩
    rcases Int.lt_or_le a x with y | y
    · rw [hno x y (by omega)] at h3
      cases h3
    · exact ⟨by omega, h3⟩
theorem Asc.len {rs : Rn} {e a : Int} {F : List Int} (h : Asc rs e a F) (ha : a ≤ 1000) : F.length ≤ 1000 := by
  have key : ∀ (l : List Int) (lo : Int), l.Pairwise (· < ·) → (∀ x, x ∈ l → lo < x ∧ x ≤ a) → (l.length : Int) ≤ max 0 (a - lo) := fun l => by
    induction l with
    | nil => intro lo _ _; show (0 : Int) ≤ _; omega
    | cons y l ih =>
      intro lo hp hx
      obtain ⟨p1, p2⟩ := List.pairwise_cons.mp hp
      have h1 := hx y (List.mem_cons_self ..)
      have h2 := ih y p2 fun x hx' => ⟨p1 x hx', (hx x (List.mem_cons_of_mem _ hx')).2⟩
      rw [List.length_cons]
      omega
  have := key F 0 h.pw fun x hx => by have := ((h.mem x).mp hx).1; omega
  omega
abbrev inB : FTS := (sSeq (sAsg (fOp qAdd (fVar 3) (fVar 4)) (gNm 3)) (sSeq (sIf (fTst (fOp qGt (fVar 3) (fVar 1))) (sRet (fVar 2)) sNx) (sMut 2 oAppend (aCons (fVar 3) aNil))))
abbrev outB : FTS := (sFor (iRng1 (fVar 5)) (gNm 6) inB)
theorem in_loop2 {E : Ends} {rs : Rn} {e r st times : Int} {d0 : Option D} (s0 : 0 < st) (hr : r ≤ 1000) (hrt : ∀ F, Asc rs e r F → E.rt (.lst (F.map .int)) s) :
    ∀ (l : List D) (F : List Int) (a : Int) (x6 : Option D), 0 ≤ a → a ≤ r → Asc rs e a F → (∀ k : Nat, k < l.length → inR rs e (a + st * ((k : Int) + 1)) = true ∧ ∀ x, a + st * (k : Int) < x → x < a + st * ((k : Int) + 1) → inR rs e x = false) → (∀ F x6, Asc rs e (a + st * (l.length : Int)) F → a + st * (l.length : Int) ≤ r → E.nx [d0, some (.int r), some (.lst (F.map .int)), some (.int (a + st * (l.length : Int))), some (.int st), some (.int times), x6] s) →
      forL (gNm 6) inB l E [d0, some (.int r), some (.lst (F.map .int)), some (.int a), some (.int st), some (.int times), x6] s
  | [], F, a, x6, a0, ar, hF, _, hn => by
    have := hn F x6 (by simpa using hF) (by simpa using ar)
    show E.nx _ s
    simpa using this
  | d :: l, F, a, x6, a0, ar, hF, hk, hn => by
    obtain ⟨k1, k2⟩ := hk 0 (by rw [List.length_cons]; omega)
    have e1 : a + st * (((0 : Nat) : Int) + 1) = a + st := by show a + st * (0 + 1) = _; omega
    have e2 : a + st * ((0 : Nat) : Int) = a := by show a + st * 0 = _; omega
    rw [e1] at k1 k2
    rw [e2] at k2
    show (if decide (r < a + st) = true then _ else _)
    by_cases hc : r < a + st
    · rw [decide_eq_true hc, if_pos rfl]
      exact hrt F (hF.stop ar hc k2)
    · rw [decide_eq_false hc, if_neg (by decide)]
      have hl := hF.len (by omega)
      refine ⟨by rw [List.length_map]; show _ < 16777216; omega, ?_⟩
      have e3 : ∀ k : Nat, a + st + st * (k : Int) = a + st * (((k + 1 : Nat) : Int)) := fun k => by
        rw [Int.natCast_add, Int.mul_add]
        show _ = a + (_ + st * 1)
        omega
      have := in_loop2 (E := E) (d0 := d0) (times := times) s0 hr hrt l (F ++ [a + st]) (a + st) (some d) (by omega) (by omega) (hF.more a0 s0 k1 k2) (fun k hkl => by
        have := hk (k + 1) (by rw [List.length_cons]; omega)
        rw [e3 k]
        rw [show a + st + st * ((k : Int) + 1) = a + st * (((k + 1 : Nat) : Int) + 1) by have := e3 k; rw [Int.mul_add, Int.mul_add]; omega]
        exact this) (fun F x6 hF' ha' => by
        have := hn F x6
        rw [List.length_cons, ← e3] at this
        exact this hF' ha')
      rw [List.map_append] at this
      exact this
theorem out_loop {E : Ends} {rs0 : Rn} {e r : Int} {d0 : Option D} (hr : r ≤ 1000) (hrt : ∀ F, Asc rs0 e r F → E.rt (.lst (F.map .int)) s) (hnx : ∀ F a x4 x5 x6, a = topA rs0 0 → 0 ≤ a → a ≤ r → Asc rs0 e a F → E.nx [d0, some (.int r), some (.lst (F.map .int)), some (.int a), x4, x5, x6] s) :
    ∀ (rs : Rn) (b : Int) (F : List Int) (x4 x5 x6 : Option D), Pos rs → (∀ p, p ∈ rs → p.2 ≤ 1000) → topA rs b = topA rs0 0 → 0 ≤ b → b ≤ r → (∀ x, b ≤ x → inR rs0 e x = inR rs e (x - b)) → Asc rs0 e b F →
      forL (gTp (gMore (gNm 4) (gMore (gNm 5) gNil))) outB (rs.map prD) E [d0, some (.int r), some (.lst (F.map .int)), some (.int b), x4, x5, x6] s
  | [], b, F, x4, x5, x6, _, _, ht, b0, br, _, hF => hnx F b x4 x5 x6 ht b0 br hF
  | p :: rs, b, F, x4, x5, x6, hp, hb, ht, b0, br, hS, hF => by
    obtain ⟨g1, g2⟩ := hp p (List.mem_cons_self ..)
    have hb2 := hb p (List.mem_cons_self ..)
    have hp' : Pos rs := fun q hq => hp q (List.mem_cons_of_mem _ hq)
    have T0 : 0 < p.1 * p.2 := Int.mul_pos g1 g2
    refine ⟨rfl, ⟨by omega, by omega⟩, ?_⟩
    have hln : (rangeD 0 p.2.toNat).length = p.2.toNat := rangeD_len
    have hcast : ((p.2.toNat : Nat) : Int) = p.2 := by omega
    refine in_loop2 (E := { nx := fun e2 s2 => forL (gTp (gMore (gNm 4) (gMore (gNm 5) gNil))) outB (rs.map prD) E e2 s2, rt := E.rt, bk := E.nx, ct := fun e2 s2 => forL (gTp (gMore (gNm 4) (gMore (gNm 5) gNil))) outB (rs.map prD) E e2 s2, ex := E.ex }) (rs := rs0) (times := p.2) g1 hr hrt (rangeD 0 p.2.toNat) F b x6 b0 br hF (fun k hk => ?_) fun F x6 hF' ha' => ?_
    · rw [hln] at hk
      have hkk : (k : Int) + 1 ≤ p.2 := by omega
      have m1 : p.1 * ((k : Int) + 1) ≤ p.1 * p.2 := Int.mul_le_mul_of_nonneg_left hkk (Int.le_of_lt g1)
      have m0 : 0 ≤ p.1 * (k : Int) := Int.mul_nonneg (Int.le_of_lt g1) (by omega)
      have m2 : p.1 * ((k : Int) + 1) = p.1 * (k : Int) + p.1 := by rw [Int.mul_add]; omega
      constructor
      · rw [hS _ (by omega), show b + p.1 * ((k : Int) + 1) - b = p.1 * ((k : Int) + 1) by omega, inR_le2 hp m1]
        simp
      · intro x hx1 hx2
        rw [hS x (by omega), inR_le2 hp (by omega), show x - b = (x - b - p.1 * (k : Int)) + p.1 * (k : Int) by omega, Int.add_mul_emod_self_left, modlt (by omega) (by omega)]
        simp
        omega
    · rw [hln, hcast] at hF' ha'
      rw [hln, hcast]
      refine out_loop hr hrt hnx rs (b + p.1 * p.2) F _ _ _ hp' (fun q hq => hb q (List.mem_cons_of_mem _ hq)) ht (by omega) ha' (fun x hx => ?_) hF'
      rw [hS x (by omega), inR_cons, if_neg (by omega)]
      congr 1
      omega
theorem p_steps_for {rs : Rn} {e H r : Int} (h : RH e H rs) (hH : H ≤ 1000) (he : e ≤ 1000) (r0 : 0 ≤ r) (hr : r ≤ 1000) (q : ∀ F, Asc rs e r F → Q (.lst (F.map .int)) s) : sp_steps_for [rowD rs e, .int r] s Q X := by
  have e0 := h.e0
  refine ⟨rfl, _, rfl, ?_⟩
  refine out_loop (E := { (ends Q X) with nx := (sRet (fLstS (aStar (fVar 2) (aStarR3 (aCons (fOp qAdd (fVar 3) (fOp qIx (fVar 0) (fC (.int 1)))) (aCons (fOp qAdd (fVar 1) (fC (.int 1))) (aCons (fOp qIx (fVar 0) (fC (.int 1))) aNil))) aNil)))) (ends Q X) }) (rs0 := rs) (e := e) (d0 := some (rowD rs e)) hr (fun F hF => q F hF) (fun F a x4 x5 x6 ha a0 ar hF => ?_) rs 0 [] none none none h.fr.pos (fun p hp => (h.good hH p hp).2) rfl (Int.le_refl _) r0 (fun x hx => by rw [Int.sub_zero]) ⟨List.Pairwise.nil, fun x => ⟨fun z => (nomatch z), fun ⟨⟨z1, z2⟩, _⟩ => by omega⟩⟩
  have hfl := hF.len (by omega)
  refine ⟨_, rfl, _, rfl, ?_⟩
  have hn : rngN (a + e) (r + 1) e ≤ 1000 := by
    unfold rngN
    split
    · have h1 : (r + 1 - (a + e) - 1) / e ≤ r + 1 - (a + e) - 1 := Int.ediv_le_self _ (by omega)
      have h2 : 0 ≤ (r + 1 - (a + e) - 1) / e := Int.ediv_nonneg (by omega) (by omega)
      omega
    · omega
  refine ⟨⟨e0, by omega, by omega, by omega, by omega, by omega, by show _ ≤ 16777216; omega⟩, ?_⟩
  have eK : rngKD (a + e) e (rngN (a + e) (r + 1) e) = ((List.range (rngN (a + e) (r + 1) e)).map fun (m : Nat) => a + e + (m : Int) * e).map D.int := by
    unfold rngKD
    rw [List.map_map]
    rfl
  have hgo : ∀ {L : List D}, L = rngKD (a + e) e (rngN (a + e) (r + 1) e) → ((F.map D.int) ++ (L ++ [])).length ≤ cap ∧ (ends Q X).rt (.lst ((F.map D.int) ++ (L ++ []))) s := fun {L} hL => by
    rw [hL, eK, List.append_nil]
    refine ⟨by simp; show _ ≤ 16777216; omega, ?_⟩
    rw [← List.map_append]
    refine q _ ⟨List.pairwise_append.mpr ⟨hF.pw, List.pairwise_map.mpr (List.pairwise_lt_range.imp fun {x y} hxy => ?_), fun x hx y hy => ?_⟩, fun x => ?_⟩
    · have := Int.mul_lt_mul_of_pos_right (show (x : Int) < (y : Int) by omega) e0
      omega
    · obtain ⟨m, _, rfl⟩ := List.mem_map.mp hy
      have := ((hF.mem x).mp hx).1.2
      have : 0 ≤ (m : Int) * e := Int.mul_nonneg (by omega) (by omega)
      omega
    · have hab : ∀ y, a ≤ y → inR rs e y = ((y - a) % e == 0) := fun y hy => by
        rw [inR_top h.fr.pos (by omega), inR_nil, if_neg (by omega), ha]
      rw [List.mem_append, hF.mem]
      constructor
      · rintro (⟨⟨h1, h2⟩, h3⟩ | hx)
        · exact ⟨by omega, h3⟩
        · obtain ⟨m, hm, rfl⟩ := List.mem_map.mp hx
          rw [List.mem_range] at hm
          have m0 : 0 ≤ (m : Int) * e := Int.mul_nonneg (by omega) (by omega)
          refine ⟨⟨by omega, ?_⟩, ?_⟩
          · unfold rngN at hm
            split at hm
            · have h1 : (m : Int) ≤ (r + 1 - (a + e) - 1) / e := by
                have h2 : 0 ≤ (r + 1 - (a + e) - 1) / e := Int.ediv_nonneg (by omega) (by omega)
                omega
              have h3 := Int.mul_le_mul_of_nonneg_right h1 (Int.le_of_lt e0)
              have h4 := Int.ediv_mul_le (r + 1 - (a + e) - 1) (show e ≠ 0 by omega)
              omega
            · omega
          · rw [hab _ (by omega), show a + e + (m : Int) * e - a = e * ((m : Int) + 1) by rw [Int.mul_add, Int.mul_comm]; omega]
            simp
      · rintro ⟨⟨h1, h2⟩, h3⟩
        rcases Int.lt_or_le a x with y | y
        · right
          rw [hab x (by omega)] at h3
          obtain ⟨k, hk⟩ := Int.dvd_of_emod_eq_zero (show (x - a) % e = 0 by simpa using h3)
          have k1 : 0 < k := by
            rcases Int.lt_or_le 0 k with z | z
            · exact z
            · have := Int.mul_nonpos_of_nonneg_of_nonpos (Int.le_of_lt e0) z
              omega
          refine List.mem_map.mpr ⟨(k - 1).toNat, ?_, ?_⟩
          · rw [List.mem_range]
            unfold rngN
            have h5 : e * 1 ≤ e * k := Int.mul_le_mul_of_nonneg_left (by omega) (by omega)
            rw [if_pos (by omega)]
            have h6 : k - 1 ≤ (r + 1 - (a + e) - 1) / e := by
              refine Int.le_ediv_of_mul_le e0 ?_
              rw [Int.sub_mul, Int.mul_comm k e]
              omega
            omega
          · rw [show (((k - 1).toNat : Nat) : Int) = k - 1 by omega, Int.sub_mul, Int.mul_comm k e]
            omega
        · exact .inl ⟨by omega, h3⟩
  exact hgo rfl
theorem vPopL {l : List D} {d : D} {R : D → List D → Prop} (q : R d l) : vPop [] (l ++ [d]) R := ⟨d, by simp, by rw [List.dropLast_concat]; exact q⟩
theorem concat_or {α : Type} (R : List α) : R = [] ∨ ∃ (l : List α) (x : α), R = l ++ [x] := by
  rcases List.eq_nil_or_concat R with h | ⟨l, x, h⟩
  · exact .inl h
  · exact .inr ⟨l, x, by rw [h, List.concat_eq_append]⟩
theorem asc_one {F G : List Int} (hF : F.Pairwise (· < ·)) (hG : G.Pairwise (· < ·)) (h : ∀ x, x ∈ F ↔ x ∈ G) : F = G := by
  refine List.Perm.eq_of_pairwise (le := (· < ·)) (fun a b _ _ h1 h2 => absurd h1 (by omega)) hF hG ?_
  exact (List.perm_ext_iff_of_nodup (hF.imp fun h => Int.ne_of_lt h) (hG.imp fun h => Int.ne_of_lt h)).mpr h
def ke (rs : Rn) (e s : Int) : Bool := !rs.isEmpty || decide (s ≠ e)
theorem asc_kids {rs : Rn} {e H : Int} {F : List Int} (h : Asc rs e (H - topA rs 0) F) : F.filter (ke rs e) = kids e H rs := by
  refine asc_one (h.pw.filter _) kids_pw fun x => ?_
  rw [List.mem_filter, h.mem, mem_kids]
  unfold may ke
  rw [Bool.and_eq_true]
  exact ⟨fun ⟨⟨a, b⟩, c⟩ => ⟨a, b, c⟩, fun ⟨a, b, c⟩ => ⟨⟨a, b⟩, c⟩⟩
abbrev kdB : FTS := (sIf (fOr (fTst (fOp qGt (fUn qLen (fOp qIx (fVar 4) (fC (.int 0)))) (fC (.int 0)))) (fTst (fOp qNe (fVar 6) (fVar 0)))) (sMut 3 oAppend (aCons (fCall sp_lifted (aCons (fVar 4) (aCons (fVar 6) aNil))) aNil)) sNx)
theorem lift_len (x : Int) (rs : Rn) : (lift x rs).length ≤ rs.length + 1 := by
  cases rs with
  | nil => simp [lift]
  | cons p r =>
    rw [lift_cons]
    split <;> simp
theorem kd_loop {E : Ends} {rs : Rn} {e : Int} {d1 d2 d5 d7 : Option D} (hl : rs.length ≤ 1000) : ∀ (ks : List Int) (R : List Rn) (x6 : Option D) (s : S), R.length + ks.length ≤ 100000 →
    (∀ x6, E.nx [some (.int e), d1, d2, some (.lst ((R ++ (ks.filter (ke rs e)).map fun t => lift t rs).map fun r => rowD r e)), some (rowD rs e), d5, x6, d7] s) →
    forL (gNm 6) kdB (ks.map .int) E [some (.int e), d1, d2, some (.lst (R.map fun r => rowD r e)), some (rowD rs e), d5, x6, d7] s
  | [], R, x6, s, _, hn => by
    have := hn x6
    rw [List.filter_nil, List.map_nil, List.append_nil] at this
    exact this
  | k :: ks, R, x6, s, hb, hn => by
    rw [List.length_cons] at hb
    have app : ke rs e k = true → sMut 3 oAppend (aCons (fCall sp_lifted (aCons (fVar 4) (aCons (fVar 6) aNil))) aNil) { E with nx := fun e2 s2 => forL (gNm 6) kdB (ks.map .int) E e2 s2, ct := fun e2 s2 => forL (gNm 6) kdB (ks.map .int) E e2 s2, bk := E.nx } [some (.int e), d1, d2, some (.lst (R.map fun r => rowD r e)), some (rowD rs e), d5, some (.int k), d7] s := fun hk => by
      show sp_lifted [rowD rs e, .int k] s _ _
      refine p_lifted hl ⟨by rw [List.length_map]; show _ < 16777216; omega, ?_⟩
      have := kd_loop (E := E) (d1 := d1) (d2 := d2) (d5 := d5) (d7 := d7) hl ks (R ++ [lift k rs]) (some (.int k)) s (by rw [List.length_append, List.length_singleton]; omega) (fun x6 => by
        have := hn x6
        rw [List.filter_cons_of_pos hk, List.map_cons] at this
        rw [List.append_assoc]
        exact this)
      rw [List.map_append] at this
      exact this
    refine ⟨.tup (rs.map prD), rfl, ?_⟩
    show (if decide (0 < (((rs.map prD).length : Nat) : Int)) = true then _ else _)
    cases rs with
    | nil =>
      rw [decide_eq_false (by simp), if_neg (by decide)]
      refine ⟨rfl, rfl, ?_⟩
      show (if (!(k == e)) = true then _ else _)
      by_cases hke : k = e
      · rw [if_neg (by simpa using hke)]
        refine kd_loop hl ks R (some (.int k)) s (by omega) fun x6 => ?_
        have := hn x6
        rw [List.filter_cons_of_neg (by unfold ke; simpa using hke)] at this
        exact this
      · rw [if_pos (by simpa using hke)]
        exact app (by unfold ke; simpa using hke)
    | cons p r =>
      rw [decide_eq_true (by simp), if_pos rfl]
      exact app rfl
theorem topA_sum : ∀ (rs : Rn) (a : Int), topA rs a = a + (rs.map fun p => p.1 * p.2).sum
  | [], a => by
    show a = a + 0
    omega
  | p :: r, a => by
    show topA r (a + p.1 * p.2) = _
    rw [topA_sum, List.map_cons, List.sum_cons]
    omega
theorem p_rows_with {e H : Int} (e0 : 0 < e) (he : e ≤ 1000) (H0 : 0 ≤ H) (hH : H ≤ 1000) (hlen : (rows e H []).length ≤ 1000) (q : Q (.lst ((rows e H []).map fun r => rowD r e)) s) : sp_rows_with [.int e, .int H] s Q X := by
  refine ⟨rfl, fun k env s2 => s2 = s ∧ ∃ (F R : List Rn) (x4 x5 x6 x7 : Option D), env = [some (.int e), some (.int H), some (.lst (F.map fun r => rowD r e)), some (.lst (R.map fun r => rowD r e)), x4, x5, x6, x7] ∧ F ++ R.reverse.flatMap (rows e H) = rows e H [] ∧ (∀ r, r ∈ R → RH e H r) ∧ k + F.length = (rows e H []).length, ⟨_, rfl, [], [[]], none, none, none, none, rfl, by simp, fun r hr => ?_, rfl⟩, fun k env s2 hI => ?_⟩
  · rw [List.mem_singleton] at hr
    subst hr
    exact rows_nil e0 H0
  obtain ⟨rfl, F, R, x4, x5, x6, x7, rfl, hF, hR, hk⟩ := hI
  show (if decide (0 < (((R.map fun r => rowD r e).length : Nat) : Int)) = true then _ else _)
  rcases concat_or R with rfl | ⟨R', rs, rfl⟩
  · rw [decide_eq_false (by simp), if_neg (by decide)]
    rw [List.reverse_nil, List.flatMap_nil, List.append_nil] at hF
    show Q (.lst (F.map fun r => rowD r e)) s2
    rw [hF]
    exact q
  rw [decide_eq_true (by simp), if_pos rfl]
  have hr := hR rs (by simp)
  rw [List.reverse_append, List.reverse_singleton, List.singleton_append, List.flatMap_cons, rows_eq rs, List.cons_append] at hF
  have hRl : F.length + 1 + R'.length ≤ (rows e H []).length := by
    rw [← hF]
    have key : ∀ L : List Rn, L.length ≤ (L.flatMap (rows e H)).length := fun L => by
      induction L with
      | nil => exact Nat.zero_le _
      | cons x L ih =>
        rw [List.flatMap_cons, List.length_append, List.length_cons]
        have := rows_ne (e := e) (H := H) x
        omega
    have := key R'.reverse
    rw [List.length_reverse] at this
    simp only [List.length_append, List.length_cons]
    omega
  have hdl : ((R' ++ [rs]).map fun r => rowD r e).dropLast = R'.map fun r => rowD r e := by simp
  refine ⟨rowD rs e, by simp, ?_⟩
  have ht0 := topA_ge (a := 0) hr.fr.pos
  have htH := hr.top
  refine ⟨by rw [List.length_map]; show _ < 16777216; omega, .tup (rs.map prD), rfl, ?_⟩
  show compL (gTp (gMore (gNm 6) (gMore (gNm 7) gNil))) cYes (fOp qMul (fVar 6) (fVar 7)) (rs.map prD) [] [some (.int e), some (.int H), some (.lst (F.map (fun r => rowD r e) ++ [rowD rs e])), some (.lst ((R' ++ [rs]).map fun r => rowD r e).dropLast), some (rowD rs e), x5, none, none] s2 _
  rw [hdl]
  have hrl := hr.len
  refine comp_aD (keep := fun _ => true) (f := fun p => .int (p.1 * p.2)) rs [] s2 (fun p hp => ⟨[some (.int e), some (.int H), some (.lst (F.map (fun r => rowD r e) ++ [rowD rs e])), some (.lst (R'.map fun r => rowD r e)), some (rowD rs e), x5, some (.int p.1), some (.int p.2)], fun R h => ⟨rfl, h⟩, fun s Qb h => h, fun s Q h => ⟨mul_ok (hr.good hH p hp).1.2.2.1 (hr.good hH p hp).1.2.2.2, h⟩⟩) (by show 0 + _ ≤ 16777216; omega) ?_
  rw [List.filter_eq_self.mpr fun _ _ => rfl, List.nil_append]
  refine ⟨_, ints_prod rs, ?_⟩
  show sp_steps_for [rowD rs e, .int (H - (rs.map fun p => p.1 * p.2).sum)] s2 _ _
  have hts := topA_sum rs 0
  rw [show H - (rs.map fun p => p.1 * p.2).sum = H - topA rs 0 by omega]
  refine p_steps_for hr hH he (by omega) (by omega) fun A hA => ?_
  have hal := hA.len (by omega)
  show forL (gNm 6) kdB (A.map .int) _ [some (.int e), some (.int H), some (.lst (F.map (fun r => rowD r e) ++ [rowD rs e])), some (.lst (R'.map fun r => rowD r e)), some (rowD rs e), some (.int (H - topA rs 0)), x6, x7] s2
  refine kd_loop (by omega) A R' x6 s2 (by omega) fun x6 => ?_
  rw [asc_kids hA]
  refine ⟨k - 1, by omega, rfl, F ++ [rs], R' ++ (kids e H rs).map fun t => lift t rs, some (rowD rs e), some (.int (H - topA rs 0)), x6, x7, ?_, ?_, fun r hr' => ?_, ?_⟩
  · rw [List.map_append (l₁ := F)]
    rfl
  · rw [← hF, List.append_assoc, List.reverse_append, List.flatMap_append, ← List.map_reverse, List.flatMap_map]
    rfl
  · rcases List.mem_append.mp hr' with h | h
    · exact hR r (List.mem_append_left _ h)
    · obtain ⟨t, ht, rfl⟩ := List.mem_map.mp h
      exact kid hr ht
  · rw [List.length_append, List.length_singleton]
    omega
theorem ixOf_last {α : Type} (l : List α) (d : α) : ixOf (l ++ [d]).length (-1) = some l.length := by
  unfold ixOf
  rw [if_neg (by decide), if_pos (by rw [List.length_append]; show -((l.length + 1 : Nat) : Int) ≤ -1; omega), List.length_append]
  congr 1
  show (-1 + ((l.length + 1 : Nat) : Int)).toNat = _
  omega
theorem ixLast {l : List D} {d : D} {R : D → Prop} (q : R d) : qIx (.lst (l ++ [d])) (.int (-1)) R := ⟨d, by rw [ixOf_last]; simp, q⟩
theorem ixP0 {p : Int × Int} {R : D → Prop} (q : R (.int p.1)) : qIx (prD p) (.int 0) R := ⟨_, rfl, q⟩
theorem ixP1 {p : Int × Int} {R : D → Prop} (q : R (.int p.2)) : qIx (prD p) (.int 1) R := ⟨_, rfl, q⟩
theorem addR_len (rev : List (Int × Int)) (p : Int × Int) : (addR rev p).length ≤ rev.length + 1 := by
  unfold addR
  split
  · split
    · split <;> simp
    · simp
  · omega
/-! rows out of single steps -/
def pc (st : List Int) : List (Int × Int) := st.map fun s => (s, 1)
def low (st : List Int) : Rn := joinP (pc st)
abbrev mgB : FTS := (sIf (fAnd (fTst (fOp qNe (fVar 5) (fLst aNil))) (fTst (fOp qEq (fOp qIx (fOp qIx (fVar 5) (fUn qNeg (fC (.int 1)))) (fC (.int 0))) (fVar 6)))) (sStL 5 (fUn qNeg (fC (.int 1))) (fTup (aCons (fVar 6) (aCons (fOp qAdd (fOp qIx (fOp qIx (fVar 5) (fUn qNeg (fC (.int 1)))) (fC (.int 1))) (fC (.int 1))) aNil)))) (sMut 5 oAppend (aCons (fTup (aCons (fVar 6) (aCons (fC (.int 1)) aNil))) aNil)))
theorem ok_prs (rs : List (Int × Int)) : ok (.lst (rs.map prD)) = true := ok_of fun x hx => by
  obtain ⟨p, _, rfl⟩ := List.mem_map.mp hx
  rfl
theorem mg_loop {E : Ends} {d0 d1 d2 d3 d4 d7 : Option D} : ∀ (st : List Int) (rev : List (Int × Int)) (x3 : Option D) (s : S), rev.length + st.length ≤ 1000 → (∀ x3, E.nx [d0, d1, d2, d3, d4, some (.lst (((pc st).foldl addR rev).reverse.map prD)), x3, d7] s) →
    forL (gNm 6) mgB (st.map .int) E [d0, d1, d2, d3, d4, some (.lst (rev.reverse.map prD)), x3, d7] s
  | [], rev, x3, s, _, hn => hn x3
  | t :: st, rev, x3, s, hl, hn => by
    rw [List.length_cons] at hl
    have al := addR_len rev (t, 1)
    have k := mg_loop (E := E) (d0 := d0) (d1 := d1) (d2 := d2) (d3 := d3) (d4 := d4) (d7 := d7) st (addR rev (t, 1)) (some (.int t)) s (by omega) hn
    unfold addR at k
    rw [if_pos (show (0 : Int) < (t, (1 : Int)).2 by show (0 : Int) < 1; decide)] at k
    refine ⟨ok_prs _, rfl, ?_⟩
    rw [eqv_nil]
    cases rev with
    | nil =>
      refine ⟨by decide, ?_⟩
      exact k
    | cons q r =>
      rw [List.reverse_cons, List.map_append]
      show (if (!(r.reverse.map prD ++ List.map prD [q]).isEmpty) = true then _ else _)
      rw [if_pos (by simp)]
      refine ixLast (l := r.reverse.map prD) (d := prD q) (ixP0 ⟨rfl, rfl, ?_⟩)
      show (if (q.1 == t) = true then _ else _)
      simp only at k
      by_cases hq : q.1 = t
      · rw [if_pos (by simpa using hq)]
        rw [if_pos hq, List.reverse_cons, List.map_append] at k
        refine ixLast (l := r.reverse.map prD) (d := prD q) (ixP1 ?_)
        refine ⟨(r.reverse.map prD).length, ixOf_last _ _, ?_⟩
        rw [show (r.reverse.map prD ++ List.map prD [q]).set (r.reverse.map prD).length (.tup [.int t, .int (q.2 + 1)]) = r.reverse.map prD ++ List.map prD [(t, q.2 + 1)] by simp [prD]]
        exact k
      · rw [if_neg (by simpa using hq)]
        rw [if_neg hq, List.reverse_cons, List.map_append, List.reverse_cons, List.map_append] at k
        rw [List.length_cons] at hl
        refine ⟨by rw [List.length_append, List.length_map, List.length_reverse]; show _ + 1 < 16777216; omega, ?_⟩
        exact k

def liftT (s t : Int) : Rn → Rn
  | [] => [(s, t)]
  | p :: r => if p.1 = s then (s, p.2 + t) :: r else (s, t) :: p :: r
theorem liftT_one (s : Int) (r : Rn) : liftT s 1 r = lift s r := by cases r <;> rfl
theorem liftT_cons (s t : Int) (p : Int × Int) (r : Rn) : liftT s t (p :: r) = if p.1 = s then (s, p.2 + t) :: r else (s, t) :: p :: r := rfl
theorem liftT_two (s t : Int) (r : Rn) : liftT s t (liftT s 1 r) = liftT s (t + 1) r := by
  cases r with
  | nil =>
    show (if s = s then [(s, 1 + t)] else _) = [(s, t + 1)]
    rw [if_pos rfl, Int.add_comm]
  | cons p r =>
    rw [liftT_cons s 1, liftT_cons s (t + 1)]
    by_cases h : p.1 = s
    · rw [if_pos h, if_pos h]
      show (if s = s then (s, p.2 + 1 + t) :: r else _) = _
      rw [if_pos rfl, show p.2 + 1 + t = p.2 + (t + 1) by omega]
    · rw [if_neg h, if_neg h]
      show (if s = s then (s, 1 + t) :: p :: r else _) = _
      rw [if_pos rfl, Int.add_comm]
theorem addR_one (rev : Rn) (x : Int) : addR rev (x, 1) = match rev with
    | q :: r => if q.1 = x then (x, q.2 + 1) :: r else (x, 1) :: q :: r
    | [] => [(x, 1)] := by
  unfold addR
  exact if_pos (show (0 : Int) < 1 by decide)
theorem addR_app {q : Int × Int} {rev base : Rn} {x : Int} : addR ((q :: rev) ++ base) (x, 1) = addR (q :: rev) (x, 1) ++ base := by
  rw [addR_one, addR_one]
  show (if q.1 = x then _ else _) = (if q.1 = x then _ else _) ++ base
  split <;> rfl
theorem addR_ne (rev : Rn) (x : Int) : ∃ q r, addR rev (x, 1) = q :: r := by
  rw [addR_one]
  cases rev with
  | nil => exact ⟨_, _, rfl⟩
  | cons q r =>
    show ∃ a b, (if q.1 = x then _ else _) = a :: b
    split <;> exact ⟨_, _, rfl⟩
theorem fold_app {base : Rn} : ∀ (st : List Int) (q : Int × Int) (rev : Rn), (pc st).foldl addR ((q :: rev) ++ base) = (pc st).foldl addR (q :: rev) ++ base
  | [], _, _ => rfl
  | x :: st, q, rev => by
    show (pc st).foldl addR (addR ((q :: rev) ++ base) (x, 1)) = (pc st).foldl addR (addR (q :: rev) (x, 1)) ++ base
    rw [addR_app]
    obtain ⟨a, b, h⟩ := addR_ne (q :: rev) x
    rw [h]
    exact fold_app st a b
theorem low_cons (s : Int) (st : List Int) : low (s :: st) = lift s (low st) := by
  have key : ∀ (st : List Int) (s t : Int), ((pc st).foldl addR [(s, t)]).reverse = liftT s t (low st) := fun st => by
    induction st with
    | nil => intro s t; rfl
    | cons x st ih =>
      intro s t
      have hl : low (x :: st) = liftT x 1 (low st) := by
        show ((pc st).foldl addR (addR [] (x, 1))).reverse = _
        rw [addR_one]
        exact ih x 1
      rw [hl]
      show ((pc st).foldl addR (addR [(s, t)] (x, 1))).reverse = _
      rw [addR_one]
      show ((pc st).foldl addR (if s = x then [(x, t + 1)] else [(x, 1), (s, t)])).reverse = _
      by_cases h : s = x
      · subst h
        rw [if_pos rfl, ih, liftT_two]
      · rw [if_neg h]
        have := fold_app (base := [(s, t)]) st (x, 1) []
        rw [List.singleton_append] at this
        rw [this, List.reverse_append, ih, List.reverse_singleton, List.singleton_append]
        cases hh : low st with
        | nil =>
          show _ = (if x = s then _ else _)
          rw [if_neg fun z => h z.symm]
          rfl
        | cons p r =>
          rw [liftT_cons x 1]
          by_cases h2 : p.1 = x
          · rw [if_pos h2]
            show _ = (if x = s then _ else _)
            rw [if_neg fun z => h z.symm]
          · rw [if_neg h2]
            show _ = (if x = s then _ else _)
            rw [if_neg fun z => h z.symm]
  show ((pc st).foldl addR (addR [] (s, 1))).reverse = _
  rw [addR_one]
  show ((pc st).foldl addR [(s, 1)]).reverse = _
  rw [key, liftT_one]
structure LS (e H : Int) (st : List Int) : Prop where
  pos : ∀ s, s ∈ st → 0 < s
  rh : RH e H (low st)
  sum : st.sum = topA (low st) 0
theorem LS.nil {e H : Int} (e0 : 0 < e) (hH : 0 ≤ H) : LS e H [] := ⟨fun s hs => (nomatch hs), rows_nil e0 hH, rfl⟩
theorem LS.cons {e H x : Int} {st : List Int} (h : LS e H st) (hx : x ∈ kids e H (low st)) : LS e H (x :: st) := by
  obtain ⟨⟨h1, h2⟩, h3⟩ := mem_kids.mp hx
  refine ⟨fun s hs => ?_, by rw [low_cons]; exact kid h.rh hx, by rw [low_cons, lift_top, List.sum_cons, h.sum]⟩
  rcases List.mem_cons.mp hs with rfl | hs
  · omega
  · exact h.pos s hs
theorem LS.len {e H : Int} {st : List Int} (h : LS e H st) : (st.length : Int) ≤ H := by
  have key : ∀ l : List Int, (∀ s, s ∈ l → 0 < s) → (l.length : Int) ≤ l.sum := fun l => by
    induction l with
    | nil => intro _; exact Int.le_refl _
    | cons x l ih =>
      intro hl
      have := hl x (List.mem_cons_self ..)
      have := ih fun s hs => hl s (List.mem_cons_of_mem _ hs)
      rw [List.length_cons, List.sum_cons]
      omega
  have := key st h.pos
  have := h.sum
  have := h.rh.top
  omega
theorem low_ne {st : List Int} : (low st).isEmpty = st.isEmpty := by
  cases st with
  | nil => rfl
  | cons x st =>
    rw [low_cons]
    cases low st with
    | nil => rfl
    | cons p r =>
      rw [lift_cons]
      split <;> rfl
theorem ok_is (l : List Int) : ok (.lst (l.map .int)) = true := ok_of fun x hx => by
  obtain ⟨i, _, rfl⟩ := List.mem_map.mp hx
  rfl
abbrev klB : FTS := (sIf (fAnd (fTst (fCall sp__law_in (aCons (fVar 7) (aCons (fVar 6) aNil)))) (fOr (fTst (fOp qNe (fVar 4) (fLst aNil))) (fTst (fOp qNe (fVar 6) (fVar 0))))) (sMut 3 oAppend (aCons (fOp qAdd (fLst (aCons (fVar 6) aNil)) (fVar 4)) aNil)) sNx)
abbrev stD (st : List Int) : D := .lst (st.map .int)
theorem kl_loop {E : Ends} {st : List Int} {e H : Int} {d1 d2 d5 : Option D} (h : LS e H st) (hH : H ≤ 1000) : ∀ (ks : List Int) (L : List (List Int)) (x6 : Option D) (s : S), L.length + ks.length ≤ 100000 →
    (∀ x6, E.nx [some (.int e), d1, d2, some (.lst ((L ++ (ks.filter (may (low st) e)).map fun t => t :: st).map stD)), some (stD st), d5, x6, some (rowD (low st) e)] s) →
    forL (gNm 6) klB (ks.map .int) E [some (.int e), d1, d2, some (.lst (L.map stD)), some (stD st), d5, x6, some (rowD (low st) e)] s
  | [], L, x6, s, _, hn => by
    have := hn x6
    rw [List.filter_nil, List.map_nil, List.append_nil] at this
    exact this
  | k :: ks, L, x6, s, hb, hn => by
    rw [List.length_cons] at hb
    have hsl := h.len
    have app : may (low st) e k = true → sMut 3 oAppend (aCons (fOp qAdd (fLst (aCons (fVar 6) aNil)) (fVar 4)) aNil) { E with nx := fun e2 s2 => forL (gNm 6) klB (ks.map .int) E e2 s2, ct := fun e2 s2 => forL (gNm 6) klB (ks.map .int) E e2 s2, bk := E.nx } [some (.int e), d1, d2, some (.lst (L.map stD)), some (stD st), d5, some (.int k), some (rowD (low st) e)] s := fun hk => by
      refine ⟨by rw [List.length_map]; show 1 + _ ≤ 16777216; omega, by rw [List.length_map]; show _ < 16777216; omega, ?_⟩
      have := kl_loop (E := E) (d1 := d1) (d2 := d2) (d5 := d5) h hH ks (L ++ [k :: st]) (some (.int k)) s (by rw [List.length_append, List.length_singleton]; omega) (fun x6 => by
        have := hn x6
        rw [List.filter_cons_of_pos hk, List.map_cons] at this
        rw [List.append_assoc]
        exact this)
      rw [List.map_append] at this
      exact this
    have skip : may (low st) e k = false → forL (gNm 6) klB (ks.map .int) E [some (.int e), d1, d2, some (.lst (L.map stD)), some (stD st), d5, some (.int k), some (rowD (low st) e)] s := fun hk => by
      refine kl_loop h hH ks L (some (.int k)) s (by omega) fun x6 => ?_
      have := hn x6
      rw [List.filter_cons_of_neg (by rw [hk]; decide)] at this
      exact this
    show sp__law_in [rowD (low st) e, .int k] s _ _
    refine p__law_in (.inl rfl) (fun p hp => (h.rh.good hH p hp).1) (Int.le_of_lt h.rh.e0) ?_
    show (if inR (low st) e k = true then _ else _)
    by_cases hin : inR (low st) e k = true
    · rw [if_pos hin]
      refine ⟨ok_is st, rfl, ?_⟩
      show (if (!(D.lst (st.map .int)).eqv (.lst [])) = true then _ else _)
      rw [eqv_nil]
      have hie : (st.map D.int).isEmpty = st.isEmpty := by cases st <;> rfl
      rw [hie]
      by_cases hs : st.isEmpty = true
      · rw [hs]
        refine ⟨rfl, rfl, ?_⟩
        show (if (!(k == e)) = true then _ else _)
        by_cases hke : k = e
        · rw [if_neg (by simpa using hke)]
          refine skip ?_
          unfold may
          rw [low_ne, hs, hin]
          simpa using hke
        · rw [if_pos (by simpa using hke)]
          refine app ?_
          unfold may
          rw [low_ne, hs, hin]
          simpa using hke
      · have hs' : st.isEmpty = false := by simpa using hs
        rw [hs']
        refine app ?_
        unfold may
        rw [low_ne, hs', hin]
        rfl
    · rw [if_neg hin]
      refine skip ?_
      unfold may
      rw [show inR (low st) e k = false by simpa using hin]
      rfl
theorem p__law_rows_low {e H : Int} (e0 : 0 < e) (H0 : 0 ≤ H) (hH : H ≤ 1000) (hlen : (rows e H []).length ≤ 1000) (q : Q (.lst ((rows e H []).map fun r => rowD r e)) s) : sp__law_rows_low [.int e, .int H] s Q X := by
  refine ⟨rfl, fun k env s2 => s2 = s ∧ ∃ (F : List Rn) (L : List (List Int)) (x4 x5 x6 x7 : Option D), env = [some (.int e), some (.int H), some (.lst (F.map fun r => rowD r e)), some (.lst (L.map stD)), x4, x5, x6, x7] ∧ F ++ (L.reverse.flatMap fun st => rows e H (low st)) = rows e H [] ∧ (∀ st, st ∈ L → LS e H st) ∧ k + F.length = (rows e H []).length, ⟨_, rfl, [], [[]], none, none, none, none, rfl, by simp [low, pc, joinP], fun st hst => ?_, rfl⟩, fun k env s2 hI => ?_⟩
  · rw [List.mem_singleton] at hst
    subst hst
    exact LS.nil e0 H0
  obtain ⟨rfl, F, L, x4, x5, x6, x7, rfl, hF, hL, hk⟩ := hI
  refine ⟨ok_of fun x hx => by
    obtain ⟨l, _, rfl⟩ := List.mem_map.mp hx
    exact okN_mono 1 50 _ (by decide) (List.all_eq_true.mpr fun y hy => by
      obtain ⟨i, _, rfl⟩ := List.mem_map.mp hy
      rfl), rfl, ?_⟩
  show (if (!(D.lst (L.map stD)).eqv (.lst [])) = true then _ else _)
  rw [eqv_nil]
  rcases concat_or L with rfl | ⟨L', st, rfl⟩
  · rw [if_neg (by simp)]
    rw [List.reverse_nil, List.flatMap_nil, List.append_nil] at hF
    show Q (.lst (F.map fun r => rowD r e)) s2
    rw [hF]
    exact q
  rw [if_pos (by simp)]
  have hr := hL st (by simp)
  rw [List.reverse_append, List.reverse_singleton, List.singleton_append, List.flatMap_cons, rows_eq (low st), List.cons_append] at hF
  have hRl : F.length + 1 + L'.length ≤ (rows e H []).length := by
    rw [← hF]
    have key : ∀ L : List (List Int), L.length ≤ (L.flatMap fun st => rows e H (low st)).length := fun L => by
      induction L with
      | nil => exact Nat.zero_le _
      | cons x L ih =>
        rw [List.flatMap_cons, List.length_append, List.length_cons]
        have := rows_ne (e := e) (H := H) (low x)
        omega
    have := key L'.reverse
    rw [List.length_reverse] at this
    simp only [List.length_append, List.length_cons]
    omega
  have hdl : ((L' ++ [st]).map stD).dropLast = L'.map stD := by simp
  refine ⟨stD st, by simp, ?_⟩
  have hsl := hr.len
  have ht0 := topA_ge (a := 0) hr.rh.fr.pos
  have htH := hr.rh.top
  show forL (gNm 6) mgB (st.map .int) _ [some (.int e), some (.int H), some (.lst (F.map fun r => rowD r e)), some (.lst ((L' ++ [st]).map stD).dropLast), some (stD st), some (.lst (([] : Rn).reverse.map prD)), x6, x7] s2
  rw [hdl]
  refine mg_loop st [] x6 s2 (by show 0 + _ ≤ _; omega) fun x6 => ?_
  refine ⟨by rw [List.length_map]; show _ < 16777216; omega, st, ints?_map st, ⟨by decide, by decide, by have := hr.sum; omega, by have := hr.sum; omega⟩, ?_⟩
  have hrg : rangeD 1 (H - st.sum + 1 - 1).toNat = ((List.range (H - topA (low st) 0).toNat).map fun (i : Nat) => 1 + (i : Int)).map D.int := by
    rw [hr.sum, show H - topA (low st) 0 + 1 - 1 = H - topA (low st) 0 by omega, List.map_map]
    rfl
  show forL (gNm 6) klB (rangeD 1 (H - st.sum + 1 - 1).toNat) _ [some (.int e), some (.int H), some (.lst (F.map (fun r => rowD r e) ++ [rowD (low st) e])), some (.lst (L'.map stD)), some (stD st), some (.lst ((low st).map prD)), x6, some (rowD (low st) e)] s2
  rw [hrg]
  refine kl_loop hr hH _ L' x6 s2 (by rw [List.length_map, List.length_range]; omega) fun x6 => ?_
  refine ⟨k - 1, by omega, rfl, F ++ [low st], L' ++ (kids e H (low st)).map fun t => t :: st, some (stD st), some (.lst ((low st).map prD)), x6, some (rowD (low st) e), ?_, ?_, fun r hr' => ?_, ?_⟩
  · rw [List.map_append (l₁ := F)]
    rfl
  · rw [← hF, List.append_assoc, List.reverse_append, List.flatMap_append, ← List.map_reverse, List.flatMap_map]
    show F ++ (low st :: ((kids e H (low st)).reverse.flatMap (fun t => rows e H (low (t :: st))) ++ _)) = _
    rw [show (fun t => rows e H (low (t :: st))) = fun t => rows e H (lift t (low st)) from funext fun t => by rw [low_cons]]
  · rcases List.mem_append.mp hr' with h | h
    · exact hL r (List.mem_append_left _ h)
    · obtain ⟨t, ht, rfl⟩ := List.mem_map.mp h
      exact hr.cons ht
  · rw [List.length_append, List.length_singleton]
    omega
end Lk26
end Fy
set_option Elab.async false
set_option linter.all false
set_option maxRecDepth 100000
set_option maxHeartbeats 1000000
namespace Fy
namespace Lk26
open Pu
open PySem (Str)
variable {v : D} {s : S} {Q : KD} {X : XC}
/-! how many -/
theorem rows18_all : ((List.range 19).all fun H => decide ((rows 1 (H : Int) []).length ≤ 800)) = true := by decide +kernel
theorem rows18 {H : Int} (H0 : 0 ≤ H) (hH : H ≤ 18) : (rows 1 H []).length ≤ 800 := by
  have := List.all_eq_true.mp rows18_all H.toNat (List.mem_range.mpr (by omega))
  have h := of_decide_eq_true this
  rwa [show ((H.toNat : Nat) : Int) = H by omega] at h
def rowsL (H : Int) : List FRw := ((rows 1 H []).filter fun r => topA r 0 == H).map fun r => (r, 1)
noncomputable def rowsT (H : Int) : List FRw := sortR (rowsL H)
theorem rowsL_len {H : Int} (H0 : 0 ≤ H) (hH : H ≤ 18) : (rowsL H).length ≤ 800 := by
  unfold rowsL
  rw [List.length_map]
  exact Nat.le_trans (List.length_filter_le _ _) (rows18 H0 hH)
theorem rowsT_len {H : Int} : (rowsT H).length = (rowsL H).length := len_sortR _
theorem rowsL_rh {H : Int} (H0 : 0 ≤ H) {r : FRw} (h : r ∈ rowsL H) : RH 1 H r.1 ∧ r.2 = 1 ∧ topA r.1 0 = H := by
  obtain ⟨x, hx, rfl⟩ := List.mem_map.mp h
  obtain ⟨h1, h2⟩ := List.mem_filter.mp hx
  exact ⟨rows_all _ _ (Nat.le_refl _) (rows_nil (by decide) H0) x h1, rfl, by simpa using h2⟩
theorem rowsT_rh {H : Int} (H0 : 0 ≤ H) {r : FRw} (h : r ∈ rowsT H) : RH 1 H r.1 ∧ r.2 = 1 ∧ topA r.1 0 = H := rowsL_rh H0 (mem_sortR.mp h)
theorem rowsT_nodup {H : Int} (H0 : 0 ≤ H) : (rowsT H).Nodup := by
  refine (sortR_perm _).nodup_iff.mpr ?_
  unfold rowsL
  exact List.Pairwise.map _ (fun a b hab h => hab (congrArg Prod.fst h)) ((rows_nodup _ _ (Nat.le_refl _) (rows_nil (by decide) H0)).filter _)
/-! sums of steps -/
theorem sum_sp {rs : Rn} {e : Int} (hg : ∀ p, p ∈ rs → Good p) (hl : rs.length ≤ 1000) {P : D → S → Prop} {x0 : Option D} (q : P (.int (topA rs 0)) s) :
    compL (gTp (gMore (gNm 1) (gMore (gNm 2) gNil))) cYes (fOp qMul (fVar 1) (fVar 2)) (rs.map prD) [] [x0, none, none] s (fun r s2 => qSum (.lst r) (fun d => P d s2)) := by
  refine comp_aD (keep := fun _ => true) (f := fun p => .int (p.1 * p.2)) rs [] s (fun p hp => ⟨[x0, some (.int p.1), some (.int p.2)], fun R h => ⟨rfl, h⟩, fun s Qb h => h, fun s Q h => ⟨mul_ok (hg p hp).2.2.1 (hg p hp).2.2.2, h⟩⟩) (by show 0 + _ ≤ 16777216; omega) ?_
  rw [List.filter_eq_self.mpr fun _ _ => rfl, List.nil_append]
  refine ⟨_, ints_prod rs, ?_⟩
  have := topA_sum rs 0
  rw [show (rs.map fun p => p.1 * p.2).sum = topA rs 0 by omega]
  exact q
theorem p_sum_of {rs : Rn} {e : Int} (hg : ∀ p, p ∈ rs → Good p) (hl : rs.length ≤ 1000) (q : Q (.int (topA rs 0)) s) : sp_sum_of [rowD rs e] s Q X :=
  ⟨rfl, _, rfl, sum_sp (e := e) hg hl q⟩
theorem p__law_top {rs : Rn} {e : Int} (hg : ∀ p, p ∈ rs → Good p) (hl : rs.length ≤ 1000) (q : Q (.int (topA rs 0)) s) : sp__law_top [rowD rs e] s Q X :=
  ⟨rfl, _, rfl, sum_sp (e := e) hg hl q⟩
theorem fin_rows {H : Int} : ((rows 1 H []).filter fun r => topA r 0 == H).map (fun r => rowD r 1) = (rowsL H).map rowOf := by
  unfold rowsL
  rw [List.map_map]
  rfl
theorem p_rows_of {H : Int} (H0 : 0 ≤ H) (hH : H ≤ 18) (q : Q (.lst ((rowsT H).map rowOf)) s) : sp_rows_of [.int H] s Q X := by
  have hl := rows18 H0 hH
  have hl2 := rowsL_len H0 hH
  refine ⟨rfl, ?_⟩
  show sp_rows_with [.int 1, .int H] s _ _
  refine p_rows_with (by decide) (by decide) H0 (by omega) (by omega) ?_
  show compL (gNm 1) (fTst (fOp qEq (fCall sp_sum_of (aCons (fVar 1) aNil)) (fVar 0))) (fVar 1) ((rows 1 H []).map fun r => rowD r 1) [] [some (.int H), none] s _
  refine comp_aD (a := fun r => rowD r 1) (keep := fun r => topA r 0 == H) (f := fun r => rowD r 1) (rows 1 H []) [] s (fun r hr => ⟨[some (.int H), some (rowD r 1)], fun R h => h, fun s Qb qb => ?_, fun s Q h => h⟩) (by show 0 + _ ≤ 16777216; omega) ?_
  · have h := rows_all _ _ (Nat.le_refl _) (rows_nil (by decide) H0) r hr
    have := h.len
    show sp_sum_of [rowD r 1] s _ _
    exact p_sum_of (fun p hp => (h.good (by omega) p hp).1) (by omega) ⟨rfl, rfl, qb⟩
  rw [List.nil_append, fin_rows]
  exact ⟨_, rfl, by show _ ≤ 16777216; omega, q⟩
theorem p_how_many {H : Int} (H0 : 0 ≤ H) (hH : H ≤ 18) (q : Q (.int ((rowsT H).length : Nat)) s) : sp_how_many [.int H] s Q X := by
  refine ⟨rfl, ?_⟩
  show sp_rows_of [.int H] s _ _
  refine p_rows_of H0 hH ?_
  show Q (.int ((((rowsT H).map rowOf).length : Nat) : Int)) s
  rw [List.length_map]
  exact q
theorem p_row_at {H n : Int} (H0 : 0 ≤ H) (hH : H ≤ 18) (n0 : 0 ≤ n) (q1 : ((rowsT H).length : Nat) ≤ n → X 5 (.int 1) s) (q2 : ∀ r, (rowsT H)[n.toNat]? = some r → n < ((rowsT H).length : Nat) → Q (rowOf r) s) : sp_row_at [.int H, .int n] s Q X := by
  refine ⟨rfl, ?_⟩
  show sp_rows_of [.int H] s _ _
  refine p_rows_of H0 hH ?_
  show (if decide (((((rowsT H).map rowOf).length : Nat) : Int) ≤ n) = true then _ else _)
  rw [List.length_map]
  by_cases hc : ((rowsT H).length : Nat) ≤ n
  · rw [decide_eq_true hc, if_pos rfl]
    exact q1 hc
  · rw [decide_eq_false hc, if_neg (by decide)]
    have hn : n.toNat < (rowsT H).length := by omega
    refine ⟨rowOf (rowsT H)[n.toNat], ?_, q2 _ (List.getElem?_eq_getElem hn) (by omega)⟩
    unfold ixOf
    rw [if_pos n0, if_pos (by rw [List.length_map]; omega)]
    show ((rowsT H).map rowOf)[n.toNat]? = _
    rw [List.getElem?_map, List.getElem?_eq_getElem hn]
    rfl
theorem ok_row1 (r : FRw) : okN 50 (rowOf r) = true := by
  refine okN_mono 3 50 _ (by decide) ?_
  show (((r.1.map prD).all (okN 1)) && (true && true)) = true
  rw [Bool.and_true, Bool.and_true, List.all_eq_true]
  intro y hy
  obtain ⟨p, _, rfl⟩ := List.mem_map.mp hy
  rfl
theorem ok_rowsL (l : List FRw) : ok (.lst (l.map rowOf)) = true := ok_of fun x hx => by
  obtain ⟨r, _, rfl⟩ := List.mem_map.mp hx
  exact ok_row1 r
theorem p_index_of {rs : Rn} {e : Int} (hr : Row rs e) (q1 : e ≠ 1 ∨ 30 < topA rs 0 → X 5 (.int 0) s) (q2 : e = 1 → topA rs 0 ≤ 30 → ∃ n : Nat, topA rs 0 ≤ 18 ∧ (rowsT (topA rs 0))[n]? = some (rs, 1) ∧ Q (.int (n : Nat)) s) : sp_index_of [rowD rs e] s Q X := by
  refine ⟨rfl, ?_⟩
  show sp_checked_falling [rowD rs e] s _ _
  refine p_checked hr.wr.1 (fun _ => ?_) fun z => by rw [hr.isF] at z; cases z
  show sp_sum_of [rowD rs e] s _ _
  have hl := hr.len
  refine p_sum_of hr.g (by omega) ?_
  refine ⟨_, rfl, rfl, rfl, ?_⟩
  show (if (!(e == 1)) = true then _ else _)
  by_cases he : e = 1
  · rw [if_neg (by simpa using he)]
    show (if decide (30 < topA rs 0) = true then _ else _)
    by_cases ht : 30 < topA rs 0
    · rw [decide_eq_true ht, if_pos rfl]
      exact q1 (.inr ht)
    · rw [decide_eq_false ht, if_neg (by decide)]
      obtain ⟨n, h18, hn, q⟩ := q2 he (by omega)
      subst he
      have t0 := topA_ge (a := 0) (Pos.of hr.g)
      show sp_rows_of [.int (topA rs 0)] s _ _
      refine p_rows_of t0 h18 ?_
      refine ⟨okN_mono 50 60 _ (by decide) (ok_row1 (rs, 1)), ok_rowsL _, n, rowD rs 1, by rw [List.getElem?_map, hn]; rfl, ?_, fun m d' hm hd => ?_, q⟩
      · rw [eqv_row]
        simp
      · rw [List.getElem?_map] at hd
        obtain ⟨r2, hr2, rfl⟩ := Option.map_eq_some_iff.mp hd
        rw [eqv_row]
        obtain ⟨hml, hme⟩ := List.getElem?_eq_some_iff.mp hr2
        obtain ⟨hnl, hne⟩ := List.getElem?_eq_some_iff.mp hn
        have hnd := List.pairwise_iff_getElem.mp (rowsT_nodup t0) m n hml hnl hm
        rw [hme, hne] at hnd
        cases hb : (r2.1 == rs && r2.2 == 1)
        · rfl
        · rw [Bool.and_eq_true] at hb
          exact absurd (Prod.ext (eq_of_beq hb.1) (eq_of_beq hb.2)) hnd
  · rw [if_pos (by simpa using he)]
    exact q1 (.inl he)
theorem p_index_no (h : pl v = true) (hF : isF v = false) (q : X 4 (.int 0) s) : sp_index_of [v] s Q X := by
  refine ⟨rfl, ?_⟩
  show sp_checked_falling [v] s _ _
  exact p_checked h (fun z => by rw [hF] at z; cases z) fun _ => q
end Lk26
end Fy
set_option Elab.async false
set_option linter.all false
set_option maxRecDepth 100000
set_option maxHeartbeats 1000000
namespace Fy
namespace Lk26
open Pu
open PySem (Str)
variable {v : D} {s : S} {Q : KD} {X : XC}
/-- a loop that folds -/
theorem fold_loop {σ : Type} {i : Nat} {b : FTS} {E : Ends} (en : List Int → σ → Env → Prop) (step : σ → Int → σ)
    (hb : ∀ k rem st env s (E' : Ends), en (k :: rem) st env → (∀ env s, en rem (step st k) env → E'.nx env s) → b E' (put env i (some (.int k))) s) :
    ∀ (l : List Int) (st : σ) (env : Env) (s : S), en l st env → (∀ env s, en [] (l.foldl step st) env → E.nx env s) → forL (gNm i) b (l.map .int) E env s
  | [], st, env, s, h, q => q env s h
  | k :: l, st, env, s, h, q => hb k l st env s _ h fun env s h' => fold_loop en step hb l (step st k) env s h' q
def selS (st : Int × List Int) (n : Int) : Int × List Int := (st.1 / 2, if st.1 % 2 == 1 then st.2 ++ [n] else st.2)
def rgI (a : Int) (n : Nat) : List Int := (List.range n).map fun (i : Nat) => a + (i : Int)
theorem rgI_ints (a : Int) (n : Nat) : rangeD a n = (rgI a n).map .int := by
  unfold rangeD rgI
  rw [List.map_map]
  rfl
def badOf (t : Int) (S : List Int) (x y : Int) : Bool := !(S.filter fun z => decide (z ≤ if y < x then y else x) && (decide (x + y - z ≤ 2 * t) && !(S.contains (x + y - z)))).isEmpty
def badY (t : Int) (S : List Int) (x : Int) (b : Bool) (y : Int) : Bool := if b then b else badOf t S x y
def badX (t : Int) (S : List Int) (b : Bool) (x : Int) : Bool := S.foldl (badY t S x) b
def someOf (t m : Int) : List Int := ((rgI 1 (t - 1 - 1).toNat).foldl selS (m, [0])).2 ++ rgI t (2 * t + 1 - t).toNat
def oneM (t : Int) (f : Int) (m : Int) : Int := if (someOf t m).foldl (badX t (someOf t m)) false then f else f + 1
def table : List Int := [1, 1, 1, 2, 4, 8, 16, 32, 64]
def bySets (t : Int) : Int := (rgI 0 (table[t.toNat]?.getD 0).toNat).foldl (oneM t) 0
theorem bySets_all : ((List.range 5).all fun i => bySets (2 + (i : Int)) == ((rowsL (2 + (i : Int))).length : Nat)) = true := by decide +kernel
theorem rows_0 : (rowsL 0).length = 1 := by decide +kernel
theorem rows_1 : (rowsL 1).length = 0 := by decide +kernel
theorem ok_is2 (l : List Int) : ok (.lst (l.map .int)) = true := ok_of fun x hx => by
  obtain ⟨i, _, rfl⟩ := List.mem_map.mp hx
  rfl
theorem empty_map (l : List Int) : (l.map D.int).isEmpty = l.isEmpty := by cases l <;> rfl
abbrev s1B : FTS := (sSeq (sAsg (fIfE (fTst (fOp qEq (fOp qMod (fUn qInt (fVar 8)) (fC (.int 2))) (fC (.int 1)))) (fOp qAdd (fVar 5) (fLst (aCons (fVar 4) aNil))) (fVar 5)) (gNm 5)) (sAsg (fOp qDiv (fVar 8) (fC (.int 2))) (gNm 8)))
abbrev s2B : FTS := (sIf (fNot (fTst (fVar 6))) (sAsg (fOp qNe (fLC (iSeq (fVar 5)) (gNm 10) (fAnd (fTst (fOp qLe (fVar 10) (fOp qMin2 (fVar 7) (fVar 9)))) (fAnd (fTst (fOp qLe (fOp qSub (fOp qAdd (fVar 7) (fVar 9)) (fVar 10)) (fOp qMul (fC (.int 2)) (fVar 0)))) (fTst (fOp qNotIn (fOp qSub (fOp qAdd (fVar 7) (fVar 9)) (fVar 10)) (fVar 5))))) (fVar 10) [10]) (fLst aNil)) (gNm 6)) sNx)
abbrev s3B : FTS := (sFor (iSeq (fVar 5)) (gNm 9) s2B)
theorem sel_loop {E : Ends} {d0 d1 d2 d3 x4 x6 x7 x9 x10 : Option D} {l : List Int} {st : Int × List Int} (hl : st.2.length + l.length ≤ 1000)
    (q : ∀ x4 x8 s, (l.foldl selS st).2.length ≤ 1000 → E.nx [d0, d1, d2, d3, x4, some (.lst ((l.foldl selS st).2.map .int)), x6, x7, x8, x9, x10] s) :
    forL (gNm 4) s1B (l.map .int) E [d0, d1, d2, d3, x4, some (.lst (st.2.map .int)), x6, x7, some (.int st.1), x9, x10] s := by
  refine fold_loop (σ := Int × List Int) (fun rem st env => st.2.length + rem.length ≤ 1000 ∧ ∃ x4, env = [d0, d1, d2, d3, x4, some (.lst (st.2.map .int)), x6, x7, some (.int st.1), x9, x10]) selS (fun k rem st env s E' h hq => ?_) l st _ s ⟨hl, x4, rfl⟩ fun env s h => ?_
  · obtain ⟨hl, x4, rfl⟩ := h
    rw [List.length_cons] at hl
    refine ⟨by decide, rfl, rfl, ?_⟩
    show (if (st.1 % 2 == 1) = true then _ else _)
    by_cases hc : (st.1 % 2 == 1) = true
    · rw [if_pos hc]
      refine ⟨by rw [List.length_map]; show _ + 1 ≤ 16777216; omega, ⟨by decide, by decide⟩, ?_⟩
      refine hq _ s ⟨?_, some (.int k), ?_⟩
      · unfold selS
        rw [if_pos hc, List.length_append, List.length_singleton]
        omega
      · unfold selS
        rw [if_pos hc, List.map_append]
        rfl
    · rw [if_neg hc]
      refine ⟨⟨by decide, by decide⟩, ?_⟩
      refine hq _ s ⟨?_, some (.int k), ?_⟩
      · unfold selS
        rw [if_neg hc]
        show st.2.length + _ ≤ _
        omega
      · unfold selS
        rw [if_neg hc]
        rfl
  · obtain ⟨h1, x4, rfl⟩ := h
    exact q x4 _ s (by rw [List.length_nil] at h1; omega)
theorem y_loop {E : Ends} {t x : Int} {b : Bool} {d1 d2 d3 x4 x8 x9 x10 : Option D} {S0 l : List Int} (ht : 0 ≤ t ∧ t ≤ 100) (hS : S0.length ≤ 1000)
    (q : ∀ x9 s, E.nx [some (.int t), d1, d2, d3, x4, some (.lst (S0.map .int)), some (.bl (l.foldl (badY t S0 x) b)), some (.int x), x8, x9, x10] s) :
    forL (gNm 9) s2B (l.map .int) E [some (.int t), d1, d2, d3, x4, some (.lst (S0.map .int)), some (.bl b), some (.int x), x8, x9, x10] s := by
  refine fold_loop (σ := Bool) (fun rem b env => ∃ x9, env = [some (.int t), d1, d2, d3, x4, some (.lst (S0.map .int)), some (.bl b), some (.int x), x8, x9, x10]) (badY t S0 x) (fun y rem b env s E' h hq => ?_) l b _ s ⟨x9, rfl⟩ fun env s h => ?_
  · obtain ⟨x9, rfl⟩ := h
    show (if (!b) = true then _ else _)
    cases b with
    | true =>
      rw [if_neg (by decide)]
      exact hq _ s ⟨some (.int y), rfl⟩
    | false =>
      rw [if_pos (show (!false) = true from rfl)]
      show compL (gNm 10) _ (fVar 10) (S0.map .int) [] [some (.int t), d1, d2, d3, x4, some (.lst (S0.map .int)), some (.bl false), some (.int x), x8, some (.int y), none] s _
      refine comp_ints (keep := fun z => decide (z ≤ if y < x then y else x) && (decide (x + y - z ≤ 2 * t) && !(S0.contains (x + y - z)))) (f := fun x => x) S0 [] s (fun z hz => ⟨[some (.int t), d1, d2, d3, x4, some (.lst (S0.map .int)), some (.bl false), some (.int x), x8, some (.int y), some (.int z)], fun R r => r, fun s Qb qb => ?_, fun s Q _ qx => qx⟩) (by show 0 + _ ≤ 16777216; omega) ?_
      · show (if decide (z ≤ if y < x then y else x) = true then _ else _)
        cases h1 : decide (z ≤ if y < x then y else x) with
        | false =>
          rw [if_neg (by decide)]
          rw [h1] at qb
          exact qb
        | true =>
          rw [if_pos rfl]
          rw [h1] at qb
          refine ⟨.inl (by decide), ?_⟩
          show (if decide (x + y - z ≤ 2 * t) = true then _ else _)
          cases h2 : decide (x + y - z ≤ 2 * t) with
          | false =>
            rw [if_neg (by decide)]
            rw [h2] at qb
            exact qb
          | true =>
            rw [if_pos rfl]
            rw [h2] at qb
            refine ⟨rfl, ok_is2 _, ?_⟩
            rw [any_ints]
            exact qb
      rw [List.map_id', List.nil_append]
      refine ⟨ok_is2 _, rfl, ?_⟩
      rw [eqv_nil, empty_map]
      exact hq _ s ⟨some (.int y), rfl⟩
  · obtain ⟨x9, rfl⟩ := h
    exact q x9 s
theorem x_loop {E : Ends} {t : Int} {b : Bool} {d1 d2 d3 x4 x7 x8 x9 x10 : Option D} {S0 l : List Int} (ht : 0 ≤ t ∧ t ≤ 100) (hS : S0.length ≤ 1000)
    (q : ∀ x7 x9 s, E.nx [some (.int t), d1, d2, d3, x4, some (.lst (S0.map .int)), some (.bl (l.foldl (badX t S0) b)), x7, x8, x9, x10] s) :
    forL (gNm 7) s3B (l.map .int) E [some (.int t), d1, d2, d3, x4, some (.lst (S0.map .int)), some (.bl b), x7, x8, x9, x10] s := by
  refine fold_loop (σ := Bool) (fun rem b env => ∃ x7 x9, env = [some (.int t), d1, d2, d3, x4, some (.lst (S0.map .int)), some (.bl b), x7, x8, x9, x10]) (badX t S0) (fun y rem b env s E' h hq => ?_) l b _ s ⟨x7, x9, rfl⟩ fun env s h => ?_
  · obtain ⟨x7, x9, rfl⟩ := h
    show forL (gNm 9) s2B (S0.map .int) _ [some (.int t), d1, d2, d3, x4, some (.lst (S0.map .int)), some (.bl b), some (.int y), x8, x9, x10] s
    refine y_loop ht hS fun x9 s => ?_
    exact hq _ s ⟨some (.int y), x9, rfl⟩
  · obtain ⟨x7, x9, rfl⟩ := h
    exact q x7 x9 s
theorem p__law_by_sets {t : Int} (t2 : 2 ≤ t) (t6 : t ≤ 6) (q : ∀ s, Q (.int (bySets t)) s) : sp__law_by_sets [.int t] s Q X := by
  refine ⟨rfl, ⟨by decide, by decide, by omega, by omega, by show _ ≤ 16777216; omega⟩, ?_⟩
  have htab : ∃ n : Int, (ixOf ([D.int 1, .int 1, .int 1, .int 2, .int 4, .int 8, .int 16, .int 32, .int 64] : List D).length t).bind (fun j => ([D.int 1, .int 1, .int 1, .int 2, .int 4, .int 8, .int 16, .int 32, .int 64] : List D)[j]?) = some (.int n) ∧ table[t.toNat]? = some n ∧ 0 ≤ n ∧ n ≤ 64 := by
    have : t = 2 ∨ t = 3 ∨ t = 4 ∨ t = 5 ∨ t = 6 := by omega
    rcases this with rfl | rfl | rfl | rfl | rfl <;> exact ⟨_, rfl, rfl, by decide, by decide⟩
  obtain ⟨n, h1, h2, n0, n1⟩ := htab
  refine ⟨_, h1, ⟨by omega, by omega⟩, ?_⟩
  rw [rgI_ints, rgI_ints]
  have hr : (rgI 1 (t - 1 - 1).toNat).length ≤ 10 := by unfold rgI; rw [List.length_map, List.length_range]; omega
  have hb : bySets t = (rgI 0 n.toNat).foldl (oneM t) 0 := by
    unfold bySets
    rw [h2]
    rfl
  rw [hb] at q
  refine fold_loop (σ := Int) (fun rem f env => ∃ x1 x4 x5 x6 x7 x8 x9 x10, env = [some (.int t), x1, some (.int f), some (.lst ((rgI 1 (t - 1 - 1).toNat).map .int)), x4, x5, x6, x7, x8, x9, x10]) (oneM t) (fun m rem f env s E' h hq => ?_) (rgI 0 n.toNat) 0 _ s ⟨none, none, none, none, none, none, none, none, rfl⟩ fun env s h => ?_
  · obtain ⟨x1, x4, x5, x6, x7, x8, x9, x10, rfl⟩ := h
    refine ⟨rfl, ?_⟩
    show forL (gNm 4) s1B ((rgI 1 (t - 1 - 1).toNat).map .int) _ [some (.int t), some (.int m), some (.int f), some (.lst ((rgI 1 (t - 1 - 1).toNat).map .int)), x4, some (.lst (([0] : List Int).map .int)), x6, x7, some (.int m), x9, x10] s
    refine sel_loop (st := (m, [0])) (by show 1 + _ ≤ _; omega) fun x4 x8 s hl => ?_
    refine ⟨.inl (by decide), ⟨by omega, by omega, by omega, by omega, by show _ ≤ 16777216; omega⟩, ?_⟩
    have hl2 : (rgI t (2 * t + 1 - t).toNat).length ≤ 10 := by unfold rgI; rw [List.length_map, List.length_range]; omega
    rw [rgI_ints]
    refine ⟨by rw [List.length_map, List.length_map]; show _ ≤ 16777216; omega, ?_⟩
    rw [← List.map_append]
    have hs : (someOf t m).length ≤ 1010 := by
      unfold someOf
      rw [List.length_append]
      omega
    have hs' : (someOf t m).length ≤ 1000 := by
      have key : ∀ (l : List Int) (st : Int × List Int), (l.foldl selS st).2.length ≤ st.2.length + l.length := fun l => by
        induction l with
        | nil => intro st; exact Nat.le_refl _
        | cons y l ih =>
          intro st
          rw [List.foldl_cons, List.length_cons]
          have := ih (selS st y)
          have h2 : (selS st y).2.length ≤ st.2.length + 1 := by
            unfold selS
            show (if _ then _ else _ : List Int).length ≤ _
            split
            · rw [List.length_append, List.length_singleton]
              exact Nat.le_refl _
            · omega
          omega
      have := key (rgI 1 (t - 1 - 1).toNat) (m, [0])
      unfold someOf
      rw [List.length_append]
      have h1 : ((m, [0]) : Int × List Int).2.length = 1 := rfl
      omega
    show forL (gNm 7) s3B ((someOf t m).map .int) _ [some (.int t), some (.int m), some (.int f), some (.lst ((rgI 1 (t - 1 - 1).toNat).map .int)), x4, some (.lst ((someOf t m).map .int)), some (.bl false), x7, x8, x9, x10] s
    refine x_loop ⟨by omega, by omega⟩ hs' fun x7 x9 s => ?_
    show (if (someOf t m).foldl (badX t (someOf t m)) false = true then _ else _)
    have ho : oneM t f m = if (someOf t m).foldl (badX t (someOf t m)) false = true then f else f + 1 := rfl
    cases hbad : (someOf t m).foldl (badX t (someOf t m)) false with
    | true =>
      rw [hbad, if_pos rfl] at ho
      rw [if_pos rfl]
      exact hq _ s ⟨some (.int m), x4, some (.lst ((someOf t m).map .int)), some (.bl true), x7, x8, x9, x10, by rw [ho]; rfl⟩
    | false =>
      rw [hbad, if_neg (by decide)] at ho
      rw [if_neg (by decide)]
      exact hq _ s ⟨some (.int m), x4, some (.lst ((someOf t m).map .int)), some (.bl false), x7, x8, x9, x10, by rw [ho]; rfl⟩
  · obtain ⟨x1, x4, x5, x6, x7, x8, x9, x10, rfl⟩ := h
    exact q s
end Lk26
end Fy
set_option Elab.async false
set_option linter.all false
set_option maxRecDepth 100000
set_option maxHeartbeats 1000000
namespace Fy
namespace Lk26
open Pu
open PySem (Str)
variable {v : D} {s : S} {Q : KD} {X : XC}
theorem rkn {e : Int} (h0 : 0 ≤ e) (h : e ≤ 6) : Row [] e := ⟨by decide, fun p hp => (nomatch hp), h0, by omega, fun _ => rfl, rfl⟩
abbrev A0 : FTS := (sAsg (fIfE (fTst (fOp qGt (fCall sp__law_any (aCons (fVar 1) (aCons (fC (.int 6)) aNil))) (fC (.int 0)))) (fCall sp__law_any (aCons (fVar 1) (aCons (fC (.int 12)) aNil))) (fOp qAdd (fC (.int 12)) (fCall sp__law_any (aCons (fVar 1) (aCons (fC (.int 7)) aNil))))) (gNm 2))
abbrev A1 : FTS := (sAsg (fUn qSortR (fLC (iSeq (fCall sp__law_rows_low (aCons (fC (.int 1)) (aCons (fVar 2) aNil)))) (gNm 6) (fTst (fOp qEq (fCall sp__law_top (aCons (fVar 6) aNil)) (fVar 2))) (fVar 6) [6])) (gNm 3))
abbrev A2 : FTS := (sIf (fOr (fTst (fOp qNe (fUn qRepr (fCall sp_how_many (aCons (fVar 2) aNil))) (fUn qRepr (fUn qLen (fVar 3))))) (fTst (fOp qNe (fUn qRepr (fCallP sp_how_many [0] (aCons (fVar 2) aNil))) (fUn qRepr (fUn qLen (fVar 3)))))) (sRet (fC (.bl false))) sNx)
abbrev A3 : FTS := (sAsg (fOp qAdd (fC (.int 2)) (fCall sp__law_any (aCons (fVar 1) (aCons (fC (.int 5)) aNil)))) (gNm 4))
abbrev A4 : FTS := (sIf (fOr (fTst (fOp qNe (fCall sp_how_many (aCons (fVar 4) aNil)) (fCall sp__law_by_sets (aCons (fVar 4) aNil)))) (fOr (fTst (fOp qNe (fCall sp_how_many (aCons (fC (.int 1)) aNil)) (fC (.int 0)))) (fTst (fOp qNe (fCall sp_how_many (aCons (fC (.int 0)) aNil)) (fC (.int 1)))))) (sRet (fC (.bl false))) sNx)
abbrev A5 : FTS := (sFor (iRng1 (fC (.int 2))) (gNm 5) (sSeq (sAsg (fCall sp__law_any (aCons (fVar 1) (aCons (fOp qAdd (fUn qLen (fVar 3)) (fC (.int 2))) aNil))) (gNm 7)) (sSeq (sIf (fTst (fOp qNe (fUn qRepr (fCall sp__law_asked (aCons (fC (.int 0)) (aCons (fVar 2) (aCons (fVar 7) aNil))))) (fUn qRepr (fIfE (fTst (fOp qLt (fVar 7) (fUn qLen (fVar 3)))) (fTup (aCons (fC (.str "told")) (aCons (fOp qIx (fVar 3) (fVar 7)) aNil))) (fTup (aCons (fC (.str "refused")) (aCons (fC (.int 1)) aNil))))))) (sRet (fC (.bl false))) sNx) (sIf (fAnd (fTst (fOp qLt (fVar 7) (fUn qLen (fVar 3)))) (fTst (fOp qNe (fUn qRepr (fCall sp__law_asked (aCons (fC (.int 1)) (aCons (fOp qIx (fVar 3) (fVar 7)) (aCons (fC .non) aNil))))) (fUn qRepr (fTup (aCons (fC (.str "told")) (aCons (fVar 7) aNil))))))) (sRet (fC (.bl false))) sNx))))
abbrev A6 : FTS := (sIf (fTst (fOp qNe (fCall sp__law_asked (aCons (fC (.int 0)) (aCons (fVar 2) (aCons (fOp qPow (fC (.int 10)) (fC (.int 20))) aNil)))) (fTup (aCons (fC (.str "refused")) (aCons (fC (.int 1)) aNil))))) (sRet (fC (.bl false))) sNx)
abbrev A7 : FTS := (sAsg (fCall sp__law_of (aCons (fVar 1) (aCons (fLst (aCons (fCall sp__law_row (aCons (fVar 1) aNil)) (aCons (fCall sp__law_small_row (aCons (fVar 1) aNil)) (aCons (fTup (aCons (fTup aNil) (aCons (fC (.int 0)) aNil))) (aCons (fTup (aCons (fTup aNil) (aCons (fC (.int 2)) aNil))) (aCons (fTup (aCons (fTup (aCons (fTup (aCons (fC (.int 31)) (aCons (fC (.int 1)) aNil))) aNil)) (aCons (fC (.int 1)) aNil))) (aCons (fTup (aCons (fTup (aCons (fTup (aCons (fC (.int 30)) (aCons (fC (.int 1)) aNil))) aNil)) (aCons (fC (.int 2)) aNil))) aNil))))))) aNil))) (gNm 6))
abbrev A8 : FTS := (sIf (fAnd (fOr (fTst (fOp qNe (fOp qIx (fVar 6) (fC (.int 1))) (fC (.int 1)))) (fTst (fOp qGt (fCall sp__law_top (aCons (fVar 6) aNil)) (fC (.int 30))))) (fTst (fOp qNe (fCall sp__law_asked (aCons (fC (.int 1)) (aCons (fVar 6) (aCons (fC .non) aNil)))) (fTup (aCons (fC (.str "refused")) (aCons (fC (.int 0)) aNil)))))) (sRet (fC (.bl false))) sNx)
abbrev A9 : FTS := (sRet (fOp qEq (fCall sp__law_asked (aCons (fC (.int 1)) (aCons (fCall sp__law_none_row (aCons (fVar 1) aNil)) (aCons (fC .non) aNil)))) (fTup (aCons (fC (.str "question")) (aCons (fC (.int 0)) aNil)))))
abbrev lB : FTS := (sSeq (sAsg (fCall sp__law_any (aCons (fVar 1) (aCons (fOp qAdd (fUn qLen (fVar 3)) (fC (.int 2))) aNil))) (gNm 7)) (sSeq (sIf (fTst (fOp qNe (fUn qRepr (fCall sp__law_asked (aCons (fC (.int 0)) (aCons (fVar 2) (aCons (fVar 7) aNil))))) (fUn qRepr (fIfE (fTst (fOp qLt (fVar 7) (fUn qLen (fVar 3)))) (fTup (aCons (fC (.str "told")) (aCons (fOp qIx (fVar 3) (fVar 7)) aNil))) (fTup (aCons (fC (.str "refused")) (aCons (fC (.int 1)) aNil))))))) (sRet (fC (.bl false))) sNx) (sIf (fAnd (fTst (fOp qLt (fVar 7) (fUn qLen (fVar 3)))) (fTst (fOp qNe (fUn qRepr (fCall sp__law_asked (aCons (fC (.int 1)) (aCons (fOp qIx (fVar 3) (fVar 7)) (aCons (fC .non) aNil))))) (fUn qRepr (fTup (aCons (fC (.str "told")) (aCons (fVar 7) aNil))))))) (sRet (fC (.bl false))) sNx)))
theorem p__law_small_row (q : ∀ rs e s, Row rs e → Q (rowD rs e) s) : sp__law_small_row [.deal] s Q X := by
  refine ⟨rfl, ?_⟩
  show sp__law_of [.deal, .lst [.int 1, .int 1, .int 1, .int 2, .int 3, .int 4, .int 6]] s _ _
  refine num_in (fun i => 0 < i ∧ i ≤ 6) rfl (fun x hx => ?_) fun g s hg => ?_
  · simp only [List.mem_cons, List.not_mem_nil, or_false] at hx
    rcases hx with rfl | rfl | rfl | rfl | rfl | rfl | rfl <;> exact ⟨_, rfl, by decide, by decide⟩
  obtain ⟨g0, g6⟩ := hg
  show sp__law_any [.deal, .int 10] s _ _
  refine any_s (by decide) (by decide) fun y s y0 y1 => ?_
  refine ⟨rfl, rfl, ?_⟩
  show (if (y == 0) = true then _ else _)
  split
  · exact q [] 0 s (rkn (by decide) (by decide))
  show sp__law_any [.deal, .int 4] s _ _
  refine any_s (by decide) (by decide) fun m s m0 m1 => ?_
  refine ⟨⟨by omega, by omega⟩, ?_⟩
  show compL (gNm 3) cYes (fOp qMul (fVar 1) (fOp qAdd (fC (.int 1)) (fCall sp__law_any (aCons (fVar 0) (aCons (fCall sp__law_of (aCons (fVar 0) (aCons (fLst (aCons (fC (.int 4)) (aCons (fC (.int 9)) (aCons (fC (.int 16)) aNil)))) aNil))) aNil))))) (rangeD 0 m.toNat) [] [some .deal, some (.int g), none, none] s _
  refine comp_draw (P := fun n => g ∣ n ∧ 0 < n ∧ n ≤ 18 * g) _ [] s (fun x hx => ⟨[some .deal, some (.int g), none, some x], fun R r => r, fun s Q' qx => ?_⟩) (by rw [rangeD_len]; show 0 + _ ≤ 16777216; omega) fun ns s hl hP => ?_
  · show sp__law_of [.deal, .lst [.int 4, .int 9, .int 16]] s _ _
    refine num_in (fun i => 0 < i ∧ i ≤ 16) rfl (fun x hx => ?_) fun b s hb => ?_
    · simp only [List.mem_cons, List.not_mem_nil, or_false] at hx
      rcases hx with rfl | rfl | rfl <;> exact ⟨_, rfl, by decide, by decide⟩
    show sp__law_any [.deal, .int b] s _ _
    refine any_s hb.1 (by omega) fun z s z0 z1 => ⟨mul_ok (abs_lt (by omega) (by omega)) (abs_lt (by omega) (by omega)), qx _ s ⟨Int.dvd_mul_right .., Int.mul_pos g0 (by omega), ?_⟩⟩
    have := Int.mul_le_mul_of_nonneg_left (show 1 + z ≤ 18 by omega) (Int.le_of_lt g0)
    omega
  rw [List.nil_append]
  rw [rangeD_len] at hl
  have fin : ∀ (ms : List Int) s, ms.length ≤ 5 → (∀ n, n ∈ ms → g ∣ n ∧ 0 < n ∧ n ≤ 18 * g) → ((sRet (fIfE (fTst (fOp qNe (fVar 2) (fLst aNil))) (fCall sp__law_euclid (aCons (fOp qAdd (fVar 2) (fLst (aCons (fOp qMul (fVar 1) (fC (.int 18))) aNil))) aNil)) (fTup (aCons (fTup aNil) (aCons (fVar 1) aNil)))) : FTS)) (ends Q X) [some .deal, some (.int g), some (.lst (ms.map .int)), none] s := fun ms s hm hp => by
    refine ⟨ok_ints ms, rfl, ?_⟩
    rw [ints_nil]
    show (if (!ms.isEmpty) = true then _ else _)
    split
    · refine ⟨mul_ok (abs_lt (by omega) (by omega)) (by decide +kernel), ?_⟩
      refine ⟨by rw [List.length_map]; show _ + 1 ≤ 16777216; omega, ?_⟩
      have hp2 : ∀ n, n ∈ ms ++ [g * 18] → g ∣ n ∧ 0 < n ∧ n ≤ 18 * g := fun n hn => by
        rcases List.mem_append.mp hn with hn | hn
        · exact hp n hn
        · rw [List.mem_singleton] at hn
          subst hn
          exact ⟨Int.dvd_mul_right .., by omega, by omega⟩
      show sp__law_euclid [.lst (ms.map D.int ++ [.int (g * 18)])] s _ _
      rw [show ms.map D.int ++ [.int (g * 18)] = (ms ++ [g * 18]).map D.int by rw [List.map_append]; rfl]
      refine p__law_euclid (by rw [List.length_append]; show _ + 1 < _; omega) (fun x hx => by have := hp2 x hx; omega) fun rs e hE => ?_
      exact q rs e s (hE.row fun x hx => by have := (hp2 x hx).2.2; omega)
    · exact q [] g s (rkn (by omega) g6)
  show sp__law_any [.deal, .int 3] s _ _
  refine any_s (by decide) (by decide) fun w s w0 w1 => ?_
  show (if decide (0 < w) = true then _ else _)
  split
  · show sp__law_any [.deal, .int 6] s _ _
    refine any_s (by decide) (by decide) fun z s z0 z1 => ?_
    refine ⟨mul_ok (abs_lt (by omega) (by omega)) (abs_lt (by omega) (by omega)), mul_ok (abs_lt (by omega) (by omega)) (by decide +kernel), by rw [List.length_map]; show _ + 2 ≤ 16777216; omega, ?_⟩
    have := fin (ns ++ [g * (10 + z), g * 17]) s (by rw [List.length_append]; show _ + 2 ≤ _; omega) fun n hn => by
      rcases List.mem_append.mp hn with hn | hn
      · exact hP n hn
      · simp only [List.mem_cons, List.not_mem_nil, or_false] at hn
        rcases hn with rfl | rfl
        · refine ⟨Int.dvd_mul_right .., Int.mul_pos g0 (by omega), ?_⟩
          have := Int.mul_le_mul_of_nonneg_left (show 10 + z ≤ 18 by omega) (Int.le_of_lt g0)
          omega
        · exact ⟨Int.dvd_mul_right .., by omega, by omega⟩
    rw [List.map_append] at this
    exact this
  · exact fin ns s (by omega) hP

def toldD (d : D) : D := .tup [.str "told", d]
def refD (i : Int) : D := .tup [.str "refused", .int i]
def queD (i : Int) : D := .tup [.str "question", .int i]
theorem row1 {H : Int} {rs : Rn} (h : RH 1 H rs) (hH : H ≤ 18) : Row rs 1 := by
  have hl := h.len
  have p : (1000 : Int) ≤ 2 ^ 100 := by decide
  refine ⟨by omega, fun p hp => ?_, by decide, by omega, fun z => by omega, h.fr.fl⟩
  obtain ⟨g, g5⟩ := h.good (by omega) p hp
  have single : ∀ l : Rn, Pos l → ∀ p, p ∈ l → p.1 * p.2 ≤ topA l 0 ∧ 0 ≤ topA l 0 := fun l => by
    induction l with
    | nil => intro _ p hp; cases hp
    | cons q l ihl =>
      intro hl p hp
      obtain ⟨k1, k2⟩ := hl q (List.mem_cons_self ..)
      have k3 := Int.mul_pos k1 k2
      have hl2 : Pos l := fun x hx => hl x (List.mem_cons_of_mem _ hx)
      have h0 := topA_ge (a := 0) hl2
      rw [topA_cons]
      rcases List.mem_cons.mp hp with rfl | hp
      · omega
      · have := (ihl hl2 p hp).1
        omega
  have s1 := (single rs h.fr.pos p hp).1
  have s2 := Int.mul_le_mul_of_nonneg_left (show 1 ≤ p.2 by have := g.2.1; omega) (Int.le_of_lt g.1)
  rw [Int.mul_one] at s2
  have := h.top
  exact ⟨g, by omega, by omega⟩
theorem p_asked0 {H n : Int} (H0 : 0 ≤ H) (hH : H ≤ 18) (n0 : 0 ≤ n) (q1 : ((rowsT H).length : Nat) ≤ n → Q (refD 1) s) (q2 : ∀ r, (rowsT H)[n.toNat]? = some r → n < ((rowsT H).length : Nat) → Q (toldD (rowOf r)) s) : sp__law_asked [.int 0, .int H, .int n] s Q X := by
  refine ⟨rfl, rfl, rfl, ?_⟩
  show sp_row_at [.int H, .int n] s _ _
  exact p_row_at H0 hH n0 (fun z => ⟨rfl, q1 z⟩) q2
theorem p_asked1 {rs : Rn} {e : Int} (hr : Row rs e) (q1 : e ≠ 1 ∨ 30 < topA rs 0 → Q (refD 0) s) (q2 : e = 1 → topA rs 0 ≤ 30 → ∃ n : Nat, topA rs 0 ≤ 18 ∧ (rowsT (topA rs 0))[n]? = some (rs, 1) ∧ Q (toldD (.int (n : Nat))) s) : sp__law_asked [.int 1, rowD rs e, .non] s Q X := by
  refine ⟨rfl, rfl, rfl, ?_⟩
  show sp_index_of [rowD rs e] s _ _
  exact p_index_of hr (fun z => ⟨rfl, q1 z⟩) q2
theorem p_asked_no (h : pl v = true) (hF : isF v = false) (q : Q (queD 0) s) : sp__law_asked [.int 1, v, .non] s Q X := by
  refine ⟨rfl, rfl, rfl, ?_⟩
  show sp_index_of [v] s _ _
  exact p_index_no h hF ⟨rfl, q⟩
theorem told_ok {d : D} {n : Nat} (o : okN 50 d = true) (r : repB d ≤ n) (hn : n ≤ 15000000) : ok (toldD d) = true ∧ repB (toldD d) ≤ 16000000 := by
  constructor
  · show [D.str "told", d].all (okN 59) = true
    simp only [List.all_cons, List.all_nil, Bool.and_true]
    rw [okN_mono 50 59 _ (by decide) o, show okN 59 (.str "told") = true by decide +kernel]
    rfl
  · show (repB (.str "told") + (repB d + 0)) + 2 * 2 + 3 ≤ _
    have : repB (.str "told") = 42 := by decide +kernel
    omega
theorem ref1 : ok (refD 1) = true ∧ repB (refD 1) ≤ 16000000 ∧ (refD 1).eqv (refD 1) = true := by decide +kernel
theorem ref0 : ok (refD 0) = true ∧ (refD 0).eqv (refD 0) = true := by decide +kernel
theorem que0 : ok (queD 0) = true ∧ (queD 0).eqv (queD 0) = true := by decide +kernel
theorem p_body {E : Ends} {H : Int} (H0 : 0 ≤ H) (hH : H ≤ 18) {x0 x4 x5 x6 x7 : Option D} (hn : ∀ x7 s, E.nx [x0, some .deal, some (.int H), some (.lst ((rowsT H).map rowOf)), x4, x5, x6, x7] s) : lB E [x0, some .deal, some (.int H), some (.lst ((rowsT H).map rowOf)), x4, x5, x6, x7] s := by
  have hl := rowsL_len H0 hH
  have hT := rowsT_len (H := H)
  have e1 : ((((rowsT H).map rowOf).length : Nat) : Int) = ((rowsT H).length : Nat) := by rw [List.length_map]
  have k1 : ∀ {Q : KD} {X : XC}, (∀ (n : Int) s, 0 ≤ n → n < ((rowsT H).length : Nat) + 2 → Q (.int n) s) → sp__law_any [.deal, .int (((((rowsT H).map rowOf).length : Nat) : Int) + 2)] s Q X := fun q => by
    rw [e1]
    exact any_s (by omega) (by omega) q
  refine k1 fun n s n0 n1 => ?_
  show sp__law_asked [.int 0, .int H, .int n] s _ _
  refine p_asked0 H0 hH n0 (fun hle => ?_) fun r hr hlt => ?_
  · refine ⟨ref1.1, ref1.2.1, ?_⟩
    show (if decide (n < ((((rowsT H).map rowOf).length : Nat) : Int)) = true then _ else _)
    rw [e1, decide_eq_false (by omega), if_neg (by decide)]
    refine ⟨ref1.1, ref1.2.1, rfl, ?_⟩
    show (if decide (n < ((((rowsT H).map rowOf).length : Nat) : Int)) = true then _ else _)
    rw [e1, decide_eq_false (by omega), if_neg (by decide)]
    exact hn _ s
  · obtain ⟨hnl, hne⟩ := List.getElem?_eq_some_iff.mp hr
    obtain ⟨rh, re, rt⟩ := rowsT_rh H0 (List.mem_of_getElem? hr)
    obtain ⟨rs, e⟩ := r
    dsimp only at rh re rt
    subst re
    have hrow := row1 rh hH
    have hrb := repB_row hrow
    have hll := hrow.len
    have ht := told_ok (n := 330000) (ok_row1 (rs, 1)) (by show repB (rowD rs 1) ≤ _; omega) (by decide)
    have hix : ∀ {R : D → Prop}, R (rowD rs 1) → qIx (.lst ((rowsT H).map rowOf)) (.int n) R := fun {R} q => by
      refine ⟨rowD rs 1, ?_, q⟩
      unfold ixOf
      rw [if_pos n0, if_pos (by rw [List.length_map]; omega)]
      show ((rowsT H).map rowOf)[n.toNat]? = _
      rw [List.getElem?_map, hr]
      rfl
    refine ⟨ht.1, ht.2, ?_⟩
    show (if decide (n < ((((rowsT H).map rowOf).length : Nat) : Int)) = true then _ else _)
    rw [e1, decide_eq_true hlt, if_pos rfl]
    refine hix ⟨ht.1, ht.2, rfl, ?_⟩
    show (if decide (n < ((((rowsT H).map rowOf).length : Nat) : Int)) = true then _ else _)
    rw [e1, decide_eq_true hlt, if_pos rfl]
    refine hix ?_
    show sp__law_asked [.int 1, rowD rs 1, .non] s _ _
    refine p_asked1 hrow (fun z => by rcases z with z | z <;> omega) fun _ _ => ⟨n.toNat, by omega, by rw [rt]; exact hr, ?_⟩
    rw [show ((n.toNat : Nat) : Int) = n by omega]
    have hi := told_ok (d := .int n) (n := 600) rfl (by rw [repB_int n0 (by omega)]; exact Nat.le_refl _) (by decide)
    exact ⟨hi.1, hi.2, hi.1, hi.2, rfl, hn _ s⟩
theorem p_rest {H : Int} (H0 : 0 ≤ H) (hH : H ≤ 18) {x0 x4 x5 x6 x7 : Option D} : (sSeq A5 (sSeq A6 (sSeq A7 (sSeq A8 A9)))) lawE [x0, some .deal, some (.int H), some (.lst ((rowsT H).map rowOf)), x4, x5, x6, x7] s := by
  have hl := rowsL_len H0 hH
  have hT := rowsT_len (H := H)
  refine ⟨by decide, ?_⟩
  show forL (gNm 5) lB (rangeD 0 2) _ [x0, some .deal, some (.int H), some (.lst ((rowsT H).map rowOf)), x4, x5, x6, x7] s
  rw [rgI_ints]
  refine fold_loop (σ := Unit) (fun rem st env => ∃ x5 x7, env = [x0, some .deal, some (.int H), some (.lst ((rowsT H).map rowOf)), x4, x5, x6, x7]) (fun u _ => u) (fun k rem st env s E' h hq => ?_) (rgI 0 2) () _ s ⟨x5, x7, rfl⟩ fun env s h => ?_
  · obtain ⟨x5, x7, rfl⟩ := h
    show lB E' [x0, some .deal, some (.int H), some (.lst ((rowsT H).map rowOf)), x4, some (.int k), x6, x7] s
    exact p_body H0 hH fun x7 s => hq _ s ⟨some (.int k), x7, rfl⟩
  obtain ⟨x5, x7, rfl⟩ := h
  have h20 : ((10 : Int) ^ (20 : Int).toNat) = 100000000000000000000 := by decide
  refine ⟨⟨by decide, by decide, by decide⟩, ?_⟩
  show sp__law_asked [.int 0, .int H, .int ((10 : Int) ^ (20 : Int).toNat)] s _ _
  rw [h20]
  refine p_asked0 H0 hH (by decide) (fun _ => ?_) fun r _ hlt => by omega
  refine ⟨ref1.1, ref1.1, ?_⟩
  show isB _ (.bl (!(refD 1).eqv (refD 1)))
  rw [ref1.2.2]
  have last : ∀ rs e s, Row rs e → (sSeq A8 A9) lawE [x0, some .deal, some (.int H), some (.lst ((rowsT H).map rowOf)), x4, x5, some (rowD rs e), x7] s := fun rs e s hr => by
    have end_ : ∀ s, A9 lawE [x0, some .deal, some (.int H), some (.lst ((rowsT H).map rowOf)), x4, x5, some (rowD rs e), x7] s := fun s => by
      show sp__law_none_row [.deal] s _ _
      refine p__law_none_row fun v s hv hF => ?_
      show sp__law_asked [.int 1, v, .non] s _ _
      refine p_asked_no hv.1 hF ?_
      refine ⟨que0.1, que0.1, ?_⟩
      show D.bl ((queD 0).eqv (queD 0)) = .bl true
      rw [que0.2]
    have ask : e ≠ 1 ∨ 30 < topA rs 0 → ∀ {Q : KD} {X : XC}, Q (refD 0) s → sp__law_asked [.int 1, rowD rs e, .non] s Q X := fun hz {Q X} q => p_asked1 hr (fun _ => q) fun a b => by rcases hz with z | z <;> omega
    refine ⟨_, rfl, rfl, rfl, ?_⟩
    show (if (!(e == 1)) = true then _ else _)
    have fin : e ≠ 1 ∨ 30 < topA rs 0 → (fTst (fOp qNe (fCall sp__law_asked (aCons (fC (.int 1)) (aCons (fVar 6) (aCons (fC .non) aNil)))) (fTup (aCons (fC (.str "refused")) (aCons (fC (.int 0)) aNil))))) [x0, some .deal, some (.int H), some (.lst ((rowsT H).map rowOf)), x4, x5, some (rowD rs e), x7] s (fun k s1 => if k = true then (sRet (fC (.bl false))) { lawE with nx := A9 lawE } [x0, some .deal, some (.int H), some (.lst ((rowsT H).map rowOf)), x4, x5, some (rowD rs e), x7] s1 else sNx { lawE with nx := A9 lawE } [x0, some .deal, some (.int H), some (.lst ((rowsT H).map rowOf)), x4, x5, some (rowD rs e), x7] s1) (fun t d s => lawE.ex [x0, some .deal, some (.int H), some (.lst ((rowsT H).map rowOf)), x4, x5, some (rowD rs e), x7] t d s) := fun hz => by
      show sp__law_asked [.int 1, rowD rs e, .non] s _ _
      refine ask hz ?_
      refine ⟨ref0.1, ref0.1, ?_⟩
      show isB _ (.bl (!(refD 0).eqv (refD 0)))
      rw [ref0.2]
      exact end_ s
    by_cases he : e = 1
    · rw [if_neg (by simpa using he)]
      show sp__law_top [rowD rs e] s _ _
      refine p__law_top hr.g (by have := hr.len; omega) ?_
      show (if decide (30 < topA rs 0) = true then _ else _)
      by_cases ht : 30 < topA rs 0
      · rw [decide_eq_true ht, if_pos rfl]
        exact fin (.inr ht)
      · rw [decide_eq_false ht, if_neg (by decide)]
        exact end_ s
    · rw [if_pos (by simpa using he)]
      exact fin (.inl he)
  show sp__law_row [.deal] s _ _
  refine p__law_row fun r1 e1 s h1 => ?_
  show sp__law_small_row [.deal] s _ _
  refine p__law_small_row fun r2 e2 s h2 => ?_
  show sp__law_of [.deal, .lst [rowD r1 e1, rowD r2 e2, rowD [] 0, rowD [] 2, rowD [(31, 1)] 1, rowD [(30, 1)] 2]] s _ _
  refine p_ofS rfl fun x s hx => ?_
  simp only [List.mem_cons, List.not_mem_nil, or_false] at hx
  rcases hx with rfl | rfl | rfl | rfl | rfl | rfl
  · exact last _ _ s h1
  · exact last _ _ s h2
  · exact last _ _ s (rkn (by decide) (by decide))
  · exact last _ _ s (rkn (by decide) (by decide))
  · exact last _ _ s ⟨by decide, fun p hp => by rw [List.mem_singleton] at hp; subst hp; exact ⟨⟨by decide, by decide, by show 31 < _; exact Nat.lt_of_lt_of_le (by decide) (Nat.pow_le_pow_right (by decide) (show 5 ≤ 1000 by decide)), by show 1 < _; exact Nat.lt_of_lt_of_le (by decide) (Nat.pow_le_pow_right (by decide) (show 1 ≤ 1000 by decide))⟩, by decide, by decide⟩, by decide, by decide, (fun z => by cases z), by decide⟩
  · exact last _ _ s ⟨by decide, fun p hp => by rw [List.mem_singleton] at hp; subst hp; exact ⟨⟨by decide, by decide, by show 30 < _; exact Nat.lt_of_lt_of_le (by decide) (Nat.pow_le_pow_right (by decide) (show 5 ≤ 1000 by decide)), by show 1 < _; exact Nat.lt_of_lt_of_le (by decide) (Nat.pow_le_pow_right (by decide) (show 1 ≤ 1000 by decide))⟩, by decide, by decide⟩, by decide, by decide, (fun z => by cases z), by decide⟩
theorem p_start {x0 : D} : f_law lawE [some x0, some .deal, none, none, none, none, none, none] s := by
  have main : ∀ (H : Int) (s : S), 0 ≤ H → H ≤ 18 → (sSeq A1 (sSeq A2 (sSeq A3 (sSeq A4 (sSeq A5 (sSeq A6 (sSeq A7 (sSeq A8 A9)))))))) lawE [some x0, some .deal, some (.int H), none, none, none, none, none] s := fun H s H0 hH => by
    have hr := rows18 H0 hH
    have hl := rowsL_len H0 hH
    have hT := rowsT_len (H := H)
    show sp__law_rows_low [.int 1, .int H] s _ _
    refine p__law_rows_low (by decide) H0 (by omega) (by omega) ?_
    show compL (gNm 6) (fTst (fOp qEq (fCall sp__law_top (aCons (fVar 6) aNil)) (fVar 2))) (fVar 6) ((rows 1 H []).map fun r => rowD r 1) [] [some x0, some .deal, some (.int H), none, none, none, none, none] s _
    refine comp_aD (a := fun r => rowD r 1) (keep := fun r => topA r 0 == H) (f := fun r => rowD r 1) (rows 1 H []) [] s (fun r hr => ⟨[some x0, some .deal, some (.int H), none, none, none, some (rowD r 1), none], fun R h => h, fun s Qb qb => ?_, fun s Q h => h⟩) (by show 0 + _ ≤ 16777216; omega) ?_
    · have h := rows_all _ _ (Nat.le_refl _) (rows_nil (by decide) H0) r hr
      have := h.len
      show sp__law_top [rowD r 1] s _ _
      exact p__law_top (fun p hp => (h.good (by omega) p hp).1) (by omega) ⟨rfl, rfl, qb⟩
    rw [List.nil_append, fin_rows]
    refine ⟨_, rfl, by show _ ≤ 16777216; omega, ?_⟩
    show (sSeq A2 (sSeq A3 (sSeq A4 (sSeq A5 (sSeq A6 (sSeq A7 (sSeq A8 A9))))))) lawE [some x0, some .deal, some (.int H), some (.lst ((rowsT H).map rowOf)), none, none, none, none] s
    have e1 : ((((rowsT H).map rowOf).length : Nat) : Int) = ((rowsT H).length : Nat) := by rw [List.length_map]
    have sh : ok (.int ((rowsT H).length : Nat)) = true ∧ repB (.int ((rowsT H).length : Nat)) ≤ 16000000 := ⟨rfl, by rw [repB_int (by omega) (by omega)]; decide⟩
    have sh2 : ok (.int ((((rowsT H).map rowOf).length : Nat) : Int)) = true ∧ repB (.int ((((rowsT H).map rowOf).length : Nat) : Int)) ≤ 16000000 := by rw [e1]; exact sh
    have eD : D.int ((rowsT H).length : Nat) = D.int ((((rowsT H).map rowOf).length : Nat) : Int) := by rw [List.length_map]
    show sp_how_many [.int H] s _ _
    refine p_how_many H0 hH ⟨sh.1, sh.2, sh2.1, sh2.2, eD, ?_⟩
    show sp_how_many [.int H] s _ _
    refine p_how_many H0 hH ⟨sh.1, sh.2, sh2.1, sh2.2, eD, ?_⟩
    show sp__law_any [.deal, .int 5] s _ _
    refine any_s (by decide) (by decide) fun k s k0 k1 => ?_
    show sp_how_many [.int (2 + k)] s _ _
    refine p_how_many (by omega) (by omega) ?_
    show sp__law_by_sets [.int (2 + k)] s _ _
    refine p__law_by_sets (by omega) (by omega) fun s => ?_
    have hb : bySets (2 + k) = ((rowsT (2 + k)).length : Nat) := by
      have := List.all_eq_true.mp bySets_all k.toNat (List.mem_range.mpr (by omega))
      rw [show ((k.toNat : Nat) : Int) = k by omega] at this
      rw [rowsT_len]
      exact eq_of_beq this
    rw [hb]
    refine ⟨rfl, rfl, ?_⟩
    show (if (!((((rowsT (2 + k)).length : Nat) : Int) == (((rowsT (2 + k)).length : Nat) : Int))) = true then _ else _)
    rw [if_neg (by simp)]
    show sp_how_many [.int 1] s _ _
    refine p_how_many (by decide) (by decide) ?_
    rw [rowsT_len, rows_1]
    refine ⟨rfl, rfl, ?_⟩
    show sp_how_many [.int 0] s _ _
    refine p_how_many (by decide) (by decide) ?_
    rw [rowsT_len, rows_0]
    refine ⟨rfl, rfl, ?_⟩
    exact p_rest H0 hH
  show sp__law_any [.deal, .int 6] s _ _
  refine any_s (by decide) (by decide) fun w s w0 w1 => ?_
  show (if decide (0 < w) = true then _ else _)
  split
  · show sp__law_any [.deal, .int 12] s _ _
    exact any_s (by decide) (by decide) fun u s u0 u1 => main u s u0 (by omega)
  · show sp__law_any [.deal, .int 7] s _ _
    exact any_s (by decide) (by decide) fun u s u0 u1 => main (12 + u) s (by omega) (by omega)
theorem holds : ∀ ns : List Int, ns.length ≤ 63 → Holds ns := fun ns hl => by
  show sp__law_draw [.scr ns, .int 26] _ _ _
  refine p__law_draw hl fun cells b s hc => ⟨cells, b, rfl, hc, fun j d hj hd => ?_, fun st => ?_⟩
  · match j, hj, hd with
    | 0, _, hd =>
      injection hd with hd
      exact ⟨ns, hd.symm⟩
    | 1, hj, _ => exact absurd rfl hj
    | j + 2, _, hd => exact absurd hd (look_none 6 j d)
  · exact p_start
end Lk26
end Fy
set_option Elab.async false
set_option linter.all false
set_option maxRecDepth 100000
set_option maxHeartbeats 4000000
/-! The walk of law_k26_whole_counted_rows, printed by gen.py. -/
namespace Fy
namespace Lk26
open PySem L2
def top (i : Nat) : Stmt := PySem.Challenge.pw_bodyforbody_k26_whole_counted_rows.main.body.getD i (.Pass ⟨0, 0, 0, 0⟩)
abbrev st_is_integer : Stmt := top 5
abbrev st_is_number : Stmt := top 6
abbrev st_is_run : Stmt := top 8
abbrev st_is_within : Stmt := top 9
abbrev st_is_falling : Stmt := top 10
abbrev st_checked_falling : Stmt := top 11
abbrev st_lifted : Stmt := top 13
abbrev st_steps_for : Stmt := top 14
abbrev st_rows_with : Stmt := top 15
abbrev st_sum_of : Stmt := top 17
abbrev st_rows_of : Stmt := top 19
abbrev st_how_many : Stmt := top 20
abbrev st_row_at : Stmt := top 21
abbrev st_index_of : Stmt := top 22
abbrev st__law_draw : Stmt := top 24
abbrev st__law_any : Stmt := top 25
abbrev st__law_of : Stmt := top 26
abbrev st__law_in : Stmt := top 27
abbrev st__law_euclid : Stmt := top 28
abbrev st__law_row : Stmt := top 29
abbrev st__law_small_row : Stmt := top 30
abbrev st__law_top : Stmt := top 31
abbrev st__law_none_row : Stmt := top 32
abbrev st__law_rows_low : Stmt := top 33
abbrev st__law_asked : Stmt := top 34
abbrev st__law_by_sets : Stmt := top 35
abbrev st_law : Stmt := top 36
abbrev N_is_integer : List Str := ["value"]
abbrev P_is_integer : List Str := ["value"]
theorem sc_is_integer : FnScope N_is_integer P_is_integer (defScope st_is_integer) := ⟨rfl, rfl, rfl, by decide +kernel, rfl, by decide +kernel, by decide +kernel⟩
theorem kw_is_integer : KwOk "is_integer" st_is_integer P_is_integer [] 1 (List.range 1) := fun _ _ _ _ _ _ us ws h1 h2 => match us, ws, h1, h2 with | [_], [], _, _ => rfl
abbrev N_is_number : List Str := ["value"]
abbrev P_is_number : List Str := ["value"]
theorem sc_is_number : FnScope N_is_number P_is_number (defScope st_is_number) := ⟨rfl, rfl, rfl, by decide +kernel, rfl, by decide +kernel, by decide +kernel⟩
theorem kw_is_number : KwOk "is_number" st_is_number P_is_number [] 1 (List.range 1) := fun _ _ _ _ _ _ us ws h1 h2 => match us, ws, h1, h2 with | [_], [], _, _ => rfl
abbrev N_is_run : List Str := ["value", "one"]
abbrev P_is_run : List Str := ["value"]
theorem sc_is_run : FnScope N_is_run P_is_run (defScope st_is_run) := ⟨rfl, rfl, rfl, by decide +kernel, rfl, by decide +kernel, by decide +kernel⟩
theorem kw_is_run : KwOk "is_run" st_is_run P_is_run [] 1 (List.range 1) := fun _ _ _ _ _ _ us ws h1 h2 => match us, ws, h1, h2 with | [_], [], _, _ => rfl
abbrev N_is_within : List Str := ["runs", "end", "count", "left", "step", "times"]
abbrev P_is_within : List Str := ["runs", "end", "count"]
theorem sc_is_within : FnScope N_is_within P_is_within (defScope st_is_within) := ⟨rfl, rfl, rfl, by decide +kernel, rfl, by decide +kernel, by decide +kernel⟩
theorem kw_is_within : KwOk "is_within" st_is_within P_is_within [] 3 (List.range 3) := fun _ _ _ _ _ _ us ws h1 h2 => match us, ws, h1, h2 with | [_, _, _], [], _, _ => rfl
abbrev N_is_falling : List Str := ["value", "steps", "runs", "end", "at", "run", "step", "times"]
abbrev P_is_falling : List Str := ["value"]
theorem sc_is_falling : FnScope N_is_falling P_is_falling (defScope st_is_falling) := ⟨rfl, rfl, rfl, by decide +kernel, rfl, by decide +kernel, by decide +kernel⟩
theorem kw_is_falling : KwOk "is_falling" st_is_falling P_is_falling [] 1 (List.range 1) := fun _ _ _ _ _ _ us ws h1 h2 => match us, ws, h1, h2 with | [_], [], _, _ => rfl
abbrev N_checked_falling : List Str := ["value"]
abbrev P_checked_falling : List Str := ["value"]
theorem sc_checked_falling : FnScope N_checked_falling P_checked_falling (defScope st_checked_falling) := ⟨rfl, rfl, rfl, by decide +kernel, rfl, by decide +kernel, by decide +kernel⟩
theorem kw_checked_falling : KwOk "checked_falling" st_checked_falling P_checked_falling [] 1 (List.range 1) := fun _ _ _ _ _ _ us ws h1 h2 => match us, ws, h1, h2 with | [_], [], _, _ => rfl
abbrev N_lifted : List Str := ["row", "step", "runs", "end"]
abbrev P_lifted : List Str := ["row", "step"]
theorem sc_lifted : FnScope N_lifted P_lifted (defScope st_lifted) := ⟨rfl, rfl, rfl, by decide +kernel, rfl, by decide +kernel, by decide +kernel⟩
theorem kw_lifted : KwOk "lifted" st_lifted P_lifted [] 2 (List.range 2) := fun _ _ _ _ _ _ us ws h1 h2 => match us, ws, h1, h2 with | [_, _], [], _, _ => rfl
abbrev N_steps_for : List Str := ["row", "room", "found", "at", "step", "times", "turn"]
abbrev P_steps_for : List Str := ["row", "room"]
theorem sc_steps_for : FnScope N_steps_for P_steps_for (defScope st_steps_for) := ⟨rfl, rfl, rfl, by decide +kernel, rfl, by decide +kernel, by decide +kernel⟩
theorem kw_steps_for : KwOk "steps_for" st_steps_for P_steps_for [] 2 (List.range 2) := fun _ _ _ _ _ _ us ws h1 h2 => match us, ws, h1, h2 with | [_, _], [], _, _ => rfl
abbrev N_rows_with : List Str := ["end", "height", "found", "fresh", "row", "room", "step", "times"]
abbrev P_rows_with : List Str := ["end", "height"]
theorem sc_rows_with : FnScope N_rows_with P_rows_with (defScope st_rows_with) := ⟨rfl, rfl, rfl, by decide +kernel, rfl, by decide +kernel, by decide +kernel⟩
theorem kw_rows_with : KwOk "rows_with" st_rows_with P_rows_with [] 2 (List.range 2) := fun _ _ _ _ _ _ us ws h1 h2 => match us, ws, h1, h2 with | [_, _], [], _, _ => rfl
abbrev N_sum_of : List Str := ["falling", "step", "times"]
abbrev P_sum_of : List Str := ["falling"]
theorem sc_sum_of : FnScope N_sum_of P_sum_of (defScope st_sum_of) := ⟨rfl, rfl, rfl, by decide +kernel, rfl, by decide +kernel, by decide +kernel⟩
theorem kw_sum_of : KwOk "sum_of" st_sum_of P_sum_of [] 1 (List.range 1) := fun _ _ _ _ _ _ us ws h1 h2 => match us, ws, h1, h2 with | [_], [], _, _ => rfl
abbrev N_rows_of : List Str := ["total", "row"]
abbrev P_rows_of : List Str := ["total"]
theorem sc_rows_of : FnScope N_rows_of P_rows_of (defScope st_rows_of) := ⟨rfl, rfl, rfl, by decide +kernel, rfl, by decide +kernel, by decide +kernel⟩
theorem kw_rows_of : KwOk "rows_of" st_rows_of P_rows_of [] 1 (List.range 1) := fun _ _ _ _ _ _ us ws h1 h2 => match us, ws, h1, h2 with | [_], [], _, _ => rfl
abbrev N_how_many : List Str := ["total"]
abbrev P_how_many : List Str := ["total"]
theorem sc_how_many : FnScope N_how_many P_how_many (defScope st_how_many) := ⟨rfl, rfl, rfl, by decide +kernel, rfl, by decide +kernel, by decide +kernel⟩
theorem kw_how_many : KwOk "how_many" st_how_many P_how_many [] 1 (List.range 1) := fun _ _ _ _ _ _ us ws h1 h2 => match us, ws, h1, h2 with | [_], [], _, _ => rfl
abbrev N_row_at : List Str := ["total", "index", "found"]
abbrev P_row_at : List Str := ["total", "index"]
theorem sc_row_at : FnScope N_row_at P_row_at (defScope st_row_at) := ⟨rfl, rfl, rfl, by decide +kernel, rfl, by decide +kernel, by decide +kernel⟩
theorem kw_row_at : KwOk "row_at" st_row_at P_row_at [] 2 (List.range 2) := fun _ _ _ _ _ _ us ws h1 h2 => match us, ws, h1, h2 with | [_, _], [], _, _ => rfl
abbrev N_index_of : List Str := ["falling", "total"]
abbrev P_index_of : List Str := ["falling"]
theorem sc_index_of : FnScope N_index_of P_index_of (defScope st_index_of) := ⟨rfl, rfl, rfl, by decide +kernel, rfl, by decide +kernel, by decide +kernel⟩
theorem kw_index_of : KwOk "index_of" st_index_of P_index_of [] 1 (List.range 1) := fun _ _ _ _ _ _ us ws h1 h2 => match us, ws, h1, h2 with | [_], [], _, _ => rfl
abbrev N__law_draw : List Str := ["_law_script", "_law_salt", "_law_cells", "_law_blend", "_law_cell"]
abbrev P__law_draw : List Str := ["_law_script", "_law_salt"]
theorem sc__law_draw : FnScope N__law_draw P__law_draw (defScope st__law_draw) := ⟨rfl, rfl, rfl, by decide +kernel, rfl, by decide +kernel, by decide +kernel⟩
theorem kw__law_draw : KwOk "_law_draw" st__law_draw P__law_draw [] 2 (List.range 2) := fun _ _ _ _ _ _ us ws h1 h2 => match us, ws, h1, h2 with | [_, _], [], _, _ => rfl
abbrev N__law_any : List Str := ["_law_deal", "_law_bound", "_law_rest"]
abbrev P__law_any : List Str := ["_law_deal", "_law_bound"]
theorem sc__law_any : FnScope N__law_any P__law_any (defScope st__law_any) := ⟨rfl, rfl, rfl, by decide +kernel, rfl, by decide +kernel, by decide +kernel⟩
theorem kw__law_any : KwOk "_law_any" st__law_any P__law_any [] 2 (List.range 2) := fun _ _ _ _ _ _ us ws h1 h2 => match us, ws, h1, h2 with | [_, _], [], _, _ => rfl
abbrev N__law_of : List Str := ["_law_deal", "_law_some"]
abbrev P__law_of : List Str := ["_law_deal", "_law_some"]
theorem sc__law_of : FnScope N__law_of P__law_of (defScope st__law_of) := ⟨rfl, rfl, rfl, by decide +kernel, rfl, by decide +kernel, by decide +kernel⟩
theorem kw__law_of : KwOk "_law_of" st__law_of P__law_of [] 2 (List.range 2) := fun _ _ _ _ _ _ us ws h1 h2 => match us, ws, h1, h2 with | [_, _], [], _, _ => rfl
abbrev N__law_in : List Str := ["_law_row_here", "_law_count", "_law_at", "_law_step", "_law_times"]
abbrev P__law_in : List Str := ["_law_row_here", "_law_count"]
theorem sc__law_in : FnScope N__law_in P__law_in (defScope st__law_in) := ⟨rfl, rfl, rfl, by decide +kernel, rfl, by decide +kernel, by decide +kernel⟩
theorem kw__law_in : KwOk "_law_in" st__law_in P__law_in [] 2 (List.range 2) := fun _ _ _ _ _ _ us ws h1 h2 => match us, ws, h1, h2 with | [_, _], [], _, _ => rfl
abbrev N__law_euclid : List Str := ["_law_counts", "_law_left", "_law_runs", "_law_step", "_law_turns", "_law_times", "_law_one"]
abbrev P__law_euclid : List Str := ["_law_counts"]
theorem sc__law_euclid : FnScope N__law_euclid P__law_euclid (defScope st__law_euclid) := ⟨rfl, rfl, rfl, by decide +kernel, rfl, by decide +kernel, by decide +kernel⟩
theorem kw__law_euclid : KwOk "_law_euclid" st__law_euclid P__law_euclid [] 1 (List.range 1) := fun _ _ _ _ _ _ us ws h1 h2 => match us, ws, h1, h2 with | [_], [], _, _ => rfl
abbrev N__law_row : List Str := ["_law_deal", "_law_form", "_law_bound", "_law_end", "_law_turn"]
abbrev P__law_row : List Str := ["_law_deal"]
theorem sc__law_row : FnScope N__law_row P__law_row (defScope st__law_row) := ⟨rfl, rfl, rfl, by decide +kernel, rfl, by decide +kernel, by decide +kernel⟩
theorem kw__law_row : KwOk "_law_row" st__law_row P__law_row [] 1 (List.range 1) := fun _ _ _ _ _ _ us ws h1 h2 => match us, ws, h1, h2 with | [_], [], _, _ => rfl
abbrev N__law_small_row : List Str := ["_law_deal", "_law_end", "_law_counts", "_law_turn"]
abbrev P__law_small_row : List Str := ["_law_deal"]
theorem sc__law_small_row : FnScope N__law_small_row P__law_small_row (defScope st__law_small_row) := ⟨rfl, rfl, rfl, by decide +kernel, rfl, by decide +kernel, by decide +kernel⟩
theorem kw__law_small_row : KwOk "_law_small_row" st__law_small_row P__law_small_row [] 1 (List.range 1) := fun _ _ _ _ _ _ us ws h1 h2 => match us, ws, h1, h2 with | [_], [], _, _ => rfl
abbrev N__law_top : List Str := ["_law_row_here", "_law_step", "_law_times"]
abbrev P__law_top : List Str := ["_law_row_here"]
theorem sc__law_top : FnScope N__law_top P__law_top (defScope st__law_top) := ⟨rfl, rfl, rfl, by decide +kernel, rfl, by decide +kernel, by decide +kernel⟩
theorem kw__law_top : KwOk "_law_top" st__law_top P__law_top [] 1 (List.range 1) := fun _ _ _ _ _ _ us ws h1 h2 => match us, ws, h1, h2 with | [_], [], _, _ => rfl
abbrev N__law_none_row : List Str := ["_law_deal"]
abbrev P__law_none_row : List Str := ["_law_deal"]
theorem sc__law_none_row : FnScope N__law_none_row P__law_none_row (defScope st__law_none_row) := ⟨rfl, rfl, rfl, by decide +kernel, rfl, by decide +kernel, by decide +kernel⟩
theorem kw__law_none_row : KwOk "_law_none_row" st__law_none_row P__law_none_row [] 1 (List.range 1) := fun _ _ _ _ _ _ us ws h1 h2 => match us, ws, h1, h2 with | [_], [], _, _ => rfl
abbrev N__law_rows_low : List Str := ["_law_end", "_law_height", "_law_found", "_law_fresh", "_law_steps", "_law_runs", "_law_step", "_law_row_here"]
abbrev P__law_rows_low : List Str := ["_law_end", "_law_height"]
theorem sc__law_rows_low : FnScope N__law_rows_low P__law_rows_low (defScope st__law_rows_low) := ⟨rfl, rfl, rfl, by decide +kernel, rfl, by decide +kernel, by decide +kernel⟩
theorem kw__law_rows_low : KwOk "_law_rows_low" st__law_rows_low P__law_rows_low [] 2 (List.range 2) := fun _ _ _ _ _ _ us ws h1 h2 => match us, ws, h1, h2 with | [_, _], [], _, _ => rfl
abbrev N__law_asked : List Str := ["_law_form", "_law_first", "_law_second", "e", "how"]
abbrev P__law_asked : List Str := ["_law_form", "_law_first", "_law_second"]
theorem sc__law_asked : FnScope N__law_asked P__law_asked (defScope st__law_asked) := ⟨rfl, rfl, rfl, by decide +kernel, rfl, by decide +kernel, by decide +kernel⟩
theorem kw__law_asked : KwOk "_law_asked" st__law_asked P__law_asked [] 3 (List.range 3) := fun _ _ _ _ _ _ us ws h1 h2 => match us, ws, h1, h2 with | [_, _, _], [], _, _ => rfl
abbrev N__law_by_sets : List Str := ["_law_total", "_law_marks", "_law_found", "_law_rest", "_law_n", "_law_some", "_law_bad", "_law_x", "_law_left", "_law_y", "_law_z"]
abbrev P__law_by_sets : List Str := ["_law_total"]
theorem sc__law_by_sets : FnScope N__law_by_sets P__law_by_sets (defScope st__law_by_sets) := ⟨rfl, rfl, rfl, by decide +kernel, rfl, by decide +kernel, by decide +kernel⟩
theorem kw__law_by_sets : KwOk "_law_by_sets" st__law_by_sets P__law_by_sets [] 1 (List.range 1) := fun _ _ _ _ _ _ us ws h1 h2 => match us, ws, h1, h2 with | [_], [], _, _ => rfl
abbrev N_law : List Str := ["_law_script", "_law_deal", "_law_total", "_law_due", "_law_small", "_law_turn", "_law_row_here", "_law_at"]
abbrev P_law : List Str := ["_law_script"]
theorem sc_law : FnScope N_law P_law (defScope st_law) := ⟨rfl, rfl, rfl, by decide +kernel, rfl, by decide +kernel, by decide +kernel⟩
theorem kw_how_many_0 : KwOk "how_many" st_how_many P_how_many ["total"] 0 [0] := fun _ _ _ _ _ _ us ws h1 h2 => match us, ws, h1, h2 with | [], [_], _, _ => rfl
theorem kw_index_of_0 : KwOk "index_of" st_index_of P_index_of ["falling"] 0 [0] := fun _ _ _ _ _ _ us ws h1 h2 => match us, ws, h1, h2 with | [], [_], _, _ => rfl
theorem kw_row_at_1_0 : KwOk "row_at" st_row_at P_row_at ["index", "total"] 0 [1, 0] := fun _ _ _ _ _ _ us ws h1 h2 => match us, ws, h1, h2 with | [], [_, _], _, _ => rfl
/-- what the facts give -/
structure Tx (P : Program) (K : PySem.W.Frag) (mg : Str → Option Value) (CT : Nat → Option Addr) (C4 C5 : Addr) : Prop where
  b_abs : mg "abs" = none
  b_all : mg "all" = none
  b_bool : mg "bool" = none
  b_int : mg "int" = none
  b_isinstance : mg "isinstance" = none
  b_len : mg "len" = none
  b_list : mg "list" = none
  b_min : mg "min" = none
  b_range : mg "range" = none
  b_repr : mg "repr" = none
  b_set : mg "set" = none
  b_sorted : mg "sorted" = none
  b_sum : mg "sum" = none
  b_tuple : mg "tuple" = none
  ct_InvalidQuestion : CT 4 = some C4
  e_InvalidQuestion : OwnE P K mg "InvalidQuestion" C4
  g_InvalidQuestion : mg "InvalidQuestion" = some (.ref C4)
  x_InvalidQuestion : ∀ t C, CT t = some C → PySem.W.exmOne K (.ref C) (.ref C4) = some (t == 4)
  ct_Refused : CT 5 = some C5
  e_Refused : OwnE P K mg "Refused" C5
  g_Refused : mg "Refused" = some (.ref C5)
  x_Refused : ∀ t C, CT t = some C → PySem.W.exmOne K (.ref C) (.ref C5) = some (t == 5)
  xf : ∀ {t C}, CT t = some C → XfC K C ∧ PySem.W.findIn K (.ref C) "at" = some none
section
variable {P : Program} {w : World} {K : PySem.W.Frag} {mg : Str → Option Value} {base : Heap} {CT : Nat → Option Addr} {C4 C5 : Addr} {f0 : Addr} {fd : FuncData}
theorem mono_sp__law_any : MonoSp sp__law_any := mono_spAny
theorem mf_is_integer : MonoS f_is_integer := by
  unfold f_is_integer
  repeat' (first
    | with_reducible exact mono_C | with_reducible exact mono_Var | with_reducible exact mono_aNil | with_reducible exact mono_cYes | with_reducible exact mono_gNm | with_reducible exact mono_gNil | with_reducible exact mono_oNone | with_reducible exact mono_Nx | with_reducible exact mono_RetN | with_reducible exact mono_Brk | with_reducible exact mono_Cnt | with_reducible exact mono_spAny
    | with_reducible exact mono_qAdd | with_reducible exact mono_qAddL | with_reducible exact mono_qInK | with_reducible exact mono_qMinT | with_reducible exact mono_qSortR | with_reducible exact mono_qNotInK | with_reducible exact mono_qMulL | with_reducible exact mono_qSub | with_reducible exact mono_qMul | with_reducible exact mono_qDiv | with_reducible exact mono_qMod | with_reducible exact mono_qPow | with_reducible exact mono_qLt | with_reducible exact mono_qLe | with_reducible exact mono_qGt | with_reducible exact mono_qGe | with_reducible exact mono_qEq | with_reducible exact mono_qNe | with_reducible exact mono_qIs | with_reducible exact mono_qIsNot | with_reducible exact mono_qIx | with_reducible exact mono_qNeg
    | with_reducible exact mono_qLen | with_reducible exact mono_qInt | with_reducible exact mono_qAbs | with_reducible exact mono_qList | with_reducible exact mono_qTuple | with_reducible exact mono_qMax2 | with_reducible exact mono_qMin2 | with_reducible exact mono_qSum | with_reducible exact mono_qAll | with_reducible exact mono_qAny | with_reducible exact mono_qMin | with_reducible exact mono_qMax | with_reducible exact mono_qSorted | with_reducible exact mono_qSetL | with_reducible exact mono_qRepr | with_reducible exact mono_qIsI | with_reducible exact mono_qIn | with_reducible exact mono_qNotIn | with_reducible exact mono_qRev | with_reducible exact mono_qAt
    | with_reducible exact mono_oAppend | with_reducible exact mono_oInsert | with_reducible exact mono_oExtend | with_reducible exact mono_oPop | with_reducible exact mono_oPopAt
    | with_reducible refine mono_Seq ?_ ?_ | with_reducible refine mono_If ?_ ?_ ?_ | with_reducible refine mono_Ret ?_ | with_reducible refine mono_Exp ?_ | with_reducible refine mono_Asg ?_ ?_ | with_reducible refine mono_AsgI ?_ | with_reducible refine mono_Dct1 ?_ ?_ | with_reducible refine mono_DC ?_ ?_ ?_ ?_ ?_ | with_reducible refine mono_StD ?_ ?_ | with_reducible refine mono_For ?_ ?_ ?_ | with_reducible refine mono_While ?_ ?_ | with_reducible refine mono_Mut ?_ ?_ | with_reducible refine mono_StL ?_ ?_ | with_reducible refine mono_Par2 ?_ ?_ | with_reducible refine mono_Par3 ?_ ?_ ?_ | with_reducible refine mono_Raise ?_ | with_reducible refine mono_TryN ?_ ?_ | with_reducible exact mono_hnil | with_reducible exact mono_vPop | with_reducible exact mono_vPopAt | with_reducible refine mono_PopSet ?_ ?_ | with_reducible refine mono_AppPop ?_ ?_ | with_reducible refine mono_LstR ?_ | with_reducible refine mono_TupR ?_ | with_reducible refine mono_LstR2 ?_ ?_ | with_reducible refine mono_Idx ?_ ?_ | with_reducible refine mono_iZip ?_ ?_ | with_reducible refine mono_Chain ?_ ?_ ?_ ?_ ?_ | with_reducible refine mono_hcons ?_ ?_
    | with_reducible refine mono_Op ?_ ?_ ?_ | with_reducible refine mono_Un ?_ ?_ | with_reducible refine mono_Tst ?_ | with_reducible refine mono_And ?_ ?_ | with_reducible refine mono_Or ?_ ?_ | with_reducible refine mono_Not ?_ | with_reducible refine mono_AndV ?_ ?_ | with_reducible refine mono_OrV ?_ ?_ | with_reducible refine mono_NotV ?_ | with_reducible refine mono_IfE ?_ ?_ ?_
    | with_reducible refine mono_TupA ?_ | with_reducible refine mono_LstA ?_ | with_reducible refine mono_TupS ?_ | with_reducible refine mono_LstS ?_ | with_reducible refine mono_Cons ?_ ?_ | with_reducible refine mono_StarR3 ?_ ?_ | with_reducible refine mono_aStar ?_ ?_ | with_reducible refine mono_Call ?_ ?_ | with_reducible refine mono_CallP ?_ ?_ | with_reducible refine mono_Cut ?_ ?_ ?_ | with_reducible refine mono_oSome ?_ | with_reducible refine mono_LC ?_ ?_ ?_ ?_
    | with_reducible refine mono_iSeq ?_ | with_reducible refine mono_iEnum ?_ | with_reducible refine mono_iRng1 ?_ | with_reducible refine mono_iRng2 ?_ ?_ | with_reducible refine mono_gMore ?_ ?_ | with_reducible refine mono_gTp ?_)
theorem mono_sp_is_integer : MonoSp sp_is_integer := mono_spOf mf_is_integer
theorem fb_is_integer (T : Tx P K mg CT C4 C5) {A : Around} {outer : List PySem.Env} {s : Shared} {H : Hp} {E : XK} {cd : Value} {Γ : Fy.G} (i : In (cxD P w K mg base N_is_integer "is_integer" st_is_integer f0 cd A outer s H E) Γ (wOf E) CT 2) : FB (cxD P w K mg base N_is_integer "is_integer" st_is_integer f0 cd A outer s H E) Γ (wOf E) [] [] [] (defBody st_is_integer) f_is_integer :=
  let c := i.c
  (fb_one (fs_ret (fe_andV (fe_isi .int T.b_isinstance T.b_int (fs_var 0)) (fe_oneV (fe_notV (fe_isi .bool T.b_isinstance T.b_bool (fs_var 0)))))))
theorem def_is_integer (T : Tx P K mg CT C4 C5) (hm : mg "is_integer" = some (.ref f0)) (Fu : Fun K "is_integer" "is_integer" st_is_integer f0 fd) : Def P w K mg base CT "is_integer" st_is_integer P_is_integer 3 sp_is_integer :=
  def_of hm Fu sc_is_integer mf_is_integer fun A outer s H E cd Γ i => fb_is_integer T i
theorem mf_is_number : MonoS f_is_number := by
  unfold f_is_number
  repeat' (first
    | with_reducible exact mono_C | with_reducible exact mono_Var | with_reducible exact mono_aNil | with_reducible exact mono_cYes | with_reducible exact mono_gNm | with_reducible exact mono_gNil | with_reducible exact mono_oNone | with_reducible exact mono_Nx | with_reducible exact mono_RetN | with_reducible exact mono_Brk | with_reducible exact mono_Cnt | with_reducible exact mono_spAny
    | with_reducible exact mono_qAdd | with_reducible exact mono_qAddL | with_reducible exact mono_qInK | with_reducible exact mono_qMinT | with_reducible exact mono_qSortR | with_reducible exact mono_qNotInK | with_reducible exact mono_qMulL | with_reducible exact mono_qSub | with_reducible exact mono_qMul | with_reducible exact mono_qDiv | with_reducible exact mono_qMod | with_reducible exact mono_qPow | with_reducible exact mono_qLt | with_reducible exact mono_qLe | with_reducible exact mono_qGt | with_reducible exact mono_qGe | with_reducible exact mono_qEq | with_reducible exact mono_qNe | with_reducible exact mono_qIs | with_reducible exact mono_qIsNot | with_reducible exact mono_qIx | with_reducible exact mono_qNeg
    | with_reducible exact mono_qLen | with_reducible exact mono_qInt | with_reducible exact mono_qAbs | with_reducible exact mono_qList | with_reducible exact mono_qTuple | with_reducible exact mono_qMax2 | with_reducible exact mono_qMin2 | with_reducible exact mono_qSum | with_reducible exact mono_qAll | with_reducible exact mono_qAny | with_reducible exact mono_qMin | with_reducible exact mono_qMax | with_reducible exact mono_qSorted | with_reducible exact mono_qSetL | with_reducible exact mono_qRepr | with_reducible exact mono_qIsI | with_reducible exact mono_qIn | with_reducible exact mono_qNotIn | with_reducible exact mono_qRev | with_reducible exact mono_qAt
    | with_reducible exact mono_oAppend | with_reducible exact mono_oInsert | with_reducible exact mono_oExtend | with_reducible exact mono_oPop | with_reducible exact mono_oPopAt | with_reducible exact mono_sp_is_integer
    | with_reducible refine mono_Seq ?_ ?_ | with_reducible refine mono_If ?_ ?_ ?_ | with_reducible refine mono_Ret ?_ | with_reducible refine mono_Exp ?_ | with_reducible refine mono_Asg ?_ ?_ | with_reducible refine mono_AsgI ?_ | with_reducible refine mono_Dct1 ?_ ?_ | with_reducible refine mono_DC ?_ ?_ ?_ ?_ ?_ | with_reducible refine mono_StD ?_ ?_ | with_reducible refine mono_For ?_ ?_ ?_ | with_reducible refine mono_While ?_ ?_ | with_reducible refine mono_Mut ?_ ?_ | with_reducible refine mono_StL ?_ ?_ | with_reducible refine mono_Par2 ?_ ?_ | with_reducible refine mono_Par3 ?_ ?_ ?_ | with_reducible refine mono_Raise ?_ | with_reducible refine mono_TryN ?_ ?_ | with_reducible exact mono_hnil | with_reducible exact mono_vPop | with_reducible exact mono_vPopAt | with_reducible refine mono_PopSet ?_ ?_ | with_reducible refine mono_AppPop ?_ ?_ | with_reducible refine mono_LstR ?_ | with_reducible refine mono_TupR ?_ | with_reducible refine mono_LstR2 ?_ ?_ | with_reducible refine mono_Idx ?_ ?_ | with_reducible refine mono_iZip ?_ ?_ | with_reducible refine mono_Chain ?_ ?_ ?_ ?_ ?_ | with_reducible refine mono_hcons ?_ ?_
    | with_reducible refine mono_Op ?_ ?_ ?_ | with_reducible refine mono_Un ?_ ?_ | with_reducible refine mono_Tst ?_ | with_reducible refine mono_And ?_ ?_ | with_reducible refine mono_Or ?_ ?_ | with_reducible refine mono_Not ?_ | with_reducible refine mono_AndV ?_ ?_ | with_reducible refine mono_OrV ?_ ?_ | with_reducible refine mono_NotV ?_ | with_reducible refine mono_IfE ?_ ?_ ?_
    | with_reducible refine mono_TupA ?_ | with_reducible refine mono_LstA ?_ | with_reducible refine mono_TupS ?_ | with_reducible refine mono_LstS ?_ | with_reducible refine mono_Cons ?_ ?_ | with_reducible refine mono_StarR3 ?_ ?_ | with_reducible refine mono_aStar ?_ ?_ | with_reducible refine mono_Call ?_ ?_ | with_reducible refine mono_CallP ?_ ?_ | with_reducible refine mono_Cut ?_ ?_ ?_ | with_reducible refine mono_oSome ?_ | with_reducible refine mono_LC ?_ ?_ ?_ ?_
    | with_reducible refine mono_iSeq ?_ | with_reducible refine mono_iEnum ?_ | with_reducible refine mono_iRng1 ?_ | with_reducible refine mono_iRng2 ?_ ?_ | with_reducible refine mono_gMore ?_ ?_ | with_reducible refine mono_gTp ?_)
theorem mono_sp_is_number : MonoSp sp_is_number := mono_spOf mf_is_number
theorem fb_is_number (T : Tx P K mg CT C4 C5) (D_is_integer : Def P w K mg base CT "is_integer" st_is_integer P_is_integer 3 sp_is_integer) {A : Around} {outer : List PySem.Env} {s : Shared} {H : Hp} {E : XK} {cd : Value} {Γ : Fy.G} (i : In (cxD P w K mg base N_is_number "is_number" st_is_number f0 cd A outer s H E) Γ (wOf E) CT 4) : FB (cxD P w K mg base N_is_number "is_number" st_is_number f0 cd A outer s H E) Γ (wOf E) [] [] [] (defBody st_is_number) f_is_number :=
  let c := i.c
  (fb_one (fs_ret (fe_andV (fe_call c i.ct D_is_integer kw_is_integer (fa_cons (fe_var 0) fa_nil)) (fe_oneV (fe_ge c (fs_var 0) (fe_int).sh)))))
theorem def_is_number (T : Tx P K mg CT C4 C5) (D_is_integer : Def P w K mg base CT "is_integer" st_is_integer P_is_integer 3 sp_is_integer) (hm : mg "is_number" = some (.ref f0)) (Fu : Fun K "is_number" "is_number" st_is_number f0 fd) : Def P w K mg base CT "is_number" st_is_number P_is_number 5 sp_is_number :=
  def_of hm Fu sc_is_number mf_is_number fun A outer s H E cd Γ i => fb_is_number T D_is_integer i
theorem mf_is_run : MonoS f_is_run := by
  unfold f_is_run
  repeat' (first
    | with_reducible exact mono_C | with_reducible exact mono_Var | with_reducible exact mono_aNil | with_reducible exact mono_cYes | with_reducible exact mono_gNm | with_reducible exact mono_gNil | with_reducible exact mono_oNone | with_reducible exact mono_Nx | with_reducible exact mono_RetN | with_reducible exact mono_Brk | with_reducible exact mono_Cnt | with_reducible exact mono_spAny
    | with_reducible exact mono_qAdd | with_reducible exact mono_qAddL | with_reducible exact mono_qInK | with_reducible exact mono_qMinT | with_reducible exact mono_qSortR | with_reducible exact mono_qNotInK | with_reducible exact mono_qMulL | with_reducible exact mono_qSub | with_reducible exact mono_qMul | with_reducible exact mono_qDiv | with_reducible exact mono_qMod | with_reducible exact mono_qPow | with_reducible exact mono_qLt | with_reducible exact mono_qLe | with_reducible exact mono_qGt | with_reducible exact mono_qGe | with_reducible exact mono_qEq | with_reducible exact mono_qNe | with_reducible exact mono_qIs | with_reducible exact mono_qIsNot | with_reducible exact mono_qIx | with_reducible exact mono_qNeg
    | with_reducible exact mono_qLen | with_reducible exact mono_qInt | with_reducible exact mono_qAbs | with_reducible exact mono_qList | with_reducible exact mono_qTuple | with_reducible exact mono_qMax2 | with_reducible exact mono_qMin2 | with_reducible exact mono_qSum | with_reducible exact mono_qAll | with_reducible exact mono_qAny | with_reducible exact mono_qMin | with_reducible exact mono_qMax | with_reducible exact mono_qSorted | with_reducible exact mono_qSetL | with_reducible exact mono_qRepr | with_reducible exact mono_qIsI | with_reducible exact mono_qIn | with_reducible exact mono_qNotIn | with_reducible exact mono_qRev | with_reducible exact mono_qAt
    | with_reducible exact mono_oAppend | with_reducible exact mono_oInsert | with_reducible exact mono_oExtend | with_reducible exact mono_oPop | with_reducible exact mono_oPopAt | with_reducible exact mono_sp_is_number
    | with_reducible refine mono_Seq ?_ ?_ | with_reducible refine mono_If ?_ ?_ ?_ | with_reducible refine mono_Ret ?_ | with_reducible refine mono_Exp ?_ | with_reducible refine mono_Asg ?_ ?_ | with_reducible refine mono_AsgI ?_ | with_reducible refine mono_Dct1 ?_ ?_ | with_reducible refine mono_DC ?_ ?_ ?_ ?_ ?_ | with_reducible refine mono_StD ?_ ?_ | with_reducible refine mono_For ?_ ?_ ?_ | with_reducible refine mono_While ?_ ?_ | with_reducible refine mono_Mut ?_ ?_ | with_reducible refine mono_StL ?_ ?_ | with_reducible refine mono_Par2 ?_ ?_ | with_reducible refine mono_Par3 ?_ ?_ ?_ | with_reducible refine mono_Raise ?_ | with_reducible refine mono_TryN ?_ ?_ | with_reducible exact mono_hnil | with_reducible exact mono_vPop | with_reducible exact mono_vPopAt | with_reducible refine mono_PopSet ?_ ?_ | with_reducible refine mono_AppPop ?_ ?_ | with_reducible refine mono_LstR ?_ | with_reducible refine mono_TupR ?_ | with_reducible refine mono_LstR2 ?_ ?_ | with_reducible refine mono_Idx ?_ ?_ | with_reducible refine mono_iZip ?_ ?_ | with_reducible refine mono_Chain ?_ ?_ ?_ ?_ ?_ | with_reducible refine mono_hcons ?_ ?_
    | with_reducible refine mono_Op ?_ ?_ ?_ | with_reducible refine mono_Un ?_ ?_ | with_reducible refine mono_Tst ?_ | with_reducible refine mono_And ?_ ?_ | with_reducible refine mono_Or ?_ ?_ | with_reducible refine mono_Not ?_ | with_reducible refine mono_AndV ?_ ?_ | with_reducible refine mono_OrV ?_ ?_ | with_reducible refine mono_NotV ?_ | with_reducible refine mono_IfE ?_ ?_ ?_
    | with_reducible refine mono_TupA ?_ | with_reducible refine mono_LstA ?_ | with_reducible refine mono_TupS ?_ | with_reducible refine mono_LstS ?_ | with_reducible refine mono_Cons ?_ ?_ | with_reducible refine mono_StarR3 ?_ ?_ | with_reducible refine mono_aStar ?_ ?_ | with_reducible refine mono_Call ?_ ?_ | with_reducible refine mono_CallP ?_ ?_ | with_reducible refine mono_Cut ?_ ?_ ?_ | with_reducible refine mono_oSome ?_ | with_reducible refine mono_LC ?_ ?_ ?_ ?_
    | with_reducible refine mono_iSeq ?_ | with_reducible refine mono_iEnum ?_ | with_reducible refine mono_iRng1 ?_ | with_reducible refine mono_iRng2 ?_ ?_ | with_reducible refine mono_gMore ?_ ?_ | with_reducible refine mono_gTp ?_)
theorem mono_sp_is_run : MonoSp sp_is_run := mono_spOf mf_is_run
theorem fb_is_run (T : Tx P K mg CT C4 C5) (D_is_number : Def P w K mg base CT "is_number" st_is_number P_is_number 5 sp_is_number) {A : Around} {outer : List PySem.Env} {s : Shared} {H : Hp} {E : XK} {cd : Value} {Γ : Fy.G} (i : In (cxD P w K mg base N_is_run "is_run" st_is_run f0 cd A outer s H E) Γ (wOf E) CT 6) : FB (cxD P w K mg base N_is_run "is_run" st_is_run f0 cd A outer s H E) Γ (wOf E) [] [] [] (defBody st_is_run) f_is_run :=
  let c := i.c
  (fb_one (fs_ret (fe_andV (fe_isi .tuple T.b_isinstance T.b_tuple (fs_var 0)) (fe_andV (fe_eq c ((fe_len c T.b_len (fs_var 0))).sh (fe_int).sh) (fe_oneV (fe_all c T.b_all ((fe_lc [("one", 1)] c.nd (fi_seq c.hK (fe_var 0)) (blk_ok (by rfl)) (fun b1 s1 H1 C1 l1 p1 => (fg_name 1 (c.blk2 b1 s1 H1 _ _ p1).nd)) (fun b1 s1 H1 C1 l1 p1 => fts_nil) (fun b1 s1 H1 C1 l1 p1 => (fe_andV (fe_call (c.blk2 b1 s1 H1 _ _ p1) i.ct D_is_number kw_is_number (fa_cons (fe_var 1) fa_nil)) (fe_oneV (fe_gt (c.blk2 b1 s1 H1 _ _ p1) (fs_var 1) (fe_int).sh)))))).cl.sh))))))
theorem def_is_run (T : Tx P K mg CT C4 C5) (D_is_number : Def P w K mg base CT "is_number" st_is_number P_is_number 5 sp_is_number) (hm : mg "is_run" = some (.ref f0)) (Fu : Fun K "is_run" "is_run" st_is_run f0 fd) : Def P w K mg base CT "is_run" st_is_run P_is_run 7 sp_is_run :=
  def_of hm Fu sc_is_run mf_is_run fun A outer s H E cd Γ i => fb_is_run T D_is_number i
theorem mf_is_within : MonoS f_is_within := by
  unfold f_is_within
  repeat' (first
    | with_reducible exact mono_C | with_reducible exact mono_Var | with_reducible exact mono_aNil | with_reducible exact mono_cYes | with_reducible exact mono_gNm | with_reducible exact mono_gNil | with_reducible exact mono_oNone | with_reducible exact mono_Nx | with_reducible exact mono_RetN | with_reducible exact mono_Brk | with_reducible exact mono_Cnt | with_reducible exact mono_spAny
    | with_reducible exact mono_qAdd | with_reducible exact mono_qAddL | with_reducible exact mono_qInK | with_reducible exact mono_qMinT | with_reducible exact mono_qSortR | with_reducible exact mono_qNotInK | with_reducible exact mono_qMulL | with_reducible exact mono_qSub | with_reducible exact mono_qMul | with_reducible exact mono_qDiv | with_reducible exact mono_qMod | with_reducible exact mono_qPow | with_reducible exact mono_qLt | with_reducible exact mono_qLe | with_reducible exact mono_qGt | with_reducible exact mono_qGe | with_reducible exact mono_qEq | with_reducible exact mono_qNe | with_reducible exact mono_qIs | with_reducible exact mono_qIsNot | with_reducible exact mono_qIx | with_reducible exact mono_qNeg
    | with_reducible exact mono_qLen | with_reducible exact mono_qInt | with_reducible exact mono_qAbs | with_reducible exact mono_qList | with_reducible exact mono_qTuple | with_reducible exact mono_qMax2 | with_reducible exact mono_qMin2 | with_reducible exact mono_qSum | with_reducible exact mono_qAll | with_reducible exact mono_qAny | with_reducible exact mono_qMin | with_reducible exact mono_qMax | with_reducible exact mono_qSorted | with_reducible exact mono_qSetL | with_reducible exact mono_qRepr | with_reducible exact mono_qIsI | with_reducible exact mono_qIn | with_reducible exact mono_qNotIn | with_reducible exact mono_qRev | with_reducible exact mono_qAt
    | with_reducible exact mono_oAppend | with_reducible exact mono_oInsert | with_reducible exact mono_oExtend | with_reducible exact mono_oPop | with_reducible exact mono_oPopAt
    | with_reducible refine mono_Seq ?_ ?_ | with_reducible refine mono_If ?_ ?_ ?_ | with_reducible refine mono_Ret ?_ | with_reducible refine mono_Exp ?_ | with_reducible refine mono_Asg ?_ ?_ | with_reducible refine mono_AsgI ?_ | with_reducible refine mono_Dct1 ?_ ?_ | with_reducible refine mono_DC ?_ ?_ ?_ ?_ ?_ | with_reducible refine mono_StD ?_ ?_ | with_reducible refine mono_For ?_ ?_ ?_ | with_reducible refine mono_While ?_ ?_ | with_reducible refine mono_Mut ?_ ?_ | with_reducible refine mono_StL ?_ ?_ | with_reducible refine mono_Par2 ?_ ?_ | with_reducible refine mono_Par3 ?_ ?_ ?_ | with_reducible refine mono_Raise ?_ | with_reducible refine mono_TryN ?_ ?_ | with_reducible exact mono_hnil | with_reducible exact mono_vPop | with_reducible exact mono_vPopAt | with_reducible refine mono_PopSet ?_ ?_ | with_reducible refine mono_AppPop ?_ ?_ | with_reducible refine mono_LstR ?_ | with_reducible refine mono_TupR ?_ | with_reducible refine mono_LstR2 ?_ ?_ | with_reducible refine mono_Idx ?_ ?_ | with_reducible refine mono_iZip ?_ ?_ | with_reducible refine mono_Chain ?_ ?_ ?_ ?_ ?_ | with_reducible refine mono_hcons ?_ ?_
    | with_reducible refine mono_Op ?_ ?_ ?_ | with_reducible refine mono_Un ?_ ?_ | with_reducible refine mono_Tst ?_ | with_reducible refine mono_And ?_ ?_ | with_reducible refine mono_Or ?_ ?_ | with_reducible refine mono_Not ?_ | with_reducible refine mono_AndV ?_ ?_ | with_reducible refine mono_OrV ?_ ?_ | with_reducible refine mono_NotV ?_ | with_reducible refine mono_IfE ?_ ?_ ?_
    | with_reducible refine mono_TupA ?_ | with_reducible refine mono_LstA ?_ | with_reducible refine mono_TupS ?_ | with_reducible refine mono_LstS ?_ | with_reducible refine mono_Cons ?_ ?_ | with_reducible refine mono_StarR3 ?_ ?_ | with_reducible refine mono_aStar ?_ ?_ | with_reducible refine mono_Call ?_ ?_ | with_reducible refine mono_CallP ?_ ?_ | with_reducible refine mono_Cut ?_ ?_ ?_ | with_reducible refine mono_oSome ?_ | with_reducible refine mono_LC ?_ ?_ ?_ ?_
    | with_reducible refine mono_iSeq ?_ | with_reducible refine mono_iEnum ?_ | with_reducible refine mono_iRng1 ?_ | with_reducible refine mono_iRng2 ?_ ?_ | with_reducible refine mono_gMore ?_ ?_ | with_reducible refine mono_gTp ?_)
theorem mono_sp_is_within : MonoSp sp_is_within := mono_spOf mf_is_within
theorem fb_is_within (T : Tx P K mg CT C4 C5) {A : Around} {outer : List PySem.Env} {s : Shared} {H : Hp} {E : XK} {cd : Value} {Γ : Fy.G} (i : In (cxD P w K mg base N_is_within "is_within" st_is_within f0 cd A outer s H E) Γ (wOf E) CT 2) : FB (cxD P w K mg base N_is_within "is_within" st_is_within f0 cd A outer s H E) Γ (wOf E) [] [] [] (defBody st_is_within) f_is_within :=
  let c := i.c
  (fb_cons (fs_set 3 (fe_var 2) c.nd) (fb_cons (fs_for i.po (fi_seq c.hK (fe_var 0)) (fg_tup (fgs_cons (fg_name 4 c.nd) (fgs_cons (fg_name 5 c.nd) fgs_nil)) (len_nm (len_nm len_nil))) (fb_cons (fs_if (fc_lt c (fs_var 3) ((fe_mul c (fs_var 4) (fs_var 5))).sh) (fb_one (fs_ret (fe_eq c ((fe_mod c (fs_var 3) (fs_var 4))).sh (fe_int).sh))) fb_nil) (fb_one (fs_set 3 (fe_sub c (fs_var 3) ((fe_mul c (fs_var 4) (fs_var 5))).sh) c.nd)))) (fb_one (fs_ret (fe_ifE (fc_eq c (fs_var 1) (fe_int).sh) (fe_eq c (fs_var 3) (fe_int).sh) (fe_eq c ((fe_mod c (fs_var 3) (fs_var 1))).sh (fe_int).sh))))))
theorem def_is_within (T : Tx P K mg CT C4 C5) (hm : mg "is_within" = some (.ref f0)) (Fu : Fun K "is_within" "is_within" st_is_within f0 fd) : Def P w K mg base CT "is_within" st_is_within P_is_within 3 sp_is_within :=
  def_of hm Fu sc_is_within mf_is_within fun A outer s H E cd Γ i => fb_is_within T i
theorem mf_is_falling : MonoS f_is_falling := by
  unfold f_is_falling
  repeat' (first
    | with_reducible exact mono_C | with_reducible exact mono_Var | with_reducible exact mono_aNil | with_reducible exact mono_cYes | with_reducible exact mono_gNm | with_reducible exact mono_gNil | with_reducible exact mono_oNone | with_reducible exact mono_Nx | with_reducible exact mono_RetN | with_reducible exact mono_Brk | with_reducible exact mono_Cnt | with_reducible exact mono_spAny
    | with_reducible exact mono_qAdd | with_reducible exact mono_qAddL | with_reducible exact mono_qInK | with_reducible exact mono_qMinT | with_reducible exact mono_qSortR | with_reducible exact mono_qNotInK | with_reducible exact mono_qMulL | with_reducible exact mono_qSub | with_reducible exact mono_qMul | with_reducible exact mono_qDiv | with_reducible exact mono_qMod | with_reducible exact mono_qPow | with_reducible exact mono_qLt | with_reducible exact mono_qLe | with_reducible exact mono_qGt | with_reducible exact mono_qGe | with_reducible exact mono_qEq | with_reducible exact mono_qNe | with_reducible exact mono_qIs | with_reducible exact mono_qIsNot | with_reducible exact mono_qIx | with_reducible exact mono_qNeg
    | with_reducible exact mono_qLen | with_reducible exact mono_qInt | with_reducible exact mono_qAbs | with_reducible exact mono_qList | with_reducible exact mono_qTuple | with_reducible exact mono_qMax2 | with_reducible exact mono_qMin2 | with_reducible exact mono_qSum | with_reducible exact mono_qAll | with_reducible exact mono_qAny | with_reducible exact mono_qMin | with_reducible exact mono_qMax | with_reducible exact mono_qSorted | with_reducible exact mono_qSetL | with_reducible exact mono_qRepr | with_reducible exact mono_qIsI | with_reducible exact mono_qIn | with_reducible exact mono_qNotIn | with_reducible exact mono_qRev | with_reducible exact mono_qAt
    | with_reducible exact mono_oAppend | with_reducible exact mono_oInsert | with_reducible exact mono_oExtend | with_reducible exact mono_oPop | with_reducible exact mono_oPopAt | with_reducible exact mono_sp_is_number | with_reducible exact mono_sp_is_run | with_reducible exact mono_sp_is_within
    | with_reducible refine mono_Seq ?_ ?_ | with_reducible refine mono_If ?_ ?_ ?_ | with_reducible refine mono_Ret ?_ | with_reducible refine mono_Exp ?_ | with_reducible refine mono_Asg ?_ ?_ | with_reducible refine mono_AsgI ?_ | with_reducible refine mono_Dct1 ?_ ?_ | with_reducible refine mono_DC ?_ ?_ ?_ ?_ ?_ | with_reducible refine mono_StD ?_ ?_ | with_reducible refine mono_For ?_ ?_ ?_ | with_reducible refine mono_While ?_ ?_ | with_reducible refine mono_Mut ?_ ?_ | with_reducible refine mono_StL ?_ ?_ | with_reducible refine mono_Par2 ?_ ?_ | with_reducible refine mono_Par3 ?_ ?_ ?_ | with_reducible refine mono_Raise ?_ | with_reducible refine mono_TryN ?_ ?_ | with_reducible exact mono_hnil | with_reducible exact mono_vPop | with_reducible exact mono_vPopAt | with_reducible refine mono_PopSet ?_ ?_ | with_reducible refine mono_AppPop ?_ ?_ | with_reducible refine mono_LstR ?_ | with_reducible refine mono_TupR ?_ | with_reducible refine mono_LstR2 ?_ ?_ | with_reducible refine mono_Idx ?_ ?_ | with_reducible refine mono_iZip ?_ ?_ | with_reducible refine mono_Chain ?_ ?_ ?_ ?_ ?_ | with_reducible refine mono_hcons ?_ ?_
    | with_reducible refine mono_Op ?_ ?_ ?_ | with_reducible refine mono_Un ?_ ?_ | with_reducible refine mono_Tst ?_ | with_reducible refine mono_And ?_ ?_ | with_reducible refine mono_Or ?_ ?_ | with_reducible refine mono_Not ?_ | with_reducible refine mono_AndV ?_ ?_ | with_reducible refine mono_OrV ?_ ?_ | with_reducible refine mono_NotV ?_ | with_reducible refine mono_IfE ?_ ?_ ?_
    | with_reducible refine mono_TupA ?_ | with_reducible refine mono_LstA ?_ | with_reducible refine mono_TupS ?_ | with_reducible refine mono_LstS ?_ | with_reducible refine mono_Cons ?_ ?_ | with_reducible refine mono_StarR3 ?_ ?_ | with_reducible refine mono_aStar ?_ ?_ | with_reducible refine mono_Call ?_ ?_ | with_reducible refine mono_CallP ?_ ?_ | with_reducible refine mono_Cut ?_ ?_ ?_ | with_reducible refine mono_oSome ?_ | with_reducible refine mono_LC ?_ ?_ ?_ ?_
    | with_reducible refine mono_iSeq ?_ | with_reducible refine mono_iEnum ?_ | with_reducible refine mono_iRng1 ?_ | with_reducible refine mono_iRng2 ?_ ?_ | with_reducible refine mono_gMore ?_ ?_ | with_reducible refine mono_gTp ?_)
theorem mono_sp_is_falling : MonoSp sp_is_falling := mono_spOf mf_is_falling
theorem fb_is_falling (T : Tx P K mg CT C4 C5) (D_is_number : Def P w K mg base CT "is_number" st_is_number P_is_number 5 sp_is_number) (D_is_run : Def P w K mg base CT "is_run" st_is_run P_is_run 7 sp_is_run) (D_is_within : Def P w K mg base CT "is_within" st_is_within P_is_within 3 sp_is_within) {A : Around} {outer : List PySem.Env} {s : Shared} {H : Hp} {E : XK} {cd : Value} {Γ : Fy.G} (i : In (cxD P w K mg base N_is_falling "is_falling" st_is_falling f0 cd A outer s H E) Γ (wOf E) CT 8) : FB (cxD P w K mg base N_is_falling "is_falling" st_is_falling f0 cd A outer s H E) Γ (wOf E) [] [] [] (defBody st_is_falling) f_is_falling :=
  let c := i.c
  (fb_cons (fs_if ((fw_or (fc_not (fc_val (fe_isi .tuple T.b_isinstance T.b_tuple (fs_var 0)))) (fw_or (fc_ne c ((fe_len c T.b_len (fs_var 0))).sh (fe_int).sh) (fw_or (fc_not (fc_val (fe_isi .tuple T.b_isinstance T.b_tuple ((fe_ix c.hK (fs_var 0) (fe_int).sh)).sh))) (fw_or1 (fc_not (fc_val (fe_call c i.ct D_is_number kw_is_number (fa_cons (fe_ix c.hK (fs_var 0) (fe_int).sh) fa_nil))))))))).toC (fb_one (fs_ret fe_bl)) fb_nil) (fb_cons (fs_asg (fe_var 0) (fg_tup (fgs_cons (fg_name 2 c.nd) (fgs_cons (fg_name 3 c.nd) fgs_nil)) (len_nm (len_nm len_nil)))) (fb_cons (fs_if ((fw_or (fc_not (fc_val (fe_all c T.b_all ((fe_lc [("run", 5)] c.nd (fi_seq c.hK (fe_var 2)) (blk_ok (by rfl)) (fun b1 s1 H1 C1 l1 p1 => (fg_name 5 (c.blk2 b1 s1 H1 _ _ p1).nd)) (fun b1 s1 H1 C1 l1 p1 => fts_nil) (fun b1 s1 H1 C1 l1 p1 => (fe_call (c.blk2 b1 s1 H1 _ _ p1) i.ct D_is_run kw_is_run (fa_cons (fe_var 5) fa_nil))))).cl.sh))) (fw_or1 ((fw_and (fc_eq c (fs_var 3) (fe_int).sh) (fw_and1 (fc_gt c ((fe_len c T.b_len (fs_var 2))).sh (fe_int).sh)))).toC))).toC (fb_one (fs_ret fe_bl)) fb_nil) (fb_cons (fs_set 1 ((fe_lstSF (fa_star c.hK ((fe_lc [("step", 6), ("times", 7)] c.nd (fi_seq c.hK (fe_var 2)) (blk_ok (by rfl)) (fun b1 s1 H1 C1 l1 p1 => (fg_tup (fgs_cons (fg_name 6 (c.blk2 b1 s1 H1 _ _ p1).nd) (fgs_cons (fg_name 7 (c.blk2 b1 s1 H1 _ _ p1).nd) fgs_nil)) (len_nm (len_nm len_nil)))) (fun b1 s1 H1 C1 l1 p1 => fts_nil) (fun b1 s1 H1 C1 l1 p1 => (fe_var 6)))).cl.sh (fa_more (fe_var 3) fa_nil.fa)))).cl c.nd) (fb_cons (fs_if (fc_not (fc_val (fe_all c T.b_all ((fe_lc [("at", 4)] c.nd (fi_rng1 T.b_range (fe_len c T.b_len (fs_var 2))) (blk_ok (by rfl)) (fun b1 s1 H1 C1 l1 p1 => (fg_name 4 (c.blk2 b1 s1 H1 _ _ p1).nd)) (fun b1 s1 H1 C1 l1 p1 => fts_nil) (fun b1 s1 H1 C1 l1 p1 => (fe_gt (c.blk2 b1 s1 H1 _ _ p1) ((fe_ix (c.blk2 b1 s1 H1 _ _ p1).hK (fs_var 1) (fs_var 4))).sh ((fe_ix (c.blk2 b1 s1 H1 _ _ p1).hK (fs_var 1) ((fe_add (c.blk2 b1 s1 H1 _ _ p1) (fs_var 4) (fe_int).sh)).sh)).sh)))).cl.sh))) (fb_one (fs_ret fe_bl)) fb_nil) (fb_one (fs_ret (fe_all c T.b_all ((fe_lc [("at", 4)] c.nd (fi_rng1 T.b_range (fe_len c T.b_len (fs_var 2))) (blk_ok (by rfl)) (fun b1 s1 H1 C1 l1 p1 => (fg_name 4 (c.blk2 b1 s1 H1 _ _ p1).nd)) (fun b1 s1 H1 C1 l1 p1 => fts_nil) (fun b1 s1 H1 C1 l1 p1 => (fe_call (c.blk2 b1 s1 H1 _ _ p1) i.ct D_is_within kw_is_within (fa_cons (fe_cut (c.blk2 b1 s1 H1 _ _ p1).hK (fs_var 2) (fo_some (fe_add (c.blk2 b1 s1 H1 _ _ p1) (fs_var 4) (fe_int).sh)) fo_none) (fa_cons (fe_var 3) (fa_cons (fe_ix (c.blk2 b1 s1 H1 _ _ p1).hK ((fe_ix (c.blk2 b1 s1 H1 _ _ p1).hK (fs_var 2) (fs_var 4))).sh (fe_int).sh) fa_nil))))))).cl.sh))))))))
theorem def_is_falling (T : Tx P K mg CT C4 C5) (D_is_number : Def P w K mg base CT "is_number" st_is_number P_is_number 5 sp_is_number) (D_is_run : Def P w K mg base CT "is_run" st_is_run P_is_run 7 sp_is_run) (D_is_within : Def P w K mg base CT "is_within" st_is_within P_is_within 3 sp_is_within) (hm : mg "is_falling" = some (.ref f0)) (Fu : Fun K "is_falling" "is_falling" st_is_falling f0 fd) : Def P w K mg base CT "is_falling" st_is_falling P_is_falling 9 sp_is_falling :=
  def_of hm Fu sc_is_falling mf_is_falling fun A outer s H E cd Γ i => fb_is_falling T D_is_number D_is_run D_is_within i
theorem mf_checked_falling : MonoS f_checked_falling := by
  unfold f_checked_falling
  repeat' (first
    | with_reducible exact mono_C | with_reducible exact mono_Var | with_reducible exact mono_aNil | with_reducible exact mono_cYes | with_reducible exact mono_gNm | with_reducible exact mono_gNil | with_reducible exact mono_oNone | with_reducible exact mono_Nx | with_reducible exact mono_RetN | with_reducible exact mono_Brk | with_reducible exact mono_Cnt | with_reducible exact mono_spAny
    | with_reducible exact mono_qAdd | with_reducible exact mono_qAddL | with_reducible exact mono_qInK | with_reducible exact mono_qMinT | with_reducible exact mono_qSortR | with_reducible exact mono_qNotInK | with_reducible exact mono_qMulL | with_reducible exact mono_qSub | with_reducible exact mono_qMul | with_reducible exact mono_qDiv | with_reducible exact mono_qMod | with_reducible exact mono_qPow | with_reducible exact mono_qLt | with_reducible exact mono_qLe | with_reducible exact mono_qGt | with_reducible exact mono_qGe | with_reducible exact mono_qEq | with_reducible exact mono_qNe | with_reducible exact mono_qIs | with_reducible exact mono_qIsNot | with_reducible exact mono_qIx | with_reducible exact mono_qNeg
    | with_reducible exact mono_qLen | with_reducible exact mono_qInt | with_reducible exact mono_qAbs | with_reducible exact mono_qList | with_reducible exact mono_qTuple | with_reducible exact mono_qMax2 | with_reducible exact mono_qMin2 | with_reducible exact mono_qSum | with_reducible exact mono_qAll | with_reducible exact mono_qAny | with_reducible exact mono_qMin | with_reducible exact mono_qMax | with_reducible exact mono_qSorted | with_reducible exact mono_qSetL | with_reducible exact mono_qRepr | with_reducible exact mono_qIsI | with_reducible exact mono_qIn | with_reducible exact mono_qNotIn | with_reducible exact mono_qRev | with_reducible exact mono_qAt
    | with_reducible exact mono_oAppend | with_reducible exact mono_oInsert | with_reducible exact mono_oExtend | with_reducible exact mono_oPop | with_reducible exact mono_oPopAt | with_reducible exact mono_sp_is_falling
    | with_reducible refine mono_Seq ?_ ?_ | with_reducible refine mono_If ?_ ?_ ?_ | with_reducible refine mono_Ret ?_ | with_reducible refine mono_Exp ?_ | with_reducible refine mono_Asg ?_ ?_ | with_reducible refine mono_AsgI ?_ | with_reducible refine mono_Dct1 ?_ ?_ | with_reducible refine mono_DC ?_ ?_ ?_ ?_ ?_ | with_reducible refine mono_StD ?_ ?_ | with_reducible refine mono_For ?_ ?_ ?_ | with_reducible refine mono_While ?_ ?_ | with_reducible refine mono_Mut ?_ ?_ | with_reducible refine mono_StL ?_ ?_ | with_reducible refine mono_Par2 ?_ ?_ | with_reducible refine mono_Par3 ?_ ?_ ?_ | with_reducible refine mono_Raise ?_ | with_reducible refine mono_TryN ?_ ?_ | with_reducible exact mono_hnil | with_reducible exact mono_vPop | with_reducible exact mono_vPopAt | with_reducible refine mono_PopSet ?_ ?_ | with_reducible refine mono_AppPop ?_ ?_ | with_reducible refine mono_LstR ?_ | with_reducible refine mono_TupR ?_ | with_reducible refine mono_LstR2 ?_ ?_ | with_reducible refine mono_Idx ?_ ?_ | with_reducible refine mono_iZip ?_ ?_ | with_reducible refine mono_Chain ?_ ?_ ?_ ?_ ?_ | with_reducible refine mono_hcons ?_ ?_
    | with_reducible refine mono_Op ?_ ?_ ?_ | with_reducible refine mono_Un ?_ ?_ | with_reducible refine mono_Tst ?_ | with_reducible refine mono_And ?_ ?_ | with_reducible refine mono_Or ?_ ?_ | with_reducible refine mono_Not ?_ | with_reducible refine mono_AndV ?_ ?_ | with_reducible refine mono_OrV ?_ ?_ | with_reducible refine mono_NotV ?_ | with_reducible refine mono_IfE ?_ ?_ ?_
    | with_reducible refine mono_TupA ?_ | with_reducible refine mono_LstA ?_ | with_reducible refine mono_TupS ?_ | with_reducible refine mono_LstS ?_ | with_reducible refine mono_Cons ?_ ?_ | with_reducible refine mono_StarR3 ?_ ?_ | with_reducible refine mono_aStar ?_ ?_ | with_reducible refine mono_Call ?_ ?_ | with_reducible refine mono_CallP ?_ ?_ | with_reducible refine mono_Cut ?_ ?_ ?_ | with_reducible refine mono_oSome ?_ | with_reducible refine mono_LC ?_ ?_ ?_ ?_
    | with_reducible refine mono_iSeq ?_ | with_reducible refine mono_iEnum ?_ | with_reducible refine mono_iRng1 ?_ | with_reducible refine mono_iRng2 ?_ ?_ | with_reducible refine mono_gMore ?_ ?_ | with_reducible refine mono_gTp ?_)
theorem mono_sp_checked_falling : MonoSp sp_checked_falling := mono_spOf mf_checked_falling
theorem fb_checked_falling (T : Tx P K mg CT C4 C5) (D_is_falling : Def P w K mg base CT "is_falling" st_is_falling P_is_falling 9 sp_is_falling) {A : Around} {outer : List PySem.Env} {s : Shared} {H : Hp} {E : XK} {cd : Value} {Γ : Fy.G} (i : In (cxD P w K mg base N_checked_falling "checked_falling" st_checked_falling f0 cd A outer s H E) Γ (wOf E) CT 10) : FB (cxD P w K mg base N_checked_falling "checked_falling" st_checked_falling f0 cd A outer s H E) Γ (wOf E) [] [] [] (defBody st_checked_falling) f_checked_falling :=
  let c := i.c
  (fb_cons (fs_if (fc_not (fc_val (fe_call c i.ct D_is_falling kw_is_falling (fa_cons (fe_var 0) fa_nil)))) (fb_one (fs_raise 4 c (by rw [i.ct]; exact T.ct_InvalidQuestion) T.e_InvalidQuestion fe_int)) fb_nil) (fb_one (fs_ret (fe_var 0))))
theorem def_checked_falling (T : Tx P K mg CT C4 C5) (D_is_falling : Def P w K mg base CT "is_falling" st_is_falling P_is_falling 9 sp_is_falling) (hm : mg "checked_falling" = some (.ref f0)) (Fu : Fun K "checked_falling" "checked_falling" st_checked_falling f0 fd) : Def P w K mg base CT "checked_falling" st_checked_falling P_checked_falling 11 sp_checked_falling :=
  def_of hm Fu sc_checked_falling mf_checked_falling fun A outer s H E cd Γ i => fb_checked_falling T D_is_falling i
theorem mf_lifted : MonoS f_lifted := by
  unfold f_lifted
  repeat' (first
    | with_reducible exact mono_C | with_reducible exact mono_Var | with_reducible exact mono_aNil | with_reducible exact mono_cYes | with_reducible exact mono_gNm | with_reducible exact mono_gNil | with_reducible exact mono_oNone | with_reducible exact mono_Nx | with_reducible exact mono_RetN | with_reducible exact mono_Brk | with_reducible exact mono_Cnt | with_reducible exact mono_spAny
    | with_reducible exact mono_qAdd | with_reducible exact mono_qAddL | with_reducible exact mono_qInK | with_reducible exact mono_qMinT | with_reducible exact mono_qSortR | with_reducible exact mono_qNotInK | with_reducible exact mono_qMulL | with_reducible exact mono_qSub | with_reducible exact mono_qMul | with_reducible exact mono_qDiv | with_reducible exact mono_qMod | with_reducible exact mono_qPow | with_reducible exact mono_qLt | with_reducible exact mono_qLe | with_reducible exact mono_qGt | with_reducible exact mono_qGe | with_reducible exact mono_qEq | with_reducible exact mono_qNe | with_reducible exact mono_qIs | with_reducible exact mono_qIsNot | with_reducible exact mono_qIx | with_reducible exact mono_qNeg
    | with_reducible exact mono_qLen | with_reducible exact mono_qInt | with_reducible exact mono_qAbs | with_reducible exact mono_qList | with_reducible exact mono_qTuple | with_reducible exact mono_qMax2 | with_reducible exact mono_qMin2 | with_reducible exact mono_qSum | with_reducible exact mono_qAll | with_reducible exact mono_qAny | with_reducible exact mono_qMin | with_reducible exact mono_qMax | with_reducible exact mono_qSorted | with_reducible exact mono_qSetL | with_reducible exact mono_qRepr | with_reducible exact mono_qIsI | with_reducible exact mono_qIn | with_reducible exact mono_qNotIn | with_reducible exact mono_qRev | with_reducible exact mono_qAt
    | with_reducible exact mono_oAppend | with_reducible exact mono_oInsert | with_reducible exact mono_oExtend | with_reducible exact mono_oPop | with_reducible exact mono_oPopAt
    | with_reducible refine mono_Seq ?_ ?_ | with_reducible refine mono_If ?_ ?_ ?_ | with_reducible refine mono_Ret ?_ | with_reducible refine mono_Exp ?_ | with_reducible refine mono_Asg ?_ ?_ | with_reducible refine mono_AsgI ?_ | with_reducible refine mono_Dct1 ?_ ?_ | with_reducible refine mono_DC ?_ ?_ ?_ ?_ ?_ | with_reducible refine mono_StD ?_ ?_ | with_reducible refine mono_For ?_ ?_ ?_ | with_reducible refine mono_While ?_ ?_ | with_reducible refine mono_Mut ?_ ?_ | with_reducible refine mono_StL ?_ ?_ | with_reducible refine mono_Par2 ?_ ?_ | with_reducible refine mono_Par3 ?_ ?_ ?_ | with_reducible refine mono_Raise ?_ | with_reducible refine mono_TryN ?_ ?_ | with_reducible exact mono_hnil | with_reducible exact mono_vPop | with_reducible exact mono_vPopAt | with_reducible refine mono_PopSet ?_ ?_ | with_reducible refine mono_AppPop ?_ ?_ | with_reducible refine mono_LstR ?_ | with_reducible refine mono_TupR ?_ | with_reducible refine mono_LstR2 ?_ ?_ | with_reducible refine mono_Idx ?_ ?_ | with_reducible refine mono_iZip ?_ ?_ | with_reducible refine mono_Chain ?_ ?_ ?_ ?_ ?_ | with_reducible refine mono_hcons ?_ ?_
    | with_reducible refine mono_Op ?_ ?_ ?_ | with_reducible refine mono_Un ?_ ?_ | with_reducible refine mono_Tst ?_ | with_reducible refine mono_And ?_ ?_ | with_reducible refine mono_Or ?_ ?_ | with_reducible refine mono_Not ?_ | with_reducible refine mono_AndV ?_ ?_ | with_reducible refine mono_OrV ?_ ?_ | with_reducible refine mono_NotV ?_ | with_reducible refine mono_IfE ?_ ?_ ?_
    | with_reducible refine mono_TupA ?_ | with_reducible refine mono_LstA ?_ | with_reducible refine mono_TupS ?_ | with_reducible refine mono_LstS ?_ | with_reducible refine mono_Cons ?_ ?_ | with_reducible refine mono_StarR3 ?_ ?_ | with_reducible refine mono_aStar ?_ ?_ | with_reducible refine mono_Call ?_ ?_ | with_reducible refine mono_CallP ?_ ?_ | with_reducible refine mono_Cut ?_ ?_ ?_ | with_reducible refine mono_oSome ?_ | with_reducible refine mono_LC ?_ ?_ ?_ ?_
    | with_reducible refine mono_iSeq ?_ | with_reducible refine mono_iEnum ?_ | with_reducible refine mono_iRng1 ?_ | with_reducible refine mono_iRng2 ?_ ?_ | with_reducible refine mono_gMore ?_ ?_ | with_reducible refine mono_gTp ?_)
theorem mono_sp_lifted : MonoSp sp_lifted := mono_spOf mf_lifted
theorem fb_lifted (T : Tx P K mg CT C4 C5) {A : Around} {outer : List PySem.Env} {s : Shared} {H : Hp} {E : XK} {cd : Value} {Γ : Fy.G} (i : In (cxD P w K mg base N_lifted "lifted" st_lifted f0 cd A outer s H E) Γ (wOf E) CT 2) : FB (cxD P w K mg base N_lifted "lifted" st_lifted f0 cd A outer s H E) Γ (wOf E) [] [] [] (defBody st_lifted) f_lifted :=
  let c := i.c
  (fb_cons (fs_asg (fe_var 0) (fg_tup (fgs_cons (fg_name 2 c.nd) (fgs_cons (fg_name 3 c.nd) fgs_nil)) (len_nm (len_nm len_nil)))) (fb_cons (fs_if ((fw_and (fc_gt c ((fe_len c T.b_len (fs_var 2))).sh (fe_int).sh) (fw_and1 (fc_eq c ((fe_ix c.hK ((fe_ix c.hK (fs_var 2) (fe_int).sh)).sh (fe_int).sh)).sh (fs_var 1))))).toC (fb_one (fs_ret (fe_tup (fa_cons (fe_tupS (fa_more (fe_tup (fa_cons (fe_var 1) (fa_cons (fe_add c ((fe_ix c.hK ((fe_ix c.hK (fs_var 2) (fe_int).sh)).sh (fe_int).sh)).sh (fe_int).sh) fa_nil))) (fa_star c.hK ((fe_cut c.hK (fs_var 2) (fo_some fe_int) fo_none)).sh fa_nil.fa))) (fa_cons (fe_var 3) fa_nil))))) fb_nil) (fb_one (fs_ret (fe_tup (fa_cons (fe_tupS (fa_more (fe_tup (fa_cons (fe_var 1) (fa_cons fe_int fa_nil))) (fa_star c.hK (fs_var 2) fa_nil.fa))) (fa_cons (fe_var 3) fa_nil)))))))
theorem def_lifted (T : Tx P K mg CT C4 C5) (hm : mg "lifted" = some (.ref f0)) (Fu : Fun K "lifted" "lifted" st_lifted f0 fd) : Def P w K mg base CT "lifted" st_lifted P_lifted 3 sp_lifted :=
  def_of hm Fu sc_lifted mf_lifted fun A outer s H E cd Γ i => fb_lifted T i
theorem mf_steps_for : MonoS f_steps_for := by
  unfold f_steps_for
  repeat' (first
    | with_reducible exact mono_C | with_reducible exact mono_Var | with_reducible exact mono_aNil | with_reducible exact mono_cYes | with_reducible exact mono_gNm | with_reducible exact mono_gNil | with_reducible exact mono_oNone | with_reducible exact mono_Nx | with_reducible exact mono_RetN | with_reducible exact mono_Brk | with_reducible exact mono_Cnt | with_reducible exact mono_spAny
    | with_reducible exact mono_qAdd | with_reducible exact mono_qAddL | with_reducible exact mono_qInK | with_reducible exact mono_qMinT | with_reducible exact mono_qSortR | with_reducible exact mono_qNotInK | with_reducible exact mono_qMulL | with_reducible exact mono_qSub | with_reducible exact mono_qMul | with_reducible exact mono_qDiv | with_reducible exact mono_qMod | with_reducible exact mono_qPow | with_reducible exact mono_qLt | with_reducible exact mono_qLe | with_reducible exact mono_qGt | with_reducible exact mono_qGe | with_reducible exact mono_qEq | with_reducible exact mono_qNe | with_reducible exact mono_qIs | with_reducible exact mono_qIsNot | with_reducible exact mono_qIx | with_reducible exact mono_qNeg
    | with_reducible exact mono_qLen | with_reducible exact mono_qInt | with_reducible exact mono_qAbs | with_reducible exact mono_qList | with_reducible exact mono_qTuple | with_reducible exact mono_qMax2 | with_reducible exact mono_qMin2 | with_reducible exact mono_qSum | with_reducible exact mono_qAll | with_reducible exact mono_qAny | with_reducible exact mono_qMin | with_reducible exact mono_qMax | with_reducible exact mono_qSorted | with_reducible exact mono_qSetL | with_reducible exact mono_qRepr | with_reducible exact mono_qIsI | with_reducible exact mono_qIn | with_reducible exact mono_qNotIn | with_reducible exact mono_qRev | with_reducible exact mono_qAt
    | with_reducible exact mono_oAppend | with_reducible exact mono_oInsert | with_reducible exact mono_oExtend | with_reducible exact mono_oPop | with_reducible exact mono_oPopAt
    | with_reducible refine mono_Seq ?_ ?_ | with_reducible refine mono_If ?_ ?_ ?_ | with_reducible refine mono_Ret ?_ | with_reducible refine mono_Exp ?_ | with_reducible refine mono_Asg ?_ ?_ | with_reducible refine mono_AsgI ?_ | with_reducible refine mono_Dct1 ?_ ?_ | with_reducible refine mono_DC ?_ ?_ ?_ ?_ ?_ | with_reducible refine mono_StD ?_ ?_ | with_reducible refine mono_For ?_ ?_ ?_ | with_reducible refine mono_While ?_ ?_ | with_reducible refine mono_Mut ?_ ?_ | with_reducible refine mono_StL ?_ ?_ | with_reducible refine mono_Par2 ?_ ?_ | with_reducible refine mono_Par3 ?_ ?_ ?_ | with_reducible refine mono_Raise ?_ | with_reducible refine mono_TryN ?_ ?_ | with_reducible exact mono_hnil | with_reducible exact mono_vPop | with_reducible exact mono_vPopAt | with_reducible refine mono_PopSet ?_ ?_ | with_reducible refine mono_AppPop ?_ ?_ | with_reducible refine mono_LstR ?_ | with_reducible refine mono_TupR ?_ | with_reducible refine mono_LstR2 ?_ ?_ | with_reducible refine mono_Idx ?_ ?_ | with_reducible refine mono_iZip ?_ ?_ | with_reducible refine mono_Chain ?_ ?_ ?_ ?_ ?_ | with_reducible refine mono_hcons ?_ ?_
    | with_reducible refine mono_Op ?_ ?_ ?_ | with_reducible refine mono_Un ?_ ?_ | with_reducible refine mono_Tst ?_ | with_reducible refine mono_And ?_ ?_ | with_reducible refine mono_Or ?_ ?_ | with_reducible refine mono_Not ?_ | with_reducible refine mono_AndV ?_ ?_ | with_reducible refine mono_OrV ?_ ?_ | with_reducible refine mono_NotV ?_ | with_reducible refine mono_IfE ?_ ?_ ?_
    | with_reducible refine mono_TupA ?_ | with_reducible refine mono_LstA ?_ | with_reducible refine mono_TupS ?_ | with_reducible refine mono_LstS ?_ | with_reducible refine mono_Cons ?_ ?_ | with_reducible refine mono_StarR3 ?_ ?_ | with_reducible refine mono_aStar ?_ ?_ | with_reducible refine mono_Call ?_ ?_ | with_reducible refine mono_CallP ?_ ?_ | with_reducible refine mono_Cut ?_ ?_ ?_ | with_reducible refine mono_oSome ?_ | with_reducible refine mono_LC ?_ ?_ ?_ ?_
    | with_reducible refine mono_iSeq ?_ | with_reducible refine mono_iEnum ?_ | with_reducible refine mono_iRng1 ?_ | with_reducible refine mono_iRng2 ?_ ?_ | with_reducible refine mono_gMore ?_ ?_ | with_reducible refine mono_gTp ?_)
theorem mono_sp_steps_for : MonoSp sp_steps_for := mono_spOf mf_steps_for
theorem fb_steps_for (T : Tx P K mg CT C4 C5) {A : Around} {outer : List PySem.Env} {s : Shared} {H : Hp} {E : XK} {cd : Value} {Γ : Fy.G} (i : In (cxD P w K mg base N_steps_for "steps_for" st_steps_for f0 cd A outer s H E) Γ (wOf E) CT 2) : FB (cxD P w K mg base N_steps_for "steps_for" st_steps_for f0 cd A outer s H E) Γ (wOf E) [] [] [] (defBody st_steps_for) f_steps_for :=
  let c := i.c
  (fb_cons (fs_par2 2 3 c (fm_fr (fe_lstF fa_nil) (fun b1 => (fm_cl fe_int fm_nil)))) (fb_cons (fs_for i.po (fi_seq c.hK (fe_ix c.hK (fs_var 0) (fe_int).sh)) (fg_tup (fgs_cons (fg_name 4 c.nd) (fgs_cons (fg_name 5 c.nd) fgs_nil)) (len_nm (len_nm len_nil))) (fb_one (fs_for i.po (fi_rng1 T.b_range (fe_var 5)) (fg_name 6 c.nd) (fb_cons (fs_set 3 (fe_add c (fs_var 3) (fs_var 4)) c.nd) (fb_cons (fs_if (fc_gt c (fs_var 3) (fs_var 1)) (fb_one (fs_ret (fe_var 2))) fb_nil) (fb_one (fs_append (i := 2) ⟨rfl, .inl rfl, by decide, by decide⟩ (fa_cons (fe_var 3) fa_nil).fa))))))) (fb_one (fs_ret ((fe_lstSF (fa_star c.hK (fs_var 2) (fa_starR3 T.b_range ((fa_cons (fe_add c (fs_var 3) ((fe_ix c.hK (fs_var 0) (fe_int).sh)).sh) (fa_cons (fe_add c (fs_var 1) (fe_int).sh) (fa_cons (fe_ix c.hK (fs_var 0) (fe_int).sh) fa_nil)))).fa fa_nil.fa)))).cl))))
theorem def_steps_for (T : Tx P K mg CT C4 C5) (hm : mg "steps_for" = some (.ref f0)) (Fu : Fun K "steps_for" "steps_for" st_steps_for f0 fd) : Def P w K mg base CT "steps_for" st_steps_for P_steps_for 3 sp_steps_for :=
  def_of hm Fu sc_steps_for mf_steps_for fun A outer s H E cd Γ i => fb_steps_for T i
theorem mf_rows_with : MonoS f_rows_with := by
  unfold f_rows_with
  repeat' (first
    | with_reducible exact mono_C | with_reducible exact mono_Var | with_reducible exact mono_aNil | with_reducible exact mono_cYes | with_reducible exact mono_gNm | with_reducible exact mono_gNil | with_reducible exact mono_oNone | with_reducible exact mono_Nx | with_reducible exact mono_RetN | with_reducible exact mono_Brk | with_reducible exact mono_Cnt | with_reducible exact mono_spAny
    | with_reducible exact mono_qAdd | with_reducible exact mono_qAddL | with_reducible exact mono_qInK | with_reducible exact mono_qMinT | with_reducible exact mono_qSortR | with_reducible exact mono_qNotInK | with_reducible exact mono_qMulL | with_reducible exact mono_qSub | with_reducible exact mono_qMul | with_reducible exact mono_qDiv | with_reducible exact mono_qMod | with_reducible exact mono_qPow | with_reducible exact mono_qLt | with_reducible exact mono_qLe | with_reducible exact mono_qGt | with_reducible exact mono_qGe | with_reducible exact mono_qEq | with_reducible exact mono_qNe | with_reducible exact mono_qIs | with_reducible exact mono_qIsNot | with_reducible exact mono_qIx | with_reducible exact mono_qNeg
    | with_reducible exact mono_qLen | with_reducible exact mono_qInt | with_reducible exact mono_qAbs | with_reducible exact mono_qList | with_reducible exact mono_qTuple | with_reducible exact mono_qMax2 | with_reducible exact mono_qMin2 | with_reducible exact mono_qSum | with_reducible exact mono_qAll | with_reducible exact mono_qAny | with_reducible exact mono_qMin | with_reducible exact mono_qMax | with_reducible exact mono_qSorted | with_reducible exact mono_qSetL | with_reducible exact mono_qRepr | with_reducible exact mono_qIsI | with_reducible exact mono_qIn | with_reducible exact mono_qNotIn | with_reducible exact mono_qRev | with_reducible exact mono_qAt
    | with_reducible exact mono_oAppend | with_reducible exact mono_oInsert | with_reducible exact mono_oExtend | with_reducible exact mono_oPop | with_reducible exact mono_oPopAt | with_reducible exact mono_sp_steps_for | with_reducible exact mono_sp_lifted
    | with_reducible refine mono_Seq ?_ ?_ | with_reducible refine mono_If ?_ ?_ ?_ | with_reducible refine mono_Ret ?_ | with_reducible refine mono_Exp ?_ | with_reducible refine mono_Asg ?_ ?_ | with_reducible refine mono_AsgI ?_ | with_reducible refine mono_Dct1 ?_ ?_ | with_reducible refine mono_DC ?_ ?_ ?_ ?_ ?_ | with_reducible refine mono_StD ?_ ?_ | with_reducible refine mono_For ?_ ?_ ?_ | with_reducible refine mono_While ?_ ?_ | with_reducible refine mono_Mut ?_ ?_ | with_reducible refine mono_StL ?_ ?_ | with_reducible refine mono_Par2 ?_ ?_ | with_reducible refine mono_Par3 ?_ ?_ ?_ | with_reducible refine mono_Raise ?_ | with_reducible refine mono_TryN ?_ ?_ | with_reducible exact mono_hnil | with_reducible exact mono_vPop | with_reducible exact mono_vPopAt | with_reducible refine mono_PopSet ?_ ?_ | with_reducible refine mono_AppPop ?_ ?_ | with_reducible refine mono_LstR ?_ | with_reducible refine mono_TupR ?_ | with_reducible refine mono_LstR2 ?_ ?_ | with_reducible refine mono_Idx ?_ ?_ | with_reducible refine mono_iZip ?_ ?_ | with_reducible refine mono_Chain ?_ ?_ ?_ ?_ ?_ | with_reducible refine mono_hcons ?_ ?_
    | with_reducible refine mono_Op ?_ ?_ ?_ | with_reducible refine mono_Un ?_ ?_ | with_reducible refine mono_Tst ?_ | with_reducible refine mono_And ?_ ?_ | with_reducible refine mono_Or ?_ ?_ | with_reducible refine mono_Not ?_ | with_reducible refine mono_AndV ?_ ?_ | with_reducible refine mono_OrV ?_ ?_ | with_reducible refine mono_NotV ?_ | with_reducible refine mono_IfE ?_ ?_ ?_
    | with_reducible refine mono_TupA ?_ | with_reducible refine mono_LstA ?_ | with_reducible refine mono_TupS ?_ | with_reducible refine mono_LstS ?_ | with_reducible refine mono_Cons ?_ ?_ | with_reducible refine mono_StarR3 ?_ ?_ | with_reducible refine mono_aStar ?_ ?_ | with_reducible refine mono_Call ?_ ?_ | with_reducible refine mono_CallP ?_ ?_ | with_reducible refine mono_Cut ?_ ?_ ?_ | with_reducible refine mono_oSome ?_ | with_reducible refine mono_LC ?_ ?_ ?_ ?_
    | with_reducible refine mono_iSeq ?_ | with_reducible refine mono_iEnum ?_ | with_reducible refine mono_iRng1 ?_ | with_reducible refine mono_iRng2 ?_ ?_ | with_reducible refine mono_gMore ?_ ?_ | with_reducible refine mono_gTp ?_)
theorem mono_sp_rows_with : MonoSp sp_rows_with := mono_spOf mf_rows_with
theorem fb_rows_with (T : Tx P K mg CT C4 C5) (D_steps_for : Def P w K mg base CT "steps_for" st_steps_for P_steps_for 3 sp_steps_for) (D_lifted : Def P w K mg base CT "lifted" st_lifted P_lifted 3 sp_lifted) {A : Around} {outer : List PySem.Env} {s : Shared} {H : Hp} {E : XK} {cd : Value} {Γ : Fy.G} (i : In (cxD P w K mg base N_rows_with "rows_with" st_rows_with f0 cd A outer s H E) Γ (wOf E) CT 4) : FB (cxD P w K mg base N_rows_with "rows_with" st_rows_with f0 cd A outer s H E) Γ (wOf E) [] [] [] (defBody st_rows_with) f_rows_with :=
  let c := i.c
  (fb_cons (fs_par2 2 3 c (fm_fr (fe_lstF fa_nil) (fun b1 => (fm_fr (fe_lstF (fa_cons (fe_tup (fa_cons (fe_tup fa_nil) (fa_cons (fe_var 0) fa_nil))) fa_nil)) (fun b2 => fm_nil))))) (fb_cons (fs_while i.po (fc_gt c ((fe_len c T.b_len (fs_var 3))).sh (fe_int).sh) (fb_cons (fs_popSet 4 (i := 3) c (PopE.none ⟨rfl, .inl rfl, by decide, by decide⟩)) (fb_cons (fs_append (i := 2) ⟨rfl, .inl rfl, by decide, by decide⟩ (fa_cons (fe_var 4) fa_nil).fa) (fb_cons (fs_set 5 (fe_sub c (fs_var 1) ((fe_sum c T.b_sum ((fe_lc [("step", 6), ("times", 7)] c.nd (fi_seq c.hK (fe_ix c.hK (fs_var 4) (fe_int).sh)) (blk_ok (by rfl)) (fun b1 s1 H1 C1 l1 p1 => (fg_tup (fgs_cons (fg_name 6 (c.blk2 b1 s1 H1 _ _ p1).nd) (fgs_cons (fg_name 7 (c.blk2 b1 s1 H1 _ _ p1).nd) fgs_nil)) (len_nm (len_nm len_nil)))) (fun b1 s1 H1 C1 l1 p1 => fts_nil) (fun b1 s1 H1 C1 l1 p1 => (fe_mul (c.blk2 b1 s1 H1 _ _ p1) (fs_var 6) (fs_var 7))))).cl.sh)).sh) c.nd) (fb_one (fs_for i.po (fi_seq c.hK (fe_call c i.ct D_steps_for kw_steps_for (fa_cons (fe_var 4) (fa_cons (fe_var 5) fa_nil)))) (fg_name 6 c.nd) (fb_one (fs_if ((fw_or (fc_gt c ((fe_len c T.b_len ((fe_ix c.hK (fs_var 4) (fe_int).sh)).sh)).sh (fe_int).sh) (fw_or1 (fc_ne c (fs_var 6) (fs_var 0))))).toC (fb_one (fs_append (i := 3) ⟨rfl, .inl rfl, by decide, by decide⟩ (fa_cons (fe_call c i.ct D_lifted kw_lifted (fa_cons (fe_var 4) (fa_cons (fe_var 6) fa_nil))) fa_nil).fa)) fb_nil)))))))) (fb_one (fs_ret (fe_var 2)))))
theorem def_rows_with (T : Tx P K mg CT C4 C5) (D_steps_for : Def P w K mg base CT "steps_for" st_steps_for P_steps_for 3 sp_steps_for) (D_lifted : Def P w K mg base CT "lifted" st_lifted P_lifted 3 sp_lifted) (hm : mg "rows_with" = some (.ref f0)) (Fu : Fun K "rows_with" "rows_with" st_rows_with f0 fd) : Def P w K mg base CT "rows_with" st_rows_with P_rows_with 5 sp_rows_with :=
  def_of hm Fu sc_rows_with mf_rows_with fun A outer s H E cd Γ i => fb_rows_with T D_steps_for D_lifted i
theorem mf_sum_of : MonoS f_sum_of := by
  unfold f_sum_of
  repeat' (first
    | with_reducible exact mono_C | with_reducible exact mono_Var | with_reducible exact mono_aNil | with_reducible exact mono_cYes | with_reducible exact mono_gNm | with_reducible exact mono_gNil | with_reducible exact mono_oNone | with_reducible exact mono_Nx | with_reducible exact mono_RetN | with_reducible exact mono_Brk | with_reducible exact mono_Cnt | with_reducible exact mono_spAny
    | with_reducible exact mono_qAdd | with_reducible exact mono_qAddL | with_reducible exact mono_qInK | with_reducible exact mono_qMinT | with_reducible exact mono_qSortR | with_reducible exact mono_qNotInK | with_reducible exact mono_qMulL | with_reducible exact mono_qSub | with_reducible exact mono_qMul | with_reducible exact mono_qDiv | with_reducible exact mono_qMod | with_reducible exact mono_qPow | with_reducible exact mono_qLt | with_reducible exact mono_qLe | with_reducible exact mono_qGt | with_reducible exact mono_qGe | with_reducible exact mono_qEq | with_reducible exact mono_qNe | with_reducible exact mono_qIs | with_reducible exact mono_qIsNot | with_reducible exact mono_qIx | with_reducible exact mono_qNeg
    | with_reducible exact mono_qLen | with_reducible exact mono_qInt | with_reducible exact mono_qAbs | with_reducible exact mono_qList | with_reducible exact mono_qTuple | with_reducible exact mono_qMax2 | with_reducible exact mono_qMin2 | with_reducible exact mono_qSum | with_reducible exact mono_qAll | with_reducible exact mono_qAny | with_reducible exact mono_qMin | with_reducible exact mono_qMax | with_reducible exact mono_qSorted | with_reducible exact mono_qSetL | with_reducible exact mono_qRepr | with_reducible exact mono_qIsI | with_reducible exact mono_qIn | with_reducible exact mono_qNotIn | with_reducible exact mono_qRev | with_reducible exact mono_qAt
    | with_reducible exact mono_oAppend | with_reducible exact mono_oInsert | with_reducible exact mono_oExtend | with_reducible exact mono_oPop | with_reducible exact mono_oPopAt
    | with_reducible refine mono_Seq ?_ ?_ | with_reducible refine mono_If ?_ ?_ ?_ | with_reducible refine mono_Ret ?_ | with_reducible refine mono_Exp ?_ | with_reducible refine mono_Asg ?_ ?_ | with_reducible refine mono_AsgI ?_ | with_reducible refine mono_Dct1 ?_ ?_ | with_reducible refine mono_DC ?_ ?_ ?_ ?_ ?_ | with_reducible refine mono_StD ?_ ?_ | with_reducible refine mono_For ?_ ?_ ?_ | with_reducible refine mono_While ?_ ?_ | with_reducible refine mono_Mut ?_ ?_ | with_reducible refine mono_StL ?_ ?_ | with_reducible refine mono_Par2 ?_ ?_ | with_reducible refine mono_Par3 ?_ ?_ ?_ | with_reducible refine mono_Raise ?_ | with_reducible refine mono_TryN ?_ ?_ | with_reducible exact mono_hnil | with_reducible exact mono_vPop | with_reducible exact mono_vPopAt | with_reducible refine mono_PopSet ?_ ?_ | with_reducible refine mono_AppPop ?_ ?_ | with_reducible refine mono_LstR ?_ | with_reducible refine mono_TupR ?_ | with_reducible refine mono_LstR2 ?_ ?_ | with_reducible refine mono_Idx ?_ ?_ | with_reducible refine mono_iZip ?_ ?_ | with_reducible refine mono_Chain ?_ ?_ ?_ ?_ ?_ | with_reducible refine mono_hcons ?_ ?_
    | with_reducible refine mono_Op ?_ ?_ ?_ | with_reducible refine mono_Un ?_ ?_ | with_reducible refine mono_Tst ?_ | with_reducible refine mono_And ?_ ?_ | with_reducible refine mono_Or ?_ ?_ | with_reducible refine mono_Not ?_ | with_reducible refine mono_AndV ?_ ?_ | with_reducible refine mono_OrV ?_ ?_ | with_reducible refine mono_NotV ?_ | with_reducible refine mono_IfE ?_ ?_ ?_
    | with_reducible refine mono_TupA ?_ | with_reducible refine mono_LstA ?_ | with_reducible refine mono_TupS ?_ | with_reducible refine mono_LstS ?_ | with_reducible refine mono_Cons ?_ ?_ | with_reducible refine mono_StarR3 ?_ ?_ | with_reducible refine mono_aStar ?_ ?_ | with_reducible refine mono_Call ?_ ?_ | with_reducible refine mono_CallP ?_ ?_ | with_reducible refine mono_Cut ?_ ?_ ?_ | with_reducible refine mono_oSome ?_ | with_reducible refine mono_LC ?_ ?_ ?_ ?_
    | with_reducible refine mono_iSeq ?_ | with_reducible refine mono_iEnum ?_ | with_reducible refine mono_iRng1 ?_ | with_reducible refine mono_iRng2 ?_ ?_ | with_reducible refine mono_gMore ?_ ?_ | with_reducible refine mono_gTp ?_)
theorem mono_sp_sum_of : MonoSp sp_sum_of := mono_spOf mf_sum_of
theorem fb_sum_of (T : Tx P K mg CT C4 C5) {A : Around} {outer : List PySem.Env} {s : Shared} {H : Hp} {E : XK} {cd : Value} {Γ : Fy.G} (i : In (cxD P w K mg base N_sum_of "sum_of" st_sum_of f0 cd A outer s H E) Γ (wOf E) CT 2) : FB (cxD P w K mg base N_sum_of "sum_of" st_sum_of f0 cd A outer s H E) Γ (wOf E) [] [] [] (defBody st_sum_of) f_sum_of :=
  let c := i.c
  (fb_one (fs_ret (fe_sum c T.b_sum ((fe_lc [("step", 1), ("times", 2)] c.nd (fi_seq c.hK (fe_ix c.hK (fs_var 0) (fe_int).sh)) (blk_ok (by rfl)) (fun b1 s1 H1 C1 l1 p1 => (fg_tup (fgs_cons (fg_name 1 (c.blk2 b1 s1 H1 _ _ p1).nd) (fgs_cons (fg_name 2 (c.blk2 b1 s1 H1 _ _ p1).nd) fgs_nil)) (len_nm (len_nm len_nil)))) (fun b1 s1 H1 C1 l1 p1 => fts_nil) (fun b1 s1 H1 C1 l1 p1 => (fe_mul (c.blk2 b1 s1 H1 _ _ p1) (fs_var 1) (fs_var 2))))).cl.sh)))
theorem def_sum_of (T : Tx P K mg CT C4 C5) (hm : mg "sum_of" = some (.ref f0)) (Fu : Fun K "sum_of" "sum_of" st_sum_of f0 fd) : Def P w K mg base CT "sum_of" st_sum_of P_sum_of 3 sp_sum_of :=
  def_of hm Fu sc_sum_of mf_sum_of fun A outer s H E cd Γ i => fb_sum_of T i
theorem mf_rows_of : MonoS f_rows_of := by
  unfold f_rows_of
  repeat' (first
    | with_reducible exact mono_C | with_reducible exact mono_Var | with_reducible exact mono_aNil | with_reducible exact mono_cYes | with_reducible exact mono_gNm | with_reducible exact mono_gNil | with_reducible exact mono_oNone | with_reducible exact mono_Nx | with_reducible exact mono_RetN | with_reducible exact mono_Brk | with_reducible exact mono_Cnt | with_reducible exact mono_spAny
    | with_reducible exact mono_qAdd | with_reducible exact mono_qAddL | with_reducible exact mono_qInK | with_reducible exact mono_qMinT | with_reducible exact mono_qSortR | with_reducible exact mono_qNotInK | with_reducible exact mono_qMulL | with_reducible exact mono_qSub | with_reducible exact mono_qMul | with_reducible exact mono_qDiv | with_reducible exact mono_qMod | with_reducible exact mono_qPow | with_reducible exact mono_qLt | with_reducible exact mono_qLe | with_reducible exact mono_qGt | with_reducible exact mono_qGe | with_reducible exact mono_qEq | with_reducible exact mono_qNe | with_reducible exact mono_qIs | with_reducible exact mono_qIsNot | with_reducible exact mono_qIx | with_reducible exact mono_qNeg
    | with_reducible exact mono_qLen | with_reducible exact mono_qInt | with_reducible exact mono_qAbs | with_reducible exact mono_qList | with_reducible exact mono_qTuple | with_reducible exact mono_qMax2 | with_reducible exact mono_qMin2 | with_reducible exact mono_qSum | with_reducible exact mono_qAll | with_reducible exact mono_qAny | with_reducible exact mono_qMin | with_reducible exact mono_qMax | with_reducible exact mono_qSorted | with_reducible exact mono_qSetL | with_reducible exact mono_qRepr | with_reducible exact mono_qIsI | with_reducible exact mono_qIn | with_reducible exact mono_qNotIn | with_reducible exact mono_qRev | with_reducible exact mono_qAt
    | with_reducible exact mono_oAppend | with_reducible exact mono_oInsert | with_reducible exact mono_oExtend | with_reducible exact mono_oPop | with_reducible exact mono_oPopAt | with_reducible exact mono_sp_rows_with | with_reducible exact mono_sp_sum_of
    | with_reducible refine mono_Seq ?_ ?_ | with_reducible refine mono_If ?_ ?_ ?_ | with_reducible refine mono_Ret ?_ | with_reducible refine mono_Exp ?_ | with_reducible refine mono_Asg ?_ ?_ | with_reducible refine mono_AsgI ?_ | with_reducible refine mono_Dct1 ?_ ?_ | with_reducible refine mono_DC ?_ ?_ ?_ ?_ ?_ | with_reducible refine mono_StD ?_ ?_ | with_reducible refine mono_For ?_ ?_ ?_ | with_reducible refine mono_While ?_ ?_ | with_reducible refine mono_Mut ?_ ?_ | with_reducible refine mono_StL ?_ ?_ | with_reducible refine mono_Par2 ?_ ?_ | with_reducible refine mono_Par3 ?_ ?_ ?_ | with_reducible refine mono_Raise ?_ | with_reducible refine mono_TryN ?_ ?_ | with_reducible exact mono_hnil | with_reducible exact mono_vPop | with_reducible exact mono_vPopAt | with_reducible refine mono_PopSet ?_ ?_ | with_reducible refine mono_AppPop ?_ ?_ | with_reducible refine mono_LstR ?_ | with_reducible refine mono_TupR ?_ | with_reducible refine mono_LstR2 ?_ ?_ | with_reducible refine mono_Idx ?_ ?_ | with_reducible refine mono_iZip ?_ ?_ | with_reducible refine mono_Chain ?_ ?_ ?_ ?_ ?_ | with_reducible refine mono_hcons ?_ ?_
    | with_reducible refine mono_Op ?_ ?_ ?_ | with_reducible refine mono_Un ?_ ?_ | with_reducible refine mono_Tst ?_ | with_reducible refine mono_And ?_ ?_ | with_reducible refine mono_Or ?_ ?_ | with_reducible refine mono_Not ?_ | with_reducible refine mono_AndV ?_ ?_ | with_reducible refine mono_OrV ?_ ?_ | with_reducible refine mono_NotV ?_ | with_reducible refine mono_IfE ?_ ?_ ?_
    | with_reducible refine mono_TupA ?_ | with_reducible refine mono_LstA ?_ | with_reducible refine mono_TupS ?_ | with_reducible refine mono_LstS ?_ | with_reducible refine mono_Cons ?_ ?_ | with_reducible refine mono_StarR3 ?_ ?_ | with_reducible refine mono_aStar ?_ ?_ | with_reducible refine mono_Call ?_ ?_ | with_reducible refine mono_CallP ?_ ?_ | with_reducible refine mono_Cut ?_ ?_ ?_ | with_reducible refine mono_oSome ?_ | with_reducible refine mono_LC ?_ ?_ ?_ ?_
    | with_reducible refine mono_iSeq ?_ | with_reducible refine mono_iEnum ?_ | with_reducible refine mono_iRng1 ?_ | with_reducible refine mono_iRng2 ?_ ?_ | with_reducible refine mono_gMore ?_ ?_ | with_reducible refine mono_gTp ?_)
theorem mono_sp_rows_of : MonoSp sp_rows_of := mono_spOf mf_rows_of
theorem fb_rows_of (T : Tx P K mg CT C4 C5) (D_rows_with : Def P w K mg base CT "rows_with" st_rows_with P_rows_with 5 sp_rows_with) (D_sum_of : Def P w K mg base CT "sum_of" st_sum_of P_sum_of 3 sp_sum_of) {A : Around} {outer : List PySem.Env} {s : Shared} {H : Hp} {E : XK} {cd : Value} {Γ : Fy.G} (i : In (cxD P w K mg base N_rows_of "rows_of" st_rows_of f0 cd A outer s H E) Γ (wOf E) CT 6) : FB (cxD P w K mg base N_rows_of "rows_of" st_rows_of f0 cd A outer s H E) Γ (wOf E) [] [] [] (defBody st_rows_of) f_rows_of :=
  let c := i.c
  (fb_one (fs_ret (fe_sortR c T.b_sorted ((fe_lc [("row", 1)] c.nd (fi_seq c.hK (fe_call c i.ct D_rows_with kw_rows_with (fa_cons fe_int (fa_cons (fe_var 0) fa_nil)))) (blk_ok (by rfl)) (fun b1 s1 H1 C1 l1 p1 => (fg_name 1 (c.blk2 b1 s1 H1 _ _ p1).nd)) (fun b1 s1 H1 C1 l1 p1 => (fts_one (fc_eq (c.blk2 b1 s1 H1 _ _ p1) ((fe_call (c.blk2 b1 s1 H1 _ _ p1) i.ct D_sum_of kw_sum_of (fa_cons (fe_var 1) fa_nil))).sh (fs_var 0)))) (fun b1 s1 H1 C1 l1 p1 => (fe_var 1)))).cl.sh)))
theorem def_rows_of (T : Tx P K mg CT C4 C5) (D_rows_with : Def P w K mg base CT "rows_with" st_rows_with P_rows_with 5 sp_rows_with) (D_sum_of : Def P w K mg base CT "sum_of" st_sum_of P_sum_of 3 sp_sum_of) (hm : mg "rows_of" = some (.ref f0)) (Fu : Fun K "rows_of" "rows_of" st_rows_of f0 fd) : Def P w K mg base CT "rows_of" st_rows_of P_rows_of 7 sp_rows_of :=
  def_of hm Fu sc_rows_of mf_rows_of fun A outer s H E cd Γ i => fb_rows_of T D_rows_with D_sum_of i
theorem mf_how_many : MonoS f_how_many := by
  unfold f_how_many
  repeat' (first
    | with_reducible exact mono_C | with_reducible exact mono_Var | with_reducible exact mono_aNil | with_reducible exact mono_cYes | with_reducible exact mono_gNm | with_reducible exact mono_gNil | with_reducible exact mono_oNone | with_reducible exact mono_Nx | with_reducible exact mono_RetN | with_reducible exact mono_Brk | with_reducible exact mono_Cnt | with_reducible exact mono_spAny
    | with_reducible exact mono_qAdd | with_reducible exact mono_qAddL | with_reducible exact mono_qInK | with_reducible exact mono_qMinT | with_reducible exact mono_qSortR | with_reducible exact mono_qNotInK | with_reducible exact mono_qMulL | with_reducible exact mono_qSub | with_reducible exact mono_qMul | with_reducible exact mono_qDiv | with_reducible exact mono_qMod | with_reducible exact mono_qPow | with_reducible exact mono_qLt | with_reducible exact mono_qLe | with_reducible exact mono_qGt | with_reducible exact mono_qGe | with_reducible exact mono_qEq | with_reducible exact mono_qNe | with_reducible exact mono_qIs | with_reducible exact mono_qIsNot | with_reducible exact mono_qIx | with_reducible exact mono_qNeg
    | with_reducible exact mono_qLen | with_reducible exact mono_qInt | with_reducible exact mono_qAbs | with_reducible exact mono_qList | with_reducible exact mono_qTuple | with_reducible exact mono_qMax2 | with_reducible exact mono_qMin2 | with_reducible exact mono_qSum | with_reducible exact mono_qAll | with_reducible exact mono_qAny | with_reducible exact mono_qMin | with_reducible exact mono_qMax | with_reducible exact mono_qSorted | with_reducible exact mono_qSetL | with_reducible exact mono_qRepr | with_reducible exact mono_qIsI | with_reducible exact mono_qIn | with_reducible exact mono_qNotIn | with_reducible exact mono_qRev | with_reducible exact mono_qAt
    | with_reducible exact mono_oAppend | with_reducible exact mono_oInsert | with_reducible exact mono_oExtend | with_reducible exact mono_oPop | with_reducible exact mono_oPopAt | with_reducible exact mono_sp_rows_of
    | with_reducible refine mono_Seq ?_ ?_ | with_reducible refine mono_If ?_ ?_ ?_ | with_reducible refine mono_Ret ?_ | with_reducible refine mono_Exp ?_ | with_reducible refine mono_Asg ?_ ?_ | with_reducible refine mono_AsgI ?_ | with_reducible refine mono_Dct1 ?_ ?_ | with_reducible refine mono_DC ?_ ?_ ?_ ?_ ?_ | with_reducible refine mono_StD ?_ ?_ | with_reducible refine mono_For ?_ ?_ ?_ | with_reducible refine mono_While ?_ ?_ | with_reducible refine mono_Mut ?_ ?_ | with_reducible refine mono_StL ?_ ?_ | with_reducible refine mono_Par2 ?_ ?_ | with_reducible refine mono_Par3 ?_ ?_ ?_ | with_reducible refine mono_Raise ?_ | with_reducible refine mono_TryN ?_ ?_ | with_reducible exact mono_hnil | with_reducible exact mono_vPop | with_reducible exact mono_vPopAt | with_reducible refine mono_PopSet ?_ ?_ | with_reducible refine mono_AppPop ?_ ?_ | with_reducible refine mono_LstR ?_ | with_reducible refine mono_TupR ?_ | with_reducible refine mono_LstR2 ?_ ?_ | with_reducible refine mono_Idx ?_ ?_ | with_reducible refine mono_iZip ?_ ?_ | with_reducible refine mono_Chain ?_ ?_ ?_ ?_ ?_ | with_reducible refine mono_hcons ?_ ?_
    | with_reducible refine mono_Op ?_ ?_ ?_ | with_reducible refine mono_Un ?_ ?_ | with_reducible refine mono_Tst ?_ | with_reducible refine mono_And ?_ ?_ | with_reducible refine mono_Or ?_ ?_ | with_reducible refine mono_Not ?_ | with_reducible refine mono_AndV ?_ ?_ | with_reducible refine mono_OrV ?_ ?_ | with_reducible refine mono_NotV ?_ | with_reducible refine mono_IfE ?_ ?_ ?_
    | with_reducible refine mono_TupA ?_ | with_reducible refine mono_LstA ?_ | with_reducible refine mono_TupS ?_ | with_reducible refine mono_LstS ?_ | with_reducible refine mono_Cons ?_ ?_ | with_reducible refine mono_StarR3 ?_ ?_ | with_reducible refine mono_aStar ?_ ?_ | with_reducible refine mono_Call ?_ ?_ | with_reducible refine mono_CallP ?_ ?_ | with_reducible refine mono_Cut ?_ ?_ ?_ | with_reducible refine mono_oSome ?_ | with_reducible refine mono_LC ?_ ?_ ?_ ?_
    | with_reducible refine mono_iSeq ?_ | with_reducible refine mono_iEnum ?_ | with_reducible refine mono_iRng1 ?_ | with_reducible refine mono_iRng2 ?_ ?_ | with_reducible refine mono_gMore ?_ ?_ | with_reducible refine mono_gTp ?_)
theorem mono_sp_how_many : MonoSp sp_how_many := mono_spOf mf_how_many
theorem fb_how_many (T : Tx P K mg CT C4 C5) (D_rows_of : Def P w K mg base CT "rows_of" st_rows_of P_rows_of 7 sp_rows_of) {A : Around} {outer : List PySem.Env} {s : Shared} {H : Hp} {E : XK} {cd : Value} {Γ : Fy.G} (i : In (cxD P w K mg base N_how_many "how_many" st_how_many f0 cd A outer s H E) Γ (wOf E) CT 8) : FB (cxD P w K mg base N_how_many "how_many" st_how_many f0 cd A outer s H E) Γ (wOf E) [] [] [] (defBody st_how_many) f_how_many :=
  let c := i.c
  (fb_one (fs_ret (fe_len c T.b_len ((fe_call c i.ct D_rows_of kw_rows_of (fa_cons (fe_var 0) fa_nil))).sh)))
theorem def_how_many (T : Tx P K mg CT C4 C5) (D_rows_of : Def P w K mg base CT "rows_of" st_rows_of P_rows_of 7 sp_rows_of) (hm : mg "how_many" = some (.ref f0)) (Fu : Fun K "how_many" "how_many" st_how_many f0 fd) : Def P w K mg base CT "how_many" st_how_many P_how_many 9 sp_how_many :=
  def_of hm Fu sc_how_many mf_how_many fun A outer s H E cd Γ i => fb_how_many T D_rows_of i
theorem mf_row_at : MonoS f_row_at := by
  unfold f_row_at
  repeat' (first
    | with_reducible exact mono_C | with_reducible exact mono_Var | with_reducible exact mono_aNil | with_reducible exact mono_cYes | with_reducible exact mono_gNm | with_reducible exact mono_gNil | with_reducible exact mono_oNone | with_reducible exact mono_Nx | with_reducible exact mono_RetN | with_reducible exact mono_Brk | with_reducible exact mono_Cnt | with_reducible exact mono_spAny
    | with_reducible exact mono_qAdd | with_reducible exact mono_qAddL | with_reducible exact mono_qInK | with_reducible exact mono_qMinT | with_reducible exact mono_qSortR | with_reducible exact mono_qNotInK | with_reducible exact mono_qMulL | with_reducible exact mono_qSub | with_reducible exact mono_qMul | with_reducible exact mono_qDiv | with_reducible exact mono_qMod | with_reducible exact mono_qPow | with_reducible exact mono_qLt | with_reducible exact mono_qLe | with_reducible exact mono_qGt | with_reducible exact mono_qGe | with_reducible exact mono_qEq | with_reducible exact mono_qNe | with_reducible exact mono_qIs | with_reducible exact mono_qIsNot | with_reducible exact mono_qIx | with_reducible exact mono_qNeg
    | with_reducible exact mono_qLen | with_reducible exact mono_qInt | with_reducible exact mono_qAbs | with_reducible exact mono_qList | with_reducible exact mono_qTuple | with_reducible exact mono_qMax2 | with_reducible exact mono_qMin2 | with_reducible exact mono_qSum | with_reducible exact mono_qAll | with_reducible exact mono_qAny | with_reducible exact mono_qMin | with_reducible exact mono_qMax | with_reducible exact mono_qSorted | with_reducible exact mono_qSetL | with_reducible exact mono_qRepr | with_reducible exact mono_qIsI | with_reducible exact mono_qIn | with_reducible exact mono_qNotIn | with_reducible exact mono_qRev | with_reducible exact mono_qAt
    | with_reducible exact mono_oAppend | with_reducible exact mono_oInsert | with_reducible exact mono_oExtend | with_reducible exact mono_oPop | with_reducible exact mono_oPopAt | with_reducible exact mono_sp_rows_of
    | with_reducible refine mono_Seq ?_ ?_ | with_reducible refine mono_If ?_ ?_ ?_ | with_reducible refine mono_Ret ?_ | with_reducible refine mono_Exp ?_ | with_reducible refine mono_Asg ?_ ?_ | with_reducible refine mono_AsgI ?_ | with_reducible refine mono_Dct1 ?_ ?_ | with_reducible refine mono_DC ?_ ?_ ?_ ?_ ?_ | with_reducible refine mono_StD ?_ ?_ | with_reducible refine mono_For ?_ ?_ ?_ | with_reducible refine mono_While ?_ ?_ | with_reducible refine mono_Mut ?_ ?_ | with_reducible refine mono_StL ?_ ?_ | with_reducible refine mono_Par2 ?_ ?_ | with_reducible refine mono_Par3 ?_ ?_ ?_ | with_reducible refine mono_Raise ?_ | with_reducible refine mono_TryN ?_ ?_ | with_reducible exact mono_hnil | with_reducible exact mono_vPop | with_reducible exact mono_vPopAt | with_reducible refine mono_PopSet ?_ ?_ | with_reducible refine mono_AppPop ?_ ?_ | with_reducible refine mono_LstR ?_ | with_reducible refine mono_TupR ?_ | with_reducible refine mono_LstR2 ?_ ?_ | with_reducible refine mono_Idx ?_ ?_ | with_reducible refine mono_iZip ?_ ?_ | with_reducible refine mono_Chain ?_ ?_ ?_ ?_ ?_ | with_reducible refine mono_hcons ?_ ?_
    | with_reducible refine mono_Op ?_ ?_ ?_ | with_reducible refine mono_Un ?_ ?_ | with_reducible refine mono_Tst ?_ | with_reducible refine mono_And ?_ ?_ | with_reducible refine mono_Or ?_ ?_ | with_reducible refine mono_Not ?_ | with_reducible refine mono_AndV ?_ ?_ | with_reducible refine mono_OrV ?_ ?_ | with_reducible refine mono_NotV ?_ | with_reducible refine mono_IfE ?_ ?_ ?_
    | with_reducible refine mono_TupA ?_ | with_reducible refine mono_LstA ?_ | with_reducible refine mono_TupS ?_ | with_reducible refine mono_LstS ?_ | with_reducible refine mono_Cons ?_ ?_ | with_reducible refine mono_StarR3 ?_ ?_ | with_reducible refine mono_aStar ?_ ?_ | with_reducible refine mono_Call ?_ ?_ | with_reducible refine mono_CallP ?_ ?_ | with_reducible refine mono_Cut ?_ ?_ ?_ | with_reducible refine mono_oSome ?_ | with_reducible refine mono_LC ?_ ?_ ?_ ?_
    | with_reducible refine mono_iSeq ?_ | with_reducible refine mono_iEnum ?_ | with_reducible refine mono_iRng1 ?_ | with_reducible refine mono_iRng2 ?_ ?_ | with_reducible refine mono_gMore ?_ ?_ | with_reducible refine mono_gTp ?_)
theorem mono_sp_row_at : MonoSp sp_row_at := mono_spOf mf_row_at
theorem fb_row_at (T : Tx P K mg CT C4 C5) (D_rows_of : Def P w K mg base CT "rows_of" st_rows_of P_rows_of 7 sp_rows_of) {A : Around} {outer : List PySem.Env} {s : Shared} {H : Hp} {E : XK} {cd : Value} {Γ : Fy.G} (i : In (cxD P w K mg base N_row_at "row_at" st_row_at f0 cd A outer s H E) Γ (wOf E) CT 8) : FB (cxD P w K mg base N_row_at "row_at" st_row_at f0 cd A outer s H E) Γ (wOf E) [] [] [] (defBody st_row_at) f_row_at :=
  let c := i.c
  (fb_cons (fs_set 2 (fe_call c i.ct D_rows_of kw_rows_of (fa_cons (fe_var 0) fa_nil)) c.nd) (fb_cons (fs_if (fc_ge c (fs_var 1) ((fe_len c T.b_len (fs_var 2))).sh) (fb_one (fs_raise 5 c (by rw [i.ct]; exact T.ct_Refused) T.e_Refused fe_int)) fb_nil) (fb_one (fs_ret (fe_ix c.hK (fs_var 2) (fs_var 1))))))
theorem def_row_at (T : Tx P K mg CT C4 C5) (D_rows_of : Def P w K mg base CT "rows_of" st_rows_of P_rows_of 7 sp_rows_of) (hm : mg "row_at" = some (.ref f0)) (Fu : Fun K "row_at" "row_at" st_row_at f0 fd) : Def P w K mg base CT "row_at" st_row_at P_row_at 9 sp_row_at :=
  def_of hm Fu sc_row_at mf_row_at fun A outer s H E cd Γ i => fb_row_at T D_rows_of i
theorem mf_index_of : MonoS f_index_of := by
  unfold f_index_of
  repeat' (first
    | with_reducible exact mono_C | with_reducible exact mono_Var | with_reducible exact mono_aNil | with_reducible exact mono_cYes | with_reducible exact mono_gNm | with_reducible exact mono_gNil | with_reducible exact mono_oNone | with_reducible exact mono_Nx | with_reducible exact mono_RetN | with_reducible exact mono_Brk | with_reducible exact mono_Cnt | with_reducible exact mono_spAny
    | with_reducible exact mono_qAdd | with_reducible exact mono_qAddL | with_reducible exact mono_qInK | with_reducible exact mono_qMinT | with_reducible exact mono_qSortR | with_reducible exact mono_qNotInK | with_reducible exact mono_qMulL | with_reducible exact mono_qSub | with_reducible exact mono_qMul | with_reducible exact mono_qDiv | with_reducible exact mono_qMod | with_reducible exact mono_qPow | with_reducible exact mono_qLt | with_reducible exact mono_qLe | with_reducible exact mono_qGt | with_reducible exact mono_qGe | with_reducible exact mono_qEq | with_reducible exact mono_qNe | with_reducible exact mono_qIs | with_reducible exact mono_qIsNot | with_reducible exact mono_qIx | with_reducible exact mono_qNeg
    | with_reducible exact mono_qLen | with_reducible exact mono_qInt | with_reducible exact mono_qAbs | with_reducible exact mono_qList | with_reducible exact mono_qTuple | with_reducible exact mono_qMax2 | with_reducible exact mono_qMin2 | with_reducible exact mono_qSum | with_reducible exact mono_qAll | with_reducible exact mono_qAny | with_reducible exact mono_qMin | with_reducible exact mono_qMax | with_reducible exact mono_qSorted | with_reducible exact mono_qSetL | with_reducible exact mono_qRepr | with_reducible exact mono_qIsI | with_reducible exact mono_qIn | with_reducible exact mono_qNotIn | with_reducible exact mono_qRev | with_reducible exact mono_qAt
    | with_reducible exact mono_oAppend | with_reducible exact mono_oInsert | with_reducible exact mono_oExtend | with_reducible exact mono_oPop | with_reducible exact mono_oPopAt | with_reducible exact mono_sp_sum_of | with_reducible exact mono_sp_checked_falling | with_reducible exact mono_sp_rows_of
    | with_reducible refine mono_Seq ?_ ?_ | with_reducible refine mono_If ?_ ?_ ?_ | with_reducible refine mono_Ret ?_ | with_reducible refine mono_Exp ?_ | with_reducible refine mono_Asg ?_ ?_ | with_reducible refine mono_AsgI ?_ | with_reducible refine mono_Dct1 ?_ ?_ | with_reducible refine mono_DC ?_ ?_ ?_ ?_ ?_ | with_reducible refine mono_StD ?_ ?_ | with_reducible refine mono_For ?_ ?_ ?_ | with_reducible refine mono_While ?_ ?_ | with_reducible refine mono_Mut ?_ ?_ | with_reducible refine mono_StL ?_ ?_ | with_reducible refine mono_Par2 ?_ ?_ | with_reducible refine mono_Par3 ?_ ?_ ?_ | with_reducible refine mono_Raise ?_ | with_reducible refine mono_TryN ?_ ?_ | with_reducible exact mono_hnil | with_reducible exact mono_vPop | with_reducible exact mono_vPopAt | with_reducible refine mono_PopSet ?_ ?_ | with_reducible refine mono_AppPop ?_ ?_ | with_reducible refine mono_LstR ?_ | with_reducible refine mono_TupR ?_ | with_reducible refine mono_LstR2 ?_ ?_ | with_reducible refine mono_Idx ?_ ?_ | with_reducible refine mono_iZip ?_ ?_ | with_reducible refine mono_Chain ?_ ?_ ?_ ?_ ?_ | with_reducible refine mono_hcons ?_ ?_
    | with_reducible refine mono_Op ?_ ?_ ?_ | with_reducible refine mono_Un ?_ ?_ | with_reducible refine mono_Tst ?_ | with_reducible refine mono_And ?_ ?_ | with_reducible refine mono_Or ?_ ?_ | with_reducible refine mono_Not ?_ | with_reducible refine mono_AndV ?_ ?_ | with_reducible refine mono_OrV ?_ ?_ | with_reducible refine mono_NotV ?_ | with_reducible refine mono_IfE ?_ ?_ ?_
    | with_reducible refine mono_TupA ?_ | with_reducible refine mono_LstA ?_ | with_reducible refine mono_TupS ?_ | with_reducible refine mono_LstS ?_ | with_reducible refine mono_Cons ?_ ?_ | with_reducible refine mono_StarR3 ?_ ?_ | with_reducible refine mono_aStar ?_ ?_ | with_reducible refine mono_Call ?_ ?_ | with_reducible refine mono_CallP ?_ ?_ | with_reducible refine mono_Cut ?_ ?_ ?_ | with_reducible refine mono_oSome ?_ | with_reducible refine mono_LC ?_ ?_ ?_ ?_
    | with_reducible refine mono_iSeq ?_ | with_reducible refine mono_iEnum ?_ | with_reducible refine mono_iRng1 ?_ | with_reducible refine mono_iRng2 ?_ ?_ | with_reducible refine mono_gMore ?_ ?_ | with_reducible refine mono_gTp ?_)
theorem mono_sp_index_of : MonoSp sp_index_of := mono_spOf mf_index_of
theorem fb_index_of (T : Tx P K mg CT C4 C5) (D_sum_of : Def P w K mg base CT "sum_of" st_sum_of P_sum_of 3 sp_sum_of) (D_checked_falling : Def P w K mg base CT "checked_falling" st_checked_falling P_checked_falling 11 sp_checked_falling) (D_rows_of : Def P w K mg base CT "rows_of" st_rows_of P_rows_of 7 sp_rows_of) {A : Around} {outer : List PySem.Env} {s : Shared} {H : Hp} {E : XK} {cd : Value} {Γ : Fy.G} (i : In (cxD P w K mg base N_index_of "index_of" st_index_of f0 cd A outer s H E) Γ (wOf E) CT 12) : FB (cxD P w K mg base N_index_of "index_of" st_index_of f0 cd A outer s H E) Γ (wOf E) [] [] [] (defBody st_index_of) f_index_of :=
  let c := i.c
  (fb_cons (fs_set 1 (fe_call c i.ct D_sum_of kw_sum_of (fa_cons (fe_call c i.ct D_checked_falling kw_checked_falling (fa_cons (fe_var 0) fa_nil)) fa_nil)) c.nd) (fb_cons (fs_if ((fw_or (fc_ne c ((fe_ix c.hK (fs_var 0) (fe_int).sh)).sh (fe_int).sh) (fw_or1 (fc_gt c (fs_var 1) (fe_int).sh)))).toC (fb_one (fs_raise 5 c (by rw [i.ct]; exact T.ct_Refused) T.e_Refused fe_int)) fb_nil) (fb_one (fs_ret (fe_index c ((fe_call c i.ct D_rows_of kw_rows_of (fa_cons (fe_var 1) fa_nil))).sh (fs_var 0))))))
theorem def_index_of (T : Tx P K mg CT C4 C5) (D_sum_of : Def P w K mg base CT "sum_of" st_sum_of P_sum_of 3 sp_sum_of) (D_checked_falling : Def P w K mg base CT "checked_falling" st_checked_falling P_checked_falling 11 sp_checked_falling) (D_rows_of : Def P w K mg base CT "rows_of" st_rows_of P_rows_of 7 sp_rows_of) (hm : mg "index_of" = some (.ref f0)) (Fu : Fun K "index_of" "index_of" st_index_of f0 fd) : Def P w K mg base CT "index_of" st_index_of P_index_of 13 sp_index_of :=
  def_of hm Fu sc_index_of mf_index_of fun A outer s H E cd Γ i => fb_index_of T D_sum_of D_checked_falling D_rows_of i
theorem mf__law_draw : MonoS f__law_draw := by
  unfold f__law_draw
  repeat' (first
    | with_reducible exact mono_C | with_reducible exact mono_Var | with_reducible exact mono_aNil | with_reducible exact mono_cYes | with_reducible exact mono_gNm | with_reducible exact mono_gNil | with_reducible exact mono_oNone | with_reducible exact mono_Nx | with_reducible exact mono_RetN | with_reducible exact mono_Brk | with_reducible exact mono_Cnt | with_reducible exact mono_spAny
    | with_reducible exact mono_qAdd | with_reducible exact mono_qAddL | with_reducible exact mono_qInK | with_reducible exact mono_qMinT | with_reducible exact mono_qSortR | with_reducible exact mono_qNotInK | with_reducible exact mono_qMulL | with_reducible exact mono_qSub | with_reducible exact mono_qMul | with_reducible exact mono_qDiv | with_reducible exact mono_qMod | with_reducible exact mono_qPow | with_reducible exact mono_qLt | with_reducible exact mono_qLe | with_reducible exact mono_qGt | with_reducible exact mono_qGe | with_reducible exact mono_qEq | with_reducible exact mono_qNe | with_reducible exact mono_qIs | with_reducible exact mono_qIsNot | with_reducible exact mono_qIx | with_reducible exact mono_qNeg
    | with_reducible exact mono_qLen | with_reducible exact mono_qInt | with_reducible exact mono_qAbs | with_reducible exact mono_qList | with_reducible exact mono_qTuple | with_reducible exact mono_qMax2 | with_reducible exact mono_qMin2 | with_reducible exact mono_qSum | with_reducible exact mono_qAll | with_reducible exact mono_qAny | with_reducible exact mono_qMin | with_reducible exact mono_qMax | with_reducible exact mono_qSorted | with_reducible exact mono_qSetL | with_reducible exact mono_qRepr | with_reducible exact mono_qIsI | with_reducible exact mono_qIn | with_reducible exact mono_qNotIn | with_reducible exact mono_qRev | with_reducible exact mono_qAt
    | with_reducible exact mono_oAppend | with_reducible exact mono_oInsert | with_reducible exact mono_oExtend | with_reducible exact mono_oPop | with_reducible exact mono_oPopAt
    | with_reducible refine mono_Seq ?_ ?_ | with_reducible refine mono_If ?_ ?_ ?_ | with_reducible refine mono_Ret ?_ | with_reducible refine mono_Exp ?_ | with_reducible refine mono_Asg ?_ ?_ | with_reducible refine mono_AsgI ?_ | with_reducible refine mono_Dct1 ?_ ?_ | with_reducible refine mono_DC ?_ ?_ ?_ ?_ ?_ | with_reducible refine mono_StD ?_ ?_ | with_reducible refine mono_For ?_ ?_ ?_ | with_reducible refine mono_While ?_ ?_ | with_reducible refine mono_Mut ?_ ?_ | with_reducible refine mono_StL ?_ ?_ | with_reducible refine mono_Par2 ?_ ?_ | with_reducible refine mono_Par3 ?_ ?_ ?_ | with_reducible refine mono_Raise ?_ | with_reducible refine mono_TryN ?_ ?_ | with_reducible exact mono_hnil | with_reducible exact mono_vPop | with_reducible exact mono_vPopAt | with_reducible refine mono_PopSet ?_ ?_ | with_reducible refine mono_AppPop ?_ ?_ | with_reducible refine mono_LstR ?_ | with_reducible refine mono_TupR ?_ | with_reducible refine mono_LstR2 ?_ ?_ | with_reducible refine mono_Idx ?_ ?_ | with_reducible refine mono_iZip ?_ ?_ | with_reducible refine mono_Chain ?_ ?_ ?_ ?_ ?_ | with_reducible refine mono_hcons ?_ ?_
    | with_reducible refine mono_Op ?_ ?_ ?_ | with_reducible refine mono_Un ?_ ?_ | with_reducible refine mono_Tst ?_ | with_reducible refine mono_And ?_ ?_ | with_reducible refine mono_Or ?_ ?_ | with_reducible refine mono_Not ?_ | with_reducible refine mono_AndV ?_ ?_ | with_reducible refine mono_OrV ?_ ?_ | with_reducible refine mono_NotV ?_ | with_reducible refine mono_IfE ?_ ?_ ?_
    | with_reducible refine mono_TupA ?_ | with_reducible refine mono_LstA ?_ | with_reducible refine mono_TupS ?_ | with_reducible refine mono_LstS ?_ | with_reducible refine mono_Cons ?_ ?_ | with_reducible refine mono_StarR3 ?_ ?_ | with_reducible refine mono_aStar ?_ ?_ | with_reducible refine mono_Call ?_ ?_ | with_reducible refine mono_CallP ?_ ?_ | with_reducible refine mono_Cut ?_ ?_ ?_ | with_reducible refine mono_oSome ?_ | with_reducible refine mono_LC ?_ ?_ ?_ ?_
    | with_reducible refine mono_iSeq ?_ | with_reducible refine mono_iEnum ?_ | with_reducible refine mono_iRng1 ?_ | with_reducible refine mono_iRng2 ?_ ?_ | with_reducible refine mono_gMore ?_ ?_ | with_reducible refine mono_gTp ?_)
theorem mono_sp__law_draw : MonoSp sp__law_draw := mono_spOf mf__law_draw
theorem fb__law_draw (T : Tx P K mg CT C4 C5) {A : Around} {outer : List PySem.Env} {s : Shared} {H : Hp} {E : XK} {cd : Value} {Γ : Fy.G} (i : In (cxD P w K mg base N__law_draw "_law_draw" st__law_draw f0 cd A outer s H E) Γ (wOf E) CT 2) : FB (cxD P w K mg base N__law_draw "_law_draw" st__law_draw f0 cd A outer s H E) Γ (wOf E) [] [] [] (defBody st__law_draw) f__law_draw :=
  let c := i.c
  (fb_cons (FSt.post (O2 := []) (fs_setLc 2 [("_law_cell", 4)] c (fi_seq c.hK (fe_cut c.hK (fs_var 0) fo_none (fo_some fe_int))) (blk_ok (by rfl)) (fun b1 s1 H1 C1 l1 p1 => (fg_name 4 (c.blk2 b1 s1 H1 _ _ p1).nd)) (fun b1 s1 H1 C1 l1 p1 => fts_nil) (fun b1 s1 H1 C1 l1 p1 => (fe_abs (c.blk2 b1 s1 H1 _ _ p1) T.b_abs ((fe_toint (c.blk2 b1 s1 H1 _ _ p1) T.b_int (fs_var 4))).sh)))) (fb_cons (fs_set 3 (fe_add c (fe_int).sh ((fe_mul c (fe_int).sh (fs_var 1))).sh) c.nd) (fb_cons (fs_for i.po (fi_seq c.hK (fe_var 2)) (fg_name 4 c.nd) (fb_one (fs_set 3 (fe_mod c ((fe_toint c T.b_int ((fe_add c ((fe_add c ((fe_mul c (fs_var 3) (fe_int).sh)).sh ((fe_mod c (fs_var 4) (fe_int).sh)).sh)).sh (fe_int).sh)).sh)).sh (fe_int).sh) c.nd))) (fb_one (fs_ret ((fe_lstF (fa_cons (fe_rev c.hK ((fe_lc [("_law_cell", 4)] c.nd (fi_seq c.hK (fe_var 2)) (blk_ok (by rfl)) (fun b1 s1 H1 C1 l1 p1 => (fg_name 4 (c.blk2 b1 s1 H1 _ _ p1).nd)) (fun b1 s1 H1 C1 l1 p1 => (fts_one (fc_ge (c.blk2 b1 s1 H1 _ _ p1) (fs_var 4) ((fe_pow (c.blk2 b1 s1 H1 _ _ p1) (fe_int).sh (fe_int).sh)).sh))) (fun b1 s1 H1 C1 l1 p1 => (fe_var 4)))).cl.sh) (fa_cons (fe_var 3) fa_nil)))).cl)))))
theorem def__law_draw (T : Tx P K mg CT C4 C5) (hm : mg "_law_draw" = some (.ref f0)) (Fu : Fun K "_law_draw" "_law_draw" st__law_draw f0 fd) : Def P w K mg base CT "_law_draw" st__law_draw P__law_draw 3 sp__law_draw :=
  def_of hm Fu sc__law_draw mf__law_draw fun A outer s H E cd Γ i => fb__law_draw T i
theorem mf__law_of : MonoS f__law_of := by
  unfold f__law_of
  repeat' (first
    | with_reducible exact mono_C | with_reducible exact mono_Var | with_reducible exact mono_aNil | with_reducible exact mono_cYes | with_reducible exact mono_gNm | with_reducible exact mono_gNil | with_reducible exact mono_oNone | with_reducible exact mono_Nx | with_reducible exact mono_RetN | with_reducible exact mono_Brk | with_reducible exact mono_Cnt | with_reducible exact mono_spAny
    | with_reducible exact mono_qAdd | with_reducible exact mono_qAddL | with_reducible exact mono_qInK | with_reducible exact mono_qMinT | with_reducible exact mono_qSortR | with_reducible exact mono_qNotInK | with_reducible exact mono_qMulL | with_reducible exact mono_qSub | with_reducible exact mono_qMul | with_reducible exact mono_qDiv | with_reducible exact mono_qMod | with_reducible exact mono_qPow | with_reducible exact mono_qLt | with_reducible exact mono_qLe | with_reducible exact mono_qGt | with_reducible exact mono_qGe | with_reducible exact mono_qEq | with_reducible exact mono_qNe | with_reducible exact mono_qIs | with_reducible exact mono_qIsNot | with_reducible exact mono_qIx | with_reducible exact mono_qNeg
    | with_reducible exact mono_qLen | with_reducible exact mono_qInt | with_reducible exact mono_qAbs | with_reducible exact mono_qList | with_reducible exact mono_qTuple | with_reducible exact mono_qMax2 | with_reducible exact mono_qMin2 | with_reducible exact mono_qSum | with_reducible exact mono_qAll | with_reducible exact mono_qAny | with_reducible exact mono_qMin | with_reducible exact mono_qMax | with_reducible exact mono_qSorted | with_reducible exact mono_qSetL | with_reducible exact mono_qRepr | with_reducible exact mono_qIsI | with_reducible exact mono_qIn | with_reducible exact mono_qNotIn | with_reducible exact mono_qRev | with_reducible exact mono_qAt
    | with_reducible exact mono_oAppend | with_reducible exact mono_oInsert | with_reducible exact mono_oExtend | with_reducible exact mono_oPop | with_reducible exact mono_oPopAt | with_reducible exact mono_sp__law_any
    | with_reducible refine mono_Seq ?_ ?_ | with_reducible refine mono_If ?_ ?_ ?_ | with_reducible refine mono_Ret ?_ | with_reducible refine mono_Exp ?_ | with_reducible refine mono_Asg ?_ ?_ | with_reducible refine mono_AsgI ?_ | with_reducible refine mono_Dct1 ?_ ?_ | with_reducible refine mono_DC ?_ ?_ ?_ ?_ ?_ | with_reducible refine mono_StD ?_ ?_ | with_reducible refine mono_For ?_ ?_ ?_ | with_reducible refine mono_While ?_ ?_ | with_reducible refine mono_Mut ?_ ?_ | with_reducible refine mono_StL ?_ ?_ | with_reducible refine mono_Par2 ?_ ?_ | with_reducible refine mono_Par3 ?_ ?_ ?_ | with_reducible refine mono_Raise ?_ | with_reducible refine mono_TryN ?_ ?_ | with_reducible exact mono_hnil | with_reducible exact mono_vPop | with_reducible exact mono_vPopAt | with_reducible refine mono_PopSet ?_ ?_ | with_reducible refine mono_AppPop ?_ ?_ | with_reducible refine mono_LstR ?_ | with_reducible refine mono_TupR ?_ | with_reducible refine mono_LstR2 ?_ ?_ | with_reducible refine mono_Idx ?_ ?_ | with_reducible refine mono_iZip ?_ ?_ | with_reducible refine mono_Chain ?_ ?_ ?_ ?_ ?_ | with_reducible refine mono_hcons ?_ ?_
    | with_reducible refine mono_Op ?_ ?_ ?_ | with_reducible refine mono_Un ?_ ?_ | with_reducible refine mono_Tst ?_ | with_reducible refine mono_And ?_ ?_ | with_reducible refine mono_Or ?_ ?_ | with_reducible refine mono_Not ?_ | with_reducible refine mono_AndV ?_ ?_ | with_reducible refine mono_OrV ?_ ?_ | with_reducible refine mono_NotV ?_ | with_reducible refine mono_IfE ?_ ?_ ?_
    | with_reducible refine mono_TupA ?_ | with_reducible refine mono_LstA ?_ | with_reducible refine mono_TupS ?_ | with_reducible refine mono_LstS ?_ | with_reducible refine mono_Cons ?_ ?_ | with_reducible refine mono_StarR3 ?_ ?_ | with_reducible refine mono_aStar ?_ ?_ | with_reducible refine mono_Call ?_ ?_ | with_reducible refine mono_CallP ?_ ?_ | with_reducible refine mono_Cut ?_ ?_ ?_ | with_reducible refine mono_oSome ?_ | with_reducible refine mono_LC ?_ ?_ ?_ ?_
    | with_reducible refine mono_iSeq ?_ | with_reducible refine mono_iEnum ?_ | with_reducible refine mono_iRng1 ?_ | with_reducible refine mono_iRng2 ?_ ?_ | with_reducible refine mono_gMore ?_ ?_ | with_reducible refine mono_gTp ?_)
theorem mono_sp__law_of : MonoSp sp__law_of := mono_spOf mf__law_of
theorem fb__law_of (T : Tx P K mg CT C4 C5) (D__law_any : Def P w K mg base CT "_law_any" st__law_any P__law_any 1 sp__law_any) {A : Around} {outer : List PySem.Env} {s : Shared} {H : Hp} {E : XK} {cd : Value} {Γ : Fy.G} (i : In (cxD P w K mg base N__law_of "_law_of" st__law_of f0 cd A outer s H E) Γ (wOf E) CT 2) : FB (cxD P w K mg base N__law_of "_law_of" st__law_of f0 cd A outer s H E) Γ (wOf E) [] [] [] (defBody st__law_of) f__law_of :=
  let c := i.c
  (fb_one (fs_ret (fe_ix c.hK (fs_var 1) ((fe_call c i.ct D__law_any kw__law_any (fa_cons (fe_var 0) (fa_cons (fe_len c T.b_len (fs_var 1)) fa_nil)))).sh)))
theorem def__law_of (T : Tx P K mg CT C4 C5) (D__law_any : Def P w K mg base CT "_law_any" st__law_any P__law_any 1 sp__law_any) (hm : mg "_law_of" = some (.ref f0)) (Fu : Fun K "_law_of" "_law_of" st__law_of f0 fd) : Def P w K mg base CT "_law_of" st__law_of P__law_of 3 sp__law_of :=
  def_of hm Fu sc__law_of mf__law_of fun A outer s H E cd Γ i => fb__law_of T D__law_any i
theorem mf__law_in : MonoS f__law_in := by
  unfold f__law_in
  repeat' (first
    | with_reducible exact mono_C | with_reducible exact mono_Var | with_reducible exact mono_aNil | with_reducible exact mono_cYes | with_reducible exact mono_gNm | with_reducible exact mono_gNil | with_reducible exact mono_oNone | with_reducible exact mono_Nx | with_reducible exact mono_RetN | with_reducible exact mono_Brk | with_reducible exact mono_Cnt | with_reducible exact mono_spAny
    | with_reducible exact mono_qAdd | with_reducible exact mono_qAddL | with_reducible exact mono_qInK | with_reducible exact mono_qMinT | with_reducible exact mono_qSortR | with_reducible exact mono_qNotInK | with_reducible exact mono_qMulL | with_reducible exact mono_qSub | with_reducible exact mono_qMul | with_reducible exact mono_qDiv | with_reducible exact mono_qMod | with_reducible exact mono_qPow | with_reducible exact mono_qLt | with_reducible exact mono_qLe | with_reducible exact mono_qGt | with_reducible exact mono_qGe | with_reducible exact mono_qEq | with_reducible exact mono_qNe | with_reducible exact mono_qIs | with_reducible exact mono_qIsNot | with_reducible exact mono_qIx | with_reducible exact mono_qNeg
    | with_reducible exact mono_qLen | with_reducible exact mono_qInt | with_reducible exact mono_qAbs | with_reducible exact mono_qList | with_reducible exact mono_qTuple | with_reducible exact mono_qMax2 | with_reducible exact mono_qMin2 | with_reducible exact mono_qSum | with_reducible exact mono_qAll | with_reducible exact mono_qAny | with_reducible exact mono_qMin | with_reducible exact mono_qMax | with_reducible exact mono_qSorted | with_reducible exact mono_qSetL | with_reducible exact mono_qRepr | with_reducible exact mono_qIsI | with_reducible exact mono_qIn | with_reducible exact mono_qNotIn | with_reducible exact mono_qRev | with_reducible exact mono_qAt
    | with_reducible exact mono_oAppend | with_reducible exact mono_oInsert | with_reducible exact mono_oExtend | with_reducible exact mono_oPop | with_reducible exact mono_oPopAt
    | with_reducible refine mono_Seq ?_ ?_ | with_reducible refine mono_If ?_ ?_ ?_ | with_reducible refine mono_Ret ?_ | with_reducible refine mono_Exp ?_ | with_reducible refine mono_Asg ?_ ?_ | with_reducible refine mono_AsgI ?_ | with_reducible refine mono_Dct1 ?_ ?_ | with_reducible refine mono_DC ?_ ?_ ?_ ?_ ?_ | with_reducible refine mono_StD ?_ ?_ | with_reducible refine mono_For ?_ ?_ ?_ | with_reducible refine mono_While ?_ ?_ | with_reducible refine mono_Mut ?_ ?_ | with_reducible refine mono_StL ?_ ?_ | with_reducible refine mono_Par2 ?_ ?_ | with_reducible refine mono_Par3 ?_ ?_ ?_ | with_reducible refine mono_Raise ?_ | with_reducible refine mono_TryN ?_ ?_ | with_reducible exact mono_hnil | with_reducible exact mono_vPop | with_reducible exact mono_vPopAt | with_reducible refine mono_PopSet ?_ ?_ | with_reducible refine mono_AppPop ?_ ?_ | with_reducible refine mono_LstR ?_ | with_reducible refine mono_TupR ?_ | with_reducible refine mono_LstR2 ?_ ?_ | with_reducible refine mono_Idx ?_ ?_ | with_reducible refine mono_iZip ?_ ?_ | with_reducible refine mono_Chain ?_ ?_ ?_ ?_ ?_ | with_reducible refine mono_hcons ?_ ?_
    | with_reducible refine mono_Op ?_ ?_ ?_ | with_reducible refine mono_Un ?_ ?_ | with_reducible refine mono_Tst ?_ | with_reducible refine mono_And ?_ ?_ | with_reducible refine mono_Or ?_ ?_ | with_reducible refine mono_Not ?_ | with_reducible refine mono_AndV ?_ ?_ | with_reducible refine mono_OrV ?_ ?_ | with_reducible refine mono_NotV ?_ | with_reducible refine mono_IfE ?_ ?_ ?_
    | with_reducible refine mono_TupA ?_ | with_reducible refine mono_LstA ?_ | with_reducible refine mono_TupS ?_ | with_reducible refine mono_LstS ?_ | with_reducible refine mono_Cons ?_ ?_ | with_reducible refine mono_StarR3 ?_ ?_ | with_reducible refine mono_aStar ?_ ?_ | with_reducible refine mono_Call ?_ ?_ | with_reducible refine mono_CallP ?_ ?_ | with_reducible refine mono_Cut ?_ ?_ ?_ | with_reducible refine mono_oSome ?_ | with_reducible refine mono_LC ?_ ?_ ?_ ?_
    | with_reducible refine mono_iSeq ?_ | with_reducible refine mono_iEnum ?_ | with_reducible refine mono_iRng1 ?_ | with_reducible refine mono_iRng2 ?_ ?_ | with_reducible refine mono_gMore ?_ ?_ | with_reducible refine mono_gTp ?_)
theorem mono_sp__law_in : MonoSp sp__law_in := mono_spOf mf__law_in
theorem fb__law_in (T : Tx P K mg CT C4 C5) {A : Around} {outer : List PySem.Env} {s : Shared} {H : Hp} {E : XK} {cd : Value} {Γ : Fy.G} (i : In (cxD P w K mg base N__law_in "_law_in" st__law_in f0 cd A outer s H E) Γ (wOf E) CT 2) : FB (cxD P w K mg base N__law_in "_law_in" st__law_in f0 cd A outer s H E) Γ (wOf E) [] [] [] (defBody st__law_in) f__law_in :=
  let c := i.c
  (fb_cons (fs_set 2 fe_int c.nd) (fb_cons (fs_for i.po (fi_seq c.hK (fe_ix c.hK (fs_var 0) (fe_int).sh)) (fg_tup (fgs_cons (fg_name 3 c.nd) (fgs_cons (fg_name 4 c.nd) fgs_nil)) (len_nm (len_nm len_nil))) (fb_cons (fs_if (fc_le c (fs_var 1) ((fe_add c (fs_var 2) ((fe_mul c (fs_var 3) (fs_var 4))).sh)).sh) (fb_one (fs_ret (fe_eq c ((fe_mod c ((fe_toint c T.b_int ((fe_sub c (fs_var 1) (fs_var 2))).sh)).sh (fs_var 3))).sh (fe_int).sh))) fb_nil) (fb_one (fs_set 2 (fe_add c (fs_var 2) ((fe_mul c (fs_var 3) (fs_var 4))).sh) c.nd)))) (fb_one (fs_ret (fe_ifE (fc_eq c ((fe_ix c.hK (fs_var 0) (fe_int).sh)).sh (fe_int).sh) (fe_eq c (fs_var 1) (fs_var 2)) (fe_eq c ((fe_mod c ((fe_toint c T.b_int ((fe_sub c (fs_var 1) (fs_var 2))).sh)).sh ((fe_ix c.hK (fs_var 0) (fe_int).sh)).sh)).sh (fe_int).sh))))))
theorem def__law_in (T : Tx P K mg CT C4 C5) (hm : mg "_law_in" = some (.ref f0)) (Fu : Fun K "_law_in" "_law_in" st__law_in f0 fd) : Def P w K mg base CT "_law_in" st__law_in P__law_in 3 sp__law_in :=
  def_of hm Fu sc__law_in mf__law_in fun A outer s H E cd Γ i => fb__law_in T i
theorem mf__law_euclid : MonoS f__law_euclid := by
  unfold f__law_euclid
  repeat' (first
    | with_reducible exact mono_C | with_reducible exact mono_Var | with_reducible exact mono_aNil | with_reducible exact mono_cYes | with_reducible exact mono_gNm | with_reducible exact mono_gNil | with_reducible exact mono_oNone | with_reducible exact mono_Nx | with_reducible exact mono_RetN | with_reducible exact mono_Brk | with_reducible exact mono_Cnt | with_reducible exact mono_spAny
    | with_reducible exact mono_qAdd | with_reducible exact mono_qAddL | with_reducible exact mono_qInK | with_reducible exact mono_qMinT | with_reducible exact mono_qSortR | with_reducible exact mono_qNotInK | with_reducible exact mono_qMulL | with_reducible exact mono_qSub | with_reducible exact mono_qMul | with_reducible exact mono_qDiv | with_reducible exact mono_qMod | with_reducible exact mono_qPow | with_reducible exact mono_qLt | with_reducible exact mono_qLe | with_reducible exact mono_qGt | with_reducible exact mono_qGe | with_reducible exact mono_qEq | with_reducible exact mono_qNe | with_reducible exact mono_qIs | with_reducible exact mono_qIsNot | with_reducible exact mono_qIx | with_reducible exact mono_qNeg
    | with_reducible exact mono_qLen | with_reducible exact mono_qInt | with_reducible exact mono_qAbs | with_reducible exact mono_qList | with_reducible exact mono_qTuple | with_reducible exact mono_qMax2 | with_reducible exact mono_qMin2 | with_reducible exact mono_qSum | with_reducible exact mono_qAll | with_reducible exact mono_qAny | with_reducible exact mono_qMin | with_reducible exact mono_qMax | with_reducible exact mono_qSorted | with_reducible exact mono_qSetL | with_reducible exact mono_qRepr | with_reducible exact mono_qIsI | with_reducible exact mono_qIn | with_reducible exact mono_qNotIn | with_reducible exact mono_qRev | with_reducible exact mono_qAt
    | with_reducible exact mono_oAppend | with_reducible exact mono_oInsert | with_reducible exact mono_oExtend | with_reducible exact mono_oPop | with_reducible exact mono_oPopAt
    | with_reducible refine mono_Seq ?_ ?_ | with_reducible refine mono_If ?_ ?_ ?_ | with_reducible refine mono_Ret ?_ | with_reducible refine mono_Exp ?_ | with_reducible refine mono_Asg ?_ ?_ | with_reducible refine mono_AsgI ?_ | with_reducible refine mono_Dct1 ?_ ?_ | with_reducible refine mono_DC ?_ ?_ ?_ ?_ ?_ | with_reducible refine mono_StD ?_ ?_ | with_reducible refine mono_For ?_ ?_ ?_ | with_reducible refine mono_While ?_ ?_ | with_reducible refine mono_Mut ?_ ?_ | with_reducible refine mono_StL ?_ ?_ | with_reducible refine mono_Par2 ?_ ?_ | with_reducible refine mono_Par3 ?_ ?_ ?_ | with_reducible refine mono_Raise ?_ | with_reducible refine mono_TryN ?_ ?_ | with_reducible exact mono_hnil | with_reducible exact mono_vPop | with_reducible exact mono_vPopAt | with_reducible refine mono_PopSet ?_ ?_ | with_reducible refine mono_AppPop ?_ ?_ | with_reducible refine mono_LstR ?_ | with_reducible refine mono_TupR ?_ | with_reducible refine mono_LstR2 ?_ ?_ | with_reducible refine mono_Idx ?_ ?_ | with_reducible refine mono_iZip ?_ ?_ | with_reducible refine mono_Chain ?_ ?_ ?_ ?_ ?_ | with_reducible refine mono_hcons ?_ ?_
    | with_reducible refine mono_Op ?_ ?_ ?_ | with_reducible refine mono_Un ?_ ?_ | with_reducible refine mono_Tst ?_ | with_reducible refine mono_And ?_ ?_ | with_reducible refine mono_Or ?_ ?_ | with_reducible refine mono_Not ?_ | with_reducible refine mono_AndV ?_ ?_ | with_reducible refine mono_OrV ?_ ?_ | with_reducible refine mono_NotV ?_ | with_reducible refine mono_IfE ?_ ?_ ?_
    | with_reducible refine mono_TupA ?_ | with_reducible refine mono_LstA ?_ | with_reducible refine mono_TupS ?_ | with_reducible refine mono_LstS ?_ | with_reducible refine mono_Cons ?_ ?_ | with_reducible refine mono_StarR3 ?_ ?_ | with_reducible refine mono_aStar ?_ ?_ | with_reducible refine mono_Call ?_ ?_ | with_reducible refine mono_CallP ?_ ?_ | with_reducible refine mono_Cut ?_ ?_ ?_ | with_reducible refine mono_oSome ?_ | with_reducible refine mono_LC ?_ ?_ ?_ ?_
    | with_reducible refine mono_iSeq ?_ | with_reducible refine mono_iEnum ?_ | with_reducible refine mono_iRng1 ?_ | with_reducible refine mono_iRng2 ?_ ?_ | with_reducible refine mono_gMore ?_ ?_ | with_reducible refine mono_gTp ?_)
theorem mono_sp__law_euclid : MonoSp sp__law_euclid := mono_spOf mf__law_euclid
theorem fb__law_euclid (T : Tx P K mg CT C4 C5) {A : Around} {outer : List PySem.Env} {s : Shared} {H : Hp} {E : XK} {cd : Value} {Γ : Fy.G} (i : In (cxD P w K mg base N__law_euclid "_law_euclid" st__law_euclid f0 cd A outer s H E) Γ (wOf E) CT 2) : FB (cxD P w K mg base N__law_euclid "_law_euclid" st__law_euclid f0 cd A outer s H E) Γ (wOf E) [] [] [] (defBody st__law_euclid) f__law_euclid :=
  let c := i.c
  (fb_cons (fs_par2 1 2 c (fm_cl (fe_sorted c T.b_sorted ((fe_set c T.b_set ((fe_lc [("_law_one", 6)] c.nd (fi_seq c.hK (fe_var 0)) (blk_ok (by rfl)) (fun b1 s1 H1 C1 l1 p1 => (fg_name 6 (c.blk2 b1 s1 H1 _ _ p1).nd)) (fun b1 s1 H1 C1 l1 p1 => (fts_one (fc_gt (c.blk2 b1 s1 H1 _ _ p1) (fs_var 6) (fe_int).sh))) (fun b1 s1 H1 C1 l1 p1 => (fe_var 6)))).cl.sh)).sh) (fm_fr (fe_lstF fa_nil) (fun b1 => fm_nil)))) (fb_cons (fs_while i.po (fc_ne c (fs_var 1) ((fe_lstF fa_nil)).cl.sh) (fb_cons (fs_set 3 (fe_ix c.hK (fs_var 1) (fe_int).sh) c.nd) (fb_cons (FSt.post (O2 := [2]) (fs_setLc 4 [("_law_one", 6)] c (fi_seq c.hK (fe_var 1)) (blk_ok (by rfl)) (fun b1 s1 H1 C1 l1 p1 => (fg_name 6 (c.blk2 b1 s1 H1 _ _ p1).nd)) (fun b1 s1 H1 C1 l1 p1 => (fts_one (fc_gt (c.blk2 b1 s1 H1 _ _ p1) ((fe_mod (c.blk2 b1 s1 H1 _ _ p1) ((fe_toint (c.blk2 b1 s1 H1 _ _ p1) T.b_int (fs_var 6))).sh (fs_var 3))).sh (fe_int).sh))) (fun b1 s1 H1 C1 l1 p1 => (fe_div (c.blk2 b1 s1 H1 _ _ p1) (fs_var 6) (fs_var 3))))) (fb_cons (fs_if (fc_eq c (fs_var 4) ((fe_lstF fa_nil)).cl.sh) (fb_one (fs_ret (fe_tup (fa_cons (fe_tuple c T.b_tuple (fs_var 2)) (fa_cons (fe_var 3) fa_nil))))) fb_nil) (fb_cons (fs_set 5 (fe_min c T.b_min (fs_var 4)) c.nd) (fb_cons (fs_append (i := 2) ⟨rfl, .inl rfl, by decide, by decide⟩ (fa_cons (fe_tup (fa_cons (fe_var 3) (fa_cons (fe_var 5) fa_nil))) fa_nil).fa) (fb_one (fs_set 1 (fe_sorted c T.b_sorted ((fe_set c T.b_set ((fe_add c ((fe_lc [("_law_one", 6)] c.nd (fi_seq c.hK (fe_var 1)) (blk_ok (by rfl)) (fun b1 s1 H1 C1 l1 p1 => (fg_name 6 (c.blk2 b1 s1 H1 _ _ p1).nd)) (fun b1 s1 H1 C1 l1 p1 => (fts_one (fc_gt (c.blk2 b1 s1 H1 _ _ p1) (fs_var 6) ((fe_mul (c.blk2 b1 s1 H1 _ _ p1) (fs_var 3) (fs_var 5))).sh))) (fun b1 s1 H1 C1 l1 p1 => (fe_sub (c.blk2 b1 s1 H1 _ _ p1) (fs_var 6) ((fe_mul (c.blk2 b1 s1 H1 _ _ p1) (fs_var 3) (fs_var 5))).sh)))).cl.sh ((fe_lstF (fa_cons (fe_var 3) fa_nil))).cl.sh)).sh)).sh) c.nd)))))))) (fb_one (fs_ret (fe_tup (fa_cons (fe_tup fa_nil) (fa_cons fe_int fa_nil)))))))
theorem def__law_euclid (T : Tx P K mg CT C4 C5) (hm : mg "_law_euclid" = some (.ref f0)) (Fu : Fun K "_law_euclid" "_law_euclid" st__law_euclid f0 fd) : Def P w K mg base CT "_law_euclid" st__law_euclid P__law_euclid 3 sp__law_euclid :=
  def_of hm Fu sc__law_euclid mf__law_euclid fun A outer s H E cd Γ i => fb__law_euclid T i
theorem mf__law_row : MonoS f__law_row := by
  unfold f__law_row
  repeat' (first
    | with_reducible exact mono_C | with_reducible exact mono_Var | with_reducible exact mono_aNil | with_reducible exact mono_cYes | with_reducible exact mono_gNm | with_reducible exact mono_gNil | with_reducible exact mono_oNone | with_reducible exact mono_Nx | with_reducible exact mono_RetN | with_reducible exact mono_Brk | with_reducible exact mono_Cnt | with_reducible exact mono_spAny
    | with_reducible exact mono_qAdd | with_reducible exact mono_qAddL | with_reducible exact mono_qInK | with_reducible exact mono_qMinT | with_reducible exact mono_qSortR | with_reducible exact mono_qNotInK | with_reducible exact mono_qMulL | with_reducible exact mono_qSub | with_reducible exact mono_qMul | with_reducible exact mono_qDiv | with_reducible exact mono_qMod | with_reducible exact mono_qPow | with_reducible exact mono_qLt | with_reducible exact mono_qLe | with_reducible exact mono_qGt | with_reducible exact mono_qGe | with_reducible exact mono_qEq | with_reducible exact mono_qNe | with_reducible exact mono_qIs | with_reducible exact mono_qIsNot | with_reducible exact mono_qIx | with_reducible exact mono_qNeg
    | with_reducible exact mono_qLen | with_reducible exact mono_qInt | with_reducible exact mono_qAbs | with_reducible exact mono_qList | with_reducible exact mono_qTuple | with_reducible exact mono_qMax2 | with_reducible exact mono_qMin2 | with_reducible exact mono_qSum | with_reducible exact mono_qAll | with_reducible exact mono_qAny | with_reducible exact mono_qMin | with_reducible exact mono_qMax | with_reducible exact mono_qSorted | with_reducible exact mono_qSetL | with_reducible exact mono_qRepr | with_reducible exact mono_qIsI | with_reducible exact mono_qIn | with_reducible exact mono_qNotIn | with_reducible exact mono_qRev | with_reducible exact mono_qAt
    | with_reducible exact mono_oAppend | with_reducible exact mono_oInsert | with_reducible exact mono_oExtend | with_reducible exact mono_oPop | with_reducible exact mono_oPopAt | with_reducible exact mono_sp__law_any | with_reducible exact mono_sp__law_euclid | with_reducible exact mono_sp__law_of
    | with_reducible refine mono_Seq ?_ ?_ | with_reducible refine mono_If ?_ ?_ ?_ | with_reducible refine mono_Ret ?_ | with_reducible refine mono_Exp ?_ | with_reducible refine mono_Asg ?_ ?_ | with_reducible refine mono_AsgI ?_ | with_reducible refine mono_Dct1 ?_ ?_ | with_reducible refine mono_DC ?_ ?_ ?_ ?_ ?_ | with_reducible refine mono_StD ?_ ?_ | with_reducible refine mono_For ?_ ?_ ?_ | with_reducible refine mono_While ?_ ?_ | with_reducible refine mono_Mut ?_ ?_ | with_reducible refine mono_StL ?_ ?_ | with_reducible refine mono_Par2 ?_ ?_ | with_reducible refine mono_Par3 ?_ ?_ ?_ | with_reducible refine mono_Raise ?_ | with_reducible refine mono_TryN ?_ ?_ | with_reducible exact mono_hnil | with_reducible exact mono_vPop | with_reducible exact mono_vPopAt | with_reducible refine mono_PopSet ?_ ?_ | with_reducible refine mono_AppPop ?_ ?_ | with_reducible refine mono_LstR ?_ | with_reducible refine mono_TupR ?_ | with_reducible refine mono_LstR2 ?_ ?_ | with_reducible refine mono_Idx ?_ ?_ | with_reducible refine mono_iZip ?_ ?_ | with_reducible refine mono_Chain ?_ ?_ ?_ ?_ ?_ | with_reducible refine mono_hcons ?_ ?_
    | with_reducible refine mono_Op ?_ ?_ ?_ | with_reducible refine mono_Un ?_ ?_ | with_reducible refine mono_Tst ?_ | with_reducible refine mono_And ?_ ?_ | with_reducible refine mono_Or ?_ ?_ | with_reducible refine mono_Not ?_ | with_reducible refine mono_AndV ?_ ?_ | with_reducible refine mono_OrV ?_ ?_ | with_reducible refine mono_NotV ?_ | with_reducible refine mono_IfE ?_ ?_ ?_
    | with_reducible refine mono_TupA ?_ | with_reducible refine mono_LstA ?_ | with_reducible refine mono_TupS ?_ | with_reducible refine mono_LstS ?_ | with_reducible refine mono_Cons ?_ ?_ | with_reducible refine mono_StarR3 ?_ ?_ | with_reducible refine mono_aStar ?_ ?_ | with_reducible refine mono_Call ?_ ?_ | with_reducible refine mono_CallP ?_ ?_ | with_reducible refine mono_Cut ?_ ?_ ?_ | with_reducible refine mono_oSome ?_ | with_reducible refine mono_LC ?_ ?_ ?_ ?_
    | with_reducible refine mono_iSeq ?_ | with_reducible refine mono_iEnum ?_ | with_reducible refine mono_iRng1 ?_ | with_reducible refine mono_iRng2 ?_ ?_ | with_reducible refine mono_gMore ?_ ?_ | with_reducible refine mono_gTp ?_)
theorem mono_sp__law_row : MonoSp sp__law_row := mono_spOf mf__law_row
theorem fb__law_row (T : Tx P K mg CT C4 C5) (D__law_any : Def P w K mg base CT "_law_any" st__law_any P__law_any 1 sp__law_any) (D__law_euclid : Def P w K mg base CT "_law_euclid" st__law_euclid P__law_euclid 3 sp__law_euclid) (D__law_of : Def P w K mg base CT "_law_of" st__law_of P__law_of 3 sp__law_of) {A : Around} {outer : List PySem.Env} {s : Shared} {H : Hp} {E : XK} {cd : Value} {Γ : Fy.G} (i : In (cxD P w K mg base N__law_row "_law_row" st__law_row f0 cd A outer s H E) Γ (wOf E) CT 4) : FB (cxD P w K mg base N__law_row "_law_row" st__law_row f0 cd A outer s H E) Γ (wOf E) [] [] [] (defBody st__law_row) f__law_row :=
  let c := i.c
  (fb_cons (fs_set 1 (fe_call c i.ct D__law_any kw__law_any (fa_cons (fe_var 0) (fa_cons fe_int fa_nil))) c.nd) (fb_cons (fs_if (fc_eq c (fs_var 1) (fe_int).sh) (fb_one (fs_ret (fe_tup (fa_cons (fe_tup fa_nil) (fa_cons (fe_call c i.ct D__law_any kw__law_any (fa_cons (fe_var 0) (fa_cons fe_int fa_nil))) fa_nil))))) fb_nil) (fb_cons (fs_if (fc_lt c (fs_var 1) (fe_int).sh) (fb_one (fs_ret (fe_call c i.ct D__law_euclid kw__law_euclid (fa_cons ((fe_lc [("_law_turn", 4)] c.nd (fi_rng1 T.b_range (fe_add c (fe_int).sh ((fe_call c i.ct D__law_any kw__law_any (fa_cons (fe_var 0) (fa_cons fe_int fa_nil)))).sh)) (blk_ok (by rfl)) (fun b1 s1 H1 C1 l1 p1 => (fg_name 4 (c.blk2 b1 s1 H1 _ _ p1).nd)) (fun b1 s1 H1 C1 l1 p1 => fts_nil) (fun b1 s1 H1 C1 l1 p1 => (fe_add (c.blk2 b1 s1 H1 _ _ p1) (fe_int).sh ((fe_call (c.blk2 b1 s1 H1 _ _ p1) i.ct D__law_any kw__law_any (fa_cons (fe_var 0) (fa_cons fe_int fa_nil)))).sh)))).cl fa_nil)))) fb_nil) (fb_cons (fs_if (fc_lt c (fs_var 1) (fe_int).sh) (fb_cons (fs_set 3 (fe_call c i.ct D__law_of kw__law_of (fa_cons (fe_var 0) (fa_cons ((fe_lstF (fa_cons fe_int (fa_cons fe_int (fa_cons fe_int (fa_cons fe_int (fa_cons fe_int fa_nil))))))).cl fa_nil))) c.nd) (fb_one (fs_ret (fe_call c i.ct D__law_euclid kw__law_euclid (fa_cons (fe_add c ((fe_lc [("_law_turn", 4)] c.nd (fi_rng1 T.b_range (fe_add c (fe_int).sh ((fe_call c i.ct D__law_any kw__law_any (fa_cons (fe_var 0) (fa_cons fe_int fa_nil)))).sh)) (blk_ok (by rfl)) (fun b1 s1 H1 C1 l1 p1 => (fg_name 4 (c.blk2 b1 s1 H1 _ _ p1).nd)) (fun b1 s1 H1 C1 l1 p1 => fts_nil) (fun b1 s1 H1 C1 l1 p1 => (fe_mul (c.blk2 b1 s1 H1 _ _ p1) (fs_var 3) ((fe_add (c.blk2 b1 s1 H1 _ _ p1) (fe_int).sh ((fe_call (c.blk2 b1 s1 H1 _ _ p1) i.ct D__law_any kw__law_any (fa_cons (fe_var 0) (fa_cons fe_int fa_nil)))).sh)).sh)))).cl.sh ((fe_lstF (fa_cons (fe_mul c (fs_var 3) ((fe_add c (fe_int).sh ((fe_call c i.ct D__law_any kw__law_any (fa_cons (fe_var 0) (fa_cons fe_int fa_nil)))).sh)).sh) fa_nil))).cl.sh) fa_nil))))) fb_nil) (fb_cons (fs_set 2 (fe_call c i.ct D__law_of kw__law_of (fa_cons (fe_var 0) (fa_cons ((fe_lstF (fa_cons (fe_pow c (fe_int).sh (fe_int).sh) (fa_cons (fe_pow c (fe_int).sh (fe_int).sh) (fa_cons (fe_pow c (fe_int).sh (fe_int).sh) (fa_cons (fe_pow c (fe_int).sh (fe_int).sh) fa_nil)))))).cl fa_nil))) c.nd) (fb_one (fs_ret (fe_call c i.ct D__law_euclid kw__law_euclid (fa_cons ((fe_lc [("_law_turn", 4)] c.nd (fi_rng1 T.b_range (fe_add c (fe_int).sh ((fe_call c i.ct D__law_any kw__law_any (fa_cons (fe_var 0) (fa_cons fe_int fa_nil)))).sh)) (blk_ok (by rfl)) (fun b1 s1 H1 C1 l1 p1 => (fg_name 4 (c.blk2 b1 s1 H1 _ _ p1).nd)) (fun b1 s1 H1 C1 l1 p1 => fts_nil) (fun b1 s1 H1 C1 l1 p1 => (fe_add (c.blk2 b1 s1 H1 _ _ p1) (fe_int).sh ((fe_call (c.blk2 b1 s1 H1 _ _ p1) i.ct D__law_any kw__law_any (fa_cons (fe_var 0) (fa_cons (fe_var 2) fa_nil)))).sh)))).cl fa_nil)))))))))
theorem def__law_row (T : Tx P K mg CT C4 C5) (D__law_any : Def P w K mg base CT "_law_any" st__law_any P__law_any 1 sp__law_any) (D__law_euclid : Def P w K mg base CT "_law_euclid" st__law_euclid P__law_euclid 3 sp__law_euclid) (D__law_of : Def P w K mg base CT "_law_of" st__law_of P__law_of 3 sp__law_of) (hm : mg "_law_row" = some (.ref f0)) (Fu : Fun K "_law_row" "_law_row" st__law_row f0 fd) : Def P w K mg base CT "_law_row" st__law_row P__law_row 5 sp__law_row :=
  def_of hm Fu sc__law_row mf__law_row fun A outer s H E cd Γ i => fb__law_row T D__law_any D__law_euclid D__law_of i
theorem mf__law_small_row : MonoS f__law_small_row := by
  unfold f__law_small_row
  repeat' (first
    | with_reducible exact mono_C | with_reducible exact mono_Var | with_reducible exact mono_aNil | with_reducible exact mono_cYes | with_reducible exact mono_gNm | with_reducible exact mono_gNil | with_reducible exact mono_oNone | with_reducible exact mono_Nx | with_reducible exact mono_RetN | with_reducible exact mono_Brk | with_reducible exact mono_Cnt | with_reducible exact mono_spAny
    | with_reducible exact mono_qAdd | with_reducible exact mono_qAddL | with_reducible exact mono_qInK | with_reducible exact mono_qMinT | with_reducible exact mono_qSortR | with_reducible exact mono_qNotInK | with_reducible exact mono_qMulL | with_reducible exact mono_qSub | with_reducible exact mono_qMul | with_reducible exact mono_qDiv | with_reducible exact mono_qMod | with_reducible exact mono_qPow | with_reducible exact mono_qLt | with_reducible exact mono_qLe | with_reducible exact mono_qGt | with_reducible exact mono_qGe | with_reducible exact mono_qEq | with_reducible exact mono_qNe | with_reducible exact mono_qIs | with_reducible exact mono_qIsNot | with_reducible exact mono_qIx | with_reducible exact mono_qNeg
    | with_reducible exact mono_qLen | with_reducible exact mono_qInt | with_reducible exact mono_qAbs | with_reducible exact mono_qList | with_reducible exact mono_qTuple | with_reducible exact mono_qMax2 | with_reducible exact mono_qMin2 | with_reducible exact mono_qSum | with_reducible exact mono_qAll | with_reducible exact mono_qAny | with_reducible exact mono_qMin | with_reducible exact mono_qMax | with_reducible exact mono_qSorted | with_reducible exact mono_qSetL | with_reducible exact mono_qRepr | with_reducible exact mono_qIsI | with_reducible exact mono_qIn | with_reducible exact mono_qNotIn | with_reducible exact mono_qRev | with_reducible exact mono_qAt
    | with_reducible exact mono_oAppend | with_reducible exact mono_oInsert | with_reducible exact mono_oExtend | with_reducible exact mono_oPop | with_reducible exact mono_oPopAt | with_reducible exact mono_sp__law_of | with_reducible exact mono_sp__law_any | with_reducible exact mono_sp__law_euclid
    | with_reducible refine mono_Seq ?_ ?_ | with_reducible refine mono_If ?_ ?_ ?_ | with_reducible refine mono_Ret ?_ | with_reducible refine mono_Exp ?_ | with_reducible refine mono_Asg ?_ ?_ | with_reducible refine mono_AsgI ?_ | with_reducible refine mono_Dct1 ?_ ?_ | with_reducible refine mono_DC ?_ ?_ ?_ ?_ ?_ | with_reducible refine mono_StD ?_ ?_ | with_reducible refine mono_For ?_ ?_ ?_ | with_reducible refine mono_While ?_ ?_ | with_reducible refine mono_Mut ?_ ?_ | with_reducible refine mono_StL ?_ ?_ | with_reducible refine mono_Par2 ?_ ?_ | with_reducible refine mono_Par3 ?_ ?_ ?_ | with_reducible refine mono_Raise ?_ | with_reducible refine mono_TryN ?_ ?_ | with_reducible exact mono_hnil | with_reducible exact mono_vPop | with_reducible exact mono_vPopAt | with_reducible refine mono_PopSet ?_ ?_ | with_reducible refine mono_AppPop ?_ ?_ | with_reducible refine mono_LstR ?_ | with_reducible refine mono_TupR ?_ | with_reducible refine mono_LstR2 ?_ ?_ | with_reducible refine mono_Idx ?_ ?_ | with_reducible refine mono_iZip ?_ ?_ | with_reducible refine mono_Chain ?_ ?_ ?_ ?_ ?_ | with_reducible refine mono_hcons ?_ ?_
    | with_reducible refine mono_Op ?_ ?_ ?_ | with_reducible refine mono_Un ?_ ?_ | with_reducible refine mono_Tst ?_ | with_reducible refine mono_And ?_ ?_ | with_reducible refine mono_Or ?_ ?_ | with_reducible refine mono_Not ?_ | with_reducible refine mono_AndV ?_ ?_ | with_reducible refine mono_OrV ?_ ?_ | with_reducible refine mono_NotV ?_ | with_reducible refine mono_IfE ?_ ?_ ?_
    | with_reducible refine mono_TupA ?_ | with_reducible refine mono_LstA ?_ | with_reducible refine mono_TupS ?_ | with_reducible refine mono_LstS ?_ | with_reducible refine mono_Cons ?_ ?_ | with_reducible refine mono_StarR3 ?_ ?_ | with_reducible refine mono_aStar ?_ ?_ | with_reducible refine mono_Call ?_ ?_ | with_reducible refine mono_CallP ?_ ?_ | with_reducible refine mono_Cut ?_ ?_ ?_ | with_reducible refine mono_oSome ?_ | with_reducible refine mono_LC ?_ ?_ ?_ ?_
    | with_reducible refine mono_iSeq ?_ | with_reducible refine mono_iEnum ?_ | with_reducible refine mono_iRng1 ?_ | with_reducible refine mono_iRng2 ?_ ?_ | with_reducible refine mono_gMore ?_ ?_ | with_reducible refine mono_gTp ?_)
theorem mono_sp__law_small_row : MonoSp sp__law_small_row := mono_spOf mf__law_small_row
theorem fb__law_small_row (T : Tx P K mg CT C4 C5) (D__law_of : Def P w K mg base CT "_law_of" st__law_of P__law_of 3 sp__law_of) (D__law_any : Def P w K mg base CT "_law_any" st__law_any P__law_any 1 sp__law_any) (D__law_euclid : Def P w K mg base CT "_law_euclid" st__law_euclid P__law_euclid 3 sp__law_euclid) {A : Around} {outer : List PySem.Env} {s : Shared} {H : Hp} {E : XK} {cd : Value} {Γ : Fy.G} (i : In (cxD P w K mg base N__law_small_row "_law_small_row" st__law_small_row f0 cd A outer s H E) Γ (wOf E) CT 4) : FB (cxD P w K mg base N__law_small_row "_law_small_row" st__law_small_row f0 cd A outer s H E) Γ (wOf E) [] [] [] (defBody st__law_small_row) f__law_small_row :=
  let c := i.c
  (fb_cons (fs_set 1 (fe_call c i.ct D__law_of kw__law_of (fa_cons (fe_var 0) (fa_cons ((fe_lstF (fa_cons fe_int (fa_cons fe_int (fa_cons fe_int (fa_cons fe_int (fa_cons fe_int (fa_cons fe_int (fa_cons fe_int fa_nil))))))))).cl fa_nil))) c.nd) (fb_cons (fs_if (fc_eq c ((fe_call c i.ct D__law_any kw__law_any (fa_cons (fe_var 0) (fa_cons fe_int fa_nil)))).sh (fe_int).sh) (fb_one (fs_ret (fe_tup (fa_cons (fe_tup fa_nil) (fa_cons fe_int fa_nil))))) fb_nil) (fb_cons (FSt.post (O2 := []) (fs_setLc 2 [("_law_turn", 3)] c (fi_rng1 T.b_range (fe_call c i.ct D__law_any kw__law_any (fa_cons (fe_var 0) (fa_cons fe_int fa_nil)))) (blk_ok (by rfl)) (fun b1 s1 H1 C1 l1 p1 => (fg_name 3 (c.blk2 b1 s1 H1 _ _ p1).nd)) (fun b1 s1 H1 C1 l1 p1 => fts_nil) (fun b1 s1 H1 C1 l1 p1 => (fe_mul (c.blk2 b1 s1 H1 _ _ p1) (fs_var 1) ((fe_add (c.blk2 b1 s1 H1 _ _ p1) (fe_int).sh ((fe_call (c.blk2 b1 s1 H1 _ _ p1) i.ct D__law_any kw__law_any (fa_cons (fe_var 0) (fa_cons (fe_call (c.blk2 b1 s1 H1 _ _ p1) i.ct D__law_of kw__law_of (fa_cons (fe_var 0) (fa_cons ((fe_lstF (fa_cons fe_int (fa_cons fe_int (fa_cons fe_int fa_nil))))).cl fa_nil))) fa_nil)))).sh)).sh)))) (fb_cons (fs_if (fc_gt c ((fe_call c i.ct D__law_any kw__law_any (fa_cons (fe_var 0) (fa_cons fe_int fa_nil)))).sh (fe_int).sh) (fb_one (fs_set 2 (fe_add c (fs_var 2) ((fe_lstF (fa_cons (fe_mul c (fs_var 1) ((fe_add c (fe_int).sh ((fe_call c i.ct D__law_any kw__law_any (fa_cons (fe_var 0) (fa_cons fe_int fa_nil)))).sh)).sh) (fa_cons (fe_mul c (fs_var 1) (fe_int).sh) fa_nil)))).cl.sh) c.nd)) fb_nil) (fb_one (fs_ret (fe_ifE (fc_ne c (fs_var 2) ((fe_lstF fa_nil)).cl.sh) (fe_call c i.ct D__law_euclid kw__law_euclid (fa_cons (fe_add c (fs_var 2) ((fe_lstF (fa_cons (fe_mul c (fs_var 1) (fe_int).sh) fa_nil))).cl.sh) fa_nil)) (fe_tup (fa_cons (fe_tup fa_nil) (fa_cons (fe_var 1) fa_nil))))))))))
theorem def__law_small_row (T : Tx P K mg CT C4 C5) (D__law_of : Def P w K mg base CT "_law_of" st__law_of P__law_of 3 sp__law_of) (D__law_any : Def P w K mg base CT "_law_any" st__law_any P__law_any 1 sp__law_any) (D__law_euclid : Def P w K mg base CT "_law_euclid" st__law_euclid P__law_euclid 3 sp__law_euclid) (hm : mg "_law_small_row" = some (.ref f0)) (Fu : Fun K "_law_small_row" "_law_small_row" st__law_small_row f0 fd) : Def P w K mg base CT "_law_small_row" st__law_small_row P__law_small_row 5 sp__law_small_row :=
  def_of hm Fu sc__law_small_row mf__law_small_row fun A outer s H E cd Γ i => fb__law_small_row T D__law_of D__law_any D__law_euclid i
theorem mf__law_top : MonoS f__law_top := by
  unfold f__law_top
  repeat' (first
    | with_reducible exact mono_C | with_reducible exact mono_Var | with_reducible exact mono_aNil | with_reducible exact mono_cYes | with_reducible exact mono_gNm | with_reducible exact mono_gNil | with_reducible exact mono_oNone | with_reducible exact mono_Nx | with_reducible exact mono_RetN | with_reducible exact mono_Brk | with_reducible exact mono_Cnt | with_reducible exact mono_spAny
    | with_reducible exact mono_qAdd | with_reducible exact mono_qAddL | with_reducible exact mono_qInK | with_reducible exact mono_qMinT | with_reducible exact mono_qSortR | with_reducible exact mono_qNotInK | with_reducible exact mono_qMulL | with_reducible exact mono_qSub | with_reducible exact mono_qMul | with_reducible exact mono_qDiv | with_reducible exact mono_qMod | with_reducible exact mono_qPow | with_reducible exact mono_qLt | with_reducible exact mono_qLe | with_reducible exact mono_qGt | with_reducible exact mono_qGe | with_reducible exact mono_qEq | with_reducible exact mono_qNe | with_reducible exact mono_qIs | with_reducible exact mono_qIsNot | with_reducible exact mono_qIx | with_reducible exact mono_qNeg
    | with_reducible exact mono_qLen | with_reducible exact mono_qInt | with_reducible exact mono_qAbs | with_reducible exact mono_qList | with_reducible exact mono_qTuple | with_reducible exact mono_qMax2 | with_reducible exact mono_qMin2 | with_reducible exact mono_qSum | with_reducible exact mono_qAll | with_reducible exact mono_qAny | with_reducible exact mono_qMin | with_reducible exact mono_qMax | with_reducible exact mono_qSorted | with_reducible exact mono_qSetL | with_reducible exact mono_qRepr | with_reducible exact mono_qIsI | with_reducible exact mono_qIn | with_reducible exact mono_qNotIn | with_reducible exact mono_qRev | with_reducible exact mono_qAt
    | with_reducible exact mono_oAppend | with_reducible exact mono_oInsert | with_reducible exact mono_oExtend | with_reducible exact mono_oPop | with_reducible exact mono_oPopAt
    | with_reducible refine mono_Seq ?_ ?_ | with_reducible refine mono_If ?_ ?_ ?_ | with_reducible refine mono_Ret ?_ | with_reducible refine mono_Exp ?_ | with_reducible refine mono_Asg ?_ ?_ | with_reducible refine mono_AsgI ?_ | with_reducible refine mono_Dct1 ?_ ?_ | with_reducible refine mono_DC ?_ ?_ ?_ ?_ ?_ | with_reducible refine mono_StD ?_ ?_ | with_reducible refine mono_For ?_ ?_ ?_ | with_reducible refine mono_While ?_ ?_ | with_reducible refine mono_Mut ?_ ?_ | with_reducible refine mono_StL ?_ ?_ | with_reducible refine mono_Par2 ?_ ?_ | with_reducible refine mono_Par3 ?_ ?_ ?_ | with_reducible refine mono_Raise ?_ | with_reducible refine mono_TryN ?_ ?_ | with_reducible exact mono_hnil | with_reducible exact mono_vPop | with_reducible exact mono_vPopAt | with_reducible refine mono_PopSet ?_ ?_ | with_reducible refine mono_AppPop ?_ ?_ | with_reducible refine mono_LstR ?_ | with_reducible refine mono_TupR ?_ | with_reducible refine mono_LstR2 ?_ ?_ | with_reducible refine mono_Idx ?_ ?_ | with_reducible refine mono_iZip ?_ ?_ | with_reducible refine mono_Chain ?_ ?_ ?_ ?_ ?_ | with_reducible refine mono_hcons ?_ ?_
    | with_reducible refine mono_Op ?_ ?_ ?_ | with_reducible refine mono_Un ?_ ?_ | with_reducible refine mono_Tst ?_ | with_reducible refine mono_And ?_ ?_ | with_reducible refine mono_Or ?_ ?_ | with_reducible refine mono_Not ?_ | with_reducible refine mono_AndV ?_ ?_ | with_reducible refine mono_OrV ?_ ?_ | with_reducible refine mono_NotV ?_ | with_reducible refine mono_IfE ?_ ?_ ?_
    | with_reducible refine mono_TupA ?_ | with_reducible refine mono_LstA ?_ | with_reducible refine mono_TupS ?_ | with_reducible refine mono_LstS ?_ | with_reducible refine mono_Cons ?_ ?_ | with_reducible refine mono_StarR3 ?_ ?_ | with_reducible refine mono_aStar ?_ ?_ | with_reducible refine mono_Call ?_ ?_ | with_reducible refine mono_CallP ?_ ?_ | with_reducible refine mono_Cut ?_ ?_ ?_ | with_reducible refine mono_oSome ?_ | with_reducible refine mono_LC ?_ ?_ ?_ ?_
    | with_reducible refine mono_iSeq ?_ | with_reducible refine mono_iEnum ?_ | with_reducible refine mono_iRng1 ?_ | with_reducible refine mono_iRng2 ?_ ?_ | with_reducible refine mono_gMore ?_ ?_ | with_reducible refine mono_gTp ?_)
theorem mono_sp__law_top : MonoSp sp__law_top := mono_spOf mf__law_top
theorem fb__law_top (T : Tx P K mg CT C4 C5) {A : Around} {outer : List PySem.Env} {s : Shared} {H : Hp} {E : XK} {cd : Value} {Γ : Fy.G} (i : In (cxD P w K mg base N__law_top "_law_top" st__law_top f0 cd A outer s H E) Γ (wOf E) CT 2) : FB (cxD P w K mg base N__law_top "_law_top" st__law_top f0 cd A outer s H E) Γ (wOf E) [] [] [] (defBody st__law_top) f__law_top :=
  let c := i.c
  (fb_one (fs_ret (fe_sum c T.b_sum ((fe_lc [("_law_step", 1), ("_law_times", 2)] c.nd (fi_seq c.hK (fe_ix c.hK (fs_var 0) (fe_int).sh)) (blk_ok (by rfl)) (fun b1 s1 H1 C1 l1 p1 => (fg_tup (fgs_cons (fg_name 1 (c.blk2 b1 s1 H1 _ _ p1).nd) (fgs_cons (fg_name 2 (c.blk2 b1 s1 H1 _ _ p1).nd) fgs_nil)) (len_nm (len_nm len_nil)))) (fun b1 s1 H1 C1 l1 p1 => fts_nil) (fun b1 s1 H1 C1 l1 p1 => (fe_mul (c.blk2 b1 s1 H1 _ _ p1) (fs_var 1) (fs_var 2))))).cl.sh)))
theorem def__law_top (T : Tx P K mg CT C4 C5) (hm : mg "_law_top" = some (.ref f0)) (Fu : Fun K "_law_top" "_law_top" st__law_top f0 fd) : Def P w K mg base CT "_law_top" st__law_top P__law_top 3 sp__law_top :=
  def_of hm Fu sc__law_top mf__law_top fun A outer s H E cd Γ i => fb__law_top T i
theorem mf__law_none_row : MonoS f__law_none_row := by
  unfold f__law_none_row
  repeat' (first
    | with_reducible exact mono_C | with_reducible exact mono_Var | with_reducible exact mono_aNil | with_reducible exact mono_cYes | with_reducible exact mono_gNm | with_reducible exact mono_gNil | with_reducible exact mono_oNone | with_reducible exact mono_Nx | with_reducible exact mono_RetN | with_reducible exact mono_Brk | with_reducible exact mono_Cnt | with_reducible exact mono_spAny
    | with_reducible exact mono_qAdd | with_reducible exact mono_qAddL | with_reducible exact mono_qInK | with_reducible exact mono_qMinT | with_reducible exact mono_qSortR | with_reducible exact mono_qNotInK | with_reducible exact mono_qMulL | with_reducible exact mono_qSub | with_reducible exact mono_qMul | with_reducible exact mono_qDiv | with_reducible exact mono_qMod | with_reducible exact mono_qPow | with_reducible exact mono_qLt | with_reducible exact mono_qLe | with_reducible exact mono_qGt | with_reducible exact mono_qGe | with_reducible exact mono_qEq | with_reducible exact mono_qNe | with_reducible exact mono_qIs | with_reducible exact mono_qIsNot | with_reducible exact mono_qIx | with_reducible exact mono_qNeg
    | with_reducible exact mono_qLen | with_reducible exact mono_qInt | with_reducible exact mono_qAbs | with_reducible exact mono_qList | with_reducible exact mono_qTuple | with_reducible exact mono_qMax2 | with_reducible exact mono_qMin2 | with_reducible exact mono_qSum | with_reducible exact mono_qAll | with_reducible exact mono_qAny | with_reducible exact mono_qMin | with_reducible exact mono_qMax | with_reducible exact mono_qSorted | with_reducible exact mono_qSetL | with_reducible exact mono_qRepr | with_reducible exact mono_qIsI | with_reducible exact mono_qIn | with_reducible exact mono_qNotIn | with_reducible exact mono_qRev | with_reducible exact mono_qAt
    | with_reducible exact mono_oAppend | with_reducible exact mono_oInsert | with_reducible exact mono_oExtend | with_reducible exact mono_oPop | with_reducible exact mono_oPopAt | with_reducible exact mono_sp__law_of
    | with_reducible refine mono_Seq ?_ ?_ | with_reducible refine mono_If ?_ ?_ ?_ | with_reducible refine mono_Ret ?_ | with_reducible refine mono_Exp ?_ | with_reducible refine mono_Asg ?_ ?_ | with_reducible refine mono_AsgI ?_ | with_reducible refine mono_Dct1 ?_ ?_ | with_reducible refine mono_DC ?_ ?_ ?_ ?_ ?_ | with_reducible refine mono_StD ?_ ?_ | with_reducible refine mono_For ?_ ?_ ?_ | with_reducible refine mono_While ?_ ?_ | with_reducible refine mono_Mut ?_ ?_ | with_reducible refine mono_StL ?_ ?_ | with_reducible refine mono_Par2 ?_ ?_ | with_reducible refine mono_Par3 ?_ ?_ ?_ | with_reducible refine mono_Raise ?_ | with_reducible refine mono_TryN ?_ ?_ | with_reducible exact mono_hnil | with_reducible exact mono_vPop | with_reducible exact mono_vPopAt | with_reducible refine mono_PopSet ?_ ?_ | with_reducible refine mono_AppPop ?_ ?_ | with_reducible refine mono_LstR ?_ | with_reducible refine mono_TupR ?_ | with_reducible refine mono_LstR2 ?_ ?_ | with_reducible refine mono_Idx ?_ ?_ | with_reducible refine mono_iZip ?_ ?_ | with_reducible refine mono_Chain ?_ ?_ ?_ ?_ ?_ | with_reducible refine mono_hcons ?_ ?_
    | with_reducible refine mono_Op ?_ ?_ ?_ | with_reducible refine mono_Un ?_ ?_ | with_reducible refine mono_Tst ?_ | with_reducible refine mono_And ?_ ?_ | with_reducible refine mono_Or ?_ ?_ | with_reducible refine mono_Not ?_ | with_reducible refine mono_AndV ?_ ?_ | with_reducible refine mono_OrV ?_ ?_ | with_reducible refine mono_NotV ?_ | with_reducible refine mono_IfE ?_ ?_ ?_
    | with_reducible refine mono_TupA ?_ | with_reducible refine mono_LstA ?_ | with_reducible refine mono_TupS ?_ | with_reducible refine mono_LstS ?_ | with_reducible refine mono_Cons ?_ ?_ | with_reducible refine mono_StarR3 ?_ ?_ | with_reducible refine mono_aStar ?_ ?_ | with_reducible refine mono_Call ?_ ?_ | with_reducible refine mono_CallP ?_ ?_ | with_reducible refine mono_Cut ?_ ?_ ?_ | with_reducible refine mono_oSome ?_ | with_reducible refine mono_LC ?_ ?_ ?_ ?_
    | with_reducible refine mono_iSeq ?_ | with_reducible refine mono_iEnum ?_ | with_reducible refine mono_iRng1 ?_ | with_reducible refine mono_iRng2 ?_ ?_ | with_reducible refine mono_gMore ?_ ?_ | with_reducible refine mono_gTp ?_)
theorem mono_sp__law_none_row : MonoSp sp__law_none_row := mono_spOf mf__law_none_row
theorem fb__law_none_row (T : Tx P K mg CT C4 C5) (D__law_of : Def P w K mg base CT "_law_of" st__law_of P__law_of 3 sp__law_of) {A : Around} {outer : List PySem.Env} {s : Shared} {H : Hp} {E : XK} {cd : Value} {Γ : Fy.G} (i : In (cxD P w K mg base N__law_none_row "_law_none_row" st__law_none_row f0 cd A outer s H E) Γ (wOf E) CT 4) : FB (cxD P w K mg base N__law_none_row "_law_none_row" st__law_none_row f0 cd A outer s H E) Γ (wOf E) [] [] [] (defBody st__law_none_row) f__law_none_row :=
  let c := i.c
  (fb_one (fs_ret (fe_call c i.ct D__law_of kw__law_of (fa_cons (fe_var 0) (fa_cons ((fe_lstF (fa_cons fe_non (fa_cons (fe_tup fa_nil) (fa_cons (fe_tup (fa_cons (fe_tup (fa_cons (fe_tup (fa_cons fe_int (fa_cons fe_int fa_nil))) fa_nil)) (fa_cons fe_int fa_nil))) (fa_cons (fe_tup (fa_cons (fe_tup (fa_cons (fe_tup (fa_cons fe_int (fa_cons fe_int fa_nil))) fa_nil)) (fa_cons fe_int fa_nil))) (fa_cons ((fe_lstF (fa_cons (fe_tup fa_nil) (fa_cons fe_int fa_nil)))).cl (fa_cons (fe_tup (fa_cons (fe_tup (fa_cons (fe_tup (fa_cons fe_int (fa_cons fe_int fa_nil))) fa_nil)) (fa_cons fe_int fa_nil))) (fa_cons (fe_tup (fa_cons (fe_tup fa_nil) (fa_cons (fe_neg c (fe_int).sh) fa_nil))) (fa_cons (fe_tup (fa_cons (fe_tup fa_nil) (fa_cons fe_bl fa_nil))) (fa_cons (fe_tup (fa_cons (fe_tup (fa_cons (fe_tup (fa_cons fe_int (fa_cons fe_int fa_nil))) (fa_cons (fe_tup (fa_cons fe_int (fa_cons fe_int fa_nil))) fa_nil))) (fa_cons fe_int fa_nil))) (fa_cons (fe_tup (fa_cons (fe_tup (fa_cons (fe_tup (fa_cons fe_int (fa_cons fe_int fa_nil))) fa_nil)) (fa_cons fe_int fa_nil))) fa_nil)))))))))))).cl fa_nil)))))
theorem def__law_none_row (T : Tx P K mg CT C4 C5) (D__law_of : Def P w K mg base CT "_law_of" st__law_of P__law_of 3 sp__law_of) (hm : mg "_law_none_row" = some (.ref f0)) (Fu : Fun K "_law_none_row" "_law_none_row" st__law_none_row f0 fd) : Def P w K mg base CT "_law_none_row" st__law_none_row P__law_none_row 5 sp__law_none_row :=
  def_of hm Fu sc__law_none_row mf__law_none_row fun A outer s H E cd Γ i => fb__law_none_row T D__law_of i
theorem mf__law_rows_low : MonoS f__law_rows_low := by
  unfold f__law_rows_low
  repeat' (first
    | with_reducible exact mono_C | with_reducible exact mono_Var | with_reducible exact mono_aNil | with_reducible exact mono_cYes | with_reducible exact mono_gNm | with_reducible exact mono_gNil | with_reducible exact mono_oNone | with_reducible exact mono_Nx | with_reducible exact mono_RetN | with_reducible exact mono_Brk | with_reducible exact mono_Cnt | with_reducible exact mono_spAny
    | with_reducible exact mono_qAdd | with_reducible exact mono_qAddL | with_reducible exact mono_qInK | with_reducible exact mono_qMinT | with_reducible exact mono_qSortR | with_reducible exact mono_qNotInK | with_reducible exact mono_qMulL | with_reducible exact mono_qSub | with_reducible exact mono_qMul | with_reducible exact mono_qDiv | with_reducible exact mono_qMod | with_reducible exact mono_qPow | with_reducible exact mono_qLt | with_reducible exact mono_qLe | with_reducible exact mono_qGt | with_reducible exact mono_qGe | with_reducible exact mono_qEq | with_reducible exact mono_qNe | with_reducible exact mono_qIs | with_reducible exact mono_qIsNot | with_reducible exact mono_qIx | with_reducible exact mono_qNeg
    | with_reducible exact mono_qLen | with_reducible exact mono_qInt | with_reducible exact mono_qAbs | with_reducible exact mono_qList | with_reducible exact mono_qTuple | with_reducible exact mono_qMax2 | with_reducible exact mono_qMin2 | with_reducible exact mono_qSum | with_reducible exact mono_qAll | with_reducible exact mono_qAny | with_reducible exact mono_qMin | with_reducible exact mono_qMax | with_reducible exact mono_qSorted | with_reducible exact mono_qSetL | with_reducible exact mono_qRepr | with_reducible exact mono_qIsI | with_reducible exact mono_qIn | with_reducible exact mono_qNotIn | with_reducible exact mono_qRev | with_reducible exact mono_qAt
    | with_reducible exact mono_oAppend | with_reducible exact mono_oInsert | with_reducible exact mono_oExtend | with_reducible exact mono_oPop | with_reducible exact mono_oPopAt | with_reducible exact mono_sp__law_in
    | with_reducible refine mono_Seq ?_ ?_ | with_reducible refine mono_If ?_ ?_ ?_ | with_reducible refine mono_Ret ?_ | with_reducible refine mono_Exp ?_ | with_reducible refine mono_Asg ?_ ?_ | with_reducible refine mono_AsgI ?_ | with_reducible refine mono_Dct1 ?_ ?_ | with_reducible refine mono_DC ?_ ?_ ?_ ?_ ?_ | with_reducible refine mono_StD ?_ ?_ | with_reducible refine mono_For ?_ ?_ ?_ | with_reducible refine mono_While ?_ ?_ | with_reducible refine mono_Mut ?_ ?_ | with_reducible refine mono_StL ?_ ?_ | with_reducible refine mono_Par2 ?_ ?_ | with_reducible refine mono_Par3 ?_ ?_ ?_ | with_reducible refine mono_Raise ?_ | with_reducible refine mono_TryN ?_ ?_ | with_reducible exact mono_hnil | with_reducible exact mono_vPop | with_reducible exact mono_vPopAt | with_reducible refine mono_PopSet ?_ ?_ | with_reducible refine mono_AppPop ?_ ?_ | with_reducible refine mono_LstR ?_ | with_reducible refine mono_TupR ?_ | with_reducible refine mono_LstR2 ?_ ?_ | with_reducible refine mono_Idx ?_ ?_ | with_reducible refine mono_iZip ?_ ?_ | with_reducible refine mono_Chain ?_ ?_ ?_ ?_ ?_ | with_reducible refine mono_hcons ?_ ?_
    | with_reducible refine mono_Op ?_ ?_ ?_ | with_reducible refine mono_Un ?_ ?_ | with_reducible refine mono_Tst ?_ | with_reducible refine mono_And ?_ ?_ | with_reducible refine mono_Or ?_ ?_ | with_reducible refine mono_Not ?_ | with_reducible refine mono_AndV ?_ ?_ | with_reducible refine mono_OrV ?_ ?_ | with_reducible refine mono_NotV ?_ | with_reducible refine mono_IfE ?_ ?_ ?_
    | with_reducible refine mono_TupA ?_ | with_reducible refine mono_LstA ?_ | with_reducible refine mono_TupS ?_ | with_reducible refine mono_LstS ?_ | with_reducible refine mono_Cons ?_ ?_ | with_reducible refine mono_StarR3 ?_ ?_ | with_reducible refine mono_aStar ?_ ?_ | with_reducible refine mono_Call ?_ ?_ | with_reducible refine mono_CallP ?_ ?_ | with_reducible refine mono_Cut ?_ ?_ ?_ | with_reducible refine mono_oSome ?_ | with_reducible refine mono_LC ?_ ?_ ?_ ?_
    | with_reducible refine mono_iSeq ?_ | with_reducible refine mono_iEnum ?_ | with_reducible refine mono_iRng1 ?_ | with_reducible refine mono_iRng2 ?_ ?_ | with_reducible refine mono_gMore ?_ ?_ | with_reducible refine mono_gTp ?_)
theorem mono_sp__law_rows_low : MonoSp sp__law_rows_low := mono_spOf mf__law_rows_low
theorem fb__law_rows_low (T : Tx P K mg CT C4 C5) (D__law_in : Def P w K mg base CT "_law_in" st__law_in P__law_in 3 sp__law_in) {A : Around} {outer : List PySem.Env} {s : Shared} {H : Hp} {E : XK} {cd : Value} {Γ : Fy.G} (i : In (cxD P w K mg base N__law_rows_low "_law_rows_low" st__law_rows_low f0 cd A outer s H E) Γ (wOf E) CT 4) : FB (cxD P w K mg base N__law_rows_low "_law_rows_low" st__law_rows_low f0 cd A outer s H E) Γ (wOf E) [] [] [] (defBody st__law_rows_low) f__law_rows_low :=
  let c := i.c
  (fb_cons (fs_par2 2 3 c (fm_fr (fe_lstF fa_nil) (fun b1 => (fm_fr (fe_lstF (fa_cons ((fe_lstF fa_nil)).cl fa_nil)) (fun b2 => fm_nil))))) (fb_cons (fs_while i.po (fc_ne c (fs_var 3) ((fe_lstF fa_nil)).cl.sh) (FB.post (O2 := [3, 2]) (fb_cons (fs_popSet 4 (i := 3) c (PopE.none ⟨rfl, .inl rfl, by decide, by decide⟩)) (fb_cons (fs_setF 5 c (fe_lstF fa_nil)) (fb_cons (fs_for i.po (fi_seq c.hK (fe_var 4)) (fg_name 6 c.nd) (fb_one (fs_if ((fw_and (fc_ne c (fs_var 5) ((fe_lstF fa_nil)).cl.sh) (fw_and1 (fc_eq c ((fe_ix c.hK ((fe_ix c.hK (fs_var 5) ((fe_neg c (fe_int).sh)).sh)).sh (fe_int).sh)).sh (fs_var 6))))).toC (fb_one (fs_stL (i := 5) ⟨rfl, .inl rfl, by decide, by decide⟩ (fe_tup (fa_cons (fe_var 6) (fa_cons (fe_add c ((fe_ix c.hK ((fe_ix c.hK (fs_var 5) ((fe_neg c (fe_int).sh)).sh)).sh (fe_int).sh)).sh (fe_int).sh) fa_nil))) (fe_neg c (fe_int).sh))) (fb_one (fs_append (i := 5) ⟨rfl, .inl rfl, by decide, by decide⟩ (fa_cons (fe_tup (fa_cons (fe_var 6) (fa_cons fe_int fa_nil))) fa_nil).fa))))) (fb_cons (fs_set 7 (fe_tup (fa_cons (fe_tuple c T.b_tuple (fs_var 5)) (fa_cons (fe_var 0) fa_nil))) c.nd) (fb_cons (fs_append (i := 2) ⟨rfl, .inl rfl, by decide, by decide⟩ (fa_cons (fe_var 7) fa_nil).fa) (fb_one (fs_for i.po (fi_rng2 T.b_range fe_int (fe_add c ((fe_sub c (fs_var 1) ((fe_sum c T.b_sum (fs_var 4))).sh)).sh (fe_int).sh)) (fg_name 6 c.nd) (fb_one (fs_if ((fw_and (fc_val (fe_call c i.ct D__law_in kw__law_in (fa_cons (fe_var 7) (fa_cons (fe_var 6) fa_nil)))) (fw_and1 ((fw_or (fc_ne c (fs_var 4) ((fe_lstF fa_nil)).cl.sh) (fw_or1 (fc_ne c (fs_var 6) (fs_var 0))))).toC))).toC (fb_one (fs_append (i := 3) ⟨rfl, .inl rfl, by decide, by decide⟩ (fa_cons (fe_add c ((fe_lstF (fa_cons (fe_var 6) fa_nil))).cl.sh (fs_var 4)) fa_nil).fa)) fb_nil))))))))))) (fb_one (fs_ret (fe_var 2)))))
theorem def__law_rows_low (T : Tx P K mg CT C4 C5) (D__law_in : Def P w K mg base CT "_law_in" st__law_in P__law_in 3 sp__law_in) (hm : mg "_law_rows_low" = some (.ref f0)) (Fu : Fun K "_law_rows_low" "_law_rows_low" st__law_rows_low f0 fd) : Def P w K mg base CT "_law_rows_low" st__law_rows_low P__law_rows_low 5 sp__law_rows_low :=
  def_of hm Fu sc__law_rows_low mf__law_rows_low fun A outer s H E cd Γ i => fb__law_rows_low T D__law_in i
theorem mf__law_asked : MonoS f__law_asked := by
  unfold f__law_asked
  repeat' (first
    | with_reducible exact mono_C | with_reducible exact mono_Var | with_reducible exact mono_aNil | with_reducible exact mono_cYes | with_reducible exact mono_gNm | with_reducible exact mono_gNil | with_reducible exact mono_oNone | with_reducible exact mono_Nx | with_reducible exact mono_RetN | with_reducible exact mono_Brk | with_reducible exact mono_Cnt | with_reducible exact mono_spAny
    | with_reducible exact mono_qAdd | with_reducible exact mono_qAddL | with_reducible exact mono_qInK | with_reducible exact mono_qMinT | with_reducible exact mono_qSortR | with_reducible exact mono_qNotInK | with_reducible exact mono_qMulL | with_reducible exact mono_qSub | with_reducible exact mono_qMul | with_reducible exact mono_qDiv | with_reducible exact mono_qMod | with_reducible exact mono_qPow | with_reducible exact mono_qLt | with_reducible exact mono_qLe | with_reducible exact mono_qGt | with_reducible exact mono_qGe | with_reducible exact mono_qEq | with_reducible exact mono_qNe | with_reducible exact mono_qIs | with_reducible exact mono_qIsNot | with_reducible exact mono_qIx | with_reducible exact mono_qNeg
    | with_reducible exact mono_qLen | with_reducible exact mono_qInt | with_reducible exact mono_qAbs | with_reducible exact mono_qList | with_reducible exact mono_qTuple | with_reducible exact mono_qMax2 | with_reducible exact mono_qMin2 | with_reducible exact mono_qSum | with_reducible exact mono_qAll | with_reducible exact mono_qAny | with_reducible exact mono_qMin | with_reducible exact mono_qMax | with_reducible exact mono_qSorted | with_reducible exact mono_qSetL | with_reducible exact mono_qRepr | with_reducible exact mono_qIsI | with_reducible exact mono_qIn | with_reducible exact mono_qNotIn | with_reducible exact mono_qRev | with_reducible exact mono_qAt
    | with_reducible exact mono_oAppend | with_reducible exact mono_oInsert | with_reducible exact mono_oExtend | with_reducible exact mono_oPop | with_reducible exact mono_oPopAt | with_reducible exact mono_sp_row_at | with_reducible exact mono_sp_index_of
    | with_reducible refine mono_Seq ?_ ?_ | with_reducible refine mono_If ?_ ?_ ?_ | with_reducible refine mono_Ret ?_ | with_reducible refine mono_Exp ?_ | with_reducible refine mono_Asg ?_ ?_ | with_reducible refine mono_AsgI ?_ | with_reducible refine mono_Dct1 ?_ ?_ | with_reducible refine mono_DC ?_ ?_ ?_ ?_ ?_ | with_reducible refine mono_StD ?_ ?_ | with_reducible refine mono_For ?_ ?_ ?_ | with_reducible refine mono_While ?_ ?_ | with_reducible refine mono_Mut ?_ ?_ | with_reducible refine mono_StL ?_ ?_ | with_reducible refine mono_Par2 ?_ ?_ | with_reducible refine mono_Par3 ?_ ?_ ?_ | with_reducible refine mono_Raise ?_ | with_reducible refine mono_TryN ?_ ?_ | with_reducible exact mono_hnil | with_reducible exact mono_vPop | with_reducible exact mono_vPopAt | with_reducible refine mono_PopSet ?_ ?_ | with_reducible refine mono_AppPop ?_ ?_ | with_reducible refine mono_LstR ?_ | with_reducible refine mono_TupR ?_ | with_reducible refine mono_LstR2 ?_ ?_ | with_reducible refine mono_Idx ?_ ?_ | with_reducible refine mono_iZip ?_ ?_ | with_reducible refine mono_Chain ?_ ?_ ?_ ?_ ?_ | with_reducible refine mono_hcons ?_ ?_
    | with_reducible refine mono_Op ?_ ?_ ?_ | with_reducible refine mono_Un ?_ ?_ | with_reducible refine mono_Tst ?_ | with_reducible refine mono_And ?_ ?_ | with_reducible refine mono_Or ?_ ?_ | with_reducible refine mono_Not ?_ | with_reducible refine mono_AndV ?_ ?_ | with_reducible refine mono_OrV ?_ ?_ | with_reducible refine mono_NotV ?_ | with_reducible refine mono_IfE ?_ ?_ ?_
    | with_reducible refine mono_TupA ?_ | with_reducible refine mono_LstA ?_ | with_reducible refine mono_TupS ?_ | with_reducible refine mono_LstS ?_ | with_reducible refine mono_Cons ?_ ?_ | with_reducible refine mono_StarR3 ?_ ?_ | with_reducible refine mono_aStar ?_ ?_ | with_reducible refine mono_Call ?_ ?_ | with_reducible refine mono_CallP ?_ ?_ | with_reducible refine mono_Cut ?_ ?_ ?_ | with_reducible refine mono_oSome ?_ | with_reducible refine mono_LC ?_ ?_ ?_ ?_
    | with_reducible refine mono_iSeq ?_ | with_reducible refine mono_iEnum ?_ | with_reducible refine mono_iRng1 ?_ | with_reducible refine mono_iRng2 ?_ ?_ | with_reducible refine mono_gMore ?_ ?_ | with_reducible refine mono_gTp ?_)
theorem mono_sp__law_asked : MonoSp sp__law_asked := mono_spOf mf__law_asked
theorem fb__law_asked (T : Tx P K mg CT C4 C5) (D_row_at : Def P w K mg base CT "row_at" st_row_at P_row_at 9 sp_row_at) (D_index_of : Def P w K mg base CT "index_of" st_index_of P_index_of 13 sp_index_of) {A : Around} {outer : List PySem.Env} {s : Shared} {H : Hp} {E : XK} {cd : Value} {Γ : Fy.G} (i : In (cxD P w K mg base N__law_asked "_law_asked" st__law_asked f0 cd A outer s H E) Γ (wOf E) CT 14) : FB (cxD P w K mg base N__law_asked "_law_asked" st__law_asked f0 cd A outer s H E) Γ (wOf E) [] [] [] (defBody st__law_asked) f__law_asked :=
  let c := i.c
  (fb_one (fs_tryN c i.po (fun W' pn xe tk po => let i : In (Cx.tr _ pn xe) Γ W' CT _ := ⟨c.tr tk, po, i.ct⟩; let c := i.c; (fb_one (fs_ret (fe_tup (fa_cons fe_str (fa_cons (fe_ifE (fc_eq c (fs_var 0) (fe_int).sh) (fe_callK [1, 0] c i.ct D_row_at kw_row_at_1_0 (fk_cons (fe_var 2) (fk_cons (fe_var 1) fk_nil))) (fe_callK [0] c i.ct D_index_of kw_index_of_0 (fk_cons (fe_var 1) fk_nil))) fa_nil)))))) (FCl.nm 3 ⟨rfl, by decide, .inl T.g_InvalidQuestion⟩ (fun t C h => T.x_InvalidQuestion t C (by rw [← i.ct]; exact h)) (mono_Ret (mono_TupA (mono_Cons mono_C (mono_Cons (mono_Un mono_qAt mono_Var) (fun _ _ _ _ _ _ h _ q => h _ _ q))))) (fun a C dx tag oe pn hC hz hf => (fb_one (fs_ret (fe_tup (fa_cons fe_str (fa_cons (fe_at (T.xf (by rw [← i.ct]; exact hC)).1 (T.xf (by rw [← i.ct]; exact hC)).2 hz hf (fe_var 3)) fa_nil)))))) (FCl.nm 4 ⟨rfl, by decide, .inl T.g_Refused⟩ (fun t C h => T.x_Refused t C (by rw [← i.ct]; exact h)) (mono_Ret (mono_TupA (mono_Cons mono_C (mono_Cons (mono_Un mono_qAt mono_Var) (fun _ _ _ _ _ _ h _ q => h _ _ q))))) (fun a C dx tag oe pn hC hz hf => (fb_one (fs_ret (fe_tup (fa_cons fe_str (fa_cons (fe_at (T.xf (by rw [← i.ct]; exact hC)).1 (T.xf (by rw [← i.ct]; exact hC)).2 hz hf (fe_var 4)) fa_nil)))))) .nil))))
theorem def__law_asked (T : Tx P K mg CT C4 C5) (D_row_at : Def P w K mg base CT "row_at" st_row_at P_row_at 9 sp_row_at) (D_index_of : Def P w K mg base CT "index_of" st_index_of P_index_of 13 sp_index_of) (hm : mg "_law_asked" = some (.ref f0)) (Fu : Fun K "_law_asked" "_law_asked" st__law_asked f0 fd) : Def P w K mg base CT "_law_asked" st__law_asked P__law_asked 15 sp__law_asked :=
  def_of hm Fu sc__law_asked mf__law_asked fun A outer s H E cd Γ i => fb__law_asked T D_row_at D_index_of i
theorem mf__law_by_sets : MonoS f__law_by_sets := by
  unfold f__law_by_sets
  repeat' (first
    | with_reducible exact mono_C | with_reducible exact mono_Var | with_reducible exact mono_aNil | with_reducible exact mono_cYes | with_reducible exact mono_gNm | with_reducible exact mono_gNil | with_reducible exact mono_oNone | with_reducible exact mono_Nx | with_reducible exact mono_RetN | with_reducible exact mono_Brk | with_reducible exact mono_Cnt | with_reducible exact mono_spAny
    | with_reducible exact mono_qAdd | with_reducible exact mono_qAddL | with_reducible exact mono_qInK | with_reducible exact mono_qMinT | with_reducible exact mono_qSortR | with_reducible exact mono_qNotInK | with_reducible exact mono_qMulL | with_reducible exact mono_qSub | with_reducible exact mono_qMul | with_reducible exact mono_qDiv | with_reducible exact mono_qMod | with_reducible exact mono_qPow | with_reducible exact mono_qLt | with_reducible exact mono_qLe | with_reducible exact mono_qGt | with_reducible exact mono_qGe | with_reducible exact mono_qEq | with_reducible exact mono_qNe | with_reducible exact mono_qIs | with_reducible exact mono_qIsNot | with_reducible exact mono_qIx | with_reducible exact mono_qNeg
    | with_reducible exact mono_qLen | with_reducible exact mono_qInt | with_reducible exact mono_qAbs | with_reducible exact mono_qList | with_reducible exact mono_qTuple | with_reducible exact mono_qMax2 | with_reducible exact mono_qMin2 | with_reducible exact mono_qSum | with_reducible exact mono_qAll | with_reducible exact mono_qAny | with_reducible exact mono_qMin | with_reducible exact mono_qMax | with_reducible exact mono_qSorted | with_reducible exact mono_qSetL | with_reducible exact mono_qRepr | with_reducible exact mono_qIsI | with_reducible exact mono_qIn | with_reducible exact mono_qNotIn | with_reducible exact mono_qRev | with_reducible exact mono_qAt
    | with_reducible exact mono_oAppend | with_reducible exact mono_oInsert | with_reducible exact mono_oExtend | with_reducible exact mono_oPop | with_reducible exact mono_oPopAt
    | with_reducible refine mono_Seq ?_ ?_ | with_reducible refine mono_If ?_ ?_ ?_ | with_reducible refine mono_Ret ?_ | with_reducible refine mono_Exp ?_ | with_reducible refine mono_Asg ?_ ?_ | with_reducible refine mono_AsgI ?_ | with_reducible refine mono_Dct1 ?_ ?_ | with_reducible refine mono_DC ?_ ?_ ?_ ?_ ?_ | with_reducible refine mono_StD ?_ ?_ | with_reducible refine mono_For ?_ ?_ ?_ | with_reducible refine mono_While ?_ ?_ | with_reducible refine mono_Mut ?_ ?_ | with_reducible refine mono_StL ?_ ?_ | with_reducible refine mono_Par2 ?_ ?_ | with_reducible refine mono_Par3 ?_ ?_ ?_ | with_reducible refine mono_Raise ?_ | with_reducible refine mono_TryN ?_ ?_ | with_reducible exact mono_hnil | with_reducible exact mono_vPop | with_reducible exact mono_vPopAt | with_reducible refine mono_PopSet ?_ ?_ | with_reducible refine mono_AppPop ?_ ?_ | with_reducible refine mono_LstR ?_ | with_reducible refine mono_TupR ?_ | with_reducible refine mono_LstR2 ?_ ?_ | with_reducible refine mono_Idx ?_ ?_ | with_reducible refine mono_iZip ?_ ?_ | with_reducible refine mono_Chain ?_ ?_ ?_ ?_ ?_ | with_reducible refine mono_hcons ?_ ?_
    | with_reducible refine mono_Op ?_ ?_ ?_ | with_reducible refine mono_Un ?_ ?_ | with_reducible refine mono_Tst ?_ | with_reducible refine mono_And ?_ ?_ | with_reducible refine mono_Or ?_ ?_ | with_reducible refine mono_Not ?_ | with_reducible refine mono_AndV ?_ ?_ | with_reducible refine mono_OrV ?_ ?_ | with_reducible refine mono_NotV ?_ | with_reducible refine mono_IfE ?_ ?_ ?_
    | with_reducible refine mono_TupA ?_ | with_reducible refine mono_LstA ?_ | with_reducible refine mono_TupS ?_ | with_reducible refine mono_LstS ?_ | with_reducible refine mono_Cons ?_ ?_ | with_reducible refine mono_StarR3 ?_ ?_ | with_reducible refine mono_aStar ?_ ?_ | with_reducible refine mono_Call ?_ ?_ | with_reducible refine mono_CallP ?_ ?_ | with_reducible refine mono_Cut ?_ ?_ ?_ | with_reducible refine mono_oSome ?_ | with_reducible refine mono_LC ?_ ?_ ?_ ?_
    | with_reducible refine mono_iSeq ?_ | with_reducible refine mono_iEnum ?_ | with_reducible refine mono_iRng1 ?_ | with_reducible refine mono_iRng2 ?_ ?_ | with_reducible refine mono_gMore ?_ ?_ | with_reducible refine mono_gTp ?_)
theorem mono_sp__law_by_sets : MonoSp sp__law_by_sets := mono_spOf mf__law_by_sets
theorem fb__law_by_sets (T : Tx P K mg CT C4 C5) {A : Around} {outer : List PySem.Env} {s : Shared} {H : Hp} {E : XK} {cd : Value} {Γ : Fy.G} (i : In (cxD P w K mg base N__law_by_sets "_law_by_sets" st__law_by_sets f0 cd A outer s H E) Γ (wOf E) CT 2) : FB (cxD P w K mg base N__law_by_sets "_law_by_sets" st__law_by_sets f0 cd A outer s H E) Γ (wOf E) [] [] [] (defBody st__law_by_sets) f__law_by_sets :=
  let c := i.c
  (fb_cons (fs_par2 2 3 c (fm_cl fe_int (fm_cl ((fe_lstR2 c T.b_list T.b_range fe_int (fe_sub c (fs_var 0) (fe_int).sh))).cl fm_nil))) (fb_cons (fs_for i.po (fi_rng1 T.b_range (fe_ix c.hK ((fe_lstF (fa_cons fe_int (fa_cons fe_int (fa_cons fe_int (fa_cons fe_int (fa_cons fe_int (fa_cons fe_int (fa_cons fe_int (fa_cons fe_int (fa_cons fe_int fa_nil))))))))))).cl.sh (fs_var 0))) (fg_name 1 c.nd) (fb_cons (fs_asg (fe_tup (fa_cons (fe_var 1) (fa_cons ((fe_lstF (fa_cons fe_int fa_nil))).cl fa_nil))) (fg_tup (fgs_cons (fg_name 8 c.nd) (fgs_cons (fg_name 5 c.nd) fgs_nil)) (len_nm (len_nm len_nil)))) (fb_cons (fs_for i.po (fi_seq c.hK (fe_var 3)) (fg_name 4 c.nd) (fb_cons (fs_set 5 (fe_ifE (fc_eq c ((fe_mod c ((fe_toint c T.b_int (fs_var 8))).sh (fe_int).sh)).sh (fe_int).sh) (fe_add c (fs_var 5) ((fe_lstF (fa_cons (fe_var 4) fa_nil))).cl.sh) (fe_var 5)) c.nd) (fb_one (fs_set 8 (fe_div c (fs_var 8) (fe_int).sh) c.nd)))) (fb_cons (fs_set 5 (fe_add c (fs_var 5) ((fe_lstR2 c T.b_list T.b_range (fe_var 0) (fe_add c ((fe_mul c (fe_int).sh (fs_var 0))).sh (fe_int).sh))).cl.sh) c.nd) (fb_cons (fs_set 6 fe_bl c.nd) (fb_cons (fs_for i.po (fi_seq c.hK (fe_var 5)) (fg_name 7 c.nd) (fb_one (fs_for i.po (fi_seq c.hK (fe_var 5)) (fg_name 9 c.nd) (fb_one (fs_if (fc_not (fc_val (fe_var 6))) (fb_one (fs_set 6 (fe_ne c ((fe_lc [("_law_z", 10)] c.nd (fi_seq c.hK (fe_var 5)) (blk_ok (by rfl)) (fun b1 s1 H1 C1 l1 p1 => (fg_name 10 (c.blk2 b1 s1 H1 _ _ p1).nd)) (fun b1 s1 H1 C1 l1 p1 => (fts_one ((fw_and (fc_le (c.blk2 b1 s1 H1 _ _ p1) (fs_var 10) ((fe_min2 (c.blk2 b1 s1 H1 _ _ p1) T.b_min (fs_var 7) (fs_var 9))).sh) (fw_and (fc_le (c.blk2 b1 s1 H1 _ _ p1) ((fe_sub (c.blk2 b1 s1 H1 _ _ p1) ((fe_add (c.blk2 b1 s1 H1 _ _ p1) (fs_var 7) (fs_var 9))).sh (fs_var 10))).sh ((fe_mul (c.blk2 b1 s1 H1 _ _ p1) (fe_int).sh (fs_var 0))).sh) (fw_and1 (fc_notin (c.blk2 b1 s1 H1 _ _ p1) ((fe_sub (c.blk2 b1 s1 H1 _ _ p1) ((fe_add (c.blk2 b1 s1 H1 _ _ p1) (fs_var 7) (fs_var 9))).sh (fs_var 10))).sh (fs_var 5)))))).toC)) (fun b1 s1 H1 C1 l1 p1 => (fe_var 10)))).cl.sh ((fe_lstF fa_nil)).cl.sh) c.nd)) fb_nil))))) (fb_one (fs_set 2 (fe_ifE (fc_val (fe_var 6)) (fe_var 2) (fe_add c (fs_var 2) (fe_int).sh)) c.nd)))))))) (fb_one (fs_ret (fe_var 2)))))
theorem def__law_by_sets (T : Tx P K mg CT C4 C5) (hm : mg "_law_by_sets" = some (.ref f0)) (Fu : Fun K "_law_by_sets" "_law_by_sets" st__law_by_sets f0 fd) : Def P w K mg base CT "_law_by_sets" st__law_by_sets P__law_by_sets 3 sp__law_by_sets :=
  def_of hm Fu sc__law_by_sets mf__law_by_sets fun A outer s H E cd Γ i => fb__law_by_sets T i
end
end Lk26
end Fy
set_option Elab.async false
set_option linter.all false
set_option maxRecDepth 100000
set_option maxHeartbeats 4000000
/-! The law law_k26_whole_counted_rows: the end, printed by emit2.py. -/
namespace Fy
namespace Lk26
open PySem L2 PySem.W
section
variable {P : Program} {w : World} {K : PySem.W.Frag} {mg : Str → Option Value} {base : Heap} {CT : Nat → Option Addr} {C4 C5 : Addr} {f0 : Addr} {fd : FuncData}
theorem any_walk (hi : mg "int" = none) (A : Around) (outer : List PySem.Env) (s : Shared) (H : Hp) (E : XK) (cd : Value) (hu : A.units + 100 < cLine) (po : PassesOwn (model P w) (A.deeper (PyProof.Rows.envOfC "_law_any" (defScope st__law_any) s.heap.objs.size f0 cd)) (PyProof.Rows.envOfC "_law_any" (defScope st__law_any) s.heap.objs.size f0 cd) (cxD P w K mg base anyN "_law_any" st__law_any f0 cd A outer s H E).xe) :
    PSs (cxD P w K mg base anyN "_law_any" st__law_any f0 cd A outer s H E) (defBody st__law_any) (tAny K) := by
  have hu' : (cxD P w K mg base anyN "_law_any" st__law_any f0 cd A outer s H E).A.units + 64 < cLine := by
    show A.units + 3 + 64 < cLine
    omega
  have nd : (cxD P w K mg base anyN "_law_any" st__law_any f0 cd A outer s H E).N.Nodup := sc__law_any.nd
  have bI : bootBuiltins ("int" : Str) = some (.type "int") := by decide +kernel
  exact pss_cons (ps_while po (pw_and (pt_cmpR (or_ne hu') (pe_ix or_ix (pe_var (i := 0) rfl (.inl rfl)) pe_int fun _ _ => rfl) (pe_lst pa_nil) rfl) (pw_and1 (pt_cmpR (or_eq hu') (pe_ix or_ix (pe_ix or_ix (pe_var (i := 0) rfl (.inl rfl)) pe_int fun _ _ => rfl) (pe_un un_neg pe_int) fun _ _ => rfl) pe_int rfl))).pt
      (pss_one (ps_expr (pe_bm0 PySem.F.plainAttrs_list PySem.F.slot_list_pop PySem.F.type_list_pop mt_pop (pe_ix or_ix (pe_var (i := 0) rfl (.inl rfl)) pe_int fun _ _ => rfl)))))
    (pss_cons (ps_if (pt_cmpR (or_ne hu') (pe_ix or_ix (pe_var (i := 0) rfl (.inl rfl)) pe_int fun _ _ => rfl) (pe_lst pa_nil) rfl)
      (pss_cons (ps_set (i := 2) nd rfl (.inl rfl) (pe_callTy call_int1 rfl hi bI (pa_cons (pe_bm0 PySem.F.plainAttrs_list PySem.F.slot_list_pop PySem.F.type_list_pop mt_pop (pe_ix or_ix (pe_var (i := 0) rfl (.inl rfl)) pe_int fun _ _ => rfl)) pa_nil)))
        (pss_cons (ps_expr (pe_bm PySem.F.plainAttrs_list PySem.F.slot_list_append PySem.F.type_list_append mt_append (pe_ix or_ix (pe_var (i := 0) rfl (.inl rfl)) pe_int fun _ _ => rfl) (pa_cons (pe_op op_fdivW (pe_var (i := 2) rfl (.inl rfl)) (pe_var (i := 1) rfl (.inl rfl))) pa_nil)))
          (pss_one (ps_ret (pe_op op_mod (pe_var (i := 2) rfl (.inl rfl)) (pe_var (i := 1) rfl (.inl rfl))))))) pss_nil)
    (pss_cons (ps_asg (pe_op op_mod (pe_callTy call_int1 rfl hi bI (pa_cons (pe_op op_add (pe_op op_mulF (pe_ix or_ix (pe_var (i := 0) rfl (.inl rfl)) pe_int fun _ _ => rfl) pe_int) pe_int) pa_nil)) pe_int) (pg_sub (pe_var (i := 0) rfl (.inl rfl)) pe_int set_list))
      (pss_one (ps_ret (pe_op op_mod (pe_callTy call_int1 rfl hi bI (pa_cons (pe_op op_fdivW (pe_ix or_ix (pe_var (i := 0) rfl (.inl rfl)) pe_int fun _ _ => rfl) pe_int) pa_nil)) (pe_var (i := 1) rfl (.inl rfl)))))))
theorem law_fn (T : Tx P K mg CT C4 C5) (D__law_draw : Def P w K mg base CT "_law_draw" st__law_draw P__law_draw 3 sp__law_draw) (D__law_any : Def P w K mg base CT "_law_any" st__law_any P__law_any 1 sp__law_any) (D__law_rows_low : Def P w K mg base CT "_law_rows_low" st__law_rows_low P__law_rows_low 5 sp__law_rows_low) (D__law_top : Def P w K mg base CT "_law_top" st__law_top P__law_top 3 sp__law_top) (D_how_many : Def P w K mg base CT "how_many" st_how_many P_how_many 9 sp_how_many) (D__law_by_sets : Def P w K mg base CT "_law_by_sets" st__law_by_sets P__law_by_sets 3 sp__law_by_sets) (D__law_asked : Def P w K mg base CT "_law_asked" st__law_asked P__law_asked 15 sp__law_asked) (D__law_of : Def P w K mg base CT "_law_of" st__law_of P__law_of 3 sp__law_of) (D__law_small_row : Def P w K mg base CT "_law_small_row" st__law_small_row P__law_small_row 5 sp__law_small_row) (D__law_row : Def P w K mg base CT "_law_row" st__law_row P__law_row 5 sp__law_row) (D__law_none_row : Def P w K mg base CT "_law_none_row" st__law_none_row P__law_none_row 5 sp__law_none_row) (Fu : Fun K "law" "law" st_law f0 fd) : FnG P w K mg base 16 f0 fd P_law (spLaw K Holds) :=
  fn_law (CT := CT) (k := 15) Fu sc_law rfl (by decide) (fun A outer s H E cd Γ i => let c := i.c; (fs_set 1 (fe_call c i.ct D__law_draw kw__law_draw (fa_cons (fe_var 0) (fa_cons fe_int fa_nil))) c.nd)) (fun A outer s H E cd Γ i => let c := i.c; (fb_cons (fs_set 2 (fe_ifE (fc_gt c ((fe_call c i.ct D__law_any kw__law_any (fa_cons (fe_var 1) (fa_cons fe_int fa_nil)))).sh (fe_int).sh) (fe_call c i.ct D__law_any kw__law_any (fa_cons (fe_var 1) (fa_cons fe_int fa_nil))) (fe_add c (fe_int).sh ((fe_call c i.ct D__law_any kw__law_any (fa_cons (fe_var 1) (fa_cons fe_int fa_nil)))).sh)) c.nd) (fb_cons (fs_set 3 (fe_sortR c T.b_sorted ((fe_lc [("_law_row_here", 6)] c.nd (fi_seq c.hK (fe_call c i.ct D__law_rows_low kw__law_rows_low (fa_cons fe_int (fa_cons (fe_var 2) fa_nil)))) (blk_ok (by rfl)) (fun b1 s1 H1 C1 l1 p1 => (fg_name 6 (c.blk2 b1 s1 H1 _ _ p1).nd)) (fun b1 s1 H1 C1 l1 p1 => (fts_one (fc_eq (c.blk2 b1 s1 H1 _ _ p1) ((fe_call (c.blk2 b1 s1 H1 _ _ p1) i.ct D__law_top kw__law_top (fa_cons (fe_var 6) fa_nil))).sh (fs_var 2)))) (fun b1 s1 H1 C1 l1 p1 => (fe_var 6)))).cl.sh) c.nd) (fb_cons (fs_if ((fw_or (fc_ne c ((fe_repr c T.b_repr ((fe_call c i.ct D_how_many kw_how_many (fa_cons (fe_var 2) fa_nil))).sh)).sh ((fe_repr c T.b_repr ((fe_len c T.b_len (fs_var 3))).sh)).sh) (fw_or1 (fc_ne c ((fe_repr c T.b_repr ((fe_callK [0] c i.ct D_how_many kw_how_many_0 (fk_cons (fe_var 2) fk_nil))).sh)).sh ((fe_repr c T.b_repr ((fe_len c T.b_len (fs_var 3))).sh)).sh)))).toC (fb_one (fs_ret fe_bl)) fb_nil) (fb_cons (fs_set 4 (fe_add c (fe_int).sh ((fe_call c i.ct D__law_any kw__law_any (fa_cons (fe_var 1) (fa_cons fe_int fa_nil)))).sh) c.nd) (fb_cons (fs_if ((fw_or (fc_ne c ((fe_call c i.ct D_how_many kw_how_many (fa_cons (fe_var 4) fa_nil))).sh ((fe_call c i.ct D__law_by_sets kw__law_by_sets (fa_cons (fe_var 4) fa_nil))).sh) (fw_or (fc_ne c ((fe_call c i.ct D_how_many kw_how_many (fa_cons fe_int fa_nil))).sh (fe_int).sh) (fw_or1 (fc_ne c ((fe_call c i.ct D_how_many kw_how_many (fa_cons fe_int fa_nil))).sh (fe_int).sh))))).toC (fb_one (fs_ret fe_bl)) fb_nil) (fb_cons (fs_for i.po (fi_rng1 T.b_range fe_int) (fg_name 5 c.nd) (fb_cons (fs_set 7 (fe_call c i.ct D__law_any kw__law_any (fa_cons (fe_var 1) (fa_cons (fe_add c ((fe_len c T.b_len (fs_var 3))).sh (fe_int).sh) fa_nil))) c.nd) (fb_cons (fs_if (fc_ne c ((fe_repr c T.b_repr ((fe_call c i.ct D__law_asked kw__law_asked (fa_cons fe_int (fa_cons (fe_var 2) (fa_cons (fe_var 7) fa_nil))))).sh)).sh ((fe_repr c T.b_repr ((fe_ifE (fc_lt c (fs_var 7) ((fe_len c T.b_len (fs_var 3))).sh) (fe_tup (fa_cons fe_str (fa_cons (fe_ix c.hK (fs_var 3) (fs_var 7)) fa_nil))) (fe_tup (fa_cons fe_str (fa_cons fe_int fa_nil))))).sh)).sh) (fb_one (fs_ret fe_bl)) fb_nil) (fb_one (fs_if ((fw_and (fc_lt c (fs_var 7) ((fe_len c T.b_len (fs_var 3))).sh) (fw_and1 (fc_ne c ((fe_repr c T.b_repr ((fe_call c i.ct D__law_asked kw__law_asked (fa_cons fe_int (fa_cons (fe_ix c.hK (fs_var 3) (fs_var 7)) (fa_cons fe_non fa_nil))))).sh)).sh ((fe_repr c T.b_repr ((fe_tup (fa_cons fe_str (fa_cons (fe_var 7) fa_nil)))).sh)).sh)))).toC (fb_one (fs_ret fe_bl)) fb_nil))))) (fb_cons (fs_if (fc_ne c ((fe_call c i.ct D__law_asked kw__law_asked (fa_cons fe_int (fa_cons (fe_var 2) (fa_cons (fe_pow c (fe_int).sh (fe_int).sh) fa_nil))))).sh ((fe_tup (fa_cons fe_str (fa_cons fe_int fa_nil)))).sh) (fb_one (fs_ret fe_bl)) fb_nil) (fb_cons (fs_set 6 (fe_call c i.ct D__law_of kw__law_of (fa_cons (fe_var 1) (fa_cons ((fe_lstF (fa_cons (fe_call c i.ct D__law_row kw__law_row (fa_cons (fe_var 1) fa_nil)) (fa_cons (fe_call c i.ct D__law_small_row kw__law_small_row (fa_cons (fe_var 1) fa_nil)) (fa_cons (fe_tup (fa_cons (fe_tup fa_nil) (fa_cons fe_int fa_nil))) (fa_cons (fe_tup (fa_cons (fe_tup fa_nil) (fa_cons fe_int fa_nil))) (fa_cons (fe_tup (fa_cons (fe_tup (fa_cons (fe_tup (fa_cons fe_int (fa_cons fe_int fa_nil))) fa_nil)) (fa_cons fe_int fa_nil))) (fa_cons (fe_tup (fa_cons (fe_tup (fa_cons (fe_tup (fa_cons fe_int (fa_cons fe_int fa_nil))) fa_nil)) (fa_cons fe_int fa_nil))) fa_nil)))))))).cl fa_nil))) c.nd) (fb_cons (fs_if ((fw_and ((fw_or (fc_ne c ((fe_ix c.hK (fs_var 6) (fe_int).sh)).sh (fe_int).sh) (fw_or1 (fc_gt c ((fe_call c i.ct D__law_top kw__law_top (fa_cons (fe_var 6) fa_nil))).sh (fe_int).sh)))).toC (fw_and1 (fc_ne c ((fe_call c i.ct D__law_asked kw__law_asked (fa_cons fe_int (fa_cons (fe_var 6) (fa_cons fe_non fa_nil))))).sh ((fe_tup (fa_cons fe_str (fa_cons fe_int fa_nil)))).sh)))).toC (fb_one (fs_ret fe_bl)) fb_nil) (fb_one (fs_ret (fe_eq c ((fe_call c i.ct D__law_asked kw__law_asked (fa_cons fe_int (fa_cons (fe_call c i.ct D__law_none_row kw__law_none_row (fa_cons (fe_var 1) fa_nil)) (fa_cons fe_non fa_nil))))).sh ((fe_tup (fa_cons fe_str (fa_cons fe_int fa_nil)))).sh)))))))))))))
end
theorem all_mk {P : Program} {w : World} {K : PySem.W.Frag} {h : Heap} {mg : Str → Option Value} {fa : Addr} {C4 C5 : Addr} (X : K.In h) (G : h.Ns mainGlobals mg) (hfa : mg "law" = some (.ref fa)) (d_is_integer : D0 K "is_integer" st_is_integer) (d_is_number : D0 K "is_number" st_is_number) (d_is_run : D0 K "is_run" st_is_run) (d_is_within : D0 K "is_within" st_is_within) (d_is_falling : D0 K "is_falling" st_is_falling) (d_checked_falling : D0 K "checked_falling" st_checked_falling) (d_lifted : D0 K "lifted" st_lifted) (d_steps_for : D0 K "steps_for" st_steps_for) (d_rows_with : D0 K "rows_with" st_rows_with) (d_sum_of : D0 K "sum_of" st_sum_of) (d_rows_of : D0 K "rows_of" st_rows_of) (d_how_many : D0 K "how_many" st_how_many) (d_row_at : D0 K "row_at" st_row_at) (d_index_of : D0 K "index_of" st_index_of) (d__law_draw : D0 K "_law_draw" st__law_draw) (d__law_any : D0 K "_law_any" st__law_any) (d__law_of : D0 K "_law_of" st__law_of) (d__law_in : D0 K "_law_in" st__law_in) (d__law_euclid : D0 K "_law_euclid" st__law_euclid) (d__law_row : D0 K "_law_row" st__law_row) (d__law_small_row : D0 K "_law_small_row" st__law_small_row) (d__law_top : D0 K "_law_top" st__law_top) (d__law_none_row : D0 K "_law_none_row" st__law_none_row) (d__law_rows_low : D0 K "_law_rows_low" st__law_rows_low) (d__law_asked : D0 K "_law_asked" st__law_asked) (d__law_by_sets : D0 K "_law_by_sets" st__law_by_sets) (d_law : D0 K "law" st_law) (e_4 : E0 P K "InvalidQuestion" C4) (e_5 : E0 P K "Refused" C5) (x_4_4 : PySem.W.exmOne K (.ref C4) (.ref C4) = some true) (x_4_5 : PySem.W.exmOne K (.ref C4) (.ref C5) = some false) (x_5_4 : PySem.W.exmOne K (.ref C5) (.ref C4) = some false) (x_5_5 : PySem.W.exmOne K (.ref C5) (.ref C5) = some true) (z_abs : PySem.W.nsIn K mainGlobals "abs" = some none) (z_all : PySem.W.nsIn K mainGlobals "all" = some none) (z_bool : PySem.W.nsIn K mainGlobals "bool" = some none) (z_int : PySem.W.nsIn K mainGlobals "int" = some none) (z_isinstance : PySem.W.nsIn K mainGlobals "isinstance" = some none) (z_len : PySem.W.nsIn K mainGlobals "len" = some none) (z_list : PySem.W.nsIn K mainGlobals "list" = some none) (z_min : PySem.W.nsIn K mainGlobals "min" = some none) (z_range : PySem.W.nsIn K mainGlobals "range" = some none) (z_repr : PySem.W.nsIn K mainGlobals "repr" = some none) (z_set : PySem.W.nsIn K mainGlobals "set" = some none) (z_sorted : PySem.W.nsIn K mainGlobals "sorted" = some none) (z_sum : PySem.W.nsIn K mainGlobals "sum" = some none) (z_super : PySem.W.nsIn K mainGlobals "super" = some none) (z_tuple : PySem.W.nsIn K mainGlobals "tuple" = some none) :
    ∃ fd : FuncData, (∀ (s : Shared) (u : Value), BindsTo s fd ⟨[u], []⟩ [("_law_script", u)]) ∧ ∀ base : Heap, K.In base → base.Ns mainGlobals mg → FnG P w K mg base 16 fa fd P_law (spLaw K Holds) := by
  obtain ⟨f_is_integer, fd_is_integer, m_is_integer, F_is_integer⟩ := d0_def X G d_is_integer
  obtain ⟨f_is_number, fd_is_number, m_is_number, F_is_number⟩ := d0_def X G d_is_number
  obtain ⟨f_is_run, fd_is_run, m_is_run, F_is_run⟩ := d0_def X G d_is_run
  obtain ⟨f_is_within, fd_is_within, m_is_within, F_is_within⟩ := d0_def X G d_is_within
  obtain ⟨f_is_falling, fd_is_falling, m_is_falling, F_is_falling⟩ := d0_def X G d_is_falling
  obtain ⟨f_checked_falling, fd_checked_falling, m_checked_falling, F_checked_falling⟩ := d0_def X G d_checked_falling
  obtain ⟨f_lifted, fd_lifted, m_lifted, F_lifted⟩ := d0_def X G d_lifted
  obtain ⟨f_steps_for, fd_steps_for, m_steps_for, F_steps_for⟩ := d0_def X G d_steps_for
  obtain ⟨f_rows_with, fd_rows_with, m_rows_with, F_rows_with⟩ := d0_def X G d_rows_with
  obtain ⟨f_sum_of, fd_sum_of, m_sum_of, F_sum_of⟩ := d0_def X G d_sum_of
  obtain ⟨f_rows_of, fd_rows_of, m_rows_of, F_rows_of⟩ := d0_def X G d_rows_of
  obtain ⟨f_how_many, fd_how_many, m_how_many, F_how_many⟩ := d0_def X G d_how_many
  obtain ⟨f_row_at, fd_row_at, m_row_at, F_row_at⟩ := d0_def X G d_row_at
  obtain ⟨f_index_of, fd_index_of, m_index_of, F_index_of⟩ := d0_def X G d_index_of
  obtain ⟨f__law_draw, fd__law_draw, m__law_draw, F__law_draw⟩ := d0_def X G d__law_draw
  obtain ⟨f__law_any, fd__law_any, m__law_any, F__law_any⟩ := d0_def X G d__law_any
  obtain ⟨f__law_of, fd__law_of, m__law_of, F__law_of⟩ := d0_def X G d__law_of
  obtain ⟨f__law_in, fd__law_in, m__law_in, F__law_in⟩ := d0_def X G d__law_in
  obtain ⟨f__law_euclid, fd__law_euclid, m__law_euclid, F__law_euclid⟩ := d0_def X G d__law_euclid
  obtain ⟨f__law_row, fd__law_row, m__law_row, F__law_row⟩ := d0_def X G d__law_row
  obtain ⟨f__law_small_row, fd__law_small_row, m__law_small_row, F__law_small_row⟩ := d0_def X G d__law_small_row
  obtain ⟨f__law_top, fd__law_top, m__law_top, F__law_top⟩ := d0_def X G d__law_top
  obtain ⟨f__law_none_row, fd__law_none_row, m__law_none_row, F__law_none_row⟩ := d0_def X G d__law_none_row
  obtain ⟨f__law_rows_low, fd__law_rows_low, m__law_rows_low, F__law_rows_low⟩ := d0_def X G d__law_rows_low
  obtain ⟨f__law_asked, fd__law_asked, m__law_asked, F__law_asked⟩ := d0_def X G d__law_asked
  obtain ⟨f__law_by_sets, fd__law_by_sets, m__law_by_sets, F__law_by_sets⟩ := d0_def X G d__law_by_sets
  obtain ⟨f_law, fd_law, m_law, F_law⟩ := d0_def X G d_law
  obtain rfl : f_law = fa := by
    rw [hfa] at m_law
    injection m_law with q
    injection q with q
    exact q.symm
  let CT : Nat → Option Addr := fun t => if t = 4 then some C4 else if t = 5 then some C5 else none
  have T : Tx P K mg CT C4 C5 := {
    b_abs := mg_none_of X G z_abs
    b_all := mg_none_of X G z_all
    b_bool := mg_none_of X G z_bool
    b_int := mg_none_of X G z_int
    b_isinstance := mg_none_of X G z_isinstance
    b_len := mg_none_of X G z_len
    b_list := mg_none_of X G z_list
    b_min := mg_none_of X G z_min
    b_range := mg_none_of X G z_range
    b_repr := mg_none_of X G z_repr
    b_set := mg_none_of X G z_set
    b_sorted := mg_none_of X G z_sorted
    b_sum := mg_none_of X G z_sum
    b_tuple := mg_none_of X G z_tuple
    ct_InvalidQuestion := by simp [CT]
    e_InvalidQuestion := e_4.2 _ (mg_of X G e_4.1) (mg_none_of X G z_super)
    g_InvalidQuestion := mg_of X G e_4.1
    x_InvalidQuestion := fun t C h => by
        by_cases h4 : t = 4
        · subst h4
          obtain rfl : C4 = C := by simpa [CT] using h
          exact x_4_4
        by_cases h5 : t = 5
        · subst h5
          obtain rfl : C5 = C := by simpa [CT] using h
          exact x_5_4
        exact absurd h (by simp [CT, h4, h5])

    ct_Refused := by simp [CT]
    e_Refused := e_5.2 _ (mg_of X G e_5.1) (mg_none_of X G z_super)
    g_Refused := mg_of X G e_5.1
    x_Refused := fun t C h => by
        by_cases h4 : t = 4
        · subst h4
          obtain rfl : C4 = C := by simpa [CT] using h
          exact x_4_5
        by_cases h5 : t = 5
        · subst h5
          obtain rfl : C5 = C := by simpa [CT] using h
          exact x_5_5
        exact absurd h (by simp [CT, h4, h5])

    xf := fun {t C} h => by
        by_cases h4 : t = 4
        · subst h4
          obtain rfl : C4 = C := by simpa [CT] using h
          exact ⟨(e_4.2 _ (mg_of X G e_4.1) (mg_none_of X G z_super)).xf, (e_4.2 _ (mg_of X G e_4.1) (mg_none_of X G z_super)).at_⟩
        by_cases h5 : t = 5
        · subst h5
          obtain rfl : C5 = C := by simpa [CT] using h
          exact ⟨(e_5.2 _ (mg_of X G e_5.1) (mg_none_of X G z_super)).xf, (e_5.2 _ (mg_of X G e_5.1) (mg_none_of X G z_super)).at_⟩
        exact absurd h (by simp [CT, h4, h5])

  }
  refine ⟨fd_law, fun s u => ?_, fun base _ _ => ?_⟩
  · obtain ⟨oc, od, kV, doc, pm, an, cdv, ct, osl, rfl, lk, hcd⟩ := F_law.ex
    exact .of_eq rfl
  · have D__law_any : Def P w K mg base CT "_law_any" st__law_any P__law_any 1 sp__law_any := def_any m__law_any F__law_any sc__law_any fun A outer s H E cd hu po => any_walk (mg_none_of X G z_int) A outer s H E cd hu po
    have D_is_integer := def_is_integer (w := w) (base := base) T m_is_integer F_is_integer
    have D_is_number := def_is_number (w := w) (base := base) T D_is_integer m_is_number F_is_number
    have D_is_run := def_is_run (w := w) (base := base) T D_is_number m_is_run F_is_run
    have D_is_within := def_is_within (w := w) (base := base) T m_is_within F_is_within
    have D_is_falling := def_is_falling (w := w) (base := base) T D_is_number D_is_run D_is_within m_is_falling F_is_falling
    have D_checked_falling := def_checked_falling (w := w) (base := base) T D_is_falling m_checked_falling F_checked_falling
    have D_lifted := def_lifted (w := w) (base := base) T m_lifted F_lifted
    have D_steps_for := def_steps_for (w := w) (base := base) T m_steps_for F_steps_for
    have D_rows_with := def_rows_with (w := w) (base := base) T D_steps_for D_lifted m_rows_with F_rows_with
    have D_sum_of := def_sum_of (w := w) (base := base) T m_sum_of F_sum_of
    have D_rows_of := def_rows_of (w := w) (base := base) T D_rows_with D_sum_of m_rows_of F_rows_of
    have D_how_many := def_how_many (w := w) (base := base) T D_rows_of m_how_many F_how_many
    have D_row_at := def_row_at (w := w) (base := base) T D_rows_of m_row_at F_row_at
    have D_index_of := def_index_of (w := w) (base := base) T D_sum_of D_checked_falling D_rows_of m_index_of F_index_of
    have D__law_draw := def__law_draw (w := w) (base := base) T m__law_draw F__law_draw
    have D__law_of := def__law_of (w := w) (base := base) T D__law_any m__law_of F__law_of
    have D__law_in := def__law_in (w := w) (base := base) T m__law_in F__law_in
    have D__law_euclid := def__law_euclid (w := w) (base := base) T m__law_euclid F__law_euclid
    have D__law_row := def__law_row (w := w) (base := base) T D__law_any D__law_euclid D__law_of m__law_row F__law_row
    have D__law_small_row := def__law_small_row (w := w) (base := base) T D__law_of D__law_any D__law_euclid m__law_small_row F__law_small_row
    have D__law_top := def__law_top (w := w) (base := base) T m__law_top F__law_top
    have D__law_none_row := def__law_none_row (w := w) (base := base) T D__law_of m__law_none_row F__law_none_row
    have D__law_rows_low := def__law_rows_low (w := w) (base := base) T D__law_in m__law_rows_low F__law_rows_low
    have D__law_asked := def__law_asked (w := w) (base := base) T D_row_at D_index_of m__law_asked F__law_asked
    have D__law_by_sets := def__law_by_sets (w := w) (base := base) T m__law_by_sets F__law_by_sets
    exact law_fn T D__law_draw D__law_any D__law_rows_low D__law_top D_how_many D__law_by_sets D__law_asked D__law_of D__law_small_row D__law_row D__law_none_row F_law
end Lk26
end Fy

open PySem PySem.W PyProof.Rows in
set_option maxRecDepth 100000 in
set_option maxHeartbeats 0 in
theorem PySem.Challenge.cw_bodyforbody_k26_whole_counted_rows_holds : PySem.Challenge.rw_bodyforbody_k26_whole_counted_rows.Holds := by
  w_on; o_law; k_head; (case hw => w_witness2)
  k_fill
  refine Fy.law_walk (l := PySem.Challenge.rw_bodyforbody_k26_whole_counted_rows) (n := 63) (k := 16) (p0 := "_law_script") (L := Fy.Lk26.Holds) rfl (by decide) rfl ⟨rfl, by decide, by decide⟩ (fun w h Y => PySem.W.kIn_of Y) Fy.Lk26.holds ?F
  case F =>
    intro w mg fa h KX G hmg
    refine' Fy.Lk26.all_mk KX G hmg ?d_is_integer ?d_is_number ?d_is_run ?d_is_within ?d_is_falling ?d_checked_falling ?d_lifted ?d_steps_for ?d_rows_with ?d_sum_of ?d_rows_of ?d_how_many ?d_row_at ?d_index_of ?d__law_draw ?d__law_any ?d__law_of ?d__law_in ?d__law_euclid ?d__law_row ?d__law_small_row ?d__law_top ?d__law_none_row ?d__law_rows_low ?d__law_asked ?d__law_by_sets ?d_law ?e_4 ?e_5 ?x_4_4 ?x_4_5 ?x_5_4 ?x_5_5 ?z_abs ?z_all ?z_bool ?z_int ?z_isinstance ?z_len ?z_list ?z_min ?z_range ?z_repr ?z_set ?z_sorted ?z_sum ?z_super ?z_tuple
    (case d_is_integer => (refine' Fy.d0_mk ?a ?l ?c ?k; (case a => k_is); (case l => k_is); (case c => k_is); (case k => k_is)))
    (case d_is_number => (refine' Fy.d0_mk ?a ?l ?c ?k; (case a => k_is); (case l => k_is); (case c => k_is); (case k => k_is)))
    (case d_is_run => (refine' Fy.d0_mk ?a ?l ?c ?k; (case a => k_is); (case l => k_is); (case c => k_is); (case k => k_is)))
    (case d_is_within => (refine' Fy.d0_mk ?a ?l ?c ?k; (case a => k_is); (case l => k_is); (case c => k_is); (case k => k_is)))
    (case d_is_falling => (refine' Fy.d0_mk ?a ?l ?c ?k; (case a => k_is); (case l => k_is); (case c => k_is); (case k => k_is)))
    (case d_checked_falling => (refine' Fy.d0_mk ?a ?l ?c ?k; (case a => k_is); (case l => k_is); (case c => k_is); (case k => k_is)))
    (case d_lifted => (refine' Fy.d0_mk ?a ?l ?c ?k; (case a => k_is); (case l => k_is); (case c => k_is); (case k => k_is)))
    (case d_steps_for => (refine' Fy.d0_mk ?a ?l ?c ?k; (case a => k_is); (case l => k_is); (case c => k_is); (case k => k_is)))
    (case d_rows_with => (refine' Fy.d0_mk ?a ?l ?c ?k; (case a => k_is); (case l => k_is); (case c => k_is); (case k => k_is)))
    (case d_sum_of => (refine' Fy.d0_mk ?a ?l ?c ?k; (case a => k_is); (case l => k_is); (case c => k_is); (case k => k_is)))
    (case d_rows_of => (refine' Fy.d0_mk ?a ?l ?c ?k; (case a => k_is); (case l => k_is); (case c => k_is); (case k => k_is)))
    (case d_how_many => (refine' Fy.d0_mk ?a ?l ?c ?k; (case a => k_is); (case l => k_is); (case c => k_is); (case k => k_is)))
    (case d_row_at => (refine' Fy.d0_mk ?a ?l ?c ?k; (case a => k_is); (case l => k_is); (case c => k_is); (case k => k_is)))
    (case d_index_of => (refine' Fy.d0_mk ?a ?l ?c ?k; (case a => k_is); (case l => k_is); (case c => k_is); (case k => k_is)))
    (case d__law_draw => (refine' Fy.d0_mk ?a ?l ?c ?k; (case a => k_is); (case l => k_is); (case c => k_is); (case k => k_is)))
    (case d__law_any => (refine' Fy.d0_mk ?a ?l ?c ?k; (case a => k_is); (case l => k_is); (case c => k_is); (case k => k_is)))
    (case d__law_of => (refine' Fy.d0_mk ?a ?l ?c ?k; (case a => k_is); (case l => k_is); (case c => k_is); (case k => k_is)))
    (case d__law_in => (refine' Fy.d0_mk ?a ?l ?c ?k; (case a => k_is); (case l => k_is); (case c => k_is); (case k => k_is)))
    (case d__law_euclid => (refine' Fy.d0_mk ?a ?l ?c ?k; (case a => k_is); (case l => k_is); (case c => k_is); (case k => k_is)))
    (case d__law_row => (refine' Fy.d0_mk ?a ?l ?c ?k; (case a => k_is); (case l => k_is); (case c => k_is); (case k => k_is)))
    (case d__law_small_row => (refine' Fy.d0_mk ?a ?l ?c ?k; (case a => k_is); (case l => k_is); (case c => k_is); (case k => k_is)))
    (case d__law_top => (refine' Fy.d0_mk ?a ?l ?c ?k; (case a => k_is); (case l => k_is); (case c => k_is); (case k => k_is)))
    (case d__law_none_row => (refine' Fy.d0_mk ?a ?l ?c ?k; (case a => k_is); (case l => k_is); (case c => k_is); (case k => k_is)))
    (case d__law_rows_low => (refine' Fy.d0_mk ?a ?l ?c ?k; (case a => k_is); (case l => k_is); (case c => k_is); (case k => k_is)))
    (case d__law_asked => (refine' Fy.d0_mk ?a ?l ?c ?k; (case a => k_is); (case l => k_is); (case c => k_is); (case k => k_is)))
    (case d__law_by_sets => (refine' Fy.d0_mk ?a ?l ?c ?k; (case a => k_is); (case l => k_is); (case c => k_is); (case k => k_is)))
    (case d_law => (refine' Fy.d0_mk ?a ?l ?c ?k; (case a => k_is); (case l => k_is); (case c => k_is); (case k => k_is)))
    (case e_4 =>
      refine' Fy.e0_mk ?aC ?xL ?hb ?sa ?eC ?tC ?kC ?nb ?su ?sv ?mr ?ga ?gg ?hd ?a1 ?t1 ?l1 ?c1 ?e1 ?lc ?hv ?hf ?lcc ?hD ?par ?par2 ?sk ?sc ?s1 ?s2 ?s3 ?s4 ?sic ?top ?any ?bn
      (case aC => k_is); (case xL => k_is); (case hb => first | rfl | decide +kernel); (case sa => k_is); (case eC => k_is); (case tC => k_is); (case kC => k_is); (case nb => k_is); (case su => first | ks_is | k_is | rfl); (case sv => k_is); (case mr => k_is); (case ga => k_is); (case gg => k_is); (case hd => k_is)
      (case a1 => k_is); (case t1 => k_is); (case l1 => k_is); (case c1 => k_is); (case e1 => rfl); (case lc => k_is); (case hv => rfl); (case hf => first | rfl | decide +kernel); (case lcc => k_is); (case hD => k_is); (case par => rfl); (case par2 => rfl); (case sk => exact ⟨rfl, rfl, rfl⟩); (case sc => decide +kernel)
      (case s1 => rfl); (case s2 => rfl); (case s3 => rfl); (case s4 => rfl); (case sic => exact fun _ => ⟨_, rfl⟩); (case top => first | rfl | decide +kernel); (case any => k_is); (case bn => exact fun s us hl => match us, hl with | [_, _], _ => .of_eq rfl))
    (case e_5 =>
      refine' Fy.e0_mk ?aC ?xL ?hb ?sa ?eC ?tC ?kC ?nb ?su ?sv ?mr ?ga ?gg ?hd ?a1 ?t1 ?l1 ?c1 ?e1 ?lc ?hv ?hf ?lcc ?hD ?par ?par2 ?sk ?sc ?s1 ?s2 ?s3 ?s4 ?sic ?top ?any ?bn
      (case aC => k_is); (case xL => k_is); (case hb => first | rfl | decide +kernel); (case sa => k_is); (case eC => k_is); (case tC => k_is); (case kC => k_is); (case nb => k_is); (case su => first | ks_is | k_is | rfl); (case sv => k_is); (case mr => k_is); (case ga => k_is); (case gg => k_is); (case hd => k_is)
      (case a1 => k_is); (case t1 => k_is); (case l1 => k_is); (case c1 => k_is); (case e1 => rfl); (case lc => k_is); (case hv => rfl); (case hf => first | rfl | decide +kernel); (case lcc => k_is); (case hD => k_is); (case par => rfl); (case par2 => rfl); (case sk => exact ⟨rfl, rfl, rfl⟩); (case sc => decide +kernel)
      (case s1 => rfl); (case s2 => rfl); (case s3 => rfl); (case s4 => rfl); (case sic => exact fun _ => ⟨_, rfl⟩); (case top => first | rfl | decide +kernel); (case any => k_is); (case bn => exact fun s us hl => match us, hl with | [_, _], _ => .of_eq rfl))
    (case x_4_4 => first | k_is | rfl | decide +kernel)
    (case x_4_5 => first | k_is | rfl | decide +kernel)
    (case x_5_4 => first | k_is | rfl | decide +kernel)
    (case x_5_5 => first | k_is | rfl | decide +kernel)
    (case z_abs => k_is)
    (case z_all => k_is)
    (case z_bool => k_is)
    (case z_int => k_is)
    (case z_isinstance => k_is)
    (case z_len => k_is)
    (case z_list => k_is)
    (case z_min => k_is)
    (case z_range => k_is)
    (case z_repr => k_is)
    (case z_set => k_is)
    (case z_sorted => k_is)
    (case z_sum => k_is)
    (case z_super => k_is)
    (case z_tuple => k_is)
