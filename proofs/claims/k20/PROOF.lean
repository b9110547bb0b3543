import PyProof.Rows.All
import PySem.Challenge.RW_quietlots_k20_error_classes
import PyProof.EqLayable
import KE.SortData
import KE.DataMinMax
import PyProof.ReprLoop
import PyProof.StrBlockL
import PyProof.StrCalls6
import KE.IntText
import Wide.All
import OpenK.AllK
import Wide.FinOn
import HandS.ForMost
import HandS.Exc
import HandS.ExcOwn
import HandS.TupAny
import HandS.Wide
import HandS.Zip
import HandS.Conv
import HandS.Style
import HandS.IsInst
import HandS.Lambda
import HandS.HeadHook4
import HandS.Dict
import HandS.ExcInit
import HandS.TupMul
import HandS.TupLe
import HandS.WordsExc
import HandS.Defaults
import HandS.TryMany
import HandS.ExcField
import HandS.CallLocal
import HandS.NestedK
import HandS.SetFor
import HandS.TupSets
import HandS.Strs
import PyProof.Rows.RowBridgeK
import HandS.HeadHook2
import HandS.HeadWalk
import HandS.SetBool
import PyProof.ReprRoads
import HandS.Text
import HandS.ExcValue
import HandS.ExcIs
import KE.KExcStr
import KE.KStateDown
import HandS.Head0
import HandS.Head1
import HandS.Head2
import HandS.HeadEnd
import HandS.HeadHook1
import HandS.HeadHook3
set_option Elab.async false
set_option autoImplicit false
set_option linter.all false
set_option maxRecDepth 100000
/-! Ev -/
/-! A small language over data, with a store of mutable lists; what its terms evaluate to. -/
namespace Qv
open PySem

/-- an exception as a value: its class, its text; or what its field holds -/
inductive XV where
  | msg (c m : Str)
  | own (c : Str) (y : PyData)
def XV.cls : XV → Str
  | .msg c _ => c
  | .own c _ => c
/-- cells that are no lists -/
inductive Kd where
  | dic
  | ins (c : Str)
/-- a value: data, the k-th mutable list of the store, or the script; c: a cell of another kind -/
inductive W where
  | f (x : Str)
  | d (x : PyData)
  | m (k : Nat)
  | scr (ns : List Int)
  | c (κ : Kd) (k : Nat)
  | xo (e : XV)
  | xl (l : List XV)
abbrev Sto := List (List PyData)
abbrev Env := List (Option W)
/-- an exception: its class, and what its field holds -/
structure Exn where
  cls : Str
  arg : Option PyData
inductive Rs (α : Type) where
  | ok (a : α) (s : Sto)
  | ex (e : Exn) (s : Sto)
abbrev M (α : Type) := Sto → Option (Rs α)
def M.ret {α : Type} (a : α) : M α := fun s => some (.ok a s)
def M.no {α : Type} : M α := fun _ => none
def M.opt {α : Type} (o : Option α) : M α := fun s => match o with
  | none => none
  | some a => some (.ok a s)
def M.bnd {α β : Type} (m : M α) (f : α → M β) : M β := fun s => match m s with
  | none => none
  | some (.ok a s') => f a s'
  | some (.ex e s') => some (.ex e s')
def M.exn {α : Type} (e : Exn) : M α := fun s => some (.ex e s)

/-- what a value is as data, now -/
def W.get : W → Sto → Option PyData
  | .d x, _ => some x
  | .m k, s => match s[k]? with
    | none => none
    | some ds => some (.list ds)
  | .scr _, _ => none
  | .f _, _ => none
  | .c _ _, _ => none
  | .xo _, _ => none
  | .xl _, _ => none
def look (w : W) : M PyData := fun s => match w.get s with
  | none => none
  | some x => some (.ok x s)
def looks : List W → M (List PyData)
  | [] => M.ret []
  | w :: ws => (look w).bnd fun x => (looks ws).bnd fun xs => M.ret (x :: xs)

/-- the greatest length -/
def line : Nat := 16777216

inductive Bop where | add | sub | mul | fdiv | mod | pow
inductive Cop where | eq | ne | lt | le | gt | ge | isin | nin | is | isnt
inductive Prim where
  | sortsett | len | abs | int | bool | tuple | list | rng1 | rng2 | trng1 | trng2 | sorted | sortset | lenset | min2 | max2 | minl | maxl | mind | sum | str | sortsetb | tmul | lmul | rev | index | split | join | sint | insub | sto | sfrom | six | slen | maxt | strt
  | isInt | isBool | isTup | isStr
inductive Tg where
  | nm (i : Nat)
  | tp (is : List Nat)
mutual
inductive IE where
  | var (i : Nat)
  | cst (d : PyData)
  | tup (es : IEs)
  | lst (es : IEs)
  | mls (es : IEs)
  | neg (a : IE)
  | bin (o : Bop) (a b : IE)
  | cmp (o : Cop) (a b : IE)
  | chn (o p : Cop) (a b c : IE)
  | and (a b : IE)
  | or (a b : IE)
  | not (a : IE)
  | ifx (t a b : IE)
  | ix (a i : IE)
  | sl (a : IE) (lo hi : IO)
  | slen (a : IE)
  | six (a i : IE)
  | fn (k : Nat) (es : IEs)
  | pr (p : Prim) (es : IEs)
  | word (e : IE)
  | wordO (e : IE)
  | mk (e : IE)
  | fnv (i : Nat) (fs : List (Str × Nat)) (es : IEs)
  | lc (own : List Nat) (g : Tg) (it : IT) (t : IO) (e : IE)
  | xnew (c m : Str)
  | xown (c : Str) (e : IE)
  | xlst (es : IEs)
  | xcat (a b : IE)
  | xlen (a : IE)
  | xix (a i : IE)
  | xis (a : IE) (c : Str)
  | xstr (a : IE)
  | xarg (a : IE) (f : Str)
  | dnew
  | dget (a k x : IE)
  | dix (a k : IE)
  | lc2 (own : List Nat) (g : Tg) (it : IT) (t : IO) (own1 : List Nat) (g1 : Tg) (it1 : IT) (t1 : IO) (e : IE)
inductive IEs where
  | nil
  | cons (e : IE) (es : IEs)
inductive IO where
  | no
  | so (e : IE)
inductive IT where
  | seq (e : IE)
  | rng1 (e : IE)
  | rng2 (a b : IE)
  | zip (a b : IE)
  | enm (e : IE)
end
mutual
inductive IS where
  | asg (i : Nat) (e : IE)
  | par (is : List Nat) (es : IEs)
  | unp (g : Tg) (e : IE)
  | sti (a i e : IE)
  | app (a e : IE)
  | ex (e : IE)
  | ret (e : IE)
  | retN
  | ifs (t : IE) (a b : ISs)
  | forr (g : Tg) (it : IT) (b : ISs)
  | forf (i : Nat) (fs : List Str) (b : ISs)
  | whl (n : Nat) (t : IE) (b : ISs)
  | pas | brk | cnt
  | rai (c : Str) (e : IO)
  | dput (a k e : IE)
inductive ISs where
  | nil
  | cons (s : IS) (r : ISs)
end

/-! ### data -/
def intsOf : List PyData → Option (List Int)
  | [] => some []
  | .int i :: r => match intsOf r with
    | none => none
    | some l => some (i :: l)
  | _ :: _ => none
def lexI : List Int → List Int → Bool
  | [], [] => false
  | [], _ :: _ => true
  | _ :: _, [] => false
  | x :: xs, y :: ys => if x = y then lexI xs ys else decide (x < y)
/-- the place that an index of any sign means -/
def place (n : Nat) (i : Int) : Option Nat := if 0 ≤ i then (if i < n then some i.toNat else none) else if -(n : Int) ≤ i then some (i + n).toNat else none
def atL {α : Type} (xs : List α) (i : Int) : Option α := match place xs.length i with
  | none => none
  | some j => xs[j]?
def cutI (n d : Nat) : Option Int → Nat
  | none => d
  | some v => if v < 0 then (v + (n : Int)).toNat else min v.toNat n
def cutL {α : Type} (xs : List α) (lo hi : Option Int) : List α := (xs.drop (cutI xs.length 0 lo)).take (cutI xs.length xs.length hi - cutI xs.length 0 lo)
def ltD : PyData → PyData → Option Bool
  | .int a, .int b => some (decide (a < b))
  | .tuple xs, .tuple ys => match intsOf xs, intsOf ys with
    | some ns, some ms => some (lexI ns ms)
    | _, _ => none
  | _, _ => none
def cmpI (p : Int → Int → Bool) : PyData → PyData → Option Bool
  | .int a, .int b => some (p a b)
  | _, _ => none
def eqD (x y : PyData) : Option Bool := if SeqAt.shaped x = true ∧ SeqAt.shaped y = true then some (PyData.eqv x y) else none
def inD (x : PyData) : PyData → Option Bool
  | .list ds => if SeqAt.shaped x = true ∧ SeqAt.shaped (.list ds) = true then some (ds.any fun z => PyData.eqv z x) else none
  | .tuple ds => if SeqAt.shaped x = true ∧ SeqAt.shaped (.tuple ds) = true then some (ds.any fun z => PyData.eqv z x) else none
  | _ => none
def noneD : PyData → Bool
  | .none => true
  | _ => false
def isD (x : PyData) : PyData → Option Bool
  | .none => some (noneD x)
  | .bool b => match x with
    | .bool a => some (decide (a = b))
    | _ => none
  | _ => none
def notO : Option Bool → Option Bool
  | none => none
  | some b => some (!b)
def cop : Cop → PyData → PyData → Option Bool
  | .eq, x, y => eqD x y
  | .ne, x, y => notO (eqD x y)
  | .lt, x, y => ltD x y
  | .le, x, y => cmpI (fun a b => decide (a ≤ b)) x y
  | .gt, x, y => cmpI (fun a b => decide (b < a)) x y
  | .ge, x, y => cmpI (fun a b => decide (b ≤ a)) x y
  | .isin, x, y => inD x y
  | .nin, x, y => notO (inD x y)
  | .is, x, y => isD x y
  | .isnt, x, y => notO (isD x y)
def bigMul (i j : Int) : Prop := i.natAbs.log2 + j.natAbs.log2 < 1000000
instance (i j : Int) : Decidable (bigMul i j) := by unfold bigMul; infer_instance
def bop : Bop → PyData → PyData → Option PyData
  | .add, .int a, .int b => some (.int (a + b))
  | .add, .str a, .str b => if a.length + b.length ≤ line then some (.str (a ++ b)) else none
  | .add, .list a, .list b => if a.length + b.length ≤ line then some (.list (a ++ b)) else none
  | .add, .tuple a, .tuple b => if a.length + b.length ≤ line then some (.tuple (a ++ b)) else none
  | .sub, .int a, .int b => some (.int (a - b))
  | .mul, .int a, .int b => if bigMul a b then some (.int (a * b)) else none
  | .mul, .tuple ds, .int k => if (ds ≠ [] ∧ ds.length ≤ 1000) ∧ 1 ≤ k ∧ k ≤ 1000 then some (.tuple (List.replicate k.toNat ds).flatten) else none
  | .mul, .list ds, .int k => if ds.length ≤ 1000 ∧ 0 ≤ k ∧ k ≤ 1000 then some (.list (List.replicate k.toNat ds).flatten) else none
  | .fdiv, .int a, .int b => if 0 < b ∧ b.natAbs.log2 < 9000 then some (.int (a / b)) else none
  | .mod, .int a, .int b => if 0 < b then some (.int (a % b)) else none
  | .pow, .int a, .int b => if 0 ≤ b ∧ b ≤ 1000000 ∧ a.natAbs < 2 ^ 64 then some (.int (a ^ b.toNat)) else none
  | _, _, _ => none
def ixD : PyData → PyData → Option PyData
  | .list ds, .int i => atL ds i
  | .tuple ds, .int i => atL ds i
  | _, _ => none
def slD (lo hi : Option Int) : PyData → Option PyData
  | .list ds => some (.list (cutL ds lo hi))
  | .tuple ds => some (.tuple (cutL ds lo hi))
  | _ => none
def rngL (lo : Int) (n : Nat) : List PyData := (List.range n).map fun i => .int (lo + (i : Nat))
def rngOk (a b : Int) : Prop := -(2 ^ 62) ≤ a ∧ a < 2 ^ 62 ∧ -(2 ^ 62) ≤ b ∧ b < 2 ^ 62
instance (a b : Int) : Decidable (rngOk a b) := by unfold rngOk; infer_instance

/-! the order of data, as sorting has it -/
def tupleD : PyData → Bool
  | .tuple _ => true
  | _ => false
/-- what can be sorted here: all tuples, or none a tuple or None -/
def sortK (ds : List PyData) : Bool := ds.all tupleD || ds.all fun d => !tupleD d && !noneD d
def sortL (ds : List PyData) : List PyData := ds.mergeSort (PySem.W.dataLe false id)
def sortOk (ds : List PyData) : Bool := (ds.all fun x => ds.all fun y => PySem.W.alike x y) && (sortK ds && ds.all fun d => decide (d.depth ≤ 64))
/-- each once, the first of equal ones -/
def once {α : Type} [DecidableEq α] : List α → List α
  | [] => []
  | x :: xs => x :: (once xs).filter fun y => !decide (y = x)
def sortI (ns : List Int) : List Int := ns.mergeSort fun a b => decide (a ≤ b)
def smallPair : PyData → Option (Int × Int)
  | .tuple [.int a, .int b] => if (0 ≤ a ∧ a < 64) ∧ (0 ≤ b ∧ b < 64) then some (a, b) else none
  | _ => none
def pairsOf : List PyData → Option (List (Int × Int))
  | [] => some []
  | d :: r => match smallPair d, pairsOf r with
    | some p, some l => some (p :: l)
    | _, _ => none
def pairLe (a b : Int × Int) : Bool := decide (a.1 < b.1) || (decide (a.1 = b.1) && decide (a.2 ≤ b.2))
def sortP (ps : List (Int × Int)) : List (Int × Int) := ps.mergeSort pairLe
def encP (p : Int × Int) : PyData := .tuple [.int p.1, .int p.2]
def leastI : List Int → Option Int
  | [] => none
  | i :: r => some (r.foldl (fun a b => if b < a then b else a) i)
def mostI : List Int → Option Int
  | [] => none
  | i :: r => some (r.foldl (fun a b => if a < b then b else a) i)
def pLen : List PyData → Option PyData
  | [.list ds] => some (.int ds.length)
  | [.tuple ds] => some (.int ds.length)
  | _ => none
def pAbs : List PyData → Option PyData
  | [.int i] => some (.int (if i < 0 then -i else i))
  | _ => none
def pInt : List PyData → Option PyData
  | [.int i] => some (.int i)
  | [.bool b] => some (.int (if b then 1 else 0))
  | _ => none
def pBool : List PyData → Option PyData
  | [.bool b] => some (.bool b)
  | _ => none
def pTuple : List PyData → Option PyData
  | [.list ds] => some (.tuple ds)
  | [.tuple ds] => some (.tuple ds)
  | _ => none
def pList : List PyData → Option PyData
  | [.list ds] => some (.list ds)
  | [.tuple ds] => some (.list ds)
  | _ => none
def pRng1 : List PyData → Option PyData
  | [.int n] => if rngOk 0 n ∧ n.toNat ≤ line then some (.list (rngL 0 n.toNat)) else none
  | _ => none
def pRng2 : List PyData → Option PyData
  | [.int a, .int b] => if rngOk a b ∧ (b - a).toNat ≤ line then some (.list (rngL a (b - a).toNat)) else none
  | _ => none
def pTrng1 : List PyData → Option PyData
  | [.int n] => if rngOk 0 n ∧ n.toNat ≤ line then some (.tuple (rngL 0 n.toNat)) else none
  | _ => none
def pSorted : List PyData → Option PyData
  | [.list ds] => if sortOk ds = true then some (.list (sortL ds)) else none
  | [.tuple ds] => if sortOk ds = true then some (.list (sortL ds)) else none
  | _ => none
def boolsOf : List PyData → Option (List Bool)
  | [] => some []
  | .bool b :: r => match boolsOf r with
    | none => none
    | some l => some (b :: l)
  | _ :: _ => none
def sortB (bs : List Bool) : List Bool := (if false ∈ bs then [false] else []) ++ (if true ∈ bs then [true] else [])
def pSortset : List PyData → Option PyData
  | [.list ds] => match intsOf ds with
    | some ns => if ds.length ≤ 4000 ∧ (once ns).length < 64 then some (.list ((sortI (once ns)).map .int)) else none
    | none => match pairsOf ds with
      | some ps => if ds.length < 64 then some (.list ((sortP (once ps)).map encP)) else if (once ps).length < 63 ∧ ds.length ≤ 4000 then some (.list ((sortP (once ps)).map encP)) else none
      | none => none
  | [.tuple ds] => match pairsOf ds with
    | some ps => if ds.length < 64 then some (.list ((sortP (once ps)).map encP)) else none
    | none => none
  | _ => none
/-- sorted(set(a tuple of ints)) -/
def pSortsett : List PyData → Option PyData
  | [.tuple ds] => match intsOf ds with
    | some ns => if ds.length ≤ 4000 ∧ (once ns).length < 64 then some (.list ((sortI (once ns)).map .int)) else none
    | none => none
  | _ => none
/-- sorted(set(truth values)) -/
def pSortsetB : List PyData → Option PyData
  | [.list ds] => match boolsOf ds with
    | some bs => if ds.length ≤ 4000 then some (.list ((sortB bs).map .bool)) else none
    | none => none
  | _ => none
/-- len(set(ints)) -/
def pLenset : List PyData → Option PyData
  | [.tuple ds] => match intsOf ds with
    | some ns => if ds.length ≤ 60 then some (.int ((once ns).length : Nat)) else none
    | none => none
  | _ => none
/-- tuple * int, list * int -/
def pTmul : List PyData → Option PyData
  | [.tuple ds, .int k] => if (ds ≠ [] ∧ 2 ≤ k) ∧ k ≤ 1000 ∧ ds.length ≤ 1000 then some (.tuple (List.replicate k.toNat ds).flatten) else none
  | _ => none
def pLmul : List PyData → Option PyData
  | [.list ds, .int k] => if 0 ≤ k ∧ k ≤ 1000 ∧ ds.length ≤ 1000 then some (.list (List.replicate k.toNat ds).flatten) else none
  | _ => none
/-- l[::-1] -/
def pRev : List PyData → Option PyData
  | [.list ds] => some (.list ds.reverse)
  | _ => none
/-- l.index(x), x there -/
def pIndex : List PyData → Option PyData
  | [.list ds, x] => if SeqAt.shaped x = true ∧ SeqAt.shaped (.list ds) = true then (match ds.findIdx? fun z => PyData.eqv z x with
    | some i => some (.int (i : Nat))
    | none => none) else none
  | _ => none
def pMin2 : List PyData → Option PyData
  | [.int a, .int b] => some (.int (if b < a then b else a))
  | _ => none
def pMax2 : List PyData → Option PyData
  | [.int a, .int b] => some (.int (if a < b then b else a))
  | _ => none
def pMinl : List PyData → Option PyData
  | [.list ds] => match intsOf ds with
    | none => none
    | some ns => match leastI ns with
      | none => none
      | some i => some (.int i)
  | _ => none
/-- max of a tuple of ints -/
def pMaxt : List PyData → Option PyData
  | [.tuple ds] => match intsOf ds with
    | none => none
    | some ns => match mostI ns with
      | none => none
      | some i => some (.int i)
  | _ => none
/-- min of data that are alike -/
def pMind : List PyData → Option PyData
  | [.list (x :: xs)] => if ((x :: xs).all fun a => (x :: xs).all fun b => PySem.W.alike a b) && ((x :: xs).all fun d => !noneD d && decide (d.depth ≤ 64)) then some (PySem.W.minD x xs) else none
  | _ => none
def pMaxl : List PyData → Option PyData
  | [.list ds] => match intsOf ds with
    | none => none
    | some ns => match mostI ns with
      | none => none
      | some i => some (.int i)
  | _ => none
def pSum : List PyData → Option PyData
  | [.list ds] => match intsOf ds with
    | none => none
    | some ns => some (.int ns.sum)
  | _ => none
def intText (i : Int) : Str := (toString i : String)
def smallI (i : Int) : Bool := decide (0 ≤ i) && decide (i < 1000000)
/-- str(int) -/
def pStr : List PyData → Option PyData
  | [.int i] => if smallI i = true then some (.str (intText i)) else none
  | _ => none
/-- str(tuple of ints) -/
def pStrt : List PyData → Option PyData
  | [.tuple ds] => match intsOf ds with
    | some ns => if ns.all smallI = true ∧ ns.length ≤ 60 then some (.str (tupleText (ns.map intText))) else none
    | none => none
  | _ => none
/-! texts -/
def strsOf : List PyData → Option (List Str)
  | [] => some []
  | .str z :: r => match strsOf r with
    | none => none
    | some l => some (z :: l)
  | _ :: _ => none
def pSplit : List PyData → Option PyData
  | [.str a, .str b] => if (b.length == 0) = false ∧ a.length ≤ 10000 then some (.list ((Txt.split a b).map .str)) else none
  | _ => none
def pJoin : List PyData → Option PyData
  | [.str a, .list ds] => match strsOf ds with
    | some ys => if (ys.map (·.length)).sum + ys.length * a.length ≤ 10000 then some (.str (Txt.join a ys)) else none
    | none => none
  | _ => none
def pIntS : List PyData → Option PyData
  | [.str a] => if a.length ≤ 640 then (match PySem.intText? a with
    | some n => some (.int n)
    | none => none) else none
  | _ => none
/-- one sign in a text -/
def pInsub : List PyData → Option PyData
  | [.str c, .str z] => match c.cps.toList with
    | [k] => some (.bool (decide (k ∈ z.cps.toList)))
    | _ => none
  | _ => none
def pSto : List PyData → Option PyData
  | [.str z, .int i] => if 0 ≤ i ∧ z.length ≤ 10000 then some (.str ⟨(z.cps.toList.take i.toNat).toArray⟩) else none
  | _ => none
def pSfrom : List PyData → Option PyData
  | [.str z, .int i] => if 0 ≤ i ∧ z.length ≤ 10000 then some (.str ⟨(z.cps.toList.drop i.toNat).toArray⟩) else none
  | _ => none
def pSix : List PyData → Option PyData
  | [.str z, .int i] => match atL z.cps.toList i with
    | some c => some (.str ⟨#[c]⟩)
    | none => none
  | _ => none
def pSlen : List PyData → Option PyData
  | [.str z] => some (.int z.length)
  | _ => none
def isIntD : PyData → Bool
  | .int _ => true
  | .bool _ => true
  | _ => false
def isBoolD : PyData → Bool
  | .bool _ => true
  | _ => false
def isTupD : PyData → Bool
  | .tuple _ => true
  | _ => false
def isStrD : PyData → Bool
  | .str _ => true
  | _ => false
def p1 (f : PyData → Bool) : List PyData → Option PyData
  | [x] => some (.bool (f x))
  | _ => none
def prim : Prim → List PyData → Option PyData
  | .len => pLen | .abs => pAbs | .int => pInt | .bool => pBool | .tuple => pTuple | .list => pList
  | .rng1 => pRng1 | .rng2 => pRng2 | .trng1 => pTrng1 | .trng2 => fun _ => none
  | .sorted => pSorted | .sortset => pSortset | .sortsett => pSortsett | .lenset => pLenset | .sortsetb => pSortsetB | .tmul => pTmul | .lmul => pLmul | .rev => pRev | .index => pIndex
  | .split => pSplit | .join => pJoin | .sint => pIntS | .insub => pInsub | .sto => pSto | .sfrom => pSfrom | .six => pSix | .slen => pSlen | .maxt => pMaxt | .strt => pStrt
  | .min2 => pMin2 | .max2 => pMax2 | .minl => pMinl | .maxl => pMaxl | .mind => pMind | .sum => pSum | .str => pStr
  | .isInt => p1 isIntD | .isBool => p1 isBoolD | .isTup => p1 isTupD | .isStr => p1 isStrD

/-! ### evaluation -/
/-- what a loop walks -/
inductive Src where
  | cst (ds : List PyData)
  | cel (k : Nat)
def Src.at : Src → Nat → Sto → Option (Option PyData)
  | .cst ds, i, _ => some ds[i]?
  | .cel k, i, s => match s[k]? with
    | none => none
    | some ds => some ds[i]?
def Src.len : Src → Sto → Nat
  | .cst ds, _ => ds.length
  | .cel k, s => (s.getD k []).length
def srcOf : W → M Src
  | .d (.list ds) => M.ret (.cst ds)
  | .d (.tuple ds) => M.ret (.cst ds)
  | .m k => M.ret (.cel k)
  | _ => M.no
def wipe (ρ : Env) : List Nat → Env
  | [] => ρ
  | v :: vs => (wipe ρ vs).set v none
def putAll : List Nat → List W → Env → Option Env
  | [], [], ρ => some ρ
  | i :: is, x :: xs, ρ => putAll is xs (ρ.set i (some x))
  | _, _, _ => none
def put : Tg → PyData → Env → Option Env
  | .nm i, x, ρ => some (ρ.set i (some (.d x)))
  | .tp is, .tuple xs, ρ => putAll is (xs.map .d) ρ
  | .tp _, _, _ => none
/-- a comprehension's turns: f tells of each item the new one, or that there is none -/
def lcLoop (src : Src) (f : PyData → M (Option PyData)) : Nat → Nat → List PyData → M (List PyData)
  | 0, _, _ => M.no
  | n + 1, i, acc => fun s => match src.at i s with
    | none => none
    | some none => some (.ok acc s)
    | some (some x) => match f x s with
      | none => none
      | some (.ex _ _) => none
      | some (.ok none s') => lcLoop src f n (i + 1) acc s'
      | some (.ok (some y) s') => if acc.length < line then lcLoop src f n (i + 1) (acc ++ [y]) s' else none
def asBool : W → M Bool
  | .d (.bool b) => M.ret b
  | _ => M.no
def asInt : W → M Int
  | .d (.int i) => M.ret i
  | _ => M.no
def asData : W → M PyData
  | .d x => M.ret x
  | _ => M.no
def asScr : W → M (List Int)
  | .scr ns => M.ret ns
  | _ => M.no
def asDatas : List W → M (List PyData)
  | [] => M.ret []
  | w :: ws => (asData w).bnd fun x => (asDatas ws).bnd fun xs => M.ret (x :: xs)
def newCell (ds : List PyData) : M W := fun s => some (.ok (.m s.length) (s ++ [ds]))
def zipD (xs ys : List PyData) : List PyData := (xs.zip ys).map fun p => .tuple [p.1, p.2]
def enmD (xs : List PyData) : List PyData := xs.mapIdx fun i x => .tuple [.int (i : Nat), x]
def zipOf : PyData → PyData → M Src
  | .list xs, .list ys => M.ret (.cst (zipD xs ys))
  | .tuple xs, .tuple ys => M.ret (.cst (zipD xs ys))
  | _, _ => M.no
def enmOf : PyData → M Src
  | .list xs => M.ret (.cst (enmD xs))
  | _ => M.no
/-- the same where a turn may bring several -/
def lcLoop2 (src : Src) (F : PyData → List PyData → M (List PyData)) : Nat → Nat → List PyData → M (List PyData)
  | 0, _, _ => M.no
  | n + 1, i, acc => fun s => match src.at i s with
    | none => none
    | some none => some (.ok acc s)
    | some (some x) => match F x acc s with
      | none => none
      | some (.ex _ _) => none
      | some (.ok acc' s') => lcLoop2 src F n (i + 1) acc' s'
/-- the law's words for errors -/
def plainWords : List (Str × Str) := [("InvalidWeb", "web"), ("InvalidLot", "lot"), ("InvalidPlace", "place"), ("InvalidWay", "way"), ("InvalidSteps", "steps"), ("InvalidNumber", "number"), ("InvalidColours", "colours"), ("InvalidFacts", "facts"), ("InvalidText", "text"), ("Unlike", "unlike"), ("NoLot", "nolot"), ("Ringed", "ringed"), ("NothingToUndo", "undo")]
def fullText (i : Int) : Option Str := if i = 6 then some "full6" else if i = 7 then some "full7" else if i = 40 then some "full40" else none
def oddText (ds : List PyData) : Option Str := match pStrt [.tuple ds] with
  | some (.str z) => some ("odd" ++ z)
  | _ => none
def wordOf (x : Exn) : Option Str := match x.arg with
  | none => plainWords.lookup x.cls
  | some (.int i) => if x.cls = "TooMany" then fullText i else none
  | some _ => none
/-- the same, odd rings told too -/
def wordOfO (x : Exn) : Option Str := match x.arg with
  | some (.tuple ds) => if x.cls = "OddRing" then oddText ds else none
  | _ => wordOf x
/-- what an error takes -/
def argOf (c : Str) : PyData → Option PyData
  | .int i => if c = "TooMany" ∧ smallI i = true then some (.int i) else none
  | .tuple ds => if c = "OddRing" ∧ ds.length ≤ 1000 then some (.tuple ds) else none
  | _ => none
/-- which function a name holds -/
def fnvAt : Option (Option W) → List (Str × Nat) → Option Nat
  | some (some (.f x)), fs => fs.lookup x
  | _, _ => none
/-- a new list is a cell from now on -/
def ownM : W → M W
  | .d (.list ds) => newCell ds
  | _ => M.no
def wordM (m : M W) : M W := fun s => match m s with
  | none => none
  | some (.ok _ s') => some (.ok (.d (.str "")) s')
  | some (.ex x s') => match wordOf x with
    | none => none
    | some z => some (.ok (.d (.str z)) s')
def wordMO (m : M W) : M W := fun s => match m s with
  | none => none
  | some (.ok _ s') => some (.ok (.d (.str "")) s')
  | some (.ex x s') => match wordOfO x with
    | none => none
    | some z => some (.ok (.d (.str z)) s')
def setCell (k : Nat) (ds : List PyData) : M Unit := fun s => if k < s.length then some (.ok () (s.set k ds)) else none
def cellOf (k : Nat) : M (List PyData) := fun s => match s[k]? with
  | none => none
  | some ds => some (.ok ds s)
/-! dicts whose keys are tuples of ints: a cell of pairs -/
def newDic : M W := fun s => some (.ok (.c .dic s.length) (s ++ [[]]))
def asDic : W → M Nat
  | .c .dic k => M.ret k
  | _ => M.no
def keyOf : PyData → Option (List Int)
  | .tuple xs => intsOf xs
  | _ => none
def dent (ns : List Int) (y : PyData) : PyData := .tuple [.tuple (ns.map .int), y]
def dval : List PyData → List Int → Option PyData
  | [], _ => none
  | .tuple [.tuple kd, d] :: r, ns => if intsOf kd = some ns then some d else dval r ns
  | _ :: r, ns => dval r ns
def drep (ns : List Int) (y : PyData) : List PyData → List PyData
  | [] => []
  | .tuple [.tuple kd, d] :: r => (if intsOf kd = some ns then dent ns y else .tuple [.tuple kd, d]) :: drep ns y r
  | z :: r => z :: drep ns y r
def dputL (ds : List PyData) (ns : List Int) (y : PyData) : List PyData := if (dval ds ns).isSome = true then drep ns y ds else ds ++ [dent ns y]
/-! exceptions as values -/
def asX : W → M XV
  | .xo e => M.ret e
  | _ => M.no
def asXl : W → M (List XV)
  | .xl l => M.ret l
  | _ => M.no
def asXs : List W → M (List XV)
  | [] => M.ret []
  | w :: ws => (asX w).bnd fun x => (asXs ws).bnd fun xs => M.ret (x :: xs)
def xNames : List Str := ["InvalidWeb", "InvalidLot", "InvalidPlace", "InvalidWay", "InvalidSteps", "InvalidNumber", "InvalidColours", "InvalidFacts", "InvalidText", "Unlike", "NoLot", "Ringed", "NothingToUndo", "OddRing", "TooMany", "LotError"]
def isExc (x c : Str) : Bool := decide (x = c) || (decide (c = "LotError") || decide (c = "ValueError"))
/-- the field that an exception keeps -/
def fieldOf (c : Str) : Str := if c = "OddRing" then "ring" else "limit"
abbrev Fns := Nat → List W → M W
mutual
def ev (Γ : Fns) : IE → Env → M W
  | .var i, ρ => match ρ[i]? with
    | some (some w) => M.ret w
    | _ => M.no
  | .cst d, _ => M.ret (.d d)
  | .tup es, ρ => (evs Γ es ρ).bnd fun ws => (asDatas ws).bnd fun ds => M.ret (.d (.tuple ds))
  | .lst es, ρ => (evs Γ es ρ).bnd fun ws => (asDatas ws).bnd fun ds => M.ret (.d (.list ds))
  | .mls es, ρ => (evs Γ es ρ).bnd fun ws => (asDatas ws).bnd fun ds => newCell ds
  | .neg a, ρ => (ev Γ a ρ).bnd fun w => (asInt w).bnd fun i => M.ret (.d (.int (-i)))
  | .bin o a b, ρ => (ev Γ a ρ).bnd fun x => (ev Γ b ρ).bnd fun y => (look x).bnd fun dx => (look y).bnd fun dy => (M.opt (bop o dx dy)).bnd fun d => M.ret (.d d)
  | .cmp o a b, ρ => (ev Γ a ρ).bnd fun x => (ev Γ b ρ).bnd fun y => (look x).bnd fun dx => (look y).bnd fun dy => (M.opt (cop o dx dy)).bnd fun d => M.ret (.d (.bool d))
  | .chn o p a b c, ρ => (ev Γ a ρ).bnd fun x => (ev Γ b ρ).bnd fun y => (look x).bnd fun dx => (look y).bnd fun dy => (M.opt (cop o dx dy)).bnd fun r =>
      if r = true then (ev Γ c ρ).bnd fun z => (look y).bnd fun dy => (look z).bnd fun dz => (M.opt (cop p dy dz)).bnd fun d => M.ret (.d (.bool d)) else M.ret (.d (.bool false))
  | .and a b, ρ => (ev Γ a ρ).bnd fun w => (asBool w).bnd fun t => if t = true then ev Γ b ρ else M.ret (.d (.bool false))
  | .or a b, ρ => (ev Γ a ρ).bnd fun w => (asBool w).bnd fun t => if t = true then M.ret (.d (.bool true)) else ev Γ b ρ
  | .not a, ρ => (ev Γ a ρ).bnd fun w => (asBool w).bnd fun t => M.ret (.d (.bool (!t)))
  | .ifx t a b, ρ => (ev Γ t ρ).bnd fun w => (asBool w).bnd fun t => if t = true then ev Γ a ρ else ev Γ b ρ
  | .ix a i, ρ => (ev Γ a ρ).bnd fun x => (ev Γ i ρ).bnd fun y => (look x).bnd fun dx => (asData y).bnd fun dy => (M.opt (ixD dx dy)).bnd fun d => M.ret (.d d)
  | .sl a lo hi, ρ => (ev Γ a ρ).bnd fun x => (evo Γ lo ρ).bnd fun l => (evo Γ hi ρ).bnd fun h => (look x).bnd fun dx => (M.opt (slD l h dx)).bnd fun d => M.ret (.d d)
  | .slen a, ρ => (ev Γ a ρ).bnd fun x => (asScr x).bnd fun ns => M.ret (.d (.int ns.length))
  | .six a i, ρ => (ev Γ a ρ).bnd fun x => (asScr x).bnd fun ns => (ev Γ i ρ).bnd fun y => (asInt y).bnd fun j => (M.opt (atL ns j)).bnd fun n => M.ret (.d (.int n))
  | .fn k es, ρ => (evs Γ es ρ).bnd fun ws => Γ k ws
  | .pr p es, ρ => (evs Γ es ρ).bnd fun ws => (looks ws).bnd fun ds => (M.opt (prim p ds)).bnd fun d => M.ret (.d d)
  | .lc own g it t e, ρ => (evi Γ it ρ).bnd fun src => fun s =>
      (lcLoop src (fun x => (M.opt (put g x (wipe ρ own))).bnd fun ρ' => (evt Γ t ρ').bnd fun b =>
        if b = true then (ev Γ e ρ').bnd fun w => (asData w).bnd fun y => M.ret (some y) else M.ret none) (src.len s + 1) 0 []).bnd (fun ds => M.ret (.d (.list ds))) s
  | .lc2 own g it t own1 g1 it1 t1 e, ρ => (evi Γ it ρ).bnd fun src => fun s =>
      (lcLoop2 src (fun x acc => (M.opt (put g x (wipe ρ own))).bnd fun ρ' => (evt Γ t ρ').bnd fun b =>
        if b = true then (evi Γ it1 ρ').bnd fun src1 => fun s1 => lcLoop src1 (fun x1 => (M.opt (put g1 x1 (wipe ρ' own1))).bnd fun ρ'' => (evt Γ t1 ρ'').bnd fun b1 =>
          if b1 = true then (ev Γ e ρ'').bnd fun w => (asData w).bnd fun y => M.ret (some y) else M.ret none) (src1.len s1 + 1) 0 acc s1 else M.ret acc) (src.len s + 1) 0 []).bnd (fun ds => M.ret (.d (.list ds))) s
  | .word e, ρ => wordM (ev Γ e ρ)
  | .wordO e, ρ => wordMO (ev Γ e ρ)
  | .mk e, ρ => (ev Γ e ρ).bnd ownM
  | .xnew c m, _ => M.ret (.xo (.msg c m))
  | .xown c e, ρ => (ev Γ e ρ).bnd fun w => (asData w).bnd fun d => (M.opt (argOf c d)).bnd fun d => M.ret (.xo (.own c d))
  | .xlst es, ρ => (evs Γ es ρ).bnd fun ws => (asXs ws).bnd fun l => M.ret (.xl l)
  | .xcat a b, ρ => (ev Γ a ρ).bnd fun x => (asXl x).bnd fun l => (ev Γ b ρ).bnd fun y => (asXl y).bnd fun r => if l.length + r.length ≤ line then M.ret (.xl (l ++ r)) else M.no
  | .xlen a, ρ => (ev Γ a ρ).bnd fun x => (asXl x).bnd fun l => M.ret (.d (.int l.length))
  | .xix a i, ρ => (ev Γ a ρ).bnd fun x => (asXl x).bnd fun l => (ev Γ i ρ).bnd fun y => (asInt y).bnd fun j => (M.opt (atL l j)).bnd fun e => M.ret (.xo e)
  | .xis a c, ρ => (ev Γ a ρ).bnd fun x => (asX x).bnd fun e => if e.cls ∈ xNames then M.ret (.d (.bool (isExc e.cls c))) else M.no
  | .xstr a, ρ => (ev Γ a ρ).bnd fun x => (asX x).bnd fun e => match e with
    | .msg c m => if c ∈ xNames then M.ret (.d (.str m)) else M.no
    | .own _ _ => M.no
  | .xarg a f, ρ => (ev Γ a ρ).bnd fun x => (asX x).bnd fun e => match e with
    | .msg _ _ => M.no
    | .own c y => if fieldOf c = f ∧ c ∈ (["OddRing", "TooMany"] : List Str) then M.ret (.d y) else M.no
  | .dnew, _ => newDic
  | .dget a k x, ρ => (ev Γ a ρ).bnd fun o => (asDic o).bnd fun c => (ev Γ k ρ).bnd fun kw => (asData kw).bnd fun kd => (ev Γ x ρ).bnd fun xw => (asData xw).bnd fun xd =>
      (M.opt (keyOf kd)).bnd fun ns => (cellOf c).bnd fun ds => M.ret (.d ((dval ds ns).getD xd))
  | .dix a k, ρ => (ev Γ a ρ).bnd fun o => (asDic o).bnd fun c => (ev Γ k ρ).bnd fun kw => (asData kw).bnd fun kd =>
      (M.opt (keyOf kd)).bnd fun ns => (cellOf c).bnd fun ds => (M.opt (dval ds ns)).bnd fun y => M.ret (.d y)
  | .fnv i fs es, ρ => (M.opt (fnvAt ρ[i]? fs)).bnd fun k => (evs Γ es ρ).bnd fun ws => Γ k ws
def evs (Γ : Fns) : IEs → Env → M (List W)
  | .nil, _ => M.ret []
  | .cons e es, ρ => (ev Γ e ρ).bnd fun w => (evs Γ es ρ).bnd fun ws => M.ret (w :: ws)
/-- an optional int -/
def evo (Γ : Fns) : IO → Env → M (Option Int)
  | .no, _ => M.ret none
  | .so e, ρ => (ev Γ e ρ).bnd fun w => (asInt w).bnd fun i => M.ret (some i)
/-- an optional test -/
def evt (Γ : Fns) : IO → Env → M Bool
  | .no, _ => M.ret true
  | .so e, ρ => (ev Γ e ρ).bnd asBool
def evi (Γ : Fns) : IT → Env → M Src
  | .seq e, ρ => (ev Γ e ρ).bnd srcOf
  | .rng1 e, ρ => (ev Γ e ρ).bnd fun w => (asInt w).bnd fun n => if rngOk 0 n then M.ret (.cst (rngL 0 n.toNat)) else M.no
  | .rng2 a b, ρ => (ev Γ a ρ).bnd fun x => (ev Γ b ρ).bnd fun y => (asInt x).bnd fun i => (asInt y).bnd fun j => if rngOk i j then M.ret (.cst (rngL i (j - i).toNat)) else M.no
  | .zip a b, ρ => (ev Γ a ρ).bnd fun x => (ev Γ b ρ).bnd fun y => (asData x).bnd fun dx => (asData y).bnd fun dy => zipOf dx dy
  | .enm a, ρ => (ev Γ a ρ).bnd fun x => (asData x).bnd fun dx => enmOf dx
end

/-! ### statements -/
inductive Out where
  | nx (ρ : Env)
  | ret (w : W)
  | bk (ρ : Env)
  | ct (ρ : Env)
def forLoop (src : Src) (g : Tg) (f : Env → M Out) : Nat → Nat → Env → M Out
  | 0, _, _ => M.no
  | n + 1, i, ρ => fun s => match src.at i s with
    | none => none
    | some none => some (.ok (.nx ρ) s)
    | some (some x) => match put g x ρ with
      | none => none
      | some ρ1 => match f ρ1 s with
        | none => none
        | some (.ex e s') => some (.ex e s')
        | some (.ok (.nx ρ2) s') => forLoop src g f n (i + 1) ρ2 s'
        | some (.ok (.ct ρ2) s') => forLoop src g f n (i + 1) ρ2 s'
        | some (.ok (.bk ρ2) s') => some (.ok (.nx ρ2) s')
        | some (.ok (.ret w) s') => some (.ok (.ret w) s')
def whileLoop (t : Env → M Bool) (f : Env → M Out) : Nat → Env → M Out
  | 0, _ => M.no
  | n + 1, ρ => fun s => match t ρ s with
    | none => none
    | some (.ex e s') => some (.ex e s')
    | some (.ok false s') => some (.ok (.nx ρ) s')
    | some (.ok true s') => match f ρ s' with
      | none => none
      | some (.ex e s') => some (.ex e s')
      | some (.ok (.nx ρ2) s') => whileLoop t f n ρ2 s'
      | some (.ok (.ct ρ2) s') => whileLoop t f n ρ2 s'
      | some (.ok (.bk ρ2) s') => some (.ok (.nx ρ2) s')
      | some (.ok (.ret w) s') => some (.ok (.ret w) s')
/-- a loop over some functions -/
def fnLoop (i : Nat) (f : Env → M Out) : List Str → Env → M Out
  | [], ρ => M.ret (.nx ρ)
  | x :: xs, ρ => fun s => match f (ρ.set i (some (.f x))) s with
    | none => none
    | some (.ex e s') => some (.ex e s')
    | some (.ok (.nx ρ2) s') => fnLoop i f xs ρ2 s'
    | some (.ok (.ct ρ2) s') => fnLoop i f xs ρ2 s'
    | some (.ok (.bk ρ2) s') => some (.ok (.nx ρ2) s')
    | some (.ok (.ret w) s') => some (.ok (.ret w) s')
def asCell : W → M Nat
  | .m k => M.ret k
  | _ => M.no
mutual
def exec (Γ : Fns) : IS → Env → M Out
  | .asg i e, ρ => (ev Γ e ρ).bnd fun w => M.ret (.nx (ρ.set i (some w)))
  | .par is es, ρ => (evs Γ es ρ).bnd fun ws => (M.opt (putAll is ws ρ)).bnd fun ρ' => M.ret (.nx ρ')
  | .unp g e, ρ => (ev Γ e ρ).bnd fun w => (asData w).bnd fun d => (M.opt (put g d ρ)).bnd fun ρ' => M.ret (.nx ρ')
  | .sti a i e, ρ => (ev Γ e ρ).bnd fun w => (asData w).bnd fun y => (ev Γ a ρ).bnd fun o => (asCell o).bnd fun k => (ev Γ i ρ).bnd fun j => (asInt j).bnd fun j => (cellOf k).bnd fun ds =>
      (M.opt (place ds.length j)).bnd fun p => (setCell k (ds.set p y)).bnd fun _ => M.ret (.nx ρ)
  | .app a e, ρ => (ev Γ a ρ).bnd fun o => (asCell o).bnd fun k => (ev Γ e ρ).bnd fun w => (asData w).bnd fun y => (cellOf k).bnd fun ds =>
      if ds.length < line then (setCell k (ds ++ [y])).bnd fun _ => M.ret (.nx ρ) else M.no
  | .ex e, ρ => (ev Γ e ρ).bnd fun _ => M.ret (.nx ρ)
  | .ret e, ρ => (ev Γ e ρ).bnd fun w => M.ret (.ret w)
  | .retN, _ => M.ret (.ret (.d .none))
  | .ifs t a b, ρ => (ev Γ t ρ).bnd fun w => (asBool w).bnd fun t => if t = true then execs Γ a ρ else execs Γ b ρ
  | .forr g it b, ρ => (evi Γ it ρ).bnd fun src => fun s => forLoop src g (fun ρ' => execs Γ b ρ') (src.len s + 1) 0 ρ s
  | .forf i fs b, ρ => fnLoop i (fun ρ' => execs Γ b ρ') fs ρ
  | .whl n t b, ρ => whileLoop (fun ρ' => (ev Γ t ρ').bnd asBool) (fun ρ' => execs Γ b ρ') n ρ
  | .pas, ρ => M.ret (.nx ρ)
  | .brk, ρ => M.ret (.bk ρ)
  | .cnt, ρ => M.ret (.ct ρ)
  | .dput a k e, ρ => (ev Γ e ρ).bnd fun w => (asData w).bnd fun y => (ev Γ a ρ).bnd fun o => (asDic o).bnd fun c => (ev Γ k ρ).bnd fun kw => (asData kw).bnd fun kd =>
      (M.opt (keyOf kd)).bnd fun ns => (cellOf c).bnd fun ds => if ds.length < line then (setCell c (dputL ds ns y)).bnd fun _ => M.ret (.nx ρ) else M.no
  | .rai c .no, _ => M.exn ⟨c, none⟩
  | .rai c (.so e), ρ => (ev Γ e ρ).bnd fun w => (asData w).bnd fun d => (M.opt (argOf c d)).bnd fun d => M.exn ⟨c, some d⟩
def execs (Γ : Fns) : ISs → Env → M Out
  | .nil, ρ => M.ret (.nx ρ)
  | .cons s r, ρ => (exec Γ s ρ).bnd fun o => match o with
    | .nx ρ' => execs Γ r ρ'
    | .ret w => M.ret (.ret w)
    | .bk ρ' => M.ret (.bk ρ')
    | .ct ρ' => M.ret (.ct ρ')
end
/-- a def: its body on its arguments, n names in all, p parameters -/
def start (n : Nat) (ws : List W) : Env := ws.map some ++ List.replicate (n - ws.length) none
def outW : Out → M W
  | .nx _ => M.ret (.d .none)
  | .ret w => M.ret w
  | _ => M.no
def fdef (Γ : Fns) (p n : Nat) (b : ISs) (ws : List W) : M W := if ws.length = p then (execs Γ b (start n ws)).bnd outW else M.no
end Qv

/-! Rep -/
set_option maxHeartbeats 0
/-! How the values of the small language stand in the heap. -/
namespace Qv
open PySem PySem.Spec PyProof.Rows L2

theorem line_eq : line = sizeLine := by rw [sizeLine_eq]; rfl

/-- the kinds of cells besides lists -/
inductive Knd where
  | dic
  | ins (C : Addr) (fs : List Str)
/-- the cells' places, and the lists that are being made; which cells are no lists -/
structure Cells where
  ix : List Addr
  hid : List Addr
  tb : List (Addr × Str)
  kd : List (Addr × Knd)
/-- a list's cell -/
def Cells.plain (ms : Cells) (a : Addr) : Prop := ∀ κ, (a, κ) ∉ ms.kd
/-- the kinds stay -/
def KdE (ms ms' : Cells) : Prop := (∀ p, p ∈ ms.kd → p ∈ ms'.kd) ∧ ∀ a, a ∈ ms.ix → ms.plain a → ms'.plain a
theorem KdE.refl (ms : Cells) : KdE ms ms := ⟨fun _ h => h, fun _ _ h => h⟩
theorem KdE.trans {ms ms1 ms2 : Cells} (p : ms.ix <+: ms1.ix) (a : KdE ms ms1) (b : KdE ms1 ms2) : KdE ms ms2 := ⟨fun q h => b.1 q (a.1 q h), fun c hc h => b.2 c (p.subset hc) (a.2 c hc h)⟩
/-- no table of code objects -/
def NoTb (o : HO) : Prop := ∀ ps, o ≠ .tbl ps
theorem nt_lst {xs : List V} : NoTb (.lst xs) := fun _ z => nomatch z
theorem nt_tup {xs : List V} : NoTb (.tup xs) := fun _ z => nomatch z
theorem nt_frz {o : Obj} {u : HO} : NoTb (.frz o u) := fun _ z => nomatch z
def Cells.has (ms : Cells) (a : Addr) : Prop := a ∈ ms.ix ∨ a ∈ ms.hid
mutual
/-- v stands for x: the lists among it are no cells -/
inductive Rp (H : Hp) (ms : Cells) : V → PyData → Prop
  | non : Rp H ms .non .none
  | bl (b : Bool) : Rp H ms (.bl b) (.bool b)
  | int (i : Int) : Rp H ms (.int i) (.int i)
  | str (x : Str) : Rp H ms (.str x) (.str x)
  | lst {a : Addr} {xs : List V} {ds : List PyData} : H a = some (.lst xs) → ¬ ms.has a → xs.length ≤ line → Rps H ms xs ds → Rp H ms (.ref a) (.list ds)
  | tup {a : Addr} {xs : List V} {ds : List PyData} : H a = some (.tup xs) → ¬ ms.has a → xs.length ≤ line → Rps H ms xs ds → Rp H ms (.ref a) (.tuple ds)
inductive Rps (H : Hp) (ms : Cells) : List V → List PyData → Prop
  | nil : Rps H ms [] []
  | cons {v : V} {vs : List V} {d : PyData} {ds : List PyData} : Rp H ms v d → Rps H ms vs ds → Rps H ms (v :: vs) (d :: ds)
end

/-- the heap has gone on: what is no cell stands; new cells were free -/
structure Ext (ms : Cells) (H : Hp) (ms' : Cells) (H' : Hp) : Prop where
  pre : ms.ix <+: ms'.ix
  hid : ms'.hid = ms.hid
  tb : ms'.tb = ms.tb
  kd : KdE ms ms'
  keep : ∀ b o, b ∉ ms.ix → NoTb o → H b = some o → H' b = some o
  stay : ∀ b o, NoTb o → H b = some o → ∃ o', NoTb o' ∧ H' b = some o'
  new : ∀ b, b ∈ ms'.ix → b ∈ ms.ix ∨ ∀ o, NoTb o → H b ≠ some o
theorem Ext.refl (ms : Cells) (H : Hp) : Ext ms H ms H := ⟨List.prefix_refl _, rfl, rfl, KdE.refl _, fun _ _ _ _ h => h, fun _ o nt h => ⟨o, nt, h⟩, fun _ h => .inl h⟩
theorem Ext.trans {ms ms1 ms2 : Cells} {H H1 H2 : Hp} (a : Ext ms H ms1 H1) (b : Ext ms1 H1 ms2 H2) : Ext ms H ms2 H2 where
  pre := a.pre.trans b.pre
  hid := b.hid.trans a.hid
  tb := b.tb.trans a.tb
  kd := a.kd.trans a.pre b.kd
  stay := fun c o nt h => by
    obtain ⟨o', nt', h'⟩ := a.stay c o nt h
    exact b.stay c o' nt' h'
  keep := fun c o hc nt h => b.keep c o (fun q => (a.new c q).elim hc fun z => z o nt h) nt (a.keep c o hc nt h)
  new := fun c hc => by
    rcases b.new c hc with h | h
    · exact a.new c h
    · by_cases hm : c ∈ ms.ix
      · exact .inl hm
      · refine .inr fun o nt e => ?_
        obtain ⟨o', nt', h'⟩ := a.stay c o nt e
        exact h o' nt' h'
/-- all that stood stands -/
theorem Ext.all {ms : Cells} {H H' : Hp} (h : ∀ b o, H b = some o → H' b = some o) : Ext ms H ms H' := ⟨List.prefix_refl _, rfl, rfl, KdE.refl _, fun b o _ _ q => h b o q, fun b o nt q => ⟨o, nt, h b o q⟩, fun _ h => .inl h⟩
theorem Ext.laid {ms : Cells} {H : Hp} {p : Addr} {o : HO} (h : H p = none) : Ext ms H ms (upd H p o) := Ext.all fun b u q => by
  rw [upd_ne (ne_of_none q h)]; exact q
/-- what a value's standing leans on -/
structure Tr (ms : Cells) (H : Hp) (ms' : Cells) (H' : Hp) : Prop where
  pre : ms.ix <+: ms'.ix
  tb : ms'.tb = ms.tb
  kd : KdE ms ms'
  keep : ∀ b o, ¬ ms.has b → NoTb o → H b = some o → H' b = some o ∧ ¬ ms'.has b
theorem Ext.tr {ms ms' : Cells} {H H' : Hp} (e : Ext ms H ms' H') : Tr ms H ms' H' := ⟨e.pre, e.tb, e.kd, fun b o n nt h => ⟨e.keep b o (fun q => n (.inl q)) nt h, fun q => by
  rcases q with q | q
  · rcases e.new b q with z | z
    · exact n (.inl z)
    · exact z o nt h
  · rw [e.hid] at q; exact n (.inr q)⟩⟩
theorem Tr.trans {ms ms1 ms2 : Cells} {H H1 H2 : Hp} (a : Tr ms H ms1 H1) (b : Tr ms1 H1 ms2 H2) : Tr ms H ms2 H2 := ⟨a.pre.trans b.pre, b.tb.trans a.tb, a.kd.trans a.pre b.kd, fun c o n nt h => b.keep c o (a.keep c o n nt h).2 nt (a.keep c o n nt h).1⟩

mutual
theorem Rp.tr {ms ms' : Cells} {H H' : Hp} (e : Tr ms H ms' H') : ∀ {v : V} {d : PyData}, Rp H ms v d → Rp H' ms' v d
  | _, _, .non => .non
  | _, _, .bl b => .bl b
  | _, _, .int i => .int i
  | _, _, .str x => .str x
  | _, _, .lst h n l r => .lst (e.keep _ _ n nt_lst h).1 (e.keep _ _ n nt_lst h).2 l (Rps.tr e r)
  | _, _, .tup h n l r => .tup (e.keep _ _ n nt_tup h).1 (e.keep _ _ n nt_tup h).2 l (Rps.tr e r)
theorem Rps.tr {ms ms' : Cells} {H H' : Hp} (e : Tr ms H ms' H') : ∀ {vs : List V} {ds : List PyData}, Rps H ms vs ds → Rps H' ms' vs ds
  | _, _, .nil => .nil
  | _, _, .cons a b => .cons (Rp.tr e a) (Rps.tr e b)
end
theorem Rp.ext {ms ms' : Cells} {H H' : Hp} (e : Ext ms H ms' H') {v : V} {d : PyData} (h : Rp H ms v d) : Rp H' ms' v d := h.tr e.tr
theorem Rps.ext {ms ms' : Cells} {H H' : Hp} (e : Ext ms H ms' H') {vs : List V} {ds : List PyData} (h : Rps H ms vs ds) : Rps H' ms' vs ds := h.tr e.tr
theorem Rps.len {H : Hp} {ms : Cells} : ∀ {vs : List V} {ds : List PyData}, Rps H ms vs ds → vs.length = ds.length
  | _, _, .nil => rfl
  | _, _, .cons _ r => by rw [List.length_cons, List.length_cons, r.len]
theorem Rps.app {H : Hp} {ms : Cells} : ∀ {vs us : List V} {ds es : List PyData}, Rps H ms vs ds → Rps H ms us es → Rps H ms (vs ++ us) (ds ++ es)
  | _, _, _, _, .nil, s => s
  | _, _, _, _, .cons a r, s => .cons a (r.app s)
theorem Rps.get {H : Hp} {ms : Cells} : ∀ {vs : List V} {ds : List PyData} {i : Nat} {d : PyData}, Rps H ms vs ds → ds[i]? = some d → ∃ v, vs[i]? = some v ∧ Rp H ms v d
  | _, _, _, _, .nil, e => by simp at e
  | _, _, 0, _, .cons a _, e => by simp at e; subst e; exact ⟨_, rfl, a⟩
  | _, _, i + 1, _, .cons _ r, e => by
    obtain ⟨v, h1, h2⟩ := r.get (i := i) (by simpa using e)
    exact ⟨v, by simpa using h1, h2⟩
theorem Rps.getV {H : Hp} {ms : Cells} : ∀ {vs : List V} {ds : List PyData} {i : Nat} {v : V}, Rps H ms vs ds → vs[i]? = some v → ∃ d, ds[i]? = some d ∧ Rp H ms v d
  | _, _, _, _, .nil, e => by simp at e
  | _, _, 0, _, .cons a _, e => by simp at e; subst e; exact ⟨_, rfl, a⟩
  | _, _, i + 1, _, .cons _ r, e => by
    obtain ⟨v, h1, h2⟩ := r.getV (i := i) (by simpa using e)
    exact ⟨v, by simpa using h1, h2⟩
theorem Rps.take {H : Hp} {ms : Cells} : ∀ {vs : List V} {ds : List PyData} (n : Nat), Rps H ms vs ds → Rps H ms (vs.take n) (ds.take n)
  | _, _, 0, _ => by simpa using Rps.nil
  | _, _, _ + 1, .nil => by simpa using Rps.nil
  | _, _, n + 1, .cons a r => .cons a (r.take n)
theorem Rps.drop {H : Hp} {ms : Cells} : ∀ {vs : List V} {ds : List PyData} (n : Nat), Rps H ms vs ds → Rps H ms (vs.drop n) (ds.drop n)
  | _, _, 0, r => by simpa using r
  | _, _, _ + 1, .nil => by simpa using Rps.nil
  | _, _, n + 1, .cons _ r => by simpa using r.drop n
theorem Rps.set {H : Hp} {ms : Cells} {v : V} {d : PyData} (h : Rp H ms v d) : ∀ {vs : List V} {ds : List PyData} (n : Nat), Rps H ms vs ds → Rps H ms (vs.set n v) (ds.set n d)
  | _, _, _, .nil => .nil
  | _, _, 0, .cons _ r => .cons h r
  | _, _, n + 1, .cons a r => .cons a (Rps.set h n r)
theorem Rps.cut {H : Hp} {ms : Cells} {vs : List V} {ds : List PyData} (r : Rps H ms vs ds) (lo hi : Option Int) : Rps H ms (cutV vs lo hi) (cutL ds lo hi) := by
  have e : ∀ (n d : Nat) (o : Option Int), HT.sIx n d o = cutI n d o := fun n d o => by cases o <;> rfl
  unfold cutV cutL
  rw [e, e, r.len]
  exact (r.drop _).take _

/-- the fields of an instance, by its class -/
def fieldsOf (c : Str) : List Str := if c = "Web" then ["parts_so"] else if c = "Board" then ["now", "past"] else []
def kndOf (K : PySem.W.Frag) : Kd → Knd
  | .dic => .dic
  | .ins c => .ins (He.ga K c) (fieldsOf c)
/-- the entries of a dict -/
inductive DRl (H : Hp) (ms : Cells) : List (List L2.Key × V) → List PyData → Prop
  | nil : DRl H ms [] []
  | cons {ns : List Int} {v : V} {d : PyData} {kvs : List (List L2.Key × V)} {ds : List PyData} : Rp H ms v d → DRl H ms kvs ds → DRl H ms ((ns.map Sum.inl, v) :: kvs) (dent ns d :: ds)
theorem DRl.tr {ms ms' : Cells} {H H' : Hp} (e : Tr ms H ms' H') : ∀ {kvs : List (List L2.Key × V)} {ds : List PyData}, DRl H ms kvs ds → DRl H' ms' kvs ds
  | _, _, .nil => .nil
  | _, _, .cons a r => .cons (a.tr e) (r.tr e)
/-- what stands where a cell of a kind is -/
def KO : Knd → Hp → Cells → Addr → List PyData → Prop
  | .dic, H, ms, a, ds => ∃ kvs, H a = some (.dT kvs) ∧ DRl H ms kvs ds
  | .ins C fs, H, ms, a, ds => ∃ dx vs, H a = some (.ins C dx (fs.zip vs)) ∧ fs.length = vs.length ∧ Rps H ms vs ds
theorem KO.tr {ms ms' : Cells} {H H' : Hp} (e : Tr ms H ms' H') {a : Addr} (ha : H' a = H a) {ds : List PyData} : ∀ {κ : Knd}, KO κ H ms a ds → KO κ H' ms' a ds
  | .dic, ⟨kvs, h, r⟩ => ⟨kvs, ha.trans h, r.tr e⟩
  | .ins _ _, ⟨dx, vs, h, l, r⟩ => ⟨dx, vs, ha.trans h, l, r.tr e⟩
theorem KO.there {ms : Cells} {H : Hp} {a : Addr} {ds : List PyData} : ∀ {κ : Knd}, KO κ H ms a ds → ∃ o, NoTb o ∧ (∀ od u, o ≠ .frz od u) ∧ H a = some o
  | .dic, ⟨kvs, h, _⟩ => ⟨.dT kvs, (fun _ z => HO.noConfusion z), (fun _ _ z => HO.noConfusion z), h⟩
  | .ins C fs, ⟨dx, vs, h, _⟩ => ⟨.ins C dx (fs.zip vs), (fun _ z => HO.noConfusion z), (fun _ _ z => HO.noConfusion z), h⟩
/-- what stands where a cell is -/
def CellIs (H : Hp) (ms : Cells) (a : Addr) (ds : List PyData) : Prop :=
  (ms.plain a → ∃ vs, H a = some (.lst vs) ∧ vs.length ≤ line ∧ Rps H ms vs ds) ∧ ∀ κ, (a, κ) ∈ ms.kd → KO κ H ms a ds
/-- an exception's object of the class at C: its arguments stand at t -/
def exT (a C t : Addr) : HO := .ext fun h => h.get? a = some ({ cls := .ref C, dict := none, data := .fields #[.ref t, .none, .none, .none, .bool false, .none] } : Obj)
theorem exT_tb {a C t : Addr} : NoTb (exT a C t) := fun ps z => by unfold exT at z; cases z
theorem exo_tb {a C : Addr} {d : Option Addr} : NoTb (exo a C d) := fun ps z => by unfold exo at z; cases z
theorem exd_tb {a : Addr} {fs : List (Str × V)} : NoTb (exd a fs) := fun ps z => by unfold exd at z; cases z
/-- v is such an exception -/
inductive RpV (K : PySem.W.Frag) (H : Hp) (ms : Cells) : V → XV → Prop
  | msg {c m : Str} {a t : Addr} : H a = some (exT a (He.ga K c) t) → ¬ ms.has a → H t = some (.tup [.str m]) → ¬ ms.has t → RpV K H ms (.ref a) (.msg c m)
  | own {c : Str} {y : PyData} {a dx : Addr} {v : V} : H a = some (exo a (He.ga K c) (some dx)) → ¬ ms.has a → H dx = some (exd dx [(fieldOf c, v)]) → ¬ ms.has dx → Rp H ms v y → RpV K H ms (.ref a) (.own c y)
theorem RpV.tr {K : PySem.W.Frag} {ms ms' : Cells} {H H' : Hp} (e : Tr ms H ms' H') {v : V} {x : XV} (h : RpV K H ms v x) : RpV K H' ms' v x := by
  cases h with
  | msg h1 n1 h2 n2 => exact .msg (e.keep _ _ n1 exT_tb h1).1 (e.keep _ _ n1 exT_tb h1).2 (e.keep _ _ n2 nt_tup h2).1 (e.keep _ _ n2 nt_tup h2).2
  | own h1 n1 h2 n2 r => exact .own (e.keep _ _ n1 exo_tb h1).1 (e.keep _ _ n1 exo_tb h1).2 (e.keep _ _ n2 exd_tb h2).1 (e.keep _ _ n2 exd_tb h2).2 (r.tr e)
inductive RpVs (K : PySem.W.Frag) (H : Hp) (ms : Cells) : List V → List XV → Prop
  | nil : RpVs K H ms [] []
  | cons {v : V} {vs : List V} {x : XV} {xs : List XV} : RpV K H ms v x → RpVs K H ms vs xs → RpVs K H ms (v :: vs) (x :: xs)
theorem RpVs.tr {K : PySem.W.Frag} {ms ms' : Cells} {H H' : Hp} (e : Tr ms H ms' H') : ∀ {vs : List V} {xs : List XV}, RpVs K H ms vs xs → RpVs K H' ms' vs xs
  | _, _, .nil => .nil
  | _, _, .cons a r => .cons (a.tr e) (r.tr e)
theorem RpVs.len {K : PySem.W.Frag} {H : Hp} {ms : Cells} : ∀ {vs : List V} {xs : List XV}, RpVs K H ms vs xs → vs.length = xs.length
  | _, _, .nil => rfl
  | _, _, .cons _ r => by rw [List.length_cons, List.length_cons, r.len]
theorem RpVs.app {K : PySem.W.Frag} {H : Hp} {ms : Cells} {us : List V} {ys : List XV} (s : RpVs K H ms us ys) : ∀ {vs : List V} {xs : List XV}, RpVs K H ms vs xs → RpVs K H ms (vs ++ us) (xs ++ ys)
  | _, _, .nil => s
  | _, _, .cons a r => .cons a (s.app r)
theorem RpVs.get {K : PySem.W.Frag} {H : Hp} {ms : Cells} : ∀ {vs : List V} {xs : List XV} {i : Nat} {x : XV}, RpVs K H ms vs xs → xs[i]? = some x → ∃ v, vs[i]? = some v ∧ RpV K H ms v x
  | _, _, _, _, .nil, e => by simp at e
  | _, _, 0, _, .cons a _, e => by simp at e; subst e; exact ⟨_, rfl, a⟩
  | _, _, i + 1, _, .cons _ r, e => by
    obtain ⟨v, h1, h2⟩ := r.get (i := i) (by simpa using e)
    exact ⟨v, by simpa using h1, h2⟩
/-- a value -/
inductive RpW (K : PySem.W.Frag) (H : Hp) (ms : Cells) : V → W → Prop
  | f {x : Str} : RpW K H ms (.ref (He.ga K x)) (.f x)
  | d {v : V} {x : PyData} : Rp H ms v x → RpW K H ms v (.d x)
  | m {a : Addr} {k : Nat} : ms.ix[k]? = some a → ms.plain a → RpW K H ms (.ref a) (.m k)
  | xo {v : V} {x : XV} : RpV K H ms v x → RpW K H ms v (.xo x)
  | xl {a : Addr} {vs : List V} {l : List XV} : H a = some (.lst vs) → ¬ ms.has a → vs.length ≤ line → RpVs K H ms vs l → RpW K H ms (.ref a) (.xl l)
  | c {a : Addr} {κ : Kd} {k : Nat} : ms.ix[k]? = some a → (a, kndOf K κ) ∈ ms.kd → RpW K H ms (.ref a) (.c κ k)
  | scr {a : Addr} {ns : List Int} : (¬ ms.has a ∧ Rd H a (.lst (ns.map V.int))) ∨ (∀ H', SqL K H' a (ns.map V.int)) → RpW K H ms (.ref a) (.scr ns)
inductive RpWs (K : PySem.W.Frag) (H : Hp) (ms : Cells) : List V → List W → Prop
  | nil : RpWs K H ms [] []
  | cons {v : V} {vs : List V} {w : W} {ws : List W} : RpW K H ms v w → RpWs K H ms vs ws → RpWs K H ms (v :: vs) (w :: ws)
theorem RpW.tr {K : PySem.W.Frag} {ms ms' : Cells} {H H' : Hp} (e : Tr ms H ms' H') {v : V} {w : W} (h : RpW K H ms v w) : RpW K H' ms' v w := by
  cases h with
  | f => exact .f
  | d h => exact .d (h.tr e)
  | @m a k h hp =>
    obtain ⟨t, ht⟩ := e.pre
    have hk : k < ms.ix.length := (List.getElem?_eq_some_iff.mp h).1
    exact .m (by rw [← ht, List.getElem?_append_left hk]; exact h) (e.kd.2 a (List.mem_of_getElem? h) hp)
  | xo h => exact .xo (h.tr e)
  | xl h n l r => exact .xl (e.keep _ _ n nt_lst h).1 (e.keep _ _ n nt_lst h).2 l (r.tr e)
  | @c a κ k h hp =>
    obtain ⟨t, ht⟩ := e.pre
    have hk : k < ms.ix.length := (List.getElem?_eq_some_iff.mp h).1
    exact .c (by rw [← ht, List.getElem?_append_left hk]; exact h) (e.kd.1 _ hp)
  | @scr a ns h =>
    rcases h with ⟨n, h⟩ | h
    · rcases h with h | ⟨o', h⟩
      · exact .scr (.inl ⟨(e.keep _ _ n nt_lst h).2, .inl (e.keep _ _ n nt_lst h).1⟩)
      · exact .scr (.inl ⟨(e.keep _ _ n nt_frz h).2, .inr ⟨o', (e.keep _ _ n nt_frz h).1⟩⟩)
    · exact .scr (.inr h)
theorem RpW.ext {K : PySem.W.Frag} {ms ms' : Cells} {H H' : Hp} (e : Ext ms H ms' H') {v : V} {w : W} (h : RpW K H ms v w) : RpW K H' ms' v w := h.tr e.tr
theorem RpWs.ext {K : PySem.W.Frag} {ms ms' : Cells} {H H' : Hp} (e : Ext ms H ms' H') : ∀ {vs : List V} {ws : List W}, RpWs K H ms vs ws → RpWs K H' ms' vs ws
  | _, _, .nil => .nil
  | _, _, .cons a r => .cons (a.ext e) (r.ext e)
theorem RpWs.len {K : PySem.W.Frag} {ms : Cells} {H : Hp} : ∀ {vs : List V} {ws : List W}, RpWs K H ms vs ws → vs.length = ws.length
  | _, _, .nil => rfl
  | _, _, .cons _ r => by rw [List.length_cons, List.length_cons, r.len]

/-- the cells stand for the store -/
structure RpS (H : Hp) (ms : Cells) (S : Sto) : Prop where
  len : ms.ix.length = S.length
  nd : ms.ix.Nodup
  hd : ∀ b, b ∈ ms.hid → b ∉ ms.ix ∧ ∃ o, NoTb o ∧ H b = some o
  cells : ∀ (k : Nat) (a : Addr) (ds : List PyData), ms.ix[k]? = some a → S[k]? = some ds → CellIs H ms a ds
  tabs : LamX.Tabs ms.tb H
  kin : ∀ p, p ∈ ms.kd → p.1 ∈ ms.ix
theorem CellIs.tr {ms ms' : Cells} {H H' : Hp} (e : Tr ms H ms' H') (he : ms'.kd = ms.kd) {a : Addr} (ha : H' a = H a) {ds : List PyData} (h : CellIs H ms a ds) : CellIs H' ms' a ds :=
  ⟨fun hp => by
    obtain ⟨vs, q1, q2, q3⟩ := h.1 (fun κ z => hp κ (by rw [he]; exact z))
    exact ⟨vs, ha.trans q1, q2, q3.tr e⟩, fun κ hk => (h.2 κ (by rw [← he]; exact hk)).tr e ha⟩
theorem CellIs.there {ms : Cells} {H : Hp} {a : Addr} {ds : List PyData} (h : CellIs H ms a ds) : ∃ o, NoTb o ∧ (∀ od u, o ≠ .frz od u) ∧ H a = some o := by
  by_cases hp : ms.plain a
  · obtain ⟨vs, q1, _⟩ := h.1 hp
    exact ⟨_, nt_lst, (fun _ _ z => nomatch z), q1⟩
  · obtain ⟨κ, hk⟩ := Classical.not_forall.mp hp
    exact (h.2 κ (Classical.not_not.mp hk)).there
theorem RpS.cell {H : Hp} {ms : Cells} {S : Sto} (h : RpS H ms S) (k : Nat) (a : Addr) (ds : List PyData) (h1 : ms.ix[k]? = some a) (hp : ms.plain a) (h2 : S[k]? = some ds) : ∃ vs, H a = some (.lst vs) ∧ vs.length ≤ line ∧ Rps H ms vs ds := (h.cells k a ds h1 h2).1 hp
/-- where a cell is, something stands -/
theorem RpS.at_ {H : Hp} {ms : Cells} {S : Sto} (h : RpS H ms S) {a : Addr} (ha : a ∈ ms.ix) : ∃ o, NoTb o ∧ (∀ od u, o ≠ .frz od u) ∧ H a = some o := by
  obtain ⟨k, hk⟩ := List.getElem?_of_mem ha
  have hl : k < S.length := by rw [← h.len]; exact (List.getElem?_eq_some_iff.mp hk).1
  exact (h.cells k a S[k] hk (by simp [hl])).there
/-- the defs that may make functions -/
def lamNames : List Str := ["law", "_law_right", "_law_read_right", "_law_deeds", "_law_shown", "_law_refusals", "_law_tried", "_law_first", "_law_second", "_law_others"]
def lamHere (K : PySem.W.Frag) : List Str := lamNames.filter fun x => PySem.W.codeHdIn K (He.cT K (x, none)).1 (He.cT K (x, none)).2
/-- their tables, and the name that the functions bear -/
def tabsOf (K : PySem.W.Frag) : List (Addr × Str) := (lamHere K).map fun x => ((He.cT K (x, none)).2, x ++ ".<locals>." ++ "<lambda>")
/-- the slots stand for the names' values -/
structure RpE (K : PySem.W.Frag) (H : Hp) (ms : Cells) (σ : L2.St) (ρ : Env) : Prop where
  len : σ.length = ρ.length
  tb : ms.tb = tabsOf K
  val : ∀ (i : Nat) (w : W), ρ[i]? = some (some w) → ∃ v, σ[i]? = some (some v) ∧ RpW K H ms v w
section
variable {K : PySem.W.Frag} {H H' : Hp} {ms ms' : Cells} {σ : L2.St} {ρ : Env} {S : Sto}
theorem RpE.tr (e : Tr ms H ms' H') (h : RpE K H ms σ ρ) : RpE K H' ms' σ ρ := ⟨h.len, e.tb.trans h.tb, fun i w q => by
  obtain ⟨v, h1, h2⟩ := h.val i w q
  exact ⟨v, h1, h2.tr e⟩⟩
theorem RpE.ext (e : Ext ms H ms' H') (h : RpE K H ms σ ρ) : RpE K H' ms' σ ρ := h.tr e.tr
theorem RpE.set {i : Nat} {v : V} {w : W} (h : RpE K H ms σ ρ) (hv : RpW K H ms v w) : RpE K H ms (σ.set i (some v)) (ρ.set i (some w)) := by
  refine ⟨by rw [List.length_set, List.length_set, h.len], h.tb, fun j x q => ?_⟩
  by_cases hj : i = j
  · subst hj
    have hi : i < ρ.length := by
      have := (List.getElem?_eq_some_iff.mp q).1
      simpa using this
    rw [List.getElem?_set_self hi] at q
    cases q
    exact ⟨v, by rw [List.getElem?_set_self (by rw [h.len]; exact hi)], hv⟩
  · rw [List.getElem?_set_ne hj] at q
    obtain ⟨u, h1, h2⟩ := h.val j x q
    exact ⟨u, by rw [List.getElem?_set_ne hj]; exact h1, h2⟩
theorem RpE.unset {i : Nat} (h : RpE K H ms σ ρ) : RpE K H ms (σ.set i none) (ρ.set i none) := by
  refine ⟨by rw [List.length_set, List.length_set, h.len], h.tb, fun j x q => ?_⟩
  by_cases hj : i = j
  · subst hj
    have hi : i < ρ.length := by
      have := (List.getElem?_eq_some_iff.mp q).1
      simpa using this
    rw [List.getElem?_set_self hi] at q
    cases q
  · rw [List.getElem?_set_ne hj] at q
    obtain ⟨u, h1, h2⟩ := h.val j x q
    exact ⟨u, by rw [List.getElem?_set_ne hj]; exact h1, h2⟩
theorem RpE.wipe (h : RpE K H ms σ ρ) : ∀ vs : List Nat, RpE K H ms (L2.wipe σ vs) (Qv.wipe ρ vs)
  | [] => h
  | v :: vs => (h.wipe vs).unset
theorem RpS.ext (e : Ext ms H ms H') (h : RpS H ms S) (hc : ∀ a, a ∈ ms.ix → H' a = H a) (ht : LamX.Tabs ms.tb H') : RpS H' ms S := ⟨h.len, h.nd, fun b hb => by
  obtain ⟨h1, o, h0, h2⟩ := h.hd b hb
  exact ⟨h1, e.stay b o h0 h2⟩, fun k a ds h1 h2 => (h.cells k a ds h1 h2).tr e.tr rfl (hc a (List.mem_of_getElem? h1)), ht, h.kin⟩
/-- a new object beside -/
theorem RpS.laid {p : Addr} {o : HO} (hp : H p = none) (h : RpS H ms S) : RpS (upd H p o) ms S := h.ext (Ext.laid hp) (fun a ha => by
  obtain ⟨o, _, _, q⟩ := h.at_ ha
  exact upd_ne (ne_of_none q hp)) (h.tabs.ext fun b u q => by rw [upd_ne (ne_of_none q hp)]; exact q)
/-- a list is written -/
theorem tabs_upd {T : List (Addr × Str)} {a : Addr} {xs : List V} {o : HO} (h : LamX.Tabs T H) (ha : H a = some (.lst xs)) : LamX.Tabs T (upd H a o) := fun p hp => by
  obtain ⟨ps, h1, h2, h3⟩ := h p hp
  have ne : ∀ b u, H b = some u → u ≠ .lst xs → b ≠ a := fun b u e n z => by
    rw [z, ha] at e; cases e; exact n rfl
  refine ⟨ps, by rw [upd_ne (ne _ _ h1 (fun z => nomatch z))]; exact h1, h2, fun pos cv hc => ?_⟩
  obtain ⟨c, e1, e2⟩ := h3 pos cv hc
  exact ⟨c, e1, by rw [upd_ne (ne _ _ e2 (fun z => by unfold LamX.CodeO at z; cases z))]; exact e2⟩
theorem RpS.notin {p : Addr} (hp : H p = none) (h : RpS H ms S) : ¬ ms.has p := fun q => by
  rcases q with q | q
  rotate_left
  · obtain ⟨_, o, _, z⟩ := h.hd p q
    rw [hp] at z; cases z
  obtain ⟨o, _, _, z⟩ := h.at_ q
  rw [hp] at z; cases z
end

/-- what an exception is -/
def RpX (mg : Str → Option Value) (H : Hp) (ms : Cells) (cls : Value) (d : Option Addr) (x : Exn) : Prop :=
  ∃ C, mg x.cls = some (.ref C) ∧ cls = .ref C ∧ match x.arg with
    | none => True
    | some y => ∃ dd v, d = some dd ∧ H dd = some (.xd [(fieldOf x.cls, v)]) ∧ Rp H ms v y
/-- what is asked of an outcome -/
def PostG {α : Type} (mg : Str → Option Value) (E : XK) (ms : Cells) (H : Hp) (Kk : α → Cells → Hp → Prop) : Option (Rs α) → Prop
  | none => False
  | some (.ok a S') => ∀ ms' H', Ext ms H ms' H' → RpS H' ms' S' → Kk a ms' H'
  | some (.ex x S') => ∀ ms' H' cls d, Ext ms H ms' H' → RpS H' ms' S' → RpX mg H' ms' cls d x → E cls d H'
section
variable {α β : Type} {mg : Str → Option Value} {E : XK} {ms : Cells} {H : Hp} {S : Sto}
/-- one after the other -/
theorem PostG.bnd {m : M α} {f : α → M β} {Kk : β → Cells → Hp → Prop} {S : Sto} (h : PostG mg E ms H Kk (m.bnd f S)) :
    match m S with
    | none => False
    | some (.ok a S1) => ∀ ms1 H1, Ext ms H ms1 H1 → PostG mg E ms1 H1 Kk (f a S1)
    | some (.ex x S1) => ∀ ms' H' cls d, Ext ms H ms' H' → RpS H' ms' S1 → RpX mg H' ms' cls d x → E cls d H' := by
  unfold M.bnd at h
  cases e : m S with
  | none => rw [e] at h; exact h
  | some r =>
    rw [e] at h
    cases r with
    | ex x S1 => exact h
    | ok a S1 =>
      intro ms1 H1 e1
      dsimp only at h
      show PostG mg E ms1 H1 Kk (f a S1)
      cases e2 : f a S1 with
      | none => rw [e2] at h; exact h
      | some r2 =>
        rw [e2] at h
        cases r2 with
        | ex x S2 => exact fun ms' H' cls d q1 q2 q3 => h ms' H' cls d (e1.trans q1) q2 q3
        | ok b S2 => exact fun ms' H' q1 q2 => h ms' H' (e1.trans q1) q2
/-- the reading of a part, then what follows -/
theorem PostG.part {m : M α} {f : α → M β} {Kk : β → Cells → Hp → Prop} {Kp : α → Cells → Hp → Prop} {S : Sto} (h : PostG mg E ms H Kk (m.bnd f S))
    (hk : ∀ a S1 ms1 H1, m S = some (.ok a S1) → Ext ms H ms1 H1 → RpS H1 ms1 S1 → PostG mg E ms1 H1 Kk (f a S1) → Kp a ms1 H1) : PostG mg E ms H Kp (m S) := by
  have q := h.bnd
  cases e : m S with
  | none => rw [e] at q; exact q
  | some r =>
    rw [e] at q
    cases r with
    | ex x S1 => exact q
    | ok a S1 => exact fun ms1 H1 e1 r1 => hk a S1 ms1 H1 e e1 r1 (q ms1 H1 e1)
theorem PostG.ret {a : α} {Kk : α → Cells → Hp → Prop} (r : RpS H ms S) (h : PostG mg E ms H Kk (M.ret a S)) : Kk a ms H := h ms H (Ext.refl _ _) r
theorem PostG.imp {Kk Kp : α → Cells → Hp → Prop} {o : Option (Rs α)} (h : PostG mg E ms H Kk o) (hk : ∀ a ms' H', Ext ms H ms' H' → Kk a ms' H' → Kp a ms' H') : PostG mg E ms H Kp o := by
  cases o with
  | none => exact h
  | some r => cases r with
    | ex x S1 => exact h
    | ok a S1 => exact fun ms' H' e r => hk a ms' H' e (h ms' H' e r)
end
/-- a value as data, now -/
def Rv (H : Hp) (ms : Cells) (v : V) (d : PyData) : Prop :=
  Rp H ms v d ∨ ∃ a xs ds, v = .ref a ∧ d = .list ds ∧ H a = some (.lst xs) ∧ xs.length ≤ line ∧ Rps H ms xs ds
theorem RpW.get {K : PySem.W.Frag} {H : Hp} {ms : Cells} {S : Sto} {v : V} {w : W} {d : PyData} (r : RpS H ms S) (h : RpW K H ms v w) (e : w.get S = some d) : Rv H ms v d := by
  cases h with
  | f => cases e
  | d h => cases e; exact .inl h
  | c => cases e
  | xo => cases e
  | xl => cases e
  | @m a k h hpl =>
    have e' : (match S[k]? with | none => none | some ds => some (PyData.list ds)) = some d := e
    cases q : S[k]? with
    | none => rw [q] at e'; cases e'
    | some ds =>
      rw [q] at e'; cases e'
      obtain ⟨vs, h1, h2, h3⟩ := r.cell k a ds h hpl q
      exact .inr ⟨a, vs, ds, rfl, rfl, h1, h2, h3⟩
  | scr h => cases e
theorem Rv.lst {H : Hp} {ms : Cells} {v : V} {ds : List PyData} (h : Rv H ms v (.list ds)) : ∃ a xs, v = .ref a ∧ H a = some (.lst xs) ∧ xs.length ≤ line ∧ Rps H ms xs ds := by
  rcases h with h | ⟨a, xs, ds', e1, e2, h1, h2, h3⟩
  · cases h with | lst h1 h2 h3 h4 => exact ⟨_, _, rfl, h1, h3, h4⟩
  · cases e2; exact ⟨a, xs, e1, h1, h2, h3⟩
theorem Rv.tup {H : Hp} {ms : Cells} {v : V} {ds : List PyData} (h : Rv H ms v (.tuple ds)) : ∃ a xs, v = .ref a ∧ H a = some (.tup xs) ∧ ¬ ms.has a ∧ xs.length ≤ line ∧ Rps H ms xs ds := by
  rcases h with h | ⟨a, xs, ds', e1, e2, h1, h2, h3⟩
  · cases h with | tup h1 h2 h3 h4 => exact ⟨_, _, rfl, h1, h2, h3, h4⟩
  · cases e2
theorem Rv.int {H : Hp} {ms : Cells} {v : V} {i : Int} (h : Rv H ms v (.int i)) : v = .int i := by
  rcases h with h | ⟨a, xs, ds', e1, e2, h1, h2, h3⟩
  · cases h; rfl
  · cases e2
theorem Rv.str {H : Hp} {ms : Cells} {v : V} {i : Str} (h : Rv H ms v (.str i)) : v = .str i := by
  rcases h with h | ⟨a, xs, ds', e1, e2, h1, h2, h3⟩
  · cases h; rfl
  · cases e2
theorem Rv.bl {H : Hp} {ms : Cells} {v : V} {i : Bool} (h : Rv H ms v (.bool i)) : v = .bl i := by
  rcases h with h | ⟨a, xs, ds', e1, e2, h1, h2, h3⟩
  · cases h; rfl
  · cases e2
theorem Rv.non {H : Hp} {ms : Cells} {v : V} (h : Rv H ms v .none) : v = .non := by
  rcases h with h | ⟨a, xs, ds', e1, e2, h1, h2, h3⟩
  · cases h; rfl
  · cases e2
mutual
theorem Rp.dp {K : PySem.W.Frag} {H : Hp} {ms : Cells} : ∀ {v : V} {d : PyData}, Rp H ms v d → Dp K H v d
  | _, _, .non => .non
  | _, _, .bl b => .bl b
  | _, _, .int i => .int i
  | _, _, .str x => .str x
  | _, _, .lst h _ _ r => .lst (SqL.of h) (Rps.dp r)
  | _, _, .tup h _ _ r => .tup (SqT.of h) (Rps.dp r)
theorem Rps.dp {K : PySem.W.Frag} {H : Hp} {ms : Cells} : ∀ {vs : List V} {ds : List PyData}, Rps H ms vs ds → DpAll K H vs ds
  | _, _, .nil => .nil
  | _, _, .cons a r => .cons (Rp.dp a) (Rps.dp r)
end
theorem Rv.dp {K : PySem.W.Frag} {H : Hp} {ms : Cells} {v : V} {d : PyData} (h : Rv H ms v d) : Dp K H v d := by
  rcases h with h | ⟨a, xs, ds', e1, e2, h1, h2, h3⟩
  · exact h.dp
  · subst e1 e2; exact .lst (SqL.of h1) h3.dp
end Qv

/-! Snd0 -/
set_option maxHeartbeats 0
/-! a tuple once -/
namespace L2
open PySem PySem.Spec PyProof.Rows
theorem tuple_once (l : Addr) (items : Array Value) (n : Nat) (dd : Option Addr) (sl : Array (Option Value)) (u : Tok) :
    Meets (Builtin.«tuple.__mul__» ⟨[.ref l, .int 1 u], []⟩) (fun _ R s => s.heap.get? l = some { cls := .type "tuple", dict := dd, data := .seq items n, slots := sl } ∧ R (.ok (.ret (Value.ref l))) s) :=
  .of_wp fun prog w A R s h => by
    obtain ⟨hp, g, d, tk, os⟩ := s
    obtain ⟨hl, h⟩ := h
    have f1 := AutoSeq1.idx_int
    wp_walk using wpAny_loadPart' hl
    repeat (first
      | (refine wpAny_ite_false (by decide) ?_; wp_walk using wpAny_loadPart' hl)
      | (refine wpAny_ite_true (decide_eq_true (by rw [Bool.or_eq_true]; exact .inr rfl)) ?_; wp_walk using wpAny_loadPart' hl))
    exact ⟨_, rfl, h⟩
def rOnceT (K : PySem.W.Frag) : R2 := fun x y H Q => ∃ l xs, x = .ref l ∧ y = .int 1 ∧ SqT K H l xs ∧ Q (.ref l) H
section
variable {X : Cx}
theorem op_onceT : OpR X (binaryOp .Mult) (rOnceT X.K) := by
  intro pins s σ H x y v u Q I rx ry h
  obtain ⟨l, xs, rfl, rfl, hT, q⟩ := h
  cases rx
  obtain ⟨t, rfl⟩ := ry
  obtain ⟨its, r, ⟨⟨cls, dd, data, sl⟩, ho, hc, n, hd⟩, hs⟩ := I.tuple hT
  simp only at hc hd
  subst hc hd
  exact wpAny_binaryOp_repeat_ref (T := "tuple") (U := "int") (by decide) ⟨_, ho, rfl⟩ (fun s' => typeIs_int s' 1 t) noFill_tuple_mul F.fills_int_mul F.slot_int_rmul repeat_tuple F.slot_int_index.lookup
    (call_meets F.slot_int_rmul (typeIs_int s 1 t) F.entry_int_rmul (F.args_int_rmul_2 _ _) (int_rmul_tuple 1 t l its.toArray n dd sl)
      ⟨ho, rfl, ⟨_, ho, rfl⟩, call_meets F.slot_tuple_mul ⟨_, ho, rfl⟩ F.entry_tuple_mul (F.args_tuple_mul_2 _ _) (tuple_once l its.toArray n dd sl t) ⟨ho, .ref l, H, I, rfl, q⟩⟩)
end
end L2

/-! Snd1 -/
set_option maxHeartbeats 0
/-! Expressions: each construct does what ev says. -/
namespace Qv
open PySem PySem.Spec PyProof.Rows L2

section
variable {α β : Type} {mg : Str → Option Value} {E : XK} {ms : Cells} {H : Hp} {S : Sto} {Kk : β → Cells → Hp → Prop}
theorem PostG.look {w : W} {f : PyData → M β} (h : PostG mg E ms H Kk ((look w).bnd f S)) : ∃ d, w.get S = some d ∧ PostG mg E ms H Kk (f d S) := by
  unfold M.bnd Qv.look at h
  cases e : w.get S with
  | none => rw [e] at h; exact h.elim
  | some d => rw [e] at h; exact ⟨d, rfl, h⟩
theorem PostG.opt {o : Option α} {f : α → M β} (h : PostG mg E ms H Kk ((M.opt o).bnd f S)) : ∃ a, o = some a ∧ PostG mg E ms H Kk (f a S) := by
  cases o with
  | none => exact h.elim
  | some a => exact ⟨a, rfl, h⟩
theorem PostG.bool {w : W} {f : Bool → M β} (h : PostG mg E ms H Kk ((asBool w).bnd f S)) : ∃ b, w = .d (.bool b) ∧ PostG mg E ms H Kk (f b S) := by
  cases w with
  | d x => cases x <;> first | exact h.elim | exact ⟨_, rfl, h⟩
  | m k => exact h.elim
  | scr k => exact h.elim
  | c κ k => exact h.elim
  | xo k => exact h.elim
  | xl k => exact h.elim
  | f k => exact h.elim
theorem PostG.int {w : W} {f : Int → M β} (h : PostG mg E ms H Kk ((asInt w).bnd f S)) : ∃ b, w = .d (.int b) ∧ PostG mg E ms H Kk (f b S) := by
  cases w with
  | d x => cases x <;> first | exact h.elim | exact ⟨_, rfl, h⟩
  | m k => exact h.elim
  | scr k => exact h.elim
  | c κ k => exact h.elim
  | xo k => exact h.elim
  | xl k => exact h.elim
  | f k => exact h.elim
theorem PostG.data {w : W} {f : PyData → M β} (h : PostG mg E ms H Kk ((asData w).bnd f S)) : ∃ b, w = .d b ∧ PostG mg E ms H Kk (f b S) := by
  cases w with
  | d x => exact ⟨_, rfl, h⟩
  | m k => exact h.elim
  | scr k => exact h.elim
  | c κ k => exact h.elim
  | xo k => exact h.elim
  | xl k => exact h.elim
  | f k => exact h.elim
theorem PostG.cell {w : W} {f : Nat → M β} (h : PostG mg E ms H Kk ((asCell w).bnd f S)) : ∃ b, w = .m b ∧ PostG mg E ms H Kk (f b S) := by
  cases w with
  | d x => exact h.elim
  | m k => exact ⟨_, rfl, h⟩
  | scr k => exact h.elim
  | c κ k => exact h.elim
  | xo k => exact h.elim
  | xl k => exact h.elim
  | f k => exact h.elim
theorem PostG.script {w : W} {f : List Int → M β} (h : PostG mg E ms H Kk ((asScr w).bnd f S)) : ∃ b, w = .scr b ∧ PostG mg E ms H Kk (f b S) := by
  cases w with
  | d x => exact h.elim
  | m k => exact h.elim
  | f k => exact h.elim
  | scr k => exact ⟨_, rfl, h⟩
  | c κ k => exact h.elim
  | xo k => exact h.elim
  | xl k => exact h.elim
theorem PostG.datas {ws : List W} : ∀ {f : List PyData → M β}, PostG mg E ms H Kk ((asDatas ws).bnd f S) → ∃ ds, ws = ds.map .d ∧ PostG mg E ms H Kk (f ds S) := by
  induction ws with
  | nil => exact fun h => ⟨[], rfl, h⟩
  | cons w ws ih =>
    intro f h
    cases w with
    | m k => exact h.elim
    | scr k => exact h.elim
    | c κ k => exact h.elim
    | xo k => exact h.elim
    | xl k => exact h.elim
    | f k => exact h.elim
    | d x =>
      have h' : PostG mg E ms H Kk ((asDatas ws).bnd (fun xs => f (x :: xs)) S) := by
        have q : ((asDatas (.d x :: ws)).bnd f S) = ((asDatas ws).bnd (fun xs => f (x :: xs)) S) := by
          show (((asDatas ws).bnd fun xs => M.ret (x :: xs)).bnd f) S = _
          unfold M.bnd
          cases e : asDatas ws S with
          | none => rfl
          | some r => cases r <;> rfl
        rw [← q]; exact h
      obtain ⟨ds, rfl, q⟩ := ih h'
      exact ⟨x :: ds, rfl, q⟩
theorem PostG.looks {ws : List W} : ∀ {f : List PyData → M β}, PostG mg E ms H Kk ((looks ws).bnd f S) → ∃ ds : List PyData, ws.length = ds.length ∧ (∀ (i : Nat) (w : W), ws[i]? = some w → ∃ d, ds[i]? = some d ∧ w.get S = some d) ∧ PostG mg E ms H Kk (f ds S) := by
  induction ws with
  | nil => exact fun h => ⟨[], rfl, fun i w e => by simp at e, h⟩
  | cons w ws ih =>
    intro f h
    have h1 : PostG mg E ms H Kk ((Qv.look w).bnd (fun x => (Qv.looks ws).bnd fun xs => f (x :: xs)) S) := by
      have q : ((Qv.looks (w :: ws)).bnd f S) = ((Qv.look w).bnd (fun x => (Qv.looks ws).bnd fun xs => f (x :: xs)) S) := by
        show (((Qv.look w).bnd fun x => (Qv.looks ws).bnd fun xs => M.ret (x :: xs)).bnd f) S = _
        unfold M.bnd Qv.look
        cases e : w.get S with
        | none => rfl
        | some x =>
          dsimp only
          cases e2 : Qv.looks ws S with
          | none => rfl
          | some r => cases r <;> rfl
      rw [← q]; exact h
    obtain ⟨d, e1, h2⟩ := h1.look
    obtain ⟨ds, l, g, q⟩ := ih h2
    refine ⟨d :: ds, by simp [l], fun i w' e => ?_, q⟩
    cases i with
    | zero => simp at e; subst e; exact ⟨d, rfl, e1⟩
    | succ i =>
      obtain ⟨d', q1, q2⟩ := g i w' (by simpa using e)
      exact ⟨d', by simpa using q1, q2⟩
end

/-- the reading of an expression: what ev says of it -/
def tE (K : PySem.W.Frag) (mg : Str → Option Value) (E : XK) (Γ : Fns) (ie : IE) : TE := fun σ H Q =>
  ∃ ms ρ S, RpE K H ms σ ρ ∧ RpS H ms S ∧ PostG mg E ms H (fun w ms' H' => ∀ v, RpW K H' ms' v w → Q v H') (ev Γ ie ρ S)
/-- of a test -/
def tT (K : PySem.W.Frag) (mg : Str → Option Value) (E : XK) (Γ : Fns) (ie : IE) : TT := fun σ H Q =>
  ∃ ms ρ S, RpE K H ms σ ρ ∧ RpS H ms S ∧ PostG mg E ms H (fun b _ H' => Q b H') ((ev Γ ie ρ).bnd asBool S)
/-- of arguments -/
def tA (K : PySem.W.Frag) (mg : Str → Option Value) (E : XK) (Γ : Fns) (ies : IEs) : TA := fun σ H Q =>
  ∃ ms ρ S, RpE K H ms σ ρ ∧ RpS H ms S ∧ PostG mg E ms H (fun ws ms' H' => ∀ vs, RpWs K H' ms' vs ws → Q vs H') (evs Γ ies ρ S)
/-- of a part of a slice -/
def tO (K : PySem.W.Frag) (mg : Str → Option Value) (E : XK) (Γ : Fns) (io : IO) : TO := fun σ H Q =>
  ∃ ms ρ S, RpE K H ms σ ρ ∧ RpS H ms S ∧ PostG mg E ms H (fun o _ H' => Q o H') (evo Γ io ρ S)

section
variable {X : Cx} {e : Expr} {es : List Expr} {t t' : TE}
theorem pe_imp (h : PE X e t) (hi : ∀ σ H Q, t' σ H Q → t σ H Q) : PE X e t' := ⟨fun pins s σ H Q I q => h.run pins s σ H Q I (hi σ H Q q)⟩
theorem pt_imp {t t' : TT} (h : PT X e t) (hi : ∀ σ H Q, t' σ H Q → t σ H Q) : PT X e t' := ⟨fun pins s σ H Q I q => h.run pins s σ H Q I (hi σ H Q q)⟩
theorem pw_imp {t t' : TT} (h : PW X e t) (hi : ∀ σ H Q, t' σ H Q → t σ H Q) : PW X e t' := ⟨fun w pins s σ H Q I q => h.run w pins s σ H Q I (hi σ H Q q)⟩
theorem pa_imp {t t' : TA} (h : PA X es t) (hi : ∀ σ H Q, t' σ H Q → t σ H Q) : PA X es t' := ⟨fun pos pins s σ H Q I q => h.run pos pins s σ H Q I (hi σ H Q q)⟩
theorem po_imp {t t' : TO} {o : Option Expr} (h : PO X o t) (hi : ∀ σ H Q, t' σ H Q → t σ H Q) : PO X o t' := ⟨fun pins s σ H Q I q => h.run pins s σ H Q I (hi σ H Q q)⟩
end

section
variable {X : Cx} {mg : Str → Option Value} {E : XK} {Γ : Fns} {a b c : Expr} {ia ib ic : IE} {pos : Pos} {es : List Expr} {ies : IEs}
/-- PE, PT, PA, PO by what ev says -/
abbrev SE (X : Cx) (mg : Str → Option Value) (E : XK) (Γ : Fns) (e : Expr) (ie : IE) : Prop := PE X e (tE X.K mg E Γ ie)
abbrev ST (X : Cx) (mg : Str → Option Value) (E : XK) (Γ : Fns) (e : Expr) (ie : IE) : Prop := PT X e (tT X.K mg E Γ ie)
abbrev SW (X : Cx) (mg : Str → Option Value) (E : XK) (Γ : Fns) (e : Expr) (ie : IE) : Prop := PW X e (tT X.K mg E Γ ie)
abbrev SA (X : Cx) (mg : Str → Option Value) (E : XK) (Γ : Fns) (es : List Expr) (ies : IEs) : Prop := PA X es (tA X.K mg E Γ ies)
abbrev SO (X : Cx) (mg : Str → Option Value) (E : XK) (Γ : Fns) (o : Option Expr) (io : IO) : Prop := PO X o (tO X.K mg E Γ io)

theorem s_var (i : Nat) {x : Str} (hN : X.N[i]? = some x := by rfl) (hv : Vis X.env.scope x := by first | exact Or.inl rfl | exact Or.inr (Or.inl rfl) | exact Or.inr (Or.inr rfl)) (hd : (x == ("__debug__" : Str)) = false := by decide)
    (hcd : (x == ("__classdict__" : Str)) = false := by decide) : SE X mg E Γ (.Name x pos) (.var i) := by
  refine pe_imp (pe_var hN hv hd hcd) fun σ H Q ⟨ms, ρ, S, he, hs, hp⟩ => ?_
  have hp' : PostG mg E ms H (fun w ms' H' => ∀ v, RpW X.K H' ms' v w → Q v H') ((match ρ[i]? with | some (some w) => M.ret w | _ => M.no : M W) S) := hp
  cases q : ρ[i]? with
  | none => rw [q] at hp'; exact hp'.elim
  | some o =>
    cases o with
    | none => rw [q] at hp'; exact hp'.elim
    | some w =>
      rw [q] at hp'
      obtain ⟨v, h1, h2⟩ := he.val i w q
      exact ⟨v, h1, hp'.ret hs v h2⟩
theorem s_int {i : Int} {j : Nat} : SE X mg E Γ (.Constant (.int i) j pos) (.cst (.int i)) := pe_imp pe_int fun σ H Q ⟨ms, ρ, S, he, hs, hp⟩ => PostG.ret hs hp _ (.d (.int i))
theorem s_bl {i : Bool} {j : Nat} : SE X mg E Γ (.Constant (.bool i) j pos) (.cst (.bool i)) := pe_imp pe_bl fun σ H Q ⟨ms, ρ, S, he, hs, hp⟩ => PostG.ret hs hp _ (.d (.bl i))
theorem s_non {j : Nat} : SE X mg E Γ (.Constant .none j pos) (.cst .none) := pe_imp pe_non fun σ H Q ⟨ms, ρ, S, he, hs, hp⟩ => PostG.ret hs hp _ (.d .non)
theorem s_str {x : Str} {j : Nat} : SE X mg E Γ (.Constant (.str x) j pos) (.cst (.str x)) := pe_imp pe_str fun σ H Q ⟨ms, ρ, S, he, hs, hp⟩ => PostG.ret hs hp _ (.d (.str x))
/-- a module's int -/
theorem s_glob {x : Str} {i : Int} {t : Tok} (hg : Gl X x) (hm : X.mg x = some (.int i t)) (hd : (x == ("__debug__" : Str)) = false := by decide) : SE X mg E Γ (.Name x pos) (.cst (.int i)) :=
  pe_imp (pe_glob (v := .int i) hg hm ⟨t, rfl⟩ hd) fun σ H Q ⟨ms, ρ, S, he, hs, hp⟩ => PostG.ret hs hp _ (.d (.int i))

theorem sa_nil : SA X mg E Γ [] .nil := pa_imp pa_nil fun σ H Q ⟨ms, ρ, S, he, hs, hp⟩ => PostG.ret hs hp [] .nil
theorem sa_cons (ha : SE X mg E Γ a ia) (hr : SA X mg E Γ es ies) (hs : starEach (a :: es) X.env = (false, eval a X.env) :: starEach es X.env := by rfl) : SA X mg E Γ (a :: es) (.cons ia ies) := by
  refine pa_imp (pa_cons ha hr hs) fun σ H Q ⟨ms, ρ, S, he, hs, hp⟩ => ?_
  refine ⟨ms, ρ, S, he, hs, PostG.part (f := fun w => (evs Γ ies ρ).bnd fun ws => M.ret (w :: ws)) hp fun w S1 ms1 H1 _ e1 r1 h1 v hv => ⟨ms1, ρ, S1, he.ext e1, r1, h1.part fun ws S2 ms2 H2 _ e2 r2 h2 vs hvs => ?_⟩⟩
  exact h2.ret r2 (v :: vs) (.cons (hv.ext e2) hvs)

theorem datas_rp {K : PySem.W.Frag} {H : Hp} {ms : Cells} : ∀ {vs : List V} {ds : List PyData}, RpWs K H ms vs (ds.map .d) → Rps H ms vs ds
  | _, [], h => by
    have h' : RpWs K H ms _ [] := h
    cases h'; exact .nil
  | _, d :: ds, h => by
    have h' : RpWs K H ms _ (.d d :: ds.map .d) := h
    cases h' with
    | cons a r =>
      cases a with
      | d a => exact .cons a (datas_rp r)
def IEs.len : IEs → Nat
  | .nil => 0
  | .cons _ es => es.len + 1
theorem evs_len {Γ : Fns} {ρ : Env} : ∀ (ies : IEs) {S S' : Sto} {ws : List W}, evs Γ ies ρ S = some (.ok ws S') → ws.length = ies.len
  | .nil, S, S', ws, h => by
    have h' : some (Rs.ok ([] : List W) S) = some (.ok ws S') := h
    cases h'; rfl
  | .cons e es, S, S', ws, h => by
    have h' : ((ev Γ e ρ).bnd fun w => (evs Γ es ρ).bnd fun ws => M.ret (w :: ws)) S = some (.ok ws S') := h
    unfold M.bnd at h'
    cases q : ev Γ e ρ S with
    | none => rw [q] at h'; cases h'
    | some r =>
      rw [q] at h'
      cases r with
      | ex x S1 => cases h'
      | ok w S1 =>
        dsimp only at h'
        cases q2 : evs Γ es ρ S1 with
        | none => rw [q2] at h'; cases h'
        | some r2 =>
          rw [q2] at h'
          cases r2 with
          | ex x S2 => cases h'
          | ok ws2 S2 =>
            have ih := evs_len es q2
            dsimp only [M.ret] at h'
            cases h'
            show ws2.length + 1 = es.len + 1
            rw [ih]
theorem RpWs.lenD {K : PySem.W.Frag} {H : Hp} {ms : Cells} {vs : List V} {ds : List PyData} (h : RpWs K H ms vs (ds.map W.d)) : vs.length = ds.length := by
  rw [h.len, List.length_map]
/-- what is left to be said of a result -/
def Fin (E : XK) (mg : Str → Option Value) (ms : Cells) (H : Hp) (S : Sto) (Q : VK) (d : PyData) : Prop := ∀ (H' : Hp) (v : V), Ext ms H ms H' → RpS H' ms S → Rp H' ms v d → Q v H'
theorem Fin.of {K : PySem.W.Frag} {ms : Cells} {H : Hp} {S : Sto} {Q : VK} {d : PyData} (h : PostG mg E ms H (fun w ms' H' => ∀ v, RpW K H' ms' v w → Q v H') (M.ret (W.d d) S)) : Fin E mg ms H S Q d :=
  fun H' v e r p => h ms H' e r v (.d p)
theorem Fin.now {ms : Cells} {H : Hp} {S : Sto} {Q : VK} {d : PyData} (h : Fin E mg ms H S Q d) {v : V} (r : RpS H ms S) (p : Rp H ms v d) : Q v H := h H v (Ext.refl _ _) r p
theorem Fin.newL {ms : Cells} {H : Hp} {S : Sto} {Q : VK} {ds : List PyData} (h : Fin E mg ms H S Q (.list ds)) (r : RpS H ms S) {xs : List V} (hl : xs.length ≤ line) (hx : Rps H ms xs ds) {p : Addr} (hp : H p = none) : Q (.ref p) (upd H p (.lst xs)) :=
  h _ _ (Ext.laid hp) (r.laid hp) (.lst upd_same (r.notin hp) hl (hx.ext (Ext.laid hp)))
theorem Fin.newT {ms : Cells} {H : Hp} {S : Sto} {Q : VK} {ds : List PyData} (h : Fin E mg ms H S Q (.tuple ds)) (r : RpS H ms S) {xs : List V} (hl : xs.length ≤ line) (hx : Rps H ms xs ds) {p : Addr} (hp : H p = none) : Q (.ref p) (upd H p (.tup xs)) :=
  h _ _ (Ext.laid hp) (r.laid hp) (.tup upd_same (r.notin hp) hl (hx.ext (Ext.laid hp)))
theorem s_tup {x1 : Nat} (h : SA X mg E Γ es ies) (hl : ies.len ≤ line := by decide) : SE X mg E Γ (.Tuple es x1 pos) (.tup ies) := by
  refine pe_imp (pe_tup h) fun σ H Q ⟨ms, ρ, S, he, hs, hp⟩ => ?_
  refine ⟨ms, ρ, S, he, hs, PostG.part (f := fun ws => (asDatas ws).bnd fun ds => M.ret (W.d (.tuple ds))) hp fun ws S1 ms1 H1 ew e1 r1 h1 vs hvs => ?_⟩
  obtain ⟨ds, rfl, h2⟩ := h1.datas
  have hn : vs.length ≤ line := by rw [hvs.len, evs_len ies ew]; exact hl
  exact ⟨by rw [← line_eq]; exact hn, fun p hp => (Fin.of h2).newT r1 hn (datas_rp hvs) hp⟩
theorem s_lst (h : SA X mg E Γ es ies) (hl : ies.len ≤ line := by decide) : SE X mg E Γ (.List es pos) (.lst ies) := by
  refine pe_imp (pe_lst h) fun σ H Q ⟨ms, ρ, S, he, hs, hp⟩ => ?_
  refine ⟨ms, ρ, S, he, hs, PostG.part (f := fun ws => (asDatas ws).bnd fun ds => M.ret (W.d (.list ds))) hp fun ws S1 ms1 H1 ew e1 r1 h1 vs hvs => ?_⟩
  obtain ⟨ds, rfl, h2⟩ := h1.datas
  have hn : vs.length ≤ line := by rw [hvs.len, evs_len ies ew]; exact hl
  exact ⟨by rw [← line_eq]; exact hn, fun p hp => (Fin.of h2).newL r1 hn (datas_rp hvs) hp⟩
/-- a new cell -/
def Cells.more (ms : Cells) (p : Addr) : Cells := ⟨ms.ix ++ [p], ms.hid, ms.tb, ms.kd⟩
theorem RpS.plain {H : Hp} {ms : Cells} {S : Sto} (r : RpS H ms S) {p : Addr} (hp : p ∉ ms.ix) : ms.plain p := fun κ z => hp (r.kin _ z)
theorem RpS.more {H : Hp} {ms : Cells} {S : Sto} (r : RpS H ms S) {p : Addr} (hp : H p = none) {xs : List V} {ds : List PyData} (hl : xs.length ≤ line) (hx : Rps H ms xs ds) :
    Ext ms H (ms.more p) (upd H p (.lst xs)) ∧ RpS (upd H p (.lst xs)) (ms.more p) (S ++ [ds]) := by
  have e : Ext ms H (ms.more p) (upd H p (.lst xs)) := ⟨List.prefix_append _ _, rfl, rfl, KdE.refl _, fun b u _ _ q => by rw [upd_ne (ne_of_none q hp)]; exact q, fun b u nt q => ⟨u, nt, by rw [upd_ne (ne_of_none q hp)]; exact q⟩, fun b hb => by
    rcases List.mem_append.mp hb with h | h
    · exact .inl h
    · have : b = p := by simpa using h
      subst this; exact .inr fun o _ z => by rw [hp] at z; cases z⟩
  have np := r.notin hp
  refine ⟨e, by show (ms.ix ++ [p]).length = _; rw [List.length_append, List.length_append, r.len]; rfl, ?_, fun b hb => ?_, fun k a ds' h1 h2 => ?_, r.tabs.ext fun b u q => by rw [upd_ne (ne_of_none q hp)]; exact q, fun q hq => List.mem_append_left _ (r.kin q hq)⟩
  · refine List.nodup_append.mpr ⟨r.nd, by simp, fun a ha b hb => ?_⟩
    have : b = p := by simpa using hb
    subst this
    intro q; subst q; exact np (.inl ha)
  · obtain ⟨g1, o, g0, g2⟩ := r.hd b hb
    refine ⟨fun z => ?_, e.stay b o g0 g2⟩
    rcases List.mem_append.mp z with z | z
    · exact g1 z
    · have : b = p := by simpa using z
      subst this
      exact np (.inr hb)
  · have h1 : (ms.ix ++ [p])[k]? = some a := h1
    by_cases hk : k < ms.ix.length
    · rw [List.getElem?_append_left hk] at h1
      rw [List.getElem?_append_left (by rw [← r.len]; exact hk)] at h2
      obtain ⟨_, _, _, q1⟩ := r.at_ (List.mem_of_getElem? h1)
      exact (r.cells k a ds' h1 h2).tr e.tr rfl (upd_ne (ne_of_none q1 hp))
    · have hk' : k = ms.ix.length := by
        have := (List.getElem?_eq_some_iff.mp h1).1
        rw [List.length_append] at this
        simp at this; omega
      subst hk'
      rw [List.getElem?_append_right (Nat.le_refl _), Nat.sub_self] at h1
      rw [r.len, List.getElem?_append_right (Nat.le_refl _), Nat.sub_self] at h2
      simp at h1 h2
      subst h1 h2
      exact ⟨fun _ => ⟨xs, upd_same, hl, hx.ext e⟩, fun κ z => absurd (r.kin _ z) fun q => np (.inl q)⟩
theorem s_mls (h : SA X mg E Γ es ies) (hl : ies.len ≤ line := by decide) : SE X mg E Γ (.List es pos) (.mls ies) := by
  refine pe_imp (pe_lst h) fun σ H Q ⟨ms, ρ, S, he, hs, hp⟩ => ?_
  refine ⟨ms, ρ, S, he, hs, PostG.part (f := fun ws => (asDatas ws).bnd fun ds => newCell ds) hp fun ws S1 ms1 H1 ew e1 r1 h1 vs hvs => ?_⟩
  obtain ⟨ds, rfl, h2⟩ := h1.datas
  have hn : vs.length ≤ line := by rw [hvs.len, evs_len ies ew]; exact hl
  refine ⟨by rw [← line_eq]; exact hn, fun p hp => ?_⟩
  obtain ⟨e2, r2⟩ := r1.more hp hn (datas_rp hvs)
  refine h2 _ _ e2 r2 _ (.m ?_ (r1.plain fun z => r1.notin hp (.inl z)))
  show (ms1.ix ++ [p])[S1.length]? = some p
  rw [← r1.len, List.getElem?_append_right (Nat.le_refl _), Nat.sub_self]; rfl
theorem s_neg (ha : SE X mg E Γ a ia) : SE X mg E Γ (.UnaryOp .USub a pos) (.neg ia) := by
  refine pe_imp (pe_un un_neg ha) fun σ H Q ⟨ms, ρ, S, he, hs, hp⟩ => ?_
  refine ⟨ms, ρ, S, he, hs, PostG.part (f := fun w => (asInt w).bnd fun i => M.ret (W.d (.int (-i)))) hp fun w S1 ms1 H1 _ e1 r1 h1 v hv => ?_⟩
  obtain ⟨i, rfl, h2⟩ := h1.int
  cases hv with
  | d hv => cases hv; exact ⟨i, rfl, (Fin.of h2).now r1 (.int _)⟩

/-! ### operators -/
/-- an operator's reading by values serves what bop says -/
def BopOk (X : Cx) (o : Bop) (op : Operator) (r : R2) : Prop := OpR X (binaryOp op) r ∧ ∀ (mg : Str → Option Value) (E : XK) (H : Hp) (ms : Cells) (S : Sto) (x y : V) (dx dy d : PyData) (Q : VK),
  RpS H ms S → Rv H ms x dx → Rv H ms y dy → bop o dx dy = some d → Fin E mg ms H S Q d → r x y H Q
theorem s_bin {o : Bop} {op : Operator} {r : R2} (ho : BopOk X o op r) (ha : SE X mg E Γ a ia) (hb : SE X mg E Γ b ib) : SE X mg E Γ (.BinOp a op b pos) (.bin o ia ib) := by
  refine pe_imp (pe_op ho.1 ha hb) fun σ H Q ⟨ms, ρ, S, he, hs, hp⟩ => ?_
  refine ⟨ms, ρ, S, he, hs, PostG.part (f := fun x => (ev Γ ib ρ).bnd fun y => (look x).bnd fun dx => (look y).bnd fun dy => (M.opt (bop o dx dy)).bnd fun d => M.ret (W.d d)) hp fun wa S1 ms1 H1 _ e1 r1 h1 va hva => ?_⟩
  refine ⟨ms1, ρ, S1, he.ext e1, r1, h1.part fun wb S2 ms2 H2 _ e2 r2 h2 vb hvb => ?_⟩
  obtain ⟨dx, g1, h3⟩ := h2.look
  obtain ⟨dy, g2, h4⟩ := h3.look
  obtain ⟨d, g3, h5⟩ := h4.opt
  exact ho.2 mg E H2 ms2 S2 va vb dx dy d Q r2 ((hva.ext e2).get r2 g1) (hvb.get r2 g2) g3 (Fin.of h5)
def rAddA (K : PySem.W.Frag) : R2 := fun x y H Q => (∃ i j, x = .int i ∧ y = .int j ∧ Q (.int (i + j)) H) ∨ (∃ i j, x = .str i ∧ y = .str j ∧ i.length + j.length ≤ sizeLine ∧ Q (.str (i ++ j)) H) ∨ rCat x y H Q ∨ rCatA K x y H Q
theorem b_add : BopOk X .add .Add (rAddA X.K) := by
  refine ⟨op_add.or (op_add_str.or (op_cat.or op_catA)), fun mg E H ms S x y dx dy d Q r hx hy hb hf => ?_⟩
  unfold bop at hb
  split at hb
  all_goals first | contradiction | skip
  · cases hb; exact .inl ⟨_, _, hx.int, hy.int, hf.now r (.int _)⟩
  · split at hb <;> cases hb
    rename_i hz
    exact .inr (.inl ⟨_, _, hx.str, hy.str, by rw [← line_eq]; exact hz, hf.now r (.str _)⟩)
  · split at hb <;> cases hb
    rename_i hz
    obtain ⟨p, xs, rfl, h1, h2, h3⟩ := hx.lst
    obtain ⟨q, ys, rfl, g1, g2, g3⟩ := hy.lst
    have hl : xs.length + ys.length ≤ line := by rw [h3.len, g3.len]; exact hz
    exact .inr (.inr (.inl ⟨p, q, xs, ys, rfl, rfl, h1, g1, by rw [← line_eq]; exact hl, fun n hn => hf.newL r (by rw [List.length_append]; exact hl) (h3.app g3) hn⟩))
  · split at hb <;> cases hb
    rename_i hz
    obtain ⟨p, xs, rfl, h1, h0, h2, h3⟩ := hx.tup
    obtain ⟨q, ys, rfl, g1, g0, g2, g3⟩ := hy.tup
    have hl : xs.length + ys.length ≤ line := by rw [h3.len, g3.len]; exact hz
    refine .inr (.inr (.inr ⟨p, q, xs, ys, rfl, rfl, SqT.of h1, SqT.of g1, by rw [← line_eq]; exact hl, fun e => ?_, fun _ e => ?_, fun _ _ n hn => hf.newT r (by rw [List.length_append]; exact hl) (h3.app g3) hn⟩))
    · subst e
      cases h3
      exact hf.now r (.tup g1 g0 g2 g3)
    · subst e
      cases g3
      rw [List.append_nil] at hf
      exact hf.now r (.tup h1 h0 h2 h3)
theorem b_sub : BopOk X .sub .Sub (rI0 fun i j => .int (i - j)) := by
  refine ⟨op_sub, fun mg E H ms S x y dx dy d Q r hx hy hb hf => ?_⟩
  unfold bop at hb
  split at hb
  all_goals first | contradiction | skip
  cases hb; exact ⟨_, _, hx.int, hy.int, hf.now r (.int _)⟩
theorem rps_rep {H : Hp} {ms : Cells} {xs : List V} {ds : List PyData} (r : Rps H ms xs ds) : ∀ k : Nat, Rps H ms (List.replicate k xs).flatten (List.replicate k ds).flatten
  | 0 => .nil
  | k + 1 => by
    rw [List.replicate_succ, List.replicate_succ, List.flatten_cons, List.flatten_cons]
    exact r.app (rps_rep r k)
theorem rep_line {α : Type} {xs : List α} {k : Nat} (h : xs.length ≤ 1000) (hk : k ≤ 1000) : (List.replicate k xs).flatten.length ≤ line := by
  rw [PyProof.Rows.lm_len_rep_flat]
  have : k * xs.length ≤ 1000 * 1000 := Nat.mul_le_mul hk h
  show _ ≤ 16777216; omega
def rMulA (K : PySem.W.Frag) : R2 := fun x y H Q => rI CMulW (fun i j => .int (i * j)) x y H Q ∨ rRepT K x y H Q ∨ rOnceT K x y H Q ∨ rRep x y H Q
theorem b_mul : BopOk X .mul .Mult (rMulA X.K) := by
  refine ⟨op_mulW.or (op_repT.or (op_onceT.or op_rep)), fun mg E H ms S x y dx dy d Q r hx hy hb hf => ?_⟩
  unfold bop at hb
  split at hb
  all_goals first | contradiction | skip
  · split at hb <;> cases hb
    rename_i hz
    exact .inl ⟨_, _, hx.int, hy.int, hz, hf.now r (.int _)⟩
  · split at hb <;> cases hb
    rename_i ds k _ hz
    obtain ⟨⟨hne, hl⟩, k1, k2⟩ := hz
    obtain ⟨q, xs, rfl, g1, g0, g2, g3⟩ := hx.tup
    have ey := hy.int
    subst ey
    by_cases h1 : k = 1
    · subst h1
      refine .inr (.inr (.inl ⟨q, xs, rfl, rfl, SqT.of g1, ?_⟩))
      have e : (List.replicate (1 : Int).toNat ds).flatten = ds := by
        show (List.replicate 1 ds).flatten = ds
        rw [List.replicate_one, List.flatten_singleton]
      rw [e] at hf
      exact hf.now r (.tup g1 g0 g2 g3)
    · refine .inr (.inl ⟨q, k, xs, rfl, rfl, SqT.of g1, fun e => hne (by
        have := g3.len
        rw [e] at this
        exact List.eq_nil_of_length_eq_zero this.symm), by omega, k2, by rw [g3.len]; exact hl, fun p np => ?_⟩)
      exact hf.newT r (rep_line (by rw [g3.len]; exact hl) (by omega)) (rps_rep g3 _) np
  · split at hb <;> cases hb
    rename_i ds k _ hz
    obtain ⟨hl, k1, k2⟩ := hz
    obtain ⟨q, xs, rfl, g1, g2, g3⟩ := hx.lst
    have ey := hy.int
    subst ey
    refine .inr (.inr (.inr ⟨q, k, xs, rfl, rfl, g1, by omega, by omega, ?_, fun p np => ?_⟩))
    · have : xs.length * k.toNat ≤ 1000 * 1000 := Nat.mul_le_mul (by rw [g3.len]; exact hl) (by omega)
      rw [sizeLine_eq]; omega
    · exact hf.newL r (rep_line (by rw [g3.len]; exact hl) (by omega)) (rps_rep g3 _) np
theorem b_fdiv : BopOk X .fdiv .FloorDiv (rI CDivW fun i j => .int (i / j)) := by
  refine ⟨op_fdivW, fun mg E H ms S x y dx dy d Q r hx hy hb hf => ?_⟩
  unfold bop at hb
  split at hb
  all_goals first | contradiction | skip
  split at hb <;> cases hb
  rename_i hz
  exact ⟨_, _, hx.int, hy.int, hz, hf.now r (.int _)⟩
theorem b_mod : BopOk X .mod .Mod (rI (fun _ j => 0 < j) fun i j => .int (i % j)) := by
  refine ⟨op_mod, fun mg E H ms S x y dx dy d Q r hx hy hb hf => ?_⟩
  unfold bop at hb
  split at hb
  all_goals first | contradiction | skip
  split at hb <;> cases hb
  rename_i hz
  exact ⟨_, _, hx.int, hy.int, hz, hf.now r (.int _)⟩
theorem b_pow : BopOk X .pow .Pow (rI CPow fun i j => .int (i ^ j.toNat)) := by
  refine ⟨op_pow, fun mg E H ms S x y dx dy d Q r hx hy hb hf => ?_⟩
  unfold bop at hb
  split at hb
  all_goals first | contradiction | skip
  split at hb <;> cases hb
  rename_i hz
  exact ⟨_, _, hx.int, hy.int, hz, hf.now r (.int _)⟩
end
end Qv

/-! Snd2 -/
set_option maxHeartbeats 0
/-! Comparisons, and, or, not, subscripts, calls. -/
namespace Qv
open PySem PySem.Spec PyProof.Rows L2

section
variable {X : Cx} {mg : Str → Option Value} {E : XK} {Γ : Fns} {a b c : Expr} {ia ib ic : IE} {pos : Pos} {es : List Expr} {ies : IEs}
/-- a comparison's reading by values serves what cop says -/
def CopOk (X : Cx) (o : Cop) (op : CmpOp) (r : R2) : Prop := OpR X (compareOp op) r ∧ ∀ (H : Hp) (ms : Cells) (x y : V) (dx dy : PyData) (d : Bool) (Q : VK),
  Rv H ms x dx → Rv H ms y dy → cop o dx dy = some d → Q (.bl d) H → r x y H Q
theorem Rv.flat {H : Hp} {ms : Cells} {x : V} {d : PyData} (h : Rv H ms x d) : d = .none ↔ x = .non := by
  constructor
  · intro e; subst e; exact h.non
  · intro e; subst e
    rcases h with h | ⟨a, xs, ds', e1, _⟩
    · cases h; rfl
    · cases e1
theorem isD_eq {H : Hp} {ms : Cells} {x y : V} {dx dy : PyData} {d : Bool} (hx : Rv H ms x dx) (hy : Rv H ms y dy) (h : isD dx dy = some d) :
    (y = .non ∧ d = decide (x = .non)) ∨ ∃ a b, x = .bl a ∧ y = .bl b ∧ d = decide (a = b) := by
  cases dy with
  | none =>
    refine .inl ⟨hy.non, ?_⟩
    have e : noneD dx = d := Option.some.inj h
    rw [← e]
    by_cases q : dx = .none
    · rw [decide_eq_true (hx.flat.mp q), q]; rfl
    · rw [decide_eq_false fun z => q (hx.flat.mpr z)]
      cases dx <;> first | rfl | exact absurd rfl q
  | bool b =>
    cases dx with
    | bool a => exact .inr ⟨a, b, hx.bl, hy.bl, (Option.some.inj h).symm⟩
    | _ => exact absurd h (by simp [isD])
  | _ => exact absurd h (by simp [isD])
theorem notO_eq {o : Option Bool} {d : Bool} (h : notO o = some d) : ∃ e, o = some e ∧ d = !e := by
  cases o with
  | none => cases h
  | some e => exact ⟨e, rfl, (Option.some.inj h).symm⟩
theorem c_is : CopOk X .is .Is (fun x y H Q => (y = .non ∧ Q (.bl (decide (x = .non))) H) ∨ rIsB x y H Q) := by
  refine ⟨op_isN.or op_isBl, fun H ms x y dx dy d Q hx hy h q => ?_⟩
  rcases isD_eq hx hy h with ⟨e1, e2⟩ | ⟨a, b, e1, e2, e3⟩
  · exact .inl ⟨e1, by rw [← e2]; exact q⟩
  · exact .inr ⟨a, b, e1, e2, by rw [← e3]; exact q⟩
theorem c_isnt : CopOk X .isnt .IsNot (fun x y H Q => (y = .non ∧ Q (.bl (!decide (x = .non))) H) ∨ rNotB x y H Q) := by
  refine ⟨op_notN.or op_notBl, fun H ms x y dx dy d Q hx hy h q => ?_⟩
  obtain ⟨e, h', rfl⟩ := notO_eq h
  rcases isD_eq hx hy h' with ⟨e1, e2⟩ | ⟨a, b, e1, e2, e3⟩
  · exact .inl ⟨e1, by rw [← e2]; exact q⟩
  · exact .inr ⟨a, b, e1, e2, by rw [← e3]; exact q⟩
theorem eqD_eq {dx dy : PyData} {d : Bool} (h : eqD dx dy = some d) : SeqAt.shaped dx = true ∧ SeqAt.shaped dy = true ∧ PyData.eqv dx dy = d := by
  unfold eqD at h
  split at h
  · rename_i q; exact ⟨q.1, q.2, Option.some.inj h⟩
  · cases h
theorem c_eq (hu : X.A.units + 200 < cLine) : CopOk X .eq .Eq (rEqD X.K) := by
  refine ⟨op_eqD (by omega), fun H ms x y dx dy d Q hx hy h q => ?_⟩
  obtain ⟨h1, h2, rfl⟩ := eqD_eq h
  exact ⟨dx, dy, hx.dp, hy.dp, h1, h2, q⟩
theorem c_ne (hu : X.A.units + 200 < cLine) : CopOk X .ne .NotEq (rNeD X.K) := by
  refine ⟨op_neD (by omega), fun H ms x y dx dy d Q hx hy h q => ?_⟩
  obtain ⟨e, h', rfl⟩ := notO_eq h
  obtain ⟨h1, h2, rfl⟩ := eqD_eq h'
  exact ⟨dx, dy, hx.dp, hy.dp, h1, h2, q⟩
theorem cmpI_eq {p : Int → Int → Bool} {H : Hp} {ms : Cells} {x y : V} {dx dy : PyData} {d : Bool} (hx : Rv H ms x dx) (hy : Rv H ms y dy) (h : cmpI p dx dy = some d) : ∃ i j, x = .int i ∧ y = .int j ∧ d = p i j := by
  unfold cmpI at h
  split at h
  · exact ⟨_, _, hx.int, hy.int, (Option.some.inj h).symm⟩
  · cases h
theorem c_le : CopOk X .le .LtE (rI0 fun i j => .bl (decide (i ≤ j))) := by
  refine ⟨op_le, fun H ms x y dx dy d Q hx hy h q => ?_⟩
  obtain ⟨i, j, e1, e2, rfl⟩ := cmpI_eq hx hy h
  exact ⟨i, j, e1, e2, q⟩
theorem c_gt : CopOk X .gt .Gt (rI0 fun i j => .bl (decide (j < i))) := by
  refine ⟨op_gt, fun H ms x y dx dy d Q hx hy h q => ?_⟩
  obtain ⟨i, j, e1, e2, rfl⟩ := cmpI_eq hx hy h
  exact ⟨i, j, e1, e2, q⟩
theorem c_ge : CopOk X .ge .GtE (rI0 fun i j => .bl (decide (j ≤ i))) := by
  refine ⟨op_ge, fun H ms x y dx dy d Q hx hy h q => ?_⟩
  obtain ⟨i, j, e1, e2, rfl⟩ := cmpI_eq hx hy h
  exact ⟨i, j, e1, e2, q⟩
theorem ints_rps {H : Hp} {ms : Cells} : ∀ {xs : List V} {ds : List PyData} {ns : List Int}, Rps H ms xs ds → intsOf ds = some ns → xs = ns.map V.int
  | _, _, _, .nil, h => by cases h; rfl
  | _, _, ns, .cons (d := d) (ds := ds) a r, h => by
    cases d with
    | int i =>
      have h' : (match intsOf ds with | none => none | some l => some (i :: l)) = some ns := h
      cases q : intsOf ds with
      | none => rw [q] at h'; cases h'
      | some l =>
        rw [q] at h'; cases h'
        cases a
        rw [ints_rps r q]; rfl
    | _ => exact absurd h (by simp [intsOf])
theorem lexI_eq : ∀ ns ms : List Int, HT.lexLt ns ms = lexI ns ms
  | [], [] => rfl
  | [], _ :: _ => rfl
  | _ :: _, [] => rfl
  | x :: xs, y :: ys => by
    show (if x = y then HT.lexLt xs ys else decide (x < y)) = (if x = y then lexI xs ys else decide (x < y))
    rw [lexI_eq xs ys]
theorem c_lt (hu : X.A.units + 200 < cLine) : CopOk X .lt .Lt (fun x y H Q => rI0 (fun i j => .bl (decide (i < j))) x y H Q ∨ rLtT X.K x y H Q) := by
  refine ⟨op_lt.or (op_ltT (by omega)), fun H ms x y dx dy d Q hx hy h q => ?_⟩
  have h : ltD dx dy = some d := h
  unfold ltD at h
  split at h
  · exact .inl ⟨_, _, hx.int, hy.int, by
      have e := Option.some.inj h
      rw [← e] at q; exact q⟩
  · split at h
    · rename_i xs ys ns ks q1 q2
      obtain ⟨p, us, rfl, h1, h0, h2, h3⟩ := hx.tup
      obtain ⟨p2, vs, rfl, g1, g0, g2, g3⟩ := hy.tup
      have e1 := ints_rps h3 q1
      have e2 := ints_rps g3 q2
      subst e1 e2
      exact .inr ⟨p, p2, ns, ks, rfl, rfl, SqT.of h1, SqT.of g1, by rw [lexI_eq, Option.some.inj h]; exact q⟩
    · cases h
  · cases h
/-- in, over lists and tuples of data -/
def rInA (K : PySem.W.Frag) (neg : Bool) : R2 := fun x y H Q => ∃ d ds e, Dp K H x d ∧ Dp K H y e ∧ (e = .list ds ∨ e = .tuple ds) ∧ SeqAt.shaped d = true ∧ SeqAt.shaped e = true ∧ Q (.bl (if neg then !ds.any fun z => PyData.eqv z d else ds.any fun z => PyData.eqv z d)) H
theorem room_in {A : Around} {xs : List PyData} {d : PyData} (hd : SeqAt.shaped d = true) (hu : A.units + 200 < cLine) : A.units + 1 + min (PyData.depthAll xs) d.depth < cLine := by
  have h1 := SeqAt.depth_of_shaped hd
  have h2 : min (PyData.depthAll xs) d.depth ≤ d.depth := Nat.min_le_right _ _
  omega
theorem op_inA (hu : X.A.units + 200 < cLine) : OpR X (compareOp .In) (rInA X.K false) := by
  intro pins s σ H x y v u Q I rx ry h
  obtain ⟨d, ds, e, hd, he, hk, sd, se, q⟩ := h
  obtain ⟨as, r1⟩ := Dp.reads I d x v hd rx
  obtain ⟨bs, r2⟩ := Dp.reads I e y u he ry
  rcases hk with rfl | rfl
  · exact SeqAt.in_list_reads r2 r1 (SeqAt.canLay_of_shaped se) (SeqAt.canLay_of_shaped sd) (room_in sd hu) ⟨.bl _, H, I, rfl, q⟩
  · exact SeqAt.in_tuple_reads r2 r1 (SeqAt.canLay_of_shaped se) (SeqAt.canLay_of_shaped sd) (room_in sd hu) ⟨.bl _, H, I, rfl, q⟩
theorem op_ninA (hu : X.A.units + 200 < cLine) : OpR X (compareOp .NotIn) (rInA X.K true) := by
  intro pins s σ H x y v u Q I rx ry h
  obtain ⟨d, ds, e, hd, he, hk, sd, se, q⟩ := h
  obtain ⟨as, r1⟩ := Dp.reads I d x v hd rx
  obtain ⟨bs, r2⟩ := Dp.reads I e y u he ry
  rcases hk with rfl | rfl
  · exact SeqAt.notIn_list_reads r2 r1 (SeqAt.canLay_of_shaped se) (SeqAt.canLay_of_shaped sd) (room_in sd hu) ⟨.bl _, H, I, rfl, q⟩
  · exact SeqAt.notIn_tuple_reads r2 r1 (SeqAt.canLay_of_shaped se) (SeqAt.canLay_of_shaped sd) (room_in sd hu) ⟨.bl _, H, I, rfl, q⟩
theorem inD_eq {dx dy : PyData} {d : Bool} (h : inD dx dy = some d) : ∃ ds, (dy = .list ds ∨ dy = .tuple ds) ∧ SeqAt.shaped dx = true ∧ SeqAt.shaped dy = true ∧ d = ds.any fun z => PyData.eqv z dx := by
  unfold inD at h
  split at h
  · split at h
    · rename_i ds q; exact ⟨ds, .inl rfl, q.1, q.2, (Option.some.inj h).symm⟩
    · cases h
  · split at h
    · rename_i ds q; exact ⟨ds, .inr rfl, q.1, q.2, (Option.some.inj h).symm⟩
    · cases h
  · cases h
theorem c_in (hu : X.A.units + 200 < cLine) : CopOk X .isin .In (rInA X.K false) := by
  refine ⟨op_inA hu, fun H ms x y dx dy d Q hx hy h q => ?_⟩
  obtain ⟨ds, hk, h1, h2, rfl⟩ := inD_eq h
  exact ⟨dx, ds, dy, hx.dp, hy.dp, hk, h1, h2, q⟩
theorem c_nin (hu : X.A.units + 200 < cLine) : CopOk X .nin .NotIn (rInA X.K true) := by
  refine ⟨op_ninA hu, fun H ms x y dx dy d Q hx hy h q => ?_⟩
  obtain ⟨e, h', rfl⟩ := notO_eq h
  obtain ⟨ds, hk, h1, h2, rfl⟩ := inD_eq h'
  exact ⟨dx, ds, dy, hx.dp, hy.dp, hk, h1, h2, q⟩

theorem s_cmp {o : Cop} {op : CmpOp} {r : R2} (ho : CopOk X o op r) (ha : SE X mg E Γ a ia) (hb : SE X mg E Γ b ib) (hm : behindInMarks op b = false := by first | exact nomark _ | rfl) : SE X mg E Γ (.Compare a [op] [b] pos) (.cmp o ia ib) := by
  refine pe_imp (pe_cmpR ho.1 ha hb hm) fun σ H Q ⟨ms, ρ, S, he, hs, hp⟩ => ?_
  refine ⟨ms, ρ, S, he, hs, PostG.part (f := fun x => (ev Γ ib ρ).bnd fun y => (look x).bnd fun dx => (look y).bnd fun dy => (M.opt (cop o dx dy)).bnd fun d => M.ret (W.d (.bool d))) hp fun wa S1 ms1 H1 _ e1 r1 h1 va hva => ?_⟩
  refine ⟨ms1, ρ, S1, he.ext e1, r1, h1.part fun wb S2 ms2 H2 _ e2 r2 h2 vb hvb => ?_⟩
  obtain ⟨dx, g1, h3⟩ := h2.look
  obtain ⟨dy, g2, h4⟩ := h3.look
  obtain ⟨d, g3, h5⟩ := h4.opt
  exact ho.2 H2 ms2 va vb dx dy d Q ((hva.ext e2).get r2 g1) (hvb.get r2 g2) g3 ((Fin.of h5).now r2 (.bl d))
/-- a value that is True or False, as a test -/
theorem tT_of {ie : IE} {σ : L2.St} {H : Hp} {Q : Bool → Hp → Prop} {K : PySem.W.Frag} (h : tT K mg E Γ ie σ H Q) : tE K mg E Γ ie σ H fun x H1 => ∃ k, x = .bl k ∧ Q k H1 := by
  obtain ⟨ms, ρ, S, he, hs, hp⟩ := h
  refine ⟨ms, ρ, S, he, hs, PostG.part (f := asBool) hp fun w S1 ms1 H1 _ e1 r1 h1 v hv => ?_⟩
  have h1' : PostG mg E ms1 H1 (fun b _ H' => Q b H') ((asBool w).bnd M.ret S1) := by
    cases w with
    | d x => cases x <;> exact h1
    | m k => exact h1
    | scr k => exact h1
    | c κ k => exact h1
    | xo k => exact h1
    | xl k => exact h1
    | f k => exact h1
  obtain ⟨k, rfl, h2⟩ := h1'.bool
  cases hv with
  | d hv => cases hv; exact ⟨k, rfl, h2.ret r1⟩
theorem st_cmp {o : Cop} {op : CmpOp} {r : R2} (ho : CopOk X o op r) (ha : SE X mg E Γ a ia) (hb : SE X mg E Γ b ib) (hm : behindInMarks op b = false := by first | exact nomark _ | rfl) : ST X mg E Γ (.Compare a [op] [b] pos) (.cmp o ia ib) := by
  refine pt_imp (pt_cmpR ho.1 ha hb hm) fun σ H Q h => ?_
  obtain ⟨ms, ρ, S, he, hs, hp⟩ := tT_of h
  show tOp r (tE X.K mg E Γ ia) (tE X.K mg E Γ ib) σ H fun x H' => ∃ k, x = .bl k ∧ Q k H'
  refine ⟨ms, ρ, S, he, hs, PostG.part (f := fun x => (ev Γ ib ρ).bnd fun y => (look x).bnd fun dx => (look y).bnd fun dy => (M.opt (cop o dx dy)).bnd fun d => M.ret (W.d (.bool d))) hp fun wa S1 ms1 H1 _ e1 r1 h1 va hva => ?_⟩
  refine ⟨ms1, ρ, S1, he.ext e1, r1, h1.part fun wb S2 ms2 H2 _ e2 r2 h2 vb hvb => ?_⟩
  obtain ⟨dx, g1, h3⟩ := h2.look
  obtain ⟨dy, g2, h4⟩ := h3.look
  obtain ⟨d, g3, h5⟩ := h4.opt
  exact ho.2 H2 ms2 va vb dx dy d _ ((hva.ext e2).get r2 g1) (hvb.get r2 g2) g3 ((Fin.of h5).now r2 (.bl d))
theorem chn_read {o p : Cop} {op op' : CmpOp} {r r' : R2} (ho : CopOk X o op r) (ho' : CopOk X p op' r') {σ : L2.St} {H : Hp} {Q : VK} (h : tE X.K mg E Γ (.chn o p ia ib ic) σ H Q) :
    tChain r r' (tE X.K mg E Γ ia) (tE X.K mg E Γ ib) (tE X.K mg E Γ ic) σ H Q := by
  obtain ⟨ms, ρ, S, he, hs, hp⟩ := h
  refine ⟨ms, ρ, S, he, hs, PostG.part (f := fun x => (ev Γ ib ρ).bnd fun y => (look x).bnd fun dx => (look y).bnd fun dy => (M.opt (cop o dx dy)).bnd fun r => if r = true then (ev Γ ic ρ).bnd fun z => (look y).bnd fun dy => (look z).bnd fun dz => (M.opt (cop p dy dz)).bnd fun d => M.ret (W.d (.bool d)) else M.ret (W.d (.bool false))) hp fun wa S1 ms1 H1 _ e1 r1 h1 va hva => ?_⟩
  refine ⟨ms1, ρ, S1, he.ext e1, r1, h1.part fun wb S2 ms2 H2 _ e2 r2 h2 vb hvb => ?_⟩
  obtain ⟨dx, g1, h3⟩ := h2.look
  obtain ⟨dy, g2, h4⟩ := h3.look
  obtain ⟨d, g3, h5⟩ := h4.opt
  refine ho.2 H2 ms2 va vb dx dy d _ ((hva.ext e2).get r2 g1) (hvb.get r2 g2) g3 ⟨d, rfl, ?_⟩
  cases d with
  | false => rw [if_neg Bool.false_ne_true] at h5 ⊢; exact (Fin.of h5).now r2 (.bl false)
  | true =>
    rw [if_pos rfl] at h5 ⊢
    refine ⟨ms2, ρ, S2, (he.ext e1).ext e2, r2, h5.part fun wc S3 ms3 H3 _ e3 r3 h6 vc hvc => ?_⟩
    obtain ⟨dy', k1, h7⟩ := h6.look
    obtain ⟨dz, k2, h8⟩ := h7.look
    obtain ⟨d', k3, h9⟩ := h8.opt
    exact ho'.2 H3 ms3 vb vc dy' dz d' Q ((hvb.ext e3).get r3 k1) (hvc.get r3 k2) k3 ((Fin.of h9).now r3 (.bl d'))
theorem s_chn {o p : Cop} {op op' : CmpOp} {r r' : R2} (ho : CopOk X o op r) (ho' : CopOk X p op' r') (ha : SE X mg E Γ a ia) (hb : SE X mg E Γ b ib) (hc : SE X mg E Γ c ic) (hm : lastMarks [op, op'] [b, c] = false := by with_unfolding_all rfl) :
    SE X mg E Γ (.Compare a [op, op'] [b, c] pos) (.chn o p ia ib ic) := pe_imp (pe_chain ho.1 ho'.1 ha hb hc hm) fun σ H Q h => chn_read ho ho' h
theorem st_chn {o p : Cop} {op op' : CmpOp} {r r' : R2} (ho : CopOk X o op r) (ho' : CopOk X p op' r') (ha : SE X mg E Γ a ia) (hb : SE X mg E Γ b ib) (hc : SE X mg E Γ c ic) (hm : lastMarks [op, op'] [b, c] = false := by with_unfolding_all rfl) :
    ST X mg E Γ (.Compare a [op, op'] [b, c] pos) (.chn o p ia ib ic) := pt_imp (pt_chain ho.1 ho'.1 ha hb hc hm) fun σ H Q h => chn_read ho ho' (tT_of h)
/-- an expression as a test -/
theorem st_val {e : Expr} {ie : IE} (h : SE X mg E Γ e ie) (he : ∀ whole, isTrue e X.env whole = (do let v ← whole; standAt e.pos; holding [v] (truthy v)) := by intro _; rfl) : ST X mg E Γ e ie :=
  pt_imp (pt_val h he) fun σ H Q h => tT_of h

/-! and, or, not -/
theorem tT_and {K : PySem.W.Frag} {σ : L2.St} {H : Hp} {Q : Bool → Hp → Prop} (h : tT K mg E Γ (.and ia ib) σ H Q) : tAnd (tT K mg E Γ ia) (tT K mg E Γ ib) σ H Q := by
  obtain ⟨ms, ρ, S, he, hs, hp⟩ := h
  refine ⟨ms, ρ, S, he, hs, ?_⟩
  have e : ((ev Γ (.and ia ib) ρ).bnd asBool S) = (((ev Γ ia ρ).bnd asBool).bnd fun t => if t = true then (ev Γ ib ρ).bnd asBool else M.ret false) S := by
    show (((ev Γ ia ρ).bnd fun w => (asBool w).bnd fun t => if t = true then ev Γ ib ρ else M.ret (W.d (.bool false))).bnd asBool) S = _
    unfold M.bnd
    cases q : ev Γ ia ρ S with
    | none => rfl
    | some r =>
      cases r with
      | ex x S1 => rfl
      | ok w S1 =>
        cases w with
        | m k => rfl
        | scr k => rfl
        | c κ k => rfl
        | xo k => rfl
        | xl k => rfl
        | f k => rfl
        | d x =>
          cases x with
          | bool b => cases b <;> rfl
          | _ => rfl
  rw [e] at hp
  refine hp.part fun t S1 ms1 H1 _ e1 r1 h1 => ?_
  cases t with
  | true => rw [if_pos rfl] at h1 ⊢; exact ⟨ms1, ρ, S1, he.ext e1, r1, h1⟩
  | false => rw [if_neg Bool.false_ne_true] at h1 ⊢; exact h1.ret r1
theorem tT_or {K : PySem.W.Frag} {σ : L2.St} {H : Hp} {Q : Bool → Hp → Prop} (h : tT K mg E Γ (.or ia ib) σ H Q) : tOr (tT K mg E Γ ia) (tT K mg E Γ ib) σ H Q := by
  obtain ⟨ms, ρ, S, he, hs, hp⟩ := h
  refine ⟨ms, ρ, S, he, hs, ?_⟩
  have e : ((ev Γ (.or ia ib) ρ).bnd asBool S) = (((ev Γ ia ρ).bnd asBool).bnd fun t => if t = true then M.ret true else (ev Γ ib ρ).bnd asBool) S := by
    show (((ev Γ ia ρ).bnd fun w => (asBool w).bnd fun t => if t = true then M.ret (W.d (.bool true)) else ev Γ ib ρ).bnd asBool) S = _
    unfold M.bnd
    cases q : ev Γ ia ρ S with
    | none => rfl
    | some r =>
      cases r with
      | ex x S1 => rfl
      | ok w S1 =>
        cases w with
        | m k => rfl
        | scr k => rfl
        | c κ k => rfl
        | xo k => rfl
        | xl k => rfl
        | f k => rfl
        | d x =>
          cases x with
          | bool b => cases b <;> rfl
          | _ => rfl
  rw [e] at hp
  refine hp.part fun t S1 ms1 H1 _ e1 r1 h1 => ?_
  cases t with
  | true => rw [if_pos rfl] at h1 ⊢; exact h1.ret r1
  | false => rw [if_neg Bool.false_ne_true] at h1 ⊢; exact ⟨ms1, ρ, S1, he.ext e1, r1, h1⟩
theorem sw_and1 (ha : ST X mg E Γ a ia) : SW X mg E Γ (.BoolOp .And [a] pos) ia := pw_and1 ha
theorem sw_or1 (ha : ST X mg E Γ a ia) : SW X mg E Γ (.BoolOp .Or [a] pos) ia := pw_or1 ha
theorem sw_and (ha : ST X mg E Γ a ia) (hb : SW X mg E Γ (.BoolOp .And (b :: es) pos) ib) : SW X mg E Γ (.BoolOp .And (a :: b :: es) pos) (.and ia ib) := pw_imp (pw_and ha hb) fun σ H Q h => tT_and h
theorem sw_or (ha : ST X mg E Γ a ia) (hb : SW X mg E Γ (.BoolOp .Or (b :: es) pos) ib) : SW X mg E Γ (.BoolOp .Or (a :: b :: es) pos) (.or ia ib) := pw_imp (pw_or ha hb) fun σ H Q h => tT_or h
theorem st_w {e : Expr} {ie : IE} (h : SW X mg E Γ e ie) : ST X mg E Γ e ie := h.pt
theorem st_not (ha : ST X mg E Γ a ia) : ST X mg E Γ (.UnaryOp .Not a pos) (.not ia) := by
  refine pt_imp (pt_not ha) fun σ H Q ⟨ms, ρ, S, he, hs, hp⟩ => ⟨ms, ρ, S, he, hs, ?_⟩
  have e : ((ev Γ (.not ia) ρ).bnd asBool S) = (((ev Γ ia ρ).bnd asBool).bnd fun t => M.ret (!t)) S := by
    show (((ev Γ ia ρ).bnd fun w => (asBool w).bnd fun t => M.ret (W.d (.bool (!t)))).bnd asBool) S = _
    unfold M.bnd
    cases q : ev Γ ia ρ S with
    | none => rfl
    | some r =>
      cases r with
      | ex x S1 => rfl
      | ok w S1 =>
        cases w with
        | m k => rfl
        | scr k => rfl
        | c κ k => rfl
        | xo k => rfl
        | xl k => rfl
        | f k => rfl
        | d x => cases x <;> rfl
  rw [e] at hp
  exact hp.part fun t S1 ms1 H1 _ e1 r1 h1 => h1.ret r1
theorem s_one {op : BoolOp} (ha : SE X mg E Γ a ia) : SE X mg E Γ (.BoolOp op [a] pos) ia := pe_one ha
theorem s_and (ha : SE X mg E Γ a ia) (hb : SE X mg E Γ (.BoolOp .And (b :: es) pos) ib) : SE X mg E Γ (.BoolOp .And (a :: b :: es) pos) (.and ia ib) := by
  refine pe_imp (pe_and ha hb) fun σ H Q ⟨ms, ρ, S, he, hs, hp⟩ => ⟨ms, ρ, S, he, hs, PostG.part (f := fun w => (asBool w).bnd fun t => if t = true then ev Γ ib ρ else M.ret (W.d (.bool false))) hp fun w S1 ms1 H1 _ e1 r1 h1 v hv => ?_⟩
  obtain ⟨t, rfl, h2⟩ := h1.bool
  cases hv with
  | d hv =>
    cases hv
    refine ⟨t, rfl, ?_⟩
    cases t with
    | true => rw [if_pos rfl] at h2 ⊢; exact ⟨ms1, ρ, S1, he.ext e1, r1, h2⟩
    | false => rw [if_neg Bool.false_ne_true] at h2 ⊢; exact (Fin.of h2).now r1 (.bl false)
theorem s_or (ha : SE X mg E Γ a ia) (hb : SE X mg E Γ (.BoolOp .Or (b :: es) pos) ib) : SE X mg E Γ (.BoolOp .Or (a :: b :: es) pos) (.or ia ib) := by
  refine pe_imp (pe_or ha hb) fun σ H Q ⟨ms, ρ, S, he, hs, hp⟩ => ⟨ms, ρ, S, he, hs, PostG.part (f := fun w => (asBool w).bnd fun t => if t = true then M.ret (W.d (.bool true)) else ev Γ ib ρ) hp fun w S1 ms1 H1 _ e1 r1 h1 v hv => ?_⟩
  obtain ⟨t, rfl, h2⟩ := h1.bool
  cases hv with
  | d hv =>
    cases hv
    refine ⟨t, rfl, ?_⟩
    cases t with
    | true => rw [if_pos rfl] at h2 ⊢; exact (Fin.of h2).now r1 (.bl true)
    | false => rw [if_neg Bool.false_ne_true] at h2 ⊢; exact ⟨ms1, ρ, S1, he.ext e1, r1, h2⟩
theorem s_not (ha : SE X mg E Γ a ia) : SE X mg E Γ (.UnaryOp .Not a pos) (.not ia) := by
  refine pe_imp (pe_not ha) fun σ H Q ⟨ms, ρ, S, he, hs, hp⟩ => ⟨ms, ρ, S, he, hs, PostG.part (f := fun w => (asBool w).bnd fun t => M.ret (W.d (.bool (!t)))) hp fun w S1 ms1 H1 _ e1 r1 h1 v hv => ?_⟩
  obtain ⟨t, rfl, h2⟩ := h1.bool
  cases hv with
  | d hv => cases hv; exact ⟨t, rfl, (Fin.of h2).now r1 (.bl _)⟩
theorem s_ifx (hc : ST X mg E Γ c ic) (ha : SE X mg E Γ a ia) (hb : SE X mg E Γ b ib) : SE X mg E Γ (.IfExp c a b pos) (.ifx ic ia ib) := by
  refine pe_imp (pe_ifExp hc ha hb) fun σ H Q ⟨ms, ρ, S, he, hs, hp⟩ => ⟨ms, ρ, S, he, hs, ?_⟩
  have e : (ev Γ (.ifx ic ia ib) ρ S) = (((ev Γ ic ρ).bnd asBool).bnd fun t => if t = true then ev Γ ia ρ else ev Γ ib ρ) S := by
    show ((ev Γ ic ρ).bnd fun w => (asBool w).bnd fun t => if t = true then ev Γ ia ρ else ev Γ ib ρ) S = _
    unfold M.bnd
    cases q : ev Γ ic ρ S with
    | none => rfl
    | some r =>
      cases r with
      | ex x S1 => rfl
      | ok w S1 =>
        cases w with
        | m k => rfl
        | scr k => rfl
        | c κ k => rfl
        | xo k => rfl
        | xl k => rfl
        | f k => rfl
        | d x => cases x <;> rfl
  rw [e] at hp
  refine hp.part fun t S1 ms1 H1 _ e1 r1 h1 => ?_
  cases t with
  | true => rw [if_pos rfl] at h1 ⊢; exact ⟨ms1, ρ, S1, he.ext e1, r1, h1⟩
  | false => rw [if_neg Bool.false_ne_true] at h1 ⊢; exact ⟨ms1, ρ, S1, he.ext e1, r1, h1⟩
end
end Qv

/-! Snd3 -/
set_option maxHeartbeats 0
/-! Subscripts, slices, calls of defs and of built-in functions. -/
namespace Qv
open PySem PySem.Spec PyProof.Rows L2

theorem place_eq (n : Nat) (i : Int) : ixN n i = place n i := rfl
theorem atL_eq {α : Type} (xs : List α) (i : Int) : atI xs i = atL xs i := by
  unfold atI atL
  rw [place_eq]
  cases place xs.length i <;> rfl
theorem Rps.atL {H : Hp} {ms : Cells} {xs : List V} {ds : List PyData} {i : Int} {d : PyData} (r : Rps H ms xs ds) (h : atL ds i = some d) : ∃ v, atI xs i = some v ∧ Rp H ms v d := by
  rw [atL_eq]
  unfold Qv.atL at h ⊢
  rw [r.len]
  cases e : place ds.length i with
  | none => rw [e] at h; cases h
  | some j => rw [e] at h; exact r.get h
section
variable {X : Cx} {mg : Str → Option Value} {E : XK} {Γ : Fns} {a b c e : Expr} {ia ib ic : IE} {pos p : Pos} {es : List Expr} {ies : IEs}
theorem s_ix (ha : SE X mg E Γ a ia) (hb : SE X mg E Γ b ib) (hs : PlainIx b := by intro _ _; rfl) : SE X mg E Γ (.Subscript a b pos) (.ix ia ib) := by
  refine pe_imp (pe_ix ix_seq ha hb hs) fun σ H Q ⟨ms, ρ, S, he, hs, hp⟩ => ?_
  refine ⟨ms, ρ, S, he, hs, PostG.part (f := fun x => (ev Γ ib ρ).bnd fun y => (look x).bnd fun dx => (asData y).bnd fun dy => (M.opt (ixD dx dy)).bnd fun d => M.ret (W.d d)) hp fun wa S1 ms1 H1 _ e1 r1 h1 va hva => ?_⟩
  refine ⟨ms1, ρ, S1, he.ext e1, r1, h1.part fun wb S2 ms2 H2 _ e2 r2 h2 vb hvb => ?_⟩
  obtain ⟨dx, g1, h3⟩ := h2.look
  obtain ⟨dy, rfl, h4⟩ := h3.data
  obtain ⟨d, g3, h5⟩ := h4.opt
  have hx := (hva.ext e2).get r2 g1
  unfold ixD at g3
  split at g3
  · obtain ⟨q, xs, rfl, k1, k2, k3⟩ := hx.lst
    obtain ⟨v, hv, hr⟩ := k3.atL g3
    cases hvb with
    | d hvb => cases hvb; exact .inl ⟨q, xs, _, v, rfl, rfl, SqL.of k1, hv, (Fin.of h5).now r2 hr⟩
  · obtain ⟨q, xs, rfl, k1, k0, k2, k3⟩ := hx.tup
    obtain ⟨v, hv, hr⟩ := k3.atL g3
    cases hvb with
    | d hvb => cases hvb; exact .inr (.inl ⟨q, xs, _, v, rfl, rfl, SqT.of k1, hv, (Fin.of h5).now r2 hr⟩)
  · cases g3
theorem so_no : SO X mg E Γ none .no := po_imp po_none fun σ H Q ⟨ms, ρ, S, he, hs, hp⟩ => PostG.ret hs hp
theorem so_so (ha : SE X mg E Γ a ia) : SO X mg E Γ (some a) (.so ia) := by
  refine po_imp (po_some ha) fun σ H Q ⟨ms, ρ, S, he, hs, hp⟩ => ⟨ms, ρ, S, he, hs, PostG.part (f := fun w => (asInt w).bnd fun i => M.ret (some i)) hp fun w S1 ms1 H1 _ e1 r1 h1 v hv => ?_⟩
  obtain ⟨i, rfl, h2⟩ := h1.int
  cases hv with
  | d hv => cases hv; exact ⟨i, rfl, h2.ret r1⟩
theorem sIx_eq (n d : Nat) (o : Option Int) : HT.sIx n d o = cutI n d o := by cases o <;> rfl
theorem s_sl {lo hi : Option Expr} {il ih : IO} {p2 : Pos} (ha : SE X mg E Γ a ia) (hl : SO X mg E Γ lo il) (hh : SO X mg E Γ hi ih) : SE X mg E Γ (.Subscript a (.Slice lo hi none p2) pos) (.sl ia il ih) := by
  refine pe_imp (pe_slice (sl_list.or sl_tupA) ha hl hh) fun σ H Q ⟨ms, ρ, S, he, hs, hp⟩ => ?_
  refine ⟨ms, ρ, S, he, hs, PostG.part (f := fun x => (evo Γ il ρ).bnd fun l => (evo Γ ih ρ).bnd fun h => (look x).bnd fun dx => (M.opt (slD l h dx)).bnd fun d => M.ret (W.d d)) hp fun wa S1 ms1 H1 _ e1 r1 h1 va hva => ?_⟩
  refine ⟨ms1, ρ, S1, he.ext e1, r1, h1.part fun l S2 ms2 H2 _ e2 r2 h2 => ?_⟩
  refine ⟨ms2, ρ, S2, (he.ext e1).ext e2, r2, h2.part fun u S3 ms3 H3 _ e3 r3 h3 => ?_⟩
  obtain ⟨dx, g1, h4⟩ := h3.look
  obtain ⟨d, g3, h5⟩ := h4.opt
  have hx := ((hva.ext e2).ext e3).get r3 g1
  unfold slD at g3
  split at g3
  · cases g3
    obtain ⟨q, xs, rfl, k1, k2, k3⟩ := hx.lst
    exact .inl ⟨q, xs, rfl, SqL.of k1, fun n hn => (Fin.of h5).newL r3 (Nat.le_trans (cutV_length _ _ _) k2) (k3.cut _ _) hn⟩
  · cases g3
    obtain ⟨q, xs, rfl, k1, k0, k2, k3⟩ := hx.tup
    refine .inr ⟨q, xs, rfl, SqT.of k1, fun hw => ?_, fun _ n hn => (Fin.of h5).newT r3 (Nat.le_trans (cutV_length _ _ _) k2) (k3.cut _ _) hn⟩
    have ec : cutL ‹List PyData› l u = ‹List PyData› := by
      rw [sIx_eq, sIx_eq, k3.len] at hw
      unfold cutL
      rw [hw.1, hw.2]
      simp
    have f := Fin.of h5
    rw [ec] at f
    exact f.now r3 (.tup k1 k0 k2 k3)
  · cases g3

/-! ### a def of the text -/
def spF (K : PySem.W.Frag) (mg : Str → Option Value) (F : List W → M W) (n : Nat) : Sp := fun vs H Q E => vs.length = n ∧
  ∃ ms ws S, ms.tb = tabsOf K ∧ RpS H ms S ∧ RpWs K H ms vs ws ∧ PostG mg E ms H (fun w ms' H' => ∀ v, RpW K H' ms' v w → Q v H') (F ws S)
theorem s_fn {x : Str} {k lv : Nat} {f : Addr} {fd : FuncData} {ps : List Str} (F : FnOk X.prog X.w X.K X.mg X.base (L2.CX X.prog X.w) lv f fd ps (spF X.K mg (Γ k) ps.length)) (hr : Room lv X.A) (hg : Gl X x) (hm : X.mg x = some (.ref f)) (hk : PySem.W.keepIn X.K (.ref f) = true) (hb : Binds X.K fd ps [])
    (hx : Passes (L2.CX X.prog X.w) X E) (ha : SA X mg E Γ (e :: es) ies) (hl : ies.len = ps.length := by rfl) (hdb : (x == ("__debug__" : Str)) = false := by decide) (he : starEach (e :: es) X.env = (false, eval e X.env) :: starEach es X.env := by rfl) (hpl : (backTo pos (starEach es X.env)).any (·.1) = false := by rfl) :
    SE X mg E Γ (.Call (.Name x p) (e :: es) [] pos) (.fn k ies) := by
  refine pe_imp (pe_call F hr hg hm hk hb .nil hx ha hdb he hpl) fun σ H Q ⟨ms, ρ, S, he, hs, hp⟩ => ?_
  refine ⟨ms, ρ, S, he, hs, PostG.part (f := fun ws => Γ k ws) hp fun ws S1 ms1 H1 ew e1 r1 h1 vs hvs => ?_⟩
  show spF X.K mg (Γ k) ps.length (vs ++ []) H1 Q E
  rw [List.append_nil]
  exact ⟨by rw [hvs.len, evs_len ies ew, hl], ms1, ws, S1, (he.ext e1).tb, r1, hvs, h1⟩
theorem s_fn0 {x : Str} {k lv : Nat} {f : Addr} {fd : FuncData} (F : FnOk X.prog X.w X.K X.mg X.base (L2.CX X.prog X.w) lv f fd [] (spF X.K mg (Γ k) 0)) (hr : Room lv X.A) (hg : Gl X x) (hm : X.mg x = some (.ref f)) (hk : PySem.W.keepIn X.K (.ref f) = true) (hb : Binds X.K fd [] [])
    (hx : Passes (L2.CX X.prog X.w) X E) (hdb : (x == ("__debug__" : Str)) = false := by decide) : SE X mg E Γ (.Call (.Name x p) [] [] pos) (.fn k .nil) := by
  refine pe_imp (pe_call0 F hr hg hm hk hb .nil hx hdb) fun σ H Q ⟨ms, ρ, S, he, hs, hp⟩ => ?_
  exact ⟨rfl, ms, [], S, he.tb, hs, .nil, hp⟩

/-! ### built-in functions -/
/-- values as data, now -/
inductive Rvs (H : Hp) (ms : Cells) : List V → List PyData → Prop
  | nil : Rvs H ms [] []
  | cons {v : V} {vs : List V} {d : PyData} {ds : List PyData} : Rv H ms v d → Rvs H ms vs ds → Rvs H ms (v :: vs) (d :: ds)
theorem rvs_of {K : PySem.W.Frag} {H : Hp} {ms : Cells} {S : Sto} (r : RpS H ms S) : ∀ {vs : List V} {ws : List W} {ds : List PyData}, RpWs K H ms vs ws → ws.length = ds.length → (∀ (i : Nat) (w : W), ws[i]? = some w → ∃ d, ds[i]? = some d ∧ w.get S = some d) → Rvs H ms vs ds
  | _, _, [], .nil, _, _ => .nil
  | _, _, _ :: _, .nil, h, _ => by simp at h
  | _, _, [], .cons _ _, h, _ => by simp at h
  | _, _, d :: ds, .cons (w := w) a t, h, g => by
    obtain ⟨d', q1, q2⟩ := g 0 w rfl
    simp at q1
    subst q1
    exact .cons (a.get r q2) (rvs_of r t (by simpa using h) fun i w' e => by
      obtain ⟨d', k1, k2⟩ := g (i + 1) w' (by simpa using e)
      exact ⟨d', by simpa using k1, k2⟩)
theorem Rvs.one {H : Hp} {ms : Cells} {vs : List V} {d : PyData} (h : Rvs H ms vs [d]) : ∃ v, vs = [v] ∧ Rv H ms v d := by
  cases h with
  | cons a t => cases t; exact ⟨_, rfl, a⟩
theorem Rvs.two {H : Hp} {ms : Cells} {vs : List V} {d d' : PyData} (h : Rvs H ms vs [d, d']) : ∃ v v', vs = [v, v'] ∧ Rv H ms v d ∧ Rv H ms v' d' := by
  cases h with
  | cons a t =>
    cases t with
    | cons a' t => cases t; exact ⟨_, _, rfl, a, a'⟩
def PrimOk (q : Prim) (r : List V → Hp → VK → Prop) : Prop := ∀ (mg : Str → Option Value) (E : XK) (H : Hp) (ms : Cells) (S : Sto) (vs : List V) (ds : List PyData) (d : PyData) (Q : VK),
  RpS H ms S → Rvs H ms vs ds → prim q ds = some d → Fin E mg ms H S Q d → r vs H Q
theorem pr_read {q : Prim} {r : List V → Hp → VK → Prop} (ho : PrimOk q r) {K : PySem.W.Frag} {σ : L2.St} {H : Hp} {Q : VK} (h : tE K mg E Γ (.pr q ies) σ H Q) : tCB r (tA K mg E Γ ies) σ H Q := by
  obtain ⟨ms, ρ, S, he, hs, hp⟩ := h
  refine ⟨ms, ρ, S, he, hs, PostG.part (f := fun ws => (looks ws).bnd fun ds => (M.opt (prim q ds)).bnd fun d => M.ret (W.d d)) hp fun ws S1 ms1 H1 ew e1 r1 h1 vs hvs => ?_⟩
  obtain ⟨ds, l, g, h2⟩ := h1.looks
  obtain ⟨d, g3, h3⟩ := h2.opt
  exact ho mg E H1 ms1 S1 vs ds d Q r1 (rvs_of r1 hvs l g) g3 (Fin.of h3)
theorem s_prB {q : Prim} {x : Str} {id : String} {r : List V → Hp → VK → Prop} (ho : PrimOk q r) (hc : CallR X (.builtin id) r) (hg : Gl X x) (hm : X.mg x = none) (hv : bootBuiltins x = some (.builtin id)) (ha : SA X mg E Γ (e :: es) ies) (hn : x ≠ "__name__" := by decide) (hdb : (x == ("__debug__" : Str)) = false := by decide)
    (he : starEach (e :: es) X.env = (false, eval e X.env) :: starEach es X.env := by rfl) (hpl : (backTo pos (starEach es X.env)).any (·.1) = false := by rfl) : SE X mg E Γ (.Call (.Name x p) (e :: es) [] pos) (.pr q ies) :=
  pe_imp (pe_callB hc hg hm hv ha hn hdb he hpl) fun σ H Q h => pr_read ho h
theorem s_prT {q : Prim} {x : Str} {T : String} {r : List V → Hp → VK → Prop} (ho : PrimOk q r) (hc : CallR X (.type T) r) (hg : Gl X x) (hm : X.mg x = none) (hv : bootBuiltins x = some (.type T)) (ha : SA X mg E Γ (e :: es) ies) (hn : x ≠ "__name__" := by decide) (hdb : (x == ("__debug__" : Str)) = false := by decide)
    (he : starEach (e :: es) X.env = (false, eval e X.env) :: starEach es X.env := by rfl) (hpl : (backTo pos (starEach es X.env)).any (·.1) = false := by rfl) : SE X mg E Γ (.Call (.Name x p) (e :: es) [] pos) (.pr q ies) :=
  pe_imp (pe_callTy hc hg hm hv ha hn hdb he hpl) fun σ H Q h => pr_read ho h
theorem p_len {K : PySem.W.Frag} : PrimOk .len (fun xs H Q => ∃ x n, xs = [x] ∧ LenV K x H n ∧ Q (.int n) H) := by
  intro mg E H ms S vs ds d Q r hv hp hf
  have hp : pLen ds = some d := hp
  unfold pLen at hp
  split at hp
  · cases hp
    obtain ⟨v, rfl, h⟩ := hv.one
    obtain ⟨q, xs, rfl, k1, k2, k3⟩ := h.lst
    exact ⟨_, xs.length, rfl, .inl ⟨xs, SqL.of k1, rfl⟩, by rw [k3.len]; exact hf.now r (.int _)⟩
  · cases hp
    obtain ⟨v, rfl, h⟩ := hv.one
    obtain ⟨q, xs, rfl, k1, k0, k2, k3⟩ := h.tup
    exact ⟨_, xs.length, rfl, .inr ⟨xs, SqT.of k1, rfl⟩, by rw [k3.len]; exact hf.now r (.int _)⟩
  · cases hp
theorem p_abs : PrimOk .abs (fun xs H Q => ∃ i, xs = [.int i] ∧ Q (.int (if i < 0 then -i else i)) H) := by
  intro mg E H ms S vs ds d Q r hv hp hf
  have hp : pAbs ds = some d := hp
  unfold pAbs at hp
  split at hp
  · cases hp
    obtain ⟨v, rfl, h⟩ := hv.one
    exact ⟨_, by rw [h.int], hf.now r (.int _)⟩
  · cases hp
theorem p_int : PrimOk .int (fun xs H Q => (∃ i, xs = [.int i] ∧ Q (.int i) H) ∨ ∃ k, xs = [.bl k] ∧ Q (.int (if k then 1 else 0)) H) := by
  intro mg E H ms S vs ds d Q r hv hp hf
  have hp : pInt ds = some d := hp
  unfold pInt at hp
  split at hp
  · cases hp
    obtain ⟨v, rfl, h⟩ := hv.one
    exact .inl ⟨_, by rw [h.int], hf.now r (.int _)⟩
  · cases hp
    obtain ⟨v, rfl, h⟩ := hv.one
    exact .inr ⟨_, by rw [h.bl], hf.now r (.int _)⟩
  · cases hp
theorem p_bool : PrimOk .bool (fun xs H Q => (∃ i, xs = [.int i] ∧ Q (.bl (i != 0)) H) ∨ ∃ k, xs = [.bl k] ∧ Q (.bl k) H) := by
  intro mg E H ms S vs ds d Q r hv hp hf
  have hp : pBool ds = some d := hp
  unfold pBool at hp
  split at hp
  · cases hp
    obtain ⟨v, rfl, h⟩ := hv.one
    exact .inr ⟨_, by rw [h.bl], hf.now r (.bl _)⟩
  · cases hp
theorem p_tuple {K : PySem.W.Frag} : PrimOk .tuple (fun xs H Q => ∃ p ys, xs = [.ref p] ∧ ((SqL K H p ys ∧ ∀ l, H l = none → Q (.ref l) (upd H l (.tup ys))) ∨ (SqT K H p ys ∧ Q (.ref p) H))) := by
  intro mg E H ms S vs ds d Q r hv hp hf
  have hp : pTuple ds = some d := hp
  unfold pTuple at hp
  split at hp
  · cases hp
    obtain ⟨v, rfl, h⟩ := hv.one
    obtain ⟨q, xs, rfl, k1, k2, k3⟩ := h.lst
    exact ⟨q, xs, rfl, .inl ⟨SqL.of k1, fun l hl => hf.newT r k2 k3 hl⟩⟩
  · cases hp
    obtain ⟨v, rfl, h⟩ := hv.one
    obtain ⟨q, xs, rfl, k1, k0, k2, k3⟩ := h.tup
    exact ⟨q, xs, rfl, .inr ⟨SqT.of k1, hf.now r (.tup k1 k0 k2 k3)⟩⟩
  · cases hp
theorem p_list {K : PySem.W.Frag} : PrimOk .list (fun xs H Q => ∃ p ys, xs = [.ref p] ∧ (SqL K H p ys ∨ SqT K H p ys) ∧ ∀ l, H l = none → Q (.ref l) (upd H l (.lst ys))) := by
  intro mg E H ms S vs ds d Q r hv hp hf
  have hp : pList ds = some d := hp
  unfold pList at hp
  split at hp
  · cases hp
    obtain ⟨v, rfl, h⟩ := hv.one
    obtain ⟨q, xs, rfl, k1, k2, k3⟩ := h.lst
    exact ⟨q, xs, rfl, .inl (SqL.of k1), fun l hl => hf.newL r k2 k3 hl⟩
  · cases hp
    obtain ⟨v, rfl, h⟩ := hv.one
    obtain ⟨q, xs, rfl, k1, k0, k2, k3⟩ := h.tup
    exact ⟨q, xs, rfl, .inr (SqT.of k1), fun l hl => hf.newL r k2 k3 hl⟩
  · cases hp
theorem p_min2 : PrimOk .min2 (fun xs H Q => ∃ i j, xs = [.int i, .int j] ∧ Q (.int (if j < i then j else i)) H) := by
  intro mg E H ms S vs ds d Q r hv hp hf
  have hp : pMin2 ds = some d := hp
  unfold pMin2 at hp
  split at hp
  · cases hp
    obtain ⟨v, v', rfl, h, h'⟩ := hv.two
    exact ⟨_, _, by rw [h.int, h'.int], hf.now r (.int _)⟩
  · cases hp
theorem p_max2 : PrimOk .max2 (fun xs H Q => ∃ i j, xs = [.int i, .int j] ∧ Q (.int (if j > i then j else i)) H) := by
  intro mg E H ms S vs ds d Q r hv hp hf
  have hp : pMax2 ds = some d := hp
  unfold pMax2 at hp
  split at hp
  · cases hp
    obtain ⟨v, v', rfl, h, h'⟩ := hv.two
    exact ⟨_, _, by rw [h.int, h'.int], hf.now r (.int _)⟩
  · cases hp
theorem fold_least : ∀ (l : List Int) (a : Int), (l.foldl (fun a b => if b < a then b else a) a ∈ a :: l) ∧ ∀ y ∈ a :: l, l.foldl (fun a b => if b < a then b else a) a ≤ y
  | [], a => ⟨by simp, fun y hy => by simp at hy; subst hy; exact Int.le_refl _⟩
  | b :: l, a => by
    obtain ⟨h1, h2⟩ := fold_least l (if b < a then b else a)
    rw [List.foldl_cons]
    constructor
    · rcases List.mem_cons.mp h1 with h | h
      · rw [h]; split <;> simp
      · simp [h]
    · intro y hy
      have q := h2 _ List.mem_cons_self
      rcases List.mem_cons.mp hy with rfl | hy
      · generalize List.foldl _ _ l = z at q ⊢
        split at q <;> omega
      · rcases List.mem_cons.mp hy with rfl | hy
        · generalize List.foldl _ _ l = z at q ⊢
          split at q <;> omega
        · exact h2 y (List.mem_cons_of_mem _ hy)
theorem fold_most : ∀ (l : List Int) (a : Int), (l.foldl (fun a b => if a < b then b else a) a ∈ a :: l) ∧ ∀ y ∈ a :: l, y ≤ l.foldl (fun a b => if a < b then b else a) a
  | [], a => ⟨by simp, fun y hy => by simp at hy; subst hy; exact Int.le_refl _⟩
  | b :: l, a => by
    obtain ⟨h1, h2⟩ := fold_most l (if a < b then b else a)
    rw [List.foldl_cons]
    constructor
    · rcases List.mem_cons.mp h1 with h | h
      · rw [h]; split <;> simp
      · simp [h]
    · intro y hy
      have q := h2 _ List.mem_cons_self
      rcases List.mem_cons.mp hy with rfl | hy
      · generalize List.foldl _ _ l = z at q ⊢
        split at q <;> omega
      · rcases List.mem_cons.mp hy with rfl | hy
        · generalize List.foldl _ _ l = z at q ⊢
          split at q <;> omega
        · exact h2 y (List.mem_cons_of_mem _ hy)
theorem p_minl {K : PySem.W.Frag} : PrimOk .minl (rMin K) := by
  intro mg E H ms S vs ds d Q r hv hp hf
  have hp : pMinl ds = some d := hp
  unfold pMinl at hp
  split at hp
  · obtain ⟨v, rfl, h⟩ := hv.one
    obtain ⟨q, xs, rfl, k1, k2, k3⟩ := h.lst
    split at hp
    · cases hp
    · rename_i ns hns
      have e := ints_rps k3 hns
      subst e
      cases ns with
      | nil => cases hp
      | cons i l =>
        cases hp
        obtain ⟨h1, h2⟩ := fold_least l i
        refine ⟨q, i :: l, rfl, SqL.of k1, by simp, fun m hm hle => ?_⟩
        have : m = l.foldl (fun a b => if b < a then b else a) i := Int.le_antisymm (hle _ h1) (h2 _ hm)
        rw [this]
        exact hf.now r (.int _)
  · cases hp
theorem p_maxl {K : PySem.W.Frag} : PrimOk .maxl (rMax K) := by
  intro mg E H ms S vs ds d Q r hv hp hf
  have hp : pMaxl ds = some d := hp
  unfold pMaxl at hp
  split at hp
  · obtain ⟨v, rfl, h⟩ := hv.one
    obtain ⟨q, xs, rfl, k1, k2, k3⟩ := h.lst
    split at hp
    · cases hp
    · rename_i ns hns
      have e := ints_rps k3 hns
      subst e
      cases ns with
      | nil => cases hp
      | cons i l =>
        cases hp
        obtain ⟨h1, h2⟩ := fold_most l i
        refine ⟨q, i :: l, rfl, SqL.of k1, by simp, fun m hm hle => ?_⟩
        have : m = l.foldl (fun a b => if a < b then b else a) i := Int.le_antisymm (h2 _ hm) (hle _ h1)
        rw [this]
        exact hf.now r (.int _)
  · cases hp
theorem p_sum {K : PySem.W.Frag} : PrimOk .sum (rSum K) := by
  intro mg E H ms S vs ds d Q r hv hp hf
  have hp : pSum ds = some d := hp
  unfold pSum at hp
  split at hp
  · obtain ⟨v, rfl, h⟩ := hv.one
    obtain ⟨q, xs, rfl, k1, k2, k3⟩ := h.lst
    split at hp
    · cases hp
    · rename_i ns hns
      have e := ints_rps k3 hns
      subst e
      cases hp
      exact ⟨q, ns, rfl, SqL.of k1, hf.now r (.int _)⟩
  · cases hp
/-! isinstance against a built-in class -/
def tyOfD : PyData → String
  | .none => "NoneType"
  | .bool _ => "bool"
  | .int _ => "int"
  | .str _ => "str"
  | .list _ => "list"
  | .tuple _ => "tuple"
  | .dict _ => "dict"
theorem Rv.ty {K : PySem.W.Frag} {H : Hp} {ms : Cells} {v : V} {d : PyData} (h : Rv H ms v d) : TyX K H v (.type (tyOfD d)) := by
  rcases h with h | ⟨a, xs, ds, e1, e2, h1, h2, h3⟩
  · cases h with
    | non => exact .base .non
    | bl b => exact .base (.bl b)
    | int i => exact .base (.int i)
    | str x => exact .base (.str x)
    | lst h => exact .base (.lst h)
    | tup h => exact .base (.tup h)
  · subst e1 e2; exact .base (.lst h1)
def IsiOk (q : Prim) (f : PyData → Bool) (T : String) : Prop := prim q = p1 f ∧ ∀ d, (∀ kvs, d ≠ .dict kvs) → kitB (tyOfD d) T = some (f d)
theorem isi_int : IsiOk .isInt isIntD "int" := ⟨rfl, fun d hd => by cases d <;> first | exact absurd rfl (hd _) | (simp only [tyOfD, isIntD]; decide +kernel)⟩
theorem isi_bool : IsiOk .isBool isBoolD "bool" := ⟨rfl, fun d hd => by cases d <;> first | exact absurd rfl (hd _) | (simp only [tyOfD, isBoolD]; decide +kernel)⟩
theorem isi_tup : IsiOk .isTup isTupD "tuple" := ⟨rfl, fun d hd => by cases d <;> first | exact absurd rfl (hd _) | (simp only [tyOfD, isTupD]; decide +kernel)⟩
theorem isi_str : IsiOk .isStr isStrD "str" := ⟨rfl, fun d hd => by cases d <;> first | exact absurd rfl (hd _) | (simp only [tyOfD, isStrD]; decide +kernel)⟩
theorem Rv.nodict {H : Hp} {ms : Cells} {v : V} {d : PyData} (h : Rv H ms v d) (kvs : List (PyData × PyData)) : d ≠ .dict kvs := by
  rintro rfl
  rcases h with h | ⟨a, xs, ds, e1, e2, _⟩
  · cases h
  · cases e2
theorem s_isi {q : Prim} {f : PyData → Bool} {x : Str} {T : String} {p2 : Pos} (ho : IsiOk q f T) (hg : Gl X "isinstance") (hm : X.mg "isinstance" = none) (hg2 : Gl X x) (hm2 : X.mg x = none) (hv2 : bootBuiltins x = some (.type T)) (ha : SE X mg E Γ a ia)
    (h1 : starEach [a, .Name x p2] X.env = (false, eval a X.env) :: starEach [.Name x p2] X.env := by rfl) (hn : x ≠ "__name__" := by decide) (hdb : (x == ("__debug__" : Str)) = false := by decide) : SE X mg E Γ (.Call (.Name "isinstance" p) [a, .Name x p2] [] pos) (.pr q (.cons ia .nil)) := by
  refine pe_imp (pe_callB call_isi hg hm PyProof.Rows.boot_isinstance (pa_cons ha (pa_cons (pe_bltn (v := .ty T) hg2 hm2 hv2 rfl hn hdb) pa_nil) h1) (he := h1)) fun σ H Q ⟨ms, ρ, S, he, hs, hp⟩ => ?_
  have hp1 : PostG mg E ms H (fun w ms' H' => ∀ v, RpW X.K H' ms' v w → Q v H') ((ev Γ ia ρ).bnd (fun w => (look w).bnd fun x => M.ret (W.d (.bool (f x)))) S) := by
    have e : ev Γ (.pr q (.cons ia .nil)) ρ S = (ev Γ ia ρ).bnd (fun w => (look w).bnd fun x => M.ret (W.d (.bool (f x)))) S := by
      show ((((ev Γ ia ρ).bnd fun w => (M.ret ([] : List W)).bnd fun ws => M.ret (w :: ws))).bnd fun ws => (looks ws).bnd fun ds => (M.opt (prim q ds)).bnd fun d => M.ret (W.d d)) S = _
      rw [ho.1]
      unfold M.bnd
      cases k : ev Γ ia ρ S with
      | none => rfl
      | some r =>
        cases r with
        | ex x S1 => rfl
        | ok w S1 =>
          show (((look w).bnd fun x => (looks []).bnd fun xs => M.ret (x :: xs)).bnd fun ds => (M.opt (p1 f ds)).bnd fun d => M.ret (W.d d)) S1 = _
          unfold M.bnd Qv.look
          dsimp only
          cases w.get S1 <;> rfl
    rw [← e]; exact hp
  refine ⟨ms, ρ, S, he, hs, hp1.part fun w S1 ms1 H1 _ e1 r1 h2 v hv => ?_⟩
  obtain ⟨d, g, h3⟩ := h2.look
  have hx := hv.get r1 g
  exact ⟨v, .ty T, _, _, f d, rfl, .ty T, hx.ty, kit_ty (ho.2 d hx.nodict), (Fin.of h3).now r1 (.bl _)⟩

/-! ranges as lists and tuples -/
theorem rgV_rps {H : Hp} {ms : Cells} (a b : Int) : Rps H ms (rgV a b) (rngL a (b - a).toNat) := by
  unfold rgV rngL
  generalize List.range (b - a).toNat = l
  induction l with
  | nil => exact .nil
  | cons i l ih => exact .cons (.int _) ih
theorem rg_ok {a b : Int} (h : rngOk a b) (hl : (b - a).toNat ≤ line) : RgOk a b := by
  obtain ⟨h1, h2, h3, h4⟩ := h
  refine ⟨h1, h2, h3, h4, ?_⟩
  have : line = 2 ^ 24 := by decide
  omega
theorem rg_len {a b : Int} (hl : (b - a).toNat ≤ line) : (rgV a b).length ≤ line := by rw [rgV_length]; exact hl
theorem pr1_post {q : Prim} {K : PySem.W.Frag} {ms : Cells} {H : Hp} {ρ : Env} {S : Sto} {Q : VK} (h : PostG mg E ms H (fun w ms' H' => ∀ v, RpW K H' ms' v w → Q v H') (ev Γ (.pr q (.cons ia .nil)) ρ S)) :
    PostG mg E ms H (fun w ms' H' => ∀ v, RpW K H' ms' v w → Q v H') ((ev Γ ia ρ).bnd (fun w => (look w).bnd fun x => (M.opt (prim q [x])).bnd fun d => M.ret (W.d d)) S) := by
  have e : ev Γ (.pr q (.cons ia .nil)) ρ S = (ev Γ ia ρ).bnd (fun w => (look w).bnd fun x => (M.opt (prim q [x])).bnd fun d => M.ret (W.d d)) S := by
    show ((((ev Γ ia ρ).bnd fun w => (M.ret ([] : List W)).bnd fun ws => M.ret (w :: ws))).bnd fun ws => (looks ws).bnd fun ds => (M.opt (prim q ds)).bnd fun d => M.ret (W.d d)) S = _
    unfold M.bnd
    cases k : ev Γ ia ρ S with
    | none => rfl
    | some r =>
      cases r with
      | ex x S1 => rfl
      | ok w S1 =>
        show (((look w).bnd fun x => (looks []).bnd fun xs => M.ret (x :: xs)).bnd fun ds => (M.opt (prim q ds)).bnd fun d => M.ret (W.d d)) S1 = _
        unfold M.bnd Qv.look
        dsimp only
        cases w.get S1 <;> rfl
  rw [← e]; exact h
theorem s_lrng1 {p2 pos2 : Pos} (hc : X.calm = true) (hg : Gl X "list") (hm : X.mg "list" = none) (hg2 : Gl X "range") (hm2 : X.mg "range" = none) (ha : SE X mg E Γ a ia) (na : starEach [a] X.env = (false, eval a X.env) :: starEach [] X.env := by rfl) :
    SE X mg E Γ (.Call (.Name "list" p) [.Call (.Name "range" p2) [a] [] pos2] [] pos) (.pr .rng1 (.cons ia .nil)) := by
  refine pe_imp (pe_listRg hc hg hm (prg_1 hg2 hm2 ha na)) fun σ H Q ⟨ms, ρ, S, he, hs, hp⟩ => ?_
  refine ⟨ms, ρ, S, he, hs, (pr1_post hp).part fun w S1 ms1 H1 _ e1 r1 h2 v hv => ?_⟩
  obtain ⟨d, g, h3⟩ := h2.look
  obtain ⟨y, g2, h4⟩ := h3.opt
  have hx := hv.get r1 g
  cases d with
  | int n =>
    have g2 : (if rngOk 0 n ∧ n.toNat ≤ line then some (PyData.list (rngL 0 n.toNat)) else none) = some y := g2
    split at g2 <;> cases g2
    rename_i hok
    have hl : (n - 0).toNat ≤ line := by simpa using hok.2
    refine ⟨n, hx.int, rg_ok hok.1 hl, fun q hq => (Fin.of h4).newL r1 (rg_len hl) ?_ hq⟩
    have := rgV_rps (H := H1) (ms := ms1) 0 n
    simpa using this
  | _ => cases g2
theorem s_trng1 {p2 pos2 : Pos} (hc : X.calm = true) (hg : Gl X "tuple") (hm : X.mg "tuple" = none) (hg2 : Gl X "range") (hm2 : X.mg "range" = none) (ha : SE X mg E Γ a ia) (na : starEach [a] X.env = (false, eval a X.env) :: starEach [] X.env := by rfl) :
    SE X mg E Γ (.Call (.Name "tuple" p) [.Call (.Name "range" p2) [a] [] pos2] [] pos) (.pr .trng1 (.cons ia .nil)) := by
  refine pe_imp (pe_tupRg hc hg hm (prg_1 hg2 hm2 ha na)) fun σ H Q ⟨ms, ρ, S, he, hs, hp⟩ => ?_
  refine ⟨ms, ρ, S, he, hs, (pr1_post hp).part fun w S1 ms1 H1 _ e1 r1 h2 v hv => ?_⟩
  obtain ⟨d, g, h3⟩ := h2.look
  obtain ⟨y, g2, h4⟩ := h3.opt
  have hx := hv.get r1 g
  cases d with
  | int n =>
    have g2 : (if rngOk 0 n ∧ n.toNat ≤ line then some (PyData.tuple (rngL 0 n.toNat)) else none) = some y := g2
    split at g2 <;> cases g2
    rename_i hok
    have hl : (n - 0).toNat ≤ line := by simpa using hok.2
    refine ⟨n, hx.int, rg_ok hok.1 hl, fun q hq => (Fin.of h4).newT r1 (rg_len hl) ?_ hq⟩
    have := rgV_rps (H := H1) (ms := ms1) 0 n
    simpa using this
  | _ => cases g2

/-! the script -/
theorem s_slen (hg : Gl X "len") (hm : X.mg "len" = none) (ha : SE X mg E Γ a ia) (h1 : starEach [a] X.env = (false, eval a X.env) :: starEach [] X.env := by rfl) : SE X mg E Γ (.Call (.Name "len" p) [a] [] pos) (.slen ia) := by
  refine pe_imp (pe_callB call_len hg hm PySem.boot_len (pa_cons ha pa_nil h1) (he := h1)) fun σ H Q ⟨ms, ρ, S, he, hs, hp⟩ => ?_
  refine ⟨ms, ρ, S, he, hs, PostG.part (f := fun x => (asScr x).bnd fun ns => M.ret (W.d (.int (ns.length : Int)))) hp fun w S1 ms1 H1 _ e1 r1 h2 v hv => ?_⟩
  obtain ⟨ns, rfl, h3⟩ := h2.script
  cases hv with
  | @scr aa _ hv =>
    have hq : ∃ xs, SqL X.K H1 aa xs ∧ ns.length = xs.length := by
      rcases hv with ⟨_, hv⟩ | hv
      · exact ⟨_, .inl hv, by rw [List.length_map]⟩
      · exact ⟨_, hv H1, by rw [List.length_map]⟩
    exact ⟨_, ns.length, rfl, .inl hq, (Fin.of h3).now r1 (.int _)⟩
theorem atL_map {α β : Type} (f : α → β) (xs : List α) (i : Int) {x : α} (h : atL xs i = some x) : atI (xs.map f) i = some (f x) := by
  rw [atL_eq]
  unfold Qv.atL at h ⊢
  rw [List.length_map]
  cases e : place xs.length i with
  | none => rw [e] at h; cases h
  | some j =>
    rw [e] at h
    dsimp only at h ⊢
    rw [List.getElem?_map, h]; rfl
theorem s_six (ha : SE X mg E Γ a ia) (hb : SE X mg E Γ b ib) (hs : PlainIx b := by intro _ _; rfl) : SE X mg E Γ (.Subscript a b pos) (.six ia ib) := by
  refine pe_imp (pe_ix ix_list ha hb hs) fun σ H Q ⟨ms, ρ, S, he, hs, hp⟩ => ?_
  refine ⟨ms, ρ, S, he, hs, PostG.part (f := fun x => (asScr x).bnd fun ns => (ev Γ ib ρ).bnd fun y => (asInt y).bnd fun j => (M.opt (atL ns j)).bnd fun n => M.ret (W.d (.int n))) hp fun wa S1 ms1 H1 _ e1 r1 h1 va hva => ?_⟩
  obtain ⟨ns, rfl, h2⟩ := h1.script
  refine ⟨ms1, ρ, S1, he.ext e1, r1, h2.part fun wb S2 ms2 H2 _ e2 r2 h3 vb hvb => ?_⟩
  obtain ⟨j, rfl, h4⟩ := h3.int
  obtain ⟨n, g, h5⟩ := h4.opt
  cases hvb with
  | d hvb =>
    cases hvb
    cases hva.ext e2 with
    | @scr aa _ hv =>
      have hq : SqL X.K H2 aa (ns.map V.int) := by
        rcases hv with ⟨_, hv⟩ | hv
        · exact .inl hv
        · exact hv H2
      exact ⟨aa, _, j, .int n, rfl, rfl, hq, atL_map V.int ns j g, (Fin.of h5).now r2 (.int _)⟩
end
end Qv

/-! Snd4 -/
set_option maxHeartbeats 0
/-! Targets, what is walked, comprehensions. -/
namespace Qv
open PySem PySem.Spec PyProof.Rows L2

/-! ### slots forgotten -/
theorem wipe_get (σ : L2.St) : ∀ (vs : List Nat) (j : Nat), (L2.wipe σ vs)[j]? = if j ∈ vs then (σ[j]?).map (fun _ => none) else σ[j]?
  | [], j => by simp [L2.wipe]
  | v :: vs, j => by
    show ((L2.wipe σ vs).set v none)[j]? = _
    have ih := wipe_get σ vs j
    by_cases h : v = j
    · subst h
      by_cases hv : v < (L2.wipe σ vs).length
      · rw [List.getElem?_set_self hv]
        have hs : v < σ.length := by rw [L2.wipe_length] at hv; exact hv
        simp [hs]
      · have hs : ¬ v < σ.length := by rw [L2.wipe_length] at hv; exact hv
        rw [List.getElem?_eq_none (by simpa using hv)]
        rw [List.getElem?_eq_none (show σ.length ≤ v by omega)]
        simp
    · rw [List.getElem?_set_ne h, ih]
      have : j ∈ v :: vs ↔ j ∈ vs := by simp [Ne.symm h]
      simp only [this]
theorem wipe_set {σ : L2.St} {vs : List Nat} {i : Nat} {x : Option V} (h : i ∈ vs) : L2.wipe (σ.set i x) vs = L2.wipe σ vs := by
  apply List.ext_getElem?
  intro j
  rw [wipe_get, wipe_get]
  by_cases hj : j ∈ vs
  · rw [if_pos hj, if_pos hj]
    by_cases e : i = j
    · subst e
      by_cases hl : i < σ.length
      · rw [List.getElem?_set_self hl]; simp [hl]
      · rw [List.getElem?_eq_none (by simpa using hl), List.getElem?_eq_none (by omega)]
    · rw [List.getElem?_set_ne e]
  · rw [if_neg hj, if_neg hj, List.getElem?_set_ne (fun e => hj (by rw [← e]; exact h))]
theorem wipe_idem (σ : L2.St) (vs : List Nat) : L2.wipe (L2.wipe σ vs) vs = L2.wipe σ vs := by
  apply List.ext_getElem?
  intro j
  rw [wipe_get, wipe_get]
  by_cases hj : j ∈ vs
  · rw [if_pos hj, if_pos hj]; cases σ[j]? <;> rfl
  · rw [if_neg hj, if_neg hj]

theorem Rp.tupInv {H : Hp} {ms : Cells} {v : V} {ds : List PyData} (h : Rp H ms v (.tuple ds)) : ∃ a xs, v = .ref a ∧ H a = some (.tup xs) ∧ ¬ ms.has a ∧ xs.length ≤ line ∧ Rps H ms xs ds := by
  cases h with
  | tup h1 h2 h3 h4 => exact ⟨_, _, rfl, h1, h2, h3, h4⟩
theorem Rp.lstInv {H : Hp} {ms : Cells} {v : V} {ds : List PyData} (h : Rp H ms v (.list ds)) : ∃ a xs, v = .ref a ∧ H a = some (.lst xs) ∧ ¬ ms.has a ∧ xs.length ≤ line ∧ Rps H ms xs ds := by
  cases h with
  | lst h1 h2 h3 h4 => exact ⟨_, _, rfl, h1, h2, h3, h4⟩
/-! ### targets -/
def Tg.slots : Tg → List Nat
  | .nm i => [i]
  | .tp is => is
/-- the reading of a target -/
def tG (K : PySem.W.Frag) (g : Tg) : TG := fun v σ H Q =>
  ∃ ms ρ x ρ', RpE K H ms σ ρ ∧ Rp H ms v x ∧ put g x ρ = some ρ' ∧ ∀ σ', RpE K H ms σ' ρ' → (∀ vs, (∀ i ∈ g.slots, i ∈ vs) → L2.wipe σ' vs = L2.wipe σ vs) → Q σ' H
theorem pg_imp {X : Cx} {e : Expr} {t t' : TG} (h : PG X e t) (hi : ∀ v σ H Q, t' v σ H Q → t v σ H Q) : PG X e t' := ⟨fun pins s σ H v u Q I r q => h.run pins s σ H v u Q I r (hi v σ H Q q)⟩
section
variable {X : Cx} {mg : Str → Option Value} {E : XK} {Γ : Fns} {a b c e : Expr} {ia ib ic : IE} {pos p : Pos} {es : List Expr} {ies : IEs}
abbrev SG (X : Cx) (e : Expr) (g : Tg) : Prop := PG X e (tG X.K g)
theorem sg_nm {x : Str} (i : Nat) (hN : X.N.Nodup) (hi : X.N[i]? = some x := by rfl) (hx : Loc X.env.scope x := by first | exact Or.inl rfl | exact Or.inr rfl) (hf : X.fn x = true ∨ X.env.scope.names.lookup x = some .local := by first | exact .inl rfl | exact .inr rfl) : SG X (.Name x pos) (.nm i) := by
  refine pg_imp (pg_name hN hi hx hf) fun v σ H Q ⟨ms, ρ, x, ρ', he, hv, hp, hq⟩ => ?_
  have e : ρ.set i (some (W.d x)) = ρ' := Option.some.inj hp
  subst e
  exact hq _ (he.set (.d hv)) fun vs h => wipe_set (h i (by simp [Tg.slots]))
theorem sg_tp2 {x y : Str} {px py : Pos} {k : Nat} (i j : Nat) (hc : X.calm = true) (h1 : SG X (.Name x px) (.nm i)) (h2 : SG X (.Name y py) (.nm j))
    (hn : (assignEach [.Name x px, .Name y py] X.env).length = 2 := by rfl) (hst : (assignEach [.Name x px, .Name y py] X.env).findIdx? (·.1) = none := by rfl)
    (hs : (assignEach (.Name x px :: [.Name y py]) X.env).map (·.2) = assign (.Name x px) X.env :: (assignEach [.Name y py] X.env).map (·.2) := by rfl) (hs2 : (assignEach (.Name y py :: []) X.env).map (·.2) = assign (.Name y py) X.env :: (assignEach [] X.env).map (·.2) := by rfl) : SG X (.Tuple [.Name x px, .Name y py] k pos) (.tp [i, j]) := by
  refine pg_imp (pg_tup hc (pgs_cons h1 (pgs_cons h2 pgs_nil hs2) hs) hn hst) fun v σ H Q ⟨ms, ρ, x, ρ', he, hv, hp, hq⟩ => ?_
  cases x with
  | tuple ds =>
    obtain ⟨t, xs, rfl, h, n, l, r⟩ := hv.tupInv
    have hp' : putAll [i, j] (ds.map .d) ρ = some ρ' := hp
    match ds, hp', r with
    | [], hp', _ => cases hp'
    | [_], hp', _ => cases hp'
    | _ :: _ :: _ :: _, hp', _ => cases hp'
    | [d1, d2], hp', r =>
      have e : (ρ.set i (some (W.d d1))).set j (some (W.d d2)) = ρ' := Option.some.inj hp'
      subst e
      cases r with
      | cons r1 r =>
        cases r with
        | cons r2 r =>
          cases r
          refine ⟨t, _, rfl, SqT.of h, rfl, _, _, rfl, ⟨ms, ρ, d1, _, he, r1, rfl, fun σ1 he1 w1 => ⟨_, _, rfl, ⟨ms, _, d2, _, he1, r2, rfl, fun σ2 he2 w2 => ⟨rfl, hq σ2 he2 fun vs hv => ?_⟩⟩⟩⟩⟩
          rw [w2 vs fun z hz => hv z (by simp [Tg.slots] at hz ⊢; simp [hz]), w1 vs fun z hz => hv z (by simp [Tg.slots] at hz ⊢; simp [hz])]
  | _ => cases hp
theorem sg_tp3 {x y z : Str} {px py pz : Pos} {k : Nat} (i j l : Nat) (hc : X.calm = true) (h1 : SG X (.Name x px) (.nm i)) (h2 : SG X (.Name y py) (.nm j)) (h3 : SG X (.Name z pz) (.nm l))
    (hn : (assignEach [.Name x px, .Name y py, .Name z pz] X.env).length = 3 := by rfl) (hst : (assignEach [.Name x px, .Name y py, .Name z pz] X.env).findIdx? (·.1) = none := by rfl)
    (hs : (assignEach (.Name x px :: [.Name y py, .Name z pz]) X.env).map (·.2) = assign (.Name x px) X.env :: (assignEach [.Name y py, .Name z pz] X.env).map (·.2) := by rfl) (hs2 : (assignEach (.Name y py :: [.Name z pz]) X.env).map (·.2) = assign (.Name y py) X.env :: (assignEach [.Name z pz] X.env).map (·.2) := by rfl)
    (hs3 : (assignEach (.Name z pz :: []) X.env).map (·.2) = assign (.Name z pz) X.env :: (assignEach [] X.env).map (·.2) := by rfl) : SG X (.Tuple [.Name x px, .Name y py, .Name z pz] k pos) (.tp [i, j, l]) := by
  refine pg_imp (pg_tup hc (pgs_cons h1 (pgs_cons h2 (pgs_cons h3 pgs_nil hs3) hs2) hs) hn hst) fun v σ H Q ⟨ms, ρ, x, ρ', he, hv, hp, hq⟩ => ?_
  cases x with
  | tuple ds =>
    obtain ⟨t, xs, rfl, h, n, l', r⟩ := hv.tupInv
    have hp' : putAll [i, j, l] (ds.map .d) ρ = some ρ' := hp
    match ds, hp', r with
    | [], hp', _ => cases hp'
    | [_], hp', _ => cases hp'
    | [_, _], hp', _ => cases hp'
    | _ :: _ :: _ :: _ :: _, hp', _ => cases hp'
    | [d1, d2, d3], hp', r =>
      have e : ((ρ.set i (some (W.d d1))).set j (some (W.d d2))).set l (some (W.d d3)) = ρ' := Option.some.inj hp'
      subst e
      cases r with
      | cons r1 r =>
        cases r with
        | cons r2 r =>
          cases r with
          | cons r3 r =>
            cases r
            refine ⟨t, _, rfl, SqT.of h, rfl, _, _, rfl, ⟨ms, ρ, d1, _, he, r1, rfl, fun σ1 he1 w1 => ⟨_, _, rfl, ⟨ms, _, d2, _, he1, r2, rfl, fun σ2 he2 w2 => ⟨_, _, rfl, ⟨ms, _, d3, _, he2, r3, rfl, fun σ3 he3 w3 => ⟨rfl, hq σ3 he3 fun vs hv => ?_⟩⟩⟩⟩⟩⟩⟩
            rw [w3 vs fun z hz => hv z (by simp [Tg.slots] at hz ⊢; simp [hz]), w2 vs fun z hz => hv z (by simp [Tg.slots] at hz ⊢; simp [hz]), w1 vs fun z hz => hv z (by simp [Tg.slots] at hz ⊢; simp [hz])]
  | _ => cases hp

/-! ### what is walked -/
/-- J walks as src says, from here on -/
def SrcIs (J : It) (src : Src) (ms : Cells) (H : Hp) : Prop := ∀ ms' H' S' i, Tr ms H ms' H' → RpS H' ms' S' → match src.at i S' with
  | none => True
  | some none => J.stop i H'
  | some (some x) => J.go i H' ∧ ∀ v H'', J.yld i H' v H'' → (∀ b o, H' b = some o → H'' b = some o) ∧ RpS H'' ms' S' ∧ Rp H'' ms' v x
theorem sqL_val {K : PySem.W.Frag} {H : Hp} {a : Addr} {xs : List V} (h : H a = some (.lst xs)) : SqL K H a xs := SqL.of h
theorem src_list {K : PySem.W.Frag} {H : Hp} {ms : Cells} {a : Addr} {xs : List V} {ds : List PyData} (h : H a = some (.lst xs)) (n : ¬ ms.has a) (r : Rps H ms xs ds) : SrcIs (Itl K a) (.cst ds) ms H := by
  intro ms' H' S' i t rs
  have h' := (t.keep _ _ n (by first | exact nt_lst | exact nt_tup | exact nt_frz) h).1
  have r' := r.tr t
  show match some (ds[i]?) with | none => True | some none => _ | some (some x) => _
  cases e : ds[i]? with
  | none =>
    refine ⟨xs, SqL.of h', ?_⟩
    rw [r.len]; exact List.getElem?_eq_none_iff.mp e
  | some x =>
    obtain ⟨v, q1, q2⟩ := r'.get e
    refine ⟨⟨xs, v, SqL.of h', q1⟩, fun u H'' ⟨eq, y⟩ => ?_⟩
    subst eq
    have := y xs (SqL.of h')
    rw [q1] at this; cases this
    exact ⟨fun _ _ q => q, rs, q2⟩
theorem src_tup {K : PySem.W.Frag} {H : Hp} {ms : Cells} {a : Addr} {xs : List V} {ds : List PyData} (h : H a = some (.tup xs)) (n : ¬ ms.has a) (r : Rps H ms xs ds) : SrcIs (Itt K a) (.cst ds) ms H := by
  intro ms' H' S' i t rs
  have h' := (t.keep _ _ n (by first | exact nt_lst | exact nt_tup | exact nt_frz) h).1
  have r' := r.tr t
  show match some (ds[i]?) with | none => True | some none => _ | some (some x) => _
  cases e : ds[i]? with
  | none =>
    refine ⟨xs, SqT.of h', ?_⟩
    rw [r.len]; exact List.getElem?_eq_none_iff.mp e
  | some x =>
    obtain ⟨v, q1, q2⟩ := r'.get e
    refine ⟨⟨xs, v, SqT.of h', q1⟩, fun u H'' ⟨eq, y⟩ => ?_⟩
    subst eq
    have := y xs (SqT.of h')
    rw [q1] at this; cases this
    exact ⟨fun _ _ q => q, rs, q2⟩
theorem src_cell {K : PySem.W.Frag} {H : Hp} {ms : Cells} {a : Addr} {k : Nat} (h : ms.ix[k]? = some a) (hpl : ms.plain a) : SrcIs (Itl K a) (.cel k) ms H := by
  intro ms' H' S' i t rs
  have hk : ms'.ix[k]? = some a := by
    obtain ⟨u, hu⟩ := t.pre
    rw [← hu, List.getElem?_append_left (List.getElem?_eq_some_iff.mp h).1]; exact h
  show match (match S'[k]? with | none => none | some ds => some ds[i]? : Option (Option PyData)) with | none => True | some none => _ | some (some x) => _
  cases e0 : S'[k]? with
  | none => trivial
  | some ds =>
    obtain ⟨xs, h', hl, r'⟩ := rs.cell k a ds hk (t.kd.2 a (List.mem_of_getElem? h) hpl) e0
    dsimp only
    cases e : ds[i]? with
    | none =>
      refine ⟨xs, SqL.of h', ?_⟩
      rw [r'.len]; exact List.getElem?_eq_none_iff.mp e
    | some x =>
      obtain ⟨v, q1, q2⟩ := r'.get e
      refine ⟨⟨xs, v, SqL.of h', q1⟩, fun u H'' ⟨eq, y⟩ => ?_⟩
      subst eq
      have := y xs (SqL.of h')
      rw [q1] at this; cases this
      exact ⟨fun _ _ q => q, rs, q2⟩
theorem rngL_get (lo : Int) (n i : Nat) : (rngL lo n)[i]? = if i < n then some (.int (lo + (i : Nat))) else none := by
  unfold rngL
  rw [List.getElem?_map]
  by_cases h : i < n
  · rw [if_pos h, List.getElem?_range h]; rfl
  · rw [if_neg h, List.getElem?_eq_none (by simpa using h)]; rfl
theorem src_rng {H : Hp} {ms : Cells} (lo : Int) (n : Nat) : SrcIs (Itr lo n) (.cst (rngL lo n)) ms H := by
  intro ms' H' S' i t rs
  show match some ((rngL lo n)[i]?) with | none => True | some none => _ | some (some x) => _
  rw [rngL_get]
  by_cases h : i < n
  · rw [if_pos h]
    refine ⟨h, fun v H'' ⟨e1, e2⟩ => ?_⟩
    subst e1 e2
    exact ⟨fun _ _ q => q, rs, .int _⟩
  · rw [if_neg h]; exact Nat.le_of_not_lt h
theorem pair_yld {H' : Hp} {ms' : Cells} {S' : Sto} {T : Addr} {u v : V} {x y : PyData} (rs : RpS H' ms' S') (hT : H' T = none) (hu : Rp H' ms' u x) (hv : Rp H' ms' v y) :
    (∀ b o, H' b = some o → upd H' T (.tup [u, v]) b = some o) ∧ RpS (upd H' T (.tup [u, v])) ms' S' ∧ Rp (upd H' T (.tup [u, v])) ms' (.ref T) (.tuple [x, y]) :=
  ⟨fun b o q => by rw [upd_ne (ne_of_none q hT)]; exact q, rs.laid hT, .tup upd_same (rs.notin hT) (show 2 ≤ line by decide) (.cons (hu.ext (Ext.laid hT)) (.cons (hv.ext (Ext.laid hT)) .nil))⟩
theorem zipD_get (xs ys : List PyData) (i : Nat) : (zipD xs ys)[i]? = match xs[i]?, ys[i]? with | some x, some y => some (.tuple [x, y]) | _, _ => none := by
  unfold zipD
  rw [List.getElem?_map]
  cases e1 : xs[i]? with
  | none => simp [List.zip, List.getElem?_zipWith, e1]
  | some x =>
    cases e2 : ys[i]? with
    | none => simp [List.zip, List.getElem?_zipWith, e1, e2]
    | some y => simp [List.zip, List.getElem?_zipWith, e1, e2]
end
end Qv

/-! Snd5 -/
set_option maxHeartbeats 0
/-! What is walked, comprehensions. -/
namespace Qv
open PySem PySem.Spec PyProof.Rows L2

section
variable {X : Cx} {mg : Str → Option Value} {E : XK} {Γ : Fns} {a b c e : Expr} {ia ib ic : IE} {pos p : Pos} {es : List Expr} {ies : IEs}
theorem zip_none {K : PySem.W.Frag} {H : Hp} {xs ys : List V} {ds es : List PyData} {ms : Cells} {i : Nat} (r : Rps H ms xs ds) (q : Rps H ms ys es) (h : (zipD ds es)[i]? = none) : xs.length ≤ i ∨ ys.length ≤ i := by
  rw [zipD_get] at h
  cases e1 : ds[i]? with
  | none => left; rw [r.len]; exact List.getElem?_eq_none_iff.mp e1
  | some x =>
    cases e2 : es[i]? with
    | none => right; rw [q.len]; exact List.getElem?_eq_none_iff.mp e2
    | some y => rw [e1, e2] at h; cases h
theorem zip_some {ds es : List PyData} {i : Nat} {x : PyData} (h : (zipD ds es)[i]? = some x) : ∃ u v, ds[i]? = some u ∧ es[i]? = some v ∧ x = .tuple [u, v] := by
  rw [zipD_get] at h
  cases e1 : ds[i]? with
  | none => rw [e1] at h; cases h
  | some u =>
    cases e2 : es[i]? with
    | none => rw [e1, e2] at h; cases h
    | some v => rw [e1, e2] at h; exact ⟨u, v, rfl, rfl, (Option.some.inj h).symm⟩
theorem src_zipL {K : PySem.W.Frag} {H : Hp} {ms : Cells} {a b : Addr} {xs ys : List V} {ds es : List PyData} (h : H a = some (.lst xs)) (n : ¬ ms.has a) (r : Rps H ms xs ds) (h2 : H b = some (.lst ys)) (n2 : ¬ ms.has b) (r2 : Rps H ms ys es) : SrcIs (Itz K a b) (.cst (zipD ds es)) ms H := by
  intro ms' H' S' i t rs
  have h' := (t.keep _ _ n (by first | exact nt_lst | exact nt_tup | exact nt_frz) h).1
  have h2' := (t.keep _ _ n2 (by first | exact nt_lst | exact nt_tup | exact nt_frz) h2).1
  have r' := r.tr t
  have r2' := r2.tr t
  show match some ((zipD ds es)[i]?) with | none => True | some none => _ | some (some x) => _
  cases e : (zipD ds es)[i]? with
  | none => exact ⟨xs, ys, SqL.of h', SqL.of h2', zip_none (K := K) r r2 e⟩
  | some x =>
    obtain ⟨u, v, k1, k2, rfl⟩ := zip_some e
    obtain ⟨vu, q1, q2⟩ := r'.get k1
    obtain ⟨vv, g1, g2⟩ := r2'.get k2
    refine ⟨⟨xs, ys, vu, vv, SqL.of h', SqL.of h2', q1, g1⟩, fun w H'' ⟨T, x', y', e1, hT, e2, f1, f2⟩ => ?_⟩
    have z1 := f1 xs (SqL.of h')
    have z2 := f2 ys (SqL.of h2')
    rw [q1] at z1; cases z1
    rw [g1] at z2; cases z2
    subst e1 e2
    exact pair_yld rs hT q2 g2
theorem src_zipT {K : PySem.W.Frag} {H : Hp} {ms : Cells} {a b : Addr} {xs ys : List V} {ds es : List PyData} (h : H a = some (.tup xs)) (n : ¬ ms.has a) (r : Rps H ms xs ds) (h2 : H b = some (.tup ys)) (n2 : ¬ ms.has b) (r2 : Rps H ms ys es) : SrcIs (RZ.ItzT K a b) (.cst (zipD ds es)) ms H := by
  intro ms' H' S' i t rs
  have h' := (t.keep _ _ n (by first | exact nt_lst | exact nt_tup | exact nt_frz) h).1
  have h2' := (t.keep _ _ n2 (by first | exact nt_lst | exact nt_tup | exact nt_frz) h2).1
  have r' := r.tr t
  have r2' := r2.tr t
  show match some ((zipD ds es)[i]?) with | none => True | some none => _ | some (some x) => _
  cases e : (zipD ds es)[i]? with
  | none => exact ⟨xs, ys, SqT.of h', SqT.of h2', zip_none (K := K) r r2 e⟩
  | some x =>
    obtain ⟨u, v, k1, k2, rfl⟩ := zip_some e
    obtain ⟨vu, q1, q2⟩ := r'.get k1
    obtain ⟨vv, g1, g2⟩ := r2'.get k2
    refine ⟨⟨xs, ys, vu, vv, SqT.of h', SqT.of h2', q1, g1⟩, fun w H'' ⟨T, x', y', e1, hT, e2, f1, f2⟩ => ?_⟩
    have z1 := f1 xs (SqT.of h')
    have z2 := f2 ys (SqT.of h2')
    rw [q1] at z1; cases z1
    rw [g1] at z2; cases z2
    subst e1 e2
    exact pair_yld rs hT q2 g2
theorem src_enm {K : PySem.W.Frag} {H : Hp} {ms : Cells} {a : Addr} {xs : List V} {ds : List PyData} (h : H a = some (.lst xs)) (n : ¬ ms.has a) (r : Rps H ms xs ds) : SrcIs (Ite K a) (.cst (enmD ds)) ms H := by
  intro ms' H' S' i t rs
  have h' := (t.keep _ _ n (by first | exact nt_lst | exact nt_tup | exact nt_frz) h).1
  have r' := r.tr t
  show match some ((enmD ds)[i]?) with | none => True | some none => _ | some (some x) => _
  have e0 : (enmD ds)[i]? = (ds[i]?).map fun x => .tuple [.int (i : Nat), x] := by
    unfold enmD; rw [List.getElem?_mapIdx]
  rw [e0]
  cases e : ds[i]? with
  | none =>
    refine ⟨xs, SqL.of h', ?_⟩
    rw [r.len]; exact List.getElem?_eq_none_iff.mp e
  | some x =>
    obtain ⟨v, q1, q2⟩ := r'.get e
    refine ⟨⟨xs, v, SqL.of h', q1⟩, fun w H'' ⟨T, x', e1, hT, e2, f1⟩ => ?_⟩
    have z1 := f1 xs (SqL.of h')
    rw [q1] at z1; cases z1
    subst e1 e2
    exact pair_yld rs hT (.int _) q2

/-- the reading of what is walked -/
def tI (K : PySem.W.Frag) (mg : Str → Option Value) (E : XK) (Γ : Fns) (it : IT) : TI := fun σ H R =>
  ∃ ms ρ S, RpE K H ms σ ρ ∧ RpS H ms S ∧ PostG mg E ms H (fun src ms' H' => ∀ J, SrcIs J src ms' H' → R J H') (evi Γ it ρ S)
abbrev SI (X : Cx) (mg : Str → Option Value) (E : XK) (Γ : Fns) (tg e : Expr) (it : IT) : Prop := PI X tg e (tI X.K mg E Γ it)
theorem si_seq {tg : Expr} (ha : SE X mg E Γ a ia) : SI X mg E Γ tg a (.seq ia) := by
  refine ⟨fun pins s σ H R I ⟨ms, ρ, S, he, hs, hp⟩ => ?_⟩
  have hq := PostG.bnd (m := ev Γ ia ρ) (f := srcOf) hp
  cases e : ev Γ ia ρ S with
  | none => rw [e] at hq; exact hq.elim
  | some r =>
    rw [e] at hq
    cases r with
    | ex x S1 => exact (pi_list (tg := tg) ha).run pins s σ H R I ⟨ms, ρ, S, he, hs, by rw [e]; exact hq⟩
    | ok w S1 =>
      have dead : (srcOf w = M.no) → False := fun z => by
        have := hq ms H (Ext.refl _ _)
        rw [z] at this
        exact this
      cases w with
      | scr ns => exact (dead rfl).elim
      | f ns => exact (dead rfl).elim
      | c κ k => exact (dead rfl).elim
      | xo k => exact (dead rfl).elim
      | xl k => exact (dead rfl).elim
      | m k =>
        refine (pi_list (tg := tg) ha).run pins s σ H R I ⟨ms, ρ, S, he, hs, by
          rw [e]
          intro ms1 H1 e1 r1 v hv
          cases hv with
          | @m aa _ hk hpl =>
            have hl : k < S1.length := by rw [← r1.len]; exact (List.getElem?_eq_some_iff.mp hk).1
            obtain ⟨xs, g, _⟩ := r1.cell k aa S1[k] hk hpl (by simp [hl])
            exact ⟨aa, rfl, ⟨xs, SqL.of g⟩, (hq ms1 H1 e1).ret r1 _ (src_cell hk hpl)⟩⟩
      | d x =>
        cases x with
        | list ds =>
          refine (pi_list (tg := tg) ha).run pins s σ H R I ⟨ms, ρ, S, he, hs, by
            rw [e]
            intro ms1 H1 e1 r1 v hv
            cases hv with
            | d hv =>
              obtain ⟨aa, xs, rfl, g1, g2, g3, g4⟩ := hv.lstInv
              exact ⟨aa, rfl, ⟨xs, SqL.of g1⟩, (hq ms1 H1 e1).ret r1 _ (src_list g1 g2 g4)⟩⟩
        | tuple ds =>
          refine (pi_tup (tg := tg) ha).run pins s σ H R I ⟨ms, ρ, S, he, hs, by
            rw [e]
            intro ms1 H1 e1 r1 v hv
            cases hv with
            | d hv =>
              obtain ⟨aa, xs, rfl, g1, g2, g3, g4⟩ := hv.tupInv
              exact ⟨aa, rfl, ⟨xs, SqT.of g1⟩, (hq ms1 H1 e1).ret r1 _ (src_tup g1 g2 g4)⟩⟩
        | _ => exact (dead rfl).elim
theorem pi_imp {tg : Expr} {t t' : TI} (h : PI X tg e t) (hi : ∀ σ H Q, t' σ H Q → t σ H Q) : PI X tg e t' := ⟨fun pins s σ H R I q => h.run pins s σ H R I (hi σ H R q)⟩
theorem PostG.ite {α : Type} {ms : Cells} {H : Hp} {S : Sto} {c : Prop} [Decidable c] {m : M α} {Kk : α → Cells → Hp → Prop} (h : PostG mg E ms H Kk ((if c then m else M.no : M α) S)) : c ∧ PostG mg E ms H Kk (m S) := by
  by_cases hc : c
  · rw [if_pos hc] at h; exact ⟨hc, h⟩
  · rw [if_neg hc] at h; exact h.elim
theorem si_rng1 {tg : Expr} (hg : Gl X "range") (hm : X.mg "range" = none) (ha : SE X mg E Γ a ia) (h1 : starEach [a] X.env = [(false, eval a X.env)] := by rfl) : SI X mg E Γ tg (.Call (.Name "range" p) [a] [] pos) (.rng1 ia) := by
  refine pi_imp (pi_range1 hg hm (pa_cons ha pa_nil h1) h1) fun σ H R ⟨ms, ρ, S, he, hs, hp⟩ => ?_
  refine ⟨ms, ρ, S, he, hs, PostG.part (f := fun w => (asInt w).bnd fun n => if rngOk 0 n then M.ret (Src.cst (rngL 0 n.toNat)) else M.no) hp fun w S1 ms1 H1 _ e1 r1 h2 v hv => ?_⟩
  obtain ⟨n, rfl, h3⟩ := h2.int
  obtain ⟨hok, h4⟩ := h3.ite
  cases hv with
  | d hv => cases hv; exact ⟨n, rfl, hok.2.2.1, hok.2.2.2, h4.ret r1 _ (src_rng 0 n.toNat)⟩
theorem si_rng2 {tg : Expr} (hg : Gl X "range") (hm : X.mg "range" = none) (ha : SE X mg E Γ a ia) (hb : SE X mg E Γ b ib) (h1 : starEach [a, b] X.env = [(false, eval a X.env), (false, eval b X.env)] := by rfl) (h2 : starEach [b] X.env = [(false, eval b X.env)] := by rfl) : SI X mg E Γ tg (.Call (.Name "range" p) [a, b] [] pos) (.rng2 ia ib) := by
  refine pi_imp (pi_range2 hg hm (pa_cons ha (pa_cons hb pa_nil h2) (by rw [h1, h2])) h1 h2) fun σ H R ⟨ms, ρ, S, he, hs, hp⟩ => ?_
  refine ⟨ms, ρ, S, he, hs, PostG.part (f := fun x => (ev Γ ib ρ).bnd fun y => (asInt x).bnd fun i => (asInt y).bnd fun j => if rngOk i j then M.ret (Src.cst (rngL i (j - i).toNat)) else M.no) hp fun w S1 ms1 H1 _ e1 r1 h3 v hv => ?_⟩
  refine ⟨ms1, ρ, S1, he.ext e1, r1, h3.part fun w2 S2 ms2 H2 _ e2 r2 h4 v2 hv2 => ?_⟩
  obtain ⟨i, rfl, h5⟩ := h4.int
  obtain ⟨j, rfl, h6⟩ := h5.int
  obtain ⟨hok, h7⟩ := h6.ite
  cases hv with
  | d hv =>
    cases hv
    cases hv2 with
    | d hv2 => cases hv2; exact ⟨i, j, rfl, hok, h7.ret r2 _ (src_rng i _)⟩
theorem si_zip {elts : List Expr} {kk : Nat} {tpos : Pos} (hg : Gl X "zip") (hm : X.mg "zip" = none) (ha : SE X mg E Γ a ia) (hb : SE X mg E Γ b ib) (h1 : starEach [a, b] X.env = (false, eval a X.env) :: starEach [b] X.env := by rfl) (h2 : starEach [b] X.env = (false, eval b X.env) :: starEach [] X.env := by rfl) (hpl : (backTo pos (starEach [b] X.env)).any (·.1) = false := by rfl) : SI X mg E Γ (.Tuple elts kk tpos) (.Call (.Name "zip" p) [a, b] [] pos) (.zip ia ib) := by
  refine pi_imp (RZ.pi_zipA hg hm (pa_cons ha (pa_cons hb pa_nil h2) h1) h1 hpl) fun σ H R ⟨ms, ρ, S, he, hs, hp⟩ => ?_
  refine ⟨ms, ρ, S, he, hs, PostG.part (f := fun x => (ev Γ ib ρ).bnd fun y => (asData x).bnd fun dx => (asData y).bnd fun dy => zipOf dx dy) hp fun w S1 ms1 H1 _ e1 r1 h3 v hv => ?_⟩
  refine ⟨ms1, ρ, S1, he.ext e1, r1, h3.part fun w2 S2 ms2 H2 _ e2 r2 h4 v2 hv2 => ?_⟩
  obtain ⟨dx, rfl, h5⟩ := h4.data
  obtain ⟨dy, rfl, h6⟩ := h5.data
  cases hv.ext e2 with
  | d hv =>
    cases hv2 with
    | d hv2 =>
      unfold zipOf at h6
      split at h6
      · obtain ⟨q1, xs, rfl, g1, g2, g3, g4⟩ := hv.lstInv
        obtain ⟨q2, ys, rfl, k1, k2, k3, k4⟩ := hv2.lstInv
        exact ⟨q1, q2, xs, ys, rfl, .inl ⟨SqL.of g1, SqL.of k1, h6.ret r2 _ (src_zipL g1 g2 g4 k1 k2 k4)⟩⟩
      · obtain ⟨q1, xs, rfl, g1, g2, g3, g4⟩ := hv.tupInv
        obtain ⟨q2, ys, rfl, k1, k2, k3, k4⟩ := hv2.tupInv
        exact ⟨q1, q2, xs, ys, rfl, .inr ⟨SqT.of g1, SqT.of k1, h6.ret r2 _ (src_zipT g1 g2 g4 k1 k2 k4)⟩⟩
      · exact h6.elim
theorem si_enm {elts : List Expr} {kk : Nat} {tpos : Pos} (hg : Gl X "enumerate") (hm : X.mg "enumerate" = none) (ha : SE X mg E Γ a ia) (h1 : starEach [a] X.env = [(false, eval a X.env)] := by rfl) : SI X mg E Γ (.Tuple elts kk tpos) (.Call (.Name "enumerate" p) [a] [] pos) (.enm ia) := by
  refine pi_imp (pi_enum hg hm (pa_cons ha pa_nil h1) h1) fun σ H R ⟨ms, ρ, S, he, hs, hp⟩ => ?_
  refine ⟨ms, ρ, S, he, hs, PostG.part (f := fun x => (asData x).bnd fun dx => enmOf dx) hp fun w S1 ms1 H1 _ e1 r1 h3 v hv => ?_⟩
  obtain ⟨dx, rfl, h5⟩ := h3.data
  cases hv with
  | d hv =>
    unfold enmOf at h5
    split at h5
    · obtain ⟨q1, xs, rfl, g1, g2, g3, g4⟩ := hv.lstInv
      exact ⟨q1, xs, rfl, SqL.of g1, h5.ret r1 _ (src_enm g1 g2 g4)⟩
    · exact h5.elim

/-! ### a list in the making -/
def Cells.hide (ms : Cells) (D : Addr) : Cells := ⟨ms.ix, D :: ms.hid, ms.tb, ms.kd⟩
section
variable {K : PySem.W.Frag} {ms ms1 ms' : Cells} {H H1 H' : Hp} {D : Addr} {o : HO} {S : Sto} {σ : L2.St} {ρ : Env}
theorem hide_has {b : Addr} : (ms.hide D).has b ↔ ms.has b ∨ b = D := by
  unfold Cells.has Cells.hide
  simp only [List.mem_cons]
  constructor
  · rintro (h | h | h)
    · exact .inl (.inl h)
    · exact .inr h
    · exact .inl (.inr h)
  · rintro ((h | h) | h)
    · exact .inl h
    · exact .inr (.inr h)
    · exact .inr (.inl h)
theorem tr_hide (h : H D = none) : Tr ms H (ms.hide D) (upd H D o) := ⟨List.prefix_refl _, rfl, KdE.refl _, fun b u n _ q => ⟨by rw [upd_ne (ne_of_none q h)]; exact q, fun z => (hide_has.mp z).elim n (ne_of_none q h)⟩⟩
theorem tr_show : Tr (ms.hide D) H ms H := ⟨List.prefix_refl _, rfl, KdE.refl _, fun b u n _ q => ⟨q, fun z => n (hide_has.mpr (.inl z))⟩⟩
theorem tr_upd : Tr (ms.hide D) H (ms.hide D) (upd H D o) := ⟨List.prefix_refl _, rfl, KdE.refl _, fun b u n _ q => ⟨by rw [upd_ne fun z => n (hide_has.mpr (.inr z))]; exact q, n⟩⟩
theorem rps_hide (no : NoTb o) (r : RpS H ms S) (h : H D = none) : RpS (upd H D o) (ms.hide D) S := by
  have r' := r.laid (o := o) h
  refine ⟨r.len, r.nd, fun b hb => ?_, fun k a ds h1 h2 => ?_, r'.tabs, r.kin⟩
  · rcases List.mem_cons.mp hb with e | hb
    · subst e; exact ⟨fun z => r.notin h (.inl z), o, no, upd_same⟩
    · exact r'.hd b hb
  · obtain ⟨_, _, _, q1⟩ := r.at_ (List.mem_of_getElem? h1)
    exact (r.cells k a ds h1 h2).tr (tr_hide h) rfl (upd_ne (ne_of_none q1 h))
theorem rps_show (r : RpS H (ms.hide D) S) : RpS H ms S := ⟨r.len, r.nd, fun b hb => r.hd b (List.mem_cons_of_mem _ hb), fun k a ds h1 h2 => (r.cells k a ds h1 h2).tr tr_show rfl rfl, r.tabs, r.kin⟩
theorem rps_upd {xs : List V} (no : NoTb o) (r : RpS H (ms.hide D) S) (hD : H D = some (.lst xs)) : RpS (upd H D o) (ms.hide D) S := by
  have nD := (r.hd D List.mem_cons_self).1
  refine ⟨r.len, r.nd, fun b hb => ?_, fun k a ds h1 h2 => ?_, tabs_upd r.tabs hD, r.kin⟩
  · obtain ⟨q1, u, q0, q2⟩ := r.hd b hb
    refine ⟨q1, ?_⟩
    by_cases e : b = D
    · subst e; exact ⟨o, no, upd_same⟩
    · exact ⟨u, q0, by rw [upd_ne e]; exact q2⟩
  · exact (r.cells k a ds h1 h2).tr tr_upd rfl (upd_ne fun z => nD (by rw [← z]; exact List.mem_of_getElem? h1))
/-- what has gone on within, seen from without -/
theorem ext_out (no : NoTb o) (e : Ext ms1 H1 ms H) (e2 : Ext (ms.hide D) H ms' H') (h : H1 D = none) : Ext ms1 H1 ⟨ms'.ix, ms1.hid, ms1.tb, ms'.kd⟩ (upd H' D o) where
  pre := e.pre.trans e2.pre
  hid := rfl
  tb := rfl
  kd := ⟨fun p h => e2.kd.1 p (e.kd.1 p h), fun a ha h => e2.kd.2 a (e.pre.subset ha) (e.kd.2 a ha h)⟩
  keep := fun b u n nt q => by
    rw [upd_ne (ne_of_none q h)]
    refine e2.keep b u (fun z => ?_) nt (e.keep b u n nt q)
    rcases e.new b z with z | z
    · exact n z
    · exact z u nt q
  stay := fun b u nt q => by
    by_cases z : b = D
    · subst z; exact ⟨o, no, upd_same⟩
    · obtain ⟨u1, n1, q1⟩ := e.stay b u nt q
      obtain ⟨u2, n2, q2⟩ := e2.stay b u1 n1 q1
      exact ⟨u2, n2, by rw [upd_ne z]; exact q2⟩
  new := fun b hb => by
    rcases e2.new b hb with z | z
    · exact e.new b z
    · by_cases q : b ∈ ms1.ix
      · exact .inl q
      · refine .inr fun u nt k => ?_
        obtain ⟨u2, n2, k2⟩ := e.stay b u nt k
        exact z u2 n2 k2
end
/-- the reading of an optional test -/
def tV (K : PySem.W.Frag) (mg : Str → Option Value) (E : XK) (Γ : Fns) (io : IO) : TT := fun σ H Q =>
  ∃ ms ρ S, RpE K H ms σ ρ ∧ RpS H ms S ∧ PostG mg E ms H (fun b _ H' => Q b H') (evt Γ io ρ S)
theorem sv_no : PTs X [] (tV X.K mg E Γ .no) := ⟨fun pins s σ H Q I ⟨ms, ρ, S, he, hs, hp⟩ => pts_nil.run pins s σ H Q I (PostG.ret hs hp)⟩
theorem sv_so (h : ST X mg E Γ c ic) : PTs X [c] (tV X.K mg E Γ (.so ic)) := ⟨fun pins s σ H Q I q => (pts_one h).run pins s σ H Q I q⟩
/-- one turn's work -/
def lcF (Γ : Fns) (ρ : Env) (own : List Nat) (g : Tg) (t : IO) (ie : IE) : PyData → M (Option PyData) := fun x => (M.opt (put g x (Qv.wipe ρ own))).bnd fun ρ' => (evt Γ t ρ').bnd fun b =>
  if b = true then (ev Γ ie ρ').bnd fun w => (asData w).bnd fun y => M.ret (some y) else M.ret none
theorem lcF_inv {Γ : Fns} {ρ : Env} {own : List Nat} {g : Tg} {t : IO} {ie : IE} {x : PyData} {S S' : Sto} {o : Option PyData} (h : lcF Γ ρ own g t ie x S = some (.ok o S')) :
    ∃ ρ' b S3, put g x (Qv.wipe ρ own) = some ρ' ∧ evt Γ t ρ' S = some (.ok b S3) ∧ (b = true → ∃ y, ev Γ ie ρ' S3 = some (.ok (.d y) S') ∧ o = some y) ∧ (b = false → o = none ∧ S' = S3) := by
  unfold lcF at h
  cases e1 : put g x (Qv.wipe ρ own) with
  | none => rw [e1] at h; cases h
  | some ρ' =>
    rw [e1] at h
    have h : ((evt Γ t ρ').bnd fun b => if b = true then (ev Γ ie ρ').bnd fun w => (asData w).bnd fun y => M.ret (some y) else M.ret none) S = some (.ok o S') := h
    unfold M.bnd at h
    cases e2 : evt Γ t ρ' S with
    | none => rw [e2] at h; cases h
    | some r =>
      rw [e2] at h
      cases r with
      | ex _ _ => cases h
      | ok b S3 =>
        dsimp only at h
        refine ⟨ρ', b, S3, rfl, e2, fun hb => ?_, fun hb => ?_⟩
        · subst hb
          rw [if_pos rfl] at h
          cases e3 : ev Γ ie ρ' S3 with
          | none => rw [e3] at h; cases h
          | some r =>
            rw [e3] at h
            cases r with
            | ex _ _ => cases h
            | ok w S4 =>
              cases w with
              | d y => cases h; exact ⟨y, rfl, rfl⟩
              | m k => cases h
              | scr k => cases h
              | c κ k => cases h
              | xo k => cases h
              | xl k => cases h
              | f k => cases h
        · subst hb
          rw [if_neg Bool.false_ne_true] at h
          cases h; exact ⟨rfl, rfl⟩
def lcG (src : Src) (F : PyData → M (Option PyData)) (m i : Nat) (ds : List PyData) : M W := (lcLoop src F m i ds).bnd fun ds => M.ret (W.d (.list ds))
theorem lcLoop_step {src : Src} {F : PyData → M (Option PyData)} {m i : Nat} {ds : List PyData} {s : Sto} : lcLoop src F (m + 1) i ds s = match src.at i s with
    | none => none
    | some none => some (.ok ds s)
    | some (some x) => match F x s with
      | none => none
      | some (.ex _ _) => none
      | some (.ok none s') => lcLoop src F m (i + 1) ds s'
      | some (.ok (some y) s') => if ds.length < line then lcLoop src F m (i + 1) (ds ++ [y]) s' else none := rfl
theorem lc_read {it : IT} {own : List Nat} {g : Tg} {t : IO} {ie : IE} {K : PySem.W.Frag} {σ : L2.St} {H : Hp} {Q : VK} (hg : ∀ i ∈ g.slots, i ∈ own) (h : tE K mg E Γ (.lc own g it t ie) σ H Q) :
    tLc (tI K mg E Γ it) (tG K g) (tV K mg E0 Γ t) (tE K mg E0 Γ ie) own σ H Q := by
  obtain ⟨ms, ρ, S, he, hs, hp⟩ := h
  refine ⟨ms, ρ, S, he, hs, PostG.part (f := fun src => fun s => (lcLoop src (lcF Γ ρ own g t ie) (src.len s + 1) 0 []).bnd (fun ds => M.ret (W.d (.list ds))) s) hp fun src S1 ms1 H1 _ e1 r1 h1 J hJ D hD => ?_⟩
  have he1 := he.ext e1
  -- the state between two turns
  let Wt : Nat → Nat → Hp → Prop := fun i m H' => ∃ ms' acc ds S', Ext ms1 H1 ms' H' ∧ RpS H' (ms'.hide D) S' ∧ H' D = some (.lst acc) ∧ acc.length ≤ line ∧ Rps H' (ms'.hide D) acc ds ∧
    PostG mg E ms1 H1 (fun w ms'' H'' => ∀ v, RpW K H'' ms'' v w → Q v H'') (lcG src (lcF Γ ρ own g t ie) m i ds S')
  refine ⟨Wt, ⟨src.len S1 + 1, ms1, [], [], S1, Ext.laid hD, rps_hide nt_lst r1 hD, upd_same, Nat.zero_le _, .nil, h1⟩, ?_⟩
  rintro i m H' ⟨ms', acc, ds, S', x1, x2, x3, x4, x5, x6⟩
  cases m with
  | zero => exact x6.elim
  | succ m =>
    have nD : ¬ ms'.has D := fun z => by
      rcases z with z | z
      · exact (x2.hd D List.mem_cons_self).1 z
      · rw [x1.hid] at z
        obtain ⟨_, u, _, q⟩ := r1.hd D z
        rw [hD] at q; cases q
    have trJ : Tr ms1 H1 (ms'.hide D) H' := ⟨x1.pre, x1.tb, x1.kd, fun b u n nt q => ⟨(x1.tr.keep b u n nt q).1, fun z => (hide_has.mp z).elim (x1.tr.keep b u n nt q).2 (ne_of_none q hD)⟩⟩
    have hj := hJ (ms'.hide D) H' S' i trJ x2
    unfold lcG M.bnd at x6
    rw [lcLoop_step] at x6
    cases ea : src.at i S' with
    | none => rw [ea] at x6; exact x6.elim
    | some ox =>
      cases ox with
      | none =>
        rw [ea] at hj x6
        exact .inl ⟨hj, x6 ms' H' x1 (rps_show x2) _ (.d (.lst x3 nD x4 (x5.tr tr_show)))⟩
      | some x =>
        rw [ea] at hj x6
        obtain ⟨hgo, hy⟩ := hj
        refine .inr ⟨hgo, fun H5 => Wt (i + 1) m H5, fun H5 w => ⟨m, Nat.lt_succ_self m, w⟩, fun v H2 yv => ?_⟩
        obtain ⟨y1, y2, y3⟩ := hy v H2 yv
        have ey : Ext (ms'.hide D) H' (ms'.hide D) H2 := Ext.all y1
        dsimp only at x6
        cases ef : lcF Γ ρ own g t ie x S' with
        | none => rw [ef] at x6; exact x6.elim
        | some r =>
          rw [ef] at x6
          cases r with
          | ex _ _ => exact x6.elim
          | ok o S'' =>
            obtain ⟨ρ', b, S3, f1, f2, f3, f4⟩ := lcF_inv ef
            have heB : RpE K H2 (ms'.hide D) (L2.wipe σ own) (Qv.wipe ρ own) := (RpE.tr (Tr.trans trJ ey.tr) he1).wipe own
            refine ⟨ms'.hide D, Qv.wipe ρ own, x, ρ', heB, y3, f1, fun σ2 hσ2 w2 => ⟨by rw [w2 own hg, wipe_idem], ?_⟩⟩
            refine ⟨ms'.hide D, ρ', S', hσ2, y2, ?_⟩
            rw [f2]
            intro ms3 H3 e3 r3
            -- the cells behind a turn, D apart
            have back : ∀ {ms4 : Cells} {H4 : Hp}, Ext (ms'.hide D) H' ms4 H4 → ms4 = (⟨ms4.ix, ms1.hid, ms1.tb, ms4.kd⟩ : Cells).hide D := fun {ms4 H4} eA => by
              have htb : ms4.tb = ms1.tb := eA.tb.trans x1.tb
              have : ms4.hid = D :: ms1.hid := by rw [eA.hid]; show D :: ms'.hid = _; rw [x1.hid]
              cases ms4
              simp only at this htb
              subst this htb; rfl
            cases b with
            | true =>
              refine iteT ?_
              obtain ⟨y, g1, rfl⟩ := f3 rfl
              refine ⟨ms3, ρ', S3, hσ2.ext e3, r3, ?_⟩
              rw [g1]
              intro ms4 H4 e4 r4 u hu
              have eA : Ext (ms'.hide D) H' ms4 H4 := (ey.trans e3).trans e4
              have hD4 : H4 D = some (.lst acc) := eA.keep D _ (x2.hd D List.mem_cons_self).1 nt_lst x3
              have h4 := back eA
              cases hu with
              | d hu =>
                dsimp only at x6
                by_cases hl : ds.length < line
                · rw [if_pos hl] at x6
                  have hal : acc.length < line := by rw [x5.len]; exact hl
                  refine ⟨acc, hD4, by rw [← line_eq]; exact hal, ⟨ms4.ix, ms1.hid, ms1.tb, ms4.kd⟩, acc ++ [u], ds ++ [y], S'', ext_out nt_lst x1 eA hD, ?_, upd_same, by rw [List.length_append]; exact hal, ?_, x6⟩
                  · rw [h4] at r4; exact rps_upd nt_lst r4 hD4
                  · have q1 : Rps H4 ms4 (acc ++ [u]) (ds ++ [y]) := (x5.ext eA).app (.cons hu .nil)
                    rw [h4] at q1
                    exact q1.tr tr_upd
                · rw [if_neg hl] at x6; exact x6.elim
            | false =>
              refine iteF ?_
              obtain ⟨rfl, rfl⟩ := f4 rfl
              have eA : Ext (ms'.hide D) H' ms3 H3 := ey.trans e3
              have hD4 : H3 D = some (.lst acc) := eA.keep D _ (x2.hd D List.mem_cons_self).1 nt_lst x3
              have h4 := back eA
              have eo := ext_out (o := .lst acc) nt_lst x1 eA hD
              have same : upd H3 D (.lst acc) = H3 := by
                funext b
                by_cases hb : b = D
                · subst hb; rw [upd_same, hD4]
                · rw [upd_ne hb]
              rw [same] at eo
              refine ⟨⟨ms3.ix, ms1.hid, ms1.tb, ms3.kd⟩, acc, ds, S'', eo, by rw [← h4]; exact r3, hD4, x4, ?_, x6⟩
              rw [← h4]; exact x5.ext eA
/-- [e for g in it if t] as a value -/
theorem s_lc {tg elt iter : Expr} {ifs : List Expr} {scope : Scope} {own : List (Str × Nat)} {g : Tg} {it : IT} {t : IO} {ie : IE} (hc : X.calm = true) (hN : X.N.Nodup) (hi : SI X mg E Γ tg iter it) (ok : BlkOk X.N X.env.scope scope own)
    (hg : ∀ (s : Shared) (H : Hp) (C : Addr) (cl : List (Str × Addr)) (fp : List Addr), PG (X.blk s H scope (compEnvC scope cl C X.env) fp) tg (tG X.K g)) (ht : ∀ (s : Shared) (H : Hp) (C : Addr) (cl : List (Str × Addr)) (fp : List Addr), PTs (X.blk s H scope (compEnvC scope cl C X.env) fp) ifs (tV X.K mg E0 Γ t))
    (he : ∀ (s : Shared) (H : Hp) (C : Addr) (cl : List (Str × Addr)) (fp : List Addr), PE (X.blk s H scope (compEnvC scope cl C X.env) fp) elt (tE X.K mg E0 Γ ie)) (hsl : ∀ i ∈ g.slots, i ∈ own.map (·.2) := by decide) (hs : ∀ x, foldedSetIterable iter X.env x = pure x := by intro _; rfl) :
    SE X mg E Γ (.ListComp elt [⟨tg, iter, ifs, 0⟩] scope pos) (.lc (own.map (·.2)) g it t ie) :=
  pe_imp (pe_lc hc hN hi ok hg ht he hs) fun σ H Q h => lc_read hsl h
end
end Qv

/-! Snd6 -/
set_option maxHeartbeats 0
/-! Statements, defs. -/
namespace Qv
open PySem PySem.Spec PyProof.Rows L2

/-- what is asked behind a statement -/
def OutP (K : PySem.W.Frag) (D : Ends) : Out → Cells → Hp → Prop
  | .nx ρ', ms', H' => ∀ σ', RpE K H' ms' σ' ρ' → D.nx σ' H'
  | .ret w, ms', H' => ∀ v, RpW K H' ms' v w → D.rt v H'
  | .bk ρ', ms', H' => ∀ σ', RpE K H' ms' σ' ρ' → D.bk σ' H'
  | .ct ρ', ms', H' => ∀ σ', RpE K H' ms' σ' ρ' → D.ct σ' H'
def tS (K : PySem.W.Frag) (mg : Str → Option Value) (E : XK) (Γ : Fns) (is : IS) : TS := fun D σ H =>
  ∃ ms ρ S, RpE K H ms σ ρ ∧ RpS H ms S ∧ PostG mg E ms H (OutP K D) (exec Γ is ρ S)
def tSs (K : PySem.W.Frag) (mg : Str → Option Value) (E : XK) (Γ : Fns) (is : ISs) : TS := fun D σ H =>
  ∃ ms ρ S, RpE K H ms σ ρ ∧ RpS H ms S ∧ PostG mg E ms H (OutP K D) (execs Γ is ρ S)
section
variable {X : Cx} {mg : Str → Option Value} {E : XK} {Γ : Fns} {a b c e : Expr} {ia ib ic ie : IE} {pos p : Pos} {es : List Expr} {ies : IEs} {st : Stmt} {sts sts2 : List Stmt} {is : IS} {iss iss2 : ISs}
abbrev SS (X : Cx) (mg : Str → Option Value) (E : XK) (Γ : Fns) (st : Stmt) (is : IS) : Prop := PS X st (tS X.K mg E Γ is)
abbrev SSs (X : Cx) (mg : Str → Option Value) (E : XK) (Γ : Fns) (st : List Stmt) (is : ISs) : Prop := PSs X st (tSs X.K mg E Γ is)
theorem ps_imp {t t' : TS} (h : PS X st t) (hi : ∀ D σ H, t' D σ H → t D σ H) : PS X st t' := ⟨fun pins s σ H D I q => h.run pins s σ H D I (hi D σ H q)⟩
theorem pss_imp {t t' : TS} (h : PSs X sts t) (hi : ∀ D σ H, t' D σ H → t D σ H) : PSs X sts t' := ⟨fun pins s σ H D I q => h.run pins s σ H D I (hi D σ H q)⟩
theorem ss_nil : SSs X mg E Γ [] .nil := pss_imp pss_nil fun D σ H ⟨ms, ρ, S, he, hs, hp⟩ => PostG.ret hs hp σ he
theorem ss_cons (h1 : SS X mg E Γ st is) (h2 : SSs X mg E Γ sts iss) : SSs X mg E Γ (st :: sts) (.cons is iss) := by
  refine pss_imp (pss_cons h1 h2) fun D σ H ⟨ms, ρ, S, he, hs, hp⟩ => ⟨ms, ρ, S, he, hs, PostG.part (f := fun o => match o with | .nx ρ' => execs Γ iss ρ' | .ret w => M.ret (.ret w) | .bk ρ' => M.ret (.bk ρ') | .ct ρ' => M.ret (.ct ρ')) hp fun o S1 ms1 H1 _ e1 r1 h3 => ?_⟩
  cases o with
  | nx ρ' => exact fun σ' he' => ⟨ms1, ρ', S1, he', r1, h3⟩
  | ret w => exact h3 ms1 H1 (Ext.refl _ _) r1
  | bk ρ' => exact h3 ms1 H1 (Ext.refl _ _) r1
  | ct ρ' => exact h3 ms1 H1 (Ext.refl _ _) r1
theorem s_pas : SS X mg E Γ (.Pass pos) .pas := ps_imp ps_pass fun D σ H ⟨ms, ρ, S, he, hs, hp⟩ => PostG.ret hs hp σ he
theorem s_brk : SS X mg E Γ (.Break pos) .brk := ps_imp ps_break fun D σ H ⟨ms, ρ, S, he, hs, hp⟩ => PostG.ret hs hp σ he
theorem s_cnt : SS X mg E Γ (.Continue pos) .cnt := ps_imp ps_continue fun D σ H ⟨ms, ρ, S, he, hs, hp⟩ => PostG.ret hs hp σ he
theorem s_asg {x : Str} {px : Pos} (i : Nat) (hN : X.N.Nodup) (ha : SE X mg E Γ a ia) (hi : X.N[i]? = some x := by rfl) (hx : Loc X.env.scope x := by first | exact Or.inl rfl | exact Or.inr rfl) (hs : swapsWith a (some (.Name x px)) pos.line X.env = pure false := by rfl) (hf : X.fn x = true ∨ X.env.scope.names.lookup x = some .local := by first | exact .inl rfl | exact .inr rfl) :
    SS X mg E Γ (.Assign [.Name x px] a pos) (.asg i ia) := by
  refine ps_imp (ps_set hN hi hx ha hs hf) fun D σ H ⟨ms, ρ, S, he, hs, hp⟩ => ⟨ms, ρ, S, he, hs, PostG.part (f := fun w => M.ret (Out.nx (ρ.set i (some w)))) hp fun w S1 ms1 H1 _ e1 r1 h1 v hv => ?_⟩
  exact h1.ret r1 _ ((he.ext e1).set hv)
theorem s_asgLc {x : Str} {px lpos : Pos} {elt tg iter : Expr} {ifs : List Expr} {scope : Scope} {own : List (Str × Nat)} {g : Tg} {it : IT} {t : IO} (i : Nat) (hc : X.calm = true) (hN : X.N.Nodup) (hsw : swapsWith (.ListComp elt [⟨tg, iter, ifs, 0⟩] scope lpos) (some (.Name x px)) pos.line X.env = pure true)
    (hi : SI X mg E Γ tg iter it) (ok : BlkOk X.N X.env.scope scope own)
    (hg : ∀ (s : Shared) (H : Hp) (C : Addr) (cl : List (Str × Addr)) (fp : List Addr), PG (X.blk s H scope (compEnvC scope cl C X.env) fp) tg (tG X.K g)) (ht : ∀ (s : Shared) (H : Hp) (C : Addr) (cl : List (Str × Addr)) (fp : List Addr), PTs (X.blk s H scope (compEnvC scope cl C X.env) fp) ifs (tV X.K mg E0 Γ t))
    (he : ∀ (s : Shared) (H : Hp) (C : Addr) (cl : List (Str × Addr)) (fp : List Addr), PE (X.blk s H scope (compEnvC scope cl C X.env) fp) elt (tE X.K mg E0 Γ ie)) (hsl : ∀ i ∈ g.slots, i ∈ own.map (·.2) := by decide) (hs : ∀ x, foldedSetIterable iter X.env x = pure x := by intro _; rfl)
    (hx : X.N[i]? = some x := by rfl) (hl : X.env.scope.names.lookup x = some .local := by rfl) : SS X mg E Γ (.Assign [.Name x px] (.ListComp elt [⟨tg, iter, ifs, 0⟩] scope lpos) pos) (.asg i (.lc (own.map (·.2)) g it t ie)) := by
  refine ps_imp (ps_setLc hc hN hx hl hsw hi ok hg ht he hs) fun D σ H ⟨ms, ρ, S, he, hs, hp⟩ => ?_
  show tLc (tI X.K mg E Γ it) (tG X.K g) (tV X.K mg E0 Γ t) (tE X.K mg E0 Γ ie) (own.map (·.2)) σ H fun x H1 => gName i x σ H1 D.nx
  refine lc_read hsl ⟨ms, ρ, S, he, hs, PostG.part (f := fun w => M.ret (Out.nx (ρ.set i (some w)))) hp fun w S1 ms1 H1 _ e1 r1 h1 v hv => ?_⟩
  exact h1.ret r1 _ ((he.ext e1).set hv)
theorem len_two {α : Type} {l : List α} (h : l.length = 2) : ∃ a b, l = [a, b] := by
  cases l with
  | nil => cases h
  | cons a l => cases l with
    | nil => cases h
    | cons b l => cases l with
      | nil => exact ⟨a, b, rfl⟩
      | cons c l => simp at h
theorem len_three {α : Type} {l : List α} (h : l.length = 3) : ∃ a b c, l = [a, b, c] := by
  cases l with
  | nil => cases h
  | cons a l =>
    obtain ⟨b, c, rfl⟩ := len_two (l := l) (by simpa using h)
    exact ⟨a, b, c, rfl⟩
theorem RpWs.two {K : PySem.W.Frag} {H : Hp} {ms : Cells} {vs : List V} {w1 w2 : W} (h : RpWs K H ms vs [w1, w2]) : ∃ u1 u2, vs = [u1, u2] ∧ RpW K H ms u1 w1 ∧ RpW K H ms u2 w2 := by
  cases h with
  | cons a r => cases r with
    | cons b r => cases r; exact ⟨_, _, rfl, a, b⟩
theorem RpWs.three {K : PySem.W.Frag} {H : Hp} {ms : Cells} {vs : List V} {w1 w2 w3 : W} (h : RpWs K H ms vs [w1, w2, w3]) : ∃ u1 u2 u3, vs = [u1, u2, u3] ∧ RpW K H ms u1 w1 ∧ RpW K H ms u2 w2 ∧ RpW K H ms u3 w3 := by
  cases h with
  | cons a r => obtain ⟨u2, u3, rfl, b, c⟩ := r.two; exact ⟨_, _, _, rfl, a, b, c⟩
theorem s_par2 {x y : Str} {px py pt pt2 : Pos} {kt k2 : Nat} (i j : Nat) (hc : X.calm = true) (hN : X.N.Nodup) (ha : SA X mg E Γ [a, b] (.cons ia (.cons ib .nil)))
    (hw : swappedStores [.Tuple [.Name x px, .Name y py] kt pt] (.Tuple [a, b] k2 pt2) X.env = pure (some [x, y])) (hij : i ≠ j := by decide) (hi : X.N[i]? = some x := by rfl) (hj : X.N[j]? = some y := by rfl)
    (hx : X.env.scope.names.lookup x = some .local := by rfl) (hy : X.env.scope.names.lookup y = some .local := by rfl) (hs : swapsWithSole [.Tuple [.Name x px, .Name y py] kt pt] (.Tuple [a, b] k2 pt2) pos.line X.env = pure false := by rfl) :
    SS X mg E Γ (.Assign [.Tuple [.Name x px, .Name y py] kt pt] (.Tuple [a, b] k2 pt2) pos) (.par [i, j] (.cons ia (.cons ib .nil))) := by
  refine ps_imp (ps_par hc hN hi hj hij hx hy ha hw hs) fun D σ H ⟨ms, ρ, S, he, hs, hp⟩ => ⟨ms, ρ, S, he, hs, PostG.part (f := fun ws => (M.opt (putAll [i, j] ws ρ)).bnd fun ρ' => M.ret (Out.nx ρ')) hp fun ws S1 ms1 H1 ew e1 r1 h1 vs hvs => ?_⟩
  obtain ⟨w1, w2, rfl⟩ := len_two (evs_len _ ew)
  obtain ⟨ρ', g, h2⟩ := h1.opt
  have e : (ρ.set i (some w1)).set j (some w2) = ρ' := Option.some.inj g
  subst e
  obtain ⟨u1, u2, rfl, q1, q2⟩ := hvs.two
  exact ⟨_, _, rfl, h2.ret r1 _ (((he.ext e1).set q1).set q2)⟩
theorem s_par3 {x y z : Str} {px py pz pt pt2 : Pos} {kt k2 : Nat} (i j l : Nat) (hc : X.calm = true) (hN : X.N.Nodup) (ha : SA X mg E Γ [a, b, c] (.cons ia (.cons ib (.cons ic .nil))))
    (hw : swappedStores [.Tuple [.Name x px, .Name y py, .Name z pz] kt pt] (.Tuple [a, b, c] k2 pt2) X.env = pure (some [x, y, z])) (hij : i ≠ j := by decide) (hil : i ≠ l := by decide) (hjl : j ≠ l := by decide) (hi : X.N[i]? = some x := by rfl) (hj : X.N[j]? = some y := by rfl) (hl : X.N[l]? = some z := by rfl)
    (hx : X.env.scope.names.lookup x = some .local := by rfl) (hy : X.env.scope.names.lookup y = some .local := by rfl) (hz : X.env.scope.names.lookup z = some .local := by rfl) (hs : swapsWithSole [.Tuple [.Name x px, .Name y py, .Name z pz] kt pt] (.Tuple [a, b, c] k2 pt2) pos.line X.env = pure false := by rfl) :
    SS X mg E Γ (.Assign [.Tuple [.Name x px, .Name y py, .Name z pz] kt pt] (.Tuple [a, b, c] k2 pt2) pos) (.par [i, j, l] (.cons ia (.cons ib (.cons ic .nil)))) := by
  refine ps_imp (ps_par3 hc hN hi hj hl hij hil hjl hx hy hz ha hw hs) fun D σ H ⟨ms, ρ, S, he, hs, hp⟩ => ⟨ms, ρ, S, he, hs, PostG.part (f := fun ws => (M.opt (putAll [i, j, l] ws ρ)).bnd fun ρ' => M.ret (Out.nx ρ')) hp fun ws S1 ms1 H1 ew e1 r1 h1 vs hvs => ?_⟩
  obtain ⟨w1, w2, w3, rfl⟩ := len_three (evs_len _ ew)
  obtain ⟨ρ', g, h2⟩ := h1.opt
  have e : ((ρ.set i (some w1)).set j (some w2)).set l (some w3) = ρ' := Option.some.inj g
  subst e
  obtain ⟨u1, u2, u3, rfl, q1, q2, q3⟩ := hvs.three
  exact ⟨_, _, _, rfl, h2.ret r1 _ ((((he.ext e1).set q1).set q2).set q3)⟩
/-- targets = a tuple -/
theorem s_unp {tg : Expr} {g : Tg} (ha : SE X mg E Γ a ia) (hg : SG X tg g) (hs : swapsWithSole [tg] a pos.line X.env = pure false := by rfl) (hw : swappedStores [tg] a X.env = pure none := by rfl) (h1 : (assignEach [tg] X.env).map (·.2) = [assign tg X.env] := by rfl) : SS X mg E Γ (.Assign [tg] a pos) (.unp g ia) := by
  refine ps_imp (ps_asg ha hg hs hw h1) fun D σ H ⟨ms, ρ, S, he, hs, hp⟩ => ⟨ms, ρ, S, he, hs, PostG.part (f := fun w => (asData w).bnd fun d => (M.opt (put g d ρ)).bnd fun ρ' => M.ret (Out.nx ρ')) hp fun w S1 ms1 H1 _ e1 r1 h1 v hv => ?_⟩
  obtain ⟨d, rfl, h2⟩ := h1.data
  obtain ⟨ρ', g2, h3⟩ := h2.opt
  cases hv with
  | d hv => exact ⟨ms1, ρ, d, ρ', he.ext e1, hv, g2, fun σ' hσ _ => h3.ret r1 σ' hσ⟩
theorem s_ex (ha : SE X mg E Γ a ia) (hs : swapsWith a none pos.line X.env = pure false := by rfl) : SS X mg E Γ (.Expr a pos) (.ex ia) := by
  refine ps_imp (ps_expr ha hs) fun D σ H ⟨ms, ρ, S, he, hs, hp⟩ => ⟨ms, ρ, S, he, hs, PostG.part (f := fun _ => M.ret (Out.nx ρ)) hp fun w S1 ms1 H1 _ e1 r1 h1 v hv => h1.ret r1 σ (he.ext e1)⟩
theorem s_ret (ha : SE X mg E Γ a ia) : SS X mg E Γ (.Return (some a) pos) (.ret ia) := by
  refine ps_imp (ps_ret ha) fun D σ H ⟨ms, ρ, S, he, hs, hp⟩ => ⟨ms, ρ, S, he, hs, PostG.part (f := fun w => M.ret (Out.ret w)) hp fun w S1 ms1 H1 _ e1 r1 h1 v hv => h1.ret r1 v hv⟩
theorem s_retN : SS X mg E Γ (.Return none pos) .retN := ps_imp ps_retN fun D σ H ⟨ms, ρ, S, he, hs, hp⟩ => PostG.ret hs hp .non (.d .non)
theorem bool_bnd {α : Type} {ie : IE} {ρ : Env} {S : Sto} {f : Bool → M α} : ((ev Γ ie ρ).bnd fun w => (asBool w).bnd f) S = (((ev Γ ie ρ).bnd asBool).bnd f) S := by
  unfold M.bnd
  cases ev Γ ie ρ S with
  | none => rfl
  | some r =>
    cases r with
    | ex x S1 => rfl
    | ok w S1 =>
      cases w with
      | m k => rfl
      | scr k => rfl
      | c κ k => rfl
      | xo k => rfl
      | xl k => rfl
      | f k => rfl
      | d x => cases x <;> rfl
theorem s_ifs (hc : ST X mg E Γ c ic) (ha : SSs X mg E Γ sts iss) (hb : SSs X mg E Γ sts2 iss2) : SS X mg E Γ (.If c sts sts2 pos) (.ifs ic iss iss2) := by
  refine ps_imp (ps_if hc ha hb) fun D σ H ⟨ms, ρ, S, he, hs, hp⟩ => ⟨ms, ρ, S, he, hs, ?_⟩
  have e : exec Γ (.ifs ic iss iss2) ρ S = (((ev Γ ic ρ).bnd asBool).bnd fun t => if t = true then execs Γ iss ρ else execs Γ iss2 ρ) S := bool_bnd
  rw [e] at hp
  refine hp.part fun t S1 ms1 H1 _ e1 r1 h1 => ?_
  cases t with
  | true => refine iteT ?_; rw [if_pos rfl] at h1; exact ⟨ms1, ρ, S1, he.ext e1, r1, h1⟩
  | false => refine iteF ?_; rw [if_neg Bool.false_ne_true] at h1; exact ⟨ms1, ρ, S1, he.ext e1, r1, h1⟩

/-! loops -/
theorem forLoop_step {src : Src} {g : Tg} {f : Env → M Out} {n i : Nat} {ρ : Env} {s : Sto} : forLoop src g f (n + 1) i ρ s = match src.at i s with
    | none => none
    | some none => some (.ok (.nx ρ) s)
    | some (some x) => match put g x ρ with
      | none => none
      | some ρ1 => match f ρ1 s with
        | none => none
        | some (.ex e s') => some (.ex e s')
        | some (.ok (.nx ρ2) s') => forLoop src g f n (i + 1) ρ2 s'
        | some (.ok (.ct ρ2) s') => forLoop src g f n (i + 1) ρ2 s'
        | some (.ok (.bk ρ2) s') => some (.ok (.nx ρ2) s')
        | some (.ok (.ret w) s') => some (.ok (.ret w) s') := rfl
theorem PostG.mono {α : Type} {ms ms' : Cells} {H H' : Hp} {Kk : α → Cells → Hp → Prop} {o : Option (Rs α)} (h : PostG mg E ms H Kk o) (e : Ext ms H ms' H') : PostG mg E ms' H' Kk o := by
  cases o with
  | none => exact h
  | some r => cases r with
    | ex x S1 => exact fun m2 H2 c d q1 q2 q3 => h m2 H2 c d (e.trans q1) q2 q3
    | ok a S1 => exact fun m2 H2 q1 q2 => h m2 H2 (e.trans q1) q2
theorem s_for {tg iter : Expr} {g : Tg} {it : IT} (hp : PassesOwn (model X.prog X.w) X.A X.env X.xe) (hc : X.calm = true) (hi : SI X mg E Γ tg iter it) (hg : SG X tg g) (hb : SSs X mg E Γ sts iss) (hs : ∀ x, foldedSetIterable iter X.env x = pure x := by intro _; rfl) :
    SS X mg E Γ (.For tg iter sts [] pos) (.forr g it iss) := by
  refine ps_imp (ps_for hp hc hi hg hb hs) fun D σ H ⟨ms, ρ, S, he, hs, hp⟩ => ⟨ms, ρ, S, he, hs, PostG.part (f := fun src => fun s => forLoop src g (fun ρ' => execs Γ iss ρ') (src.len s + 1) 0 ρ s) hp fun src S1 ms1 H1 _ e1 r1 h1 J hJ => ?_⟩
  refine ⟨fun i m σ' H' => ∃ ms' ρ' S', Ext ms1 H1 ms' H' ∧ RpE X.K H' ms' σ' ρ' ∧ RpS H' ms' S' ∧ PostG mg E ms' H' (OutP X.K D) (forLoop src g (fun ρ' => execs Γ iss ρ') m i ρ' S'), ⟨src.len S1 + 1, ms1, ρ, S1, Ext.refl _ _, he.ext e1, r1, h1⟩, ?_⟩
  rintro i m σ' H' ⟨ms', ρ', S', x1, x2, x3, x6⟩
  cases m with
  | zero => exact x6.elim
  | succ m =>
    have hj := hJ ms' H' S' i x1.tr x3
    rw [forLoop_step] at x6
    cases ea : src.at i S' with
    | none => rw [ea] at x6; exact x6.elim
    | some ox =>
      cases ox with
      | none =>
        rw [ea] at hj x6
        exact .inl ⟨hj, x6 ms' H' (Ext.refl _ _) x3 σ' x2⟩
      | some x =>
        rw [ea] at hj x6
        obtain ⟨hgo, hy⟩ := hj
        dsimp only at x6
        cases ep : put g x ρ' with
        | none => rw [ep] at x6; exact x6.elim
        | some ρ1 =>
          rw [ep] at x6
          dsimp only at x6
          refine .inr ⟨hgo, fun σ5 H5 => ∃ m' < m + 1, ∃ ms' ρ' S', Ext ms1 H1 ms' H5 ∧ RpE X.K H5 ms' σ5 ρ' ∧ RpS H5 ms' S' ∧ PostG mg E ms' H5 (OutP X.K D) (forLoop src g (fun ρ' => execs Γ iss ρ') m' (i + 1) ρ' S'), fun σ5 H5 ⟨m', hm, w⟩ => ⟨m', hm, w⟩, fun v H2 yv => ?_⟩
          obtain ⟨y1, y2, y3⟩ := hy v H2 yv
          have ey : Ext ms' H' ms' H2 := Ext.all y1
          refine ⟨ms', ρ', x, ρ1, x2.ext ey, y3, ep, fun σ2 hσ2 _ => ⟨ms', ρ1, S', hσ2, y2, ?_⟩⟩
          cases ef : execs Γ iss ρ1 S' with
          | none => rw [ef] at x6; exact x6.elim
          | some r =>
            rw [ef] at x6
            cases r with
            | ex z S2 => exact (PostG.mono (o := some (.ex z S2)) x6 ey)
            | ok o S2 =>
              intro ms3 H3 e3 r3
              have eA := ey.trans e3
              cases o with
              | nx ρ2 => exact fun σ3 h3 => ⟨m, Nat.lt_succ_self m, ms3, ρ2, S2, x1.trans eA, h3, r3, x6.mono eA⟩
              | ct ρ2 => exact fun σ3 h3 => ⟨m, Nat.lt_succ_self m, ms3, ρ2, S2, x1.trans eA, h3, r3, x6.mono eA⟩
              | bk ρ2 => exact fun σ3 h3 => x6 ms3 H3 eA r3 σ3 h3
              | ret w => exact fun v h3 => x6 ms3 H3 eA r3 v h3
theorem whileLoop_step {t : Env → M Bool} {f : Env → M Out} {n : Nat} {ρ : Env} {s : Sto} : whileLoop t f (n + 1) ρ s = match t ρ s with
    | none => none
    | some (.ex e s') => some (.ex e s')
    | some (.ok false s') => some (.ok (.nx ρ) s')
    | some (.ok true s') => match f ρ s' with
      | none => none
      | some (.ex e s') => some (.ex e s')
      | some (.ok (.nx ρ2) s') => whileLoop t f n ρ2 s'
      | some (.ok (.ct ρ2) s') => whileLoop t f n ρ2 s'
      | some (.ok (.bk ρ2) s') => some (.ok (.nx ρ2) s')
      | some (.ok (.ret w) s') => some (.ok (.ret w) s') := rfl
theorem s_whl {n : Nat} (hp : PassesOwn (model X.prog X.w) X.A X.env X.xe) (hc : ST X mg E Γ c ic) (hb : SSs X mg E Γ sts iss) : SS X mg E Γ (.While c sts [] pos) (.whl n ic iss) := by
  refine ps_imp (ps_while hp hc hb) fun D σ H ⟨ms, ρ, S, he, hs, hp⟩ => ?_
  refine ⟨fun m σ' H' => ∃ ms' ρ' S', RpE X.K H' ms' σ' ρ' ∧ RpS H' ms' S' ∧ PostG mg E ms' H' (OutP X.K D) (whileLoop (fun ρ' => (ev Γ ic ρ').bnd asBool) (fun ρ' => execs Γ iss ρ') m ρ' S'), ⟨n, ms, ρ, S, he, hs, hp⟩, ?_⟩
  rintro m σ' H' ⟨ms', ρ', S', x2, x3, x6⟩
  cases m with
  | zero => exact x6.elim
  | succ m =>
    rw [whileLoop_step] at x6
    refine ⟨ms', ρ', S', x2, x3, ?_⟩
    cases et : (ev Γ ic ρ').bnd asBool S' with
    | none => rw [et] at x6; exact x6.elim
    | some r =>
      rw [et] at x6
      cases r with
      | ex z S2 => exact x6
      | ok bb S2 =>
        intro ms3 H3 e3 r3
        cases bb with
        | false =>
          refine iteF ?_
          exact x6 ms3 H3 e3 r3 σ' (x2.ext e3)
        | true =>
          refine iteT ?_
          dsimp only at x6
          refine ⟨fun σ5 H5 => ∃ m' < m + 1, ∃ ms' ρ' S', RpE X.K H5 ms' σ5 ρ' ∧ RpS H5 ms' S' ∧ PostG mg E ms' H5 (OutP X.K D) (whileLoop (fun ρ' => (ev Γ ic ρ').bnd asBool) (fun ρ' => execs Γ iss ρ') m' ρ' S'), fun σ5 H5 ⟨m', hm, w⟩ => ⟨m', hm, w⟩, ?_⟩
          refine ⟨ms3, ρ', S2, x2.ext e3, r3, ?_⟩
          cases ef : execs Γ iss ρ' S2 with
          | none => rw [ef] at x6; exact x6.elim
          | some r =>
            rw [ef] at x6
            cases r with
            | ex z S4 => exact PostG.mono (o := some (.ex z S4)) x6 e3
            | ok o S4 =>
              intro ms4 H4 e4 r4
              have eA := e3.trans e4
              cases o with
              | nx ρ2 => exact fun σ3 h3 => ⟨m, Nat.lt_succ_self m, ms4, ρ2, S4, h3, r4, x6.mono eA⟩
              | ct ρ2 => exact fun σ3 h3 => ⟨m, Nat.lt_succ_self m, ms4, ρ2, S4, h3, r4, x6.mono eA⟩
              | bk ρ2 => exact fun σ3 h3 => x6 ms4 H4 eA r4 σ3 h3
              | ret w => exact fun v h3 => x6 ms4 H4 eA r4 v h3
end

/-! ### a def -/
section
variable {P : Program} {w : World} {K : PySem.W.Frag} {mg : Str → Option Value} {base : Heap} {Γ : Fns}
theorem rpE_start {ms : Cells} {H : Hp} (htb : ms.tb = tabsOf K) : ∀ {vs : List V} {ws : List W}, RpWs K H ms vs ws → ∀ n, n ≥ vs.length → RpE K H ms (vs.map some ++ List.replicate (n - vs.length) none) (ws.map some ++ List.replicate (n - ws.length) none) := by
  intro vs ws h n hn
  refine ⟨by simp [h.len], htb, ?_⟩
  induction h generalizing n with
  | nil => intro i w e; simp [List.getElem?_replicate] at e
  | @cons v vs w ws a r ih =>
    intro i w' e
    have hl := r.len
    cases i with
    | zero => simp at e; subst e; exact ⟨v, by simp, a⟩
    | succ i =>
      have e' : (ws.map some ++ List.replicate ((n - 1) - ws.length) none)[i]? = some (some w') := by
        have q : n - (w :: ws).length = (n - 1) - ws.length := by simp; omega
        rw [q] at e
        simpa using e
      simp at hn
      obtain ⟨u, q1, q2⟩ := ih (n - 1) (by omega) i w' e'
      refine ⟨u, ?_, q2⟩
      have q : n - (v :: vs).length = (n - 1) - vs.length := by simp; omega
      rw [q]
      simpa using q1
theorem def_ok {x qual : Str} {params : Arguments} {body : List Stmt} {scope : Scope} {f : Addr} {fd : FuncData} {N ps : List Str} {k n pn : Nat} {ib : ISs} (F : FunD K x qual params body scope [] [] f fd) (S : FnScope N ps scope) (hn : N.length = n) (hp : ps.length = pn)
    (hb : ∀ (cdv : Value) (A : Around) (outer : List PySem.Env) (s : Shared) (H : Hp) (E : XK), Room k (A.deeper (envOfC qual scope s.heap.objs.size f cdv)) → SSs (cxOf (L2.CX P w) P w K mg base N qual scope f cdv A outer s H E) mg E Γ body ib) :
    FnOk P w K mg base (L2.CX P w) (k + 1) f fd ps (spF K mg (fdef Γ pn n ib) pn) := by
  subst hn hp
  refine F.ok S (fun vs H Q E h => h.1) (fun cdv A outer s H vs Q E hr h => ⟨tSs K mg E Γ ib, hb cdv A outer s H E hr, ?_⟩)
  obtain ⟨hl, ms, ws, St, htb, r, hv, hq⟩ := h
  have hpl : ps.length ≤ N.length := by have := congrArg List.length S.pre; rw [List.length_take] at this; omega
  have hw : ws.length = ps.length := by rw [← hv.len]; exact hl
  unfold fdef at hq
  rw [if_pos hw] at hq
  refine ⟨ms, Qv.start N.length ws, St, rpE_start htb hv N.length (by omega), r, PostG.part (f := outW) hq fun o S1 ms1 H1 _ e1 r1 h1 => ?_⟩
  cases o with
  | nx ρ' => exact fun σ' _ => h1.ret r1 _ (.d .non)
  | ret w => exact h1 ms1 H1 (Ext.refl _ _) r1
  | bk ρ' => exact h1.elim
  | ct ρ' => exact h1.elim
/-- a contract of a lesser function -/
theorem def_le {f : Addr} {fd : FuncData} {ps : List Str} {k n : Nat} {F G : List W → M W} (h : FnOk P w K mg base (L2.CX P w) k f fd ps (spF K mg F n)) (hl : ∀ ws S r, G ws S = some r → F ws S = some r) : FnOk P w K mg base (L2.CX P w) k f fd ps (spF K mg G n) :=
  h.imp fun vs H Q E ⟨h1, ms, ws, S, h0, h2, h3, h4⟩ => ⟨h1, ms, ws, S, h0, h2, h3, by
    cases e : G ws S with
    | none => rw [e] at h4; exact h4.elim
    | some r => rw [hl ws S r e, ← e]; exact h4⟩
/-- what never answers -/
theorem def_no {f : Addr} {fd : FuncData} {ps : List Str} {k n : Nat} (hn : ps.length = n) : FnOk P w K mg base (L2.CX P w) k f fd ps (spF K mg (fun _ => M.no) n) :=
  ⟨fun vs H Q E h => h.1.trans hn.symm, fun A outer s H args us vs Q E hr he hb hv ⟨h1, ms, ws, S, h0, h2, h3, h4⟩ => h4.elim⟩
end
end Qv

/-! Snd7 -/
set_option maxHeartbeats 0
/-! Cells written, errors raised. -/
namespace Qv
open PySem PySem.Spec PyProof.Rows L2

theorem RpS.upd {H : Hp} {ms : Cells} {S : Sto} (r : RpS H ms S) {k : Nat} {a : Addr} (hk : ms.ix[k]? = some a) (hpl : ms.plain a) {ys : List V} {ds : List PyData} (hl : ys.length ≤ line) (hy : Rps H ms ys ds) :
    Ext ms H ms (L2.upd H a (.lst ys)) ∧ RpS (L2.upd H a (.lst ys)) ms (S.set k ds) := by
  have ha : a ∈ ms.ix := List.mem_of_getElem? hk
  have e : Ext ms H ms (L2.upd H a (.lst ys)) := ⟨List.prefix_refl _, rfl, rfl, KdE.refl _, fun b u n _ q => by rw [upd_ne fun z => n (by rw [z]; exact ha)]; exact q, fun b u nt q => by
    by_cases z : b = a
    · subst z; exact ⟨_, nt_lst, upd_same⟩
    · exact ⟨u, nt, by rw [upd_ne z]; exact q⟩, fun b hb => .inl hb⟩
  have hl0 : k < S.length := by rw [← r.len]; exact (List.getElem?_eq_some_iff.mp hk).1
  obtain ⟨vs0, hq0, _⟩ := r.cell k a S[k] hk hpl (by simp [hl0])
  refine ⟨e, by rw [List.length_set]; exact r.len, r.nd, fun b hb => ?_, fun j c ds' h1 h2 => ?_, tabs_upd r.tabs hq0, r.kin⟩
  · obtain ⟨q1, u, q0, q2⟩ := r.hd b hb
    exact ⟨q1, e.stay b u q0 q2⟩
  · by_cases hj : k = j
    · subst hj
      rw [hk] at h1; cases h1
      have hl2 : k < S.length := by rw [← r.len]; exact (List.getElem?_eq_some_iff.mp hk).1
      rw [List.getElem?_set_self hl2] at h2
      cases h2
      exact ⟨fun _ => ⟨ys, upd_same, hl, hy.ext e⟩, fun κ z => absurd z (hpl κ)⟩
    · rw [List.getElem?_set_ne hj] at h2
      have hne : c ≠ a := by
        rintro rfl
        have h3 := (List.getElem?_eq_some_iff.mp hk)
        have h4 := (List.getElem?_eq_some_iff.mp h1)
        exact hj ((List.getElem_inj r.nd).mp (h3.2.trans h4.2.symm))
      exact (r.cells j c ds' h1 h2).tr e.tr rfl (upd_ne hne)
section
variable {α β : Type} {mg : Str → Option Value} {E : XK} {ms : Cells} {H : Hp} {S : Sto} {Kk : β → Cells → Hp → Prop}
theorem PostG.cellOf {k : Nat} {f : List PyData → M β} (h : PostG mg E ms H Kk ((Qv.cellOf k).bnd f S)) : ∃ ds, S[k]? = some ds ∧ PostG mg E ms H Kk (f ds S) := by
  unfold M.bnd Qv.cellOf at h
  cases e : S[k]? with
  | none => rw [e] at h; exact h.elim
  | some d => rw [e] at h; exact ⟨d, rfl, h⟩
theorem PostG.setCell {k : Nat} {ds : List PyData} {f : Unit → M β} (h : PostG mg E ms H Kk ((Qv.setCell k ds).bnd f S)) : k < S.length ∧ PostG mg E ms H Kk (f () (S.set k ds)) := by
  unfold M.bnd Qv.setCell at h
  by_cases e : k < S.length
  · rw [if_pos e] at h; exact ⟨e, h⟩
  · rw [if_neg e] at h; exact h.elim
end
section
variable {X : Cx} {mg : Str → Option Value} {E : XK} {Γ : Fns} {a b c e : Expr} {ia ib ic ie : IE} {pos p : Pos} {es : List Expr} {ies : IEs}
/-- a[b] = e, a a cell -/
theorem s_sti {p2 : Pos} (he : SE X mg E Γ e ie) (ha : SE X mg E Γ a ia) (hb : SE X mg E Γ b ib)
    (hv : ∀ v, assign (.Subscript a b p2) X.env v = (do
      let ov ← holding [v] (eval a X.env)
      let iv ← holding [v, ov] (eval b X.env)
      standAt p2
      holding [v, ov, iv] (setItem ov iv v)
      release [v, ov, iv] []) := by intro _; rfl) (hs : swapsWithSole [.Subscript a b p2] e pos.line X.env = pure false := by rfl) (hw : swappedStores [.Subscript a b p2] e X.env = pure none := by rfl) (h1 : (assignEach [.Subscript a b p2] X.env).map (·.2) = [assign (.Subscript a b p2) X.env] := by rfl) :
    SS X mg E Γ (.Assign [.Subscript a b p2] e pos) (.sti ia ib ie) := by
  refine ps_imp (ps_asg he (pg_sub ha hb set_list hv) hs hw h1) fun D σ H ⟨ms, ρ, S, he, hs, hp⟩ => ⟨ms, ρ, S, he, hs, PostG.part (f := fun w => (asData w).bnd fun y => (ev Γ ia ρ).bnd fun o => (asCell o).bnd fun k => (ev Γ ib ρ).bnd fun j => (asInt j).bnd fun j => (cellOf k).bnd fun ds =>
      (M.opt (place ds.length j)).bnd fun p => (setCell k (ds.set p y)).bnd fun _ => M.ret (Out.nx ρ)) hp fun w S1 ms1 H1 _ e1 r1 h1 v hv => ?_⟩
  obtain ⟨y, rfl, h2⟩ := h1.data
  refine ⟨ms1, ρ, S1, he.ext e1, r1, h2.part fun o S2 ms2 H2 _ e2 r2 h3 ov hov => ?_⟩
  obtain ⟨k, rfl, h4⟩ := h3.cell
  refine ⟨ms2, ρ, S2, (he.ext e1).ext e2, r2, h4.part fun jw S3 ms3 H3 _ e3 r3 h5 jv hjv => ?_⟩
  obtain ⟨j, rfl, h6⟩ := h5.int
  obtain ⟨ds, g1, h7⟩ := h6.cellOf
  obtain ⟨q, g2, h8⟩ := h7.opt
  obtain ⟨g3, h9⟩ := h8.setCell
  cases hjv with
  | d hjv =>
    cases hjv
    cases hov.ext e3 with
    | @m aa _ hk hpl =>
      obtain ⟨xs, k1, k2, k3⟩ := r3.cell k aa ds hk hpl g1
      cases (hv.ext e2).ext e3 with
      | d hv3 =>
        have hy := Rps.set hv3 q k3
        obtain ⟨e4, r4⟩ := r3.upd hk hpl (by rw [List.length_set]; exact k2) hy
        exact ⟨aa, xs, j, q, rfl, rfl, k1, by rw [k3.len]; exact g2, h9 _ _ e4 r4 σ ((((he.ext e1).ext e2).ext e3).ext e4)⟩
/-- a.append(e), a a cell -/
theorem s_app {apos cpos : Pos} (ha : SE X mg E Γ a ia) (he : SE X mg E Γ e ie) (hbase : attributeBase a "append" X.env (eval a X.env) = eval a X.env := by rfl)
    (hfew : ((backTo cpos (starEach (e :: []) X.env)).all (fun x => !x.1) && (backToKw cpos (keywordEach [] X.env)).all (fun x => x.1.isSome)
      && decide ((e :: []).length + ([] : List Keyword).length + (if ([] : List Keyword).isEmpty then 0 else 1) < 30)) = true := by rfl)
    (hline : (apos.endLine == cpos.line) = true := by rfl) (hs : starEach (e :: []) X.env = (false, eval e X.env) :: starEach [] X.env := by rfl) (hplain : (backTo cpos (starEach [] X.env)).any (·.1) = false := by rfl)
    (hsw : swapsWith (.Call (.Attribute a "append" apos) [e] [] cpos) none pos.line X.env = pure false := by rfl) :
    SS X mg E Γ (.Expr (.Call (.Attribute a "append" apos) [e] [] cpos) pos) (.app ia ie) := by
  refine ps_imp (ps_expr (pe_bm PySem.F.plainAttrs_list PySem.F.slot_list_append PySem.F.type_list_append mt_append ha (pa_cons he pa_nil hs) hbase hfew hline hs hplain) hsw) fun D σ H ⟨ms, ρ, S, he, hs, hp⟩ => ⟨ms, ρ, S, he, hs, PostG.part (f := fun o => (asCell o).bnd fun k => (ev Γ ie ρ).bnd fun w => (asData w).bnd fun y => (cellOf k).bnd fun ds =>
      if ds.length < line then (setCell k (ds ++ [y])).bnd fun _ => M.ret (Out.nx ρ) else M.no) hp fun o S1 ms1 H1 _ e1 r1 h1 ov hov => ?_⟩
  obtain ⟨k, rfl, h2⟩ := h1.cell
  cases hov with
  | @m aa _ hk hpl =>
    have hl1 : k < S1.length := by rw [← r1.len]; exact (List.getElem?_eq_some_iff.mp hk).1
    obtain ⟨xs0, k0, _⟩ := r1.cell k aa S1[k] hk hpl (by simp [hl1])
    refine ⟨.inl ⟨rfl, xs0, SqL.of k0⟩, ms1, ρ, S1, he.ext e1, r1, h2.part fun w S2 ms2 H2 _ e2 r2 h3 v hv => ?_⟩
    obtain ⟨y, rfl, h4⟩ := h3.data
    obtain ⟨ds, g1, h5⟩ := h4.cellOf
    obtain ⟨g2, h6⟩ := h5.ite
    obtain ⟨g3, h7⟩ := h6.setCell
    have hk2 : ms2.ix[k]? = some aa := by
      obtain ⟨u, hu⟩ := e2.pre
      rw [← hu, List.getElem?_append_left (List.getElem?_eq_some_iff.mp hk).1]; exact hk
    obtain ⟨xs, k1, k2, k3⟩ := r2.cell k aa ds hk2 (e2.kd.2 aa (List.mem_of_getElem? hk) hpl) g1
    cases hv with
    | d hv =>
      have hlt : xs.length < line := by rw [k3.len]; exact g2
      obtain ⟨e3, r3⟩ := r2.upd hk2 (e2.kd.2 aa (List.mem_of_getElem? hk) hpl) (ys := xs ++ [v]) (ds := ds ++ [y]) (by rw [List.length_append]; exact hlt) (k3.app (.cons hv .nil))
      exact ⟨aa, xs, v, rfl, rfl, k1, by rw [← line_eq]; exact hlt, h7 _ _ e3 r3 σ (((he.ext e1).ext e2).ext e3)⟩
/-- raise X('..') -/
theorem s_rai {x m : Str} {j : Nat} {p2 p3 : Pos} {C : Addr} (hc : X.calm = true) (tk : Takes X (fun cls d _ H => E cls d H)) (q : PySem.W.excIn X.K C [.type "ValueError", .type "Exception", .type "BaseException", .type "object"] "ValueError.__new__" = true) (gC : X.mg x = some (.ref C)) (hmg : mg x = some (.ref C)) (kC : PySem.W.keepIn X.K (.ref C) = true) (r : Raises X (.ref C)) (hg : Gl X x)
    (hdb : (x == ("__debug__" : Str)) = false := by decide) : SS X mg E Γ (.Raise (some (.Call (.Name x p) [.Constant (.str m) j p2] [] p3)) none pos) (.rai x .no) :=
  ps_imp (ps_raise hc tk (pmk_own PySem.F.excBase_ValueError q gC kC r hg hdb)) fun D σ H ⟨ms, ρ, S, he, hs, hp⟩ => hp ms H (.ref C) none (Ext.refl _ _) hs ⟨C, hmg, rfl, trivial⟩
theorem s_never {st : Stmt} {is : IS} (h : ∀ (ρ : Env) (S : Sto), exec Γ is ρ S = none) : SS X mg E Γ st is := ps_imp ps_never fun D σ H ⟨ms, ρ, S, he, hs, hp⟩ => by
  rw [h] at hp; exact hp
end
end Qv

/-! Snd8 -/
set_option maxHeartbeats 0
/-! sorted(xs), xs a list of data that are alike: tuples, empty ones among them, or others. -/
namespace Qv
open PySem PySem.Spec PyProof.Rows L2 PySem.W PySem.Calls
section
variable {prog : Program} {w : World} {A : Around} {E : Value → Shared → Prop} {s : Shared}
/-- the call of a tuple's own __lt__ -/
theorem tup_lt {Q : Value → Shared → Prop} {l b : Addr} {items items2 : Array Value} {e r : Nat → Bool} (hl : s.heap.IsTuple l items) (hb : s.heap.IsTuple b items2)
    (he : ∀ j (h1 : j < items.size) (h2 : j < items2.size), SeqAt.EqAt A.in1 s items[j] items2[j] (e j)) (hr : ∀ j (h1 : j < items.size) (h2 : j < items2.size), e j = false → SeqAt.RcLt A.in1 s items[j] items2[j] (r j))
    (h : Q (.bool (SeqAt.firstLt e r (decide (items.size < items2.size)) (List.range (min items.size items2.size)))) s) : wpAny (model prog w) A (call (.builtin "tuple.__lt__") [.ref l, .ref b]) Q E s := by
  obtain ⟨⟨cls, dd, data, sl⟩, ho, hc, n, hd⟩ := id hl
  obtain ⟨⟨cls2, dd2, data2, sl2⟩, ho2, hc2, n2, hd2⟩ := id hb
  simp only at hc hd hc2 hd2
  subst hc hd hc2 hd2
  exact call_meets F.slot_tuple_lt ⟨_, ho, rfl⟩ F.entry_tuple_lt (F.args_tuple_lt_2 _ _) (SeqAt.tuple_ltAt l b items items2 n n2 dd dd2 sl sl2 e r) ⟨ho, ho2, he, hr, h⟩
theorem oneLt_tup {xs ys : List PyData} {a b : Value} {as bs : List Addr} {Q : Bool → Shared → Prop} (ra : Reads s.heap a (.tuple xs) as) (rb : Reads s.heap b (.tuple ys) bs) (hal : alikeAll xs ys = true)
    (hu : A.units + min (PyData.tuple xs).depth (PyData.tuple ys).depth < cLine) (hq : Q (dataLt (.tuple xs) (.tuple ys)) s) : wpAny (model prog w) A (oneLt' true a b) Q E s := by
  cases ra with
  | @tuple l o vs n _ as₁ h1 h2 h3 h4 =>
    cases rb with
    | @tuple l' o' vs' n' _ bs₁ k1 k2 k3 k4 =>
      have n1 : vs.size = xs.length := by simpa using SeqAt.ReadsAll.length _ _ _ h4
      have n2 : vs'.size = ys.length := by simpa using SeqAt.ReadsAll.length _ _ _ k4
      rw [dataLt_tuple, ← firstLt_toks xs ys hal, ← n1, ← n2] at hq
      rw [oneLt'_eq]
      simp only [if_true]
      refine wpAny_bind (wpAny_cRoomFor (SeqAt.room_here hu) ?_)
      refine wpAny_bind (wpAny_callSpecialIfBound?_slot (T := "tuple") ⟨_, h1, h2⟩ F.slot_tuple_lt (tup_lt (e := SeqAt.pairEq xs ys) (r := fun j => dataLt (xs.getD j .none) (ys.getD j .none)) ⟨_, h1, h2, _, h3⟩ ⟨_, k1, k2, _, k3⟩ (fun j j1 j2 => ?_) (fun j j1 j2 hj => ?_) ?_))
      · have := eqAt_alikeAll xs ys A.in1 s vs.toList vs'.toList _ _ h4 k4 hal (SeqAt.room_in hu) j (by simpa using j1) (by simpa using j2)
        simpa using this
      · have := rcLt_alikeAll xs ys A.in1 s vs.toList vs'.toList _ _ h4 k4 hal (SeqAt.room_in hu) j (by simpa using j1) (by simpa using j2) hj
        simpa using this
      · exact wpAny_truthy_bool hq
def fullT : PyData → Bool
  | .tuple (_ :: _) => true
  | _ => false
/-- the first items of tuples -/
theorem firsts_run : ∀ {vs : List Value} {ds : List PyData}, EachIs (fun v d => ∃ as, Reads s.heap v d as) vs ds → (∀ d ∈ ds, tupleD d = true) → ∃ fs : List (Option Value), fs.map Option.isSome = ds.map fullT ∧ (∀ (E : Value → Shared → Prop) (Q : List (Option Value) → Shared → Prop), Q fs s → wpAny (model prog w) A (vs.mapM firstOfTuple') Q E s)
  | _, _, .nil, _ => ⟨[], rfl, fun E Q h => by rw [List.mapM_nil]; exact wpAny_pure h⟩
  | _, _, .cons (b := d) ⟨as, r⟩ t, ht => by
    obtain ⟨fs, h1, h2⟩ := firsts_run t fun d hd => ht d (List.mem_cons_of_mem _ hd)
    have hdd := ht d List.mem_cons_self
    cases r with
    | @tuple a o xs n ds as ho hc hd hr =>
      refine ⟨xs[0]? :: fs, ?_, fun E Q h => ?_⟩
      · rw [List.map_cons, List.map_cons, h1]
        congr 1
        have n1 : xs.size = ds.length := by simpa using SeqAt.ReadsAll.length _ _ _ hr
        cases ds with
        | nil =>
          have : xs.size = 0 := n1
          simp [this, fullT]
        | cons d ds =>
          have : 0 < xs.size := by rw [n1]; simp
          simp [this, fullT]
      · rw [List.mapM_cons]
        refine wpAny_bind ?_
        rw [kas_first_eq]
        refine wpAny_bind (Looks.here (show Looks (model prog w) s.heap (typeOf (.ref a)) o.cls from (Looks.ld ho).andThen .now) ?_)
        rw [hc, if_neg (by first | decide | simp)]
        refine wpAny_bind (listItems_at ho hd (wpAny_pure ?_))
        exact wpAny_bind (h2 E (fun bs s' => wpAny (model prog w) A (pure (xs[0]? :: bs)) Q E s') (wpAny_pure h))
    | _ => cases hdd
/-- alike tuples can be sorted, empty ones among them too -/
theorem sorts_mixed {vs : List Value} {ds : List PyData} (e : EachIs (fun v d => ∃ as, Reads s.heap v d as) vs ds) (hal : AllAlike ds) (ht : ∀ d ∈ ds, tupleD d = true) (hm : ds.all fullT = false) (hu : ∀ d, d ∈ ds → A.units + d.depth < cLine) : SortsAt prog w A s (dataKind s.heap ds) vs := by
  have room : ∀ {d d' : PyData}, d ∈ ds → A.units + min d.depth d'.depth < cLine := fun {d d'} hd => Nat.lt_of_le_of_lt (Nat.add_le_add_left (Nat.min_le_left _ _) _) (hu d hd)
  have inv : ∀ {d}, d ∈ ds → ∃ xs, d = .tuple xs := fun {d} hd => by
    have := ht d hd
    cases d <;> first | exact ⟨_, rfl⟩ | cases this
  refine ⟨fun v hv => ?_, ?_⟩
  · obtain ⟨d, hd, as, r⟩ := e.left v hv
    exact ⟨_, dataKind_some hal hd r⟩
  obtain ⟨fs, f1, f2⟩ := firsts_run (prog := prog) (w := w) (A := A) e ht
  have hns : fs.toArray.all (fun x => x.isSome) = false := by
    rw [List.all_toArray]
    have : fs.all Option.isSome = ds.all fullT := by
      have q : ∀ l : List (Option Value), l.all Option.isSome = (l.map Option.isSome).all id := fun l => by rw [List.all_map]; rfl
      have q2 : ∀ l : List PyData, l.all fullT = (l.map fullT).all id := fun l => by rw [List.all_map]; rfl
      rw [q, q2, f1]
    exact this.trans hm
  have hT : ∀ v ∈ vs, Looks (model prog w) s.heap (typeOf v) (.type "tuple") := fun v hv => by
    obtain ⟨d, hd, as, r⟩ := e.left v hv
    obtain ⟨xs, rfl⟩ := inv hd
    exact looks_reads r
  by_cases hf : ((fs.toArray[0]?).bind id).isSome = true
  · refine ⟨general', ?_, fun h2 E Q hq => ?_⟩
    · intro E x y a b Q ha hb hq
      obtain ⟨d, as, hd, ra, rfl⟩ := dataKind_inv ha
      obtain ⟨d', as', hd', rb, rfl⟩ := dataKind_inv hb
      show wpAny (model prog w) A (oneLt' false x y) Q E s
      refine oneLt_alike (fun h => absurd h Bool.false_ne_true) ra rb (hal d hd d' hd') (fun h => ?_) (room hd) hq
      obtain ⟨xs, e2⟩ := inv hd
      rw [e2] at h; cases h
    · rw [keyKind'_eq, List.mapM_toArray, map_eq_pure_bind]
      refine wpAny_bind (wpAny_bind (f2 E _ (wpAny_pure ?_)))
      rw [if_neg (by rw [hns]; decide), if_pos hf]
      exact wpAny_pure hq
  · refine ⟨oneType', ?_, fun h2 E Q hq => ?_⟩
    · intro E x y a b Q ha hb hq
      obtain ⟨d, as, hd, ra, rfl⟩ := dataKind_inv ha
      obtain ⟨d', as', hd', rb, rfl⟩ := dataKind_inv hb
      rw [keyLt'_oneType]
      obtain ⟨xs, rfl⟩ := inv hd
      obtain ⟨ys, rfl⟩ := inv hd'
      exact oneLt_tup ra rb (by simpa [alike] using hal _ hd _ hd') (room hd) hq
    · obtain ⟨v₁, rest, rfl⟩ : ∃ v₁ rest, vs = v₁ :: rest := by
        cases vs with
        | nil => simp at h2
        | cons a l => exact ⟨a, l, rfl⟩
      rw [keyKind'_eq, List.mapM_toArray, map_eq_pure_bind]
      refine wpAny_bind (wpAny_bind (f2 E _ (wpAny_pure ?_)))
      rw [if_neg (by rw [hns]; decide), if_neg hf]
      rw [oneTypeOnly'_eq, List.mapM_toArray, map_eq_pure_bind]
      refine wpAny_bind (wpAny_bind (wpAny_bind (kas_mapM (r := Value.type "tuple") _ (fun v hv Q' hq => (hT v hv).here hq) (wpAny_pure ?_))))
      have hall : ((List.map (fun _ => Value.type "tuple") (v₁ :: rest)).toArray.all fun x => x == Value.type "tuple") = true := by
        simp only [List.all_toArray, List.all_map, List.all_eq_true]
        intro _ _
        rfl
      have h0 : (List.map (fun _ => Value.type "tuple") (v₁ :: rest)).toArray[0]? = some (Value.type "tuple") := by simp
      rw [h0]
      simp only [hall, if_true]
      exact wpAny_pure (wpAny_pure hq)
theorem sorts_of {vs : List Value} {ds : List PyData} (e : EachIs (fun v d => ∃ as, Reads s.heap v d as) vs ds) (hal : AllAlike ds) (hk : sortK ds = true) (hu : ∀ d, d ∈ ds → A.units + d.depth < cLine) : SortsAt prog w A s (dataKind s.heap ds) vs := by
  unfold sortK at hk
  rcases Bool.or_eq_true_iff.mp hk with h | h
  · have h := List.all_eq_true.mp h
    cases hm : ds.all fullT with
    | false => exact sorts_mixed e hal h hm hu
    | true =>
      have hm := List.all_eq_true.mp hm
      refine SortsAt.data e hal (.inl fun d hd => ?_) hu
      have := hm d hd
      cases d with
      | tuple xs => cases xs with
        | nil => cases this
        | cons x r => exact ⟨x, r, rfl⟩
      | _ => cases this
  · have h := List.all_eq_true.mp h
    refine SortsAt.data e hal (.inr fun d hd => ?_) hu
    have := h d hd
    cases d with
    | none => cases this
    | tuple xs => cases this
    | _ => exact ⟨(by intro h; cases h), (by intro xs h; cases h)⟩
end
/-! sorted(t), t a tuple -/
section
variable {prog : Program} {w : World} {A : Around} {E : Value → Shared → Prop} {s : Shared} {κ : PyProof.Rows.KeyKind}
theorem collect_tup {l : Addr} {vs : List Value} {Q : List Value → Shared → Prop} (hl : s.heap.IsTuple l vs.toArray)
    (h : Q vs { s with heap := (s.heap.push (seqObj "list" #[] 0)).update s.heap.objs.size (Obj.mapSeq (· ++ vs.toArray)) }) (hsz : vs.length ≤ sizeLine := by size_fits) :
    wpAny (model prog w) A (collect (.ref l)) Q E s := by
  obtain ⟨o, ho, hc, n, hd⟩ := id hl
  unfold collect
  refine wpAny_bind (wpAny_runValue (codeAny_builtin entry_proto_collect' ?_))
  show wpAny _ _ (do again (.builtin "list.__iadd__" ⟨[← newList [], .ref l], []⟩)) _ _ s
  refine wpAny_bind (wpAny_newList (wpAny_pure ⟨Code.quiet_builtin _ (by decide +kernel), codeAny_builtin entry_list_iadd' ?_⟩))
  show wpAny _ _ (Builtin.List.listExtendWith (.ref s.heap.objs.size) (.ref l) (.ref s.heap.objs.size)) _ _ { s with heap := s.heap.push (seqObj "list" #[] 0) }
  unfold Builtin.List.listExtendWith
  have ho' : (s.heap.push (seqObj "list" #[] 0)).get? l = some o := Heap.get?_push_of_some _ ho
  refine wpAny_bind (wpAny_typeOf (T := "tuple") ⟨o, ho', hc⟩ ?_)
  have ht : (Value.type "tuple" == Value.type "tuple") = true := by rfl
  rw [if_pos (by rw [ht]; simp)]
  refine wpAny_bind (listItems_at ho' hd ?_)
  refine wpAny_bind (listItems_at (xs := #[]) (n := 0) (Heap.get?_push_size _ rfl) rfl ?_)
  rw [if_neg (by simp)]
  refine wpAny_bind (listUpdate_at (xs := #[]) (n := 0) (Heap.get?_push_size _ rfl) rfl ?_ (Nat.zero_le _) (by show (#[] ++ vs.toArray).size ≤ sizeLine + 1; simp only [Array.size_append, List.size_toArray, List.length_nil]; omega))
  refine wpAny_pure ?_
  show wpAny (model prog w) A (do
      let o ← load s.heap.objs.size
      match o.data with
      | .seq xs _ => pure xs.toList
      | _ => unsupported "internal:collect") Q E { s with heap := (s.heap.push (seqObj "list" #[] 0)).update s.heap.objs.size (Obj.mapSeq (· ++ vs.toArray)) }
  refine wpAny_bind (wpAny_load (get?_update_seq (Heap.get?_push_size _ rfl) _) ?_)
  show wpAny _ _ (pure ((#[] : Array Value) ++ vs.toArray).toList) Q E _
  rw [show ((#[] : Array Value) ++ vs.toArray).toList = vs by simp]
  exact wpAny_pure h
theorem sorted_valsT {l : Addr} {vs : List Value} {Q : Value → Shared → Prop} (hl : s.heap.IsTuple l vs.toArray) (S : SortsAt prog w A.in1.in1 { s with heap := sortingHeap (copyHeap s.heap vs) (s.heap.objs.size + 1) vs } κ vs) (hL : vs.length ≤ sizeLine)
    (h : Q (.ref (s.heap.objs.size + 1)) { s with heap := sortedAll s.heap vs (sortVals κ false vs vs).toArray }) : wpAny (model prog w) A (call (.builtin "sorted") [.ref l]) Q E s := by
  refine call_function_entry_kw kind_sorted plain_sorted entry_sorted (args_sorted1 _) ?_
  unfold Builtin.«sorted»
  refine wpAny_bind (m := checkCount "sorted" 1 1 _) (wpAny_pure ?_)
  refine wpAny_bind (collect_tup hl ?_ hL)
  refine wpAny_bind (wpAny_newList ?_ hL)
  have hsz : ((s.heap.push (seqObj "list" #[] 0)).update s.heap.objs.size (Obj.mapSeq (· ++ vs.toArray))).objs.size = s.heap.objs.size + 1 := by
    rw [Heap.size_update, size_push']
  show wpAny _ _ _ _ _ { s with heap := copyHeap s.heap vs }
  rw [hsz]
  refine wpAny_bind (wpAny_holding (wpAny_call_entry_kw slot_list_sort ⟨_, copyHeap_at s.heap vs, rfl⟩ entry_list_sort ?body (args_list_sort _)))
  case body =>
    show wpAny (model prog w) A.in1.in1 (Builtin.«list.sort» ⟨[.ref (s.heap.objs.size + 1)], []⟩) _ _ _
    exact list_sort_vals (s := { s with heap := copyHeap s.heap vs }) (copyHeap_at s.heap vs) S hL ⟨_, rfl, wpAny_pure ⟨_, rfl, h⟩⟩
end
/-! as a rule of the layer -/
def rSortQ (K : PySem.W.Frag) : List V → Hp → VK → Prop := fun vs H Q => ∃ (a : Addr) (ps : List (V × PyData)), vs = [V.ref a] ∧ (SqL K H a (ps.map (·.1)) ∨ SqT K H a (ps.map (·.1))) ∧ DpAll K H (ps.map (·.1)) (ps.map (·.2)) ∧ AllAlike (ps.map (·.2)) ∧ sortK (ps.map (·.2)) = true ∧ (∀ d ∈ ps.map (·.2), d.depth ≤ 64) ∧
  ∀ p, H p = none → Q (.ref p) (upd H p (.lst ((ps.mergeSort (dataLe false (·.2))).map (·.1))))
theorem each_vals : ∀ {ps : List (V × PyData)} {us : List Value}, Vals (ps.map (·.1)) us → EachIs (fun v (b : V × PyData) => RelV b.1 v) us ps
  | [], us, h => by
    have h : Vals [] us := h
    cases h; exact .nil
  | p :: ps, us, h => by
    have h : Vals (p.1 :: ps.map (·.1)) us := h
    cases h with
    | cons a r => exact .cons a (each_vals r)
theorem vals_each : ∀ {ps : List (V × PyData)} {us : List Value}, EachIs (fun v (b : V × PyData) => RelV b.1 v) us ps → Vals (ps.map (·.1)) us
  | _, _, .nil => .nil
  | _, _, .cons a r => .cons a (vals_each r)
theorem cr_sortedQ {X : Cx} (hu : X.A.units + 200 < cLine) : CallR X (.builtin "sorted") (rSortQ X.K) := by
  intro pins s σ H vs us Q I r h
  obtain ⟨a, ps, rfl, hs, hd, hal, hk, hdp, q⟩ := h
  obtain ⟨its, rv, hl, hz⟩ : ∃ its : List Value, Vals (ps.map (·.1)) its ∧ (s.heap.IsList a its.toArray ∨ s.heap.IsTuple a its.toArray) ∧ (ps.map (·.1)).length ≤ sizeLine := by
    rcases hs with hs | hs
    · obtain ⟨its, rv, hl, hz⟩ := I.list hs
      exact ⟨its, rv, .inl hl.isList, hz⟩
    · obtain ⟨its, rv, hl, hz⟩ := I.tuple hs
      exact ⟨its, rv, .inr hl, hz⟩
  rw [Vals.ref1 r]
  obtain ⟨as, hr⟩ := Dp.readsAll I _ _ _ hd rv
  have e := each_vals rv
  have er : EachIs (fun v (b : V × PyData) => ∃ as, Reads s.heap v b.2 as) its ps := readsAll_each (fun b : V × PyData => b.2) hr
  have er' : EachIs (fun v (b : V × PyData) => ∃ as, Reads (sortingHeap (copyHeap s.heap its) (s.heap.objs.size + 1) its) v b.2 as) its ps := er.mono fun _ _ ⟨as, r⟩ => ⟨as, PyProof.Rows.Reads.keeps (fun _ _ => sorting_copy_old) r⟩
  have hlen : its.length = ps.length := by rw [← rv.length, List.length_map]
  rw [List.length_map] at hz
  have hS : SortsAt X.prog X.w X.A.in1.in1 { s with heap := sortingHeap (copyHeap s.heap its) (s.heap.objs.size + 1) its } _ its := sorts_of (s := { s with heap := sortingHeap (copyHeap s.heap its) (s.heap.objs.size + 1) its }) (each_map (R := fun v d => ∃ as, Reads (sortingHeap (copyHeap s.heap its) (s.heap.objs.size + 1) its) v d as) (fun b : V × PyData => b.2) er') hal hk (fun d hd => by
    have := hdp d hd
    show X.A.units + 1 + 1 + d.depth < cLine
    omega)
  have fin : ∀ out, out = sortVals _ false its its → (∃ v H', Inv X pins σ H' { s with heap := sortedAll s.heap its out.toArray } ∧ RelV v (.ref (s.heap.objs.size + 1)) ∧ Q v H') := fun out ho => by
    have e2 := sortVals_data (enc := fun b : V × PyData => b.2) false e er' hal
    rw [← ho] at e2
    obtain ⟨ep, he'⟩ := PyProof.Rows.sortedAll_at s.heap its out.toArray
    have hv := vals_each e2
    have hl2 : ((ps.mergeSort (dataLe false (·.2))).map (·.1)).length ≤ sizeLine := by rw [List.length_map, List.length_mergeSort]; exact hz
    exact ⟨.ref _, upd H (s.heap.objs.size + 1) (.lst ((ps.mergeSort (dataLe false (·.2))).map (·.1))), I.laid (t' := s.toks) (fun _ _ => PyProof.Rows.sortedAll_old) (Nat.le_succ _) ⟨hl2, out, ep, hv, he'⟩, rfl, q _ (I.hok.fresh (Nat.le_succ _))⟩
  rcases hl with hl | hl
  · exact sorted_vals hl hS (by rw [hlen]; exact hz) (fin _ rfl)
  · exact sorted_valsT hl hS (by rw [hlen]; exact hz) (fin _ rfl)
theorem rps_pairs {H : Hp} {ms : Cells} : ∀ {ps : List (V × PyData)}, (∀ p ∈ ps, Rp H ms p.1 p.2) → Rps H ms (ps.map (·.1)) (ps.map (·.2))
  | [], _ => .nil
  | p :: ps, h => .cons (h p List.mem_cons_self) (rps_pairs fun q hq => h q (List.mem_cons_of_mem _ hq))
theorem zip_rps {H : Hp} {ms : Cells} : ∀ {xs : List V} {ds : List PyData}, Rps H ms xs ds → ∃ ps : List (V × PyData), ps.map (·.1) = xs ∧ ps.map (·.2) = ds ∧ ∀ p ∈ ps, Rp H ms p.1 p.2
  | _, _, .nil => ⟨[], rfl, rfl, fun p h => by cases h⟩
  | _, _, .cons (v := v) (d := d) a r => by
    obtain ⟨ps, h1, h2, h3⟩ := zip_rps r
    refine ⟨(v, d) :: ps, by rw [List.map_cons, h1], by rw [List.map_cons, h2], fun p hp => ?_⟩
    rcases List.mem_cons.mp hp with e | hp
    · subst e; exact a
    · exact h3 p hp
theorem p_sorted {K : PySem.W.Frag} : PrimOk .sorted (rSortQ K) := by
  intro mg E H ms S vs ds d Q r hv hp hf
  have hp : pSorted ds = some d := hp
  have key : ∀ (xs : List PyData) (q : Addr) (us : List V), sortOk xs = true → some (PyData.list (sortL xs)) = some d → vs = [.ref q] → (SqL K H q us ∨ SqT K H q us) → us.length ≤ line → Rps H ms us xs → rSortQ K vs H Q := by
    intro xs q us hok hd hvs k1 k2 k3
    subst hvs
    cases hd
    obtain ⟨ps, e1, e2, h3⟩ := zip_rps k3
    unfold sortOk at hok
    simp only [Bool.and_eq_true] at hok
    obtain ⟨o1, o2, o3⟩ := hok
    refine ⟨q, ps, rfl, by rw [e1]; exact k1, by rw [e1, e2]; exact k3.dp, ?_, by rw [e2]; exact o2, ?_, fun p hp => ?_⟩
    · rw [e2]
      intro x hx y hy
      exact List.all_eq_true.mp (List.all_eq_true.mp o1 x hx) y hy
    · rw [e2]
      intro x hx
      exact of_decide_eq_true (List.all_eq_true.mp o3 x hx)
    · have em : (ps.mergeSort (dataLe false (·.2))).map (·.2) = sortL xs := by
        unfold sortL
        rw [← e2]
        exact List.map_mergeSort fun a _ b _ => rfl
      have hl : ((ps.mergeSort (dataLe false (·.2))).map (·.1)).length ≤ line := by
        rw [List.length_map, List.length_mergeSort]
        have := congrArg List.length e1
        rw [List.length_map] at this
        rw [this]; exact k2
      have hr : Rps H ms ((ps.mergeSort (dataLe false (·.2))).map (·.1)) (sortL xs) := by
        rw [← em]
        exact rps_pairs fun p hp => h3 p (List.mem_mergeSort.mp hp)
      exact hf.newL r hl hr hp
  unfold pSorted at hp
  split at hp
  · split at hp
    · rename_i xs _ hok
      obtain ⟨v, rfl, h⟩ := hv.one
      obtain ⟨q, us, rfl, k1, k2, k3⟩ := h.lst
      exact key xs q us hok hp rfl (.inl (SqL.of k1)) k2 k3
    · cases hp
  · split at hp
    · rename_i xs _ hok
      obtain ⟨v, rfl, h⟩ := hv.one
      obtain ⟨q, us, rfl, k1, _, k2, k3⟩ := h.tup
      exact key xs q us hok hp rfl (.inr (SqT.of k1)) k2 k3
    · cases hp
  · cases hp
end Qv

/-! Snd9 -/
set_option maxHeartbeats 0
/-! try with clauses of both kinds; functions made and called. -/
namespace Qv
open PySem PySem.Spec PyProof.Rows L2
/-! ### several clauses, some keep the error -/
abbrev HdR := Value × Option Nat × (Addr → Value → Option Addr → TS)
def less (D : Ends) (i : Nat) : Ends where
  nx := fun σ H => D.nx (σ.set i none) H
  rt := D.rt
  bk := fun σ H => D.bk (σ.set i none) H
  ct := fun σ H => D.ct (σ.set i none) H
def wMix (K : PySem.W.Frag) (Wo : WX) (D : Ends) : List HdR → WX
  | [] => Wo
  | (c, none, ts) :: r => fun cls d σ H => ∃ b, PySem.W.exmOne K cls c = some b ∧ ((b = true → ∀ a, H a = none → ts a cls d D σ H) ∧ (b = false → wMix K Wo D r cls d σ H))
  | (c, some i, ts) :: r => fun cls d σ H => ∃ b, PySem.W.exmOne K cls c = some b ∧ ((b = true → ∀ a, H a = none → ts a cls d (less D i) (σ.set i (some (.ref a))) H) ∧ (b = false → wMix K Wo D r cls d σ H))
inductive HdsMix (X : Cx) : List ExceptHandler → List HdR → Prop
  | nil : HdsMix X [] []
  | cons {x : Str} {c : Value} {ts : Addr → Value → Option Addr → TS} {st : Stmt} {su : List Stmt} {p1 p2 : Pos} {hs : List ExceptHandler} {l : List HdR} (hc : Names X x c)
      (hu : ∀ (a : Addr) (oe : Obj) (cls : Value) (d : Option Addr) (pn : List (Addr × Obj)), Zc cls d oe → (∃ vs, oe.data = .fields vs) → PSs (X.suite a ((a, oe) :: pn)) (st :: su) (ts a cls d)) (r : HdsMix X hs l) :
      HdsMix X (.ExceptHandler (some (.Name x p1)) none (st :: su) p2 :: hs) ((c, none, ts) :: l)
  | keep {x n : Str} {i : Nat} {c : Value} {ts : Addr → Value → Option Addr → TS} {st : Stmt} {su : List Stmt} {p1 p2 : Pos} {hs : List ExceptHandler} {l : List HdR} (hc : Names X x c) (hN : X.N.Nodup) (hi : X.N[i]? = some n) (hl : X.env.kindOf n = some .local)
      (hu : ∀ (a : Addr) (oe : Obj) (cls : Value) (d : Option Addr) (pn : List (Addr × Obj)), Zc cls d oe → (∃ vs, oe.data = .fields vs) → PSs (X.suite a ((a, oe) :: pn)) (st :: su) (ts a cls d)) (r : HdsMix X hs l) :
      HdsMix X (.ExceptHandler (some (.Name x p1)) (some n) (st :: su) p2 :: hs) ((c, some i, ts) :: l)
section
variable {X : Cx} {body : List Stmt} {h0 : ExceptHandler} {hds : List ExceptHandler} {l : List HdR} {pos : Pos} {tb : WX → TS} {Wo : WX}
theorem ps_try_mix (hst : X.stack = X.env :: X.outer) (hfm : X.env.frame = some X.env.locals) (tk : Takes X Wo)
    (hb : ∀ (W : WX) (pn : List (Addr × Obj)) (xe : Value → Shared → Prop), Takes (X.tr pn xe) W → PassesOwn (model X.prog X.w) X.A X.env xe → PSs (X.tr pn xe) body (tb W))
    (hh : HdsMix X (h0 :: hds) l) : PS X (.Try body (h0 :: hds) [] [] pos) (fun D σ H => tb (wMix X.K Wo D l) D σ H) := by
  refine ⟨fun pins s σ H D I h => ?_⟩
  have ok := I.ok
  have frs0 : X.A.frames = some (X.env :: X.outer) := by rw [ok.frames, hst]
  refine wpAny_Try_except (wpAny_mono ((hb (wMix X.K Wo D l) (X.pn ++ pins) (fun e s1 => wpAny (model X.prog X.w) X.A (noteFrame e X.env) (fun _ s2 => wpAny (model X.prog X.w) X.A (setFlight e none) (fun _ s3 =>
    wpAny (model X.prog X.w) X.A (handleBy e X.env (h0 :: hds)) (SP X pins D) X.xe s3) X.xe s2) X.xe s1) (fun u s' xx => ?_) PassesOwn.looking).run [] s σ H D (I.toTry _) h) (fun f s1 hsp => ?_) (fun _ _ he => he))
  · obtain ⟨a, B, sI, pins2, σ', H', cls, d, rfl, J1, nb, up, sky, na, os, ag, w⟩ := xx
    have J0 : Inv X pins σ' H' sI := J1.ofTry ok
    have sky1 : Sky B (X.env :: X.outer) a (Zc cls d) X.env.locals s'.heap := by rw [← hst]; exact sky
    refine Sky.land Zc.steady frs0 hfm sky1 fun h3 fl3 up3 => ?_
    have J3 : Inv X pins σ' H' { s' with heap := h3 } := J0.landed nb fl3.1 (up.trans up3) os ag
    obtain ⟨oe3, vs3, he3, hz3, hd3⟩ := fl3.there
    have out : a ∉ frs (X.env :: X.outer) := fun hm => by
      obtain ⟨_, o2, e2, hn⟩ := fl3.2.2.1.mem hm
      rw [he3] at e2; cases e2; exact hn _ hd3
    have nL : a ≠ X.env.locals := fun z => out (List.mem_filterMap.mpr ⟨X.env, .head _, by rw [hfm, z]⟩)
    have nF : a ∉ X.fs := fun hm => by
      obtain ⟨e, he, q⟩ := List.mem_filterMap.mp hm
      exact out (List.mem_filterMap.mpr ⟨e, .tail _ he, q⟩)
    have S3 := J3.suite he3 hd3 na nL nF
    have LT : PySem.W.Looks (model X.prog X.w) h3 (typeOf (.ref a)) cls := fun A Q E s k q => wpAny_typeOf_ref (k _ _ he3) (by rw [hz3.1]; exact q)
    have name : ∀ {x : Str} {c : Value} {np : Pos} {Q E : Value → Shared → Prop}, Names X x c → Q c { s' with heap := h3 } → wpAny (model X.prog X.w) (X.A.mark (some (.ref a))) (eval (.Name x np) X.env) Q E { s' with heap := h3 } := fun {x c np Q E} hc q => by
      obtain ⟨hg, hdb, hm | ⟨hm, hv, hn⟩⟩ := hc
      · exact ld_glob (X := X.suite a ((a, oe3) :: (X.pn ++ pins))) S3 hg hm q hdb
      · exact ld_blt (X := X.suite a ((a, oe3) :: (X.pn ++ pins))) S3 hg hm hv q hn hdb
    have go : ∀ {hs' : List ExceptHandler} {l' : List HdR}, HdsMix X hs' l' → wMix X.K Wo D l' cls d σ' H' → wpAny (model X.prog X.w) X.A (handleBy (.ref a) X.env hs') (SP X pins D) X.xe { s' with heap := h3 } := by
      intro hs' l' hk
      induction hk with
      | nil =>
        intro w
        obtain ⟨k1, k2, k3, oe, vs, T, oT, ts', he, hz, hd, h1, hr⟩ := id fl3
        refine wpAny_handleBy_nil ?_
        unfold PySem.passOn
        refine wpAny_bind (wpAny_field he hd h1 ?_)
        rw [if_neg (by simp : ¬ ((Value.ref T == Value.none) = true))]
        have fin : wpAny (model X.prog X.w) X.A (setFlight (.ref a) X.env.frame) (fun _ s4 => wpAny (model X.prog X.w) X.A (throw (.ref a) : Sem Flow) (SP X pins D) X.xe s4) X.xe { s' with heap := h3 } := by
          rw [hfm]; refine HandSPX.setFlight_upZ fl3 fun h4 hh4 up4 => wpAny_throw (tk _ _ ⟨a, B, sI, pins, σ', H', cls, d, rfl, J0, nb, (up.trans up3).trans up4, .inr (.inr (by rw [hst]; exact hh4)), na, os, ag, w⟩)
        first | exact wpAny_bind (wpAny_pure (wpAny_bind fin)) | exact wpAny_bind fin
      | @cons x c ts st su p1 p2 hs2 l2 hc hu r ih =>
        rintro ⟨b, hb1, hy, hno⟩
        refine wpAny_handleBy_cons (codeAny_handlers_test (name hc ((PySem.W.exm_one (M := model X.prog X.w) J3.kIn LT hb1).here ?_))) (fun q => nomatch q)
        cases b with
        | false => exact ih (hno rfl)
        | true =>
          refine codeAny_handlers_suite (HandSPX.lands_againZ fl3 fun h4 fl4 up4 => ?_)
          obtain ⟨oe4, vs4, he4, hz4, hd4⟩ := fl4.there
          have L4 : Inv X pins σ' H' { s' with heap := h4 } := J0.landed nb fl4.1 ((up.trans up3).trans up4) os ag
          have S4 := Inv.suite L4 he4 hd4 na nL nF
          refine wpAny_mono ((hu a oe4 cls d (X.pn ++ pins) hz4 ⟨_, hd4⟩).run [] _ _ H' _ S4 (hy rfl a na)) (fun f s6 q => ?_) (fun _ _ z => z.elim)
          cases f with
          | ret u => obtain ⟨v6, σ6, H6, S6, r6, q6⟩ := q; exact ⟨v6, σ6, H6, S6.unsuite ok, r6, q6⟩
          | next => obtain ⟨σ6, H6, S6, q6⟩ := q; exact ⟨σ6, H6, S6.unsuite ok, q6⟩
          | brk => obtain ⟨σ6, H6, S6, q6⟩ := q; exact ⟨σ6, H6, S6.unsuite ok, q6⟩
          | cont => obtain ⟨σ6, H6, S6, q6⟩ := q; exact ⟨σ6, H6, S6.unsuite ok, q6⟩
      | @keep x n i c ts st su p1 p2 hs2 l2 hc hN hi hl hu r ih =>
        rintro ⟨b, hb1, hy, hno⟩
        refine wpAny_handleBy_cons (codeAny_handlers_test (name hc ((PySem.W.exm_one (M := model X.prog X.w) J3.kIn LT hb1).here ?_))) (fun q => nomatch q)
        cases b with
        | false => exact ih (hno rfl)
        | true =>
          refine codeAny_handlers_suite_as (HandSPX.lands_againZ fl3 fun h4 fl4 up4 => ?_)
          obtain ⟨oe4, vs4, he4, hz4, hd4⟩ := fl4.there
          have L4 : Inv X pins σ' H' { s' with heap := h4 } := J0.landed nb fl4.1 ((up.trans up3).trans up4) os ag
          have S4 := Inv.suite L4 he4 hd4 na nL nF
          refine store_ok (X := X.suite a ((a, oe4) :: (X.pn ++ pins))) (v := .ref a) S4 hN hi (.inl hl) rfl (fun s5 S5 => ?_) (.inr hl)
          refine wpAny_mono ((hu a oe4 cls d (X.pn ++ pins) hz4 ⟨_, hd4⟩).run [] s5 _ H' _ S5 (hy rfl a na)) (fun f s6 q => ?_) (fun _ _ z => z.elim)
          have gone : ∀ {σ6 : L2.St} {H6 : Hp} {Q : Shared → Prop}, Inv (X.suite a ((a, oe4) :: (X.pn ++ pins))) [] σ6 H6 s6 → (∀ s7, Inv X pins (σ6.set i none) H6 s7 → Q s7) →
              wpAny (model X.prog X.w) X.A (do bindName X.env n .none; unbindBehindTheSuite X.env n p2) (fun _ s7 => Q s7) X.xe s6 := fun {σ6 H6 Q} S6 hq => gone_ok (S6.unsuite ok) hN hi hl hq
          cases f with
          | ret u => obtain ⟨v6, σ6, H6, S6, r6, q6⟩ := q; exact gone S6 fun s7 J7 => ⟨_, _, _, J7, r6, q6⟩
          | next => obtain ⟨σ6, H6, S6, q6⟩ := q; exact gone S6 fun s7 J7 => ⟨_, _, J7, q6⟩
          | brk => obtain ⟨σ6, H6, S6, q6⟩ := q; exact gone S6 fun s7 J7 => ⟨_, _, J7, q6⟩
          | cont => obtain ⟨σ6, H6, S6, q6⟩ := q; exact gone S6 fun s7 J7 => ⟨_, _, J7, q6⟩
    exact go hh w
  · cases f with
    | ret u => obtain ⟨v, σ', H', J', r, q⟩ := hsp; exact ⟨v, σ', H', J'.ofTry ok, r, q⟩
    | next => obtain ⟨σ', H', J', q⟩ := hsp; exact wpAny_execs_nil ⟨σ', H', J'.ofTry ok, q⟩
    | brk => obtain ⟨σ', H', J', q⟩ := hsp; exact ⟨σ', H', J'.ofTry ok, q⟩
    | cont => obtain ⟨σ', H', J', q⟩ := hsp; exact ⟨σ', H', J'.ofTry ok, q⟩
end
end Qv

/-! Snd10 -/
set_option maxHeartbeats 0
/-! the law's word for the error of a call. -/
namespace Qv
open PySem PySem.Spec PyProof.Rows L2 LamX
def excNames : List Str := ["InvalidWeb", "InvalidLot", "InvalidPlace", "InvalidWay", "InvalidSteps", "InvalidNumber", "InvalidColours", "InvalidFacts", "InvalidText", "Unlike", "NoLot", "Ringed", "NothingToUndo", "OddRing", "TooMany"]
/-- what is known of the classes of errors -/
structure ExcOk (K : PySem.W.Frag) (mg : Str → Option Value) : Prop where
  g : ∀ c ∈ excNames, mg c = some (.ref (He.ga K c))
  m : ∀ c ∈ excNames, ∀ h ∈ excNames, PySem.W.exmOne K (.ref (He.ga K c)) (.ref (He.ga K h)) = some (decide (c = h))
  f : XfC K (He.ga K "TooMany")
  nl : PySem.W.findIn K (.ref (He.ga K "TooMany")) "limit" = some none
/-- _law_found = z -/
def tW (z : Str) : TS := fun D σ H => D.nx (σ.set 1 (some (.str z))) H
section
variable {Y : Cx} {x z : Str} {C : Addr} {j : Nat} {p1 p2 p3 p4 p5 p6 p7 p8 p9 p10 : Pos} {hs : List ExceptHandler} {l : List HdR}
theorem ss_word (hN : Y.N.Nodup) (h1 : Y.N[1]? = some ("_law_found" : Str)) (hl : Y.env.scope.names.lookup ("_law_found" : Str) = some .local) : PSs Y [.Assign [.Name "_law_found" p2] (.Constant (.str z) j p3) p4] (tW z) :=
  pss_imp (pss_one (ps_set (i := 1) hN h1 (.inl hl) pe_str rfl (.inr hl))) fun D σ H q => q
theorem hd_plain (hg : Gl Y x) (hm : Y.mg x = some (.ref C)) (hN : Y.N.Nodup) (h1 : Y.N[1]? = some ("_law_found" : Str)) (hl : Y.env.scope.names.lookup ("_law_found" : Str) = some .local) (r : HdsMix Y hs l) (hd : (x == ("__debug__" : Str)) = false := by decide) :
    HdsMix Y (.ExceptHandler (some (.Name x p1)) none [.Assign [.Name "_law_found" p2] (.Constant (.str z) j p3) p4] p5 :: hs) ((.ref C, none, fun _ _ _ => tW z) :: l) :=
  .cons ⟨hg, hd, .inl hm⟩ (fun a oe cls d pn _ _ => ss_word hN h1 hl) r
/-- a clause that is never reached -/
theorem hd_never {st : Stmt} {su : List Stmt} (hg : Gl Y x) (hm : Y.mg x = some (.ref C)) (hN : Y.N.Nodup) (h2 : Y.N[2]? = some ("e" : Str)) (hl : Y.env.kindOf "e" = some .local) (r : HdsMix Y hs l) (hd : (x == ("__debug__" : Str)) = false := by decide) :
    HdsMix Y (.ExceptHandler (some (.Name x p1)) (some "e") (st :: su) p5 :: hs) ((.ref C, some 2, fun _ _ _ _ _ _ => False) :: l) :=
  .keep ⟨hg, hd, .inl hm⟩ hN h2 hl (fun a oe cls d pn _ _ => ⟨fun pins s σ H D I q => q.elim⟩) r
/-- _law_found = "full" + str(e.limit) -/
def tMany (a : Addr) (cls : Value) (d : Option Addr) (C : Addr) : TS := fun D σ H => σ[2]? = some (some (.ref a)) ∧ cls = .ref C ∧ ∃ (dd : Addr) (i : Int), d = some dd ∧ H dd = some (.xd [("limit", .int i)]) ∧ ∃ z, fullText i = some z ∧ D.nx (σ.set 1 (some (.str z))) H
theorem boot_strQ : bootBuiltins "str" = some (.type "str") := by decide +kernel
theorem full_ok {i : Int} {z : Str} (h : fullText i = some z) : i.natAbs.log2 < 1920 ∧ ("full" : Str).length + ((toString i : String) : Str).length ≤ sizeLine ∧ ("full" : Str) ++ ((toString i : String) : Str) = z := by
  unfold fullText at h
  split at h
  · rename_i e; subst e; cases h; exact ⟨by decide, by rw [sizeLine_eq]; decide +kernel, by decide +kernel⟩
  · split at h
    · rename_i e; subst e; cases h; exact ⟨by decide, by rw [sizeLine_eq]; decide +kernel, by decide +kernel⟩
    · split at h
      · rename_i e; subst e; cases h; exact ⟨by decide, by rw [sizeLine_eq]; decide +kernel, by decide +kernel⟩
      · cases h
theorem hd_many (hg : Gl Y "TooMany") (hm : Y.mg "TooMany" = some (.ref C)) (T : XfC Y.K C) (hno : PySem.W.findIn Y.K (.ref C) "limit" = some none) (hN : Y.N.Nodup) (h1 : Y.N[1]? = some ("_law_found" : Str)) (h2 : Y.N[2]? = some ("e" : Str))
    (hl : Y.env.scope.names.lookup ("_law_found" : Str) = some .local) (he : Y.env.kindOf "e" = some .local) (hv : Vis Y.env.scope "e") (hgs : Gl Y "str") (hms : Y.mg "str" = none) (r : HdsMix Y hs l)
    (hb : ∀ e : Sem Value, attributeBase (.Name "e" p6) "limit" Y.env e = e := by intro _; rfl) :
    HdsMix Y (.ExceptHandler (some (.Name "TooMany" p1)) (some "e") [.Assign [.Name "_law_found" p2] (.BinOp (.Constant (.str "full") j p3) .Add (.Call (.Name "str" p4) [.Attribute (.Name "e" p6) "limit" p7] [] p8) p9) p5] p10 :: hs) ((.ref C, some 2, fun a cls d => tMany a cls d C) :: l) := by
  refine .keep ⟨hg, by decide, .inl hm⟩ hN h2 he (fun a oe cls d pn hz hf => ?_) r
  refine pss_imp (pss_one (ps_set (i := 1) (X := Y.suite a ((a, oe) :: pn)) hN h1 (.inl hl) (pe_op op_add_str pe_str (pe_callTy call_str_int hgs hms boot_strQ (pa_cons (pe_xf T hno hz hf (pe_var (i := 2) h2 hv) (hb _)) pa_nil))) rfl (.inr hl))) ?_
  intro D σ H q
  obtain ⟨q1, q2, dd, i, q3, q4, z, q5, q6⟩ := q
  obtain ⟨l1, l2, l3⟩ := full_ok q5
  subst l3
  exact ⟨.ref a, q1, rfl, q2, dd, _, .int i, q3, q4, rfl, i, rfl, l1, "full", _, rfl, rfl, l2, q6⟩
end
end Qv
namespace Qv
open PySem PySem.Spec PyProof.Rows L2 LamX
/-! ### the whole def -/
theorem pe_weak {X : Cx} {e : Expr} {t : TE} (h : PE X e t) : PE X e (fun σ H Q => ∃ Kq : VK, (∀ v H2, Kq v H2 → Q v H2) ∧ t σ H Kq) := ⟨fun pins s σ H Q I ⟨Kq, hK, q⟩ =>
  thn (h.run pins s σ H Kq I q) fun u s1 ⟨v, H1, I1, r1, q1⟩ => ⟨v, H1, I1, r1, hK _ _ q1⟩⟩
/-- what is wished of the lambda: the word goes on -/
def TTw (K : PySem.W.Frag) (mg : Str → Option Value) : (XK → Hp → VK → Prop) → Hp → VK → Prop := fun tl H Q =>
  tl (fun cls d H' => ∃ ms' x z, wordOf x = some z ∧ RpX mg H' ms' cls d x ∧ Q (.str z) H') H (fun _ H' => Q (.str "") H')
def plainL (K : PySem.W.Frag) (ws : List (Str × Str)) : List HdR := ws.map fun h => (.ref (He.ga K h.1), none, fun _ _ _ => tW h.2)
def wordL (K : PySem.W.Frag) : List HdR := plainL K plainWords ++ [(.ref (He.ga K "OddRing"), some 2, fun _ _ _ _ _ _ => False), (.ref (He.ga K "TooMany"), some 2, fun a cls d => tMany a cls d (He.ga K "TooMany")), (.ref (He.ga K "LotError"), none, fun _ _ _ => tW "base")]
section
variable {K : PySem.W.Frag} {mg : Str → Option Value} {Wo : WX} {D : Ends} {d : Option Addr} {σ : L2.St} {H : Hp}
theorem mix_in {c z : Str} {r : List HdR} : ∀ (ws : List (Str × Str)), (∀ h ∈ ws, PySem.W.exmOne K (.ref (He.ga K c)) (.ref (He.ga K h.1)) = some (decide (c = h.1))) → ws.lookup c = some z → D.nx (σ.set 1 (some (.str z))) H → wMix K Wo D (plainL K ws ++ r) (.ref (He.ga K c)) d σ H
  | [], _, h, _ => by cases h
  | (n, w) :: ws, hm, hl, q => by
    have h1 := hm (n, w) (.head _)
    show ∃ b, PySem.W.exmOne K (.ref (He.ga K c)) (.ref (He.ga K n)) = some b ∧ _
    refine ⟨_, h1, fun hb a _ => ?_, fun hb => mix_in ws (fun h hh => hm h (.tail _ hh)) ?_ q⟩
    · have e : c = n := of_decide_eq_true hb
      rw [List.lookup_cons, beq_iff_eq.mpr e] at hl
      cases hl; exact q
    · have e : ¬ c = n := of_decide_eq_false hb
      rw [List.lookup_cons, beq_eq_false_iff_ne.mpr e] at hl
      exact hl
theorem mix_past {c : Str} {r : List HdR} (hr : wMix K Wo D r (.ref (He.ga K c)) d σ H) : ∀ (ws : List (Str × Str)), (∀ h ∈ ws, PySem.W.exmOne K (.ref (He.ga K c)) (.ref (He.ga K h.1)) = some false) → wMix K Wo D (plainL K ws ++ r) (.ref (He.ga K c)) d σ H
  | [], _ => hr
  | (n, w) :: ws, hm => ⟨false, hm (n, w) (.head _), (fun z => nomatch z), fun _ => mix_past hr ws fun h hh => hm h (.tail _ hh)⟩
theorem plain_exc : ∀ h ∈ plainWords, h.1 ∈ excNames := by decide +kernel
theorem plain_key {c z : Str} (h : plainWords.lookup c = some z) : c ∈ excNames := by
  have : ∀ (l : List (Str × Str)), (∀ p ∈ l, p.1 ∈ excNames) → l.lookup c = some z → c ∈ excNames := by
    intro l
    induction l with
    | nil => intro _ h; cases h
    | cons p l ih =>
      intro hp hl
      rw [List.lookup_cons] at hl
      by_cases e : c = p.1
      · rw [e]; exact hp p (.head _)
      · rw [beq_eq_false_iff_ne.mpr e] at hl
        exact ih (fun q hq => hp q (.tail _ hq)) hl
  exact this _ plain_exc h
/-- an error with a word is caught by its clause -/
theorem word_mix (hX : ExcOk K mg) {cls : Value} {ms' : Cells} {x : Exn} {z : Str} (hz : wordOf x = some z) (hr : RpX mg H ms' cls d x) (hl : σ.length = 3) (q : ∀ σ' : L2.St, σ'[1]? = some (some (.str z)) → D.nx σ' H) : wMix K Wo D (wordL K) cls d σ H := by
  obtain ⟨c, arg⟩ := x
  obtain ⟨C, e1, rfl, ha⟩ := hr
  unfold wordOf at hz
  cases arg with
  | none =>
    have hc := plain_key hz
    have e2 := hX.g c hc
    rw [e1] at e2; cases e2
    exact mix_in plainWords (fun h hh => hX.m c hc h.1 (plain_exc h hh)) hz (q _ (by rw [List.getElem?_set_self (by omega)]))
  | some y =>
    cases y with
    | int i =>
      dsimp only at hz ha
      split at hz
      · rename_i e
        subst e
        have hc : ("TooMany" : Str) ∈ excNames := by decide +kernel
        have e2 := hX.g _ hc
        rw [e1] at e2; cases e2
        obtain ⟨dd, v, rfl, e3, e4⟩ := ha
        cases e4
        refine mix_past ?_ plainWords fun h hh => ?_
        · refine ⟨false, hX.m _ hc "OddRing" (by decide +kernel), (fun z => nomatch z), fun _ => ?_⟩
          refine ⟨true, hX.m _ hc _ hc, fun _ a na => ?_, (fun z => by simp at z)⟩
          refine ⟨by rw [List.getElem?_set_self (by omega)], rfl, dd, i, rfl, e3, z, hz, q _ ?_⟩
          show (((σ.set 2 (some (.ref a))).set 1 (some (.str z))).set 2 none)[1]? = _
          rw [List.getElem?_set_ne (by decide), List.getElem?_set_self (by simp; omega)]
        · have h2 := hX.m _ hc h.1 (plain_exc h hh)
          have e : decide (("TooMany" : Str) = h.1) = false := by
            have : ∀ h ∈ plainWords, decide (("TooMany" : Str) = h.1) = false := by decide +kernel
            exact this h hh
          rw [e] at h2; exact h2
      · cases hz
    | _ => cases hz
end
section
variable {X : Cx} {Ng : List Str} {sg : Scope} {g f c' : Addr} {cdg : Value} {q : Str} {s : Shared} {H : Hp} {Q : VK} {tl : XK → Hp → VK → Prop} {p1 p2 p3 p4 p5 p6 p7 p8 p9 : Pos} {j : Nat} {h0 : ExceptHandler} {hs : List ExceptHandler}
abbrev wordCx (X : Cx) (Ng : List Str) (sg : Scope) (g : Addr) (cdg : Value) (s : Shared) (H : Hp) : Cx := (cxOf C8.CX0 X.prog X.w X.K X.mg X.base Ng "_law_word" sg g cdg X.A X.stack s H C8.E0).nox
theorem word_gives (hX : ExcOk X.K X.mg) (S : FnScope ["_law_call", "_law_found", "e"] ["_law_call"] sg) (hl : sg.names.lookup ("_law_found" : Str) = some .local)
    (hh : HdsMix (wordCx X ["_law_call", "_law_found", "e"] sg g cdg s H) (h0 :: hs) (wordL X.K))
    (act : ∀ (W : WX) (pn : List (Addr × Obj)) (xe : Value → Shared → Prop) (E : XK) (p1 p2 : Pos), Takes ((cxOf C8.CX0 X.prog X.w X.K X.mg X.base ["_law_call", "_law_found", "e"] "_law_word" sg g cdg X.A X.stack s H C8.E0).tr pn xe) W → (∀ cls d σ' H', E cls d H' → W cls d σ' H') →
      PE ((cxOf C8.CX0 X.prog X.w X.K X.mg X.base ["_law_call", "_law_found", "e"] "_law_word" sg g cdg X.A X.stack s H C8.E0).tr pn xe) (.Call (.Name "_law_call" p1) [] [] p2) (fun σZ HZ Q => σZ[0]? = some (some (.ref f)) ∧ HZ c' = some (CodeO c' q) ∧ tl E HZ Q))
    (hc : H c' = some (CodeO c' q)) (h : TTw X.K X.mg tl H Q) :
    ∃ t, PSs (wordCx X ["_law_call", "_law_found", "e"] sg g cdg s H) [.Assign [.Name "_law_found" p1] (.Constant (.str "") j p2) p3, .Try [.Expr (.Call (.Name "_law_call" p4) [] [] p5) p6] (h0 :: hs) [] [] p7, .Return (some (.Name "_law_found" p8)) p9] t ∧ t { nx := fun _ H' => Q .non H', rt := Q } (L2.start ["_law_call", "_law_found", "e"] [.ref f]) H := by
  refine ⟨_, pss_cons (ps_set (X := wordCx X ["_law_call", "_law_found", "e"] sg g cdg s H) (i := 1) S.nd rfl (.inl hl) pe_str rfl (.inr hl))
    (pss_cons (ps_try_mix (X := wordCx X ["_law_call", "_law_found", "e"] sg g cdg s H)
      (tb := fun W D σ H' => ∃ (Ec : XK) (Kq : VK), (∀ cls d σ' H2, Ec cls d H2 → σ'.length = 3 → W cls d σ' H2) ∧ (∀ v H2, Kq v H2 → D.nx σ H2) ∧ σ[0]? = some (some (.ref f)) ∧ H' c' = some (CodeO c' q) ∧ tl Ec H' Kq)
      rfl rfl L2.takes0 (fun W pn xe tk _ => ?_) hh) (pss_one (ps_ret (pe_var (i := 1) rfl (.inl hl))))), ?_⟩
  · refine ⟨fun pins s' σ H' D I h' => ?_⟩
    obtain ⟨Ec, Kq, hW, hK, h1, h2, h3⟩ := h'
    have tk2 : Takes ((cxOf C8.CX0 X.prog X.w X.K X.mg X.base ["_law_call", "_law_found", "e"] "_law_word" sg g cdg X.A X.stack s H C8.E0).tr pn xe) (fun cls d σ H => σ.length = 3 → W cls d σ H) := fun u s1 ⟨a, B, sI, pi, σ1, H1, cls, d, e, I1, nb, up, sky, na, os, ag, w⟩ =>
      tk u s1 ⟨a, B, sI, pi, σ1, H1, cls, d, e, I1, nb, up, sky, na, os, ag, w I1.len⟩
    have hp := act _ pn xe Ec p4 p5 tk2 (fun cls d σ' H2 z l => hW cls d σ' H2 z l)
    exact (pss_one (ps_expr (pos := p6) (pe_weak hp))).run pins s' σ H' D I ⟨Kq, hK, h1, h2, h3⟩
  · refine ⟨fun cls d H' => ∃ ms' x z, wordOf x = some z ∧ RpX X.mg H' ms' cls d x ∧ Q (.str z) H', fun _ H' => Q (.str "") H', fun cls d σ' H2 ⟨ms', x, z, e1, e2, e3⟩ hlen => word_mix hX e1 e2 hlen fun σ2 e => ⟨.str z, e, e3⟩, fun v H2 q => ⟨.str "", rfl, q⟩, rfl, hc, h⟩
end
/-- what ev says of _law_word(lambda: e) -/
theorem s_word {X : Cx} {mg : Str → Option Value} {E : XK} {Γ : Fns} {g c P : Addr} {fd : FuncData} {pg : Arguments} {bg : List Stmt} {sg : Scope} {k : Nat} {lsc : Scope} {params : Arguments} {body : Expr} {ib : IE} {p lpos pos : Pos} {Ng : List Str}
    (hmg : X.mg = mg) (hg : Gl X "_law_word") (hm : X.mg "_law_word" = some (.ref g)) (F : FunD X.K "_law_word" "_law_word" pg bg sg [] [] g fd) (hb : Binds X.K fd ["_law_call"] []) (Sg : FnScope Ng ["_law_call"] sg) (hNg : Ng[0]? = some ("_law_call" : Str)) (hva : Vis sg "_law_call")
    (hG : ∀ cdv : Value, GivesTo X Ng "_law_word" sg g cdv bg "_law_call" (X.env.qual ++ "<lambda>") (TTw X.K X.mg))
    (TB : TabB X.base X.mg c P) (hcode : X.env.code = .ref c) (hmT : (P, X.env.qual ++ "<lambda>") ∈ tabsOf X.K) (hu : ∀ p ∈ tabsOf X.K, p.1 = P → p.2 = X.env.qual ++ "<lambda>") (hr : Room (k + 2) X.A) (L : LamS X.env.scope lsc) (hdef : defaultsOf params X.env = ([], []))
    (hbind : ∀ (q : Str) (cl : List (Str × Addr)) (pm cv ctv : Value), bindArgs (PySem.W.kla_fn "<lambda>" q params body lsc cl pm cv ctv) ⟨[], []⟩ = pure [])
    (hbody : ∀ (A : Around) (outer : List PySem.Env) (s : Shared) (H : Hp) (E : XK) (f c' : Addr), Room k (A.deeper (lamEnv X lsc s.heap.objs.size f c')) → SE (lamCx X A outer s H E lsc f c') mg E Γ body ib) :
    SE X mg E Γ (.Call (.Name "_law_word" p) [.Lambda params body lsc lpos] [] pos) (.word ib) := by
  subst hmg
  obtain ⟨oc, od, dV, kV, doc, pm, an, cdv, ct, osl, rfl, lk, hcd, _, _⟩ := F.ex
  refine pe_imp (pe_lamcall (T := tabsOf X.K) (TT := TTw X.K X.mg) (t := fun E' => tE X.K X.mg E' Γ ib) hg hm F.kp lk hcd hb Sg hNg hva (hG cdv) TB hcode hmT hu hr L hdef hbind hbody) ?_
  rintro σ H Q ⟨ms, ρ, S, he, hs, hp⟩
  refine ⟨by rw [← he.tb]; exact hs.tabs, fun H1 eN T1 => ?_⟩
  -- the heap behind the making of the lambda
  have e1 : Ext ms H ms H1 := ⟨List.prefix_refl _, rfl, rfl, KdE.refl _, fun b o _ nt q => eN b o q nt, fun b o nt q => ⟨o, nt, eN b o q nt⟩, fun b h => .inl h⟩
  have s1 : RpS H1 ms S := by
    refine hs.ext e1 (fun a ha => ?_) (by rw [he.tb]; exact T1)
    obtain ⟨o, nt, _, q1⟩ := hs.at_ ha
    rw [q1]; exact eN a _ q1 nt
  refine ⟨ms, ρ, S, he.ext e1, s1, ?_⟩
  have hp' : PostG X.mg E ms H (fun w ms' H' => ∀ v, RpW X.K H' ms' v w → Q v H') (wordM (ev Γ ib ρ) S) := by
    have e2 : ev Γ (.word ib) ρ = wordM (ev Γ ib ρ) := by simp only [ev]
    rw [← e2]; exact hp
  unfold wordM at hp'
  cases e : ev Γ ib ρ S with
  | none => rw [e] at hp'; exact hp'
  | some r =>
    rw [e] at hp'
    cases r with
    | ok w S1 => exact fun ms' H' x1 x2 v hv => hp' ms' H' (e1.trans x1) x2 _ (.d (.str _))
    | ex x S1 =>
      dsimp only at hp'
      cases ez : wordOf x with
      | none => rw [ez] at hp'; exact hp'.elim
      | some z =>
        rw [ez] at hp'
        exact fun ms' H' cls d x1 x2 x3 => ⟨ms', x, z, ez, x3, hp' ms' H' (e1.trans x1) x2 _ (.d (.str _))⟩
end Qv

/-! Snd11 -/
set_option maxHeartbeats 0
/-! functions as values: a loop over some, a call of one. -/
namespace Qv
open PySem PySem.Spec PyProof.Rows L2
theorem look_mem {β : Type} {y : Str} {k : β} : ∀ {l : List (Str × β)}, l.lookup y = some k → (y, k) ∈ l
  | [], h => by cases h
  | q :: l, h => by
    rw [List.lookup_cons] at h
    by_cases e : y = q.1
    · rw [beq_iff_eq.mpr e] at h; cases h
      rw [e]; exact .head _
    · rw [beq_eq_false_iff_ne.mpr e] at h
      exact .tail _ (look_mem h)
section
variable {X : Cx} {mg : Str → Option Value} {E : XK} {Γ : Fns} {sts : List Stmt} {iss : ISs} {pos : Pos}
/-- a new tuple of the text's functions -/
def tFns (K : PySem.W.Frag) (fs : List Str) : TE := fun σ H Q => ∀ p, H p = none → Q (.ref p) (upd H p (.tup (fs.map fun x => .ref (He.ga K x))))
theorem fnLoop_cons {i : Nat} {f : Env → M Out} {x : Str} {xs : List Str} {ρ : Env} {s : Sto} : fnLoop i f (x :: xs) ρ s = match f (ρ.set i (some (.f x))) s with
    | none => none
    | some (.ex e s') => some (.ex e s')
    | some (.ok (.nx ρ2) s') => fnLoop i f xs ρ2 s'
    | some (.ok (.ct ρ2) s') => fnLoop i f xs ρ2 s'
    | some (.ok (.bk ρ2) s') => some (.ok (.nx ρ2) s')
    | some (.ok (.ret w) s') => some (.ok (.ret w) s') := rfl
theorem s_forf {x : Str} {p1 : Pos} {iter : Expr} (i : Nat) (fs : List Str) (hp : PassesOwn (model X.prog X.w) X.A X.env X.xe) (hc : X.calm = true) (ht : PE X iter (tFns X.K fs)) (hN : X.N.Nodup) (hb : SSs X mg E Γ sts iss) (hi : X.N[i]? = some x := by rfl) (hx : Loc X.env.scope x := by first | exact Or.inl rfl | exact Or.inr rfl)
    (hfn : X.fn x = true ∨ X.env.scope.names.lookup x = some .local := by first | exact .inl rfl | exact .inr rfl | assumption)
    (hs : ∀ x, foldedSetIterable iter X.env x = pure x := by intro _; rfl) : SS X mg E Γ (.For (.Name x p1) iter sts [] pos) (.forf i fs iss) := by
  refine ps_imp (ps_for hp hc (pi_tup ht) (pg_name (i := i) hN hi hx) hb hs) fun D σ H ⟨ms, ρ, S, he, hs, hp⟩ => ?_
  intro p np
  have hp : PostG mg E ms H (OutP X.K D) (fnLoop i (fun ρ' => execs Γ iss ρ') fs ρ S) := hp
  have e0 := Ext.laid (ms := ms) (o := .tup (fs.map fun x => V.ref (He.ga X.K x))) np
  have r0 := hs.laid (o := .tup (fs.map fun x => V.ref (He.ga X.K x))) np
  have nh := hs.notin np
  refine ⟨p, rfl, ⟨_, SqT.of upd_same⟩, ?_⟩
  generalize hH1 : upd H p (.tup (fs.map fun x => V.ref (He.ga X.K x))) = H1 at e0 r0
  have hp1 : H1 p = some (.tup (fs.map fun x => V.ref (He.ga X.K x))) := by rw [← hH1]; exact upd_same
  refine ⟨fun j m σ' H' => j ≤ fs.length ∧ m = fs.length - j ∧ ∃ ms' ρ' S', Ext ms H1 ms' H' ∧ RpE X.K H' ms' σ' ρ' ∧ RpS H' ms' S' ∧ PostG mg E ms' H' (OutP X.K D) (fnLoop i (fun ρ' => execs Γ iss ρ') (fs.drop j) ρ' S'), ⟨_, Nat.zero_le _, rfl, ms, ρ, S, Ext.refl _ _, he.ext e0, r0, hp.mono e0⟩, ?_⟩
  rintro j m σ' H' ⟨hj, rfl, ms', ρ', S', x1, x2, x3, x6⟩
  have hT : H' p = some (.tup (fs.map fun x => V.ref (He.ga X.K x))) := x1.keep p _ (fun z => nh (.inl z)) nt_tup hp1
  by_cases hjl : j < fs.length
  · have ed : fs.drop j = fs[j] :: fs.drop (j + 1) := List.drop_eq_getElem_cons hjl
    rw [ed, fnLoop_cons] at x6
    refine .inr ⟨⟨_, .ref (He.ga X.K fs[j]), SqT.of hT, by simp [hjl]⟩, fun σ5 H5 => ∃ ms' ρ' S', Ext ms H1 ms' H5 ∧ RpE X.K H5 ms' σ5 ρ' ∧ RpS H5 ms' S' ∧ PostG mg E ms' H5 (OutP X.K D) (fnLoop i (fun ρ' => execs Γ iss ρ') (fs.drop (j + 1)) ρ' S'), fun σ5 H5 w => ⟨_, by omega, hjl, rfl, w⟩, fun v H2 yv => ?_⟩
    obtain ⟨rfl, yv⟩ := yv
    have ev : v = .ref (He.ga X.K fs[j]) := by
      have := yv _ (SqT.of hT)
      simp [hjl] at this
      exact this.symm
    subst ev
    refine ⟨ms', ρ'.set i (some (.f fs[j])), S', x2.set .f, x3, ?_⟩
    cases ef : execs Γ iss (ρ'.set i (some (.f fs[j]))) S' with
    | none => rw [ef] at x6; exact x6.elim
    | some r =>
      rw [ef] at x6
      cases r with
      | ex z S2 => exact x6
      | ok o S2 =>
        intro ms3 H3 e3 r3
        cases o with
        | nx ρ2 => exact fun σ3 h3 => ⟨ms3, ρ2, S2, x1.trans e3, h3, r3, x6.mono e3⟩
        | ct ρ2 => exact fun σ3 h3 => ⟨ms3, ρ2, S2, x1.trans e3, h3, r3, x6.mono e3⟩
        | bk ρ2 => exact fun σ3 h3 => x6 ms3 H3 e3 r3 σ3 h3
        | ret w => exact fun v h3 => x6 ms3 H3 e3 r3 v h3
  · have ed : fs.drop j = [] := List.drop_eq_nil_of_le (by omega)
    rw [ed] at x6
    exact .inl ⟨⟨_, SqT.of hT, by rw [List.length_map]; omega⟩, x6 ms' H' (Ext.refl _ _) x3 σ' x2⟩
/-- what is known of a function that a name may hold -/
structure FnvOk (X : Cx) (mg : Str → Option Value) (Γ : Fns) (lv n : Nat) (x : Str) (k : Nat) : Prop where
  ok : ∃ (fd : FuncData) (ps : List Str), ps.length = n ∧ FnOk X.prog X.w X.K X.mg X.base (L2.CX X.prog X.w) lv (He.ga X.K x) fd ps (spF X.K mg (Γ k) ps.length) ∧ PySem.W.keepIn X.K (.ref (He.ga X.K x)) = true ∧ Binds X.K fd ps []
theorem s_fnv {x : Str} {p : Pos} {e : Expr} {es : List Expr} {ies : IEs} {lv : Nat} (i : Nat) (fs : List (Str × Nat)) (A : ∀ q ∈ fs, FnvOk X mg Γ lv ies.len q.1 q.2) (hr : Room lv X.A) (hx : Passes (L2.CX X.prog X.w) X E) (ha : SA X mg E Γ (e :: es) ies) (hN : X.N[i]? = some x := by rfl)
    (hv : Vis X.env.scope x := by first | exact Or.inl rfl | exact Or.inr (Or.inl rfl) | exact Or.inr (Or.inr rfl)) (hdb : (x == ("__debug__" : Str)) = false := by decide) (hcd : (x == ("__classdict__" : Str)) = false := by decide)
    (he : starEach (e :: es) X.env = (false, eval e X.env) :: starEach es X.env := by rfl) (hpl : (backTo pos (starEach es X.env)).any (·.1) = false := by rfl) : SE X mg E Γ (.Call (.Name x p) (e :: es) [] pos) (.fnv i fs ies) := by
  refine ⟨fun pins s σ H Q I ⟨ms, ρ, S, hE, hS, hp⟩ => ?_⟩
  simp only [ev] at hp
  obtain ⟨k, hk0, hp⟩ := PostG.opt hp
  have hk1 : ∃ y, ρ[i]? = some (some (.f y)) ∧ fs.lookup y = some k := by
    cases e : ρ[i]? with
    | none => rw [e] at hk0; cases hk0
    | some o =>
      rw [e] at hk0
      cases o with
      | none => cases hk0
      | some w => cases w <;> first | cases hk0 | exact ⟨_, rfl, hk0⟩
  obtain ⟨y, hy, hk⟩ := hk1
  have hq : (y, k) ∈ fs := look_mem hk
  obtain ⟨fd, ps, hl, F, hkp, hb⟩ := (A _ hq).ok
  obtain ⟨v, h1, h2⟩ := hE.val i _ hy
  cases h2
  refine (pe_callL (i := i) (dvs := []) F hr hN hv hkp hb .nil hx ha hdb hcd he hpl).run pins s σ H Q I ⟨h1, ms, ρ, S, hE, hS, PostG.part (f := fun ws => Γ k ws) hp fun ws S1 ms1 H1 ew e1 r1 h1 vs hvs => ?_⟩
  show spF X.K mg (Γ k) ps.length (vs ++ []) H1 Q E
  rw [List.append_nil]
  exact ⟨by rw [hvs.len, evs_len ies ew, hl], ms1, ws, S1, (hE.ext e1).tb, r1, hvs, h1⟩
end
end Qv

/-! Snd12 -/
set_option maxHeartbeats 0
/-! sorted(set(a list)): of ints, of pairs of small ints. -/
namespace L2
open PySem PySem.Spec PyProof.Rows
section
variable {P : Program} {w : World} {A : Around} {E : Value → Shared → Prop} {s : Shared}
/-- a set just made -/
abbrev bareSet (w : World) : Obj := { cls := .type "set", dict := none, data := .set #[] 0 (.fresh 0 0 (!w.params.followText "set-order")) }
abbrev withSet (w : World) (h : Heap) : Heap := h.push (bareSet w)
/-- set(l), l a list of ints -/
theorem ints_to_set {l : Addr} {its : Array Value} (ks : List Int) {Q : Value → Shared → Prop} (calm : A.handled = none) (isl : s.heap.IsList l its) (areI : IntsAre its.toList ks) (few : ks.length + 1 < scanBound)
    (k : ∀ (g : Heap) (tk c : Nat), SetR w g s.heap.objs.size (fun j => decide (j ∈ ks)) c → c ≤ ks.length → (∀ b o, s.heap.get? b = some o → g.get? b = some o) → Q (.ref s.heap.objs.size) { s with heap := g, toks := tk }) :
    wpAny (model P w) A (call (.type "set") [.ref l]) Q E s := by
  have sz : its.size = ks.length := by have q := IntsAre.length areI; rw [Array.length_toList] at q; exact q
  obtain ⟨c0, tl0, mro0⟩ := F.called_set.mro
  have made := F.called_set.made; have sub := F.called_set.sub
  refine wpAny_call (codeAny_of_tree (show wpAny _ _ (callAny (.type "set") _) _ _ _ from wpAny_pure ⟨Code.quiet_builtin _ (by decide +kernel), codeAny_builtin F.entry_type_call ?_⟩))
  rw [Around.under_plain (weight_type_call_type "set" [.ref l] []) rfl]
  have nt := F.called_set.notType; have cc := F.called_set.canCreate; have tc := F.typeCall_set_1 (.ref l)
  repeat (any_goals (first | assumption | wp_step))
  refine codeAny_mono (code_set_led1 (.ref l) (E := E) (Q₁ := fun ob s1 => ob = .ref s.heap.objs.size ∧ s1 = { s with heap := withSet w s.heap }) ⟨rfl, rfl⟩) fun r s1 hr => ?_
  cases r with
  | error e => exact hr
  | ok fl =>
    cases fl with
    | ret ob =>
      obtain ⟨rfl, rfl⟩ := hr
      have gS : (withSet w s.heap).get? s.heap.objs.size = some (bareSet w) := Heap.get?_push_size _ rfl
      have tyS : Shared.TypeIs { s with heap := withSet w s.heap } (.ref s.heap.objs.size) "set" := ⟨_, gS, rfl⟩
      have li := F.called_set.init.lookup; have bi := F.called_set.init.bind (.ref s.heap.objs.size)
      repeat (any_goals (first | assumption | wp_step))
      refine codeAny_mono (codeAny_call_builtin (R := wants (fun r s2 => r = .none ∧ ∃ g tk c, s2 = { s with heap := g, toks := tk } ∧ SetR w g s.heap.objs.size (fun j => decide (j ∈ ks)) c ∧ c ≤ ks.length ∧ ∀ b o, s.heap.get? b = some o → g.get? b = some o) E)
        F.called_set.init.plain F.entry_set_init (check_set_init_1 tyS ?_)) fun r2 s2 hr2 => ?_
      · obtain ⟨⟨ocls, odict, odata, oslots⟩, hol, hcl, nl, hdl⟩ := isl
        simp only at hcl hdl
        subst hcl; subst hdl
        have gl : (withSet w s.heap).get? l = some { cls := .type "list", dict := odict, data := .seq its nl, slots := oslots } := Heap.get?_push_of_some _ hol
        have ss := F.sub_list_set; have sf := F.sub_list_frozenset
        have ne : (Value.type "list" == Value.type "dict") = false := by decide
        have isl2 : (withSet w s.heap).IsList l its := ⟨_, gl, rfl, nl, rfl⟩
        unfold Builtin.«set.__init__» noKeywords Builtin.Frozenset.updateFrom
        generalize hPI : pyIter = PI
        wp_walk
        subst hPI
        refine wpAny_pyIter_list isl2 (wpAny_bind (wpAny_runValue ?_))
        have low : l < s.heap.objs.size := Heap.lt_size hol
        have calm3 : A.in1.in1.in1.handled = none := by simp [calm]
        have size1 : (withSet w s.heap).objs.size = s.heap.objs.size + 1 := Heap.size_push ..
        have nI : l ≠ (withSet w s.heap).objs.size := by rw [size1]; exact Nat.ne_of_lt (Nat.lt_succ_of_lt low)
        have nS : s.heap.objs.size ∉ [(withSet w s.heap).objs.size, l] := by
          rw [size1]; simp only [List.mem_cons, List.not_mem_nil, or_false, not_or]; exact ⟨Nat.ne_of_lt (Nat.lt_succ_self _), Nat.ne_of_gt low⟩
        have val : ∀ (i : Nat) (v : Value), its[i]? = some v → ∃ k t, ks[i]? = some k ∧ v = .int k t := fun i v hv => by
          have hi : i < ks.length := by rw [← sz]; exact (Array.getElem?_eq_some_iff.mp hv).1
          obtain ⟨t, e⟩ := IntsAre.int_at areI i v (by rw [Array.getElem?_toList]; exact hv)
          exact ⟨ks[i], t, List.getElem?_eq_getElem hi, by rw [e, List.getD_eq_getElem?_getD, List.getElem?_eq_getElem hi]; rfl⟩
        refine set_update_ints ((Walks.list calm3 _ l nI its).toS) s.heap.objs.size nS ks sz few val (its.size - 0) 0 _ (by omega) (Nat.zero_le _) ⟨⟨_, Heap.get?_push_size _ rfl, rfl, rfl⟩, (isl2.push _)⟩
          ⟨0, Nat.le_refl 0, setR_new_at (Heap.get?_push_of_some _ gS)⟩ ?_
        rintro ⟨g, g2, d2, tk2, os2⟩ c hm hc hS
        obtain rfl : g2 = s.gens := hm.gens
        obtain rfl : d2 = s.drawn := hm.drawn
        obtain rfl : os2 = s.os := hm.os
        rw [sz] at hc
        refine (show wpAny _ _ _ _ _ _ from wpAny_pure (show wpAny _ _ (ret Value.none) _ _ _ from wpAny_pure ⟨rfl, g, tk2, c, rfl, hS, hc, fun b o e => ?_⟩))
        have b0 : b < s.heap.objs.size := Heap.lt_size e
        refine hm.heap b o ?_ (Heap.get?_push_of_some _ (Heap.get?_push_of_some _ e))
        rw [size1]; simp only [List.mem_cons, List.not_mem_nil, or_false, not_or]; exact ⟨Nat.ne_of_lt b0, Nat.ne_of_lt (Nat.lt_succ_of_lt b0)⟩
      · cases r2 with
        | error e => exact hr2
        | ok fl2 =>
          cases fl2 with
          | ret r =>
            obtain ⟨rfl, g, tk, c, rfl, hS, hc, hk⟩ := hr2
            repeat (any_goals (first | assumption | wp_step))
            exact k _ _ _ hS hc hk
          | _ => exact hr2.elim
    | _ => exact hr.elim
end
end L2

/-! Snd16 -/
set_option maxHeartbeats 0
/-! sorted(set(a tuple of pairs)). -/
namespace L2
open PySem PySem.Spec PyProof.Rows
section
variable {P : Program} {w : World} {A : Around} {E : Value → Shared → Prop} {s : Shared}
/-- set(t), t a tuple of tuples of ints -/
theorem tuple_to_set {l : Addr} {its : Array Value} (ks : List (Addr × List Int)) {Q : Value → Shared → Prop} (calm : A.handled = none) (ist : s.heap.IsTuple l its) (are : its.toList = ks.map fun p => Value.ref p.1)
    (tups : ∀ p ∈ ks, IsT P w s.heap p.2 p.1) (few : ks.length < 64) (room : A.units + 3 < cLine)
    (k : ∀ (g : Heap) (tk : Nat) L es ep t, SetTR P w g s.heap.objs.size L es ep t → Got ks ks.length L → (∀ b o, s.heap.get? b = some o → g.get? b = some o) → Q (.ref s.heap.objs.size) { s with heap := g, toks := tk }) :
    wpAny (model P w) A (call (.type "set") [.ref l]) Q E s := by
  have sz : its.size = ks.length := by
    have q := congrArg List.length are
    rw [Array.length_toList, List.length_map] at q
    exact q
  obtain ⟨c0, tl0, mro0⟩ := F.called_set.mro
  have made := F.called_set.made; have sub := F.called_set.sub
  refine wpAny_call (codeAny_of_tree (show wpAny _ _ (callAny (.type "set") _) _ _ _ from wpAny_pure ⟨Code.quiet_builtin _ (by decide +kernel), codeAny_builtin F.entry_type_call ?_⟩))
  rw [Around.under_plain (weight_type_call_type "set" [.ref l] []) rfl]
  have nt := F.called_set.notType; have cc := F.called_set.canCreate; have tc := F.typeCall_set_1 (.ref l)
  repeat (any_goals (first | assumption | wp_step))
  refine codeAny_mono (code_set_led1 (.ref l) (E := E) (Q₁ := fun ob s1 => ob = .ref s.heap.objs.size ∧ s1 = { s with heap := withSet w s.heap }) ⟨rfl, rfl⟩) fun r s1 hr => ?_
  cases r with
  | error e => exact hr
  | ok fl =>
    cases fl with
    | ret ob =>
      obtain ⟨rfl, rfl⟩ := hr
      have gS : (withSet w s.heap).get? s.heap.objs.size = some (bareSet w) := Heap.get?_push_size _ rfl
      have tyS : Shared.TypeIs { s with heap := withSet w s.heap } (.ref s.heap.objs.size) "set" := ⟨_, gS, rfl⟩
      have li := F.called_set.init.lookup; have bi := F.called_set.init.bind (.ref s.heap.objs.size)
      repeat (any_goals (first | assumption | wp_step))
      refine codeAny_mono (codeAny_call_builtin (R := wants (fun r s2 => r = .none ∧ ∃ g tk L es ep t, s2 = { s with heap := g, toks := tk } ∧ SetTR P w g s.heap.objs.size L es ep t ∧ Got ks ks.length L ∧ ∀ b o, s.heap.get? b = some o → g.get? b = some o) E)
        F.called_set.init.plain F.entry_set_init (check_set_init_1 tyS ?_)) fun r2 s2 hr2 => ?_
      · obtain ⟨⟨ocls, odict, odata, oslots⟩, hol, hcl, nl, hdl⟩ := ist
        simp only at hcl hdl
        subst hcl; subst hdl
        have gl : (withSet w s.heap).get? l = some { cls := .type "tuple", dict := odict, data := .seq its nl, slots := oslots } := Heap.get?_push_of_some _ hol
        have ss := F.sub_tuple_set; have sf := F.sub_tuple_frozenset
        have ne : (Value.type "tuple" == Value.type "dict") = false := by decide
        have ist2 : (withSet w s.heap).IsTuple l its := ⟨_, gl, rfl, nl, rfl⟩
        unfold Builtin.«set.__init__» noKeywords Builtin.Frozenset.updateFrom
        generalize hPI : pyIter = PI
        wp_walk
        subst hPI
        refine wpAny_pyIter_tuple ist2 (wpAny_bind (wpAny_runValue ?_))
        have low : l < s.heap.objs.size := Heap.lt_size hol
        have calm3 : A.in1.in1.in1.handled = none := by simp [calm]
        have size1 : (withSet w s.heap).objs.size = s.heap.objs.size + 1 := Heap.size_push ..
        have nI : l ≠ (withSet w s.heap).objs.size := by rw [size1]; exact Nat.ne_of_lt (Nat.lt_succ_of_lt low)
        have nS : s.heap.objs.size ∉ [(withSet w s.heap).objs.size, l] := by
          rw [size1]; simp only [List.mem_cons, List.not_mem_nil, or_false, not_or]; exact ⟨Nat.ne_of_lt (Nat.lt_succ_self _), Nat.ne_of_gt low⟩
        have val : ∀ (i : Nat) (v : Value), its[i]? = some v → ∃ p, ks[i]? = some p ∧ v = .ref p.1 := fun i v hv => by
          have q : its.toList[i]? = some v := by rw [Array.getElem?_toList]; exact hv
          rw [are, List.getElem?_map] at q
          obtain ⟨p, hp, e⟩ := Option.map_eq_some_iff.mp q
          exact ⟨p, hp, e.symm⟩
        have above : ∀ b, s.heap.objs.size ≤ b → s.heap.get? b = none := fun b hb => by
          cases q : s.heap.get? b with
          | none => rfl
          | some o => exact absurd (Nat.lt_of_lt_of_le (Heap.lt_size q) hb) (Nat.lt_irrefl _)
        have hget : ((withSet w s.heap).push { cls := .type "tuple_iterator", data := .fields #[.ref l, .int 0 0] }).get? s.heap.objs.size = some (bareSet w) := Heap.get?_push_of_some _ gS
        refine set_update_tups ((Walks.tuple calm3 _ l nI its).toS) s.heap.objs.size nS ks sz few val s.heap tups (above _ (Nat.le_refl _)) (fun b hb => above b (by rw [List.mem_singleton.mp hb, size1]; omega)) (by show A.units + 1 + 1 + 1 < _; omega) (its.size - 0) 0 _ (by omega) (Nat.zero_le _) ⟨⟨_, Heap.get?_push_size _ rfl, rfl, rfl⟩, (ist2.push _)⟩
          (fun b o e => Heap.get?_push_of_some _ (Heap.get?_push_of_some _ e)) ⟨[], #[], 0, _, setTR_fresh hget, Got.zero ks⟩ ?_
        rintro ⟨g, g2, d2, tk2, os2⟩ L es ep t hm hS got kept
        obtain rfl : g2 = s.gens := hm.gens
        obtain rfl : d2 = s.drawn := hm.drawn
        obtain rfl : os2 = s.os := hm.os
        rw [sz] at got
        exact (show wpAny _ _ _ _ _ _ from wpAny_pure (show wpAny _ _ (ret Value.none) _ _ _ from wpAny_pure ⟨rfl, g, tk2, L, es, ep, t, rfl, hS, got, kept⟩))
      · cases r2 with
        | error e => exact hr2
        | ok fl2 =>
          cases fl2 with
          | ret r =>
            obtain ⟨rfl, g, tk, L, es, ep, t, rfl, hS, got, hk⟩ := hr2
            repeat (any_goals (first | assumption | wp_step))
            exact k _ _ _ _ _ _ hS got hk
          | _ => exact hr2.elim
    | _ => exact hr.elim
theorem nodup_sub {α : Type} [DecidableEq α] : ∀ {l m : List α}, l.Nodup → (∀ x ∈ l, x ∈ m) → l.length ≤ m.length
  | [], _, _, _ => Nat.zero_le _
  | x :: l, m, hn, hs => by
    obtain ⟨a, b, rfl⟩ := List.append_of_mem (hs x (.head _))
    have h := nodup_sub (l := l) (m := a ++ b) (List.nodup_cons.mp hn).2 fun y hy => by
      have hne : y ≠ x := fun e => (List.nodup_cons.mp hn).1 (e ▸ hy)
      rcases List.mem_append.mp (hs y (.tail _ hy)) with z | z
      · exact List.mem_append_left _ z
      · rcases List.mem_cons.mp z with e | z
        · exact absurd e hne
        · exact List.mem_append_right _ z
    simp only [List.length_append, List.length_cons] at h ⊢
    omega
/-- set.update's turns, the keys in B -/
theorem update_few {I : Addr} {fp wr : List Addr} {G : Array GenState → Array GenState → Prop} {n : Nat} {Pv : Nat → Value → Prop} {St : Nat → Shared → Prop} {R : Result → Shared → Prop} (W : WalksS P w A.in1 I fp wr G n Pv St) (S : Addr) (offS : S ∉ fp)
    (ks : List (Addr × List Int)) (hn : n = ks.length) (B : List (List Int)) (hB : ∀ p ∈ ks, p.2 ∈ B) (few : B.length < 63) (val : ∀ i v, Pv i v → ∃ p, ks[i]? = some p ∧ v = .ref p.1) (h0 : Heap)
    (tups : ∀ p ∈ ks, IsT P w h0 p.2 p.1) (newS : h0.get? S = none) (newW : ∀ b ∈ wr, h0.get? b = none) (room : A.in1.units < cLine) : ∀ (k i : Nat) (s : Shared), n - i = k → i ≤ n → St i s → (∀ b o, h0.get? b = some o → s.heap.get? b = some o) →
      (∃ L es ep t, SetTR P w s.heap S L es ep t ∧ Got ks i L) → (∀ s' L es ep t, Moved (S :: wr) G s s' → SetTR P w s'.heap S L es ep t → Got ks n L → (∀ b o, h0.get? b = some o → s'.heap.get? b = some o) → R (.ok (.ret .none)) s') →
      codeAny (model P w) A (.builtin "set.update.loop" ⟨[.ref S, .ref I], []⟩) R s := by
  have offW : S ∉ wr := fun h => offS (W.sub _ h)
  have up : ∀ b ∈ wr, b ∈ S :: wr := fun b hb => .tail _ hb
  have kept : ∀ {s s' : Shared}, Moved wr G s s' → (∀ b o, h0.get? b = some o → s.heap.get? b = some o) → ∀ b o, h0.get? b = some o → s'.heap.get? b = some o := fun hm q b o e => hm.heap b o (fun hb => by rw [newW b hb] at e; cases e) (q b o e)
  intro k
  induction k with
  | zero =>
    intro i s hk hi st q ⟨L, es, ep, t, hS, g⟩ fin
    obtain rfl : i = n := by omega
    refine codeAny_builtin F.entry_set_update_loop (by
      rw [Around.under_plainId F.plain_set_update_loop _]
      show wpAny _ A.in1 (pyNext (.ref I) >>= _) _ _ s
      refine wpAny_bind (W.done s _ _ st fun s' hm => ?_)
      show wpAny _ A.in1 (ret Value.none) _ _ s'
      have q' := kept hm q
      exact wpAny_pure (fin s' L es ep t (hm.mono up) (hS.keep (fun o e => hm.heap S o offW e) fun p hp => isT_keep (tups p (List.mem_of_mem_take (g.sub p hp))) q') g q'))
  | succ k ih =>
    intro i s hk hi st q ⟨L, es, ep, t, hS, g⟩ fin
    refine codeAny_builtin F.entry_set_update_loop (by
      rw [Around.under_plainId F.plain_set_update_loop _]
      show wpAny _ A.in1 (pyNext (.ref I) >>= _) _ _ s
      refine wpAny_bind (W.item i s _ _ (by omega) st fun v s' hP st' hm => ?_)
      obtain ⟨p, hp, rfl⟩ := val i v hP
      have q' := kept hm q
      have hS' : SetTR P w s'.heap S L es ep t := hS.keep (fun o e => hm.heap S o offW e) fun r hr => isT_keep (tups r (List.mem_of_mem_take (g.sub r hr))) q'
      have hx : IsT P w s'.heap p.2 p.1 := isT_keep (tups p (List.mem_of_getElem? hp)) q'
      show wpAny _ A.in1 (holding [Value.ref p.1] (setAdd S (.ref p.1)) >>= _) _ _ s'
      refine wpAny_bind (wpAny_holding (by
        unfold setAdd
        refine wpAny_holding (wpAny_bind (wpAny_pyHash_tuple room hx ?_))
        have small : L.length + 1 < 64 := by
          have : (L.map (·.2)).length ≤ B.length := nodup_sub hS'.nd fun x hx => by
            obtain ⟨r, hr, rfl⟩ := List.mem_map.mp hx
            exact hB r (List.mem_of_mem_take (g.sub r hr))
          rw [List.length_map] at this; omega
        refine add_at (s := { s' with toks := s'.toks + (p.2.length + 1) }) hS' hx room small fun b h' L' es' ep' t' sb hS2 c1 c2 => ?_
        have g' : Got ks (i + 1) L' := (Classical.em (p.2 ∈ L.map (·.2))).elim (fun c => by rw [c1 c]; exact g.same hp c) fun c => g.more hp (c2 c)
        have q2 : ∀ b o, h0.get? b = some o → h'.get? b = some o := fun b o e => (sb.2 b (fun z => by rw [z, newS] at e; cases e)).trans (q' b o e)
        refine wpAny_pure ⟨plainId_quiet F.plain_set_update_loop _, ih (i + 1) _ (by omega) (by omega) (W.frame _ s' _ _ st' (Nat.le_add_right _ _) fun b hb o e => by
          rw [sb.2 b (fun h : b = S => offS (by rw [← h]; exact hb))]; exact e) q2 ⟨L', es', ep', t', hS2, g'⟩ fun s2 L2 es2 ep2 t2 hm2 hS3 g2 q3 => ?_⟩
        exact fin s2 L2 es2 ep2 t2 (Moved.trans W.gtrans ((hm.mono up).then_heap (Nat.le_add_right _ _) fun b o hb e => by
          rw [sb.2 b (fun h : b = S => hb (by rw [h]; exact List.mem_cons_self))]; exact e) hm2) hS3 g2 q3)))
/-- set(l), l a list of tuples of ints, few of them unlike -/
theorem list_to_setF {l : Addr} {its : Array Value} (ks : List (Addr × List Int)) {Q : Value → Shared → Prop} (calm : A.handled = none) (ist : s.heap.IsList l its) (are : its.toList = ks.map fun p => Value.ref p.1)
    (tups : ∀ p ∈ ks, IsT P w s.heap p.2 p.1) (B : List (List Int)) (hB : ∀ p ∈ ks, p.2 ∈ B) (few : B.length < 63) (room : A.units + 3 < cLine)
    (k : ∀ (g : Heap) (tk : Nat) L es ep t, SetTR P w g s.heap.objs.size L es ep t → Got ks ks.length L → (∀ b o, s.heap.get? b = some o → g.get? b = some o) → Q (.ref s.heap.objs.size) { s with heap := g, toks := tk }) :
    wpAny (model P w) A (call (.type "set") [.ref l]) Q E s := by
  have sz : its.size = ks.length := by
    have q := congrArg List.length are
    rw [Array.length_toList, List.length_map] at q
    exact q
  obtain ⟨c0, tl0, mro0⟩ := F.called_set.mro
  have made := F.called_set.made; have sub := F.called_set.sub
  refine wpAny_call (codeAny_of_tree (show wpAny _ _ (callAny (.type "set") _) _ _ _ from wpAny_pure ⟨Code.quiet_builtin _ (by decide +kernel), codeAny_builtin F.entry_type_call ?_⟩))
  rw [Around.under_plain (weight_type_call_type "set" [.ref l] []) rfl]
  have nt := F.called_set.notType; have cc := F.called_set.canCreate; have tc := F.typeCall_set_1 (.ref l)
  repeat (any_goals (first | assumption | wp_step))
  refine codeAny_mono (code_set_led1 (.ref l) (E := E) (Q₁ := fun ob s1 => ob = .ref s.heap.objs.size ∧ s1 = { s with heap := withSet w s.heap }) ⟨rfl, rfl⟩) fun r s1 hr => ?_
  cases r with
  | error e => exact hr
  | ok fl =>
    cases fl with
    | ret ob =>
      obtain ⟨rfl, rfl⟩ := hr
      have gS : (withSet w s.heap).get? s.heap.objs.size = some (bareSet w) := Heap.get?_push_size _ rfl
      have tyS : Shared.TypeIs { s with heap := withSet w s.heap } (.ref s.heap.objs.size) "set" := ⟨_, gS, rfl⟩
      have li := F.called_set.init.lookup; have bi := F.called_set.init.bind (.ref s.heap.objs.size)
      repeat (any_goals (first | assumption | wp_step))
      refine codeAny_mono (codeAny_call_builtin (R := wants (fun r s2 => r = .none ∧ ∃ g tk L es ep t, s2 = { s with heap := g, toks := tk } ∧ SetTR P w g s.heap.objs.size L es ep t ∧ Got ks ks.length L ∧ ∀ b o, s.heap.get? b = some o → g.get? b = some o) E)
        F.called_set.init.plain F.entry_set_init (check_set_init_1 tyS ?_)) fun r2 s2 hr2 => ?_
      · obtain ⟨⟨ocls, odict, odata, oslots⟩, hol, hcl, nl, hdl⟩ := ist
        simp only at hcl hdl
        subst hcl; subst hdl
        have gl : (withSet w s.heap).get? l = some { cls := .type "list", dict := odict, data := .seq its nl, slots := oslots } := Heap.get?_push_of_some _ hol
        have ss := F.sub_list_set; have sf := F.sub_list_frozenset
        have ne : (Value.type "list" == Value.type "dict") = false := by decide
        have ist2 : (withSet w s.heap).IsList l its := ⟨_, gl, rfl, nl, rfl⟩
        unfold Builtin.«set.__init__» noKeywords Builtin.Frozenset.updateFrom
        generalize hPI : pyIter = PI
        wp_walk
        subst hPI
        refine wpAny_pyIter_list ist2 (wpAny_bind (wpAny_runValue ?_))
        have low : l < s.heap.objs.size := Heap.lt_size hol
        have calm3 : A.in1.in1.in1.handled = none := by simp [calm]
        have size1 : (withSet w s.heap).objs.size = s.heap.objs.size + 1 := Heap.size_push ..
        have nI : l ≠ (withSet w s.heap).objs.size := by rw [size1]; exact Nat.ne_of_lt (Nat.lt_succ_of_lt low)
        have nS : s.heap.objs.size ∉ [(withSet w s.heap).objs.size, l] := by
          rw [size1]; simp only [List.mem_cons, List.not_mem_nil, or_false, not_or]; exact ⟨Nat.ne_of_lt (Nat.lt_succ_self _), Nat.ne_of_gt low⟩
        have val : ∀ (i : Nat) (v : Value), its[i]? = some v → ∃ p, ks[i]? = some p ∧ v = .ref p.1 := fun i v hv => by
          have q : its.toList[i]? = some v := by rw [Array.getElem?_toList]; exact hv
          rw [are, List.getElem?_map] at q
          obtain ⟨p, hp, e⟩ := Option.map_eq_some_iff.mp q
          exact ⟨p, hp, e.symm⟩
        have above : ∀ b, s.heap.objs.size ≤ b → s.heap.get? b = none := fun b hb => by
          cases q : s.heap.get? b with
          | none => rfl
          | some o => exact absurd (Nat.lt_of_lt_of_le (Heap.lt_size q) hb) (Nat.lt_irrefl _)
        have hget : ((withSet w s.heap).push { cls := .type "list_iterator", data := .fields #[.ref l, .int 0 0] }).get? s.heap.objs.size = some (bareSet w) := Heap.get?_push_of_some _ gS
        refine update_few ((Walks.list calm3 _ l nI its).toS) s.heap.objs.size nS ks sz B hB few val s.heap tups (above _ (Nat.le_refl _)) (fun b hb => above b (by rw [List.mem_singleton.mp hb, size1]; omega)) (by show A.units + 1 + 1 + 1 < _; omega) (its.size - 0) 0 _ (by omega) (Nat.zero_le _) ⟨⟨_, Heap.get?_push_size _ rfl, rfl, rfl⟩, (ist2.push _)⟩
          (fun b o e => Heap.get?_push_of_some _ (Heap.get?_push_of_some _ e)) ⟨[], #[], 0, _, setTR_fresh hget, Got.zero ks⟩ ?_
        rintro ⟨g, g2, d2, tk2, os2⟩ L es ep t hm hS got kept
        obtain rfl : g2 = s.gens := hm.gens
        obtain rfl : d2 = s.drawn := hm.drawn
        obtain rfl : os2 = s.os := hm.os
        rw [sz] at got
        exact (show wpAny _ _ _ _ _ _ from wpAny_pure (show wpAny _ _ (ret Value.none) _ _ _ from wpAny_pure ⟨rfl, g, tk2, L, es, ep, t, rfl, hS, got, kept⟩))
      · cases r2 with
        | error e => exact hr2
        | ok fl2 =>
          cases fl2 with
          | ret r =>
            obtain ⟨rfl, g, tk, L, es, ep, t, rfl, hS, got, hk⟩ := hr2
            repeat (any_goals (first | assumption | wp_step))
            exact k _ _ _ _ _ _ hS got hk
          | _ => exact hr2.elim
    | _ => exact hr.elim
variable {X : Cx}
/-- set(t), t a tuple of tuples of ints -/
def rSetOfTT (K : PySem.W.Frag) (P : Program) (w : World) : List V → Hp → VK → Prop := fun xs H Q => ∃ (l : Addr) (ks : List (Addr × List Int)), xs = [V.ref l] ∧ SqT K H l (ks.map fun p => V.ref p.1) ∧ (∀ p ∈ ks, SqT K H p.1 (p.2.map V.int)) ∧ ks.length < 64 ∧
  ∀ a L, H a = none → (∀ p ∈ L, p ∈ ks) → (∀ p ∈ ks, p.2 ∈ L.map (·.2)) → Q (.ref a) (upd H a (SetTO P w a L))
theorem cr_setOfTT (hc : X.calm = true) (hu : X.A.units + 64 < cLine) : CallR X (.type "set") (rSetOfTT X.K X.prog X.w) := by
  intro pins s σ H xs us Q I r h
  obtain ⟨l, ks, rfl, hl, hk, hf, q⟩ := h
  rw [Vals.ref1 r]
  obtain ⟨its, rv, pl, _⟩ := I.tuple hl
  refine tuple_to_set (P := X.prog) (w := X.w) ks (I.ok.hd hc) pl (by simpa using refs_of_vals rv) (fun p hp => I.isT (hk p hp)) hf (by omega) fun h' tk L es ep t R g k => ?_
  refine ⟨.ref s.heap.objs.size, upd H s.heap.objs.size (SetTO X.prog X.w s.heap.objs.size L), I.laid (t' := tk) k (Nat.le_refl _) (setTO_new R.t0), rfl, q _ L (I.hok.fresh (Nat.le_refl _)) (fun p hp => List.mem_of_mem_take (g.sub p hp)) fun p hp => g.all p (by rw [List.take_length]; exact hp)⟩
/-- set(l), l a list of tuples of ints, few of them unlike -/
def rSetOfF (K : PySem.W.Frag) (P : Program) (w : World) : List V → Hp → VK → Prop := fun xs H Q => ∃ (l : Addr) (ks : List (Addr × List Int)) (B : List (List Int)), xs = [V.ref l] ∧ SqL K H l (ks.map fun p => V.ref p.1) ∧ (∀ p ∈ ks, SqT K H p.1 (p.2.map V.int)) ∧ (∀ p ∈ ks, p.2 ∈ B) ∧ B.length < 63 ∧
  ∀ a L, H a = none → (∀ p ∈ L, p ∈ ks) → (∀ p ∈ ks, p.2 ∈ L.map (·.2)) → Q (.ref a) (upd H a (SetTO P w a L))
theorem cr_setOfF (hc : X.calm = true) (hu : X.A.units + 64 < cLine) : CallR X (.type "set") (rSetOfF X.K X.prog X.w) := by
  intro pins s σ H xs us Q I r h
  obtain ⟨l, ks, B, rfl, hl, hk, hB, hf, q⟩ := h
  rw [Vals.ref1 r]
  obtain ⟨its, rv, pl, _⟩ := I.list hl
  refine list_to_setF (P := X.prog) (w := X.w) ks (I.ok.hd hc) pl.isList (by simpa using refs_of_vals rv) (fun p hp => I.isT (hk p hp)) B hB hf (by omega) fun h' tk L es ep t R g k => ?_
  refine ⟨.ref s.heap.objs.size, upd H s.heap.objs.size (SetTO X.prog X.w s.heap.objs.size L), I.laid (t' := tk) k (Nat.le_refl _) (setTO_new R.t0), rfl, q _ L (I.hok.fresh (Nat.le_refl _)) (fun p hp => List.mem_of_mem_take (g.sub p hp)) fun p hp => g.all p (by rw [List.take_length]; exact hp)⟩
end
end L2

/-! Snd13 -/
set_option maxHeartbeats 0
/-! sorted(set(..)) does what ev says. -/
namespace L2
open PySem PySem.Spec PyProof.Rows
section
variable {X : Cx}
def rSetI (K : PySem.W.Frag) (w : World) : List V → Hp → VK → Prop := fun xs H Q => ∃ (l : Addr) (ks : List Int), xs = [V.ref l] ∧ SqL K H l (ks.map V.int) ∧ ks.length ≤ 4000 ∧ ∀ a c (L : List Int), H a = none → L.Nodup → (∀ j, j ∈ L ↔ j ∈ ks) → L.length = c → Q (.ref a) (upd H a (SetO w a (fun j => decide (j ∈ ks)) c))
theorem cr_setI (hc : X.calm = true) : CallR X (.type "set") (rSetI X.K X.w) := by
  intro pins s σ H xs us Q I r h
  obtain ⟨l, ks, rfl, hl, hz, q⟩ := h
  rw [Vals.ref1 r]
  obtain ⟨its, rv, pl, _⟩ := I.list hl
  have hn : H s.heap.objs.size = none := I.hok.fresh (Nat.le_refl _)
  refine ints_to_set (P := X.prog) (w := X.w) ks (I.ok.hd hc) pl.isList (by simpa using ints_of_vals rv) (by unfold scanBound; omega) fun h' tk c R hcn k => ?_
  refine ⟨.ref s.heap.objs.size, upd H s.heap.objs.size (SetO X.w s.heap.objs.size _ c), I.laid (t' := tk) k (Nat.le_refl _) (setO_new R), rfl, ?_⟩
  obtain ⟨o, es, ep, t, e1, e2, e3, e4, e5, e6, e7, e8, e9, _⟩ := R
  exact q _ c (es.toList.map keyOf) hn e5 (fun j => by rw [← e6]; exact decide_eq_true_iff) (by rw [List.length_map, Array.length_toList]; exact e9)
/-- either reading -/
theorem cr_or {f : Value} {r1 r2 : List V → Hp → VK → Prop} (h1 : CallR X f r1) (h2 : CallR X f r2) : CallR X f (fun xs H Q => r1 xs H Q ∨ r2 xs H Q) := fun pins s σ H xs us Q I r h => h.elim (h1 pins s σ H xs us Q I r) (h2 pins s σ H xs us Q I r)
end
end L2
namespace Qv
open PySem PySem.Spec PyProof.Rows L2
theorem ordered_ext {α : Type} {r : α → α → Prop} (asym : ∀ a b, r a b → ¬ r b a) : ∀ {l m : List α}, l.Pairwise r → m.Pairwise r → (∀ x, x ∈ l ↔ x ∈ m) → l = m
  | [], [], _, _, _ => rfl
  | [], b :: m, _, _, h => absurd ((h b).mpr (.head _)) (by simp)
  | a :: l, [], _, _, h => absurd ((h a).mp (.head _)) (by simp)
  | a :: l, b :: m, hl, hm, h => by
    obtain ⟨l1, l2⟩ := List.pairwise_cons.mp hl
    obtain ⟨m1, m2⟩ := List.pairwise_cons.mp hm
    have e : a = b := by
      rcases List.mem_cons.mp ((h a).mp (.head _)) with e | e
      · exact e
      · rcases List.mem_cons.mp ((h b).mpr (.head _)) with e2 | e2
        · exact e2.symm
        · exact absurd (m1 a e) (asym _ _ (l1 b e2))
    subst e
    rw [ordered_ext asym l2 m2 fun x => ⟨fun q => ?_, fun q => ?_⟩]
    · rcases List.mem_cons.mp ((h x).mp (.tail _ q)) with e | e
      · subst e; exact absurd (l1 _ q) (asym _ _ (l1 _ q))
      · exact e
    · rcases List.mem_cons.mp ((h x).mpr (.tail _ q)) with e | e
      · subst e; exact absurd (m1 _ q) (asym _ _ (m1 _ q))
      · exact e
section
variable {α : Type} [DecidableEq α]
theorem mem_once {x : α} : ∀ {l : List α}, x ∈ once l ↔ x ∈ l
  | [] => by simp [once]
  | y :: l => by
    simp only [once, List.mem_cons, List.mem_filter, mem_once (l := l), Bool.not_eq_true', decide_eq_false_iff_not]
    by_cases e : x = y <;> simp [e]
theorem nodup_once : ∀ (l : List α), (once l).Nodup
  | [] => List.nodup_nil
  | y :: l => List.nodup_cons.mpr ⟨by simp, (nodup_once l).filter _⟩
end
theorem sortI_lt {l : List Int} (h : l.Nodup) : (sortI l).Pairwise (· < ·) := by
  have h1 : (sortI l).Pairwise (fun a b => (decide (a ≤ b)) = true) := List.pairwise_mergeSort (fun a b c h1 h2 => by simp at *; omega) (fun a b => by simp; omega) l
  have h2 : (sortI l).Nodup := (List.mergeSort_perm l _).nodup_iff.mpr h
  exact (h1.and h2).imp fun ⟨h3, h4⟩ => by simp at h3; omega
def pairLt (a b : Int × Int) : Prop := a.1 < b.1 ∨ a.1 = b.1 ∧ a.2 < b.2
theorem pairLe_iff {a b : Int × Int} : pairLe a b = true ↔ a.1 < b.1 ∨ a.1 = b.1 ∧ a.2 ≤ b.2 := by unfold pairLe; simp
theorem sortP_lt {l : List (Int × Int)} (h : l.Nodup) : (sortP l).Pairwise pairLt := by
  have h1 : (sortP l).Pairwise (fun a b => pairLe a b = true) := List.pairwise_mergeSort (fun a b c h1 h2 => by rw [pairLe_iff] at *; omega) (fun a b => by
    rw [Bool.or_eq_true, pairLe_iff, pairLe_iff]; omega) l
  have h2 : (sortP l).Nodup := (List.mergeSort_perm l _).nodup_iff.mpr h
  refine (h1.and h2).imp fun {a b} ⟨h3, h4⟩ => ?_
  rw [pairLe_iff] at h3
  unfold pairLt
  rcases h3 with h3 | ⟨h3, h5⟩
  · exact .inl h3
  · refine .inr ⟨h3, ?_⟩
    rcases Int.lt_or_eq_of_le h5 with h6 | h6
    · exact h6
    · exact absurd (Prod.ext h3 h6) h4
theorem rps_ints {H : Hp} {ms : Cells} : ∀ {xs : List V} {ds : List PyData} {ns : List Int}, Rps H ms xs ds → intsOf ds = some ns → xs = ns.map V.int ∧ ds = ns.map .int
  | _, _, _, .nil, h => by cases h; exact ⟨rfl, rfl⟩
  | _, _, ns, .cons (v := v) (vs := vs) (d := d) (ds := ds) a r, h => by
    cases d with
    | int i =>
      simp only [intsOf] at h
      split at h
      · cases h
      · rename_i l hl
        cases h
        obtain ⟨e1, e2⟩ := rps_ints r hl
        cases a
        exact ⟨by rw [e1]; rfl, by rw [e2]; rfl⟩
    | _ => cases h
theorem rps_of_ints {H : Hp} {ms : Cells} : ∀ (ns : List Int), Rps H ms (ns.map V.int) (ns.map .int)
  | [] => .nil
  | n :: ns => .cons (.int n) (rps_of_ints ns)
theorem small_inv {d : PyData} {p : Int × Int} (h : smallPair d = some p) : d = encP p ∧ (0 ≤ p.1 ∧ p.1 < 64) ∧ 0 ≤ p.2 ∧ p.2 < 64 := by
  unfold smallPair at h
  split at h
  · split at h
    · rename_i hb; cases h; exact ⟨rfl, hb⟩
    · cases h
  · cases h
/-- a list of pairs: where each stands -/
theorem rps_pairsOf {H : Hp} {ms : Cells} : ∀ {xs : List V} {ds : List PyData} {ps : List (Int × Int)}, Rps H ms xs ds → pairsOf ds = some ps → ∃ ks : List (Addr × List Int), xs = ks.map (fun p => V.ref p.1) ∧ ks.map (·.2) = ps.map (fun p => [p.1, p.2]) ∧
      (∀ k ∈ ks, ∃ p : Int × Int, p ∈ ps ∧ k.2 = [p.1, p.2] ∧ Rp H ms (.ref k.1) (encP p) ∧ H k.1 = some (.tup (k.2.map V.int))) ∧ (∀ p ∈ ps, (0 ≤ p.1 ∧ p.1 < 64) ∧ 0 ≤ p.2 ∧ p.2 < 64)
  | _, _, _, .nil, h => by cases h; exact ⟨[], rfl, rfl, fun k hk => (by cases hk), fun k hk => (by cases hk)⟩
  | _, _, ps, .cons (v := v) (vs := vs) (d := d) (ds := ds) a r, h => by
    simp only [pairsOf] at h
    split at h
    · rename_i p l h1 h2
      cases h
      obtain ⟨ks, e1, e2, e3, e4⟩ := rps_pairsOf r h2
      obtain ⟨rfl, hb⟩ := small_inv h1
      obtain ⟨t, ys, rfl, g1, g2, g3, g4⟩ := (show Rp H ms v (.tuple [.int p.1, .int p.2]) from a).tupInv
      have g5 : ys = [V.int p.1, V.int p.2] := by
        cases g4 with
        | cons b1 b2 => cases b1; cases b2 with
          | cons b3 b4 => cases b3; cases b4; rfl
      subst g5
      refine ⟨(t, [p.1, p.2]) :: ks, by rw [e1]; rfl, by rw [List.map_cons, e2]; rfl, fun k hk => ?_, fun q hq => ?_⟩
      · rcases List.mem_cons.mp hk with e | hk
        · subst e; exact ⟨p, .head _, rfl, a, g1⟩
        · obtain ⟨q, q1, q2⟩ := e3 k hk
          exact ⟨q, .tail _ q1, q2⟩
      · rcases List.mem_cons.mp hq with e | hq
        · subst e; exact hb
        · exact e4 q hq
    · cases h
theorem ev_pr1 {Γ : Fns} {q : Prim} {ia : IE} {ρ : Env} {S : Sto} : ev Γ (.pr q (.cons ia .nil)) ρ S = ((ev Γ ia ρ).bnd fun w => (look w).bnd fun x => (M.opt (prim q [x])).bnd fun d => M.ret (W.d d)) S := by
  show ((((ev Γ ia ρ).bnd fun w => (M.ret ([] : List W)).bnd fun ws => M.ret (w :: ws))).bnd fun ws => (looks ws).bnd fun ds => (M.opt (prim q ds)).bnd fun d => M.ret (W.d d)) S = _
  unfold M.bnd
  cases k : ev Γ ia ρ S with
  | none => rfl
  | some r =>
    cases r with
    | ex x S1 => rfl
    | ok w S1 =>
      dsimp only [M.ret]
      unfold looks look M.bnd
      dsimp only
      cases w.get S1 <;> rfl
section
variable {X : Cx} {mg : Str → Option Value} {E : XK} {Γ : Fns} {a : Expr} {ia : IE} {p q pos p2 : Pos}
theorem boot_setQ : bootBuiltins "set" = some (.type "set") := by decide +kernel
theorem boot_sortedQ : bootBuiltins "sorted" = some (.builtin "sorted") := by decide +kernel
theorem s_sortset (hc : X.calm = true) (hu : X.A.units + 200 < cLine) (hg : Gl X "sorted") (hm : X.mg "sorted" = none) (hg2 : Gl X "set") (hm2 : X.mg "set" = none) (ha : SE X mg E Γ a ia) (h1 : starEach [a] X.env = (false, eval a X.env) :: starEach [] X.env := by rfl)
    (h2 : starEach [.Call (.Name "set" p2) [a] [] q] X.env = (false, eval (.Call (.Name "set" p2) [a] [] q) X.env) :: starEach [] X.env := by rfl) : SE X mg E Γ (.Call (.Name "sorted" p) [.Call (.Name "set" p2) [a] [] q] [] pos) (.pr .sortset (.cons ia .nil)) := by
  refine pe_imp (pe_callB (cr_or (cr_sortedSet hc) (cr_sortedT hc)) hg hm boot_sortedQ (pa_cons (pe_callTy (cr_or (cr_setI hc) (cr_or (cr_setOfT hc (by omega)) (cr_or (cr_setOfTT hc (by omega)) (cr_setOfF hc (by omega))))) hg2 hm2 boot_setQ (pa_cons ha pa_nil h1) (by decide) (by decide) h1) pa_nil h2) (by decide) (by decide) h2) ?_
  rintro σ H Q ⟨ms, ρ, S, he, hs, hp⟩
  rw [ev_pr1] at hp
  refine ⟨ms, ρ, S, he, hs, hp.part fun w S1 ms1 H1 _ e1 r1 h3 v hv => ?_⟩
  obtain ⟨x, hx, h4⟩ := h3.look
  obtain ⟨d, hd, h5⟩ := h4.opt
  have rv := hv.get r1 hx
  have hd : pSortset [x] = some d := hd
  have hf := Fin.of h5
  cases x with
  | list ds =>
    obtain ⟨l, xs, rfl, g1, g2, g3⟩ := rv.lst
    simp only [pSortset] at hd
    split at hd
    · rename_i ns hns
      split at hd
      · rename_i hb
        cases hd
        obtain ⟨e2, e3⟩ := rps_ints g3 hns
        subst e2
        have hlen : ns.length ≤ 4000 := by have := hb.1; rw [e3, List.length_map] at this; exact this
        refine .inl ⟨l, ns, rfl, SqL.of g1, hlen, fun b c L hb1 hb2 hb3 hb4 => .inl ⟨b, _, c, rfl, upd_same, ?_, fun ks t k1 k2 k3 k4 => ?_⟩⟩
        · have : L.length = (once ns).length := ((List.perm_ext_iff_of_nodup hb2 (nodup_once ns)).mpr fun j => by rw [hb3, mem_once]).length_eq
          have := hb.2
          omega
        · have e4 : ks = sortI (once ns) := ordered_ext (r := fun a b : Int => a < b) (fun a b h1 h2 => by omega) k1 (sortI_lt (nodup_once ns)) fun j => by
            rw [k2, decide_eq_true_iff]
            show j ∈ ns ↔ j ∈ List.mergeSort _ _
            rw [List.mem_mergeSort, mem_once]
          subst e4
          have n1 := Ext.laid (ms := ms1) (H := H1) (o := SetO X.w b (fun j => decide (j ∈ ns)) c) hb1
          have r2 := r1.laid (o := SetO X.w b (fun j => decide (j ∈ ns)) c) hb1
          have n2 := Ext.laid (ms := ms1) (o := .lst ((sortI (once ns)).map V.int)) k4
          have r3 := r2.laid (o := .lst ((sortI (once ns)).map V.int)) k4
          have hz : ((sortI (once ns)).map V.int).length ≤ line := by
            rw [List.length_map]
            have : (sortI (once ns)).length = (once ns).length := List.length_mergeSort _
            have := hb.2
            show _ ≤ 16777216; omega
          exact hf _ _ (n1.trans n2) r3 (.lst upd_same (r2.notin k4) hz (rps_of_ints _))
      · cases hd
    · split at hd
      · rename_i ps hps
        split at hd
        · rename_i hb
          cases hd
          obtain ⟨ks, e2, e3, e4, e5⟩ := rps_pairsOf g3 hps
          subst e2
          have hlen : ks.length < 64 := by have := g3.len; rw [List.length_map] at this; omega
          refine .inr (.inl ⟨l, ks, rfl, SqL.of g1, fun k hk => ?_, hlen, fun b L hb1 hb2 hb3 => .inr ⟨b, L, 2, 64, rfl, upd_same, fun k hk => ?_, by decide, fun k hk => ?_, fun L' t k1 k2 k3 k4 k5 => ?_⟩⟩)
          · obtain ⟨q, _, q2, _, q4⟩ := e4 k hk; exact SqT.of q4
          · obtain ⟨q, _, q2, _, q4⟩ := e4 k (hb2 k hk)
            exact SqT.of (by rw [upd_ne (ne_of_none q4 hb1)]; exact q4)
          · obtain ⟨q, q1, q2, _⟩ := e4 k (hb2 k hk)
            obtain ⟨⟨b1, b2⟩, b3, b4⟩ := e5 q q1
            rw [q2]
            refine ⟨rfl, fun z hz => ?_⟩
            rcases List.mem_cons.mp hz with e | hz
            · subst e; exact ⟨b1, b2⟩
            · have : z = q.2 := by simpa using hz
              subst this; exact ⟨b3, b4⟩
          · have n1 := Ext.laid (ms := ms1) (H := H1) (o := SetTO X.prog X.w b L) hb1
            have r2 := r1.laid (o := SetTO X.prog X.w b L) hb1
            have n2 := Ext.laid (ms := ms1) (o := .lst (L'.map fun q => V.ref q.1)) k5
            have r3 := r2.laid (o := .lst (L'.map fun q => V.ref q.1)) k5
            have sub : ∀ k ∈ L', k ∈ ks := fun k hk => hb2 k (k1.mem_iff.mp hk)
            -- the pairs, in their order
            let pr : Addr × List Int → Int × Int := fun k => (k.2.getD 0 0, k.2.getD 1 0)
            have hpr : ∀ k ∈ L', ∃ p : Int × Int, p ∈ ps ∧ k.2 = [p.1, p.2] ∧ pr k = p ∧ Rp H1 ms1 (.ref k.1) (encP p) := fun k hk => by
              obtain ⟨q, q1, q2, q3, _⟩ := e4 k (sub k hk)
              exact ⟨q, q1, q2, by show (k.2.getD 0 0, k.2.getD 1 0) = q; rw [q2]; rfl, q3⟩
            have e6 : L'.map pr = sortP (once ps) := by
              refine ordered_ext (r := pairLt) (fun a b h1 h2 => by unfold pairLt at *; omega) ?_ (sortP_lt (nodup_once ps)) fun p => ?_
              · rw [List.pairwise_map]
                have nd : L'.Pairwise (fun q r => q.2 ≠ r.2) := List.pairwise_map.mp k2
                refine (k4.and nd).imp_of_mem fun {q r} hq hr ⟨h1, h2⟩ => ?_
                obtain ⟨p1, a1, a2, a3, _⟩ := hpr q hq
                obtain ⟨p2, b1, b2, b3, _⟩ := hpr r hr
                rw [a3, b3]
                rw [a2, b2] at h1 h2
                obtain ⟨c1, c2⟩ := e5 p1 a1
                obtain ⟨d1, d2⟩ := e5 p2 b1
                exact pair_lt h1 h2 c1 c2 d1 d2
              · show p ∈ L'.map pr ↔ p ∈ List.mergeSort _ _
                rw [List.mem_mergeSort, mem_once, List.mem_map]
                constructor
                · rintro ⟨k, hk, rfl⟩
                  obtain ⟨q, q1, _, q3, _⟩ := hpr k hk
                  rw [q3]; exact q1
                · intro hp
                  have : [p.1, p.2] ∈ ks.map (·.2) := by rw [e3]; exact List.mem_map.mpr ⟨p, hp, rfl⟩
                  obtain ⟨k, hk, ek⟩ := List.mem_map.mp this
                  have hk2 := hb3 k hk
                  obtain ⟨k', hk', ek'⟩ := List.mem_map.mp hk2
                  refine ⟨k', k1.mem_iff.mpr hk', ?_⟩
                  show (k'.2.getD 0 0, k'.2.getD 1 0) = p
                  rw [ek', ek]; rfl
            have hr : Rps (upd H1 b (SetTO X.prog X.w b L)) ms1 (L'.map fun q => V.ref q.1) ((sortP (once ps)).map encP) := by
              rw [← e6]
              clear k1 k2 k3 k4 k5 n2 r3 e6
              have : ∀ (L'' : List (Addr × List Int)), (∀ k ∈ L'', k ∈ L') → Rps (upd H1 b (SetTO X.prog X.w b L)) ms1 (L''.map fun q => V.ref q.1) ((L''.map pr).map encP) := by
                intro L''
                induction L'' with
                | nil => exact fun _ => .nil
                | cons k L'' ih =>
                  intro hL
                  obtain ⟨q, _, _, q3, q4⟩ := hpr k (hL k (.head _))
                  refine .cons ?_ (ih fun k hk => hL k (.tail _ hk))
                  show Rp _ _ _ (encP (pr k))
                  rw [q3]; exact q4.ext n1
              exact this L' fun k hk => hk
            have hz : (L'.map fun q => V.ref q.1).length ≤ line := by rw [List.length_map]; show _ ≤ 16777216; omega
            exact hf _ _ (n1.trans n2) r3 (.lst upd_same (r2.notin k5) hz (hr.ext n2))
        · split at hd
          · rename_i hb
            cases hd
            obtain ⟨ks, e2, e3, e4, e5⟩ := rps_pairsOf g3 hps
            subst e2
            have hlen : ks.length ≤ 4000 := by have := g3.len; rw [List.length_map] at this; omega
            have hB : ∀ k ∈ ks, k.2 ∈ (once ps).map fun p => [p.1, p.2] := fun k hk => by
              obtain ⟨q, q1, q2, _⟩ := e4 k hk
              exact List.mem_map.mpr ⟨q, mem_once.mpr q1, q2.symm⟩
            refine .inr (.inr (.inr ⟨l, ks, _, rfl, SqL.of g1, fun k hk => ?_, hB, by rw [List.length_map]; exact hb.1, fun b L hb1 hb2 hb3 => .inr ⟨b, L, 2, 64, rfl, upd_same, fun k hk => ?_, by decide, fun k hk => ?_, fun L' t k1 k2 k3 k4 k5 => ?_⟩⟩))
            · obtain ⟨q, _, q2, _, q4⟩ := e4 k hk; exact SqT.of q4
            · obtain ⟨q, _, q2, _, q4⟩ := e4 k (hb2 k hk)
              exact SqT.of (by rw [upd_ne (ne_of_none q4 hb1)]; exact q4)
            · obtain ⟨q, q1, q2, _⟩ := e4 k (hb2 k hk)
              obtain ⟨⟨b1, b2⟩, b3, b4⟩ := e5 q q1
              rw [q2]
              refine ⟨rfl, fun z hz => ?_⟩
              rcases List.mem_cons.mp hz with e | hz
              · subst e; exact ⟨b1, b2⟩
              · have : z = q.2 := by simpa using hz
                subst this; exact ⟨b3, b4⟩
            · have n1 := Ext.laid (ms := ms1) (H := H1) (o := SetTO X.prog X.w b L) hb1
              have r2 := r1.laid (o := SetTO X.prog X.w b L) hb1
              have n2 := Ext.laid (ms := ms1) (o := .lst (L'.map fun q => V.ref q.1)) k5
              have r3 := r2.laid (o := .lst (L'.map fun q => V.ref q.1)) k5
              have sub : ∀ k ∈ L', k ∈ ks := fun k hk => hb2 k (k1.mem_iff.mp hk)
              -- the pairs, in their order
              let pr : Addr × List Int → Int × Int := fun k => (k.2.getD 0 0, k.2.getD 1 0)
              have hpr : ∀ k ∈ L', ∃ p : Int × Int, p ∈ ps ∧ k.2 = [p.1, p.2] ∧ pr k = p ∧ Rp H1 ms1 (.ref k.1) (encP p) := fun k hk => by
                obtain ⟨q, q1, q2, q3, _⟩ := e4 k (sub k hk)
                exact ⟨q, q1, q2, by show (k.2.getD 0 0, k.2.getD 1 0) = q; rw [q2]; rfl, q3⟩
              have e6 : L'.map pr = sortP (once ps) := by
                refine ordered_ext (r := pairLt) (fun a b h1 h2 => by unfold pairLt at *; omega) ?_ (sortP_lt (nodup_once ps)) fun p => ?_
                · rw [List.pairwise_map]
                  have nd : L'.Pairwise (fun q r => q.2 ≠ r.2) := List.pairwise_map.mp k2
                  refine (k4.and nd).imp_of_mem fun {q r} hq hr ⟨h1, h2⟩ => ?_
                  obtain ⟨p1, a1, a2, a3, _⟩ := hpr q hq
                  obtain ⟨p2, b1, b2, b3, _⟩ := hpr r hr
                  rw [a3, b3]
                  rw [a2, b2] at h1 h2
                  obtain ⟨c1, c2⟩ := e5 p1 a1
                  obtain ⟨d1, d2⟩ := e5 p2 b1
                  exact pair_lt h1 h2 c1 c2 d1 d2
                · show p ∈ L'.map pr ↔ p ∈ List.mergeSort _ _
                  rw [List.mem_mergeSort, mem_once, List.mem_map]
                  constructor
                  · rintro ⟨k, hk, rfl⟩
                    obtain ⟨q, q1, _, q3, _⟩ := hpr k hk
                    rw [q3]; exact q1
                  · intro hp
                    have : [p.1, p.2] ∈ ks.map (·.2) := by rw [e3]; exact List.mem_map.mpr ⟨p, hp, rfl⟩
                    obtain ⟨k, hk, ek⟩ := List.mem_map.mp this
                    have hk2 := hb3 k hk
                    obtain ⟨k', hk', ek'⟩ := List.mem_map.mp hk2
                    refine ⟨k', k1.mem_iff.mpr hk', ?_⟩
                    show (k'.2.getD 0 0, k'.2.getD 1 0) = p
                    rw [ek', ek]; rfl
              have hr : Rps (upd H1 b (SetTO X.prog X.w b L)) ms1 (L'.map fun q => V.ref q.1) ((sortP (once ps)).map encP) := by
                rw [← e6]
                clear k1 k2 k3 k4 k5 n2 r3 e6
                have : ∀ (L'' : List (Addr × List Int)), (∀ k ∈ L'', k ∈ L') → Rps (upd H1 b (SetTO X.prog X.w b L)) ms1 (L''.map fun q => V.ref q.1) ((L''.map pr).map encP) := by
                  intro L''
                  induction L'' with
                  | nil => exact fun _ => .nil
                  | cons k L'' ih =>
                    intro hL
                    obtain ⟨q, _, _, q3, q4⟩ := hpr k (hL k (.head _))
                    refine .cons ?_ (ih fun k hk => hL k (.tail _ hk))
                    show Rp _ _ _ (encP (pr k))
                    rw [q3]; exact q4.ext n1
                exact this L' fun k hk => hk
              have hz : (L'.map fun q => V.ref q.1).length ≤ line := by rw [List.length_map]; show _ ≤ 16777216; omega
              exact hf _ _ (n1.trans n2) r3 (.lst upd_same (r2.notin k5) hz (hr.ext n2))
          · cases hd
      · cases hd
  | tuple ds =>
    obtain ⟨l, xs, rfl, g1, _, g2, g3⟩ := rv.tup
    simp only [pSortset] at hd
    split at hd
    · rename_i ps hps
      split at hd
      · rename_i hb
        cases hd
        obtain ⟨ks, e2, e3, e4, e5⟩ := rps_pairsOf g3 hps
        subst e2
        have hlen : ks.length < 64 := by have := g3.len; rw [List.length_map] at this; omega
        refine .inr (.inr (.inl ⟨l, ks, rfl, SqT.of g1, fun k hk => ?_, hlen, fun b L hb1 hb2 hb3 => .inr ⟨b, L, 2, 64, rfl, upd_same, fun k hk => ?_, by decide, fun k hk => ?_, fun L' t k1 k2 k3 k4 k5 => ?_⟩⟩))
        · obtain ⟨q, _, q2, _, q4⟩ := e4 k hk; exact SqT.of q4
        · obtain ⟨q, _, q2, _, q4⟩ := e4 k (hb2 k hk)
          exact SqT.of (by rw [upd_ne (ne_of_none q4 hb1)]; exact q4)
        · obtain ⟨q, q1, q2, _⟩ := e4 k (hb2 k hk)
          obtain ⟨⟨b1, b2⟩, b3, b4⟩ := e5 q q1
          rw [q2]
          refine ⟨rfl, fun z hz => ?_⟩
          rcases List.mem_cons.mp hz with e | hz
          · subst e; exact ⟨b1, b2⟩
          · have : z = q.2 := by simpa using hz
            subst this; exact ⟨b3, b4⟩
        · have n1 := Ext.laid (ms := ms1) (H := H1) (o := SetTO X.prog X.w b L) hb1
          have r2 := r1.laid (o := SetTO X.prog X.w b L) hb1
          have n2 := Ext.laid (ms := ms1) (o := .lst (L'.map fun q => V.ref q.1)) k5
          have r3 := r2.laid (o := .lst (L'.map fun q => V.ref q.1)) k5
          have sub : ∀ k ∈ L', k ∈ ks := fun k hk => hb2 k (k1.mem_iff.mp hk)
          -- the pairs, in their order
          let pr : Addr × List Int → Int × Int := fun k => (k.2.getD 0 0, k.2.getD 1 0)
          have hpr : ∀ k ∈ L', ∃ p : Int × Int, p ∈ ps ∧ k.2 = [p.1, p.2] ∧ pr k = p ∧ Rp H1 ms1 (.ref k.1) (encP p) := fun k hk => by
            obtain ⟨q, q1, q2, q3, _⟩ := e4 k (sub k hk)
            exact ⟨q, q1, q2, by show (k.2.getD 0 0, k.2.getD 1 0) = q; rw [q2]; rfl, q3⟩
          have e6 : L'.map pr = sortP (once ps) := by
            refine ordered_ext (r := pairLt) (fun a b h1 h2 => by unfold pairLt at *; omega) ?_ (sortP_lt (nodup_once ps)) fun p => ?_
            · rw [List.pairwise_map]
              have nd : L'.Pairwise (fun q r => q.2 ≠ r.2) := List.pairwise_map.mp k2
              refine (k4.and nd).imp_of_mem fun {q r} hq hr ⟨h1, h2⟩ => ?_
              obtain ⟨p1, a1, a2, a3, _⟩ := hpr q hq
              obtain ⟨p2, b1, b2, b3, _⟩ := hpr r hr
              rw [a3, b3]
              rw [a2, b2] at h1 h2
              obtain ⟨c1, c2⟩ := e5 p1 a1
              obtain ⟨d1, d2⟩ := e5 p2 b1
              exact pair_lt h1 h2 c1 c2 d1 d2
            · show p ∈ L'.map pr ↔ p ∈ List.mergeSort _ _
              rw [List.mem_mergeSort, mem_once, List.mem_map]
              constructor
              · rintro ⟨k, hk, rfl⟩
                obtain ⟨q, q1, _, q3, _⟩ := hpr k hk
                rw [q3]; exact q1
              · intro hp
                have : [p.1, p.2] ∈ ks.map (·.2) := by rw [e3]; exact List.mem_map.mpr ⟨p, hp, rfl⟩
                obtain ⟨k, hk, ek⟩ := List.mem_map.mp this
                have hk2 := hb3 k hk
                obtain ⟨k', hk', ek'⟩ := List.mem_map.mp hk2
                refine ⟨k', k1.mem_iff.mpr hk', ?_⟩
                show (k'.2.getD 0 0, k'.2.getD 1 0) = p
                rw [ek', ek]; rfl
          have hr : Rps (upd H1 b (SetTO X.prog X.w b L)) ms1 (L'.map fun q => V.ref q.1) ((sortP (once ps)).map encP) := by
            rw [← e6]
            clear k1 k2 k3 k4 k5 n2 r3 e6
            have : ∀ (L'' : List (Addr × List Int)), (∀ k ∈ L'', k ∈ L') → Rps (upd H1 b (SetTO X.prog X.w b L)) ms1 (L''.map fun q => V.ref q.1) ((L''.map pr).map encP) := by
              intro L''
              induction L'' with
              | nil => exact fun _ => .nil
              | cons k L'' ih =>
                intro hL
                obtain ⟨q, _, _, q3, q4⟩ := hpr k (hL k (.head _))
                refine .cons ?_ (ih fun k hk => hL k (.tail _ hk))
                show Rp _ _ _ (encP (pr k))
                rw [q3]; exact q4.ext n1
            exact this L' fun k hk => hk
          have hz : (L'.map fun q => V.ref q.1).length ≤ line := by rw [List.length_map]; show _ ≤ 16777216; omega
          exact hf _ _ (n1.trans n2) r3 (.lst upd_same (r2.notin k5) hz (hr.ext n2))
      · cases hd
    · cases hd
  | _ => cases hd
end
end Qv

/-! Snd14 -/
set_option maxHeartbeats 0
/-! names = a tuple written there, where functions hold some of the names; new lists that are cells. -/
namespace Qv
open PySem PySem.Spec PyProof.Rows L2
section
variable {X : Cx} {mg : Str → Option Value} {E : XK} {Γ : Fns} {a b c : Expr} {ia ib ic : IE} {pos : Pos}
theorem s_par2C {x y : Str} {px py pt pt2 : Pos} {kt k2 : Nat} (i j : Nat) (hc : X.calm = true) (hN : X.N.Nodup) (ha : SA X mg E Γ [a, b] (.cons ia (.cons ib .nil)))
    (hw : swappedStores [.Tuple [.Name x px, .Name y py] kt pt] (.Tuple [a, b] k2 pt2) X.env = pure none) (hi : X.N[i]? = some x := by rfl) (hj : X.N[j]? = some y := by rfl)
    (hx : Loc X.env.scope x := by first | exact Or.inl rfl | exact Or.inr rfl) (hy : Loc X.env.scope y := by first | exact Or.inl rfl | exact Or.inr rfl)
    (hfx : X.fn x = true ∨ X.env.scope.names.lookup x = some .local := by first | exact .inl rfl | exact .inr rfl) (hfy : X.fn y = true ∨ X.env.scope.names.lookup y = some .local := by first | exact .inl rfl | exact .inr rfl)
    (hs : swapsWithSole [.Tuple [.Name x px, .Name y py] kt pt] (.Tuple [a, b] k2 pt2) pos.line X.env = pure false := by rfl) (h1 : (assignEach [.Tuple [.Name x px, .Name y py] kt pt] X.env).map (·.2) = [assign (.Tuple [.Name x px, .Name y py] kt pt) X.env] := by rfl)
    (hn : (assignEach [.Name x px, .Name y py] X.env).length = 2 := by rfl) (hst : (assignEach [.Name x px, .Name y py] X.env).findIdx? (·.1) = none := by rfl)
    (hs1 : (assignEach (.Name x px :: [.Name y py]) X.env).map (·.2) = assign (.Name x px) X.env :: (assignEach [.Name y py] X.env).map (·.2) := by rfl) (hs2 : (assignEach (.Name y py :: []) X.env).map (·.2) = assign (.Name y py) X.env :: (assignEach [] X.env).map (·.2) := by rfl) :
    SS X mg E Γ (.Assign [.Tuple [.Name x px, .Name y py] kt pt] (.Tuple [a, b] k2 pt2) pos) (.par [i, j] (.cons ia (.cons ib .nil))) := by
  refine ps_imp (ps_asg (pe_tup ha) (pg_tup hc (pgs_cons (pg_name (i := i) hN hi hx hfx) (pgs_cons (pg_name (i := j) hN hj hy hfy) pgs_nil hs2) hs1) hn hst) hs hw h1) fun D σ H ⟨ms, ρ, S, he, hs, hp⟩ => ⟨ms, ρ, S, he, hs, PostG.part (f := fun ws => (M.opt (putAll [i, j] ws ρ)).bnd fun ρ' => M.ret (Out.nx ρ')) hp fun ws S1 ms1 H1 ew e1 r1 h1 vs hvs => ?_⟩
  obtain ⟨w1, w2, rfl⟩ := len_two (evs_len _ ew)
  obtain ⟨ρ', g, h2⟩ := h1.opt
  have e : (ρ.set i (some w1)).set j (some w2) = ρ' := Option.some.inj g
  subst e
  obtain ⟨u1, u2, rfl, q1, q2⟩ := hvs.two
  refine ⟨by rw [sizeLine_eq]; show 2 ≤ 16777216; decide, fun p np => ⟨p, [u1, u2], rfl, SqT.of upd_same, rfl, u1, [u2], rfl, u2, [], rfl, rfl, ?_⟩⟩
  have eL := Ext.laid (ms := ms1) (o := .tup [u1, u2]) np
  exact h2 ms1 _ eL (r1.laid np) _ ((((he.ext e1).ext eL).set (q1.ext eL)).set (q2.ext eL))
/-- sorted(e): the new list is a cell -/
theorem s_mkSorted {p : Pos} (hu : X.A.units + 200 < cLine) (hg : Gl X "sorted") (hm : X.mg "sorted" = none) (ha : SE X mg E Γ a ia) (h1 : starEach [a] X.env = (false, eval a X.env) :: starEach [] X.env := by rfl) :
    SE X mg E Γ (.Call (.Name "sorted" p) [a] [] pos) (.mk (.pr .sorted (.cons ia .nil))) := by
  refine pe_imp (pe_callB (cr_sortedQ hu) hg hm boot_sortedQ (pa_cons ha pa_nil h1) (by decide) (by decide) h1) ?_
  rintro σ H Q ⟨ms, ρ, S, he, hs, hp⟩
  have e : ev Γ (.mk (.pr .sorted (.cons ia .nil))) ρ S = ((ev Γ ia ρ).bnd fun w => (look w).bnd fun x => (M.opt (prim .sorted [x])).bnd fun d => ownM (W.d d)) S := by
    have e1 : ev Γ (.mk (.pr .sorted (.cons ia .nil))) ρ S = ((ev Γ (.pr .sorted (.cons ia .nil)) ρ).bnd ownM) S := by simp only [ev]
    rw [e1]
    unfold M.bnd
    rw [ev_pr1]
    unfold M.bnd
    cases ev Γ ia ρ S with
    | none => rfl
    | some r =>
      cases r with
      | ex x S1 => rfl
      | ok w S1 =>
        dsimp only
        cases look w S1 with
        | none => rfl
        | some r2 =>
          cases r2 with
          | ex x S2 => rfl
          | ok x S2 =>
            dsimp only
            cases prim .sorted [x] <;> rfl
  rw [e] at hp
  refine ⟨ms, ρ, S, he, hs, hp.part fun w S1 ms1 H1 _ e1 r1 h3 v hv => ?_⟩
  obtain ⟨x, hx, h4⟩ := h3.look
  obtain ⟨d, hd, h5⟩ := h4.opt
  have rv := hv.get r1 hx
  have key : ∀ (xs : List PyData) (q : Addr) (us : List V), (if sortOk xs = true then some (PyData.list (sortL xs)) else none) = some d → v = .ref q → (SqL X.K H1 q us ∨ SqT X.K H1 q us) → us.length ≤ line → Rps H1 ms1 us xs → rSortQ X.K [v] H1 Q := by
    intro xs q us hd hvq k1 k2 k3
    subst hvq
    split at hd
    · rename_i hok
      cases hd
      obtain ⟨ps, e4, e5, h6⟩ := zip_rps k3
      unfold sortOk at hok
      simp only [Bool.and_eq_true] at hok
      obtain ⟨o1, o2, o3⟩ := hok
      refine ⟨q, ps, rfl, by rw [e4]; exact k1, by rw [e4, e5]; exact k3.dp, ?_, by rw [e5]; exact o2, ?_, fun p hp => ?_⟩
      · rw [e5]; exact fun x hx y hy => List.all_eq_true.mp (List.all_eq_true.mp o1 x hx) y hy
      · rw [e5]; exact fun x hx => of_decide_eq_true (List.all_eq_true.mp o3 x hx)
      · have em : (ps.mergeSort (PySem.W.dataLe false (·.2))).map (·.2) = sortL xs := by
          unfold sortL; rw [← e5]; exact List.map_mergeSort fun a _ b _ => rfl
        have hl : ((ps.mergeSort (PySem.W.dataLe false (·.2))).map (·.1)).length ≤ line := by
          rw [List.length_map, List.length_mergeSort]
          have := congrArg List.length e4
          rw [List.length_map] at this
          rw [this]; exact k2
        have hr : Rps H1 ms1 ((ps.mergeSort (PySem.W.dataLe false (·.2))).map (·.1)) (sortL xs) := by
          rw [← em]; exact rps_pairs fun p hp => h6 p (List.mem_mergeSort.mp hp)
        obtain ⟨x1, x2⟩ := r1.more hp hl hr
        exact h5 _ _ x1 x2 _ (.m (by show (ms1.ix ++ [p])[S1.length]? = _; rw [← r1.len, List.getElem?_append_right (Nat.le_refl _), Nat.sub_self]; rfl) (r1.plain fun z => r1.notin hp (.inl z)))
    · cases hd
  cases x with
  | list xs =>
    obtain ⟨q, us, rfl, k1, k2, k3⟩ := rv.lst
    exact key xs q us hd rfl (.inl (SqL.of k1)) k2 k3
  | tuple xs =>
    obtain ⟨q, us, rfl, k1, _, k2, k3⟩ := rv.tup
    exact key xs q us hd rfl (.inr (SqT.of k1)) k2 k3
  | _ => cases hd
end
end Qv

/-! Snd15 -/
set_option maxHeartbeats 0
/-! min(xs), xs a list of data that are alike -/
namespace Qv
open PySem PySem.Spec PyProof.Rows L2 PySem.W PySem.Calls
theorem each_and {α β : Type} {R S : α → β → Prop} : ∀ {us : List α} {ps : List β}, EachIs R us ps → EachIs S us ps → EachIs (fun v b => R v b ∧ S v b) us ps
  | _, _, .nil, _ => .nil
  | _, _, .cons a r, .cons b q => .cons ⟨a, b⟩ (each_and r q)
def rMinQ (K : PySem.W.Frag) : List V → Hp → VK → Prop := fun vs H Q => ∃ (a : Addr) (ps : List (V × PyData)) (x : PyData) (xs : List PyData), vs = [V.ref a] ∧ SqL K H a (ps.map (·.1)) ∧ DpAll K H (ps.map (·.1)) (ps.map (·.2)) ∧ ps.map (·.2) = x :: xs ∧ AlikeAll (x :: xs) ∧ PyData.depthAll (x :: xs) ≤ 64 ∧
  ∀ p ∈ ps, p.2 = minD x xs → Q p.1 H
theorem cr_minQ {X : Cx} (hc : X.calm = true) (hu : X.A.units + 200 < cLine) : CallR X (.builtin "min") (rMinQ X.K) := by
  intro pins s σ H vs us Q I r h
  obtain ⟨a, ps, x, xs, rfl, hs, hd, he, hal, hdp, q⟩ := h
  obtain ⟨its, rv, hl, hz⟩ := I.list hs
  rw [Vals.ref1 r]
  obtain ⟨as, hr⟩ := Dp.readsAll I _ _ _ hd rv
  have e := each_vals rv
  have er : EachIs (fun v (b : V × PyData) => ∃ as, Reads s.heap v b.2 as) its ps := readsAll_each (fun b : V × PyData => b.2) hr
  have eb := each_and e er
  rw [he] at hr
  refine min_list_data (I.ok.hd hc) hl.isList hr hal (by omega) fun i v h' tk bs hi hrd hk => ?_
  have hv : v ∈ its := by
    have : its[i]? = some v := by simpa using hi
    exact List.mem_of_getElem? this
  obtain ⟨p, hp, rel, as2, rd⟩ := eb.left v hv
  exact ⟨p.1, H, I.kept hk, rel, q p hp (reads_det (fun b o e _ => hk b o e) rd hrd).1.symm⟩
theorem depthAll_le64 {ds : List PyData} (h : ∀ x ∈ ds, x.depth ≤ 64) : PyData.depthAll ds ≤ 64 := by
  induction ds with
  | nil => simp [PyData.depthAll]
  | cons d ds ih =>
    simp only [PyData.depthAll]
    have := h d (.head _)
    have := ih fun x hx => h x (.tail _ hx)
    omega
theorem p_mind {K : PySem.W.Frag} : PrimOk .mind (rMinQ K) := by
  intro mg E H ms S vs ds d Q r hv hp hf
  have hp : pMind ds = some d := hp
  unfold pMind at hp
  split at hp
  · split at hp
    · rename_i x xs _ hok
      cases hp
      obtain ⟨v, rfl, h⟩ := hv.one
      obtain ⟨q, us, rfl, k1, k2, k3⟩ := h.lst
      obtain ⟨ps, e1, e2, h3⟩ := zip_rps k3
      rw [Bool.and_eq_true] at hok
      obtain ⟨o1, o2⟩ := hok
      refine ⟨q, ps, x, xs, rfl, by rw [e1]; exact SqL.of k1, by rw [e1, e2]; exact k3.dp, e2, ⟨fun a ha b hb => List.all_eq_true.mp (List.all_eq_true.mp o1 a ha) b hb, fun a ha hn => ?_⟩, depthAll_le64 fun a ha => ?_, fun p hp he => ?_⟩
      · have := List.all_eq_true.mp o2 a ha
        rw [hn] at this; cases this
      · have := List.all_eq_true.mp o2 a ha
        rw [Bool.and_eq_true] at this
        exact of_decide_eq_true this.2
      · have := h3 p hp
        rw [he] at this
        exact hf.now r this
    · cases hp
  · cases hp
end Qv

/-! Snd17 -/
set_option maxHeartbeats 0
/-! comprehensions with two fors; a comprehension's list as a cell. -/
namespace Qv
open PySem PySem.Spec PyProof.Rows L2
section
variable {X : Cx} {mg : Str → Option Value} {E : XK} {Γ : Fns} {pos p : Pos}
/-- a turn of the outer loop -/
def lc2F (Γ : Fns) (ρ : Env) (own : List Nat) (g : Tg) (t : IO) (own1 : List Nat) (g1 : Tg) (it1 : IT) (t1 : IO) (ie : IE) : PyData → List PyData → M (List PyData) := fun x acc => (M.opt (put g x (Qv.wipe ρ own))).bnd fun ρ' => (evt Γ t ρ').bnd fun b =>
  if b = true then (evi Γ it1 ρ').bnd fun src1 => fun s1 => lcLoop src1 (lcF Γ ρ' own1 g1 t1 ie) (src1.len s1 + 1) 0 acc s1 else M.ret acc
theorem lc2F_inv {ρ : Env} {own own1 : List Nat} {g g1 : Tg} {t t1 : IO} {it1 : IT} {ie : IE} {x : PyData} {acc acc' : List PyData} {S S' : Sto} (h : lc2F Γ ρ own g t own1 g1 it1 t1 ie x acc S = some (.ok acc' S')) :
    ∃ ρ' b S3, put g x (Qv.wipe ρ own) = some ρ' ∧ evt Γ t ρ' S = some (.ok b S3) ∧ (b = true → ∃ src1 S4, evi Γ it1 ρ' S3 = some (.ok src1 S4) ∧ lcLoop src1 (lcF Γ ρ' own1 g1 t1 ie) (src1.len S4 + 1) 0 acc S4 = some (.ok acc' S')) ∧ (b = false → acc' = acc ∧ S' = S3) := by
  unfold lc2F at h
  cases e1 : put g x (Qv.wipe ρ own) with
  | none => rw [e1] at h; cases h
  | some ρ' =>
    rw [e1] at h
    have h : ((evt Γ t ρ').bnd fun b => if b = true then (evi Γ it1 ρ').bnd fun src1 => fun s1 => lcLoop src1 (lcF Γ ρ' own1 g1 t1 ie) (src1.len s1 + 1) 0 acc s1 else M.ret acc) S = some (.ok acc' S') := h
    unfold M.bnd at h
    cases e2 : evt Γ t ρ' S with
    | none => rw [e2] at h; cases h
    | some r =>
      rw [e2] at h
      cases r with
      | ex _ _ => cases h
      | ok b S3 =>
        dsimp only at h
        refine ⟨ρ', b, S3, rfl, e2, fun hb => ?_, fun hb => ?_⟩
        · subst hb
          rw [if_pos rfl] at h
          cases e3 : evi Γ it1 ρ' S3 with
          | none => rw [e3] at h; cases h
          | some r =>
            rw [e3] at h
            cases r with
            | ex _ _ => cases h
            | ok src1 S4 => exact ⟨src1, S4, rfl, h⟩
        · subst hb
          rw [if_neg Bool.false_ne_true] at h
          cases h; exact ⟨rfl, rfl⟩
def lcG2 (src : Src) (F : PyData → List PyData → M (List PyData)) (m i : Nat) (ds : List PyData) : M W := (lcLoop2 src F m i ds).bnd fun ds => M.ret (W.d (.list ds))
theorem lcLoop2_step {src : Src} {F : PyData → List PyData → M (List PyData)} {m i : Nat} {ds : List PyData} {s : Sto} : lcLoop2 src F (m + 1) i ds s = match src.at i s with
    | none => none
    | some none => some (.ok ds s)
    | some (some x) => match F x ds s with
      | none => none
      | some (.ex _ _) => none
      | some (.ok acc' s') => lcLoop2 src F m (i + 1) acc' s' := rfl
theorem lc2_read {it it1 : IT} {own own1 : List Nat} {g g1 : Tg} {t t1 : IO} {ie : IE} {K : PySem.W.Frag} {σ : L2.St} {H : Hp} {Q : VK} (hg : ∀ i ∈ g.slots, i ∈ own) (hg1 : ∀ i ∈ g1.slots, i ∈ own1) (h : tE K mg E Γ (.lc2 own g it t own1 g1 it1 t1 ie) σ H Q) :
    tLc2 (tI K mg E Γ it) (tG K g) (tV K mg E0 Γ t) (tI K mg E0 Γ it1) (tG K g1) (tV K mg E0 Γ t1) (tE K mg E0 Γ ie) own own1 σ H Q := by
  obtain ⟨ms, ρ, S, he, hs, hp⟩ := h
  refine ⟨ms, ρ, S, he, hs, PostG.part (f := fun src => fun s => (lcLoop2 src (lc2F Γ ρ own g t own1 g1 it1 t1 ie) (src.len s + 1) 0 []).bnd (fun ds => M.ret (W.d (.list ds))) s) hp fun src S1 ms1 H1 _ e1 r1 h1 J hJ D hD => ?_⟩
  have he1 := he.ext e1
  let Wt : Nat → Nat → Hp → Prop := fun i m H' => ∃ ms' acc ds S', Ext ms1 H1 ms' H' ∧ RpS H' (ms'.hide D) S' ∧ H' D = some (.lst acc) ∧ acc.length ≤ line ∧ Rps H' (ms'.hide D) acc ds ∧
    PostG mg E ms1 H1 (fun w ms'' H'' => ∀ v, RpW K H'' ms'' v w → Q v H'') (lcG2 src (lc2F Γ ρ own g t own1 g1 it1 t1 ie) m i ds S')
  refine ⟨Wt, ⟨src.len S1 + 1, ms1, [], [], S1, Ext.laid hD, rps_hide nt_lst r1 hD, upd_same, Nat.zero_le _, .nil, h1⟩, ?_⟩
  rintro i m H' ⟨ms', acc, ds, S', x1, x2, x3, x4, x5, x6⟩
  cases m with
  | zero => exact x6.elim
  | succ m =>
    have nD : ¬ ms'.has D := fun z => by
      rcases z with z | z
      · exact (x2.hd D List.mem_cons_self).1 z
      · rw [x1.hid] at z
        obtain ⟨_, u, _, q⟩ := r1.hd D z
        rw [hD] at q; cases q
    have trJ : Tr ms1 H1 (ms'.hide D) H' := ⟨x1.pre, x1.tb, x1.kd, fun b u n nt q => ⟨(x1.tr.keep b u n nt q).1, fun z => (hide_has.mp z).elim (x1.tr.keep b u n nt q).2 (ne_of_none q hD)⟩⟩
    have hj := hJ (ms'.hide D) H' S' i trJ x2
    unfold lcG2 M.bnd at x6
    rw [lcLoop2_step] at x6
    -- the cells behind a turn, D apart
    have back : ∀ {msI ms4 : Cells} {HI H4 : Hp}, Ext ms1 H1 msI HI → Ext (msI.hide D) HI ms4 H4 → ms4 = (⟨ms4.ix, ms1.hid, ms1.tb, ms4.kd⟩ : Cells).hide D := fun {msI ms4 HI H4} x eA => by
      have htb : ms4.tb = ms1.tb := eA.tb.trans x.tb
      have : ms4.hid = D :: ms1.hid := by rw [eA.hid]; show D :: msI.hid = _; rw [x.hid]
      cases ms4
      simp only at this htb
      subst this htb; rfl
    have same : ∀ {H4 : Hp} {acc : List V}, H4 D = some (.lst acc) → upd H4 D (.lst acc) = H4 := fun {H4 acc} hD4 => by
      funext b
      by_cases hb : b = D
      · subst hb; rw [upd_same, hD4]
      · rw [upd_ne hb]
    cases ea : src.at i S' with
    | none => rw [ea] at x6; exact x6.elim
    | some ox =>
      cases ox with
      | none =>
        rw [ea] at hj x6
        exact .inl ⟨hj, x6 ms' H' x1 (rps_show x2) _ (.d (.lst x3 nD x4 (x5.tr tr_show)))⟩
      | some x =>
        rw [ea] at hj x6
        obtain ⟨hgo, hy⟩ := hj
        refine .inr ⟨hgo, fun H5 => Wt (i + 1) m H5, fun H5 w => ⟨m, Nat.lt_succ_self m, w⟩, fun v H2 yv => ?_⟩
        obtain ⟨y1, y2, y3⟩ := hy v H2 yv
        have ey : Ext (ms'.hide D) H' (ms'.hide D) H2 := Ext.all y1
        dsimp only at x6
        cases ef : lc2F Γ ρ own g t own1 g1 it1 t1 ie x ds S' with
        | none => rw [ef] at x6; exact x6.elim
        | some r =>
          rw [ef] at x6
          cases r with
          | ex _ _ => exact x6.elim
          | ok accE SE =>
            obtain ⟨ρ', b, S3, f1, f2, f3, f4⟩ := lc2F_inv ef
            have heB : RpE K H2 (ms'.hide D) (L2.wipe σ own) (Qv.wipe ρ own) := (RpE.tr (Tr.trans trJ ey.tr) he1).wipe own
            refine ⟨ms'.hide D, Qv.wipe ρ own, x, ρ', heB, y3, f1, fun σ2 hσ2 w2 => ⟨by rw [w2 own hg, wipe_idem], ?_⟩⟩
            refine ⟨ms'.hide D, ρ', S', hσ2, y2, ?_⟩
            rw [f2]
            intro ms3 H3 e3 r3
            dsimp only at x6
            cases b with
            | true =>
              refine iteT ?_
              obtain ⟨src1, S4, g3, g4⟩ := f3 rfl
              refine ⟨ms3, ρ', S3, hσ2.ext e3, r3, ?_⟩
              rw [g3]
              intro ms4 H4 e4 r4 J1 hJ1
              have eA0 : Ext (ms'.hide D) H' ms4 H4 := (ey.trans e3).trans e4
              have hD4 : H4 D = some (.lst acc) := eA0.keep D _ (x2.hd D List.mem_cons_self).1 nt_lst x3
              have h4 := back x1 eA0
              have heI : RpE K H4 ms4 σ2 ρ' := (hσ2.ext e3).ext e4
              have eo := ext_out (o := .lst acc) nt_lst x1 eA0 hD
              rw [same hD4] at eo
              let W1 : Nat → Nat → Hp → Prop := fun j k H5 => ∃ msI acc5 ds5 S5, Ext ms1 H1 msI H5 ∧ RpS H5 (msI.hide D) S5 ∧ H5 D = some (.lst acc5) ∧ acc5.length ≤ line ∧ Rps H5 (msI.hide D) acc5 ds5 ∧ Tr ms4 H4 (msI.hide D) H5 ∧
                lcLoop src1 (lcF Γ ρ' own1 g1 t1 ie) k j ds5 S5 = some (.ok accE SE)
              refine ⟨W1, ⟨src1.len S4 + 1, ⟨ms4.ix, ms1.hid, ms1.tb, ms4.kd⟩, acc, ds, S4, eo, by rw [← h4]; exact r4, hD4, x4, by rw [← h4]; exact x5.ext eA0, by rw [← h4]; exact (Ext.refl _ _).tr, g4⟩, ?_⟩
              rintro j k H5 ⟨msI, acc5, ds5, S5, z1, z2, z3, z4, z5, zt, z6⟩
              cases k with
              | zero => cases z6
              | succ k =>
                have hj1 := hJ1 (msI.hide D) H5 S5 j zt z2
                rw [lcLoop_step] at z6
                cases ea1 : src1.at j S5 with
                | none => rw [ea1] at z6; cases z6
                | some ox1 =>
                  cases ox1 with
                  | none =>
                    rw [ea1] at hj1 z6
                    have z6 := Rs.ok.inj (Option.some.inj z6)
                    obtain ⟨rfl, rfl⟩ := z6
                    exact .inl ⟨hj1, msI, acc5, ds5, S5, z1, z2, z3, z4, z5, x6⟩
                  | some xx =>
                    rw [ea1] at hj1 z6
                    obtain ⟨hgo1, hy1⟩ := hj1
                    refine .inr ⟨hgo1, fun H6 => W1 (j + 1) k H6, fun H6 w => ⟨k, Nat.lt_succ_self k, w⟩, fun v1 H6 yv1 => ?_⟩
                    obtain ⟨u1, u2, u3⟩ := hy1 v1 H6 yv1
                    have ey1 : Ext (msI.hide D) H5 (msI.hide D) H6 := Ext.all u1
                    dsimp only at z6
                    cases ef1 : lcF Γ ρ' own1 g1 t1 ie xx S5 with
                    | none => rw [ef1] at z6; cases z6
                    | some r1' =>
                      rw [ef1] at z6
                      cases r1' with
                      | ex _ _ => cases z6
                      | ok o S'' =>
                        obtain ⟨ρ'', b1, S7, k1, k2, k3, k4⟩ := lcF_inv ef1
                        have heB1 : RpE K H6 (msI.hide D) (L2.wipe σ2 own1) (Qv.wipe ρ' own1) := (RpE.tr (Tr.trans zt ey1.tr) heI).wipe own1
                        refine ⟨msI.hide D, Qv.wipe ρ' own1, xx, ρ'', heB1, u3, k1, fun σ3 hσ3 w3 => ⟨by rw [w3 own1 hg1, wipe_idem], ?_⟩⟩
                        refine ⟨msI.hide D, ρ'', S5, hσ3, u2, ?_⟩
                        rw [k2]
                        intro ms6 H7 e6 r6
                        cases b1 with
                        | true =>
                          refine iteT ?_
                          obtain ⟨y, q1, rfl⟩ := k3 rfl
                          refine ⟨ms6, ρ'', S7, hσ3.ext e6, r6, ?_⟩
                          rw [q1]
                          intro ms7 H8 e7 r7 u hu
                          have eA : Ext (msI.hide D) H5 ms7 H8 := (ey1.trans e6).trans e7
                          have hD8 : H8 D = some (.lst acc5) := eA.keep D _ (z2.hd D List.mem_cons_self).1 nt_lst z3
                          have h7 := back z1 eA
                          cases hu with
                          | d hu =>
                            dsimp only at z6
                            by_cases hl : ds5.length < line
                            · rw [if_pos hl] at z6
                              have hal : acc5.length < line := by rw [z5.len]; exact hl
                              refine ⟨acc5, hD8, by rw [← line_eq]; exact hal, ⟨ms7.ix, ms1.hid, ms1.tb, ms7.kd⟩, acc5 ++ [u], ds5 ++ [y], S'', ext_out nt_lst z1 eA hD, ?_, upd_same, by rw [List.length_append]; exact hal, ?_, ?_, z6⟩
                              · rw [h7] at r7; exact rps_upd nt_lst r7 hD8
                              · have q1 : Rps H8 ms7 (acc5 ++ [u]) (ds5 ++ [y]) := (z5.ext eA).app (.cons hu .nil)
                                rw [h7] at q1
                                exact q1.tr tr_upd
                              · have q2 : Tr ms4 H4 ms7 H8 := zt.trans eA.tr
                                rw [h7] at q2
                                exact q2.trans tr_upd
                            · rw [if_neg hl] at z6; cases z6
                        | false =>
                          refine iteF ?_
                          obtain ⟨rfl, rfl⟩ := k4 rfl
                          have eA : Ext (msI.hide D) H5 ms6 H7 := ey1.trans e6
                          have hD8 : H7 D = some (.lst acc5) := eA.keep D _ (z2.hd D List.mem_cons_self).1 nt_lst z3
                          have h7 := back z1 eA
                          have eo1 := ext_out (o := .lst acc5) nt_lst z1 eA hD
                          rw [same hD8] at eo1
                          refine ⟨⟨ms6.ix, ms1.hid, ms1.tb, ms6.kd⟩, acc5, ds5, S'', eo1, by rw [← h7]; exact r6, hD8, z4, ?_, ?_, z6⟩
                          · rw [← h7]; exact z5.ext eA
                          · rw [← h7]; exact zt.trans eA.tr
            | false =>
              refine iteF ?_
              obtain ⟨rfl, rfl⟩ := f4 rfl
              have eA : Ext (ms'.hide D) H' ms3 H3 := ey.trans e3
              have hD4 : H3 D = some (.lst acc) := eA.keep D _ (x2.hd D List.mem_cons_self).1 nt_lst x3
              have h4 := back x1 eA
              have eo := ext_out (o := .lst acc) nt_lst x1 eA hD
              rw [same hD4] at eo
              refine ⟨⟨ms3.ix, ms1.hid, ms1.tb, ms3.kd⟩, acc, accE, SE, eo, by rw [← h4]; exact r3, hD4, x4, ?_, x6⟩
              rw [← h4]; exact x5.ext eA
theorem s_lc2V {tg elt iter tg1 iter1 : Expr} {ifs ifs1 : List Expr} {scope : Scope} {vs : List Nat} {g g1 : Tg} {it it1 : IT} {t t1 : IO} {ie : IE} (own : List (Str × Nat)) (vs1 : List Nat) (hc : X.calm = true) (hN : X.N.Nodup) (hi : SI X mg E Γ tg iter it) (ok : blkC X.N X.env.scope scope own = true)
    (hg : ∀ (s : Shared) (H : Hp) (C : Addr) (cl : List (Str × Addr)) (fp : List Addr), PG (X.blk s H scope (compEnvC scope cl C X.env) fp) tg (tG X.K g)) (ht : ∀ (s : Shared) (H : Hp) (C : Addr) (cl : List (Str × Addr)) (fp : List Addr), PTs (X.blk s H scope (compEnvC scope cl C X.env) fp) ifs (tV X.K mg E0 Γ t))
    (hi1 : ∀ (s : Shared) (H : Hp) (C : Addr) (cl : List (Str × Addr)) (fp : List Addr), PI (X.blk s H scope (compEnvC scope cl C X.env) fp) tg1 iter1 (tI X.K mg E0 Γ it1))
    (hg1 : ∀ (s : Shared) (H : Hp) (C : Addr) (cl : List (Str × Addr)) (fp : List Addr), PG (X.blk s H scope (compEnvC scope cl C X.env) fp) tg1 (tG X.K g1)) (ht1 : ∀ (s : Shared) (H : Hp) (C : Addr) (cl : List (Str × Addr)) (fp : List Addr), PTs (X.blk s H scope (compEnvC scope cl C X.env) fp) ifs1 (tV X.K mg E0 Γ t1))
    (he : ∀ (s : Shared) (H : Hp) (C : Addr) (cl : List (Str × Addr)) (fp : List Addr), PE (X.blk s H scope (compEnvC scope cl C X.env) fp) elt (tE X.K mg E0 Γ ie)) (ev : own.map (·.2) = vs := by rfl) (hsl : ∀ i ∈ g.slots, i ∈ vs := by decide) (hsl1 : ∀ i ∈ g1.slots, i ∈ vs1 := by decide) (hv : ∀ i ∈ vs1, i ∈ own.map (·.2) := by decide) (hs : ∀ x, foldedSetIterable iter X.env x = pure x := by intro _; rfl) (hs1 : ∀ env x, foldedSetIterable iter1 env x = pure x := by intro _ _; rfl) :
    SE X mg E Γ (.ListComp elt [⟨tg, iter, ifs, 0⟩, ⟨tg1, iter1, ifs1, 0⟩] scope pos) (.lc2 vs g it t vs1 g1 it1 t1 ie) := by
  subst ev
  exact pe_imp (pe_lc2 hc hN hi (blkOk_by ok) hv hg ht hi1 hg1 ht1 he hs hs1) fun σ H Q h => lc2_read hsl hsl1 h
theorem s_asgLc2V {x : Str} {px lpos : Pos} {tg elt iter tg1 iter1 : Expr} {ifs ifs1 : List Expr} {scope : Scope} {vs : List Nat} {g g1 : Tg} {it it1 : IT} {t t1 : IO} {ie : IE} (i : Nat) (own : List (Str × Nat)) (vs1 : List Nat) (hc : X.calm = true) (hN : X.N.Nodup) (hi : SI X mg E Γ tg iter it) (ok : blkC X.N X.env.scope scope own = true)
    (hg : ∀ (s : Shared) (H : Hp) (C : Addr) (cl : List (Str × Addr)) (fp : List Addr), PG (X.blk s H scope (compEnvC scope cl C X.env) fp) tg (tG X.K g)) (ht : ∀ (s : Shared) (H : Hp) (C : Addr) (cl : List (Str × Addr)) (fp : List Addr), PTs (X.blk s H scope (compEnvC scope cl C X.env) fp) ifs (tV X.K mg E0 Γ t))
    (hi1 : ∀ (s : Shared) (H : Hp) (C : Addr) (cl : List (Str × Addr)) (fp : List Addr), PI (X.blk s H scope (compEnvC scope cl C X.env) fp) tg1 iter1 (tI X.K mg E0 Γ it1))
    (hg1 : ∀ (s : Shared) (H : Hp) (C : Addr) (cl : List (Str × Addr)) (fp : List Addr), PG (X.blk s H scope (compEnvC scope cl C X.env) fp) tg1 (tG X.K g1)) (ht1 : ∀ (s : Shared) (H : Hp) (C : Addr) (cl : List (Str × Addr)) (fp : List Addr), PTs (X.blk s H scope (compEnvC scope cl C X.env) fp) ifs1 (tV X.K mg E0 Γ t1))
    (he : ∀ (s : Shared) (H : Hp) (C : Addr) (cl : List (Str × Addr)) (fp : List Addr), PE (X.blk s H scope (compEnvC scope cl C X.env) fp) elt (tE X.K mg E0 Γ ie)) (hsw : swapsWith (.ListComp elt [⟨tg, iter, ifs, 0⟩, ⟨tg1, iter1, ifs1, 0⟩] scope lpos) (some (.Name x px)) pos.line X.env = pure true)
    (ev : own.map (·.2) = vs := by rfl) (hsl : ∀ i ∈ g.slots, i ∈ vs := by decide) (hsl1 : ∀ i ∈ g1.slots, i ∈ vs1 := by decide) (hv : ∀ i ∈ vs1, i ∈ own.map (·.2) := by decide) (hs : ∀ x, foldedSetIterable iter X.env x = pure x := by intro _; rfl) (hs1 : ∀ env x, foldedSetIterable iter1 env x = pure x := by intro _ _; rfl)
    (hx : X.N[i]? = some x := by rfl) (hl : X.env.scope.names.lookup x = some .local := by rfl) : SS X mg E Γ (.Assign [.Name x px] (.ListComp elt [⟨tg, iter, ifs, 0⟩, ⟨tg1, iter1, ifs1, 0⟩] scope lpos) pos) (.asg i (.lc2 vs g it t vs1 g1 it1 t1 ie)) := by
  subst ev
  refine ps_imp (ps_setLc2 hc hN hx hl hsw hi (blkOk_by ok) hv hg ht hi1 hg1 ht1 he hs hs1) fun D σ H ⟨ms, ρ, S, he, hs, hp⟩ => ?_
  show tLc2 (tI X.K mg E Γ it) (tG X.K g) (tV X.K mg E0 Γ t) (tI X.K mg E0 Γ it1) (tG X.K g1) (tV X.K mg E0 Γ t1) (tE X.K mg E0 Γ ie) (own.map (·.2)) vs1 σ H fun x H1 => gName i x σ H1 D.nx
  refine lc2_read hsl hsl1 ⟨ms, ρ, S, he, hs, PostG.part (f := fun w => M.ret (Out.nx (ρ.set i (some w)))) hp fun w S1 ms1 H1 _ e1 r1 h1 v hv => ?_⟩
  exact h1.ret r1 _ ((he.ext e1).set hv)
end
end Qv

/-! Snd18 -/
set_option maxHeartbeats 0
/-! max of a tuple of ints -/
namespace L2
open PySem PySem.Spec PyProof.Rows
section
variable {prog : Program} {w : World} {A : Around} {E : Value → Shared → Prop} {s : Shared} {l : Addr} {its : List Value} {ns : List Int}
theorem max_tupI {Q : Value → Shared → Prop} (calm : A.handled = none) (ist : s.heap.IsTuple l its.toArray) (are : IntsAre its ns) (some1 : 0 < ns.length)
    (k : ∀ g tk M t, (∀ b o, s.heap.get? b = some o → g.get? b = some o) → M ∈ ns → (∀ a, a ∈ ns → a ≤ M) → Q (.int M t) { s with heap := g, toks := tk }) : wpAny (model prog w) A (call (.builtin "max") [.ref l]) Q E s := by
  obtain ⟨xs, e⟩ := are.allInts.items
  have n0 : numsOf (intItems xs).toList = ns := e ▸ are.numsOf
  rw [nums_intItems] at n0
  subst n0
  rw [e] at ist
  have low : l < s.heap.objs.size := by obtain ⟨_, e, _⟩ := ist; exact Heap.lt_size e
  refine PySem.call_max_walk (wpAny_pyIter_tuple ist ?_)
  refine ⟨_, [_, l], [_], _, _, _, _, rfl, Walks.tuple (A := A.in1) calm _ l (Nat.ne_of_lt low) (intItems xs), ⟨⟨_, Heap.get?_push_size _ rfl, rfl, rfl⟩, ist.push _⟩, fun d hd => ?_, by simpa [intItems] using some1, CmpOf.ints_gt (numAt xs) (fun _ _ => intItems_at), fun v g tk hP kept => ?_⟩
  · show d < (s.heap.push _).objs.size
    rw [Heap.size_push]
    rcases List.mem_cons.mp hd with rfl | hd
    · exact Nat.lt_succ_self _
    · have : d = l := by simpa using hd
      subst this; exact Nat.lt_succ_of_lt low
  · have hv : (intItems xs)[argBest (fun i j => decide (numAt xs i > numAt xs j)) (xs.size - 1)]? = some v := by simpa [intItems] using hP
    obtain ⟨t, rfl⟩ := intItems_at hv
    obtain ⟨b1, b2⟩ := argBest_gt (numAt xs) (xs.size - 1)
    have sz : 0 < xs.size := by simpa using some1
    refine k g tk _ t (fun b o eb => kept b o (fun hm => ?_) (Heap.get?_push_of_some _ eb)) ?_ fun a ha => ?_
    · have e1 : b = s.heap.objs.size := by simpa using hm
      rw [e1] at eb
      exact absurd (Heap.lt_size eb) (Nat.lt_irrefl _)
    · rw [numAt_eq]; exact PySem.getD_mem (by rw [List.length_map, Array.length_toList]; omega)
    · obtain ⟨j, hj, rfl⟩ := mem_getD ha
      rw [List.length_map, Array.length_toList] at hj
      rw [← numAt_eq]; exact b2 j (by omega)
end
variable {X : Cx}
def rMaxT (K : PySem.W.Frag) : List V → Hp → VK → Prop := fun vs H Q => ∃ (a : Addr) (ns : List Int), vs = [V.ref a] ∧ SqT K H a (ns.map V.int) ∧ 0 < ns.length ∧ ∀ m, m ∈ ns → (∀ y, y ∈ ns → y ≤ m) → Q (.int m) H
theorem cr_maxT (hc : X.calm = true) : CallR X (.builtin "max") (rMaxT X.K) := by
  intro pins s σ H vs us Q I r h
  obtain ⟨a, ns, rfl, hs, hne, q⟩ := h
  obtain ⟨its, rv, ht, _⟩ := I.tuple hs
  rw [Vals.ref1 r]
  exact max_tupI (I.ok.hd hc) ht rv.ints hne fun g tk m t kept h1 h2 => ⟨.int _, H, I.kept kept, ⟨_, rfl⟩, q m h1 h2⟩
end L2
namespace Qv
open PySem PySem.Spec PyProof.Rows L2
theorem p_maxt {K : PySem.W.Frag} : PrimOk .maxt (rMaxT K) := by
  intro mg E H ms S vs ds d Q r hv hp hf
  have hp : pMaxt ds = some d := hp
  unfold pMaxt at hp
  split at hp
  · obtain ⟨v, rfl, h⟩ := hv.one
    obtain ⟨q, xs, rfl, k1, k0, k2, k3⟩ := h.tup
    split at hp
    · cases hp
    · rename_i ns hns
      have e := ints_rps k3 hns
      subst e
      cases ns with
      | nil => cases hp
      | cons i l =>
        cases hp
        obtain ⟨h1, h2⟩ := fold_most l i
        refine ⟨q, i :: l, rfl, SqT.of k1, by simp, fun m hm hle => ?_⟩
        have : m = l.foldl (fun a b => if a < b then b else a) i := Int.le_antisymm (h2 _ hm) (hle _ h1)
        rw [this]
        exact hf.now r (.int _)
  · cases hp
end Qv

/-! Base -/
set_option maxHeartbeats 0
/-! What every def's derivation asks. -/
namespace Qv
open PySem PySem.Spec PyProof.Rows L2
/-- turns enough for each loop -/
def fuel : Nat := 100
theorem q_len : bootBuiltins "len" = some (.builtin "len") := by decide +kernel
theorem q_abs : bootBuiltins "abs" = some (.builtin "abs") := by decide +kernel
theorem q_min : bootBuiltins "min" = some (.builtin "min") := by decide +kernel
theorem q_max : bootBuiltins "max" = some (.builtin "max") := by decide +kernel
theorem q_sum : bootBuiltins "sum" = some (.builtin "sum") := by decide +kernel
theorem q_sorted : bootBuiltins "sorted" = some (.builtin "sorted") := by decide +kernel
theorem q_int : bootBuiltins "int" = some (.type "int") := by decide +kernel
theorem q_bool : bootBuiltins "bool" = some (.type "bool") := by decide +kernel
theorem q_str : bootBuiltins "str" = some (.type "str") := by decide +kernel
theorem q_tuple : bootBuiltins "tuple" = some (.type "tuple") := by decide +kernel
theorem q_list : bootBuiltins "list" = some (.type "list") := by decide +kernel
section
variable {P : Program} {w : World} {K : PySem.W.Frag} {mg : Str → Option Value} {base : Heap} {N : List Str} {qual : Str} {scope : Scope} {f : Addr} {cdv : Value} {A : Around} {outer : List PySem.Env} {s : Shared} {H : Hp} {E : XK}
theorem pxQ : Passes (L2.CX P w) (cxOf (L2.CX P w) P w K mg base N qual scope f cdv A outer s H E) E := passes_call (takes_of rfl rfl rfl rfl) fun _ _ _ _ h => h
theorem tkQ : Takes (cxOf (L2.CX P w) P w K mg base N qual scope f cdv A outer s H E) (fun cls d _ H => E cls d H) := takes_of rfl rfl rfl rfl
theorem pownQ : PassesOwn (model P w) (cxOf (L2.CX P w) P w K mg base N qual scope f cdv A outer s H E).A (cxOf (L2.CX P w) P w K mg base N qual scope f cdv A outer s H E).env (cxOf (L2.CX P w) P w K mg base N qual scope f cdv A outer s H E).xe := passes_of rfl
theorem huQ {k : Nat} {A : Around} (h : Room k A) : A.units + 200 < cLine := by
  have := h.un; omega
theorem FnOk.calm {k : Nat} {fd : FuncData} {ps : List Str} {sp sp' : Sp} (F : FnOk P w K mg base (L2.CX P w) k f fd ps sp) (h : ∀ vs H Q E, sp' vs H Q E → sp vs H Q E0) : FnOk P w K mg base CX0 k f fd ps sp' :=
  ⟨fun vs H Q E q => F.len vs H Q E0 (h _ _ _ _ q), fun A outer s H args us vs Q E hr he hb hv hs => codeAny_mono (F.run A outer s H args us vs Q E0 hr he hb hv (h _ _ _ _ hs)) fun r s' q => by
    cases r with
    | ok fl => cases fl <;> exact q
    | error e =>
      obtain ⟨_, _, _, _, _, _, _, _, _, _, _, _, z⟩ := q
      exact z.elim⟩
end
/-! comprehensions, their own names told -/
section
variable {X : Cx} {mg : Str → Option Value} {E : XK} {Γ : Fns} {pos : Pos} {ie : IE}
theorem s_lcV {tg elt iter : Expr} {ifs : List Expr} {scope : Scope} {vs : List Nat} {g : Tg} {it : IT} {t : IO} (own : List (Str × Nat)) (hc : X.calm = true) (hN : X.N.Nodup) (hi : SI X mg E Γ tg iter it) (ok : blkC X.N X.env.scope scope own = true)
    (hg : ∀ (s : Shared) (H : Hp) (C : Addr) (cl : List (Str × Addr)) (fp : List Addr), PG (X.blk s H scope (compEnvC scope cl C X.env) fp) tg (tG X.K g)) (ht : ∀ (s : Shared) (H : Hp) (C : Addr) (cl : List (Str × Addr)) (fp : List Addr), PTs (X.blk s H scope (compEnvC scope cl C X.env) fp) ifs (tV X.K mg E0 Γ t))
    (he : ∀ (s : Shared) (H : Hp) (C : Addr) (cl : List (Str × Addr)) (fp : List Addr), PE (X.blk s H scope (compEnvC scope cl C X.env) fp) elt (tE X.K mg E0 Γ ie)) (ev : own.map (·.2) = vs := by rfl) (hsl : ∀ i ∈ g.slots, i ∈ vs := by decide) (hs : ∀ x, foldedSetIterable iter X.env x = pure x := by intro _; rfl) :
    SE X mg E Γ (.ListComp elt [⟨tg, iter, ifs, 0⟩] scope pos) (.lc vs g it t ie) := by
  subst ev
  exact s_lc hc hN hi (blkOk_by ok) hg ht he hsl hs
theorem s_asgLcV {x : Str} {px lpos : Pos} {elt tg iter : Expr} {ifs : List Expr} {scope : Scope} {vs : List Nat} {g : Tg} {it : IT} {t : IO} (i : Nat) (own : List (Str × Nat)) (hc : X.calm = true) (hN : X.N.Nodup) (hi : SI X mg E Γ tg iter it) (ok : blkC X.N X.env.scope scope own = true)
    (hg : ∀ (s : Shared) (H : Hp) (C : Addr) (cl : List (Str × Addr)) (fp : List Addr), PG (X.blk s H scope (compEnvC scope cl C X.env) fp) tg (tG X.K g)) (ht : ∀ (s : Shared) (H : Hp) (C : Addr) (cl : List (Str × Addr)) (fp : List Addr), PTs (X.blk s H scope (compEnvC scope cl C X.env) fp) ifs (tV X.K mg E0 Γ t))
    (he : ∀ (s : Shared) (H : Hp) (C : Addr) (cl : List (Str × Addr)) (fp : List Addr), PE (X.blk s H scope (compEnvC scope cl C X.env) fp) elt (tE X.K mg E0 Γ ie)) (hsw : swapsWith (.ListComp elt [⟨tg, iter, ifs, 0⟩] scope lpos) (some (.Name x px)) pos.line X.env = pure true)
    (ev : own.map (·.2) = vs := by rfl) (hsl : ∀ i ∈ g.slots, i ∈ vs := by decide) (hs : ∀ x, foldedSetIterable iter X.env x = pure x := by intro _; rfl)
    (hx : X.N[i]? = some x := by rfl) (hl : X.env.scope.names.lookup x = some .local := by rfl) : SS X mg E Γ (.Assign [.Name x px] (.ListComp elt [⟨tg, iter, ifs, 0⟩] scope lpos) pos) (.asg i (.lc vs g it t ie)) := by
  subst ev
  exact s_asgLc i hc hN hsw hi (blkOk_by ok) hg ht he hsl hs hx hl
end
section
variable {K : PySem.W.Frag} {mg : Str → Option Value}
/-- the law's own promise -/
def spLaw (K : PySem.W.Frag) : Sp := fun vs H Q _ => ∃ (a : Addr) (ns : List Int), vs = [.ref a] ∧ ns.length ≤ 63 ∧ SqL K H a (ns.map V.int) ∧ LamX.Tabs (tabsOf K) H ∧ ∀ H', Q (.bl true) H'
/-- a function that answers True to every script -/
theorem law_sp {F : List W → M W} (h : ∀ ns : List Int, ns.length ≤ 63 → ∃ S, F [.scr ns] [] = some (.ok (.d (.bool true)) S)) (vs : List V) (H : Hp) (Q : VK) (E : XK) (hs : spLaw K vs H Q E) : spF K mg F 1 vs H Q E0 := by
  obtain ⟨a, ns, rfl, hl, hS, hT, hQ⟩ := hs
  obtain ⟨S, e⟩ := h ns hl
  have hn : ¬ (⟨[], [], tabsOf K, []⟩ : Cells).has a := fun z => by rcases z with z | z <;> cases z
  refine ⟨rfl, ⟨[], [], tabsOf K, []⟩, [.scr ns], [], rfl, ⟨rfl, .nil, fun b hb => (by cases hb), fun k a ds h => (by simp at h), hT, fun p hp => (by cases hp)⟩, .cons (.scr ?_) .nil, ?_⟩
  · rcases hS with z | z
    · exact .inl ⟨hn, z⟩
    · exact .inr fun H' => .inr z
  · rw [e]
    intro ms' H' _ _ v hv
    cases hv with
    | d hv => cases hv; exact hQ H'
end
section
open LamX
variable {P : Program} {w : World} {K : PySem.W.Frag} {mg : Str → Option Value} {base : Heap} {Γ : Fns}
/-- the tables of code objects, as the text began -/
structure LamK (K : PySem.W.Frag) (base : Heap) (mg : Str → Option Value) : Prop where
  tb : ∀ x ∈ lamHere K, TabB base mg (He.cT K (x, none)).1 (He.cT K (x, none)).2
  nd : ((lamHere K).map fun x => (He.cT K (x, none)).2).Nodup
/-- a def that makes functions: its code object is told -/
theorem def_okC {x : Str} {params : Arguments} {body : List Stmt} {scope : Scope} {fd : FuncData} {N ps : List Str} {k n pn : Nat} {ib : ISs} (F : FunD K x x params body scope [] [] (He.ga K x) fd) (S : FnScope N ps scope) (hn : N.length = n) (hp : ps.length = pn)
    (hb : ∀ (A : Around) (outer : List PySem.Env) (s : Shared) (H : Hp) (E : XK), Room k (A.deeper (envOfC x scope s.heap.objs.size (He.ga K x) (.ref (He.codeOf K (x, none))))) → SSs (cxOf (L2.CX P w) P w K mg base N x scope (He.ga K x) (.ref (He.codeOf K (x, none))) A outer s H E) mg E Γ body ib) :
    FnOk P w K mg base (L2.CX P w) (k + 1) (He.ga K x) fd ps (spF K mg (fdef Γ pn n ib) pn) := by
  subst hn hp
  obtain ⟨oc, od, dV, kV, doc, pm, an, cdv, ct, osl, rfl, lk, hcd, _, _⟩ := F.ex
  obtain ⟨c, rfl⟩ := He.codeIn_ref hcd
  have ec : He.codeOf K (x, none) = c := He.codeOf_eq (p := (x, none)) lk rfl
  rw [ec] at hb
  refine fn_of lk hcd S (fun vs H Q E h => h.1) (fun A outer s H vs Q E hr h => ⟨tSs K mg E Γ ib, hb A outer s H E hr, ?_⟩)
  obtain ⟨hl, ms, ws, St, htb, r, hv, hq⟩ := h
  have hpl : ps.length ≤ N.length := by have := congrArg List.length S.pre; rw [List.length_take] at this; omega
  have hw : ws.length = ps.length := by rw [← hv.len]; exact hl
  unfold fdef at hq
  rw [if_pos hw] at hq
  refine ⟨ms, Qv.start N.length ws, St, rpE_start htb hv N.length (by omega), r, PostG.part (f := outW) hq fun o S1 ms1 H1 _ e1 r1 h1 => ?_⟩
  cases o with
  | nx ρ' => exact fun σ' _ => h1.ret r1 _ (.d .non)
  | ret w => exact h1 ms1 H1 (Ext.refl _ _) r1
  | bk ρ' => exact h1.elim
  | ct ρ' => exact h1.elim
theorem nodup_key {α : Type} {f : Str → Addr} : ∀ {l : List Str}, (l.map f).Nodup → ∀ {a b : Str}, a ∈ l → b ∈ l → f a = f b → a = b
  | [], _, _, _, ha, _, _ => by cases ha
  | c :: l, h, a, b, ha, hb, e => by
    have h' := List.nodup_cons.mp h
    rcases List.mem_cons.mp ha with ha | ha <;> rcases List.mem_cons.mp hb with hb | hb
    · rw [ha, hb]
    · rw [ha] at e; exact absurd (List.mem_map.mpr ⟨b, hb, e.symm⟩) h'.1
    · rw [hb] at e; exact absurd (List.mem_map.mpr ⟨a, ha, e⟩) h'.1
    · exact nodup_key (α := α) h'.2 ha hb e
/-- _law_word(lambda: e) within such a def -/
theorem s_wordL {X : Cx} {mg : Str → Option Value} {E : XK} {Γ : Fns} {g : Addr} {fd : FuncData} {pg : Arguments} {bg : List Stmt} {sg : Scope} {k : Nat} {lsc : Scope} {params : Arguments} {body : Expr} {ib : IE} {p lpos pos : Pos} (x : Str) (hmg : X.mg = mg) (LK : LamK X.K X.base X.mg) (hx : x ∈ lamHere X.K)
    (hq : X.env.qual = x ++ ".<locals>.") (hcode : X.env.code = .ref (He.codeOf X.K (x, none))) (hg : Gl X "_law_word") (hm : X.mg "_law_word" = some (.ref g)) (F : FunD X.K "_law_word" "_law_word" pg bg sg [] [] g fd) (hb : Binds X.K fd ["_law_call"] []) (Sg : FnScope ["_law_call", "_law_found", "e"] ["_law_call"] sg) (hva : Vis sg "_law_call")
    (hG : ∀ (cdv : Value) (q : Str), GivesTo X ["_law_call", "_law_found", "e"] "_law_word" sg g cdv bg "_law_call" q (TTw X.K X.mg)) (hr : Room (k + 2) X.A) (L : lamSB X.env.scope lsc = true) (hdef : defaultsOf params X.env = ([], []))
    (hbind : ∀ (q : Str) (cl : List (Str × Addr)) (pm cv ctv : Value), bindArgs (PySem.W.kla_fn "<lambda>" q params body lsc cl pm cv ctv) ⟨[], []⟩ = pure [])
    (hbody : ∀ (A : Around) (outer : List PySem.Env) (s : Shared) (H : Hp) (E : XK) (f c' : Addr), Room k (A.deeper (lamEnv X lsc s.heap.objs.size f c')) → SE (lamCx X A outer s H E lsc f c') mg E Γ body ib) :
    SE X mg E Γ (.Call (.Name "_law_word" p) [.Lambda params body lsc lpos] [] pos) (.word ib) := by
  have hmem : ((He.cT X.K (x, none)).2, X.env.qual ++ "<lambda>") ∈ tabsOf X.K := by
    rw [hq]; exact List.mem_map.mpr ⟨x, hx, rfl⟩
  refine s_word (c := (He.cT X.K (x, none)).1) hmg hg hm F hb Sg rfl hva (fun cdv => hG cdv _) (LK.tb x hx) hcode hmem (fun q hq2 e => ?_) hr (lamS_by L) hdef hbind hbody
  obtain ⟨y, hy, rfl⟩ := List.mem_map.mp hq2
  have := nodup_key (α := Nat) LK.nd hy hx e
  rw [this, hq]
/-- what a lambda's body raises goes out -/
theorem pxL {X : Cx} {A : Around} {outer : List PySem.Env} {s : Shared} {H : Hp} {E : XK} {lsc : Scope} {f c' : Addr} : Passes (L2.CX X.prog X.w) (lamCx X A outer s H E lsc f c') E := passes_call (takes_of rfl rfl rfl rfl) fun _ _ _ _ h => h
end
end Qv
namespace Qv
open PySem PySem.Spec PyProof.Rows L2
/-! the facts of the classes, as the head tells them -/
def excFa : List He.Fa := excNames.map He.Fa.glo ++ excNames.flatMap fun c => excNames.map fun h => He.Fa.exm c h (decide (c = h))
def exB (K : PySem.W.Frag) : Bool := xfB K (He.ga K "TooMany") && decide (PySem.W.findIn K (.ref (He.ga K "TooMany")) "limit" = some none)
theorem excOk_of {h : Heap} {K : PySem.W.Frag} {mg : Str → Option Value} {fa : List He.Fa} {fn : List He.DefD} (X : K.In h) (G : h.Ns mainGlobals mg) (c : He.SaysD (fa ++ excFa) fn K) (x : exB K = true) : ExcOk K mg where
  g := fun n hn => He.glo_ok X G (c.facts (List.mem_append_right _ (List.mem_append_left _ (List.mem_map.mpr ⟨n, hn, rfl⟩))))
  m := fun n hn m hm => He.exm_ok (c.facts (f := .exm n m (decide (n = m))) (List.mem_append_right _ (List.mem_append_right _ (List.mem_flatMap.mpr ⟨n, hn, List.mem_map.mpr ⟨m, hm, rfl⟩⟩))))
  f := xfB_ok (He.ba x).1
  nl := of_decide_eq_true (He.ba x).2
/-- the end: what the law's def answers -/
theorem law_end {l : PySem.W.OpenLaw} {w : World} {K : PySem.W.Frag} {k : Nat} {mg : Str → Option Value} {h : Heap} {fa : List He.Fa} {fn : List He.DefD} {ts : List He.Tab} {ex : PySem.W.Frag → Bool} {f : Addr} {fd : FuncData} {ns : List Str} (L : List He.Defn) (KX : K.In h) (c : He.SaysX fa fn ts L ex w h K) (hl : lamHere K = ns)
    (nd : decide (((lamHere K).map fun x => (He.cT K (x, none)).2).Nodup) = true) (eL : L = ns.map fun x => (x, none)) (hb : ∀ (s : Shared) (u : Value), BindsTo s fd ⟨[u], []⟩ [("_law_script", u)])
    (hF : ∀ base : Heap, LamK K base mg → FnOk l.prog w K mg base CX0 k f fd ["_law_script"] (spLaw K)) : ∃ K : PySem.W.Frag, K.In h ∧ LamX.LawAtS l w K CX0 k 63 "_law_script" mg f h := by
  have inL : ∀ p ∈ (lamHere K).map (fun x => He.cT K (x, none)), ∃ q ∈ L, p = He.cT K q := fun p hp => by
    obtain ⟨x, hx, rfl⟩ := List.mem_map.mp hp
    exact ⟨(x, none), by rw [eL, ← hl]; exact List.mem_map.mpr ⟨x, hx, rfl⟩, rfl⟩
  refine ⟨K, KX, fd, (lamHere K).map (fun x => He.cT K (x, none)), spLaw K, fun p hp => ?_, fun p hp => ?_, fun p hp => ?_, hb, fun H a ns hn _ hT hS => ⟨a, ns, rfl, hn, hS, fun p hp => ?_, fun _ => rfl⟩, fun base _ _ hT => hF base ⟨fun x hx => hT _ (List.mem_map.mpr ⟨x, hx, rfl⟩), of_decide_eq_true nd⟩⟩
  · obtain ⟨q, hq, rfl⟩ := inL p hp; exact c.empty q hq
  · obtain ⟨q, hq, rfl⟩ := inL p hp; exact c.out q hq
  · obtain ⟨q, hq, rfl⟩ := inL p hp; exact PySem.W.codeHd_of_K KX (c.hd q hq)
  · obtain ⟨x, hx, rfl⟩ := List.mem_map.mp hp
    exact LamX.TabS.nil (hT _ (List.mem_map.mpr ⟨x, hx, rfl⟩))
end Qv
namespace Qv
open PySem PySem.Spec PyProof.Rows L2 LamX
theorem s_wordQ {P : Program} {w : World} {K : PySem.W.Frag} {mg : Str → Option Value} {base : Heap} {N : List Str} {scope : Scope} {A : Around} {outer : List PySem.Env} {s : Shared} {H : Hp} {E : XK} {x : Str} {Γ : Fns} {g : Addr} {fd : FuncData} {pg : Arguments} {bg : List Stmt} {sg : Scope} {k : Nat} {lsc : Scope} {params : Arguments} {body : Expr} {ib : IE} {p lpos pos : Pos} (LK : LamK K base mg) (hx : x ∈ lamHere K)
    (hg : scope.names.lookup ("_law_word" : Str) = some .globalImplicit) (hm : mg "_law_word" = some (.ref g)) (F : FunD K "_law_word" "_law_word" pg bg sg [] [] g fd) (hb : Binds K fd ["_law_call"] []) (Sg : FnScope ["_law_call", "_law_found", "e"] ["_law_call"] sg) (hva : Vis sg "_law_call")
    (hG : ∀ (X : Cx) (_ : X.K = K) (_ : X.mg = mg) (cdv : Value) (q : Str), GivesTo X ["_law_call", "_law_found", "e"] "_law_word" sg g cdv bg "_law_call" q (TTw X.K X.mg)) (hr : Room (k + 2) (A.deeper (envOfC x scope s.heap.objs.size (He.ga K x) (.ref (He.codeOf K (x, none)))))) (L : lamSB scope lsc = true) (hdef : params = (⟨[], [], none, [], [], none, []⟩ : Arguments))
    (hbody : ∀ (A1 : Around) (o1 : List PySem.Env) (s1 : Shared) (H1 : Hp) (E1 : XK) (f c' : Addr), Passes (L2.CX P w) (lamCx (cxOf (L2.CX P w) P w K mg base N x scope (He.ga K x) (.ref (He.codeOf K (x, none))) A outer s H E) A1 o1 s1 H1 E1 lsc f c') E1 → Room k (A1.deeper (lamEnv (cxOf (L2.CX P w) P w K mg base N x scope (He.ga K x) (.ref (He.codeOf K (x, none))) A outer s H E) lsc s1.heap.objs.size f c')) → SE (lamCx (cxOf (L2.CX P w) P w K mg base N x scope (He.ga K x) (.ref (He.codeOf K (x, none))) A outer s H E) A1 o1 s1 H1 E1 lsc f c') mg E1 Γ body ib) :
    SE (cxOf (L2.CX P w) P w K mg base N x scope (He.ga K x) (.ref (He.codeOf K (x, none))) A outer s H E) mg E Γ (.Call (.Name "_law_word" p) [.Lambda params body lsc lpos] [] pos) (.word ib) := by
  subst hdef
  exact s_wordL x rfl LK hx rfl rfl hg hm F hb Sg hva (fun cdv q => hG _ rfl rfl cdv q) hr L rfl (fun _ _ _ _ _ => rfl) (fun A1 o1 s1 H1 E1 f c' hr => hbody A1 o1 s1 H1 E1 f c' pxL hr)
end Qv

/-! Snd21 -/
set_option maxHeartbeats 0
/-! a new list that a comprehension makes is a cell -/
namespace Qv
open PySem PySem.Spec PyProof.Rows L2
def lcN (src : Src) (F : PyData → M (Option PyData)) (m i : Nat) (ds : List PyData) : M W := (lcLoop src F m i ds).bnd newCell
theorem ev_mkLc {Γ : Fns} {own : List Nat} {g : Tg} {it : IT} {t : IO} {ie : IE} {ρ : Env} : ev Γ (.mk (.lc own g it t ie)) ρ = (evi Γ it ρ).bnd fun src => fun s => (lcLoop src (lcF Γ ρ own g t ie) (src.len s + 1) 0 []).bnd newCell s := by
  have e : ev Γ (.mk (.lc own g it t ie)) ρ = ((evi Γ it ρ).bnd fun src => fun s => (lcLoop src (lcF Γ ρ own g t ie) (src.len s + 1) 0 []).bnd (fun ds => M.ret (W.d (.list ds))) s).bnd ownM := by
    simp only [ev]; rfl
  rw [e]
  funext s
  unfold M.bnd
  cases evi Γ it ρ s with
  | none => rfl
  | some r =>
    cases r with
    | ex x s1 => rfl
    | ok src s1 =>
      dsimp only
      cases lcLoop src (lcF Γ ρ own g t ie) (src.len s1 + 1) 0 [] s1 with
      | none => rfl
      | some r => cases r <;> rfl
section
variable {K : PySem.W.Frag} {ms ms1 ms' : Cells} {H H1 H' : Hp} {D : Addr} {S : Sto}
theorem more_has {b : Addr} : (ms.more D).has b ↔ ms.has b ∨ b = D := by
  unfold Cells.has Cells.more
  simp only [List.mem_append, List.mem_singleton]
  constructor
  · rintro ((h | h) | h)
    · exact .inl (.inl h)
    · exact .inr h
    · exact .inl (.inr h)
  · rintro ((h | h) | h)
    · exact .inl (.inl h)
    · exact .inr h
    · exact .inl (.inr h)
theorem tr_own : Tr (ms.hide D) H (ms.more D) H := ⟨List.prefix_append _ _, rfl, KdE.refl _, fun b u n _ q => ⟨q, fun z => n (hide_has.mpr (more_has.mp z))⟩⟩
theorem ext_more (e : Ext ms1 H1 ms H) (h : H1 D = none) : Ext ms1 H1 (ms.more D) H := ⟨e.pre.trans (List.prefix_append _ _), e.hid, e.tb, ⟨e.kd.1, e.kd.2⟩, e.keep, e.stay, fun b hb => by
  rcases List.mem_append.mp hb with h1 | h1
  · exact e.new b h1
  · have : b = D := by simpa using h1
    subst this; exact .inr fun o _ z => by rw [h] at z; cases z⟩
theorem own_at (r : RpS H (ms.hide D) S) : (ms.more D).ix[S.length]? = some D := by
  have : ms.ix.length = S.length := r.len
  show (ms.ix ++ [D])[S.length]? = _
  rw [← this, List.getElem?_append_right (Nat.le_refl _), Nat.sub_self]; rfl
theorem rps_own {xs : List V} {ds : List PyData} (r : RpS H (ms.hide D) S) (hD : H D = some (.lst xs)) (hl : xs.length ≤ line) (hx : Rps H (ms.hide D) xs ds) (hn : ¬ ms.has D) : RpS H (ms.more D) (S ++ [ds]) := by
  have e0 : ms.ix.length = S.length := r.len
  have nD := (r.hd D List.mem_cons_self).1
  refine ⟨by show (ms.ix ++ [D]).length = _; rw [List.length_append, List.length_append, e0]; rfl, ?_, fun b hb => ?_, fun k a es h1 h2 => ?_, r.tabs, fun q hq => List.mem_append_left _ (r.kin q hq)⟩
  · refine List.nodup_append.mpr ⟨r.nd, by simp, fun a ha b hb => ?_⟩
    have : b = D := by simpa using hb
    subst this
    intro q; subst q; exact nD ha
  · obtain ⟨q1, q2⟩ := r.hd b (List.mem_cons_of_mem _ hb)
    refine ⟨fun z => ?_, q2⟩
    rcases List.mem_append.mp z with z | z
    · exact q1 z
    · have : b = D := by simpa using z
      subst this; exact hn (.inr hb)
  · have h1 : (ms.ix ++ [D])[k]? = some a := h1
    by_cases hk : k < ms.ix.length
    · rw [List.getElem?_append_left hk] at h1
      rw [List.getElem?_append_left (by rw [← e0]; exact hk)] at h2
      exact (r.cells k a es h1 h2).tr tr_own rfl rfl
    · have hk2 : k = ms.ix.length := by
        have := (List.getElem?_eq_some_iff.mp h1).1
        rw [List.length_append, List.length_singleton] at this; omega
      subst hk2
      rw [List.getElem?_append_right (Nat.le_refl _), Nat.sub_self] at h1
      rw [e0, List.getElem?_append_right (Nat.le_refl _), Nat.sub_self] at h2
      cases h1; cases h2
      exact ⟨fun _ => ⟨xs, hD, hl, hx.tr tr_own⟩, fun κ z => absurd (r.kin _ z) nD⟩
end
section
variable {X : Cx} {mg : Str → Option Value} {E : XK} {Γ : Fns} {pos : Pos} {ie : IE}
theorem lc_mkread {it : IT} {own : List Nat} {g : Tg} {t : IO} {ie : IE} {K : PySem.W.Frag} {σ : L2.St} {H : Hp} {Q : VK} (hg : ∀ i ∈ g.slots, i ∈ own) (h : tE K mg E Γ (.mk (.lc own g it t ie)) σ H Q) :
    tLc (tI K mg E Γ it) (tG K g) (tV K mg E0 Γ t) (tE K mg E0 Γ ie) own σ H Q := by
  obtain ⟨ms, ρ, S, he, hs, hp⟩ := h
  rw [ev_mkLc] at hp
  refine ⟨ms, ρ, S, he, hs, PostG.part (f := fun src => fun s => (lcLoop src (lcF Γ ρ own g t ie) (src.len s + 1) 0 []).bnd newCell s) hp fun src S1 ms1 H1 _ e1 r1 h1 J hJ D hD => ?_⟩
  have he1 := he.ext e1
  -- the state between two turns
  let Wt : Nat → Nat → Hp → Prop := fun i m H' => ∃ ms' acc ds S', Ext ms1 H1 ms' H' ∧ RpS H' (ms'.hide D) S' ∧ H' D = some (.lst acc) ∧ acc.length ≤ line ∧ Rps H' (ms'.hide D) acc ds ∧
    PostG mg E ms1 H1 (fun w ms'' H'' => ∀ v, RpW K H'' ms'' v w → Q v H'') (lcN src (lcF Γ ρ own g t ie) m i ds S')
  refine ⟨Wt, ⟨src.len S1 + 1, ms1, [], [], S1, Ext.laid hD, rps_hide nt_lst r1 hD, upd_same, Nat.zero_le _, .nil, h1⟩, ?_⟩
  rintro i m H' ⟨ms', acc, ds, S', x1, x2, x3, x4, x5, x6⟩
  cases m with
  | zero => exact x6.elim
  | succ m =>
    have nD : ¬ ms'.has D := fun z => by
      rcases z with z | z
      · exact (x2.hd D List.mem_cons_self).1 z
      · rw [x1.hid] at z
        obtain ⟨_, u, _, q⟩ := r1.hd D z
        rw [hD] at q; cases q
    have trJ : Tr ms1 H1 (ms'.hide D) H' := ⟨x1.pre, x1.tb, x1.kd, fun b u n nt q => ⟨(x1.tr.keep b u n nt q).1, fun z => (hide_has.mp z).elim (x1.tr.keep b u n nt q).2 (ne_of_none q hD)⟩⟩
    have hj := hJ (ms'.hide D) H' S' i trJ x2
    unfold lcN M.bnd at x6
    rw [lcLoop_step] at x6
    cases ea : src.at i S' with
    | none => rw [ea] at x6; exact x6.elim
    | some ox =>
      cases ox with
      | none =>
        rw [ea] at hj x6
        exact .inl ⟨hj, x6 (ms'.more D) H' (ext_more x1 hD) (rps_own x2 x3 x4 x5 nD) _ (.m (own_at x2) (x2.plain (x2.hd _ List.mem_cons_self).1))⟩
      | some x =>
        rw [ea] at hj x6
        obtain ⟨hgo, hy⟩ := hj
        refine .inr ⟨hgo, fun H5 => Wt (i + 1) m H5, fun H5 w => ⟨m, Nat.lt_succ_self m, w⟩, fun v H2 yv => ?_⟩
        obtain ⟨y1, y2, y3⟩ := hy v H2 yv
        have ey : Ext (ms'.hide D) H' (ms'.hide D) H2 := Ext.all y1
        dsimp only at x6
        cases ef : lcF Γ ρ own g t ie x S' with
        | none => rw [ef] at x6; exact x6.elim
        | some r =>
          rw [ef] at x6
          cases r with
          | ex _ _ => exact x6.elim
          | ok o S'' =>
            obtain ⟨ρ', b, S3, f1, f2, f3, f4⟩ := lcF_inv ef
            have heB : RpE K H2 (ms'.hide D) (L2.wipe σ own) (Qv.wipe ρ own) := (RpE.tr (Tr.trans trJ ey.tr) he1).wipe own
            refine ⟨ms'.hide D, Qv.wipe ρ own, x, ρ', heB, y3, f1, fun σ2 hσ2 w2 => ⟨by rw [w2 own hg, wipe_idem], ?_⟩⟩
            refine ⟨ms'.hide D, ρ', S', hσ2, y2, ?_⟩
            rw [f2]
            intro ms3 H3 e3 r3
            -- the cells behind a turn, D apart
            have back : ∀ {ms4 : Cells} {H4 : Hp}, Ext (ms'.hide D) H' ms4 H4 → ms4 = (⟨ms4.ix, ms1.hid, ms1.tb, ms4.kd⟩ : Cells).hide D := fun {ms4 H4} eA => by
              have htb : ms4.tb = ms1.tb := eA.tb.trans x1.tb
              have : ms4.hid = D :: ms1.hid := by rw [eA.hid]; show D :: ms'.hid = _; rw [x1.hid]
              cases ms4
              simp only at this htb
              subst this htb; rfl
            cases b with
            | true =>
              refine iteT ?_
              obtain ⟨y, g1, rfl⟩ := f3 rfl
              refine ⟨ms3, ρ', S3, hσ2.ext e3, r3, ?_⟩
              rw [g1]
              intro ms4 H4 e4 r4 u hu
              have eA : Ext (ms'.hide D) H' ms4 H4 := (ey.trans e3).trans e4
              have hD4 : H4 D = some (.lst acc) := eA.keep D _ (x2.hd D List.mem_cons_self).1 nt_lst x3
              have h4 := back eA
              cases hu with
              | d hu =>
                dsimp only at x6
                by_cases hl : ds.length < line
                · rw [if_pos hl] at x6
                  have hal : acc.length < line := by rw [x5.len]; exact hl
                  refine ⟨acc, hD4, by rw [← line_eq]; exact hal, ⟨ms4.ix, ms1.hid, ms1.tb, ms4.kd⟩, acc ++ [u], ds ++ [y], S'', ext_out nt_lst x1 eA hD, ?_, upd_same, by rw [List.length_append]; exact hal, ?_, x6⟩
                  · rw [h4] at r4; exact rps_upd nt_lst r4 hD4
                  · have q1 : Rps H4 ms4 (acc ++ [u]) (ds ++ [y]) := (x5.ext eA).app (.cons hu .nil)
                    rw [h4] at q1
                    exact q1.tr tr_upd
                · rw [if_neg hl] at x6; exact x6.elim
            | false =>
              refine iteF ?_
              obtain ⟨rfl, rfl⟩ := f4 rfl
              have eA : Ext (ms'.hide D) H' ms3 H3 := ey.trans e3
              have hD4 : H3 D = some (.lst acc) := eA.keep D _ (x2.hd D List.mem_cons_self).1 nt_lst x3
              have h4 := back eA
              have eo := ext_out (o := .lst acc) nt_lst x1 eA hD
              have same : upd H3 D (.lst acc) = H3 := by
                funext b
                by_cases hb : b = D
                · subst hb; rw [upd_same, hD4]
                · rw [upd_ne hb]
              rw [same] at eo
              refine ⟨⟨ms3.ix, ms1.hid, ms1.tb, ms3.kd⟩, acc, ds, S'', eo, by rw [← h4]; exact r3, hD4, x4, ?_, x6⟩
              rw [← h4]; exact x5.ext eA
/-- [e for g in it if t] as a cell -/
theorem s_mkLc {tg elt iter : Expr} {ifs : List Expr} {scope : Scope} {own : List (Str × Nat)} {g : Tg} {it : IT} {t : IO} {ie : IE} (hc : X.calm = true) (hN : X.N.Nodup) (hi : SI X mg E Γ tg iter it) (ok : BlkOk X.N X.env.scope scope own)
    (hg : ∀ (s : Shared) (H : Hp) (C : Addr) (cl : List (Str × Addr)) (fp : List Addr), PG (X.blk s H scope (compEnvC scope cl C X.env) fp) tg (tG X.K g)) (ht : ∀ (s : Shared) (H : Hp) (C : Addr) (cl : List (Str × Addr)) (fp : List Addr), PTs (X.blk s H scope (compEnvC scope cl C X.env) fp) ifs (tV X.K mg E0 Γ t))
    (he : ∀ (s : Shared) (H : Hp) (C : Addr) (cl : List (Str × Addr)) (fp : List Addr), PE (X.blk s H scope (compEnvC scope cl C X.env) fp) elt (tE X.K mg E0 Γ ie)) (hsl : ∀ i ∈ g.slots, i ∈ own.map (·.2) := by decide) (hs : ∀ x, foldedSetIterable iter X.env x = pure x := by intro _; rfl) :
    SE X mg E Γ (.ListComp elt [⟨tg, iter, ifs, 0⟩] scope pos) (.mk (.lc (own.map (·.2)) g it t ie)) :=
  pe_imp (pe_lc hc hN hi ok hg ht he hs) fun σ H Q h => lc_mkread hsl h
theorem s_asgMkLc {x : Str} {px lpos : Pos} {elt tg iter : Expr} {ifs : List Expr} {scope : Scope} {own : List (Str × Nat)} {g : Tg} {it : IT} {t : IO} (i : Nat) (hc : X.calm = true) (hN : X.N.Nodup) (hsw : swapsWith (.ListComp elt [⟨tg, iter, ifs, 0⟩] scope lpos) (some (.Name x px)) pos.line X.env = pure true)
    (hi : SI X mg E Γ tg iter it) (ok : BlkOk X.N X.env.scope scope own)
    (hg : ∀ (s : Shared) (H : Hp) (C : Addr) (cl : List (Str × Addr)) (fp : List Addr), PG (X.blk s H scope (compEnvC scope cl C X.env) fp) tg (tG X.K g)) (ht : ∀ (s : Shared) (H : Hp) (C : Addr) (cl : List (Str × Addr)) (fp : List Addr), PTs (X.blk s H scope (compEnvC scope cl C X.env) fp) ifs (tV X.K mg E0 Γ t))
    (he : ∀ (s : Shared) (H : Hp) (C : Addr) (cl : List (Str × Addr)) (fp : List Addr), PE (X.blk s H scope (compEnvC scope cl C X.env) fp) elt (tE X.K mg E0 Γ ie)) (hsl : ∀ i ∈ g.slots, i ∈ own.map (·.2) := by decide) (hs : ∀ x, foldedSetIterable iter X.env x = pure x := by intro _; rfl)
    (hx : X.N[i]? = some x := by rfl) (hl : X.env.scope.names.lookup x = some .local := by rfl) : SS X mg E Γ (.Assign [.Name x px] (.ListComp elt [⟨tg, iter, ifs, 0⟩] scope lpos) pos) (.asg i (.mk (.lc (own.map (·.2)) g it t ie))) := by
  refine ps_imp (ps_setLc hc hN hx hl hsw hi ok hg ht he hs) fun D σ H ⟨ms, ρ, S, he, hs, hp⟩ => ?_
  show tLc (tI X.K mg E Γ it) (tG X.K g) (tV X.K mg E0 Γ t) (tE X.K mg E0 Γ ie) (own.map (·.2)) σ H fun x H1 => gName i x σ H1 D.nx
  refine lc_mkread hsl ⟨ms, ρ, S, he, hs, PostG.part (f := fun w => M.ret (Out.nx (ρ.set i (some w)))) hp fun w S1 ms1 H1 _ e1 r1 h1 v hv => ?_⟩
  exact h1.ret r1 _ ((he.ext e1).set hv)
theorem s_mkLcV {tg elt iter : Expr} {ifs : List Expr} {scope : Scope} {vs : List Nat} {g : Tg} {it : IT} {t : IO} (own : List (Str × Nat)) (hc : X.calm = true) (hN : X.N.Nodup) (hi : SI X mg E Γ tg iter it) (ok : blkC X.N X.env.scope scope own = true)
    (hg : ∀ (s : Shared) (H : Hp) (C : Addr) (cl : List (Str × Addr)) (fp : List Addr), PG (X.blk s H scope (compEnvC scope cl C X.env) fp) tg (tG X.K g)) (ht : ∀ (s : Shared) (H : Hp) (C : Addr) (cl : List (Str × Addr)) (fp : List Addr), PTs (X.blk s H scope (compEnvC scope cl C X.env) fp) ifs (tV X.K mg E0 Γ t))
    (he : ∀ (s : Shared) (H : Hp) (C : Addr) (cl : List (Str × Addr)) (fp : List Addr), PE (X.blk s H scope (compEnvC scope cl C X.env) fp) elt (tE X.K mg E0 Γ ie)) (ev : own.map (·.2) = vs := by rfl) (hsl : ∀ i ∈ g.slots, i ∈ vs := by decide) (hs : ∀ x, foldedSetIterable iter X.env x = pure x := by intro _; rfl) :
    SE X mg E Γ (.ListComp elt [⟨tg, iter, ifs, 0⟩] scope pos) (.mk (.lc vs g it t ie)) := by
  subst ev
  exact s_mkLc hc hN hi (blkOk_by ok) hg ht he hsl hs
theorem s_asgMkLcV {x : Str} {px lpos : Pos} {elt tg iter : Expr} {ifs : List Expr} {scope : Scope} {vs : List Nat} {g : Tg} {it : IT} {t : IO} (i : Nat) (own : List (Str × Nat)) (hc : X.calm = true) (hN : X.N.Nodup) (hi : SI X mg E Γ tg iter it) (ok : blkC X.N X.env.scope scope own = true)
    (hg : ∀ (s : Shared) (H : Hp) (C : Addr) (cl : List (Str × Addr)) (fp : List Addr), PG (X.blk s H scope (compEnvC scope cl C X.env) fp) tg (tG X.K g)) (ht : ∀ (s : Shared) (H : Hp) (C : Addr) (cl : List (Str × Addr)) (fp : List Addr), PTs (X.blk s H scope (compEnvC scope cl C X.env) fp) ifs (tV X.K mg E0 Γ t))
    (he : ∀ (s : Shared) (H : Hp) (C : Addr) (cl : List (Str × Addr)) (fp : List Addr), PE (X.blk s H scope (compEnvC scope cl C X.env) fp) elt (tE X.K mg E0 Γ ie)) (hsw : swapsWith (.ListComp elt [⟨tg, iter, ifs, 0⟩] scope lpos) (some (.Name x px)) pos.line X.env = pure true)
    (ev : own.map (·.2) = vs := by rfl) (hsl : ∀ i ∈ g.slots, i ∈ vs := by decide) (hs : ∀ x, foldedSetIterable iter X.env x = pure x := by intro _; rfl)
    (hx : X.N[i]? = some x := by rfl) (hl : X.env.scope.names.lookup x = some .local := by rfl) : SS X mg E Γ (.Assign [.Name x px] (.ListComp elt [⟨tg, iter, ifs, 0⟩] scope lpos) pos) (.asg i (.mk (.lc vs g it t ie))) := by
  subst ev
  exact s_asgMkLc i hc hN hsw hi (blkOk_by ok) hg ht he hsl hs hx hl
end
end Qv

/-! Snd19 -/
set_option maxHeartbeats 0
/-! raise X(e), the class with its own __init__ -/
namespace Qv
open PySem PySem.Spec PyProof.Rows L2
/-- what is asked of a class with its own __init__ -/
def oexB (K : PySem.W.Frag) (C : Addr) : Bool := (match K.lookup C with
    | some ⟨.type "type", _, .cls cd, sl⟩ => (match cd.mro, sl.toList with
      | .ref C' :: bm, [_, _, _, _, some (.builtin n), _] => decide (C' = C) && (decide (n = "ValueError.__new__") && (!cd.hasDel && (cd.hasDict && PySem.HandSPX.refsVE bm)))
      | _, _ => false)
    | _ => false) &&
  (decide (PySem.W.findIn K (.ref C) "__setattr__" = some (some (.builtin "object.__setattr__"))) && (decide (PySem.W.subIn K (.ref C) (.type "BaseException") = some true) && (decide (PySem.W.typeIn K (.ref C) = some (.type "type")) && PySem.W.keepIn K (.ref C))))
theorem oexB_ok {K : PySem.W.Frag} {C : Addr} (h : oexB K C = true) : OexC K C := by
  unfold oexB at h
  simp only [Bool.and_eq_true, decide_eq_true_eq] at h
  obtain ⟨h0, h1, h2, h3, h4⟩ := h
  refine ⟨?_, h1, h2, h3, h4⟩
  split at h0
  · rename_i dd cd sl ho
    split at h0
    · rename_i C' bm k0 k1 k2 k3 n k5 hm hs
      simp only [Bool.and_eq_true, decide_eq_true_eq, Bool.not_eq_true'] at h0
      obtain ⟨rfl, rfl, hdel, hdct, ht⟩ := h0
      obtain ⟨nm, bs, mro, ns, qn, hd, sn, sub, ab, col, del⟩ := cd
      dsimp only at hm hdel hdct
      subst hm hdel hdct
      obtain ⟨l⟩ := sl
      simp only at hs
      subst hs
      exact ⟨nm, qn, ns, bs, bm, sn, sub, ab, col, dd, k0, k1, k2, k3, k5, ho, ht⟩
    · cases h0
  · cases h0
/-- what is asked of the base class -/
structure LotC (K : PySem.W.Frag) (L : Addr) : Prop where
  sp : PySem.W.specialIn K (.ref L) "__getattribute__" = some (some (.builtin "type.__getattribute__"))
  ty : PySem.W.typeIn K (.ref L) = some (.type "type")
  rd : PySem.W.readsIn K L (.type "type") = true
  fc : PySem.W.findCls K (.ref L) (.type "type") "__init__" = some (.val (.builtin "ValueError.__init__"))
def lotB (K : PySem.W.Frag) (L : Addr) : Bool := decide (PySem.W.specialIn K (.ref L) "__getattribute__" = some (some (.builtin "type.__getattribute__"))) && (decide (PySem.W.typeIn K (.ref L) = some (.type "type")) && (PySem.W.readsIn K L (.type "type") &&
  (match PySem.W.findCls K (.ref L) (.type "type") "__init__" with
    | some (.val (.builtin n)) => decide (n = "ValueError.__init__")
    | _ => false)))
theorem lotB_ok {K : PySem.W.Frag} {L : Addr} (h : lotB K L = true) : LotC K L := by
  unfold lotB at h
  simp only [Bool.and_eq_true, decide_eq_true_eq] at h
  obtain ⟨h1, h2, h3, h4⟩ := h
  refine ⟨h1, h2, h3, ?_⟩
  split at h4
  · rename_i n e
    have : n = "ValueError.__init__" := of_decide_eq_true h4
    subst this; exact e
  · cases h4
section
variable {X : Cx} {e : Expr} {es : List Expr} {ta : TA} {p1 p2 pos : Pos}
/-- LotError.__init__(self, ..) -/
theorem pe_lotinit {pl : Sem Bool} {L : Addr} (hg : Gl X "LotError") (hm : X.mg "LotError" = some (.ref L)) (T : LotC X.K L) (ha : PA X (e :: es) ta)
    (hc : eval (.Call (.Attribute (.Name "LotError" p1) "__init__" p2) (e :: es) [] pos) X.env = (do
      let ov ← eval (.Name "LotError" p1) X.env
      standAt p2.atName
      let (f, first) ← holding [ov] (getMethod ov "__init__" pl)
      callWith pos f first (backTo pos (starEach (e :: es) X.env)) (backToKw pos (keywordEach [] X.env))) := by rfl)
    (he : starEach (e :: es) X.env = (false, eval e X.env) :: starEach es X.env := by rfl) (hpl : (backTo pos (starEach es X.env)).any (·.1) = false := by rfl) :
    PE X (.Call (.Attribute (.Name "LotError" p1) "__init__" p2) (e :: es) [] pos) (tVeI X.K ta) := by
  refine ⟨fun pins s σ H Q I h => ?_⟩
  refine PySem.W.methodCall_KW (ld_glob I hg hm ?_ (by decide)) hc
  obtain ⟨m, fr⟩ := I.fr
  refine PySem.W.method_of_cls fr I.ok.mod.kin T.sp (PySem.W.cls_val fr I.ok.mod.kin T.ty T.rd T.fc rfl ?_)
  show wpAny _ _ (callWith pos (Value.builtin "ValueError.__init__") [] (backTo pos (starEach (e :: es) X.env)) []) _ _ _
  refine PyProof.Rows.callWith_builtin1 (thn (ha.run pos pins _ σ H _ (I.tok _) h) fun us s1 ⟨vs, H1, I1, r1, a, C, ws, ev, hl, T, ea, q⟩ => ?_) he hpl
  subst ev
  cases r1 with
  | @cons _ u0 _ ur ra rw' =>
    obtain rfl : u0 = Value.ref a := ra
    exact oinit_ok T I1 ea (by rw [← Paired.length rw', sizeLine_eq]; omega) fun s' J => ⟨.non, H1, J, rfl, q⟩
end
/-- what such an __init__ promises: the field is kept -/
def spInit (K : PySem.W.Frag) (f : Str) (ok : V → Hp → Prop) : Sp := fun vs H Q _ => ∃ (a C : Addr) (v : V), vs = [.ref a, v] ∧ OexC K C ∧ PySem.W.findIn K (.ref C) f = some none ∧ H a = some (exo a C none) ∧ ok v H ∧
  ∀ dx, H dx = none → dx ≠ a → Q .non (upd (upd H dx (exd dx [(f, v)])) a (exo a C (some dx)))
theorem spInit_len {K : PySem.W.Frag} {f : Str} {ok : V → Hp → Prop} (vs : List V) (H : Hp) (Q : VK) (E : XK) (h : spInit K f ok vs H Q E) : vs.length = 2 := by
  obtain ⟨a, C, v, rfl, _⟩ := h; rfl
/-- an int of few figures -/
def okInt : V → Hp → Prop := fun v _ => ∃ i : Int, v = .int i ∧ smallI i = true
/-- a tuple -/
def okTup (K : PySem.W.Frag) : V → Hp → Prop := fun v H => ∃ (t : Addr) (xs : List V), v = .ref t ∧ SqT K H t xs ∧ xs.length ≤ 1000
theorem small_text {i : Int} (h : smallI i = true) : i.natAbs.log2 < 1920 ∧ ((toString i : String) : Str).length ≤ 6 := by
  simp only [smallI, Bool.and_eq_true, decide_eq_true_eq] at h
  obtain ⟨n, rfl⟩ : ∃ n : Nat, i = (n : Int) := ⟨i.toNat, by omega⟩
  have hn : n < 10 ^ 6 := by omega
  refine ⟨?_, ?_⟩
  · show n.log2 < 1920
    rcases Nat.eq_zero_or_pos n with rfl | h0
    · decide
    · exact (Nat.log2_lt (by omega)).mpr (Nat.lt_trans hn (by decide))
  · have e : TL.tl (Str.ofString (toString ((n : Nat) : Int))) = TL.numL n := TL.tl_num n
    have h1 : (Str.ofString (toString ((n : Nat) : Int))).length = (TL.numL n).length := by rw [TL.len_tl, e]
    show (Str.ofString (toString ((n : Nat) : Int))).length ≤ 6
    rw [h1]; exact TL.numL_len (by decide) hn
section
variable {P : Program} {w : World} {K : PySem.W.Frag} {mg : Str → Option Value} {base : Heap} {Lt fI : Addr} {fd : FuncData} {q : Str} {params : Arguments} {scope : Scope}
/-- how the base class's __init__ is called -/
def CallsInit (e : Expr) (p1 p2 pos : Pos) (es : List Expr) (pl : PySem.Env → Sem Bool) : Prop := ∀ env : PySem.Env, eval (.Call (.Attribute (.Name "LotError" p1) "__init__" p2) (e :: es) [] pos) env = (do
      let ov ← eval (.Name "LotError" p1) env
      standAt p2.atName
      let (f, first) ← holding [ov] (getMethod ov "__init__" (pl env))
      callWith pos f first (backTo pos (starEach (e :: es) env)) (backToKw pos (keywordEach [] env)))
/-- TooMany's -/
theorem init_many {j : Nat} {p1 p2 p3 p4 p5 p6 p7 p8 p9 p10 p11 p12 p13 p14 : Pos} {pl : PySem.Env → Sem Bool} (hc : CallsInit (.Name "self" p3) p1 p2 p9 [.BinOp (.Constant (.str "more than ") j p4) .Add (.Call (.Name "str" p5) [.Name "limit" p6] [] p7) p8] pl)
    (F : FunD K "__init__" q params [.Expr (.Call (.Attribute (.Name "LotError" p1) "__init__" p2) [.Name "self" p3, .BinOp (.Constant (.str "more than ") j p4) .Add (.Call (.Name "str" p5) [.Name "limit" p6] [] p7) p8] [] p9) p10, .Assign [.Attribute (.Name "self" p11) "limit" p12] (.Name "limit" p13) p14] scope [] [] fI fd)
    (S : FnScope ["self", "limit"] ["self", "limit"] scope) (hL : mg "LotError" = some (.ref Lt)) (hS : mg "str" = none) (T : LotC K Lt) (gL : scope.names.lookup ("LotError" : Str) = some .globalImplicit) (gS : scope.names.lookup ("str" : Str) = some .globalImplicit) (l0 : scope.names.lookup ("self" : Str) = some .local) (l1 : scope.names.lookup ("limit" : Str) = some .local) :
    FnOk P w K mg base CX0 1 fI fd ["self", "limit"] (spInit K "limit" okInt) := by
  refine F.ok S (fun vs H Q E h => spInit_len vs H Q E h) (fun cdv A outer s H vs Q E hr h => ⟨_, pss_cons (ps_expr (pe_lotinit (L := Lt) (pl := pl _) gL hL T (pa_cons (pe_var (i := 0) rfl (.inl l0)) (pa_cons (pe_op op_add_str pe_str (pe_callTy call_str_int gS hS boot_strQ (pa_cons (pe_var (i := 1) rfl (.inl l1)) pa_nil))) pa_nil)) (hc _))) (pss_one (ps_ost (pe_var (i := 0) rfl (.inl l0)) (pe_var (i := 1) rfl (.inl l1)))), ?_⟩)
  obtain ⟨a, C, v, rfl, hC, hno, ha, ⟨i, rfl, hi⟩, hq⟩ := h
  obtain ⟨hz, hlen⟩ := small_text hi
  refine ⟨_, rfl, _, rfl, ?_⟩
  refine ⟨i, rfl, hz, _, _, rfl, rfl, ?_, ?_⟩
  · rw [sizeLine_eq]; show 10 + _ ≤ _; omega
  exact ⟨a, C, _, rfl, Nat.le_of_ble_eq_true rfl, hC, ha, ⟨_, rfl, ⟨_, rfl, ⟨a, C, rfl, hC, hno, .inl ⟨ha, fun dx n ne => hq dx n ne⟩⟩⟩⟩⟩
/-- OddRing's -/
theorem init_odd {j : Nat} {p1 p2 p3 p4 p5 p6 p7 p8 p9 p10 p11 p12 p13 p14 p15 p16 : Pos} {pl : PySem.Env → Sem Bool} (hc : CallsInit (.Name "self" p3) p1 p2 p9 [.BinOp (.Constant (.str "an odd ring of ") j p4) .Add (.Call (.Name "str" p5) [.Call (.Name "len" p15) [.Name "ring" p6] [] p16] [] p7) p8] pl)
    (F : FunD K "__init__" q params [.Expr (.Call (.Attribute (.Name "LotError" p1) "__init__" p2) [.Name "self" p3, .BinOp (.Constant (.str "an odd ring of ") j p4) .Add (.Call (.Name "str" p5) [.Call (.Name "len" p15) [.Name "ring" p6] [] p16] [] p7) p8] [] p9) p10, .Assign [.Attribute (.Name "self" p11) "ring" p12] (.Name "ring" p13) p14] scope [] [] fI fd)
    (S : FnScope ["self", "ring"] ["self", "ring"] scope) (hL : mg "LotError" = some (.ref Lt)) (hS : mg "str" = none) (hN : mg "len" = none) (T : LotC K Lt) (gL : scope.names.lookup ("LotError" : Str) = some .globalImplicit) (gS : scope.names.lookup ("str" : Str) = some .globalImplicit) (gN : scope.names.lookup ("len" : Str) = some .globalImplicit) (l0 : scope.names.lookup ("self" : Str) = some .local) (l1 : scope.names.lookup ("ring" : Str) = some .local) :
    FnOk P w K mg base CX0 1 fI fd ["self", "ring"] (spInit K "ring" (okTup K)) := by
  refine F.ok S (fun vs H Q E h => spInit_len vs H Q E h) (fun cdv A outer s H vs Q E hr h => ⟨_, pss_cons (ps_expr (pe_lotinit (L := Lt) (pl := pl _) gL hL T (pa_cons (pe_var (i := 0) rfl (.inl l0)) (pa_cons (pe_op op_add_str pe_str (pe_callTy call_str_int gS hS boot_strQ (pa_cons (pe_callB call_len gN hN q_len (pa_cons (pe_var (i := 1) rfl (.inl l1)) pa_nil)) pa_nil))) pa_nil)) (hc _))) (pss_one (ps_ost (pe_var (i := 0) rfl (.inl l0)) (pe_var (i := 1) rfl (.inl l1)))), ?_⟩)
  obtain ⟨a, C, v, rfl, hC, hno, ha, ⟨t, xs, rfl, hT, hl⟩, hq⟩ := h
  have hi : smallI ((xs.length : Nat) : Int) = true := by
    simp only [smallI, Bool.and_eq_true, decide_eq_true_eq]; omega
  obtain ⟨hz, hlen⟩ := small_text hi
  refine ⟨_, rfl, _, rfl, ?_⟩
  refine ⟨_, xs.length, rfl, .inr ⟨xs, hT, rfl⟩, (xs.length : Int), rfl, hz, _, _, rfl, rfl, ?_, ?_⟩
  · rw [sizeLine_eq]; show 15 + _ ≤ _; omega
  exact ⟨a, C, _, rfl, Nat.le_of_ble_eq_true rfl, hC, ha, ⟨_, rfl, ⟨_, rfl, ⟨a, C, rfl, hC, hno, .inl ⟨ha, fun dx n ne => hq dx n ne⟩⟩⟩⟩⟩
end
section
variable {X : Cx} {mg : Str → Option Value} {E : XK} {Γ : Fns} {e : Expr} {ie : IE} {p p3 pos : Pos}
/-- raise C(e), C with its own __init__ -/
theorem s_raiO {x f : Str} {C fI : Addr} {fd : FuncData} {ps : List Str} {ok : V → Hp → Prop} (hcl : X.calm = true) (tk : Takes X (fun cls d _ H => E cls d H)) (hf : fieldOf x = f)
    (hok : ∀ d d', argOf x d = some d' → d' = d ∧ ∀ (H : Hp) (ms : Cells) (v : V) (a : Addr) (o : HO), Rp H ms v d → H a = none → ok v (upd H a o))
    (T : OexC X.K C) (hno : PySem.W.findIn X.K (.ref C) f = some none) (iC : PySem.W.findIn X.K (.ref C) "__init__" = some (some (.ref fI))) (tI : PySem.W.typeIn X.K (.ref fI) = some (.type "function"))
    (F1 : FnOk X.prog X.w X.K X.mg X.base CX0 1 fI fd ps (spInit X.K f ok)) (hr : Room 2 X.A) (hb : Binds X.K fd ps []) (hx : Passes CX0 X (fun _ _ _ => False)) (hg : Gl X x) (hm : X.mg x = some (.ref C)) (hmg : mg x = some (.ref C)) (he : SE X mg E Γ e ie)
    (hdb : (x == ("__debug__" : Str)) = false := by decide) (h1 : starEach (e :: []) X.env = (false, eval e X.env) :: starEach [] X.env := by rfl) (hpl : (backTo p3 (starEach [] X.env)).any (·.1) = false := by rfl) :
    SS X mg E Γ (.Raise (some (.Call (.Name x p) [e] [] p3)) none pos) (.rai x (.so ie)) := by
  refine ps_imp (ps_raise hcl tk (pmk_oex (dvs := []) T iC tI F1 hr hb .nil hx hg hm (pa_cons he pa_nil h1) hdb h1 hpl)) fun D σ H ⟨ms, ρ, S, hρ, hs, hp⟩ => ?_
  refine ⟨ms, ρ, S, hρ, hs, PostG.part (f := fun w => (asData w).bnd fun d => (M.opt (argOf x d)).bnd fun d => M.exn ⟨x, some d⟩) hp fun w S1 ms1 H1 _ e1 r1 h2 v hv => ?_⟩
  obtain ⟨d, rfl, h3⟩ := h2.data
  obtain ⟨d', hd, h4⟩ := h3.opt
  obtain ⟨rfl, hk⟩ := hok _ _ hd
  cases hv with
  | d hv =>
    refine ⟨Nat.le_of_ble_eq_true rfl, fun a ha => ?_⟩
    refine ⟨a, C, v, rfl, T, hno, upd_same, hk H1 ms1 v a _ hv ha, fun dx n ne => ⟨rfl, dx, [(f, v)], upd_same, by rw [upd_ne ne, upd_same], ?_, ?_⟩⟩
    · rw [upd_ne ne] at n; exact n
    · have n1 : H1 dx = none := by rw [upd_ne ne] at n; exact n
      have eH : upd (del (upd (upd (upd H1 a (exo a C none)) dx (exd dx [(f, v)])) a (exo a C (some dx))) a) dx (.xd [(f, v)]) = upd H1 dx (.xd [(f, v)]) := by
        funext b
        by_cases hb : b = dx
        · subst hb; rw [upd_same, upd_same]
        · rw [upd_ne hb, upd_ne hb]
          by_cases hba : b = a
          · subst hba; rw [del_same, ha]
          · rw [del_ne hba, upd_ne hba, upd_ne hb, upd_ne hba]
      rw [eH]
      exact h4 ms1 _ (.ref C) (some dx) (Ext.laid n1) (r1.laid n1) ⟨C, hmg, rfl, dx, v, rfl, by rw [upd_same, hf], hv.ext (Ext.laid n1)⟩
theorem ok_many : ∀ d d', argOf "TooMany" d = some d' → d' = d ∧ ∀ (H : Hp) (ms : Cells) (v : V) (a : Addr) (o : HO), Rp H ms v d → H a = none → okInt v (upd H a o) := fun d d' h => by
  unfold argOf at h
  split at h
  · split at h
    · rename_i i hc
      cases h
      refine ⟨rfl, fun H ms v a o hv _ => ?_⟩
      cases hv; exact ⟨i, rfl, hc.2⟩
    · cases h
  · split at h
    · rename_i hc
      exact absurd hc.1 (by decide +kernel)
    · cases h
  · cases h
theorem ok_odd {K : PySem.W.Frag} : ∀ d d', argOf "OddRing" d = some d' → d' = d ∧ ∀ (H : Hp) (ms : Cells) (v : V) (a : Addr) (o : HO), Rp H ms v d → H a = none → okTup K v (upd H a o) := fun d d' h => by
  unfold argOf at h
  split at h
  · split at h
    · rename_i i hc
      exact absurd hc.1 (by decide +kernel)
    · cases h
  · split at h
    · rename_i hc
      cases h
      refine ⟨rfl, fun H ms v a o hv ha => ?_⟩
      cases hv with
      | @tup q xs ds h1 h2 h3 h4 => exact ⟨q, xs, rfl, SqT.of (by rw [upd_ne (ne_of_none h1 ha)]; exact h1), by rw [h4.len]; exact hc.2⟩
    · cases h
  · cases h
end
end Qv

/-! Snd22 -/
set_option maxHeartbeats 0
/-! sorted(set(t)), len(set(t)), t a tuple of ints. -/
namespace L2
open PySem PySem.Spec PyProof.Rows
section
variable {P : Program} {w : World} {A : Around} {E : Value → Shared → Prop} {s : Shared}
/-- set(l), l a tuple of ints -/
theorem tints_to_set {l : Addr} {its : Array Value} (ks : List Int) {Q : Value → Shared → Prop} (calm : A.handled = none) (isl : s.heap.IsTuple l its) (areI : IntsAre its.toList ks) (few : ks.length + 1 < scanBound)
    (k : ∀ (g : Heap) (tk c : Nat), SetR w g s.heap.objs.size (fun j => decide (j ∈ ks)) c → c ≤ ks.length → (∀ b o, s.heap.get? b = some o → g.get? b = some o) → Q (.ref s.heap.objs.size) { s with heap := g, toks := tk }) :
    wpAny (model P w) A (call (.type "set") [.ref l]) Q E s := by
  have sz : its.size = ks.length := by have q := IntsAre.length areI; rw [Array.length_toList] at q; exact q
  obtain ⟨c0, tl0, mro0⟩ := F.called_set.mro
  have made := F.called_set.made; have sub := F.called_set.sub
  refine wpAny_call (codeAny_of_tree (show wpAny _ _ (callAny (.type "set") _) _ _ _ from wpAny_pure ⟨Code.quiet_builtin _ (by decide +kernel), codeAny_builtin F.entry_type_call ?_⟩))
  rw [Around.under_plain (weight_type_call_type "set" [.ref l] []) rfl]
  have nt := F.called_set.notType; have cc := F.called_set.canCreate; have tc := F.typeCall_set_1 (.ref l)
  repeat (any_goals (first | assumption | wp_step))
  refine codeAny_mono (code_set_led1 (.ref l) (E := E) (Q₁ := fun ob s1 => ob = .ref s.heap.objs.size ∧ s1 = { s with heap := withSet w s.heap }) ⟨rfl, rfl⟩) fun r s1 hr => ?_
  cases r with
  | error e => exact hr
  | ok fl =>
    cases fl with
    | ret ob =>
      obtain ⟨rfl, rfl⟩ := hr
      have gS : (withSet w s.heap).get? s.heap.objs.size = some (bareSet w) := Heap.get?_push_size _ rfl
      have tyS : Shared.TypeIs { s with heap := withSet w s.heap } (.ref s.heap.objs.size) "set" := ⟨_, gS, rfl⟩
      have li := F.called_set.init.lookup; have bi := F.called_set.init.bind (.ref s.heap.objs.size)
      repeat (any_goals (first | assumption | wp_step))
      refine codeAny_mono (codeAny_call_builtin (R := wants (fun r s2 => r = .none ∧ ∃ g tk c, s2 = { s with heap := g, toks := tk } ∧ SetR w g s.heap.objs.size (fun j => decide (j ∈ ks)) c ∧ c ≤ ks.length ∧ ∀ b o, s.heap.get? b = some o → g.get? b = some o) E)
        F.called_set.init.plain F.entry_set_init (check_set_init_1 tyS ?_)) fun r2 s2 hr2 => ?_
      · obtain ⟨⟨ocls, odict, odata, oslots⟩, hol, hcl, nl, hdl⟩ := isl
        simp only at hcl hdl
        subst hcl; subst hdl
        have gl : (withSet w s.heap).get? l = some { cls := .type "tuple", dict := odict, data := .seq its nl, slots := oslots } := Heap.get?_push_of_some _ hol
        have ss := F.sub_tuple_set; have sf := F.sub_tuple_frozenset
        have ne : (Value.type "tuple" == Value.type "dict") = false := by decide
        have isl2 : (withSet w s.heap).IsTuple l its := ⟨_, gl, rfl, nl, rfl⟩
        unfold Builtin.«set.__init__» noKeywords Builtin.Frozenset.updateFrom
        generalize hPI : pyIter = PI
        wp_walk
        subst hPI
        refine wpAny_pyIter_tuple isl2 (wpAny_bind (wpAny_runValue ?_))
        have low : l < s.heap.objs.size := Heap.lt_size hol
        have calm3 : A.in1.in1.in1.handled = none := by simp [calm]
        have size1 : (withSet w s.heap).objs.size = s.heap.objs.size + 1 := Heap.size_push ..
        have nI : l ≠ (withSet w s.heap).objs.size := by rw [size1]; exact Nat.ne_of_lt (Nat.lt_succ_of_lt low)
        have nS : s.heap.objs.size ∉ [(withSet w s.heap).objs.size, l] := by
          rw [size1]; simp only [List.mem_cons, List.not_mem_nil, or_false, not_or]; exact ⟨Nat.ne_of_lt (Nat.lt_succ_self _), Nat.ne_of_gt low⟩
        have val : ∀ (i : Nat) (v : Value), its[i]? = some v → ∃ k t, ks[i]? = some k ∧ v = .int k t := fun i v hv => by
          have hi : i < ks.length := by rw [← sz]; exact (Array.getElem?_eq_some_iff.mp hv).1
          obtain ⟨t, e⟩ := IntsAre.int_at areI i v (by rw [Array.getElem?_toList]; exact hv)
          exact ⟨ks[i], t, List.getElem?_eq_getElem hi, by rw [e, List.getD_eq_getElem?_getD, List.getElem?_eq_getElem hi]; rfl⟩
        refine set_update_ints ((Walks.tuple calm3 _ l nI its).toS) s.heap.objs.size nS ks sz few val (its.size - 0) 0 _ (by omega) (Nat.zero_le _) ⟨⟨_, Heap.get?_push_size _ rfl, rfl, rfl⟩, (isl2.push _)⟩
          ⟨0, Nat.le_refl 0, setR_new_at (Heap.get?_push_of_some _ gS)⟩ ?_
        rintro ⟨g, g2, d2, tk2, os2⟩ c hm hc hS
        obtain rfl : g2 = s.gens := hm.gens
        obtain rfl : d2 = s.drawn := hm.drawn
        obtain rfl : os2 = s.os := hm.os
        rw [sz] at hc
        refine (show wpAny _ _ _ _ _ _ from wpAny_pure (show wpAny _ _ (ret Value.none) _ _ _ from wpAny_pure ⟨rfl, g, tk2, c, rfl, hS, hc, fun b o e => ?_⟩))
        have b0 : b < s.heap.objs.size := Heap.lt_size e
        refine hm.heap b o ?_ (Heap.get?_push_of_some _ (Heap.get?_push_of_some _ e))
        rw [size1]; simp only [List.mem_cons, List.not_mem_nil, or_false, not_or]; exact ⟨Nat.ne_of_lt b0, Nat.ne_of_lt (Nat.lt_succ_of_lt b0)⟩
      · cases r2 with
        | error e => exact hr2
        | ok fl2 =>
          cases fl2 with
          | ret r =>
            obtain ⟨rfl, g, tk, c, rfl, hS, hc, hk⟩ := hr2
            repeat (any_goals (first | assumption | wp_step))
            exact k _ _ _ hS hc hk
          | _ => exact hr2.elim
    | _ => exact hr.elim
end
section
variable {X : Cx}
def rSetTI (K : PySem.W.Frag) (w : World) : List V → Hp → VK → Prop := fun xs H Q => ∃ (l : Addr) (ks : List Int), xs = [V.ref l] ∧ SqT K H l (ks.map V.int) ∧ ks.length ≤ 4000 ∧ ∀ a c (L : List Int), H a = none → L.Nodup → (∀ j, j ∈ L ↔ j ∈ ks) → L.length = c → Q (.ref a) (upd H a (SetO w a (fun j => decide (j ∈ ks)) c))
theorem cr_setTI (hc : X.calm = true) : CallR X (.type "set") (rSetTI X.K X.w) := by
  intro pins s σ H xs us Q I r h
  obtain ⟨l, ks, rfl, hl, hz, q⟩ := h
  rw [Vals.ref1 r]
  obtain ⟨its, rv, pl, _⟩ := I.tuple hl
  have hn : H s.heap.objs.size = none := I.hok.fresh (Nat.le_refl _)
  refine tints_to_set (P := X.prog) (w := X.w) ks (I.ok.hd hc) pl (by simpa using ints_of_vals rv) (by unfold scanBound; omega) fun h' tk c R hcn k => ?_
  refine ⟨.ref s.heap.objs.size, upd H s.heap.objs.size (SetO X.w s.heap.objs.size _ c), I.laid (t' := tk) k (Nat.le_refl _) (setO_new R), rfl, ?_⟩
  obtain ⟨o, es, ep, t, e1, e2, e3, e4, e5, e6, e7, e8, e9, _⟩ := R
  exact q _ c (es.toList.map keyOf) hn e5 (fun j => by rw [← e6]; exact decide_eq_true_iff) (by rw [List.length_map, Array.length_toList]; exact e9)
/-- len of a set of ints -/
def rLenSI (w : World) : List V → Hp → VK → Prop := fun xs H Q => ∃ (a : Addr) (S : Int → Bool) (n : Nat), xs = [V.ref a] ∧ H a = some (SetO w a S n) ∧ Q (.int (n : Nat)) H
theorem cr_lenSI : CallR X (.builtin "len") (rLenSI X.w) := by
  intro pins s σ H xs us Q I r h
  obtain ⟨a, S, n, rfl, ha, q⟩ := h
  rw [Vals.ref1 r]
  have x : ObjOk X.prog X.w H s.heap a (.ext fun h => SetR X.w h a S n) := I.hok a _ ha
  obtain ⟨o, es, ep, t, e1, e2, e3, e4, e5, e6, e7, e8, e9, _⟩ := x.1
  refine call_len_set e1 e2 e3 e8 (by have : es.size < 2 ^ 62 := Nat.lt_trans e7 (by unfold scanBound; decide); omega) ⟨.int n, H, I.tok _, ⟨_, by rw [← e9]⟩, q⟩
end
end L2
namespace Qv
open PySem PySem.Spec PyProof.Rows L2
section
variable {X : Cx} {mg : Str → Option Value} {E : XK} {Γ : Fns} {a : Expr} {ia : IE} {p q pos p2 : Pos}
/-- sorted(set(t)), t a tuple of ints -/
theorem s_sortsett (hc : X.calm = true) (hg : Gl X "sorted") (hm : X.mg "sorted" = none) (hg2 : Gl X "set") (hm2 : X.mg "set" = none) (ha : SE X mg E Γ a ia) (h1 : starEach [a] X.env = (false, eval a X.env) :: starEach [] X.env := by rfl)
    (h2 : starEach [.Call (.Name "set" p2) [a] [] q] X.env = (false, eval (.Call (.Name "set" p2) [a] [] q) X.env) :: starEach [] X.env := by rfl) : SE X mg E Γ (.Call (.Name "sorted" p) [.Call (.Name "set" p2) [a] [] q] [] pos) (.pr .sortsett (.cons ia .nil)) := by
  refine pe_imp (pe_callB (cr_sortedSet hc) hg hm boot_sortedQ (pa_cons (pe_callTy (cr_setTI hc) hg2 hm2 boot_setQ (pa_cons ha pa_nil h1) (by decide) (by decide) h1) pa_nil h2) (by decide) (by decide) h2) ?_
  rintro σ H Q ⟨ms, ρ, S, he, hs, hp⟩
  rw [ev_pr1] at hp
  refine ⟨ms, ρ, S, he, hs, hp.part fun w S1 ms1 H1 _ e1 r1 h3 v hv => ?_⟩
  obtain ⟨x, hx, h4⟩ := h3.look
  obtain ⟨d, hd, h5⟩ := h4.opt
  have rv := hv.get r1 hx
  have hd : pSortsett [x] = some d := hd
  have hf := Fin.of h5
  cases x with
  | tuple ds =>
    obtain ⟨l, xs, rfl, g1, _, g2, g3⟩ := rv.tup
    simp only [pSortsett] at hd
    split at hd
    · rename_i ns hns
      split at hd
      · rename_i hb
        cases hd
        obtain ⟨e2, e3⟩ := rps_ints g3 hns
        subst e2
        have hlen : ns.length ≤ 4000 := by have := hb.1; rw [e3, List.length_map] at this; exact this
        refine ⟨l, ns, rfl, SqT.of g1, hlen, fun b c L hb1 hb2 hb3 hb4 => ⟨b, _, c, rfl, upd_same, ?_, fun ks t k1 k2 k3 k4 => ?_⟩⟩
        · have : L.length = (once ns).length := ((List.perm_ext_iff_of_nodup hb2 (nodup_once ns)).mpr fun j => by rw [hb3, mem_once]).length_eq
          have := hb.2
          omega
        · have e4 : ks = sortI (once ns) := ordered_ext (r := fun a b : Int => a < b) (fun a b h1 h2 => by omega) k1 (sortI_lt (nodup_once ns)) fun j => by
            rw [k2, decide_eq_true_iff]
            show j ∈ ns ↔ j ∈ List.mergeSort _ _
            rw [List.mem_mergeSort, mem_once]
          subst e4
          have n1 := Ext.laid (ms := ms1) (H := H1) (o := SetO X.w b (fun j => decide (j ∈ ns)) c) hb1
          have r2 := r1.laid (o := SetO X.w b (fun j => decide (j ∈ ns)) c) hb1
          have n2 := Ext.laid (ms := ms1) (o := .lst ((sortI (once ns)).map V.int)) k4
          have r3 := r2.laid (o := .lst ((sortI (once ns)).map V.int)) k4
          have hz : ((sortI (once ns)).map V.int).length ≤ line := by
            rw [List.length_map]
            have : (sortI (once ns)).length = (once ns).length := List.length_mergeSort _
            have := hb.2
            show _ ≤ 16777216; omega
          exact hf _ _ (n1.trans n2) r3 (.lst upd_same (r2.notin k4) hz (rps_of_ints _))
      · cases hd
    · cases hd
  | _ => cases hd
/-- len(set(t)), t a tuple of ints -/
theorem s_lenset (hc : X.calm = true) (hg : Gl X "len") (hm : X.mg "len" = none) (hg2 : Gl X "set") (hm2 : X.mg "set" = none) (ha : SE X mg E Γ a ia) (h1 : starEach [a] X.env = (false, eval a X.env) :: starEach [] X.env := by rfl)
    (h2 : starEach [.Call (.Name "set" p2) [a] [] q] X.env = (false, eval (.Call (.Name "set" p2) [a] [] q) X.env) :: starEach [] X.env := by rfl) : SE X mg E Γ (.Call (.Name "len" p) [.Call (.Name "set" p2) [a] [] q] [] pos) (.pr .lenset (.cons ia .nil)) := by
  refine pe_imp (pe_callB cr_lenSI hg hm q_len (pa_cons (pe_callTy (cr_setTI hc) hg2 hm2 boot_setQ (pa_cons ha pa_nil h1) (by decide) (by decide) h1) pa_nil h2) (by decide) (by decide) h2) ?_
  rintro σ H Q ⟨ms, ρ, S, he, hs, hp⟩
  rw [ev_pr1] at hp
  refine ⟨ms, ρ, S, he, hs, hp.part fun w S1 ms1 H1 _ e1 r1 h3 v hv => ?_⟩
  obtain ⟨x, hx, h4⟩ := h3.look
  obtain ⟨d, hd, h5⟩ := h4.opt
  have rv := hv.get r1 hx
  have hd : pLenset [x] = some d := hd
  have hf := Fin.of h5
  cases x with
  | tuple ds =>
    obtain ⟨l, xs, rfl, g1, _, g2, g3⟩ := rv.tup
    simp only [pLenset] at hd
    split at hd
    · rename_i ns hns
      split at hd
      · rename_i hb
        cases hd
        obtain ⟨e2, e3⟩ := rps_ints g3 hns
        subst e2
        have hlen : ns.length ≤ 4000 := by rw [e3, List.length_map] at hb; omega
        refine ⟨l, ns, rfl, SqT.of g1, hlen, fun b c L hb1 hb2 hb3 hb4 => ⟨b, _, c, rfl, upd_same, ?_⟩⟩
        have : c = (once ns).length := by
          rw [← hb4]; exact ((List.perm_ext_iff_of_nodup hb2 (nodup_once ns)).mpr fun j => by rw [hb3, mem_once]).length_eq
        subst this
        exact hf _ _ (Ext.laid (o := SetO X.w b (fun j => decide (j ∈ ns)) (once ns).length) hb1) (r1.laid hb1) (.int _)
      · cases hd
    · cases hd
  | _ => cases hd
end
end Qv

/-! Snd20 -/
set_option maxHeartbeats 0
/-! set(a list of truth values) -/
namespace PpSet
open PySem PySem.Spec PyProof.Rows L2
section
variable {P : Program} {w : World} {A : Around} {E : Value → Shared → Prop} {s : Shared}
theorem SetB.two {h : Heap} {a : Addr} {S : Bool → Bool} {n : Nat} (R : SetB w h a S n) : n ≤ 2 := by
  obtain ⟨o, es, ep, t, _, _, _, _, nd, _, _, _, hn, _⟩ := R
  have : (es.toList.map keyB).length ≤ [true, false].length := nodup_sub nd fun x _ => by cases x <;> simp
  rw [List.length_map, Array.length_toList, hn] at this
  exact this
/-- set.update's turns: truth values -/
theorem update_bools {I : Addr} {fp wr : List Addr} {G : Array GenState → Array GenState → Prop} {n : Nat} {Pv : Nat → Value → Prop} {St : Nat → Shared → Prop} {R : Result → Shared → Prop} (W : WalksS P w A.in1 I fp wr G n Pv St) (S : Addr) (offS : S ∉ fp)
    (ks : List Bool) (hn : n = ks.length) (val : ∀ i v, Pv i v → ∃ p, ks[i]? = some p ∧ v = .bool p) (h0 : Heap)
    (newS : h0.get? S = none) (newW : ∀ b ∈ wr, h0.get? b = none) : ∀ (k i : Nat) (s : Shared), n - i = k → i ≤ n → St i s → (∀ b o, h0.get? b = some o → s.heap.get? b = some o) →
      (∃ fb m, SetB w s.heap S fb m ∧ ∀ k, fb k = true ↔ k ∈ ks.take i) → (∀ s' fb m, Moved (S :: wr) G s s' → SetB w s'.heap S fb m → (∀ k, fb k = true ↔ k ∈ ks.take n) → (∀ b o, h0.get? b = some o → s'.heap.get? b = some o) → R (.ok (.ret .none)) s') →
      codeAny (model P w) A (.builtin "set.update.loop" ⟨[.ref S, .ref I], []⟩) R s := by
  have offW : S ∉ wr := fun h => offS (W.sub _ h)
  have up : ∀ b ∈ wr, b ∈ S :: wr := fun b hb => .tail _ hb
  have kept : ∀ {s s' : Shared}, Moved wr G s s' → (∀ b o, h0.get? b = some o → s.heap.get? b = some o) → ∀ b o, h0.get? b = some o → s'.heap.get? b = some o := fun hm q b o e => hm.heap b o (fun hb => by rw [newW b hb] at e; cases e) (q b o e)
  intro k
  induction k with
  | zero =>
    intro i s hk hi st q ⟨fb, m, hS, g⟩ fin
    obtain rfl : i = n := by omega
    refine codeAny_builtin F.entry_set_update_loop (by
      rw [Around.under_plainId F.plain_set_update_loop _]
      show wpAny _ A.in1 (pyNext (.ref I) >>= _) _ _ s
      refine wpAny_bind (W.done s _ _ st fun s' hm => ?_)
      show wpAny _ A.in1 (ret Value.none) _ _ s'
      have q' := kept hm q
      exact wpAny_pure (fin s' fb m (hm.mono up) (hS.at fun o e => hm.heap S o offW e) g q'))
  | succ k ih =>
    intro i s hk hi st q ⟨fb, m, hS, g⟩ fin
    refine codeAny_builtin F.entry_set_update_loop (by
      rw [Around.under_plainId F.plain_set_update_loop _]
      show wpAny _ A.in1 (pyNext (.ref I) >>= _) _ _ s
      refine wpAny_bind (W.item i s _ _ (by omega) st fun v s' hP st' hm => ?_)
      obtain ⟨p, hp, rfl⟩ := val i v hP
      have q' := kept hm q
      have hS' : SetB w s'.heap S fb m := hS.at fun o e => hm.heap S o offW e
      show wpAny _ A.in1 (holding [Value.bool p] (setAdd S (.bool p)) >>= _) _ _ s'
      refine wpAny_bind (wpAny_holding (by
        unfold setAdd
        refine wpAny_holding (wpAny_bind ((boolK P w).pyHash (boolK_is P w p) ?_))
        refine setB_add_hashed (s := { s' with toks := s'.toks + 1 }) hS' (Nat.lt_of_le_of_lt (Nat.succ_le_succ hS'.two) (by decide)) fun h' sb hS2 => ?_
        have g' : ∀ k, (fb k || decide (k = p)) = true ↔ k ∈ ks.take (i + 1) := fun k => by
          rw [List.take_succ, hp, Bool.or_eq_true, g k, decide_eq_true_iff, List.mem_append]
          simp
        have q2 : ∀ b o, h0.get? b = some o → h'.get? b = some o := fun b o e => (sb.2 b (fun z => by rw [z, newS] at e; cases e)).trans (q' b o e)
        refine wpAny_pure ⟨plainId_quiet F.plain_set_update_loop _, ih (i + 1) _ (by omega) (by omega) (W.frame _ s' _ _ st' (Nat.le_add_right _ _) fun b hb o e => by
          rw [sb.2 b (fun h : b = S => offS (by rw [← h]; exact hb))]; exact e) q2 ⟨_, _, hS2, g'⟩ fun s2 fb2 m2 hm2 hS3 g2 q3 => ?_⟩
        exact fin s2 fb2 m2 (Moved.trans W.gtrans ((hm.mono up).then_heap (Nat.le_add_right _ _) fun b o hb e => by
          rw [sb.2 b (fun h : b = S => hb (by rw [h]; exact List.mem_cons_self))]; exact e) hm2) hS3 g2 q3)))
/-- set(l), l a list of truth values -/
theorem bools_to_set {l : Addr} {its : Array Value} (ks : List Bool) {Q : Value → Shared → Prop} (calm : A.handled = none) (ist : s.heap.IsList l its) (are : its.toList = ks.map Value.bool)
    (k : ∀ (g : Heap) (tk : Nat) fb m, SetB w g s.heap.objs.size fb m → (∀ k, fb k = true ↔ k ∈ ks) → (∀ b o, s.heap.get? b = some o → g.get? b = some o) → Q (.ref s.heap.objs.size) { s with heap := g, toks := tk }) :
    wpAny (model P w) A (call (.type "set") [.ref l]) Q E s := by
  have sz : its.size = ks.length := by
    have q := congrArg List.length are
    rw [Array.length_toList, List.length_map] at q
    exact q
  obtain ⟨c0, tl0, mro0⟩ := F.called_set.mro
  have made := F.called_set.made; have sub := F.called_set.sub
  refine wpAny_call (codeAny_of_tree (show wpAny _ _ (callAny (.type "set") _) _ _ _ from wpAny_pure ⟨Code.quiet_builtin _ (by decide +kernel), codeAny_builtin F.entry_type_call ?_⟩))
  rw [Around.under_plain (weight_type_call_type "set" [.ref l] []) rfl]
  have nt := F.called_set.notType; have cc := F.called_set.canCreate; have tc := F.typeCall_set_1 (.ref l)
  repeat (any_goals (first | assumption | wp_step))
  refine codeAny_mono (code_set_led1 (.ref l) (E := E) (Q₁ := fun ob s1 => ob = .ref s.heap.objs.size ∧ s1 = { s with heap := withSet w s.heap }) ⟨rfl, rfl⟩) fun r s1 hr => ?_
  cases r with
  | error e => exact hr
  | ok fl =>
    cases fl with
    | ret ob =>
      obtain ⟨rfl, rfl⟩ := hr
      have gS : (withSet w s.heap).get? s.heap.objs.size = some (bareSet w) := Heap.get?_push_size _ rfl
      have tyS : Shared.TypeIs { s with heap := withSet w s.heap } (.ref s.heap.objs.size) "set" := ⟨_, gS, rfl⟩
      have li := F.called_set.init.lookup; have bi := F.called_set.init.bind (.ref s.heap.objs.size)
      repeat (any_goals (first | assumption | wp_step))
      refine codeAny_mono (codeAny_call_builtin (R := wants (fun r s2 => r = .none ∧ ∃ g tk fb m, s2 = { s with heap := g, toks := tk } ∧ SetB w g s.heap.objs.size fb m ∧ (∀ k, fb k = true ↔ k ∈ ks) ∧ ∀ b o, s.heap.get? b = some o → g.get? b = some o) E)
        F.called_set.init.plain F.entry_set_init (check_set_init_1 tyS ?_)) fun r2 s2 hr2 => ?_
      · obtain ⟨⟨ocls, odict, odata, oslots⟩, hol, hcl, nl, hdl⟩ := ist
        simp only at hcl hdl
        subst hcl; subst hdl
        have gl : (withSet w s.heap).get? l = some { cls := .type "list", dict := odict, data := .seq its nl, slots := oslots } := Heap.get?_push_of_some _ hol
        have ss := F.sub_list_set; have sf := F.sub_list_frozenset
        have ne : (Value.type "list" == Value.type "dict") = false := by decide
        have ist2 : (withSet w s.heap).IsList l its := ⟨_, gl, rfl, nl, rfl⟩
        unfold Builtin.«set.__init__» noKeywords Builtin.Frozenset.updateFrom
        generalize hPI : pyIter = PI
        wp_walk
        subst hPI
        refine wpAny_pyIter_list ist2 (wpAny_bind (wpAny_runValue ?_))
        have low : l < s.heap.objs.size := Heap.lt_size hol
        have calm3 : A.in1.in1.in1.handled = none := by simp [calm]
        have size1 : (withSet w s.heap).objs.size = s.heap.objs.size + 1 := Heap.size_push ..
        have nI : l ≠ (withSet w s.heap).objs.size := by rw [size1]; exact Nat.ne_of_lt (Nat.lt_succ_of_lt low)
        have nS : s.heap.objs.size ∉ [(withSet w s.heap).objs.size, l] := by
          rw [size1]; simp only [List.mem_cons, List.not_mem_nil, or_false, not_or]; exact ⟨Nat.ne_of_lt (Nat.lt_succ_self _), Nat.ne_of_gt low⟩
        have val : ∀ (i : Nat) (v : Value), its[i]? = some v → ∃ p, ks[i]? = some p ∧ v = .bool p := fun i v hv => by
          have q : its.toList[i]? = some v := by rw [Array.getElem?_toList]; exact hv
          rw [are, List.getElem?_map] at q
          obtain ⟨p, hp, e⟩ := Option.map_eq_some_iff.mp q
          exact ⟨p, hp, e.symm⟩
        have above : ∀ b, s.heap.objs.size ≤ b → s.heap.get? b = none := fun b hb => by
          cases q : s.heap.get? b with
          | none => rfl
          | some o => exact absurd (Nat.lt_of_lt_of_le (Heap.lt_size q) hb) (Nat.lt_irrefl _)
        have hget : ((withSet w s.heap).push { cls := .type "list_iterator", data := .fields #[.ref l, .int 0 0] }).get? s.heap.objs.size = some (bareSet w) := Heap.get?_push_of_some _ gS
        refine update_bools ((Walks.list calm3 _ l nI its).toS) s.heap.objs.size nS ks sz val s.heap (above _ (Nat.le_refl _)) (fun b hb => above b (by rw [List.mem_singleton.mp hb, size1]; omega)) (its.size - 0) 0 _ (by omega) (Nat.zero_le _) ⟨⟨_, Heap.get?_push_size _ rfl, rfl, rfl⟩, (ist2.push _)⟩
          (fun b o e => Heap.get?_push_of_some _ (Heap.get?_push_of_some _ e)) ⟨fun _ => false, 0, (setB_fresh w).at fun o e => Heap.get?_push_of_some _ e, fun k => by simp⟩ ?_
        rintro ⟨g, g2, d2, tk2, os2⟩ fb m hm hS got kept
        obtain rfl : g2 = s.gens := hm.gens
        obtain rfl : d2 = s.drawn := hm.drawn
        obtain rfl : os2 = s.os := hm.os
        rw [sz, List.take_length] at got
        exact (show wpAny _ _ _ _ _ _ from wpAny_pure (show wpAny _ _ (ret Value.none) _ _ _ from wpAny_pure ⟨rfl, g, tk2, fb, m, rfl, hS, got, kept⟩))
      · cases r2 with
        | error e => exact hr2
        | ok fl2 =>
          cases fl2 with
          | ret r =>
            obtain ⟨rfl, g, tk, fb, m, rfl, hS, got, hk⟩ := hr2
            repeat (any_goals (first | assumption | wp_step))
            exact k _ _ _ _ hS got hk
          | _ => exact hr2.elim
    | _ => exact hr.elim
end
end PpSet

/-! Snd23 -/
set_option maxHeartbeats 0
/-! sorted(set(truth values)); a tuple some times. -/
namespace PpSet
open PySem PySem.W PySem.Spec PyProof.Rows L2
section
variable {P : Program} {w : World} {A : Around} {E : Value → Shared → Prop} {s : Shared}
/-- the truth values among some -/
def bothOf (S : Bool → Bool) : List Bool := (if S false = true then [false] else []) ++ (if S true = true then [true] else [])
theorem le_bools : ∀ a b : Bool, dataLe false PyData.bool a b = (!a || b) := by decide +kernel
theorem two_bools {l : List Bool} (h : l.Perm [false, true]) (s : l.Pairwise fun a b => dataLe false PyData.bool a b = true) : l = [false, true] := by
  match l, h.length_eq, s with
  | [a, b], _, s =>
    have h1 : dataLe false PyData.bool a b = true := (List.pairwise_cons.mp s).1 b (.head _)
    rw [le_bools] at h1
    have n : [a, b].Nodup := h.nodup_iff.mpr (by decide)
    cases a <;> cases b <;> simp at h1 n ⊢
theorem sort_bools (bs : List Bool) (nd : bs.Nodup) : bs.mergeSort (dataLe false PyData.bool) = bothOf fun b => decide (b ∈ bs) := by
  have hs : (bs.mergeSort (dataLe false PyData.bool)).Pairwise fun a b => dataLe false PyData.bool a b = true :=
    List.pairwise_mergeSort (fun a b c h1 h2 => by rw [le_bools] at *; cases a <;> cases b <;> cases c <;> simp at *) (fun a b => by rw [le_bools, le_bools]; cases a <;> cases b <;> rfl) bs
  have hp := List.mergeSort_perm bs (dataLe false PyData.bool)
  match bs, nd, hs, hp with
  | [], _, _, _ => simp [bothOf]
  | [false], _, _, _ => simp [bothOf]
  | [true], _, _, _ => simp [bothOf]
  | [false, true], _, hs, hp => rw [two_bools hp hs]; decide
  | [true, false], _, hs, hp => rw [two_bools (hp.trans (List.Perm.swap _ _ _)) hs]; decide
  | false :: false :: r, nd, _, _ => simp at nd
  | true :: true :: r, nd, _, _ => simp at nd
  | a :: b :: c :: r, nd, _, _ => cases a <;> cases b <;> cases c <;> simp at nd
/-- sorted(a set of truth values) -/
theorem sorted_setB {a : Addr} {S : Bool → Bool} {n : Nat} {Q : Value → Shared → Prop} (R : SetB w s.heap a S n) (hh : A.handled = none) (hu : A.units + 60 < cLine)
    (hQ : ∀ (s' : Shared) (p c : Nat), (∀ b o, s.heap.get? b = some o → s'.heap.get? b = some o) → s'.gens = s.gens → s'.os = s.os → s.heap.objs.size ≤ p → s'.heap.get? p = some (seqObj "list" ((bothOf S).map Value.bool).toArray c) → Q (.ref p) s') :
    wpAny (model P w) A (call (.builtin "sorted") [.ref a]) Q E s := by
  obtain ⟨o, es, ep, t, ho, hex, hd, g, nd, hm, hb, hf, hn, hr, hl⟩ := R
  have hfew : es.size ≤ 2 := by
    have h0 : (es.toList.map keyB).length ≤ [true, false].length := nodup_sub nd fun x _ => by cases x <;> simp
    rw [List.length_map, Array.length_toList] at h0
    exact h0
  refine Calls.call_function_entry kind_sorted plain_sorted entry_sorted (args_sorted1 _) ?_
  unfold Builtin.«sorted»
  refine wpAny_bind (m := checkCount "sorted" 1 1 _) (wpAny_pure ?_)
  refine wpAny_bind (collect_set (A := A.in1) hh ⟨o, ho, hex.1, hd⟩ hf hb hr hl fun s1 vs k1 hz g1 o1 pm => ?_)
  -- the values, as truth values
  obtain ⟨bs, rfl, pb⟩ : ∃ bs : List Bool, vs = bs.map Value.bool ∧ bs.Perm (es.toList.map keyB) := by
    refine ⟨vs.map fun v => match v with | .bool k => k | _ => false, ?_, ?_⟩
    · rw [List.map_map]
      refine (List.map_id vs).symm.trans (List.map_congr_left fun v hv => ?_)
      obtain ⟨e, he, q⟩ := List.mem_map.mp (pm.mem_iff.mp hv)
      obtain ⟨k, h1, _⟩ := g e he
      rw [← q, h1]; rfl
    · have q := pm.map fun v : Value => match v with | .bool k => k | _ => false
      rw [List.map_map] at q
      exact q
  have hbl : bs.length ≤ 2 := by rw [pb.length_eq, List.length_map, Array.length_toList]; exact hfew
  have hlen : (bs.map Value.bool).length ≤ sizeLine := by rw [List.length_map, sizeLine_eq]; omega
  refine wpAny_bind (wpAny_newList ?_ hlen)
  have hoL : (s1.heap.push (seqObj "list" (bs.map Value.bool).toArray 0)).get? s1.heap.objs.size = some (seqObj "list" (bs.map Value.bool).toArray 0) := Heap.get?_push_size _ rfl
  have e0 : EachIs (fun (v : Value) (b : Bool) => v = .bool b) (bs.map Value.bool) bs := by
    clear hoL hlen hbl pb pm
    induction bs with
    | nil => exact .nil
    | cons b bs ih => exact .cons rfl ih
  have er : ∀ h' : Heap, EachIs (fun (v : Value) (b : Bool) => ∃ as, Reads h' v (PyData.bool b) as) (bs.map Value.bool) bs := fun h' => e0.mono fun v b e => by subst e; exact ⟨[], .bool b⟩
  have hal : AllAlike (bs.map PyData.bool) := fun x hx y hy => by
    obtain ⟨b, _, rfl⟩ := List.mem_map.mp hx
    obtain ⟨c, _, rfl⟩ := List.mem_map.mp hy
    rfl
  have hS : ∀ s2 : Shared, SortsAt P w A.in1.in1 s2 (dataKind s2.heap (bs.map PyData.bool)) (bs.map Value.bool) := fun s2 => Qv.sorts_of (each_map (R := fun v d => ∃ as, Reads s2.heap v d as) PyData.bool (er s2.heap)) hal (by
    unfold Qv.sortK
    refine Bool.or_eq_true_iff.mpr (.inr (List.all_eq_true.mpr fun d hd => ?_))
    obtain ⟨b, _, rfl⟩ := List.mem_map.mp hd
    rfl) fun d hd => by
      obtain ⟨b, _, rfl⟩ := List.mem_map.mp hd
      show A.units + 1 + 1 + 0 < cLine
      omega
  refine wpAny_bind (wpAny_holding (wpAny_call_entry_kw slot_list_sort ⟨_, hoL, rfl⟩ entry_list_sort ?body (args_list_sort _)))
  case body =>
    show wpAny (model P w) A.in1.in1 (Builtin.«list.sort» ⟨[.ref s1.heap.objs.size], []⟩) _ _ _
    refine list_sort_vals (s := { s1 with heap := s1.heap.push (seqObj "list" (bs.map Value.bool).toArray 0) }) hoL (hS _) hlen ⟨_, rfl, wpAny_pure ⟨_, rfl, ?_⟩⟩
    have e2 := sortVals_data (enc := PyData.bool) false e0 (er (sortingHeap (s1.heap.push (seqObj "list" (bs.map Value.bool).toArray 0)) s1.heap.objs.size (bs.map Value.bool))) hal
    rw [sort_bools bs (pb.nodup_iff.mpr nd)] at e2
    have e3 : (bothOf fun b => decide (b ∈ bs)) = bothOf S := by
      have : (fun b => decide (b ∈ bs)) = S := by
        funext b
        have h1 : (b ∈ bs) ↔ S b = true := by rw [hm b]; exact pb.mem_iff
        by_cases hb : b ∈ bs
        · rw [decide_eq_true hb, h1.mp hb]
        · rw [decide_eq_false hb]
          cases h2 : S b with
          | false => rfl
          | true => exact absurd (h1.mpr h2) hb
      rw [this]
    rw [e3] at e2
    have e4 : ∀ (us : List Value) (cs : List Bool), EachIs (fun (v : Value) (b : Bool) => v = .bool b) us cs → us = cs.map Value.bool := by
      intro us cs h
      induction h with
      | nil => rfl
      | cons h _ ih => rw [h, ih]; rfl
    have e5 := e4 _ _ e2
    obtain ⟨c, hc⟩ := sortedHeap_at (vs := bs.map Value.bool) (out := (sortVals (dataKind (sortingHeap (s1.heap.push (seqObj "list" (bs.map Value.bool).toArray 0)) s1.heap.objs.size (bs.map Value.bool)) (bs.map PyData.bool)) false (bs.map Value.bool) (bs.map Value.bool)).toArray) hoL
    rw [e5] at hc
    refine hQ _ s1.heap.objs.size c (fun b u e => ?_) g1 o1 hz ?_
    · have q := k1 b u e
      have hlt := Heap.lt_size q
      show (sortedHeap (s1.heap.push _) s1.heap.objs.size _ _).get? b = some u
      rw [sortedHeap_old (Nat.ne_of_lt hlt) (by rw [size_push']; exact Nat.lt_succ_of_lt hlt)]
      exact Heap.get?_push_of_some _ q
    · show (sortedHeap _ _ _ _).get? _ = _
      rw [e5]; exact hc
end
end PpSet
namespace L2
open PySem PySem.Spec PyProof.Rows
section
variable {X : Cx}
def rSetB (K : PySem.W.Frag) (w : World) : List V → Hp → VK → Prop := fun xs H Q => ∃ (l : Addr) (ks : List Bool), xs = [V.ref l] ∧ SqL K H l (ks.map V.bl) ∧ ∀ a n, H a = none → Q (.ref a) (upd H a (PpSet.SetBO w a (fun b => decide (b ∈ ks)) n))
theorem cr_setB (hc : X.calm = true) : CallR X (.type "set") (rSetB X.K X.w) := by
  intro pins s σ H xs us Q I r h
  obtain ⟨l, ks, rfl, hl, q⟩ := h
  rw [Vals.ref1 r]
  obtain ⟨its, rv, pl, _⟩ := I.list hl
  have hn : H s.heap.objs.size = none := I.hok.fresh (Nat.le_refl _)
  have are : its = ks.map Value.bool := by
    have : ∀ {ks : List Bool} {its : List Value}, Vals (ks.map V.bl) its → its = ks.map Value.bool := by
      intro ks
      induction ks with
      | nil => intro its h; have h : Vals [] its := h; cases h; rfl
      | cons k ks ih =>
        intro its h
        have h : Vals (V.bl k :: ks.map V.bl) its := h
        cases h with
        | cons a r => rw [ih r, show _ = Value.bool k from a]; rfl
    exact this rv
  refine PpSet.bools_to_set (P := X.prog) (w := X.w) ks (I.ok.hd hc) pl.isList (by simpa using are) fun h' tk fb m R hm k => ?_
  have e : fb = fun b => decide (b ∈ ks) := by
    funext b
    have := hm b
    cases hb : fb b with
    | true => rw [decide_eq_true (this.mp hb)]
    | false => rw [decide_eq_false fun z => by rw [this.mpr z] at hb; cases hb]
  subst e
  exact ⟨.ref s.heap.objs.size, upd H s.heap.objs.size (PpSet.SetBO X.w s.heap.objs.size _ m), I.laid (t' := tk) k (Nat.le_refl _) (PpSet.setBO_new R), rfl, q _ m hn⟩
def rSortedB (w : World) : List V → Hp → VK → Prop := fun vs H Q => ∃ (a : Addr) (S : Bool → Bool) (n : Nat), vs = [V.ref a] ∧ H a = some (PpSet.SetBO w a S n) ∧ ∀ p, H p = none → Q (.ref p) (upd H p (.lst ((PpSet.bothOf S).map V.bl)))
theorem cr_sortedB (hc : X.calm = true) (hu : X.A.units + 200 < cLine) : CallR X (.builtin "sorted") (rSortedB X.w) := by
  intro pins s σ H vs us Q I r h
  obtain ⟨a, S, n, rfl, ha, q⟩ := h
  have R := PpSet.setBO_get I ha
  rw [Vals.ref1 r]
  refine PpSet.sorted_setB R (I.ok.hd hc) (by omega) fun s' p c k g o hp hg => ?_
  have hlen : ((PpSet.bothOf S).map V.bl).length ≤ sizeLine := by
    rw [List.length_map, sizeLine_eq]
    unfold PpSet.bothOf
    cases S false <;> cases S true <;> decide
  have hn : H p = none := I.hok.fresh hp
  have hv : Vals ((PpSet.bothOf S).map V.bl) ((PpSet.bothOf S).map Value.bool) := by
    induction PpSet.bothOf S with
    | nil => exact .nil
    | cons b l ih => exact .cons rfl ih
  have J : Inv X pins σ (upd H p (.lst ((PpSet.bothOf S).map V.bl))) { s with heap := s'.heap, gens := s'.gens, drawn := s'.drawn, toks := s'.toks } :=
    I.call (ch := []) (Un.laid k hp hn) (I.hok.laid k hp ⟨hlen, _, c, hv, hg⟩) (by rw [g]; exact I.bare) (fun _ z => nomatch z)
  have e : s' = { s with heap := s'.heap, gens := s'.gens, drawn := s'.drawn, toks := s'.toks } := by
    obtain ⟨_, _, _, _, _⟩ := s'
    obtain ⟨_, _, _, _, _⟩ := s
    cases o
    rfl
  rw [e]
  exact ⟨.ref p, _, J, rfl, q p hn⟩
end
end L2
namespace Qv
open PySem PySem.Spec PyProof.Rows L2
theorem rps_bools {H : Hp} {ms : Cells} : ∀ {xs : List V} {ds : List PyData} {bs : List Bool}, Rps H ms xs ds → boolsOf ds = some bs → xs = bs.map V.bl
  | _, _, _, .nil, h => by cases h; rfl
  | _, _, bs, .cons (v := v) (vs := vs) (d := d) (ds := ds) a r, h => by
    cases d with
    | bool i =>
      simp only [boolsOf] at h
      split at h
      · cases h
      · rename_i l hl
        cases h
        cases a
        rw [rps_bools r hl]; rfl
    | _ => cases h
theorem rps_of_bools {H : Hp} {ms : Cells} : ∀ (bs : List Bool), Rps H ms (bs.map V.bl) (bs.map .bool)
  | [] => .nil
  | n :: ns => .cons (.bl n) (rps_of_bools ns)
section
variable {X : Cx} {mg : Str → Option Value} {E : XK} {Γ : Fns} {a b : Expr} {ia ib : IE} {p q pos p2 : Pos}
/-- sorted(set(l)), l a list of truth values -/
theorem s_sortsetb (hc : X.calm = true) (hu : X.A.units + 200 < cLine) (hg : Gl X "sorted") (hm : X.mg "sorted" = none) (hg2 : Gl X "set") (hm2 : X.mg "set" = none) (ha : SE X mg E Γ a ia) (h1 : starEach [a] X.env = (false, eval a X.env) :: starEach [] X.env := by rfl)
    (h2 : starEach [.Call (.Name "set" p2) [a] [] q] X.env = (false, eval (.Call (.Name "set" p2) [a] [] q) X.env) :: starEach [] X.env := by rfl) : SE X mg E Γ (.Call (.Name "sorted" p) [.Call (.Name "set" p2) [a] [] q] [] pos) (.pr .sortsetb (.cons ia .nil)) := by
  refine pe_imp (pe_callB (cr_sortedB hc hu) hg hm boot_sortedQ (pa_cons (pe_callTy (cr_setB hc) hg2 hm2 boot_setQ (pa_cons ha pa_nil h1) (by decide) (by decide) h1) pa_nil h2) (by decide) (by decide) h2) ?_
  rintro σ H Q ⟨ms, ρ, S, he, hs, hp⟩
  rw [ev_pr1] at hp
  refine ⟨ms, ρ, S, he, hs, hp.part fun w S1 ms1 H1 _ e1 r1 h3 v hv => ?_⟩
  obtain ⟨x, hx, h4⟩ := h3.look
  obtain ⟨d, hd, h5⟩ := h4.opt
  have rv := hv.get r1 hx
  have hd : pSortsetB [x] = some d := hd
  have hf := Fin.of h5
  cases x with
  | list ds =>
    obtain ⟨l, xs, rfl, g1, g2, g3⟩ := rv.lst
    simp only [pSortsetB] at hd
    split at hd
    · rename_i bs hbs
      split at hd
      · cases hd
        have e2 := rps_bools g3 hbs
        subst e2
        refine ⟨l, bs, rfl, SqL.of g1, fun b n hb1 => ⟨b, _, n, rfl, upd_same, fun t k4 => ?_⟩⟩
        have e4 : PpSet.bothOf (fun b => decide (b ∈ bs)) = sortB bs := by
          unfold PpSet.bothOf sortB
          congr 1
          · by_cases h : false ∈ bs
            · rw [if_pos (decide_eq_true h), if_pos h]
            · rw [if_neg (by simp [h]), if_neg h]
          · by_cases h : true ∈ bs
            · rw [if_pos (decide_eq_true h), if_pos h]
            · rw [if_neg (by simp [h]), if_neg h]
        rw [e4]
        have n1 := Ext.laid (ms := ms1) (H := H1) (o := PpSet.SetBO X.w b (fun b => decide (b ∈ bs)) n) hb1
        have r2 := r1.laid (o := PpSet.SetBO X.w b (fun b => decide (b ∈ bs)) n) hb1
        have n2 := Ext.laid (ms := ms1) (o := .lst ((sortB bs).map V.bl)) k4
        have r3 := r2.laid (o := .lst ((sortB bs).map V.bl)) k4
        have hz : ((sortB bs).map V.bl).length ≤ line := by
          have : (sortB bs).length ≤ 2 := by
            unfold sortB
            rw [List.length_append]
            split <;> split <;> decide
          rw [List.length_map]; show _ ≤ 16777216; omega
        exact hf _ _ (n1.trans n2) r3 (.lst upd_same (r2.notin k4) hz (rps_of_bools _))
      · cases hd
    · cases hd
  | _ => cases hd
end
end Qv

/-! Hk -/
set_option maxHeartbeats 0
/-! The head's reading: what the module's names reach, and the interpreter's own table of statics beside it. -/
namespace Qv
open PySem PySem.Spec PyProof.Rows L2
/-- the addresses that are read -/
def seen (g : Addr → Option Obj) (n : Nat) : List Addr := He.asD g n ++ [cStatics]
def fragQ (g : Addr → Option Obj) (n : Nat) : PySem.W.Frag := He.frT g (seen g n)
def obsQ (n : Nat) (fa : List He.Fa) (fn : List He.DefD) (tf : List He.Defn) (ex : PySem.W.Frag → Bool) (g : Addr → Option Obj) : He.AlX :=
  (He.obsT fa fn [] (fragQ g n), ex (fragQ g n) && He.tabsB g tf (fragQ g n))
/-- what a reading of a part of the heap says -/
theorem says_any {fa : List He.Fa} {fn : List He.DefD} {tf : List He.Defn} {ex : PySem.W.Frag → Bool} {w : World} {h : Heap} {as : List Addr}
    (e : ((He.obsT fa fn [] (He.frT h.get? as), ex (He.frT h.get? as) && He.tabsB h.get? tf (He.frT h.get? as)) : He.AlX) = He.valX fn [] w) : He.SaysX fa fn [] tf ex w h (He.frT h.get? as) := by
  have h12 := He.ba (congrArg Prod.snd e)
  have each : ∀ p, p ∈ tf → PySem.W.codeHdIn (He.frT h.get? as) (He.cT (He.frT h.get? as) p).1 (He.cT (He.frT h.get? as) p).2 = true ∧ ∃ o : Obj, h.get? (He.cT (He.frT h.get? as) p).2 = some o ∧ He.emptyTab o = true := by
    intro p hp
    have hb := He.ba (List.all_eq_true.mp h12.2 p hp)
    have hc := hb.2
    revert hc
    cases h.get? (He.cT (He.frT h.get? as) p).2 with
    | none => intro z; cases z
    | some o => exact fun z => ⟨hb.1, o, rfl, z⟩
  refine { t := congrArg Prod.fst e, more := h12.1, hd := fun p hp => (each p hp).1, out := fun p hp => ?_, empty := fun p hp => ?_ }
  · obtain ⟨o, ho, ht⟩ := (each p hp).2
    exact He.frT_none ho ht
  · obtain ⟨o, ho, ht⟩ := (each p hp).2
    rw [ho, He.emptyTab_eq ht]
def hookQ (n : Nat) (fa : List He.Fa) (fn : List He.DefD) (tf : List He.Defn) (ex : PySem.W.Frag → Bool) : PySem.W.Hook :=
  { α := He.AlX, obs := fun s => obsQ n fa fn tf ex s.heap.get?, val := fun w => He.valX fn [] w,
    says := fun w h => ∃ K : PySem.W.Frag, K.In h ∧ He.SaysX fa fn [] tf ex w h K,
    of := fun _ _ e => ⟨_, He.frT_in, says_any e⟩,
    keeps := fun _ _ _ q k => q.elim fun K z => ⟨K, PySem.W.Frag.In.keeps z.1 k, { t := z.2.t, more := z.2.more, hd := z.2.hd, out := z.2.out, empty := fun p hp => k _ _ (z.2.empty p hp) }⟩ }
theorem obsQ_eq {n : Nat} {fa : List He.Fa} {fn : List He.DefD} {tf : List He.Defn} {ex : PySem.W.Frag → Bool} {g : Addr → Option Obj} {s : Shared} (h : ∀ a, g a = s.heap.get? a) : obsQ n fa fn tf ex g = (hookQ n fa fn tf ex).obs s := by
  obtain rfl : g = s.heap.get? := funext h
  rfl
end Qv

/-! Snd24 -/
set_option maxHeartbeats 0
/-! str of a tuple of ints; the law's word for an odd ring. -/
namespace Qv
open PySem PySem.Spec PyProof.Rows L2 LamX
theorem shown_int (i : Int) : PyData.shown (.int i) = intText i := by simp only [PyData.shown]; rfl
theorem shown_ints : ∀ ns : List Int, PyData.shownAll (ns.map .int) = ns.map intText
  | [] => by simp only [List.map_nil, PyData.shownAll]
  | n :: ns => by simp only [List.map_cons, PyData.shownAll, shown_ints ns, shown_int]
theorem shown_tup (ns : List Int) : PyData.shown (.tuple (ns.map .int)) = tupleText (ns.map intText) := by
  simp only [PyData.shown, shown_ints]
theorem showable_ints : ∀ ns : List Int, ns.all smallI = true → PyData.showableAll (ns.map .int) = true
  | [], _ => by simp only [List.map_nil, PyData.showableAll]
  | n :: ns, h => by
    rw [List.all_cons, Bool.and_eq_true] at h
    simp only [List.map_cons, PyData.showableAll, showable_ints ns h.2, Bool.and_true, PyData.showable]
    exact decide_eq_true (small_text h.1).1
theorem depth_ints : ∀ ns : List Int, PyData.depthAll (ns.map .int) ≤ 1
  | [] => by simp [PyData.depthAll]
  | n :: ns => by
    have := depth_ints ns
    simp only [List.map_cons, PyData.depthAll, PyData.depth]; omega
theorem piled_le : ∀ ts : List Str, (∀ t ∈ ts, t.length ≤ 6) → piled ts ≤ ts.length * 8
  | [], _ => by simp [piled]
  | t :: ts, h => by
    have h1 := h t (.head _)
    have h2 := piled_le ts fun u hu => h u (.tail _ hu)
    simp only [piled, List.length_cons]
    simp only [piled] at h2
    simp only [List.map_cons, List.sum_cons] at *
    omega
theorem tup_len (ns : List Int) (h : ns.all smallI = true) (hl : ns.length ≤ 60) : (tupleText (ns.map intText)).length ≤ 600 := by
  have h1 : ∀ t ∈ ns.map intText, t.length ≤ 6 := fun t ht => by
    obtain ⟨i, hi, rfl⟩ := List.mem_map.mp ht
    exact (small_text (List.all_eq_true.mp h i hi)).2
  have h2 := piled_le _ h1
  rw [List.length_map] at h2
  unfold tupleText
  rw [strLen_append, strLen_append]
  have e1 : ((("(" : String) : Str)).length = 1 := rfl
  have e3 : (((if (ns.map intText).length == 1 then ",)" else ")" : String) : Str)).length ≤ 2 := by split <;> decide
  have e2 : (Str.join ", " (ns.map intText)).length ≤ piled (ns.map intText) := by
    by_cases h0 : ns.map intText = []
    · rw [h0]; decide
    · have := join_length_add _ h0; omega
  omega
end Qv
namespace L2
open PySem PySem.Spec PyProof.Rows
def rStrT (K : PySem.W.Frag) : List V → Hp → VK → Prop := fun xs H Q => ∃ (a : Addr) (ns : List Int), xs = [.ref a] ∧ SqT K H a (ns.map V.int) ∧ ns.all Qv.smallI = true ∧ ns.length ≤ 60 ∧ Q (.str (tupleText (ns.map Qv.intText))) H
theorem cr_strT {X : Cx} (hgd : X.A.guards = some []) (hu : X.A.units + 200 < cLine) : CallR X (.type "str") (rStrT X.K) := by
  intro pins s σ H xs us Q I r h
  obtain ⟨a, ns, rfl, hT, hsm, hl, q⟩ := h
  have hd : DpAll X.K H [V.ref a] [PyData.tuple (ns.map .int)] := by
    refine .cons (.tup hT ?_) .nil
    have : ∀ ns : List Int, DpAll X.K H (ns.map V.int) (ns.map .int) := by
      intro ns
      induction ns with
      | nil => exact .nil
      | cons n ns ih => exact .cons (.int n) ih
    exact this ns
  obtain ⟨as, hr⟩ := Dp.readsAll I _ _ _ hd r
  rw [Vals.ref1 r] at hr ⊢
  obtain ⟨as1, hr1⟩ : ∃ as1, Reads s.heap (.ref a) (.tuple (ns.map .int)) as1 := by
    cases hr with
    | cons h _ => exact ⟨_, h⟩
  have hdp := Qv.depth_ints ns
  refine str_of_reads hr1 (by simp only [PyData.showable]; exact Qv.showable_ints ns hsm) (PyData.noDict_hsm ?_) hgd (by simp only [PyData.depth]; omega) (fun b o e => e) (fun h' u tk k => ⟨.str _, H, I.kept k, ⟨u, by rw [Qv.shown_tup]⟩, q⟩) ?_
  · refine PyData.hasDict_of_canLay _ ?_
    have : ∀ ns : List Int, PyData.canLayAll0 (ns.map .int) = true := by
      intro ns
      induction ns with
      | nil => simp [PyData.canLayAll0]
      | cons n ns ih => simp only [List.map_cons, PyData.canLayAll0, ih, PyData.canLay0, Bool.and_true]
    simp only [PyData.canLay0]; exact this ns
  · rw [Qv.shown_tup]
    have := Qv.tup_len ns hsm hl
    rw [sizeLine_eq]; omega
end L2
namespace Qv
open PySem PySem.Spec PyProof.Rows L2 LamX
section
variable {X : Cx} {mg : Str → Option Value} {E : XK} {Γ : Fns} {a : Expr} {ia : IE} {p pos : Pos}
/-- str(t), t a tuple of ints of few figures, where nothing is being shown -/
theorem s_strT (hgd : X.A.guards = some []) (hu : X.A.units + 200 < cLine) (hg : Gl X "str") (hm : X.mg "str" = none) (ha : SE X mg E Γ a ia) (h1 : starEach [a] X.env = (false, eval a X.env) :: starEach [] X.env := by rfl) : SE X mg E Γ (.Call (.Name "str" p) [a] [] pos) (.pr .strt (.cons ia .nil)) := by
  refine pe_imp (pe_callTy (cr_strT hgd hu) hg hm boot_strQ (pa_cons ha pa_nil h1) (by decide) (by decide) h1) ?_
  rintro σ H Q ⟨ms, ρ, S, he, hs, hp⟩
  rw [ev_pr1] at hp
  refine ⟨ms, ρ, S, he, hs, hp.part fun w S1 ms1 H1 _ e1 r1 h3 v hv => ?_⟩
  obtain ⟨x, hx, h4⟩ := h3.look
  obtain ⟨d, hd, h5⟩ := h4.opt
  have rv := hv.get r1 hx
  have hd : pStrt [x] = some d := hd
  have hf := Fin.of h5
  cases x with
  | tuple ds =>
    obtain ⟨l, xs, rfl, g1, _, g2, g3⟩ := rv.tup
    simp only [pStrt] at hd
    split at hd
    · rename_i ns hns
      split at hd
      · rename_i hb
        cases hd
        obtain ⟨e2, e3⟩ := rps_ints g3 hns
        subst e2
        exact ⟨l, ns, rfl, SqT.of g1, hb.1, hb.2, hf.now r1 (.str _)⟩
      · cases hd
    · cases hd
  | _ => cases hd
/-- _law_found = "odd" + str(e.ring) -/
def tOdd (K : PySem.W.Frag) (a : Addr) (cls : Value) (d : Option Addr) (C : Addr) : TS := fun D σ H => σ[2]? = some (some (.ref a)) ∧ cls = .ref C ∧ ∃ (dd t : Addr) (ns : List Int), d = some dd ∧ H dd = some (.xd [("ring", .ref t)]) ∧ SqT K H t (ns.map V.int) ∧ ns.all smallI = true ∧ ns.length ≤ 60 ∧
  D.nx (σ.set 1 (some (.str ("odd" ++ tupleText (ns.map intText))))) H
end
section
variable {Y : Cx} {C : Addr} {j : Nat} {p1 p2 p3 p4 p5 p6 p7 p8 p9 p10 : Pos} {hs : List ExceptHandler} {l : List HdR}
theorem hd_odd (hgd : Y.A.guards = some []) (hu : Y.A.units + 300 < cLine) (hg : Gl Y "OddRing") (hm : Y.mg "OddRing" = some (.ref C)) (T : XfC Y.K C) (hno : PySem.W.findIn Y.K (.ref C) "ring" = some none) (hN : Y.N.Nodup) (h1 : Y.N[1]? = some ("_law_found" : Str)) (h2 : Y.N[2]? = some ("e" : Str))
    (hl : Y.env.scope.names.lookup ("_law_found" : Str) = some .local) (he : Y.env.kindOf "e" = some .local) (hv : Vis Y.env.scope "e") (hgs : Gl Y "str") (hms : Y.mg "str" = none) (r : HdsMix Y hs l)
    (hb : ∀ e : Sem Value, attributeBase (.Name "e" p6) "ring" Y.env e = e := by intro _; rfl) :
    HdsMix Y (.ExceptHandler (some (.Name "OddRing" p1)) (some "e") [.Assign [.Name "_law_found" p2] (.BinOp (.Constant (.str "odd") j p3) .Add (.Call (.Name "str" p4) [.Attribute (.Name "e" p6) "ring" p7] [] p8) p9) p5] p10 :: hs) ((.ref C, some 2, fun a cls d => tOdd Y.K a cls d C) :: l) := by
  refine .keep ⟨hg, by decide, .inl hm⟩ hN h2 he (fun a oe cls d pn hz hf => ?_) r
  refine pss_imp (pss_one (ps_set (i := 1) (X := Y.suite a ((a, oe) :: pn)) hN h1 (.inl hl) (pe_op op_add_str pe_str (pe_callTy (cr_strT (X := Y.suite a ((a, oe) :: pn)) hgd (by show Y.A.units + 200 < cLine; omega)) hgs hms boot_strQ (pa_cons (pe_xf T hno hz hf (pe_var (i := 2) h2 hv) (hb _)) pa_nil))) rfl (.inr hl))) ?_
  intro D σ H q
  obtain ⟨q1, q2, dd, t, ns, q3, q4, q5, q6, q7, q8⟩ := q
  have hlen := tup_len ns q6 q7
  refine ⟨.ref a, q1, rfl, q2, dd, _, .ref t, q3, q4, rfl, t, ns, rfl, q5, q6, q7, "odd", _, rfl, rfl, ?_, q8⟩
  rw [sizeLine_eq]; show 3 + _ ≤ _; omega
end
end Qv

/-! Snd25 -/
set_option maxHeartbeats 0
/-! the law's word for the error of a call, odd rings among them. -/
namespace Qv
open PySem PySem.Spec PyProof.Rows L2 LamX
/-- what is known of the classes of errors -/
structure ExcOkO (K : PySem.W.Frag) (mg : Str → Option Value) : Prop where
  b : ExcOk K mg
  f : XfC K (He.ga K "OddRing")
  nl : PySem.W.findIn K (.ref (He.ga K "OddRing")) "ring" = some none
def TTwO (K : PySem.W.Frag) (mg : Str → Option Value) : (XK → Hp → VK → Prop) → Hp → VK → Prop := fun tl H Q =>
  tl (fun cls d H' => ∃ ms' x z, wordOfO x = some z ∧ RpX mg H' ms' cls d x ∧ Q (.str z) H') H (fun _ H' => Q (.str "") H')
def wordLO (K : PySem.W.Frag) : List HdR := plainL K plainWords ++ [(.ref (He.ga K "OddRing"), some 2, fun a cls d => tOdd K a cls d (He.ga K "OddRing")), (.ref (He.ga K "TooMany"), some 2, fun a cls d => tMany a cls d (He.ga K "TooMany")), (.ref (He.ga K "LotError"), none, fun _ _ _ => tW "base")]
section
variable {K : PySem.W.Frag} {mg : Str → Option Value} {Wo : WX} {D : Ends} {d : Option Addr} {σ : L2.St} {H : Hp}
/-- an error with a word is caught by its clause -/
theorem word_mixO (hX : ExcOkO K mg) {cls : Value} {ms' : Cells} {x : Exn} {z : Str} (hz : wordOfO x = some z) (hr : RpX mg H ms' cls d x) (hl : σ.length = 3) (q : ∀ σ' : L2.St, σ'[1]? = some (some (.str z)) → D.nx σ' H) : wMix K Wo D (wordLO K) cls d σ H := by
  obtain ⟨c, arg⟩ := x
  obtain ⟨C, e1, rfl, ha⟩ := hr
  cases arg with
  | none =>
    replace hz : plainWords.lookup c = some z := hz
    have hc := plain_key hz
    have e2 := hX.b.g c hc
    rw [e1] at e2; cases e2
    exact mix_in plainWords (fun h hh => hX.b.m c hc h.1 (plain_exc h hh)) hz (q _ (by rw [List.getElem?_set_self (by omega)]))
  | some y =>
    cases y with
    | int i =>
      replace hz : (if c = "TooMany" then fullText i else none) = some z := hz
      dsimp only at ha
      split at hz
      · rename_i e
        subst e
        have hc : ("TooMany" : Str) ∈ excNames := by decide +kernel
        have e2 := hX.b.g _ hc
        rw [e1] at e2; cases e2
        obtain ⟨dd, v, rfl, e3, e4⟩ := ha
        cases e4
        refine mix_past ?_ plainWords fun h hh => ?_
        · refine ⟨false, hX.b.m _ hc "OddRing" (by decide +kernel), (fun z => nomatch z), fun _ => ?_⟩
          refine ⟨true, hX.b.m _ hc _ hc, fun _ a na => ?_, (fun z => by simp at z)⟩
          refine ⟨by rw [List.getElem?_set_self (by omega)], rfl, dd, i, rfl, e3, z, hz, q _ ?_⟩
          show (((σ.set 2 (some (.ref a))).set 1 (some (.str z))).set 2 none)[1]? = _
          rw [List.getElem?_set_ne (by decide), List.getElem?_set_self (by simp; omega)]
        · have h2 := hX.b.m _ hc h.1 (plain_exc h hh)
          have e : decide (("TooMany" : Str) = h.1) = false := by
            have : ∀ h ∈ plainWords, decide (("TooMany" : Str) = h.1) = false := by decide +kernel
            exact this h hh
          rw [e] at h2; exact h2
      · cases hz
    | tuple ds =>
      replace hz : (if c = "OddRing" then oddText ds else none) = some z := hz
      dsimp only at ha
      split at hz
      · rename_i e
        subst e
        have hc : ("OddRing" : Str) ∈ excNames := by decide +kernel
        have e2 := hX.b.g _ hc
        rw [e1] at e2; cases e2
        obtain ⟨dd, v, rfl, e3, e4⟩ := ha
        unfold oddText pStrt at hz
        dsimp only at hz
        split at hz
        · rename_i z' hz'
          cases hz
          split at hz'
          · rename_i ns hns
            split at hz'
            · rename_i hb
              cases hz'
              obtain ⟨t, xs, rfl, g1, g2, g3, g4⟩ := e4.tupInv
              obtain ⟨x1, x2⟩ := rps_ints g4 hns
              subst x1
              refine mix_past ?_ plainWords fun h hh => ?_
              · refine ⟨true, hX.b.m _ hc _ hc, fun _ a na => ?_, (fun z => by simp at z)⟩
                refine ⟨by rw [List.getElem?_set_self (by omega)], rfl, dd, t, ns, rfl, e3, SqT.of g1, hb.1, hb.2, q _ ?_⟩
                show (((σ.set 2 (some (.ref a))).set 1 (some (.str _))).set 2 none)[1]? = _
                rw [List.getElem?_set_ne (by decide), List.getElem?_set_self (by simp; omega)]
              · have h2 := hX.b.m _ hc h.1 (plain_exc h hh)
                have e : decide (("OddRing" : Str) = h.1) = false := by
                  have : ∀ h ∈ plainWords, decide (("OddRing" : Str) = h.1) = false := by decide +kernel
                  exact this h hh
                rw [e] at h2; exact h2
            · cases hz'
          · cases hz'
        · cases hz
      · cases hz
    | _ => cases hz
end
section
variable {X : Cx} {Ng : List Str} {sg : Scope} {g f c' : Addr} {cdg : Value} {q : Str} {s : Shared} {H : Hp} {Q : VK} {tl : XK → Hp → VK → Prop} {p1 p2 p3 p4 p5 p6 p7 p8 p9 : Pos} {j : Nat} {h0 : ExceptHandler} {hs : List ExceptHandler}
abbrev wordCxO (X : Cx) (Ng : List Str) (sg : Scope) (g : Addr) (cdg : Value) (s : Shared) (H : Hp) : Cx := (cxOf C8.CX0 X.prog X.w X.K X.mg X.base Ng "_law_word" sg g cdg X.A X.stack s H C8.E0).nox
theorem word_givesO (hX : ExcOkO X.K X.mg) (S : FnScope ["_law_call", "_law_found", "e"] ["_law_call"] sg) (hl : sg.names.lookup ("_law_found" : Str) = some .local)
    (hh : HdsMix (wordCxO X ["_law_call", "_law_found", "e"] sg g cdg s H) (h0 :: hs) (wordLO X.K))
    (act : ∀ (W : WX) (pn : List (Addr × Obj)) (xe : Value → Shared → Prop) (E : XK) (p1 p2 : Pos), Takes ((cxOf C8.CX0 X.prog X.w X.K X.mg X.base ["_law_call", "_law_found", "e"] "_law_word" sg g cdg X.A X.stack s H C8.E0).tr pn xe) W → (∀ cls d σ' H', E cls d H' → W cls d σ' H') →
      PE ((cxOf C8.CX0 X.prog X.w X.K X.mg X.base ["_law_call", "_law_found", "e"] "_law_word" sg g cdg X.A X.stack s H C8.E0).tr pn xe) (.Call (.Name "_law_call" p1) [] [] p2) (fun σZ HZ Q => σZ[0]? = some (some (.ref f)) ∧ HZ c' = some (CodeO c' q) ∧ tl E HZ Q))
    (hc : H c' = some (CodeO c' q)) (h : TTwO X.K X.mg tl H Q) :
    ∃ t, PSs (wordCxO X ["_law_call", "_law_found", "e"] sg g cdg s H) [.Assign [.Name "_law_found" p1] (.Constant (.str "") j p2) p3, .Try [.Expr (.Call (.Name "_law_call" p4) [] [] p5) p6] (h0 :: hs) [] [] p7, .Return (some (.Name "_law_found" p8)) p9] t ∧ t { nx := fun _ H' => Q .non H', rt := Q } (L2.start ["_law_call", "_law_found", "e"] [.ref f]) H := by
  refine ⟨_, pss_cons (ps_set (X := wordCxO X ["_law_call", "_law_found", "e"] sg g cdg s H) (i := 1) S.nd rfl (.inl hl) pe_str rfl (.inr hl))
    (pss_cons (ps_try_mix (X := wordCxO X ["_law_call", "_law_found", "e"] sg g cdg s H)
      (tb := fun W D σ H' => ∃ (Ec : XK) (Kq : VK), (∀ cls d σ' H2, Ec cls d H2 → σ'.length = 3 → W cls d σ' H2) ∧ (∀ v H2, Kq v H2 → D.nx σ H2) ∧ σ[0]? = some (some (.ref f)) ∧ H' c' = some (CodeO c' q) ∧ tl Ec H' Kq)
      rfl rfl L2.takes0 (fun W pn xe tk _ => ?_) hh) (pss_one (ps_ret (pe_var (i := 1) rfl (.inl hl))))), ?_⟩
  · refine ⟨fun pins s' σ H' D I h' => ?_⟩
    obtain ⟨Ec, Kq, hW, hK, h1, h2, h3⟩ := h'
    have tk2 : Takes ((cxOf C8.CX0 X.prog X.w X.K X.mg X.base ["_law_call", "_law_found", "e"] "_law_word" sg g cdg X.A X.stack s H C8.E0).tr pn xe) (fun cls d σ H => σ.length = 3 → W cls d σ H) := fun u s1 ⟨a, B, sI, pi, σ1, H1, cls, d, e, I1, nb, up, sky, na, os, ag, w⟩ =>
      tk u s1 ⟨a, B, sI, pi, σ1, H1, cls, d, e, I1, nb, up, sky, na, os, ag, w I1.len⟩
    have hp := act _ pn xe Ec p4 p5 tk2 (fun cls d σ' H2 z l => hW cls d σ' H2 z l)
    exact (pss_one (ps_expr (pos := p6) (pe_weak hp))).run pins s' σ H' D I ⟨Kq, hK, h1, h2, h3⟩
  · refine ⟨fun cls d H' => ∃ ms' x z, wordOfO x = some z ∧ RpX X.mg H' ms' cls d x ∧ Q (.str z) H', fun _ H' => Q (.str "") H', fun cls d σ' H2 ⟨ms', x, z, e1, e2, e3⟩ hlen => word_mixO hX e1 e2 hlen fun σ2 e => ⟨.str z, e, e3⟩, fun v H2 q => ⟨.str "", rfl, q⟩, rfl, hc, h⟩
end
/-- what ev says of _law_word(lambda: e) -/
theorem s_wordO {X : Cx} {mg : Str → Option Value} {E : XK} {Γ : Fns} {g c P : Addr} {fd : FuncData} {pg : Arguments} {bg : List Stmt} {sg : Scope} {k : Nat} {lsc : Scope} {params : Arguments} {body : Expr} {ib : IE} {p lpos pos : Pos} {Ng : List Str}
    (hmg : X.mg = mg) (hg : Gl X "_law_word") (hm : X.mg "_law_word" = some (.ref g)) (F : FunD X.K "_law_word" "_law_word" pg bg sg [] [] g fd) (hb : Binds X.K fd ["_law_call"] []) (Sg : FnScope Ng ["_law_call"] sg) (hNg : Ng[0]? = some ("_law_call" : Str)) (hva : Vis sg "_law_call")
    (hG : ∀ cdv : Value, GivesTo X Ng "_law_word" sg g cdv bg "_law_call" (X.env.qual ++ "<lambda>") (TTwO X.K X.mg))
    (TB : TabB X.base X.mg c P) (hcode : X.env.code = .ref c) (hmT : (P, X.env.qual ++ "<lambda>") ∈ tabsOf X.K) (hu : ∀ p ∈ tabsOf X.K, p.1 = P → p.2 = X.env.qual ++ "<lambda>") (hr : Room (k + 2) X.A) (L : LamS X.env.scope lsc) (hdef : defaultsOf params X.env = ([], []))
    (hbind : ∀ (q : Str) (cl : List (Str × Addr)) (pm cv ctv : Value), bindArgs (PySem.W.kla_fn "<lambda>" q params body lsc cl pm cv ctv) ⟨[], []⟩ = pure [])
    (hbody : ∀ (A : Around) (outer : List PySem.Env) (s : Shared) (H : Hp) (E : XK) (f c' : Addr), Room k (A.deeper (lamEnv X lsc s.heap.objs.size f c')) → SE (lamCx X A outer s H E lsc f c') mg E Γ body ib) :
    SE X mg E Γ (.Call (.Name "_law_word" p) [.Lambda params body lsc lpos] [] pos) (.wordO ib) := by
  subst hmg
  obtain ⟨oc, od, dV, kV, doc, pm, an, cdv, ct, osl, rfl, lk, hcd, _, _⟩ := F.ex
  refine pe_imp (pe_lamcall (T := tabsOf X.K) (TT := TTwO X.K X.mg) (t := fun E' => tE X.K X.mg E' Γ ib) hg hm F.kp lk hcd hb Sg hNg hva (hG cdv) TB hcode hmT hu hr L hdef hbind hbody) ?_
  rintro σ H Q ⟨ms, ρ, S, he, hs, hp⟩
  refine ⟨by rw [← he.tb]; exact hs.tabs, fun H1 eN T1 => ?_⟩
  -- the heap behind the making of the lambda
  have e1 : Ext ms H ms H1 := ⟨List.prefix_refl _, rfl, rfl, KdE.refl _, fun b o _ nt q => eN b o q nt, fun b o nt q => ⟨o, nt, eN b o q nt⟩, fun b h => .inl h⟩
  have s1 : RpS H1 ms S := by
    refine hs.ext e1 (fun a ha => ?_) (by rw [he.tb]; exact T1)
    obtain ⟨o, nt, _, q1⟩ := hs.at_ ha
    rw [q1]; exact eN a _ q1 nt
  refine ⟨ms, ρ, S, he.ext e1, s1, ?_⟩
  have hp' : PostG X.mg E ms H (fun w ms' H' => ∀ v, RpW X.K H' ms' v w → Q v H') (wordMO (ev Γ ib ρ) S) := by
    have e2 : ev Γ (.wordO ib) ρ = wordMO (ev Γ ib ρ) := by simp only [ev]
    rw [← e2]; exact hp
  unfold wordMO at hp'
  cases e : ev Γ ib ρ S with
  | none => rw [e] at hp'; exact hp'
  | some r =>
    rw [e] at hp'
    cases r with
    | ok w S1 => exact fun ms' H' x1 x2 v hv => hp' ms' H' (e1.trans x1) x2 _ (.d (.str _))
    | ex x S1 =>
      dsimp only at hp'
      cases ez : wordOfO x with
      | none => rw [ez] at hp'; exact hp'.elim
      | some z =>
        rw [ez] at hp'
        exact fun ms' H' cls d x1 x2 x3 => ⟨ms', x, z, ez, x3, hp' ms' H' (e1.trans x1) x2 _ (.d (.str _))⟩
section
open LamX
variable {P : Program} {w : World} {K : PySem.W.Frag} {mg : Str → Option Value} {base : Heap} {Γ : Fns}
/-- _law_word(lambda: e) within such a def -/
theorem s_wordLO {X : Cx} {mg : Str → Option Value} {E : XK} {Γ : Fns} {g : Addr} {fd : FuncData} {pg : Arguments} {bg : List Stmt} {sg : Scope} {k : Nat} {lsc : Scope} {params : Arguments} {body : Expr} {ib : IE} {p lpos pos : Pos} (x : Str) (hmg : X.mg = mg) (LK : LamK X.K X.base X.mg) (hx : x ∈ lamHere X.K)
    (hq : X.env.qual = x ++ ".<locals>.") (hcode : X.env.code = .ref (He.codeOf X.K (x, none))) (hg : Gl X "_law_word") (hm : X.mg "_law_word" = some (.ref g)) (F : FunD X.K "_law_word" "_law_word" pg bg sg [] [] g fd) (hb : Binds X.K fd ["_law_call"] []) (Sg : FnScope ["_law_call", "_law_found", "e"] ["_law_call"] sg) (hva : Vis sg "_law_call")
    (hG : ∀ (cdv : Value) (q : Str), GivesTo X ["_law_call", "_law_found", "e"] "_law_word" sg g cdv bg "_law_call" q (TTwO X.K X.mg)) (hr : Room (k + 2) X.A) (L : lamSB X.env.scope lsc = true) (hdef : defaultsOf params X.env = ([], []))
    (hbind : ∀ (q : Str) (cl : List (Str × Addr)) (pm cv ctv : Value), bindArgs (PySem.W.kla_fn "<lambda>" q params body lsc cl pm cv ctv) ⟨[], []⟩ = pure [])
    (hbody : ∀ (A : Around) (outer : List PySem.Env) (s : Shared) (H : Hp) (E : XK) (f c' : Addr), Room k (A.deeper (lamEnv X lsc s.heap.objs.size f c')) → SE (lamCx X A outer s H E lsc f c') mg E Γ body ib) :
    SE X mg E Γ (.Call (.Name "_law_word" p) [.Lambda params body lsc lpos] [] pos) (.wordO ib) := by
  have hmem : ((He.cT X.K (x, none)).2, X.env.qual ++ "<lambda>") ∈ tabsOf X.K := by
    rw [hq]; exact List.mem_map.mpr ⟨x, hx, rfl⟩
  refine s_wordO (c := (He.cT X.K (x, none)).1) hmg hg hm F hb Sg rfl hva (fun cdv => hG cdv _) (LK.tb x hx) hcode hmem (fun q hq2 e => ?_) hr (lamS_by L) hdef hbind hbody
  obtain ⟨y, hy, rfl⟩ := List.mem_map.mp hq2
  have := nodup_key (α := Nat) LK.nd hy hx e
  rw [this, hq]
end
theorem s_wordQO {P : Program} {w : World} {K : PySem.W.Frag} {mg : Str → Option Value} {base : Heap} {N : List Str} {scope : Scope} {A : Around} {outer : List PySem.Env} {s : Shared} {H : Hp} {E : XK} {x : Str} {Γ : Fns} {g : Addr} {fd : FuncData} {pg : Arguments} {bg : List Stmt} {sg : Scope} {k : Nat} {lsc : Scope} {params : Arguments} {body : Expr} {ib : IE} {p lpos pos : Pos} (LK : LamK K base mg) (hx : x ∈ lamHere K)
    (hg : scope.names.lookup ("_law_word" : Str) = some .globalImplicit) (hm : mg "_law_word" = some (.ref g)) (F : FunD K "_law_word" "_law_word" pg bg sg [] [] g fd) (hb : Binds K fd ["_law_call"] []) (Sg : FnScope ["_law_call", "_law_found", "e"] ["_law_call"] sg) (hva : Vis sg "_law_call")
    (hgd : A.guards = some []) (hun : A.units + 500 < cLine) (hG : ∀ (X : Cx) (_ : X.K = K) (_ : X.mg = mg) (_ : X.A.guards = some []) (_ : X.A.units + 400 < cLine) (cdv : Value) (q : Str), GivesTo X ["_law_call", "_law_found", "e"] "_law_word" sg g cdv bg "_law_call" q (TTwO X.K X.mg)) (hr : Room (k + 2) (A.deeper (envOfC x scope s.heap.objs.size (He.ga K x) (.ref (He.codeOf K (x, none)))))) (L : lamSB scope lsc = true) (hdef : params = (⟨[], [], none, [], [], none, []⟩ : Arguments))
    (hbody : ∀ (A1 : Around) (o1 : List PySem.Env) (s1 : Shared) (H1 : Hp) (E1 : XK) (f c' : Addr), Passes (L2.CX P w) (lamCx (cxOf (L2.CX P w) P w K mg base N x scope (He.ga K x) (.ref (He.codeOf K (x, none))) A outer s H E) A1 o1 s1 H1 E1 lsc f c') E1 → Room k (A1.deeper (lamEnv (cxOf (L2.CX P w) P w K mg base N x scope (He.ga K x) (.ref (He.codeOf K (x, none))) A outer s H E) lsc s1.heap.objs.size f c')) → SE (lamCx (cxOf (L2.CX P w) P w K mg base N x scope (He.ga K x) (.ref (He.codeOf K (x, none))) A outer s H E) A1 o1 s1 H1 E1 lsc f c') mg E1 Γ body ib) :
    SE (cxOf (L2.CX P w) P w K mg base N x scope (He.ga K x) (.ref (He.codeOf K (x, none))) A outer s H E) mg E Γ (.Call (.Name "_law_word" p) [.Lambda params body lsc lpos] [] pos) (.wordO ib) := by
  subst hdef
  exact s_wordLO x rfl LK hx rfl rfl hg hm F hb Sg hva (fun cdv q => hG _ rfl rfl hgd (by show A.units + 3 + 400 < cLine; omega) cdv q) hr L rfl (fun _ _ _ _ _ => rfl) (fun A1 o1 s1 H1 E1 f c' hr => hbody A1 o1 s1 H1 E1 f c' pxL hr)
end Qv

/-! Snd26 -/
set_option maxHeartbeats 0
/-! The law's def at the caller's own place: nothing is being shown there. -/
namespace Qv
open PySem PySem.Spec PyProof.Rows L2 LamX
/-- what a def does, called by the caller of the law -/
structure RunC (P : Program) (w : World) (K : PySem.W.Frag) (mg : Str → Option Value) (base : Heap) (CX : CXT) (f : Addr) (fd : FuncData) (ps : List Str) (sp : Sp) : Prop where
  len : ∀ vs H Q E, sp vs H Q E → vs.length = ps.length
  run : ∀ (outer : List PySem.Env) (s : Shared) (H : Hp) (args : Args) (us : List Value) (vs : List V) (Q : VK) (E : XK), Env0 P w K mg base callerA outer s H → BindsTo s fd args (ps.zip us) → Vals vs us → sp vs H Q E →
    codeAny (model P w) callerA (.call (.ref f) args) (CR CX outer P w H s Q E) s
theorem RunC.imp {P : Program} {w : World} {K : PySem.W.Frag} {mg : Str → Option Value} {base : Heap} {CX : CXT} {f : Addr} {fd : FuncData} {ps : List Str} {sp sp' : Sp} (F : RunC P w K mg base CX f fd ps sp) (h : ∀ vs H Q E, sp' vs H Q E → sp vs H Q E0) (hc : CX = L2.CX P w) : RunC P w K mg base CX0 f fd ps sp' where
  len := fun vs H Q E q => F.len vs H Q E0 (h _ _ _ _ q)
  run := fun outer s H args us vs Q E e b v q => codeAny_mono (F.run outer s H args us vs Q E0 e b v (h _ _ _ _ q)) fun r s' z => by
    subst hc
    cases r with
    | ok fl => cases fl <;> exact z
    | error e =>
      obtain ⟨_, _, _, _, _, _, _, _, _, _, _, _, z⟩ := z
      exact z.elim
theorem roomC {k : Nat} (hr : Room (k + 1) callerA) (env : PySem.Env) : Room k (callerA.deeper env) := hr.deeper env
/-- a def: its body -/
theorem run_c {P : Program} {w : World} {K : PySem.W.Frag} {mg : Str → Option Value} {base : Heap} {CX : CXT} {k : Nat} {f : Addr} {name qual : Str} {params : Arguments} {body : List Stmt} {scope : Scope} {dV kV doc pm cdv ct oc : Value} {an od : Option Addr} {osl : Array (Option Value)} {N ps : List Str} {sp : Sp}
    (hr : Room (k + 1) callerA) (lk : K.lookup f = some ⟨oc, od, .func (PySem.W.fnOf name qual params body scope dV kV doc pm an cdv ct), osl⟩) (hcd : PySem.W.codeIn K cdv qual = true) (S : FnScope N ps scope) (hlen : ∀ vs H Q E, sp vs H Q E → vs.length = ps.length)
    (hb : ∀ (outer : List PySem.Env) (s : Shared) (H : Hp) (vs : List V) (Q : VK) (E : XK), sp vs H Q E → ∃ t, PSs (cxOf CX P w K mg base N qual scope f cdv callerA outer s H E) body t ∧ t { nx := fun _ H' => Q .non H', rt := Q } (L2.start N vs) H) :
    RunC P w K mg base CX f (PySem.W.fnOf name qual params body scope dV kV doc pm an cdv ct) ps sp := by
  constructor
  · exact hlen
  intro outer s H args us vs Q E e0 bind r hsp
  have old : ∀ b o, base.get? b = some o → s.heap.get? b = some o := fun b o e => (e0.bs b o e).1
  have inK : K.In s.heap := e0.mod.kin.keeps old
  have free := e0.mod.nolimit.keeps old
  have kinds : ∀ y ∈ ps.zip us, scope.names.lookup y.1 = some .local ∨ (scope.names.lookup y.1 = some .cell ∧ ((cellsFrom (s.heap.objs.size + 1) scope.names []).lookup y.1).isSome = true) := by
    rintro ⟨n, v⟩ hy
    refine (S.par n (List.of_mem_zip hy).1).imp id fun q => ⟨q, PySem.W.cellsFrom_some _ _ _ (.inl q)⟩
  refine codeAny_call_function hr.depth (inK _ _ lk) rfl S.co S.gen rfl (PySem.W.codeRec_of inK hcd) (bind _ _ _ _ ?_)
  refine wpAny_newFunctionEnv_cells S.kind kinds fun env he s1 x => ?_
  subst he
  refine ⟨free.keeps x.toInCall.keep, codeAny_func ?_⟩
  obtain ⟨t, ht, hq⟩ := hb outer s H vs Q E hsp
  have I : Inv (cxOf CX P w K mg base N qual scope f cdv callerA outer s H E) [] (L2.start N vs) H s1 := inv_start S hr.hd e0 (hlen _ _ _ _ hsp) r x
  have fin : ∀ {σ' : L2.St} {H' : Hp} {v : V} {u : Value} {s' : Shared}, Inv (cxOf CX P w K mg base N qual scope f cdv callerA outer s H E) [] σ' H' s' → RelV v u → Q v H' → CE outer P w H s Q u s' := by
    intro σ' H' v u s' J rv q
    exact ⟨v, H', J.os, J.bare, J.base, J.hok, rv, q⟩
  refine wpAny_mono (ht.run [] s1 (L2.start N vs) H _ I hq) (fun fl s' hs => ?_) fun e s' hs => hs
  cases fl with
  | next =>
    obtain ⟨σ', H', J, q⟩ := hs
    exact fin (v := .non) (u := .none) J rfl q
  | ret u =>
    obtain ⟨v, σ', H', J, rv, q⟩ := hs
    exact fin J rv q
  | brk =>
    obtain ⟨_, _, _, q⟩ := hs
    cases q
  | cont =>
    obtain ⟨_, _, _, q⟩ := hs
    cases q
/-- a def of the text that makes functions -/
theorem def_okG {P : Program} {w : World} {K : PySem.W.Frag} {mg : Str → Option Value} {base : Heap} {Γ : Fns} {x : Str} {params : Arguments} {body : List Stmt} {scope : Scope} {fd : FuncData} {N ps : List Str} {k n pn : Nat} {ib : ISs} (hr0 : Room (k + 1) callerA) (F : FunD K x x params body scope [] [] (He.ga K x) fd) (S : FnScope N ps scope) (hn : N.length = n) (hp : ps.length = pn)
    (hb : ∀ (outer : List PySem.Env) (s : Shared) (H : Hp) (E : XK), Room k (callerA.deeper (envOfC x scope s.heap.objs.size (He.ga K x) (.ref (He.codeOf K (x, none))))) → SSs (cxOf (L2.CX P w) P w K mg base N x scope (He.ga K x) (.ref (He.codeOf K (x, none))) callerA outer s H E) mg E Γ body ib) :
    RunC P w K mg base (L2.CX P w) (He.ga K x) fd ps (spF K mg (fdef Γ pn n ib) pn) := by
  subst hn hp
  obtain ⟨oc, od, dV, kV, doc, pm, an, cdv, ct, osl, rfl, lk, hcd, _, _⟩ := F.ex
  obtain ⟨c, rfl⟩ := He.codeIn_ref hcd
  have ec : He.codeOf K (x, none) = c := He.codeOf_eq (p := (x, none)) lk rfl
  rw [ec] at hb
  refine run_c hr0 lk hcd S (fun vs H Q E h => h.1) (fun outer s H vs Q E h => ⟨tSs K mg E Γ ib, hb outer s H E (hr0.deeper _), ?_⟩)
  obtain ⟨hl, ms, ws, St, htb, r, hv, hq⟩ := h
  have hpl : ps.length ≤ N.length := by have := congrArg List.length S.pre; rw [List.length_take] at this; omega
  have hw : ws.length = ps.length := by rw [← hv.len]; exact hl
  unfold fdef at hq
  rw [if_pos hw] at hq
  refine ⟨ms, Qv.start N.length ws, St, rpE_start htb hv N.length (by omega), r, PostG.part (f := outW) hq fun o S1 ms1 H1 _ e1 r1 h1 => ?_⟩
  cases o with
  | nx ρ' => exact fun σ' _ => h1.ret r1 _ (.d .non)
  | ret w => exact h1 ms1 H1 (Ext.refl _ _) r1
  | bk ρ' => exact h1.elim
  | ct ρ' => exact h1.elim
section
variable {P : Program} {w : World} {K : PySem.W.Frag} {mg mb : Str → Option Value} {CX : CXT} {fa a : Addr} {cs : List (Addr × Addr)} {fd : FuncData} {x : Str} {sp : Sp} {s₁ : Shared} {vs : List Value} {ns : List Int}
/-- what is tracked as the law begins: the script, where K does not tell it, and the tables -/
def seenAt (K : PySem.W.Frag) (a : Addr) (cs : List (Addr × Addr)) (vs : List Value) (ns : List Int) : Hp := fun b =>
  if b = a ∧ K.lookup a = none then some (.frz { cls := .type "list", data := .seq vs.toArray } (.lst (ns.map V.int))) else if b ∈ cs.map (·.2) then some (.tbl #[]) else none
theorem seen_cases {b : Addr} {u : HO} (h : seenAt K a cs vs ns b = some u) : (b = a ∧ K.lookup a = none ∧ u = .frz { cls := .type "list", data := .seq vs.toArray } (.lst (ns.map V.int))) ∨ (b ∈ cs.map (·.2) ∧ u = .tbl #[]) := by
  unfold seenAt at h
  split at h
  · rename_i c; exact .inl ⟨c.1, c.2, (Option.some.inj h).symm⟩
  · split at h
    · rename_i c; exact .inr ⟨c, (Option.some.inj h).symm⟩
    · cases h
theorem law_callG (KX : K.In s₁.heap) (hns : s₁.heap.Ns mainGlobals mg) (hb : s₁.heap.Ns builtinsNs mb) (hbb : ∀ y : Str, y ≠ "__name__" → mb y = bootBuiltins y) (hlim : s₁.heap.NoLimit) (hg : s₁.gens = #[])
    (hT : ∀ p ∈ cs, s₁.heap.get? p.2 = some { cls := .none, data := .fields #[] }) (nT : ∀ p ∈ cs, K.lookup p.2 = none) (C : ∀ p ∈ cs, PySem.W.CodeHd s₁.heap p.1 p.2)
    (hbm : ∃ (bm : Addr) (ob : Obj), mg "__builtins__" = some (.ref bm) ∧ bm ≠ builtinsNs ∧ s₁.heap.get? bm = some ob ∧ ob.cls = .type "module" ∧ ob.dict = some builtinsNs ∧ ob.data = .plain)
    (ha : s₁.heap.get? a = some { cls := .type "list", data := .seq vs.toArray }) (hi : IntsAre vs ns) (hl : ns.length ≤ sizeLine)
    (hF : ∀ base : Heap, K.In base → base.Ns mainGlobals mg → (∀ p ∈ cs, TabB base mg p.1 p.2) → RunC P w K mg base CX fa fd [x] sp) (hbind : ∀ (s : Shared) (u : Value), BindsTo s fd ⟨[u], []⟩ [(x, u)])
    (hsp : ∀ H : Hp, (∀ p ∈ cs, H p.2 = some (.tbl #[])) → SqL K H a (ns.map V.int) → sp [.ref a] H (fun v _ => v = .bl true) fun _ _ _ => False) (hCX : ∀ H e s', CX [] H s₁ (fun _ _ _ => False) e s' → False) :
    codeAny (model P w) callerA (.call (.ref fa) ⟨[.ref a], []⟩) (fun r s' => r = .ok (.ret (.bool true)) ∧ OldK s₁.heap s'.heap ∧ s'.os = s₁.os ∧ AllBare s'.gens) s₁ := by
  have vals := vals_ints hi
  have len := hi.length
  have tab : ∀ {b : Addr}, b ∈ cs.map (·.2) → s₁.heap.get? b = some { cls := .none, data := .fields #[] } := by
    intro b hb
    obtain ⟨p, hp, rfl⟩ := List.mem_map.mp hb
    exact hT p hp
  have aT : a ∉ cs.map (·.2) := by
    intro z
    have q := (tab z).symm.trans ha
    have := congrArg Obj.data (Option.some.inj q)
    cases this
  let H : Hp := seenAt K a cs vs ns
  have cases' : ∀ {b : Addr} {u : HO}, H b = some u → (b = a ∧ K.lookup a = none ∧ u = .frz { cls := .type "list", data := .seq vs.toArray } (.lst (ns.map V.int))) ∨ (b ∈ cs.map (·.2) ∧ u = .tbl #[]) := fun h => seen_cases h
  have hH : ∀ p ∈ cs, H p.2 = some (.tbl #[]) := by
    intro p hp
    have hm : p.2 ∈ cs.map (·.2) := List.mem_map.mpr ⟨p, hp, rfl⟩
    exact (if_neg fun z => aT (by rw [← z.1]; exact hm)).trans (if_pos hm)
  have hok : HOk P w H s₁.heap := by
    intro b u h
    rcases cases' h with ⟨rfl, _, rfl⟩ | ⟨hb, rfl⟩
    · exact ⟨ha, by rw [List.length_map]; exact hl, vs, _, vals, ha⟩
    · exact tab hb
  have hS : SqL K H a (ns.map V.int) := by
    cases hk : K.lookup a with
    | none => exact .inl (.inr ⟨{ cls := .type "list", data := .seq vs.toArray }, if_pos ⟨rfl, hk⟩⟩)
    | some o =>
      have e := KX a o hk
      rw [ha] at e
      cases e
      exact .inr ⟨_, vs.toArray, _, hk, rfl, rfl, rfl, by rw [List.size_toArray, len]; exact hl, by simpa using vals⟩
  -- what is not tracked
  have plain : ∀ {b : Addr} {o : Obj}, s₁.heap.get? b = some o → (∀ us n, o.data ≠ .seq us n) → o.data ≠ .fields #[] → H b = none := by
    intro b o e h1 h2
    cases q : H b with
    | none => rfl
    | some u =>
      exfalso
      rcases cases' q with ⟨rfl, _, _⟩ | ⟨hb, _⟩
      · rw [ha] at e; cases e; exact h1 _ _ rfl
      · rw [tab hb] at e; cases e; exact h2 rfl
  have low : ∀ {b : Addr} {o : Obj}, s₁.heap.get? b = some o → H b = none → (hidT s₁.heap H).get? b = some o := fun e n => hidT_get e n
  have spaces : ∀ {b : Addr} {m : Str → Option Value}, s₁.heap.Ns b m → (hidT s₁.heap H).Ns b m := by
    rintro b m ⟨o, es, ep, e, d, r⟩
    refine ⟨o, es, ep, low e (plain e (fun us n z => ?_) fun z => ?_), d, r⟩ <;> (rw [d] at z; cases z)
  have inK : K.In (hidT s₁.heap H) := by
    intro b o e
    refine low (KX b o e) ?_
    cases q : H b with
    | none => rfl
    | some u =>
      exfalso
      rcases cases' q with ⟨rfl, hk, _⟩ | ⟨hb, _⟩
      · rw [hk] at e; cases e
      · obtain ⟨p, hp, rfl⟩ := List.mem_map.mp hb
        rw [nT p hp] at e; cases e
  have md : L2.Mod K mg (hidT s₁.heap H) := ⟨inK, spaces hns, ⟨mb, spaces hb, hbb⟩, hlim.elim fun mc z => ⟨mc, spaces z.1, z.2⟩⟩
  have tabs : ∀ p ∈ cs, TabB (hidT s₁.heap H) mg p.1 p.2 := by
    intro p hp
    have t0 := hT p hp
    refine ⟨?_, ?_, fun z => ?_⟩
    · obtain ⟨o, us, file, tf, flags, tg, inF, text, tt, e1, r1, r2, r3, r⟩ := C p hp
      refine ⟨o, us, file, tf, flags, tg, inF, text, tt, low e1 (plain e1 (fun vs n z => ?_) fun z => ?_), r1, r2, r3, r⟩ <;> (rw [r2] at z; cases z)
      simp at r3
    · obtain ⟨bm, ob, b1, b2, b3, b4, b5, b6⟩ := hbm
      refine ⟨bm, ob, b1, b2, fun q => ?_, fun q => ?_, low b3 (plain b3 (fun vs n z => ?_) fun z => ?_), b4, b5, b6⟩
      · obtain ⟨o, es, ep, e, d, _⟩ := hns
        subst q
        rw [e] at b3; cases b3
        rw [d] at b6; cases b6
      · subst q
        rw [t0] at b3; cases b3; cases b6
      · rw [b6] at z; cases z
      · rw [b6] at z; cases z
    · obtain ⟨o, es, ep, e, d, _⟩ := hns
      rw [z, t0] at e; cases e; cases d
  have e0 : Env0 P w K mg (hidT s₁.heap H) callerA [] s₁ H := ⟨rfl, md, fun b o e => of_hidT e, Nat.le_of_eq (hidT_size _ _), trivial, fun b z => absurd (show b ∈ ([] : List Addr) from z) (by simp), hok, .of_eq hg⟩
  refine codeAny_mono ((hF _ inK (spaces hns) tabs).run [] s₁ H ⟨[.ref a], []⟩ [.ref a] [.ref a] _ _ e0 (hbind s₁ (.ref a)) (.cons rfl .nil) (hsp H hH hS)) fun r s' h => ?_
  match r, h with
  | .error e, h => exact (hCX H e s' h).elim
  | .ok .next, h => exact h.elim
  | .ok .brk, h => exact h.elim
  | .ok .cont, h => exact h.elim
  | .ok (.ret u), ⟨v, H', os, bare, un, hok', rv, q⟩ =>
    have q : v = .bl true := q
    subst q
    obtain rfl : u = Value.bool true := rv
    have stays : ∀ {b : Addr} {o : Obj}, b ∉ cs.map (·.2) → s₁.heap.get? b = some o → s'.heap.get? b = some o := by
      intro b o nb e
      cases q : H b with
      | none => exact un.keep b o e q (fun z => absurd (show b ∈ ([] : List Addr) from z) (by simp)) (by simp)
      | some u =>
        rcases cases' q with ⟨_, _, rfl⟩ | ⟨hb, _⟩
        · have h1 := (hok b _ q).1
          have h2 := (hok' b _ (un.frzs b _ _ q)).1
          rw [e] at h1; cases h1
          exact h2
        · exact absurd hb nb
    have more : ∀ p ∈ cs, ∃ ps : Array Value, s'.heap.get? p.2 = some { cls := .none, data := .fields ps } := by
      intro p hp
      obtain ⟨ps, z⟩ := un.tbls p.2 #[] (hH p hp)
      exact ⟨_, hok' p.2 _ z⟩
    refine ⟨rfl, ⟨fun b o e => ?_, fun b o e => ?_⟩, os, bare⟩
    · by_cases hb : b ∈ cs.map (·.2)
      · obtain ⟨p, hp, rfl⟩ := List.mem_map.mp hb
        obtain ⟨ps, hm⟩ := more p hp
        have t0 := hT p hp
        rw [t0] at e
        cases e
        exact .inr (.inl ⟨((C p hp).tab t0).isCodeTable, rfl, #[], ps, rfl, by rw [Array.empty_append]; exact hm⟩)
      · exact .inl (stays hb e)
    · by_cases hb : b ∈ cs.map (·.2)
      · obtain ⟨p, hp, rfl⟩ := List.mem_map.mp hb
        obtain ⟨ps, hm⟩ := more p hp
        exact ⟨_, hm⟩
      · exact ⟨o, stays hb e⟩
end
/-- what is known of the law's def as the head ends -/
def LawAtG (l : PySem.W.OpenLaw) (w : World) (K : PySem.W.Frag) (n : Nat) (x : Str) (mg : Str → Option Value) (fa : Addr) (h : Heap) : Prop :=
  ∃ (fd : FuncData) (cs : List (Addr × Addr)) (sp : Sp), ((∀ p ∈ cs, h.get? p.2 = some { cls := .none, data := .fields #[] }) ∧ (∀ p ∈ cs, K.lookup p.2 = none) ∧ ∀ p ∈ cs, PySem.W.CodeHd h p.1 p.2) ∧ (∀ (s : Shared) (u : Value), BindsTo s fd ⟨[u], []⟩ [(x, u)]) ∧
    (∀ (H : Hp) (a : Addr) (ns : List Int), ns.length ≤ n → (∀ p ∈ cs, H p.2 = some (.tbl #[])) → SqL K H a (ns.map V.int) → sp [.ref a] H (fun v _ => v = .bl true) fun _ _ _ => False) ∧
    ∀ base : Heap, K.In base → base.Ns mainGlobals mg → (∀ p ∈ cs, TabB base mg p.1 p.2) → RunC l.prog w K mg base CX0 fa fd [x] sp
theorem walk_G {l : PySem.W.OpenLaw} {n : Nat} {q : Program} {loose : List Str} {XP : (Str → Option Value) → Heap → Prop} {YP : World → Heap → Prop} {d : DefRec} {x : Str} (hn : l.most = some n) (hn2 : n ≤ sizeLine) (hdf : d.params.defaults = [])
    (F : ∀ (w : World) (mg : Str → Option Value) (fa : Addr) (h : Heap), YP w h → h.Ns mainGlobals mg → mg d.name = some (.ref fa) → ∃ K : PySem.W.Frag, K.In h ∧ LawAtG l w K n x mg fa h) :
    PySem.W.WalkO q loose XP YP l.row.toRowW d [] (fun f vs => PySem.call f vs) := by
  refine Att.attach_callB hn hdf fun w s₀ s₁ mg mb fa o pm cd doc a vs ns G Y ho hd hcd hmg hobj hints hlen hbits hg => ?_
  obtain ⟨K, KX, fd, cs, sp, ⟨t1, t2, t3⟩, bnd, prm, run⟩ := F w mg fa _ Y G.T.g hmg
  exact law_callG KX G.T.g G.T.b G.T.builtins G.T.nolimit hg t1 t2 t3 G.T.bmain hobj hints (Nat.le_trans hlen hn2) run bnd (fun H h1 h2 => prm H a ns hlen h1 h2) fun _ _ _ z => z
/-- the end: what the law's def answers -/
theorem law_endG {l : PySem.W.OpenLaw} {w : World} {K : PySem.W.Frag} {mg : Str → Option Value} {h : Heap} {fa : List He.Fa} {fn : List He.DefD} {ts : List He.Tab} {ex : PySem.W.Frag → Bool} {f : Addr} {fd : FuncData} {ns : List Str} (L : List He.Defn) (KX : K.In h) (c : He.SaysX fa fn ts L ex w h K) (hl : lamHere K = ns)
    (nd : decide (((lamHere K).map fun x => (He.cT K (x, none)).2).Nodup) = true) (eL : L = ns.map fun x => (x, none)) (hb : ∀ (s : Shared) (u : Value), BindsTo s fd ⟨[u], []⟩ [("_law_script", u)])
    (hF : ∀ base : Heap, LamK K base mg → RunC l.prog w K mg base CX0 f fd ["_law_script"] (spLaw K)) : ∃ K : PySem.W.Frag, K.In h ∧ LawAtG l w K 63 "_law_script" mg f h := by
  have inL : ∀ p ∈ (lamHere K).map (fun x => He.cT K (x, none)), ∃ q ∈ L, p = He.cT K q := fun p hp => by
    obtain ⟨x, hx, rfl⟩ := List.mem_map.mp hp
    exact ⟨(x, none), by rw [eL, ← hl]; exact List.mem_map.mpr ⟨x, hx, rfl⟩, rfl⟩
  refine ⟨K, KX, fd, (lamHere K).map (fun x => He.cT K (x, none)), spLaw K, ⟨fun p hp => ?_, fun p hp => ?_, fun p hp => ?_⟩, hb, fun H a ns hn hT hS => ⟨a, ns, rfl, hn, hS, fun p hp => ?_, fun _ => rfl⟩, fun base _ _ hT => hF base ⟨fun x hx => hT _ (List.mem_map.mpr ⟨x, hx, rfl⟩), of_decide_eq_true nd⟩⟩
  · obtain ⟨q, hq, rfl⟩ := inL p hp; exact c.empty q hq
  · obtain ⟨q, hq, rfl⟩ := inL p hp; exact c.out q hq
  · obtain ⟨q, hq, rfl⟩ := inL p hp; exact PySem.W.codeHd_of_K KX (c.hd q hq)
  · obtain ⟨x, hx, rfl⟩ := List.mem_map.mp hp
    exact LamX.TabS.nil (hT _ (List.mem_map.mpr ⟨x, hx, rfl⟩))
end Qv

/-! Snd27 -/
set_option maxHeartbeats 0
/-! Texts: split, join, int, str, a sign, a part, a sign within. -/
namespace Qv
open PySem PySem.Spec PyProof.Rows L2
theorem ev_pr2 {Γ : Fns} {q : Prim} {ia ib : IE} {ρ : Env} {S : Sto} : ev Γ (.pr q (.cons ia (.cons ib .nil))) ρ S = ((ev Γ ia ρ).bnd fun w => (ev Γ ib ρ).bnd fun w2 => (look w).bnd fun x => (look w2).bnd fun y => (M.opt (prim q [x, y])).bnd fun d => M.ret (W.d d)) S := by
  show ((((ev Γ ia ρ).bnd fun w => ((ev Γ ib ρ).bnd fun w2 => (M.ret ([] : List W)).bnd fun ws => M.ret (w2 :: ws)).bnd fun ws => M.ret (w :: ws))).bnd fun ws => (looks ws).bnd fun ds => (M.opt (prim q ds)).bnd fun d => M.ret (W.d d)) S = _
  unfold M.bnd
  cases k : ev Γ ia ρ S with
  | none => rfl
  | some r =>
    cases r with
    | ex x S1 => rfl
    | ok w S1 =>
      dsimp only [M.ret]
      cases k2 : ev Γ ib ρ S1 with
      | none => rfl
      | some r2 =>
        cases r2 with
        | ex x S2 => rfl
        | ok w2 S2 =>
          dsimp only
          unfold looks look M.bnd
          dsimp only
          cases w.get S2 with
          | none => rfl
          | some x =>
            dsimp only
            unfold looks look M.bnd
            dsimp only
            cases w2.get S2 with
            | none => rfl
            | some y => rfl
section
variable {X : Cx} {mg : Str → Option Value} {E : XK} {Γ : Fns} {a b : Expr} {ia ib : IE} {p pos : Pos}
theorem pr2_read {q : Prim} {K : PySem.W.Frag} {σ : L2.St} {H : Hp} {Q : VK} (h : tE K mg E Γ (.pr q (.cons ia (.cons ib .nil))) σ H Q) :
    tE K mg E Γ ia σ H fun x H1 => tE K mg E Γ ib σ H1 fun y H2 => ∃ (ms : Cells) (S : Sto) (dx dy d : PyData), RpS H2 ms S ∧ Rv H2 ms x dx ∧ Rv H2 ms y dy ∧ prim q [dx, dy] = some d ∧ Fin E mg ms H2 S Q d := by
  obtain ⟨ms, ρ, S, he, hs, hp⟩ := h
  rw [ev_pr2] at hp
  refine ⟨ms, ρ, S, he, hs, hp.part fun wa S1 ms1 H1 _ e1 r1 h1 va hva => ?_⟩
  refine ⟨ms1, ρ, S1, he.ext e1, r1, h1.part fun wb S2 ms2 H2 _ e2 r2 h2 vb hvb => ?_⟩
  obtain ⟨dx, g1, h3⟩ := h2.look
  obtain ⟨dy, g2, h4⟩ := h3.look
  obtain ⟨d, g3, h5⟩ := h4.opt
  exact ⟨ms2, S2, dx, dy, d, r2, (hva.ext e2).get r2 g1, hvb.get r2 g2, g3, Fin.of h5⟩
theorem tE_imp {K : PySem.W.Frag} {σ : L2.St} {H : Hp} {Q Q' : VK} (h : tE K mg E Γ ia σ H Q) (hi : ∀ v H', Q v H' → Q' v H') : tE K mg E Γ ia σ H Q' := by
  obtain ⟨ms, ρ, S, he, hs, hp⟩ := h
  exact ⟨ms, ρ, S, he, hs, hp.imp fun w ms' H' _ k v hv => hi _ _ (k v hv)⟩
theorem pr1_read {q : Prim} {K : PySem.W.Frag} {σ : L2.St} {H : Hp} {Q : VK} (h : tE K mg E Γ (.pr q (.cons ia .nil)) σ H Q) :
    tE K mg E Γ ia σ H fun x H1 => ∃ (ms : Cells) (S : Sto) (dx d : PyData), RpS H1 ms S ∧ Rv H1 ms x dx ∧ prim q [dx] = some d ∧ Fin E mg ms H1 S Q d := by
  obtain ⟨ms, ρ, S, he, hs, hp⟩ := h
  rw [ev_pr1] at hp
  refine ⟨ms, ρ, S, he, hs, hp.part fun wa S1 ms1 H1 _ e1 r1 h1 va hva => ?_⟩
  obtain ⟨dx, g1, h3⟩ := h1.look
  obtain ⟨d, g3, h5⟩ := h3.opt
  exact ⟨ms1, S1, dx, d, r1, hva.get r1 g1, g3, Fin.of h5⟩
theorem cst_int {K : PySem.W.Frag} {σ : L2.St} {H : Hp} {Q : VK} {i : Int} (h : tE K mg E Γ (.cst (.int i)) σ H Q) : Q (.int i) H := by
  obtain ⟨ms, ρ, S, he, hs, hp⟩ := h
  exact PostG.ret hs hp _ (.d (.int i))
theorem cst_str {K : PySem.W.Frag} {σ : L2.St} {H : Hp} {Q : VK} {z : Str} (h : tE K mg E Γ (.cst (.str z)) σ H Q) : Q (.str z) H := by
  obtain ⟨ms, ρ, S, he, hs, hp⟩ := h
  exact PostG.ret hs hp _ (.d (.str z))
theorem str_inj {H : Hp} {ms : Cells} {z : Str} {d : PyData} (h : Rv H ms (.str z) d) : d = .str z := by
  rcases h with h | ⟨a, xs, ds, e1, _⟩
  · cases h; rfl
  · cases e1
theorem int_inj {H : Hp} {ms : Cells} {z : Int} {d : PyData} (h : Rv H ms (.int z) d) : d = .int z := by
  rcases h with h | ⟨a, xs, ds, e1, _⟩
  · cases h; rfl
  · cases e1
theorem take_all {z : Str} (h : z.length ≤ 10000) : (⟨(z.cps.toList.take (10000 : Int).toNat).toArray⟩ : Str) = z := by
  have e : z.cps.toList.take (10000 : Int).toNat = z.cps.toList := List.take_of_length_le (by rw [Array.length_toList]; exact h)
  rw [e]
/-- a text, not too long -/
abbrev gz (ia : IE) : IE := .pr .sto (.cons ia (.cons (.cst (.int 10000)) .nil))
theorem gz_read {K : PySem.W.Frag} {σ : L2.St} {H : Hp} {Q : VK} (h : tE K mg E Γ (gz ia) σ H Q) : tE K mg E Γ ia σ H fun x H1 => ∃ z, x = .str z ∧ z.length ≤ 10000 ∧ Q (.str z) H1 := by
  refine tE_imp (pr2_read h) fun v H1 q => ?_
  obtain ⟨ms, S, dx, dy, d, r, hx, hy, hd, hf⟩ := cst_int q
  cases int_inj hy
  cases dx with
  | str z =>
    have hd : pSto [.str z, .int 10000] = some d := hd
    simp only [pSto] at hd
    split at hd
    · rename_i hb
      cases hd
      have := hx.str
      subst this
      refine ⟨z, rfl, hb.2, ?_⟩
      have f := hf.now r (.str _)
      rwa [take_all hb.2] at f
    · cases hd
  | _ => cases hd
/-- z[i] -/
theorem s_ixS (ha : SE X mg E Γ a ia) (hb : SE X mg E Γ b ib) (hs : PlainIx b := by intro _ _; rfl) : SE X mg E Γ (.Subscript a b pos) (.pr .six (.cons (gz ia) (.cons ib .nil))) := by
  refine pe_imp (pe_ix ix_str ha hb hs) fun σ H Q h => ?_
  refine tE_imp (gz_read (pr2_read h)) fun v H1 q => ?_
  obtain ⟨z, rfl, hz, q⟩ := q
  refine tE_imp q fun v H2 q => ?_
  obtain ⟨ms, S, dx, dy, d, r, hx, hy, hd, hf⟩ := q
  cases str_inj hx
  cases dy with
  | int i =>
    have hd : pSix [.str z, .int i] = some d := hd
    simp only [pSix] at hd
    split at hd
    · rename_i c hc
      cases hd
      have := hy.int
      subst this
      exact ⟨z, i, c, rfl, rfl, Nat.le_trans hz (by rw [← line_eq]; decide), by rw [atL_eq]; exact hc, hf.now r (.str _)⟩
    · cases hd
  | _ => cases hd
/-- len(z) -/
theorem s_lenS (hg : Gl X "len") (hm : X.mg "len" = none) (ha : SE X mg E Γ a ia) (h1 : starEach [a] X.env = (false, eval a X.env) :: starEach [] X.env := by rfl) : SE X mg E Γ (.Call (.Name "len" p) [a] [] pos) (.pr .slen (.cons (gz ia) .nil)) := by
  refine pe_imp (pe_callB call_len_str hg hm (by decide +kernel) (pa_cons ha pa_nil h1) (by decide) (by decide) h1) fun σ H Q h => ?_
  refine tE_imp (gz_read (pr1_read h)) fun v H1 q => ?_
  obtain ⟨z, rfl, hz, q⟩ := q
  obtain ⟨ms, S, dx, d, r, hx, hd, hf⟩ := q
  cases str_inj hx
  cases hd
  exact ⟨z, rfl, Nat.le_trans hz (by rw [← line_eq]; decide), hf.now r (.int _)⟩
/-- int(z) -/
theorem s_intS (hg : Gl X "int") (hm : X.mg "int" = none) (ha : SE X mg E Γ a ia) (h1 : starEach [a] X.env = (false, eval a X.env) :: starEach [] X.env := by rfl) : SE X mg E Γ (.Call (.Name "int" p) [a] [] pos) (.pr .sint (.cons ia .nil)) := by
  refine pe_imp (pe_callTy call_int_str hg hm (by decide +kernel) (pa_cons ha pa_nil h1) (by decide) (by decide) h1) fun σ H Q h => ?_
  refine tE_imp (pr1_read h) fun v H1 q => ?_
  obtain ⟨ms, S, dx, d, r, hx, hd, hf⟩ := q
  cases dx with
  | str z =>
    have hd : pIntS [.str z] = some d := hd
    have := hx.str
    subst this
    simp only [pIntS] at hd
    split at hd
    · rename_i hl
      split at hd
      · rename_i n hn
        cases hd
        exact ⟨z, n, rfl, hn, hl, hf.now r (.int _)⟩
      · cases hd
    · cases hd
  | _ => cases hd
/-- str(i) -/
theorem s_strI (hg : Gl X "str") (hm : X.mg "str" = none) (ha : SE X mg E Γ a ia) (h1 : starEach [a] X.env = (false, eval a X.env) :: starEach [] X.env := by rfl) : SE X mg E Γ (.Call (.Name "str" p) [a] [] pos) (.pr .str (.cons ia .nil)) := by
  refine pe_imp (pe_callTy call_str_int hg hm (by decide +kernel) (pa_cons ha pa_nil h1) (by decide) (by decide) h1) fun σ H Q h => ?_
  refine tE_imp (pr1_read h) fun v H1 q => ?_
  obtain ⟨ms, S, dx, d, r, hx, hd, hf⟩ := q
  cases dx with
  | int z =>
    have hd : pStr [.int z] = some d := hd
    have := hx.int
    subst this
    simp only [pStr] at hd
    split at hd
    · rename_i hl
      cases hd
      exact ⟨z, rfl, (small_text hl).1, hf.now r (.str _)⟩
    · cases hd
  | _ => cases hd
theorem rps_strs {H : Hp} {ms : Cells} : ∀ ys : List Str, Rps H ms (ys.map V.str) (ys.map .str)
  | [] => .nil
  | y :: ys => .cons (.str y) (rps_strs ys)
theorem strs_rps {H : Hp} {ms : Cells} : ∀ {xs : List V} {ds : List PyData} {ys : List Str}, Rps H ms xs ds → strsOf ds = some ys → xs = ys.map V.str
  | _, _, ys, .nil, e => by cases e; rfl
  | _, _, ys, .cons (d := d) a t, e => by
    cases d with
    | str z =>
      simp only [strsOf] at e
      split at e
      · cases e
      · rename_i l hl
        cases e
        cases a
        rw [strs_rps t hl]; rfl
    | _ => cases e
/-- " ".join(list) -/
theorem s_join {z : Str} {j : Nat} {apos q : Pos} (hb : SE X mg E Γ b ib) (hs : starEach [b] X.env = [(false, eval b X.env)] := by rfl) (hbase : attributeBase (.Constant (.str z) j q) "join" X.env (eval (.Constant (.str z) j q) X.env) = eval (.Constant (.str z) j q) X.env := by rfl) (hline : (apos.endLine == pos.line) = true := by rfl) :
    SE X mg E Γ (.Call (.Attribute (.Constant (.str z) j q) "join" apos) [b] [] pos) (.pr .join (.cons (.cst (.str z)) (.cons ib .nil))) := by
  refine pe_imp (pe_join pe_str hb hs hbase hline) fun σ H Q h => ?_
  have h := cst_str (pr2_read h)
  refine ⟨⟨z, rfl⟩, tE_imp h fun v H1 q => ?_⟩
  obtain ⟨ms, S, dx, dy, d, r, hx, hy, hd, hf⟩ := q
  cases str_inj hx
  cases dy with
  | list ds =>
    have hd : pJoin [.str z, .list ds] = some d := hd
    simp only [pJoin] at hd
    obtain ⟨p, xs, rfl, k1, k2, k3⟩ := hy.lst
    split at hd
    · rename_i ys hys
      split at hd
      · rename_i hl
        cases hd
        have e := strs_rps k3 hys
        subst e
        exact ⟨z, p, ys, rfl, rfl, .inl (SqL.of k1), by omega, hf.now r (.str _)⟩
      · cases hd
    · cases hd
  | _ => cases hd
/-- z.split(" ") -/
theorem s_split {z : Str} {j : Nat} {apos q : Pos} (ha : SE X mg E Γ a ia) (hs : starEach [.Constant (.str z) j q] X.env = [(false, eval (.Constant (.str z) j q) X.env)] := by rfl) (hbase : attributeBase a "split" X.env (eval a X.env) = eval a X.env := by rfl) (hline : (apos.endLine == pos.line) = true := by rfl) :
    SE X mg E Γ (.Call (.Attribute a "split" apos) [.Constant (.str z) j q] [] pos) (.pr .split (.cons ia (.cons (.cst (.str z)) .nil))) := by
  refine pe_imp (pe_split ha pe_str hs hbase hline) fun σ H Q h => ?_
  refine tE_imp (pr2_read h) fun v H1 q => ?_
  obtain ⟨ms, S, dx, dy, d, r, hx, hy, hd, hf⟩ := cst_str q
  cases str_inj hy
  cases dx with
  | str y =>
    have hd : pSplit [.str y, .str z] = some d := hd
    simp only [pSplit] at hd
    split at hd
    · rename_i hb
      cases hd
      have := hx.str
      subst this
      have hl : y.length + 2 ≤ line := Nat.le_trans (Nat.add_le_add_right hb.2 2) (by decide)
      refine ⟨⟨y, rfl⟩, y, z, rfl, rfl, hb.1, by rw [← line_eq]; exact hl, fun p hp => ?_⟩
      exact hf.newL r (by rw [List.length_map]; exact Nat.le_trans (PyProof.Rows.split_le y z) hl) (rps_strs _) hp
    · cases hd
  | _ => cases hd
/-- the same: the new list is a cell -/
theorem s_mkSplit {z : Str} {j : Nat} {apos q : Pos} (ha : SE X mg E Γ a ia) (hs : starEach [.Constant (.str z) j q] X.env = [(false, eval (.Constant (.str z) j q) X.env)] := by rfl) (hbase : attributeBase a "split" X.env (eval a X.env) = eval a X.env := by rfl) (hline : (apos.endLine == pos.line) = true := by rfl) :
    SE X mg E Γ (.Call (.Attribute a "split" apos) [.Constant (.str z) j q] [] pos) (.mk (.pr .split (.cons ia (.cons (.cst (.str z)) .nil)))) := by
  refine pe_imp (pe_split ha pe_str hs hbase hline) ?_
  rintro σ H Q ⟨ms, ρ, S, he, hs, hp⟩
  have e : ev Γ (.mk (.pr .split (.cons ia (.cons (.cst (.str z)) .nil)))) ρ S = ((ev Γ ia ρ).bnd fun w => (look w).bnd fun x => (M.opt (prim .split [x, .str z])).bnd fun d => ownM (W.d d)) S := by
    have e1 : ev Γ (.mk (.pr .split (.cons ia (.cons (.cst (.str z)) .nil)))) ρ S = ((ev Γ (.pr .split (.cons ia (.cons (.cst (.str z)) .nil))) ρ).bnd ownM) S := by simp only [ev]
    rw [e1]
    unfold M.bnd
    rw [ev_pr2]
    unfold M.bnd
    cases ev Γ ia ρ S with
    | none => rfl
    | some r =>
      cases r with
      | ex x S1 => rfl
      | ok w S1 =>
        have e2 : ev Γ (.cst (.str z)) ρ S1 = some (.ok (.d (.str z)) S1) := by simp only [ev]; rfl
        dsimp only
        rw [e2]
        dsimp only
        have e3 : look (W.d (.str z)) S1 = some (.ok (.str z) S1) := rfl
        unfold look at e3 ⊢
        try dsimp only
        cases w.get S1 with
        | none => rfl
        | some x =>
          dsimp only
          simp only [W.get]
          cases prim .split [x, .str z] <;> rfl
  rw [e] at hp
  refine ⟨ms, ρ, S, he, hs, hp.part fun w S1 ms1 H1 _ e1 r1 h3 v hv => ?_⟩
  obtain ⟨dx, hx, h4⟩ := h3.look
  obtain ⟨d, hd, h5⟩ := h4.opt
  have rv := hv.get r1 hx
  cases dx with
  | str y =>
    have hd : pSplit [.str y, .str z] = some d := hd
    simp only [pSplit] at hd
    split at hd
    · rename_i hb
      cases hd
      have := rv.str
      subst this
      have hl : y.length + 2 ≤ line := Nat.le_trans (Nat.add_le_add_right hb.2 2) (by decide)
      refine ⟨⟨y, rfl⟩, y, z, rfl, rfl, hb.1, by rw [← line_eq]; exact hl, fun p hp => ?_⟩
      obtain ⟨x1, x2⟩ := r1.more hp (by rw [List.length_map]; exact Nat.le_trans (PyProof.Rows.split_le y z) hl) (rps_strs (Txt.split y z))
      exact h5 _ _ x1 x2 _ (.m (by show (ms1.ix ++ [p])[S1.length]? = _; rw [← r1.len, List.getElem?_append_right (Nat.le_refl _), Nat.sub_self]; rfl) (r1.plain fun z => r1.notin hp (.inl z)))
    · cases hd
  | _ => cases hd
theorem cutS_to {z : Str} {i : Int} (h : 0 ≤ i) : cutS z none (some i) = ⟨(z.cps.toList.take i.toNat).toArray⟩ := by
  unfold cutS
  have e1 : HT.sIx z.length 0 none = 0 := rfl
  have e2 : HT.sIx z.length z.length (some i) = min i.toNat z.length := by
    have := clipS_eq z.length z.length (some i)
    unfold clipS at this
    dsimp only at this
    rw [if_neg (by omega)] at this
    omega
  rw [e1, e2, List.drop_zero, Nat.sub_zero]
  congr 2
  rw [List.take_eq_take_iff, Array.length_toList]
  show min (min i.toNat z.cps.size) z.cps.size = _
  omega
theorem cutS_from {z : Str} {i : Int} (h : 0 ≤ i) : cutS z (some i) none = ⟨(z.cps.toList.drop i.toNat).toArray⟩ := by
  unfold cutS
  have e1 : HT.sIx z.length z.length none = z.length := rfl
  have e2 : HT.sIx z.length 0 (some i) = min i.toNat z.length := by
    have := clipS_eq z.length 0 (some i)
    unfold clipS at this
    dsimp only at this
    rw [if_neg (by omega)] at this
    omega
  rw [e1, e2]
  have el : z.cps.toList.length = z.length := Array.length_toList
  congr 2
  by_cases c : i.toNat ≤ z.length
  · rw [Nat.min_eq_left c, List.take_of_length_le (by rw [List.length_drop, el]; exact Nat.le_refl _)]
  · rw [Nat.min_eq_right (by omega), Nat.sub_self, List.take_zero, List.drop_of_length_le (by rw [el]; omega)]
/-- z[:i] -/
theorem s_sto {p2 : Pos} (ha : SE X mg E Γ a ia) (hb : SE X mg E Γ b ib) : SE X mg E Γ (.Subscript a (.Slice none (some b) none p2) pos) (.pr .sto (.cons ia (.cons ib .nil))) := by
  refine pe_imp (pe_slice sl_str ha po_none (po_some hb)) fun σ H Q h => ?_
  refine tE_imp (pr2_read h) fun v H1 q => tE_imp q fun y H2 q => ?_
  obtain ⟨ms, S, dx, dy, d, r, hx, hy, hd, hf⟩ := q
  cases dx with
  | str z =>
    cases dy with
    | int i =>
      have hd : pSto [.str z, .int i] = some d := hd
      simp only [pSto] at hd
      split at hd
      · rename_i hb
        cases hd
        have := hx.str
        subst this
        have := hy.int
        subst this
        exact ⟨i, rfl, z, rfl, Nat.le_trans hb.2 (by rw [← line_eq]; decide), by rw [cutS_to hb.1]; exact hf.now r (.str _)⟩
      · cases hd
    | _ => cases hd
  | _ => cases hd
/-- z[i:] -/
theorem s_sfrom {p2 : Pos} (ha : SE X mg E Γ a ia) (hb : SE X mg E Γ b ib) : SE X mg E Γ (.Subscript a (.Slice (some b) none none p2) pos) (.pr .sfrom (.cons ia (.cons ib .nil))) := by
  refine pe_imp (pe_slice sl_str ha (po_some hb) po_none) fun σ H Q h => ?_
  refine tE_imp (pr2_read h) fun v H1 q => tE_imp q fun y H2 q => ?_
  obtain ⟨ms, S, dx, dy, d, r, hx, hy, hd, hf⟩ := q
  cases dx with
  | str z =>
    cases dy with
    | int i =>
      have hd : pSfrom [.str z, .int i] = some d := hd
      simp only [pSfrom] at hd
      split at hd
      · rename_i hb
        cases hd
        have := hx.str
        subst this
        have := hy.int
        subst this
        exact ⟨i, rfl, z, rfl, Nat.le_trans hb.2 (by rw [← line_eq]; decide), by rw [cutS_from hb.1]; exact hf.now r (.str _)⟩
      · cases hd
    | _ => cases hd
  | _ => cases hd
theorem insub_read {H : Hp} {ms : Cells} {S : Sto} {x y : V} {dx dy d : PyData} {Q : VK} (r : RpS H ms S) (hx : Rv H ms x dx) (hy : Rv H ms y dy) (hd : prim .insub [dx, dy] = some d) :
    ∃ (c : Nat) (z : Str), x = .str ⟨#[c]⟩ ∧ y = .str z ∧ d = .bool (decide (c ∈ z.cps.toList)) := by
  cases dx with
  | str u =>
    cases dy with
    | str z =>
      have hd : pInsub [.str u, .str z] = some d := hd
      simp only [pInsub] at hd
      split at hd
      · rename_i k hk
        cases hd
        have := hx.str
        subst this
        have := hy.str
        subst this
        refine ⟨k, z, ?_, rfl, rfl⟩
        have : u = ⟨#[k]⟩ := by
          cases u with
          | mk cs =>
            have : cs = #[k] := by rw [← Array.toArray_toList (xs := cs)]; exact congrArg List.toArray hk
            rw [this]
        rw [this]
      · cases hd
    | _ => cases hd
  | _ => cases hd
/-- a sign in a text -/
theorem s_inS (ha : SE X mg E Γ a ia) (hb : SE X mg E Γ b ib) (hm : behindInMarks .In b = false := by first | exact nomark _ | rfl) : SE X mg E Γ (.Compare a [.In] [b] pos) (.pr .insub (.cons ia (.cons ib .nil))) := by
  refine pe_imp (pe_cmpR op_in_sign ha hb hm) fun σ H Q h => ?_
  refine tE_imp (pr2_read h) fun v H1 q => tE_imp q fun y H2 q => ?_
  obtain ⟨ms, S, dx, dy, d, r, hx, hy, hd, hf⟩ := q
  obtain ⟨c, z, rfl, rfl, rfl⟩ := insub_read (Q := Q) r hx hy hd
  exact ⟨c, z, rfl, rfl, hf.now r (.bl _)⟩
theorem st_inS (ha : SE X mg E Γ a ia) (hb : SE X mg E Γ b ib) (hm : behindInMarks .In b = false := by first | exact nomark _ | rfl) : ST X mg E Γ (.Compare a [.In] [b] pos) (.pr .insub (.cons ia (.cons ib .nil))) := by
  refine pt_imp (pt_cmpR op_in_sign ha hb hm) fun σ H Q h => ?_
  refine tE_imp (pr2_read (tT_of h)) fun v H1 q => tE_imp q fun y H2 q => ?_
  obtain ⟨ms, S, dx, dy, d, r, hx, hy, hd, hf⟩ := q
  obtain ⟨c, z, rfl, rfl, rfl⟩ := insub_read (Q := fun _ _ => True) r hx hy hd
  exact ⟨c, z, rfl, rfl, hf.now r (.bl _)⟩
theorem not_read {K : PySem.W.Frag} {σ : L2.St} {H : Hp} {Q : VK} (h : tE K mg E Γ (.not ia) σ H Q) : tE K mg E Γ ia σ H fun x H1 => ∃ t, x = .bl t ∧ Q (.bl !t) H1 := by
  obtain ⟨ms, ρ, S, he, hs, hp⟩ := h
  refine ⟨ms, ρ, S, he, hs, PostG.part (f := fun w => (asBool w).bnd fun t => M.ret (W.d (.bool (!t)))) hp fun w S1 ms1 H1 _ e1 r1 h1 v hv => ?_⟩
  obtain ⟨t, rfl, h2⟩ := h1.bool
  cases hv with
  | d hv => cases hv; exact ⟨t, rfl, (Fin.of h2).now r1 (.bl _)⟩
theorem st_ninS (ha : SE X mg E Γ a ia) (hb : SE X mg E Γ b ib) (hm : behindInMarks .NotIn b = false := by first | exact nomark _ | rfl) : ST X mg E Γ (.Compare a [.NotIn] [b] pos) (.not (.pr .insub (.cons ia (.cons ib .nil)))) := by
  refine pt_imp (pt_cmpR op_notIn_sign ha hb hm) fun σ H Q h => ?_
  refine tE_imp (pr2_read (not_read (tT_of h))) fun v H1 q => tE_imp q fun y H2 q => ?_
  obtain ⟨ms, S, dx, dy, d, r, hx, hy, hd, hf⟩ := q
  obtain ⟨c, z, rfl, rfl, rfl⟩ := insub_read (Q := fun _ _ => True) r hx hy hd
  refine ⟨c, z, rfl, rfl, ?_⟩
  obtain ⟨t, e, k⟩ := hf.now r (.bl _)
  cases e
  exact k
end
end Qv

/-! Snd28 -/
set_option maxHeartbeats 0
/-! The law's word for a call, told within a comprehension. -/
namespace Qv
open PySem PySem.Spec PyProof.Rows L2 LamX
abbrev cxW (P : Program) (w : World) (K : PySem.W.Frag) (mg : Str → Option Value) (base : Heap) (N : List Str) (scope : Scope) (A : Around) (outer : List PySem.Env) (s : Shared) (H : Hp) (E : XK) (x : Str) : Cx := cxOf (L2.CX P w) P w K mg base N x scope (He.ga K x) (.ref (He.codeOf K (x, none))) A outer s H E
abbrev blW (P : Program) (w : World) (K : PySem.W.Frag) (mg : Str → Option Value) (base : Heap) (N : List Str) (scope : Scope) (A : Around) (outer : List PySem.Env) (s : Shared) (H : Hp) (E : XK) (x : Str) (bsc : Scope) (s2 : Shared) (H2 : Hp) (C : Addr) (cl : List (Str × Addr)) (fp : List Addr) : Cx :=
  (cxW P w K mg base N scope A outer s H E x).blk s2 H2 bsc (compEnvC bsc cl C (cxW P w K mg base N scope A outer s H E x).env) fp
theorem s_wordB {P : Program} {w : World} {K : PySem.W.Frag} {mg : Str → Option Value} {base : Heap} {N : List Str} {scope : Scope} {A : Around} {outer : List PySem.Env} {s : Shared} {H : Hp} {E E2 : XK} {x : Str} {Γ : Fns} {g : Addr} {fd : FuncData} {pg : Arguments} {bg : List Stmt} {sg : Scope} {k : Nat} {lsc : Scope} {params : Arguments} {body : Expr} {ib : IE} {p lpos pos : Pos}
    {bsc : Scope} {s2 : Shared} {H2 : Hp} {C : Addr} {cl : List (Str × Addr)} {fp : List Addr} (LK : LamK K base mg) (hx : x ∈ lamHere K)
    (hg : Gl (blW P w K mg base N scope A outer s H E x bsc s2 H2 C cl fp) "_law_word") (hm : mg "_law_word" = some (.ref g)) (F : FunD K "_law_word" "_law_word" pg bg sg [] [] g fd) (hb : Binds K fd ["_law_call"] []) (Sg : FnScope ["_law_call", "_law_found", "e"] ["_law_call"] sg) (hva : Vis sg "_law_call")
    (hG : ∀ (X : Cx) (_ : X.K = K) (_ : X.mg = mg) (cdv : Value) (q : Str), GivesTo X ["_law_call", "_law_found", "e"] "_law_word" sg g cdv bg "_law_call" q (TTw X.K X.mg)) (hr : Room (k + 2) (A.deeper (envOfC x scope s.heap.objs.size (He.ga K x) (.ref (He.codeOf K (x, none)))))) (L : lamSB (blW P w K mg base N scope A outer s H E x bsc s2 H2 C cl fp).env.scope lsc = true) (hdef : params = (⟨[], [], none, [], [], none, []⟩ : Arguments))
    (hbody : ∀ (A1 : Around) (o1 : List PySem.Env) (s1 : Shared) (H1 : Hp) (E1 : XK) (f c' : Addr), Passes (L2.CX P w) (lamCx (blW P w K mg base N scope A outer s H E x bsc s2 H2 C cl fp) A1 o1 s1 H1 E1 lsc f c') E1 → Room k (A1.deeper (lamEnv (blW P w K mg base N scope A outer s H E x bsc s2 H2 C cl fp) lsc s1.heap.objs.size f c')) → SE (lamCx (blW P w K mg base N scope A outer s H E x bsc s2 H2 C cl fp) A1 o1 s1 H1 E1 lsc f c') mg E1 Γ body ib) :
    SE (blW P w K mg base N scope A outer s H E x bsc s2 H2 C cl fp) mg E2 Γ (.Call (.Name "_law_word" p) [.Lambda params body lsc lpos] [] pos) (.word ib) := by
  subst hdef
  exact s_wordL x rfl LK hx rfl rfl hg hm F hb Sg hva (fun cdv q => hG _ rfl rfl cdv q) hr L rfl (fun _ _ _ _ _ => rfl) (fun A1 o1 s1 H1 E1 f c' hr => hbody A1 o1 s1 H1 E1 f c' pxL hr)
end Qv

/-! Snd29 -/
set_option maxHeartbeats 0
/-! list(range(a, b)). -/
namespace Qv
open PySem PySem.Spec PyProof.Rows L2
section
variable {X : Cx} {mg : Str → Option Value} {E : XK} {Γ : Fns} {a b : Expr} {ia ib : IE} {p pos : Pos}
theorem s_lrng2 {p2 pos2 : Pos} (hc : X.calm = true) (hg : Gl X "list") (hm : X.mg "list" = none) (hg2 : Gl X "range") (hm2 : X.mg "range" = none) (ha : SE X mg E Γ a ia) (hb : SE X mg E Γ b ib) (na : starEach [a, b] X.env = (false, eval a X.env) :: starEach [b] X.env := by rfl) (nb : starEach [b] X.env = (false, eval b X.env) :: starEach [] X.env := by rfl) (hpl : (backTo pos2 (starEach [b] X.env)).any (·.1) = false := by rfl) :
    SE X mg E Γ (.Call (.Name "list" p) [.Call (.Name "range" p2) [a, b] [] pos2] [] pos) (.pr .rng2 (.cons ia (.cons ib .nil))) := by
  refine pe_imp (pe_listRg hc hg hm (prg_2 hg2 hm2 ha hb na nb hpl)) fun σ H Q h => ?_
  refine tE_imp (pr2_read h) fun v H1 q => tE_imp q fun y H2 q => ?_
  obtain ⟨ms, S, dx, dy, d, r, hx, hy, hd, hf⟩ := q
  cases dx with
  | int m =>
    cases dy with
    | int n =>
      have g2 : (if rngOk m n ∧ (n - m).toNat ≤ line then some (PyData.list (rngL m (n - m).toNat)) else none) = some d := hd
      split at g2 <;> cases g2
      rename_i hok
      exact ⟨m, n, hx.int, hy.int, rg_ok hok.1 hok.2, fun q hq => hf.newL r (rg_len hok.2) (rgV_rps m n) hq⟩
    | _ => cases hd
  | _ => cases hd
end
end Qv

/-! Snd30 -/
set_option maxHeartbeats 0
/-! a + b of lists: the new list is a cell. -/
namespace Qv
open PySem PySem.Spec PyProof.Rows L2
theorem bnd_as {α β γ : Type} (m : M α) (f : α → M β) (g : β → M γ) : (m.bnd f).bnd g = m.bnd fun x => (f x).bnd g := by
  funext s
  unfold M.bnd
  cases m s with
  | none => rfl
  | some r => cases r <;> rfl
theorem add_list {dx dy : PyData} {ds : List PyData} (h : bop .add dx dy = some (.list ds)) : ∃ a b, dx = .list a ∧ dy = .list b ∧ a.length + b.length ≤ line ∧ ds = a ++ b := by
  cases dx with
  | list a =>
    cases dy with
    | list b =>
      simp only [bop] at h
      by_cases c : a.length + b.length ≤ line
      · rw [if_pos c] at h; cases h; exact ⟨a, b, rfl, rfl, c, rfl⟩
      · rw [if_neg c] at h; cases h
    | _ => cases h
  | int i => cases dy <;> cases h
  | str i =>
    cases dy with
    | str j =>
      simp only [bop] at h
      split at h <;> cases h
    | _ => cases h
  | tuple i =>
    cases dy with
    | tuple j =>
      simp only [bop] at h
      split at h <;> cases h
    | _ => cases h
  | _ => cases h
section
variable {X : Cx} {mg : Str → Option Value} {E : XK} {Γ : Fns} {a b : Expr} {ia ib : IE} {p pos : Pos}
theorem s_mkAdd (ha : SE X mg E Γ a ia) (hb : SE X mg E Γ b ib) : SE X mg E Γ (.BinOp a .Add b pos) (.mk (.bin .add ia ib)) := by
  refine pe_imp (pe_op op_cat ha hb) ?_
  rintro σ H Q ⟨ms, ρ, S, he, hs, hp⟩
  have e : ev Γ (.mk (.bin .add ia ib)) ρ = (ev Γ ia ρ).bnd fun x => (ev Γ ib ρ).bnd fun y => (look x).bnd fun dx => (look y).bnd fun dy => (M.opt (bop .add dx dy)).bnd fun d => (M.ret (W.d d)).bnd ownM := by
    simp only [ev, bnd_as]
  rw [e] at hp
  refine ⟨ms, ρ, S, he, hs, hp.part fun wa S1 ms1 H1 _ e1 r1 h1 va hva => ?_⟩
  refine ⟨ms1, ρ, S1, he.ext e1, r1, h1.part fun wb S2 ms2 H2 _ e2 r2 h2 vb hvb => ?_⟩
  obtain ⟨dx, g1, h3⟩ := h2.look
  obtain ⟨dy, g2, h4⟩ := h3.look
  obtain ⟨d, g3, h5⟩ := h4.opt
  have hx := (hva.ext e2).get r2 g1
  have hy := hvb.get r2 g2
  have h5 : PostG mg E ms2 H2 (fun w ms' H' => ∀ v, RpW X.K H' ms' v w → Q v H') (ownM (W.d d) S2) := h5
  cases d with
  | list ds =>
    obtain ⟨a', b', rfl, rfl, hz, rfl⟩ := add_list g3
    obtain ⟨p, xs, rfl, k1, k2, k3⟩ := hx.lst
    obtain ⟨q, ys, rfl, l1, l2, l3⟩ := hy.lst
    have hl : xs.length + ys.length ≤ line := by rw [k3.len, l3.len]; exact hz
    refine ⟨p, q, xs, ys, rfl, rfl, k1, l1, by rw [← line_eq]; exact hl, fun n hn => ?_⟩
    obtain ⟨x1, x2⟩ := r2.more hn (by rw [List.length_append]; exact hl) (k3.app l3)
    exact h5 _ _ x1 x2 _ (.m (by show (ms2.ix ++ [n])[S2.length]? = _; rw [← r2.len, List.getElem?_append_right (Nat.le_refl _), Nat.sub_self]; rfl) (r2.plain fun z => r2.notin hn (.inl z)))
  | _ => exact h5.elim
end
end Qv

/-! Snd31 -/
set_option maxHeartbeats 0
/-! Dicts whose keys are tuples of ints: cells of another kind. -/
namespace Qv
open PySem PySem.Spec PyProof.Rows L2

theorem intsOf_ints : ∀ ns : List Int, intsOf (ns.map .int) = some ns
  | [] => rfl
  | n :: ns => by
    show (match intsOf (ns.map .int) with | none => none | some l => some (n :: l)) = _
    rw [intsOf_ints ns]
theorem intsOf_inv : ∀ {ds : List PyData} {ns : List Int}, intsOf ds = some ns → ds = ns.map .int
  | [], ns, h => by cases h; rfl
  | .int i :: r, ns, h => by
    have h : (match intsOf r with | none => none | some l => some (i :: l)) = some ns := h
    cases e : intsOf r with
    | none => rw [e] at h; cases h
    | some l => rw [e] at h; cases h; rw [intsOf_inv e]; rfl
  | .none :: r, ns, h => by cases h
  | .bool _ :: r, ns, h => by cases h
  | .str _ :: r, ns, h => by cases h
  | .list _ :: r, ns, h => by cases h
  | .tuple _ :: r, ns, h => by cases h
theorem inl_inj : ∀ {ns ms : List Int}, ns.map (Sum.inl : Int → L2.Key) = ms.map Sum.inl → ns = ms
  | [], [], _ => rfl
  | [], _ :: _, h => by cases h
  | _ :: _, [], h => by cases h
  | n :: ns, m :: ms, h => by
    rw [List.map_cons, List.map_cons] at h
    injection h with h1 h2
    injection h1 with h3
    rw [h3, inl_inj h2]
theorem dval_dent (ns ms : List Int) (d : PyData) (r : List PyData) : dval (dent ns d :: r) ms = if ns = ms then some d else dval r ms := by
  show (if intsOf (ns.map .int) = some ms then some d else dval r ms) = _
  rw [intsOf_ints]
  by_cases h : ns = ms
  · rw [if_pos h, if_pos (by rw [h])]
  · rw [if_neg h, if_neg (fun z => h (Option.some.inj z))]
theorem drep_dent (ns ms : List Int) (d y : PyData) (r : List PyData) : drep ms y (dent ns d :: r) = (if ns = ms then dent ms y else dent ns d) :: drep ms y r := by
  show (if intsOf (ns.map .int) = some ms then dent ms y else dent ns d) :: drep ms y r = _
  rw [intsOf_ints]
  by_cases h : ns = ms
  · rw [if_pos h, if_pos (by rw [h])]
  · rw [if_neg h, if_neg (fun z => h (Option.some.inj z))]
theorem DRl.len {H : Hp} {ms : Cells} : ∀ {kvs : List (List L2.Key × V)} {ds : List PyData}, DRl H ms kvs ds → kvs.length = ds.length
  | _, _, .nil => rfl
  | _, _, .cons _ r => by rw [List.length_cons, List.length_cons, r.len]
/-- reading -/
theorem DRl.val {H : Hp} {ms : Cells} (ns : List Int) : ∀ {kvs : List (List L2.Key × V)} {ds : List PyData}, DRl H ms kvs ds →
    (valV kvs (ns.map Sum.inl) = none ∧ dval ds ns = none) ∨ ∃ v d, valV kvs (ns.map Sum.inl) = some v ∧ dval ds ns = some d ∧ Rp H ms v d
  | _, _, .nil => .inl ⟨rfl, rfl⟩
  | _, _, .cons (ns := ks) (v := v) (d := d) (kvs := kvs) (ds := ds) a r => by
    rw [dval_dent]
    by_cases h : ks = ns
    · rw [if_pos h, valV_pos (p := (ks.map Sum.inl, v)) (by rw [h])]
      exact .inr ⟨v, d, rfl, rfl, a⟩
    · rw [if_neg h, valV_neg (p := (ks.map Sum.inl, v)) (fun z => h (inl_inj z))]
      exact r.val ns
theorem DRl.rep {H : Hp} {ms : Cells} {ns : List Int} {v : V} {y : PyData} (hy : Rp H ms v y) : ∀ {kvs : List (List L2.Key × V)} {ds : List PyData}, DRl H ms kvs ds →
    DRl H ms (kvs.map fun kv => if kv.1 = ns.map Sum.inl then (kv.1, v) else kv) (drep ns y ds)
  | _, _, .nil => .nil
  | _, _, .cons (ns := ks) (v := u) (d := d) (kvs := kvs) (ds := ds) a r => by
    rw [drep_dent, List.map_cons]
    by_cases h : ks = ns
    · subst h
      rw [if_pos rfl, if_pos rfl]
      exact .cons hy (r.rep hy)
    · rw [if_neg h, if_neg (fun z => h (inl_inj z))]
      exact .cons a (r.rep hy)
theorem DRl.snoc {H : Hp} {ms : Cells} {ns : List Int} {v : V} {y : PyData} (hy : Rp H ms v y) : ∀ {kvs : List (List L2.Key × V)} {ds : List PyData}, DRl H ms kvs ds →
    DRl H ms (kvs ++ [(ns.map Sum.inl, v)]) (ds ++ [dent ns y])
  | _, _, .nil => .cons hy .nil
  | _, _, .cons a r => .cons a (r.snoc hy)
/-- writing -/
theorem DRl.put {H : Hp} {ms : Cells} {ns : List Int} {v : V} {y : PyData} {kvs : List (List L2.Key × V)} {ds : List PyData} (r : DRl H ms kvs ds) (hy : Rp H ms v y) :
    DRl H ms (putK kvs (ns.map Sum.inl) v) (dputL ds ns y) := by
  unfold putK dputL
  rw [valV_any]
  rcases r.val ns with ⟨h1, h2⟩ | ⟨u, d, h1, h2, _⟩
  · rw [h1, h2]; exact r.snoc hy
  · rw [h1, h2]; exact r.rep hy

/-- a new dict -/
def Cells.moreK (ms : Cells) (p : Addr) (κ : Knd) : Cells := ⟨ms.ix ++ [p], ms.hid, ms.tb, (p, κ) :: ms.kd⟩
theorem RpS.moreK {H : Hp} {ms : Cells} {S : Sto} (r : RpS H ms S) {p : Addr} (hp : H p = none) {H' : Hp} (hk : ∀ b o, H b = some o → H' b = some o) {κ : Knd} {ds : List PyData}
    (ko : Ext ms H (ms.moreK p κ) H' → KO κ H' (ms.moreK p κ) p ds) : Ext ms H (ms.moreK p κ) H' ∧ RpS H' (ms.moreK p κ) (S ++ [ds]) := by
  have np := r.notin hp
  have pl : ms.plain p := r.plain fun z => np (.inl z)
  have kd : KdE ms (ms.moreK p κ) := ⟨fun q h => List.mem_cons_of_mem _ h, fun a ha h κ' z => by
    rcases List.mem_cons.mp z with z | z
    · cases z; exact np (.inl ha)
    · exact h κ' z⟩
  have e : Ext ms H (ms.moreK p κ) H' := ⟨List.prefix_append _ _, rfl, rfl, kd, fun b u _ _ q => hk b u q, fun b u nt q => ⟨u, nt, hk b u q⟩, fun b hb => by
    rcases List.mem_append.mp hb with h | h
    · exact .inl h
    · have : b = p := by simpa using h
      subst this; exact .inr fun o _ z => by rw [hp] at z; cases z⟩
  refine ⟨e, by show (ms.ix ++ [p]).length = _; rw [List.length_append, List.length_append, r.len]; rfl, ?_, fun b hb => ?_, fun k a ds' h1 h2 => ?_, r.tabs.ext fun b u q => hk b u q, fun q hq => ?_⟩
  · refine List.nodup_append.mpr ⟨r.nd, by simp, fun a ha b hb => ?_⟩
    have : b = p := by simpa using hb
    subst this
    intro q; subst q; exact np (.inl ha)
  · obtain ⟨g1, o, g0, g2⟩ := r.hd b hb
    refine ⟨fun z => ?_, e.stay b o g0 g2⟩
    rcases List.mem_append.mp z with z | z
    · exact g1 z
    · have : b = p := by simpa using z
      subst this
      exact np (.inr hb)
  · have h1 : (ms.ix ++ [p])[k]? = some a := h1
    by_cases hk' : k < ms.ix.length
    · rw [List.getElem?_append_left hk'] at h1
      rw [List.getElem?_append_left (by rw [← r.len]; exact hk')] at h2
      have ha := List.mem_of_getElem? h1
      have hap : a ≠ p := fun z => by subst z; exact np (.inl ha)
      obtain ⟨o, _, _, q1⟩ := r.at_ ha
      have hH : H' a = H a := by rw [q1]; exact hk a o q1
      obtain ⟨c1, c2⟩ := r.cells k a ds' h1 h2
      refine ⟨fun hpl => ?_, fun κ' hκ => ?_⟩
      · obtain ⟨vs, w1, w2, w3⟩ := c1 fun κ' z => hpl κ' (List.mem_cons_of_mem _ z)
        exact ⟨vs, hH.trans w1, w2, w3.ext e⟩
      · rcases List.mem_cons.mp hκ with z | z
        · cases z; exact absurd rfl hap
        · exact (c2 κ' z).tr e.tr hH
    · have hk2 : k = ms.ix.length := by
        have := (List.getElem?_eq_some_iff.mp h1).1
        rw [List.length_append] at this
        simp at this; omega
      subst hk2
      rw [List.getElem?_append_right (Nat.le_refl _), Nat.sub_self] at h1
      rw [r.len, List.getElem?_append_right (Nat.le_refl _), Nat.sub_self] at h2
      simp at h1 h2
      subst h1 h2
      refine ⟨fun hpl => absurd List.mem_cons_self (hpl κ), fun κ' hκ => ?_⟩
      rcases List.mem_cons.mp hκ with z | z
      · cases z; exact ko e
      · exact absurd z (pl κ')
  · rcases List.mem_cons.mp hq with z | z
    · subst z; exact List.mem_append_right _ List.mem_cons_self
    · exact List.mem_append_left _ (r.kin q z)
/-- a cell of a kind is written -/
theorem RpS.updK {H : Hp} {ms : Cells} {S : Sto} (r : RpS H ms S) {k : Nat} {a : Addr} (hk : ms.ix[k]? = some a) {κ : Knd} (hκ : (a, κ) ∈ ms.kd) {o u : HO} (ha : H a = some u) (no : NoTb o) (nu : ∀ ps, u ≠ .tbl ps) (nx : ∀ φ, u ≠ .ext φ) {ds : List PyData}
    (ko : Ext ms H ms (L2.upd H a o) → ∀ κ', (a, κ') ∈ ms.kd → KO κ' (L2.upd H a o) ms a ds) : Ext ms H ms (L2.upd H a o) ∧ RpS (L2.upd H a o) ms (S.set k ds) := by
  have hm : a ∈ ms.ix := List.mem_of_getElem? hk
  have e : Ext ms H ms (L2.upd H a o) := ⟨List.prefix_refl _, rfl, rfl, KdE.refl _, fun b u n _ q => by rw [upd_ne fun z => n (by rw [z]; exact hm)]; exact q, fun b u nt q => by
    by_cases z : b = a
    · subst z; exact ⟨_, no, upd_same⟩
    · exact ⟨u, nt, by rw [upd_ne z]; exact q⟩, fun b hb => .inl hb⟩
  have tb : LamX.Tabs ms.tb (L2.upd H a o) := fun p hp => by
    obtain ⟨ps, h1, h2, h3⟩ := r.tabs p hp
    refine ⟨ps, by rw [upd_ne fun z => by rw [z, ha] at h1; cases h1; exact nu _ rfl]; exact h1, h2, fun pos cv hc => ?_⟩
    obtain ⟨c, e1, e2⟩ := h3 pos cv hc
    exact ⟨c, e1, by rw [upd_ne fun z => by rw [z, ha] at e2; unfold LamX.CodeO at e2; cases e2; exact nx _ rfl]; exact e2⟩
  refine ⟨e, by rw [List.length_set]; exact r.len, r.nd, fun b hb => ?_, fun j c ds' h1 h2 => ?_, tb, r.kin⟩
  · obtain ⟨q1, u, q0, q2⟩ := r.hd b hb
    exact ⟨q1, e.stay b u q0 q2⟩
  · by_cases hj : k = j
    · subst hj
      rw [hk] at h1; cases h1
      have hl2 : k < S.length := by rw [← r.len]; exact (List.getElem?_eq_some_iff.mp hk).1
      rw [List.getElem?_set_self hl2] at h2
      cases h2
      exact ⟨fun hpl => absurd hκ (hpl κ), ko e⟩
    · rw [List.getElem?_set_ne hj] at h2
      have hne : c ≠ a := by
        rintro rfl
        have h3 := (List.getElem?_eq_some_iff.mp hk)
        have h4 := (List.getElem?_eq_some_iff.mp h1)
        exact hj ((List.getElem_inj r.nd).mp (h3.2.trans h4.2.symm))
      exact (r.cells j c ds' h1 h2).tr e.tr rfl (upd_ne hne)
section
variable {α β : Type} {mg : Str → Option Value} {E : XK} {ms : Cells} {H : Hp} {S : Sto} {Kk : β → Cells → Hp → Prop}
theorem PostG.dic {w : W} {f : Nat → M β} (h : PostG mg E ms H Kk ((asDic w).bnd f S)) : ∃ b, w = .c .dic b ∧ PostG mg E ms H Kk (f b S) := by
  cases w with
  | c κ k => cases κ with
    | dic => exact ⟨_, rfl, h⟩
    | ins c => exact h.elim
  | xo x => exact h.elim
  | xl x => exact h.elim
  | d x => exact h.elim
  | m k => exact h.elim
  | scr k => exact h.elim
  | f k => exact h.elim
end
section
variable {X : Cx} {mg : Str → Option Value} {E : XK} {Γ : Fns} {a b c e : Expr} {ia ib ic ie : IE} {pos p : Pos}
/-- {} -/
theorem s_dnew : SE X mg E Γ (.Dict [] [] pos) .dnew := pe_imp pe_dnewT fun σ H Q ⟨ms, ρ, S, he, hs, hp⟩ p np => by
  obtain ⟨x1, x2⟩ := hs.moreK np (H' := upd H p (.dT [])) (κ := .dic) (ds := []) (fun b o q => by rw [upd_ne (ne_of_none q np)]; exact q) fun _ => ⟨[], upd_same, .nil⟩
  have hp : PostG mg E ms H (fun w ms' H' => ∀ v, RpW X.K H' ms' v w → Q v H') (newDic S) := hp
  exact hp _ _ x1 x2 _ (.c (by show (ms.ix ++ [p])[S.length]? = _; rw [← hs.len, List.getElem?_append_right (Nat.le_refl _), Nat.sub_self]; rfl) List.mem_cons_self)
theorem key_rp {H : Hp} {ms : Cells} {v : V} {kd : PyData} {ns : List Int} (h : Rp H ms v kd) (e : keyOf kd = some ns) : ∃ b, v = .ref b ∧ H b = some (.tup ((ns.map (Sum.inl : Int → L2.Key)).map kV)) ∧ ¬ ms.has b := by
  cases h with
  | @tup b xs ds h1 h2 h3 h4 =>
    have e : intsOf ds = some ns := e
    have := ints_rps h4 e
    subst this
    refine ⟨b, rfl, ?_, h2⟩
    rw [h1, List.map_map]; rfl
  | _ => cases e
/-- d.get(k, x) -/
theorem s_dget {apos cpos : Pos} (hu : X.A.units + 200 < cLine) (ha : SE X mg E Γ a ia) (hb : SE X mg E Γ b ib) (hc : SE X mg E Γ c ic) (m : M2 X a "get" apos b c cpos := by exact ⟨rfl, rfl, rfl, rfl⟩) :
    SE X mg E Γ (.Call (.Attribute a "get" apos) [b, c] [] cpos) (.dget ia ib ic) := by
  refine pe_imp (pe_dget2 (by omega) ha hb hc m) fun σ H Q ⟨ms, ρ, S, he, hs, hp⟩ => ⟨ms, ρ, S, he, hs, PostG.part (f := fun o => (asDic o).bnd fun c => (ev Γ ib ρ).bnd fun kw => (asData kw).bnd fun kd => (ev Γ ic ρ).bnd fun xw => (asData xw).bnd fun xd =>
      (M.opt (keyOf kd)).bnd fun ns => (cellOf c).bnd fun ds => M.ret (W.d ((dval ds ns).getD xd))) hp fun o S1 ms1 H1 _ e1 r1 h1 ov hov => ?_⟩
  obtain ⟨k, rfl, h2⟩ := h1.dic
  cases hov with
  | @c aa _ _ hk hκ =>
    have hl1 : k < S1.length := by rw [← r1.len]; exact (List.getElem?_eq_some_iff.mp hk).1
    obtain ⟨kvs0, q0, _⟩ := (r1.cells k aa S1[k] hk (by simp [hl1])).2 _ hκ
    refine ⟨aa, rfl, .inr ⟨kvs0, .inl q0⟩, ms1, ρ, S1, he.ext e1, r1, h2.part fun kw S2 ms2 H2 _ e2 r2 h3 kv hkv => ?_⟩
    obtain ⟨kd, rfl, h4⟩ := h3.data
    refine ⟨ms2, ρ, S2, (he.ext e1).ext e2, r2, h4.part fun xw S3 ms3 H3 _ e3 r3 h5 xv hxv => ?_⟩
    obtain ⟨xd, rfl, h6⟩ := h5.data
    obtain ⟨ns, g1, h7⟩ := h6.opt
    obtain ⟨ds, g2, h8⟩ := h7.cellOf
    cases hkv with
    | d hkv =>
      cases hxv with
      | d hxv =>
        obtain ⟨bb, rfl, k1, _⟩ := key_rp (hkv.ext e3) g1
        have hk3 : ms3.ix[k]? = some aa := by
          obtain ⟨u, hu⟩ := (e2.trans e3).pre
          rw [← hu, List.getElem?_append_left (List.getElem?_eq_some_iff.mp hk).1]; exact hk
        obtain ⟨kvs, q1, q2⟩ := (r3.cells k aa ds hk3 g2).2 _ ((e2.trans e3).kd.1 _ hκ)
        refine ⟨_, DGet.t q1 k1, ?_⟩
        have h8 : PostG mg E ms3 H3 (fun w ms' H' => ∀ v, RpW X.K H' ms' v w → Q v H') (M.ret (W.d ((dval ds ns).getD xd)) S3) := h8
        rcases q2.val ns with ⟨w1, w2⟩ | ⟨v, d, w1, w2, w3⟩
        · rw [w1]; rw [w2] at h8; exact h8.ret r3 _ (RpW.d hxv)
        · rw [w1]; rw [w2] at h8; exact h8.ret r3 _ (RpW.d w3)
/-- d[k], there -/
theorem s_dix (hu : X.A.units + 200 < cLine) (ha : SE X mg E Γ a ia) (hb : SE X mg E Γ b ib) (hs : NoSl b := by exact fun _ _ => rfl) : SE X mg E Γ (.Subscript a b pos) (.dix ia ib) := by
  refine pe_imp (pe_dget (by omega) ha hb hs) fun σ H Q ⟨ms, ρ, S, he, hs, hp⟩ => ⟨ms, ρ, S, he, hs, PostG.part (f := fun o => (asDic o).bnd fun c => (ev Γ ib ρ).bnd fun kw => (asData kw).bnd fun kd =>
      (M.opt (keyOf kd)).bnd fun ns => (cellOf c).bnd fun ds => (M.opt (dval ds ns)).bnd fun y => M.ret (W.d y)) hp fun o S1 ms1 H1 _ e1 r1 h1 ov hov => ?_⟩
  obtain ⟨k, rfl, h2⟩ := h1.dic
  cases hov with
  | @c aa _ _ hk hκ =>
    refine ⟨ms1, ρ, S1, he.ext e1, r1, h2.part fun kw S2 ms2 H2 _ e2 r2 h3 kv hkv => ?_⟩
    obtain ⟨kd, rfl, h4⟩ := h3.data
    obtain ⟨ns, g1, h5⟩ := h4.opt
    obtain ⟨ds, g2, h6⟩ := h5.cellOf
    obtain ⟨y, g3, h7⟩ := h6.opt
    cases hkv with
    | d hkv =>
      obtain ⟨bb, rfl, k1, _⟩ := key_rp hkv g1
      have hk2 : ms2.ix[k]? = some aa := by
        obtain ⟨u, hu⟩ := e2.pre
        rw [← hu, List.getElem?_append_left (List.getElem?_eq_some_iff.mp hk).1]; exact hk
      obtain ⟨kvs, q1, q2⟩ := (r2.cells k aa ds hk2 g2).2 _ (e2.kd.1 _ hκ)
      have h7 : PostG mg E ms2 H2 (fun w ms' H' => ∀ v, RpW X.K H' ms' v w → Q v H') (M.ret (W.d y) S2) := h7
      rcases q2.val ns with ⟨w1, w2⟩ | ⟨v, d, w1, w2, w3⟩
      · rw [g3] at w2; cases w2
      · rw [g3] at w2; cases w2
        exact ⟨aa, v, rfl, by rw [← w1]; exact DGet.t q1 k1, h7.ret r2 _ (RpW.d w3)⟩
/-- d[k] = e -/
theorem s_dput {p2 : Pos} (hu : X.A.units + 200 < cLine) (he : SE X mg E Γ e ie) (ha : SE X mg E Γ a ia) (hb : SE X mg E Γ b ib) (hsw : swapsWith e (some (.Subscript a b p2)) pos.line X.env = pure false := by rfl) :
    SS X mg E Γ (.Assign [.Subscript a b p2] e pos) (.dput ia ib ie) := by
  refine ps_imp (ps_dput (by omega) ha hb he hsw) fun D σ H ⟨ms, ρ, S, he, hs, hp⟩ => ⟨ms, ρ, S, he, hs, PostG.part (f := fun w => (asData w).bnd fun y => (ev Γ ia ρ).bnd fun o => (asDic o).bnd fun c => (ev Γ ib ρ).bnd fun kw => (asData kw).bnd fun kd =>
      (M.opt (keyOf kd)).bnd fun ns => (cellOf c).bnd fun ds => if ds.length < line then (setCell c (dputL ds ns y)).bnd fun _ => M.ret (Out.nx ρ) else M.no) hp fun w S1 ms1 H1 _ e1 r1 h1 v hv => ?_⟩
  obtain ⟨y, rfl, h2⟩ := h1.data
  refine ⟨ms1, ρ, S1, he.ext e1, r1, h2.part fun o S2 ms2 H2 _ e2 r2 h3 ov hov => ?_⟩
  obtain ⟨k, rfl, h4⟩ := h3.dic
  refine ⟨ms2, ρ, S2, (he.ext e1).ext e2, r2, h4.part fun kw S3 ms3 H3 _ e3 r3 h5 kv hkv => ?_⟩
  obtain ⟨kd, rfl, h6⟩ := h5.data
  obtain ⟨ns, g1, h7⟩ := h6.opt
  obtain ⟨ds, g2, h8⟩ := h7.cellOf
  obtain ⟨g3, h9⟩ := h8.ite
  obtain ⟨g4, h10⟩ := h9.setCell
  cases hkv with
  | d hkv =>
    cases hov.ext e3 with
    | @c aa _ _ hk hκ =>
      cases (hv.ext e2).ext e3 with
      | d hv3 =>
        obtain ⟨bb, rfl, k1, _⟩ := key_rp hkv g1
        obtain ⟨kvs, q1, q2⟩ := (r3.cells k aa ds hk g2).2 _ hκ
        have hl : kvs.length < sizeLine := by rw [q2.len, ← line_eq]; exact g3
        obtain ⟨e4, r4⟩ := r3.updK hk hκ (o := .dT (putK kvs (ns.map Sum.inl) v)) (ds := dputL ds ns y) q1 (fun _ z => HO.noConfusion z) (fun _ z => HO.noConfusion z) (fun _ z => HO.noConfusion z) fun e4 κ' hκ' => by
          have old := (r3.cells k aa ds hk g2).2 _ hκ'
          cases κ' with
          | dic => exact ⟨_, upd_same, (q2.put hv3).tr e4.tr⟩
          | ins C fs =>
            obtain ⟨dx, vs, z, _⟩ := old
            rw [q1] at z; cases z
        exact ⟨aa, _, rfl, DPut.t q1 k1 hl, h10 _ _ e4 r4 σ ((((he.ext e1).ext e2).ext e3).ext e4)⟩
end
end Qv

/-! Snd32 -/
set_option maxHeartbeats 0
/-! Exceptions as values. -/
namespace Qv
open PySem PySem.Spec PySem.Calls PyProof.Rows L2
section
variable {prog : Program} {w : World} {A : Around} {E : Value → Shared → Prop} {s : Shared} {K : PySem.W.Frag} {x D : Addr} {ox : Obj} {od : Option Obj}
/-- the class of an exception's object is read off, whatever its dict -/
theorem class_of_exc {Q : Option Value → Shared → Prop} (T : ExcC K D) (X : K.In s.heap) (I : PySem.W.InstAt s.heap x ox D od) (h : Q (some (.ref D)) { s with toks := s.toks + 1 }) : wpAny (model prog w) A (getAttr? (.ref x) "__class__") Q E s := by
  have hf : PySem.W.findObj K D od "__class__" = some (.bind (.builtin "getset_descriptor.__get__") (.builtin "object.__class__")) := by
    obtain ⟨cd, hcd, _⟩ := PySem.W.any_some T.hd
    unfold PySem.W.findObj; rw [hcd, Option.bind_some, T.ha, Option.bind_some]; simp [T.hn, T.ht]
  obtain ⟨hp, g, d, t, os⟩ := s; have L0 := I.type (M := model prog w); have L1 := PySem.W.looks_findIn (M := model prog w) X T.hg
  have L2 := PySem.W.looks_findIn (M := model prog w) X T.hk; have L3 := PySem.W.looks_find (M := model prog w) X I hf
  have sub : PySem.W.Looks (model prog w) hp (isInstance (.ref x) (.type "BaseException")) true := L0.andThen (PySem.W.looks_subIn X T.hs)
  have hx0 : (false && onTheHeap (Value.builtin "BaseException.__getattribute__")) = false := rfl; have hx2 : (Value.builtin "BaseException.__getattribute__" == Value.builtin "object.__getattribute__") = false := by decide +kernel
  have hx1 : (onTheHeap (Value.ref D) && Value.builtin "BaseException.__getattribute__" == Value.builtin "object.__getattribute__") = false := by (rw [hx2]; rfl)
  unfold getAttr? getAttrBy? getAttrBy; refine wpAny_bind (wpAny_mkText (wpAny_bind (wpAny_attempt (wpAny_holding (wpAny_bind (L0.at (wpAny_bind (L1.at ?_))))))))
  show wpAny _ _ (if (onTheHeap (Value.ref D) && Value.builtin "BaseException.__getattribute__" == Value.builtin "object.__getattribute__") = true then _ else _) _ _ _; rw [hx1, if_neg Bool.false_ne_true]
  unfold getAttrByItsOwn hookBefore; refine wpAny_bind ?_; rw [if_pos (show onTheHeap (Value.ref D) = true from rfl)]; refine L2.at ?_
  refine wpAny_bind (wpAny_attempt (wpAny_holding ?_)); unfold callGetattribute; rw [hx0, if_neg Bool.false_ne_true]; unfold boundAndCalled; rw [PySem.F.excAttr_ValueError.ga.bind (.ref x)]; refine wpAny_bind (wpAny_pure ?_)
  show wpAny _ _ (call (.builtin "BaseException.__getattribute__") [.ref x, .str "__class__" t]) _ _ _; refine wpAny_call (codeAny_call_builtin PySem.F.excAttr_ValueError.ga.plain PySem.F.entry_bexc_ga ?_)
  refine @PySem.W.check_slot (model prog w) _ _ ⟨hp, g, d, t + 1, os⟩ "BaseException.__getattribute__" "BaseException" "__getattribute__" (.ref x) [.str "__class__" t] [] _ (by decide +kernel) (by decide +kernel) sub (PySem.F.args_bexc_ga (.ref x) (.str "__class__" t)) ?_
  unfold Builtin.«object.__getattribute__»; refine wpAny_bind (wpAny_of_eq (a := ((Value.ref x : Value), [Value.str "__class__" t])) (by first | rfl | (simp only [slotArgs]; rfl)) ?_)
  refine wpAny_bind (wpAny_pure (wpAny_bind (L0.at (wpAny_bind (L3.at ?_))))); show wpAny _ _ (holding [Value.builtin "object.__class__"] (call (.builtin "getset_descriptor.__get__") [.builtin "object.__class__", .ref x, .ref D]) >>= ret) _ _ _
  refine wpAny_bind (wpAny_holding (wpAny_call (PySem.W.class_get (s := ⟨hp, g, d, t + 1, os⟩) (ox := ox) (od := od) X I T.hm ?_))); refine wpAny_pure ?_; show wpAny _ _ (handedOut (.ref D)) _ _ _; rw [PySem.W.handedOut_of (v := .ref D) rfl]
  first | exact wpAny_pure (wpAny_pure h) | exact wpAny_pure h | exact wpAny_pure (wpAny_bind (wpAny_pure (wpAny_pure h)))
/-- so isinstance can be asked of it -/
theorem kit_exc (T : ExcC K D) : PySem.W.KitX K (.ref x) (.ref D) (fun h => ∃ (ox : Obj) (od : Option Obj), PySem.W.InstAt h x ox D od) where
  ty := fun _ _ _ ⟨_, _, I⟩ => I.type
  it := fun _ _ X _ => by
    obtain ⟨cdD, hcD, _⟩ := PySem.W.any_some T.hd; unfold PySem.W.clsIn at hcD
    split at hcD
    · rename_i c' d' cd' sl' ho; intro A' Q' E' s' k q; unfold isType loadHead; exact wpAny_bind (wpAny_loadPart (k _ _ (X _ _ ho)) (wpAny_pure q))
    · cases hcD
  ne := fun h tp dd its n sl X htp => by
    obtain ⟨cdD, hcD, _⟩ := PySem.W.any_some T.hd; refine Bool.eq_false_iff.mpr fun q => ?_
    have e : D = tp := Value.ref.inj (beq_iff_eq.mp q)
    subst e; unfold PySem.W.clsIn at hcD
    split at hcD
    · rename_i c' d' cd' sl' ho; have z := (X _ _ ho).symm.trans htp; cases z
    · cases hcD
  ca := fun X ⟨_, _, I⟩ k => class_of_exc T X I k
end
/-- what of an exception's value stands in the heap -/
theorem exT_at {P : Program} {w : World} {H : Hp} {h : Heap} {a C t : Addr} (hok : HOk P w H h) (e : H a = some (exT a C t)) : h.get? a = some ({ cls := .ref C, dict := none, data := .fields #[.ref t, .none, .none, .none, .bool false, .none] } : Obj) := by
  have x : ObjOk P w H h a (.ext fun h => h.get? a = some ({ cls := .ref C, dict := none, data := .fields #[.ref t, .none, .none, .none, .bool false, .none] } : Obj)) := hok a _ e
  exact x.1
theorem rpv_inst {P : Program} {w : World} {K : PySem.W.Frag} {H : Hp} {ms : Cells} {h : Heap} {v : V} {x : XV} (hok : HOk P w H h) (r : RpV K H ms v x) : ∃ a, v = .ref a ∧ ∃ (ox : Obj) (od : Option Obj), PySem.W.InstAt h a ox (He.ga K x.cls) od := by
  cases r with
  | msg h1 n1 h2 n2 => exact ⟨_, rfl, _, none, exT_at hok h1, rfl, rfl, trivial⟩
  | own h1 n1 h2 n2 rv =>
    obtain ⟨t1, q⟩ := exo_at hok h1
    obtain ⟨mA, hns, _⟩ := exd_at hok h2
    obtain ⟨od, ho, _⟩ := lookIn_ns hns
    exact ⟨_, rfl, _, some od, q, rfl, rfl, ho⟩
section
variable {X : Cx} {mg : Str → Option Value} {E : XK} {Γ : Fns} {a b c e : Expr} {ia ib ic ie : IE} {pos p : Pos} {es : List Expr} {ies : IEs}
variable {α β : Type} {ms : Cells} {H : Hp} {S : Sto} {Kk : β → Cells → Hp → Prop}
theorem PostG.xo {w : W} {f : XV → M β} (h : PostG mg E ms H Kk ((asX w).bnd f S)) : ∃ b, w = .xo b ∧ PostG mg E ms H Kk (f b S) := by
  cases w with
  | xo x => exact ⟨_, rfl, h⟩
  | _ => exact h.elim
theorem PostG.xl {w : W} {f : List XV → M β} (h : PostG mg E ms H Kk ((asXl w).bnd f S)) : ∃ b, w = .xl b ∧ PostG mg E ms H Kk (f b S) := by
  cases w with
  | xl x => exact ⟨_, rfl, h⟩
  | _ => exact h.elim
theorem PostG.xos {ws : List W} : ∀ {f : List XV → M β}, PostG mg E ms H Kk ((asXs ws).bnd f S) → ∃ ds, ws = ds.map .xo ∧ PostG mg E ms H Kk (f ds S) := by
  induction ws with
  | nil => exact fun h => ⟨[], rfl, h⟩
  | cons w ws ih =>
    intro f h
    cases w with
    | xo x =>
      have h : PostG mg E ms H Kk (((asXs ws).bnd fun xs => M.ret (x :: xs)).bnd f S) := h
      have e : ((asXs ws).bnd fun xs => M.ret (x :: xs)).bnd f S = ((asXs ws).bnd fun xs => f (x :: xs)) S := by
        unfold M.bnd
        cases k : asXs ws S with
        | none => rfl
        | some r => cases r <;> rfl
      rw [e] at h
      obtain ⟨ds, rfl, h2⟩ := ih h
      exact ⟨x :: ds, rfl, h2⟩
    | _ => exact h.elim
theorem xos_rp {K : PySem.W.Frag} : ∀ {vs : List V} {ds : List XV}, RpWs K H ms vs (ds.map .xo) → RpVs K H ms vs ds
  | [], [], _ => .nil
  | _, _ :: _, .cons (.xo a) r => .cons a (xos_rp r)
/-- two new objects at once -/
theorem laid2 {pins : List (Addr × Obj)} {σ : L2.St} {s : Shared} {h' : Heap} {p q : Addr} {o u : HO} (I : Inv X pins σ H s) (k : ∀ c w, s.heap.get? c = some w → h'.get? c = some w) (hp : s.heap.get? p = none) (hq : s.heap.get? q = none) (ne : p ≠ q)
    (new1 : ObjOk X.prog X.w (upd (upd H q u) p o) h' p o) (new2 : ObjOk X.prog X.w (upd (upd H q u) p o) h' q u) : Inv X pins σ (upd (upd H q u) p o) { s with heap := h' } := by
  have np : H p = none := I.hok.gone hp
  have nq : H q = none := I.hok.gone hq
  have at_ : ∀ b, b ≠ p → b ≠ q → upd (upd H q u) p o b = H b := fun b h1 h2 => by rw [upd_ne h1, upd_ne h2]
  have old : ∀ b w, H b = some w → upd (upd H q u) p o b = some w := fun b w e => by rw [at_ b (ne_of_none e np) (ne_of_none e nq)]; exact e
  have un : Un X.fs [] H (upd (upd H q u) p o) s.heap h' := ⟨fun b w e _ _ _ => k b w e, fun b w e _ _ _ => ⟨w.slots, k b w e⟩, fun b w e n _ => by
      rw [at_ b (fun z => by rw [z, hp] at e; cases e) (fun z => by rw [z, hq] at e; cases e)]; exact n,
    fun b w e _ => ⟨w, k b w e⟩, fun b xs e => old b _ e, fun b w xs e => old b _ e, fun b ps e => ⟨#[], by rw [old b _ e]; simp⟩⟩
  refine I.un un fun b w e => ?_
  by_cases h1 : b = p
  · subst h1; rw [upd_same] at e; cases e; exact new1
  · by_cases h2 : b = q
    · subst h2; rw [upd_ne h1, upd_same] at e; cases e; exact new2
    · rw [at_ b h1 h2] at e
      exact (I.hok b w e).stay (fun c v _ z => k c v z) (fun c z => old c _ z) fun c xs z => old c _ z
/-- C("..") -/
theorem pe_xnew {C : Addr} {x m : Str} {j : Nat} {p2 p3 : Pos} (q : PySem.W.excIn X.K C [.type "ValueError", .type "Exception", .type "BaseException", .type "object"] "ValueError.__new__" = true) (gC : X.mg x = some (.ref C)) (kC : PySem.W.keepIn X.K (.ref C) = true) (hg : Gl X x) (hdb : (x == ("__debug__" : Str)) = false) :
    PE X (.Call (.Name x p) [.Constant (.str m) j p2] [] p3) (fun σ H Q => ∀ a t, H a = none → H t = none → a ≠ t → Q (.ref a) (upd (upd H t (.tup [.str m])) a (exT a C t))) := by
  refine ⟨fun pins s σ H Q I h => ?_⟩
  have hs : starEach [Expr.Constant (.str m) j p2] X.env = (false, eval (.Constant (.str m) j p2) X.env) :: starEach [] X.env := by rfl
  refine wpAny_Call_Name_kw (ld_glob I hg gC ?_ hdb)
  refine PySem.W.callWith_K (h₀ := X.base) I.ok.mod.kin kC ?_ hs (by rfl)
  rw [hs]
  show wpAny _ _ (spliced ((false, eval (.Constant (.str m) j p2) X.env) :: backTo p3 (starEach [] X.env))) _ _ s
  refine Calls.spliced_cons (thn ((pe_str (X := X) (x := m) (pos := p2)).run pins s σ H (fun v H' => v = .str m ∧ H' = H) I ⟨rfl, rfl⟩) fun u s1 ⟨v, H1, I1, r1, ev, eH⟩ => ?_)
  subst ev
  rw [eH] at I1
  obtain ⟨tk, rfl⟩ : ∃ tk, u = Value.str m tk := r1
  refine Calls.spliced_nil ⟨I1.kIn, ?_⟩
  show wpAny _ _ (call (.ref C) [Value.str m tk]) _ _ _
  obtain ⟨bm, N, nm, qn, bs, hdct, sn, sub, ab, col, dd, k0, k1, k2, k3, k5, mN, hC, hN, hni, T⟩ := exc_obj I1.kIn q
  refine wpAny_call_exc_subT PySem.F.excBase_ValueError T hC hN hni (fun h' a hm => ?_) (by show 1 ≤ sizeLine; rw [sizeLine_eq]; omega)
  obtain ⟨t, ht, hn, htt⟩ := hm.there
  have hat : a ≠ t := fun z => by rw [z, htt] at ht; cases ht
  refine ⟨.ref a, _, laid2 (o := exT a C t) (u := .tup [.str m]) I1 hm.keeps hm.new hn hat ⟨ht, ⟨_, ht⟩, fun _ _ z k => k _ z⟩ ⟨by show 1 ≤ sizeLine; rw [sizeLine_eq]; omega, [Value.str m tk], .cons ⟨tk, rfl⟩ .nil, ⟨_, htt, rfl, _, rfl⟩⟩, rfl, h a t (I1.hok.gone hm.new) (I1.hok.gone hn) hat⟩
end
end Qv

/-! Snd33 -/
set_option maxHeartbeats 0
/-! Exceptions as values: the rules. -/
namespace Qv
open PySem PySem.Spec PySem.Calls PyProof.Rows L2
section
variable {X : Cx} {mg : Str → Option Value} {E : XK} {Γ : Fns} {a b c e : Expr} {ia ib ic ie : IE} {pos p p2 p3 : Pos} {es : List Expr} {ies : IEs}
theorem s_xnew {x m : Str} {j : Nat} (q : PySem.W.excIn X.K (He.ga X.K x) [.type "ValueError", .type "Exception", .type "BaseException", .type "object"] "ValueError.__new__" = true) (gC : X.mg x = some (.ref (He.ga X.K x))) (kC : PySem.W.keepIn X.K (.ref (He.ga X.K x)) = true) (hg : Gl X x) (hdb : (x == ("__debug__" : Str)) = false := by decide) :
    SE X mg E Γ (.Call (.Name x p) [.Constant (.str m) j p2] [] p3) (.xnew x m) := by
  refine pe_imp (pe_xnew q gC kC hg hdb) fun σ H Q ⟨ms, ρ, S, he, hs, hp⟩ a t na nt ne => ?_
  have x1 : Ext ms H ms (upd H t (.tup [.str m])) := Ext.laid nt
  have na' : upd H t (.tup [.str m]) a = none := by rw [upd_ne ne]; exact na
  have x2 : Ext ms (upd H t (.tup [.str m])) ms (upd (upd H t (.tup [.str m])) a (exT a (He.ga X.K x) t)) := Ext.laid na'
  have r2 := (hs.laid (o := .tup [.str m]) nt).laid (o := exT a (He.ga X.K x) t) na'
  exact hp ms _ (x1.trans x2) r2 _ (.xo (.msg upd_same (hs.notin na) (by rw [upd_ne (Ne.symm ne), upd_same]) (hs.notin nt)))
/-- C(e), C with its own __init__ -/
theorem pe_xown {CX : CXT} {x : Str} {C fI : Addr} {k : Nat} {fd : FuncData} {ps : List Str} {sp : Sp} {ds : List Value} {dvs : List V} {ta : TA} (T : OexC X.K C) (iC : PySem.W.findIn X.K (.ref C) "__init__" = some (some (.ref fI))) (tI : PySem.W.typeIn X.K (.ref fI) = some (.type "function"))
    (F1 : FnOk X.prog X.w X.K X.mg X.base CX k fI fd ps sp) (hr : Room (k + 1) X.A) (hb : Binds X.K fd ps ds) (hd : Vals dvs ds) (hx : Passes CX X (fun _ _ _ => False)) (hg : Gl X x) (hm : X.mg x = some (.ref C)) (ha : PA X (e :: es) ta)
    (hdb : (x == ("__debug__" : Str)) = false) (h1 : starEach (e :: es) X.env = (false, eval e X.env) :: starEach es X.env) (hpl : (backTo pos (starEach es X.env)).any (·.1) = false) :
    PE X (.Call (.Name x p) (e :: es) [] pos) (fun σ H Q => ta σ H fun vs H1 => vs.length ≤ 1000 ∧ ∀ a, H1 a = none → sp (.ref a :: (vs ++ dvs)) (upd H1 a (exo a C none)) (fun v H2 => v = .non ∧ Q (.ref a) H2) (fun _ _ _ => False)) := by
  refine ⟨fun pins s σ H Q I h => ?_⟩; obtain ⟨nm, q, N, bs, bm, sn, sub, ab, col, dd, k0, k1, k2, k3, k5, hC, hbm⟩ := T.cls
  refine wpAny_Call_Name_kw (ld_glob I hg hm ?_ hdb); refine PySem.W.callWith_K (h₀ := X.base) I.ok.mod.kin T.kC (thn (ha.run pos pins s σ H _ I h) fun us s1 ⟨vs, H1, I1, r1, hz, q1⟩ => ⟨I1.kIn, ?_⟩) h1 hpl
  show wpAny _ _ (call (.ref C) us) _ _ _; obtain ⟨hp, g, dr, tk, os⟩ := s1
  have hsz : hp.objs.size ≤ hp.objs.size + 1 := Nat.le_succ _; have hn : H1 (hp.objs.size + 1) = none := I1.hok.fresh hsz
  have hq := q1 (hp.objs.size + 1) hn; have kk : ∀ b o, hp.get? b = some o → ((hp.push (PySem.W.kdv_tup us)).push (PySem.HandSPX.excO C hp.objs.size)).get? b = some o := fun b o e => Heap.get?_push_of_some _ (Heap.get?_push_of_some _ e)
  have hget : ((hp.push (PySem.W.kdv_tup us)).push (PySem.HandSPX.excO C hp.objs.size)).get? (hp.objs.size + 1) = some (PySem.HandSPX.excO C hp.objs.size) := by (heap_get)
  have I2 : Inv X pins σ (upd H1 (hp.objs.size + 1) (exo (hp.objs.size + 1) C none)) ⟨(hp.push (PySem.W.kdv_tup us)).push (PySem.HandSPX.excO C hp.objs.size), g, dr, tk, os⟩ := I1.laid (t' := tk) (a := hp.objs.size + 1) (o := exo (hp.objs.size + 1) C none) (h' := (hp.push (PySem.W.kdv_tup us)).push (PySem.HandSPX.excO C hp.objs.size)) kk hsz (exo_ok hget)
  have r2 : Vals (V.ref (hp.objs.size + 1) :: (vs ++ dvs)) (Value.ref (hp.objs.size + 1) :: (us ++ ds)) := .cons rfl (r1.append hd); have hl : (Value.ref (hp.objs.size + 1) :: us ++ ds).length = ps.length := (r2.length).symm.trans (F1.len _ _ _ _ hq)
  have hus : us.length ≤ sizeLine := by (rw [← Paired.length r1, sizeLine_eq]; omega)
  refine wpAny_call (PySem.HandSPX.call_own F.excBase_ValueError (fun Y => PySem.HandSPX.refsVE_contains Y bm hbm) (I1.kIn _ _ hC) (PySem.W.looks_findIn I1.kIn iC) (fun self => PySem.W.bind_fn I1.kIn self tI) hus (codeAny_mono (F1.run _ X.stack _ _ ⟨Value.ref (hp.objs.size + 1) :: us, []⟩ (Value.ref (hp.objs.size + 1) :: (us ++ ds)) _ _ (fun _ _ _ => False) (hr.make C us []) (I2.env0.make C us []) (hb _ (Value.ref (hp.objs.size + 1) :: us) I2.kIn hl) r2 hq) fun r s' hq' => ?_))
  cases r with
  | error er => exact hx pins σ _ _ er s' I2 hq'
  | ok fl =>
    cases fl with
    | ret u =>
      obtain ⟨v, H2, J, rv, ev, q2⟩ := I2.after hq'
      subst ev
      exact ⟨rv, .ref (hp.objs.size + 1), H2, J, rfl, q2⟩
    | next => exact hq'.elim
    | brk => exact hq'.elim
    | cont => exact hq'.elim
theorem s_xown {x f : Str} {fI : Addr} {fd : FuncData} {ps : List Str} {ok : V → Hp → Prop} (hf : fieldOf x = f)
    (hok : ∀ d d', argOf x d = some d' → d' = d ∧ ∀ (H : Hp) (ms : Cells) (v : V) (a : Addr) (o : HO), Rp H ms v d → H a = none → ok v (upd H a o))
    (T : OexC X.K (He.ga X.K x)) (hno : PySem.W.findIn X.K (.ref (He.ga X.K x)) f = some none) (iC : PySem.W.findIn X.K (.ref (He.ga X.K x)) "__init__" = some (some (.ref fI))) (tI : PySem.W.typeIn X.K (.ref fI) = some (.type "function"))
    (F1 : FnOk X.prog X.w X.K X.mg X.base CX0 1 fI fd ps (spInit X.K f ok)) (hr : Room 2 X.A) (hb : Binds X.K fd ps []) (hx : Passes CX0 X (fun _ _ _ => False)) (hg : Gl X x) (hm : X.mg x = some (.ref (He.ga X.K x))) (he : SE X mg E Γ e ie)
    (hdb : (x == ("__debug__" : Str)) = false := by decide) (h1 : starEach (e :: []) X.env = (false, eval e X.env) :: starEach [] X.env := by rfl) (hpl : (backTo p3 (starEach [] X.env)).any (·.1) = false := by rfl) :
    SE X mg E Γ (.Call (.Name x p) [e] [] p3) (.xown x ie) := by
  refine pe_imp (pe_xown (dvs := []) T iC tI F1 hr hb .nil hx hg hm (pa_cons he pa_nil h1) hdb h1 hpl) fun σ H Q ⟨ms, ρ, S, hρ, hs, hp⟩ => ?_
  refine ⟨ms, ρ, S, hρ, hs, PostG.part (f := fun w => (asData w).bnd fun d => (M.opt (argOf x d)).bnd fun d => M.ret (W.xo (.own x d))) hp fun w S1 ms1 H1 _ e1 r1 h2 v hv => ?_⟩
  obtain ⟨d, rfl, h3⟩ := h2.data
  obtain ⟨d', hd, h4⟩ := h3.opt
  obtain ⟨rfl, hk⟩ := hok _ _ hd
  cases hv with
  | d hv =>
    refine ⟨Nat.le_of_ble_eq_true rfl, fun a ha => ?_⟩
    refine ⟨a, He.ga X.K x, v, rfl, T, hno, upd_same, hk H1 ms1 v a _ hv ha, fun dx n ne => ⟨rfl, ?_⟩⟩
    have n1 : H1 dx = none := by rw [upd_ne ne] at n; exact n
    have eH : upd (upd (upd H1 a (exo a (He.ga X.K x) none)) dx (exd dx [(f, v)])) a (exo a (He.ga X.K x) (some dx)) = upd (upd H1 dx (exd dx [(f, v)])) a (exo a (He.ga X.K x) (some dx)) := by
      funext b
      by_cases hb : b = a
      · subst hb; rw [upd_same, upd_same]
      · rw [upd_ne hb, upd_ne hb]
        by_cases hbd : b = dx
        · subst hbd; rw [upd_same, upd_same]
        · rw [upd_ne hbd, upd_ne hb, upd_ne hbd]
    rw [eH]
    have ha' : upd H1 dx (exd dx [(f, v)]) a = none := by rw [upd_ne (Ne.symm ne)]; exact ha
    have x1 : Ext ms1 H1 ms1 (upd H1 dx (exd dx [(f, v)])) := Ext.laid n1
    have x2 : Ext ms1 (upd H1 dx (exd dx [(f, v)])) ms1 (upd (upd H1 dx (exd dx [(f, v)])) a (exo a (He.ga X.K x) (some dx))) := Ext.laid ha'
    have h4 : PostG mg E ms1 H1 (fun w ms' H' => ∀ v, RpW X.K H' ms' v w → Q v H') (M.ret (W.xo (.own x d')) S1) := h4
    exact h4 ms1 _ (x1.trans x2) ((r1.laid n1).laid ha') _ (.xo (.own upd_same (r1.notin ha) (by rw [upd_ne ne, upd_same, hf]) (r1.notin n1) (hv.ext (x1.trans x2))))
/-- [e, ..] of exceptions -/
theorem s_xlst (h : SA X mg E Γ es ies) (hl : ies.len ≤ line := by decide) : SE X mg E Γ (.List es pos) (.xlst ies) := by
  refine pe_imp (pe_lst h) fun σ H Q ⟨ms, ρ, S, he, hs, hp⟩ => ?_
  refine ⟨ms, ρ, S, he, hs, PostG.part (f := fun ws => (asXs ws).bnd fun l => M.ret (W.xl l)) hp fun ws S1 ms1 H1 ew e1 r1 h1 vs hvs => ?_⟩
  obtain ⟨ds, rfl, h2⟩ := h1.xos
  have hn : vs.length ≤ line := by rw [hvs.len, evs_len ies ew]; exact hl
  refine ⟨by rw [← line_eq]; exact hn, fun p hp => ?_⟩
  exact h2 ms1 _ (Ext.laid hp) (r1.laid hp) _ (.xl upd_same (r1.notin hp) hn ((xos_rp hvs).tr (Ext.laid hp).tr))
/-- a + b of such lists -/
theorem s_xcat (ha : SE X mg E Γ a ia) (hb : SE X mg E Γ b ib) : SE X mg E Γ (.BinOp a .Add b pos) (.xcat ia ib) := by
  refine pe_imp (pe_op op_cat ha hb) fun σ H Q ⟨ms, ρ, S, he, hs, hp⟩ => ?_
  refine ⟨ms, ρ, S, he, hs, PostG.part (f := fun x => (asXl x).bnd fun l => (ev Γ ib ρ).bnd fun y => (asXl y).bnd fun r => if l.length + r.length ≤ line then M.ret (W.xl (l ++ r)) else M.no) hp fun wa S1 ms1 H1 _ e1 r1 h1 va hva => ?_⟩
  obtain ⟨l, rfl, h2⟩ := h1.xl
  refine ⟨ms1, ρ, S1, he.ext e1, r1, h2.part fun wb S2 ms2 H2 _ e2 r2 h3 vb hvb => ?_⟩
  obtain ⟨r, rfl, h4⟩ := h3.xl
  obtain ⟨hz, h5⟩ := h4.ite
  cases hva.ext e2 with
  | @xl q xs _ k1 k0 k2 k3 =>
    cases hvb with
    | @xl q2 ys _ l1 l0 l2 l3 =>
      have hl : xs.length + ys.length ≤ line := by rw [k3.len, l3.len]; exact hz
      refine ⟨q, q2, xs, ys, rfl, rfl, k1, l1, by rw [← line_eq]; exact hl, fun n hn => ?_⟩
      have h5 : PostG mg E ms2 H2 (fun w ms' H' => ∀ v, RpW X.K H' ms' v w → Q v H') (M.ret (W.xl (l ++ r)) S2) := h5
      exact h5 ms2 _ (Ext.laid hn) (r2.laid hn) _ (.xl upd_same (r2.notin hn) (by rw [List.length_append]; exact hl) (RpVs.app (l3.tr (Ext.laid hn).tr) (k3.tr (Ext.laid hn).tr)))
end
end Qv

/-! Snd34 -/
set_option maxHeartbeats 0
/-! Exceptions as values: what is asked of them. -/
namespace Qv
open PySem PySem.Spec PySem.Calls PyProof.Rows L2
/-- what is asked of the classes -/
structure XAll (K : PySem.W.Frag) : Prop where
  c : ∀ c ∈ xNames, ExcC K (He.ga K c)
  k : ∀ c ∈ xNames, ∀ d ∈ xNames, PySem.W.kitOne K (.ref (He.ga K c)) (.ref (He.ga K d)) = some (isExc c d)
  v : ∀ c ∈ xNames, PySem.W.kitOne K (.ref (He.ga K c)) (.type "ValueError") = some true
  s : ∀ c ∈ xNames, PySem.W.findIn K (.ref (He.ga K c)) "__str__" = some (some (.builtin "BaseException.__str__"))
  f : ∀ c ∈ (["OddRing", "TooMany"] : List Str), XfC K (He.ga K c) ∧ PySem.W.findIn K (.ref (He.ga K c)) (fieldOf c) = some none
def excCB (K : PySem.W.Frag) (D : Addr) : Bool := decide (PySem.W.findIn K (.ref D) "__getattribute__" = some (some (.builtin "BaseException.__getattribute__"))) && (decide (PySem.W.findIn K (.ref D) "__getattr__" = some none) && (decide (PySem.W.subIn K (.ref D) (.type "BaseException") = some true) && (PySem.W.hasDictIn K D &&
  (decide (PySem.W.findIn K (.ref D) "__class__" = some (some (.builtin "object.__class__"))) && (decide (PySem.W.specialIn K (.builtin "object.__class__") "__get__" = some (some (.builtin "getset_descriptor.__get__"))) && (decide (PySem.W.takesIn K (.builtin "object.__class__") = some true) && decide (PySem.W.mroIn K D (.type "object") = some true)))))))
theorem excCB_ok {K : PySem.W.Frag} {D : Addr} (h : excCB K D = true) : ExcC K D := by
  unfold excCB at h
  simp only [Bool.and_eq_true, decide_eq_true_eq] at h
  obtain ⟨h1, h2, h3, h4, h5, h6, h7, h8⟩ := h
  exact ⟨h1, h2, h3, h4, h5, h6, h7, h8⟩
def xallB (K : PySem.W.Frag) : Bool := (xNames.all fun c => excCB K (He.ga K c) && ((xNames.all fun d => decide (PySem.W.kitOne K (.ref (He.ga K c)) (.ref (He.ga K d)) = some (isExc c d))) && (decide (PySem.W.kitOne K (.ref (He.ga K c)) (.type "ValueError") = some true) &&
  decide (PySem.W.findIn K (.ref (He.ga K c)) "__str__" = some (some (.builtin "BaseException.__str__")))))) && (["OddRing", "TooMany"] : List Str).all fun c => xfB K (He.ga K c) && decide (PySem.W.findIn K (.ref (He.ga K c)) (fieldOf c) = some none)
theorem xallB_ok {K : PySem.W.Frag} (h : xallB K = true) : XAll K := by
  unfold xallB at h
  rw [Bool.and_eq_true] at h
  obtain ⟨h1, h2⟩ := h
  rw [List.all_eq_true] at h1 h2
  have q : ∀ c ∈ xNames, ExcC K (He.ga K c) ∧ (∀ d ∈ xNames, PySem.W.kitOne K (.ref (He.ga K c)) (.ref (He.ga K d)) = some (isExc c d)) ∧ PySem.W.kitOne K (.ref (He.ga K c)) (.type "ValueError") = some true ∧ PySem.W.findIn K (.ref (He.ga K c)) "__str__" = some (some (.builtin "BaseException.__str__")) := fun c hc => by
    have z := h1 c hc
    rw [Bool.and_eq_true, Bool.and_eq_true, Bool.and_eq_true, List.all_eq_true] at z
    obtain ⟨z1, z2, z3, z4⟩ := z
    exact ⟨excCB_ok z1, fun d hd => of_decide_eq_true (z2 d hd), of_decide_eq_true z3, of_decide_eq_true z4⟩
  refine ⟨fun c hc => (q c hc).1, fun c hc => (q c hc).2.1, fun c hc => (q c hc).2.2.1, fun c hc => (q c hc).2.2.2, fun c hc => ?_⟩
  have z := h2 c hc
  rw [Bool.and_eq_true] at z
  exact ⟨xfB_ok z.1, of_decide_eq_true z.2⟩
section
variable {X : Cx} {mg : Str → Option Value} {E : XK} {Γ : Fns} {a b c e : Expr} {ia ib ic ie : IE} {pos p p2 p3 : Pos} {es : List Expr} {ies : IEs}
theorem call_isX : CallR X (.builtin "isinstance") (fun xs H Q => ∃ (ms : Cells) (v : V) (x : XV) (c : V) (cv : Value) (b : Bool), xs = [v, c] ∧ RpV X.K H ms v x ∧ (∀ u, RelV c u → u = cv) ∧ ExcC X.K (He.ga X.K x.cls) ∧ PySem.W.kitOne X.K (.ref (He.ga X.K x.cls)) cv = some b ∧ Q (.bl b) H) := by
  intro pins s σ H xs us Q I r h
  obtain ⟨ms, v, x, c, cv, b, rfl, hv, hcv, C, e, q⟩ := h
  obtain ⟨q0, rfl, J⟩ := rpv_inst I.hok hv
  cases r with
  | cons rx rr =>
    cases rr with
    | cons rt rr =>
      cases rr; cases rx
      have ec := hcv _ rt
      subst ec
      exact PySem.W.kia_one (kit_exc C) I.kIn J e (fun z => nomatch z) fun tk => ⟨.bl b, H, I.kept (t' := tk) fun _ _ z => z, rfl, q⟩
theorem xis_read {f : XV → Bool} {cx : Str} (hall : ∀ n ∈ xNames, ∀ x : XV, x.cls = n → f x = isExc n cx) {σ : L2.St} {H : Hp} {Q : VK} (h : tE X.K mg E Γ (.xis ia cx) σ H Q) :
    tE X.K mg E Γ ia σ H fun v H1 => ∃ (ms : Cells) (x : XV), RpV X.K H1 ms v x ∧ x.cls ∈ xNames ∧ Q (.bl (isExc x.cls cx)) H1 := by
  obtain ⟨ms, ρ, S, he, hs, hp⟩ := h
  refine ⟨ms, ρ, S, he, hs, PostG.part (f := fun w => (asX w).bnd fun e => if e.cls ∈ xNames then M.ret (W.d (.bool (isExc e.cls cx))) else M.no) hp fun w S1 ms1 H1 _ e1 r1 h1 v hv => ?_⟩
  obtain ⟨x, rfl, h2⟩ := h1.xo
  obtain ⟨hx, h3⟩ := h2.ite
  cases hv with
  | xo hv => exact ⟨ms1, x, hv, hx, (Fin.of h3).now r1 (.bl _)⟩
/-- isinstance(a, C), C one of these classes -/
theorem s_xis {cx : Str} (T : XAll X.K) (hcx : cx ∈ xNames) (hg : Gl X "isinstance") (hm : X.mg "isinstance" = none) (hg2 : Gl X cx) (hm2 : X.mg cx = some (.ref (He.ga X.K cx))) (ha : SE X mg E Γ a ia)
    (h1 : starEach [a, .Name cx p2] X.env = (false, eval a X.env) :: starEach [.Name cx p2] X.env := by rfl) (hdb : (cx == ("__debug__" : Str)) = false := by decide) : SE X mg E Γ (.Call (.Name "isinstance" p) [a, .Name cx p2] [] pos) (.xis ia cx) := by
  refine pe_imp (pe_callB call_isX hg hm PyProof.Rows.boot_isinstance (pa_cons ha (pa_cons (pe_glob (v := .ref (He.ga X.K cx)) hg2 hm2 rfl hdb) pa_nil) h1) (he := h1)) fun σ H Q h => ?_
  refine tE_imp (xis_read (f := fun x => isExc x.cls cx) (fun n _ x e => by rw [e]) h) fun v H1 ⟨ms, x, hv, hx, q⟩ => ?_
  exact ⟨ms, v, x, .ref (He.ga X.K cx), .ref (He.ga X.K cx), _, rfl, hv, fun u r => r, T.c _ hx, T.k _ hx _ hcx, q⟩
/-- isinstance(a, ValueError) -/
theorem s_xisV (T : XAll X.K) (hg : Gl X "isinstance") (hm : X.mg "isinstance" = none) (hg2 : Gl X "ValueError") (hm2 : X.mg "ValueError" = none) (ha : SE X mg E Γ a ia)
    (h1 : starEach [a, .Name "ValueError" p2] X.env = (false, eval a X.env) :: starEach [.Name "ValueError" p2] X.env := by rfl) : SE X mg E Γ (.Call (.Name "isinstance" p) [a, .Name "ValueError" p2] [] pos) (.xis ia "ValueError") := by
  refine pe_imp (pe_callB call_isX hg hm PyProof.Rows.boot_isinstance (pa_cons ha (pa_cons (pe_bltn (v := .ty "ValueError") hg2 hm2 (by decide +kernel) rfl (by decide) (by decide)) pa_nil) h1) (he := h1)) fun σ H Q h => ?_
  refine tE_imp (xis_read (f := fun x => isExc x.cls "ValueError") (fun n _ x e => by rw [e]) h) fun v H1 ⟨ms, x, hv, hx, q⟩ => ?_
  refine ⟨ms, v, x, .ty "ValueError", .type "ValueError", _, rfl, hv, fun u r => r, T.c _ hx, T.v _ hx, ?_⟩
  have e : isExc x.cls "ValueError" = true := by unfold isExc; simp
  rw [e] at q; exact q
/-- str(a) -/
theorem call_strX (hu : X.A.units + 200 < cLine) : CallR X (.type "str") (fun xs H Q => ∃ (ms : Cells) (v : V) (c m : Str), xs = [v] ∧ RpV X.K H ms v (.msg c m) ∧ PySem.W.findIn X.K (.ref (He.ga X.K c)) "__str__" = some (some (.builtin "BaseException.__str__")) ∧ PySem.W.subIn X.K (.ref (He.ga X.K c)) (.type "BaseException") = some true ∧ Q (.str m) H) := by
  intro pins s σ H xs us Q I r h
  obtain ⟨ms, v, c, m, rfl, hv, h1, h2, q⟩ := h
  cases hv with
  | @msg _ _ a t k1 _ k2 _ =>
    cases r with
    | cons rx rr =>
      cases rr; cases rx
      obtain ⟨_, its, hits, htup⟩ := I.hok t _ k2
      obtain ⟨tk, rfl⟩ : ∃ tk, its = [Value.str m tk] := by
        cases hits with
        | cons r0 rr => cases rr; obtain ⟨tk, rfl⟩ := r0; exact ⟨tk, rfl⟩
      obtain ⟨o, ho, hc, n, hd⟩ := htup
      exact PySem.P.str_of_C_one (by omega) ⟨I.kIn, _, _, exT_at I.hok k1, rfl, rfl, rfl⟩ ⟨o, n, ho, hc, hd⟩ h1 h2 ⟨.str m, H, I, ⟨tk, rfl⟩, q⟩
theorem s_xstr (T : XAll X.K) (hu : X.A.units + 200 < cLine) (hg : Gl X "str") (hm : X.mg "str" = none) (ha : SE X mg E Γ a ia) (h1 : starEach [a] X.env = (false, eval a X.env) :: starEach [] X.env := by rfl) :
    SE X mg E Γ (.Call (.Name "str" p) [a] [] pos) (.xstr ia) := by
  refine pe_imp (pe_callTy (call_strX hu) hg hm (by decide +kernel) (pa_cons ha pa_nil h1) (by decide) (by decide) h1) fun σ H Q ⟨ms, ρ, S, he, hs, hp⟩ => ?_
  refine ⟨ms, ρ, S, he, hs, PostG.part (f := fun w => (asX w).bnd fun e => match e with
    | .msg c m => if c ∈ xNames then M.ret (W.d (.str m)) else M.no
    | .own _ _ => M.no) hp fun w S1 ms1 H1 _ e1 r1 h1 v hv => ?_⟩
  obtain ⟨x, rfl, h2⟩ := h1.xo
  cases x with
  | own _ _ => exact h2.elim
  | msg c m =>
    obtain ⟨hc, h3⟩ := h2.ite
    cases hv with
    | xo hv => exact ⟨ms1, v, c, m, rfl, hv, T.s c hc, (T.c c hc).hs, (Fin.of h3).now r1 (.str _)⟩
/-- a.f, f what an exception keeps -/
theorem pe_xarg {n : Str} {te : TE} (he : PE X a te) (hb : attributeBase a n X.env (eval a X.env) = eval a X.env) :
    PE X (.Attribute a n pos) (fun σ H Q => te σ H fun x H1 => ∃ (q dx C : Addr) (v : V), x = .ref q ∧ H1 q = some (exo q C (some dx)) ∧ H1 dx = some (exd dx [(n, v)]) ∧ XfC X.K C ∧ PySem.W.findIn X.K (.ref C) n = some none ∧ Q v H1) := by
  refine ⟨fun pins s σ H Q I h => attr_of hb (thn (he.run pins s σ H _ I h) fun u s1 hh => ?_)⟩
  obtain ⟨x, H1, I1, rx, q, dx, C, v, ex, k1, k2, T, hno, hq⟩ := hh
  subst ex
  obtain rfl : u = Value.ref q := rx
  obtain ⟨t1, ho⟩ := exo_at I1.hok k1
  obtain ⟨mA, hns, hr⟩ := exd_at I1.hok k2
  obtain ⟨od, hod, hl⟩ := lookIn_ns hns
  have l : ([(n, v)] : List (Str × V)).lookup n = some v := by simp [List.lookup]
  obtain ⟨u', hu, ru⟩ := RelO.some_of (v := v) (o := mA n) (by rw [← l]; exact hr n)
  have J : PySem.W.InstAt s1.heap q _ C (some od) := ⟨ho, rfl, rfl, hod⟩
  exact HandSPX.exc_get I1.kIn J T.ga T.gg T.exC (PySem.W.findObj_own T.hdC hno rfl (by rw [hl, hu])) (handed_of ru) ⟨v, H1, I1.tok _, ru, hq⟩
theorem s_xarg {n : Str} (T : XAll X.K) (ha : SE X mg E Γ a ia) (hb : attributeBase a n X.env (eval a X.env) = eval a X.env := by rfl) : SE X mg E Γ (.Attribute a n pos) (.xarg ia n) := by
  refine pe_imp (pe_xarg ha hb) fun σ H Q ⟨ms, ρ, S, he, hs, hp⟩ => ?_
  refine ⟨ms, ρ, S, he, hs, PostG.part (f := fun w => (asX w).bnd fun e => match e with
    | .msg _ _ => M.no
    | .own c y => if fieldOf c = n ∧ c ∈ (["OddRing", "TooMany"] : List Str) then M.ret (W.d y) else M.no) hp fun w S1 ms1 H1 _ e1 r1 h1 v hv => ?_⟩
  obtain ⟨x, rfl, h2⟩ := h1.xo
  cases x with
  | msg _ _ => exact h2.elim
  | own c y =>
    obtain ⟨⟨hc, hc2⟩, h3⟩ := h2.ite
    subst hc
    cases hv with
    | xo hv =>
      cases hv with
      | own k1 _ k2 _ kv => exact ⟨_, _, _, _, rfl, k1, k2, (T.f c hc2).1, (T.f c hc2).2, (Fin.of h3).now r1 kv⟩
/-- len of a list of exceptions -/
theorem s_xlen (hg : Gl X "len") (hm : X.mg "len" = none) (ha : SE X mg E Γ a ia) (h1 : starEach [a] X.env = (false, eval a X.env) :: starEach [] X.env := by rfl) : SE X mg E Γ (.Call (.Name "len" p) [a] [] pos) (.xlen ia) := by
  refine pe_imp (pe_callB call_len hg hm q_len (pa_cons ha pa_nil h1) (he := h1)) fun σ H Q ⟨ms, ρ, S, he, hs, hp⟩ => ?_
  refine ⟨ms, ρ, S, he, hs, PostG.part (f := fun w => (asXl w).bnd fun l => M.ret (W.d (.int l.length))) hp fun w S1 ms1 H1 _ e1 r1 h1 v hv => ?_⟩
  obtain ⟨l, rfl, h2⟩ := h1.xl
  cases hv with
  | @xl q xs _ k1 k0 k2 k3 => exact ⟨.ref q, xs.length, rfl, .inl ⟨xs, SqL.of k1, rfl⟩, by rw [k3.len]; exact (Fin.of h2).now r1 (.int _)⟩
/-- a[i] of such a list -/
theorem s_xix (ha : SE X mg E Γ a ia) (hb : SE X mg E Γ b ib) (hs : PlainIx b := by intro _ _; rfl) : SE X mg E Γ (.Subscript a b pos) (.xix ia ib) := by
  refine pe_imp (pe_ix ix_list ha hb hs) fun σ H Q ⟨ms, ρ, S, he, hs, hp⟩ => ?_
  refine ⟨ms, ρ, S, he, hs, PostG.part (f := fun x => (asXl x).bnd fun l => (ev Γ ib ρ).bnd fun y => (asInt y).bnd fun j => (M.opt (Qv.atL l j)).bnd fun e => M.ret (W.xo e)) hp fun wa S1 ms1 H1 _ e1 r1 h1 va hva => ?_⟩
  obtain ⟨l, rfl, h2⟩ := h1.xl
  refine ⟨ms1, ρ, S1, he.ext e1, r1, h2.part fun wb S2 ms2 H2 _ e2 r2 h3 vb hvb => ?_⟩
  obtain ⟨j, rfl, h4⟩ := h3.int
  obtain ⟨x, g, h5⟩ := h4.opt
  cases hva.ext e2 with
  | @xl q xs _ k1 k0 k2 k3 =>
    cases hvb with
    | d hvb =>
      cases hvb
      obtain ⟨v, hv, hr⟩ : ∃ v, atI xs j = some v ∧ RpV X.K H2 ms2 v x := by
        rw [atL_eq]
        unfold Qv.atL at g ⊢
        rw [k3.len]
        cases e : place l.length j with
        | none => rw [e] at g; cases g
        | some i => rw [e] at g; exact k3.get g
      have h5 : PostG mg E ms2 H2 (fun w ms' H' => ∀ v, RpW X.K H' ms' v w → Q v H') (M.ret (W.xo x) S2) := h5
      exact ⟨q, xs, j, v, rfl, rfl, SqL.of k1, hv, h5.ret r2 _ (.xo hr)⟩
end
end Qv

/-! Com -/
/-! the defs of all texts, as terms of the small language -/
namespace Qv
open PySem
def ib_is_int : ISs := (.cons (.ret (.and (.pr .isInt (.cons (.var 0) .nil)) (.and (.not (.pr .isBool (.cons (.var 0) .nil))) (.chn .le .le (.var 1) (.var 0) (.var 2))))) .nil)
def F_is_int : List W → M W := fdef (fun k => (([] : List (List W → M W))[k]?).getD (fun _ => M.no)) 3 3 ib_is_int
def ib_is_way : ISs := (.cons (.ifs (.or (.not (.pr .isTup (.cons (.var 1) .nil))) (.cmp .ne (.pr .len (.cons (.var 1) .nil)) (.cst (.int 2)))) (.cons (.ret (.cst (.bool false))) .nil) .nil) (.cons (.ret (.and (.fn 0 (.cons (.ix (.var 1) (.cst (.int 0))) (.cons (.cst (.int 0)) (.cons (.bin .sub (.var 0) (.cst (.int 1))) .nil)))) (.and (.fn 0 (.cons (.ix (.var 1) (.cst (.int 1))) (.cons (.cst (.int 0)) (.cons (.bin .sub (.var 0) (.cst (.int 1))) .nil)))) (.cmp .ne (.ix (.var 1) (.cst (.int 0))) (.ix (.var 1) (.cst (.int 1))))))) .nil))
def F_is_way : List W → M W := fdef (fun k => (([F_is_int] : List (List W → M W))[k]?).getD (fun _ => M.no)) 2 2 ib_is_way
def ib_rises : ISs := (.cons (.ret (.cmp .eq (.lc [1, 2] (.tp [1, 2]) (.zip (.var 0) (.sl (.var 0) (.so (.cst (.int 1))) .no)) (.so (.not (.cmp .lt (.var 1) (.var 2)))) (.cst (.int 1))) (.lst .nil))) .nil)
def F_rises : List W → M W := fdef (fun k => (([] : List (List W → M W))[k]?).getD (fun _ => M.no)) 1 3 ib_rises
def ib_is_web : ISs := (.cons (.ifs (.or (.not (.pr .isTup (.cons (.var 0) .nil))) (.or (.cmp .ne (.pr .len (.cons (.var 0) .nil)) (.cst (.int 2))) (.not (.fn 2 (.cons (.ix (.var 0) (.cst (.int 0))) (.cons (.cst (.int 1)) (.cons (.cst (.int 7)) .nil))))))) (.cons (.ret (.cst (.bool false))) .nil) .nil) (.cons (.ifs (.or (.not (.pr .isTup (.cons (.ix (.var 0) (.cst (.int 1))) .nil))) (.cmp .ne (.lc [1] (.nm 1) (.seq (.ix (.var 0) (.cst (.int 1)))) (.so (.not (.fn 1 (.cons (.ix (.var 0) (.cst (.int 0))) (.cons (.var 1) .nil))))) (.var 1)) (.lst .nil))) (.cons (.ret (.cst (.bool false))) .nil) .nil) (.cons (.ret (.fn 0 (.cons (.ix (.var 0) (.cst (.int 1))) .nil))) .nil)))
def F_is_web : List W → M W := fdef (fun k => (([F_rises, F_is_way, F_is_int] : List (List W → M W))[k]?).getD (fun _ => M.no)) 1 2 ib_is_web
def ib_is_part : ISs := (.cons (.ifs (.or (.not (.pr .isTup (.cons (.var 1) .nil))) (.cmp .ne (.lc [2] (.nm 2) (.seq (.var 1)) (.so (.not (.fn 1 (.cons (.var 2) (.cons (.cst (.int 0)) (.cons (.bin .sub (.var 0) (.cst (.int 1))) .nil)))))) (.var 2)) (.lst .nil))) (.cons (.ret (.cst (.bool false))) .nil) .nil) (.cons (.ret (.fn 0 (.cons (.var 1) .nil))) .nil))
def F_is_part : List W → M W := fdef (fun k => (([F_rises, F_is_int] : List (List W → M W))[k]?).getD (fun _ => M.no)) 2 3 ib_is_part
def ib_need_web : ISs := (.cons (.ifs (.not (.fn 0 (.cons (.var 0) .nil))) (.cons (.rai "InvalidWeb" .no) .nil) .nil) .nil)
def F_need_web : List W → M W := fdef (fun k => (([F_is_web] : List (List W → M W))[k]?).getD (fun _ => M.no)) 1 1 ib_need_web
def ib_need_lot : ISs := (.cons (.ifs (.not (.fn 0 (.cons (.ix (.var 0) (.cst (.int 0))) (.cons (.var 1) .nil)))) (.cons (.rai "InvalidLot" .no) .nil) .nil) .nil)
def F_need_lot : List W → M W := fdef (fun k => (([F_is_part] : List (List W → M W))[k]?).getD (fun _ => M.no)) 2 2 ib_need_lot
def ib_leads : ISs := (.cons (.ret (.lc [2, 3] (.tp [2, 3]) (.seq (.ix (.var 0) (.cst (.int 1)))) (.so (.cmp .eq (.var 2) (.var 1))) (.var 3))) .nil)
def F_leads : List W → M W := fdef (fun k => (([] : List (List W → M W))[k]?).getD (fun _ => M.no)) 2 4 ib_leads
def ib_within : ISs := (.cons (.ret (.lc [2] (.nm 2) (.seq (.ix (.var 0) (.cst (.int 1)))) (.so (.and (.cmp .isin (.ix (.var 2) (.cst (.int 0))) (.var 1)) (.cmp .isin (.ix (.var 2) (.cst (.int 1))) (.var 1)))) (.var 2))) .nil)
def F_within : List W → M W := fdef (fun k => (([] : List (List W → M W))[k]?).getD (fun _ => M.no)) 2 3 ib_within
def ib_uncovered : ISs := (.cons (.asg 2 (.lc [3] (.nm 3) (.rng1 (.ix (.var 0) (.cst (.int 0)))) (.so (.cmp .nin (.var 3) (.var 1))) (.var 3))) (.cons (.ret (.lc [3] (.nm 3) (.seq (.var 2)) (.so (.cmp .eq (.lc [4] (.nm 4) (.seq (.fn 0 (.cons (.var 0) (.cons (.var 3) .nil)))) (.so (.cmp .isin (.var 4) (.var 1))) (.var 4)) (.lst .nil))) (.var 3))) .nil))
def F_uncovered : List W → M W := fdef (fun k => (([F_leads] : List (List W → M W))[k]?).getD (fun _ => M.no)) 2 5 ib_uncovered
def ib_quiet : ISs := (.cons (.ret (.and (.cmp .eq (.fn 1 (.cons (.var 0) (.cons (.var 1) .nil))) (.lst .nil)) (.cmp .eq (.fn 0 (.cons (.var 0) (.cons (.var 1) .nil))) (.lst .nil)))) .nil)
def F_quiet : List W → M W := fdef (fun k => (([F_uncovered, F_within] : List (List W → M W))[k]?).getD (fun _ => M.no)) 2 2 ib_quiet
def ib_half : ISs := (.cons (.ifs (.or (.cmp .eq (.var 1) (.tup .nil)) (.cmp .ne (.fn 1 (.cons (.var 0) (.cons (.var 1) .nil))) (.lst .nil))) (.cons (.ret (.cst (.bool false))) .nil) .nil) (.cons (.asg 2 (.fn 0 (.cons (.var 0) (.cons (.var 1) .nil)))) (.cons (.ret (.cmp .eq (.lc [3] (.nm 3) (.seq (.ix (.var 0) (.cst (.int 1)))) (.so (.and (.cmp .isin (.ix (.var 3) (.cst (.int 0))) (.var 1)) (.cmp .isin (.ix (.var 3) (.cst (.int 1))) (.var 2)))) (.var 3)) (.lst .nil))) .nil)))
def F_half : List W → M W := fdef (fun k => (([F_uncovered, F_within] : List (List W → M W))[k]?).getD (fun _ => M.no)) 2 4 ib_half
def ib_is_lot : ISs := (.cons (.ex (.fn 1 (.cons (.var 0) .nil))) (.cons (.ret (.fn 0 (.cons (.ix (.var 0) (.cst (.int 0))) (.cons (.var 1) .nil)))) .nil))
def F_is_lot : List W → M W := fdef (fun k => (([F_is_part, F_need_web] : List (List W → M W))[k]?).getD (fun _ => M.no)) 2 2 ib_is_lot
def ib_is_loose : ISs := (.cons (.ex (.fn 2 (.cons (.var 0) .nil))) (.cons (.ex (.fn 1 (.cons (.var 0) (.cons (.var 1) .nil)))) (.cons (.ret (.cmp .eq (.fn 0 (.cons (.var 0) (.cons (.var 1) .nil))) (.lst .nil))) .nil)))
def F_is_loose : List W → M W := fdef (fun k => (([F_within, F_need_lot, F_need_web] : List (List W → M W))[k]?).getD (fun _ => M.no)) 2 2 ib_is_loose
def ib_is_quiet : ISs := (.cons (.ex (.fn 2 (.cons (.var 0) .nil))) (.cons (.ex (.fn 1 (.cons (.var 0) (.cons (.var 1) .nil)))) (.cons (.ret (.fn 0 (.cons (.var 0) (.cons (.var 1) .nil)))) .nil)))
def F_is_quiet : List W → M W := fdef (fun k => (([F_quiet, F_need_lot, F_need_web] : List (List W → M W))[k]?).getD (fun _ => M.no)) 2 2 ib_is_quiet
def ib_is_half : ISs := (.cons (.ex (.fn 2 (.cons (.var 0) .nil))) (.cons (.ex (.fn 1 (.cons (.var 0) (.cons (.var 1) .nil)))) (.cons (.ret (.fn 0 (.cons (.var 0) (.cons (.var 1) .nil)))) .nil)))
def F_is_half : List W → M W := fdef (fun k => (([F_half, F_need_lot, F_need_web] : List (List W → M W))[k]?).getD (fun _ => M.no)) 2 2 ib_is_half
def ib__law_jug_of : ISs := (.cons (.asg 2 (.bin .add (.bin .mul (.cst (.int 38011)) (.var 1)) (.cst (.int 61)))) (.cons (.ifs (.cmp .lt (.var 1) (.slen (.var 0))) (.cons (.asg 2 (.bin .mod (.pr .abs (.cons (.pr .int (.cons (.six (.var 0) (.var 1)) .nil)) .nil)) (.bin .mul (.bin .mul (.bin .mul (.bin .pow (.cst (.int 10)) (.cst (.int 60))) (.bin .pow (.cst (.int 10)) (.cst (.int 60)))) (.bin .pow (.cst (.int 10)) (.cst (.int 60)))) (.bin .pow (.cst (.int 10)) (.cst (.int 60)))))) .nil) (.cons (.ifs (.cmp .gt (.slen (.var 0)) (.cst (.int 0))) (.cons (.asg 2 (.bin .add (.var 2) (.bin .mod (.pr .abs (.cons (.pr .int (.cons (.six (.var 0) (.cst (.int 0))) .nil)) .nil)) (.cst (.int 1000297))))) .nil) .nil) .nil)) (.cons (.ret (.mls (.cons (.ifx (.cmp .ge (.var 2) (.bin .pow (.cst (.int 10)) (.cst (.int 18)))) (.var 2) (.cst (.int 0))) (.cons (.bin .add (.bin .mod (.pr .int (.cons (.bin .add (.bin .add (.bin .mul (.bin .mod (.var 2) (.cst (.int 2147482561))) (.cst (.int 61))) (.bin .mul (.cst (.int 151)) (.var 1))) (.cst (.int 101))) .nil)) (.cst (.int 2147482561))) (.cst (.int 1))) .nil)))) .nil)))
def F__law_jug_of : List W → M W := fdef (fun k => (([] : List (List W → M W))[k]?).getD (fun _ => M.no)) 2 3 ib__law_jug_of
def ib__law_dip : ISs := (.cons (.ifs (.cmp .gt (.ix (.var 0) (.cst (.int 0))) (.cst (.int 0))) (.cons (.asg 2 (.bin .mod (.pr .int (.cons (.ix (.var 0) (.cst (.int 0))) .nil)) (.var 1))) (.cons (.sti (.var 0) (.cst (.int 0)) (.bin .fdiv (.ix (.var 0) (.cst (.int 0))) (.var 1))) (.cons (.ret (.var 2)) .nil))) .nil) (.cons (.unp (.tp [2, 3]) (.tup (.cons (.cst (.int 0)) (.cons (.cst (.int 1)) .nil)))) (.cons (.whl fuel (.or (.cmp .lt (.var 3) (.var 1)) (.cmp .eq (.var 3) (.cst (.int 1)))) (.cons (.sti (.var 0) (.cst (.int 1)) (.bin .mod (.pr .int (.cons (.bin .add (.bin .mul (.ix (.var 0) (.cst (.int 1))) (.cst (.int 16361))) (.cst (.int 163))) .nil)) (.cst (.int 2147482561)))) (.cons (.asg 2 (.bin .add (.bin .mul (.var 2) (.cst (.int 8192))) (.bin .mod (.pr .int (.cons (.bin .fdiv (.ix (.var 0) (.cst (.int 1))) (.cst (.int 65827))) .nil)) (.cst (.int 8192))))) (.cons (.asg 3 (.bin .mul (.var 3) (.cst (.int 8192)))) .nil)))) (.cons (.ret (.bin .mod (.pr .int (.cons (.var 2) .nil)) (.var 1))) .nil))))
def F__law_dip : List W → M W := fdef (fun k => (([] : List (List W → M W))[k]?).getD (fun _ => M.no)) 2 4 ib__law_dip
def ib__law_any : ISs := (.cons (.ret (.ix (.var 1) (.fn 0 (.cons (.var 0) (.cons (.pr .len (.cons (.var 1) .nil)) .nil))))) .nil)
def F__law_any : List W → M W := fdef (fun k => (([F__law_dip] : List (List W → M W))[k]?).getD (fun _ => M.no)) 2 2 ib__law_any
def ib__law_drawn : ISs := (.cons (.par [3, 4, 5] (.cons (.bin .add (.var 1) (.fn 0 (.cons (.var 0) (.cons (.bin .add (.bin .sub (.var 2) (.var 1)) (.cst (.int 1))) .nil)))) (.cons (.fn 1 (.cons (.var 0) (.cons (.lst (.cons (.cst (.int 2)) (.cons (.cst (.int 3)) (.cons (.cst (.int 4)) (.cons (.cst (.int 6)) .nil))))) .nil))) (.cons (.mls .nil) .nil)))) (.cons (.forr (.nm 6) (.rng1 (.var 3)) (.cons (.forr (.nm 7) (.rng1 (.var 3)) (.cons (.ifs (.and (.cmp .ne (.var 6) (.var 7)) (.cmp .eq (.fn 0 (.cons (.var 0) (.cons (.var 4) .nil))) (.cst (.int 0)))) (.cons (.app (.var 5) (.tup (.cons (.var 6) (.cons (.var 7) .nil)))) .nil) .nil) .nil)) .nil)) (.cons (.ret (.tup (.cons (.var 3) (.cons (.pr .tuple (.cons (.var 5) .nil)) .nil)))) .nil)))
def F__law_drawn : List W → M W := fdef (fun k => (([F__law_dip, F__law_any] : List (List W → M W))[k]?).getD (fun _ => M.no)) 3 8 ib__law_drawn
def ib__law_lots : ISs := (.cons (.asg 1 (.lst (.cons (.tup .nil) .nil))) (.cons (.forr (.nm 2) (.rng1 (.var 0)) (.cons (.asg 1 (.bin .add (.var 1) (.lc [3] (.nm 3) (.seq (.var 1)) .no (.bin .add (.var 3) (.tup (.cons (.var 2) .nil)))))) .nil)) (.cons (.ret (.pr .sorted (.cons (.var 1) .nil))) .nil)))
def F__law_lots : List W → M W := fdef (fun k => (([] : List (List W → M W))[k]?).getD (fun _ => M.no)) 1 4 ib__law_lots
def ib__law_is_loose : ISs := (.cons (.ret (.cmp .eq (.lc [2] (.nm 2) (.seq (.var 0)) (.so (.and (.cmp .isin (.ix (.var 2) (.cst (.int 0))) (.var 1)) (.cmp .isin (.ix (.var 2) (.cst (.int 1))) (.var 1)))) (.var 2)) (.lst .nil))) .nil)
def F__law_is_loose : List W → M W := fdef (fun k => (([] : List (List W → M W))[k]?).getD (fun _ => M.no)) 2 3 ib__law_is_loose
def ib__law_lacking : ISs := (.cons (.asg 3 (.lc [4] (.nm 4) (.seq (.var 1)) (.so (.cmp .isin (.ix (.var 4) (.cst (.int 1))) (.var 2))) (.ix (.var 4) (.cst (.int 0))))) (.cons (.ret (.lc [5] (.nm 5) (.rng1 (.var 0)) (.so (.and (.cmp .nin (.var 5) (.var 2)) (.cmp .nin (.var 5) (.var 3)))) (.var 5))) .nil))
def F__law_lacking : List W → M W := fdef (fun k => (([] : List (List W → M W))[k]?).getD (fun _ => M.no)) 3 6 ib__law_lacking
def ib__law_is_quiet : ISs := (.cons (.ret (.and (.fn 1 (.cons (.var 1) (.cons (.var 2) .nil))) (.cmp .eq (.fn 0 (.cons (.var 0) (.cons (.var 1) (.cons (.var 2) .nil)))) (.lst .nil)))) .nil)
def F__law_is_quiet : List W → M W := fdef (fun k => (([F__law_lacking, F__law_is_loose] : List (List W → M W))[k]?).getD (fun _ => M.no)) 3 3 ib__law_is_quiet
def ib__law_int : ISs := (.cons (.ret (.and (.pr .isInt (.cons (.var 0) .nil)) (.and (.not (.pr .isBool (.cons (.var 0) .nil))) (.chn .le .le (.var 1) (.var 0) (.var 2))))) .nil)
def F__law_int : List W → M W := fdef (fun k => (([] : List (List W → M W))[k]?).getD (fun _ => M.no)) 3 3 ib__law_int
def ib__law_is_web : ISs := (.cons (.ifs (.or (.not (.pr .isTup (.cons (.var 0) .nil))) (.or (.cmp .ne (.pr .len (.cons (.var 0) .nil)) (.cst (.int 2))) (.not (.fn 0 (.cons (.ix (.var 0) (.cst (.int 0))) (.cons (.cst (.int 1)) (.cons (.cst (.int 7)) .nil))))))) (.cons (.ret (.cst (.bool false))) .nil) .nil) (.cons (.ifs (.not (.pr .isTup (.cons (.ix (.var 0) (.cst (.int 1))) .nil))) (.cons (.ret (.cst (.bool false))) .nil) .nil) (.cons (.asg 1 (.tup (.cons (.neg (.cst (.int 1))) (.cons (.neg (.cst (.int 1))) .nil)))) (.cons (.forr (.nm 2) (.seq (.ix (.var 0) (.cst (.int 1)))) (.cons (.ifs (.or (.not (.pr .isTup (.cons (.var 2) .nil))) (.cmp .ne (.pr .len (.cons (.var 2) .nil)) (.cst (.int 2)))) (.cons (.ret (.cst (.bool false))) .nil) .nil) (.cons (.ifs (.or (.not (.fn 0 (.cons (.ix (.var 2) (.cst (.int 0))) (.cons (.cst (.int 0)) (.cons (.bin .sub (.ix (.var 0) (.cst (.int 0))) (.cst (.int 1))) .nil))))) (.not (.fn 0 (.cons (.ix (.var 2) (.cst (.int 1))) (.cons (.cst (.int 0)) (.cons (.bin .sub (.ix (.var 0) (.cst (.int 0))) (.cst (.int 1))) .nil)))))) (.cons (.ret (.cst (.bool false))) .nil) .nil) (.cons (.ifs (.or (.cmp .eq (.ix (.var 2) (.cst (.int 0))) (.ix (.var 2) (.cst (.int 1)))) (.not (.cmp .lt (.var 1) (.var 2)))) (.cons (.ret (.cst (.bool false))) .nil) .nil) (.cons (.asg 1 (.var 2)) .nil))))) (.cons (.ret (.cst (.bool true))) .nil)))))
def F__law_is_web : List W → M W := fdef (fun k => (([F__law_int] : List (List W → M W))[k]?).getD (fun _ => M.no)) 1 3 ib__law_is_web
def ib__law_is_lot : ISs := (.cons (.ifs (.not (.pr .isTup (.cons (.var 1) .nil))) (.cons (.ret (.cst (.bool false))) .nil) .nil) (.cons (.asg 2 (.neg (.cst (.int 1)))) (.cons (.forr (.nm 3) (.seq (.var 1)) (.cons (.ifs (.not (.fn 0 (.cons (.var 3) (.cons (.bin .add (.var 2) (.cst (.int 1))) (.cons (.bin .sub (.var 0) (.cst (.int 1))) .nil))))) (.cons (.ret (.cst (.bool false))) .nil) .nil) (.cons (.asg 2 (.var 3)) .nil))) (.cons (.ret (.cst (.bool true))) .nil))))
def F__law_is_lot : List W → M W := fdef (fun k => (([F__law_int] : List (List W → M W))[k]?).getD (fun _ => M.no)) 2 4 ib__law_is_lot
def ib__law_is_half : ISs := (.cons (.asg 2 (.fn 1 (.cons (.ix (.var 0) (.cst (.int 0))) (.cons (.ix (.var 0) (.cst (.int 1))) (.cons (.var 1) .nil))))) (.cons (.asg 3 (.lc [4] (.nm 4) (.seq (.ix (.var 0) (.cst (.int 1)))) (.so (.and (.cmp .isin (.ix (.var 4) (.cst (.int 0))) (.var 1)) (.cmp .isin (.ix (.var 4) (.cst (.int 1))) (.var 2)))) (.var 4))) (.cons (.ret (.and (.cmp .ne (.var 1) (.tup .nil)) (.and (.fn 0 (.cons (.ix (.var 0) (.cst (.int 1))) (.cons (.var 1) .nil))) (.cmp .eq (.var 3) (.lst .nil))))) .nil)))
def F__law_is_half : List W → M W := fdef (fun k => (([F__law_is_loose, F__law_lacking] : List (List W → M W))[k]?).getD (fun _ => M.no)) 2 5 ib__law_is_half
def ib__law_bent : ISs := (.cons (.asg 2 (.fn 2 (.cons (.var 0) (.cons (.cst (.int 6)) .nil)))) (.cons (.ifs (.and (.pr .isTup (.cons (.var 1) .nil)) (.and (.cmp .ne (.var 1) (.tup .nil)) (.cmp .gt (.var 2) (.cst (.int 0))))) (.cons (.asg 3 (.fn 2 (.cons (.var 0) (.cons (.pr .len (.cons (.var 1) .nil)) .nil)))) (.cons (.ifs (.cmp .eq (.var 2) (.cst (.int 1))) (.cons (.ret (.bin .add (.sl (.var 1) .no (.so (.var 3))) (.sl (.var 1) (.so (.bin .add (.var 3) (.cst (.int 1)))) .no))) .nil) .nil) (.cons (.ifs (.cmp .eq (.var 2) (.cst (.int 2))) (.cons (.ret (.bin .add (.sl (.var 1) .no (.so (.bin .add (.var 3) (.cst (.int 1))))) (.sl (.var 1) (.so (.var 3)) .no))) .nil) .nil) (.cons (.ret (.bin .add (.bin .add (.sl (.var 1) .no (.so (.var 3))) (.tup (.cons (.fn 1 (.cons (.var 0) (.cons (.ix (.var 1) (.var 3)) .nil))) .nil))) (.sl (.var 1) (.so (.bin .add (.var 3) (.cst (.int 1)))) .no))) .nil)))) .nil) (.cons (.ret (.fn 0 (.cons (.var 0) (.cons (.lst (.cons (.cst .none) (.cons (.cst (.bool true)) (.cons (.cst (.int 0)) (.cons (.cst (.int 1)) (.cons (.cst (.int 2)) (.cons (.cst (.int 3)) (.cons (.cst (.int 6)) (.cons (.cst (.int 7)) (.cons (.cst (.int 8)) (.cons (.neg (.cst (.int 1))) (.cons (.tup .nil) (.cons (.lst .nil) (.cons (.tup (.cons (.cst (.int 0)) (.cons (.cst (.int 1)) .nil))) (.cons (.tup (.cons (.cst (.int 1)) (.cons (.cst (.int 0)) .nil))) (.cons (.tup (.cons (.cst (.int 2)) (.cons (.cst (.int 2)) .nil))) (.cons (.cst (.str "1")) (.cons (.tup (.cons (.tup (.cons (.cst (.int 0)) (.cons (.cst (.int 1)) .nil))) .nil)) .nil)))))))))))))))))) .nil)))) .nil)))
def R__law_bent : Nat → List W → M W
  | 0 => fun _ => M.no
  | n + 1 => fdef (fun k => (([F__law_any, R__law_bent n, F__law_dip] : List (List W → M W))[k]?).getD (fun _ => M.no)) 2 4 ib__law_bent
def F__law_bent : List W → M W := R__law_bent 10
def ib_law_k01 : ISs := (.cons (.forr (.nm 1) (.rng1 (.bin .add (.cst (.int 1)) (.pr .min2 (.cons (.slen (.var 0)) (.cons (.cst (.int 8)) .nil))))) (.cons (.asg 2 (.fn 14 (.cons (.var 0) (.cons (.var 1) .nil)))) (.cons (.asg 3 (.fn 13 (.cons (.var 2) (.cons (.cst (.int 1)) (.cons (.cst (.int 7)) .nil))))) (.cons (.asg 4 (.fn 12 (.cons (.ix (.var 3) (.cst (.int 0))) .nil))) (.cons (.ifs (.or (.cmp .isnt (.fn 2 (.cons (.pr .list (.cons (.var 3) .nil)) .nil)) (.cst (.bool false))) (.not (.fn 10 (.cons (.var 3) .nil)))) (.cons (.ret (.cst (.bool false))) .nil) .nil) (.cons (.forr (.nm 5) (.rng1 (.cst (.int 30))) (.cons (.asg 6 (.fn 11 (.cons (.var 2) (.cons (.var 4) .nil)))) (.cons (.forr (.nm 7) (.seq (.lst (.cons (.var 3) (.cons (.fn 8 (.cons (.var 2) (.cons (.var 3) .nil))) .nil)))) (.cons (.asg 8 (.fn 2 (.cons (.var 7) .nil))) (.cons (.ifs (.or (.cmp .ne (.var 8) (.fn 10 (.cons (.var 7) .nil))) (.not (.pr .isBool (.cons (.var 8) .nil)))) (.cons (.ret (.cst (.bool false))) .nil) .nil) .nil))) (.cons (.forr (.nm 7) (.seq (.lst (.cons (.var 6) (.cons (.fn 8 (.cons (.var 2) (.cons (.var 6) .nil))) (.cons (.pr .list (.cons (.var 6) .nil)) .nil))))) (.cons (.ifs (.cmp .ne (.fn 9 (.cons (.var 3) (.cons (.var 7) .nil))) (.fn 3 (.cons (.ix (.var 3) (.cst (.int 0))) (.cons (.var 7) .nil)))) (.cons (.ret (.cst (.bool false))) .nil) .nil) .nil)) (.cons (.asg 8 (.lst (.cons (.fn 4 (.cons (.var 3) (.cons (.var 6) .nil))) (.cons (.fn 0 (.cons (.var 3) (.cons (.var 6) .nil))) (.cons (.fn 1 (.cons (.var 3) (.cons (.var 6) .nil))) .nil))))) (.cons (.asg 9 (.lst (.cons (.fn 7 (.cons (.ix (.var 3) (.cst (.int 1))) (.cons (.var 6) .nil))) (.cons (.fn 6 (.cons (.ix (.var 3) (.cst (.int 0))) (.cons (.ix (.var 3) (.cst (.int 1))) (.cons (.var 6) .nil)))) .nil)))) (.cons (.ifs (.or (.cmp .ne (.var 8) (.bin .add (.var 9) (.lst (.cons (.fn 5 (.cons (.var 3) (.cons (.var 6) .nil))) .nil)))) (.not (.pr .isBool (.cons (.ix (.var 8) (.cst (.int 2))) .nil)))) (.cons (.ret (.cst (.bool false))) .nil) .nil) .nil))))))) (.cons (.forr (.nm 10) (.seq (.lst (.cons (.cst .none) (.cons (.tup (.cons (.ix (.var 3) (.cst (.int 0))) .nil)) (.cons (.tup (.cons (.cst (.int 0)) (.cons (.cst (.int 0)) .nil))) (.cons (.tup (.cons (.cst (.bool true)) .nil)) (.cons (.lst (.cons (.cst (.int 0)) .nil)) (.cons (.tup (.cons (.neg (.cst (.int 1))) .nil)) .nil)))))))) (.cons (.ifs (.or (.cmp .ne (.word (.fn 4 (.cons (.var 3) (.cons (.var 10) .nil)))) (.cst (.str "lot"))) (.fn 3 (.cons (.ix (.var 3) (.cst (.int 0))) (.cons (.var 10) .nil)))) (.cons (.ret (.cst (.bool false))) .nil) .nil) .nil)) .nil))))))) (.cons (.asg 11 (.lst (.cons (.tup (.cons (.cst (.int 1)) (.cons (.tup .nil) .nil))) (.cons (.tup (.cons (.cst (.int 7)) (.cons (.tup (.cons (.tup (.cons (.cst (.int 0)) (.cons (.cst (.int 6)) .nil))) (.cons (.tup (.cons (.cst (.int 6)) (.cons (.cst (.int 0)) .nil))) .nil))) .nil))) (.cons (.tup (.cons (.cst (.int 0)) (.cons (.tup .nil) .nil))) (.cons (.tup (.cons (.cst (.int 8)) (.cons (.tup .nil) .nil))) (.cons (.tup (.cons (.cst (.int 3)) (.cons (.tup (.cons (.tup (.cons (.cst (.int 0)) (.cons (.cst (.int 0)) .nil))) .nil)) .nil))) (.cons (.tup (.cons (.cst (.int 3)) (.cons (.tup (.cons (.tup (.cons (.cst (.int 1)) (.cons (.cst (.int 2)) .nil))) (.cons (.tup (.cons (.cst (.int 0)) (.cons (.cst (.int 1)) .nil))) .nil))) .nil))) (.cons (.tup (.cons (.cst (.int 3)) (.cons (.tup (.cons (.tup (.cons (.cst (.int 0)) (.cons (.cst (.int 3)) .nil))) .nil)) .nil))) .nil))))))))) (.cons (.ifs (.cmp .ne (.lc [13] (.nm 13) (.seq (.var 11)) .no (.fn 2 (.cons (.var 13) .nil))) (.lst (.cons (.cst (.bool true)) (.cons (.cst (.bool true)) (.cons (.cst (.bool false)) (.cons (.cst (.bool false)) (.cons (.cst (.bool false)) (.cons (.cst (.bool false)) (.cons (.cst (.bool false)) .nil))))))))) (.cons (.ret (.cst (.bool false))) .nil) .nil) (.cons (.asg 12 (.tup (.cons (.cst (.int 4)) (.cons (.tup (.cons (.tup (.cons (.cst (.int 0)) (.cons (.cst (.int 1)) .nil))) (.cons (.tup (.cons (.cst (.int 1)) (.cons (.cst (.int 2)) .nil))) (.cons (.tup (.cons (.cst (.int 2)) (.cons (.cst (.int 3)) .nil))) .nil)))) .nil)))) (.cons (.ifs (.cmp .ne (.lst (.cons (.fn 1 (.cons (.var 12) (.cons (.tup (.cons (.cst (.int 3)) .nil)) .nil))) (.cons (.fn 1 (.cons (.var 12) (.cons (.tup (.cons (.cst (.int 1)) .nil)) .nil))) (.cons (.fn 1 (.cons (.var 12) (.cons (.tup .nil) .nil))) .nil)))) (.lst (.cons (.cst (.bool true)) (.cons (.cst (.bool false)) (.cons (.cst (.bool false)) .nil))))) (.cons (.ret (.cst (.bool false))) .nil) .nil) (.cons (.ret (.fn 0 (.cons (.tup (.cons (.cst (.int 1)) (.cons (.tup .nil) .nil))) (.cons (.tup (.cons (.cst (.int 0)) .nil)) .nil)))) .nil))))))
def F_law_k01 : List W → M W := fdef (fun k => (([F_is_quiet, F_is_half, F_is_web, F__law_is_lot, F_is_loose, F__law_is_half, F__law_is_quiet, F__law_is_loose, F__law_bent, F_is_lot, F__law_is_web, F__law_any, F__law_lots, F__law_drawn, F__law_jug_of] : List (List W → M W))[k]?).getD (fun _ => M.no)) 1 14 ib_law_k01
def ib_rings_of : ISs := (.cons (.par [1, 2] (.cons (.lst .nil) (.cons (.lc [5] (.nm 5) (.rng1 (.ix (.var 0) (.cst (.int 0)))) .no (.tup (.cons (.var 5) .nil))) .nil))) (.cons (.whl fuel (.cmp .ne (.var 2) (.lst .nil)) (.cons (.asg 1 (.bin .add (.var 1) (.lc [4] (.nm 4) (.seq (.var 2)) (.so (.and (.cmp .gt (.pr .len (.cons (.var 4) .nil)) (.cst (.int 1))) (.cmp .isin (.ix (.var 4) (.cst (.int 0))) (.fn 0 (.cons (.var 0) (.cons (.ix (.var 4) (.neg (.cst (.int 1)))) .nil)))))) (.var 4)))) (.cons (.asg 3 (.lst .nil)) (.cons (.forr (.nm 4) (.seq (.var 2)) (.cons (.asg 3 (.bin .add (.var 3) (.lc [6] (.nm 6) (.seq (.fn 0 (.cons (.var 0) (.cons (.ix (.var 4) (.neg (.cst (.int 1)))) .nil)))) (.so (.and (.cmp .gt (.var 6) (.ix (.var 4) (.cst (.int 0)))) (.cmp .nin (.var 6) (.var 4)))) (.bin .add (.var 4) (.tup (.cons (.var 6) .nil)))))) .nil)) (.cons (.asg 2 (.var 3)) .nil))))) (.cons (.ret (.var 1)) .nil)))
def F_rings_of : List W → M W := fdef (fun k => (([F_leads] : List (List W → M W))[k]?).getD (fun _ => M.no)) 1 7 ib_rings_of
def ib_odd_of : ISs := (.cons (.asg 1 (.lc [2] (.nm 2) (.seq (.fn 0 (.cons (.var 0) .nil))) (.so (.cmp .eq (.bin .mod (.pr .len (.cons (.var 2) .nil)) (.cst (.int 2))) (.cst (.int 1)))) (.var 2))) (.cons (.ret (.ifx (.cmp .ne (.var 1) (.lst .nil)) (.ix (.var 1) (.cst (.int 0))) (.cst .none))) .nil))
def F_odd_of : List W → M W := fdef (fun k => (([F_rings_of] : List (List W → M W))[k]?).getD (fun _ => M.no)) 1 3 ib_odd_of
def ib_backs : ISs := (.cons (.ret (.pr .len (.cons (.lc [2, 3] (.tp [2, 3]) (.zip (.var 1) (.bin .add (.sl (.var 1) (.so (.cst (.int 1))) .no) (.sl (.var 1) .no (.so (.cst (.int 1)))))) (.so (.cmp .isin (.tup (.cons (.var 3) (.cons (.var 2) .nil))) (.ix (.var 0) (.cst (.int 1))))) (.cst (.int 1))) .nil))) .nil)
def F_backs : List W → M W := fdef (fun k => (([] : List (List W → M W))[k]?).getD (fun _ => M.no)) 2 4 ib_backs
def ib_rings : ISs := (.cons (.ex (.fn 1 (.cons (.var 0) .nil))) (.cons (.ret (.fn 0 (.cons (.var 0) .nil))) .nil))
def F_rings : List W → M W := fdef (fun k => (([F_rings_of, F_need_web] : List (List W → M W))[k]?).getD (fun _ => M.no)) 1 1 ib_rings
def ib_odd_ring : ISs := (.cons (.ex (.fn 1 (.cons (.var 0) .nil))) (.cons (.ret (.fn 0 (.cons (.var 0) .nil))) .nil))
def F_odd_ring : List W → M W := fdef (fun k => (([F_odd_of, F_need_web] : List (List W → M W))[k]?).getD (fun _ => M.no)) 1 1 ib_odd_ring
def ib_is_tame : ISs := (.cons (.ex (.fn 2 (.cons (.var 0) .nil))) (.cons (.ret (.cmp .eq (.lc [1] (.nm 1) (.seq (.fn 0 (.cons (.var 0) .nil))) (.so (.and (.cmp .eq (.bin .mod (.pr .len (.cons (.var 1) .nil)) (.cst (.int 2))) (.cst (.int 1))) (.cmp .lt (.fn 1 (.cons (.var 0) (.cons (.var 1) .nil))) (.cst (.int 2))))) (.var 1)) (.lst .nil))) .nil))
def F_is_tame : List W → M W := fdef (fun k => (([F_rings_of, F_backs, F_need_web] : List (List W → M W))[k]?).getD (fun _ => M.no)) 1 2 ib_is_tame
def ib__law_rows : ISs := (.cons (.par [1, 2] (.cons (.lst .nil) (.cons (.lc [6] (.nm 6) (.rng1 (.var 0)) .no (.tup (.cons (.var 6) .nil))) .nil))) (.cons (.forr (.nm 3) (.rng1 (.bin .sub (.var 0) (.cst (.int 1)))) (.cons (.asg 4 (.lst .nil)) (.cons (.forr (.nm 5) (.seq (.var 2)) (.cons (.asg 4 (.bin .add (.var 4) (.lc [6] (.nm 6) (.rng2 (.bin .add (.ix (.var 5) (.cst (.int 0))) (.cst (.int 1))) (.var 0)) (.so (.cmp .nin (.var 6) (.var 5))) (.bin .add (.var 5) (.tup (.cons (.var 6) .nil)))))) .nil)) (.cons (.asg 2 (.var 4)) (.cons (.asg 1 (.bin .add (.var 1) (.var 2))) .nil))))) (.cons (.ret (.var 1)) .nil)))
def F__law_rows : List W → M W := fdef (fun k => (([] : List (List W → M W))[k]?).getD (fun _ => M.no)) 1 7 ib__law_rows
def ib__law_goes : ISs := (.cons (.ret (.cmp .eq (.lc [2] (.nm 2) (.rng1 (.pr .len (.cons (.var 1) .nil))) (.so (.cmp .nin (.tup (.cons (.ix (.var 1) (.bin .sub (.var 2) (.cst (.int 1)))) (.cons (.ix (.var 1) (.var 2)) .nil))) (.ix (.var 0) (.cst (.int 1))))) (.var 2)) (.lst .nil))) .nil)
def F__law_goes : List W → M W := fdef (fun k => (([] : List (List W → M W))[k]?).getD (fun _ => M.no)) 2 3 ib__law_goes
def ib_law_k02 : ISs := (.cons (.forr (.nm 1) (.rng1 (.bin .add (.cst (.int 1)) (.pr .min2 (.cons (.slen (.var 0)) (.cons (.cst (.int 8)) .nil))))) (.cons (.asg 2 (.fn 6 (.cons (.var 0) (.cons (.var 1) .nil)))) (.cons (.forr (.nm 3) (.rng1 (.cst (.int 3))) (.cons (.asg 4 (.fn 5 (.cons (.var 2) (.cons (.cst (.int 1)) (.cons (.cst (.int 6)) .nil))))) (.cons (.asg 5 (.lc [8] (.nm 8) (.seq (.fn 3 (.cons (.ix (.var 4) (.cst (.int 0))) .nil))) (.so (.fn 4 (.cons (.var 4) (.cons (.var 8) .nil)))) (.var 8))) (.cons (.asg 6 (.lc [8] (.nm 8) (.seq (.var 5)) (.so (.cmp .eq (.bin .mod (.pr .len (.cons (.var 8) .nil)) (.cst (.int 2))) (.cst (.int 1)))) (.var 8))) (.cons (.ifs (.or (.cmp .ne (.fn 2 (.cons (.var 4) .nil)) (.var 5)) (.cmp .ne (.fn 0 (.cons (.var 4) .nil)) (.ifx (.cmp .ne (.var 6) (.lst .nil)) (.ix (.var 6) (.cst (.int 0))) (.cst .none)))) (.cons (.ret (.cst (.bool false))) .nil) .nil) (.cons (.asg 7 (.lst .nil)) (.cons (.forr (.nm 8) (.seq (.var 6)) (.cons (.asg 9 (.lc [15] (.nm 15) (.rng1 (.pr .len (.cons (.var 8) .nil))) (.so (.cmp .isin (.tup (.cons (.ix (.var 8) (.var 15)) (.cons (.ix (.var 8) (.bin .sub (.var 15) (.cst (.int 1)))) .nil))) (.ix (.var 4) (.cst (.int 1))))) (.var 15))) (.cons (.asg 7 (.bin .add (.var 7) (.ifx (.cmp .lt (.pr .len (.cons (.var 9) .nil)) (.cst (.int 2))) (.lst (.cons (.var 8) .nil)) (.lst .nil)))) .nil))) (.cons (.ifs (.cmp .ne (.fn 1 (.cons (.var 4) .nil)) (.cmp .eq (.var 7) (.lst .nil))) (.cons (.ret (.cst (.bool false))) .nil) .nil) .nil)))))))) .nil))) (.cons (.asg 10 (.tup (.cons (.cst (.int 3)) (.cons (.tup (.cons (.tup (.cons (.cst (.int 0)) (.cons (.cst (.int 1)) .nil))) (.cons (.tup (.cons (.cst (.int 1)) (.cons (.cst (.int 0)) .nil))) (.cons (.tup (.cons (.cst (.int 1)) (.cons (.cst (.int 2)) .nil))) (.cons (.tup (.cons (.cst (.int 2)) (.cons (.cst (.int 0)) .nil))) .nil))))) .nil)))) (.cons (.ifs (.or (.cmp .ne (.fn 2 (.cons (.var 10) .nil)) (.lst (.cons (.tup (.cons (.cst (.int 0)) (.cons (.cst (.int 1)) .nil))) (.cons (.tup (.cons (.cst (.int 0)) (.cons (.cst (.int 1)) (.cons (.cst (.int 2)) .nil)))) .nil)))) (.or (.fn 1 (.cons (.var 10) .nil)) (.cmp .ne (.fn 2 (.cons (.tup (.cons (.cst (.int 1)) (.cons (.tup .nil) .nil))) .nil)) (.lst .nil)))) (.cons (.ret (.cst (.bool false))) .nil) .nil) (.cons (.ifs (.not (.fn 1 (.cons (.tup (.cons (.cst (.int 3)) (.cons (.tup (.cons (.tup (.cons (.cst (.int 0)) (.cons (.cst (.int 1)) .nil))) (.cons (.tup (.cons (.cst (.int 0)) (.cons (.cst (.int 2)) .nil))) (.cons (.tup (.cons (.cst (.int 1)) (.cons (.cst (.int 0)) .nil))) (.cons (.tup (.cons (.cst (.int 1)) (.cons (.cst (.int 2)) .nil))) (.cons (.tup (.cons (.cst (.int 2)) (.cons (.cst (.int 0)) .nil))) .nil)))))) .nil))) .nil))) (.cons (.ret (.cst (.bool false))) .nil) .nil) (.cons (.asg 11 (.lst .nil)) (.cons (.forr (.nm 12) (.rng1 (.cst (.int 4))) (.cons (.asg 11 (.bin .add (.var 11) (.lc [14] (.nm 14) (.rng1 (.cst (.int 4))) (.so (.cmp .ne (.var 14) (.var 12))) (.tup (.cons (.var 12) (.cons (.var 14) .nil)))))) .nil)) (.cons (.asg 13 (.tup (.cons (.cst (.int 4)) (.cons (.pr .tuple (.cons (.var 11) .nil)) .nil)))) (.cons (.ret (.and (.cmp .eq (.pr .len (.cons (.fn 2 (.cons (.var 13) .nil)) .nil)) (.bin .add (.bin .add (.cst (.int 6)) (.cst (.int 8))) (.cst (.int 6)))) (.and (.fn 1 (.cons (.var 13) .nil)) (.cmp .eq (.fn 0 (.cons (.var 13) .nil)) (.tup (.cons (.cst (.int 0)) (.cons (.cst (.int 1)) (.cons (.cst (.int 2)) .nil)))))))) .nil))))))))
def F_law_k02 : List W → M W := fdef (fun k => (([F_odd_ring, F_is_tame, F_rings, F__law_rows, F__law_goes, F__law_drawn, F__law_jug_of] : List (List W → M W))[k]?).getD (fun _ => M.no)) 1 16 ib_law_k02
def ib_goes_on : ISs := (.cons (.forr (.nm 2) (.seq (.var 1)) (.cons (.ifs (.cmp .eq (.lc [3] (.nm 3) (.seq (.fn 0 (.cons (.var 0) (.cons (.var 2) .nil)))) (.so (.cmp .nin (.var 3) (.var 1))) (.var 3)) (.lst .nil)) (.cons (.ret (.cst (.bool false))) .nil) .nil) .nil)) (.cons (.ret (.cst (.bool true))) .nil))
def F_goes_on : List W → M W := fdef (fun k => (([F_leads] : List (List W → M W))[k]?).getD (fun _ => M.no)) 2 4 ib_goes_on
def ib_lots_with : ISs := (.cons (.ifs (.not (.fn 3 (.cons (.var 0) (.cons (.var 2) .nil)))) (.cons (.ret (.lst .nil)) .nil) .nil) (.cons (.ifs (.cmp .eq (.var 3) (.ix (.var 0) (.cst (.int 0)))) (.cons (.ret (.ifx (.cmp .eq (.fn 2 (.cons (.var 0) (.cons (.var 1) .nil))) (.lst .nil)) (.lst (.cons (.var 1) .nil)) (.lst .nil))) .nil) .nil) (.cons (.asg 4 (.lst .nil)) (.cons (.ifs (.cmp .eq (.lc [5] (.nm 5) (.seq (.var 1)) (.so (.or (.cmp .isin (.var 5) (.fn 1 (.cons (.var 0) (.cons (.var 3) .nil)))) (.cmp .isin (.var 3) (.fn 1 (.cons (.var 0) (.cons (.var 5) .nil)))))) (.var 5)) (.lst .nil)) (.cons (.asg 4 (.fn 0 (.cons (.var 0) (.cons (.bin .add (.var 1) (.tup (.cons (.var 3) .nil))) (.cons (.var 2) (.cons (.bin .add (.var 3) (.cst (.int 1))) .nil)))))) .nil) .nil) (.cons (.ret (.bin .add (.var 4) (.fn 0 (.cons (.var 0) (.cons (.var 1) (.cons (.bin .add (.var 2) (.tup (.cons (.var 3) .nil))) (.cons (.bin .add (.var 3) (.cst (.int 1))) .nil))))))) .nil)))))
def R_lots_with : Nat → List W → M W
  | 0 => fun _ => M.no
  | n + 1 => fdef (fun k => (([R_lots_with n, F_leads, F_uncovered, F_goes_on] : List (List W → M W))[k]?).getD (fun _ => M.no)) 4 6 ib_lots_with
def F_lots_with : List W → M W := R_lots_with 9
def ib_lots_of : ISs := (.cons (.ret (.pr .sorted (.cons (.fn 0 (.cons (.var 0) (.cons (.tup .nil) (.cons (.tup .nil) (.cons (.cst (.int 0)) .nil))))) .nil))) .nil)
def F_lots_of : List W → M W := fdef (fun k => (([F_lots_with] : List (List W → M W))[k]?).getD (fun _ => M.no)) 1 1 ib_lots_of
def ib_sized : ISs := (.cons (.ret (.ix (.lc [2] (.nm 2) (.seq (.var 0)) (.so (.cmp .eq (.pr .len (.cons (.var 2) .nil)) (.var 1))) (.var 2)) (.cst (.int 0)))) .nil)
def F_sized : List W → M W := fdef (fun k => (([] : List (List W → M W))[k]?).getD (fun _ => M.no)) 2 3 ib_sized
def ib_quiet_lots : ISs := (.cons (.ex (.fn 1 (.cons (.var 0) .nil))) (.cons (.ret (.fn 0 (.cons (.var 0) .nil))) .nil))
def F_quiet_lots : List W → M W := fdef (fun k => (([F_lots_of, F_need_web] : List (List W → M W))[k]?).getD (fun _ => M.no)) 1 1 ib_quiet_lots
def ib_sure : ISs := (.cons (.ex (.fn 1 (.cons (.var 0) .nil))) (.cons (.asg 1 (.fn 0 (.cons (.var 0) .nil))) (.cons (.ifs (.cmp .eq (.var 1) (.lst .nil)) (.cons (.rai "NoLot" .no) .nil) .nil) (.cons (.asg 2 (.lc [3] (.nm 3) (.rng1 (.ix (.var 0) (.cst (.int 0)))) (.so (.cmp .eq (.lc [4] (.nm 4) (.seq (.var 1)) (.so (.cmp .nin (.var 3) (.var 4))) (.var 4)) (.lst .nil))) (.var 3))) (.cons (.ret (.tup (.cons (.var 2) (.cons (.lc [3] (.nm 3) (.rng1 (.ix (.var 0) (.cst (.int 0)))) (.so (.cmp .eq (.lc [4] (.nm 4) (.seq (.var 1)) (.so (.cmp .isin (.var 3) (.var 4))) (.var 4)) (.lst .nil))) (.var 3)) .nil)))) .nil)))))
def F_sure : List W → M W := fdef (fun k => (([F_lots_of, F_need_web] : List (List W → M W))[k]?).getD (fun _ => M.no)) 1 5 ib_sure
def ib_fewest : ISs := (.cons (.ex (.fn 2 (.cons (.var 0) .nil))) (.cons (.asg 1 (.fn 1 (.cons (.var 0) .nil))) (.cons (.ret (.ifx (.cmp .ne (.var 1) (.lst .nil)) (.fn 0 (.cons (.var 1) (.cons (.pr .minl (.cons (.lc [2] (.nm 2) (.seq (.var 1)) .no (.pr .len (.cons (.var 2) .nil))) .nil)) .nil))) (.cst .none))) .nil)))
def F_fewest : List W → M W := fdef (fun k => (([F_sized, F_lots_of, F_need_web] : List (List W → M W))[k]?).getD (fun _ => M.no)) 1 3 ib_fewest
def ib_most : ISs := (.cons (.ex (.fn 2 (.cons (.var 0) .nil))) (.cons (.asg 1 (.fn 1 (.cons (.var 0) .nil))) (.cons (.ret (.ifx (.cmp .ne (.var 1) (.lst .nil)) (.fn 0 (.cons (.var 1) (.cons (.pr .maxl (.cons (.lc [2] (.nm 2) (.seq (.var 1)) .no (.pr .len (.cons (.var 2) .nil))) .nil)) .nil))) (.cst .none))) .nil)))
def F_most : List W → M W := fdef (fun k => (([F_sized, F_lots_of, F_need_web] : List (List W → M W))[k]?).getD (fun _ => M.no)) 1 3 ib_most
def ib__law_quiet : ISs := (.cons (.ret (.lc [1] (.nm 1) (.seq (.fn 0 (.cons (.ix (.var 0) (.cst (.int 0))) .nil))) (.so (.fn 1 (.cons (.ix (.var 0) (.cst (.int 0))) (.cons (.ix (.var 0) (.cst (.int 1))) (.cons (.var 1) .nil))))) (.var 1))) .nil)
def F__law_quiet : List W → M W := fdef (fun k => (([F__law_lots, F__law_is_quiet] : List (List W → M W))[k]?).getD (fun _ => M.no)) 1 2 ib__law_quiet
def ib_lots_of__m : ISs := (.cons (.ret (.mk (.pr .sorted (.cons (.fn 0 (.cons (.var 0) (.cons (.tup .nil) (.cons (.tup .nil) (.cons (.cst (.int 0)) .nil))))) .nil)))) .nil)
def F_lots_of__m : List W → M W := fdef (fun k => (([F_lots_with] : List (List W → M W))[k]?).getD (fun _ => M.no)) 1 1 ib_lots_of__m
def ib_quiet_lots__m : ISs := (.cons (.ex (.fn 1 (.cons (.var 0) .nil))) (.cons (.ret (.fn 0 (.cons (.var 0) .nil))) .nil))
def F_quiet_lots__m : List W → M W := fdef (fun k => (([F_lots_of__m, F_need_web] : List (List W → M W))[k]?).getD (fun _ => M.no)) 1 1 ib_quiet_lots__m
def ib__law_right : ISs := (.cons (.par [1, 2] (.cons (.fn 5 (.cons (.var 0) .nil)) (.cons (.fn 4 (.cons (.var 0) .nil)) .nil))) (.cons (.ifs (.cmp .ne (.var 2) (.var 1)) (.cons (.ret (.cst (.bool false))) .nil) .nil) (.cons (.app (.var 2) (.cst .none)) (.cons (.ifs (.cmp .ne (.fn 3 (.cons (.var 0) .nil)) (.var 1)) (.cons (.ret (.cst (.bool false))) .nil) .nil) (.cons (.ifs (.cmp .eq (.var 1) (.lst .nil)) (.cons (.ret (.cmp .eq (.lst (.cons (.fn 1 (.cons (.var 0) .nil)) (.cons (.fn 0 (.cons (.var 0) .nil)) (.cons (.word (.fn 2 (.cons (.var 0) .nil))) .nil)))) (.lst (.cons (.cst .none) (.cons (.cst .none) (.cons (.cst (.str "nolot")) .nil)))))) .nil) .nil) (.cons (.asg 3 (.lc [7] (.nm 7) (.rng1 (.ix (.var 0) (.cst (.int 0)))) (.so (.cmp .eq (.lc [8] (.nm 8) (.seq (.var 1)) (.so (.cmp .nin (.var 7) (.var 8))) (.var 8)) (.lst .nil))) (.var 7))) (.cons (.asg 4 (.lc [7] (.nm 7) (.rng1 (.ix (.var 0) (.cst (.int 0)))) (.so (.cmp .eq (.lc [8] (.nm 8) (.seq (.var 1)) (.so (.cmp .isin (.var 7) (.var 8))) (.var 8)) (.lst .nil))) (.var 7))) (.cons (.asg 5 (.pr .sorted (.cons (.lc [8] (.nm 8) (.seq (.var 1)) .no (.tup (.cons (.pr .len (.cons (.var 8) .nil)) (.cons (.var 8) .nil)))) .nil))) (.cons (.asg 6 (.lc [8] (.nm 8) (.seq (.var 1)) (.so (.cmp .eq (.pr .len (.cons (.var 8) .nil)) (.ix (.ix (.var 5) (.neg (.cst (.int 1)))) (.cst (.int 0))))) (.var 8))) (.cons (.ret (.and (.cmp .eq (.fn 2 (.cons (.var 0) .nil)) (.tup (.cons (.var 3) (.cons (.var 4) .nil)))) (.and (.cmp .eq (.fn 1 (.cons (.var 0) .nil)) (.ix (.ix (.var 5) (.cst (.int 0))) (.cst (.int 1)))) (.cmp .eq (.fn 0 (.cons (.var 0) .nil)) (.ix (.var 6) (.cst (.int 0))))))) .nil))))))))))
def F__law_right : List W → M W := fdef (fun k => (([F_most, F_fewest, F_sure, F_quiet_lots, F_quiet_lots__m, F__law_quiet] : List (List W → M W))[k]?).getD (fun _ => M.no)) 1 9 ib__law_right
def ib_law_k03 : ISs := (.cons (.forr (.nm 1) (.rng1 (.bin .add (.cst (.int 1)) (.pr .min2 (.cons (.slen (.var 0)) (.cons (.cst (.int 8)) .nil))))) (.cons (.asg 2 (.fn 6 (.cons (.var 0) (.cons (.var 1) .nil)))) (.cons (.forr (.nm 3) (.rng1 (.cst (.int 6))) (.cons (.ifs (.not (.fn 4 (.cons (.fn 5 (.cons (.var 2) (.cons (.cst (.int 1)) (.cons (.cst (.int 7)) .nil)))) .nil))) (.cons (.ret (.cst (.bool false))) .nil) .nil) .nil)) (.cons (.forr (.nm 4) (.seq (.lst (.cons (.cst .none) (.cons (.tup (.cons (.cst (.int 0)) (.cons (.tup .nil) .nil))) (.cons (.tup (.cons (.cst (.int 2)) (.cons (.tup (.cons (.tup (.cons (.cst (.int 0)) (.cons (.cst (.int 0)) .nil))) .nil)) .nil))) .nil))))) (.cons (.forf 5 ["quiet_lots", "sure", "fewest", "most"] (.cons (.ifs (.cmp .ne (.word (.fnv 5 [("quiet_lots", 0), ("sure", 1), ("fewest", 3), ("most", 2)] (.cons (.var 4) .nil))) (.cst (.str "web"))) (.cons (.ret (.cst (.bool false))) .nil) .nil) .nil)) .nil)) .nil)))) (.cons (.asg 6 (.tup (.cons (.cst (.int 3)) (.cons (.tup (.cons (.tup (.cons (.cst (.int 0)) (.cons (.cst (.int 1)) .nil))) (.cons (.tup (.cons (.cst (.int 1)) (.cons (.cst (.int 0)) .nil))) (.cons (.tup (.cons (.cst (.int 2)) (.cons (.cst (.int 1)) .nil))) .nil)))) .nil)))) (.cons (.ifs (.cmp .ne (.lst (.cons (.fn 0 (.cons (.var 6) .nil)) (.cons (.fn 3 (.cons (.var 6) .nil)) (.cons (.fn 2 (.cons (.var 6) .nil)) (.cons (.fn 1 (.cons (.var 6) .nil)) .nil))))) (.lst (.cons (.lst (.cons (.tup (.cons (.cst (.int 0)) (.cons (.cst (.int 2)) .nil))) (.cons (.tup (.cons (.cst (.int 1)) .nil)) .nil))) (.cons (.tup (.cons (.cst (.int 1)) .nil)) (.cons (.tup (.cons (.cst (.int 0)) (.cons (.cst (.int 2)) .nil))) (.cons (.tup (.cons (.lst .nil) (.cons (.lst .nil) .nil))) .nil)))))) (.cons (.ret (.cst (.bool false))) .nil) .nil) (.cons (.ifs (.or (.cmp .ne (.fn 0 (.cons (.tup (.cons (.cst (.int 7)) (.cons (.tup .nil) .nil))) .nil)) (.lst (.cons (.tup (.cons (.cst (.int 0)) (.cons (.cst (.int 1)) (.cons (.cst (.int 2)) (.cons (.cst (.int 3)) (.cons (.cst (.int 4)) (.cons (.cst (.int 5)) (.cons (.cst (.int 6)) .nil)))))))) .nil))) (.cmp .ne (.fn 0 (.cons (.tup (.cons (.cst (.int 3)) (.cons (.tup (.cons (.tup (.cons (.cst (.int 0)) (.cons (.cst (.int 1)) .nil))) (.cons (.tup (.cons (.cst (.int 1)) (.cons (.cst (.int 2)) .nil))) (.cons (.tup (.cons (.cst (.int 2)) (.cons (.cst (.int 0)) .nil))) .nil)))) .nil))) .nil)) (.lst .nil))) (.cons (.ret (.cst (.bool false))) .nil) .nil) (.cons (.asg 7 (.lst .nil)) (.cons (.forr (.nm 8) (.seq (.tup (.cons (.cst (.int 0)) (.cons (.cst (.int 2)) (.cons (.cst (.int 4)) .nil))))) (.cons (.asg 7 (.bin .add (.var 7) (.lst (.cons (.tup (.cons (.var 8) (.cons (.bin .add (.var 8) (.cst (.int 1))) .nil))) (.cons (.tup (.cons (.bin .add (.var 8) (.cst (.int 1))) (.cons (.var 8) .nil))) .nil))))) .nil)) (.cons (.ret (.cmp .eq (.pr .len (.cons (.fn 0 (.cons (.tup (.cons (.cst (.int 6)) (.cons (.pr .tuple (.cons (.var 7) .nil)) .nil))) .nil)) .nil)) (.cst (.int 8)))) .nil)))))))
def F_law_k03 : List W → M W := fdef (fun k => (([F_quiet_lots, F_sure, F_most, F_fewest, F__law_right, F__law_drawn, F__law_jug_of] : List (List W → M W))[k]?).getD (fun _ => M.no)) 1 9 ib_law_k03
def ib_part_of : ISs := (.cons (.ret (.tup (.cons (.ix (.var 0) (.cst (.int 0))) (.cons (.pr .tuple (.cons (.lc [2] (.nm 2) (.seq (.ix (.var 0) (.cst (.int 1)))) (.so (.and (.cmp .isin (.ix (.var 2) (.cst (.int 0))) (.var 1)) (.cmp .isin (.ix (.var 2) (.cst (.int 1))) (.var 1)))) (.var 2)) .nil)) .nil)))) .nil)
def F_part_of : List W → M W := fdef (fun k => (([] : List (List W → M W))[k]?).getD (fun _ => M.no)) 2 3 ib_part_of
def ib_reached : ISs := (.cons (.asg 2 (.lst (.cons (.var 1) .nil))) (.cons (.forr (.nm 3) (.rng1 (.ix (.var 0) (.cst (.int 0)))) (.cons (.asg 2 (.pr .sortset (.cons (.bin .add (.var 2) (.lc [4, 5] (.tp [4, 5]) (.seq (.ix (.var 0) (.cst (.int 1)))) (.so (.cmp .isin (.var 4) (.var 2))) (.var 5))) .nil))) .nil)) (.cons (.ret (.var 2)) .nil)))
def F_reached : List W → M W := fdef (fun k => (([] : List (List W → M W))[k]?).getD (fun _ => M.no)) 2 6 ib_reached
def ib_knot : ISs := (.cons (.ret (.lc [2] (.nm 2) (.seq (.fn 0 (.cons (.var 0) (.cons (.var 1) .nil)))) (.so (.cmp .isin (.var 1) (.fn 0 (.cons (.var 0) (.cons (.var 2) .nil))))) (.var 2))) .nil)
def F_knot : List W → M W := fdef (fun k => (([F_reached] : List (List W → M W))[k]?).getD (fun _ => M.no)) 2 3 ib_knot
def ib_evens : ISs := (.cons (.par [2, 3] (.cons (.lst (.cons (.ix (.var 1) (.cst (.int 0))) .nil)) (.cons (.lst .nil) .nil))) (.cons (.forr (.nm 4) (.rng1 (.pr .len (.cons (.var 1) .nil))) (.cons (.asg 3 (.lc [6] (.nm 6) (.seq (.var 1)) (.so (.cmp .ne (.lc [7] (.nm 7) (.seq (.var 2)) (.so (.cmp .isin (.var 6) (.fn 0 (.cons (.var 0) (.cons (.var 7) .nil))))) (.var 7)) (.lst .nil))) (.var 6))) (.cons (.asg 5 (.lc [6] (.nm 6) (.seq (.var 1)) (.so (.cmp .ne (.lc [7] (.nm 7) (.seq (.var 3)) (.so (.cmp .isin (.var 6) (.fn 0 (.cons (.var 0) (.cons (.var 7) .nil))))) (.var 7)) (.lst .nil))) (.var 6))) (.cons (.asg 2 (.pr .sortset (.cons (.bin .add (.var 2) (.var 5)) .nil))) .nil)))) (.cons (.ret (.var 2)) .nil)))
def F_evens : List W → M W := fdef (fun k => (([F_leads] : List (List W → M W))[k]?).getD (fun _ => M.no)) 2 8 ib_evens
def ib_taken : ISs := (.cons (.asg 3 (.lc [4, 5] (.tp [4, 5]) (.seq (.ix (.var 0) (.cst (.int 1)))) (.so (.cmp .isin (.var 5) (.var 2))) (.var 4))) (.cons (.ret (.lc [6] (.nm 6) (.seq (.var 1)) (.so (.and (.cmp .nin (.var 6) (.var 2)) (.cmp .nin (.var 6) (.var 3)))) (.var 6))) .nil))
def F_taken : List W → M W := fdef (fun k => (([] : List (List W → M W))[k]?).getD (fun _ => M.no)) 3 7 ib_taken
def ib_last_knot : ISs := (.cons (.asg 2 (.fn 2 (.cons (.var 0) (.cons (.var 1) .nil)))) (.cons (.asg 3 (.lc [4] (.nm 4) (.seq (.var 1)) .no (.fn 1 (.cons (.var 2) (.cons (.var 4) .nil))))) (.cons (.ret (.ix (.lc [5] (.nm 5) (.seq (.var 3)) (.so (.cmp .eq (.fn 0 (.cons (.var 2) (.cons (.ix (.var 5) (.cst (.int 0))) .nil))) (.var 5))) (.var 5)) (.cst (.int 0)))) .nil)))
def F_last_knot : List W → M W := fdef (fun k => (([F_reached, F_knot, F_part_of] : List (List W → M W))[k]?).getD (fun _ => M.no)) 2 6 ib_last_knot
def ib_layers_of : ISs := (.cons (.par [1, 2] (.cons (.pr .rng1 (.cons (.ix (.var 0) (.cst (.int 0))) .nil)) (.cons (.lst .nil) .nil))) (.cons (.whl fuel (.cmp .ne (.var 1) (.lst .nil)) (.cons (.asg 3 (.fn 1 (.cons (.fn 3 (.cons (.var 0) (.cons (.var 1) .nil))) (.cons (.fn 2 (.cons (.var 0) (.cons (.var 1) .nil))) .nil)))) (.cons (.par [1, 2] (.cons (.fn 0 (.cons (.var 0) (.cons (.var 1) (.cons (.var 3) .nil)))) (.cons (.bin .add (.var 2) (.var 3)) .nil))) .nil))) (.cons (.ret (.pr .tuple (.cons (.pr .sorted (.cons (.var 2) .nil)) .nil))) .nil)))
def F_layers_of : List W → M W := fdef (fun k => (([F_taken, F_evens, F_last_knot, F_part_of] : List (List W → M W))[k]?).getD (fun _ => M.no)) 1 4 ib_layers_of
def ib_layered : ISs := (.cons (.ex (.fn 2 (.cons (.var 0) .nil))) (.cons (.asg 1 (.fn 1 (.cons (.var 0) .nil))) (.cons (.ifs (.cmp .isnt (.var 1) (.cst .none)) (.cons (.rai "OddRing" (.so (.var 1))) .nil) .nil) (.cons (.ret (.fn 0 (.cons (.var 0) .nil))) .nil))))
def F_layered : List W → M W := fdef (fun k => (([F_layers_of, F_odd_of, F_need_web] : List (List W → M W))[k]?).getD (fun _ => M.no)) 1 2 ib_layered
def ib__law_onto : ISs := (.cons (.asg 3 (.lst (.cons (.var 2) .nil))) (.cons (.forr (.nm 4) (.rng1 (.var 0)) (.cons (.asg 5 (.lc [6, 7] (.tp [6, 7]) (.seq (.var 1)) (.so (.cmp .isin (.var 6) (.var 3))) (.var 7))) (.cons (.asg 3 (.pr .sortset (.cons (.bin .add (.var 3) (.var 5)) .nil))) .nil))) (.cons (.ret (.var 3)) .nil)))
def F__law_onto : List W → M W := fdef (fun k => (([] : List (List W → M W))[k]?).getD (fun _ => M.no)) 3 8 ib__law_onto
def ib__law_inner : ISs := (.cons (.ret (.lc [2] (.nm 2) (.seq (.var 0)) (.so (.and (.cmp .isin (.ix (.var 2) (.cst (.int 0))) (.var 1)) (.cmp .isin (.ix (.var 2) (.cst (.int 1))) (.var 1)))) (.var 2))) .nil)
def F__law_inner : List W → M W := fdef (fun k => (([] : List (List W → M W))[k]?).getD (fun _ => M.no)) 2 3 ib__law_inner
def ib__law_less : ISs := (.cons (.asg 3 (.lc [4, 5] (.tp [4, 5]) (.seq (.var 0)) (.so (.cmp .isin (.var 5) (.var 2))) (.var 4))) (.cons (.ret (.lc [6] (.nm 6) (.seq (.var 1)) (.so (.and (.cmp .nin (.var 6) (.var 2)) (.cmp .nin (.var 6) (.var 3)))) (.var 6))) .nil))
def F__law_less : List W → M W := fdef (fun k => (([] : List (List W → M W))[k]?).getD (fun _ => M.no)) 3 7 ib__law_less
def ib__law_parity : ISs := (.cons (.par [2, 3] (.cons (.lst (.cons (.tup (.cons (.var 1) (.cons (.cst (.int 0)) .nil))) .nil)) (.cons (.lst (.cons (.tup (.cons (.var 1) (.cons (.cst (.int 0)) .nil))) .nil)) .nil))) (.cons (.whl fuel (.cmp .ne (.var 3) (.lst .nil)) (.cons (.asg 4 (.mls .nil)) (.cons (.forr (.tp [5, 6]) (.seq (.var 3)) (.cons (.forr (.tp [7, 8]) (.seq (.var 0)) (.cons (.ifs (.and (.cmp .eq (.var 7) (.var 5)) (.cmp .nin (.tup (.cons (.var 8) (.cons (.bin .sub (.cst (.int 1)) (.var 6)) .nil))) (.bin .add (.var 2) (.var 4)))) (.cons (.app (.var 4) (.tup (.cons (.var 8) (.cons (.bin .sub (.cst (.int 1)) (.var 6)) .nil)))) .nil) .nil) .nil)) .nil)) (.cons (.par [2, 3] (.cons (.bin .add (.var 2) (.var 4)) (.cons (.var 4) .nil))) .nil)))) (.cons (.ret (.var 2)) .nil)))
def F__law_parity : List W → M W := fdef (fun k => (([] : List (List W → M W))[k]?).getD (fun _ => M.no)) 2 9 ib__law_parity
def ib__law_odd : ISs := (.cons (.ret (.cmp .ne (.lc [1] (.nm 1) (.rng1 (.ix (.var 0) (.cst (.int 0)))) (.so (.cmp .isin (.tup (.cons (.var 1) (.cons (.cst (.int 1)) .nil))) (.fn 0 (.cons (.ix (.var 0) (.cst (.int 1))) (.cons (.var 1) .nil))))) (.var 1)) (.lst .nil))) .nil)
def F__law_odd : List W → M W := fdef (fun k => (([F__law_parity] : List (List W → M W))[k]?).getD (fun _ => M.no)) 1 2 ib__law_odd
def ib__law_even_web : ISs := (.cons (.par [2, 3, 4] (.cons (.bin .add (.cst (.int 1)) (.fn 0 (.cons (.var 0) (.cons (.var 1) .nil)))) (.cons (.mls .nil) (.cons (.mls .nil) .nil)))) (.cons (.forr (.nm 5) (.rng1 (.var 2)) (.cons (.app (.var 3) (.tup (.cons (.fn 0 (.cons (.var 0) (.cons (.cst (.int 2)) .nil))) (.cons (.fn 0 (.cons (.var 0) (.cons (.cst (.int 3)) .nil))) .nil)))) .nil)) (.cons (.forr (.nm 6) (.rng1 (.var 2)) (.cons (.forr (.nm 7) (.rng1 (.var 2)) (.cons (.asg 8 (.and (.cmp .eq (.ix (.ix (.var 3) (.var 6)) (.cst (.int 1))) (.ix (.ix (.var 3) (.var 7)) (.cst (.int 1)))) (.cmp .ne (.ix (.ix (.var 3) (.var 6)) (.cst (.int 0))) (.ix (.ix (.var 3) (.var 7)) (.cst (.int 0)))))) (.cons (.ifs (.and (.cmp .ne (.var 6) (.var 7)) (.and (.or (.var 8) (.cmp .lt (.ix (.ix (.var 3) (.var 6)) (.cst (.int 1))) (.ix (.ix (.var 3) (.var 7)) (.cst (.int 1))))) (.cmp .eq (.fn 0 (.cons (.var 0) (.cons (.cst (.int 2)) .nil))) (.cst (.int 0))))) (.cons (.app (.var 4) (.tup (.cons (.var 6) (.cons (.var 7) .nil)))) .nil) .nil) .nil))) .nil)) (.cons (.ret (.tup (.cons (.var 2) (.cons (.pr .tuple (.cons (.var 4) .nil)) .nil)))) .nil))))
def F__law_even_web : List W → M W := fdef (fun k => (([F__law_dip] : List (List W → M W))[k]?).getD (fun _ => M.no)) 2 9 ib__law_even_web
def ib__law_knot_of : ISs := (.cons (.asg 4 (.fn 1 (.cons (.var 1) (.cons (.var 2) .nil)))) (.cons (.asg 5 (.fn 0 (.cons (.var 0) (.cons (.var 4) (.cons (.var 3) .nil))))) (.cons (.ret (.pr .sorted (.cons (.lc [6] (.nm 6) (.seq (.var 5)) (.so (.cmp .isin (.var 3) (.fn 0 (.cons (.var 0) (.cons (.var 4) (.cons (.var 6) .nil)))))) (.var 6)) .nil))) .nil)))
def F__law_knot_of : List W → M W := fdef (fun k => (([F__law_onto, F__law_inner] : List (List W → M W))[k]?).getD (fun _ => M.no)) 4 7 ib__law_knot_of
def ib__law_evens : ISs := (.cons (.asg 2 (.fn 0 (.cons (.fn 1 (.cons (.var 0) (.cons (.var 1) .nil))) (.cons (.ix (.var 1) (.cst (.int 0))) .nil)))) (.cons (.ret (.lc [3] (.nm 3) (.seq (.var 1)) (.so (.cmp .isin (.tup (.cons (.var 3) (.cons (.cst (.int 0)) .nil))) (.var 2))) (.var 3))) .nil))
def F__law_evens : List W → M W := fdef (fun k => (([F__law_parity, F__law_inner] : List (List W → M W))[k]?).getD (fun _ => M.no)) 2 4 ib__law_evens
def ib__law_built : ISs := (.cons (.par [1, 2] (.cons (.pr .rng1 (.cons (.ix (.var 0) (.cst (.int 0))) .nil)) (.cons (.lst .nil) .nil))) (.cons (.whl fuel (.cmp .ne (.var 1) (.lst .nil)) (.cons (.forr (.nm 3) (.seq (.var 1)) (.cons (.asg 4 (.fn 3 (.cons (.ix (.var 0) (.cst (.int 0))) (.cons (.ix (.var 0) (.cst (.int 1))) (.cons (.var 1) (.cons (.var 3) .nil)))))) (.cons (.asg 5 (.lc [7] (.nm 7) (.seq (.fn 2 (.cons (.ix (.var 0) (.cst (.int 1))) (.cons (.var 1) .nil)))) (.so (.and (.cmp .isin (.ix (.var 7) (.cst (.int 0))) (.var 4)) (.cmp .nin (.ix (.var 7) (.cst (.int 1))) (.var 4)))) (.var 7))) (.cons (.ifs (.cmp .eq (.var 5) (.lst .nil)) (.cons (.asg 6 (.fn 1 (.cons (.fn 2 (.cons (.ix (.var 0) (.cst (.int 1))) (.cons (.var 1) .nil))) (.cons (.var 4) .nil)))) (.cons (.par [2, 1] (.cons (.bin .add (.var 2) (.var 6)) (.cons (.fn 0 (.cons (.ix (.var 0) (.cst (.int 1))) (.cons (.var 1) (.cons (.var 6) .nil)))) .nil))) (.cons .brk .nil))) .nil) .nil)))) .nil)) (.cons (.ret (.pr .tuple (.cons (.pr .sorted (.cons (.var 2) .nil)) .nil))) .nil)))
def F__law_built : List W → M W := fdef (fun k => (([F__law_less, F__law_evens, F__law_inner, F__law_knot_of] : List (List W → M W))[k]?).getD (fun _ => M.no)) 1 8 ib__law_built
def ib_law_k04 : ISs := (.cons (.forr (.nm 1) (.rng1 (.bin .add (.cst (.int 1)) (.pr .min2 (.cons (.slen (.var 0)) (.cons (.cst (.int 8)) .nil))))) (.cons (.asg 2 (.fn 7 (.cons (.var 0) (.cons (.var 1) .nil)))) (.cons (.forr (.nm 3) (.rng1 (.cst (.int 8))) (.cons (.asg 4 (.ifx (.cmp .lt (.var 3) (.cst (.int 6))) (.fn 5 (.cons (.var 2) (.cons (.cst (.int 7)) .nil))) (.fn 6 (.cons (.var 2) (.cons (.cst (.int 2)) (.cons (.cst (.int 6)) .nil)))))) (.cons (.ifs (.fn 1 (.cons (.var 4) .nil)) (.cons (.ifs (.cmp .ne (.wordO (.fn 0 (.cons (.var 4) .nil))) (.bin .add (.cst (.str "odd")) (.pr .strt (.cons (.fn 2 (.cons (.var 4) .nil)) .nil)))) (.cons (.ret (.cst (.bool false))) .nil) .nil) .nil) (.cons (.asg 5 (.fn 0 (.cons (.var 4) .nil))) (.cons (.ifs (.or (.cmp .ne (.var 5) (.fn 4 (.cons (.var 4) .nil))) (.not (.fn 3 (.cons (.ix (.var 4) (.cst (.int 0))) (.cons (.ix (.var 4) (.cst (.int 1))) (.cons (.var 5) .nil)))))) (.cons (.ret (.cst (.bool false))) .nil) .nil) .nil))) .nil))) .nil))) (.cons (.unp (.tp [6, 7]) (.tup (.cons (.tup (.cons (.cst (.int 4)) (.cons (.tup (.cons (.tup (.cons (.cst (.int 0)) (.cons (.cst (.int 1)) .nil))) (.cons (.tup (.cons (.cst (.int 1)) (.cons (.cst (.int 2)) .nil))) (.cons (.tup (.cons (.cst (.int 2)) (.cons (.cst (.int 3)) .nil))) (.cons (.tup (.cons (.cst (.int 3)) (.cons (.cst (.int 0)) .nil))) .nil))))) .nil))) (.cons (.tup (.cons (.cst (.int 4)) (.cons (.tup (.cons (.tup (.cons (.cst (.int 0)) (.cons (.cst (.int 1)) .nil))) (.cons (.tup (.cons (.cst (.int 1)) (.cons (.cst (.int 2)) .nil))) (.cons (.tup (.cons (.cst (.int 2)) (.cons (.cst (.int 3)) .nil))) .nil)))) .nil))) .nil)))) (.cons (.ifs (.cmp .ne (.lst (.cons (.fn 0 (.cons (.var 6) .nil)) (.cons (.fn 0 (.cons (.var 7) .nil)) (.cons (.fn 0 (.cons (.tup (.cons (.cst (.int 7)) (.cons (.tup .nil) .nil))) .nil)) .nil)))) (.lst (.cons (.tup (.cons (.cst (.int 0)) (.cons (.cst (.int 2)) .nil))) (.cons (.tup (.cons (.cst (.int 1)) (.cons (.cst (.int 3)) .nil))) (.cons (.tup (.cons (.cst (.int 0)) (.cons (.cst (.int 1)) (.cons (.cst (.int 2)) (.cons (.cst (.int 3)) (.cons (.cst (.int 4)) (.cons (.cst (.int 5)) (.cons (.cst (.int 6)) .nil)))))))) .nil))))) (.cons (.ret (.cst (.bool false))) .nil) .nil) (.cons (.ifs (.cmp .ne (.wordO (.fn 0 (.cons (.tup (.cons (.cst (.int 3)) (.cons (.tup (.cons (.tup (.cons (.cst (.int 0)) (.cons (.cst (.int 1)) .nil))) (.cons (.tup (.cons (.cst (.int 1)) (.cons (.cst (.int 2)) .nil))) (.cons (.tup (.cons (.cst (.int 2)) (.cons (.cst (.int 0)) .nil))) .nil)))) .nil))) .nil))) (.cst (.str "odd(0, 1, 2)"))) (.cons (.ret (.cst (.bool false))) .nil) .nil) (.cons (.ret (.cmp .eq (.fn 0 (.cons (.tup (.cons (.cst (.int 5)) (.cons (.tup (.cons (.tup (.cons (.cst (.int 0)) (.cons (.cst (.int 1)) .nil))) (.cons (.tup (.cons (.cst (.int 1)) (.cons (.cst (.int 0)) .nil))) (.cons (.tup (.cons (.cst (.int 1)) (.cons (.cst (.int 2)) .nil))) (.cons (.tup (.cons (.cst (.int 2)) (.cons (.cst (.int 3)) .nil))) (.cons (.tup (.cons (.cst (.int 3)) (.cons (.cst (.int 2)) .nil))) (.cons (.tup (.cons (.cst (.int 3)) (.cons (.cst (.int 4)) .nil))) .nil))))))) .nil))) .nil)) (.tup (.cons (.cst (.int 0)) (.cons (.cst (.int 2)) (.cons (.cst (.int 4)) .nil)))))) .nil)))))
def F_law_k04 : List W → M W := fdef (fun k => (([F_layered, F__law_odd, F_odd_ring, F__law_is_quiet, F__law_built, F__law_even_web, F__law_drawn, F__law_jug_of] : List (List W → M W))[k]?).getD (fun _ => M.no)) 1 8 ib_law_k04
def ib_all_lots : ISs := (.cons (.asg 1 (.lst (.cons (.tup .nil) .nil))) (.cons (.forr (.nm 2) (.rng1 (.var 0)) (.cons (.asg 1 (.bin .add (.var 1) (.lc [3] (.nm 3) (.seq (.var 1)) .no (.bin .add (.var 3) (.tup (.cons (.var 2) .nil)))))) .nil)) (.cons (.ret (.pr .sorted (.cons (.var 1) .nil))) .nil)))
def F_all_lots : List W → M W := fdef (fun k => (([] : List (List W → M W))[k]?).getD (fun _ => M.no)) 1 4 ib_all_lots
def ib_half_of : ISs := (.cons (.asg 2 (.fn 2 (.cons (.var 0) (.cons (.var 1) .nil)))) (.cons (.asg 3 (.lc [4] (.nm 4) (.seq (.fn 1 (.cons (.ix (.var 0) (.cst (.int 0))) .nil))) (.so (.cmp .eq (.lc [5] (.nm 5) (.seq (.var 4)) (.so (.cmp .nin (.var 5) (.var 1))) (.var 5)) (.lst .nil))) (.var 4))) (.cons (.asg 3 (.lc [4] (.nm 4) (.seq (.var 3)) (.so (.fn 0 (.cons (.var 2) (.cons (.var 4) .nil)))) (.var 4))) (.cons (.ret (.ifx (.cmp .ne (.var 3) (.lst .nil)) (.ix (.var 3) (.cst (.int 0))) (.cst .none))) .nil))))
def F_half_of : List W → M W := fdef (fun k => (([F_half, F_all_lots, F_part_of] : List (List W → M W))[k]?).getD (fun _ => M.no)) 2 6 ib_half_of
def ib_half_lots : ISs := (.cons (.ex (.fn 2 (.cons (.var 0) .nil))) (.cons (.ret (.lc [1] (.nm 1) (.seq (.fn 0 (.cons (.ix (.var 0) (.cst (.int 0))) .nil))) (.so (.fn 1 (.cons (.var 0) (.cons (.var 1) .nil)))) (.var 1))) .nil))
def F_half_lots : List W → M W := fdef (fun k => (([F_all_lots, F_half, F_need_web] : List (List W → M W))[k]?).getD (fun _ => M.no)) 1 2 ib_half_lots
def ib_grown : ISs := (.cons (.ex (.fn 2 (.cons (.var 0) .nil))) (.cons (.par [1, 2] (.cons (.pr .rng1 (.cons (.ix (.var 0) (.cst (.int 0))) .nil)) (.cons (.lst .nil) .nil))) (.cons (.whl fuel (.cmp .ne (.var 1) (.lst .nil)) (.cons (.asg 3 (.fn 1 (.cons (.var 0) (.cons (.var 1) .nil)))) (.cons (.ifs (.cmp .is (.var 3) (.cst .none)) (.cons (.ret (.cst .none)) .nil) .nil) (.cons (.par [1, 2] (.cons (.fn 0 (.cons (.var 0) (.cons (.var 1) (.cons (.var 3) .nil)))) (.cons (.bin .add (.var 2) (.pr .list (.cons (.var 3) .nil))) .nil))) .nil)))) (.cons (.ret (.pr .tuple (.cons (.pr .sorted (.cons (.var 2) .nil)) .nil))) .nil))))
def F_grown : List W → M W := fdef (fun k => (([F_taken, F_half_of, F_need_web] : List (List W → M W))[k]?).getD (fun _ => M.no)) 1 4 ib_grown
def ib__law_halves : ISs := (.cons (.par [3, 4] (.cons (.fn 3 (.cons (.var 1) (.cons (.var 2) .nil))) (.cons (.mls .nil) .nil))) (.cons (.forr (.nm 5) (.seq (.fn 0 (.cons (.var 0) .nil))) (.cons (.ifs (.and (.cmp .ne (.var 5) (.tup .nil)) (.and (.cmp .eq (.lc [7] (.nm 7) (.seq (.var 5)) (.so (.cmp .nin (.var 7) (.var 2))) (.var 7)) (.lst .nil)) (.fn 1 (.cons (.var 3) (.cons (.var 5) .nil))))) (.cons (.asg 6 (.fn 2 (.cons (.var 0) (.cons (.var 3) (.cons (.var 5) .nil))))) (.cons (.ifs (.cmp .eq (.lc [8] (.nm 8) (.seq (.var 3)) (.so (.and (.cmp .isin (.ix (.var 8) (.cst (.int 0))) (.var 5)) (.cmp .isin (.ix (.var 8) (.cst (.int 1))) (.var 6)))) (.var 8)) (.lst .nil)) (.cons (.app (.var 4) (.var 5)) .nil) .nil) .nil)) .nil) .nil)) (.cons (.ret (.var 4)) .nil)))
def F__law_halves : List W → M W := fdef (fun k => (([F__law_lots, F__law_is_loose, F__law_lacking, F__law_inner] : List (List W → M W))[k]?).getD (fun _ => M.no)) 3 9 ib__law_halves
def ib__law_grown : ISs := (.cons (.par [1, 2] (.cons (.pr .rng1 (.cons (.ix (.var 0) (.cst (.int 0))) .nil)) (.cons (.lst .nil) .nil))) (.cons (.whl fuel (.cmp .ne (.var 1) (.lst .nil)) (.cons (.asg 3 (.fn 1 (.cons (.ix (.var 0) (.cst (.int 0))) (.cons (.ix (.var 0) (.cst (.int 1))) (.cons (.var 1) .nil))))) (.cons (.ifs (.cmp .eq (.var 3) (.lst .nil)) (.cons (.ret (.cst .none)) .nil) .nil) (.cons (.par [2, 1] (.cons (.bin .add (.var 2) (.pr .list (.cons (.ix (.var 3) (.cst (.int 0))) .nil))) (.cons (.fn 0 (.cons (.ix (.var 0) (.cst (.int 1))) (.cons (.var 1) (.cons (.ix (.var 3) (.cst (.int 0))) .nil)))) .nil))) .nil)))) (.cons (.ret (.pr .tuple (.cons (.pr .sorted (.cons (.var 2) .nil)) .nil))) .nil)))
def F__law_grown : List W → M W := fdef (fun k => (([F__law_less, F__law_halves] : List (List W → M W))[k]?).getD (fun _ => M.no)) 1 4 ib__law_grown
def ib_law_k05 : ISs := (.cons (.forr (.nm 1) (.rng1 (.bin .add (.cst (.int 1)) (.pr .min2 (.cons (.slen (.var 0)) (.cons (.cst (.int 6)) .nil))))) (.cons (.asg 2 (.fn 8 (.cons (.var 0) (.cons (.var 1) .nil)))) (.cons (.forr (.nm 3) (.rng1 (.cst (.int 4))) (.cons (.asg 4 (.fn 7 (.cons (.var 2) (.cons (.cst (.int 1)) (.cons (.cst (.int 5)) .nil))))) (.cons (.par [5, 6] (.cons (.fn 1 (.cons (.var 4) .nil)) (.cons (.fn 0 (.cons (.var 4) .nil)) .nil))) (.cons (.ifs (.or (.cmp .ne (.var 5) (.fn 2 (.cons (.ix (.var 4) (.cst (.int 0))) (.cons (.ix (.var 4) (.cst (.int 1))) (.cons (.pr .rng1 (.cons (.ix (.var 4) (.cst (.int 0))) .nil)) .nil))))) (.cmp .ne (.var 6) (.fn 6 (.cons (.var 4) .nil)))) (.cons (.ret (.cst (.bool false))) .nil) .nil) (.cons (.ifs (.and (.cmp .isnt (.var 6) (.cst .none)) (.not (.fn 5 (.cons (.ix (.var 4) (.cst (.int 0))) (.cons (.ix (.var 4) (.cst (.int 1))) (.cons (.var 6) .nil)))))) (.cons (.ret (.cst (.bool false))) .nil) .nil) (.cons (.asg 7 (.lc [12] (.nm 12) (.seq (.fn 4 (.cons (.ix (.var 4) (.cst (.int 0))) .nil))) (.so (.cmp .ne (.var 12) (.tup .nil))) (.var 12))) (.cons (.ifs (.cmp .eq (.lc [12] (.nm 12) (.seq (.var 7)) (.so (.cmp .eq (.fn 2 (.cons (.ix (.var 4) (.cst (.int 0))) (.cons (.ix (.var 4) (.cst (.int 1))) (.cons (.pr .list (.cons (.var 12) .nil)) .nil)))) (.lst .nil))) (.var 12)) (.lst .nil)) (.cons (.ifs (.or (.cmp .is (.var 6) (.cst .none)) (.cmp .eq (.fn 3 (.cons (.var 4) .nil)) (.lst .nil))) (.cons (.ret (.cst (.bool false))) .nil) .nil) .nil) .nil) .nil))))))) .nil))) (.cons (.unp (.tp [8, 9]) (.tup (.cons (.tup (.cons (.cst (.int 3)) (.cons (.tup (.cons (.tup (.cons (.cst (.int 0)) (.cons (.cst (.int 1)) .nil))) (.cons (.tup (.cons (.cst (.int 1)) (.cons (.cst (.int 2)) .nil))) (.cons (.tup (.cons (.cst (.int 2)) (.cons (.cst (.int 0)) .nil))) .nil)))) .nil))) (.cons (.tup (.cons (.cst (.int 4)) (.cons (.tup (.cons (.tup (.cons (.cst (.int 0)) (.cons (.cst (.int 1)) .nil))) (.cons (.tup (.cons (.cst (.int 1)) (.cons (.cst (.int 2)) .nil))) (.cons (.tup (.cons (.cst (.int 2)) (.cons (.cst (.int 3)) .nil))) .nil)))) .nil))) .nil)))) (.cons (.ifs (.cmp .ne (.lst (.cons (.fn 1 (.cons (.var 8) .nil)) (.cons (.fn 1 (.cons (.var 9) .nil)) (.cons (.fn 0 (.cons (.var 9) .nil)) (.cons (.fn 0 (.cons (.var 8) .nil)) .nil))))) (.lst (.cons (.lst .nil) (.cons (.lst (.cons (.tup (.cons (.cst (.int 1)) (.cons (.cst (.int 3)) .nil))) (.cons (.tup (.cons (.cst (.int 3)) .nil)) .nil))) (.cons (.tup (.cons (.cst (.int 1)) (.cons (.cst (.int 3)) .nil))) (.cons (.cst .none) .nil)))))) (.cons (.ret (.cst (.bool false))) .nil) .nil) (.cons (.unp (.tp [10, 11]) (.tup (.cons (.tup (.cons (.cst (.int 4)) (.cons (.tup (.cons (.tup (.cons (.cst (.int 0)) (.cons (.cst (.int 1)) .nil))) (.cons (.tup (.cons (.cst (.int 1)) (.cons (.cst (.int 2)) .nil))) (.cons (.tup (.cons (.cst (.int 2)) (.cons (.cst (.int 0)) .nil))) (.cons (.tup (.cons (.cst (.int 2)) (.cons (.cst (.int 3)) .nil))) .nil))))) .nil))) (.cons (.tup (.cons (.cst (.int 4)) (.cons (.tup (.cons (.tup (.cons (.cst (.int 0)) (.cons (.cst (.int 1)) .nil))) (.cons (.tup (.cons (.cst (.int 1)) (.cons (.cst (.int 2)) .nil))) (.cons (.tup (.cons (.cst (.int 2)) (.cons (.cst (.int 3)) .nil))) (.cons (.tup (.cons (.cst (.int 3)) (.cons (.cst (.int 0)) .nil))) .nil))))) .nil))) .nil)))) (.cons (.ifs (.or (.cmp .ne (.fn 1 (.cons (.var 10) .nil)) (.lst (.cons (.tup (.cons (.cst (.int 1)) (.cons (.cst (.int 3)) .nil))) (.cons (.tup (.cons (.cst (.int 3)) .nil)) .nil)))) (.cmp .ne (.fn 0 (.cons (.var 11) .nil)) (.tup (.cons (.cst (.int 0)) (.cons (.cst (.int 2)) .nil))))) (.cons (.ret (.cst (.bool false))) .nil) .nil) (.cons (.ret (.cmp .eq (.fn 0 (.cons (.var 10) .nil)) (.tup (.cons (.cst (.int 1)) (.cons (.cst (.int 3)) .nil))))) .nil))))))
def F_law_k05 : List W → M W := fdef (fun k => (([F_grown, F_half_lots, F__law_halves, F_quiet_lots, F__law_lots, F__law_is_quiet, F__law_grown, F__law_drawn, F__law_jug_of] : List (List W → M W))[k]?).getD (fun _ => M.no)) 1 13 ib_law_k05
def ib_is_shown : ISs := (.cons (.ifs (.or (.not (.pr .isTup (.cons (.var 3) .nil))) (.cmp .eq (.var 3) (.tup .nil))) (.cons (.ret (.cst (.bool false))) .nil) .nil) (.cons (.ifs (.and (.cmp .eq (.pr .len (.cons (.var 3) .nil)) (.cst (.int 3))) (.and (.fn 1 (.cons (.ix (.var 3) (.cst (.int 0))) (.cons (.cst (.int 0)) (.cons (.bin .sub (.ix (.var 0) (.cst (.int 0))) (.cst (.int 1))) .nil)))) (.cmp .nin (.ix (.var 3) (.cst (.int 0))) (.bin .add (.var 1) (.var 2))))) (.cons (.ifs (.not (.fn 2 (.cons (.var 0) (.cons (.bin .add (.var 1) (.tup (.cons (.ix (.var 3) (.cst (.int 0))) .nil))) (.cons (.var 2) (.cons (.ix (.var 3) (.cst (.int 1))) .nil)))))) (.cons (.ret (.cst (.bool false))) .nil) .nil) (.cons (.ret (.fn 2 (.cons (.var 0) (.cons (.var 1) (.cons (.bin .add (.var 2) (.tup (.cons (.ix (.var 3) (.cst (.int 0))) .nil))) (.cons (.ix (.var 3) (.cst (.int 2))) .nil)))))) .nil)) .nil) (.cons (.ifs (.or (.not (.pr .isStr (.cons (.ix (.var 3) (.cst (.int 0))) .nil))) (.cmp .ne (.lc [4] (.nm 4) (.seq (.sl (.var 3) (.so (.cst (.int 1))) .no)) (.so (.not (.fn 1 (.cons (.var 4) (.cons (.cst (.int 0)) (.cons (.bin .sub (.ix (.var 0) (.cst (.int 0))) (.cst (.int 1))) .nil)))))) (.var 4)) (.lst .nil))) (.cons (.ret (.cst (.bool false))) .nil) .nil) (.cons (.ifs (.and (.cmp .eq (.ix (.var 3) (.cst (.int 0))) (.cst (.str "way"))) (.cmp .eq (.pr .len (.cons (.var 3) .nil)) (.cst (.int 3)))) (.cons (.ret (.and (.cmp .isin (.ix (.var 3) (.cst (.int 1))) (.var 1)) (.and (.cmp .isin (.ix (.var 3) (.cst (.int 2))) (.var 1)) (.cmp .isin (.sl (.var 3) (.so (.cst (.int 1))) .no) (.ix (.var 0) (.cst (.int 1))))))) .nil) .nil) (.cons (.ifs (.and (.cmp .eq (.ix (.var 3) (.cst (.int 0))) (.cst (.str "bare"))) (.cmp .eq (.pr .len (.cons (.var 3) .nil)) (.cst (.int 2)))) (.cons (.ret (.and (.cmp .isin (.ix (.var 3) (.cst (.int 1))) (.var 2)) (.cmp .eq (.lc [5] (.nm 5) (.seq (.fn 0 (.cons (.var 0) (.cons (.ix (.var 3) (.cst (.int 1))) .nil)))) (.so (.cmp .nin (.var 5) (.var 2))) (.var 5)) (.lst .nil)))) .nil) .nil) (.cons (.ret (.cst (.bool false))) .nil))))))
def R_is_shown : Nat → List W → M W
  | 0 => fun _ => M.no
  | n + 1 => fdef (fun k => (([F_leads, F_is_int, R_is_shown n] : List (List W → M W))[k]?).getD (fun _ => M.no)) 4 6 ib_is_shown
def F_is_shown : List W → M W := R_is_shown 8
def ib_leaf_for : ISs := (.cons (.asg 3 (.lc [5] (.nm 5) (.seq (.ix (.var 0) (.cst (.int 1)))) (.so (.and (.cmp .isin (.ix (.var 5) (.cst (.int 0))) (.var 1)) (.cmp .isin (.ix (.var 5) (.cst (.int 1))) (.var 1)))) (.var 5))) (.cons (.ifs (.cmp .ne (.var 3) (.lst .nil)) (.cons (.ret (.bin .add (.tup (.cons (.cst (.str "way")) .nil)) (.ix (.var 3) (.cst (.int 0))))) .nil) .nil) (.cons (.asg 4 (.lc [6] (.nm 6) (.seq (.var 2)) (.so (.cmp .eq (.lc [7] (.nm 7) (.seq (.fn 0 (.cons (.var 0) (.cons (.var 6) .nil)))) (.so (.cmp .nin (.var 7) (.var 2))) (.var 7)) (.lst .nil))) (.var 6))) (.cons (.ret (.ifx (.cmp .ne (.var 4) (.lst .nil)) (.tup (.cons (.cst (.str "bare")) (.cons (.ix (.var 4) (.cst (.int 0))) .nil))) (.cst .none))) .nil))))
def F_leaf_for : List W → M W := fdef (fun k => (([F_leads] : List (List W → M W))[k]?).getD (fun _ => M.no)) 3 8 ib_leaf_for
def ib_paper_for : ISs := (.cons (.asg 3 (.fn 1 (.cons (.var 0) (.cons (.var 1) (.cons (.var 2) .nil))))) (.cons (.ifs (.cmp .isnt (.var 3) (.cst .none)) (.cons (.ret (.var 3)) .nil) .nil) (.cons (.asg 4 (.lc [7] (.nm 7) (.rng1 (.ix (.var 0) (.cst (.int 0)))) (.so (.cmp .nin (.var 7) (.bin .add (.var 1) (.var 2)))) (.var 7))) (.cons (.ifs (.cmp .eq (.var 4) (.lst .nil)) (.cons (.ret (.cst .none)) .nil) .nil) (.cons (.asg 5 (.fn 0 (.cons (.var 0) (.cons (.bin .add (.var 1) (.tup (.cons (.ix (.var 4) (.cst (.int 0))) .nil))) (.cons (.var 2) .nil))))) (.cons (.asg 6 (.ifx (.cmp .is (.var 5) (.cst .none)) (.cst .none) (.fn 0 (.cons (.var 0) (.cons (.var 1) (.cons (.bin .add (.var 2) (.tup (.cons (.ix (.var 4) (.cst (.int 0))) .nil))) .nil)))))) (.cons (.ret (.ifx (.cmp .is (.var 6) (.cst .none)) (.cst .none) (.tup (.cons (.ix (.var 4) (.cst (.int 0))) (.cons (.var 5) (.cons (.var 6) .nil)))))) .nil)))))))
def R_paper_for : Nat → List W → M W
  | 0 => fun _ => M.no
  | n + 1 => fdef (fun k => (([R_paper_for n, F_leaf_for] : List (List W → M W))[k]?).getD (fun _ => M.no)) 3 8 ib_paper_for
def F_paper_for : List W → M W := R_paper_for 8
def ib_paper : ISs := (.cons (.ex (.fn 1 (.cons (.var 0) .nil))) (.cons (.ret (.fn 0 (.cons (.var 0) (.cons (.tup .nil) (.cons (.tup .nil) .nil))))) .nil))
def F_paper : List W → M W := fdef (fun k => (([F_paper_for, F_need_web] : List (List W → M W))[k]?).getD (fun _ => M.no)) 1 1 ib_paper
def ib_is_paper : ISs := (.cons (.ex (.fn 1 (.cons (.var 0) .nil))) (.cons (.ret (.fn 0 (.cons (.var 0) (.cons (.tup .nil) (.cons (.tup .nil) (.cons (.var 1) .nil)))))) .nil))
def F_is_paper : List W → M W := fdef (fun k => (([F_is_shown, F_need_web] : List (List W → M W))[k]?).getD (fun _ => M.no)) 2 2 ib_is_paper
def ib__law_int_k06 : ISs := (.cons (.ret (.and (.pr .isInt (.cons (.var 0) .nil)) (.and (.not (.pr .isBool (.cons (.var 0) .nil))) (.chn .le .le (.cst (.int 0)) (.var 0) (.var 1))))) .nil)
def F__law_int_k06 : List W → M W := fdef (fun k => (([] : List (List W → M W))[k]?).getD (fun _ => M.no)) 2 2 ib__law_int_k06
def ib__law_leaf : ISs := (.cons (.ifs (.and (.cmp .eq (.pr .len (.cons (.var 3) .nil)) (.cst (.int 3))) (.cmp .eq (.ix (.var 3) (.cst (.int 0))) (.cst (.str "way")))) (.cons (.ret (.and (.cmp .isin (.ix (.var 3) (.cst (.int 1))) (.var 1)) (.and (.cmp .isin (.ix (.var 3) (.cst (.int 2))) (.var 1)) (.cmp .isin (.tup (.cons (.ix (.var 3) (.cst (.int 1))) (.cons (.ix (.var 3) (.cst (.int 2))) .nil))) (.ix (.var 0) (.cst (.int 1))))))) .nil) .nil) (.cons (.ifs (.and (.cmp .eq (.pr .len (.cons (.var 3) .nil)) (.cst (.int 2))) (.and (.cmp .eq (.ix (.var 3) (.cst (.int 0))) (.cst (.str "bare"))) (.cmp .isin (.ix (.var 3) (.cst (.int 1))) (.var 2)))) (.cons (.ret (.cmp .eq (.lc [4] (.nm 4) (.seq (.ix (.var 0) (.cst (.int 1)))) (.so (.and (.cmp .eq (.ix (.var 4) (.cst (.int 0))) (.ix (.var 3) (.cst (.int 1)))) (.cmp .nin (.ix (.var 4) (.cst (.int 1))) (.var 2)))) (.var 4)) (.lst .nil))) .nil) .nil) (.cons (.ret (.cst (.bool false))) .nil)))
def F__law_leaf : List W → M W := fdef (fun k => (([] : List (List W → M W))[k]?).getD (fun _ => M.no)) 4 5 ib__law_leaf
def ib__law_shows : ISs := (.cons (.ifs (.or (.not (.pr .isTup (.cons (.var 3) .nil))) (.cmp .nin (.pr .len (.cons (.var 3) .nil)) (.tup (.cons (.cst (.int 2)) (.cons (.cst (.int 3)) .nil))))) (.cons (.ret (.cst (.bool false))) .nil) .nil) (.cons (.ifs (.pr .isStr (.cons (.ix (.var 3) (.cst (.int 0))) .nil)) (.cons (.ifs (.cmp .ne (.lc [4] (.nm 4) (.seq (.sl (.var 3) (.so (.cst (.int 1))) .no)) (.so (.not (.fn 1 (.cons (.var 4) (.cons (.bin .sub (.ix (.var 0) (.cst (.int 0))) (.cst (.int 1))) .nil))))) (.var 4)) (.lst .nil)) (.cons (.ret (.cst (.bool false))) .nil) .nil) (.cons (.ret (.fn 2 (.cons (.var 0) (.cons (.var 1) (.cons (.var 2) (.cons (.var 3) .nil)))))) .nil)) .nil) (.cons (.ifs (.or (.cmp .ne (.pr .len (.cons (.var 3) .nil)) (.cst (.int 3))) (.or (.not (.fn 1 (.cons (.ix (.var 3) (.cst (.int 0))) (.cons (.bin .sub (.ix (.var 0) (.cst (.int 0))) (.cst (.int 1))) .nil)))) (.cmp .isin (.ix (.var 3) (.cst (.int 0))) (.bin .add (.var 1) (.var 2))))) (.cons (.ret (.cst (.bool false))) .nil) .nil) (.cons (.ifs (.not (.fn 0 (.cons (.var 0) (.cons (.bin .add (.var 1) (.lst (.cons (.ix (.var 3) (.cst (.int 0))) .nil))) (.cons (.var 2) (.cons (.ix (.var 3) (.cst (.int 1))) .nil)))))) (.cons (.ret (.cst (.bool false))) .nil) .nil) (.cons (.ret (.fn 0 (.cons (.var 0) (.cons (.var 1) (.cons (.bin .add (.var 2) (.lst (.cons (.ix (.var 3) (.cst (.int 0))) .nil))) (.cons (.ix (.var 3) (.cst (.int 2))) .nil)))))) .nil)))))
def R__law_shows : Nat → List W → M W
  | 0 => fun _ => M.no
  | n + 1 => fdef (fun k => (([R__law_shows n, F__law_int_k06, F__law_leaf] : List (List W → M W))[k]?).getD (fun _ => M.no)) 4 5 ib__law_shows
def F__law_shows : List W → M W := R__law_shows 8
def ib__law_made : ISs := (.cons (.forr (.nm 4) (.seq (.var 2)) (.cons (.forr (.nm 5) (.seq (.var 2)) (.cons (.ifs (.cmp .isin (.tup (.cons (.var 4) (.cons (.var 5) .nil))) (.ix (.var 1) (.cst (.int 1)))) (.cons (.ret (.tup (.cons (.cst (.str "way")) (.cons (.var 4) (.cons (.var 5) .nil))))) .nil) .nil) .nil)) .nil)) (.cons (.forr (.nm 6) (.seq (.var 3)) (.cons (.ifs (.cmp .eq (.lc [8] (.nm 8) (.seq (.ix (.var 1) (.cst (.int 1)))) (.so (.and (.cmp .eq (.ix (.var 8) (.cst (.int 0))) (.var 6)) (.cmp .nin (.ix (.var 8) (.cst (.int 1))) (.var 3)))) (.var 8)) (.lst .nil)) (.cons (.ret (.tup (.cons (.cst (.str "bare")) (.cons (.var 6) .nil)))) .nil) .nil) .nil)) (.cons (.asg 7 (.lc [6] (.nm 6) (.rng1 (.ix (.var 1) (.cst (.int 0)))) (.so (.cmp .nin (.var 6) (.bin .add (.var 2) (.var 3)))) (.var 6))) (.cons (.ifs (.cmp .eq (.var 7) (.lst .nil)) (.cons (.ret (.cst .none)) .nil) .nil) (.cons (.asg 6 (.fn 1 (.cons (.var 0) (.cons (.var 7) .nil)))) (.cons (.asg 4 (.fn 0 (.cons (.var 0) (.cons (.var 1) (.cons (.bin .add (.var 2) (.lst (.cons (.var 6) .nil))) (.cons (.var 3) .nil)))))) (.cons (.asg 5 (.ifx (.cmp .is (.var 4) (.cst .none)) (.cst .none) (.fn 0 (.cons (.var 0) (.cons (.var 1) (.cons (.var 2) (.cons (.bin .add (.var 3) (.lst (.cons (.var 6) .nil))) .nil))))))) (.cons (.ret (.ifx (.cmp .is (.var 5) (.cst .none)) (.cst .none) (.tup (.cons (.var 6) (.cons (.var 4) (.cons (.var 5) .nil)))))) .nil))))))))
def R__law_made : Nat → List W → M W
  | 0 => fun _ => M.no
  | n + 1 => fdef (fun k => (([R__law_made n, F__law_any] : List (List W → M W))[k]?).getD (fun _ => M.no)) 4 9 ib__law_made
def F__law_made : List W → M W := R__law_made 8
def ib__law_bent_k06 : ISs := (.cons (.asg 2 (.fn 2 (.cons (.var 0) (.cons (.cst (.int 7)) .nil)))) (.cons (.ifs (.and (.pr .isTup (.cons (.var 1) .nil)) (.and (.cmp .ne (.var 1) (.tup .nil)) (.cmp .gt (.var 2) (.cst (.int 0))))) (.cons (.asg 3 (.fn 2 (.cons (.var 0) (.cons (.pr .len (.cons (.var 1) .nil)) .nil)))) (.cons (.ifs (.cmp .eq (.var 2) (.cst (.int 1))) (.cons (.ret (.bin .add (.sl (.var 1) .no (.so (.var 3))) (.sl (.var 1) (.so (.bin .add (.var 3) (.cst (.int 1)))) .no))) .nil) .nil) (.cons (.ret (.bin .add (.bin .add (.sl (.var 1) .no (.so (.var 3))) (.tup (.cons (.fn 1 (.cons (.var 0) (.cons (.ix (.var 1) (.var 3)) .nil))) .nil))) (.sl (.var 1) (.so (.bin .add (.var 3) (.cst (.int 1)))) .no))) .nil))) .nil) (.cons (.ret (.fn 0 (.cons (.var 0) (.cons (.lst (.cons (.cst .none) (.cons (.cst (.bool true)) (.cons (.cst (.int 0)) (.cons (.cst (.int 1)) (.cons (.cst (.int 2)) (.cons (.cst (.int 3)) (.cons (.cst (.int 7)) (.cons (.neg (.cst (.int 1))) (.cons (.tup .nil) (.cons (.cst (.str "way")) (.cons (.cst (.str "bare")) (.cons (.tup (.cons (.cst (.str "bare")) (.cons (.cst (.int 0)) .nil))) (.cons (.tup (.cons (.cst (.str "way")) (.cons (.cst (.int 0)) (.cons (.cst (.int 1)) .nil)))) (.cons (.lst (.cons (.cst (.int 1)) .nil)) .nil))))))))))))))) .nil)))) .nil)))
def R__law_bent_k06 : Nat → List W → M W
  | 0 => fun _ => M.no
  | n + 1 => fdef (fun k => (([F__law_any, R__law_bent_k06 n, F__law_dip] : List (List W → M W))[k]?).getD (fun _ => M.no)) 2 4 ib__law_bent_k06
def F__law_bent_k06 : List W → M W := R__law_bent_k06 10
def ib_law_k06 : ISs := (.cons (.forr (.nm 1) (.rng1 (.bin .add (.cst (.int 1)) (.pr .min2 (.cons (.slen (.var 0)) (.cons (.cst (.int 8)) .nil))))) (.cons (.asg 2 (.fn 7 (.cons (.var 0) (.cons (.var 1) .nil)))) (.cons (.forr (.nm 3) (.rng1 (.cst (.int 5))) (.cons (.asg 4 (.fn 6 (.cons (.var 2) (.cons (.cst (.int 1)) (.cons (.cst (.int 7)) .nil))))) (.cons (.par [5, 6] (.cons (.fn 0 (.cons (.var 4) .nil)) (.cons (.fn 5 (.cons (.var 2) (.cons (.var 4) (.cons (.lst .nil) (.cons (.lst .nil) .nil))))) .nil))) (.cons (.ifs (.or (.cmp .ne (.cmp .is (.var 5) (.cst .none)) (.cmp .ne (.fn 4 (.cons (.var 4) .nil)) (.lst .nil))) (.cmp .ne (.cmp .is (.var 6) (.cst .none)) (.cmp .is (.var 5) (.cst .none)))) (.cons (.ret (.cst (.bool false))) .nil) .nil) (.cons (.ifs (.and (.cmp .isnt (.var 5) (.cst .none)) (.or (.not (.fn 2 (.cons (.var 4) (.cons (.lst .nil) (.cons (.lst .nil) (.cons (.var 5) .nil)))))) (.cmp .isnt (.fn 1 (.cons (.var 4) (.cons (.var 5) .nil))) (.cst (.bool true))))) (.cons (.ret (.cst (.bool false))) .nil) .nil) (.cons (.forr (.nm 7) (.rng1 (.ifx (.cmp .isnt (.var 6) (.cst .none)) (.cst (.int 8)) (.cst (.int 2)))) (.cons (.asg 8 (.ifx (.cmp .gt (.var 7) (.cst (.int 0))) (.fn 3 (.cons (.var 2) (.cons (.var 6) .nil))) (.var 6))) (.cons (.ifs (.cmp .ne (.fn 1 (.cons (.var 4) (.cons (.var 8) .nil))) (.fn 2 (.cons (.var 4) (.cons (.lst .nil) (.cons (.lst .nil) (.cons (.var 8) .nil)))))) (.cons (.ret (.cst (.bool false))) .nil) .nil) .nil))) .nil)))))) .nil))) (.cons (.asg 9 (.tup (.cons (.cst (.int 3)) (.cons (.tup (.cons (.tup (.cons (.cst (.int 0)) (.cons (.cst (.int 1)) .nil))) (.cons (.tup (.cons (.cst (.int 1)) (.cons (.cst (.int 2)) .nil))) (.cons (.tup (.cons (.cst (.int 2)) (.cons (.cst (.int 0)) .nil))) .nil)))) .nil)))) (.cons (.unp (.tp [10, 11]) (.tup (.cons (.tup (.cons (.cst (.int 2)) (.cons (.tup (.cons (.cst (.str "way")) (.cons (.cst (.int 2)) (.cons (.cst (.int 0)) .nil)))) (.cons (.tup (.cons (.cst (.str "bare")) (.cons (.cst (.int 1)) .nil))) .nil)))) (.cons (.tup (.cons (.cst (.int 2)) (.cons (.tup (.cons (.cst (.str "way")) (.cons (.cst (.int 1)) (.cons (.cst (.int 2)) .nil)))) (.cons (.tup (.cons (.cst (.str "bare")) (.cons (.cst (.int 2)) .nil))) .nil)))) .nil)))) (.cons (.asg 12 (.tup (.cons (.cst (.int 0)) (.cons (.tup (.cons (.cst (.int 1)) (.cons (.tup (.cons (.cst (.str "way")) (.cons (.cst (.int 0)) (.cons (.cst (.int 1)) .nil)))) (.cons (.var 10) .nil)))) (.cons (.tup (.cons (.cst (.int 1)) (.cons (.var 11) (.cons (.tup (.cons (.cst (.str "bare")) (.cons (.cst (.int 0)) .nil))) .nil)))) .nil))))) (.cons (.ifs (.cmp .ne (.lst (.cons (.fn 1 (.cons (.var 9) (.cons (.var 12) .nil))) (.cons (.fn 1 (.cons (.var 9) (.cons (.var 10) .nil))) (.cons (.fn 1 (.cons (.var 9) (.cons (.tup (.cons (.cst (.str "way")) (.cons (.cst (.int 0)) (.cons (.cst (.int 1)) .nil)))) .nil))) .nil)))) (.lst (.cons (.cst (.bool true)) (.cons (.cst (.bool false)) (.cons (.cst (.bool false)) .nil))))) (.cons (.ret (.cst (.bool false))) .nil) .nil) (.cons (.asg 13 (.tup (.cons (.cst (.int 0)) (.cons (.tup (.cons (.cst (.int 1)) (.cons (.tup (.cons (.cst (.str "way")) (.cons (.cst (.int 0)) (.cons (.cst (.int 1)) .nil)))) (.cons (.var 10) .nil)))) (.cons (.tup (.cons (.cst (.int 1)) (.cons (.tup (.cons (.cst (.int 0)) (.cons (.tup (.cons (.cst (.str "bare")) (.cons (.cst (.int 0)) .nil))) (.cons (.tup (.cons (.cst (.str "bare")) (.cons (.cst (.int 0)) .nil))) .nil)))) (.cons (.tup (.cons (.cst (.str "bare")) (.cons (.cst (.int 0)) .nil))) .nil)))) .nil))))) (.cons (.asg 14 (.mls (.cons (.pr .list (.cons (.var 12) .nil)) (.cons (.tup (.cons (.cst (.int 0)) (.cons (.ix (.var 12) (.cst (.int 1))) .nil))) (.cons (.bin .add (.var 12) (.tup (.cons (.cst (.int 0)) .nil))) (.cons (.bin .add (.tup (.cons (.cst (.bool true)) .nil)) (.sl (.var 12) (.so (.cst (.int 1))) .no)) (.cons (.var 13) (.cons (.tup (.cons (.cst (.int 0)) (.cons (.ix (.var 12) (.cst (.int 1))) (.cons (.tup (.cons (.cst (.str "bare")) (.cons (.cst (.int 0)) .nil))) .nil)))) (.cons (.cst .none) (.cons (.tup .nil) .nil)))))))))) (.cons (.app (.var 14) (.tup (.cons (.cst (.int 0)) (.cons (.cst .none) (.cons (.ix (.var 12) (.cst (.int 2))) .nil))))) (.cons (.ifs (.or (.cmp .ne (.lc [15] (.nm 15) (.seq (.var 14)) (.so (.cmp .isnt (.fn 1 (.cons (.var 9) (.cons (.var 15) .nil))) (.cst (.bool false)))) (.var 15)) (.lst .nil)) (.fn 1 (.cons (.tup (.cons (.cst (.int 1)) (.cons (.tup .nil) .nil))) (.cons (.tup (.cons (.cst (.str "bare")) (.cons (.cst (.int 0)) .nil))) .nil)))) (.cons (.ret (.cst (.bool false))) .nil) .nil) (.cons (.ret (.cmp .is (.fn 0 (.cons (.tup (.cons (.cst (.int 1)) (.cons (.tup .nil) .nil))) .nil)) (.cst .none))) .nil))))))))))
def F_law_k06 : List W → M W := fdef (fun k => (([F_paper, F_is_paper, F__law_shows, F__law_bent_k06, F__law_quiet, F__law_made, F__law_drawn, F__law_jug_of] : List (List W → M W))[k]?).getD (fun _ => M.no)) 1 16 ib_law_k06
def ib_first_of : ISs := (.cons (.ret (.ix (.pr .mind (.cons (.lc [1] (.nm 1) (.seq (.var 0)) .no (.tup (.cons (.pr .len (.cons (.var 1) .nil)) (.cons (.var 1) .nil)))) .nil)) (.cst (.int 1)))) .nil)
def F_first_of : List W → M W := fdef (fun k => (([] : List (List W → M W))[k]?).getD (fun _ => M.no)) 1 2 ib_first_of
def ib_least_struck : ISs := (.cons (.ex (.fn 4 (.cons (.var 0) .nil))) (.cons (.asg 1 (.lc [2] (.nm 2) (.seq (.fn 2 (.cons (.ix (.var 0) (.cst (.int 0))) .nil))) (.so (.cmp .eq (.fn 3 (.cons (.var 0) (.cons (.var 2) .nil))) (.lst .nil))) (.var 2))) (.cons (.ret (.fn 0 (.cons (.lc [2] (.nm 2) (.seq (.var 1)) .no (.pr .tuple (.cons (.fn 1 (.cons (.var 0) (.cons (.var 2) .nil))) .nil))) .nil))) .nil)))
def F_least_struck : List W → M W := fdef (fun k => (([F_first_of, F_within, F_all_lots, F_uncovered, F_need_web] : List (List W → M W))[k]?).getD (fun _ => M.no)) 1 3 ib_least_struck
def ib_least_put : ISs := (.cons (.ex (.fn 4 (.cons (.var 0) .nil))) (.cons (.asg 1 (.lc [2] (.nm 2) (.seq (.fn 2 (.cons (.ix (.var 0) (.cst (.int 0))) .nil))) (.so (.and (.cmp .ne (.var 2) (.tup .nil)) (.cmp .eq (.fn 3 (.cons (.var 0) (.cons (.var 2) .nil))) (.lst .nil)))) (.var 2))) (.cons (.ret (.fn 0 (.cons (.lc [2] (.nm 2) (.seq (.var 1)) .no (.pr .tuple (.cons (.lc [3] (.nm 3) (.seq (.fn 1 (.cons (.var 0) (.cons (.var 2) .nil)))) .no (.tup (.cons (.var 3) (.cons (.ix (.var 2) (.cst (.int 0))) .nil)))) .nil))) .nil))) .nil)))
def F_least_put : List W → M W := fdef (fun k => (([F_first_of, F_uncovered, F_all_lots, F_within, F_need_web] : List (List W → M W))[k]?).getD (fun _ => M.no)) 1 4 ib_least_put
def ib_turned_for : ISs := (.cons (.asg 2 (.lst .nil)) (.cons (.forr (.nm 3) (.seq (.fn 0 (.cons (.var 0) (.cons (.var 1) .nil)))) (.cons (.asg 4 (.lc [5] (.nm 5) (.seq (.ix (.var 0) (.cst (.int 1)))) (.so (.and (.cmp .isin (.ix (.var 5) (.cst (.int 0))) (.var 1)) (.cmp .eq (.ix (.var 5) (.cst (.int 1))) (.var 3)))) (.var 5))) (.cons (.ifs (.cmp .eq (.var 4) (.lst .nil)) (.cons (.ret (.cst .none)) .nil) .nil) (.cons (.asg 2 (.bin .add (.var 2) (.sl (.var 4) .no (.so (.cst (.int 1)))))) .nil)))) (.cons (.ret (.pr .tuple (.cons (.pr .sorted (.cons (.var 2) .nil)) .nil))) .nil)))
def F_turned_for : List W → M W := fdef (fun k => (([F_uncovered] : List (List W → M W))[k]?).getD (fun _ => M.no)) 2 6 ib_turned_for
def ib_least_turned : ISs := (.cons (.ex (.fn 4 (.cons (.var 0) .nil))) (.cons (.asg 1 (.lc [3] (.nm 3) (.seq (.fn 2 (.cons (.ix (.var 0) (.cst (.int 0))) .nil))) (.so (.cmp .eq (.fn 3 (.cons (.var 0) (.cons (.var 3) .nil))) (.lst .nil))) (.var 3))) (.cons (.asg 2 (.lc [3] (.nm 3) (.seq (.var 1)) .no (.fn 1 (.cons (.var 0) (.cons (.var 3) .nil))))) (.cons (.ret (.fn 0 (.cons (.lc [4] (.nm 4) (.seq (.var 2)) (.so (.cmp .isnt (.var 4) (.cst .none))) (.var 4)) .nil))) .nil))))
def F_least_turned : List W → M W := fdef (fun k => (([F_first_of, F_turned_for, F_all_lots, F_within, F_need_web] : List (List W → M W))[k]?).getD (fun _ => M.no)) 1 5 ib_least_turned
def ib__law_picks : ISs := (.cons (.par [2, 3] (.cons (.lst (.cons (.tup .nil) .nil)) (.cons (.lst (.cons (.tup (.cons (.tup .nil) (.cons (.cst (.int 0)) .nil))) .nil)) .nil))) (.cons (.forr (.nm 4) (.rng1 (.var 1)) (.cons (.asg 5 (.mls .nil)) (.cons (.forr (.tp [6, 7]) (.seq (.var 3)) (.cons (.forr (.nm 8) (.rng2 (.var 7) (.pr .len (.cons (.var 0) .nil))) (.cons (.app (.var 5) (.tup (.cons (.bin .add (.var 6) (.tup (.cons (.ix (.var 0) (.var 8)) .nil))) (.cons (.bin .add (.var 8) (.cst (.int 1))) .nil)))) .nil)) .nil)) (.cons (.asg 3 (.var 5)) (.cons (.asg 2 (.bin .add (.var 2) (.lc [9] (.nm 9) (.seq (.var 3)) .no (.ix (.var 9) (.cst (.int 0)))))) .nil))))) (.cons (.ret (.var 2)) .nil)))
def F__law_picks : List W → M W := fdef (fun k => (([] : List (List W → M W))[k]?).getD (fun _ => M.no)) 2 10 ib__law_picks
def ib__law_behind : ISs := (.cons (.asg 3 (.lc [4] (.nm 4) (.seq (.ix (.var 0) (.cst (.int 1)))) (.so (.cmp .nin (.var 4) (.var 2))) (.var 4))) (.cons (.ifs (.cmp .eq (.var 1) (.cst (.str "put"))) (.cons (.asg 3 (.bin .add (.pr .list (.cons (.ix (.var 0) (.cst (.int 1))) .nil)) (.pr .list (.cons (.var 2) .nil)))) .nil) .nil) (.cons (.ifs (.cmp .eq (.var 1) (.cst (.str "turn"))) (.cons (.asg 3 (.bin .add (.var 3) (.lc [5, 6] (.tp [5, 6]) (.seq (.var 2)) .no (.tup (.cons (.var 6) (.cons (.var 5) .nil)))))) .nil) .nil) (.cons (.ret (.tup (.cons (.ix (.var 0) (.cst (.int 0))) (.cons (.pr .tuple (.cons (.pr .sortset (.cons (.var 3) .nil)) .nil)) .nil)))) .nil))))
def F__law_behind : List W → M W := fdef (fun k => (([] : List (List W → M W))[k]?).getD (fun _ => M.no)) 3 7 ib__law_behind
def ib__law_due : ISs := (.cons (.forr (.nm 3) (.seq (.fn 0 (.cons (.var 2) (.cons (.cst (.int 3)) .nil)))) (.cons (.ifs (.cmp .ne (.fn 1 (.cons (.fn 2 (.cons (.var 0) (.cons (.var 1) (.cons (.var 3) .nil)))) .nil)) (.lst .nil)) (.cons (.ret (.var 3)) .nil) .nil) .nil)) (.cons (.ret (.cst .none)) .nil))
def F__law_due : List W → M W := fdef (fun k => (([F__law_picks, F__law_quiet, F__law_behind] : List (List W → M W))[k]?).getD (fun _ => M.no)) 3 4 ib__law_due
def ib__law_helps : ISs := (.cons (.ifs (.or (.cmp .ne (.lc [4] (.nm 4) (.seq (.var 2)) (.so (.cmp .nin (.var 4) (.var 3))) (.var 4)) (.lst .nil)) (.cmp .ne (.pr .list (.cons (.var 2) .nil)) (.pr .sortset (.cons (.var 2) .nil)))) (.cons (.ret (.cst (.bool false))) .nil) .nil) (.cons (.ret (.cmp .ne (.fn 0 (.cons (.fn 1 (.cons (.var 0) (.cons (.var 1) (.cons (.var 2) .nil)))) .nil)) (.lst .nil))) .nil))
def F__law_helps : List W → M W := fdef (fun k => (([F__law_quiet, F__law_behind] : List (List W → M W))[k]?).getD (fun _ => M.no)) 4 5 ib__law_helps
def ib_law_k07 : ISs := (.cons (.forr (.nm 1) (.rng1 (.bin .add (.cst (.int 1)) (.pr .min2 (.cons (.slen (.var 0)) (.cons (.cst (.int 6)) .nil))))) (.cons (.asg 2 (.fn 6 (.cons (.var 0) (.cons (.var 1) .nil)))) (.cons (.forr (.nm 3) (.rng1 (.cst (.int 4))) (.cons (.asg 4 (.fn 5 (.cons (.var 2) (.cons (.cst (.int 2)) (.cons (.ifx (.cmp .lt (.var 3) (.cst (.int 3))) (.cst (.int 4)) (.cst (.int 7))) .nil))))) (.cons (.asg 5 (.lst .nil)) (.cons (.forr (.nm 6) (.rng1 (.ix (.var 4) (.cst (.int 0)))) (.cons (.asg 5 (.bin .add (.var 5) (.lc [14] (.nm 14) (.rng1 (.ix (.var 4) (.cst (.int 0)))) (.so (.cmp .ne (.var 14) (.var 6))) (.tup (.cons (.var 6) (.cons (.var 14) .nil)))))) .nil)) (.cons (.asg 7 (.lc [13] (.nm 13) (.seq (.var 5)) (.so (.cmp .nin (.var 13) (.ix (.var 4) (.cst (.int 1))))) (.var 13))) (.cons (.forr (.tp [8, 9, 10]) (.seq (.lst (.cons (.tup (.cons (.cst (.str "strike")) (.cons (.fn 0 (.cons (.var 4) .nil)) (.cons (.ix (.var 4) (.cst (.int 1))) .nil)))) (.cons (.tup (.cons (.cst (.str "turn")) (.cons (.fn 1 (.cons (.var 4) .nil)) (.cons (.ix (.var 4) (.cst (.int 1))) .nil)))) .nil)))) (.cons (.ifs (.not (.fn 4 (.cons (.var 4) (.cons (.var 8) (.cons (.var 9) (.cons (.var 10) .nil)))))) (.cons (.ret (.cst (.bool false))) .nil) .nil) (.cons (.ifs (.and (.cmp .lt (.var 3) (.cst (.int 3))) (.cmp .nin (.fn 3 (.cons (.var 4) (.cons (.var 8) (.cons (.var 10) .nil)))) (.tup (.cons (.var 9) (.cons (.cst .none) .nil))))) (.cons (.ret (.cst (.bool false))) .nil) .nil) .nil))) (.cons (.asg 9 (.fn 2 (.cons (.var 4) .nil))) (.cons (.ifs (.or (.not (.fn 4 (.cons (.var 4) (.cons (.cst (.str "put")) (.cons (.var 9) (.cons (.var 7) .nil)))))) (.and (.cmp .lt (.var 3) (.cst (.int 3))) (.cmp .nin (.fn 3 (.cons (.var 4) (.cons (.cst (.str "put")) (.cons (.var 7) .nil)))) (.tup (.cons (.var 9) (.cons (.cst .none) .nil)))))) (.cons (.ret (.cst (.bool false))) .nil) .nil) .nil)))))))) .nil))) (.cons (.asg 11 (.tup (.cons (.cst (.int 3)) (.cons (.tup (.cons (.tup (.cons (.cst (.int 0)) (.cons (.cst (.int 1)) .nil))) (.cons (.tup (.cons (.cst (.int 1)) (.cons (.cst (.int 2)) .nil))) (.cons (.tup (.cons (.cst (.int 2)) (.cons (.cst (.int 0)) .nil))) .nil)))) .nil)))) (.cons (.ifs (.cmp .ne (.lst (.cons (.fn 0 (.cons (.var 11) .nil)) (.cons (.fn 2 (.cons (.var 11) .nil)) (.cons (.fn 1 (.cons (.var 11) .nil)) .nil)))) (.lst (.cons (.tup (.cons (.tup (.cons (.cst (.int 0)) (.cons (.cst (.int 1)) .nil))) .nil)) (.cons (.tup (.cons (.tup (.cons (.cst (.int 0)) (.cons (.cst (.int 2)) .nil))) .nil)) (.cons (.tup (.cons (.tup (.cons (.cst (.int 0)) (.cons (.cst (.int 1)) .nil))) .nil)) .nil))))) (.cons (.ret (.cst (.bool false))) .nil) .nil) (.cons (.asg 12 (.tup (.cons (.cst (.int 6)) (.cons (.bin .add (.ix (.var 11) (.cst (.int 1))) (.tup (.cons (.tup (.cons (.cst (.int 3)) (.cons (.cst (.int 4)) .nil))) (.cons (.tup (.cons (.cst (.int 4)) (.cons (.cst (.int 5)) .nil))) (.cons (.tup (.cons (.cst (.int 5)) (.cons (.cst (.int 3)) .nil))) .nil))))) .nil)))) (.cons (.ifs (.cmp .ne (.lst (.cons (.fn 0 (.cons (.var 12) .nil)) (.cons (.fn 2 (.cons (.var 12) .nil)) .nil))) (.lst (.cons (.tup (.cons (.tup (.cons (.cst (.int 0)) (.cons (.cst (.int 1)) .nil))) (.cons (.tup (.cons (.cst (.int 3)) (.cons (.cst (.int 4)) .nil))) .nil))) (.cons (.tup (.cons (.tup (.cons (.cst (.int 0)) (.cons (.cst (.int 2)) .nil))) (.cons (.tup (.cons (.cst (.int 3)) (.cons (.cst (.int 2)) .nil))) .nil))) .nil)))) (.cons (.ret (.cst (.bool false))) .nil) .nil) (.cons (.ret (.and (.cmp .eq (.fn 1 (.cons (.var 12) .nil)) (.tup (.cons (.tup (.cons (.cst (.int 0)) (.cons (.cst (.int 1)) .nil))) (.cons (.tup (.cons (.cst (.int 3)) (.cons (.cst (.int 4)) .nil))) .nil)))) (.cmp .eq (.fn 0 (.cons (.tup (.cons (.cst (.int 1)) (.cons (.tup .nil) .nil))) .nil)) (.tup .nil)))) .nil))))))
def F_law_k07 : List W → M W := fdef (fun k => (([F_least_struck, F_least_turned, F_least_put, F__law_due, F__law_helps, F__law_drawn, F__law_jug_of] : List (List W → M W))[k]?).getD (fun _ => M.no)) 1 15 ib_law_k07
def ib_need_place : ISs := (.cons (.ifs (.not (.fn 0 (.cons (.var 1) (.cons (.cst (.int 0)) (.cons (.bin .sub (.ix (.var 0) (.cst (.int 0))) (.cst (.int 1))) .nil))))) (.cons (.rai "InvalidPlace" .no) .nil) .nil) .nil)
def F_need_place : List W → M W := fdef (fun k => (([F_is_int] : List (List W → M W))[k]?).getD (fun _ => M.no)) 2 2 ib_need_place
def ib_shifted : ISs := (.cons (.ret (.lc [2, 3] (.tp [2, 3]) (.seq (.var 0)) .no (.tup (.cons (.bin .add (.var 2) (.var 1)) (.cons (.bin .add (.var 3) (.var 1)) .nil))))) .nil)
def F_shifted : List W → M W := fdef (fun k => (([] : List (List W → M W))[k]?).getD (fun _ => M.no)) 2 4 ib_shifted
def ib_beside_of : ISs := (.cons (.ifs (.cmp .gt (.bin .add (.ix (.var 0) (.cst (.int 0))) (.ix (.var 1) (.cst (.int 0)))) (.cst (.int 7))) (.cons (.rai "TooMany" (.so (.cst (.int 7)))) .nil) .nil) (.cons (.ret (.tup (.cons (.bin .add (.ix (.var 0) (.cst (.int 0))) (.ix (.var 1) (.cst (.int 0)))) (.cons (.bin .add (.ix (.var 0) (.cst (.int 1))) (.pr .tuple (.cons (.fn 0 (.cons (.ix (.var 1) (.cst (.int 1))) (.cons (.ix (.var 0) (.cst (.int 0))) .nil))) .nil))) .nil)))) .nil))
def F_beside_of : List W → M W := fdef (fun k => (([F_shifted] : List (List W → M W))[k]?).getD (fun _ => M.no)) 2 2 ib_beside_of
def ib_new_places : ISs := (.cons (.ifs (.cmp .eq (.var 2) (.var 0)) (.cons (.ret (.pr .rng2 (.cons (.var 0) (.cons (.bin .add (.var 0) (.var 1)) .nil)))) .nil) .nil) (.cons (.ret (.lst (.cons (.ifx (.cmp .lt (.var 2) (.var 0)) (.var 2) (.bin .sub (.bin .add (.var 2) (.var 1)) (.cst (.int 1)))) .nil))) .nil))
def F_new_places : List W → M W := fdef (fun k => (([] : List (List W → M W))[k]?).getD (fun _ => M.no)) 3 3 ib_new_places
def ib_placed_of : ISs := (.cons (.ifs (.cmp .gt (.bin .sub (.bin .add (.ix (.var 0) (.cst (.int 0))) (.ix (.var 2) (.cst (.int 0)))) (.cst (.int 1))) (.cst (.int 7))) (.cons (.rai "TooMany" (.so (.cst (.int 7)))) .nil) .nil) (.cons (.asg 3 (.fn 1 (.cons (.ix (.var 2) (.cst (.int 1))) (.cons (.var 1) .nil)))) (.cons (.forr (.tp [4, 5]) (.seq (.ix (.var 0) (.cst (.int 1)))) (.cons (.forr (.nm 6) (.seq (.fn 0 (.cons (.var 1) (.cons (.ix (.var 2) (.cst (.int 0))) (.cons (.var 4) .nil))))) (.cons (.asg 3 (.bin .add (.var 3) (.lc [7] (.nm 7) (.seq (.fn 0 (.cons (.var 1) (.cons (.ix (.var 2) (.cst (.int 0))) (.cons (.var 5) .nil))))) .no (.tup (.cons (.var 6) (.cons (.var 7) .nil)))))) .nil)) .nil)) (.cons (.ret (.tup (.cons (.bin .sub (.bin .add (.ix (.var 0) (.cst (.int 0))) (.ix (.var 2) (.cst (.int 0)))) (.cst (.int 1))) (.cons (.pr .tuple (.cons (.pr .sorted (.cons (.var 3) .nil)) .nil)) .nil)))) .nil))))
def F_placed_of : List W → M W := fdef (fun k => (([F_new_places, F_shifted] : List (List W → M W))[k]?).getD (fun _ => M.no)) 3 8 ib_placed_of
def ib_least_other : ISs := (.cons (.asg 1 (.cst (.int 0))) (.cons (.whl fuel (.cmp .isin (.var 1) (.var 0)) (.cons (.asg 1 (.bin .add (.var 1) (.cst (.int 1)))) .nil)) (.cons (.ret (.var 1)) .nil)))
def F_least_other : List W → M W := fdef (fun k => (([] : List (List W → M W))[k]?).getD (fun _ => M.no)) 1 2 ib_least_other
def ib_number_of : ISs := (.cons (.ret (.fn 0 (.cons (.lc [2] (.nm 2) (.seq (.fn 1 (.cons (.var 0) (.cons (.var 1) .nil)))) .no (.fn 2 (.cons (.var 0) (.cons (.var 2) .nil)))) .nil))) .nil)
def R_number_of : Nat → List W → M W
  | 0 => fun _ => M.no
  | n + 1 => fdef (fun k => (([F_least_other, F_leads, R_number_of n] : List (List W → M W))[k]?).getD (fun _ => M.no)) 2 3 ib_number_of
def F_number_of : List W → M W := R_number_of 9
def ib_numbers_of : ISs := (.cons (.ifs (.cmp .ne (.fn 1 (.cons (.var 0) .nil)) (.lst .nil)) (.cons (.rai "Ringed" .no) .nil) .nil) (.cons (.ret (.lc [1] (.nm 1) (.rng1 (.ix (.var 0) (.cst (.int 0)))) .no (.fn 0 (.cons (.var 0) (.cons (.var 1) .nil))))) .nil))
def F_numbers_of : List W → M W := fdef (fun k => (([F_number_of, F_rings_of] : List (List W → M W))[k]?).getD (fun _ => M.no)) 1 2 ib_numbers_of
def ib_beside : ISs := (.cons (.ex (.fn 1 (.cons (.var 0) .nil))) (.cons (.ex (.fn 1 (.cons (.var 1) .nil))) (.cons (.ret (.fn 0 (.cons (.var 0) (.cons (.var 1) .nil)))) .nil)))
def F_beside : List W → M W := fdef (fun k => (([F_beside_of, F_need_web] : List (List W → M W))[k]?).getD (fun _ => M.no)) 2 2 ib_beside
def ib_placed : ISs := (.cons (.ex (.fn 1 (.cons (.var 0) .nil))) (.cons (.ex (.fn 2 (.cons (.var 0) (.cons (.var 1) .nil)))) (.cons (.ex (.fn 1 (.cons (.var 2) .nil))) (.cons (.ret (.fn 0 (.cons (.var 0) (.cons (.var 1) (.cons (.var 2) .nil))))) .nil))))
def F_placed : List W → M W := fdef (fun k => (([F_placed_of, F_need_web, F_need_place] : List (List W → M W))[k]?).getD (fun _ => M.no)) 3 3 ib_placed
def ib_numbers : ISs := (.cons (.ex (.fn 1 (.cons (.var 0) .nil))) (.cons (.ret (.fn 0 (.cons (.var 0) .nil))) .nil))
def F_numbers : List W → M W := fdef (fun k => (([F_numbers_of, F_need_web] : List (List W → M W))[k]?).getD (fun _ => M.no)) 1 1 ib_numbers
def ib_sum_lot : ISs := (.cons (.ex (.fn 1 (.cons (.var 0) .nil))) (.cons (.ex (.fn 1 (.cons (.var 1) .nil))) (.cons (.par [2, 3] (.cons (.fn 0 (.cons (.var 0) .nil)) (.cons (.fn 0 (.cons (.var 1) .nil)) .nil))) (.cons (.ret (.lc2 [4, 5] (.nm 4) (.rng1 (.ix (.var 0) (.cst (.int 0)))) .no [5] (.nm 5) (.rng1 (.ix (.var 1) (.cst (.int 0)))) (.so (.cmp .eq (.ix (.var 2) (.var 4)) (.ix (.var 3) (.var 5)))) (.tup (.cons (.var 4) (.cons (.var 5) .nil))))) .nil))))
def F_sum_lot : List W → M W := fdef (fun k => (([F_numbers_of, F_need_web] : List (List W → M W))[k]?).getD (fun _ => M.no)) 2 6 ib_sum_lot
def ib__law_fall : ISs := (.cons (.par [2, 3] (.cons (.bin .add (.cst (.int 1)) (.fn 0 (.cons (.var 0) (.cons (.var 1) .nil)))) (.cons (.mls .nil) .nil))) (.cons (.asg 4 (.pr .rng1 (.cons (.var 2) .nil))) (.cons (.forr (.nm 5) (.rng1 (.var 2)) (.cons (.asg 6 (.fn 0 (.cons (.var 0) (.cons (.var 2) .nil)))) (.cons (.asg 4 (.bin .add (.bin .add (.lst (.cons (.ix (.var 4) (.var 6)) .nil)) (.sl (.var 4) .no (.so (.var 6)))) (.sl (.var 4) (.so (.bin .add (.var 6) (.cst (.int 1)))) .no))) .nil))) (.cons (.forr (.nm 7) (.rng1 (.var 2)) (.cons (.forr (.nm 8) (.rng2 (.bin .add (.var 7) (.cst (.int 1))) (.var 2)) (.cons (.ifs (.cmp .eq (.fn 0 (.cons (.var 0) (.cons (.cst (.int 2)) .nil))) (.cst (.int 0))) (.cons (.app (.var 3) (.tup (.cons (.ix (.var 4) (.var 7)) (.cons (.ix (.var 4) (.var 8)) .nil)))) .nil) .nil) .nil)) .nil)) (.cons (.ret (.tup (.cons (.var 2) (.cons (.pr .tuple (.cons (.pr .sorted (.cons (.var 3) .nil)) .nil)) .nil)))) .nil)))))
def F__law_fall : List W → M W := fdef (fun k => (([F__law_dip] : List (List W → M W))[k]?).getD (fun _ => M.no)) 2 9 ib__law_fall
def ib__law_names : ISs := (.cons (.par [3, 4] (.cons (.mls .nil) (.cons (.cst (.int 0)) .nil))) (.cons (.forr (.nm 5) (.rng1 (.ix (.var 0) (.cst (.int 0)))) (.cons (.asg 6 (.ifx (.cmp .eq (.var 5) (.var 1)) (.var 2) (.cst (.int 1)))) (.cons (.app (.var 3) (.pr .rng2 (.cons (.var 4) (.cons (.bin .add (.var 4) (.var 6)) .nil)))) (.cons (.asg 4 (.bin .add (.var 4) (.var 6))) .nil)))) (.cons (.ret (.var 3)) .nil)))
def F__law_names : List W → M W := fdef (fun k => (([] : List (List W → M W))[k]?).getD (fun _ => M.no)) 3 7 ib__law_names
def ib__law_put : ISs := (.cons (.par [3, 4] (.cons (.fn 0 (.cons (.var 0) (.cons (.var 1) (.cons (.ix (.var 2) (.cst (.int 0))) .nil)))) (.cons (.mls .nil) .nil))) (.cons (.forr (.tp [5, 6]) (.seq (.ix (.var 0) (.cst (.int 1)))) (.cons (.forr (.nm 7) (.seq (.ix (.var 3) (.var 5))) (.cons (.asg 4 (.mk (.bin .add (.var 4) (.lc [8] (.nm 8) (.seq (.ix (.var 3) (.var 6))) .no (.tup (.cons (.var 7) (.cons (.var 8) .nil))))))) .nil)) .nil)) (.cons (.forr (.tp [5, 6]) (.seq (.ix (.var 2) (.cst (.int 1)))) (.cons (.app (.var 4) (.tup (.cons (.ix (.ix (.var 3) (.var 1)) (.var 5)) (.cons (.ix (.ix (.var 3) (.var 1)) (.var 6)) .nil)))) .nil)) (.cons (.ret (.tup (.cons (.bin .sub (.bin .add (.ix (.var 0) (.cst (.int 0))) (.ix (.var 2) (.cst (.int 0)))) (.cst (.int 1))) (.cons (.pr .tuple (.cons (.pr .sorted (.cons (.var 4) .nil)) .nil)) .nil)))) .nil))))
def F__law_put : List W → M W := fdef (fun k => (([F__law_names] : List (List W → M W))[k]?).getD (fun _ => M.no)) 3 9 ib__law_put
def ib__law_put_lots : ISs := (.cons (.par [3, 4] (.cons (.fn 1 (.cons (.var 0) (.cons (.var 1) (.cons (.ix (.var 2) (.cst (.int 0))) .nil)))) (.cons (.mls .nil) .nil))) (.cons (.forr (.nm 5) (.seq (.fn 0 (.cons (.var 0) .nil))) (.cons (.asg 6 (.lc [8] (.nm 8) (.seq (.var 5)) (.so (.cmp .ne (.var 8) (.var 1))) (.ix (.ix (.var 3) (.var 8)) (.cst (.int 0))))) (.cons (.forr (.nm 7) (.seq (.ifx (.cmp .isin (.var 1) (.var 5)) (.fn 0 (.cons (.var 2) .nil)) (.lst (.cons (.tup .nil) .nil)))) (.cons (.app (.var 4) (.pr .tuple (.cons (.pr .sorted (.cons (.bin .add (.var 6) (.lc [8] (.nm 8) (.seq (.var 7)) .no (.ix (.ix (.var 3) (.var 1)) (.var 8)))) .nil)) .nil))) .nil)) .nil))) (.cons (.ret (.pr .sorted (.cons (.var 4) .nil))) .nil)))
def F__law_put_lots : List W → M W := fdef (fun k => (([F__law_quiet, F__law_names] : List (List W → M W))[k]?).getD (fun _ => M.no)) 3 9 ib__law_put_lots
def ib__law_sum_lot : ISs := (.cons (.asg 2 .dnew) (.cons (.asg 3 (.lst .nil)) (.cons (.forr (.nm 4) (.rng1 (.ix (.var 0) (.cst (.int 0)))) (.cons (.asg 3 (.bin .add (.var 3) (.lc [8] (.nm 8) (.rng1 (.ix (.var 1) (.cst (.int 0)))) .no (.tup (.cons (.var 4) (.cons (.var 8) .nil)))))) .nil)) (.cons (.forr (.nm 5) (.rng1 (.pr .len (.cons (.var 3) .nil))) (.cons (.forr (.nm 6) (.seq (.var 3)) (.cons (.asg 7 (.lc [4, 8] (.tp [4, 8]) (.seq (.ix (.var 0) (.cst (.int 1)))) (.so (.cmp .eq (.var 4) (.ix (.var 6) (.cst (.int 0))))) (.tup (.cons (.var 8) (.cons (.ix (.var 6) (.cst (.int 1))) .nil))))) (.cons (.asg 7 (.bin .add (.var 7) (.lc [4, 8] (.tp [4, 8]) (.seq (.ix (.var 1) (.cst (.int 1)))) (.so (.cmp .eq (.var 4) (.ix (.var 6) (.cst (.int 1))))) (.tup (.cons (.ix (.var 6) (.cst (.int 0))) (.cons (.var 8) .nil)))))) (.cons (.ifs (.cmp .ne (.lc [8] (.nm 8) (.seq (.var 7)) (.so (.cmp .eq (.dget (.var 2) (.var 8) (.cst (.str ""))) (.cst (.str "in")))) (.var 8)) (.lst .nil)) (.cons (.dput (.var 2) (.var 6) (.cst (.str "out"))) .nil) (.cons (.ifs (.cmp .eq (.lc [8] (.nm 8) (.seq (.var 7)) (.so (.cmp .ne (.dget (.var 2) (.var 8) (.cst (.str ""))) (.cst (.str "out")))) (.var 8)) (.lst .nil)) (.cons (.dput (.var 2) (.var 6) (.cst (.str "in"))) .nil) .nil) .nil)) .nil)))) .nil)) (.cons (.ret (.lc [6] (.nm 6) (.seq (.var 3)) (.so (.cmp .eq (.dix (.var 2) (.var 6)) (.cst (.str "in")))) (.var 6))) .nil)))))
def F__law_sum_lot : List W → M W := fdef (fun k => (([] : List (List W → M W))[k]?).getD (fun _ => M.no)) 2 9 ib__law_sum_lot
def ib__law_joined : ISs := (.cons (.par [1, 2] (.cons (.fn 7 (.cons (.var 0) (.cons (.cst (.int 1)) (.cons (.cst (.int 4)) .nil)))) (.cons (.fn 7 (.cons (.var 0) (.cons (.cst (.int 1)) (.cons (.cst (.int 3)) .nil)))) .nil))) (.cons (.asg 3 (.tup (.cons (.bin .add (.ix (.var 1) (.cst (.int 0))) (.ix (.var 2) (.cst (.int 0)))) (.cons (.bin .add (.ix (.var 1) (.cst (.int 1))) (.pr .tuple (.cons (.lc [8, 9] (.tp [8, 9]) (.seq (.ix (.var 2) (.cst (.int 1)))) .no (.tup (.cons (.bin .add (.var 8) (.ix (.var 1) (.cst (.int 0)))) (.cons (.bin .add (.var 9) (.ix (.var 1) (.cst (.int 0)))) .nil)))) .nil))) .nil)))) (.cons (.ifs (.cmp .ne (.fn 6 (.cons (.var 1) (.cons (.var 2) .nil))) (.var 3)) (.cons (.ret (.cst (.bool false))) .nil) .nil) (.cons (.asg 4 (.lst .nil)) (.cons (.forr (.nm 5) (.seq (.fn 5 (.cons (.var 1) .nil))) (.cons (.asg 4 (.bin .add (.var 4) (.lc [7] (.nm 7) (.seq (.fn 5 (.cons (.var 2) .nil))) .no (.bin .add (.var 5) (.pr .tuple (.cons (.lc [6] (.nm 6) (.seq (.var 7)) .no (.bin .add (.var 6) (.ix (.var 1) (.cst (.int 0))))) .nil)))))) .nil)) (.cons (.asg 6 (.fn 4 (.cons (.var 0) (.cons (.ix (.var 1) (.cst (.int 0))) .nil)))) (.cons (.ifs (.or (.cmp .ne (.fn 0 (.cons (.var 3) .nil)) (.pr .sorted (.cons (.var 4) .nil))) (.cmp .ne (.fn 1 (.cons (.var 1) (.cons (.var 6) (.cons (.var 2) .nil)))) (.fn 3 (.cons (.var 1) (.cons (.var 6) (.cons (.var 2) .nil)))))) (.cons (.ret (.cst (.bool false))) .nil) .nil) (.cons (.ret (.cmp .eq (.fn 0 (.cons (.fn 1 (.cons (.var 1) (.cons (.var 6) (.cons (.var 2) .nil)))) .nil)) (.fn 2 (.cons (.var 1) (.cons (.var 6) (.cons (.var 2) .nil)))))) .nil))))))))
def F__law_joined : List W → M W := fdef (fun k => (([F_quiet_lots, F_placed, F__law_put_lots, F__law_put, F__law_dip, F__law_quiet, F_beside, F__law_drawn] : List (List W → M W))[k]?).getD (fun _ => M.no)) 1 10 ib__law_joined
def ib_law_k08 : ISs := (.cons (.forr (.nm 1) (.rng1 (.bin .add (.cst (.int 1)) (.pr .min2 (.cons (.slen (.var 0)) (.cons (.cst (.int 8)) .nil))))) (.cons (.asg 2 (.fn 9 (.cons (.var 0) (.cons (.var 1) .nil)))) (.cons (.forr (.nm 3) (.rng1 (.cst (.int 3))) (.cons (.ifs (.not (.fn 8 (.cons (.var 2) .nil))) (.cons (.ret (.cst (.bool false))) .nil) .nil) (.cons (.par [4, 5] (.cons (.fn 7 (.cons (.var 2) (.cons (.cst (.int 7)) .nil))) (.cons (.fn 7 (.cons (.var 2) (.cons (.cst (.int 5)) .nil))) .nil))) (.cons (.asg 6 (.fn 0 (.cons (.var 4) .nil))) (.cons (.forr (.nm 7) (.rng1 (.ix (.var 4) (.cst (.int 0)))) (.cons (.asg 8 (.lc [16, 17] (.tp [16, 17]) (.seq (.ix (.var 4) (.cst (.int 1)))) (.so (.cmp .eq (.var 16) (.var 7))) (.ix (.var 6) (.var 17)))) (.cons (.asg 9 (.lc [18] (.nm 18) (.rng1 (.ix (.var 6) (.var 7))) (.so (.cmp .nin (.var 18) (.var 8))) (.var 18))) (.cons (.ifs (.or (.cmp .isin (.ix (.var 6) (.var 7)) (.var 8)) (.cmp .ne (.var 9) (.lst .nil))) (.cons (.ret (.cst (.bool false))) .nil) .nil) .nil)))) (.cons (.asg 10 (.pr .tuple (.cons (.lc [7] (.nm 7) (.rng1 (.ix (.var 4) (.cst (.int 0)))) (.so (.cmp .eq (.ix (.var 6) (.var 7)) (.cst (.int 0)))) (.var 7)) .nil))) (.cons (.ifs (.cmp .ne (.fn 6 (.cons (.var 4) .nil)) (.lst (.cons (.var 10) .nil))) (.cons (.ret (.cst (.bool false))) .nil) .nil) (.cons (.ifs (.cmp .ne (.fn 1 (.cons (.var 4) (.cons (.var 5) .nil))) (.fn 5 (.cons (.var 4) (.cons (.var 5) .nil)))) (.cons (.ret (.cst (.bool false))) .nil) .nil) .nil)))))))) (.cons (.asg 11 (.fn 4 (.cons (.var 2) (.cons (.cst (.int 5)) (.cons (.cst (.int 7)) .nil))))) (.cons (.asg 12 (.mls (.cons (.word (.fn 3 (.cons (.var 11) (.cons (.var 11) .nil)))) .nil))) (.cons (.app (.var 12) (.word (.fn 2 (.cons (.var 11) (.cons (.cst (.int 0)) (.cons (.var 11) .nil)))))) (.cons (.ifs (.cmp .ne (.var 12) (.bin .mul (.lst (.cons (.cst (.str "full7")) .nil)) (.cst (.int 2)))) (.cons (.ret (.cst (.bool false))) .nil) .nil) (.cons (.forr (.nm 13) (.seq (.lst (.cons (.cst .none) (.cons (.neg (.cst (.int 1))) (.cons (.ix (.var 11) (.cst (.int 0))) (.cons (.cst (.bool true)) .nil)))))) (.cons (.ifs (.cmp .ne (.word (.fn 2 (.cons (.var 11) (.cons (.var 13) (.cons (.cst .none) .nil))))) (.cst (.str "place"))) (.cons (.ret (.cst (.bool false))) .nil) .nil) .nil)) .nil)))))))) (.cons (.unp (.tp [14, 15]) (.tup (.cons (.tup (.cons (.cst (.int 4)) (.cons (.tup (.cons (.tup (.cons (.cst (.int 0)) (.cons (.cst (.int 1)) .nil))) (.cons (.tup (.cons (.cst (.int 1)) (.cons (.cst (.int 2)) .nil))) (.cons (.tup (.cons (.cst (.int 2)) (.cons (.cst (.int 3)) .nil))) .nil)))) .nil))) (.cons (.tup (.cons (.cst (.int 3)) (.cons (.tup (.cons (.tup (.cons (.cst (.int 0)) (.cons (.cst (.int 1)) .nil))) (.cons (.tup (.cons (.cst (.int 1)) (.cons (.cst (.int 2)) .nil))) (.cons (.tup (.cons (.cst (.int 2)) (.cons (.cst (.int 0)) .nil))) .nil)))) .nil))) .nil)))) (.cons (.ifs (.cmp .ne (.word (.fn 0 (.cons (.var 15) .nil))) (.cst (.str "ringed"))) (.cons (.ret (.cst (.bool false))) .nil) .nil) (.cons (.ifs (.cmp .ne (.word (.fn 1 (.cons (.var 14) (.cons (.var 15) .nil)))) (.cst (.str "ringed"))) (.cons (.ret (.cst (.bool false))) .nil) .nil) (.cons (.ifs (.cmp .ne (.fn 0 (.cons (.var 14) .nil)) (.lst (.cons (.cst (.int 1)) (.cons (.cst (.int 0)) (.cons (.cst (.int 1)) (.cons (.cst (.int 0)) .nil)))))) (.cons (.ret (.cst (.bool false))) .nil) .nil) (.cons (.ifs (.cmp .ne (.fn 1 (.cons (.var 14) (.cons (.tup (.cons (.cst (.int 2)) (.cons (.tup (.cons (.tup (.cons (.cst (.int 0)) (.cons (.cst (.int 1)) .nil))) .nil)) .nil))) .nil))) (.lst (.cons (.tup (.cons (.cst (.int 0)) (.cons (.cst (.int 0)) .nil))) (.cons (.tup (.cons (.cst (.int 1)) (.cons (.cst (.int 1)) .nil))) (.cons (.tup (.cons (.cst (.int 2)) (.cons (.cst (.int 0)) .nil))) (.cons (.tup (.cons (.cst (.int 3)) (.cons (.cst (.int 1)) .nil))) .nil)))))) (.cons (.ret (.cst (.bool false))) .nil) .nil) (.cons (.ret (.cmp .eq (.fn 0 (.cons (.tup (.cons (.cst (.int 4)) (.cons (.tup (.cons (.tup (.cons (.cst (.int 0)) (.cons (.cst (.int 1)) .nil))) (.cons (.tup (.cons (.cst (.int 0)) (.cons (.cst (.int 2)) .nil))) (.cons (.tup (.cons (.cst (.int 0)) (.cons (.cst (.int 3)) .nil))) (.cons (.tup (.cons (.cst (.int 1)) (.cons (.cst (.int 2)) .nil))) (.cons (.tup (.cons (.cst (.int 1)) (.cons (.cst (.int 3)) .nil))) (.cons (.tup (.cons (.cst (.int 2)) (.cons (.cst (.int 3)) .nil))) .nil))))))) .nil))) .nil)) (.lst (.cons (.cst (.int 3)) (.cons (.cst (.int 2)) (.cons (.cst (.int 1)) (.cons (.cst (.int 0)) .nil))))))) .nil)))))))
def F_law_k08 : List W → M W := fdef (fun k => (([F_numbers, F_sum_lot, F_placed, F_beside, F__law_drawn, F__law_sum_lot, F__law_quiet, F__law_fall, F__law_joined, F__law_jug_of] : List (List W → M W))[k]?).getD (fun _ => M.no)) 1 19 ib_law_k08
def ib_need_number : ISs := (.cons (.ifs (.not (.fn 0 (.cons (.var 0) (.cons (.var 1) (.cons (.var 2) .nil))))) (.cons (.rai "InvalidNumber" .no) .nil) .nil) .nil)
def F_need_number : List W → M W := fdef (fun k => (([F_is_int] : List (List W → M W))[k]?).getD (fun _ => M.no)) 3 3 ib_need_number
def ib_is_steps : ISs := (.cons (.ifs (.or (.not (.pr .isTup (.cons (.var 0) .nil))) (.not (.chn .le .le (.cst (.int 1)) (.pr .len (.cons (.var 0) .nil)) (.cst (.int 3))))) (.cons (.ret (.cst (.bool false))) .nil) .nil) (.cons (.ret (.and (.cmp .eq (.lc [1] (.nm 1) (.seq (.var 0)) (.so (.or (.not (.fn 1 (.cons (.var 1) (.cons (.bin .sub (.cst (.int 0)) (.cst (.int 3))) (.cons (.cst (.int 3)) .nil))))) (.cmp .eq (.var 1) (.cst (.int 0))))) (.var 1)) (.lst .nil)) (.fn 0 (.cons (.var 0) .nil)))) .nil))
def F_is_steps : List W → M W := fdef (fun k => (([F_rises, F_is_int] : List (List W → M W))[k]?).getD (fun _ => M.no)) 1 2 ib_is_steps
def ib_need_steps : ISs := (.cons (.ifs (.not (.fn 0 (.cons (.var 0) .nil))) (.cons (.rai "InvalidSteps" .no) .nil) .nil) .nil)
def F_need_steps : List W → M W := fdef (fun k => (([F_is_steps] : List (List W → M W))[k]?).getD (fun _ => M.no)) 1 1 ib_need_steps
def ib_ring_web : ISs := (.cons (.asg 2 (.lc2 [3, 4] (.nm 3) (.rng1 (.var 1)) .no [4] (.nm 4) (.seq (.var 0)) .no (.tup (.cons (.var 3) (.cons (.bin .mod (.bin .add (.var 3) (.var 4)) (.var 1)) .nil))))) (.cons (.ret (.tup (.cons (.var 1) (.cons (.pr .tuple (.cons (.pr .sortset (.cons (.lc [5] (.nm 5) (.seq (.var 2)) (.so (.cmp .ne (.ix (.var 5) (.cst (.int 0))) (.ix (.var 5) (.cst (.int 1))))) (.var 5)) .nil)) .nil)) .nil)))) .nil))
def F_ring_web : List W → M W := fdef (fun k => (([] : List (List W → M W))[k]?).getD (fun _ => M.no)) 2 6 ib_ring_web
def ib_fits : ISs := (.cons (.asg 2 (.lc [3] (.nm 3) (.seq (.var 0)) .no (.ix (.var 1) (.bin .add (.cst (.int 3)) (.var 3))))) (.cons (.ret (.ifx (.cmp .eq (.ix (.var 1) (.cst (.int 3))) (.cst (.int 1))) (.cmp .nin (.cst (.int 1)) (.var 2)) (.cmp .isin (.cst (.int 1)) (.var 2)))) .nil))
def F_fits : List W → M W := fdef (fun k => (([] : List (List W → M W))[k]?).getD (fun _ => M.no)) 2 4 ib_fits
def ib_onward : ISs := (.cons (.ret (.lc [2] (.nm 2) (.seq (.tup (.cons (.cst (.int 0)) (.cons (.cst (.int 1)) .nil)))) (.so (.fn 0 (.cons (.var 0) (.cons (.bin .add (.var 1) (.tup (.cons (.var 2) .nil))) .nil)))) (.sl (.bin .add (.var 1) (.tup (.cons (.var 2) .nil))) (.so (.cst (.int 1))) .no))) .nil)
def F_onward : List W → M W := fdef (fun k => (([F_fits] : List (List W → M W))[k]?).getD (fun _ => M.no)) 2 3 ib_onward
def ib_all_windows : ISs := (.cons (.asg 0 (.lst (.cons (.tup .nil) .nil))) (.cons (.forr (.nm 1) (.rng1 (.cst (.int 6))) (.cons (.asg 0 (.lc2 [2, 3] (.nm 2) (.seq (.var 0)) .no [3] (.nm 3) (.seq (.tup (.cons (.cst (.int 0)) (.cons (.cst (.int 1)) .nil)))) .no (.bin .add (.var 2) (.tup (.cons (.var 3) .nil))))) .nil)) (.cons (.ret (.var 0)) .nil)))
def F_all_windows : List W → M W := fdef (fun k => (([] : List (List W → M W))[k]?).getD (fun _ => M.no)) 0 4 ib_all_windows
def ib_good_windows : ISs := (.cons (.par [1, 2] (.cons (.fn 1 .nil) (.cons (.lst .nil) .nil))) (.cons (.whl fuel (.cmp .ne (.var 1) (.var 2)) (.cons (.asg 2 (.var 1)) (.cons (.asg 3 (.lc2 [5, 6] (.nm 5) (.seq (.var 1)) .no [6] (.nm 6) (.seq (.fn 0 (.cons (.var 0) (.cons (.var 5) .nil)))) .no (.var 6))) (.cons (.asg 4 (.lc [7] (.nm 7) (.seq (.var 1)) (.so (.cmp .isin (.var 7) (.var 3))) (.var 7))) (.cons (.asg 1 (.lc [7] (.nm 7) (.seq (.var 4)) (.so (.cmp .ne (.lc [6] (.nm 6) (.seq (.fn 0 (.cons (.var 0) (.cons (.var 7) .nil)))) (.so (.cmp .isin (.var 6) (.var 1))) (.var 6)) (.lst .nil))) (.var 7))) .nil))))) (.cons (.ret (.var 1)) .nil)))
def F_good_windows : List W → M W := fdef (fun k => (([F_onward, F_all_windows] : List (List W → M W))[k]?).getD (fun _ => M.no)) 1 8 ib_good_windows
def ib_links_of : ISs := (.cons (.asg 1 (.fn 1 (.cons (.var 0) .nil))) (.cons (.ret (.lc [2] (.nm 2) (.seq (.var 1)) .no (.tup (.cons (.var 2) (.cons (.lc [3] (.nm 3) (.seq (.fn 0 (.cons (.var 0) (.cons (.var 2) .nil)))) (.so (.cmp .isin (.var 3) (.var 1))) (.var 3)) .nil))))) .nil))
def F_links_of : List W → M W := fdef (fun k => (([F_onward, F_good_windows] : List (List W → M W))[k]?).getD (fun _ => M.no)) 1 4 ib_links_of
def ib_next_rows : ISs := (.cons (.ret (.pr .tuple (.cons (.lc [2] (.nm 2) (.seq (.var 1)) .no (.pr .tuple (.cons (.pr .sortset (.cons (.lc2 [3, 4] (.nm 3) (.seq (.var 2)) .no [4] (.nm 4) (.seq (.ix (.var 0) (.var 3))) .no (.var 4)) .nil)) .nil))) .nil))) .nil)
def F_next_rows : List W → M W := fdef (fun k => (([] : List (List W → M W))[k]?).getD (fun _ => M.no)) 2 5 ib_next_rows
def ib_small_lots : ISs := (.cons (.asg 2 (.fn 2 (.cons (.var 0) (.cons (.var 1) .nil)))) (.cons (.ret (.lc [3] (.nm 3) (.seq (.fn 0 (.cons (.var 1) .nil))) (.so (.fn 1 (.cons (.var 2) (.cons (.var 3) .nil)))) (.var 3))) .nil))
def F_small_lots : List W → M W := fdef (fun k => (([F_all_lots, F_quiet, F_ring_web] : List (List W → M W))[k]?).getD (fun _ => M.no)) 2 4 ib_small_lots
def ib_shortest : ISs := (.cons (.forr (.nm 2) (.rng2 (.cst (.int 1)) (.bin .add (.pr .len (.cons (.var 1) .nil)) (.cst (.int 1)))) (.cons (.ifs (.and (.cmp .eq (.bin .mod (.pr .len (.cons (.var 1) .nil)) (.var 2)) (.cst (.int 0))) (.cmp .eq (.var 1) (.bin .mul (.sl (.var 1) .no (.so (.var 2))) (.bin .fdiv (.pr .len (.cons (.var 1) .nil)) (.var 2))))) (.cons (.asg 1 (.sl (.var 1) .no (.so (.var 2)))) (.cons .brk .nil)) .nil) .nil)) (.cons (.whl fuel (.and (.cmp .ne (.var 0) (.tup .nil)) (.cmp .eq (.ix (.var 0) (.neg (.cst (.int 1)))) (.ix (.var 1) (.neg (.cst (.int 1)))))) (.cons (.par [0, 1] (.cons (.sl (.var 0) .no (.so (.neg (.cst (.int 1))))) (.cons (.bin .add (.sl (.var 1) (.so (.neg (.cst (.int 1)))) .no) (.sl (.var 1) .no (.so (.neg (.cst (.int 1)))))) .nil))) .nil)) (.cons (.ret (.tup (.cons (.var 0) (.cons (.var 1) .nil)))) .nil)))
def F_shortest : List W → M W := fdef (fun k => (([] : List (List W → M W))[k]?).getD (fun _ => M.no)) 2 3 ib_shortest
def ib_told_by : ISs := (.cons (.unp (.tp [2, 3]) (.var 0)) (.cons (.ret (.ifx (.cmp .le (.var 1) (.pr .len (.cons (.var 2) .nil))) (.ix (.var 2) (.bin .sub (.var 1) (.cst (.int 1)))) (.ix (.var 3) (.bin .mod (.bin .sub (.bin .sub (.var 1) (.cst (.int 1))) (.pr .len (.cons (.var 2) .nil))) (.pr .len (.cons (.var 3) .nil)))))) .nil))
def F_told_by : List W → M W := fdef (fun k => (([] : List (List W → M W))[k]?).getD (fun _ => M.no)) 2 4 ib_told_by
def ib__law_pace : ISs := (.cons (.asg 1 (.mls .nil)) (.cons (.forr (.nm 2) (.rng1 (.bin .add (.cst (.int 1)) (.fn 0 (.cons (.var 0) (.cons (.cst (.int 3)) .nil))))) (.cons (.app (.var 1) (.fn 1 (.cons (.var 0) (.cons (.lst (.cons (.neg (.cst (.int 3))) (.cons (.neg (.cst (.int 2))) (.cons (.neg (.cst (.int 1))) (.cons (.cst (.int 1)) (.cons (.cst (.int 2)) (.cons (.cst (.int 3)) .nil))))))) .nil)))) .nil)) (.cons (.ret (.pr .tuple (.cons (.pr .sortset (.cons (.var 1) .nil)) .nil))) .nil)))
def F__law_pace : List W → M W := fdef (fun k => (([F__law_dip, F__law_any] : List (List W → M W))[k]?).getD (fun _ => M.no)) 1 3 ib__law_pace
def ib__law_row_ways : ISs := (.cons (.asg 2 (.lst .nil)) (.cons (.forr (.nm 3) (.rng1 (.var 1)) (.cons (.asg 2 (.bin .add (.var 2) (.lc [4] (.nm 4) (.seq (.var 0)) (.so (.cmp .ne (.bin .mod (.var 4) (.var 1)) (.cst (.int 0)))) (.tup (.cons (.var 3) (.cons (.bin .mod (.bin .add (.var 3) (.var 4)) (.var 1)) .nil)))))) .nil)) (.cons (.ret (.pr .sortset (.cons (.var 2) .nil))) .nil)))
def F__law_row_ways : List W → M W := fdef (fun k => (([] : List (List W → M W))[k]?).getD (fun _ => M.no)) 2 5 ib__law_row_ways
def ib__law_short : ISs := (.cons (.asg 2 (.fn 2 (.cons (.var 0) (.cons (.var 1) .nil)))) (.cons (.ret (.cmp .ne (.lc [3] (.nm 3) (.seq (.fn 0 (.cons (.var 1) .nil))) (.so (.fn 1 (.cons (.var 1) (.cons (.var 2) (.cons (.var 3) .nil))))) (.var 3)) (.lst .nil))) .nil))
def F__law_short : List W → M W := fdef (fun k => (([F__law_lots, F__law_is_quiet, F__law_row_ways] : List (List W → M W))[k]?).getD (fun _ => M.no)) 2 4 ib__law_short
def ib__law_bits : ISs := (.cons (.par [1, 2] (.cons (.lst .nil) (.cons (.var 0) .nil))) (.cons (.forr (.nm 3) (.rng1 (.cst (.int 6))) (.cons (.par [1, 2] (.cons (.bin .add (.lst (.cons (.bin .mod (.var 2) (.cst (.int 2))) .nil)) (.var 1)) (.cons (.bin .fdiv (.var 2) (.cst (.int 2))) .nil))) .nil)) (.cons (.ret (.var 1)) .nil)))
def F__law_bits : List W → M W := fdef (fun k => (([] : List (List W → M W))[k]?).getD (fun _ => M.no)) 1 4 ib__law_bits
def ib__law_links : ISs := (.cons (.asg 1 (.mls .nil)) (.cons (.forr (.nm 2) (.rng1 (.cst (.int 64))) (.cons (.asg 3 (.mls .nil)) (.cons (.forr (.nm 4) (.seq (.tup (.cons (.cst (.int 0)) (.cons (.cst (.int 1)) .nil)))) (.cons (.asg 5 (.bin .add (.fn 0 (.cons (.var 2) .nil)) (.lst (.cons (.var 4) .nil)))) (.cons (.asg 6 (.lc [7] (.nm 7) (.seq (.var 0)) .no (.ix (.var 5) (.bin .add (.cst (.int 3)) (.var 7))))) (.cons (.ifs (.cmp .eq (.cmp .eq (.pr .sum (.cons (.var 6) .nil)) (.cst (.int 0))) (.cmp .eq (.ix (.var 5) (.cst (.int 3))) (.cst (.int 1)))) (.cons (.app (.var 3) (.bin .add (.bin .mul (.bin .mod (.var 2) (.cst (.int 32))) (.cst (.int 2))) (.var 4))) .nil) .nil) .nil)))) (.cons (.app (.var 1) (.var 3)) .nil)))) (.cons (.ret (.var 1)) .nil)))
def F__law_links : List W → M W := fdef (fun k => (([F__law_bits] : List (List W → M W))[k]?).getD (fun _ => M.no)) 1 8 ib__law_links
def ib__law_times : ISs := (.cons (.asg 2 (.mls .nil)) (.cons (.forr (.nm 3) (.seq (.var 0)) (.cons (.asg 4 (.lst .nil)) (.cons (.forr (.nm 5) (.seq (.var 3)) (.cons (.asg 4 (.bin .add (.var 4) (.ix (.var 1) (.var 5)))) .nil)) (.cons (.app (.var 2) (.pr .sortset (.cons (.var 4) .nil))) .nil)))) (.cons (.ret (.var 2)) .nil)))
def F__law_times : List W → M W := fdef (fun k => (([] : List (List W → M W))[k]?).getD (fun _ => M.no)) 2 6 ib__law_times
def ib__law_goes_k09 : ISs := (.cons (.par [2, 3, 4] (.cons (.lc [5] (.nm 5) (.rng1 (.cst (.int 64))) .no (.lst (.cons (.var 5) .nil))) (.cons (.fn 1 (.cons (.var 0) .nil)) (.cons (.var 1) .nil)))) (.cons (.whl fuel (.cmp .gt (.var 4) (.cst (.int 0))) (.cons (.ifs (.cmp .eq (.bin .mod (.var 4) (.cst (.int 2))) (.cst (.int 1))) (.cons (.asg 2 (.fn 0 (.cons (.var 2) (.cons (.var 3) .nil)))) .nil) .nil) (.cons (.par [3, 4] (.cons (.fn 0 (.cons (.var 3) (.cons (.var 3) .nil))) (.cons (.bin .fdiv (.var 4) (.cst (.int 2))) .nil))) .nil))) (.cons (.ret (.cmp .ne (.lc [5] (.nm 5) (.rng1 (.cst (.int 64))) (.so (.cmp .isin (.var 5) (.ix (.var 2) (.var 5)))) (.var 5)) (.lst .nil))) .nil)))
def F__law_goes_k09 : List W → M W := fdef (fun k => (([F__law_times, F__law_links] : List (List W → M W))[k]?).getD (fun _ => M.no)) 2 6 ib__law_goes_k09
def ib__law_at : ISs := (.cons (.unp (.tp [2, 3]) (.var 0)) (.cons (.ret (.ifx (.cmp .le (.var 1) (.pr .len (.cons (.var 2) .nil))) (.ix (.var 2) (.bin .sub (.var 1) (.cst (.int 1)))) (.ix (.var 3) (.bin .mod (.bin .sub (.bin .sub (.var 1) (.cst (.int 1))) (.pr .len (.cons (.var 2) .nil))) (.pr .len (.cons (.var 3) .nil)))))) .nil))
def F__law_at : List W → M W := fdef (fun k => (([] : List (List W → M W))[k]?).getD (fun _ => M.no)) 2 4 ib__law_at
def ib__law_is_shortest : ISs := (.cons (.unp (.tp [1, 2]) (.var 0)) (.cons (.asg 3 (.pr .len (.cons (.var 2) .nil))) (.cons (.forr (.nm 4) (.rng2 (.cst (.int 1)) (.var 3)) (.cons (.ifs (.and (.cmp .eq (.bin .mod (.var 3) (.var 4)) (.cst (.int 0))) (.cmp .eq (.var 2) (.bin .mul (.sl (.var 2) .no (.so (.var 4))) (.bin .fdiv (.var 3) (.var 4))))) (.cons (.ret (.cst (.bool false))) .nil) .nil) .nil)) (.cons (.ret (.or (.cmp .eq (.var 1) (.tup .nil)) (.cmp .ne (.ix (.var 1) (.neg (.cst (.int 1)))) (.ix (.var 2) (.neg (.cst (.int 1))))))) .nil))))
def F__law_is_shortest : List W → M W := fdef (fun k => (([] : List (List W → M W))[k]?).getD (fun _ => M.no)) 1 5 ib__law_is_shortest
def ib__law_can : ISs := (.cons (.asg 2 (.lc [3] (.nm 3) (.seq (.var 0)) .no (.ix (.var 1) (.bin .add (.cst (.int 3)) (.var 3))))) (.cons (.ret (.cmp .eq (.cmp .eq (.pr .sum (.cons (.var 2) .nil)) (.cst (.int 0))) (.cmp .eq (.ix (.var 1) (.cst (.int 3))) (.cst (.int 1))))) .nil))
def F__law_can : List W → M W := fdef (fun k => (([] : List (List W → M W))[k]?).getD (fun _ => M.no)) 2 4 ib__law_can
def ib__law_begins : ISs := (.cons (.asg 0 (.lst (.cons (.tup .nil) .nil))) (.cons (.forr (.nm 1) (.rng1 (.cst (.int 6))) (.cons (.asg 0 (.bin .add (.lc [2] (.nm 2) (.seq (.var 0)) .no (.bin .add (.var 2) (.tup (.cons (.cst (.int 0)) .nil)))) (.lc [2] (.nm 2) (.seq (.var 0)) .no (.bin .add (.var 2) (.tup (.cons (.cst (.int 1)) .nil)))))) .nil)) (.cons (.ret (.var 0)) .nil)))
def F__law_begins : List W → M W := fdef (fun k => (([] : List (List W → M W))[k]?).getD (fun _ => M.no)) 0 3 ib__law_begins
def ib_is_coloured_way : ISs := (.cons (.ifs (.or (.not (.pr .isTup (.cons (.var 1) .nil))) (.or (.cmp .ne (.pr .len (.cons (.var 1) .nil)) (.cst (.int 3))) (.not (.fn 1 (.cons (.ix (.var 1) (.cst (.int 2))) (.cons (.cst (.int 0)) (.cons (.bin .sub (.cst (.int 3)) (.cst (.int 1))) .nil))))))) (.cons (.ret (.cst (.bool false))) .nil) .nil) (.cons (.ret (.fn 0 (.cons (.var 0) (.cons (.sl (.var 1) .no (.so (.cst (.int 2)))) .nil)))) .nil))
def F_is_coloured_way : List W → M W := fdef (fun k => (([F_is_way, F_is_int] : List (List W → M W))[k]?).getD (fun _ => M.no)) 2 2 ib_is_coloured_way
def ib_coloured_so : ISs := (.cons (.ifs (.or (.not (.pr .isTup (.cons (.var 0) .nil))) (.or (.cmp .ne (.pr .len (.cons (.var 0) .nil)) (.cst (.int 2))) (.not (.fn 2 (.cons (.ix (.var 0) (.cst (.int 0))) (.cons (.cst (.int 1)) (.cons (.cst (.int 6)) .nil))))))) (.cons (.ret (.cst (.bool false))) .nil) .nil) (.cons (.ifs (.or (.not (.pr .isTup (.cons (.ix (.var 0) (.cst (.int 1))) .nil))) (.cmp .ne (.lc [1] (.nm 1) (.seq (.ix (.var 0) (.cst (.int 1)))) (.so (.not (.fn 1 (.cons (.ix (.var 0) (.cst (.int 0))) (.cons (.var 1) .nil))))) (.var 1)) (.lst .nil))) (.cons (.ret (.cst (.bool false))) .nil) .nil) (.cons (.ret (.fn 0 (.cons (.ix (.var 0) (.cst (.int 1))) .nil))) .nil)))
def F_coloured_so : List W → M W := fdef (fun k => (([F_rises, F_is_coloured_way, F_is_int] : List (List W → M W))[k]?).getD (fun _ => M.no)) 1 2 ib_coloured_so
def ib_walks_of : ISs := (.cons (.asg 2 (.pr .list (.cons (.var 1) .nil))) (.cons (.forr (.nm 3) (.rng1 (.var 0)) (.cons (.asg 4 (.lc [6, 7] (.tp [6, 7]) (.seq (.var 2)) (.so (.cmp .eq (.var 7) (.var 3))) (.var 6))) (.cons (.asg 5 (.lc [6, 7] (.tp [6, 7]) (.seq (.var 2)) (.so (.cmp .eq (.var 6) (.var 3))) (.var 7))) (.cons (.asg 2 (.pr .sortset (.cons (.bin .add (.var 2) (.lc2 [6, 7] (.nm 6) (.seq (.var 4)) .no [7] (.nm 7) (.seq (.var 5)) (.so (.cmp .ne (.var 6) (.var 7))) (.tup (.cons (.var 6) (.cons (.var 7) .nil))))) .nil))) .nil)))) (.cons (.ret (.var 2)) .nil)))
def F_walks_of : List W → M W := fdef (fun k => (([] : List (List W → M W))[k]?).getD (fun _ => M.no)) 2 8 ib_walks_of
def ib_walked : ISs := (.cons (.asg 1 (.lst .nil)) (.cons (.forr (.nm 2) (.rng1 (.cst (.int 3))) (.cons (.asg 1 (.bin .add (.var 1) (.fn 0 (.cons (.ix (.var 0) (.cst (.int 0))) (.cons (.lc [3] (.nm 3) (.seq (.ix (.var 0) (.cst (.int 1)))) (.so (.cmp .eq (.ix (.var 3) (.cst (.int 2))) (.var 2))) (.sl (.var 3) .no (.so (.cst (.int 2))))) .nil))))) .nil)) (.cons (.ret (.tup (.cons (.ix (.var 0) (.cst (.int 0))) (.cons (.pr .tuple (.cons (.pr .sortset (.cons (.var 1) .nil)) .nil)) .nil)))) .nil)))
def F_walked : List W → M W := fdef (fun k => (([F_walks_of] : List (List W → M W))[k]?).getD (fun _ => M.no)) 1 4 ib_walked
def ib_need_coloured : ISs := (.cons (.ifs (.not (.fn 0 (.cons (.var 0) .nil))) (.cons (.rai "InvalidColours" .no) .nil) .nil) .nil)
def F_need_coloured : List W → M W := fdef (fun k => (([F_coloured_so] : List (List W → M W))[k]?).getD (fun _ => M.no)) 1 1 ib_need_coloured
def ib_is_coloured : ISs := (.cons (.ret (.fn 0 (.cons (.var 0) .nil))) .nil)
def F_is_coloured : List W → M W := fdef (fun k => (([F_coloured_so] : List (List W → M W))[k]?).getD (fun _ => M.no)) 1 1 ib_is_coloured
def ib_bright_lots : ISs := (.cons (.ex (.fn 2 (.cons (.var 0) .nil))) (.cons (.ret (.fn 0 (.cons (.fn 1 (.cons (.var 0) .nil)) .nil))) .nil))
def F_bright_lots : List W → M W := fdef (fun k => (([F_lots_of, F_walked, F_need_coloured] : List (List W → M W))[k]?).getD (fun _ => M.no)) 1 1 ib_bright_lots
def ib__law_tinted : ISs := (.cons (.asg 3 (.mls .nil)) (.cons (.forr (.nm 4) (.rng1 (.var 2)) (.cons (.forr (.nm 5) (.rng1 (.var 2)) (.cons (.forr (.nm 6) (.rng1 (.var 1)) (.cons (.ifs (.and (.cmp .ne (.var 4) (.var 5)) (.cmp .eq (.fn 0 (.cons (.var 0) (.cons (.cst (.int 5)) .nil))) (.cst (.int 0)))) (.cons (.app (.var 3) (.tup (.cons (.var 4) (.cons (.var 5) (.cons (.var 6) .nil))))) .nil) .nil) .nil)) .nil)) .nil)) (.cons (.ret (.tup (.cons (.var 2) (.cons (.pr .tuple (.cons (.var 3) .nil)) .nil)))) .nil)))
def F__law_tinted : List W → M W := fdef (fun k => (([F__law_dip] : List (List W → M W))[k]?).getD (fun _ => M.no)) 3 7 ib__law_tinted
def ib__law_bright : ISs := (.cons (.asg 1 (.lst .nil)) (.cons (.forr (.nm 2) (.seq (.tup (.cons (.cst (.int 0)) (.cons (.cst (.int 1)) (.cons (.cst (.int 2)) .nil))))) (.cons (.asg 3 (.lc [6] (.nm 6) (.seq (.ix (.var 0) (.cst (.int 1)))) (.so (.cmp .eq (.ix (.var 6) (.cst (.int 2))) (.var 2))) (.sl (.var 6) .no (.so (.cst (.int 2)))))) (.cons (.forr (.nm 4) (.rng1 (.ix (.var 0) (.cst (.int 0)))) (.cons (.asg 1 (.bin .add (.var 1) (.lc [7] (.nm 7) (.seq (.fn 2 (.cons (.ix (.var 0) (.cst (.int 0))) (.cons (.var 3) (.cons (.var 4) .nil))))) (.so (.cmp .ne (.var 7) (.var 4))) (.tup (.cons (.var 4) (.cons (.var 7) .nil)))))) .nil)) .nil))) (.cons (.ret (.lc [5] (.nm 5) (.seq (.fn 0 (.cons (.ix (.var 0) (.cst (.int 0))) .nil))) (.so (.fn 1 (.cons (.ix (.var 0) (.cst (.int 0))) (.cons (.var 1) (.cons (.var 5) .nil))))) (.var 5))) .nil)))
def F__law_bright : List W → M W := fdef (fun k => (([F__law_lots, F__law_is_quiet, F__law_onto] : List (List W → M W))[k]?).getD (fun _ => M.no)) 1 8 ib__law_bright
def ib__law_is_tint : ISs := (.cons (.ifs (.or (.not (.pr .isTup (.cons (.var 0) .nil))) (.or (.cmp .ne (.pr .len (.cons (.var 0) .nil)) (.cst (.int 2))) (.or (.not (.fn 0 (.cons (.ix (.var 0) (.cst (.int 0))) (.cons (.cst (.int 6)) .nil)))) (.cmp .eq (.ix (.var 0) (.cst (.int 0))) (.cst (.int 0)))))) (.cons (.ret (.cst (.bool false))) .nil) .nil) (.cons (.ifs (.not (.pr .isTup (.cons (.ix (.var 0) (.cst (.int 1))) .nil))) (.cons (.ret (.cst (.bool false))) .nil) .nil) (.cons (.asg 1 (.tup (.cons (.neg (.cst (.int 1))) (.cons (.neg (.cst (.int 1))) (.cons (.neg (.cst (.int 1))) .nil))))) (.cons (.forr (.nm 2) (.seq (.ix (.var 0) (.cst (.int 1)))) (.cons (.ifs (.or (.not (.pr .isTup (.cons (.var 2) .nil))) (.or (.cmp .ne (.pr .len (.cons (.var 2) .nil)) (.cst (.int 3))) (.cmp .ne (.lc [3] (.nm 3) (.seq (.var 2)) (.so (.not (.fn 0 (.cons (.var 3) (.cons (.cst (.int 6)) .nil))))) (.var 3)) (.lst .nil)))) (.cons (.ret (.cst (.bool false))) .nil) .nil) (.cons (.ifs (.or (.cmp .ge (.pr .maxt (.cons (.sl (.var 2) .no (.so (.cst (.int 2)))) .nil)) (.ix (.var 0) (.cst (.int 0)))) (.or (.cmp .eq (.ix (.var 2) (.cst (.int 0))) (.ix (.var 2) (.cst (.int 1)))) (.or (.cmp .gt (.ix (.var 2) (.cst (.int 2))) (.cst (.int 2))) (.not (.cmp .lt (.var 1) (.var 2)))))) (.cons (.ret (.cst (.bool false))) .nil) .nil) (.cons (.asg 1 (.var 2)) .nil)))) (.cons (.ret (.cst (.bool true))) .nil)))))
def F__law_is_tint : List W → M W := fdef (fun k => (([F__law_int_k06] : List (List W → M W))[k]?).getD (fun _ => M.no)) 1 4 ib__law_is_tint
def ib__law_bent_k11 : ISs := (.cons (.asg 2 (.fn 2 (.cons (.var 0) (.cons (.cst (.int 6)) .nil)))) (.cons (.ifs (.and (.pr .isTup (.cons (.var 1) .nil)) (.and (.cmp .ne (.var 1) (.tup .nil)) (.cmp .gt (.var 2) (.cst (.int 0))))) (.cons (.asg 3 (.fn 2 (.cons (.var 0) (.cons (.pr .len (.cons (.var 1) .nil)) .nil)))) (.cons (.ifs (.cmp .eq (.var 2) (.cst (.int 1))) (.cons (.ret (.bin .add (.sl (.var 1) .no (.so (.var 3))) (.sl (.var 1) (.so (.bin .add (.var 3) (.cst (.int 1)))) .no))) .nil) .nil) (.cons (.ret (.bin .add (.bin .add (.sl (.var 1) .no (.so (.var 3))) (.tup (.cons (.fn 1 (.cons (.var 0) (.cons (.ix (.var 1) (.var 3)) .nil))) .nil))) (.sl (.var 1) (.so (.bin .add (.var 3) (.cst (.int 1)))) .no))) .nil))) .nil) (.cons (.ret (.fn 0 (.cons (.var 0) (.cons (.lst (.cons (.cst .none) (.cons (.cst (.bool true)) (.cons (.cst (.int 0)) (.cons (.cst (.int 1)) (.cons (.cst (.int 2)) (.cons (.cst (.int 3)) (.cons (.cst (.int 5)) (.cons (.cst (.int 6)) (.cons (.cst (.int 7)) (.cons (.neg (.cst (.int 1))) (.cons (.tup .nil) (.cons (.tup (.cons (.cst (.int 0)) (.cons (.cst (.int 1)) .nil))) (.cons (.tup (.cons (.cst (.int 0)) (.cons (.cst (.int 1)) (.cons (.cst (.int 3)) .nil)))) (.cons (.tup (.cons (.cst (.int 1)) (.cons (.cst (.int 1)) (.cons (.cst (.int 0)) .nil)))) (.cons (.tup (.cons (.cst (.int 0)) (.cons (.cst (.int 1)) (.cons (.cst (.int 2)) .nil)))) (.cons (.lst .nil) .nil))))))))))))))))) .nil)))) .nil)))
def R__law_bent_k11 : Nat → List W → M W
  | 0 => fun _ => M.no
  | n + 1 => fdef (fun k => (([F__law_any, R__law_bent_k11 n, F__law_dip] : List (List W → M W))[k]?).getD (fun _ => M.no)) 2 4 ib__law_bent_k11
def F__law_bent_k11 : List W → M W := R__law_bent_k11 10
def ib_law_k11 : ISs := (.cons (.forr (.nm 1) (.rng1 (.bin .add (.cst (.int 1)) (.pr .min2 (.cons (.slen (.var 0)) (.cons (.cst (.int 8)) .nil))))) (.cons (.asg 2 (.fn 7 (.cons (.var 0) (.cons (.var 1) .nil)))) (.cons (.forr (.nm 3) (.rng1 (.cst (.int 4))) (.cons (.asg 4 (.bin .add (.cst (.int 2)) (.bin .mod (.var 3) (.cst (.int 2))))) (.cons (.asg 5 (.fn 5 (.cons (.var 2) (.cons (.var 4) (.cons (.bin .add (.cst (.int 1)) (.fn 6 (.cons (.var 2) (.cons (.cst (.int 6)) .nil)))) .nil))))) (.cons (.asg 6 (.fn 1 (.cons (.var 5) .nil))) (.cons (.ifs (.or (.cmp .ne (.var 6) (.fn 4 (.cons (.var 5) .nil))) (.or (.and (.cmp .eq (.var 4) (.cst (.int 2))) (.cmp .eq (.var 6) (.lst .nil))) (.not (.fn 0 (.cons (.var 5) .nil))))) (.cons (.ret (.cst (.bool false))) .nil) .nil) (.cons (.forr (.nm 7) (.rng1 (.cst (.int 10))) (.cons (.asg 8 (.fn 3 (.cons (.var 2) (.cons (.var 5) .nil)))) (.cons (.ifs (.cmp .ne (.fn 0 (.cons (.var 8) .nil)) (.fn 2 (.cons (.var 8) .nil))) (.cons (.ret (.cst (.bool false))) .nil) .nil) (.cons (.ifs (.and (.not (.fn 2 (.cons (.var 8) .nil))) (.cmp .ne (.word (.fn 1 (.cons (.var 8) .nil))) (.cst (.str "colours")))) (.cons (.ret (.cst (.bool false))) .nil) .nil) .nil)))) .nil)))))) .nil))) (.cons (.unp (.tp [9, 10]) (.tup (.cons (.tup (.cons (.cst (.int 3)) (.cons (.tup (.cons (.tup (.cons (.cst (.int 0)) (.cons (.cst (.int 1)) (.cons (.cst (.int 0)) .nil)))) (.cons (.tup (.cons (.cst (.int 1)) (.cons (.cst (.int 2)) (.cons (.cst (.int 1)) .nil)))) (.cons (.tup (.cons (.cst (.int 2)) (.cons (.cst (.int 0)) (.cons (.cst (.int 2)) .nil)))) .nil)))) .nil))) (.cons (.tup (.cons (.cst (.int 3)) (.cons (.tup (.cons (.tup (.cons (.cst (.int 0)) (.cons (.cst (.int 1)) (.cons (.cst (.int 0)) .nil)))) (.cons (.tup (.cons (.cst (.int 1)) (.cons (.cst (.int 2)) (.cons (.cst (.int 0)) .nil)))) (.cons (.tup (.cons (.cst (.int 2)) (.cons (.cst (.int 0)) (.cons (.cst (.int 1)) .nil)))) .nil)))) .nil))) .nil)))) (.cons (.ifs (.cmp .ne (.lst (.cons (.fn 1 (.cons (.var 9) .nil)) (.cons (.fn 1 (.cons (.var 10) .nil)) (.cons (.fn 0 (.cons (.tup (.cons (.cst (.int 2)) (.cons (.tup (.cons (.tup (.cons (.cst (.int 0)) (.cons (.cst (.int 1)) (.cons (.cst (.int 0)) .nil)))) (.cons (.tup (.cons (.cst (.int 0)) (.cons (.cst (.int 1)) (.cons (.cst (.int 2)) .nil)))) .nil))) .nil))) .nil)) .nil)))) (.lst (.cons (.lst .nil) (.cons (.lst (.cons (.tup (.cons (.cst (.int 2)) .nil)) .nil)) (.cons (.cst (.bool true)) .nil))))) (.cons (.ret (.cst (.bool false))) .nil) .nil) (.cons (.asg 11 (.tup (.cons (.cst (.int 5)) (.cons (.tup (.cons (.tup (.cons (.cst (.int 0)) (.cons (.cst (.int 1)) (.cons (.cst (.int 0)) .nil)))) (.cons (.tup (.cons (.cst (.int 1)) (.cons (.cst (.int 2)) (.cons (.cst (.int 0)) .nil)))) (.cons (.tup (.cons (.cst (.int 2)) (.cons (.cst (.int 3)) (.cons (.cst (.int 0)) .nil)))) (.cons (.tup (.cons (.cst (.int 3)) (.cons (.cst (.int 4)) (.cons (.cst (.int 1)) .nil)))) (.cons (.tup (.cons (.cst (.int 4)) (.cons (.cst (.int 0)) (.cons (.cst (.int 1)) .nil)))) .nil)))))) .nil)))) (.cons (.ret (.and (.cmp .eq (.fn 1 (.cons (.var 11) .nil)) (.lst (.cons (.tup (.cons (.cst (.int 2)) (.cons (.cst (.int 4)) .nil))) .nil))) (.cmp .eq (.lst (.cons (.fn 0 (.cons (.tup (.cons (.cst (.int 7)) (.cons (.tup .nil) .nil))) .nil)) (.cons (.fn 0 (.cons (.tup (.cons (.cst (.int 2)) (.cons (.tup (.cons (.tup (.cons (.cst (.int 0)) (.cons (.cst (.int 1)) (.cons (.cst (.int 3)) .nil)))) .nil)) .nil))) .nil)) .nil))) (.lst (.cons (.cst (.bool false)) (.cons (.cst (.bool false)) .nil)))))) .nil)))))
def F_law_k11 : List W → M W := fdef (fun k => (([F_is_coloured, F_bright_lots, F__law_is_tint, F__law_bent_k11, F__law_bright, F__law_tinted, F__law_dip, F__law_jug_of] : List (List W → M W))[k]?).getD (fun _ => M.no)) 1 12 ib_law_k11
def ib_colourings : ISs := (.cons (.asg 1 (.lst (.cons (.tup .nil) .nil))) (.cons (.forr (.nm 2) (.rng1 (.var 0)) (.cons (.asg 1 (.lc2 [3, 4] (.nm 3) (.seq (.var 1)) .no [4] (.nm 4) (.rng1 (.cst (.int 3))) (.so (.cmp .le (.var 4) (.pr .lenset (.cons (.var 3) .nil)))) (.bin .add (.var 3) (.tup (.cons (.var 4) .nil))))) .nil)) (.cons (.ret (.var 1)) .nil)))
def F_colourings : List W → M W := fdef (fun k => (([] : List (List W → M W))[k]?).getD (fun _ => M.no)) 1 5 ib_colourings
def ib_worst_colouring : ISs := (.cons (.ex (.fn 3 (.cons (.var 0) .nil))) (.cons (.ifs (.cmp .gt (.pr .len (.cons (.ix (.var 0) (.cst (.int 1))) .nil)) (.cst (.int 6))) (.cons (.rai "TooMany" (.so (.cst (.int 6)))) .nil) .nil) (.cons (.forr (.nm 1) (.seq (.fn 0 (.cons (.pr .len (.cons (.ix (.var 0) (.cst (.int 1))) .nil)) .nil))) (.cons (.ifs (.cmp .eq (.fn 1 (.cons (.fn 2 (.cons (.tup (.cons (.ix (.var 0) (.cst (.int 0))) (.cons (.pr .tuple (.cons (.lc [2, 3] (.tp [2, 3]) (.zip (.ix (.var 0) (.cst (.int 1))) (.var 1)) .no (.bin .add (.var 2) (.tup (.cons (.var 3) .nil)))) .nil)) .nil))) .nil)) .nil)) (.lst .nil)) (.cons (.ret (.var 1)) .nil) .nil) .nil)) (.cons (.ret (.cst .none)) .nil))))
def F_worst_colouring : List W → M W := fdef (fun k => (([F_colourings, F_lots_of, F_walked, F_need_web] : List (List W → M W))[k]?).getD (fun _ => M.no)) 1 4 ib_worst_colouring
def ib__law_few : ISs := (.cons (.asg 2 (.bin .add (.cst (.int 2)) (.fn 0 (.cons (.var 0) (.cons (.cst (.int 4)) .nil))))) (.cons (.asg 3 (.ifx (.and (.cmp .lt (.var 2) (.cst (.int 6))) (.cmp .gt (.fn 0 (.cons (.var 0) (.cons (.cst (.int 3)) .nil))) (.cst (.int 0)))) (.mk (.lc [7] (.nm 7) (.rng1 (.var 2)) .no (.tup (.cons (.var 7) (.cons (.bin .mod (.bin .add (.var 7) (.cst (.int 1))) (.var 2)) .nil))))) (.mls .nil))) (.cons (.forr (.nm 4) (.rng1 (.fn 0 (.cons (.var 0) (.cons (.cst (.int 4)) .nil)))) (.cons (.par [5, 6] (.cons (.fn 0 (.cons (.var 0) (.cons (.var 2) .nil))) (.cons (.fn 0 (.cons (.var 0) (.cons (.var 2) .nil))) .nil))) (.cons (.ifs (.and (.cmp .ne (.var 5) (.var 6)) (.and (.cmp .nin (.tup (.cons (.var 5) (.cons (.var 6) .nil))) (.var 3)) (.cmp .lt (.pr .len (.cons (.var 3) .nil)) (.var 1)))) (.cons (.app (.var 3) (.tup (.cons (.var 5) (.cons (.var 6) .nil)))) .nil) .nil) .nil))) (.cons (.ret (.tup (.cons (.var 2) (.cons (.pr .tuple (.cons (.pr .sorted (.cons (.var 3) .nil)) .nil)) .nil)))) .nil))))
def F__law_few : List W → M W := fdef (fun k => (([F__law_dip] : List (List W → M W))[k]?).getD (fun _ => M.no)) 2 8 ib__law_few
def ib__law_has : ISs := (.cons (.asg 3 (.lst .nil)) (.cons (.forr (.nm 4) (.seq (.pr .sortsett (.cons (.var 2) .nil))) (.cons (.asg 5 (.lc [7, 8] (.tp [7, 8]) (.zip (.var 1) (.var 2)) (.so (.cmp .eq (.var 8) (.var 4))) (.var 7))) (.cons (.forr (.nm 6) (.rng1 (.var 0)) (.cons (.asg 3 (.bin .add (.var 3) (.lc [10] (.nm 10) (.seq (.fn 2 (.cons (.var 0) (.cons (.var 5) (.cons (.var 6) .nil))))) (.so (.cmp .ne (.var 10) (.var 6))) (.tup (.cons (.var 6) (.cons (.var 10) .nil)))))) .nil)) .nil))) (.cons (.ret (.cmp .ne (.lc [9] (.nm 9) (.seq (.fn 0 (.cons (.var 0) .nil))) (.so (.fn 1 (.cons (.var 0) (.cons (.var 3) (.cons (.var 9) .nil))))) (.var 9)) (.lst .nil))) .nil)))
def F__law_has : List W → M W := fdef (fun k => (([F__law_lots, F__law_is_quiet, F__law_onto] : List (List W → M W))[k]?).getD (fun _ => M.no)) 3 11 ib__law_has
def ib__law_rows_k12 : ISs := (.cons (.asg 1 (.lst (.cons (.tup .nil) .nil))) (.cons (.forr (.nm 2) (.rng1 (.var 0)) (.cons (.asg 3 (.lst .nil)) (.cons (.forr (.nm 4) (.seq (.var 1)) (.cons (.asg 3 (.bin .add (.var 3) (.lc [5] (.nm 5) (.seq (.tup (.cons (.cst (.int 0)) (.cons (.cst (.int 1)) (.cons (.cst (.int 2)) .nil))))) .no (.bin .add (.var 4) (.tup (.cons (.var 5) .nil)))))) .nil)) (.cons (.asg 1 (.var 3)) .nil)))) (.cons (.ret (.var 1)) .nil)))
def F__law_rows_k12 : List W → M W := fdef (fun k => (([] : List (List W → M W))[k]?).getD (fun _ => M.no)) 1 6 ib__law_rows_k12
def ib_law_k12 : ISs := (.cons (.forr (.nm 1) (.rng1 (.bin .add (.cst (.int 1)) (.pr .min2 (.cons (.slen (.var 0)) (.cons (.cst (.int 4)) .nil))))) (.cons (.asg 2 (.fn 4 (.cons (.var 0) (.cons (.var 1) .nil)))) (.cons (.forr (.nm 3) (.rng1 (.cst (.int 2))) (.cons (.asg 4 (.fn 3 (.cons (.var 2) (.cons (.cst (.int 5)) .nil)))) (.cons (.asg 5 (.lc [12] (.nm 12) (.seq (.fn 2 (.cons (.pr .len (.cons (.ix (.var 4) (.cst (.int 1))) .nil)) .nil))) (.so (.or (.cmp .eq (.pr .lenset (.cons (.var 12) .nil)) (.cst (.int 3))) (.cmp .eq (.ix (.var 4) (.cst (.int 1))) (.tup .nil)))) (.var 12))) (.cons (.asg 6 (.lc [12] (.nm 12) (.seq (.var 5)) (.so (.not (.fn 1 (.cons (.ix (.var 4) (.cst (.int 0))) (.cons (.ix (.var 4) (.cst (.int 1))) (.cons (.var 12) .nil)))))) (.var 12))) (.cons (.ifs (.cmp .ne (.fn 0 (.cons (.var 4) .nil)) (.ifx (.cmp .ne (.var 6) (.lst .nil)) (.ix (.var 6) (.cst (.int 0))) (.cst .none))) (.cons (.ret (.cst (.bool false))) .nil) .nil) .nil))))) (.cons (.asg 7 (.lst .nil)) (.cons (.forr (.nm 8) (.rng1 (.cst (.int 3))) (.cons (.asg 7 (.bin .add (.var 7) (.lc [13] (.nm 13) (.rng1 (.cst (.int 4))) (.so (.cmp .ne (.var 13) (.var 8))) (.tup (.cons (.var 8) (.cons (.var 13) .nil)))))) .nil)) (.cons (.ifs (.cmp .ne (.word (.fn 0 (.cons (.tup (.cons (.cst (.int 4)) (.cons (.pr .tuple (.cons (.sl (.var 7) .no (.so (.cst (.int 7)))) .nil)) .nil))) .nil))) (.cst (.str "full6"))) (.cons (.ret (.cst (.bool false))) .nil) .nil) (.cons (.forr (.nm 9) (.seq (.lst (.cons (.cst .none) (.cons (.tup (.cons (.cst (.int 0)) (.cons (.tup .nil) .nil))) (.cons (.tup (.cons (.cst (.int 2)) (.cons (.tup (.cons (.tup (.cons (.cst (.int 0)) (.cons (.cst (.int 0)) .nil))) .nil)) .nil))) .nil))))) (.cons (.ifs (.cmp .ne (.word (.fn 0 (.cons (.var 9) .nil))) (.cst (.str "web"))) (.cons (.ret (.cst (.bool false))) .nil) .nil) .nil)) .nil))))))) (.cons (.unp (.tp [10, 11]) (.tup (.cons (.tup (.cons (.cst (.int 3)) (.cons (.tup (.cons (.tup (.cons (.cst (.int 0)) (.cons (.cst (.int 1)) .nil))) (.cons (.tup (.cons (.cst (.int 1)) (.cons (.cst (.int 2)) .nil))) (.cons (.tup (.cons (.cst (.int 2)) (.cons (.cst (.int 0)) .nil))) .nil)))) .nil))) (.cons (.tup (.cons (.cst (.int 4)) (.cons (.tup (.cons (.tup (.cons (.cst (.int 0)) (.cons (.cst (.int 1)) .nil))) (.cons (.tup (.cons (.cst (.int 1)) (.cons (.cst (.int 2)) .nil))) (.cons (.tup (.cons (.cst (.int 2)) (.cons (.cst (.int 3)) .nil))) (.cons (.tup (.cons (.cst (.int 3)) (.cons (.cst (.int 0)) .nil))) .nil))))) .nil))) .nil)))) (.cons (.ifs (.cmp .ne (.lst (.cons (.fn 0 (.cons (.var 10) .nil)) (.cons (.fn 0 (.cons (.var 11) .nil)) (.cons (.fn 0 (.cons (.tup (.cons (.cst (.int 7)) (.cons (.tup .nil) .nil))) .nil)) .nil)))) (.lst (.cons (.tup (.cons (.cst (.int 0)) (.cons (.cst (.int 1)) (.cons (.cst (.int 2)) .nil)))) (.cons (.cst .none) (.cons (.cst .none) .nil))))) (.cons (.ret (.cst (.bool false))) .nil) .nil) (.cons (.ret (.cmp .eq (.fn 0 (.cons (.tup (.cons (.cst (.int 4)) (.cons (.tup (.cons (.tup (.cons (.cst (.int 0)) (.cons (.cst (.int 1)) .nil))) (.cons (.tup (.cons (.cst (.int 1)) (.cons (.cst (.int 2)) .nil))) (.cons (.tup (.cons (.cst (.int 2)) (.cons (.cst (.int 0)) .nil))) (.cons (.tup (.cons (.cst (.int 3)) (.cons (.cst (.int 0)) .nil))) .nil))))) .nil))) .nil)) (.tup (.cons (.cst (.int 0)) (.cons (.cst (.int 1)) (.cons (.cst (.int 2)) (.cons (.cst (.int 0)) .nil))))))) .nil))))
def F_law_k12 : List W → M W := fdef (fun k => (([F_worst_colouring, F__law_has, F__law_rows_k12, F__law_few, F__law_jug_of] : List (List W → M W))[k]?).getD (fun _ => M.no)) 1 14 ib_law_k12
def ib_layered_k13 : ISs := (.cons (.ex (.fn 2 (.cons (.var 0) .nil))) (.cons (.asg 1 (.fn 1 (.cons (.var 0) .nil))) (.cons (.ifs (.cmp .isnt (.var 1) (.cst .none)) (.cons (.whl 0 (.cst .none) .nil) .nil) .nil) (.cons (.ret (.fn 0 (.cons (.var 0) .nil))) .nil))))
def F_layered_k13 : List W → M W := fdef (fun k => (([F_layers_of, F_odd_of, F_need_web] : List (List W → M W))[k]?).getD (fun _ => M.no)) 1 2 ib_layered_k13
def ib__law_backed : ISs := (.cons (.asg 2 (.lc [3, 4] (.tp [3, 4]) (.seq (.ix (.var 1) (.cst (.int 1)))) (.so (.cmp .gt (.fn 0 (.cons (.var 0) (.cons (.cst (.int 3)) .nil))) (.cst (.int 0)))) (.tup (.cons (.var 4) (.cons (.var 3) .nil))))) (.cons (.ret (.tup (.cons (.ix (.var 1) (.cst (.int 0))) (.cons (.pr .tuple (.cons (.pr .sortset (.cons (.bin .add (.pr .list (.cons (.ix (.var 1) (.cst (.int 1))) .nil)) (.var 2)) .nil)) .nil)) .nil)))) .nil))
def F__law_backed : List W → M W := fdef (fun k => (([F__law_dip] : List (List W → M W))[k]?).getD (fun _ => M.no)) 2 5 ib__law_backed
def ib__law_together : ISs := (.cons (.par [1, 2, 3] (.cons (.fn 10 (.cons (.var 0) .nil)) (.cons (.fn 9 (.cons (.var 0) .nil)) (.cons (.fn 8 (.cons (.var 0) .nil)) .nil)))) (.cons (.ifs (.or (.and (.or (.cmp .is (.var 2) (.cst .none)) (.var 3)) (.cmp .eq (.var 1) (.lst .nil))) (.and (.cmp .is (.var 2) (.cst .none)) (.not (.var 3)))) (.cons (.ret (.cst (.bool false))) .nil) .nil) (.cons (.ifs (.or (.cmp .ne (.cmp .is (.fn 7 (.cons (.var 0) .nil)) (.cst .none)) (.cmp .ne (.var 1) (.lst .nil))) (.cmp .ne (.cmp .is (.var 2) (.cst .none)) (.not (.fn 6 (.cons (.var 0) .nil))))) (.cons (.ret (.cst (.bool false))) .nil) .nil) (.cons (.ifs (.and (.cmp .isnt (.var 2) (.cst .none)) (.or (.cmp .nin (.var 2) (.fn 5 (.cons (.var 0) .nil))) (.cmp .eq (.bin .mod (.pr .len (.cons (.var 2) .nil)) (.cst (.int 2))) (.cst (.int 0))))) (.cons (.ret (.cst (.bool false))) .nil) .nil) (.cons (.ifs (.or (.and (.cmp .is (.var 2) (.cst .none)) (.cmp .nin (.fn 4 (.cons (.var 0) .nil)) (.var 1))) (.and (.cmp .isnt (.fn 3 (.cons (.var 0) .nil)) (.cst .none)) (.cmp .nin (.fn 3 (.cons (.var 0) .nil)) (.var 1)))) (.cons (.ret (.cst (.bool false))) .nil) .nil) (.cons (.forr (.nm 4) (.seq (.tup (.cons (.fn 2 (.cons (.var 0) .nil)) (.cons (.fn 1 (.cons (.var 0) .nil)) (.cons (.fn 0 (.cons (.var 0) .nil)) .nil))))) (.cons (.ifs (.cmp .ne (.cmp .eq (.var 4) (.tup .nil)) (.cmp .ne (.var 1) (.lst .nil))) (.cons (.ret (.cst (.bool false))) .nil) .nil) .nil)) (.cons (.ret (.cst (.bool true))) .nil)))))))
def F__law_together : List W → M W := fdef (fun k => (([F_least_turned, F_least_put, F_least_struck, F_grown, F_layered_k13, F_rings, F__law_odd, F_paper, F_is_tame, F_odd_ring, F_quiet_lots] : List (List W → M W))[k]?).getD (fun _ => M.no)) 1 5 ib__law_together
def ib_law_k13 : ISs := (.cons (.forr (.nm 1) (.rng1 (.bin .add (.cst (.int 1)) (.pr .min2 (.cons (.slen (.var 0)) (.cons (.cst (.int 8)) .nil))))) (.cons (.asg 2 (.fn 7 (.cons (.var 0) (.cons (.var 1) .nil)))) (.cons (.forr (.nm 3) (.rng1 (.cst (.int 6))) (.cons (.asg 4 (.fn 6 (.cons (.var 2) (.cons (.cst (.int 2)) (.cons (.cst (.int 6)) .nil))))) (.cons (.ifs (.not (.fn 3 (.cons (.ifx (.cmp .eq (.bin .mod (.var 3) (.cst (.int 2))) (.cst (.int 0))) (.fn 5 (.cons (.var 2) (.cons (.var 4) .nil))) (.var 4)) .nil))) (.cons (.ret (.cst (.bool false))) .nil) .nil) .nil))) (.cons (.asg 4 (.fn 4 (.cons (.var 2) (.cons (.cst (.int 7)) .nil)))) (.cons (.ifs (.or (.not (.fn 3 (.cons (.var 4) .nil))) (.cmp .isnt (.fn 2 (.cons (.var 4) .nil)) (.cst .none))) (.cons (.ret (.cst (.bool false))) .nil) .nil) .nil))))) (.cons (.asg 5 (.tup (.cons (.cst (.int 3)) (.cons (.tup (.cons (.tup (.cons (.cst (.int 0)) (.cons (.cst (.int 1)) .nil))) (.cons (.tup (.cons (.cst (.int 1)) (.cons (.cst (.int 0)) .nil))) (.cons (.tup (.cons (.cst (.int 1)) (.cons (.cst (.int 2)) .nil))) (.cons (.tup (.cons (.cst (.int 2)) (.cons (.cst (.int 0)) .nil))) (.cons (.tup (.cons (.cst (.int 2)) (.cons (.cst (.int 1)) .nil))) .nil)))))) .nil)))) (.cons (.asg 6 (.tup (.cons (.cst (.int 5)) (.cons (.tup (.cons (.tup (.cons (.cst (.int 0)) (.cons (.cst (.int 1)) .nil))) (.cons (.tup (.cons (.cst (.int 1)) (.cons (.cst (.int 2)) .nil))) (.cons (.tup (.cons (.cst (.int 2)) (.cons (.cst (.int 3)) .nil))) (.cons (.tup (.cons (.cst (.int 3)) (.cons (.cst (.int 4)) .nil))) (.cons (.tup (.cons (.cst (.int 4)) (.cons (.cst (.int 0)) .nil))) .nil)))))) .nil)))) (.cons (.ifs (.or (.fn 1 (.cons (.tup (.cons (.cst (.int 3)) (.cons (.tup (.cons (.tup (.cons (.cst (.int 0)) (.cons (.cst (.int 1)) .nil))) (.cons (.tup (.cons (.cst (.int 1)) (.cons (.cst (.int 0)) .nil))) (.cons (.tup (.cons (.cst (.int 1)) (.cons (.cst (.int 2)) .nil))) (.cons (.tup (.cons (.cst (.int 2)) (.cons (.cst (.int 0)) .nil))) .nil))))) .nil))) .nil)) (.cmp .ne (.fn 2 (.cons (.var 6) .nil)) (.tup (.cons (.cst (.int 0)) (.cons (.cst (.int 1)) (.cons (.cst (.int 2)) (.cons (.cst (.int 3)) (.cons (.cst (.int 4)) .nil)))))))) (.cons (.ret (.cst (.bool false))) .nil) .nil) (.cons (.ifs (.or (.not (.fn 1 (.cons (.var 5) .nil))) (.or (.fn 1 (.cons (.var 6) .nil)) (.or (.cmp .ne (.fn 0 (.cons (.var 5) .nil)) (.lst (.cons (.tup (.cons (.cst (.int 0)) .nil)) (.cons (.tup (.cons (.cst (.int 1)) .nil)) .nil)))) (.cmp .ne (.fn 0 (.cons (.var 6) .nil)) (.lst .nil))))) (.cons (.ret (.cst (.bool false))) .nil) .nil) (.cons (.asg 7 (.tup (.cons (.cst (.int 5)) (.cons (.pr .tuple (.cons (.pr .sorted (.cons (.bin .add (.ix (.var 6) (.cst (.int 1))) (.tup (.cons (.tup (.cons (.cst (.int 1)) (.cons (.cst (.int 0)) .nil))) (.cons (.tup (.cons (.cst (.int 3)) (.cons (.cst (.int 2)) .nil))) .nil)))) .nil)) .nil)) .nil)))) (.cons (.ret (.and (.fn 1 (.cons (.var 7) .nil)) (.cmp .eq (.fn 0 (.cons (.var 7) .nil)) (.lst (.cons (.tup (.cons (.cst (.int 0)) (.cons (.cst (.int 2)) .nil))) (.cons (.tup (.cons (.cst (.int 0)) (.cons (.cst (.int 3)) .nil))) .nil)))))) .nil)))))))
def F_law_k13 : List W → M W := fdef (fun k => (([F_quiet_lots, F_is_tame, F_odd_ring, F__law_together, F__law_even_web, F__law_backed, F__law_drawn, F__law_jug_of] : List (List W → M W))[k]?).getD (fun _ => M.no)) 1 8 ib_law_k13
def ib_is_facts : ISs := (.cons (.ifs (.or (.not (.pr .isTup (.cons (.var 1) .nil))) (.cmp .gt (.pr .len (.cons (.var 1) .nil)) (.cst (.int 4)))) (.cons (.ret (.cst (.bool false))) .nil) .nil) (.cons (.forr (.nm 2) (.seq (.var 1)) (.cons (.ifs (.or (.not (.pr .isTup (.cons (.var 2) .nil))) (.or (.cmp .ne (.pr .len (.cons (.var 2) .nil)) (.cst (.int 2))) (.not (.pr .isBool (.cons (.ix (.var 2) (.cst (.int 1))) .nil))))) (.cons (.ret (.cst (.bool false))) .nil) .nil) (.cons (.ifs (.not (.fn 0 (.cons (.ix (.var 0) (.cst (.int 0))) (.cons (.ix (.var 2) (.cst (.int 0))) .nil)))) (.cons (.ret (.cst (.bool false))) .nil) .nil) .nil))) (.cons (.ret (.cst (.bool true))) .nil)))
def F_is_facts : List W → M W := fdef (fun k => (([F_is_part] : List (List W → M W))[k]?).getD (fun _ => M.no)) 2 3 ib_is_facts
def ib_near_webs : ISs := (.cons (.asg 1 (.lst (.cons (.ix (.var 0) (.cst (.int 1))) .nil))) (.cons (.forr (.nm 2) (.rng1 (.ix (.var 0) (.cst (.int 0)))) (.cons (.forr (.nm 3) (.seq (.lc [7] (.nm 7) (.rng1 (.ix (.var 0) (.cst (.int 0)))) (.so (.cmp .ne (.var 7) (.var 2))) (.var 7))) (.cons (.asg 4 (.lc [8] (.nm 8) (.seq (.ix (.var 0) (.cst (.int 1)))) (.so (.cmp .ne (.var 8) (.tup (.cons (.var 2) (.cons (.var 3) .nil))))) (.var 8))) (.cons (.asg 5 (.ifx (.cmp .isin (.tup (.cons (.var 2) (.cons (.var 3) .nil))) (.ix (.var 0) (.cst (.int 1)))) (.lst .nil) (.lst (.cons (.tup (.cons (.var 2) (.cons (.var 3) .nil))) .nil)))) (.cons (.asg 1 (.bin .add (.var 1) (.lst (.cons (.pr .tuple (.cons (.pr .sorted (.cons (.bin .add (.var 4) (.var 5)) .nil)) .nil)) .nil)))) .nil)))) .nil)) (.cons (.ret (.lc [6] (.nm 6) (.seq (.pr .sorted (.cons (.var 1) .nil))) .no (.tup (.cons (.ix (.var 0) (.cst (.int 0))) (.cons (.var 6) .nil))))) .nil)))
def F_near_webs : List W → M W := fdef (fun k => (([] : List (List W → M W))[k]?).getD (fun _ => M.no)) 1 9 ib_near_webs
def ib_all_told : ISs := (.cons (.asg 2 (.fn 1 (.cons (.var 0) .nil))) (.cons (.forr (.tp [3, 4]) (.seq (.var 1)) (.cons (.asg 2 (.lc [5] (.nm 5) (.seq (.var 2)) (.so (.cmp .eq (.fn 0 (.cons (.var 5) (.cons (.var 3) .nil))) (.var 4))) (.var 5))) .nil)) (.cons (.ret (.var 2)) .nil)))
def F_all_told : List W → M W := fdef (fun k => (([F_quiet, F_near_webs] : List (List W → M W))[k]?).getD (fun _ => M.no)) 2 6 ib_all_told
def ib_need_told : ISs := (.cons (.ex (.fn 1 (.cons (.var 0) .nil))) (.cons (.ifs (.not (.fn 0 (.cons (.var 0) (.cons (.var 1) .nil)))) (.cons (.rai "InvalidFacts" .no) .nil) .nil) .nil))
def F_need_told : List W → M W := fdef (fun k => (([F_is_facts, F_need_web] : List (List W → M W))[k]?).getD (fun _ => M.no)) 2 2 ib_need_told
def ib_webs_told : ISs := (.cons (.ex (.fn 1 (.cons (.var 0) (.cons (.var 1) .nil)))) (.cons (.ret (.fn 0 (.cons (.var 0) (.cons (.var 1) .nil)))) .nil))
def F_webs_told : List W → M W := fdef (fun k => (([F_all_told, F_need_told] : List (List W → M W))[k]?).getD (fun _ => M.no)) 2 2 ib_webs_told
def ib_surely : ISs := (.cons (.ex (.fn 3 (.cons (.var 0) (.cons (.var 1) .nil)))) (.cons (.ex (.fn 2 (.cons (.var 0) (.cons (.var 2) .nil)))) (.cons (.asg 3 (.lc [4] (.nm 4) (.seq (.fn 0 (.cons (.var 0) (.cons (.var 1) .nil)))) .no (.fn 1 (.cons (.var 4) (.cons (.var 2) .nil))))) (.cons (.ifs (.or (.cmp .eq (.var 3) (.lst .nil)) (.and (.cmp .isin (.cst (.bool true)) (.var 3)) (.cmp .isin (.cst (.bool false)) (.var 3)))) (.cons (.ret (.cst .none)) .nil) .nil) (.cons (.ret (.ix (.var 3) (.cst (.int 0)))) .nil)))))
def F_surely : List W → M W := fdef (fun k => (([F_all_told, F_quiet, F_need_lot, F_need_told] : List (List W → M W))[k]?).getD (fun _ => M.no)) 3 5 ib_surely
def ib__law_off : ISs := (.cons (.asg 1 (.mls (.cons (.var 0) .nil))) (.cons (.forr (.nm 2) (.rng1 (.ix (.var 0) (.cst (.int 0)))) (.cons (.forr (.nm 3) (.rng1 (.ix (.var 0) (.cst (.int 0)))) (.cons (.ifs (.cmp .isin (.tup (.cons (.var 2) (.cons (.var 3) .nil))) (.ix (.var 0) (.cst (.int 1)))) (.cons (.app (.var 1) (.tup (.cons (.ix (.var 0) (.cst (.int 0))) (.cons (.pr .tuple (.cons (.lc [4] (.nm 4) (.seq (.ix (.var 0) (.cst (.int 1)))) (.so (.cmp .ne (.var 4) (.tup (.cons (.var 2) (.cons (.var 3) .nil))))) (.var 4)) .nil)) .nil)))) .nil) (.cons (.ifs (.cmp .ne (.var 2) (.var 3)) (.cons (.app (.var 1) (.tup (.cons (.ix (.var 0) (.cst (.int 0))) (.cons (.pr .tuple (.cons (.pr .sorted (.cons (.bin .add (.ix (.var 0) (.cst (.int 1))) (.tup (.cons (.tup (.cons (.var 2) (.cons (.var 3) .nil))) .nil))) .nil)) .nil)) .nil)))) .nil) .nil) .nil)) .nil)) .nil)) (.cons (.ret (.pr .sorted (.cons (.var 1) .nil))) .nil)))
def F__law_off : List W → M W := fdef (fun k => (([] : List (List W → M W))[k]?).getD (fun _ => M.no)) 1 5 ib__law_off
def ib__law_facts : ISs := (.cons (.par [2, 3] (.cons (.fn 2 (.cons (.var 0) (.cons (.fn 5 (.cons (.var 1) .nil)) .nil))) (.cons (.tup .nil) .nil))) (.cons (.forr (.nm 4) (.rng1 (.fn 0 (.cons (.var 0) (.cons (.cst (.int 5)) .nil)))) (.cons (.asg 5 (.fn 2 (.cons (.var 0) (.cons (.bin .add (.ifx (.cmp .eq (.fn 0 (.cons (.var 0) (.cons (.cst (.int 2)) .nil))) (.cst (.int 0))) (.fn 3 (.cons (.var 2) .nil)) (.lst .nil)) (.sl (.fn 4 (.cons (.ix (.var 1) (.cst (.int 0))) .nil)) .no (.so (.cst (.int 40))))) .nil)))) (.cons (.asg 6 (.fn 1 (.cons (.ix (.var 2) (.cst (.int 0))) (.cons (.ix (.var 2) (.cst (.int 1))) (.cons (.var 5) .nil))))) (.cons (.asg 3 (.bin .add (.var 3) (.tup (.cons (.tup (.cons (.var 5) (.cons (.ifx (.cmp .gt (.fn 0 (.cons (.var 0) (.cons (.cst (.int 6)) .nil))) (.cst (.int 0))) (.var 6) (.not (.var 6))) .nil))) .nil)))) .nil)))) (.cons (.ret (.var 3)) .nil)))
def F__law_facts : List W → M W := fdef (fun k => (([F__law_dip, F__law_is_quiet, F__law_any, F__law_quiet, F__law_lots, F__law_off] : List (List W → M W))[k]?).getD (fun _ => M.no)) 2 7 ib__law_facts
def ib_near_webs__m : ISs := (.cons (.asg 1 (.lst (.cons (.ix (.var 0) (.cst (.int 1))) .nil))) (.cons (.forr (.nm 2) (.rng1 (.ix (.var 0) (.cst (.int 0)))) (.cons (.forr (.nm 3) (.seq (.lc [7] (.nm 7) (.rng1 (.ix (.var 0) (.cst (.int 0)))) (.so (.cmp .ne (.var 7) (.var 2))) (.var 7))) (.cons (.asg 4 (.lc [8] (.nm 8) (.seq (.ix (.var 0) (.cst (.int 1)))) (.so (.cmp .ne (.var 8) (.tup (.cons (.var 2) (.cons (.var 3) .nil))))) (.var 8))) (.cons (.asg 5 (.ifx (.cmp .isin (.tup (.cons (.var 2) (.cons (.var 3) .nil))) (.ix (.var 0) (.cst (.int 1)))) (.lst .nil) (.lst (.cons (.tup (.cons (.var 2) (.cons (.var 3) .nil))) .nil)))) (.cons (.asg 1 (.bin .add (.var 1) (.lst (.cons (.pr .tuple (.cons (.pr .sorted (.cons (.bin .add (.var 4) (.var 5)) .nil)) .nil)) .nil)))) .nil)))) .nil)) (.cons (.ret (.mk (.lc [6] (.nm 6) (.seq (.pr .sorted (.cons (.var 1) .nil))) .no (.tup (.cons (.ix (.var 0) (.cst (.int 0))) (.cons (.var 6) .nil)))))) .nil)))
def F_near_webs__m : List W → M W := fdef (fun k => (([] : List (List W → M W))[k]?).getD (fun _ => M.no)) 1 9 ib_near_webs__m
def ib_all_told__m : ISs := (.cons (.asg 2 (.fn 1 (.cons (.var 0) .nil))) (.cons (.forr (.tp [3, 4]) (.seq (.var 1)) (.cons (.asg 2 (.mk (.lc [5] (.nm 5) (.seq (.var 2)) (.so (.cmp .eq (.fn 0 (.cons (.var 5) (.cons (.var 3) .nil))) (.var 4))) (.var 5)))) .nil)) (.cons (.ret (.var 2)) .nil)))
def F_all_told__m : List W → M W := fdef (fun k => (([F_quiet, F_near_webs__m] : List (List W → M W))[k]?).getD (fun _ => M.no)) 2 6 ib_all_told__m
def ib_webs_told__m : ISs := (.cons (.ex (.fn 1 (.cons (.var 0) (.cons (.var 1) .nil)))) (.cons (.ret (.fn 0 (.cons (.var 0) (.cons (.var 1) .nil)))) .nil))
def F_webs_told__m : List W → M W := fdef (fun k => (([F_all_told__m, F_need_told] : List (List W → M W))[k]?).getD (fun _ => M.no)) 2 2 ib_webs_told__m
def ib__law_right_k14 : ISs := (.cons (.asg 3 (.mls .nil)) (.cons (.forr (.nm 4) (.seq (.fn 4 (.cons (.var 0) .nil))) (.cons (.ifs (.cmp .eq (.lc [8] (.nm 8) (.seq (.var 1)) (.so (.cmp .ne (.fn 2 (.cons (.ix (.var 4) (.cst (.int 0))) (.cons (.ix (.var 4) (.cst (.int 1))) (.cons (.ix (.var 8) (.cst (.int 0))) .nil)))) (.ix (.var 8) (.cst (.int 1))))) (.var 8)) (.lst .nil)) (.cons (.app (.var 3) (.var 4)) .nil) .nil) .nil)) (.cons (.asg 5 (.fn 3 (.cons (.var 0) (.cons (.var 1) .nil)))) (.cons (.ifs (.cmp .ne (.var 5) (.var 3)) (.cons (.ret (.cst (.bool false))) .nil) .nil) (.cons (.app (.var 5) (.cst .none)) (.cons (.asg 6 (.pr .sortsetb (.cons (.lc [4] (.nm 4) (.seq (.var 3)) .no (.fn 2 (.cons (.ix (.var 4) (.cst (.int 0))) (.cons (.ix (.var 4) (.cst (.int 1))) (.cons (.var 2) .nil))))) .nil))) (.cons (.asg 7 (.fn 1 (.cons (.var 0) (.cons (.var 1) (.cons (.var 2) .nil))))) (.cons (.ret (.and (.cmp .eq (.fn 0 (.cons (.var 0) (.cons (.var 1) .nil))) (.var 3)) (.cmp .eq (.var 7) (.ifx (.cmp .eq (.pr .len (.cons (.var 6) .nil)) (.cst (.int 1))) (.ix (.var 6) (.cst (.int 0))) (.cst .none))))) .nil))))))))
def F__law_right_k14 : List W → M W := fdef (fun k => (([F_webs_told, F_surely, F__law_is_quiet, F_webs_told__m, F__law_off] : List (List W → M W))[k]?).getD (fun _ => M.no)) 3 9 ib__law_right_k14
def ib_law_k14 : ISs := (.cons (.forr (.nm 1) (.rng1 (.bin .add (.cst (.int 1)) (.pr .min2 (.cons (.slen (.var 0)) (.cons (.cst (.int 8)) .nil))))) (.cons (.asg 2 (.fn 7 (.cons (.var 0) (.cons (.var 1) .nil)))) (.cons (.forr (.nm 3) (.rng1 (.cst (.int 4))) (.cons (.asg 4 (.fn 6 (.cons (.var 2) (.cons (.cst (.int 1)) (.cons (.cst (.int 6)) .nil))))) (.cons (.ifs (.not (.fn 2 (.cons (.var 4) (.cons (.fn 5 (.cons (.var 2) (.cons (.var 4) .nil))) (.cons (.fn 3 (.cons (.var 2) (.cons (.fn 4 (.cons (.ix (.var 4) (.cst (.int 0))) .nil)) .nil))) .nil))))) (.cons (.ret (.cst (.bool false))) .nil) .nil) .nil))) (.cons (.forr (.nm 5) (.seq (.lst (.cons (.cst .none) (.cons (.tup (.cons (.cst (.int 1)) .nil)) (.cons (.tup (.cons (.tup (.cons (.tup (.cons (.cst (.int 0)) .nil)) (.cons (.cst (.int 1)) .nil))) .nil)) (.cons (.tup (.cons (.tup (.cons (.tup (.cons (.cst (.int 7)) .nil)) (.cons (.cst (.bool true)) .nil))) .nil)) (.cons (.bin .mul (.tup (.cons (.tup (.cons (.tup .nil) (.cons (.cst (.bool true)) .nil))) .nil)) (.cst (.int 5))) (.cons (.lst .nil) (.cons (.tup (.cons (.tup (.cons (.tup (.cons (.cst (.int 0)) (.cons (.cst (.int 0)) .nil))) (.cons (.cst (.bool true)) .nil))) .nil)) (.cons (.tup (.cons (.tup .nil) .nil)) .nil)))))))))) (.cons (.ifs (.cmp .ne (.word (.fn 1 (.cons (.var 4) (.cons (.var 5) .nil)))) (.cst (.str "facts"))) (.cons (.ret (.cst (.bool false))) .nil) .nil) (.cons (.ifs (.cmp .ne (.word (.fn 0 (.cons (.var 4) (.cons (.var 5) (.cons (.cst .none) .nil))))) (.cst (.str "facts"))) (.cons (.ret (.cst (.bool false))) .nil) .nil) .nil))) (.cons (.forr (.nm 5) (.seq (.lst (.cons (.cst .none) (.cons (.tup (.cons (.cst (.int 7)) .nil)) (.cons (.lst (.cons (.cst (.int 0)) .nil)) (.cons (.tup (.cons (.cst (.int 0)) (.cons (.cst (.int 0)) .nil))) .nil)))))) (.cons (.ifs (.cmp .ne (.word (.fn 0 (.cons (.var 4) (.cons (.tup .nil) (.cons (.var 5) .nil))))) (.cst (.str "lot"))) (.cons (.ret (.cst (.bool false))) .nil) .nil) .nil)) .nil))))) (.cons (.asg 6 (.tup (.cons (.cst (.int 3)) (.cons (.tup (.cons (.tup (.cons (.cst (.int 0)) (.cons (.cst (.int 1)) .nil))) (.cons (.tup (.cons (.cst (.int 1)) (.cons (.cst (.int 2)) .nil))) (.cons (.tup (.cons (.cst (.int 2)) (.cons (.cst (.int 0)) .nil))) .nil)))) .nil)))) (.cons (.ifs (.or (.cmp .ne (.pr .len (.cons (.fn 1 (.cons (.var 6) (.cons (.tup .nil) .nil))) .nil)) (.cst (.int 7))) (.cmp .ne (.fn 1 (.cons (.var 6) (.cons (.tup (.cons (.tup (.cons (.tup (.cons (.cst (.int 0)) .nil)) (.cons (.cst (.bool true)) .nil))) (.cons (.tup (.cons (.tup (.cons (.cst (.int 1)) .nil)) (.cons (.cst (.bool true)) .nil))) .nil))) .nil))) (.lst .nil))) (.cons (.ret (.cst (.bool false))) .nil) .nil) (.cons (.ifs (.cmp .ne (.fn 1 (.cons (.var 6) (.cons (.tup (.cons (.tup (.cons (.tup (.cons (.cst (.int 0)) .nil)) (.cons (.cst (.bool true)) .nil))) .nil)) .nil))) (.lst (.cons (.tup (.cons (.cst (.int 3)) (.cons (.tup (.cons (.tup (.cons (.cst (.int 0)) (.cons (.cst (.int 1)) .nil))) (.cons (.tup (.cons (.cst (.int 1)) (.cons (.cst (.int 0)) .nil))) (.cons (.tup (.cons (.cst (.int 1)) (.cons (.cst (.int 2)) .nil))) (.cons (.tup (.cons (.cst (.int 2)) (.cons (.cst (.int 0)) .nil))) .nil))))) .nil))) .nil))) (.cons (.ret (.cst (.bool false))) .nil) .nil) (.cons (.ret (.cmp .eq (.lst (.cons (.fn 0 (.cons (.var 6) (.cons (.tup (.cons (.tup (.cons (.tup (.cons (.cst (.int 0)) .nil)) (.cons (.cst (.bool true)) .nil))) .nil)) (.cons (.tup (.cons (.cst (.int 1)) .nil)) .nil)))) (.cons (.fn 0 (.cons (.var 6) (.cons (.tup .nil) (.cons (.tup (.cons (.cst (.int 0)) .nil)) .nil)))) (.cons (.fn 0 (.cons (.var 6) (.cons (.tup .nil) (.cons (.tup .nil) .nil)))) .nil)))) (.lst (.cons (.cst (.bool false)) (.cons (.cst .none) (.cons (.cst (.bool false)) .nil)))))) .nil)))))
def F_law_k14 : List W → M W := fdef (fun k => (([F_surely, F_webs_told, F__law_right_k14, F__law_any, F__law_lots, F__law_facts, F__law_drawn, F__law_jug_of] : List (List W → M W))[k]?).getD (fun _ => M.no)) 1 7 ib_law_k14
def ib_figure_of : ISs := (.cons (.ret (.ifx (.and (.cmp .eq (.pr .slen (.cons (gz (.var 0)) .nil)) (.cst (.int 1))) (.pr .insub (.cons (.var 0) (.cons (.cst (.str "0123456789")) .nil)))) (.pr .sint (.cons (.var 0) .nil)) (.cst .none))) .nil)
def F_figure_of : List W → M W := fdef (fun k => (([] : List (List W → M W))[k]?).getD (fun _ => M.no)) 1 1 ib_figure_of
def ib_text_of : ISs := (.cons (.ret (.pr .join (.cons (.cst (.str " ")) (.cons (.bin .add (.lst (.cons (.cst (.str "places")) (.cons (.pr .str (.cons (.ix (.var 0) (.cst (.int 0))) .nil)) .nil))) (.lc [1, 2] (.tp [1, 2]) (.seq (.ix (.var 0) (.cst (.int 1)))) .no (.bin .add (.bin .add (.pr .str (.cons (.var 1) .nil)) (.cst (.str "-"))) (.pr .str (.cons (.var 2) .nil))))) .nil)))) .nil)
def F_text_of : List W → M W := fdef (fun k => (([] : List (List W → M W))[k]?).getD (fun _ => M.no)) 1 3 ib_text_of
def ib_web_of : ISs := (.cons (.ifs (.not (.pr .isStr (.cons (.var 0) .nil))) (.cons (.rai "InvalidText" .no) .nil) .nil) (.cons (.asg 1 (.pr .split (.cons (.var 0) (.cons (.cst (.str " ")) .nil)))) (.cons (.asg 2 (.lc [4] (.nm 4) (.seq (.sl (.var 1) (.so (.cst (.int 2))) .no)) .no (.pr .tuple (.cons (.lc [5] (.nm 5) (.seq (.pr .split (.cons (.var 4) (.cons (.cst (.str "-")) .nil)))) .no (.fn 2 (.cons (.var 5) .nil))) .nil)))) (.cons (.asg 3 (.tup (.cons (.ifx (.cmp .gt (.pr .len (.cons (.var 1) .nil)) (.cst (.int 1))) (.fn 2 (.cons (.ix (.var 1) (.cst (.int 1))) .nil)) (.cst .none)) (.cons (.pr .tuple (.cons (.var 2) .nil)) .nil)))) (.cons (.ifs (.or (.not (.fn 1 (.cons (.var 3) .nil))) (.cmp .ne (.fn 0 (.cons (.var 3) .nil)) (.var 0))) (.cons (.rai "InvalidText" .no) .nil) .nil) (.cons (.ret (.var 3)) .nil))))))
def F_web_of : List W → M W := fdef (fun k => (([F_text_of, F_is_web, F_figure_of] : List (List W → M W))[k]?).getD (fun _ => M.no)) 1 6 ib_web_of
def ib_web_text : ISs := (.cons (.ex (.fn 1 (.cons (.var 0) .nil))) (.cons (.ret (.fn 0 (.cons (.var 0) .nil))) .nil))
def F_web_text : List W → M W := fdef (fun k => (([F_text_of, F_need_web] : List (List W → M W))[k]?).getD (fun _ => M.no)) 1 1 ib_web_text
def ib_read_web : ISs := (.cons (.ret (.fn 0 (.cons (.var 0) .nil))) .nil)
def F_read_web : List W → M W := fdef (fun k => (([F_web_of] : List (List W → M W))[k]?).getD (fun _ => M.no)) 1 1 ib_read_web
def ib__law_text : ISs := (.cons (.ret (.pr .join (.cons (.cst (.str " ")) (.cons (.bin .add (.lst (.cons (.cst (.str "places")) (.cons (.pr .str (.cons (.ix (.var 0) (.cst (.int 0))) .nil)) .nil))) (.lc [1] (.nm 1) (.seq (.ix (.var 0) (.cst (.int 1)))) .no (.bin .add (.bin .add (.pr .str (.cons (.ix (.var 1) (.cst (.int 0))) .nil)) (.cst (.str "-"))) (.pr .str (.cons (.ix (.var 1) (.cst (.int 1))) .nil))))) .nil)))) .nil)
def F__law_text : List W → M W := fdef (fun k => (([] : List (List W → M W))[k]?).getD (fun _ => M.no)) 1 2 ib__law_text
def ib__law_due_k15 : ISs := (.cons (.asg 1 (.pr .split (.cons (.var 0) (.cons (.cst (.str " ")) .nil)))) (.cons (.ifs (.or (.cmp .lt (.pr .len (.cons (.var 1) .nil)) (.cst (.int 2))) (.or (.cmp .ne (.ix (.var 1) (.cst (.int 0))) (.cst (.str "places"))) (.cmp .nin (.ix (.var 1) (.cst (.int 1))) (.tup (.cons (.cst (.str "1")) (.cons (.cst (.str "2")) (.cons (.cst (.str "3")) (.cons (.cst (.str "4")) (.cons (.cst (.str "5")) (.cons (.cst (.str "6")) (.cons (.cst (.str "7")) .nil))))))))))) (.cons (.ret (.cst .none)) .nil) .nil) (.cons (.par [2, 3] (.cons (.pr .sint (.cons (.ix (.var 1) (.cst (.int 1))) .nil)) (.cons (.mls .nil) .nil))) (.cons (.forr (.nm 4) (.seq (.sl (.var 1) (.so (.cst (.int 2))) .no)) (.cons (.ifs (.or (.cmp .ne (.pr .slen (.cons (gz (.var 4)) .nil)) (.cst (.int 3))) (.or (.cmp .ne (.pr .six (.cons (gz (.var 4)) (.cons (.cst (.int 1)) .nil))) (.cst (.str "-"))) (.or (.not (.pr .insub (.cons (.pr .six (.cons (gz (.var 4)) (.cons (.cst (.int 0)) .nil))) (.cons (.cst (.str "0123456")) .nil)))) (.not (.pr .insub (.cons (.pr .six (.cons (gz (.var 4)) (.cons (.cst (.int 2)) .nil))) (.cons (.cst (.str "0123456")) .nil))))))) (.cons (.ret (.cst .none)) .nil) .nil) (.cons (.app (.var 3) (.tup (.cons (.pr .sint (.cons (.pr .six (.cons (gz (.var 4)) (.cons (.cst (.int 0)) .nil))) .nil)) (.cons (.pr .sint (.cons (.pr .six (.cons (gz (.var 4)) (.cons (.cst (.int 2)) .nil))) .nil)) .nil)))) .nil))) (.cons (.ifs (.or (.cmp .ne (.lc [5] (.nm 5) (.seq (.var 3)) (.so (.or (.cmp .ge (.pr .maxt (.cons (.var 5) .nil)) (.var 2)) (.cmp .eq (.ix (.var 5) (.cst (.int 0))) (.ix (.var 5) (.cst (.int 1)))))) (.var 5)) (.lst .nil)) (.cmp .ne (.var 3) (.pr .sortset (.cons (.var 3) .nil)))) (.cons (.ret (.cst .none)) .nil) .nil) (.cons (.ret (.tup (.cons (.var 2) (.cons (.pr .tuple (.cons (.var 3) .nil)) .nil)))) .nil))))))
def F__law_due_k15 : List W → M W := fdef (fun k => (([] : List (List W → M W))[k]?).getD (fun _ => M.no)) 1 6 ib__law_due_k15
def ib__law_bent_k15 : ISs := (.cons (.par [2, 3] (.cons (.fn 1 (.cons (.var 0) (.cons (.bin .add (.pr .slen (.cons (gz (.var 1)) .nil)) (.cst (.int 1))) .nil))) (.cons (.fn 1 (.cons (.var 0) (.cons (.cst (.int 5)) .nil))) .nil))) (.cons (.ifs (.cmp .eq (.var 3) (.cst (.int 0))) (.cons (.ret (.bin .add (.bin .add (.pr .sto (.cons (.var 1) (.cons (.var 2) .nil))) (.fn 0 (.cons (.var 0) (.cons (.lst (.cons (.cst (.str " ")) (.cons (.cst (.str "-")) (.cons (.cst (.str "0")) (.cons (.cst (.str "1")) (.cons (.cst (.str "6")) (.cons (.cst (.str "x")) (.cons (.cst (.str "0-1")) (.cons (.cst (.str " 0-1")) (.cons (.cst (.str "
")) .nil)))))))))) .nil)))) (.pr .sfrom (.cons (.var 1) (.cons (.var 2) .nil))))) .nil) .nil) (.cons (.ifs (.cmp .eq (.var 3) (.cst (.int 1))) (.cons (.ret (.bin .add (.pr .sto (.cons (.var 1) (.cons (.var 2) .nil))) (.pr .sfrom (.cons (.var 1) (.cons (.bin .add (.var 2) (.cst (.int 1))) .nil))))) .nil) .nil) (.cons (.asg 4 (.mk (.pr .split (.cons (.var 1) (.cons (.cst (.str " ")) .nil))))) (.cons (.asg 2 (.fn 1 (.cons (.var 0) (.cons (.pr .len (.cons (.var 4) .nil)) .nil)))) (.cons (.ifs (.cmp .eq (.var 3) (.cst (.int 2))) (.cons (.asg 4 (.bin .add (.sl (.var 4) .no (.so (.var 2))) (.sl (.var 4) (.so (.bin .add (.var 2) (.cst (.int 1)))) .no))) .nil) .nil) (.cons (.ifs (.cmp .eq (.var 3) (.cst (.int 3))) (.cons (.asg 4 (.bin .add (.sl (.var 4) .no (.so (.bin .add (.var 2) (.cst (.int 1))))) (.sl (.var 4) (.so (.var 2)) .no))) .nil) .nil) (.cons (.ifs (.cmp .eq (.var 3) (.cst (.int 4))) (.cons (.sti (.var 4) (.var 2) (.fn 0 (.cons (.var 0) (.cons (.lst (.cons (.cst (.str "0-1")) (.cons (.cst (.str "1-0")) (.cons (.cst (.str "5-6")) (.cons (.cst (.str "0-0")) (.cons (.cst (.str "2-1")) (.cons (.cst (.str "1")) (.cons (.cst (.str "7")) (.cons (.cst (.str "8")) (.cons (.cst (.str "")) (.cons (.cst (.str "01")) (.cons (.cst (.str "0-1-2")) (.cons (.cst (.str "places")) .nil))))))))))))) .nil)))) .nil) .nil) (.cons (.ret (.pr .join (.cons (.cst (.str " ")) (.cons (.var 4) .nil)))) .nil)))))))))
def F__law_bent_k15 : List W → M W := fdef (fun k => (([F__law_any, F__law_dip] : List (List W → M W))[k]?).getD (fun _ => M.no)) 2 5 ib__law_bent_k15
def ib__law_read_right : ISs := (.cons (.asg 1 (.fn 1 (.cons (.var 0) .nil))) (.cons (.ifs (.cmp .is (.var 1) (.cst .none)) (.cons (.ret (.cmp .eq (.word (.fn 0 (.cons (.var 0) .nil))) (.cst (.str "text")))) .nil) .nil) (.cons (.ret (.cmp .eq (.fn 0 (.cons (.var 0) .nil)) (.var 1))) .nil)))
def F__law_read_right : List W → M W := fdef (fun k => (([F_read_web, F__law_due_k15] : List (List W → M W))[k]?).getD (fun _ => M.no)) 1 2 ib__law_read_right
def ib_law_k15 : ISs := (.cons (.forr (.nm 1) (.rng1 (.bin .add (.cst (.int 1)) (.pr .min2 (.cons (.slen (.var 0)) (.cons (.cst (.int 8)) .nil))))) (.cons (.asg 2 (.fn 6 (.cons (.var 0) (.cons (.var 1) .nil)))) (.cons (.forr (.nm 3) (.rng1 (.cst (.int 5))) (.cons (.asg 4 (.fn 5 (.cons (.var 2) (.cons (.cst (.int 1)) (.cons (.cst (.int 7)) .nil))))) (.cons (.asg 5 (.fn 4 (.cons (.var 4) .nil))) (.cons (.ifs (.or (.cmp .ne (.fn 1 (.cons (.var 4) .nil)) (.var 5)) (.cmp .ne (.fn 0 (.cons (.var 5) .nil)) (.var 4))) (.cons (.ret (.cst (.bool false))) .nil) .nil) (.cons (.forr (.nm 6) (.rng1 (.cst (.int 10))) (.cons (.asg 7 (.fn 3 (.cons (.var 2) (.cons (.var 5) .nil)))) (.cons (.ifs (.not (.fn 2 (.cons (.ifx (.cmp .gt (.bin .mod (.var 6) (.cst (.int 3))) (.cst (.int 0))) (.var 7) (.fn 3 (.cons (.var 2) (.cons (.var 7) .nil)))) .nil))) (.cons (.ret (.cst (.bool false))) .nil) .nil) .nil))) .nil))))) (.cons (.ifs (.cmp .ne (.word (.fn 1 (.cons (.pr .list (.cons (.var 4) .nil)) .nil))) (.cst (.str "web"))) (.cons (.ret (.cst (.bool false))) .nil) .nil) .nil)))) (.cons (.asg 8 (.lst (.cons (.cst .none) (.cons (.cst (.int 5)) (.cons (.cst (.str "")) (.cons (.cst (.str "places")) (.cons (.cst (.str "places 0")) (.cons (.cst (.str "places 8")) (.cons (.cst (.str " places 1")) (.cons (.cst (.str "places 1 ")) (.cons (.cst (.str "places  1")) (.cons (.cst (.str "places 2 0-2")) .nil)))))))))))) (.cons (.asg 8 (.bin .add (.var 8) (.lst (.cons (.cst (.str "places 3 1-2 0-1")) (.cons (.cst (.str "places 2 0-1 0-1")) (.cons (.cst (.str "places 2 0-0")) (.cons (.cst (.str "place 2 0-1")) (.cons (.cst (.str "places 2 0 1")) (.cons (.cst (.str "places 01")) .nil))))))))) (.cons (.ifs (.cmp .ne (.lc [9] (.nm 9) (.seq (.var 8)) (.so (.cmp .ne (.word (.fn 0 (.cons (.var 9) .nil))) (.cst (.str "text")))) (.var 9)) (.lst .nil)) (.cons (.ret (.cst (.bool false))) .nil) .nil) (.cons (.ret (.cmp .eq (.lst (.cons (.fn 1 (.cons (.tup (.cons (.cst (.int 1)) (.cons (.tup .nil) .nil))) .nil)) (.cons (.fn 0 (.cons (.cst (.str "places 2 0-1")) .nil)) .nil))) (.lst (.cons (.cst (.str "places 1")) (.cons (.tup (.cons (.cst (.int 2)) (.cons (.tup (.cons (.tup (.cons (.cst (.int 0)) (.cons (.cst (.int 1)) .nil))) .nil)) .nil))) .nil))))) .nil)))))
def F_law_k15 : List W → M W := fdef (fun k => (([F_read_web, F_web_text, F__law_read_right, F__law_bent_k15, F__law_text, F__law_drawn, F__law_jug_of] : List (List W → M W))[k]?).getD (fun _ => M.no)) 1 10 ib_law_k15
def ib_with_way : ISs := (.cons (.ret (.tup (.cons (.ix (.var 0) (.cst (.int 0))) (.cons (.pr .tuple (.cons (.pr .sorted (.cons (.bin .add (.ix (.var 0) (.cst (.int 1))) (.tup (.cons (.var 1) .nil))) .nil)) .nil)) .nil)))) .nil)
def F_with_way : List W → M W := fdef (fun k => (([] : List (List W → M W))[k]?).getD (fun _ => M.no)) 2 2 ib_with_way
def ib_turned_of : ISs := (.cons (.ret (.tup (.cons (.ix (.var 0) (.cst (.int 0))) (.cons (.pr .tuple (.cons (.pr .sorted (.cons (.lc [1, 2] (.tp [1, 2]) (.seq (.ix (.var 0) (.cst (.int 1)))) .no (.tup (.cons (.var 2) (.cons (.var 1) .nil)))) .nil)) .nil)) .nil)))) .nil)
def F_turned_of : List W → M W := fdef (fun k => (([] : List (List W → M W))[k]?).getD (fun _ => M.no)) 1 3 ib_turned_of
def ib_without : ISs := (.cons (.asg 2 (.lst .nil)) (.cons (.forr (.tp [3, 4]) (.seq (.ix (.var 0) (.cst (.int 1)))) (.cons (.ifs (.and (.cmp .ne (.var 3) (.var 1)) (.cmp .ne (.var 4) (.var 1))) (.cons (.asg 2 (.bin .add (.var 2) (.lst (.cons (.tup (.cons (.bin .sub (.var 3) (.pr .int (.cons (.cmp .gt (.var 3) (.var 1)) .nil))) (.cons (.bin .sub (.var 4) (.pr .int (.cons (.cmp .gt (.var 4) (.var 1)) .nil))) .nil))) .nil)))) .nil) .nil) .nil)) (.cons (.ret (.tup (.cons (.bin .sub (.ix (.var 0) (.cst (.int 0))) (.cst (.int 1))) (.cons (.pr .tuple (.cons (.var 2) .nil)) .nil)))) .nil)))
def F_without : List W → M W := fdef (fun k => (([] : List (List W → M W))[k]?).getD (fun _ => M.no)) 2 5 ib_without
def ib__wall : ISs := (.cons (.whl fuel (.cst (.bool true)) (.cons .pas .nil)) .nil)
def F__wall : List W → M W := fdef (fun k => (([] : List (List W → M W))[k]?).getD (fun _ => M.no)) 1 1 ib__wall
def ib__law_step_at : ISs := (.cons (.unp (.tp [2, 3]) (.var 1)) (.cons (.ifs (.cmp .eq (.var 2) (.cst (.str "all"))) (.cons (.ifs (.not (.pr .isTup (.cons (.var 3) .nil))) (.cons (.ret (.tup (.cons (.var 0) (.cons (.cst (.str "way")) .nil)))) .nil) .nil) (.cons (.asg 4 (.cmp .eq (.lc [8] (.nm 8) (.seq (.var 3)) (.so (.or (.cmp .eq (.ix (.var 8) (.cst (.int 0))) (.ix (.var 8) (.cst (.int 1)))) (.cmp .ge (.pr .maxt (.cons (.var 8) .nil)) (.ix (.var 0) (.cst (.int 0)))))) (.var 8)) (.lst .nil))) (.cons (.ret (.ifx (.var 4) (.tup (.cons (.tup (.cons (.ix (.var 0) (.cst (.int 0))) (.cons (.pr .tuple (.cons (.pr .sortset (.cons (.bin .add (.ix (.var 0) (.cst (.int 1))) (.var 3)) .nil)) .nil)) .nil))) (.cons (.cst (.str "")) .nil))) (.tup (.cons (.var 0) (.cons (.cst (.str "way")) .nil))))) .nil))) .nil) (.cons (.unp (.tp [5, 6]) (.var 3)) (.cons (.ifs (.or (.cmp .eq (.var 5) (.var 6)) (.or (.cmp .ge (.pr .maxl (.cons (.var 3) .nil)) (.ix (.var 0) (.cst (.int 0)))) (.cmp .ne (.cmp .isin (.var 3) (.ix (.var 0) (.cst (.int 1)))) (.cmp .ne (.var 2) (.cst (.str "put")))))) (.cons (.ret (.tup (.cons (.var 0) (.cons (.cst (.str "way")) .nil)))) .nil) .nil) (.cons (.asg 7 (.lc [8] (.nm 8) (.seq (.ix (.var 0) (.cst (.int 1)))) (.so (.cmp .ne (.var 8) (.var 3))) (.var 8))) (.cons (.ifs (.cmp .eq (.var 2) (.cst (.str "put"))) (.cons (.asg 7 (.bin .add (.var 7) (.lst (.cons (.var 3) .nil)))) .nil) .nil) (.cons (.ifs (.cmp .eq (.var 2) (.cst (.str "turn"))) (.cons (.asg 7 (.bin .add (.var 7) (.lst (.cons (.tup (.cons (.var 6) (.cons (.var 5) .nil))) .nil)))) .nil) .nil) (.cons (.ret (.tup (.cons (.tup (.cons (.ix (.var 0) (.cst (.int 0))) (.cons (.pr .tuple (.cons (.pr .sortset (.cons (.var 7) .nil)) .nil)) .nil))) (.cons (.cst (.str "")) .nil)))) .nil))))))))
def F__law_step_at : List W → M W := fdef (fun k => (([] : List (List W → M W))[k]?).getD (fun _ => M.no)) 2 9 ib__law_step_at
def ib__law_call : ISs := (.cons (.asg 2 (.fn 1 (.cons (.var 0) (.cons (.lst (.cons (.cst (.str "put")) (.cons (.cst (.str "put")) (.cons (.cst (.str "strike")) (.cons (.cst (.str "turn")) (.cons (.cst (.str "all")) (.cons (.cst (.str "undo")) .nil))))))) .nil)))) (.cons (.asg 3 (.lc [5] (.nm 5) (.rng1 (.fn 0 (.cons (.var 0) (.cons (.cst (.int 4)) .nil)))) .no (.tup (.cons (.fn 0 (.cons (.var 0) (.cons (.cst (.int 8)) .nil))) (.cons (.fn 0 (.cons (.var 0) (.cons (.cst (.int 8)) .nil))) .nil))))) (.cons (.ifs (.and (.cmp .isin (.var 2) (.tup (.cons (.cst (.str "strike")) (.cons (.cst (.str "turn")) .nil)))) (.and (.cmp .ne (.ix (.var 1) (.cst (.int 1))) (.tup .nil)) (.cmp .gt (.fn 0 (.cons (.var 0) (.cons (.cst (.int 5)) .nil))) (.cst (.int 0))))) (.cons (.ret (.tup (.cons (.var 2) (.cons (.fn 1 (.cons (.var 0) (.cons (.ix (.var 1) (.cst (.int 1))) .nil))) .nil)))) .nil) .nil) (.cons (.ifs (.cmp .eq (.var 2) (.cst (.str "all"))) (.cons (.asg 4 (.lc [6] (.nm 6) (.seq (.var 3)) (.so (.and (.cmp .ne (.ix (.var 6) (.cst (.int 0))) (.ix (.var 6) (.cst (.int 1)))) (.cmp .lt (.pr .maxt (.cons (.var 6) .nil)) (.ix (.var 1) (.cst (.int 0)))))) (.var 6))) (.cons (.ret (.tup (.cons (.cst (.str "all")) (.cons (.fn 1 (.cons (.var 0) (.cons (.lst (.cons (.pr .tuple (.cons (.var 4) .nil)) (.cons (.pr .tuple (.cons (.var 4) .nil)) (.cons (.pr .tuple (.cons (.var 4) .nil)) (.cons (.pr .tuple (.cons (.var 3) .nil)) (.cons (.lst (.cons (.tup (.cons (.cst (.int 0)) (.cons (.cst (.int 1)) .nil))) .nil)) .nil)))))) .nil))) .nil)))) .nil)) .nil) (.cons (.ifs (.cmp .gt (.fn 0 (.cons (.var 0) (.cons (.cst (.int 5)) .nil))) (.cst (.int 0))) (.cons (.ret (.tup (.cons (.var 2) (.cons (.tup (.cons (.fn 0 (.cons (.var 0) (.cons (.ix (.var 1) (.cst (.int 0))) .nil))) (.cons (.fn 0 (.cons (.var 0) (.cons (.ix (.var 1) (.cst (.int 0))) .nil))) .nil))) .nil)))) .nil) .nil) (.cons (.ret (.tup (.cons (.var 2) (.cons (.tup (.cons (.fn 0 (.cons (.var 0) (.cons (.cst (.int 8)) .nil))) (.cons (.fn 0 (.cons (.var 0) (.cons (.cst (.int 8)) .nil))) .nil))) .nil)))) .nil))))))
def F__law_call : List W → M W := fdef (fun k => (([F__law_dip, F__law_any] : List (List W → M W))[k]?).getD (fun _ => M.no)) 2 7 ib__law_call
def ib__law_led : ISs := (.cons (.forr (.nm 2) (.seq (.var 1)) (.cons (.ifs (.cmp .eq (.ix (.var 2) (.cst (.int 0))) (.cst (.str "undo"))) (.cons (.asg 0 (.ifx (.cmp .eq (.pr .len (.cons (.var 0) .nil)) (.cst (.int 1))) (.sl (.var 0) .no (.so (.cst (.int 1)))) (.sl (.var 0) .no (.so (.neg (.cst (.int 1))))))) .nil) (.cons (.unp (.tp [3, 4]) (.fn 0 (.cons (.ix (.var 0) (.neg (.cst (.int 1)))) (.cons (.var 2) .nil)))) (.cons (.asg 0 (.ifx (.cmp .eq (.var 4) (.cst (.str ""))) (.bin .add (.var 0) (.lst (.cons (.var 3) .nil))) (.var 0))) .nil))) .nil)) (.cons (.ret (.var 0)) .nil))
def F__law_led : List W → M W := fdef (fun k => (([F__law_step_at] : List (List W → M W))[k]?).getD (fun _ => M.no)) 2 5 ib__law_led
def ib__law_made_k20 : ISs := (.cons (.asg 0 (.xlst (.cons (.xnew "InvalidWeb" "one") (.cons (.xnew "InvalidLot" "one") (.cons (.xnew "InvalidPlace" "one") (.cons (.xnew "InvalidWay" "one") (.cons (.xnew "InvalidSteps" "one") .nil))))))) (.cons (.asg 0 (.xcat (.var 0) (.xlst (.cons (.xnew "InvalidNumber" "one") (.cons (.xnew "InvalidColours" "one") (.cons (.xnew "InvalidFacts" "one") (.cons (.xnew "InvalidText" "one") .nil))))))) (.cons (.ret (.xcat (.var 0) (.xlst (.cons (.xnew "Unlike" "one") (.cons (.xnew "NoLot" "one") (.cons (.xnew "Ringed" "one") (.cons (.xnew "NothingToUndo" "one") .nil))))))) .nil)))
def F__law_made_k20 : List W → M W := fdef (fun k => (([] : List (List W → M W))[k]?).getD (fun _ => M.no)) 0 1 ib__law_made_k20
def ib__law_is : ISs := (.cons (.asg 1 (.lst (.cons (.xis (.var 0) "InvalidWeb") (.cons (.xis (.var 0) "InvalidLot") (.cons (.xis (.var 0) "InvalidPlace") .nil))))) (.cons (.asg 1 (.bin .add (.var 1) (.lst (.cons (.xis (.var 0) "InvalidWay") (.cons (.xis (.var 0) "InvalidSteps") (.cons (.xis (.var 0) "InvalidNumber") .nil)))))) (.cons (.asg 1 (.bin .add (.var 1) (.lst (.cons (.xis (.var 0) "InvalidColours") (.cons (.xis (.var 0) "InvalidFacts") (.cons (.xis (.var 0) "InvalidText") .nil)))))) (.cons (.asg 1 (.bin .add (.var 1) (.lst (.cons (.xis (.var 0) "Unlike") (.cons (.xis (.var 0) "NoLot") (.cons (.xis (.var 0) "Ringed") .nil)))))) (.cons (.ret (.bin .add (.var 1) (.lst (.cons (.xis (.var 0) "NothingToUndo") (.cons (.xis (.var 0) "OddRing") (.cons (.xis (.var 0) "TooMany") .nil)))))) .nil)))))
def F__law_is : List W → M W := fdef (fun k => (([] : List (List W → M W))[k]?).getD (fun _ => M.no)) 1 2 ib__law_is
def ib_law_k20 : ISs := (.cons (.forr (.nm 1) (.rng1 (.bin .add (.cst (.int 1)) (.pr .min2 (.cons (.slen (.var 0)) (.cons (.cst (.int 4)) .nil))))) (.cons (.asg 2 (.fn 3 (.cons (.var 0) (.cons (.var 1) .nil)))) (.cons (.par [3, 4] (.cons (.fn 2 (.cons (.var 2) (.cons (.cst (.int 99)) .nil))) (.cons (.pr .trng1 (.cons (.bin .add (.cst (.int 3)) (.fn 2 (.cons (.var 2) (.cons (.cst (.int 4)) .nil)))) .nil)) .nil))) (.cons (.asg 5 (.xcat (.fn 1 .nil) (.xlst (.cons (.xown "OddRing" (.var 4)) (.cons (.xown "TooMany" (.var 3)) .nil))))) (.cons (.forr (.nm 6) (.rng1 (.xlen (.var 5))) (.cons (.asg 7 (.xix (.var 5) (.var 6))) (.cons (.ifs (.or (.not (.xis (.var 7) "LotError")) (.not (.xis (.var 7) "ValueError"))) (.cons (.ret (.cst (.bool false))) .nil) .nil) (.cons (.ifs (.or (.cmp .ne (.fn 0 (.cons (.var 7) .nil)) (.lc [8] (.nm 8) (.rng1 (.cst (.int 15))) .no (.cmp .eq (.var 8) (.var 6)))) (.and (.cmp .lt (.var 6) (.cst (.int 13))) (.cmp .ne (.xstr (.var 7)) (.cst (.str "one"))))) (.cons (.ret (.cst (.bool false))) .nil) .nil) .nil)))) (.cons (.ifs (.or (.cmp .ne (.xarg (.xix (.var 5) (.cst (.int 13))) "ring") (.var 4)) (.cmp .ne (.xarg (.xix (.var 5) (.cst (.int 14))) "limit") (.var 3))) (.cons (.ret (.cst (.bool false))) .nil) .nil) .nil)))))) (.cons (.ret (.cmp .eq (.fn 0 (.cons (.xnew "LotError" "base") .nil)) (.bin .mul (.lst (.cons (.cst (.bool false)) .nil)) (.cst (.int 15))))) .nil))
def F_law_k20 : List W → M W := fdef (fun k => (([F__law_is, F__law_made_k20, F__law_dip, F__law_jug_of] : List (List W → M W))[k]?).getD (fun _ => M.no)) 1 9 ib_law_k20
end Qv

/-! K20g -/
set_option maxHeartbeats 0
/-! the defs of the text: what they do -/
namespace K20
open PySem PySem.Spec PyProof.Rows L2 Qv
abbrev top (i : Nat) : Stmt := PySem.Challenge.pw_quietlots_k20_error_classes.main.body.getD i (.Pass ⟨0, 0, 0, 0⟩)
theorem sc__law_jug_of : FnScope ["_law_script", "_law_k", "_law_cell"] ["_law_script", "_law_k"] (defScope (top 18)) := ⟨rfl, rfl, rfl, by decide +kernel, rfl, by decide +kernel, by decide +kernel⟩
theorem sc__law_dip : FnScope ["_law_jug", "_law_many", "_law_found", "_law_wide"] ["_law_jug", "_law_many"] (defScope (top 19)) := ⟨rfl, rfl, rfl, by decide +kernel, rfl, by decide +kernel, by decide +kernel⟩
theorem sc__law_made : FnScope ["_law_found"] [] (defScope (top 20)) := ⟨rfl, rfl, rfl, by decide +kernel, rfl, by decide +kernel, by decide +kernel⟩
theorem sc__law_is : FnScope ["_law_one", "_law_found"] ["_law_one"] (defScope (top 21)) := ⟨rfl, rfl, rfl, by decide +kernel, rfl, by decide +kernel, by decide +kernel⟩
theorem sc_law : FnScope ["_law_script", "_law_k", "_law_jug", "_law_limit", "_law_ring", "_law_every", "_law_at", "_law_one", "_law_place"] ["_law_script"] (defScope (top 22)) := ⟨rfl, rfl, rfl, by decide +kernel, rfl, by decide +kernel, by decide +kernel⟩
/-- what the heap says of the text's names -/
structure Fx (K : PySem.W.Frag) (mg : Str → Option Value) (fd : Nat → FuncData) : Prop where
  d__law_jug_of : FunD K "_law_jug_of" "_law_jug_of" (defArgs (top 18)) (defBody (top 18)) (defScope (top 18)) [] [] (He.ga K "_law_jug_of") (fd 18)
  g__law_jug_of : mg "_law_jug_of" = some (.ref (He.ga K "_law_jug_of"))
  d__law_dip : FunD K "_law_dip" "_law_dip" (defArgs (top 19)) (defBody (top 19)) (defScope (top 19)) [] [] (He.ga K "_law_dip") (fd 19)
  g__law_dip : mg "_law_dip" = some (.ref (He.ga K "_law_dip"))
  d__law_made : FunD K "_law_made" "_law_made" (defArgs (top 20)) (defBody (top 20)) (defScope (top 20)) [] [] (He.ga K "_law_made") (fd 20)
  g__law_made : mg "_law_made" = some (.ref (He.ga K "_law_made"))
  d__law_is : FunD K "_law_is" "_law_is" (defArgs (top 21)) (defBody (top 21)) (defScope (top 21)) [] [] (He.ga K "_law_is") (fd 21)
  g__law_is : mg "_law_is" = some (.ref (He.ga K "_law_is"))
  d_law : FunD K "law" "law" (defArgs (top 22)) (defBody (top 22)) (defScope (top 22)) [] [] (He.ga K "law") (fd 22)
  g_law : mg "law" = some (.ref (He.ga K "law"))
  lam : lamHere K = (["law"] : List Str)
  n_ValueError : mg "ValueError" = none
  n_abs : mg "abs" = none
  n_int : mg "int" = none
  n_isinstance : mg "isinstance" = none
  n_len : mg "len" = none
  n_min : mg "min" = none
  n_range : mg "range" = none
  n_str : mg "str" = none
  n_tuple : mg "tuple" = none
  c_InvalidColours : mg "InvalidColours" = some (.ref (He.ga K "InvalidColours"))
  x_InvalidColours : PySem.W.excIn K (He.ga K "InvalidColours") He.veBase "ValueError.__new__" = true ∧ PySem.W.keepIn K (.ref (He.ga K "InvalidColours")) = true ∧ PySem.W.subIn K (.ref (He.ga K "InvalidColours")) (.type "BaseException") = some true ∧ PySem.W.typeIn K (.ref (He.ga K "InvalidColours")) = some (.type "type")
  c_InvalidFacts : mg "InvalidFacts" = some (.ref (He.ga K "InvalidFacts"))
  x_InvalidFacts : PySem.W.excIn K (He.ga K "InvalidFacts") He.veBase "ValueError.__new__" = true ∧ PySem.W.keepIn K (.ref (He.ga K "InvalidFacts")) = true ∧ PySem.W.subIn K (.ref (He.ga K "InvalidFacts")) (.type "BaseException") = some true ∧ PySem.W.typeIn K (.ref (He.ga K "InvalidFacts")) = some (.type "type")
  c_InvalidLot : mg "InvalidLot" = some (.ref (He.ga K "InvalidLot"))
  x_InvalidLot : PySem.W.excIn K (He.ga K "InvalidLot") He.veBase "ValueError.__new__" = true ∧ PySem.W.keepIn K (.ref (He.ga K "InvalidLot")) = true ∧ PySem.W.subIn K (.ref (He.ga K "InvalidLot")) (.type "BaseException") = some true ∧ PySem.W.typeIn K (.ref (He.ga K "InvalidLot")) = some (.type "type")
  c_InvalidNumber : mg "InvalidNumber" = some (.ref (He.ga K "InvalidNumber"))
  x_InvalidNumber : PySem.W.excIn K (He.ga K "InvalidNumber") He.veBase "ValueError.__new__" = true ∧ PySem.W.keepIn K (.ref (He.ga K "InvalidNumber")) = true ∧ PySem.W.subIn K (.ref (He.ga K "InvalidNumber")) (.type "BaseException") = some true ∧ PySem.W.typeIn K (.ref (He.ga K "InvalidNumber")) = some (.type "type")
  c_InvalidPlace : mg "InvalidPlace" = some (.ref (He.ga K "InvalidPlace"))
  x_InvalidPlace : PySem.W.excIn K (He.ga K "InvalidPlace") He.veBase "ValueError.__new__" = true ∧ PySem.W.keepIn K (.ref (He.ga K "InvalidPlace")) = true ∧ PySem.W.subIn K (.ref (He.ga K "InvalidPlace")) (.type "BaseException") = some true ∧ PySem.W.typeIn K (.ref (He.ga K "InvalidPlace")) = some (.type "type")
  c_InvalidSteps : mg "InvalidSteps" = some (.ref (He.ga K "InvalidSteps"))
  x_InvalidSteps : PySem.W.excIn K (He.ga K "InvalidSteps") He.veBase "ValueError.__new__" = true ∧ PySem.W.keepIn K (.ref (He.ga K "InvalidSteps")) = true ∧ PySem.W.subIn K (.ref (He.ga K "InvalidSteps")) (.type "BaseException") = some true ∧ PySem.W.typeIn K (.ref (He.ga K "InvalidSteps")) = some (.type "type")
  c_InvalidText : mg "InvalidText" = some (.ref (He.ga K "InvalidText"))
  x_InvalidText : PySem.W.excIn K (He.ga K "InvalidText") He.veBase "ValueError.__new__" = true ∧ PySem.W.keepIn K (.ref (He.ga K "InvalidText")) = true ∧ PySem.W.subIn K (.ref (He.ga K "InvalidText")) (.type "BaseException") = some true ∧ PySem.W.typeIn K (.ref (He.ga K "InvalidText")) = some (.type "type")
  c_InvalidWay : mg "InvalidWay" = some (.ref (He.ga K "InvalidWay"))
  x_InvalidWay : PySem.W.excIn K (He.ga K "InvalidWay") He.veBase "ValueError.__new__" = true ∧ PySem.W.keepIn K (.ref (He.ga K "InvalidWay")) = true ∧ PySem.W.subIn K (.ref (He.ga K "InvalidWay")) (.type "BaseException") = some true ∧ PySem.W.typeIn K (.ref (He.ga K "InvalidWay")) = some (.type "type")
  c_InvalidWeb : mg "InvalidWeb" = some (.ref (He.ga K "InvalidWeb"))
  x_InvalidWeb : PySem.W.excIn K (He.ga K "InvalidWeb") He.veBase "ValueError.__new__" = true ∧ PySem.W.keepIn K (.ref (He.ga K "InvalidWeb")) = true ∧ PySem.W.subIn K (.ref (He.ga K "InvalidWeb")) (.type "BaseException") = some true ∧ PySem.W.typeIn K (.ref (He.ga K "InvalidWeb")) = some (.type "type")
  c_LotError : mg "LotError" = some (.ref (He.ga K "LotError"))
  x_LotError : PySem.W.excIn K (He.ga K "LotError") He.veBase "ValueError.__new__" = true ∧ PySem.W.keepIn K (.ref (He.ga K "LotError")) = true ∧ PySem.W.subIn K (.ref (He.ga K "LotError")) (.type "BaseException") = some true ∧ PySem.W.typeIn K (.ref (He.ga K "LotError")) = some (.type "type")
  c_NoLot : mg "NoLot" = some (.ref (He.ga K "NoLot"))
  x_NoLot : PySem.W.excIn K (He.ga K "NoLot") He.veBase "ValueError.__new__" = true ∧ PySem.W.keepIn K (.ref (He.ga K "NoLot")) = true ∧ PySem.W.subIn K (.ref (He.ga K "NoLot")) (.type "BaseException") = some true ∧ PySem.W.typeIn K (.ref (He.ga K "NoLot")) = some (.type "type")
  c_NothingToUndo : mg "NothingToUndo" = some (.ref (He.ga K "NothingToUndo"))
  x_NothingToUndo : PySem.W.excIn K (He.ga K "NothingToUndo") He.veBase "ValueError.__new__" = true ∧ PySem.W.keepIn K (.ref (He.ga K "NothingToUndo")) = true ∧ PySem.W.subIn K (.ref (He.ga K "NothingToUndo")) (.type "BaseException") = some true ∧ PySem.W.typeIn K (.ref (He.ga K "NothingToUndo")) = some (.type "type")
  c_Ringed : mg "Ringed" = some (.ref (He.ga K "Ringed"))
  x_Ringed : PySem.W.excIn K (He.ga K "Ringed") He.veBase "ValueError.__new__" = true ∧ PySem.W.keepIn K (.ref (He.ga K "Ringed")) = true ∧ PySem.W.subIn K (.ref (He.ga K "Ringed")) (.type "BaseException") = some true ∧ PySem.W.typeIn K (.ref (He.ga K "Ringed")) = some (.type "type")
  c_Unlike : mg "Unlike" = some (.ref (He.ga K "Unlike"))
  x_Unlike : PySem.W.excIn K (He.ga K "Unlike") He.veBase "ValueError.__new__" = true ∧ PySem.W.keepIn K (.ref (He.ga K "Unlike")) = true ∧ PySem.W.subIn K (.ref (He.ga K "Unlike")) (.type "BaseException") = some true ∧ PySem.W.typeIn K (.ref (He.ga K "Unlike")) = some (.type "type")
  c_OddRing : mg "OddRing" = some (.ref (He.ga K "OddRing"))
  o_OddRing : OexC K (He.ga K "OddRing")
  oa_OddRing : PySem.W.findIn K (.ref (He.ga K "OddRing")) "ring" = some none
  om_OddRing : Meth K (He.ga K "OddRing") "__init__" (He.ma K (He.ga K "OddRing") "__init__")
  od_OddRing : FunD K "__init__" "OddRing.__init__" (defArgs (inClass (top 15) 0)) (defBody (inClass (top 15) 0)) (defScope (inClass (top 15) 0)) [] [] (He.ma K (He.ga K "OddRing") "__init__") (fd 1000)
  c_TooMany : mg "TooMany" = some (.ref (He.ga K "TooMany"))
  o_TooMany : OexC K (He.ga K "TooMany")
  oa_TooMany : PySem.W.findIn K (.ref (He.ga K "TooMany")) "limit" = some none
  om_TooMany : Meth K (He.ga K "TooMany") "__init__" (He.ma K (He.ga K "TooMany") "__init__")
  od_TooMany : FunD K "__init__" "TooMany.__init__" (defArgs (inClass (top 16) 0)) (defBody (inClass (top 16) 0)) (defScope (inClass (top 16) 0)) [] [] (He.ma K (He.ga K "TooMany") "__init__") (fd 1001)
  lot : LotC K (He.ga K "LotError")
  xall : XAll K
section
variable {P : Program} {w : World} {K : PySem.W.Frag} {mg : Str → Option Value} {base : Heap} {fd : Nat → FuncData}
theorem sc_OddRing : FnScope ["self", "ring"] ["self", "ring"] (defScope (inClass (top 15) 0)) := ⟨rfl, rfl, rfl, by decide +kernel, rfl, by decide +kernel, by decide +kernel⟩
theorem Fx.b_OddRing (hF : Fx K mg fd) : Binds K (fd 1000) ["self", "ring"] [] := hF.od_OddRing.bindsN fun _ _ _ _ _ _ us hl => match us, hl with | [_, _], _ => rfl
theorem init_OddRing (hF : Fx K mg fd) : FnOk P w K mg base CX0 1 (He.ma K (He.ga K "OddRing") "__init__") (fd 1000) ["self", "ring"] (spInit K "ring" (okTup K)) := init_odd (fun _ => rfl) hF.od_OddRing sc_OddRing hF.c_LotError hF.n_str hF.n_len hF.lot rfl rfl rfl rfl rfl
theorem sc_TooMany : FnScope ["self", "limit"] ["self", "limit"] (defScope (inClass (top 16) 0)) := ⟨rfl, rfl, rfl, by decide +kernel, rfl, by decide +kernel, by decide +kernel⟩
theorem Fx.b_TooMany (hF : Fx K mg fd) : Binds K (fd 1001) ["self", "limit"] [] := hF.od_TooMany.bindsN fun _ _ _ _ _ _ us hl => match us, hl with | [_, _], _ => rfl
theorem init_TooMany (hF : Fx K mg fd) : FnOk P w K mg base CX0 1 (He.ma K (He.ga K "TooMany") "__init__") (fd 1001) ["self", "limit"] (spInit K "limit" okInt) := init_many (fun _ => rfl) hF.od_TooMany sc_TooMany hF.c_LotError hF.n_str hF.lot rfl rfl rfl rfl
theorem Fx.b__law_jug_of (hF : Fx K mg fd) : Binds K (fd 18) ["_law_script", "_law_k"] [] := hF.d__law_jug_of.bindsN fun _ _ _ _ _ _ us hl => match us, hl with | [_, _], _ => rfl
theorem Fx.b__law_dip (hF : Fx K mg fd) : Binds K (fd 19) ["_law_jug", "_law_many"] [] := hF.d__law_dip.bindsN fun _ _ _ _ _ _ us hl => match us, hl with | [_, _], _ => rfl
theorem Fx.b__law_made (hF : Fx K mg fd) : Binds K (fd 20) [] [] := hF.d__law_made.bindsN fun _ _ _ _ _ _ us hl => match us, hl with | [], _ => rfl
theorem Fx.b__law_is (hF : Fx K mg fd) : Binds K (fd 21) ["_law_one"] [] := hF.d__law_is.bindsN fun _ _ _ _ _ _ us hl => match us, hl with | [_], _ => rfl
theorem Fx.b_law (hF : Fx K mg fd) : Binds K (fd 22) ["_law_script"] [] := hF.d_law.bindsN fun _ _ _ _ _ _ us hl => match us, hl with | [_], _ => rfl
theorem Fx.l_law (hF : Fx K mg fd) : ("law" : Str) ∈ lamHere K := by rw [hF.lam]; decide +kernel
theorem ok__law_jug_of (hF : Fx K mg fd) : FnOk P w K mg base (L2.CX P w) (1) (He.ga K "_law_jug_of") (fd 18) ["_law_script", "_law_k"] (spF K mg F__law_jug_of 2) :=
  def_ok hF.d__law_jug_of sc__law_jug_of rfl rfl fun cdv A outer s H E hr => by
    have hN := sc__law_jug_of.nd
    have hu := huQ hr
    exact (ss_cons (s_asg 2 hN (s_bin b_add (s_bin b_mul s_int (s_var 1)) s_int)) (ss_cons (s_ifs (st_cmp (c_lt hu) (s_var 1) (s_slen rfl hF.n_len (s_var 0))) (ss_cons (s_asg 2 hN (s_bin b_mod (s_prB p_abs call_abs rfl hF.n_abs q_abs (sa_cons (s_prT p_int call_int1 rfl hF.n_int q_int (sa_cons (s_six (s_var 0) (s_var 1)) sa_nil)) sa_nil)) (s_bin b_mul (s_bin b_mul (s_bin b_mul (s_bin b_pow s_int s_int) (s_bin b_pow s_int s_int)) (s_bin b_pow s_int s_int)) (s_bin b_pow s_int s_int)))) ss_nil) (ss_cons (s_ifs (st_cmp c_gt (s_slen rfl hF.n_len (s_var 0)) s_int) (ss_cons (s_asg 2 hN (s_bin b_add (s_var 2) (s_bin b_mod (s_prB p_abs call_abs rfl hF.n_abs q_abs (sa_cons (s_prT p_int call_int1 rfl hF.n_int q_int (sa_cons (s_six (s_var 0) s_int) sa_nil)) sa_nil)) s_int))) ss_nil) ss_nil) ss_nil)) (ss_cons (s_ret (s_mls (sa_cons (s_ifx (st_cmp c_ge (s_var 2) (s_bin b_pow s_int s_int)) (s_var 2) s_int) (sa_cons (s_bin b_add (s_bin b_mod (s_prT p_int call_int1 rfl hF.n_int q_int (sa_cons (s_bin b_add (s_bin b_add (s_bin b_mul (s_bin b_mod (s_var 2) s_int) s_int) (s_bin b_mul s_int (s_var 1))) s_int) sa_nil)) s_int) s_int) sa_nil)))) ss_nil)))
theorem ok__law_dip (hF : Fx K mg fd) : FnOk P w K mg base (L2.CX P w) (1) (He.ga K "_law_dip") (fd 19) ["_law_jug", "_law_many"] (spF K mg F__law_dip 2) :=
  def_ok hF.d__law_dip sc__law_dip rfl rfl fun cdv A outer s H E hr => by
    have hN := sc__law_dip.nd
    have hu := huQ hr
    exact (ss_cons (s_ifs (st_cmp c_gt (s_ix (s_var 0) s_int) s_int) (ss_cons (s_asg 2 hN (s_bin b_mod (s_prT p_int call_int1 rfl hF.n_int q_int (sa_cons (s_ix (s_var 0) s_int) sa_nil)) (s_var 1))) (ss_cons (s_sti (s_bin b_fdiv (s_ix (s_var 0) s_int) (s_var 1)) (s_var 0) s_int) (ss_cons (s_ret (s_var 2)) ss_nil))) ss_nil) (ss_cons (s_unp (s_tup (sa_cons s_int (sa_cons s_int sa_nil))) (sg_tp2 2 3 rfl (sg_nm 2 hN) (sg_nm 3 hN))) (ss_cons (s_whl pownQ (st_w (sw_or (st_cmp (c_lt hu) (s_var 3) (s_var 1)) (sw_or1 (st_cmp (c_eq hu) (s_var 3) s_int)))) (ss_cons (s_sti (s_bin b_mod (s_prT p_int call_int1 rfl hF.n_int q_int (sa_cons (s_bin b_add (s_bin b_mul (s_ix (s_var 0) s_int) s_int) s_int) sa_nil)) s_int) (s_var 0) s_int) (ss_cons (s_asg 2 hN (s_bin b_add (s_bin b_mul (s_var 2) s_int) (s_bin b_mod (s_prT p_int call_int1 rfl hF.n_int q_int (sa_cons (s_bin b_fdiv (s_ix (s_var 0) s_int) s_int) sa_nil)) s_int))) (ss_cons (s_asg 3 hN (s_bin b_mul (s_var 3) s_int)) ss_nil)))) (ss_cons (s_ret (s_bin b_mod (s_prT p_int call_int1 rfl hF.n_int q_int (sa_cons (s_var 2) sa_nil)) (s_var 1))) ss_nil))))
theorem ok__law_made (hF : Fx K mg fd) : FnOk P w K mg base (L2.CX P w) (1) (He.ga K "_law_made") (fd 20) [] (spF K mg F__law_made_k20 0) :=
  def_ok hF.d__law_made sc__law_made rfl rfl fun cdv A outer s H E hr => by
    have hN := sc__law_made.nd
    exact (ss_cons (s_asg 0 hN (s_xlst (sa_cons (s_xnew hF.x_InvalidWeb.1 hF.c_InvalidWeb hF.x_InvalidWeb.2.1 rfl) (sa_cons (s_xnew hF.x_InvalidLot.1 hF.c_InvalidLot hF.x_InvalidLot.2.1 rfl) (sa_cons (s_xnew hF.x_InvalidPlace.1 hF.c_InvalidPlace hF.x_InvalidPlace.2.1 rfl) (sa_cons (s_xnew hF.x_InvalidWay.1 hF.c_InvalidWay hF.x_InvalidWay.2.1 rfl) (sa_cons (s_xnew hF.x_InvalidSteps.1 hF.c_InvalidSteps hF.x_InvalidSteps.2.1 rfl) sa_nil))))))) (ss_cons (s_asg 0 hN (s_xcat (s_var 0) (s_xlst (sa_cons (s_xnew hF.x_InvalidNumber.1 hF.c_InvalidNumber hF.x_InvalidNumber.2.1 rfl) (sa_cons (s_xnew hF.x_InvalidColours.1 hF.c_InvalidColours hF.x_InvalidColours.2.1 rfl) (sa_cons (s_xnew hF.x_InvalidFacts.1 hF.c_InvalidFacts hF.x_InvalidFacts.2.1 rfl) (sa_cons (s_xnew hF.x_InvalidText.1 hF.c_InvalidText hF.x_InvalidText.2.1 rfl) sa_nil))))))) (ss_cons (s_ret (s_xcat (s_var 0) (s_xlst (sa_cons (s_xnew hF.x_Unlike.1 hF.c_Unlike hF.x_Unlike.2.1 rfl) (sa_cons (s_xnew hF.x_NoLot.1 hF.c_NoLot hF.x_NoLot.2.1 rfl) (sa_cons (s_xnew hF.x_Ringed.1 hF.c_Ringed hF.x_Ringed.2.1 rfl) (sa_cons (s_xnew hF.x_NothingToUndo.1 hF.c_NothingToUndo hF.x_NothingToUndo.2.1 rfl) sa_nil))))))) ss_nil)))
theorem ok__law_is (hF : Fx K mg fd) : FnOk P w K mg base (L2.CX P w) (3) (He.ga K "_law_is") (fd 21) ["_law_one"] (spF K mg F__law_is 1) :=
  def_ok hF.d__law_is sc__law_is rfl rfl fun cdv A outer s H E hr => by
    have hN := sc__law_is.nd
    exact (ss_cons (s_asg 1 hN (s_lst (sa_cons (s_xis hF.xall (by decide) rfl hF.n_isinstance rfl hF.c_InvalidWeb (s_var 0)) (sa_cons (s_xis hF.xall (by decide) rfl hF.n_isinstance rfl hF.c_InvalidLot (s_var 0)) (sa_cons (s_xis hF.xall (by decide) rfl hF.n_isinstance rfl hF.c_InvalidPlace (s_var 0)) sa_nil))))) (ss_cons (s_asg 1 hN (s_bin b_add (s_var 1) (s_lst (sa_cons (s_xis hF.xall (by decide) rfl hF.n_isinstance rfl hF.c_InvalidWay (s_var 0)) (sa_cons (s_xis hF.xall (by decide) rfl hF.n_isinstance rfl hF.c_InvalidSteps (s_var 0)) (sa_cons (s_xis hF.xall (by decide) rfl hF.n_isinstance rfl hF.c_InvalidNumber (s_var 0)) sa_nil)))))) (ss_cons (s_asg 1 hN (s_bin b_add (s_var 1) (s_lst (sa_cons (s_xis hF.xall (by decide) rfl hF.n_isinstance rfl hF.c_InvalidColours (s_var 0)) (sa_cons (s_xis hF.xall (by decide) rfl hF.n_isinstance rfl hF.c_InvalidFacts (s_var 0)) (sa_cons (s_xis hF.xall (by decide) rfl hF.n_isinstance rfl hF.c_InvalidText (s_var 0)) sa_nil)))))) (ss_cons (s_asg 1 hN (s_bin b_add (s_var 1) (s_lst (sa_cons (s_xis hF.xall (by decide) rfl hF.n_isinstance rfl hF.c_Unlike (s_var 0)) (sa_cons (s_xis hF.xall (by decide) rfl hF.n_isinstance rfl hF.c_NoLot (s_var 0)) (sa_cons (s_xis hF.xall (by decide) rfl hF.n_isinstance rfl hF.c_Ringed (s_var 0)) sa_nil)))))) (ss_cons (s_ret (s_bin b_add (s_var 1) (s_lst (sa_cons (s_xis hF.xall (by decide) rfl hF.n_isinstance rfl hF.c_NothingToUndo (s_var 0)) (sa_cons (s_xis hF.xall (by decide) rfl hF.n_isinstance rfl hF.c_OddRing (s_var 0)) (sa_cons (s_xis hF.xall (by decide) rfl hF.n_isinstance rfl hF.c_TooMany (s_var 0)) sa_nil)))))) ss_nil)))))
theorem ok_law (hF : Fx K mg fd) (h__law_is : FnOk P w K mg base (L2.CX P w) (3) (He.ga K "_law_is") (fd 21) ["_law_one"] (spF K mg F__law_is 1)) (h__law_made : FnOk P w K mg base (L2.CX P w) (3) (He.ga K "_law_made") (fd 20) [] (spF K mg F__law_made_k20 0)) (h__law_dip : FnOk P w K mg base (L2.CX P w) (3) (He.ga K "_law_dip") (fd 19) ["_law_jug", "_law_many"] (spF K mg F__law_dip 2)) (h__law_jug_of : FnOk P w K mg base (L2.CX P w) (3) (He.ga K "_law_jug_of") (fd 18) ["_law_script", "_law_k"] (spF K mg F__law_jug_of 2)) : FnOk P w K mg base (L2.CX P w) (4) (He.ga K "law") (fd 22) ["_law_script"] (spF K mg F_law_k20 1) :=
  def_ok hF.d_law sc_law rfl rfl fun cdv A outer s H E hr => by
    have hN := sc_law.nd
    have hu := huQ hr
    exact (ss_cons (s_for pownQ rfl (si_rng1 rfl hF.n_range (s_bin b_add s_int (s_prB p_min2 (call_min2 rfl) rfl hF.n_min q_min (sa_cons (s_slen rfl hF.n_len (s_var 0)) (sa_cons s_int sa_nil))))) (sg_nm 1 hN) (ss_cons (s_asg 2 hN (s_fn (k := 3) h__law_jug_of hr rfl hF.g__law_jug_of hF.d__law_jug_of.kp hF.b__law_jug_of pxQ (sa_cons (s_var 0) (sa_cons (s_var 1) sa_nil)))) (ss_cons (s_par2 3 4 rfl hN (sa_cons (s_fn (k := 2) h__law_dip hr rfl hF.g__law_dip hF.d__law_dip.kp hF.b__law_dip pxQ (sa_cons (s_var 2) (sa_cons s_int sa_nil))) (sa_cons (s_trng1 rfl rfl hF.n_tuple rfl hF.n_range (s_bin b_add s_int (s_fn (k := 2) h__law_dip hr rfl hF.g__law_dip hF.d__law_dip.kp hF.b__law_dip pxQ (sa_cons (s_var 2) (sa_cons s_int sa_nil))))) sa_nil)) rfl) (ss_cons (s_asg 5 hN (s_xcat (s_fn0 (k := 1) h__law_made hr rfl hF.g__law_made hF.d__law_made.kp hF.b__law_made pxQ) (s_xlst (sa_cons (s_xown rfl ok_odd hF.o_OddRing hF.oa_OddRing hF.om_OddRing.at_ (beq_iff_eq.mp hF.om_OddRing.fn) (init_OddRing hF) (hr.mono (by decide)) hF.b_OddRing pass0 rfl hF.c_OddRing (s_var 4)) (sa_cons (s_xown rfl ok_many hF.o_TooMany hF.oa_TooMany hF.om_TooMany.at_ (beq_iff_eq.mp hF.om_TooMany.fn) (init_TooMany hF) (hr.mono (by decide)) hF.b_TooMany pass0 rfl hF.c_TooMany (s_var 3)) sa_nil))))) (ss_cons (s_for pownQ rfl (si_rng1 rfl hF.n_range (s_xlen rfl hF.n_len (s_var 5))) (sg_nm 6 hN) (ss_cons (s_asg 7 hN (s_xix (s_var 5) (s_var 6))) (ss_cons (s_ifs (st_w (sw_or (st_not (st_val (s_xis hF.xall (by decide) rfl hF.n_isinstance rfl hF.c_LotError (s_var 7)))) (sw_or1 (st_not (st_val (s_xisV hF.xall rfl hF.n_isinstance rfl hF.n_ValueError (s_var 7))))))) (ss_cons (s_ret s_bl) ss_nil) ss_nil) (ss_cons (s_ifs (st_w (sw_or (st_cmp (c_ne hu) (s_fn (k := 0) h__law_is hr rfl hF.g__law_is hF.d__law_is.kp hF.b__law_is pxQ (sa_cons (s_var 7) sa_nil)) (s_lcV [("_law_place", 8)] rfl hN (si_rng1 rfl hF.n_range s_int) (by kernel_rfl) (fun s H C cl fp => (sg_nm 8 hN)) (fun s H C cl fp => sv_no) (fun s H C cl fp => (s_cmp (c_eq hu) (s_var 8) (s_var 6))))) (sw_or1 (st_w (sw_and (st_cmp (c_lt hu) (s_var 6) s_int) (sw_and1 (st_cmp (c_ne hu) (s_xstr hF.xall hu rfl hF.n_str (s_var 7)) s_str))))))) (ss_cons (s_ret s_bl) ss_nil) ss_nil) ss_nil)))) (ss_cons (s_ifs (st_w (sw_or (st_cmp (c_ne hu) (s_xarg hF.xall (s_xix (s_var 5) s_int)) (s_var 4)) (sw_or1 (st_cmp (c_ne hu) (s_xarg hF.xall (s_xix (s_var 5) s_int)) (s_var 3))))) (ss_cons (s_ret s_bl) ss_nil) ss_nil) ss_nil)))))) (ss_cons (s_ret (s_cmp (c_eq hu) (s_fn (k := 0) h__law_is hr rfl hF.g__law_is hF.d__law_is.kp hF.b__law_is pxQ (sa_cons (s_xnew hF.x_LotError.1 hF.c_LotError hF.x_LotError.2.1 rfl) sa_nil)) (s_bin b_mul (s_lst (sa_cons s_bl sa_nil)) s_int))) ss_nil))
end
end K20

/-! Pu -/
set_option maxHeartbeats 0
/-! Evaluation in plain terms. -/
namespace Qv
open PySem

/-! ### the monad -/
theorem bnd_ret {α β : Type} (a : α) (f : α → M β) : (M.ret a).bnd f = f a := rfl
theorem ret_bnd {α : Type} (m : M α) : m.bnd M.ret = m := by
  funext s; unfold M.bnd M.ret
  cases m s with
  | none => rfl
  | some r => cases r <;> rfl
theorem bnd_ok {α β : Type} {m : M α} {f : α → M β} {s s' : Sto} {a : α} (h : m s = some (.ok a s')) : m.bnd f s = f a s' := by unfold M.bnd; rw [h]
theorem bnd_assoc {α β γ : Type} (m : M α) (f : α → M β) (g : β → M γ) : (m.bnd f).bnd g = m.bnd fun x => (f x).bnd g := by
  funext s; unfold M.bnd
  cases m s with
  | none => rfl
  | some r => cases r <;> rfl
theorem opt_some {α : Type} (a : α) : M.opt (some a) = M.ret a := rfl
theorem look_d (x : PyData) : look (.d x) = M.ret x := rfl
theorem asInt_d (i : Int) : asInt (.d (.int i)) = M.ret i := rfl
theorem asBool_d (b : Bool) : asBool (.d (.bool b)) = M.ret b := rfl
theorem asData_d (x : PyData) : asData (.d x) = M.ret x := rfl
theorem asScr_s (ns : List Int) : asScr (.scr ns) = M.ret ns := rfl
theorem asCell_m (k : Nat) : asCell (.m k) = M.ret k := rfl
theorem looks_nil : looks [] = M.ret [] := rfl
theorem looks_cons (x : PyData) (ws : List W) : looks (.d x :: ws) = (looks ws).bnd fun xs => M.ret (x :: xs) := rfl
theorem asDatas_nil : asDatas [] = M.ret [] := rfl
theorem asDatas_cons (x : PyData) (ws : List W) : asDatas (.d x :: ws) = (asDatas ws).bnd fun xs => M.ret (x :: xs) := rfl
theorem srcOf_l (ds : List PyData) : srcOf (.d (.list ds)) = M.ret (.cst ds) := rfl
theorem srcOf_t (ds : List PyData) : srcOf (.d (.tuple ds)) = M.ret (.cst ds) := rfl
theorem srcOf_m (k : Nat) : srcOf (.m k) = M.ret (.cel k) := rfl
theorem bnd_ite {α β : Type} (c : Prop) [Decidable c] (a b : M α) (f : α → M β) : (if c then a else b).bnd f = if c then a.bnd f else b.bnd f := by split <;> rfl
theorem ite_and (p q : Bool) : (if p = true then M.ret (W.d (.bool q)) else M.ret (W.d (.bool false))) = M.ret (W.d (.bool (p && q))) := by cases p <;> rfl
theorem ite_or (p q : Bool) : (if p = true then M.ret (W.d (.bool true)) else M.ret (W.d (.bool q))) = M.ret (W.d (.bool (p || q))) := by cases p <;> rfl
theorem ite_ret {α : Type} (p : Bool) (x y : α) : (if p = true then M.ret x else M.ret y) = M.ret (if p = true then x else y) := by cases p <;> rfl
theorem bnd_no {α β : Type} (f : α → M β) : (M.no : M α).bnd f = M.no := rfl
theorem outW_ret (w : W) : outW (.ret w) = M.ret w := rfl
theorem outW_nx (ρ : Env) : outW (.nx ρ) = M.ret (.d .none) := rfl
/-- a body that returns an expression -/
theorem body_ret (Γ : Fns) (e : IE) (ρ : Env) (r : ISs) : (execs Γ (.cons (.ret e) r) ρ).bnd outW = ev Γ e ρ := by
  show ((((ev Γ e ρ).bnd fun w => M.ret (Out.ret w)).bnd _).bnd outW) = _
  rw [bnd_assoc, bnd_assoc]
  exact ret_bnd _
theorem fdef_eq {Γ : Fns} {p n : Nat} {b : ISs} {ws : List W} (h : ws.length = p) : fdef Γ p n b ws = (execs Γ b (start n ws)).bnd outW := if_pos h

def varW : Option (Option W) → M W
  | some (some w) => M.ret w
  | _ => M.no
theorem varW_some (w : W) : varW (some (some w)) = M.ret w := rfl
/-! each construct -/
section
variable {Γ : Fns} {ρ : Env}
theorem ev_var {i : Nat} : ev Γ (.var i) ρ = varW ρ[i]? := by
  simp only [ev]
  cases ρ[i]? with
  | none => rfl
  | some o => cases o <;> rfl
theorem ev_cst {d : PyData} : ev Γ (.cst d) ρ = (M.ret (.d d) : M W) := by simp only [ev]
theorem ev_tup {es : IEs} : ev Γ (.tup es) ρ = ((evs Γ es ρ).bnd fun ws => (asDatas ws).bnd fun ds => M.ret (.d (.tuple ds)) : M W) := by simp only [ev]
theorem ev_lst {es : IEs} : ev Γ (.lst es) ρ = ((evs Γ es ρ).bnd fun ws => (asDatas ws).bnd fun ds => M.ret (.d (.list ds)) : M W) := by simp only [ev]
theorem ev_mls {es : IEs} : ev Γ (.mls es) ρ = ((evs Γ es ρ).bnd fun ws => (asDatas ws).bnd fun ds => newCell ds : M W) := by simp only [ev]
theorem ev_neg {a : IE} : ev Γ (.neg a) ρ = ((ev Γ a ρ).bnd fun w => (asInt w).bnd fun i => M.ret (.d (.int (-i))) : M W) := by simp only [ev]
theorem ev_bin {o : Bop} {a b : IE} : ev Γ (.bin o a b) ρ = ((ev Γ a ρ).bnd fun x => (ev Γ b ρ).bnd fun y => (look x).bnd fun dx => (look y).bnd fun dy => (M.opt (bop o dx dy)).bnd fun d => M.ret (.d d) : M W) := by simp only [ev]
theorem ev_cmp {o : Cop} {a b : IE} : ev Γ (.cmp o a b) ρ = ((ev Γ a ρ).bnd fun x => (ev Γ b ρ).bnd fun y => (look x).bnd fun dx => (look y).bnd fun dy => (M.opt (cop o dx dy)).bnd fun d => M.ret (.d (.bool d)) : M W) := by simp only [ev]
theorem ev_chn {o p : Cop} {a b c : IE} : ev Γ (.chn o p a b c) ρ = ((ev Γ a ρ).bnd fun x => (ev Γ b ρ).bnd fun y => (look x).bnd fun dx => (look y).bnd fun dy => (M.opt (cop o dx dy)).bnd fun r =>
      if r = true then (ev Γ c ρ).bnd fun z => (look y).bnd fun dy => (look z).bnd fun dz => (M.opt (cop p dy dz)).bnd fun d => M.ret (.d (.bool d)) else M.ret (.d (.bool false)) : M W) := by simp only [ev]
theorem ev_and {a b : IE} : ev Γ (.and a b) ρ = ((ev Γ a ρ).bnd fun w => (asBool w).bnd fun t => if t = true then ev Γ b ρ else M.ret (.d (.bool false)) : M W) := by simp only [ev]
theorem ev_or {a b : IE} : ev Γ (.or a b) ρ = ((ev Γ a ρ).bnd fun w => (asBool w).bnd fun t => if t = true then M.ret (.d (.bool true)) else ev Γ b ρ : M W) := by simp only [ev]
theorem ev_not {a : IE} : ev Γ (.not a) ρ = ((ev Γ a ρ).bnd fun w => (asBool w).bnd fun t => M.ret (.d (.bool (!t))) : M W) := by simp only [ev]
theorem ev_ifx {t a b : IE} : ev Γ (.ifx t a b) ρ = ((ev Γ t ρ).bnd fun w => (asBool w).bnd fun t => if t = true then ev Γ a ρ else ev Γ b ρ : M W) := by simp only [ev]
theorem ev_ix {a i : IE} : ev Γ (.ix a i) ρ = ((ev Γ a ρ).bnd fun x => (ev Γ i ρ).bnd fun y => (look x).bnd fun dx => (asData y).bnd fun dy => (M.opt (ixD dx dy)).bnd fun d => M.ret (.d d) : M W) := by simp only [ev]
theorem ev_sl {a : IE} {lo hi : IO} : ev Γ (.sl a lo hi) ρ = ((ev Γ a ρ).bnd fun x => (evo Γ lo ρ).bnd fun l => (evo Γ hi ρ).bnd fun h => (look x).bnd fun dx => (M.opt (slD l h dx)).bnd fun d => M.ret (.d d) : M W) := by simp only [ev]
theorem ev_slen {a : IE} : ev Γ (.slen a) ρ = ((ev Γ a ρ).bnd fun x => (asScr x).bnd fun ns => M.ret (.d (.int ns.length)) : M W) := by simp only [ev]
theorem ev_six {a i : IE} : ev Γ (.six a i) ρ = ((ev Γ a ρ).bnd fun x => (asScr x).bnd fun ns => (ev Γ i ρ).bnd fun y => (asInt y).bnd fun j => (M.opt (atL ns j)).bnd fun n => M.ret (.d (.int n)) : M W) := by simp only [ev]
theorem ev_fn {k : Nat} {es : IEs} : ev Γ (.fn k es) ρ = ((evs Γ es ρ).bnd fun ws => Γ k ws : M W) := by simp only [ev]
theorem ev_pr {p : Prim} {es : IEs} : ev Γ (.pr p es) ρ = ((evs Γ es ρ).bnd fun ws => (looks ws).bnd fun ds => (M.opt (prim p ds)).bnd fun d => M.ret (.d d) : M W) := by simp only [ev]
end
/-! ### total evaluation: m answers, and Q holds of answer and store -/
def Wp {α : Type} (m : M α) (s : Sto) (Q : α → Sto → Prop) : Prop := ∃ a s', m s = some (.ok a s') ∧ Q a s'
theorem Wp.ret {α : Type} {a : α} {s : Sto} {Q : α → Sto → Prop} (h : Q a s) : Wp (M.ret a) s Q := ⟨a, s, rfl, h⟩
theorem Wp.bnd {α β : Type} {m : M α} {f : α → M β} {s : Sto} {Q : β → Sto → Prop} (h : Wp m s fun a s' => Wp (f a) s' Q) : Wp (m.bnd f) s Q := by
  obtain ⟨a, s1, e1, b, s2, e2, q⟩ := h
  refine ⟨b, s2, ?_, q⟩
  unfold M.bnd
  rw [e1]; exact e2
theorem Wp.imp {α : Type} {m : M α} {s : Sto} {Q R : α → Sto → Prop} (h : Wp m s Q) (hi : ∀ a s', Q a s' → R a s') : Wp m s R := by
  obtain ⟨a, s1, e1, q⟩ := h
  exact ⟨a, s1, e1, hi _ _ q⟩
theorem Wp.eq {α : Type} {m m' : M α} {s : Sto} {Q : α → Sto → Prop} (e : m = m') (h : Wp m' s Q) : Wp m s Q := by rw [e]; exact h

/-! ### comprehensions without a change of the store -/
theorem lcLoop_pure {f : PyData → M (Option PyData)} {g : PyData → Option PyData} : ∀ (ds pre : List PyData) (acc : List PyData) (s : Sto), (∀ x ∈ ds, f x = M.ret (g x)) → acc.length + ds.length ≤ line →
    lcLoop (.cst (pre ++ ds)) f (ds.length + 1) pre.length acc s = some (.ok (acc ++ ds.filterMap g) s)
  | [], pre, acc, s, _, _ => by
    unfold lcLoop
    have e : Src.at (.cst (pre ++ [])) pre.length s = some none := by simp [Src.at]
    rw [e]; simp
  | x :: ds, pre, acc, s, h, hl => by
    unfold lcLoop
    have e : Src.at (.cst (pre ++ x :: ds)) pre.length s = some (some x) := by simp [Src.at]
    rw [e]
    dsimp only
    rw [h x List.mem_cons_self]
    have hp : pre ++ x :: ds = (pre ++ [x]) ++ ds := by simp
    have hn : pre.length + 1 = (pre ++ [x]).length := by simp
    simp only [List.length_cons] at hl
    cases hg : g x with
    | none =>
      dsimp only [M.ret]
      rw [hp, hn, List.length_cons, lcLoop_pure ds (pre ++ [x]) acc s (fun y hy => h y (List.mem_cons_of_mem _ hy)) (by omega), List.filterMap_cons_none hg]
    | some y =>
      dsimp only [M.ret]
      rw [if_pos (by omega), hp, hn, List.length_cons, lcLoop_pure ds (pre ++ [x]) (acc ++ [y]) s (fun y hy => h y (List.mem_cons_of_mem _ hy)) (by simp; omega), List.filterMap_cons_some hg]
      simp
theorem filterMap_fm {α : Type} (xs : List α) (en : α → PyData) (p : α → Bool) (g : α → PyData) (G : PyData → Option PyData) (h : ∀ x ∈ xs, G (en x) = if p x = true then some (g x) else none) : (xs.map en).filterMap G = (xs.filter p).map g := by
  induction xs with
  | nil => rfl
  | cons x xs ih =>
    have hx := h x List.mem_cons_self
    have ih := ih fun y hy => h y (List.mem_cons_of_mem _ hy)
    rw [List.map_cons]
    cases hp : p x with
    | true => rw [hp, if_pos rfl] at hx; rw [List.filterMap_cons_some hx, ih, List.filter_cons_of_pos hp, List.map_cons]
    | false => rw [hp, if_neg Bool.false_ne_true] at hx; rw [List.filterMap_cons_none hx, ih, List.filter_cons_of_neg (by simp [hp])]
theorem lcLoop_typed {α : Type} (xs : List α) (en : α → PyData) (p : α → Bool) (g : α → PyData) (f : PyData → M (Option PyData)) (h : ∀ x ∈ xs, f (en x) = if p x = true then M.ret (some (g x)) else M.ret none) : ∀ (pre : List PyData) (acc : List PyData) (s : Sto), acc.length + xs.length ≤ line →
    lcLoop (.cst (pre ++ xs.map en)) f (xs.length + 1) pre.length acc s = some (.ok (acc ++ (xs.filter p).map g) s) := by
  induction xs with
  | nil =>
    intro pre acc s _
    unfold lcLoop
    have e : Src.at (.cst (pre ++ [])) pre.length s = some none := by simp [Src.at]
    simp only [List.map_nil, e]; simp
  | cons x xs ih =>
    intro pre acc s hl
    have hx := h x List.mem_cons_self
    have ih := ih fun y hy => h y (List.mem_cons_of_mem _ hy)
    unfold lcLoop
    have e : Src.at (.cst (pre ++ (x :: xs).map en)) pre.length s = some (some (en x)) := by simp [Src.at]
    rw [e]
    dsimp only
    rw [hx]
    have hp : pre ++ (x :: xs).map en = (pre ++ [en x]) ++ xs.map en := by simp
    have hn : pre.length + 1 = (pre ++ [en x]).length := by simp
    simp only [List.length_cons] at hl ⊢
    cases hp2 : p x with
    | true =>
      simp only [if_true, M.ret]
      rw [if_pos (by omega), hp, hn, ih (pre ++ [en x]) (acc ++ [g x]) s (by simp; omega), List.filter_cons_of_pos hp2]
      simp
    | false =>
      simp only [Bool.false_eq_true, if_false, M.ret]
      rw [hp, hn, ih (pre ++ [en x]) acc s (by omega), List.filter_cons_of_neg (by simp [hp2])]
theorem ev_lc {α : Type} {Γ : Fns} {own : List Nat} {tg : Tg} {it : IT} {t : IO} {e : IE} {ρ : Env} (xs : List α) (en : α → PyData) (ρ' : α → Env) (p : α → Bool) (g : α → PyData)
    (h0 : evi Γ it ρ = M.ret (.cst (xs.map en))) (hl : xs.length ≤ line) (h1 : ∀ x ∈ xs, put tg (en x) (wipe ρ own) = some (ρ' x)) (h2 : ∀ x ∈ xs, evt Γ t (ρ' x) = M.ret (p x)) (h3 : ∀ x ∈ xs, p x = true → ev Γ e (ρ' x) = M.ret (.d (g x))) :
    ev Γ (.lc own tg it t e) ρ = M.ret (.d (.list ((xs.filter p).map g))) := by
  simp only [ev]
  rw [h0, bnd_ret]
  funext s
  have hn : Src.len (.cst (xs.map en)) s + 1 = xs.length + 1 := by simp [Src.len]
  rw [hn]
  have q := lcLoop_typed xs en p g (fun x => (M.opt (put tg x (wipe ρ own))).bnd fun ρ' => (evt Γ t ρ').bnd fun b => if b = true then (ev Γ e ρ').bnd fun w => (asData w).bnd fun y => M.ret (some y) else M.ret none) (fun x hx => by
    rw [h1 x hx, opt_some, bnd_ret, h2 x hx, bnd_ret]
    cases hp : p x with
    | true => rw [if_pos rfl, if_pos rfl, h3 x hx hp, bnd_ret, asData_d, bnd_ret]
    | false => rw [if_neg Bool.false_ne_true, if_neg Bool.false_ne_true]) [] [] s (by simpa using hl)
  simp only [List.nil_append, List.length_nil] at q
  exact bnd_ok q
/-- without a test -/
theorem ev_lm {α : Type} {Γ : Fns} {own : List Nat} {tg : Tg} {it : IT} {e : IE} {ρ : Env} (xs : List α) (en : α → PyData) (ρ' : α → Env) (g : α → PyData)
    (h0 : evi Γ it ρ = M.ret (.cst (xs.map en))) (hl : xs.length ≤ line) (h1 : ∀ x ∈ xs, put tg (en x) (wipe ρ own) = some (ρ' x)) (h3 : ∀ x ∈ xs, ev Γ e (ρ' x) = M.ret (.d (g x))) :
    ev Γ (.lc own tg it .no e) ρ = M.ret (.d (.list (xs.map g))) := by
  rw [ev_lc xs en ρ' (fun _ => true) g h0 hl h1 (fun _ _ => by simp only [evt]) (fun x hx _ => h3 x hx), List.filter_eq_self.mpr (by simp)]

/-! ### data -/
theorem shaped_iff {d : PyData} : SeqAt.shaped d = true ↔ d.canLay0 = true ∧ d.depth ≤ 64 := by unfold SeqAt.shaped; simp
/-- typed data: laid, shallow, told apart -/
class Enc (α : Type) where
  en : α → PyData
  dp : Nat
  lay : ∀ a, (en a).canLay0 = true
  dep : ∀ a, (en a).depth ≤ dp
  inj : ∀ a b, PyData.eqv (en a) (en b) = true ↔ a = b
open Enc
theorem canLayAll_map {α : Type} (f : α → PyData) (h : ∀ a, (f a).canLay0 = true) : ∀ l : List α, PyData.canLayAll0 (l.map f) = true
  | [] => rfl
  | a :: l => by simp [PyData.canLayAll0, h a, canLayAll_map f h l]
theorem depthAll_map {α : Type} (f : α → PyData) (d : Nat) (h : ∀ a, (f a).depth ≤ d) : ∀ l : List α, PyData.depthAll (l.map f) ≤ d
  | [] => by simp [PyData.depthAll]
  | a :: l => by simp only [List.map_cons, PyData.depthAll]; have := h a; have := depthAll_map f d h l; omega
theorem eqvAll_map {α : Type} (f : α → PyData) (h : ∀ a b, PyData.eqv (f a) (f b) = true ↔ a = b) : ∀ l m : List α, PyData.eqvAll (l.map f) (m.map f) = true ↔ l = m
  | [], [] => by simp [PyData.eqvAll]
  | [], b :: m => by simp [PyData.eqvAll]
  | a :: l, [] => by simp [PyData.eqvAll]
  | a :: l, b :: m => by simp [PyData.eqvAll, h a b, eqvAll_map f h l m]
abbrev enN (i : Nat) : PyData := .int (i : Int)
instance : Enc Nat where
  en := enN
  dp := 0
  lay := fun a => by simp [PyData.canLay0]
  dep := fun a => by simp [PyData.depth]
  inj := fun a b => by simp only [PyData.eqv, beq_iff_eq]; omega
instance : Enc Int where
  en := .int
  dp := 0
  lay := fun a => by simp [PyData.canLay0]
  dep := fun a => by simp [PyData.depth]
  inj := fun a b => by simp [PyData.eqv]
instance : Enc Bool where
  en := .bool
  dp := 0
  lay := fun a => by simp [PyData.canLay0]
  dep := fun a => by simp [PyData.depth]
  inj := fun a b => by simp [PyData.eqv]
instance {α β : Type} [Enc α] [Enc β] : Enc (α × β) where
  en := fun p => .tuple [en p.1, en p.2]
  dp := max (dp α) (dp β) + 1
  lay := fun a => by simp [PyData.canLay0, PyData.canLayAll0, lay]
  dep := fun a => by
    have h1 := dep a.1
    have h2 := dep a.2
    simp only [PyData.depth, PyData.depthAll]; omega
  inj := fun a b => by
    simp only [PyData.eqv, PyData.eqvAll, Bool.and_eq_true, inj, Bool.and_true]
    exact ⟨fun h => Prod.ext h.1 h.2, fun h => by subst h; exact ⟨rfl, rfl⟩⟩
/-- a list is told as a tuple -/
instance {α : Type} [Enc α] : Enc (List α) where
  en := fun l => .tuple (l.map en)
  dp := dp α + 1
  lay := fun l => by simp only [PyData.canLay0]; exact canLayAll_map en lay l
  dep := fun l => by
    have := depthAll_map en (dp α) dep l
    simp only [PyData.depth]; omega
  inj := fun a b => by simp only [PyData.eqv]; exact eqvAll_map en inj a b
abbrev ls {α : Type} [Enc α] (l : List α) : PyData := .list (l.map en)
theorem shaped_en {α : Type} [Enc α] (a : α) (h : dp α ≤ 62) : SeqAt.shaped (en a) = true := shaped_iff.mpr ⟨lay a, Nat.le_trans (dep a) (by omega)⟩
theorem shaped_ls {α : Type} [Enc α] (l : List α) (h : dp α ≤ 62) : SeqAt.shaped (ls l) = true := shaped_iff.mpr ⟨by simp only [PyData.canLay0]; exact canLayAll_map en lay l, by
  have := depthAll_map en (dp α) dep l
  simp only [PyData.depth]; omega⟩
theorem eqv_en {α : Type} [Enc α] (a b : α) [Decidable (a = b)] : PyData.eqv (en a) (en b) = decide (a = b) := by
  rw [Bool.eq_iff_iff]; simp [inj]
theorem eqD_en {α : Type} [Enc α] (a b : α) [Decidable (a = b)] (h : dp α ≤ 62 := by decide) : eqD (en a) (en b) = some (decide (a = b)) := by
  unfold eqD; rw [if_pos ⟨shaped_en a h, shaped_en b h⟩, eqv_en]
theorem eqD_ls {α : Type} [Enc α] (a b : List α) [Decidable (a = b)] (h : dp α ≤ 62 := by decide) : eqD (ls a) (ls b) = some (decide (a = b)) := by
  unfold eqD; rw [if_pos ⟨shaped_ls a h, shaped_ls b h⟩]
  congr 1
  rw [Bool.eq_iff_iff]; simp only [PyData.eqv, decide_eq_true_eq]; exact eqvAll_map en inj a b
theorem any_en {α : Type} [Enc α] (a : α) (l : List α) [Decidable (a ∈ l)] : ((l.map en).any fun z => PyData.eqv z (en a)) = decide (a ∈ l) := by
  rw [Bool.eq_iff_iff]
  simp only [List.any_eq_true, List.mem_map, decide_eq_true_eq]
  constructor
  · rintro ⟨x, ⟨y, hy, rfl⟩, h⟩
    rw [inj] at h; subst h; exact hy
  · exact fun h => ⟨en a, ⟨a, h, rfl⟩, by rw [inj]⟩
theorem inD_tp {α : Type} [Enc α] (a : α) (l : List α) [Decidable (a ∈ l)] (h : dp α ≤ 61 := by decide) : inD (en a) (.tuple (l.map en)) = some (decide (a ∈ l)) := by
  have h2 : SeqAt.shaped (.tuple (l.map en)) = true := shaped_en l (by show dp α + 1 ≤ 62; omega)
  show (if SeqAt.shaped (en a) = true ∧ SeqAt.shaped (.tuple (l.map en)) = true then some ((l.map en).any fun z => PyData.eqv z (en a)) else none) = _
  rw [if_pos ⟨shaped_en a (by omega), h2⟩, any_en]
theorem inD_ls {α : Type} [Enc α] (a : α) (l : List α) [Decidable (a ∈ l)] (h : dp α ≤ 61 := by decide) : inD (en a) (ls l) = some (decide (a ∈ l)) := by
  show (if SeqAt.shaped (en a) = true ∧ SeqAt.shaped (ls l) = true then some ((l.map en).any fun z => PyData.eqv z (en a)) else none) = _
  rw [if_pos ⟨shaped_en a (by omega), shaped_ls l (by omega)⟩, any_en]
/-! raw forms -/
theorem eqD_I (a b : Int) : eqD (.int a) (.int b) = some (decide (a = b)) := eqD_en a b
theorem eqD_LL {α : Type} [Enc α] (a b : List α) [Decidable (a = b)] (h : dp α ≤ 62 := by decide) : eqD (.list (a.map en)) (.list (b.map en)) = some (decide (a = b)) := eqD_ls a b h
theorem eqD_L0 {α : Type} [Enc α] (a : List α) [Decidable (a = [])] (h : dp α ≤ 62 := by decide) : eqD (.list (a.map en)) (.list []) = some (decide (a = [])) := eqD_ls a [] h
theorem eqD_TT {α : Type} [Enc α] (a b : List α) [Decidable (a = b)] (h : dp α ≤ 61 := by decide) : eqD (.tuple (a.map en)) (.tuple (b.map en)) = some (decide (a = b)) := eqD_en (α := List α) a b (Nat.succ_le_succ h)
theorem eqD_T0 {α : Type} [Enc α] (a : List α) [Decidable (a = [])] (h : dp α ≤ 61 := by decide) : eqD (.tuple (a.map en)) (.tuple []) = some (decide (a = [])) := eqD_en (α := List α) a [] (Nat.succ_le_succ h)
theorem inD_nT (a : Nat) (l : List Nat) [Decidable (a ∈ l)] : inD (.int (a : Int)) (.tuple (l.map en)) = some (decide (a ∈ l)) := inD_tp a l
theorem inD_nL (a : Nat) (l : List Nat) [Decidable (a ∈ l)] : inD (.int (a : Int)) (.list (l.map en)) = some (decide (a ∈ l)) := inD_ls a l
theorem inD_pT (a b : Nat) (l : List (Nat × Nat)) [Decidable ((a, b) ∈ l)] : inD (.tuple [.int (a : Int), .int (b : Int)]) (.tuple (l.map en)) = some (decide ((a, b) ∈ l)) := inD_tp (a, b) l
theorem inD_TL (a : List Nat) (l : List (List Nat)) [Decidable (a ∈ l)] : inD (.tuple (a.map en)) (.list (l.map en)) = some (decide (a ∈ l)) := inD_ls a l
theorem inD_TT (a : List Nat) (l : List (List Nat)) [Decidable (a ∈ l)] : inD (.tuple (a.map en)) (.tuple (l.map en)) = some (decide (a ∈ l)) := inD_tp a l
theorem en_pr {α β : Type} [Enc α] [Enc β] (p : α × β) : en p = .tuple [en p.1, en p.2] := rfl
theorem en_ls {α : Type} [Enc α] (l : List α) : en l = .tuple (l.map en) := rfl
theorem en_n (a : Nat) : en a = .int (a : Int) := rfl
theorem len_tp {α : Type} (f : α → PyData) (l : List α) : pLen [.tuple (l.map f)] = some (.int (l.length : Int)) := by simp [pLen]
theorem len_ls {α : Type} (f : α → PyData) (l : List α) : pLen [.list (l.map f)] = some (.int (l.length : Int)) := by simp [pLen]
theorem atL_nat {α : Type} (l : List α) (i : Nat) (h : i < l.length) : atL l (i : Int) = some l[i] := by
  unfold atL place
  rw [if_pos (by omega), if_pos (by omega)]
  simp [h]
theorem atL_mapf {α β : Type} (f : α → β) (l : List α) (i : Int) : atL (l.map f) i = (atL l i).map f := by
  unfold atL
  rw [List.length_map]
  cases place l.length i with
  | none => rfl
  | some j => simp
/-- l[-1] -/
theorem atL_last {α : Type} (l : List α) (h : l ≠ []) : atL l (-1) = some (l.getLast h) := by
  have hl : 0 < l.length := List.length_pos_iff.mpr h
  unfold atL place
  rw [if_neg (by omega), if_pos (by omega)]
  have e : (-1 + (l.length : Int)).toNat = l.length - 1 := by omega
  dsimp only
  rw [e, List.getLast_eq_getElem]
  simp
theorem add_ll {α : Type} (f : α → PyData) (a b : List α) (h : a.length + b.length ≤ line) : bop .add (.list (a.map f)) (.list (b.map f)) = some (.list ((a ++ b).map f)) := by
  simp only [bop, List.length_map]; rw [if_pos h, List.map_append]
theorem add_tt {α : Type} (f : α → PyData) (a b : List α) (h : a.length + b.length ≤ line) : bop .add (.tuple (a.map f)) (.tuple (b.map f)) = some (.tuple ((a ++ b).map f)) := by
  simp only [bop, List.length_map]; rw [if_pos h, List.map_append]
theorem rngL_nat (n : Nat) : rngL 0 n = (List.range n).map en := by
  unfold rngL; apply List.map_congr_left; intro i _; show _ = PyData.int (i : Int); simp
theorem rngL_from (a n : Nat) : rngL (a : Int) n = (List.range' a n).map en := by
  unfold rngL; rw [List.range'_eq_map_range, List.map_map]; apply List.map_congr_left; intro i _; show _ = PyData.int ((a + i : Nat) : Int); simp
theorem rngOk_small {a b : Int} (h1 : -1000000 ≤ a) (h2 : a ≤ 1000000) (h3 : -1000000 ≤ b) (h4 : b ≤ 1000000) : rngOk a b := by unfold rngOk; omega
end Qv

/-! Wx -/
set_option maxHeartbeats 0
/-! Total evaluation of statements, by rules. -/
namespace Qv
open PySem
abbrev Wx (Γ : Fns) (b : ISs) (ρ : Env) (s : Sto) (Q : Out → Sto → Prop) : Prop := Wp (execs Γ b ρ) s Q
/-- what is asked of a statement's outcome, r behind it -/
def Thn (Γ : Fns) (r : ISs) (Q : Out → Sto → Prop) : Out → Sto → Prop := fun o s => match o with
  | .nx ρ => Wx Γ r ρ s Q
  | .ret w => Q (.ret w) s
  | .bk ρ => Q (.bk ρ) s
  | .ct ρ => Q (.ct ρ) s
section
variable {Γ : Fns} {r a b : ISs} {st : IS} {ρ ρ' : Env} {s : Sto} {Q : Out → Sto → Prop} {e t : IE} {w : W} {i k : Nat}
theorem wx_cons (h : Wp (exec Γ st ρ) s (Thn Γ r Q)) : Wx Γ (.cons st r) ρ s Q := by
  show Wp ((exec Γ st ρ).bnd _) s Q
  refine Wp.bnd (h.imp fun o s' q => ?_)
  cases o with
  | nx ρ => exact q
  | ret w => exact Wp.ret q
  | bk ρ => exact Wp.ret q
  | ct ρ => exact Wp.ret q
theorem wx_nil (h : Q (.nx ρ) s) : Wx Γ .nil ρ s Q := Wp.ret h
theorem wx_retW (h : Wp (ev Γ e ρ) s fun w s' => Q (.ret w) s') : Wx Γ (.cons (.ret e) r) ρ s Q := wx_cons (Wp.bnd (h.imp fun w s' q => Wp.ret q))
theorem wx_ret (w : W) (h : ev Γ e ρ = M.ret w) (q : Q (.ret w) s) : Wx Γ (.cons (.ret e) r) ρ s Q := wx_retW (Wp.eq h (Wp.ret q))
theorem wx_retN (q : Q (.ret (.d .none)) s) : Wx Γ (.cons .retN r) ρ s Q := wx_cons (Wp.ret q)
theorem wx_asgW (h : Wp (ev Γ e ρ) s fun w s' => Wx Γ r (ρ.set i (some w)) s' Q) : Wx Γ (.cons (.asg i e) r) ρ s Q := wx_cons (Wp.bnd (h.imp fun w s' q => Wp.ret q))
theorem wx_asg (w : W) (h : ev Γ e ρ = M.ret w) (q : Wx Γ r (ρ.set i (some w)) s Q) : Wx Γ (.cons (.asg i e) r) ρ s Q := wx_asgW (Wp.eq h (Wp.ret q))
theorem wx_parW {is : List Nat} {es : IEs} (h : Wp (evs Γ es ρ) s fun ws s' => ∃ ρ', putAll is ws ρ = some ρ' ∧ Wx Γ r ρ' s' Q) : Wx Γ (.cons (.par is es) r) ρ s Q := wx_cons (Wp.bnd (h.imp fun ws s' ⟨ρ', e, q⟩ => by
  rw [e]; exact Wp.bnd (Wp.ret (Wp.ret q))))
theorem wx_par {is : List Nat} {es : IEs} (ws : List W) (h : evs Γ es ρ = M.ret ws) (hp : putAll is ws ρ = some ρ') (q : Wx Γ r ρ' s Q) : Wx Γ (.cons (.par is es) r) ρ s Q := wx_parW (Wp.eq h (Wp.ret ⟨ρ', hp, q⟩))
theorem wx_unp {g : Tg} (d : PyData) (h : ev Γ e ρ = M.ret (.d d)) (hp : put g d ρ = some ρ') (q : Wx Γ r ρ' s Q) : Wx Γ (.cons (.unp g e) r) ρ s Q := by
  refine wx_cons (Wp.bnd (Wp.eq h (Wp.ret ?_)))
  rw [asData_d, bnd_ret, hp]
  exact Wp.ret q
theorem wx_if (c : Bool) (h : ev Γ t ρ = M.ret (.d (.bool c))) (q : Wx Γ (if c = true then a else b) ρ s (Thn Γ r Q)) : Wx Γ (.cons (.ifs t a b) r) ρ s Q := by
  refine wx_cons (Wp.bnd (Wp.eq h (Wp.ret ?_)))
  rw [asBool_d, bnd_ret]
  cases c <;> exact q
theorem wx_ifT (h : ev Γ t ρ = M.ret (.d (.bool true))) (q : Wx Γ a ρ s (Thn Γ r Q)) : Wx Γ (.cons (.ifs t a b) r) ρ s Q := wx_if true h q
theorem wx_ifF (h : ev Γ t ρ = M.ret (.d (.bool false))) (q : Wx Γ b ρ s (Thn Γ r Q)) : Wx Γ (.cons (.ifs t a b) r) ρ s Q := wx_if false h q
theorem wx_ifF0 (h : ev Γ t ρ = M.ret (.d (.bool false))) (q : Wx Γ r ρ s Q) : Wx Γ (.cons (.ifs t a .nil) r) ρ s Q := wx_if false h (wx_nil q)
theorem wx_ifW (h : Wp (ev Γ t ρ) s fun w s' => ∃ c, w = .d (.bool c) ∧ Wx Γ (if c = true then a else b) ρ s' (Thn Γ r Q)) : Wx Γ (.cons (.ifs t a b) r) ρ s Q := by
  refine wx_cons (Wp.bnd (h.imp ?_))
  rintro w s' ⟨c, rfl, q⟩
  rw [asBool_d, bnd_ret]
  cases c <;> exact q
theorem wx_ex (h : Wp (ev Γ e ρ) s fun _ s' => Wx Γ r ρ s' Q) : Wx Γ (.cons (.ex e) r) ρ s Q := wx_cons (Wp.bnd (h.imp fun _ _ q => Wp.ret q))
/-- one turn done -/
def Trn (I : Env → Sto → Prop) (Q : Out → Sto → Prop) : Out → Sto → Prop := fun o s => match o with
  | .nx ρ => I ρ s
  | .ct ρ => I ρ s
  | .bk ρ => Q (.nx ρ) s
  | .ret w => Q (.ret w) s
theorem forLoop_wp {g : Tg} {f : Env → M Out} (I : Nat → Env → Sto → Prop) : ∀ (ds pre : List PyData) (ρ : Env) (s : Sto), I pre.length ρ s →
    (∀ i x, (pre ++ ds)[i]? = some x → ∀ ρ s, I i ρ s → ∃ ρ1, put g x ρ = some ρ1 ∧ Wp (f ρ1) s (Trn (I (i + 1)) Q)) → (∀ ρ s, I (pre ++ ds).length ρ s → Q (.nx ρ) s) → Wp (forLoop (.cst (pre ++ ds)) g f (ds.length + 1) pre.length ρ) s Q
  | [], pre, ρ, s, h0, _, hend => by
    refine ⟨.nx ρ, s, ?_, hend ρ s (by simpa using h0)⟩
    unfold forLoop
    have e : Src.at (.cst (pre ++ [])) pre.length s = some none := by simp [Src.at]
    rw [e]
  | x :: ds, pre, ρ, s, h0, hs, hend => by
    have e : Src.at (.cst (pre ++ x :: ds)) pre.length s = some (some x) := by simp [Src.at]
    obtain ⟨ρ1, e1, o, s1, e2, q⟩ := hs pre.length x (by simp) ρ s h0
    have hp : pre ++ x :: ds = (pre ++ [x]) ++ ds := by simp
    have hn : pre.length + 1 = (pre ++ [x]).length := by simp
    have next : ∀ ρ2, I (pre.length + 1) ρ2 s1 → Wp (forLoop (.cst (pre ++ x :: ds)) g f (ds.length + 1) (pre.length + 1) ρ2) s1 Q := fun ρ2 q2 => by
      rw [hp, hn]
      exact forLoop_wp I ds (pre ++ [x]) ρ2 s1 (by rw [← hn]; exact q2) (by rw [← hp]; exact hs) (by rw [← hp]; exact hend)
    unfold Wp
    rw [List.length_cons]
    unfold forLoop
    rw [e]
    dsimp only
    rw [e1]
    dsimp only
    rw [e2]
    cases o with
    | nx ρ2 => exact next ρ2 q
    | ct ρ2 => exact next ρ2 q
    | bk ρ2 => exact ⟨_, _, rfl, q⟩
    | ret w => exact ⟨_, _, rfl, q⟩
theorem wx_for {g : Tg} {it : IT} (ds : List PyData) (I : Nat → Env → Sto → Prop) (h : evi Γ it ρ = M.ret (.cst ds)) (h0 : I 0 ρ s)
    (hs : ∀ i x, ds[i]? = some x → ∀ ρ s, I i ρ s → ∃ ρ1, put g x ρ = some ρ1 ∧ Wx Γ b ρ1 s (Trn (I (i + 1)) (Thn Γ r Q))) (hend : ∀ ρ s, I ds.length ρ s → Wx Γ r ρ s Q) : Wx Γ (.cons (.forr g it b) r) ρ s Q := by
  refine wx_cons (Wp.bnd (Wp.eq h (Wp.ret ?_)))
  exact forLoop_wp (Q := Thn Γ r Q) I ds [] ρ s h0 hs hend
/-- turns of a while: m bounds what is left -/
theorem whileLoop_wp {c : Env → M Bool} {f : Env → M Out} (I : Nat → Env → Sto → Prop) (hs : ∀ m ρ s, I m ρ s → Wp (c ρ) s fun t s' => if t = true then ∃ k, m = k + 1 ∧ Wp (f ρ) s' (Trn (I k) Q) else Q (.nx ρ) s') :
    ∀ (n m : Nat) (ρ : Env) (s : Sto), m < n → I m ρ s → Wp (whileLoop c f n ρ) s Q
  | 0, _, _, _, h, _ => absurd h (Nat.not_lt_zero _)
  | n + 1, m, ρ, s, h, hi => by
    obtain ⟨t, s1, e1, q⟩ := hs m ρ s hi
    cases t with
    | false =>
      rw [if_neg Bool.false_ne_true] at q
      refine ⟨_, _, ?_, q⟩
      unfold whileLoop
      rw [e1]
    | true =>
      rw [if_pos rfl] at q
      obtain ⟨k, rfl, o, s2, e2, q⟩ := q
      have next : ∀ ρ2, I k ρ2 s2 → Wp (whileLoop c f n ρ2) s2 Q := fun ρ2 q2 => whileLoop_wp I hs n k ρ2 s2 (by omega) q2
      unfold Wp whileLoop
      rw [e1]
      dsimp only
      rw [e2]
      cases o with
      | nx ρ2 => exact next ρ2 q
      | ct ρ2 => exact next ρ2 q
      | bk ρ2 => exact ⟨_, _, rfl, q⟩
      | ret w => exact ⟨_, _, rfl, q⟩
theorem wx_whl {n : Nat} (m : Nat) (I : Nat → Env → Sto → Prop) (hm : m < n) (h0 : I m ρ s)
    (hs : ∀ m ρ s, I m ρ s → ∃ c, ev Γ t ρ = M.ret (.d (.bool c)) ∧ if c = true then ∃ k, m = k + 1 ∧ Wx Γ b ρ s (Trn (I k) (Thn Γ r Q)) else Wx Γ r ρ s Q) : Wx Γ (.cons (.whl n t b) r) ρ s Q := by
  refine wx_cons (whileLoop_wp (Q := Thn Γ r Q) I (fun m ρ s hi => ?_) n m ρ s hm h0)
  obtain ⟨c, e, q⟩ := hs m ρ s hi
  refine Wp.eq (by rw [e, bnd_ret, asBool_d]) (Wp.ret ?_)
  exact q
theorem wx_app {ea : IE} {ds : List PyData} (k : Nat) (y : PyData) (h1 : ev Γ ea ρ = M.ret (.m k)) (h2 : ev Γ e ρ = M.ret (.d y)) (hk : s[k]? = some ds) (hl : ds.length < line) (q : Wx Γ r ρ (s.set k (ds ++ [y])) Q) : Wx Γ (.cons (.app ea e) r) ρ s Q := by
  refine wx_cons ?_
  have hkl : k < s.length := (List.getElem?_eq_some_iff.mp hk).1
  have e1 : exec Γ (.app ea e) ρ s = some (.ok (.nx ρ) (s.set k (ds ++ [y]))) := by
    simp only [exec]
    rw [h1, bnd_ret, asCell_m, bnd_ret, h2, bnd_ret, asData_d, bnd_ret]
    have e0 : cellOf k s = some (.ok ds s) := by unfold cellOf; rw [hk]
    rw [bnd_ok e0, if_pos hl]
    have e2 : setCell k (ds ++ [y]) s = some (.ok () (s.set k (ds ++ [y]))) := by unfold setCell; rw [if_pos hkl]
    rw [bnd_ok e2]; rfl
  exact ⟨_, _, e1, q⟩
theorem wx_sti {ea ei : IE} {ds : List PyData} (k : Nat) (j : Int) (p : Nat) (y : PyData) (h1 : Wp (ev Γ e ρ) s fun w s' => w = .d y ∧ s' = s) (h2 : ev Γ ea ρ = M.ret (.m k)) (h3 : ev Γ ei ρ = M.ret (.d (.int j))) (hk : s[k]? = some ds) (hp : place ds.length j = some p) (q : Wx Γ r ρ (s.set k (ds.set p y)) Q) : Wx Γ (.cons (.sti ea ei e) r) ρ s Q := by
  refine wx_cons ?_
  have hkl : k < s.length := (List.getElem?_eq_some_iff.mp hk).1
  obtain ⟨w, s', e0, rfl, rfl⟩ := h1
  have e1 : exec Γ (.sti ea ei e) ρ s' = some (.ok (.nx ρ) (s'.set k (ds.set p y))) := by
    simp only [exec]
    rw [bnd_ok e0, asData_d, bnd_ret, h2, bnd_ret, asCell_m, bnd_ret, h3, bnd_ret, asInt_d, bnd_ret]
    have e0 : cellOf k s' = some (.ok ds s') := by unfold cellOf; rw [hk]
    rw [bnd_ok e0, hp, opt_some, bnd_ret]
    have e2 : setCell k (ds.set p y) s' = some (.ok () (s'.set k (ds.set p y))) := by unfold setCell; rw [if_pos hkl]
    rw [bnd_ok e2]; rfl
  exact ⟨_, _, e1, q⟩
end
/-- a def's answer -/
def Fin1 (Q : W → Sto → Prop) : Out → Sto → Prop := fun o s => match o with
  | .nx _ => Q (.d .none) s
  | .ret w => Q w s
  | _ => False
theorem wf {Γ : Fns} {p n : Nat} {b : ISs} {ws : List W} {s : Sto} {Q : W → Sto → Prop} (hl : ws.length = p) (h : Wx Γ b (start n ws) s (Fin1 Q)) : Wp (fdef Γ p n b ws) s Q := by
  rw [fdef_eq hl]
  refine Wp.bnd (h.imp fun o s' q => ?_)
  cases o with
  | nx ρ => exact Wp.ret q
  | ret w => exact Wp.ret q
  | bk ρ => exact q.elim
  | ct ρ => exact q.elim
theorem pure_of {α : Type} {m : M α} {a : α} (h : ∀ s, Wp m s fun w s' => w = a ∧ s' = s) : m = M.ret a := by
  funext s
  obtain ⟨w, s', e, rfl, rfl⟩ := h s
  exact e
/-- a call -/
theorem we_fn {Γ : Fns} {k : Nat} {es : IEs} {ρ : Env} {s : Sto} {Q : W → Sto → Prop} (ws : List W) (h : evs Γ es ρ = M.ret ws) (q : Wp (Γ k ws) s Q) : Wp (ev Γ (.fn k es) ρ) s Q := by
  simp only [ev]; rw [h, bnd_ret]; exact q
/-! expressions that look at the store -/
section
variable {Γ : Fns} {ρ : Env} {s : Sto} {Q : W → Sto → Prop} {a b t e : IE}
theorem we_pure (w : W) (h : ev Γ e ρ = M.ret w) (q : Q w s) : Wp (ev Γ e ρ) s Q := Wp.eq h (Wp.ret q)
theorem we_bin {o : Bop} (h : Wp (ev Γ a ρ) s fun x s1 => Wp (ev Γ b ρ) s1 fun y s2 => ∃ dx dy d, x = .d dx ∧ y = .d dy ∧ bop o dx dy = some d ∧ Q (.d d) s2) : Wp (ev Γ (.bin o a b) ρ) s Q := by
  simp only [ev]
  refine Wp.bnd (h.imp fun x s1 h => Wp.bnd (h.imp ?_))
  rintro y s2 ⟨dx, dy, d, rfl, rfl, e, q⟩
  rw [look_d, bnd_ret, look_d, bnd_ret, e, opt_some, bnd_ret]
  exact Wp.ret q
theorem we_cmp {o : Cop} (h : Wp (ev Γ a ρ) s fun x s1 => Wp (ev Γ b ρ) s1 fun y s2 => ∃ dx dy d, x = .d dx ∧ y = .d dy ∧ cop o dx dy = some d ∧ Q (.d (.bool d)) s2) : Wp (ev Γ (.cmp o a b) ρ) s Q := by
  simp only [ev]
  refine Wp.bnd (h.imp fun x s1 h => Wp.bnd (h.imp ?_))
  rintro y s2 ⟨dx, dy, d, rfl, rfl, e, q⟩
  rw [look_d, bnd_ret, look_d, bnd_ret, e, opt_some, bnd_ret]
  exact Wp.ret q
theorem we_and (h : Wp (ev Γ a ρ) s fun x s1 => ∃ c, x = .d (.bool c) ∧ if c = true then Wp (ev Γ b ρ) s1 Q else Q (.d (.bool false)) s1) : Wp (ev Γ (.and a b) ρ) s Q := by
  simp only [ev]
  refine Wp.bnd (h.imp ?_)
  rintro x s1 ⟨c, rfl, q⟩
  rw [asBool_d, bnd_ret]
  cases c with
  | true => rw [if_pos rfl] at q ⊢; exact q
  | false => rw [if_neg Bool.false_ne_true] at q ⊢; exact Wp.ret q
theorem we_or (h : Wp (ev Γ a ρ) s fun x s1 => ∃ c, x = .d (.bool c) ∧ if c = true then Q (.d (.bool true)) s1 else Wp (ev Γ b ρ) s1 Q) : Wp (ev Γ (.or a b) ρ) s Q := by
  simp only [ev]
  refine Wp.bnd (h.imp ?_)
  rintro x s1 ⟨c, rfl, q⟩
  rw [asBool_d, bnd_ret]
  cases c with
  | true => rw [if_pos rfl] at q ⊢; exact Wp.ret q
  | false => rw [if_neg Bool.false_ne_true] at q ⊢; exact q
theorem we_ifx (h : Wp (ev Γ t ρ) s fun x s1 => ∃ c, x = .d (.bool c) ∧ if c = true then Wp (ev Γ a ρ) s1 Q else Wp (ev Γ b ρ) s1 Q) : Wp (ev Γ (.ifx t a b) ρ) s Q := by
  simp only [ev]
  refine Wp.bnd (h.imp ?_)
  rintro x s1 ⟨c, rfl, q⟩
  rw [asBool_d, bnd_ret]
  cases c with
  | true => rw [if_pos rfl] at q ⊢; exact q
  | false => rw [if_neg Bool.false_ne_true] at q ⊢; exact q
theorem we_pr1 {p : Prim} (h : Wp (ev Γ a ρ) s fun x s1 => ∃ dx d, x.get s1 = some dx ∧ prim p [dx] = some d ∧ Q (.d d) s1) : Wp (ev Γ (.pr p (.cons a .nil)) ρ) s Q := by
  simp only [ev, evs, bnd_assoc]
  refine Wp.bnd (h.imp ?_)
  rintro x s1 ⟨dx, d, e0, e, q⟩
  simp only [bnd_ret]
  show Wp (((look x).bnd fun x => (looks []).bnd fun xs => M.ret (x :: xs)).bnd fun ds => (M.opt (prim p ds)).bnd fun d => M.ret (W.d d)) s1 Q
  refine Wp.bnd (Wp.bnd ⟨dx, s1, ?_, ?_⟩)
  · unfold look; rw [e0]
  · show Wp ((M.ret ([] : List PyData)).bnd fun xs => M.ret (dx :: xs)) s1 _
    rw [bnd_ret]
    refine Wp.ret ?_
    rw [e, opt_some, bnd_ret]
    exact Wp.ret q
/-- an item of a cell -/
theorem we_ixc {ds : List PyData} {x : PyData} {j : Int} (k : Nat) (h1 : ev Γ a ρ = M.ret (.m k)) (h2 : ev Γ b ρ = M.ret (.d (.int j))) (hk : s[k]? = some ds) (hx : atL ds j = some x) (q : Q (.d x) s) : Wp (ev Γ (.ix a b) ρ) s Q := by
  refine ⟨.d x, s, ?_, q⟩
  simp only [ev]
  rw [h1, bnd_ret, h2, bnd_ret]
  have e : look (.m k) s = some (.ok (.list ds) s) := by
    show (match (match s[k]? with | none => none | some ds => some (PyData.list ds) : Option PyData) with | none => none | some x => some (Rs.ok x s)) = _
    rw [hk]
  rw [bnd_ok e, asData_d, bnd_ret]
  simp only [ixD, hx, opt_some, bnd_ret]; rfl
/-- an item at a place that is worked out -/
theorem we_ixW {dx : PyData} (h1 : ev Γ a ρ = M.ret (.d dx)) (h2 : Wp (ev Γ b ρ) s fun y s1 => ∃ j x, y = .d (.int j) ∧ ixD dx (.int j) = some x ∧ Q (.d x) s1) : Wp (ev Γ (.ix a b) ρ) s Q := by
  simp only [ev]
  rw [h1, bnd_ret]
  refine Wp.bnd (h2.imp ?_)
  rintro y s1 ⟨j, x, rfl, e, q⟩
  rw [look_d, bnd_ret, asData_d, bnd_ret, e, opt_some, bnd_ret]
  exact Wp.ret q
/-- a new cell -/
theorem we_mls0 (q : Q (.m s.length) (s ++ [[]])) : Wp (ev Γ (.mls .nil) ρ) s Q := ⟨_, _, rfl, q⟩
/-- arguments, one behind another -/
theorem we_args1 {Q : List W → Sto → Prop} (h : Wp (ev Γ a ρ) s fun x s1 => Q [x] s1) : Wp (evs Γ (.cons a .nil) ρ) s Q := by
  simp only [evs]
  exact Wp.bnd (h.imp fun x s1 q => by rw [bnd_ret]; exact Wp.ret q)
theorem we_argsC {es : IEs} {Q : List W → Sto → Prop} (h : Wp (ev Γ a ρ) s fun x s1 => Wp (evs Γ es ρ) s1 fun ws s2 => Q (x :: ws) s2) : Wp (evs Γ (.cons a es) ρ) s Q := by
  simp only [evs]
  exact Wp.bnd (h.imp fun x s1 q => Wp.bnd (q.imp fun ws s2 q => Wp.ret q))
theorem we_fnW {k : Nat} {es : IEs} (h : Wp (evs Γ es ρ) s fun ws s1 => Wp (Γ k ws) s1 Q) : Wp (ev Γ (.fn k es) ρ) s Q := by
  simp only [ev]; exact Wp.bnd h
end
theorem evi_rng1 {Γ : Fns} {ρ : Env} {e : IE} (n : Nat) (h : ev Γ e ρ = M.ret (.d (.int (n : Int)))) (hn : n ≤ 1000000) : evi Γ (.rng1 e) ρ = M.ret (.cst ((List.range n).map Enc.en)) := by
  have hr : rngOk 0 (n : Int) := rngOk_small (by omega) (by omega) (by omega) (by omega)
  simp only [evi]
  rw [h, bnd_ret, asInt_d, bnd_ret, if_pos hr, Int.toNat_natCast, rngL_nat]
theorem evi_rng2 {Γ : Fns} {ρ : Env} {a b : IE} (n m : Nat) (h1 : ev Γ a ρ = M.ret (.d (.int (n : Int)))) (h2 : ev Γ b ρ = M.ret (.d (.int (m : Int)))) (hn : n ≤ 1000000) (hm : m ≤ 1000000) : evi Γ (.rng2 a b) ρ = M.ret (.cst ((List.range' n (m - n)).map Enc.en)) := by
  have hr : rngOk (n : Int) (m : Int) := rngOk_small (by omega) (by omega) (by omega) (by omega)
  have e : ((m : Int) - (n : Int)).toNat = m - n := by omega
  simp only [evi]
  rw [h1, bnd_ret, h2, bnd_ret, asInt_d, bnd_ret, asInt_d, bnd_ret, if_pos hr, e, rngL_from]
end Qv

/-! Pj -/
set_option maxHeartbeats 0
/-! the law's jug: drawing numbers -/
namespace Qv
open PySem Enc
abbrev en1 {α : Type} [Enc α] (a : α) : W := .d (en a)
/-- cell k is a jug -/
def Jug (s : Sto) (k : Nat) : Prop := ∃ a b : Int, s[k]? = some [.int a, .int b] ∧ 0 ≤ b ∧ b < 4294967296
/-- the other cells of s stand -/
def Nxt (s s' : Sto) (k : Nat) : Prop := s.length ≤ s'.length ∧ ∀ j, j < s.length → j ≠ k → s'[j]? = s[j]?
theorem Nxt.refl (s : Sto) (k : Nat) : Nxt s s k := ⟨Nat.le_refl _, fun _ _ _ => rfl⟩
theorem Nxt.trans {s s1 s2 : Sto} {k : Nat} (a : Nxt s s1 k) (b : Nxt s1 s2 k) : Nxt s s2 k := ⟨Nat.le_trans a.1 b.1, fun j h1 h2 => (b.2 j (Nat.lt_of_lt_of_le h1 a.1) h2).trans (a.2 j h1 h2)⟩
theorem Nxt.set {s : Sto} {k : Nat} (ds : List PyData) : Nxt s (s.set k ds) k := ⟨by simp, fun j _ h => List.getElem?_set_ne (Ne.symm h)⟩
theorem Jug.lt {s : Sto} {k : Nat} (h : Jug s k) : k < s.length := by
  obtain ⟨a, b, e, _⟩ := h
  exact (List.getElem?_eq_some_iff.mp e).1
theorem log2_le {n m : Nat} (h : n < 2 ^ m) (hm : 0 < m) : n.log2 < m := by
  by_cases h0 : n = 0
  · subst h0; simpa using hm
  · exact (Nat.log2_lt h0).mpr h
theorem bigMul_of {a b : Int} (m n : Nat) (ha : a.natAbs < 2 ^ m) (hb : b.natAbs < 2 ^ n) (hm : 0 < m) (hn : 0 < n) (h : m + n ≤ 1000000) : bigMul a b := by
  have h1 := log2_le ha hm
  have h2 := log2_le hb hn
  unfold bigMul; omega
theorem dip_ok {s : Sto} {k : Nat} (many : Nat) (hj : Jug s k) (h1 : 1 ≤ many) (h2 : many ≤ 8192 ^ 90) :
    Wp (F__law_dip [.m k, .d (.int many)]) s fun w s' => ∃ r : Nat, r < many ∧ w = .d (.int r) ∧ Jug s' k ∧ Nxt s s' k ∧ s'.length = s.length := by
  obtain ⟨a, b, hs, hb0, hb1⟩ := hj
  have hks : k < s.length := (List.getElem?_eq_some_iff.mp hs).1
  have hbits : (8192 : Nat) ^ 90 = 2 ^ 1170 := by decide +kernel
  refine wf rfl ?_
  rw [ib__law_dip, start]
  by_cases ha : 0 < a
  · refine wx_ifW (we_cmp (we_ixc k rfl rfl hs rfl (we_pure _ rfl ⟨.int a, .int 0, true, rfl, rfl, by simp [cop, cmpI, ha], true, rfl, ?_⟩)))
    rw [if_pos rfl]
    refine wx_asgW (we_bin (we_pr1 (we_ixc k rfl rfl hs rfl ⟨_, _, rfl, rfl, we_pure _ rfl ⟨_, _, .int (a % many), rfl, rfl, ?_, ?_⟩⟩)))
    · show bop .mod (.int a) (.int many) = _
      simp only [bop]; rw [if_pos (by omega)]
    refine wx_sti k 0 0 (.int (a / many)) (we_bin (we_ixc k rfl rfl hs rfl (we_pure _ rfl ⟨_, _, _, rfl, rfl, ?_, rfl, rfl⟩))) rfl rfl hs rfl ?_
    · show bop .fdiv (.int a) (.int many) = _
      simp only [bop]; rw [if_pos ⟨by omega, by
        have : many < 2 ^ 1171 := by rw [hbits] at h2; exact Nat.lt_of_le_of_lt h2 (by decide +kernel)
        have q := log2_le this (by decide)
        have e : ((many : Int)).natAbs = many := rfl
        rw [e]; omega⟩]
    refine wx_ret _ rfl ?_
    refine ⟨(a % many).toNat, ?_, ?_, ⟨a / many, b, ?_, hb0, hb1⟩, Nxt.set _, by simp⟩
    · have := Int.emod_nonneg a (b := (many : Int)) (by omega)
      have := Int.emod_lt_of_pos a (b := (many : Int)) (by omega)
      omega
    · have := Int.emod_nonneg a (b := (many : Int)) (by omega)
      show W.d (.int (a % many)) = _
      congr 2; omega
    · rw [List.getElem?_set_self hks]; rfl
  · refine wx_ifW (we_cmp (we_ixc k rfl rfl hs rfl (we_pure _ rfl ⟨.int a, .int 0, false, rfl, rfl, by simp [cop, cmpI]; omega, false, rfl, ?_⟩)))
    rw [if_neg Bool.false_ne_true]
    refine wx_nil ?_
    refine wx_unp _ rfl rfl ?_
    -- turns left, what was found, how wide
    refine wx_whl (n := fuel) 92 (fun m ρ s' => ∃ (i : Nat) (f : Nat), m + i = 92 ∧ f < 8192 ^ (i + 1) ∧ Jug s' k ∧ Nxt s s' k ∧ s'.length = s.length ∧ ρ = [some (.m k), some (.d (.int many)), some (.d (.int f)), some (.d (.int ((8192 ^ i : Nat) : Int)))]) (by decide)
      ⟨0, 0, rfl, by decide, ⟨a, b, hs, hb0, hb1⟩, Nxt.refl _ _, rfl, rfl⟩ ?_
    rintro m ρ s1 ⟨i, f, hm, hf, ⟨a1, b1, hs1, hb2, hb3⟩, hx, hlen, rfl⟩
    refine ⟨decide (8192 ^ i < many) || decide (8192 ^ i = 1), ?_, ?_⟩
    · simp -implicitDefEqProofs only [ev_var, varW_some, ev_cst, ev_tup, ev_lst, ev_mls, ev_neg, ev_bin, ev_cmp, ev_chn, ev_and, ev_or, ev_not, ev_ifx, ev_ix, ev_sl, ev_slen, ev_six, ev_fn, ev_pr, evs, evo, evt, evi, bnd_ret, bnd_assoc, opt_some, look_d, looks_nil, looks_cons, asInt_d, asBool_d, asData_d, asScr_s, asCell_m, asDatas_nil, asDatas_cons, srcOf_l, srcOf_t, srcOf_m, List.getElem?_cons_zero, List.getElem?_cons_succ, Option.getD_some, cop, notO, prim, cmpI, ixD, slD, eqD_I, Int.ofNat_inj, inD_nT, inD_nL, inD_pT, ite_and, ite_or, en_n, en_pr, ltD, Int.ofNat_lt]
      congr 3
      have e : ((8192 ^ i : Nat) : Int) = 1 ↔ 8192 ^ i = 1 := by omega
      simp only [e]
    · by_cases hc : (decide (8192 ^ i < many) || decide (8192 ^ i = 1)) = true
      · rw [if_pos hc]
        have hi : i < 92 := by
          rcases Nat.lt_or_ge i 92 with h | h
          · exact h
          · exfalso
            have h3 : (8192 : Nat) ^ 92 ≤ 8192 ^ i := Nat.pow_le_pow_right (by decide) h
            have h4 : (8192 : Nat) ^ 90 < 8192 ^ 92 := by decide +kernel
            have h5 : (1 : Nat) < 8192 ^ 92 := by decide +kernel
            simp only [Bool.or_eq_true, decide_eq_true_eq] at hc
            omega
        refine ⟨m - 1, by omega, ?_⟩
        have hks1 : k < s1.length := by rw [hlen]; exact hks
        have hfb : f < 2 ^ 1300 := Nat.lt_of_lt_of_le hf (Nat.le_trans (Nat.pow_le_pow_right (by decide) (show i + 1 ≤ 100 by omega)) (by decide +kernel))
        have hwb : 8192 ^ i < 2 ^ 1300 := Nat.lt_of_le_of_lt (Nat.pow_le_pow_right (by decide) (show i ≤ 99 by omega)) (by decide +kernel)
        -- the next seed
        have hb4 := Int.emod_nonneg (b1 * 16361 + 163) (b := 2147482561) (by decide)
        have hb5 := Int.emod_lt_of_pos (b1 * 16361 + 163) (b := 2147482561) (by decide)
        refine wx_sti k 1 1 (.int ((b1 * 16361 + 163) % 2147482561)) (we_bin (we_pr1 (we_bin (we_bin (we_ixc k rfl rfl hs1 rfl (we_pure _ rfl ⟨_, _, .int (b1 * 16361), rfl, rfl, ?_, we_pure _ rfl ⟨_, _, .int (b1 * 16361 + 163), rfl, rfl, rfl, ?_⟩⟩)))))) rfl rfl hs1 rfl ?_
        · simp only [bop]; rw [if_pos (bigMul_of 33 14 (by omega) (by decide) (by decide) (by decide) (by decide))]
        · exact ⟨_, _, rfl, rfl, we_pure _ rfl ⟨_, _, _, rfl, rfl, rfl, rfl, rfl⟩⟩
        generalize hb6 : (b1 * 16361 + 163) % 2147482561 = b2 at hb4 hb5 ⊢
        have hs2 : (s1.set k (([.int a1, .int b1] : List PyData).set 1 (.int b2)))[k]? = some [.int a1, .int b2] := by rw [List.getElem?_set_self hks1]; rfl
        have hd0 := Int.emod_nonneg (b2 / 65827) (b := 8192) (by decide)
        have hd1 := Int.emod_lt_of_pos (b2 / 65827) (b := 8192) (by decide)
        refine wx_asgW (we_bin (we_pure (.d (.int (f * 8192))) ?_ (we_bin (we_pr1 (we_bin (we_ixc k rfl rfl hs2 rfl (we_pure _ rfl ⟨_, _, .int (b2 / 65827), rfl, rfl, ?_, .int (b2 / 65827), .int (b2 / 65827), rfl, rfl, we_pure _ rfl ⟨_, _, .int (b2 / 65827 % 8192), rfl, rfl, rfl, _, _, .int (f * 8192 + b2 / 65827 % 8192), rfl, rfl, rfl, ?_⟩⟩)))))))
        · simp -implicitDefEqProofs only [ev_var, varW_some, ev_cst, ev_tup, ev_lst, ev_mls, ev_neg, ev_bin, ev_cmp, ev_chn, ev_and, ev_or, ev_not, ev_ifx, ev_ix, ev_sl, ev_slen, ev_six, ev_fn, ev_pr, evs, evo, evt, evi, bnd_ret, bnd_assoc, opt_some, look_d, looks_nil, looks_cons, asInt_d, asBool_d, asData_d, asScr_s, asCell_m, asDatas_nil, asDatas_cons, srcOf_l, srcOf_t, srcOf_m, List.getElem?_cons_zero, List.getElem?_cons_succ, Option.getD_some, cop, notO, prim, cmpI, ixD, slD, eqD_I, Int.ofNat_inj, inD_nT, inD_nL, inD_pT, ite_and, ite_or, en_n, en_pr, bop]; rw [if_pos (bigMul_of 1300 14 (by omega) (by decide) (by decide) (by decide) (by decide))]; rfl
        · simp only [bop]; rw [if_pos ⟨by decide, by decide⟩]
        refine wx_asg (.d (.int ((8192 ^ (i + 1) : Nat) : Int))) ?_ ?_
        · have e : ((8192 ^ (i + 1) : Nat) : Int) = ((8192 ^ i : Nat) : Int) * 8192 := by rw [Nat.pow_succ]; omega
          rw [e]
          show (M.opt (bop .mul (.int ((8192 ^ i : Nat) : Int)) (.int 8192))).bnd (fun d => M.ret (W.d d)) = _
          simp only [bop]; rw [if_pos (bigMul_of 1300 14 (by omega) (by decide) (by decide) (by decide) (by decide))]; rfl
        refine wx_nil ?_
        refine ⟨i + 1, f * 8192 + (b2 / 65827 % 8192).toNat, by omega, ?_, ⟨a1, b2, hs2, hb4, by omega⟩, hx.trans (Nxt.set _), by rw [List.length_set]; exact hlen, ?_⟩
        · have e : 8192 ^ (i + 1 + 1) = 8192 ^ (i + 1) * 8192 := Nat.pow_succ ..
          rw [e]; omega
        · have e : ((f * 8192 + (b2 / 65827 % 8192).toNat : Nat) : Int) = f * 8192 + b2 / 65827 % 8192 := by omega
          rw [e]; rfl
      · rw [if_neg hc]
        refine wx_ret (.d (.int ((f % many : Nat) : Int))) ?_ ?_
        · have e : bop .mod (.int f) (.int many) = some (.int ((f % many : Nat) : Int)) := by
            simp only [bop]; rw [if_pos (by omega)]; rfl
          simp -implicitDefEqProofs only [ev_var, varW_some, ev_cst, ev_tup, ev_lst, ev_mls, ev_neg, ev_bin, ev_cmp, ev_chn, ev_and, ev_or, ev_not, ev_ifx, ev_ix, ev_sl, ev_slen, ev_six, ev_fn, ev_pr, evs, evo, evt, evi, bnd_ret, bnd_assoc, opt_some, look_d, looks_nil, looks_cons, asInt_d, asBool_d, asData_d, asScr_s, asCell_m, asDatas_nil, asDatas_cons, srcOf_l, srcOf_t, srcOf_m, List.getElem?_cons_zero, List.getElem?_cons_succ, Option.getD_some, cop, notO, prim, cmpI, ixD, slD, eqD_I, Int.ofNat_inj, inD_nT, inD_nL, inD_pT, ite_and, ite_or, en_n, en_pr, pInt, e]
        · exact ⟨f % many, Nat.mod_lt _ (by omega), rfl, ⟨a1, b1, hs1, hb2, hb3⟩, hx, hlen⟩

theorem any_ok {s : Sto} {k : Nat} (ds : List PyData) (hj : Jug s k) (h1 : ds ≠ []) (h2 : ds.length ≤ 1000000) :
    Wp (F__law_any [.m k, .d (.list ds)]) s fun w s' => ∃ x, x ∈ ds ∧ w = .d x ∧ Jug s' k ∧ Nxt s s' k ∧ s'.length = s.length := by
  refine wf rfl ?_
  rw [ib__law_any, start]
  refine wx_retW (we_ixW rfl (we_fn [.m k, .d (.int ds.length)] rfl ?_))
  have hl : 0 < ds.length := List.length_pos_iff.mpr h1
  refine Wp.imp (dip_ok ds.length hj hl (Nat.le_trans h2 (by decide +kernel))) ?_
  rintro w s' ⟨r, hr, rfl, h3, h4, h5⟩
  exact ⟨r, ds[r], rfl, atL_nat ds r hr, ds[r], List.getElem_mem hr, rfl, h3, h4, h5⟩

theorem jug_ok {s : Sto} (ns : List Int) (k : Nat) (hk : k < 64) : Wp (F__law_jug_of [.scr ns, .d (.int k)]) s fun w s' => w = .m s.length ∧ Jug s' s.length ∧ ∃ ds, s' = s ++ [ds] := by
  refine wf rfl ?_
  rw [ib__law_jug_of, show start 3 [W.scr ns, .d (.int k)] = [some (.scr ns), some (.d (.int k)), none] from rfl]
  have hm : bigMul 38011 (k : Int) := bigMul_of 16 7 (by decide) (by omega) (by decide) (by decide) (by decide)
  refine wx_asg (.d (.int ((38011 : Int) * (k : Int) + 61))) (by simp -implicitDefEqProofs only [ev_var, varW_some, ev_cst, ev_tup, ev_lst, ev_mls, ev_neg, ev_bin, ev_cmp, ev_chn, ev_and, ev_or, ev_not, ev_ifx, ev_ix, ev_sl, ev_slen, ev_six, ev_fn, ev_pr, evs, evo, evt, evi, bnd_ret, bnd_assoc, opt_some, look_d, looks_nil, looks_cons, asInt_d, asBool_d, asData_d, asScr_s, asCell_m, asDatas_nil, asDatas_cons, srcOf_l, srcOf_t, srcOf_m, List.getElem?_cons_zero, List.getElem?_cons_succ, Option.getD_some, cop, notO, prim, cmpI, ixD, slD, eqD_I, Int.ofNat_inj, inD_nT, inD_nL, inD_pT, ite_and, ite_or, en_n, en_pr, bop]; rw [if_pos hm]; rfl) ?_
  have ten : bop .pow (.int 10) (.int 60) = some (.int (10 ^ 60)) := by simp only [bop]; rw [if_pos ⟨by decide, by decide, by decide⟩]; rfl
  have m2 : bop .mul (.int (10 ^ 60)) (.int (10 ^ 60)) = some (.int (10 ^ 120)) := by
    simp only [bop]; rw [if_pos (bigMul_of 200 200 (by decide) (by decide) (by decide) (by decide) (by decide))]; rfl
  have m3 : bop .mul (.int (10 ^ 120)) (.int (10 ^ 60)) = some (.int (10 ^ 180)) := by
    simp only [bop]; rw [if_pos (bigMul_of 400 200 (by decide +kernel) (by decide +kernel) (by decide) (by decide) (by decide))]; rfl
  have m4 : bop .mul (.int (10 ^ 180)) (.int (10 ^ 60)) = some (.int (10 ^ 240)) := by
    simp only [bop]; rw [if_pos (bigMul_of 600 200 (by decide +kernel) (by decide +kernel) (by decide) (by decide) (by decide))]; rfl
  have rest : ∀ c : Int, Wx (fun k => (([] : List (List W → M W))[k]?).getD (fun _ => M.no)) (.cons (.ret (.mls (.cons (.ifx (.cmp .ge (.var 2) (.bin .pow (.cst (.int 10)) (.cst (.int 18)))) (.var 2) (.cst (.int 0))) (.cons (.bin .add (.bin .mod (.pr .int (.cons (.bin .add (.bin .add (.bin .mul (.bin .mod (.var 2) (.cst (.int 2147482561))) (.cst (.int 61))) (.bin .mul (.cst (.int 151)) (.var 1))) (.cst (.int 101))) .nil)) (.cst (.int 2147482561))) (.cst (.int 1))) .nil)))) .nil)
      [some (.scr ns), some (.d (.int k)), some (.d (.int c))] s (Fin1 fun w s' => w = .m s.length ∧ Jug s' s.length ∧ ∃ ds, s' = s ++ [ds]) := by
    intro c
    have h0 := Int.emod_nonneg c (b := 2147482561) (by decide)
    have h1 := Int.emod_lt_of_pos c (b := 2147482561) (by decide)
    have n1 : bop .pow (.int 10) (.int 18) = some (.int (10 ^ 18)) := by simp only [bop]; rw [if_pos ⟨by decide, by decide, by decide⟩]; rfl
    have n2 : bop .mod (.int c) (.int 2147482561) = some (.int (c % 2147482561)) := by simp only [bop]; rw [if_pos (by decide)]
    have n3 : bop .mul (.int (c % 2147482561)) (.int 61) = some (.int (c % 2147482561 * 61)) := by
      simp only [bop]; rw [if_pos (bigMul_of 32 6 (by omega) (by decide) (by decide) (by decide) (by decide))]
    have n4 : bop .mul (.int 151) (.int k) = some (.int (151 * k)) := by
      simp only [bop]; rw [if_pos (bigMul_of 8 7 (by decide) (by omega) (by decide) (by decide) (by decide))]
    have n5 : bop .mod (.int (c % 2147482561 * 61 + 151 * k + 101)) (.int 2147482561) = some (.int ((c % 2147482561 * 61 + 151 * k + 101) % 2147482561)) := by simp only [bop]; rw [if_pos (by decide)]
    have g0 := Int.emod_nonneg (c % 2147482561 * 61 + 151 * k + 101) (b := 2147482561) (by decide)
    have g1 := Int.emod_lt_of_pos (c % 2147482561 * 61 + 151 * k + 101) (b := 2147482561) (by decide)
    have add : ∀ a b : Int, bop .add (.int a) (.int b) = some (.int (a + b)) := fun a b => rfl
    refine wx_retW ?_
    have e : ∃ a : Int, ev (fun k => (([] : List (List W → M W))[k]?).getD (fun _ => M.no)) (.mls (.cons (.ifx (.cmp .ge (.var 2) (.bin .pow (.cst (.int 10)) (.cst (.int 18)))) (.var 2) (.cst (.int 0))) (.cons (.bin .add (.bin .mod (.pr .int (.cons (.bin .add (.bin .add (.bin .mul (.bin .mod (.var 2) (.cst (.int 2147482561))) (.cst (.int 61))) (.bin .mul (.cst (.int 151)) (.var 1))) (.cst (.int 101))) .nil)) (.cst (.int 2147482561))) (.cst (.int 1))) .nil)))
        [some (.scr ns), some (.d (.int k)), some (.d (.int c))] = newCell [.int a, .int ((c % 2147482561 * 61 + 151 * k + 101) % 2147482561 + 1)] := by
      simp -implicitDefEqProofs only [ev_var, varW_some, ev_cst, ev_tup, ev_lst, ev_mls, ev_neg, ev_bin, ev_cmp, ev_chn, ev_and, ev_or, ev_not, ev_ifx, ev_ix, ev_sl, ev_slen, ev_six, ev_fn, ev_pr, evs, evo, evt, evi, bnd_ret, bnd_assoc, opt_some, look_d, looks_nil, looks_cons, asInt_d, asBool_d, asData_d, asScr_s, asCell_m, asDatas_nil, asDatas_cons, srcOf_l, srcOf_t, srcOf_m, List.getElem?_cons_zero, List.getElem?_cons_succ, Option.getD_some, cop, notO, prim, cmpI, ixD, slD, eqD_I, Int.ofNat_inj, inD_nT, inD_nL, inD_pT, ite_and, ite_or, en_n, en_pr, n1, n2, n3, n4, n5, add, pInt, bnd_ite, ite_ret]
      by_cases hc : (10 : Int) ^ 18 ≤ c
      · exact ⟨c, by simp only [hc, decide_true, if_true, bnd_ret, asDatas_cons, asDatas_nil]⟩
      · exact ⟨0, by simp only [hc, decide_false, Bool.false_eq_true, if_false, bnd_ret, asDatas_cons, asDatas_nil]⟩
    obtain ⟨a, e⟩ := e
    refine Wp.eq e ⟨.m s.length, s ++ [[.int a, .int ((c % 2147482561 * 61 + 151 * k + 101) % 2147482561 + 1)]], rfl, ?_⟩
    refine ⟨rfl, ⟨a, _, by rw [List.getElem?_append_right (Nat.le_refl _), Nat.sub_self]; rfl, by omega, by omega⟩, _, rfl⟩
  refine wx_if (decide (k < ns.length)) (by simp -implicitDefEqProofs only [ev_var, varW_some, ev_cst, ev_tup, ev_lst, ev_mls, ev_neg, ev_bin, ev_cmp, ev_chn, ev_and, ev_or, ev_not, ev_ifx, ev_ix, ev_sl, ev_slen, ev_six, ev_fn, ev_pr, evs, evo, evt, evi, bnd_ret, bnd_assoc, opt_some, look_d, looks_nil, looks_cons, asInt_d, asBool_d, asData_d, asScr_s, asCell_m, asDatas_nil, asDatas_cons, srcOf_l, srcOf_t, srcOf_m, List.getElem?_cons_zero, List.getElem?_cons_succ, Option.getD_some, cop, notO, prim, cmpI, ixD, slD, eqD_I, Int.ofNat_inj, inD_nT, inD_nL, inD_pT, ite_and, ite_or, en_n, en_pr, outW_ret, outW_nx, List.set_cons_zero, List.set_cons_succ, putAll, put, List.map_cons, List.map_nil, wipe, ltD, Int.ofNat_lt]) ?_
  by_cases hl : k < ns.length
  · rw [if_pos (by simp [hl])]
    refine wx_asg (.d (.int ((if ns[k] < 0 then -ns[k] else ns[k]) % 10 ^ 240))) ?_ (wx_nil (rest _))
    have n2 : ∀ a : Int, bop .mod (.int a) (.int (10 ^ 240)) = some (.int (a % 10 ^ 240)) := fun a => by simp only [bop]; rw [if_pos (by decide +kernel)]
    simp -implicitDefEqProofs only [ev_var, varW_some, ev_cst, ev_tup, ev_lst, ev_mls, ev_neg, ev_bin, ev_cmp, ev_chn, ev_and, ev_or, ev_not, ev_ifx, ev_ix, ev_sl, ev_slen, ev_six, ev_fn, ev_pr, evs, evo, evt, evi, bnd_ret, bnd_assoc, opt_some, look_d, looks_nil, looks_cons, asInt_d, asBool_d, asData_d, asScr_s, asCell_m, asDatas_nil, asDatas_cons, srcOf_l, srcOf_t, srcOf_m, List.getElem?_cons_zero, List.getElem?_cons_succ, Option.getD_some, cop, notO, prim, cmpI, ixD, slD, eqD_I, Int.ofNat_inj, inD_nT, inD_nL, inD_pT, ite_and, ite_or, en_n, en_pr, outW_ret, outW_nx, List.set_cons_zero, List.set_cons_succ, putAll, put, List.map_cons, List.map_nil, wipe, atL_nat ns k hl, pAbs, pInt, ten, m2, m3, m4, n2]
  · rw [if_neg (by simp [hl])]
    have hz : decide ((0 : Int) < (ns.length : Int)) = decide (0 < ns.length) := by simp
    refine wx_if (decide (0 < ns.length)) (by simp -implicitDefEqProofs only [ev_var, varW_some, ev_cst, ev_tup, ev_lst, ev_mls, ev_neg, ev_bin, ev_cmp, ev_chn, ev_and, ev_or, ev_not, ev_ifx, ev_ix, ev_sl, ev_slen, ev_six, ev_fn, ev_pr, evs, evo, evt, evi, bnd_ret, bnd_assoc, opt_some, look_d, looks_nil, looks_cons, asInt_d, asBool_d, asData_d, asScr_s, asCell_m, asDatas_nil, asDatas_cons, srcOf_l, srcOf_t, srcOf_m, List.getElem?_cons_zero, List.getElem?_cons_succ, Option.getD_some, cop, notO, prim, cmpI, ixD, slD, eqD_I, Int.ofNat_inj, inD_nT, inD_nL, inD_pT, ite_and, ite_or, en_n, en_pr, outW_ret, outW_nx, List.set_cons_zero, List.set_cons_succ, putAll, put, List.map_cons, List.map_nil, wipe, hz]) ?_
    by_cases h0 : 0 < ns.length
    · rw [if_pos (by simp [h0])]
      refine wx_asg (.d (.int ((38011 : Int) * (k : Int) + 61 + (if ns[0] < 0 then -ns[0] else ns[0]) % 1000297))) ?_ (wx_nil (wx_nil (rest _)))
      have n2 : ∀ a : Int, bop .mod (.int a) (.int 1000297) = some (.int (a % 1000297)) := fun a => by simp only [bop]; rw [if_pos (by decide)]
      have n3 : atL ns 0 = some ns[0] := atL_nat ns 0 h0
      have add : ∀ a b : Int, bop .add (.int a) (.int b) = some (.int (a + b)) := fun a b => rfl
      simp -implicitDefEqProofs only [ev_var, varW_some, ev_cst, ev_tup, ev_lst, ev_mls, ev_neg, ev_bin, ev_cmp, ev_chn, ev_and, ev_or, ev_not, ev_ifx, ev_ix, ev_sl, ev_slen, ev_six, ev_fn, ev_pr, evs, evo, evt, evi, bnd_ret, bnd_assoc, opt_some, look_d, looks_nil, looks_cons, asInt_d, asBool_d, asData_d, asScr_s, asCell_m, asDatas_nil, asDatas_cons, srcOf_l, srcOf_t, srcOf_m, List.getElem?_cons_zero, List.getElem?_cons_succ, Option.getD_some, cop, notO, prim, cmpI, ixD, slD, eqD_I, Int.ofNat_inj, inD_nT, inD_nL, inD_pT, ite_and, ite_or, en_n, en_pr, outW_ret, outW_nx, List.set_cons_zero, List.set_cons_succ, putAll, put, List.map_cons, List.map_nil, wipe, n3, pAbs, pInt, n2, add]
      rfl
    · rw [if_neg (by simp [h0])]
      exact wx_nil (wx_nil (rest _))

/-! a drawn web -/
abbrev Way := Nat × Nat
abbrev Web := Nat × List Way
def wlt (x y : Way) : Prop := x.1 < y.1 ∨ x.1 = y.1 ∧ x.2 < y.2
structure WebOk (w : Web) : Prop where
  rg : ∀ x ∈ w.2, x.1 < w.1 ∧ x.2 < w.1 ∧ x.1 ≠ x.2
  srt : w.2.Pairwise wlt
  len : w.2.length ≤ w.1 * w.1
/-- of what is drawn, up to way (i, j) -/
structure Drawn (n i j : Nat) (ws : List Way) : Prop where
  rg : ∀ x ∈ ws, x.1 < n ∧ x.2 < n ∧ x.1 ≠ x.2
  srt : ws.Pairwise wlt
  lt : ∀ x ∈ ws, x.1 < i ∨ x.1 = i ∧ x.2 < j
  len : ws.length ≤ i * n + j
theorem drawn_ok {s : Sto} {k : Nat} (low high : Nat) (hj : Jug s k) (h1 : 1 ≤ low) (h2 : low ≤ high) (h3 : high ≤ 1000) :
    Wp (F__law_drawn [.m k, .d (.int low), .d (.int high)]) s fun w s' => ∃ web : Web, w = en1 web ∧ low ≤ web.1 ∧ web.1 ≤ high ∧ WebOk web ∧ Jug s' k ∧ Nxt s s' k := by
  refine wf rfl ?_
  rw [ib__law_drawn, show start 8 [W.m k, .d (.int low), .d (.int high)] = [some (.m k), some (.d (.int low)), some (.d (.int high)), none, none, none, none, none] from rfl]
  refine wx_parW (we_argsC (we_bin (we_pure (.d (.int low)) rfl (we_fn [.m k, .d (.int ((high - low + 1 : Nat) : Int))] ?_ ?_))))
  · have e : ((high - low + 1 : Nat) : Int) = (high : Int) - low + 1 := by omega
    rw [e]; rfl
  refine Wp.imp (dip_ok (high - low + 1) hj (by omega) (Nat.le_trans (show high - low + 1 ≤ 1001 by omega) (by decide +kernel))) ?_
  rintro w s1 ⟨r, hr, rfl, j1, x1, l1⟩
  refine ⟨_, _, .int ((low + r : Nat) : Int), rfl, rfl, rfl, ?_⟩
  refine we_argsC (we_fn [.m k, .d (.list [.int 2, .int 3, .int 4, .int 6])] rfl ?_)
  refine Wp.imp (any_ok [.int 2, .int 3, .int 4, .int 6] j1 (by simp) (by simp)) ?_
  rintro w s2 ⟨x, hx, rfl, j2, x2, l2⟩
  have hx : ∃ t : Nat, x = .int (t : Int) ∧ 1 ≤ t ∧ t ≤ 6 := by
    simp only [List.mem_cons, List.not_mem_nil, or_false] at hx
    rcases hx with rfl | rfl | rfl | rfl
    · exact ⟨2, rfl, by decide, by decide⟩
    · exact ⟨3, rfl, by decide, by decide⟩
    · exact ⟨4, rfl, by decide, by decide⟩
    · exact ⟨6, rfl, by decide, by decide⟩
  obtain ⟨t, rfl, ht1, ht2⟩ := hx
  refine we_args1 (we_mls0 ⟨_, rfl, ?_⟩)
  generalize hn : low + r = n
  have hn1 : low ≤ n := by omega
  have hn2 : n ≤ high := by omega
  generalize hc : s2.length = c
  have hkc : k < c := by have := j2.lt; omega
  have hj3 : Jug (s2 ++ [[]]) k := by
    obtain ⟨a, b, e, hb⟩ := j2
    exact ⟨a, b, by rw [List.getElem?_append_left (by rw [hc]; exact hkc)]; exact e, hb⟩
  have hx3 : Nxt s (s2 ++ [[]]) k := (x1.trans x2).trans ⟨by simp, fun j hj _ => List.getElem?_append_left hj⟩
  have hsc : s.length ≤ c := by omega
  have hrk : rngOk 0 (n : Int) := rngOk_small (by omega) (by omega) (by omega) (by omega)
  have hdn : Drawn n 0 0 [] := ⟨by simp, .nil, by simp, by simp⟩
  have hrl : rngL 0 (n : Int).toNat = (List.range n).map en := by rw [Int.toNat_natCast]; exact rngL_nat n
  have hit : ∀ (i : Nat) (ρ : Env) (Γ : Fns), ρ[3]? = some (some (.d (.int n))) → evi Γ (.rng1 (.var 3)) ρ = M.ret (.cst ((List.range n).map en)) := fun i ρ Γ h => by
    simp only [evi, ev]; rw [h]; dsimp only
    rw [bnd_ret, asInt_d, bnd_ret, if_pos hrk, hrl]
  refine wx_for ((List.range n).map en) (fun i ρ s' => ∃ (ws : List Way) (u v : Option W), Drawn n i 0 ws ∧ s'[c]? = some (ws.map en) ∧ Jug s' k ∧ Nxt s s' k ∧ ρ = [some (.m k), some (.d (.int low)), some (.d (.int high)), some (.d (.int n)), some (.d (.int t)), some (.m c), u, v]) (hit 0 _ _ rfl)
    ⟨[], none, none, hdn, by rw [← hc]; simp, hj3, hx3, rfl⟩ ?_ ?_
  · rintro i x hix ρ s3 ⟨ws, u, v, dr, hw, j3, x3, rfl⟩
    have hi : i < n := by have := (List.getElem?_eq_some_iff.mp hix).1; simpa using this
    have ex : x = .int (i : Int) := by
      rw [List.getElem?_map, List.getElem?_range hi] at hix
      exact (Option.some.inj hix).symm
    subst ex
    refine ⟨_, rfl, ?_⟩
    refine wx_for ((List.range n).map en) (fun j ρ s' => ∃ (ws : List Way) (v : Option W), Drawn n i j ws ∧ s'[c]? = some (ws.map en) ∧ Jug s' k ∧ Nxt s s' k ∧ ρ = [some (.m k), some (.d (.int low)), some (.d (.int high)), some (.d (.int n)), some (.d (.int t)), some (.m c), some (.d (.int i)), v]) (hit 0 _ _ rfl)
      ⟨ws, v, dr, hw, j3, x3, rfl⟩ ?_ ?_
    · rintro j y hjy ρ s4 ⟨ws, v, dr, hw, j4, x4, rfl⟩
      have hj' : j < n := by have := (List.getElem?_eq_some_iff.mp hjy).1; simpa using this
      have ey : y = .int (j : Int) := by
        rw [List.getElem?_map, List.getElem?_range hj'] at hjy
        exact (Option.some.inj hjy).symm
      subst ey
      refine ⟨_, rfl, ?_⟩
      have keep : Drawn n i (j + 1) ws := ⟨dr.rg, dr.srt, fun x hx => by have := dr.lt x hx; omega, by have := dr.len; omega⟩
      by_cases hij : i = j
      · refine wx_ifW (we_and (we_cmp (we_pure (.d (.int i)) rfl (we_pure (.d (.int j)) rfl ⟨_, _, false, rfl, rfl, by simp [cop, eqD_I, notO, hij], false, rfl, ?_⟩))))
        rw [if_neg Bool.false_ne_true]
        refine ⟨false, rfl, ?_⟩
        rw [if_neg Bool.false_ne_true]
        exact wx_nil (wx_nil ⟨ws, _, keep, hw, j4, x4, rfl⟩)
      · refine wx_ifW (we_and (we_cmp (we_pure (.d (.int i)) rfl (we_pure (.d (.int j)) rfl ⟨_, _, true, rfl, rfl, by simp [cop, eqD_I, notO]; omega, true, rfl, ?_⟩))))
        rw [if_pos rfl]
        refine we_cmp (we_fn [.m k, .d (.int t)] rfl ?_)
        refine Wp.imp (dip_ok t j4 ht1 (Nat.le_trans ht2 (by decide +kernel))) ?_
        rintro w s5 ⟨r5, hr5, rfl, j5, x5, l5⟩
        have hw5 : s5[c]? = some (ws.map en) := by rw [x5.2 c (List.getElem?_eq_some_iff.mp hw).1 (by omega)]; exact hw
        refine we_pure (.d (.int 0)) rfl ⟨_, _, decide ((r5 : Int) = 0), rfl, rfl, by simp only [cop, eqD_I], _, rfl, ?_⟩
        by_cases h0 : (r5 : Int) = 0
        · rw [if_pos (by simp [h0])]
          have hl5 := dr.len
          refine wx_app c (.tuple [.int i, .int j]) rfl rfl hw5 ?_ (wx_nil (wx_nil ⟨ws ++ [(i, j)], _, ?_, ?_, ?_, ?_, rfl⟩))
          · rw [List.length_map]
            have : i * n ≤ 1000 * 1000 := Nat.mul_le_mul (by omega) (by omega)
            show _ < 16777216
            omega
          · refine ⟨fun x hx => ?_, ?_, fun x hx => ?_, ?_⟩
            · rcases List.mem_append.mp hx with hx | hx
              · exact dr.rg x hx
              · have : x = (i, j) := by simpa using hx
                subst this; exact ⟨hi, hj', hij⟩
            · refine List.pairwise_append.mpr ⟨dr.srt, List.pairwise_singleton _ _, fun x hx y hy => ?_⟩
              have : y = (i, j) := by simpa using hy
              subst this
              exact dr.lt x hx
            · rcases List.mem_append.mp hx with hx | hx
              · have := dr.lt x hx; omega
              · have : x = (i, j) := by simpa using hx
                subst this; right; exact ⟨rfl, Nat.lt_succ_self j⟩
            · rw [List.length_append]; show ws.length + 1 ≤ _; omega
          · rw [List.getElem?_set_self (List.getElem?_eq_some_iff.mp hw5).1, List.map_append]; rfl
          · obtain ⟨a, b, e, hb⟩ := j5
            exact ⟨a, b, by rw [List.getElem?_set_ne (by omega)]; exact e, hb⟩
          · refine ⟨by rw [List.length_set]; exact (x4.trans x5).1, fun q hq hqk => ?_⟩
            rw [List.getElem?_set_ne (by omega)]
            exact (x4.trans x5).2 q hq hqk
        · rw [if_neg (by simp; omega)]
          exact wx_nil (wx_nil ⟨ws, _, keep, hw5, j5, x4.trans x5, rfl⟩)
    · rintro ρ s4 ⟨ws, v, dr, hw, j4, x4, rfl⟩
      rw [List.length_map, List.length_range] at dr
      refine wx_nil ⟨ws, _, v, ⟨dr.rg, dr.srt, fun x hx => ?_, ?_⟩, hw, j4, x4, rfl⟩
      · have h := dr.lt x hx
        have := (dr.rg x hx).2.1
        omega
      · have := dr.len
        rw [Nat.succ_mul]; omega
  · rintro ρ s3 ⟨ws, u, v, dr, hw, j3, x3, rfl⟩
    rw [List.length_map, List.length_range] at dr
    refine wx_retW ?_
    have e : ev (fun k => (([F__law_dip, F__law_any] : List (List W → M W))[k]?).getD (fun _ => M.no)) (.tup (.cons (.var 3) (.cons (.pr .tuple (.cons (.var 5) .nil)) .nil))) [some (.m k), some (.d (.int low)), some (.d (.int high)), some (.d (.int n)), some (.d (.int t)), some (.m c), u, v] s3 = some (.ok (en1 (n, ws)) s3) := by
      simp -implicitDefEqProofs only [ev_var, varW_some, ev_cst, ev_tup, ev_lst, ev_mls, ev_neg, ev_bin, ev_cmp, ev_chn, ev_and, ev_or, ev_not, ev_ifx, ev_ix, ev_sl, ev_slen, ev_six, ev_fn, ev_pr, evs, evo, evt, evi, bnd_ret, bnd_assoc, opt_some, look_d, looks_nil, looks_cons, asInt_d, asBool_d, asData_d, asScr_s, asCell_m, asDatas_nil, asDatas_cons, srcOf_l, srcOf_t, srcOf_m, List.getElem?_cons_zero, List.getElem?_cons_succ, Option.getD_some, cop, notO, prim, cmpI, ixD, slD, eqD_I, Int.ofNat_inj, inD_nT, inD_nL, inD_pT, ite_and, ite_or, en_n, en_pr, looks]
      have el : look (.m c) s3 = some (.ok (.list (ws.map en)) s3) := by
        show (match (match s3[c]? with | none => none | some ds => some (PyData.list ds) : Option PyData) with | none => none | some x => some (Rs.ok x s3)) = _
        rw [hw]
      rw [bnd_ok el]; rfl
    exact ⟨_, _, e, (n, ws), rfl, hn1, hn2, ⟨dr.rg, dr.srt, by have := dr.len; show ws.length ≤ n * n; omega⟩, j3, x3⟩
end Qv

/-! K20m -/
set_option maxHeartbeats 0
/-! the law k20 answers True -/
namespace Qv
open PySem Enc
theorem rng_at20 {n i : Nat} {z : PyData} (h : ((List.range n).map (en : Nat → PyData))[i]? = some z) : i < n ∧ z = .int (i : Int) := by
  have hi : i < n := by have := (List.getElem?_eq_some_iff.mp h).1; simpa using this
  rw [List.getElem?_map, List.getElem?_range hi] at h
  exact ⟨hi, (Option.some.inj h).symm⟩
def names15 : List Str := ["InvalidWeb", "InvalidLot", "InvalidPlace", "InvalidWay", "InvalidSteps", "InvalidNumber", "InvalidColours", "InvalidFacts", "InvalidText", "Unlike", "NoLot", "Ringed", "NothingToUndo", "OddRing", "TooMany"]
def madeX : List XV := [.msg "InvalidWeb" "one", .msg "InvalidLot" "one", .msg "InvalidPlace" "one", .msg "InvalidWay" "one", .msg "InvalidSteps" "one", .msg "InvalidNumber" "one", .msg "InvalidColours" "one", .msg "InvalidFacts" "one", .msg "InvalidText" "one", .msg "Unlike" "one", .msg "NoLot" "one", .msg "Ringed" "one", .msg "NothingToUndo" "one"]
def everyX (ring limit : PyData) : List XV := madeX ++ [.own "OddRing" ring, .own "TooMany" limit]
section
variable {Γ : Fns} {a b e : IE} {ρ : Env} {s : Sto}
theorem ev_xnew {c m : Str} : ev Γ (.xnew c m) ρ = (M.ret (.xo (.msg c m)) : M W) := by simp only [ev]
theorem ev_xlst {es : IEs} : ev Γ (.xlst es) ρ = ((evs Γ es ρ).bnd fun ws => (asXs ws).bnd fun l => M.ret (.xl l) : M W) := by simp only [ev]
theorem ev_xcat : ev Γ (.xcat a b) ρ = ((ev Γ a ρ).bnd fun x => (asXl x).bnd fun l => (ev Γ b ρ).bnd fun y => (asXl y).bnd fun r => if l.length + r.length ≤ line then M.ret (.xl (l ++ r)) else M.no : M W) := by simp only [ev]
theorem ev_xlen : ev Γ (.xlen a) ρ = ((ev Γ a ρ).bnd fun x => (asXl x).bnd fun l => M.ret (.d (.int l.length)) : M W) := by simp only [ev]
theorem ev_xix {i : IE} : ev Γ (.xix a i) ρ = ((ev Γ a ρ).bnd fun x => (asXl x).bnd fun l => (ev Γ i ρ).bnd fun y => (asInt y).bnd fun j => (M.opt (atL l j)).bnd fun e => M.ret (.xo e) : M W) := by simp only [ev]
theorem ev_xis {c : Str} : ev Γ (.xis a c) ρ = ((ev Γ a ρ).bnd fun x => (asX x).bnd fun e => if e.cls ∈ xNames then M.ret (.d (.bool (isExc e.cls c))) else M.no : M W) := by simp only [ev]
theorem asX_xo (e : XV) : asX (.xo e) = M.ret e := rfl
theorem asXl_xl (l : List XV) : asXl (.xl l) = M.ret l := rfl
theorem asXs_nil : asXs [] = M.ret [] := rfl
theorem asXs_cons (x : XV) (ws : List W) : asXs (.xo x :: ws) = (asXs ws).bnd fun xs => M.ret (x :: xs) := rfl
theorem we_xstr {Q : W → Sto → Prop} (c m : Str) (h : ev Γ a ρ = M.ret (.xo (.msg c m))) (hc : c ∈ xNames) (q : Q (.d (.str m)) s) : Wp (ev Γ (.xstr a) ρ) s Q := by
  refine ⟨_, s, ?_, q⟩
  simp only [ev]
  rw [h, bnd_ret, asX_xo, bnd_ret]
  show (if c ∈ xNames then M.ret (W.d (.str m)) else M.no) s = _
  rw [if_pos hc]; rfl
theorem ev_xarg {f c : Str} {y : PyData} (h : ev Γ a ρ = M.ret (.xo (.own c y))) (hc : fieldOf c = f ∧ c ∈ (["OddRing", "TooMany"] : List Str)) : ev Γ (.xarg a f) ρ = M.ret (.d y) := by
  simp only [ev]
  rw [h, bnd_ret, asX_xo, bnd_ret]
  exact if_pos hc
end
abbrev GEs : Fns := fun k => (([] : List (List W → M W))[k]?).getD (fun _ => M.no)
theorem add_L (a b : List Bool) (h : a.length + b.length ≤ line) : bop .add (.list (a.map .bool)) (.list (b.map .bool)) = some (.list ((a ++ b).map .bool)) := by
  rw [List.map_append]
  exact if_pos (by rw [List.length_map, List.length_map]; exact h)
theorem law_is_ok (x : XV) (hx : x.cls ∈ xNames) : F__law_is [.xo x] = M.ret (.d (.list ((names15.map (isExc x.cls)).map .bool))) := by
  refine pure_of fun s => ?_
  show Wp (fdef GEs 1 2 ib__law_is [.xo x]) s _
  refine wf rfl ?_
  rw [ib__law_is, show start 2 [W.xo x] = [some (.xo x), none] from rfl]
  have t : ∀ (v : Option W) (c : Str), ev GEs (.xis (.var 0) c) [some (.xo x), v] = M.ret (.d (.bool (isExc x.cls c))) := fun v c => by
    rw [ev_xis]
    simp -implicitDefEqProofs only [ev_var, List.getElem?_cons_zero, varW_some, bnd_ret, asX_xo]
    exact if_pos hx
  have l3 : ∀ (v : Option W) (c1 c2 c3 : Str), ev GEs (.lst (.cons (.xis (.var 0) c1) (.cons (.xis (.var 0) c2) (.cons (.xis (.var 0) c3) .nil)))) [some (.xo x), v] = M.ret (.d (.list (([c1, c2, c3].map (isExc x.cls)).map .bool))) := fun v c1 c2 c3 => by
    simp -implicitDefEqProofs only [ev_lst, evs, t, bnd_ret, asDatas_cons, asDatas_nil]; rfl
  have cat : ∀ (cs : List Str) (c1 c2 c3 : Str), cs.length ≤ 12 → ev GEs (.bin .add (.var 1) (.lst (.cons (.xis (.var 0) c1) (.cons (.xis (.var 0) c2) (.cons (.xis (.var 0) c3) .nil))))) [some (.xo x), some (.d (.list ((cs.map (isExc x.cls)).map .bool)))] = M.ret (.d (.list (((cs ++ [c1, c2, c3]).map (isExc x.cls)).map .bool))) := fun cs c1 c2 c3 h => by
    have q := add_L (cs.map (isExc x.cls)) ([c1, c2, c3].map (isExc x.cls)) (by rw [List.length_map]; show cs.length + 3 ≤ 16777216; omega)
    rw [← List.map_append] at q
    simp -implicitDefEqProofs only [ev_bin, ev_var, List.getElem?_cons_succ, List.getElem?_cons_zero, varW_some, bnd_ret, l3, look_d, q, opt_some]
  refine wx_asg _ (l3 none _ _ _) ?_
  refine wx_asg _ (cat _ _ _ _ (by decide)) ?_
  refine wx_asg _ (cat _ _ _ _ (by decide)) ?_
  refine wx_asg _ (cat _ _ _ _ (by decide)) ?_
  exact wx_ret _ (cat _ _ _ _ (by decide)) ⟨rfl, rfl⟩
theorem law_made_ok : F__law_made_k20 [] = M.ret (.xl madeX) := by
  refine pure_of fun s => ?_
  show Wp (fdef GEs 0 1 ib__law_made_k20 []) s _
  refine wf rfl ?_
  rw [ib__law_made_k20, show start 1 [] = [none] from rfl]
  refine wx_asg (.xl [.msg "InvalidWeb" "one", .msg "InvalidLot" "one", .msg "InvalidPlace" "one", .msg "InvalidWay" "one", .msg "InvalidSteps" "one"]) (by
    simp -implicitDefEqProofs only [ev_xlst, evs, ev_xnew, bnd_ret, asXs_cons, asXs_nil]) ?_
  refine wx_asg (.xl [.msg "InvalidWeb" "one", .msg "InvalidLot" "one", .msg "InvalidPlace" "one", .msg "InvalidWay" "one", .msg "InvalidSteps" "one", .msg "InvalidNumber" "one", .msg "InvalidColours" "one", .msg "InvalidFacts" "one", .msg "InvalidText" "one"]) (by
    simp -implicitDefEqProofs only [ev_xcat, List.set_cons_zero, ev_var, List.getElem?_cons_zero, varW_some, asXl_xl, ev_xlst, evs, ev_xnew, bnd_ret, asXs_cons, asXs_nil]
    exact if_pos (by decide)) ?_
  exact wx_ret (.xl madeX) (by
    simp -implicitDefEqProofs only [ev_xcat, List.set_cons_zero, ev_var, List.getElem?_cons_zero, varW_some, asXl_xl, ev_xlst, evs, ev_xnew, bnd_ret, asXs_cons, asXs_nil]
    exact if_pos (by decide)) ⟨rfl, rfl⟩
theorem every_at (r l : PyData) (i : Nat) (h : i < 15) : ∃ x, atL (everyX r l) (i : Int) = some x ∧ x.cls = names15.getD i "" ∧ (i < 13 → x = .msg (names15.getD i "") "one") := by
  match i, h with
  | 0, _ => exact ⟨_, rfl, rfl, fun _ => rfl⟩
  | 1, _ => exact ⟨_, rfl, rfl, fun _ => rfl⟩
  | 2, _ => exact ⟨_, rfl, rfl, fun _ => rfl⟩
  | 3, _ => exact ⟨_, rfl, rfl, fun _ => rfl⟩
  | 4, _ => exact ⟨_, rfl, rfl, fun _ => rfl⟩
  | 5, _ => exact ⟨_, rfl, rfl, fun _ => rfl⟩
  | 6, _ => exact ⟨_, rfl, rfl, fun _ => rfl⟩
  | 7, _ => exact ⟨_, rfl, rfl, fun _ => rfl⟩
  | 8, _ => exact ⟨_, rfl, rfl, fun _ => rfl⟩
  | 9, _ => exact ⟨_, rfl, rfl, fun _ => rfl⟩
  | 10, _ => exact ⟨_, rfl, rfl, fun _ => rfl⟩
  | 11, _ => exact ⟨_, rfl, rfl, fun _ => rfl⟩
  | 12, _ => exact ⟨_, rfl, rfl, fun _ => rfl⟩
  | 13, _ => exact ⟨_, rfl, rfl, fun h => by omega⟩
  | 14, _ => exact ⟨_, rfl, rfl, fun h => by omega⟩
  | n + 15, h => omega
theorem names_in : ∀ i, i < 15 → names15.getD i "" ∈ xNames := by decide +kernel
theorem names_is : ∀ i, i < 15 → names15.map (isExc (names15.getD i "")) = (List.range 15).map fun j => decide (j = i) := by decide +kernel
theorem lot_is : names15.map (isExc "LotError") = List.replicate 15 false := by decide +kernel
theorem eqOne : eqD (.str "one") (.str "one") = some true := by decide +kernel
abbrev G20 : Fns := fun k => (([F__law_is, F__law_made_k20, F__law_dip, F__law_jug_of] : List (List W → M W))[k]?).getD (fun _ => M.no)
theorem g200 : G20 0 = F__law_is := rfl
theorem g201 : G20 1 = F__law_made_k20 := rfl
theorem g202 : G20 2 = F__law_dip := rfl
theorem g203 : G20 3 = F__law_jug_of := rfl
theorem eqBL (a : List Bool) : eqD (.list (a.map .bool)) (.list (a.map .bool)) = some true := by
  have q := eqD_ls a a
  rw [decide_eq_true rfl] at q; exact q
theorem law20 (ns : List Int) (hns : ns.length ≤ 63) (s : Sto) : Wp (F_law_k20 [.scr ns]) s fun w _ => w = .d (.bool true) := by
  show Wp (fdef G20 1 9 ib_law_k20 [.scr ns]) s _
  refine wf rfl ?_
  rw [ib_law_k20, show start 9 [W.scr ns] = [some (.scr ns), none, none, none, none, none, none, none, none] from rfl]
  have hmin : ∃ m : Nat, m ≤ 4 ∧ ∀ ρ : Env, ρ[0]? = some (some (.scr ns)) → ev G20 (.bin .add (.cst (.int 1)) (.pr .min2 (.cons (.slen (.var 0)) (.cons (.cst (.int 4)) .nil)))) ρ = M.ret (.d (.int ((1 + m : Nat) : Int))) := by
    refine ⟨min ns.length 4, Nat.min_le_right _ _, fun ρ h => ?_⟩
    have e : bop .add (.int 1) (.int (if (4 : Int) < (ns.length : Int) then 4 else (ns.length : Int))) = some (.int ((1 + min ns.length 4 : Nat) : Int)) := by
      show some (PyData.int _) = some (PyData.int _)
      congr 2
      split <;> omega
    simp -implicitDefEqProofs only [ev_var, varW_some, ev_cst, ev_tup, ev_lst, ev_mls, ev_neg, ev_bin, ev_cmp, ev_chn, ev_and, ev_or, ev_not, ev_ifx, ev_ix, ev_sl, ev_slen, ev_six, ev_fn, ev_pr, evs, evo, evt, evi, bnd_ret, bnd_assoc, opt_some, look_d, looks_nil, looks_cons, asInt_d, asBool_d, asData_d, asScr_s, asCell_m, asDatas_nil, asDatas_cons, srcOf_l, srcOf_t, srcOf_m, List.getElem?_cons_zero, List.getElem?_cons_succ, Option.getD_some, cop, notO, prim, cmpI, ixD, slD, eqD_I, Int.ofNat_inj, inD_nT, inD_nL, inD_pT, ite_and, ite_or, en_n, en_pr, h, pMin2, e]
  obtain ⟨m, hm6, hm⟩ := hmin
  refine wx_for ((List.range (1 + m)).map en) (fun i ρ s' => ∃ a1 a2 a3 a4 a5 a6 a7 : Option W, ρ = [some (.scr ns), a1, a2, a3, a4, a5, a6, a7, none]) (evi_rng1 (1 + m) (hm _ rfl) (by omega)) ⟨none, none, none, none, none, none, none, rfl⟩ ?_ ?_
  · rintro i z hz ρ s1 ⟨a1, a2, a3, a4, a5, a6, a7, rfl⟩
    obtain ⟨hi, rfl⟩ := rng_at20 hz
    refine ⟨_, rfl, ?_⟩
    refine wx_asgW (we_fn [.scr ns, .d (.int i)] rfl ?_)
    rw [g203]
    refine Wp.imp (jug_ok ns i (by omega)) ?_
    rintro w s2 ⟨rfl, j2, _⟩
    generalize s1.length = c at j2 ⊢
    show Wx G20 _ [some (.scr ns), some (.d (.int i)), some (.m c), a3, a4, a5, a6, a7, none] s2 _
    refine wx_parW (we_argsC (we_fn [.m c, .d (.int ((99 : Nat) : Int))] rfl ?_))
    rw [g202]
    refine Wp.imp (dip_ok 99 j2 (by decide) (by decide +kernel)) ?_
    rintro w s3 ⟨r, hr, rfl, j3, x3, l3⟩
    refine we_args1 (we_pr1 (we_bin (we_pure (.d (.int 3)) rfl (we_fn [.m c, .d (.int ((4 : Nat) : Int))] rfl ?_))))
    rw [g202]
    refine Wp.imp (dip_ok 4 j3 (by decide) (by decide +kernel)) ?_
    rintro w s4 ⟨q, hq, rfl, j4, x4, l4⟩
    have hp : prim .trng1 [.int ((3 + q : Nat) : Int)] = some (en (List.range (3 + q))) := by
      have hrk : rngOk 0 ((3 + q : Nat) : Int) := rngOk_small (by omega) (by omega) (by omega) (by omega)
      show (if rngOk 0 ((3 + q : Nat) : Int) ∧ ((3 + q : Nat) : Int).toNat ≤ line then some (PyData.tuple (rngL 0 ((3 + q : Nat) : Int).toNat)) else none) = _
      rw [if_pos ⟨hrk, by rw [Int.toNat_natCast]; show _ ≤ 16777216; omega⟩, Int.toNat_natCast, rngL_nat]; rfl
    refine ⟨_, _, .int ((3 + q : Nat) : Int), rfl, rfl, rfl, _, _, rfl, hp, _, rfl, ?_⟩
    show Wx G20 _ [some (.scr ns), some (.d (.int i)), some (.m c), some (.d (.int (r : Int))), some (en1 (List.range (3 + q))), a5, a6, a7, none] s4 _
    generalize hring : List.range (3 + q) = ring
    have hrl : ring.length ≤ 1000 := by rw [← hring, List.length_range]; omega
    have a1' : argOf "OddRing" (en ring) = some (en ring) := by
      show argOf "OddRing" (.tuple (ring.map en)) = _
      unfold argOf
      exact if_pos ⟨rfl, by rw [List.length_map]; exact hrl⟩
    have a2' : argOf "TooMany" (.int (r : Int)) = some (.int (r : Int)) := by
      unfold argOf
      exact if_pos ⟨rfl, by unfold smallI; rw [decide_eq_true (by omega : (0 : Int) ≤ r), decide_eq_true (by omega : (r : Int) < 1000000)]; rfl⟩
    have b1 : ev G20 (.xown "OddRing" (.var 4)) [some (.scr ns), some (.d (.int i)), some (.m c), some (.d (.int (r : Int))), some (en1 ring), a5, a6, a7, none] = M.ret (.xo (.own "OddRing" (en ring))) := by
      simp -implicitDefEqProofs only [ev, List.getElem?_cons_succ, List.getElem?_cons_zero, bnd_ret, asData_d, a1', opt_some]
    have b2 : ev G20 (.xown "TooMany" (.var 3)) [some (.scr ns), some (.d (.int i)), some (.m c), some (.d (.int (r : Int))), some (en1 ring), a5, a6, a7, none] = M.ret (.xo (.own "TooMany" (.int (r : Int)))) := by
      simp -implicitDefEqProofs only [ev, List.getElem?_cons_succ, List.getElem?_cons_zero, bnd_ret, asData_d, a2', opt_some]
    refine wx_asg (.xl (everyX (en ring) (.int (r : Int)))) (by
      rw [ev_xcat, ev_fn]
      simp -implicitDefEqProofs only [evs, bnd_ret, g201, law_made_ok, asXl_xl, ev_xlst, b1, b2, asXs_cons, asXs_nil]
      exact if_pos (by show 13 + 2 ≤ 16777216; omega)) ?_
    show Wx G20 _ [some (.scr ns), some (.d (.int i)), some (.m c), some (.d (.int (r : Int))), some (en1 ring), some (.xl (everyX (en ring) (.int (r : Int)))), a6, a7, none] s4 _
    refine wx_for ((List.range 15).map en) (fun j ρ s' => ∃ a6 a7 : Option W, ρ = [some (.scr ns), some (.d (.int i)), some (.m c), some (.d (.int (r : Int))), some (en1 ring), some (.xl (everyX (en ring) (.int (r : Int)))), a6, a7, none])
      (evi_rng1 15 (by
        simp -implicitDefEqProofs only [ev_xlen, ev_var, List.getElem?_cons_succ, List.getElem?_cons_zero, varW_some, bnd_ret, asXl_xl]; rfl) (by decide)) ⟨a6, a7, rfl⟩ ?_ ?_
    · rintro j z hz ρ s5 ⟨a6, a7, rfl⟩
      obtain ⟨hj, rfl⟩ := rng_at20 hz
      refine ⟨_, rfl, ?_⟩
      obtain ⟨x, hx1, hx2, hx3⟩ := every_at (en ring) (.int (r : Int)) j hj
      have hxm : x.cls ∈ xNames := by rw [hx2]; exact names_in j hj
      refine wx_asg (.xo x) (by
        simp -implicitDefEqProofs only [List.set_cons_zero, List.set_cons_succ, ev_xix, ev_var, List.getElem?_cons_succ, List.getElem?_cons_zero, varW_some, bnd_ret, asXl_xl, asInt_d, en_n, hx1, opt_some]) ?_
      show Wx G20 _ [some (.scr ns), some (.d (.int i)), some (.m c), some (.d (.int (r : Int))), some (en1 ring), some (.xl (everyX (en ring) (.int (r : Int)))), some (.d (.int (j : Int))), some (.xo x), none] s5 _
      have t : ∀ (cc : Str), ev G20 (.xis (.var 7) cc) [some (.scr ns), some (.d (.int i)), some (.m c), some (.d (.int (r : Int))), some (en1 ring), some (.xl (everyX (en ring) (.int (r : Int)))), some (.d (.int (j : Int))), some (.xo x), none] = M.ret (.d (.bool (isExc x.cls cc))) := fun cc => by
        rw [ev_xis]
        simp -implicitDefEqProofs only [ev_var, List.getElem?_cons_succ, List.getElem?_cons_zero, varW_some, bnd_ret, asX_xo]
        exact if_pos hxm
      have q1 : isExc x.cls "LotError" = true := by unfold isExc; simp
      have q2 : isExc x.cls "ValueError" = true := by unfold isExc; simp
      refine wx_ifF0 (by
        simp -implicitDefEqProofs only [ev_or, ev_not, t, bnd_ret, asBool_d, q1, q2]; rfl) ?_
      have hl := law_is_ok x hxm
      rw [hx2, names_is j hj] at hl
      have e1 := ev_lm (Γ := G20) (own := [8]) (tg := .nm 8) (it := .rng1 (.cst (.int 15))) (e := .cmp .eq (.var 8) (.var 6)) (ρ := [some (.scr ns), some (.d (.int i)), some (.m c), some (.d (.int (r : Int))), some (en1 ring), some (.xl (everyX (en ring) (.int (r : Int)))), some (.d (.int (j : Int))), some (.xo x), none])
        (List.range 15) en (fun k => [some (.scr ns), some (.d (.int i)), some (.m c), some (.d (.int (r : Int))), some (en1 ring), some (.xl (everyX (en ring) (.int (r : Int)))), some (.d (.int (j : Int))), some (.xo x), some (.d (.int (k : Int)))]) (fun k => .bool (decide (k = j))) (evi_rng1 15 rfl (by decide)) (by decide) (fun _ _ => rfl) (fun k _ => by simp -implicitDefEqProofs only [ev_var, varW_some, ev_cst, ev_tup, ev_lst, ev_mls, ev_neg, ev_bin, ev_cmp, ev_chn, ev_and, ev_or, ev_not, ev_ifx, ev_ix, ev_sl, ev_slen, ev_six, ev_fn, ev_pr, evs, evo, evt, evi, bnd_ret, bnd_assoc, opt_some, look_d, looks_nil, looks_cons, asInt_d, asBool_d, asData_d, asScr_s, asCell_m, asDatas_nil, asDatas_cons, srcOf_l, srcOf_t, srcOf_m, List.getElem?_cons_zero, List.getElem?_cons_succ, Option.getD_some, cop, notO, prim, cmpI, ixD, slD, eqD_I, Int.ofNat_inj, inD_nT, inD_nL, inD_pT, ite_and, ite_or, en_n, en_pr])
      have e2 : ((List.range 15).map fun k => PyData.bool (decide (k = j))) = ((List.range 15).map fun k => decide (k = j)).map .bool := by rw [List.map_map]; rfl
      rw [e2] at e1
      have e3 := eqBL ((List.range 15).map fun k => decide (k = j))
      refine wx_ifW (we_or (we_pure (.d (.bool false)) (by
        simp -implicitDefEqProofs only [ev_cmp, ev_fn, evs, ev_var, List.getElem?_cons_succ, List.getElem?_cons_zero, varW_some, bnd_ret, g200, hl, e1, look_d, cop, notO, e3, opt_some]; rfl) ⟨false, rfl, ?_⟩))
      rw [if_neg Bool.false_ne_true]
      refine we_and (we_pure (.d (.bool (decide ((j : Int) < 13)))) (by simp -implicitDefEqProofs only [ev_var, varW_some, ev_cst, ev_tup, ev_lst, ev_mls, ev_neg, ev_bin, ev_cmp, ev_chn, ev_and, ev_or, ev_not, ev_ifx, ev_ix, ev_sl, ev_slen, ev_six, ev_fn, ev_pr, evs, evo, evt, evi, bnd_ret, bnd_assoc, opt_some, look_d, looks_nil, looks_cons, asInt_d, asBool_d, asData_d, asScr_s, asCell_m, asDatas_nil, asDatas_cons, srcOf_l, srcOf_t, srcOf_m, List.getElem?_cons_zero, List.getElem?_cons_succ, Option.getD_some, cop, notO, prim, cmpI, ixD, slD, eqD_I, Int.ofNat_inj, inD_nT, inD_nL, inD_pT, ite_and, ite_or, en_n, en_pr, ltD]) ⟨_, rfl, ?_⟩)
      by_cases h13 : j < 13
      · rw [if_pos (decide_eq_true (by omega))]
        have hx := hx3 h13
        subst hx
        refine we_cmp (we_xstr (names15.getD j "") "one" (by simp -implicitDefEqProofs only [ev_var, List.getElem?_cons_succ, List.getElem?_cons_zero, varW_some]) hxm (we_pure (.d (.str "one")) rfl ⟨_, _, false, rfl, rfl, by simp only [cop, notO, eqOne]; rfl, false, rfl, ?_⟩))
        rw [if_neg Bool.false_ne_true]
        exact wx_nil (wx_nil ⟨_, _, rfl⟩)
      · rw [if_neg (by rw [decide_eq_false (by omega)]; exact Bool.false_ne_true)]
        refine ⟨false, rfl, ?_⟩
        rw [if_neg Bool.false_ne_true]
        exact wx_nil (wx_nil ⟨_, _, rfl⟩)
    · rintro ρ s5 ⟨a6, a7, rfl⟩
      have c1 : ev G20 (.xix (.var 5) (.cst (.int 13))) [some (.scr ns), some (.d (.int i)), some (.m c), some (.d (.int (r : Int))), some (en1 ring), some (.xl (everyX (en ring) (.int (r : Int)))), a6, a7, none] = M.ret (.xo (.own "OddRing" (en ring))) := by
        simp -implicitDefEqProofs only [ev_xix, ev_var, ev_cst, List.getElem?_cons_succ, List.getElem?_cons_zero, varW_some, bnd_ret, asXl_xl, asInt_d]; rfl
      have c2 : ev G20 (.xix (.var 5) (.cst (.int 14))) [some (.scr ns), some (.d (.int i)), some (.m c), some (.d (.int (r : Int))), some (en1 ring), some (.xl (everyX (en ring) (.int (r : Int)))), a6, a7, none] = M.ret (.xo (.own "TooMany" (.int (r : Int)))) := by
        simp -implicitDefEqProofs only [ev_xix, ev_var, ev_cst, List.getElem?_cons_succ, List.getElem?_cons_zero, varW_some, bnd_ret, asXl_xl, asInt_d]; rfl
      have d1 := ev_xarg (f := "ring") c1 (by decide +kernel)
      have d2 := ev_xarg (f := "limit") c2 (by decide +kernel)
      have q1 := eqD_en ring ring
      rw [decide_eq_true rfl] at q1
      have q2 : eqD (.int (r : Int)) (.int (r : Int)) = some true := by rw [eqD_I, decide_eq_true rfl]
      refine wx_ifF0 (by
        simp -implicitDefEqProofs only [ev_or, ev_cmp, d1, d2, ev_var, List.getElem?_cons_succ, List.getElem?_cons_zero, varW_some, bnd_ret, look_d, cop, notO, q1, q2, opt_some, asBool_d]; rfl) (wx_nil ⟨_, _, _, _, _, _, _, rfl⟩)
  · rintro ρ s1 ⟨a1, a2, a3, a4, a5, a6, a7, rfl⟩
    have hl := law_is_ok (.msg "LotError" "base") (by decide +kernel)
    have hl' : F__law_is [.xo (.msg "LotError" "base")] = M.ret (.d (.list ((List.replicate 15 false).map .bool))) := by
      rw [hl]
      show M.ret (W.d (.list ((names15.map (isExc "LotError")).map .bool))) = _
      rw [lot_is]
    have hm : bop .mul (.list [.bool false]) (.int 15) = some (.list ((List.replicate 15 false).map .bool)) := by
      unfold bop
      exact if_pos ⟨Nat.le_of_ble_eq_true rfl, by decide, by decide⟩
    have e3 := eqBL (List.replicate 15 false)
    exact wx_ret (.d (.bool true)) (by
      simp -implicitDefEqProofs only [ev_cmp, ev_fn, evs, ev_xnew, bnd_ret, g200, hl', ev_bin, ev_lst, ev_cst, asDatas_cons, asDatas_nil, look_d, hm, opt_some, cop, e3]) rfl
end Qv
namespace K20
open Qv
theorem law_true (ns : List Int) (h : ns.length ≤ 63) : ∃ S, F_law_k20 [.scr ns] [] = some (.ok (.d (.bool true)) S) := by
  obtain ⟨w, S, e, hw⟩ := law20 ns h []
  exact ⟨S, by rw [e, hw]⟩
end K20

/-! K20h -/
set_option maxHeartbeats 0
/-! the head, the end -/
namespace K20
open PySem PySem.Spec PyProof.Rows L2 Qv
def di_OddRing : He.DefD := ⟨("OddRing", some "__init__"), "__init__", "OddRing.__init__", defArgs (inClass (top 15) 0), defBody (inClass (top 15) 0), defScope (inClass (top 15) 0), [], []⟩
def di_TooMany : He.DefD := ⟨("TooMany", some "__init__"), "__init__", "TooMany.__init__", defArgs (inClass (top 16) 0), defBody (inClass (top 16) 0), defScope (inClass (top 16) 0), [], []⟩
def dd__law_jug_of : He.DefD := ⟨("_law_jug_of", none), "_law_jug_of", "_law_jug_of", defArgs (top 18), defBody (top 18), defScope (top 18), [], []⟩
def dd__law_dip : He.DefD := ⟨("_law_dip", none), "_law_dip", "_law_dip", defArgs (top 19), defBody (top 19), defScope (top 19), [], []⟩
def dd__law_made : He.DefD := ⟨("_law_made", none), "_law_made", "_law_made", defArgs (top 20), defBody (top 20), defScope (top 20), [], []⟩
def dd__law_is : He.DefD := ⟨("_law_is", none), "_law_is", "_law_is", defArgs (top 21), defBody (top 21), defScope (top 21), [], []⟩
def dd_law : He.DefD := ⟨("law", none), "law", "law", defArgs (top 22), defBody (top 22), defScope (top 22), [], []⟩
def fnL : List He.DefD := [dd__law_jug_of, dd__law_dip, dd__law_made, dd__law_is, dd_law, di_OddRing, di_TooMany]
def faL0 : List He.Fa := [.glo "_law_jug_of", .glo "_law_dip", .glo "_law_made", .glo "_law_is", .glo "law", .free "ValueError", .free "abs", .free "int", .free "isinstance", .free "len", .free "min", .free "range", .free "str", .free "tuple", .glo "InvalidColours", .exc "InvalidColours", .glo "InvalidFacts", .exc "InvalidFacts", .glo "InvalidLot", .exc "InvalidLot", .glo "InvalidNumber", .exc "InvalidNumber", .glo "InvalidPlace", .exc "InvalidPlace", .glo "InvalidSteps", .exc "InvalidSteps", .glo "InvalidText", .exc "InvalidText", .glo "InvalidWay", .exc "InvalidWay"]
def faL1 : List He.Fa := [.glo "InvalidWeb", .exc "InvalidWeb", .glo "LotError", .exc "LotError", .glo "NoLot", .exc "NoLot", .glo "NothingToUndo", .exc "NothingToUndo", .glo "Ringed", .exc "Ringed", .glo "Unlike", .exc "Unlike", .glo "OddRing", .noat "OddRing" "ring", .meth "OddRing" "__init__", .glo "TooMany", .noat "TooMany" "limit", .meth "TooMany" "__init__"]
def faL : List He.Fa := faL0 ++ (faL1)
def tfL : List He.Defn := [("law", none)]
def ex (K : PySem.W.Frag) : Bool := decide (Qv.lamHere K = (["law"] : List Str)) && (decide (((Qv.lamHere K).map fun x => (He.cT K (x, none)).2).Nodup) && (Qv.exB K && (Qv.oexB K (He.ga K "OddRing") && (Qv.oexB K (He.ga K "TooMany") && ((Qv.lotB K (He.ga K "LotError") && Qv.xallB K))))))
def loL : List Str := ["LotError", "InvalidWeb", "InvalidLot", "InvalidPlace", "InvalidWay", "InvalidSteps", "InvalidNumber", "InvalidColours", "InvalidFacts", "InvalidText", "Unlike", "NoLot", "Ringed", "NothingToUndo", "OddRing", "TooMany", "_law_jug_of", "_law_dip", "_law_made", "_law_is"]
abbrev R : PySem.W.OpenRow := PySem.W.OpenLaw.row PySem.Challenge.rw_quietlots_k20_error_classes
abbrev hk : PySem.W.Hook := Qv.hookQ 4 faL fnL tfL ex
def ob (s : PySem.W.SharedT) : He.AlX := Qv.obsQ 4 faL fnL tfL ex (HandSHeadRun.getT s)
theorem ob_eq (s : PySem.W.SharedT) : ob s = hk.obs s.abs := Qv.obsQ_eq (HandSHeadRun.getT_eq s)
theorem run (w : World) : HandSHeadRun.RunEq R (PySem.W.view R.prog [22]) hk ob 20000 loL w := by
  intro os
  kernel_rfl
theorem facts {h : Heap} {K : PySem.W.Frag} {mg : Str → Option Value} (X : K.In h) (G : h.Ns mainGlobals mg) (c : He.SaysD faL fnL K) (x : ex K = true) : ∃ fd : Nat → FuncData, Fx K mg fd := by
  obtain ⟨f0, F0⟩ := c.def_ 0 (d := dd__law_jug_of) rfl
  obtain ⟨f1, F1⟩ := c.def_ 1 (d := dd__law_dip) rfl
  obtain ⟨f2, F2⟩ := c.def_ 2 (d := dd__law_made) rfl
  obtain ⟨f3, F3⟩ := c.def_ 3 (d := dd__law_is) rfl
  obtain ⟨f4, F4⟩ := c.def_ 4 (d := dd_law) rfl
  obtain ⟨f5, F5⟩ := c.def_ 5 (d := di_OddRing) rfl
  obtain ⟨f6, F6⟩ := c.def_ 6 (d := di_TooMany) rfl
  refine ⟨fun n => ((([(18, f0), (19, f1), (20, f2), (21, f3), (22, f4), (1000, f5), (1001, f6)] : List (Nat × FuncData)).lookup n).getD f0), ?_⟩
  constructor
  · exact F0
  · exact He.glo_ok X G (c.fact 0 (f := .glo "_law_jug_of") rfl)
  · exact F1
  · exact He.glo_ok X G (c.fact 1 (f := .glo "_law_dip") rfl)
  · exact F2
  · exact He.glo_ok X G (c.fact 2 (f := .glo "_law_made") rfl)
  · exact F3
  · exact He.glo_ok X G (c.fact 3 (f := .glo "_law_is") rfl)
  · exact F4
  · exact He.glo_ok X G (c.fact 4 (f := .glo "law") rfl)
  · exact of_decide_eq_true (He.ba x).1
  · exact He.free_ok X G (c.fact 5 (f := .free "ValueError") rfl)
  · exact He.free_ok X G (c.fact 6 (f := .free "abs") rfl)
  · exact He.free_ok X G (c.fact 7 (f := .free "int") rfl)
  · exact He.free_ok X G (c.fact 8 (f := .free "isinstance") rfl)
  · exact He.free_ok X G (c.fact 9 (f := .free "len") rfl)
  · exact He.free_ok X G (c.fact 10 (f := .free "min") rfl)
  · exact He.free_ok X G (c.fact 11 (f := .free "range") rfl)
  · exact He.free_ok X G (c.fact 12 (f := .free "str") rfl)
  · exact He.free_ok X G (c.fact 13 (f := .free "tuple") rfl)
  · exact He.glo_ok X G (c.fact 14 (f := .glo "InvalidColours") rfl)
  · exact He.exc_ok (c.fact 15 (f := .exc "InvalidColours") rfl)
  · exact He.glo_ok X G (c.fact 16 (f := .glo "InvalidFacts") rfl)
  · exact He.exc_ok (c.fact 17 (f := .exc "InvalidFacts") rfl)
  · exact He.glo_ok X G (c.fact 18 (f := .glo "InvalidLot") rfl)
  · exact He.exc_ok (c.fact 19 (f := .exc "InvalidLot") rfl)
  · exact He.glo_ok X G (c.fact 20 (f := .glo "InvalidNumber") rfl)
  · exact He.exc_ok (c.fact 21 (f := .exc "InvalidNumber") rfl)
  · exact He.glo_ok X G (c.fact 22 (f := .glo "InvalidPlace") rfl)
  · exact He.exc_ok (c.fact 23 (f := .exc "InvalidPlace") rfl)
  · exact He.glo_ok X G (c.fact 24 (f := .glo "InvalidSteps") rfl)
  · exact He.exc_ok (c.fact 25 (f := .exc "InvalidSteps") rfl)
  · exact He.glo_ok X G (c.fact 26 (f := .glo "InvalidText") rfl)
  · exact He.exc_ok (c.fact 27 (f := .exc "InvalidText") rfl)
  · exact He.glo_ok X G (c.fact 28 (f := .glo "InvalidWay") rfl)
  · exact He.exc_ok (c.fact 29 (f := .exc "InvalidWay") rfl)
  · exact He.glo_ok X G (c.fact 30 (f := .glo "InvalidWeb") rfl)
  · exact He.exc_ok (c.fact 31 (f := .exc "InvalidWeb") rfl)
  · exact He.glo_ok X G (c.fact 32 (f := .glo "LotError") rfl)
  · exact He.exc_ok (c.fact 33 (f := .exc "LotError") rfl)
  · exact He.glo_ok X G (c.fact 34 (f := .glo "NoLot") rfl)
  · exact He.exc_ok (c.fact 35 (f := .exc "NoLot") rfl)
  · exact He.glo_ok X G (c.fact 36 (f := .glo "NothingToUndo") rfl)
  · exact He.exc_ok (c.fact 37 (f := .exc "NothingToUndo") rfl)
  · exact He.glo_ok X G (c.fact 38 (f := .glo "Ringed") rfl)
  · exact He.exc_ok (c.fact 39 (f := .exc "Ringed") rfl)
  · exact He.glo_ok X G (c.fact 40 (f := .glo "Unlike") rfl)
  · exact He.exc_ok (c.fact 41 (f := .exc "Unlike") rfl)
  · exact He.glo_ok X G (c.fact 42 (f := .glo "OddRing") rfl)
  · exact Qv.oexB_ok (He.ba (He.ba (He.ba (He.ba x).2).2).2).1
  · exact He.noat_ok (c.fact 43 (f := .noat "OddRing" "ring") rfl)
  · exact He.meth_ok (c.fact 44 (f := .meth "OddRing" "__init__") rfl)
  · exact F5
  · exact He.glo_ok X G (c.fact 45 (f := .glo "TooMany") rfl)
  · exact Qv.oexB_ok (He.ba (He.ba (He.ba (He.ba (He.ba x).2).2).2).2).1
  · exact He.noat_ok (c.fact 46 (f := .noat "TooMany" "limit") rfl)
  · exact He.meth_ok (c.fact 47 (f := .meth "TooMany" "__init__") rfl)
  · exact F6
  · exact Qv.lotB_ok (He.ba (He.ba (He.ba (He.ba (He.ba (He.ba x).2).2).2).2).2).1
  · exact Qv.xallB_ok (He.ba (He.ba (He.ba (He.ba (He.ba (He.ba x).2).2).2).2).2).2
theorem law_ok {P : Program} {w : World} {K : PySem.W.Frag} {mg : Str → Option Value} {base : Heap} {fd : Nat → FuncData} (hF : Fx K mg fd) (LK : LamK K base mg) : FnOk P w K mg base (L2.CX P w) 4 (He.ga K "law") (fd 22) ["_law_script"] (spF K mg F_law_k20 1) := by
  have h__law_is : FnOk P w K mg base (L2.CX P w) 3 (He.ga K "_law_is") (fd 21) ["_law_one"] (spF K mg F__law_is 1) := ok__law_is hF 
  have h__law_made : FnOk P w K mg base (L2.CX P w) 1 (He.ga K "_law_made") (fd 20) [] (spF K mg F__law_made_k20 0) := ok__law_made hF 
  have h__law_dip : FnOk P w K mg base (L2.CX P w) 1 (He.ga K "_law_dip") (fd 19) ["_law_jug", "_law_many"] (spF K mg F__law_dip 2) := ok__law_dip hF 
  have h__law_jug_of : FnOk P w K mg base (L2.CX P w) 1 (He.ga K "_law_jug_of") (fd 18) ["_law_script", "_law_k"] (spF K mg F__law_jug_of 2) := ok__law_jug_of hF 
  exact ok_law hF (h__law_is.mono (by decide)) (h__law_made.mono (by decide)) (h__law_dip.mono (by decide)) (h__law_jug_of.mono (by decide))
end K20
open PySem PySem.W PySem.Calls PyProof.Rows
theorem PySem.Challenge.cw_quietlots_k20_error_classes_holds : PySem.Challenge.rw_quietlots_k20_error_classes.Holds := by
  w_on; o_law
  refine HandSHeadRun.head_any (r := OpenLaw.row PySem.Challenge.rw_quietlots_k20_error_classes) (q := view (OpenLaw.row PySem.Challenge.rw_quietlots_k20_error_classes).prog [22]) (H := K20.hk) (ob := K20.ob) (M := 20000) (loose := K20.loL) (d := HandSHeadRun.topDef (OpenLaw.row PySem.Challenge.rw_quietlots_k20_error_classes).prog 22) (kwd := []) K20.ob_eq
    (by kernel_rfl) (fun s => by kernel_rfl) K20.run (by kernel_rfl) (by kernel_rfl) (by kernel_rfl) (by rfl) (by first | assumption | decide +kernel) (by decide +kernel) ⟨rfl, rfl, rfl, rfl, rfl, by decide +kernel⟩ ?hw ?hc
  case hw => w_witness2
  case hc =>
    refine LamX.walk_ofTsE (l := PySem.Challenge.rw_quietlots_k20_error_classes) (n := 63) (k := 4) (x := "_law_script") (CX := fun _ => L2.CX0) rfl (by decide) (by kernel_rfl) ⟨rfl, by decide, by decide⟩ ?F (fun _ _ _ _ _ z => z)
    intro w mg fa h Y G hmg0
    obtain ⟨K, KX, c⟩ := Y
    have hmg : mg ("law" : PySem.Str) = some (.ref fa) := by
      have e : (HandSHeadRun.topDef (OpenLaw.row PySem.Challenge.rw_quietlots_k20_error_classes).prog 22).name = ("law" : PySem.Str) := by kernel_rfl
      rw [← e]
      exact hmg0
    obtain ⟨fd, hF⟩ := K20.facts KX G c.t.d c.more
    have e := hmg.symm.trans hF.g_law
    cases e
    have b := L2.FunD.bindsA (ps := ["_law_script"]) hF.d_law fun _ _ _ _ _ _ us hl => match us, hl with | [_], _ => rfl
    exact Qv.law_end (L := K20.tfL) KX c hF.lam (He.ba (He.ba c.more).2).1 rfl (fun s v => b s [v] rfl) (fun base LK => Qv.FnOk.calm (K20.law_ok (P := PySem.Challenge.rw_quietlots_k20_error_classes.prog) (w := w) hF LK) (Qv.law_sp K20.law_true))

