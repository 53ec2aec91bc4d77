import PyProof.Rows.All
import Wide.All
import OpenK.AllK
import Wide.FinOn
import HandS.ForMost
import HandS.ForExc
import HandS.ExcInit
import KE.KExcIs
import KE.KExcInit
import KE.KTryMore
import HandS.IsInst
import HandS.TupAny
import HandS.TupMul
import HandS.Deep
import HandS.Flow
import HandS.ExcOwn
import HandS.WordsExc
import HandS.NoneIn
import HandS.Zip
import HandS.Rev
import HandS.Walk
import KE.GoesMore
import PyProof.EnumMake
import HandS.Style
import HandS.Conv
import HandS.SetFor
import HandS.SortInts
import HandS.SortOrd
import HandS.Strs
import HandS.Iter
import PySem.Challenge.RW_catchwords_k85_whole_alike_by_all_rows
set_option Elab.async false
set_option linter.all false
-- Dn1
set_option maxRecDepth 512
set_option maxHeartbeats 200000
/-! The evaluator: values, syntax, meaning. Plain Lean, no heap. -/
namespace Dn
open PySem

/-- values that never change -/
inductive W where
  | non | bl (b : Bool) | int (i : Int) | str (s : Str)
  | tup (ws : List W) | lst (ws : List W)
  | dct (ks vs : List W)
  | ins (c : Nat) (ns : List Str) (vs : List W)
  | scr (is : List Int)
  | fn (f : Nat)
  | exc (c : Nat) (ns : List Str) (vs : List W)

/-- what a name may own -/
inductive M where
  | im (w : W)
  | ls (ws : List W)
  | dc (ks vs : List W)
  | ob (c : Nat) (ns : List Str) (ms : List M)
  | pin (G : L2.Hp)

mutual
def M.fz : M → W
  | .im w => w
  | .ls ws => .lst ws
  | .dc ks vs => .dct ks vs
  | .ob c ns ms => .ins c ns (M.fzs ms)
  | .pin _ => .non
def M.fzs : List M → List W
  | [] => []
  | m :: ms => m.fz :: M.fzs ms
end

abbrev Env := List (Option M)

/-- what comes of a piece -/
inductive R (a : Type) where
  | ok (x : a) (r : Env)
  | exc (w : W) (r : Env)
  | stuck

def R.bind {a b : Type} : R a → (a → Env → R b) → R b
  | .ok x r, f => f x r
  | .exc w r, _ => .exc w r
  | .stuck, _ => .stuck

/-- what comes of a call: the value, and what the arguments hold then -/
inductive FR where
  | ok (m : M) (ms : List M)
  | exc (w : W) (ms : List M)
  | stuck

inductive BO | add | sub | mul | fdiv | mod | pow
inductive CO | eq | ne | lt | le | gt | ge | is_ | isn | in_ | nin
inductive BI | len | abs | max2 | min2 | maxl | minl | sum | all | any | tuple | list | sorted | sset | lset | int | str | tuprng | lstrng | trev | repr
inductive MT | count | index | get1 | get2 | join | split | items
/-- the built-in base of an own exception class -/
inductive BS | V | L | R | O
def upOf : BS → List String
  | .V => ["ValueError", "Exception", "BaseException", "object"]
  | .L => ["LookupError", "Exception", "BaseException", "object"]
  | .R => ["RuntimeError", "Exception", "BaseException", "object"]
  | .O => ["OverflowError", "ArithmeticError", "Exception", "BaseException", "object"]
/-- an own exception class: its name, the fields that its __init__ stores, its base -/
structure CD where
  name : Str
  fs : List Str
  base : BS
def lkC : List (Nat × CD) → Nat → Option CD
  | [], _ => none
  | (i, d) :: l, j => if i = j then some d else lkC l j
/-- a class that isinstance asks for -/
inductive XT | own (s : Str) | blt (s : String)
def xtB (d : CD) : XT → Bool
  | .own s => decide (d.name = s)
  | .blt s => (upOf d.base).contains s
inductive TY | int | bool | str | list | tuple | cls (c : Nat) | bad
inductive MU | append | extend | insert | pop | popat | reverse

inductive T where
  | nm (i : Nat)
  | tp (ts : List T)

mutual
inductive E where
  | var (i : Nat)
  | cst (w : W)
  | glob (x : Str) (w : W)
  | bin (o : BO) (a b : E)
  | neg (a : E)
  | inv (a : E)
  | con (a b : E)
  | dis (a b : E)
  | cmp (o : CO) (a b : E)
  | chn (o p : CO) (a b c : E)
  | ife (c a b : E)
  | tup (es : Es)
  | lst (es : Es)
  | dct (ks vs : Es)
  | idx (a i : E)
  | slc (a : E) (lo hi : OE)
  | pidx (i : Nat) (fs : List Str) (e : E)
  | pslc (i : Nat) (fs : List Str) (lo hi : OE)
  | plen (i : Nat) (fs : List Str)
  | pin (ng : Bool) (e : E) (i : Nat) (fs : List Str)
  | pth (i : Nat) (fs : List Str)
  | bi (b : BI) (es : Es)
  | mth (m : MT) (o : E) (es : Es)
  | mut (m : MU) (i : Nat) (fs : List Str) (es : Es)
  | call (f : Nat) (as : As)
  | callk (f : Nat) (as ks : As) (pm : List Nat)
  | fnr (f : Nat)
  | cld (e : E) (as : As)
  | comp (own : List Nat) (t : T) (it : It) (c : OE) (e : E)
  | dcomp (own : List Nat) (t : T) (it : It) (k v : E)
  | fld (a : E) (f : Str)
  | isi (a : E) (ts : List TY)
  | isx (a : E) (ts : List XT)
  | rvs (a : E)
  | pur (e : E)
  | rg1 (tup : Bool) (b : E)
  | rg2 (tup : Bool) (a b : E)
  | frz (e : E)
  | srs (e : E)
  | lns (e : E)
  | srt (e : E)
  | bad
inductive Es where
  | nil
  | cons (e : E) (es : Es)
inductive OE where
  | none
  | some (e : E)
inductive As where
  | nil
  | val (e : E) (as : As)
  | bor (i : Nat) (as : As)
inductive It where
  | seq (e : E)
  | rng1 (a : E)
  | rng2 (a b : E)
  | rng3 (a b c : E)
  | enum (e : E)
  | zip2 (a b : E)
  | zip2s (a b : E)
  | rev (e : E)
  | items (e : E)
end

mutual
inductive S where
  | set (t : T) (e : E)
  | par (is : List Nat) (as : As)
  | aug (i : Nat) (o : BO) (e : E)
  | seti (i : Nat) (fs : List Str) (x e : E)
  | setf (i : Nat) (f : Str) (e : E)
  | ex (e : E)
  | ret (e : E)
  | retv (i : Nat)
  | retn
  | ite (c : E) (a b : Ss)
  | for_ (t : T) (it : It) (b : Ss)
  | whl (c : E) (b : Ss)
  | rse (c : Nat) (es : Es)
  | tryc (b : Ss) (cs : List Str) (n i : Nat)
  | pas
  | brk
  | bad
inductive Ss where
  | nil
  | cons (s : S) (ss : Ss)
end

inductive Fl where
  | nx
  | ret (m : M)
  | bk

/-! ### operations on values -/
def LIM : Nat := 1000000

mutual
/-- as data -/
def W.toD : W → Option PyData
  | .non => some .none
  | .bl b => some (.bool b)
  | .int i => some (.int i)
  | .str s => some (.str s)
  | .tup ws => (W.toDs ws).map .tuple
  | .lst ws => (W.toDs ws).map .list
  | _ => none
def W.toDs : List W → Option (List PyData)
  | [] => some []
  | w :: ws => match w.toD, W.toDs ws with
    | some d, some ds => some (d :: ds)
    | _, _ => none
end
/-- ==, where both are data of a moderate size -/
def eqW (a b : W) : Option Bool :=
  match a.toD, b.toD with
  | some d, some e => if SeqAt.shaped d && SeqAt.shaped e then some (PyData.eqv d e) else none
  | _, _ => none
def isNon : W → Bool
  | .non => true
  | _ => false
/-- x in a list of data -/
def inL (x : W) (ws : List W) : Option Bool :=
  match x.toD, W.toDs ws with
  | some d, some ds => if SeqAt.shaped d && SeqAt.shaped (.list ds) then some (ds.any fun z => PyData.eqv z d) else none
  | _, _ => none
def flatW : W → Bool
  | .non => true
  | .bl _ => true
  | .int _ => true
  | .str _ => true
  | _ => false
def eqF : W → W → Bool
  | .non, .non => true
  | .bl a, .bl b => a == b
  | .bl a, .int b => (if a then 1 else 0) == b
  | .int a, .bl b => a == (if b then 1 else 0)
  | .int a, .int b => a == b
  | .str a, .str b => a == b
  | _, _ => false
/-- x in a tuple of flat things -/
def inT (x : W) (ws : List W) : Option Bool :=
  if flatW x && ws.all flatW then some (ws.any fun y => eqF y x) else none
def strLt (a b : Str) : Bool := decide (a.cps.toList < b.cps.toList)

def cmpW : CO → W → W → Option Bool
  | .eq, a, b => eqW a b
  | .ne, a, b => (eqW a b).map (!·)
  | .lt, .int i, .int j => some (decide (i < j))
  | .le, .int i, .int j => some (decide (i ≤ j))
  | .gt, .int i, .int j => some (decide (j < i))
  | .ge, .int i, .int j => some (decide (j ≤ i))
  | .lt, .str a, .str b => some (strLt a b)
  | .is_, a, .non => some (isNon a)
  | .isn, a, .non => some (!isNon a)
  | .is_, .bl a, .bl b => some (a == b)
  | .isn, .bl a, .bl b => some (a != b)
  | .in_, x, .lst ws => inL x ws
  | .in_, x, .tup ws => inT x ws
  | .nin, x, .lst ws => (inL x ws).map (!·)
  | .nin, x, .tup ws => (inT x ws).map (!·)
  | _, _, _ => none

def mulOk (i j : Int) : Bool := decide (-(2 ^ 64) < i ∧ i < 2 ^ 64) || decide (-(2 ^ 64) < j ∧ j < 2 ^ 64)
def powOk (i j : Int) : Bool := decide (0 ≤ j) && decide (j ≤ 1000000) && decide (i.natAbs < 2 ^ 64)

def binW : BO → W → W → Option M
  | .add, .int i, .int j => some (.im (.int (i + j)))
  | .sub, .int i, .int j => some (.im (.int (i - j)))
  | .mul, .int i, .int j => if mulOk i j then some (.im (.int (i * j))) else none
  | .fdiv, .int i, .int j => if 0 < j ∧ j < 1073741824 then some (.im (.int (i / j))) else none
  | .mod, .int i, .int j => if 0 < j then some (.im (.int (i % j))) else none
  | .pow, .int i, .int j => if powOk i j then some (.im (.int (i ^ j.toNat))) else none
  | .add, .str a, .str b => if a.length + b.length ≤ LIM then some (.im (.str (a ++ b))) else none
  | .add, .lst a, .lst b => if a.length + b.length ≤ LIM then some (.ls (a ++ b)) else none
  | .add, .tup a, .tup b => if a.length + b.length ≤ LIM then some (.im (.tup (a ++ b))) else none
  | .mul, .lst a, .int k => if k < 2 ^ 60 ∧ -(2 ^ 60) < k ∧ a.length * k.toNat ≤ LIM then some (.ls (List.replicate k.toNat a).flatten) else none
  | .mul, .tup a, .int k => if 0 < a.length ∧ a.length ≤ 1000 ∧ 1 ≤ k ∧ k ≤ 1000 then some (.im (.tup (List.replicate k.toNat a).flatten)) else none
  | _, _, _ => none

def ixW (ws : List W) (i : Int) : Option W := L2.atI ws i
def cutW (ws : List W) (lo hi : Option Int) : List W :=
  (ws.drop (HT.sIx ws.length 0 lo)).take (HT.sIx ws.length ws.length hi - HT.sIx ws.length 0 lo)
def idxW : W → Int → Option W
  | .lst ws, i => ixW ws i
  | .tup ws, i => ixW ws i
  | .scr is, i => (L2.atI is i).map .int
  | .str s, i => if s.length ≤ LIM then (L2.atI s.cps.toList i).map fun c => .str ⟨#[c]⟩ else none
  | _, _ => none
def idxM : M → Int → Option W
  | .ls ws, i => ixW ws i
  | .im w, i => idxW w i
  | _, _ => none
def slcM : M → Option Int → Option Int → Option M
  | .ls ws, a, b => some (.ls (cutW ws a b))
  | .im (.lst ws), a, b => some (.ls (cutW ws a b))
  | .im (.tup ws), a, b => some (.im (.tup (cutW ws a b)))
  | _, _, _ => none
def lenM : M → Option Int
  | .ls ws => some ws.length
  | .im (.lst ws) => some ws.length
  | .im (.tup ws) => some ws.length
  | .im (.scr is) => some is.length
  | _ => none
def truW : W → Option Bool
  | .non => some false
  | .bl b => some b
  | .int i => some (i != 0)
  | .lst ws => some (!ws.isEmpty)
  | .tup ws => some (!ws.isEmpty)
  | _ => none

def intsW : List W → Option (List Int)
  | [] => some []
  | .int i :: ws => (intsW ws).map (i :: ·)
  | _ => none
def blsW : List W → Option (List Bool)
  | [] => some []
  | .bl b :: ws => (blsW ws).map (b :: ·)
  | _ => none
def seqOf : W → Option (List W)
  | .lst ws => some ws
  | .tup ws => some ws
  | _ => none


/-! ### environments -/
def getM (r : Env) (i : Nat) : Option M :=
  match r[i]? with
  | some (some m) => some m
  | _ => none
def fldM : List Str → List M → Str → Option M
  | n :: ns, m :: ms, f => if n = f then some m else fldM ns ms f
  | _, _, _ => none
def setFld : List Str → List M → Str → M → List M
  | n :: ns, m :: ms, f, x => if n = f then x :: ms else m :: setFld ns ms f x
  | _, ms, _, _ => ms
/-- the place i.f -/
def getP (r : Env) (i : Nat) : List Str → Option M
  | [] => getM r i
  | [f] => match getM r i with
    | some (.ob _ ns ms) => fldM ns ms f
    | some (.im (.ins _ ns vs)) => fldM ns (vs.map .im) f
    | _ => none
  | _ => none
def setP (r : Env) (i : Nat) (fs : List Str) (x : M) : Env :=
  match fs with
  | [] => r.set i (some x)
  | [f] => match getM r i with
    | some (.ob c ns ms) => r.set i (some (.ob c ns (setFld ns ms f x)))
    | _ => r
  | _ => r

mutual
def bindT : T → W → Env → Option Env
  | .nm i, w, r => some (r.set i (some (.im w)))
  | .tp ts, w, r => match w with
    | .tup ws => bindTs ts ws r
    | .lst ws => bindTs ts ws r
    | _ => none
def bindTs : List T → List W → Env → Option Env
  | [], [], r => some r
  | t :: ts, w :: ws, r => match bindT t w r with
    | some r' => bindTs ts ws r'
    | none => none
  | _, _, _ => none
end
def wipeE : List Nat → Env → Env
  | [], r => r
  | v :: vs, r => (wipeE vs r).set v none
/-- the own slots as they were -/
def backE : List Nat → Env → Env → Env
  | [], _, r => r
  | v :: vs, r0, r => (backE vs r0 r).set v (r0.getD v none)

/-! ### builtins -/
def sumI : List Int → Int
  | [] => 0
  | i :: is => i + sumI is
def maxI : Int → List Int → Int
  | m, [] => m
  | m, i :: is => maxI (if i > m then i else m) is
def minI : Int → List Int → Int
  | m, [] => m
  | m, i :: is => minI (if i < m then i else m) is
/-- the bounds of a range that is laid at once -/
def rgOk (a b : Int) : Bool := decide (-(2 ^ 62) ≤ a) && decide (a < 2 ^ 62) && decide (-(2 ^ 62) ≤ b) && decide (b < 2 ^ 62) && decide ((b - a).toNat ≤ LIM)
def upTo (lo : Int) : Nat → List W
  | 0 => []
  | n + 1 => .int lo :: upTo (lo + 1) n
def rngM (tup : Bool) (a b : Int) : Option M := if rgOk a b then some (if tup then .im (.tup (upTo a (b - a).toNat)) else .ls (upTo a (b - a).toNat)) else none
def biW : BI → List W → Option M
  | .len, [.str s] => if s.length ≤ LIM then some (.im (.int s.length)) else none
  | .len, [.lst ws] => some (.im (.int ws.length))
  | .len, [.tup ws] => some (.im (.int ws.length))
  | .len, [.scr is] => some (.im (.int is.length))
  | .abs, [.int i] => some (.im (.int (if i < 0 then -i else i)))
  | .max2, [.int i, .int j] => some (.im (.int (if j > i then j else i)))
  | .min2, [.int i, .int j] => some (.im (.int (if j < i then j else i)))
  | .int, [.int i] => some (.im (.int i))
  | .int, [.bl b] => some (.im (.int (if b then 1 else 0)))
  | .tuple, [.lst ws] => some (.im (.tup ws))
  | .tuple, [.tup ws] => some (.im (.tup ws))
  | .list, [.lst ws] => some (.ls ws)
  | .list, [.tup ws] => some (.ls ws)
  | .sum, [.lst ws] => (intsW ws).map fun is => .im (.int is.sum)
  | .all, [.lst ws] => (blsW ws).map fun bs => .im (.bl (bs.all id))
  | .any, [.lst ws] => (blsW ws).map fun bs => .im (.bl (bs.any id))
  | .maxl, [.lst ws] => match intsW ws with
    | some (i :: is) => some (.im (.int (maxI i is)))
    | _ => none
  | .minl, [.lst ws] => match intsW ws with
    | some (i :: is) => some (.im (.int (minI i is)))
    | _ => none
  | _, _ => none
/-- the first place of an equal one -/
def idxL (x : W) (ws : List W) : Option Nat :=
  match x.toD, W.toDs ws with
  | some d, some ds => if SeqAt.shaped d && SeqAt.shaped (.list ds) then ds.findIdx? fun z => PyData.eqv z d else none
  | _, _ => none
/-- how many equal ones -/
def cntL (x : W) (ws : List W) : Option Nat :=
  match x.toD, W.toDs ws with
  | some d, some ds => if SeqAt.shaped d && SeqAt.shaped (.list ds) then some (ds.countP fun z => PyData.eqv z d) else none
  | _, _ => none
def mthTy : MT → W → Bool
  | .index, .lst _ => true
  | .count, .lst _ => true
  | _, _ => false
def mthW : MT → W → List W → Option M
  | .index, .lst ws, [x] => (idxL x ws).map fun j => .im (.int ((j : Nat) : Int))
  | .count, .lst ws, [x] => (cntL x ws).map fun j => .im (.int ((j : Nat) : Int))
  | _, _, _ => none
def mutW : MU → M → List W → Option (M × M)
  | .append, .ls ws, [w] => if ws.length < LIM then some (.im .non, .ls (ws ++ [w])) else none
  | .extend, .ls ws, [.lst us] => if ws.length + us.length ≤ LIM then some (.im .non, .ls (ws ++ us)) else none
  | .pop, .ls ws, [] => match ws[ws.length - 1]? with
    | some w => some (.im w, .ls ws.dropLast)
    | none => none
  | .reverse, .ls ws, [] => some (.im .non, .ls ws.reverse)
  | _, _, _ => none
def isTy : TY → W → Option Bool
  | .int, .int _ => some true
  | .int, .bl _ => some true
  | .bool, .bl _ => some true
  | .str, .str _ => some true
  | .list, .lst _ => some true
  | .tuple, .tup _ => some true
  | .cls _, _ => none
  | .bad, _ => none
  | _, .non => some false
  | _, .bl _ => some false
  | _, .int _ => some false
  | _, .str _ => some false
  | _, .tup _ => some false
  | _, .lst _ => some false
  | _, _ => none
def isTys : List TY → W → Option Bool
  | [], _ => some false
  | t :: ts, w => match isTy t w, isTys ts w with
    | some a, some b => some (a || b)
    | _, _ => none

/-! ### rising -/
def insI (x : Int) : List Int → List Int
  | [] => [x]
  | y :: l => if x ≤ y then x :: y :: l else y :: insI x l
def sortI (l : List Int) : List Int := l.foldr insI []
/-- .. nothing twice -/
def insU (x : Int) : List Int → List Int
  | [] => [x]
  | y :: l => if x < y then x :: y :: l else if x = y then y :: l else y :: insU x l
def sortU (l : List Int) : List Int := l.foldr insU []
def leP (p q : Int × Int) : Bool := decide (p.1 < q.1) || (decide (p.1 = q.1) && decide (p.2 ≤ q.2))
def insP (x : Int × Int) : List (Int × Int) → List (Int × Int)
  | [] => [x]
  | y :: l => if leP x y then x :: y :: l else y :: insP x l
def sortP (l : List (Int × Int)) : List (Int × Int) := l.foldr insP []
def pairW (p : Int × Int) : W := .tup [.int p.1, .int p.2]
def prsW : List W → Option (List (Int × Int))
  | [] => some []
  | .tup [.int i, .int j] :: ws => (prsW ws).map ((i, j) :: ·)
  | _ => none
/-- sorted of whole numbers, of pairs of them -/
def sortW (ws : List W) : Option M := match intsW ws with
  | some is => some (.ls ((sortI is).map .int))
  | none => (prsW ws).map fun ps => .ls ((sortP ps).map pairW)
def setW (ws : List W) : Option (List Int) := if ws.length < 64 then (intsW ws).map sortU else none
/-! ### loops -/
/-- from hi down -/
def dnTo (hi : Int) : Nat → List W
  | 0 => []
  | n + 1 => .int hi :: dnTo (hi - 1) n
def enumFrom : Nat → List W → List W
  | _, [] => []
  | n, w :: ws => .tup [.int n, w] :: enumFrom (n + 1) ws
def zipW : List W → List W → List W
  | a :: as, b :: bs => .tup [a, b] :: zipW as bs
  | _, _ => []
/-- zip of two lists, of two tuples -/
def zipS : W → W → Option (List W)
  | .lst xs, .lst ys => some (zipW xs ys)
  | .tup xs, .tup ys => some (zipW xs ys)
  | _, _ => none
/-- a comprehension over its items; what is made so far is acc -/
def compL (f : W → Env → R (Option W)) : List W → Env → List W → R (List W)
  | [], r, acc => .ok acc r
  | w :: ws, r, acc => match f w r with
    | .ok (some x) r' => if acc.length < LIM then compL f ws r' (acc ++ [x]) else .stuck
    | .ok none r' => compL f ws r' acc
    | _ => .stuck
def forL (f : W → Env → R Fl) : List W → Env → R Fl
  | [], r => .ok .nx r
  | w :: ws, r => match f w r with
    | .ok .nx r' => forL f ws r'
    | .ok .bk r' => .ok .nx r'
    | .ok (.ret m) r' => .ok (.ret m) r'
    | .exc w r' => .exc w r'
    | .stuck => .stuck
def whlL (c : Env → R Bool) (f : Env → R Fl) : Nat → Env → R Fl
  | 0, _ => .stuck
  | n + 1, r => match c r with
    | .ok true r1 => match f r1 with
      | .ok .nx r' => whlL c f n r'
      | .ok .bk r' => .ok .nx r'
      | .ok (.ret m) r' => .ok (.ret m) r'
      | .exc w r' => .exc w r'
      | .stuck => .stuck
    | .ok false r1 => .ok .nx r1
    | .exc w r' => .exc w r'
    | .stuck => .stuck

/-- what the evaluator leans on: the defs' meaning, the module's constants, exceptions' field names, how long a while may go -/
structure Th where
  fn : Nat → List M → FR
  ex : Nat → Option CD
  rz : Bool
  fuel : Nat
/-- a field of a value -/
def fldW : List Str → List W → Str → Option W
  | n :: ns, w :: ws, f => if n = f then some w else fldW ns ws f
  | _, _, _ => none

def R.ofO {a : Type} (r : Env) : Option a → R a
  | some x => .ok x r
  | none => .stuck
def R.w (x : R M) : R W := x.bind fun m r => .ok m.fz r
def R.tru (x : R M) : R Bool := x.bind fun m r => R.ofO r (truW m.fz)
def R.int (x : R M) : R Int := x.bind fun m r => match m with
  | .im (.int i) => .ok i r
  | _ => .stuck
def fillA (r : Env) : List (Nat ⊕ M) → Option (List M)
  | [] => some []
  | .inl i :: l => match getM r i, fillA r l with
    | some m, some ms => some (m :: ms)
    | _, _ => none
  | .inr m :: l => match fillA r l with
    | some ms => some (m :: ms)
    | none => none
def backA (r : Env) : List (Nat ⊕ M) → List M → Env
  | .inl i :: l, m :: ms => (backA r l ms).set i (some m)
  | .inr _ :: l, _ :: ms => backA r l ms
  | _, _ => r
def borL : List (Nat ⊕ M) → List Nat
  | [] => []
  | .inl i :: l => i :: borL l
  | .inr _ :: l => borL l
def callA (fn : List M → FR) (l : List (Nat ⊕ M)) (r : Env) : R M :=
  if (borL l).Nodup then
    match fillA r l with
    | some ms => match fn ms with
      | .ok m ms' => .ok m (backA r l ms')
      | .exc w ms' => .exc w (backA r l ms')
      | .stuck => .stuck
    | none => .stuck
  else .stuck

/-- by the order of the parameters -/
def pmA {α : Type} (pm : List Nat) (l : List α) : List α := pm.filterMap fun i => l[i]?
def pmOk (pm : List Nat) (n : Nat) : Bool := decide (pm.Perm (List.range n))
def allR : List (Nat ⊕ M) → Bool
  | [] => true
  | .inl _ :: _ => false
  | .inr _ :: l => allR l
/-- all given up -/
def frzE (r : Env) : Env := r.map fun o => o.map fun m => .im m.fz
/-- a value without objects -/
def plainM : M → Option W
  | .im .non => some .non
  | .im (.bl b) => some (.bl b)
  | .im (.int i) => some (.int i)
  | .im (.str s) => some (.str s)
  | _ => none
/-- the names of a tuple filled -/
def parE : List Nat → List (Nat ⊕ M) → Env → Option Env
  | [], [], r => some r
  | i :: is, .inr m :: l, r => parE is l (r.set i (some m))
  | _, _, _ => none
/-- i op= j -/
def augW : BO → W → W → Option W
  | .add, .int i, .int j => some (.int (i + j))
  | .sub, .int i, .int j => some (.int (i - j))
  | _, _, _ => none
section
variable (h : Th)
mutual
def evE : E → Env → R M
  | .var i, r => match getM r i with
    | some m => .ok (.im m.fz) (r.set i (some (.im m.fz)))
    | none => .stuck
  | .cst w, r => .ok (.im w) r
  | .glob _ w, r => .ok (.im w) r
  | .frz e, r => (evE e r).bind fun m r1 => .ok (.im m.fz) r1
  | .srs e, r => (evE e r).w.bind fun x r1 => R.ofO r1 (((seqOf x).bind setW).map fun is => .ls (is.map .int))
  | .lns e, r => (evE e r).w.bind fun x r1 => R.ofO r1 (((seqOf x).bind setW).map fun is => .im (.int is.length))
  | .srt e, r => (evE e r).w.bind fun x r1 => match x with
    | .lst ws => R.ofO r1 (sortW ws)
    | _ => .stuck
  | .bin o a b, r => (evE a r).w.bind fun x r1 => (evE b r1).w.bind fun y r2 => R.ofO r2 (binW o x y)
  | .neg a, r => (evE a r).int.bind fun i r1 => .ok (.im (.int (-i))) r1
  | .inv a, r => (evE a r).tru.bind fun b r1 => .ok (.im (.bl (!b))) r1
  | .con a b, r => (evE a r).w.bind fun w r1 => match truW w with
    | some true => evE b r1
    | some false => .ok (.im w) r1
    | none => .stuck
  | .dis a b, r => (evE a r).w.bind fun w r1 => match truW w with
    | some true => .ok (.im w) r1
    | some false => evE b r1
    | none => .stuck
  | .cmp o a b, r => (evE a r).w.bind fun x r1 => (evE b r1).w.bind fun y r2 => R.ofO r2 ((cmpW o x y).map fun b => .im (.bl b))
  | .chn o p a b c, r => (evE a r).w.bind fun x r1 => (evE b r1).w.bind fun y r2 => match cmpW o x y with
    | some true => (evE c r2).w.bind fun z r3 => R.ofO r3 ((cmpW p y z).map fun b => .im (.bl b))
    | some false => .ok (.im (.bl false)) r2
    | none => .stuck
  | .ife c a b, r => (evE c r).tru.bind fun k r1 => if k then evE a r1 else evE b r1
  | .tup es, r => (evEs es r).bind fun ws r1 => if ws.length ≤ LIM then .ok (.im (.tup ws)) r1 else .stuck
  | .lst es, r => (evEs es r).bind fun ws r1 => if ws.length ≤ LIM then .ok (.ls ws) r1 else .stuck
  | .idx a i, r => (evE a r).w.bind fun x r1 => (evE i r1).int.bind fun k r2 => R.ofO r2 ((idxW x k).map .im)
  | .slc a lo hi, r => (evE a r).w.bind fun x r1 => (evO lo r1).bind fun l r2 => (evO hi r2).bind fun u r3 => R.ofO r3 (slcM (.im x) l u)
  | .pidx i fs e, r => if fs = [] ∧ (getM r i).isSome then (evE e r).int.bind fun k r1 => R.ofO r1 (((getM r1 i).bind fun m => idxM m k).map .im) else .stuck
  | .pslc i fs lo hi, r => if fs = [] ∧ (getM r i).isSome then (evO lo r).bind fun l r1 => (evO hi r1).bind fun u r2 => R.ofO r2 ((getM r2 i).bind fun m => slcM m l u) else .stuck
  | .plen i fs, r => if fs = [] then R.ofO r (((getM r i).bind lenM).map fun n => .im (.int n)) else .stuck
  | .bi b es, r => (evEs es r).bind fun ws r1 => R.ofO r1 (biW b ws)
  | .mut m i fs es, r => match fs, getM r i with
    | [], some (.ls _) => (evEs es r).bind fun ws r1 => match (getM r1 i).bind fun x => mutW m x ws with
      | some (y, x') => .ok y (r1.set i (some x'))
      | none => .stuck
    | _, _ => .stuck
  | .call f as, r => (evA as r).bind fun l r1 => callA (h.fn f) l r1
  | .callk f as ks pm, r => (evA as r).bind fun l r1 => (evA ks r1).bind fun l2 r2 => if pmOk pm (l ++ l2).length && allR (l ++ l2) then callA (h.fn f) (pmA pm (l ++ l2)) r2 else .stuck
  | .mth m o es, r => (evE o r).w.bind fun x r1 => if mthTy m x then (evEs es r1).bind fun ws r2 => R.ofO r2 (mthW m x ws) else .stuck
  | .comp own t it c e, r => (evI it r).bind fun ws r1 =>
      (compL (fun w r => match bindT t w r with
        | some r2 => (evC c r2).bind fun k r3 => if k then (evE e r3).w.bind fun x r4 => .ok (some x) (wipeE own r4) else .ok none (wipeE own r3)
        | none => .stuck) ws (wipeE own r1) []).bind fun xs r2 => .ok (.ls xs) (backE own r1 r2)
  | .isi a ts, r => (evE a r).w.bind fun x r1 => R.ofO r1 ((isTys ts x).map fun b => .im (.bl b))
  | .isx a ts, r => (evE a r).w.bind fun x r1 => match x with
    | .exc c _ _ => R.ofO r1 ((h.ex c).map fun d => .im (.bl (ts.any (xtB d))))
    | _ => .stuck
  | .fld a f, r => (evE a r).w.bind fun x r1 => match x with
    | .exc c ns ws => R.ofO r1 (((h.ex c).bind fun d => if d.fs.contains f then fldW ns ws f else none).map .im)
    | _ => .stuck
  | .rvs a, r => (evE a r).w.bind fun x r1 => match x with
    | .lst ws => .ok (.ls ws.reverse) r1
    | _ => .stuck
  | .fnr f, r => .ok (.im (.fn f)) r
  | .cld e as, r => (evE e r).w.bind fun x r1 => match x with
    | .fn f => (evA as r1).bind fun l r2 => if allR l then callA (h.fn f) l r2 else .stuck
    | _ => .stuck
  | .rg1 t b, r => (evE b r).int.bind fun j r1 => R.ofO r1 (rngM t 0 j)
  | .rg2 t a b, r => (evE a r).int.bind fun i r1 => (evE b r1).int.bind fun j r2 => R.ofO r2 (rngM t i j)
  | .pur e, r => match evE e (frzE r) with
    | .ok m _ => match plainM m with
      | some w => .ok (.im w) r
      | none => .stuck
    | _ => .stuck
  | _, _ => .stuck
def evEs : Es → Env → R (List W)
  | .nil, r => .ok [] r
  | .cons e es, r => (evE e r).w.bind fun x r1 => (evEs es r1).bind fun xs r2 => .ok (x :: xs) r2
/-- a bound of a slice -/
def evO : OE → Env → R (Option Int)
  | .none, r => .ok none r
  | .some e, r => (evE e r).int.bind fun i r1 => .ok (some i) r1
/-- a comprehension's if -/
def evC : OE → Env → R Bool
  | .none, r => .ok true r
  | .some e, r => (evE e r).tru
def evA : As → Env → R (List (Nat ⊕ M))
  | .nil, r => .ok [] r
  | .val e as, r => (evE e r).bind fun m r1 => (evA as r1).bind fun l r2 => .ok (.inr m :: l) r2
  | .bor i as, r => if (getM r i).isSome then (evA as r).bind fun l r1 => .ok (.inl i :: l) r1 else .stuck
def evI : It → Env → R (List W)
  | .seq e, r => (evE e r).w.bind fun x r1 => R.ofO r1 (seqOf x)
  | .rng1 a, r => (evE a r).int.bind fun n r1 => if -(2 ^ 62) ≤ n ∧ n < 2 ^ 62 then .ok (upTo 0 n.toNat) r1 else .stuck
  | .rng2 a b, r => (evE a r).int.bind fun m r1 => (evE b r1).int.bind fun n r2 =>
      if (-(2 ^ 62) ≤ m ∧ m < 2 ^ 62) ∧ (-(2 ^ 62) ≤ n ∧ n < 2 ^ 62) then .ok (upTo m (n - m).toNat) r2 else .stuck
  | .rng3 a b c, r => (evE a r).int.bind fun m r1 => (evE b r1).int.bind fun n r2 => (evE c r2).int.bind fun k r3 =>
      if k = -1 ∧ (-(2 ^ 62) ≤ m ∧ m < 2 ^ 62) ∧ (-(2 ^ 62) ≤ n ∧ n < 2 ^ 62) then .ok (dnTo m (m - n).toNat) r3 else .stuck
  | .enum e, r => (evE e r).w.bind fun x r1 => R.ofO r1 ((seqOf x).map (enumFrom 0))
  | .zip2 a b, r => (evE a r).w.bind fun x r1 => (evE b r1).w.bind fun y r2 => R.ofO r2 (zipS x y)
  | .rev e, r => (evE e r).w.bind fun x r1 => R.ofO r1 ((seqOf x).map List.reverse)
  | _, _ => .stuck
end

def setT (t : T) (m : M) (r : Env) : Option Env :=
  match t with
  | .nm i => some (r.set i (some m))
  | t => bindT t m.fz r

mutual
def evS : S → Env → R Fl
  | .set t e, r => (evE h e r).bind fun m r1 => match setT t m r1 with
    | some r2 => .ok .nx r2
    | none => .stuck
  | .par is as, r => (evA h as r).bind fun l r1 => match parE is l r1 with
    | some r2 => .ok .nx r2
    | none => .stuck
  | .aug i o e, r => match getM r i with
    | some (.im x) => (evE h e r).w.bind fun y r1 => match augW o x y with
      | some w => .ok .nx (r1.set i (some (.im w)))
      | none => .stuck
    | _ => .stuck
  | .seti i fs x e, r => (evE h e r).w.bind fun w r1 => if fs = [] ∧ (getM r1 i).isSome then (evE h x r1).int.bind fun k r2 => match getM r2 i with
      | some (.ls ws) => match L2.ixN ws.length k with
        | some j => .ok .nx (r2.set i (some (.ls (ws.set j w))))
        | none => .stuck
      | _ => .stuck
    else .stuck
  | .ex e, r => (evE h e r).bind fun _ r1 => .ok .nx r1
  | .ret e, r => (evE h e r).bind fun m r1 => .ok (.ret m) r1
  | .retv i, r => match getM r i with
    | some m => .ok (.ret m) (r.set i none)
    | none => .stuck
  | .retn, r => .ok (.ret (.im .non)) r
  | .ite c a b, r => (evE h c r).tru.bind fun k r1 => if k then evSs a r1 else evSs b r1
  | .for_ t it b, r => (evI h it r).bind fun ws r1 => forL (fun w r => match bindT t w r with
    | some r2 => evSs b r2
    | none => .stuck) ws r1
  | .whl c b, r => whlL (fun r => (evE h c r).tru) (evSs b) h.fuel r
  | .rse c es, r => if h.rz = true then (evEs h es r).bind fun ws r1 => match h.ex c with
    | some d => if d.fs.length = ws.length then .exc (.exc c d.fs ws) r1 else .stuck
    | none => .stuck
    else .stuck
  | .tryc b cs n i, r => match evSs b r with
    | .ok f r1 => .ok f r1
    | .exc w r1 => match w with
      | .exc c ns ws => match h.ex c with
        | some d => if cs.contains d.name then .ok .nx ((r1.set n none).set i (some (.im (.exc c ns ws)))) else .exc (.exc c ns ws) r1
        | none => .stuck
      | _ => .stuck
    | .stuck => .stuck
  | .pas, r => .ok .nx r
  | .brk, r => .ok .bk r
  | _, _ => .stuck
def evSs : Ss → Env → R Fl
  | .nil, r => .ok .nx r
  | .cons s ss, r => (evS s r).bind fun f r1 => match f with
    | .nx => evSs ss r1
    | f => .ok f r1
end
end

/-- a constant of the module -/
def eqC : W → W → Bool
  | .int i, .int j => decide (i = j)
  | .str x, .str y => decide (x = y)
  | _, _ => false
def memC (x : Str) (w : W) (l : List (Str × W)) : Bool := l.any fun p => decide (p.1 = x) && eqC p.2 w
/-- a def -/
structure FD where
  name : Str
  names : List Str
  many : Nat
  lock : List Nat
  body : Ss
  kw : List (Nat × List Str × List Nat) := []
/-- what the changed parameters hold at the end -/
def argsOf (lock : List Nat) : Nat → Nat → Env → Option (List M)
  | 0, _, _ => some []
  | n + 1, i, r => match argsOf lock n (i + 1) r with
    | some ms => if i ∈ lock then (match getM r i with
      | some m => some (m :: ms)
      | none => none) else some (.im .non :: ms)
    | none => none
def runF (h : Th) (d : FD) (ms : List M) : FR :=
  if ms.length = d.many then
    match evSs h d.body (ms.map some ++ List.replicate (d.names.length - d.many) none) with
    | .ok (.ret m) r => match argsOf d.lock d.many 0 r with
      | some as => .ok m as
      | none => .stuck
    | .ok .nx r => match argsOf d.lock d.many 0 r with
      | some as => .ok (.im .non) as
      | none => .stuck
    | .ok .bk _ => .stuck
    | .exc w r => match argsOf d.lock d.many 0 r with
      | some as => .exc w as
      | none => .stuck
    | .stuck => .stuck
  else .stuck
structure Pg where
  fd : Nat → Option FD
  gl : List (Str × W)
  cl : List (Nat × CD)
  fuel : Nat
def Pg.th (P : Pg) : Nat → Th
  | 0 => ⟨fun _ _ => .stuck, lkC P.cl, false, P.fuel⟩
  | n + 1 => ⟨fun f ms => match P.fd f with
    | some d => runF (P.th n) d ms
    | none => .stuck, lkC P.cl, decide (1 ≤ n), P.fuel⟩
end Dn
-- X1
set_option maxRecDepth 100000
set_option maxHeartbeats 4000000
/-! Exceptions: own classes over any of four built-in ones; caught ones kept behind the clause. Over the hand layer alone. -/
namespace PySem
namespace OEXB
open PySem.W PySem.Calls PyProof.Rows PySem.HandSPX
section
open Builtin Builtin.ObjectAttr
variable {prog : Program} {w : World} {A : Around} {E : Value → Shared → Prop} {R : Result → Shared → Prop} {hp : Heap} {g : Array GenState} {d : Drawn} {t : Nat} {os : OsState}
theorem osa_any {K : W.Frag} {name : Str} {tk : Tok} {v : Value} {x C : Addr} {fv : Array Value} {cd : ClassData}
    (X : K.In hp) (hx : hp.get? x = some { cls := .ref C, data := .fields fv }) (hcd : W.clsIn K C = some cd) (hm : ∀ self, refuseLoop self "__setattr__" cd.mro = pure ()) (ne : cd.mro.isEmpty = false) (hob : cd.mro.contains (.type "object") = true) (hh : cd.hasDict = true)
    (ha : W.findIn K (.ref C) name = some none)
    (hq : ∀ h' tk' dx, (∀ b o, b ≠ x → hp.get? b = some o → h'.get? b = some o) → hp.objs.size ≤ dx → dx ≠ x → h'.get? x = some { cls := .ref C, dict := some dx, data := .fields fv } →
      h'.Ns1 dx (fun y => if y = name then some v else none) → R (.ok (.ret .none)) ⟨h', g, d, tk', os⟩) :
    codeAny (model prog w) A (.call (.builtin "object.__setattr__") ⟨[.ref x, .str name tk, v], []⟩) R ⟨hp, g, d, t, os⟩ := by
  have I : W.InstAt hp x { cls := .ref C, data := .fields fv } C none := ⟨hx, rfl, rfl, trivial⟩
  have SF := F.store_object
  have hxs : x ≠ hp.objs.size := Nat.ne_of_lt (Heap.lt_size hx)
  have sub : W.Looks (model prog w) hp (isInstance (.ref x) (.type "object")) true := I.type.andThen (W.looks_mroIn X (by unfold W.mroIn; rw [hcd, Option.bind_some, if_neg (by rw [ne]; decide), hob]))
  refine codeAny_call_builtin SF.slot.plain SF.entry (@W.check_slot (model prog w) _ _ ⟨hp, g, d, t, os⟩ "object.__setattr__" "object" "__setattr__" (.ref x) [.str name tk, v] [] _ SF.kind SF.split sub (SF.args (.ref x) (.str name tk) v) ?_)
  have hmr : W.Looks (model prog w) hp (mroOf (.ref C)) cd.mro := (W.looks_clsIn X hcd).andThen .now
  have L3 : W.Looks (model prog w) hp (storeTaker? none) none := .now
  have hcls : W.Looks (model prog w) hp (classData C) cd := W.looks_clsIn X hcd
  rw [W.osa_eq, refuse_eq]
  refine wpAny_bind (wpAny_bind (I.type.at (wpAny_bind (hmr.at ?_))))
  rw [hm]
  refine wpAny_pure (wpAny_bind (I.type.at (wpAny_bind ((W.looks_findIn X ha).at (wpAny_bind (L3.at ?_))))))
  show wpAny _ _ (storeInOwnDict (.ref x) (.ref C) (.str name tk) name v false) _ _ _
  obtain ⟨nm, bs, mro, ns, qn, hd, sn, sb, ab, col, del⟩ := cd
  dsimp only at hh
  subst hh
  unfold storeInOwnDict ownDictForStores
  repeat (first | with_reducible refine store_in_new ?_ ?_ | with_reducible refine wpAny_loadPart_at hx ?_ | with_reducible refine hcls.at ?_ | wp_step)
  · exact ⟨_, #[], _, (Heap.get?_update_ne _ _ _ _ hxs.symm).trans (Heap.get?_push_at rfl rfl), rfl, fun e he => absurd he (by simp), fun _ => rfl⟩
  · intro h' tk' hn' hs
    have hx₁ : (hp.push { cls := .type "dict", data := .dict #[] }).get? x = some { cls := .ref C, data := .fields fv } := Heap.get?_push_of_some _ hx
    refine hq h' tk' hp.objs.size (fun b o hb ho => ?_) (Nat.le_refl _) hxs.symm ?_ hn'
    · exact (hs.2 b (Nat.ne_of_lt (Heap.lt_size ho))).trans ((Heap.get?_update_ne _ _ _ _ hb).trans (Heap.get?_push_of_some _ ho))
    · exact (hs.2 x hxs).trans (Heap.get?_update_self _ hx₁ rfl)
end
end OEXB
end PySem

namespace L2
open PySem PySem.Spec PyProof.Rows
/-- a built-in exception class as a base: what the rules lean on -/
structure Bas (B newId initId : String) (tl : List Value) : Prop where
  F : ExcBaseFacts B newId initId tl
  pass : ∀ self, refuseLoop self "__setattr__" tl = pure ()
  obj : tl.contains (.type "object") = true
  boot : bootBuiltins B = some (.type B)
  typ : typeOf (.type B) = pure (.type "type")
  stub : Manifest.isStub B = false
  hin : PySem.W.handedIn (.builtin initId) = true
  nn : (B : Str) ≠ "__name__"
  nd : ((B : Str) == ("__debug__" : Str)) = false
theorem bas_V : Bas "ValueError" "ValueError.__new__" "ValueError.__init__" [.type "ValueError", .type "Exception", .type "BaseException", .type "object"] :=
  ⟨PySem.F.excBase_ValueError, PySem.F.store_ValueError.passes, by decide, by kernel_rfl, PySem.OEX.typ_VE, by decide +kernel, by decide +kernel, by decide, by decide⟩
theorem typ_LE : typeOf (.type "LookupError") = pure (.type "type") := by kernel_rfl
theorem typ_RE : typeOf (.type "RuntimeError") = pure (.type "type") := by kernel_rfl
theorem typ_OE : typeOf (.type "OverflowError") = pure (.type "type") := by kernel_rfl
theorem bas_L : Bas "LookupError" "LookupError.__new__" "LookupError.__init__" [.type "LookupError", .type "Exception", .type "BaseException", .type "object"] :=
  ⟨PySem.F.excBase_LookupError, PySem.F.store_LookupError.passes, by decide, by kernel_rfl, typ_LE, by decide +kernel, by decide +kernel, by decide, by decide⟩
theorem bas_R : Bas "RuntimeError" "RuntimeError.__new__" "RuntimeError.__init__" [.type "RuntimeError", .type "Exception", .type "BaseException", .type "object"] :=
  ⟨PySem.F.excBase_RuntimeError, PySem.F.store_RuntimeError.passes, by decide, by kernel_rfl, typ_RE, by decide +kernel, by decide +kernel, by decide, by decide⟩
theorem bas_O : Bas "OverflowError" "OverflowError.__new__" "OverflowError.__init__" [.type "OverflowError", .type "ArithmeticError", .type "Exception", .type "BaseException", .type "object"] :=
  ⟨PySem.F.excBase_OverflowError, PySem.F.store_OverflowError.passes, by decide, by kernel_rfl, typ_OE, by decide +kernel, by decide +kernel, by decide, by decide⟩
/-- what the written part says of an own class over such a base -/
structure OexB (K : PySem.W.Frag) (tl : List Value) (newId : String) (C : Addr) : Prop where
  cls : ∃ nm q N bs sn sub ab col dd k0 k1 k2 k3 k5, K.lookup C = some (excClassObj nm q C N bs tl true sn sub ab col dd k0 k1 k2 k3 k5 newId)
  sa : PySem.W.findIn K (.ref C) "__setattr__" = some (some (.builtin "object.__setattr__"))
  exC : PySem.W.subIn K (.ref C) (.type "BaseException") = some true
  tyC : PySem.W.typeIn K (.ref C) = some (.type "type")
  kC : PySem.W.keepIn K (.ref C) = true
section
variable {X : Cx} {pins : List (Addr × Obj)} {σ : St} {H : Hp} {s : Shared} {a C dx : Addr} {f : Str} {y : V} {u : Value} {fs : List (Str × V)} {Q : Unit → Shared → Prop} {E : Value → Shared → Prop} {A : Around} {B newId initId : String} {tl : List Value}
/-- self.f = y, the first one -/
theorem ostB_new (Bs : Bas B newId initId tl) (T : OexB X.K tl newId C) (I : Inv X pins σ H s) (e : H a = some (exo a C none)) (hno : PySem.W.findIn X.K (.ref C) f = some none) (ry : RelV y u)
    (h : ∀ dx s', H dx = none → dx ≠ a → Inv X pins σ (upd (upd H dx (exd dx [(f, y)])) a (exo a C (some dx))) s' → Q () s') : wpAny (model X.prog X.w) A (setAttr (.ref a) f u) Q E s := by
  obtain ⟨nm, q, N, bs, sn, sub, ab, col, dd, k0, k1, k2, k3, k5, hC⟩ := T.cls
  have hcl : PySem.W.clsIn X.K C = some { name := nm, bases := bs, mro := .ref C :: tl, ns := N, qualname := q, hasDict := true, slotNames := sn, subclasses := sub, abstract := ab, collection := col, hasDel := false } := by unfold PySem.W.clsIn; rw [hC] <;> rfl
  obtain ⟨t1, ho⟩ := exo_at I.hok e
  obtain ⟨hp, g, d, t, os⟩ := s
  refine PySem.W.set_plain I.kIn (ox := { cls := .ref C, dict := none, data := .fields #[.ref t1, .none, .none, .none, .bool false, .none] }) (od := none) ⟨ho, rfl, rfl, trivial⟩ T.sa ?_
  refine PySem.OEXB.osa_any I.kIn ho hcl (fun self => by show refuseLoop self "__setattr__" (.ref C :: tl) = _; rw [refuseLoop_ref]; exact Bs.pass self) rfl (by show (Value.ref C :: tl).contains _ = true; rw [List.contains_cons, Bs.obj, Bool.or_true]) rfl hno (fun h' tk' dx k dn dne hx hn => ?_)
  have hnd : H dx = none := I.hok.fresh dn
  have nd : ∀ {b : Addr} {o : Obj}, hp.get? b = some o → b ≠ dx := fun {b o} q => Nat.ne_of_lt (Nat.lt_of_lt_of_le (Heap.lt_size q) dn)
  have na : ∀ {b : Addr}, H b = none → b ≠ a := fun {b} n z => by
    rw [z, e] at n
    cases n
  have Un1 : Un X.fs [] H (upd (upd H dx (exd dx [(f, y)])) a (exo a C (some dx))) hp h' := {
    keep := fun b o q n _ _ => k b o (na n) q
    slot := fun b o q n _ _ => ⟨o.slots, k b o (na n) q⟩
    free := fun b o q n _ => by rw [upd_ne (na n), upd_ne (nd q)]; exact n
    there := fun b o q _ => by
      by_cases hb : b = a
      · exact ⟨_, by rw [hb]; exact hx⟩
      · exact ⟨o, k b o hb q⟩
    tups := fun b xs q => by rw [upd_ne (at_ne e q exo_tup), upd_ne (ne_of_none q hnd)]; exact q
    frzs := fun b o v q => by rw [upd_ne (at_ne e q exo_frz), upd_ne (ne_of_none q hnd)]; exact q
    tbls := fun b ps q => ⟨#[], by rw [upd_ne (at_ne e q exo_tbl), upd_ne (ne_of_none q hnd), q]; simp⟩ }
  refine h dx _ hnd dne (I.un (t' := tk') Un1 fun b o q => ?_)
  by_cases hb : b = a
  · subst hb
    rw [upd_same] at q
    cases q
    exact exo_ok hx
  · rw [upd_ne hb] at q
    by_cases hd : b = dx
    · subst hd
      rw [upd_same] at q
      cases q
      exact exd_ok hn (relO_put (fs := []) ry fun g => True.intro)
    · rw [upd_ne hd] at q
      exact (I.hok b o q).stay (fun c v hc z => k c v (by
          rcases hc with hc | hc
          · rw [hc]
            exact hb
          · exact at_ne e hc exo_own) z)
        (fun c hc => by rw [upd_ne (at_ne e hc exo_own), upd_ne (ne_of_none hc hnd)]; exact hc) (fun c xs hc => by rw [upd_ne (at_ne e hc exo_tup), upd_ne (ne_of_none hc hnd)]; exact hc)
/-- B.__init__(self, ..): nothing of it is told -/
theorem oinitB_ok {us : List Value} {Q : Value → Shared → Prop} (Bs : Bas B newId initId tl) (T : OexB X.K tl newId C) (I : Inv X pins σ H s) (e : H a = some (exo a C none)) (hl : us.length ≤ sizeLine) (h : ∀ s', Inv X pins σ H s' → Q .none s') :
    wpAny (model X.prog X.w) A (call (.builtin initId) (.ref a :: us)) Q E s := by
  obtain ⟨nm, q, N, bs, sn, sub, ab, col, dd, k0, k1, k2, k3, k5, hC⟩ := T.cls
  obtain ⟨t1, ho⟩ := exo_at I.hok e
  obtain ⟨hp, g, d, t, os⟩ := s
  refine wpAny_call (PySem.HandSPX.init_base Bs.F (fun Y => rfl) (I.kIn _ _ hC) ho hl fun h' t2 k hx => ?_)
  have J := I.write (t' := t) (x := a) (e := a) (o := exo a C none) (by rw [e]; exact True.intro) (.inl rfl) k ⟨_, hx⟩ (exo_ok hx)
  have eu : upd H a (exo a C none) = H := by
    funext b
    by_cases hb : b = a
    · rw [hb, upd_same, e]
    · rw [upd_ne hb]
  rw [eu] at J
  exact h _ J
end
/-- B.__init__(self, ..) -/
def tBI (K : PySem.W.Frag) (tl : List Value) (newId : String) (ta : TA) : TE := fun σ H Q => ta σ H fun vs H1 => ∃ (a C : Addr) (ws : List V), vs = .ref a :: ws ∧ ws.length ≤ 1000 ∧ OexB K tl newId C ∧ H1 a = some (exo a C none) ∧ Q .non H1
/-- self.f = e, the first one -/
def tBst (K : PySem.W.Frag) (tl : List Value) (newId : String) (f : Str) (to te : TE) : TS := fun D σ H => te σ H fun y H1 => to σ H1 fun x H2 => ∃ a C : Addr, x = .ref a ∧ OexB K tl newId C ∧ PySem.W.findIn K (.ref C) f = some none ∧
  H2 a = some (exo a C none) ∧ ∀ dx, H2 dx = none → dx ≠ a → D.nx σ (upd (upd H2 dx (exd dx [(f, y)])) a (exo a C (some dx)))
section
variable {X : Cx} {o e : Expr} {es : List Expr} {to te : TE} {ta : TA} {f : Str} {p p' p1 p2 pos : Pos} {B newId initId : String} {tl : List Value}
theorem pe_binit {pl : Sem Bool} (Bs : Bas B newId initId tl) (hg : Gl X B) (hm : X.mg B = none) (vV : PySem.W.findCls X.K (.type B) (.type "type") "__init__" = some (.val (.builtin initId))) (ha : PA X (e :: es) ta)
    (hc : eval (.Call (.Attribute (.Name B p1) "__init__" p2) (e :: es) [] pos) X.env = (do
      let ov ← eval (.Name B p1) X.env
      standAt p2.atName
      let (f, first) ← holding [ov] (getMethod ov "__init__" pl)
      callWith pos f first (backTo pos (starEach (e :: es) X.env)) (backToKw pos (keywordEach [] X.env))) := by rfl)
    (he : starEach (e :: es) X.env = (false, eval e X.env) :: starEach es X.env := by rfl) (hpl : (backTo pos (starEach es X.env)).any (·.1) = false := by rfl) :
    PE X (.Call (.Attribute (.Name B p1) "__init__" p2) (e :: es) [] pos) (tBI X.K tl newId ta) := by
  refine ⟨fun pins s σ H Q I h => ?_⟩
  refine PySem.W.methodCall_KW (ld_blt I hg hm Bs.boot ?_ Bs.nn Bs.nd) hc
  obtain ⟨m, fr⟩ := I.fr
  refine PySem.W.method_type fr I.ok.mod.kin Bs.typ Bs.stub vV Bs.hin ?_
  show wpAny _ _ (callWith pos (Value.builtin initId) [] (backTo pos (starEach (e :: es) X.env)) []) _ _ _
  refine PyProof.Rows.callWith_method1 (thn (ha.run pos pins _ σ H _ (I.tok _) h) fun us s1 ⟨vs, H1, I1, r1, a, C, ws, ev, hl, T, ea, q⟩ => ?_) he hpl
  subst ev
  cases r1 with
  | @cons _ u0 _ ur ra rw' =>
    obtain rfl : u0 = Value.ref a := ra
    have hlen : ur.length ≤ sizeLine := by
      rw [← Paired.length rw', sizeLine_eq]
      omega
    exact oinitB_ok Bs T I1 ea hlen fun s' J => ⟨.non, H1, J, rfl, q⟩
theorem ps_bst (Bs : Bas B newId initId tl) (ho : PE X o to) (he : PE X e te) (hs : swapsWith e (some (.Attribute o f p')) pos.line X.env = pure false := by rfl) : PS X (.Assign [.Attribute o f p'] e pos) (tBst X.K tl newId f to te) := by
  refine ⟨fun pins s σ H D I h => ?_⟩
  refine plainObj_wpAny_Assign_Attribute (thn (he.run pins s σ H _ I h) fun v s1 ⟨y, H1, I1, r1, q1⟩ => thn (ho.run pins s1 σ H1 _ I1 q1) fun u s2 ⟨x, H2, I2, r2, a, C, ex, T, hno, ea, q⟩ => ?_) hs
  subst ex
  obtain rfl : u = Value.ref a := r2
  exact ostB_new Bs T I2 ea hno r1 fun dx s' n ne J => ⟨σ, _, J, q dx n ne⟩
/-- C(e, ..), C's own __init__ keeping sp -/
theorem pmk_oexB {CX : CXT} {x : Str} {C fI : Addr} {k : Nat} {fd : FuncData} {ps : List Str} {sp : Sp} (Bs : Bas B newId initId tl) (T : OexB X.K tl newId C) (iC : PySem.W.findIn X.K (.ref C) "__init__" = some (some (.ref fI))) (tI : PySem.W.typeIn X.K (.ref fI) = some (.type "function"))
    (F1 : FnOk X.prog X.w X.K X.mg X.base CX k fI fd ps sp) (hr : Room (k + 1) X.A) (hb : Binds X.K fd ps []) (hx : Passes CX X (fun _ _ _ => False)) (hg : Gl X x) (hm : X.mg x = some (.ref C)) (ha : PA X (e :: es) ta)
    (hdb : (x == ("__debug__" : Str)) = false := by decide) (he : starEach (e :: es) X.env = (false, eval e X.env) :: starEach es X.env := by rfl) (hpl : (backTo pos (starEach es X.env)).any (·.1) = false := by rfl) :
    PMk X (.Call (.Name x p) (e :: es) [] pos) (tMkO C sp [] ta) := by
  intro pins s σ H Q I h
  obtain ⟨nm, q, N, bs, sn, sub, ab, col, dd, k0, k1, k2, k3, k5, hC⟩ := T.cls
  refine wpAny_Call_Name_kw (ld_glob I hg hm ?_ hdb)
  refine PySem.W.callWith_K (h₀ := X.base) I.ok.mod.kin T.kC (thn (ha.run pos pins s σ H _ I h) fun us s1 ⟨vs, H1, I1, r1, hz, q1⟩ => ⟨I1.kIn, ?_⟩) he hpl
  show wpAny _ _ (call (.ref C) us) _ _ _
  obtain ⟨hp, g, dr, tk, os⟩ := s1
  have hsz : hp.objs.size ≤ hp.objs.size + 1 := Nat.le_succ _
  have hn : H1 (hp.objs.size + 1) = none := I1.hok.fresh hsz
  have hq := q1 (hp.objs.size + 1) hn
  have kk : ∀ b o, hp.get? b = some o → ((hp.push (PySem.W.kdv_tup us)).push (PySem.HandSPX.excO C hp.objs.size)).get? b = some o := fun b o e => Heap.get?_push_of_some _ (Heap.get?_push_of_some _ e)
  have hget : ((hp.push (PySem.W.kdv_tup us)).push (PySem.HandSPX.excO C hp.objs.size)).get? (hp.objs.size + 1) = some (PySem.HandSPX.excO C hp.objs.size) := by heap_get
  have I2 : Inv X pins σ (upd H1 (hp.objs.size + 1) (exo (hp.objs.size + 1) C none)) ⟨(hp.push (PySem.W.kdv_tup us)).push (PySem.HandSPX.excO C hp.objs.size), g, dr, tk, os⟩ :=
    I1.laid (t' := tk) (a := hp.objs.size + 1) (o := exo (hp.objs.size + 1) C none) (h' := (hp.push (PySem.W.kdv_tup us)).push (PySem.HandSPX.excO C hp.objs.size)) kk hsz (exo_ok hget)
  rw [List.append_nil] at hq
  have r2 : Vals (V.ref (hp.objs.size + 1) :: vs) (Value.ref (hp.objs.size + 1) :: us) := .cons rfl r1
  have hl : (Value.ref (hp.objs.size + 1) :: us).length = ps.length := by
    have e := r2.length
    rw [F1.len _ _ _ _ hq] at e
    exact e.symm
  have hus : us.length ≤ sizeLine := by
    rw [← Paired.length r1, sizeLine_eq]
    omega
  have hb2 := hb _ (Value.ref (hp.objs.size + 1) :: us) I2.kIn (by rw [List.append_nil]; exact hl)
  rw [List.append_nil] at hb2
  refine wpAny_call (PySem.HandSPX.call_own Bs.F (fun Y => rfl) (I1.kIn _ _ hC) (PySem.W.looks_findIn I1.kIn iC) (fun self => PySem.W.bind_fn I1.kIn self tI) hus
    (codeAny_mono (F1.run _ X.stack _ _ ⟨Value.ref (hp.objs.size + 1) :: us, []⟩ (Value.ref (hp.objs.size + 1) :: us) _ _ (fun _ _ _ => False) (hr.make C us []) (I2.env0.make C us []) hb2 r2 hq) fun r s' hq' => ?_))
  cases r with
  | error er => exact hx pins σ _ _ er s' I2 hq'
  | ok fl =>
    cases fl with
    | ret u =>
      obtain ⟨v, H2, os2, bare2, un2, hok2, rv, ev, d, fs, ea, ed, hd1, q2⟩ := hq'
      subst ev
      obtain ⟨h2, g2, d2, t2, os'⟩ := s'
      exact ⟨rv, mk_end (raises_own T.exC T.tyC) I1 hsz kk un2 hok2 os2 bare2 ea ed hd1 q2⟩
    | next => exact False.elim hq'
    | brk => exact False.elim hq'
    | cont => exact False.elim hq'
/-- C(), C without own __init__ -/
theorem pmk_own0 {C : Addr} {bmB : List Value} {x : Str} (F : ExcBaseFacts B newId initId bmB) (q : PySem.W.excIn X.K C bmB newId = true) (gC : X.mg x = some (.ref C))
    (kC : PySem.W.keepIn X.K (.ref C) = true) (r : Raises X (.ref C)) (hg : Gl X x) (hdb : (x == ("__debug__" : Str)) = false := by decide) :
    PMk X (.Call (.Name x p) [] [] pos) (fun σ H Q => Q (.ref C) none H) := by
  intro pins s σ H Q I h
  refine wpAny_Call_Name_kw (ld_glob I hg gC ?_ hdb)
  refine PySem.W.callWith_K0 I.kIn kC ?_
  show wpAny _ _ (call (.ref C) []) _ _ _
  obtain ⟨bm, N, nm, qn, bs, hdct, sn, sub, ab, col, dd, k0, k1, k2, k3, k5, mN, hC, hN, hni, T⟩ := exc_obj I.kIn q
  refine wpAny_call_exc_subT F T hC hN hni (fun h' e hm => ?_) (by show 0 ≤ sizeLine; omega)
  exact mk_of I hm r h (I.hok.gone hm.new)
end
/-- the promise of __init__(self, f): self.f = f -/
def initSp (K : PySem.W.Frag) (tl : List Value) (newId : String) (f : Str) : Sp := fun vs H Q E => ∃ (a C : Addr) (y : V), vs = [.ref a, y] ∧ OexB K tl newId C ∧ PySem.W.findIn K (.ref C) f = some none ∧ H a = some (exo a C none) ∧
  ∀ dx, H dx = none → dx ≠ a → Q .non (upd (upd H dx (exd dx [(f, y)])) a (exo a C (some dx)))
section
variable {P : Program} {w : World} {K : PySem.W.Frag} {mg : Str → Option Value} {base : Heap} {B newId initId : String} {tl : List Value}
theorem init_ok {x qual f : Str} {st : Stmt} {fI : Addr} {fd : FuncData} {k : Nat} {p1 p2 p3 p4 p5 p6 p7 p8 p9 p10 : Pos} {pl : Env → Sem Bool} (Bs : Bas B newId initId tl) (F : Fun K x qual st fI fd) (S : FnScope ["self", f] ["self", f] (defScope st))
    (hb : defBody st = [.Expr (.Call (.Attribute (.Name B p1) "__init__" p2) [.Name "self" p3, .Name f p4] [] p5) p6, .Assign [.Attribute (.Name "self" p7) f p8] (.Name f p9) p10])
    (h1 : (defScope st).names.lookup ("self" : Str) = some .local) (h2 : (defScope st).names.lookup f = some .local) (hg : (defScope st).names.lookup (B : Str) = some .globalImplicit) (hm : mg B = none)
    (vV : PySem.W.findCls K (.type B) (.type "type") "__init__" = some (.val (.builtin initId))) (d1 : (f == ("__debug__" : Str)) = false) (d2 : (f == ("__classdict__" : Str)) = false)
    (hc : ∀ env, eval (.Call (.Attribute (.Name B p1) "__init__" p2) [.Name "self" p3, .Name f p4] [] p5) env = (do
      let ov ← eval (.Name B p1) env
      standAt p2.atName
      let (f', first) ← holding [ov] (getMethod ov "__init__" (pl env))
      callWith p5 f' first (backTo p5 (starEach [.Name "self" p3, .Name f p4] env)) (backToKw p5 (keywordEach [] env))))
    (hs1 : ∀ env, swapsWith (.Call (.Attribute (.Name B p1) "__init__" p2) [.Name "self" p3, .Name f p4] [] p5) none p6.line env = pure false)
    (hs2 : ∀ env, swapsWith (.Name f p9) (some (.Attribute (.Name "self" p7) f p8)) p10.line env = pure false) :
    FnOk P w K mg base (L2.CX P w) (k + 1) fI fd ["self", f] (initSp K tl newId f) := by
  refine F.okX S (fun vs H Q E h => ?_) fun cdv A outer s H vs Q E hr hsp => ?_
  · obtain ⟨a, C, y, e, _⟩ := h
    rw [e]; rfl
  · obtain ⟨a, C, y, e, T, hno, ea, q⟩ := hsp
    subst e
    generalize hX : cxOf (L2.CX P w) P w K mg base ["self", f] qual (defScope st) fI cdv A outer s H E = X
    have hK : X.K = K := by subst hX; rfl
    have hsc : X.env.scope = defScope st := by subst hX; rfl
    have hN : X.N = [("self" : Str), f] := by subst hX; rfl
    have hmg : X.mg = mg := by subst hX; rfl
    have vs_ : Vis X.env.scope "self" := .inl (by rw [hsc]; exact h1)
    have vf : Vis X.env.scope f := .inl (by rw [hsc]; exact h2)
    have n0 : X.N[0]? = some ("self" : Str) := by rw [hN]; rfl
    have n1 : X.N[1]? = some f := by rw [hN]; rfl
    have e1 := ps_expr (X := X) (pos := p6) (pe_binit Bs (by show X.env.scope.names.lookup _ = _; rw [hsc]; exact hg) (by rw [hmg]; exact hm) (by rw [hK]; exact vV)
        (pa_cons (pe_var n0 vs_ (by decide) (by decide)) (pa_cons (pe_var n1 vf d1 d2) pa_nil)) (hc X.env)) (hs1 X.env)
    have e2 := ps_bst (X := X) (pos := p10) (p' := p8) (f := f) Bs (pe_var (pos := p7) n0 vs_ (by decide) (by decide)) (pe_var (pos := p9) n1 vf d1 d2) (hs2 X.env)
    rw [hb]
    refine ⟨_, pss_cons e1 (pss_cons e2 pss_nil), ?_⟩
    rw [hK]
    refine ⟨_, rfl, _, rfl, a, C, [y], rfl, by show 1 ≤ 1000; omega, T, ea, ?_⟩
    exact ⟨_, rfl, _, rfl, a, C, rfl, T, hno, ea, fun dx n ne => q dx n ne⟩
end
end L2
-- X2
set_option maxRecDepth 100000
set_option maxHeartbeats 4000000
/-! try: .. except C as e: x = e: the exception is kept behind the clause. -/
namespace PySem
namespace HandSPX
theorem TracedZ.keeps {h h' base : Heap} {e : Addr} {Z : Obj → Prop} {fl : Value} (k : ∀ b o, h.get? b = some o → h'.get? b = some o) (x : TracedZ h base e Z fl) : TracedZ h' base e Z fl := by
  obtain ⟨oe, vs, T, oT, ts, he, hz, hd, h1, hnT, hTe, hT, hdT, h3⟩ := x
  exact ⟨oe, vs, T, oT, ts, k _ _ he, hz, hd, h1, hnT, hTe, k _ _ hT, hdT, h3⟩
theorem FlyingZ.keeps {h h' base : Heap} {l : List Env} {e : Addr} {Z : Obj → Prop} (k : ∀ b o, h.get? b = some o → h'.get? b = some o) (x : FlyingZ base l e Z h) : FlyingZ base l e Z h' := by
  obtain ⟨k1, k2, k3, k4⟩ := x
  exact ⟨fun b o q => k b o (k1 b o q), k2, k3.of_keeps fun b o q _ => ⟨o, k b o q, rfl⟩, k4.keeps k⟩
end HandSPX
end PySem
namespace L2
open PySem PySem.Spec PyProof.Rows
/-- an exception object of the class cls with the dict d, at a, kept -/
def XO (cls : Value) (d : Option Addr) (a : Addr) : HO := .ext fun h => ∃ (oe : Obj) (vs : Array Value), h.get? a = some oe ∧ Zc cls d oe ∧ oe.data = .fields vs
theorem xo_ok {P : Program} {w : World} {H : Hp} {h : Heap} {a : Addr} {cls : Value} {d : Option Addr} {oe : Obj} {vs : Array Value} (e : h.get? a = some oe) (z : Zc cls d oe) (f : oe.data = .fields vs) : ObjOk P w H h a (XO cls d a) :=
  ⟨⟨oe, vs, e, z, f⟩, ⟨oe, e⟩, fun _ _ ⟨o, v, q, r⟩ k => ⟨o, v, k o q, r⟩⟩
theorem xo_at {P : Program} {w : World} {H : Hp} {h : Heap} {a : Addr} {cls : Value} {d : Option Addr} (hok : HOk P w H h) (e : H a = some (XO cls d a)) : ∃ (oe : Obj) (vs : Array Value), h.get? a = some oe ∧ Zc cls d oe ∧ oe.data = .fields vs := by
  have x : ObjOk P w H h a (.ext fun h => ∃ (oe : Obj) (vs : Array Value), h.get? a = some oe ∧ Zc cls d oe ∧ oe.data = .fields vs) := hok a _ e
  exact x.1
section
variable {X : Cx} {pins : List (Addr × Obj)} {σ : St} {H : Hp} {s : Shared} {a : Addr} {oe : Obj} {vs : Array Value} {cls : Value} {d : Option Addr}
/-- a pinned object that was not there at the entry is tracked from here on -/
theorem Inv.track (I : Inv X ((a, oe) :: pins) σ H s) (n0 : X.s_0.heap.get? a = none) (hp : ∀ p ∈ X.pn ++ pins, p.1 ≠ a) (z : Zc cls d oe) (f : oe.data = .fields vs) : Inv X pins σ (upd H a (XO cls d a)) s := by
  obtain ⟨ea, na, nL, nF, nd⟩ := I.pin (a, oe) (List.mem_append_right _ List.mem_cons_self)
  have ne0 : ∀ b o, X.s_0.heap.get? b = some o → b ≠ a := fun b o e z => by
    rw [z, n0] at e
    cases e
  refine ⟨I.ok, I.os, I.bare, ⟨I.base.keep, I.base.slot, fun b o e n hx => ?_, I.base.there, fun b xs e => ?_, fun b o u e => ?_, fun b ps e => ?_⟩, I.loc, I.cell, ?_, fun x c e => ?_, fun p hq => ?_, fun b u e => ?_, I.len⟩
  · rw [upd_ne (ne0 b o e)]
    exact I.base.free b o e n hx
  · have q := I.base.tups b xs e
    rw [upd_ne (ne_of_none q na)]
    exact q
  · have q := I.base.frzs b o u e
    rw [upd_ne (ne_of_none q na)]
    exact q
  · obtain ⟨m, q⟩ := I.base.tbls b ps e
    exact ⟨m, by rw [upd_ne (ne_of_none q na)]; exact q⟩
  · rw [upd_ne (Ne.symm nL)]
    exact I.free
  · have hc : c ≠ a := fun z => by
      obtain ⟨v, o, ho, hd⟩ := I.cell x c e
      rw [z, ea] at ho
      cases ho
      exact nd _ hd
    rw [upd_ne hc]
    exact I.freeC x c e
  · obtain ⟨e1, e2, e3, e4, e5⟩ := I.pin p (by
      rcases List.mem_append.mp hq with h | h
      · exact List.mem_append_left _ h
      · exact List.mem_append_right _ (List.mem_cons_of_mem _ h))
    exact ⟨e1, by rw [upd_ne (hp p hq)]; exact e2, e3, e4, e5⟩
  · by_cases hb : b = a
    · subst hb
      rw [upd_same] at e
      cases e
      exact xo_ok ea z f
    · rw [upd_ne hb] at e
      exact (I.hok b u e).stay (fun c v _ q => q) (fun c q => by rw [upd_ne (ne_of_none q na)]; exact q) fun c xs q => by rw [upd_ne (ne_of_none q na)]; exact q
theorem Inv.unsuiteP {q : Addr × Obj} {pn' : List (Addr × Obj)} (I : Inv (X.suite a (q :: (X.pn ++ pins))) pn' σ H s) (ok : X.Ok) : Inv X (q :: pins) σ H s :=
  ⟨ok, I.os, I.bare, I.base, I.loc, I.cell, I.free, I.freeC, fun p hp => I.pin p (List.mem_append_left _ (by
    rcases List.mem_append.mp hp with h | h
    · exact List.mem_cons_of_mem _ (List.mem_append_left _ h)
    · rcases List.mem_cons.mp h with e | h
      · rw [e]; exact List.mem_cons_self
      · exact List.mem_cons_of_mem _ (List.mem_append_right _ h))), I.hok, I.len⟩
end
/-- what the clause's classes are: cs -/
def Clauses (X : Cx) (ty : Expr) (cs : List Value) : Prop := ∀ (a : Addr) (pn : List (Addr × Obj)) (σ : St) (H : Hp) (s : Shared) (Q : Value → Shared → Prop) (E : Value → Shared → Prop), Inv (X.suite a pn) [] σ H s →
  (∀ u h', (∀ b o, s.heap.get? b = some o → h'.get? b = some o) → (∀ (e : Addr) (cls : Value) (b : Bool), PySem.W.Looks (model X.prog X.w) h' (typeOf (.ref e)) cls → X.K.In h' → PySem.W.exmAny X.K cls cs = some b → PySem.W.Looks (model X.prog X.w) h' (excMatches (.ref e) u) b) →
    Q u { s with heap := h' }) → wpAny (model X.prog X.w) (X.A.mark (some (.ref a))) (eval ty X.env) Q E s
theorem exmAny_one {K : PySem.W.Frag} {cls c : Value} {b : Bool} (h : PySem.W.exmAny K cls [c] = some b) : PySem.W.exmOne K cls c = some b := by
  obtain ⟨b1, d1, x1, y1, z1⟩ := PySem.W.exmAny_cons h
  have y2 : some false = some d1 := y1
  cases y2
  rw [x1, z1, Bool.or_false]
theorem clauses_name {X : Cx} {x : Str} {c : Value} {np : Pos} (hc : Names X x c) : Clauses X (.Name x np) [c] := fun a pn σ H s Q E I q => by
  have q' : Q c s := q c s.heap (fun _ _ z => z) fun e cls b LT K hx => PySem.W.exm_one K LT (exmAny_one hx)
  obtain ⟨hg, hdbg, hm | ⟨hm, hv, hnn⟩⟩ := hc
  · exact ld_glob (X := X.suite a pn) I hg hm q' hdbg
  · exact ld_blt (X := X.suite a pn) I hg hm hv q' hnn hdbg
/-- names of classes -/
inductive NmL (X : Cx) : List Expr → List Value → Prop
  | nil : NmL X [] []
  | cons {x : Str} {p : Pos} {c : Value} {es : List Expr} {cs : List Value} : Names X x c → NmL X es cs → NmL X (.Name x p :: es) (c :: cs)
theorem NmL.len {X : Cx} {es : List Expr} {cs : List Value} (h : NmL X es cs) : cs.length = es.length := by
  induction h with
  | nil => rfl
  | cons _ _ ih => simp [ih]
theorem NmL.load {X : Cx} {a : Addr} {pn : List (Addr × Obj)} {σ : St} {H : Hp} {s : Shared} {pos : Pos} {E : Value → Shared → Prop} (I : Inv (X.suite a pn) [] σ H s) {es : List Expr} {cs : List Value} (h : NmL X es cs) :
    ∀ {Q : List Value → Shared → Prop}, Q cs s → wpAny (model X.prog X.w) (X.A.mark (some (.ref a))) (spliced (backTo pos (starEach es X.env))) Q E s := by
  induction h with
  | nil => exact fun {Q} q => Calls.spliced_nil q
  | @cons x p c es cs hc _ ih =>
    intro Q q
    show wpAny _ _ (spliced ((false, eval (.Name x p) X.env) :: backTo pos (starEach es X.env))) _ _ s
    have q' : wpAny (model X.prog X.w) (X.A.mark (some (.ref a))) (spliced (backTo pos (starEach es X.env))) (fun vs s₂ => Q (c :: vs) s₂) E s := ih q
    refine Calls.spliced_cons ?_
    obtain ⟨hg, hdbg, hm | ⟨hm, hv, hnn⟩⟩ := hc
    · exact ld_glob (X := X.suite a pn) I hg hm q' hdbg
    · exact ld_blt (X := X.suite a pn) I hg hm hv q' hnn hdbg
theorem clauses_tup {X : Cx} {es : List Expr} {cs : List Value} {k} {pos : Pos} (h : NmL X es cs) (hl : cs.length ≤ 1000)
    (hx : ∀ (M : Model) (hp : Heap) (e tp : Addr) (cls : Value) (b : Bool), X.K.In hp → PySem.W.Looks M hp (typeOf (.ref e)) cls → hp.get? tp = some { cls := .type "tuple", data := .seq cs.toArray } → PySem.W.exmAny X.K cls cs = some b → PySem.W.Looks M hp (excMatches (.ref e) (.ref tp)) b) :
    Clauses X (.Tuple es k pos) cs := fun a pn σ H s Q E I q => by
  refine wpAny_Tuple_spliced (h.load I ⟨by rw [sizeLine_eq]; omega, ?_⟩)
  exact q _ _ (fun b o z => Heap.get?_push_of_some _ z) fun e cls b LT K hy => hx _ _ _ _ _ _ K LT (Heap.get?_push_size _ rfl) hy
/-- what is wished of an exception of the body: m = e in the clause; slot i is e's, slot j m's -/
def wCau (K : PySem.W.Frag) (cs : List Value) (i j : Nat) (Wout : WX) (D : Ends) : WX := fun cls d σ H =>
  ∃ b, PySem.W.exmAny K cls cs = some b ∧ (b = true → ∀ a, H a = none → D.nx (((σ.set i (some (.ref a))).set j (some (.ref a))).set i none) (upd H a (XO cls d a))) ∧ (b = false → Wout cls d σ H)
section
variable {X : Cx} {ty : Expr} {n m : Str} {cs : List Value} {i j : Nat} {body : List Stmt} {np mp sp pos pos' : Pos} {tb : WX → TS} {Wout : WX}
theorem ps_try_caught (hs : X.stack = X.env :: X.outer) (hf : X.env.frame = some X.env.locals) (hex : X.ex = []) (hN : X.N.Nodup) (hi : X.N[i]? = some n) (hj : X.N[j]? = some m) (hln : X.env.kindOf n = some .local) (hlm : Loc X.env.scope m) (hfm : X.fn m = true ∨ X.env.scope.names.lookup m = some .local)
    (hd : (n == ("__debug__" : Str)) = false) (hcd : (n == ("__classdict__" : Str)) = false) (hij : i ≠ j) (hsw : swapsWith (.Name n np) (some (.Name m mp)) sp.line X.env = pure false)
    (hc : Clauses X ty cs) (tk : Takes X Wout)
    (hb : ∀ (W : WX) (pn : List (Addr × Obj)) (xe : Value → Shared → Prop), Takes (X.tr pn xe) W → PassesOwn (model X.prog X.w) X.A X.env xe → PSs (X.tr pn xe) body (tb W)) :
    PS X (.Try body [.ExceptHandler (some ty) (some n) [.Assign [.Name m mp] (.Name n np) sp] pos'] [] [] pos) (fun D σ H => tb (wCau X.K cs i j Wout D) D σ H) := by
  refine ⟨fun pins s σ H D I h => ?_⟩
  have ok := I.ok
  have hfr : X.A.frames = some (X.env :: X.outer) := by rw [ok.frames, hs]
  have hloc : Loc X.env.scope n := .inl hln
  refine wpAny_Try_except ?_
  refine wpAny_mono ((hb (wCau X.K cs i j Wout D) (X.pn ++ pins) (fun e s₁ => wpAny (model X.prog X.w) X.A (noteFrame e X.env) (fun _ s₂ => wpAny (model X.prog X.w) X.A (setFlight e none) (fun _ s₃ =>
    wpAny (model X.prog X.w) X.A (handleBy e X.env [.ExceptHandler (some ty) (some n) [.Assign [.Name m mp] (.Name n np) sp] pos']) (SP X pins D) X.xe s₃) X.xe s₂) X.xe s₁) (fun u s' xx => ?_) PassesOwn.looking).run [] s σ H D (I.toTry _) h) (fun f s1 hsp => ?_) (fun e s1 he => he)
  · -- the catch
    obtain ⟨a, B, sI, pins', σ', H', cls, d, rfl, J', nb, up, sky, na, os, ag, b, hb1, hyes, hno⟩ := xx
    have J : Inv X pins σ' H' sI := J'.ofTry ok
    have sky' : Sky B (X.env :: X.outer) a (Zc cls d) X.env.locals s'.heap := by rw [← hs]; exact sky
    show wpAny (model X.prog X.w) X.A (noteFrame (.ref a) X.env) _ _ _
    refine Sky.land Zc.steady hfr hf sky' fun h3 fl3 up3 => ?_
    have J3 : Inv X pins σ' H' { s' with heap := h3 } := J.landed nb fl3.1 (up.trans up3) os ag
    obtain ⟨oe3, vs3, he3, hz3, hd3⟩ := fl3.there
    have notFr : ∀ {h : Heap} {o : Obj} {vs : Array Value}, h.FunFrames B (X.env :: X.outer) → h.get? a = some o → o.data = .fields vs → a ∉ frs (X.env :: X.outer) := fun {h o vs} ff e dd hm => by
      obtain ⟨_, o', e', hnf⟩ := ff.mem hm
      rw [e] at e'; cases e'
      exact hnf _ dd
    have nfr := notFr fl3.2.2.1 he3 hd3
    have nL : a ≠ X.env.locals := fun z => nfr (List.mem_filterMap.mpr ⟨X.env, List.mem_cons_self, by rw [hf, z]⟩)
    have nF : a ∉ X.fs := fun hm => by
      obtain ⟨e, he, q⟩ := List.mem_filterMap.mp hm
      exact nfr (List.mem_filterMap.mpr ⟨e, List.mem_cons_of_mem _ he, q⟩)
    -- a was not there at the entry, nor is it pinned
    have nI : sI.heap.get? a = none := by
      cases e : sI.heap.get? a with
      | none => rfl
      | some o =>
        have z := nb a o e (by rw [hs]; exact nfr)
        rw [fl3.2.1] at z
        cases z
    have n0 : X.s_0.heap.get? a = none := by
      cases e : X.s_0.heap.get? a with
      | none => rfl
      | some o =>
        obtain ⟨o', z⟩ := J.base.there a o e (by rw [hex]; exact fun z => nomatch z)
        rw [nI] at z
        cases z
    have np' : ∀ p ∈ X.pn ++ pins, p.1 ≠ a := fun p hp z => by
      obtain ⟨e1, _⟩ := J.pin p hp
      rw [z, nI] at e1
      cases e1
    have S3 := J3.suite he3 hd3 na nL nF
    refine wpAny_handleBy_cons (codeAny_handlers_test ?_) (by intro q; cases q)
    refine hc a _ _ _ _ _ _ S3 fun u h3' k3 hm3 => ?_
    have fl3' := fl3.keeps k3
    have up3' : s'.heap.UpToSlots h3' := up3.trans (Heap.UpToSlots.of_keeps k3)
    have J3' : Inv X pins σ' H' { s' with heap := h3' } := J.landed nb fl3'.1 (up.trans up3') os ag
    have LT : PySem.W.Looks (model X.prog X.w) h3' (typeOf (.ref a)) cls := fun A Q E s k q => wpAny_typeOf_ref (k _ _ (k3 _ _ he3)) (by rw [hz3.1]; exact q)
    have LM := hm3 a cls b LT J3'.kIn hb1
    refine LM.here ?_
    cases b with
    | true =>
      refine codeAny_handlers_suite_as ?_
      refine HandSPX.lands_againZ fl3' fun h4 fl4 up4 => ?_
      have J4 : Inv X pins σ' H' { s' with heap := h4 } := J.landed nb fl4.1 ((up.trans up3').trans up4) os ag
      obtain ⟨oe4, vs4, he4, hz4, hd4⟩ := fl4.there
      have S4 := J4.suite he4 hd4 na nL nF
      refine store_ok (X := X.suite a ((a, oe4) :: (X.pn ++ pins))) (v := .ref a) S4 hN hi hloc rfl (fun s5 S5 => ?_) (.inr hln)
      have hlt : i < σ'.length := by
        rw [J.len]
        exact (List.getElem?_eq_some_iff.mp hi).1
      have hsu : PSs (X.suite a ((a, oe4) :: (X.pn ++ pins))) [.Assign [.Name m mp] (.Name n np) sp] (tSeq (tAsg (tVar i) (gName j)) tNext) := pss_cons (ps_set hN hj hlm (pe_var hi (.inl hln) hd hcd) hsw hfm) pss_nil
      have he5 : (σ'.set i (some (V.ref a)))[i]? = some (some (V.ref a)) := List.getElem?_set_self hlt
      refine wpAny_mono (hsu.run [] s5 _ H' { nx := fun σ6 H6 => σ6 = (σ'.set i (some (V.ref a))).set j (some (V.ref a)) ∧ H6 = H', rt := fun _ _ => False, bk := fun _ _ => False, ct := fun _ _ => False } S5 ⟨_, he5, rfl, rfl⟩) (fun f s6 hsp => ?_) (fun _ _ z => False.elim z)
      cases f with
      | next =>
        obtain ⟨σ6, H6, S6, e6, e6'⟩ := hsp
        subst e6 e6'
        refine gone_ok (S6.unsuiteP ok) hN hi hln fun s7 J7 => ?_
        exact ⟨_, _, J7.track n0 np' hz4 hd4, hyes rfl a na⟩
      | brk =>
        obtain ⟨σ6, H6, S6, q6⟩ := hsp
        exact False.elim q6
      | cont =>
        obtain ⟨σ6, H6, S6, q6⟩ := hsp
        exact False.elim q6
      | ret u =>
        obtain ⟨v6, σ6, H6, S6, r6, q6⟩ := hsp
        exact False.elim q6
    | false =>
      show wpAny _ X.A (handleBy (.ref a) X.env []) _ _ _
      refine wpAny_handleBy_nil ?_
      obtain ⟨k1, k2, k3, oe, vs, T, oT, ts', he, hz, hd, h1, hr⟩ := id fl3'
      unfold PySem.passOn
      refine wpAny_bind (wpAny_field he hd h1 ?_)
      rw [if_neg (show ¬ ((Value.ref T == Value.none) = true) from by simp)]
      have fin : wpAny (model X.prog X.w) X.A (setFlight (.ref a) X.env.frame) (fun _ s4 => wpAny (model X.prog X.w) X.A (throw (.ref a) : Sem Flow) (SP X pins D) X.xe s4) X.xe { s' with heap := h3' } := by
        rw [hf]
        refine HandSPX.setFlight_upZ fl3' fun h4 hh4 up4 => wpAny_throw (tk _ _ ?_)
        exact ⟨a, B, sI, pins, σ', H', cls, d, rfl, J, nb, (up.trans up3').trans up4, .inr (.inr (by rw [hs]; exact hh4)), na, os, ag, hno rfl⟩
      first
        | exact wpAny_bind (wpAny_pure (wpAny_bind fin))
        | exact wpAny_bind fin
  · cases f with
    | next =>
      obtain ⟨σ', H', J', q⟩ := hsp
      exact wpAny_execs_nil ⟨σ', H', J'.ofTry ok, q⟩
    | brk =>
      obtain ⟨σ', H', J', q⟩ := hsp
      exact ⟨σ', H', J'.ofTry ok, q⟩
    | cont =>
      obtain ⟨σ', H', J', q⟩ := hsp
      exact ⟨σ', H', J'.ofTry ok, q⟩
    | ret u =>
      obtain ⟨v, σ', H', J', r, q⟩ := hsp
      exact ⟨v, σ', H', J'.ofTry ok, r, q⟩
end
/-! ### what is asked of a kept one -/
/-- what the written part says of the class C for e.f and isinstance(e, ..) -/
structure XkC (K : PySem.W.Frag) (C : Addr) : Prop where
  ga : PySem.W.findIn K (.ref C) "__getattribute__" = some (some (.builtin "BaseException.__getattribute__"))
  gg : PySem.W.findIn K (.ref C) "__getattr__" = some none
  exC : PySem.W.subIn K (.ref C) (.type "BaseException") = some true
  cl : (PySem.W.clsIn K C).isSome = true
  hc : PySem.W.findIn K (.ref C) "__class__" = some (some (.builtin "object.__class__"))
  hn : PySem.W.specialIn K (.builtin "object.__class__") "__get__" = some (some (.builtin "getset_descriptor.__get__"))
  ht : PySem.W.takesIn K (.builtin "object.__class__") = some true
  hm : PySem.W.mroIn K C (.type "object") = some true
theorem xo_inst {P : Program} {w : World} {H : Hp} {h : Heap} {a C : Addr} {d : Option Addr} (hok : HOk P w H h) (ea : H a = some (XO (.ref C) d a)) (hd : ∀ dd, d = some dd → ∃ fs, H dd = some (.xd fs)) : ∃ oe od, PySem.W.InstAt h a oe C od := by
  obtain ⟨oe, vs, ho, hz, hf⟩ := xo_at hok ea
  have hn : PySem.W.notCls oe := by unfold PySem.W.notCls; rw [hf] <;> rfl
  cases d with
  | none => exact ⟨oe, none, ho, hz.1, hn, by rw [hz.2]; trivial⟩
  | some dd =>
    obtain ⟨fs, e⟩ := hd dd rfl
    have hx : ObjOk P w H h dd (.xd fs) := hok dd _ e
    obtain ⟨mA, ⟨o, es, ep, ho2, _⟩, _⟩ := hx
    exact ⟨oe, some o, ho, hz.1, hn, by rw [hz.2]; exact ho2⟩
/-- isinstance(e, c), isinstance(e, (c, ..)) -/
def rIsX (K : PySem.W.Frag) : List V → Hp → VK → Prop := fun xs H Q => ∃ (a C : Addr) (d : Option Addr) (c : V) (cs : List V) (us : List Value) (b : Bool), xs = [.ref a, c] ∧ XkC K C ∧ H a = some (XO (.ref C) d a) ∧ (∀ dd, d = some dd → ∃ fs, H dd = some (.xd fs)) ∧
  Paired ClsV cs us ∧ ((cs = [c] ∧ ∃ u, us = [u] ∧ PySem.W.kitOne K (.ref C) u = some b) ∨ ∃ p, c = .ref p ∧ H p = some (.tup cs) ∧ PySem.W.kitAny K (.ref C) us = some b) ∧ Q (.bl b) H
theorem call_isX {X : Cx} : CallR X (.builtin "isinstance") (rIsX X.K) := by
  intro pins s σ H xs us0 Q I r h
  obtain ⟨a, C, d, c, cs, us, b, rfl, T, ea, hdd, hcs, hw, q⟩ := h
  cases r with
  | cons rx rr =>
    cases rr with
    | cons rt rr =>
      cases rr
      cases rx
      obtain ⟨oe, od, J⟩ := xo_inst I.hok ea hdd
      rcases hw with ⟨e1, u, e2, hk⟩ | ⟨p, e1, e2, hk⟩
      · subst e1 e2
        cases hcs with
        | cons k _ =>
          have ec := k.eq rt
          subst ec
          exact PySem.W.kia_one (PySem.W.kitx_exc T.cl T.ga T.gg T.exC T.hc T.hn T.ht T.hm) I.kIn J hk (fun z => nomatch z) fun tk => ⟨.bl b, H, I.kept (t' := tk) fun _ _ z => z, rfl, q⟩
      · subst e1
        cases rt
        have hx : ObjOk X.prog X.w H s.heap p (.tup cs) := I.hok p _ e2
        obtain ⟨_, its, rv, ⟨o, h1, h2, n, h3⟩⟩ := hx
        have ei := ClsV.all hcs rv
        subst ei
        obtain ⟨oc, od', oda, osl⟩ := o
        dsimp only at h2 h3
        subst h2 h3
        exact PySem.W.kia_tup (PySem.W.kitx_exc T.cl T.ga T.gg T.exC T.hc T.hn T.ht T.hm) I.kIn J h1 hk (fun z => nomatch z) fun tk => ⟨.bl b, H, I.kept (t' := tk) fun _ _ z => z, rfl, q⟩
/-- e.f -/
def tXk (K : PySem.W.Frag) (f : Str) (te : TE) : TE := fun σ H Q => te σ H fun x H1 => ∃ (a C dd : Addr) (fs : List (Str × V)) (v : V), x = .ref a ∧ XkC K C ∧ PySem.W.hasDictIn K C = true ∧ PySem.W.findIn K (.ref C) f = some none ∧ H1 a = some (XO (.ref C) (some dd) a) ∧ H1 dd = some (.xd fs) ∧ fs.lookup f = some v ∧ Q v H1
theorem pe_xk {X : Cx} {e : Expr} {te : TE} {pos : Pos} {n : Str} (he : PE X e te) (hb : attributeBase e n X.env (eval e X.env) = eval e X.env := by rfl) : PE X (.Attribute e n pos) (tXk X.K n te) := by
  refine ⟨fun pins s σ H Q I h => ?_⟩
  refine attr_of hb (thn (he.run pins s σ H _ I h) fun u s1 hh => ?_)
  obtain ⟨x, H1, I1, rx, a, C, dd, fs, v, ex, T, hD, hno, ea, ed, l, q⟩ := hh
  subst ex
  obtain rfl : u = Value.ref a := rx
  obtain ⟨oe, vs, ho, hz, hf⟩ := xo_at I1.hok ea
  have hx : ObjOk X.prog X.w H1 s1.heap dd (.xd fs) := I1.hok dd _ ed
  obtain ⟨mA, hns, hr⟩ := hx
  obtain ⟨od, ho2, hl⟩ := lookIn_ns hns
  obtain ⟨u, hu, ru⟩ := RelO.some_of (v := v) (o := mA n) (by rw [← l]; exact hr n)
  have J : PySem.W.InstAt s1.heap a oe C (some od) := ⟨ho, hz.1, by unfold PySem.W.notCls; rw [hf] <;> rfl, by rw [hz.2]; exact ho2⟩
  exact HandSPX.exc_get I1.kIn J T.ga T.gg T.exC (PySem.W.findObj_own hD hno rfl (by rw [hl, hu])) (handed_of ru) ⟨v, H1, I1.tok _, ru, q⟩
end L2
-- Dn2
set_option maxHeartbeats 200000
set_option maxRecDepth 100000
/-! What stands in the heap for what the evaluator holds. -/
namespace Dn
open PySem PySem.Spec PyProof.Rows L2

/-- where the text's defs and classes stand -/
structure Tb where
  K : PySem.W.Frag
  fa : Nat → Option Addr
  ca : Nat → Option Addr

mutual
/-- v is w; what it leans on stands in F -/
def RepW (T : Tb) (F : Hp) : W → V → Prop
  | .non, v => v = .non
  | .bl b, v => v = .bl b
  | .int i, v => v = .int i
  | .str s, v => v = .str s
  | .tup ws, v => ∃ a vs, v = .ref a ∧ SqT T.K F a vs ∧ RepWs T F ws vs
  | .lst ws, v => ∃ a vs, v = .ref a ∧ F a = some (.lst vs) ∧ RepWs T F ws vs
  | .scr is, v => ∃ a, v = .ref a ∧ SqL T.K F a (is.map V.int)
  | .fn f, v => ∃ a, T.fa f = some a ∧ v = .ref a
  | .exc c ns ws, v => ∃ (a C : Addr) (d : Option Addr), T.ca c = some C ∧ v = .ref a ∧ F a = some (XO (.ref C) d a) ∧ ((ns = [] ∧ ws = [] ∧ d = none) ∨ ∃ dd vs, d = some dd ∧ F dd = some (.xd (ns.zip vs)) ∧ ns.length = ws.length ∧ RepWs T F ws vs)
  | _, _ => False
def RepWs (T : Tb) (F : Hp) : List W → List V → Prop
  | [], vs => vs = []
  | w :: ws, vs => ∃ v vs', vs = v :: vs' ∧ RepW T F w v ∧ RepWs T F ws vs'
end
/-- v is m, which owns the objects at fp -/
def RepM (T : Tb) (F H : Hp) : M → List Addr → V → Prop
  | .im w, fp, v => fp = [] ∧ RepW T F w v
  | .ls ws, fp, v => ∃ a vs, v = .ref a ∧ fp = [a] ∧ H a = some (.lst vs) ∧ F a = none ∧ RepWs T F ws vs
  | .pin G, fp, v => fp = [] ∧ v = .non ∧ Same G F
  | _, _, _ => False
/-- several, none of which owns what another one owns -/
inductive LV (T : Tb) (F H : Hp) : List (M × V) → List Addr → Prop
  | nil : LV T F H [] []
  | cons {m : M} {v : V} {l : List (M × V)} {f g : List Addr} : RepM T F H m f v → LV T F H l g → (∀ a ∈ f, a ∉ g) → LV T F H ((m, v) :: l) (f ++ g)
def Live (T : Tb) (H : Hp) (l : List (M × V)) : Prop := ∃ F fp, Same F H ∧ LV T F H l fp

section
variable {T : Tb} {F F' H H' : Hp} {l l' : List (M × V)} {m : M} {w : W} {ws us : List W} {v : V} {vs : List V} {fp : List Addr} {a p : Addr} {o : HO}

theorem sq_t {K : PySem.W.Frag} {H H' : Hp} {a : Addr} {xs : List V} (e : Same H H') (h : SqT K H a xs) : SqT K H' a xs := by
  rcases h with (h | ⟨o, h⟩) | h
  · exact .inl (.inl (e _ _ h))
  · exact .inl (.inr ⟨o, e _ _ h⟩)
  · exact .inr h
mutual
theorem RepW.mono (e : Same F F') : ∀ {w : W} {v : V}, RepW T F w v → RepW T F' w v
  | .non, _, h => h
  | .bl _, _, h => h
  | .int _, _, h => h
  | .str _, _, h => h
  | .tup ws, _, h => by
    obtain ⟨a, vs, e1, e2, e3⟩ := h
    exact ⟨a, vs, e1, sq_t e e2, RepWs.mono e e3⟩
  | .lst ws, _, h => by
    obtain ⟨a, vs, e1, e2, e3⟩ := h
    exact ⟨a, vs, e1, e a _ e2, RepWs.mono e e3⟩
  | .scr _, _, h => by
    obtain ⟨a, e1, e2⟩ := h
    exact ⟨a, e1, e.seq e2⟩
  | .fn _, _, h => h
  | .dct _ _, _, h => False.elim h
  | .ins _ _ _, _, h => False.elim h
  | .exc _ _ ws, _, h => by
    obtain ⟨a, C, d, e1, e2, e3, e4⟩ := h
    refine ⟨a, C, d, e1, e2, e a _ e3, ?_⟩
    rcases e4 with e4 | ⟨dd, vs, e5, e6, e7, e8⟩
    · exact .inl e4
    · exact .inr ⟨dd, vs, e5, e dd _ e6, e7, RepWs.mono e e8⟩
theorem RepWs.mono (e : Same F F') : ∀ {ws : List W} {vs : List V}, RepWs T F ws vs → RepWs T F' ws vs
  | [], _, h => h
  | w :: ws, _, h => by
    obtain ⟨v, vs', e1, e2, e3⟩ := h
    exact ⟨v, vs', e1, RepW.mono e e2, RepWs.mono e e3⟩
end
theorem RepWs.len : ∀ {ws : List W} {vs : List V}, RepWs T F ws vs → vs.length = ws.length
  | [], _, h => by
    have h' : _ = [] := h
    rw [h']; rfl
  | w :: ws, _, h => by
    obtain ⟨v, vs', e1, e2, e3⟩ := h
    rw [e1, List.length_cons, List.length_cons, RepWs.len e3]
theorem RepWs.get : ∀ {ws : List W} {vs : List V}, RepWs T F ws vs → ∀ {i : Nat} {w : W}, ws[i]? = some w → ∃ v, vs[i]? = some v ∧ RepW T F w v
  | [], _, _, i, w, h => by simp at h
  | w :: ws, _, h, 0, w', hi => by
    obtain ⟨v, vs', e1, e2, e3⟩ := h
    simp at hi
    subst hi e1
    exact ⟨v, rfl, e2⟩
  | w :: ws, _, h, i + 1, w', hi => by
    obtain ⟨v, vs', e1, e2, e3⟩ := h
    subst e1
    simpa using RepWs.get e3 (by simpa using hi)
theorem RepWs.getV (h : RepWs T F ws vs) {i : Nat} (hi : vs[i]? = some v) : ∃ w, ws[i]? = some w ∧ RepW T F w v := by
  have hl : i < vs.length := (List.getElem?_eq_some_iff.mp hi).1
  rw [h.len] at hl
  obtain ⟨v', e, r⟩ := h.get (List.getElem?_eq_getElem hl)
  rw [hi] at e
  cases e
  exact ⟨_, List.getElem?_eq_getElem hl, r⟩
theorem RepWs.append : ∀ {ws us : List W} {vs xs : List V}, RepWs T F ws vs → RepWs T F us xs → RepWs T F (ws ++ us) (vs ++ xs)
  | [], _, _, _, h, k => by
    have h' : _ = [] := h
    rw [h']; exact k
  | w :: ws, _, _, _, h, k => by
    obtain ⟨v, vs', e1, e2, e3⟩ := h
    subst e1
    exact ⟨v, _, rfl, e2, RepWs.append e3 k⟩
theorem RepWs.drop : ∀ (n : Nat) {ws : List W} {vs : List V}, RepWs T F ws vs → RepWs T F (ws.drop n) (vs.drop n)
  | 0, _, _, h => h
  | n + 1, [], _, h => by
    have h' : _ = [] := h
    rw [h']; exact rfl
  | n + 1, w :: ws, _, h => by
    obtain ⟨v, vs', e1, e2, e3⟩ := h
    subst e1
    exact RepWs.drop n e3
theorem RepWs.take : ∀ (n : Nat) {ws : List W} {vs : List V}, RepWs T F ws vs → RepWs T F (ws.take n) (vs.take n)
  | 0, _, _, h => rfl
  | n + 1, [], _, h => by
    have h' : _ = [] := h
    rw [h']; exact rfl
  | n + 1, w :: ws, _, h => by
    obtain ⟨v, vs', e1, e2, e3⟩ := h
    subst e1
    exact ⟨v, _, rfl, e2, RepWs.take n e3⟩
theorem RepWs.set : ∀ {ws : List W} {vs : List V} (i : Nat), RepWs T F ws vs → RepW T F w v → RepWs T F (ws.set i w) (vs.set i v)
  | [], _, _, h, _ => by
    have h' : _ = [] := h
    rw [h']; exact rfl
  | x :: ws, _, 0, h, k => by
    obtain ⟨v', vs', e1, e2, e3⟩ := h
    subst e1
    exact ⟨_, _, rfl, k, e3⟩
  | x :: ws, _, i + 1, h, k => by
    obtain ⟨v', vs', e1, e2, e3⟩ := h
    subst e1
    exact ⟨_, _, rfl, e2, RepWs.set i e3 k⟩
theorem RepWs.reverse : ∀ {ws : List W} {vs : List V}, RepWs T F ws vs → RepWs T F ws.reverse vs.reverse
  | [], _, h => by
    have h' : _ = [] := h
    rw [h']; exact rfl
  | w :: ws, _, h => by
    obtain ⟨v, vs', e1, e2, e3⟩ := h
    subst e1
    rw [List.reverse_cons, List.reverse_cons]
    exact RepWs.append (RepWs.reverse e3) ⟨v, [], rfl, e2, rfl⟩
theorem RepWs.one (h : RepW T F w v) : RepWs T F [w] [v] := ⟨v, [], rfl, h, rfl⟩

theorem RepM.mono (e : Same F F') (hf : ∀ a ∈ fp, F' a = none) (hh : ∀ a ∈ fp, H' a = H a) (h : RepM T F H m fp v) : RepM T F' H' m fp v := by
  cases m with
  | im w => exact ⟨h.1, h.2.mono e⟩
  | ls ws =>
    obtain ⟨a, vs, e1, e2, e3, e4, e5⟩ := h
    subst e2
    exact ⟨a, vs, e1, rfl, (hh a (by simp)).trans e3, hf a (by simp), e5.mono e⟩
  | pin G => exact ⟨h.1, h.2.1, h.2.2.trans e⟩
  | _ => exact False.elim h
theorem RepM.own (s : Same F H) (h : RepM T F H m fp v) : ∀ a ∈ fp, (∃ o, H a = some o) ∧ F a = none := by
  cases m with
  | im w =>
    obtain ⟨e, _⟩ := h
    subst e
    intro a ha
    simp at ha
  | ls ws =>
    obtain ⟨a, vs, e1, e2, e3, e4, e5⟩ := h
    subst e2
    intro b hb
    have : b = a := by simpa using hb
    subst this
    exact ⟨⟨_, e3⟩, e4⟩
  | pin G =>
    obtain ⟨e, _⟩ := h
    subst e
    intro a ha
    simp at ha
  | _ => exact False.elim h

theorem LV.mono (e : Same F F') (h : LV T F H l fp) : (∀ a ∈ fp, F' a = none) → (∀ a ∈ fp, H' a = H a) → LV T F' H' l fp := by
  induction h with
  | nil => intro _ _; exact .nil
  | cons h1 h2 h3 ih =>
    intro hf hh
    exact .cons (h1.mono e (fun a ha => hf a (List.mem_append_left _ ha)) fun a ha => hh a (List.mem_append_left _ ha)) (ih (fun a ha => hf a (List.mem_append_right _ ha)) fun a ha => hh a (List.mem_append_right _ ha)) h3
theorem LV.own (s : Same F H) (h : LV T F H l fp) : ∀ a ∈ fp, (∃ o, H a = some o) ∧ F a = none := by
  induction h with
  | nil => intro a ha; simp at ha
  | cons h1 h2 h3 ih =>
    intro a ha
    rcases List.mem_append.mp ha with ha | ha
    · exact h1.own s a ha
    · exact ih a ha
theorem LV.perm (h : l.Perm l') : ∀ {fp : List Addr}, LV T F H l fp → ∃ fp', LV T F H l' fp' ∧ ∀ a, a ∈ fp' ↔ a ∈ fp := by
  induction h with
  | nil => intro fp k; exact ⟨fp, k, fun _ => Iff.rfl⟩
  | cons x h ih =>
    intro fp k
    cases k with
    | cons k1 k2 k3 =>
      obtain ⟨g', q, iff⟩ := ih k2
      exact ⟨_, .cons k1 q fun a ha hg => k3 a ha ((iff a).mp hg), fun a => by rw [List.mem_append, List.mem_append, iff a]⟩
  | swap x y l =>
    intro fp k
    cases k with
    | cons k1 k2 k3 =>
      cases k2 with
      | cons j1 j2 j3 =>
        refine ⟨_, .cons j1 (.cons k1 j2 fun a ha hg => k3 a ha (List.mem_append_right _ hg)) fun a ha hg => ?_, fun a => ?_⟩
        · rcases List.mem_append.mp hg with hg | hg
          · exact k3 a hg (List.mem_append_left _ ha)
          · exact j3 a ha hg
        · simp only [List.mem_append]
          constructor
          · rintro (h | h | h)
            · exact .inr (.inl h)
            · exact .inl h
            · exact .inr (.inr h)
          · rintro (h | h | h)
            · exact .inr (.inl h)
            · exact .inl h
            · exact .inr (.inr h)
  | trans _ _ ih1 ih2 =>
    intro fp k
    obtain ⟨g1, q1, i1⟩ := ih1 k
    obtain ⟨g2, q2, i2⟩ := ih2 q1
    exact ⟨g2, q2, fun a => (i2 a).trans (i1 a)⟩
theorem LV.tail (h : LV T F H ((m, v) :: l) fp) : ∃ g, LV T F H l g := by
  cases h with
  | cons _ h2 _ => exact ⟨_, h2⟩

theorem Live.perm (h : Live T H l) (p : l.Perm l') : Live T H l' := by
  obtain ⟨F, fp, s, k⟩ := h
  obtain ⟨fp', k', _⟩ := LV.perm p k
  exact ⟨F, fp', s, k'⟩
theorem Live.tail {x : M × V} (h : Live T H (x :: l)) : Live T H l := by
  obtain ⟨F, fp, s, k⟩ := h
  obtain ⟨g, k'⟩ := LV.tail k
  exact ⟨F, g, s, k'⟩
theorem Live.nil : Live T H [] := ⟨fun _ => none, [], (fun _ _ e => by cases e), LV.nil⟩
/-- a further thing is tracked -/
theorem Live.grow (h : Live T H l) (n : H p = none) : Live T (upd H p o) l := by
  obtain ⟨F, fp, s, k⟩ := h
  refine ⟨F, fp, fun b x e => ?_, k.mono (Same.refl _) (fun a ha => (k.own s a ha).2) fun a ha => ?_⟩
  · rw [upd_ne (ne_of_none (s b x e) n)]; exact s b x e
  · obtain ⟨⟨u, e⟩, _⟩ := k.own s a ha
    rw [upd_ne (ne_of_none e n)]
/-- what is owned is given up: it never changes any more -/
theorem Live.freeze (h : Live T H ((m, v) :: l)) : Live T H ((.im m.fz, v) :: l) := by
  obtain ⟨F, fp, s, k⟩ := h
  cases m with
  | im w => exact ⟨F, fp, s, k⟩
  | ls ws =>
    cases k with
    | cons k1 k2 k3 =>
      rename_i f g
      obtain ⟨a, vs, e1, e2, e3, e4, e5⟩ := k1
      subst e2
      have sF : Same F (upd F a (.lst vs)) := fun b x e => by rw [upd_ne (ne_of_none e e4)]; exact e
      refine ⟨upd F a (.lst vs), [] ++ g, fun b x e => ?_, .cons ⟨rfl, a, vs, e1, upd_same, e5.mono sF⟩ (k2.mono sF (fun b hb => ?_) fun _ _ => rfl) (by simp)⟩
      · by_cases hb : b = a
        · subst hb; rw [upd_same] at e; cases e; exact e3
        · rw [upd_ne hb] at e; exact s b x e
      · have hb' : b ≠ a := fun z => k3 a (by simp) (z ▸ hb)
        rw [upd_ne hb']; exact (k2.own s b hb).2
  | pin G =>
    cases k with
    | cons k1 k2 k3 =>
      obtain ⟨e, e2, _⟩ := k1
      subst e
      exact ⟨F, [] ++ _, s, .cons (m := .im .non) ⟨rfl, e2⟩ k2 (by simp)⟩
  | _ => cases k with | cons k1 _ _ => exact False.elim k1
theorem Live.dup (h : Live T H ((.im w, v) :: l)) : Live T H ((.im w, v) :: (.im w, v) :: l) := by
  obtain ⟨F, fp, s, k⟩ := h
  cases k with
  | cons k1 k2 k3 =>
    obtain ⟨e, r⟩ := k1
    subst e
    exact ⟨F, [] ++ ([] ++ _), s, .cons (m := .im w) ⟨rfl, r⟩ (.cons (m := .im w) ⟨rfl, r⟩ k2 (by simp)) (by simp)⟩
/-- a value without objects of its own -/
def Plain : W → V → Prop
  | .non, v => v = .non
  | .bl b, v => v = .bl b
  | .int i, v => v = .int i
  | .str s, v => v = .str s
  | _, _ => False
theorem Live.plain (h : Live T H l) (p : Plain w v) : Live T H ((.im w, v) :: l) := by
  obtain ⟨F, fp, s, k⟩ := h
  refine ⟨F, [] ++ fp, s, .cons ⟨rfl, ?_⟩ k (by simp)⟩
  cases w <;> first | exact p | exact False.elim p
/-- what lies ahead as values: x, y, .. with their V's -/
def ims : List W → List V → List (M × V)
  | w :: ws, v :: vs => (.im w, v) :: ims ws vs
  | _, _ => []
theorem LV.ims_split : ∀ {ws : List W} {vs : List V} {fp : List Addr}, vs.length = ws.length → LV T F H (ims ws vs ++ l) fp → RepWs T F ws vs ∧ LV T F H l fp
  | [], [], _, _, k => ⟨rfl, k⟩
  | w :: ws, v :: vs, _, hl, k => by
    cases k with
    | cons k1 k2 k3 =>
      obtain ⟨e, r⟩ := k1
      subst e
      obtain ⟨q, k'⟩ := LV.ims_split (by simpa using hl) k2
      exact ⟨⟨v, vs, rfl, r, q⟩, k'⟩
theorem LV.ims_join : ∀ {ws : List W} {vs : List V} {fp : List Addr}, RepWs T F ws vs → LV T F H l fp → LV T F H (ims ws vs ++ l) fp
  | [], vs, _, r, k => by
    have r' : _ = [] := r
    rw [r']; exact k
  | w :: ws, vs, _, r, k => by
    obtain ⟨v, vs', e1, e2, e3⟩ := r
    subst e1
    exact LV.cons (m := .im w) (f := []) ⟨rfl, e2⟩ (LV.ims_join e3 k) (by simp)
/-- a new list of known values -/
theorem Live.newL (h : Live T H (ims ws vs ++ l)) (hl : vs.length = ws.length) (n : H p = none) : Live T (upd H p (.lst vs)) ((.ls ws, .ref p) :: l) := by
  obtain ⟨F, fp, s, k⟩ := h
  obtain ⟨r, k'⟩ := LV.ims_split hl k
  have np : ∀ a ∈ fp, a ≠ p := fun a ha z => by
    obtain ⟨⟨u, e⟩, _⟩ := k'.own s a ha
    rw [z, n] at e; cases e
  refine ⟨F, [p] ++ fp, fun b x e => ?_, .cons ⟨p, vs, rfl, rfl, upd_same, ?_, r⟩ (k'.mono (Same.refl _) (fun a ha => (k'.own s a ha).2) fun a ha => by rw [upd_ne (np a ha)]) fun a ha => ?_⟩
  · rw [upd_ne (ne_of_none (s b x e) n)]; exact s b x e
  · cases e : F p with
    | none => rfl
    | some u => rw [s p u e] at n; cases n
  · have : a = p := by simpa using ha
    subst this
    exact fun hm => np a hm rfl
theorem Live.newT (h : Live T H (ims ws vs ++ l)) (hl : vs.length = ws.length) (n : H p = none) : Live T (upd H p (.tup vs)) ((.im (.tup ws), .ref p) :: l) := by
  obtain ⟨F, fp, s, k⟩ := h
  obtain ⟨r, k'⟩ := LV.ims_split hl k
  have np : ∀ a ∈ fp, a ≠ p := fun a ha z => by
    obtain ⟨⟨u, e⟩, _⟩ := k'.own s a ha
    rw [z, n] at e; cases e
  have nF : F p = none := by
    cases e : F p with
    | none => rfl
    | some u => rw [s p u e] at n; cases n
  have sF : Same F (upd F p (.tup vs)) := fun b x e => by rw [upd_ne (ne_of_none e nF)]; exact e
  refine ⟨upd F p (.tup vs), [] ++ fp, fun b x e => ?_, .cons ⟨rfl, p, vs, rfl, SqT.of upd_same, r.mono sF⟩ (k'.mono sF (fun a ha => by rw [upd_ne (np a ha)]; exact (k'.own s a ha).2) fun a ha => by rw [upd_ne (np a ha)]) (by simp)⟩
  by_cases hb : b = p
  · subst hb; rw [upd_same] at e ⊢; exact e
  · rw [upd_ne hb] at e ⊢; exact s b x e
/-- what a list, a tuple holds -/
theorem Live.openL (h : Live T H ((.im (.lst ws), v) :: l)) : ∃ a vs, v = .ref a ∧ H a = some (.lst vs) ∧ vs.length = ws.length ∧ Live T H (ims ws vs ++ (.im (.lst ws), v) :: l) := by
  obtain ⟨F, fp, s, k⟩ := h
  cases k with
  | cons k1 k2 k3 =>
    obtain ⟨e, a, vs, e1, e2, e3⟩ := k1
    subst e
    exact ⟨a, vs, e1, s a _ e2, e3.len, F, _, s, LV.ims_join e3 (.cons ⟨rfl, a, vs, e1, e2, e3⟩ k2 (by simp))⟩
theorem Live.openT (h : Live T H ((.im (.tup ws), v) :: l)) : ∃ a vs, v = .ref a ∧ SqT T.K H a vs ∧ vs.length = ws.length ∧ Live T H (ims ws vs ++ (.im (.tup ws), v) :: l) := by
  obtain ⟨F, fp, s, k⟩ := h
  cases k with
  | cons k1 k2 k3 =>
    obtain ⟨e, a, vs, e1, e2, e3⟩ := k1
    subst e
    exact ⟨a, vs, e1, sq_t s e2, e3.len, F, _, s, LV.ims_join e3 (.cons ⟨rfl, a, vs, e1, e2, e3⟩ k2 (by simp))⟩
/-- an owned list -/
theorem Live.openO (h : Live T H ((.ls ws, v) :: l)) : ∃ a vs, v = .ref a ∧ H a = some (.lst vs) ∧ vs.length = ws.length ∧ Live T H (ims ws vs ++ (.ls ws, v) :: l) := by
  obtain ⟨F, fp, s, k⟩ := h
  cases k with
  | cons k1 k2 k3 =>
    obtain ⟨a, vs, e1, e2, e3, e4, e5⟩ := k1
    subst e2
    exact ⟨a, vs, e1, e3, e5.len, F, _, s, LV.ims_join e5 (.cons ⟨a, vs, e1, rfl, e3, e4, e5⟩ k2 k3)⟩
/-- an owned list holds something else now -/
theorem Live.write {xs : List V} (h : Live T H (ims us xs ++ (.ls ws, .ref a) :: l)) (hl : xs.length = us.length) : Live T (upd H a (.lst xs)) ((.ls us, .ref a) :: l) := by
  obtain ⟨F, fp, s, k⟩ := h
  obtain ⟨r, k'⟩ := LV.ims_split hl k
  cases k' with
  | cons k1 k2 k3 =>
    obtain ⟨a', vs, e1, e2, e3, e4, e5⟩ := k1
    cases e1
    subst e2
    rename_i g
    have np : ∀ b ∈ g, b ≠ a := fun b hb z => k3 a (by simp) (z ▸ hb)
    refine ⟨F, [a] ++ g, fun b x e => ?_, .cons ⟨a, xs, rfl, rfl, upd_same, e4, r⟩ (k2.mono (Same.refl _) (fun b hb => (k2.own s b hb).2) fun b hb => by rw [upd_ne (np b hb)]) k3⟩
    rw [upd_ne fun z => by rw [z, e4] at e; cases e]
    exact s b x e
end
end Dn
-- Dn3
set_option maxHeartbeats 200000
set_option maxRecDepth 100000
/-! The state of a def at work, and what a piece's meaning asks. -/
namespace Dn
open PySem PySem.Spec PyProof.Rows L2

/-- the slots that hold something -/
def slots : Env → L2.St → List (M × V)
  | some m :: r, some v :: q => (m, v) :: slots r q
  | _ :: r, _ :: q => slots r q
  | _, _ => []
def Cons : Env → L2.St → Prop
  | [], [] => True
  | none :: r, _ :: q => Cons r q
  | some _ :: r, x :: q => (∃ v, x = some v) ∧ Cons r q
  | _, _ => False
section
variable {T : Tb} {H : Hp} {r : Env} {q : L2.St} {i : Nat} {m : M} {v : V} {ts : List (M × V)}
theorem Cons.len : ∀ {r : Env} {q : L2.St}, Cons r q → r.length = q.length
  | [], [], _ => rfl
  | none :: r, _ :: q, h => congrArg (· + 1) (Cons.len (show Cons r q from h))
  | some _ :: r, x :: q, h => congrArg (· + 1) (Cons.len h.2)
  | [], _ :: _, h => False.elim h
  | none :: _, [], h => False.elim h
  | some _ :: _, [], h => False.elim h
theorem cons_get : ∀ {r : Env} {q : L2.St} {i : Nat} {m : M}, Cons r q → r[i]? = some (some m) → ∃ v, q[i]? = some (some v) ∧ (slots r q).Perm ((m, v) :: slots (r.set i none) q) ∧ Cons (r.set i none) q
  | [], _, _, _, _, h => by simp at h
  | some m' :: r, x :: q, 0, m, h, e => by
    obtain ⟨⟨v, rfl⟩, h2⟩ := h
    simp at e
    subst e
    exact ⟨v, rfl, List.Perm.refl _, h2⟩
  | none :: r, x :: q, 0, m, h, e => by simp at e
  | some m' :: r, x :: q, i + 1, m, h, e => by
    obtain ⟨⟨v', rfl⟩, h2⟩ := h
    obtain ⟨v, e1, p, c⟩ := cons_get h2 (by simpa using e)
    refine ⟨v, by simpa using e1, ?_, ⟨_, rfl⟩, c⟩
    exact (List.Perm.cons _ p).trans (List.Perm.swap _ _ _)
  | none :: r, x :: q, i + 1, m, h, e => by
    obtain ⟨v, e1, p, c⟩ := cons_get (show Cons r q from h) (by simpa using e)
    refine ⟨v, by simpa using e1, ?_, c⟩
    cases x <;> exact p
  | some _ :: _, [], _, _, h, _ => False.elim h
  | none :: _, [], _, _, h, _ => False.elim h
theorem cons_put : ∀ {r : Env} {q : L2.St} {i : Nat} (m : M) (v : V), Cons r q → i < r.length → (slots (r.set i (some m)) (q.set i (some v))).Perm ((m, v) :: slots (r.set i none) q) ∧ Cons (r.set i (some m)) (q.set i (some v))
  | [], _, _, _, _, _, h => by simp at h
  | some m' :: r, x :: q, 0, m, v, h, _ => by
    obtain ⟨⟨v', rfl⟩, h2⟩ := h
    exact ⟨List.Perm.refl _, ⟨v, rfl⟩, h2⟩
  | none :: r, x :: q, 0, m, v, h, _ => by
    refine ⟨?_, ⟨v, rfl⟩, h⟩
    cases x <;> exact List.Perm.refl _
  | some m' :: r, x :: q, i + 1, m, v, h, hi => by
    obtain ⟨⟨v', rfl⟩, h2⟩ := h
    obtain ⟨p, c⟩ := cons_put m v h2 (Nat.lt_of_succ_lt_succ hi)
    exact ⟨(List.Perm.cons _ p).trans (List.Perm.swap _ _ _), ⟨_, rfl⟩, c⟩
  | none :: r, x :: q, i + 1, m, v, h, hi => by
    obtain ⟨p, c⟩ := cons_put m v (show Cons r q from h) (Nat.lt_of_succ_lt_succ hi)
    refine ⟨?_, c⟩
    cases x <;> exact p
  | some _ :: _, [], _, _, _, h, _ => False.elim h
  | none :: _, [], _, _, _, h, _ => False.elim h
theorem set_same {α : Type} : ∀ {l : List α} {i : Nat} {x : α}, l[i]? = some x → l.set i x = l
  | [], _, _, _ => rfl
  | y :: l, 0, x, h => by simp at h; simp [h]
  | y :: l, i + 1, x, h => by simp at h; simp [set_same h]
theorem getM_some (h : getM r i = some m) : r[i]? = some (some m) := by
  unfold getM at h
  split at h
  · rename_i e; cases h; exact e
  · cases h
theorem slot_get (c : Cons r q) (e : getM r i = some m) (h : Live T H (slots r q ++ ts)) : ∃ v, q[i]? = some (some v) ∧ Cons (r.set i none) q ∧ Live T H ((m, v) :: (slots (r.set i none) q ++ ts)) := by
  obtain ⟨v, e1, p, c'⟩ := cons_get c (getM_some e)
  exact ⟨v, e1, c', h.perm (p.append_right ts)⟩
/-- the slot holds the same, as m now -/
theorem slot_back (c : Cons r q) (hi : i < r.length) (e : q[i]? = some (some v)) (h : Live T H ((m, v) :: (slots (r.set i none) q ++ ts))) : Cons (r.set i (some m)) q ∧ Live T H (slots (r.set i (some m)) q ++ ts) := by
  obtain ⟨p, c'⟩ := cons_put m v c hi
  rw [set_same e] at p c'
  exact ⟨c', h.perm (p.symm.append_right ts)⟩
theorem slots_none : ∀ {r : Env} {q : L2.St} {i : Nat}, Cons r q → ∃ l, (slots r q).Perm (l ++ slots (r.set i none) q) ∧ Cons (r.set i none) q
  | [], [], i, _ => ⟨[], List.Perm.refl _, True.intro⟩
  | some m :: r, x :: q, 0, h => by
    obtain ⟨⟨v, rfl⟩, h2⟩ := h
    exact ⟨[(m, v)], List.Perm.refl _, h2⟩
  | none :: r, x :: q, 0, h => ⟨[], by cases x <;> exact List.Perm.refl _, h⟩
  | some m :: r, x :: q, i + 1, h => by
    obtain ⟨⟨v, rfl⟩, h2⟩ := h
    obtain ⟨l, p, c⟩ := slots_none (i := i) h2
    exact ⟨l, (List.Perm.cons _ p).trans List.perm_middle.symm, ⟨_, rfl⟩, c⟩
  | none :: r, x :: q, i + 1, h => by
    obtain ⟨l, p, c⟩ := slots_none (i := i) (show Cons r q from h)
    exact ⟨l, by cases x <;> exact p, c⟩
  | [], _ :: _, _, h => False.elim h
  | some _ :: _, [], _, h => False.elim h
  | none :: _, [], _, h => False.elim h
theorem Live.dropL {l' : List (M × V)} : ∀ {l : List (M × V)}, Live T H (l ++ l') → Live T H l'
  | [], h => h
  | _ :: l, h => Live.dropL (l := l) h.tail
theorem slot_drop (c : Cons r q) (h : Live T H (slots r q ++ ts)) : Cons (r.set i none) q ∧ Live T H (slots (r.set i none) q ++ ts) := by
  obtain ⟨l, p, c'⟩ := slots_none (i := i) c
  refine ⟨c', Live.dropL (l := l) ?_⟩
  rw [← List.append_assoc]
  exact h.perm (p.append_right ts)
theorem slot_put (c : Cons r q) (hi : i < r.length) (h : Live T H ((m, v) :: (slots r q ++ ts))) : Cons (r.set i (some m)) (q.set i (some v)) ∧ Live T H (slots (r.set i (some m)) (q.set i (some v)) ++ ts) := by
  obtain ⟨p, c'⟩ := cons_put m v c hi
  have h2 : Live T H (slots r q ++ ((m, v) :: ts)) := h.perm List.perm_middle.symm
  have h3 := (slot_drop (i := i) c h2).2
  exact ⟨c', (h3.perm List.perm_middle).perm (p.symm.append_right ts)⟩
end

/-! ### what a meaning asks -/
/-- an exception as the evaluator tells it -/
def ExcLive (T : Tb) (H : Hp) (w : W) (cls : Value) (d : Option Addr) (l : List (M × V)) : Prop :=
  match w with
  | .exc c ns ws => ∃ C, T.ca c = some C ∧ cls = .ref C ∧ ((ns = [] ∧ ws = [] ∧ d = none ∧ Live T H l) ∨
      ∃ dd vs, d = some dd ∧ H dd = some (.xd (ns.zip vs)) ∧ vs.length = ws.length ∧ ns.length = ws.length ∧ Live T H (ims ws vs ++ l))
  | _ => False
def okR {a : Type} (T : Tb) (Ex : WX) (q : L2.St) (ts : List (M × V)) (S : a → Env → Prop) : R a → Prop
  | .ok x r => S x r
  | .exc w r => ∀ cls d H, Cons r q → ExcLive T H w cls d (slots r q ++ ts) → Ex cls d q H
  | .stuck => False
section
variable {T : Tb} {Ex : WX} {q : L2.St} {ts : List (M × V)} {t : M × V}
theorem okR.bind {a b : Type} {S : b → Env → Prop} {x : R a} {k : a → Env → R b} (h : okR T Ex q ts S (x.bind k)) : okR T Ex q ts (fun m r => okR T Ex q ts S (k m r)) x := by
  cases x <;> exact h
theorem okR.imp {a : Type} {S S' : a → Env → Prop} {x : R a} (h : okR T Ex q ts S x) (i : ∀ m r, S m r → S' m r) : okR T Ex q ts S' x := by
  cases x with
  | ok m r => exact i m r h
  | exc w r => exact h
  | stuck => exact h
theorem ExcLive.less {H : Hp} {w : W} {cls : Value} {d : Option Addr} {l l' : List (M × V)} (h : ExcLive T H w cls d l) (s : ∀ k, Live T H (k ++ l) → Live T H (k ++ l')) : ExcLive T H w cls d l' := by
  cases w with
  | exc c ns ws =>
    obtain ⟨C, e1, e2, h | ⟨dd, vs, e3, e4, e5, e6, h⟩⟩ := h
    · exact ⟨C, e1, e2, .inl ⟨h.1, h.2.1, h.2.2.1, s [] h.2.2.2⟩⟩
    · exact ⟨C, e1, e2, .inr ⟨dd, vs, e3, e4, e5, e6, s _ h⟩⟩
  | _ => exact False.elim h
theorem drop_mid {H : Hp} {k l : List (M × V)} (h : Live T H (k ++ (l ++ t :: ts))) : Live T H (k ++ (l ++ ts)) := by
  have e : (k ++ (l ++ t :: ts)).Perm (t :: (k ++ (l ++ ts))) := by
    rw [← List.append_assoc, ← List.append_assoc]
    exact List.perm_middle
  exact (h.perm e).tail
theorem okR.more {a : Type} {S : a → Env → Prop} {x : R a} (h : okR T Ex q ts S x) : okR T Ex q (t :: ts) S x := by
  cases x with
  | ok m r => exact h
  | exc w r => exact fun cls d H c z => h cls d H c (z.less fun k => drop_mid)
  | stuck => exact h
end
/-- the meaning d of an expression, as a reading -/
def okE (T : Tb) (Ex : WX) (q : L2.St) (ts : List (M × V)) (Q : VK) : R M → Prop :=
  okR T Ex q ts fun m r => ∀ v H, Cons r q → Live T H ((m, v) :: (slots r q ++ ts)) → Q v H
def tE (T : Tb) (Ex : WX) (d : Env → R M) : TE := fun q H Q => ∃ r ts, Cons r q ∧ Live T H (slots r q ++ ts) ∧ okE T Ex q ts Q (d r)
/-- .. of a test -/
def tT (T : Tb) (Ex : WX) (d : Env → R Bool) : TT := fun q H Q => ∃ r ts, Cons r q ∧ Live T H (slots r q ++ ts) ∧
  okR T Ex q ts (fun b r => ∀ H, Cons r q → Live T H (slots r q ++ ts) → Q b H) (d r)
/-- .. of arguments, all as values -/
def tL (T : Tb) (Ex : WX) (d : Env → R (List W)) : TA := fun q H Q => ∃ r ts, Cons r q ∧ Live T H (slots r q ++ ts) ∧
  okR T Ex q ts (fun ws r => ∀ vs H, Cons r q → vs.length = ws.length → Live T H (ims ws vs ++ (slots r q ++ ts)) → Q vs H) (d r)

theorem pe_imp {X : Cx} {e : Expr} {t t' : TE} (h : PE X e t) (i : ∀ q H Q, t' q H Q → t q H Q) : PE X e t' := ⟨fun pins s q H Q I w => h.run pins s q H Q I (i q H Q w)⟩
theorem pt_imp {X : Cx} {e : Expr} {t t' : TT} (h : PT X e t) (i : ∀ q H Q, t' q H Q → t q H Q) : PT X e t' := ⟨fun pins s q H Q I w => h.run pins s q H Q I (i q H Q w)⟩
theorem pw_imp {X : Cx} {e : Expr} {t t' : TT} (h : PW X e t) (i : ∀ q H Q, t' q H Q → t q H Q) : PW X e t' := ⟨fun wh pins s q H Q I w => h.run wh pins s q H Q I (i q H Q w)⟩
theorem pa_imp {X : Cx} {e : List Expr} {t t' : TA} (h : PA X e t) (i : ∀ q H Q, t' q H Q → t q H Q) : PA X e t' := ⟨fun pos pins s q H Q I w => h.run pos pins s q H Q I (i q H Q w)⟩

section
variable {T : Tb} {Ex : WX} {q : L2.St} {ts : List (M × V)} {X : Cx} {e a b : Expr} {pos : Pos} {H : Hp}
/-- d first, then what k asks of its value as a temporary -/
theorem tE_seq {d : Env → R M} {k : M → Env → R M} {r : Env} {Q : VK} (c : Cons r q) (l : Live T H (slots r q ++ ts)) (h : okE T Ex q ts Q ((d r).bind k)) {Q' : VK}
    (n : ∀ m r' v H', Cons r' q → Live T H' ((m, v) :: (slots r' q ++ ts)) → okE T Ex q ts Q (k m r') → Q' v H') : tE T Ex d q H Q' :=
  ⟨r, ts, c, l, (okR.bind h).imp fun m r' h' v H' c' l' => n m r' v H' c' l' h'⟩
theorem mid {x : M × V} {l ts : List (M × V)} (h : Live T H (x :: (l ++ ts))) : Live T H (l ++ x :: ts) := h.perm List.perm_middle.symm
theorem mid' {x : M × V} {l ts : List (M × V)} (h : Live T H (l ++ x :: ts)) : Live T H (x :: (l ++ ts)) := h.perm List.perm_middle

theorem w_bind {x : R M} {k : W → Env → R M} : x.w.bind k = x.bind fun m r => k m.fz r := by cases x <;> rfl
theorem okE_more {t : M × V} {Q : VK} {x : R M} (h : okE T Ex q ts Q x) : okR T Ex q (t :: ts) (fun m r => ∀ v H, Cons r q → Live T H ((m, v) :: (slots r q ++ ts)) → Q v H) x := okR.more h

/-- constants -/
theorem se_int {i : Int} {j : Nat} : PE X (.Constant (.int i) j pos) (tE T Ex fun r => .ok (.im (.int i)) r) :=
  pe_imp pe_int fun _ _ _ ⟨_, _, c, l, h⟩ => h _ _ c (l.plain rfl)
theorem se_str {x : Str} {j : Nat} : PE X (.Constant (.str x) j pos) (tE T Ex fun r => .ok (.im (.str x)) r) :=
  pe_imp pe_str fun _ _ _ ⟨_, _, c, l, h⟩ => h _ _ c (l.plain rfl)
theorem se_bl {x : Bool} {j : Nat} : PE X (.Constant (.bool x) j pos) (tE T Ex fun r => .ok (.im (.bl x)) r) :=
  pe_imp pe_bl fun _ _ _ ⟨_, _, c, l, h⟩ => h _ _ c (l.plain rfl)
theorem se_non {j : Nat} : PE X (.Constant .none j pos) (tE T Ex fun r => .ok (.im .non) r) :=
  pe_imp pe_non fun _ _ _ ⟨_, _, c, l, h⟩ => h _ _ c (l.plain rfl)
theorem getM_lt {r : Env} {i : Nat} {m : M} (h : getM r i = some m) : i < r.length := (List.getElem?_eq_some_iff.mp (getM_some h)).1
theorem se_var {h : Th} {i : Nat} {x : Str} (hN : X.N[i]? = some x) (hv : Vis X.env.scope x) (hd : (x == ("__debug__" : Str)) = false) (hcd : (x == ("__classdict__" : Str)) = false) :
    PE X (.Name x pos) (tE T Ex (evE h (.var i))) := by
  refine pe_imp (pe_var hN hv hd hcd) fun q H Q ⟨r, ts, c, l, k⟩ => ?_
  simp only [evE] at k
  cases e : getM r i with
  | none => rw [e] at k; exact False.elim k
  | some m =>
    rw [e] at k
    obtain ⟨v, e1, c', l'⟩ := slot_get c e l
    have l2 := l'.freeze.dup
    obtain ⟨c3, l3⟩ := slot_back (ts := (.im m.fz, v) :: ts) c (getM_lt e) e1 (l2.perm (List.Perm.cons _ List.perm_middle.symm))
    exact ⟨v, e1, k v H c3 (mid' l3)⟩
end
end Dn
-- Dn4
set_option maxRecDepth 100000
set_option maxHeartbeats 1000000
/-! Operators by values. -/
namespace Dn
open PySem PySem.Spec PyProof.Rows L2
theorem LIM_line : LIM ≤ sizeLine := by rw [sizeLine_eq]; decide

section
variable {T : Tb} {H : Hp} {l : List (M × V)} {x y : W} {vx vy v : V}
/-- what a plain value's V is -/
theorem Live.vnon (h : Live T H ((.im .non, v) :: l)) : v = .non := by
  obtain ⟨F, fp, s, k⟩ := h
  cases k with | cons k1 _ _ => exact k1.2
theorem Live.vbl {b : Bool} (h : Live T H ((.im (.bl b), v) :: l)) : v = .bl b := by
  obtain ⟨F, fp, s, k⟩ := h
  cases k with | cons k1 _ _ => exact k1.2
theorem Live.vint {i : Int} (h : Live T H ((.im (.int i), v) :: l)) : v = .int i := by
  obtain ⟨F, fp, s, k⟩ := h
  cases k with | cons k1 _ _ => exact k1.2
theorem Live.vstr {s : Str} (h : Live T H ((.im (.str s), v) :: l)) : v = .str s := by
  obtain ⟨F, fp, s, k⟩ := h
  cases k with | cons k1 _ _ => exact k1.2
theorem Live.vscr {is : List Int} (h : Live T H ((.im (.scr is), v) :: l)) : ∃ a, v = .ref a ∧ SqL T.K H a (is.map V.int) := by
  obtain ⟨F, fp, s, k⟩ := h
  cases k with
  | cons k1 _ _ =>
    obtain ⟨_, a, e, q⟩ := k1
    exact ⟨a, e, s.seq q⟩
theorem swap2 {x y : M × V} (h : Live T H (x :: y :: l)) : Live T H (y :: x :: l) := h.perm (List.Perm.swap _ _ _)
theorem drop2 {x y : M × V} (h : Live T H (x :: y :: l)) : Live T H (x :: l) := (swap2 h).tail
theorem ims_len : ∀ {ws : List W} {vs : List V}, vs.length = ws.length → ims (ws ++ []) (vs ++ []) = ims ws vs
  | ws, vs, _ => by rw [List.append_nil, List.append_nil]
theorem ims_append : ∀ {ws us : List W} {vs xs : List V}, vs.length = ws.length → ims (ws ++ us) (vs ++ xs) = ims ws vs ++ ims us xs
  | [], _, [], _, _ => rfl
  | w :: ws, _, v :: vs, _, h => by
    show _ :: ims (ws ++ _) (vs ++ _) = _ :: (ims ws vs ++ _)
    rw [ims_append (by simpa using h)]
/-- two lists' items ahead -/
theorem Live.openLL {a b : List W} (h : Live T H ((.im (.lst a), vx) :: (.im (.lst b), vy) :: l)) : ∃ p q xs ys, vx = .ref p ∧ vy = .ref q ∧ H p = some (.lst xs) ∧ H q = some (.lst ys) ∧ xs.length = a.length ∧ ys.length = b.length ∧ Live T H (ims (a ++ b) (xs ++ ys) ++ l) := by
  obtain ⟨p, xs, e1, e2, e3, h1⟩ := h.openL
  have h2 : Live T H ((.im (.lst b), vy) :: (ims a xs ++ l)) := by
    have := h1.perm (List.perm_middle)
    have := this.tail
    exact this.perm (List.perm_middle)
  obtain ⟨q, ys, f1, f2, f3, h3⟩ := h2.openL
  refine ⟨p, q, xs, ys, e1, f1, e2, f2, e3, f3, ?_⟩
  rw [ims_append e3]
  have h4 := (h3.perm List.perm_middle).tail
  refine h4.perm ?_
  rw [← List.append_assoc]
  exact (List.perm_append_comm).append_right l
theorem Live.openTT {a b : List W} (h : Live T H ((.im (.tup a), vx) :: (.im (.tup b), vy) :: l)) : ∃ p q xs ys, vx = .ref p ∧ vy = .ref q ∧ SqT T.K H p xs ∧ SqT T.K H q ys ∧ xs.length = a.length ∧ ys.length = b.length ∧ Live T H (ims (a ++ b) (xs ++ ys) ++ l) := by
  obtain ⟨p, xs, e1, e2, e3, h1⟩ := h.openT
  have h2 : Live T H ((.im (.tup b), vy) :: (ims a xs ++ l)) := by
    have := h1.perm (List.perm_middle)
    have := this.tail
    exact this.perm (List.perm_middle)
  obtain ⟨q, ys, f1, f2, f3, h3⟩ := h2.openT
  refine ⟨p, q, xs, ys, e1, f1, e2, f2, e3, f3, ?_⟩
  rw [ims_append e3]
  have h4 := (h3.perm List.perm_middle).tail
  refine h4.perm ?_
  rw [← List.append_assoc]
  exact (List.perm_append_comm).append_right l
theorem RepWs.rep {T : Tb} {F : Hp} {ws : List W} {vs : List V} (h : RepWs T F ws vs) : ∀ k : Nat, RepWs T F (List.replicate k ws).flatten (List.replicate k vs).flatten
  | 0 => rfl
  | k + 1 => by
    rw [List.replicate_succ, List.replicate_succ, List.flatten_cons, List.flatten_cons]
    exact h.append (h.rep k)
theorem Live.rep {ws : List W} {vs : List V} (h : Live T H (ims ws vs ++ l)) (hl : vs.length = ws.length) (k : Nat) : Live T H (ims (List.replicate k ws).flatten (List.replicate k vs).flatten ++ l) := by
  obtain ⟨F, fp, s, q⟩ := h
  obtain ⟨r, q'⟩ := LV.ims_split hl q
  exact ⟨F, fp, s, LV.ims_join (r.rep k) q'⟩
theorem len_rep {α : Type} (k : Nat) (xs : List α) : (List.replicate k xs).flatten.length = k * xs.length := by
  induction k with
  | zero => simp
  | succ k ih => rw [List.replicate_succ, List.flatten_cons, List.length_append, ih]; rw [Nat.succ_mul, Nat.add_comm]
end

/-! ### two-place operators -/
def rB (T : Tb) (o : BO) : R2 := fun vx vy H Q => ∃ x y l m, Live T H ((.im x, vx) :: (.im y, vy) :: l) ∧ binW o x y = some m ∧ ∀ v H', Live T H' ((m, v) :: l) → Q v H'
section
variable {X : Cx} {T : Tb}
theorem small_line {n : Nat} (h : n ≤ LIM) : n ≤ sizeLine := Nat.le_trans h LIM_line
theorem ob_add (hK : X.K = T.K) : OpR X (binaryOp .Add) (rB T .add) := by
  intro pins s q H vx vy v u Q I rx ry h
  obtain ⟨x, y, l, m, hl, hb, k⟩ := h
  unfold binW at hb
  split at hb
  case h_1 i j e =>
    cases hb
    have e1 := hl.vint
    have e2 := hl.tail.vint
    exact op_add pins s q H vx vy v u Q I rx ry ⟨i, j, e1, e2, k _ _ (hl.tail.tail.plain rfl)⟩
  case h_7 a b e =>
    split at hb
    case isTrue hz =>
      cases hb
      exact op_add_str pins s q H vx vy v u Q I rx ry ⟨a, b, hl.vstr, hl.tail.vstr, small_line hz, k _ _ (hl.tail.tail.plain rfl)⟩
    case isFalse => cases hb
  case h_8 a b e =>
    split at hb
    case isTrue hz =>
      cases hb
      obtain ⟨p, p2, xs, ys, e1, e2, h1, h2, l1, l2, hh⟩ := hl.openLL
      refine op_cat pins s q H vx vy v u Q I rx ry ⟨p, p2, xs, ys, e1, e2, h1, h2, small_line (by omega), fun n hn => k _ _ ?_⟩
      exact hh.newL (by rw [List.length_append, List.length_append, l1, l2]) hn
    case isFalse => cases hb
  case h_9 a b e =>
    split at hb
    case isTrue hz =>
      cases hb
      obtain ⟨p, p2, xs, ys, e1, e2, h1, h2, l1, l2, hh⟩ := hl.openTT
      rw [← hK] at h1 h2
      refine op_catA pins s q H vx vy v u Q I rx ry ⟨p, p2, xs, ys, e1, e2, h1, h2, small_line (by omega), fun z => k _ _ ?_, fun z1 z => k _ _ ?_, fun z1 z2 n hn => k _ _ ?_⟩
      · have za : a = [] := List.eq_nil_of_length_eq_zero (by rw [← l1, z]; rfl)
        subst za
        rw [← e2]
        exact hl.tail
      · have zb : b = [] := List.eq_nil_of_length_eq_zero (by rw [← l2, z]; rfl)
        subst zb
        rw [List.append_nil, ← e1]
        exact drop2 hl
      · exact hh.newT (by rw [List.length_append, List.length_append, l1, l2]) hn
    case isFalse => cases hb
  all_goals first | (cases hb; done) | (rename_i e; cases e)
theorem ob_sub : OpR X (binaryOp .Sub) (rB T .sub) := by
  intro pins s q H vx vy v u Q I rx ry h
  obtain ⟨x, y, l, m, hl, hb, k⟩ := h
  unfold binW at hb
  split at hb
  case h_2 i j e =>
    cases hb
    exact op_sub pins s q H vx vy v u Q I rx ry ⟨i, j, hl.vint, hl.tail.vint, k _ _ (hl.tail.tail.plain rfl)⟩
  all_goals first | (cases hb; done) | (rename_i e; cases e)
theorem ob_fdiv : OpR X (binaryOp .FloorDiv) (rB T .fdiv) := by
  intro pins s q H vx vy v u Q I rx ry h
  obtain ⟨x, y, l, m, hl, hb, k⟩ := h
  unfold binW at hb
  split at hb
  case h_4 i j e =>
    split at hb
    case isTrue hz =>
      cases hb
      exact op_fdiv pins s q H vx vy v u Q I rx ry ⟨i, j, hl.vint, hl.tail.vint, hz, k _ _ (hl.tail.tail.plain rfl)⟩
    case isFalse => cases hb
  all_goals first | (cases hb; done) | (rename_i e; cases e)
theorem ob_mod : OpR X (binaryOp .Mod) (rB T .mod) := by
  intro pins s q H vx vy v u Q I rx ry h
  obtain ⟨x, y, l, m, hl, hb, k⟩ := h
  unfold binW at hb
  split at hb
  case h_5 i j e =>
    split at hb
    case isTrue hz =>
      cases hb
      exact op_mod pins s q H vx vy v u Q I rx ry ⟨i, j, hl.vint, hl.tail.vint, hz, k _ _ (hl.tail.tail.plain rfl)⟩
    case isFalse => cases hb
  all_goals first | (cases hb; done) | (rename_i e; cases e)
theorem ob_pow : OpR X (binaryOp .Pow) (rB T .pow) := by
  intro pins s q H vx vy v u Q I rx ry h
  obtain ⟨x, y, l, m, hl, hb, k⟩ := h
  unfold binW at hb
  split at hb
  case h_6 i j e =>
    split at hb
    case isTrue hz =>
      cases hb
      unfold powOk at hz
      simp only [Bool.and_eq_true, decide_eq_true_eq] at hz
      exact op_pow pins s q H vx vy v u Q I rx ry ⟨i, j, hl.vint, hl.tail.vint, ⟨hz.1.1, hz.1.2, hz.2⟩, k _ _ (hl.tail.tail.plain rfl)⟩
    case isFalse => cases hb
  all_goals first | (cases hb; done) | (rename_i e; cases e)
theorem tuple_mul1 (l : Addr) (items : Array Value) (n : Nat) (dd : Option Addr) (sl : Array (Option Value)) (u : Tok) :
    Meets (Builtin.«tuple.__mul__» ⟨[.ref l, .int 1 u], []⟩) (fun _ R s => s.heap.get? l = some { cls := .type "tuple", dict := dd, data := .seq items n, slots := sl } ∧
      R (.ok (.ret (Value.ref l))) s) :=
  .of_wp fun prog w A R s h => by
    obtain ⟨hp, g, d, tk, os⟩ := s
    obtain ⟨hl, h⟩ := h
    have f1 := AutoSeq1.idx_int
    wp_walk using wpAny_loadPart' hl
    repeat (first
      | (refine wpAny_ite_false (decide_eq_false (by decide)) ?_; wp_walk using wpAny_loadPart' hl)
      | (refine wpAny_ite_true (decide_eq_true (by simp)) ?_; wp_walk using wpAny_loadPart' hl))
    all_goals first | exact ⟨_, rfl, h⟩ | skip
theorem op_repT1 : OpR X (binaryOp .Mult) (fun x y H Q => ∃ l xs, x = .ref l ∧ y = .int 1 ∧ SqT X.K H l xs ∧ Q (.ref l) H) := by
  intro pins s σ H x y v u Q I rx ry h
  obtain ⟨l, xs, rfl, rfl, hT, q⟩ := h
  cases rx
  obtain ⟨t, rfl⟩ := ry
  obtain ⟨its, r, ⟨⟨cls, dd, data, sl⟩, ho, hc, n, hd⟩, hs⟩ := I.tuple hT
  simp only at hc hd
  subst hc hd
  refine wpAny_binaryOp_repeat_ref (T := "tuple") (U := "int") (by decide) ⟨_, ho, rfl⟩ (fun s' => typeIs_int s' 1 t) noFill_tuple_mul F.fills_int_mul F.slot_int_rmul repeat_tuple F.slot_int_index.lookup
    (call_meets F.slot_int_rmul (typeIs_int s 1 t) F.entry_int_rmul (F.args_int_rmul_2 _ _) (int_rmul_tuple 1 t l its.toArray n dd sl)
      ⟨ho, rfl, ⟨_, ho, rfl⟩, call_meets F.slot_tuple_mul ⟨_, ho, rfl⟩ F.entry_tuple_mul (F.args_tuple_mul_2 _ _) (tuple_mul1 l its.toArray n dd sl t) ⟨ho, ?_⟩⟩)
  exact ⟨.ref l, H, I, rfl, q⟩
theorem ob_mul (hK : X.K = T.K) : OpR X (binaryOp .Mult) (rB T .mul) := by
  intro pins s q H vx vy v u Q I rx ry h
  obtain ⟨x, y, l, m, hl, hb, k⟩ := h
  unfold binW at hb
  split at hb
  case h_3 i j e =>
    split at hb
    case isTrue hz =>
      cases hb
      refine op_mul pins s q H vx vy v u Q I rx ry ⟨i, j, hl.vint, hl.tail.vint, ?_, k _ _ (hl.tail.tail.plain rfl)⟩
      unfold mulOk at hz
      simpa [CMul] using hz
    case isFalse => cases hb
  case h_10 a i e =>
    split at hb
    case isTrue hz =>
      cases hb
      obtain ⟨p, xs, e1, h1, l1, hh⟩ := hl.openL
      have hh2 := (hh.perm List.perm_middle).tail
      have hh3 : Live T H (ims a xs ++ l) := (hh2.perm List.perm_middle).tail
      refine op_rep pins s q H vx vy v u Q I rx ry ⟨p, i, xs, e1, hl.tail.vint, h1, by omega, by omega, small_line (by rw [l1]; exact hz.2.2), fun n hn => k _ _ ?_⟩
      exact (hh3.rep l1 i.toNat).newL (by rw [len_rep, len_rep, l1]) hn
    case isFalse => cases hb
  case h_11 a i e =>
    split at hb
    case isTrue hz =>
      cases hb
      obtain ⟨p, xs, e1, h1, l1, hh⟩ := hl.openT
      have hh2 := (hh.perm List.perm_middle).tail
      have hh3 : Live T H (ims a xs ++ l) := (hh2.perm List.perm_middle).tail
      rw [← hK] at h1
      by_cases i1 : i = 1
      · subst i1
        refine op_repT1 pins s q H vx vy v u Q I rx ry ⟨p, xs, e1, hl.tail.vint, h1, ?_⟩
        rw [← e1]
        refine k _ _ ?_
        have : (List.replicate (1 : Int).toNat a).flatten = a := by simp
        rw [this]
        exact drop2 hl
      · refine op_repT pins s q H vx vy v u Q I rx ry ⟨p, i, xs, e1, hl.tail.vint, h1, fun z => ?_, by omega, hz.2.2.2, by omega, fun n hn => k _ _ ?_⟩
        · rw [z] at l1
          have := hz.1
          simp at l1
          omega
        · exact (hh3.rep l1 i.toNat).newT (by rw [len_rep, len_rep, l1]) hn
    case isFalse => cases hb
  all_goals first | (cases hb; done) | (rename_i e; cases e)
end
end Dn
-- Dn5
set_option maxRecDepth 100000
set_option maxHeartbeats 1000000
/-! Comparisons, truth, subscripts by values. -/
namespace Dn
open PySem PySem.Spec PyProof.Rows L2

section
variable {T : Tb} {F H : Hp} {l : List (M × V)} {x y w : W} {vx vy v : V}
mutual
theorem dp_of (s : Same F H) : ∀ {w : W} {v : V} {d : PyData}, RepW T F w v → w.toD = some d → Dp T.K H v d
  | .non, v, d, r, e => by
    have r' : v = .non := r
    simp only [W.toD, Option.some.injEq] at e
    subst e r'
    exact .non
  | .bl b, v, d, r, e => by
    have r' : v = .bl b := r
    simp only [W.toD, Option.some.injEq] at e
    subst e r'
    exact .bl b
  | .int i, v, d, r, e => by
    have r' : v = .int i := r
    simp only [W.toD, Option.some.injEq] at e
    subst e r'
    exact .int i
  | .str b, v, d, r, e => by
    have r' : v = .str b := r
    simp only [W.toD, Option.some.injEq] at e
    subst e r'
    exact .str b
  | .tup ws, v, d, r, e => by
    obtain ⟨a, vs, e1, e2, e3⟩ := r
    simp only [W.toD, Option.map_eq_some_iff] at e
    obtain ⟨ds, h1, h2⟩ := e
    subst h2 e1
    exact .tup (sq_t s e2) (dps_of s e3 h1)
  | .lst ws, v, d, r, e => by
    obtain ⟨a, vs, e1, e2, e3⟩ := r
    simp only [W.toD, Option.map_eq_some_iff] at e
    obtain ⟨ds, h1, h2⟩ := e
    subst h2 e1
    exact .lst (SqL.of (s a _ e2)) (dps_of s e3 h1)
  | .scr _, _, _, _, e => by simp [W.toD] at e
  | .fn _, _, _, _, e => by simp [W.toD] at e
  | .dct _ _, _, _, r, _ => False.elim r
  | .ins _ _ _, _, _, r, _ => False.elim r
  | .exc _ _ _, _, _, _, e => by simp [W.toD] at e
theorem dps_of (s : Same F H) : ∀ {ws : List W} {vs : List V} {ds : List PyData}, RepWs T F ws vs → W.toDs ws = some ds → DpAll T.K H vs ds
  | [], vs, ds, r, e => by
    have r' : vs = [] := r
    simp only [W.toDs, Option.some.injEq] at e
    subst e r'
    exact .nil
  | w :: ws, vs, ds, r, e => by
    obtain ⟨v, vs', e1, e2, e3⟩ := r
    subst e1
    unfold W.toDs at e
    split at e
    · rename_i d ds' h1 h2
      cases e
      exact .cons (dp_of s e2 h1) (dps_of s e3 h2)
    · cases e
end
theorem Live.dp {d : PyData} (h : Live T H ((.im w, v) :: l)) (e : w.toD = some d) : Dp T.K H v d := by
  obtain ⟨F, fp, s, k⟩ := h
  cases k with | cons k1 _ _ => exact dp_of s k1.2 e
theorem Live.isnon (h : Live T H ((.im w, v) :: l)) : decide (v = .non) = isNon w := by
  obtain ⟨F, fp, s, k⟩ := h
  cases k with
  | cons k1 _ _ =>
    have r := k1.2
    cases w with
    | non =>
      have r' : v = .non := r
      subst r'; rfl
    | bl b =>
      have r' : v = .bl b := r
      subst r'; rfl
    | int b =>
      have r' : v = .int b := r
      subst r'; rfl
    | str b =>
      have r' : v = .str b := r
      subst r'; rfl
    | tup ws => obtain ⟨a, _, e, _⟩ := r; subst e; rfl
    | lst ws => obtain ⟨a, _, e, _⟩ := r; subst e; rfl
    | scr ws => obtain ⟨a, e, _⟩ := r; subst e; rfl
    | fn ws => obtain ⟨a, _, e⟩ := r; subst e; rfl
    | exc c ns ws => obtain ⟨a, _, _, _, e, _⟩ := r; subst e; rfl
    | _ => exact False.elim r
def toV : W → V
  | .bl b => .bl b
  | .int i => .int i
  | .str s => .str s
  | _ => .non
theorem flat_rep (f : flatW w = true) (r : RepW T F w v) : v = toV w := by
  cases w <;> first | exact r | (simp [flatW] at f)
theorem flats_rep : ∀ {ws : List W} {vs : List V}, ws.all flatW = true → RepWs T F ws vs → vs = ws.map toV
  | [], _, _, r => r
  | w :: ws, _, f, r => by
    obtain ⟨v, vs', e1, e2, e3⟩ := r
    simp only [List.all_cons, Bool.and_eq_true] at f
    rw [e1, flat_rep f.1 e2, flats_rep f.2 e3]
    rfl
theorem flat_toV (f : flatW w = true) : flatV (toV w) = true := by
  cases w <;> first | rfl | (simp [flatW] at f)
theorem eq_toV (f : flatW x = true) (g : flatW y = true) : eqV (toV x) (toV y) = eqF x y := by
  cases x <;> first | (simp [flatW] at f; done) | skip
  all_goals (cases y <;> first | (simp [flatW] at g; done) | rfl)
theorem in_toV (g : flatW x = true) : ∀ {ws : List W}, ws.all flatW = true → inV (toV x) (ws.map toV) = ws.any fun y => eqF y x
  | [], _ => rfl
  | w :: ws, f => by
    simp only [List.all_cons, Bool.and_eq_true] at f
    have ih := in_toV g f.2
    unfold inV at ih ⊢
    rw [List.map_cons, List.any_cons, List.any_cons, ih, eq_toV f.1 g]
theorem flats_toV : ∀ {ws : List W}, ws.all flatW = true → (ws.map toV).all flatV = true
  | [], _ => rfl
  | w :: ws, f => by
    simp only [List.all_cons, Bool.and_eq_true] at f
    rw [List.map_cons, List.all_cons, flat_toV f.1, flats_toV f.2]
    rfl
theorem Live.flat (h : Live T H ((.im w, v) :: l)) (f : flatW w = true) : v = toV w := by
  obtain ⟨F, fp, s, k⟩ := h
  cases k with | cons k1 _ _ => exact flat_rep f k1.2
theorem Live.flats {ws : List W} {vs : List V} (h : Live T H (ims ws vs ++ l)) (hl : vs.length = ws.length) (f : ws.all flatW = true) : vs = ws.map toV := by
  obtain ⟨F, fp, s, k⟩ := h
  exact flats_rep f (LV.ims_split hl k).1
end

def pyC : CO → CmpOp
  | .eq => .Eq | .ne => .NotEq | .lt => .Lt | .le => .LtE | .gt => .Gt | .ge => .GtE | .is_ => .Is | .isn => .IsNot | .in_ => .In | .nin => .NotIn
def rC (T : Tb) (o : CO) : R2 := fun vx vy H Q => ∃ x y l b, Live T H ((.im x, vx) :: (.im y, vy) :: l) ∧ cmpW o x y = some b ∧ Q (.bl b) H
section
variable {X : Cx} {T : Tb}
theorem oc_eq (hK : X.K = T.K) (hu : X.A.units + 64 < cLine) : OpR X (compareOp .Eq) (rC T .eq) := by
  intro pins s q H vx vy v u Q I rx ry h
  obtain ⟨x, y, l, b, hl, hb, k⟩ := h
  simp only [cmpW, eqW] at hb
  split at hb
  · rename_i d e h1 h2
    split at hb
    · rename_i hs
      cases hb
      rw [Bool.and_eq_true] at hs
      refine op_eqD hu pins s q H vx vy v u Q I rx ry ⟨d, e, ?_, ?_, hs.1, hs.2, k⟩
      · rw [hK]; exact hl.dp h1
      · rw [hK]; exact hl.tail.dp h2
    · cases hb
  · cases hb
theorem oc_ne (hK : X.K = T.K) (hu : X.A.units + 64 < cLine) : OpR X (compareOp .NotEq) (rC T .ne) := by
  intro pins s q H vx vy v u Q I rx ry h
  obtain ⟨x, y, l, b, hl, hb, k⟩ := h
  simp only [cmpW, eqW] at hb
  split at hb
  · rename_i d e h1 h2
    split at hb
    · rename_i hs
      cases hb
      rw [Bool.and_eq_true] at hs
      refine op_neD hu pins s q H vx vy v u Q I rx ry ⟨d, e, ?_, ?_, hs.1, hs.2, k⟩
      · rw [hK]; exact hl.dp h1
      · rw [hK]; exact hl.tail.dp h2
    · cases hb
  · cases hb
theorem oc_lt : OpR X (compareOp .Lt) (rC T .lt) := by
  intro pins s q H vx vy v u Q I rx ry h
  obtain ⟨x, y, l, b, hl, hb, k⟩ := h
  cases x <;> first | (simp [cmpW] at hb; done) | skip
  all_goals (cases y <;> first | (simp [cmpW] at hb; done) | skip)
  · cases hb
    exact op_lt pins s q H vx vy v u Q I rx ry ⟨_, _, hl.vint, hl.tail.vint, k⟩
  · cases hb
    exact op_lt_str pins s q H vx vy v u Q I rx ry ⟨_, _, hl.vstr, hl.tail.vstr, k⟩
theorem oc_le : OpR X (compareOp .LtE) (rC T .le) := by
  intro pins s q H vx vy v u Q I rx ry h
  obtain ⟨x, y, l, b, hl, hb, k⟩ := h
  cases x <;> first | (simp [cmpW] at hb; done) | skip
  all_goals (cases y <;> first | (simp [cmpW] at hb; done) | skip)
  cases hb
  exact op_le pins s q H vx vy v u Q I rx ry ⟨_, _, hl.vint, hl.tail.vint, k⟩
theorem oc_gt : OpR X (compareOp .Gt) (rC T .gt) := by
  intro pins s q H vx vy v u Q I rx ry h
  obtain ⟨x, y, l, b, hl, hb, k⟩ := h
  cases x <;> first | (simp [cmpW] at hb; done) | skip
  all_goals (cases y <;> first | (simp [cmpW] at hb; done) | skip)
  cases hb
  exact op_gt pins s q H vx vy v u Q I rx ry ⟨_, _, hl.vint, hl.tail.vint, k⟩
theorem oc_ge : OpR X (compareOp .GtE) (rC T .ge) := by
  intro pins s q H vx vy v u Q I rx ry h
  obtain ⟨x, y, l, b, hl, hb, k⟩ := h
  cases x <;> first | (simp [cmpW] at hb; done) | skip
  all_goals (cases y <;> first | (simp [cmpW] at hb; done) | skip)
  cases hb
  exact op_ge pins s q H vx vy v u Q I rx ry ⟨_, _, hl.vint, hl.tail.vint, k⟩
theorem is_right {o : CO} {x y : W} {b : Bool} (ho : o = .is_ ∨ o = .isn) (hb : cmpW o x y = some b) : y = .non ∨ ∃ a c, x = .bl a ∧ y = .bl c := by
  rcases ho with rfl | rfl <;> cases y <;> first | exact .inl rfl | (cases x <;> first | exact .inr ⟨_, _, rfl, rfl⟩ | (simp [cmpW] at hb))
theorem oc_is : OpR X (compareOp .Is) (rC T .is_) := by
  intro pins s q H vx vy v u Q I rx ry h
  obtain ⟨x, y, l, b, hl, hb, k⟩ := h
  rcases is_right (.inl rfl) hb with rfl | ⟨a, c, rfl, rfl⟩
  · have e2 : cmpW .is_ x .non = some (isNon x) := by cases x <;> rfl
    rw [e2] at hb
    cases hb
    exact op_isN pins s q H vx vy v u Q I rx ry ⟨hl.tail.vnon, by rw [hl.isnon]; exact k⟩
  · have hx := hl.vbl
    have hy := hl.tail.vbl
    subst hx hy
    cases rx
    cases ry
    cases hb
    exact is_bool (fin_bl I k rfl)
theorem oc_isn : OpR X (compareOp .IsNot) (rC T .isn) := by
  intro pins s q H vx vy v u Q I rx ry h
  obtain ⟨x, y, l, b, hl, hb, k⟩ := h
  rcases is_right (.inr rfl) hb with rfl | ⟨a, c, rfl, rfl⟩
  · have e2 : cmpW .isn x .non = some (!isNon x) := by cases x <;> rfl
    rw [e2] at hb
    cases hb
    exact op_notN pins s q H vx vy v u Q I rx ry ⟨hl.tail.vnon, by rw [hl.isnon]; exact k⟩
  · have hx := hl.vbl
    have hy := hl.tail.vbl
    subst hx hy
    cases rx
    cases ry
    cases hb
    exact isnot_bool (fin_bl I k rfl)
theorem in_inv {x y : W} {b : Bool} (hb : cmpW .in_ x y = some b) : (∃ ws, y = .lst ws ∧ inL x ws = some b) ∨ ∃ ws, y = .tup ws ∧ inT x ws = some b := by
  cases y <;> first | (cases x <;> simp [cmpW] at hb; done) | skip
  · refine .inr ⟨_, rfl, ?_⟩
    cases x <;> exact hb
  · refine .inl ⟨_, rfl, ?_⟩
    cases x <;> exact hb
theorem nin_inv {x y : W} {b : Bool} (hb : cmpW .nin x y = some b) : (∃ ws c, y = .lst ws ∧ inL x ws = some c ∧ b = !c) ∨ ∃ ws c, y = .tup ws ∧ inT x ws = some c ∧ b = !c := by
  cases y <;> first | (cases x <;> simp [cmpW] at hb; done) | skip
  · rename_i ws
    have hb' : (inT x ws).map (!·) = some b := by cases x <;> exact hb
    obtain ⟨c, h1, h2⟩ := Option.map_eq_some_iff.mp hb'
    exact .inr ⟨_, c, rfl, h1, h2.symm⟩
  · rename_i ws
    have hb' : (inL x ws).map (!·) = some b := by cases x <;> exact hb
    obtain ⟨c, h1, h2⟩ := Option.map_eq_some_iff.mp hb'
    exact .inl ⟨_, c, rfl, h1, h2.symm⟩
theorem inL_dp {H : Hp} {l : List (M × V)} {x : W} {ws : List W} {vx vy : V} {b : Bool} (hl : Live T H ((.im x, vx) :: (.im (.lst ws), vy) :: l)) (h : inL x ws = some b) :
    ∃ d ds, Dp T.K H vx d ∧ Dp T.K H vy (.list ds) ∧ SeqAt.shaped d = true ∧ SeqAt.shaped (.list ds) = true ∧ b = ds.any fun z => PyData.eqv z d := by
  unfold inL at h
  split at h
  · rename_i d ds h1 h2
    split at h
    · rename_i hs
      cases h
      rw [Bool.and_eq_true] at hs
      exact ⟨d, ds, hl.dp h1, hl.tail.dp (by simp [W.toD, h2]), hs.1, hs.2, rfl⟩
    · cases h
  · cases h
theorem inT_fl {H : Hp} {l : List (M × V)} {x : W} {ws : List W} {vx vy : V} {b : Bool} (hl : Live T H ((.im x, vx) :: (.im (.tup ws), vy) :: l)) (h : inT x ws = some b) :
    ∃ p xs, vy = .ref p ∧ SqT T.K H p xs ∧ flatV vx = true ∧ xs.all flatV = true ∧ b = inV vx xs := by
  unfold inT at h
  split at h
  · rename_i hf
    cases h
    rw [Bool.and_eq_true] at hf
    obtain ⟨p, xs, e1, h1, l1, hh⟩ := hl.tail.openT
    have ex := hh.flats l1 hf.2
    refine ⟨p, xs, e1, h1, ?_, ?_, ?_⟩
    · rw [hl.flat hf.1]; exact flat_toV hf.1
    · rw [ex]; exact flats_toV hf.2
    · rw [ex, hl.flat hf.1, in_toV hf.1 hf.2]
  · cases h
theorem oc_in (hK : X.K = T.K) (hu : X.A.units + 65 < cLine) : OpR X (compareOp .In) (rC T .in_) := by
  intro pins s q H vx vy v u Q I rx ry h
  obtain ⟨x, y, l, b, hl, hb, k⟩ := h
  rcases in_inv hb with ⟨ws, e, h⟩ | ⟨ws, e, h⟩
  · subst e
    obtain ⟨d, ds, h1, h2, h3, h4, h5⟩ := inL_dp hl h
    rw [← hK] at h1 h2
    exact op_inD hu pins s q H vx vy v u Q I rx ry ⟨d, ds, h1, h2, h3, h4, by rw [← h5]; exact k⟩
  · subst e
    obtain ⟨p, xs, h1, h2, h3, h4, h5⟩ := inT_fl hl h
    rw [← hK] at h2
    exact op_in_seq pins s q H vx vy v u Q I rx ry ⟨p, xs, h1, .inr h2, h3, h4, by rw [if_neg Bool.false_ne_true, ← h5]; exact k⟩
theorem oc_nin (hK : X.K = T.K) (hu : X.A.units + 65 < cLine) : OpR X (compareOp .NotIn) (rC T .nin) := by
  intro pins s q H vx vy v u Q I rx ry h
  obtain ⟨x, y, l, b, hl, hb, k⟩ := h
  rcases nin_inv hb with ⟨ws, c, e, h, eb⟩ | ⟨ws, c, e, h, eb⟩
  · subst e eb
    obtain ⟨d, ds, h1, h2, h3, h4, h5⟩ := inL_dp hl h
    rw [← hK] at h1 h2
    exact op_notInD hu pins s q H vx vy v u Q I rx ry ⟨d, ds, h1, h2, h3, h4, by rw [← h5]; exact k⟩
  · subst e eb
    obtain ⟨p, xs, h1, h2, h3, h4, h5⟩ := inT_fl hl h
    rw [← hK] at h2
    exact op_notIn_seq pins s q H vx vy v u Q I rx ry ⟨p, xs, h1, .inr h2, h3, h4, by rw [if_pos rfl, ← h5]; exact k⟩
theorem oc_all (hK : X.K = T.K) (hu : X.A.units + 65 < cLine) : ∀ o : CO, OpR X (compareOp (pyC o)) (rC T o)
  | .eq => oc_eq hK (by omega)
  | .ne => oc_ne hK (by omega)
  | .lt => oc_lt
  | .le => oc_le
  | .gt => oc_gt
  | .ge => oc_ge
  | .is_ => oc_is
  | .isn => oc_isn
  | .in_ => oc_in hK hu
  | .nin => oc_nin hK hu
/-- truth -/
theorem tru_of (hK : X.K = T.K) {H : Hp} {l : List (M × V)} {w : W} {v : V} {b : Bool} (h : Live T H ((.im w, v) :: l)) (e : truW w = some b) : TruV X.K v H b := by
  cases w with
  | non =>
    cases e
    rw [h.vnon]
    exact rfl
  | bl k =>
    cases e
    rw [h.vbl]
    exact rfl
  | int i =>
    cases e
    rw [h.vint]
    exact rfl
  | tup ws =>
    cases e
    obtain ⟨a, vs, e1, e2, e3, _⟩ := h.openT
    rw [e1, hK]
    refine .inr (.inl ⟨vs, e2, ?_⟩)
    cases vs <;> cases ws <;> first | rfl | (simp at e3)
  | lst ws =>
    cases e
    obtain ⟨a, vs, e1, e2, e3, _⟩ := h.openL
    rw [e1]
    refine .inl ⟨vs, SqL.of e2, ?_⟩
    cases vs <;> cases ws <;> first | rfl | (simp at e3)
  | _ => cases e
end
end Dn
-- Dn6
set_option maxRecDepth 100000
set_option maxHeartbeats 1000000
/-! Subscripts, slices, arguments, built-ins by values. -/
namespace Dn
open PySem PySem.Spec PyProof.Rows L2

section
variable {T : Tb} {H : Hp} {l : List (M × V)} {m : M} {w x : W} {v vx : V} {ws : List W} {vs : List V}
theorem ims_get : ∀ {ws : List W} {vs : List V} {i : Nat} {w : W} {v : V}, ws[i]? = some w → vs[i]? = some v → (.im w, v) ∈ ims ws vs
  | [], _, _, _, _, h, _ => by simp at h
  | w :: ws, [], _, _, _, _, h => by simp at h
  | w :: ws, v :: vs, 0, w', v', h1, h2 => by
    simp at h1 h2
    subst h1 h2
    exact List.mem_cons_self
  | w :: ws, v :: vs, i + 1, w', v', h1, h2 => List.mem_cons_of_mem _ (ims_get (i := i) (by simpa using h1) (by simpa using h2))
/-- one of the values ahead, alone -/
theorem Live.pick (h : Live T H (ims ws vs ++ l)) {i : Nat} (h1 : ws[i]? = some w) (h2 : vs[i]? = some v) : Live T H ((.im w, v) :: l) := by
  have hm := ims_get h1 h2
  obtain ⟨a, b, e⟩ := List.append_of_mem hm
  rw [e] at h
  have h3 : Live T H ((.im w, v) :: (a ++ b ++ l)) := by
    refine h.perm ?_
    rw [List.append_assoc, List.append_assoc, List.cons_append]
    exact List.perm_middle
  have h4 : Live T H ((a ++ b) ++ ((.im w, v) :: l)) := h3.perm List.perm_middle.symm
  exact Live.dropL h4
theorem atI_both {i : Int} (hl : vs.length = ws.length) (h : ixW ws i = some w) : ∃ (v : V) (j : Nat), atI vs i = some v ∧ ws[j]? = some w ∧ vs[j]? = some v := by
  unfold ixW atI at h
  obtain ⟨j, e1, e2⟩ := Option.bind_eq_some_iff.mp h
  have hj : j < vs.length := by rw [hl]; exact (List.getElem?_eq_some_iff.mp e2).1
  refine ⟨vs[j], j, ?_, e2, List.getElem?_eq_getElem hj⟩
  unfold atI
  rw [hl, e1]
  exact List.getElem?_eq_getElem hj
theorem Live.drop_ims (h : Live T H (ims ws vs ++ l)) : Live T H l := Live.dropL h
end
/-- x[i] by values, x any sequence that is read -/
def rI (T : Tb) : R2 := fun vx vy H Q => ∃ m l i w, Live T H ((m, vx) :: l) ∧ vy = .int i ∧ idxM m i = some w ∧ ∀ v, Live T H ((.im w, v) :: (m, vx) :: l) → Q v H
section
variable {X : Cx} {T : Tb}
theorem ix_all (hK : X.K = T.K) : IxR X (rI T) := by
  intro value slice pins s q H vx vy v u Q I rx ry h hpl
  obtain ⟨m, l, i, w, hl, rfl, he, k⟩ := h
  cases m with
  | ls ws =>
    obtain ⟨a, vs, e1, e2, e3, hh⟩ := hl.openO
    obtain ⟨z, j, e4, e5, e6⟩ := atI_both e3 he
    exact ix_list value slice pins s q H vx _ v u Q I rx ry ⟨a, vs, i, z, e1, rfl, SqL.of e2, e4, k z (hh.pick e5 e6)⟩ hpl
  | im x =>
    cases x with
    | lst ws =>
      obtain ⟨a, vs, e1, e2, e3, hh⟩ := hl.openL
      obtain ⟨z, j, e4, e5, e6⟩ := atI_both e3 he
      exact ix_list value slice pins s q H vx _ v u Q I rx ry ⟨a, vs, i, z, e1, rfl, SqL.of e2, e4, k z (hh.pick e5 e6)⟩ hpl
    | tup ws =>
      obtain ⟨a, vs, e1, e2, e3, hh⟩ := hl.openT
      obtain ⟨z, j, e4, e5, e6⟩ := atI_both e3 he
      rw [← hK] at e2
      exact ix_tup value slice pins s q H vx _ v u Q I rx ry ⟨a, vs, i, z, e1, rfl, e2, e4, k z (hh.pick e5 e6)⟩ hpl
    | scr is =>
      obtain ⟨a, e1, e2⟩ := hl.vscr
      have he' : (atI is i).map W.int = some w := he
      obtain ⟨z, h1, h2⟩ := Option.map_eq_some_iff.mp he'
      subst h2
      rw [← hK] at e2
      refine ix_list value slice pins s q H vx _ v u Q I rx ry ⟨a, is.map V.int, i, .int z, e1, rfl, e2, ?_, k _ (hl.plain rfl)⟩ hpl
      unfold atI at h1 ⊢
      rw [List.length_map]
      obtain ⟨j, f1, f2⟩ := Option.bind_eq_some_iff.mp h1
      rw [f1]
      show (is.map V.int)[j]? = _
      rw [List.getElem?_map, f2]
      rfl
    | str z =>
      have e1 := hl.vstr
      have he' : (if z.length ≤ LIM then (atI z.cps.toList i).map fun c => W.str ⟨#[c]⟩ else none) = some w := he
      split at he'
      · rename_i hz
        obtain ⟨c, h1, h2⟩ := Option.map_eq_some_iff.mp he'
        subst h2
        exact ix_str value slice pins s q H vx _ v u Q I rx ry ⟨z, i, c, e1, rfl, Nat.le_trans hz LIM_line, h1, k _ (hl.plain rfl)⟩ hpl
      · cases he'
    | _ => cases he
  | _ => cases he
/-- x[a:b] by values -/
def rS (T : Tb) : V → Option Int → Option Int → Hp → VK → Prop := fun vx lo hi H Q => ∃ m l n, Live T H ((m, vx) :: l) ∧ slcM m lo hi = some n ∧ ∀ v H', Live T H' ((n, v) :: (m, vx) :: l) → Q v H'
theorem RepWs.cut {T : Tb} {F : Hp} {ws : List W} {vs : List V} (h : RepWs T F ws vs) (lo hi : Option Int) : RepWs T F (cutW ws lo hi) (cutV vs lo hi) := by
  unfold cutW cutV
  rw [h.len]
  exact (h.drop _).take _
theorem Live.cut {H : Hp} {l : List (M × V)} {ws : List W} {vs : List V} (h : Live T H (ims ws vs ++ l)) (hl : vs.length = ws.length) (lo hi : Option Int) : Live T H (ims (cutW ws lo hi) (cutV vs lo hi) ++ l) ∧ (cutV vs lo hi).length = (cutW ws lo hi).length := by
  obtain ⟨F, fp, s, k⟩ := h
  obtain ⟨r, k'⟩ := LV.ims_split hl k
  exact ⟨⟨F, fp, s, LV.ims_join (r.cut lo hi) k'⟩, (r.cut lo hi).len⟩
theorem cut_whole {α : Type} {xs : List α} {lo hi : Option Int} (h : HT.sIx xs.length 0 lo = 0 ∧ HT.sIx xs.length xs.length hi = xs.length) : (xs.drop (HT.sIx xs.length 0 lo)).take (HT.sIx xs.length xs.length hi - HT.sIx xs.length 0 lo) = xs := by
  rw [h.1, h.2]
  simp
theorem sl_all (hK : X.K = T.K) : SlR X (rS T) := by
  intro pins s q H vx v vl vu lo hi sl Q I rx hs pl pu h
  obtain ⟨m, l, n, hl, he, k⟩ := h
  cases m with
  | ls ws =>
    cases he
    obtain ⟨a, vs, e1, e2, e3, hh⟩ := hl.openO
    obtain ⟨h1, h2⟩ := hh.cut e3 lo hi
    exact sl_list pins s q H vx v vl vu lo hi sl Q I rx hs pl pu ⟨a, vs, e1, SqL.of e2, fun p hp => k _ _ (h1.newL h2 hp)⟩
  | im x =>
    cases x with
    | lst ws =>
      cases he
      obtain ⟨a, vs, e1, e2, e3, hh⟩ := hl.openL
      obtain ⟨h1, h2⟩ := hh.cut e3 lo hi
      exact sl_list pins s q H vx v vl vu lo hi sl Q I rx hs pl pu ⟨a, vs, e1, SqL.of e2, fun p hp => k _ _ (h1.newL h2 hp)⟩
    | tup ws =>
      cases he
      obtain ⟨a, vs, e1, e2, e3, hh⟩ := hl.openT
      obtain ⟨h1, h2⟩ := hh.cut e3 lo hi
      rw [← hK] at e2
      refine sl_tupA pins s q H vx v vl vu lo hi sl Q I rx hs pl pu ⟨a, vs, e1, e2, fun hw => ?_, fun _ p hp => k _ _ (h1.newT h2 hp)⟩
      rw [← e1]
      refine k _ _ ?_
      have e : cutW ws lo hi = ws := by
        unfold cutW
        rw [e3] at hw
        exact cut_whole hw
      rw [e]
      exact hl.dup
    | _ => cases he
  | _ => cases he
end

/-! ### built-ins -/
def rBi (T : Tb) (b : BI) : List V → Hp → VK → Prop := fun vs H Q => ∃ ws l m, vs.length = ws.length ∧ Live T H (ims ws vs ++ l) ∧ biW b ws = some m ∧ ∀ v H', Live T H' ((m, v) :: l) → Q v H'
section
variable {X : Cx} {T : Tb}
theorem one_v {α : Type} {vs : List α} (h : vs.length = 1) : ∃ v, vs = [v] := by
  match vs, h with
  | [v], _ => exact ⟨v, rfl⟩
theorem two_v {α : Type} {vs : List α} (h : vs.length = 2) : ∃ v u, vs = [v, u] := by
  match vs, h with
  | [v, u], _ => exact ⟨v, u, rfl⟩
theorem cb_len (hK : X.K = T.K) : CallR X (.builtin "len") (rBi T .len) := by
  intro pins s q H vs us Q I r h
  obtain ⟨ws, l, m, hl, hv, he, k⟩ := h
  unfold biW at he
  split at he
  case h_1 x e =>
    split at he
    case isTrue hz =>
      cases he
      obtain ⟨v, rfl⟩ := one_v hl
      have hv' : Live T H ((.im (.str x), v) :: l) := hv
      exact call_len_str pins s q H _ us Q I r ⟨x, by rw [hv'.vstr], Nat.le_trans hz LIM_line, k _ _ (hv'.tail.plain rfl)⟩
    case isFalse => cases he
  case h_2 x e =>
    cases he
    obtain ⟨v, rfl⟩ := one_v hl
    have hv' : Live T H ((.im (.lst x), v) :: l) := hv
    obtain ⟨a, xs, e1, e2, e3, _⟩ := hv'.openL
    exact call_len_seq pins s q H _ us Q I r ⟨a, xs, by rw [e1], .inl (SqL.of e2), by rw [e3]; exact k _ _ (hv'.tail.plain rfl)⟩
  case h_3 x e =>
    cases he
    obtain ⟨v, rfl⟩ := one_v hl
    have hv' : Live T H ((.im (.tup x), v) :: l) := hv
    obtain ⟨a, xs, e1, e2, e3, _⟩ := hv'.openT
    rw [← hK] at e2
    exact call_len_seq pins s q H _ us Q I r ⟨a, xs, by rw [e1], .inr e2, by rw [e3]; exact k _ _ (hv'.tail.plain rfl)⟩
  case h_4 x e =>
    cases he
    obtain ⟨v, rfl⟩ := one_v hl
    have hv' : Live T H ((.im (.scr x), v) :: l) := hv
    obtain ⟨a, e1, e2⟩ := hv'.vscr
    rw [← hK] at e2
    exact call_len_seq pins s q H _ us Q I r ⟨a, _, by rw [e1], .inl e2, by rw [List.length_map]; exact k _ _ (hv'.tail.plain rfl)⟩
  all_goals first | (cases he; done) | (rename_i e; cases e; done) | (rename_i e _; cases e)
theorem cb_abs : CallR X (.builtin "abs") (rBi T .abs) := by
  intro pins s q H vs us Q I r h
  obtain ⟨ws, l, m, hl, hv, he, k⟩ := h
  unfold biW at he
  split at he
  case h_5 x e =>
    cases he
    obtain ⟨v, rfl⟩ := one_v hl
    have hv' : Live T H ((.im (.int x), v) :: l) := hv
    exact call_abs pins s q H _ us Q I r ⟨x, by rw [hv'.vint], k _ _ (hv'.tail.plain rfl)⟩
  all_goals first | (cases he; done) | (rename_i e; cases e; done) | (rename_i e _; cases e)
theorem cb_max2 (hc : X.calm = true) : CallR X (.builtin "max") (rBi T .max2) := by
  intro pins s q H vs us Q I r h
  obtain ⟨ws, l, m, hl, hv, he, k⟩ := h
  unfold biW at he
  split at he
  case h_6 x y e =>
    cases he
    obtain ⟨v, u, rfl⟩ := two_v hl
    have hv' : Live T H ((.im (.int x), v) :: (.im (.int y), u) :: l) := hv
    exact call_max2 hc pins s q H _ us Q I r ⟨x, y, by rw [hv'.vint, hv'.tail.vint], k _ _ (hv'.tail.tail.plain rfl)⟩
  all_goals first | (cases he; done) | (rename_i e; cases e; done) | (rename_i e _; cases e)
theorem cb_min2 (hc : X.calm = true) : CallR X (.builtin "min") (rBi T .min2) := by
  intro pins s q H vs us Q I r h
  obtain ⟨ws, l, m, hl, hv, he, k⟩ := h
  unfold biW at he
  split at he
  case h_7 x y e =>
    cases he
    obtain ⟨v, u, rfl⟩ := two_v hl
    have hv' : Live T H ((.im (.int x), v) :: (.im (.int y), u) :: l) := hv
    exact call_min2 hc pins s q H _ us Q I r ⟨x, y, by rw [hv'.vint, hv'.tail.vint], k _ _ (hv'.tail.tail.plain rfl)⟩
  all_goals first | (cases he; done) | (rename_i e; cases e; done) | (rename_i e _; cases e)
theorem cb_int : CallR X (.type "int") (rBi T .int) := by
  intro pins s q H vs us Q I r h
  obtain ⟨ws, l, m, hl, hv, he, k⟩ := h
  unfold biW at he
  split at he
  case h_8 x e =>
    cases he
    obtain ⟨v, rfl⟩ := one_v hl
    have hv' : Live T H ((.im (.int x), v) :: l) := hv
    exact call_int1 pins s q H _ us Q I r (.inl ⟨x, by rw [hv'.vint], k _ _ (hv'.tail.plain rfl)⟩)
  case h_9 x e =>
    cases he
    obtain ⟨v, rfl⟩ := one_v hl
    have hv' : Live T H ((.im (.bl x), v) :: l) := hv
    exact call_int1 pins s q H _ us Q I r (.inr ⟨x, by rw [hv'.vbl], k _ _ (hv'.tail.plain rfl)⟩)
  all_goals first | (cases he; done) | (rename_i e; cases e; done) | (rename_i e _; cases e)
theorem cb_tuple (hK : X.K = T.K) : CallR X (.type "tuple") (rBi T .tuple) := by
  intro pins s q H vs us Q I r h
  obtain ⟨ws, l, m, hl, hv, he, k⟩ := h
  unfold biW at he
  split at he
  case h_10 x e =>
    cases he
    obtain ⟨v, rfl⟩ := one_v hl
    have hv' : Live T H ((.im (.lst x), v) :: l) := hv
    obtain ⟨a, xs, e1, e2, e3, hh⟩ := hv'.openL
    have hh' := (hh.perm List.perm_middle).tail
    exact call_tuple_of pins s q H _ us Q I r ⟨a, xs, by rw [e1], .inl ⟨SqL.of e2, fun p hp => k _ _ (hh'.newT e3 hp)⟩⟩
  case h_11 x e =>
    cases he
    obtain ⟨v, rfl⟩ := one_v hl
    have hv' : Live T H ((.im (.tup x), v) :: l) := hv
    obtain ⟨a, xs, e1, e2, e3, hh⟩ := hv'.openT
    rw [← hK] at e2
    exact call_tuple_of pins s q H _ us Q I r ⟨a, xs, by rw [e1], .inr ⟨e2, by rw [← e1]; exact k _ _ hv'⟩⟩
  all_goals first | (cases he; done) | (rename_i e; cases e; done) | (rename_i e _; cases e)
theorem cb_list (hK : X.K = T.K) : CallR X (.type "list") (rBi T .list) := by
  intro pins s q H vs us Q I r h
  obtain ⟨ws, l, m, hl, hv, he, k⟩ := h
  unfold biW at he
  split at he
  case h_12 x e =>
    cases he
    obtain ⟨v, rfl⟩ := one_v hl
    have hv' : Live T H ((.im (.lst x), v) :: l) := hv
    obtain ⟨a, xs, e1, e2, e3, hh⟩ := hv'.openL
    have hh' := (hh.perm List.perm_middle).tail
    exact call_list_of pins s q H _ us Q I r ⟨a, xs, by rw [e1], .inl (SqL.of e2), fun p hp => k _ _ (hh'.newL e3 hp)⟩
  case h_13 x e =>
    cases he
    obtain ⟨v, rfl⟩ := one_v hl
    have hv' : Live T H ((.im (.tup x), v) :: l) := hv
    obtain ⟨a, xs, e1, e2, e3, hh⟩ := hv'.openT
    rw [← hK] at e2
    have hh' := (hh.perm List.perm_middle).tail
    exact call_list_of pins s q H _ us Q I r ⟨a, xs, by rw [e1], .inr e2, fun p hp => k _ _ (hh'.newL e3 hp)⟩
  all_goals first | (cases he; done) | (rename_i e; cases e; done) | (rename_i e _; cases e)
theorem ints_rep {T : Tb} {F : Hp} : ∀ {ws : List W} {vs : List V} {is : List Int}, intsW ws = some is → RepWs T F ws vs → vs = is.map V.int
  | [], vs, is, h, r => by
    cases h
    exact r
  | w :: ws, vs, is, h, r => by
    obtain ⟨v, vs', e1, e2, e3⟩ := r
    cases w with
    | int i =>
      simp only [intsW, Option.map_eq_some_iff] at h
      obtain ⟨js, h1, h2⟩ := h
      subst h2 e1
      rw [ints_rep h1 e3]
      have e2' : v = .int i := e2
      rw [e2']
      rfl
    | _ => simp [intsW] at h
theorem bls_rep {T : Tb} {F : Hp} : ∀ {ws : List W} {vs : List V} {is : List Bool}, blsW ws = some is → RepWs T F ws vs → vs = is.map V.bl
  | [], vs, is, h, r => by
    cases h
    exact r
  | w :: ws, vs, is, h, r => by
    obtain ⟨v, vs', e1, e2, e3⟩ := r
    cases w with
    | bl i =>
      simp only [blsW, Option.map_eq_some_iff] at h
      obtain ⟨js, h1, h2⟩ := h
      subst h2 e1
      rw [bls_rep h1 e3]
      have e2' : v = .bl i := e2
      rw [e2']
      rfl
    | _ => simp [blsW] at h
theorem Live.ints {H : Hp} {l : List (M × V)} {ws : List W} {vs : List V} {is : List Int} (h : Live T H (ims ws vs ++ l)) (hl : vs.length = ws.length) (e : intsW ws = some is) : vs = is.map V.int := by
  obtain ⟨F, fp, s, k⟩ := h
  exact ints_rep e (LV.ims_split hl k).1
theorem Live.bls {H : Hp} {l : List (M × V)} {ws : List W} {vs : List V} {is : List Bool} (h : Live T H (ims ws vs ++ l)) (hl : vs.length = ws.length) (e : blsW ws = some is) : vs = is.map V.bl := by
  obtain ⟨F, fp, s, k⟩ := h
  exact bls_rep e (LV.ims_split hl k).1
theorem cb_sum (hc : X.calm = true) : CallR X (.builtin "sum") (rBi T .sum) := by
  intro pins s q H vs us Q I r h
  obtain ⟨ws, l, m, hl, hv, he, k⟩ := h
  unfold biW at he
  split at he
  case h_14 x e =>
    obtain ⟨is, h1, h2⟩ := Option.map_eq_some_iff.mp he
    subst h2
    obtain ⟨v, rfl⟩ := one_v hl
    have hv' : Live T H ((.im (.lst x), v) :: l) := hv
    obtain ⟨a, xs, e1, e2, e3, hh⟩ := hv'.openL
    have e4 := hh.ints e3 h1
    subst e4
    exact cr_sum hc pins s q H _ us Q I r ⟨a, is, by rw [e1], SqL.of e2, k _ _ (hv'.tail.plain rfl)⟩
  all_goals first | (cases he; done) | (rename_i e; cases e; done) | (rename_i e _; cases e)
theorem cb_all (hc : X.calm = true) : CallR X (.builtin "all") (rBi T .all) := by
  intro pins s q H vs us Q I r h
  obtain ⟨ws, l, m, hl, hv, he, k⟩ := h
  unfold biW at he
  split at he
  case h_15 x e =>
    obtain ⟨is, h1, h2⟩ := Option.map_eq_some_iff.mp he
    subst h2
    obtain ⟨v, rfl⟩ := one_v hl
    have hv' : Live T H ((.im (.lst x), v) :: l) := hv
    obtain ⟨a, xs, e1, e2, e3, hh⟩ := hv'.openL
    have e4 := hh.bls e3 h1
    subst e4
    exact cr_all hc pins s q H _ us Q I r ⟨a, is, by rw [e1], SqL.of e2, k _ _ (hv'.tail.plain rfl)⟩
  all_goals first | (cases he; done) | (rename_i e; cases e; done) | (rename_i e _; cases e)
theorem cb_any (hc : X.calm = true) : CallR X (.builtin "any") (rBi T .any) := by
  intro pins s q H vs us Q I r h
  obtain ⟨ws, l, m, hl, hv, he, k⟩ := h
  unfold biW at he
  split at he
  case h_16 x e =>
    obtain ⟨is, h1, h2⟩ := Option.map_eq_some_iff.mp he
    subst h2
    obtain ⟨v, rfl⟩ := one_v hl
    have hv' : Live T H ((.im (.lst x), v) :: l) := hv
    obtain ⟨a, xs, e1, e2, e3, hh⟩ := hv'.openL
    have e4 := hh.bls e3 h1
    subst e4
    exact cr_any hc pins s q H _ us Q I r ⟨a, is, by rw [e1], SqL.of e2, k _ _ (hv'.tail.plain rfl)⟩
  all_goals first | (cases he; done) | (rename_i e; cases e; done) | (rename_i e _; cases e)
theorem maxI_mem : ∀ (is : List Int) (i : Int), maxI i is ∈ i :: is ∧ ∀ y ∈ i :: is, y ≤ maxI i is
  | [], i => ⟨List.mem_cons_self, fun y hy => by simp at hy; simp [maxI, hy]⟩
  | j :: is, i => by
    have ih := maxI_mem is (if j > i then j else i)
    show maxI (if j > i then j else i) is ∈ _ ∧ ∀ y ∈ _, y ≤ maxI (if j > i then j else i) is
    refine ⟨?_, fun y hy => ?_⟩
    · rcases List.mem_cons.mp ih.1 with e | e
      · rw [e]
        split
        · simp
        · simp
      · exact List.mem_cons_of_mem _ (List.mem_cons_of_mem _ e)
    · have h0 := ih.2 (if j > i then j else i) List.mem_cons_self
      rcases List.mem_cons.mp hy with e | hy
      · rw [e]; exact Int.le_trans (by split <;> omega) h0
      · rcases List.mem_cons.mp hy with e | hy
        · rw [e]; exact Int.le_trans (by split <;> omega) h0
        · exact ih.2 y (List.mem_cons_of_mem _ hy)
theorem minI_mem : ∀ (is : List Int) (i : Int), minI i is ∈ i :: is ∧ ∀ y ∈ i :: is, minI i is ≤ y
  | [], i => ⟨List.mem_cons_self, fun y hy => by simp at hy; simp [minI, hy]⟩
  | j :: is, i => by
    have ih := minI_mem is (if j < i then j else i)
    show minI (if j < i then j else i) is ∈ _ ∧ ∀ y ∈ _, minI (if j < i then j else i) is ≤ y
    refine ⟨?_, fun y hy => ?_⟩
    · rcases List.mem_cons.mp ih.1 with e | e
      · rw [e]
        split
        · simp
        · simp
      · exact List.mem_cons_of_mem _ (List.mem_cons_of_mem _ e)
    · have h0 := ih.2 (if j < i then j else i) List.mem_cons_self
      rcases List.mem_cons.mp hy with e | hy
      · rw [e]; exact Int.le_trans h0 (by split <;> omega)
      · rcases List.mem_cons.mp hy with e | hy
        · rw [e]; exact Int.le_trans h0 (by split <;> omega)
        · exact ih.2 y (List.mem_cons_of_mem _ hy)
theorem cb_maxl (hc : X.calm = true) : CallR X (.builtin "max") (rBi T .maxl) := by
  intro pins s q H vs us Q I r h
  obtain ⟨ws, l, m, hl, hv, he, k⟩ := h
  unfold biW at he
  split at he
  case h_17 x e =>
    split at he
    · rename_i i is h1
      cases he
      obtain ⟨v, rfl⟩ := one_v hl
      have hv' : Live T H ((.im (.lst x), v) :: l) := hv
      obtain ⟨a, xs, e1, e2, e3, hh⟩ := hv'.openL
      have e4 := hh.ints e3 h1
      subst e4
      refine cr_max hc pins s q H _ us Q I r ⟨a, i :: is, by rw [e1], SqL.of e2, by simp, fun z hz hy => ?_⟩
      have hm := maxI_mem is i
      have : z = maxI i is := by
        have h1 := hm.2 z hz
        have h2 := hy _ hm.1
        omega
      rw [this]
      exact k _ _ (hv'.tail.plain rfl)
    · cases he
  all_goals first | (cases he; done) | (rename_i e; cases e; done) | (rename_i e _; cases e)
theorem cb_minl (hc : X.calm = true) : CallR X (.builtin "min") (rBi T .minl) := by
  intro pins s q H vs us Q I r h
  obtain ⟨ws, l, m, hl, hv, he, k⟩ := h
  unfold biW at he
  split at he
  case h_18 x e =>
    split at he
    · rename_i i is h1
      cases he
      obtain ⟨v, rfl⟩ := one_v hl
      have hv' : Live T H ((.im (.lst x), v) :: l) := hv
      obtain ⟨a, xs, e1, e2, e3, hh⟩ := hv'.openL
      have e4 := hh.ints e3 h1
      subst e4
      refine cr_min hc pins s q H _ us Q I r ⟨a, i :: is, by rw [e1], SqL.of e2, by simp, fun z hz hy => ?_⟩
      have hm := minI_mem is i
      have : z = minI i is := by
        have h1 := hm.2 z hz
        have h2 := hy _ hm.1
        omega
      rw [this]
      exact k _ _ (hv'.tail.plain rfl)
    · cases he
  all_goals first | (cases he; done) | (rename_i e; cases e; done) | (rename_i e _; cases e)
end
end Dn
-- Dn7
set_option maxRecDepth 100000
set_option maxHeartbeats 1000000
/-! Expressions: each construct's rule, over the rules of its parts. -/
namespace Dn
open PySem PySem.Spec PyProof.Rows L2

section
variable {T : Tb} {Ex : WX} {q : L2.St} {ts tl : List (M × V)} {X : Cx} {e a b c : Expr} {pos : Pos} {H : Hp} {h : Th}
theorem drop_midL {k l : List (M × V)} : ∀ {tl : List (M × V)}, Live T H (k ++ (l ++ (tl ++ ts))) → Live T H (k ++ (l ++ ts))
  | [], h => h
  | t :: tl, h => drop_midL (tl := tl) (drop_mid (t := t) (ts := tl ++ ts) h)
theorem okR.moreL {α : Type} {S : α → Env → Prop} {x : R α} (h : okR T Ex q ts S x) : okR T Ex q (tl ++ ts) S x := by
  cases x with
  | ok m r => exact h
  | exc w r => exact fun cls d H c z => h cls d H c (z.less fun k => drop_midL)
  | stuck => exact h
theorem toMid {l : List (M × V)} (h : Live T H (tl ++ (l ++ ts))) : Live T H (l ++ (tl ++ ts)) := by
  refine h.perm ?_
  rw [← List.append_assoc, ← List.append_assoc]
  exact List.perm_append_comm.append_right ts
theorem toFront {l : List (M × V)} (h : Live T H (l ++ (tl ++ ts))) : Live T H (tl ++ (l ++ ts)) := by
  refine h.perm ?_
  rw [← List.append_assoc, ← List.append_assoc]
  exact List.perm_append_comm.append_right ts
/-- d first, while tl is kept ahead -/
theorem seqE {α : Type} {d : Env → R M} {k : M → Env → R α} {S : α → Env → Prop} {r : Env} (c : Cons r q) (l : Live T H (tl ++ (slots r q ++ ts))) (h : okR T Ex q ts S ((d r).bind k)) {Q' : VK}
    (n : ∀ m r' v H', Cons r' q → Live T H' ((m, v) :: (tl ++ (slots r' q ++ ts))) → okR T Ex q ts S (k m r') → Q' v H') : tE T Ex d q H Q' := by
  refine ⟨r, tl ++ ts, c, toMid l, okR.moreL ((okR.bind h).imp fun m r' h' v H' c' l' => n m r' v H' c' ?_ h')⟩
  have l2 : Live T H' (([(m, v)] ++ slots r' q) ++ (tl ++ ts)) := l'
  exact (toFront l2).perm (by simpa using List.perm_middle)
theorem seqT {α : Type} {d : Env → R Bool} {k : Bool → Env → R α} {S : α → Env → Prop} {r : Env} (c : Cons r q) (l : Live T H (tl ++ (slots r q ++ ts))) (h : okR T Ex q ts S ((d r).bind k)) {Q' : Bool → Hp → Prop}
    (n : ∀ b r' H', Cons r' q → Live T H' (tl ++ (slots r' q ++ ts)) → okR T Ex q ts S (k b r') → Q' b H') : tT T Ex d q H Q' :=
  ⟨r, tl ++ ts, c, toMid l, okR.moreL ((okR.bind h).imp fun m r' h' H' c' l' => n m r' H' c' (toFront l') h')⟩
theorem seqL {α : Type} {d : Env → R (List W)} {k : List W → Env → R α} {S : α → Env → Prop} {r : Env} (c : Cons r q) (l : Live T H (tl ++ (slots r q ++ ts))) (h : okR T Ex q ts S ((d r).bind k)) {Q' : List V → Hp → Prop}
    (n : ∀ ws r' vs H', Cons r' q → vs.length = ws.length → Live T H' (ims ws vs ++ (tl ++ (slots r' q ++ ts))) → okR T Ex q ts S (k ws r') → Q' vs H') : tL T Ex d q H Q' := by
  refine ⟨r, tl ++ ts, c, toMid l, okR.moreL ((okR.bind h).imp fun ws r' h' vs H' c' hl l' => n ws r' vs H' c' hl ?_ h')⟩
  rw [← List.append_assoc] at l'
  refine (toFront l').perm ?_
  rw [← List.append_assoc, ← List.append_assoc]
  refine List.Perm.trans ?_ (List.Perm.of_eq (List.append_assoc _ _ _))
  rw [← List.append_assoc]
  exact (List.perm_append_comm.append_right _).append_right _
theorem w_bindA {α : Type} {x : R M} {k : W → Env → R α} : x.w.bind k = x.bind fun m r => k m.fz r := by cases x <;> rfl
def intK {α : Type} (k : Int → Env → R α) (m : M) (r : Env) : R α := match m with
    | .im (.int i) => k i r
    | _ => .stuck
theorem int_bindA {α : Type} {x : R M} {k : Int → Env → R α} : x.int.bind k = x.bind (intK k) := by
  cases x with
  | ok m r =>
    cases m with
    | im w => cases w <;> rfl
    | _ => rfl
  | _ => rfl
theorem int_ok {α : Type} {S : α → Env → Prop} {m : M} {r : Env} {k : Int → Env → R α} (h : okR T Ex q ts S (intK k m r)) : ∃ i, m = .im (.int i) ∧ okR T Ex q ts S (k i r) := by
  cases m with
  | im w =>
    cases w with
    | int i => exact ⟨i, rfl, h⟩
    | _ => exact False.elim h
  | _ => exact False.elim h
theorem ofO_ok {α : Type} {S : α → Env → Prop} {r : Env} {o : Option α} (h : okR T Ex q ts S (R.ofO r o)) : ∃ x, o = some x ∧ S x r := by
  cases o with
  | none => exact False.elim h
  | some x => exact ⟨x, rfl, h⟩

def pyB : BO → Operator
  | .add => .Add | .sub => .Sub | .mul => .Mult | .fdiv => .FloorDiv | .mod => .Mod | .pow => .Pow
theorem ob_all (hK : X.K = T.K) : ∀ o : BO, OpR X (binaryOp (pyB o)) (rB T o)
  | .add => ob_add hK
  | .sub => ob_sub
  | .mul => ob_mul hK
  | .fdiv => ob_fdiv
  | .mod => ob_mod
  | .pow => ob_pow
theorem se_bin {o : BO} {x y : E} (hK : X.K = T.K) (ha : PE X a (tE T Ex (evE h x))) (hb : PE X b (tE T Ex (evE h y))) : PE X (.BinOp a (pyB o) b pos) (tE T Ex (evE h (.bin o x y))) := by
  refine pe_imp (pe_op (ob_all hK o) ha hb) fun q H Q ⟨r, ts, c, l, k⟩ => ?_
  unfold okE at k
  simp only [evE, w_bindA] at k
  refine seqE (tl := []) c l k fun m r1 v H1 c1 l1 k1 => ?_
  refine seqE (tl := [(.im m.fz, v)]) c1 l1.freeze k1 fun m2 r2 v2 H2 c2 l2 k2 => ?_
  obtain ⟨n, e1, hq⟩ := ofO_ok k2
  exact ⟨_, _, _, n, swap2 l2.freeze, e1, fun v' H' l' => hq v' H' c2 l'⟩
theorem se_neg {x : E} (ha : PE X a (tE T Ex (evE h x))) : PE X (.UnaryOp .USub a pos) (tE T Ex (evE h (.neg x))) := by
  refine pe_imp (pe_un un_neg ha) fun q H Q ⟨r, ts, c, l, k⟩ => ?_
  unfold okE at k
  simp only [evE, int_bindA] at k
  refine seqE (tl := []) c l k fun m r1 v H1 c1 l1 k1 => ?_
  obtain ⟨i, rfl, k2⟩ := int_ok k1
  exact ⟨i, l1.vint, k2 _ _ c1 (l1.tail.plain rfl)⟩
/-- a comparison, as a value and as a test -/
theorem ofO_map {α β : Type} {S : β → Env → Prop} {r : Env} {o : Option α} {f : α → β} (h : okR T Ex q ts S (R.ofO r (o.map f))) : okR T Ex q ts (fun z r => S (f z) r) (R.ofO r o) := by
  cases o <;> exact h
theorem cmp_rd {o : CO} {x y : E} {r : Env} {Q : VK} {S : Bool → Env → Prop} (c : Cons r q) (l : Live T H (slots r q ++ ts))
    (k : okR T Ex q ts (fun m r' => ∀ z, m = .im (.bl z) → S z r') (evE h (.cmp o x y) r)) (f : ∀ z r' H', S z r' → Cons r' q → Live T H' (slots r' q ++ ts) → Q (.bl z) H') : tOp (rC T o) (tE T Ex (evE h x)) (tE T Ex (evE h y)) q H Q := by
  simp only [evE, w_bindA] at k
  refine seqE (tl := []) c l k fun m r1 v H1 c1 l1 k1 => ?_
  refine seqE (tl := [(.im m.fz, v)]) c1 l1.freeze k1 fun m2 r2 v2 H2 c2 l2 k2 => ?_
  obtain ⟨n, e1, hq⟩ := ofO_ok (ofO_map k2)
  exact ⟨_, _, _, n, swap2 l2.freeze, e1, f _ _ _ (hq _ rfl) c2 l2.tail.tail⟩
theorem se_cmp {o : CO} {x y : E} (hK : X.K = T.K) (hu : X.A.units + 65 < cLine) (ha : PE X a (tE T Ex (evE h x))) (hb : PE X b (tE T Ex (evE h y))) (hm : behindInMarks (pyC o) b = false) :
    PE X (.Compare a [pyC o] [b] pos) (tE T Ex (evE h (.cmp o x y))) :=
  pe_imp (pe_cmpR (oc_all hK hu o) ha hb hm) fun q H Q ⟨r, ts, c, l, k⟩ => cmp_rd (S := fun z r' => ∀ v H, Cons r' q → Live T H ((.im (.bl z), v) :: (slots r' q ++ ts)) → Q v H) c l (okR.imp k fun m r' k' z e => by subst e; exact k') fun z r' H' k' c' l' => k' _ _ c' (l'.plain rfl)
/-- a test from a value's meaning -/
theorem test_rd {x : E} {r : Env} {Q : Bool → Hp → Prop} (c : Cons r q) (l : Live T H (slots r q ++ ts)) (k : okR T Ex q ts (fun b r => ∀ H, Cons r q → Live T H (slots r q ++ ts) → Q b H) (evE h x r).tru)
    (f : ∀ m r' v H', Cons r' q → Live T H' ((m, v) :: (slots r' q ++ ts)) → ∀ b, truW m.fz = some b → (∀ H, Live T H (slots r' q ++ ts) → Q b H) → Q' v H') : tE T Ex (evE h x) q H Q' := by
  unfold R.tru at k
  refine seqE (tl := []) c l k fun m r1 v H1 c1 l1 k1 => ?_
  obtain ⟨b, e1, hq⟩ := ofO_ok k1
  exact f m r1 v H1 c1 l1 b e1 fun H2 l2 => hq H2 c1 l2
abbrev tTst (T : Tb) (Ex : WX) (h : Th) (x : E) : TT := tT T Ex fun r => (evE h x r).tru
theorem st_of (hK : X.K = T.K) {x : E} (ha : PE X a (tE T Ex (evE h x))) (he : ∀ whole, isTrue a X.env whole = (do let v ← whole; standAt a.pos; holding [v] (truthy v))) : PT X a (tTst T Ex h x) := by
  refine pt_imp (pt_truth ha he) fun q H Q ⟨r, ts, c, l, k⟩ => ?_
  refine test_rd c l k fun m r1 v H1 c1 l1 b e1 hq => ?_
  exact ⟨b, tru_of hK l1.freeze e1, hq _ l1.tail⟩
theorem st_cmp {o : CO} {x y : E} (hK : X.K = T.K) (hu : X.A.units + 65 < cLine) (ha : PE X a (tE T Ex (evE h x))) (hb : PE X b (tE T Ex (evE h y))) (hm : behindInMarks (pyC o) b = false) :
    PT X (.Compare a [pyC o] [b] pos) (tTst T Ex h (.cmp o x y)) := by
  refine pt_imp (pt_cmpR (oc_all hK hu o) ha hb hm) fun q H Q ⟨r, ts, c, l, k⟩ => ?_
  refine cmp_rd (S := fun z r' => ∀ H, Cons r' q → Live T H (slots r' q ++ ts) → Q z H) c l ?_ fun z r' H' k' c' l' => ⟨z, rfl, k' _ c' l'⟩
  unfold R.tru at k
  refine (okR.bind k).imp fun m r1 k1 z e => ?_
  subst e
  exact k1
end
end Dn
-- Dn8
set_option maxRecDepth 100000
set_option maxHeartbeats 1000000
/-! Expressions, further. -/
namespace Dn
open PySem PySem.Spec PyProof.Rows L2

section
variable {T : Tb} {Ex : WX} {q : L2.St} {ts tl : List (M × V)} {X : Cx} {e a b c : Expr} {es rest : List Expr} {pos : Pos} {H : Hp} {h : Th}
/-! ### and, or, not, if -/
theorem se_inv {x : E} (hK : X.K = T.K) (ha : PE X a (tE T Ex (evE h x))) : PE X (.UnaryOp .Not a pos) (tE T Ex (evE h (.inv x))) := by
  refine pe_imp (pe_notT ha) fun q H Q ⟨r, ts, c, l, k⟩ => ?_
  unfold okE at k
  simp only [evE] at k
  have k' := okR.bind k
  refine test_rd c l (k'.imp fun b r' hk H' c' l' => (show Q (.bl (!b)) H' from hk _ _ c' (l'.plain rfl))) fun m r1 v H1 c1 l1 b e1 hq => ?_
  exact ⟨b, tru_of hK l1.freeze e1, hq _ l1.tail⟩
theorem tru_bind {m : R M} {k : M → Env → R M} : (m.bind k).tru = m.bind fun m r => (k m r).tru := by cases m <;> rfl
theorem st_inv {x : E} (ha : PT X a (tTst T Ex h x)) : PT X (.UnaryOp .Not a pos) (tTst T Ex h (.inv x)) := by
  refine pt_imp (pt_not ha) fun q H Q ⟨r, ts, c, l, k⟩ => ?_
  simp only [evE] at k
  have e : ((evE h x r).tru.bind fun b r1 => R.ok (M.im (W.bl (!b))) r1).tru = (evE h x r).tru.bind fun b r1 => R.ok (!b) r1 := by
    cases evE h x r with
    | ok m r1 =>
      show ((R.ofO r1 (truW m.fz)).bind fun b r1 => R.ok (M.im (W.bl (!b))) r1).tru = (R.ofO r1 (truW m.fz)).bind fun b r1 => R.ok (!b) r1
      cases truW m.fz <;> rfl
    | _ => rfl
  rw [e] at k
  refine seqT (tl := []) c l k fun b r1 H1 c1 l1 k1 => ?_
  exact k1 _ c1 l1
theorem con_rd {x y : E} {r : Env} {S : M → Env → Prop} {Q Q2 : VK} (hK : X.K = T.K) (c : Cons r q) (l : Live T H (slots r q ++ ts)) (k : okR T Ex q ts S (evE h (.con x y) r))
    (f1 : ∀ r1 H1, Cons r1 q → Live T H1 (slots r1 q ++ ts) → okR T Ex q ts S (evE h y r1) → tE T Ex (evE h y) q H1 Q) (f2 : ∀ w v r1 H1, Cons r1 q → Live T H1 ((.im w, v) :: (slots r1 q ++ ts)) → truW w = some false → S (.im w) r1 → Q v H1) :
    tAndT X.K (tE T Ex (evE h x)) (tE T Ex (evE h y)) q H Q := by
  simp only [evE, w_bindA] at k
  refine seqE (tl := []) c l k fun m r1 v H1 c1 l1 k1 => ?_
  cases e : truW m.fz with
  | none => rw [e] at k1; exact False.elim k1
  | some z =>
    rw [e] at k1
    refine ⟨z, tru_of hK l1.freeze e, ?_⟩
    cases z with
    | true => exact f1 _ _ c1 l1.tail k1
    | false => exact f2 _ _ _ _ c1 l1.freeze e k1
theorem se_con {x y : E} (hK : X.K = T.K) (ha : PE X a (tE T Ex (evE h x))) (hb : PE X (.BoolOp .And (b :: rest) pos) (tE T Ex (evE h y))) : PE X (.BoolOp .And (a :: b :: rest) pos) (tE T Ex (evE h (.con x y))) :=
  pe_imp (pe_andT ha hb) fun q H Q ⟨r, ts, c, l, k⟩ => con_rd (Q2 := Q) hK c l k (fun r1 H1 c1 l1 k1 => ⟨r1, ts, c1, l1, k1⟩) fun w v r1 H1 c1 l1 _ k1 => k1 _ _ c1 l1
theorem se_dis {x y : E} (hK : X.K = T.K) (ha : PE X a (tE T Ex (evE h x))) (hb : PE X (.BoolOp .Or (b :: rest) pos) (tE T Ex (evE h y))) : PE X (.BoolOp .Or (a :: b :: rest) pos) (tE T Ex (evE h (.dis x y))) := by
  refine pe_imp (pe_orT ha hb) fun q H Q ⟨r, ts, c, l, k⟩ => ?_
  unfold okE at k
  simp only [evE, w_bindA] at k
  refine seqE (tl := []) c l k fun m r1 v H1 c1 l1 k1 => ?_
  cases e : truW m.fz with
  | none => rw [e] at k1; exact False.elim k1
  | some z =>
    rw [e] at k1
    refine ⟨z, tru_of hK l1.freeze e, ?_⟩
    cases z with
    | true => exact k1 _ _ c1 l1.freeze
    | false => exact ⟨r1, ts, c1, l1.tail, k1⟩
theorem con_tru {x y : E} {r : Env} {S : Bool → Env → Prop} (k : okR T Ex q ts S (evE h (.con x y) r).tru) : okR T Ex q ts S ((evE h x r).tru.bind fun z r1 => if z then (evE h y r1).tru else .ok false r1) := by
  simp only [evE, w_bindA, tru_bind] at k
  cases e : evE h x r with
  | ok m r1 =>
    rw [e] at k
    unfold R.tru R.bind R.ofO at k ⊢
    cases e2 : truW m.fz with
    | none => simp only [e2] at k; exact False.elim k
    | some z =>
      simp only [e2] at k ⊢
      cases z with
      | true => exact k
      | false =>
        simp only [M.fz, e2] at k
        exact k
  | exc w r1 => rw [e] at k; exact k
  | stuck => rw [e] at k; exact k
theorem dis_tru {x y : E} {r : Env} {S : Bool → Env → Prop} (k : okR T Ex q ts S (evE h (.dis x y) r).tru) : okR T Ex q ts S ((evE h x r).tru.bind fun z r1 => if z then .ok true r1 else (evE h y r1).tru) := by
  simp only [evE, w_bindA, tru_bind] at k
  cases e : evE h x r with
  | ok m r1 =>
    rw [e] at k
    unfold R.tru R.bind R.ofO at k ⊢
    cases e2 : truW m.fz with
    | none => simp only [e2] at k; exact False.elim k
    | some z =>
      simp only [e2] at k ⊢
      cases z with
      | false => exact k
      | true =>
        simp only [M.fz, e2] at k
        exact k
  | exc w r1 => rw [e] at k; exact k
  | stuck => rw [e] at k; exact k
theorem sw_con {x y : E} (ha : PT X a (tTst T Ex h x)) (hb : PW X (.BoolOp .And (b :: rest) pos) (tTst T Ex h y)) : PW X (.BoolOp .And (a :: b :: rest) pos) (tTst T Ex h (.con x y)) := by
  refine pw_imp (pw_and ha hb) fun q H Q ⟨r, ts, c, l, k⟩ => ?_
  refine seqT (tl := []) c l (con_tru k) fun z r1 H1 c1 l1 k1 => ?_
  cases z with
  | true => exact ⟨r1, ts, c1, l1, k1⟩
  | false => exact k1 _ c1 l1
theorem sw_dis {x y : E} (ha : PT X a (tTst T Ex h x)) (hb : PW X (.BoolOp .Or (b :: rest) pos) (tTst T Ex h y)) : PW X (.BoolOp .Or (a :: b :: rest) pos) (tTst T Ex h (.dis x y)) := by
  refine pw_imp (pw_or ha hb) fun q H Q ⟨r, ts, c, l, k⟩ => ?_
  refine seqT (tl := []) c l (dis_tru k) fun z r1 H1 c1 l1 k1 => ?_
  cases z with
  | false => exact ⟨r1, ts, c1, l1, k1⟩
  | true => exact k1 _ c1 l1
theorem se_ife {x y z : E} (hc : PT X c (tTst T Ex h x)) (ha : PE X a (tE T Ex (evE h y))) (hb : PE X b (tE T Ex (evE h z))) : PE X (.IfExp c a b pos) (tE T Ex (evE h (.ife x y z))) := by
  refine pe_imp (pe_ifExp hc ha hb) fun q H Q ⟨r, ts, c, l, k⟩ => ?_
  unfold okE at k
  simp only [evE] at k
  refine seqT (tl := []) c l k fun z r1 H1 c1 l1 k1 => ?_
  cases z with
  | true => exact ⟨r1, ts, c1, l1, k1⟩
  | false => exact ⟨r1, ts, c1, l1, k1⟩
/-! ### a chain -/
theorem se_chn {o p : CO} {x y z : E} (hK : X.K = T.K) (hu : X.A.units + 65 < cLine) (ha : PE X a (tE T Ex (evE h x))) (hb : PE X b (tE T Ex (evE h y))) (hc : PE X c (tE T Ex (evE h z))) (hm : lastMarks [pyC o, pyC p] [b, c] = false) :
    PE X (.Compare a [pyC o, pyC p] [b, c] pos) (tE T Ex (evE h (.chn o p x y z))) := by
  refine pe_imp (pe_chain (oc_all hK hu o) (oc_all hK hu p) ha hb hc hm) fun q H Q ⟨r, ts, c, l, k⟩ => ?_
  unfold okE at k
  simp only [evE, w_bindA] at k
  refine seqE (tl := []) c l k fun m r1 v H1 c1 l1 k1 => ?_
  refine seqE (tl := [(.im m.fz, v)]) c1 l1.freeze k1 fun m2 r2 v2 H2 c2 l2 k2 => ?_
  cases e : cmpW o m.fz m2.fz with
  | none => rw [e] at k2; exact False.elim k2
  | some d =>
    rw [e] at k2
    refine ⟨_, _, _, d, swap2 l2.freeze, e, d, rfl, ?_⟩
    cases d with
    | false => exact k2 _ _ c2 (l2.tail.tail.plain rfl)
    | true =>
      refine seqE (tl := [(.im m2.fz, v2)]) c2 (drop2 l2.freeze) k2 fun m3 r3 v3 H3 c3 l3 k3 => ?_
      obtain ⟨n, e1, hq⟩ := ofO_ok (ofO_map k3)
      exact ⟨_, _, _, n, swap2 l3.freeze, e1, hq _ _ c3 (l3.tail.tail.plain rfl)⟩
theorem tT_of_tE_bool {d : Env → R M} {r : Env} {Q : Bool → Hp → Prop} (k : okR T Ex q ts (fun b r => ∀ H, Cons r q → Live T H (slots r q ++ ts) → Q b H) (d r).tru) (hb : ∀ m r', d r = .ok m r' → ∃ z, m = .im (.bl z)) :
    okE T Ex q ts (fun v H' => ∃ z, v = .bl z ∧ Q z H') (d r) := by
  unfold R.tru at k
  have k' := okR.bind k
  unfold okE
  cases e : d r with
  | ok m r1 =>
    rw [e] at k'
    obtain ⟨z, rfl⟩ := hb m r1 e
    intro v H1 c1 l1
    exact ⟨z, l1.vbl, k' _ c1 l1.tail⟩
  | exc w r1 => rw [e] at k'; exact k'
  | stuck => rw [e] at k'; exact k'
theorem bind_ok {α β : Type} {x : R α} {k : α → Env → R β} {y : β} {r : Env} (h : x.bind k = .ok y r) : ∃ z r1, x = .ok z r1 ∧ k z r1 = .ok y r := by
  cases x with
  | ok z r1 => exact ⟨z, r1, rfl, h⟩
  | _ => cases h
theorem chn_bl {o p : CO} {x y z : E} {r r' : Env} {m : M} (h' : evE h (.chn o p x y z) r = .ok m r') : ∃ k, m = .im (.bl k) := by
  simp only [evE, w_bindA] at h'
  obtain ⟨_, _, _, h1⟩ := bind_ok h'
  obtain ⟨_, r2, _, h2⟩ := bind_ok h1
  split at h2
  · obtain ⟨_, r3, _, h3⟩ := bind_ok h2
    unfold R.ofO at h3
    split at h3
    · rename_i e
      obtain ⟨k, _, e2⟩ := Option.map_eq_some_iff.mp e
      cases h3
      exact ⟨k, e2.symm⟩
    · cases h3
  · cases h2
    exact ⟨false, rfl⟩
  · cases h2
theorem st_chn {o p : CO} {x y z : E} (hK : X.K = T.K) (hu : X.A.units + 65 < cLine) (ha : PE X a (tE T Ex (evE h x))) (hb : PE X b (tE T Ex (evE h y))) (hc : PE X c (tE T Ex (evE h z))) (hm : lastMarks [pyC o, pyC p] [b, c] = false) :
    PT X (.Compare a [pyC o, pyC p] [b, c] pos) (tTst T Ex h (.chn o p x y z)) := by
  refine pt_imp (pt_chain (oc_all hK hu o) (oc_all hK hu p) ha hb hc hm) fun q H Q ⟨r, ts, c, l, k⟩ => ?_
  have k := tT_of_tE_bool k fun m r' => chn_bl
  unfold okE at k
  simp only [evE, w_bindA] at k
  refine seqE (tl := []) c l k fun m r1 v H1 c1 l1 k1 => ?_
  refine seqE (tl := [(.im m.fz, v)]) c1 l1.freeze k1 fun m2 r2 v2 H2 c2 l2 k2 => ?_
  cases e : cmpW o m.fz m2.fz with
  | none => rw [e] at k2; exact False.elim k2
  | some d =>
    rw [e] at k2
    refine ⟨_, _, _, d, swap2 l2.freeze, e, d, rfl, ?_⟩
    cases d with
    | false => exact k2 _ _ c2 (l2.tail.tail.plain rfl)
    | true =>
      refine seqE (tl := [(.im m2.fz, v2)]) c2 (drop2 l2.freeze) k2 fun m3 r3 v3 H3 c3 l3 k3 => ?_
      obtain ⟨n, e1, hq⟩ := ofO_ok (ofO_map k3)
      exact ⟨_, _, _, n, swap2 l3.freeze, e1, hq _ _ c3 (l3.tail.tail.plain rfl)⟩

/-! ### arguments, displays -/
def noStar : Expr → Bool
  | .Starred _ _ => false
  | _ => true
theorem star_head (h : noStar a = true) (env : PySem.Env) : starEach (a :: es) env = (false, eval a env) :: starEach es env := by
  cases a <;> first | rfl | cases h
theorem sa_nil : PA X [] (tL T Ex (evEs h .nil)) :=
  pa_imp pa_nil fun q H Q ⟨r, ts, c, l, k⟩ => by
    simp only [evEs] at k
    exact k [] H c rfl l
theorem sa_cons {x : E} {xs : Es} (ns : noStar a = true) (ha : PE X a (tE T Ex (evE h x))) (hr : PA X es (tL T Ex (evEs h xs))) : PA X (a :: es) (tL T Ex (evEs h (.cons x xs))) := by
  refine pa_imp (pa_cons ha hr (star_head ns X.env)) fun q H Q ⟨r, ts, c, l, k⟩ => ?_
  simp only [evEs, w_bindA] at k
  refine seqE (tl := []) c l k fun m r1 v H1 c1 l1 k1 => ?_
  refine seqL (tl := [(.im m.fz, v)]) c1 l1.freeze k1 fun ws r2 vs H2 c2 hl l2 k2 => ?_
  refine k2 (v :: vs) H2 c2 (by simp [hl]) ?_
  exact l2.perm List.perm_middle
theorem se_tup {xs : Es} {k : Nat} (ha : PA X es (tL T Ex (evEs h xs))) : PE X (.Tuple es k pos) (tE T Ex (evE h (.tup xs))) := by
  refine pe_imp (pe_tup ha) fun q H Q ⟨r, ts, c, l, k⟩ => ?_
  unfold okE at k
  simp only [evE] at k
  refine seqL (tl := []) c l k fun ws r1 vs H1 c1 hl l1 k1 => ?_
  split at k1
  · rename_i hz
    exact ⟨small_line (by omega), fun p hp => k1 _ _ c1 (l1.newT hl hp)⟩
  · exact False.elim k1
theorem se_lst {xs : Es} (ha : PA X es (tL T Ex (evEs h xs))) : PE X (.List es pos) (tE T Ex (evE h (.lst xs))) := by
  refine pe_imp (pe_lst ha) fun q H Q ⟨r, ts, c, l, k⟩ => ?_
  unfold okE at k
  simp only [evE] at k
  refine seqL (tl := []) c l k fun ws r1 vs H1 c1 hl l1 k1 => ?_
  split at k1
  · rename_i hz
    exact ⟨small_line (by omega), fun p hp => k1 _ _ c1 (l1.newL hl hp)⟩
  · exact False.elim k1
/-! ### subscripts -/
theorem se_idx {x i : E} (hK : X.K = T.K) (ha : PE X a (tE T Ex (evE h x))) (hb : PE X b (tE T Ex (evE h i))) (hp : PlainIx b) : PE X (.Subscript a b pos) (tE T Ex (evE h (.idx x i))) := by
  refine pe_imp (pe_ix (ix_all hK) ha hb hp) fun q H Q ⟨r, ts, c, l, k⟩ => ?_
  unfold okE at k
  simp only [evE, w_bindA] at k
  refine seqE (tl := []) c l k fun m r1 v H1 c1 l1 k1 => ?_
  rw [int_bindA] at k1
  refine seqE (tl := [(.im m.fz, v)]) c1 l1.freeze k1 fun m2 r2 v2 H2 c2 l2 k2 => ?_
  obtain ⟨i, rfl, k3⟩ := int_ok k2
  obtain ⟨w, e1, hq⟩ := ofO_ok (ofO_map k3)
  exact ⟨.im m.fz, _, i, w, l2.tail, l2.vint, e1, fun v' l' => hq _ _ c2 (drop2 l')⟩
theorem getM_slot {r : Env} {i : Nat} {m : M} (c : Cons r q) (e : getM r i = some m) : ∃ v, q[i]? = some (some v) := by
  obtain ⟨v, e1, _, _⟩ := cons_get c (getM_some e)
  exact ⟨v, e1⟩
theorem set_none_back {r : Env} {i : Nat} {m : M} (e : getM r i = some m) : (r.set i none).set i (some m) = r := by
  rw [List.set_set]
  exact set_same (getM_some e)
/-- a slot is looked at, and stays -/
theorem slot_look {r : Env} {i : Nat} {m : M} {v : V} (c : Cons r q) (e : getM r i = some m) (hv : q[i]? = some (some v)) (l : Live T H (slots r q ++ ts)) :
    ∃ l', Live T H ((m, v) :: l') ∧ (∀ H', Live T H' ((m, v) :: l') → Live T H' (slots r q ++ ts)) ∧ ∀ w u H', Live T H' ((.im w, u) :: (m, v) :: l') → Live T H' ((.im w, u) :: (slots r q ++ ts)) := by
  obtain ⟨v', e1, c', l'⟩ := slot_get c e l
  rw [hv] at e1
  cases e1
  obtain ⟨v2, e2, p, _⟩ := cons_get c (getM_some e)
  rw [hv] at e2
  cases e2
  refine ⟨_, l', fun H' h' => h'.perm (p.symm.append_right ts), fun w u H' h' => h'.perm ((p.symm.append_right ts).cons _)⟩
theorem se_pidx {i : Nat} {x : Str} {y : E} {p2 : Pos} (hK : X.K = T.K) (hN : X.N[i]? = some x) (hv : Vis X.env.scope x) (hd : (x == ("__debug__" : Str)) = false) (hcd : (x == ("__classdict__" : Str)) = false)
    (hb : PE X b (tE T Ex (evE h y))) (hp : PlainIx b) : PE X (.Subscript (.Name x p2) b pos) (tE T Ex (evE h (.pidx i [] y))) := by
  refine pe_imp (pe_ix (ix_all hK) (pe_var hN hv hd hcd) hb hp) fun q H Q ⟨r, ts, c, l, k⟩ => ?_
  unfold okE at k
  simp only [evE] at k
  split at k
  · rename_i hh
    obtain ⟨m0, hm0⟩ := Option.isSome_iff_exists.mp hh.2
    obtain ⟨v, hv⟩ := getM_slot c hm0
    refine ⟨v, hv, ?_⟩
    rw [int_bindA] at k
    refine seqE (tl := []) c l k fun m2 r2 v2 H2 c2 l2 k2 => ?_
    obtain ⟨j, rfl, k3⟩ := int_ok k2
    obtain ⟨w, e1, hq⟩ := ofO_ok (ofO_map k3)
    obtain ⟨m, e2, e3⟩ := Option.bind_eq_some_iff.mp e1
    obtain ⟨l', h1, h2, h3⟩ := slot_look c2 e2 hv l2.tail
    exact ⟨m, l', j, w, h1, l2.vint, e3, fun v' hl => hq _ _ c2 (h3 _ _ _ hl)⟩
  · exact False.elim k
/-- a slice's bounds -/
def tO (T : Tb) (Ex : WX) (d : Env → R (Option Int)) : TO := fun q H Q => ∃ r ts, Cons r q ∧ Live T H (slots r q ++ ts) ∧
  okR T Ex q ts (fun o r => ∀ H, Cons r q → Live T H (slots r q ++ ts) → Q o H) (d r)
theorem po_imp {e : Option Expr} {t t' : TO} (h : PO X e t) (i : ∀ q H Q, t' q H Q → t q H Q) : PO X e t' := by
  obtain ⟨f⟩ := h
  exact ⟨fun pins s q H Q I w => f pins s q H Q I (i q H Q w)⟩
theorem so_none : PO X none (tO T Ex (evO h .none)) := po_imp po_none fun q H Q ⟨r, ts, c, l, k⟩ => by
  simp only [evO] at k
  exact k _ c l
theorem so_some {x : E} (ha : PE X a (tE T Ex (evE h x))) : PO X (some a) (tO T Ex (evO h (.some x))) := by
  refine po_imp (po_some ha) fun q H Q ⟨r, ts, c, l, k⟩ => ?_
  simp only [evO, int_bindA] at k
  refine seqE (tl := []) c l k fun m r1 v H1 c1 l1 k1 => ?_
  obtain ⟨i, rfl, k2⟩ := int_ok k1
  exact ⟨i, l1.vint, k2 _ c1 l1.tail⟩
theorem seqO {α : Type} {d : Env → R (Option Int)} {k : Option Int → Env → R α} {S : α → Env → Prop} {r : Env} (c : Cons r q) (l : Live T H (tl ++ (slots r q ++ ts))) (h : okR T Ex q ts S ((d r).bind k)) {Q' : Option Int → Hp → Prop}
    (n : ∀ b r' H', Cons r' q → Live T H' (tl ++ (slots r' q ++ ts)) → okR T Ex q ts S (k b r') → Q' b H') : tO T Ex d q H Q' :=
  ⟨r, tl ++ ts, c, toMid l, okR.moreL ((okR.bind h).imp fun m r' h' H' c' l' => n m r' H' c' (toFront l') h')⟩
variable {lo hi : Option Expr}
theorem se_slc {x : E} {y z : OE} {p2 : Pos} (hK : X.K = T.K) (ha : PE X a (tE T Ex (evE h x))) (hl : PO X lo (tO T Ex (evO h y))) (hh : PO X hi (tO T Ex (evO h z))) : PE X (.Subscript a (.Slice lo hi none p2) pos) (tE T Ex (evE h (.slc x y z))) := by
  refine pe_imp (pe_slice (sl_all hK) ha hl hh) fun q H Q ⟨r, ts, c, l, k⟩ => ?_
  unfold okE at k
  simp only [evE, w_bindA] at k
  refine seqE (tl := []) c l k fun m r1 v H1 c1 l1 k1 => ?_
  refine seqO (tl := [(.im m.fz, v)]) c1 l1.freeze k1 fun o r2 H2 c2 l2 k2 => ?_
  refine seqO (tl := [(.im m.fz, v)]) c2 l2 k2 fun o3 r3 H3 c3 l3 k3 => ?_
  obtain ⟨n, e1, hq⟩ := ofO_ok k3
  exact ⟨.im m.fz, _, n, l3, e1, fun v' H' l' => hq _ _ c3 (drop2 l')⟩
theorem slot_look2 {r : Env} {i : Nat} {m : M} {v : V} (c : Cons r q) (e : getM r i = some m) (hv : q[i]? = some (some v)) (l : Live T H (slots r q ++ ts)) :
    ∃ l', Live T H ((m, v) :: l') ∧ ∀ n u H', Live T H' ((n, u) :: (m, v) :: l') → Live T H' ((n, u) :: (slots r q ++ ts)) := by
  obtain ⟨v', e1, c', l'⟩ := slot_get c e l
  rw [hv] at e1
  cases e1
  obtain ⟨v2, e2, p, _⟩ := cons_get c (getM_some e)
  rw [hv] at e2
  cases e2
  exact ⟨_, l', fun n u H' h' => h'.perm ((p.symm.append_right ts).cons _)⟩
theorem se_pslc {i : Nat} {x : Str} {y z : OE} {p2 p3 : Pos} (hK : X.K = T.K) (hN : X.N[i]? = some x) (hv : Vis X.env.scope x) (hd : (x == ("__debug__" : Str)) = false) (hcd : (x == ("__classdict__" : Str)) = false)
    (hl : PO X lo (tO T Ex (evO h y))) (hh : PO X hi (tO T Ex (evO h z))) : PE X (.Subscript (.Name x p2) (.Slice lo hi none p3) pos) (tE T Ex (evE h (.pslc i [] y z))) := by
  refine pe_imp (pe_slice (sl_all hK) (pe_var hN hv hd hcd) hl hh) fun q H Q ⟨r, ts, c, l, k⟩ => ?_
  unfold okE at k
  simp only [evE] at k
  split at k
  · rename_i hh
    obtain ⟨m0, hm0⟩ := Option.isSome_iff_exists.mp hh.2
    obtain ⟨v, hv⟩ := getM_slot c hm0
    refine ⟨v, hv, ?_⟩
    refine seqO (tl := []) c l k fun o r2 H2 c2 l2 k2 => ?_
    refine seqO (tl := []) c2 l2 k2 fun o3 r3 H3 c3 l3 k3 => ?_
    obtain ⟨n, e1, hq⟩ := ofO_ok k3
    obtain ⟨m, e2, e3⟩ := Option.bind_eq_some_iff.mp e1
    obtain ⟨l', h1, h2⟩ := slot_look2 c3 e2 hv l3
    exact ⟨m, l', n, h1, e3, fun v' H' hl => hq _ _ c3 (h2 _ _ _ hl)⟩
  · exact False.elim k
end
end Dn
-- Dn9
set_option maxRecDepth 100000
set_option maxHeartbeats 1000000
/-! Calls: built-ins, mutators, the text's own defs. -/
namespace Dn
open PySem PySem.Spec PyProof.Rows L2

section
variable {T : Tb} {Ex : WX} {q : L2.St} {ts tl : List (M × V)} {X : Cx} {e a b c : Expr} {es rest : List Expr} {pos p p2 : Pos} {H : Hp} {h : Th} {x : Str}
theorem stars_plain : ∀ {es : List Expr} (_ : es.all noStar = true) (env : PySem.Env), (backTo pos (starEach es env)).any (·.1) = false
  | [], _, _ => rfl
  | e :: es, h, env => by
    simp only [List.all_cons, Bool.and_eq_true] at h
    rw [star_head h.1]
    unfold backTo
    rw [List.map_cons, List.any_cons]
    exact stars_plain h.2 env
theorem bi_rd {bt : BI} {xs : Es} {r : Env} {Q : VK} (c : Cons r q) (l : Live T H (slots r q ++ ts)) (k : okE T Ex q ts Q (evE h (.bi bt xs) r)) : tCB (rBi T bt) (tL T Ex (evEs h xs)) q H Q := by
  unfold okE at k
  simp only [evE] at k
  refine seqL (tl := []) c l k fun ws r1 vs H1 c1 hl l1 k1 => ?_
  obtain ⟨n, e1, hq⟩ := ofO_ok k1
  exact ⟨ws, _, n, hl, l1, e1, fun v' H' l' => hq _ _ c1 l'⟩
theorem se_biB {bt : BI} {id : String} {xs : Es} (hc : CallR X (.builtin id) (rBi T bt)) (hg : Gl X x) (hm : X.mg x = none) (hv : bootBuiltins x = some (.builtin id)) (hn : x ≠ "__name__") (hd : (x == ("__debug__" : Str)) = false)
    (ns : (a :: es).all noStar = true) (ha : PA X (a :: es) (tL T Ex (evEs h xs))) : PE X (.Call (.Name x p) (a :: es) [] pos) (tE T Ex (evE h (.bi bt xs))) := by
  have ns2 : noStar a = true ∧ es.all noStar = true := by simpa using ns
  exact pe_imp (pe_callB hc hg hm hv ha hn hd (star_head ns2.1 _) (stars_plain ns2.2 _)) fun q H Q ⟨r, ts, c, l, k⟩ => bi_rd c l k
theorem se_biT {bt : BI} {id : String} {xs : Es} (hc : CallR X (.type id) (rBi T bt)) (hg : Gl X x) (hm : X.mg x = none) (hv : bootBuiltins x = some (.type id)) (hn : x ≠ "__name__") (hd : (x == ("__debug__" : Str)) = false)
    (ns : (a :: es).all noStar = true) (ha : PA X (a :: es) (tL T Ex (evEs h xs))) : PE X (.Call (.Name x p) (a :: es) [] pos) (tE T Ex (evE h (.bi bt xs))) := by
  have ns2 : noStar a = true ∧ es.all noStar = true := by simpa using ns
  exact pe_imp (pe_callTy hc hg hm hv ha hn hd (star_head ns2.1 _) (stars_plain ns2.2 _)) fun q H Q ⟨r, ts, c, l, k⟩ => bi_rd c l k
/-- len of what a name holds -/
theorem se_plen {i : Nat} {y : Str} (hK : X.K = T.K) (hN : X.N[i]? = some y) (hv : Vis X.env.scope y) (hd : (y == ("__debug__" : Str)) = false) (hcd : (y == ("__classdict__" : Str)) = false) (hg : Gl X "len") (hm : X.mg "len" = none) :
    PE X (.Call (.Name "len" p) [.Name y p2] [] pos) (tE T Ex (evE h (.plen i []))) := by
  refine pe_imp (pe_callB call_len_seq hg hm boot_len (pa_cons (pe_var hN hv hd hcd) pa_nil)) fun q H Q ⟨r, ts, c, l, k⟩ => ?_
  unfold okE at k
  simp only [evE, if_true] at k
  obtain ⟨n, e1, hq⟩ := ofO_ok (ofO_map k)
  obtain ⟨m, e2, e3⟩ := Option.bind_eq_some_iff.mp e1
  obtain ⟨v, e4⟩ := getM_slot c e2
  obtain ⟨l', h1, h2⟩ := slot_look2 c e2 e4 l
  refine ⟨v, e4, ?_⟩
  have fin : Q (.int n) H := hq _ _ c (l.plain rfl)
  cases m with
  | ls ws =>
    cases e3
    obtain ⟨a, vs, f1, f2, f3, _⟩ := h1.openO
    exact ⟨a, vs, by rw [f1], .inl (SqL.of f2), by rw [f3]; exact fin⟩
  | im w =>
    cases w with
    | lst ws =>
      cases e3
      obtain ⟨a, vs, f1, f2, f3, _⟩ := h1.openL
      exact ⟨a, vs, by rw [f1], .inl (SqL.of f2), by rw [f3]; exact fin⟩
    | tup ws =>
      cases e3
      obtain ⟨a, vs, f1, f2, f3, _⟩ := h1.openT
      rw [← hK] at f2
      exact ⟨a, vs, by rw [f1], .inr f2, by rw [f3]; exact fin⟩
    | scr is =>
      cases e3
      obtain ⟨a, f1, f2⟩ := h1.vscr
      rw [← hK] at f2
      exact ⟨a, _, by rw [f1], .inl f2, by rw [List.length_map]; exact fin⟩
    | _ => cases e3
  | _ => cases e3

/-! ### mutators -/
def rMu (T : Tb) (m : MU) : V → List V → Hp → VK → Prop := fun vx vs H Q => ∃ x ws l n x', vs.length = ws.length ∧ Live T H (ims ws vs ++ (x, vx) :: l) ∧ mutW m x ws = some (n, x') ∧ ∀ v H', Live T H' ((n, v) :: (x', vx) :: l) → Q v H'
theorem mu_append : MtR X "list.append" (rMu T .append) := by
  intro pins s q H vx vs v us Q I rx rs h
  obtain ⟨x, ws, l, n, x', hl, hv, he, k⟩ := h
  unfold mutW at he
  split at he
  case h_1 ws0 w e =>
    split at he
    case isTrue hz =>
      cases he
      obtain ⟨u, rfl⟩ := one_v hl
      have hv' : Live T H ((.im w, u) :: (.ls ws0, vx) :: l) := hv
      obtain ⟨a, xs, e1, e2, e3, hh⟩ := (swap2 hv').openO
      subst e1
      refine mt_append pins s q H _ _ v us Q I rx rs ⟨a, xs, u, rfl, rfl, e2, Nat.lt_of_lt_of_le (by omega) LIM_line, k _ _ (Live.plain ?_ rfl)⟩
      refine Live.write (ws := ws0) (us := ws0 ++ [w]) (xs := xs ++ [u]) ?_ (by rw [List.length_append, List.length_append, e3]; rfl)
      rw [ims_append e3]
      refine hh.perm ?_
      show (ims ws0 xs ++ ((M.ls ws0, V.ref a) :: (M.im w, u) :: l)).Perm ((ims ws0 xs ++ [(M.im w, u)]) ++ ((M.ls ws0, V.ref a) :: l))
      rw [List.append_assoc]
      exact List.Perm.append_left _ (List.Perm.swap _ _ _)
    case isFalse => cases he
  all_goals first | (cases he; done) | (rename_i e; cases e; done)
theorem mu_extend : MtR X "list.extend" (rMu T .extend) := by
  intro pins s q H vx vs v us Q I rx rs h
  obtain ⟨x, ws, l, n, x', hl, hv, he, k⟩ := h
  unfold mutW at he
  split at he
  case h_2 ws0 us0 e =>
    split at he
    case isTrue hz =>
      cases he
      obtain ⟨u, rfl⟩ := one_v hl
      have hv' : Live T H ((.im (.lst us0), u) :: (.ls ws0, vx) :: l) := hv
      obtain ⟨b, ys, f1, f2, f3, hy⟩ := hv'.openL
      have hy2 : Live T H ((.ls ws0, vx) :: (ims us0 ys ++ l)) := by
        have := (hy.perm List.perm_middle).tail
        exact this.perm List.perm_middle
      obtain ⟨a, xs, e1, e2, e3, hh⟩ := hy2.openO
      subst e1 f1
      refine mt_extend pins s q H _ _ v us Q I rx rs ⟨a, b, xs, ys, rfl, rfl, e2, f2, small_line (by omega), k _ _ (Live.plain ?_ rfl)⟩
      refine Live.write (ws := ws0) (us := ws0 ++ us0) (xs := xs ++ ys) ?_ (by rw [List.length_append, List.length_append, e3, f3])
      rw [ims_append e3]
      refine hh.perm ?_
      rw [List.append_assoc]
      exact List.Perm.append_left _ List.perm_middle.symm
    case isFalse => cases he
  all_goals first | (cases he; done) | (rename_i e; cases e; done)
theorem dropLast_ims : ∀ {ws : List W} {vs : List V} {T : Tb} {F : Hp}, RepWs T F ws vs → RepWs T F ws.dropLast vs.dropLast := fun {ws vs T F} r => by
  rw [List.dropLast_eq_take, List.dropLast_eq_take, r.len]
  exact r.take _
theorem mu_pop : MtR X "list.pop" (rMu T .pop) := by
  intro pins s q H vx vs v us Q I rx rs h
  obtain ⟨x, ws, l, n, x', hl, hv, he, k⟩ := h
  unfold mutW at he
  split at he
  case h_3 ws0 e =>
    split at he
    · rename_i w hw
      cases he
      have e0 : vs = [] := List.eq_nil_of_length_eq_zero hl
      subst e0
      have hv' : Live T H ((.ls ws0, vx) :: l) := hv
      obtain ⟨a, xs, e1, e2, e3, hh⟩ := hv'.openO
      subst e1
      have hj : xs.length - 1 < xs.length := by
        rw [e3]; exact (List.getElem?_eq_some_iff.mp hw).1
      refine mt_pop pins s q H _ _ v us Q I rx rs ⟨a, xs, xs[xs.length - 1], rfl, rfl, e2, List.getElem?_eq_getElem hj, k _ _ ?_⟩
      obtain ⟨F, fp, s', kk⟩ := hh
      obtain ⟨r, kk'⟩ := LV.ims_split e3 kk
      obtain ⟨y, hy, ry⟩ := r.get hw
      rw [← e3, List.getElem?_eq_getElem hj] at hy
      cases hy
      have l1 : Live T H (ims ws0.dropLast xs.dropLast ++ ((.ls ws0, .ref a) :: ((.im w, xs[xs.length - 1]) :: l))) := by
        refine Live.perm (l := ims ws0.dropLast xs.dropLast ++ ((.im w, xs[xs.length - 1]) :: (.ls ws0, .ref a) :: l)) ⟨F, fp, s', LV.ims_join (dropLast_ims r) (LV.ims_join (ws := [w]) (vs := [xs[xs.length - 1]]) (RepWs.one ry) kk')⟩ ?_
        exact List.Perm.append_left _ (List.Perm.swap _ _ _)
      exact swap2 (l1.write (by simp [e3]))
    · cases he
  all_goals first | (cases he; done) | (rename_i e; cases e; done)
theorem mu_reverse : MtR X "list.reverse" (rMu T .reverse) := by
  intro pins s q H vx vs v us Q I rx rs h
  obtain ⟨x, ws, l, n, x', hl, hv, he, k⟩ := h
  unfold mutW at he
  split at he
  case h_4 ws0 e =>
    cases he
    have e0 : vs = [] := List.eq_nil_of_length_eq_zero hl
    subst e0
    have hv' : Live T H ((.ls ws0, vx) :: l) := hv
    obtain ⟨a, xs, e1, e2, e3, hh⟩ := hv'.openO
    subst e1
    refine mt_reverse pins s q H _ _ v us Q I rx rs ⟨a, xs, rfl, rfl, e2, k _ _ (Live.plain ?_ rfl)⟩
    obtain ⟨F, fp, s', kk⟩ := hh
    obtain ⟨r, kk'⟩ := LV.ims_split e3 kk
    exact Live.write (ws := ws0) ⟨F, fp, s', LV.ims_join r.reverse kk'⟩ (by simp [e3])
  all_goals first | (cases he; done) | (rename_i e; cases e; done)
theorem slot_edit {r : Env} {i : Nat} {m : M} {v : V} (c : Cons r q) (e : getM r i = some m) (hv : q[i]? = some (some v)) (l : Live T H (slots r q ++ ts)) :
    ∃ l', Live T H ((m, v) :: l') ∧ ∀ n u m' H', Live T H' ((n, u) :: (m', v) :: l') → Cons (r.set i (some m')) q ∧ Live T H' ((n, u) :: (slots (r.set i (some m')) q ++ ts)) := by
  obtain ⟨v', e1, c', l'⟩ := slot_get c e l
  rw [hv] at e1
  cases e1
  refine ⟨_, l', fun n u m' H' h' => ?_⟩
  have h2 : Live T H' ((m', v) :: (slots (r.set i none) q ++ ((n, u) :: ts))) := (swap2 h').perm (List.Perm.cons _ List.perm_middle.symm)
  obtain ⟨c3, l3⟩ := slot_back c (getM_lt e) hv h2
  exact ⟨c3, l3.perm List.perm_middle⟩
theorem mut_rd {m : MU} {i : Nat} {xs : Es} {r : Env} {Q : VK} (c : Cons r q) (l : Live T H (slots r q ++ ts)) (k : okE T Ex q ts Q (evE h (.mut m i [] xs) r)) :
    tBM X.K "list" (rMu T m) (tVar i) (tL T Ex (evEs h xs)) q H Q := by
  unfold okE at k
  simp only [evE] at k
  split at k
  · rename_i ws0 _ e0
    obtain ⟨v, e4⟩ := getM_slot c e0
    obtain ⟨l0, h0, _⟩ := slot_look2 c e0 e4 l
    obtain ⟨a, vs, f1, f2, f3, _⟩ := h0.openO
    refine ⟨v, e4, ?_, ?_⟩
    · rw [f1]
      exact .inl ⟨rfl, _, SqL.of f2⟩
    refine seqL (tl := []) c l k fun ws r1 vs H1 c1 hl l1 k1 => ?_
    split at k1
    · rename_i y x' e5
      obtain ⟨x0, e6, e7⟩ := Option.bind_eq_some_iff.mp e5
      have l1' : Live T H1 (slots r1 q ++ (ims ws vs ++ ts)) := toMid (tl := ims ws vs) l1
      obtain ⟨l', g1, g2⟩ := slot_edit c1 e6 e4 l1'
      -- the arguments lie within l'
      obtain ⟨v'', e1'', c'', l''⟩ := slot_get c1 e6 l1'
      rw [e4] at e1''
      cases e1''
      refine ⟨x0, ws, slots (r1.set i none) q ++ ts, y, x', hl, ?_, e7, fun v' H' hl' => ?_⟩
      · refine l''.perm ?_
        refine List.Perm.trans ?_ List.perm_middle.symm
        refine List.Perm.cons _ ?_
        rw [← List.append_assoc, ← List.append_assoc]
        exact List.perm_append_comm.append_right ts
      · have h2 : Live T H' ((x', v) :: (slots (r1.set i none) q ++ ((y, v') :: ts))) := (swap2 hl').perm (List.Perm.cons _ List.perm_middle.symm)
        obtain ⟨c3, l3⟩ := slot_back c1 (getM_lt e6) e4 h2
        exact k1 _ _ c3 (l3.perm List.perm_middle)
    · exact False.elim k1
  · exact False.elim k
end
end Dn
-- Dn10
set_option maxRecDepth 100000
set_option maxHeartbeats 1000000
/-! Calls of the text's own defs. -/
namespace Dn
open PySem PySem.Spec PyProof.Rows L2

/-- the arguments' V's: a lent slot's own, a value's -/
inductive AV (q : L2.St) : List (Nat ⊕ M) → List V → Prop
  | nil : AV q [] []
  | inl {i : Nat} {v : V} {l : List (Nat ⊕ M)} {vs : List V} : q[i]? = some (some v) → AV q l vs → AV q (.inl i :: l) (v :: vs)
  | inr {m : M} {v : V} {l : List (Nat ⊕ M)} {vs : List V} : AV q l vs → AV q (.inr m :: l) (v :: vs)
/-- the values among them -/
def tmp : List (Nat ⊕ M) → List V → List (M × V)
  | .inl _ :: l, _ :: vs => tmp l vs
  | .inr m :: l, v :: vs => (m, v) :: tmp l vs
  | _, _ => []
def tA (T : Tb) (Ex : WX) (d : Env → R (List (Nat ⊕ M))) : TA := fun q H Q => ∃ r ts, Cons r q ∧ Live T H (slots r q ++ ts) ∧
  okR T Ex q ts (fun l r => ∀ vs H, Cons r q → AV q l vs → Live T H (tmp l vs ++ (slots r q ++ ts)) → Q vs H) (d r)
/-- the lent slots, empty meanwhile -/
def rmv : List Nat → Env → Env
  | [], r => r
  | i :: is, r => rmv is (r.set i none)
def lkP (lock : List Nat) : Nat → List M → List V → List (M × V)
  | j, m :: ms, v :: vs => if j ∈ lock then (m, v) :: lkP lock (j + 1) ms vs else lkP lock (j + 1) ms vs
  | _, _, _ => []
/-- a lent slot stands where the def changes its parameter -/
def lentOk (lock : List Nat) : Nat → List (Nat ⊕ M) → Prop
  | _, [] => True
  | j, .inl _ :: l => j ∈ lock ∧ lentOk lock (j + 1) l
  | j, .inr _ :: l => lentOk lock (j + 1) l
section
variable {T : Tb} {Ex : WX} {q : L2.St} {ts tl : List (M × V)} {X : Cx} {e a b c : Expr} {es rest : List Expr} {pos p p2 : Pos} {H : Hp} {h : Th} {x : Str}
theorem rmv_cons : ∀ {is : List Nat} {r : Env}, Cons r q → Cons (rmv is r) q
  | [], _, c => c
  | i :: is, r, c => rmv_cons (is := is) (slots_none (i := i) c).choose_spec.2
theorem rmv_set : ∀ {is : List Nat} {r : Env} {i : Nat} {o : Option M}, i ∉ is → rmv is (r.set i o) = (rmv is r).set i o
  | [], _, _, _, _ => rfl
  | j :: is, r, i, o, h => by
    have h1 : i ≠ j := fun z => h (by simp [z])
    have h2 : i ∉ is := fun z => h (by simp [z])
    show rmv is ((r.set i o).set j none) = (rmv is (r.set j none)).set i o
    rw [List.set_comm _ _ h1, rmv_set h2]
theorem getM_set_ne {r : Env} {i j : Nat} {o : Option M} (h : i ≠ j) : getM (r.set i o) j = getM r j := by
  unfold getM
  rw [List.getElem?_set_ne h]
theorem fill_set : ∀ {l : List (Nat ⊕ M)} {r : Env} {i : Nat} {o : Option M}, i ∉ borL l → fillA (r.set i o) l = fillA r l
  | [], _, _, _, _ => rfl
  | .inl j :: l, r, i, o, h => by
    have h1 : i ≠ j := fun z => h (by simp [z, borL])
    have h2 : i ∉ borL l := fun z => h (by simp [z, borL])
    simp only [fillA, getM_set_ne h1, fill_set h2]
  | .inr m :: l, r, i, o, h => by
    have h2 : i ∉ borL l := h
    simp only [fillA, fill_set h2]
theorem perm_2 {α : Type} (a : α) (x y : List α) : (x ++ a :: y).Perm (a :: (x ++ y)) := List.perm_middle
/-- the arguments as the callee gets them -/
theorem fill_ok : ∀ {l : List (Nat ⊕ M)} {vs : List V} {r : Env} {ms : List M} {ts : List (M × V)}, Cons r q → AV q l vs → fillA r l = some ms → (borL l).Nodup → Live T H (tmp l vs ++ (slots r q ++ ts)) →
    Live T H (ms.zip vs ++ (slots (rmv (borL l) r) q ++ ts)) ∧ vs.length = ms.length
  | [], _, r, ms, ts, c, .nil, e, _, hl => by
    cases e
    exact ⟨hl, rfl⟩
  | .inl i :: l, _, r, ms, ts, c, .inl (v := v) (vs := vs) hv av, e, nd, hl => by
    unfold fillA at e
    split at e
    · rename_i m ms' e1 e2
      cases e
      have nd' : i ∉ borL l ∧ (borL l).Nodup := List.nodup_cons.mp nd
      have hl' : Live T H (slots r q ++ (tmp l vs ++ ts)) := toMid (tl := tmp l vs) hl
      obtain ⟨v', f1, c', l'⟩ := slot_get c e1 hl'
      rw [hv] at f1
      cases f1
      have hl2 : Live T H (tmp l vs ++ (slots (r.set i none) q ++ ((m, v) :: ts))) := by
        refine l'.perm ?_
        refine List.Perm.symm (List.Perm.trans ?_ (List.Perm.cons _ (List.Perm.refl _)))
        refine List.Perm.trans (List.Perm.append_left _ List.perm_middle) ?_
        refine List.Perm.trans List.perm_middle ?_
        refine List.Perm.cons _ ?_
        rw [← List.append_assoc, ← List.append_assoc]
        exact List.perm_append_comm.append_right ts
      have e2' : fillA (r.set i none) l = some ms' := (fill_set nd'.1).trans e2
      obtain ⟨g1, g2⟩ := fill_ok c' av e2' nd'.2 hl2
      refine ⟨?_, by simp [g2]⟩
      show Live T H ((m, v) :: (ms'.zip vs ++ (slots (rmv (borL l) (r.set i none)) q ++ ts)))
      refine g1.perm ?_
      refine List.Perm.trans (List.Perm.append_left _ List.perm_middle) ?_
      exact List.perm_middle
    · cases e
  | .inr m :: l, _, r, ms, ts, c, .inr (v := v) (vs := vs) av, e, nd, hl => by
    unfold fillA at e
    split at e
    · rename_i ms' e2
      cases e
      have hl' : Live T H (tmp l vs ++ (slots r q ++ ((m, v) :: ts))) := by
        have h0 : Live T H ((m, v) :: (tmp l vs ++ (slots r q ++ ts))) := hl
        refine h0.perm (List.Perm.symm ?_)
        refine List.Perm.trans (List.Perm.append_left _ List.perm_middle) ?_
        exact List.perm_middle
      obtain ⟨g1, g2⟩ := fill_ok c av e2 nd hl'
      refine ⟨?_, by simp [g2]⟩
      show Live T H ((m, v) :: (ms'.zip vs ++ (slots (rmv (borL l) r) q ++ ts)))
      refine g1.perm ?_
      refine List.Perm.trans (List.Perm.append_left _ List.perm_middle) ?_
      exact List.perm_middle
    · cases e
theorem borL_lt : ∀ {l : List (Nat ⊕ M)} {vs : List V}, AV q l vs → ∀ i ∈ borL l, i < q.length
  | [], _, .nil, i, h => by simp [borL] at h
  | .inl j :: l, _, .inl hv av, i, h => by
    rcases List.mem_cons.mp (show i ∈ j :: borL l from h) with e | h
    · subst e; exact (List.getElem?_eq_some_iff.mp hv).1
    · exact borL_lt av i h
  | .inr m :: l, _, .inr av, i, h => borL_lt av i h
theorem rmv_len : ∀ {is : List Nat} {r : Env}, (rmv is r).length = r.length
  | [], _ => rfl
  | i :: is, r => by
    show (rmv is (r.set i none)).length = _
    rw [rmv_len, List.length_set]
theorem backA_len : ∀ {l : List (Nat ⊕ M)} {ms : List M} {r : Env}, (backA r l ms).length = r.length
  | [], _, _ => by simp [backA]
  | .inl _ :: l, [], _ => by simp [backA]
  | .inr _ :: l, [], _ => by simp [backA]
  | .inl i :: l, m :: ms, r => by simp [backA, backA_len]
  | .inr _ :: l, m :: ms, r => by simp [backA, backA_len]
theorem backA_set : ∀ {l : List (Nat ⊕ M)} {ms : List M} {r : Env} {i : Nat} {o : Option M}, i ∉ borL l → backA (r.set i o) l ms = (backA r l ms).set i o
  | [], _, _, _, _, _ => by simp [backA]
  | .inl _ :: l, [], _, _, _, _ => by simp [backA]
  | .inr _ :: l, [], _, _, _, _ => by simp [backA]
  | .inl j :: l, m :: ms, r, i, o, h => by
    have h1 : i ≠ j := fun z => h (by simp [z, borL])
    have h2 : i ∉ borL l := fun z => h (by simp [z, borL])
    simp only [backA, backA_set h2]
    rw [List.set_comm _ _ (Ne.symm h1)]
  | .inr j :: l, m :: ms, r, i, o, h => by
    have h2 : i ∉ borL l := h
    simp only [backA, backA_set h2]
/-- what the lent slots hold behind the call -/
theorem back_ok {lock : List Nat} : ∀ {l : List (Nat ⊕ M)} {vs : List V} {r : Env} {ms : List M} {j : Nat} {tl : List (M × V)}, Cons r q → AV q l vs → ms.length = l.length → (borL l).Nodup → lentOk lock j l →
    Live T H (lkP lock j ms vs ++ (slots (rmv (borL l) r) q ++ tl)) → Cons (backA r l ms) q ∧ Live T H (slots (backA r l ms) q ++ tl)
  | [], _, r, ms, j, tl, c, .nil, hm, _, _, hl => by
    have : ms = [] := List.eq_nil_of_length_eq_zero hm
    subst this
    exact ⟨c, hl⟩
  | .inl i :: l, _, r, [], j, tl, c, _, hm, _, _, _ => by simp at hm
  | .inr _ :: l, _, r, [], j, tl, c, _, hm, _, _, _ => by simp at hm
  | .inl i :: l, _, r, m :: ms, j, tl, c, .inl (v := v) (vs := vs) hv av, hm, nd, lo, hl => by
    have nd' : i ∉ borL l ∧ (borL l).Nodup := List.nodup_cons.mp nd
    have lo' : j ∈ lock ∧ lentOk lock (j + 1) l := lo
    have hl0 : Live T H ((if j ∈ lock then (m, v) :: lkP lock (j + 1) ms vs else lkP lock (j + 1) ms vs) ++ (slots (rmv (borL l) (r.set i none)) q ++ tl)) := hl
    rw [if_pos lo'.1] at hl0
    have c' : Cons (r.set i none) q := (slots_none (i := i) c).choose_spec.2
    have hl1 : Live T H (lkP lock (j + 1) ms vs ++ (slots (rmv (borL l) (r.set i none)) q ++ ((m, v) :: tl))) := by
      refine hl0.perm (List.Perm.symm ?_)
      refine List.Perm.trans (List.Perm.append_left _ List.perm_middle) ?_
      exact List.perm_middle
    obtain ⟨c2, l2⟩ := back_ok c' av (by simpa using hm) nd'.2 lo'.2 hl1
    rw [backA_set nd'.1] at c2 l2
    have hi : i < (backA r l ms).length := by
      rw [backA_len, c.len]; exact (List.getElem?_eq_some_iff.mp hv).1
    have l3 : Live T H ((m, v) :: (slots ((backA r l ms).set i none) q ++ tl)) := l2.perm List.perm_middle
    have hi2 : i < ((backA r l ms).set i none).length := by rw [List.length_set]; exact hi
    have e3 : ((backA r l ms).set i none).set i none = (backA r l ms).set i none := by rw [List.set_set]
    have := slot_back (r := (backA r l ms).set i none) (i := i) (m := m) (v := v) (ts := tl) (q := q) (T := T) (H := H) c2 hi2 hv (by rw [e3]; exact l3)
    rw [List.set_set] at this
    exact this
  | .inr m0 :: l, _, r, m :: ms, j, tl, c, .inr (v := v) (vs := vs) av, hm, nd, lo, hl => by
    have hl0 : Live T H ((if j ∈ lock then (m, v) :: lkP lock (j + 1) ms vs else lkP lock (j + 1) ms vs) ++ (slots (rmv (borL l) r) q ++ tl)) := hl
    have hl1 : Live T H (lkP lock (j + 1) ms vs ++ (slots (rmv (borL l) r) q ++ tl)) := by
      by_cases hj : j ∈ lock
      · rw [if_pos hj] at hl0; exact hl0.tail
      · rw [if_neg hj] at hl0; exact hl0
    have z := back_ok (l := l) (ms := ms) c av (by simpa using hm) nd lo hl1
    exact z
end

/-! ### promises -/
/-- what a def's promise is: its meaning -/
def spF (T : Tb) (G : Pg) (n f : Nat) : Sp := fun vs H Q E => ∃ d ms ts, G.fd f = some d ∧ ms.length = d.many ∧ vs.length = ms.length ∧ Live T H (ms.zip vs ++ ts) ∧ match (G.th n).fn f ms with
  | .ok m ms' => ∀ v H', Live T H' ((m, v) :: (lkP d.lock 0 ms' vs ++ ts)) → Q v H'
  | .exc w ms' => ∀ cls dd H', ExcLive T H' w cls dd (lkP d.lock 0 ms' vs ++ ts) → E cls dd H'
  | .stuck => False
/-- values given by place and by name, in the parameters' order -/
def gK {α : Type} (np nk : Nat) (pm : List Nat) (us ws : List α) : List α := if us.length = np ∧ ws.length = nk then pmA pm (us ++ ws) else []
/-- how a def stands for its callers -/
structure Stands (P : Program) (w : World) (K : PySem.W.Frag) (mg : Str → Option Value) (base : Heap) (T : Tb) (G : Pg) (n f : Nat) (d : FD) : Prop where
  ex : ∃ (a : Addr) (fd : FuncData), T.fa f = some a ∧ mg d.name = some (.ref a) ∧ PySem.W.keepIn K (.ref a) = true ∧ Binds K fd (d.names.take d.many) [] ∧
    FnOk P w K mg base (L2.CX P w) n a fd (d.names.take d.many) (spF T G n f) ∧
    ∀ np ks pm, (np, ks, pm) ∈ d.kw → KBinds K fd (d.names.take d.many) ks (gK np ks.length pm) (gK np ks.length pm)
def bltNames : List Str := ["len", "abs", "max", "min", "sum", "all", "any", "tuple", "list", "sorted", "int", "str", "repr", "range", "enumerate", "zip", "reversed", "set", "isinstance", "bool", "ValueError", "LookupError", "RuntimeError", "OverflowError", "IndexError", "KeyError"]
def excNames : List String := ["ValueError", "LookupError", "RuntimeError", "OverflowError", "IndexError", "KeyError"]
/-- the module's constants stand -/
def GlsOk (mg : Str → Option Value) (l : List (Str × W)) : Prop := ∀ x w, memC x w l = true → ∃ v u, mg x = some u ∧ RelV v u ∧ Plain w v
def baN : BS → String
  | .V => "ValueError" | .L => "LookupError" | .R => "RuntimeError" | .O => "OverflowError"
def baNew : BS → String
  | .V => "ValueError.__new__" | .L => "LookupError.__new__" | .R => "RuntimeError.__new__" | .O => "OverflowError.__new__"
def baInit : BS → String
  | .V => "ValueError.__init__" | .L => "LookupError.__init__" | .R => "RuntimeError.__init__" | .O => "OverflowError.__init__"
def baTl : BS → List Value
  | .V => [.type "ValueError", .type "Exception", .type "BaseException", .type "object"]
  | .L => [.type "LookupError", .type "Exception", .type "BaseException", .type "object"]
  | .R => [.type "RuntimeError", .type "Exception", .type "BaseException", .type "object"]
  | .O => [.type "OverflowError", .type "ArithmeticError", .type "Exception", .type "BaseException", .type "object"]
theorem ba_of : ∀ b : BS, Bas (baN b) (baNew b) (baInit b) (baTl b)
  | .V => bas_V
  | .L => bas_L
  | .R => bas_R
  | .O => bas_O
/-- how an own exception class stands -/
structure ClsOk (P : Program) (w : World) (K : PySem.W.Frag) (mg : Str → Option Value) (base : Heap) (T : Tb) (c : Nat) (d : CD) : Prop where
  ex : ∃ (C : Addr) (q : Str) (N : Addr) (bs : List Value) (sn : List Str) (sub : List Value) (ab : Bool) (col : Option Bool) (dd : Option Addr) (k0 k1 k2 k3 k5 : Option Value), T.ca c = some C ∧ mg d.name = some (.ref C) ∧ K.lookup C = some (excClassObj d.name q C N bs (baTl d.base) true sn sub ab col dd k0 k1 k2 k3 k5 (baNew d.base)) ∧
    PySem.W.keepIn K (.ref C) = true ∧ PySem.W.findIn K (.ref C) "__setattr__" = some (some (.builtin "object.__setattr__")) ∧
    PySem.W.findIn K (.ref C) "__getattribute__" = some (some (.builtin "BaseException.__getattribute__")) ∧ PySem.W.findIn K (.ref C) "__getattr__" = some none ∧ PySem.W.findIn K (.ref C) "__class__" = some (some (.builtin "object.__class__")) ∧
    PySem.W.specialIn K (.builtin "object.__class__") "__get__" = some (some (.builtin "getset_descriptor.__get__")) ∧ PySem.W.takesIn K (.builtin "object.__class__") = some true ∧
    ((d.fs = [] ∧ PySem.W.excIn K C (baTl d.base) (baNew d.base) = true) ∨
      ∃ (f : Str) (fI : Addr) (fd : FuncData), d.fs = [f] ∧ PySem.W.findIn K (.ref C) f = some none ∧ PySem.W.findIn K (.ref C) "__init__" = some (some (.ref fI)) ∧ PySem.W.typeIn K (.ref fI) = some (.type "function") ∧
        FnOk P w K mg base (L2.CX P w) 1 fI fd ["self", f] (initSp K (baTl d.base) (baNew d.base) f) ∧ Binds K fd ["self", f] [])
/-- a def's body at work -/
structure At (X : Cx) (T : Tb) (G : Pg) (n : Nat) (Ex : WX) : Prop where
  hK : X.K = T.K
  nd : X.N.Nodup
  rm : Room n X.A
  tk : Takes X Ex
  calm : X.calm = true
  fns : ∀ f d, G.fd f = some d → Stands X.prog X.w X.K X.mg X.base T G n f d
  bl : ∀ x ∈ bltNames, X.mg x = none
  gls : GlsOk X.mg G.gl
  pa : PassesOwn (model X.prog X.w) X.A X.env X.xe
  cls : ∀ c d, lkC G.cl c = some d → ClsOk X.prog X.w X.K X.mg X.base T c d
  cln : ∀ p ∈ G.cl, lkC G.cl p.1 = some p.2
  fad : ∀ f a, T.fa f = some a → ∃ d, G.fd f = some d
section
variable {T : Tb} {G : Pg} {n : Nat} {Ex : WX} {q : L2.St} {ts tl : List (M × V)} {X : Cx} {e a b c : Expr} {es rest : List Expr} {pos p p2 : Pos} {H : Hp} {h : Th} {x : Str}
theorem At.hu (A : At X T G n Ex) : X.A.units + 65 < cLine := by
  have := A.rm.un
  omega
theorem fn_len {f : Nat} {ms ms' : List M} {d : FD} {m : M} (hd : G.fd f = some d) (e : (G.th n).fn f ms = .ok m ms') : ms.length = d.many := by
  cases n with
  | zero => cases e
  | succ n =>
    simp only [Pg.th, hd] at e
    unfold runF at e
    split at e
    · assumption
    · cases e
theorem argsOf_len {lock : List Nat} : ∀ {n i : Nat} {r : Env} {ms : List M}, argsOf lock n i r = some ms → ms.length = n
  | 0, _, _, _, h => by cases h; rfl
  | n + 1, i, r, ms, h => by
    unfold argsOf at h
    split at h
    · rename_i ms' e
      have ih := argsOf_len e
      split at h
      · split at h
        · cases h; simp [ih]
        · cases h
      · cases h; simp [ih]
    · cases h
theorem runF_len {d : FD} {ms ms' : List M} {h : Th} : (∀ m, runF h d ms = .ok m ms' → ms.length = d.many ∧ ms'.length = d.many) ∧ ∀ w, runF h d ms = .exc w ms' → ms.length = d.many ∧ ms'.length = d.many := by
  refine ⟨fun m e => ?_, fun m e => ?_⟩
  all_goals
    unfold runF at e
    by_cases hl : ms.length = d.many
    · refine ⟨hl, ?_⟩
      rw [if_pos hl] at e
      generalize evSs h d.body (ms.map some ++ List.replicate (d.names.length - d.many) none) = z at e
      cases z with
      | ok f r =>
        cases f with
        | bk => cases e
        | nx =>
          cases e2 : argsOf d.lock d.many 0 r with
          | none => (simp only [e2] at e) <;> cases e
          | some as => (simp only [e2] at e) <;> (cases e <;> exact argsOf_len e2)
        | ret m0 =>
          cases e2 : argsOf d.lock d.many 0 r with
          | none => (simp only [e2] at e) <;> cases e
          | some as => (simp only [e2] at e) <;> (cases e <;> exact argsOf_len e2)
      | exc w0 r =>
        cases e2 : argsOf d.lock d.many 0 r with
        | none => (simp only [e2] at e) <;> cases e
        | some as => (simp only [e2] at e) <;> (cases e <;> exact argsOf_len e2)
      | stuck => cases e
    · rw [if_neg hl] at e
      cases e
theorem fn_some {f : Nat} {ms : List M} (e : (G.th n).fn f ms ≠ .stuck) : ∃ d, G.fd f = some d := by
  cases n with
  | zero => exact absurd rfl e
  | succ n =>
    cases hd : G.fd f with
    | some d => exact ⟨d, rfl⟩
    | none => simp [Pg.th, hd] at e
theorem fn_run {f : Nat} {d : FD} {ms : List M} (hd : G.fd f = some d) (e : (G.th n).fn f ms ≠ .stuck) : ∃ h, (G.th n).fn f ms = runF h d ms := by
  cases n with
  | zero => exact absurd rfl e
  | succ n => exact ⟨G.th n, by simp [Pg.th, hd]⟩
/-- a call's meaning gives what the def's promise asks -/
theorem call_rd {f : Nat} {d : FD} {l : List (Nat ⊕ M)} {vs : List V} {r : Env} {S : M → Env → Prop} {Q : VK} (hd : G.fd f = some d) (c : Cons r q) (av : AV q l vs) (lo : lentOk d.lock 0 l) (hl : Live T H (tmp l vs ++ (slots r q ++ ts)))
    (k : okR T Ex q ts S (callA ((G.th n).fn f) l r)) (hS : ∀ m r', S m r' → ∀ v H', Cons r' q → Live T H' ((m, v) :: (slots r' q ++ ts)) → Q v H') : spF T G n f vs H Q (fun cls d H => Ex cls d q H) := by
  unfold callA at k
  split at k
  · rename_i nd
    split at k
    · rename_i ms e1
      obtain ⟨g1, g2⟩ := fill_ok c av e1 nd hl
      have lms : ms.length = l.length := by
        rw [← g2]
        clear k hl g1 g2 lo nd e1
        induction av with
        | nil => rfl
        | inl _ _ ih => simp [ih]
        | inr _ ih => simp [ih]
      split at k
      · rename_i m ms' e2
        obtain ⟨h', e3⟩ := fn_run hd (by rw [e2]; simp)
        rw [e3] at e2
        obtain ⟨k1, k2⟩ := runF_len.1 m e2
        refine ⟨d, ms, _, hd, k1, g2, g1, ?_⟩
        rw [e3, e2]
        intro v H' hv
        have hv2 : Live T H' (lkP d.lock 0 ms' vs ++ (slots (rmv (borL l) r) q ++ ((m, v) :: ts))) := by
          refine hv.perm (List.Perm.symm ?_)
          refine List.Perm.trans (List.Perm.append_left _ List.perm_middle) ?_
          exact List.perm_middle
        obtain ⟨c2, l2⟩ := back_ok c av (by rw [k2, ← k1, lms]) nd lo hv2
        exact hS _ _ k v H' c2 (l2.perm List.perm_middle)
      · rename_i w ms' e2
        obtain ⟨h', e3⟩ := fn_run hd (by rw [e2]; simp)
        rw [e3] at e2
        obtain ⟨k1, k2⟩ := runF_len.2 w e2
        refine ⟨d, ms, _, hd, k1, g2, g1, ?_⟩
        rw [e3, e2]
        intro cls dd H' hv
        have fin : ∀ kk : List (M × V), Live T H' (kk ++ (lkP d.lock 0 ms' vs ++ (slots (rmv (borL l) r) q ++ ts))) → Cons (backA r l ms') q ∧ Live T H' (kk ++ (slots (backA r l ms') q ++ ts)) := fun kk hk => by
          have hk2 : Live T H' (lkP d.lock 0 ms' vs ++ (slots (rmv (borL l) r) q ++ (kk ++ ts))) := by
            have h1 : Live T H' (kk ++ ((lkP d.lock 0 ms' vs ++ slots (rmv (borL l) r) q) ++ ts)) := by rw [List.append_assoc]; exact hk
            have h2 := toMid (tl := kk) h1
            rw [List.append_assoc] at h2
            exact h2
          obtain ⟨c2, l2⟩ := back_ok c av (by rw [k2, ← k1, lms]) nd lo hk2
          exact ⟨c2, toFront l2⟩
        have c2 : Cons (backA r l ms') q := by
          cases w with
          | exc cc ns ws =>
            obtain ⟨C, _, _, hh | ⟨dd, us, _, _, _, _, hh⟩⟩ := hv
            · exact (fin [] hh.2.2.2).1
            · exact (fin _ hh).1
          | _ => exact False.elim hv
        exact k cls dd H' c2 (hv.less fun kk hk => (fin kk hk).2)
      · exact False.elim k
    · exact False.elim k
  · exact False.elim k
/-- f(e, ..) -/
theorem se_call {f : Nat} {d : FD} {xs : As} (A : At X T G n Ex) (hd : G.fd f = some d) (hg : Gl X d.name) (hdb : (d.name == ("__debug__" : Str)) = false) (ns : (a :: es).all noStar = true)
    (lo : ∀ r l r', evA (G.th n) xs r = .ok l r' → lentOk d.lock 0 l) (ha : PA X (a :: es) (tA T Ex (evA (G.th n) xs))) : PE X (.Call (.Name d.name p) (a :: es) [] pos) (tE T Ex (evE (G.th n) (.call f xs))) := by
  obtain ⟨ad, fd, h1, h2, h3, h4, F, _⟩ := (A.fns f d hd).ex
  have ns2 : noStar a = true ∧ es.all noStar = true := by simpa using ns
  refine pe_imp (pe_callS F A.rm hg h2 h3 h4 (fun σ => passAt A.tk σ) ha hdb (star_head ns2.1 _) (stars_plain ns2.2 _)) fun q H Q ⟨r, ts, c, l, k⟩ => ?_
  unfold okE at k
  simp only [evE] at k
  refine ⟨r, ts, c, l, ?_⟩
  have k' := okR.bind k
  cases e : evA (G.th n) xs r with
  | ok al r1 =>
    rw [e] at k'
    intro vs H1 c1 av l1
    exact call_rd hd c1 av (lo _ _ _ e) l1 k' fun m r' hS => hS
  | exc w r1 => rw [e] at k'; exact k'
  | stuck => rw [e] at k'; exact k'
theorem aa_nil : PA X [] (tA T Ex (evA h .nil)) := pa_imp pa_nil fun q H Q ⟨r, ts, c, l, k⟩ => by
  simp only [evA] at k
  exact k [] H c .nil l
theorem seqA {α : Type} {d : Env → R (List (Nat ⊕ M))} {k : List (Nat ⊕ M) → Env → R α} {S : α → Env → Prop} {r : Env} (c : Cons r q) (l : Live T H (tl ++ (slots r q ++ ts))) (h : okR T Ex q ts S ((d r).bind k)) {Q' : List V → Hp → Prop}
    (n : ∀ ws r' vs H', Cons r' q → AV q ws vs → Live T H' (tmp ws vs ++ (tl ++ (slots r' q ++ ts))) → okR T Ex q ts S (k ws r') → Q' vs H') : tA T Ex d q H Q' := by
  refine ⟨r, tl ++ ts, c, toMid l, okR.moreL ((okR.bind h).imp fun ws r' h' vs H' c' hl l' => n ws r' vs H' c' hl ?_ h')⟩
  rw [← List.append_assoc] at l'
  refine (toFront l').perm ?_
  rw [← List.append_assoc, ← List.append_assoc]
  refine List.Perm.trans ?_ (List.Perm.of_eq (List.append_assoc _ _ _))
  rw [← List.append_assoc]
  exact (List.perm_append_comm.append_right _).append_right _
theorem aa_val {y : E} {xs : As} (ns : noStar a = true) (ha : PE X a (tE T Ex (evE h y))) (hr : PA X es (tA T Ex (evA h xs))) : PA X (a :: es) (tA T Ex (evA h (.val y xs))) := by
  refine pa_imp (pa_cons ha hr (star_head ns X.env)) fun q H Q ⟨r, ts, c, l, k⟩ => ?_
  simp only [evA] at k
  refine seqE (tl := []) c l k fun m r1 v H1 c1 l1 k1 => ?_
  refine seqA (tl := [(m, v)]) c1 l1 k1 fun ws r2 vs H2 c2 hl l2 k2 => ?_
  exact k2 (v :: vs) H2 c2 (.inr hl) (l2.perm List.perm_middle)
end
end Dn
-- Dn11
set_option maxRecDepth 100000
set_option maxHeartbeats 1000000
/-! Targets, what is walked, loops, comprehensions. -/
namespace Dn
open PySem PySem.Spec PyProof.Rows L2

/-- the locked slots hold what they held -/
def Lk (lk : Nat → Prop) (q q' : L2.St) : Prop := ∀ i, lk i → q'[i]? = q[i]?
theorem Lk.refl {lk : Nat → Prop} {q : L2.St} : Lk lk q q := fun _ _ => rfl
theorem Lk.trans {lk : Nat → Prop} {q q1 q2 : L2.St} (a : Lk lk q q1) (b : Lk lk q1 q2) : Lk lk q q2 := fun i h => (b i h).trans (a i h)
/-- a target's meaning -/
def tTg (T : Tb) (lk : Nat → Prop) (t : Dn.T) : TG := fun v q H Q => ∃ w r ts r', Cons r q ∧ Live T H ((.im w, v) :: (slots r q ++ ts)) ∧ bindT t w r = some r' ∧
  ∀ q', Cons r' q' → Lk lk q q' → Live T H (slots r' q' ++ ts) → Q q' H
def tTgs (T : Tb) (lk : Nat → Prop) (t : List Dn.T) : TGs := fun vs q H Q => ∃ ws r ts r', Cons r q ∧ vs.length = ws.length ∧ Live T H (ims ws vs ++ (slots r q ++ ts)) ∧ bindTs t ws r = some r' ∧
  ∀ q', Cons r' q' → Lk lk q q' → Live T H (slots r' q' ++ ts) → Q q' H
section
variable {Tb0 : Tb} {lk : Nat → Prop} {X : Cx} {e : Expr} {es : List Expr} {pos : Pos} {q : L2.St} {H : Hp} {ts tl : List (M × V)}
theorem pg_imp {e : Expr} {t t' : TG} (h : PG X e t) (i : ∀ v q H Q, t' v q H Q → t v q H Q) : PG X e t' := ⟨fun pins s q H v u Q I r w => h.run pins s q H v u Q I r (i v q H Q w)⟩
theorem pgs_imp {e : List Expr} {t t' : TGs} (h : PGs X e t) (i : ∀ v q H Q, t' v q H Q → t v q H Q) : PGs X e t' := ⟨fun pins s q H v u Q I r w => h.run pins s q H v u Q I r (i v q H Q w)⟩
theorem pg_or {e : Expr} {t t' : TG} (h : PG X e t) (h' : PG X e t') : PG X e (fun v q H Q => t v q H Q ∨ t' v q H Q) := ⟨fun pins s q H v u Q I r w => by
  rcases w with w | w
  · exact h.run pins s q H v u Q I r w
  · exact h'.run pins s q H v u Q I r w⟩
/-- a slot is filled -/
theorem slot_fill {r : Env} {i : Nat} {m : M} {v : V} (c : Cons r q) (l : Live Tb0 H ((m, v) :: (slots r q ++ ts))) : Cons (r.set i (some m)) (q.set i (some v)) ∧ Live Tb0 H (slots (r.set i (some m)) (q.set i (some v)) ++ ts) := by
  by_cases hi : i < r.length
  · exact slot_put c hi l
  · rw [List.set_eq_of_length_le (by omega), List.set_eq_of_length_le (by rw [← c.len]; omega)]
    exact ⟨c, l.tail⟩
theorem lk_set {i : Nat} {o : Option V} (h : ¬ lk i) : Lk lk q (q.set i o) := fun j hj => by
  rw [List.getElem?_set_ne]
  rintro rfl
  exact h hj
theorem sg_nm {i : Nat} {x : Str} (hN : X.N.Nodup) (hi : X.N[i]? = some x) (hx : Loc X.env.scope x) (hf : X.fn x = true ∨ X.env.scope.names.lookup x = some .local) (hl : ¬ lk i) : PG X (.Name x pos) (tTg Tb0 lk (.nm i)) :=
  pg_imp (pg_name hN hi hx hf) fun v q H Q ⟨w, r, ts, r', c, l, e, k⟩ => by
    cases e
    obtain ⟨c2, l2⟩ := slot_fill (i := i) c l
    exact k _ c2 (lk_set hl) l2
theorem sgs_nil : PGs X [] (tTgs Tb0 lk []) := pgs_imp pgs_nil fun vs q H Q ⟨ws, r, ts, r', c, hl, l, e, k⟩ => by
  cases ws with
  | nil =>
    cases e
    have : vs = [] := List.eq_nil_of_length_eq_zero hl
    subst this
    exact ⟨rfl, k _ c Lk.refl l⟩
  | cons _ _ => cases e
theorem assign_heads (env : PySem.Env) : ∀ e es, (∀ x p, e ≠ .Starred x p) → (assignEach (e :: es) env).map (·.2) = assign e env :: (assignEach es env).map (·.2) := by
  intro e es h
  cases e <;> first | rfl | exact absurd rfl (h _ _)
theorem sgs_cons {t : Dn.T} {us : List Dn.T} (h1 : PG X e (tTg Tb0 lk t)) (h2 : PGs X es (tTgs Tb0 lk us)) (ns : noStar e = true) : PGs X (e :: es) (tTgs Tb0 lk (t :: us)) := by
  refine pgs_imp (pgs_cons h1 h2 (assign_heads _ _ _ fun x p z => by subst z; cases ns)) fun vs q H Q ⟨ws, r, ts, r', c, hl, l, e, k⟩ => ?_
  cases ws with
  | nil => cases e
  | cons w ws =>
    cases vs with
    | nil => cases hl
    | cons v vs =>
      simp only [bindTs] at e
      split at e
      · rename_i r1 e1
        refine ⟨v, vs, rfl, w, r, ims ws vs ++ ts, r1, c, ?_, e1, fun q1 c1 k1 l1 => ?_⟩
        · have l' : Live Tb0 H ((.im w, v) :: (ims ws vs ++ (slots r q ++ ts))) := l
          refine l'.perm (List.Perm.cons _ ?_)
          rw [← List.append_assoc, ← List.append_assoc]
          exact List.perm_append_comm.append_right ts
        · exact ⟨ws, r1, ts, r', c1, by simpa using hl, toFront l1, e, fun q2 c2 k2 l2 => k q2 c2 (k1.trans k2) l2⟩
      · cases e
theorem bindTs_len : ∀ {us : List Dn.T} {ws : List W} {r r' : Env}, bindTs us ws r = some r' → ws.length = us.length
  | [], [], _, _, _ => rfl
  | [], _ :: _, _, _, h => by cases h
  | _ :: _, [], _, _, h => by cases h
  | t :: us, w :: ws, r, r', h => by
    simp only [bindTs] at h
    split at h
    · simp [bindTs_len h]
    · cases h
theorem each_len (env : PySem.Env) : ∀ es : List Expr, (assignEach es env).length = es.length
  | [] => rfl
  | e :: es => by
    cases e <;> (show (assignEach es env).length + 1 = es.length + 1; rw [each_len env es])
theorem each_plain (env : PySem.Env) : ∀ es : List Expr, es.all noStar = true → (assignEach es env).findIdx? (·.1) = none
  | [], _ => rfl
  | e :: es, h => by
    simp only [List.all_cons, Bool.and_eq_true] at h
    have ih := each_plain env es h.2
    cases e <;> first | (cases h.1; done) | (simp only [assignEach, List.findIdx?_cons, ih]; rfl)
theorem sg_tp {us : List Dn.T} {k : Nat} (hK : X.K = Tb0.K) (hc : X.calm = true) (h : PGs X es (tTgs Tb0 lk us)) (ns : es.all noStar = true) (hl : es.length = us.length) : PG X (.Tuple es k pos) (tTg Tb0 lk (.tp us)) := by
  refine pg_imp (pg_or (pg_tup (n := us.length) hc h ((each_len _ _).trans hl) (each_plain _ _ ns)) (pg_unl (n := us.length) hc h ((each_len _ _).trans hl) (each_plain _ _ ns))) fun v q H Q ⟨w, r, ts, r', c, l, e, kk⟩ => ?_
  simp only [bindT] at e
  split at e
  · rename_i ws
    obtain ⟨a, vs, e1, e2, e3, hh⟩ := l.openT
    rw [← hK] at e2
    refine .inl ⟨a, vs, e1, e2, e3.trans (bindTs_len e), ws, r, ts, r', c, e3, ?_, e, kk⟩
    exact (hh.perm List.perm_middle).tail
  · rename_i ws
    obtain ⟨a, vs, e1, e2, e3, hh⟩ := l.openL
    refine .inr ⟨a, vs, e1, SqL.of e2, e3.trans (bindTs_len e), ws, r, ts, r', c, e3, ?_, e, kk⟩
    exact (hh.perm List.perm_middle).tail
  · cases e
end

/-! ### what is walked -/
/-- J gives the values ws, one behind the other, as long as src stands -/
structure Gives (T : Tb) (J : L2.It) (src : List (M × V)) (ws : List W) : Prop where
  go : ∀ i w H l, ws[i]? = some w → Live T H (src ++ l) → J.go i H
  yld : ∀ i w H l x H', ws[i]? = some w → Live T H (src ++ l) → J.yld i H x H' → Live T H' ((.im w, x) :: (src ++ l))
  stop : ∀ i H l, ws.length ≤ i → Live T H (src ++ l) → J.stop i H
def tI (T : Tb) (Ex : WX) (d : Env → R (List W)) : TI := fun q H R => ∃ r ts, Cons r q ∧ Live T H (slots r q ++ ts) ∧
  okR T Ex q ts (fun ws r' => ∀ J src H', Gives T J src ws → Cons r' q → Live T H' (src ++ (slots r' q ++ ts)) → R J H') (d r)
section
variable {T : Tb} {Ex : WX} {q : L2.St} {ts tl : List (M × V)} {X : Cx} {e a b c tg : Expr} {es rest : List Expr} {pos p p2 : Pos} {H : Hp} {h : Th} {x : Str}
theorem pi_imp {e : Expr} {t t' : TI} (h : PI X tg e t) (i : ∀ q H Q, t' q H Q → t q H Q) : PI X tg e t' := ⟨fun pins s q H Q I w => h.run pins s q H Q I (i q H Q w)⟩
/-- a list or a tuple -/
theorem pi_seq {tl : TE} (hl : PE X e tl) : PI X tg e (fun q H R => tl q H fun v H1 => ∃ ad, v = .ref ad ∧ (((∃ vs, SqL X.K H1 ad vs) ∧ R (Itl X.K ad) H1) ∨ ((∃ vs, SqT X.K H1 ad vs) ∧ R (Itt X.K ad) H1))) := by
  refine ⟨fun pins s q H R I hw => ?_⟩
  refine thn (hl.run pins s q H _ I hw) fun u s1 hu => ?_
  obtain ⟨v, H1, I1, r1, ad, e1, hq⟩ := hu
  subst e1
  have e2 : u = Value.ref ad := r1
  subst e2
  have old : ∀ (o : Obj) (b : Addr) (o' : Obj), s1.heap.get? b = some o' → (s1.heap.push o).get? b = some o' := fun o b o' z => Heap.get?_push_of_some _ z
  have fp1 : ∀ b ∈ [s1.heap.objs.size], FpOk X pins H1 b := fun b hb => by
    have z : b = s1.heap.objs.size := List.mem_singleton.mp hb
    rw [z]
    exact I1.fpOk (Nat.le_refl _) (I1.hok.fresh (Nat.le_refl _))
  rcases hq with ⟨⟨vs, hv⟩, hR⟩ | ⟨⟨vs, hv⟩, hR⟩
  · obtain ⟨its, rv, pl, _⟩ := I1.list hv
    refine wpAny_pyIter_list pl.isList ⟨s1.heap.objs.size, [s1.heap.objs.size], _, _, H1, rfl, I1.kept (t' := s1.toks) (old _), turn_list ad _, ?_, fp1, hR⟩
    exact ⟨_, Heap.get?_push_size _ rfl, rfl, rfl⟩
  · obtain ⟨its, rv, pl, _⟩ := I1.tuple hv
    refine wpAny_pyIter_tuple (show s1.heap.IsTuple ad its.toArray from pl) ⟨s1.heap.objs.size, [s1.heap.objs.size], _, _, H1, rfl, I1.kept (t' := s1.toks) (old _), turn_tuple ad _, ?_, fp1, hR⟩
    exact ⟨_, Heap.get?_push_size _ rfl, rfl, rfl⟩
theorem ims_one {w : W} {v : V} {l : List (M × V)} (h : Live T H ((.im w, v) :: l)) : Live T H ([(.im w, v)] ++ l) := h
theorem Live.pickS {ws : List W} {vs : List V} {l : List (M × V)} {w : W} {v : V} (hl : Live T H (ims ws vs ++ l)) {i : Nat} (h1 : ws[i]? = some w) (h2 : vs[i]? = some v) : Live T H ((.im w, v) :: l) := hl.pick h1 h2
theorem gives_lst {ad : Addr} {ws : List W} (hK : X.K = T.K) : Gives T (Itl X.K ad) [(.im (.lst ws), .ref ad)] ws where
  go := fun i w H l hi hl => by
    obtain ⟨a, vs, e1, e2, e3, _⟩ := Live.openL (l := l) hl
    cases e1
    have hj : i < vs.length := by rw [e3]; exact (List.getElem?_eq_some_iff.mp hi).1
    exact ⟨vs, vs[i], SqL.of e2, List.getElem?_eq_getElem hj⟩
  yld := fun i w H l x H' hi hl hy => by
    obtain ⟨a, vs, e1, e2, e3, hh⟩ := Live.openL (l := l) hl
    cases e1
    obtain ⟨rfl, hy2⟩ := hy
    exact hh.pick hi (hy2 vs (SqL.of e2))
  stop := fun i H l hi hl => by
    obtain ⟨a, vs, e1, e2, e3, _⟩ := Live.openL (l := l) hl
    cases e1
    exact ⟨vs, SqL.of e2, by rw [e3]; exact hi⟩
theorem gives_tup {ad : Addr} {ws : List W} (hK : X.K = T.K) : Gives T (Itt X.K ad) [(.im (.tup ws), .ref ad)] ws where
  go := fun i w H l hi hl => by
    obtain ⟨a, vs, e1, e2, e3, _⟩ := Live.openT (l := l) hl
    cases e1
    rw [← hK] at e2
    have hj : i < vs.length := by rw [e3]; exact (List.getElem?_eq_some_iff.mp hi).1
    exact ⟨vs, vs[i], e2, List.getElem?_eq_getElem hj⟩
  yld := fun i w H l x H' hi hl hy => by
    obtain ⟨a, vs, e1, e2, e3, hh⟩ := Live.openT (l := l) hl
    cases e1
    rw [← hK] at e2
    obtain ⟨rfl, hy2⟩ := hy
    exact hh.pick hi (hy2 vs e2)
  stop := fun i H l hi hl => by
    obtain ⟨a, vs, e1, e2, e3, _⟩ := Live.openT (l := l) hl
    cases e1
    rw [← hK] at e2
    exact ⟨vs, e2, by rw [e3]; exact hi⟩
theorem si_seq {y : E} (hK : X.K = T.K) (he : PE X e (tE T Ex (evE h y))) : PI X tg e (tI T Ex (evI h (.seq y))) := by
  refine pi_imp (pi_seq he) fun q H R ⟨r, ts, c, l, k⟩ => ?_
  simp only [evI, w_bindA] at k
  refine seqE (tl := []) c l k fun m r1 v H1 c1 l1 k1 => ?_
  obtain ⟨ws, e1, hR⟩ := ofO_ok k1
  have l2 := l1.freeze
  cases hm : m.fz with
  | lst us =>
    rw [hm] at e1 l2
    cases e1
    obtain ⟨a, vs, f1, f2, f3, _⟩ := l2.openL
    subst f1
    exact ⟨a, rfl, .inl ⟨⟨vs, SqL.of f2⟩, hR _ _ _ (gives_lst hK) c1 l2⟩⟩
  | tup us =>
    rw [hm] at e1 l2
    cases e1
    obtain ⟨a, vs, f1, f2, f3, _⟩ := l2.openT
    subst f1
    rw [← hK] at f2
    exact ⟨a, rfl, .inr ⟨⟨vs, f2⟩, hR _ _ _ (gives_tup hK) c1 l2⟩⟩
  | _ => rw [hm] at e1; cases e1
theorem upTo_get : ∀ {n : Nat} {lo : Int} {i : Nat} {w : W}, (upTo lo n)[i]? = some w → i < n ∧ w = .int (lo + i)
  | 0, _, _, _, h => by simp [upTo] at h
  | n + 1, lo, 0, w, h => by
    simp [upTo] at h
    exact ⟨by omega, by rw [← h]; simp⟩
  | n + 1, lo, i + 1, w, h => by
    obtain ⟨h1, h2⟩ := upTo_get (n := n) (lo := lo + 1) (i := i) (by simpa [upTo] using h)
    exact ⟨by omega, by rw [h2]; congr 1; omega⟩
theorem upTo_len : ∀ {n : Nat} {lo : Int}, (upTo lo n).length = n
  | 0, _ => rfl
  | n + 1, lo => by simp [upTo, upTo_len]
theorem gives_rng {lo : Int} {n : Nat} : Gives T (Itr lo n) [] (upTo lo n) where
  go := fun i w H l hi hl => (upTo_get hi).1
  yld := fun i w H l x H' hi hl hy => by
    obtain ⟨rfl, hx⟩ := hy
    rw [(upTo_get hi).2]
    exact hl.plain hx
  stop := fun i H l hi hl => by
    rw [upTo_len] at hi
    exact hi
theorem si_rng1 {y : E} (hg : Gl X "range") (hm : X.mg "range" = none) (ns : noStar a = true) (he : PE X a (tE T Ex (evE h y))) : PI X tg (.Call (.Name "range" p) [a] [] pos) (tI T Ex (evI h (.rng1 y))) := by
  refine pi_imp (pi_range1 hg hm (pa_cons he pa_nil (star_head ns _)) (star_head ns _)) fun q H R ⟨r, ts, c, l, k⟩ => ?_
  simp only [evI, int_bindA] at k
  refine seqE (tl := []) c l k fun m r1 v H1 c1 l1 k1 => ?_
  obtain ⟨n, rfl, k2⟩ := int_ok k1
  split at k2
  · rename_i hz
    exact ⟨n, by rw [l1.vint], hz.1, hz.2, k2 _ [] _ gives_rng c1 l1.tail⟩
  · exact False.elim k2
theorem si_rng2 {y z : E} (hg : Gl X "range") (hm : X.mg "range" = none) (ns : noStar a = true) (ns2 : noStar b = true) (he : PE X a (tE T Ex (evE h y))) (hb : PE X b (tE T Ex (evE h z))) :
    PI X tg (.Call (.Name "range" p) [a, b] [] pos) (tI T Ex (evI h (.rng2 y z))) := by
  refine pi_imp (pi_range2 hg hm (pa_cons he (pa_cons hb pa_nil (star_head ns2 _)) (star_head ns _)) (by rw [star_head ns, star_head ns2]; rfl) (star_head ns2 _)) fun q H R ⟨r, ts, c, l, k⟩ => ?_
  simp only [evI, int_bindA] at k
  refine seqE (tl := []) c l k fun m r1 v H1 c1 l1 k1 => ?_
  obtain ⟨lo, rfl, k2⟩ := int_ok k1
  refine seqE (tl := [(_, v)]) c1 l1 k2 fun m2 r2 v2 H2 c2 l2 k3 => ?_
  obtain ⟨n, rfl, k4⟩ := int_ok k3
  split at k4
  · rename_i hz
    exact ⟨lo, n, by rw [l2.vint, l2.tail.vint], ⟨hz.1.1, hz.1.2, hz.2.1, hz.2.2⟩, k4 _ [] _ gives_rng c2 l2.tail.tail⟩
  · exact False.elim k4
end
end Dn
-- EnT
set_option maxRecDepth 100000
set_option maxHeartbeats 1000000
/-! enumerate of a tuple: made, drawn. -/
namespace Dn
open PySem PySem.Spec PyProof.Rows L2
open AutoSeq1 (wpAny_loadPart')

theorem enum_newT (l : Addr) (items : Array Value) (n : Nat) (dct : Option Addr) (sl : Array (Option Value)) :
    Meets (Builtin.«enumerate.__new__» ⟨[.type "enumerate", .ref l], []⟩) (fun _ R s => s.heap.get? l = some { cls := .type "tuple", dict := dct, data := .seq items n, slots := sl } ∧
      R (.ok (.ret (.ref (s.heap.push { cls := .type "tuple_iterator", data := .fields #[.ref l, .int 0 0] }).objs.size)))
        { s with heap := (s.heap.push { cls := .type "tuple_iterator", data := .fields #[.ref l, .int 0 0] }).push { cls := .type "enumerate", data := .fields #[.none, .bool false, .ref s.heap.objs.size, rawInt 0, .none, .none] } }) :=
  .of_wp fun prog w A R s hyp => by
    obtain ⟨hp, g, d, tk, os⟩ := s
    obtain ⟨hl, hR⟩ := hyp
    have hsub := sub_enumerate
    have hL : Heap.IsTuple (Shared.heap ⟨hp, g, d, tk, os⟩) l items := ⟨_, hl, rfl, n, rfl⟩
    wp_walk using wpAny_loadPart' hl
    refine wpAny_stack_any fun st => wpAny_pure ?_
    split
    · rename_i c _ _ _ _ _
      cases (c == Value.type "enumerate") <;> (wp_walk using wpAny_loadPart' hl, wpAny_pyIter_tuple hL; exact ⟨_, rfl, hR⟩)
    · wp_walk using wpAny_loadPart' hl, wpAny_pyIter_tuple hL
      exact ⟨_, rfl, hR⟩
section
variable {prog : Program} {w : World} {A : Around} {E : Value → Shared → Prop} {s : Shared}
theorem call_enumT {l : Addr} {items : Array Value} {Q : Value → Shared → Prop} (hL : IsTup s.heap l items)
    (h : ∀ h', IsEnum h' (s.heap.objs.size + 1) s.heap.objs.size 0 .none → h'.IsTupleIter s.heap.objs.size l 0 → (∀ b o, s.heap.get? b = some o → h'.get? b = some o) → Q (.ref (s.heap.objs.size + 1)) { s with heap := h' }) :
    wpAny (model prog w) A (call (.type "enumerate") [.ref l]) Q E s := by
  obtain ⟨⟨c, dct, dt, sl⟩, hl, hc, n, hd⟩ := hL
  have hc' : c = .type "tuple" := hc
  have hd' : dt = .seq items n := hd
  subst hc' hd'
  refine callType_new F.called_enumerate (by decide) (F.typeCall_enumerate_1 _) (F.newCall_enumerate_1 _) (fun obj => F.args_object_init_2 obj _) F.entry_enumerate_new (enum_newT l items n dct sl) ⟨hl, ?_⟩
  generalize ho : ({ cls := .type "tuple_iterator", data := .fields #[.ref l, .int 0 0] } : Obj) = o1
  generalize ho2 : ({ cls := .type "enumerate", data := .fields #[.none, .bool false, .ref s.heap.objs.size, rawInt 0, .none, .none] } : Obj) = o2
  have hz : (s.heap.push o1).objs.size = s.heap.objs.size + 1 := Heap.size_push ..
  have h2 : ((s.heap.push o1).push o2).get? (s.heap.objs.size + 1) = some o2 := by
    have q := Heap.get?_push_size (s.heap.push o1) (o := o2) (by rw [← ho2]; rfl)
    rw [hz] at q
    exact q
  have h1 : ((s.heap.push o1).push o2).get? s.heap.objs.size = some o1 := Heap.get?_push_of_some _ (Heap.get?_push_size _ (by rw [← ho]; rfl))
  show _ ∧ _
  rw [hz]
  subst ho ho2
  exact ⟨⟨_, h2, rfl⟩, h _ h2 ⟨_, h1, rfl, rfl⟩ fun b o x => Heap.get?_push_of_some _ (Heap.get?_push_of_some _ x)⟩
end
/-- the tuple at a, each item in a new pair -/
def IteT (K : PySem.W.Frag) (a : Addr) : L2.It :=
  ⟨fun i H => ∃ (xs : List V) (x : V), SqT K H a xs ∧ xs[i]? = some x, fun i H v H' => ∃ p x, v = .ref p ∧ H p = none ∧ H' = upd H p (.tup [.int (i : Nat), x]) ∧ ∀ xs, SqT K H a xs → xs[i]? = some x, fun i H => ∃ xs : List V, SqT K H a xs ∧ xs.length ≤ i⟩
theorem tup_apart {h : Heap} {a it : Addr} {i : Nat} {items : Array Value} (p : IsTup h a items) (q : h.IsTupleIter it a i) : a ≠ it := by
  rintro rfl
  obtain ⟨o, e1, c1, _⟩ := p
  obtain ⟨o2, e2, c2, _⟩ := q
  rw [e1] at e2
  cases e2
  rw [c1] at c2
  exact absurd c2 (by decide)
theorem enum_apart {h : Heap} {a e it : Addr} {i : Int} {old : Value} {items : Array Value} (p : IsTup h a items) (q : IsEnum h e it i old) : e ≠ a := by
  rintro rfl
  obtain ⟨o, e1, c1, _⟩ := p
  have q' := e1.symm.trans (show h.get? e = _ from q)
  cases q'
  exact absurd (show Value.type "enumerate" = Value.type "tuple" from c1) (by decide)
theorem turn_enumT {P : Program} {w : World} {K : PySem.W.Frag} {elts : List Expr} {kk : Nat} {tpos : Pos} (a e it : Addr) :
    Turn P w K (.Tuple elts kk tpos) (IteT K a) [e, it] e (fun i h => (∃ old, IsEnum h e it ((i : Nat) : Int) old) ∧ h.IsTupleIter it a i ∧ e ≠ it) where
  mem := List.mem_cons_self
  obj := fun i h st b hb => by
    obtain ⟨⟨old, he⟩, hit, _⟩ := st
    obtain ⟨o, ho, _, hd⟩ := hit
    rcases List.mem_cons.mp hb with z | z
    · rw [z]; exact ⟨_, he, fun v q => nomatch q⟩
    · exact ⟨o, by rw [List.mem_singleton.mp z]; exact ho, fun v q => by rw [hd] at q; cases q⟩
  keep := fun i h h' st k => by
    obtain ⟨⟨old, he⟩, hi, hne⟩ := st
    exact ⟨⟨old, k e List.mem_cons_self _ he⟩, hi.at fun o q => k it (by simp) o q, hne⟩
  item := by
    intro X hP hw hK hc i pins s q H E I hf st hg
    obtain ⟨⟨old, he⟩, hit, hne⟩ := st
    obtain ⟨xs, x, hq, hx⟩ := hg
    subst hP hw hK
    obtain ⟨its, rv, pl, _⟩ := I.tuple hq
    obtain ⟨u, hu, ru⟩ := rv.get hx
    have hlt : i < its.toArray.size := by rw [List.size_toArray]; exact (List.getElem?_eq_some_iff.mp hu).1
    have hel : e < s.heap.objs.size := Heap.lt_size he
    have hil : it < s.heap.objs.size := by obtain ⟨_, z, _⟩ := hit; exact Heap.lt_size z
    have D := Draws.tuple (prog := X.prog) (w := X.w) (A := X.A.in1) (I.ok.hd hc) it a (tup_apart pl hit) its.toArray
    refine wpAny_pyNext_enum_itemD D he ⟨hit, pl⟩ hlt hne (by
      intro z
      rcases List.mem_cons.mp z with z | z
      · exact hne z
      · exact enum_apart pl he (List.mem_singleton.mp z)) fun y h' tk hy ho st' hT _ hk => ?_
    have ey : y = u := by
      have h1 : its[i]? = some y := by simpa using hy
      rw [hu] at h1
      exact (Option.some.inj h1).symm
    subst ey
    refine ⟨_, rfl, wpAny_letOwnedTupleGo_enum (s := { s with heap := h', toks := tk + 1 }) ho fun h2 he2 sb => ?_⟩
    have hT2 : h2.get? s.heap.objs.size = some { cls := .type "tuple", data := .seq #[.int i tk, y] } := (sb.2 _ (Nat.ne_of_gt hel)).trans hT
    have new : ObjOk X.prog X.w (upd H s.heap.objs.size (.tup [.int (i : Nat), x])) h2 s.heap.objs.size (.tup [.int (i : Nat), x]) :=
      ⟨(by show 2 ≤ sizeLine; decide), [.int i tk, y], .cons ⟨_, rfl⟩ (.cons ru .nil), ⟨_, hT2, rfl, _, rfl⟩⟩
    have I1 : Inv X pins q (upd H s.heap.objs.size (.tup [.int (i : Nat), x])) { s with heap := h2, toks := tk + 1 } :=
      I.turnedNew (ch := [e, it]) (fun b ob hb z => (sb.2 b (fun z => hb (by simp [z]))).trans (hk b ob (fun z => hb (by simp [z])) (fun z => hb (by simp [z])) z)) hf (Nat.le_refl _) new
    have e1 : ((i + 1 : Nat) : Int) = (i : Int) + 1 := by omega
    refine ⟨.ref s.heap.objs.size, _, I1, rfl, ⟨_, x, rfl, I.hok.fresh (Nat.le_refl _), rfl, fun ys hys => by rw [I.tuple_inj hys hq]; exact hx⟩, ⟨⟨y, by rw [e1]; exact he2⟩, st'.1.at fun o z => (sb.2 it (Ne.symm hne)).trans z, hne⟩, fun b hb => ?_⟩
    have hb' : b < s.heap.objs.size := by
      rcases List.mem_cons.mp hb with z | z
      · rw [z]; exact hel
      · rw [List.mem_singleton.mp z]; exact hil
    rw [upd_ne (Nat.ne_of_lt hb')]
    exact (hf b hb).1
  done := by
    intro X hP hw hK hc i pins s q H E I hf st hg
    obtain ⟨⟨old, he⟩, hit, hne⟩ := st
    obtain ⟨xs, hq, hx⟩ := hg
    subst hP hw hK
    obtain ⟨its, rv, pl, _⟩ := I.tuple hq
    obtain ⟨f0, f1, f2, f3, f4, f5⟩ := hf it (by simp)
    have hlen := rv.length
    have hnone : its.toArray[i]? = none := by simp; omega
    -- the end, by the tuple's own iterator
    have hend : ∀ (Q : Value → Shared → Prop) (E : Value → Shared → Prop), (∀ h' x, Heap.ExtBut it s.heap h' → (∃ o, h'.get? x = some o ∧ o.cls = .type "StopIteration") → E (.ref x) { s with heap := h' }) →
        wpAny (model X.prog X.w) X.A.in1 (Builtin.SmallTypes.nextOf (.ref it)) Q E s := fun Q E hE => wpAny_nextOf_tuple_end (A := X.A.in1) (I.ok.hd hc) hit pl hnone hE
    have hT : s.TypeIs (.ref e) "enumerate" := ⟨_, he, rfl⟩
    unfold pyNext
    refine wpAny_bind (wpAny_attempt (wpAny_callSpecial?_slot (name := Str.ofString "__next__") hT F.slot_enumerate_next (wpAny_call_entry F.slot_enumerate_next hT F.entry_enumerate_next ?_ (F.args_enumerate_next_1 _))))
    show wpAny _ _ (field (.ref e) 2 >>= _) _ _ _
    refine wpAny_bind (wpAny_field he rfl (x := .ref it) rfl (wpAny_bind (hend _ _ fun h' x hx' ⟨o, ho, hcl⟩ => ?_)))
    refine wpAny_bind (wpAny_isInstance (T := "StopIteration") (b := true) ⟨o, ho, hcl⟩ isSubtype_stop ?_)
    exact wpAny_pure ⟨rfl, I.turned (t' := s.toks) (fun b o hb z => hx' b o hb z) f0 f1 f3 f4 f5⟩
  self := fun A i s Q E st h => by
    obtain ⟨⟨_, he⟩, _⟩ := st
    exact wpAny_pyIter_enum he h
/-- enumerate of a list or a tuple -/
theorem pi_enumA {X : Cx} {e : Expr} {te : TE} {p pos tpos : Pos} {elts : List Expr} {kk : Nat} (hg : Gl X "enumerate") (hm : X.mg "enumerate" = none) (he : PE X e te) (hs : starEach [e] X.env = [(false, eval e X.env)]) :
    PI X (.Tuple elts kk tpos) (.Call (.Name "enumerate" p) [e] [] pos) (fun q H R => te q H fun v H1 => ∃ ad, v = .ref ad ∧ (((∃ xs, SqL X.K H1 ad xs) ∧ R (Ite X.K ad) H1) ∨ ((∃ xs, SqT X.K H1 ad xs) ∧ R (IteT X.K ad) H1))) := by
  have ha : PA X [e] (tCons te tNil) := pa_cons he pa_nil hs
  refine ⟨fun pins s q H R I hw => ?_⟩
  refine Call_ (ld_blt I hg hm boot_enumerate (PyProof.Rows.callWith_type1 (thn (ha.run pos pins s q H (fun vs H1 => ∃ v, vs = [v] ∧ ∃ ad, v = .ref ad ∧ (((∃ xs, SqL X.K H1 ad xs) ∧ R (Ite X.K ad) H1) ∨ ((∃ xs, SqT X.K H1 ad xs) ∧ R (IteT X.K ad) H1))) I ?_) fun us s1 hu => ?_) hs rfl))
  · have mono : ∀ {Q1 Q2 : VK}, te = te → (∀ v H1, Q1 v H1 → Q2 v H1) → Q1 = Q1 := fun _ _ => rfl
    exact Eq.mp (congrArg (te q H) (funext fun v => funext fun H1 => propext ⟨fun z => ⟨v, rfl, z⟩, fun ⟨v', e1, z⟩ => by cases e1; exact z⟩)) hw
  · obtain ⟨vs, H1, I1, r1, v, rfl, ad, rfl, hR⟩ := hu
    obtain ⟨u, rfl, ru⟩ := vals1 r1
    have e2 : u = Value.ref ad := ru
    subst e2
    have fps : ∀ b ∈ [s1.heap.objs.size + 1, s1.heap.objs.size], FpOk X pins H1 b := fun b hb => by
      have hle : s1.heap.objs.size ≤ b := by
        rcases List.mem_cons.mp hb with z | z
        · omega
        · rw [List.mem_singleton.mp z]; exact Nat.le_refl _
      exact I1.fpOk hle (I1.hok.fresh hle)
    rcases hR with ⟨⟨xs, hv⟩, hR⟩ | ⟨⟨xs, hv⟩, hR⟩
    · obtain ⟨its, rv, pl, _⟩ := I1.list hv
      refine call_enumerate_list pl.isList fun h' hen hit _ hk => wpAny_pyIter_enum hen ?_
      exact ⟨s1.heap.objs.size + 1, [s1.heap.objs.size + 1, s1.heap.objs.size], _, _, H1, rfl, I1.kept (t' := s1.toks) hk, turn_enum ad _ s1.heap.objs.size, ⟨⟨.none, hen⟩, hit, Nat.succ_ne_self _⟩, fps, hR⟩
    · obtain ⟨its, rv, pl, _⟩ := I1.tuple hv
      refine call_enumT pl fun h' hen hit hk => wpAny_pyIter_enum hen ?_
      exact ⟨s1.heap.objs.size + 1, [s1.heap.objs.size + 1, s1.heap.objs.size], _, _, H1, rfl, I1.kept (t' := s1.toks) hk, turn_enumT ad _ s1.heap.objs.size, ⟨⟨.none, hen⟩, hit, Nat.succ_ne_self _⟩, fps, hR⟩
end Dn
-- Dn12
set_option maxRecDepth 100000
set_option maxHeartbeats 1000000
/-! What is walked, further: enumerate, zip, reversed. -/
namespace Dn
open PySem PySem.Spec PyProof.Rows L2
section
variable {T : Tb} {Ex : WX} {q : L2.St} {ts tl : List (M × V)} {X : Cx} {e a b c tg : Expr} {es rest : List Expr} {pos p p2 tpos : Pos} {H : Hp} {h : Th} {x : Str} {elts : List Expr} {kk : Nat}
theorem enum_get : ∀ {ws : List W} {n i : Nat} {w : W}, (enumFrom n ws)[i]? = some w → ∃ y, ws[i]? = some y ∧ w = .tup [.int ((n + i : Nat) : Int), y]
  | [], _, _, _, h => by simp [enumFrom] at h
  | y :: ws, n, 0, w, h => by
    simp [enumFrom] at h
    exact ⟨y, rfl, by rw [← h]; simp⟩
  | y :: ws, n, i + 1, w, h => by
    obtain ⟨z, h1, h2⟩ := enum_get (n := n + 1) (i := i) (by simpa [enumFrom] using h)
    refine ⟨z, by simpa using h1, ?_⟩
    have e : n + 1 + i = n + (i + 1) := by omega
    rw [h2, e]
theorem enum_len : ∀ {ws : List W} {n : Nat}, (enumFrom n ws).length = ws.length
  | [], _ => rfl
  | y :: ws, n => by simp [enumFrom, enum_len]
theorem zip_get : ∀ {xs ys : List W} {i : Nat} {w : W}, (zipW xs ys)[i]? = some w → ∃ x y, xs[i]? = some x ∧ ys[i]? = some y ∧ w = .tup [x, y]
  | [], _, _, _, h => by simp [zipW] at h
  | _ :: _, [], _, _, h => by simp [zipW] at h
  | x :: xs, y :: ys, 0, w, h => by
    simp [zipW] at h
    exact ⟨x, y, rfl, rfl, h.symm⟩
  | x :: xs, y :: ys, i + 1, w, h => by
    obtain ⟨x', y', h1, h2, h3⟩ := zip_get (i := i) (by simpa [zipW] using h)
    exact ⟨x', y', by simpa using h1, by simpa using h2, h3⟩
theorem zip_len : ∀ {xs ys : List W}, (zipW xs ys).length = min xs.length ys.length
  | [], _ => by simp [zipW]
  | _ :: _, [] => by simp [zipW]
  | x :: xs, y :: ys => by simp [zipW, zip_len]
/-- a new pair -/
theorem pair_new {u w : W} {v x : V} {l : List (M × V)} {t : Addr} (hn : H t = none) (hl : Live T H ((.im u, v) :: (.im w, x) :: l)) : Live T (upd H t (.tup [v, x])) ((.im (.tup [u, w]), .ref t) :: l) :=
  Live.newT (ws := [u, w]) (vs := [v, x]) hl rfl hn
theorem gives_enL {ad : Addr} {ws : List W} (hK : X.K = T.K) : Gives T (Ite X.K ad) [(.im (.lst ws), .ref ad)] (enumFrom 0 ws) where
  go := fun i w H l hi hl => by
    obtain ⟨y, hy, _⟩ := enum_get hi
    obtain ⟨a, vs, e1, e2, e3, _⟩ := Live.openL (l := l) hl
    cases e1
    have hj : i < vs.length := by rw [e3]; exact (List.getElem?_eq_some_iff.mp hy).1
    exact ⟨vs, vs[i], SqL.of e2, List.getElem?_eq_getElem hj⟩
  yld := fun i w H l x H' hi hl hy => by
    obtain ⟨y, h1, rfl⟩ := enum_get hi
    obtain ⟨a, vs, e1, e2, e3, hh⟩ := Live.openL (l := l) hl
    cases e1
    obtain ⟨t, z, rfl, hn, rfl, hz⟩ := hy
    rw [Nat.zero_add]
    exact pair_new hn (Live.plain (hh.pick h1 (hz vs (SqL.of e2))) rfl)
  stop := fun i H l hi hl => by
    obtain ⟨a, vs, e1, e2, e3, _⟩ := Live.openL (l := l) hl
    cases e1
    rw [enum_len] at hi
    exact ⟨vs, SqL.of e2, by rw [e3]; exact hi⟩
theorem gives_enT {ad : Addr} {ws : List W} (hK : X.K = T.K) : Gives T (IteT X.K ad) [(.im (.tup ws), .ref ad)] (enumFrom 0 ws) where
  go := fun i w H l hi hl => by
    obtain ⟨y, hy, _⟩ := enum_get hi
    obtain ⟨a, vs, e1, e2, e3, _⟩ := Live.openT (l := l) hl
    cases e1
    rw [← hK] at e2
    have hj : i < vs.length := by rw [e3]; exact (List.getElem?_eq_some_iff.mp hy).1
    exact ⟨vs, vs[i], e2, List.getElem?_eq_getElem hj⟩
  yld := fun i w H l x H' hi hl hy => by
    obtain ⟨y, h1, rfl⟩ := enum_get hi
    obtain ⟨a, vs, e1, e2, e3, hh⟩ := Live.openT (l := l) hl
    cases e1
    rw [← hK] at e2
    obtain ⟨t, z, rfl, hn, rfl, hz⟩ := hy
    rw [Nat.zero_add]
    exact pair_new hn (Live.plain (hh.pick h1 (hz vs e2)) rfl)
  stop := fun i H l hi hl => by
    obtain ⟨a, vs, e1, e2, e3, _⟩ := Live.openT (l := l) hl
    cases e1
    rw [← hK] at e2
    rw [enum_len] at hi
    exact ⟨vs, e2, by rw [e3]; exact hi⟩
theorem si_enum {y : E} (hK : X.K = T.K) (hg : Gl X "enumerate") (hm : X.mg "enumerate" = none) (ns : noStar a = true) (he : PE X a (tE T Ex (evE h y))) :
    PI X (.Tuple elts kk tpos) (.Call (.Name "enumerate" p) [a] [] pos) (tI T Ex (evI h (.enum y))) := by
  refine pi_imp (pi_enumA hg hm he (star_head ns _)) fun q H R ⟨r, ts, c, l, k⟩ => ?_
  simp only [evI, w_bindA] at k
  refine seqE (tl := []) c l k fun m r1 v H1 c1 l1 k1 => ?_
  obtain ⟨ws, e1, hR⟩ := ofO_ok (ofO_map k1)
  have l2 := l1.freeze
  cases hm : m.fz with
  | lst us =>
    rw [hm] at e1 l2
    cases e1
    obtain ⟨a, vs, f1, f2, f3, _⟩ := l2.openL
    subst f1
    exact ⟨a, rfl, .inl ⟨⟨vs, SqL.of f2⟩, hR _ _ _ (gives_enL hK) c1 l2⟩⟩
  | tup us =>
    rw [hm] at e1 l2
    cases e1
    obtain ⟨a, vs, f1, f2, f3, _⟩ := l2.openT
    subst f1
    rw [← hK] at f2
    exact ⟨a, rfl, .inr ⟨⟨vs, f2⟩, hR _ _ _ (gives_enT hK) c1 l2⟩⟩
  | _ => rw [hm] at e1; cases e1
/-- the two sources, each opened while the other stands -/
theorem open2L {xs ys : List W} {v u : V} {l : List (M × V)} (hl : Live T H ((.im (.lst xs), v) :: (.im (.lst ys), u) :: l)) :
    ∃ a vs b us, v = .ref a ∧ u = .ref b ∧ H a = some (.lst vs) ∧ H b = some (.lst us) ∧ vs.length = xs.length ∧ us.length = ys.length ∧
      ∀ {i : Nat} {x y : W}, xs[i]? = some x → ys[i]? = some y → ∃ vx vy, vs[i]? = some vx ∧ us[i]? = some vy ∧ Live T H ((.im x, vx) :: (.im y, vy) :: (.im (.lst xs), v) :: (.im (.lst ys), u) :: l) := by
  obtain ⟨a, vs, e1, e2, e3, hh⟩ := hl.openL
  obtain ⟨b, us, f1, f2, f3, gg⟩ := (swap2 hl).openL
  refine ⟨a, vs, b, us, e1, f1, e2, f2, e3, f3, fun {i x y} h1 h2 => ?_⟩
  have hj : i < vs.length := by rw [e3]; exact (List.getElem?_eq_some_iff.mp h1).1
  have hk : i < us.length := by rw [f3]; exact (List.getElem?_eq_some_iff.mp h2).1
  refine ⟨vs[i], us[i], List.getElem?_eq_getElem hj, List.getElem?_eq_getElem hk, ?_⟩
  have g1 : Live T H ((.im y, us[i]) :: (.im (.lst ys), u) :: (.im (.lst xs), v) :: l) := gg.pick h2 (List.getElem?_eq_getElem hk)
  have g2 : Live T H ((.im (.lst xs), v) :: (.im y, us[i]) :: (.im (.lst ys), u) :: l) :=
    g1.perm ((List.Perm.cons _ (List.Perm.swap _ _ _)).trans (List.Perm.swap _ _ _))
  obtain ⟨a', vs', p1, p2, p3, kk⟩ := g2.openL
  rw [e1] at p1
  cases p1
  rw [e2] at p2
  cases p2
  have g3 := kk.pick h1 (List.getElem?_eq_getElem hj)
  exact g3.perm (List.Perm.cons _ (List.Perm.swap _ _ _))
theorem open2T {xs ys : List W} {v u : V} {l : List (M × V)} (hl : Live T H ((.im (.tup xs), v) :: (.im (.tup ys), u) :: l)) :
    ∃ a vs b us, v = .ref a ∧ u = .ref b ∧ SqT T.K H a vs ∧ SqT T.K H b us ∧ vs.length = xs.length ∧ us.length = ys.length ∧
      ∀ {i : Nat} {x y : W} {vx vy : V}, xs[i]? = some x → ys[i]? = some y → vs[i]? = some vx → us[i]? = some vy → Live T H ((.im x, vx) :: (.im y, vy) :: (.im (.tup xs), v) :: (.im (.tup ys), u) :: l) := by
  obtain ⟨F, fp, s, kk⟩ := hl
  cases kk with
  | cons k1 k2 k3 =>
    cases k2 with
    | cons k4 k5 k6 =>
      obtain ⟨e, a, vs, e1, e2, e3⟩ := k1
      obtain ⟨e', b, us, f1, f2, f3⟩ := k4
      subst e e'
      refine ⟨a, vs, b, us, e1, f1, sq_t s e2, sq_t s f2, e3.len, f3.len, fun {i x y vx vy} h1 h2 h3 h4 => ?_⟩
      obtain ⟨vx', g1, g2⟩ := e3.get h1
      obtain ⟨vy', g3, g4⟩ := f3.get h2
      rw [h3] at g1
      rw [h4] at g3
      cases g1
      cases g3
      exact ⟨F, _, s, LV.cons (m := .im x) (f := []) ⟨rfl, g2⟩ (LV.cons (m := .im y) (f := []) ⟨rfl, g4⟩ (.cons (m := .im (.tup xs)) (f := []) ⟨rfl, a, vs, e1, e2, e3⟩ (.cons (m := .im (.tup ys)) (f := []) ⟨rfl, b, us, f1, f2, f3⟩ k5 (by simp)) (by simp)) (by simp)) (by simp)⟩
theorem gives_zipL {a b : Addr} {xs ys : List W} (hK : X.K = T.K) : Gives T (Itz X.K a b) [(.im (.lst xs), .ref a), (.im (.lst ys), .ref b)] (zipW xs ys) where
  go := fun i w H l hi hl => by
    obtain ⟨x, y, h1, h2, _⟩ := zip_get hi
    obtain ⟨_, vs, _, us, e1, e2, e3, e4, _, _, hh⟩ := open2L (l := l) hl
    cases e1
    cases e2
    obtain ⟨vx, vy, g1, g2, _⟩ := hh h1 h2
    exact ⟨vs, us, vx, vy, SqL.of e3, SqL.of e4, g1, g2⟩
  yld := fun i w H l x H' hi hl hy => by
    obtain ⟨x, y, h1, h2, rfl⟩ := zip_get hi
    obtain ⟨_, vs, _, us, e1, e2, e3, e4, _, _, hh⟩ := open2L (l := l) hl
    cases e1
    cases e2
    obtain ⟨t, vx, vy, rfl, hn, rfl, hx, hy⟩ := hy
    obtain ⟨vx', vy', g1, g2, g3⟩ := hh h1 h2
    have z1 := hx vs (SqL.of e3)
    have z2 := hy us (SqL.of e4)
    rw [g1] at z1
    rw [g2] at z2
    cases z1
    cases z2
    exact pair_new hn g3
  stop := fun i H l hi hl => by
    obtain ⟨_, vs, _, us, e1, e2, e3, e4, l1, l2, hh⟩ := open2L (l := l) hl
    cases e1
    cases e2
    rw [zip_len] at hi
    exact ⟨vs, us, SqL.of e3, SqL.of e4, by omega⟩
theorem gives_zipT {a b : Addr} {xs ys : List W} (hK : X.K = T.K) : Gives T (RZ.ItzT X.K a b) [(.im (.tup xs), .ref a), (.im (.tup ys), .ref b)] (zipW xs ys) where
  go := fun i w H l hi hl => by
    obtain ⟨x, y, h1, h2, _⟩ := zip_get hi
    obtain ⟨_, vs, _, us, e1, e2, e3, e4, l1, l2, hh⟩ := open2T (l := l) hl
    cases e1
    cases e2
    rw [← hK] at e3 e4
    have hj : i < vs.length := by rw [l1]; exact (List.getElem?_eq_some_iff.mp h1).1
    have hk : i < us.length := by rw [l2]; exact (List.getElem?_eq_some_iff.mp h2).1
    exact ⟨vs, us, vs[i], us[i], e3, e4, List.getElem?_eq_getElem hj, List.getElem?_eq_getElem hk⟩
  yld := fun i w H l x H' hi hl hy => by
    obtain ⟨x, y, h1, h2, rfl⟩ := zip_get hi
    obtain ⟨_, vs, _, us, e1, e2, e3, e4, _, _, hh⟩ := open2T (l := l) hl
    cases e1
    cases e2
    rw [← hK] at e3 e4
    obtain ⟨t, vx, vy, rfl, hn, rfl, hx, hy⟩ := hy
    exact pair_new hn (hh h1 h2 (hx vs e3) (hy us e4))
  stop := fun i H l hi hl => by
    obtain ⟨_, vs, _, us, e1, e2, e3, e4, l1, l2, hh⟩ := open2T (l := l) hl
    cases e1
    cases e2
    rw [← hK] at e3 e4
    rw [zip_len] at hi
    exact ⟨vs, us, e3, e4, by omega⟩
theorem stars_two (n1 : noStar a = true) (n2 : noStar b = true) (env : PySem.Env) : starEach [a, b] env = (false, eval a env) :: starEach [b] env := star_head n1 env
theorem si_zip2 {y z : E} (hK : X.K = T.K) (hg : Gl X "zip") (hm : X.mg "zip" = none) (ns : noStar a = true) (ns2 : noStar b = true) (he : PE X a (tE T Ex (evE h y))) (hb : PE X b (tE T Ex (evE h z))) :
    PI X (.Tuple elts kk tpos) (.Call (.Name "zip" p) [a, b] [] pos) (tI T Ex (evI h (.zip2 y z))) := by
  refine pi_imp (RZ.pi_zipA hg hm (pa_cons he (pa_cons hb pa_nil (star_head ns2 _)) (star_head ns _)) (star_head ns _) (stars_plain (by simp [ns2]) _)) fun q H R ⟨r, ts, c, l, k⟩ => ?_
  simp only [evI, w_bindA] at k
  refine seqE (tl := []) c l k fun m r1 v H1 c1 l1 k1 => ?_
  refine seqE (tl := [(.im m.fz, v)]) c1 l1.freeze k1 fun m2 r2 v2 H2 c2 l2 k2 => ?_
  obtain ⟨ws, e1, hR⟩ := ofO_ok k2
  have l3 := swap2 l2.freeze
  cases hm : m.fz with
  | lst us =>
    rw [hm] at e1 l3
    cases hm2 : m2.fz with
    | lst us2 =>
      rw [hm2] at e1 l3
      cases e1
      obtain ⟨a, vs, b, us, f1, f2, f3, f4, _, _, _⟩ := open2L l3
      subst f1 f2
      exact ⟨a, b, vs, us, rfl, .inl ⟨SqL.of f3, SqL.of f4, hR _ _ _ (gives_zipL hK) c2 l3⟩⟩
    | _ => rw [hm2] at e1; cases e1
  | tup us =>
    rw [hm] at e1 l3
    cases hm2 : m2.fz with
    | tup us2 =>
      rw [hm2] at e1 l3
      cases e1
      obtain ⟨a, vs, b, us, f1, f2, f3, f4, _, _, _⟩ := open2T l3
      subst f1 f2
      rw [← hK] at f3 f4
      exact ⟨a, b, vs, us, rfl, .inr ⟨f3, f4, hR _ _ _ (gives_zipT hK) c2 l3⟩⟩
    | _ => rw [hm2] at e1; cases e1
  | _ => rw [hm] at e1; cases e1
theorem rev_get {ws : List W} {i : Nat} {w : W} (h : ws.reverse[i]? = some w) : i < ws.length ∧ ws[ws.length - 1 - i]? = some w := by
  have hi : i < ws.length := by simpa using (List.getElem?_eq_some_iff.mp h).1
  rw [List.getElem?_reverse hi] at h
  exact ⟨hi, h⟩
theorem gives_revL {ad : Addr} {ws : List W} {n : Nat} (hn : n = ws.length) : Gives T (Itv X.K ad n) [(.im (.lst ws), .ref ad)] ws.reverse where
  go := fun i w H l hi hl => by
    obtain ⟨h1, h2⟩ := rev_get hi
    obtain ⟨a, vs, e1, e2, e3, _⟩ := Live.openL (l := l) hl
    cases e1
    have hj : n - 1 - i < vs.length := by rw [e3]; omega
    exact ⟨by omega, vs, vs[n - 1 - i], SqL.of e2, List.getElem?_eq_getElem hj⟩
  yld := fun i w H l x H' hi hl hy => by
    obtain ⟨h1, h2⟩ := rev_get hi
    obtain ⟨a, vs, e1, e2, e3, hh⟩ := Live.openL (l := l) hl
    cases e1
    obtain ⟨rfl, hy2⟩ := hy
    rw [← hn] at h2
    exact hh.pick h2 (hy2 vs (SqL.of e2))
  stop := fun i H l hi hl => by
    rw [List.length_reverse] at hi
    exact (show n ≤ i by omega)
theorem gives_revT {ad : Addr} {ws : List W} {n : Nat} (hK : X.K = T.K) (hn : n = ws.length) : Gives T (RT.ItvT X.K ad n) [(.im (.tup ws), .ref ad)] ws.reverse where
  go := fun i w H l hi hl => by
    obtain ⟨h1, h2⟩ := rev_get hi
    obtain ⟨a, vs, e1, e2, e3, _⟩ := Live.openT (l := l) hl
    cases e1
    rw [← hK] at e2
    have hj : n - 1 - i < vs.length := by rw [e3]; omega
    exact ⟨by omega, vs, vs[n - 1 - i], e2, List.getElem?_eq_getElem hj⟩
  yld := fun i w H l x H' hi hl hy => by
    obtain ⟨h1, h2⟩ := rev_get hi
    obtain ⟨a, vs, e1, e2, e3, hh⟩ := Live.openT (l := l) hl
    cases e1
    rw [← hK] at e2
    obtain ⟨rfl, hy2⟩ := hy
    rw [← hn] at h2
    exact hh.pick h2 (hy2 vs e2)
  stop := fun i H l hi hl => by
    rw [List.length_reverse] at hi
    exact (show n ≤ i by omega)
theorem si_rev {y : E} (hK : X.K = T.K) (hg : Gl X "reversed") (hm : X.mg "reversed" = none) (ns : noStar a = true) (he : PE X a (tE T Ex (evE h y))) :
    PI X tg (.Call (.Name "reversed" p) [a] [] pos) (tI T Ex (evI h (.rev y))) := by
  refine pi_imp (RT.pi_revA hg hm he (star_head ns _)) fun q H R ⟨r, ts, c, l, k⟩ => ?_
  simp only [evI, w_bindA] at k
  refine seqE (tl := []) c l k fun m r1 v H1 c1 l1 k1 => ?_
  obtain ⟨ws, e1, hR⟩ := ofO_ok (ofO_map k1)
  have l2 := l1.freeze
  cases hm : m.fz with
  | lst us =>
    rw [hm] at e1 l2
    cases e1
    obtain ⟨a, vs, f1, f2, f3, _⟩ := l2.openL
    subst f1
    exact ⟨a, vs, rfl, .inl ⟨SqL.of f2, hR _ _ _ (gives_revL f3) c1 l2⟩⟩
  | tup us =>
    rw [hm] at e1 l2
    cases e1
    obtain ⟨a, vs, f1, f2, f3, _⟩ := l2.openT
    subst f1
    rw [← hK] at f2
    exact ⟨a, vs, rfl, .inr ⟨f2, hR _ _ _ (gives_revT hK f3) c1 l2⟩⟩
  | _ => rw [hm] at e1; cases e1
end
end Dn
-- Dn13
set_option maxRecDepth 100000
set_option maxHeartbeats 1000000
/-! List comprehensions. -/
namespace Dn
open PySem PySem.Spec PyProof.Rows L2
section
variable {T : Tb} {Ex Ex' : WX} {q q' q0 : L2.St} {ts ts' tl : List (M × V)} {X : Cx} {e a b c tg elt iter : Expr} {es rest ifs : List Expr} {pos p p2 tpos : Pos} {H : Hp} {h : Th} {x : Str} {r r0 : Env}
/-! ### slots, by places -/
theorem cons_of : ∀ {r : Env} {q : L2.St}, r.length = q.length → (∀ (i : Nat) (m : M), r[i]? = some (some m) → ∃ v, q[i]? = some (some v)) → Cons r q
  | [], [], _, _ => True.intro
  | none :: r, x :: q, hl, h => cons_of (r := r) (q := q) (by simpa using hl) fun i m e => by simpa using h (i + 1) m (by simpa using e)
  | some m :: r, x :: q, hl, h => by
    refine ⟨?_, cons_of (r := r) (q := q) (by simpa using hl) fun i m e => by simpa using h (i + 1) m (by simpa using e)⟩
    obtain ⟨v, e⟩ := h 0 m rfl
    exact ⟨v, by simpa using e⟩
  | [], _ :: _, hl, _ => by simp at hl
  | _ :: _, [], hl, _ => by simp at hl
theorem cons_at (c : Cons r q) {i : Nat} {m : M} (e : r[i]? = some (some m)) : ∃ v, q[i]? = some (some v) := by
  obtain ⟨v, h, _⟩ := cons_get c e
  exact ⟨v, h⟩
theorem slots_congr : ∀ {r : Env} {q q' : L2.St}, q.length = q'.length → (∀ (i : Nat) (m : M), r[i]? = some (some m) → q[i]? = q'[i]?) → slots r q = slots r q'
  | [], _, _, _, _ => by simp [slots]
  | _ :: _, [], [], _, _ => rfl
  | none :: r, x :: q, y :: q', hl, h => by
    have ih := slots_congr (r := r) (q := q) (q' := q') (by simpa using hl) fun i m e => by simpa using h (i + 1) m (by simpa using e)
    cases x <;> cases y <;> exact ih
  | some m :: r, x :: q, y :: q', hl, h => by
    have ih := slots_congr (r := r) (q := q) (q' := q') (by simpa using hl) fun i m e => by simpa using h (i + 1) m (by simpa using e)
    have e0 : x = y := by simpa using h 0 m rfl
    subst e0
    cases x with
    | none => exact ih
    | some v => exact congrArg ((m, v) :: ·) ih
  | _ :: _, [], _ :: _, hl, _ => by simp at hl
  | _ :: _, _ :: _, [], hl, _ => by simp at hl
/-- r0 where p, else r -/
def mrg (p : Nat → Bool) : Env → Env → Env
  | a :: r0, b :: r => (if p 0 then a else b) :: mrg (fun i => p (i + 1)) r0 r
  | _, _ => []
def nul (r : Env) : Env := r.map fun _ => none
theorem mrg_perm : ∀ {p : Nat → Bool} {r0 r : Env} {q : L2.St}, r0.length = r.length → Cons r0 q → Cons r q → (slots (mrg p r0 r) q).Perm (slots (mrg p r0 (nul r)) q ++ slots (mrg p (nul r0) r) q)
  | _, [], [], _, _, _, _ => by simp [mrg, slots]
  | p, a :: r0, b :: r, [], _, c, _ => by cases a <;> exact False.elim c
  | p, a :: r0, b :: r, x :: q, hl, c, c2 => by
    have d : Cons r0 q := by cases a with
      | none => exact c
      | some _ => exact c.2
    have d2 : Cons r q := by cases b with
      | none => exact c2
      | some _ => exact c2.2
    have ih := mrg_perm (p := fun i => p (i + 1)) (r0 := r0) (r := r) (q := q) (by simpa using hl) d d2
    simp only [mrg, nul, List.map_cons]
    by_cases hp : p 0 = true
    · simp only [hp, if_true]
      cases a with
      | none => cases x <;> exact ih
      | some m =>
        obtain ⟨⟨v, rfl⟩, _⟩ := c
        exact List.Perm.cons _ ih
    · simp only [hp]
      cases b with
      | none => cases x <;> exact ih
      | some m =>
        obtain ⟨⟨v, rfl⟩, _⟩ := c2
        exact (List.Perm.cons _ ih).trans List.perm_middle.symm
  | _, [], _ :: _, _, hl, _, _ => by simp at hl
  | _, _ :: _, [], _, hl, _, _ => by simp at hl
theorem mrg_cons : ∀ {p : Nat → Bool} {r0 r : Env} {q : L2.St}, Cons r0 q → Cons r q → Cons (mrg p r0 r) q
  | _, [], [], _, c, _ => c
  | _, [], b :: _, [], _, c => by cases b <;> exact False.elim c
  | _, [], _ :: _, _ :: _, c, _ => False.elim c
  | _, b :: _, [], [], c, _ => by cases b <;> exact False.elim c
  | _, _ :: _, [], _ :: _, _, c => False.elim c
  | p, a :: r0, b :: r, [], c, _ => by cases a <;> exact False.elim c
  | p, a :: r0, b :: r, x :: q, c, c2 => by
    have d : Cons r0 q := by cases a with
      | none => exact c
      | some _ => exact c.2
    have d2 : Cons r q := by cases b with
      | none => exact c2
      | some _ => exact c2.2
    have ih := mrg_cons (p := fun i => p (i + 1)) d d2
    simp only [mrg]
    by_cases hp : p 0 = true
    · simp only [hp, if_true]
      cases a with
      | none => exact ih
      | some m => exact ⟨c.1, ih⟩
    · simp only [hp]
      cases b with
      | none => exact ih
      | some m => exact ⟨c2.1, ih⟩
theorem mrg_get : ∀ {p : Nat → Bool} {r0 r : Env} {i : Nat}, r0.length = r.length → (mrg p r0 r)[i]? = if p i then r0[i]? else r[i]?
  | _, [], [], i, _ => by simp [mrg]
  | p, a :: r0, b :: r, 0, _ => by
    simp only [mrg, List.getElem?_cons_zero]
    split <;> rfl
  | p, a :: r0, b :: r, i + 1, hl => by
    have ih := mrg_get (p := fun i => p (i + 1)) (r0 := r0) (r := r) (i := i) (by simpa using hl)
    simpa [mrg] using ih
  | _, [], _ :: _, _, hl => by simp at hl
  | _, _ :: _, [], _, hl => by simp at hl
theorem wipeE_len : ∀ {vs : List Nat} {r : Env}, (wipeE vs r).length = r.length
  | [], _ => rfl
  | v :: vs, r => by rw [wipeE, List.length_set, wipeE_len]
theorem wipeE_get : ∀ {vs : List Nat} {r : Env} {i : Nat}, (wipeE vs r)[i]? = if i ∈ vs ∧ i < r.length then some none else r[i]?
  | [], r, i => by simp [wipeE]
  | v :: vs, r, i => by
    rw [wipeE, List.getElem?_set]
    by_cases hv : v = i
    · subst hv
      rw [wipeE_len]
      by_cases hl : v < r.length
      · simp [hl]
      · simp [hl]
    · rw [if_neg hv, wipeE_get]
      have : (i ∈ v :: vs) ↔ i ∈ vs := by simp [Ne.symm hv]
      simp only [this]
theorem backE_len : ∀ {vs : List Nat} {r0 r : Env}, (backE vs r0 r).length = r.length
  | [], _, _ => rfl
  | v :: vs, r0, r => by rw [backE, List.length_set, backE_len]
theorem backE_get : ∀ {vs : List Nat} {r0 r : Env} {i : Nat}, r0.length = r.length → (backE vs r0 r)[i]? = if i ∈ vs then r0[i]? else r[i]?
  | [], r0, r, i, _ => by simp [backE]
  | v :: vs, r0, r, i, hl => by
    rw [backE, List.getElem?_set, backE_len]
    by_cases hv : v = i
    · subst hv
      by_cases hlt : v < r.length
      · have h0 : v < r0.length := by omega
        simp [hlt, h0, List.getD]
      · have h0 : r0.length ≤ v := by omega
        simp [hlt, h0]
    · rw [if_neg hv, backE_get hl]
      have : (i ∈ v :: vs) ↔ i ∈ vs := by simp [Ne.symm hv]
      simp only [this]
theorem nul_len {r : Env} : (nul r).length = r.length := by simp [nul]
theorem wipeE_mrg {vs : List Nat} {r : Env} : wipeE vs r = mrg (fun i => decide (i ∈ vs)) (nul r) r := by
  refine List.ext_getElem? fun i => ?_
  rw [wipeE_get, mrg_get nul_len]
  by_cases hv : i ∈ vs
  · by_cases hl : i < r.length
    · simp [hv, hl, nul]
    · simp [hv, hl, nul]
  · simp [hv]
theorem backE_mrg {vs : List Nat} {r0 r : Env} (hl : r0.length = r.length) : backE vs r0 r = mrg (fun i => decide (i ∈ vs)) r0 r := by
  refine List.ext_getElem? fun i => ?_
  rw [backE_get hl, mrg_get hl]
  simp
theorem mrg_self {p : Nat → Bool} {r : Env} : mrg p r r = r := by
  refine List.ext_getElem? fun i => ?_
  rw [mrg_get rfl]
  split <;> rfl
theorem mrg_nul {p : Nat → Bool} {r r1 : Env} (hl : r.length = r1.length) : nul r = nul r1 := by
  refine List.ext_getElem? fun i => ?_
  simp only [nul, List.getElem?_map]
  by_cases h : i < r.length
  · simp [h, hl ▸ h]
  · have h2 : ¬ i < r1.length := by omega
    simp [h, h2]
theorem wipe_at {vs : List Nat} {q : L2.St} {i : Nat} : (L2.wipe q vs)[i]? = if i ∈ vs ∧ i < q.length then some none else q[i]? := by
  induction vs with
  | nil => simp [L2.wipe]
  | cons v vs ih =>
    rw [L2.wipe, List.getElem?_set]
    by_cases hv : v = i
    · subst hv
      rw [L2.wipe_length]
      by_cases hl : v < q.length
      · simp [hl]
      · simp [hl]
    · rw [if_neg hv, ih]
      have : (i ∈ v :: vs) ↔ i ∈ vs := by simp [Ne.symm hv]
      simp only [this]
/-- the block's own slots wiped, on both sides -/
theorem wipe_cons {vs : List Nat} (c : Cons r q) : Cons (wipeE vs r) (L2.wipe q vs) := by
  refine cons_of (by rw [wipeE_len, L2.wipe_length, c.len]) fun i m e => ?_
  rw [wipeE_get] at e
  by_cases hv : i ∈ vs ∧ i < r.length
  · rw [if_pos hv] at e; cases e
  · rw [if_neg hv] at e
    rw [wipe_at, if_neg (by rw [← c.len]; exact hv)]
    exact cons_at c e
theorem unwipe_cons {vs : List Nat} (c : Cons r (L2.wipe q vs)) : Cons r q := by
  refine cons_of (by rw [c.len, L2.wipe_length]) fun i m e => ?_
  obtain ⟨v, h⟩ := cons_at c e
  exact ⟨v, (wipe_some h).1⟩
theorem unwipe_slots {vs : List Nat} (c : Cons r (L2.wipe q vs)) : slots r (L2.wipe q vs) = slots r q := by
  refine slots_congr (L2.wipe_length _ _) fun i m e => ?_
  obtain ⟨v, h⟩ := cons_at c e
  rw [h, (wipe_some h).1]
theorem wipe_live {vs : List Nat} (c : Cons r q) (l : Live T H (slots r q ++ ts)) : Live T H (slots (wipeE vs r) (L2.wipe q vs) ++ ts) := by
  rw [unwipe_slots (wipe_cons c)]
  have hp := mrg_perm (p := fun i => decide (i ∈ vs)) (r0 := r) (r := r) (q := q) rfl c c
  rw [mrg_self, ← wipeE_mrg] at hp
  have l2 := l.perm (hp.append_right ts)
  rw [List.append_assoc] at l2
  exact Live.dropL l2
/-- what the own slots held is laid by -/
theorem stash {vs : List Nat} (c : Cons r q) : ∃ st : List (M × V), (∀ H ts, Live T H (slots r q ++ ts) → Live T H (slots (wipeE vs r) (L2.wipe q vs) ++ (st ++ ts))) ∧
    ∀ r2 H ts, Cons r2 (L2.wipe q vs) → Live T H (slots r2 (L2.wipe q vs) ++ (st ++ ts)) → Cons (backE vs r r2) q ∧ Live T H (slots (backE vs r r2) q ++ ts) := by
  refine ⟨slots (mrg (fun i => decide (i ∈ vs)) r (nul r)) q, fun H ts l => ?_, fun r2 H ts c2 l => ?_⟩
  · rw [unwipe_slots (wipe_cons c)]
    have hp := mrg_perm (p := fun i => decide (i ∈ vs)) (r0 := r) (r := r) (q := q) rfl c c
    rw [mrg_self, ← wipeE_mrg] at hp
    have l2 := l.perm (hp.append_right ts)
    rw [List.append_assoc] at l2
    exact toMid l2
  · have hl : r.length = r2.length := by rw [c.len, c2.len, L2.wipe_length]
    rw [backE_mrg hl]
    refine ⟨mrg_cons c (unwipe_cons c2), ?_⟩
    have hp := mrg_perm (p := fun i => decide (i ∈ vs)) (r0 := r) (r := r2) (q := q) hl c (unwipe_cons c2)
    have e2 : mrg (fun i => decide (i ∈ vs)) (nul r) r2 = r2 := by
      refine List.ext_getElem? fun i => ?_
      rw [mrg_get (by rw [nul_len, hl])]
      by_cases hv : i ∈ vs
      · simp only [hv, decide_true, if_true]
        by_cases hi : i < r.length
        · have h1 : (nul r)[i]? = some none := by simp [nul, hi]
          rw [h1]
          have hi2 : i < r2.length := by omega
          cases e : r2[i] with
          | none => rw [List.getElem?_eq_getElem hi2, e]
          | some m =>
            have : r2[i]? = some (some m) := by rw [List.getElem?_eq_getElem hi2, e]
            obtain ⟨v, h⟩ := cons_at c2 this
            exact absurd hv (wipe_some h).2
        · have hi2 : ¬ i < r2.length := by omega
          simp [nul, hi, hi2]
      · simp [hv]
    rw [e2, mrg_nul (p := fun _ => true) hl.symm] at hp
    rw [unwipe_slots c2] at l
    refine Live.perm ?_ (hp.append_right ts).symm
    rw [List.append_assoc]
    exact toFront l
/-! ### a turn -/
def cpK (f : W → Env → R (Option W)) (ws acc : List W) : R (Option W) → R (List W)
  | .ok (some x) r' => if acc.length < LIM then compL f ws r' (acc ++ [x]) else .stuck
  | .ok none r' => compL f ws r' acc
  | _ => .stuck
theorem compL_cons {f : W → Env → R (Option W)} {w : W} {ws acc : List W} {r : Env} : compL f (w :: ws) r acc = cpK f ws acc (f w r) := by
  rw [compL]
  unfold cpK
  rfl
theorem cp_bind {α β : Type} {S : β → Env → Prop} {S' : α → Env → Prop} {z : R α} {g : α → Env → R (Option W)} {f : W → Env → R (Option W)} {ws acc : List W} {K : List W → Env → R β}
    (k : okR T Ex q ts S ((cpK f ws acc (z.bind g)).bind K)) (n : ∀ x r, okR T Ex q ts S ((cpK f ws acc (g x r)).bind K) → S' x r) : okR T Ex' q' ts' S' z := by
  cases z with
  | ok x r => exact n x r k
  | exc w r => exact False.elim k
  | stuck => exact False.elim k
theorem pts_imp {t t' : TT} (h : PTs X ifs t) (i : ∀ q H Q, t' q H Q → t q H Q) : PTs X ifs t' := ⟨fun pins s q H Q I w => h.run pins s q H Q I (i q H Q w)⟩
theorem sc_none : PTs X [] (tT T Ex (evC h .none)) := pts_imp pts_nil fun q H Q ⟨r, ts, c, l, k⟩ => by
  simp only [evC] at k
  exact k _ c l
theorem sc_some {y : E} (hc : PT X c (tTst T Ex h y)) : PTs X [c] (tT T Ex (evC h (.some y))) := pts_imp (pts_one hc) fun q H Q ⟨r, ts, c, l, k⟩ => by
  simp only [evC] at k
  exact ⟨r, ts, c, l, k⟩
theorem lk_wipe {own : List Nat} (hl : q'.length = q.length) (k : Lk (fun i => i ∉ own) (L2.wipe q own) q') : L2.wipe q' own = L2.wipe q own := by
  refine List.ext_getElem? fun i => ?_
  rw [wipe_at, wipe_at, hl]
  by_cases hv : i ∈ own ∧ i < q.length
  · rw [if_pos hv, if_pos hv]
  · rw [if_neg hv, if_neg hv]
    by_cases hi : i < q.length
    · have h2 := k i fun z => hv ⟨z, hi⟩
      rw [wipe_at, if_neg hv] at h2
      exact h2
    · rw [List.getElem?_eq_none (by omega), List.getElem?_eq_none (by omega)]
mutual
theorem bindT_len : ∀ {t : Dn.T} {w : W} {r r' : Env}, bindT t w r = some r' → r'.length = r.length
  | .nm i, w, r, r', h => by
    simp only [bindT, Option.some.injEq] at h
    rw [← h, List.length_set]
  | .tp us, .tup ws, r, r', h => bindTs_length (by simpa [bindT] using h)
  | .tp us, .lst ws, r, r', h => bindTs_length (by simpa [bindT] using h)
  | .tp us, .non, _, _, h => by simp [bindT] at h
  | .tp us, .bl _, _, _, h => by simp [bindT] at h
  | .tp us, .int _, _, _, h => by simp [bindT] at h
  | .tp us, .str _, _, _, h => by simp [bindT] at h
  | .tp us, .dct _ _, _, _, h => by simp [bindT] at h
  | .tp us, .ins _ _ _, _, _, h => by simp [bindT] at h
  | .tp us, .scr _, _, _, h => by simp [bindT] at h
  | .tp us, .fn _, _, _, h => by simp [bindT] at h
  | .tp us, .exc _ _ _, _, _, h => by simp [bindT] at h
theorem bindTs_length : ∀ {t : List Dn.T} {w : List W} {r r' : Env}, bindTs t w r = some r' → r'.length = r.length
  | [], [], r, r', h => by
    simp only [bindTs, Option.some.injEq] at h
    rw [h]
  | [], _ :: _, _, _, h => by simp [bindTs] at h
  | _ :: _, [], _, _, h => by simp [bindTs] at h
  | t :: us, w :: ws, r, r', h => by
    simp only [bindTs] at h
    split at h
    · rename_i r1 e
      rw [bindTs_length h, bindT_len e]
    · cases h
end
theorem perm_sw {α : Type} (a b c : List α) : (a ++ (b ++ c)).Perm (b ++ (a ++ c)) := by
  rw [← List.append_assoc, ← List.append_assoc]
  exact List.perm_append_comm.append_right _
/-- the comprehension's meaning gives what its rule asks -/
theorem lc_rd {own : List Nat} {t : Dn.T} {it : It} {oc : OE} {y : E} {Q : VK} {r : Env} (c : Cons r q) (l : Live T H (slots r q ++ ts)) (k : okE T Ex q ts Q (evE h (.comp own t it oc y) r)) :
    tLc (tI T Ex (evI h it)) (tTg T (fun i => i ∉ own) t) (tT T Ex' (evC h oc)) (tE T Ex' (evE h y)) own q H Q := by
  unfold okE at k
  simp only [evE] at k
  refine ⟨r, ts, c, l, ?_⟩
  generalize hf : (fun w r => match bindT t w r with
        | some r2 => (evC h oc r2).bind fun k r3 => if k then (evE h y r3).w.bind fun x r4 => .ok (some x) (wipeE own r4) else .ok none (wipeE own r3)
        | none => .stuck) = f at k
  refine (okR.bind k).imp fun ws r1 k1 J src H1 gv c1 l1 => fun D hD => ?_
  obtain ⟨st, st1, st2⟩ := stash (T := T) (vs := own) c1
  have l2 : Live T (upd H1 D (.lst [])) ((.ls [], .ref D) :: (src ++ (slots (wipeE own r1) (L2.wipe q own) ++ (st ++ ts)))) := by
    refine Live.newL (ws := []) (vs := []) ?_ rfl hD
    have h1 : Live T H1 (slots r1 q ++ (src ++ ts)) := toMid l1
    have h2 := st1 _ _ h1
    refine h2.perm ?_
    show (slots (wipeE own r1) (L2.wipe q own) ++ (st ++ (src ++ ts))).Perm (src ++ (slots (wipeE own r1) (L2.wipe q own) ++ (st ++ ts)))
    rw [← List.append_assoc, ← List.append_assoc, ← List.append_assoc, ← List.append_assoc]
    refine List.Perm.append_right ts ?_
    refine List.perm_append_comm.trans (List.Perm.of_eq ?_)
    rw [List.append_assoc]
  generalize hS : (fun (m : M) (r' : Env) => ∀ v H', Cons r' q → Live T H' ((m, v) :: (slots r' q ++ ts)) → Q v H') = S at k1
  refine ⟨fun i m H' => m = ws.length - i ∧ ∃ acc re, Cons re (L2.wipe q own) ∧ Live T H' ((.ls acc, .ref D) :: (src ++ (slots re (L2.wipe q own) ++ (st ++ ts)))) ∧
    okR T Ex q ts S ((compL f (ws.drop i) re acc).bind fun xs r2 => R.ok (M.ls xs) (backE own r1 r2)), ⟨ws.length, by simp, [], wipeE own r1, wipe_cons c1, l2, k1⟩, ?_⟩
  rintro i m H2 ⟨rfl, acc, re, c3, l3, k3⟩
  have lsrc : Live T H2 (src ++ ((.ls acc, .ref D) :: (slots re (L2.wipe q own) ++ (st ++ ts)))) := l3.perm List.perm_middle.symm
  by_cases hi : i < ws.length
  · right
    have hget : ws[i]? = some ws[i] := List.getElem?_eq_getElem hi
    rw [List.drop_eq_getElem_cons hi, compL_cons] at k3
    refine ⟨gv.go i _ _ _ hget lsrc, fun H' => ∃ acc re, Cons re (L2.wipe q own) ∧ Live T H' ((.ls acc, .ref D) :: (src ++ (slots re (L2.wipe q own) ++ (st ++ ts)))) ∧
      okR T Ex q ts S ((compL f (ws.drop (i + 1)) re acc).bind fun xs r2 => R.ok (M.ls xs) (backE own r1 r2)), fun H' hN => ⟨ws.length - (i + 1), by omega, rfl, hN⟩, fun x H' hy => ?_⟩
    have ly := gv.yld i _ _ _ x H' hget lsrc hy
    have hfw : f ws[i] re = match bindT t ws[i] re with
        | some r2 => (evC h oc r2).bind fun k r3 => if k then (evE h y r3).w.bind fun x r4 => .ok (some x) (wipeE own r4) else .ok none (wipeE own r3)
        | none => .stuck := by rw [← hf]
    rw [hfw] at k3
    cases hb : bindT t ws[i] re with
    | none => rw [hb] at k3; exact False.elim k3
    | some r2 =>
      rw [hb] at k3
      generalize hts : (M.ls acc, V.ref D) :: (src ++ (st ++ ts)) = ts2
      have swp : ∀ {H' : Hp} {a : List (M × V)} {z : List W}, Live T H' (a ++ ((M.ls z, V.ref D) :: (src ++ (st ++ ts)))) → Live T H' ((.ls z, .ref D) :: (src ++ (a ++ (st ++ ts)))) := fun {H' a z} l => by
        refine l.perm (List.Perm.trans List.perm_middle (List.Perm.cons _ ?_))
        exact perm_sw _ _ _
      have ly2 : Live T H' ((.im ws[i], x) :: (slots re (L2.wipe q own) ++ ts2)) := by
        rw [← hts]
        refine ly.perm (List.Perm.cons _ ?_)
        refine List.Perm.trans List.perm_middle (List.Perm.trans (List.Perm.cons _ ?_) List.perm_middle.symm)
        exact perm_sw _ _ _
      refine ⟨ws[i], re, ts2, r2, c3, ly2, hb, fun q2 c4 lk l4 => ?_⟩
      have hq2 : q2.length = q.length := by rw [← c4.len, bindT_len hb, c3.len, L2.wipe_length]
      have hw := lk_wipe hq2 lk
      refine ⟨hw, r2, ts2, c4, l4, cp_bind k3 fun z r3 k4 H4 c5 l5 => ?_⟩
      cases z with
      | false =>
        refine ⟨acc, wipeE own r3, by rw [← hw]; exact wipe_cons c5, ?_, k4⟩
        have l6 := wipe_live (vs := own) c5 l5
        rw [hw, ← hts] at l6
        exact swp l6
      | true =>
        refine ⟨r3, ts2, c5, l5, ?_⟩
        simp only [if_true, w_bindA] at k4
        refine cp_bind k4 fun m r4 k5 v H5 c6 l6 => ?_
        have k6 : okR T Ex q ts S ((if acc.length < LIM then compL f (ws.drop (i + 1)) (wipeE own r4) (acc ++ [m.fz]) else R.stuck).bind fun xs r2 => R.ok (M.ls xs) (backE own r1 r2)) := k5
        split at k6
        · rename_i hz
          have l7 : Live T H5 (slots (wipeE own r4) (L2.wipe q own) ++ ((.im m.fz, v) :: ts2)) := by
            have l8 := wipe_live (vs := own) c6 (l6.freeze.perm List.perm_middle.symm)
            rw [hw] at l8
            exact l8
          rw [← hts] at l7
          have l9 : Live T H5 ((.ls acc, .ref D) :: (.im m.fz, v) :: (src ++ (slots (wipeE own r4) (L2.wipe q own) ++ (st ++ ts)))) := by
            refine l7.perm ?_
            refine List.Perm.trans List.perm_middle (List.Perm.trans (List.Perm.cons _ ?_) (List.Perm.swap _ _ _))
            refine List.Perm.trans List.perm_middle (List.Perm.cons _ ?_)
            exact perm_sw _ _ _
          obtain ⟨a, xs, e1, e2, e3, hh⟩ := l9.openO
          cases e1
          refine ⟨xs, e2, Nat.lt_of_lt_of_le (by omega) LIM_line, acc ++ [m.fz], wipeE own r4, by rw [← hw]; exact wipe_cons c6, ?_, k6⟩
          refine Live.write (ws := acc) ?_ (by rw [List.length_append, List.length_append, e3]; rfl)
          rw [ims_append e3]
          refine hh.perm ?_
          rw [List.append_assoc]
          exact List.Perm.append_left _ (List.Perm.swap _ _ _)
        · exact False.elim k6
  · left
    rw [List.drop_eq_nil_of_le (by omega)] at k3
    refine ⟨gv.stop i _ _ (by omega) lsrc, ?_⟩
    have l4 : Live T H2 (slots re (L2.wipe q own) ++ (st ++ ((.ls acc, .ref D) :: ts))) := by
      have l5 : Live T H2 (src ++ ((.ls acc, .ref D) :: (slots re (L2.wipe q own) ++ (st ++ ts)))) := lsrc
      have l6 := Live.dropL l5
      refine l6.perm ?_
      refine List.Perm.symm (List.Perm.trans (List.Perm.append_left _ List.perm_middle) List.perm_middle)
    obtain ⟨c5, l5⟩ := st2 re H2 _ c3 l4
    have k4 : S (.ls acc) (backE own r1 re) := k3
    rw [← hS] at k4
    exact k4 _ _ c5 (l5.perm List.perm_middle)
theorem se_lc {scope : Scope} {own : List (Str × Nat)} {t : Dn.T} {it : It} {oc : OE} {y : E} (hc : X.calm = true) (hN : X.N.Nodup) (ok : BlkOk X.N X.env.scope scope own) (hi : PI X tg iter (tI T Ex (evI h it)))
    (hg : ∀ (s : Shared) (H : Hp) (C : Addr) (cl : List (Str × Addr)) (fp : List Addr), PG (X.blk s H scope (compEnvC scope cl C X.env) fp) tg (tTg T (fun i => i ∉ own.map (·.2)) t))
    (ht : ∀ (s : Shared) (H : Hp) (C : Addr) (cl : List (Str × Addr)) (fp : List Addr), PTs (X.blk s H scope (compEnvC scope cl C X.env) fp) ifs (tT T Ex' (evC h oc)))
    (he : ∀ (s : Shared) (H : Hp) (C : Addr) (cl : List (Str × Addr)) (fp : List Addr), PE (X.blk s H scope (compEnvC scope cl C X.env) fp) elt (tE T Ex' (evE h y))) (hs : ∀ x, foldedSetIterable iter X.env x = pure x) :
    PE X (.ListComp elt [⟨tg, iter, ifs, 0⟩] scope pos) (tE T Ex (evE h (.comp (own.map (·.2)) t it oc y))) :=
  pe_imp (pe_lc hc hN hi ok hg ht he hs) fun q H Q ⟨r, ts, c, l, k⟩ => lc_rd c l k
end
end Dn
-- Dn14
set_option maxRecDepth 100000
set_option maxHeartbeats 1000000
/-! Tests that leave all as it was; statements. -/
namespace Dn
open PySem PySem.Spec PyProof.Rows L2
section
variable {T : Tb} {Ex Ex' : WX} {q q' q0 : L2.St} {ts ts' tl : List (M × V)} {X : Cx} {e a b c tg elt iter : Expr} {es rest ifs : List Expr} {pos p p2 tpos : Pos} {H H' : Hp} {h : Th} {x : Str} {r r0 : Env} {lk : Nat → Prop}
/-! ### pur -/
theorem Live.pinned {G : Hp} {v : V} {l : List (M × V)} (hl : Live T H ((.pin G, v) :: l)) : Same G H := by
  obtain ⟨F, fp, s, k⟩ := hl
  cases k with
  | cons k1 _ _ => exact k1.2.2.trans s
theorem Live.again {l : List (M × V)} (hl : Live T H l) (e : Same H H') : Live T H' l := by
  obtain ⟨F, fp, s, k⟩ := hl
  refine ⟨F, fp, s.trans e, k.mono (Same.refl _) (fun a ha => (k.own s a ha).2) fun a ha => ?_⟩
  obtain ⟨⟨o, h1⟩, _⟩ := k.own s a ha
  rw [h1, e a o h1]
theorem frz_len : (frzE r).length = r.length := by simp [frzE]
theorem frz_cons (c : Cons r q) : Cons (frzE r) q := by
  refine cons_of (by rw [frz_len, c.len]) fun i m e => ?_
  simp only [frzE, List.getElem?_map] at e
  cases e2 : r[i]? with
  | none => rw [e2] at e; cases e
  | some o =>
    cases o with
    | none => rw [e2] at e; cases e
    | some m' => exact cons_at c e2
theorem slots_frz : ∀ {r : Env} {q : L2.St}, slots (frzE r) q = (slots r q).map fun x => (.im x.1.fz, x.2)
  | [], _ => by simp [slots, frzE]
  | none :: r, [] => rfl
  | some _ :: r, [] => rfl
  | none :: r, x :: q => by
    have ih := slots_frz (r := r) (q := q)
    simp only [frzE] at ih ⊢
    cases x <;> simpa [slots] using ih
  | some m :: r, x :: q => by
    have ih := slots_frz (r := r) (q := q)
    simp only [frzE] at ih ⊢
    cases x <;> simpa [slots] using ih
theorem LV.frzAll {F : Hp} {l : List (M × V)} {fp : List Addr} (s : Same F H) (k : LV T F H l fp) : LV T H H (l.map fun x => (.im x.1.fz, x.2)) [] := by
  induction k with
  | nil => exact .nil
  | @cons m v l f g k1 k2 k3 ih =>
    have hm : RepM T H H (.im m.fz) [] v := by
      cases m with
      | im w => exact ⟨rfl, k1.2.mono s⟩
      | ls ws =>
        obtain ⟨a, vs, e1, e2, e3, e4, e5⟩ := k1
        exact ⟨rfl, a, vs, e1, e3, e5.mono s⟩
      | pin G => exact ⟨rfl, k1.2.1⟩
      | _ => exact False.elim k1
    exact LV.cons (f := []) hm ih (by simp)
theorem live_frz (l : Live T H (slots r q ++ ts)) : Live T H (slots (frzE r) q ++ [(.pin H, .non)]) := by
  have l2 : Live T H (slots r q) := by
    have h2 : Live T H (ts ++ slots r q) := l.perm List.perm_append_comm
    exact Live.dropL h2
  obtain ⟨F, fp, s, k⟩ := l2
  have k2 := k.frzAll s
  rw [← slots_frz] at k2
  have k3 : LV T H H ((.pin H, .non) :: slots (frzE r) q) ([] ++ []) := LV.cons (m := .pin H) ⟨rfl, rfl, Same.refl _⟩ k2 (by simp)
  exact Live.perm ⟨H, _, Same.refl _, k3⟩ (by
    have h3 : ((M.pin H, V.non) :: slots (frzE r) q).Perm (slots (frzE r) q ++ [(M.pin H, V.non)]) := (List.perm_append_comm (l₁ := [(M.pin H, V.non)]) (l₂ := slots (frzE r) q))
    exact h3)
theorem pin_back {m : M} {v : V} {r1 : Env} (l : Live T H (slots r q ++ ts)) (l1 : Live T H' ((m, v) :: (slots r1 q ++ [(.pin H, .non)]))) : Live T H' (slots r q ++ ts) := by
  refine l.again ?_
  have l2 : Live T H' (slots r1 q ++ [(.pin H, .non)]) := l1.tail
  exact (l2.perm (List.perm_append_comm)).pinned
theorem plain_of {m : M} {w : W} (e : plainM m = some w) : m = .im w ∧ ∀ {v : V} {l : List (M × V)}, Live T H ((m, v) :: l) → Plain w v := by
  cases m with
  | im u =>
    cases u <;> first | (cases e; done) | (cases e; refine ⟨rfl, fun {v l} hl => ?_⟩; obtain ⟨F, fp, s, k⟩ := hl; cases k with | cons k1 _ _ => exact k1.2)
  | _ => cases e
theorem se_pur {y : E} (ha : PE X a (tE T Ex (evE h y))) : PE X a (tE T Ex (evE h (.pur y))) := by
  refine pe_imp ha fun q H Q ⟨r, ts, c, l, k⟩ => ?_
  refine ⟨frzE r, [(.pin H, .non)], frz_cons c, live_frz l, ?_⟩
  simp only [evE] at k
  cases e : evE h y (frzE r) with
  | ok m r1 =>
    rw [e] at k
    simp only at k
    cases e2 : plainM m with
    | none => rw [e2] at k; exact False.elim k
    | some w =>
      rw [e2] at k
      intro v H1 c1 l1
      exact k v H1 c ((pin_back l l1).plain ((plain_of e2).2 l1))
  | exc w r1 => rw [e] at k; exact False.elim k
  | stuck => rw [e] at k; exact False.elim k
theorem pur_tst {y : E} {Q : Bool → Hp → Prop} (c : Cons r q) (l : Live T H (slots r q ++ ts)) (k : okR T Ex q ts (fun b r => ∀ H, Cons r q → Live T H (slots r q ++ ts) → Q b H) (evE h (.pur y) r).tru) :
    okR T Ex q [(.pin H, .non)] (fun b r => ∀ H', Cons r q → Live T H' (slots r q ++ [(.pin H, .non)]) → Q b H') (evE h y (frzE r)).tru := by
  simp only [evE] at k
  cases e : evE h y (frzE r) with
  | ok m r1 =>
    rw [e] at k
    simp only at k
    cases e2 : plainM m with
    | none => rw [e2] at k; exact False.elim k
    | some w =>
      rw [e2] at k
      obtain ⟨z, e3, hq⟩ := ofO_ok (show okR T Ex q ts _ (R.ofO r (truW w)) from k)
      have em := (plain_of (T := T) (H := H) e2).1
      subst em
      show okR T Ex q _ _ (R.ofO r1 (truW w))
      rw [e3]
      intro H1 c1 l1
      exact hq H1 c (pin_back (m := .im (.bl true)) (v := .bl true) l (l1.plain rfl))
  | exc w r1 => rw [e] at k; exact False.elim k
  | stuck => rw [e] at k; exact False.elim k
theorem st_pur {y : E} (ha : PT X a (tTst T Ex h y)) : PT X a (tTst T Ex h (.pur y)) :=
  pt_imp ha fun q H Q ⟨r, ts, c, l, k⟩ => ⟨frzE r, [(.pin H, .non)], frz_cons c, live_frz l, pur_tst c l k⟩

/-! ### statements -/
/-- what a statement's meaning asks -/
def okS (T : Tb) (Ex : WX) (lk : Nat → Prop) (q : L2.St) (ts : List (M × V)) (D : Ends) : R Fl → Prop
  | .ok .nx r => ∀ q' H, Cons r q' → Lk lk q q' → Live T H (slots r q' ++ ts) → D.nx q' H
  | .ok .bk r => ∀ q' H, Cons r q' → Lk lk q q' → Live T H (slots r q' ++ ts) → D.bk q' H
  | .ok (.ret m) r => ∀ v q' H, Cons r q' → Lk lk q q' → Live T H ((m, v) :: (slots r q' ++ ts)) → D.rt v H
  | .exc w r => ∀ cls d q' H, Cons r q' → Lk lk q q' → ExcLive T H w cls d (slots r q' ++ ts) → Ex cls d q' H
  | .stuck => False
def tS (T : Tb) (Ex : WX) (lk : Nat → Prop) (d : Env → R Fl) : TS := fun D q H => ∃ r ts, Cons r q ∧ Live T H (slots r q ++ ts) ∧ okS T Ex lk q ts D (d r)
theorem okS.lkk {D : Ends} {z : R Fl} (k : okS T Ex lk q ts D z) (l : Lk lk q q') : okS T Ex lk q' ts D z := by
  cases z with
  | ok f r =>
    cases f with
    | nx => exact fun q2 H c k2 => k q2 H c (l.trans k2)
    | bk => exact fun q2 H c k2 => k q2 H c (l.trans k2)
    | ret m => exact fun v q2 H c k2 => k v q2 H c (l.trans k2)
  | exc w r => exact fun cls d q2 H c k2 => k cls d q2 H c (l.trans k2)
  | stuck => exact k
theorem okS.bind {α : Type} {D : Ends} {z : R α} {g : α → Env → R Fl} (k : okS T Ex lk q ts D (z.bind g)) : okR T Ex q ts (fun m r => okS T Ex lk q ts D (g m r)) z := by
  cases z with
  | ok m r => exact k
  | exc w r => exact fun cls d H c z => k cls d q H c Lk.refl z
  | stuck => exact k
theorem ps_imp {st : Stmt} {t t' : TS} (h : PS X st t) (i : ∀ D q H, t' D q H → t D q H) : PS X st t' := ⟨fun pins s q H D I w => h.run pins s q H D I (i D q H w)⟩
theorem pss_imp {st : List Stmt} {t t' : TS} (h : PSs X st t) (i : ∀ D q H, t' D q H → t D q H) : PSs X st t' := ⟨fun pins s q H D I w => h.run pins s q H D I (i D q H w)⟩
theorem ss_nil : PSs X [] (tS T Ex lk (evSs h .nil)) := pss_imp pss_nil fun D q H ⟨r, ts, c, l, k⟩ => by
  simp only [evSs] at k
  exact k q H c Lk.refl l
theorem ss_cons {st : Stmt} {rs : List Stmt} {s : S} {ss : Ss} (h1 : PS X st (tS T Ex lk (evS h s))) (h2 : PSs X rs (tS T Ex lk (evSs h ss))) : PSs X (st :: rs) (tS T Ex lk (evSs h (.cons s ss))) := by
  refine pss_imp (pss_cons h1 h2) fun D q H ⟨r, ts, c, l, k⟩ => ?_
  simp only [evSs] at k
  refine ⟨r, ts, c, l, ?_⟩
  cases e : evS h s r with
  | ok f r1 =>
    rw [e] at k
    cases f with
    | nx => exact fun q2 H2 c2 k2 l2 => ⟨r1, ts, c2, l2, okS.lkk k k2⟩
    | bk => exact k
    | ret m => exact k
  | exc w r1 => rw [e] at k; exact k
  | stuck => rw [e] at k; exact k
/-- a docstring, or a statement that does nothing -/
theorem ss_skip {st : Stmt} {rs : List Stmt} {ss : Ss} (h1 : PS X st tNext) (h2 : PSs X rs (tS T Ex lk (evSs h ss))) : PSs X (st :: rs) (tS T Ex lk (evSs h ss)) :=
  pss_imp (pss_cons h1 h2) fun D q H z => z
/-- an expression first -/
theorem seqS {D : Ends} {d : Env → R M} {k : M → Env → R Fl} (c : Cons r q) (l : Live T H (slots r q ++ ts)) (h : okS T Ex lk q ts D ((d r).bind k)) {Q' : VK}
    (n : ∀ m r' v H', Cons r' q → Live T H' ((m, v) :: (slots r' q ++ ts)) → okS T Ex lk q ts D (k m r') → Q' v H') : tE T Ex d q H Q' :=
  ⟨r, ts, c, l, (okS.bind h).imp fun m r' h' v H' c' l' => n m r' v H' c' l' h'⟩
theorem seqST {D : Ends} {d : Env → R Bool} {k : Bool → Env → R Fl} (c : Cons r q) (l : Live T H (slots r q ++ ts)) (h : okS T Ex lk q ts D ((d r).bind k)) {Q' : Bool → Hp → Prop}
    (n : ∀ b r' H', Cons r' q → Live T H' (slots r' q ++ ts) → okS T Ex lk q ts D (k b r') → Q' b H') : tT T Ex d q H Q' :=
  ⟨r, ts, c, l, (okS.bind h).imp fun m r' h' H' c' l' => n m r' H' c' l' h'⟩
theorem swaps_no {e : Expr} {t : Option Expr} {n : Nat} {env : PySem.Env} (h : ∀ a b s p, e ≠ .ListComp a b s p) (h2 : ∀ a b s p, e ≠ .SetComp a b s p) (h3 : ∀ a b c s p, e ≠ .DictComp a b c s p) : swapsWith e t n env = pure false := by
  unfold swapsWith
  cases e <;> first | rfl | exact absurd rfl (h _ _ _ _) | exact absurd rfl (h2 _ _ _ _) | exact absurd rfl (h3 _ _ _ _ _)
/-- name = e -/
theorem set_rd {i : Nat} {y : E} {D : Ends} (hl : ¬ lk i) (c : Cons r q) (l : Live T H (slots r q ++ ts)) (k : okS T Ex lk q ts D (evS h (.set (.nm i) y) r)) : tAsg (tE T Ex (evE h y)) (gName i) D q H := by
  simp only [evS] at k
  refine seqS c l k fun m r1 v H1 c1 l1 k1 => ?_
  obtain ⟨c2, l2⟩ := slot_fill (i := i) c1 l1
  exact k1 _ _ c2 (lk_set hl) l2
theorem ss_set {i : Nat} {y : E} (hN : X.N.Nodup) (hi : X.N[i]? = some x) (hx : Loc X.env.scope x) (hf : X.fn x = true ∨ X.env.scope.names.lookup x = some .local) (hs : swapsWith a (some (.Name x p)) pos.line X.env = pure false) (hl : ¬ lk i)
    (ha : PE X a (tE T Ex (evE h y))) : PS X (.Assign [.Name x p] a pos) (tS T Ex lk (evS h (.set (.nm i) y))) :=
  ps_imp (ps_set hN hi hx ha hs hf) fun D q H ⟨r, ts, c, l, k⟩ => set_rd hl c l k
/-- a, b = e -/
theorem ss_setT {us : List Dn.T} {y : E} {es : List Expr} {kk : Nat} (hg : PG X (.Tuple es kk p) (tTg T lk (.tp us))) (hs : swapsWithSole [.Tuple es kk p] a pos.line X.env = pure false) (hw : swappedStores [.Tuple es kk p] a X.env = pure none) (ha : PE X a (tE T Ex (evE h y))) :
    PS X (.Assign [.Tuple es kk p] a pos) (tS T Ex lk (evS h (.set (.tp us) y))) := by
  refine ps_imp (ps_asg ha hg hs hw rfl) fun D q H ⟨r, ts, c, l, k⟩ => ?_
  simp only [evS] at k
  refine seqS c l k fun m r1 v H1 c1 l1 k1 => ?_
  cases e : setT (.tp us) m r1 with
  | none => rw [e] at k1; exact False.elim k1
  | some r2 =>
    rw [e] at k1
    exact ⟨m.fz, r1, ts, r2, c1, l1.freeze, e, fun q2 c2 k2 l2 => k1 q2 _ c2 k2 l2⟩
/-- name op= e -/
theorem ss_aug {i : Nat} {y : E} {o : BO} {op : Operator} {f : Int → Int → Int} (hN : X.N.Nodup) (hi : X.N[i]? = some x) (hx : Loc X.env.scope x) (hf : X.fn x = true ∨ X.env.scope.names.lookup x = some .local) (hl : ¬ lk i) (ho : PIp X op (ipI f))
    (hof : ∀ u w z, augW o u w = some z → ∃ i j, u = .int i ∧ w = .int j ∧ z = .int (f i j)) (ha : PE X a (tE T Ex (evE h y))) : PS X (.AugAssign (.Name x p) op a pos) (tS T Ex lk (evS h (.aug i o y))) := by
  refine ps_imp (ps_aug hN hi hx ha ho hf) fun D q H ⟨r, ts, c, l, k⟩ => ?_
  simp only [evS] at k
  cases e : getM r i with
  | none => rw [e] at k; exact False.elim k
  | some m =>
    cases m with
    | im u =>
      rw [e] at k
      simp only at k
      obtain ⟨v, e4⟩ := getM_slot c e
      obtain ⟨l0, h0, _⟩ := slot_look2 c e e4 l
      refine ⟨v, e4, ?_⟩
      rw [w_bindA] at k
      refine seqS c l k fun m r1 v1 H1 c1 l1 k1 => ?_
      cases e5 : augW o u m.fz with
      | none => rw [e5] at k1; exact False.elim k1
      | some z =>
        rw [e5] at k1
        obtain ⟨n1, n2, rfl, em, rfl⟩ := hof _ _ _ e5
        have l2 := l1.freeze
        rw [em] at l2
        refine ⟨n1, n2, h0.vint, l2.vint, ?_⟩
        obtain ⟨c2, l3⟩ := slot_fill (i := i) c1 (Live.plain (w := .int (f n1 n2)) (v := .int (f n1 n2)) l1.tail rfl)
        exact k1 _ _ c2 (lk_set hl) l3
    | _ => rw [e] at k; exact False.elim k
end
end Dn
-- Dn15
set_option maxRecDepth 100000
set_option maxHeartbeats 1000000
/-! Statements, further. -/
namespace Dn
open PySem PySem.Spec PyProof.Rows L2
section
variable {T : Tb} {Ex Ex' : WX} {q q' q0 : L2.St} {ts ts' tl : List (M × V)} {X : Cx} {e a b c tg elt iter : Expr} {es rest ifs : List Expr} {pos p p2 tpos : Pos} {H H' : Hp} {h : Th} {x y z : Str} {r r0 : Env} {lk : Nat → Prop} {D : Ends}
theorem seqSA {d : Env → R (List (Nat ⊕ M))} {k : List (Nat ⊕ M) → Env → R Fl} (c : Cons r q) (l : Live T H (slots r q ++ ts)) (h : okS T Ex lk q ts D ((d r).bind k)) {Q' : List V → Hp → Prop}
    (n : ∀ ws r' vs H', Cons r' q → AV q ws vs → Live T H' (tmp ws vs ++ (slots r' q ++ ts)) → okS T Ex lk q ts D (k ws r') → Q' vs H') : tA T Ex d q H Q' :=
  ⟨r, ts, c, l, (okS.bind h).imp fun ws r' h' vs H' c' hl l' => n ws r' vs H' c' hl l' h'⟩
theorem seqSI {d : Env → R (List W)} {k : List W → Env → R Fl} (c : Cons r q) (l : Live T H (slots r q ++ ts)) (h : okS T Ex lk q ts D ((d r).bind k)) {R' : L2.It → Hp → Prop}
    (n : ∀ ws r' J src H', Gives T J src ws → Cons r' q → Live T H' (src ++ (slots r' q ++ ts)) → okS T Ex lk q ts D (k ws r') → R' J H') : tI T Ex d q H R' :=
  ⟨r, ts, c, l, (okS.bind h).imp fun ws r' h' J src H' gv c' l' => n ws r' J src H' gv c' l' h'⟩
/-- a, b = .., .. -/
theorem par2_rd {i j : Nat} {as : As} (hi : ¬ lk i) (hj : ¬ lk j) (c : Cons r q) (l : Live T H (slots r q ++ ts)) (k : okS T Ex lk q ts D (evS h (.par [i, j] as) r)) : tPar i j (tA T Ex (evA h as)) D q H := by
  simp only [evS] at k
  refine seqSA c l k fun ws r1 vs H1 c1 av l1 k1 => ?_
  cases av with
  | nil => exact False.elim k1
  | inl _ _ => exact False.elim k1
  | inr av => cases av with
    | nil => exact False.elim k1
    | inl _ _ => exact False.elim k1
    | inr av => cases av with
      | inl _ _ => exact False.elim k1
      | inr _ => exact False.elim k1
      | nil =>
        rename_i m1 v1 m2 v2
        refine ⟨v1, v2, rfl, ?_⟩
        have l2 : Live T H1 ((m1, v1) :: (slots r1 q ++ ((m2, v2) :: ts))) := by
          have l0 : Live T H1 ((m1, v1) :: (m2, v2) :: (slots r1 q ++ ts)) := l1
          exact l0.perm (List.Perm.cons _ List.perm_middle.symm)
        obtain ⟨c2, l3⟩ := slot_fill (i := i) c1 l2
        obtain ⟨c3, l4⟩ := slot_fill (i := j) c2 (l3.perm List.perm_middle)
        exact k1 _ _ c3 ((lk_set hi).trans (lk_set hj)) l4
theorem ss_par2 {i j : Nat} {px py pt : Pos} {kt k2 : Nat} {pt2 : Pos} {as : As} (hc : X.calm = true) (hN : X.N.Nodup) (hi : X.N[i]? = some x) (hj : X.N[j]? = some y) (hij : i ≠ j)
    (hx : X.env.scope.names.lookup x = some .local) (hy : X.env.scope.names.lookup y = some .local) (ha : PA X [a, b] (tA T Ex (evA h as)))
    (hw : swappedStores [.Tuple [.Name x px, .Name y py] kt pt] (.Tuple [a, b] k2 pt2) X.env = pure (some [x, y])) (li : ¬ lk i) (lj : ¬ lk j) :
    PS X (.Assign [.Tuple [.Name x px, .Name y py] kt pt] (.Tuple [a, b] k2 pt2) pos) (tS T Ex lk (evS h (.par [i, j] as))) :=
  ps_imp (ps_par hc hN hi hj hij hx hy ha hw rfl) fun D q H ⟨r, ts, c, l, k⟩ => par2_rd li lj c l k
theorem par3_rd {i j n : Nat} {as : As} (hi : ¬ lk i) (hj : ¬ lk j) (hn : ¬ lk n) (c : Cons r q) (l : Live T H (slots r q ++ ts)) (k : okS T Ex lk q ts D (evS h (.par [i, j, n] as) r)) : tPar3 i j n (tA T Ex (evA h as)) D q H := by
  simp only [evS] at k
  refine seqSA c l k fun ws r1 vs H1 c1 av l1 k1 => ?_
  cases av with
  | nil => exact False.elim k1
  | inl _ _ => exact False.elim k1
  | inr av => cases av with
    | nil => exact False.elim k1
    | inl _ _ => exact False.elim k1
    | inr av => cases av with
      | nil => exact False.elim k1
      | inl _ _ => exact False.elim k1
      | inr av => cases av with
        | inl _ _ => exact False.elim k1
        | inr _ => exact False.elim k1
        | nil =>
          rename_i m1 v1 m2 v2 m3 v3
          refine ⟨v1, v2, v3, rfl, ?_⟩
          have l2 : Live T H1 ((m1, v1) :: (slots r1 q ++ ((m2, v2) :: (m3, v3) :: ts))) := by
            have l0 : Live T H1 ((m1, v1) :: (m2, v2) :: (m3, v3) :: (slots r1 q ++ ts)) := l1
            refine l0.perm (List.Perm.cons _ ?_)
            exact (List.Perm.cons _ List.perm_middle.symm).trans List.perm_middle.symm
          obtain ⟨c2, l3⟩ := slot_fill (i := i) c1 l2
          obtain ⟨c3, l4⟩ := slot_fill (i := j) c2 (l3.perm List.perm_middle)
          obtain ⟨c4, l5⟩ := slot_fill (i := n) c3 (l4.perm List.perm_middle)
          exact k1 _ _ c4 (((lk_set hi).trans (lk_set hj)).trans (lk_set hn)) l5
theorem ss_par3 {i j n : Nat} {px py pz pt : Pos} {kt k2 : Nat} {pt2 : Pos} {as : As} (hc : X.calm = true) (hN : X.N.Nodup) (hi : X.N[i]? = some x) (hj : X.N[j]? = some y) (hn : X.N[n]? = some z) (hij : i ≠ j) (hin : i ≠ n) (hjn : j ≠ n)
    (hx : X.env.scope.names.lookup x = some .local) (hy : X.env.scope.names.lookup y = some .local) (hz : X.env.scope.names.lookup z = some .local) (ha : PA X [a, b, e] (tA T Ex (evA h as)))
    (hw : swappedStores [.Tuple [.Name x px, .Name y py, .Name z pz] kt pt] (.Tuple [a, b, e] k2 pt2) X.env = pure (some [x, y, z])) (li : ¬ lk i) (lj : ¬ lk j) (ln : ¬ lk n) :
    PS X (.Assign [.Tuple [.Name x px, .Name y py, .Name z pz] kt pt] (.Tuple [a, b, e] k2 pt2) pos) (tS T Ex lk (evS h (.par [i, j, n] as))) :=
  ps_imp (ps_par3 hc hN hi hj hn hij hin hjn hx hy hz ha hw rfl) fun D q H ⟨r, ts, c, l, k⟩ => par3_rd li lj ln c l k
/-- name[i] = e -/
theorem ixN_len {n : Nat} {k : Int} {j : Nat} (h : L2.ixN n k = some j) : j < n := by
  unfold L2.ixN at h
  split at h
  · split at h
    · cases h; omega
    · cases h
  · split at h
    · cases h; omega
    · cases h
theorem ss_seti {i : Nat} {u w : E} {p3 : Pos} (hN : X.N[i]? = some x) (hv : Vis X.env.scope x) (hd : (x == ("__debug__" : Str)) = false) (hcd : (x == ("__classdict__" : Str)) = false) (hs : swapsWithSole [.Subscript (.Name x p) b p3] a pos.line X.env = pure false)
    (hw : swappedStores [.Subscript (.Name x p) b p3] a X.env = pure none) (ha : PE X a (tE T Ex (evE h w))) (hb : PE X b (tE T Ex (evE h u)))
    (hpl : ∀ v, assign (.Subscript (.Name x p) b p3) X.env v = (do
      let ov ← holding [v] (eval (.Name x p) X.env)
      let iv ← holding [v, ov] (eval b X.env)
      standAt p3
      holding [v, ov, iv] (setItem ov iv v)
      release [v, ov, iv] [])) :
    PS X (.Assign [.Subscript (.Name x p) b p3] a pos) (tS T Ex lk (evS h (.seti i [] u w))) := by
  refine ps_imp (ps_asg ha (pg_sub (pe_var hN hv hd hcd) hb set_list hpl) hs hw rfl) fun D q H ⟨r, ts, c, l, k⟩ => ?_
  simp only [evS, w_bindA] at k
  refine seqS c l k fun m r1 v H1 c1 l1 k1 => ?_
  split at k1
  · rename_i hh
    obtain ⟨m0, hm0⟩ := Option.isSome_iff_exists.mp hh.2
    obtain ⟨vo, hvo⟩ := getM_slot c1 hm0
    refine ⟨vo, hvo, ?_⟩
    rw [int_bindA] at k1
    have l2 : Live T H1 (slots r1 q ++ ((.im m.fz, v) :: ts)) := l1.freeze.perm List.perm_middle.symm
    refine ⟨r1, (.im m.fz, v) :: ts, c1, l2, okR.more ((okS.bind k1).imp fun m2 r2 k2 vi H2 c2 l3 => ?_)⟩
    cases m2 with
    | im w0 =>
      cases w0 with
      | int n =>
        simp only [intK] at k2
        cases e : getM r2 i with
        | none => rw [e] at k2; exact False.elim k2
        | some mo =>
          cases mo with
          | ls ws =>
            rw [e] at k2
            simp only at k2
            cases e3 : L2.ixN ws.length n with
            | none => rw [e3] at k2; exact False.elim k2
            | some j =>
              rw [e3] at k2
              have evi : vi = .int n := l3.vint
              obtain ⟨v', e1', c', l4⟩ := slot_get (ts := (.im m.fz, v) :: ts) c2 e l3.tail
              rw [hvo] at e1'
              cases e1'
              obtain ⟨ad, xs, f1, f2, f3, hh2⟩ := l4.openO
              subst f1
              refine ⟨ad, xs, n, j, rfl, evi, f2, by rw [f3]; exact e3, ?_⟩
              -- the list as it stands now
              have l5 : Live T (upd H2 ad (.lst (xs.set j v))) ((.ls (ws.set j m.fz), .ref ad) :: (slots (r2.set i none) q ++ ts)) := by
                obtain ⟨F, fp, s', kk⟩ := hh2
                obtain ⟨rr, kk'⟩ := LV.ims_split f3 kk
                have kk2 : ∃ fp', LV T F H2 ((.im m.fz, v) :: (.ls ws, .ref ad) :: (slots (r2.set i none) q ++ ts)) fp' := by
                  have hp : ((M.ls ws, V.ref ad) :: (slots (r2.set i none) q ++ ((M.im m.fz, v) :: ts))).Perm ((M.im m.fz, v) :: (M.ls ws, V.ref ad) :: (slots (r2.set i none) q ++ ts)) :=
                    (List.Perm.cons _ List.perm_middle).trans (List.Perm.swap _ _ _)
                  obtain ⟨fp', z1, _⟩ := kk'.perm hp
                  exact ⟨fp', z1⟩
                obtain ⟨fp', kk3⟩ := kk2
                cases kk3 with
                | cons g1 g2 g3 =>
                  obtain ⟨ge, gr⟩ := g1
                  subst ge
                  exact Live.write (ws := ws) ⟨F, _, s', LV.ims_join (rr.set j gr) g2⟩ (by simp [f3])
              obtain ⟨c5, l6⟩ := slot_back c2 (getM_lt e) hvo l5
              exact k2 q _ c5 Lk.refl l6
          | _ => rw [e] at k2; exact False.elim k2
      | _ => exact False.elim k2
    | _ => exact False.elim k2
  · exact False.elim k1
/-- an expression alone -/
theorem ss_ex {u : E} (ha : PE X a (tE T Ex (evE h u))) (hs : swapsWith a none pos.line X.env = pure false) : PS X (.Expr a pos) (tS T Ex lk (evS h (.ex u))) := by
  refine ps_imp (ps_expr ha hs) fun D q H ⟨r, ts, c, l, k⟩ => ?_
  simp only [evS] at k
  refine seqS c l k fun m r1 v H1 c1 l1 k1 => ?_
  exact k1 q _ c1 Lk.refl l1.tail
theorem ss_ret {u : E} (ha : PE X a (tE T Ex (evE h u))) : PS X (.Return (some a) pos) (tS T Ex lk (evS h (.ret u))) := by
  refine ps_imp (ps_ret ha) fun D q H ⟨r, ts, c, l, k⟩ => ?_
  simp only [evS] at k
  refine seqS c l k fun m r1 v H1 c1 l1 k1 => ?_
  exact k1 v q _ c1 Lk.refl l1
theorem ss_retv {i : Nat} (hN : X.N[i]? = some x) (hv : Vis X.env.scope x) (hd : (x == ("__debug__" : Str)) = false) (hcd : (x == ("__classdict__" : Str)) = false) : PS X (.Return (some (.Name x p)) pos) (tS T Ex lk (evS h (.retv i))) := by
  refine ps_imp (ps_ret (pe_var hN hv hd hcd)) fun D q H ⟨r, ts, c, l, k⟩ => ?_
  simp only [evS] at k
  cases e : getM r i with
  | none => rw [e] at k; exact False.elim k
  | some m =>
    rw [e] at k
    obtain ⟨v, e1, c', l'⟩ := slot_get c e l
    exact ⟨v, e1, k v q H c' Lk.refl l'⟩
theorem ss_retn : PS X (.Return none pos) (tS T Ex lk (evS h .retn)) := by
  refine ps_imp ps_retN fun D q H ⟨r, ts, c, l, k⟩ => ?_
  simp only [evS] at k
  exact k .non q H c Lk.refl (l.plain rfl)
theorem ss_pas : PS X (.Pass pos) (tS T Ex lk (evS h .pas)) := ps_imp ps_pass fun D q H ⟨r, ts, c, l, k⟩ => by
  simp only [evS] at k
  exact k q H c Lk.refl l
theorem ss_brk : PS X (.Break pos) (tS T Ex lk (evS h .brk)) := ps_imp ps_break fun D q H ⟨r, ts, c, l, k⟩ => by
  simp only [evS] at k
  exact k q H c Lk.refl l
theorem ss_ite {u : E} {A B : Ss} {ba bb : List Stmt} (hc : PT X c (tTst T Ex h u)) (ha : PSs X ba (tS T Ex lk (evSs h A))) (hb : PSs X bb (tS T Ex lk (evSs h B))) : PS X (.If c ba bb pos) (tS T Ex lk (evS h (.ite u A B))) := by
  refine ps_imp (ps_if hc ha hb) fun D q H ⟨r, ts, c, l, k⟩ => ?_
  simp only [evS] at k
  refine seqST c l k fun z r1 H1 c1 l1 k1 => ?_
  cases z with
  | true => exact ⟨r1, ts, c1, l1, k1⟩
  | false => exact ⟨r1, ts, c1, l1, k1⟩
/-- a loop's turn: what comes behind the body -/
def fpK (k : Env → R Fl) : R Fl → R Fl
  | .ok .nx r' => k r'
  | .ok .bk r' => .ok .nx r'
  | .ok (.ret m) r' => .ok (.ret m) r'
  | .exc w r' => .exc w r'
  | .stuck => .stuck
theorem forL_cons {f : W → Env → R Fl} {w : W} {ws : List W} {r : Env} : forL f (w :: ws) r = fpK (forL f ws) (f w r) := by
  rw [forL]
  unfold fpK
  rfl
theorem drop_front {l m : List (M × V)} (h : Live T H (l ++ (tl ++ ts))) : Live T H (l ++ ts) := Live.dropL (toFront h)
theorem turn_rd {k : Env → R Fl} {zz : R Fl} {N : L2.St → Hp → Prop} (kk : okS T Ex lk q ts D (fpK k zz)) (hl : Lk lk q q') (n : ∀ r1 q2 H, okS T Ex lk q ts D (k r1) → Cons r1 q2 → Lk lk q' q2 → Live T H (slots r1 q2 ++ (tl ++ ts)) → N q2 H) :
    okS T Ex lk q' (tl ++ ts) { D with nx := N, ct := N, bk := D.nx } zz := by
  cases zz with
  | ok f r1 =>
    cases f with
    | nx => exact fun q2 H c2 k2 l2 => n r1 q2 H kk c2 k2 l2
    | bk => exact fun q2 H c2 k2 l2 => kk q2 H c2 (hl.trans k2) (drop_front (m := []) l2)
    | ret m => exact fun v q2 H c2 k2 l2 => kk v q2 H c2 (hl.trans k2) (drop_front (l := (m, v) :: slots r1 q2) (m := []) l2)
  | exc w r1 => exact fun cls d q2 H c2 k2 l2 => kk cls d q2 H c2 (hl.trans k2) (l2.less fun k hk => by
      rw [← List.append_assoc] at hk ⊢
      exact drop_front (m := []) hk)
  | stuck => exact kk
theorem ss_for {t : Dn.T} {it : It} {B : Ss} {body : List Stmt} (hp : PassesOwn (model X.prog X.w) X.A X.env X.xe) (hc : X.calm = true) (hi : PI X tg iter (tI T Ex (evI h it))) (hg : PG X tg (tTg T lk t)) (hb : PSs X body (tS T Ex lk (evSs h B)))
    (hs : ∀ x, foldedSetIterable iter X.env x = pure x) : PS X (.For tg iter body [] pos) (tS T Ex lk (evS h (.for_ t it B))) := by
  refine ps_imp (ps_for hp hc hi hg hb hs) fun D q H ⟨r, ts, c, l, k⟩ => ?_
  simp only [evS] at k
  generalize hf : (fun w r => match bindT t w r with
    | some r2 => evSs h B r2
    | none => R.stuck) = f at k
  refine seqSI c l k fun ws r1 J src H1 gv c1 l1 k1 => ?_
  refine ⟨fun i m q' H' => m = ws.length - i ∧ Lk lk q q' ∧ ∃ re, Cons re q' ∧ Live T H' (slots re q' ++ (src ++ ts)) ∧ okS T Ex lk q ts D (forL f (ws.drop i) re), ⟨ws.length, by simp, Lk.refl, r1, c1, toMid l1, k1⟩, ?_⟩
  rintro i m q2 H2 ⟨rfl, lk2, re, c2, l2, k2⟩
  have lsrc : Live T H2 (src ++ (slots re q2 ++ ts)) := toFront l2
  by_cases hi : i < ws.length
  · right
    have hget : ws[i]? = some ws[i] := List.getElem?_eq_getElem hi
    rw [List.drop_eq_getElem_cons hi, forL_cons] at k2
    refine ⟨gv.go i _ _ _ hget lsrc, fun q' H' => Lk lk q q' ∧ ∃ re, Cons re q' ∧ Live T H' (slots re q' ++ (src ++ ts)) ∧ okS T Ex lk q ts D (forL f (ws.drop (i + 1)) re), fun q' H' hN => ⟨ws.length - (i + 1), by omega, rfl, hN⟩, fun x H' hy => ?_⟩
    have ly := gv.yld i _ _ _ x H' hget lsrc hy
    have hfw : f ws[i] re = match bindT t ws[i] re with
        | some r2 => evSs h B r2
        | none => .stuck := by rw [← hf]
    rw [hfw] at k2
    cases hb : bindT t ws[i] re with
    | none => rw [hb] at k2; exact False.elim k2
    | some r2 =>
      rw [hb] at k2
      have ly2 : Live T H' ((.im ws[i], x) :: (slots re q2 ++ (src ++ ts))) := by
        refine ly.perm (List.Perm.cons _ ?_)
        exact perm_sw _ _ _
      refine ⟨ws[i], re, src ++ ts, r2, c2, ly2, hb, fun q3 c3 lk3 l3 => ?_⟩
      refine ⟨r2, src ++ ts, c3, l3, turn_rd k2 (lk2.trans lk3) fun r4 q4 H4 k4 c4 lk4 l4 => ⟨(lk2.trans lk3).trans lk4, r4, c4, l4, k4⟩⟩
  · left
    rw [List.drop_eq_nil_of_le (by omega)] at k2
    exact ⟨gv.stop i _ _ (by omega) lsrc, k2 q2 H2 c2 lk2 (Live.dropL lsrc)⟩
theorem ss_whl {u : E} {B : Ss} {body : List Stmt} (hp : PassesOwn (model X.prog X.w) X.A X.env X.xe) (hc : PT X c (tTst T Ex h u)) (hb : PSs X body (tS T Ex lk (evSs h B))) : PS X (.While c body [] pos) (tS T Ex lk (evS h (.whl u B))) := by
  refine ps_imp (ps_while hp hc hb) fun D q H ⟨r, ts, c, l, k⟩ => ?_
  simp only [evS] at k
  refine ⟨fun m q' H' => ∃ re, Cons re q' ∧ Live T H' (slots re q' ++ ts) ∧ okS T Ex lk q' ts D (whlL (fun r => (evE h u r).tru) (evSs h B) m re), ⟨h.fuel, r, c, l, k⟩, ?_⟩
  rintro m q2 H2 ⟨re, c2, l2, k2⟩
  cases m with
  | zero => exact False.elim k2
  | succ m =>
    have e : whlL (fun r => (evE h u r).tru) (evSs h B) (m + 1) re = ((evE h u re).tru.bind fun z r1 => if z then fpK (whlL (fun r => (evE h u r).tru) (evSs h B) m) (evSs h B r1) else .ok .nx r1) := by
      rw [whlL]
      generalize (evE h u re).tru = zz
      cases zz with
      | ok z r1 => cases z <;> (simp only [R.bind]; try rfl)
      | _ => rfl
    rw [e] at k2
    refine seqST c2 l2 k2 fun z r1 H1 c1 l1 k1 => ?_
    cases z with
    | true =>
      simp only [if_true] at k1 ⊢
      refine ⟨fun q' H' => ∃ re, Cons re q' ∧ Live T H' (slots re q' ++ ts) ∧ okS T Ex lk q' ts D (whlL (fun r => (evE h u r).tru) (evSs h B) m re), fun q' H' hN => ⟨m, by omega, hN⟩, ?_⟩
      exact ⟨r1, ts, c1, l1, turn_rd (tl := []) k1 Lk.refl fun r4 q4 H4 k4 c4 lk4 l4 => ⟨r4, c4, l4, okS.lkk k4 lk4⟩⟩
    | false => exact k1 q2 H1 c1 Lk.refl l1
end
end Dn
-- Dn16
set_option maxRecDepth 100000
set_option maxHeartbeats 1000000
/-! Mutators, keyword calls, isinstance, list.index, globals. -/
namespace Dn
open PySem PySem.Spec PyProof.Rows L2
section
variable {T : Tb} {Ex Ex' : WX} {G : Pg} {n : Nat} {q q' q0 : L2.St} {ts ts' tl : List (M × V)} {X : Cx} {e a b c tg elt iter o : Expr} {es rest ifs : List Expr} {pos p p2 tpos apos cpos : Pos} {H H' : Hp} {h : Th} {x y z : Str} {r r0 : Env} {lk : Nat → Prop} {D : Ends}
theorem few_args (h : (a :: es).all noStar = true) (hl : es.length + 1 < 30) (env : PySem.Env) :
    ((backTo cpos (starEach (a :: es) env)).all (fun x => !x.1) && (backToKw cpos (keywordEach [] env)).all (fun x => x.1.isSome)
      && decide ((a :: es).length + ([] : List Keyword).length + (if ([] : List Keyword).isEmpty then 0 else 1) < 30)) = true := by
  have h1 : (backTo cpos (starEach (a :: es) env)).all (fun x => !x.1) = true := by
    have h2 := stars_plain (pos := cpos) h env
    rw [List.all_eq_not_any_not]
    simp only [Bool.not_not]
    rw [h2]; rfl
  rw [h1]
  simp [keywordEach, backToKw, hl]
theorem base_name {f : Str} {env : PySem.Env} {w : Sem Value} : attributeBase (.Name x pos) f env w = w := rfl
/-- xs.append(e), .. : a name's own list -/
theorem se_mut {m : MU} {nm : Str} {id : String} {i : Nat} {xs : Es} (slot : Slot "list" nm id) (hty : typeOf (.builtin id) = pure (.type "method_descriptor")) (hm : MtR X id (rMu T m))
    (hN : X.N[i]? = some x) (hv : Vis X.env.scope x) (hd : (x == ("__debug__" : Str)) = false) (hcd : (x == ("__classdict__" : Str)) = false) (ns : (a :: es).all noStar = true) (hl : es.length + 1 < 30) (hline : (apos.endLine == cpos.line) = true)
    (ha : PA X (a :: es) (tL T Ex (evEs h xs))) : PE X (.Call (.Attribute (.Name x p) nm apos) (a :: es) [] cpos) (tE T Ex (evE h (.mut m i [] xs))) := by
  have ns2 : noStar a = true ∧ es.all noStar = true := by simpa using ns
  exact pe_imp (pe_bm F.plainAttrs_list slot hty hm (pe_var hN hv hd hcd) ha base_name (few_args ns hl _) hline (star_head ns2.1 _) (stars_plain ns2.2 _)) fun q H Q ⟨r, ts, c, l, k⟩ => mut_rd c l k
/-- xs.pop(), xs.reverse() -/
theorem se_mut0 {m : MU} {nm : Str} {id : String} {i : Nat} (slot : Slot "list" nm id) (hty : typeOf (.builtin id) = pure (.type "method_descriptor")) (hm : MtR X id (rMu T m))
    (hN : X.N[i]? = some x) (hv : Vis X.env.scope x) (hd : (x == ("__debug__" : Str)) = false) (hcd : (x == ("__classdict__" : Str)) = false) (hline : (apos.endLine == cpos.line) = true) :
    PE X (.Call (.Attribute (.Name x p) nm apos) [] [] cpos) (tE T Ex (evE h (.mut m i [] .nil))) := by
  refine pe_imp (pe_bm0 F.plainAttrs_list slot hty hm (pe_var hN hv hd hcd) base_name hline) fun q H Q ⟨r, ts, c, l, k⟩ => ?_
  obtain ⟨v, e1, ty, t1⟩ := mut_rd c l k
  obtain ⟨r2, ts2, c2, l2, k2⟩ := t1
  simp only [evEs] at k2
  exact ⟨v, e1, ty, k2 [] H c2 rfl l2⟩
/-! ### list.index -/
theorem findIdx_spec {α : Type} {p : α → Bool} : ∀ {l : List α} {j : Nat}, l.findIdx? p = some j → ∃ z, l[j]? = some z ∧ p z = true ∧ ∀ (m : Nat) (z' : α), m < j → l[m]? = some z' → p z' = false := fun {l j} h => by
  rw [List.findIdx?_eq_some_iff_getElem] at h
  obtain ⟨hl, h1, h2⟩ := h
  refine ⟨l[j], List.getElem?_eq_getElem hl, h1, fun m z' hm hz => ?_⟩
  have h3 := h2 m hm
  obtain ⟨h4, h5⟩ := List.getElem?_eq_some_iff.mp hz
  subst h5
  simpa using h3
theorem se_index {y : E} {xs : Es} (hK : X.K = T.K) (hu : X.A.units + 65 < cLine) (hb : attributeBase o "index" X.env (eval o X.env) = eval o X.env) (ns : (a :: es).all noStar = true) (hl : es.length + 1 < 30) (hline : (apos.endLine == cpos.line) = true)
    (ho : PE X o (tE T Ex (evE h y))) (ha : PA X (a :: es) (tL T Ex (evEs h xs))) : PE X (.Call (.Attribute o "index" apos) (a :: es) [] cpos) (tE T Ex (evE h (.mth .index y xs))) := by
  have ns2 : noStar a = true ∧ es.all noStar = true := by simpa using ns
  refine pe_imp (pe_bm F.plainAttrs_list F.slot_list_index F.type_list_index (mt_indexD hu) ho ha hb (few_args ns hl _) hline (star_head ns2.1 _) (stars_plain ns2.2 _)) fun q H Q ⟨r, ts, c, l, k⟩ => ?_
  unfold okE at k
  simp only [evE, w_bindA] at k
  refine seqE (tl := []) c l k fun m r1 v H1 c1 l1 k1 => ?_
  split at k1
  · rename_i hty
    have hlst : ∃ ws, m.fz = .lst ws := by
      cases hm : m.fz <;> rw [hm] at hty <;> first | exact ⟨_, rfl⟩ | (cases hty)
    obtain ⟨us, hus⟩ := hlst
    have l2 := l1.freeze
    rw [hus] at l2 k1
    obtain ⟨ad, ys, f1, f2, f3, _⟩ := l2.openL
    subst f1
    refine ⟨.inl ⟨rfl, ys, SqL.of f2⟩, ?_⟩
    refine seqL (tl := [(.im (.lst us), .ref ad)]) c1 l2 k1 fun ws r2 vs H2 c2 hl l3 k2 => ?_
    obtain ⟨nn, e2, hq⟩ := ofO_ok k2
    unfold mthW at e2
    split at e2
    case h_1 _ us' w' _ e4 =>
      cases e4
      obtain ⟨j, hj, rfl⟩ := Option.map_eq_some_iff.mp e2
      cases vs with
      | nil => cases hl
      | cons v1 vt =>
        have : vt = [] := List.eq_nil_of_length_eq_zero (by simpa using hl)
        subst this
        have l4 : Live T H2 ((.im w', v1) :: (.im (.lst us), .ref ad) :: (slots r2 q ++ ts)) := l3
        unfold idxL at hj
        split at hj
        · rename_i d ds g1 g2
          split at hj
          · rename_i hs
            rw [Bool.and_eq_true] at hs
            obtain ⟨zz, z1, z2, z3⟩ := findIdx_spec hj
            have dpy := l4.dp g1
            have dpl : Dp T.K H2 (.ref ad) (.list ds) := l4.tail.dp (by simp [W.toD, g2])
            rw [← hK] at dpy dpl
            exact ⟨ad, v1, d, ds, j, zz, rfl, rfl, dpl, dpy, hs.2, hs.1, z1, z2, z3, hq _ _ c2 (l4.tail.tail.plain rfl)⟩
          · cases hj
        · cases hj
    all_goals first | contradiction | (cases e2; done) | (rename_i e; cases e; done)
  · exact False.elim k1
/-! ### isinstance -/
def tyN : TY → String
  | .int => "int" | .bool => "bool" | .str => "str" | .list => "list" | .tuple => "tuple" | _ => ""
def wN : W → Option String
  | .non => some "NoneType" | .bl _ => some "bool" | .int _ => some "int" | .str _ => some "str" | .tup _ => some "tuple" | .lst _ => some "list"
  | _ => none
def wNs : List String := ["NoneType", "bool", "int", "str", "tuple", "list"]
theorem wN_of {t : TY} {w : W} {b : Bool} (e : isTy t w = some b) : ∃ s, wN w = some s ∧ kitB s (tyN t) = some b := by
  cases t <;> cases w <;> first | (cases e; done) | (cases e; exact ⟨_, rfl, by decide +kernel⟩)
theorem tyx_of {w : W} {v : V} {l : List (M × V)} {s : String} (hK : X.K = T.K) (hl : Live T H ((.im w, v) :: l)) (e : wN w = some s) : TyX X.K H v (.type s) := by
  cases w with
  | non => cases e; have : v = .non := by obtain ⟨F, fp, _, k⟩ := hl; cases k with | cons k1 _ _ => exact k1.2
           subst this; exact .base .non
  | bl y => cases e; have := hl.vbl; subst this; exact .base (.bl _)
  | int y => cases e; have := hl.vint; subst this; exact .base (.int _)
  | str y => cases e; have : v = .str y := by obtain ⟨F, fp, _, k⟩ := hl; cases k with | cons k1 _ _ => exact k1.2
             subst this; exact .base (.str _)
  | lst ws =>
    cases e
    obtain ⟨a, vs, e1, e2, _⟩ := hl.openL
    subst e1
    exact .base (.lst e2)
  | tup ws =>
    cases e
    obtain ⟨a, vs, e1, e2, _⟩ := hl.openT
    subst e1
    rw [← hK] at e2
    rcases e2 with (h | ⟨ob, h⟩) | ⟨ob, _, _, hk, hc, _⟩
    · exact .base (.tup h)
    · exact .fTuple h
    · exact .kTuple hk hc
  | _ => cases e
/-- the type names, as arguments -/
def tyA (ts : List TY) : TA := fun _ H Q => Q (ts.map fun t => .ty (tyN t)) H
theorem ty_nil : PA X [] (tyA []) := pa_imp pa_nil fun q H Q k => k
theorem ty_name {t : TY} (hg : Gl X x) (hm : X.mg x = none) (hv : bootBuiltins x = some (.type (tyN t))) (hn : x ≠ "__name__") (hd : (x == ("__debug__" : Str)) = false) : PE X (.Name x p) (tC (.ty (tyN t))) :=
  pe_bltn hg hm hv rfl hn hd
theorem ty_cons {t : TY} {us : List TY} (ha : PE X a (tC (.ty (tyN t)))) (ns : noStar a = true) (hr : PA X es (tyA us)) : PA X (a :: es) (tyA (t :: us)) :=
  pa_imp (pa_cons ha hr (star_head ns _)) fun q H Q k => k
theorem kit_of1 {K : PySem.W.Frag} {w : W} {s : String} (hw : wN w = some s) : ∀ {us : List TY} {b : Bool}, isTys us w = some b → PySem.W.kitAny K (.type s) (us.map fun t => .type (tyN t)) = some b
  | [], b, e => by
    simp only [isTys, Option.some.injEq] at e
    subst e
    exact kitAny_nil
  | t :: us, b, e => by
    simp only [isTys] at e
    split at e
    · rename_i b1 b2 e1 e2
      cases e
      obtain ⟨s', h1, h2⟩ := wN_of e1
      rw [hw] at h1
      cases h1
      refine kitAny_cons (kit_ty h2) (fun hb => ?_) fun hb => by rw [hb]; rfl
      rw [kit_of1 hw e2, hb]
      rfl
    · cases e
theorem se_isi1 {y : E} {t : TY} (hK : X.K = T.K) (hg : Gl X "isinstance") (hm : X.mg "isinstance" = none) (ns : noStar a = true) (ns2 : noStar b = true) (ha : PE X a (tE T Ex (evE h y))) (hb : PE X b (tC (.ty (tyN t)))) :
    PE X (.Call (.Name "isinstance" p) [a, b] [] pos) (tE T Ex (evE h (.isi y [t]))) := by
  refine pe_imp (pe_callB call_isi hg hm rfl (pa_cons ha (pa_cons hb pa_nil (star_head ns2 _)) (star_head ns _)) (by decide) (by decide) (star_head ns _) (stars_plain (by simp [ns2]) _)) fun q H Q ⟨r, ts, c, l, k⟩ => ?_
  unfold okE at k
  simp only [evE, w_bindA] at k
  refine seqE (tl := []) c l k fun m r1 v H1 c1 l1 k1 => ?_
  obtain ⟨bb, e1, hq⟩ := ofO_ok (ofO_map k1)
  have l2 := l1.freeze
  simp only [isTys] at e1
  split at e1
  · rename_i b1 b2 e2 e3
    cases e1
    cases e3
    obtain ⟨s, h1, h2⟩ := wN_of e2
    exact ⟨v, .ty (tyN t), .type s, .type (tyN t), b1, rfl, .ty _, tyx_of hK l2 h1, kit_ty h2, by rw [Bool.or_false] at hq; exact hq _ _ c1 (l2.tail.plain rfl)⟩
  · cases e1
theorem isTys_w {us : List TY} {w : W} {b : Bool} (e : isTys us w = some b) (hn : us ≠ []) : ∃ s, wN w = some s := by
  cases us with
  | nil => exact absurd rfl hn
  | cons t us =>
    simp only [isTys] at e
    split at e
    · rename_i b1 b2 e1 e2
      obtain ⟨s, h, _⟩ := wN_of e1
      exact ⟨s, h⟩
    · cases e
theorem paired_ty : ∀ us : List TY, Paired ClsV (us.map fun t => V.ty (tyN t)) (us.map fun t => Value.type (tyN t))
  | [] => .nil
  | t :: us => .cons (.ty _) (paired_ty us)
theorem se_isiT {y : E} {us : List TY} {kk : Nat} (hK : X.K = T.K) (hg : Gl X "isinstance") (hm : X.mg "isinstance" = none) (ns : noStar a = true) (hu : us ≠ []) (hz : us.length ≤ LIM) (ha : PE X a (tE T Ex (evE h y))) (hb : PA X es (tyA us)) :
    PE X (.Call (.Name "isinstance" p) [a, .Tuple es kk p2] [] pos) (tE T Ex (evE h (.isi y us))) := by
  refine pe_imp (pe_callB call_isiT hg hm rfl (pa_cons ha (pa_cons (pe_tup hb) pa_nil rfl) (star_head ns _)) (by decide) (by decide) (star_head ns _) rfl) fun q H Q ⟨r, ts, c, l, k⟩ => ?_
  unfold okE at k
  simp only [evE, w_bindA] at k
  refine seqE (tl := []) c l k fun m r1 v H1 c1 l1 k1 => ?_
  obtain ⟨bb, e1, hq⟩ := ofO_ok (ofO_map k1)
  have l2 := l1.freeze
  obtain ⟨s, h1⟩ := isTys_w e1 hu
  refine ⟨small_line (by rw [List.length_map]; exact hz), fun tp hp => ?_⟩
  have l3 : Live T (upd H1 tp (.tup (us.map fun t => V.ty (tyN t)))) ((.im m.fz, v) :: (slots r1 q ++ ts)) := l2.grow hp
  exact ⟨v, tp, _, .type s, _, bb, rfl, upd_same, paired_ty us, tyx_of hK l3 h1, kit_of1 h1 e1, hq _ _ c1 (l3.tail.plain rfl)⟩
end
end Dn
-- Dn17
set_option maxRecDepth 100000
set_option maxHeartbeats 1000000
/-! Calls, further: lent slots, keywords, no arguments; globals. -/
namespace Dn
open PySem PySem.Spec PyProof.Rows L2
section
variable {T : Tb} {Ex Ex' : WX} {G : Pg} {n : Nat} {q q' q0 : L2.St} {ts ts' tl : List (M × V)} {X : Cx} {e a b c tg elt iter o : Expr} {es rest ifs : List Expr} {pos p p2 tpos apos cpos : Pos} {H H' : Hp} {h : Th} {x y z : Str} {r r0 : Env} {lk : Nat → Prop} {D : Ends}
/-- a lent slot -/
theorem aa_bor {i : Nat} {xs : As} (hN : X.N[i]? = some x) (hv : Vis X.env.scope x) (hd : (x == ("__debug__" : Str)) = false) (hcd : (x == ("__classdict__" : Str)) = false) (hr : PA X es (tA T Ex (evA h xs))) :
    PA X (.Name x pos :: es) (tA T Ex (evA h (.bor i xs))) := by
  refine pa_imp (pa_cons (pe_var hN hv hd hcd) hr rfl) fun q H Q ⟨r, ts, c, l, k⟩ => ?_
  simp only [evA] at k
  split at k
  · rename_i hs
    obtain ⟨m0, hm0⟩ := Option.isSome_iff_exists.mp hs
    obtain ⟨v, hv⟩ := getM_slot c hm0
    refine ⟨v, hv, ?_⟩
    refine seqA (tl := []) c l k fun ws r2 vs H2 c2 hl l2 k2 => ?_
    exact k2 (v :: vs) H2 c2 (.inl hv hl) l2
  · exact False.elim k
/-! ### keywords -/
theorem av_len {l : List (Nat ⊕ M)} {vs : List V} (av : AV q l vs) : vs.length = l.length := by
  induction av with
  | nil => rfl
  | inl _ _ ih => simp [ih]
  | inr _ ih => simp [ih]
theorem av_app {l l2 : List (Nat ⊕ M)} {vs v2 : List V} (av : AV q l vs) (bv : AV q l2 v2) : AV q (l ++ l2) (vs ++ v2) := by
  induction av with
  | nil => exact bv
  | inl h _ ih => exact .inl h ih
  | inr _ ih => exact .inr ih
theorem tmp_app : ∀ {l l2 : List (Nat ⊕ M)} {vs v2 : List V}, vs.length = l.length → tmp (l ++ l2) (vs ++ v2) = tmp l vs ++ tmp l2 v2
  | [], _, [], _, _ => rfl
  | [], _, _ :: _, _, h => by simp at h
  | _ :: _, _, [], _, h => by simp at h
  | .inl i :: l, l2, v :: vs, v2, h => tmp_app (l := l) (vs := vs) (by simpa using h)
  | .inr m :: l, l2, v :: vs, v2, h => by
    show (m, v) :: tmp (l ++ l2) (vs ++ v2) = _
    rw [tmp_app (l := l) (vs := vs) (by simpa using h)]
    rfl
theorem tmp_allR : ∀ {l : List (Nat ⊕ M)} {vs : List V}, allR l = true → vs.length = l.length → tmp l vs = (l.zip vs).filterMap fun z => match z.1 with
    | .inr m => some (m, z.2)
    | .inl _ => none
  | [], [], _, _ => rfl
  | [], _ :: _, _, h => by simp at h
  | _ :: _, [], _, h => by simp at h
  | .inl _ :: _, _ :: _, h, _ => by cases h
  | .inr m :: l, v :: vs, h, hl => by
    show (m, v) :: tmp l vs = _
    rw [tmp_allR (l := l) (vs := vs) h (by simpa using hl)]
    rfl
theorem allR_mem : ∀ {l : List (Nat ⊕ M)}, allR l = true ↔ ∀ z ∈ l, ∃ m, z = .inr m
  | [] => by simp [allR]
  | .inl i :: l => by simp [allR]
  | .inr m :: l => by simp [allR, allR_mem (l := l)]
theorem av_allR : ∀ {l : List (Nat ⊕ M)} {vs : List V}, allR l = true → vs.length = l.length → AV q l vs
  | [], [], _, _ => .nil
  | [], _ :: _, _, h => by simp at h
  | _ :: _, [], _, h => by simp at h
  | .inl _ :: _, _ :: _, h, _ => by cases h
  | .inr m :: l, v :: vs, h, hl => .inr (av_allR (l := l) (vs := vs) h (by simpa using hl))
theorem lent_allR {lock : List Nat} : ∀ {l : List (Nat ⊕ M)} {j : Nat}, allR l = true → lentOk lock j l
  | [], _, _ => True.intro
  | .inl _ :: _, _, h => by cases h
  | .inr m :: l, j, h => lent_allR (l := l) (j := j + 1) h
theorem pmA_range {α : Type} (l : List α) : pmA (List.range l.length) l = l := by
  refine List.ext_getElem? fun i => ?_
  have e : ∀ (k : Nat) (l0 l1 : List α), l0.length = k → (List.range' k l1.length).filterMap (fun i => (l0 ++ l1)[i]?) = l1 := by
    intro k l0 l1
    induction l1 generalizing k l0 with
    | nil => intro _; rfl
    | cons a l1 ih =>
      intro hk
      subst hk
      have h1 : (l0 ++ a :: l1)[l0.length]? = some a := by simp
      rw [List.length_cons, List.range'_succ, List.filterMap_cons, h1]
      have := ih (l0.length + 1) (l0 ++ [a]) (by simp)
      rw [List.append_assoc] at this
      simp only [List.singleton_append] at this
      rw [this]
  have h := e 0 [] l rfl
  rw [List.nil_append, ← List.range_eq_range'] at h
  rw [pmA, h]
theorem pmA_perm {α : Type} {pm : List Nat} {l : List α} (h : pm.Perm (List.range l.length)) : (pmA pm l).Perm l := by
  have h1 := h.filterMap fun i => l[i]?
  have h2 : (List.range l.length).filterMap (fun i => l[i]?) = l := pmA_range l
  rw [h2] at h1
  exact h1
theorem pmA_zip {α β : Type} : ∀ {pm : List Nat} {l : List α} {vs : List β}, l.length = vs.length → pmA pm (l.zip vs) = (pmA pm l).zip (pmA pm vs)
  | [], _, _, _ => rfl
  | i :: pm, l, vs, h => by
    have ih := pmA_zip (pm := pm) h
    unfold pmA at ih ⊢
    by_cases hi : i < l.length
    · have hv : i < vs.length := by omega
      have hz : i < (l.zip vs).length := by rw [List.length_zip]; omega
      rw [List.filterMap_cons, List.filterMap_cons, List.filterMap_cons, List.getElem?_eq_getElem hi, List.getElem?_eq_getElem hv, List.getElem?_eq_getElem hz, ih, List.getElem_zip]
      rfl
    · have hv : ¬ i < vs.length := by omega
      have hz : ¬ i < (l.zip vs).length := by rw [List.length_zip]; omega
      rw [List.filterMap_cons, List.filterMap_cons, List.filterMap_cons, List.getElem?_eq_none (by omega), List.getElem?_eq_none (by omega), List.getElem?_eq_none (by omega), ih]
theorem pmA_len {α : Type} {pm : List Nat} {l : List α} (h : pm.Perm (List.range l.length)) : (pmA pm l).length = l.length := (pmA_perm h).length_eq
theorem pmA_allR {pm : List Nat} {l : List (Nat ⊕ M)} (h : allR l = true) : allR (pmA pm l) = true := by
  rw [allR_mem] at h ⊢
  intro z hz
  obtain ⟨i, _, e⟩ := List.mem_filterMap.mp hz
  exact h z (List.mem_of_getElem? e)
theorem pm_live {pm : List Nat} {l : List (Nat ⊕ M)} {vs : List V} (h : pm.Perm (List.range l.length)) (hr : allR l = true) (hv : vs.length = l.length) (hl : Live T H (tmp l vs ++ ts)) :
    AV q (pmA pm l) (pmA pm vs) ∧ Live T H (tmp (pmA pm l) (pmA pm vs) ++ ts) := by
  have h1 : (pmA pm vs).length = (pmA pm l).length := by rw [pmA_len h, pmA_len (by rw [hv]; exact h), hv]
  refine ⟨av_allR (pmA_allR hr) h1, hl.perm (List.Perm.append_right ts ?_)⟩
  rw [tmp_allR hr hv, tmp_allR (pmA_allR hr) h1, ← pmA_zip hv.symm]
  refine List.Perm.filterMap _ ?_
  have hz : (l.zip vs).length = l.length := by rw [List.length_zip]; omega
  exact (pmA_perm (by rw [hz]; exact h)).symm
theorem run_fnkS {pins : List (Addr × Obj)} {s : Shared} {Q : VK} {us ws : List Value} {vs zs : List V} {CX : CXT} {k : Nat} {f : Addr} {fd : FuncData} {ps ks : List Str} {sp : Sp} {E : L2.St → XK} {g : List Value → List Value → List Value} {gV : List V → List V → List V}
    (F : FnOk X.prog X.w X.K X.mg X.base CX k f fd ps sp) (hr : Room k X.A) (hb : KBinds X.K fd ps ks g gV) (hx : PassesAt CX X q (E q))
    (I : Inv X pins q H s) (r : Vals vs us) (rz : Vals zs ws) (h : sp (gV vs zs) H Q (E q)) : wpAny (model X.prog X.w) X.A (call (.ref f) us (ks.zip ws)) (EP X pins q Q) X.xe s := by
  have r2 := hb.rel r rz
  have hl : (g us ws).length = ps.length := by rw [← r2.length]; exact F.len _ _ _ _ h
  refine wpAny_call (codeAny_mono (F.run X.A X.stack s H ⟨us, ks.zip ws⟩ (g us ws) (gV vs zs) Q (E q) hr I.env0 (hb.to s us ws I.kIn hl) r2 h) fun r s' hq => ?_)
  cases r with
  | error e => exact hx pins H s e s' I hq
  | ok fl =>
    cases fl with
    | ret u => exact I.after hq
    | next => exact False.elim hq
    | brk => exact False.elim hq
    | cont => exact False.elim hq
theorem pk_imp {kws : List Keyword} {t t' : TA} (h : PK X kws t) (i : ∀ q H Q, t' q H Q → t q H Q) : PK X kws t' := ⟨fun pos pins s q H Q I w => h.run pos pins s q H Q I (i q H Q w)⟩
theorem kk_nil : PK X [] (tA T Ex (evA h .nil)) := pk_imp pk_nil fun q H Q ⟨r, ts, c, l, k⟩ => by
  simp only [evA] at k
  exact k [] H c .nil l
theorem kk_val {nm : Option Str} {kp : Pos} {kws : List Keyword} {y : E} {xs : As} (ha : PE X a (tE T Ex (evE h y))) (hr : PK X kws (tA T Ex (evA h xs))) : PK X (⟨nm, a, kp⟩ :: kws) (tA T Ex (evA h (.val y xs))) := by
  refine pk_imp (pk_cons ha hr) fun q H Q ⟨r, ts, c, l, k⟩ => ?_
  simp only [evA] at k
  refine seqE (tl := []) c l k fun m r1 v H1 c1 l1 k1 => ?_
  refine seqA (tl := [(m, v)]) c1 l1 k1 fun ws r2 vs H2 c2 hl l2 k2 => ?_
  exact k2 (v :: vs) H2 c2 (.inr hl) (l2.perm List.perm_middle)
/-- the meaning of a keyword call gives what the promise asks, behind the arguments -/
theorem callk_rd {f : Nat} {d : FD} {xs zs : As} {pm : List Nat} {np nk : Nat} {r : Env} {Q : VK} (hd : G.fd f = some d) (c : Cons r q) (l : Live T H (slots r q ++ ts)) (k : okE T Ex q ts Q (evE (G.th n) (.callk f xs zs pm) r))
    (h1 : ∀ l r l', evA (G.th n) xs r = .ok l l' → l.length = np) (h2 : ∀ l r l', evA (G.th n) zs r = .ok l l' → l.length = nk) :
    (tA T Ex (evA (G.th n) xs)) q H fun vs H1 => (tA T Ex (evA (G.th n) zs)) q H1 fun ws H2 => spF T G n f (gK np nk pm vs ws) H2 Q (fun cls d H => Ex cls d q H) := by
  unfold okE at k
  simp only [evE] at k
  refine ⟨r, ts, c, l, ?_⟩
  have k' := okR.bind k
  cases e : evA (G.th n) xs r with
  | stuck => rw [e] at k'; exact k'
  | exc w r1 => rw [e] at k'; exact k'
  | ok al r1 =>
    rw [e] at k'
    intro vs H1 c1 av l1
    have k2 : okR T Ex q ts _ _ := k'
    have hal := h1 _ _ _ e
    refine ⟨r1, tmp al vs ++ ts, c1, toMid l1, okR.moreL ?_⟩
    have k3 := okR.bind k2
    cases e2 : evA (G.th n) zs r1 with
    | stuck => rw [e2] at k3; exact k3
    | exc w r2 => rw [e2] at k3; exact k3
    | ok bl r2 =>
      rw [e2] at k3
      intro ws H2 c2 bv l2
      have hbl := h2 _ _ _ e2
      have k4 : okR T Ex q ts _ (if pmOk pm (al ++ bl).length && allR (al ++ bl) then callA ((G.th n).fn f) (pmA pm (al ++ bl)) r2 else .stuck) := k3
      split at k4
      · rename_i hp
        rw [Bool.and_eq_true] at hp
        have hpm : pm.Perm (List.range (al ++ bl).length) := of_decide_eq_true hp.1
        have hg : gK np nk pm vs ws = pmA pm (vs ++ ws) := by
          unfold gK
          rw [if_pos ⟨(av_len av).trans hal, (av_len bv).trans hbl⟩]
        rw [hg]
        have l3 : Live T H2 (tmp (al ++ bl) (vs ++ ws) ++ (slots r2 q ++ ts)) := by
          rw [tmp_app (av_len av), List.append_assoc]
          have l4 := toFront (tl := tmp al vs) (l := tmp bl ws ++ slots r2 q) (ts := ts) (by rw [List.append_assoc]; exact l2)
          rw [List.append_assoc] at l4
          exact l4
        obtain ⟨av2, l5⟩ := pm_live (q := q) hpm hp.2 (by rw [List.length_append, List.length_append, av_len av, av_len bv]) l3
        exact call_rd hd c2 av2 (lent_allR (pmA_allR hp.2)) l5 k4 fun m r' hS => hS
      · exact False.elim k4
theorem se_callk {f : Nat} {d : FD} {xs zs : As} {pm : List Nat} {np : Nat} {kws : List Keyword} {ks : List Str} (A : At X T G n Ex) (hd : G.fd f = some d) (hk : (np, ks, pm) ∈ d.kw) (hg : Gl X d.name) (hdb : (d.name == ("__debug__" : Str)) = false) (ns : (a :: es).all noStar = true)
    (h1 : ∀ l r l', evA (G.th n) xs r = .ok l l' → l.length = np) (h2 : ∀ l r l', evA (G.th n) zs r = .ok l l' → l.length = ks.length)
    (hall : ∀ env, (backToKw pos (keywordEach kws env)).all (·.1.isSome) = true) (hks : ∀ env, (backToKw pos (keywordEach kws env)).filterMap (·.1) = ks) (hany : ∀ env, (backToKw pos (keywordEach kws env)).any (·.1.isNone) = false)
    (ha : PA X (a :: es) (tA T Ex (evA (G.th n) xs))) (hkw : PK X kws (tA T Ex (evA (G.th n) zs))) : PE X (.Call (.Name d.name p) (a :: es) kws pos) (tE T Ex (evE (G.th n) (.callk f xs zs pm))) := by
  obtain ⟨ad, fd, g1, g2, g3, g4, F, g5⟩ := (A.fns f d hd).ex
  have ns2 : noStar a = true ∧ es.all noStar = true := by simpa using ns
  refine ⟨fun pins s q H Q I ⟨r, ts, c, l, k⟩ => ?_⟩
  have hr := callk_rd hd c l k h1 h2
  refine wpAny_Call_Name_kw (ld_glob I hg g2 ?_ hdb)
  refine PySem.W.callWith_KW (h₀ := X.base) I.ok.mod.kin g3 (hall _) (thn (ha.run pos pins s q H _ I hr) fun us s1 ⟨vs, H1, I1, r1, q1⟩ => ?_) (by
    rw [stars_plain ns, hany]; rfl) (star_head ns2.1 _)
  refine thn (hkw.run pos pins s1 q H1 _ I1 q1) fun ws s2 ⟨zs, H2, I2, rz, q2⟩ => ⟨I2.kIn, ?_⟩
  rw [hks]
  exact run_fnkS F A.rm (g5 _ _ _ hk) (E := WE Ex) (passAt A.tk q) I2 r1 rz q2
/-- all by name -/
theorem se_callk0 {f : Nat} {d : FD} {zs : As} {pm : List Nat} {kws : List Keyword} {ks : List Str} (A : At X T G n Ex) (hd : G.fd f = some d) (hk : (0, ks, pm) ∈ d.kw) (hg : Gl X d.name) (hdb : (d.name == ("__debug__" : Str)) = false)
    (h2 : ∀ l r l', evA (G.th n) zs r = .ok l l' → l.length = ks.length)
    (hall : ∀ env, (backToKw pos (keywordEach kws env)).all (·.1.isSome) = true) (hks : ∀ env, (backToKw pos (keywordEach kws env)).filterMap (·.1) = ks) (hany : ∀ env, (backToKw pos (keywordEach kws env)).any (·.1.isNone) = false)
    (hkw : PK X kws (tA T Ex (evA (G.th n) zs))) : PE X (.Call (.Name d.name p) [] kws pos) (tE T Ex (evE (G.th n) (.callk f .nil zs pm))) := by
  obtain ⟨ad, fd, g1, g2, g3, g4, F, g5⟩ := (A.fns f d hd).ex
  refine ⟨fun pins s q H Q I ⟨r, ts, c, l, k⟩ => ?_⟩
  have hr := callk_rd (np := 0) hd c l k (fun l r l' e => by simp only [evA] at e; cases e; rfl) h2
  obtain ⟨r', ts', c', l', k'⟩ := hr
  simp only [evA] at k'
  have hr2 := k' [] H c' .nil l'
  refine wpAny_Call_Name_kw (ld_glob I hg g2 ?_ hdb)
  refine PySem.W.callWith_KW0 (h₀ := X.base) I.ok.mod.kin g3 (hall _) ?_ (by rw [hany]; rfl)
  refine thn (hkw.run pos pins s q H _ I hr2) fun ws s2 ⟨zs, H2, I2, rz, q2⟩ => ⟨I2.kIn, ?_⟩
  rw [hks]
  exact run_fnkS F A.rm (g5 _ _ _ hk) (E := WE Ex) (passAt A.tk q) I2 .nil rz q2
/-- f() -/
theorem se_call0 {f : Nat} {d : FD} (A : At X T G n Ex) (hd : G.fd f = some d) (hg : Gl X d.name) (hdb : (d.name == ("__debug__" : Str)) = false) : PE X (.Call (.Name d.name p) [] [] pos) (tE T Ex (evE (G.th n) (.call f .nil))) := by
  obtain ⟨ad, fd, g1, g2, g3, g4, F, g5⟩ := (A.fns f d hd).ex
  refine ⟨fun pins s q H Q I ⟨r, ts, c, l, k⟩ => ?_⟩
  unfold okE at k
  simp only [evE, evA] at k
  have k2 : okR T Ex q ts _ (callA ((G.th n).fn f) [] r) := k
  have hr := call_rd hd c (vs := []) .nil True.intro l k2 fun m r' hS => hS
  refine wpAny_Call_Name_kw (ld_glob I hg g2 ?_ hdb)
  exact PySem.W.callWith_K0 I.kIn g3 (run_fnS (E := WE Ex) F A.rm g4 (passAt A.tk q) I .nil hr)
end
end Dn
-- Dn18
set_option maxRecDepth 100000
set_option maxHeartbeats 1000000
/-! tuple(range(..)), the last pieces ahead of the check. -/
namespace Dn
open PySem PySem.Spec PyProof.Rows L2
section
variable {T : Tb} {Ex Ex' : WX} {G : Pg} {n : Nat} {q q' q0 : L2.St} {ts ts' tl : List (M × V)} {X : Cx} {e a b c tg elt iter o : Expr} {es rest ifs : List Expr} {pos p p2 tpos apos cpos : Pos} {H H' : Hp} {h : Th} {x y z : Str} {r r0 : Env} {lk : Nat → Prop} {D : Ends}
theorem upTo_map : ∀ {k : Nat} {a : Int}, upTo a k = (List.range k).map fun i => W.int (a + ((i : Nat) : Int))
  | 0, _ => rfl
  | k + 1, a => by
    rw [upTo, upTo_map, List.range_succ_eq_map, List.map_cons, List.map_map]
    congr 1
    · simp
    · refine List.map_congr_left fun i _ => ?_
      simp only [Function.comp]
      congr 1
      omega
theorem ims_ints {l : List (M × V)} (hl : Live T H l) : ∀ js : List Int, Live T H (ims (js.map W.int) (js.map V.int) ++ l)
  | [] => hl
  | j :: js => Live.plain (w := .int j) (v := .int j) (ims_ints hl js) rfl
theorem live_rg {l : List (M × V)} (hl : Live T H l) (a b : Int) : Live T H (ims (upTo a (b - a).toNat) (rgV a b) ++ l) ∧ (rgV a b).length = (upTo a (b - a).toNat).length := by
  have h := ims_ints hl ((List.range (b - a).toNat).map fun i => a + ((i : Nat) : Int))
  rw [List.map_map, List.map_map] at h
  rw [upTo_map]
  exact ⟨h, by rw [rgV_length, List.length_map, List.length_range]⟩
theorem rg_ok {a b : Int} (h : rgOk a b = true) : RgOk a b := by
  unfold rgOk at h
  simp only [Bool.and_eq_true, decide_eq_true_eq] at h
  obtain ⟨⟨⟨⟨h1, h2⟩, h3⟩, h4⟩, h5⟩ := h
  exact ⟨h1, h2, h3, h4, Nat.le_trans h5 (by decide)⟩
theorem rng_fin {t : Bool} {i j : Int} {m : M} {l : List (M × V)} {Q : VK} (e : rngM t i j = some m) (hl : Live T H l) (k : ∀ v H', Live T H' ((m, v) :: l) → Q v H') :
    RgOk i j ∧ ∀ q, H q = none → Q (.ref q) (upd H q (if t then .tup (rgV i j) else .lst (rgV i j))) := by
  unfold rngM at e
  split at e
  · rename_i hz
    cases e
    obtain ⟨h1, h2⟩ := live_rg hl i j
    refine ⟨rg_ok hz, fun q hq => k _ _ ?_⟩
    cases t with
    | true => exact h1.newT h2 hq
    | false => exact h1.newL h2 hq
  · cases e
theorem rg1_rd {t : Bool} {y : E} {r : Env} {Q : VK} (c : Cons r q) (l : Live T H (slots r q ++ ts)) (k : okE T Ex q ts Q (evE h (.rg1 t y) r)) :
    tRg1 (tE T Ex (evE h y)) q H fun a b H1 => RgOk a b ∧ ∀ q, H1 q = none → Q (.ref q) (upd H1 q (if t then .tup (rgV a b) else .lst (rgV a b))) := by
  unfold okE at k
  simp only [evE, int_bindA] at k
  refine seqE (tl := []) c l k fun m r1 v H1 c1 l1 k1 => ?_
  obtain ⟨j, rfl, k2⟩ := int_ok k1
  obtain ⟨m, e1, hq⟩ := ofO_ok k2
  exact ⟨j, l1.vint, rng_fin e1 l1.tail fun v H' l' => hq v H' c1 l'⟩
theorem rg2_rd {t : Bool} {y z : E} {r : Env} {Q : VK} (c : Cons r q) (l : Live T H (slots r q ++ ts)) (k : okE T Ex q ts Q (evE h (.rg2 t y z) r)) :
    tRg2 (tE T Ex (evE h y)) (tE T Ex (evE h z)) q H fun a b H1 => RgOk a b ∧ ∀ q, H1 q = none → Q (.ref q) (upd H1 q (if t then .tup (rgV a b) else .lst (rgV a b))) := by
  unfold okE at k
  simp only [evE, int_bindA] at k
  refine seqE (tl := []) c l k fun m r1 v H1 c1 l1 k1 => ?_
  obtain ⟨i, rfl, k2⟩ := int_ok k1
  refine seqE (tl := [(_, v)]) c1 l1 k2 fun m2 r2 v2 H2 c2 l2 k3 => ?_
  obtain ⟨j, rfl, k4⟩ := int_ok k3
  obtain ⟨m, e1, hq⟩ := ofO_ok k4
  exact ⟨i, j, l2.tail.vint, l2.vint, rng_fin e1 l2.tail.tail fun v H' l' => hq v H' c2 l'⟩
theorem se_trg1 {y : E} (hc : X.calm = true) (hg : Gl X "tuple") (hm : X.mg "tuple" = none) (hg2 : Gl X "range") (hm2 : X.mg "range" = none) (ns : noStar a = true) (ha : PE X a (tE T Ex (evE h y))) :
    PE X (.Call (.Name "tuple" p) [.Call (.Name "range" p2) [a] [] tpos] [] pos) (tE T Ex (evE h (.rg1 true y))) :=
  pe_imp (pe_tupRg hc hg hm (prg_1 hg2 hm2 ha (star_head ns _)) rfl) fun q H Q ⟨r, ts, c, l, k⟩ => rg1_rd c l k
theorem se_lrg1 {y : E} (hc : X.calm = true) (hg : Gl X "list") (hm : X.mg "list" = none) (hg2 : Gl X "range") (hm2 : X.mg "range" = none) (ns : noStar a = true) (ha : PE X a (tE T Ex (evE h y))) :
    PE X (.Call (.Name "list" p) [.Call (.Name "range" p2) [a] [] tpos] [] pos) (tE T Ex (evE h (.rg1 false y))) :=
  pe_imp (pe_listRg hc hg hm (prg_1 hg2 hm2 ha (star_head ns _)) rfl) fun q H Q ⟨r, ts, c, l, k⟩ => rg1_rd c l k
theorem se_trg2 {y z : E} (hc : X.calm = true) (hg : Gl X "tuple") (hm : X.mg "tuple" = none) (hg2 : Gl X "range") (hm2 : X.mg "range" = none) (ns : noStar a = true) (ns2 : noStar b = true) (ha : PE X a (tE T Ex (evE h y))) (hb : PE X b (tE T Ex (evE h z))) :
    PE X (.Call (.Name "tuple" p) [.Call (.Name "range" p2) [a, b] [] tpos] [] pos) (tE T Ex (evE h (.rg2 true y z))) :=
  pe_imp (pe_tupRg hc hg hm (prg_2 hg2 hm2 ha hb (star_head ns _) (star_head ns2 _) (stars_plain (by simp [ns2]) _)) rfl) fun q H Q ⟨r, ts, c, l, k⟩ => rg2_rd c l k
theorem se_lrg2 {y z : E} (hc : X.calm = true) (hg : Gl X "list") (hm : X.mg "list" = none) (hg2 : Gl X "range") (hm2 : X.mg "range" = none) (ns : noStar a = true) (ns2 : noStar b = true) (ha : PE X a (tE T Ex (evE h y))) (hb : PE X b (tE T Ex (evE h z))) :
    PE X (.Call (.Name "list" p) [.Call (.Name "range" p2) [a, b] [] tpos] [] pos) (tE T Ex (evE h (.rg2 false y z))) :=
  pe_imp (pe_listRg hc hg hm (prg_2 hg2 hm2 ha hb (star_head ns _) (star_head ns2 _) (stars_plain (by simp [ns2]) _)) rfl) fun q H Q ⟨r, ts, c, l, k⟩ => rg2_rd c l k
/-- and, or of one -/
theorem se_con1 {y : E} (ha : PE X a (tE T Ex (evE h y))) : PE X (.BoolOp .And [a] pos) (tE T Ex (evE h y)) := pe_one ha
theorem sw_con1 {y : E} (ha : PT X a (tTst T Ex h y)) : PW X (.BoolOp .And [a] pos) (tTst T Ex h y) := pw_and1 ha
theorem sw_dis1 {y : E} (ha : PT X a (tTst T Ex h y)) : PW X (.BoolOp .Or [a] pos) (tTst T Ex h y) := pw_or1 ha
end
end Dn
-- DnSet
set_option maxRecDepth 100000
set_option maxHeartbeats 4000000
/-! A set made of a list of whole numbers, with its table; sorted of it. -/
namespace L2
open PySem PySem.Spec PyProof.Rows
/-- an empty set, new -/
abbrev emptyS (w : World) : Obj := { cls := .type "set", dict := none, data := .set #[] 0 (.fresh 0 0 (!w.params.followText "set-order")) }
section
variable {P : Program} {w : World} {A : Around} {E : Value → Shared → Prop} {z : Shared}
theorem call_setL {a : Addr} {vs : Array Value} (is : List Int) {G : Value → Shared → Prop} (ca : A.handled = none) (ha : z.heap.IsList a vs) (hi : IntsAre vs.toList is) (hs : is.length + 1 < scanBound)
    (k : ∀ (g : Heap) (tk c : Nat), SetR w g z.heap.objs.size (fun j => decide (j ∈ is)) c → c ≤ is.length → (∀ b o, z.heap.get? b = some o → g.get? b = some o) → G (.ref z.heap.objs.size) { z with heap := g, toks := tk }) :
    wpAny (model P w) A (call (.type "set") [.ref a]) G E z := by
  have len1 : vs.size = is.length := (Array.length_toList (xs := vs)).symm.trans (IntsAre.length hi)
  obtain ⟨c0, t0, mro0⟩ := PySem.F.called_set.mro
  have made0 := PySem.F.called_set.made
  have sub0 := PySem.F.called_set.sub
  refine wpAny_call (codeAny_of_tree ?_)
  show wpAny (model P w) _ (callAny (.type "set") _) _ _ z
  refine wpAny_pure ⟨Code.quiet_builtin _ (by decide +kernel), codeAny_builtin PySem.F.entry_type_call ?_⟩
  rw [Around.under_plain (weight_type_call_type "set" [.ref a] []) rfl]
  have n1 := PySem.F.called_set.notType
  have n2 := PySem.F.called_set.canCreate
  have n3 := PySem.F.typeCall_set_1 (.ref a)
  repeat (any_goals (first | assumption | wp_step))
  refine codeAny_mono (code_set_led1 (.ref a) (E := E) (Q₁ := fun obj y => obj = .ref z.heap.objs.size ∧ y = { z with heap := z.heap.push (emptyS w) }) ⟨rfl, rfl⟩) fun r y hy => ?_
  rcases r with er | (obj | _ | _ | _) <;> first | exact hy | exact hy.elim | skip
  obtain ⟨rfl, rfl⟩ := hy
  have at0 : (z.heap.push (emptyS w)).get? z.heap.objs.size = some (emptyS w) := Heap.get?_push_size _ rfl
  have ty0 : Shared.TypeIs { z with heap := z.heap.push (emptyS w) } (.ref z.heap.objs.size) "set" := ⟨_, at0, rfl⟩
  have il := PySem.F.called_set.init.lookup
  have ib := PySem.F.called_set.init.bind (.ref z.heap.objs.size)
  repeat (any_goals (first | assumption | wp_step))
  refine codeAny_mono (codeAny_call_builtin (R := wants (fun r y2 => r = .none ∧ ∃ g tk c, y2 = { z with heap := g, toks := tk } ∧ SetR w g z.heap.objs.size (fun j => decide (j ∈ is)) c ∧ c ≤ is.length ∧
      (∀ b o, z.heap.get? b = some o → g.get? b = some o)) E) PySem.F.called_set.init.plain PySem.F.entry_set_init (check_set_init_1 ty0 ?_)) fun r2 y2 hy2 => ?_
  · obtain ⟨ol, h1, h2, nl, h3⟩ := ha
    obtain ⟨cl, di, da, sl⟩ := ol
    simp only at h2 h3
    subst h2; subst h3
    have h1' : (z.heap.push (emptyS w)).get? a = some { cls := .type "list", dict := di, data := .seq vs nl, slots := sl } := Heap.get?_push_of_some _ h1
    have u1 := PySem.F.sub_list_set
    have u2 := PySem.F.sub_list_frozenset
    have u3 : (Value.type "list" == Value.type "dict") = false := by decide
    have il1 : (z.heap.push (emptyS w)).IsList a vs := ⟨_, h1', rfl, nl, rfl⟩
    unfold Builtin.«set.__init__» noKeywords Builtin.Frozenset.updateFrom
    generalize hPI : pyIter = PI
    wp_walk
    subst hPI
    refine wpAny_pyIter_list il1 (wpAny_bind (wpAny_runValue ?_))
    have lt0 : a < z.heap.objs.size := Heap.lt_size h1
    have cb : A.in1.in1.in1.handled = none := by simp [ca]
    have sz1 : (z.heap.push (emptyS w)).objs.size = z.heap.objs.size + 1 := Heap.size_push ..
    have ne1 : a ≠ (z.heap.push (emptyS w)).objs.size := by rw [sz1]; exact Nat.ne_of_lt (Nat.lt_succ_of_lt lt0)
    have ni : z.heap.objs.size ∉ [(z.heap.push (emptyS w)).objs.size, a] := by
      rw [sz1]
      simp only [List.mem_cons, List.not_mem_nil, or_false, not_or]
      exact ⟨Nat.ne_of_lt (Nat.lt_succ_self _), Nat.ne_of_gt lt0⟩
    have vals : ∀ (i : Nat) (v : Value), vs[i]? = some v → ∃ k t, is[i]? = some k ∧ v = .int k t := fun i v hv => by
      have lt : i < is.length := by rw [← len1]; exact (Array.getElem?_eq_some_iff.mp hv).1
      obtain ⟨t, e⟩ := IntsAre.int_at hi i v ((Array.getElem?_toList).trans hv)
      exact ⟨is[i], t, List.getElem?_eq_getElem lt, e.trans (by rw [List.getD_eq_getElem?_getD, List.getElem?_eq_getElem lt]; rfl)⟩
    refine set_update_ints ((Walks.list cb _ a ne1 vs).toS) z.heap.objs.size ni is len1 hs vals (vs.size - 0) 0 _ (by omega) (Nat.zero_le _) ⟨⟨_, Heap.get?_push_size _ rfl, rfl, rfl⟩, (il1.push _)⟩ ⟨0, Nat.le_refl 0, setR_new_at (Heap.get?_push_of_some _ at0)⟩ ?_
    intro y3 c' mv hc' hS'
    obtain ⟨g, gs, dr, tk, os⟩ := y3
    have e1 : gs = z.gens := mv.gens
    have e2 : dr = z.drawn := mv.drawn
    have e3 : os = z.os := mv.os
    subst e1 e2 e3
    show wpAny _ _ _ _ _ _
    refine wpAny_pure ?_
    show wpAny _ _ (ret Value.none) _ _ _
    rw [len1] at hc'
    refine wpAny_pure ⟨rfl, g, tk, c', rfl, hS', hc', fun b o e => ?_⟩
    have lb := Heap.lt_size e
    refine mv.heap b o ?_ (Heap.get?_push_of_some _ (Heap.get?_push_of_some _ e))
    rw [sz1]
    simp only [List.mem_cons, List.not_mem_nil, or_false, not_or]
    exact ⟨Nat.ne_of_lt lb, Nat.ne_of_lt (Nat.lt_succ_of_lt lb)⟩
  · rcases r2 with er | (v | _ | _ | _) <;> first | exact hy2 | exact hy2.elim | skip
    obtain ⟨rfl, g, tk, c, rfl, q1, q2, q3⟩ := hy2
    repeat (any_goals (first | assumption | wp_step))
    exact k _ _ _ q1 q2 q3
end
end L2
-- DnSr
set_option maxRecDepth 100000
set_option maxHeartbeats 4000000
/-! sorted, sorted(set(..)), len(set(..)), range downwards. -/
namespace Dn
open PySem PySem.Spec PyProof.Rows L2
/-! ### the sorts, plain -/
theorem mem_insI {x y : Int} : ∀ {l : List Int}, y ∈ insI x l ↔ y = x ∨ y ∈ l
  | [] => by simp [insI]
  | z :: l => by
    unfold insI
    split
    · simp
    · simp [mem_insI (l := l)]
      constructor
      · rintro (h | h | h)
        · exact .inr (.inl h)
        · exact .inl h
        · exact .inr (.inr h)
      · rintro (h | h | h)
        · exact .inr (.inl h)
        · exact .inl h
        · exact .inr (.inr h)
theorem insI_perm (x : Int) : ∀ l : List Int, (insI x l).Perm (x :: l)
  | [] => List.Perm.refl _
  | y :: l => by
    unfold insI
    split
    · exact List.Perm.refl _
    · exact (List.Perm.cons _ (insI_perm x l)).trans (List.Perm.swap _ _ _)
theorem insI_up {x : Int} : ∀ {l : List Int}, l.Pairwise (· ≤ ·) → (insI x l).Pairwise (· ≤ ·)
  | [], _ => by simp [insI]
  | y :: l, h => by
    obtain ⟨h1, h2⟩ := List.pairwise_cons.mp h
    unfold insI
    split
    · rename_i hxy
      exact List.pairwise_cons.mpr ⟨fun z hz => by
        rcases List.mem_cons.mp hz with e | hz
        · rw [e]; exact hxy
        · exact Int.le_trans hxy (h1 z hz), h⟩
    · rename_i hxy
      refine List.pairwise_cons.mpr ⟨fun z hz => ?_, insI_up h2⟩
      rcases mem_insI.mp hz with e | hz
      · rw [e]; omega
      · exact h1 z hz
theorem sortI_perm : ∀ l : List Int, (sortI l).Perm l
  | [] => List.Perm.refl _
  | x :: l => (insI_perm x _).trans (List.Perm.cons _ (sortI_perm l))
theorem sortI_up : ∀ l : List Int, (sortI l).Pairwise (· ≤ ·)
  | [] => List.Pairwise.nil
  | _ :: l => insI_up (sortI_up l)
theorem up_uniq {α : Type} {r : α → α → Prop} (anti : ∀ a b, r a b → r b a → a = b) : ∀ {l m : List α}, l.Perm m → l.Pairwise r → m.Pairwise r → l = m
  | [], m, p, _, _ => p.nil_eq
  | a :: l, [], p, _, _ => absurd p.length_eq (by simp)
  | a :: l, b :: m, p, h1, h2 => by
    obtain ⟨g1, g2⟩ := List.pairwise_cons.mp h1
    obtain ⟨k1, k2⟩ := List.pairwise_cons.mp h2
    have e : a = b := by
      have ha : a ∈ b :: m := p.mem_iff.mp List.mem_cons_self
      have hb : b ∈ a :: l := p.mem_iff.mpr List.mem_cons_self
      rcases List.mem_cons.mp ha with e | ha
      · exact e
      · rcases List.mem_cons.mp hb with e | hb
        · exact e.symm
        · exact anti _ _ (g1 _ hb) (k1 _ ha)
    subst e
    rw [up_uniq anti (List.Perm.cons_inv p) g2 k2]
theorem sortI_uniq {l m : List Int} (p : m.Perm l) (h : m.Pairwise (· ≤ ·)) : m = sortI l := up_uniq (fun a b h1 h2 => Int.le_antisymm h1 h2) (p.trans (sortI_perm l).symm) h (sortI_up l)
theorem mem_insU {x y : Int} : ∀ {l : List Int}, y ∈ insU x l ↔ y = x ∨ y ∈ l
  | [] => by simp [insU]
  | z :: l => by
    unfold insU
    split
    · simp
    · split
      · rename_i h1 h2
        subst h2
        simp
      · simp [mem_insU (l := l)]
        constructor
        · rintro (h | h | h)
          · exact .inr (.inl h)
          · exact .inl h
          · exact .inr (.inr h)
        · rintro (h | h | h)
          · exact .inr (.inl h)
          · exact .inl h
          · exact .inr (.inr h)
theorem insU_up {x : Int} : ∀ {l : List Int}, l.Pairwise (· < ·) → (insU x l).Pairwise (· < ·)
  | [], _ => by simp [insU]
  | y :: l, h => by
    obtain ⟨h1, h2⟩ := List.pairwise_cons.mp h
    unfold insU
    split
    · rename_i hxy
      exact List.pairwise_cons.mpr ⟨fun z hz => by
        rcases List.mem_cons.mp hz with e | hz
        · rw [e]; exact hxy
        · exact Int.lt_trans hxy (h1 z hz), h⟩
    · split
      · exact h
      · refine List.pairwise_cons.mpr ⟨fun z hz => ?_, insU_up h2⟩
        rcases mem_insU.mp hz with e | hz
        · rw [e]; omega
        · exact h1 z hz
theorem mem_sortU {y : Int} : ∀ {l : List Int}, y ∈ sortU l ↔ y ∈ l
  | [] => by simp [sortU]
  | x :: l => by
    show y ∈ insU x (sortU l) ↔ _
    rw [mem_insU, mem_sortU, List.mem_cons]
theorem sortU_up : ∀ l : List Int, (sortU l).Pairwise (· < ·)
  | [] => List.Pairwise.nil
  | _ :: l => insU_up (sortU_up l)
theorem lt_nodup {l : List Int} (h : l.Pairwise (· < ·)) : l.Nodup := h.imp fun {a b} h e => by omega
theorem sortU_uniq {l m : List Int} (h : m.Pairwise (· < ·)) (e : ∀ k, k ∈ m ↔ k ∈ l) : m = sortU l := by
  have p : m.Perm (sortU l) := (List.perm_ext_iff_of_nodup (lt_nodup h) (lt_nodup (sortU_up l))).mpr fun k => (e k).trans mem_sortU.symm
  exact up_uniq (fun a b h1 h2 => by omega) p h (sortU_up l)
theorem leP_iff {p q : Int × Int} : leP p q = true ↔ p.1 < q.1 ∨ (p.1 = q.1 ∧ p.2 ≤ q.2) := by simp [leP]
theorem mem_insP {x y : Int × Int} {l : List (Int × Int)} : y ∈ insP x l ↔ y = x ∨ y ∈ l := by
  induction l with
  | nil => simp [insP]
  | cons z l ih =>
    unfold insP
    split
    · simp
    · rw [List.mem_cons, ih, List.mem_cons]
      constructor
      · rintro (h | h | h)
        · exact .inr (.inl h)
        · exact .inl h
        · exact .inr (.inr h)
      · rintro (h | h | h)
        · exact .inr (.inl h)
        · exact .inl h
        · exact .inr (.inr h)
theorem insP_perm (x : Int × Int) : ∀ l : List (Int × Int), (insP x l).Perm (x :: l)
  | [] => List.Perm.refl _
  | y :: l => by
    unfold insP
    split
    · exact List.Perm.refl _
    · exact (List.Perm.cons _ (insP_perm x l)).trans (List.Perm.swap _ _ _)
theorem insP_up {x : Int × Int} {l : List (Int × Int)} (h : l.Pairwise fun p q => leP p q = true) : (insP x l).Pairwise fun p q => leP p q = true := by
  induction l with
  | nil => simp [insP]
  | cons y l ih =>
    obtain ⟨h1, h2⟩ := List.pairwise_cons.mp h
    unfold insP
    split
    · rename_i hxy
      refine List.pairwise_cons.mpr ⟨fun z hz => ?_, h⟩
      rcases List.mem_cons.mp hz with e | hz
      · rw [e]; exact hxy
      · have a := leP_iff.mp hxy
        have b := leP_iff.mp (h1 z hz)
        refine leP_iff.mpr ?_
        omega
    · rename_i hxy
      refine List.pairwise_cons.mpr ⟨fun z hz => ?_, ih h2⟩
      rcases mem_insP.mp hz with e | hz
      · rw [e]
        have a : ¬ _ := fun z => hxy (leP_iff.mpr z)
        refine leP_iff.mpr ?_
        omega
      · exact h1 z hz
theorem sortP_perm : ∀ l : List (Int × Int), (sortP l).Perm l
  | [] => List.Perm.refl _
  | x :: l => (insP_perm x _).trans (List.Perm.cons _ (sortP_perm l))
theorem sortP_up : ∀ l : List (Int × Int), (sortP l).Pairwise fun p q => leP p q = true
  | [] => List.Pairwise.nil
  | _ :: l => insP_up (sortP_up l)
theorem sortP_uniq {l m : List (Int × Int)} (p : m.Perm l) (h : m.Pairwise fun p q => leP p q = true) : m = sortP l := up_uniq (fun a b h1 h2 => by
  have a1 := leP_iff.mp h1
  have a2 := leP_iff.mp h2
  obtain ⟨x, y⟩ := a
  obtain ⟨x', y'⟩ := b
  simp only at a1 a2
  have e1 : x = x' := by omega
  have e2 : y = y' := by omega
  rw [e1, e2]) (p.trans (sortP_perm l).symm) h (sortP_up l)
/-! ### a set as a value -/
/-- set(xs) of whole numbers, a list or a tuple -/
def rSetI (K : PySem.W.Frag) (w : World) : List V → Hp → VK → Prop := fun vs H Q => ∃ (a : Addr) (is : List Int), vs = [.ref a] ∧ (SqL K H a (is.map V.int) ∨ SqT K H a (is.map V.int)) ∧ is.length < 64 ∧
  ∀ p c, c ≤ is.length → H p = none → Q (.ref p) (upd H p (SetO w p (fun j => decide (j ∈ is)) c))
section
variable {X : Cx} {T : Tb}
theorem small_scan {n : Nat} (h : n < 64) : n + 1 < scanBound := by unfold scanBound; omega
theorem cr_setI (hc : X.calm = true) : CallR X (.type "set") (rSetI X.K X.w) := by
  intro pins z q H vs us Q I r h
  obtain ⟨a, is, rfl, hs, hl, k⟩ := h
  rw [Vals.ref1 r]
  rcases hs with hs | hs
  · obtain ⟨its, rv, hlst, hz⟩ := I.list hs
    refine call_setL is (I.ok.hd hc) hlst.isList (by simpa using rv.ints) (small_scan hl) fun g tk c R hcl old => ?_
    have hn : H z.heap.objs.size = none := I.hok.fresh (Nat.le_refl _)
    exact ⟨.ref _, _, I.laid (t' := tk) old (Nat.le_refl _) (setO_new R), rfl, k _ c hcl hn⟩
  · obtain ⟨its, rv, htup, hz⟩ := I.tuple hs
    obtain ⟨o, h1, h2, nl, h3⟩ := htup
    refine call_set_tupI is (I.ok.hd hc) ⟨o, h1, h2, nl, h3⟩ (by simpa using rv.ints) (small_scan hl) fun g tk c R hcl old => ?_
    have hn : H z.heap.objs.size = none := I.hok.fresh (Nat.le_refl _)
    exact ⟨.ref _, _, I.laid (t' := tk) old (Nat.le_refl _) (setO_new R), rfl, k _ c hcl hn⟩
/-- how many a set of whole numbers has -/
def rLenS (w : World) : List V → Hp → VK → Prop := fun vs H Q => ∃ (a : Addr) (S : Int → Bool) (n : Nat), vs = [.ref a] ∧ H a = some (SetO w a S n) ∧ n < 64 ∧ ∀ is : List Int, is.Pairwise (· < ·) → (∀ k, k ∈ is ↔ S k = true) → Q (.int is.length) H
theorem cr_lenS : CallR X (.builtin "len") (rLenS X.w) := by
  intro pins z q H vs us Q I r h
  obtain ⟨a, S, n, rfl, ha, hn, k⟩ := h
  rw [Vals.ref1 r]
  obtain ⟨o, es, ep, t, ho, hex, hd, _, nd, hm, _, hf, hn2, _, _⟩ := setO_get I ha
  have e : (sortU (es.toList.map keyOf)).length = n := by
    have p : (sortU (es.toList.map keyOf)).Perm (es.toList.map keyOf) := (List.perm_ext_iff_of_nodup (lt_nodup (sortU_up _)) nd).mpr fun k => mem_sortU
    rw [p.length_eq, List.length_map, Array.length_toList, hn2]
  have q2 := k (sortU (es.toList.map keyOf)) (sortU_up _) fun j => mem_sortU.trans (hm j).symm
  refine call_len_set ho hex hd hf (by rw [hn2]; omega) ⟨.int (sortU (es.toList.map keyOf)).length, H, I.tok _, ⟨_, by rw [e, hn2]⟩, q2⟩
end
section
variable {T : Tb} {Ex : WX} {q : L2.St} {ts tl : List (M × V)} {X : Cx} {a b c tg : Expr} {pos p p2 : Pos} {H : Hp} {h : Th} {y u z : E}
/-- a list or a tuple of whole numbers -/
theorem setI_rd {m : M} {v : V} {l : List (M × V)} {ws : List W} {is : List Int} (hK : X.K = T.K) (hl : Live T H ((m, v) :: l)) (e1 : seqOf m.fz = some ws) (e2 : setW ws = some is) {Q : VK}
    (k : ∀ (x : Addr) (js : List Int) (n : Nat), Live T (upd H x (SetO X.w x (fun j => decide (j ∈ js)) n)) l → n < 64 → is = sortU js → Q (.ref x) (upd H x (SetO X.w x (fun j => decide (j ∈ js)) n))) : rSetI X.K X.w [v] H Q := by
  unfold setW at e2
  split at e2
  · rename_i h64
    obtain ⟨js, e3, rfl⟩ := Option.map_eq_some_iff.mp e2
    have l2 := hl.freeze
    cases hm : m.fz with
    | lst us =>
      rw [hm] at e1 l2
      cases e1
      obtain ⟨a, vs, f1, f2, f3, hh⟩ := l2.openL
      have e4 := hh.ints f3 e3
      subst f1 e4
      have hjs : js.length < 64 := by rw [List.length_map] at f3; omega
      exact ⟨a, js, rfl, .inl (SqL.of f2), hjs, fun x n hn hx => k x js n (l2.tail.grow hx) (by omega) rfl⟩
    | tup us =>
      rw [hm] at e1 l2
      cases e1
      obtain ⟨a, vs, f1, f2, f3, hh⟩ := l2.openT
      have e4 := hh.ints f3 e3
      subst f1 e4
      rw [← hK] at f2
      have hjs : js.length < 64 := by rw [List.length_map] at f3; omega
      exact ⟨a, js, rfl, .inr f2, hjs, fun x n hn hx => k x js n (l2.tail.grow hx) (by omega) rfl⟩
    | _ => rw [hm] at e1; cases e1
  · cases e2
theorem new_ints {is : List Int} {l : List (M × V)} {x : Addr} (hl : Live T H l) (hx : H x = none) : Live T (upd H x (.lst (is.map V.int))) ((.ls (is.map W.int), .ref x) :: l) := by
  refine Live.newL (ws := is.map W.int) (vs := is.map V.int) ?_ (by simp) hx
  induction is with
  | nil => exact hl
  | cons i is ih => exact ih.plain (w := .int i) (v := .int i) rfl
theorem se_srs {pos2 : Pos} (hK : X.K = T.K) (hc : X.calm = true) (hg : Gl X "sorted") (hm : X.mg "sorted" = none) (hg2 : Gl X "set") (hm2 : X.mg "set" = none) (ns : noStar a = true) (ha : PE X a (tE T Ex (evE h y))) :
    PE X (.Call (.Name "sorted" p) [.Call (.Name "set" p2) [a] [] pos2] [] pos) (tE T Ex (evE h (.srs y))) := by
  refine pe_imp (pe_callB (cr_sortedSet hc) hg hm (by decide +kernel) (pa_cons (pe_callTy (cr_setI hc) hg2 hm2 boot_set (pa_cons ha pa_nil (star_head ns _)) (by decide) (by decide) (star_head ns _) rfl) pa_nil)) fun q H Q ⟨r, ts, c, l, k⟩ => ?_
  unfold okE at k
  simp only [evE, w_bindA] at k
  refine seqE (tl := []) c l k fun m r1 v H1 c1 l1 k1 => ?_
  obtain ⟨is, e1, hq⟩ := ofO_ok (ofO_map k1)
  obtain ⟨ws, e2, e3⟩ := Option.bind_eq_some_iff.mp e1
  show rSetI X.K X.w [v] H1 fun x H2 => rSortedSet X.w [x] H2 Q
  refine setI_rd hK l1 e2 e3 fun x js n l2 hn e => ⟨x, _, n, rfl, upd_same, hn, fun ns' p' h1 h2 h3 hp => ?_⟩
  have e4 : ns' = is := (sortU_uniq h1 fun k => (h2 k).trans decide_eq_true_iff).trans e.symm
  subst e4
  exact hq _ _ c1 (new_ints l2 hp)
theorem se_lns {pos2 : Pos} (hK : X.K = T.K) (hc : X.calm = true) (hg : Gl X "len") (hm : X.mg "len" = none) (hg2 : Gl X "set") (hm2 : X.mg "set" = none) (ns : noStar a = true) (ha : PE X a (tE T Ex (evE h y))) :
    PE X (.Call (.Name "len" p) [.Call (.Name "set" p2) [a] [] pos2] [] pos) (tE T Ex (evE h (.lns y))) := by
  refine pe_imp (pe_callB cr_lenS hg hm boot_len (pa_cons (pe_callTy (cr_setI hc) hg2 hm2 boot_set (pa_cons ha pa_nil (star_head ns _)) (by decide) (by decide) (star_head ns _) rfl) pa_nil)) fun q H Q ⟨r, ts, c, l, k⟩ => ?_
  unfold okE at k
  simp only [evE, w_bindA] at k
  refine seqE (tl := []) c l k fun m r1 v H1 c1 l1 k1 => ?_
  obtain ⟨is, e1, hq⟩ := ofO_ok (ofO_map k1)
  obtain ⟨ws, e2, e3⟩ := Option.bind_eq_some_iff.mp e1
  show rSetI X.K X.w [v] H1 fun x H2 => rLenS X.w [x] H2 Q
  refine setI_rd hK l1 e2 e3 fun x js n l2 hn e => ⟨x, _, n, rfl, upd_same, hn, fun ns' h1 h2 => ?_⟩
  have e4 : ns' = is := (sortU_uniq h1 fun k => (h2 k).trans decide_eq_true_iff).trans e.symm
  subst e4
  exact hq _ _ c1 (l2.plain rfl)
theorem refs_vals : ∀ bs : List Addr, Vals (bs.map V.ref) (bs.map Value.ref)
  | [] => .nil
  | _ :: bs => .cons rfl (refs_vals bs)
/-- sorted of a list of pairs of whole numbers -/
def rSortQ (K : PySem.W.Frag) : List V → Hp → VK → Prop := fun vs H Q => ∃ (a : Addr) (as : List Addr) (ps : List (Int × Int)), vs = [.ref a] ∧ SqL K H a (as.map V.ref) ∧ as.length = ps.length ∧
  (∀ (i : Nat) (t : Addr) (pr : Int × Int), as[i]? = some t → ps[i]? = some pr → SqT K H t [.int pr.1, .int pr.2]) ∧
  ∀ (bs : List Addr) (p : Addr), bs.length = ps.length → (∀ i, i < ps.length → ∃ (j : Nat) (t : Addr), bs[i]? = some t ∧ as[j]? = some t ∧ (sortP ps)[i]? = ps[j]?) → H p = none → Q (.ref p) (upd H p (.lst (bs.map V.ref)))
theorem cr_sortQ : CallR X (.builtin "sorted") (rSortQ X.K) := by
  intro pins s q H vs us Q I r h
  obtain ⟨a, as, ps, rfl, hs, hl, hp, k⟩ := h
  obtain ⟨its, rv, hlst, hz⟩ := I.list hs
  rw [Vals.ref1 r]
  obtain ⟨g1, g2⟩ := refs_back rv fun x hx => by
    obtain ⟨t, _, e⟩ := List.mem_map.mp hx
    exact ⟨t, e.symm⟩
  let key : Value → Int × Int := fun v => match v with
    | .ref t => ps.getD (as.idxOf t) (0, 0)
    | _ => (0, 0)
  have hits : ∀ (j : Nat) (t : Addr), as[j]? = some t → its[j]? = some (.ref t) := fun j t hj => by
    obtain ⟨u, e1, e2⟩ := rv.get (i := j) (x := V.ref t) (by rw [List.getElem?_map, hj]; rfl)
    rw [e1]
    exact congrArg some e2
  have hlen : its.length = as.length := by rw [← rv.length, List.length_map]
  have hkey : ∀ (j : Nat) (t : Addr) (pr : Int × Int), as[j]? = some t → ps[j]? = some pr → key (.ref t) = pr := fun j t pr h1 h2 => by
    have hm : t ∈ as := List.mem_of_getElem? h1
    have hlt : as.idxOf t < as.length := List.idxOf_lt_length_of_mem hm
    have h3 : as[as.idxOf t]? = some t := by rw [List.getElem?_eq_getElem hlt]; simp
    have hlt2 : as.idxOf t < ps.length := by omega
    have h5 := hp _ _ _ h3 (List.getElem?_eq_getElem hlt2)
    have h6 := hp _ _ _ h1 h2
    have h7 := I.tuple_inj h5 h6
    simp only [List.cons.injEq, V.int.injEq, and_true] at h7
    show ps.getD (as.idxOf t) (0, 0) = pr
    rw [List.getD_eq_getElem?_getD, List.getElem?_eq_getElem hlt2]
    exact Prod.ext h7.1 h7.2
  have hks : its.map key = ps := by
    refine List.ext_getElem? fun j => ?_
    rw [List.getElem?_map]
    rcases Nat.lt_or_ge j as.length with hj | hj
    · have h2 : j < ps.length := by omega
      rw [hits j _ (List.getElem?_eq_getElem hj), List.getElem?_eq_getElem h2]
      exact congrArg some (hkey j _ _ (List.getElem?_eq_getElem hj) (List.getElem?_eq_getElem h2))
    · rw [List.getElem?_eq_none (by omega), List.getElem?_eq_none (by omega)]; rfl
  have hidx : ∀ t, Value.ref t ∈ its → ∃ j : Nat, as[j]? = some t ∧ j < ps.length := fun t ht => by
    obtain ⟨j, hj⟩ := List.mem_iff_getElem?.mp ht
    have hj2 : j < as.length := by rw [← hlen]; exact (List.getElem?_eq_some_iff.mp hj).1
    have := hits j _ (List.getElem?_eq_getElem hj2)
    rw [hj] at this
    cases this
    exact ⟨j, List.getElem?_eq_getElem hj2, by omega⟩
  refine SrtO.sorted_pairsO (k := key) hlst.isList (by rw [← rv.length]; exact hz) (fun v hv => ?_) fun g d out h1 h2 old hd hn => ?_
  · obtain ⟨t, rfl⟩ := g2 v hv
    obtain ⟨j, hj, hj2⟩ := hidx t hv
    have e := hkey j t _ hj (List.getElem?_eq_getElem hj2)
    obtain ⟨its2, r2, ⟨o, ho, hc, n, hdt⟩, _⟩ := I.tuple (hp j t _ hj (List.getElem?_eq_getElem hj2))
    obtain ⟨u1, u2, rfl, ri, rj⟩ := vals2 r2
    obtain ⟨t1, rfl⟩ := ri
    obtain ⟨t2, rfl⟩ := rj
    exact ⟨t, o, t1, t2, n, rfl, ho, hc, by rw [e]; exact hdt⟩
  · have h3 : ∀ u ∈ out, ∃ a, u = Value.ref a := fun u hu => g2 u (h2.perm.mem_iff.mp hu)
    have hso : out.map key = sortP ps := by
      refine sortP_uniq (by rw [← hks]; exact h2.perm.map key) ?_
      refine List.pairwise_map.mpr (h1.imp fun {x y} hxy => ?_)
      have := SrtO.lexB_no.mp hxy
      refine leP_iff.mpr ?_
      omega
    obtain ⟨bs, hbs⟩ : ∃ bs : List Addr, out = bs.map Value.ref := by
      clear h1 h2 hso hn
      induction out with
      | nil => exact ⟨[], rfl⟩
      | cons u out ih =>
        obtain ⟨a1, e1⟩ := h3 u List.mem_cons_self
        obtain ⟨bs, e2⟩ := ih fun v hv => h3 v (List.mem_cons_of_mem _ hv)
        exact ⟨a1 :: bs, by rw [e1, e2]; rfl⟩
    have hbl : bs.length = ps.length := by
      have := h2.perm.length_eq
      rw [hbs, List.length_map] at this
      omega
    have hvb : Vals (bs.map V.ref) out := by
      rw [hbs]
      exact refs_vals bs
    obtain ⟨n, hn⟩ := hn
    refine ⟨.ref d, upd H d (.lst (bs.map V.ref)), I.laid (t' := s.toks) old hd ⟨?_, out, n, hvb, hn⟩, rfl, k bs d hbl (fun i hi => ?_) (I.hok.fresh hd)⟩
    · rw [List.length_map, hbl, ← hl]
      rw [List.length_map] at hz
      exact hz
    · have hi2 : i < bs.length := by omega
      have ho : out[i]? = some (.ref bs[i]) := by rw [hbs, List.getElem?_map, List.getElem?_eq_getElem hi2]; rfl
      obtain ⟨j, hj, hj2⟩ := hidx bs[i] (h2.perm.mem_iff.mp (List.mem_of_getElem? ho))
      refine ⟨j, bs[i], List.getElem?_eq_getElem hi2, hj, ?_⟩
      rw [← hso, List.getElem?_map, ho, List.getElem?_eq_getElem hj2]
      exact congrArg some (hkey j _ _ hj (List.getElem?_eq_getElem hj2))
/-- pairs of whole numbers, where they stand -/
theorem prs_rep {F : Hp} : ∀ {ws : List W} {vs : List V} {ps : List (Int × Int)}, prsW ws = some ps → RepWs T F ws vs → ws = ps.map pairW ∧ ∃ as : List Addr, vs = as.map V.ref ∧ as.length = ps.length ∧ ∀ (i : Nat) (a : Addr) (pr : Int × Int), as[i]? = some a → ps[i]? = some pr → SqT T.K F a [.int pr.1, .int pr.2]
  | [], _, ps, h, r => by
    cases h
    have r' : _ = [] := r
    subst r'
    exact ⟨rfl, [], rfl, rfl, fun i a pr h => by simp at h⟩
  | w :: ws, _, ps, h, r => by
    obtain ⟨v, vs', rfl, r1, r2⟩ := r
    unfold prsW at h
    split at h
    · rename_i h0; cases h0
    · rename_i i j ws' h0
      cases h0
      obtain ⟨qs, e1, rfl⟩ := Option.map_eq_some_iff.mp h
      obtain ⟨e2, as, e3, e4, e5⟩ := prs_rep e1 r2
      obtain ⟨a, xs, f1, f2, f3⟩ := r1
      obtain ⟨x1, xs1, g1, g2, g3⟩ := f3
      obtain ⟨x2, xs2, k1, k2, k3⟩ := g3
      have k3' : xs2 = [] := k3
      have g2' : x1 = .int i := g2
      have k2' : x2 = .int j := k2
      subst k3' k1 g1 g2' k2' e3 f1
      refine ⟨by rw [e2]; rfl, a :: as, rfl, by simp [e4], fun n b pr h1 h2 => ?_⟩
      cases n with
      | zero =>
        simp at h1 h2
        subst h1 h2
        exact f2
      | succ n => exact e5 n b pr (by simpa using h1) (by simpa using h2)
    · cases h
theorem rep_prs {F : Hp} : ∀ {ps : List (Int × Int)} {bs : List Addr}, bs.length = ps.length → (∀ (i : Nat) (a : Addr) (pr : Int × Int), bs[i]? = some a → ps[i]? = some pr → SqT T.K F a [.int pr.1, .int pr.2]) → RepWs T F (ps.map pairW) (bs.map V.ref)
  | [], [], _, _ => rfl
  | [], _ :: _, h, _ => by simp at h
  | _ :: _, [], h, _ => by simp at h
  | pr :: ps, b :: bs, h, k => ⟨.ref b, bs.map V.ref, rfl, ⟨b, _, rfl, k 0 b pr rfl rfl, ⟨_, _, rfl, rfl, ⟨_, _, rfl, rfl, rfl⟩⟩⟩, rep_prs (by simpa using h) fun i a pr' h1 h2 => k (i + 1) a pr' (by simpa using h1) (by simpa using h2)⟩
theorem sortP_len (ps : List (Int × Int)) : (sortP ps).length = ps.length := (sortP_perm ps).length_eq
/-- a sorted list of pairs, new -/
theorem new_prs {ws : List W} {ps : List (Int × Int)} {v : V} {l : List (M × V)} (hK : X.K = T.K) (hl : Live T H ((.im (.lst ws), v) :: l)) (e : prsW ws = some ps) {Q : VK} (k : ∀ v H', Live T H' ((.ls ((sortP ps).map pairW), v) :: l) → Q v H') : rSortQ X.K [v] H Q := by
  obtain ⟨F, fp, s, kk⟩ := hl
  cases kk with
  | cons k1 k2 k3 =>
    obtain ⟨e0, a, vs, e1, e2, e3⟩ := k1
    subst e0 e1
    obtain ⟨_, as, f1, f2, f3⟩ := prs_rep e e3
    subst f1
    refine ⟨a, as, ps, rfl, SqL.of (s a _ e2), f2, fun i t pr h1 h2 => by rw [hK]; exact sq_t s (f3 i t pr h1 h2), fun bs p hb hbs hp => ?_⟩
    refine k _ _ (Live.newL (ws := (sortP ps).map pairW) (vs := bs.map V.ref) ⟨F, _, s, LV.ims_join (rep_prs (by rw [hb, sortP_len]) fun i t pr h1 h2 => ?_) k2⟩ (by rw [List.length_map, List.length_map, hb, sortP_len]) hp)
    have hi : i < ps.length := by rw [← hb]; exact (List.getElem?_eq_some_iff.mp h1).1
    obtain ⟨j, t', g1, g2, g3⟩ := hbs i hi
    rw [h1] at g1
    cases g1
    rw [h2] at g3
    exact f3 j t pr g2 g3.symm
theorem se_srt (hK : X.K = T.K) (hg : Gl X "sorted") (hm : X.mg "sorted" = none) (ns : noStar a = true) (ha : PE X a (tE T Ex (evE h y))) :
    PE X (.Call (.Name "sorted" p) [a] [] pos) (tE T Ex (evE h (.srt y))) := by
  have both : CallR X (.builtin "sorted") (fun vs H Q => rSortedI X.K vs H Q ∨ rSortQ X.K vs H Q) := fun pins s q H vs us Q I r h => by
    rcases h with h | h
    · exact cr_sortedI pins s q H vs us Q I r h
    · exact cr_sortQ pins s q H vs us Q I r h
  refine pe_imp (pe_callB both hg hm (by decide +kernel) (pa_cons ha pa_nil (star_head ns _)) (by decide) (by decide) (star_head ns _) rfl) fun q H Q ⟨r, ts, c, l, k⟩ => ?_
  unfold okE at k
  simp only [evE, w_bindA] at k
  refine seqE (tl := []) c l k fun m r1 v H1 c1 l1 k1 => ?_
  show rSortedI X.K [v] H1 Q ∨ rSortQ X.K [v] H1 Q
  have l2 := l1.freeze
  cases hm : m.fz with
  | lst ws =>
    rw [hm] at l2
    simp only [hm] at k1
    obtain ⟨z, e1, hq⟩ := ofO_ok k1
    unfold sortW at e1
    cases e2 : intsW ws with
    | some is =>
      rw [e2] at e1
      cases e1
      obtain ⟨a, vs, f1, f2, f3, hh⟩ := l2.openL
      have e4 := hh.ints f3 e2
      subst f1 e4
      refine .inl ⟨a, is, rfl, SqL.of f2, fun ns' p hp hs hn => ?_⟩
      rw [sortI_uniq hp hs]
      exact hq _ _ c1 (new_ints l2.tail hn)
    | none =>
      rw [e2] at e1
      obtain ⟨ps, e3, rfl⟩ := Option.map_eq_some_iff.mp e1
      exact .inr (new_prs hK l2 e3 fun v H' l' => hq v H' c1 l')
  | _ => simp only [hm] at k1; exact False.elim k1
theorem dnTo_get : ∀ {n : Nat} {hi : Int} {i : Nat} {w : W}, (dnTo hi n)[i]? = some w → i < n ∧ w = .int (hi + (i : Nat) * (-1))
  | 0, _, _, _, h => by simp [dnTo] at h
  | n + 1, hi, 0, w, h => by
    simp [dnTo] at h
    exact ⟨by omega, by rw [← h]; simp⟩
  | n + 1, hi, i + 1, w, h => by
    obtain ⟨h1, h2⟩ := dnTo_get (n := n) (hi := hi - 1) (i := i) (by simpa [dnTo] using h)
    exact ⟨by omega, by rw [h2]; congr 1; omega⟩
theorem dnTo_len : ∀ {n : Nat} {hi : Int}, (dnTo hi n).length = n
  | 0, _ => rfl
  | n + 1, hi => by simp [dnTo, dnTo_len]
theorem gives_dn {hi : Int} {n : Nat} : Gives T (Itc hi (-1) n) [] (dnTo hi n) where
  go := fun i w H l hi hl => (dnTo_get hi).1
  yld := fun i w H l x H' hi hl hy => by
    obtain ⟨rfl, hx⟩ := hy
    rw [(dnTo_get hi).2]
    exact hl.plain hx
  stop := fun i H l hi hl => by
    rw [dnTo_len] at hi
    exact hi
theorem si_rng3 (hg : Gl X "range") (hm : X.mg "range" = none) (ns : noStar a = true) (ns2 : noStar b = true) (ns3 : noStar c = true) (ha : PE X a (tE T Ex (evE h y))) (hb : PE X b (tE T Ex (evE h z))) (hc : PE X c (tE T Ex (evE h u))) :
    PI X tg (.Call (.Name "range" p) [a, b, c] [] pos) (tI T Ex (evI h (.rng3 y z u))) := by
  refine pi_imp (pi_range3 hg hm (pa_cons ha (pa_cons hb (pa_cons hc pa_nil (star_head ns3 _)) (star_head ns2 _)) (star_head ns _)) (by rw [star_head ns, star_head ns2, star_head ns3]) (by rw [star_head ns2, star_head ns3]; rfl)) fun q H R ⟨r, ts, c, l, k⟩ => ?_
  simp only [evI, int_bindA] at k
  refine seqE (tl := []) c l k fun m r1 v H1 c1 l1 k1 => ?_
  obtain ⟨i, rfl, k2⟩ := int_ok k1
  refine seqE (tl := [(_, v)]) c1 l1 k2 fun m2 r2 v2 H2 c2 l2 k3 => ?_
  obtain ⟨j, rfl, k4⟩ := int_ok k3
  refine seqE (tl := [(_, v2), (_, v)]) c2 l2 k4 fun m3 r3 v3 H3 c3 l3 k5 => ?_
  obtain ⟨s, rfl, k6⟩ := int_ok k5
  split at k6
  · rename_i hz
    obtain ⟨rfl, hz1, hz2⟩ := hz
    exact ⟨i, j, -1, _, by rw [l3.vint, l3.tail.vint, l3.tail.tail.vint], RgC.neg hz1.1 hz1.2 hz2.1 hz2.2, k6 _ [] _ gives_dn c3 l3.tail.tail.tail⟩
  · exact False.elim k6
end
end Dn
-- DnX
set_option maxRecDepth 100000
set_option maxHeartbeats 4000000
/-! Exceptions: made, caught, asked; chosen calls; counts; xs[::-1]. -/
namespace L2
open PySem PySem.Spec PyProof.Rows
/-- xs.count(x) over data -/
def rCountD (K : PySem.W.Frag) : V → List V → Hp → VK → Prop := fun x xs H Q => ∃ (a : Addr) (y : V) (d : PyData) (ds : List PyData), x = V.ref a ∧ xs = [y] ∧ Dp K H (V.ref a) (.list ds) ∧ Dp K H y d ∧
  SeqAt.shaped (.list ds) = true ∧ SeqAt.shaped d = true ∧ Q (.int ((ds.countP fun z => PyData.eqv z d : Nat) : Int)) H
theorem mt_countD {X : Cx} (hu : X.A.units + 65 < cLine) : MtR X "list.count" (rCountD X.K) := by
  intro pins s σ H x xs v us Q I rx rxs h
  obtain ⟨a, y, d, ds, rfl, rfl, hl, hy, sl, sd, q⟩ := h
  cases rx
  cases rxs with
  | cons ry rt =>
    rename_i uy ut
    cases rt
    obtain ⟨bs, r1⟩ := Dp.reads I d y uy hy ry
    have hxs : PyData.canLayAll0 ds = true := SeqAt.canLay_of_shaped sl
    have hroom : X.A.units + 1 + min (PyData.depthAll ds) d.depth < cLine := room_in_shaped sd hu
    cases hl with
    | lst hs ha =>
      obtain ⟨its, rv, ⟨⟨cls, dd, data, sls⟩, n, ho, hc, hdn, hdt⟩, hlen⟩ := I.list hs
      simp only at hc hdt
      subst hc hdt
      obtain ⟨as, h4⟩ := Dp.readsAll I ds _ its ha rv
      have hmap : its.map (SeqAt.readOf s.heap) = ds := SeqAt.readsAll_map ds its as hxs h4
      refine call_meets PySem.F.slot_list_count ⟨_, ho, rfl⟩ PySem.F.entry_list_count (PySem.F.args_list_count_2 _ _)
        (SeqAt.list_countAt a its.toArray n dd sls uy (fun u => PyData.eqv (SeqAt.readOf s.heap u) d)) ⟨ho, SeqAt.items_eqAt (vs := its.toArray) (show ReadsAll s.heap its.toArray.toList ds as from h4) r1 hxs (SeqAt.canLay_of_shaped sd) hroom, ?_⟩
      have ec : its.toArray.toList.countP (fun u => PyData.eqv (SeqAt.readOf s.heap u) d) = ds.countP fun z => PyData.eqv z d := by
        rw [← hmap, List.countP_map]
        rfl
      refine ⟨.int ((ds.countP fun z => PyData.eqv z d : Nat) : Int), H, I.tok _, ⟨s.toks, ?_⟩, q⟩
      show Value.int ((its.toArray.toList.countP (fun u => PyData.eqv (SeqAt.readOf s.heap u) d) : Nat) : Int) s.toks = _
      rw [ec]
end L2
namespace Dn
open PySem PySem.Spec PyProof.Rows L2
section
variable {P : Program} {w : World} {K : PySem.W.Frag} {mg : Str → Option Value} {base : Heap} {T : Tb}
theorem ba_up : ∀ b : BS, baTl b = (upOf b).map Value.type
  | .V => rfl
  | .L => rfl
  | .R => rfl
  | .O => rfl
theorem tl_ref (b : BS) (D : Addr) : (baTl b).contains (.ref D) = false := by cases b <;> rfl
theorem tl_bex (b : BS) : (baTl b).contains (.type "BaseException") = true := by cases b <;> decide
theorem tl_obj (b : BS) : (baTl b).contains (.type "object") = true := by cases b <;> decide
theorem tl_ty (b : BS) {s : String} (h : excNames.contains s = true) : (baTl b).contains (.type s) = (upOf b).contains s := by
  have h' : s ∈ excNames := by simpa using h
  simp only [excNames, List.mem_cons, List.not_mem_nil, or_false] at h'
  rcases h' with rfl | rfl | rfl | rfl | rfl | rfl <;> cases b <;> decide
section
variable {nm q : Str} {C D N : Addr} {bs tl : List Value} {sn : List Str} {sub : List Value} {ab : Bool} {col : Option Bool} {dd : Option Addr} {k0 k1 k2 k3 k5 : Option Value} {nw : String}
theorem cl_of (l : K.lookup C = some (excClassObj nm q C N bs tl true sn sub ab col dd k0 k1 k2 k3 k5 nw)) : PySem.W.clsIn K C = some { name := nm, bases := bs, mro := .ref C :: tl, ns := N, qualname := q, hasDict := true, slotNames := sn, subclasses := sub, abstract := ab, collection := col, hasDel := false } := by
  unfold PySem.W.clsIn; rw [l] <;> rfl
theorem mro_of (l : K.lookup C = some (excClassObj nm q C N bs tl true sn sub ab col dd k0 k1 k2 k3 k5 nw)) (v : Value) : PySem.W.mroIn K C v = some ((Value.ref C :: tl).contains v) := by
  unfold PySem.W.mroIn
  rw [cl_of l]
  rfl
theorem hd_of (l : K.lookup C = some (excClassObj nm q C N bs tl true sn sub ab col dd k0 k1 k2 k3 k5 nw)) : PySem.W.hasDictIn K C = true := by
  unfold PySem.W.hasDictIn
  rw [cl_of l]
  rfl
theorem ty_of' (l : K.lookup C = some (excClassObj nm q C N bs tl true sn sub ab col dd k0 k1 k2 k3 k5 nw)) : PySem.W.typeIn K (.ref C) = some (.type "type") := by
  show (K.lookup C).map (·.cls) = _
  rw [l]
  rfl
end
/-- what the rules want of a class that stands -/
structure CF (P : Program) (w : World) (K : PySem.W.Frag) (mg : Str → Option Value) (base : Heap) (T : Tb) (c : Nat) (d : CD) (C : Addr) : Prop where
  ca : T.ca c = some C
  mgc : mg d.name = some (.ref C)
  xk : XkC K C
  ox : OexB K (baTl d.base) (baNew d.base) C
  hd : PySem.W.hasDictIn K C = true
  cl : (PySem.W.clsIn K C).isSome = true
  mro : ∀ v, PySem.W.mroIn K C v = some ((Value.ref C :: baTl d.base).contains v)
  nm : ∃ cd, PySem.W.clsIn K C = some cd ∧ cd.name = d.name
  fs : (d.fs = [] ∧ PySem.W.excIn K C (baTl d.base) (baNew d.base) = true) ∨
      ∃ (f : Str) (fI : Addr) (fd : FuncData), d.fs = [f] ∧ PySem.W.findIn K (.ref C) f = some none ∧ PySem.W.findIn K (.ref C) "__init__" = some (some (.ref fI)) ∧ PySem.W.typeIn K (.ref fI) = some (.type "function") ∧
        FnOk P w K mg base (L2.CX P w) 1 fI fd ["self", f] (initSp K (baTl d.base) (baNew d.base) f) ∧ Binds K fd ["self", f] []
theorem ClsOk.cf {c : Nat} {d : CD} (h : ClsOk P w K mg base T c d) : ∃ C, CF P w K mg base T c d C := by
  obtain ⟨C, q, N, bs, sn, sub, ab, col, dd, k0, k1, k2, k3, k5, h1, h2, l, h3, h4, h5, h6, h7, h8, h9, h10⟩ := h.ex
  have e1 : PySem.W.subIn K (.ref C) (.type "BaseException") = some true := by
    show PySem.W.mroIn K C _ = _
    rw [mro_of l, List.contains_cons, tl_bex, Bool.or_true]
  refine ⟨C, h1, h2, ⟨h5, h6, e1, ?_, h7, h8, h9, ?_⟩, ⟨⟨_, _, _, _, _, _, _, _, _, _, _, _, _, _, l⟩, h4, e1, ty_of' l, h3⟩, hd_of l, ?_, mro_of l, ⟨_, cl_of l, rfl⟩, h10⟩
  · rw [cl_of l]; rfl
  · rw [mro_of l, List.contains_cons, tl_obj, Bool.or_true]
  · rw [cl_of l]; rfl
theorem CF.kit_blt {c : Nat} {d : CD} {C : Addr} (F : CF P w K mg base T c d C) {s : String} (h : excNames.contains s = true) : PySem.W.kitOne K (.ref C) (.type s) = some (xtB d (.blt s)) := by
  have e : PySem.W.kitCls K (.ref C) (.type s) = some (xtB d (.blt s)) := by
    have hm : PySem.W.kitMeta s = true := by
      have h' : s ∈ excNames := by simpa using h
      simp only [excNames, List.mem_cons, List.not_mem_nil, or_false] at h'
      rcases h' with rfl | rfl | rfl | rfl | rfl | rfl <;> decide +kernel
    show (if PySem.W.kitMeta s = true then PySem.W.subIn K (.ref C) (.type s) else none) = _
    rw [if_pos hm]
    show PySem.W.mroIn K C _ = _
    rw [F.mro, List.contains_cons, tl_ty d.base h]
    rfl
  show (if (Value.ref C == Value.type s) = true then some true else PySem.W.kitCls K (.ref C) (.type s)) = _
  rw [if_neg (by simp), e]
theorem CF.same {c c' : Nat} {d d' : CD} {C D : Addr} (F : CF P w K mg base T c d C) (G : CF P w K mg base T c' d' D) : C = D ↔ d.name = d'.name := by
  constructor
  · intro e
    subst e
    obtain ⟨cd, h1, h2⟩ := F.nm
    obtain ⟨cd', h3, h4⟩ := G.nm
    rw [h1] at h3
    cases h3
    rw [← h2, h4]
  · intro e
    have h1 := F.mgc
    have h2 := G.mgc
    rw [e, h2] at h1
    cases h1
    rfl
theorem CF.sub_own {c c' : Nat} {d d' : CD} {C D : Addr} (F : CF P w K mg base T c d C) (G : CF P w K mg base T c' d' D) : PySem.W.kitCls K (.ref C) (.ref D) = some (decide (d.name = d'.name)) := by
  have h1 : ((PySem.W.clsIn K D).isSome && PySem.W.typeIn K (.ref D) == some (.type "type")) = true := by
    rw [G.cl, G.ox.tyC]; rfl
  show (if ((PySem.W.clsIn K D).isSome && PySem.W.typeIn K (.ref D) == some (.type "type")) = true then PySem.W.subIn K (.ref C) (.ref D) else none) = _
  rw [if_pos h1]
  show PySem.W.mroIn K C _ = _
  rw [F.mro, List.contains_cons, tl_ref, Bool.or_false]
  by_cases e : C = D
  · have h2 := (F.same G).mp e
    subst e
    rw [decide_eq_true h2]
    simp
  · have h2 : ¬ d.name = d'.name := fun z => e ((F.same G).mpr z)
    rw [decide_eq_false h2]
    have : (Value.ref D == Value.ref C) = false := beq_eq_false_iff_ne.mpr fun z => e (Value.ref.inj z).symm
    rw [this]
theorem CF.kit_own {c c' : Nat} {d d' : CD} {C D : Addr} (F : CF P w K mg base T c d C) (G : CF P w K mg base T c' d' D) : PySem.W.kitOne K (.ref C) (.ref D) = some (xtB d (.own d'.name)) := by
  show (if (Value.ref C == Value.ref D) = true then some true else PySem.W.kitCls K (.ref C) (.ref D)) = some (decide (d.name = d'.name))
  by_cases e : C = D
  · have h2 := (F.same G).mp e
    rw [e, if_pos (by simp), decide_eq_true h2]
  · have : (Value.ref C == Value.ref D) = false := beq_eq_false_iff_ne.mpr fun z => e (Value.ref.inj z)
    rw [this, if_neg (by simp), F.sub_own G]
theorem CF.exm_own {c c' : Nat} {d d' : CD} {C D : Addr} (F : CF P w K mg base T c d C) (G : CF P w K mg base T c' d' D) : PySem.W.exmOne K (.ref C) (.ref D) = some (decide (d.name = d'.name)) := by
  show (if (PySem.W.subIn K (.ref D) (.type "BaseException") == some true) = true then PySem.W.kitCls K (.ref C) (.ref D) else none) = _
  rw [if_pos (by rw [G.ox.exC]; rfl), F.sub_own G]
end

section
variable {T : Tb} {Ex Ex' : WX} {G : Pg} {n : Nat} {q q' q0 : L2.St} {ts ts' tl : List (M × V)} {X : Cx} {e a b c tg elt iter o : Expr} {es rest ifs : List Expr} {pos p p2 tpos apos cpos : Pos} {H H' : Hp} {h : Th} {x y z : Str} {r r0 : Env} {lk : Nat → Prop} {D : Ends} {l : List (M × V)} {v : V}
theorem At.cf (A : At X T G n Ex) {c : Nat} {d : CD} (hd : lkC G.cl c = some d) : ∃ C, CF X.prog X.w X.K X.mg X.base T c d C := (A.cls c d hd).cf
theorem At.cfn (A : At X T G n Ex) {s : Str} (hs : G.cl.any (fun p => decide (p.2.name = s)) = true) : ∃ c d C, lkC G.cl c = some d ∧ d.name = s ∧ CF X.prog X.w X.K X.mg X.base T c d C := by
  obtain ⟨p, hp, e⟩ := List.any_eq_true.mp hs
  obtain ⟨C, F⟩ := A.cf (A.cln p hp)
  exact ⟨p.1, p.2, C, A.cln p hp, of_decide_eq_true e, F⟩
theorem th_ex {n : Nat} : (G.th n).ex = lkC G.cl := by cases n <;> rfl
theorem th_rz {n : Nat} (h : (G.th n).rz = true) : 2 ≤ n := by
  cases n with
  | zero => cases h
  | succ n =>
    have h' : decide (1 ≤ n) = true := h
    have := of_decide_eq_true h'
    omega
/-- a kept exception -/
theorem Live.vexc {c : Nat} {ns : List Str} {ws : List W} (hl : Live T H ((.im (.exc c ns ws), v) :: l)) : ∃ (a C : Addr) (d : Option Addr), T.ca c = some C ∧ v = .ref a ∧ H a = some (XO (.ref C) d a) ∧ ∀ dd, d = some dd → ∃ fs, H dd = some (.xd fs) := by
  obtain ⟨F, fp, s, k⟩ := hl
  cases k with
  | cons k1 _ _ =>
    obtain ⟨a, C, d, e1, e2, e3, e4⟩ := k1.2
    refine ⟨a, C, d, e1, e2, s a _ e3, fun dd ed => ?_⟩
    rcases e4 with ⟨_, _, e⟩ | ⟨dd', vs, e5, e6, _⟩
    · rw [e] at ed; cases ed
    · rw [e5] at ed; cases ed; exact ⟨_, s _ _ e6⟩
theorem zip_look {T : Tb} {F : Hp} : ∀ {ns : List Str} {ws : List W} {vs : List V} {f : Str} {w : W}, RepWs T F ws vs → fldW ns ws f = some w → ∃ u, (ns.zip vs).lookup f = some u ∧ RepW T F w u
  | [], _, _, _, _, _, h => by simp [fldW] at h
  | _ :: _, [], _, _, _, _, h => by simp [fldW] at h
  | m :: ns, w0 :: ws, _, f, w, r, h => by
    obtain ⟨v, vs', e1, e2, e3⟩ := r
    subst e1
    unfold fldW at h
    by_cases hm : m = f
    · rw [if_pos hm] at h
      cases h
      subst hm
      exact ⟨v, by simp [List.zip, List.lookup], e2⟩
    · rw [if_neg hm] at h
      obtain ⟨u, h1, h2⟩ := zip_look e3 h
      have hb : (f == m) = false := beq_eq_false_iff_ne.mpr (Ne.symm hm)
      exact ⟨u, by rw [List.zip_cons_cons, List.lookup_cons, hb]; exact h1, h2⟩
theorem Live.fexc {c : Nat} {ns : List Str} {ws : List W} {f : Str} {w : W} (hl : Live T H ((.im (.exc c ns ws), v) :: l)) (hf : fldW ns ws f = some w) : ∃ (a C dd : Addr) (fs : List (Str × V)) (u : V), T.ca c = some C ∧ v = .ref a ∧ H a = some (XO (.ref C) (some dd) a) ∧ H dd = some (.xd fs) ∧ fs.lookup f = some u ∧ Live T H ((.im w, u) :: l) := by
  obtain ⟨F, fp, s, k⟩ := hl
  cases k with
  | cons k1 k2 k3 =>
    obtain ⟨a, C, d, e1, e2, e3, e4⟩ := k1.2
    rcases e4 with ⟨e, _, _⟩ | ⟨dd', vs, e5, e6, e7, e8⟩
    · subst e; simp [fldW] at hf
    · obtain ⟨u, h1, h2⟩ := zip_look e8 hf
      subst e5
      exact ⟨a, C, dd', _, u, e1, e2, s a _ e3, s _ _ e6, h1, F, [] ++ _, s, .cons (m := .im w) ⟨rfl, h2⟩ k2 (by simp)⟩
/-- what isinstance is asked of -/
structure XtOk (X : Cx) (T : Tb) (G : Pg) (t : XT) (v : V) (u : Value) : Prop where
  cv : ClsV v u
  kit : ∀ c d C, lkC G.cl c = some d → T.ca c = some C → PySem.W.kitOne X.K (.ref C) u = some (xtB d t)
theorem At.cfa (A : At X T G n Ex) {c : Nat} {d : CD} {C : Addr} (hd : lkC G.cl c = some d) (hc : T.ca c = some C) : CF X.prog X.w X.K X.mg X.base T c d C := by
  obtain ⟨C', F⟩ := A.cf hd
  have e := F.ca
  rw [hc] at e
  cases e
  exact F
theorem xt_own (A : At X T G n Ex) {s : Str} (hs : G.cl.any (fun p => decide (p.2.name = s)) = true) : ∃ D, X.mg s = some (.ref D) ∧ XtOk X T G (.own s) (.ref D) (.ref D) := by
  obtain ⟨c', d', D, h1, h2, F'⟩ := A.cfn hs
  subst h2
  exact ⟨D, F'.mgc, .own D, fun c d C hd hc => (A.cfa hd hc).kit_own F'⟩
theorem xt_blt (A : At X T G n Ex) {s : String} (hs : excNames.contains s = true) : XtOk X T G (.blt s) (.ty s) (.type s) :=
  ⟨.ty s, fun c d C hd hc => (A.cfa hd hc).kit_blt hs⟩
inductive XtL (X : Cx) (T : Tb) (G : Pg) : List XT → List V → List Value → Prop
  | nil : XtL X T G [] [] []
  | cons {t : XT} {v : V} {u : Value} {us : List XT} {vs : List V} {ws : List Value} : XtOk X T G t v u → XtL X T G us vs ws → XtL X T G (t :: us) (v :: vs) (u :: ws)
theorem XtL.cv {us : List XT} {vs : List V} {ws : List Value} (hx : XtL X T G us vs ws) : Paired ClsV vs ws := by
  induction hx with
  | nil => exact .nil
  | cons h _ ih => exact .cons h.cv ih
theorem XtL.len {us : List XT} {vs : List V} {ws : List Value} (hx : XtL X T G us vs ws) : vs.length = us.length := by
  induction hx with
  | nil => rfl
  | cons _ _ ih => simp [ih]
theorem XtL.kit {us : List XT} {vs : List V} {ws : List Value} (hx : XtL X T G us vs ws) {c : Nat} {d : CD} {C : Addr} (hd : lkC G.cl c = some d) (hc : T.ca c = some C) : PySem.W.kitAny X.K (.ref C) ws = some (us.any (xtB d)) := by
  induction hx with
  | nil => rfl
  | @cons t v u us vs ws h _ ih =>
    unfold PySem.W.kitAny
    rw [h.kit c d C hd hc, List.any_cons]
    cases xtB d t
    · simpa using ih
    · rfl
/-- names of classes -/
def tyV (vs : List V) : TA := fun _ H Q => Q vs H
theorem tv_nil : PA X [] (tyV []) := pa_imp pa_nil fun _ _ _ h => h
theorem tv_cons {v : V} {vs : List V} (ns : noStar a = true) (ha : PE X a (tC v)) (hr : PA X es (tyV vs)) : PA X (a :: es) (tyV (v :: vs)) := pa_imp (pa_cons ha hr (star_head ns _)) fun _ _ _ h => h
theorem se_isx1 {y : E} {t : XT} {vt : V} {ut : Value} (A : At X T G n Ex) (hg : Gl X "isinstance") (hm : X.mg "isinstance" = none) (ns : noStar a = true) (ns2 : noStar b = true) (hx : XtOk X T G t vt ut) (ha : PE X a (tE T Ex (evE (G.th n) y))) (hb : PE X b (tC vt)) :
    PE X (.Call (.Name "isinstance" p) [a, b] [] pos) (tE T Ex (evE (G.th n) (.isx y [t]))) := by
  refine pe_imp (pe_callB call_isX hg hm rfl (pa_cons ha (pa_cons hb pa_nil (star_head ns2 _)) (star_head ns _)) (by decide) (by decide) (star_head ns _) (stars_plain (by simp [ns2]) _)) fun q H Q ⟨r, ts, c, l, k⟩ => ?_
  unfold okE at k
  simp only [evE, w_bindA] at k
  refine seqE (tl := []) c l k fun m r1 v H1 c1 l1 k1 => ?_
  split at k1
  · rename_i c0 ns0 ws0 em
    rw [th_ex] at k1
    obtain ⟨d, e1, hq⟩ := ofO_ok (ofO_map k1)
    have l2 := l1.freeze
    rw [em] at l2
    obtain ⟨ad, C, dd, g1, g2, g3, g4⟩ := l2.vexc
    have F := A.cfa e1 g1
    refine ⟨ad, C, dd, vt, [vt], [ut], [t].any (xtB d), by rw [g2], F.xk, g3, g4, .cons hx.cv .nil, .inl ⟨rfl, ut, rfl, ?_⟩, hq _ _ c1 (l2.tail.plain rfl)⟩
    rw [hx.kit _ _ _ e1 g1]
    simp
  · exact False.elim k1
theorem se_isxT {y : E} {us : List XT} {vs : List V} {ws : List Value} {kk : Nat} (A : At X T G n Ex) (hg : Gl X "isinstance") (hm : X.mg "isinstance" = none) (ns : noStar a = true) (hz : us.length ≤ LIM) (hx : XtL X T G us vs ws) (ha : PE X a (tE T Ex (evE (G.th n) y))) (hb : PA X es (tyV vs)) :
    PE X (.Call (.Name "isinstance" p) [a, .Tuple es kk p2] [] pos) (tE T Ex (evE (G.th n) (.isx y us))) := by
  refine pe_imp (pe_callB call_isX hg hm rfl (pa_cons ha (pa_cons (pe_tup hb) pa_nil rfl) (star_head ns _)) (by decide) (by decide) (star_head ns _) rfl) fun q H Q ⟨r, ts, c, l, k⟩ => ?_
  unfold okE at k
  simp only [evE, w_bindA] at k
  refine seqE (tl := []) c l k fun m r1 v H1 c1 l1 k1 => ?_
  split at k1
  · rename_i c0 ns0 ws0 em
    rw [th_ex] at k1
    obtain ⟨d, e1, hq⟩ := ofO_ok (ofO_map k1)
    have l2 := l1.freeze
    rw [em] at l2
    refine ⟨small_line (by rw [hx.len]; exact hz), fun tp hp => ?_⟩
    have l3 := l2.grow (o := .tup vs) hp
    obtain ⟨ad, C, dd, g1, g2, g3, g4⟩ := l3.vexc
    have F := A.cfa e1 g1
    exact ⟨ad, C, dd, .ref tp, vs, ws, us.any (xtB d), by rw [g2], F.xk, g3, g4, hx.cv, .inr ⟨tp, rfl, upd_same, hx.kit e1 g1⟩, hq _ _ c1 (l3.tail.plain rfl)⟩
  · exact False.elim k1
/-- e.f -/
theorem se_fld {y : E} {f : Str} (A : At X T G n Ex) (hb : attributeBase a f X.env (eval a X.env) = eval a X.env) (ha : PE X a (tE T Ex (evE (G.th n) y))) : PE X (.Attribute a f pos) (tE T Ex (evE (G.th n) (.fld y f))) := by
  refine pe_imp (pe_xk ha hb) fun q H Q ⟨r, ts, c, l, k⟩ => ?_
  unfold okE at k
  simp only [evE, w_bindA] at k
  refine seqE (tl := []) c l k fun m r1 v H1 c1 l1 k1 => ?_
  split at k1
  · rename_i c0 ns0 ws0 em
    rw [th_ex] at k1
    obtain ⟨w, e1, hq⟩ := ofO_ok (ofO_map k1)
    obtain ⟨d, e2, e3⟩ := Option.bind_eq_some_iff.mp e1
    split at e3
    · rename_i hc
      have l2 := l1.freeze
      rw [em] at l2
      obtain ⟨ad, C, dd, fs, u, g1, g2, g3, g4, g5, g6⟩ := l2.fexc e3
      have F := A.cfa e2 g1
      have hno : PySem.W.findIn X.K (.ref C) f = some none := by
        rcases F.fs with ⟨z, _⟩ | ⟨f', _, _, z, z2, _⟩
        · rw [z] at hc; simp at hc
        · rw [z] at hc
          have : f = f' := by simpa using hc
          rw [this]; exact z2
      exact ⟨ad, C, dd, fs, u, g2, F.xk, F.hd, hno, g3, g4, g5, hq _ _ c1 g6⟩
    · cases e3
  · exact False.elim k1
/-- xs[::-1] -/
theorem se_rvs {y : E} {k : Nat} {p1 p3 : Pos} (ha : PE X a (tE T Ex (evE h y))) : PE X (.Subscript a (.Slice none none (some (.UnaryOp .USub (.Constant (.int 1) k p1) p2)) p3) pos) (tE T Ex (evE h (.rvs y))) := by
  refine pe_imp (pe_revL ha) fun q H Q ⟨r, ts, c, l, k⟩ => ?_
  unfold okE at k
  simp only [evE, w_bindA] at k
  refine seqE (tl := []) c l k fun m r1 v H1 c1 l1 k1 => ?_
  split at k1
  · rename_i ws em
    have l2 := l1.freeze
    rw [em] at l2
    obtain ⟨ad, vs, e1, e2, e3, e4⟩ := l2.openL
    refine ⟨ad, vs, e1, SqL.of e2, fun p hp => ?_⟩
    obtain ⟨F, fp, s, kk⟩ := e4
    obtain ⟨rr, kk'⟩ := LV.ims_split e3 kk
    have l3 : Live T H1 (ims ws.reverse vs.reverse ++ ((.im (.lst ws), v) :: (slots r1 q ++ ts))) := ⟨F, fp, s, LV.ims_join rr.reverse kk'⟩
    have l4 := l3.newL (p := p) (by simp [e3]) hp
    exact k1 _ _ c1 (drop2 l4)
  · exact False.elim k1
/-- xs.count(x) -/
theorem se_count {y : E} {xs : Es} (hK : X.K = T.K) (hu : X.A.units + 65 < cLine) (hb : attributeBase o "count" X.env (eval o X.env) = eval o X.env) (ns : (a :: es).all noStar = true) (hl : es.length + 1 < 30) (hline : (apos.endLine == cpos.line) = true)
    (ho : PE X o (tE T Ex (evE h y))) (ha : PA X (a :: es) (tL T Ex (evEs h xs))) : PE X (.Call (.Attribute o "count" apos) (a :: es) [] cpos) (tE T Ex (evE h (.mth .count y xs))) := by
  have ns2 : noStar a = true ∧ es.all noStar = true := by simpa using ns
  refine pe_imp (pe_bm F.plainAttrs_list F.slot_list_count F.type_list_count (mt_countD hu) ho ha hb (few_args ns hl _) hline (star_head ns2.1 _) (stars_plain ns2.2 _)) fun q H Q ⟨r, ts, c, l, k⟩ => ?_
  unfold okE at k
  simp only [evE, w_bindA] at k
  refine seqE (tl := []) c l k fun m r1 v H1 c1 l1 k1 => ?_
  split at k1
  · rename_i hty
    have hlst : ∃ ws, m.fz = .lst ws := by
      cases hm : m.fz <;> rw [hm] at hty <;> first | exact ⟨_, rfl⟩ | (cases hty)
    obtain ⟨us, hus⟩ := hlst
    have l2 := l1.freeze
    rw [hus] at l2 k1
    obtain ⟨ad, ys, f1, f2, f3, _⟩ := l2.openL
    subst f1
    refine ⟨.inl ⟨rfl, ys, SqL.of f2⟩, ?_⟩
    refine seqL (tl := [(.im (.lst us), .ref ad)]) c1 l2 k1 fun ws r2 vs H2 c2 hl l3 k2 => ?_
    obtain ⟨nn, e2, hq⟩ := ofO_ok k2
    unfold mthW at e2
    split at e2
    case h_2 _ us' w' _ e4 =>
      cases e4
      obtain ⟨j, hj, rfl⟩ := Option.map_eq_some_iff.mp e2
      cases vs with
      | nil => cases hl
      | cons v1 vt =>
        have : vt = [] := List.eq_nil_of_length_eq_zero (by simpa using hl)
        subst this
        have l4 : Live T H2 ((.im w', v1) :: (.im (.lst us), .ref ad) :: (slots r2 q ++ ts)) := l3
        unfold cntL at hj
        split at hj
        · rename_i d ds g1 g2
          split at hj
          · rename_i hs
            cases hj
            rw [Bool.and_eq_true] at hs
            have dpy := l4.dp g1
            have dpl : Dp T.K H2 (.ref ad) (.list ds) := l4.tail.dp (by simp [W.toD, g2])
            rw [← hK] at dpy dpl
            exact ⟨ad, v1, d, ds, rfl, rfl, dpl, dpy, hs.2, hs.1, hq _ _ c2 (l4.tail.tail.plain rfl)⟩
          · cases hj
        · cases hj
    all_goals first | contradiction | (cases e2; done) | (rename_i e; cases e; done)
  · exact False.elim k1
/-! ### raise -/
theorem upd_del {H1 : Hp} {a dx : Addr} {u1 u2 o : HO} (hn : H1 a = none) (ne : dx ≠ a) : upd (del (upd (upd (upd H1 a u1) dx u2) a u1) a) dx o = upd H1 dx o := by
  funext b
  by_cases hb : b = dx
  · rw [hb, upd_same, upd_same]
  · rw [upd_ne hb, upd_ne hb]
    by_cases ha : b = a
    · rw [ha, del_same, hn]
    · rw [del_ne ha, upd_ne ha, upd_ne hb, upd_ne ha]
theorem upd_del2 {H1 : Hp} {a dx : Addr} {u1 u2 u3 o : HO} (hn : H1 a = none) (ne : dx ≠ a) : upd (del (upd (upd (upd H1 a u1) dx u2) a u3) a) dx o = upd H1 dx o := by
  funext b
  by_cases hb : b = dx
  · rw [hb, upd_same, upd_same]
  · rw [upd_ne hb, upd_ne hb]
    by_cases ha : b = a
    · rw [ha, del_same, hn]
    · rw [del_ne ha, upd_ne ha, upd_ne hb, upd_ne ha]
theorem ss_rse {c : Nat} {d : CD} {xs : Es} (A : At X T G n Ex) (hd : lkC G.cl c = some d) (hg : Gl X d.name) (hdb : (d.name == ("__debug__" : Str)) = false) (ns : es.all noStar = true) (hl : es.length = d.fs.length) (hx0 : es = [] → xs = .nil) (ha : PA X es (tL T Ex (evEs (G.th n) xs))) :
    PS X (.Raise (some (.Call (.Name d.name p) es [] p2)) none pos) (tS T Ex lk (evS (G.th n) (.rse c xs))) := by
  obtain ⟨C, F⟩ := A.cf hd
  have rs : Raises X (.ref C) := raises_own F.ox.exC F.ox.tyC
  rcases F.fs with ⟨e0, hx⟩ | ⟨f, fI, fd, e0, hno, iC, tI, F1, hb⟩
  · rw [e0] at hl
    have ee : es = [] := List.eq_nil_of_length_eq_zero hl
    subst ee
    refine ps_imp (ps_raise A.calm A.tk (pmk_own0 (ba_of d.base).F hx F.mgc F.ox.kC rs hg hdb)) fun D q H ⟨r, ts, cc, l, k⟩ => ?_
    simp only [evS] at k
    split at k
    · obtain rfl := hx0 rfl
      simp only [evEs] at k
      have k2 : okS T Ex lk q ts D _ := k
      simp only [R.bind] at k2
      rw [th_ex, hd] at k2
      simp only at k2
      split at k2
      · exact k2 _ _ q H cc Lk.refl ⟨C, F.ca, rfl, .inl ⟨e0, rfl, rfl, l⟩⟩
      · exact False.elim k2
    · exact False.elim k
  · rw [e0] at hl
    obtain ⟨e1, rfl⟩ : ∃ e1, es = [e1] := by
      cases es with
      | nil => cases hl
      | cons e1 t => exact ⟨e1, by have : t = [] := List.eq_nil_of_length_eq_zero (by simpa using hl); rw [this]⟩
    have ns1 : noStar e1 = true := by simpa using ns
    refine ⟨fun pins s σ H D I ⟨r, ts, cc, l, k⟩ => ?_⟩
    simp only [evS] at k
    split at k
    · rename_i hrz
      have k1 := okS.bind k
      have hr : Room 2 X.A := A.rm.mono (th_rz hrz)
      refine (ps_raise A.calm A.tk (pmk_oexB (ba_of d.base) F.ox iC tI F1 hr hb passL hg F.mgc ha hdb (star_head ns1 _) rfl)).run pins s σ H D I ?_
      refine ⟨r, ts, cc, l, k1.imp fun ws r1 k2 vs H1 c1 hlen l1 => ?_⟩
      rw [th_ex, hd] at k2
      simp only at k2
      split at k2
      · rename_i hz
        rw [e0] at hz
        have hw : ws.length = 1 := hz.symm
        obtain ⟨y, rfl⟩ : ∃ y, vs = [y] := one_v (by rw [hlen, hw])
        refine ⟨by show 1 ≤ 1000; omega, fun a hn => ?_⟩
        refine ⟨a, C, y, rfl, F.ox, hno, upd_same, fun dx hdx ne => ?_⟩
        have hd1 : H1 dx = none := by rw [upd_ne ne] at hdx; exact hdx
        refine ⟨rfl, dx, [(f, y)], upd_same, ?_, hd1, ?_⟩
        · rw [upd_ne ne, upd_same]
        · rw [upd_del2 hn ne]
          refine k2 _ _ σ _ c1 Lk.refl ⟨C, F.ca, rfl, .inr ⟨dx, [y], rfl, ?_, by rw [hw]; rfl, by rw [e0, hw]; rfl, ?_⟩⟩
          · rw [upd_same, e0]; rfl
          · exact l1.grow hd1
      · exact False.elim k2
    · exact False.elim k
/-! ### chosen calls -/
theorem Live.vfn {f : Nat} (hl : Live T H ((.im (.fn f), v) :: l)) : ∃ a, T.fa f = some a ∧ v = .ref a := by
  obtain ⟨F, fp, s, k⟩ := hl
  cases k with | cons k1 _ _ => exact k1.2
theorem se_fnr {f : Nat} {d : FD} (A : At X T G n Ex) (hd : G.fd f = some d) (hg : Gl X d.name) (hdb : (d.name == ("__debug__" : Str)) = false) : PE X (.Name d.name p) (tE T Ex (evE (G.th n) (.fnr f))) := by
  obtain ⟨ad, fd, h1, h2, h3, h4, F, _⟩ := (A.fns f d hd).ex
  refine pe_imp (pe_glob (v := .ref ad) hg h2 rfl hdb) fun q H Q ⟨r, ts, c, l, k⟩ => ?_
  unfold okE at k
  simp only [evE] at k
  obtain ⟨F', fp, s, kk⟩ := l
  exact k _ _ c ⟨F', [] ++ fp, s, .cons (m := .im (.fn f)) ⟨rfl, ad, h1, rfl⟩ kk (by simp)⟩
theorem arm_sub {a b : Expr} {p pos : Pos} {args : List Expr} {kws : List Keyword} {env : PySem.Env} : eval (.Call (.Subscript a b p) args kws pos) env = (do callWith pos (← eval (.Subscript a b p) env) [] (backTo pos (starEach args env)) (backToKw pos (keywordEach kws env))) := rfl
theorem se_cld {y : E} {xs : As} (A : At X T G n Ex) (ns : (c :: es).all noStar = true) (he : PE X (.Subscript a b p) (tE T Ex (evE (G.th n) y))) (ha : PA X (c :: es) (tA T Ex (evA (G.th n) xs))) : PE X (.Call (.Subscript a b p) (c :: es) [] pos) (tE T Ex (evE (G.th n) (.cld y xs))) := by
  have ns2 : noStar c = true ∧ es.all noStar = true := by simpa using ns
  refine ⟨fun pins s q H Q I ⟨r, ts, cc, l, k⟩ => ?_⟩
  unfold okE at k
  simp only [evE, w_bindA] at k
  have hr : tE T Ex (evE (G.th n) y) q H (fun v H1 => ∃ f ad d, T.fa f = some ad ∧ G.fd f = some d ∧ v = .ref ad ∧ (tA T Ex (evA (G.th n) xs)) q H1 fun vs H2 => spF T G n f vs H2 Q (fun cls d H => Ex cls d q H)) := by
    refine seqE (tl := []) cc l k fun m r1 v H1 c1 l1 k1 => ?_
    split at k1
    · rename_i f em
      have l2 := l1.freeze
      rw [em] at l2
      obtain ⟨ad, h1, h2⟩ := l2.vfn
      obtain ⟨d, hd⟩ := A.fad f ad h1
      refine ⟨f, ad, d, h1, hd, h2, r1, ts, c1, l2.tail, ?_⟩
      have k' := okR.bind k1
      cases e : evA (G.th n) xs r1 with
      | ok al r2 =>
        rw [e] at k'
        intro vs H2 c2 av l3
        have k2 : okR T Ex q ts _ (if allR al = true then callA ((G.th n).fn f) al r2 else .stuck) := k'
        split at k2
        · rename_i hal
          exact call_rd hd c2 av (lent_allR hal) l3 k2 fun m r' hS => hS
        · exact False.elim k2
      | exc w r2 => rw [e] at k'; exact k'
      | stuck => rw [e] at k'; exact k'
    · exact False.elim k1
  rw [arm_sub]
  refine wpAny_bind (thn (he.run pins s q H _ I hr) fun u s1 ⟨v, H1, I1, rv, f, ad, d, h1, hd, ev, hsp⟩ => ?_)
  subst ev
  obtain rfl : u = Value.ref ad := rv
  obtain ⟨ad', fd, g1, g2, g3, g4, F, _⟩ := (A.fns f d hd).ex
  rw [h1] at g1
  cases g1
  refine PySem.W.callWith_K (h₀ := X.base) I.ok.mod.kin g3 (thn (ha.run pos pins s1 q H1 _ I1 hsp) fun us s2 ⟨vs, H2, I2, r2, q2⟩ => ⟨I2.kIn, ?_⟩) (star_head ns2.1 _) (stars_plain ns2.2 _)
  exact run_fnS (E := WE Ex) F A.rm g4 (passAt A.tk q) I2 r2 q2
/-! ### try: .. except (C, ..) as e: x = e -/
theorem LV.lst {F : Hp} {fp : List Addr} (k : LV T F H l fp) : ∀ a ∈ fp, ∃ vs, H a = some (.lst vs) := by
  induction k with
  | nil => intro a ha; simp at ha
  | @cons m v l f g k1 k2 k3 ih =>
    intro a ha
    rcases List.mem_append.mp ha with ha | ha
    · cases m with
      | im w => obtain ⟨e, _⟩ := k1; subst e; simp at ha
      | ls ws =>
        obtain ⟨b, vs, e1, e2, e3, _⟩ := k1
        subst e2
        have : a = b := by simpa using ha
        subst this
        exact ⟨vs, e3⟩
      | pin G => obtain ⟨e, _⟩ := k1; subst e; simp at ha
      | _ => exact False.elim k1
    · exact ih a ha
theorem Live.caught {w : W} {cls : Value} {d : Option Addr} {a : Addr} (hx : ExcLive T H w cls d l) (hn : H a = none) : Live T (upd H a (XO cls d a)) ((.im w, .ref a) :: l) := by
  cases w with
  | exc c ns ws =>
    obtain ⟨C, e1, e2, h | ⟨dd, vs, e3, e4, e5, e6, h⟩⟩ := hx
    · obtain ⟨h1, h2, h3, F, fp, s, k⟩ := h
      subst e2 h1 h2 h3
      have sF : Same F (upd F a (XO (.ref C) none a)) := fun b o e => by
        rw [upd_ne (ne_of_none (s b o e) hn)]; exact e
      refine ⟨upd F a (XO (.ref C) none a), [] ++ fp, fun b o e => ?_, .cons (m := .im (.exc c [] [])) ⟨rfl, a, C, none, e1, rfl, upd_same, .inl ⟨rfl, rfl, rfl⟩⟩ (k.mono sF (fun b hb => ?_) fun b hb => ?_) (by simp)⟩
      · by_cases hb : b = a
        · subst hb; rw [upd_same] at e ⊢; exact e
        · rw [upd_ne hb] at e ⊢; exact s b o e
      · obtain ⟨⟨o, q⟩, z⟩ := k.own s b hb
        rw [upd_ne (ne_of_none q hn)]; exact z
      · obtain ⟨⟨o, q⟩, z⟩ := k.own s b hb
        rw [upd_ne (ne_of_none q hn)]
    · obtain ⟨F, fp, s, k0⟩ := h
      obtain ⟨rr, k⟩ := LV.ims_split e5 k0
      subst e2 e3
      have nda : dd ≠ a := fun z => by rw [z, hn] at e4; cases e4
      have sF : Same F (upd (upd F dd (.xd (ns.zip vs))) a (XO (.ref C) (some dd) a)) := fun b o e => by
        rw [upd_ne (ne_of_none (s b o e) hn)]
        by_cases hb : b = dd
        · subst hb
          have z := s b o e
          rw [e4] at z
          cases z
          rw [upd_same]
        · rw [upd_ne hb]; exact e
      refine ⟨_, [] ++ fp, fun b o e => ?_, .cons (m := .im (.exc c ns ws)) ⟨rfl, a, C, some dd, e1, rfl, upd_same, .inr ⟨dd, vs, rfl, ?_, e6, rr.mono sF⟩⟩ (k.mono sF (fun b hb => ?_) fun b hb => ?_) (by simp)⟩
      · by_cases hb : b = a
        · subst hb; rw [upd_same] at e ⊢; exact e
        · rw [upd_ne hb] at e ⊢
          by_cases hb2 : b = dd
          · subst hb2; rw [upd_same] at e; cases e; exact e4
          · rw [upd_ne hb2] at e; exact s b o e
      · rw [upd_ne nda, upd_same]
      · obtain ⟨⟨o, q⟩, z⟩ := k.own s b hb
        obtain ⟨vs', q2⟩ := k.lst b hb
        rw [upd_ne (ne_of_none q hn), upd_ne fun zz => by rw [zz, e4] at q2; cases q2]
        exact z
      · obtain ⟨⟨o, q⟩, z⟩ := k.own s b hb
        rw [upd_ne (ne_of_none q hn)]
  | _ => exact False.elim hx
theorem cons_wipe : ∀ {r : Env} {q : L2.St} {i : Nat} {o : Option V}, Cons r q → Cons (r.set i none) (q.set i o) ∧ slots (r.set i none) (q.set i o) = slots (r.set i none) q
  | [], [], _, _, _ => ⟨True.intro, rfl⟩
  | some m :: r, x :: q, 0, o, h => ⟨h.2, by cases o <;> cases x <;> rfl⟩
  | none :: r, x :: q, 0, o, h => ⟨h, by cases o <;> cases x <;> rfl⟩
  | some m :: r, x :: q, i + 1, o, h => by
    obtain ⟨⟨v, rfl⟩, h2⟩ := h
    obtain ⟨c, e⟩ := cons_wipe (i := i) (o := o) h2
    exact ⟨⟨⟨v, rfl⟩, c⟩, congrArg ((m, v) :: ·) e⟩
  | none :: r, x :: q, i + 1, o, h => by
    obtain ⟨c, e⟩ := cons_wipe (i := i) (o := o) (show Cons r q from h)
    exact ⟨c, by cases x <;> exact e⟩
  | some _ :: _, [], _, _, h => False.elim h
  | none :: _, [], _, _, h => False.elim h
  | [], _ :: _, _, _, h => False.elim h
/-- the classes of a clause -/
inductive CsL (X : Cx) (T : Tb) (G : Pg) : List Str → List Value → Prop
  | nil : CsL X T G [] []
  | cons {s : Str} {c : Nat} {d : CD} {C : Addr} {ss : List Str} {vs : List Value} : d.name = s → CF X.prog X.w X.K X.mg X.base T c d C → CsL X T G ss vs → CsL X T G (s :: ss) (.ref C :: vs)
theorem CsL.exm {ss : List Str} {vs : List Value} (hx : CsL X T G ss vs) {c : Nat} {d : CD} {C : Addr} (F : CF X.prog X.w X.K X.mg X.base T c d C) : PySem.W.exmAny X.K (.ref C) vs = some (ss.contains d.name) := by
  induction hx with
  | nil => rfl
  | @cons s c' d' C' ss vs hs F' _ ih =>
    unfold PySem.W.exmAny
    rw [F.exm_own F', ih, List.contains_cons, hs]
    simp only [Option.some.injEq]
    congr 1
theorem ss_try {u : Ss} {ty : Expr} {xn xm : Str} {cs : List Str} {cv : List Value} {i j : Nat} {body : List Stmt} {np mp sp pos' : Pos} (A : At X T G n Ex) (hs : X.stack = X.env :: X.outer) (hf : X.env.frame = some X.env.locals) (hex : X.ex = [])
    (hi : X.N[i]? = some xn) (hj : X.N[j]? = some xm) (hln : X.env.kindOf xn = some .local) (hlm : Loc X.env.scope xm) (hfm : X.fn xm = true ∨ X.env.scope.names.lookup xm = some .local)
    (hd : (xn == ("__debug__" : Str)) = false) (hcd : (xn == ("__classdict__" : Str)) = false) (hij : i ≠ j) (hsw : swapsWith (.Name xn np) (some (.Name xm mp)) sp.line X.env = pure false) (li : ¬ lk i) (lj : ¬ lk j)
    (hc : Clauses X ty cv) (hcs : CsL X T G cs cv)
    (hb : ∀ (W : WX) (pn : List (Addr × Obj)) (xe : Value → Shared → Prop), At (X.tr pn xe) T G n W → PSs (X.tr pn xe) body (tS T W lk (evSs (G.th n) u))) :
    PS X (.Try body [.ExceptHandler (some ty) (some xn) [.Assign [.Name xm mp] (.Name xn np) sp] pos'] [] [] pos) (tS T Ex lk (evS (G.th n) (.tryc u cs i j))) := by
  refine ps_imp (ps_try_caught hs hf hex A.nd hi hj hln hlm hfm hd hcd hij hsw hc A.tk fun W pn xe tk pa => hb W pn xe
    { hK := A.hK, nd := A.nd, rm := A.rm, tk := tk, calm := A.calm, fns := A.fns, bl := A.bl, gls := A.gls, pa := pa, cls := A.cls, cln := A.cln, fad := A.fad }) fun D q H ⟨r, ts, c, l, k⟩ => ?_
  refine ⟨r, ts, c, l, ?_⟩
  simp only [evS] at k
  cases e : evSs (G.th n) u r with
  | stuck => rw [e] at k; exact False.elim k
  | ok f r1 =>
    rw [e] at k
    cases f <;> exact k
  | exc w r1 =>
    rw [e] at k
    intro cls d q2 H2 c2 lk2 hx
    cases w with
    | exc cn ns ws =>
      simp only at k
      rw [th_ex] at k
      cases ed : lkC G.cl cn with
      | none => rw [ed] at k; exact False.elim k
      | some d0 =>
        rw [ed] at k
        simp only at k
        have hx0 := hx
        obtain ⟨C, e1, e2, _⟩ := hx
        have F := A.cfa ed e1
        subst e2
        refine ⟨_, hcs.exm F, fun hb a hn => ?_, fun hb => ?_⟩
        · rw [if_pos hb] at k
          have k2 : ∀ q3 H3, Cons ((r1.set i none).set j (some (.im (.exc cn ns ws)))) q3 → Lk lk q q3 → Live T H3 (slots ((r1.set i none).set j (some (.im (.exc cn ns ws)))) q3 ++ ts) → D.nx q3 H3 := k
          have l3 := Live.caught hx0 hn
          have eq : ((q2.set i (some (V.ref a))).set j (some (V.ref a))).set i none = ((q2.set i none).set j (some (V.ref a))) := by
            rw [List.set_comm _ _ (Ne.symm hij), List.set_set]
          rw [eq]
          obtain ⟨c3, es3⟩ := cons_wipe (i := i) (o := none) c2
          have l4 : Live T (upd H2 a (XO (.ref C) d a)) ((.im (.exc cn ns ws), .ref a) :: (slots (r1.set i none) (q2.set i none) ++ ts)) := by
            rw [es3]
            have l5 : Live T (upd H2 a (XO (.ref C) d a)) (slots r1 q2 ++ ((.im (.exc cn ns ws), .ref a) :: ts)) := l3.perm List.perm_middle.symm
            exact ((slot_drop (i := i) c2 l5).2).perm List.perm_middle
          obtain ⟨c5, l5⟩ := slot_fill (i := j) c3 l4
          exact k2 _ _ c5 ((lk2.trans (lk_set li)).trans (lk_set lj)) l5
        · rw [hb] at k
          simp only [Bool.false_eq_true, if_false] at k
          exact k _ _ q2 H2 c2 lk2 hx0
    | _ => exact False.elim hx
end
end Dn
-- Dn19
set_option maxRecDepth 100000
set_option maxHeartbeats 4000000
/-! The check: the evaluator's syntax is the text's. -/
namespace Dn
open PySem PySem.Spec PyProof.Rows L2

structure Ck where
  sc : Scope
  own : Scope
  N : List Str
  fd : Nat → Option FD
  gl : List (Str × W) := []
  cl : List (Nat × CD) := []
  top : Bool := false
  lk : Nat → Bool
def visB (sc : Scope) (x : Str) : Bool := match sc.names.lookup x with
  | some .local => true
  | some .cell => true
  | some .free => true
  | _ => false
def locB (sc : Scope) (x : Str) : Bool := match sc.names.lookup x with
  | some .local => true
  | some .cell => true
  | _ => false
def lclB (sc : Scope) (x : Str) : Bool := match sc.names.lookup x with
  | some .local => true
  | _ => false
def glB (sc : Scope) (x : Str) : Bool := match sc.names.lookup x with
  | some .globalImplicit => true
  | _ => false
def dbg (x : Str) : Bool := !(x == ("__debug__" : Str)) && !(x == ("__classdict__" : Str))
def varOk (C : Ck) (i : Nat) (x : Str) : Bool := decide (C.N[i]? = some x) && visB C.sc x && dbg x
def isSlice : Expr → Bool
  | .Slice .. => true
  | _ => false
def isSet : Expr → Bool
  | .Set .. => true
  | _ => false
/-- the truth of such a piece is asked of its value -/
def plainT : Expr → Bool
  | .UnaryOp .Not _ _ => false
  | .BoolOp .. => false
  | .IfExp .. => false
  | .Compare .. => false
  | _ => true
def biN : BI → Str
  | .len => "len" | .abs => "abs" | .max2 => "max" | .min2 => "min" | .maxl => "max" | .minl => "min" | .sum => "sum" | .all => "all" | .any => "any"
  | .tuple => "tuple" | .list => "list" | .int => "int" | _ => ""
def biOk : BI → Bool
  | .len => true | .abs => true | .max2 => true | .min2 => true | .maxl => true | .minl => true | .sum => true | .all => true | .any => true
  | .tuple => true | .list => true | .int => true | _ => false
def muN : MU → Str
  | .append => "append" | .extend => "extend" | .pop => "pop" | .reverse => "reverse" | _ => ""
def cstOk : W → Const → Bool
  | .int i, .int j => decide (i = j)
  | .str x, .str y => decide (x = y)
  | .bl x, .bool y => decide (x = y)
  | .non, .none => true
  | _, _ => false
def lentA (lock : List Nat) : Nat → As → Bool
  | _, .nil => true
  | j, .val _ as => lentA lock (j + 1) as
  | j, .bor _ as => decide (j ∈ lock) && lentA lock (j + 1) as
def lenA : As → Nat
  | .nil => 0
  | .val _ as => lenA as + 1
  | .bor _ as => lenA as + 1
def allV : As → Bool
  | .nil => true
  | .val _ as => allV as
  | .bor _ _ => false
def ownL (N : List Str) (own : List Nat) : List (Str × Nat) := own.filterMap fun i => N[i]?.map fun x => (x, i)
def kwN (kws : List Keyword) : List Str := kws.filterMap fun k => k.arg
def tyOk (C : Ck) (t : TY) : Expr → Bool
  | .Name x _ => match t with
    | .int => decide (x = ("int" : Str)) && glB C.sc x
    | .bool => decide (x = ("bool" : Str)) && glB C.sc x
    | .str => decide (x = ("str" : Str)) && glB C.sc x
    | .list => decide (x = ("list" : Str)) && glB C.sc x
    | .tuple => decide (x = ("tuple" : Str)) && glB C.sc x
    | _ => false
  | _ => false
def clN (C : Ck) (s : Str) : Bool := C.cl.any fun p => decide (p.2.name = s)
def xtOk (C : Ck) (t : XT) : Expr → Bool
  | .Name x _ => match t with
    | .own s => decide (x = s) && glB C.sc x && dbg x && clN C s
    | .blt s => decide (x = (s : Str)) && glB C.sc x && dbg x && excNames.contains s
  | _ => false
def xtsOk (C : Ck) : List XT → List Expr → Bool
  | [], [] => true
  | t :: ts, e :: es => xtOk C t e && xtsOk C ts es
  | _, _ => false
def tysOk (C : Ck) : List TY → List Expr → Bool
  | [], [] => true
  | t :: ts, e :: es => tyOk C t e && tysOk C ts es
  | _, _ => false
mutual
def chkTg (C : Ck) (ok : Nat → Bool) : Dn.T → Expr → Bool
  | .nm i, .Name x _ => decide (C.N[i]? = some x) && locB C.own x && ok i
  | .tp ts, .Tuple es _ _ => es.all noStar && decide (es.length = ts.length) && chkTgs C ok ts es
  | _, _ => false
def chkTgs (C : Ck) (ok : Nat → Bool) : List Dn.T → List Expr → Bool
  | [], [] => true
  | t :: ts, e :: es => chkTg C ok t e && chkTgs C ok ts es
  | _, _ => false
end
def opB : BO → Operator → Bool
  | o, p => decide (p = pyB o)
def opC : CO → CmpOp → Bool
  | o, p => decide (p = pyC o)
/-- the block's own place of check -/
def Ck.blk (C : Ck) (sc : Scope) : Ck :=
  { C with top := false, own := sc, sc := { sc with names := sc.names.map fun (n, k) => if (k == .free && C.sc.kind == .function && C.sc.names.lookup n == some .cell) then (n, .cell) else (n, k) } }
def both (b : Bool) : Bool × Bool := (b, b)
mutual
/-- (as a value, as a test) -/
def chk : E → Ck → Expr → Bool × Bool
  | .var i, C, x => match x with
    | .Name s _ => both (varOk C i s)
    | _ => (false, false)
  | .cst w, C, x => match x with
    | .Constant c _ _ => both (cstOk w c)
    | _ => (false, false)
  | .glob g w, C, x => match x with
    | .Name s _ => both (decide (g = s) && glB C.sc s && dbg s && memC s w C.gl)
    | _ => (false, false)
  | .frz e, C, x => ((chk e C x).1, false)
  | .bad, _, _ => (true, true)
  | .srs a, C, x => match x with
    | .Call (.Name f _) [.Call (.Name g _) [y] [] _] [] _ => both (decide (f = ("sorted" : Str)) && decide (g = ("set" : Str)) && glB C.sc f && glB C.sc g && noStar y && (chk a C y).1)
    | _ => (false, false)
  | .lns a, C, x => match x with
    | .Call (.Name f _) [.Call (.Name g _) [y] [] _] [] _ => both (decide (f = ("len" : Str)) && decide (g = ("set" : Str)) && glB C.sc f && glB C.sc g && noStar y && (chk a C y).1)
    | _ => (false, false)
  | .srt a, C, x => match x with
    | .Call (.Name f _) [y] [] _ => both (decide (f = ("sorted" : Str)) && glB C.sc f && noStar y && (chk a C y).1)
    | _ => (false, false)
  | .bin o a b, C, x => match x with
    | .BinOp l p r _ => both (opB o p && (chk a C l).1 && (chk b C r).1)
    | _ => (false, false)
  | .neg a, C, x => match x with
    | .UnaryOp .USub y _ => both (chk a C y).1
    | _ => (false, false)
  | .inv a, C, x => match x with
    | .UnaryOp .Not y _ => chk a C y
    | _ => (false, false)
  | .con a b, C, x => match x with
    | .BoolOp .And [y, z] pos => ((chk a C y).1 && (chk b C z).1, (chk a C y).2 && (chk b C z).2)
    | .BoolOp .And (y :: z :: u :: rest) pos => ((chk a C y).1 && (chk b C (.BoolOp .And (z :: u :: rest) pos)).1, (chk a C y).2 && (chk b C (.BoolOp .And (z :: u :: rest) pos)).2)
    | _ => (false, false)
  | .dis a b, C, x => match x with
    | .BoolOp .Or [y, z] pos => ((chk a C y).1 && (chk b C z).1, (chk a C y).2 && (chk b C z).2)
    | .BoolOp .Or (y :: z :: u :: rest) pos => ((chk a C y).1 && (chk b C (.BoolOp .Or (z :: u :: rest) pos)).1, (chk a C y).2 && (chk b C (.BoolOp .Or (z :: u :: rest) pos)).2)
    | _ => (false, false)
  | .cmp o a b, C, x => match x with
    | .Compare l [p] [r] _ => both (opC o p && !behindInMarks p r && (chk a C l).1 && (chk b C r).1)
    | _ => (false, false)
  | .chn o o2 a b c, C, x => match x with
    | .Compare l [p, p2] [r, r2] _ => both (opC o p && opC o2 p2 && !lastMarks [p, p2] [r, r2] && (chk a C l).1 && (chk b C r).1 && (chk c C r2).1)
    | _ => (false, false)
  | .ife c a b, C, x => match x with
    | .IfExp t y z _ => ((chk c C t).2 && (chk a C y).1 && (chk b C z).1, false)
    | _ => (false, false)
  | .tup es, C, x => match x with
    | .Tuple xs _ _ => both (chkEs es C xs)
    | _ => (false, false)
  | .lst es, C, x => match x with
    | .List xs _ => both (chkEs es C xs)
    | _ => (false, false)
  | .idx a i, C, x => match x with
    | .Subscript l r _ => both (!isSlice r && (chk a C l).1 && (chk i C r).1)
    | _ => (false, false)
  | .slc a lo hi, C, x => match x with
    | .Subscript l (.Slice y z none _) _ => both ((chk a C l).1 && chkO lo C y && chkO hi C z)
    | _ => (false, false)
  | .pidx i fs e, C, x => match x with
    | .Subscript (.Name s _) r _ => both (fs.isEmpty && varOk C i s && !isSlice r && (chk e C r).1)
    | _ => (false, false)
  | .pslc i fs lo hi, C, x => match x with
    | .Subscript (.Name s _) (.Slice y z none _) _ => both (fs.isEmpty && varOk C i s && chkO lo C y && chkO hi C z)
    | _ => (false, false)
  | .plen i fs, C, x => match x with
    | .Call (.Name f _) [.Name s _] [] _ => both (fs.isEmpty && decide (f = ("len" : Str)) && glB C.sc f && varOk C i s)
    | _ => (false, false)
  | .bi b es, C, x => match x with
    | .Call (.Name f _) (y :: ys) [] _ => both (biOk b && decide (f = biN b) && glB C.sc f && chkEs es C (y :: ys))
    | _ => (false, false)
  | .mut m i fs es, C, x => match x with
    | .Call (.Attribute (.Name s _) nm apos) ys [] cpos => both (fs.isEmpty && decide (nm = muN m) && varOk C i s && (apos.endLine == cpos.line) && decide (ys.length < 30) && chkEs es C ys &&
        (match m, ys with
          | .append, _ :: _ => true
          | .extend, _ :: _ => true
          | .pop, [] => true
          | .reverse, [] => true
          | _, _ => false))
    | _ => (false, false)
  | .mth m o es, C, x => match x with
    | .Call (.Attribute y nm apos) (z :: zs) [] cpos => both ((match m with | .index => decide (nm = ("index" : Str)) | .count => decide (nm = ("count" : Str)) | _ => false) && (match y with | .Name .. => true | .Subscript .. => true | _ => false) && (apos.endLine == cpos.line) && decide (zs.length + 1 < 30) && (chk o C y).1 && chkEs es C (z :: zs))
    | _ => (false, false)
  | .call f as, C, x => match x with
    | .Call (.Name s _) ys [] _ => both (match C.fd f with
      | some d => decide (s = d.name) && glB C.sc s && dbg s && lentA d.lock 0 as && chkA as C ys
      | none => false)
    | _ => (false, false)
  | .callk f as ks pm, C, x => match x with
    | .Call (.Name s _) ys kws _ => both (match C.fd f with
      | some d => decide (s = d.name) && glB C.sc s && dbg s && decide ((ys.length, kwN kws, pm) ∈ d.kw) && kws.all (fun k => k.arg.isSome) && decide (lenA as = ys.length) && decide (lenA ks = kws.length) && chkA as C ys && chkA ks C (kws.map fun k => k.value) && allV ks
      | none => false)
    | _ => (false, false)
  | .comp own t it oc e, C, x => match x with
    | .ListComp elt [⟨tg, iter, ifs, is⟩] scope _ => both (decide (is = 0) && decide ((ownL C.N own).map (·.2) = own) && blkC C.N C.sc scope (ownL C.N own) && !isSet iter && chkI it C tg iter && chkTg (C.blk scope) (fun i => decide (i ∈ own)) t tg && chkC oc (C.blk scope) ifs && (chk e (C.blk scope) elt).1)
    | _ => (false, false)
  | .isx a ts, C, x => match x with
    | .Call (.Name f _) [y, z] [] _ => both (decide (f = ("isinstance" : Str)) && glB C.sc f && noStar y && (chk a C y).1 &&
        (match z with
          | .Tuple zs _ _ => decide (ts.length ≤ LIM) && xtsOk C ts zs
          | z => match ts with
            | [t] => xtOk C t z
            | _ => false))
    | _ => (false, false)
  | .fld a f, C, x => match x with
    | .Attribute y g _ => both (decide (g = f) && (match y with | .Name .. => true | _ => false) && (chk a C y).1)
    | _ => (false, false)
  | .rvs a, C, x => match x with
    | .Subscript y (.Slice none none (some (.UnaryOp .USub (.Constant (.int 1) _ _) _)) _) _ => both (chk a C y).1
    | _ => (false, false)
  | .fnr f, C, x => match x with
    | .Name s _ => both (match C.fd f with
      | some d => decide (s = d.name) && glB C.sc s && dbg s
      | none => false)
    | _ => (false, false)
  | .cld e as, C, x => match x with
    | .Call (.Subscript y z p) (w :: ws) [] _ => both ((chk e C (.Subscript y z p)).1 && chkA as C (w :: ws))
    | _ => (false, false)
  | .isi a ts, C, x => match x with
    | .Call (.Name f _) [y, z] [] _ => both (decide (f = ("isinstance" : Str)) && glB C.sc f && noStar y && (chk a C y).1 &&
        (match z with
          | .Tuple zs _ _ => decide (ts ≠ []) && decide (ts.length ≤ LIM) && tysOk C ts zs
          | z => match ts with
            | [t] => tyOk C t z
            | _ => false))
    | _ => (false, false)
  | .pur e, C, x => chk e C x
  | .rg1 t b, C, x => match x with
    | .Call (.Name f _) [.Call (.Name g _) [y] [] _] [] _ => both (decide (f = (if t then ("tuple" : Str) else ("list" : Str))) && decide (g = ("range" : Str)) && glB C.sc f && glB C.sc g && noStar y && (chk b C y).1)
    | _ => (false, false)
  | .rg2 t a b, C, x => match x with
    | .Call (.Name f _) [.Call (.Name g _) [y, z] [] _] [] _ => both (decide (f = (if t then ("tuple" : Str) else ("list" : Str))) && decide (g = ("range" : Str)) && glB C.sc f && glB C.sc g && noStar y && noStar z && (chk a C y).1 && (chk b C z).1)
    | _ => (false, false)
  | _, _, _ => (false, false)
def chkEs : Es → Ck → List Expr → Bool
  | .nil, _, [] => true
  | .cons e es, C, x :: xs => noStar x && (chk e C x).1 && chkEs es C xs
  | _, _, _ => false
def chkO : OE → Ck → Option Expr → Bool
  | .none, _, none => true
  | .some e, C, some x => (chk e C x).1
  | _, _, _ => false
def chkC : OE → Ck → List Expr → Bool
  | .none, _, [] => true
  | .some e, C, [x] => (chk e C x).2
  | _, _, _ => false
def chkA : As → Ck → List Expr → Bool
  | .nil, _, [] => true
  | .val e as, C, x :: xs => noStar x && (chk e C x).1 && chkA as C xs
  | .bor i as, C, x :: xs => (match x with
    | .Name s _ => varOk C i s
    | _ => false) && chkA as C xs
  | _, _, _ => false
def chkI : It → Ck → Expr → Expr → Bool
  | .rng1 a, C, tg, x => match x with
    | .Call (.Name f _) [y] [] _ => decide (f = ("range" : Str)) && glB C.sc f && noStar y && (chk a C y).1
    | _ => false
  | .rng2 a b, C, tg, x => match x with
    | .Call (.Name f _) [y, z] [] _ => decide (f = ("range" : Str)) && glB C.sc f && noStar y && noStar z && (chk a C y).1 && (chk b C z).1
    | _ => false
  | .rng3 a b c, C, tg, x => match x with
    | .Call (.Name f _) [y, z, u] [] _ => decide (f = ("range" : Str)) && glB C.sc f && noStar y && noStar z && noStar u && (chk a C y).1 && (chk b C z).1 && (chk c C u).1
    | _ => false
  | .enum a, C, tg, x => match x with
    | .Call (.Name f _) [y] [] _ => decide (f = ("enumerate" : Str)) && glB C.sc f && noStar y && (chk a C y).1 && (match tg with | .Tuple .. => true | _ => false)
    | _ => false
  | .zip2 a b, C, tg, x => match x with
    | .Call (.Name f _) [y, z] [] _ => decide (f = ("zip" : Str)) && glB C.sc f && noStar y && noStar z && (chk a C y).1 && (chk b C z).1 && (match tg with | .Tuple .. => true | _ => false)
    | _ => false
  | .rev a, C, tg, x => match x with
    | .Call (.Name f _) [y] [] _ => decide (f = ("reversed" : Str)) && glB C.sc f && noStar y && (chk a C y).1
    | _ => false
  | .seq e, C, _, x => (chk e C x).1
  | _, _, _, _ => false
end

/-- the context fits the place of check -/
structure Fit (C : Ck) (G : Pg) (X : Cx) : Prop where
  sc : X.env.scope = C.sc
  N : X.N = C.N
  fd : C.fd = G.fd
  gl : C.gl = G.gl
  cl : C.cl = G.cl
  frm : C.top = true → X.stack = X.env :: X.outer ∧ X.env.frame = some X.env.locals ∧ X.ex = []
  sto : ∀ x, locB C.own x = true → Loc X.env.scope x ∧ (X.fn x = true ∨ X.env.scope.names.lookup x = some .local)
section
variable {T : Tb} {Ex Ex' : WX} {G : Pg} {n : Nat} {X : Cx} {C : Ck} {x s : Str} {i : Nat} {p pos : Pos}
theorem vis_of (h : visB C.sc x = true) : Vis C.sc x := by
  unfold visB at h
  split at h <;> first | (rename_i e; first | exact .inl e | exact .inr (.inl e) | exact .inr (.inr e)) | cases h
theorem loc_of (h : locB C.sc x = true) : Loc C.sc x := by
  unfold locB at h
  split at h <;> first | (rename_i e; first | exact .inl e | exact .inr e) | cases h
theorem gl_of (hF : Fit C G X) (h : glB C.sc x = true) : Gl X x := by
  unfold glB at h
  split at h
  · rename_i e
    show X.env.scope.names.lookup x = _
    rw [hF.sc]; exact e
  · cases h
theorem sto_of (hF : Fit C G X) (h : locB C.own x = true) : Loc X.env.scope x ∧ (X.fn x = true ∨ X.env.scope.names.lookup x = some .local) := hF.sto x h
theorem look_map {f : Str → NameKind → Bool} {k : NameKind} (hk : k ≠ .free) (hf : ∀ n k, f n k = true → k = .free) : ∀ {names : List (Str × NameKind)} {x : Str}, names.lookup x = some k →
    (names.map fun (z : Str × NameKind) => if f z.1 z.2 = true then (z.1, NameKind.cell) else (z.1, z.2)).lookup x = some k
  | [], x, h => by simp at h
  | (m, j) :: r, x, h => by
    have ih := look_map (names := r) (x := x) hk hf
    rw [List.lookup_cons] at h
    rw [List.map_cons]
    by_cases hx : (x == m) = true
    · rw [hx] at h
      have hj : j = k := by simpa using h
      subst hj
      have hnf : f m j = false := by
        cases e : f m j with
        | false => rfl
        | true => exact absurd (hf m j e) hk
      simp only [hnf, Bool.false_eq_true, if_false]
      rw [List.lookup_cons, hx]
    · have hx' : (x == m) = false := by simpa using hx
      rw [hx'] at h
      split
      · rw [List.lookup_cons, hx']; exact ih h
      · rw [List.lookup_cons, hx']; exact ih h
theorem dbg_of (h : dbg x = true) : (x == ("__debug__" : Str)) = false ∧ (x == ("__classdict__" : Str)) = false := by
  unfold dbg at h
  simpa using h
theorem var_of (hF : Fit C G X) (h : varOk C i x = true) : X.N[i]? = some x ∧ Vis X.env.scope x ∧ (x == ("__debug__" : Str)) = false ∧ (x == ("__classdict__" : Str)) = false := by
  unfold varOk at h
  simp only [Bool.and_eq_true, decide_eq_true_eq] at h
  rw [hF.N, hF.sc]
  exact ⟨h.1.1, vis_of h.1.2, dbg_of h.2⟩
theorem plainIx_of {b : Expr} (h : isSlice b = false) : PlainIx b := by
  intro o i
  cases b <;> first | rfl | cases h
theorem plainT_of {e : Expr} (h : plainT e = true) : ∀ whole env, isTrue e env whole = (do let v ← whole; standAt e.pos; holding [v] (truthy v)) := by
  intro whole env
  cases e with
  | UnaryOp op y p => cases op <;> first | rfl | cases h
  | _ => first | rfl | cases h
theorem notSet {e : Expr} (h : isSet e = false) : ∀ env x, foldedSetIterable e env x = pure x := by
  intro env x
  cases e <;> first | rfl | cases h
end
end Dn
-- Dn20
set_option maxRecDepth 100000
set_option maxHeartbeats 4000000
/-! The check is sound: expressions. -/
namespace Dn
open PySem PySem.Spec PyProof.Rows L2
def isBo : Expr → Bool
  | .BoolOp .. => true
  | _ => false
structure OkX (T : Tb) (Ex : WX) (G : Pg) (n : Nat) (X : Cx) (e : E) (x : Expr) (b : Bool × Bool) : Prop where
  v : b.1 = true → PE X x (tE T Ex (evE (G.th n) e))
  t : b.2 = true → PT X x (tTst T Ex (G.th n) e)
  w : b.2 = true → isBo x = true → PW X x (tTst T Ex (G.th n) e)
def OkE (T : Tb) (G : Pg) (n : Nat) (e : E) : Prop := ∀ {X : Cx} {C : Ck} {x : Expr} {Ex : WX}, At X T G n Ex → Fit C G X → OkX T Ex G n X e x (chk e C x)
def OkEs (T : Tb) (G : Pg) (n : Nat) (e : Es) : Prop := ∀ {X : Cx} {C : Ck} {x : List Expr} {Ex : WX}, At X T G n Ex → Fit C G X → chkEs e C x = true → PA X x (tL T Ex (evEs (G.th n) e)) ∧ x.all noStar = true
def OkO (T : Tb) (G : Pg) (n : Nat) (e : OE) : Prop := ∀ {X : Cx} {C : Ck} {x : Option Expr} {Ex : WX}, At X T G n Ex → Fit C G X → chkO e C x = true → PO X x (tO T Ex (evO (G.th n) e))
def OkC (T : Tb) (G : Pg) (n : Nat) (e : OE) : Prop := ∀ {X : Cx} {C : Ck} {x : List Expr} {Ex : WX}, At X T G n Ex → Fit C G X → chkC e C x = true → PTs X x (tT T Ex (evC (G.th n) e))
def OkA (T : Tb) (G : Pg) (n : Nat) (e : As) : Prop := ∀ {X : Cx} {C : Ck} {x : List Expr} {Ex : WX}, At X T G n Ex → Fit C G X → chkA e C x = true → PA X x (tA T Ex (evA (G.th n) e)) ∧ x.all noStar = true
/-- .. as values of names -/
def OkK (T : Tb) (G : Pg) (n : Nat) (e : As) : Prop := ∀ {X : Cx} {C : Ck} {kws : List Keyword} {Ex : WX}, At X T G n Ex → Fit C G X → chkA e C (kws.map fun k => k.value) = true → allV e = true → PK X kws (tA T Ex (evA (G.th n) e))
def OkI (T : Tb) (G : Pg) (n : Nat) (e : It) : Prop := ∀ {X : Cx} {C : Ck} {tg x : Expr} {Ex : WX}, At X T G n Ex → Fit C G X → chkI e C tg x = true → PI X tg x (tI T Ex (evI (G.th n) e))
section
variable {T : Tb} {Ex Ex' : WX} {G : Pg} {n : Nat} {X : Cx} {C : Ck} {x y : Expr} {s : Str} {i : Nat} {p pos : Pos} {e a b c : E} {es : Es}
theorem ok_no : OkX T Ex G n X e x (false, false) := ⟨fun h => (by cases h), fun h => (by cases h), fun h => (by cases h)⟩
theorem ok_both {z : Bool} (A : At X T G n Ex) (hp : plainT x = true) (h : z = true → PE X x (tE T Ex (evE (G.th n) e))) : OkX T Ex G n X e x (both z) :=
  ⟨h, fun hz => st_of A.hK (h hz) fun w => plainT_of hp w _, fun _ hb => by cases x <;> first | (cases hp; done) | (cases hb; done)⟩
theorem ok_two {z : Bool} (hp : isBo x = false) (h : z = true → PE X x (tE T Ex (evE (G.th n) e))) (h2 : z = true → PT X x (tTst T Ex (G.th n) e)) : OkX T Ex G n X e x (both z) :=
  ⟨h, h2, fun _ hb => by rw [hp] at hb; cases hb⟩
theorem OkE.v (h : OkE T G n e) (A : At X T G n Ex) (hF : Fit C G X) (hz : (chk e C x).1 = true) : PE X x (tE T Ex (evE (G.th n) e)) := (h A hF).v hz
theorem OkE.t (h : OkE T G n e) (A : At X T G n Ex) (hF : Fit C G X) (hz : (chk e C x).2 = true) : PT X x (tTst T Ex (G.th n) e) := (h A hF).t hz

theorem ok_var : OkE T G n (.var i) := fun {X C x Ex} A hF => by
  unfold chk
  split
  · refine ok_both A rfl fun hz => ?_
    obtain ⟨h1, h2, h3, h4⟩ := var_of hF hz
    exact se_var h1 h2 h3 h4
  · exact ok_no
theorem ok_cst {w : W} : OkE T G n (.cst w) := fun {X C x Ex} A hF => by
  unfold chk
  split
  · rename_i c k p
    refine ok_both A rfl fun hz => ?_
    unfold cstOk at hz
    split at hz
    · have e := of_decide_eq_true hz; subst e
      exact pe_imp se_int fun q H Q h => h
    · have e := of_decide_eq_true hz; subst e
      exact pe_imp se_str fun q H Q h => h
    · have e := of_decide_eq_true hz; subst e
      exact pe_imp se_bl fun q H Q h => h
    · exact pe_imp se_non fun q H Q h => h
    · cases hz
  · exact ok_no
theorem ok_bin {o : BO} (ha : OkE T G n a) (hb : OkE T G n b) : OkE T G n (.bin o a b) := fun {X C x Ex} A hF => by
  unfold chk
  split
  · refine ok_both A rfl fun hz => ?_
    simp only [Bool.and_eq_true] at hz
    have e := of_decide_eq_true hz.1.1
    subst e
    exact se_bin A.hK (ha.v A hF hz.1.2) (hb.v A hF hz.2)
  · exact ok_no
theorem ok_neg (ha : OkE T G n a) : OkE T G n (.neg a) := fun {X C x Ex} A hF => by
  unfold chk
  split
  · exact ok_both A rfl fun hz => se_neg (ha.v A hF hz)
  · exact ok_no
theorem ok_inv (ha : OkE T G n a) : OkE T G n (.inv a) := fun {X C x Ex} A hF => by
  unfold chk
  split
  · exact ⟨fun hz => se_inv A.hK (ha.v A hF hz), fun hz => st_inv (ha.t A hF hz), fun _ hb => by cases hb⟩
  · exact ok_no
theorem ok_con (ha : OkE T G n a) (hb : OkE T G n b) : OkE T G n (.con a b) := fun {X C x Ex} A hF => by
  unfold chk
  split
  · rename_i y z pos
    have hw : ((chk a C y).2 && (chk b C z).2) = true → PW X (.BoolOp .And [y, z] pos) (tTst T Ex (G.th n) (.con a b)) := fun hz => by
      simp only [Bool.and_eq_true] at hz
      exact sw_con (ha.t A hF hz.1) (sw_con1 (hb.t A hF hz.2))
    refine ⟨fun hz => ?_, fun hz => (hw hz).pt, fun hz _ => hw hz⟩
    simp only [Bool.and_eq_true] at hz
    exact se_con A.hK (ha.v A hF hz.1) (se_con1 (hb.v A hF hz.2))
  · rename_i y z u rest pos
    have hw : ((chk a C y).2 && (chk b C (.BoolOp .And (z :: u :: rest) pos)).2) = true → PW X (.BoolOp .And (y :: z :: u :: rest) pos) (tTst T Ex (G.th n) (.con a b)) := fun hz => by
      simp only [Bool.and_eq_true] at hz
      exact sw_con (ha.t A hF hz.1) ((hb A hF).w hz.2 rfl)
    refine ⟨fun hz => ?_, fun hz => (hw hz).pt, fun hz _ => hw hz⟩
    simp only [Bool.and_eq_true] at hz
    exact se_con A.hK (ha.v A hF hz.1) (hb.v A hF hz.2)
  · exact ok_no
theorem ok_dis (ha : OkE T G n a) (hb : OkE T G n b) : OkE T G n (.dis a b) := fun {X C x Ex} A hF => by
  unfold chk
  split
  · rename_i y z pos
    have hw : ((chk a C y).2 && (chk b C z).2) = true → PW X (.BoolOp .Or [y, z] pos) (tTst T Ex (G.th n) (.dis a b)) := fun hz => by
      simp only [Bool.and_eq_true] at hz
      exact sw_dis (ha.t A hF hz.1) (sw_dis1 (hb.t A hF hz.2))
    refine ⟨fun hz => ?_, fun hz => (hw hz).pt, fun hz _ => hw hz⟩
    simp only [Bool.and_eq_true] at hz
    exact se_dis A.hK (ha.v A hF hz.1) (pe_one (hb.v A hF hz.2))
  · rename_i y z u rest pos
    have hw : ((chk a C y).2 && (chk b C (.BoolOp .Or (z :: u :: rest) pos)).2) = true → PW X (.BoolOp .Or (y :: z :: u :: rest) pos) (tTst T Ex (G.th n) (.dis a b)) := fun hz => by
      simp only [Bool.and_eq_true] at hz
      exact sw_dis (ha.t A hF hz.1) ((hb A hF).w hz.2 rfl)
    refine ⟨fun hz => ?_, fun hz => (hw hz).pt, fun hz _ => hw hz⟩
    simp only [Bool.and_eq_true] at hz
    exact se_dis A.hK (ha.v A hF hz.1) (hb.v A hF hz.2)
  · exact ok_no
theorem ok_cmp {o : CO} (ha : OkE T G n a) (hb : OkE T G n b) : OkE T G n (.cmp o a b) := fun {X C x Ex} A hF => by
  unfold chk
  split
  · refine ok_two rfl (fun hz => ?_) fun hz => ?_
    all_goals
      simp only [Bool.and_eq_true, Bool.not_eq_true'] at hz
      have e := of_decide_eq_true hz.1.1.1
      subst e
    · exact se_cmp A.hK A.hu (ha.v A hF hz.1.2) (hb.v A hF hz.2) hz.1.1.2
    · exact st_cmp A.hK A.hu (ha.v A hF hz.1.2) (hb.v A hF hz.2) hz.1.1.2
  · exact ok_no
theorem ok_chn {o o2 : CO} (ha : OkE T G n a) (hb : OkE T G n b) (hc : OkE T G n c) : OkE T G n (.chn o o2 a b c) := fun {X C x Ex} A hF => by
  unfold chk
  split
  · refine ok_two rfl (fun hz => ?_) fun hz => ?_
    all_goals
      simp only [Bool.and_eq_true, Bool.not_eq_true'] at hz
      have e := of_decide_eq_true hz.1.1.1.1.1
      have e2 := of_decide_eq_true hz.1.1.1.1.2
      subst e e2
    · exact se_chn A.hK A.hu (ha.v A hF hz.1.1.2) (hb.v A hF hz.1.2) (hc.v A hF hz.2) hz.1.1.1.2
    · exact st_chn A.hK A.hu (ha.v A hF hz.1.1.2) (hb.v A hF hz.1.2) (hc.v A hF hz.2) hz.1.1.1.2
  · exact ok_no
theorem ok_ife (hc : OkE T G n c) (ha : OkE T G n a) (hb : OkE T G n b) : OkE T G n (.ife c a b) := fun {X C x Ex} A hF => by
  unfold chk
  split
  · refine ⟨fun hz => ?_, fun hz => (by cases hz), fun hz => (by cases hz)⟩
    simp only [Bool.and_eq_true] at hz
    exact se_ife (hc.t A hF hz.1.1) (ha.v A hF hz.1.2) (hb.v A hF hz.2)
  · exact ok_no
theorem ok_tup (h : OkEs T G n es) : OkE T G n (.tup es) := fun {X C x Ex} A hF => by
  unfold chk
  split
  · exact ok_both A rfl fun hz => se_tup (h A hF hz).1
  · exact ok_no
theorem ok_lst (h : OkEs T G n es) : OkE T G n (.lst es) := fun {X C x Ex} A hF => by
  unfold chk
  split
  · exact ok_both A rfl fun hz => se_lst (h A hF hz).1
  · exact ok_no
theorem ok_idx (ha : OkE T G n a) (hb : OkE T G n b) : OkE T G n (.idx a b) := fun {X C x Ex} A hF => by
  unfold chk
  split
  · refine ok_both A rfl fun hz => ?_
    simp only [Bool.and_eq_true, Bool.not_eq_true'] at hz
    exact se_idx A.hK (ha.v A hF hz.1.2) (hb.v A hF hz.2) (plainIx_of hz.1.1)
  · exact ok_no
theorem ok_slc {lo hi : OE} (ha : OkE T G n a) (hl : OkO T G n lo) (hh : OkO T G n hi) : OkE T G n (.slc a lo hi) := fun {X C x Ex} A hF => by
  unfold chk
  split
  · refine ok_both A rfl fun hz => ?_
    simp only [Bool.and_eq_true] at hz
    exact se_slc A.hK (ha.v A hF hz.1.1) (hl A hF hz.1.2) (hh A hF hz.2)
  · exact ok_no
theorem ok_pidx {fs : List Str} (hb : OkE T G n b) : OkE T G n (.pidx i fs b) := fun {X C x Ex} A hF => by
  unfold chk
  split
  · refine ok_both A rfl fun hz => ?_
    simp only [Bool.and_eq_true, Bool.not_eq_true', List.isEmpty_iff] at hz
    obtain ⟨h1, h2, h3, h4⟩ := var_of hF hz.1.1.2
    have e := hz.1.1.1
    subst e
    exact se_pidx A.hK h1 h2 h3 h4 (hb.v A hF hz.2) (plainIx_of hz.1.2)
  · exact ok_no
theorem ok_pslc {fs : List Str} {lo hi : OE} (hl : OkO T G n lo) (hh : OkO T G n hi) : OkE T G n (.pslc i fs lo hi) := fun {X C x Ex} A hF => by
  unfold chk
  split
  · refine ok_both A rfl fun hz => ?_
    simp only [Bool.and_eq_true, List.isEmpty_iff] at hz
    obtain ⟨h1, h2, h3, h4⟩ := var_of hF hz.1.1.2
    have e := hz.1.1.1
    subst e
    exact se_pslc A.hK h1 h2 h3 h4 (hl A hF hz.1.2) (hh A hF hz.2)
  · exact ok_no
theorem At.no (A : At X T G n Ex) {x : Str} (h : x ∈ bltNames) : X.mg x = none := A.bl x h
theorem ok_plen {fs : List Str} : OkE T G n (.plen i fs) := fun {X C x Ex} A hF => by
  unfold chk
  split
  · refine ok_both A rfl fun hz => ?_
    simp only [Bool.and_eq_true, List.isEmpty_iff, decide_eq_true_eq] at hz
    obtain ⟨h1, h2, h3, h4⟩ := var_of hF hz.2
    have e := hz.1.1.1
    subst e
    have e2 := hz.1.1.2
    subst e2
    exact se_plen A.hK h1 h2 h3 h4 (gl_of hF hz.1.2) (A.no (by decide))
  · exact ok_no
theorem ok_bi {o : BI} (h : OkEs T G n es) : OkE T G n (.bi o es) := fun {X C x Ex} A hF => by
  unfold chk
  split
  · refine ok_both A rfl fun hz => ?_
    simp only [Bool.and_eq_true, decide_eq_true_eq] at hz
    obtain ⟨⟨⟨h1, h2⟩, h3⟩, h4⟩ := hz
    obtain ⟨ha, hs⟩ := h A hF h4
    have hg := gl_of hF h3
    subst h2
    cases o with
    | len => exact se_biB (cb_len A.hK) hg (A.no (by decide)) rfl (by decide) (by decide) hs ha
    | abs => exact se_biB cb_abs hg (A.no (by decide)) rfl (by decide) (by decide) hs ha
    | max2 => exact se_biB (cb_max2 A.calm) hg (A.no (by decide)) rfl (by decide) (by decide) hs ha
    | min2 => exact se_biB (cb_min2 A.calm) hg (A.no (by decide)) rfl (by decide) (by decide) hs ha
    | maxl => exact se_biB (cb_maxl A.calm) hg (A.no (by decide)) rfl (by decide) (by decide) hs ha
    | minl => exact se_biB (cb_minl A.calm) hg (A.no (by decide)) rfl (by decide) (by decide) hs ha
    | sum => exact se_biB (cb_sum A.calm) hg (A.no (by decide)) rfl (by decide) (by decide) hs ha
    | all => exact se_biB (cb_all A.calm) hg (A.no (by decide)) rfl (by decide) (by decide) hs ha
    | any => exact se_biB (cb_any A.calm) hg (A.no (by decide)) rfl (by decide) (by decide) hs ha
    | tuple => exact se_biT (cb_tuple A.hK) hg (A.no (by decide)) rfl (by decide) (by decide) hs ha
    | list => exact se_biT (cb_list A.hK) hg (A.no (by decide)) rfl (by decide) (by decide) hs ha
    | int => exact se_biT cb_int hg (A.no (by decide)) rfl (by decide) (by decide) hs ha
    | _ => cases h1
  · exact ok_no
theorem ok_mut {m : MU} {fs : List Str} (h : OkEs T G n es) : OkE T G n (.mut m i fs es) := fun {X C x Ex} A hF => by
  unfold chk
  split
  · rename_i s p nm apos ys cpos
    refine ok_both A rfl fun hz => ?_
    simp only [Bool.and_eq_true, List.isEmpty_iff, decide_eq_true_eq] at hz
    obtain ⟨⟨⟨⟨⟨⟨e1, e2⟩, e3⟩, e4⟩, e5⟩, e6⟩, e7⟩ := hz
    obtain ⟨h1, h2, h3, h4⟩ := var_of hF e3
    obtain ⟨ha, hs⟩ := h A hF e6
    subst e1 e2
    split at e7
    · exact se_mut F.slot_list_append F.type_list_append mu_append h1 h2 h3 h4 hs (by simpa using e5) e4 ha
    · exact se_mut F.slot_list_extend F.type_list_extend mu_extend h1 h2 h3 h4 hs (by simpa using e5) e4 ha
    · cases es with
      | nil => exact se_mut0 F.slot_list_pop F.type_list_pop mu_pop h1 h2 h3 h4 e4
      | cons _ _ => cases e6
    · cases es with
      | nil => exact se_mut0 F.slot_list_reverse F.type_list_reverse mu_reverse h1 h2 h3 h4 e4
      | cons _ _ => cases e6
    · cases e7
  · exact ok_no
theorem ok_mth {m : MT} (ha : OkE T G n a) (h : OkEs T G n es) : OkE T G n (.mth m a es) := fun {X C x Ex} A hF => by
  unfold chk
  split
  · rename_i y nm apos z zs cpos
    refine ok_both A rfl fun hz => ?_
    simp only [Bool.and_eq_true, decide_eq_true_eq] at hz
    obtain ⟨⟨⟨⟨⟨e1, e3⟩, e4⟩, e5⟩, e6⟩, e7⟩ := hz
    obtain ⟨hb, hs⟩ := h A hF e7
    cases m with
    | index =>
      have e2 : nm = ("index" : Str) := of_decide_eq_true e1
      subst e2
      refine se_index A.hK A.hu ?_ hs e5 e4 (ha.v A hF e6) hb
      split at e3 <;> first | rfl | cases e3
    | count =>
      have e2 : nm = ("count" : Str) := of_decide_eq_true e1
      subst e2
      refine se_count A.hK A.hu ?_ hs e5 e4 (ha.v A hF e6) hb
      split at e3 <;> first | rfl | cases e3
    | _ => cases e1
  · exact ok_no
theorem lent_ok {lock : List Nat} {h : Th} : ∀ {as : As} {j : Nat} {r r' : Env} {l : List (Nat ⊕ M)}, lentA lock j as = true → evA h as r = .ok l r' → lentOk lock j l
  | .nil, j, r, r', l, _, e => by
    simp only [evA] at e
    cases e
    exact True.intro
  | .val x as, j, r, r', l, hl, e => by
    simp only [evA] at e
    obtain ⟨m, r1, e1, e2⟩ := bind_ok e
    obtain ⟨l2, r2, e3, e4⟩ := bind_ok e2
    cases e4
    exact lent_ok (as := as) (j := j + 1) hl e3
  | .bor i as, j, r, r', l, hl, e => by
    simp only [evA] at e
    unfold lentA at hl
    simp only [Bool.and_eq_true, decide_eq_true_eq] at hl
    split at e
    · obtain ⟨l2, r2, e3, e4⟩ := bind_ok e
      cases e4
      exact ⟨hl.1, lent_ok (as := as) (j := j + 1) hl.2 e3⟩
    · cases e
theorem len_ok {h : Th} : ∀ {as : As} {r r' : Env} {l : List (Nat ⊕ M)}, evA h as r = .ok l r' → l.length = lenA as
  | .nil, r, r', l, e => by
    simp only [evA] at e
    cases e
    rfl
  | .val x as, r, r', l, e => by
    simp only [evA] at e
    obtain ⟨m, r1, e1, e2⟩ := bind_ok e
    obtain ⟨l2, r2, e3, e4⟩ := bind_ok e2
    cases e4
    simp [lenA, len_ok (as := as) e3]
  | .bor i as, r, r', l, e => by
    simp only [evA] at e
    split at e
    · obtain ⟨l2, r2, e3, e4⟩ := bind_ok e
      cases e4
      simp [lenA, len_ok (as := as) e3]
    · cases e
end
end Dn
-- Dn21
set_option maxRecDepth 100000
set_option maxHeartbeats 4000000
/-! The check is sound: calls, comprehensions, and all together. -/
namespace Dn
open PySem PySem.Spec PyProof.Rows L2
section
variable {T : Tb} {Ex Ex' : WX} {G : Pg} {n : Nat} {X : Cx} {C : Ck} {x y : Expr} {s : Str} {i : Nat} {p pos : Pos} {e a b c : E} {es : Es}
theorem ok_call {f : Nat} {as : As} (h : OkA T G n as) : OkE T G n (.call f as) := fun {X C x Ex} A hF => by
  unfold chk
  split
  · rename_i s p ys pos
    refine ok_both A rfl fun hz => ?_
    split at hz
    · rename_i d hd
      rw [hF.fd] at hd
      simp only [Bool.and_eq_true, decide_eq_true_eq] at hz
      obtain ⟨⟨⟨⟨e1, e2⟩, e3⟩, e4⟩, e5⟩ := hz
      obtain ⟨ha, hs⟩ := h A hF e5
      have hg := gl_of hF e2
      subst e1
      cases ys with
      | nil =>
        cases as with
        | nil => exact se_call0 A hd hg (dbg_of e3).1
        | val _ _ => cases e5
        | bor _ _ => cases e5
      | cons y ys => exact se_call A hd hg (dbg_of e3).1 hs (fun r l r' e => lent_ok e4 e) ha
    · cases hz
  · exact ok_no
theorem kw_all {kws : List Keyword} (h : kws.all (fun k => k.arg.isSome) = true) (pos : Pos) (env : PySem.Env) :
    (backToKw pos (keywordEach kws env)).all (·.1.isSome) = true ∧ (backToKw pos (keywordEach kws env)).filterMap (·.1) = kwN kws ∧ (backToKw pos (keywordEach kws env)).any (·.1.isNone) = false := by
  induction kws with
  | nil => exact ⟨rfl, rfl, rfl⟩
  | cons k kws ih =>
    obtain ⟨nm, v, kp⟩ := k
    simp only [List.all_cons, Bool.and_eq_true] at h
    obtain ⟨i1, i2, i3⟩ := ih h.2
    cases nm with
    | none => cases h.1
    | some nm =>
      unfold backToKw at i1 i2 i3 ⊢
      simp only [keywordEach, List.map_cons, List.all_cons, List.filterMap_cons, List.any_cons, kwN]
      refine ⟨by simpa using i1, ?_, by simpa using i3⟩
      rw [i2]; rfl
theorem ok_callk {f : Nat} {as ks : As} {pm : List Nat} (h : OkA T G n as) (hk : OkK T G n ks) : OkE T G n (.callk f as ks pm) := fun {X C x Ex} A hF => by
  unfold chk
  split
  · rename_i s p ys kws pos
    refine ok_both A rfl fun hz => ?_
    split at hz
    · rename_i d hd
      rw [hF.fd] at hd
      simp only [Bool.and_eq_true, decide_eq_true_eq] at hz
      obtain ⟨⟨⟨⟨⟨⟨⟨⟨⟨e1, e2⟩, e3⟩, e4⟩, e5⟩, e6⟩, e7⟩, e8⟩, e9⟩, e10⟩ := hz
      obtain ⟨ha, hs⟩ := h A hF e8
      have hkk := hk A hF e9 e10
      have hg := gl_of hF e2
      have hl : (kwN kws).length = kws.length := by
        have h1 := (kw_all e5 pos X.env).2.1
        clear hkk e9 e4 e7
        induction kws with
        | nil => rfl
        | cons k kws ih =>
          simp only [List.all_cons, Bool.and_eq_true] at e5
          obtain ⟨z, hz⟩ := Option.isSome_iff_exists.mp e5.1
          simp only [kwN, List.filterMap_cons, hz, List.length_cons]
          have := ih e5.2 (kw_all e5.2 pos X.env).2.1
          simp only [kwN] at this
          omega
      subst e1
      have k2 : ∀ l r l', evA (G.th n) ks r = .ok l l' → l.length = (kwN kws).length := fun l r l' e => by rw [len_ok e, hl]; exact e7
      cases ys with
      | nil =>
        cases as with
        | nil => exact se_callk0 A hd e4 hg (dbg_of e3).1 k2 (fun env => (kw_all e5 pos env).1) (fun env => (kw_all e5 pos env).2.1) (fun env => (kw_all e5 pos env).2.2) hkk
        | val _ _ => cases e6
        | bor _ _ => cases e6
      | cons y ys =>
        exact se_callk A hd e4 hg (dbg_of e3).1 hs (fun l r l' e => by rw [len_ok e]; exact e6) k2 (fun env => (kw_all e5 pos env).1) (fun env => (kw_all e5 pos env).2.1) (fun env => (kw_all e5 pos env).2.2) ha hkk
    · cases hz
  · exact ok_no
theorem ok_pur (ha : OkE T G n a) : OkE T G n (.pur a) := fun {X C x Ex} A hF => by
  unfold chk
  exact ⟨fun hz => se_pur (ha.v A hF hz), fun hz => st_pur (ha.t A hF hz), fun hz hb => by
    have h1 := (ha A hF).w hz hb
    refine pw_imp h1 fun q H Q ⟨r, ts, c, l, k⟩ => ?_
    refine ⟨frzE r, [(.pin H, .non)], frz_cons c, live_frz l, ?_⟩
    exact pur_tst c l k⟩
theorem ty_of {t : TY} {z : Expr} (A : At X T G n Ex) (hF : Fit C G X) (h : tyOk C t z = true) : PE X z (tC (.ty (tyN t))) ∧ noStar z = true := by
  unfold tyOk at h
  split at h
  · refine ⟨?_, rfl⟩
    split at h
    all_goals first
      | (simp only [Bool.and_eq_true, decide_eq_true_eq] at h
         obtain ⟨e1, e2⟩ := h
         have hg := gl_of hF e2
         subst e1
         exact ty_name hg (A.no (by decide)) rfl (by decide) (by decide))
      | cases h
  · cases h
theorem tys_of : ∀ {us : List TY} {zs : List Expr}, At X T G n Ex → Fit C G X → tysOk C us zs = true → PA X zs (tyA us)
  | [], [], _, _, _ => ty_nil
  | [], _ :: _, _, _, h => by cases h
  | _ :: _, [], _, _, h => by cases h
  | t :: us, z :: zs, A, hF, h => by
    unfold tysOk at h
    simp only [Bool.and_eq_true] at h
    obtain ⟨h1, h2⟩ := ty_of A hF h.1
    exact ty_cons h1 h2 (tys_of A hF h.2)
theorem ok_isi {us : List TY} (ha : OkE T G n a) : OkE T G n (.isi a us) := fun {X C x Ex} A hF => by
  unfold chk
  split
  · rename_i f p y z pos
    refine ok_both A rfl fun hz => ?_
    simp only [Bool.and_eq_true, decide_eq_true_eq] at hz
    obtain ⟨⟨⟨⟨e1, e2⟩, e3⟩, e4⟩, e5⟩ := hz
    have hg := gl_of hF e2
    subst e1
    split at e5
    · simp only [Bool.and_eq_true, decide_eq_true_eq] at e5
      exact se_isiT A.hK hg (A.no (by decide)) e3 e5.1.1 e5.1.2 (ha.v A hF e4) (tys_of A hF e5.2)
    · split at e5
      · obtain ⟨h1, h2⟩ := ty_of A hF e5
        exact se_isi1 A.hK hg (A.no (by decide)) e3 h2 (ha.v A hF e4) h1
      · cases e5
  · exact ok_no
theorem xt_of {t : XT} {z : Expr} (A : At X T G n Ex) (hF : Fit C G X) (h : xtOk C t z = true) : ∃ v u, PE X z (tC v) ∧ noStar z = true ∧ XtOk X T G t v u := by
  unfold xtOk at h
  split at h
  · split at h
    · simp only [Bool.and_eq_true, decide_eq_true_eq] at h
      obtain ⟨⟨⟨e1, e2⟩, e3⟩, e4⟩ := h
      subst e1
      unfold clN at e4
      rw [hF.cl] at e4
      obtain ⟨D, h1, h2⟩ := xt_own A e4
      exact ⟨_, _, pe_glob (v := .ref D) (gl_of hF e2) h1 rfl (dbg_of e3).1, rfl, h2⟩
    · rename_i s
      simp only [Bool.and_eq_true, decide_eq_true_eq] at h
      obtain ⟨⟨⟨e1, e2⟩, e3⟩, e4⟩ := h
      have hs : s ∈ excNames := by simpa using e4
      have hb : bootBuiltins (s : Str) = some (.type s) ∧ (s : Str) ≠ "__name__" ∧ (s : Str) ∈ bltNames := by
        simp only [excNames, List.mem_cons, List.not_mem_nil, or_false] at hs
        rcases hs with rfl | rfl | rfl | rfl | rfl | rfl <;> exact ⟨by kernel_rfl, by decide, by decide⟩
      subst e1
      exact ⟨_, _, pe_bltn (v := .ty s) (gl_of hF e2) (A.no hb.2.2) hb.1 rfl hb.2.1 (dbg_of e3).1, rfl, xt_blt A e4⟩
  · cases h
theorem xts_of : ∀ {us : List XT} {zs : List Expr}, At X T G n Ex → Fit C G X → xtsOk C us zs = true → ∃ vs ws, PA X zs (tyV vs) ∧ XtL X T G us vs ws
  | [], [], _, _, _ => ⟨_, _, tv_nil, .nil⟩
  | [], _ :: _, _, _, h => by cases h
  | _ :: _, [], _, _, h => by cases h
  | t :: us, z :: zs, A, hF, h => by
    unfold xtsOk at h
    simp only [Bool.and_eq_true] at h
    obtain ⟨v, u, h1, h2, h3⟩ := xt_of A hF h.1
    obtain ⟨vs, ws, h4, h5⟩ := xts_of A hF h.2
    exact ⟨_, _, tv_cons h2 h1 h4, .cons h3 h5⟩
theorem ok_isx {us : List XT} (ha : OkE T G n a) : OkE T G n (.isx a us) := fun {X C x Ex} A hF => by
  unfold chk
  split
  · rename_i f p y z pos
    refine ok_both A rfl fun hz => ?_
    simp only [Bool.and_eq_true, decide_eq_true_eq] at hz
    obtain ⟨⟨⟨⟨e1, e2⟩, e3⟩, e4⟩, e5⟩ := hz
    have hg := gl_of hF e2
    subst e1
    split at e5
    · simp only [Bool.and_eq_true, decide_eq_true_eq] at e5
      obtain ⟨vs, ws, h1, h2⟩ := xts_of A hF e5.2
      exact se_isxT A hg (A.no (by decide)) e3 e5.1 h2 (ha.v A hF e4) h1
    · split at e5
      · obtain ⟨v, u, h1, h2, h3⟩ := xt_of A hF e5
        exact se_isx1 A hg (A.no (by decide)) e3 h2 h3 (ha.v A hF e4) h1
      · cases e5
  · exact ok_no
theorem ok_fld {f : Str} (ha : OkE T G n a) : OkE T G n (.fld a f) := fun {X C x Ex} A hF => by
  unfold chk
  split
  · rename_i y g pos
    refine ok_both A rfl fun hz => ?_
    simp only [Bool.and_eq_true, decide_eq_true_eq] at hz
    obtain ⟨⟨e1, e2⟩, e3⟩ := hz
    subst e1
    refine se_fld A ?_ (ha.v A hF e3)
    split at e2 <;> first | rfl | cases e2
  · exact ok_no
theorem ok_rvs (ha : OkE T G n a) : OkE T G n (.rvs a) := fun {X C x Ex} A hF => by
  unfold chk
  split
  · refine ok_both A rfl fun hz => ?_
    exact se_rvs (ha.v A hF hz)
  · exact ok_no
theorem ok_fnr {f : Nat} : OkE T G n (.fnr f) := fun {X C x Ex} A hF => by
  unfold chk
  split
  · refine ok_both A rfl fun hz => ?_
    split at hz
    · rename_i d hd
      rw [hF.fd] at hd
      simp only [Bool.and_eq_true, decide_eq_true_eq] at hz
      obtain ⟨⟨e1, e2⟩, e3⟩ := hz
      have hg := gl_of hF e2
      subst e1
      exact se_fnr A hd hg (dbg_of e3).1
    · cases hz
  · exact ok_no
theorem ok_cld {as : As} (ha : OkE T G n a) (h : OkA T G n as) : OkE T G n (.cld a as) := fun {X C x Ex} A hF => by
  unfold chk
  split
  · refine ok_both A rfl fun hz => ?_
    simp only [Bool.and_eq_true] at hz
    obtain ⟨h1, h2⟩ := h A hF hz.2
    exact se_cld A h2 (ha.v A hF hz.1) h1
  · exact ok_no
theorem ok_rg1 {t : Bool} (hb : OkE T G n b) : OkE T G n (.rg1 t b) := fun {X C x Ex} A hF => by
  unfold chk
  split
  · refine ok_both A rfl fun hz => ?_
    simp only [Bool.and_eq_true, decide_eq_true_eq] at hz
    obtain ⟨⟨⟨⟨⟨e1, e2⟩, e3⟩, e4⟩, e5⟩, e6⟩ := hz
    have hg := gl_of hF e3
    have hg2 := gl_of hF e4
    subst e2
    cases t with
    | true => 
      simp only [if_true] at e1
      subst e1
      exact se_trg1 A.calm hg (A.no (by decide)) hg2 (A.no (by decide)) e5 (hb.v A hF e6)
    | false =>
      simp only [Bool.false_eq_true, if_false] at e1
      subst e1
      exact se_lrg1 A.calm hg (A.no (by decide)) hg2 (A.no (by decide)) e5 (hb.v A hF e6)
  · exact ok_no
theorem ok_rg2 {t : Bool} (ha : OkE T G n a) (hb : OkE T G n b) : OkE T G n (.rg2 t a b) := fun {X C x Ex} A hF => by
  unfold chk
  split
  · refine ok_both A rfl fun hz => ?_
    simp only [Bool.and_eq_true, decide_eq_true_eq] at hz
    obtain ⟨⟨⟨⟨⟨⟨⟨e1, e2⟩, e3⟩, e4⟩, e5⟩, e6⟩, e7⟩, e8⟩ := hz
    have hg := gl_of hF e3
    have hg2 := gl_of hF e4
    subst e2
    cases t with
    | true =>
      simp only [if_true] at e1
      subst e1
      exact se_trg2 A.calm hg (A.no (by decide)) hg2 (A.no (by decide)) e5 e6 (ha.v A hF e7) (hb.v A hF e8)
    | false =>
      simp only [Bool.false_eq_true, if_false] at e1
      subst e1
      exact se_lrg2 A.calm hg (A.no (by decide)) hg2 (A.no (by decide)) e5 e6 (ha.v A hF e7) (hb.v A hF e8)
  · exact ok_no
theorem ok_glob {g : Str} {w : W} : OkE T G n (.glob g w) := fun {X C x Ex} A hF => by
  unfold chk
  split
  · refine ok_both A rfl fun hz => ?_
    simp only [Bool.and_eq_true, decide_eq_true_eq] at hz
    obtain ⟨⟨⟨e1, e2⟩, e3⟩, e4⟩ := hz
    have hg := gl_of hF e2
    rw [hF.gl] at e4
    obtain ⟨v, u, h1, h2, h3⟩ := A.gls _ _ e4
    refine pe_imp (pe_glob hg h1 h2 (dbg_of e3).1) fun q H Q ⟨r, ts, c, l, k⟩ => ?_
    simp only [evE] at k
    exact k _ _ c (l.plain h3)
  · exact ok_no
theorem ok_frz (ha : OkE T G n a) : OkE T G n (.frz a) := fun {X C x Ex} A hF => by
  unfold chk
  refine ⟨fun hz => ?_, fun hz => (by cases hz), fun hz => (by cases hz)⟩
  refine pe_imp (ha.v A hF hz) fun q H Q ⟨r, ts, c, l, k⟩ => ⟨r, ts, c, l, ?_⟩
  unfold okE at k ⊢
  simp only [evE] at k
  exact (okR.bind k).imp fun m r1 h1 v H1 c1 l1 => h1 v H1 c1 l1.freeze
theorem ok_bad : OkE T G n .bad := fun {X C x Ex} A hF => by
  refine ⟨fun _ => ⟨fun pins s q H Q I w => ?_⟩, fun _ => ⟨fun pins s q H Q I w => ?_⟩, fun _ _ => ⟨fun wh pins s q H Q I w => ?_⟩⟩
  · obtain ⟨r, ts, c, l, k⟩ := w
    unfold okE at k
    simp only [evE] at k
    exact False.elim k
  · obtain ⟨r, ts, c, l, k⟩ := w
    simp only [evE] at k
    exact False.elim k
  · obtain ⟨r, ts, c, l, k⟩ := w
    simp only [evE] at k
    exact False.elim k
theorem ok_srs (ha : OkE T G n a) : OkE T G n (.srs a) := fun {X C x Ex} A hF => by
  unfold chk
  split
  · refine ok_both A rfl fun hz => ?_
    simp only [Bool.and_eq_true, decide_eq_true_eq] at hz
    obtain ⟨⟨⟨⟨⟨e1, e2⟩, e3⟩, e4⟩, e5⟩, e6⟩ := hz
    have hg := gl_of hF e3
    have hg2 := gl_of hF e4
    subst e1 e2
    exact se_srs A.hK A.calm hg (A.no (by decide)) hg2 (A.no (by decide)) e5 (ha.v A hF e6)
  · exact ok_no
theorem ok_lns (ha : OkE T G n a) : OkE T G n (.lns a) := fun {X C x Ex} A hF => by
  unfold chk
  split
  · refine ok_both A rfl fun hz => ?_
    simp only [Bool.and_eq_true, decide_eq_true_eq] at hz
    obtain ⟨⟨⟨⟨⟨e1, e2⟩, e3⟩, e4⟩, e5⟩, e6⟩ := hz
    have hg := gl_of hF e3
    have hg2 := gl_of hF e4
    subst e1 e2
    exact se_lns A.hK A.calm hg (A.no (by decide)) hg2 (A.no (by decide)) e5 (ha.v A hF e6)
  · exact ok_no
theorem ok_srt (ha : OkE T G n a) : OkE T G n (.srt a) := fun {X C x Ex} A hF => by
  unfold chk
  split
  · refine ok_both A rfl fun hz => ?_
    simp only [Bool.and_eq_true, decide_eq_true_eq] at hz
    obtain ⟨⟨⟨e1, e2⟩, e3⟩, e4⟩ := hz
    have hg := gl_of hF e2
    subst e1
    exact se_srt A.hK hg (A.no (by decide)) e3 (ha.v A hF e4)
  · exact ok_no
/-! ### targets -/
mutual
theorem tg_of {ok : Nat → Bool} {lk : Nat → Prop} (A : At X T G n Ex) (hF : Fit C G X) (hk : ∀ i, ok i = true → ¬ lk i) : ∀ {t : Dn.T} {x : Expr}, chkTg C ok t x = true → PG X x (tTg T lk t)
  | .nm i, x, h => by
    cases x with
    | Name s p =>
      simp only [chkTg, Bool.and_eq_true, decide_eq_true_eq] at h
      obtain ⟨h1, h2⟩ := sto_of hF h.1.2
      exact sg_nm A.nd (by rw [hF.N]; exact h.1.1) h1 h2 (hk _ h.2)
    | _ => simp [chkTg] at h
  | .tp us, x, h => by
    cases x with
    | Tuple es k p =>
      simp only [chkTg, Bool.and_eq_true, decide_eq_true_eq] at h
      exact sg_tp A.hK A.calm (tgs_of A hF hk h.2) h.1.1 h.1.2
    | _ => simp [chkTg] at h
theorem tgs_of {ok : Nat → Bool} {lk : Nat → Prop} (A : At X T G n Ex) (hF : Fit C G X) (hk : ∀ i, ok i = true → ¬ lk i) : ∀ {t : List Dn.T} {x : List Expr}, chkTgs C ok t x = true → PGs X x (tTgs T lk t)
  | [], [], _ => sgs_nil
  | [], _ :: _, h => by simp [chkTgs] at h
  | _ :: _, [], h => by simp [chkTgs] at h
  | t :: us, x :: xs, h => by
    simp only [chkTgs, Bool.and_eq_true] at h
    have ns : noStar x = true := by
      cases x with
      | Starred e p => cases t <;> simp [chkTg] at h
      | _ => rfl
    exact sgs_cons (tg_of A hF hk h.1) (tgs_of A hF hk h.2) ns
end
/-- the block's own context -/
theorem At.blk (A : At X T G n Ex) (s : Shared) (H : Hp) (scope : Scope) (env : PySem.Env) (fp : List Addr) : At (X.blk s H scope env fp) T G n (fun _ _ _ _ => False) where
  hK := A.hK
  nd := A.nd
  rm := A.rm
  tk := fun u s' ⟨a, B, sI, pins, q, H, cls, d, e, I, nb, up, sky, na, os, ag, w⟩ => w.elim
  calm := A.calm
  fns := A.fns
  bl := A.bl
  gls := A.gls
  pa := PassesOwn.never
  cls := A.cls
  cln := A.cln
  fad := A.fad
theorem Fit.blk (hF : Fit C G X) (s : Shared) (H : Hp) (scope : Scope) (cl : List (Str × Addr)) (L : Addr) (fp : List Addr) : Fit (C.blk scope) G (X.blk s H scope (compEnvC scope cl L X.env) fp) where
  sc := by
    show relabel scope X.env = _
    unfold relabel Ck.blk Env.kindOf
    rw [hF.sc]
  N := hF.N
  fd := hF.fd
  gl := hF.gl
  cl := hF.cl
  frm := fun h => nomatch h
  sto := fun x h => by
    have key : ∀ k, k ≠ NameKind.free → scope.names.lookup x = some k → (relabel scope X.env).names.lookup x = some k := fun k hk e => by
      have := look_map (f := fun n k => k == .free && X.env.scope.kind == .function && X.env.kindOf n == some .cell) hk (fun n k hf => by
        simp only [Bool.and_eq_true, beq_iff_eq] at hf
        exact hf.1.1) e
      exact this
    have h' : locB scope x = true := h
    rcases loc_of (C := { C with sc := scope }) h' with e | e
    · exact ⟨.inl (key _ (by decide) e), .inr (key _ (by decide) e)⟩
    · refine ⟨.inr (key _ (by decide) e), .inl ?_⟩
      show (scope.names.lookup x == some .cell) = true
      have e' : scope.names.lookup x = some .cell := e
      rw [e']; rfl
theorem ok_comp {own : List Nat} {t : Dn.T} {it : It} {oc : OE} (hi : OkI T G n it) (hc : OkC T G n oc) (he : OkE T G n e) : OkE T G n (.comp own t it oc e) := fun {X C x Ex} A hF => by
  unfold chk
  split
  · rename_i elt tg iter ifs is scope pos
    refine ok_both A rfl fun hz => ?_
    simp only [Bool.and_eq_true, decide_eq_true_eq, Bool.not_eq_true'] at hz
    obtain ⟨⟨⟨⟨⟨⟨⟨e1, e2⟩, e3⟩, e4⟩, e5⟩, e6⟩, e7⟩, e8⟩ := hz
    subst e1
    have hb : BlkOk X.N X.env.scope scope (ownL C.N own) := by rw [hF.N, hF.sc]; exact blkOk_by e3
    have h := se_lc (Ex := Ex) (Ex' := fun _ _ _ _ => False) (pos := pos) (T := T) (h := G.th n) (t := t) (oc := oc) (y := e) A.calm A.nd hb (hi A hF e5)
      (fun s H L cl fp => by rw [e2]; exact tg_of (A.blk s H scope _ fp) (hF.blk s H scope cl L fp) (fun i hi z => z (of_decide_eq_true hi)) e6)
      (fun s H L cl fp => hc (A.blk s H scope _ fp) (hF.blk s H scope cl L fp) e7) (fun s H L cl fp => he.v (A.blk s H scope _ fp) (hF.blk s H scope cl L fp) e8) (notSet e4 _)
    rw [e2] at h
    exact h
  · exact ok_no
/-! ### lists of pieces -/
theorem oks_nil : OkEs T G n .nil := fun {X C x Ex} A hF h => by
  cases x with
  | nil => exact ⟨sa_nil, rfl⟩
  | cons _ _ => cases h
theorem oks_cons (he : OkE T G n e) (hs : OkEs T G n es) : OkEs T G n (.cons e es) := fun {X C x Ex} A hF h => by
  cases x with
  | nil => cases h
  | cons x xs =>
    unfold chkEs at h
    simp only [Bool.and_eq_true] at h
    obtain ⟨h1, h2⟩ := hs A hF h.2
    exact ⟨sa_cons h.1.1 (he.v A hF h.1.2) h1, by simp only [List.all_cons, h.1.1, h2]; rfl⟩
theorem oko_none : OkO T G n .none := fun {X C x Ex} A hF h => by
  cases x with
  | none => exact so_none
  | some _ => cases h
theorem oko_some (he : OkE T G n e) : OkO T G n (.some e) := fun {X C x Ex} A hF h => by
  cases x with
  | none => cases h
  | some x => exact so_some (he.v A hF h)
theorem okc_none : OkC T G n .none := fun {X C x Ex} A hF h => by
  cases x with
  | nil => exact sc_none
  | cons _ _ => cases h
theorem okc_some (he : OkE T G n e) : OkC T G n (.some e) := fun {X C x Ex} A hF h => by
  cases x with
  | nil => cases h
  | cons x xs =>
    cases xs with
    | nil => exact sc_some (he.t A hF h)
    | cons _ _ => cases h
theorem oka_nil : OkA T G n .nil := fun {X C x Ex} A hF h => by
  cases x with
  | nil => exact ⟨aa_nil, rfl⟩
  | cons _ _ => cases h
theorem oka_val {as : As} (he : OkE T G n e) (hs : OkA T G n as) : OkA T G n (.val e as) := fun {X C x Ex} A hF h => by
  cases x with
  | nil => cases h
  | cons x xs =>
    unfold chkA at h
    simp only [Bool.and_eq_true] at h
    obtain ⟨h1, h2⟩ := hs A hF h.2
    exact ⟨aa_val h.1.1 (he.v A hF h.1.2) h1, by simp only [List.all_cons, h.1.1, h2]; rfl⟩
theorem oka_bor {as : As} (hs : OkA T G n as) : OkA T G n (.bor i as) := fun {X C x Ex} A hF h => by
  cases x with
  | nil => cases h
  | cons x xs =>
    unfold chkA at h
    simp only [Bool.and_eq_true] at h
    obtain ⟨h1, h2⟩ := hs A hF h.2
    have hx := h.1
    split at hx
    · obtain ⟨g1, g2, g3, g4⟩ := var_of hF hx
      exact ⟨aa_bor g1 g2 g3 g4 h1, by simp only [List.all_cons, h2]; rfl⟩
    · cases hx
theorem okk_nil : OkK T G n .nil := fun {X C kws Ex} A hF h _ => by
  cases kws with
  | nil => exact kk_nil
  | cons _ _ => cases h
theorem okk_val {as : As} (he : OkE T G n e) (hs : OkK T G n as) : OkK T G n (.val e as) := fun {X C kws Ex} A hF h hv => by
  cases kws with
  | nil => cases h
  | cons k kws =>
    obtain ⟨nm, v, kp⟩ := k
    simp only [List.map_cons] at h
    unfold chkA at h
    simp only [Bool.and_eq_true] at h
    exact kk_val (he.v A hF h.1.2) (hs A hF h.2 hv)
theorem okk_bor {as : As} : OkK T G n (.bor i as) := fun {X C kws Ex} A hF h hv => by cases hv
/-! ### what is walked -/
theorem oki_seq (he : OkE T G n e) : OkI T G n (.seq e) := fun {X C tg x Ex} A hF h => by
  unfold chkI at h
  exact si_seq A.hK (he.v A hF h)
theorem oki_rng1 (he : OkE T G n a) : OkI T G n (.rng1 a) := fun {X C tg x Ex} A hF h => by
  unfold chkI at h
  split at h
  · simp only [Bool.and_eq_true, decide_eq_true_eq] at h
    obtain ⟨⟨⟨e1, e2⟩, e3⟩, e4⟩ := h
    have hg := gl_of hF e2
    subst e1
    exact si_rng1 hg (A.no (by decide)) e3 (he.v A hF e4)
  · cases h
theorem oki_rng2 (he : OkE T G n a) (hb : OkE T G n b) : OkI T G n (.rng2 a b) := fun {X C tg x Ex} A hF h => by
  unfold chkI at h
  split at h
  · simp only [Bool.and_eq_true, decide_eq_true_eq] at h
    obtain ⟨⟨⟨⟨⟨e1, e2⟩, e3⟩, e4⟩, e5⟩, e6⟩ := h
    have hg := gl_of hF e2
    subst e1
    exact si_rng2 hg (A.no (by decide)) e3 e4 (he.v A hF e5) (hb.v A hF e6)
  · cases h
theorem oki_rng3 (he : OkE T G n a) (hb : OkE T G n b) (hc : OkE T G n c) : OkI T G n (.rng3 a b c) := fun {X C tg x Ex} A hF h => by
  unfold chkI at h
  split at h
  · simp only [Bool.and_eq_true, decide_eq_true_eq] at h
    obtain ⟨⟨⟨⟨⟨⟨⟨e1, e2⟩, e3⟩, e4⟩, e5⟩, e6⟩, e7⟩, e8⟩ := h
    have hg := gl_of hF e2
    subst e1
    exact si_rng3 hg (A.no (by decide)) e3 e4 e5 (he.v A hF e6) (hb.v A hF e7) (hc.v A hF e8)
  · cases h
theorem oki_enum (he : OkE T G n a) : OkI T G n (.enum a) := fun {X C tg x Ex} A hF h => by
  unfold chkI at h
  split at h
  · simp only [Bool.and_eq_true, decide_eq_true_eq] at h
    obtain ⟨⟨⟨⟨e1, e2⟩, e3⟩, e4⟩, e5⟩ := h
    have hg := gl_of hF e2
    subst e1
    split at e5
    · exact si_enum A.hK hg (A.no (by decide)) e3 (he.v A hF e4)
    · cases e5
  · cases h
theorem oki_zip2 (he : OkE T G n a) (hb : OkE T G n b) : OkI T G n (.zip2 a b) := fun {X C tg x Ex} A hF h => by
  unfold chkI at h
  split at h
  · simp only [Bool.and_eq_true, decide_eq_true_eq] at h
    obtain ⟨⟨⟨⟨⟨⟨e1, e2⟩, e3⟩, e4⟩, e5⟩, e6⟩, e7⟩ := h
    have hg := gl_of hF e2
    subst e1
    split at e7
    · exact si_zip2 A.hK hg (A.no (by decide)) e3 e4 (he.v A hF e5) (hb.v A hF e6)
    · cases e7
  · cases h
theorem oki_rev (he : OkE T G n a) : OkI T G n (.rev a) := fun {X C tg x Ex} A hF h => by
  unfold chkI at h
  split at h
  · simp only [Bool.and_eq_true, decide_eq_true_eq] at h
    obtain ⟨⟨⟨e1, e2⟩, e3⟩, e4⟩ := h
    have hg := gl_of hF e2
    subst e1
    exact si_rev A.hK hg (A.no (by decide)) e3 (he.v A hF e4)
  · cases h
theorem oke_none (h : ∀ C x, chk e C x = (false, false)) : OkE T G n e := fun {X C x Ex} A hF => by rw [h]; exact ok_no
theorem oki_none {it : It} (h : ∀ C tg x, chkI it C tg x = false) : OkI T G n it := fun {X C tg x Ex} A hF hz => by rw [h] at hz; cases hz
mutual
theorem chk_ok : ∀ e : E, OkE T G n e
  | .var i => ok_var
  | .cst w => ok_cst
  | .glob g w => ok_glob
  | .frz e => ok_frz (chk_ok e)
  | .bad => ok_bad
  | .srs e => ok_srs (chk_ok e)
  | .lns e => ok_lns (chk_ok e)
  | .srt e => ok_srt (chk_ok e)
  | .bin o a b => ok_bin (chk_ok a) (chk_ok b)
  | .neg a => ok_neg (chk_ok a)
  | .inv a => ok_inv (chk_ok a)
  | .con a b => ok_con (chk_ok a) (chk_ok b)
  | .dis a b => ok_dis (chk_ok a) (chk_ok b)
  | .cmp o a b => ok_cmp (chk_ok a) (chk_ok b)
  | .chn o p a b c => ok_chn (chk_ok a) (chk_ok b) (chk_ok c)
  | .ife c a b => ok_ife (chk_ok c) (chk_ok a) (chk_ok b)
  | .tup es => ok_tup (chks_ok es)
  | .lst es => ok_lst (chks_ok es)
  | .dct ks vs => oke_none fun C x => by unfold chk; rfl
  | .idx a i => ok_idx (chk_ok a) (chk_ok i)
  | .slc a lo hi => ok_slc (chk_ok a) (chko_ok lo) (chko_ok hi)
  | .pidx i fs e => ok_pidx (chk_ok e)
  | .pslc i fs lo hi => ok_pslc (chko_ok lo) (chko_ok hi)
  | .plen i fs => ok_plen
  | .pin ng e i fs => oke_none fun C x => by unfold chk; rfl
  | .pth i fs => oke_none fun C x => by unfold chk; rfl
  | .bi b es => ok_bi (chks_ok es)
  | .mth m o es => ok_mth (chk_ok o) (chks_ok es)
  | .mut m i fs es => ok_mut (chks_ok es)
  | .call f as => ok_call (chka_ok as)
  | .callk f as ks pm => ok_callk (chka_ok as) (chkk_ok ks)
  | .fnr f => ok_fnr
  | .cld e as => ok_cld (chk_ok e) (chka_ok as)
  | .comp own t it c e => ok_comp (chki_ok it) (chkc_ok c) (chk_ok e)
  | .dcomp own t it k v => oke_none fun C x => by unfold chk; rfl
  | .fld a f => ok_fld (chk_ok a)
  | .isx a ts => ok_isx (chk_ok a)
  | .rvs a => ok_rvs (chk_ok a)
  | .isi a ts => ok_isi (chk_ok a)
  | .pur e => ok_pur (chk_ok e)
  | .rg1 t b => ok_rg1 (chk_ok b)
  | .rg2 t a b => ok_rg2 (chk_ok a) (chk_ok b)
theorem chks_ok : ∀ es : Es, OkEs T G n es
  | .nil => oks_nil
  | .cons e es => oks_cons (chk_ok e) (chks_ok es)
theorem chko_ok : ∀ o : OE, OkO T G n o
  | .none => oko_none
  | .some e => oko_some (chk_ok e)
theorem chkc_ok : ∀ o : OE, OkC T G n o
  | .none => okc_none
  | .some e => okc_some (chk_ok e)
theorem chka_ok : ∀ as : As, OkA T G n as
  | .nil => oka_nil
  | .val e as => oka_val (chk_ok e) (chka_ok as)
  | .bor i as => oka_bor (chka_ok as)
theorem chkk_ok : ∀ as : As, OkK T G n as
  | .nil => okk_nil
  | .val e as => okk_val (chk_ok e) (chkk_ok as)
  | .bor i as => okk_bor
theorem chki_ok : ∀ it : It, OkI T G n it
  | .seq e => oki_seq (chk_ok e)
  | .rng1 a => oki_rng1 (chk_ok a)
  | .rng2 a b => oki_rng2 (chk_ok a) (chk_ok b)
  | .rng3 a b c => oki_rng3 (chk_ok a) (chk_ok b) (chk_ok c)
  | .enum e => oki_enum (chk_ok e)
  | .zip2 a b => oki_zip2 (chk_ok a) (chk_ok b)
  | .zip2s a b => oki_none fun C tg x => by unfold chkI; rfl
  | .rev e => oki_rev (chk_ok e)
  | .items e => oki_none fun C tg x => by unfold chkI; rfl
end
end
end Dn
-- DnPar
set_option maxRecDepth 100000
set_option maxHeartbeats 4000000
/-! a, b, .. = .., .. by the tuple: no stores from the right. -/
namespace Dn
open PySem PySem.Spec PyProof.Rows L2
section
variable {T : Tb} {Ex Ex' : WX} {G : Pg} {n : Nat} {X : Cx} {C : Ck} {x y z : Str} {i j k : Nat} {p pos pt : Pos} {e : E} {a b c : Expr} {es vs : List Expr} {lk : Nat → Prop} {h : Th} {q : L2.St} {H : Hp} {ts : List (M × V)}
def parM : List Nat → List M → Env → Option Env
  | [], [], r => some r
  | i :: is, m :: ms, r => parM is ms (r.set i (some m))
  | _, _, _ => none
/-- the names, filled from the left, what's owned stays so -/
def tNm (T : Tb) (lk : Nat → Prop) (is : List Nat) : TGs := fun vs q H Q => ∃ ms r ts r', Cons r q ∧ vs.length = ms.length ∧ Live T H (ms.zip vs ++ (slots r q ++ ts)) ∧ parM is ms r = some r' ∧
  ∀ q', Cons r' q' → Lk lk q q' → Live T H (slots r' q' ++ ts) → Q q' H
theorem nm_nil : PGs X [] (tNm T lk []) := pgs_imp pgs_nil fun vs q H Q ⟨ms, r, ts, r', c, hl, l, e, k⟩ => by
  cases ms with
  | nil =>
    cases e
    have : vs = [] := List.eq_nil_of_length_eq_zero hl
    subst this
    exact ⟨rfl, k _ c Lk.refl l⟩
  | cons _ _ => cases e
theorem nm_cons {is : List Nat} (hN : X.N.Nodup) (hi : X.N[i]? = some x) (hx : Loc X.env.scope x) (hf : X.fn x = true ∨ X.env.scope.names.lookup x = some .local) (hl : ¬ lk i) (h2 : PGs X es (tNm T lk is)) : PGs X (.Name x pos :: es) (tNm T lk (i :: is)) := by
  refine pgs_imp (pgs_cons (pg_name hN hi hx hf) h2 (assign_heads _ _ _ fun _ _ z => nomatch z)) fun vs q H Q ⟨ms, r, ts, r', c, hle, l, e, k⟩ => ?_
  cases ms with
  | nil => cases e
  | cons m ms =>
    cases vs with
    | nil => cases hle
    | cons v vs =>
      simp only [parM] at e
      refine ⟨v, vs, rfl, ?_⟩
      have l2 : Live T H ((m, v) :: (slots r q ++ (ms.zip vs ++ ts))) := by
        have l0 : Live T H ((m, v) :: (ms.zip vs ++ (slots r q ++ ts))) := l
        exact l0.perm (List.Perm.cons _ (perm_sw _ _ _))
      obtain ⟨c2, l3⟩ := slot_fill (i := i) c l2
      exact ⟨ms, _, ts, r', c2, by simpa using hle, toFront l3, e, fun q' c' k' l' => k q' c' ((lk_set hl).trans k') l'⟩
theorem parE_inv : ∀ {is : List Nat} {l : List (Nat ⊕ M)} {r r' : Env} {vs : List V}, parE is l r = some r' → AV q l vs → ∃ ms, parM is ms r = some r' ∧ ms.length = is.length ∧ vs.length = ms.length ∧ tmp l vs = ms.zip vs
  | [], [], r, r', _, e, av => by
    cases e
    cases av
    exact ⟨[], rfl, rfl, rfl, rfl⟩
  | i :: is, .inr m :: l, r, r', _, e, .inr (v := v) (vs := vs) av => by
    obtain ⟨ms, h1, h2, h3, h4⟩ := parE_inv (is := is) (l := l) (r := r.set i (some m)) e av
    exact ⟨m :: ms, h1, by simp [h2], by simp [h3], by
      show (m, v) :: tmp l vs = _
      rw [h4]; rfl⟩
  | [], .inl _ :: _, _, _, _, e, _ => by cases e
  | [], .inr _ :: _, _, _, _, e, _ => by cases e
  | _ :: _, [], _, _, _, e, _ => by cases e
  | _ :: _, .inl _ :: _, _, _, _, e, _ => by cases e
theorem ss_parN {is : List Nat} {as : As} {kt k2 : Nat} {p2 : Pos} (hK : X.K = T.K) (hc : X.calm = true) (ha : PA X vs (tA T Ex (evA h as))) (hg : PGs X es (tNm T lk is)) (ns : es.all noStar = true) (hl : es.length = is.length) (hz : is.length ≤ LIM)
    (hs : swapsWithSole [.Tuple es kt pt] (.Tuple vs k2 p2) pos.line X.env = pure false) (hw : swappedStores [.Tuple es kt pt] (.Tuple vs k2 p2) X.env = pure none) :
    PS X (.Assign [.Tuple es kt pt] (.Tuple vs k2 p2) pos) (tS T Ex lk (evS h (.par is as))) := by
  refine ps_imp (ps_asg (pe_tup ha) (pg_tup (n := is.length) hc hg ((each_len _ _).trans hl) (each_plain _ _ ns)) hs hw rfl) fun D q H ⟨r, ts, c, l, k⟩ => ?_
  simp only [evS] at k
  refine seqSA c l k fun ws r1 us H1 c1 av l1 k1 => ?_
  cases e : parE is ws r1 with
  | none => rw [e] at k1; exact False.elim k1
  | some r2 =>
    rw [e] at k1
    obtain ⟨ms, e1, e2, e3, e4⟩ := parE_inv e av
    rw [e4] at l1
    refine ⟨small_line (by rw [e3, e2]; exact hz), fun p hp => ⟨p, us, rfl, SqT.of upd_same, by rw [e3, e2], ms, r1, ts, r2, c1, e3, l1.grow hp, e1, fun q' c' lk' l' => k1 q' _ c' lk' l'⟩⟩
end
end Dn
-- Dn22
set_option maxRecDepth 100000
set_option maxHeartbeats 4000000
/-! The check of statements, and its soundness. -/
namespace Dn
open PySem PySem.Spec PyProof.Rows L2

def isCmp : Expr → Bool
  | .ListComp .. => true
  | .SetComp .. => true
  | .DictComp .. => true
  | _ => false
/-- whether a comprehension stores into the name itself -/
def swV (sc : Scope) (a : Expr) (x : Str) (p : Pos) : Bool := match a with
  | .ListComp _ _ s ap => ((if sc.kind.isAnnotationScope then ScopeKind.function else sc.kind) == .function) && (sc.names.lookup x == some .local) && (p.line == ap.line)
      && !(s.names.any fun (n, k) => n == x && (k == .local || k == .cell))
  | _ => false
def fnK (sc : Scope) : Bool := (if sc.kind.isAnnotationScope then ScopeKind.function else sc.kind) == .function
/-- no stores from the right -/
def noSw (es : List Expr) : Expr → Bool
  | .Tuple vs _ _ => !(es.length == 2 || es.length == 3) || (vs.length != es.length) || vs.all (foldedForSure 8)
  | _ => true
def parOk (C : Ck) (i : Nat) (x : Str) : Bool := decide (C.N[i]? = some x) && lclB C.sc x && !C.lk i
def par1 (C : Ck) (is : List Nat) (as : As) (s : Stmt) : Bool := match is, s with
    | [i, j], .Assign [.Tuple [.Name x px, .Name y py] _ _] (.Tuple [a, b] _ _) _ => parOk C i x && parOk C j y && decide (i ≠ j) && fnK C.sc && decide (x ≠ y) && (px.line == py.line) && !([a, b].all (foldedForSure 8)) && !([a, b].all (constantsAlone 8)) && noStar a && noStar b && chkA as C [a, b]
    | [i, j, k], .Assign [.Tuple [.Name x px, .Name y py, .Name z pz] _ _] (.Tuple [a, b, c] _ _) _ => parOk C i x && parOk C j y && parOk C k z && decide (i ≠ j) && decide (i ≠ k) && decide (j ≠ k) && fnK C.sc && decide (x ≠ y) && decide (x ≠ z) && decide (y ≠ z) &&
        (px.line == py.line) && (px.line == pz.line) && !([a, b, c].all (foldedForSure 8)) && !([a, b, c].all (constantsAlone 8)) && noStar a && noStar b && noStar c && chkA as C [a, b, c]
    | _, _ => false
def nmsOk (C : Ck) : List Nat → List Expr → Bool
  | [], [] => true
  | i :: is, .Name x _ :: es => decide (C.N[i]? = some x) && locB C.own x && !C.lk i && nmsOk C is es
  | _, _ => false
/-- one of the names is no plain local one -/
def outN (sc : Scope) (es : List Expr) : Bool := es.any fun e => match e with
  | .Name x _ => !(sc.names.lookup x == some .local)
  | _ => false
def par2 (C : Ck) (is : List Nat) (as : As) (s : Stmt) : Bool := match s with
  | .Assign [.Tuple es _ _] (.Tuple vs _ _) _ => nmsOk C is es && es.all noStar && decide (es.length = is.length) && decide (is.length ≤ LIM) && (outN C.sc es || noSw es (.Tuple vs 0 ⟨0, 0, 0, 0⟩)) && chkA as C vs
  | _ => false
def csOk (C : Ck) : List Str → List Expr → Bool
  | [], [] => true
  | s :: ss, .Name x _ :: es => decide (x = s) && glB C.sc x && dbg x && clN C s && csOk C ss es
  | _, _ => false
/-- the classes of a clause -/
def clauseOk (C : Ck) (cs : List Str) : Expr → Bool
  | .Name x p => csOk C cs [.Name x p]
  | .Tuple es _ _ => csOk C cs es && (decide (es.length = 2) || decide (es.length = 3) || decide (es.length = 4))
  | _ => false
mutual
def chkS : S → Ck → Stmt → Bool
  | .set t e, C, s => match t with
    | .nm i => match s with
      | .Assign [.Name x p] a _ => decide (C.N[i]? = some x) && locB C.own x && !C.lk i && (chk e C a).1 && (if swV C.sc a x p then (match e with | .comp .. => true | .frz (.comp ..) => true | _ => false) else (!isCmp a || (match a with | .ListComp .. => true | _ => false)))
      | _ => false
    | .tp us => match s with
      | .Assign [.Tuple es k p] a _ => chkTg C (fun i => !C.lk i) (.tp us) (.Tuple es k p) && (chk e C a).1 && noSw es a
      | _ => false
  | .par is as, C, s => par1 C is as s || par2 C is as s
  | .aug i o e, C, s => match s with
    | .AugAssign (.Name x _) op a _ => decide (C.N[i]? = some x) && locB C.own x && !C.lk i && (chk e C a).1 && (match o, op with
      | .add, .Add => true
      | .sub, .Sub => true
      | _, _ => false)
    | _ => false
  | .seti i fs u e, C, s => match s with
    | .Assign [.Subscript (.Name x _) b _] a _ => fs.isEmpty && varOk C i x && !isSlice b && (chk e C a).1 && (chk u C b).1
    | _ => false
  | .ex e, C, s => match s with
    | .Expr a _ => (chk e C a).1 && !isCmp a
    | _ => false
  | .ret e, C, s => match s with
    | .Return (some a) _ => (chk e C a).1
    | _ => false
  | .retv i, C, s => match s with
    | .Return (some (.Name x _)) _ => varOk C i x
    | _ => false
  | .retn, _, s => match s with
    | .Return none _ => true
    | _ => false
  | .ite c a b, C, s => match s with
    | .If t y z _ => (chk c C t).2 && chkSs a C y && chkSs b C z
    | _ => false
  | .for_ t it b, C, s => match s with
    | .For tg iter body [] _ => chkI it C tg iter && chkTg C (fun i => !C.lk i) t tg && chkSs b C body && !isSet iter
    | _ => false
  | .whl c b, C, s => match s with
    | .While t body [] _ => (chk c C t).2 && chkSs b C body
    | _ => false
  | .rse c es, C, s => match s with
    | .Raise (some (.Call (.Name x _) ys [] _)) none _ => match lkC C.cl c with
      | some d => decide (x = d.name) && glB C.sc x && dbg x && decide (ys.length = d.fs.length) && chkEs es C ys
      | none => false
    | _ => false
  | .tryc b cs i j, C, s => match s with
    | .Try body [.ExceptHandler (some ty) (some n) [.Assign [.Name m _] (.Name n2 _) _] _] [] [] _ => C.top && decide (n2 = n) && decide (C.N[i]? = some n) && decide (C.N[j]? = some m) && lclB C.sc n && locB C.own m && dbg n && decide (i ≠ j) && !C.lk i && !C.lk j && clauseOk C cs ty && chkSs b C body
    | _ => false
  | .bad, _, _ => true
  | .pas, _, s => match s with
    | .Pass _ => true
    | _ => false
  | .brk, _, s => match s with
    | .Break _ => true
    | _ => false
  | _, _, _ => false
def chkSs : Ss → Ck → List Stmt → Bool
  | .nil, _, [] => true
  | .cons s ss, C, t :: ts => chkS s C t && chkSs ss C ts
  | _, _, _ => false
end
/-- a body: a docstring ahead, perhaps -/
def chkB (b : Ss) (C : Ck) : List Stmt → Bool
  | .Expr (.Constant (.str s) k p) p2 :: rest => chkSs b C rest
  | l => chkSs b C l
section
variable {T : Tb} {Ex Ex' : WX} {G : Pg} {n : Nat} {X : Cx} {C : Ck} {x y z : Str} {i j k : Nat} {p pos px py pz pt : Pos} {e : E} {a b c : Expr} {es vs : List Expr} {lk : Nat → Prop} {st : Stmt} {h : Th}
theorem sw_val : swapsWith a (some (.Name x p)) j X.env = pure (swV X.env.scope a x p) ∨ isCmp a = true ∧ (∀ u v w z, a ≠ .ListComp u v w z) := by
  cases a <;> first | exact .inl rfl | exact .inr ⟨rfl, fun _ _ _ _ h => nomatch h⟩
theorem sw_sub {b : Expr} {p3 : Pos} : swapsWithSole [.Subscript (.Name x p) b p3] a j X.env = pure false := by
  cases a <;> rfl
theorem sw_tup {k : Nat} : swapsWithSole [.Tuple es k p] a j X.env = pure false := by
  cases a <;> rfl
theorem st_sub {b : Expr} {p3 : Pos} : swappedStores [.Subscript (.Name x p) b p3] a X.env = pure none := by
  cases a <;> rfl
theorem st_tup {k : Nat} (h : noSw es a = true) : swappedStores [.Tuple es k p] a X.env = pure none := by
  cases a with
  | Tuple vs kk pp =>
    unfold noSw at h
    unfold swappedStores
    simp only [Bool.or_eq_true] at h
    by_cases h1 : (!(es.length == 2 || es.length == 3) || vs.length != es.length || X.env.blockKind != .function) = true
    · simp only [h1, if_true]
    · have h2 : vs.all (foldedForSure 8) = true := by
        rcases h with h | h
        · simp only [Bool.or_eq_true, not_or] at h1
          rcases h with h | h
          · exact absurd h h1.1.1
          · exact absurd h h1.1.2
        · exact h
      simp only [h1, h2, if_true]
      repeat' (first | rfl | split)
  | _ => rfl
theorem sw_two {k1 k2 : Nat} {p2 : Pos} (hf : fnK X.env.scope = true) (hx : X.env.scope.names.lookup x = some .local) (hy : X.env.scope.names.lookup y = some .local) (hn : x ≠ y) (hl : (px.line == py.line) = true)
    (h1 : ([a, b].all (foldedForSure 8)) = false) (h2 : ([a, b].all (constantsAlone 8)) = false) (n1 : noStar a = true) (n2 : noStar b = true) :
    swappedStores [.Tuple [.Name x px, .Name y py] k1 pt] (.Tuple [a, b] k2 p2) X.env = pure (some [x, y]) := by
  unfold swappedStores
  have hb : (X.env.blockKind != .function) = false := by
    unfold Env.blockKind
    unfold fnK at hf
    simpa using hf
  have s1 : ∀ e, noStar e = true → (match e with | .Starred .. => true | _ => false) = false := fun e h => by cases e <;> first | rfl | cases h
  have hst : ([a, b].any fun | .Starred .. => true | _ => false) = false := by
    simp only [List.any_cons, List.any_nil, Bool.or_false, Bool.or_eq_false_iff]
    exact ⟨s1 a n1, s1 b n2⟩
  have kx : X.env.kindOf x = some .local := hx
  have ky : X.env.kindOf y = some .local := hy
  have hl' : py.line = px.line := by simpa using (beq_iff_eq.mp hl).symm
  simp only [List.length_cons, List.length_nil, hb, hst, h1, h2]
  simp [kx, ky, hl', Expr.pos, List.eraseDups_cons, hn, Ne.symm hn]
  intro h
  rcases h with h | h
  · exact absurd (h.symm.trans (s1 a n1)) (by decide)
  · exact absurd (h.symm.trans (s1 b n2)) (by decide)
theorem sw_three {k1 k2 : Nat} {p2 : Pos} (hf : fnK X.env.scope = true) (hx : X.env.scope.names.lookup x = some .local) (hy : X.env.scope.names.lookup y = some .local) (hz : X.env.scope.names.lookup z = some .local) (hn : x ≠ y) (hn2 : x ≠ z) (hn3 : y ≠ z) (hl : (px.line == py.line) = true) (hl2 : (px.line == pz.line) = true)
    (h1 : ([a, b, c].all (foldedForSure 8)) = false) (h2 : ([a, b, c].all (constantsAlone 8)) = false) (n1 : noStar a = true) (n2 : noStar b = true) (n3 : noStar c = true) :
    swappedStores [.Tuple [.Name x px, .Name y py, .Name z pz] k1 pt] (.Tuple [a, b, c] k2 p2) X.env = pure (some [x, y, z]) := by
  unfold swappedStores
  have hb : (X.env.blockKind != .function) = false := by
    unfold Env.blockKind
    unfold fnK at hf
    simpa using hf
  have s1 : ∀ e, noStar e = true → (match e with | .Starred .. => true | _ => false) = false := fun e h => by cases e <;> first | rfl | cases h
  have hst : ([a, b, c].any fun | .Starred .. => true | _ => false) = false := by
    simp only [List.any_cons, List.any_nil, Bool.or_false, Bool.or_eq_false_iff]
    exact ⟨s1 a n1, s1 b n2, s1 c n3⟩
  have kx : X.env.kindOf x = some .local := hx
  have ky : X.env.kindOf y = some .local := hy
  have kz : X.env.kindOf z = some .local := hz
  have hl' : py.line = px.line := by simpa using (beq_iff_eq.mp hl).symm
  have hl2' : pz.line = px.line := by simpa using (beq_iff_eq.mp hl2).symm
  simp only [List.length_cons, List.length_nil, hb, hst, h1, h2]
  simp [kx, ky, kz, hl', hl2', Expr.pos, List.eraseDups_cons, hn, Ne.symm hn, hn2, Ne.symm hn2, hn3, Ne.symm hn3]
  intro h
  rcases h with h | h | h
  · exact absurd (h.symm.trans (s1 a n1)) (by decide)
  · exact absurd (h.symm.trans (s1 b n2)) (by decide)
  · exact absurd (h.symm.trans (s1 c n3)) (by decide)
theorem blk_parts {own : List Nat} {t : Dn.T} {it : It} {oc : OE} (hz : (chk (.comp own t it oc e) C a).1 = true) : ∃ elt tg iter ifs scope pos, a = .ListComp elt [⟨tg, iter, ifs, 0⟩] scope pos ∧ (ownL C.N own).map (·.2) = own ∧ blkC C.N C.sc scope (ownL C.N own) = true ∧
    isSet iter = false ∧ chkI it C tg iter = true ∧ chkTg (C.blk scope) (fun i => decide (i ∈ own)) t tg = true ∧ chkC oc (C.blk scope) ifs = true ∧ (chk e (C.blk scope) elt).1 = true := by
  unfold chk at hz
  split at hz
  · rename_i elt tg iter ifs is scope pos
    have hz' : (decide (is = 0) && decide ((ownL C.N own).map (·.2) = own) && blkC C.N C.sc scope (ownL C.N own) && !isSet iter && chkI it C tg iter && chkTg (C.blk scope) (fun i => decide (i ∈ own)) t tg && chkC oc (C.blk scope) ifs && (chk e (C.blk scope) elt).1) = true := hz
    simp only [Bool.and_eq_true, decide_eq_true_eq, Bool.not_eq_true'] at hz'
    obtain ⟨⟨⟨⟨⟨⟨⟨e1, e2⟩, e3⟩, e4⟩, e5⟩, e6⟩, e7⟩, e8⟩ := hz'
    subst e1
    exact ⟨elt, tg, iter, ifs, scope, pos, rfl, e2, e3, e4, e5, e6, e7, e8⟩
  · cases hz
/-- name = [.. for ..], stored at once -/
theorem ss_setLc {own : List Nat} {t : Dn.T} {it : It} {oc : OE} (A : At X T G n Ex) (hF : Fit C G X) (hi : X.N[i]? = some x) (hl : ¬ lk i) (hsw : swV X.env.scope a x p = true) (hz : (chk (.comp own t it oc e) C a).1 = true) :
    PS X (.Assign [.Name x p] a pos) (tS T Ex lk (evS (G.th n) (.set (.nm i) (.comp own t it oc e)))) := by
  obtain ⟨elt, tg, iter, ifs, scope, ap, rfl, e2, e3, e4, e5, e6, e7, e8⟩ := blk_parts hz
  have hb : BlkOk X.N X.env.scope scope (ownL C.N own) := by rw [hF.N, hF.sc]; exact blkOk_by e3
  have hyl : X.env.scope.names.lookup x = some .local := by
    unfold swV at hsw
    simp only [Bool.and_eq_true, beq_iff_eq] at hsw
    exact hsw.1.1.2
  have hs : swapsWith (.ListComp elt [⟨tg, iter, ifs, 0⟩] scope ap) (some (.Name x p)) pos.line X.env = pure true := by
    rcases sw_val (X := X) (a := .ListComp elt [⟨tg, iter, ifs, 0⟩] scope ap) (x := x) (p := p) (j := pos.line) with h | h
    · rw [h, hsw]
    · exact absurd rfl (h.2 _ _ _ _)
  have h := ps_setLc (i := i) (g := tTg T (fun i => i ∉ (ownL C.N own).map (·.2)) t) (tt := tT T (fun _ _ _ _ => False) (evC (G.th n) oc)) (te := tE T (fun _ _ _ _ => False) (evE (G.th n) e)) A.calm A.nd hi hyl hs (chki_ok it A hF e5) hb
      (fun s H L cl fp => tg_of (A.blk s H scope _ fp) (hF.blk s H scope cl L fp) (fun i hi z => z (by rw [e2]; exact of_decide_eq_true hi)) e6)
      (fun s H L cl fp => chkc_ok oc (A.blk s H scope _ fp) (hF.blk s H scope cl L fp) e7) (fun s H L cl fp => (chk_ok e (A.blk s H scope _ fp) (hF.blk s H scope cl L fp)).v e8) (notSet e4 _)
  refine ps_imp h fun D q H ⟨r, ts, c, l, k⟩ => ?_
  simp only [evS] at k
  have k2 : okE T Ex q ts (fun v H1 => gName i v q H1 D.nx) (evE (G.th n) (.comp own t it oc e) r) := (okS.bind k).imp fun m r1 h1 v H1 c1 l1 => by
    obtain ⟨c2, l2⟩ := slot_fill (i := i) c1 l1
    exact h1 _ _ c2 (lk_set hl) l2
  have h3 := lc_rd (Ex' := fun _ _ _ _ => False) c l k2
  rw [e2]
  exact h3
/-- .. given up -/
theorem ss_setLcF {own : List Nat} {t : Dn.T} {it : It} {oc : OE} (A : At X T G n Ex) (hF : Fit C G X) (hi : X.N[i]? = some x) (hl : ¬ lk i) (hsw : swV X.env.scope a x p = true) (hz : (chk (.comp own t it oc e) C a).1 = true) :
    PS X (.Assign [.Name x p] a pos) (tS T Ex lk (evS (G.th n) (.set (.nm i) (.frz (.comp own t it oc e))))) := by
  obtain ⟨elt, tg, iter, ifs, scope, ap, rfl, e2, e3, e4, e5, e6, e7, e8⟩ := blk_parts hz
  have hb : BlkOk X.N X.env.scope scope (ownL C.N own) := by rw [hF.N, hF.sc]; exact blkOk_by e3
  have hyl : X.env.scope.names.lookup x = some .local := by
    unfold swV at hsw
    simp only [Bool.and_eq_true, beq_iff_eq] at hsw
    exact hsw.1.1.2
  have hs : swapsWith (.ListComp elt [⟨tg, iter, ifs, 0⟩] scope ap) (some (.Name x p)) pos.line X.env = pure true := by
    rcases sw_val (X := X) (a := .ListComp elt [⟨tg, iter, ifs, 0⟩] scope ap) (x := x) (p := p) (j := pos.line) with h | h
    · rw [h, hsw]
    · exact absurd rfl (h.2 _ _ _ _)
  have h := ps_setLc (i := i) (g := tTg T (fun i => i ∉ (ownL C.N own).map (·.2)) t) (tt := tT T (fun _ _ _ _ => False) (evC (G.th n) oc)) (te := tE T (fun _ _ _ _ => False) (evE (G.th n) e)) A.calm A.nd hi hyl hs (chki_ok it A hF e5) hb
      (fun s H L cl fp => tg_of (A.blk s H scope _ fp) (hF.blk s H scope cl L fp) (fun i hi z => z (by rw [e2]; exact of_decide_eq_true hi)) e6)
      (fun s H L cl fp => chkc_ok oc (A.blk s H scope _ fp) (hF.blk s H scope cl L fp) e7) (fun s H L cl fp => (chk_ok e (A.blk s H scope _ fp) (hF.blk s H scope cl L fp)).v e8) (notSet e4 _)
  refine ps_imp h fun D q H ⟨r, ts, c, l, k⟩ => ?_
  have e0 : evS (G.th n) (.set (.nm i) (.frz (.comp own t it oc e))) r = (evE (G.th n) (.comp own t it oc e) r).bind fun m r1 => R.ok Fl.nx (r1.set i (some (.im m.fz))) := by
    simp only [evS]
    rw [show evE (G.th n) (.frz (.comp own t it oc e)) r = (evE (G.th n) (.comp own t it oc e) r).bind fun m r1 => R.ok (.im m.fz) r1 from rfl]
    cases evE (G.th n) (.comp own t it oc e) r <;> rfl
  rw [e0] at k
  have k0 := k
  have k2 : okE T Ex q ts (fun v H1 => gName i v q H1 D.nx) (evE (G.th n) (.comp own t it oc e) r) := (okS.bind k0).imp fun m r1 h1 v H1 c1 l1 => by
    obtain ⟨c2, l2⟩ := slot_fill (i := i) c1 l1.freeze
    exact h1 _ _ c2 (lk_set hl) l2
  have h3 := lc_rd (Ex' := fun _ _ _ _ => False) c l k2
  rw [e2]
  exact h3
def OkS (T : Tb) (G : Pg) (n : Nat) (s : S) : Prop := ∀ {X : Cx} {C : Ck} {st : Stmt} {Ex : WX}, At X T G n Ex → Fit C G X → chkS s C st = true → PS X st (tS T Ex (fun i => C.lk i = true) (evS (G.th n) s))
def OkSs (T : Tb) (G : Pg) (n : Nat) (s : Ss) : Prop := ∀ {X : Cx} {C : Ck} {st : List Stmt} {Ex : WX}, At X T G n Ex → Fit C G X → chkSs s C st = true → PSs X st (tS T Ex (fun i => C.lk i = true) (evSs (G.th n) s))
theorem nlk {C : Ck} {i : Nat} (h : C.lk i = false) : ¬ (fun i => C.lk i = true) i := fun z => by
  have z' : C.lk i = true := z
  rw [h] at z'; cases z'
theorem oks_set {t : Dn.T} : OkS T G n (.set t e) := fun {X C st Ex} A hF h => by
  cases t with
  | nm i =>
    unfold chkS at h
    simp only at h
    split at h
    · rename_i x p a pos
      simp only [Bool.and_eq_true, decide_eq_true_eq, Bool.not_eq_true'] at h
      obtain ⟨⟨⟨⟨e1, e2⟩, e3⟩, e4⟩, e5⟩ := h
      have hi : X.N[i]? = some x := by rw [hF.N]; exact e1
      obtain ⟨s1, s2⟩ := hF.sto x e2
      cases hsw : swV C.sc a x p with
      | true =>
        rw [hsw] at e5
        simp only [if_true] at e5
        cases e with
        | comp own t it oc e' => exact ss_setLc A hF hi (nlk e3) (by rw [hF.sc]; exact hsw) e4
        | frz e2 =>
          cases e2 with
          | comp own t it oc e' => exact ss_setLcF A hF hi (nlk e3) (by rw [hF.sc]; exact hsw) (by unfold chk at e4; exact e4)
          | _ => cases e5
        | _ => cases e5
      | false =>
        rw [hsw] at e5
        simp only [Bool.false_eq_true, if_false] at e5
        have hs : swapsWith a (some (.Name x p)) pos.line X.env = pure false := by
          rcases sw_val (X := X) (a := a) (x := x) (p := p) (j := pos.line) with h | h
          · rw [h, hF.sc, hsw]
          · rw [h.1] at e5
            simp only [Bool.not_true, Bool.false_or] at e5
            split at e5
            · exact absurd rfl (h.2 _ _ _ _)
            · cases e5
        exact ss_set A.nd hi s1 s2 hs (nlk e3) ((chk_ok e A hF).v e4)
    · cases h
  | tp us =>
    unfold chkS at h
    simp only at h
    split at h
    · simp only [Bool.and_eq_true] at h
      obtain ⟨⟨e1, e2⟩, e3⟩ := h
      exact ss_setT (tg_of A hF (fun i hi => nlk (by simpa using hi)) e1) sw_tup (st_tup e3) ((chk_ok e A hF).v e2)
    · cases h
theorem par_of {i : Nat} {x : Str} (hF : Fit C G X) (h : parOk C i x = true) : X.N[i]? = some x ∧ X.env.scope.names.lookup x = some .local ∧ ¬ (fun i => C.lk i = true) i := by
  unfold parOk at h
  simp only [Bool.and_eq_true, decide_eq_true_eq, Bool.not_eq_true'] at h
  refine ⟨by rw [hF.N]; exact h.1.1, ?_, nlk h.2⟩
  rw [hF.sc]
  have h2 := h.1.2
  unfold lclB at h2
  split at h2
  · assumption
  · cases h2
theorem par1_ok {is : List Nat} {as : As} (A : At X T G n Ex) (hF : Fit C G X) (h : par1 C is as st = true) : PS X st (tS T Ex (fun i => C.lk i = true) (evS (G.th n) (.par is as))) := by
  unfold par1 at h
  split at h
  · simp only [Bool.and_eq_true, decide_eq_true_eq, Bool.not_eq_true'] at h
    obtain ⟨⟨⟨⟨⟨⟨⟨⟨⟨⟨e1, e2⟩, e3⟩, e4⟩, e5⟩, e6⟩, e7⟩, e8⟩, e9⟩, e10⟩, e11⟩ := h
    obtain ⟨a1, a2, a3⟩ := par_of hF e1
    obtain ⟨b1, b2, b3⟩ := par_of hF e2
    exact ss_par2 A.calm A.nd a1 b1 e3 a2 b2 (chka_ok as A hF e11).1 (sw_two (by rw [hF.sc]; exact e4) a2 b2 e5 e6 e7 e8 e9 e10) a3 b3
  · simp only [Bool.and_eq_true, decide_eq_true_eq, Bool.not_eq_true'] at h
    obtain ⟨⟨⟨⟨⟨⟨⟨⟨⟨⟨⟨⟨⟨⟨⟨⟨⟨e1, e2⟩, e3⟩, e4⟩, e5⟩, e6⟩, e7⟩, e8⟩, e9⟩, e10⟩, e11⟩, e12⟩, e13⟩, e14⟩, e15⟩, e16⟩, e17⟩, e18⟩ := h
    obtain ⟨a1, a2, a3⟩ := par_of hF e1
    obtain ⟨b1, b2, b3⟩ := par_of hF e2
    obtain ⟨c1, c2, c3⟩ := par_of hF e3
    exact ss_par3 A.calm A.nd a1 b1 c1 e4 e5 e6 a2 b2 c2 (chka_ok as A hF e18).1 (sw_three (by rw [hF.sc]; exact e7) a2 b2 c2 e8 e9 e10 e11 e12 e13 e14 e15 e16 e17) a3 b3 c3
  · cases h
theorem nms_of : ∀ {is : List Nat} {es : List Expr}, At X T G n Ex → Fit C G X → nmsOk C is es = true → PGs X es (tNm T (fun i => C.lk i = true) is)
  | [], [], _, _, _ => nm_nil
  | [], _ :: _, _, _, h => by simp [nmsOk] at h
  | _ :: _, [], _, _, h => by simp [nmsOk] at h
  | i :: is, e :: es, A, hF, h => by
    cases e with
    | Name x p =>
      simp only [nmsOk, Bool.and_eq_true, decide_eq_true_eq, Bool.not_eq_true'] at h
      obtain ⟨s1, s2⟩ := hF.sto x h.1.1.2
      exact nm_cons A.nd (by rw [hF.N]; exact h.1.1.1) s1 s2 (nlk h.1.2) (nms_of A hF h.2)
    | _ => simp [nmsOk] at h
theorem filterMap_lt {α β : Type} {f : α → Option β} : ∀ {l : List α}, (∃ a ∈ l, f a = none) → (l.filterMap f).length < l.length
  | [], h => by simp at h
  | a :: l, h => by
    have hle : (l.filterMap f).length ≤ l.length := List.length_filterMap_le _ _
    rw [List.filterMap_cons]
    cases e : f a with
    | none => simp only [List.length_cons]; omega
    | some b =>
      simp only [List.length_cons]
      obtain ⟨a', h1, h2⟩ := h
      rcases List.mem_cons.mp h1 with z | z
      · subst z; rw [e] at h2; cases h2
      · have := filterMap_lt (f := f) ⟨a', z, h2⟩
        omega
theorem st_out {k1 : Nat} {a : Expr} (h : outN X.env.scope es = true) : swappedStores [.Tuple es k1 p] a X.env = pure none := by
  cases a with
  | Tuple vs kk pp =>
    unfold swappedStores
    obtain ⟨e, he, hx⟩ := List.any_eq_true.mp h
    have hlt : ∀ line : Nat, ((es.filterMap fun | .Name id pos => if (X.env.kindOf id == some .local && pos.line == line) = true then some id else none | _ => none).length != es.length) = true := fun line => by
      have h2 := filterMap_lt (l := es) (f := fun | .Name id pos => if (X.env.kindOf id == some .local && pos.line == line) = true then some id else none | _ => none) ⟨e, he, by
        cases e with
        | Name x q =>
          have hx' : (!(X.env.scope.names.lookup x == some .local)) = true := hx
          have hx2 : (X.env.kindOf x == some .local) = false := by simpa [Env.kindOf] using hx'
          simp [hx2]
        | _ => cases hx⟩
      rw [bne_iff_ne]
      omega
    have h3 := hlt ((es.head?.map (·.pos.line)).getD 0)
    by_cases h1 : (!(es.length == 2 || es.length == 3) || vs.length != es.length || X.env.blockKind != .function) = true
    · simp only [h1, if_true]
    · simp only [h1]
      repeat' (first | rfl | (exact absurd ((Bool.or_eq_true _ _).mpr (.inl h3)) (by assumption)) | split)
  | _ => rfl
theorem oks_par {is : List Nat} {as : As} : OkS T G n (.par is as) := fun {X C st Ex} A hF h => by
  unfold chkS at h
  rw [Bool.or_eq_true] at h
  rcases h with h | h
  · exact par1_ok A hF h
  · unfold par2 at h
    split at h
    · simp only [Bool.and_eq_true, decide_eq_true_eq, Bool.or_eq_true] at h
      obtain ⟨⟨⟨⟨⟨e1, e2⟩, e3⟩, e4⟩, e5⟩, e6⟩ := h
      refine ss_parN A.hK A.calm (chka_ok as A hF e6).1 (nms_of A hF e1) e2 e3 e4 sw_tup ?_
      rcases e5 with e5 | e5
      · exact st_out (by rw [hF.sc]; exact e5)
      · exact st_tup e5
    · cases h
theorem oks_aug {o : BO} : OkS T G n (.aug i o e) := fun {X C st Ex} A hF h => by
  unfold chkS at h
  split at h
  · simp only [Bool.and_eq_true, decide_eq_true_eq, Bool.not_eq_true'] at h
    obtain ⟨⟨⟨⟨e1, e2⟩, e3⟩, e4⟩, e5⟩ := h
    obtain ⟨s1, s2⟩ := hF.sto _ e2
    have hi := e1
    rw [← hF.N] at hi
    split at e5
    · refine ss_aug A.nd hi s1 s2 (nlk e3) ip_add (fun u w z hz => ?_) ((chk_ok e A hF).v e4)
      cases u <;> cases w <;> first | (cases hz; done) | (cases hz; exact ⟨_, _, rfl, rfl, rfl⟩)
    · refine ss_aug A.nd hi s1 s2 (nlk e3) ip_sub (fun u w z hz => ?_) ((chk_ok e A hF).v e4)
      cases u <;> cases w <;> first | (cases hz; done) | (cases hz; exact ⟨_, _, rfl, rfl, rfl⟩)
    · cases e5
  · cases h
theorem oks_seti {fs : List Str} {u : E} : OkS T G n (.seti i fs u e) := fun {X C st Ex} A hF h => by
  unfold chkS at h
  split at h
  · rename_i x p b p3 a pos
    simp only [Bool.and_eq_true, List.isEmpty_iff, Bool.not_eq_true'] at h
    obtain ⟨⟨⟨⟨e1, e2⟩, e3⟩, e4⟩, e5⟩ := h
    obtain ⟨h1, h2, h3, h4⟩ := var_of hF e2
    subst e1
    refine ss_seti h1 h2 h3 h4 sw_sub st_sub ((chk_ok e A hF).v e4) ((chk_ok u A hF).v e5) fun v => ?_
    cases b <;> first | rfl | cases e3
  · cases h
theorem oks_ex : OkS T G n (.ex e) := fun {X C st Ex} A hF h => by
  unfold chkS at h
  split at h
  · simp only [Bool.and_eq_true, Bool.not_eq_true'] at h
    exact ss_ex ((chk_ok e A hF).v h.1) (swaps_no (fun _ _ _ _ z => by subst z; cases h.2) (fun _ _ _ _ z => by subst z; cases h.2) fun _ _ _ _ _ z => by subst z; cases h.2)
  · cases h
theorem oks_ret : OkS T G n (.ret e) := fun {X C st Ex} A hF h => by
  unfold chkS at h
  split at h
  · exact ss_ret ((chk_ok e A hF).v h)
  · cases h
theorem oks_retv : OkS T G n (.retv i) := fun {X C st Ex} A hF h => by
  unfold chkS at h
  split at h
  · obtain ⟨h1, h2, h3, h4⟩ := var_of hF h
    exact ss_retv h1 h2 h3 h4
  · cases h
theorem oks_retn : OkS T G n .retn := fun {X C st Ex} A hF h => by
  unfold chkS at h
  split at h
  · exact ss_retn
  · cases h
theorem oks_pas : OkS T G n .pas := fun {X C st Ex} A hF h => by
  unfold chkS at h
  split at h
  · exact ss_pas
  · cases h
theorem oks_bad : OkS T G n .bad := fun {X C st Ex} A hF h => ⟨by
  intros
  rename_i w
  obtain ⟨r, ts, c, l, k⟩ := w
  simp only [evS] at k
  exact False.elim k⟩
theorem oks_brk : OkS T G n .brk := fun {X C st Ex} A hF h => by
  unfold chkS at h
  split at h
  · exact ss_brk
  · cases h
theorem oks_ite {u v : Ss} (hu : OkSs T G n u) (hv : OkSs T G n v) : OkS T G n (.ite e u v) := fun {X C st Ex} A hF h => by
  unfold chkS at h
  split at h
  · simp only [Bool.and_eq_true] at h
    exact ss_ite ((chk_ok e A hF).t h.1.1) (hu A hF h.1.2) (hv A hF h.2)
  · cases h
theorem oks_for {t : Dn.T} {it : It} {u : Ss} (hu : OkSs T G n u) : OkS T G n (.for_ t it u) := fun {X C st Ex} A hF h => by
  unfold chkS at h
  split at h
  · simp only [Bool.and_eq_true, Bool.not_eq_true'] at h
    obtain ⟨⟨⟨e1, e2⟩, e3⟩, e4⟩ := h
    exact ss_for A.pa A.calm (chki_ok it A hF e1) (tg_of A hF (fun i hi => nlk (by simpa using hi)) e2) (hu A hF e3) (notSet e4 _)
  · cases h
theorem oks_whl {u : Ss} (hu : OkSs T G n u) : OkS T G n (.whl e u) := fun {X C st Ex} A hF h => by
  unfold chkS at h
  split at h
  · simp only [Bool.and_eq_true] at h
    exact ss_whl A.pa ((chk_ok e A hF).t h.1) (hu A hF h.2)
  · cases h
theorem lcl_of (h : lclB C.sc x = true) : C.sc.names.lookup x = some .local := by
  unfold lclB at h
  split at h
  · rename_i e; exact e
  · cases h
theorem cs_of : ∀ {cs : List Str} {es : List Expr}, At X T G n Ex → Fit C G X → csOk C cs es = true → ∃ vs, NmL X es vs ∧ CsL X T G cs vs
  | [], [], _, _, _ => ⟨_, .nil, .nil⟩
  | [], _ :: _, _, _, h => by simp [csOk] at h
  | _ :: _, [], _, _, h => by simp [csOk] at h
  | s :: ss, e :: es, A, hF, h => by
    cases e with
    | Name x p =>
      simp only [csOk, Bool.and_eq_true, decide_eq_true_eq] at h
      obtain ⟨⟨⟨⟨e1, e2⟩, e3⟩, e4⟩, e5⟩ := h
      subst e1
      unfold clN at e4
      rw [hF.cl] at e4
      obtain ⟨c, d, D, h1, h2, F⟩ := A.cfn e4
      obtain ⟨vs, h3, h4⟩ := cs_of A hF e5
      refine ⟨_, .cons ⟨gl_of hF e2, (dbg_of e3).1, .inl ?_⟩ h3, .cons h2 F h4⟩
      rw [← h2]; exact F.mgc
    | _ => simp [csOk] at h
theorem clause_of {cs : List Str} {ty : Expr} (A : At X T G n Ex) (hF : Fit C G X) (h : clauseOk C cs ty = true) : ∃ vs, Clauses X ty vs ∧ CsL X T G cs vs := by
  unfold clauseOk at h
  split at h
  · obtain ⟨vs, h1, h2⟩ := cs_of A hF h
    cases h1 with
    | cons hn h3 => cases h3; exact ⟨_, clauses_name hn, h2⟩
  · rename_i es k p
    simp only [Bool.and_eq_true, Bool.or_eq_true, decide_eq_true_eq] at h
    obtain ⟨vs, h1, h2⟩ := cs_of A hF h.1
    refine ⟨vs, clauses_tup h1 (by rw [h1.len]; omega) fun M hp e tp cls b K LT hg hx => ?_, h2⟩
    have hl := h1.len
    rcases h.2 with (h3 | h3) | h3
    · obtain ⟨a, b', rfl⟩ : ∃ a b', vs = [a, b'] := by
        rw [h3] at hl
        match vs, hl with
        | [a, b'], _ => exact ⟨a, b', rfl⟩
      exact PySem.W.exm_tup2 K LT hg hx
    · obtain ⟨a, b', c', rfl⟩ : ∃ a b' c', vs = [a, b', c'] := by
        rw [h3] at hl
        match vs, hl with
        | [a, b', c'], _ => exact ⟨a, b', c', rfl⟩
      exact PySem.W.exm_tup3 K LT hg hx
    · obtain ⟨a, b', c', d', rfl⟩ : ∃ a b' c' d', vs = [a, b', c', d'] := by
        rw [h3] at hl
        match vs, hl with
        | [a, b', c', d'], _ => exact ⟨a, b', c', d', rfl⟩
      exact PySem.W.exm_tup4 K LT hg hx
  · cases h
theorem oks_rse {c : Nat} {xs : Es} : OkS T G n (.rse c xs) := fun {X C st Ex} A hF h => by
  unfold chkS at h
  split at h
  · split at h
    · rename_i d hd
      rw [hF.cl] at hd
      simp only [Bool.and_eq_true, decide_eq_true_eq] at h
      obtain ⟨⟨⟨⟨e1, e2⟩, e3⟩, e4⟩, e5⟩ := h
      have hg := gl_of hF e2
      subst e1
      obtain ⟨h1, h2⟩ := chks_ok xs A hF e5
      refine ss_rse A hd hg (dbg_of e3).1 h2 e4 (fun z => ?_) h1
      subst z
      cases xs with
      | nil => rfl
      | cons _ _ => cases e5
    · cases h
  · cases h
theorem Fit.tr (hF : Fit C G X) (pn : List (Addr × Obj)) (xe : Value → Shared → Prop) : Fit C G (X.tr pn xe) :=
  ⟨hF.sc, hF.N, hF.fd, hF.gl, hF.cl, hF.frm, hF.sto⟩
theorem oks_try {u : Ss} {cs : List Str} {i j : Nat} (hu : OkSs T G n u) : OkS T G n (.tryc u cs i j) := fun {X C st Ex} A hF h => by
  unfold chkS at h
  split at h
  · simp only [Bool.and_eq_true, decide_eq_true_eq, Bool.not_eq_true'] at h
    obtain ⟨⟨⟨⟨⟨⟨⟨⟨⟨⟨⟨e1, e2⟩, e3⟩, e4⟩, e5⟩, e6⟩, e7⟩, e8⟩, e9⟩, e10⟩, e11⟩, e12⟩ := h
    subst e2
    obtain ⟨f1, f2, f3⟩ := hF.frm e1
    obtain ⟨vs, h1, h2⟩ := clause_of A hF e11
    obtain ⟨s1, s2⟩ := hF.sto _ e6
    have hln := lcl_of e5
    rw [← hF.sc] at hln
    refine ss_try A f1 f2 f3 (by rw [hF.N]; exact e3) (by rw [hF.N]; exact e4) hln s1 s2 (dbg_of e7).1 (dbg_of e7).2 e8 rfl (nlk e9) (nlk e10) h1 h2 fun W pn xe A' => hu A' (hF.tr pn xe) e12
  · cases h
theorem oks_no {s : S} (h : ∀ C st, chkS s C st = false) : OkS T G n s := fun {X C st Ex} A hF hz => by rw [h] at hz; cases hz
theorem okss_nil : OkSs T G n .nil := fun {X C st Ex} A hF h => by
  cases st with
  | nil => exact ss_nil
  | cons _ _ => cases h
theorem okss_cons {s : S} {ss : Ss} (h1 : OkS T G n s) (h2 : OkSs T G n ss) : OkSs T G n (.cons s ss) := fun {X C st Ex} A hF h => by
  cases st with
  | nil => cases h
  | cons t ts =>
    unfold chkSs at h
    simp only [Bool.and_eq_true] at h
    exact ss_cons (h1 A hF h.1) (h2 A hF h.2)
mutual
theorem chkS_ok : ∀ s : S, OkS T G n s
  | .set t e => oks_set
  | .par is as => oks_par
  | .aug i o e => oks_aug
  | .seti i fs u e => oks_seti
  | .setf i f e => oks_no fun C st => by unfold chkS; rfl
  | .ex e => oks_ex
  | .ret e => oks_ret
  | .retv i => oks_retv
  | .retn => oks_retn
  | .ite c a b => oks_ite (chkSs_ok a) (chkSs_ok b)
  | .for_ t it b => oks_for (chkSs_ok b)
  | .whl c b => oks_whl (chkSs_ok b)
  | .rse c es => oks_rse
  | .tryc b cs i j => oks_try (chkSs_ok b)
  | .bad => oks_bad
  | .pas => oks_pas
  | .brk => oks_brk
theorem chkSs_ok : ∀ ss : Ss, OkSs T G n ss
  | .nil => okss_nil
  | .cons s ss => okss_cons (chkS_ok s) (chkSs_ok ss)
end
theorem chkB_ok {b : Ss} {st : List Stmt} (A : At X T G n Ex) (hF : Fit C G X) (h : chkB b C st = true) : PSs X st (tS T Ex (fun i => C.lk i = true) (evSs (G.th n) b)) := by
  unfold chkB at h
  split at h
  · exact ss_skip ps_doc (chkSs_ok b A hF h)
  · exact chkSs_ok b A hF h
end
end Dn
-- Dn23
set_option maxRecDepth 100000
set_option maxHeartbeats 4000000
/-! A def keeps its promise: its meaning. -/
namespace Dn
open PySem PySem.Spec PyProof.Rows L2
section
variable {P : Program} {w : World} {K : PySem.W.Frag} {mg : Str → Option Value} {base : Heap} {T : Tb} {G : Pg} {n : Nat} {H : Hp}
theorem start_slots : ∀ {ms : List M} {vs : List V} {k : Nat}, vs.length = ms.length → slots (ms.map some ++ List.replicate k none) (vs.map some ++ List.replicate k none) = ms.zip vs ∧ Cons (ms.map some ++ List.replicate k none) (vs.map some ++ List.replicate k none)
  | [], [], 0, _ => ⟨rfl, True.intro⟩
  | [], [], k + 1, _ => by
    have ih := start_slots (ms := []) (vs := []) (k := k) rfl
    rw [List.replicate_succ, List.replicate_succ]
    exact ih
  | [], _ :: _, _, h => by simp at h
  | _ :: _, [], _, h => by simp at h
  | m :: ms, v :: vs, k, h => by
    obtain ⟨h1, h2⟩ := start_slots (ms := ms) (vs := vs) (k := k) (by simpa using h)
    exact ⟨congrArg ((m, v) :: ·) h1, ⟨v, rfl⟩, h2⟩
theorem argsOf_set {lock : List Nat} : ∀ {k i j : Nat} {r : Env} {o : Option M}, j < i → argsOf lock k i (r.set j o) = argsOf lock k i r
  | 0, _, _, _, _, _ => rfl
  | k + 1, i, j, r, o, h => by
    unfold argsOf
    rw [argsOf_set (k := k) (i := i + 1) (j := j) (by omega), getM_set_ne (by omega)]
theorem lkP_of {lock : List Nat} {q : L2.St} : ∀ {k i : Nat} {r : Env} {as : List M} {vs : List V}, argsOf lock k i r = some as → vs.length = k → Cons r q → (∀ j, i + j ∈ lock → j < k → q[i + j]? = (vs.map some)[j]?) →
    ∃ rest, (slots r q).Perm (lkP lock i as vs ++ rest)
  | 0, i, r, as, vs, h, hl, c, _ => by
    cases h
    have : vs = [] := List.eq_nil_of_length_eq_zero hl
    subst this
    exact ⟨_, List.Perm.refl _⟩
  | k + 1, i, r, as, [], h, hl, c, _ => by simp at hl
  | k + 1, i, r, as, v :: vs, h, hl, c, hq => by
    unfold argsOf at h
    split at h
    · rename_i ms e1
      have hq' : ∀ j, i + 1 + j ∈ lock → j < k → q[i + 1 + j]? = (vs.map some)[j]? := fun j hj hk => by
        have := hq (j + 1) (by rw [show i + (j + 1) = i + 1 + j by omega]; exact hj) (by omega)
        rw [show i + (j + 1) = i + 1 + j by omega] at this
        rw [this]
        simp
      by_cases hi : i ∈ lock
      · rw [if_pos hi] at h
        split at h
        · rename_i m e2
          cases h
          obtain ⟨v', g1, g2, g3⟩ := cons_get c (getM_some e2)
          have g4 := hq 0 hi (by omega)
          rw [Nat.add_zero, g1] at g4
          have ev : v' = v := by simpa using g4
          subst ev
          obtain ⟨rest, hp⟩ := lkP_of (k := k) (i := i + 1) (r := r.set i none) (as := ms) (vs := vs) (by rw [argsOf_set (by omega)]; exact e1) (by simpa using hl) g3 hq'
          refine ⟨rest, ?_⟩
          have e3 : lkP lock i (m :: ms) (v' :: vs) = (m, v') :: lkP lock (i + 1) ms vs := by
            show (if i ∈ lock then _ else _) = _
            rw [if_pos hi]
          rw [e3]
          exact g2.trans (List.Perm.cons _ hp)
        · cases h
      · rw [if_neg hi] at h
        cases h
        obtain ⟨rest, hp⟩ := lkP_of (k := k) (i := i + 1) (r := r) (as := ms) (vs := vs) e1 (by simpa using hl) c hq'
        refine ⟨rest, ?_⟩
        have e3 : lkP lock i (.im .non :: ms) (v :: vs) = lkP lock (i + 1) ms vs := by
          show (if i ∈ lock then _ else _) = _
          rw [if_neg hi]
        rw [e3]
        exact hp
    · cases h
theorem keep_front {l l' rest ts : List (M × V)} {fr : List (M × V)} (hp : l.Perm (l' ++ rest)) (h : Live T H (fr ++ (l ++ ts))) : Live T H (fr ++ (l' ++ ts)) := by
  have h1 : Live T H (rest ++ (fr ++ (l' ++ ts))) := by
    refine h.perm ?_
    refine List.Perm.trans (List.Perm.append_left fr (hp.append_right ts)) ?_
    rw [List.append_assoc]
    refine List.Perm.trans (List.Perm.append_left fr (perm_sw l' rest ts)) ?_
    exact perm_sw fr rest _
  exact Live.dropL h1
/-- the checks of a def -/
structure DefOk (d : FD) (G : Pg) (st : Stmt) : Prop where
  many : d.many ≤ d.names.length
  lock : ∀ i ∈ d.lock, i < d.many
  scope : FnScope d.names (d.names.take d.many) (defScope st)
  body : chkB d.body { sc := defScope st, own := defScope st, N := d.names, fd := G.fd, gl := G.gl, cl := G.cl, top := true, lk := fun i => decide (i ∈ d.lock) } (defBody st) = true
theorem def_ok {fid : Nat} {d : FD} {st : Stmt} {f : Addr} {fd : FuncData} (hK : K = T.K) (hd : G.fd fid = some d) (D : DefOk d G st) (F : Fun K d.name d.name st f fd)
    (all : ∀ f d, G.fd f = some d → Stands P w K mg base T G n f d) (bl : ∀ x ∈ bltNames, mg x = none) (gls : GlsOk mg G.gl) (cls : ∀ c d, lkC G.cl c = some d → ClsOk P w K mg base T c d) (cln : ∀ p ∈ G.cl, lkC G.cl p.1 = some p.2) (fad : ∀ f a, T.fa f = some a → ∃ d, G.fd f = some d) : FnOk P w K mg base (L2.CX P w) (n + 1) f fd (d.names.take d.many) (spF T G (n + 1) fid) := by
  have hlt : (d.names.take d.many).length = d.many := by rw [List.length_take]; have := D.many; omega
  refine F.okX D.scope (fun vs H Q E h => ?_) fun cdv A outer s H vs Q E hr hsp => ?_
  · obtain ⟨d', ms, ts, e1, l1, l2, _, _⟩ := h
    rw [hd] at e1
    cases e1
    rw [hlt, l2, l1]
  · obtain ⟨d', ms, ts, e1, l1, l2, hl, k⟩ := hsp
    rw [hd] at e1
    cases e1
    generalize hX : cxOf (L2.CX P w) P w K mg base d.names d.name (defScope st) f cdv A outer s H E = X
    have A1 : At X T G n (fun cls dd _ H => E cls dd H) := by
      subst hX
      exact { hK := hK, nd := D.scope.nd, rm := hr, tk := takes_of rfl rfl rfl rfl, calm := rfl, fns := all, bl := bl, gls := gls, pa := passes_of rfl, cls := cls, cln := cln, fad := fad }
    have F1 : Fit { sc := defScope st, own := defScope st, N := d.names, fd := G.fd, gl := G.gl, cl := G.cl, top := true, lk := fun i => decide (i ∈ d.lock) } G X := by
      subst hX
      exact { sc := rfl, N := rfl, fd := rfl, gl := rfl, cl := rfl, frm := fun _ => ⟨rfl, rfl, rfl⟩, sto := fun x h => ⟨loc_of (C := { sc := defScope st, own := defScope st, N := d.names, fd := G.fd, gl := G.gl, cl := G.cl, top := true, lk := fun i => decide (i ∈ d.lock) }) h, .inl rfl⟩ }
    refine ⟨_, chkB_ok A1 F1 D.body, ?_⟩
    have hvl : vs.length = d.many := l2.trans l1
    obtain ⟨s1, s2⟩ := start_slots (ms := ms) (vs := vs) (k := d.names.length - d.many) l2
    have est : L2.start d.names vs = vs.map some ++ List.replicate (d.names.length - d.many) none := by
      unfold L2.start; rw [hvl]
    rw [est]
    refine ⟨ms.map some ++ List.replicate (d.names.length - d.many) none, ts, s2, by rw [s1]; exact hl, ?_⟩
    have efn : (G.th (n + 1)).fn fid ms = runF (G.th n) d ms := by simp [Pg.th, hd]
    rw [efn] at k
    unfold runF at k
    rw [if_pos l1] at k
    generalize hz : evSs (G.th n) d.body (ms.map some ++ List.replicate (d.names.length - d.many) none) = zz at k
    have key : ∀ {r : Env} {as : List M} {q' : L2.St}, argsOf d.lock d.many 0 r = some as → Cons r q' → Lk (fun i => decide (i ∈ d.lock) = true) (vs.map some ++ List.replicate (d.names.length - d.many) none) q' → ∃ rest, (slots r q').Perm (lkP d.lock 0 as vs ++ rest) := fun {r as q'} e c lk => by
      refine lkP_of e hvl c fun j hj hjk => ?_
      rw [Nat.zero_add] at hj ⊢
      rw [lk j (decide_eq_true hj)]
      rw [List.getElem?_append_left (by rw [List.length_map, hvl]; exact hjk)]
    cases zz with
    | ok fl r =>
      cases fl with
      | nx =>
        intro q' H' c lk l'
        simp only at k
        cases e : argsOf d.lock d.many 0 r with
        | none => rw [e] at k; exact False.elim k
        | some as =>
          rw [e] at k
          obtain ⟨rest, hp⟩ := key e c lk
          exact k .non H' (Live.plain (keep_front (fr := []) hp l') rfl)
      | bk => exact False.elim k
      | ret m =>
        intro v q' H' c lk l'
        simp only at k
        cases e : argsOf d.lock d.many 0 r with
        | none => rw [e] at k; exact False.elim k
        | some as =>
          rw [e] at k
          obtain ⟨rest, hp⟩ := key e c lk
          exact k v H' (keep_front (fr := [(m, v)]) hp l')
    | exc wv r =>
      intro cls dd q' H' c lk l'
      simp only at k
      cases e : argsOf d.lock d.many 0 r with
      | none => rw [e] at k; exact False.elim k
      | some as =>
        rw [e] at k
        obtain ⟨rest, hp⟩ := key e c lk
        exact k cls dd H' (l'.less fun kk hk => keep_front hp hk)
    | stuck => exact False.elim k
/-- a def's facts in the module -/
structure Row (K : PySem.W.Frag) (mg : Str → Option Value) (T : Tb) (G : Pg) (fid : Nat) (d : FD) : Prop where
  ex : ∃ (st : Stmt) (f : Addr) (fd : FuncData), T.fa fid = some f ∧ mg d.name = some (.ref f) ∧ Fun K d.name d.name st f fd ∧ Binds K fd (d.names.take d.many) [] ∧ DefOk d G st ∧
    ∀ np ks pm, (np, ks, pm) ∈ d.kw → KBinds K fd (d.names.take d.many) ks (gK np ks.length pm) (gK np ks.length pm)
theorem fn_zero {f : Nat} {a : Addr} {fd : FuncData} {ps : List Str} : FnOk P w K mg base (L2.CX P w) 0 a fd ps (spF T G 0 f) where
  len := fun vs H Q E h => by obtain ⟨d, ms, ts, _, _, _, _, k⟩ := h; exact False.elim k
  run := fun A outer s H args us vs Q E _ _ _ _ h => by obtain ⟨d, ms, ts, _, _, _, _, k⟩ := h; exact False.elim k
theorem stands_all (hK : K = T.K) (rows : ∀ f d, G.fd f = some d → Row K mg T G f d) (bl : ∀ x ∈ bltNames, mg x = none) (gls : GlsOk mg G.gl) (cls : ∀ c d, lkC G.cl c = some d → ClsOk P w K mg base T c d) (cln : ∀ p ∈ G.cl, lkC G.cl p.1 = some p.2) (fad : ∀ f a, T.fa f = some a → ∃ d, G.fd f = some d) : ∀ n f d, G.fd f = some d → Stands P w K mg base T G n f d
  | 0, f, d, h => by
    obtain ⟨st, a, fd, h1, h2, h3, h4, h5, h6⟩ := (rows f d h).ex
    exact ⟨a, fd, h1, h2, h3.kp, h4, fn_zero, h6⟩
  | n + 1, f, d, h => by
    obtain ⟨st, a, fd, h1, h2, h3, h4, h5, h6⟩ := (rows f d h).ex
    exact ⟨a, fd, h1, h2, h3.kp, h4, def_ok hK h h5 h3 (stands_all hK rows bl gls cls cln fad n) bl gls cls cln fad, h6⟩
end
end Dn
-- Dn24
set_option maxRecDepth 100000
set_option maxHeartbeats 4000000
/-! The module's rows, and the law's end. -/
namespace Dn
open PySem PySem.Spec PyProof.Rows L2
/-- the program: its defs by number -/
def lkF : List (Nat × FD) → Nat → Option FD
  | [], _ => none
  | (i, d) :: l, j => if i = j then some d else lkF l j
def pg (defs : List (Nat × FD)) (gl : List (Str × W)) (cl : List (Nat × CD)) (fuel : Nat) : Pg := ⟨lkF defs, gl, cl, fuel⟩
/-- the table by the written part alone -/
def tb (K : PySem.W.Frag) (defs : List (Nat × FD)) (cl : List (Nat × CD)) : Tb :=
  ⟨K, fun f => (lkF defs f).bind fun d => match PySem.W.nsIn K mainGlobals d.name with
    | some (some (.ref a)) => some a
    | _ => none, fun c => (lkC cl c).bind fun d => match PySem.W.nsIn K mainGlobals d.name with
    | some (some (.ref a)) => some a
    | _ => none⟩
section
variable {K : PySem.W.Frag} {h : Heap} {mg : Str → Option Value} {defs : List (Nat × FD)} {gl : List (Str × W)} {cl : List (Nat × CD)} {fuel : Nat}
theorem vals_at : ∀ {vs : List V} {us : List Value}, Vals vs us → ∀ i : Nat, (∃ (v : V) (u : Value), vs[i]? = some v ∧ us[i]? = some u ∧ RelV v u) ∨ (vs[i]? = none ∧ us[i]? = none)
  | _, _, .nil, i => .inr ⟨by simp, by simp⟩
  | _, _, .cons r t, 0 => .inl ⟨_, _, rfl, rfl, r⟩
  | _, _, .cons r t, i + 1 => by
    rcases vals_at t i with ⟨v, u, h1, h2, h3⟩ | ⟨h1, h2⟩
    · exact .inl ⟨v, u, by simpa using h1, by simpa using h2, h3⟩
    · exact .inr ⟨by simpa using h1, by simpa using h2⟩
theorem vals_pm {vs : List V} {us : List Value} (r : Vals vs us) : ∀ pm : List Nat, Vals (pmA pm vs) (pmA pm us)
  | [] => .nil
  | i :: pm => by
    have ih := vals_pm r pm
    unfold pmA at ih ⊢
    rcases vals_at r i with ⟨v, u, h1, h2, h3⟩ | ⟨h1, h2⟩
    · rw [List.filterMap_cons, List.filterMap_cons, h1, h2]
      exact .cons h3 ih
    · rw [List.filterMap_cons, List.filterMap_cons, h1, h2]
      exact ih
theorem vals_gK {np nk : Nat} {pm : List Nat} {vs zs : List V} {us ws : List Value} (r : Vals vs us) (r2 : Vals zs ws) : Vals (gK np nk pm vs zs) (gK np nk pm us ws) := by
  unfold gK
  rw [r.length, r2.length]
  split
  · exact vals_pm (r.append r2) pm
  · exact .nil
theorem kb_mk {x qual : Str} {st : Stmt} {f : Addr} {fd : FuncData} {ps ks : List Str} {np nk : Nat} {pm : List Nat} (F : Fun K x qual st f fd) (hk : ks.length = nk) (h0 : 0 < ps.length)
    (h : ∀ (kV doc pmv : Value) (an : Option Addr) (cdv ct : Value) (us ws : List Value), us.length = np → ws.length = nk → bindArgs (PySem.W.fnOf x qual (defArgs st) (defBody st) (defScope st) .none kV doc pmv an cdv ct) ⟨us, ks.zip ws⟩ = pure (ps.zip (pmA pm (us ++ ws)))) :
    KBinds K fd ps ks (gK np ks.length pm) (gK np ks.length pm) where
  to := fun s us ws _ hl => by
    obtain ⟨oc, od, kV, doc, pmv, an, cdv, ct, osl, rfl, lk, hcd⟩ := F.ex
    unfold gK at hl ⊢
    split at hl
    · rename_i hh
      rw [if_pos hh]
      exact .of_eq (h kV doc pmv an cdv ct us ws hh.1 (by rw [hh.2, hk]))
    · simp at hl
      omega
  rel := fun r r2 => vals_gK r r2
theorem row_mk {fid : Nat} {d : FD} {st : Stmt} {f : Addr} {oc : Value} {od an : Option Addr} {osl : Array (Option Value)} {kV doc pm cdv ct : Value} (X : K.In h) (Gm : h.Ns mainGlobals mg) (hd : lkF defs fid = some d)
    (a : PySem.W.nsIn K mainGlobals d.name = some (some (.ref f))) (l : K.lookup f = some ⟨oc, od, .func (PySem.W.fnOf d.name d.name (defArgs st) (defBody st) (defScope st) .none kV doc pm an cdv ct), osl⟩)
    (c : PySem.W.codeIn K cdv d.name = true) (k : PySem.W.keepIn K (.ref f) = true) (D : DefOk d (pg defs gl cl fuel) st)
    (b : ∀ (kV doc pm : Value) (an : Option Addr) (cdv ct : Value) (us : List Value), us.length = (d.names.take d.many).length → bindArgs (PySem.W.fnOf d.name d.name (defArgs st) (defBody st) (defScope st) .none kV doc pm an cdv ct) ⟨us, []⟩ = pure ((d.names.take d.many).zip us))
    (kb : ∀ fd, Fun K d.name d.name st f fd → ∀ np ks pm, (np, ks, pm) ∈ d.kw → KBinds K fd (d.names.take d.many) ks (gK np ks.length pm) (gK np ks.length pm)) : Row K mg (tb K defs cl) (pg defs gl cl fuel) fid d := by
  have F := fun_mk (st := st) l c k
  refine ⟨st, f, _, ?_, PySem.W.mg_of X Gm a, F, F.binds b, D, kb _ F⟩
  show ((lkF defs fid).bind fun d => match PySem.W.nsIn K mainGlobals d.name with
    | some (some (.ref a)) => some a
    | _ => none) = some f
  rw [hd]
  simp [a]
/-- the rows of a list -/
def Rows' (K : PySem.W.Frag) (mg : Str → Option Value) (T : Tb) (G : Pg) : List (Nat × FD) → Prop
  | [] => True
  | (i, d) :: l => Row K mg T G i d ∧ Rows' K mg T G l
theorem rows_all {T : Tb} {G : Pg} : ∀ {l : List (Nat × FD)}, Rows' K mg T G l → ∀ f d, lkF l f = some d → Row K mg T G f d
  | [], _, f, d, h => by cases h
  | (i, d') :: l, r, f, d, h => by
    unfold lkF at h
    split at h
    · rename_i e
      cases h
      subst e
      exact r.1
    · exact rows_all r.2 f d h
theorem fad_tb {f : Nat} {a : Addr} (h : (tb K defs cl).fa f = some a) : ∃ d, lkF defs f = some d := by
  obtain ⟨d, h1, _⟩ := Option.bind_eq_some_iff.mp (show ((lkF defs f).bind fun d => match PySem.W.nsIn K mainGlobals d.name with
    | some (some (.ref a)) => some a
    | _ => none) = some a from h)
  exact ⟨d, h1⟩
theorem ca_tb {c : Nat} {d : CD} {C : Addr} (hd : lkC cl c = some d) (a : PySem.W.nsIn K mainGlobals d.name = some (some (.ref C))) : (tb K defs cl).ca c = some C := by
  show ((lkC cl c).bind fun d => match PySem.W.nsIn K mainGlobals d.name with
    | some (some (.ref a)) => some a
    | _ => none) = some C
  rw [hd]
  simp [a]
/-- the classes of a list -/
def Cls' (P : Program) (w : World) (K : PySem.W.Frag) (mg : Str → Option Value) (base : Heap) (T : Tb) : List (Nat × CD) → Prop
  | [] => True
  | (i, d) :: l => ClsOk P w K mg base T i d ∧ Cls' P w K mg base T l
theorem cls_all {P : Program} {w : World} {base : Heap} {T : Tb} : ∀ {l : List (Nat × CD)}, Cls' P w K mg base T l → ∀ c d, lkC l c = some d → ClsOk P w K mg base T c d
  | [], _, c, d, h => by cases h
  | (i, d') :: l, r, c, d, h => by
    unfold lkC at h
    split at h
    · rename_i e
      cases h
      subst e
      exact r.1
    · exact cls_all r.2 c d h
/-- a class whose __init__ stores one field -/
theorem cls_mk1 {P : Program} {w : World} {base : Heap} {c : Nat} {d : CD} {f qual : Str} {C fI N : Addr} {q : Str} {bs : List Value} {sn : List Str} {sub : List Value} {ab : Bool} {col : Option Bool} {dd : Option Addr} {k0 k1 k2 k3 k5 : Option Value}
    {st : Stmt} {oc : Value} {od an : Option Addr} {osl : Array (Option Value)} {kV doc pm cdv ct : Value} {p1 p2 p3 p4 p5 p6 p7 p8 p9 p10 : Pos} {pl : PySem.Env → Sem Bool}
    (X : K.In h) (Gm : h.Ns mainGlobals mg) (hd : lkC cl c = some d) (hf : d.fs = [f])
    (a : PySem.W.nsIn K mainGlobals d.name = some (some (.ref C))) (l : K.lookup C = some (excClassObj d.name q C N bs (baTl d.base) true sn sub ab col dd k0 k1 k2 k3 k5 (baNew d.base)))
    (c1 : PySem.W.keepIn K (.ref C) = true) (c2 : PySem.W.findIn K (.ref C) "__setattr__" = some (some (.builtin "object.__setattr__"))) (c3 : PySem.W.findIn K (.ref C) "__getattribute__" = some (some (.builtin "BaseException.__getattribute__")))
    (c4 : PySem.W.findIn K (.ref C) "__getattr__" = some none) (c5 : PySem.W.findIn K (.ref C) "__class__" = some (some (.builtin "object.__class__"))) (c6 : PySem.W.specialIn K (.builtin "object.__class__") "__get__" = some (some (.builtin "getset_descriptor.__get__")))
    (c7 : PySem.W.takesIn K (.builtin "object.__class__") = some true) (c8 : PySem.W.findIn K (.ref C) f = some none) (c9 : PySem.W.findIn K (.ref C) "__init__" = some (some (.ref fI))) (c10 : PySem.W.typeIn K (.ref fI) = some (.type "function"))
    (l2 : K.lookup fI = some ⟨oc, od, .func (PySem.W.fnOf "__init__" qual (defArgs st) (defBody st) (defScope st) .none kV doc pm an cdv ct), osl⟩) (c11 : PySem.W.codeIn K cdv qual = true) (c12 : PySem.W.keepIn K (.ref fI) = true)
    (zb : mg (baN d.base) = none) (vV : PySem.W.findCls K (.type (baN d.base)) (.type "type") "__init__" = some (.val (.builtin (baInit d.base))))
    (S : FnScope ["self", f] ["self", f] (defScope st))
    (hb : defBody st = [.Expr (.Call (.Attribute (.Name (baN d.base) p1) "__init__" p2) [.Name "self" p3, .Name f p4] [] p5) p6, .Assign [.Attribute (.Name "self" p7) f p8] (.Name f p9) p10])
    (h1 : (defScope st).names.lookup ("self" : Str) = some .local) (h2 : (defScope st).names.lookup f = some .local) (hg : (defScope st).names.lookup (baN d.base : Str) = some .globalImplicit)
    (d1 : (f == ("__debug__" : Str)) = false) (d2 : (f == ("__classdict__" : Str)) = false)
    (hc : ∀ env, eval (.Call (.Attribute (.Name (baN d.base) p1) "__init__" p2) [.Name "self" p3, .Name f p4] [] p5) env = (do
      let ov ← eval (.Name (baN d.base) p1) env
      standAt p2.atName
      let (f', first) ← holding [ov] (getMethod ov "__init__" (pl env))
      callWith p5 f' first (backTo p5 (starEach [.Name "self" p3, .Name f p4] env)) (backToKw p5 (keywordEach [] env))))
    (hs1 : ∀ env, swapsWith (.Call (.Attribute (.Name (baN d.base) p1) "__init__" p2) [.Name "self" p3, .Name f p4] [] p5) none p6.line env = pure false)
    (hs2 : ∀ env, swapsWith (.Name f p9) (some (.Attribute (.Name "self" p7) f p8)) p10.line env = pure false)
    (b : ∀ (kV doc pm : Value) (an : Option Addr) (cdv ct : Value) (us : List Value), us.length = 2 → bindArgs (PySem.W.fnOf "__init__" qual (defArgs st) (defBody st) (defScope st) .none kV doc pm an cdv ct) ⟨us, []⟩ = pure ([("self" : Str), f].zip us)) :
    ClsOk P w K mg base (tb K defs cl) c d := by
  have F : Fun K "__init__" qual st fI _ := fun_mk (st := st) l2 c11 c12
  exact ⟨⟨C, q, N, bs, sn, sub, ab, col, dd, k0, k1, k2, k3, k5, ca_tb hd a, PySem.W.mg_of X Gm a, l, c1, c2, c3, c4, c5, c6, c7, .inr ⟨f, fI, _, hf, c8, c9, c10, init_ok (k := 0) (ba_of d.base) F S hb h1 h2 hg zb vV d1 d2 hc hs1 hs2, F.binds b⟩⟩⟩
/-- a class without __init__ -/
theorem cls_mk0 {P : Program} {w : World} {base : Heap} {c : Nat} {d : CD} {C N : Addr} {q : Str} {bs : List Value} {sn : List Str} {sub : List Value} {ab : Bool} {col : Option Bool} {dd : Option Addr} {k0 k1 k2 k3 k5 : Option Value}
    (X : K.In h) (Gm : h.Ns mainGlobals mg) (hd : lkC cl c = some d) (hf : d.fs = [])
    (a : PySem.W.nsIn K mainGlobals d.name = some (some (.ref C))) (l : K.lookup C = some (excClassObj d.name q C N bs (baTl d.base) true sn sub ab col dd k0 k1 k2 k3 k5 (baNew d.base)))
    (c1 : PySem.W.keepIn K (.ref C) = true) (c2 : PySem.W.findIn K (.ref C) "__setattr__" = some (some (.builtin "object.__setattr__"))) (c3 : PySem.W.findIn K (.ref C) "__getattribute__" = some (some (.builtin "BaseException.__getattribute__")))
    (c4 : PySem.W.findIn K (.ref C) "__getattr__" = some none) (c5 : PySem.W.findIn K (.ref C) "__class__" = some (some (.builtin "object.__class__"))) (c6 : PySem.W.specialIn K (.builtin "object.__class__") "__get__" = some (some (.builtin "getset_descriptor.__get__")))
    (c7 : PySem.W.takesIn K (.builtin "object.__class__") = some true) (c8 : PySem.W.excIn K C (baTl d.base) (baNew d.base) = true) : ClsOk P w K mg base (tb K defs cl) c d :=
  ⟨⟨C, q, N, bs, sn, sub, ab, col, dd, k0, k1, k2, k3, k5, ca_tb hd a, PySem.W.mg_of X Gm a, l, c1, c2, c3, c4, c5, c6, c7, .inl ⟨hf, c8⟩⟩⟩
/-- the law's promise from its meaning -/
theorem law_sp {G : Pg} {n fid : Nat} {d : FD} {T : Tb} {H : Hp} {a : Addr} {ns : List Int} {ms : List M} (hd : G.fd fid = some d) (hm : d.many = 1) (hS : SqL T.K H a (ns.map V.int)) (e : (G.th n).fn fid [.im (.scr ns)] = .ok (.im (.bl true)) ms) :
    spF T G n fid [.ref a] H (fun v _ => v = .bl true) fun _ _ _ => False := by
  refine ⟨d, [.im (.scr ns)], [], hd, hm.symm, rfl, ⟨H, [] ++ [], Same.refl _, LV.cons (m := .im (.scr ns)) ⟨rfl, a, rfl, hS⟩ .nil (by simp)⟩, ?_⟩
  rw [e]
  exact fun v H' hl => hl.vbl
theorem no_cx {P : Program} {w : World} {H : Hp} {s : Shared} {e : Value} {s' : Shared} (h : L2.CX P w [] H s (fun _ _ _ => False) e s') : False := by
  obtain ⟨_, _, _, _, _, _, _, _, _, _, _, _, z⟩ := h
  exact z
end
end Dn
-- P1
set_option maxHeartbeats 200000
set_option maxRecDepth 100000
/-! Plain laws about the evaluator: comprehensions, equality of data. -/
namespace Dn
open PySem
/-- a comprehension without if, each turn alone -/
theorem compL_map {f : W → Env → R (Option W)} {g : W → W} {r : Env} : ∀ {ws acc : List W}, (∀ w ∈ ws, f w r = .ok (some (g w)) r) → acc.length + ws.length ≤ LIM → compL f ws r acc = .ok (acc ++ ws.map g) r
  | [], acc, _, _ => by simp [compL]
  | w :: ws, acc, h, hl => by
    have hl' : acc.length + (ws.length + 1) ≤ LIM := hl
    rw [compL, h w List.mem_cons_self]
    show (if acc.length < LIM then _ else _) = _
    rw [if_pos (by omega), compL_map (fun x hx => h x (List.mem_cons_of_mem _ hx)) (by rw [List.length_append]; show acc.length + 1 + ws.length ≤ LIM; omega)]
    simp
/-- .. with an if -/
theorem compL_filterMap {f : W → Env → R (Option W)} {g : W → Option W} {r : Env} : ∀ {ws acc : List W}, (∀ w ∈ ws, f w r = .ok (g w) r) → acc.length + ws.length ≤ LIM → compL f ws r acc = .ok (acc ++ ws.filterMap g) r
  | [], acc, _, _ => by simp [compL]
  | w :: ws, acc, h, hl => by
    have hl' : acc.length + (ws.length + 1) ≤ LIM := hl
    rw [compL, h w List.mem_cons_self]
    cases e : g w with
    | none =>
      show compL f ws r acc = _
      rw [compL_filterMap (fun x hx => h x (List.mem_cons_of_mem _ hx)) (by omega)]
      simp [e]
    | some x =>
      show (if acc.length < LIM then _ else _) = _
      rw [if_pos (by omega), compL_filterMap (fun x hx => h x (List.mem_cons_of_mem _ hx)) (by rw [List.length_append]; show acc.length + 1 + ws.length ≤ LIM; omega)]
      simp [e]
/-- a loop that goes through, by an invariant -/
theorem forL_inv {f : W → Env → R Fl} (Inv : Nat → Env → Prop) : ∀ {ws : List W} {r : Env} {i : Nat}, Inv i r → (∀ (j : Nat) (w : W) (r : Env), ws[j]? = some w → Inv (i + j) r → ∃ r', f w r = .ok .nx r' ∧ Inv (i + j + 1) r') → ∃ r', forL f ws r = .ok .nx r' ∧ Inv (i + ws.length) r'
  | [], r, i, h, _ => ⟨r, rfl, h⟩
  | w :: ws, r, i, h, hs => by
    obtain ⟨r1, e1, h1⟩ := hs 0 w r rfl h
    obtain ⟨r2, e2, h2⟩ := forL_inv Inv (ws := ws) (r := r1) (i := i + 1) h1 fun j w' r' hj hr => by
      have := hs (j + 1) w' r' (by simpa using hj) (by rw [show i + (j + 1) = i + 1 + j by omega]; exact hr)
      rw [show i + (j + 1) + 1 = i + 1 + j + 1 by omega] at this
      exact this
    refine ⟨r2, ?_, by rw [List.length_cons, show i + (ws.length + 1) = i + 1 + ws.length by omega]; exact h2⟩
    rw [forL, e1]
    exact e2
/-! ### data -/
inductive PD : Nat → W → Prop
  | non {n : Nat} : PD n .non
  | bl {n : Nat} (b : Bool) : PD n (.bl b)
  | int {n : Nat} (i : Int) : PD n (.int i)
  | str {n : Nat} (s : Str) : PyData.strOk s = true → PD n (.str s)
  | tup {n : Nat} {ws : List W} : ws.length ≤ LIM → (∀ w ∈ ws, PD n w) → PD (n + 1) (.tup ws)
  | lst {n : Nat} {ws : List W} : ws.length ≤ LIM → (∀ w ∈ ws, PD n w) → PD (n + 1) (.lst ws)
theorem toDs_of {n : Nat} : ∀ {ws : List W}, (∀ w ∈ ws, ∃ d, w.toD = some d ∧ d.canLay0 = true ∧ d.depth ≤ n + 1 ∧ PyData.eqv d d = true) → ∃ ds, W.toDs ws = some ds ∧ PyData.canLayAll0 ds = true ∧ PyData.depthAll ds ≤ n + 1 ∧ PyData.eqvAll ds ds = true
  | [], _ => ⟨[], rfl, rfl, by simp [PyData.depthAll], rfl⟩
  | w :: ws, h => by
    obtain ⟨d, h1, h2, h3, h4⟩ := h w List.mem_cons_self
    obtain ⟨ds, g1, g2, g3, g4⟩ := toDs_of (ws := ws) fun x hx => h x (List.mem_cons_of_mem _ hx)
    refine ⟨d :: ds, by simp [W.toDs, h1, g1], by simp [PyData.canLayAll0, h2, g2], ?_, by simp [PyData.eqvAll, h4, g4]⟩
    simp only [PyData.depthAll]
    omega
theorem PD.toD {n : Nat} {w : W} (h : PD n w) : ∃ d, w.toD = some d ∧ d.canLay0 = true ∧ d.depth ≤ n + 1 ∧ PyData.eqv d d = true := by
  induction h with
  | non => exact ⟨.none, rfl, rfl, by simp [PyData.depth], rfl⟩
  | bl b => exact ⟨.bool b, rfl, rfl, by simp [PyData.depth], by simp [PyData.eqv]⟩
  | int i => exact ⟨.int i, rfl, rfl, by simp [PyData.depth], by simp [PyData.eqv]⟩
  | str s hs => exact ⟨.str s, rfl, by simpa [PyData.canLay0] using hs, by simp [PyData.depth], by simp [PyData.eqv]⟩
  | tup hl h ih =>
    obtain ⟨ds, h1, h2, h3, h4⟩ := toDs_of ih
    exact ⟨.tuple ds, by simp [W.toD, h1], by simpa [PyData.canLay0] using h2, by simp [PyData.depth]; omega, by simpa [PyData.eqv] using h4⟩
  | lst hl h ih =>
    obtain ⟨ds, h1, h2, h3, h4⟩ := toDs_of ih
    exact ⟨.list ds, by simp [W.toD, h1], by simpa [PyData.canLay0] using h2, by simp [PyData.depth]; omega, by simpa [PyData.eqv] using h4⟩
theorem PD.shaped {n : Nat} {w : W} (h : PD n w) (hn : n ≤ 60) : ∃ d, w.toD = some d ∧ SeqAt.shaped d = true ∧ PyData.eqv d d = true := by
  obtain ⟨d, h1, h2, h3, h4⟩ := h.toD
  refine ⟨d, h1, ?_, h4⟩
  unfold SeqAt.shaped
  rw [h2]
  exact decide_eq_true (by omega)
theorem eqW_refl {n : Nat} {w : W} (h : PD n w) (hn : n ≤ 60) : eqW w w = some true := by
  obtain ⟨d, h1, h2, h3⟩ := h.shaped hn
  unfold eqW
  rw [h1]
  simp [h2, h3]
theorem eqW_of {n : Nat} {w u : W} (h : PD n w) (g : PD n u) (hn : n ≤ 60) : ∃ d e, w.toD = some d ∧ u.toD = some e ∧ eqW w u = some (PyData.eqv d e) := by
  obtain ⟨d, h1, h2, h3⟩ := h.shaped hn
  obtain ⟨e, g1, g2, g3⟩ := g.shaped hn
  refine ⟨d, e, h1, g1, ?_⟩
  unfold eqW
  rw [h1, g1]
  simp [h2, g2]
theorem toDs_ints : ∀ is : List Int, W.toDs (is.map W.int) = some (is.map PyData.int)
  | [] => rfl
  | i :: is => by simp [W.toDs, W.toD, toDs_ints is]
theorem eqv_ints : ∀ is js : List Int, PyData.eqvAll (is.map PyData.int) (js.map PyData.int) = decide (is = js)
  | [], [] => by simp [PyData.eqvAll]
  | [], _ :: _ => by simp [PyData.eqvAll]
  | _ :: _, [] => by simp [PyData.eqvAll]
  | i :: is, j :: js => by
    simp only [List.map_cons, PyData.eqvAll, PyData.eqv, eqv_ints is js]
    by_cases h : i = j
    · subst h; simp
    · simp [h]
theorem pd_ints {n : Nat} (is : List Int) (hl : is.length ≤ LIM) : PD (n + 1) (.tup (is.map W.int)) := .tup (by simpa using hl) fun w hw => by
  obtain ⟨i, _, rfl⟩ := List.mem_map.mp hw
  exact .int i
theorem eqW_ints (is js : List Int) (h : is.length ≤ LIM) (g : js.length ≤ LIM) : eqW (.tup (is.map W.int)) (.tup (js.map W.int)) = some (decide (is = js)) := by
  obtain ⟨d, e, h1, h2, h3⟩ := eqW_of (pd_ints (n := 0) is h) (pd_ints (n := 0) js g) (by decide)
  rw [h3]
  simp only [W.toD, toDs_ints, Option.map_some, Option.some.injEq] at h1 h2
  subst h1 h2
  simp [PyData.eqv, eqv_ints]
end Dn
-- P2
set_option maxRecDepth 100000
set_option maxHeartbeats 1000000
/-! The laws' own look: alike, kind by kind. -/
namespace Dn
open PySem
def b_same (f : Nat) : Ss := (.cons (.ite (.isi (.var 1) [.list, .tuple])
  (.cons (.ite (.dis (.cmp .ne (.isi (.var 0) [.list]) (.isi (.var 1) [.list])) (.cmp .ne (.isi (.var 0) [.tuple]) (.isi (.var 1) [.tuple])))
  (.cons (.ret (.cst (.bl false)))
  .nil)
  .nil)
  (.cons (.ret (.con (.cmp .eq (.bi .len (.cons (.var 0) .nil)) (.bi .len (.cons (.var 1) .nil))) (.bi .all (.cons (.comp [2, 3] (.tp [(.nm 2), (.nm 3)]) (.zip2 (.var 0) (.var 1)) .none (.call f (.val (.var 2) (.val (.var 3) .nil)))) .nil))))
  .nil))
  .nil)
  (.cons (.ite (.dis (.cmp .is_ (.var 1) (.cst .non)) (.isi (.var 1) [.bool, .str]))
  (.cons (.ret (.con (.cmp .eq (.var 0) (.var 1)) (.con (.cmp .eq (.isi (.var 0) [.bool]) (.isi (.var 1) [.bool])) (.cmp .eq (.cmp .is_ (.var 0) (.cst .non)) (.cmp .is_ (.var 1) (.cst .non))))))
  .nil)
  .nil)
  (.cons (.ret (.con (.isi (.var 0) [.int]) (.con (.inv (.isi (.var 0) [.bool])) (.cmp .eq (.var 0) (.var 1)))))
  .nil)))
theorem zipW_self : ∀ ws : List W, zipW ws ws = ws.map fun w => .tup [w, w]
  | [] => rfl
  | w :: ws => by simp [zipW, zipW_self ws]
theorem blsW_true : ∀ ws : List W, (blsW (ws.map fun _ => W.bl true)) = some (ws.map fun _ => true)
  | [] => rfl
  | w :: ws => by simp [blsW, blsW_true ws]
theorem all_true (ws : List W) : (ws.map fun _ => true).all id = true := by
  induction ws with
  | nil => rfl
  | cons w ws ih => simp
theorem eqW_bl (a b : Bool) : eqW (.bl a) (.bl b) = some (a == b) := by
  unfold eqW
  simp [W.toD, SeqAt.shaped, PyData.canLay0, PyData.depth, PyData.eqv]
theorem eqW_int (a b : Int) : eqW (.int a) (.int b) = some (a == b) := by
  unfold eqW
  simp [W.toD, SeqAt.shaped, PyData.canLay0, PyData.depth, PyData.eqv]
theorem eqW_non : eqW .non .non = some true := by
  unfold eqW
  simp [W.toD, SeqAt.shaped, PyData.canLay0, PyData.depth, PyData.eqv]
section
variable {P : Pg} {f n : Nat}
theorem same_seq (T : List W → W) (hT : T = .lst ∨ T = .tup) (ws : List W) (hl : ws.length ≤ LIM) (ih : ∀ w ∈ ws, (P.th n).fn f [.im w, .im w] = .ok (.im (.bl true)) [.im .non, .im .non]) :
    evSs (P.th n) (b_same f) [some (.im (T ws)), some (.im (T ws)), none, none] = .ok (.ret (.im (.bl true))) [some (.im (T ws)), some (.im (T ws)), none, none] := by
  have hc : ∀ (ff : W → Env → R (Option W)) (r : Env), (∀ w ∈ ws, ff (.tup [w, w]) r = .ok (some (.bl true)) r) → compL ff (ws.map fun w => .tup [w, w]) r [] = .ok (ws.map fun _ => .bl true) r := by
    intro ff r hf
    rw [compL_map (g := fun _ => .bl true) (fun w hw => by
      obtain ⟨u, hu, rfl⟩ := List.mem_map.mp hw
      exact hf u hu) (by simpa using hl)]
    simp [Function.comp_def]
  rcases hT with rfl | rfl
  all_goals
    simp only [b_same, evSs, evS, evE, evEs, evI, evO, evC, evA, R.bind, R.w, R.tru, R.int, R.ofO, getM, List.getElem?_cons_succ, List.getElem?_cons_zero, M.fz, List.set_cons_succ, List.set_cons_zero, List.length_cons, List.length_nil, List.map_cons, List.map_nil, List.append_nil, List.replicate, Nat.reduceAdd, Nat.reduceSub, List.cons_append, List.nil_append, if_true, if_false, Bool.false_eq_true, Option.map_some, Option.map_none, Option.bind_some, Option.isSome_some, truW, cmpW, binW, isTys, isTy, biW, wipeE, backE, bindT, bindTs, seqOf, zipS, callA, fillA, backA, borL, setT, parE, augW, idxW, idxM, slcM, lenM, mulOk, powOk, plainM, frzE, eqW_bl, eqW_int, zipW_self, Bool.or_false, Bool.or_true, Bool.false_or, Bool.true_or, Bool.not_true, Bool.not_false, beq_self_eq_true]
    rw [hc]
    · simp [evSs, evS, evE, evEs, evI, evO, evC, evA, R.bind, R.w, R.tru, R.int, R.ofO, getM, List.getElem?_cons_succ, List.getElem?_cons_zero, M.fz, List.set_cons_succ, List.set_cons_zero, List.length_cons, List.length_nil, List.map_cons, List.map_nil, List.append_nil, List.replicate, Nat.reduceAdd, Nat.reduceSub, List.cons_append, List.nil_append, if_true, if_false, Bool.false_eq_true, Option.map_some, Option.map_none, Option.bind_some, Option.isSome_some, truW, cmpW, binW, isTys, isTy, biW, wipeE, backE, bindT, bindTs, seqOf, zipS, callA, fillA, backA, borL, setT, parE, augW, idxW, idxM, slcM, lenM, mulOk, powOk, plainM, frzE, blsW_true, all_true]
    · intro w hw
      simp [evSs, evS, evE, evEs, evI, evO, evC, evA, R.bind, R.w, R.tru, R.int, R.ofO, getM, List.getElem?_cons_succ, List.getElem?_cons_zero, M.fz, List.set_cons_succ, List.set_cons_zero, List.length_cons, List.length_nil, List.map_cons, List.map_nil, List.append_nil, List.replicate, Nat.reduceAdd, Nat.reduceSub, List.cons_append, List.nil_append, if_true, if_false, Bool.false_eq_true, Option.map_some, Option.map_none, Option.bind_some, Option.isSome_some, truW, cmpW, binW, isTys, isTy, biW, wipeE, backE, bindT, bindTs, seqOf, zipS, callA, fillA, backA, borL, setT, parE, augW, idxW, idxM, slcM, lenM, mulOk, powOk, plainM, frzE, ih w hw]
theorem same_flat {k : Nat} {w : W} (hw : PD k w) (h1 : ∀ ws, w ≠ .lst ws) (h2 : ∀ ws, w ≠ .tup ws) (hk : k ≤ 60) {h : Th} :
    evSs h (b_same f) [some (.im w), some (.im w), none, none] = .ok (.ret (.im (.bl true))) [some (.im w), some (.im w), none, none] := by
  have er := eqW_refl hw hk
  cases hw with
  | non => simp [b_same, evSs, evS, evE, evEs, evI, evO, evC, evA, R.bind, R.w, R.tru, R.int, R.ofO, getM, List.getElem?_cons_succ, List.getElem?_cons_zero, M.fz, List.set_cons_succ, List.set_cons_zero, List.length_cons, List.length_nil, List.map_cons, List.map_nil, List.append_nil, List.replicate, Nat.reduceAdd, Nat.reduceSub, List.cons_append, List.nil_append, if_true, if_false, Bool.false_eq_true, Option.map_some, Option.map_none, Option.bind_some, Option.isSome_some, truW, cmpW, binW, isTys, isTy, biW, wipeE, backE, bindT, bindTs, seqOf, zipS, callA, fillA, backA, borL, setT, parE, augW, idxW, idxM, slcM, lenM, mulOk, powOk, plainM, frzE, isNon, eqW_bl, er]
  | bl b => simp [b_same, evSs, evS, evE, evEs, evI, evO, evC, evA, R.bind, R.w, R.tru, R.int, R.ofO, getM, List.getElem?_cons_succ, List.getElem?_cons_zero, M.fz, List.set_cons_succ, List.set_cons_zero, List.length_cons, List.length_nil, List.map_cons, List.map_nil, List.append_nil, List.replicate, Nat.reduceAdd, Nat.reduceSub, List.cons_append, List.nil_append, if_true, if_false, Bool.false_eq_true, Option.map_some, Option.map_none, Option.bind_some, Option.isSome_some, truW, cmpW, binW, isTys, isTy, biW, wipeE, backE, bindT, bindTs, seqOf, zipS, callA, fillA, backA, borL, setT, parE, augW, idxW, idxM, slcM, lenM, mulOk, powOk, plainM, frzE, isNon, eqW_bl, er]
  | int i => simp [b_same, evSs, evS, evE, evEs, evI, evO, evC, evA, R.bind, R.w, R.tru, R.int, R.ofO, getM, List.getElem?_cons_succ, List.getElem?_cons_zero, M.fz, List.set_cons_succ, List.set_cons_zero, List.length_cons, List.length_nil, List.map_cons, List.map_nil, List.append_nil, List.replicate, Nat.reduceAdd, Nat.reduceSub, List.cons_append, List.nil_append, if_true, if_false, Bool.false_eq_true, Option.map_some, Option.map_none, Option.bind_some, Option.isSome_some, truW, cmpW, binW, isTys, isTy, biW, wipeE, backE, bindT, bindTs, seqOf, zipS, callA, fillA, backA, borL, setT, parE, augW, idxW, idxM, slcM, lenM, mulOk, powOk, plainM, frzE, isNon, eqW_bl, er]
  | str s hs => simp [b_same, evSs, evS, evE, evEs, evI, evO, evC, evA, R.bind, R.w, R.tru, R.int, R.ofO, getM, List.getElem?_cons_succ, List.getElem?_cons_zero, M.fz, List.set_cons_succ, List.set_cons_zero, List.length_cons, List.length_nil, List.map_cons, List.map_nil, List.append_nil, List.replicate, Nat.reduceAdd, Nat.reduceSub, List.cons_append, List.nil_append, if_true, if_false, Bool.false_eq_true, Option.map_some, Option.map_none, Option.bind_some, Option.isSome_some, truW, cmpW, binW, isTys, isTy, biW, wipeE, backE, bindT, bindTs, seqOf, zipS, callA, fillA, backA, borL, setT, parE, augW, idxW, idxM, slcM, lenM, mulOk, powOk, plainM, frzE, isNon, eqW_bl, er]
  | tup _ _ => exact absurd rfl (h2 _)
  | lst _ _ => exact absurd rfl (h1 _)
theorem argsOf_none2 {r : Env} : argsOf [] 2 0 r = some [.im .non, .im .non] := by simp [argsOf]
theorem same_ev {d : FD} (hP : P.fd f = some d) (hb : d.body = b_same f) (hm : d.many = 2) (hnm : d.names.length = 4) (hlk : d.lock = []) : ∀ (k : Nat) (w : W), PD k w → k ≤ 60 → ∀ m, k < m → (P.th m).fn f [.im w, .im w] = .ok (.im (.bl true)) [.im .non, .im .non] := by
  have run : ∀ (n : Nat) (w : W), evSs (P.th n) (b_same f) [some (.im w), some (.im w), none, none] = .ok (.ret (.im (.bl true))) [some (.im w), some (.im w), none, none] → (P.th (n + 1)).fn f [.im w, .im w] = .ok (.im (.bl true)) [.im .non, .im .non] := by
    intro n w e
    simp only [Pg.th, hP, runF, hb, hm, hnm, hlk, List.length_cons, List.length_nil, Nat.reduceAdd, Nat.reduceSub, if_true, List.map_cons, List.map_nil, List.replicate, List.cons_append, List.nil_append, e, argsOf_none2]
  intro k
  induction k with
  | zero =>
    intro w hw hk m hm
    obtain ⟨n, rfl⟩ : ∃ n, m = n + 1 := ⟨m - 1, by omega⟩
    refine run n w (same_flat hw ?_ ?_ hk)
    · intro ws e; subst e; cases hw
    · intro ws e; subst e; cases hw
  | succ k ih =>
    intro w hw hk m hm
    obtain ⟨n, rfl⟩ : ∃ n, m = n + 1 := ⟨m - 1, by omega⟩
    by_cases h1 : ∃ ws, w = .lst ws
    · obtain ⟨ws, rfl⟩ := h1
      cases hw with
      | lst hl hs => exact run n _ (same_seq .lst (.inl rfl) ws hl fun u hu => ih u (hs u hu) (by omega) n (by omega))
    · by_cases h2 : ∃ ws, w = .tup ws
      · obtain ⟨ws, rfl⟩ := h2
        cases hw with
        | tup hl hs => exact run n _ (same_seq .tup (.inr rfl) ws hl fun u hu => ih u (hs u hu) (by omega) n (by omega))
      · exact run n w (same_flat hw (fun ws e => h1 ⟨ws, e⟩) (fun ws e => h2 ⟨ws, e⟩) hk)
end
end Dn
-- P3
set_option maxRecDepth 100000
set_option maxHeartbeats 4000000
/-! The laws' draws. -/
namespace Dn
open PySem
def b_take (f : Nat) : Ss := (.cons (.ite (.pur (.cmp .gt (.pidx 0 [] (.cst (.int 0))) (.cst (.int 0))))
  (.cons (.set (.nm 2) (.bin .mod (.pidx 0 [] (.cst (.int 0))) (.var 1)))
  (.cons (.seti 0 [] (.cst (.int 0)) (.bin .fdiv (.pidx 0 [] (.cst (.int 0))) (.var 1)))
  (.cons (.retv 2)
  .nil)))
  .nil)
  (.cons (.ite (.cmp .gt (.var 1) (.bin .pow (.cst (.int 10)) (.cst (.int 7))))
  (.cons (.ret (.bin .mod (.bin .add (.call f (.bor 0 (.val (.frz (.bin .pow (.cst (.int 10)) (.cst (.int 7)))) .nil))) (.bin .mul (.bin .pow (.cst (.int 10)) (.cst (.int 7))) (.call f (.bor 0 (.val (.frz (.bin .add (.bin .fdiv (.bin .sub (.var 1) (.cst (.int 1))) (.bin .pow (.cst (.int 10)) (.cst (.int 7)))) (.cst (.int 1)))) .nil))))) (.var 1)))
  .nil)
  .nil)
  (.cons (.seti 0 [] (.cst (.int 2)) (.bin .add (.pidx 0 [] (.cst (.int 2))) (.cst (.int 1))))
  (.cons (.set (.nm 3) (.bin .mod (.bin .mul (.bin .add (.pidx 0 [] (.cst (.int 1))) (.bin .mul (.cst (.int 48271)) (.pidx 0 [] (.cst (.int 2))))) (.bin .add (.cst (.int 39373)) (.pidx 0 [] (.cst (.int 2))))) (.cst (.int 2147483647))))
  (.cons (.set (.nm 4) (.bin .mod (.bin .mul (.bin .add (.bin .add (.var 3) (.pidx 0 [] (.cst (.int 2)))) (.bin .fdiv (.pidx 0 [] (.cst (.int 1))) (.cst (.int 1000003)))) (.bin .add (.bin .mod (.var 3) (.cst (.int 40009))) (.cst (.int 7)))) (.cst (.int 2147483629))))
  (.cons (.ret (.bin .mod (.bin .fdiv (.bin .mod (.bin .add (.bin .mul (.var 4) (.cst (.int 48271))) (.var 3)) (.cst (.int 2147483587))) (.cst (.int 64))) (.var 1)))
  .nil))))))
theorem mul_r {i j : Int} (h1 : -(2 ^ 64) < j) (h2 : j < 2 ^ 64) : mulOk i j = true := by
  unfold mulOk
  rw [decide_eq_true (p := -(2 ^ 64) < j ∧ j < 2 ^ 64) ⟨h1, h2⟩, Bool.or_true]
theorem mul_l {i j : Int} (h1 : -(2 ^ 64) < i) (h2 : i < 2 ^ 64) : mulOk i j = true := by
  unfold mulOk
  rw [decide_eq_true (p := -(2 ^ 64) < i ∧ i < 2 ^ 64) ⟨h1, h2⟩, Bool.true_or]
theorem at3 (a b c : W) : ixW [a, b, c] 0 = some a ∧ ixW [a, b, c] 1 = some b ∧ ixW [a, b, c] 2 = some c := ⟨rfl, rfl, rfl⟩
theorem ix3 : L2.ixN 3 0 = some 0 ∧ L2.ixN 3 1 = some 1 ∧ L2.ixN 3 2 = some 2 := ⟨rfl, rfl, rfl⟩
theorem pow107 : powOk 10 7 = true := by decide
/-- a box of draws -/
def bx (i j k : Int) : M := .ls [.int i, .int j, .int k]
section
variable {P : Pg} {f n : Nat}
theorem take_big {h : Th} {i j k s : Int} (hi : 0 < i) (hs : 0 < s) (hs2 : s ≤ 10000000) :
    evSs h (b_take f) [some (bx i j k), some (.im (.int s)), none, none, none] = .ok (.ret (.im (.int (i % s)))) [some (bx (i / s) j k), some (.im (.int s)), none, none, none] := by
  have h1 : s < 1073741824 := by omega
  simp [b_take, bx, evSs, evS, evE, evEs, evI, evO, evC, evA, R.bind, R.w, R.tru, R.int, R.ofO, getM, List.getElem?_cons_succ, List.getElem?_cons_zero, M.fz, List.set_cons_succ, List.set_cons_zero, List.length_cons, List.length_nil, List.map_cons, List.map_nil, List.append_nil, List.replicate, Nat.reduceAdd, Nat.reduceSub, List.cons_append, List.nil_append, if_true, if_false, Bool.false_eq_true, Option.map_some, Option.map_none, Option.bind_some, Option.isSome_some, truW, cmpW, binW, isTys, isTy, biW, wipeE, backE, bindT, bindTs, seqOf, zipS, callA, fillA, backA, borL, setT, parE, augW, idxW, idxM, slcM, lenM, mulOk, powOk, plainM, frzE, at3, ix3, hi, hs, h1]
theorem take_small {h : Th} {j k s : Int} (hk : 0 ≤ k) (hk2 : k < 2 ^ 62) (hs : 0 < s) (hs2 : s ≤ 10000000) :
    ∃ r x y, evSs h (b_take f) [some (bx 0 j k), some (.im (.int s)), none, none, none] = .ok (.ret (.im (.int r))) [some (bx 0 j (k + 1)), some (.im (.int s)), none, x, y] ∧ 0 ≤ r ∧ r < s := by
  have h1 : ¬ ((10 : Int) ^ 7 < s) := by omega
  have m1 : mulOk 48271 (k + 1) = true := mul_l (by decide) (by decide)
  have m2 : mulOk (j + 48271 * (k + 1)) (39373 + (k + 1)) = true := mul_r (by omega) (by omega)
  generalize ho : (j + 48271 * (k + 1)) * (39373 + (k + 1)) % 2147483647 = once
  have m3 : mulOk (once + (k + 1) + j / 1000003) (once % 40009 + 7) = true := mul_r (by omega) (by omega)
  generalize hw : (once + (k + 1) + j / 1000003) * (once % 40009 + 7) % 2147483629 = twice
  have m4 : mulOk twice 48271 = true := mul_r (by decide) (by decide)
  refine ⟨(twice * 48271 + once) % 2147483587 / 64 % s, some (.im (.int once)), some (.im (.int twice)), ?_, Int.emod_nonneg _ (by omega), Int.emod_lt_of_pos _ hs⟩
  have p7 : powOk 10 7 = true := by decide
  have e7 : (10 : Int) ^ (7 : Int).toNat = 10000000 := by decide
  have h2 : ¬ ((10000000 : Int) < s) := by omega
  simp [b_take, bx, evSs, evS, evE, evEs, evI, evO, evC, evA, R.bind, R.w, R.tru, R.int, R.ofO, getM, List.getElem?_cons_succ, List.getElem?_cons_zero, M.fz, List.set_cons_succ, List.set_cons_zero, List.length_cons, List.length_nil, List.map_cons, List.map_nil, List.append_nil, List.replicate, Nat.reduceAdd, Nat.reduceSub, List.cons_append, List.nil_append, if_true, if_false, Bool.false_eq_true, Option.map_some, Option.map_none, Option.bind_some, Option.isSome_some, truW, cmpW, binW, isTys, isTy, biW, wipeE, backE, bindT, bindTs, seqOf, zipS, callA, fillA, backA, borL, setT, parE, augW, idxW, idxM, slcM, lenM, plainM, frzE, at3, ix3, p7, e7, h2, m1, m2, m3, m4, ho, hw, hs]
/-- a draw of no more than ten millions -/
theorem take_ev {d : FD} (hP : P.fd f = some d) (hb : d.body = b_take f) (hm : d.many = 2) (hnm : d.names.length = 5) (hlk : d.lock = [0]) {i j k s : Int} (hi : 0 ≤ i) (hk : 0 ≤ k) (hk2 : k < 2 ^ 62) (hs : 0 < s) (hs2 : s ≤ 10000000) :
    ∃ r i' k', (P.th (n + 1)).fn f [bx i j k, .im (.int s)] = .ok (.im (.int r)) [bx i' j k', .im .non] ∧ 0 ≤ r ∧ r < s ∧ 0 ≤ i' ∧ k ≤ k' ∧ k' ≤ k + 1 := by
  by_cases h0 : i = 0
  · subst h0
    obtain ⟨r, x, y, e, h1, h2⟩ := take_small (f := f) (h := P.th n) (j := j) hk hk2 hs hs2
    refine ⟨r, 0, k + 1, ?_, h1, h2, by omega, by omega, by omega⟩
    simp [Pg.th, hP, runF, hb, hm, hnm, hlk, List.replicate, e, argsOf, getM]
  · have h1 : 0 < i := by omega
    have e := take_big (f := f) (h := P.th n) (j := j) (k := k) h1 hs hs2
    refine ⟨i % s, i / s, k, ?_, Int.emod_nonneg _ (by omega), Int.emod_lt_of_pos _ hs, Int.ediv_nonneg (by omega) (by omega), by omega, by omega⟩
    simp [Pg.th, hP, runF, hb, hm, hnm, hlk, List.replicate, e, argsOf, getM]
end
end Dn
-- P4
set_option maxRecDepth 100000
set_option maxHeartbeats 4000000
/-! The program's rows of origins, done again and again (points 7, 13). -/
namespace Dn
open PySem
def vN (n : Nat) : W := .int (n : Int)
theorem ixW_nat {ws : List W} {n : Nat} {w : W} (h : ws[n]? = some w) : ixW ws (n : Int) = some w := L2.atI_nat h
def b_laid : Ss := (.cons (.ret (.bi .tuple (.cons (.comp [2] (.nm 2) (.seq (.var 1)) .none (.idx (.var 0) (.var 2))) .nil)))
  .nil)
def b_then : Ss := (.cons (.ret (.call 29 (.val (.var 0) (.val (.var 1) .nil))))
  .nil)
def b_so : Ss := (.cons (.set (.nm 2) (.rg1 true (.bi .len (.cons (.var 0) .nil))))
  (.cons (.for_ (.nm 3) (.rng1 (.bi .min2 (.cons (.var 1) (.cons (.bi .len (.cons (.var 0) .nil)) .nil))))
  (.cons (.set (.nm 2) (.call 30 (.val (.var 0) (.val (.var 2) .nil))))
  .nil))
  (.cons (.retv 2)
  .nil)))
def isSq (T : List W → W) : Prop := T = .lst ∨ T = .tup
section
variable {P : Pg} {n : Nat} {T U : List W → W}
theorem argsOf_nil : ∀ {k i : Nat} {r : Env}, argsOf [] k i r = some (List.replicate k (.im .non))
  | 0, _, _ => rfl
  | k + 1, i, r => by simp [argsOf, argsOf_nil (k := k), List.replicate_succ]
theorem laid_ev {d : FD} (hP : P.fd 29 = some d) (hb : d.body = b_laid) (hm : d.many = 2) (hnm : d.names.length = 3) (hlk : d.lock = []) (hT : isSq T) (hU : isSq U) (ws : List W) (os : List Nat) (hl : os.length ≤ LIM) (h : ∀ o ∈ os, o < ws.length) :
    (P.th (n + 1)).fn 29 [.im (T ws), .im (U (os.map vN))] = .ok (.im (.tup (os.map fun o => ws.getD o .non))) [.im .non, .im .non] := by
  have hc : ∀ (f : W → Env → R (Option W)) (r : Env), (∀ o ∈ os, f (vN o) r = .ok (some (ws.getD o .non)) r) → compL f (os.map vN) r [] = .ok (os.map fun o => ws.getD o .non) r := by
    intro f r hf
    have e := compL_map (f := f) (g := fun w => match w with | .int i => ws.getD i.toNat .non | _ => .non) (r := r) (ws := os.map vN) (acc := []) (by
      intro w hw
      obtain ⟨o, ho, rfl⟩ := List.mem_map.mp hw
      simpa [vN] using hf o ho) (by simpa using hl)
    rw [e]; simp [vN, Function.comp_def]
  rcases hT with rfl | rfl <;> rcases hU with rfl | rfl
  all_goals
    simp only [Pg.th, hP, runF, hb, hm, hnm, hlk, b_laid, evSs, evS, evE, evEs, evI, evO, evC, evA, R.bind, R.w, R.tru, R.int, R.ofO, getM, List.getElem?_cons_succ, List.getElem?_cons_zero, M.fz, List.set_cons_succ, List.set_cons_zero, List.length_cons, List.length_nil, List.map_cons, List.map_nil, List.append_nil, List.replicate, Nat.reduceAdd, Nat.reduceSub, List.cons_append, List.nil_append, if_true, if_false, Bool.false_eq_true, Option.map_some, Option.map_none, Option.bind_some, Option.isSome_some, truW, cmpW, binW, isTys, isTy, biW, wipeE, backE, bindT, bindTs, seqOf, zipS, callA, fillA, backA, borL, setT, parE, augW, idxW, idxM, slcM, lenM, mulOk, powOk, plainM, frzE, argsOf_nil]
    rw [hc]
    · simp [evSs, evS, evE, evEs, evI, evO, evC, evA, R.bind, R.w, R.tru, R.int, R.ofO, getM, List.getElem?_cons_succ, List.getElem?_cons_zero, M.fz, List.set_cons_succ, List.set_cons_zero, List.length_cons, List.length_nil, List.map_cons, List.map_nil, List.append_nil, List.replicate, Nat.reduceAdd, Nat.reduceSub, List.cons_append, List.nil_append, if_true, if_false, Bool.false_eq_true, Option.map_some, Option.map_none, Option.bind_some, Option.isSome_some, truW, cmpW, binW, isTys, isTy, biW, wipeE, backE, bindT, bindTs, seqOf, zipS, callA, fillA, backA, borL, setT, parE, augW, idxW, idxM, slcM, lenM, mulOk, powOk, plainM, frzE]
    · intro o ho
      have hw := h o ho
      simp [evSs, evS, evE, evEs, evI, evO, evC, evA, R.bind, R.w, R.tru, R.int, R.ofO, getM, List.getElem?_cons_succ, List.getElem?_cons_zero, M.fz, List.set_cons_succ, List.set_cons_zero, List.length_cons, List.length_nil, List.map_cons, List.map_nil, List.append_nil, List.replicate, Nat.reduceAdd, Nat.reduceSub, List.cons_append, List.nil_append, if_true, if_false, Bool.false_eq_true, Option.map_some, Option.map_none, Option.bind_some, Option.isSome_some, truW, cmpW, binW, isTys, isTy, biW, wipeE, backE, bindT, bindTs, seqOf, zipS, callA, fillA, backA, borL, setT, parE, augW, idxW, idxM, slcM, lenM, mulOk, powOk, plainM, frzE, vN, ixW_nat (ws := ws) (List.getElem?_eq_getElem hw), List.getElem?_eq_getElem hw]
/-- s behind t -/
def cmpS (s t : List Nat) : List Nat := t.map fun p => s.getD p 0
def itS (s : List Nat) : Nat → List Nat
  | 0 => List.range s.length
  | k + 1 => cmpS s (itS s k)
theorem cmpS_len (s t : List Nat) : (cmpS s t).length = t.length := by simp [cmpS]
theorem itS_len (s : List Nat) : ∀ k, (itS s k).length = s.length
  | 0 => by simp [itS]
  | k + 1 => by rw [itS, cmpS_len, itS_len s k]
theorem itS_lt {s : List Nat} (h : ∀ o ∈ s, o < s.length) : ∀ k, ∀ o ∈ itS s k, o < s.length
  | 0, o, ho => by simpa [itS] using ho
  | k + 1, o, ho => by
    rw [itS, cmpS] at ho
    obtain ⟨p, hp, rfl⟩ := List.mem_map.mp ho
    have hlt := itS_lt h k p hp
    rw [List.getD_eq_getElem?_getD, List.getElem?_eq_getElem hlt]
    exact h _ (List.getElem_mem hlt)
theorem getD_vN {s t : List Nat} (h : ∀ o ∈ t, o < s.length) : (t.map fun o => (s.map vN).getD o .non) = (cmpS s t).map vN := by
  rw [cmpS, List.map_map]
  refine List.map_congr_left fun o ho => ?_
  have hlt := h o ho
  simp [List.getElem?_eq_getElem hlt]
structure Prog1 (P : Pg) : Prop where
  laid : ∃ d, P.fd 29 = some d ∧ d.body = b_laid ∧ d.many = 2 ∧ d.names.length = 3 ∧ d.lock = []
  thn : ∃ d, P.fd 30 = some d ∧ d.body = b_then ∧ d.many = 2 ∧ d.names.length = 2 ∧ d.lock = []
theorem then_ev (hp : Prog1 P) (hT : isSq T) (hU : isSq U) {s t : List Nat} (hl : t.length ≤ LIM) (h : ∀ o ∈ t, o < s.length) :
    (P.th (n + 2)).fn 30 [.im (T (s.map vN)), .im (U (t.map vN))] = .ok (.im (.tup ((cmpS s t).map vN))) [.im .non, .im .non] := by
  obtain ⟨d, h1, h2, h3, h4, h5⟩ := hp.laid
  obtain ⟨d', g1, g2, g3, g4, g5⟩ := hp.thn
  have e := laid_ev (n := n) h1 h2 h3 h4 h5 hT hU (s.map vN) t hl (by simpa using h)
  rw [getD_vN h] at e
  rw [show n + 2 = (n + 1) + 1 from rfl, Pg.th]
  simp only [g1, runF, g2, g3, g4, g5, b_then, evSs, evS, evE, evEs, evI, evO, evC, evA, R.bind, R.w, R.tru, R.int, R.ofO, getM, List.getElem?_cons_succ, List.getElem?_cons_zero, M.fz, List.set_cons_succ, List.set_cons_zero, List.length_cons, List.length_nil, List.map_cons, List.map_nil, List.append_nil, List.replicate, Nat.reduceAdd, Nat.reduceSub, List.cons_append, List.nil_append, if_true, if_false, Bool.false_eq_true, Option.map_some, Option.map_none, Option.bind_some, Option.isSome_some, truW, cmpW, binW, isTys, isTy, biW, wipeE, backE, bindT, bindTs, seqOf, zipS, callA, fillA, backA, borL, setT, parE, augW, idxW, idxM, slcM, lenM, mulOk, powOk, plainM, frzE, e, argsOf_nil, List.nodup_nil]
theorem upTo_vN (k : Nat) : upTo 0 k = (List.range k).map vN := by
  rw [upTo_map]
  simp [vN]
theorem rgOk_of {a b : Int} (h1 : -(2 ^ 62) ≤ a) (h2 : a < 2 ^ 62) (h3 : -(2 ^ 62) ≤ b) (h4 : b < 2 ^ 62) (h5 : (b - a).toNat ≤ LIM) : rgOk a b = true := by
  unfold rgOk
  simp only [Bool.and_eq_true, decide_eq_true_eq]
  exact ⟨⟨⟨⟨h1, h2⟩, h3⟩, h4⟩, h5⟩
theorem small62 {k : Nat} (hl : k ≤ LIM) : -(2 ^ 62) ≤ (k : Int) ∧ (k : Int) < 2 ^ 62 ∧ ((k : Int) - 0).toNat = k := by
  have h1 : k ≤ 1000000 := hl
  refine ⟨by omega, by omega, by omega⟩
theorem rng_vN {k : Nat} (hl : k ≤ LIM) : rngM true 0 (k : Int) = some (.im (.tup ((List.range k).map vN))) := by
  obtain ⟨h1, h2, h3⟩ := small62 hl
  have h : rgOk 0 (k : Int) = true := rgOk_of (by omega) (by omega) h1 h2 (by rw [h3]; exact hl)
  unfold rngM
  rw [if_pos h, h3, upTo_vN]
  simp only [if_true]
theorem ev_rg1 {hd : Th} {e : E} {r r1 : Env} {j : Int} {m : M} {t : Bool} (h : evE hd e r = .ok (.im (.int j)) r1) (hm : rngM t 0 j = some m) : evE hd (.rg1 t e) r = .ok m r1 := by
  rw [evE, h]
  simp only [R.int, R.bind, hm, R.ofO]
theorem ev_set {hd : Th} {e : E} {r r1 : Env} {m : M} {i : Nat} (h : evE hd e r = .ok m r1) : evS hd (.set (.nm i) e) r = .ok .nx (r1.set i (some m)) := by
  rw [evS, h]
  simp only [R.bind, setT]
theorem so_set {hd : Th} {s : List Nat} {k : Int} (hT : isSq T) (hl : s.length ≤ LIM) : evS hd (.set (.nm 2) (.rg1 true (.bi .len (.cons (.var 0) .nil)))) [some (.im (T (s.map vN))), some (.im (.int k)), none, none] = .ok .nx [some (.im (T (s.map vN))), some (.im (.int k)), some (.im (.tup ((itS s 0).map vN))), none] := by
  have e : evE hd (.bi .len (.cons (.var 0) .nil)) [some (.im (T (s.map vN))), some (.im (.int k)), none, none] = .ok (.im (.int (s.length : Int))) [some (.im (T (s.map vN))), some (.im (.int k)), none, none] := by
    rcases hT with rfl | rfl <;> simp only [evSs, evS, evE, evEs, evI, evO, evC, evA, R.bind, R.w, R.tru, R.int, R.ofO, getM, List.getElem?_cons_succ, List.getElem?_cons_zero, M.fz, List.set_cons_succ, List.set_cons_zero, List.length_cons, List.length_nil, List.map_cons, List.map_nil, List.append_nil, List.replicate, Nat.reduceAdd, Nat.reduceSub, List.cons_append, List.nil_append, if_true, if_false, Bool.false_eq_true, Option.map_some, Option.map_none, Option.bind_some, Option.isSome_some, truW, cmpW, binW, isTys, isTy, biW, wipeE, backE, bindT, bindTs, seqOf, zipS, callA, fillA, backA, borL, setT, parE, augW, idxW, idxM, slcM, lenM, mulOk, powOk, plainM, frzE, List.length_map]
  have e2 : evE hd (.rg1 true (.bi .len (.cons (.var 0) .nil))) [some (.im (T (s.map vN))), some (.im (.int k)), none, none] = .ok (.im (.tup ((itS s 0).map vN))) [some (.im (T (s.map vN))), some (.im (.int k)), none, none] := by
    exact ev_rg1 e (rng_vN hl)
  exact ev_set e2
theorem so_it {hd : Th} {s : List Nat} {k : Int} {o x : Option M} (hT : isSq T) (hl : s.length ≤ LIM) (hk : 0 ≤ k) : evI hd (.rng1 (.bi .min2 (.cons (.var 1) (.cons (.bi .len (.cons (.var 0) .nil)) .nil)))) [some (.im (T (s.map vN))), some (.im (.int k)), o, x]
        = .ok ((List.range (min k.toNat s.length)).map vN) [some (.im (T (s.map vN))), some (.im (.int k)), o, x] := by
  have hL : (s.length : Int) ≤ 1000000 := by unfold LIM at hl; omega
  have hmn : ((if (s.length : Int) < k then (s.length : Int) else k)).toNat = min k.toNat s.length := by
    split <;> omega
  have hb1 : (-(2 : Int) ^ 62 ≤ if (s.length : Int) < k then (s.length : Int) else k) ∧ (if (s.length : Int) < k then (s.length : Int) else k) < 2 ^ 62 := by
    split <;> constructor <;> omega
  generalize hz : (if (s.length : Int) < k then (s.length : Int) else k) = z at hmn hb1
  have e : evE hd (.bi .min2 (.cons (.var 1) (.cons (.bi .len (.cons (.var 0) .nil)) .nil))) [some (.im (T (s.map vN))), some (.im (.int k)), o, x] = .ok (.im (.int z)) [some (.im (T (s.map vN))), some (.im (.int k)), o, x] := by
    rcases hT with rfl | rfl <;> simp only [evSs, evS, evE, evEs, evI, evO, evC, evA, R.bind, R.w, R.tru, R.int, R.ofO, getM, List.getElem?_cons_succ, List.getElem?_cons_zero, M.fz, List.set_cons_succ, List.set_cons_zero, List.length_cons, List.length_nil, List.map_cons, List.map_nil, List.append_nil, List.replicate, Nat.reduceAdd, Nat.reduceSub, List.cons_append, List.nil_append, if_true, if_false, Bool.false_eq_true, Option.map_some, Option.map_none, Option.bind_some, Option.isSome_some, truW, cmpW, binW, isTys, isTy, biW, wipeE, backE, bindT, bindTs, seqOf, zipS, callA, fillA, backA, borL, setT, parE, augW, idxW, idxM, slcM, lenM, mulOk, powOk, plainM, frzE, List.length_map, hz]
  rw [evI, e]
  show (if -(2 : Int) ^ 62 ≤ z ∧ z < 2 ^ 62 then R.ok (upTo 0 z.toNat) _ else R.stuck) = _
  rw [if_pos hb1, hmn, upTo_vN]
theorem so_loop {hd : Th} {s : List Nat} {k : Int} (hth : ∀ i, hd.fn 30 [.im (T (s.map vN)), .im (.tup ((itS s i).map vN))] = .ok (.im (.tup ((itS s (i + 1)).map vN))) [.im .non, .im .non]) (m : Nat) :
    ∃ x, forL (fun w r => match bindT (.nm 3) w r with
        | some r2 => evSs hd (.cons (.set (.nm 2) (.call 30 (.val (.var 0) (.val (.var 2) .nil)))) .nil) r2
        | none => R.stuck) ((List.range m).map vN) [some (.im (T (s.map vN))), some (.im (.int k)), some (.im (.tup ((itS s 0).map vN))), none] = .ok .nx [some (.im (T (s.map vN))), some (.im (.int k)), some (.im (.tup ((itS s m).map vN))), x] := by
  obtain ⟨r', e, x, hx⟩ := forL_inv (f := fun w r => match bindT (.nm 3) w r with
        | some r2 => evSs hd (.cons (.set (.nm 2) (.call 30 (.val (.var 0) (.val (.var 2) .nil)))) .nil) r2
        | none => R.stuck) (fun i r => ∃ x, r = [some (.im (T (s.map vN))), some (.im (.int k)), some (.im (.tup ((itS s i).map vN))), x]) (ws := (List.range m).map vN) (i := 0) (r := [some (.im (T (s.map vN))), some (.im (.int k)), some (.im (.tup ((itS s 0).map vN))), none]) ⟨none, rfl⟩ (by
      rintro j w r hj ⟨x, rfl⟩
      refine ⟨_, ?_, some (.im w), rfl⟩
      simp only [evSs, evS, evE, evEs, evI, evO, evC, evA, R.bind, R.w, R.tru, R.int, R.ofO, getM, List.getElem?_cons_succ, List.getElem?_cons_zero, M.fz, List.set_cons_succ, List.set_cons_zero, List.length_cons, List.length_nil, List.map_cons, List.map_nil, List.append_nil, List.replicate, Nat.reduceAdd, Nat.reduceSub, List.cons_append, List.nil_append, if_true, if_false, Bool.false_eq_true, Option.map_some, Option.map_none, Option.bind_some, Option.isSome_some, truW, cmpW, binW, isTys, isTy, biW, wipeE, backE, bindT, bindTs, seqOf, zipS, callA, fillA, backA, borL, setT, parE, augW, idxW, idxM, slcM, lenM, mulOk, powOk, plainM, frzE, hth, List.nodup_nil, Nat.zero_add])
  subst hx
  simp only [List.length_map, List.length_range, Nat.zero_add] at e
  exact ⟨x, e⟩
theorem so_ev {d : FD} (hp : Prog1 P) (hP : P.fd 73 = some d) (hb : d.body = b_so) (hm : d.many = 2) (hnm : d.names.length = 4) (hlk : d.lock = []) (hT : isSq T) {s : List Nat} (hl : s.length ≤ LIM) (h : ∀ o ∈ s, o < s.length) {k : Int} (hk : 0 ≤ k) :
    (P.th (n + 3)).fn 73 [.im (T (s.map vN)), .im (.int k)] = .ok (.im (.tup ((itS s (min k.toNat s.length)).map vN))) [.im .non, .im .non] := by
  have hth : ∀ i, (P.th (n + 2)).fn 30 [.im (T (s.map vN)), .im (.tup ((itS s i).map vN))] = .ok (.im (.tup ((itS s (i + 1)).map vN))) [.im .non, .im .non] := fun i => then_ev hp hT (.inr rfl) (by rw [itS_len]; exact hl) (itS_lt h i)
  generalize hh : P.th (n + 2) = hd at hth
  obtain ⟨x, e2⟩ := so_loop (hd := hd) (k := k) hth (min k.toNat s.length)
  have e1 := so_set (hd := hd) (k := k) hT hl
  have ei := so_it (hd := hd) (k := k) (o := some (.im (.tup ((itS s 0).map vN)))) (x := none) hT hl hk
  have e4 : evS hd (.for_ (.nm 3) (.rng1 (.bi .min2 (.cons (.var 1) (.cons (.bi .len (.cons (.var 0) .nil)) .nil)))) (.cons (.set (.nm 2) (.call 30 (.val (.var 0) (.val (.var 2) .nil)))) .nil)) [some (.im (T (s.map vN))), some (.im (.int k)), some (.im (.tup ((itS s 0).map vN))), none]
      = .ok .nx [some (.im (T (s.map vN))), some (.im (.int k)), some (.im (.tup ((itS s (min k.toNat s.length)).map vN))), x] := by
    rw [evS, ei]
    exact e2
  have e3 : evSs hd b_so [some (.im (T (s.map vN))), some (.im (.int k)), none, none] = .ok (.ret (.im (.tup ((itS s (min k.toNat s.length)).map vN)))) [some (.im (T (s.map vN))), some (.im (.int k)), none, x] := by
    simp only [b_so, evSs, e1, e4, R.bind]
    simp only [evS, getM, List.getElem?_cons_succ, List.getElem?_cons_zero, List.set_cons_succ, List.set_cons_zero]
  rw [show n + 3 = (n + 2) + 1 from rfl, Pg.th]
  simp only [hP, runF, hb, hm, hnm, hlk, hh, e3, List.length_cons, List.length_nil, List.map_cons, List.map_nil, List.replicate, List.cons_append, List.nil_append, Nat.reduceAdd, Nat.reduceSub, if_true, argsOf_nil]
end
end Dn
-- M1
set_option maxRecDepth 512
set_option maxHeartbeats 200000
/-! A never-falling map of the places into themselves stands still behind n - 1 goings. -/
namespace Dn
def itF (f : Nat → Nat) : Nat → Nat → Nat
  | 0, p => p
  | k + 1, p => f (itF f k p)
section
variable {f : Nat → Nat} {n p : Nat}
theorem itF_lt (h : ∀ p, p < n → f p < n) (hp : p < n) : ∀ k, itF f k p < n
  | 0 => hp
  | k + 1 => h _ (itF_lt h hp k)
theorem itF_fix {k : Nat} (e : f (itF f k p) = itF f k p) : ∀ j, itF f (k + j) p = itF f k p
  | 0 => rfl
  | j + 1 => by
    rw [← Nat.add_assoc]
    show f (itF f (k + j) p) = _
    rw [itF_fix e j, e]
theorem itF_up (h : ∀ p, p < n → f p < n) (m : ∀ p q, p ≤ q → q < n → f p ≤ f q) (hp : p < n) (u : p ≤ f p) : ∀ k, itF f k p ≤ itF f (k + 1) p
  | 0 => u
  | k + 1 => m _ _ (itF_up h m hp u k) (itF_lt h hp (k + 1))
theorem itF_dn (h : ∀ p, p < n → f p < n) (m : ∀ p q, p ≤ q → q < n → f p ≤ f q) (hp : p < n) (u : f p ≤ p) : ∀ k, itF f (k + 1) p ≤ itF f k p
  | 0 => u
  | k + 1 => m _ _ (itF_dn h m hp u k) (itF_lt h hp k)
/-- behind n - 1 goings (and more) all stands still -/
theorem itF_stop (h : ∀ p, p < n → f p < n) (m : ∀ p q, p ≤ q → q < n → f p ≤ f q) (hp : p < n) : f (itF f (n - 1) p) = itF f (n - 1) p := by
  apply Classical.byContradiction
  intro ne
  have nf : ∀ j, j ≤ n - 1 → itF f (j + 1) p ≠ itF f j p := fun j hj e => by
    have h1 := itF_fix (k := j) (f := f) (p := p) e (n - 1 - j)
    rw [show j + (n - 1 - j) = n - 1 by omega] at h1
    rw [h1] at ne
    exact ne e
  rcases Nat.le_total p (f p) with u | u
  · have key : ∀ j, j ≤ n → p + j ≤ itF f j p := by
      intro j
      induction j with
      | zero => intro _; exact Nat.le_refl _
      | succ j ih =>
        intro hj
        have h1 := ih (by omega)
        have h2 := itF_up h m hp u j
        have h3 := nf j (by omega)
        omega
    have h1 := key n (Nat.le_refl _)
    have h2 := itF_lt h hp n
    omega
  · have key : ∀ j, j ≤ n → itF f j p + j ≤ p := by
      intro j
      induction j with
      | zero => intro _; exact Nat.le_refl _
      | succ j ih =>
        intro hj
        have h1 := ih (by omega)
        have h2 := itF_dn h m hp u j
        have h3 := nf j (by omega)
        omega
    have h1 := key n (Nat.le_refl _)
    omega
theorem itF_still (h : ∀ p, p < n → f p < n) (m : ∀ p q, p ≤ q → q < n → f p ≤ f q) (hp : p < n) {k : Nat} (hk : n - 1 ≤ k) : itF f k p = itF f (n - 1) p := by
  have := itF_fix (itF_stop h m hp) (k - (n - 1))
  rw [show n - 1 + (k - (n - 1)) = k by omega] at this
  exact this
end
/-- the k-th going, place by place -/
theorem itS_itF (s : List Nat) : ∀ k, itS s k = (List.range s.length).map (itF (fun p => s.getD p 0) k)
  | 0 => by simp [itS, itF, List.map_id']
  | k + 1 => by
    rw [itS, cmpS, itS_itF s k, List.map_map]
    rfl
end Dn
-- P5
set_option maxRecDepth 100000
set_option maxHeartbeats 4000000
/-! stays. -/
namespace Dn
open PySem
def b_stays : Ss := (.cons (.ret (.comp [1, 2] (.tp [(.nm 1), (.nm 2)]) (.enum (.var 0)) (.some (.cmp .eq (.var 1) (.var 2))) (.var 1)))
  .nil)
section
variable {P : Pg} {n : Nat} {T : List W → W}
theorem enum_vN (s : List Nat) : enumFrom 0 (s.map vN) = (List.range s.length).map fun p => W.tup [vN p, vN (s.getD p 0)] := by
  refine List.ext_getElem? fun i => ?_
  cases e : (enumFrom 0 (s.map vN))[i]? with
  | none =>
    have h1 := List.getElem?_eq_none_iff.mp e
    rw [enum_len, List.length_map] at h1
    rw [List.getElem?_eq_none (by simpa using h1)]
  | some w =>
    obtain ⟨y, h1, h2⟩ := enum_get e
    have hi : i < s.length := by simpa using (List.getElem?_eq_some_iff.mp h1).1
    have h3 : y = vN s[i] := by simpa [List.getElem?_eq_getElem hi] using h1.symm
    subst h2 h3
    simp [List.getElem?_range hi, vN, List.getElem?_eq_getElem hi]
theorem fm_if {c : Nat → Bool} : ∀ l : List Nat, (l.filterMap fun p => if c p = true then some (vN p) else none) = (l.filter c).map vN
  | [] => rfl
  | p :: l => by
    rw [List.filterMap_cons, List.filter_cons]
    cases c p <;> simp [fm_if l]
/-- the places that are their own -/
def fixS (s : List Nat) : List Nat := (List.range s.length).filter fun p => p == s.getD p 0
theorem stays_ev {d : FD} (hP : P.fd 72 = some d) (hb : d.body = b_stays) (hm : d.many = 1) (hnm : d.names.length = 3) (hlk : d.lock = []) (hT : isSq T) {s : List Nat} (hl : s.length ≤ LIM) :
    (P.th (n + 1)).fn 72 [.im (T (s.map vN))] = .ok (.ls ((fixS s).map vN)) [.im .non] := by
  have hc : ∀ (ff : W → Env → R (Option W)) (r : Env), (∀ p, ff (.tup [vN p, vN (s.getD p 0)]) r = .ok (if p == s.getD p 0 then some (vN p) else none) r) → compL ff (enumFrom 0 (s.map vN)) r [] = .ok ((fixS s).map vN) r := by
    intro ff r hf
    rw [enum_vN]
    have e := compL_filterMap (f := ff) (g := fun w => match w with
      | .tup [.int i, .int j] => if i == j then some (.int i) else none
      | _ => none) (r := r) (ws := (List.range s.length).map fun p => W.tup [vN p, vN (s.getD p 0)]) (acc := []) (by
      intro w hw
      obtain ⟨p, _, rfl⟩ := List.mem_map.mp hw
      rw [hf p]
      simp [vN, Int.ofNat_inj]) (by simpa using hl)
    rw [e, List.nil_append, List.filterMap_map, fixS, ← fm_if]
    congr 1
    refine congrArg (fun g => List.filterMap g (List.range s.length)) (funext fun p => ?_)
    by_cases hp : p = s.getD p 0
    · have h1 : ((p : Int) == ((s.getD p 0 : Nat) : Int)) = true := by rw [← hp]; simp
      have h2 : (p == s.getD p 0) = true := by rw [← hp]; simp
      simp only [Function.comp, vN, h1, h2]
    · have h1 : ((p : Int) == ((s.getD p 0 : Nat) : Int)) = false := by
        rw [beq_eq_false_iff_ne]; omega
      have h2 : (p == s.getD p 0) = false := by rw [beq_eq_false_iff_ne]; exact hp
      simp only [Function.comp, vN, h1, h2]
  have key : evSs (P.th n) b_stays [some (.im (T (s.map vN))), none, none] = .ok (.ret (.ls ((fixS s).map vN))) [some (.im (T (s.map vN))), none, none] := by
    rcases hT with rfl | rfl
    all_goals
      simp only [b_stays, evSs, evS, evE, evEs, evI, evO, evC, evA, R.bind, R.w, R.tru, R.int, R.ofO, getM, List.getElem?_cons_succ, List.getElem?_cons_zero, M.fz, List.set_cons_succ, List.set_cons_zero, List.length_cons, List.length_nil, List.map_cons, List.map_nil, List.append_nil, List.replicate, Nat.reduceAdd, Nat.reduceSub, List.cons_append, List.nil_append, if_true, if_false, Bool.false_eq_true, Option.map_some, Option.map_none, Option.bind_some, Option.isSome_some, truW, cmpW, binW, isTys, isTy, biW, wipeE, backE, bindT, bindTs, seqOf, zipS, callA, fillA, backA, borL, setT, parE, augW, idxW, idxM, slcM, lenM, mulOk, powOk, plainM, frzE]
      rw [hc]
      · simp [evSs, evS, evE, evEs, evI, evO, evC, evA, R.bind, R.w, R.tru, R.int, R.ofO, getM, List.getElem?_cons_succ, List.getElem?_cons_zero, M.fz, List.set_cons_succ, List.set_cons_zero, List.length_cons, List.length_nil, List.map_cons, List.map_nil, List.append_nil, List.replicate, Nat.reduceAdd, Nat.reduceSub, List.cons_append, List.nil_append, if_true, if_false, Bool.false_eq_true, Option.map_some, Option.map_none, Option.bind_some, Option.isSome_some, truW, cmpW, binW, isTys, isTy, biW, wipeE, backE, bindT, bindTs, seqOf, zipS, callA, fillA, backA, borL, setT, parE, augW, idxW, idxM, slcM, lenM, mulOk, powOk, plainM, frzE]
      · intro p
        generalize s.getD p 0 = o
        by_cases hp : p = o
        · subst hp
          simp [evSs, evS, evE, evEs, evI, evO, evC, evA, R.bind, R.w, R.tru, R.int, R.ofO, getM, List.getElem?_cons_succ, List.getElem?_cons_zero, M.fz, List.set_cons_succ, List.set_cons_zero, List.length_cons, List.length_nil, List.map_cons, List.map_nil, List.append_nil, List.replicate, Nat.reduceAdd, Nat.reduceSub, List.cons_append, List.nil_append, if_true, if_false, Bool.false_eq_true, Option.map_some, Option.map_none, Option.bind_some, Option.isSome_some, truW, cmpW, binW, isTys, isTy, biW, wipeE, backE, bindT, bindTs, seqOf, zipS, callA, fillA, backA, borL, setT, parE, augW, idxW, idxM, slcM, lenM, mulOk, powOk, plainM, frzE, vN, eqW_int]
        · have h2 : ¬ ((p : Int) = (o : Int)) := by omega
          simp [evSs, evS, evE, evEs, evI, evO, evC, evA, R.bind, R.w, R.tru, R.int, R.ofO, getM, List.getElem?_cons_succ, List.getElem?_cons_zero, M.fz, List.set_cons_succ, List.set_cons_zero, List.length_cons, List.length_nil, List.map_cons, List.map_nil, List.append_nil, List.replicate, Nat.reduceAdd, Nat.reduceSub, List.cons_append, List.nil_append, if_true, if_false, Bool.false_eq_true, Option.map_some, Option.map_none, Option.bind_some, Option.isSome_some, truW, cmpW, binW, isTys, isTy, biW, wipeE, backE, bindT, bindTs, seqOf, zipS, callA, fillA, backA, borL, setT, parE, augW, idxW, idxM, slcM, lenM, mulOk, powOk, plainM, frzE, vN, eqW_int, hp, h2]
  rw [Pg.th]
  simp only [hP, runF, hb, hm, hnm, hlk, key, List.length_cons, List.length_nil, List.map_cons, List.map_nil, List.replicate, List.cons_append, List.nil_append, Nat.reduceAdd, Nat.reduceSub, if_true, argsOf_nil]
end
end Dn
-- M2
set_option maxRecDepth 512
set_option maxHeartbeats 200000
/-! What it comes to, by the places that are their own. -/
namespace Dn
theorem head_filter {c : Nat → Bool} {n L : Nat} (hL : L < n) (hc : c L = true) (hm : ∀ q, q < L → c q = false) : ((List.range n).filter c)[0]? = some L := by
  rw [← List.head?_eq_getElem?, List.head?_filter, List.find?_range_eq_some]
  exact ⟨hc, List.mem_range.mpr hL, fun j hj => by simp [hm j hj]⟩
theorem last_filter {c : Nat → Bool} {L : Nat} (hc : c L = true) : ∀ {n : Nat}, L < n → (∀ q, L < q → q < n → c q = false) → ((List.range n).filter c).getLast? = some L
  | 0, h, _ => by omega
  | n + 1, h, hm => by
    rw [List.range_succ, List.filter_append]
    by_cases e : L = n
    · subst e
      simp [hc]
    · have h1 := hm n (by omega) (by omega)
      have h2 := last_filter hc (n := n) (by omega) fun q h3 h4 => hm q h3 (by omega)
      simp [h1, h2]
section
variable {f : Nat → Nat} {n p q : Nat}
theorem itF_le (h : ∀ p, p < n → f p < n) (m : ∀ p q, p ≤ q → q < n → f p ≤ f q) (hq : q < n) (e : f q = q) (hpq : p ≤ q) : ∀ k, itF f k p ≤ q
  | 0 => hpq
  | k + 1 => by
    have h1 := m _ _ (itF_le h m hq e hpq k) hq
    rw [e] at h1
    exact h1
theorem itF_ge (h : ∀ p, p < n → f p < n) (m : ∀ p q, p ≤ q → q < n → f p ≤ f q) (hp : p < n) (e : f q = q) (hpq : q ≤ p) : ∀ k, q ≤ itF f k p
  | 0 => hpq
  | k + 1 => by
    have h1 := m _ _ (itF_ge h m hp e hpq k) (itF_lt h hp k)
    rw [e] at h1
    exact h1
theorem itF_up0 (h : ∀ p, p < n → f p < n) (m : ∀ p q, p ≤ q → q < n → f p ≤ f q) (hp : p < n) (u : p ≤ f p) : ∀ k, p ≤ itF f k p
  | 0 => Nat.le_refl _
  | k + 1 => Nat.le_trans (itF_up0 h m hp u k) (itF_up h m hp u k)
theorem itF_dn0 (h : ∀ p, p < n → f p < n) (m : ∀ p q, p ≤ q → q < n → f p ≤ f q) (hp : p < n) (u : f p ≤ p) : ∀ k, itF f k p ≤ p
  | 0 => Nat.le_refl _
  | k + 1 => Nat.le_trans (itF_dn h m hp u k) (itF_dn0 h m hp u k)
/-- whose origin lies on the right: the first place behind it that is its own -/
theorem end_right (h : ∀ p, p < n → f p < n) (m : ∀ p q, p ≤ q → q < n → f p ≤ f q) (hp : p < n) (u : p < f p) :
    ((List.range n).filter fun q => (q == f q) && decide (p < q))[0]? = some (itF f (n - 1) p) := by
  have hs := itF_stop h m hp
  have hlt := itF_lt h hp (n - 1)
  have h1 := itF_up0 h m hp (by omega) (n - 1)
  have hne : itF f (n - 1) p ≠ p := fun e => by rw [e] at hs; omega
  refine head_filter hlt ?_ fun q hq => ?_
  · simp only [Bool.and_eq_true, beq_iff_eq, decide_eq_true_eq]
    exact ⟨hs.symm, by omega⟩
  · by_cases e : q = f q
    · by_cases e2 : p < q
      · have := itF_le h m (by omega) e.symm (Nat.le_of_lt e2) (n - 1)
        omega
      · simp [e2]
    · simp [e]
theorem end_left (h : ∀ p, p < n → f p < n) (m : ∀ p q, p ≤ q → q < n → f p ≤ f q) (hp : p < n) (u : f p < p) :
    ((List.range n).filter fun q => (q == f q) && decide (q < p)).getLast? = some (itF f (n - 1) p) := by
  have hs := itF_stop h m hp
  have hlt := itF_lt h hp (n - 1)
  have h1 := itF_dn0 h m hp (by omega) (n - 1)
  have hne : itF f (n - 1) p ≠ p := fun e => by rw [e] at hs; omega
  refine last_filter ?_ hlt fun q hq hqn => ?_
  · simp only [Bool.and_eq_true, beq_iff_eq, decide_eq_true_eq]
    exact ⟨hs.symm, by omega⟩
  · by_cases e : q = f q
    · by_cases e2 : q < p
      · have := itF_ge h m hp e.symm (Nat.le_of_lt e2) (n - 1)
        omega
      · simp [e2]
    · simp [e]
end
end Dn
-- P6
set_option maxRecDepth 100000
set_option maxHeartbeats 4000000
/-! end_of. -/
namespace Dn
open PySem
def c_gt : E := .comp [4] (.nm 4) (.seq (.var 0)) (.some (.cmp .gt (.var 4) (.var 1))) (.var 4)
def c_lt : E := .comp [4] (.nm 4) (.seq (.var 0)) (.some (.cmp .lt (.var 4) (.var 1))) (.var 4)
section
variable {hd : Th} {l : List Nat} {p : Nat} {a b : Option M}
theorem cgt_ev (hl : l.length ≤ LIM) : evE hd c_gt [some (.im (.lst (l.map vN))), some (.im (vN p)), a, b, none] = .ok (.ls ((l.filter fun q => decide (p < q)).map vN)) [some (.im (.lst (l.map vN))), some (.im (vN p)), a, b, none] := by
  have hc : ∀ (ff : W → Env → R (Option W)) (r : Env), (∀ q, ff (vN q) r = .ok (if decide (p < q) = true then some (vN q) else none) r) → compL ff (l.map vN) r [] = .ok ((l.filter fun q => decide (p < q)).map vN) r := by
    intro ff r hf
    have e := compL_filterMap (f := ff) (g := fun w => match w with
      | .int i => if (p : Int) < i then some (.int i) else none
      | _ => none) (r := r) (ws := l.map vN) (acc := []) (by
      intro w hw
      obtain ⟨q, _, rfl⟩ := List.mem_map.mp hw
      rw [hf q]
      simp [vN, Int.ofNat_lt]) (by simpa using hl)
    rw [e, List.nil_append, List.filterMap_map, ← fm_if]
    congr 1
    refine congrArg (fun g => List.filterMap g l) (funext fun q => ?_)
    simp [Function.comp, vN, Int.ofNat_lt]
  simp only [c_gt, evSs, evS, evE, evEs, evI, evO, evC, evA, R.bind, R.w, R.tru, R.int, R.ofO, getM, List.getElem?_cons_succ, List.getElem?_cons_zero, M.fz, List.set_cons_succ, List.set_cons_zero, List.length_cons, List.length_nil, List.map_cons, List.map_nil, List.append_nil, List.replicate, Nat.reduceAdd, Nat.reduceSub, List.cons_append, List.nil_append, if_true, if_false, Bool.false_eq_true, Option.map_some, Option.map_none, Option.bind_some, Option.isSome_some, truW, cmpW, binW, isTys, isTy, biW, wipeE, backE, bindT, bindTs, seqOf, zipS, callA, fillA, backA, borL, setT, parE, augW, idxW, idxM, slcM, lenM, mulOk, powOk, plainM, frzE]
  rw [hc]
  · simp [evSs, evS, evE, evEs, evI, evO, evC, evA, R.bind, R.w, R.tru, R.int, R.ofO, getM, List.getElem?_cons_succ, List.getElem?_cons_zero, M.fz, List.set_cons_succ, List.set_cons_zero, List.length_cons, List.length_nil, List.map_cons, List.map_nil, List.append_nil, List.replicate, Nat.reduceAdd, Nat.reduceSub, List.cons_append, List.nil_append, if_true, if_false, Bool.false_eq_true, Option.map_some, Option.map_none, Option.bind_some, Option.isSome_some, truW, cmpW, binW, isTys, isTy, biW, wipeE, backE, bindT, bindTs, seqOf, zipS, callA, fillA, backA, borL, setT, parE, augW, idxW, idxM, slcM, lenM, mulOk, powOk, plainM, frzE]
  · intro q
    by_cases hp : p < q
    · have h2 : (p : Int) < (q : Int) := by omega
      simp [evSs, evS, evE, evEs, evI, evO, evC, evA, R.bind, R.w, R.tru, R.int, R.ofO, getM, List.getElem?_cons_succ, List.getElem?_cons_zero, M.fz, List.set_cons_succ, List.set_cons_zero, List.length_cons, List.length_nil, List.map_cons, List.map_nil, List.append_nil, List.replicate, Nat.reduceAdd, Nat.reduceSub, List.cons_append, List.nil_append, if_true, if_false, Bool.false_eq_true, Option.map_some, Option.map_none, Option.bind_some, Option.isSome_some, truW, cmpW, binW, isTys, isTy, biW, wipeE, backE, bindT, bindTs, seqOf, zipS, callA, fillA, backA, borL, setT, parE, augW, idxW, idxM, slcM, lenM, mulOk, powOk, plainM, frzE, vN, hp, h2]
    · have h2 : ¬ (p : Int) < (q : Int) := by omega
      simp [evSs, evS, evE, evEs, evI, evO, evC, evA, R.bind, R.w, R.tru, R.int, R.ofO, getM, List.getElem?_cons_succ, List.getElem?_cons_zero, M.fz, List.set_cons_succ, List.set_cons_zero, List.length_cons, List.length_nil, List.map_cons, List.map_nil, List.append_nil, List.replicate, Nat.reduceAdd, Nat.reduceSub, List.cons_append, List.nil_append, if_true, if_false, Bool.false_eq_true, Option.map_some, Option.map_none, Option.bind_some, Option.isSome_some, truW, cmpW, binW, isTys, isTy, biW, wipeE, backE, bindT, bindTs, seqOf, zipS, callA, fillA, backA, borL, setT, parE, augW, idxW, idxM, slcM, lenM, mulOk, powOk, plainM, frzE, vN, hp, h2]
theorem clt_ev (hl : l.length ≤ LIM) : evE hd c_lt [some (.im (.lst (l.map vN))), some (.im (vN p)), a, b, none] = .ok (.ls ((l.filter fun q => decide (q < p)).map vN)) [some (.im (.lst (l.map vN))), some (.im (vN p)), a, b, none] := by
  have hc : ∀ (ff : W → Env → R (Option W)) (r : Env), (∀ q, ff (vN q) r = .ok (if decide (q < p) = true then some (vN q) else none) r) → compL ff (l.map vN) r [] = .ok ((l.filter fun q => decide (q < p)).map vN) r := by
    intro ff r hf
    have e := compL_filterMap (f := ff) (g := fun w => match w with
      | .int i => if i < (p : Int) then some (.int i) else none
      | _ => none) (r := r) (ws := l.map vN) (acc := []) (by
      intro w hw
      obtain ⟨q, _, rfl⟩ := List.mem_map.mp hw
      rw [hf q]
      simp [vN, Int.ofNat_lt]) (by simpa using hl)
    rw [e, List.nil_append, List.filterMap_map, ← fm_if]
    congr 1
    refine congrArg (fun g => List.filterMap g l) (funext fun q => ?_)
    simp [Function.comp, vN, Int.ofNat_lt]
  simp only [c_lt, evSs, evS, evE, evEs, evI, evO, evC, evA, R.bind, R.w, R.tru, R.int, R.ofO, getM, List.getElem?_cons_succ, List.getElem?_cons_zero, M.fz, List.set_cons_succ, List.set_cons_zero, List.length_cons, List.length_nil, List.map_cons, List.map_nil, List.append_nil, List.replicate, Nat.reduceAdd, Nat.reduceSub, List.cons_append, List.nil_append, if_true, if_false, Bool.false_eq_true, Option.map_some, Option.map_none, Option.bind_some, Option.isSome_some, truW, cmpW, binW, isTys, isTy, biW, wipeE, backE, bindT, bindTs, seqOf, zipS, callA, fillA, backA, borL, setT, parE, augW, idxW, idxM, slcM, lenM, mulOk, powOk, plainM, frzE]
  rw [hc]
  · simp [evSs, evS, evE, evEs, evI, evO, evC, evA, R.bind, R.w, R.tru, R.int, R.ofO, getM, List.getElem?_cons_succ, List.getElem?_cons_zero, M.fz, List.set_cons_succ, List.set_cons_zero, List.length_cons, List.length_nil, List.map_cons, List.map_nil, List.append_nil, List.replicate, Nat.reduceAdd, Nat.reduceSub, List.cons_append, List.nil_append, if_true, if_false, Bool.false_eq_true, Option.map_some, Option.map_none, Option.bind_some, Option.isSome_some, truW, cmpW, binW, isTys, isTy, biW, wipeE, backE, bindT, bindTs, seqOf, zipS, callA, fillA, backA, borL, setT, parE, augW, idxW, idxM, slcM, lenM, mulOk, powOk, plainM, frzE]
  · intro q
    by_cases hp : q < p
    · have h2 : (q : Int) < (p : Int) := by omega
      simp [evSs, evS, evE, evEs, evI, evO, evC, evA, R.bind, R.w, R.tru, R.int, R.ofO, getM, List.getElem?_cons_succ, List.getElem?_cons_zero, M.fz, List.set_cons_succ, List.set_cons_zero, List.length_cons, List.length_nil, List.map_cons, List.map_nil, List.append_nil, List.replicate, Nat.reduceAdd, Nat.reduceSub, List.cons_append, List.nil_append, if_true, if_false, Bool.false_eq_true, Option.map_some, Option.map_none, Option.bind_some, Option.isSome_some, truW, cmpW, binW, isTys, isTy, biW, wipeE, backE, bindT, bindTs, seqOf, zipS, callA, fillA, backA, borL, setT, parE, augW, idxW, idxM, slcM, lenM, mulOk, powOk, plainM, frzE, vN, hp, h2]
    · have h2 : ¬ (q : Int) < (p : Int) := by omega
      simp [evSs, evS, evE, evEs, evI, evO, evC, evA, R.bind, R.w, R.tru, R.int, R.ofO, getM, List.getElem?_cons_succ, List.getElem?_cons_zero, M.fz, List.set_cons_succ, List.set_cons_zero, List.length_cons, List.length_nil, List.map_cons, List.map_nil, List.append_nil, List.replicate, Nat.reduceAdd, Nat.reduceSub, List.cons_append, List.nil_append, if_true, if_false, Bool.false_eq_true, Option.map_some, Option.map_none, Option.bind_some, Option.isSome_some, truW, cmpW, binW, isTys, isTy, biW, wipeE, backE, bindT, bindTs, seqOf, zipS, callA, fillA, backA, borL, setT, parE, augW, idxW, idxM, slcM, lenM, mulOk, powOk, plainM, frzE, vN, hp, h2]
def b_end : Ss := (.cons (.ite (.cmp .eq (.var 2) (.var 1))
  (.cons (.retv 1)
  .nil)
  .nil)
  (.cons (.set (.nm 3) (.ife (.cmp .gt (.var 2) (.var 1)) (.comp [4] (.nm 4) (.seq (.var 0)) (.some (.cmp .gt (.var 4) (.var 1))) (.var 4)) (.comp [4] (.nm 4) (.seq (.var 0)) (.some (.cmp .lt (.var 4) (.var 1))) (.var 4))))
  (.cons (.ret (.ife (.cmp .gt (.var 2) (.var 1)) (.idx (.var 3) (.cst (.int 0))) (.idx (.var 3) (.neg (.cst (.int 1))))))
  .nil)))
theorem ixW_last {ws : List W} {w : W} (h : ws.getLast? = some w) : ixW ws (-1) = some w := by
  cases ws with
  | nil => cases h
  | cons x ws =>
    unfold ixW L2.atI L2.ixN
    have h1 : ¬ ((0 : Int) ≤ -1) := by decide
    rw [if_neg h1, if_pos (by simp only [List.length_cons]; omega)]
    rw [List.getLast?_eq_getElem?] at h
    simp only [Option.bind_some]
    rw [← h]
    congr 1
    simp only [List.length_cons]
    omega
theorem end_eq (hp : True) : evSs hd b_end [some (.im (.lst (l.map vN))), some (.im (vN p)), some (.im (vN p)), none, none] = .ok (.ret (.im (vN p))) [some (.im (.lst (l.map vN))), none, some (.im (vN p)), none, none] := by
  simp [b_end, evSs, evS, evE, evEs, evI, evO, evC, evA, R.bind, R.w, R.tru, R.int, R.ofO, getM, List.getElem?_cons_succ, List.getElem?_cons_zero, M.fz, List.set_cons_succ, List.set_cons_zero, List.length_cons, List.length_nil, List.map_cons, List.map_nil, List.append_nil, List.replicate, Nat.reduceAdd, Nat.reduceSub, List.cons_append, List.nil_append, if_true, if_false, Bool.false_eq_true, Option.map_some, Option.map_none, Option.bind_some, Option.isSome_some, truW, cmpW, binW, isTys, isTy, biW, wipeE, backE, bindT, bindTs, seqOf, zipS, callA, fillA, backA, borL, setT, parE, augW, idxW, idxM, slcM, lenM, mulOk, powOk, plainM, frzE, vN, eqW_int]
theorem end_gt (hl : l.length ≤ LIM) {o e : Nat} (h : p < o) (he : (l.filter fun q => decide (p < q))[0]? = some e) : ∃ x, evSs hd b_end [some (.im (.lst (l.map vN))), some (.im (vN p)), some (.im (vN o)), none, none] = .ok (.ret (.im (vN e))) [some (.im (.lst (l.map vN))), some (.im (vN p)), some (.im (vN o)), x, none] := by
  have e1 := cgt_ev (hd := hd) (l := l) (p := p) (a := some (.im (vN o))) (b := none) hl
  have h1 : ¬ ((o : Int) = (p : Int)) := by omega
  have h2 : (p : Int) < (o : Int) := by omega
  have h3 : ixW ((l.filter fun q => decide (p < q)).map vN) 0 = some (vN e) := ixW_nat (n := 0) (by rw [List.getElem?_map, he]; rfl)
  generalize (l.filter fun q => decide (p < q)).map vN = z at e1 h3
  refine ⟨some (.im (.lst z)), ?_⟩
  have s1 : evS hd (.ite (.cmp .eq (.var 2) (.var 1)) (.cons (.retv 1) .nil) .nil) [some (.im (.lst (l.map vN))), some (.im (vN p)), some (.im (vN o)), none, none] = .ok .nx [some (.im (.lst (l.map vN))), some (.im (vN p)), some (.im (vN o)), none, none] := by
    simp [evSs, evS, evE, evEs, evI, evO, evC, evA, R.bind, R.w, R.tru, R.int, R.ofO, getM, List.getElem?_cons_succ, List.getElem?_cons_zero, M.fz, List.set_cons_succ, List.set_cons_zero, List.length_cons, List.length_nil, List.map_cons, List.map_nil, List.append_nil, List.replicate, Nat.reduceAdd, Nat.reduceSub, List.cons_append, List.nil_append, if_true, if_false, Bool.false_eq_true, Option.map_some, Option.map_none, Option.bind_some, Option.isSome_some, truW, cmpW, binW, isTys, isTy, biW, wipeE, backE, bindT, bindTs, seqOf, zipS, callA, fillA, backA, borL, setT, parE, augW, idxW, idxM, slcM, lenM, mulOk, powOk, plainM, frzE, vN, eqW_int, h1]
  have t1 : ∀ y : Option M, (evE hd (.cmp .gt (.var 2) (.var 1)) [some (.im (.lst (l.map vN))), some (.im (vN p)), some (.im (vN o)), y, none]).tru = .ok true [some (.im (.lst (l.map vN))), some (.im (vN p)), some (.im (vN o)), y, none] := fun y => by
    simp [evSs, evS, evE, evEs, evI, evO, evC, evA, R.bind, R.w, R.tru, R.int, R.ofO, getM, List.getElem?_cons_succ, List.getElem?_cons_zero, M.fz, List.set_cons_succ, List.set_cons_zero, List.length_cons, List.length_nil, List.map_cons, List.map_nil, List.append_nil, List.replicate, Nat.reduceAdd, Nat.reduceSub, List.cons_append, List.nil_append, if_true, if_false, Bool.false_eq_true, Option.map_some, Option.map_none, Option.bind_some, Option.isSome_some, truW, cmpW, binW, isTys, isTy, biW, wipeE, backE, bindT, bindTs, seqOf, zipS, callA, fillA, backA, borL, setT, parE, augW, idxW, idxM, slcM, lenM, mulOk, powOk, plainM, frzE, vN, h2]
  have s2 : evE hd (.ife (.cmp .gt (.var 2) (.var 1)) c_gt c_lt) [some (.im (.lst (l.map vN))), some (.im (vN p)), some (.im (vN o)), none, none] = .ok (.ls z) [some (.im (.lst (l.map vN))), some (.im (vN p)), some (.im (vN o)), none, none] := by
    rw [evE, t1]
    simp only [R.bind, if_true]
    exact e1
  have s3 : evE hd (.ife (.cmp .gt (.var 2) (.var 1)) (.idx (.var 3) (.cst (.int 0))) (.idx (.var 3) (.neg (.cst (.int 1))))) [some (.im (.lst (l.map vN))), some (.im (vN p)), some (.im (vN o)), some (.ls z), none] = .ok (.im (vN e)) [some (.im (.lst (l.map vN))), some (.im (vN p)), some (.im (vN o)), some (.im (.lst z)), none] := by
    rw [evE, t1]
    simp [evSs, evS, evE, evEs, evI, evO, evC, evA, R.bind, R.w, R.tru, R.int, R.ofO, getM, List.getElem?_cons_succ, List.getElem?_cons_zero, M.fz, List.set_cons_succ, List.set_cons_zero, List.length_cons, List.length_nil, List.map_cons, List.map_nil, List.append_nil, List.replicate, Nat.reduceAdd, Nat.reduceSub, List.cons_append, List.nil_append, if_true, if_false, Bool.false_eq_true, Option.map_some, Option.map_none, Option.bind_some, Option.isSome_some, truW, cmpW, binW, isTys, isTy, biW, wipeE, backE, bindT, bindTs, seqOf, zipS, callA, fillA, backA, borL, setT, parE, augW, idxW, idxM, slcM, lenM, mulOk, powOk, plainM, frzE, h3]
  have s4 := ev_set (hd := hd) (i := 3) s2
  simp only [List.set_cons_succ, List.set_cons_zero] at s4
  show evSs hd (.cons _ (.cons (.set (.nm 3) (.ife (.cmp .gt (.var 2) (.var 1)) c_gt c_lt)) (.cons (.ret _) .nil))) _ = _
  simp only [evSs, s1, s4, R.bind]
  simp only [evS, s3, R.bind]
theorem end_lt (hl : l.length ≤ LIM) {o e : Nat} (h : o < p) (he : (l.filter fun q => decide (q < p)).getLast? = some e) : ∃ x, evSs hd b_end [some (.im (.lst (l.map vN))), some (.im (vN p)), some (.im (vN o)), none, none] = .ok (.ret (.im (vN e))) [some (.im (.lst (l.map vN))), some (.im (vN p)), some (.im (vN o)), x, none] := by
  have e1 := clt_ev (hd := hd) (l := l) (p := p) (a := some (.im (vN o))) (b := none) hl
  have h1 : ¬ ((o : Int) = (p : Int)) := by omega
  have h2 : ¬ (p : Int) < (o : Int) := by omega
  have h3 : ixW ((l.filter fun q => decide (q < p)).map vN) (-1) = some (vN e) := ixW_last (by rw [List.getLast?_map, he]; rfl)
  generalize (l.filter fun q => decide (q < p)).map vN = z at e1 h3
  refine ⟨some (.im (.lst z)), ?_⟩
  have s1 : evS hd (.ite (.cmp .eq (.var 2) (.var 1)) (.cons (.retv 1) .nil) .nil) [some (.im (.lst (l.map vN))), some (.im (vN p)), some (.im (vN o)), none, none] = .ok .nx [some (.im (.lst (l.map vN))), some (.im (vN p)), some (.im (vN o)), none, none] := by
    simp [evSs, evS, evE, evEs, evI, evO, evC, evA, R.bind, R.w, R.tru, R.int, R.ofO, getM, List.getElem?_cons_succ, List.getElem?_cons_zero, M.fz, List.set_cons_succ, List.set_cons_zero, List.length_cons, List.length_nil, List.map_cons, List.map_nil, List.append_nil, List.replicate, Nat.reduceAdd, Nat.reduceSub, List.cons_append, List.nil_append, if_true, if_false, Bool.false_eq_true, Option.map_some, Option.map_none, Option.bind_some, Option.isSome_some, truW, cmpW, binW, isTys, isTy, biW, wipeE, backE, bindT, bindTs, seqOf, zipS, callA, fillA, backA, borL, setT, parE, augW, idxW, idxM, slcM, lenM, mulOk, powOk, plainM, frzE, vN, eqW_int, h1]
  have t1 : ∀ y : Option M, (evE hd (.cmp .gt (.var 2) (.var 1)) [some (.im (.lst (l.map vN))), some (.im (vN p)), some (.im (vN o)), y, none]).tru = .ok false [some (.im (.lst (l.map vN))), some (.im (vN p)), some (.im (vN o)), y, none] := fun y => by
    simp [evSs, evS, evE, evEs, evI, evO, evC, evA, R.bind, R.w, R.tru, R.int, R.ofO, getM, List.getElem?_cons_succ, List.getElem?_cons_zero, M.fz, List.set_cons_succ, List.set_cons_zero, List.length_cons, List.length_nil, List.map_cons, List.map_nil, List.append_nil, List.replicate, Nat.reduceAdd, Nat.reduceSub, List.cons_append, List.nil_append, if_true, if_false, Bool.false_eq_true, Option.map_some, Option.map_none, Option.bind_some, Option.isSome_some, truW, cmpW, binW, isTys, isTy, biW, wipeE, backE, bindT, bindTs, seqOf, zipS, callA, fillA, backA, borL, setT, parE, augW, idxW, idxM, slcM, lenM, mulOk, powOk, plainM, frzE, vN, h2]
  have s2 : evE hd (.ife (.cmp .gt (.var 2) (.var 1)) c_gt c_lt) [some (.im (.lst (l.map vN))), some (.im (vN p)), some (.im (vN o)), none, none] = .ok (.ls z) [some (.im (.lst (l.map vN))), some (.im (vN p)), some (.im (vN o)), none, none] := by
    rw [evE, t1]
    simp only [R.bind, Bool.false_eq_true, if_false]
    exact e1
  have s3 : evE hd (.ife (.cmp .gt (.var 2) (.var 1)) (.idx (.var 3) (.cst (.int 0))) (.idx (.var 3) (.neg (.cst (.int 1))))) [some (.im (.lst (l.map vN))), some (.im (vN p)), some (.im (vN o)), some (.ls z), none] = .ok (.im (vN e)) [some (.im (.lst (l.map vN))), some (.im (vN p)), some (.im (vN o)), some (.im (.lst z)), none] := by
    rw [evE, t1]
    simp [evSs, evS, evE, evEs, evI, evO, evC, evA, R.bind, R.w, R.tru, R.int, R.ofO, getM, List.getElem?_cons_succ, List.getElem?_cons_zero, M.fz, List.set_cons_succ, List.set_cons_zero, List.length_cons, List.length_nil, List.map_cons, List.map_nil, List.append_nil, List.replicate, Nat.reduceAdd, Nat.reduceSub, List.cons_append, List.nil_append, if_true, if_false, Bool.false_eq_true, Option.map_some, Option.map_none, Option.bind_some, Option.isSome_some, truW, cmpW, binW, isTys, isTy, biW, wipeE, backE, bindT, bindTs, seqOf, zipS, callA, fillA, backA, borL, setT, parE, augW, idxW, idxM, slcM, lenM, mulOk, powOk, plainM, frzE, h3]
  have s4 := ev_set (hd := hd) (i := 3) s2
  simp only [List.set_cons_succ, List.set_cons_zero] at s4
  show evSs hd (.cons _ (.cons (.set (.nm 3) (.ife (.cmp .gt (.var 2) (.var 1)) c_gt c_lt)) (.cons (.ret _) .nil))) _ = _
  simp only [evSs, s1, s4, R.bind]
  simp only [evS, s3, R.bind]
end
end Dn
-- P7
set_option maxRecDepth 100000
set_option maxHeartbeats 4000000
/-! end_of, called. -/
namespace Dn
open PySem
/-- what a place comes to, by the places that are their own -/
def endS (s : List Nat) (p : Nat) : Nat := itF (fun p => s.getD p 0) (s.length - 1) p
section
variable {P : Pg} {n : Nat}
theorem end_ev {d : FD} (hP : P.fd 74 = some d) (hb : d.body = b_end) (hm : d.many = 3) (hnm : d.names.length = 5) (hlk : d.lock = []) {s : List Nat} (hl : s.length ≤ LIM) (h : ∀ o ∈ s, o < s.length)
    (mono : ∀ p q, p ≤ q → q < s.length → s.getD p 0 ≤ s.getD q 0) {p : Nat} (hp : p < s.length) :
    (P.th (n + 1)).fn 74 [.im (.lst ((fixS s).map vN)), .im (vN p), .im (vN (s.getD p 0))] = .ok (.im (vN (endS s p))) [.im .non, .im .non, .im .non] := by
  have hf : ∀ p, p < s.length → s.getD p 0 < s.length := fun p hp => by
    rw [List.getD_eq_getElem?_getD, List.getElem?_eq_getElem hp]
    exact h _ (List.getElem_mem hp)
  have hfl : (fixS s).length ≤ LIM := Nat.le_trans (List.length_filter_le _ _) (by simpa using hl)
  have key : ∃ r, evSs (P.th n) b_end [some (.im (.lst ((fixS s).map vN))), some (.im (vN p)), some (.im (vN (s.getD p 0))), none, none] = .ok (.ret (.im (vN (endS s p)))) r := by
    rcases Nat.lt_trichotomy p (s.getD p 0) with u | u | u
    · have e := end_right (f := fun p => s.getD p 0) hf mono hp u
      obtain ⟨x, e1⟩ := end_gt (hd := P.th n) (l := fixS s) (p := p) hfl u (e := endS s p) (by rw [fixS, List.filter_filter]; simpa [Bool.and_comm, endS] using e)
      exact ⟨_, e1⟩
    · have e0 : endS s p = p := by
        have := itF_fix (f := fun p => s.getD p 0) (p := p) (k := 0) u.symm (s.length - 1)
        rw [Nat.zero_add] at this
        exact this
      rw [← u, e0]
      exact ⟨_, end_eq True.intro⟩
    · have e := end_left (f := fun p => s.getD p 0) hf mono hp u
      obtain ⟨x, e1⟩ := end_lt (hd := P.th n) (l := fixS s) (p := p) hfl u (e := endS s p) (by rw [fixS, List.filter_filter]; simpa [Bool.and_comm, endS] using e)
      exact ⟨_, e1⟩
  obtain ⟨r, e⟩ := key
  rw [Pg.th]
  simp only [hP, runF, hb, hm, hnm, hlk, e, List.length_cons, List.length_nil, List.map_cons, List.map_nil, List.replicate, List.cons_append, List.nil_append, Nat.reduceAdd, Nat.reduceSub, if_true, argsOf_nil]
end
end Dn
-- Q0
set_option maxHeartbeats 200000
set_option maxRecDepth 100000
/-! The evaluator's equations for simp, lazily; ends. -/
namespace Dn
open PySem
/-- holds a thing, so that simp leaves it alone -/
inductive Dp {α : Type} (f : α) : Type
  | mk
/-- one behind the other; what comes then is looked at only then -/
def R.bnd {a b : Type} (x : R a) (f : a → Env → R b) (u : Dp f := .mk) : R b := x.bind f
theorem nrf {α : Sort _} {a b : α} (h : a = b) : a = b := h
/-- ends well, so -/
def OK {a : Type} (x : R a) (Q : a → Env → Prop) : Prop := ∃ v r, x = .ok v r ∧ Q v r
section
variable {a b : Type} {x x' : R a} {v : a} {r r1 : Env} {f : a → Env → R b} {Q Q' : a → Env → Prop} {w : W}
@[simp] theorem OK_ok : OK (.ok v r) Q ↔ Q v r := ⟨fun ⟨_, _, e, h⟩ => by cases e; exact h, fun h => ⟨v, r, rfl, h⟩⟩
theorem OK_bind {Q : b → Env → Prop} {u : Dp f} : OK (x.bnd f u) Q ↔ OK x fun v r => OK (f v r) Q := by
  constructor
  · rintro ⟨v, r, e, h⟩
    cases x with
    | ok u r1 => exact ⟨u, r1, rfl, v, r, e, h⟩
    | exc _ _ => cases e
    | stuck => cases e
  · rintro ⟨u, r1, rfl, v, r, e, h⟩
    exact ⟨v, r, e, h⟩
theorem OK.bnd {Q : b → Env → Prop} {u : Dp f} (h : OK x Q') (k : ∀ v r, Q' v r → OK (f v r) Q) : OK (x.bnd f u) Q := by
  obtain ⟨v, r, rfl, hq⟩ := h
  exact k v r hq
theorem OK.mono (h : OK x Q') (k : ∀ v r, Q' v r → Q v r) : OK x Q := by
  obtain ⟨v, r, e, hq⟩ := h
  exact ⟨v, r, e, k v r hq⟩
/-- what is asked of the end, out of sight meanwhile -/
theorem OK_gen (h : ∀ Q' : a → Env → Prop, (∀ v r, Q v r → Q' v r) → OK x Q') : OK x Q := h Q fun _ _ h => h
theorem OK_of_eq (e : x = x') (h : OK x' Q) : OK x Q := e ▸ h
@[simp] theorem Rbind_ok : R.bind (.ok v r) f = f v r := nrf rfl
@[simp] theorem Rbind_exc : R.bind (.exc w r) f = .exc w r := nrf rfl
@[simp] theorem Rbind_stuck : R.bind .stuck f = .stuck := nrf rfl
@[simp] theorem bnd_ok {u : Dp f} : R.bnd (.ok v r) f u = f v r := nrf rfl
@[simp] theorem bnd_exc {u : Dp f} : R.bnd (.exc w r) f u = .exc w r := nrf rfl
@[simp] theorem bnd_stuck {u : Dp f} : R.bnd .stuck f u = .stuck := nrf rfl
/-- what stands there, or stuck -/
def oM {α : Type} (o : Option α) (f : α → R b) (u : Dp f := .mk) : R b := match o with
  | some x => f x
  | none => .stuck
@[simp] theorem oM_some {α : Type} {x : α} {f : α → R b} {u : Dp f} : oM (some x) f u = f x := nrf rfl
@[simp] theorem oM_none {α : Type} {f : α → R b} {u : Dp f} : oM none f u = .stuck := nrf rfl
theorem oM_of {α : Type} {o : Option α} {x : α} {f : α → R b} {u : Dp f} (h : o = some x) : oM o f u = f x := by rw [h]; rfl
/-- by a truth -/
def bM (k : Bool) (x y : R b) (u : Dp x := .mk) (u2 : Dp y := .mk) : R b := if k then x else y
@[simp] theorem bM_true {x y : R b} {u : Dp x} {u2 : Dp y} : bM true x y u u2 = x := nrf rfl
@[simp] theorem bM_false {x y : R b} {u : Dp x} {u2 : Dp y} : bM false x y u u2 = y := nrf rfl
@[simp] theorem ofO_some {x : a} : R.ofO r (some x) = .ok x r := nrf rfl
@[simp] theorem ofO_none : R.ofO (a := a) r none = .stuck := nrf rfl
end
section
variable {h : Th} {r r1 : Env} {i f : Nat} {e a b c k : E} {es : Es} {as ks : As} {o p : CO} {w : W} {m : M} {it : It} {t : T} {own : List Nat} {oc : OE}
@[simp] theorem R_w_ok : R.w (.ok m r) = .ok m.fz r := nrf rfl
@[simp] theorem R_tru_ok : R.tru (.ok m r) = R.ofO r (truW m.fz) := nrf rfl
@[simp] theorem R_int_ok {i : Int} : R.int (.ok (.im (.int i)) r) = .ok i r := nrf rfl
@[simp] theorem R_w_ite {q : Prop} [Decidable q] {x y : R M} : R.w (if q then x else y) = if q then x.w else y.w := by split <;> rfl
@[simp] theorem fz_im : (M.im w).fz = w := nrf rfl
@[simp] theorem fz_ls {ws : List W} : (M.ls ws).fz = .lst ws := nrf rfl
@[simp] theorem getM_0 {x : Option M} {l : Env} : getM (x :: l) 0 = x := by cases x <;> rfl
@[simp] theorem getM_s {x : Option M} {l : Env} {n : Nat} : getM (x :: l) (n + 1) = getM l n := nrf rfl
@[simp] theorem eE_var : evE h (.var i) r = oM (getM r i) fun m => .ok (.im m.fz) (r.set i (some (.im m.fz))) := by
  show (match getM r i with | some m => _ | none => _) = _
  cases getM r i <;> rfl
@[simp] theorem eE_cst : evE h (.cst w) r = .ok (.im w) r := nrf rfl
@[simp] theorem eE_glob {x : Str} : evE h (.glob x w) r = .ok (.im w) r := nrf rfl
@[simp] theorem eE_frz : evE h (.frz e) r = (evE h e r).bnd fun m r1 => .ok (.im m.fz) r1 := nrf rfl
@[simp] theorem eE_bin {o : BO} : evE h (.bin o a b) r = (evE h a r).w.bnd fun x r1 => (evE h b r1).w.bnd fun y r2 => R.ofO r2 (binW o x y) := nrf rfl
@[simp] theorem eE_neg : evE h (.neg a) r = (evE h a r).int.bnd fun i r1 => .ok (.im (.int (-i))) r1 := nrf rfl
@[simp] theorem eE_inv : evE h (.inv a) r = (evE h a r).tru.bnd fun b r1 => .ok (.im (.bl (!b))) r1 := nrf rfl
@[simp] theorem eE_con : evE h (.con a b) r = (evE h a r).w.bnd fun w r1 => oM (truW w) fun k => bM k (evE h b r1) (.ok (.im w) r1) := by
  show (evE h a r).w.bind _ = R.bind _ _
  congr 1
  funext w r1
  cases truW w with
  | none => rfl
  | some k => cases k <;> rfl
@[simp] theorem eE_dis : evE h (.dis a b) r = (evE h a r).w.bnd fun w r1 => oM (truW w) fun k => bM k (.ok (.im w) r1) (evE h b r1) := by
  show (evE h a r).w.bind _ = R.bind _ _
  congr 1
  funext w r1
  cases truW w with
  | none => rfl
  | some k => cases k <;> rfl
@[simp] theorem eE_cmp : evE h (.cmp o a b) r = (evE h a r).w.bnd fun x r1 => (evE h b r1).w.bnd fun y r2 => oM (cmpW o x y) fun b => .ok (.im (.bl b)) r2 := by
  show (evE h a r).w.bind _ = R.bind _ _
  congr 1
  funext x r1
  show R.bind _ _ = R.bind _ _
  congr 1
  funext y r2
  cases cmpW o x y <;> rfl
@[simp] theorem eE_chn : evE h (.chn o p a b c) r = (evE h a r).w.bnd fun x r1 => (evE h b r1).w.bnd fun y r2 => oM (cmpW o x y) fun k => bM k ((evE h c r2).w.bnd fun z r3 => oM (cmpW p y z) fun b => .ok (.im (.bl b)) r3) (.ok (.im (.bl false)) r2) := by
  show (evE h a r).w.bind _ = R.bind _ _
  congr 1
  funext x r1
  show R.bind _ _ = R.bind _ _
  congr 1
  funext y r2
  cases cmpW o x y with
  | none => rfl
  | some k =>
    cases k with
    | false => rfl
    | true =>
      show (evE h c r2).w.bind _ = (evE h c r2).w.bind _
      congr 1
      funext z r3
      cases cmpW p y z <;> rfl
@[simp] theorem eE_ife : evE h (.ife c a b) r = (evE h c r).tru.bnd fun k r1 => bM k (evE h a r1) (evE h b r1) := nrf rfl
@[simp] theorem eE_tup : evE h (.tup es) r = (evEs h es r).bnd fun ws r1 => bM (decide (ws.length ≤ LIM)) (.ok (.im (.tup ws)) r1) .stuck := by
  show (evEs h es r).bind _ = R.bind _ _
  congr 1
  funext ws r1
  by_cases hl : ws.length ≤ LIM <;> simp [hl]
@[simp] theorem eE_lst : evE h (.lst es) r = (evEs h es r).bnd fun ws r1 => bM (decide (ws.length ≤ LIM)) (.ok (.ls ws) r1) .stuck := by
  show (evEs h es r).bind _ = R.bind _ _
  congr 1
  funext ws r1
  by_cases hl : ws.length ≤ LIM <;> simp [hl]
@[simp] theorem eE_idx : evE h (.idx a b) r = (evE h a r).w.bnd fun x r1 => (evE h b r1).int.bnd fun k r2 => oM (idxW x k) fun w => .ok (.im w) r2 := by
  show (evE h a r).w.bind _ = R.bind _ _
  congr 1
  funext x r1
  show R.bind _ _ = R.bind _ _
  congr 1
  funext y r2
  cases idxW x y <;> rfl
@[simp] theorem eE_slc {lo hi : OE} : evE h (.slc a lo hi) r = (evE h a r).w.bnd fun x r1 => (evO h lo r1).bnd fun l r2 => (evO h hi r2).bnd fun u r3 => R.ofO r3 (slcM (.im x) l u) := nrf rfl
@[simp] theorem eE_pidx : evE h (.pidx i [] e) r = bM (getM r i).isSome ((evE h e r).int.bnd fun k r1 => oM (getM r1 i) fun m => oM (idxM m k) fun w => .ok (.im w) r1) .stuck := by
  show (if _ then _ else _) = _
  cases hg : (getM r i).isSome with
  | false => simp
  | true =>
    simp only [true_and, if_true, bM_true]
    congr 1
    funext k r1
    cases getM r1 i with
    | none => rfl
    | some m =>
      simp only [oM_some]
      show R.ofO r1 (Option.map M.im (idxM m k)) = _
      cases idxM m k <;> rfl
@[simp] theorem eE_pslc {lo hi : OE} : evE h (.pslc i [] lo hi) r = bM (getM r i).isSome ((evO h lo r).bnd fun l r1 => (evO h hi r1).bnd fun u r2 => oM (getM r2 i) fun m => R.ofO r2 (slcM m l u)) .stuck := by
  show (if _ then _ else _) = _
  cases hg : (getM r i).isSome with
  | false => simp
  | true =>
    simp only [true_and, if_true, bM_true]
    congr 1
    funext k r1
    congr 1
    funext u r2
    cases getM r2 i with
    | none => rfl
    | some m => rfl
@[simp] theorem eE_plen : evE h (.plen i []) r = oM ((getM r i).bind lenM) fun n => .ok (.im (.int n)) r := by
  show R.ofO r (Option.map _ ((getM r i).bind lenM)) = _
  cases (getM r i).bind lenM <;> rfl
@[simp] theorem eE_bi {b : BI} : evE h (.bi b es) r = (evEs h es r).bnd fun ws r1 => R.ofO r1 (biW b ws) := nrf rfl
/-- the list that i owns -/
def lsM {a : Type} (m : M) (x y : R a) (u : Dp x := .mk) (u2 : Dp y := .mk) : R a := match m with
  | .ls _ => x
  | _ => y
@[simp] theorem lsM_ls {a : Type} {ws : List W} {x y : R a} {u : Dp x} {u2 : Dp y} : lsM (.ls ws) x y u u2 = x := nrf rfl
@[simp] theorem eE_mut {m : MU} : evE h (.mut m i [] es) r = oM (getM r i) fun z => lsM z ((evEs h es r).bnd fun ws r1 => oM (getM r1 i) fun x => oM (mutW m x ws) fun y => .ok y.1 (r1.set i (some y.2))) .stuck := by
  cases hg : getM r i with
  | none => simp [evE, hg]
  | some z =>
    cases z with
    | ls ws =>
      simp only [evE, hg, oM_some, lsM_ls]
      show R.bind _ _ = R.bind _ _
      congr 1
      funext ws r1
      cases getM r1 i with
      | none => rfl
      | some x =>
        simp only [oM_some, Option.bind_some]
        cases mutW m x ws <;> rfl
    | _ => simp [evE, hg, lsM]
@[simp] theorem eE_call : evE h (.call f as) r = (evA h as r).bnd fun l r1 => callA (h.fn f) l r1 := nrf rfl
@[simp] theorem eE_callk {pm : List Nat} : evE h (.callk f as ks pm) r = (evA h as r).bnd fun l r1 => (evA h ks r1).bnd fun l2 r2 => bM (pmOk pm (l ++ l2).length && allR (l ++ l2)) (callA (h.fn f) (pmA pm (l ++ l2)) r2) .stuck := nrf rfl
@[simp] theorem eE_mth {m : MT} : evE h (.mth m e es) r = (evE h e r).w.bnd fun x r1 => bM (mthTy m x) ((evEs h es r1).bnd fun ws r2 => R.ofO r2 (mthW m x ws)) .stuck := nrf rfl
/-- a comprehension's turn -/
def cT (h : Th) (own : List Nat) (t : T) (c : OE) (e : E) : W → Env → R (Option W) := fun w r => oM (bindT t w r) fun r2 => (evC h c r2).bnd fun k r3 => bM k ((evE h e r3).w.bnd fun x r4 => .ok (some x) (wipeE own r4)) (.ok none (wipeE own r3))
theorem cT_eq {c : OE} : (fun w r => match bindT t w r with
        | some r2 => (evC h c r2).bind fun k r3 => if k then (evE h e r3).w.bind fun x r4 => .ok (some x) (wipeE own r4) else .ok none (wipeE own r3)
        | none => .stuck) = cT h own t c e := by
  funext w r
  unfold cT
  cases bindT t w r <;> rfl
@[simp] theorem eE_comp {c : OE} : evE h (.comp own t it c e) r = (evI h it r).bnd fun ws r1 => (compL (cT h own t c e) ws (wipeE own r1) []).bnd fun xs r2 => .ok (.ls xs) (backE own r1 r2) := by
  rw [← cT_eq]; rfl
@[simp] theorem eE_isi {ts : List TY} : evE h (.isi a ts) r = (evE h a r).w.bnd fun x r1 => oM (isTys ts x) fun b => .ok (.im (.bl b)) r1 := by
  show (evE h a r).w.bind _ = R.bind _ _
  congr 1
  funext x r1
  cases isTys ts x <;> rfl
/-- an exception that is held -/
def excM {a : Type} (w : W) (f : Nat → List Str → List W → R a) (u : Dp f := .mk) : R a := match w with
  | .exc c ns ws => f c ns ws
  | _ => .stuck
@[simp] theorem excM_exc {a : Type} {c : Nat} {ns : List Str} {ws : List W} {f : Nat → List Str → List W → R a} {u : Dp f} : excM (.exc c ns ws) f u = f c ns ws := nrf rfl
@[simp] theorem eE_isx {ts : List XT} : evE h (.isx a ts) r = (evE h a r).w.bnd fun x r1 => excM x fun c _ _ => oM (h.ex c) fun d => .ok (.im (.bl (ts.any (xtB d)))) r1 := by
  show (evE h a r).w.bind _ = R.bind _ _
  congr 1
  funext x r1
  cases x with
  | exc c ns ws => simp only [excM_exc]; cases h.ex c <;> rfl
  | _ => rfl
@[simp] theorem eE_fld {f : Str} : evE h (.fld a f) r = (evE h a r).w.bnd fun x r1 => excM x fun c ns ws => oM (h.ex c) fun d => bM (d.fs.contains f) (oM (fldW ns ws f) fun w => .ok (.im w) r1) .stuck := by
  show (evE h a r).w.bind _ = R.bind _ _
  congr 1
  funext x r1
  cases x with
  | exc c ns ws =>
    simp only [excM_exc]
    cases h.ex c with
    | none => rfl
    | some d =>
      simp only [oM_some, Option.bind_some]
      cases hc : d.fs.contains f with
      | true =>
        simp only [if_true, bM_true]
        cases fldW ns ws f <;> rfl
      | false => rfl
  | _ => rfl
def lstM {a : Type} (w : W) (f : List W → R a) (u : Dp f := .mk) : R a := match w with
  | .lst ws => f ws
  | _ => .stuck
@[simp] theorem lstM_lst {a : Type} {ws : List W} {f : List W → R a} {u : Dp f} : lstM (.lst ws) f u = f ws := nrf rfl
@[simp] theorem eE_rvs : evE h (.rvs a) r = (evE h a r).w.bnd fun x r1 => lstM x fun ws => .ok (.ls ws.reverse) r1 := by
  show (evE h a r).w.bind _ = R.bind _ _
  congr 1
def fnM {a : Type} (w : W) (f : Nat → R a) (u : Dp f := .mk) : R a := match w with
  | .fn k => f k
  | _ => .stuck
@[simp] theorem fnM_fn {a : Type} {k : Nat} {f : Nat → R a} {u : Dp f} : fnM (.fn k) f u = f k := nrf rfl
@[simp] theorem eE_fnr : evE h (.fnr f) r = .ok (.im (.fn f)) r := nrf rfl
@[simp] theorem eE_cld : evE h (.cld e as) r = (evE h e r).w.bnd fun x r1 => fnM x fun f => (evA h as r1).bnd fun l r2 => bM (allR l) (callA (h.fn f) l r2) .stuck := by
  show (evE h e r).w.bind _ = R.bind _ _
  congr 1
@[simp] theorem eE_rg1 {t : Bool} : evE h (.rg1 t b) r = (evE h b r).int.bnd fun j r1 => R.ofO r1 (rngM t 0 j) := nrf rfl
@[simp] theorem eE_rg2 {t : Bool} : evE h (.rg2 t a b) r = (evE h a r).int.bnd fun i r1 => (evE h b r1).int.bnd fun j r2 => R.ofO r2 (rngM t i j) := nrf rfl
/-- only the value, kept aside -/
def purR (x : R M) (r : Env) : R M := match x with
  | .ok m _ => oM (plainM m) fun w => .ok (.im w) r
  | _ => .stuck
@[simp] theorem purR_ok {r0 : Env} : purR (.ok m r0) r = oM (plainM m) fun w => .ok (.im w) r := nrf rfl
@[simp] theorem eE_pur : evE h (.pur e) r = purR (evE h e (frzE r)) r := by
  show (match evE h e (frzE r) with | .ok m _ => (match plainM m with | some w => _ | none => _) | _ => _) = _
  unfold purR
  cases evE h e (frzE r) with
  | ok m r1 =>
    show (match plainM m with | some w => _ | none => _) = oM (plainM m) _
    cases plainM m <;> rfl
  | _ => rfl
@[simp] theorem eE_srs : evE h (.srs e) r = (evE h e r).w.bnd fun x r1 => oM ((seqOf x).bind setW) fun is => .ok (.ls (is.map .int)) r1 := by
  show (evE h e r).w.bind _ = R.bind _ _
  congr 1
  funext x r1
  cases (seqOf x).bind setW <;> rfl
@[simp] theorem eE_lns : evE h (.lns e) r = (evE h e r).w.bnd fun x r1 => oM ((seqOf x).bind setW) fun is => .ok (.im (.int is.length)) r1 := by
  show (evE h e r).w.bind _ = R.bind _ _
  congr 1
  funext x r1
  cases (seqOf x).bind setW <;> rfl
/-- sorted of a list -/
def srtM : W → Option M
  | .lst ws => sortW ws
  | _ => none
@[simp] theorem srtM_l {ws : List W} : srtM (.lst ws) = sortW ws := nrf rfl
@[simp] theorem eE_srt : evE h (.srt e) r = (evE h e r).w.bnd fun x r1 => R.ofO r1 (srtM x) := by
  show (evE h e r).w.bind _ = R.bind _ _
  congr 1
  funext x r1
  cases x <;> rfl
@[simp] theorem eEs_nil : evEs h .nil r = .ok [] r := nrf rfl
@[simp] theorem eEs_cons : evEs h (.cons e es) r = (evE h e r).w.bnd fun x r1 => (evEs h es r1).bnd fun xs r2 => .ok (x :: xs) r2 := nrf rfl
@[simp] theorem eO_none : evO h .none r = .ok none r := nrf rfl
@[simp] theorem eO_some : evO h (.some e) r = (evE h e r).int.bnd fun i r1 => .ok (some i) r1 := nrf rfl
@[simp] theorem eC_none : evC h .none r = .ok true r := nrf rfl
@[simp] theorem eC_some : evC h (.some e) r = (evE h e r).tru := nrf rfl
@[simp] theorem eA_nil : evA h .nil r = .ok [] r := nrf rfl
@[simp] theorem eA_val : evA h (.val e as) r = (evE h e r).bnd fun m r1 => (evA h as r1).bnd fun l r2 => .ok (.inr m :: l) r2 := nrf rfl
@[simp] theorem eA_bor : evA h (.bor i as) r = bM (getM r i).isSome ((evA h as r).bnd fun l r1 => .ok (.inl i :: l) r1) .stuck := nrf rfl
@[simp] theorem eI_seq : evI h (.seq e) r = (evE h e r).w.bnd fun x r1 => R.ofO r1 (seqOf x) := nrf rfl
def rOk (m : Int) : Bool := decide (-(2 ^ 62) ≤ m ∧ m < 2 ^ 62)
theorem rOk_nat {n : Nat} (hn : n < 2 ^ 62) : rOk (n : Int) = true := by
  unfold rOk
  exact decide_eq_true (by omega)
theorem rOk_of {n : Int} (h1 : -(2 ^ 62) ≤ n) (h2 : n < 2 ^ 62) : rOk n = true := decide_eq_true ⟨h1, h2⟩
@[simp] theorem eI_rng1 : evI h (.rng1 a) r = (evE h a r).int.bnd fun n r1 => bM (rOk n) (.ok (upTo 0 n.toNat) r1) .stuck := by
  show (evE h a r).int.bind _ = R.bind _ _
  congr 1
  funext n r1
  unfold rOk
  by_cases hl : -(2 ^ 62) ≤ n ∧ n < 2 ^ 62
  · rw [if_pos hl, decide_eq_true hl]; rfl
  · rw [if_neg hl, decide_eq_false hl]; rfl
@[simp] theorem eI_rng2 : evI h (.rng2 a b) r = (evE h a r).int.bnd fun m r1 => (evE h b r1).int.bnd fun n r2 => bM (rOk m && rOk n) (.ok (upTo m (n - m).toNat) r2) .stuck := by
  show (evE h a r).int.bind _ = R.bind _ _
  congr 1
  funext m r1
  show R.bind _ _ = R.bind _ _
  congr 1
  funext n r2
  unfold rOk
  by_cases hl : (-(2 ^ 62) ≤ m ∧ m < 2 ^ 62) ∧ (-(2 ^ 62) ≤ n ∧ n < 2 ^ 62)
  · rw [if_pos hl, decide_eq_true hl.1, decide_eq_true hl.2]; rfl
  · rw [if_neg hl]
    by_cases h1 : -(2 ^ 62) ≤ m ∧ m < 2 ^ 62
    · have h2 : ¬ (-(2 ^ 62) ≤ n ∧ n < 2 ^ 62) := fun z => hl ⟨h1, z⟩
      rw [decide_eq_false h2, Bool.and_false]; rfl
    · rw [decide_eq_false h1, Bool.false_and]; rfl
@[simp] theorem eI_rng3 : evI h (.rng3 a b c) r = (evE h a r).int.bnd fun m r1 => (evE h b r1).int.bnd fun n r2 => (evE h c r2).int.bnd fun k r3 => bM (decide (k = -1) && (rOk m && rOk n)) (.ok (dnTo m (m - n).toNat) r3) .stuck := by
  show (evE h a r).int.bind _ = R.bind _ _
  congr 1
  funext m r1
  show R.bind _ _ = R.bind _ _
  congr 1
  funext n r2
  show R.bind _ _ = R.bind _ _
  congr 1
  funext k r3
  unfold rOk
  by_cases hl : k = -1 ∧ (-(2 ^ 62) ≤ m ∧ m < 2 ^ 62) ∧ (-(2 ^ 62) ≤ n ∧ n < 2 ^ 62)
  · rw [if_pos hl, decide_eq_true hl.1, decide_eq_true hl.2.1, decide_eq_true hl.2.2]; rfl
  · rw [if_neg hl]
    have : (decide (k = -1) && (decide (-(2 ^ 62) ≤ m ∧ m < 2 ^ 62) && decide (-(2 ^ 62) ≤ n ∧ n < 2 ^ 62))) = false := by
      rw [Bool.eq_false_iff]
      intro hz
      simp only [Bool.and_eq_true, decide_eq_true_eq] at hz
      exact hl hz
    rw [this]; rfl
@[simp] theorem eI_enum : evI h (.enum e) r = (evE h e r).w.bnd fun x r1 => oM (seqOf x) fun ws => .ok (enumFrom 0 ws) r1 := by
  show (evE h e r).w.bind _ = R.bind _ _
  congr 1
  funext x r1
  cases seqOf x <;> rfl
@[simp] theorem eI_zip2 : evI h (.zip2 a b) r = (evE h a r).w.bnd fun x r1 => (evE h b r1).w.bnd fun y r2 => R.ofO r2 (zipS x y) := nrf rfl
@[simp] theorem eI_rev : evI h (.rev e) r = (evE h e r).w.bnd fun x r1 => oM (seqOf x) fun ws => .ok ws.reverse r1 := by
  show (evE h e r).w.bind _ = R.bind _ _
  congr 1
  funext x r1
  cases seqOf x <;> rfl
end
section
variable {h : Th} {r r1 : Env} {i f : Nat} {e a b c k : E} {es : Es} {as ks : As} {w : W} {m : M} {it : It} {t : T} {s : S} {ss s1 s2 : Ss}
@[simp] theorem eS_set : evS h (.set t e) r = (evE h e r).bnd fun m r1 => oM (setT t m r1) fun r2 => .ok .nx r2 := by
  show (evE h e r).bind _ = R.bind _ _
  congr 1
  funext m r1
  cases setT t m r1 <;> rfl
@[simp] theorem eS_par {is : List Nat} : evS h (.par is as) r = (evA h as r).bnd fun l r1 => oM (parE is l r1) fun r2 => .ok .nx r2 := by
  show (evA h as r).bind _ = R.bind _ _
  congr 1
  funext m r1
  cases parE is m r1 <;> rfl
def imM {a : Type} (m : M) (f : W → R a) (u : Dp f := .mk) : R a := match m with
  | .im w => f w
  | _ => .stuck
@[simp] theorem imM_im {a : Type} {f : W → R a} {u : Dp f} : imM (.im w) f u = f w := nrf rfl
@[simp] theorem eS_aug {o : BO} : evS h (.aug i o e) r = oM (getM r i) fun m => imM m fun x => (evE h e r).w.bnd fun y r1 => oM (augW o x y) fun w => .ok .nx (r1.set i (some (.im w))) := by
  rw [evS]
  cases getM r i with
  | none => rfl
  | some m =>
    cases m with
    | im x =>
      simp only [oM_some, imM_im]
      congr 1
      funext y r1
      cases augW o x y <;> rfl
    | _ => rfl
/-- a list with another thing at a place -/
def setI (m : M) (k : Int) (w : W) : Option M := match m with
  | .ls ws => (L2.ixN ws.length k).map fun j => .ls (ws.set j w)
  | _ => none
@[simp] theorem eS_seti {x : E} : evS h (.seti i [] x e) r = (evE h e r).w.bnd fun w r1 => bM (getM r1 i).isSome ((evE h x r1).int.bnd fun k r2 => oM (getM r2 i) fun m => oM (setI m k w) fun m' => .ok .nx (r2.set i (some m'))) .stuck := by
  show (evE h e r).w.bind _ = R.bind _ _
  congr 1
  funext w r1
  cases hg : (getM r1 i).isSome with
  | false => simp
  | true =>
    simp only [true_and, if_true, bM_true]
    congr 1
    funext k r2
    cases getM r2 i with
    | none => rfl
    | some m =>
      cases m with
      | ls ws =>
        show (match L2.ixN ws.length k with | some j => _ | none => _) = oM (Option.map _ (L2.ixN ws.length k)) _
        cases L2.ixN ws.length k <;> rfl
      | _ => rfl
@[simp] theorem eS_ex : evS h (.ex e) r = (evE h e r).bnd fun _ r1 => .ok .nx r1 := nrf rfl
@[simp] theorem eS_ret : evS h (.ret e) r = (evE h e r).bnd fun m r1 => .ok (.ret m) r1 := nrf rfl
@[simp] theorem eS_retv : evS h (.retv i) r = oM (getM r i) fun m => .ok (.ret m) (r.set i none) := by
  rw [evS]
  cases getM r i <;> rfl
@[simp] theorem eS_retn : evS h .retn r = .ok (.ret (.im .non)) r := nrf rfl
@[simp] theorem eS_ite : evS h (.ite c s1 s2) r = (evE h c r).tru.bnd fun k r1 => bM k (evSs h s1 r1) (evSs h s2 r1) := nrf rfl
/-- a turn of a loop -/
def fT (h : Th) (t : T) (b : Ss) : W → Env → R Fl := fun w r => oM (bindT t w r) fun r2 => evSs h b r2
@[simp] theorem eS_for : evS h (.for_ t it ss) r = (evI h it r).bnd fun ws r1 => forL (fT h t ss) ws r1 := by
  show (evI h it r).bind _ = R.bind _ _
  congr 1
  funext ws r1
  congr 1
  funext w r
  unfold fT
  cases bindT t w r <;> rfl
@[simp] theorem eS_rse {c : Nat} : evS h (.rse c es) r = bM h.rz ((evEs h es r).bnd fun ws r1 => oM (h.ex c) fun d => bM (decide (d.fs.length = ws.length)) (.exc (.exc c d.fs ws) r1) .stuck) .stuck := by
  rw [evS]
  cases h.rz with
  | false => rfl
  | true =>
    simp only [if_true, bM_true]
    show R.bind _ _ = R.bind _ _
    congr 1
    funext ws r1
    cases h.ex c with
    | none => rfl
    | some d =>
      simp only [oM_some]
      by_cases hl : d.fs.length = ws.length
      · rw [if_pos hl, decide_eq_true hl, bM_true]
      · rw [if_neg hl, decide_eq_false hl, bM_false]
/-- what a try does with an end -/
def tryR (h : Th) (cs : List Str) (n i : Nat) : R Fl → R Fl
  | .ok f r1 => .ok f r1
  | .exc w r1 => excM w fun c ns ws => oM (h.ex c) fun d => bM (cs.contains d.name) (.ok .nx ((r1.set n none).set i (some (.im (.exc c ns ws))))) (.exc (.exc c ns ws) r1)
  | .stuck => .stuck
@[simp] theorem tryR_ok {cs : List Str} {n i : Nat} {f : Fl} : tryR h cs n i (.ok f r) = .ok f r := nrf rfl
@[simp] theorem tryR_exc {cs : List Str} {n i c : Nat} {ns : List Str} {ws : List W} : tryR h cs n i (.exc (.exc c ns ws) r) = oM (h.ex c) fun d => bM (cs.contains d.name) (.ok .nx ((r.set n none).set i (some (.im (.exc c ns ws))))) (.exc (.exc c ns ws) r) := nrf rfl
@[simp] theorem eS_try {cs : List Str} {n i : Nat} : evS h (.tryc ss cs n i) r = tryR h cs n i (evSs h ss r) := by
  rw [evS]
  cases evSs h ss r with
  | ok f r1 => rfl
  | stuck => rfl
  | exc w r1 =>
    cases w with
    | exc c ns ws =>
      simp only [tryR_exc]
      cases h.ex c with
      | none => rfl
      | some d =>
        simp only [oM_some]
        cases cs.contains d.name <;> rfl
    | _ => rfl
/-- a while's test -/
def wC (h : Th) (c : E) : Env → R Bool := fun r => (evE h c r).tru
theorem wC_eq : wC h c r = (evE h c r).tru := rfl
@[simp] theorem eS_whl : evS h (.whl c ss) r = whlL (wC h c) (evSs h ss) h.fuel r := nrf rfl
@[simp] theorem eS_pas : evS h .pas r = .ok .nx r := nrf rfl
@[simp] theorem eS_brk : evS h .brk r = .ok .bk r := nrf rfl
@[simp] theorem eSs_nil : evSs h .nil r = .ok .nx r := nrf rfl
/-- on, where nothing ends it -/
def onF (f : Fl) (r : Env) (k : Env → R Fl) : R Fl := match f with
  | .nx => k r
  | f => .ok f r
@[simp] theorem onF_nx {k : Env → R Fl} : onF .nx r k = k r := nrf rfl
@[simp] theorem onF_ret {k : Env → R Fl} : onF (.ret m) r k = .ok (.ret m) r := nrf rfl
@[simp] theorem onF_bk {k : Env → R Fl} : onF .bk r k = .ok .bk r := nrf rfl
@[simp] theorem eSs_cons : evSs h (.cons s ss) r = (evS h s r).bnd fun f r1 => onF f r1 (evSs h ss) := by
  show (evS h s r).bind _ = R.bind _ _
  congr 1
@[simp] theorem forL_nil {f : W → Env → R Fl} : forL f [] r = .ok .nx r := nrf rfl
@[simp] theorem compL_nil {f : W → Env → R (Option W)} {acc : List W} : compL f [] r acc = .ok acc r := nrf rfl
/-- on with a loop -/
def onL (f : Fl) (r : Env) (k : Env → R Fl) : R Fl := match f with
  | .nx => k r
  | .bk => .ok .nx r
  | .ret m => .ok (.ret m) r
@[simp] theorem onL_nx {k : Env → R Fl} : onL .nx r k = k r := nrf rfl
@[simp] theorem onL_ret {k : Env → R Fl} : onL (.ret m) r k = .ok (.ret m) r := nrf rfl
@[simp] theorem onL_bk {k : Env → R Fl} : onL .bk r k = .ok .nx r := nrf rfl
theorem eL_cons {f : W → Env → R Fl} {ws : List W} : forL f (w :: ws) r = (f w r).bnd fun z r1 => onL z r1 (forL f ws) := by
  rw [forL]
  cases f w r with
  | ok z r1 => cases z <;> rfl
  | _ => rfl
theorem whlL_succ {c : Env → R Bool} {f : Env → R Fl} {n : Nat} : whlL c f (n + 1) r = (c r).bnd fun k r1 => bM k ((f r1).bnd fun z r2 => onL z r2 (whlL c f n)) (.ok .nx r1) := by
  rw [whlL]
  cases c r with
  | ok k r1 =>
    cases k with
    | true =>
      simp only [bnd_ok, bM_true]
      cases f r1 with
      | ok z r2 => cases z <;> rfl
      | _ => rfl
    | false => rfl
  | _ => rfl
@[simp] theorem setT_nm {n : Nat} : setT (.nm n) m r = some (r.set n (some m)) := nrf rfl
@[simp] theorem setT_tp {ts : List T} : setT (.tp ts) m r = bindT (.tp ts) m.fz r := nrf rfl
@[simp] theorem bindT_nm {n : Nat} : bindT (.nm n) w r = some (r.set n (some (.im w))) := by simp only [bindT]
@[simp] theorem bindT_tup {ts : List T} {ws : List W} : bindT (.tp ts) (.tup ws) r = bindTs ts ws r := by simp only [bindT]
@[simp] theorem bindT_lst {ts : List T} {ws : List W} : bindT (.tp ts) (.lst ws) r = bindTs ts ws r := by simp only [bindT]
@[simp] theorem bindTs_nil : bindTs [] [] r = some r := by simp only [bindTs]
@[simp] theorem bindTs_cons {ts : List T} {ws : List W} : bindTs (t :: ts) (w :: ws) r = (bindT t w r).bind fun r' => bindTs ts ws r' := by
  rw [bindTs]
  cases bindT t w r <;> rfl
@[simp] theorem parE_nil : parE [] [] r = some r := nrf rfl
@[simp] theorem parE_cons {is : List Nat} {l : List (Nat ⊕ M)} : parE (i :: is) (.inr m :: l) r = parE is l (r.set i (some m)) := nrf rfl
@[simp] theorem wipeE_nil : wipeE [] r = r := nrf rfl
@[simp] theorem wipeE_cons {v : Nat} {vs : List Nat} : wipeE (v :: vs) r = (wipeE vs r).set v none := nrf rfl
@[simp] theorem backE_nil : backE [] r r1 = r1 := nrf rfl
@[simp] theorem backE_cons {v : Nat} {vs : List Nat} : backE (v :: vs) r r1 = (backE vs r r1).set v (r.getD v none) := nrf rfl
/-- a call's end -/
def frR (x : FR) (l : List (Nat ⊕ M)) (r : Env) : R M := match x with
  | .ok m ms => .ok m (backA r l ms)
  | .exc w ms => .exc w (backA r l ms)
  | .stuck => .stuck
@[simp] theorem frR_ok {ms : List M} {l : List (Nat ⊕ M)} : frR (.ok m ms) l r = .ok m (backA r l ms) := nrf rfl
@[simp] theorem frR_exc {ms : List M} {l : List (Nat ⊕ M)} : frR (.exc w ms) l r = .exc w (backA r l ms) := nrf rfl
@[simp] theorem callA_eq {g : List M → FR} {l : List (Nat ⊕ M)} : callA g l r = bM (decide (borL l).Nodup) (oM (fillA r l) fun ms => frR (g ms) l r) .stuck := by
  unfold callA
  by_cases hn : (borL l).Nodup
  · rw [if_pos hn, decide_eq_true hn, bM_true]
    cases fillA r l with
    | none => rfl
    | some ms =>
      simp only [oM_some]
      cases hg : g ms <;> simp only [hg, frR]
  · rw [if_neg hn, decide_eq_false hn, bM_false]
@[simp] theorem borL_nil : borL [] = [] := nrf rfl
@[simp] theorem borL_l {l : List (Nat ⊕ M)} : borL (.inl i :: l) = i :: borL l := nrf rfl
@[simp] theorem borL_r {l : List (Nat ⊕ M)} : borL (.inr m :: l) = borL l := nrf rfl
@[simp] theorem fillA_nil : fillA r [] = some [] := nrf rfl
@[simp] theorem fillA_l {l : List (Nat ⊕ M)} : fillA r (.inl i :: l) = (getM r i).bind fun m => (fillA r l).map (m :: ·) := by
  rw [fillA]
  cases getM r i <;> cases fillA r l <;> rfl
@[simp] theorem fillA_r {l : List (Nat ⊕ M)} : fillA r (.inr m :: l) = (fillA r l).map (m :: ·) := by
  rw [fillA]
  cases fillA r l <;> rfl
@[simp] theorem backA_l {l : List (Nat ⊕ M)} {ms : List M} : backA r (.inl i :: l) (m :: ms) = (backA r l ms).set i (some m) := nrf rfl
@[simp] theorem backA_r {l : List (Nat ⊕ M)} {ms : List M} {m' : M} : backA r (.inr m' :: l) (m :: ms) = backA r l ms := nrf rfl
@[simp] theorem backA_nil {ms : List M} : backA r [] ms = r := by cases ms <;> rfl
@[simp] theorem frzE_nil : frzE [] = [] := nrf rfl
@[simp] theorem frzE_cons {o : Option M} : frzE (o :: r) = (o.map fun m => .im m.fz) :: frzE r := nrf rfl
end
end Dn
-- Q1
set_option maxHeartbeats 200000
set_option maxRecDepth 100000
/-! Values for simp; a def's run; loops. -/
namespace Dn
open PySem
section
variable {i j k : Int} {a b : Bool} {s t : Str} {ws us : List W} {w : W} {p : Prop} [Decidable p]
@[simp] theorem b_add : binW .add (.int i) (.int j) = some (.im (.int (i + j))) := nrf rfl
@[simp] theorem b_sub : binW .sub (.int i) (.int j) = some (.im (.int (i - j))) := nrf rfl
theorem b_mul (h : mulOk i j = true) : binW .mul (.int i) (.int j) = some (.im (.int (i * j))) := by simp [binW, h]
theorem b_fdiv (h : 0 < j) (h2 : j < 1073741824) : binW .fdiv (.int i) (.int j) = some (.im (.int (i / j))) := by simp [binW, h, h2]
theorem b_mod (h : 0 < j) : binW .mod (.int i) (.int j) = some (.im (.int (i % j))) := by simp [binW, h]
theorem b_pow (h : powOk i j = true) : binW .pow (.int i) (.int j) = some (.im (.int (i ^ j.toNat))) := by simp [binW, h]
theorem b_lsadd (h : ws.length + us.length ≤ LIM) : binW .add (.lst ws) (.lst us) = some (.ls (ws ++ us)) := by simp [binW, h]
theorem b_tupadd (h : ws.length + us.length ≤ LIM) : binW .add (.tup ws) (.tup us) = some (.im (.tup (ws ++ us))) := by simp [binW, h]
theorem b_lsmul (h : k < 2 ^ 60) (h2 : -(2 ^ 60) < k) (h3 : ws.length * k.toNat ≤ LIM) : binW .mul (.lst ws) (.int k) = some (.ls (List.replicate k.toNat ws).flatten) := by
  show (if _ then _ else _) = _
  rw [if_pos ⟨h, h2, h3⟩]
@[simp] theorem cW_lt : cmpW .lt (.int i) (.int j) = some (decide (i < j)) := nrf rfl
@[simp] theorem cW_le : cmpW .le (.int i) (.int j) = some (decide (i ≤ j)) := nrf rfl
@[simp] theorem cW_gt : cmpW .gt (.int i) (.int j) = some (decide (j < i)) := nrf rfl
@[simp] theorem cW_ge : cmpW .ge (.int i) (.int j) = some (decide (j ≤ i)) := nrf rfl
@[simp] theorem cW_eq {x y : W} : cmpW .eq x y = eqW x y := nrf rfl
@[simp] theorem cW_ne {x y : W} : cmpW .ne x y = (eqW x y).map (!·) := nrf rfl
@[simp] theorem cW_is {x : W} : cmpW .is_ x .non = some (isNon x) := by cases x <;> rfl
@[simp] theorem cW_isn {x : W} : cmpW .isn x .non = some (!isNon x) := by cases x <;> rfl
@[simp] theorem cW_isb (a b : Bool) : cmpW .is_ (.bl a) (.bl b) = some (a == b) := nrf rfl
@[simp] theorem cW_isnb (a b : Bool) : cmpW .isn (.bl a) (.bl b) = some (a != b) := nrf rfl
@[simp] theorem cW_inl {x : W} : cmpW .in_ x (.lst ws) = inL x ws := nrf rfl
@[simp] theorem cW_int {x : W} : cmpW .in_ x (.tup ws) = inT x ws := nrf rfl
@[simp] theorem cW_ninl {x : W} : cmpW .nin x (.lst ws) = (inL x ws).map (!·) := nrf rfl
@[simp] theorem cW_nint {x : W} : cmpW .nin x (.tup ws) = (inT x ws).map (!·) := nrf rfl
@[simp] theorem isNon_non : isNon .non = true := nrf rfl
@[simp] theorem isNon_int : isNon (.int i) = false := nrf rfl
@[simp] theorem isNon_str : isNon (.str s) = false := nrf rfl
@[simp] theorem isNon_bl : isNon (.bl a) = false := nrf rfl
@[simp] theorem isNon_tup : isNon (.tup ws) = false := nrf rfl
@[simp] theorem isNon_lst : isNon (.lst ws) = false := nrf rfl
@[simp] theorem isNon_exc {c : Nat} {ns : List Str} : isNon (.exc c ns ws) = false := nrf rfl
@[simp] theorem eqW_intd (a b : Int) : eqW (.int a) (.int b) = some (decide (a = b)) := by
  unfold eqW
  simp [W.toD, SeqAt.shaped, PyData.canLay0, PyData.depth, PyData.eqv]
  exact Bool.beq_eq_decide_eq a b
@[simp] theorem eqW_blb (a b : Bool) : eqW (.bl a) (.bl b) = some (a == b) := by
  unfold eqW
  simp [W.toD, SeqAt.shaped, PyData.canLay0, PyData.depth, PyData.eqv]
@[simp] theorem eqW_nons : eqW .non .non = some true := by
  unfold eqW
  simp [W.toD, SeqAt.shaped, PyData.canLay0, PyData.depth, PyData.eqv]
@[simp] theorem tru_bl : truW (.bl a) = some a := nrf rfl
@[simp] theorem tru_int : truW (.int i) = some (i != 0) := nrf rfl
@[simp] theorem tru_lst : truW (.lst ws) = some (!ws.isEmpty) := nrf rfl
@[simp] theorem tru_tup : truW (.tup ws) = some (!ws.isEmpty) := nrf rfl
@[simp] theorem tru_non : truW .non = some false := nrf rfl
@[simp] theorem idx_lst : idxW (.lst ws) i = ixW ws i := nrf rfl
@[simp] theorem idx_tup : idxW (.tup ws) i = ixW ws i := nrf rfl
@[simp] theorem idxM_ls : idxM (.ls ws) i = ixW ws i := nrf rfl
@[simp] theorem idxM_im : idxM (.im w) i = idxW w i := nrf rfl
@[simp] theorem ixW_0 : ixW (w :: ws) 0 = some w := ixW_nat (n := 0) rfl
@[simp] theorem ixW_cast {n : Nat} : ixW ws (n : Int) = ws[n]? := by
  cases h : ws[n]? with
  | some w => exact ixW_nat h
  | none =>
    unfold ixW L2.atI L2.ixN
    have := List.getElem?_eq_none_iff.mp h
    rw [if_pos (by omega), if_neg (by omega)]
    rfl
@[simp] theorem ixW_1 {x : W} : ixW (x :: w :: ws) 1 = some w := ixW_nat (n := 1) rfl
@[simp] theorem ixW_2 {x y : W} : ixW (x :: y :: w :: ws) 2 = some w := ixW_nat (n := 2) rfl
@[simp] theorem ixW_3 {x y z : W} : ixW (x :: y :: z :: w :: ws) 3 = some w := ixW_nat (n := 3) rfl
@[simp] theorem slc_ls {x y : Option Int} : slcM (.ls ws) x y = some (.ls (cutW ws x y)) := nrf rfl
@[simp] theorem slc_lst {x y : Option Int} : slcM (.im (.lst ws)) x y = some (.ls (cutW ws x y)) := nrf rfl
@[simp] theorem slc_tup {x y : Option Int} : slcM (.im (.tup ws)) x y = some (.im (.tup (cutW ws x y))) := nrf rfl
@[simp] theorem len_ls : lenM (.ls ws) = some (ws.length : Int) := nrf rfl
@[simp] theorem len_lst : lenM (.im (.lst ws)) = some (ws.length : Int) := nrf rfl
@[simp] theorem len_tup : lenM (.im (.tup ws)) = some (ws.length : Int) := nrf rfl
@[simp] theorem bi_lenl : biW .len [.lst ws] = some (.im (.int ws.length)) := nrf rfl
@[simp] theorem bi_lent : biW .len [.tup ws] = some (.im (.int ws.length)) := nrf rfl
@[simp] theorem bi_lens {is : List Int} : biW .len [.scr is] = some (.im (.int is.length)) := nrf rfl
@[simp] theorem bi_abs : biW .abs [.int i] = some (.im (.int (if i < 0 then -i else i))) := nrf rfl
@[simp] theorem bi_max2 : biW .max2 [.int i, .int j] = some (.im (.int (if j > i then j else i))) := nrf rfl
@[simp] theorem bi_min2 : biW .min2 [.int i, .int j] = some (.im (.int (if j < i then j else i))) := nrf rfl
@[simp] theorem bi_int : biW .int [.int i] = some (.im (.int i)) := nrf rfl
@[simp] theorem bi_intb : biW .int [.bl a] = some (.im (.int (if a then 1 else 0))) := nrf rfl
@[simp] theorem bi_tupl : biW .tuple [.lst ws] = some (.im (.tup ws)) := nrf rfl
@[simp] theorem bi_tupt : biW .tuple [.tup ws] = some (.im (.tup ws)) := nrf rfl
@[simp] theorem bi_lstl : biW .list [.lst ws] = some (.ls ws) := nrf rfl
@[simp] theorem bi_lstt : biW .list [.tup ws] = some (.ls ws) := nrf rfl
@[simp] theorem bi_sum : biW .sum [.lst ws] = (intsW ws).map fun is => .im (.int is.sum) := nrf rfl
@[simp] theorem bi_all : biW .all [.lst ws] = (blsW ws).map fun bs => .im (.bl (bs.all id)) := nrf rfl
@[simp] theorem bi_any : biW .any [.lst ws] = (blsW ws).map fun bs => .im (.bl (bs.any id)) := nrf rfl
theorem bi_maxl {x : Int} {is : List Int} (h : intsW ws = some (x :: is)) : biW .maxl [.lst ws] = some (.im (.int (maxI x is))) := by simp [biW, h]
theorem bi_minl {x : Int} {is : List Int} (h : intsW ws = some (x :: is)) : biW .minl [.lst ws] = some (.im (.int (minI x is))) := by simp [biW, h]
theorem idx_str (h : s.length ≤ LIM) : idxW (.str s) i = (L2.atI s.cps.toList i).map fun c => .str ⟨#[c]⟩ := if_pos h
@[simp] theorem mthTy_count : mthTy .count (.lst ws) = true := nrf rfl
@[simp] theorem mth_count {x : W} : mthW .count (.lst ws) [x] = (cntL x ws).map fun j => .im (.int ((j : Nat) : Int)) := nrf rfl
@[simp] theorem mthTy_index : mthTy .index (.lst ws) = true := nrf rfl
@[simp] theorem mth_index {x : W} : mthW .index (.lst ws) [x] = (idxL x ws).map fun j => .im (.int ((j : Nat) : Int)) := nrf rfl
theorem mut_append (h : ws.length < LIM) : mutW .append (.ls ws) [w] = some (.im .non, .ls (ws ++ [w])) := by simp [mutW, h]
theorem mut_extend (h : ws.length + us.length ≤ LIM) : mutW .extend (.ls ws) [.lst us] = some (.im .non, .ls (ws ++ us)) := by simp [mutW, h]
@[simp] theorem mut_rev : mutW .reverse (.ls ws) [] = some (.im .non, .ls ws.reverse) := nrf rfl
@[simp] theorem seq_lst : seqOf (.lst ws) = some ws := nrf rfl
@[simp] theorem seq_tup : seqOf (.tup ws) = some ws := nrf rfl
@[simp] theorem zipS_l : zipS (.lst ws) (.lst us) = some (zipW ws us) := nrf rfl
@[simp] theorem zipS_t : zipS (.tup ws) (.tup us) = some (zipW ws us) := nrf rfl
@[simp] theorem plain_int : plainM (.im (.int i)) = some (.int i) := nrf rfl
@[simp] theorem plain_bl : plainM (.im (.bl a)) = some (.bl a) := nrf rfl
@[simp] theorem plain_str : plainM (.im (.str s)) = some (.str s) := nrf rfl
@[simp] theorem plain_non : plainM (.im .non) = some .non := nrf rfl
@[simp] theorem aug_add : augW .add (.int i) (.int j) = some (.int (i + j)) := nrf rfl
@[simp] theorem aug_sub : augW .sub (.int i) (.int j) = some (.int (i - j)) := nrf rfl
theorem lim_of {n : Nat} (h : n ≤ 1000000) : decide (n ≤ LIM) = true := decide_eq_true h
theorem lim_le {n : Nat} (h : n ≤ 1000000) : n ≤ LIM := h
theorem lim_lt {n : Nat} (h : n < 1000000) : n < LIM := h
end
/-- short lists -/
@[simp] theorem lim0 : (0 ≤ LIM) = True := eq_true (by show 0 ≤ 1000000; decide)
@[simp] theorem lim1 : (1 ≤ LIM) = True := eq_true (by show 1 ≤ 1000000; decide)
@[simp] theorem lim2 : (2 ≤ LIM) = True := eq_true (by show 2 ≤ 1000000; decide)
@[simp] theorem lim3 : (3 ≤ LIM) = True := eq_true (by show 3 ≤ 1000000; decide)
@[simp] theorem lim4 : (4 ≤ LIM) = True := eq_true (by show 4 ≤ 1000000; decide)
@[simp] theorem lim5 : (5 ≤ LIM) = True := eq_true (by show 5 ≤ 1000000; decide)
@[simp] theorem lim6 : (6 ≤ LIM) = True := eq_true (by show 6 ≤ 1000000; decide)
@[simp] theorem lim7 : (7 ≤ LIM) = True := eq_true (by show 7 ≤ 1000000; decide)
@[simp] theorem lim8 : (8 ≤ LIM) = True := eq_true (by show 8 ≤ 1000000; decide)
@[simp] theorem lim9 : (9 ≤ LIM) = True := eq_true (by show 9 ≤ 1000000; decide)
@[simp] theorem lim10 : (10 ≤ LIM) = True := eq_true (by show 10 ≤ 1000000; decide)
@[simp] theorem lim11 : (11 ≤ LIM) = True := eq_true (by show 11 ≤ 1000000; decide)
@[simp] theorem lim12 : (12 ≤ LIM) = True := eq_true (by show 12 ≤ 1000000; decide)
@[simp] theorem lim13 : (13 ≤ LIM) = True := eq_true (by show 13 ≤ 1000000; decide)
@[simp] theorem lim14 : (14 ≤ LIM) = True := eq_true (by show 14 ≤ 1000000; decide)
@[simp] theorem lim15 : (15 ≤ LIM) = True := eq_true (by show 15 ≤ 1000000; decide)
@[simp] theorem lim16 : (16 ≤ LIM) = True := eq_true (by show 16 ≤ 1000000; decide)
@[simp] theorem lim17 : (17 ≤ LIM) = True := eq_true (by show 17 ≤ 1000000; decide)
@[simp] theorem lim18 : (18 ≤ LIM) = True := eq_true (by show 18 ≤ 1000000; decide)
@[simp] theorem lim19 : (19 ≤ LIM) = True := eq_true (by show 19 ≤ 1000000; decide)
@[simp] theorem lim20 : (20 ≤ LIM) = True := eq_true (by show 20 ≤ 1000000; decide)
@[simp] theorem lim21 : (21 ≤ LIM) = True := eq_true (by show 21 ≤ 1000000; decide)
@[simp] theorem lim22 : (22 ≤ LIM) = True := eq_true (by show 22 ≤ 1000000; decide)
@[simp] theorem lim23 : (23 ≤ LIM) = True := eq_true (by show 23 ≤ 1000000; decide)
@[simp] theorem lim24 : (24 ≤ LIM) = True := eq_true (by show 24 ≤ 1000000; decide)
@[simp] theorem limL0 : (0 < LIM) = True := eq_true (by show 0 < 1000000; decide)
@[simp] theorem limL1 : (1 < LIM) = True := eq_true (by show 1 < 1000000; decide)
@[simp] theorem limL2 : (2 < LIM) = True := eq_true (by show 2 < 1000000; decide)
@[simp] theorem limL3 : (3 < LIM) = True := eq_true (by show 3 < 1000000; decide)
@[simp] theorem limL4 : (4 < LIM) = True := eq_true (by show 4 < 1000000; decide)
@[simp] theorem limL5 : (5 < LIM) = True := eq_true (by show 5 < 1000000; decide)
@[simp] theorem limL6 : (6 < LIM) = True := eq_true (by show 6 < 1000000; decide)
@[simp] theorem limL7 : (7 < LIM) = True := eq_true (by show 7 < 1000000; decide)
@[simp] theorem limL8 : (8 < LIM) = True := eq_true (by show 8 < 1000000; decide)
theorem len1 {l : Env} (h : l.length = 1) : ∃ x0, l = [x0] := by
  obtain ⟨x0, l, rfl⟩ := List.exists_cons_of_length_eq_add_one h
  cases l with
  | nil => exact ⟨x0, rfl⟩
  | cons _ _ => simp at h
theorem len2 {l : Env} (h : l.length = 2) : ∃ x0 x1, l = [x0, x1] := by
  obtain ⟨x0, l, rfl⟩ := List.exists_cons_of_length_eq_add_one h
  obtain ⟨x1, rfl⟩ := len1 (l := l) (by simpa using h)
  exact ⟨x0, x1, rfl⟩
theorem len3 {l : Env} (h : l.length = 3) : ∃ x0 x1 x2, l = [x0, x1, x2] := by
  obtain ⟨x0, l, rfl⟩ := List.exists_cons_of_length_eq_add_one h
  obtain ⟨x1, x2, rfl⟩ := len2 (l := l) (by simpa using h)
  exact ⟨x0, x1, x2, rfl⟩
theorem len4 {l : Env} (h : l.length = 4) : ∃ x0 x1 x2 x3, l = [x0, x1, x2, x3] := by
  obtain ⟨x0, l, rfl⟩ := List.exists_cons_of_length_eq_add_one h
  obtain ⟨x1, x2, x3, rfl⟩ := len3 (l := l) (by simpa using h)
  exact ⟨x0, x1, x2, x3, rfl⟩
theorem len5 {l : Env} (h : l.length = 5) : ∃ x0 x1 x2 x3 x4, l = [x0, x1, x2, x3, x4] := by
  obtain ⟨x0, l, rfl⟩ := List.exists_cons_of_length_eq_add_one h
  obtain ⟨x1, x2, x3, x4, rfl⟩ := len4 (l := l) (by simpa using h)
  exact ⟨x0, x1, x2, x3, x4, rfl⟩
theorem len6 {l : Env} (h : l.length = 6) : ∃ x0 x1 x2 x3 x4 x5, l = [x0, x1, x2, x3, x4, x5] := by
  obtain ⟨x0, l, rfl⟩ := List.exists_cons_of_length_eq_add_one h
  obtain ⟨x1, x2, x3, x4, x5, rfl⟩ := len5 (l := l) (by simpa using h)
  exact ⟨x0, x1, x2, x3, x4, x5, rfl⟩
theorem len7 {l : Env} (h : l.length = 7) : ∃ x0 x1 x2 x3 x4 x5 x6, l = [x0, x1, x2, x3, x4, x5, x6] := by
  obtain ⟨x0, l, rfl⟩ := List.exists_cons_of_length_eq_add_one h
  obtain ⟨x1, x2, x3, x4, x5, x6, rfl⟩ := len6 (l := l) (by simpa using h)
  exact ⟨x0, x1, x2, x3, x4, x5, x6, rfl⟩
theorem len8 {l : Env} (h : l.length = 8) : ∃ x0 x1 x2 x3 x4 x5 x6 x7, l = [x0, x1, x2, x3, x4, x5, x6, x7] := by
  obtain ⟨x0, l, rfl⟩ := List.exists_cons_of_length_eq_add_one h
  obtain ⟨x1, x2, x3, x4, x5, x6, x7, rfl⟩ := len7 (l := l) (by simpa using h)
  exact ⟨x0, x1, x2, x3, x4, x5, x6, x7, rfl⟩
theorem len9 {l : Env} (h : l.length = 9) : ∃ x0 x1 x2 x3 x4 x5 x6 x7 x8, l = [x0, x1, x2, x3, x4, x5, x6, x7, x8] := by
  obtain ⟨x0, l, rfl⟩ := List.exists_cons_of_length_eq_add_one h
  obtain ⟨x1, x2, x3, x4, x5, x6, x7, x8, rfl⟩ := len8 (l := l) (by simpa using h)
  exact ⟨x0, x1, x2, x3, x4, x5, x6, x7, x8, rfl⟩
theorem len10 {l : Env} (h : l.length = 10) : ∃ x0 x1 x2 x3 x4 x5 x6 x7 x8 x9, l = [x0, x1, x2, x3, x4, x5, x6, x7, x8, x9] := by
  obtain ⟨x0, l, rfl⟩ := List.exists_cons_of_length_eq_add_one h
  obtain ⟨x1, x2, x3, x4, x5, x6, x7, x8, x9, rfl⟩ := len9 (l := l) (by simpa using h)
  exact ⟨x0, x1, x2, x3, x4, x5, x6, x7, x8, x9, rfl⟩
theorem len11 {l : Env} (h : l.length = 11) : ∃ x0 x1 x2 x3 x4 x5 x6 x7 x8 x9 x10, l = [x0, x1, x2, x3, x4, x5, x6, x7, x8, x9, x10] := by
  obtain ⟨x0, l, rfl⟩ := List.exists_cons_of_length_eq_add_one h
  obtain ⟨x1, x2, x3, x4, x5, x6, x7, x8, x9, x10, rfl⟩ := len10 (l := l) (by simpa using h)
  exact ⟨x0, x1, x2, x3, x4, x5, x6, x7, x8, x9, x10, rfl⟩
theorem len12 {l : Env} (h : l.length = 12) : ∃ x0 x1 x2 x3 x4 x5 x6 x7 x8 x9 x10 x11, l = [x0, x1, x2, x3, x4, x5, x6, x7, x8, x9, x10, x11] := by
  obtain ⟨x0, l, rfl⟩ := List.exists_cons_of_length_eq_add_one h
  obtain ⟨x1, x2, x3, x4, x5, x6, x7, x8, x9, x10, x11, rfl⟩ := len11 (l := l) (by simpa using h)
  exact ⟨x0, x1, x2, x3, x4, x5, x6, x7, x8, x9, x10, x11, rfl⟩
theorem len13 {l : Env} (h : l.length = 13) : ∃ x0 x1 x2 x3 x4 x5 x6 x7 x8 x9 x10 x11 x12, l = [x0, x1, x2, x3, x4, x5, x6, x7, x8, x9, x10, x11, x12] := by
  obtain ⟨x0, l, rfl⟩ := List.exists_cons_of_length_eq_add_one h
  obtain ⟨x1, x2, x3, x4, x5, x6, x7, x8, x9, x10, x11, x12, rfl⟩ := len12 (l := l) (by simpa using h)
  exact ⟨x0, x1, x2, x3, x4, x5, x6, x7, x8, x9, x10, x11, x12, rfl⟩
theorem len14 {l : Env} (h : l.length = 14) : ∃ x0 x1 x2 x3 x4 x5 x6 x7 x8 x9 x10 x11 x12 x13, l = [x0, x1, x2, x3, x4, x5, x6, x7, x8, x9, x10, x11, x12, x13] := by
  obtain ⟨x0, l, rfl⟩ := List.exists_cons_of_length_eq_add_one h
  obtain ⟨x1, x2, x3, x4, x5, x6, x7, x8, x9, x10, x11, x12, x13, rfl⟩ := len13 (l := l) (by simpa using h)
  exact ⟨x0, x1, x2, x3, x4, x5, x6, x7, x8, x9, x10, x11, x12, x13, rfl⟩
theorem len15 {l : Env} (h : l.length = 15) : ∃ x0 x1 x2 x3 x4 x5 x6 x7 x8 x9 x10 x11 x12 x13 x14, l = [x0, x1, x2, x3, x4, x5, x6, x7, x8, x9, x10, x11, x12, x13, x14] := by
  obtain ⟨x0, l, rfl⟩ := List.exists_cons_of_length_eq_add_one h
  obtain ⟨x1, x2, x3, x4, x5, x6, x7, x8, x9, x10, x11, x12, x13, x14, rfl⟩ := len14 (l := l) (by simpa using h)
  exact ⟨x0, x1, x2, x3, x4, x5, x6, x7, x8, x9, x10, x11, x12, x13, x14, rfl⟩
theorem len16 {l : Env} (h : l.length = 16) : ∃ x0 x1 x2 x3 x4 x5 x6 x7 x8 x9 x10 x11 x12 x13 x14 x15, l = [x0, x1, x2, x3, x4, x5, x6, x7, x8, x9, x10, x11, x12, x13, x14, x15] := by
  obtain ⟨x0, l, rfl⟩ := List.exists_cons_of_length_eq_add_one h
  obtain ⟨x1, x2, x3, x4, x5, x6, x7, x8, x9, x10, x11, x12, x13, x14, x15, rfl⟩ := len15 (l := l) (by simpa using h)
  exact ⟨x0, x1, x2, x3, x4, x5, x6, x7, x8, x9, x10, x11, x12, x13, x14, x15, rfl⟩
theorem len17 {l : Env} (h : l.length = 17) : ∃ x0 x1 x2 x3 x4 x5 x6 x7 x8 x9 x10 x11 x12 x13 x14 x15 x16, l = [x0, x1, x2, x3, x4, x5, x6, x7, x8, x9, x10, x11, x12, x13, x14, x15, x16] := by
  obtain ⟨x0, l, rfl⟩ := List.exists_cons_of_length_eq_add_one h
  obtain ⟨x1, x2, x3, x4, x5, x6, x7, x8, x9, x10, x11, x12, x13, x14, x15, x16, rfl⟩ := len16 (l := l) (by simpa using h)
  exact ⟨x0, x1, x2, x3, x4, x5, x6, x7, x8, x9, x10, x11, x12, x13, x14, x15, x16, rfl⟩
theorem len18 {l : Env} (h : l.length = 18) : ∃ x0 x1 x2 x3 x4 x5 x6 x7 x8 x9 x10 x11 x12 x13 x14 x15 x16 x17, l = [x0, x1, x2, x3, x4, x5, x6, x7, x8, x9, x10, x11, x12, x13, x14, x15, x16, x17] := by
  obtain ⟨x0, l, rfl⟩ := List.exists_cons_of_length_eq_add_one h
  obtain ⟨x1, x2, x3, x4, x5, x6, x7, x8, x9, x10, x11, x12, x13, x14, x15, x16, x17, rfl⟩ := len17 (l := l) (by simpa using h)
  exact ⟨x0, x1, x2, x3, x4, x5, x6, x7, x8, x9, x10, x11, x12, x13, x14, x15, x16, x17, rfl⟩
theorem len19 {l : Env} (h : l.length = 19) : ∃ x0 x1 x2 x3 x4 x5 x6 x7 x8 x9 x10 x11 x12 x13 x14 x15 x16 x17 x18, l = [x0, x1, x2, x3, x4, x5, x6, x7, x8, x9, x10, x11, x12, x13, x14, x15, x16, x17, x18] := by
  obtain ⟨x0, l, rfl⟩ := List.exists_cons_of_length_eq_add_one h
  obtain ⟨x1, x2, x3, x4, x5, x6, x7, x8, x9, x10, x11, x12, x13, x14, x15, x16, x17, x18, rfl⟩ := len18 (l := l) (by simpa using h)
  exact ⟨x0, x1, x2, x3, x4, x5, x6, x7, x8, x9, x10, x11, x12, x13, x14, x15, x16, x17, x18, rfl⟩
theorem len20 {l : Env} (h : l.length = 20) : ∃ x0 x1 x2 x3 x4 x5 x6 x7 x8 x9 x10 x11 x12 x13 x14 x15 x16 x17 x18 x19, l = [x0, x1, x2, x3, x4, x5, x6, x7, x8, x9, x10, x11, x12, x13, x14, x15, x16, x17, x18, x19] := by
  obtain ⟨x0, l, rfl⟩ := List.exists_cons_of_length_eq_add_one h
  obtain ⟨x1, x2, x3, x4, x5, x6, x7, x8, x9, x10, x11, x12, x13, x14, x15, x16, x17, x18, x19, rfl⟩ := len19 (l := l) (by simpa using h)
  exact ⟨x0, x1, x2, x3, x4, x5, x6, x7, x8, x9, x10, x11, x12, x13, x14, x15, x16, x17, x18, x19, rfl⟩
theorem len21 {l : Env} (h : l.length = 21) : ∃ x0 x1 x2 x3 x4 x5 x6 x7 x8 x9 x10 x11 x12 x13 x14 x15 x16 x17 x18 x19 x20, l = [x0, x1, x2, x3, x4, x5, x6, x7, x8, x9, x10, x11, x12, x13, x14, x15, x16, x17, x18, x19, x20] := by
  obtain ⟨x0, l, rfl⟩ := List.exists_cons_of_length_eq_add_one h
  obtain ⟨x1, x2, x3, x4, x5, x6, x7, x8, x9, x10, x11, x12, x13, x14, x15, x16, x17, x18, x19, x20, rfl⟩ := len20 (l := l) (by simpa using h)
  exact ⟨x0, x1, x2, x3, x4, x5, x6, x7, x8, x9, x10, x11, x12, x13, x14, x15, x16, x17, x18, x19, x20, rfl⟩
theorem len22 {l : Env} (h : l.length = 22) : ∃ x0 x1 x2 x3 x4 x5 x6 x7 x8 x9 x10 x11 x12 x13 x14 x15 x16 x17 x18 x19 x20 x21, l = [x0, x1, x2, x3, x4, x5, x6, x7, x8, x9, x10, x11, x12, x13, x14, x15, x16, x17, x18, x19, x20, x21] := by
  obtain ⟨x0, l, rfl⟩ := List.exists_cons_of_length_eq_add_one h
  obtain ⟨x1, x2, x3, x4, x5, x6, x7, x8, x9, x10, x11, x12, x13, x14, x15, x16, x17, x18, x19, x20, x21, rfl⟩ := len21 (l := l) (by simpa using h)
  exact ⟨x0, x1, x2, x3, x4, x5, x6, x7, x8, x9, x10, x11, x12, x13, x14, x15, x16, x17, x18, x19, x20, x21, rfl⟩
theorem len23 {l : Env} (h : l.length = 23) : ∃ x0 x1 x2 x3 x4 x5 x6 x7 x8 x9 x10 x11 x12 x13 x14 x15 x16 x17 x18 x19 x20 x21 x22, l = [x0, x1, x2, x3, x4, x5, x6, x7, x8, x9, x10, x11, x12, x13, x14, x15, x16, x17, x18, x19, x20, x21, x22] := by
  obtain ⟨x0, l, rfl⟩ := List.exists_cons_of_length_eq_add_one h
  obtain ⟨x1, x2, x3, x4, x5, x6, x7, x8, x9, x10, x11, x12, x13, x14, x15, x16, x17, x18, x19, x20, x21, x22, rfl⟩ := len22 (l := l) (by simpa using h)
  exact ⟨x0, x1, x2, x3, x4, x5, x6, x7, x8, x9, x10, x11, x12, x13, x14, x15, x16, x17, x18, x19, x20, x21, x22, rfl⟩
theorem len24 {l : Env} (h : l.length = 24) : ∃ x0 x1 x2 x3 x4 x5 x6 x7 x8 x9 x10 x11 x12 x13 x14 x15 x16 x17 x18 x19 x20 x21 x22 x23, l = [x0, x1, x2, x3, x4, x5, x6, x7, x8, x9, x10, x11, x12, x13, x14, x15, x16, x17, x18, x19, x20, x21, x22, x23] := by
  obtain ⟨x0, l, rfl⟩ := List.exists_cons_of_length_eq_add_one h
  obtain ⟨x1, x2, x3, x4, x5, x6, x7, x8, x9, x10, x11, x12, x13, x14, x15, x16, x17, x18, x19, x20, x21, x22, x23, rfl⟩ := len23 (l := l) (by simpa using h)
  exact ⟨x0, x1, x2, x3, x4, x5, x6, x7, x8, x9, x10, x11, x12, x13, x14, x15, x16, x17, x18, x19, x20, x21, x22, x23, rfl⟩
/-! ### a def's run -/
/-- the program has a def of this body, so many parameters, names, changed ones -/
def Has (P : Pg) (f : Nat) (b : Ss) (many len : Nat) (lock : List Nat) : Prop := ∃ d, P.fd f = some d ∧ d.body = b ∧ d.many = many ∧ d.names.length = len ∧ d.lock = lock
def argsL (lock : List Nat) (many : Nat) (r : Env) : Option (List M) := argsOf lock many 0 r
theorem argsOf_none : ∀ {k i : Nat} {r : Env}, argsOf [] k i r = some (List.replicate k (.im .non))
  | 0, _, _ => rfl
  | k + 1, i, r => by simp [argsOf, argsOf_none (k := k), List.replicate_succ]
section
variable {P : Pg} {f n many len : Nat} {b : Ss} {lock : List Nat} {ms as : List M} {m : M} {r : Env}
/-- a def that changes nothing -/
theorem fn_ok (h : Has P f b many len []) (hn : 0 < n) (hm : ms.length = many) (k : OK (evSs (P.th (n - 1)) b (ms.map some ++ List.replicate (len - many) none)) fun fl _ => fl = .ret m) : (P.th n).fn f ms = .ok m (List.replicate many (.im .non)) := by
  obtain ⟨d, h1, h2, h3, h4, h5⟩ := h
  obtain ⟨n, rfl⟩ : ∃ k, n = k + 1 := ⟨n - 1, by omega⟩
  obtain ⟨fl, r, e, hr⟩ := k
  subst hr
  rw [Nat.add_sub_cancel] at e
  simp only [Pg.th, h1, runF, h3, hm, if_true, h2, h4, h5, e, argsOf_none]
/-- a def that tells nothing -/
theorem fn_nx (h : Has P f b many len []) (hn : 0 < n) (hm : ms.length = many) (k : OK (evSs (P.th (n - 1)) b (ms.map some ++ List.replicate (len - many) none)) fun fl _ => fl = .nx) : (P.th n).fn f ms = .ok (.im .non) (List.replicate many (.im .non)) := by
  obtain ⟨d, h1, h2, h3, h4, h5⟩ := h
  obtain ⟨n, rfl⟩ : ∃ k, n = k + 1 := ⟨n - 1, by omega⟩
  obtain ⟨fl, r, e, hr⟩ := k
  subst hr
  rw [Nat.add_sub_cancel] at e
  simp only [Pg.th, h1, runF, h3, hm, if_true, h2, h4, h5, e, argsOf_none]
/-- a def that raises -/
theorem fn_exc {w : W} (h : Has P f b many len []) (hn : 0 < n) (hm : ms.length = many) {r : Env} (k : evSs (P.th (n - 1)) b (ms.map some ++ List.replicate (len - many) none) = .exc w r) : (P.th n).fn f ms = .exc w (List.replicate many (.im .non)) := by
  obtain ⟨d, h1, h2, h3, h4, h5⟩ := h
  obtain ⟨n, rfl⟩ : ∃ k, n = k + 1 := ⟨n - 1, by omega⟩
  rw [Nat.add_sub_cancel] at k
  simp only [Pg.th, h1, runF, h3, hm, if_true, h2, h4, h5, k, argsOf_none]
theorem rz_true {n : Nat} (h : 2 ≤ n) : (P.th n).rz = true := by
  obtain ⟨n, rfl⟩ : ∃ k, n = k + 1 := ⟨n - 1, by omega⟩
  exact decide_eq_true (by omega)
/-- .. that ends so -/
theorem fn_ex {Q : M → Prop} (h : Has P f b many len []) (hn : 0 < n) (hm : ms.length = many) (k : OK (evSs (P.th (n - 1)) b (ms.map some ++ List.replicate (len - many) none)) fun fl _ => ∃ m, fl = .ret m ∧ Q m) : ∃ m, (P.th n).fn f ms = .ok m (List.replicate many (.im .non)) ∧ Q m := by
  obtain ⟨fl, r, e, m, rfl, hq⟩ := k
  exact ⟨m, fn_ok h hn hm ⟨_, r, e, rfl⟩, hq⟩
/-- .. that changes its parameters -/
theorem fn_lk {Q : M → List M → Prop} (h : Has P f b many len lock) (hn : 0 < n) (hm : ms.length = many) (k : OK (evSs (P.th (n - 1)) b (ms.map some ++ List.replicate (len - many) none)) fun fl r => ∃ m as, fl = .ret m ∧ argsOf lock many 0 r = some as ∧ Q m as) : ∃ m as, (P.th n).fn f ms = .ok m as ∧ Q m as := by
  obtain ⟨d, h1, h2, h3, h4, h5⟩ := h
  obtain ⟨n, rfl⟩ : ∃ k, n = k + 1 := ⟨n - 1, by omega⟩
  obtain ⟨fl, r, e, m, as, rfl, ha, hq⟩ := k
  rw [Nat.add_sub_cancel] at e
  refine ⟨m, as, ?_, hq⟩
  simp only [Pg.th, h1, runF, h3, hm, if_true, h2, h4, h5, e, ha]
end
/-! ### loops -/
section
variable {A : Type} {enc : A → W} {f : W → Env → R Fl} {r : Env}
/-- a comprehension over typed things -/
theorem compL_enc {f : W → Env → R (Option W)} (g : A → Option W) : ∀ {l : List A} {acc : List W}, (∀ a ∈ l, f (enc a) r = .ok (g a) r) → acc.length + l.length ≤ LIM → compL f (l.map enc) r acc = .ok (acc ++ l.filterMap g) r
  | [], acc, _, _ => by simp
  | a :: l, acc, h, hl => by
    have hl' : acc.length + (l.length + 1) ≤ LIM := hl
    rw [List.map_cons, compL, h a List.mem_cons_self]
    cases e : g a with
    | none =>
      show compL f _ r acc = _
      rw [compL_enc (f := f) g (fun x hx => h x (List.mem_cons_of_mem _ hx)) (by omega)]
      simp [e]
    | some x =>
      show (if acc.length < LIM then _ else _) = _
      rw [if_pos (by omega), compL_enc (f := f) g (fun x hx => h x (List.mem_cons_of_mem _ hx)) (by rw [List.length_append]; show acc.length + 1 + l.length ≤ LIM; omega)]
      simp [e]
theorem compL_all {f : W → Env → R (Option W)} (g : A → W) {l : List A} (h : ∀ a ∈ l, f (enc a) r = .ok (some (g a)) r) (hl : l.length ≤ LIM) : compL f (l.map enc) r [] = .ok (l.map g) r := by
  rw [compL_enc (fun a => some (g a)) h (by simpa using hl)]
  simp
theorem compL_if {f : W → Env → R (Option W)} (c : A → Bool) (g : A → W) {l : List A} (h : ∀ a ∈ l, f (enc a) r = .ok (if c a then some (g a) else none) r) (hl : l.length ≤ LIM) : compL f (l.map enc) r [] = .ok ((l.filter c).map g) r := by
  rw [compL_enc (fun a => if c a then some (g a) else none) h (by simpa using hl), List.nil_append]
  congr 1
  clear h hl
  induction l with
  | nil => rfl
  | cons a l ih =>
    rw [List.filterMap_cons, List.filter_cons]
    cases c a <;> simp [ih]
/-- a loop that goes through -/
theorem forL_ok {ws : List W} (Inv : Nat → Env → Prop) (h0 : Inv 0 r) (hs : ∀ (j : Nat) (w : W) (r : Env), ws[j]? = some w → Inv j r → OK (f w r) fun fl r' => fl = .nx ∧ Inv (j + 1) r') : OK (forL f ws r) fun fl r' => fl = .nx ∧ Inv ws.length r' := by
  obtain ⟨r', e, h⟩ := forL_inv Inv (i := 0) h0 fun j w r hj hr => by
    rw [Nat.zero_add] at hr ⊢
    obtain ⟨fl, r', e, rfl, h⟩ := hs j w r hj hr
    exact ⟨r', e, h⟩
  rw [Nat.zero_add] at h
  exact ⟨_, r', e, rfl, h⟩
/-- a loop that may end at once, by what is ahead -/
theorem forL_ret {ws : List W} (Inv : Nat → Env → Prop) (Q : Fl → Env → Prop) (h0 : Inv 0 r) (hs : ∀ (j : Nat) (w : W) (r : Env), ws[j]? = some w → Inv j r → OK (f w r) fun fl r' => (fl = .nx ∧ Inv (j + 1) r') ∨ ((∃ m, fl = .ret m) ∧ Q fl r') ∨ (fl = .bk ∧ Q .nx r')) (he : ∀ r, Inv ws.length r → Q .nx r) : OK (forL f ws r) Q := by
  have key : ∀ (us : List W) (i : Nat) (r : Env), (∀ j, us[j]? = ws[i + j]?) → i + us.length = ws.length → Inv i r → OK (forL f us r) Q := by
    intro us
    induction us with
    | nil =>
      intro i r _ hl hi
      simp only [forL_nil, OK_ok]
      exact he r (by rw [← hl]; exact hi)
    | cons w us ih =>
      intro i r hu hl hi
      obtain ⟨fl, r', e, h⟩ := hs i w r (by have := hu 0; simpa using this.symm) hi
      rw [eL_cons, e]
      rcases h with ⟨rfl, h⟩ | ⟨⟨m, rfl⟩, h⟩ | ⟨rfl, h⟩
      · rw [bnd_ok, onL_nx]
        exact ih (i + 1) r' (fun j => by rw [show i + 1 + j = i + (j + 1) by omega, ← hu (j + 1)]; simp) (by simp only [List.length_cons] at hl; omega) h
      · rw [bnd_ok, onL_ret, OK_ok]; exact h
      · rw [bnd_ok, onL_bk, OK_ok]; exact h
  exact key ws 0 r (fun j => by rw [Nat.zero_add]) (Nat.zero_add _) h0
theorem whlL_ok {c : Env → R Bool} {f : Env → R Fl} {n : Nat} (Inv : Nat → Env → Prop) (Q : Fl → Env → Prop) (h0 : Inv n r) (hs : ∀ k r, Inv k r → 0 < k ∧ OK (c r) fun b r1 => (b = false ∧ Q .nx r1) ∨ (b = true ∧ OK (f r1) fun fl r' => (fl = .nx ∧ Inv (k - 1) r'))) : ∀ {m : Nat}, n ≤ m → OK (whlL c f m r) Q := by
  intro m hm
  induction n generalizing m r with
  | zero => exact absurd (hs 0 r h0).1 (by omega)
  | succ n ih =>
    obtain ⟨m, rfl⟩ : ∃ k, m = k + 1 := ⟨m - 1, by omega⟩
    obtain ⟨_, b, r1, e, h⟩ := hs (n + 1) r h0
    rw [whlL_succ, e, bnd_ok]
    rcases h with ⟨rfl, h⟩ | ⟨rfl, fl, r2, e2, rfl, h2⟩
    · rw [bM_false, OK_ok]; exact h
    · rw [bM_true, e2, bnd_ok, onL_nx]
      exact ih h2 (by omega)
end
/-! ### walked things -/
theorem enum_enc {A : Type} {enc : A → W} : ∀ (l : List A) (n : Nat), enumFrom n (l.map enc) = (l.zipIdx n).map fun p => W.tup [vN p.2, enc p.1]
  | [], _ => rfl
  | a :: l, n => by
    simp only [List.map_cons, enumFrom, List.zipIdx_cons, enum_enc l (n + 1)]
    rfl
theorem zip_enc {A B : Type} {enc : A → W} {enc2 : B → W} : ∀ (l : List A) (m : List B), zipW (l.map enc) (m.map enc2) = (l.zip m).map fun p => W.tup [enc p.1, enc2 p.2]
  | [], m => by cases m <;> rfl
  | a :: l, [] => rfl
  | a :: l, b :: m => by simp [zipW, zip_enc l m]
theorem ints_enc {A : Type} {g : A → Int} : ∀ l : List A, intsW (l.map fun a => W.int (g a)) = some (l.map g)
  | [] => rfl
  | a :: l => by simp [intsW, ints_enc l]
theorem ints_vN (l : List Nat) : intsW (l.map vN) = some (l.map fun (n : Nat) => (n : Int)) := ints_enc l
theorem bls_enc {A : Type} {g : A → Bool} : ∀ l : List A, blsW (l.map fun a => W.bl (g a)) = some (l.map g)
  | [] => rfl
  | a :: l => by simp [blsW, bls_enc l]
end Dn
-- Q2
set_option maxRecDepth 100000
set_option maxHeartbeats 1000000
/-! The laws' own helpers: boxes, draws, the end. -/
namespace Dn
open PySem
/-- _law_cell_at: 2, 2 names, 0 changed: 0 script 1 k -/
def b_Lcell_at : Ss := (.cons (.ite (.cmp .lt (.var 1) (.bi .len (.cons (.var 0) .nil)))
  (.cons (.ret (.idx (.var 0) (.var 1)))
  .nil)
  .nil)
  (.cons (.ret (.cst (.int 0)))
  .nil))
/-- _law_box: 2, 3 names, 0 changed: 0 script 1 k 2 cell -/
def b_Lbox : Ss := (.cons (.set (.nm 2) (.call 500 (.val (.var 0) (.val (.var 1) .nil))))
  (.cons (.ret (.lst (.cons (.bin .mul (.bi .abs (.cons (.var 2) .nil)) (.bi .int (.cons (.cmp .ge (.bi .abs (.cons (.var 2) .nil)) (.bin .pow (.cst (.int 10)) (.cst (.int 18)))) .nil))) (.cons (.bin .add (.bin .add (.bin .mod (.var 2) (.cst (.int 2305843009213693951))) (.bin .mul (.cst (.int 39373)) (.var 1))) (.cst (.int 17))) (.cons (.cst (.int 0)) .nil)))))
  .nil))
/-- _law_rising: 2, 5 names, 1 changed: 0 box_here 1 count 2 found 3 low 4 place -/
def b_Lrising : Ss := (.cons (.par [2, 3] (.val (.lst .nil) (.val (.cst (.int 0)) .nil)))
  (.cons (.for_ (.nm 4) (.rng1 (.var 1))
  (.cons (.set (.nm 3) (.bi .max2 (.cons (.var 3) (.cons (.idx (.lst (.cons (.var 3) (.cons (.var 4) (.cons (.call 502 (.bor 0 (.val (.var 1) .nil))) (.cons (.bin .add (.var 3) (.call 502 (.bor 0 (.val (.cst (.int 2)) .nil)))) .nil))))) (.call 502 (.bor 0 (.val (.cst (.int 4)) .nil)))) .nil))))
  (.cons (.ex (.mut .append 2 [] (.cons (.bi .min2 (.cons (.var 3) (.cons (.bin .sub (.var 1) (.cst (.int 1))) .nil))) .nil)))
  .nil)))
  (.cons (.ret (.bi .tuple (.cons (.var 2) .nil)))
  .nil)))
/-- law: 1, 2 names, 0 changed: 0 script 1 k -/
def b_law : Ss := (.cons (.ret (.bi .all (.cons (.comp [1] (.nm 1) (.rng1 (.bin .add (.cst (.int 1)) (.bi .min2 (.cons (.cst (.int 2)) (.cons (.bi .len (.cons (.var 0) .nil)) .nil))))) .none (.call 505 (.val (.call 501 (.val (.var 0) (.val (.var 1) .nil))) .nil))) .nil)))
  .nil)
/-- a box of draws; so many at most so far -/
def Bx (c : Nat) (m : M) : Prop := ∃ i j k : Int, m = bx i j k ∧ 0 ≤ i ∧ 0 ≤ k ∧ k ≤ c
theorem Bx.up {c d : Nat} {m : M} (h : Bx c m) (hd : c ≤ d) : Bx d m := by
  obtain ⟨i, j, k, e, h1, h2, h3⟩ := h
  exact ⟨i, j, k, e, h1, h2, by omega⟩
section
variable {P : Pg} {n c : Nat} {m : M}
theorem take_sp (B : Has P 502 (b_take 502) 2 5 [0]) (hn : 0 < n) (hm : Bx c m) (hc : c < 2 ^ 61) {s : Int} (h0 : 0 < s) (h1 : s ≤ 10000000) :
    ∃ (r : Nat) (m' : M), (P.th n).fn 502 [m, .im (.int s)] = .ok (.im (.int r)) [m', .im .non] ∧ (r : Int) < s ∧ Bx (c + 1) m' := by
  obtain ⟨d, g1, g2, g3, g4, g5⟩ := B
  obtain ⟨i, j, k, rfl, h2, h3, h4⟩ := hm
  obtain ⟨n, rfl⟩ : ∃ k, n = k + 1 := ⟨n - 1, by omega⟩
  obtain ⟨r, i', k', e, h5, h6, h7, h8, h9⟩ := take_ev (n := n) g1 g2 g3 g4 g5 (i := i) (j := j) (k := k) (s := s) h2 h3 (by omega) h0 h1
  refine ⟨r.toNat, bx i' j k', ?_, by omega, i', j, k', rfl, h7, by omega, by omega⟩
  rw [e, Int.toNat_of_nonneg h5]
theorem cell_sp (B : Has P 500 b_Lcell_at 2 2 []) (hn : 0 < n) {ns : List Int} {k : Nat} : ∃ i, (P.th n).fn 500 [.im (.scr ns), .im (.int k)] = .ok (.im (.int i)) [.im .non, .im .non] := by
  by_cases hk : k < ns.length
  · refine ⟨ns[k], fn_ok B hn rfl ?_⟩
    have h1 : L2.atI ns (k : Int) = some ns[k] := L2.atI_nat (List.getElem?_eq_getElem hk)
    simp [b_Lcell_at, hk, idxW, h1]
  · refine ⟨0, fn_ok B hn rfl ?_⟩
    simp [b_Lcell_at, hk]
theorem pow18 : powOk 10 18 = true := by decide
theorem box_sp (B : Has P 501 b_Lbox 2 3 []) (B0 : Has P 500 b_Lcell_at 2 2 []) (hn : 1 < n) {ns : List Int} {k : Nat} : ∃ m, (P.th n).fn 501 [.im (.scr ns), .im (.int k)] = .ok m [.im .non, .im .non] ∧ Bx 0 m := by
  obtain ⟨i, e⟩ := cell_sp (n := n - 1) B0 (by omega) (ns := ns) (k := k)
  refine fn_ex (Q := Bx 0) B (by omega) rfl ?_
  have p1 : ∀ (x : Int) (q : Prop) [Decidable q], mulOk x (if q then 1 else 0) = true := fun x q _ => by split <;> exact mul_r (by decide) (by decide)
  have p2 : ∀ (x : Int), mulOk 39373 x = true := fun x => mul_l (by decide) (by decide)
  have h0 : ∀ x : Int, 0 ≤ (if x < 0 then -x else x) := fun x => by split <;> omega
  simp [b_Lbox, e, b_mod, b_pow pow18, b_mul, p1, p2]
  refine ⟨_, _, 0, rfl, ?_, by omega, by omega⟩
  exact Int.mul_nonneg (h0 i) (by (repeat' split) <;> omega)
/-- all boxes' truths -/
theorem law_end (B : Has P 506 b_law 1 2 []) (B1 : Has P 501 b_Lbox 2 3 []) (B0 : Has P 500 b_Lcell_at 2 2 []) (hn : 2 < n) (h : ∀ m, Bx 0 m → ∃ m', (P.th (n - 1)).fn 505 [m] = .ok (.im (.bl true)) [m']) (ns : List Int) :
    ∃ ms, (P.th n).fn 506 [.im (.scr ns)] = .ok (.im (.bl true)) ms := by
  refine ⟨_, fn_ok B (by omega) rfl ?_⟩
  have key : ∀ (k : Nat) (r : Env), getM r 0 = some (.im (.scr ns)) → r.length = 2 → cT (P.th (n - 1)) [1] (.nm 1) .none (.call 505 (.val (.call 501 (.val (.var 0) (.val (.var 1) .nil))) .nil)) (vN k) [some (.im (.scr ns)), none] = .ok (some (.bl true)) [some (.im (.scr ns)), none] := by
    intro k r _ _
    obtain ⟨m, e1, h1⟩ := box_sp (n := n - 1) B1 B0 (by omega) (ns := ns) (k := k)
    obtain ⟨m', e2⟩ := h m h1
    simp [cT, vN, e1, e2]
  have hj : ((1 : Int) + if (ns.length : Int) < 2 then (ns.length : Int) else 2).toNat ≤ 3 := by split <;> omega
  have hr : rOk ((1 : Int) + if (ns.length : Int) < 2 then (ns.length : Int) else 2) = true := rOk_of (by split <;> omega) (by split <;> omega)
  generalize hz : ((1 : Int) + if (ns.length : Int) < 2 then (ns.length : Int) else 2) = z at hj hr
  have hc := compL_all (enc := vN) (f := cT (P.th (n - 1)) [1] (.nm 1) .none (.call 505 (.val (.call 501 (.val (.var 0) (.val (.var 1) .nil))) .nil))) (r := [some (.im (.scr ns)), none]) (fun _ => .bl true) (l := List.range z.toNat) (fun k _ => key k [some (.im (.scr ns)), none] rfl rfl) (by rw [List.length_range]; exact lim_le (by omega))
  have hb : blsW ((List.range z.toNat).map fun _ => W.bl true) = some ((List.range z.toNat).map fun _ => true) := bls_enc (g := fun _ => true) _
  simp [b_law, hz, hr, upTo_vN, hc, hb]
end
end Dn
-- Q3
set_option maxRecDepth 100000
set_option maxHeartbeats 4000000
/-! Never-falling rows, drawn; alike; rows of places. -/
namespace Dn
open PySem
/-- never falling, within the places -/
structure Ris (s : List Nat) : Prop where
  up : s.Pairwise (· ≤ ·)
  lt : ∀ o ∈ s, o < s.length
theorem Ris.mono {s : List Nat} (h : Ris s) : ∀ p q, p ≤ q → q < s.length → s.getD p 0 ≤ s.getD q 0 := fun p q hpq hq => by
  rw [List.getD_eq_getElem?_getD, List.getD_eq_getElem?_getD, List.getElem?_eq_getElem hq, List.getElem?_eq_getElem (by omega)]
  rcases Nat.lt_or_ge p q with h1 | h1
  · exact (List.pairwise_iff_getElem.mp h.up) p q (by omega) hq h1
  · have : p = q := by omega
    subst this; exact Nat.le_refl _
theorem rgN {k : Nat} (hl : k ≤ LIM) : rngM true 0 (k : Int) = some (.im (.tup ((List.range k).map vN))) := rng_vN hl
section
variable {P : Pg} {n c : Nat} {m : M} {T : List W → W}
theorem rising_sp (B : Has P 504 b_Lrising 2 5 [0]) (B2 : Has P 502 (b_take 502) 2 5 [0]) (hn : 1 < n) {k : Nat} (hk : 0 < k) (hk2 : k ≤ 1000) (hm : Bx c m) (hc : c < 2 ^ 60) :
    ∃ (s : List Nat) (m' : M), (P.th n).fn 504 [m, .im (.int k)] = .ok (.im (.tup (s.map vN))) [m', .im .non] ∧ s.length = k ∧ Ris s ∧ Bx (c + 3 * k) m' := by
  have key : ∃ (v : M) (as : List M), (P.th n).fn 504 [m, .im (.int k)] = .ok v as ∧ ∃ (s : List Nat) (m' : M), v = .im (.tup (s.map vN)) ∧ as = [m', .im .non] ∧ s.length = k ∧ Ris s ∧ Bx (c + 3 * k) m' := by
    refine fn_lk B (by omega) rfl ?_
    have hr : rOk (k : Int) = true := rOk_nat (by omega)
    simp [b_Lrising, hr, upTo_vN]
    refine OK.bnd (forL_ok (fun j r => ∃ (m' : M) (l : List Nat) (low : Nat) (x : Option M), r = [some m', some (.im (.int k)), some (.ls (l.map vN)), some (.im (.int low)), x] ∧ l.length = j ∧ j ≤ k ∧ l.Pairwise (· ≤ ·) ∧ (∀ o ∈ l, o ≤ low ∧ o < k) ∧ Bx (c + 3 * j) m') ?_ ?_) ?_
    · exact ⟨m, [], 0, none, rfl, rfl, by omega, .nil, by simp, hm⟩
    · rintro j w r hj ⟨m', l, low, x, rfl, h1, h2, h3, h4, h5⟩
      obtain ⟨hj1, rfl⟩ : j < k ∧ w = vN j := by
        rw [List.getElem?_map] at hj
        by_cases hjk : j < k
        · rw [List.getElem?_range hjk] at hj
          exact ⟨hjk, by simpa using hj.symm⟩
        · rw [List.getElem?_eq_none (by simpa using hjk)] at hj
          simp at hj
      obtain ⟨t1, m1, e1, d1, g1⟩ := take_sp (n := n - 1) B2 (by omega) h5 (by omega) (s := (k : Int)) (by omega) (by omega)
      obtain ⟨t2, m2, e2, d2, g2⟩ := take_sp (n := n - 1) B2 (by omega) g1 (by omega) (s := 2) (by omega) (by omega)
      obtain ⟨t3, m3, e3, d3, g3⟩ := take_sp (n := n - 1) B2 (by omega) g2 (by omega) (s := 4) (by omega) (by omega)
      obtain ⟨q, hq⟩ : ∃ q : Nat, [W.int ↑low, W.int ↑j, W.int ↑t1, W.int (↑low + ↑t2)][t3]? = some (.int (q : Int)) := by
        rcases (by omega : t3 = 0 ∨ t3 = 1 ∨ t3 = 2 ∨ t3 = 3) with rfl | rfl | rfl | rfl
        · exact ⟨low, rfl⟩
        · exact ⟨j, rfl⟩
        · exact ⟨t1, rfl⟩
        · exact ⟨low + t2, by simp⟩
      obtain ⟨mx, hmx, hm1⟩ : ∃ mx : Nat, (if low < q then (q : Int) else (low : Int)) = (mx : Int) ∧ low ≤ mx := ⟨max low q, by split <;> omega, by omega⟩
      have hmn : (if (k : Int) - 1 < (mx : Int) then (k : Int) - 1 else (mx : Int)) = ((min mx (k - 1) : Nat) : Int) := by
        split <;> omega
      have hL : l.length < LIM := lim_lt (by omega)
      have hap : List.map vN l ++ [W.int ((min mx (k - 1) : Nat) : Int)] = (l ++ [min mx (k - 1)]).map vN := by simp [vN]
      refine OK_gen fun Q hQ => ?_
      simp [fT, e1, e2, e3, hq, hmx, hmn, hL, mut_append, show vN j = .int (j : Int) from rfl]
      rw [hap]
      refine hQ _ _ ⟨rfl, m3, l ++ [min mx (k - 1)], mx, _, rfl, by simp [h1], by omega, ?_, ?_, g3.up (by omega)⟩
      · rw [List.pairwise_append]
        refine ⟨h3, by simp, fun a ha b hb => ?_⟩
        have := h4 a ha
        have hb' : b = min (mx) (k - 1) := by simpa using hb
        omega
      · intro o ho
        rcases List.mem_append.mp ho with ho | ho
        · have := h4 o ho
          omega
        · have : o = min (mx) (k - 1) := by simpa using ho
          omega
    · rintro fl r ⟨rfl, m', l, low, x, rfl, h1, h2, h3, h4, h5⟩
      have h1' : l.length = k := by simpa using h1
      simp [argsOf]
      exact ⟨l, rfl, h1', ⟨h3, fun o ho => by rw [h1']; exact (h4 o ho).2⟩, by simpa using h5⟩
  obtain ⟨v, as, e, s, m', rfl, rfl, h⟩ := key
  exact ⟨s, m', e, h⟩
end
/-- alike, kind by kind: a thing and itself -/
theorem same_sp {P : Pg} {n k : Nat} (B : Has P 503 (b_same 503) 2 4 []) {w : W} (hw : PD k w) (hk : k ≤ 60) (hn : k < n) : (P.th n).fn 503 [.im w, .im w] = .ok (.im (.bl true)) [.im .non, .im .non] := by
  obtain ⟨d, h1, h2, h3, h4, h5⟩ := B
  exact same_ev h1 h2 h3 h4 h5 k w hw hk n hn
def rowD (t : List Nat) : PyData := .tuple (t.map fun (x : Nat) => PyData.int x)
def rowW (t : List Nat) : W := .tup (t.map vN)
theorem toD_row (t : List Nat) : (rowW t).toD = some (rowD t) := by
  have h := toDs_ints (t.map fun (x : Nat) => (x : Int))
  rw [List.map_map, List.map_map] at h
  unfold rowW rowD
  simp only [W.toD]
  rw [show t.map vN = t.map (W.int ∘ fun (x : Nat) => (x : Int)) from rfl, h]
  rfl
theorem eqv_row (a b : List Nat) : PyData.eqv (rowD a) (rowD b) = decide (a = b) := by
  have h := eqv_ints (a.map fun (x : Nat) => (x : Int)) (b.map fun (x : Nat) => (x : Int))
  rw [List.map_map, List.map_map] at h
  unfold rowD
  simp only [PyData.eqv]
  rw [show (a.map fun (x : Nat) => PyData.int x) = a.map (PyData.int ∘ fun (x : Nat) => (x : Int)) from rfl, show (b.map fun (x : Nat) => PyData.int x) = b.map (PyData.int ∘ fun (x : Nat) => (x : Int)) from rfl, h, decide_eq_decide]
  constructor
  · intro h
    exact (List.map_inj_right (f := fun (x : Nat) => (x : Int)) (fun x y h => Int.ofNat_inj.mp h)).mp h
  · intro h; rw [h]
theorem toDs_rows : ∀ l : List (List Nat), W.toDs (l.map rowW) = some (l.map rowD)
  | [] => rfl
  | t :: l => by simp [W.toDs, toD_row, toDs_rows l]
theorem pd_row {n : Nat} {t : List Nat} (h : t.length ≤ LIM) : PD (n + 1) (rowW t) := .tup (by simpa using h) fun w hw => by
  obtain ⟨x, _, rfl⟩ := List.mem_map.mp hw
  exact .int _
theorem pd_rows {n : Nat} {l : List (List Nat)} (h : l.length ≤ LIM) (h2 : ∀ t ∈ l, t.length ≤ LIM) : PD (n + 2) (.lst (l.map rowW)) := .lst (by simpa using h) fun w hw => by
  obtain ⟨x, hx, rfl⟩ := List.mem_map.mp hw
  exact pd_row (h2 x hx)
theorem idx_rows {a : List Nat} {l : List (List Nat)} (ha : a.length ≤ LIM) (h : l.length ≤ LIM) (h2 : ∀ t ∈ l, t.length ≤ LIM) : idxL (rowW a) (l.map rowW) = l.findIdx? fun t => decide (t = a) := by
  obtain ⟨d, g1, g2, _⟩ := (pd_row (n := 0) ha).shaped (by decide)
  obtain ⟨d2, g3, g4, _⟩ := (pd_rows (n := 0) h h2).shaped (by decide)
  unfold idxL
  simp only [W.toD, toDs_rows, Option.map_some, Option.some.injEq] at g3
  rw [toD_row] at g1 ⊢
  cases g1
  subst g3
  rw [toDs_rows]
  simp only [g2, g4, Bool.and_self, if_true]
  rw [List.findIdx?_map]
  congr 1
  funext t
  simp only [Function.comp, eqv_row]
end Dn
-- Q4
set_option maxRecDepth 100000
set_option maxHeartbeats 4000000
/-! Living ones, spans, what is forced, prices. -/
namespace Dn
open PySem
/-- living: 1, 1 names, 0 changed: 0 origins -/
def b_living : Ss := (.cons (.ret (.srs (.var 0)))
  .nil)
/-- span: 2, 5 names, 0 changed: 0 origins 1 place 2 had 3 at 4 origin -/
def b_span : Ss := (.cons (.set (.nm 2) (.frz (.comp [3, 4] (.tp [(.nm 3), (.nm 4)]) (.enum (.var 0)) (.some (.cmp .eq (.var 4) (.var 1))) (.var 3))))
  (.cons (.ret (.tup (.cons (.bi .min2 (.cons (.idx (.var 2) (.cst (.int 0))) (.cons (.var 1) .nil))) (.cons (.bi .max2 (.cons (.idx (.var 2) (.neg (.cst (.int 1)))) (.cons (.var 1) .nil))) .nil))))
  .nil))
/-- fewest_takings: 1, 5 names, 0 changed: 0 origins 1 spans 2 origin 3 first 4 last -/
def b_fewest_takings : Ss := (.cons (.set (.nm 1) (.frz (.comp [2] (.nm 2) (.seq (.call 33 (.val (.var 0) .nil))) .none (.call 34 (.val (.var 0) (.val (.var 2) .nil))))))
  (.cons (.ret (.bi .sum (.cons (.comp [3, 4] (.tp [(.nm 3), (.nm 4)]) (.seq (.var 1)) .none (.bin .sub (.var 4) (.var 3))) .nil)))
  .nil))
/-- forced: 1, 6 names, 0 changed: 0 origins 1 found 2 origin 3 first 4 last 5 place -/
def b_forced : Ss := (.cons (.set (.nm 1) (.lst .nil))
  (.cons (.for_ (.nm 2) (.seq (.call 33 (.val (.var 0) .nil)))
  (.cons (.set (.tp [(.nm 3), (.nm 4)]) (.call 34 (.val (.var 0) (.val (.var 2) .nil))))
  (.cons (.ex (.mut .extend 1 [] (.cons (.comp [5] (.nm 5) (.rng2 (.var 3) (.bin .add (.var 4) (.cst (.int 1)))) (.some (.cmp .ne (.var 5) (.var 2))) (.tup (.cons (.var 5) (.cons (.var 2) .nil)))) .nil)))
  .nil)))
  (.cons (.ret (.srt (.var 1)))
  .nil)))
/-- fewest_beats: 1, 3 names, 0 changed: 0 origins 1 place 2 origin -/
def b_fewest_beats : Ss := (.cons (.ret (.bi .maxl (.cons (.comp [1, 2] (.tp [(.nm 1), (.nm 2)]) (.enum (.var 0)) .none (.bi .abs (.cons (.bin .sub (.var 2) (.var 1)) .nil))) .nil)))
  .nil)
/-- price: 2, 4 names, 0 changed: 0 origins 1 prices 2 place 3 origin -/
def b_price : Ss := (.cons (.ret (.bi .sum (.cons (.comp [2, 3] (.tp [(.nm 2), (.nm 3)]) (.seq (.call 37 (.val (.var 0) .nil))) .none (.idx (.var 1) (.var 2))) .nil)))
  .nil)
/-- _law_of: 2, 2 names, 1 changed: 0 box_here 1 some -/
def b_Lof : Ss := (.cons (.ret (.idx (.var 1) (.call 502 (.bor 0 (.val (.frz (.bi .len (.cons (.var 1) .nil))) .nil)))))
  .nil)
/-! ### values as places -/
section
variable {a b : Nat} {r : Env}
@[simp] theorem R_int_vN : R.int (.ok (.im (vN a)) r) = .ok (a : Int) r := nrf rfl
@[simp] theorem eqW_N : eqW (vN a) (vN b) = some (decide (a = b)) := by
  unfold vN
  rw [eqW_intd]
  congr 1
  rw [decide_eq_decide]
  omega
@[simp] theorem lt_N : cmpW .lt (vN a) (vN b) = some (decide (a < b)) := by
  show some (decide ((a : Int) < (b : Int))) = _
  congr 1
  rw [decide_eq_decide]
  omega
@[simp] theorem le_N : cmpW .le (vN a) (vN b) = some (decide (a ≤ b)) := by
  show some (decide ((a : Int) ≤ (b : Int))) = _
  congr 1
  rw [decide_eq_decide]
  omega
@[simp] theorem gt_N : cmpW .gt (vN a) (vN b) = some (decide (b < a)) := by
  show some (decide ((b : Int) < (a : Int))) = _
  congr 1
  rw [decide_eq_decide]
  omega
@[simp] theorem ge_N : cmpW .ge (vN a) (vN b) = some (decide (b ≤ a)) := by
  show some (decide ((b : Int) ≤ (a : Int))) = _
  congr 1
  rw [decide_eq_decide]
  omega
@[simp] theorem add_N : binW .add (vN a) (vN b) = some (.im (vN (a + b))) := by
  show some (M.im (.int ((a : Int) + (b : Int)))) = _
  unfold vN
  congr 3
theorem sub_N (h : b ≤ a) : binW .sub (vN a) (vN b) = some (.im (vN (a - b))) := by
  show some (M.im (.int ((a : Int) - (b : Int)))) = _
  unfold vN
  congr 3
  omega
@[simp] theorem min2_N : biW .min2 [vN a, vN b] = some (.im (vN (min a b))) := by
  show some (M.im (.int (if (b : Int) < (a : Int) then (b : Int) else (a : Int)))) = _
  unfold vN
  congr 3
  split <;> omega
@[simp] theorem max2_N : biW .max2 [vN a, vN b] = some (.im (vN (max a b))) := by
  show some (M.im (.int (if (b : Int) > (a : Int) then (b : Int) else (a : Int)))) = _
  unfold vN
  congr 3
  split <;> omega
@[simp] theorem isNon_N : isNon (vN a) = false := nrf rfl
@[simp] theorem tru_N : truW (vN a) = some ((a : Int) != 0) := nrf rfl
theorem lit0 : W.int 0 = vN 0 := rfl
theorem lit1 : W.int 1 = vN 1 := rfl
theorem lit2 : W.int 2 = vN 2 := rfl
end
theorem natAbs_if (x : Int) : (if x < 0 then -x else x) = (x.natAbs : Int) := by split <;> omega
theorem compL_inv {f : W → Env → R (Option W)} (Inv : Nat → Env → List W → Prop) : ∀ {ws : List W} {r : Env} {acc : List W} {i : Nat}, Inv i r acc → acc.length + ws.length ≤ LIM →
    (∀ (j : Nat) (w : W) (r : Env) (acc : List W), ws[j]? = some w → Inv (i + j) r acc → OK (f w r) fun o r' => Inv (i + j + 1) r' (match o with | some x => acc ++ [x] | none => acc)) → OK (compL f ws r acc) fun xs r' => Inv (i + ws.length) r' xs
  | [], r, acc, i, h, _, _ => by
    rw [compL_nil, OK_ok]
    exact h
  | w :: ws, r, acc, i, h, hl, hs => by
    have hl' : acc.length + (ws.length + 1) ≤ LIM := hl
    obtain ⟨o, r1, e1, h1⟩ := hs 0 w r acc rfl h
    have step : ∀ acc', acc'.length ≤ acc.length + 1 → Inv (i + 1) r1 acc' → OK (compL f ws r1 acc') fun xs r' => Inv (i + (w :: ws).length) r' xs := fun acc' ha h' => by
      rw [List.length_cons, show i + (ws.length + 1) = i + 1 + ws.length by omega]
      refine compL_inv Inv h' (by omega) fun j w' r' acc'' hj hi => ?_
      have := hs (j + 1) w' r' acc'' (by simpa using hj) (by rw [show i + (j + 1) = i + 1 + j by omega]; exact hi)
      rw [show i + (j + 1) + 1 = i + 1 + j + 1 by omega] at this
      exact this
    rw [compL, e1]
    cases o with
    | none => exact step acc (by omega) h1
    | some x =>
      show OK (if acc.length < LIM then _ else _) _
      rw [if_pos (by omega)]
      exact step _ (by simp) h1
/-! ### living ones, spans, what is forced -/
def insN (x : Nat) : List Nat → List Nat
  | [] => [x]
  | y :: l => if x < y then x :: y :: l else if x = y then y :: l else y :: insN x l
def livS (l : List Nat) : List Nat := l.foldr insN []
theorem insN_int (x : Nat) : ∀ l : List Nat, insU (x : Int) (l.map fun (y : Nat) => (y : Int)) = (insN x l).map fun (y : Nat) => (y : Int)
  | [] => rfl
  | y :: l => by
    unfold insN
    rw [List.map_cons, insU]
    by_cases h1 : x < y
    · rw [if_pos h1, if_pos (by omega)]; rfl
    · rw [if_neg h1, if_neg (by omega)]
      by_cases h2 : x = y
      · rw [if_pos h2, if_pos (by omega)]; rfl
      · rw [if_neg h2, if_neg (by omega), insN_int x l]; rfl
theorem livS_int : ∀ l : List Nat, sortU (l.map fun (y : Nat) => (y : Int)) = (livS l).map fun (y : Nat) => (y : Int)
  | [] => rfl
  | x :: l => by
    show insU (x : Int) (sortU (l.map fun (y : Nat) => (y : Int))) = (insN x (livS l)).map fun (y : Nat) => (y : Int)
    rw [livS_int l, insN_int]
theorem mem_livS {s : List Nat} {o : Nat} : o ∈ livS s ↔ o ∈ s := by
  have h := mem_sortU (l := s.map fun (y : Nat) => (y : Int)) (y := (o : Int))
  rw [livS_int] at h
  have e : ∀ l : List Nat, (o : Int) ∈ l.map (fun (y : Nat) => (y : Int)) ↔ o ∈ l := fun l => by
    rw [List.mem_map]
    constructor
    · rintro ⟨y, hy, e⟩
      have : y = o := by omega
      rw [← this]; exact hy
    · intro h; exact ⟨o, h, rfl⟩
  rw [e, e] at h
  exact h
theorem livS_up (s : List Nat) : (livS s).Pairwise (· < ·) := by
  have h := sortU_up (s.map fun (y : Nat) => (y : Int))
  rw [livS_int] at h
  exact (List.pairwise_map.mp h).imp fun {a b} h => by omega
theorem insN_len (x : Nat) : ∀ l : List Nat, (insN x l).length ≤ l.length + 1
  | [] => by simp [insN]
  | y :: l => by
    have := insN_len x l
    unfold insN
    split
    · simp
    · split <;> simp
      omega
theorem livS_len : ∀ s : List Nat, (livS s).length ≤ s.length
  | [] => by simp [livS]
  | x :: l => by
    have h1 := livS_len l
    have h2 := insN_len x (livS l)
    show (insN x (livS l)).length ≤ l.length + 1
    omega
theorem setW_N {s : List Nat} (h : s.length < 64) : setW (s.map vN) = some ((livS s).map fun (y : Nat) => (y : Int)) := by
  unfold setW
  rw [if_pos (by simpa using h), ints_vN, Option.map_some, livS_int]
/-- the places that have o's word -/
def hadS (s : List Nat) (o : Nat) : List Nat := (List.range s.length).filter fun p => s.getD p 0 == o
theorem mem_hadS {s : List Nat} {o p : Nat} : p ∈ hadS s o ↔ p < s.length ∧ s.getD p 0 = o := by
  unfold hadS
  rw [List.mem_filter, List.mem_range, beq_iff_eq]
theorem hadS_ne {s : List Nat} {o : Nat} (h : o ∈ s) : hadS s o ≠ [] := by
  obtain ⟨i, hi⟩ := List.mem_iff_getElem?.mp h
  have hl := (List.getElem?_eq_some_iff.mp hi).1
  exact List.ne_nil_of_mem (mem_hadS.mpr ⟨hl, by rw [List.getD_eq_getElem?_getD, hi]; rfl⟩)
theorem hadS_up (s : List Nat) (o : Nat) : (hadS s o).Pairwise (· < ·) := List.Pairwise.filter _ List.pairwise_lt_range
def spanS (s : List Nat) (o : Nat) : Nat × Nat := (min ((hadS s o).head?.getD 0) o, max ((hadS s o).getLast?.getD 0) o)
theorem spanS_le (s : List Nat) (o : Nat) : (spanS s o).1 ≤ o ∧ o ≤ (spanS s o).2 := by unfold spanS; omega
/-- first .. last but o itself -/
def forcedAt (s : List Nat) (o : Nat) : List (Nat × Nat) := ((List.range' (spanS s o).1 ((spanS s o).2 + 1 - (spanS s o).1)).filter fun p => p != o).map fun p => (p, o)
def forcedU (s : List Nat) : List (Nat × Nat) := (livS s).flatMap (forcedAt s)
def prW (p : Nat × Nat) : W := .tup [vN p.1, vN p.2]
def prI (p : Nat × Nat) : Int × Int := (p.1, p.2)
theorem prW_I (p : Nat × Nat) : prW p = pairW (prI p) := rfl
def leN (p q : Nat × Nat) : Bool := decide (p.1 < q.1) || (decide (p.1 = q.1) && decide (p.2 ≤ q.2))
def insQ (x : Nat × Nat) : List (Nat × Nat) → List (Nat × Nat)
  | [] => [x]
  | y :: l => if leN x y then x :: y :: l else y :: insQ x l
def sortQ (l : List (Nat × Nat)) : List (Nat × Nat) := l.foldr insQ []
theorem leN_I (p q : Nat × Nat) : leP (prI p) (prI q) = leN p q := by
  unfold leP leN prI
  congr 1
  · rw [decide_eq_decide]; simp only; omega
  · congr 1
    · rw [decide_eq_decide]; simp only; omega
    · rw [decide_eq_decide]; simp only; omega
theorem insQ_I (x : Nat × Nat) : ∀ l : List (Nat × Nat), insP (prI x) (l.map prI) = (insQ x l).map prI
  | [] => rfl
  | y :: l => by
    unfold insQ
    rw [List.map_cons, insP, leN_I]
    split
    · rfl
    · rw [insQ_I x l]; rfl
theorem sortQ_I : ∀ l : List (Nat × Nat), sortP (l.map prI) = (sortQ l).map prI
  | [] => rfl
  | x :: l => by
    show insP (prI x) (sortP (l.map prI)) = (insQ x (sortQ l)).map prI
    rw [sortQ_I l, insQ_I]
def forcedS (s : List Nat) : List (Nat × Nat) := sortQ (forcedU s)
theorem ints_prs : ∀ {l : List (Nat × Nat)}, l ≠ [] → intsW (l.map prW) = none
  | [], h => absurd rfl h
  | _ :: _, _ => rfl
theorem prs_prs : ∀ l : List (Nat × Nat), prsW (l.map prW) = some (l.map prI)
  | [] => rfl
  | p :: l => by
    show (prsW (l.map prW)).map _ = _
    rw [prs_prs l]; rfl
theorem sortW_prs (l : List (Nat × Nat)) : sortW (l.map prW) = some (.ls ((sortQ l).map prW)) := by
  unfold sortW
  by_cases h : l = []
  · subst h; rfl
  · rw [ints_prs h, prs_prs]
    show some (M.ls ((sortP (l.map prI)).map pairW)) = _
    rw [sortQ_I, List.map_map]; rfl
theorem upTo_range' : ∀ (n a : Nat), upTo (a : Int) n = (List.range' a n).map vN
  | 0, _ => rfl
  | n + 1, a => by
    rw [upTo, List.range'_succ, List.map_cons, ← upTo_range' n (a + 1)]
    rfl
section
variable {P : Pg} {n c : Nat} {m : M} {T : List W → W}
theorem living_sp (B : Has P 33 b_living 1 1 []) (hn : 0 < n) (hT : isSq T) {s : List Nat} (hs : s.length < 64) : (P.th n).fn 33 [.im (T (s.map vN))] = .ok (.ls ((livS s).map vN)) [.im .non] := by
  refine fn_ok B hn rfl ?_
  have e := setW_N hs
  rcases hT with rfl | rfl <;> (simp [b_living, e, vN])
theorem span_sp (B : Has P 34 b_span 2 5 []) (hn : 0 < n) (hT : isSq T) {s : List Nat} (hs : s.length < 64) {o : Nat} (ho : o ∈ s) :
    (P.th n).fn 34 [.im (T (s.map vN)), .im (vN o)] = .ok (.im (prW (spanS s o))) [.im .non, .im .non] := by
  refine fn_ok B hn rfl ?_
  have hne := hadS_ne ho
  obtain ⟨a, ha⟩ : ∃ a, (hadS s o).head? = some a := by
    cases hh : (hadS s o).head? with
    | none => exact absurd (List.head?_eq_none_iff.mp hh) hne
    | some a => exact ⟨a, rfl⟩
  obtain ⟨b, hb⟩ : ∃ b, (hadS s o).getLast? = some b := by
    cases hh : (hadS s o).getLast? with
    | none => exact absurd (List.getLast?_eq_none_iff.mp hh) hne
    | some b => exact ⟨b, rfl⟩
  have h0 : ixW ((hadS s o).map vN) 0 = some (vN a) := ixW_nat (n := 0) (by rw [List.getElem?_map, ← List.head?_eq_getElem?, ha]; rfl)
  have h1 : ixW ((hadS s o).map vN) (-1) = some (vN b) := ixW_last (by rw [List.getLast?_map, hb]; rfl)
  have hc : ∀ r : Env, (∀ p, cT (P.th (n - 1)) [3, 4] (.tp [.nm 3, .nm 4]) (.some (.cmp .eq (.var 4) (.var 1))) (.var 3) (.tup [vN p, vN (s.getD p 0)]) r = .ok (if s.getD p 0 == o then some (vN p) else none) r) → compL (cT (P.th (n - 1)) [3, 4] (.tp [.nm 3, .nm 4]) (.some (.cmp .eq (.var 4) (.var 1))) (.var 3)) (enumFrom 0 (s.map vN)) r [] = .ok ((hadS s o).map vN) r := fun r hr => by
    rw [enum_vN, compL_if (enc := fun p => W.tup [vN p, vN (s.getD p 0)]) (fun p => s.getD p 0 == o) vN (fun p _ => hr p) (by rw [List.length_range]; exact lim_le (by omega))]
    rfl
  have hsp : spanS s o = (min a o, max b o) := by unfold spanS; rw [ha, hb]; rfl
  rcases hT with rfl | rfl
  all_goals
    simp [b_span]
    rw [hc _ (fun p => by
      generalize s.getD p 0 = q
      by_cases hq : q = o
      · subst hq; simp [cT]
      · simp [cT, hq])]
    simp [h0, h1, hsp, prW]
end
theorem intsW_N {A : Type} (f : A → Nat) (l : List A) : intsW (l.map fun a => vN (f a)) = some ((l.map f).map fun (x : Nat) => (x : Int)) := by
  rw [List.map_map]
  exact ints_enc (g := fun a => ((f a : Nat) : Int)) l
theorem sum_cast : ∀ l : List Nat, (l.map fun (x : Nat) => (x : Int)).sum = ((l.sum : Nat) : Int)
  | [] => rfl
  | x :: l => by
    rw [List.map_cons, List.sum_cons, List.sum_cons, sum_cast l]
    omega
theorem sum_N {A : Type} (f : A → Nat) (l : List A) : biW .sum [.lst (l.map fun a => vN (f a))] = some (.im (vN (l.map f).sum)) := by
  rw [bi_sum, intsW_N]
  show some (M.im (.int _)) = _
  rw [sum_cast]
  rfl
theorem spanS_lt {s : List Nat} (hlt : ∀ o ∈ s, o < s.length) {o : Nat} (ho : o ∈ s) : (spanS s o).2 < s.length := by
  have h1 := hlt o ho
  unfold spanS
  have h2 : (hadS s o).getLast?.getD 0 < s.length := by
    cases hh : (hadS s o).getLast? with
    | none => simp only [Option.getD_none]; omega
    | some b => exact (mem_hadS.mp (List.mem_of_getLast? hh)).1
  simp only
  omega
theorem forcedAt_len {s : List Nat} (hlt : ∀ o ∈ s, o < s.length) {o : Nat} (ho : o ∈ s) : (forcedAt s o).length ≤ s.length := by
  unfold forcedAt
  rw [List.length_map]
  refine Nat.le_trans (List.length_filter_le _ _) ?_
  rw [List.length_range']
  have := spanS_lt hlt ho
  omega
theorem flat_len {A B : Type} (f : A → List B) (k : Nat) : ∀ l : List A, (∀ a ∈ l, (f a).length ≤ k) → (l.flatMap f).length ≤ k * l.length
  | [], _ => by simp
  | a :: l, h => by
    have h1 := h a List.mem_cons_self
    have h2 := flat_len f k l fun b hb => h b (List.mem_cons_of_mem _ hb)
    rw [List.flatMap_cons, List.length_append, List.length_cons, Nat.mul_add]
    omega
/-- the fewest takings -/
def fewS (s : List Nat) : Nat := ((livS s).map fun o => (spanS s o).2 - (spanS s o).1).sum
/-- the fewest beats -/
def farS (s : List Nat) : List Int := (List.range s.length).map fun p => (((((s.getD p 0 : Nat) : Int) - (p : Int)).natAbs : Nat) : Int)
section
variable {P : Pg} {n c : Nat} {m : M} {T : List W → W}
structure ProgF (P : Pg) : Prop where
  living : Has P 33 b_living 1 1 []
  span : Has P 34 b_span 2 5 []
  few : Has P 36 b_fewest_takings 1 5 []
  forced : Has P 37 b_forced 1 6 []
/-- what the fewest takings lean on -/
structure ProgF0 (P : Pg) : Prop where
  living : Has P 33 b_living 1 1 []
  span : Has P 34 b_span 2 5 []
  few : Has P 36 b_fewest_takings 1 5 []
theorem ProgF.f0 {P : Pg} (B : ProgF P) : ProgF0 P := ⟨B.living, B.span, B.few⟩
theorem few_sp0 (B : ProgF0 P) (hn : 1 < n) (hT : isSq T) {s : List Nat} (hs : s.length < 64) : (P.th n).fn 36 [.im (T (s.map vN))] = .ok (.im (vN (fewS s))) [.im .non] := by
  refine fn_ok B.few (by omega) rfl ?_
  have e1 := living_sp (n := n - 1) B.living (by omega) hT hs
  have hll : (livS s).length ≤ LIM := lim_le (by have := livS_len s; omega)
  have e2 : ∀ r : Env, getM r 0 = some (.im (T (s.map vN))) → r.length = 5 → getM r 2 = none → compL (cT (P.th (n - 1)) [2] (.nm 2) .none (.call 34 (.val (.var 0) (.val (.var 2) .nil)))) ((livS s).map vN) r [] = .ok ((livS s).map fun o => prW (spanS s o)) r := by
    intro r h0 hr h2
    obtain ⟨x0, x1, x2, x3, x4, rfl⟩ := len5 hr
    simp at h0 h2
    subst h0 h2
    refine compL_all (fun o => prW (spanS s o)) (fun o ho => ?_) hll
    have e := span_sp (n := n - 1) B.span (by omega) hT hs (mem_livS.mp ho)
    simp [cT, e]
  have e3 : ∀ r : Env, r.length = 5 → getM r 3 = none → getM r 4 = none → compL (cT (P.th (n - 1)) [3, 4] (.tp [.nm 3, .nm 4]) .none (.bin .sub (.var 4) (.var 3))) ((livS s).map fun o => prW (spanS s o)) r [] = .ok ((livS s).map fun o => vN ((spanS s o).2 - (spanS s o).1)) r := by
    intro r hr h3 h4
    obtain ⟨x0, x1, x2, x3, x4, rfl⟩ := len5 hr
    simp at h3 h4
    subst h3 h4
    refine compL_all (enc := fun o => prW (spanS s o)) (fun o => vN ((spanS s o).2 - (spanS s o).1)) (fun o ho => ?_) hll
    have := spanS_le s o
    simp [cT, prW, sub_N (show (spanS s o).1 ≤ (spanS s o).2 by omega)]
  rcases hT with rfl | rfl
  all_goals
    simp [b_fewest_takings, e1]
    rw [e2 _ rfl rfl rfl]
    simp
    rw [e3 _ rfl rfl rfl]
    simp [-bi_sum, sum_N, fewS]
theorem few_sp (B : ProgF P) (hn : 1 < n) (hT : isSq T) {s : List Nat} (hs : s.length < 64) : (P.th n).fn 36 [.im (T (s.map vN))] = .ok (.im (vN (fewS s))) [.im .non] := few_sp0 B.f0 hn hT hs
theorem forced_sp (B : ProgF P) (hn : 1 < n) (hT : isSq T) {s : List Nat} (hs : s.length < 64) (hlt : ∀ o ∈ s, o < s.length) : (P.th n).fn 37 [.im (T (s.map vN))] = .ok (.ls ((forcedS s).map prW)) [.im .non] := by
  refine fn_ok B.forced (by omega) rfl ?_
  have e1 := living_sp (n := n - 1) B.living (by omega) hT hs
  have hfl : ∀ j, (((livS s).take j).flatMap (forcedAt s)).length ≤ 63 * 63 := fun j => by
    have h1 := flat_len (forcedAt s) 63 ((livS s).take j) fun o ho => by
      have := forcedAt_len hlt (mem_livS.mp (List.mem_of_mem_take ho))
      omega
    have h2 := livS_len s
    have h3 : ((livS s).take j).length ≤ 63 := by rw [List.length_take]; omega
    have h4 : 63 * ((livS s).take j).length ≤ 63 * 63 := Nat.mul_le_mul_left _ h3
    omega
  have e0 : ∀ r : Env, evE (P.th (n - 1)) (.var 0) (some (.im (T (s.map vN))) :: r) = .ok (.im (T (s.map vN))) (some (.im (T (s.map vN))) :: r) := fun r => by simp
  simp [b_forced, e1]
  refine OK.bnd (forL_ok (fun j r => ∃ x2 x3 x4 : Option M, r = [some (.im (T (s.map vN))), some (.ls ((((livS s).take j).flatMap (forcedAt s)).map prW)), x2, x3, x4, none]) ⟨none, none, none, by simp⟩ ?_) ?_
  · rintro j w r hj ⟨x2, x3, x4, rfl⟩
    obtain ⟨o, ho, rfl⟩ : ∃ o, (livS s)[j]? = some o ∧ w = vN o := by
      rw [List.getElem?_map] at hj
      obtain ⟨o, h1, h2⟩ := Option.map_eq_some_iff.mp hj
      exact ⟨o, h1, h2.symm⟩
    have hm := mem_livS.mp (List.mem_of_getElem? ho)
    have e2 := span_sp (n := n - 1) B.span (by omega) hT hs hm
    have hb := spanS_lt hlt hm
    have hle := spanS_le s o
    have htk : (livS s).take (j + 1) = (livS s).take j ++ [o] := by rw [List.take_add_one, ho]; rfl
    generalize hsp : spanS s o = sp at e2 hb hle
    obtain ⟨f, l⟩ := sp
    simp only at hb hle
    have hfa : forcedAt s o = ((List.range' f (l + 1 - f)).filter fun p => p != o).map fun p => (p, o) := by unfold forcedAt; rw [hsp]
    have h1 : rOk (f : Int) = true := rOk_nat (by omega)
    have h2 : rOk ((l : Int) + 1) = true := rOk_of (by omega) (by omega)
    have h3 : ((l : Int) + 1 - (f : Int)).toNat = l + 1 - f := by omega
    have hc : ∀ r : Env, (∀ p, cT (P.th (n - 1)) [5] (.nm 5) (.some (.cmp .ne (.var 5) (.var 2))) (.tup (.cons (.var 5) (.cons (.var 2) .nil))) (vN p) r = .ok (if p != o then some (prW (p, o)) else none) r) → compL (cT (P.th (n - 1)) [5] (.nm 5) (.some (.cmp .ne (.var 5) (.var 2))) (.tup (.cons (.var 5) (.cons (.var 2) .nil)))) ((List.range' f (l + 1 - f)).map vN) r [] = .ok ((forcedAt s o).map prW) r := fun r hr => by
      rw [compL_if (enc := vN) (fun p => p != o) (fun p => prW (p, o)) (fun p _ => hr p) (by rw [List.length_range']; exact lim_le (by omega)), hfa, List.map_map]
      rfl
    have hlen : (((livS s).take j).flatMap (forcedAt s)).length + (forcedAt s o).length ≤ LIM := by
      have a := hfl (j + 1)
      rw [htk, List.flatMap_append, List.length_append] at a
      have : ([o].flatMap (forcedAt s)) = forcedAt s o := by simp
      rw [this] at a
      exact lim_le (by omega)
    refine OK_gen fun Q hQ => ?_
    simp [fT, e2, prW, lit1, h1, h2, h3, upTo_range']
    rw [hc _ (fun p => by
      by_cases hp : p = o
      · subst hp; simp [cT]
      · simp [cT, hp, prW])]
    have hm2 := mut_extend (ws := (((livS s).take j).flatMap (forcedAt s)).map prW) (us := (forcedAt s o).map prW) (by rw [List.length_map, List.length_map]; exact hlen)
    simp [hm2]
    refine hQ _ _ ⟨rfl, some (.im (vN o)), some (.im (vN f)), some (.im (vN l)), ?_⟩
    rw [htk, List.flatMap_append]
    simp
  · rintro fl r ⟨rfl, x2, x3, x4, rfl⟩
    have : (livS s).take ((livS s).map vN).length = livS s := by rw [List.length_map]; exact List.take_length
    simp [sortW_prs, this, forcedS, forcedU]
theorem beats_sp (B : Has P 38 b_fewest_beats 1 3 []) (hn : 0 < n) (hT : isSq T) {s : List Nat} (hs : s.length < 64) {x : Int} {is : List Int} (hx : farS s = x :: is) : (P.th n).fn 38 [.im (T (s.map vN))] = .ok (.im (.int (maxI x is))) [.im .non] := by
  refine fn_ok B (by omega) rfl ?_
  have hc : ∀ r : Env, r.length = 3 → getM r 1 = none → getM r 2 = none → compL (cT (P.th (n - 1)) [1, 2] (.tp [.nm 1, .nm 2]) .none (.bi .abs (.cons (.bin .sub (.var 2) (.var 1)) .nil))) (enumFrom 0 (s.map vN)) r [] = .ok ((farS s).map W.int) r := by
    intro r hr h1 h2
    obtain ⟨x0, x1, x2, rfl⟩ := len3 hr
    simp at h1 h2
    subst h1 h2
    rw [enum_vN, compL_all (enc := fun p => W.tup [vN p, vN (s.getD p 0)]) (fun p => W.int (((((s.getD p 0 : Nat) : Int) - (p : Int)).natAbs : Nat) : Int)) (fun p _ => by
      generalize s.getD p 0 = o
      simp [cT, vN, natAbs_if]) (by rw [List.length_range]; exact lim_le (by omega))]
    simp only [farS, List.map_map]
    rfl
  have hm : biW .maxl [.lst ((farS s).map W.int)] = some (.im (.int (maxI x is))) := bi_maxl (by
    have := ints_enc (g := fun (i : Int) => i) (farS s)
    rw [this, List.map_id', hx])
  rcases hT with rfl | rfl
  all_goals
    simp [b_fewest_beats]
    rw [hc _ rfl rfl rfl]
    simp [hm]
theorem insQ_perm (x : Nat × Nat) : ∀ l : List (Nat × Nat), (insQ x l).Perm (x :: l)
  | [] => List.Perm.refl _
  | y :: l => by
    unfold insQ
    split
    · exact List.Perm.refl _
    · exact (List.Perm.cons _ (insQ_perm x l)).trans (List.Perm.swap _ _ _)
theorem sortQ_perm : ∀ l : List (Nat × Nat), (sortQ l).Perm l
  | [] => List.Perm.refl _
  | x :: l => (insQ_perm x _).trans (List.Perm.cons _ (sortQ_perm l))
theorem forcedS_len {s : List Nat} (hs : s.length < 64) (hlt : ∀ o ∈ s, o < s.length) : (forcedS s).length ≤ 63 * 63 := by
  unfold forcedS forcedU
  rw [(sortQ_perm _).length_eq]
  have h1 := flat_len (forcedAt s) 63 (livS s) fun o ho => by
    have := forcedAt_len hlt (mem_livS.mp ho)
    omega
  have h2 := livS_len s
  have h4 : 63 * (livS s).length ≤ 63 * 63 := Nat.mul_le_mul_left _ (by omega)
  omega
theorem forcedS_lt {s : List Nat} (hlt : ∀ o ∈ s, o < s.length) {p : Nat × Nat} (hp : p ∈ forcedS s) : p.1 < s.length := by
  have h1 := (sortQ_perm _).mem_iff.mp hp
  obtain ⟨o, ho, h2⟩ := List.mem_flatMap.mp h1
  unfold forcedAt at h2
  obtain ⟨q, hq, rfl⟩ := List.mem_map.mp h2
  have h3 := List.mem_range'_1.mp (List.mem_filter.mp hq).1
  have := spanS_lt hlt (mem_livS.mp ho)
  simp only
  omega
theorem price_sp (B : ProgF P) (Bp : Has P 39 b_price 2 4 []) (hn : 2 < n) (hT : isSq T) {U : List W → W} (hU : isSq U) {s cs : List Nat} (hs : s.length < 64) (hlt : ∀ o ∈ s, o < s.length) (hl : cs.length = s.length) :
    (P.th n).fn 39 [.im (T (s.map vN)), .im (U (cs.map vN))] = .ok (.im (vN ((forcedS s).map fun p => cs.getD p.1 0).sum)) [.im .non, .im .non] := by
  have hc : ∀ r : Env, getM r 1 = some (.im (U (cs.map vN))) → r.length = 4 → getM r 2 = none → getM r 3 = none → compL (cT (P.th (n - 1)) [2, 3] (.tp [.nm 2, .nm 3]) .none (.idx (.var 1) (.var 2))) ((forcedS s).map prW) r [] = .ok ((forcedS s).map fun p => vN (cs.getD p.1 0)) r := by
    intro r h1 hr h2 h3
    obtain ⟨x0, x1, x2, x3, rfl⟩ := len4 hr
    simp at h1 h2 h3
    subst h1 h2 h3
    refine compL_all (enc := prW) (fun (p : Nat × Nat) => vN (cs.getD p.1 0)) (fun p hp => ?_) (lim_le (by have := forcedS_len hs hlt; omega))
    have hp2 : p.1 < cs.length := by rw [hl]; exact forcedS_lt hlt hp
    have hi : ixW (cs.map vN) (p.1 : Int) = some (vN (cs.getD p.1 0)) := ixW_nat (by rw [List.getElem?_map, List.getD_eq_getElem?_getD, List.getElem?_eq_getElem hp2]; rfl)
    rcases hU with rfl | rfl <;> simp [cT, prW, -ixW_cast, hi]
  have e := forced_sp (n := n - 1) B (by omega) hT hs hlt
  refine fn_ok Bp (by omega) rfl ?_
  simp [b_price, e]
  rw [hc _ rfl rfl rfl rfl]
  simp [-bi_sum, sum_N]
end
end Dn
-- Q5
set_option maxRecDepth 100000
set_option maxHeartbeats 4000000
/-! Ears, takings, logs that are let; bars. -/
namespace Dn
open PySem
/-- look_place: 2, 2 names, 0 changed: 0 row 1 place -/
def b_look_place : Ss := (.cons (.ite (.inv (.chn .le .lt (.cst (.int 0)) (.var 1) (.bi .len (.cons (.var 0) .nil))))
  (.cons (.rse 4 (.cons (.var 1) .nil))
  .nil)
  .nil)
  .nil)
/-- neighbour: 2, 2 names, 0 changed: 0 place 1 side -/
def b_neighbour : Ss := (.cons (.ret (.ife (.cmp .eq (.var 1) (.glob (⟨#[76, 69, 70, 84]⟩ : Str) (.str (⟨#[108, 101, 102, 116]⟩ : Str)))) (.bin .sub (.var 0) (.cst (.int 1))) (.bin .add (.var 0) (.cst (.int 1)))))
  .nil)
/-- has_ear: 3, 3 names, 0 changed: 0 ears 1 place 2 side -/
def b_has_ear : Ss := (.cons (.ret (.cmp .in_ (.idx (.var 0) (.var 1)) (.tup (.cons (.glob (⟨#[66, 79, 84, 72]⟩ : Str) (.str (⟨#[98, 111, 116, 104]⟩ : Str))) (.cons (.var 2) .nil)))))
  .nil)
/-- look_taking: 2, 4 names, 0 changed: 0 ears 1 taking 2 place 3 side -/
def b_look_taking : Ss := (.cons (.set (.tp [(.nm 2), (.nm 3)]) (.var 1))
  (.cons (.ex (.call 6 (.val (.var 0) (.val (.var 2) .nil))))
  (.cons (.ite (.inv (.chn .le .lt (.cst (.int 0)) (.call 7 (.val (.var 2) (.val (.var 3) .nil))) (.bi .len (.cons (.var 0) .nil))))
  (.cons (.rse 5 (.cons (.var 2) .nil))
  .nil)
  .nil)
  (.cons (.ite (.inv (.call 8 (.val (.var 0) (.val (.var 2) (.val (.var 3) .nil)))))
  (.cons (.rse 9 (.cons (.var 2) .nil))
  .nil)
  .nil)
  .nil))))
/-- taken: 3, 8 names, 0 changed: 0 row 1 ears 2 taking 3 place 4 side 5 word 6 at 7 had -/
def b_taken : Ss := (.cons (.ex (.call 14 (.val (.var 1) (.val (.var 2) .nil))))
  (.cons (.set (.tp [(.nm 3), (.nm 4)]) (.var 2))
  (.cons (.set (.nm 5) (.idx (.var 0) (.call 7 (.val (.var 3) (.val (.var 4) .nil)))))
  (.cons (.ret (.bi .tuple (.cons (.comp [6, 7] (.tp [(.nm 6), (.nm 7)]) (.enum (.var 0)) .none (.ife (.cmp .eq (.var 6) (.var 3)) (.var 5) (.var 7))) .nil)))
  .nil))))
/-- gone: 3, 5 names, 0 changed: 0 row 1 ears 2 log 3 here 4 taking -/
def b_gone : Ss := (.cons (.set (.nm 3) (.bi .tuple (.cons (.var 0) .nil)))
  (.cons (.for_ (.nm 4) (.seq (.var 2))
  (.cons (.set (.nm 3) (.call 16 (.val (.var 3) (.val (.var 1) (.val (.var 4) .nil)))))
  .nil))
  (.cons (.retv 3)
  .nil)))
/-- origins_of: 2, 2 names, 0 changed: 0 ears 1 log -/
def b_origins_of : Ss := (.cons (.ret (.call 17 (.val (.frz (.rg1 true (.bi .len (.cons (.var 0) .nil)))) (.val (.var 0) (.val (.var 1) .nil)))))
  .nil)
/-- is_let_at: 3, 3 names, 0 changed: 0 ears 1 place 2 origin -/
def b_is_let_at : Ss := (.cons (.ite (.cmp .lt (.var 2) (.var 1))
  (.cons (.ret (.call 8 (.val (.var 0) (.val (.var 1) (.val (.glob (⟨#[76, 69, 70, 84]⟩ : Str) (.str (⟨#[108, 101, 102, 116]⟩ : Str))) .nil)))))
  .nil)
  .nil)
  (.cons (.ret (.dis (.cmp .eq (.var 2) (.var 1)) (.call 8 (.val (.var 0) (.val (.var 1) (.val (.glob (⟨#[82, 73, 71, 72, 84]⟩ : Str) (.str (⟨#[114, 105, 103, 104, 116]⟩ : Str))) .nil))))))
  .nil))
/-- bar: 2, 4 names, 0 changed: 0 ears 1 origins 2 place 3 origin -/
def b_bar : Ss := (.cons (.for_ (.tp [(.nm 2), (.nm 3)]) (.enum (.var 1))
  (.cons (.ite (.inv (.call 31 (.val (.var 0) (.val (.var 2) (.val (.var 3) .nil)))))
  (.cons (.retv 2)
  .nil)
  .nil)
  .nil))
  (.cons (.ret (.cst .non))
  .nil))
def sL : Str := ⟨#[108, 101, 102, 116]⟩
def sR : Str := ⟨#[114, 105, 103, 104, 116]⟩
def sB : Str := ⟨#[98, 111, 116, 104]⟩
def sN : Str := ⟨#[110, 111, 110, 101]⟩
/-- a side: the left one (true), the right one -/
def sdS (b : Bool) : Str := if b then sL else sR
theorem sL_eq : (⟨#[108, 101, 102, 116]⟩ : Str) = sL := rfl
theorem sR_eq : (⟨#[114, 105, 103, 104, 116]⟩ : Str) = sR := rfl
theorem sB_eq : (⟨#[98, 111, 116, 104]⟩ : Str) = sB := rfl
theorem eqW_str (a b : Str) (ha : PyData.strOk a = true) (hb : PyData.strOk b = true) : eqW (.str a) (.str b) = some (a == b) := by
  unfold eqW
  simp [W.toD, SeqAt.shaped, PyData.canLay0, PyData.depth, PyData.eqv, ha, hb]
theorem ok_sd (b : Bool) : PyData.strOk (sdS b) = true := by cases b <;> decide +kernel
theorem sd_L : sdS true = sL := rfl
theorem sd_R : sdS false = sR := rfl
theorem eqW_sdL (b : Bool) : eqW (.str (sdS b)) (.str sL) = some b := by
  rw [eqW_str _ _ (ok_sd b) (by decide +kernel)]
  cases b <;> decide +kernel
theorem eqW_sdR (b : Bool) : eqW (.str (sdS b)) (.str sR) = some (!b) := by
  rw [eqW_str _ _ (ok_sd b) (by decide +kernel)]
  cases b <;> decide +kernel
/-- whether an ear hears on a side -/
def hearS (e : Str) (b : Bool) : Bool := sB == e || sdS b == e
theorem inT_2 (e : Str) (b : Bool) : inT (.str e) [.str sB, .str (sdS b)] = some (hearS e b) := by
  unfold inT hearS
  simp [flatW, eqF]
/-- whether ears let a place have an origin -/
def letAt (es : List Str) (p o : Nat) : Bool := if o < p then hearS (es.getD p sN) true else o == p || hearS (es.getD p sN) false
/-- the first place that bars -/
def barS (es : List Str) (s : List Nat) : Option Nat := (List.range s.length).find? fun p => !letAt es p (s.getD p 0)
def oN : Option Nat → W
  | some p => vN p
  | none => .non
/-- a taking -/
def tkW (t : Nat × Bool) : W := .tup [vN t.1, .str (sdS t.2)]
def nbS (t : Nat × Bool) : Nat := if t.2 then t.1 - 1 else t.1 + 1
structure LetT (es : List Str) (t : Nat × Bool) : Prop where
  lt : t.1 < es.length
  nb : if t.2 then 0 < t.1 else t.1 + 1 < es.length
  hr : hearS (es.getD t.1 sN) t.2 = true
theorem LetT.nlt {es : List Str} {t : Nat × Bool} (h : LetT es t) : nbS t < es.length := by
  have h1 := h.lt
  have h2 := h.nb
  unfold nbS
  split at h2 <;> split <;> omega
/-- one taking, done to a row -/
def stepW (ws : List W) (t : Nat × Bool) : List W := ws.set t.1 (ws.getD (nbS t) .non)
def stepN (s : List Nat) (t : Nat × Bool) : List Nat := s.set t.1 (s.getD (nbS t) 0)
def orgS (n : Nat) (log : List (Nat × Bool)) : List Nat := log.foldl stepN (List.range n)
theorem stepN_len (s : List Nat) (t : Nat × Bool) : (stepN s t).length = s.length := by simp [stepN]
theorem stepW_len (s : List W) (t : Nat × Bool) : (stepW s t).length = s.length := by simp [stepW]
theorem foldN_len : ∀ (log : List (Nat × Bool)) (s : List Nat), (log.foldl stepN s).length = s.length
  | [], _ => rfl
  | t :: log, s => by rw [List.foldl_cons, foldN_len log, stepN_len]
theorem stepW_N {s : List Nat} {t : Nat × Bool} (h : nbS t < s.length) : stepW (s.map vN) t = (stepN s t).map vN := by
  unfold stepW stepN
  rw [List.map_set, List.getD_eq_getElem?_getD, List.getElem?_map, List.getD_eq_getElem?_getD, List.getElem?_eq_getElem h]
  rfl
theorem foldW_N {n : Nat} : ∀ (log : List (Nat × Bool)) (s : List Nat), s.length = n → (∀ t ∈ log, nbS t < n) → log.foldl stepW (s.map vN) = (log.foldl stepN s).map vN
  | [], _, _, _ => rfl
  | t :: log, s, hs, h => by
    rw [List.foldl_cons, List.foldl_cons, stepW_N (by rw [hs]; exact h t List.mem_cons_self)]
    exact foldW_N log _ (by rw [stepN_len, hs]) fun u hu => h u (List.mem_cons_of_mem _ hu)
structure ProgT (P : Pg) : Prop where
  look : Has P 6 b_look_place 2 2 []
  nb : Has P 7 b_neighbour 2 2 []
  ear : Has P 8 b_has_ear 3 3 []
  lookT : Has P 14 b_look_taking 2 4 []
  taken : Has P 16 b_taken 3 8 []
  gone : Has P 17 b_gone 3 5 []
  org : Has P 27 b_origins_of 2 2 []
  letA : Has P 31 b_is_let_at 3 3 []
  bar : Has P 32 b_bar 2 4 []
section
variable {P : Pg} {n c : Nat} {m : M} {T U V S : List W → W}
theorem ear_sp (B : Has P 8 b_has_ear 3 3 []) (hn : 0 < n) (hT : isSq T) {es : List Str} {p : Nat} (hp : p < es.length) (b : Bool) :
    (P.th n).fn 8 [.im (T (es.map .str)), .im (vN p), .im (.str (sdS b))] = .ok (.im (.bl (hearS (es.getD p sN) b))) [.im .non, .im .non, .im .non] := by
  refine fn_ok B hn rfl ?_
  have hi : ixW (es.map W.str) (p : Int) = some (.str (es.getD p sN)) := ixW_nat (by rw [List.getElem?_map, List.getD_eq_getElem?_getD, List.getElem?_eq_getElem hp]; rfl)
  generalize es.getD p sN = e at hi
  rcases hT with rfl | rfl <;> simp [b_has_ear, -ixW_cast, hi, sB_eq, inT_2]
theorem nb_sp (B : Has P 7 b_neighbour 2 2 []) (hn : 0 < n) (p : Nat) (b : Bool) : (P.th n).fn 7 [.im (vN p), .im (.str (sdS b))] = .ok (.im (.int (if b then (p : Int) - 1 else (p : Int) + 1))) [.im .non, .im .non] := by
  refine fn_ok B hn rfl ?_
  have h1 : binW .sub (vN p) (.int 1) = some (.im (.int ((p : Int) - 1))) := rfl
  have h2 : binW .add (vN p) (.int 1) = some (.im (.int ((p : Int) + 1))) := rfl
  cases b <;> simp [b_neighbour, sL_eq, eqW_sdL, h1, h2]
theorem fold_N {k : Nat} : W.int (k : Int) = vN k := rfl
theorem nbN_sp (B : Has P 7 b_neighbour 2 2 []) (hn : 0 < n) {p : Nat} {b : Bool} (h : b = true → 0 < p) : (P.th n).fn 7 [.im (vN p), .im (.str (sdS b))] = .ok (.im (vN (nbS (p, b)))) [.im .non, .im .non] := by
  rw [nb_sp B hn p b, ← fold_N]
  unfold nbS
  cases b with
  | true =>
    have := h rfl
    rw [if_pos rfl, if_pos rfl, Int.natCast_sub (by omega)]
    rfl
  | false => rfl
theorem look_sp (B : Has P 6 b_look_place 2 2 []) (hn : 0 < n) (hT : isSq T) {ws : List W} {p : Nat} (hp : p < ws.length) : (P.th n).fn 6 [.im (T ws), .im (vN p)] = .ok (.im .non) [.im .non, .im .non] := by
  obtain ⟨d, h1, h2, h3, h4, h5⟩ := B
  obtain ⟨n, rfl⟩ : ∃ k, n = k + 1 := ⟨n - 1, by omega⟩
  have e : evSs (P.th n) b_look_place [some (.im (T ws)), some (.im (vN p))] = .ok .nx [some (.im (T ws)), some (.im (vN p))] := by
    rcases hT with rfl | rfl <;> simp [b_look_place, lit0, fold_N, hp]
  simp [Pg.th, h1, runF, h2, h3, h4, h5, e, argsOf_none]
theorem lookT_sp (B : ProgT P) (hn : 1 < n) (hT : isSq T) (hU : isSq U) {es : List Str} {t : Nat × Bool} (ht : LetT es t) : (P.th n).fn 14 [.im (T (es.map .str)), .im (U [vN t.1, .str (sdS t.2)])] = .ok (.im .non) [.im .non, .im .non] := by
  obtain ⟨d, h1, h2, h3, h4, h5⟩ := B.lookT
  have e1 := look_sp (n := n - 1) B.look (by omega) hT (ws := es.map .str) (p := t.1) (by rw [List.length_map]; exact ht.lt)
  have e2 := nbN_sp (n := n - 1) B.nb (by omega) (p := t.1) (b := t.2) (fun h => by have := ht.nb; rw [h] at this; simpa using this)
  have e3 := ear_sp (n := n - 1) B.ear (by omega) hT ht.lt t.2
  have hnl := ht.nlt
  rw [ht.hr] at e3
  obtain ⟨n, rfl⟩ : ∃ k, n = k + 1 := ⟨n - 1, by omega⟩
  rw [Nat.add_sub_cancel] at e1 e2 e3
  obtain ⟨p, b⟩ := t
  simp only at e1 e2 e3 hnl
  have e : evSs (P.th n) b_look_taking [some (.im (T (es.map .str))), some (.im (U [vN p, .str (sdS b)])), none, none] = .ok .nx [some (.im (T (es.map .str))), some (.im (U [vN p, .str (sdS b)])), some (.im (vN p)), some (.im (.str (sdS b)))] := by
    rcases hT with rfl | rfl <;> rcases hU with rfl | rfl <;> simp [b_look_taking, e1, e2, e3, lit0, fold_N, hnl]
  simp [Pg.th, h1, runF, h2, h3, h4, h5, e, argsOf_none]
theorem taken_sp (B : ProgT P) (hn : 2 < n) (hT : isSq T) (hU : isSq U) (hV : isSq V) {es : List Str} {ws : List W} {t : Nat × Bool} (ht : LetT es t) (hl : ws.length = es.length) (hL : ws.length ≤ 1000) :
    (P.th n).fn 16 [.im (V ws), .im (T (es.map .str)), .im (U [vN t.1, .str (sdS t.2)])] = .ok (.im (.tup (stepW ws t))) [.im .non, .im .non, .im .non] := by
  refine fn_ok B.taken (by omega) rfl ?_
  have e1 := lookT_sp (n := n - 1) B (by omega) hT hU ht
  have e2 := nbN_sp (n := n - 1) B.nb (by omega) (p := t.1) (b := t.2) (fun h => by have := ht.nb; rw [h] at this; simpa using this)
  have hnl := ht.nlt
  have hi : ixW ws (nbS t : Int) = some (ws.getD (nbS t) .non) := ixW_nat (by rw [List.getD_eq_getElem?_getD, List.getElem?_eq_getElem (by omega)]; rfl)
  obtain ⟨p, b⟩ := t
  have hst : stepW ws (p, b) = (ws.zipIdx 0).map fun x => if x.2 = p then ws.getD (nbS (p, b)) .non else x.1 := by
    unfold stepW
    refine List.ext_getElem (by simp) fun i h1 h2 => ?_
    simp only [List.getElem_map, List.getElem_zipIdx, Nat.zero_add]
    by_cases h : i = p
    · subst h
      simp
    · rw [List.getElem_set_ne (by omega), if_neg h]
  simp only at e1 e2 hi
  rw [hst]
  generalize ws.getD (nbS (p, b)) .non = word at hi
  have hen : enumFrom 0 ws = (ws.zipIdx 0).map fun x => W.tup [vN x.2, x.1] := by
    have := enum_enc (enc := fun w : W => w) ws 0
    rw [List.map_id'] at this
    exact this
  have hc : ∀ r : Env, (∀ q w, cT (P.th (n - 1)) [6, 7] (.tp [.nm 6, .nm 7]) .none (.ife (.cmp .eq (.var 6) (.var 3)) (.var 5) (.var 7)) (.tup [vN q, w]) r = .ok (some (if q = p then word else w)) r) → compL (cT (P.th (n - 1)) [6, 7] (.tp [.nm 6, .nm 7]) .none (.ife (.cmp .eq (.var 6) (.var 3)) (.var 5) (.var 7))) (enumFrom 0 ws) r [] = .ok ((ws.zipIdx 0).map fun x => if x.2 = p then word else x.1) r := fun r hr => by
    rw [hen, compL_all (enc := fun x : W × Nat => W.tup [vN x.2, x.1]) (fun x => if x.2 = p then word else x.1) (fun x _ => hr _ _) (by rw [List.length_zipIdx]; exact lim_le (by omega))]
  rcases hV with rfl | rfl <;> rcases hU with rfl | rfl
  all_goals
    simp [b_taken, e1, e2, -ixW_cast, hi]
    rw [hc _ (fun q w => by
      by_cases hq : q = p
      · subst hq; simp [cT]
      · simp [cT, hq])]
    simp
theorem gone_sp (B : ProgT P) (hn : 3 < n) (hT : isSq T) (hS : isSq S) (hV : isSq V) {es : List Str} {ws : List W} {log : List (Nat × Bool)} {enc : Nat × Bool → W} (he : ∀ t, enc t = .tup [vN t.1, .str (sdS t.2)] ∨ enc t = .lst [vN t.1, .str (sdS t.2)]) (ht : ∀ t ∈ log, LetT es t) (hl : ws.length = es.length) (hL : ws.length ≤ 1000) :
    (P.th n).fn 17 [.im (V ws), .im (T (es.map .str)), .im (S (log.map enc))] = .ok (.im (.tup (log.foldl stepW ws))) [.im .non, .im .non, .im .non] := by
  refine fn_ok B.gone (by omega) rfl ?_
  have key : ∀ (us : List W) (t : Nat × Bool), t ∈ log → us.length = es.length → (P.th (n - 1)).fn 16 [.im (.tup us), .im (T (es.map .str)), .im (enc t)] = .ok (.im (.tup (stepW us t))) [.im .non, .im .non, .im .non] := fun us t hm hu => by
    rcases he t with h | h
    · rw [h]
      exact taken_sp B (by omega) hT (.inr rfl) (.inr rfl) (ht t hm) hu (by omega)
    · rw [h]
      exact taken_sp B (by omega) hT (.inl rfl) (.inr rfl) (ht t hm) hu (by omega)
  have hfl : ∀ (lg : List (Nat × Bool)) (us : List W), us.length = es.length → (lg.foldl stepW us).length = es.length := by
    intro lg
    induction lg with
    | nil => exact fun us h => h
    | cons t lg ih => exact fun us h => ih _ (by rw [stepW_len]; exact h)
  rcases hV with rfl | rfl <;> rcases hS with rfl | rfl
  all_goals
    simp [b_gone]
    refine OK.bnd (forL_ok (fun j r => ∃ x : Option M, r = [some (.im _), some (.im (T (es.map .str))), some (.im _), some (.im (.tup ((log.take j).foldl stepW ws))), x]) ⟨none, rfl⟩ ?_) ?_
    · rintro j w r hj ⟨x, rfl⟩
      obtain ⟨t, ho, rfl⟩ : ∃ t, log[j]? = some t ∧ w = enc t := by
        rw [List.getElem?_map] at hj
        obtain ⟨o, h1, h2⟩ := Option.map_eq_some_iff.mp hj
        exact ⟨o, h1, h2.symm⟩
      have e := key _ t (List.mem_of_getElem? ho) (hfl (log.take j) ws hl)
      have htk : log.take (j + 1) = log.take j ++ [t] := by rw [List.take_add_one, ho]; rfl
      refine OK_gen fun Q hQ => ?_
      simp [fT, e]
      exact hQ _ _ ⟨rfl, some (.im (enc t)), by rw [htk, List.foldl_append]; rfl⟩
    · rintro fl r ⟨rfl, x, rfl⟩
      have : log.take (log.map enc).length = log := by rw [List.length_map]; exact List.take_length
      simp [this]
theorem org_sp (B : ProgT P) (hn : 4 < n) (hT : isSq T) (hS : isSq S) {es : List Str} {log : List (Nat × Bool)} {enc : Nat × Bool → W} (he : ∀ t, enc t = .tup [vN t.1, .str (sdS t.2)] ∨ enc t = .lst [vN t.1, .str (sdS t.2)]) (ht : ∀ t ∈ log, LetT es t) (hL : es.length ≤ 1000) :
    (P.th n).fn 27 [.im (T (es.map .str)), .im (S (log.map enc))] = .ok (.im (.tup ((orgS es.length log).map vN))) [.im .non, .im .non] := by
  refine fn_ok B.org (by omega) rfl ?_
  have e := gone_sp (n := n - 1) B (by omega) hT hS (.inr rfl) he ht (ws := (List.range es.length).map vN) (by simp) (by simp; exact hL)
  rw [foldW_N log (List.range es.length) (by simp) fun t h => (ht t h).nlt] at e
  have hr := rng_vN (k := es.length) (lim_le (by omega))
  have e0 : (orgS es.length log).map vN = (log.foldl stepN (List.range es.length)).map vN := rfl
  rw [e0]
  rcases hT with rfl | rfl <;> simp [b_origins_of, hr, e]
theorem letAt_sp0 (BA : Has P 31 b_is_let_at 3 3 []) (BE : Has P 8 b_has_ear 3 3 []) (hn : 1 < n) (hT : isSq T) {es : List Str} {p o : Nat} (hp : p < es.length) : (P.th n).fn 31 [.im (T (es.map .str)), .im (vN p), .im (vN o)] = .ok (.im (.bl (letAt es p o))) [.im .non, .im .non, .im .non] := by
  refine fn_ok BA (by omega) rfl ?_
  have e1 := ear_sp (n := n - 1) BE (by omega) hT hp true
  have e2 := ear_sp (n := n - 1) BE (by omega) hT hp false
  rw [sd_L] at e1
  rw [sd_R] at e2
  unfold letAt
  by_cases h1 : o < p
  · simp [b_is_let_at, sL_eq, sR_eq, e1, h1]
  · by_cases h2 : o = p
    · subst h2
      simp [b_is_let_at, sL_eq, sR_eq]
    · simp [b_is_let_at, sL_eq, sR_eq, e2, h1, h2]
theorem letAt_sp (B : ProgT P) (hn : 1 < n) (hT : isSq T) {es : List Str} {p o : Nat} (hp : p < es.length) : (P.th n).fn 31 [.im (T (es.map .str)), .im (vN p), .im (vN o)] = .ok (.im (.bl (letAt es p o))) [.im .non, .im .non, .im .non] := letAt_sp0 B.letA B.ear hn hT hp
theorem bar_sp0 (BA : Has P 31 b_is_let_at 3 3 []) (BE : Has P 8 b_has_ear 3 3 []) (BB : Has P 32 b_bar 2 4 []) (hn : 2 < n) (hT : isSq T) (hU : isSq U) {es : List Str} {s : List Nat} (hl : s.length = es.length) :
    (P.th n).fn 32 [.im (T (es.map .str)), .im (U (s.map vN))] = .ok (.im (oN (barS es s))) [.im .non, .im .non] := by
  refine fn_ok BB (by omega) rfl ?_
  have key : ∀ p, p < es.length → (P.th (n - 1)).fn 31 [.im (T (es.map .str)), .im (vN p), .im (vN (s.getD p 0))] = .ok (.im (.bl (letAt es p (s.getD p 0)))) [.im .non, .im .non, .im .non] := fun p hp => letAt_sp0 BA BE (by omega) hT hp
  have e0 : ∀ r : Env, getM r 1 = some (.im (U (s.map vN))) → r.length = 4 → OK (evI (P.th (n - 1)) (.enum (.var 1)) r) fun ws r' => ws = ((List.range s.length).map fun p => W.tup [vN p, vN (s.getD p 0)]) ∧ r' = r := fun r h1 hr => by
    obtain ⟨x0, x1, x2, x3, rfl⟩ := len4 hr
    simp at h1
    subst h1
    rcases hU with rfl | rfl <;> simp [-List.getD_eq_getElem?_getD, enum_vN]
  obtain ⟨ws, r', e1, rfl, rfl⟩ := e0 [some (.im (T (es.map .str))), some (.im (U (s.map vN))), none, none] rfl rfl
  simp only [b_bar, eSs_cons, eS_for, List.map_cons, List.map_nil, List.replicate, List.cons_append, List.nil_append, Nat.reduceSub, e1, bnd_ok]
  rw [OK_bind]
  refine OK.mono (forL_ret (fun j r => (∃ x y : Option M, r = [some (.im (T (es.map .str))), some (.im (U (s.map vN))), x, y]) ∧ ∀ i, i < j → letAt es i (s.getD i 0) = true) (fun fl r => (∃ m, fl = .ret m ∧ m = .im (oN (barS es s))) ∨ (fl = .nx ∧ barS es s = none)) ⟨⟨none, none, rfl⟩, fun i hi => by omega⟩ ?_ ?_) ?_
  · rintro j w r hj ⟨⟨x, y, rfl⟩, hall⟩
    have hjl : j < s.length := by
      have := (List.getElem?_eq_some_iff.mp hj).1
      simpa using this
    have hw : w = W.tup [vN j, vN (s.getD j 0)] := by
      rw [List.getElem?_map, List.getElem?_range hjl] at hj
      exact (Option.some.inj hj).symm
    subst hw
    have e := key j (by omega)
    cases hb : letAt es j (s.getD j 0) with
    | true =>
      rw [hb] at e
      generalize s.getD j 0 = o at e
      refine OK_gen fun Q hQ => ?_
      simp [fT, e]
      refine hQ _ _ (.inl ⟨rfl, ⟨_, _, rfl⟩, fun i hi => ?_⟩)
      by_cases hij : i = j
      · subst hij; exact hb
      · exact hall i (by omega)
    | false =>
      have hbs : barS es s = some j := by
        unfold barS
        rw [List.find?_range_eq_some]
        exact ⟨by rw [hb]; rfl, List.mem_range.mpr hjl, fun i hi => by rw [hall i hi]; rfl⟩
      rw [hb] at e
      generalize s.getD j 0 = o at e
      refine OK_gen fun Q hQ => ?_
      simp [fT, e]
      exact hQ _ _ (.inr (.inl ⟨⟨_, rfl⟩, .inl ⟨_, rfl, by rw [hbs]; rfl⟩⟩))
  · rintro r ⟨_, hall⟩
    refine .inr ⟨rfl, ?_⟩
    unfold barS
    rw [List.find?_eq_none]
    intro p hp
    rw [hall p (by simpa using hp)]
    decide
  · rintro fl r (⟨m, rfl, rfl⟩ | ⟨rfl, hb⟩)
    · simp
    · simp [hb, oN]
theorem bar_sp (B : ProgT P) (hn : 2 < n) (hT : isSq T) (hU : isSq U) {es : List Str} {s : List Nat} (hl : s.length = es.length) :
    (P.th n).fn 32 [.im (T (es.map .str)), .im (U (s.map vN))] = .ok (.im (oN (barS es s))) [.im .non, .im .non] := bar_sp0 B.letA B.ear B.bar hn hT hU hl
end
end Dn
-- Q6
set_option maxRecDepth 100000
set_option maxHeartbeats 4000000
/-! The least log. -/
namespace Dn
open PySem
/-- look_bar: 2, 3 names, 0 changed: 0 ears 1 origins 2 place -/
def b_look_bar : Ss := (.cons (.set (.nm 2) (.call 32 (.val (.var 0) (.val (.var 1) .nil))))
  (.cons (.ite (.cmp .isn (.var 2) (.cst .non))
  (.cons (.rse 10 (.cons (.var 2) .nil))
  .nil)
  .nil)
  .nil))
/-- least_log: 2, 8 names, 0 changed: 0 ears 1 origins 2 found 3 alive 4 origin 5 last 6 place 7 first -/
def b_least_log : Ss := (.cons (.ex (.call 40 (.val (.var 0) (.val (.var 1) .nil))))
  (.cons (.par [2, 3] (.val (.lst .nil) (.val (.frz (.call 33 (.val (.var 1) .nil))) .nil)))
  (.cons (.for_ (.nm 4) (.rev (.var 3))
  (.cons (.set (.nm 5) (.idx (.call 34 (.val (.var 1) (.val (.var 4) .nil))) (.cst (.int 1))))
  (.cons (.ex (.mut .extend 2 [] (.cons (.comp [6] (.nm 6) (.rng2 (.bin .add (.var 4) (.cst (.int 1))) (.bin .add (.var 5) (.cst (.int 1)))) .none (.tup (.cons (.var 6) (.cons (.glob (⟨#[76, 69, 70, 84]⟩ : Str) (.str (⟨#[108, 101, 102, 116]⟩ : Str))) .nil)))) .nil)))
  .nil)))
  (.cons (.for_ (.nm 4) (.seq (.var 3))
  (.cons (.set (.nm 7) (.idx (.call 34 (.val (.var 1) (.val (.var 4) .nil))) (.cst (.int 0))))
  (.cons (.ex (.mut .extend 2 [] (.cons (.comp [6] (.nm 6) (.rng3 (.bin .sub (.var 4) (.cst (.int 1))) (.bin .sub (.var 7) (.cst (.int 1))) (.neg (.cst (.int 1)))) .none (.tup (.cons (.var 6) (.cons (.glob (⟨#[82, 73, 71, 72, 84]⟩ : Str) (.str (⟨#[114, 105, 103, 104, 116]⟩ : Str))) .nil)))) .nil)))
  .nil)))
  (.cons (.retv 2)
  .nil)))))
theorem dnTo_N : ∀ (k f : Nat), dnTo (((f + k : Nat) : Int) - 1) k = ((List.range' f k).reverse).map vN
  | 0, _ => rfl
  | k + 1, f => by
    rw [dnTo, show (((f + (k + 1) : Nat) : Int) - 1 - 1) = ((f + k : Nat) : Int) - 1 by omega, dnTo_N k f, List.range'_concat, List.reverse_append, List.map_append]
    congr 1
    unfold vN
    congr 1
    omega
/-- the takings from the left, to the right of an origin; from the right, to its left -/
def goL (s : List Nat) (o : Nat) : List (Nat × Bool) := (List.range' (o + 1) ((spanS s o).2 - o)).map fun p => (p, true)
def goR (s : List Nat) (o : Nat) : List (Nat × Bool) := ((List.range' (spanS s o).1 (o - (spanS s o).1)).reverse).map fun p => (p, false)
def llS (s : List Nat) : List (Nat × Bool) := (livS s).reverse.flatMap (goL s) ++ (livS s).flatMap (goR s)
theorem goL_len {s : List Nat} (hlt : ∀ o ∈ s, o < s.length) {o : Nat} (ho : o ∈ s) : (goL s o).length ≤ s.length := by
  have := spanS_lt hlt ho
  unfold goL
  rw [List.length_map, List.length_range']
  omega
theorem goR_len {s : List Nat} (hlt : ∀ o ∈ s, o < s.length) {o : Nat} (ho : o ∈ s) : (goR s o).length ≤ s.length := by
  have := hlt o ho
  unfold goR
  rw [List.length_map, List.length_reverse, List.length_range']
  omega
structure ProgL (P : Pg) : Prop where
  f : ProgF P
  t : ProgT P
  lookb : Has P 40 b_look_bar 2 3 []
  least : Has P 41 b_least_log 2 8 []
/-- what the least log leans on -/
structure ProgL0 (P : Pg) : Prop where
  f : ProgF0 P
  t : ProgT P
  lookb : Has P 40 b_look_bar 2 3 []
  least : Has P 41 b_least_log 2 8 []
theorem ProgL.l0 {P : Pg} (B : ProgL P) : ProgL0 P := ⟨B.f.f0, B.t, B.lookb, B.least⟩
theorem sumlen {A B : Type} (f : A → List B) (k : Nat) {l : List A} (h : ∀ a ∈ l, (f a).length ≤ k) (j : Nat) (hl : l.length ≤ 63) : ((l.take j).flatMap f).length ≤ k * 63 := by
  have h1 := flat_len f k (l.take j) fun a ha => h a (List.mem_of_mem_take ha)
  have h2 : (l.take j).length ≤ 63 := by rw [List.length_take]; omega
  exact Nat.le_trans h1 (Nat.mul_le_mul_left _ h2)
section
variable {P : Pg} {n c : Nat} {m : M} {T U V S : List W → W}
theorem lookb_sp0 (B : ProgL0 P) (hn : 3 < n) (hT : isSq T) (hU : isSq U) {es : List Str} {s : List Nat} (hl : s.length = es.length) (hb : barS es s = none) : (P.th n).fn 40 [.im (T (es.map .str)), .im (U (s.map vN))] = .ok (.im .non) [.im .non, .im .non] := by
  obtain ⟨d, h1, h2, h3, h4, h5⟩ := B.lookb
  have e1 := bar_sp (n := n - 1) B.t (by omega) hT hU hl
  rw [hb] at e1
  obtain ⟨n, rfl⟩ : ∃ k, n = k + 1 := ⟨n - 1, by omega⟩
  rw [Nat.add_sub_cancel] at e1
  have e : evSs (P.th n) b_look_bar [some (.im (T (es.map .str))), some (.im (U (s.map vN))), none] = .ok .nx [some (.im (T (es.map .str))), some (.im (U (s.map vN))), some (.im .non)] := by
    simp [b_look_bar, e1, oN]
  simp [Pg.th, h1, runF, h2, h3, h4, h5, e, argsOf_none]
theorem lookb_sp (B : ProgL P) (hn : 3 < n) (hT : isSq T) (hU : isSq U) {es : List Str} {s : List Nat} (hl : s.length = es.length) (hb : barS es s = none) : (P.th n).fn 40 [.im (T (es.map .str)), .im (U (s.map vN))] = .ok (.im .non) [.im .non, .im .non] := lookb_sp0 B.l0 hn hT hU hl hb
theorem least_sp0 (B : ProgL0 P) (hn : 4 < n) (hT : isSq T) (hU : isSq U) {es : List Str} {s : List Nat} (hl : s.length = es.length) (hs : s.length < 64) (hlt : ∀ o ∈ s, o < s.length) (hb : barS es s = none) :
    (P.th n).fn 41 [.im (T (es.map .str)), .im (U (s.map vN))] = .ok (.ls ((llS s).map tkW)) [.im .non, .im .non] := by
  refine fn_ok B.least (by omega) rfl ?_
  have e1 := lookb_sp0 (n := n - 1) B (by omega) hT hU hl hb
  have e2 := living_sp (n := n - 1) B.f.living (by omega) hU hs
  have e3 : ∀ o, o ∈ s → (P.th (n - 1)).fn 34 [.im (U (s.map vN)), .im (vN o)] = .ok (.im (prW (spanS s o))) [.im .non, .im .non] := fun o ho => span_sp B.f.span (by omega) hU hs ho
  have hll := livS_len s
  have b1 : ∀ j, (((livS s).reverse.take j).flatMap (goL s)).length ≤ 63 * 63 := fun j => sumlen (goL s) 63 (fun o ho => by
    have := goL_len hlt (mem_livS.mp (List.mem_reverse.mp ho))
    omega) j (by simp; omega)
  have b2 : ∀ j, (((livS s).take j).flatMap (goR s)).length ≤ 63 * 63 := fun j => sumlen (goR s) 63 (fun o ho => by
    have := goR_len hlt (mem_livS.mp ho)
    omega) j (by omega)
  have e0 : ∀ r : Env, getM r 1 = some (.im (U (s.map vN))) → r.length = 8 → evE (P.th (n - 1)) (.var 1) r = .ok (.im (U (s.map vN))) r := fun r h1 hr => by
    obtain ⟨x0, x1, x2, x3, x4, x5, x6, x7, rfl⟩ := len8 hr
    simp at h1
    subst h1
    simp
  simp [b_least_log, e1, e2]
  refine OK.bnd (forL_ok (fun j r => ∃ x4 x5 : Option M, r = [some (.im (T (es.map .str))), some (.im (U (s.map vN))), some (.ls ((((livS s).reverse.take j).flatMap (goL s)).map tkW)), some (.im (.lst ((livS s).map vN))), x4, x5, none, none]) ⟨none, none, by simp⟩ ?_) ?_
  · rintro j w r hj ⟨x4, x5, rfl⟩
    obtain ⟨o, ho, rfl⟩ : ∃ o, (livS s).reverse[j]? = some o ∧ w = vN o := by
      rw [← List.map_reverse, List.getElem?_map] at hj
      obtain ⟨o, h1, h2⟩ := Option.map_eq_some_iff.mp hj
      exact ⟨o, h1, h2.symm⟩
    have hm := mem_livS.mp (List.mem_reverse.mp (List.mem_of_getElem? ho))
    have e := e3 o hm
    have hsl := spanS_lt hlt hm
    have hle := spanS_le s o
    have htk : (livS s).reverse.take (j + 1) = (livS s).reverse.take j ++ [o] := by rw [List.take_add_one, ho]; rfl
    have hgo : goL s o = (List.range' (o + 1) ((spanS s o).2 - o)).map fun p => (p, true) := rfl
    generalize spanS s o = sp at e hsl hle hgo
    obtain ⟨f, l⟩ := sp
    simp only at hsl hle hgo
    have h1 : rOk ((o : Int) + 1) = true := rOk_of (by omega) (by omega)
    have h2 : rOk ((l : Int) + 1) = true := rOk_of (by omega) (by omega)
    have h3 : ((l : Int) + 1 - ((o : Int) + 1)).toNat = l - o := by omega
    have h4 : upTo ((o : Int) + 1) (l - o) = (List.range' (o + 1) (l - o)).map vN := upTo_range' _ (o + 1)
    have hc : ∀ r : Env, (∀ p, cT (P.th (n - 1)) [6] (.nm 6) .none (.tup (.cons (.var 6) (.cons (.glob ⟨#[76, 69, 70, 84]⟩ (.str sL)) .nil))) (vN p) r = .ok (some (tkW (p, true))) r) → compL (cT (P.th (n - 1)) [6] (.nm 6) .none (.tup (.cons (.var 6) (.cons (.glob ⟨#[76, 69, 70, 84]⟩ (.str sL)) .nil)))) ((List.range' (o + 1) (l - o)).map vN) r [] = .ok ((goL s o).map tkW) r := fun r hr => by
      rw [compL_all (enc := vN) (fun p => tkW (p, true)) (fun p _ => hr p) (by rw [List.length_range']; exact lim_le (by omega)), hgo, List.map_map]
      rfl
    have hlen : (((livS s).reverse.take j).flatMap (goL s)).length + (goL s o).length ≤ LIM := by
      have a := b1 (j + 1)
      rw [htk, List.flatMap_append, List.length_append] at a
      have : ([o].flatMap (goL s)) = goL s o := by simp
      rw [this] at a
      exact lim_le (by omega)
    have hm2 := mut_extend (ws := (((livS s).reverse.take j).flatMap (goL s)).map tkW) (us := (goL s o).map tkW) (by rw [List.length_map, List.length_map]; exact hlen)
    have hfin : (((livS s).reverse.take j).flatMap (goL s)).map tkW ++ (goL s o).map tkW = (((livS s).reverse.take (j + 1)).flatMap (goL s)).map tkW := by
      rw [htk, List.flatMap_append]; simp
    rw [hfin] at hm2
    generalize (((livS s).reverse.take j).flatMap (goL s)).map tkW = W1 at hm2
    generalize (((livS s).reverse.take (j + 1)).flatMap (goL s)).map tkW = W2 at hm2
    generalize (goL s o).map tkW = W3 at hm2 hc
    refine OK_gen fun Q hQ => ?_
    simp [fT, e, prW, lit1, sL_eq, h1, h2, h3, h4]
    rw [hc _ (fun p => by simp [cT, tkW, sdS])]
    simp [hm2]
    exact hQ _ _ ⟨rfl, some (.im (vN o)), some (.im (vN l)), rfl⟩
  · rintro fl r ⟨rfl, x4, x5, rfl⟩
    have htk1 : (livS s).reverse.take ((livS s).map vN).reverse.length = (livS s).reverse := by
      rw [List.length_reverse, List.length_map, ← List.length_reverse]; exact List.take_length
    rw [htk1]
    simp
    refine OK.bnd (forL_ok (fun j r => ∃ x4 x5 x7 : Option M, r = [some (.im (T (es.map .str))), some (.im (U (s.map vN))), some (.ls (((livS s).reverse.flatMap (goL s) ++ ((livS s).take j).flatMap (goR s)).map tkW)), some (.im (.lst ((livS s).map vN))), x4, x5, none, x7]) ⟨x4, x5, none, by simp⟩ ?_) ?_
    · rintro j w r hj ⟨x4, x5, x7, rfl⟩
      obtain ⟨o, ho, rfl⟩ : ∃ o, (livS s)[j]? = some o ∧ w = vN o := by
        rw [List.getElem?_map] at hj
        obtain ⟨o, h1, h2⟩ := Option.map_eq_some_iff.mp hj
        exact ⟨o, h1, h2.symm⟩
      have hm := mem_livS.mp (List.mem_of_getElem? ho)
      have e := e3 o hm
      have hsl := spanS_lt hlt hm
      have hle := spanS_le s o
      have htk : (livS s).take (j + 1) = (livS s).take j ++ [o] := by rw [List.take_add_one, ho]; rfl
      have hgo : goR s o = ((List.range' (spanS s o).1 (o - (spanS s o).1)).reverse).map fun p => (p, false) := rfl
      generalize spanS s o = sp at e hsl hle hgo
      obtain ⟨f, l⟩ := sp
      simp only at hsl hle hgo
      have h1 : rOk ((o : Int) - 1) = true := rOk_of (by omega) (by omega)
      have h2 : rOk ((f : Int) - 1) = true := rOk_of (by omega) (by omega)
      have h3 : ((o : Int) - 1 - ((f : Int) - 1)).toNat = o - f := by omega
      have h4 : dnTo ((o : Int) - 1) (o - f) = ((List.range' f (o - f)).reverse).map vN := by
        have := dnTo_N (o - f) f
        rw [show f + (o - f) = o by omega] at this
        exact this
      have h5 : binW .sub (vN o) (vN 1) = some (.im (.int ((o : Int) - 1))) := rfl
      have h6 : binW .sub (vN f) (vN 1) = some (.im (.int ((f : Int) - 1))) := rfl
      have hc : ∀ r : Env, (∀ p, cT (P.th (n - 1)) [6] (.nm 6) .none (.tup (.cons (.var 6) (.cons (.glob ⟨#[82, 73, 71, 72, 84]⟩ (.str sR)) .nil))) (vN p) r = .ok (some (tkW (p, false))) r) → compL (cT (P.th (n - 1)) [6] (.nm 6) .none (.tup (.cons (.var 6) (.cons (.glob ⟨#[82, 73, 71, 72, 84]⟩ (.str sR)) .nil)))) (((List.range' f (o - f)).reverse).map vN) r [] = .ok ((goR s o).map tkW) r := fun r hr => by
        rw [compL_all (enc := vN) (fun p => tkW (p, false)) (fun p _ => hr p) (by rw [List.length_reverse, List.length_range']; exact lim_le (by omega)), hgo, List.map_map]
        rfl
      have hlen : ((livS s).reverse.flatMap (goL s) ++ ((livS s).take j).flatMap (goR s)).length + (goR s o).length ≤ LIM := by
        have a := b2 (j + 1)
        have b := b1 (livS s).reverse.length
        rw [List.take_length] at b
        rw [htk, List.flatMap_append, List.length_append] at a
        have : ([o].flatMap (goR s)) = goR s o := by simp
        rw [this] at a
        rw [List.length_append]
        exact lim_le (by omega)
      have hm2 := mut_extend (ws := ((livS s).reverse.flatMap (goL s) ++ ((livS s).take j).flatMap (goR s)).map tkW) (us := (goR s o).map tkW) (by rw [List.length_map, List.length_map]; exact hlen)
      have hfin : ((livS s).reverse.flatMap (goL s) ++ ((livS s).take j).flatMap (goR s)).map tkW ++ (goR s o).map tkW = ((livS s).reverse.flatMap (goL s) ++ ((livS s).take (j + 1)).flatMap (goR s)).map tkW := by
        rw [htk, List.flatMap_append]; simp
      rw [hfin] at hm2
      generalize ((livS s).reverse.flatMap (goL s) ++ ((livS s).take j).flatMap (goR s)).map tkW = W1 at hm2
      generalize ((livS s).reverse.flatMap (goL s) ++ ((livS s).take (j + 1)).flatMap (goR s)).map tkW = W2 at hm2
      generalize (goR s o).map tkW = W3 at hm2 hc
      refine OK_gen fun Q hQ => ?_
      simp [fT, e, prW, lit1, sR_eq, h5, h6, h1, h2, h3, h4, -List.map_reverse]
      rw [hc _ (fun p => by simp [cT, tkW, sdS])]
      simp [hm2]
      exact hQ _ _ ⟨rfl, some (.im (vN o)), x5, some (.im (vN f)), rfl⟩
    · rintro fl r ⟨rfl, x4, x5, x7, rfl⟩
      have : (livS s).take ((livS s).map vN).length = livS s := by rw [List.length_map]; exact List.take_length
      simp [this, llS]
theorem least_sp (B : ProgL P) (hn : 4 < n) (hT : isSq T) (hU : isSq U) {es : List Str} {s : List Nat} (hl : s.length = es.length) (hs : s.length < 64) (hlt : ∀ o ∈ s, o < s.length) (hb : barS es s = none) :
    (P.th n).fn 41 [.im (T (es.map .str)), .im (U (s.map vN))] = .ok (.ls ((llS s).map tkW)) [.im .non, .im .non] := least_sp0 B.l0 hn hT hU hl hs hlt hb
end
end Dn
-- A1
set_option maxRecDepth 100000
set_option maxHeartbeats 4000000
/-! What logs lead to, and least logs: plain. -/
namespace Dn
open PySem
/-- one taking, as a walk back -/
def fS (t : Nat × Bool) (x : Nat) : Nat := if x = t.1 then nbS t else x
def backS (log : List (Nat × Bool)) (x : Nat) : Nat := log.foldr fS x
theorem backS_append (a b : List (Nat × Bool)) (x : Nat) : backS (a ++ b) x = backS a (backS b x) := List.foldr_append
theorem fS_lt {n : Nat} {t : Nat × Bool} (h : nbS t < n) {x : Nat} (hx : x < n) : fS t x < n := by
  unfold fS; split
  · exact h
  · exact hx
theorem backS_lt {n : Nat} : ∀ {log : List (Nat × Bool)}, (∀ t ∈ log, nbS t < n) → ∀ {x : Nat}, x < n → backS log x < n
  | [], _, _, hx => hx
  | t :: log, h, _, hx => fS_lt (h t List.mem_cons_self) (backS_lt (fun u hu => h u (List.mem_cons_of_mem _ hu)) hx)
theorem stepN_get {s : List Nat} {t : Nat × Bool} {x : Nat} (hx : x < s.length) : (stepN s t).getD x 0 = s.getD (fS t x) 0 := by
  unfold stepN fS
  by_cases h : x = t.1
  · subst h
    rw [if_pos rfl, List.getD_eq_getElem?_getD, List.getElem?_set_self hx]
    rfl
  · rw [if_neg h, List.getD_eq_getElem?_getD, List.getElem?_set_ne (fun e => h e.symm), ← List.getD_eq_getElem?_getD]
theorem fold_get {n : Nat} : ∀ (log : List (Nat × Bool)) (s : List Nat) (x : Nat), s.length = n → (∀ t ∈ log, nbS t < n) → x < n → (log.foldl stepN s).getD x 0 = s.getD (backS log x) 0
  | [], _, _, _, _, _ => rfl
  | t :: log, s, x, hl, h, hx => by
    have h2 : ∀ u ∈ log, nbS u < n := fun u hu => h u (List.mem_cons_of_mem _ hu)
    rw [List.foldl_cons, fold_get log (stepN s t) x (by rw [stepN_len]; exact hl) h2 hx, stepN_get (by rw [hl]; exact backS_lt h2 hx)]
    rfl
theorem org_get {n : Nat} {log : List (Nat × Bool)} {x : Nat} (h : ∀ t ∈ log, nbS t < n) (hx : x < n) : (orgS n log).getD x 0 = backS log x := by
  have hb := backS_lt h hx
  unfold orgS
  rw [fold_get log (List.range n) x (by simp) h hx, List.getD_eq_getElem?_getD, List.getElem?_range hb]
  rfl
theorem org_len (n : Nat) (log : List (Nat × Bool)) : (orgS n log).length = n := by
  unfold orgS
  rw [foldN_len, List.length_range]
theorem fS_mono (t : Nat × Bool) {x y : Nat} (h : x ≤ y) : fS t x ≤ fS t y := by
  unfold fS nbS
  repeat' split
  all_goals omega
theorem backS_mono : ∀ (log : List (Nat × Bool)) {x y : Nat}, x ≤ y → backS log x ≤ backS log y
  | [], _, _, h => h
  | t :: log, _, _, h => fS_mono t (backS_mono log h)
theorem getD_mem {s : List Nat} {o : Nat} (h : o ∈ s) : ∃ p, p < s.length ∧ s.getD p 0 = o := by
  obtain ⟨i, hi⟩ := List.mem_iff_getElem?.mp h
  exact ⟨i, (List.getElem?_eq_some_iff.mp hi).1, by rw [List.getD_eq_getElem?_getD, hi]; rfl⟩
theorem mem_getD {s : List Nat} {p : Nat} (h : p < s.length) : s.getD p 0 ∈ s := by
  rw [List.getD_eq_getElem?_getD, List.getElem?_eq_getElem h]
  exact List.getElem_mem h
theorem org_ris {n : Nat} {log : List (Nat × Bool)} (h : ∀ t ∈ log, nbS t < n) : Ris (orgS n log) where
  up := List.pairwise_iff_getElem.mpr fun i j hi hj hij => by
    rw [org_len] at hi hj
    have e : ∀ k (hk : k < (orgS n log).length), (orgS n log)[k] = (orgS n log).getD k 0 := fun k hk => by
      rw [List.getD_eq_getElem?_getD, List.getElem?_eq_getElem hk]; rfl
    rw [e, e, org_get h hi, org_get h hj]
    exact backS_mono log (Nat.le_of_lt hij)
  lt := fun o ho => by
    obtain ⟨p, hp, rfl⟩ := getD_mem ho
    rw [org_len] at hp ⊢
    rw [org_get h hp]
    exact backS_lt h hp
/-- who falls below a place has gone from it to the left -/
theorem back_left : ∀ (log : List (Nat × Bool)) (x z : Nat), z ≤ x → backS log x < z → ∃ t ∈ log, t = (z, true)
  | [], x, z, h1, h2 => by
    have : backS [] x = x := rfl
    omega
  | t :: log, x, z, h1, h2 => by
    by_cases h : backS log x < z
    · obtain ⟨u, hu, e⟩ := back_left log x z h1 h
      exact ⟨u, List.mem_cons_of_mem _ hu, e⟩
    · have h3 : fS t (backS log x) < z := h2
      refine ⟨t, List.mem_cons_self, ?_⟩
      obtain ⟨p, b⟩ := t
      unfold fS nbS at h3
      simp only at h3
      cases b <;> simp only [if_true, Bool.false_eq_true, if_false] at h3 <;> split at h3 <;> first | omega | (congr 1; omega)
theorem back_right : ∀ (log : List (Nat × Bool)) (x z : Nat), x ≤ z → z < backS log x → ∃ t ∈ log, t = (z, false)
  | [], x, z, h1, h2 => by
    have : backS [] x = x := rfl
    omega
  | t :: log, x, z, h1, h2 => by
    by_cases h : z < backS log x
    · obtain ⟨u, hu, e⟩ := back_right log x z h1 h
      exact ⟨u, List.mem_cons_of_mem _ hu, e⟩
    · have h3 : z < fS t (backS log x) := h2
      refine ⟨t, List.mem_cons_self, ?_⟩
      obtain ⟨p, b⟩ := t
      unfold fS nbS at h3
      simp only at h3
      cases b <;> simp only [if_true, Bool.false_eq_true, if_false] at h3 <;> split at h3 <;> first | omega | (congr 1; omega)
/-- ears let what a let log leads to -/
theorem org_let {es : List Str} {log : List (Nat × Bool)} (h : ∀ t ∈ log, LetT es t) : barS es (orgS es.length log) = none := by
  have hn : ∀ t ∈ log, nbS t < es.length := fun t ht => (h t ht).nlt
  unfold barS
  rw [List.find?_eq_none]
  intro p hp
  have hp' : p < es.length := by
    have := List.mem_range.mp hp
    rwa [org_len] at this
  rw [org_get hn hp']
  have : letAt es p (backS log p) = true := by
    unfold letAt
    by_cases h1 : backS log p < p
    · rw [if_pos h1]
      obtain ⟨t, ht, rfl⟩ := back_left log p p (Nat.le_refl _) h1
      exact (h _ ht).hr
    · rw [if_neg h1]
      by_cases h2 : backS log p = p
      · simp [h2]
      · obtain ⟨t, ht, rfl⟩ := back_right log p p (Nat.le_refl _) (by omega)
        rw [show hearS (es.getD p sN) false = true from (h _ ht).hr, Bool.or_true]
  rw [this]
  decide
/-- what was taken: place and origin, taking by taking -/
def tookS : List (Nat × Bool) → List (Nat × Bool) → List (Nat × Nat)
  | _, [] => []
  | pre, t :: log => (t.1, backS pre (nbS t)) :: tookS (pre ++ [t]) log
theorem tookS_len : ∀ (log pre : List (Nat × Bool)), (tookS pre log).length = log.length
  | [], _ => rfl
  | t :: log, pre => by rw [tookS, List.length_cons, List.length_cons, tookS_len log]
theorem tookS_app : ∀ (a b pre : List (Nat × Bool)), tookS pre (a ++ b) = tookS pre a ++ tookS (pre ++ a) b
  | [], b, pre => by simp [tookS]
  | t :: a, b, pre => by
    rw [List.cons_append, tookS, tookS, tookS_app a b, List.cons_append, List.append_assoc]
    rfl
theorem snoc_ind {P : List (Nat × Bool) → Prop} (h0 : P []) (h1 : ∀ l t, P l → P (l ++ [t])) : ∀ l, P l := fun l => by
  have : ∀ m : List (Nat × Bool), P m.reverse := fun m => by
    induction m with
    | nil => exact h0
    | cons t m ih => rw [List.reverse_cons]; exact h1 _ _ ih
  have := this l.reverse
  rwa [List.reverse_reverse] at this
/-- a place on the way was taken with just that origin -/
theorem took_on (log : List (Nat × Bool)) : ∀ (x p : Nat), ((x ≤ p ∧ p < backS log x) ∨ (backS log x < p ∧ p ≤ x)) → (p, backS log x) ∈ tookS [] log := by
  refine snoc_ind (P := fun log => ∀ (x p : Nat), ((x ≤ p ∧ p < backS log x) ∨ (backS log x < p ∧ p ≤ x)) → (p, backS log x) ∈ tookS [] log) ?_ ?_ log
  · intro x p h
    have : backS [] x = x := rfl
    omega
  · intro log t ih x p h
    have e : backS (log ++ [t]) x = backS log (fS t x) := backS_append log [t] x
    rw [e] at h ⊢
    rw [tookS_app, List.nil_append]
    by_cases hx : x = t.1 ∧ p = x
    · obtain ⟨rfl, rfl⟩ := hx
      have e2 : fS t t.1 = nbS t := if_pos rfl
      rw [e2]
      exact List.mem_append_right _ (List.mem_singleton.mpr rfl)
    · refine List.mem_append_left _ (ih _ _ ?_)
      obtain ⟨q, b⟩ := t
      unfold fS nbS at h ⊢
      simp only at h hx ⊢
      cases b <;> simp only [if_true, Bool.false_eq_true, if_false] at h ⊢ <;> split at h <;> (first | rw [if_pos ‹_›] | rw [if_neg ‹_›]) <;> omega
end Dn
-- A2
set_option maxRecDepth 100000
set_option maxHeartbeats 4000000
/-! Least logs lead to their origins; no fewer takings do. -/
namespace Dn
open PySem
theorem span_spec {s : List Nat} {o : Nat} (ho : o ∈ s) : ∃ a b, a < s.length ∧ s.getD a 0 = o ∧ b < s.length ∧ s.getD b 0 = o ∧ (∀ p, p < s.length → s.getD p 0 = o → a ≤ p ∧ p ≤ b) ∧ spanS s o = (min a o, max b o) := by
  have hne := hadS_ne ho
  have hup := hadS_up s o
  obtain ⟨b, hb⟩ : ∃ b, (hadS s o).getLast? = some b := by
    cases hh : (hadS s o).getLast? with
    | none => exact absurd (List.getLast?_eq_none_iff.mp hh) hne
    | some b => exact ⟨b, rfl⟩
  obtain ⟨a, ha⟩ : ∃ a, (hadS s o).head? = some a := by
    cases hh : hadS s o with
    | nil => exact absurd hh hne
    | cons a t => exact ⟨a, rfl⟩
  have hma : a ∈ hadS s o := List.mem_of_head? ha
  have hmb : b ∈ hadS s o := List.mem_of_getLast? hb
  obtain ⟨a1, a2⟩ := mem_hadS.mp hma
  obtain ⟨b1, b2⟩ := mem_hadS.mp hmb
  refine ⟨a, b, a1, a2, b1, b2, fun p hp e => ?_, ?_⟩
  · have hm : p ∈ hadS s o := mem_hadS.mpr ⟨hp, e⟩
    constructor
    · cases hh : hadS s o with
      | nil => exact absurd hh hne
      | cons a' t =>
        rw [hh] at ha hm hup
        have : a' = a := by simpa using ha
        subst this
        rcases List.mem_cons.mp hm with e | hm
        · omega
        · exact Nat.le_of_lt ((List.pairwise_cons.mp hup).1 p hm)
    · obtain ⟨t, ht⟩ := List.getLast?_eq_some_iff.mp hb
      rw [ht] at hm hup
      rcases List.mem_append.mp hm with hm | hm
      · exact Nat.le_of_lt ((List.pairwise_append.mp hup).2.2 p hm b (by simp))
      · have : p = b := by simpa using hm
        omega
  · unfold spanS
    rw [ha, hb]
    rfl
theorem goR_at : ∀ (k f x : Nat), backS (((List.range' f k).reverse).map fun p => (p, false)) x = if f ≤ x ∧ x < f + k then f + k else x
  | 0, f, x => by
    rw [if_neg (by omega)]; rfl
  | k + 1, f, x => by
    rw [List.range'_concat, List.reverse_append, List.map_append]
    show fS (f + 1 * k, false) (backS (((List.range' f k).reverse).map fun p => (p, false)) x) = _
    rw [goR_at k f x]
    unfold fS nbS
    simp only [Bool.false_eq_true, if_false]
    repeat' split
    all_goals omega
theorem goL_at : ∀ (k o x : Nat), backS ((List.range' (o + 1) k).map fun p => (p, true)) x = if o < x ∧ x ≤ o + k then o else x
  | 0, f, x => by
    rw [if_neg (by omega)]; rfl
  | k + 1, o, x => by
    rw [List.range'_succ, List.map_cons]
    show fS (o + 1, true) (backS _ x) = _
    rw [goL_at k (o + 1) x]
    unfold fS nbS
    simp only [if_true]
    repeat' split
    all_goals omega
theorem goL_back {s : List Nat} {o x : Nat} : backS (goL s o) x = if o < x ∧ x ≤ (spanS s o).2 then o else x := by
  have := (spanS_le s o).2
  unfold goL
  rw [goL_at, show o + ((spanS s o).2 - o) = (spanS s o).2 by omega]
theorem goR_back {s : List Nat} {o x : Nat} : backS (goR s o) x = if (spanS s o).1 ≤ x ∧ x < o then o else x := by
  have := (spanS_le s o).1
  unfold goR
  rw [goR_at, show (spanS s o).1 + (o - (spanS s o).1) = o by omega]
theorem back_flat (g : Nat → List (Nat × Bool)) : ∀ (l : List Nat) (x : Nat), backS (l.flatMap g) x = l.foldr (fun o y => backS (g o) y) x
  | [], _ => rfl
  | o :: l, x => by rw [List.flatMap_cons, backS_append, back_flat g l]; rfl
theorem foldr_none {K : Nat → Nat → Nat} {x : Nat} : ∀ {l : List Nat}, (∀ o ∈ l, K o x = x) → l.foldr K x = x
  | [], _ => rfl
  | o :: l, h => by rw [List.foldr_cons, foldr_none fun u hu => h u (List.mem_cons_of_mem _ hu)]; exact h o List.mem_cons_self
theorem foldr_one {K : Nat → Nat → Nat} {x v o : Nat} {l1 l2 : List Nat} (h2 : ∀ u ∈ l2, K u x = x) (h : K o x = v) (h1 : ∀ u ∈ l1, K u v = v) : (l1 ++ o :: l2).foldr K x = v := by
  rw [List.foldr_append, List.foldr_cons, foldr_none h2, h, foldr_none h1]
theorem ll_back {s : List Nat} (hs : Ris s) {x : Nat} (hx : x < s.length) : backS (llS s) x = s.getD x 0 := by
  have hm := hs.mono
  have hup := livS_up s
  have hmem : s.getD x 0 ∈ livS s := mem_livS.mpr (mem_getD hx)
  have hlo : s.getD x 0 < s.length := hs.lt _ (mem_getD hx)
  generalize ho : s.getD x 0 = o at hmem hlo
  have hfst : ∀ u ∈ livS s, (spanS s u).1 ≤ x → x < u → u ≤ o := fun u hu h1 h2 => by
    obtain ⟨a, b, a1, a2, b1, b2, h, e⟩ := span_spec (mem_livS.mp hu)
    rw [e] at h1
    have h1' : min a u ≤ x := h1
    have := hm a x (by omega) hx
    omega
  have hlst : ∀ u ∈ livS s, ∀ y, u < y → y ≤ (spanS s u).2 → ∃ b, b < s.length ∧ s.getD b 0 = u ∧ y ≤ b := fun u hu y h1 h2 => by
    obtain ⟨a, b, a1, a2, b1, b2, h, e⟩ := span_spec (mem_livS.mp hu)
    rw [e] at h2
    have h2' : y ≤ max b u := h2
    exact ⟨b, b1, b2, by omega⟩
  obtain ⟨l1, l2, hl⟩ := List.append_of_mem hmem
  have hp1 : ∀ u ∈ l1, u ∈ livS s ∧ u < o := fun u hu => by
    refine ⟨by rw [hl]; exact List.mem_append_left _ hu, ?_⟩
    rw [hl] at hup
    exact (List.pairwise_append.mp hup).2.2 u hu o List.mem_cons_self
  have hp2 : ∀ u ∈ l2, u ∈ livS s ∧ o < u := fun u hu => by
    refine ⟨by rw [hl]; exact List.mem_append_right _ (List.mem_cons_of_mem _ hu), ?_⟩
    rw [hl] at hup
    exact (List.pairwise_cons.mp (List.pairwise_append.mp hup).2.1).1 u hu
  obtain ⟨a, b, a1, a2, b1, b2, hab, hsp⟩ := span_spec (mem_livS.mp hmem)
  have hxab := hab x hx ho
  unfold llS
  rw [backS_append, back_flat, back_flat]
  have hB : (livS s).foldr (fun o y => backS (goR s o) y) x = max x o := by
    by_cases h : x < o
    · rw [hl]
      refine foldr_one (v := max x o) (fun u hu => ?_) ?_ (fun u hu => ?_)
      · obtain ⟨u1, u2⟩ := hp2 u hu
        rw [goR_back, if_neg]
        rintro ⟨h1, h2⟩
        have := hfst u u1 h1 h2
        omega
      · rw [goR_back, hsp, if_pos ⟨by show min a o ≤ x; omega, h⟩]
        omega
      · obtain ⟨u1, u2⟩ := hp1 u hu
        rw [goR_back, if_neg]
        rintro ⟨h1, h2⟩
        omega
    · rw [foldr_none (fun u hu => ?_)]
      · omega
      · rw [goR_back, if_neg]
        rintro ⟨h1, h2⟩
        have := hfst u hu h1 h2
        omega
  rw [hB]
  have hA : ∀ u ∈ livS s, u < o → backS (goL s u) (max x o) = max x o := fun u hu h => by
    rw [goL_back, if_neg]
    rintro ⟨h1, h2⟩
    obtain ⟨q, q1, q2, q3⟩ := hlst u hu _ h1 h2
    have := hm x q (by omega) q1
    omega
  rw [hl, List.reverse_append, List.reverse_cons, List.append_assoc]
  refine foldr_one (v := o) (fun u hu => ?_) ?_ (fun u hu => ?_)
  · obtain ⟨u1, u2⟩ := hp1 u (List.mem_reverse.mp hu)
    exact hA u u1 u2
  · rw [goL_back, hsp]
    split
    · rfl
    · rename_i h
      have h' : ¬ (o < max x o ∧ max x o ≤ max b o) := h
      omega
  · obtain ⟨u1, u2⟩ := hp2 u (List.mem_reverse.mp hu)
    rw [goL_back, if_neg (by omega)]
theorem ext_getD {s t : List Nat} (hl : s.length = t.length) (h : ∀ x, x < s.length → s.getD x 0 = t.getD x 0) : s = t := by
  refine List.ext_getElem hl fun i h1 h2 => ?_
  have := h i h1
  rw [List.getD_eq_getElem?_getD, List.getD_eq_getElem?_getD, List.getElem?_eq_getElem h1, List.getElem?_eq_getElem h2] at this
  exact this
theorem ll_mem {s : List Nat} {t : Nat × Bool} (h : t ∈ llS s) : ∃ o, o ∈ s ∧ ((t.2 = true ∧ o < t.1 ∧ t.1 ≤ (spanS s o).2) ∨ (t.2 = false ∧ (spanS s o).1 ≤ t.1 ∧ t.1 < o)) := by
  unfold llS at h
  rcases List.mem_append.mp h with h | h
  · obtain ⟨o, ho, ht⟩ := List.mem_flatMap.mp h
    obtain ⟨p, hp, rfl⟩ := List.mem_map.mp ht
    have := List.mem_range'_1.mp hp
    exact ⟨o, mem_livS.mp (List.mem_reverse.mp ho), .inl ⟨rfl, by simp only; omega, by simp only; omega⟩⟩
  · obtain ⟨o, ho, ht⟩ := List.mem_flatMap.mp h
    obtain ⟨p, hp, rfl⟩ := List.mem_map.mp ht
    have := List.mem_range'_1.mp (List.mem_reverse.mp hp)
    exact ⟨o, mem_livS.mp ho, .inr ⟨rfl, by simp only; omega, by simp only; omega⟩⟩
/-- ears that let the origins let the least log -/
theorem ll_let {es : List Str} {s : List Nat} (hs : Ris s) (hl : s.length = es.length) (hb : barS es s = none) : ∀ t ∈ llS s, LetT es t := by
  have hla : ∀ p, p < s.length → letAt es p (s.getD p 0) = true := fun p hp => by
    unfold barS at hb
    rw [List.find?_eq_none] at hb
    have := hb p (List.mem_range.mpr hp)
    simpa using this
  rintro ⟨p, b⟩ ht
  obtain ⟨o, ho, h⟩ := ll_mem ht
  obtain ⟨c, d, c1, c2, d1, d2, _, e⟩ := span_spec ho
  have hol := hs.lt o ho
  rw [e] at h
  rcases h with ⟨rfl, h1, h2⟩ | ⟨rfl, h1, h2⟩
  · have h1' : o < p := h1
    have h2' : p ≤ max d o := h2
    have hps : p < s.length := by omega
    have h3 := hs.mono p d (by omega) d1
    have h4 := hla p hps
    unfold letAt at h4
    rw [if_pos (by omega)] at h4
    exact ⟨by omega, by simp only [if_true]; omega, h4⟩
  · have h1' : min c o ≤ p := h1
    have h2' : p < o := h2
    have hps : p < s.length := by omega
    have h3 := hs.mono c p (by omega) hps
    have h4 := hla p hps
    unfold letAt at h4
    rw [if_neg (by omega), show (s.getD p 0 == p) = false from beq_eq_false_iff_ne.mpr (by omega), Bool.false_or] at h4
    exact ⟨by omega, by simp only [Bool.false_eq_true, if_false]; omega, h4⟩
theorem ll_nb {s : List Nat} (hs : Ris s) : ∀ t ∈ llS s, nbS t < s.length := by
  rintro ⟨p, b⟩ ht
  obtain ⟨o, ho, h⟩ := ll_mem ht
  obtain ⟨c, d, c1, c2, d1, d2, _, e⟩ := span_spec ho
  have hol := hs.lt o ho
  rw [e] at h
  unfold nbS
  rcases h with ⟨rfl, h1, h2⟩ | ⟨rfl, h1, h2⟩
  · have h1' : o < p := h1
    have h2' : p ≤ max d o := h2
    simp only [if_true]; omega
  · have h1' : min c o ≤ p := h1
    have h2' : p < o := h2
    simp only [Bool.false_eq_true, if_false]; omega
theorem ll_org {s : List Nat} (hs : Ris s) : orgS s.length (llS s) = s := by
  refine ext_getD (org_len _ _) fun x hx => ?_
  rw [org_len] at hx
  rw [org_get (ll_nb hs) hx, ll_back hs hx]
theorem sum_flat {A B : Type} (g : A → List B) (l : List A) : (l.flatMap g).length = (l.map fun a => (g a).length).sum := List.length_flatMap
theorem sum_add {A : Type} (f g : A → Nat) : ∀ l : List A, (l.map f).sum + (l.map g).sum = (l.map fun a => f a + g a).sum
  | [] => rfl
  | a :: l => by
    rw [List.map_cons, List.map_cons, List.map_cons, List.sum_cons, List.sum_cons, List.sum_cons, ← sum_add f g l]
    omega
theorem ll_len (s : List Nat) : (llS s).length = fewS s := by
  unfold llS fewS
  rw [List.length_append, sum_flat, sum_flat, List.map_reverse, List.sum_reverse, sum_add]
  congr 1
  refine List.map_congr_left fun o _ => ?_
  have h := spanS_le s o
  unfold goL goR
  rw [List.length_map, List.length_map, List.length_reverse, List.length_range', List.length_range']
  omega
/-! forced ones -/
theorem mem_insQ {x y : Nat × Nat} : ∀ {l : List (Nat × Nat)}, y ∈ insQ x l ↔ y = x ∨ y ∈ l
  | [] => by simp [insQ]
  | z :: l => by
    unfold insQ
    split
    · simp
    · rw [List.mem_cons, mem_insQ (l := l), List.mem_cons]
      constructor
      · rintro (h | h | h)
        · exact .inr (.inl h)
        · exact .inl h
        · exact .inr (.inr h)
      · rintro (h | h | h)
        · exact .inr (.inl h)
        · exact .inl h
        · exact .inr (.inr h)
theorem mem_sortQ {y : Nat × Nat} : ∀ {l : List (Nat × Nat)}, y ∈ sortQ l ↔ y ∈ l
  | [] => by simp [sortQ]
  | x :: l => by
    show y ∈ insQ x (sortQ l) ↔ _
    rw [mem_insQ, mem_sortQ (l := l), List.mem_cons]
theorem mem_forced {s : List Nat} {p o : Nat} : (p, o) ∈ forcedS s ↔ o ∈ s ∧ (spanS s o).1 ≤ p ∧ p ≤ (spanS s o).2 ∧ p ≠ o := by
  unfold forcedS forcedU
  rw [mem_sortQ, List.mem_flatMap]
  have hle := spanS_le s
  constructor
  · rintro ⟨u, hu, h⟩
    unfold forcedAt at h
    obtain ⟨q, hq, e⟩ := List.mem_map.mp h
    cases e
    obtain ⟨h1, h2⟩ := List.mem_filter.mp hq
    have h3 := List.mem_range'_1.mp h1
    have := hle o
    exact ⟨mem_livS.mp hu, by omega, by omega, by simpa using h2⟩
  · rintro ⟨h1, h2, h3, h4⟩
    refine ⟨o, mem_livS.mpr h1, ?_⟩
    unfold forcedAt
    refine List.mem_map.mpr ⟨p, List.mem_filter.mpr ⟨List.mem_range'_1.mpr ⟨h2, by omega⟩, by simpa using h4⟩, rfl⟩
/-- a forced place lies between one who has the word and its origin -/
theorem forced_on {s : List Nat} {p o : Nat} : (p, o) ∈ forcedS s ↔ ∃ x, x < s.length ∧ s.getD x 0 = o ∧ ((x ≤ p ∧ p < o) ∨ (o < p ∧ p ≤ x)) := by
  rw [mem_forced]
  constructor
  · rintro ⟨h1, h2, h3, h4⟩
    obtain ⟨a, b, a1, a2, b1, b2, _, e⟩ := span_spec h1
    rw [e] at h2 h3
    have h2' : min a o ≤ p := h2
    have h3' : p ≤ max b o := h3
    rcases Nat.lt_or_ge p o with h | h
    · exact ⟨a, a1, a2, .inl ⟨by omega, h⟩⟩
    · exact ⟨b, b1, b2, .inr ⟨by omega, by omega⟩⟩
  · rintro ⟨x, h1, h2, h3⟩
    have ho : o ∈ s := by rw [← h2]; exact mem_getD h1
    obtain ⟨a, b, a1, a2, b1, b2, h, e⟩ := span_spec ho
    have hx := h x h1 h2
    rw [e]
    exact ⟨ho, by show min a o ≤ p; omega, by show p ≤ max b o; omega, by omega⟩
theorem forced_took {n : Nat} {log : List (Nat × Bool)} (h : ∀ t ∈ log, nbS t < n) {p o : Nat} (hf : (p, o) ∈ forcedS (orgS n log)) : (p, o) ∈ tookS [] log := by
  obtain ⟨x, h1, h2, h3⟩ := forced_on.mp hf
  rw [org_len] at h1
  rw [org_get h h1] at h2
  subst h2
  exact took_on log x p h3
end Dn
-- K10
set_option maxRecDepth 100000
set_option maxHeartbeats 4000000
/-! k10. -/
namespace Dn
open PySem
namespace K10
/-- _law_pairs: 1, 6 names, 0 changed: 0 springs 1 found 2 origin 3 had 4 place 5 one -/
def b_Lpairs : Ss := (.cons (.set (.nm 1) (.frz (.lst .nil)))
  (.cons (.for_ (.nm 2) (.seq (.srs (.var 0)))
  (.cons (.set (.nm 3) (.frz (.bin .add (.comp [4, 5] (.tp [(.nm 4), (.nm 5)]) (.enum (.var 0)) (.some (.cmp .eq (.var 5) (.var 2))) (.var 4)) (.lst (.cons (.var 2) .nil)))))
  (.cons (.set (.nm 1) (.frz (.bin .add (.var 1) (.comp [4] (.nm 4) (.rng2 (.bi .minl (.cons (.var 3) .nil)) (.bin .add (.bi .maxl (.cons (.var 3) .nil)) (.cst (.int 1)))) (.some (.cmp .ne (.var 4) (.var 2))) (.tup (.cons (.var 4) (.cons (.var 2) .nil)))))))
  .nil)))
  (.cons (.ret (.srt (.var 1)))
  .nil)))
/-- _law_right: 1, 14 names, 1 changed: 0 box_here 1 turn 2 many 3 springs 4 sorts 5 costs 6 place 7 due 8 far 9 origin 10 found 11 cost 12 told 13 start -/
def b_Lright : Ss := (.cons (.for_ (.nm 1) (.rng1 (.cst (.int 4)))
  (.cons (.set (.nm 2) (.bin .add (.cst (.int 1)) (.call 502 (.bor 0 (.val (.cst (.int 24)) .nil)))))
  (.cons (.set (.nm 3) (.call 504 (.bor 0 (.val (.var 2) .nil))))
  (.cons (.set (.nm 4) (.frz (.lst (.cons (.cst (.int 1)) (.cons (.cst (.int 2)) (.cons (.cst (.int 10)) (.cons (.bin .pow (.cst (.int 10)) (.cst (.int 6))) .nil)))))))
  (.cons (.set (.nm 5) (.bi .tuple (.cons (.comp [6] (.nm 6) (.rng1 (.var 2)) .none (.call 502 (.bor 0 (.val (.frz (.call 509 (.bor 0 (.val (.var 4) .nil)))) .nil)))) .nil)))
  (.cons (.par [7, 8] (.val (.frz (.call 589 (.val (.var 3) .nil))) (.val (.bi .maxl (.cons (.comp [6, 9] (.tp [(.nm 6), (.nm 9)]) (.enum (.var 3)) .none (.bi .abs (.cons (.bin .sub (.var 9) (.var 6)) .nil))) .nil)) .nil)))
  (.cons (.set (.nm 10) (.call 37 (.val (.var 3) .nil)))
  (.cons (.ite (.pur (.inv (.call 503 (.val (.frz (.lst (.cons (.var 10) (.cons (.callk 37 .nil (.val (.frz (.bi .list (.cons (.var 3) .nil))) .nil) [0]) .nil)))) (.val (.frz (.lst (.cons (.var 7) (.cons (.var 7) .nil)))) .nil)))))
  (.cons (.ret (.cst (.bl false)))
  .nil)
  .nil)
  (.cons (.ex (.mut .append 10 [] (.cons (.cst (.str (⟨#[109, 111, 114, 101]⟩ : Str))) .nil)))
  (.cons (.set (.nm 11) (.bi .sum (.cons (.comp [6, 9] (.tp [(.nm 6), (.nm 9)]) (.seq (.var 7)) .none (.idx (.var 5) (.var 6))) .nil)))
  (.cons (.set (.nm 12) (.lst (.cons (.call 36 (.val (.var 3) .nil)) (.cons (.callk 36 .nil (.val (.frz (.bi .list (.cons (.var 3) .nil))) .nil) [0]) (.cons (.call 39 (.val (.var 3) (.val (.var 5) .nil))) .nil)))))
  (.cons (.ex (.mut .append 12 [] (.cons (.callk 39 .nil (.val (.frz (.bi .list (.cons (.var 5) .nil))) (.val (.frz (.bi .list (.cons (.var 3) .nil))) .nil)) [1, 0]) .nil)))
  (.cons (.set (.nm 12) (.bin .add (.var 12) (.lst (.cons (.call 38 (.val (.var 3) .nil)) (.cons (.callk 38 .nil (.val (.var 3) .nil) [0]) .nil)))))
  (.cons (.ite (.pur (.dis (.inv (.call 503 (.val (.var 12) (.val (.frz (.bin .add (.bin .add (.bin .mul (.lst (.cons (.bi .len (.cons (.var 7) .nil)) .nil)) (.cst (.int 2))) (.bin .mul (.lst (.cons (.var 11) .nil)) (.cst (.int 2)))) (.bin .mul (.lst (.cons (.var 8) .nil)) (.cst (.int 2))))) .nil)))) (.inv (.call 503 (.val (.frz (.call 37 (.val (.var 3) .nil))) (.val (.var 7) .nil))))))
  (.cons (.ret (.cst (.bl false)))
  .nil)
  .nil)
  (.cons (.set (.nm 13) (.rg1 true (.var 2)))
  (.cons (.set (.nm 12) (.lst (.cons (.call 36 (.val (.var 13) .nil)) (.cons (.call 37 (.val (.var 13) .nil)) (.cons (.call 39 (.val (.var 13) (.val (.var 5) .nil))) (.cons (.call 38 (.val (.var 13) .nil)) .nil))))))
  (.cons (.ite (.pur (.inv (.call 503 (.val (.var 12) (.val (.frz (.lst (.cons (.cst (.int 0)) (.cons (.lst .nil) (.cons (.cst (.int 0)) (.cons (.cst (.int 0)) .nil)))))) .nil)))))
  (.cons (.ret (.cst (.bl false)))
  .nil)
  .nil)
  .nil)))))))))))))))))
  (.cons (.ret (.cst (.bl true)))
  .nil))
section
variable {P : Pg} {n c : Nat} {m : M} {T : List W → W}
theorem of_sp (B : Has P 509 b_Lof 2 2 [0]) (B2 : Has P 502 (b_take 502) 2 5 [0]) (hn : 1 < n) (hT : isSq T) {ws : List W} (h0 : 0 < ws.length) (h1 : ws.length ≤ 1000000) (hm : Bx c m) (hc : c < 2 ^ 60) :
    ∃ (w : W) (m' : M), (P.th n).fn 509 [m, .im (T ws)] = .ok (.im w) [m', .im .non] ∧ w ∈ ws ∧ Bx (c + 1) m' := by
  have key : ∃ (v : M) (as : List M), (P.th n).fn 509 [m, .im (T ws)] = .ok v as ∧ ∃ (w : W) (m' : M), v = .im w ∧ as = [m', .im .non] ∧ w ∈ ws ∧ Bx (c + 1) m' := by
    refine fn_lk B (by omega) rfl ?_
    obtain ⟨t, m1, e1, d1, g1⟩ := take_sp (n := n - 1) B2 (by omega) hm (by omega) (s := (ws.length : Int)) (by omega) (by omega)
    have ht : t < ws.length := by omega
    have hi : ixW ws (t : Int) = some ws[t] := ixW_nat (List.getElem?_eq_getElem ht)
    refine OK_gen fun Q hQ => ?_
    rcases hT with rfl | rfl <;> (simp [b_Lof, e1, -ixW_cast, hi]; exact hQ _ _ ⟨_, [m1, .im .non], rfl, by simp [argsOf], ws[t], m1, rfl, rfl, List.getElem_mem ht, g1⟩)
  obtain ⟨v, as, e, w, m', rfl, rfl, h⟩ := key
  exact ⟨w, m', e, h⟩
theorem minI_le : ∀ (l : List Int) (m : Int), minI m l ≤ m ∧ (∀ y ∈ l, minI m l ≤ y) ∧ (minI m l = m ∨ minI m l ∈ l)
  | [], m => ⟨Int.le_refl _, fun y h => by simp at h, .inl rfl⟩
  | i :: l, m => by
    obtain ⟨h1, h2, h3⟩ := minI_le l (if i < m then i else m)
    have h4 : (if i < m then i else m) ≤ m ∧ (if i < m then i else m) ≤ i := by split <;> omega
    unfold minI
    refine ⟨Int.le_trans h1 h4.1, fun y hy => ?_, ?_⟩
    · rcases List.mem_cons.mp hy with e | hy
      · subst e
        exact Int.le_trans h1 h4.2
      · exact h2 y hy
    · rcases h3 with h3 | h3
      · rw [h3]
        split
        · exact .inr List.mem_cons_self
        · exact .inl rfl
      · exact .inr (List.mem_cons_of_mem _ h3)
theorem maxI_ge : ∀ (l : List Int) (m : Int), m ≤ maxI m l ∧ (∀ y ∈ l, y ≤ maxI m l) ∧ (maxI m l = m ∨ maxI m l ∈ l)
  | [], m => ⟨Int.le_refl _, fun y h => by simp at h, .inl rfl⟩
  | i :: l, m => by
    obtain ⟨h1, h2, h3⟩ := maxI_ge l (if i > m then i else m)
    have h4 : m ≤ (if i > m then i else m) ∧ i ≤ (if i > m then i else m) := by split <;> omega
    unfold maxI
    refine ⟨Int.le_trans h4.1 h1, fun y hy => ?_, ?_⟩
    · rcases List.mem_cons.mp hy with e | hy
      · subst e
        exact Int.le_trans h4.2 h1
      · exact h2 y hy
    · rcases h3 with h3 | h3
      · rw [h3]
        split
        · exact .inr List.mem_cons_self
        · exact .inl rfl
      · exact .inr (List.mem_cons_of_mem _ h3)
/-- the least and the greatest of those who have a word, and its origin -/
theorem had_min {s : List Nat} {o : Nat} (ho : o ∈ s) : biW .minl [.lst ((hadS s o ++ [o]).map vN)] = some (.im (vN (spanS s o).1)) := by
  have hne := hadS_ne ho
  have hup := hadS_up s o
  unfold spanS
  cases hh : hadS s o with
  | nil => exact absurd hh hne
  | cons a t =>
    rw [hh] at hup
    have h1 : intsW (((a :: t) ++ [o]).map vN) = some ((a : Int) :: ((t ++ [o]).map fun (x : Nat) => (x : Int))) := ints_vN _
    rw [bi_minl h1]
    obtain ⟨g1, g2, g3⟩ := minI_le ((t ++ [o]).map fun (x : Nat) => (x : Int)) (a : Int)
    have g4 := g2 (o : Int) (List.mem_map.mpr ⟨o, by simp, rfl⟩)
    have g5 : minI (a : Int) ((t ++ [o]).map fun (x : Nat) => (x : Int)) = ((min a o : Nat) : Int) := by
      rcases g3 with g3 | g3
      · omega
      · obtain ⟨y, hy, e⟩ := List.mem_map.mp g3
        rcases List.mem_append.mp hy with hy | hy
        · have := (List.pairwise_cons.mp hup).1 y hy
          omega
        · have : y = o := by simpa using hy
          omega
    rw [g5]
    rfl
theorem had_max {s : List Nat} {o : Nat} (ho : o ∈ s) : biW .maxl [.lst ((hadS s o ++ [o]).map vN)] = some (.im (vN (spanS s o).2)) := by
  have hne := hadS_ne ho
  have hup := hadS_up s o
  unfold spanS
  obtain ⟨b, hb⟩ : ∃ b, (hadS s o).getLast? = some b := by
    cases hh : (hadS s o).getLast? with
    | none => exact absurd (List.getLast?_eq_none_iff.mp hh) hne
    | some b => exact ⟨b, rfl⟩
  rw [hb]
  obtain ⟨t, ht⟩ : ∃ t, hadS s o = t ++ [b] := by
    obtain ⟨t, ht⟩ := List.getLast?_eq_some_iff.mp hb
    exact ⟨t, ht⟩
  have hall : ∀ y ∈ hadS s o, y ≤ b := fun y hy => by
    rw [ht] at hy hup
    rcases List.mem_append.mp hy with hy | hy
    · exact Nat.le_of_lt ((List.pairwise_append.mp hup).2.2 y hy b (by simp))
    · have : y = b := by simpa using hy
      omega
  have hmem : b ∈ hadS s o := by rw [ht]; simp
  cases hh : hadS s o with
  | nil => exact absurd hh hne
  | cons a t' =>
    rw [hh] at hall hmem
    have h1 : intsW (((a :: t') ++ [o]).map vN) = some ((a : Int) :: ((t' ++ [o]).map fun (x : Nat) => (x : Int))) := ints_vN _
    rw [bi_maxl h1]
    obtain ⟨g1, g2, g3⟩ := maxI_ge ((t' ++ [o]).map fun (x : Nat) => (x : Int)) (a : Int)
    have g4 := g2 (o : Int) (List.mem_map.mpr ⟨o, by simp, rfl⟩)
    have g6 : (b : Int) ≤ maxI (a : Int) ((t' ++ [o]).map fun (x : Nat) => (x : Int)) := by
      rcases List.mem_cons.mp hmem with e | e
      · rw [e]; exact g1
      · exact g2 (b : Int) (List.mem_map.mpr ⟨b, by simp [e], rfl⟩)
    have g5 : maxI (a : Int) ((t' ++ [o]).map fun (x : Nat) => (x : Int)) = ((max b o : Nat) : Int) := by
      rcases g3 with g3 | g3
      · have := hall a (by simp)
        omega
      · obtain ⟨y, hy, e⟩ := List.mem_map.mp g3
        rcases List.mem_append.mp hy with hy | hy
        · have := hall y (List.mem_cons_of_mem _ hy)
          omega
        · have : y = o := by simpa using hy
          omega
    rw [g5]
    rfl
theorem pairs_sp (B : Has P 589 b_Lpairs 1 6 []) (hn : 0 < n) {s : List Nat} (hs : s.length < 64) (hlt : ∀ o ∈ s, o < s.length) : (P.th n).fn 589 [.im (.tup (s.map vN))] = .ok (.ls ((forcedS s).map prW)) [.im .non] := by
  refine fn_ok B (by omega) rfl ?_
  have e0 := setW_N hs
  have hcomp : (W.int ∘ fun (y : Nat) => (y : Int)) = vN := rfl
  have hfl : ∀ j, (((livS s).take j).flatMap (forcedAt s)).length ≤ 63 * 63 := fun j => by
    have h1 := flat_len (forcedAt s) 63 ((livS s).take j) fun o ho => by
      have := forcedAt_len hlt (mem_livS.mp (List.mem_of_mem_take ho))
      omega
    have h2 := livS_len s
    have h3 : ((livS s).take j).length ≤ 63 := by rw [List.length_take]; omega
    have h4 : 63 * ((livS s).take j).length ≤ 63 * 63 := Nat.mul_le_mul_left _ h3
    omega
  simp [b_Lpairs, e0, hcomp]
  refine OK.bnd (forL_ok (fun j r => ∃ x2 x3 : Option M, r = [some (.im (.tup (s.map vN))), some (.im (.lst ((((livS s).take j).flatMap (forcedAt s)).map prW))), x2, x3, none, none]) ⟨none, none, by simp⟩ ?_) ?_
  · rintro j w r hj ⟨x2, x3, rfl⟩
    obtain ⟨o, ho, rfl⟩ : ∃ o, (livS s)[j]? = some o ∧ w = vN o := by
      rw [List.getElem?_map] at hj
      obtain ⟨o, h1, h2⟩ := Option.map_eq_some_iff.mp hj
      exact ⟨o, h1, h2.symm⟩
    have hm := mem_livS.mp (List.mem_of_getElem? ho)
    have hb := spanS_lt hlt hm
    have hle := spanS_le s o
    have htk : (livS s).take (j + 1) = (livS s).take j ++ [o] := by rw [List.take_add_one, ho]; rfl
    have hmin := had_min hm
    have hmax := had_max hm
    have hhl : (hadS s o).length < 1000 := Nat.lt_of_le_of_lt (List.length_filter_le _ _) (by simp; omega)
    generalize hsp : spanS s o = sp at hb hle hmin hmax
    obtain ⟨f, l⟩ := sp
    simp only at hb hle hmin hmax
    have hfa : forcedAt s o = ((List.range' f (l + 1 - f)).filter fun p => p != o).map fun p => (p, o) := by unfold forcedAt; rw [hsp]
    have h1 : rOk (f : Int) = true := rOk_nat (by omega)
    have h2 : rOk ((l : Int) + 1) = true := rOk_of (by omega) (by omega)
    have h3 : ((l : Int) + 1 - (f : Int)).toNat = l + 1 - f := by omega
    have hc0 : ∀ r : Env, (∀ p q, cT (P.th (n - 1)) [4, 5] (.tp [.nm 4, .nm 5]) (.some (.cmp .eq (.var 5) (.var 2))) (.var 4) (.tup [vN p, vN q]) r = .ok (if q == o then some (vN p) else none) r) → compL (cT (P.th (n - 1)) [4, 5] (.tp [.nm 4, .nm 5]) (.some (.cmp .eq (.var 5) (.var 2))) (.var 4)) (enumFrom 0 (s.map vN)) r [] = .ok ((hadS s o).map vN) r := fun r hr => by
      rw [enum_vN, compL_if (enc := fun p => W.tup [vN p, vN (s.getD p 0)]) (fun p => s.getD p 0 == o) vN (fun p _ => hr p _) (by rw [List.length_range]; exact lim_le (by omega))]
      rfl
    have hc : ∀ r : Env, (∀ p, cT (P.th (n - 1)) [4] (.nm 4) (.some (.cmp .ne (.var 4) (.var 2))) (.tup (.cons (.var 4) (.cons (.var 2) .nil))) (vN p) r = .ok (if p != o then some (prW (p, o)) else none) r) → compL (cT (P.th (n - 1)) [4] (.nm 4) (.some (.cmp .ne (.var 4) (.var 2))) (.tup (.cons (.var 4) (.cons (.var 2) .nil)))) ((List.range' f (l + 1 - f)).map vN) r [] = .ok ((forcedAt s o).map prW) r := fun r hr => by
      rw [compL_if (enc := vN) (fun p => p != o) (fun p => prW (p, o)) (fun p _ => hr p) (by rw [List.length_range']; exact lim_le (by omega)), hfa, List.map_map]
      rfl
    have hlen : (((livS s).take j).flatMap (forcedAt s)).length + (forcedAt s o).length ≤ LIM := by
      have a := hfl (j + 1)
      rw [htk, List.flatMap_append, List.length_append] at a
      have : ([o].flatMap (forcedAt s)) = forcedAt s o := by simp
      rw [this] at a
      exact lim_le (by omega)
    have ha1 : binW .add (.lst ((hadS s o).map vN)) (.lst [vN o]) = some (.ls ((hadS s o ++ [o]).map vN)) := by
      rw [b_lsadd (by rw [List.length_map]; exact lim_le (by simp; omega))]
      simp
    have ha2 : binW .add (.lst ((((livS s).take j).flatMap (forcedAt s)).map prW)) (.lst ((forcedAt s o).map prW)) = some (.ls ((((livS s).take (j + 1)).flatMap (forcedAt s)).map prW)) := by
      rw [b_lsadd (by rw [List.length_map, List.length_map]; exact hlen), htk, List.flatMap_append]
      simp
    generalize (((livS s).take j).flatMap (forcedAt s)).map prW = W1 at ha2
    generalize (((livS s).take (j + 1)).flatMap (forcedAt s)).map prW = W2 at ha2
    generalize (forcedAt s o).map prW = W3 at ha2 hc
    generalize (hadS s o ++ [o]).map vN = W4 at ha1 hmin hmax
    generalize (hadS s o).map vN = W5 at ha1 hc0
    refine OK_gen fun Q hQ => ?_
    simp [fT]
    rw [hc0 _ (fun p q => by
      by_cases hp : q = o
      · subst hp; simp [cT]
      · simp [cT, hp])]
    simp [ha1, hmin, hmax, lit1, h1, h2, h3, upTo_range']
    rw [hc _ (fun p => by
      by_cases hp : p = o
      · subst hp; simp [cT]
      · simp [cT, hp, prW])]
    simp [ha2]
    exact hQ _ _ ⟨rfl, some (.im (vN o)), some (.im (.lst W4)), rfl⟩
  · rintro fl r ⟨rfl, x2, x3, rfl⟩
    have : (livS s).take ((livS s).map vN).length = livS s := by rw [List.length_map]; exact List.take_length
    simp [sortW_prs, this, forcedS, forcedU]
end
theorem filter_ne_len {l : List Nat} {o : Nat} (hn : l.Nodup) (ho : o ∈ l) : (l.filter fun p => p != o).length = l.length - 1 := by
  have h1 : l.countP (fun p => p == o) = 1 := by
    have := hn.count (a := o)
    rw [if_pos ho] at this
    exact this
  have h2 := List.length_eq_countP_add_countP (l := l) (fun p => p == o)
  have h3 : (l.filter fun p => p != o).length = l.countP fun p => p != o := List.countP_eq_length_filter.symm
  have h4 : l.countP (fun p => p != o) = l.countP fun a => decide ¬(a == o) = true := by
    congr 1
    funext p
    by_cases h : p = o <;> simp [h]
  rw [h3, h4]
  omega
theorem forcedAt_eq {s : List Nat} {o : Nat} : (forcedAt s o).length = (spanS s o).2 - (spanS s o).1 := by
  have hle := spanS_le s o
  unfold forcedAt
  rw [List.length_map, filter_ne_len List.nodup_range' (List.mem_range'_1.mpr ⟨by omega, by omega⟩), List.length_range']
  omega
/-- the fewest takings are those that are forced -/
theorem few_len (s : List Nat) : fewS s = (forcedS s).length := by
  unfold fewS forcedS forcedU
  rw [(sortQ_perm _).length_eq, List.length_flatMap]
  congr 1
  exact List.map_congr_left fun o _ => forcedAt_eq.symm
def farM (s : List Nat) : Int := match farS s with
  | x :: is => maxI x is
  | [] => 0
theorem start_0 : ∀ k, k < 25 → 0 < k → fewS (List.range k) = 0 ∧ forcedS (List.range k) = [] ∧ farM (List.range k) = 0 := by decide +kernel
section
variable {P : Pg} {n c : Nat} {m : M} {T : List W → W}
theorem far_sp (B : Has P 38 b_fewest_beats 1 3 []) (hn : 0 < n) (hT : isSq T) {s : List Nat} (h0 : 0 < s.length) (hs : s.length < 64) : (P.th n).fn 38 [.im (T (s.map vN))] = .ok (.im (.int (farM s))) [.im .non] := by
  cases h : farS s with
  | nil =>
    have : (farS s).length = s.length := by simp [farS]
    rw [h] at this
    simp at this
    omega
  | cons x is =>
    have e := beats_sp B hn hT hs h
    unfold farM
    rw [h]
    exact e
theorem farM_bi {s : List Nat} (h0 : 0 < s.length) : biW .maxl [.lst ((farS s).map W.int)] = some (.im (.int (farM s))) := by
  cases h : farS s with
  | nil =>
    have : (farS s).length = s.length := by simp [farS]
    rw [h] at this
    simp at this
    omega
  | cons x is =>
    rw [bi_maxl (x := x) (is := is) (by
      have := ints_enc (g := fun (i : Int) => i) (x :: is)
      rw [this, List.map_id'])]
    unfold farM
    rw [h]
theorem pd_prs {k : Nat} {l : List (Nat × Nat)} (h : l.length ≤ LIM) : PD (k + 2) (.lst (l.map prW)) := .lst (by simpa using h) fun w hw => by
  obtain ⟨p, _, rfl⟩ := List.mem_map.mp hw
  exact .tup (lim_le (by simp)) (by simp; exact ⟨.int _, .int _⟩)
structure Prog10 (P : Pg) : Prop where
  f : ProgF P
  be : Has P 38 b_fewest_beats 1 3 []
  pr : Has P 39 b_price 2 4 []
  take : Has P 502 (b_take 502) 2 5 [0]
  same : Has P 503 (b_same 503) 2 4 []
  ris : Has P 504 b_Lrising 2 5 [0]
  of_ : Has P 509 b_Lof 2 2 [0]
  pairs : Has P 589 b_Lpairs 1 6 []
theorem right_sp (B : Prog10 P) (BR : Has P 505 b_Lright 1 14 [0]) (hn : 10 < n) (hm : Bx 0 m) : ∃ m', (P.th n).fn 505 [m] = .ok (.im (.bl true)) [m'] := by
  have key : ∃ (v : M) (as : List M), (P.th n).fn 505 [m] = .ok v as ∧ ∃ (m' : M), v = .im (.bl true) ∧ as = [m'] := by
    refine fn_lk BR (by omega) rfl ?_
    have r4 : rOk 4 = true := by decide
    simp [b_Lright, r4]
    refine OK.bnd (forL_ok (fun j r => ∃ (m' : M) (l : Env), r = some m' :: l ∧ l.length = 13 ∧ Bx (200 * j) m') ⟨m, _, rfl, rfl, hm⟩ ?_) ?_
    · rintro j w r hj ⟨m', l, rfl, hl, hb⟩
      obtain ⟨x1, x2, x3, x4, x5, x6, x7, x8, x9, x10, x11, x12, x13, rfl⟩ := len13 hl
      have hj4 : j < 4 := by
        have := (List.getElem?_eq_some_iff.mp hj).1
        simpa [upTo] using this
      obtain ⟨t, m1, e1, d1, g1⟩ := take_sp (n := n - 1) B.take (by omega) hb (by omega) (s := 24) (by omega) (by omega)
      obtain ⟨q, hk, hq1, hq2⟩ : ∃ q : Nat, (1 : Int) + (t : Int) = (q : Int) ∧ 0 < q ∧ q ≤ 24 := ⟨1 + t, by omega, by omega, by omega⟩
      obtain ⟨s, m2, e2, d2, hs, g2⟩ := rising_sp (n := n - 1) B.ris B.take (by omega) (k := q) (by omega) (by omega) g1 (by omega)
      subst d2
      have hl' : s.length < 64 := by omega
      have p6 : powOk 10 6 = true := by decide
      have hr := rng_vN (k := s.length) (lim_le (by omega))
      have hr2 : rOk (s.length : Int) = true := rOk_nat (by omega)
      have hup : upTo 0 s.length = (List.range s.length).map vN := upTo_vN _
      obtain ⟨cs, m3, ec, hcs, g3⟩ : ∃ (cs : List Nat) (m3 : M), compL (cT (P.th (n - 1)) [6] (.nm 6) .none (.call 502 (.bor 0 (.val (.frz (.call 509 (.bor 0 (.val (.var 4) .nil)))) .nil)))) ((List.range s.length).map vN) [some m2, some (.im w), some (.im (.int s.length)), some (.im (.tup (s.map vN))), some (.im (.lst [.int 1, .int 2, .int 10, .int 1000000])), x5, none, x7, x8, x9, x10, x11, x12, x13] [] =
          .ok (cs.map vN) [some m3, some (.im w), some (.im (.int s.length)), some (.im (.tup (s.map vN))), some (.im (.lst [.int 1, .int 2, .int 10, .int 1000000])), x5, none, x7, x8, x9, x10, x11, x12, x13] ∧ cs.length = s.length ∧ Bx (200 * j + 1 + 3 * s.length + 2 * s.length) m3 := by
        obtain ⟨xs, r', e, m3, cs, rfl, rfl, h3, h4⟩ := compL_inv (f := cT (P.th (n - 1)) [6] (.nm 6) .none (.call 502 (.bor 0 (.val (.frz (.call 509 (.bor 0 (.val (.var 4) .nil)))) .nil)))) (ws := (List.range s.length).map vN) (fun i r acc => ∃ (m' : M) (cs : List Nat), r = [some m', some (.im w), some (.im (.int s.length)), some (.im (.tup (s.map vN))), some (.im (.lst [.int 1, .int 2, .int 10, .int 1000000])), x5, none, x7, x8, x9, x10, x11, x12, x13] ∧ acc = cs.map vN ∧ cs.length = i ∧ Bx (200 * j + 1 + 3 * s.length + 2 * i) m') (i := 0) (acc := []) ⟨m2, [], rfl, rfl, rfl, g2⟩ (by simp; exact lim_le (by omega)) (by
          rintro i wi r acc hi ⟨m', cs, rfl, rfl, h3, h4⟩
          have hi2 : i < s.length := by
            have := (List.getElem?_eq_some_iff.mp hi).1
            simpa using this
          obtain ⟨w1, m5, e5, d5, g5⟩ := of_sp (n := n - 1) B.of_ B.take (by omega) (.inl rfl) (ws := [.int 1, .int 2, .int 10, .int 1000000]) (by simp) (by simp) h4 (by omega)
          obtain ⟨z, rfl, hz1, hz2⟩ : ∃ z : Int, w1 = .int z ∧ 0 < z ∧ z ≤ 1000000 := by
            simp at d5
            rcases d5 with rfl | rfl | rfl | rfl
            · exact ⟨1, rfl, by omega, by omega⟩
            · exact ⟨2, rfl, by omega, by omega⟩
            · exact ⟨10, rfl, by omega, by omega⟩
            · exact ⟨1000000, rfl, by omega, by omega⟩
          obtain ⟨z2, m6, e6, d6, g6⟩ := take_sp (n := n - 1) B.take (by omega) g5 (by omega) (s := z) hz1 (by omega)
          refine OK_gen fun Q hQ => ?_
          simp [cT, e5, e6]
          exact hQ _ _ ⟨m6, cs ++ [z2], rfl, by simp [vN], by simp [h3], g6.up (by omega)⟩)
        exact ⟨cs, m3, e, by simpa using h3, by simpa using h4⟩
      have hsl := hs.lt
      have f1 := pairs_sp (n := n - 1) B.pairs (by omega) hl' hsl
      have f2 := forced_sp (n := n - 1) B.f (by omega) (.inr rfl) hl' hsl
      have f3 := forced_sp (n := n - 1) B.f (by omega) (.inl rfl) hl' hsl
      have f4 := few_sp (n := n - 1) B.f (by omega) (.inr rfl) hl'
      have f5 := few_sp (n := n - 1) B.f (by omega) (.inl rfl) hl'
      have f6 := price_sp (n := n - 1) B.f B.pr (by omega) (.inr rfl) (.inr rfl) hl' hsl hcs
      have f7 := price_sp (n := n - 1) B.f B.pr (by omega) (.inl rfl) (.inl rfl) hl' hsl hcs
      have f8 := far_sp (n := n - 1) B.be (by omega) (.inr rfl) hq1 hl'
      have hpl : (forcedS s).length ≤ 63 * 63 := forcedS_len hl' hsl
      have pf := pd_prs (k := 0) (l := forcedS s) (lim_le (by omega))
      have k1 := same_sp (n := n - 1) B.same (w := .lst [.lst ((forcedS s).map prW), .lst ((forcedS s).map prW)]) (k := 3) (.lst (by simp [lim_le]) (by simp [pf])) (by decide) (by omega)
      have k2 := same_sp (n := n - 1) B.same (w := .lst ((forcedS s).map prW)) (k := 2) pf (by decide) (by omega)
      refine OK_gen fun Q hQ0 => ?_
      simp [fT, e1, hk, e2, hr2, hup, b_pow p6, ec, f1]
      rw [enum_vN, compL_all (enc := fun p => W.tup [vN p, vN (s.getD p 0)]) (fun p => W.int (((((s.getD p 0 : Nat) : Int) - (p : Int)).natAbs : Nat) : Int)) (fun p _ => by
        generalize s.getD p 0 = o
        simp [cT, vN, natAbs_if]) (by rw [List.length_range]; exact lim_le (by omega))]
      have hfar : ((List.range s.length).map fun p => W.int (((((s.getD p 0 : Nat) : Int) - (p : Int)).natAbs : Nat) : Int)) = (farS s).map W.int := by
        simp only [farS, List.map_map]
        rfl
      rw [hfar]
      have f9 := farM_bi (s := s) hq1
      have f10 : pmOk [0] 1 = true := by decide
      have f11 : pmOk [1, 0] 2 = true := by decide
      have f12 := mut_append (ws := (forcedS s).map prW) (w := .str { cps := #[109, 111, 114, 101] }) (by rw [List.length_map]; exact lim_lt (by omega))
      simp [f9, f2, f3, f10, pmA, allR, k1, f12]
      rw [compL_all (enc := prW) (fun (p : Nat × Nat) => vN (cs.getD p.1 0)) (fun p hp => by
        have hp2 : p.1 < cs.length := by rw [hcs]; exact forcedS_lt hsl hp
        have hi : ixW (cs.map vN) (p.1 : Int) = some (vN (cs.getD p.1 0)) := ixW_nat (by rw [List.getElem?_map, List.getD_eq_getElem?_getD, List.getElem?_eq_getElem hp2]; rfl)
        simp [cT, prW, -ixW_cast, hi]) (lim_le (by omega))]
      have f13 := sum_N (fun (p : Nat × Nat) => cs.getD p.1 0) (forcedS s)
      simp only [List.getD_eq_getElem?_getD] at f6 f7 f13
      generalize ((forcedS s).map fun p => cs[p.1]?.getD 0).sum = cost at f6 f7 f13
      obtain ⟨z1, z2, z3⟩ := start_0 s.length (by omega) hq1
      have hrl : (List.range s.length).length < 64 := by rw [List.length_range]; exact hl'
      have hrlt : ∀ o ∈ List.range s.length, o < (List.range s.length).length := fun o ho => by rw [List.length_range]; exact List.mem_range.mp ho
      have y1 := few_sp (n := n - 1) B.f (by omega) (.inr rfl) hrl
      have y2 := forced_sp (n := n - 1) B.f (by omega) (.inr rfl) hrl hrlt
      have y3 := price_sp (n := n - 1) B.f B.pr (by omega) (.inr rfl) (.inr rfl) (cs := cs) hrl hrlt (by rw [List.length_range]; exact hcs)
      have y4 := far_sp (n := n - 1) B.be (by omega) (.inr rfl) (s := List.range s.length) (by rw [List.length_range]; exact hq1) hrl
      rw [z1] at y1
      rw [z2] at y2 y3
      rw [z3] at y4
      have k3 := same_sp (n := n - 1) B.same (w := .lst [.int (forcedS s).length, .int (forcedS s).length, vN cost, vN cost, .int (farM s), .int (farM s)]) (k := 1) (.lst (by simp [lim_le]) (by simp [PD.int, vN])) (by decide) (by omega)
      have k4 := same_sp (n := n - 1) B.same (w := .lst [.int 0, .lst [], .int 0, .int 0]) (k := 2) (.lst (by simp [lim_le]) (by simp [PD.int]; exact .lst (by simp) (by simp))) (by decide) (by omega)
      have hfl : vN (fewS s) = .int (forcedS s).length := by rw [few_len]; rfl
      rw [hfl] at f4 f5
      have l1 : ∀ a : Nat, a ≤ 8 → a ≤ LIM := fun a h => lim_le (by omega)
      simp [-bi_sum, f13, f4, f5, f6, f7, f8, f10, f11, pmA, allR, mut_append, b_lsmul, b_lsadd, k3, k2, f2, hr, y1, y2, y3, y4, ← lit0, k4]
      exact hQ0 _ _ ⟨rfl, m3, _, rfl, rfl, g3.up (by omega)⟩
    · rintro fl r ⟨rfl, m', l, rfl, hl, hb⟩
      simp [argsOf]
  obtain ⟨v, as, e, m', rfl, rfl⟩ := key
  exact ⟨m', e⟩
end
end K10
end Dn
-- A3
set_option maxRecDepth 100000
set_option maxHeartbeats 4000000
/-! No log is shorter than the forced ones. -/
namespace Dn
open PySem
theorem sub_sum {A : Type} [DecidableEq A] (f : A → Nat) : ∀ {l l' : List A}, l.Nodup → (∀ a ∈ l, a ∈ l') → (l.map f).sum ≤ (l'.map f).sum
  | [], _, _, _ => Nat.zero_le _
  | a :: l, l', hn, hs => by
    have h1 := List.nodup_cons.mp hn
    have hp := List.perm_cons_erase (hs a List.mem_cons_self)
    have h2 : ((l'.map f)).sum = f a + ((l'.erase a).map f).sum := by
      have := (hp.map f).sum_nat
      rw [this]; rfl
    have h3 := sub_sum f (l := l) (l' := l'.erase a) h1.2 fun b hb => by
      have hb' := hs b (List.mem_cons_of_mem _ hb)
      exact (List.mem_erase_of_ne (fun e => h1.1 (by rw [← e]; exact hb))).mpr hb'
    rw [List.map_cons, List.sum_cons, h2]
    omega
theorem sub_len {A : Type} [DecidableEq A] {l l' : List A} (hn : l.Nodup) (hs : ∀ a ∈ l, a ∈ l') : l.length ≤ l'.length := by
  have h := sub_sum (fun _ => 1) hn hs
  have e : ∀ l : List A, (l.map fun _ => 1).sum = l.length := fun l => by
    induction l with
    | nil => rfl
    | cons a l ih => rw [List.map_cons, List.sum_cons, ih, List.length_cons]; omega
  rw [e, e] at h
  exact h
theorem sub_perm {A : Type} [DecidableEq A] : ∀ {l l' : List A}, l.Nodup → (∀ a ∈ l, a ∈ l') → l'.length ≤ l.length → l.Perm l'
  | [], l', _, _, h => by
    have : l' = [] := List.eq_nil_of_length_eq_zero (by simpa using h)
    rw [this]
  | a :: l, l', hn, hs, h => by
    have h1 := List.nodup_cons.mp hn
    have hm := hs a List.mem_cons_self
    have hp := List.perm_cons_erase hm
    have hl := hp.length_eq
    rw [List.length_cons] at hl h
    refine List.Perm.trans (List.Perm.cons a (sub_perm h1.2 (fun b hb => ?_) (by omega))) hp.symm
    have hb' := hs b (List.mem_cons_of_mem _ hb)
    exact (List.mem_erase_of_ne (fun e => h1.1 (by rw [← e]; exact hb))).mpr hb'
theorem leN_iff {p q : Nat × Nat} : leN p q = true ↔ p.1 < q.1 ∨ (p.1 = q.1 ∧ p.2 ≤ q.2) := by
  unfold leN
  simp
theorem insQ_comm (a b : Nat × Nat) : ∀ l : List (Nat × Nat), insQ a (insQ b l) = insQ b (insQ a l)
  | [] => by
    show (if leN a b = true then [a, b] else b :: [a]) = (if leN b a = true then [b, a] else a :: [b])
    by_cases h1 : leN a b = true
    · by_cases h2 : leN b a = true
      · have : a = b := by
          rw [leN_iff] at h1 h2
          obtain ⟨a1, a2⟩ := a
          obtain ⟨b1, b2⟩ := b
          simp only at h1 h2
          congr 1 <;> omega
        subst this; rfl
      · rw [if_pos h1, if_neg h2]
    · have h2 : leN b a = true := by
        rw [leN_iff] at h1 ⊢
        omega
      rw [if_neg h1, if_pos h2]
  | y :: l => by
    have ih := insQ_comm a b l
    by_cases ha : leN a y = true
    · by_cases hb : leN b y = true
      · have e1 : insQ a (y :: l) = a :: y :: l := by rw [insQ, if_pos ha]
        have e2 : insQ b (y :: l) = b :: y :: l := by rw [insQ, if_pos hb]
        rw [e1, e2]
        have e3 : insQ a (b :: y :: l) = if leN a b = true then a :: b :: y :: l else b :: a :: y :: l := by rw [insQ, e1]
        have e4 : insQ b (a :: y :: l) = if leN b a = true then b :: a :: y :: l else a :: b :: y :: l := by rw [insQ, e2]
        rw [e3, e4]
        by_cases h1 : leN a b = true
        · by_cases h2 : leN b a = true
          · have : a = b := by
              rw [leN_iff] at h1 h2
              obtain ⟨a1, a2⟩ := a
              obtain ⟨b1, b2⟩ := b
              simp only at h1 h2
              congr 1 <;> omega
            subst this; rfl
          · rw [if_pos h1, if_neg h2]
        · have h2 : leN b a = true := by
            rw [leN_iff] at h1 ⊢
            omega
          rw [if_neg h1, if_pos h2]
      · have hba : ¬ leN b a = true := fun h => hb (by rw [leN_iff] at *; omega)
        have e1 : insQ a (y :: l) = a :: y :: l := by rw [insQ, if_pos ha]
        have e2 : insQ b (y :: l) = y :: insQ b l := by rw [insQ, if_neg hb]
        rw [e1, e2]
        rw [insQ, if_pos ha, insQ, if_neg hba, e2]
    · by_cases hb : leN b y = true
      · have hab : ¬ leN a b = true := fun h => ha (by rw [leN_iff] at *; omega)
        have e1 : insQ a (y :: l) = y :: insQ a l := by rw [insQ, if_neg ha]
        have e2 : insQ b (y :: l) = b :: y :: l := by rw [insQ, if_pos hb]
        rw [e1, e2]
        rw [insQ, if_neg hab, e1, insQ, if_pos hb]
      · have e1 : insQ a (y :: l) = y :: insQ a l := by rw [insQ, if_neg ha]
        have e2 : insQ b (y :: l) = y :: insQ b l := by rw [insQ, if_neg hb]
        rw [e1, e2, insQ, if_neg ha, insQ, if_neg hb, ih]
theorem sortQ_of {l l' : List (Nat × Nat)} (h : l.Perm l') : sortQ l = sortQ l' := by
  induction h with
  | nil => rfl
  | cons x _ ih =>
    show insQ x (sortQ _) = insQ x (sortQ _)
    rw [ih]
  | swap x y l => exact insQ_comm y x (sortQ l)
  | trans _ _ ih1 ih2 => exact ih1.trans ih2
theorem sortQ_idem (l : List (Nat × Nat)) : sortQ (sortQ l) = sortQ l := sortQ_of (sortQ_perm l)
theorem forced_nodup (s : List Nat) : (forcedS s).Nodup := by
  refine (sortQ_perm (forcedU s)).nodup_iff.mpr ?_
  unfold forcedU
  refine List.pairwise_flatMap.mpr ⟨fun o _ => ?_, ?_⟩
  · unfold forcedAt
    refine List.pairwise_map.mpr ((List.Pairwise.filter _ (List.pairwise_lt_range' (s := _) (n := _))).imp fun {a b} h e => ?_)
    have : a = b := congrArg Prod.fst e
    omega
  · refine (livS_up s).imp fun {a b} h x hx y hy e => ?_
    unfold forcedAt at hx hy
    obtain ⟨p, _, rfl⟩ := List.mem_map.mp hx
    obtain ⟨q, _, rfl⟩ := List.mem_map.mp hy
    have : a = b := congrArg Prod.snd e
    omega
section
variable {n : Nat} {log : List (Nat × Bool)}
theorem few_le (h : ∀ t ∈ log, nbS t < n) : fewS (orgS n log) ≤ log.length := by
  have h1 := sub_len (forced_nodup (orgS n log)) (l' := tookS [] log) fun a ha => forced_took h ha
  rw [tookS_len, ← K10.few_len] at h1
  exact h1
theorem least_iff (h : ∀ t ∈ log, nbS t < n) : decide (log.length = fewS (orgS n log)) = decide (sortQ (tookS [] log) = forcedS (orgS n log)) := by
  rw [decide_eq_decide]
  constructor
  · intro e
    have hp := sub_perm (forced_nodup (orgS n log)) (l' := tookS [] log) (fun a ha => forced_took h ha) (by rw [tookS_len, ← K10.few_len, e]; exact Nat.le_refl _)
    rw [← sortQ_of hp]
    exact sortQ_idem _
  · intro e
    have h2 := (sortQ_perm (tookS [] log)).length_eq
    rw [e, tookS_len, ← K10.few_len] at h2
    exact h2.symm
theorem cost_le (f : Nat × Nat → Nat) (h : ∀ t ∈ log, nbS t < n) : ((forcedS (orgS n log)).map f).sum ≤ ((tookS [] log).map f).sum := sub_sum f (forced_nodup _) fun a ha => forced_took h ha
theorem cost_eq (f : Nat × Nat → Nat) (h : ∀ t ∈ log, nbS t < n) (e : log.length = fewS (orgS n log)) : ((forcedS (orgS n log)).map f).sum = ((tookS [] log).map f).sum := by
  have hp := sub_perm (forced_nodup (orgS n log)) (l' := tookS [] log) (fun a ha => forced_took h ha) (by rw [tookS_len, ← K10.few_len, e]; exact Nat.le_refl _)
  exact (hp.map f).sum_nat
end
end Dn
-- A4
set_option maxRecDepth 100000
set_option maxHeartbeats 4000000
/-! Logs one behind the other. -/
namespace Dn
open PySem
section
variable {n : Nat} {a b : List (Nat × Bool)}
theorem nb_app (ha : ∀ t ∈ a, nbS t < n) (hb : ∀ t ∈ b, nbS t < n) : ∀ t ∈ a ++ b, nbS t < n := fun t h => by
  rcases List.mem_append.mp h with h | h
  · exact ha t h
  · exact hb t h
theorem cmp_org (ha : ∀ t ∈ a, nbS t < n) (hb : ∀ t ∈ b, nbS t < n) : cmpS (orgS n a) (orgS n b) = orgS n (a ++ b) := by
  refine ext_getD (by rw [cmpS_len, org_len, org_len]) fun x hx => ?_
  rw [cmpS_len, org_len] at hx
  rw [org_get (nb_app ha hb) hx, backS_append, cmpS, List.getD_eq_getElem?_getD, List.getElem?_map, List.getElem?_eq_getElem (by rw [org_len]; exact hx)]
  show (orgS n a).getD ((orgS n b)[x]'(by rw [org_len]; exact hx)) 0 = _
  have e : (orgS n b)[x]'(by rw [org_len]; exact hx) = backS b x := by
    rw [← org_get hb hx, List.getD_eq_getElem?_getD, List.getElem?_eq_getElem (by rw [org_len]; exact hx)]
    rfl
  rw [e, org_get ha (backS_lt hb hx)]
theorem liv_app (ha : ∀ t ∈ a, nbS t < n) (hb : ∀ t ∈ b, nbS t < n) {o : Nat} (ho : o ∈ livS (orgS n (a ++ b))) : o ∈ livS (orgS n a) := by
  obtain ⟨x, hx, e⟩ := getD_mem (mem_livS.mp ho)
  rw [org_len] at hx
  rw [org_get (nb_app ha hb) hx, backS_append] at e
  have hy := backS_lt hb hx
  rw [← e, ← org_get ha hy]
  exact mem_livS.mpr (mem_getD (by rw [org_len]; exact hy))
theorem fix_app (ha : ∀ t ∈ a, nbS t < n) (hb : ∀ t ∈ b, nbS t < n) {p : Nat} (h1 : p ∈ fixS (orgS n a)) (h2 : p ∈ fixS (orgS n b)) : p ∈ fixS (orgS n (a ++ b)) := by
  unfold fixS at *
  obtain ⟨p1, p2⟩ := List.mem_filter.mp h1
  obtain ⟨q1, q2⟩ := List.mem_filter.mp h2
  have hp : p < n := by
    have := List.mem_range.mp p1
    rwa [org_len] at this
  rw [org_get ha hp, beq_iff_eq] at p2
  rw [org_get hb hp, beq_iff_eq] at q2
  refine List.mem_filter.mpr ⟨by rw [List.mem_range, org_len]; exact hp, ?_⟩
  rw [org_get (nb_app ha hb) hp, backS_append, ← q2, beq_iff_eq]
  exact p2
/-- the forced ones of both, the latter's through the former -/
def pairsS (s t : List Nat) : List (Nat × Nat) := forcedS s ++ (forcedS t).map fun p => (p.1, s.getD p.2 0)
theorem forced_app (ha : ∀ t ∈ a, nbS t < n) (hb : ∀ t ∈ b, nbS t < n) : ∀ q ∈ forcedS (orgS n (a ++ b)), q ∈ pairsS (orgS n a) (orgS n b) := by
  rintro ⟨p, o⟩ h
  obtain ⟨x, hx, e, hp⟩ := forced_on.mp h
  rw [org_len] at hx
  rw [org_get (nb_app ha hb) hx, backS_append] at e
  have hy := backS_lt hb hx
  have hyo : (orgS n a).getD (backS b x) 0 = o := by rw [org_get ha hy]; exact e
  have hxy : (orgS n b).getD x 0 = backS b x := org_get hb hx
  generalize backS b x = y at hy hyo hxy
  have fst : ((y ≤ p ∧ p < o) ∨ (o < p ∧ p ≤ y)) → (p, o) ∈ pairsS (orgS n a) (orgS n b) := fun h => List.mem_append_left _ (forced_on.mpr ⟨y, by rw [org_len]; exact hy, hyo, h⟩)
  have snd : ((x ≤ p ∧ p < y) ∨ (y < p ∧ p ≤ x)) → (p, o) ∈ pairsS (orgS n a) (orgS n b) := fun h => List.mem_append_right _ (List.mem_map.mpr ⟨(p, y), forced_on.mpr ⟨x, by rw [org_len]; exact hx, hxy, h⟩, by rw [hyo]⟩)
  rcases hp with ⟨h1, h2⟩ | ⟨h1, h2⟩
  · rcases Nat.lt_or_ge p y with h | h
    · exact snd (.inl ⟨h1, h⟩)
    · exact fst (.inl ⟨h, h2⟩)
  · rcases Nat.lt_or_ge y p with h | h
    · exact snd (.inr ⟨h, h2⟩)
    · exact fst (.inr ⟨h1, h⟩)
theorem few_app (ha : ∀ t ∈ a, nbS t < n) (hb : ∀ t ∈ b, nbS t < n) : fewS (orgS n (a ++ b)) ≤ fewS (orgS n a) + fewS (orgS n b) := by
  have h := sub_len (forced_nodup _) (forced_app ha hb)
  rw [pairsS, List.length_append, List.length_map, ← K10.few_len, ← K10.few_len, ← K10.few_len] at h
  exact h
theorem far_at {s : List Nat} {p : Nat} (hp : p < s.length) : (((((s.getD p 0 : Nat) : Int) - (p : Int)).natAbs : Nat) : Int) ≤ K10.farM s := by
  have hm : (((((s.getD p 0 : Nat) : Int) - (p : Int)).natAbs : Nat) : Int) ∈ farS s := List.mem_map.mpr ⟨p, List.mem_range.mpr hp, rfl⟩
  unfold K10.farM
  cases hf : farS s with
  | nil => rw [hf] at hm; cases hm
  | cons x is =>
    rw [hf] at hm
    exact (maxI_mem is x).2 _ hm
theorem far_is {s : List Nat} (h : 0 < s.length) : ∃ p, p < s.length ∧ K10.farM s = (((((s.getD p 0 : Nat) : Int) - (p : Int)).natAbs : Nat) : Int) := by
  unfold K10.farM
  cases hf : farS s with
  | nil =>
    have : (farS s).length = s.length := by simp [farS]
    rw [hf] at this
    simp at this
    omega
  | cons x is =>
    have hm := (maxI_mem is x).1
    rw [← hf] at hm
    obtain ⟨p, hp, e⟩ := List.mem_map.mp hm
    exact ⟨p, List.mem_range.mp hp, e.symm⟩
theorem far_app (hn : 0 < n) (ha : ∀ t ∈ a, nbS t < n) (hb : ∀ t ∈ b, nbS t < n) : K10.farM (orgS n (a ++ b)) ≤ K10.farM (orgS n a) + K10.farM (orgS n b) := by
  obtain ⟨p, hp, e⟩ := far_is (s := orgS n (a ++ b)) (by rw [org_len]; exact hn)
  rw [org_len] at hp
  rw [e, org_get (nb_app ha hb) hp, backS_append]
  have hy := backS_lt hb hp
  have h1 := far_at (s := orgS n b) (p := p) (by rw [org_len]; exact hp)
  have h2 := far_at (s := orgS n a) (p := backS b p) (by rw [org_len]; exact hy)
  rw [org_get hb hp] at h1
  rw [org_get ha hy] at h2
  omega
/-- done many times -/
theorem back_many (log : List (Nat × Bool)) : ∀ (k x : Nat), backS (List.replicate k log).flatten x = itF (backS log) k x
  | 0, _ => rfl
  | k + 1, x => by
    rw [List.replicate_succ, List.flatten_cons, backS_append, back_many log k]
    rfl
theorem itF_congr {f g : Nat → Nat} (hl : ∀ p, p < n → f p < n) (h : ∀ p, p < n → f p = g p) : ∀ k p, p < n → itF f k p = itF g k p ∧ itF f k p < n
  | 0, p, hp => ⟨rfl, hp⟩
  | k + 1, p, hp => by
    obtain ⟨e, hlt⟩ := itF_congr hl h k p hp
    constructor
    · show f (itF f k p) = g (itF g k p)
      rw [← e, h _ hlt]
    · exact hl _ hlt
theorem org_many {log : List (Nat × Bool)} (h : ∀ t ∈ log, nbS t < n) (k : Nat) : orgS n (List.replicate k log).flatten = itS (orgS n log) (min k n) := by
  have hall : ∀ t ∈ (List.replicate k log).flatten, nbS t < n := fun t ht => by
    obtain ⟨l, hl, ht⟩ := List.mem_flatten.mp ht
    rw [List.eq_of_mem_replicate hl] at ht
    exact h t ht
  have hlt : ∀ p, p < n → backS log p < n := fun p hp => backS_lt h hp
  refine ext_getD (by rw [org_len, itS_len, org_len]) fun x hx => ?_
  rw [org_len] at hx
  rw [org_get hall hx, back_many, itS_itF, org_len, List.getD_eq_getElem?_getD, List.getElem?_map, List.getElem?_range hx]
  show itF (backS log) k x = itF (fun p => (orgS n log).getD p 0) (min k n) x
  rw [← (itF_congr hlt (fun p hp => (org_get h hp).symm) (min k n) x hx).1]
  rcases Nat.le_total k n with hk | hk
  · rw [Nat.min_eq_left hk]
  · rw [Nat.min_eq_right hk]
    rw [itF_still (n := n) hlt (fun p q hpq _ => backS_mono log hpq) hx (show n - 1 ≤ k by omega), itF_still (n := n) hlt (fun p q hpq _ => backS_mono log hpq) hx (show n - 1 ≤ n by omega)]
end
end Dn
-- Q7
set_option maxRecDepth 100000
set_option maxHeartbeats 4000000
/-! Drawn ears. -/
namespace Dn
open PySem
/-- _law_ears: 2, 7 names, 1 changed: 0 box_here 1 count 2 some 3 found 4 way 5 place 6 odd -/
def b_Lears : Ss := (.cons (.par [2, 3, 4] (.val (.frz (.lst (.cons (.cst (.str (⟨#[98, 111, 116, 104]⟩ : Str))) (.cons (.cst (.str (⟨#[108, 101, 102, 116]⟩ : Str))) (.cons (.cst (.str (⟨#[114, 105, 103, 104, 116]⟩ : Str))) (.cons (.cst (.str (⟨#[110, 111, 110, 101]⟩ : Str))) .nil)))))) (.val (.lst .nil) (.val (.call 502 (.bor 0 (.val (.cst (.int 4)) .nil))) .nil))))
  (.cons (.for_ (.nm 5) (.rng1 (.var 1))
  (.cons (.set (.nm 6) (.call 502 (.bor 0 (.val (.cst (.int 4)) .nil))))
  (.cons (.ex (.mut .append 3 [] (.cons (.idx (.var 2) (.idx (.lst (.cons (.cst (.int 0)) (.cons (.bin .mul (.var 6) (.bi .int (.cons (.cmp .eq (.call 502 (.bor 0 (.val (.cst (.int 4)) .nil))) (.cst (.int 0))) .nil))) (.cons (.var 6) (.cons (.var 6) .nil))))) (.var 4))) .nil)))
  .nil)))
  (.cons (.ret (.bi .tuple (.cons (.var 3) .nil)))
  .nil)))
theorem cutW_take (ws : List W) (k : Nat) : cutW ws none (some (k : Int)) = ws.take k := by
  unfold cutW
  rw [HT.sIx_none, HT.sIx_nat, List.drop_zero, Nat.sub_zero]
  rcases Nat.le_total k ws.length with h | h
  · rw [Nat.min_eq_left h]
  · rw [Nat.min_eq_right h, List.take_length, List.take_of_length_le h]
theorem cutW_drop (ws : List W) (k : Nat) : cutW ws (some (k : Int)) none = ws.drop k := by
  unfold cutW
  rw [HT.sIx_none, HT.sIx_nat]
  rcases Nat.le_total k ws.length with h | h
  · rw [Nat.min_eq_left h, List.take_of_length_le (by simp)]
  · rw [Nat.min_eq_right h, Nat.sub_self, List.take_zero, List.drop_eq_nil_of_le h]
theorem cutW_init (ws : List W) : cutW ws none (some (-1)) = ws.dropLast := by
  unfold cutW
  have h : HT.sIx ws.length ws.length (some (-1)) = ws.length - 1 := by
    show (if (-1 : Int) < 0 then ((-1 : Int) + (ws.length : Int)).toNat else min (-1 : Int).toNat ws.length) = _
    rw [if_pos (by decide)]
    omega
  have h0 : HT.sIx ws.length 0 none = 0 := rfl
  rw [h0, h, List.drop_zero, Nat.sub_zero, List.dropLast_eq_take]
/-- ears are words of four -/
def isEar (e : Str) : Prop := e = sB ∨ e = sL ∨ e = sR ∨ e = sN
theorem ears_sp {P : Pg} {n c : Nat} {m : M} (B : Has P 507 b_Lears 2 7 [0]) (B2 : Has P 502 (b_take 502) 2 5 [0]) (hn : 1 < n) {k : Nat} (hk2 : k ≤ 1000) (hm : Bx c m) (hc : c < 2 ^ 60) :
    ∃ (es : List Str) (m' : M), (P.th n).fn 507 [m, .im (.int k)] = .ok (.im (.tup (es.map .str))) [m', .im .non] ∧ es.length = k ∧ (∀ e ∈ es, isEar e) ∧ Bx (c + 1 + 2 * k) m' := by
  have key : ∃ (v : M) (as : List M), (P.th n).fn 507 [m, .im (.int k)] = .ok v as ∧ ∃ (es : List Str) (m' : M), v = .im (.tup (es.map .str)) ∧ as = [m', .im .non] ∧ es.length = k ∧ (∀ e ∈ es, isEar e) ∧ Bx (c + 1 + 2 * k) m' := by
    refine fn_lk B (by omega) rfl ?_
    obtain ⟨t, m1, e1, d1, g1⟩ := take_sp (n := n - 1) B2 (by omega) hm (by omega) (s := 4) (by omega) (by omega)
    have hr : rOk (k : Int) = true := rOk_nat (by omega)
    refine OK_gen fun Q hQ0 => ?_
    simp [b_Lears, hr, upTo_vN, e1, sB_eq, sL_eq, sR_eq]
    refine OK.bnd (forL_ok (fun j r => ∃ (m' : M) (l : List Str) (x y : Option M), r = [some m', some (.im (.int k)), some (.im (.lst [.str sB, .str sL, .str sR, .str sN])), some (.ls (l.map .str)), some (.im (.int t)), x, y] ∧ l.length = j ∧ j ≤ k ∧ (∀ e ∈ l, isEar e) ∧ Bx (c + 1 + 2 * j) m') ⟨m1, [], none, none, rfl, rfl, by omega, by simp, g1⟩ ?_) ?_
    · rintro j w r hj ⟨m', l, x, y, rfl, h1, h2, h3, h4⟩
      have hjk : j < k := by
        have := (List.getElem?_eq_some_iff.mp hj).1
        simpa using this
      obtain ⟨o, m2, e2, d2, g2⟩ := take_sp (n := n - 1) B2 (by omega) h4 (by omega) (s := 4) (by omega) (by omega)
      obtain ⟨z, m3, e3, d3, g3⟩ := take_sp (n := n - 1) B2 (by omega) g2 (by omega) (s := 4) (by omega) (by omega)
      have hmul : binW .mul (.int (o : Int)) (.int (if z = 0 then 1 else 0)) = some (.im (.int ((o : Int) * (if z = 0 then 1 else 0)))) := b_mul (mul_l (by omega) (by omega))
      obtain ⟨q, hq, hq4⟩ : ∃ q : Nat, ([W.int 0, W.int ((o : Int) * (if z = 0 then 1 else 0)), W.int o, W.int o] : List W)[t]? = some (.int (q : Int)) ∧ q < 4 := by
        rcases (by omega : t = 0 ∨ t = 1 ∨ t = 2 ∨ t = 3) with rfl | rfl | rfl | rfl
        · exact ⟨0, rfl, by omega⟩
        · by_cases hz : z = 0
          · exact ⟨o, by simp [hz], by omega⟩
          · exact ⟨0, by simp [hz], by omega⟩
        · exact ⟨o, rfl, by omega⟩
        · exact ⟨o, rfl, by omega⟩
      obtain ⟨e, he, hie⟩ : ∃ e, ([W.str sB, W.str sL, W.str sR, W.str sN] : List W)[q]? = some (.str e) ∧ isEar e := by
        rcases (by omega : q = 0 ∨ q = 1 ∨ q = 2 ∨ q = 3) with rfl | rfl | rfl | rfl
        · exact ⟨sB, rfl, .inl rfl⟩
        · exact ⟨sL, rfl, .inr (.inl rfl)⟩
        · exact ⟨sR, rfl, .inr (.inr (.inl rfl))⟩
        · exact ⟨sN, rfl, .inr (.inr (.inr rfl))⟩
      have hL : (l.map W.str).length < LIM := by rw [List.length_map]; exact lim_lt (by omega)
      have hap := mut_append (w := .str e) hL
      refine OK_gen fun Q hQ => ?_
      simp [fT, e2, e3, hmul, hq, he, hap]
      exact hQ _ _ ⟨rfl, m3, l ++ [e], _, _, by rw [List.map_append]; rfl, by simp [h1], by omega, fun x hx => by
        rcases List.mem_append.mp hx with hx | hx
        · exact h3 x hx
        · have : x = e := by simpa using hx
          rw [this]; exact hie, g3.up (by omega)⟩
    · rintro fl r ⟨rfl, m', l, x, y, rfl, h1, h2, h3, h4⟩
      simp
      exact hQ0 _ _ ⟨_, [m', .im .non], rfl, by simp [argsOf], l, m', rfl, rfl, by simpa using h1, h3, by simpa using h4⟩
  obtain ⟨v, as, e, es, m', rfl, rfl, h⟩ := key
  exact ⟨es, m', e, h⟩
end Dn
-- Q8
set_option maxRecDepth 100000
set_option maxHeartbeats 4000000
/-! Logs drawn by laws; their own steps. -/
namespace Dn
open PySem
/-- _law_lets: 1, 4 names, 0 changed: 0 ears_here 1 found 2 place 3 ear -/
def b_Llets : Ss := (.cons (.set (.nm 1) (.frz (.lst .nil)))
  (.cons (.for_ (.tp [(.nm 2), (.nm 3)]) (.enum (.var 0))
  (.cons (.set (.nm 1) (.frz (.bin .add (.var 1) (.bin .mul (.lst (.cons (.tup (.cons (.var 2) (.cons (.cst (.str (⟨#[108, 101, 102, 116]⟩ : Str))) .nil))) .nil)) (.bi .int (.cons (.con (.cmp .gt (.var 2) (.cst (.int 0))) (.cmp .in_ (.var 3) (.tup (.cons (.cst (.str (⟨#[98, 111, 116, 104]⟩ : Str))) (.cons (.cst (.str (⟨#[108, 101, 102, 116]⟩ : Str))) .nil))))) .nil))))))
  (.cons (.set (.nm 1) (.frz (.bin .add (.var 1) (.bin .mul (.lst (.cons (.tup (.cons (.var 2) (.cons (.cst (.str (⟨#[114, 105, 103, 104, 116]⟩ : Str))) .nil))) .nil)) (.bi .int (.cons (.con (.cmp .lt (.bin .add (.var 2) (.cst (.int 1))) (.bi .len (.cons (.var 0) .nil))) (.cmp .in_ (.var 3) (.tup (.cons (.cst (.str (⟨#[98, 111, 116, 104]⟩ : Str))) (.cons (.cst (.str (⟨#[114, 105, 103, 104, 116]⟩ : Str))) .nil))))) .nil))))))
  .nil)))
  (.cons (.retv 1)
  .nil)))
/-- _law_log: 3, 5 names, 1 changed: 0 box_here 1 ears_here 2 size 3 lets_here 4 turn -/
def b_Llog : Ss := (.cons (.set (.nm 3) (.frz (.call 508 (.val (.var 1) .nil))))
  (.cons (.ret (.comp [4] (.nm 4) (.rng1 (.bin .mul (.call 502 (.bor 0 (.val (.frz (.bin .add (.var 2) (.cst (.int 1)))) .nil))) (.bi .int (.cons (.cmp .ne (.var 3) (.lst .nil)) .nil)))) .none (.call 509 (.bor 0 (.val (.var 3) .nil)))))
  .nil))
/-- what ears let, place by place -/
def letsAt (es : List Str) (p : Nat) : List (Nat × Bool) := (if (decide (0 < p) && hearS (es.getD p sN) true) = true then [(p, true)] else []) ++ (if (decide (p + 1 < es.length) && hearS (es.getD p sN) false) = true then [(p, false)] else [])
def letsS (es : List Str) : List (Nat × Bool) := (List.range es.length).flatMap (letsAt es)
theorem letsAt_len (es : List Str) (p : Nat) : (letsAt es p).length ≤ 2 := by
  unfold letsAt
  split <;> split <;> simp
theorem lets_let {es : List Str} {t : Nat × Bool} (h : t ∈ letsS es) : LetT es t := by
  obtain ⟨p, hp, ht⟩ := List.mem_flatMap.mp h
  have hp' := List.mem_range.mp hp
  unfold letsAt at ht
  rcases List.mem_append.mp ht with ht | ht
  · split at ht
    · rename_i hc
      simp only [Bool.and_eq_true, decide_eq_true_eq] at hc
      have : t = (p, true) := by simpa using ht
      subst this
      exact ⟨hp', by simp only [if_true]; exact hc.1, hc.2⟩
    · cases ht
  · split at ht
    · rename_i hc
      simp only [Bool.and_eq_true, decide_eq_true_eq] at hc
      have : t = (p, false) := by simpa using ht
      subst this
      exact ⟨hp', by simp only [Bool.false_eq_true, if_false]; exact hc.1, hc.2⟩
    · cases ht
theorem mul_one {w : W} (b : Bool) : binW .mul (.lst [w]) (.int (if b = true then 1 else 0)) = some (.ls (if b = true then [w] else [])) := by
  cases b
  · show binW .mul (.lst [w]) (.int 0) = _
    rw [b_lsmul (ws := [w]) (k := 0) (by decide) (by decide) (lim_le (show 1 * 0 ≤ 1000000 by decide))]; rfl
  · show binW .mul (.lst [w]) (.int 1) = _
    rw [b_lsmul (ws := [w]) (k := 1) (by decide) (by decide) (lim_le (show 1 * 1 ≤ 1000000 by decide))]; rfl
theorem pd_tk {k : Nat} (t : Nat × Bool) : PD (k + 1) (tkW t) := .tup (lim_le (by simp)) (by simp; exact ⟨.int _, .str _ (ok_sd _)⟩)
theorem pd_tks {k : Nat} {l : List (Nat × Bool)} (h : l.length ≤ LIM) : PD (k + 2) (.lst (l.map tkW)) := .lst (by simpa using h) fun w hw => by
  obtain ⟨t, _, rfl⟩ := List.mem_map.mp hw
  exact pd_tk t
theorem eqW_nil {n : Nat} {ws : List W} (h : PD n (.lst ws)) (hn : n ≤ 60) : eqW (.lst ws) (.lst []) = some ws.isEmpty := by
  obtain ⟨d, g1, g2, _⟩ := h.shaped hn
  obtain ⟨d2, g3, g4, _⟩ := (PD.lst (n := 0) (ws := []) (by simp) (by simp)).shaped (by decide)
  unfold eqW
  rw [g1, g3]
  simp only [g2, g4, Bool.and_self, if_true, Option.some.injEq]
  cases g3
  simp only [W.toD] at g1
  obtain ⟨ds, h1, rfl⟩ := Option.map_eq_some_iff.mp g1
  cases ws with
  | nil => cases h1; rfl
  | cons w ws =>
    rw [W.toDs] at h1
    cases ds with
    | nil =>
      revert h1
      cases w.toD <;> cases W.toDs ws <;> simp
    | cons d ds => rfl
section
variable {P : Pg} {n c : Nat} {m : M} {T : List W → W}
theorem of_sp (B : Has P 509 b_Lof 2 2 [0]) (B2 : Has P 502 (b_take 502) 2 5 [0]) (hn : 1 < n) (hT : isSq T) {ws : List W} (h0 : 0 < ws.length) (h1 : ws.length ≤ 1000000) (hm : Bx c m) (hc : c < 2 ^ 60) :
    ∃ (w : W) (m' : M), (P.th n).fn 509 [m, .im (T ws)] = .ok (.im w) [m', .im .non] ∧ w ∈ ws ∧ Bx (c + 1) m' := by
  have key : ∃ (v : M) (as : List M), (P.th n).fn 509 [m, .im (T ws)] = .ok v as ∧ ∃ (w : W) (m' : M), v = .im w ∧ as = [m', .im .non] ∧ w ∈ ws ∧ Bx (c + 1) m' := by
    refine fn_lk B (by omega) rfl ?_
    obtain ⟨t, m1, e1, d1, g1⟩ := take_sp (n := n - 1) B2 (by omega) hm (by omega) (s := (ws.length : Int)) (by omega) (by omega)
    have ht : t < ws.length := by omega
    have hi : ixW ws (t : Int) = some ws[t] := ixW_nat (List.getElem?_eq_getElem ht)
    refine OK_gen fun Q hQ => ?_
    rcases hT with rfl | rfl <;> (simp [b_Lof, e1, -ixW_cast, hi]; exact hQ _ _ ⟨_, [m1, .im .non], rfl, by simp [argsOf], ws[t], m1, rfl, rfl, List.getElem_mem ht, g1⟩)
  obtain ⟨v, as, e, w, m', rfl, rfl, h⟩ := key
  exact ⟨w, m', e, h⟩
theorem lets_sp (B : Has P 508 b_Llets 1 4 []) (hn : 0 < n) {es : List Str} (hl : es.length ≤ 1000) : (P.th n).fn 508 [.im (.tup (es.map .str))] = .ok (.im (.lst ((letsS es).map tkW))) [.im .non] := by
  refine fn_ok B (by omega) rfl ?_
  have hen : enumFrom 0 (es.map W.str) = (List.range es.length).map fun p => W.tup [vN p, .str (es.getD p sN)] := by
    rw [enum_enc]
    refine List.ext_getElem (by simp) fun i h1 h2 => ?_
    have h3 : i < es.length := by simpa using h2
    simp only [List.getElem_map, List.getElem_zipIdx, List.getElem_range, Nat.zero_add]
    rw [List.getD_eq_getElem?_getD, List.getElem?_eq_getElem h3]
    rfl
  simp [b_Llets, hen]
  refine OK.bnd (forL_ok (fun j r => ∃ x y : Option M, r = [some (.im (.tup (es.map .str))), some (.im (.lst (((List.range j).flatMap (letsAt es)).map tkW))), x, y]) ⟨none, none, rfl⟩ ?_) ?_
  · rintro j w r hj ⟨x, y, rfl⟩
    have hjl : j < es.length := by
      have := (List.getElem?_eq_some_iff.mp hj).1
      simpa using this
    have hw : w = W.tup [vN j, .str (es.getD j sN)] := by
      rw [List.getElem?_map, List.getElem?_range hjl] at hj
      exact (Option.some.inj hj).symm
    subst hw
    have hlen : ((List.range j).flatMap (letsAt es)).length ≤ 2 * j := by
      have := flat_len (letsAt es) 2 (List.range j) fun p _ => letsAt_len es p
      rw [List.length_range] at this
      exact this
    have hsucc : (List.range (j + 1)).flatMap (letsAt es) = (List.range j).flatMap (letsAt es) ++ letsAt es j := by
      rw [List.range_succ, List.flatMap_append]; simp
    rw [hsucc]
    generalize (List.range j).flatMap (letsAt es) = done at hlen
    have hla : letsAt es j = (if (decide (0 < j) && hearS (es.getD j sN) true) = true then [(j, true)] else []) ++ (if (decide (j + 1 < es.length) && hearS (es.getD j sN) false) = true then [(j, false)] else []) := rfl
    rw [hla]
    clear hsucc hla
    have i1 := inT_2 (es.getD j sN) true
    have i2 := inT_2 (es.getD j sN) false
    rw [sd_L] at i1
    rw [sd_R] at i2
    generalize es.getD j sN = e at i1 i2
    have hv : vN j = .int (j : Int) := rfl
    have b1 : ∀ r : Env, getM r 2 = some (.im (.int (j : Int))) → getM r 3 = some (.im (.str e)) → r.length = 4 → evE (P.th (n - 1)) (.bi .int (.cons (.con (.cmp .gt (.var 2) (.cst (.int 0))) (.cmp .in_ (.var 3) (.tup (.cons (.cst (.str sB)) (.cons (.cst (.str sL)) .nil))))) .nil)) r = .ok (.im (.int (if (decide (0 < j) && hearS e true) = true then 1 else 0))) r := fun r g2 g3 hr => by
      obtain ⟨x0, x1, x2, x3, rfl⟩ := len4 hr
      simp at g2 g3
      subst g2 g3
      by_cases h : 0 < j
      · simp [h, i1]
      · simp [h]
    have b2 : ∀ r : Env, getM r 0 = some (.im (.tup (es.map .str))) → getM r 2 = some (.im (.int (j : Int))) → getM r 3 = some (.im (.str e)) → r.length = 4 → evE (P.th (n - 1)) (.bi .int (.cons (.con (.cmp .lt (.bin .add (.var 2) (.cst (.int 1))) (.bi .len (.cons (.var 0) .nil))) (.cmp .in_ (.var 3) (.tup (.cons (.cst (.str sB)) (.cons (.cst (.str sR)) .nil))))) .nil)) r = .ok (.im (.int (if (decide (j + 1 < es.length) && hearS e false) = true then 1 else 0))) r := fun r g0 g2 g3 hr => by
      obtain ⟨x0, x1, x2, x3, rfl⟩ := len4 hr
      simp at g0 g2 g3
      subst g0 g2 g3
      by_cases h : j + 1 < es.length
      · have h' : (j : Int) + 1 < (es.length : Int) := by omega
        simp [h, h', i2]
      · have h' : ¬ (j : Int) + 1 < (es.length : Int) := by omega
        simp [h, h']
    generalize (decide (0 < j) && hearS e true) = c1 at b1
    generalize (decide (j + 1 < es.length) && hearS e false) = c2 at b2
    have a1 : binW .add (.lst (done.map tkW)) (.lst (if c1 = true then [.tup [.int (j : Int), .str sL]] else [])) = some (.ls ((done ++ if c1 = true then [(j, true)] else []).map tkW)) := by
      rw [b_lsadd (by rw [List.length_map]; refine lim_le ?_; split <;> simp <;> omega)]
      cases c1 <;> simp <;> rfl
    have a2 : binW .add (.lst ((done ++ if c1 = true then [(j, true)] else []).map tkW)) (.lst (if c2 = true then [.tup [.int (j : Int), .str sR]] else [])) = some (.ls ((done ++ ((if c1 = true then [(j, true)] else []) ++ if c2 = true then [(j, false)] else [])).map tkW)) := by
      rw [b_lsadd (by rw [List.length_map, List.length_append]; refine lim_le ?_; split <;> split <;> simp <;> omega)]
      cases c1 <;> cases c2 <;> simp <;> rfl
    generalize (done ++ ((if c1 = true then [(j, true)] else []) ++ if c2 = true then [(j, false)] else [])).map tkW = W2 at a2
    generalize (done ++ if c1 = true then [(j, true)] else []).map tkW = W1 at a1 a2
    generalize done.map tkW = W0 at a1
    refine OK_gen fun Q hQ => ?_
    simp [fT, hv, sB_eq, sL_eq, sR_eq, -eE_bi, b1, b2, mul_one, a1, a2]
    exact hQ _ _ ⟨rfl, some (.im (.int (j : Int))), some (.im (.str e)), rfl⟩
  · rintro fl r ⟨rfl, x, y, rfl⟩
    rw [List.length_map, List.length_range]
    simp
    rfl
end
end Dn
-- Q9
set_option maxRecDepth 100000
set_option maxHeartbeats 4000000
/-! Logs drawn; a law's own taking. -/
namespace Dn
open PySem
/-- _law_step: 2, 4 names, 0 changed: 0 here 1 taking 2 place 3 side -/
def b_Lstep : Ss := (.cons (.set (.tp [(.nm 2), (.nm 3)]) (.var 1))
  (.cons (.ret (.bin .add (.bin .add (.slc (.var 0) .none (.some (.var 2))) (.tup (.cons (.idx (.var 0) (.bin .add (.var 2) (.idx (.lst (.cons (.cst (.int 1)) (.cons (.neg (.cst (.int 1))) .nil))) (.bi .int (.cons (.cmp .eq (.var 3) (.cst (.str (⟨#[108, 101, 102, 116]⟩ : Str)))) .nil))))) .nil))) (.slc (.var 0) (.some (.bin .add (.var 2) (.cst (.int 1)))) .none)))
  .nil))
/-- _law_led: 2, 3 names, 0 changed: 0 here 1 log_here 2 taking -/
def b_Lled : Ss := (.cons (.for_ (.nm 2) (.seq (.var 1))
  (.cons (.set (.nm 0) (.frz (.call 510 (.val (.var 0) (.val (.var 2) .nil)))))
  .nil))
  (.cons (.retv 0)
  .nil))
/-- _law_took: 2, 5 names, 0 changed: 0 many 1 log_here 2 here 3 found 4 taking -/
def b_Ltook : Ss := (.cons (.par [2, 3] (.val (.rg1 true (.var 0)) (.val (.lst .nil) .nil)))
  (.cons (.for_ (.nm 4) (.seq (.var 1))
  (.cons (.set (.nm 2) (.frz (.call 510 (.val (.var 2) (.val (.var 4) .nil)))))
  (.cons (.ex (.mut .append 3 [] (.cons (.tup (.cons (.idx (.var 4) (.cst (.int 0))) (.cons (.idx (.var 2) (.idx (.var 4) (.cst (.int 0)))) .nil))) .nil)))
  .nil)))
  (.cons (.ret (.tup (.cons (.var 2) (.cons (.var 3) .nil))))
  .nil)))
section
variable {P : Pg} {n c : Nat} {m : M} {T : List W → W}
theorem log_sp (B : Has P 512 b_Llog 3 5 [0]) (B1 : Has P 508 b_Llets 1 4 []) (B2 : Has P 509 b_Lof 2 2 [0]) (B3 : Has P 502 (b_take 502) 2 5 [0]) (hn : 2 < n) {es : List Str} (hl : es.length ≤ 1000) (hm : Bx c m) (hc : c < 2 ^ 59) {k : Nat} (hk : k ≤ 1000) :
    ∃ (log : List (Nat × Bool)) (m' : M), (P.th n).fn 512 [m, .im (.tup (es.map .str)), .im (.int k)] = .ok (.ls (log.map tkW)) [m', .im .non, .im .non] ∧ log.length ≤ k ∧ (∀ t ∈ log, LetT es t) ∧ Bx (c + 1 + k) m' := by
  have key : ∃ (v : M) (as : List M), (P.th n).fn 512 [m, .im (.tup (es.map .str)), .im (.int k)] = .ok v as ∧ ∃ (log : List (Nat × Bool)) (m' : M), v = .ls (log.map tkW) ∧ as = [m', .im .non, .im .non] ∧ log.length ≤ k ∧ (∀ t ∈ log, LetT es t) ∧ Bx (c + 1 + k) m' := by
    refine fn_lk B (by omega) rfl ?_
    obtain ⟨t, m1, e1, d1, g1⟩ := take_sp (n := n - 1) B3 (by omega) hm (by omega) (s := (k : Int) + 1) (by omega) (by omega)
    have el := lets_sp (n := n - 1) B1 (by omega) hl
    have hll : (letsS es).length ≤ 2000 := by
      have := flat_len (letsAt es) 2 (List.range es.length) fun p _ => letsAt_len es p
      rw [List.length_range] at this
      exact Nat.le_trans this (by omega)
    have hlt : ∀ t ∈ letsS es, LetT es t := fun t h => lets_let h
    have e0 := eqW_nil (pd_tks (k := 0) (l := letsS es) (lim_le (by omega))) (by decide)
    generalize letsS es = ls at el hll hlt e0
    obtain ⟨j, hj, hjk, hj0⟩ : ∃ j : Nat, binW .mul (.int (t : Int)) (.int (if ls.map tkW = [] then 0 else 1)) = some (.im (.int (j : Int))) ∧ j ≤ k ∧ (0 < j → 0 < ls.length) := by
      cases ls with
      | nil => exact ⟨0, by rw [List.map_nil, if_pos rfl, b_mul (mul_l (by omega) (by omega)), Int.mul_zero]; rfl, by omega, fun h => absurd h (by omega)⟩
      | cons x ls => exact ⟨t, by rw [if_neg (by simp), b_mul (mul_l (by omega) (by omega)), Int.mul_one], by omega, fun _ => by simp⟩
    have hrj : rOk (j : Int) = true := rOk_nat (by omega)
    have hup : upTo 0 j = (List.range j).map vN := upTo_vN j
    have ec : ∀ x4 : Option M, ∃ (log : List (Nat × Bool)) (m' : M), compL (cT (P.th (n - 1)) [4] (.nm 4) .none (.call 509 (.bor 0 (.val (.var 3) .nil)))) ((List.range j).map vN) [some m1, some (.im (.tup (es.map .str))), some (.im (.int k)), some (.im (.lst (ls.map tkW))), none] [] = .ok (log.map tkW) [some m', some (.im (.tup (es.map .str))), some (.im (.int k)), some (.im (.lst (ls.map tkW))), none] ∧ log.length = j ∧ (∀ t ∈ log, LetT es t) ∧ Bx (c + 1 + j) m' := fun x4 => by
      obtain ⟨xs, r', e, m3, log, rfl, rfl, h3, h4, h5⟩ := compL_inv (f := cT (P.th (n - 1)) [4] (.nm 4) .none (.call 509 (.bor 0 (.val (.var 3) .nil)))) (ws := (List.range j).map vN) (fun i r acc => ∃ (m' : M) (log : List (Nat × Bool)), r = [some m', some (.im (.tup (es.map .str))), some (.im (.int k)), some (.im (.lst (ls.map tkW))), none] ∧ acc = log.map tkW ∧ log.length = i ∧ (∀ t ∈ log, LetT es t) ∧ Bx (c + 1 + i) m') (i := 0) (acc := []) ⟨m1, [], rfl, rfl, rfl, by simp, g1⟩ (by simp; exact lim_le (by omega)) (by
        rintro i wi r acc hi ⟨m', log, rfl, rfl, h3, h4, h5⟩
        have hi2 : i < j := by
          have := (List.getElem?_eq_some_iff.mp hi).1
          simpa using this
        obtain ⟨w1, m5, e5, d5, g5⟩ := of_sp (n := n - 1) B2 B3 (by omega) (.inl rfl) (ws := ls.map tkW) (by rw [List.length_map]; exact hj0 (by omega)) (by rw [List.length_map]; omega) h5 (by omega)
        obtain ⟨u, hu, rfl⟩ := List.mem_map.mp d5
        refine OK_gen fun Q hQ => ?_
        simp [cT, e5]
        exact hQ _ _ ⟨m5, log ++ [u], rfl, by simp, by simp [h3], fun x hx => by
          rcases List.mem_append.mp hx with hx | hx
          · exact h4 x hx
          · have : x = u := by simpa using hx
            rw [this]; exact hlt u hu, g5.up (by omega)⟩)
      exact ⟨log, m3, e, by simpa using h3, h4, by simpa using h5⟩
    obtain ⟨log, m2, ec, c1, c2, c3⟩ := ec none
    refine OK_gen fun Q hQ => ?_
    simp [b_Llog, el, e1, e0, -List.isEmpty_map, -List.map_eq_nil_iff] 
    simp only [hj]
    simp [hrj, hup, ec]
    exact hQ _ _ ⟨_, [m2, .im .non, .im .non], rfl, by simp [argsOf], log, m2, rfl, rfl, by omega, c2, c3.up (by omega)⟩
  obtain ⟨v, as, e, log, m', rfl, rfl, h⟩ := key
  exact ⟨log, m', e, h⟩
theorem stepl_sp (B : Has P 510 b_Lstep 2 4 []) (hn : 0 < n) {ws : List W} {t : Nat × Bool} (h1 : t.1 < ws.length) (h2 : if t.2 then 0 < t.1 else t.1 + 1 < ws.length) (hl : ws.length ≤ 1000) :
    (P.th n).fn 510 [.im (.tup ws), .im (tkW t)] = .ok (.im (.tup (stepW ws t))) [.im .non, .im .non] := by
  refine fn_ok B (by omega) rfl ?_
  obtain ⟨p, b⟩ := t
  have h1' : p < ws.length := h1
  have hcut1 : cutW ws none (some (p : Int)) = ws.take p := cutW_take ws p
  have hcut2 : cutW ws (some ((p : Int) + 1)) none = ws.drop (p + 1) := cutW_drop ws (p + 1)
  have hst : stepW ws (p, b) = ws.take p ++ [ws.getD (nbS (p, b)) .non] ++ ws.drop (p + 1) := by
    unfold stepW
    rw [List.set_eq_take_append_cons_drop, if_pos h1', List.append_assoc]
    rfl
  have hvp : vN p = .int (p : Int) := rfl
  rw [hst]
  cases b with
  | true =>
    have h2' : 0 < p := by simpa using h2
    have hi : ixW ws ((p : Int) + -1) = some (ws.getD (nbS (p, true)) .non) := by
      rw [show (p : Int) + -1 = ((p - 1 : Nat) : Int) by omega, ixW_cast, List.getD_eq_getElem?_getD]
      show ws[p - 1]? = some (ws[p - 1]?.getD .non)
      rw [List.getElem?_eq_getElem (by omega)]; rfl
    generalize ws.getD (nbS (p, true)) .non = w at hi
    have a1 : binW .add (.tup (ws.take p)) (.tup [w]) = some (.im (.tup (ws.take p ++ [w]))) := b_tupadd (lim_le (by simp; omega))
    have a2 : binW .add (.tup (ws.take p ++ [w])) (.tup (ws.drop (p + 1))) = some (.im (.tup (ws.take p ++ [w] ++ ws.drop (p + 1)))) := b_tupadd (lim_le (by simp; omega))
    simp [b_Lstep, tkW, sL_eq, hvp, hcut1, eqW_sdL, -ixW_cast, -b_add]
    simp [hi, a1, a2, hcut2, -ixW_cast]
  | false =>
    have h2' : p + 1 < ws.length := by simpa using h2
    have hi : ixW ws ((p : Int) + 1) = some (ws.getD (nbS (p, false)) .non) := by
      rw [show (p : Int) + 1 = ((p + 1 : Nat) : Int) by omega, ixW_cast, List.getD_eq_getElem?_getD]
      show ws[p + 1]? = some (ws[p + 1]?.getD .non)
      rw [List.getElem?_eq_getElem (by omega)]; rfl
    generalize ws.getD (nbS (p, false)) .non = w at hi
    have a1 : binW .add (.tup (ws.take p)) (.tup [w]) = some (.im (.tup (ws.take p ++ [w]))) := b_tupadd (lim_le (by simp; omega))
    have a2 : binW .add (.tup (ws.take p ++ [w])) (.tup (ws.drop (p + 1))) = some (.im (.tup (ws.take p ++ [w] ++ ws.drop (p + 1)))) := b_tupadd (lim_le (by simp; omega))
    simp [b_Lstep, tkW, sL_eq, hvp, hcut1, eqW_sdL, -ixW_cast, -b_add]
    simp [hi, a1, a2, hcut2, -ixW_cast]
end
end Dn
-- K78
set_option maxRecDepth 100000
set_option maxHeartbeats 4000000
/-! k78: the law's parts. -/
namespace Dn
open PySem
namespace K78
/-- is_least: 2, 2 names, 0 changed: 0 ears 1 log -/
def b_is_least : Ss := (.cons (.ret (.cmp .eq (.bi .len (.cons (.var 1) .nil)) (.call 36 (.val (.frz (.call 27 (.val (.var 0) (.val (.var 1) .nil)))) .nil))))
  .nil)
section
variable {P : Pg} {n c : Nat} {m : M} {T S : List W → W}
theorem isl_sp0 (B : Has P 46 b_is_least 2 2 []) (BT : ProgT P) (BF : ProgF0 P) (hn : 5 < n) {es : List Str} {log : List (Nat × Bool)} (ht : ∀ t ∈ log, LetT es t) (hL : es.length < 64) :
    (P.th n).fn 46 [.im (.tup (es.map .str)), .im (.lst (log.map tkW))] = .ok (.im (.bl (decide (log.length = fewS (orgS es.length log))))) [.im .non, .im .non] := by
  refine fn_ok B (by omega) rfl ?_
  have e1 := org_sp (n := n - 1) (enc := tkW) BT (by omega) (.inr rfl) (.inl rfl) (fun t => .inl rfl) ht (by omega)
  have e2 := few_sp0 (n := n - 1) BF (by omega) (.inr rfl) (s := orgS es.length log) (by rw [org_len]; exact hL)
  have e3 : eqW (.int (log.length : Int)) (vN (fewS (orgS es.length log))) = some (decide (log.length = fewS (orgS es.length log))) := eqW_N (a := log.length)
  simp [b_is_least, e1, e2, e3]
theorem isl_sp (B : Has P 46 b_is_least 2 2 []) (BT : ProgT P) (BF : ProgF P) (hn : 5 < n) {es : List Str} {log : List (Nat × Bool)} (ht : ∀ t ∈ log, LetT es t) (hL : es.length < 64) :
    (P.th n).fn 46 [.im (.tup (es.map .str)), .im (.lst (log.map tkW))] = .ok (.im (.bl (decide (log.length = fewS (orgS es.length log))))) [.im .non, .im .non] := isl_sp0 B BT BF.f0 hn ht hL
theorem foldW_len : ∀ (log : List (Nat × Bool)) (us : List W), (log.foldl stepW us).length = us.length
  | [], _ => rfl
  | t :: log, us => by rw [List.foldl_cons, foldW_len log, stepW_len]
theorem led_sp (B : Has P 514 b_Lled 2 3 []) (B1 : Has P 510 b_Lstep 2 4 []) (hn : 1 < n) {ws : List W} {log : List (Nat × Bool)} {es : List Str} (ht : ∀ t ∈ log, LetT es t) (hl : ws.length = es.length) (hL : ws.length ≤ 1000) :
    (P.th n).fn 514 [.im (.tup ws), .im (.lst (log.map tkW))] = .ok (.im (.tup (log.foldl stepW ws))) [.im .non, .im .non] := by
  refine fn_ok B (by omega) rfl ?_
  have key : ∀ (us : List W) (t : Nat × Bool), t ∈ log → us.length = es.length → (P.th (n - 1)).fn 510 [.im (.tup us), .im (tkW t)] = .ok (.im (.tup (stepW us t))) [.im .non, .im .non] := fun us t hm hu => stepl_sp B1 (by omega) (by rw [hu]; exact (ht t hm).lt) (by rw [hu]; exact (ht t hm).nb) (by omega)
  simp [b_Lled]
  refine OK.bnd (forL_ok (fun j r => ∃ x : Option M, r = [some (.im (.tup ((log.take j).foldl stepW ws))), some (.im (.lst (log.map tkW))), x]) ⟨none, rfl⟩ ?_) ?_
  · rintro j w r hj ⟨x, rfl⟩
    obtain ⟨t, ho, rfl⟩ : ∃ t, log[j]? = some t ∧ w = tkW t := by
      rw [List.getElem?_map] at hj
      obtain ⟨o, h1, h2⟩ := Option.map_eq_some_iff.mp hj
      exact ⟨o, h1, h2.symm⟩
    have e := key ((log.take j).foldl stepW ws) t (List.mem_of_getElem? ho) (by rw [foldW_len]; exact hl)
    have htk : log.take (j + 1) = log.take j ++ [t] := by rw [List.take_add_one, ho]; rfl
    refine OK_gen fun Q hQ => ?_
    simp [fT, e]
    exact hQ _ _ ⟨rfl, some (.im (tkW t)), by rw [htk, List.foldl_append]; rfl⟩
  · rintro fl r ⟨rfl, x, rfl⟩
    have : log.take (log.map tkW).length = log := by rw [List.length_map]; exact List.take_length
    simp [this]
theorem took_sp (B : Has P 601 b_Ltook 2 5 []) (B1 : Has P 510 b_Lstep 2 4 []) (hn : 1 < n) {k : Nat} {log : List (Nat × Bool)} {es : List Str} (ht : ∀ t ∈ log, LetT es t) (hl : es.length = k) (hL : k ≤ 1000) (hlog : log.length ≤ 10000) :
    (P.th n).fn 601 [.im (.int k), .im (.lst (log.map tkW))] = .ok (.im (.tup [.tup ((orgS k log).map vN), .lst ((tookS [] log).map prW)])) [.im .non, .im .non] := by
  refine fn_ok B (by omega) rfl ?_
  subst hl
  have hnb : ∀ t ∈ log, nbS t < es.length := fun t h => (ht t h).nlt
  have key : ∀ (us : List W) (t : Nat × Bool), t ∈ log → us.length = es.length → (P.th (n - 1)).fn 510 [.im (.tup us), .im (tkW t)] = .ok (.im (.tup (stepW us t))) [.im .non, .im .non] := fun us t hm hu => stepl_sp B1 (by omega) (by rw [hu]; exact (ht t hm).lt) (by rw [hu]; exact (ht t hm).nb) (by omega)
  have hr := rng_vN (k := es.length) (lim_le (by omega))
  simp [b_Ltook, hr]
  refine OK.bnd (forL_ok (fun j r => ∃ x : Option M, r = [some (.im (.int es.length)), some (.im (.lst (log.map tkW))), some (.im (.tup ((orgS es.length (log.take j)).map vN))), some (.ls ((tookS [] (log.take j)).map prW)), x]) ⟨none, rfl⟩ ?_) ?_
  · rintro j w r hj ⟨x, rfl⟩
    obtain ⟨t, ho, rfl⟩ : ∃ t, log[j]? = some t ∧ w = tkW t := by
      rw [List.getElem?_map] at hj
      obtain ⟨o, h1, h2⟩ := Option.map_eq_some_iff.mp hj
      exact ⟨o, h1, h2.symm⟩
    have htm := List.mem_of_getElem? ho
    have hpre : ∀ u ∈ log.take j, nbS u < es.length := fun u hu => hnb u (List.mem_of_mem_take hu)
    have e := key ((orgS es.length (log.take j)).map vN) t htm (by rw [List.length_map, org_len])
    have htk : log.take (j + 1) = log.take j ++ [t] := by rw [List.take_add_one, ho]; rfl
    have hst : stepW ((orgS es.length (log.take j)).map vN) t = (orgS es.length (log.take (j + 1))).map vN := by
      rw [stepW_N (by rw [org_len]; exact hnb t htm), htk]
      unfold orgS
      rw [List.foldl_append]
      rfl
    rw [hst] at e
    have hpost : ∀ u ∈ log.take (j + 1), nbS u < es.length := fun u hu => hnb u (List.mem_of_mem_take hu)
    have hval : (orgS es.length (log.take (j + 1))).getD t.1 0 = backS (log.take j) (nbS t) := by
      rw [org_get hpost (ht t htm).lt, htk, backS_append]
      have e3 : backS [t] t.1 = nbS t := if_pos rfl
      rw [e3]
    have hi : ixW ((orgS es.length (log.take (j + 1))).map vN) (t.1 : Int) = some (vN (backS (log.take j) (nbS t))) := by
      have hlt : t.1 < (orgS es.length (log.take (j + 1))).length := by rw [org_len]; exact (ht t htm).lt
      rw [← hval]
      refine ixW_nat ?_
      rw [List.getElem?_map, List.getD_eq_getElem?_getD, List.getElem?_eq_getElem hlt]
      rfl
    have htook : tookS [] (log.take (j + 1)) = tookS [] (log.take j) ++ [(t.1, backS (log.take j) (nbS t))] := by
      rw [htk, tookS_app]
      rfl
    have hap : mutW .append (.ls ((tookS [] (log.take j)).map prW)) [prW (t.1, backS (log.take j) (nbS t))] = some (.im .non, .ls ((tookS [] (log.take (j + 1))).map prW)) := by
      rw [mut_append (by rw [List.length_map, tookS_len, List.length_take]; exact lim_lt (by omega)), htook, List.map_append]
      rfl
    generalize (orgS es.length (log.take j)).map vN = W1 at e
    generalize (orgS es.length (log.take (j + 1))).map vN = W2 at e hi
    generalize (tookS [] (log.take j)).map prW = W3 at hap
    generalize (tookS [] (log.take (j + 1))).map prW = W4 at hap
    generalize backS (log.take j) (nbS t) = o at hi hap
    have hap' : mutW .append (.ls W3) [.tup [vN t.1, vN o]] = some (.im .non, .ls W4) := hap
    have hv : vN t.1 = .int (t.1 : Int) := rfl
    have e' : (P.th (n - 1)).fn 510 [.im (.tup W1), .im (.tup [.int (t.1 : Int), .str (sdS t.2)])] = .ok (.im (.tup W2)) [.im .non, .im .non] := e
    refine OK_gen fun Q hQ => ?_
    rw [hv] at hap'
    simp [fT, e', tkW, hv, -ixW_cast, hi, hap']
    exact hQ _ _ ⟨rfl, some (.im (tkW t)), rfl⟩
  · rintro fl r ⟨rfl, x, rfl⟩
    have : log.take (log.map tkW).length = log := by rw [List.length_map]; exact List.take_length
    rw [this]
    simp
end
end K78
end Dn
-- K78b
set_option maxRecDepth 100000
set_option maxHeartbeats 4000000
/-! k78: a turn's tail. -/
namespace Dn
open PySem
namespace K78
def b_rest : Ss := (.cons (.set (.tp [(.nm 7), (.nm 8)]) (.call 601 (.val (.var 1) (.val (.var 6) .nil))))
  (.cons (.set (.nm 9) (.frz (.call 37 (.val (.var 7) .nil))))
  (.cons (.ite (.inv (.bi .all (.cons (.comp [10] (.nm 10) (.seq (.var 9)) .none (.cmp .in_ (.var 10) (.var 8))) .nil)))
  (.cons (.ret (.cst (.bl false)))
  .nil)
  .nil)
  (.cons (.ite (.dis (.inv (.call 503 (.val (.frz (.call 46 (.val (.var 2) (.val (.var 6) .nil)))) (.val (.frz (.cmp .eq (.srt (.var 8)) (.var 9))) .nil)))) (.cmp .gt (.call 36 (.val (.var 7) .nil)) (.bi .len (.cons (.var 6) .nil))))
  (.cons (.ret (.cst (.bl false)))
  .nil)
  .nil)
  (.cons (.set (.nm 11) (.bi .sum (.cons (.comp [4, 12] (.tp [(.nm 4), (.nm 12)]) (.seq (.var 8)) .none (.idx (.var 3) (.var 4))) .nil)))
  (.cons (.ite (.dis (.cmp .lt (.var 11) (.call 39 (.val (.var 7) (.val (.var 3) .nil)))) (.con (.call 46 (.val (.var 2) (.val (.var 6) .nil))) (.cmp .ne (.var 11) (.call 39 (.val (.var 7) (.val (.var 3) .nil))))))
  (.cons (.ret (.cst (.bl false)))
  .nil)
  .nil)
  .nil))))))
def b_Lright : Ss := (.cons (.set (.nm 1) (.bin .add (.cst (.int 1)) (.call 502 (.bor 0 (.val (.cst (.int 10)) .nil)))))
  (.cons (.par [2, 3] (.val (.call 507 (.bor 0 (.val (.var 1) .nil))) (.val (.frz (.comp [4] (.nm 4) (.rng1 (.var 1)) .none (.call 502 (.bor 0 (.val (.cst (.int 50)) .nil))))) .nil)))
  (.cons (.for_ (.nm 5) (.rng1 (.cst (.int 5)))
  (.cons (.set (.nm 6) (.frz (.call 512 (.bor 0 (.val (.var 2) (.val (.frz (.idx (.lst (.cons (.cst (.int 3)) (.cons (.cst (.int 12)) (.cons (.cst (.int 40)) .nil)))) (.call 502 (.bor 0 (.val (.cst (.int 3)) .nil))))) .nil))))))
  (.cons (.ite (.cmp .eq (.call 502 (.bor 0 (.val (.cst (.int 2)) .nil))) (.cst (.int 0)))
  (.cons (.set (.nm 6) (.frz (.call 41 (.val (.var 2) (.val (.frz (.call 514 (.val (.frz (.rg1 true (.var 1))) (.val (.var 6) .nil)))) .nil)))))
  .nil)
  .nil)
  b_rest)))
  (.cons (.ret (.cst (.bl true)))
  .nil))))
def prD (p : Nat × Nat) : PyData := .tuple [.int p.1, .int p.2]
theorem toD_pr (p : Nat × Nat) : (prW p).toD = some (prD p) := rfl
theorem toDs_prs : ∀ l : List (Nat × Nat), W.toDs (l.map prW) = some (l.map prD)
  | [] => rfl
  | p :: l => by
    rw [List.map_cons, W.toDs, toD_pr, toDs_prs l]
    rfl
theorem eqv_pr (p q : Nat × Nat) : PyData.eqv (prD p) (prD q) = decide (p = q) := by
  obtain ⟨a, b⟩ := p
  obtain ⟨c, d⟩ := q
  simp only [prD, PyData.eqv, PyData.eqvAll, Bool.and_true]
  by_cases h1 : a = c
  · by_cases h2 : b = d
    · subst h1 h2; simp
    · have : ¬ ((b : Int) = (d : Int)) := by omega
      simp [h2, this]
  · have : ¬ ((a : Int) = (c : Int)) := by omega
    simp [h1, this]
theorem eqv_prs : ∀ a b : List (Nat × Nat), PyData.eqvAll (a.map prD) (b.map prD) = decide (a = b)
  | [], [] => by simp [PyData.eqvAll]
  | [], _ :: _ => by simp [PyData.eqvAll]
  | _ :: _, [] => by simp [PyData.eqvAll]
  | x :: a, y :: b => by
    rw [List.map_cons, List.map_cons, PyData.eqvAll, eqv_pr, eqv_prs a b]
    by_cases h1 : x = y <;> by_cases h2 : a = b <;> simp [h1, h2]
theorem pd_pr {k : Nat} (p : Nat × Nat) : PD (k + 1) (prW p) := .tup (lim_le (by simp)) (by simp; exact ⟨.int _, .int _⟩)
theorem eqW_prs {a b : List (Nat × Nat)} (ha : a.length ≤ LIM) (hb : b.length ≤ LIM) : eqW (.lst (a.map prW)) (.lst (b.map prW)) = some (decide (a = b)) := by
  obtain ⟨d1, g1, g2, _⟩ := (K10.pd_prs (k := 0) ha).shaped (by decide)
  obtain ⟨d2, g3, g4, _⟩ := (K10.pd_prs (k := 0) hb).shaped (by decide)
  simp only [W.toD, toDs_prs, Option.map_some, Option.some.injEq] at g1 g3
  subst g1 g3
  unfold eqW
  simp only [W.toD, toDs_prs, Option.map_some, g2, g4, Bool.and_self, if_true]
  congr 1
  show PyData.eqvAll _ _ = _
  exact eqv_prs a b
theorem inL_pr {p : Nat × Nat} {l : List (Nat × Nat)} (h : l.length ≤ LIM) : inL (prW p) (l.map prW) = some (decide (p ∈ l)) := by
  obtain ⟨d, g1, g2, _⟩ := (pd_pr (k := 0) p).shaped (by decide)
  obtain ⟨d2, g3, g4, _⟩ := (K10.pd_prs (k := 0) h).shaped (by decide)
  unfold inL
  simp only [W.toD, toDs_prs, Option.map_some, Option.some.injEq] at g3
  rw [toD_pr] at g1 ⊢
  cases g1
  subst g3
  rw [toDs_prs]
  simp only [g2, g4, Bool.and_self, if_true]
  congr 1
  rw [List.any_map]
  simp only [Function.comp_def, eqv_pr]
  rw [Bool.eq_iff_iff]
  simp only [List.any_eq_true, decide_eq_true_eq]
  constructor
  · rintro ⟨x, hx, rfl⟩; exact hx
  · intro h; exact ⟨p, h, rfl⟩
theorem took_lt {n : Nat} : ∀ (log pre : List (Nat × Bool)), (∀ t ∈ log, t.1 < n) → ∀ p ∈ tookS pre log, p.1 < n
  | [], _, _, _, h => by cases h
  | t :: log, pre, h, p, hp => by
    rw [tookS] at hp
    rcases List.mem_cons.mp hp with rfl | hp
    · exact h t List.mem_cons_self
    · exact took_lt log _ (fun u hu => h u (List.mem_cons_of_mem _ hu)) p hp
structure Prog78 (P : Pg) : Prop where
  l : ProgL P
  pr : Has P 39 b_price 2 4 []
  isl : Has P 46 b_is_least 2 2 []
  take : Has P 502 (b_take 502) 2 5 [0]
  same : Has P 503 (b_same 503) 2 4 []
  ears : Has P 507 b_Lears 2 7 [0]
  lets : Has P 508 b_Llets 1 4 []
  of_ : Has P 509 b_Lof 2 2 [0]
  step : Has P 510 b_Lstep 2 4 []
  log : Has P 512 b_Llog 3 5 [0]
  led : Has P 514 b_Lled 2 3 []
  took : Has P 601 b_Ltook 2 5 []
section
variable {P : Pg} {n c : Nat} {m : M} {T S : List W → W}
theorem rest_sp (B : Prog78 P) (hn : 10 < n) {es : List Str} {log : List (Nat × Bool)} {cs : List Nat} {k : Nat} (ht : ∀ t ∈ log, LetT es t) (hk : es.length = k) (hk2 : k < 64) (hk0 : 0 < k) (hcs : cs.length = k) (hlog : log.length ≤ 1000) (x4 x5 x7 x8 x9 x10 x11 x12 : Option M) :
    OK (evSs (P.th n) b_rest [some m, some (.im (.int k)), some (.im (.tup (es.map .str))), some (.im (.lst (cs.map vN))), x4, x5, some (.im (.lst (log.map tkW))), x7, x8, x9, x10, x11, x12]) fun fl r => fl = .nx ∧ ∃ y4 y5 y6 y7 y8 y9 y10 y11 y12 : Option M, r = [some m, some (.im (.int k)), some (.im (.tup (es.map .str))), some (.im (.lst (cs.map vN))), y4, y5, y6, y7, y8, y9, y10, y11, y12] := by
  have hnb : ∀ t ∈ log, nbS t < k := fun t h => by have := (ht t h).nlt; omega
  have f1 := took_sp (n := n) (k := k) B.took B.step (by omega) ht hk (by omega) (by omega)
  have hrl : (orgS k log).length = k := org_len k log
  have hris := org_ris hnb
  have f2 := forced_sp (n := n) B.l.f (by omega) (.inr rfl) (s := orgS k log) (by rw [hrl]; exact hk2) hris.lt
  have f3 := isl_sp (n := n) B.isl B.l.t B.l.f (by omega) ht (by omega)
  rw [hk, least_iff hnb] at f3
  have f4 := few_sp (n := n) B.l.f (by omega) (.inr rfl) (s := orgS k log) (by rw [hrl]; exact hk2)
  have f5 := price_sp (n := n) B.l.f B.pr (by omega) (.inr rfl) (.inl rfl) (s := orgS k log) (cs := cs) (by rw [hrl]; exact hk2) hris.lt (by rw [hrl]; exact hcs)
  have hfl : (forcedS (orgS k log)).length ≤ 1000 := by
    have h1 := few_le hnb
    rw [K10.few_len] at h1
    omega
  have htl : (tookS [] log).length ≤ 1000 := by rw [tookS_len]; exact hlog
  have hin : ∀ p ∈ forcedS (orgS k log), inL (prW p) ((tookS [] log).map prW) = some true := fun p hp => by
    rw [inL_pr (lim_le (by omega)), decide_eq_true (forced_took hnb hp)]
  have hc1 : ∀ r : Env, (∀ p ∈ forcedS (orgS k log), cT (P.th n) [10] (.nm 10) .none (.cmp .in_ (.var 10) (.var 8)) (prW p) r = .ok (some (.bl true)) r) → compL (cT (P.th n) [10] (.nm 10) .none (.cmp .in_ (.var 10) (.var 8))) ((forcedS (orgS k log)).map prW) r [] = .ok ((forcedS (orgS k log)).map fun _ => W.bl true) r := fun r hr => compL_all (enc := prW) (fun _ => W.bl true) hr (lim_le (by omega))
  have hall : biW .all [.lst ((forcedS (orgS k log)).map fun _ => W.bl true)] = some (.im (.bl true)) := by
    rw [bi_all]
    generalize forcedS (orgS k log) = l
    have : blsW (l.map fun _ => W.bl true) = some (l.map fun _ => true) := by
      induction l with
      | nil => rfl
      | cons a l ih => rw [List.map_cons, blsW, ih]; rfl
    rw [this]
    simp
  have hc2 : ∀ r : Env, (∀ p ∈ tookS [] log, cT (P.th n) [4, 12] (.tp [.nm 4, .nm 12]) .none (.idx (.var 3) (.var 4)) (prW p) r = .ok (some (vN (cs.getD p.1 0))) r) → compL (cT (P.th n) [4, 12] (.tp [.nm 4, .nm 12]) .none (.idx (.var 3) (.var 4))) ((tookS [] log).map prW) r [] = .ok ((tookS [] log).map fun p => vN (cs.getD p.1 0)) r := fun r hr => compL_all (enc := prW) (fun p => vN (cs.getD p.1 0)) hr (lim_le (by omega))
  have hix : ∀ p ∈ tookS [] log, ixW (cs.map vN) (p.1 : Int) = some (vN (cs.getD p.1 0)) := fun p hp => by
    have hp2 : p.1 < cs.length := by rw [hcs, ← hk]; exact took_lt log [] (fun t h => (ht t h).lt) p hp
    exact ixW_nat (by rw [List.getElem?_map, List.getD_eq_getElem?_getD, List.getElem?_eq_getElem hp2]; rfl)
  have hsum := sum_N (fun p : Nat × Nat => cs.getD p.1 0) (tookS [] log)
  have hcl := cost_le (fun p : Nat × Nat => cs.getD p.1 0) hnb
  have hce := cost_eq (fun p : Nat × Nat => cs.getD p.1 0) hnb
  have hli := least_iff hnb
  have hfe := few_le hnb
  have hsrt := sortW_prs (tookS [] log)
  have heq : eqW (.lst ((sortQ (tookS [] log)).map prW)) (.lst ((forcedS (orgS k log)).map prW)) = some (decide (sortQ (tookS [] log) = forcedS (orgS k log))) := eqW_prs (lim_le (by rw [(sortQ_perm _).length_eq]; omega)) (lim_le (by omega))
  have k1 : ∀ b : Bool, (P.th n).fn 503 [.im (.bl b), .im (.bl b)] = .ok (.im (.bl true)) [.im .non, .im .non] := fun b => same_sp (n := n) B.same (w := .bl b) (k := 0) (.bl b) (by decide) (by omega)
  have hb : decide (sortQ (tookS [] log) = forcedS (orgS k log)) = true → ((forcedS (orgS k log)).map fun p => cs.getD p.1 0).sum = ((tookS [] log).map fun p => cs.getD p.1 0).sum := fun h => hce (by rw [← hli] at h; exact of_decide_eq_true h)
  generalize decide (sortQ (tookS [] log) = forcedS (orgS k log)) = b at f3 heq hb
  generalize ((forcedS (orgS k log)).map fun p => cs.getD p.1 0).sum = S1 at f5 hcl hb
  generalize ((tookS [] log).map fun p => cs.getD p.1 0).sum = S2 at hsum hcl hb
  generalize ((forcedS (orgS k log)).map fun _ => W.bl true) = WB at hc1 hall
  generalize ((tookS [] log).map fun p => vN (cs.getD p.1 0)) = WC at hc2 hsum
  generalize fewS (orgS k log) = few at f4 hfe
  refine OK_gen fun Q hQ => ?_
  simp [b_rest, f1, f2]
  rw [hc1 _ (fun p hp => by simp [cT, hin p hp])]
  have h36 : ¬ ((log.length : Int) < (few : Int)) := by omega
  have hlt : cmpW .lt (vN S2) (vN S1) = some false := by
    rw [lt_N, decide_eq_false (by omega)]
  have hgt : ∀ (h : few ≤ log.length), cmpW .gt (vN few) (.int (log.length : Int)) = some false := fun h => by
    show some (decide ((log.length : Int) < (few : Int))) = _
    rw [decide_eq_false h36]
  simp [-bi_all, hall, f3, hsrt, heq, k1, f4, hgt hfe]
  rw [hc2 _ (fun p hp => by simp [cT, prW, -ixW_cast, hix p hp, vN])]
  simp [-bi_sum, hsum, f5, hlt, f3]
  cases b with
  | false =>
    simp
    exact hQ _ _ ⟨rfl, _, _, _, _, _, _, _, _, _, rfl⟩
  | true =>
    have := hb rfl
    subst this
    simp [f5]
    exact hQ _ _ ⟨rfl, _, _, _, _, _, _, _, _, _, rfl⟩
end
end K78
end Dn
-- Q2b
set_option maxRecDepth 100000
set_option maxHeartbeats 1000000
/-! The laws' end, by so many numbers. -/
namespace Dn
open PySem
def b_lawC (c : Int) : Ss := (.cons (.ret (.bi .all (.cons (.comp [1] (.nm 1) (.rng1 (.bin .add (.cst (.int 1)) (.bi .min2 (.cons (.cst (.int c)) (.cons (.bi .len (.cons (.var 0) .nil)) .nil))))) .none (.call 505 (.val (.call 501 (.val (.var 0) (.val (.var 1) .nil))) .nil))) .nil)))
  .nil)
section
variable {P : Pg} {n : Nat} {m : M}
theorem law_endC {c : Int} (hc0 : 0 ≤ c) (hc1 : c ≤ 10) (B : Has P 506 (b_lawC c) 1 2 []) (B1 : Has P 501 b_Lbox 2 3 []) (B0 : Has P 500 b_Lcell_at 2 2 []) (hn : 2 < n) (h : ∀ m, Bx 0 m → ∃ m', (P.th (n - 1)).fn 505 [m] = .ok (.im (.bl true)) [m']) (ns : List Int) :
    ∃ ms, (P.th n).fn 506 [.im (.scr ns)] = .ok (.im (.bl true)) ms := by
  refine ⟨_, fn_ok B (by omega) rfl ?_⟩
  have key : ∀ (k : Nat), cT (P.th (n - 1)) [1] (.nm 1) .none (.call 505 (.val (.call 501 (.val (.var 0) (.val (.var 1) .nil))) .nil)) (vN k) [some (.im (.scr ns)), none] = .ok (some (.bl true)) [some (.im (.scr ns)), none] := by
    intro k
    obtain ⟨m, e1, h1⟩ := box_sp (n := n - 1) B1 B0 (by omega) (ns := ns) (k := k)
    obtain ⟨m', e2⟩ := h m h1
    simp [cT, vN, e1, e2]
  have hj : ((1 : Int) + if (ns.length : Int) < c then (ns.length : Int) else c).toNat ≤ 11 := by split <;> omega
  have hr : rOk ((1 : Int) + if (ns.length : Int) < c then (ns.length : Int) else c) = true := rOk_of (by split <;> omega) (by split <;> omega)
  generalize hz : ((1 : Int) + if (ns.length : Int) < c then (ns.length : Int) else c) = z at hj hr
  have hc := compL_all (enc := vN) (f := cT (P.th (n - 1)) [1] (.nm 1) .none (.call 505 (.val (.call 501 (.val (.var 0) (.val (.var 1) .nil))) .nil))) (r := [some (.im (.scr ns)), none]) (fun _ => .bl true) (l := List.range z.toNat) (fun k _ => key k) (by rw [List.length_range]; exact lim_le (by omega))
  have hb : blsW ((List.range z.toNat).map fun _ => W.bl true) = some ((List.range z.toNat).map fun _ => true) := bls_enc (g := fun _ => true) _
  simp [b_lawC, hz, hr, upTo_vN, hc, hb]
end
end Dn
-- K95
set_option maxRecDepth 100000
set_option maxHeartbeats 4000000
/-! k95: the law's parts. -/
namespace Dn
open PySem
namespace K95
/-- open_ears: 1, 1 names, 0 changed: 0 many -/
def b_open_ears : Ss := (.cons (.ret (.bin .mul (.tup (.cons (.glob (⟨#[66, 79, 84, 72]⟩ : Str) (.str (⟨#[98, 111, 116, 104]⟩ : Str))) .nil)) (.var 0)))
  .nil)
/-- alike: 3, 4 names, 0 changed: 0 ears 1 one 2 other 3 mine -/
def b_alike : Ss := (.cons (.set (.nm 3) (.call 27 (.val (.var 0) (.val (.var 1) .nil))))
  (.cons (.ret (.cmp .eq (.var 3) (.call 27 (.val (.var 0) (.val (.var 2) .nil)))))
  .nil))
/-- shortened: 2, 2 names, 0 changed: 0 ears 1 log -/
def b_shortened : Ss := (.cons (.ret (.call 41 (.val (.frz (.call 5 (.val (.frz (.bi .len (.cons (.var 0) .nil))) .nil))) (.val (.frz (.call 27 (.val (.var 0) (.val (.var 1) .nil)))) .nil))))
  .nil)
theorem flat_one : ∀ (q : Nat) (w : W), (List.replicate q [w]).flatten = List.replicate q w
  | 0, _ => rfl
  | q + 1, w => by rw [List.replicate_succ, List.flatten_cons, flat_one q w]; rfl
theorem b_tupmul {w : W} {k : Nat} (h1 : 1 ≤ k) (h2 : k ≤ 1000) : binW .mul (.tup [w]) (.int k) = some (.im (.tup (List.replicate k w))) := by
  show (if _ then _ else _) = _
  rw [if_pos ⟨by simp, by simp, by omega, by omega⟩, Int.toNat_natCast, flat_one]
theorem eqW_tN {a b : List Nat} (ha : a.length ≤ LIM) (hb : b.length ≤ LIM) : eqW (.tup (a.map vN)) (.tup (b.map vN)) = some (decide (a = b)) := by
  obtain ⟨d, g1, g2, _⟩ := (pd_row (n := 0) ha).shaped (by decide)
  obtain ⟨d2, g3, g4, _⟩ := (pd_row (n := 0) hb).shaped (by decide)
  show eqW (rowW a) (rowW b) = _
  unfold eqW
  rw [toD_row] at g1 g3
  cases g1
  cases g3
  rw [toD_row, toD_row]
  simp only [g2, g4, Bool.and_self, if_true, eqv_row]
theorem inL_N {p : Nat} {l : List Nat} (h : l.length ≤ LIM) : inL (vN p) (l.map vN) = some (decide (p ∈ l)) := by
  obtain ⟨d2, g3, g4, _⟩ := (PD.lst (n := 0) (ws := l.map vN) (by simpa using h) (fun w hw => by
    obtain ⟨x, _, rfl⟩ := List.mem_map.mp hw
    exact .int _)).shaped (by decide)
  have e : W.toDs (l.map vN) = some (l.map fun (x : Nat) => PyData.int x) := by
    have h := toDs_ints (l.map fun (x : Nat) => (x : Int))
    rw [List.map_map, List.map_map] at h
    exact h
  unfold inL
  simp only [W.toD, e, Option.map_some, Option.some.injEq] at g3
  subst g3
  have e2 : (vN p).toD = some (.int p) := rfl
  rw [e2, e]
  have s1 : SeqAt.shaped (.int (p : Int)) = true := by
    obtain ⟨d0, q1, q2, _⟩ := (PD.int (n := 0) (p : Int)).shaped (by decide)
    cases q1
    exact q2
  simp only [s1, g4, Bool.and_self, if_true]
  congr 1
  rw [List.any_map, Bool.eq_iff_iff]
  simp only [List.any_eq_true, Function.comp_def, PyData.eqv, decide_eq_true_eq, beq_iff_eq]
  constructor
  · rintro ⟨x, hx, e⟩
    have : x = p := by omega
    rw [← this]; exact hx
  · intro h; exact ⟨p, h, rfl⟩
theorem wide_let {es : List Str} {t : Nat × Bool} (h : LetT es t) : LetT (List.replicate es.length sB) t := by
  refine ⟨by rw [List.length_replicate]; exact h.lt, by rw [List.length_replicate]; exact h.nb, ?_⟩
  rw [List.getD_eq_getElem?_getD, List.getElem?_replicate, if_pos h.lt]
  cases t.2 <;> decide +kernel
structure Prog95 (P : Pg) : Prop where
  l : ProgL P
  be : Has P 38 b_fewest_beats 1 3 []
  p1 : Prog1 P
  so : ∃ d, P.fd 73 = some d ∧ d.body = b_so ∧ d.many = 2 ∧ d.names.length = 4 ∧ d.lock = []
  st : ∃ d, P.fd 72 = some d ∧ d.body = b_stays ∧ d.many = 1 ∧ d.names.length = 3 ∧ d.lock = []
  oe : Has P 5 b_open_ears 1 1 []
  al : Has P 69 b_alike 3 4 []
  sh : Has P 71 b_shortened 2 2 []
  take : Has P 502 (b_take 502) 2 5 [0]
  ears : Has P 507 b_Lears 2 7 [0]
  lets : Has P 508 b_Llets 1 4 []
  of_ : Has P 509 b_Lof 2 2 [0]
  log : Has P 512 b_Llog 3 5 [0]
section
variable {P : Pg} {n c : Nat} {m : M} {T S : List W → W}
theorem oe_sp (B : Has P 5 b_open_ears 1 1 []) (hn : 0 < n) {k : Nat} (h1 : 1 ≤ k) (h2 : k ≤ 1000) : (P.th n).fn 5 [.im (.int k)] = .ok (.im (.tup ((List.replicate k sB).map .str))) [.im .non] := by
  refine fn_ok B (by omega) rfl ?_
  have e := b_tupmul (w := .str sB) h1 h2
  simp [b_open_ears, sB_eq, e]
theorem al_sp (B : Has P 69 b_alike 3 4 []) (BT : ProgT P) (hn : 5 < n) {es : List Str} {a b : List (Nat × Bool)} (ha : ∀ t ∈ a, LetT es t) (hb : ∀ t ∈ b, LetT es t) (hL : es.length < 64) :
    (P.th n).fn 69 [.im (.tup (es.map .str)), .im (.lst (a.map tkW)), .im (.lst (b.map tkW))] = .ok (.im (.bl (decide (orgS es.length a = orgS es.length b)))) [.im .non, .im .non, .im .non] := by
  refine fn_ok B (by omega) rfl ?_
  have e1 := org_sp (n := n - 1) (enc := tkW) BT (by omega) (.inr rfl) (.inl rfl) (fun t => .inl rfl) ha (by omega)
  have e2 := org_sp (n := n - 1) (enc := tkW) BT (by omega) (.inr rfl) (.inl rfl) (fun t => .inl rfl) hb (by omega)
  have e3 := eqW_tN (a := orgS es.length a) (b := orgS es.length b) (lim_le (by rw [org_len]; omega)) (lim_le (by rw [org_len]; omega))
  simp [b_alike, e1, e2, e3]
theorem sh_sp (B : Prog95 P) (hn : 6 < n) {es : List Str} {a : List (Nat × Bool)} (ha : ∀ t ∈ a, LetT es t) (h0 : 0 < es.length) (hL : es.length < 64) :
    (P.th n).fn 71 [.im (.tup (es.map .str)), .im (.lst (a.map tkW))] = .ok (.ls ((llS (orgS es.length a)).map tkW)) [.im .non, .im .non] := by
  refine fn_ok B.sh (by omega) rfl ?_
  have hnb : ∀ t ∈ a, nbS t < es.length := fun t h => (ha t h).nlt
  have e1 := org_sp (n := n - 1) (enc := tkW) B.l.t (by omega) (.inr rfl) (.inl rfl) (fun t => .inl rfl) ha (by omega)
  have e2 := oe_sp (n := n - 1) B.oe (by omega) (k := es.length) (by omega) (by omega)
  have hw := org_let (es := List.replicate es.length sB) (log := a) fun t h => wide_let (ha t h)
  rw [List.length_replicate] at hw
  have e3 := least_sp (n := n - 1) B.l (by omega) (.inr rfl) (.inr rfl) (es := List.replicate es.length sB) (s := orgS es.length a) (by rw [org_len, List.length_replicate]) (by rw [org_len]; exact hL) (org_ris hnb).lt hw
  generalize (List.replicate es.length sB).map W.str = W1 at e2 e3
  simp [b_shortened, e1, e2, e3]
end
end K95
end Dn
-- T19
set_option maxRecDepth 100000
set_option maxHeartbeats 4000000
/-! Turns of rows: plain. -/
namespace Dn
open PySem
section
variable {A : Type} [DecidableEq A]
/-- the turns of a row, behind a word -/
def turnsF : Option A → List A → List A
  | _, [] => []
  | o, b :: l => if o = some b then turnsF o l else b :: turnsF (some b) l
/-- t's words lie in l, in their order -/
def subS : List A → List A → Bool
  | [], _ => true
  | _ :: _, [] => false
  | w :: t, a :: l => if w = a then subS t l else subS (w :: t) l
/-- words had from the left, none falling -/
def mtS : List A → List A → Bool
  | _, [] => true
  | l, w :: g => match l.dropWhile (fun a => decide (a ≠ w)) with
    | [] => false
    | a :: l' => mtS (a :: l') g
theorem sub_drop (w : A) (t : List A) : ∀ l : List A, subS (w :: t) l = match l.dropWhile (fun a => decide (a ≠ w)) with
    | [] => false
    | _ :: l' => subS t l'
  | [] => rfl
  | a :: l => by
    by_cases h : w = a
    · subst h
      simp [subS]
    · have h' : a ≠ w := fun e => h e.symm
      rw [subS, if_neg h, sub_drop w t l, List.dropWhile_cons, if_pos (by simpa using h')]
/-- stutter-free -/
def freeS : Option A → List A → Prop
  | _, [] => True
  | o, b :: l => o ≠ some b ∧ freeS (some b) l
theorem turns_free : ∀ (o : Option A) (l : List A), freeS o (turnsF o l)
  | _, [] => trivial
  | o, b :: l => by
    rw [turnsF]
    split
    · exact turns_free o l
    · rename_i h
      exact ⟨h, turns_free (some b) l⟩
theorem head_drop {w : A} {l : List A} {a : A} {l' : List A} (h : l.dropWhile (fun a => decide (a ≠ w)) = a :: l') : a = w := by
  induction l with
  | nil => cases h
  | cons b l ih =>
    rw [List.dropWhile_cons] at h
    split at h
    · exact ih h
    · rename_i h2
      cases h
      simpa using h2
/-- words had, by turns: where the head is the word behind which one goes on -/
theorem mt_turns : ∀ (g : List A) (o : Option A) (l : List A), (∀ w, o = some w → ∃ l', l = w :: l') → mtS l g = (match o with
    | none => subS (turnsF o g) l
    | some _ => subS (turnsF o g) l.tail)
  | [], o, l, _ => by cases o <;> simp [mtS, turnsF, subS]
  | w :: g, o, l, h => by
    rw [mtS]
    cases o with
    | none =>
      show _ = subS (turnsF none (w :: g)) l
      rw [turnsF, if_neg (by simp), sub_drop]
      cases hd : l.dropWhile (fun a => decide (a ≠ w)) with
      | nil => rfl
      | cons a l' =>
        have ha := head_drop hd
        subst ha
        exact mt_turns g (some a) (a :: l') fun u hu => ⟨l', by cases hu; rfl⟩
    | some v =>
      obtain ⟨l1, rfl⟩ := h v rfl
      show _ = subS (turnsF (some v) (w :: g)) l1
      rw [turnsF]
      by_cases hv : v = w
      · subst hv
        rw [if_pos rfl, List.dropWhile_cons, if_neg (by simp)]
        exact mt_turns g (some v) (v :: l1) fun u hu => ⟨l1, by cases hu; rfl⟩
      · rw [if_neg (by simpa using hv), sub_drop, List.dropWhile_cons, if_pos (by simpa using hv)]
        cases hd : l1.dropWhile (fun a => decide (a ≠ w)) with
        | nil => rfl
        | cons a l' =>
          have ha := head_drop hd
          subst ha
          exact mt_turns g (some a) (a :: l') fun u hu => ⟨l', by cases hu; rfl⟩
/-- stutter-free words lie in a row just where they lie in its turns -/
theorem sub_turns : ∀ (l : List A) (o : Option A) (t : List A), freeS o t → subS t (turnsF o l) = subS t l
  | [], _, _, _ => rfl
  | a :: l, o, [], _ => by
    rw [subS, subS]
  | a :: l, o, w :: t, h => by
    rw [turnsF]
    by_cases ho : o = some a
    · rw [if_pos ho]
      have hw : ¬ w = a := fun e => h.1 (by rw [ho, e])
      rw [sub_turns l o (w :: t) h]
      rw [show subS (w :: t) (a :: l) = subS (w :: t) l by rw [subS, if_neg hw]]
    · rw [if_neg ho]
      by_cases hw : w = a
      · subst hw
        rw [subS, if_pos rfl, subS, if_pos rfl]
        exact sub_turns l (some w) t h.2
      · rw [subS, if_neg hw, subS, if_neg hw]
        exact sub_turns l (some a) (w :: t) ⟨fun e => hw (by cases e; rfl), h.2⟩
theorem mt_is (l g : List A) : mtS l g = subS (turnsF none g) (turnsF none l) := by
  rw [mt_turns g none l (fun w h => by cases h)]
  exact (sub_turns l none (turnsF none g) (turns_free none g)).symm
/-- by going on behind the first such -/
theorem sub_idx (w : A) (t l : List A) : subS (w :: t) l = if w ∈ l then subS t (l.drop (l.findIdx (fun a => decide (a = w)) + 1)) else false := by
  induction l with
  | nil => rfl
  | cons a l ih =>
    by_cases h : w = a
    · subst h
      rw [subS, if_pos rfl, if_pos (by simp), List.findIdx_cons]
      simp
    · have h' : ¬ a = w := fun e => h e.symm
      rw [subS, if_neg h, ih, List.findIdx_cons]
      simp [h, h']
/-- by crossing off -/
def offS (t : List A) (a : A) : List A := if t.head? = some a then t.tail else t
theorem sub_off : ∀ (l t : List A), subS t l = (l.foldl offS t).isEmpty
  | [], [] => rfl
  | [], _ :: _ => rfl
  | a :: l, [] => by
    rw [subS, List.foldl_cons]
    have : offS ([] : List A) a = [] := rfl
    rw [this, ← sub_off l []]
    cases l <;> rfl
  | a :: l, w :: t => by
    rw [List.foldl_cons, ← sub_off l]
    unfold offS
    by_cases h : w = a
    · subst h
      rw [subS, if_pos rfl]; simp
    · rw [subS, if_neg h, if_neg (by simpa using h)]
theorem sub_refl : ∀ t : List A, subS t t = true
  | [] => rfl
  | w :: t => by rw [subS, if_pos rfl]; exact sub_refl t
end
end Dn
-- K19
set_option maxRecDepth 100000
set_option maxHeartbeats 4000000
/-! k19: the parts. -/
namespace Dn
open PySem
namespace K19
/-- turns_of: 1, 3 names, 0 changed: 0 row 1 place 2 word -/
def b_turns_of : Ss := (.cons (.ret (.bi .tuple (.cons (.comp [1, 2] (.tp [(.nm 1), (.nm 2)]) (.enum (.var 0)) (.some (.dis (.cmp .eq (.var 1) (.cst (.int 0))) (.cmp .ne (.idx (.var 0) (.bin .sub (.var 1) (.cst (.int 1)))) (.var 2)))) (.var 2)) .nil)))
  .nil)
/-- look_alike: 3, 3 names, 0 changed: 0 row 1 ears 2 goal -/
def b_look_alike : Ss := (.cons (.ite (.dis (.cmp .ne (.bi .len (.cons (.var 0) .nil)) (.bi .len (.cons (.var 2) .nil))) (.cmp .ne (.bi .len (.cons (.var 0) .nil)) (.bi .len (.cons (.var 1) .nil))))
  (.cons (.rse 0 .nil)
  .nil)
  .nil)
  .nil)
/-- window: 3, 5 names, 0 changed: 0 ears 1 place 2 beats 3 first 4 last -/
def b_window : Ss := (.cons (.set (.nm 3) (.ife (.call 8 (.val (.var 0) (.val (.var 1) (.val (.glob (⟨#[76, 69, 70, 84]⟩ : Str) (.str (⟨#[108, 101, 102, 116]⟩ : Str))) .nil)))) (.bi .max2 (.cons (.cst (.int 0)) (.cons (.bin .sub (.var 1) (.var 2)) .nil))) (.var 1)))
  (.cons (.set (.nm 4) (.ife (.call 8 (.val (.var 0) (.val (.var 1) (.val (.glob (⟨#[82, 73, 71, 72, 84]⟩ : Str) (.str (⟨#[114, 105, 103, 104, 116]⟩ : Str))) .nil)))) (.bi .min2 (.cons (.bin .sub (.bi .len (.cons (.var 0) .nil)) (.cst (.int 1))) (.cons (.bin .add (.var 1) (.var 2)) .nil))) (.var 1)))
  (.cons (.ret (.tup (.cons (.var 3) (.cons (.var 4) .nil))))
  .nil)))
/-- least_ones: 4, 12 names, 0 changed: 0 row 1 ears 2 goal 3 beats 4 found 5 ahead 6 place 7 word 8 first 9 last 10 some 11 at -/
def b_least_ones : Ss := (.cons (.par [4, 5] (.val (.lst .nil) (.val (.cst (.int 0)) .nil)))
  (.cons (.for_ (.tp [(.nm 6), (.nm 7)]) (.enum (.var 2))
  (.cons (.set (.tp [(.nm 8), (.nm 9)]) (.call 48 (.val (.var 1) (.val (.var 6) (.val (.var 3) .nil)))))
  (.cons (.set (.nm 10) (.frz (.comp [11] (.nm 11) (.rng2 (.bi .max2 (.cons (.var 8) (.cons (.var 5) .nil))) (.bin .add (.var 9) (.cst (.int 1)))) (.some (.cmp .eq (.idx (.var 0) (.var 11)) (.var 7))) (.var 11))))
  (.cons (.ite (.cmp .eq (.bi .len (.cons (.var 10) .nil)) (.cst (.int 0)))
  (.cons (.retv 4)
  .nil)
  .nil)
  (.cons (.set (.nm 5) (.idx (.var 10) (.cst (.int 0))))
  (.cons (.ex (.mut .append 4 [] (.cons (.var 5) .nil)))
  .nil))))))
  (.cons (.retv 4)
  .nil)))
/-- comes_in: 4, 5 names, 0 changed: 0 row 1 ears 2 goal 3 beats 4 found -/
def b_comes_in : Ss := (.cons (.ex (.call 47 (.val (.var 0) (.val (.var 1) (.val (.var 2) .nil)))))
  (.cons (.set (.nm 4) (.frz (.call 49 (.val (.var 0) (.val (.var 1) (.val (.var 2) (.val (.var 3) .nil)))))))
  (.cons (.ret (.ife (.cmp .eq (.bi .len (.cons (.var 4) .nil)) (.bi .len (.cons (.var 2) .nil))) (.bi .tuple (.cons (.var 4) .nil)) (.cst .non)))
  .nil)))
/-- comes: 3, 3 names, 0 changed: 0 row 1 ears 2 goal -/
def b_comes : Ss := (.cons (.ret (.call 50 (.val (.var 0) (.val (.var 1) (.val (.var 2) (.val (.frz (.bi .len (.cons (.var 0) .nil))) .nil))))))
  .nil)
/-- turns_lead: 2, 4 names, 0 changed: 0 row 1 goal 2 left 3 word -/
def b_turns_lead : Ss := (.cons (.set (.nm 2) (.frz (.bi .list (.cons (.call 10 (.val (.var 0) .nil)) .nil))))
  (.cons (.for_ (.nm 3) (.seq (.call 10 (.val (.var 1) .nil)))
  (.cons (.ite (.cmp .nin (.var 3) (.var 2))
  (.cons (.ret (.cst (.bl false)))
  .nil)
  .nil)
  (.cons (.set (.nm 2) (.frz (.slc (.var 2) (.some (.bin .add (.mth .index (.var 2) (.cons (.var 3) .nil)) (.cst (.int 1)))) .none)))
  .nil)))
  (.cons (.ret (.cst (.bl true)))
  .nil)))
/-- _law_word: 1, 1 names, 1 changed: 0 box_here -/
def b_Lword : Ss := (.cons (.ret (.idx (.lst (.cons (.cst (.str (⟨#[97]⟩ : Str))) (.cons (.cst (.str (⟨#[98]⟩ : Str))) (.cons (.cst (.str (⟨#[97]⟩ : Str))) (.cons (.cst (.str (⟨#[98]⟩ : Str))) (.cons (.cst (.str (⟨#[97, 98]⟩ : Str))) (.cons (.cst (.str (⟨#[98, 97]⟩ : Str))) (.cons (.cst (.str (⟨#[99]⟩ : Str))) (.cons (.cst (.str (⟨#[122, 122, 122, 122, 122, 122]⟩ : Str))) .nil))))))))) (.call 502 (.bor 0 (.val (.cst (.int 8)) .nil)))))
  .nil)
/-- _law_row: 2, 3 names, 1 changed: 0 box_here 1 size 2 turn -/
def b_Lrow : Ss := (.cons (.ret (.bi .tuple (.cons (.comp [2] (.nm 2) (.rng1 (.bin .add (.cst (.int 1)) (.call 502 (.bor 0 (.val (.var 1) .nil))))) .none (.call 511 (.bor 0 .nil))) .nil)))
  .nil)
/-- _law_turns: 1, 3 names, 0 changed: 0 here 1 found 2 word_here -/
def b_Lturns : Ss := (.cons (.set (.nm 1) (.lst .nil))
  (.cons (.for_ (.nm 2) (.seq (.var 0))
  (.cons (.ite (.pur (.cmp .ne (.pslc 1 [] (.some (.neg (.cst (.int 1)))) .none) (.lst (.cons (.var 2) .nil))))
  (.cons (.ex (.mut .append 1 [] (.cons (.var 2) .nil)))
  .nil)
  .nil)
  .nil))
  (.cons (.retv 1)
  .nil)))
/-- _law_due: 2, 4 names, 0 changed: 0 here 1 aim 2 left 3 word_here -/
def b_Ldue : Ss := (.cons (.set (.nm 2) (.frz (.call 539 (.val (.var 1) .nil))))
  (.cons (.for_ (.nm 3) (.seq (.call 539 (.val (.var 0) .nil)))
  (.cons (.set (.nm 2) (.frz (.slc (.var 2) (.some (.bi .int (.cons (.cmp .eq (.slc (.var 2) .none (.some (.cst (.int 1)))) (.lst (.cons (.var 3) .nil))) .nil))) .none)))
  .nil))
  (.cons (.ret (.cmp .eq (.var 2) (.lst .nil)))
  .nil)))
theorem toDs_strs : ∀ l : List Str, W.toDs (l.map W.str) = some (l.map PyData.str)
  | [] => rfl
  | p :: l => by
    rw [List.map_cons, W.toDs, toDs_strs l]
    rfl
theorem eqv_strs : ∀ a b : List Str, PyData.eqvAll (a.map PyData.str) (b.map PyData.str) = decide (a = b)
  | [], [] => by simp [PyData.eqvAll]
  | [], _ :: _ => by simp [PyData.eqvAll]
  | _ :: _, [] => by simp [PyData.eqvAll]
  | x :: a, y :: b => by
    rw [List.map_cons, List.map_cons, PyData.eqvAll, eqv_strs a b]
    by_cases h1 : x = y <;> by_cases h2 : a = b <;> simp [PyData.eqv, h1, h2]
theorem pd_strs {k : Nat} {l : List Str} (h : l.length ≤ LIM) (ho : ∀ w ∈ l, PyData.strOk w = true) : PD (k + 1) (.lst (l.map .str)) := .lst (by simpa using h) fun w hw => by
  obtain ⟨x, hx, rfl⟩ := List.mem_map.mp hw
  exact .str _ (ho x hx)
theorem eqW_strs {a b : List Str} (ha : a.length ≤ LIM) (hb : b.length ≤ LIM) (oa : ∀ w ∈ a, PyData.strOk w = true) (ob : ∀ w ∈ b, PyData.strOk w = true) : eqW (.lst (a.map .str)) (.lst (b.map .str)) = some (decide (a = b)) := by
  obtain ⟨d1, g1, g2, _⟩ := (pd_strs (k := 0) ha oa).shaped (by decide)
  obtain ⟨d2, g3, g4, _⟩ := (pd_strs (k := 0) hb ob).shaped (by decide)
  simp only [W.toD, toDs_strs, Option.map_some, Option.some.injEq] at g1 g3
  subst g1 g3
  unfold eqW
  simp only [W.toD, toDs_strs, Option.map_some, g2, g4, Bool.and_self, if_true]
  congr 1
  show PyData.eqvAll _ _ = _
  exact eqv_strs a b
/-- the last one, or what was ahead -/
def lastO {A : Type} (o : Option A) (l : List A) : Option A := match l.getLast? with
  | some x => some x
  | none => o
theorem turns_snoc {A : Type} [DecidableEq A] (b : A) : ∀ (l : List A) (o : Option A), turnsF o (l ++ [b]) = turnsF o l ++ (if lastO o l = some b then [] else [b])
  | [], o => by
    show turnsF o [b] = (if o = some b then [] else [b])
    rw [turnsF]
    split <;> rfl
  | a :: l, o => by
    have hl : ∀ o' : Option A, lastO (some a) l = lastO o' (a :: l) := fun o' => by
      unfold lastO
      cases l with
      | nil => rfl
      | cons c l => rw [List.getLast?_cons_cons]; cases h : (c :: l).getLast? with
        | none => simp at h
        | some x => rfl
    rw [List.cons_append, turnsF, turnsF]
    by_cases h : o = some a
    · rw [if_pos h, if_pos h, turns_snoc b l o]
      subst h
      rw [hl (some a)]
    · rw [if_neg h, if_neg h, turns_snoc b l (some a), hl o, List.cons_append]
theorem turns_len {A : Type} [DecidableEq A] : ∀ (l : List A) (o : Option A), (turnsF o l).length ≤ l.length
  | [], _ => Nat.le_refl 0
  | a :: l, o => by
    rw [turnsF]
    split
    · exact Nat.le_succ_of_le (turns_len l o)
    · exact Nat.succ_le_succ (turns_len l (some a))
theorem turns_mem {A : Type} [DecidableEq A] : ∀ (l : List A) (o : Option A), ∀ w ∈ turnsF o l, w ∈ l
  | [], _, _, h => by cases h
  | a :: l, o, w, h => by
    rw [turnsF] at h
    split at h
    · exact List.mem_cons_of_mem _ (turns_mem l o w h)
    · rcases List.mem_cons.mp h with rfl | h
      · exact List.mem_cons_self
      · exact List.mem_cons_of_mem _ (turns_mem l (some a) w h)
section
variable {P : Pg} {n c : Nat} {m : M} {T S : List W → W}
theorem turns_sp (B : Has P 10 b_turns_of 1 3 []) (hn : 0 < n) (hT : isSq T) {ws : List Str} (hl : ws.length ≤ 1000) (ho : ∀ w ∈ ws, PyData.strOk w = true) : (P.th n).fn 10 [.im (T (ws.map .str))] = .ok (.im (.tup ((turnsF none ws).map .str))) [.im .non] := by
  refine fn_ok B (by omega) rfl ?_
  have hen : enumFrom 0 (ws.map W.str) = (ws.zipIdx 0).map fun x => W.tup [vN x.2, .str x.1] := enum_enc ws 0
  obtain ⟨xs, r', e, rfl, rfl⟩ := compL_inv (f := cT (P.th (n - 1)) [1, 2] (.tp [.nm 1, .nm 2]) (.some (.dis (.cmp .eq (.var 1) (.cst (.int 0))) (.cmp .ne (.idx (.var 0) (.bin .sub (.var 1) (.cst (.int 1)))) (.var 2)))) (.var 2)) (ws := (ws.zipIdx 0).map fun x => W.tup [vN x.2, .str x.1]) (fun i r acc => acc = (turnsF none (ws.take i)).map .str ∧ r = [some (.im (T (ws.map .str))), none, none]) (r := [some (.im (T (ws.map .str))), none, none]) (i := 0) (acc := []) ⟨by rw [List.take_zero]; rfl, rfl⟩ (by rw [List.length_map, List.length_zipIdx]; exact lim_le (by simp; omega)) (by
    rintro j w r acc hj ⟨rfl, rfl⟩
    rw [Nat.zero_add]
    obtain ⟨x, hx, rfl⟩ : ∃ x, (ws.zipIdx 0)[j]? = some x ∧ w = W.tup [vN x.2, .str x.1] := by
      rw [List.getElem?_map] at hj
      obtain ⟨o, h1, h2⟩ := Option.map_eq_some_iff.mp hj
      exact ⟨o, h1, h2.symm⟩
    have hjl : j < ws.length := by
      have := (List.getElem?_eq_some_iff.mp hx).1
      rwa [List.length_zipIdx] at this
    obtain ⟨v, hv⟩ : ∃ v, ws[j]? = some v := ⟨ws[j], List.getElem?_eq_getElem hjl⟩
    have hxv : x = (v, j) := by
      rw [List.getElem?_zipIdx, hv] at hx
      simp at hx
      exact hx.symm
    subst hxv
    have htk : ws.take (j + 1) = ws.take j ++ [v] := by rw [List.take_add_one, hv]; rfl
    rw [htk, turns_snoc]
    have hvo := ho v (List.mem_of_getElem? hv)
    have hvj : vN j = .int (j : Int) := rfl
    rcases Nat.eq_zero_or_pos j with rfl | hj0
    · have h0 : ¬ lastO none (ws.take 0) = some v := by rw [List.take_zero]; exact fun h => by cases h
      rw [if_neg h0]
      have e0 : eqW (vN 0) (.int 0) = some true := by
        have := eqW_N (a := 0) (b := 0)
        rw [decide_eq_true rfl] at this
        exact this
      refine OK_gen fun Q hQ => ?_
      simp [cT, e0]
      exact hQ (some (.str v)) _ ⟨by simp [turnsF], rfl⟩
    · obtain ⟨u, hu⟩ : ∃ u, ws[j - 1]? = some u := ⟨ws[j - 1], List.getElem?_eq_getElem (by omega)⟩
      have huo := ho u (List.mem_of_getElem? hu)
      have hlast : lastO none (ws.take j) = some u := by
        unfold lastO
        rw [List.getLast?_eq_getElem?, List.length_take, Nat.min_eq_left (by omega), List.getElem?_take_of_lt (by omega), hu]
      rw [hlast]
      have hix : idxW (T (ws.map .str)) ((j : Int) - 1) = some (.str u) := by
        have h : ixW (ws.map W.str) ((j : Int) - 1) = some (.str u) := by
          rw [show (j : Int) - 1 = ((j - 1 : Nat) : Int) by omega, ixW_cast, List.getElem?_map, hu]; rfl
        rcases hT with rfl | rfl
        · exact h
        · exact h
      have heq := eqW_str u v huo hvo
      have hne : ¬ j = 0 := by omega
      by_cases huv : u = v
      · subst huv
        rw [if_pos rfl, List.append_nil]
        have hb : (u == u) = true := beq_self_eq_true u
        rw [hb] at heq
        refine OK_gen fun Q hQ => ?_
        simp [cT, hvj, hne, hix, heq]
        exact hQ none _ ⟨rfl, rfl⟩
      · rw [if_neg (fun h => huv (Option.some.inj h))]
        have hb : (u == v) = false := beq_eq_false_iff_ne.mpr huv
        rw [hb] at heq
        refine OK_gen fun Q hQ => ?_
        simp [cT, hvj, hne, hix, heq]
        exact hQ (some (.str v)) _ ⟨by simp, rfl⟩)
  rw [Nat.zero_add, List.length_map, List.length_zipIdx, List.take_length] at e
  rcases hT with rfl | rfl <;> simp [b_turns_of, hen, e]
end
end K19
end Dn
-- L1
set_option maxRecDepth 100000
set_option maxHeartbeats 4000000
/-! Rows of words led by logs: plain. -/
namespace Dn
open PySem
/-- the words of origins -/
def laidS (r : List Str) (s : List Nat) : List Str := s.map fun o => r.getD o sN
theorem foldW_len1 : ∀ (log : List (Nat × Bool)) (us : List W), (log.foldl stepW us).length = us.length
  | [], _ => rfl
  | t :: log, us => by rw [List.foldl_cons, foldW_len1 log, stepW_len]
theorem stepW_get {s : List W} {t : Nat × Bool} {x : Nat} (hx : x < s.length) : (stepW s t).getD x .non = s.getD (fS t x) .non := by
  unfold stepW fS
  by_cases h : x = t.1
  · subst h
    rw [if_pos rfl, List.getD_eq_getElem?_getD, List.getElem?_set_self hx]
    rfl
  · rw [if_neg h, List.getD_eq_getElem?_getD, List.getElem?_set_ne (fun e => h e.symm), ← List.getD_eq_getElem?_getD]
theorem foldW_get {n : Nat} : ∀ (log : List (Nat × Bool)) (s : List W) (x : Nat), s.length = n → (∀ t ∈ log, nbS t < n) → x < n → (log.foldl stepW s).getD x .non = s.getD (backS log x) .non
  | [], _, _, _, _, _ => rfl
  | t :: log, s, x, hl, h, hx => by
    have h2 : ∀ u ∈ log, nbS u < n := fun u hu => h u (List.mem_cons_of_mem _ hu)
    rw [List.foldl_cons, foldW_get log (stepW s t) x (by rw [stepW_len]; exact hl) h2 hx, stepW_get (by rw [hl]; exact backS_lt h2 hx)]
    rfl
theorem ext_getW {s t : List W} (hl : s.length = t.length) (h : ∀ x, x < s.length → s.getD x .non = t.getD x .non) : s = t := by
  refine List.ext_getElem hl fun i h1 h2 => ?_
  have := h i h1
  rw [List.getD_eq_getElem?_getD, List.getD_eq_getElem?_getD, List.getElem?_eq_getElem h1, List.getElem?_eq_getElem h2] at this
  exact this
theorem laid_len (r : List Str) (s : List Nat) : (laidS r s).length = s.length := by simp [laidS]
theorem laid_get {r : List Str} {s : List Nat} {x : Nat} (hx : x < s.length) : (laidS r s).getD x sN = r.getD (s.getD x 0) sN := by
  unfold laidS
  have h1 : s.getD x 0 = s[x] := by rw [List.getD_eq_getElem?_getD, List.getElem?_eq_getElem hx]; rfl
  rw [h1, List.getD_eq_getElem?_getD, List.getElem?_map, List.getElem?_eq_getElem hx]
  rfl
/-- a row of words behind a log: the words of its origins -/
theorem fold_laid {r : List Str} {log : List (Nat × Bool)} (h : ∀ t ∈ log, nbS t < r.length) : log.foldl stepW (r.map .str) = (laidS r (orgS r.length log)).map .str := by
  refine ext_getW (by rw [foldW_len1, List.length_map, List.length_map, laid_len, org_len]) fun x hx => ?_
  rw [foldW_len1, List.length_map] at hx
  have hb := backS_lt h hx
  rw [foldW_get log (r.map .str) x (by rw [List.length_map]) h hx, List.getD_eq_getElem?_getD, List.getElem?_map, List.getElem?_eq_getElem hb, List.getD_eq_getElem?_getD, List.getElem?_map]
  unfold laidS
  rw [List.getElem?_map]
  have h1 : (orgS r.length log)[x]? = some (backS log x) := by
    have := org_get h hx
    rw [List.getD_eq_getElem?_getD] at this
    have hl : x < (orgS r.length log).length := by rw [org_len]; exact hx
    rw [List.getElem?_eq_getElem hl] at this ⊢
    exact congrArg some this
  rw [h1]
  simp only [Option.map_some, Option.getD_some]
  rw [List.getD_eq_getElem?_getD, List.getElem?_eq_getElem hb]
  rfl
theorem eqW_tS {a b : List Str} (ha : a.length ≤ LIM) (hb : b.length ≤ LIM) (oa : ∀ w ∈ a, PyData.strOk w = true) (ob : ∀ w ∈ b, PyData.strOk w = true) : eqW (.tup (a.map .str)) (.tup (b.map .str)) = some (decide (a = b)) := by
  have pd : ∀ {l : List Str}, l.length ≤ LIM → (∀ w ∈ l, PyData.strOk w = true) → PD 1 (.tup (l.map .str)) := fun {l} h ho => .tup (by simpa using h) fun w hw => by
    obtain ⟨x, hx, rfl⟩ := List.mem_map.mp hw
    exact .str _ (ho x hx)
  obtain ⟨d1, g1, g2, _⟩ := (pd ha oa).shaped (by decide)
  obtain ⟨d2, g3, g4, _⟩ := (pd hb ob).shaped (by decide)
  simp only [W.toD, K19.toDs_strs, Option.map_some, Option.some.injEq] at g1 g3
  subst g1 g3
  unfold eqW
  simp only [W.toD, K19.toDs_strs, Option.map_some, g2, g4, Bool.and_self, if_true]
  congr 1
  show PyData.eqvAll _ _ = _
  exact K19.eqv_strs a b
theorem laid_ok {r : List Str} {s : List Nat} (hr : ∀ w ∈ r, PyData.strOk w = true) : ∀ w ∈ laidS r s, PyData.strOk w = true := fun w hw => by
  obtain ⟨o, _, rfl⟩ := List.mem_map.mp hw
  rw [List.getD_eq_getElem?_getD]
  cases e : r[o]? with
  | none => show PyData.strOk sN = true; decide +kernel
  | some z => exact hr z (List.mem_of_getElem? e)
/-- words all unlike tell the origins -/
theorem laid_inj {r : List Str} {s t : List Nat} (hn : ∀ i j, i < r.length → j < r.length → r.getD i sN = r.getD j sN → i = j) (hs : ∀ o ∈ s, o < r.length) (ht : ∀ o ∈ t, o < r.length) (hl : s.length = t.length) (e : laidS r s = laidS r t) : s = t := by
  refine ext_getD hl fun x hx => ?_
  have h1 := congrArg (fun l => l.getD x sN) e
  rw [laid_get hx, laid_get (by omega)] at h1
  exact hn _ _ (hs _ (mem_getD hx)) (ht _ (mem_getD (by omega))) h1
/-- all rows of two words -/
def wA : Str := ⟨#[97]⟩
def wB : Str := ⟨#[98]⟩
def rowsAB : Nat → List (List Str)
  | 0 => [[]]
  | n + 1 => (rowsAB n).map (· ++ [wA]) ++ (rowsAB n).map (· ++ [wB])
theorem rowsAB_len : ∀ n, (rowsAB n).length = 2 ^ n
  | 0 => rfl
  | n + 1 => by rw [rowsAB, List.length_append, List.length_map, List.length_map, rowsAB_len n, Nat.pow_succ]; omega
theorem rowsAB_mem : ∀ {n : Nat} {r : List Str}, r ∈ rowsAB n ↔ r.length = n ∧ ∀ w ∈ r, w = wA ∨ w = wB
  | 0, r => by
    simp only [rowsAB, List.mem_singleton]
    constructor
    · rintro rfl; simp
    · rintro ⟨h, _⟩; exact List.eq_nil_of_length_eq_zero h
  | n + 1, r => by
    simp only [rowsAB, List.mem_append, List.mem_map]
    constructor
    · rintro (⟨q, hq, rfl⟩ | ⟨q, hq, rfl⟩) <;>
      · obtain ⟨h1, h2⟩ := rowsAB_mem.mp hq
        refine ⟨by simp [h1], fun w hw => ?_⟩
        rcases List.mem_append.mp hw with hw | hw
        · exact h2 w hw
        · simp at hw; simp [hw]
    · rintro ⟨h1, h2⟩
      have hne : r ≠ [] := fun z => by rw [z] at h1; simp at h1
      have e := List.dropLast_concat_getLast hne
      have hd : r.dropLast ∈ rowsAB n := rowsAB_mem.mpr ⟨by rw [List.length_dropLast, h1]; rfl, fun w hw => h2 w ((List.dropLast_sublist r).subset hw)⟩
      rcases h2 (r.getLast hne) (List.getLast_mem hne) with h | h
      · exact .inl ⟨_, hd, by rw [← h]; exact e⟩
      · exact .inr ⟨_, hd, by rw [← h]; exact e⟩
/-- two rows of origins are one where all rows of two words say so -/
theorem laid_AB {n : Nat} {s t : List Nat} (hs : s.length = n) (ht : t.length = n) (ls : ∀ o ∈ s, o < n) (lt : ∀ o ∈ t, o < n) : (rowsAB n).all (fun r => decide (laidS r s = laidS r t)) = decide (s = t) := by
  by_cases e : s = t
  · subst e
    simp
  · rw [decide_eq_false e, Bool.eq_false_iff]
    intro h
    rw [List.all_eq_true] at h
    apply e
    refine ext_getD (by omega) fun x hx => ?_
    rcases Nat.lt_trichotomy (s.getD x 0) (t.getD x 0) with hlt | heq | hlt
    · exfalso
      have hr : ((List.range n).map fun i => if i ≤ s.getD x 0 then wA else wB) ∈ rowsAB n := rowsAB_mem.mpr ⟨by simp, fun w hw => by
        obtain ⟨i, _, rfl⟩ := List.mem_map.mp hw
        split <;> simp⟩
      have h2 := of_decide_eq_true (h _ hr)
      have h3 := congrArg (fun l => l.getD x sN) h2
      have g1 := ls _ (mem_getD hx)
      have g2 := lt _ (mem_getD (s := t) (p := x) (by omega))
      rw [laid_get hx, laid_get (by omega)] at h3
      rw [List.getD_eq_getElem?_getD (l := List.map _ _), List.getElem?_map, List.getElem?_range g1, List.getD_eq_getElem?_getD (l := List.map _ _), List.getElem?_map, List.getElem?_range g2] at h3
      simp only [Option.map_some, Option.getD_some, Nat.le_refl, if_true] at h3
      rw [if_neg (by omega)] at h3
      exact absurd h3 (by decide)
    · exact heq
    · exfalso
      have hr : ((List.range n).map fun i => if i ≤ t.getD x 0 then wA else wB) ∈ rowsAB n := rowsAB_mem.mpr ⟨by simp, fun w hw => by
        obtain ⟨i, _, rfl⟩ := List.mem_map.mp hw
        split <;> simp⟩
      have h2 := of_decide_eq_true (h _ hr)
      have h3 := congrArg (fun l => l.getD x sN) h2
      have g1 := ls _ (mem_getD hx)
      have g2 := lt _ (mem_getD (s := t) (p := x) (by omega))
      rw [laid_get hx, laid_get (by omega)] at h3
      rw [List.getD_eq_getElem?_getD (l := List.map _ _), List.getElem?_map, List.getElem?_range g1, List.getD_eq_getElem?_getD (l := List.map _ _), List.getElem?_map, List.getElem?_range g2] at h3
      simp only [Option.map_some, Option.getD_some, Nat.le_refl, if_true] at h3
      rw [if_neg (by omega)] at h3
      exact absurd h3.symm (by decide)
/-- a slice of a list of things -/
theorem cut_map {A : Type} (f : A → W) (l : List A) (lo hi : Option Int) : ∃ s : List A, cutW (l.map f) lo hi = s.map f ∧ (∀ a ∈ s, a ∈ l) ∧ s.length ≤ l.length := by
  refine ⟨(l.drop (HT.sIx l.length 0 lo)).take (HT.sIx l.length l.length hi - HT.sIx l.length 0 lo), ?_, fun a ha => List.mem_of_mem_drop (List.mem_of_mem_take ha), ?_⟩
  · unfold cutW
    rw [List.length_map, List.map_take, List.map_drop]
  · rw [List.length_take, List.length_drop]; omega
end Dn
-- K85
set_option maxRecDepth 100000
set_option maxHeartbeats 4000000
/-! k85: the law's parts. -/
namespace Dn
open PySem
namespace K85
/-- parting: 3, 9 names, 0 changed: 0 ears 1 one 2 other 3 mine 4 its 5 place 6 origin 7 least 8 at -/
def b_parting : Ss := (.cons (.par [3, 4] (.val (.call 27 (.val (.var 0) (.val (.var 1) .nil))) (.val (.call 27 (.val (.var 0) (.val (.var 2) .nil))) .nil)))
  (.cons (.for_ (.tp [(.nm 5), (.nm 6)]) (.enum (.var 3))
  (.cons (.ite (.cmp .ne (.var 6) (.idx (.var 4) (.var 5)))
  (.cons (.set (.nm 7) (.bi .min2 (.cons (.var 6) (.cons (.idx (.var 4) (.var 5)) .nil))))
  (.cons (.ret (.tup (.cons (.bi .tuple (.cons (.comp [8] (.nm 8) (.rng1 (.bi .len (.cons (.var 0) .nil))) .none (.ife (.cmp .le (.var 8) (.var 7)) (.glob (⟨#[79, 78, 69, 95, 87, 79, 82, 68]⟩ : Str) (.str (⟨#[97]⟩ : Str))) (.glob (⟨#[79, 84, 72, 69, 82, 95, 87, 79, 82, 68]⟩ : Str) (.str (⟨#[98]⟩ : Str))))) .nil)) (.cons (.var 5) .nil))))
  .nil))
  .nil)
  .nil))
  (.cons (.ret (.cst .non))
  .nil)))
/-- _law_other: 3, 5 names, 1 changed: 0 box_here 1 ears_here 2 log_here 3 way 4 at -/
def b_Lother : Ss := (.cons (.par [3, 4] (.val (.call 502 (.bor 0 (.val (.cst (.int 4)) .nil))) (.val (.call 502 (.bor 0 (.val (.frz (.bin .add (.bi .len (.cons (.var 2) .nil)) (.cst (.int 1)))) .nil))) .nil)))
  (.cons (.ite (.cmp .eq (.var 3) (.cst (.int 0)))
  (.cons (.ret (.bin .add (.bin .add (.slc (.var 2) .none (.some (.var 4))) (.slc (.var 2) (.some (.var 4)) (.some (.bin .add (.var 4) (.cst (.int 1)))))) (.slc (.var 2) (.some (.var 4)) .none)))
  .nil)
  .nil)
  (.cons (.ite (.cmp .eq (.var 3) (.cst (.int 1)))
  (.cons (.ret (.bin .add (.slc (.var 2) .none (.some (.var 4))) (.slc (.var 2) (.some (.bin .add (.var 4) (.cst (.int 1)))) .none)))
  .nil)
  .nil)
  (.cons (.ite (.cmp .eq (.var 3) (.cst (.int 2)))
  (.cons (.ret (.bin .add (.bin .add (.slc (.var 2) .none (.some (.var 4))) (.call 512 (.bor 0 (.val (.var 1) (.val (.cst (.int 2)) .nil))))) (.slc (.var 2) (.some (.var 4)) .none)))
  .nil)
  .nil)
  (.cons (.ret (.bin .add (.bin .add (.slc (.var 2) .none (.some (.var 4))) (.rvs (.slc (.var 2) (.some (.var 4)) (.some (.bin .add (.var 4) (.cst (.int 2))))))) (.slc (.var 2) (.some (.bin .add (.var 4) (.cst (.int 2)))) .none)))
  .nil)))))
/-- _law_rows: 1, 4 names, 0 changed: 0 many 1 found 2 place 3 row -/
def b_Lrows : Ss := (.cons (.set (.nm 1) (.frz (.lst (.cons (.tup .nil) .nil))))
  (.cons (.for_ (.nm 2) (.rng1 (.var 0))
  (.cons (.set (.nm 1) (.frz (.bin .add (.comp [3] (.nm 3) (.seq (.var 1)) .none (.bin .add (.var 3) (.tup (.cons (.cst (.str (⟨#[97]⟩ : Str))) .nil)))) (.comp [3] (.nm 3) (.seq (.var 1)) .none (.bin .add (.var 3) (.tup (.cons (.cst (.str (⟨#[98]⟩ : Str))) .nil)))))))
  .nil))
  (.cons (.retv 1)
  .nil)))
section
variable {P : Pg} {n c : Nat} {m : M} {T S : List W → W}
theorem oth_sp (B : Has P 536 b_Lother 3 5 [0]) (BG : Has P 512 Dn.b_Llog 3 5 [0]) (B1 : Has P 508 b_Llets 1 4 []) (B2 : Has P 509 b_Lof 2 2 [0]) (B3 : Has P 502 (b_take 502) 2 5 [0]) (hn : 3 < n) {es : List Str} (hl : es.length ≤ 1000) {log : List (Nat × Bool)} (ht : ∀ t ∈ log, LetT es t) (hlog : log.length ≤ 100) (hm : Bx c m) (hc : c < 2 ^ 58) :
    ∃ (l2 : List (Nat × Bool)) (m' : M), (P.th n).fn 536 [m, .im (.tup (es.map .str)), .im (.lst (log.map tkW))] = .ok (.ls (l2.map tkW)) [m', .im .non, .im .non] ∧ l2.length ≤ 302 ∧ (∀ t ∈ l2, LetT es t) ∧ Bx (c + 5) m' := by
  have key : ∃ (v : M) (as : List M), (P.th n).fn 536 [m, .im (.tup (es.map .str)), .im (.lst (log.map tkW))] = .ok v as ∧ ∃ (l2 : List (Nat × Bool)) (m' : M), v = .ls (l2.map tkW) ∧ as = [m', .im .non, .im .non] ∧ l2.length ≤ 302 ∧ (∀ t ∈ l2, LetT es t) ∧ Bx (c + 5) m' := by
    refine fn_lk B (by omega) rfl ?_
    obtain ⟨t, m1, e1, d1, g1⟩ := take_sp (n := n - 1) B3 (by omega) hm (by omega) (s := 4) (by omega) (by omega)
    obtain ⟨at_, m2, e2, d2, g2⟩ := take_sp (n := n - 1) B3 (by omega) g1 (by omega) (s := (log.length : Int) + 1) (by omega) (by omega)
    obtain ⟨sm, m3, e3, d3, h3, g3⟩ := log_sp (n := n - 1) BG B1 B2 B3 (by omega) (es := es) hl g2 (by omega) (k := 2) (by omega)
    have e3' : (P.th (n - 1)).fn 512 [m2, .im (.tup (es.map .str)), .im (.int 2)] = .ok (.ls (sm.map tkW)) [m3, .im .non, .im .non] := e3
    obtain ⟨A, a1, a2, a3⟩ := cut_map tkW log none (some (at_ : Int))
    obtain ⟨D, b1, b2, b3⟩ := cut_map tkW log (some (at_ : Int)) none
    obtain ⟨C, c1, c2, c3⟩ := cut_map tkW log (some (at_ : Int)) (some ((at_ : Int) + 1))
    obtain ⟨E, f1, f2, f3⟩ := cut_map tkW log (some ((at_ : Int) + 1)) none
    obtain ⟨F, i1, i2, i3⟩ := cut_map tkW log (some (at_ : Int)) (some ((at_ : Int) + 2))
    obtain ⟨G, j1, j2, j3⟩ := cut_map tkW log (some ((at_ : Int) + 2)) none
    have add : ∀ x y : List (Nat × Bool), x.length + y.length ≤ 400 → binW .add (.lst (x.map tkW)) (.lst (y.map tkW)) = some (.ls ((x ++ y).map tkW)) := fun x y h => by
      rw [b_lsadd (by rw [List.length_map, List.length_map]; exact lim_le (by omega)), List.map_append]
    have k1 := add A C (by omega)
    have k2 := add (A ++ C) D (by rw [List.length_append]; omega)
    have k3 := add A E (by omega)
    have k4 := add A sm (by omega)
    have k5 := add (A ++ sm) D (by rw [List.length_append]; omega)
    have k6 := add A F.reverse (by rw [List.length_reverse]; omega)
    have k7 := add (A ++ F.reverse) G (by rw [List.length_append, List.length_reverse]; omega)
    have hr : (F.map tkW).reverse = F.reverse.map tkW := List.map_reverse.symm
    generalize hW : log.map tkW = Wl at a1 b1 c1 f1 i1 j1
    refine OK_gen fun Q hQ => ?_
    rcases (by omega : t = 0 ∨ t = 1 ∨ t = 2 ∨ t = 3) with rfl | rfl | rfl | rfl
    · simp only [Int.natCast_zero, Int.cast_ofNat_Int] at e1
      have hWl : (Wl.length : Int) = (log.length : Int) := by rw [← hW, List.length_map]
      simp [b_Lother, e1, hWl, e2, a1, c1, b1, k1, k2, -List.map_append, -List.append_assoc]
      exact hQ _ _ ⟨_, [m2, .im .non, .im .non], rfl, by simp [argsOf], _, m2, rfl, rfl, by simp only [List.length_append]; omega, fun t h => by
        rcases List.mem_append.mp h with h | h
        · rcases List.mem_append.mp h with h | h
          · exact ht t (a2 t h)
          · exact ht t (c2 t h)
        · exact ht t (b2 t h), g2.up (by omega)⟩
    · have hWl : (Wl.length : Int) = (log.length : Int) := by rw [← hW, List.length_map]
      simp [b_Lother, e1, hWl, e2, a1, f1, k3, -List.map_append, -List.append_assoc]
      exact hQ _ _ ⟨_, [m2, .im .non, .im .non], rfl, by simp [argsOf], _, m2, rfl, rfl, by simp only [List.length_append]; omega, fun t h => by
        rcases List.mem_append.mp h with h | h
        · exact ht t (a2 t h)
        · exact ht t (f2 t h), g2.up (by omega)⟩
    · have hWl : (Wl.length : Int) = (log.length : Int) := by rw [← hW, List.length_map]
      simp [b_Lother, e1, hWl, e2, a1, e3', b1, k4, k5, -List.map_append, -List.append_assoc]
      exact hQ _ _ ⟨_, [m3, .im .non, .im .non], rfl, by simp [argsOf], _, m3, rfl, rfl, by simp only [List.length_append]; omega, fun t h => by
        rcases List.mem_append.mp h with h | h
        · rcases List.mem_append.mp h with h | h
          · exact ht t (a2 t h)
          · exact h3 t h
        · exact ht t (b2 t h), g3.up (by omega)⟩
    · have hWl : (Wl.length : Int) = (log.length : Int) := by rw [← hW, List.length_map]
      simp [b_Lother, e1, hWl, e2, a1, i1, hr, j1, k6, k7, -List.map_append, -List.map_reverse, -List.append_assoc]
      exact hQ _ _ ⟨_, [m2, .im .non, .im .non], rfl, by simp [argsOf], _, m2, rfl, rfl, by simp only [List.length_append, List.length_reverse]; omega, fun t h => by
        rcases List.mem_append.mp h with h | h
        · rcases List.mem_append.mp h with h | h
          · exact ht t (a2 t h)
          · exact ht t (i2 t (List.mem_reverse.mp h))
        · exact ht t (j2 t h), g2.up (by omega)⟩
  obtain ⟨v, as, e, l2, m', rfl, rfl, h⟩ := key
  exact ⟨l2, m', e, h⟩
def tS (r : List Str) : W := .tup (r.map .str)
theorem rows_sp (B : Has P 549 b_Lrows 1 4 []) (hn : 0 < n) {k : Nat} (hk : k ≤ 8) : (P.th n).fn 549 [.im (.int k)] = .ok (.im (.lst ((rowsAB k).map tS))) [.im .non] := by
  refine fn_ok B (by omega) rfl ?_
  have hrj : rOk (k : Int) = true := rOk_nat (by omega)
  have hup : upTo 0 k = (List.range k).map vN := upTo_vN k
  simp [b_Lrows, hrj, hup]
  rw [OK_bind]
  refine OK.mono (forL_ok (fun j r => ∃ x y : Option M, r = [some (.im (.int k)), some (.im (.lst ((rowsAB j).map tS))), x, y]) ⟨none, none, rfl⟩ ?_) ?_
  · rintro j w r hj ⟨x, y, rfl⟩
    have hjl : j < k := by
      have := (List.getElem?_eq_some_iff.mp hj).1
      simpa using this
    have hlen : (rowsAB j).length ≤ 256 := by
      rw [rowsAB_len]
      exact Nat.pow_le_pow_right (n := 2) (by decide) (show j ≤ 8 by omega)
    have cc : ∀ (s : Str) (r : Env) (h : ∀ q ∈ rowsAB j, cT (P.th (n - 1)) [3] (.nm 3) .none (.bin .add (.var 3) (.tup (.cons (.cst (.str s)) .nil))) (tS q) r = .ok (some (tS (q ++ [s]))) r), compL (cT (P.th (n - 1)) [3] (.nm 3) .none (.bin .add (.var 3) (.tup (.cons (.cst (.str s)) .nil)))) ((rowsAB j).map tS) r [] = .ok ((rowsAB j).map fun q => tS (q ++ [s])) r := fun s r h => compL_all (enc := tS) (fun q => tS (q ++ [s])) h (lim_le (by omega))
    have add : ∀ (s : Str) (q : List Str), q ∈ rowsAB j → binW .add (tS q) (.tup [.str s]) = some (.im (tS (q ++ [s]))) := fun s q hq => by
      have := (rowsAB_mem.mp hq).1
      rw [tS, b_tupadd (by rw [List.length_map, this]; exact lim_le (by simp; omega)), tS, List.map_append]
      rfl
    have hadd : binW .add (.lst ((rowsAB j).map fun q => tS (q ++ [wA]))) (.lst ((rowsAB j).map fun q => tS (q ++ [wB]))) = some (.ls ((rowsAB (j + 1)).map tS)) := by
      rw [b_lsadd (by rw [List.length_map, List.length_map]; exact lim_le (by omega)), rowsAB, List.map_append, List.map_map, List.map_map]
      rfl
    have wA_eq : (⟨#[97]⟩ : Str) = wA := rfl
    have wB_eq : (⟨#[98]⟩ : Str) = wB := rfl
    have ca := cc wA
    have cb := cc wB
    generalize ((rowsAB (j + 1)).map tS) = R2 at hadd ⊢
    generalize ((rowsAB j).map fun q => tS (q ++ [wA])) = RA at ca hadd
    generalize ((rowsAB j).map fun q => tS (q ++ [wB])) = RB at cb hadd
    refine OK_gen fun Q hQ => ?_
    simp [fT, wA_eq, wB_eq]
    rw [ca _ (fun q hq => by simp [cT, add _ q hq])]
    simp
    rw [cb _ (fun q hq => by simp [cT, add _ q hq])]
    simp [hadd]
    exact hQ _ _ ⟨rfl, _, _, rfl⟩
  · rintro fl r ⟨rfl, x, y, rfl⟩
    simp
theorem part_sp (B : Has P 70 b_parting 3 9 []) (BT : ProgT P) (hn : 5 < n) {es : List Str} {a b : List (Nat × Bool)} (ha : ∀ t ∈ a, LetT es t) (hb : ∀ t ∈ b, LetT es t) (hL : es.length < 64) :
    ∃ w : W, (P.th n).fn 70 [.im (.tup (es.map .str)), .im (.lst (a.map tkW)), .im (.lst (b.map tkW))] = .ok (.im w) [.im .non, .im .non, .im .non] ∧ isNon w = decide (orgS es.length a = orgS es.length b) := by
  have key : ∃ v : M, (P.th n).fn 70 [.im (.tup (es.map .str)), .im (.lst (a.map tkW)), .im (.lst (b.map tkW))] = .ok v (List.replicate 3 (.im .non)) ∧ ∃ w, v = .im w ∧ isNon w = decide (orgS es.length a = orgS es.length b) := by
    have e1 := org_sp (n := n - 1) (enc := tkW) BT (by omega) (.inr rfl) (.inl rfl) (fun t => .inl rfl) ha (by omega)
    have e2 := org_sp (n := n - 1) (enc := tkW) BT (by omega) (.inr rfl) (.inl rfl) (fun t => .inl rfl) hb (by omega)
    have la : (orgS es.length a).length = es.length := org_len _ _
    have lb : (orgS es.length b).length = es.length := org_len _ _
    generalize orgS es.length a = s at e1 la ⊢
    generalize orgS es.length b = t at e2 lb ⊢
    refine fn_ex B (by omega) rfl ?_
    simp [b_parting, e1, e2, enum_vN, -List.getD_eq_getElem?_getD]
    rw [OK_bind]
    refine OK.mono (forL_ret (fun j r => (∃ x5 x6 x7 x8 : Option M, r = [some (.im (.tup (es.map .str))), some (.im (.lst (a.map tkW))), some (.im (.lst (b.map tkW))), some (.im (.tup (s.map vN))), some (.im (.tup (t.map vN))), x5, x6, x7, x8]) ∧ ∀ i, i < j → s.getD i 0 = t.getD i 0) (fun fl r => (∃ w, fl = .ret (.im w) ∧ isNon w = false ∧ s ≠ t) ∨ (fl = .nx ∧ s = t)) ⟨⟨none, none, none, none, rfl⟩, fun i hi => by omega⟩ ?_ ?_) ?_
    · rintro j w r hj ⟨⟨x5, x6, x7, x8, rfl⟩, hall⟩
      have hjl : j < s.length := by
        have := (List.getElem?_eq_some_iff.mp hj).1
        simpa using this
      have hw : w = W.tup [vN j, vN (s.getD j 0)] := by
        rw [List.getElem?_map, List.getElem?_range hjl] at hj
        exact (Option.some.inj hj).symm
      subst hw
      have ix : ixW (t.map vN) (j : Int) = some (vN (t.getD j 0)) := ixW_nat (by rw [List.getElem?_map, List.getD_eq_getElem?_getD, List.getElem?_eq_getElem (by omega)]; rfl)
      by_cases he : s.getD j 0 = t.getD j 0
      · refine OK_gen fun Q hQ => ?_
        simp [fT, vN, -ixW_cast, -List.getD_eq_getElem?_getD] at ix ⊢
        simp [-ixW_cast, -List.getD_eq_getElem?_getD, ix, he]
        refine hQ _ _ (.inl ⟨rfl, ⟨_, _, _, _, rfl⟩, fun i hi => ?_⟩)
        by_cases hij : i = j
        · subst hij; exact he
        · exact hall i (by omega)
      · have hst : s ≠ t := fun e => he (by rw [e])
        have he2 : ¬ ((s.getD j 0 : Nat) : Int) = ((t.getD j 0 : Nat) : Int) := by omega
        have hrj : rOk ((es.map W.str).length : Int) = true := rOk_nat (by rw [List.length_map]; omega)
        have hup : upTo 0 (es.map W.str).length = (List.range (es.map W.str).length).map vN := upTo_vN _
        have cc : ∀ (lo : Int) (x y : Str) (X Y : E) (r : Env) (h : ∀ p ∈ List.range (es.map W.str).length, cT (P.th (n - 1)) [8] (.nm 8) .none (.ife (.cmp .le (.var 8) (.var 7)) X Y) (vN p) r = .ok (some (.str (if (p : Int) ≤ lo then x else y))) r), compL (cT (P.th (n - 1)) [8] (.nm 8) .none (.ife (.cmp .le (.var 8) (.var 7)) X Y)) ((List.range (es.map W.str).length).map vN) r [] = .ok ((List.range (es.map W.str).length).map fun (p : Nat) => W.str (if (p : Int) ≤ lo then x else y)) r := fun lo x y X Y r h => compL_all (enc := vN) (fun (p : Nat) => W.str (if (p : Int) ≤ lo then x else y)) h (lim_le (by simp; omega))
        generalize s.getD j 0 = u at he2 ⊢
        generalize t.getD j 0 = v at he2 ix
        refine OK_gen fun Q hQ => ?_
        generalize hl : es.map W.str = EW at hrj hup cc hQ ⊢
        simp [fT, vN, -ixW_cast] at ix ⊢
        simp [-ixW_cast, ix, he2, hrj, hup]
        generalize (if v < u then (v : Int) else (u : Int)) = lo
        rw [cc lo ⟨#[97]⟩ ⟨#[98]⟩ _ _ _ (fun p hp => by
          by_cases hp : (p : Int) ≤ lo <;> simp [cT, vN, hp])]
        simp
        exact hQ _ _ (.inr (.inl ⟨⟨_, rfl⟩, .inl ⟨_, rfl, rfl, hst⟩⟩))
    · rintro r ⟨_, hall⟩
      exact .inr ⟨rfl, ext_getD (by omega) fun x hx => hall x (by simp; omega)⟩
    · rintro fl r (⟨w, rfl, h1, h2⟩ | ⟨rfl, h⟩)
      · simp [h1, h2]
      · simp [h]
  obtain ⟨v, e, w, rfl, h⟩ := key
  exact ⟨w, e, h⟩
theorem sh_sp (BO : Has P 5 K95.b_open_ears 1 1 []) (BS : Has P 71 K95.b_shortened 2 2 []) (BL : ProgL0 P) (hn : 6 < n) {es : List Str} {a : List (Nat × Bool)} (ha : ∀ t ∈ a, LetT es t) (h0 : 0 < es.length) (hL : es.length < 64) :
    (P.th n).fn 71 [.im (.tup (es.map .str)), .im (.lst (a.map tkW))] = .ok (.ls ((llS (orgS es.length a)).map tkW)) [.im .non, .im .non] := by
  refine fn_ok BS (by omega) rfl ?_
  have hnb : ∀ t ∈ a, nbS t < es.length := fun t h => (ha t h).nlt
  have e1 := org_sp (n := n - 1) (enc := tkW) BL.t (by omega) (.inr rfl) (.inl rfl) (fun t => .inl rfl) ha (by omega)
  have e2 := K95.oe_sp (n := n - 1) BO (by omega) (k := es.length) (by omega) (by omega)
  have hw := org_let (es := List.replicate es.length sB) (log := a) fun t h => K95.wide_let (ha t h)
  rw [List.length_replicate] at hw
  have e3 := least_sp0 (n := n - 1) BL (by omega) (.inr rfl) (.inr rfl) (es := List.replicate es.length sB) (s := orgS es.length a) (by rw [org_len, List.length_replicate]) (by rw [org_len]; exact hL) (org_ris hnb).lt hw
  generalize (List.replicate es.length sB).map W.str = W1 at e2 e3
  simp [K95.b_shortened, e1, e2, e3]
end
end K85
end Dn
-- K85b
set_option maxRecDepth 100000
set_option maxHeartbeats 4000000
/-! k85: the law. -/
namespace Dn
open PySem
namespace K85
def b_turn : Ss := (.cons (.set (.nm 8) (.frz (.call 512 (.bor 0 (.val (.var 2) (.val (.cst (.int 12)) .nil))))))
  (.cons (.set (.nm 9) (.frz (.call 536 (.bor 0 (.val (.var 2) (.val (.var 8) .nil))))))
  (.cons (.set (.nm 10) (.bi .all (.cons (.comp [11] (.nm 11) (.seq (.var 4)) .none (.cmp .eq (.call 17 (.val (.var 11) (.val (.var 2) (.val (.var 8) .nil)))) (.call 17 (.val (.var 11) (.val (.var 2) (.val (.var 9) .nil)))))) .nil)))
  (.cons (.ite (.dis (.cmp .ne (.call 69 (.val (.var 2) (.val (.var 8) (.val (.var 9) .nil)))) (.var 10)) (.cmp .ne (.cmp .is_ (.call 70 (.val (.var 2) (.val (.var 8) (.val (.var 9) .nil)))) (.cst .non)) (.var 10)))
  (.cons (.ret (.cst (.bl false)))
  .nil)
  .nil)
  (.cons (.ite (.cmp .ne (.cmp .eq (.call 17 (.val (.var 5) (.val (.var 2) (.val (.var 8) .nil)))) (.call 17 (.val (.var 5) (.val (.var 2) (.val (.var 9) .nil))))) (.var 10))
  (.cons (.ret (.cst (.bl false)))
  .nil)
  .nil)
  (.cons (.set (.nm 12) (.frz (.call 512 (.bor 0 (.val (.var 2) (.val (.cst (.int 6)) .nil))))))
  (.cons (.ite (.con (.var 10) (.inv (.call 69 (.val (.var 2) (.val (.frz (.bin .add (.var 8) (.var 12))) (.val (.frz (.bin .add (.var 9) (.var 12))) .nil))))))
  (.cons (.ret (.cst (.bl false)))
  .nil)
  .nil)
  (.cons (.ite (.con (.var 10) (.inv (.call 69 (.val (.var 2) (.val (.frz (.bin .add (.var 12) (.var 8))) (.val (.frz (.bin .add (.var 12) (.var 9))) .nil))))))
  (.cons (.ret (.cst (.bl false)))
  .nil)
  .nil)
  (.cons (.par [13, 14] (.val (.call 5 (.val (.var 1) .nil)) (.val (.frz (.call 71 (.val (.var 2) (.val (.var 8) .nil)))) .nil)))
  (.cons (.ite (.dis (.cmp .gt (.bi .len (.cons (.var 14) .nil)) (.bi .len (.cons (.var 8) .nil))) (.dis (.inv (.call 69 (.val (.var 13) (.val (.var 14) (.val (.var 8) .nil))))) (.inv (.call 46 (.val (.var 13) (.val (.var 14) .nil))))))
  (.cons (.ret (.cst (.bl false)))
  .nil)
  .nil)
  (.cons (.ite (.cmp .ne (.bi .len (.cons (.call 71 (.val (.var 13) (.val (.var 14) .nil))) .nil)) (.bi .len (.cons (.var 14) .nil)))
  (.cons (.ret (.cst (.bl false)))
  .nil)
  .nil)
  .nil)))))))))))
/-- _law_right: 1, 15 names, 1 changed: 0 box_here 1 many 2 ears_here 3 letters 4 rows_here 5 unlike 6 place 7 turn 8 log_here 9 other_here 10 due 11 row 12 some 13 wide 14 less -/
def b_Lright : Ss := (.cons (.set (.nm 1) (.bin .add (.cst (.int 1)) (.call 502 (.bor 0 (.val (.cst (.int 6)) .nil)))))
  (.cons (.par [2, 3] (.val (.call 507 (.bor 0 (.val (.var 1) .nil))) (.val (.cst (.str (⟨#[107, 108, 109, 110, 111, 112, 113, 114, 115, 116]⟩ : Str))) .nil)))
  (.cons (.par [4, 5] (.val (.frz (.call 549 (.val (.var 1) .nil))) (.val (.bi .tuple (.cons (.comp [6] (.nm 6) (.rng1 (.var 1)) .none (.idx (.var 3) (.var 6))) .nil)) .nil)))
  (.cons (.for_ (.nm 7) (.rng1 (.cst (.int 3)))
  (.cons (.set (.nm 8) (.frz (.call 512 (.bor 0 (.val (.var 2) (.val (.cst (.int 12)) .nil))))))
  (.cons (.set (.nm 9) (.frz (.call 536 (.bor 0 (.val (.var 2) (.val (.var 8) .nil))))))
  (.cons (.set (.nm 10) (.bi .all (.cons (.comp [11] (.nm 11) (.seq (.var 4)) .none (.cmp .eq (.call 17 (.val (.var 11) (.val (.var 2) (.val (.var 8) .nil)))) (.call 17 (.val (.var 11) (.val (.var 2) (.val (.var 9) .nil)))))) .nil)))
  (.cons (.ite (.dis (.cmp .ne (.call 69 (.val (.var 2) (.val (.var 8) (.val (.var 9) .nil)))) (.var 10)) (.cmp .ne (.cmp .is_ (.call 70 (.val (.var 2) (.val (.var 8) (.val (.var 9) .nil)))) (.cst .non)) (.var 10)))
  (.cons (.ret (.cst (.bl false)))
  .nil)
  .nil)
  (.cons (.ite (.cmp .ne (.cmp .eq (.call 17 (.val (.var 5) (.val (.var 2) (.val (.var 8) .nil)))) (.call 17 (.val (.var 5) (.val (.var 2) (.val (.var 9) .nil))))) (.var 10))
  (.cons (.ret (.cst (.bl false)))
  .nil)
  .nil)
  (.cons (.set (.nm 12) (.frz (.call 512 (.bor 0 (.val (.var 2) (.val (.cst (.int 6)) .nil))))))
  (.cons (.ite (.con (.var 10) (.inv (.call 69 (.val (.var 2) (.val (.frz (.bin .add (.var 8) (.var 12))) (.val (.frz (.bin .add (.var 9) (.var 12))) .nil))))))
  (.cons (.ret (.cst (.bl false)))
  .nil)
  .nil)
  (.cons (.ite (.con (.var 10) (.inv (.call 69 (.val (.var 2) (.val (.frz (.bin .add (.var 12) (.var 8))) (.val (.frz (.bin .add (.var 12) (.var 9))) .nil))))))
  (.cons (.ret (.cst (.bl false)))
  .nil)
  .nil)
  (.cons (.par [13, 14] (.val (.call 5 (.val (.var 1) .nil)) (.val (.frz (.call 71 (.val (.var 2) (.val (.var 8) .nil)))) .nil)))
  (.cons (.ite (.dis (.cmp .gt (.bi .len (.cons (.var 14) .nil)) (.bi .len (.cons (.var 8) .nil))) (.dis (.inv (.call 69 (.val (.var 13) (.val (.var 14) (.val (.var 8) .nil))))) (.inv (.call 46 (.val (.var 13) (.val (.var 14) .nil))))))
  (.cons (.ret (.cst (.bl false)))
  .nil)
  .nil)
  (.cons (.ite (.cmp .ne (.bi .len (.cons (.call 71 (.val (.var 13) (.val (.var 14) .nil))) .nil)) (.bi .len (.cons (.var 14) .nil)))
  (.cons (.ret (.cst (.bl false)))
  .nil)
  .nil)
  .nil))))))))))))
  (.cons (.ret (.cst (.bl true)))
  .nil)))))
def ltrs : Str := ⟨#[107, 108, 109, 110, 111, 112, 113, 114, 115, 116]⟩
def unlS : List Str := [⟨#[107]⟩, ⟨#[108]⟩, ⟨#[109]⟩, ⟨#[110]⟩, ⟨#[111]⟩, ⟨#[112]⟩, ⟨#[113]⟩, ⟨#[114]⟩, ⟨#[115]⟩, ⟨#[116]⟩]
def unl (k : Nat) : List Str := (List.range k).map fun p => unlS.getD p sN
theorem ltr_ix {p : Nat} (h : p < 10) : idxW (.str ltrs) (p : Int) = some (.str (unlS.getD p sN)) := by
  rw [idx_str (by show 10 ≤ LIM; simp)]
  match p, h with
  | 0, _ => rfl
  | 1, _ => rfl
  | 2, _ => rfl
  | 3, _ => rfl
  | 4, _ => rfl
  | 5, _ => rfl
  | 6, _ => rfl
  | 7, _ => rfl
  | 8, _ => rfl
  | 9, _ => rfl
theorem unlS_inj {i j : Nat} (hi : i < 10) (hj : j < 10) (h : unlS.getD i sN = unlS.getD j sN) : i = j := by
  have h2 : ∀ i j : Fin 10, unlS.getD i.1 sN = unlS.getD j.1 sN → i.1 = j.1 := by decide +kernel
  exact h2 ⟨i, hi⟩ ⟨j, hj⟩ h
theorem unl_len (k : Nat) : (unl k).length = k := by simp [unl]
theorem unl_get {k p : Nat} (h : p < k) : (unl k).getD p sN = unlS.getD p sN := by
  unfold unl
  rw [List.getD_eq_getElem?_getD, List.getElem?_map, List.getElem?_range h]
  rfl
theorem unl_ok {k : Nat} (hk : k ≤ 10) : ∀ w ∈ unl k, PyData.strOk w = true := fun w hw => by
  obtain ⟨p, hp, rfl⟩ := List.mem_map.mp hw
  have h2 : ∀ i : Fin 10, PyData.strOk (unlS.getD i.1 sN) = true := by decide +kernel
  exact h2 ⟨p, by have := List.mem_range.mp hp; omega⟩
theorem AB_ok {k : Nat} {r : List Str} (h : r ∈ rowsAB k) : ∀ w ∈ r, PyData.strOk w = true := fun w hw => by
  rcases (rowsAB_mem.mp h).2 w hw with rfl | rfl <;> decide +kernel
theorem eqT {a b : List Str} (ha : a.length ≤ LIM) (hb : b.length ≤ LIM) (oa : ∀ w ∈ a, PyData.strOk w = true) (ob : ∀ w ∈ b, PyData.strOk w = true) : eqW (tS a) (tS b) = some (decide (a = b)) := eqW_tS ha hb oa ob
theorem all_AB {k : Nat} {s t : List Nat} (hs : s.length = k) (ht : t.length = k) (ls : ∀ o ∈ s, o < k) (lt : ∀ o ∈ t, o < k) : biW .all [.lst ((rowsAB k).map fun r => W.bl (decide (laidS r s = laidS r t)))] = some (.im (.bl (decide (s = t)))) := by
  rw [bi_all, bls_enc, Option.map_some, List.all_map, ← laid_AB hs ht ls lt]
  rfl
structure Prog (P : Pg) : Prop where
  l : ProgL0 P
  oe : Has P 5 K95.b_open_ears 1 1 []
  al : Has P 69 K95.b_alike 3 4 []
  part : Has P 70 b_parting 3 9 []
  sh : Has P 71 K95.b_shortened 2 2 []
  isl : Has P 46 K78.b_is_least 2 2 []
  take : Has P 502 (b_take 502) 2 5 [0]
  ears : Has P 507 b_Lears 2 7 [0]
  lets : Has P 508 b_Llets 1 4 []
  of_ : Has P 509 b_Lof 2 2 [0]
  log : Has P 512 Dn.b_Llog 3 5 [0]
  oth : Has P 536 b_Lother 3 5 [0]
  rows : Has P 549 b_Lrows 1 4 []
section
variable {P : Pg} {n c : Nat} {m : M} {T S : List W → W}
theorem gl_sp (BT : ProgT P) (hn : 3 < n) {es r : List Str} {k : Nat} {log : List (Nat × Bool)} (hr : r.length = k) (he : es.length = k) (hk : k ≤ 1000) (ht : ∀ t ∈ log, LetT es t) :
    (P.th n).fn 17 [.im (tS r), .im (.tup (es.map .str)), .im (.lst (log.map tkW))] = .ok (.im (tS (laidS r (orgS k log)))) [.im .non, .im .non, .im .non] := by
  have e := gone_sp (n := n) (enc := tkW) BT hn (.inr rfl) (.inl rfl) (.inr rfl) (fun t => .inl rfl) ht (ws := r.map .str) (by rw [List.length_map, hr, he]) (by rw [List.length_map, hr]; exact hk)
  rw [fold_laid fun t h => by have := (ht t h).nlt; omega, hr] at e
  exact e
/-- one turn -/
theorem turn_sp (B : Prog P) (hn : 12 < n) {es : List Str} {k : Nat} (hk : es.length = k) (hk0 : 0 < k) (hk6 : k ≤ 6) (hm : Bx c m) (hc : c < 2 ^ 50) (x7 x8 x9 x10 x12 x13 x14 : Option M) (w : W) :
    OK (fT (P.th (n - 1)) (.nm 7) b_turn w [some m, some (.im (.int k)), some (.im (.tup (es.map .str))), some (.im (.str ltrs)), some (.im (.lst ((rowsAB k).map tS))), some (.im (tS (unl k))), none, x7, x8, x9, x10, none, x12, x13, x14]) fun fl r => fl = .nx ∧ ∃ (m' : M) (x7 x8 x9 x10 x12 x13 x14 : Option M), Bx (c + 100) m' ∧ r = [some m', some (.im (.int k)), some (.im (.tup (es.map .str))), some (.im (.str ltrs)), some (.im (.lst ((rowsAB k).map tS))), some (.im (tS (unl k))), none, x7, x8, x9, x10, none, x12, x13, x14] := by
  obtain ⟨log, m1, e1, d1, t1, g1⟩ := log_sp (n := n - 1) B.log B.lets B.of_ B.take (by omega) (es := es) (by omega) hm (by omega) (k := 12) (by omega)
  have e1' : (P.th (n - 1)).fn 512 [m, .im (.tup (es.map .str)), .im (.int 12)] = .ok (.ls (log.map tkW)) [m1, .im .non, .im .non] := e1
  obtain ⟨oth, m2, e2, d2, t2, g2⟩ := oth_sp (n := n - 1) B.oth B.log B.lets B.of_ B.take (by omega) (es := es) (by omega) t1 (by omega) g1 (by omega)
  obtain ⟨sm, m3, e3, d3, t3, g3⟩ := log_sp (n := n - 1) B.log B.lets B.of_ B.take (by omega) (es := es) (by omega) g2 (by omega) (k := 6) (by omega)
  have e3' : (P.th (n - 1)).fn 512 [m2, .im (.tup (es.map .str)), .im (.int 6)] = .ok (.ls (sm.map tkW)) [m3, .im .non, .im .non] := e3
  have n1 : ∀ t ∈ log, nbS t < k := fun t h => by have := (t1 t h).nlt; omega
  have n2 : ∀ t ∈ oth, nbS t < k := fun t h => by have := (t2 t h).nlt; omega
  have n3 : ∀ t ∈ sm, nbS t < k := fun t h => by have := (t3 t h).nlt; omega
  have r1 := org_ris n1
  have r2 := org_ris n2
  have l1 : (orgS k log).length = k := org_len _ _
  have l2 : (orgS k oth).length = k := org_len _ _
  have lt1 : ∀ o ∈ orgS k log, o < k := fun o h => by have := r1.lt o h; omega
  have lt2 : ∀ o ∈ orgS k oth, o < k := fun o h => by have := r2.lt o h; omega
  -- all rows
  have G1 : ∀ r ∈ rowsAB k, (P.th (n - 1)).fn 17 [.im (tS r), .im (.tup (es.map .str)), .im (.lst (log.map tkW))] = .ok (.im (tS (laidS r (orgS k log)))) [.im .non, .im .non, .im .non] := fun r h => gl_sp B.l.t (by omega) (rowsAB_mem.mp h).1 hk (by omega) t1
  have G2 : ∀ r ∈ rowsAB k, (P.th (n - 1)).fn 17 [.im (tS r), .im (.tup (es.map .str)), .im (.lst (oth.map tkW))] = .ok (.im (tS (laidS r (orgS k oth)))) [.im .non, .im .non, .im .non] := fun r h => gl_sp B.l.t (by omega) (rowsAB_mem.mp h).1 hk (by omega) t2
  have G3 : ∀ r ∈ rowsAB k, eqW (tS (laidS r (orgS k log))) (tS (laidS r (orgS k oth))) = some (decide (laidS r (orgS k log) = laidS r (orgS k oth))) := fun r h => eqT (by rw [laid_len, l1]; exact lim_le (by omega)) (by rw [laid_len, l2]; exact lim_le (by omega)) (laid_ok (AB_ok h)) (laid_ok (AB_ok h))
  have U1 := gl_sp (n := n - 1) (r := unl k) B.l.t (by omega) (unl_len k) hk (by omega) t1
  have U2 := gl_sp (n := n - 1) (r := unl k) B.l.t (by omega) (unl_len k) hk (by omega) t2
  have U3 : eqW (tS (laidS (unl k) (orgS k log))) (tS (laidS (unl k) (orgS k oth))) = some (decide (orgS k log = orgS k oth)) := by
    rw [eqT (by rw [laid_len, l1]; exact lim_le (by omega)) (by rw [laid_len, l2]; exact lim_le (by omega)) (laid_ok (unl_ok (by omega))) (laid_ok (unl_ok (by omega)))]
    congr 1
    rw [decide_eq_decide]
    constructor
    · refine laid_inj (fun i j hi hj e => ?_) (fun o h => by rw [unl_len]; exact lt1 o h) (fun o h => by rw [unl_len]; exact lt2 o h) (by omega)
      rw [unl_len] at hi hj
      rw [unl_get hi, unl_get hj] at e
      exact unlS_inj (by omega) (by omega) e
    · intro e; rw [e]
  have b1 := all_AB l1 l2 lt1 lt2
  have c1 : ∀ r : Env, (∀ q ∈ rowsAB k, cT (P.th (n - 1)) [11] (.nm 11) .none (.cmp .eq (.call 17 (.val (.var 11) (.val (.var 2) (.val (.var 8) .nil)))) (.call 17 (.val (.var 11) (.val (.var 2) (.val (.var 9) .nil))))) (tS q) r = .ok (some (.bl (decide (laidS q (orgS k log) = laidS q (orgS k oth))))) r) → compL (cT (P.th (n - 1)) [11] (.nm 11) .none (.cmp .eq (.call 17 (.val (.var 11) (.val (.var 2) (.val (.var 8) .nil)))) (.call 17 (.val (.var 11) (.val (.var 2) (.val (.var 9) .nil)))))) ((rowsAB k).map tS) r [] = .ok ((rowsAB k).map fun q => W.bl (decide (laidS q (orgS k log) = laidS q (orgS k oth)))) r := fun r hr => compL_all (enc := tS) (fun q => W.bl (decide (laidS q (orgS k log) = laidS q (orgS k oth)))) hr (lim_le (by
    rw [rowsAB_len]
    have := Nat.pow_le_pow_right (n := 2) (by decide) hk6
    omega))
  have A1 := K95.al_sp (n := n - 1) B.al B.l.t (by omega) t1 t2 (by omega)
  obtain ⟨pw, P1, P2⟩ := part_sp (n := n - 1) B.part B.l.t (by omega) t1 t2 (by omega)
  have add : ∀ x y : List (Nat × Bool), x.length + y.length ≤ 1000 → binW .add (.lst (x.map tkW)) (.lst (y.map tkW)) = some (.ls ((x ++ y).map tkW)) := fun x y h => by
    rw [b_lsadd (by rw [List.length_map, List.length_map]; exact lim_le (by omega)), List.map_append]
  have a1 := add log sm (by omega)
  have a2 := add oth sm (by omega)
  have a3 := add sm log (by omega)
  have a4 := add sm oth (by omega)
  have app : ∀ x y : List (Nat × Bool), (∀ t ∈ x, LetT es t) → (∀ t ∈ y, LetT es t) → ∀ t ∈ x ++ y, LetT es t := fun x y h1 h2 t h => by
    rcases List.mem_append.mp h with h | h
    · exact h1 t h
    · exact h2 t h
  have A2 := K95.al_sp (n := n - 1) B.al B.l.t (by omega) (app log sm t1 t3) (app oth sm t2 t3) (by omega)
  have A3 := K95.al_sp (n := n - 1) B.al B.l.t (by omega) (app sm log t3 t1) (app sm oth t3 t2) (by omega)
  rw [hk] at A1 A2 A3 P2
  rw [← cmp_org n1 n3, ← cmp_org n2 n3] at A2
  rw [← cmp_org n3 n1, ← cmp_org n3 n2] at A3
  -- wide ears
  have W0 := K95.oe_sp (n := n - 1) B.oe (by omega) (k := k) (by omega) (by omega)
  have S1 := sh_sp (n := n - 1) B.oe B.sh B.l (by omega) t1 (by omega) (by omega)
  rw [hk] at S1
  have hlet := org_let t1
  rw [hk] at hlet
  have hll := ll_let r1 (by rw [l1, hk]) hlet
  have hlo : orgS k (llS (orgS k log)) = orgS k log := by
    have := ll_org r1
    rwa [l1] at this
  have hle : (llS (orgS k log)).length ≤ log.length := by rw [ll_len]; exact few_le n1
  have hfl : (llS (orgS k log)).length = fewS (orgS k log) := ll_len _
  have hwl : ∀ t ∈ llS (orgS k log), LetT (List.replicate k sB) t := fun t h => by rw [← hk]; exact K95.wide_let (hll t h)
  have hwg : ∀ t ∈ log, LetT (List.replicate k sB) t := fun t h => by rw [← hk]; exact K95.wide_let (t1 t h)
  have S2 := K95.al_sp (n := n - 1) B.al B.l.t (by omega) hwl hwg (by rw [List.length_replicate]; omega)
  have S3 := K78.isl_sp0 (n := n - 1) B.isl B.l.t B.l.f (by omega) hwl (by rw [List.length_replicate]; omega)
  have S4 := sh_sp (n := n - 1) B.oe B.sh B.l (by omega) hwl (by rw [List.length_replicate]; omega) (by rw [List.length_replicate]; omega)
  rw [List.length_replicate, hlo] at S2 S3 S4
  rw [decide_eq_true rfl] at S2
  rw [decide_eq_true hfl] at S3
  have gt1 : cmpW .gt (.int ((llS (orgS k log)).length : Int)) (.int (log.length : Int)) = some false := by rw [cW_gt, decide_eq_false (by omega)]
  have lw : ∀ l : List (Nat × Bool), (l.map tkW).length = l.length := fun l => List.length_map ..
  have hdd : orgS k log = orgS k oth → cmpS (orgS k log) (orgS k sm) = cmpS (orgS k oth) (orgS k sm) ∧ cmpS (orgS k sm) (orgS k log) = cmpS (orgS k sm) (orgS k oth) := fun e => by rw [e]; exact ⟨rfl, rfl⟩
  generalize ((rowsAB k).map fun q => W.bl (decide (laidS q (orgS k log) = laidS q (orgS k oth)))) = R1 at c1 b1
  generalize llS (orgS k log) = Ll at S1 S2 S3 S4 gt1
  generalize (List.replicate k sB).map W.str = Wd at W0 S2 S3 S4
  generalize laidS (unl k) (orgS k log) = V1 at U1 U3
  generalize laidS (unl k) (orgS k oth) = V2 at U2 U3
  have g4 : Bx (c + 100) m3 := g3.up (by omega)
  by_cases hd : orgS k log = orgS k oth
  · obtain ⟨h1, h2⟩ := hdd hd
    rw [decide_eq_true h1] at A2
    rw [decide_eq_true h2] at A3
    rw [decide_eq_true hd] at b1 U3 A1 P2
    generalize (log ++ sm).map tkW = y1 at a1 A2
    generalize (oth ++ sm).map tkW = y2 at a2 A2
    generalize (sm ++ log).map tkW = y3 at a3 A3
    generalize (sm ++ oth).map tkW = y4 at a4 A3
    refine OK_gen fun Q hQ => ?_
    simp [b_turn, fT, e1', e2]
    rw [c1 _ (fun q hq => by simp [cT, G1 q hq, G2 q hq, G3 q hq])]
    simp [-bi_all, b1, A1, P1, P2, U1, U2, U3, e3', a1, a2, a3, a4, A2, A3, W0, S1, lw, -cW_gt, gt1, S2, S3, S4]
    exact hQ _ _ ⟨rfl, m3, _, _, _, _, _, _, _, g4, rfl⟩
  · rw [decide_eq_false hd] at b1 U3 A1 P2
    refine OK_gen fun Q hQ => ?_
    simp [b_turn, fT, e1', e2]
    rw [c1 _ (fun q hq => by simp [cT, G1 q hq, G2 q hq, G3 q hq])]
    simp [-bi_all, b1, A1, P1, P2, U1, U2, U3, e3', W0, S1, lw, -cW_gt, gt1, S2, S3, S4]
    exact hQ _ _ ⟨rfl, m3, _, _, _, _, _, _, _, g4, rfl⟩
theorem right_sp (B : Prog P) (BR : Has P 505 b_Lright 1 15 [0]) (hn : 13 < n) (hm : Bx 0 m) : ∃ m', (P.th n).fn 505 [m] = .ok (.im (.bl true)) [m'] := by
  have key : ∃ (v : M) (as : List M), (P.th n).fn 505 [m] = .ok v as ∧ ∃ (m' : M), v = .im (.bl true) ∧ as = [m'] := by
    refine fn_lk BR (by omega) rfl ?_
    obtain ⟨t, m1, e1, d1, g1⟩ := take_sp (n := n - 1) B.take (by omega) hm (by omega) (s := 6) (by omega) (by omega)
    obtain ⟨k, hk, hk1, hk2⟩ : ∃ k : Nat, (1 : Int) + (t : Int) = (k : Int) ∧ 0 < k ∧ k ≤ 6 := ⟨1 + t, by omega, by omega, by omega⟩
    obtain ⟨es, m2, e2, d2, d3, g2⟩ := ears_sp (n := n - 1) B.ears B.take (by omega) (k := k) (by omega) g1 (by omega)
    have g2' : Bx 100 m2 := g2.up (by omega)
    have e3 := rows_sp (n := n - 1) B.rows (by omega) (k := k) (by omega)
    have hrj : rOk (k : Int) = true := rOk_nat (by omega)
    have hup : upTo 0 k = (List.range k).map vN := upTo_vN k
    have cc : ∀ r : Env, (∀ p ∈ List.range k, cT (P.th (n - 1)) [6] (.nm 6) .none (.idx (.var 3) (.var 6)) (vN p) r = .ok (some (.str (unlS.getD p sN))) r) → compL (cT (P.th (n - 1)) [6] (.nm 6) .none (.idx (.var 3) (.var 6))) ((List.range k).map vN) r [] = .ok ((unl k).map .str) r := fun r hr => by
      rw [compL_all (enc := vN) (fun p => .str (unlS.getD p sN)) hr (lim_le (by simp; omega)), unl, List.map_map]
      rfl
    have e0 : (⟨#[107, 108, 109, 110, 111, 112, 113, 114, 115, 116]⟩ : Str) = ltrs := rfl
    have hb : b_Lright = (.cons (.set (.nm 1) (.bin .add (.cst (.int 1)) (.call 502 (.bor 0 (.val (.cst (.int 6)) .nil)))))
        (.cons (.par [2, 3] (.val (.call 507 (.bor 0 (.val (.var 1) .nil))) (.val (.cst (.str ltrs)) .nil)))
        (.cons (.par [4, 5] (.val (.frz (.call 549 (.val (.var 1) .nil))) (.val (.bi .tuple (.cons (.comp [6] (.nm 6) (.rng1 (.var 1)) .none (.idx (.var 3) (.var 6))) .nil)) .nil)))
        (.cons (.for_ (.nm 7) (.rng1 (.cst (.int 3))) b_turn)
        (.cons (.ret (.cst (.bl true))) .nil))))) := rfl
    rw [hb]
    have hu3 : upTo 0 3 = (List.range 3).map vN := upTo_vN 3
    have h3 : rOk (3 : Int) = true := rOk_nat (n := 3) (by omega)
    generalize hbt : b_turn = bt
    simp [e1, hk, e2, e3, hrj, hup, h3, hu3]
    rw [cc _ (fun p hp => by
      have hp' := List.mem_range.mp hp
      simp [cT, vN, ltr_ix (show p < 10 by omega), -List.getD_eq_getElem?_getD])]
    simp
    rw [OK_bind]
    subst hbt
    refine OK.mono (forL_ok (fun j r => ∃ (m' : M) (x7 x8 x9 x10 x12 x13 x14 : Option M), Bx (100 + 100 * j) m' ∧ r = [some m', some (.im (.int k)), some (.im (.tup (es.map .str))), some (.im (.str ltrs)), some (.im (.lst ((rowsAB k).map tS))), some (.im (tS (unl k))), none, x7, x8, x9, x10, none, x12, x13, x14]) ⟨m2, none, none, none, none, none, none, none, g2', rfl⟩ ?_) ?_
    · rintro j w r hj ⟨m', x7, x8, x9, x10, x12, x13, x14, hb, rfl⟩
      have hj3 : j < 3 := by
        have := (List.getElem?_eq_some_iff.mp hj).1
        exact Nat.lt_of_lt_of_eq this rfl
      refine OK.mono (turn_sp (n := n) B (by omega) d2 hk1 hk2 hb (by omega) x7 x8 x9 x10 x12 x13 x14 w) ?_
      rintro fl r ⟨rfl, m'', y7, y8, y9, y10, y12, y13, y14, hb2, rfl⟩
      exact ⟨rfl, m'', y7, y8, y9, y10, y12, y13, y14, hb2.up (by omega), rfl⟩
    · rintro fl r ⟨rfl, m', x7, x8, x9, x10, x12, x13, x14, hb, rfl⟩
      simp
      exact ⟨[m'], by simp [argsOf], by simp⟩
  obtain ⟨v, as, e, m', rfl, rfl⟩ := key
  exact ⟨m', e⟩
end
end K85
end Dn
-- R85
set_option maxRecDepth 100000
set_option maxHeartbeats 4000000
namespace Dn.Law
open PySem PySem.Spec PyProof.Rows L2 Dn
def topS (i : Nat) : Stmt := PySem.Challenge.pw_catchwords_k85_whole_alike_by_all_rows.main.body.getD i (.Pass ⟨0, 0, 0, 0⟩)
def d_open_ears : FD := {
  name := (⟨#[111, 112, 101, 110, 95, 101, 97, 114, 115]⟩ : Str)
  names := [(⟨#[109, 97, 110, 121]⟩ : Str)]
  many := 1
  lock := []
  kw := []
  body := (.cons (.ret (.bin .mul (.tup (.cons (.glob (⟨#[66, 79, 84, 72]⟩ : Str) (.str (⟨#[98, 111, 116, 104]⟩ : Str))) .nil)) (.var 0)))
  .nil) }

def d_look_place : FD := {
  name := (⟨#[108, 111, 111, 107, 95, 112, 108, 97, 99, 101]⟩ : Str)
  names := [(⟨#[114, 111, 119]⟩ : Str), (⟨#[112, 108, 97, 99, 101]⟩ : Str)]
  many := 2
  lock := []
  kw := []
  body := (.cons (.ite (.inv (.chn .le .lt (.cst (.int 0)) (.var 1) (.bi .len (.cons (.var 0) .nil))))
  (.cons (.rse 4 (.cons (.var 1) .nil))
  .nil)
  .nil)
  .nil) }

def d_neighbour : FD := {
  name := (⟨#[110, 101, 105, 103, 104, 98, 111, 117, 114]⟩ : Str)
  names := [(⟨#[112, 108, 97, 99, 101]⟩ : Str), (⟨#[115, 105, 100, 101]⟩ : Str)]
  many := 2
  lock := []
  kw := []
  body := (.cons (.ret (.ife (.cmp .eq (.var 1) (.glob (⟨#[76, 69, 70, 84]⟩ : Str) (.str (⟨#[108, 101, 102, 116]⟩ : Str)))) (.bin .sub (.var 0) (.cst (.int 1))) (.bin .add (.var 0) (.cst (.int 1)))))
  .nil) }

def d_has_ear : FD := {
  name := (⟨#[104, 97, 115, 95, 101, 97, 114]⟩ : Str)
  names := [(⟨#[101, 97, 114, 115]⟩ : Str), (⟨#[112, 108, 97, 99, 101]⟩ : Str), (⟨#[115, 105, 100, 101]⟩ : Str)]
  many := 3
  lock := []
  kw := []
  body := (.cons (.ret (.cmp .in_ (.idx (.var 0) (.var 1)) (.tup (.cons (.glob (⟨#[66, 79, 84, 72]⟩ : Str) (.str (⟨#[98, 111, 116, 104]⟩ : Str))) (.cons (.var 2) .nil)))))
  .nil) }

def d_look_taking : FD := {
  name := (⟨#[108, 111, 111, 107, 95, 116, 97, 107, 105, 110, 103]⟩ : Str)
  names := [(⟨#[101, 97, 114, 115]⟩ : Str), (⟨#[116, 97, 107, 105, 110, 103]⟩ : Str), (⟨#[112, 108, 97, 99, 101]⟩ : Str), (⟨#[115, 105, 100, 101]⟩ : Str)]
  many := 2
  lock := []
  kw := []
  body := (.cons (.set (.tp [(.nm 2), (.nm 3)]) (.var 1))
  (.cons (.ex (.call 6 (.val (.var 0) (.val (.var 2) .nil))))
  (.cons (.ite (.inv (.chn .le .lt (.cst (.int 0)) (.call 7 (.val (.var 2) (.val (.var 3) .nil))) (.bi .len (.cons (.var 0) .nil))))
  (.cons (.rse 5 (.cons (.var 2) .nil))
  .nil)
  .nil)
  (.cons (.ite (.inv (.call 8 (.val (.var 0) (.val (.var 2) (.val (.var 3) .nil)))))
  (.cons (.rse 9 (.cons (.var 2) .nil))
  .nil)
  .nil)
  .nil)))) }

def d_taken : FD := {
  name := (⟨#[116, 97, 107, 101, 110]⟩ : Str)
  names := [(⟨#[114, 111, 119]⟩ : Str), (⟨#[101, 97, 114, 115]⟩ : Str), (⟨#[116, 97, 107, 105, 110, 103]⟩ : Str), (⟨#[112, 108, 97, 99, 101]⟩ : Str), (⟨#[115, 105, 100, 101]⟩ : Str), (⟨#[119, 111, 114, 100]⟩ : Str), (⟨#[97, 116]⟩ : Str), (⟨#[104, 97, 100]⟩ : Str)]
  many := 3
  lock := []
  kw := []
  body := (.cons (.ex (.call 14 (.val (.var 1) (.val (.var 2) .nil))))
  (.cons (.set (.tp [(.nm 3), (.nm 4)]) (.var 2))
  (.cons (.set (.nm 5) (.idx (.var 0) (.call 7 (.val (.var 3) (.val (.var 4) .nil)))))
  (.cons (.ret (.bi .tuple (.cons (.comp [6, 7] (.tp [(.nm 6), (.nm 7)]) (.enum (.var 0)) .none (.ife (.cmp .eq (.var 6) (.var 3)) (.var 5) (.var 7))) .nil)))
  .nil)))) }

def d_gone : FD := {
  name := (⟨#[103, 111, 110, 101]⟩ : Str)
  names := [(⟨#[114, 111, 119]⟩ : Str), (⟨#[101, 97, 114, 115]⟩ : Str), (⟨#[108, 111, 103]⟩ : Str), (⟨#[104, 101, 114, 101]⟩ : Str), (⟨#[116, 97, 107, 105, 110, 103]⟩ : Str)]
  many := 3
  lock := []
  kw := []
  body := (.cons (.set (.nm 3) (.bi .tuple (.cons (.var 0) .nil)))
  (.cons (.for_ (.nm 4) (.seq (.var 2))
  (.cons (.set (.nm 3) (.call 16 (.val (.var 3) (.val (.var 1) (.val (.var 4) .nil)))))
  .nil))
  (.cons (.retv 3)
  .nil))) }

def d_origins_of : FD := {
  name := (⟨#[111, 114, 105, 103, 105, 110, 115, 95, 111, 102]⟩ : Str)
  names := [(⟨#[101, 97, 114, 115]⟩ : Str), (⟨#[108, 111, 103]⟩ : Str)]
  many := 2
  lock := []
  kw := []
  body := (.cons (.ret (.call 17 (.val (.frz (.rg1 true (.bi .len (.cons (.var 0) .nil)))) (.val (.var 0) (.val (.var 1) .nil)))))
  .nil) }

def d_is_let_at : FD := {
  name := (⟨#[105, 115, 95, 108, 101, 116, 95, 97, 116]⟩ : Str)
  names := [(⟨#[101, 97, 114, 115]⟩ : Str), (⟨#[112, 108, 97, 99, 101]⟩ : Str), (⟨#[111, 114, 105, 103, 105, 110]⟩ : Str)]
  many := 3
  lock := []
  kw := []
  body := (.cons (.ite (.cmp .lt (.var 2) (.var 1))
  (.cons (.ret (.call 8 (.val (.var 0) (.val (.var 1) (.val (.glob (⟨#[76, 69, 70, 84]⟩ : Str) (.str (⟨#[108, 101, 102, 116]⟩ : Str))) .nil)))))
  .nil)
  .nil)
  (.cons (.ret (.dis (.cmp .eq (.var 2) (.var 1)) (.call 8 (.val (.var 0) (.val (.var 1) (.val (.glob (⟨#[82, 73, 71, 72, 84]⟩ : Str) (.str (⟨#[114, 105, 103, 104, 116]⟩ : Str))) .nil))))))
  .nil)) }

def d_bar : FD := {
  name := (⟨#[98, 97, 114]⟩ : Str)
  names := [(⟨#[101, 97, 114, 115]⟩ : Str), (⟨#[111, 114, 105, 103, 105, 110, 115]⟩ : Str), (⟨#[112, 108, 97, 99, 101]⟩ : Str), (⟨#[111, 114, 105, 103, 105, 110]⟩ : Str)]
  many := 2
  lock := []
  kw := []
  body := (.cons (.for_ (.tp [(.nm 2), (.nm 3)]) (.enum (.var 1))
  (.cons (.ite (.inv (.call 31 (.val (.var 0) (.val (.var 2) (.val (.var 3) .nil)))))
  (.cons (.retv 2)
  .nil)
  .nil)
  .nil))
  (.cons (.ret (.cst .non))
  .nil)) }

def d_living : FD := {
  name := (⟨#[108, 105, 118, 105, 110, 103]⟩ : Str)
  names := [(⟨#[111, 114, 105, 103, 105, 110, 115]⟩ : Str)]
  many := 1
  lock := []
  kw := []
  body := (.cons (.ret (.srs (.var 0)))
  .nil) }

def d_span : FD := {
  name := (⟨#[115, 112, 97, 110]⟩ : Str)
  names := [(⟨#[111, 114, 105, 103, 105, 110, 115]⟩ : Str), (⟨#[112, 108, 97, 99, 101]⟩ : Str), (⟨#[104, 97, 100]⟩ : Str), (⟨#[97, 116]⟩ : Str), (⟨#[111, 114, 105, 103, 105, 110]⟩ : Str)]
  many := 2
  lock := []
  kw := []
  body := (.cons (.set (.nm 2) (.frz (.comp [3, 4] (.tp [(.nm 3), (.nm 4)]) (.enum (.var 0)) (.some (.cmp .eq (.var 4) (.var 1))) (.var 3))))
  (.cons (.ret (.tup (.cons (.bi .min2 (.cons (.idx (.var 2) (.cst (.int 0))) (.cons (.var 1) .nil))) (.cons (.bi .max2 (.cons (.idx (.var 2) (.neg (.cst (.int 1)))) (.cons (.var 1) .nil))) .nil))))
  .nil)) }

def d_fewest_takings : FD := {
  name := (⟨#[102, 101, 119, 101, 115, 116, 95, 116, 97, 107, 105, 110, 103, 115]⟩ : Str)
  names := [(⟨#[111, 114, 105, 103, 105, 110, 115]⟩ : Str), (⟨#[115, 112, 97, 110, 115]⟩ : Str), (⟨#[111, 114, 105, 103, 105, 110]⟩ : Str), (⟨#[102, 105, 114, 115, 116]⟩ : Str), (⟨#[108, 97, 115, 116]⟩ : Str)]
  many := 1
  lock := []
  kw := []
  body := (.cons (.set (.nm 1) (.frz (.comp [2] (.nm 2) (.seq (.call 33 (.val (.var 0) .nil))) .none (.call 34 (.val (.var 0) (.val (.var 2) .nil))))))
  (.cons (.ret (.bi .sum (.cons (.comp [3, 4] (.tp [(.nm 3), (.nm 4)]) (.seq (.var 1)) .none (.bin .sub (.var 4) (.var 3))) .nil)))
  .nil)) }

def d_look_bar : FD := {
  name := (⟨#[108, 111, 111, 107, 95, 98, 97, 114]⟩ : Str)
  names := [(⟨#[101, 97, 114, 115]⟩ : Str), (⟨#[111, 114, 105, 103, 105, 110, 115]⟩ : Str), (⟨#[112, 108, 97, 99, 101]⟩ : Str)]
  many := 2
  lock := []
  kw := []
  body := (.cons (.set (.nm 2) (.call 32 (.val (.var 0) (.val (.var 1) .nil))))
  (.cons (.ite (.cmp .isn (.var 2) (.cst .non))
  (.cons (.rse 10 (.cons (.var 2) .nil))
  .nil)
  .nil)
  .nil)) }

def d_least_log : FD := {
  name := (⟨#[108, 101, 97, 115, 116, 95, 108, 111, 103]⟩ : Str)
  names := [(⟨#[101, 97, 114, 115]⟩ : Str), (⟨#[111, 114, 105, 103, 105, 110, 115]⟩ : Str), (⟨#[102, 111, 117, 110, 100]⟩ : Str), (⟨#[97, 108, 105, 118, 101]⟩ : Str), (⟨#[111, 114, 105, 103, 105, 110]⟩ : Str), (⟨#[108, 97, 115, 116]⟩ : Str), (⟨#[112, 108, 97, 99, 101]⟩ : Str), (⟨#[102, 105, 114, 115, 116]⟩ : Str)]
  many := 2
  lock := []
  kw := []
  body := (.cons (.ex (.call 40 (.val (.var 0) (.val (.var 1) .nil))))
  (.cons (.par [2, 3] (.val (.lst .nil) (.val (.frz (.call 33 (.val (.var 1) .nil))) .nil)))
  (.cons (.for_ (.nm 4) (.rev (.var 3))
  (.cons (.set (.nm 5) (.idx (.call 34 (.val (.var 1) (.val (.var 4) .nil))) (.cst (.int 1))))
  (.cons (.ex (.mut .extend 2 [] (.cons (.comp [6] (.nm 6) (.rng2 (.bin .add (.var 4) (.cst (.int 1))) (.bin .add (.var 5) (.cst (.int 1)))) .none (.tup (.cons (.var 6) (.cons (.glob (⟨#[76, 69, 70, 84]⟩ : Str) (.str (⟨#[108, 101, 102, 116]⟩ : Str))) .nil)))) .nil)))
  .nil)))
  (.cons (.for_ (.nm 4) (.seq (.var 3))
  (.cons (.set (.nm 7) (.idx (.call 34 (.val (.var 1) (.val (.var 4) .nil))) (.cst (.int 0))))
  (.cons (.ex (.mut .extend 2 [] (.cons (.comp [6] (.nm 6) (.rng3 (.bin .sub (.var 4) (.cst (.int 1))) (.bin .sub (.var 7) (.cst (.int 1))) (.neg (.cst (.int 1)))) .none (.tup (.cons (.var 6) (.cons (.glob (⟨#[82, 73, 71, 72, 84]⟩ : Str) (.str (⟨#[114, 105, 103, 104, 116]⟩ : Str))) .nil)))) .nil)))
  .nil)))
  (.cons (.retv 2)
  .nil))))) }

def d_is_least : FD := {
  name := (⟨#[105, 115, 95, 108, 101, 97, 115, 116]⟩ : Str)
  names := [(⟨#[101, 97, 114, 115]⟩ : Str), (⟨#[108, 111, 103]⟩ : Str)]
  many := 2
  lock := []
  kw := []
  body := (.cons (.ret (.cmp .eq (.bi .len (.cons (.var 1) .nil)) (.call 36 (.val (.frz (.call 27 (.val (.var 0) (.val (.var 1) .nil)))) .nil))))
  .nil) }

def d_alike : FD := {
  name := (⟨#[97, 108, 105, 107, 101]⟩ : Str)
  names := [(⟨#[101, 97, 114, 115]⟩ : Str), (⟨#[111, 110, 101]⟩ : Str), (⟨#[111, 116, 104, 101, 114]⟩ : Str), (⟨#[109, 105, 110, 101]⟩ : Str)]
  many := 3
  lock := []
  kw := []
  body := (.cons (.set (.nm 3) (.call 27 (.val (.var 0) (.val (.var 1) .nil))))
  (.cons (.ret (.cmp .eq (.var 3) (.call 27 (.val (.var 0) (.val (.var 2) .nil)))))
  .nil)) }

def d_parting : FD := {
  name := (⟨#[112, 97, 114, 116, 105, 110, 103]⟩ : Str)
  names := [(⟨#[101, 97, 114, 115]⟩ : Str), (⟨#[111, 110, 101]⟩ : Str), (⟨#[111, 116, 104, 101, 114]⟩ : Str), (⟨#[109, 105, 110, 101]⟩ : Str), (⟨#[105, 116, 115]⟩ : Str), (⟨#[112, 108, 97, 99, 101]⟩ : Str), (⟨#[111, 114, 105, 103, 105, 110]⟩ : Str), (⟨#[108, 101, 97, 115, 116]⟩ : Str), (⟨#[97, 116]⟩ : Str)]
  many := 3
  lock := []
  kw := []
  body := (.cons (.par [3, 4] (.val (.call 27 (.val (.var 0) (.val (.var 1) .nil))) (.val (.call 27 (.val (.var 0) (.val (.var 2) .nil))) .nil)))
  (.cons (.for_ (.tp [(.nm 5), (.nm 6)]) (.enum (.var 3))
  (.cons (.ite (.cmp .ne (.var 6) (.idx (.var 4) (.var 5)))
  (.cons (.set (.nm 7) (.bi .min2 (.cons (.var 6) (.cons (.idx (.var 4) (.var 5)) .nil))))
  (.cons (.ret (.tup (.cons (.bi .tuple (.cons (.comp [8] (.nm 8) (.rng1 (.bi .len (.cons (.var 0) .nil))) .none (.ife (.cmp .le (.var 8) (.var 7)) (.glob (⟨#[79, 78, 69, 95, 87, 79, 82, 68]⟩ : Str) (.str (⟨#[97]⟩ : Str))) (.glob (⟨#[79, 84, 72, 69, 82, 95, 87, 79, 82, 68]⟩ : Str) (.str (⟨#[98]⟩ : Str))))) .nil)) (.cons (.var 5) .nil))))
  .nil))
  .nil)
  .nil))
  (.cons (.ret (.cst .non))
  .nil))) }

def d_shortened : FD := {
  name := (⟨#[115, 104, 111, 114, 116, 101, 110, 101, 100]⟩ : Str)
  names := [(⟨#[101, 97, 114, 115]⟩ : Str), (⟨#[108, 111, 103]⟩ : Str)]
  many := 2
  lock := []
  kw := []
  body := (.cons (.ret (.call 41 (.val (.frz (.call 5 (.val (.frz (.bi .len (.cons (.var 0) .nil))) .nil))) (.val (.frz (.call 27 (.val (.var 0) (.val (.var 1) .nil)))) .nil))))
  .nil) }

def d__law_cell_at : FD := {
  name := (⟨#[95, 108, 97, 119, 95, 99, 101, 108, 108, 95, 97, 116]⟩ : Str)
  names := [(⟨#[95, 108, 97, 119, 95, 115, 99, 114, 105, 112, 116]⟩ : Str), (⟨#[95, 108, 97, 119, 95, 107]⟩ : Str)]
  many := 2
  lock := []
  kw := []
  body := (.cons (.ite (.cmp .lt (.var 1) (.bi .len (.cons (.var 0) .nil)))
  (.cons (.ret (.idx (.var 0) (.var 1)))
  .nil)
  .nil)
  (.cons (.ret (.cst (.int 0)))
  .nil)) }

def d__law_box : FD := {
  name := (⟨#[95, 108, 97, 119, 95, 98, 111, 120]⟩ : Str)
  names := [(⟨#[95, 108, 97, 119, 95, 115, 99, 114, 105, 112, 116]⟩ : Str), (⟨#[95, 108, 97, 119, 95, 107]⟩ : Str), (⟨#[95, 108, 97, 119, 95, 99, 101, 108, 108]⟩ : Str)]
  many := 2
  lock := []
  kw := []
  body := (.cons (.set (.nm 2) (.call 500 (.val (.var 0) (.val (.var 1) .nil))))
  (.cons (.ret (.lst (.cons (.bin .mul (.bi .abs (.cons (.var 2) .nil)) (.bi .int (.cons (.cmp .ge (.bi .abs (.cons (.var 2) .nil)) (.bin .pow (.cst (.int 10)) (.cst (.int 18)))) .nil))) (.cons (.bin .add (.bin .add (.bin .mod (.var 2) (.cst (.int 2305843009213693951))) (.bin .mul (.cst (.int 39373)) (.var 1))) (.cst (.int 17))) (.cons (.cst (.int 0)) .nil)))))
  .nil)) }

def d__law_take : FD := {
  name := (⟨#[95, 108, 97, 119, 95, 116, 97, 107, 101]⟩ : Str)
  names := [(⟨#[95, 108, 97, 119, 95, 98, 111, 120, 95, 104, 101, 114, 101]⟩ : Str), (⟨#[95, 108, 97, 119, 95, 115, 105, 122, 101]⟩ : Str), (⟨#[95, 108, 97, 119, 95, 116, 111, 108, 100]⟩ : Str), (⟨#[95, 108, 97, 119, 95, 111, 110, 99, 101]⟩ : Str), (⟨#[95, 108, 97, 119, 95, 116, 119, 105, 99, 101]⟩ : Str)]
  many := 2
  lock := [0]
  kw := []
  body := (.cons (.ite (.pur (.cmp .gt (.pidx 0 [] (.cst (.int 0))) (.cst (.int 0))))
  (.cons (.set (.nm 2) (.bin .mod (.pidx 0 [] (.cst (.int 0))) (.var 1)))
  (.cons (.seti 0 [] (.cst (.int 0)) (.bin .fdiv (.pidx 0 [] (.cst (.int 0))) (.var 1)))
  (.cons (.retv 2)
  .nil)))
  .nil)
  (.cons (.ite (.cmp .gt (.var 1) (.bin .pow (.cst (.int 10)) (.cst (.int 7))))
  (.cons (.ret (.bin .mod (.bin .add (.call 502 (.bor 0 (.val (.frz (.bin .pow (.cst (.int 10)) (.cst (.int 7)))) .nil))) (.bin .mul (.bin .pow (.cst (.int 10)) (.cst (.int 7))) (.call 502 (.bor 0 (.val (.frz (.bin .add (.bin .fdiv (.bin .sub (.var 1) (.cst (.int 1))) (.bin .pow (.cst (.int 10)) (.cst (.int 7)))) (.cst (.int 1)))) .nil))))) (.var 1)))
  .nil)
  .nil)
  (.cons (.seti 0 [] (.cst (.int 2)) (.bin .add (.pidx 0 [] (.cst (.int 2))) (.cst (.int 1))))
  (.cons (.set (.nm 3) (.bin .mod (.bin .mul (.bin .add (.pidx 0 [] (.cst (.int 1))) (.bin .mul (.cst (.int 48271)) (.pidx 0 [] (.cst (.int 2))))) (.bin .add (.cst (.int 39373)) (.pidx 0 [] (.cst (.int 2))))) (.cst (.int 2147483647))))
  (.cons (.set (.nm 4) (.bin .mod (.bin .mul (.bin .add (.bin .add (.var 3) (.pidx 0 [] (.cst (.int 2)))) (.bin .fdiv (.pidx 0 [] (.cst (.int 1))) (.cst (.int 1000003)))) (.bin .add (.bin .mod (.var 3) (.cst (.int 40009))) (.cst (.int 7)))) (.cst (.int 2147483629))))
  (.cons (.ret (.bin .mod (.bin .fdiv (.bin .mod (.bin .add (.bin .mul (.var 4) (.cst (.int 48271))) (.var 3)) (.cst (.int 2147483587))) (.cst (.int 64))) (.var 1)))
  .nil)))))) }

def d__law_of : FD := {
  name := (⟨#[95, 108, 97, 119, 95, 111, 102]⟩ : Str)
  names := [(⟨#[95, 108, 97, 119, 95, 98, 111, 120, 95, 104, 101, 114, 101]⟩ : Str), (⟨#[95, 108, 97, 119, 95, 115, 111, 109, 101]⟩ : Str)]
  many := 2
  lock := [0]
  kw := []
  body := (.cons (.ret (.idx (.var 1) (.call 502 (.bor 0 (.val (.frz (.bi .len (.cons (.var 1) .nil))) .nil)))))
  .nil) }

def d__law_ears : FD := {
  name := (⟨#[95, 108, 97, 119, 95, 101, 97, 114, 115]⟩ : Str)
  names := [(⟨#[95, 108, 97, 119, 95, 98, 111, 120, 95, 104, 101, 114, 101]⟩ : Str), (⟨#[95, 108, 97, 119, 95, 109, 97, 110, 121]⟩ : Str), (⟨#[95, 108, 97, 119, 95, 115, 111, 109, 101]⟩ : Str), (⟨#[95, 108, 97, 119, 95, 102, 111, 117, 110, 100]⟩ : Str), (⟨#[95, 108, 97, 119, 95, 119, 97, 121]⟩ : Str), (⟨#[95, 108, 97, 119, 95, 112, 108, 97, 99, 101]⟩ : Str), (⟨#[95, 108, 97, 119, 95, 111, 100, 100]⟩ : Str)]
  many := 2
  lock := [0]
  kw := []
  body := (.cons (.par [2, 3, 4] (.val (.frz (.lst (.cons (.cst (.str (⟨#[98, 111, 116, 104]⟩ : Str))) (.cons (.cst (.str (⟨#[108, 101, 102, 116]⟩ : Str))) (.cons (.cst (.str (⟨#[114, 105, 103, 104, 116]⟩ : Str))) (.cons (.cst (.str (⟨#[110, 111, 110, 101]⟩ : Str))) .nil)))))) (.val (.lst .nil) (.val (.call 502 (.bor 0 (.val (.cst (.int 4)) .nil))) .nil))))
  (.cons (.for_ (.nm 5) (.rng1 (.var 1))
  (.cons (.set (.nm 6) (.call 502 (.bor 0 (.val (.cst (.int 4)) .nil))))
  (.cons (.ex (.mut .append 3 [] (.cons (.idx (.var 2) (.idx (.lst (.cons (.cst (.int 0)) (.cons (.bin .mul (.var 6) (.bi .int (.cons (.cmp .eq (.call 502 (.bor 0 (.val (.cst (.int 4)) .nil))) (.cst (.int 0))) .nil))) (.cons (.var 6) (.cons (.var 6) .nil))))) (.var 4))) .nil)))
  .nil)))
  (.cons (.ret (.bi .tuple (.cons (.var 3) .nil)))
  .nil))) }

def d__law_lets : FD := {
  name := (⟨#[95, 108, 97, 119, 95, 108, 101, 116, 115]⟩ : Str)
  names := [(⟨#[95, 108, 97, 119, 95, 101, 97, 114, 115, 95, 104, 101, 114, 101]⟩ : Str), (⟨#[95, 108, 97, 119, 95, 102, 111, 117, 110, 100]⟩ : Str), (⟨#[95, 108, 97, 119, 95, 112, 108, 97, 99, 101]⟩ : Str), (⟨#[95, 108, 97, 119, 95, 101, 97, 114]⟩ : Str)]
  many := 1
  lock := []
  kw := []
  body := (.cons (.set (.nm 1) (.frz (.lst .nil)))
  (.cons (.for_ (.tp [(.nm 2), (.nm 3)]) (.enum (.var 0))
  (.cons (.set (.nm 1) (.frz (.bin .add (.var 1) (.bin .mul (.lst (.cons (.tup (.cons (.var 2) (.cons (.cst (.str (⟨#[108, 101, 102, 116]⟩ : Str))) .nil))) .nil)) (.bi .int (.cons (.con (.cmp .gt (.var 2) (.cst (.int 0))) (.cmp .in_ (.var 3) (.tup (.cons (.cst (.str (⟨#[98, 111, 116, 104]⟩ : Str))) (.cons (.cst (.str (⟨#[108, 101, 102, 116]⟩ : Str))) .nil))))) .nil))))))
  (.cons (.set (.nm 1) (.frz (.bin .add (.var 1) (.bin .mul (.lst (.cons (.tup (.cons (.var 2) (.cons (.cst (.str (⟨#[114, 105, 103, 104, 116]⟩ : Str))) .nil))) .nil)) (.bi .int (.cons (.con (.cmp .lt (.bin .add (.var 2) (.cst (.int 1))) (.bi .len (.cons (.var 0) .nil))) (.cmp .in_ (.var 3) (.tup (.cons (.cst (.str (⟨#[98, 111, 116, 104]⟩ : Str))) (.cons (.cst (.str (⟨#[114, 105, 103, 104, 116]⟩ : Str))) .nil))))) .nil))))))
  .nil)))
  (.cons (.retv 1)
  .nil))) }

def d__law_log : FD := {
  name := (⟨#[95, 108, 97, 119, 95, 108, 111, 103]⟩ : Str)
  names := [(⟨#[95, 108, 97, 119, 95, 98, 111, 120, 95, 104, 101, 114, 101]⟩ : Str), (⟨#[95, 108, 97, 119, 95, 101, 97, 114, 115, 95, 104, 101, 114, 101]⟩ : Str), (⟨#[95, 108, 97, 119, 95, 115, 105, 122, 101]⟩ : Str), (⟨#[95, 108, 97, 119, 95, 108, 101, 116, 115, 95, 104, 101, 114, 101]⟩ : Str), (⟨#[95, 108, 97, 119, 95, 116, 117, 114, 110]⟩ : Str)]
  many := 3
  lock := [0]
  kw := []
  body := (.cons (.set (.nm 3) (.frz (.call 508 (.val (.var 1) .nil))))
  (.cons (.ret (.comp [4] (.nm 4) (.rng1 (.bin .mul (.call 502 (.bor 0 (.val (.frz (.bin .add (.var 2) (.cst (.int 1)))) .nil))) (.bi .int (.cons (.cmp .ne (.var 3) (.lst .nil)) .nil)))) .none (.call 509 (.bor 0 (.val (.var 3) .nil)))))
  .nil)) }

def d__law_other : FD := {
  name := (⟨#[95, 108, 97, 119, 95, 111, 116, 104, 101, 114]⟩ : Str)
  names := [(⟨#[95, 108, 97, 119, 95, 98, 111, 120, 95, 104, 101, 114, 101]⟩ : Str), (⟨#[95, 108, 97, 119, 95, 101, 97, 114, 115, 95, 104, 101, 114, 101]⟩ : Str), (⟨#[95, 108, 97, 119, 95, 108, 111, 103, 95, 104, 101, 114, 101]⟩ : Str), (⟨#[95, 108, 97, 119, 95, 119, 97, 121]⟩ : Str), (⟨#[95, 108, 97, 119, 95, 97, 116]⟩ : Str)]
  many := 3
  lock := [0]
  kw := []
  body := (.cons (.par [3, 4] (.val (.call 502 (.bor 0 (.val (.cst (.int 4)) .nil))) (.val (.call 502 (.bor 0 (.val (.frz (.bin .add (.bi .len (.cons (.var 2) .nil)) (.cst (.int 1)))) .nil))) .nil)))
  (.cons (.ite (.cmp .eq (.var 3) (.cst (.int 0)))
  (.cons (.ret (.bin .add (.bin .add (.slc (.var 2) .none (.some (.var 4))) (.slc (.var 2) (.some (.var 4)) (.some (.bin .add (.var 4) (.cst (.int 1)))))) (.slc (.var 2) (.some (.var 4)) .none)))
  .nil)
  .nil)
  (.cons (.ite (.cmp .eq (.var 3) (.cst (.int 1)))
  (.cons (.ret (.bin .add (.slc (.var 2) .none (.some (.var 4))) (.slc (.var 2) (.some (.bin .add (.var 4) (.cst (.int 1)))) .none)))
  .nil)
  .nil)
  (.cons (.ite (.cmp .eq (.var 3) (.cst (.int 2)))
  (.cons (.ret (.bin .add (.bin .add (.slc (.var 2) .none (.some (.var 4))) (.call 512 (.bor 0 (.val (.var 1) (.val (.cst (.int 2)) .nil))))) (.slc (.var 2) (.some (.var 4)) .none)))
  .nil)
  .nil)
  (.cons (.ret (.bin .add (.bin .add (.slc (.var 2) .none (.some (.var 4))) (.rvs (.slc (.var 2) (.some (.var 4)) (.some (.bin .add (.var 4) (.cst (.int 2))))))) (.slc (.var 2) (.some (.bin .add (.var 4) (.cst (.int 2)))) .none)))
  .nil))))) }

def d__law_rows : FD := {
  name := (⟨#[95, 108, 97, 119, 95, 114, 111, 119, 115]⟩ : Str)
  names := [(⟨#[95, 108, 97, 119, 95, 109, 97, 110, 121]⟩ : Str), (⟨#[95, 108, 97, 119, 95, 102, 111, 117, 110, 100]⟩ : Str), (⟨#[95, 108, 97, 119, 95, 112, 108, 97, 99, 101]⟩ : Str), (⟨#[95, 108, 97, 119, 95, 114, 111, 119]⟩ : Str)]
  many := 1
  lock := []
  kw := []
  body := (.cons (.set (.nm 1) (.frz (.lst (.cons (.tup .nil) .nil))))
  (.cons (.for_ (.nm 2) (.rng1 (.var 0))
  (.cons (.set (.nm 1) (.frz (.bin .add (.comp [3] (.nm 3) (.seq (.var 1)) .none (.bin .add (.var 3) (.tup (.cons (.cst (.str (⟨#[97]⟩ : Str))) .nil)))) (.comp [3] (.nm 3) (.seq (.var 1)) .none (.bin .add (.var 3) (.tup (.cons (.cst (.str (⟨#[98]⟩ : Str))) .nil)))))))
  .nil))
  (.cons (.retv 1)
  .nil))) }

def d__law_right : FD := {
  name := (⟨#[95, 108, 97, 119, 95, 114, 105, 103, 104, 116]⟩ : Str)
  names := [(⟨#[95, 108, 97, 119, 95, 98, 111, 120, 95, 104, 101, 114, 101]⟩ : Str), (⟨#[95, 108, 97, 119, 95, 109, 97, 110, 121]⟩ : Str), (⟨#[95, 108, 97, 119, 95, 101, 97, 114, 115, 95, 104, 101, 114, 101]⟩ : Str), (⟨#[95, 108, 97, 119, 95, 108, 101, 116, 116, 101, 114, 115]⟩ : Str), (⟨#[95, 108, 97, 119, 95, 114, 111, 119, 115, 95, 104, 101, 114, 101]⟩ : Str), (⟨#[95, 108, 97, 119, 95, 117, 110, 108, 105, 107, 101]⟩ : Str), (⟨#[95, 108, 97, 119, 95, 112, 108, 97, 99, 101]⟩ : Str), (⟨#[95, 108, 97, 119, 95, 116, 117, 114, 110]⟩ : Str), (⟨#[95, 108, 97, 119, 95, 108, 111, 103, 95, 104, 101, 114, 101]⟩ : Str), (⟨#[95, 108, 97, 119, 95, 111, 116, 104, 101, 114, 95, 104, 101, 114, 101]⟩ : Str), (⟨#[95, 108, 97, 119, 95, 100, 117, 101]⟩ : Str), (⟨#[95, 108, 97, 119, 95, 114, 111, 119]⟩ : Str), (⟨#[95, 108, 97, 119, 95, 115, 111, 109, 101]⟩ : Str), (⟨#[95, 108, 97, 119, 95, 119, 105, 100, 101]⟩ : Str), (⟨#[95, 108, 97, 119, 95, 108, 101, 115, 115]⟩ : Str)]
  many := 1
  lock := [0]
  kw := []
  body := (.cons (.set (.nm 1) (.bin .add (.cst (.int 1)) (.call 502 (.bor 0 (.val (.cst (.int 6)) .nil)))))
  (.cons (.par [2, 3] (.val (.call 507 (.bor 0 (.val (.var 1) .nil))) (.val (.cst (.str (⟨#[107, 108, 109, 110, 111, 112, 113, 114, 115, 116]⟩ : Str))) .nil)))
  (.cons (.par [4, 5] (.val (.frz (.call 549 (.val (.var 1) .nil))) (.val (.bi .tuple (.cons (.comp [6] (.nm 6) (.rng1 (.var 1)) .none (.idx (.var 3) (.var 6))) .nil)) .nil)))
  (.cons (.for_ (.nm 7) (.rng1 (.cst (.int 3)))
  (.cons (.set (.nm 8) (.frz (.call 512 (.bor 0 (.val (.var 2) (.val (.cst (.int 12)) .nil))))))
  (.cons (.set (.nm 9) (.frz (.call 536 (.bor 0 (.val (.var 2) (.val (.var 8) .nil))))))
  (.cons (.set (.nm 10) (.bi .all (.cons (.comp [11] (.nm 11) (.seq (.var 4)) .none (.cmp .eq (.call 17 (.val (.var 11) (.val (.var 2) (.val (.var 8) .nil)))) (.call 17 (.val (.var 11) (.val (.var 2) (.val (.var 9) .nil)))))) .nil)))
  (.cons (.ite (.dis (.cmp .ne (.call 69 (.val (.var 2) (.val (.var 8) (.val (.var 9) .nil)))) (.var 10)) (.cmp .ne (.cmp .is_ (.call 70 (.val (.var 2) (.val (.var 8) (.val (.var 9) .nil)))) (.cst .non)) (.var 10)))
  (.cons (.ret (.cst (.bl false)))
  .nil)
  .nil)
  (.cons (.ite (.cmp .ne (.cmp .eq (.call 17 (.val (.var 5) (.val (.var 2) (.val (.var 8) .nil)))) (.call 17 (.val (.var 5) (.val (.var 2) (.val (.var 9) .nil))))) (.var 10))
  (.cons (.ret (.cst (.bl false)))
  .nil)
  .nil)
  (.cons (.set (.nm 12) (.frz (.call 512 (.bor 0 (.val (.var 2) (.val (.cst (.int 6)) .nil))))))
  (.cons (.ite (.con (.var 10) (.inv (.call 69 (.val (.var 2) (.val (.frz (.bin .add (.var 8) (.var 12))) (.val (.frz (.bin .add (.var 9) (.var 12))) .nil))))))
  (.cons (.ret (.cst (.bl false)))
  .nil)
  .nil)
  (.cons (.ite (.con (.var 10) (.inv (.call 69 (.val (.var 2) (.val (.frz (.bin .add (.var 12) (.var 8))) (.val (.frz (.bin .add (.var 12) (.var 9))) .nil))))))
  (.cons (.ret (.cst (.bl false)))
  .nil)
  .nil)
  (.cons (.par [13, 14] (.val (.call 5 (.val (.var 1) .nil)) (.val (.frz (.call 71 (.val (.var 2) (.val (.var 8) .nil)))) .nil)))
  (.cons (.ite (.dis (.cmp .gt (.bi .len (.cons (.var 14) .nil)) (.bi .len (.cons (.var 8) .nil))) (.dis (.inv (.call 69 (.val (.var 13) (.val (.var 14) (.val (.var 8) .nil))))) (.inv (.call 46 (.val (.var 13) (.val (.var 14) .nil))))))
  (.cons (.ret (.cst (.bl false)))
  .nil)
  .nil)
  (.cons (.ite (.cmp .ne (.bi .len (.cons (.call 71 (.val (.var 13) (.val (.var 14) .nil))) .nil)) (.bi .len (.cons (.var 14) .nil)))
  (.cons (.ret (.cst (.bl false)))
  .nil)
  .nil)
  .nil))))))))))))
  (.cons (.ret (.cst (.bl true)))
  .nil))))) }

def d_law : FD := {
  name := (⟨#[108, 97, 119]⟩ : Str)
  names := [(⟨#[95, 108, 97, 119, 95, 115, 99, 114, 105, 112, 116]⟩ : Str), (⟨#[95, 108, 97, 119, 95, 107]⟩ : Str)]
  many := 1
  lock := []
  kw := []
  body := (.cons (.ret (.bi .all (.cons (.comp [1] (.nm 1) (.rng1 (.bin .add (.cst (.int 1)) (.bi .min2 (.cons (.cst (.int 2)) (.cons (.bi .len (.cons (.var 0) .nil)) .nil))))) .none (.call 505 (.val (.call 501 (.val (.var 0) (.val (.var 1) .nil))) .nil))) .nil)))
  .nil) }

def defs : List (Nat × FD) := [(5, d_open_ears), (6, d_look_place), (7, d_neighbour), (8, d_has_ear), (14, d_look_taking), (16, d_taken), (17, d_gone), (27, d_origins_of), (31, d_is_let_at), (32, d_bar), (33, d_living), (34, d_span), (36, d_fewest_takings), (40, d_look_bar), (41, d_least_log), (46, d_is_least), (69, d_alike), (70, d_parting), (71, d_shortened), (500, d__law_cell_at), (501, d__law_box), (502, d__law_take), (509, d__law_of), (507, d__law_ears), (508, d__law_lets), (512, d__law_log), (536, d__law_other), (549, d__law_rows), (505, d__law_right), (506, d_law)]
def gls : List (Str × W) := [((⟨#[66, 79, 84, 72]⟩ : Str), (.str (⟨#[98, 111, 116, 104]⟩ : Str))), ((⟨#[76, 69, 70, 84]⟩ : Str), (.str (⟨#[108, 101, 102, 116]⟩ : Str))), ((⟨#[79, 78, 69, 95, 87, 79, 82, 68]⟩ : Str), (.str (⟨#[97]⟩ : Str))), ((⟨#[79, 84, 72, 69, 82, 95, 87, 79, 82, 68]⟩ : Str), (.str (⟨#[98]⟩ : Str))), ((⟨#[82, 73, 71, 72, 84]⟩ : Str), (.str (⟨#[114, 105, 103, 104, 116]⟩ : Str)))]
def cls : List (Nat × CD) := [(4, ⟨(⟨#[78, 111, 80, 108, 97, 99, 101]⟩ : Str), [(⟨#[112, 108, 97, 99, 101]⟩ : Str)], .L⟩), (5, ⟨(⟨#[78, 111, 78, 101, 105, 103, 104, 98, 111, 117, 114]⟩ : Str), [(⟨#[112, 108, 97, 99, 101]⟩ : Str)], .L⟩), (9, ⟨(⟨#[68, 101, 97, 102]⟩ : Str), [(⟨#[112, 108, 97, 99, 101]⟩ : Str)], .R⟩), (10, ⟨(⟨#[66, 97, 114, 114, 101, 100]⟩ : Str), [(⟨#[112, 108, 97, 99, 101]⟩ : Str)], .R⟩)]
def inS (i j : Nat) : Stmt := match topS i with
  | .ClassDef _ _ _ body _ _ _ _ _ _ _ => body.getD j (.Pass ⟨0, 0, 0, 0⟩)
  | s => s
abbrev G (fuel : Nat) : Pg := pg defs gls cls fuel
theorem o_open_ears {fuel : Nat} : DefOk d_open_ears (G fuel) (topS 9) where
  many := by decide
  lock := by decide
  scope := ⟨rfl, rfl, rfl, by decide +kernel, rfl, by decide +kernel, by decide +kernel⟩
  body := by
    show chkB d_open_ears.body { sc := defScope (topS 9), own := defScope (topS 9), N := d_open_ears.names, fd := lkF defs, gl := gls, cl := cls, top := true, lk := fun i => decide (i ∈ d_open_ears.lock) } (defBody (topS 9)) = true
    decide +kernel
theorem o_look_place {fuel : Nat} : DefOk d_look_place (G fuel) (topS 10) where
  many := by decide
  lock := by decide
  scope := ⟨rfl, rfl, rfl, by decide +kernel, rfl, by decide +kernel, by decide +kernel⟩
  body := by
    show chkB d_look_place.body { sc := defScope (topS 10), own := defScope (topS 10), N := d_look_place.names, fd := lkF defs, gl := gls, cl := cls, top := true, lk := fun i => decide (i ∈ d_look_place.lock) } (defBody (topS 10)) = true
    decide +kernel
theorem o_neighbour {fuel : Nat} : DefOk d_neighbour (G fuel) (topS 11) where
  many := by decide
  lock := by decide
  scope := ⟨rfl, rfl, rfl, by decide +kernel, rfl, by decide +kernel, by decide +kernel⟩
  body := by
    show chkB d_neighbour.body { sc := defScope (topS 11), own := defScope (topS 11), N := d_neighbour.names, fd := lkF defs, gl := gls, cl := cls, top := true, lk := fun i => decide (i ∈ d_neighbour.lock) } (defBody (topS 11)) = true
    decide +kernel
theorem o_has_ear {fuel : Nat} : DefOk d_has_ear (G fuel) (topS 12) where
  many := by decide
  lock := by decide
  scope := ⟨rfl, rfl, rfl, by decide +kernel, rfl, by decide +kernel, by decide +kernel⟩
  body := by
    show chkB d_has_ear.body { sc := defScope (topS 12), own := defScope (topS 12), N := d_has_ear.names, fd := lkF defs, gl := gls, cl := cls, top := true, lk := fun i => decide (i ∈ d_has_ear.lock) } (defBody (topS 12)) = true
    decide +kernel
theorem o_look_taking {fuel : Nat} : DefOk d_look_taking (G fuel) (topS 14) where
  many := by decide
  lock := by decide
  scope := ⟨rfl, rfl, rfl, by decide +kernel, rfl, by decide +kernel, by decide +kernel⟩
  body := by
    show chkB d_look_taking.body { sc := defScope (topS 14), own := defScope (topS 14), N := d_look_taking.names, fd := lkF defs, gl := gls, cl := cls, top := true, lk := fun i => decide (i ∈ d_look_taking.lock) } (defBody (topS 14)) = true
    decide +kernel
theorem o_taken {fuel : Nat} : DefOk d_taken (G fuel) (topS 15) where
  many := by decide
  lock := by decide
  scope := ⟨rfl, rfl, rfl, by decide +kernel, rfl, by decide +kernel, by decide +kernel⟩
  body := by
    show chkB d_taken.body { sc := defScope (topS 15), own := defScope (topS 15), N := d_taken.names, fd := lkF defs, gl := gls, cl := cls, top := true, lk := fun i => decide (i ∈ d_taken.lock) } (defBody (topS 15)) = true
    decide +kernel
theorem o_gone {fuel : Nat} : DefOk d_gone (G fuel) (topS 16) where
  many := by decide
  lock := by decide
  scope := ⟨rfl, rfl, rfl, by decide +kernel, rfl, by decide +kernel, by decide +kernel⟩
  body := by
    show chkB d_gone.body { sc := defScope (topS 16), own := defScope (topS 16), N := d_gone.names, fd := lkF defs, gl := gls, cl := cls, top := true, lk := fun i => decide (i ∈ d_gone.lock) } (defBody (topS 16)) = true
    decide +kernel
theorem o_origins_of {fuel : Nat} : DefOk d_origins_of (G fuel) (topS 18) where
  many := by decide
  lock := by decide
  scope := ⟨rfl, rfl, rfl, by decide +kernel, rfl, by decide +kernel, by decide +kernel⟩
  body := by
    show chkB d_origins_of.body { sc := defScope (topS 18), own := defScope (topS 18), N := d_origins_of.names, fd := lkF defs, gl := gls, cl := cls, top := true, lk := fun i => decide (i ∈ d_origins_of.lock) } (defBody (topS 18)) = true
    decide +kernel
theorem o_is_let_at {fuel : Nat} : DefOk d_is_let_at (G fuel) (topS 19) where
  many := by decide
  lock := by decide
  scope := ⟨rfl, rfl, rfl, by decide +kernel, rfl, by decide +kernel, by decide +kernel⟩
  body := by
    show chkB d_is_let_at.body { sc := defScope (topS 19), own := defScope (topS 19), N := d_is_let_at.names, fd := lkF defs, gl := gls, cl := cls, top := true, lk := fun i => decide (i ∈ d_is_let_at.lock) } (defBody (topS 19)) = true
    decide +kernel
theorem o_bar {fuel : Nat} : DefOk d_bar (G fuel) (topS 20) where
  many := by decide
  lock := by decide
  scope := ⟨rfl, rfl, rfl, by decide +kernel, rfl, by decide +kernel, by decide +kernel⟩
  body := by
    show chkB d_bar.body { sc := defScope (topS 20), own := defScope (topS 20), N := d_bar.names, fd := lkF defs, gl := gls, cl := cls, top := true, lk := fun i => decide (i ∈ d_bar.lock) } (defBody (topS 20)) = true
    decide +kernel
theorem o_living {fuel : Nat} : DefOk d_living (G fuel) (topS 21) where
  many := by decide
  lock := by decide
  scope := ⟨rfl, rfl, rfl, by decide +kernel, rfl, by decide +kernel, by decide +kernel⟩
  body := by
    show chkB d_living.body { sc := defScope (topS 21), own := defScope (topS 21), N := d_living.names, fd := lkF defs, gl := gls, cl := cls, top := true, lk := fun i => decide (i ∈ d_living.lock) } (defBody (topS 21)) = true
    decide +kernel
theorem o_span {fuel : Nat} : DefOk d_span (G fuel) (topS 22) where
  many := by decide
  lock := by decide
  scope := ⟨rfl, rfl, rfl, by decide +kernel, rfl, by decide +kernel, by decide +kernel⟩
  body := by
    show chkB d_span.body { sc := defScope (topS 22), own := defScope (topS 22), N := d_span.names, fd := lkF defs, gl := gls, cl := cls, top := true, lk := fun i => decide (i ∈ d_span.lock) } (defBody (topS 22)) = true
    decide +kernel
theorem o_fewest_takings {fuel : Nat} : DefOk d_fewest_takings (G fuel) (topS 24) where
  many := by decide
  lock := by decide
  scope := ⟨rfl, rfl, rfl, by decide +kernel, rfl, by decide +kernel, by decide +kernel⟩
  body := by
    show chkB d_fewest_takings.body { sc := defScope (topS 24), own := defScope (topS 24), N := d_fewest_takings.names, fd := lkF defs, gl := gls, cl := cls, top := true, lk := fun i => decide (i ∈ d_fewest_takings.lock) } (defBody (topS 24)) = true
    decide +kernel
theorem o_look_bar {fuel : Nat} : DefOk d_look_bar (G fuel) (topS 25) where
  many := by decide
  lock := by decide
  scope := ⟨rfl, rfl, rfl, by decide +kernel, rfl, by decide +kernel, by decide +kernel⟩
  body := by
    show chkB d_look_bar.body { sc := defScope (topS 25), own := defScope (topS 25), N := d_look_bar.names, fd := lkF defs, gl := gls, cl := cls, top := true, lk := fun i => decide (i ∈ d_look_bar.lock) } (defBody (topS 25)) = true
    decide +kernel
theorem o_least_log {fuel : Nat} : DefOk d_least_log (G fuel) (topS 26) where
  many := by decide
  lock := by decide
  scope := ⟨rfl, rfl, rfl, by decide +kernel, rfl, by decide +kernel, by decide +kernel⟩
  body := by
    show chkB d_least_log.body { sc := defScope (topS 26), own := defScope (topS 26), N := d_least_log.names, fd := lkF defs, gl := gls, cl := cls, top := true, lk := fun i => decide (i ∈ d_least_log.lock) } (defBody (topS 26)) = true
    decide +kernel
theorem o_is_least {fuel : Nat} : DefOk d_is_least (G fuel) (topS 27) where
  many := by decide
  lock := by decide
  scope := ⟨rfl, rfl, rfl, by decide +kernel, rfl, by decide +kernel, by decide +kernel⟩
  body := by
    show chkB d_is_least.body { sc := defScope (topS 27), own := defScope (topS 27), N := d_is_least.names, fd := lkF defs, gl := gls, cl := cls, top := true, lk := fun i => decide (i ∈ d_is_least.lock) } (defBody (topS 27)) = true
    decide +kernel
theorem o_alike {fuel : Nat} : DefOk d_alike (G fuel) (topS 31) where
  many := by decide
  lock := by decide
  scope := ⟨rfl, rfl, rfl, by decide +kernel, rfl, by decide +kernel, by decide +kernel⟩
  body := by
    show chkB d_alike.body { sc := defScope (topS 31), own := defScope (topS 31), N := d_alike.names, fd := lkF defs, gl := gls, cl := cls, top := true, lk := fun i => decide (i ∈ d_alike.lock) } (defBody (topS 31)) = true
    decide +kernel
theorem o_parting {fuel : Nat} : DefOk d_parting (G fuel) (topS 32) where
  many := by decide
  lock := by decide
  scope := ⟨rfl, rfl, rfl, by decide +kernel, rfl, by decide +kernel, by decide +kernel⟩
  body := by
    show chkB d_parting.body { sc := defScope (topS 32), own := defScope (topS 32), N := d_parting.names, fd := lkF defs, gl := gls, cl := cls, top := true, lk := fun i => decide (i ∈ d_parting.lock) } (defBody (topS 32)) = true
    decide +kernel
theorem o_shortened {fuel : Nat} : DefOk d_shortened (G fuel) (topS 33) where
  many := by decide
  lock := by decide
  scope := ⟨rfl, rfl, rfl, by decide +kernel, rfl, by decide +kernel, by decide +kernel⟩
  body := by
    show chkB d_shortened.body { sc := defScope (topS 33), own := defScope (topS 33), N := d_shortened.names, fd := lkF defs, gl := gls, cl := cls, top := true, lk := fun i => decide (i ∈ d_shortened.lock) } (defBody (topS 33)) = true
    decide +kernel
theorem o__law_cell_at {fuel : Nat} : DefOk d__law_cell_at (G fuel) (topS 35) where
  many := by decide
  lock := by decide
  scope := ⟨rfl, rfl, rfl, by decide +kernel, rfl, by decide +kernel, by decide +kernel⟩
  body := by
    show chkB d__law_cell_at.body { sc := defScope (topS 35), own := defScope (topS 35), N := d__law_cell_at.names, fd := lkF defs, gl := gls, cl := cls, top := true, lk := fun i => decide (i ∈ d__law_cell_at.lock) } (defBody (topS 35)) = true
    decide +kernel
theorem o__law_box {fuel : Nat} : DefOk d__law_box (G fuel) (topS 36) where
  many := by decide
  lock := by decide
  scope := ⟨rfl, rfl, rfl, by decide +kernel, rfl, by decide +kernel, by decide +kernel⟩
  body := by
    show chkB d__law_box.body { sc := defScope (topS 36), own := defScope (topS 36), N := d__law_box.names, fd := lkF defs, gl := gls, cl := cls, top := true, lk := fun i => decide (i ∈ d__law_box.lock) } (defBody (topS 36)) = true
    decide +kernel
theorem o__law_take {fuel : Nat} : DefOk d__law_take (G fuel) (topS 37) where
  many := by decide
  lock := by decide
  scope := ⟨rfl, rfl, rfl, by decide +kernel, rfl, by decide +kernel, by decide +kernel⟩
  body := by
    show chkB d__law_take.body { sc := defScope (topS 37), own := defScope (topS 37), N := d__law_take.names, fd := lkF defs, gl := gls, cl := cls, top := true, lk := fun i => decide (i ∈ d__law_take.lock) } (defBody (topS 37)) = true
    decide +kernel
theorem o__law_of {fuel : Nat} : DefOk d__law_of (G fuel) (topS 38) where
  many := by decide
  lock := by decide
  scope := ⟨rfl, rfl, rfl, by decide +kernel, rfl, by decide +kernel, by decide +kernel⟩
  body := by
    show chkB d__law_of.body { sc := defScope (topS 38), own := defScope (topS 38), N := d__law_of.names, fd := lkF defs, gl := gls, cl := cls, top := true, lk := fun i => decide (i ∈ d__law_of.lock) } (defBody (topS 38)) = true
    decide +kernel
theorem o__law_ears {fuel : Nat} : DefOk d__law_ears (G fuel) (topS 39) where
  many := by decide
  lock := by decide
  scope := ⟨rfl, rfl, rfl, by decide +kernel, rfl, by decide +kernel, by decide +kernel⟩
  body := by
    show chkB d__law_ears.body { sc := defScope (topS 39), own := defScope (topS 39), N := d__law_ears.names, fd := lkF defs, gl := gls, cl := cls, top := true, lk := fun i => decide (i ∈ d__law_ears.lock) } (defBody (topS 39)) = true
    decide +kernel
theorem o__law_lets {fuel : Nat} : DefOk d__law_lets (G fuel) (topS 40) where
  many := by decide
  lock := by decide
  scope := ⟨rfl, rfl, rfl, by decide +kernel, rfl, by decide +kernel, by decide +kernel⟩
  body := by
    show chkB d__law_lets.body { sc := defScope (topS 40), own := defScope (topS 40), N := d__law_lets.names, fd := lkF defs, gl := gls, cl := cls, top := true, lk := fun i => decide (i ∈ d__law_lets.lock) } (defBody (topS 40)) = true
    decide +kernel
theorem o__law_log {fuel : Nat} : DefOk d__law_log (G fuel) (topS 41) where
  many := by decide
  lock := by decide
  scope := ⟨rfl, rfl, rfl, by decide +kernel, rfl, by decide +kernel, by decide +kernel⟩
  body := by
    show chkB d__law_log.body { sc := defScope (topS 41), own := defScope (topS 41), N := d__law_log.names, fd := lkF defs, gl := gls, cl := cls, top := true, lk := fun i => decide (i ∈ d__law_log.lock) } (defBody (topS 41)) = true
    decide +kernel
theorem o__law_other {fuel : Nat} : DefOk d__law_other (G fuel) (topS 42) where
  many := by decide
  lock := by decide
  scope := ⟨rfl, rfl, rfl, by decide +kernel, rfl, by decide +kernel, by decide +kernel⟩
  body := by
    show chkB d__law_other.body { sc := defScope (topS 42), own := defScope (topS 42), N := d__law_other.names, fd := lkF defs, gl := gls, cl := cls, top := true, lk := fun i => decide (i ∈ d__law_other.lock) } (defBody (topS 42)) = true
    decide +kernel
theorem o__law_rows {fuel : Nat} : DefOk d__law_rows (G fuel) (topS 43) where
  many := by decide
  lock := by decide
  scope := ⟨rfl, rfl, rfl, by decide +kernel, rfl, by decide +kernel, by decide +kernel⟩
  body := by
    show chkB d__law_rows.body { sc := defScope (topS 43), own := defScope (topS 43), N := d__law_rows.names, fd := lkF defs, gl := gls, cl := cls, top := true, lk := fun i => decide (i ∈ d__law_rows.lock) } (defBody (topS 43)) = true
    decide +kernel
theorem o__law_right {fuel : Nat} : DefOk d__law_right (G fuel) (topS 44) where
  many := by decide
  lock := by decide
  scope := ⟨rfl, rfl, rfl, by decide +kernel, rfl, by decide +kernel, by decide +kernel⟩
  body := by
    show chkB d__law_right.body { sc := defScope (topS 44), own := defScope (topS 44), N := d__law_right.names, fd := lkF defs, gl := gls, cl := cls, top := true, lk := fun i => decide (i ∈ d__law_right.lock) } (defBody (topS 44)) = true
    decide +kernel
theorem o_law {fuel : Nat} : DefOk d_law (G fuel) (topS 45) where
  many := by decide
  lock := by decide
  scope := ⟨rfl, rfl, rfl, by decide +kernel, rfl, by decide +kernel, by decide +kernel⟩
  body := by
    show chkB d_law.body { sc := defScope (topS 45), own := defScope (topS 45), N := d_law.names, fd := lkF defs, gl := gls, cl := cls, top := true, lk := fun i => decide (i ∈ d_law.lock) } (defBody (topS 45)) = true
    decide +kernel
section
variable {K : PySem.W.Frag} {h : Heap} {mg : Str → Option Value} {fuel : Nat}
theorem r_open_ears (X : K.In h) (Gm : h.Ns mainGlobals mg) {f : Addr} {oc : Value} {od an : Option Addr} {osl : Array (Option Value)} {kV doc pm cdv ct : Value} (a : PySem.W.nsIn K mainGlobals (⟨#[111, 112, 101, 110, 95, 101, 97, 114, 115]⟩ : Str) = some (some (.ref f)))
    (l : K.lookup f = some ⟨oc, od, .func (PySem.W.fnOf (⟨#[111, 112, 101, 110, 95, 101, 97, 114, 115]⟩ : Str) (⟨#[111, 112, 101, 110, 95, 101, 97, 114, 115]⟩ : Str) (defArgs (topS 9)) (defBody (topS 9)) (defScope (topS 9)) .none kV doc pm an cdv ct), osl⟩) (c : PySem.W.codeIn K cdv (⟨#[111, 112, 101, 110, 95, 101, 97, 114, 115]⟩ : Str) = true) (k : PySem.W.keepIn K (.ref f) = true) : Row K mg (tb K defs cls) (G fuel) 5 d_open_ears :=
  row_mk X Gm (st := topS 9) rfl a l c k o_open_ears (fun _ _ _ _ _ _ us hl => match us, hl with | [_], _ => rfl)
    (fun _ _ _ _ _ h => nomatch h)
theorem r_look_place (X : K.In h) (Gm : h.Ns mainGlobals mg) {f : Addr} {oc : Value} {od an : Option Addr} {osl : Array (Option Value)} {kV doc pm cdv ct : Value} (a : PySem.W.nsIn K mainGlobals (⟨#[108, 111, 111, 107, 95, 112, 108, 97, 99, 101]⟩ : Str) = some (some (.ref f)))
    (l : K.lookup f = some ⟨oc, od, .func (PySem.W.fnOf (⟨#[108, 111, 111, 107, 95, 112, 108, 97, 99, 101]⟩ : Str) (⟨#[108, 111, 111, 107, 95, 112, 108, 97, 99, 101]⟩ : Str) (defArgs (topS 10)) (defBody (topS 10)) (defScope (topS 10)) .none kV doc pm an cdv ct), osl⟩) (c : PySem.W.codeIn K cdv (⟨#[108, 111, 111, 107, 95, 112, 108, 97, 99, 101]⟩ : Str) = true) (k : PySem.W.keepIn K (.ref f) = true) : Row K mg (tb K defs cls) (G fuel) 6 d_look_place :=
  row_mk X Gm (st := topS 10) rfl a l c k o_look_place (fun _ _ _ _ _ _ us hl => match us, hl with | [_, _], _ => rfl)
    (fun _ _ _ _ _ h => nomatch h)
theorem r_neighbour (X : K.In h) (Gm : h.Ns mainGlobals mg) {f : Addr} {oc : Value} {od an : Option Addr} {osl : Array (Option Value)} {kV doc pm cdv ct : Value} (a : PySem.W.nsIn K mainGlobals (⟨#[110, 101, 105, 103, 104, 98, 111, 117, 114]⟩ : Str) = some (some (.ref f)))
    (l : K.lookup f = some ⟨oc, od, .func (PySem.W.fnOf (⟨#[110, 101, 105, 103, 104, 98, 111, 117, 114]⟩ : Str) (⟨#[110, 101, 105, 103, 104, 98, 111, 117, 114]⟩ : Str) (defArgs (topS 11)) (defBody (topS 11)) (defScope (topS 11)) .none kV doc pm an cdv ct), osl⟩) (c : PySem.W.codeIn K cdv (⟨#[110, 101, 105, 103, 104, 98, 111, 117, 114]⟩ : Str) = true) (k : PySem.W.keepIn K (.ref f) = true) : Row K mg (tb K defs cls) (G fuel) 7 d_neighbour :=
  row_mk X Gm (st := topS 11) rfl a l c k o_neighbour (fun _ _ _ _ _ _ us hl => match us, hl with | [_, _], _ => rfl)
    (fun _ _ _ _ _ h => nomatch h)
theorem r_has_ear (X : K.In h) (Gm : h.Ns mainGlobals mg) {f : Addr} {oc : Value} {od an : Option Addr} {osl : Array (Option Value)} {kV doc pm cdv ct : Value} (a : PySem.W.nsIn K mainGlobals (⟨#[104, 97, 115, 95, 101, 97, 114]⟩ : Str) = some (some (.ref f)))
    (l : K.lookup f = some ⟨oc, od, .func (PySem.W.fnOf (⟨#[104, 97, 115, 95, 101, 97, 114]⟩ : Str) (⟨#[104, 97, 115, 95, 101, 97, 114]⟩ : Str) (defArgs (topS 12)) (defBody (topS 12)) (defScope (topS 12)) .none kV doc pm an cdv ct), osl⟩) (c : PySem.W.codeIn K cdv (⟨#[104, 97, 115, 95, 101, 97, 114]⟩ : Str) = true) (k : PySem.W.keepIn K (.ref f) = true) : Row K mg (tb K defs cls) (G fuel) 8 d_has_ear :=
  row_mk X Gm (st := topS 12) rfl a l c k o_has_ear (fun _ _ _ _ _ _ us hl => match us, hl with | [_, _, _], _ => rfl)
    (fun _ _ _ _ _ h => nomatch h)
theorem r_look_taking (X : K.In h) (Gm : h.Ns mainGlobals mg) {f : Addr} {oc : Value} {od an : Option Addr} {osl : Array (Option Value)} {kV doc pm cdv ct : Value} (a : PySem.W.nsIn K mainGlobals (⟨#[108, 111, 111, 107, 95, 116, 97, 107, 105, 110, 103]⟩ : Str) = some (some (.ref f)))
    (l : K.lookup f = some ⟨oc, od, .func (PySem.W.fnOf (⟨#[108, 111, 111, 107, 95, 116, 97, 107, 105, 110, 103]⟩ : Str) (⟨#[108, 111, 111, 107, 95, 116, 97, 107, 105, 110, 103]⟩ : Str) (defArgs (topS 14)) (defBody (topS 14)) (defScope (topS 14)) .none kV doc pm an cdv ct), osl⟩) (c : PySem.W.codeIn K cdv (⟨#[108, 111, 111, 107, 95, 116, 97, 107, 105, 110, 103]⟩ : Str) = true) (k : PySem.W.keepIn K (.ref f) = true) : Row K mg (tb K defs cls) (G fuel) 14 d_look_taking :=
  row_mk X Gm (st := topS 14) rfl a l c k o_look_taking (fun _ _ _ _ _ _ us hl => match us, hl with | [_, _], _ => rfl)
    (fun _ _ _ _ _ h => nomatch h)
theorem r_taken (X : K.In h) (Gm : h.Ns mainGlobals mg) {f : Addr} {oc : Value} {od an : Option Addr} {osl : Array (Option Value)} {kV doc pm cdv ct : Value} (a : PySem.W.nsIn K mainGlobals (⟨#[116, 97, 107, 101, 110]⟩ : Str) = some (some (.ref f)))
    (l : K.lookup f = some ⟨oc, od, .func (PySem.W.fnOf (⟨#[116, 97, 107, 101, 110]⟩ : Str) (⟨#[116, 97, 107, 101, 110]⟩ : Str) (defArgs (topS 15)) (defBody (topS 15)) (defScope (topS 15)) .none kV doc pm an cdv ct), osl⟩) (c : PySem.W.codeIn K cdv (⟨#[116, 97, 107, 101, 110]⟩ : Str) = true) (k : PySem.W.keepIn K (.ref f) = true) : Row K mg (tb K defs cls) (G fuel) 16 d_taken :=
  row_mk X Gm (st := topS 15) rfl a l c k o_taken (fun _ _ _ _ _ _ us hl => match us, hl with | [_, _, _], _ => rfl)
    (fun _ _ _ _ _ h => nomatch h)
theorem r_gone (X : K.In h) (Gm : h.Ns mainGlobals mg) {f : Addr} {oc : Value} {od an : Option Addr} {osl : Array (Option Value)} {kV doc pm cdv ct : Value} (a : PySem.W.nsIn K mainGlobals (⟨#[103, 111, 110, 101]⟩ : Str) = some (some (.ref f)))
    (l : K.lookup f = some ⟨oc, od, .func (PySem.W.fnOf (⟨#[103, 111, 110, 101]⟩ : Str) (⟨#[103, 111, 110, 101]⟩ : Str) (defArgs (topS 16)) (defBody (topS 16)) (defScope (topS 16)) .none kV doc pm an cdv ct), osl⟩) (c : PySem.W.codeIn K cdv (⟨#[103, 111, 110, 101]⟩ : Str) = true) (k : PySem.W.keepIn K (.ref f) = true) : Row K mg (tb K defs cls) (G fuel) 17 d_gone :=
  row_mk X Gm (st := topS 16) rfl a l c k o_gone (fun _ _ _ _ _ _ us hl => match us, hl with | [_, _, _], _ => rfl)
    (fun _ _ _ _ _ h => nomatch h)
theorem r_origins_of (X : K.In h) (Gm : h.Ns mainGlobals mg) {f : Addr} {oc : Value} {od an : Option Addr} {osl : Array (Option Value)} {kV doc pm cdv ct : Value} (a : PySem.W.nsIn K mainGlobals (⟨#[111, 114, 105, 103, 105, 110, 115, 95, 111, 102]⟩ : Str) = some (some (.ref f)))
    (l : K.lookup f = some ⟨oc, od, .func (PySem.W.fnOf (⟨#[111, 114, 105, 103, 105, 110, 115, 95, 111, 102]⟩ : Str) (⟨#[111, 114, 105, 103, 105, 110, 115, 95, 111, 102]⟩ : Str) (defArgs (topS 18)) (defBody (topS 18)) (defScope (topS 18)) .none kV doc pm an cdv ct), osl⟩) (c : PySem.W.codeIn K cdv (⟨#[111, 114, 105, 103, 105, 110, 115, 95, 111, 102]⟩ : Str) = true) (k : PySem.W.keepIn K (.ref f) = true) : Row K mg (tb K defs cls) (G fuel) 27 d_origins_of :=
  row_mk X Gm (st := topS 18) rfl a l c k o_origins_of (fun _ _ _ _ _ _ us hl => match us, hl with | [_, _], _ => rfl)
    (fun _ _ _ _ _ h => nomatch h)
theorem r_is_let_at (X : K.In h) (Gm : h.Ns mainGlobals mg) {f : Addr} {oc : Value} {od an : Option Addr} {osl : Array (Option Value)} {kV doc pm cdv ct : Value} (a : PySem.W.nsIn K mainGlobals (⟨#[105, 115, 95, 108, 101, 116, 95, 97, 116]⟩ : Str) = some (some (.ref f)))
    (l : K.lookup f = some ⟨oc, od, .func (PySem.W.fnOf (⟨#[105, 115, 95, 108, 101, 116, 95, 97, 116]⟩ : Str) (⟨#[105, 115, 95, 108, 101, 116, 95, 97, 116]⟩ : Str) (defArgs (topS 19)) (defBody (topS 19)) (defScope (topS 19)) .none kV doc pm an cdv ct), osl⟩) (c : PySem.W.codeIn K cdv (⟨#[105, 115, 95, 108, 101, 116, 95, 97, 116]⟩ : Str) = true) (k : PySem.W.keepIn K (.ref f) = true) : Row K mg (tb K defs cls) (G fuel) 31 d_is_let_at :=
  row_mk X Gm (st := topS 19) rfl a l c k o_is_let_at (fun _ _ _ _ _ _ us hl => match us, hl with | [_, _, _], _ => rfl)
    (fun _ _ _ _ _ h => nomatch h)
theorem r_bar (X : K.In h) (Gm : h.Ns mainGlobals mg) {f : Addr} {oc : Value} {od an : Option Addr} {osl : Array (Option Value)} {kV doc pm cdv ct : Value} (a : PySem.W.nsIn K mainGlobals (⟨#[98, 97, 114]⟩ : Str) = some (some (.ref f)))
    (l : K.lookup f = some ⟨oc, od, .func (PySem.W.fnOf (⟨#[98, 97, 114]⟩ : Str) (⟨#[98, 97, 114]⟩ : Str) (defArgs (topS 20)) (defBody (topS 20)) (defScope (topS 20)) .none kV doc pm an cdv ct), osl⟩) (c : PySem.W.codeIn K cdv (⟨#[98, 97, 114]⟩ : Str) = true) (k : PySem.W.keepIn K (.ref f) = true) : Row K mg (tb K defs cls) (G fuel) 32 d_bar :=
  row_mk X Gm (st := topS 20) rfl a l c k o_bar (fun _ _ _ _ _ _ us hl => match us, hl with | [_, _], _ => rfl)
    (fun _ _ _ _ _ h => nomatch h)
theorem r_living (X : K.In h) (Gm : h.Ns mainGlobals mg) {f : Addr} {oc : Value} {od an : Option Addr} {osl : Array (Option Value)} {kV doc pm cdv ct : Value} (a : PySem.W.nsIn K mainGlobals (⟨#[108, 105, 118, 105, 110, 103]⟩ : Str) = some (some (.ref f)))
    (l : K.lookup f = some ⟨oc, od, .func (PySem.W.fnOf (⟨#[108, 105, 118, 105, 110, 103]⟩ : Str) (⟨#[108, 105, 118, 105, 110, 103]⟩ : Str) (defArgs (topS 21)) (defBody (topS 21)) (defScope (topS 21)) .none kV doc pm an cdv ct), osl⟩) (c : PySem.W.codeIn K cdv (⟨#[108, 105, 118, 105, 110, 103]⟩ : Str) = true) (k : PySem.W.keepIn K (.ref f) = true) : Row K mg (tb K defs cls) (G fuel) 33 d_living :=
  row_mk X Gm (st := topS 21) rfl a l c k o_living (fun _ _ _ _ _ _ us hl => match us, hl with | [_], _ => rfl)
    (fun _ _ _ _ _ h => nomatch h)
theorem r_span (X : K.In h) (Gm : h.Ns mainGlobals mg) {f : Addr} {oc : Value} {od an : Option Addr} {osl : Array (Option Value)} {kV doc pm cdv ct : Value} (a : PySem.W.nsIn K mainGlobals (⟨#[115, 112, 97, 110]⟩ : Str) = some (some (.ref f)))
    (l : K.lookup f = some ⟨oc, od, .func (PySem.W.fnOf (⟨#[115, 112, 97, 110]⟩ : Str) (⟨#[115, 112, 97, 110]⟩ : Str) (defArgs (topS 22)) (defBody (topS 22)) (defScope (topS 22)) .none kV doc pm an cdv ct), osl⟩) (c : PySem.W.codeIn K cdv (⟨#[115, 112, 97, 110]⟩ : Str) = true) (k : PySem.W.keepIn K (.ref f) = true) : Row K mg (tb K defs cls) (G fuel) 34 d_span :=
  row_mk X Gm (st := topS 22) rfl a l c k o_span (fun _ _ _ _ _ _ us hl => match us, hl with | [_, _], _ => rfl)
    (fun _ _ _ _ _ h => nomatch h)
theorem r_fewest_takings (X : K.In h) (Gm : h.Ns mainGlobals mg) {f : Addr} {oc : Value} {od an : Option Addr} {osl : Array (Option Value)} {kV doc pm cdv ct : Value} (a : PySem.W.nsIn K mainGlobals (⟨#[102, 101, 119, 101, 115, 116, 95, 116, 97, 107, 105, 110, 103, 115]⟩ : Str) = some (some (.ref f)))
    (l : K.lookup f = some ⟨oc, od, .func (PySem.W.fnOf (⟨#[102, 101, 119, 101, 115, 116, 95, 116, 97, 107, 105, 110, 103, 115]⟩ : Str) (⟨#[102, 101, 119, 101, 115, 116, 95, 116, 97, 107, 105, 110, 103, 115]⟩ : Str) (defArgs (topS 24)) (defBody (topS 24)) (defScope (topS 24)) .none kV doc pm an cdv ct), osl⟩) (c : PySem.W.codeIn K cdv (⟨#[102, 101, 119, 101, 115, 116, 95, 116, 97, 107, 105, 110, 103, 115]⟩ : Str) = true) (k : PySem.W.keepIn K (.ref f) = true) : Row K mg (tb K defs cls) (G fuel) 36 d_fewest_takings :=
  row_mk X Gm (st := topS 24) rfl a l c k o_fewest_takings (fun _ _ _ _ _ _ us hl => match us, hl with | [_], _ => rfl)
    (fun _ _ _ _ _ h => nomatch h)
theorem r_look_bar (X : K.In h) (Gm : h.Ns mainGlobals mg) {f : Addr} {oc : Value} {od an : Option Addr} {osl : Array (Option Value)} {kV doc pm cdv ct : Value} (a : PySem.W.nsIn K mainGlobals (⟨#[108, 111, 111, 107, 95, 98, 97, 114]⟩ : Str) = some (some (.ref f)))
    (l : K.lookup f = some ⟨oc, od, .func (PySem.W.fnOf (⟨#[108, 111, 111, 107, 95, 98, 97, 114]⟩ : Str) (⟨#[108, 111, 111, 107, 95, 98, 97, 114]⟩ : Str) (defArgs (topS 25)) (defBody (topS 25)) (defScope (topS 25)) .none kV doc pm an cdv ct), osl⟩) (c : PySem.W.codeIn K cdv (⟨#[108, 111, 111, 107, 95, 98, 97, 114]⟩ : Str) = true) (k : PySem.W.keepIn K (.ref f) = true) : Row K mg (tb K defs cls) (G fuel) 40 d_look_bar :=
  row_mk X Gm (st := topS 25) rfl a l c k o_look_bar (fun _ _ _ _ _ _ us hl => match us, hl with | [_, _], _ => rfl)
    (fun _ _ _ _ _ h => nomatch h)
theorem r_least_log (X : K.In h) (Gm : h.Ns mainGlobals mg) {f : Addr} {oc : Value} {od an : Option Addr} {osl : Array (Option Value)} {kV doc pm cdv ct : Value} (a : PySem.W.nsIn K mainGlobals (⟨#[108, 101, 97, 115, 116, 95, 108, 111, 103]⟩ : Str) = some (some (.ref f)))
    (l : K.lookup f = some ⟨oc, od, .func (PySem.W.fnOf (⟨#[108, 101, 97, 115, 116, 95, 108, 111, 103]⟩ : Str) (⟨#[108, 101, 97, 115, 116, 95, 108, 111, 103]⟩ : Str) (defArgs (topS 26)) (defBody (topS 26)) (defScope (topS 26)) .none kV doc pm an cdv ct), osl⟩) (c : PySem.W.codeIn K cdv (⟨#[108, 101, 97, 115, 116, 95, 108, 111, 103]⟩ : Str) = true) (k : PySem.W.keepIn K (.ref f) = true) : Row K mg (tb K defs cls) (G fuel) 41 d_least_log :=
  row_mk X Gm (st := topS 26) rfl a l c k o_least_log (fun _ _ _ _ _ _ us hl => match us, hl with | [_, _], _ => rfl)
    (fun _ _ _ _ _ h => nomatch h)
theorem r_is_least (X : K.In h) (Gm : h.Ns mainGlobals mg) {f : Addr} {oc : Value} {od an : Option Addr} {osl : Array (Option Value)} {kV doc pm cdv ct : Value} (a : PySem.W.nsIn K mainGlobals (⟨#[105, 115, 95, 108, 101, 97, 115, 116]⟩ : Str) = some (some (.ref f)))
    (l : K.lookup f = some ⟨oc, od, .func (PySem.W.fnOf (⟨#[105, 115, 95, 108, 101, 97, 115, 116]⟩ : Str) (⟨#[105, 115, 95, 108, 101, 97, 115, 116]⟩ : Str) (defArgs (topS 27)) (defBody (topS 27)) (defScope (topS 27)) .none kV doc pm an cdv ct), osl⟩) (c : PySem.W.codeIn K cdv (⟨#[105, 115, 95, 108, 101, 97, 115, 116]⟩ : Str) = true) (k : PySem.W.keepIn K (.ref f) = true) : Row K mg (tb K defs cls) (G fuel) 46 d_is_least :=
  row_mk X Gm (st := topS 27) rfl a l c k o_is_least (fun _ _ _ _ _ _ us hl => match us, hl with | [_, _], _ => rfl)
    (fun _ _ _ _ _ h => nomatch h)
theorem r_alike (X : K.In h) (Gm : h.Ns mainGlobals mg) {f : Addr} {oc : Value} {od an : Option Addr} {osl : Array (Option Value)} {kV doc pm cdv ct : Value} (a : PySem.W.nsIn K mainGlobals (⟨#[97, 108, 105, 107, 101]⟩ : Str) = some (some (.ref f)))
    (l : K.lookup f = some ⟨oc, od, .func (PySem.W.fnOf (⟨#[97, 108, 105, 107, 101]⟩ : Str) (⟨#[97, 108, 105, 107, 101]⟩ : Str) (defArgs (topS 31)) (defBody (topS 31)) (defScope (topS 31)) .none kV doc pm an cdv ct), osl⟩) (c : PySem.W.codeIn K cdv (⟨#[97, 108, 105, 107, 101]⟩ : Str) = true) (k : PySem.W.keepIn K (.ref f) = true) : Row K mg (tb K defs cls) (G fuel) 69 d_alike :=
  row_mk X Gm (st := topS 31) rfl a l c k o_alike (fun _ _ _ _ _ _ us hl => match us, hl with | [_, _, _], _ => rfl)
    (fun _ _ _ _ _ h => nomatch h)
theorem r_parting (X : K.In h) (Gm : h.Ns mainGlobals mg) {f : Addr} {oc : Value} {od an : Option Addr} {osl : Array (Option Value)} {kV doc pm cdv ct : Value} (a : PySem.W.nsIn K mainGlobals (⟨#[112, 97, 114, 116, 105, 110, 103]⟩ : Str) = some (some (.ref f)))
    (l : K.lookup f = some ⟨oc, od, .func (PySem.W.fnOf (⟨#[112, 97, 114, 116, 105, 110, 103]⟩ : Str) (⟨#[112, 97, 114, 116, 105, 110, 103]⟩ : Str) (defArgs (topS 32)) (defBody (topS 32)) (defScope (topS 32)) .none kV doc pm an cdv ct), osl⟩) (c : PySem.W.codeIn K cdv (⟨#[112, 97, 114, 116, 105, 110, 103]⟩ : Str) = true) (k : PySem.W.keepIn K (.ref f) = true) : Row K mg (tb K defs cls) (G fuel) 70 d_parting :=
  row_mk X Gm (st := topS 32) rfl a l c k o_parting (fun _ _ _ _ _ _ us hl => match us, hl with | [_, _, _], _ => rfl)
    (fun _ _ _ _ _ h => nomatch h)
theorem r_shortened (X : K.In h) (Gm : h.Ns mainGlobals mg) {f : Addr} {oc : Value} {od an : Option Addr} {osl : Array (Option Value)} {kV doc pm cdv ct : Value} (a : PySem.W.nsIn K mainGlobals (⟨#[115, 104, 111, 114, 116, 101, 110, 101, 100]⟩ : Str) = some (some (.ref f)))
    (l : K.lookup f = some ⟨oc, od, .func (PySem.W.fnOf (⟨#[115, 104, 111, 114, 116, 101, 110, 101, 100]⟩ : Str) (⟨#[115, 104, 111, 114, 116, 101, 110, 101, 100]⟩ : Str) (defArgs (topS 33)) (defBody (topS 33)) (defScope (topS 33)) .none kV doc pm an cdv ct), osl⟩) (c : PySem.W.codeIn K cdv (⟨#[115, 104, 111, 114, 116, 101, 110, 101, 100]⟩ : Str) = true) (k : PySem.W.keepIn K (.ref f) = true) : Row K mg (tb K defs cls) (G fuel) 71 d_shortened :=
  row_mk X Gm (st := topS 33) rfl a l c k o_shortened (fun _ _ _ _ _ _ us hl => match us, hl with | [_, _], _ => rfl)
    (fun _ _ _ _ _ h => nomatch h)
theorem r__law_cell_at (X : K.In h) (Gm : h.Ns mainGlobals mg) {f : Addr} {oc : Value} {od an : Option Addr} {osl : Array (Option Value)} {kV doc pm cdv ct : Value} (a : PySem.W.nsIn K mainGlobals (⟨#[95, 108, 97, 119, 95, 99, 101, 108, 108, 95, 97, 116]⟩ : Str) = some (some (.ref f)))
    (l : K.lookup f = some ⟨oc, od, .func (PySem.W.fnOf (⟨#[95, 108, 97, 119, 95, 99, 101, 108, 108, 95, 97, 116]⟩ : Str) (⟨#[95, 108, 97, 119, 95, 99, 101, 108, 108, 95, 97, 116]⟩ : Str) (defArgs (topS 35)) (defBody (topS 35)) (defScope (topS 35)) .none kV doc pm an cdv ct), osl⟩) (c : PySem.W.codeIn K cdv (⟨#[95, 108, 97, 119, 95, 99, 101, 108, 108, 95, 97, 116]⟩ : Str) = true) (k : PySem.W.keepIn K (.ref f) = true) : Row K mg (tb K defs cls) (G fuel) 500 d__law_cell_at :=
  row_mk X Gm (st := topS 35) rfl a l c k o__law_cell_at (fun _ _ _ _ _ _ us hl => match us, hl with | [_, _], _ => rfl)
    (fun _ _ _ _ _ h => nomatch h)
theorem r__law_box (X : K.In h) (Gm : h.Ns mainGlobals mg) {f : Addr} {oc : Value} {od an : Option Addr} {osl : Array (Option Value)} {kV doc pm cdv ct : Value} (a : PySem.W.nsIn K mainGlobals (⟨#[95, 108, 97, 119, 95, 98, 111, 120]⟩ : Str) = some (some (.ref f)))
    (l : K.lookup f = some ⟨oc, od, .func (PySem.W.fnOf (⟨#[95, 108, 97, 119, 95, 98, 111, 120]⟩ : Str) (⟨#[95, 108, 97, 119, 95, 98, 111, 120]⟩ : Str) (defArgs (topS 36)) (defBody (topS 36)) (defScope (topS 36)) .none kV doc pm an cdv ct), osl⟩) (c : PySem.W.codeIn K cdv (⟨#[95, 108, 97, 119, 95, 98, 111, 120]⟩ : Str) = true) (k : PySem.W.keepIn K (.ref f) = true) : Row K mg (tb K defs cls) (G fuel) 501 d__law_box :=
  row_mk X Gm (st := topS 36) rfl a l c k o__law_box (fun _ _ _ _ _ _ us hl => match us, hl with | [_, _], _ => rfl)
    (fun _ _ _ _ _ h => nomatch h)
theorem r__law_take (X : K.In h) (Gm : h.Ns mainGlobals mg) {f : Addr} {oc : Value} {od an : Option Addr} {osl : Array (Option Value)} {kV doc pm cdv ct : Value} (a : PySem.W.nsIn K mainGlobals (⟨#[95, 108, 97, 119, 95, 116, 97, 107, 101]⟩ : Str) = some (some (.ref f)))
    (l : K.lookup f = some ⟨oc, od, .func (PySem.W.fnOf (⟨#[95, 108, 97, 119, 95, 116, 97, 107, 101]⟩ : Str) (⟨#[95, 108, 97, 119, 95, 116, 97, 107, 101]⟩ : Str) (defArgs (topS 37)) (defBody (topS 37)) (defScope (topS 37)) .none kV doc pm an cdv ct), osl⟩) (c : PySem.W.codeIn K cdv (⟨#[95, 108, 97, 119, 95, 116, 97, 107, 101]⟩ : Str) = true) (k : PySem.W.keepIn K (.ref f) = true) : Row K mg (tb K defs cls) (G fuel) 502 d__law_take :=
  row_mk X Gm (st := topS 37) rfl a l c k o__law_take (fun _ _ _ _ _ _ us hl => match us, hl with | [_, _], _ => rfl)
    (fun _ _ _ _ _ h => nomatch h)
theorem r__law_of (X : K.In h) (Gm : h.Ns mainGlobals mg) {f : Addr} {oc : Value} {od an : Option Addr} {osl : Array (Option Value)} {kV doc pm cdv ct : Value} (a : PySem.W.nsIn K mainGlobals (⟨#[95, 108, 97, 119, 95, 111, 102]⟩ : Str) = some (some (.ref f)))
    (l : K.lookup f = some ⟨oc, od, .func (PySem.W.fnOf (⟨#[95, 108, 97, 119, 95, 111, 102]⟩ : Str) (⟨#[95, 108, 97, 119, 95, 111, 102]⟩ : Str) (defArgs (topS 38)) (defBody (topS 38)) (defScope (topS 38)) .none kV doc pm an cdv ct), osl⟩) (c : PySem.W.codeIn K cdv (⟨#[95, 108, 97, 119, 95, 111, 102]⟩ : Str) = true) (k : PySem.W.keepIn K (.ref f) = true) : Row K mg (tb K defs cls) (G fuel) 509 d__law_of :=
  row_mk X Gm (st := topS 38) rfl a l c k o__law_of (fun _ _ _ _ _ _ us hl => match us, hl with | [_, _], _ => rfl)
    (fun _ _ _ _ _ h => nomatch h)
theorem r__law_ears (X : K.In h) (Gm : h.Ns mainGlobals mg) {f : Addr} {oc : Value} {od an : Option Addr} {osl : Array (Option Value)} {kV doc pm cdv ct : Value} (a : PySem.W.nsIn K mainGlobals (⟨#[95, 108, 97, 119, 95, 101, 97, 114, 115]⟩ : Str) = some (some (.ref f)))
    (l : K.lookup f = some ⟨oc, od, .func (PySem.W.fnOf (⟨#[95, 108, 97, 119, 95, 101, 97, 114, 115]⟩ : Str) (⟨#[95, 108, 97, 119, 95, 101, 97, 114, 115]⟩ : Str) (defArgs (topS 39)) (defBody (topS 39)) (defScope (topS 39)) .none kV doc pm an cdv ct), osl⟩) (c : PySem.W.codeIn K cdv (⟨#[95, 108, 97, 119, 95, 101, 97, 114, 115]⟩ : Str) = true) (k : PySem.W.keepIn K (.ref f) = true) : Row K mg (tb K defs cls) (G fuel) 507 d__law_ears :=
  row_mk X Gm (st := topS 39) rfl a l c k o__law_ears (fun _ _ _ _ _ _ us hl => match us, hl with | [_, _], _ => rfl)
    (fun _ _ _ _ _ h => nomatch h)
theorem r__law_lets (X : K.In h) (Gm : h.Ns mainGlobals mg) {f : Addr} {oc : Value} {od an : Option Addr} {osl : Array (Option Value)} {kV doc pm cdv ct : Value} (a : PySem.W.nsIn K mainGlobals (⟨#[95, 108, 97, 119, 95, 108, 101, 116, 115]⟩ : Str) = some (some (.ref f)))
    (l : K.lookup f = some ⟨oc, od, .func (PySem.W.fnOf (⟨#[95, 108, 97, 119, 95, 108, 101, 116, 115]⟩ : Str) (⟨#[95, 108, 97, 119, 95, 108, 101, 116, 115]⟩ : Str) (defArgs (topS 40)) (defBody (topS 40)) (defScope (topS 40)) .none kV doc pm an cdv ct), osl⟩) (c : PySem.W.codeIn K cdv (⟨#[95, 108, 97, 119, 95, 108, 101, 116, 115]⟩ : Str) = true) (k : PySem.W.keepIn K (.ref f) = true) : Row K mg (tb K defs cls) (G fuel) 508 d__law_lets :=
  row_mk X Gm (st := topS 40) rfl a l c k o__law_lets (fun _ _ _ _ _ _ us hl => match us, hl with | [_], _ => rfl)
    (fun _ _ _ _ _ h => nomatch h)
theorem r__law_log (X : K.In h) (Gm : h.Ns mainGlobals mg) {f : Addr} {oc : Value} {od an : Option Addr} {osl : Array (Option Value)} {kV doc pm cdv ct : Value} (a : PySem.W.nsIn K mainGlobals (⟨#[95, 108, 97, 119, 95, 108, 111, 103]⟩ : Str) = some (some (.ref f)))
    (l : K.lookup f = some ⟨oc, od, .func (PySem.W.fnOf (⟨#[95, 108, 97, 119, 95, 108, 111, 103]⟩ : Str) (⟨#[95, 108, 97, 119, 95, 108, 111, 103]⟩ : Str) (defArgs (topS 41)) (defBody (topS 41)) (defScope (topS 41)) .none kV doc pm an cdv ct), osl⟩) (c : PySem.W.codeIn K cdv (⟨#[95, 108, 97, 119, 95, 108, 111, 103]⟩ : Str) = true) (k : PySem.W.keepIn K (.ref f) = true) : Row K mg (tb K defs cls) (G fuel) 512 d__law_log :=
  row_mk X Gm (st := topS 41) rfl a l c k o__law_log (fun _ _ _ _ _ _ us hl => match us, hl with | [_, _, _], _ => rfl)
    (fun _ _ _ _ _ h => nomatch h)
theorem r__law_other (X : K.In h) (Gm : h.Ns mainGlobals mg) {f : Addr} {oc : Value} {od an : Option Addr} {osl : Array (Option Value)} {kV doc pm cdv ct : Value} (a : PySem.W.nsIn K mainGlobals (⟨#[95, 108, 97, 119, 95, 111, 116, 104, 101, 114]⟩ : Str) = some (some (.ref f)))
    (l : K.lookup f = some ⟨oc, od, .func (PySem.W.fnOf (⟨#[95, 108, 97, 119, 95, 111, 116, 104, 101, 114]⟩ : Str) (⟨#[95, 108, 97, 119, 95, 111, 116, 104, 101, 114]⟩ : Str) (defArgs (topS 42)) (defBody (topS 42)) (defScope (topS 42)) .none kV doc pm an cdv ct), osl⟩) (c : PySem.W.codeIn K cdv (⟨#[95, 108, 97, 119, 95, 111, 116, 104, 101, 114]⟩ : Str) = true) (k : PySem.W.keepIn K (.ref f) = true) : Row K mg (tb K defs cls) (G fuel) 536 d__law_other :=
  row_mk X Gm (st := topS 42) rfl a l c k o__law_other (fun _ _ _ _ _ _ us hl => match us, hl with | [_, _, _], _ => rfl)
    (fun _ _ _ _ _ h => nomatch h)
theorem r__law_rows (X : K.In h) (Gm : h.Ns mainGlobals mg) {f : Addr} {oc : Value} {od an : Option Addr} {osl : Array (Option Value)} {kV doc pm cdv ct : Value} (a : PySem.W.nsIn K mainGlobals (⟨#[95, 108, 97, 119, 95, 114, 111, 119, 115]⟩ : Str) = some (some (.ref f)))
    (l : K.lookup f = some ⟨oc, od, .func (PySem.W.fnOf (⟨#[95, 108, 97, 119, 95, 114, 111, 119, 115]⟩ : Str) (⟨#[95, 108, 97, 119, 95, 114, 111, 119, 115]⟩ : Str) (defArgs (topS 43)) (defBody (topS 43)) (defScope (topS 43)) .none kV doc pm an cdv ct), osl⟩) (c : PySem.W.codeIn K cdv (⟨#[95, 108, 97, 119, 95, 114, 111, 119, 115]⟩ : Str) = true) (k : PySem.W.keepIn K (.ref f) = true) : Row K mg (tb K defs cls) (G fuel) 549 d__law_rows :=
  row_mk X Gm (st := topS 43) rfl a l c k o__law_rows (fun _ _ _ _ _ _ us hl => match us, hl with | [_], _ => rfl)
    (fun _ _ _ _ _ h => nomatch h)
theorem r__law_right (X : K.In h) (Gm : h.Ns mainGlobals mg) {f : Addr} {oc : Value} {od an : Option Addr} {osl : Array (Option Value)} {kV doc pm cdv ct : Value} (a : PySem.W.nsIn K mainGlobals (⟨#[95, 108, 97, 119, 95, 114, 105, 103, 104, 116]⟩ : Str) = some (some (.ref f)))
    (l : K.lookup f = some ⟨oc, od, .func (PySem.W.fnOf (⟨#[95, 108, 97, 119, 95, 114, 105, 103, 104, 116]⟩ : Str) (⟨#[95, 108, 97, 119, 95, 114, 105, 103, 104, 116]⟩ : Str) (defArgs (topS 44)) (defBody (topS 44)) (defScope (topS 44)) .none kV doc pm an cdv ct), osl⟩) (c : PySem.W.codeIn K cdv (⟨#[95, 108, 97, 119, 95, 114, 105, 103, 104, 116]⟩ : Str) = true) (k : PySem.W.keepIn K (.ref f) = true) : Row K mg (tb K defs cls) (G fuel) 505 d__law_right :=
  row_mk X Gm (st := topS 44) rfl a l c k o__law_right (fun _ _ _ _ _ _ us hl => match us, hl with | [_], _ => rfl)
    (fun _ _ _ _ _ h => nomatch h)
theorem r_law (X : K.In h) (Gm : h.Ns mainGlobals mg) {f : Addr} {oc : Value} {od an : Option Addr} {osl : Array (Option Value)} {kV doc pm cdv ct : Value} (a : PySem.W.nsIn K mainGlobals (⟨#[108, 97, 119]⟩ : Str) = some (some (.ref f)))
    (l : K.lookup f = some ⟨oc, od, .func (PySem.W.fnOf (⟨#[108, 97, 119]⟩ : Str) (⟨#[108, 97, 119]⟩ : Str) (defArgs (topS 45)) (defBody (topS 45)) (defScope (topS 45)) .none kV doc pm an cdv ct), osl⟩) (c : PySem.W.codeIn K cdv (⟨#[108, 97, 119]⟩ : Str) = true) (k : PySem.W.keepIn K (.ref f) = true) : Row K mg (tb K defs cls) (G fuel) 506 d_law :=
  row_mk X Gm (st := topS 45) rfl a l c k o_law (fun _ _ _ _ _ _ us hl => match us, hl with | [_], _ => rfl)
    (fun _ _ _ _ _ h => nomatch h)
theorem c_NoPlace {P : Program} {w : World} {base : Heap} (X : K.In h) (Gm : h.Ns mainGlobals mg) {C cN : Addr} {cq : Str} {cbs : List Value} {csn : List Str} {csub : List Value} {cab : Bool} {ccol : Option Bool} {cdd : Option Addr} {cA cB cC cD cE : Option Value} {cI : Addr} {xoc : Value} {xod xan : Option Addr} {xsl : Array (Option Value)} {xkV xdc xpm xcd xct : Value}
    (cs6 : PySem.W.specialIn K (.builtin "object.__class__") "__get__" = some (some (.builtin "getset_descriptor.__get__"))) (cs7 : PySem.W.takesIn K (.builtin "object.__class__") = some true)
    (ca : PySem.W.nsIn K mainGlobals (⟨#[78, 111, 80, 108, 97, 99, 101]⟩ : Str) = some (some (.ref C)))
    (cl : K.lookup C = some (excClassObj (⟨#[78, 111, 80, 108, 97, 99, 101]⟩ : Str) cq C cN cbs (baTl .L) true csn csub cab ccol cdd cA cB cC cD cE (baNew .L)))
    (cb : PySem.W.keepIn K (.ref C) = true)
    (cc : PySem.W.findIn K (.ref C) "__setattr__" = some (some (.builtin "object.__setattr__")))
    (cdc : PySem.W.findIn K (.ref C) "__getattribute__" = some (some (.builtin "BaseException.__getattribute__")))
    (ce : PySem.W.findIn K (.ref C) "__getattr__" = some none)
    (cf : PySem.W.findIn K (.ref C) "__class__" = some (some (.builtin "object.__class__")))
    (cg : PySem.W.findIn K (.ref C) (⟨#[112, 108, 97, 99, 101]⟩ : Str) = some none)
    (ch : PySem.W.findIn K (.ref C) "__init__" = some (some (.ref cI)))
    (ci : PySem.W.typeIn K (.ref cI) = some (.type "function"))
    (cj : K.lookup cI = some ⟨xoc, xod, .func (PySem.W.fnOf "__init__" (⟨#[78, 111, 80, 108, 97, 99, 101, 46, 95, 95, 105, 110, 105, 116, 95, 95]⟩ : Str) (defArgs (inS 1 0)) (defBody (inS 1 0)) (defScope (inS 1 0)) .none xkV xdc xpm xan xcd xct), xsl⟩)
    (ck : PySem.W.codeIn K xcd (⟨#[78, 111, 80, 108, 97, 99, 101, 46, 95, 95, 105, 110, 105, 116, 95, 95]⟩ : Str) = true)
    (cm : PySem.W.keepIn K (.ref cI) = true)
    (cn : PySem.W.findCls K (.type "LookupError") (.type "type") "__init__" = some (.val (.builtin "LookupError.__init__"))) (zb : mg "LookupError" = none) : ClsOk P w K mg base (tb K defs cls) 4 ⟨(⟨#[78, 111, 80, 108, 97, 99, 101]⟩ : Str), [(⟨#[112, 108, 97, 99, 101]⟩ : Str)], .L⟩ :=
  cls_mk1 (st := inS 1 0) X Gm rfl rfl ca cl cb cc cdc ce cf cs6 cs7 cg ch ci cj ck cm zb cn ⟨rfl, rfl, rfl, by decide +kernel, rfl, by decide +kernel, by decide +kernel⟩ rfl rfl rfl rfl (by decide) (by decide) (fun _ => rfl) (fun _ => rfl) (fun _ => rfl) (fun _ _ _ _ _ _ us hl => match us, hl with | [_, _], _ => rfl)
theorem c_NoNeighbour {P : Program} {w : World} {base : Heap} (X : K.In h) (Gm : h.Ns mainGlobals mg) {C cN : Addr} {cq : Str} {cbs : List Value} {csn : List Str} {csub : List Value} {cab : Bool} {ccol : Option Bool} {cdd : Option Addr} {cA cB cC cD cE : Option Value} {cI : Addr} {xoc : Value} {xod xan : Option Addr} {xsl : Array (Option Value)} {xkV xdc xpm xcd xct : Value}
    (cs6 : PySem.W.specialIn K (.builtin "object.__class__") "__get__" = some (some (.builtin "getset_descriptor.__get__"))) (cs7 : PySem.W.takesIn K (.builtin "object.__class__") = some true)
    (ca : PySem.W.nsIn K mainGlobals (⟨#[78, 111, 78, 101, 105, 103, 104, 98, 111, 117, 114]⟩ : Str) = some (some (.ref C)))
    (cl : K.lookup C = some (excClassObj (⟨#[78, 111, 78, 101, 105, 103, 104, 98, 111, 117, 114]⟩ : Str) cq C cN cbs (baTl .L) true csn csub cab ccol cdd cA cB cC cD cE (baNew .L)))
    (cb : PySem.W.keepIn K (.ref C) = true)
    (cc : PySem.W.findIn K (.ref C) "__setattr__" = some (some (.builtin "object.__setattr__")))
    (cdc : PySem.W.findIn K (.ref C) "__getattribute__" = some (some (.builtin "BaseException.__getattribute__")))
    (ce : PySem.W.findIn K (.ref C) "__getattr__" = some none)
    (cf : PySem.W.findIn K (.ref C) "__class__" = some (some (.builtin "object.__class__")))
    (cg : PySem.W.findIn K (.ref C) (⟨#[112, 108, 97, 99, 101]⟩ : Str) = some none)
    (ch : PySem.W.findIn K (.ref C) "__init__" = some (some (.ref cI)))
    (ci : PySem.W.typeIn K (.ref cI) = some (.type "function"))
    (cj : K.lookup cI = some ⟨xoc, xod, .func (PySem.W.fnOf "__init__" (⟨#[78, 111, 78, 101, 105, 103, 104, 98, 111, 117, 114, 46, 95, 95, 105, 110, 105, 116, 95, 95]⟩ : Str) (defArgs (inS 2 0)) (defBody (inS 2 0)) (defScope (inS 2 0)) .none xkV xdc xpm xan xcd xct), xsl⟩)
    (ck : PySem.W.codeIn K xcd (⟨#[78, 111, 78, 101, 105, 103, 104, 98, 111, 117, 114, 46, 95, 95, 105, 110, 105, 116, 95, 95]⟩ : Str) = true)
    (cm : PySem.W.keepIn K (.ref cI) = true)
    (cn : PySem.W.findCls K (.type "LookupError") (.type "type") "__init__" = some (.val (.builtin "LookupError.__init__"))) (zb : mg "LookupError" = none) : ClsOk P w K mg base (tb K defs cls) 5 ⟨(⟨#[78, 111, 78, 101, 105, 103, 104, 98, 111, 117, 114]⟩ : Str), [(⟨#[112, 108, 97, 99, 101]⟩ : Str)], .L⟩ :=
  cls_mk1 (st := inS 2 0) X Gm rfl rfl ca cl cb cc cdc ce cf cs6 cs7 cg ch ci cj ck cm zb cn ⟨rfl, rfl, rfl, by decide +kernel, rfl, by decide +kernel, by decide +kernel⟩ rfl rfl rfl rfl (by decide) (by decide) (fun _ => rfl) (fun _ => rfl) (fun _ => rfl) (fun _ _ _ _ _ _ us hl => match us, hl with | [_, _], _ => rfl)
theorem c_Deaf {P : Program} {w : World} {base : Heap} (X : K.In h) (Gm : h.Ns mainGlobals mg) {C cN : Addr} {cq : Str} {cbs : List Value} {csn : List Str} {csub : List Value} {cab : Bool} {ccol : Option Bool} {cdd : Option Addr} {cA cB cC cD cE : Option Value} {cI : Addr} {xoc : Value} {xod xan : Option Addr} {xsl : Array (Option Value)} {xkV xdc xpm xcd xct : Value}
    (cs6 : PySem.W.specialIn K (.builtin "object.__class__") "__get__" = some (some (.builtin "getset_descriptor.__get__"))) (cs7 : PySem.W.takesIn K (.builtin "object.__class__") = some true)
    (ca : PySem.W.nsIn K mainGlobals (⟨#[68, 101, 97, 102]⟩ : Str) = some (some (.ref C)))
    (cl : K.lookup C = some (excClassObj (⟨#[68, 101, 97, 102]⟩ : Str) cq C cN cbs (baTl .R) true csn csub cab ccol cdd cA cB cC cD cE (baNew .R)))
    (cb : PySem.W.keepIn K (.ref C) = true)
    (cc : PySem.W.findIn K (.ref C) "__setattr__" = some (some (.builtin "object.__setattr__")))
    (cdc : PySem.W.findIn K (.ref C) "__getattribute__" = some (some (.builtin "BaseException.__getattribute__")))
    (ce : PySem.W.findIn K (.ref C) "__getattr__" = some none)
    (cf : PySem.W.findIn K (.ref C) "__class__" = some (some (.builtin "object.__class__")))
    (cg : PySem.W.findIn K (.ref C) (⟨#[112, 108, 97, 99, 101]⟩ : Str) = some none)
    (ch : PySem.W.findIn K (.ref C) "__init__" = some (some (.ref cI)))
    (ci : PySem.W.typeIn K (.ref cI) = some (.type "function"))
    (cj : K.lookup cI = some ⟨xoc, xod, .func (PySem.W.fnOf "__init__" (⟨#[68, 101, 97, 102, 46, 95, 95, 105, 110, 105, 116, 95, 95]⟩ : Str) (defArgs (inS 3 0)) (defBody (inS 3 0)) (defScope (inS 3 0)) .none xkV xdc xpm xan xcd xct), xsl⟩)
    (ck : PySem.W.codeIn K xcd (⟨#[68, 101, 97, 102, 46, 95, 95, 105, 110, 105, 116, 95, 95]⟩ : Str) = true)
    (cm : PySem.W.keepIn K (.ref cI) = true)
    (cn : PySem.W.findCls K (.type "RuntimeError") (.type "type") "__init__" = some (.val (.builtin "RuntimeError.__init__"))) (zb : mg "RuntimeError" = none) : ClsOk P w K mg base (tb K defs cls) 9 ⟨(⟨#[68, 101, 97, 102]⟩ : Str), [(⟨#[112, 108, 97, 99, 101]⟩ : Str)], .R⟩ :=
  cls_mk1 (st := inS 3 0) X Gm rfl rfl ca cl cb cc cdc ce cf cs6 cs7 cg ch ci cj ck cm zb cn ⟨rfl, rfl, rfl, by decide +kernel, rfl, by decide +kernel, by decide +kernel⟩ rfl rfl rfl rfl (by decide) (by decide) (fun _ => rfl) (fun _ => rfl) (fun _ => rfl) (fun _ _ _ _ _ _ us hl => match us, hl with | [_, _], _ => rfl)
theorem c_Barred {P : Program} {w : World} {base : Heap} (X : K.In h) (Gm : h.Ns mainGlobals mg) {C cN : Addr} {cq : Str} {cbs : List Value} {csn : List Str} {csub : List Value} {cab : Bool} {ccol : Option Bool} {cdd : Option Addr} {cA cB cC cD cE : Option Value} {cI : Addr} {xoc : Value} {xod xan : Option Addr} {xsl : Array (Option Value)} {xkV xdc xpm xcd xct : Value}
    (cs6 : PySem.W.specialIn K (.builtin "object.__class__") "__get__" = some (some (.builtin "getset_descriptor.__get__"))) (cs7 : PySem.W.takesIn K (.builtin "object.__class__") = some true)
    (ca : PySem.W.nsIn K mainGlobals (⟨#[66, 97, 114, 114, 101, 100]⟩ : Str) = some (some (.ref C)))
    (cl : K.lookup C = some (excClassObj (⟨#[66, 97, 114, 114, 101, 100]⟩ : Str) cq C cN cbs (baTl .R) true csn csub cab ccol cdd cA cB cC cD cE (baNew .R)))
    (cb : PySem.W.keepIn K (.ref C) = true)
    (cc : PySem.W.findIn K (.ref C) "__setattr__" = some (some (.builtin "object.__setattr__")))
    (cdc : PySem.W.findIn K (.ref C) "__getattribute__" = some (some (.builtin "BaseException.__getattribute__")))
    (ce : PySem.W.findIn K (.ref C) "__getattr__" = some none)
    (cf : PySem.W.findIn K (.ref C) "__class__" = some (some (.builtin "object.__class__")))
    (cg : PySem.W.findIn K (.ref C) (⟨#[112, 108, 97, 99, 101]⟩ : Str) = some none)
    (ch : PySem.W.findIn K (.ref C) "__init__" = some (some (.ref cI)))
    (ci : PySem.W.typeIn K (.ref cI) = some (.type "function"))
    (cj : K.lookup cI = some ⟨xoc, xod, .func (PySem.W.fnOf "__init__" (⟨#[66, 97, 114, 114, 101, 100, 46, 95, 95, 105, 110, 105, 116, 95, 95]⟩ : Str) (defArgs (inS 4 0)) (defBody (inS 4 0)) (defScope (inS 4 0)) .none xkV xdc xpm xan xcd xct), xsl⟩)
    (ck : PySem.W.codeIn K xcd (⟨#[66, 97, 114, 114, 101, 100, 46, 95, 95, 105, 110, 105, 116, 95, 95]⟩ : Str) = true)
    (cm : PySem.W.keepIn K (.ref cI) = true)
    (cn : PySem.W.findCls K (.type "RuntimeError") (.type "type") "__init__" = some (.val (.builtin "RuntimeError.__init__"))) (zb : mg "RuntimeError" = none) : ClsOk P w K mg base (tb K defs cls) 10 ⟨(⟨#[66, 97, 114, 114, 101, 100]⟩ : Str), [(⟨#[112, 108, 97, 99, 101]⟩ : Str)], .R⟩ :=
  cls_mk1 (st := inS 4 0) X Gm rfl rfl ca cl cb cc cdc ce cf cs6 cs7 cg ch ci cj ck cm zb cn ⟨rfl, rfl, rfl, by decide +kernel, rfl, by decide +kernel, by decide +kernel⟩ rfl rfl rfl rfl (by decide) (by decide) (fun _ => rfl) (fun _ => rfl) (fun _ => rfl) (fun _ _ _ _ _ _ us hl => match us, hl with | [_, _], _ => rfl)
end
section
variable {K : PySem.W.Frag} {h : Heap} {mg : Str → Option Value} {fuel : Nat}
theorem all_mk {P : Program} {w : World} {n : Nat} {fa : Addr} (X : K.In h) (Gm : h.Ns mainGlobals mg) (hfa : mg "law" = some (.ref fa))
    {f0 f1 f2 f3 f4 f5 f6 f7 f8 f9 f10 f11 f12 f13 f14 f15 f16 f17 f18 f19 f20 f21 f22 f23 f24 f25 f26 f27 f28 f29 : Addr} {oc0 oc1 oc2 oc3 oc4 oc5 oc6 oc7 oc8 oc9 oc10 oc11 oc12 oc13 oc14 oc15 oc16 oc17 oc18 oc19 oc20 oc21 oc22 oc23 oc24 oc25 oc26 oc27 oc28 oc29 : Value} {od0 od1 od2 od3 od4 od5 od6 od7 od8 od9 od10 od11 od12 od13 od14 od15 od16 od17 od18 od19 od20 od21 od22 od23 od24 od25 od26 od27 od28 od29 an0 an1 an2 an3 an4 an5 an6 an7 an8 an9 an10 an11 an12 an13 an14 an15 an16 an17 an18 an19 an20 an21 an22 an23 an24 an25 an26 an27 an28 an29 : Option Addr} {sl0 sl1 sl2 sl3 sl4 sl5 sl6 sl7 sl8 sl9 sl10 sl11 sl12 sl13 sl14 sl15 sl16 sl17 sl18 sl19 sl20 sl21 sl22 sl23 sl24 sl25 sl26 sl27 sl28 sl29 : Array (Option Value)} {kV0 kV1 kV2 kV3 kV4 kV5 kV6 kV7 kV8 kV9 kV10 kV11 kV12 kV13 kV14 kV15 kV16 kV17 kV18 kV19 kV20 kV21 kV22 kV23 kV24 kV25 kV26 kV27 kV28 kV29 dc0 dc1 dc2 dc3 dc4 dc5 dc6 dc7 dc8 dc9 dc10 dc11 dc12 dc13 dc14 dc15 dc16 dc17 dc18 dc19 dc20 dc21 dc22 dc23 dc24 dc25 dc26 dc27 dc28 dc29 pm0 pm1 pm2 pm3 pm4 pm5 pm6 pm7 pm8 pm9 pm10 pm11 pm12 pm13 pm14 pm15 pm16 pm17 pm18 pm19 pm20 pm21 pm22 pm23 pm24 pm25 pm26 pm27 pm28 pm29 cd0 cd1 cd2 cd3 cd4 cd5 cd6 cd7 cd8 cd9 cd10 cd11 cd12 cd13 cd14 cd15 cd16 cd17 cd18 cd19 cd20 cd21 cd22 cd23 cd24 cd25 cd26 cd27 cd28 cd29 ct0 ct1 ct2 ct3 ct4 ct5 ct6 ct7 ct8 ct9 ct10 ct11 ct12 ct13 ct14 ct15 ct16 ct17 ct18 ct19 ct20 ct21 ct22 ct23 ct24 ct25 ct26 ct27 ct28 ct29 : Value}
    (a0 : PySem.W.nsIn K mainGlobals (⟨#[111, 112, 101, 110, 95, 101, 97, 114, 115]⟩ : Str) = some (some (.ref f0))) (l0 : K.lookup f0 = some ⟨oc0, od0, .func (PySem.W.fnOf (⟨#[111, 112, 101, 110, 95, 101, 97, 114, 115]⟩ : Str) (⟨#[111, 112, 101, 110, 95, 101, 97, 114, 115]⟩ : Str) (defArgs (topS 9)) (defBody (topS 9)) (defScope (topS 9)) .none kV0 dc0 pm0 an0 cd0 ct0), sl0⟩) (c0 : PySem.W.codeIn K cd0 (⟨#[111, 112, 101, 110, 95, 101, 97, 114, 115]⟩ : Str) = true) (k0 : PySem.W.keepIn K (.ref f0) = true)
    (a1 : PySem.W.nsIn K mainGlobals (⟨#[108, 111, 111, 107, 95, 112, 108, 97, 99, 101]⟩ : Str) = some (some (.ref f1))) (l1 : K.lookup f1 = some ⟨oc1, od1, .func (PySem.W.fnOf (⟨#[108, 111, 111, 107, 95, 112, 108, 97, 99, 101]⟩ : Str) (⟨#[108, 111, 111, 107, 95, 112, 108, 97, 99, 101]⟩ : Str) (defArgs (topS 10)) (defBody (topS 10)) (defScope (topS 10)) .none kV1 dc1 pm1 an1 cd1 ct1), sl1⟩) (c1 : PySem.W.codeIn K cd1 (⟨#[108, 111, 111, 107, 95, 112, 108, 97, 99, 101]⟩ : Str) = true) (k1 : PySem.W.keepIn K (.ref f1) = true)
    (a2 : PySem.W.nsIn K mainGlobals (⟨#[110, 101, 105, 103, 104, 98, 111, 117, 114]⟩ : Str) = some (some (.ref f2))) (l2 : K.lookup f2 = some ⟨oc2, od2, .func (PySem.W.fnOf (⟨#[110, 101, 105, 103, 104, 98, 111, 117, 114]⟩ : Str) (⟨#[110, 101, 105, 103, 104, 98, 111, 117, 114]⟩ : Str) (defArgs (topS 11)) (defBody (topS 11)) (defScope (topS 11)) .none kV2 dc2 pm2 an2 cd2 ct2), sl2⟩) (c2 : PySem.W.codeIn K cd2 (⟨#[110, 101, 105, 103, 104, 98, 111, 117, 114]⟩ : Str) = true) (k2 : PySem.W.keepIn K (.ref f2) = true)
    (a3 : PySem.W.nsIn K mainGlobals (⟨#[104, 97, 115, 95, 101, 97, 114]⟩ : Str) = some (some (.ref f3))) (l3 : K.lookup f3 = some ⟨oc3, od3, .func (PySem.W.fnOf (⟨#[104, 97, 115, 95, 101, 97, 114]⟩ : Str) (⟨#[104, 97, 115, 95, 101, 97, 114]⟩ : Str) (defArgs (topS 12)) (defBody (topS 12)) (defScope (topS 12)) .none kV3 dc3 pm3 an3 cd3 ct3), sl3⟩) (c3 : PySem.W.codeIn K cd3 (⟨#[104, 97, 115, 95, 101, 97, 114]⟩ : Str) = true) (k3 : PySem.W.keepIn K (.ref f3) = true)
    (a4 : PySem.W.nsIn K mainGlobals (⟨#[108, 111, 111, 107, 95, 116, 97, 107, 105, 110, 103]⟩ : Str) = some (some (.ref f4))) (l4 : K.lookup f4 = some ⟨oc4, od4, .func (PySem.W.fnOf (⟨#[108, 111, 111, 107, 95, 116, 97, 107, 105, 110, 103]⟩ : Str) (⟨#[108, 111, 111, 107, 95, 116, 97, 107, 105, 110, 103]⟩ : Str) (defArgs (topS 14)) (defBody (topS 14)) (defScope (topS 14)) .none kV4 dc4 pm4 an4 cd4 ct4), sl4⟩) (c4 : PySem.W.codeIn K cd4 (⟨#[108, 111, 111, 107, 95, 116, 97, 107, 105, 110, 103]⟩ : Str) = true) (k4 : PySem.W.keepIn K (.ref f4) = true)
    (a5 : PySem.W.nsIn K mainGlobals (⟨#[116, 97, 107, 101, 110]⟩ : Str) = some (some (.ref f5))) (l5 : K.lookup f5 = some ⟨oc5, od5, .func (PySem.W.fnOf (⟨#[116, 97, 107, 101, 110]⟩ : Str) (⟨#[116, 97, 107, 101, 110]⟩ : Str) (defArgs (topS 15)) (defBody (topS 15)) (defScope (topS 15)) .none kV5 dc5 pm5 an5 cd5 ct5), sl5⟩) (c5 : PySem.W.codeIn K cd5 (⟨#[116, 97, 107, 101, 110]⟩ : Str) = true) (k5 : PySem.W.keepIn K (.ref f5) = true)
    (a6 : PySem.W.nsIn K mainGlobals (⟨#[103, 111, 110, 101]⟩ : Str) = some (some (.ref f6))) (l6 : K.lookup f6 = some ⟨oc6, od6, .func (PySem.W.fnOf (⟨#[103, 111, 110, 101]⟩ : Str) (⟨#[103, 111, 110, 101]⟩ : Str) (defArgs (topS 16)) (defBody (topS 16)) (defScope (topS 16)) .none kV6 dc6 pm6 an6 cd6 ct6), sl6⟩) (c6 : PySem.W.codeIn K cd6 (⟨#[103, 111, 110, 101]⟩ : Str) = true) (k6 : PySem.W.keepIn K (.ref f6) = true)
    (a7 : PySem.W.nsIn K mainGlobals (⟨#[111, 114, 105, 103, 105, 110, 115, 95, 111, 102]⟩ : Str) = some (some (.ref f7))) (l7 : K.lookup f7 = some ⟨oc7, od7, .func (PySem.W.fnOf (⟨#[111, 114, 105, 103, 105, 110, 115, 95, 111, 102]⟩ : Str) (⟨#[111, 114, 105, 103, 105, 110, 115, 95, 111, 102]⟩ : Str) (defArgs (topS 18)) (defBody (topS 18)) (defScope (topS 18)) .none kV7 dc7 pm7 an7 cd7 ct7), sl7⟩) (c7 : PySem.W.codeIn K cd7 (⟨#[111, 114, 105, 103, 105, 110, 115, 95, 111, 102]⟩ : Str) = true) (k7 : PySem.W.keepIn K (.ref f7) = true)
    (a8 : PySem.W.nsIn K mainGlobals (⟨#[105, 115, 95, 108, 101, 116, 95, 97, 116]⟩ : Str) = some (some (.ref f8))) (l8 : K.lookup f8 = some ⟨oc8, od8, .func (PySem.W.fnOf (⟨#[105, 115, 95, 108, 101, 116, 95, 97, 116]⟩ : Str) (⟨#[105, 115, 95, 108, 101, 116, 95, 97, 116]⟩ : Str) (defArgs (topS 19)) (defBody (topS 19)) (defScope (topS 19)) .none kV8 dc8 pm8 an8 cd8 ct8), sl8⟩) (c8 : PySem.W.codeIn K cd8 (⟨#[105, 115, 95, 108, 101, 116, 95, 97, 116]⟩ : Str) = true) (k8 : PySem.W.keepIn K (.ref f8) = true)
    (a9 : PySem.W.nsIn K mainGlobals (⟨#[98, 97, 114]⟩ : Str) = some (some (.ref f9))) (l9 : K.lookup f9 = some ⟨oc9, od9, .func (PySem.W.fnOf (⟨#[98, 97, 114]⟩ : Str) (⟨#[98, 97, 114]⟩ : Str) (defArgs (topS 20)) (defBody (topS 20)) (defScope (topS 20)) .none kV9 dc9 pm9 an9 cd9 ct9), sl9⟩) (c9 : PySem.W.codeIn K cd9 (⟨#[98, 97, 114]⟩ : Str) = true) (k9 : PySem.W.keepIn K (.ref f9) = true)
    (a10 : PySem.W.nsIn K mainGlobals (⟨#[108, 105, 118, 105, 110, 103]⟩ : Str) = some (some (.ref f10))) (l10 : K.lookup f10 = some ⟨oc10, od10, .func (PySem.W.fnOf (⟨#[108, 105, 118, 105, 110, 103]⟩ : Str) (⟨#[108, 105, 118, 105, 110, 103]⟩ : Str) (defArgs (topS 21)) (defBody (topS 21)) (defScope (topS 21)) .none kV10 dc10 pm10 an10 cd10 ct10), sl10⟩) (c10 : PySem.W.codeIn K cd10 (⟨#[108, 105, 118, 105, 110, 103]⟩ : Str) = true) (k10 : PySem.W.keepIn K (.ref f10) = true)
    (a11 : PySem.W.nsIn K mainGlobals (⟨#[115, 112, 97, 110]⟩ : Str) = some (some (.ref f11))) (l11 : K.lookup f11 = some ⟨oc11, od11, .func (PySem.W.fnOf (⟨#[115, 112, 97, 110]⟩ : Str) (⟨#[115, 112, 97, 110]⟩ : Str) (defArgs (topS 22)) (defBody (topS 22)) (defScope (topS 22)) .none kV11 dc11 pm11 an11 cd11 ct11), sl11⟩) (c11 : PySem.W.codeIn K cd11 (⟨#[115, 112, 97, 110]⟩ : Str) = true) (k11 : PySem.W.keepIn K (.ref f11) = true)
    (a12 : PySem.W.nsIn K mainGlobals (⟨#[102, 101, 119, 101, 115, 116, 95, 116, 97, 107, 105, 110, 103, 115]⟩ : Str) = some (some (.ref f12))) (l12 : K.lookup f12 = some ⟨oc12, od12, .func (PySem.W.fnOf (⟨#[102, 101, 119, 101, 115, 116, 95, 116, 97, 107, 105, 110, 103, 115]⟩ : Str) (⟨#[102, 101, 119, 101, 115, 116, 95, 116, 97, 107, 105, 110, 103, 115]⟩ : Str) (defArgs (topS 24)) (defBody (topS 24)) (defScope (topS 24)) .none kV12 dc12 pm12 an12 cd12 ct12), sl12⟩) (c12 : PySem.W.codeIn K cd12 (⟨#[102, 101, 119, 101, 115, 116, 95, 116, 97, 107, 105, 110, 103, 115]⟩ : Str) = true) (k12 : PySem.W.keepIn K (.ref f12) = true)
    (a13 : PySem.W.nsIn K mainGlobals (⟨#[108, 111, 111, 107, 95, 98, 97, 114]⟩ : Str) = some (some (.ref f13))) (l13 : K.lookup f13 = some ⟨oc13, od13, .func (PySem.W.fnOf (⟨#[108, 111, 111, 107, 95, 98, 97, 114]⟩ : Str) (⟨#[108, 111, 111, 107, 95, 98, 97, 114]⟩ : Str) (defArgs (topS 25)) (defBody (topS 25)) (defScope (topS 25)) .none kV13 dc13 pm13 an13 cd13 ct13), sl13⟩) (c13 : PySem.W.codeIn K cd13 (⟨#[108, 111, 111, 107, 95, 98, 97, 114]⟩ : Str) = true) (k13 : PySem.W.keepIn K (.ref f13) = true)
    (a14 : PySem.W.nsIn K mainGlobals (⟨#[108, 101, 97, 115, 116, 95, 108, 111, 103]⟩ : Str) = some (some (.ref f14))) (l14 : K.lookup f14 = some ⟨oc14, od14, .func (PySem.W.fnOf (⟨#[108, 101, 97, 115, 116, 95, 108, 111, 103]⟩ : Str) (⟨#[108, 101, 97, 115, 116, 95, 108, 111, 103]⟩ : Str) (defArgs (topS 26)) (defBody (topS 26)) (defScope (topS 26)) .none kV14 dc14 pm14 an14 cd14 ct14), sl14⟩) (c14 : PySem.W.codeIn K cd14 (⟨#[108, 101, 97, 115, 116, 95, 108, 111, 103]⟩ : Str) = true) (k14 : PySem.W.keepIn K (.ref f14) = true)
    (a15 : PySem.W.nsIn K mainGlobals (⟨#[105, 115, 95, 108, 101, 97, 115, 116]⟩ : Str) = some (some (.ref f15))) (l15 : K.lookup f15 = some ⟨oc15, od15, .func (PySem.W.fnOf (⟨#[105, 115, 95, 108, 101, 97, 115, 116]⟩ : Str) (⟨#[105, 115, 95, 108, 101, 97, 115, 116]⟩ : Str) (defArgs (topS 27)) (defBody (topS 27)) (defScope (topS 27)) .none kV15 dc15 pm15 an15 cd15 ct15), sl15⟩) (c15 : PySem.W.codeIn K cd15 (⟨#[105, 115, 95, 108, 101, 97, 115, 116]⟩ : Str) = true) (k15 : PySem.W.keepIn K (.ref f15) = true)
    (a16 : PySem.W.nsIn K mainGlobals (⟨#[97, 108, 105, 107, 101]⟩ : Str) = some (some (.ref f16))) (l16 : K.lookup f16 = some ⟨oc16, od16, .func (PySem.W.fnOf (⟨#[97, 108, 105, 107, 101]⟩ : Str) (⟨#[97, 108, 105, 107, 101]⟩ : Str) (defArgs (topS 31)) (defBody (topS 31)) (defScope (topS 31)) .none kV16 dc16 pm16 an16 cd16 ct16), sl16⟩) (c16 : PySem.W.codeIn K cd16 (⟨#[97, 108, 105, 107, 101]⟩ : Str) = true) (k16 : PySem.W.keepIn K (.ref f16) = true)
    (a17 : PySem.W.nsIn K mainGlobals (⟨#[112, 97, 114, 116, 105, 110, 103]⟩ : Str) = some (some (.ref f17))) (l17 : K.lookup f17 = some ⟨oc17, od17, .func (PySem.W.fnOf (⟨#[112, 97, 114, 116, 105, 110, 103]⟩ : Str) (⟨#[112, 97, 114, 116, 105, 110, 103]⟩ : Str) (defArgs (topS 32)) (defBody (topS 32)) (defScope (topS 32)) .none kV17 dc17 pm17 an17 cd17 ct17), sl17⟩) (c17 : PySem.W.codeIn K cd17 (⟨#[112, 97, 114, 116, 105, 110, 103]⟩ : Str) = true) (k17 : PySem.W.keepIn K (.ref f17) = true)
    (a18 : PySem.W.nsIn K mainGlobals (⟨#[115, 104, 111, 114, 116, 101, 110, 101, 100]⟩ : Str) = some (some (.ref f18))) (l18 : K.lookup f18 = some ⟨oc18, od18, .func (PySem.W.fnOf (⟨#[115, 104, 111, 114, 116, 101, 110, 101, 100]⟩ : Str) (⟨#[115, 104, 111, 114, 116, 101, 110, 101, 100]⟩ : Str) (defArgs (topS 33)) (defBody (topS 33)) (defScope (topS 33)) .none kV18 dc18 pm18 an18 cd18 ct18), sl18⟩) (c18 : PySem.W.codeIn K cd18 (⟨#[115, 104, 111, 114, 116, 101, 110, 101, 100]⟩ : Str) = true) (k18 : PySem.W.keepIn K (.ref f18) = true)
    (a19 : PySem.W.nsIn K mainGlobals (⟨#[95, 108, 97, 119, 95, 99, 101, 108, 108, 95, 97, 116]⟩ : Str) = some (some (.ref f19))) (l19 : K.lookup f19 = some ⟨oc19, od19, .func (PySem.W.fnOf (⟨#[95, 108, 97, 119, 95, 99, 101, 108, 108, 95, 97, 116]⟩ : Str) (⟨#[95, 108, 97, 119, 95, 99, 101, 108, 108, 95, 97, 116]⟩ : Str) (defArgs (topS 35)) (defBody (topS 35)) (defScope (topS 35)) .none kV19 dc19 pm19 an19 cd19 ct19), sl19⟩) (c19 : PySem.W.codeIn K cd19 (⟨#[95, 108, 97, 119, 95, 99, 101, 108, 108, 95, 97, 116]⟩ : Str) = true) (k19 : PySem.W.keepIn K (.ref f19) = true)
    (a20 : PySem.W.nsIn K mainGlobals (⟨#[95, 108, 97, 119, 95, 98, 111, 120]⟩ : Str) = some (some (.ref f20))) (l20 : K.lookup f20 = some ⟨oc20, od20, .func (PySem.W.fnOf (⟨#[95, 108, 97, 119, 95, 98, 111, 120]⟩ : Str) (⟨#[95, 108, 97, 119, 95, 98, 111, 120]⟩ : Str) (defArgs (topS 36)) (defBody (topS 36)) (defScope (topS 36)) .none kV20 dc20 pm20 an20 cd20 ct20), sl20⟩) (c20 : PySem.W.codeIn K cd20 (⟨#[95, 108, 97, 119, 95, 98, 111, 120]⟩ : Str) = true) (k20 : PySem.W.keepIn K (.ref f20) = true)
    (a21 : PySem.W.nsIn K mainGlobals (⟨#[95, 108, 97, 119, 95, 116, 97, 107, 101]⟩ : Str) = some (some (.ref f21))) (l21 : K.lookup f21 = some ⟨oc21, od21, .func (PySem.W.fnOf (⟨#[95, 108, 97, 119, 95, 116, 97, 107, 101]⟩ : Str) (⟨#[95, 108, 97, 119, 95, 116, 97, 107, 101]⟩ : Str) (defArgs (topS 37)) (defBody (topS 37)) (defScope (topS 37)) .none kV21 dc21 pm21 an21 cd21 ct21), sl21⟩) (c21 : PySem.W.codeIn K cd21 (⟨#[95, 108, 97, 119, 95, 116, 97, 107, 101]⟩ : Str) = true) (k21 : PySem.W.keepIn K (.ref f21) = true)
    (a22 : PySem.W.nsIn K mainGlobals (⟨#[95, 108, 97, 119, 95, 111, 102]⟩ : Str) = some (some (.ref f22))) (l22 : K.lookup f22 = some ⟨oc22, od22, .func (PySem.W.fnOf (⟨#[95, 108, 97, 119, 95, 111, 102]⟩ : Str) (⟨#[95, 108, 97, 119, 95, 111, 102]⟩ : Str) (defArgs (topS 38)) (defBody (topS 38)) (defScope (topS 38)) .none kV22 dc22 pm22 an22 cd22 ct22), sl22⟩) (c22 : PySem.W.codeIn K cd22 (⟨#[95, 108, 97, 119, 95, 111, 102]⟩ : Str) = true) (k22 : PySem.W.keepIn K (.ref f22) = true)
    (a23 : PySem.W.nsIn K mainGlobals (⟨#[95, 108, 97, 119, 95, 101, 97, 114, 115]⟩ : Str) = some (some (.ref f23))) (l23 : K.lookup f23 = some ⟨oc23, od23, .func (PySem.W.fnOf (⟨#[95, 108, 97, 119, 95, 101, 97, 114, 115]⟩ : Str) (⟨#[95, 108, 97, 119, 95, 101, 97, 114, 115]⟩ : Str) (defArgs (topS 39)) (defBody (topS 39)) (defScope (topS 39)) .none kV23 dc23 pm23 an23 cd23 ct23), sl23⟩) (c23 : PySem.W.codeIn K cd23 (⟨#[95, 108, 97, 119, 95, 101, 97, 114, 115]⟩ : Str) = true) (k23 : PySem.W.keepIn K (.ref f23) = true)
    (a24 : PySem.W.nsIn K mainGlobals (⟨#[95, 108, 97, 119, 95, 108, 101, 116, 115]⟩ : Str) = some (some (.ref f24))) (l24 : K.lookup f24 = some ⟨oc24, od24, .func (PySem.W.fnOf (⟨#[95, 108, 97, 119, 95, 108, 101, 116, 115]⟩ : Str) (⟨#[95, 108, 97, 119, 95, 108, 101, 116, 115]⟩ : Str) (defArgs (topS 40)) (defBody (topS 40)) (defScope (topS 40)) .none kV24 dc24 pm24 an24 cd24 ct24), sl24⟩) (c24 : PySem.W.codeIn K cd24 (⟨#[95, 108, 97, 119, 95, 108, 101, 116, 115]⟩ : Str) = true) (k24 : PySem.W.keepIn K (.ref f24) = true)
    (a25 : PySem.W.nsIn K mainGlobals (⟨#[95, 108, 97, 119, 95, 108, 111, 103]⟩ : Str) = some (some (.ref f25))) (l25 : K.lookup f25 = some ⟨oc25, od25, .func (PySem.W.fnOf (⟨#[95, 108, 97, 119, 95, 108, 111, 103]⟩ : Str) (⟨#[95, 108, 97, 119, 95, 108, 111, 103]⟩ : Str) (defArgs (topS 41)) (defBody (topS 41)) (defScope (topS 41)) .none kV25 dc25 pm25 an25 cd25 ct25), sl25⟩) (c25 : PySem.W.codeIn K cd25 (⟨#[95, 108, 97, 119, 95, 108, 111, 103]⟩ : Str) = true) (k25 : PySem.W.keepIn K (.ref f25) = true)
    (a26 : PySem.W.nsIn K mainGlobals (⟨#[95, 108, 97, 119, 95, 111, 116, 104, 101, 114]⟩ : Str) = some (some (.ref f26))) (l26 : K.lookup f26 = some ⟨oc26, od26, .func (PySem.W.fnOf (⟨#[95, 108, 97, 119, 95, 111, 116, 104, 101, 114]⟩ : Str) (⟨#[95, 108, 97, 119, 95, 111, 116, 104, 101, 114]⟩ : Str) (defArgs (topS 42)) (defBody (topS 42)) (defScope (topS 42)) .none kV26 dc26 pm26 an26 cd26 ct26), sl26⟩) (c26 : PySem.W.codeIn K cd26 (⟨#[95, 108, 97, 119, 95, 111, 116, 104, 101, 114]⟩ : Str) = true) (k26 : PySem.W.keepIn K (.ref f26) = true)
    (a27 : PySem.W.nsIn K mainGlobals (⟨#[95, 108, 97, 119, 95, 114, 111, 119, 115]⟩ : Str) = some (some (.ref f27))) (l27 : K.lookup f27 = some ⟨oc27, od27, .func (PySem.W.fnOf (⟨#[95, 108, 97, 119, 95, 114, 111, 119, 115]⟩ : Str) (⟨#[95, 108, 97, 119, 95, 114, 111, 119, 115]⟩ : Str) (defArgs (topS 43)) (defBody (topS 43)) (defScope (topS 43)) .none kV27 dc27 pm27 an27 cd27 ct27), sl27⟩) (c27 : PySem.W.codeIn K cd27 (⟨#[95, 108, 97, 119, 95, 114, 111, 119, 115]⟩ : Str) = true) (k27 : PySem.W.keepIn K (.ref f27) = true)
    (a28 : PySem.W.nsIn K mainGlobals (⟨#[95, 108, 97, 119, 95, 114, 105, 103, 104, 116]⟩ : Str) = some (some (.ref f28))) (l28 : K.lookup f28 = some ⟨oc28, od28, .func (PySem.W.fnOf (⟨#[95, 108, 97, 119, 95, 114, 105, 103, 104, 116]⟩ : Str) (⟨#[95, 108, 97, 119, 95, 114, 105, 103, 104, 116]⟩ : Str) (defArgs (topS 44)) (defBody (topS 44)) (defScope (topS 44)) .none kV28 dc28 pm28 an28 cd28 ct28), sl28⟩) (c28 : PySem.W.codeIn K cd28 (⟨#[95, 108, 97, 119, 95, 114, 105, 103, 104, 116]⟩ : Str) = true) (k28 : PySem.W.keepIn K (.ref f28) = true)
    (a29 : PySem.W.nsIn K mainGlobals (⟨#[108, 97, 119]⟩ : Str) = some (some (.ref f29))) (l29 : K.lookup f29 = some ⟨oc29, od29, .func (PySem.W.fnOf (⟨#[108, 97, 119]⟩ : Str) (⟨#[108, 97, 119]⟩ : Str) (defArgs (topS 45)) (defBody (topS 45)) (defScope (topS 45)) .none kV29 dc29 pm29 an29 cd29 ct29), sl29⟩) (c29 : PySem.W.codeIn K cd29 (⟨#[108, 97, 119]⟩ : Str) = true) (k29 : PySem.W.keepIn K (.ref f29) = true)
    {gt0 : Tok} (g0 : PySem.W.nsIn K mainGlobals (⟨#[66, 79, 84, 72]⟩ : Str) = some (some (.str (⟨#[98, 111, 116, 104]⟩ : Str) gt0)))
    {gt1 : Tok} (g1 : PySem.W.nsIn K mainGlobals (⟨#[76, 69, 70, 84]⟩ : Str) = some (some (.str (⟨#[108, 101, 102, 116]⟩ : Str) gt1)))
    {gt2 : Tok} (g2 : PySem.W.nsIn K mainGlobals (⟨#[79, 78, 69, 95, 87, 79, 82, 68]⟩ : Str) = some (some (.str (⟨#[97]⟩ : Str) gt2)))
    {gt3 : Tok} (g3 : PySem.W.nsIn K mainGlobals (⟨#[79, 84, 72, 69, 82, 95, 87, 79, 82, 68]⟩ : Str) = some (some (.str (⟨#[98]⟩ : Str) gt3)))
    {gt4 : Tok} (g4 : PySem.W.nsIn K mainGlobals (⟨#[82, 73, 71, 72, 84]⟩ : Str) = some (some (.str (⟨#[114, 105, 103, 104, 116]⟩ : Str) gt4)))
    (z0 : PySem.W.nsIn K mainGlobals "len" = some none)
    (z1 : PySem.W.nsIn K mainGlobals "abs" = some none)
    (z2 : PySem.W.nsIn K mainGlobals "max" = some none)
    (z3 : PySem.W.nsIn K mainGlobals "min" = some none)
    (z4 : PySem.W.nsIn K mainGlobals "sum" = some none)
    (z5 : PySem.W.nsIn K mainGlobals "all" = some none)
    (z6 : PySem.W.nsIn K mainGlobals "any" = some none)
    (z7 : PySem.W.nsIn K mainGlobals "tuple" = some none)
    (z8 : PySem.W.nsIn K mainGlobals "list" = some none)
    (z9 : PySem.W.nsIn K mainGlobals "sorted" = some none)
    (z10 : PySem.W.nsIn K mainGlobals "int" = some none)
    (z11 : PySem.W.nsIn K mainGlobals "str" = some none)
    (z12 : PySem.W.nsIn K mainGlobals "repr" = some none)
    (z13 : PySem.W.nsIn K mainGlobals "range" = some none)
    (z14 : PySem.W.nsIn K mainGlobals "enumerate" = some none)
    (z15 : PySem.W.nsIn K mainGlobals "zip" = some none)
    (z16 : PySem.W.nsIn K mainGlobals "reversed" = some none)
    (z17 : PySem.W.nsIn K mainGlobals "set" = some none)
    (z18 : PySem.W.nsIn K mainGlobals "isinstance" = some none)
    (z19 : PySem.W.nsIn K mainGlobals "bool" = some none)
    (z20 : PySem.W.nsIn K mainGlobals "ValueError" = some none)
    (z21 : PySem.W.nsIn K mainGlobals "LookupError" = some none)
    (z22 : PySem.W.nsIn K mainGlobals "RuntimeError" = some none)
    (z23 : PySem.W.nsIn K mainGlobals "OverflowError" = some none)
    (z24 : PySem.W.nsIn K mainGlobals "IndexError" = some none)
    (z25 : PySem.W.nsIn K mainGlobals "KeyError" = some none)
    {C_0 cN_0 : Addr} {cq_0 : Str} {cbs_0 : List Value} {csn_0 : List Str} {csub_0 : List Value} {cab_0 : Bool} {ccol_0 : Option Bool} {cdd_0 : Option Addr} {cA_0 cB_0 cC_0 cD_0 cE_0 : Option Value} {cI_0 : Addr} {xoc_0 : Value} {xod_0 xan_0 : Option Addr} {xsl_0 : Array (Option Value)} {xkV_0 xdc_0 xpm_0 xcd_0 xct_0 : Value}
    (ca_0 : PySem.W.nsIn K mainGlobals (⟨#[78, 111, 80, 108, 97, 99, 101]⟩ : Str) = some (some (.ref C_0)))
    (cl_0 : K.lookup C_0 = some (excClassObj (⟨#[78, 111, 80, 108, 97, 99, 101]⟩ : Str) cq_0 C_0 cN_0 cbs_0 (baTl .L) true csn_0 csub_0 cab_0 ccol_0 cdd_0 cA_0 cB_0 cC_0 cD_0 cE_0 (baNew .L)))
    (cb_0 : PySem.W.keepIn K (.ref C_0) = true)
    (cc_0 : PySem.W.findIn K (.ref C_0) "__setattr__" = some (some (.builtin "object.__setattr__")))
    (cdc_0 : PySem.W.findIn K (.ref C_0) "__getattribute__" = some (some (.builtin "BaseException.__getattribute__")))
    (ce_0 : PySem.W.findIn K (.ref C_0) "__getattr__" = some none)
    (cf_0 : PySem.W.findIn K (.ref C_0) "__class__" = some (some (.builtin "object.__class__")))
    (cg_0 : PySem.W.findIn K (.ref C_0) (⟨#[112, 108, 97, 99, 101]⟩ : Str) = some none)
    (ch_0 : PySem.W.findIn K (.ref C_0) "__init__" = some (some (.ref cI_0)))
    (ci_0 : PySem.W.typeIn K (.ref cI_0) = some (.type "function"))
    (cj_0 : K.lookup cI_0 = some ⟨xoc_0, xod_0, .func (PySem.W.fnOf "__init__" (⟨#[78, 111, 80, 108, 97, 99, 101, 46, 95, 95, 105, 110, 105, 116, 95, 95]⟩ : Str) (defArgs (inS 1 0)) (defBody (inS 1 0)) (defScope (inS 1 0)) .none xkV_0 xdc_0 xpm_0 xan_0 xcd_0 xct_0), xsl_0⟩)
    (ck_0 : PySem.W.codeIn K xcd_0 (⟨#[78, 111, 80, 108, 97, 99, 101, 46, 95, 95, 105, 110, 105, 116, 95, 95]⟩ : Str) = true)
    (cm_0 : PySem.W.keepIn K (.ref cI_0) = true)
    (cn_0 : PySem.W.findCls K (.type "LookupError") (.type "type") "__init__" = some (.val (.builtin "LookupError.__init__")))
    {C_1 cN_1 : Addr} {cq_1 : Str} {cbs_1 : List Value} {csn_1 : List Str} {csub_1 : List Value} {cab_1 : Bool} {ccol_1 : Option Bool} {cdd_1 : Option Addr} {cA_1 cB_1 cC_1 cD_1 cE_1 : Option Value} {cI_1 : Addr} {xoc_1 : Value} {xod_1 xan_1 : Option Addr} {xsl_1 : Array (Option Value)} {xkV_1 xdc_1 xpm_1 xcd_1 xct_1 : Value}
    (ca_1 : PySem.W.nsIn K mainGlobals (⟨#[78, 111, 78, 101, 105, 103, 104, 98, 111, 117, 114]⟩ : Str) = some (some (.ref C_1)))
    (cl_1 : K.lookup C_1 = some (excClassObj (⟨#[78, 111, 78, 101, 105, 103, 104, 98, 111, 117, 114]⟩ : Str) cq_1 C_1 cN_1 cbs_1 (baTl .L) true csn_1 csub_1 cab_1 ccol_1 cdd_1 cA_1 cB_1 cC_1 cD_1 cE_1 (baNew .L)))
    (cb_1 : PySem.W.keepIn K (.ref C_1) = true)
    (cc_1 : PySem.W.findIn K (.ref C_1) "__setattr__" = some (some (.builtin "object.__setattr__")))
    (cdc_1 : PySem.W.findIn K (.ref C_1) "__getattribute__" = some (some (.builtin "BaseException.__getattribute__")))
    (ce_1 : PySem.W.findIn K (.ref C_1) "__getattr__" = some none)
    (cf_1 : PySem.W.findIn K (.ref C_1) "__class__" = some (some (.builtin "object.__class__")))
    (cg_1 : PySem.W.findIn K (.ref C_1) (⟨#[112, 108, 97, 99, 101]⟩ : Str) = some none)
    (ch_1 : PySem.W.findIn K (.ref C_1) "__init__" = some (some (.ref cI_1)))
    (ci_1 : PySem.W.typeIn K (.ref cI_1) = some (.type "function"))
    (cj_1 : K.lookup cI_1 = some ⟨xoc_1, xod_1, .func (PySem.W.fnOf "__init__" (⟨#[78, 111, 78, 101, 105, 103, 104, 98, 111, 117, 114, 46, 95, 95, 105, 110, 105, 116, 95, 95]⟩ : Str) (defArgs (inS 2 0)) (defBody (inS 2 0)) (defScope (inS 2 0)) .none xkV_1 xdc_1 xpm_1 xan_1 xcd_1 xct_1), xsl_1⟩)
    (ck_1 : PySem.W.codeIn K xcd_1 (⟨#[78, 111, 78, 101, 105, 103, 104, 98, 111, 117, 114, 46, 95, 95, 105, 110, 105, 116, 95, 95]⟩ : Str) = true)
    (cm_1 : PySem.W.keepIn K (.ref cI_1) = true)
    (cn_1 : PySem.W.findCls K (.type "LookupError") (.type "type") "__init__" = some (.val (.builtin "LookupError.__init__")))
    {C_2 cN_2 : Addr} {cq_2 : Str} {cbs_2 : List Value} {csn_2 : List Str} {csub_2 : List Value} {cab_2 : Bool} {ccol_2 : Option Bool} {cdd_2 : Option Addr} {cA_2 cB_2 cC_2 cD_2 cE_2 : Option Value} {cI_2 : Addr} {xoc_2 : Value} {xod_2 xan_2 : Option Addr} {xsl_2 : Array (Option Value)} {xkV_2 xdc_2 xpm_2 xcd_2 xct_2 : Value}
    (ca_2 : PySem.W.nsIn K mainGlobals (⟨#[68, 101, 97, 102]⟩ : Str) = some (some (.ref C_2)))
    (cl_2 : K.lookup C_2 = some (excClassObj (⟨#[68, 101, 97, 102]⟩ : Str) cq_2 C_2 cN_2 cbs_2 (baTl .R) true csn_2 csub_2 cab_2 ccol_2 cdd_2 cA_2 cB_2 cC_2 cD_2 cE_2 (baNew .R)))
    (cb_2 : PySem.W.keepIn K (.ref C_2) = true)
    (cc_2 : PySem.W.findIn K (.ref C_2) "__setattr__" = some (some (.builtin "object.__setattr__")))
    (cdc_2 : PySem.W.findIn K (.ref C_2) "__getattribute__" = some (some (.builtin "BaseException.__getattribute__")))
    (ce_2 : PySem.W.findIn K (.ref C_2) "__getattr__" = some none)
    (cf_2 : PySem.W.findIn K (.ref C_2) "__class__" = some (some (.builtin "object.__class__")))
    (cg_2 : PySem.W.findIn K (.ref C_2) (⟨#[112, 108, 97, 99, 101]⟩ : Str) = some none)
    (ch_2 : PySem.W.findIn K (.ref C_2) "__init__" = some (some (.ref cI_2)))
    (ci_2 : PySem.W.typeIn K (.ref cI_2) = some (.type "function"))
    (cj_2 : K.lookup cI_2 = some ⟨xoc_2, xod_2, .func (PySem.W.fnOf "__init__" (⟨#[68, 101, 97, 102, 46, 95, 95, 105, 110, 105, 116, 95, 95]⟩ : Str) (defArgs (inS 3 0)) (defBody (inS 3 0)) (defScope (inS 3 0)) .none xkV_2 xdc_2 xpm_2 xan_2 xcd_2 xct_2), xsl_2⟩)
    (ck_2 : PySem.W.codeIn K xcd_2 (⟨#[68, 101, 97, 102, 46, 95, 95, 105, 110, 105, 116, 95, 95]⟩ : Str) = true)
    (cm_2 : PySem.W.keepIn K (.ref cI_2) = true)
    (cn_2 : PySem.W.findCls K (.type "RuntimeError") (.type "type") "__init__" = some (.val (.builtin "RuntimeError.__init__")))
    {C_3 cN_3 : Addr} {cq_3 : Str} {cbs_3 : List Value} {csn_3 : List Str} {csub_3 : List Value} {cab_3 : Bool} {ccol_3 : Option Bool} {cdd_3 : Option Addr} {cA_3 cB_3 cC_3 cD_3 cE_3 : Option Value} {cI_3 : Addr} {xoc_3 : Value} {xod_3 xan_3 : Option Addr} {xsl_3 : Array (Option Value)} {xkV_3 xdc_3 xpm_3 xcd_3 xct_3 : Value}
    (ca_3 : PySem.W.nsIn K mainGlobals (⟨#[66, 97, 114, 114, 101, 100]⟩ : Str) = some (some (.ref C_3)))
    (cl_3 : K.lookup C_3 = some (excClassObj (⟨#[66, 97, 114, 114, 101, 100]⟩ : Str) cq_3 C_3 cN_3 cbs_3 (baTl .R) true csn_3 csub_3 cab_3 ccol_3 cdd_3 cA_3 cB_3 cC_3 cD_3 cE_3 (baNew .R)))
    (cb_3 : PySem.W.keepIn K (.ref C_3) = true)
    (cc_3 : PySem.W.findIn K (.ref C_3) "__setattr__" = some (some (.builtin "object.__setattr__")))
    (cdc_3 : PySem.W.findIn K (.ref C_3) "__getattribute__" = some (some (.builtin "BaseException.__getattribute__")))
    (ce_3 : PySem.W.findIn K (.ref C_3) "__getattr__" = some none)
    (cf_3 : PySem.W.findIn K (.ref C_3) "__class__" = some (some (.builtin "object.__class__")))
    (cg_3 : PySem.W.findIn K (.ref C_3) (⟨#[112, 108, 97, 99, 101]⟩ : Str) = some none)
    (ch_3 : PySem.W.findIn K (.ref C_3) "__init__" = some (some (.ref cI_3)))
    (ci_3 : PySem.W.typeIn K (.ref cI_3) = some (.type "function"))
    (cj_3 : K.lookup cI_3 = some ⟨xoc_3, xod_3, .func (PySem.W.fnOf "__init__" (⟨#[66, 97, 114, 114, 101, 100, 46, 95, 95, 105, 110, 105, 116, 95, 95]⟩ : Str) (defArgs (inS 4 0)) (defBody (inS 4 0)) (defScope (inS 4 0)) .none xkV_3 xdc_3 xpm_3 xan_3 xcd_3 xct_3), xsl_3⟩)
    (ck_3 : PySem.W.codeIn K xcd_3 (⟨#[66, 97, 114, 114, 101, 100, 46, 95, 95, 105, 110, 105, 116, 95, 95]⟩ : Str) = true)
    (cm_3 : PySem.W.keepIn K (.ref cI_3) = true)
    (cn_3 : PySem.W.findCls K (.type "RuntimeError") (.type "type") "__init__" = some (.val (.builtin "RuntimeError.__init__")))
    (cs6 : PySem.W.specialIn K (.builtin "object.__class__") "__get__" = some (some (.builtin "getset_descriptor.__get__"))) (cs7 : PySem.W.takesIn K (.builtin "object.__class__") = some true)
    : ∃ fd : FuncData, (∀ (s : Shared) (v : Value), BindsTo s fd ⟨[v], []⟩ [((⟨#[95, 108, 97, 119, 95, 115, 99, 114, 105, 112, 116]⟩ : Str), v)]) ∧ ∀ base : Heap, K.In base → base.Ns mainGlobals mg → FnOk P w K mg base (L2.CX P w) n fa fd [(⟨#[95, 108, 97, 119, 95, 115, 99, 114, 105, 112, 116]⟩ : Str)] (spF (tb K defs cls) (G fuel) n 506) := by
  have e := hfa.symm.trans (PySem.W.mg_of X Gm a29)
  cases e
  have rows : Rows' K mg (tb K defs cls) (G fuel) defs := ⟨r_open_ears X Gm a0 l0 c0 k0, r_look_place X Gm a1 l1 c1 k1, r_neighbour X Gm a2 l2 c2 k2, r_has_ear X Gm a3 l3 c3 k3, r_look_taking X Gm a4 l4 c4 k4, r_taken X Gm a5 l5 c5 k5, r_gone X Gm a6 l6 c6 k6, r_origins_of X Gm a7 l7 c7 k7, r_is_let_at X Gm a8 l8 c8 k8, r_bar X Gm a9 l9 c9 k9, r_living X Gm a10 l10 c10 k10, r_span X Gm a11 l11 c11 k11, r_fewest_takings X Gm a12 l12 c12 k12, r_look_bar X Gm a13 l13 c13 k13, r_least_log X Gm a14 l14 c14 k14, r_is_least X Gm a15 l15 c15 k15, r_alike X Gm a16 l16 c16 k16, r_parting X Gm a17 l17 c17 k17, r_shortened X Gm a18 l18 c18 k18, r__law_cell_at X Gm a19 l19 c19 k19, r__law_box X Gm a20 l20 c20 k20, r__law_take X Gm a21 l21 c21 k21, r__law_of X Gm a22 l22 c22 k22, r__law_ears X Gm a23 l23 c23 k23, r__law_lets X Gm a24 l24 c24 k24, r__law_log X Gm a25 l25 c25 k25, r__law_other X Gm a26 l26 c26 k26, r__law_rows X Gm a27 l27 c27 k27, r__law_right X Gm a28 l28 c28 k28, r_law X Gm a29 l29 c29 k29, True.intro⟩
  have bl : ∀ x ∈ bltNames, mg x = none := by
    intro x hx
    simp only [bltNames, List.mem_cons, List.not_mem_nil, or_false] at hx
    rcases hx with rfl | rfl | rfl | rfl | rfl | rfl | rfl | rfl | rfl | rfl | rfl | rfl | rfl | rfl | rfl | rfl | rfl | rfl | rfl | rfl | rfl | rfl | rfl | rfl | rfl | rfl
    · exact PySem.W.mg_none_of X Gm z0
    · exact PySem.W.mg_none_of X Gm z1
    · exact PySem.W.mg_none_of X Gm z2
    · exact PySem.W.mg_none_of X Gm z3
    · exact PySem.W.mg_none_of X Gm z4
    · exact PySem.W.mg_none_of X Gm z5
    · exact PySem.W.mg_none_of X Gm z6
    · exact PySem.W.mg_none_of X Gm z7
    · exact PySem.W.mg_none_of X Gm z8
    · exact PySem.W.mg_none_of X Gm z9
    · exact PySem.W.mg_none_of X Gm z10
    · exact PySem.W.mg_none_of X Gm z11
    · exact PySem.W.mg_none_of X Gm z12
    · exact PySem.W.mg_none_of X Gm z13
    · exact PySem.W.mg_none_of X Gm z14
    · exact PySem.W.mg_none_of X Gm z15
    · exact PySem.W.mg_none_of X Gm z16
    · exact PySem.W.mg_none_of X Gm z17
    · exact PySem.W.mg_none_of X Gm z18
    · exact PySem.W.mg_none_of X Gm z19
    · exact PySem.W.mg_none_of X Gm z20
    · exact PySem.W.mg_none_of X Gm z21
    · exact PySem.W.mg_none_of X Gm z22
    · exact PySem.W.mg_none_of X Gm z23
    · exact PySem.W.mg_none_of X Gm z24
    · exact PySem.W.mg_none_of X Gm z25
  have hg : GlsOk mg gls := by
    intro x w h
    simp only [gls, memC, List.any_cons, List.any_nil, Bool.or_false, Bool.or_eq_true, Bool.and_eq_true, decide_eq_true_eq] at h
    rcases h with ⟨rfl, h⟩ | ⟨rfl, h⟩ | ⟨rfl, h⟩ | ⟨rfl, h⟩ | ⟨rfl, h⟩
    · cases w <;> simp only [eqC, decide_eq_true_eq, Bool.false_eq_true] at h
      subst h
      exact ⟨.str _, _, PySem.W.mg_of X Gm g0, ⟨_, rfl⟩, rfl⟩
    · cases w <;> simp only [eqC, decide_eq_true_eq, Bool.false_eq_true] at h
      subst h
      exact ⟨.str _, _, PySem.W.mg_of X Gm g1, ⟨_, rfl⟩, rfl⟩
    · cases w <;> simp only [eqC, decide_eq_true_eq, Bool.false_eq_true] at h
      subst h
      exact ⟨.str _, _, PySem.W.mg_of X Gm g2, ⟨_, rfl⟩, rfl⟩
    · cases w <;> simp only [eqC, decide_eq_true_eq, Bool.false_eq_true] at h
      subst h
      exact ⟨.str _, _, PySem.W.mg_of X Gm g3, ⟨_, rfl⟩, rfl⟩
    · cases w <;> simp only [eqC, decide_eq_true_eq, Bool.false_eq_true] at h
      subst h
      exact ⟨.str _, _, PySem.W.mg_of X Gm g4, ⟨_, rfl⟩, rfl⟩
  refine ⟨PySem.W.fnOf "law" "law" (defArgs (topS 45)) (defBody (topS 45)) (defScope (topS 45)) .none kV29 dc29 pm29 an29 cd29 ct29, fun s v => .of_eq rfl, fun base hb hn => ?_⟩
  have hcl : ∀ c d, lkC cls c = some d → ClsOk P w K mg base (tb K defs cls) c d := cls_all (l := cls) ⟨c_NoPlace X Gm cs6 cs7 ca_0 cl_0 cb_0 cc_0 cdc_0 ce_0 cf_0 cg_0 ch_0 ci_0 cj_0 ck_0 cm_0 cn_0 (PySem.W.mg_none_of X Gm z21), c_NoNeighbour X Gm cs6 cs7 ca_1 cl_1 cb_1 cc_1 cdc_1 ce_1 cf_1 cg_1 ch_1 ci_1 cj_1 ck_1 cm_1 cn_1 (PySem.W.mg_none_of X Gm z21), c_Deaf X Gm cs6 cs7 ca_2 cl_2 cb_2 cc_2 cdc_2 ce_2 cf_2 cg_2 ch_2 ci_2 cj_2 ck_2 cm_2 cn_2 (PySem.W.mg_none_of X Gm z22), c_Barred X Gm cs6 cs7 ca_3 cl_3 cb_3 cc_3 cdc_3 ce_3 cf_3 cg_3 ch_3 ci_3 cj_3 ck_3 cm_3 cn_3 (PySem.W.mg_none_of X Gm z22), True.intro⟩
  have hcn : ∀ q ∈ cls, lkC cls q.1 = some q.2 := by
    intro q hq
    simp only [cls, List.mem_cons, List.not_mem_nil, or_false] at hq
    rcases hq with rfl | rfl | rfl | rfl <;> rfl
  have all : ∀ m f d, (G fuel).fd f = some d → Stands P w K mg base (tb K defs cls) (G fuel) m f d := stands_all rfl (rows_all rows) bl hg hcl hcn fun _ _ => fad_tb
  cases n with
  | zero => exact fn_zero
  | succ n => exact def_ok (T := tb K defs cls) (K := K) rfl (rfl : (G fuel).fd 506 = some d_law) o_law (fun_mk (st := topS 45) l29 c29 k29) (all n) bl hg hcl hcn fun _ _ => fad_tb
end
end Dn.Law
open PySem PySem.W PyProof.Rows
namespace Dn.Law
theorem progT : ProgT (G 1000) where
  look := ⟨d_look_place, rfl, rfl, rfl, rfl, rfl⟩
  nb := ⟨d_neighbour, rfl, rfl, rfl, rfl, rfl⟩
  ear := ⟨d_has_ear, rfl, rfl, rfl, rfl, rfl⟩
  lookT := ⟨d_look_taking, rfl, rfl, rfl, rfl, rfl⟩
  taken := ⟨d_taken, rfl, rfl, rfl, rfl, rfl⟩
  gone := ⟨d_gone, rfl, rfl, rfl, rfl, rfl⟩
  org := ⟨d_origins_of, rfl, rfl, rfl, rfl, rfl⟩
  letA := ⟨d_is_let_at, rfl, rfl, rfl, rfl, rfl⟩
  bar := ⟨d_bar, rfl, rfl, rfl, rfl, rfl⟩
theorem prog85 : K85.Prog (G 1000) where
  l := ⟨⟨⟨d_living, rfl, rfl, rfl, rfl, rfl⟩, ⟨d_span, rfl, rfl, rfl, rfl, rfl⟩, ⟨d_fewest_takings, rfl, rfl, rfl, rfl, rfl⟩⟩, progT, ⟨d_look_bar, rfl, rfl, rfl, rfl, rfl⟩, ⟨d_least_log, rfl, rfl, rfl, rfl, rfl⟩⟩
  oe := ⟨d_open_ears, rfl, rfl, rfl, rfl, rfl⟩
  al := ⟨d_alike, rfl, rfl, rfl, rfl, rfl⟩
  part := ⟨d_parting, rfl, rfl, rfl, rfl, rfl⟩
  sh := ⟨d_shortened, rfl, rfl, rfl, rfl, rfl⟩
  isl := ⟨d_is_least, rfl, rfl, rfl, rfl, rfl⟩
  take := ⟨d__law_take, rfl, rfl, rfl, rfl, rfl⟩
  ears := ⟨d__law_ears, rfl, rfl, rfl, rfl, rfl⟩
  lets := ⟨d__law_lets, rfl, rfl, rfl, rfl, rfl⟩
  of_ := ⟨d__law_of, rfl, rfl, rfl, rfl, rfl⟩
  log := ⟨d__law_log, rfl, rfl, rfl, rfl, rfl⟩
  oth := ⟨d__law_other, rfl, rfl, rfl, rfl, rfl⟩
  rows := ⟨d__law_rows, rfl, rfl, rfl, rfl, rfl⟩
theorem law_true (ns : List Int) (hl : ns.length ≤ 63) : ∃ ms, ((G 1000).th 20).fn 506 [.im (.scr ns)] = .ok (.im (.bl true)) ms :=
  law_endC (c := 2) (by decide) (by decide) ⟨d_law, rfl, rfl, rfl, rfl, rfl⟩ ⟨d__law_box, rfl, rfl, rfl, rfl, rfl⟩ ⟨d__law_cell_at, rfl, rfl, rfl, rfl, rfl⟩ (by decide) (fun m hm => K85.right_sp prog85 ⟨d__law_right, rfl, rfl, rfl, rfl, rfl⟩ (by decide) hm) ns
end Dn.Law

set_option maxHeartbeats 0 in
theorem PySem.Challenge.cw_catchwords_k85_whole_alike_by_all_rows_holds : PySem.Challenge.rw_catchwords_k85_whole_alike_by_all_rows.Holds := by
  w_on; o_law; k_head; (case hw => w_witness2)
  k_fill
  refine L2.walk_of (l := PySem.Challenge.rw_catchwords_k85_whole_alike_by_all_rows) (n := 63) (k := 20) (x := "_law_script") (CX := fun w => L2.CX PySem.Challenge.rw_catchwords_k85_whole_alike_by_all_rows.prog w) (sp := fun w => Dn.spF (Dn.tb _ Dn.Law.defs Dn.Law.cls) (Dn.Law.G 1000) 20 506) rfl (by decide) rfl ⟨rfl, by decide, by decide⟩ (fun w h Y => PySem.W.kIn_of Y) ?F (fun _ H a ns hl _ hS => by obtain ⟨ms, e⟩ := Dn.Law.law_true ns hl; exact Dn.law_sp rfl rfl hS e) (fun _ _ _ _ _ h => Dn.no_cx h)
  case F =>
    intro w mg fa h KX G hmg
    refine' Dn.Law.all_mk KX G hmg ?a0 ?l0 ?c0 ?k0 ?a1 ?l1 ?c1 ?k1 ?a2 ?l2 ?c2 ?k2 ?a3 ?l3 ?c3 ?k3 ?a4 ?l4 ?c4 ?k4 ?a5 ?l5 ?c5 ?k5 ?a6 ?l6 ?c6 ?k6 ?a7 ?l7 ?c7 ?k7 ?a8 ?l8 ?c8 ?k8 ?a9 ?l9 ?c9 ?k9 ?a10 ?l10 ?c10 ?k10 ?a11 ?l11 ?c11 ?k11 ?a12 ?l12 ?c12 ?k12 ?a13 ?l13 ?c13 ?k13 ?a14 ?l14 ?c14 ?k14 ?a15 ?l15 ?c15 ?k15 ?a16 ?l16 ?c16 ?k16 ?a17 ?l17 ?c17 ?k17 ?a18 ?l18 ?c18 ?k18 ?a19 ?l19 ?c19 ?k19 ?a20 ?l20 ?c20 ?k20 ?a21 ?l21 ?c21 ?k21 ?a22 ?l22 ?c22 ?k22 ?a23 ?l23 ?c23 ?k23 ?a24 ?l24 ?c24 ?k24 ?a25 ?l25 ?c25 ?k25 ?a26 ?l26 ?c26 ?k26 ?a27 ?l27 ?c27 ?k27 ?a28 ?l28 ?c28 ?k28 ?a29 ?l29 ?c29 ?k29 ?qg0 ?qg1 ?qg2 ?qg3 ?qg4 ?z0 ?z1 ?z2 ?z3 ?z4 ?z5 ?z6 ?z7 ?z8 ?z9 ?z10 ?z11 ?z12 ?z13 ?z14 ?z15 ?z16 ?z17 ?z18 ?z19 ?z20 ?z21 ?z22 ?z23 ?z24 ?z25 ?qca_0 ?qcl_0 ?qcb_0 ?qcc_0 ?qcdc_0 ?qce_0 ?qcf_0 ?qcg_0 ?qch_0 ?qci_0 ?qcj_0 ?qck_0 ?qcm_0 ?qcn_0 ?qca_1 ?qcl_1 ?qcb_1 ?qcc_1 ?qcdc_1 ?qce_1 ?qcf_1 ?qcg_1 ?qch_1 ?qci_1 ?qcj_1 ?qck_1 ?qcm_1 ?qcn_1 ?qca_2 ?qcl_2 ?qcb_2 ?qcc_2 ?qcdc_2 ?qce_2 ?qcf_2 ?qcg_2 ?qch_2 ?qci_2 ?qcj_2 ?qck_2 ?qcm_2 ?qcn_2 ?qca_3 ?qcl_3 ?qcb_3 ?qcc_3 ?qcdc_3 ?qce_3 ?qcf_3 ?qcg_3 ?qch_3 ?qci_3 ?qcj_3 ?qck_3 ?qcm_3 ?qcn_3 ?qcs6 ?qcs7
    (case a0 => k_is); (case l0 => k_is); (case c0 => k_is); (case k0 => k_is)
    (case a1 => k_is); (case l1 => k_is); (case c1 => k_is); (case k1 => k_is)
    (case a2 => k_is); (case l2 => k_is); (case c2 => k_is); (case k2 => k_is)
    (case a3 => k_is); (case l3 => k_is); (case c3 => k_is); (case k3 => k_is)
    (case a4 => k_is); (case l4 => k_is); (case c4 => k_is); (case k4 => k_is)
    (case a5 => k_is); (case l5 => k_is); (case c5 => k_is); (case k5 => k_is)
    (case a6 => k_is); (case l6 => k_is); (case c6 => k_is); (case k6 => k_is)
    (case a7 => k_is); (case l7 => k_is); (case c7 => k_is); (case k7 => k_is)
    (case a8 => k_is); (case l8 => k_is); (case c8 => k_is); (case k8 => k_is)
    (case a9 => k_is); (case l9 => k_is); (case c9 => k_is); (case k9 => k_is)
    (case a10 => k_is); (case l10 => k_is); (case c10 => k_is); (case k10 => k_is)
    (case a11 => k_is); (case l11 => k_is); (case c11 => k_is); (case k11 => k_is)
    (case a12 => k_is); (case l12 => k_is); (case c12 => k_is); (case k12 => k_is)
    (case a13 => k_is); (case l13 => k_is); (case c13 => k_is); (case k13 => k_is)
    (case a14 => k_is); (case l14 => k_is); (case c14 => k_is); (case k14 => k_is)
    (case a15 => k_is); (case l15 => k_is); (case c15 => k_is); (case k15 => k_is)
    (case a16 => k_is); (case l16 => k_is); (case c16 => k_is); (case k16 => k_is)
    (case a17 => k_is); (case l17 => k_is); (case c17 => k_is); (case k17 => k_is)
    (case a18 => k_is); (case l18 => k_is); (case c18 => k_is); (case k18 => k_is)
    (case a19 => k_is); (case l19 => k_is); (case c19 => k_is); (case k19 => k_is)
    (case a20 => k_is); (case l20 => k_is); (case c20 => k_is); (case k20 => k_is)
    (case a21 => k_is); (case l21 => k_is); (case c21 => k_is); (case k21 => k_is)
    (case a22 => k_is); (case l22 => k_is); (case c22 => k_is); (case k22 => k_is)
    (case a23 => k_is); (case l23 => k_is); (case c23 => k_is); (case k23 => k_is)
    (case a24 => k_is); (case l24 => k_is); (case c24 => k_is); (case k24 => k_is)
    (case a25 => k_is); (case l25 => k_is); (case c25 => k_is); (case k25 => k_is)
    (case a26 => k_is); (case l26 => k_is); (case c26 => k_is); (case k26 => k_is)
    (case a27 => k_is); (case l27 => k_is); (case c27 => k_is); (case k27 => k_is)
    (case a28 => k_is); (case l28 => k_is); (case c28 => k_is); (case k28 => k_is)
    (case a29 => k_is); (case l29 => k_is); (case c29 => k_is); (case k29 => k_is)
    (case qg0 => k_is); (case qg1 => k_is); (case qg2 => k_is); (case qg3 => k_is); (case qg4 => k_is)
    (case z0 => k_is); (case z1 => k_is); (case z2 => k_is); (case z3 => k_is); (case z4 => k_is); (case z5 => k_is); (case z6 => k_is); (case z7 => k_is); (case z8 => k_is); (case z9 => k_is); (case z10 => k_is); (case z11 => k_is); (case z12 => k_is); (case z13 => k_is); (case z14 => k_is); (case z15 => k_is); (case z16 => k_is); (case z17 => k_is); (case z18 => k_is); (case z19 => k_is); (case z20 => k_is); (case z21 => k_is); (case z22 => k_is); (case z23 => k_is); (case z24 => k_is); (case z25 => k_is)
    (case qca_0 => k_is); (case qcl_0 => k_is); (case qcb_0 => k_is); (case qcc_0 => k_is); (case qcdc_0 => k_is); (case qce_0 => k_is); (case qcf_0 => k_is); (case qcg_0 => k_is); (case qch_0 => k_is); (case qci_0 => k_is); (case qcj_0 => k_is); (case qck_0 => k_is); (case qcm_0 => k_is); (case qcn_0 => k_is)
    (case qca_1 => k_is); (case qcl_1 => k_is); (case qcb_1 => k_is); (case qcc_1 => k_is); (case qcdc_1 => k_is); (case qce_1 => k_is); (case qcf_1 => k_is); (case qcg_1 => k_is); (case qch_1 => k_is); (case qci_1 => k_is); (case qcj_1 => k_is); (case qck_1 => k_is); (case qcm_1 => k_is); (case qcn_1 => k_is)
    (case qca_2 => k_is); (case qcl_2 => k_is); (case qcb_2 => k_is); (case qcc_2 => k_is); (case qcdc_2 => k_is); (case qce_2 => k_is); (case qcf_2 => k_is); (case qcg_2 => k_is); (case qch_2 => k_is); (case qci_2 => k_is); (case qcj_2 => k_is); (case qck_2 => k_is); (case qcm_2 => k_is); (case qcn_2 => k_is)
    (case qca_3 => k_is); (case qcl_3 => k_is); (case qcb_3 => k_is); (case qcc_3 => k_is); (case qcdc_3 => k_is); (case qce_3 => k_is); (case qcf_3 => k_is); (case qcg_3 => k_is); (case qch_3 => k_is); (case qci_3 => k_is); (case qcj_3 => k_is); (case qck_3 => k_is); (case qcm_3 => k_is); (case qcn_3 => k_is)
    (case qcs6 => k_is); (case qcs7 => k_is)
