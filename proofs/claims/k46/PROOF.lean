import PyProof.Rows.All
import Wide.All
import OpenK.AllK
import Wide.FinOn
import HandS.ForMost
import HandS.TupAny
import HandS.TupMul
import HandS.Style
import HandS.Defaults
import HandS.IsInst
import HandS.Deep
import HandS.Exc
import HandS.WordsExc
import HandS.CallSlots
import HandS.Wide
import HandS.TupLe
import HandS.Zip
import PyProof.StrLawsRepr
import KE.SortData
import HandS.Lambda
import HandS.HeadHook4
import HandS.HeadHook1
import HandS.ExcInit
import HandS.ExcField
import HandS.ExcIs
import HandS.TryMany
import KE.DataMinMax
import HandS.RaiseMore
import PyProof.MaxThree
import HandS.TryOnly
import KE.GoesMore
import KE.GoesEnum
import HandS.Dict
import HandS.SortKw
import KE.DataFind
import HandS.Conv
import HandS.Strs
import HandS.SetFor
import KE.KLam
import HandS.Slots
import HandS.Small
import HandS.Head0
import HandS.Head1
import HandS.Head2
import HandS.HeadEnd
import HandS.HeadHook2
import PySem.Challenge.RW_ringswings_k46_rings_repeated
set_option Elab.async false
set_option linter.all false
set_option maxRecDepth 100000
set_option maxHeartbeats 2000000
set_option Elab.async false
set_option linter.all false
set_option maxRecDepth 100000
/-! data, state, the small language, its evaluator -/
namespace RS
open PySem L2 PyProof.Rows

/-- data; hnd: an object that may change, by its number in the state; scr: the script -/
inductive D where
  | non | bl (b : Bool) | int (i : Int) | str (s : Str) | tup (xs : List D) | lst (xs : List D)
  | dic (kvs : List (Key × D)) | hnd (n : Nat) | scr (ns : List Int)
  | xcp (c f : Str) (x : D)

inductive HObj where
  | ml (xs : List D) | fz (xs : List D) | md (kvs : List (Key × D)) | gone
abbrev S := List HObj

abbrev Env := List (Option D)
/-- what comes: a value; an exception of the class that the module calls c, with its field, the slots at its raise; no word -/
inductive R (α : Type) where
  | ok (a : α) (s : S) | exc (c : Str) (fs : List (Str × D)) (ρ : Env) (s : S) | bad
def R.bind {α β : Type} (x : R α) (f : α → S → R β) : R β := match x with
  | .ok a s => f a s
  | .exc c fs ρ s => .exc c fs ρ s
  | .bad => .bad
def R.nox {α : Type} : R α → R α
  | .exc _ _ _ _ => .bad
  | x => x
def R.at {α : Type} (ρ : Env) : R α → R α
  | .exc c fs _ s => .exc c fs ρ s
  | x => x

abbrev CAP : Nat := 1000000

/-! ### data -/
mutual
def D.pur : D → Bool
  | .non | .bl _ | .int _ | .str _ => true
  | .tup xs | .lst xs => purs xs
  | .dic kvs => purkv kvs
  | .hnd _ | .scr _ | .xcp _ _ _ => false
def purs : List D → Bool
  | [] => true
  | x :: xs => x.pur && purs xs
def purkv : List (Key × D) → Bool
  | [] => true
  | (_, x) :: xs => x.pur && purkv xs
end
def keyPy : Key → PyData
  | .inl i => .int i
  | .inr s => .str s
mutual
def D.py : D → PyData
  | .non => .none | .bl b => .bool b | .int i => .int i | .str s => .str s
  | .tup xs => .tuple (pys xs) | .lst xs => .list (pys xs)
  | .dic kvs => .dict (pykv kvs)
  | .hnd _ | .scr _ | .xcp _ _ _ => .none
def pys : List D → List PyData
  | [] => []
  | x :: xs => x.py :: pys xs
def pykv : List (Key × D) → List (PyData × PyData)
  | [] => []
  | (k, x) :: xs => (keyPy k, x.py) :: pykv xs
end
/- without dicts -/
mutual
def D.flt : D → Bool
  | .non | .bl _ | .int _ => true
  | .str s => PyData.strOk s
  | .tup xs | .lst xs => flts xs
  | .dic _ | .hnd _ | .scr _ | .xcp _ _ _ => false
def flts : List D → Bool
  | [] => true
  | x :: xs => x.flt && flts xs
end
/- the text of repr is no longer than this; the ints are small enough -/
mutual
def D.wt : D → Nat
  | .non | .bl _ => 5
  | .int _ => 1002
  | .str s => 10 * s.length + 2
  | .tup xs | .lst xs => wts xs + 3
  | .dic kvs => wtkv kvs + 3
  | .hnd _ | .scr _ | .xcp _ _ _ => 0
def wts : List D → Nat
  | [] => 0
  | x :: xs => x.wt + 2 + wts xs
def wtkv : List (Key × D) → Nat
  | [] => 0
  | (.inl _, x) :: xs => 1006 + x.wt + wtkv xs
  | (.inr s, x) :: xs => 10 * s.length + 6 + x.wt + wtkv xs
end
mutual
def D.shw : D → Bool
  | .non | .bl _ => true
  | .int i => decide (i.natAbs < 2 ^ 1000)
  | .str s => PyData.strOk s
  | .tup xs | .lst xs => shws xs
  | .dic kvs => shwkv kvs
  | .hnd _ | .scr _ | .xcp _ _ _ => false
def shws : List D → Bool
  | [] => true
  | x :: xs => x.shw && shws xs
def shwkv : List (Key × D) → Bool
  | [] => true
  | (.inl i, x) :: xs => decide (i.natAbs < 2 ^ 1000) && (x.shw && shwkv xs)
  | (.inr s, x) :: xs => PyData.strOk s && (x.shw && shwkv xs)
end
mutual
def D.dep : D → Nat
  | .non | .bl _ | .int _ | .str _ | .hnd _ | .scr _ | .xcp _ _ _ => 0
  | .tup xs | .lst xs => deps xs + 1
  | .dic kvs => depkv kvs + 1
def deps : List D → Nat
  | [] => 0
  | x :: xs => max x.dep (deps xs)
def depkv : List (Key × D) → Nat
  | [] => 0
  | (_, x) :: xs => max x.dep (depkv xs)
end

/-! ### values in the state -/
/-- the items of a list, a tuple -/
def lstOf (s : S) : D → Option (List D)
  | .lst xs => some xs
  | .hnd i => match s[i]? with
    | some (.ml xs) => some xs
    | some (.fz xs) => some xs
    | _ => none
  | _ => none
def seqOf (s : S) : D → Option (List D)
  | .tup xs => some xs
  | d => lstOf s d
def unh (s : S) : D → D
  | .hnd i => match s[i]? with
    | some (.ml xs) => .lst xs
    | some (.fz xs) => .lst xs
    | _ => .hnd i
  | d => d
def intsOf : List D → Option (List Int)
  | [] => some []
  | .int i :: r => (intsOf r).map (i :: ·)
  | _ :: _ => none
def boolsOf : List D → Option (List Bool)
  | [] => some []
  | .bl i :: r => (boolsOf r).map (i :: ·)
  | _ :: _ => none
/- no handle from n on -/
mutual
def D.blw (n : Nat) : D → Bool
  | .non | .bl _ | .int _ | .str _ | .scr _ => true
  | .tup xs | .lst xs => blws n xs
  | .dic kvs => blwkv n kvs
  | .hnd i => decide (i < n)
  | .xcp _ _ x => x.blw n
def blws (n : Nat) : List D → Bool
  | [] => true
  | x :: xs => x.blw n && blws n xs
def blwkv (n : Nat) : List (Key × D) → Bool
  | [] => true
  | (_, x) :: xs => x.blw n && blwkv n xs
end
def tru (s : S) : D → Option Bool
  | .non => some false
  | .bl b => some b
  | .int i => some (i != 0)
  | .str x => if x.length ≤ CAP then some (x.length != 0) else none
  | .scr _ => none
  | .dic _ => none
  | d => (seqOf s d).map fun xs => !xs.isEmpty

def R.of {α : Type} (s : S) : Option α → R α
  | some a => .ok a s
  | none => .bad

/-! ### operators -/
def okMul (i j : Int) : Bool := (decide (-(2 ^ 64) < i) && decide (i < 2 ^ 64)) || (decide (-(2 ^ 64) < j) && decide (j < 2 ^ 64))
def addD (s : S) : D → D → Option D
  | .int i, .int j => some (.int (i + j))
  | .str x, .str y => if x.length + y.length ≤ CAP then some (.str (x ++ y)) else none
  | .tup xs, .tup ys => if xs.length + ys.length ≤ CAP then some (.tup (xs ++ ys)) else none
  | a, b => (lstOf s a).bind fun xs => (lstOf s b).bind fun ys => if xs.length + ys.length ≤ CAP then some (.lst (xs ++ ys)) else none
def subD : D → D → Option D
  | .int i, .int j => some (.int (i - j))
  | _, _ => none
def mulD (s : S) : D → D → Option D
  | .int i, .int j => if okMul i j then some (.int (i * j)) else none
  | .tup xs, .int k => if xs.length * k.toNat ≤ CAP ∧ k < 2 ^ 62 ∧ -(2 ^ 62) < k then some (.tup (List.replicate k.toNat xs).flatten) else none
  | a, .int k => (lstOf s a).bind fun xs => if xs.length * k.toNat ≤ CAP ∧ k < 2 ^ 62 ∧ -(2 ^ 62) < k then some (.lst (List.replicate k.toNat xs).flatten) else none
  | _, _ => none
def divD : D → D → Option D
  | .int i, .int j => if 0 < j ∧ j < 2 ^ 200 then some (.int (i / j)) else none
  | _, _ => none
def modD : D → D → Option D
  | .int i, .int j => if 0 < j then some (.int (i % j)) else none
  | _, _ => none
def powD : D → D → Option D
  | .int i, .int j => if 0 ≤ j ∧ j ≤ 1000 ∧ i.natAbs < 2 ^ 64 then some (.int (i ^ j.toNat)) else none
  | _, _ => none
inductive BO where
  | add | sub | mul | div | mod | pow
def binD (o : BO) (s : S) (a b : D) : Option D := match o with
  | .add => addD s a b | .sub => subD a b | .mul => mulD s a b | .div => divD a b | .mod => modD a b | .pow => powD a b

def eqOk (d : D) : Bool := d.flt && decide (d.dep ≤ 60)
def eqD (d e : D) : Bool := PyData.eqv d.py e.py
/-- tuples of ints in order -/
def ltT : List Int → List Int → Bool := HT.lexLt
def ordT (s : S) (f : Int → Int → Bool) (g : List Int → List Int → Option Bool) : D → D → Option Bool
  | .int i, .int j => some (f i j)
  | .tup xs, .tup ys => (intsOf xs).bind fun a => (intsOf ys).bind fun b => g a b
  | _, _ => none
def isD : D → D → Option Bool
  | .non, .non => some true
  | .bl _, .non | .int _, .non | .str _, .non | .tup _, .non | .lst _, .non | .dic _, .non | .hnd _, .non | .scr _, .non | .xcp _ _ _, .non => some false
  | .bl a, .bl b => some (a == b)
  | _, _ => none
def inD (s : S) (a b : D) : Option Bool := (seqOf s b).bind fun xs => if eqOk (unh s a) && (xs.all eqOk && decide (xs.length ≤ CAP)) then some (xs.any fun z => eqD z (unh s a)) else none
def eqS : D → D → Option Bool
  | .str x, .str y => some (x == y)
  | _, _ => none
def neS : D → D → Option Bool
  | .str x, .str y => some (!(x == y))
  | _, _ => none
/-- lists of different lengths -/
def eqN : D → D → Option Bool
  | .lst xs, .lst ys => if xs.length ≠ ys.length then some false else none
  | _, _ => none
def cmpD (o : CmpOp) (s : S) (a b : D) : Option Bool := match o with
  | .Eq => match eqS a b with
    | some d => some d
    | none => match (if eqOk (unh s a) && eqOk (unh s b) then some (eqD (unh s a) (unh s b)) else none) with
      | some d => some d
      | none => eqN a b
  | .NotEq => match neS a b with
    | some d => some d
    | none => match (if eqOk (unh s a) && eqOk (unh s b) then some (!eqD (unh s a) (unh s b)) else none) with
      | some d => some d
      | none => (eqN a b).map (!·)
  | .Lt => ordT s (fun i j => decide (i < j)) (fun x y => some (HT.lexLt x y)) a b
  | .LtE => ordT s (fun i j => decide (i ≤ j)) (fun x y => some (lexLeI x y)) a b
  | .Gt => ordT s (fun i j => decide (j < i)) (fun _ _ => none) a b
  | .GtE => ordT s (fun i j => decide (j ≤ i)) (fun _ _ => none) a b
  | .Is => isD a b
  | .IsNot => (isD a b).map (!·)
  | .In => inD s a b
  | .NotIn => (inD s a b).map (!·)

/-! ### items, slices -/
def idxD (s : S) (a i : D) : Option D := match i with
  | .int k => match a with
    | .str x => if x.length ≤ CAP then (atI x.cps.toList k).map fun c => .str ⟨#[c]⟩ else none
    | a => (seqOf s a).bind fun xs => atI xs k
  | _ => none
def cutD (xs : List D) (lo hi : Option Int) : List D := (xs.drop (HT.sIx xs.length 0 lo)).take (HT.sIx xs.length xs.length hi - HT.sIx xs.length 0 lo)
def cutZ (xs : List Int) (lo hi : Option Int) : List Int := (xs.drop (HT.sIx xs.length 0 lo)).take (HT.sIx xs.length xs.length hi - HT.sIx xs.length 0 lo)
def slcD (s : S) (a : D) (lo hi : Option Int) : Option D := match a with
  | .tup xs => some (.tup (cutD xs lo hi))
  | .scr ns => some (.lst ((cutZ ns lo hi).map .int))
  | a => (lstOf s a).map fun xs => .lst (cutD xs lo hi)

/-! ### built-in functions -/
def tupN : D → Bool
  | .tup (_ :: _) => true
  | _ => false
def notT : D → Bool
  | .non | .tup _ | .hnd _ | .scr _ | .xcp _ _ _ => false
  | _ => true
def srtOk (ds : List D) : Bool := (ds.all eqOk) && ((ds.all fun d => ds.all fun e => PySem.W.alike d.py e.py) && ((ds.all tupN) || (ds.all notT)))
def srtD (b : Bool) (s : S) (d : D) : Option D := (seqOf s d).bind fun xs => if srtOk xs && decide (xs.length ≤ CAP) then some (.lst (xs.mergeSort (PySem.W.dataLe b D.py))) else none
def mndD (s : S) (d : D) : Option D := (seqOf s d).bind fun xs => if srtOk xs && decide (xs.length ≤ CAP) then (match xs with
  | [] => none
  | x :: r => some (r.foldl (fun a y => if PySem.W.dataLt y.py a.py then y else a) x)) else none
def isPr : D → Bool
  | .tup [.int _, .int _] => true
  | _ => false
def keyR : D → PyData
  | .tup [.int a, .int b] => .tuple [.int (a - b), .tuple [.int a, .int b]]
  | _ => .none
def srkRD (s : S) (d : D) : Option D := (seqOf s d).bind fun xs => if xs.all isPr && decide (xs.length ≤ CAP) then some (.lst (xs.mergeSort (PySem.W.dataLe false keyR))) else none
def isIx (n : Nat) : D → Bool
  | .int i => decide (0 ≤ i) && decide (i < n)
  | _ => false
def keyP (ns : List Int) : D → PyData
  | .int i => .int (ns.getD i.toNat 0)
  | _ => .none
def srkPD (s : S) (d r : D) : Option D := match r with
  | .tup hs => (intsOf hs).bind fun ns => (seqOf s d).bind fun xs => if xs.all (isIx ns.length) && (decide (xs.length ≤ CAP) && decide (ns.length ≤ CAP)) then some (.lst (xs.mergeSort (PySem.W.dataLe false (keyP ns)))) else none
  | _ => none
def augD : D → D → Option D
  | .int i, .int j => if okMul i j then some (.int (i * j)) else none
  | _, _ => none
def isTp : D → Bool
  | .tup _ => true
  | _ => false
/-- index of an int in a tuple of ints -/
def ixTD : D → D → Option D
  | .tup xs, .int k => (intsOf xs).bind fun ns => if k ∈ ns then some (.int (ns.idxOf k : Nat)) else none
  | _, _ => none
/-- a text among texts -/
def dsD (kvs : List (Str × Str)) : D → Option D
  | .str z => (kvs.lookup z).map .str
  | _ => none
def ixoD (s : S) (a b : D) : Option D := match unh s a with
  | .lst xs => if eqOk (.lst xs) && eqOk (unh s b) then (xs.findIdx? fun z => eqD z (unh s b)).map fun i => .int (i : Nat) else none
  | _ => none
inductive F1 where
  | abs | len | tuple | list | int | repr | sum | all | max | min | sorted | any | str | mnd
def reprD (s : S) (d : D) : Option D := if (unh s d).pur && ((unh s d).shw && (decide ((unh s d).wt ≤ 10000000) && decide ((unh s d).dep ≤ 60))) then some (.str (unh s d).py.shown) else none
def maxL : List Int → Int
  | [] => 0
  | [x] => x
  | x :: r => max x (maxL r)
def minL : List Int → Int
  | [] => 0
  | [x] => x
  | x :: r => min x (minL r)
def mmxD (b : Bool) (xs : List D) : Option D := (intsOf xs).bind fun ns => if 3 ≤ ns.length ∧ ns.length ≤ 4 then some (.int (if b then maxL ns else minL ns)) else none
def f1D (f : F1) (s : S) (d : D) : Option D := match f, d with
  | .str, .int i => if i.natAbs < 2 ^ 1000 then some (.str (D.int i).py.shown) else none
  | .str, .str x => some (.str x)
  | .abs, .int i => some (.int (if i < 0 then -i else i))
  | .len, .str x => if x.length ≤ CAP then some (.int x.length) else none
  | .len, .scr ns => some (.int ns.length)
  | .len, d => (seqOf s d).map fun xs => .int xs.length
  | .tuple, .tup xs => some (.tup xs)
  | .tuple, d => (lstOf s d).map .tup
  | .list, d => (seqOf s d).map .lst
  | .int, .int i => some (.int i)
  | .int, .bl b => some (.int (if b then 1 else 0))
  | .repr, d => reprD s d
  | .sum, d => ((lstOf s d).bind intsOf).map fun ns => .int ns.sum
  | .all, d => ((lstOf s d).bind boolsOf).map fun bs => .bl (bs.all id)
  | .any, d => ((lstOf s d).bind boolsOf).map fun bs => .bl (bs.any id)
  | .max, d => ((seqOf s d).bind intsOf).bind fun ns => if ns.isEmpty then none else some (.int (maxL ns))
  | .min, d => ((seqOf s d).bind intsOf).bind fun ns => if ns.isEmpty then none else some (.int (minL ns))
  | .sorted, d => srtD false s d
  | .mnd, d => mndD s d
  | _, _ => none
inductive F2 where
  | max | min
def f2D (f : F2) (a b : D) : Option D := match f, a, b with
  | .max, .int i, .int j => some (.int (if j > i then j else i))
  | .min, .int i, .int j => some (.int (if j < i then j else i))
  | _, _, _ => none
inductive Ty where
  | int | bool | tuple | list | str
def Ty.isL : Ty → Bool
  | .list => true
  | _ => false
def isiD (s : S) (t : Ty) : D → Option Bool
  | .scr _ | .xcp _ _ _ => none
  | .hnd i => match s[i]? with
    | some (.ml _) | some (.fz _) => some t.isL
    | _ => none
  | .non => some false
  | .bl _ => some (match t with | .int => true | .bool => true | _ => false)
  | .int _ => some (match t with | .int => true | _ => false)
  | .str _ => some (match t with | .str => true | _ => false)
  | .tup _ => some (match t with | .tuple => true | _ => false)
  | .lst _ => some t.isL
  | .dic _ => some false

/-! ### the language -/
inductive Tg where
  | nm (i : Nat) | tp (ts : List Tg)
inductive Cst where
  | int (i : Int) | bl (b : Bool) | str (s : Str) | non
def Cst.d : Cst → D
  | .int i => .int i | .bl b => .bl b | .str s => .str s | .non => .non
mutual
inductive E where
  | var (i : Nat)
  | cst (c : Cst)
  | glb (x : Str) (c : Cst)
  | bin (o : BO) (a b : E)
  | neg (a : E)
  | cmp (o : CmpOp) (a b : E)
  | chn (o p : CmpOp) (a b c : E)
  | chn3 (o p q : CmpOp) (a b c d : E)
  | nt (a : E)
  | an (a r : E) | an1 (a : E) | orr (a r : E) | or1 (a : E)
  | ife (t : T) (a b : E)
  | tup (es : List E) | lst (es : List E) | dic0 | dic1 (k : Str) (v : E)
  | idx (a b : E)
  | slc (a : E) (lo hi : Option E)
  | rev (a : E)
  | f1 (f : F1) (a : E)
  | f2 (f : F2) (a b : E)
  | isi (t : Ty) (a : E)
  | app (a b : E)
  | rg1 (t : Bool) (a : E) | rg2 (t : Bool) (a b : E) | sst (a : E) | lns (a : E)
  | mmx (b : Bool) (es : List E)
  | dsub (kvs : List (Str × Str)) (a : E)
  | srkR (a : E) | srkP (a : E) (r : Nat) | rv0 (a : E)
  | srr (a : E) | ixo (a b : E) | ext (a b : E) | pop0 (a : E) | pop1 (a b : E) | rmv (a b : E)
  | comp (elt : E) (tg : Tg) (src : It) (cond : Option T) (own : List (Str × Nat))
  | mk (e : E)
  | xis (one : Bool) (cs : List Str) (a : E) | xf (f : Str) (a : E) | cnt (a b : E)
  | call (f : Nat) (args : List E)
  | calln (f : Nat) (args : List E)
inductive T where
  | v (e : E) | nt (t : T) | an (t u : T) | an1 (t : T) | orr (t u : T) | or1 (t : T)
inductive It where
  | ex (e : E) | r1 (a : E) | r2 (a b : E) | en (a : E) | en1 (a : E) | zp (a b : E)
end
inductive C where
  | asg (t : Tg) (e : E)
  | par (i j : Nat) (a b : E)
  | par3 (i j l : Nat) (a b c : E)
  | augM (i : Nat) (e : E)
  | six (a i e : E)
  | exp (e : E)
  | ret (e : E)
  | ite (t : T) (a b : List C)
  | forr (tg : Tg) (it : It) (body : List C)
  | whl (t : T) (body : List C)
  | brk | cnt | pass | never
  | rai (x : Str) | rai1 (x f : Str) (e : E)
  | tryy (body : List C) (h : C) | hd (x : Str) (i : Option Nat) (suite : List C) (r : C) | hd0

def getV (ρ : Env) (i : Nat) : Option D := match ρ[i]? with
  | some (some d) => some d
  | _ => none
mutual
def bindT (s : S) : Tg → D → Env → Option Env
  | .nm i, d, ρ => if i < ρ.length then some (ρ.set i (some d)) else none
  | .tp ts, d, ρ => (seqOf s d).bind fun xs => bindTs s ts xs ρ
def bindTs (s : S) : List Tg → List D → Env → Option Env
  | [], [], ρ => some ρ
  | t :: ts, x :: xs, ρ => (bindT s t x ρ).bind fun ρ' => bindTs s ts xs ρ'
  | _, _, _ => none
end
def wipeE (ρ : Env) : List (Str × Nat) → Env
  | [] => ρ
  | v :: vs => (wipeE ρ vs).set v.2 none

/-- the classes above a class of errors, by the module's name; what isinstance says -/
def excUps (c : Str) : List Str := if c == ("NoIndex" : Str) || (c == ("NoPlace" : Str) || c == ("NoVersion" : Str)) then [c, "LookupError"] else [c, "RingError", "ValueError"]
def excSub (c x : Str) : Bool := (excUps c).contains x
/-- a caught exception -/
def xcpD (c : Str) : List (Str × D) → Option D
  | [] => some (.xcp c "" .non)
  | [(f, x)] => some (.xcp c f x)
  | _ => none
def xisD (cs : List Str) : D → Option Bool
  | .xcp c _ _ => some (cs.any (excSub c))
  | _ => none
def xfD (f : Str) : D → Option D
  | .xcp _ g x => if g == f && f != ("" : Str) then some x else none
  | _ => none
def cntD (s : S) (x y : D) : Option D := match y with
  | .bl b => ((lstOf s x).bind boolsOf).map fun bs => .int ((bs.count b : Nat) : Int)
  | .int b => ((lstOf s x).bind intsOf).map fun bs => .int ((bs.count b : Nat) : Int)
  | _ => none
inductive Fl where
  | nx (ρ : Env) | rt (d : D) | bk (ρ : Env) | ct (ρ : Env)

/-- the name that an except clause binds is gone behind it -/
def Fl.del (i : Nat) : Fl → Fl
  | .nx ρ => .nx (ρ.set i none) | .bk ρ => .bk (ρ.set i none) | .ct ρ => .ct (ρ.set i none) | .rt d => .rt d

structure Gam where
  call : Nat → List D → S → R D
  fuel : Nat

/-- a list made anew, as an object of the state -/
def unL (d : D) (s : S) : R (List D) := match d with
  | .lst xs => .ok xs s
  | _ => .bad
def mkL (xs : List D) (s : S) : R D := .ok (.hnd s.length) (s ++ [.ml xs])
def isML (x : D) (s : S) : Bool := match x with
  | .hnd i => match s[i]? with
    | some (.ml _) => true
    | _ => false
  | _ => false
def appD (x y : D) (s : S) : R D := match x with
  | .hnd i => match s[i]? with
    | some (.ml xs) => if xs.length < CAP && y.blw i then .ok .non (s.set i (.ml (xs ++ [y]))) else .bad
    | _ => .bad
  | _ => .bad
def extD (x y : D) (s : S) : R D := match x with
  | .hnd i => match s[i]? with
    | some (.ml xs) => match lstOf s y with
      | some ys => if xs.length + ys.length ≤ CAP && blws i ys then .ok .non (s.set i (.ml (xs ++ ys))) else .bad
      | none => .bad
    | _ => .bad
  | _ => .bad
def pop0D (x : D) (s : S) : R D := match x with
  | .hnd i => match s[i]? with
    | some (.ml xs) => match xs[xs.length - 1]? with
      | some d => .ok d (s.set i (.ml xs.dropLast))
      | none => .bad
    | _ => .bad
  | _ => .bad
def pop1D (x k : D) (s : S) : R D := match x, k with
  | .hnd i, .int k => match s[i]? with
    | some (.ml xs) => match ixN xs.length k with
      | some j => match xs[j]? with
        | some d => if xs.length ≤ CAP then .ok d (s.set i (.ml (xs.eraseIdx j))) else .bad
        | none => .bad
      | none => .bad
    | _ => .bad
  | _, _ => .bad
def rmvD (x y : D) (s : S) : R D := match x with
  | .hnd i => match s[i]? with
    | some (.ml xs) => if eqOk (.lst xs) && eqOk (unh s y) then (match xs.findIdx? fun z => eqD z (unh s y) with
      | some j => .ok .non (s.set i (.ml (xs.eraseIdx j)))
      | none => .bad) else .bad
    | _ => .bad
  | _ => .bad
open PySem PySem.Spec L2
open PyProof.Rows hiding St
/-- a store to a place of a list -/
def sixD (x k z : D) (s : S) : R Unit := match x, k with
  | .hnd i, .int k => match s[i]? with
    | some (.ml xs) => match ixN xs.length k with
      | some j => if z.blw i then .ok () (s.set i (.ml (xs.set j z))) else .bad
      | none => .bad
    | _ => .bad
  | _, _ => .bad
def rangeD (a b : Int) : List D := (List.range (b - a).toNat).map fun (i : Nat) => .int (a + (i : Int))
def consO : Option D → List D → List D
  | some d, ys => d :: ys
  | none, ys => ys
def compL (f : D → S → R (Option D)) : List D → S → R (List D)
  | [], s => .ok [] s
  | x :: xs, s => (f x s).nox.bind fun y s1 => (compL f xs s1).bind fun ys s2 => .ok (consO y ys) s2
def compF (tg : Tg) (mt : Env → S → R Bool) (me : Env → S → R D) (ρ : Env) (x : D) (s : S) : R (Option D) := match bindT s tg x ρ with
  | some ρ' => (mt ρ' s).bind fun c s' => if c then (me ρ' s').bind fun y s'' => .ok (some y) s'' else .ok none s'
  | none => .bad
/-- behind a call: what it made is dropped; a list it hands back stands still -/
def blwfs (n : Nat) : List (Str × D) → Bool
  | [] => true
  | (_, x) :: xs => x.blw n && blwfs n xs
def cutD1 (n : Nat) (d : D) (s : S) : R D := match d with
  | .hnd i => if i < n then .ok (.hnd i) (s.take n) else match s[i]? with
    | some (.ml xs) => if blws n xs then .ok (.lst xs) (s.take n) else .bad
    | some (.fz xs) => if blws n xs then .ok (.lst xs) (s.take n) else .bad
    | _ => .bad
  | d => if d.blw n then .ok d (s.take n) else .bad
def cutS (n : Nat) : R D → R D
  | .ok d s => cutD1 n d s
  | .exc c fs ρ s => if blwfs n fs then .exc c fs ρ (s.take n) else .bad
  | .bad => .bad
/-- the items of what is walked; a list that may change stands still from then on -/
def lstF (x : D) (s : S) : R (List D) := match x with
  | .lst xs => .ok xs s
  | .hnd i => match s[i]? with
    | some (.ml xs) => .ok xs (s.set i (.fz xs))
    | some (.fz xs) => .ok xs s
    | _ => .bad
  | _ => .bad
def seqF (x : D) (s : S) : R (List D) := match x with
  | .tup xs => .ok xs s
  | x => lstF x s
def zipF (x y : D) (s : S) : R (List D) := match x, y with
  | .tup xs, .tup ys => .ok (List.zipWith (fun d e => .tup [d, e]) xs ys) s
  | x, y => (lstF x s).bind fun xs s1 => (lstF y s1).bind fun ys s2 => .ok (List.zipWith (fun d e => .tup [d, e]) xs ys) s2
def rng1 (x : D) : Option (List D) := match x with
  | .int j => if j ≤ CAP ∧ -CAP ≤ j then some (rangeD 0 j) else none
  | _ => none
def rng2 (x y : D) : Option (List D) := match x, y with
  | .int i, .int j => if (j ≤ CAP ∧ -CAP ≤ j) ∧ i ≤ CAP ∧ -CAP ≤ i then some (rangeD i j) else none
  | _, _ => none
def mkS (t : Bool) (xs : List D) : D := if t then .tup xs else .lst xs
def rg1D (t : Bool) (x : D) : Option D := (rng1 x).map (mkS t)
def rg2D (t : Bool) (x y : D) : Option D := (rng2 x y).bind fun xs => if xs.length ≤ CAP then some (mkS t xs) else none
/-- the different ones -/
def eDup : List Int → List Int
  | [] => []
  | x :: xs => if x ∈ xs then eDup xs else x :: eDup xs
def leZ (i j : Int) : Bool := decide (i ≤ j)
def sD (xs : List Int) : List Int := (eDup xs).mergeSort leZ
def tupI : D → Option (List Int)
  | .tup xs => (intsOf xs).bind fun ns => if ns.length < 60 then some ns else none
  | .lst xs => (intsOf xs).bind fun ns => if ns.length < 60 then some ns else none
  | _ => none
def sstD (x : D) : Option D := (tupI x).map fun ns => .lst ((sD ns).map .int)
def lnsD (x : D) : Option D := (tupI x).map fun ns => .int (eDup ns).length
def isInt? : D → Option Int
  | .int i => some i
  | _ => none
mutual
def evE (G : Gam) : E → Env → S → R D
  | .var i, ρ, s => R.of s (getV ρ i)
  | .cst c, _, s => .ok c.d s
  | .glb _ c, _, s => .ok c.d s
  | .bin o a b, ρ, s => (evE G a ρ s).bind fun x s1 => (evE G b ρ s1).bind fun y s2 => R.of s2 (binD o s2 x y)
  | .neg a, ρ, s => (evE G a ρ s).bind fun x s1 => match x with
    | .int i => .ok (.int (-i)) s1
    | _ => .bad
  | .cmp o a b, ρ, s => (evE G a ρ s).bind fun x s1 => (evE G b ρ s1).bind fun y s2 => R.of s2 ((cmpD o s2 x y).map .bl)
  | .chn3 o p q a b c d, ρ, s => (evE G a ρ s).bind fun x s1 => (evE G b ρ s1).bind fun y s2 => match cmpD o s2 x y with
    | some true => (evE G c ρ s2).bind fun z s3 => match cmpD p s3 y z with
      | some true => (evE G d ρ s3).bind fun w s4 => R.of s4 ((cmpD q s4 z w).map .bl)
      | some false => .ok (.bl false) s3
      | none => .bad
    | some false => .ok (.bl false) s2
    | none => .bad
  | .chn o p a b c, ρ, s => (evE G a ρ s).bind fun x s1 => (evE G b ρ s1).bind fun y s2 => match cmpD o s2 x y with
    | some true => (evE G c ρ s2).bind fun z s3 => R.of s3 ((cmpD p s3 y z).map .bl)
    | some false => .ok (.bl false) s2
    | none => .bad
  | .nt a, ρ, s => (evE G a ρ s).bind fun x s1 => match x with
    | .bl b => .ok (.bl (!b)) s1
    | _ => .bad
  | .an a r, ρ, s => (evE G a ρ s).bind fun x s1 => match x with
    | .bl true => evE G r ρ s1
    | .bl false => .ok (.bl false) s1
    | _ => .bad
  | .an1 a, ρ, s => evE G a ρ s
  | .orr a r, ρ, s => (evE G a ρ s).bind fun x s1 => match x with
    | .bl false => evE G r ρ s1
    | .bl true => .ok (.bl true) s1
    | _ => .bad
  | .or1 a, ρ, s => evE G a ρ s
  | .ife t a b, ρ, s => (evT G t ρ s).bind fun c s1 => if c then evE G a ρ s1 else evE G b ρ s1
  | .tup es, ρ, s => (evEs G es ρ s).bind fun xs s1 => .ok (.tup xs) s1
  | .lst es, ρ, s => (evEs G es ρ s).bind fun xs s1 => .ok (.lst xs) s1
  | .dic0, _, s => .ok (.dic []) s
  | .dic1 k v, ρ, s => (evE G v ρ s).bind fun x s1 => .ok (.dic [(.inr k, x)]) s1
  | .idx a b, ρ, s => (evE G a ρ s).bind fun x s1 => (evE G b ρ s1).bind fun y s2 => R.of s2 (idxD s2 x y)
  | .slc a lo hi, ρ, s => (evE G a ρ s).bind fun x s1 => (evO G lo ρ s1).bind fun l s2 => (evO G hi ρ s2).bind fun h s3 => R.of s3 (slcD s3 x l h)
  | .rev a, ρ, s => (evE G a ρ s).bind fun x s1 => match x with
    | .tup xs => .ok (.tup xs.reverse) s1
    | x => R.of s1 ((lstOf s1 x).map fun xs => .lst xs.reverse)
  | .f1 f a, ρ, s => (evE G a ρ s).bind fun x s1 => R.of s1 (f1D f s1 x)
  | .f2 f a b, ρ, s => (evE G a ρ s).bind fun x s1 => (evE G b ρ s1).bind fun y s2 => R.of s2 (f2D f x y)
  | .isi t a, ρ, s => (evE G a ρ s).bind fun x s1 => R.of s1 ((isiD s1 t x).map .bl)
  | .app a b, ρ, s => (evE G a ρ s).bind fun x s1 => if isML x s1 then (evE G b ρ s1).bind fun y s2 => appD x y s2 else .bad
  | .rg1 t a, ρ, s => (evE G a ρ s).bind fun x s1 => R.of s1 (rg1D t x)
  | .rg2 t a b, ρ, s => (evE G a ρ s).bind fun x s1 => (evE G b ρ s1).bind fun y s2 => R.of s2 (rg2D t x y)
  | .sst a, ρ, s => (evE G a ρ s).bind fun x s1 => R.of s1 (sstD x)
  | .lns a, ρ, s => (evE G a ρ s).bind fun x s1 => R.of s1 (lnsD x)
  | .mmx b es, ρ, s => (evEs G es ρ s).bind fun xs s1 => R.of s1 (mmxD b xs)
  | .dsub kvs a, ρ, s => (evE G a ρ s).bind fun x s1 => R.of s1 (dsD kvs x)
  | .srkR a, ρ, s => (evE G a ρ s).bind fun x s1 => R.of s1 (srkRD s1 x)
  | .srkP a r, ρ, s => (evE G a ρ s).bind fun x s1 => R.of s1 ((getV ρ r).bind fun y => srkPD s1 x y)
  | .rv0 a, ρ, s => (evE G a ρ s).bind fun x s1 => R.of s1 ((lstOf s1 x).map fun xs => .lst (xs.drop 1).reverse)
  | .srr a, ρ, s => (evE G a ρ s).bind fun x s1 => R.of s1 (srtD true s1 x)
  | .ixo a b, ρ, s => (evE G a ρ s).bind fun x s1 => if (lstOf s1 x).isSome then (evE G b ρ s1).bind fun y s2 => R.of s2 (ixoD s2 x y) else .bad
  | .ext a b, ρ, s => (evE G a ρ s).bind fun x s1 => if isML x s1 then (evE G b ρ s1).bind fun y s2 => extD x y s2 else .bad
  | .pop0 a, ρ, s => (evE G a ρ s).bind fun x s1 => if isML x s1 then pop0D x s1 else .bad
  | .pop1 a b, ρ, s => (evE G a ρ s).bind fun x s1 => if isML x s1 then (evE G b ρ s1).bind fun y s2 => pop1D x y s2 else .bad
  | .rmv a b, ρ, s => (evE G a ρ s).bind fun x s1 => if isML x s1 then (evE G b ρ s1).bind fun y s2 => rmvD x y s2 else .bad
  | .comp elt tg src cond own, ρ, s => ((evI G src ρ s).bind fun xs s1 => compL (compF tg (evOT G cond) (evE G elt) (wipeE ρ own)) xs s1).bind fun ys s2 => .ok (.lst ys) s2
  | .mk e, ρ, s => ((evE G e ρ s).bind unL).bind mkL
  | .xis _ cs a, ρ, s => (evE G a ρ s).bind fun x s1 => R.of s1 ((xisD cs x).map .bl)
  | .xf f a, ρ, s => (evE G a ρ s).bind fun x s1 => R.of s1 (xfD f x)
  | .cnt a b, ρ, s => (evE G a ρ s).bind fun x s1 => if (lstOf s1 x).isSome then (evE G b ρ s1).bind fun y s2 => R.of s2 (cntD s2 x y) else .bad
  | .call f args, ρ, s => (evEs G args ρ s).bind fun xs s1 => cutS s1.length ((G.call f xs s1).at ρ)
  | .calln f args, ρ, s => (evEs G args ρ s).bind fun xs s1 => (G.call f xs s1).at ρ
def evEs (G : Gam) : List E → Env → S → R (List D)
  | [], _, s => .ok [] s
  | e :: es, ρ, s => (evE G e ρ s).bind fun x s1 => (evEs G es ρ s1).bind fun xs s2 => .ok (x :: xs) s2
def evO (G : Gam) : Option E → Env → S → R (Option Int)
  | none, _, s => .ok none s
  | some e, ρ, s => (evE G e ρ s).bind fun x s1 => match x with
    | .int i => .ok (some i) s1
    | _ => .bad
def evOT (G : Gam) : Option T → Env → S → R Bool
  | none, _, s => .ok true s
  | some t, ρ, s => evT G t ρ s
def evT (G : Gam) : T → Env → S → R Bool
  | .v e, ρ, s => (evE G e ρ s).bind fun x s1 => R.of s1 (tru s1 x)
  | .nt t, ρ, s => (evT G t ρ s).bind fun c s1 => .ok (!c) s1
  | .an t u, ρ, s => (evT G t ρ s).bind fun c s1 => if c then evT G u ρ s1 else .ok false s1
  | .an1 t, ρ, s => evT G t ρ s
  | .orr t u, ρ, s => (evT G t ρ s).bind fun c s1 => if c then .ok true s1 else evT G u ρ s1
  | .or1 t, ρ, s => evT G t ρ s
def evI (G : Gam) : It → Env → S → R (List D)
  | .ex e, ρ, s => (evE G e ρ s).bind seqF
  | .r1 a, ρ, s => (evE G a ρ s).bind fun x s1 => R.of s1 (rng1 x)
  | .r2 a b, ρ, s => (evE G a ρ s).bind fun x s1 => (evE G b ρ s1).bind fun y s2 => R.of s2 (rng2 x y)
  | .en a, ρ, s => ((evE G a ρ s).bind seqF).bind fun xs s2 => .ok (xs.mapIdx fun i d => .tup [.int (i : Nat), d]) s2
  | .en1 a, ρ, s => ((evE G a ρ s).bind lstF).bind fun xs s2 => .ok (xs.mapIdx fun i d => .tup [.int ((i : Int) + 1), d]) s2
  | .zp a b, ρ, s => (evE G a ρ s).bind fun x s1 => (evE G b ρ s1).bind fun y s2 => zipF x y s2
end
def sqC (G : Env → S → R Fl) (fl : Fl) (s1 : S) : R Fl := match fl with
  | .nx ρ' => G ρ' s1
  | fl => .ok fl s1
def bodyC (tg : Tg) (m : Env → S → R Fl) : D → Env → S → R Fl := fun x ρ s => match bindT s tg x ρ with
  | some ρ' => m ρ' s
  | none => .bad
def forL (f : D → Env → S → R Fl) : List D → Env → S → R Fl
  | [], ρ, s => .ok (.nx ρ) s
  | x :: xs, ρ, s => (f x ρ s).bind fun fl s1 => match fl with
    | .nx ρ' => forL f xs ρ' s1
    | .ct ρ' => forL f xs ρ' s1
    | .bk ρ' => .ok (.nx ρ') s1
    | .rt d => .ok (.rt d) s1
def whlL (t : Env → S → R Bool) (f : Env → S → R Fl) : Nat → Env → S → R Fl
  | 0, _, _ => .bad
  | n + 1, ρ, s => (t ρ s).bind fun c s0 => if c then (f ρ s0).bind fun fl s1 => match fl with
    | .nx ρ' => whlL t f n ρ' s1
    | .ct ρ' => whlL t f n ρ' s1
    | .bk ρ' => .ok (.nx ρ') s1
    | .rt d => .ok (.rt d) s1
    else .ok (.nx ρ) s0
mutual
def evC (G : Gam) : C → Env → S → R Fl
  | .asg t e, ρ, s => (evE G e ρ s).bind fun x s1 => match bindT s1 t x ρ with
    | some ρ' => .ok (.nx ρ') s1
    | none => .bad
  | .par i j a b, ρ, s => (evE G a ρ s).bind fun x s1 => (evE G b ρ s1).bind fun y s2 => if i < ρ.length ∧ j < ρ.length then .ok (.nx ((ρ.set i (some x)).set j (some y))) s2 else .bad
  | .par3 i j l a b c, ρ, s => (evE G a ρ s).bind fun x s1 => (evE G b ρ s1).bind fun y s2 => (evE G c ρ s2).bind fun z s3 => if i < ρ.length ∧ j < ρ.length ∧ l < ρ.length then .ok (.nx (((ρ.set i (some x)).set j (some y)).set l (some z))) s3 else .bad
  | .augM i e, ρ, s => (R.of s (getV ρ i)).bind fun x s0 => (evE G e ρ s0).bind fun y s1 => match augD x y with
    | some d => if i < ρ.length then .ok (.nx (ρ.set i (some d))) s1 else .bad
    | none => .bad
  | .six a i e, ρ, s => (evE G e ρ s).bind fun z s1 => (evE G a ρ s1).bind fun x s2 => (evE G i ρ s2).bind fun y s3 => (sixD x y z s3).bind fun _ s4 => .ok (.nx ρ) s4
  | .exp e, ρ, s => (evE G e ρ s).bind fun _ s1 => .ok (.nx ρ) s1
  | .ret e, ρ, s => (evE G e ρ s).bind fun x s1 => .ok (.rt x) s1
  | .ite t a b, ρ, s => (evT G t ρ s).bind fun c s1 => if c then evCs G a ρ s1 else evCs G b ρ s1
  | .forr tg it body, ρ, s => (evI G it ρ s).bind fun xs s1 => forL (bodyC tg (evCs G body)) xs ρ s1
  | .whl t body, ρ, s => whlL (evT G t) (evCs G body) G.fuel ρ s
  | .brk, ρ, s => .ok (.bk ρ) s
  | .cnt, ρ, s => .ok (.ct ρ) s
  | .pass, ρ, s => .ok (.nx ρ) s
  | .never, _, _ => .bad
  | .rai x, ρ, s => .exc x [] ρ s
  | .rai1 x f e, ρ, s => (evE G e ρ s).bind fun d s1 => .exc x [(f, d)] ρ s1
  | .tryy body h, ρ, s => match evCs G body ρ s with
    | .exc c fs ρ' s' => evH G h c fs ρ' s'
    | r => r
  | .hd _ _ _ _, _, _ => .bad
  | .hd0, _, _ => .bad
def evCs (G : Gam) : List C → Env → S → R Fl
  | [], ρ, s => .ok (.nx ρ) s
  | c :: cs, ρ, s => (evC G c ρ s).bind (sqC (evCs G cs))
def evH (G : Gam) : C → Str → List (Str × D) → Env → S → R Fl
  | .hd x none suite r, c, fs, ρ, s => if excSub c x then (evCs G suite ρ s).nox else evH G r c fs ρ s
  | .hd x (some i) suite r, c, fs, ρ, s => if excSub c x then match xcpD c fs with
    | some d => (evCs G suite (ρ.set i (some d)) s).nox.bind fun fl s1 => .ok (fl.del i) s1
    | none => .bad
    else evH G r c fs ρ s
  | .hd0, c, fs, ρ, s => .exc c fs ρ s
  | _, _, _, _, _ => .bad
end
structure Fn where
  name : Str
  dn : Str
  ps : List Str
  N : List Str
  body : List C
def evF (fns : List Fn) (fuel : Nat) : Nat → Nat → List D → S → R D
  | 0, _, _, _ => .bad
  | n + 1, f, xs, s => match fns[f]? with
    | none => .bad
    | some F => if xs.length = F.ps.length then (evCs ⟨evF fns fuel n, fuel⟩ F.body (xs.map some ++ List.replicate (F.N.length - xs.length) none) s).bind fun fl s1 => match fl with
      | .nx _ => .ok .non s1
      | .rt d => .ok d s1
      | _ => .bad
      else .bad
end RS

set_option Elab.async false
set_option linter.all false
set_option maxRecDepth 100000
/-! how values and the heap bear data -/
namespace RS
open PySem PySem.Spec PyProof.Rows L2

def lamDefs : List Str := ["by_range", "_law_ordered", "_law_removal", "_law_is_removal"]
def lamA (K : PySem.W.Frag) (x : Str) : Bool := PySem.W.codeHdIn K (He.cT K (x, none)).1 (He.cT K (x, none)).2 && (K.lookup (He.cT K (x, none)).2).isNone
def lamB (K : PySem.W.Frag) (x : Str) : Bool := lamA K x && lamDefs.all fun y => y == x || (!lamA K y || decide ((He.cT K (y, none)).2 ≠ (He.cT K (x, none)).2))
def lamQ (x : Str) : Str := x ++ (".<locals>." : Str) ++ ("<lambda>" : Str)
def lamT (K : PySem.W.Frag) : List (Addr × Str) := (lamDefs.filter (lamB K)).map fun x => ((He.cT K (x, none)).2, lamQ x)
abbrev TabK (K : PySem.W.Frag) (H : Hp) : Prop := LamX.Tabs (lamT K) H
theorem lamT_one {K : PySem.W.Frag} {x : Str} (h : lamB K x = true) : ∀ p ∈ lamT K, p.1 = (He.cT K (x, none)).2 → p.2 = lamQ x := fun p hp e => by
  obtain ⟨y, hy, rfl⟩ := List.mem_map.mp hp
  obtain ⟨hy1, hy2⟩ := List.mem_filter.mp hy
  have h2 := (Bool.and_eq_true_iff.mp h).2
  have h3 := List.all_eq_true.mp h2 y hy1
  have h4 := (Bool.and_eq_true_iff.mp hy2).1
  by_cases q : y = x
  · rw [q]
  · exfalso
    rw [Bool.or_eq_true, Bool.or_eq_true] at h3
    rcases h3 with h3 | h3 | h3
    · exact q (by simpa using h3)
    · rw [h4] at h3; cases h3
    · exact of_decide_eq_true h3 e
theorem lamT_mem {K : PySem.W.Frag} {x : Str} (hx : x ∈ lamDefs) (h : lamB K x = true) : ((He.cT K (x, none)).2, lamQ x) ∈ lamT K := List.mem_map.mpr ⟨x, List.mem_filter.mpr ⟨hx, h⟩, rfl⟩
theorem TabK.ext {K : PySem.W.Frag} {H H' : Hp} (t : TabK K H) (e : ∀ b o, H b = some o → ((∃ ps, o = .tbl ps) ∨ ∃ φ, o = .ext φ) → H' b = some o) : TabK K H' := fun p hp => by
  obtain ⟨ps, h1, h2, h3⟩ := t p hp
  refine ⟨ps, e _ _ h1 (.inl ⟨ps, rfl⟩), h2, fun pos cv hc => ?_⟩
  obtain ⟨c, e1, e2⟩ := h3 pos cv hc
  exact ⟨c, e1, e _ _ e2 (.inr ⟨_, rfl⟩)⟩
theorem TabK.new {K : PySem.W.Frag} {H : Hp} {p : Addr} {u : HO} (t : TabK K H) (h : H p = none) : TabK K (upd H p u) := t.ext fun b o e _ => by rw [upd_ne (ne_of_none e h)]; exact e
theorem TabK.set {K : PySem.W.Frag} {H : Hp} {p : Addr} {o u : HO} (t : TabK K H) (h : H p = some o) (n1 : ∀ ps, o ≠ .tbl ps) (n2 : ∀ φ, o ≠ .ext φ) : TabK K (upd H p u) := t.ext fun b w e z => by
  by_cases q : b = p
  · subst q; rw [h] at e; cases e
    rcases z with ⟨ps, rfl⟩ | ⟨φ, rfl⟩
    · exact absurd rfl (n1 ps)
    · exact absurd rfl (n2 φ)
  · rw [upd_ne q]; exact e

def HObj.mt : HObj → Bool
  | .ml _ => true
  | .md _ => true
  | _ => false
/-- the addresses of the objects of the state; addresses that are none of ours -/
structure HA where
  l : List Addr
  b : Addr → Prop
def HA.snoc (ha : HA) (p : Addr) : HA := ⟨ha.l ++ [p], ha.b⟩
/-- what may change: objects of the state -/
def Hv (ha : HA) (s : S) (p : Addr) : Prop := ∃ (i : Nat) (o : HObj), ha.l[i]? = some p ∧ s[i]? = some o ∧ o.mt = true
def Av (ha : HA) (s : S) (p : Addr) : Prop := ha.b p ∨ Hv ha s p
def HObj.blw (n : Nat) : HObj → Bool
  | .ml xs => blws n xs
  | .fz xs => blws n xs
  | .md kvs => blwkv n kvs
  | .gone => true

def SqS (K : PySem.W.Frag) (H : Hp) (A : Addr → Prop) (a : Addr) (xs : List V) : Prop :=
  (Rd H a (.lst xs) ∧ ¬ A a) ∨
    ∃ (o : Obj) (its : Array Value) (n : Nat), K.lookup a = some o ∧ o.cls = .type "list" ∧ o.dict = none ∧ o.data = .seq its n ∧ its.size ≤ sizeLine ∧ Vals xs its.toList
theorem SqS.sql {K : PySem.W.Frag} {H : Hp} {A : Addr → Prop} {a : Addr} {xs : List V} (h : SqS K H A a xs) : SqL K H a xs := by
  rcases h with ⟨h, _⟩ | h
  · exact .inl h
  · exact .inr h

/-- a class of errors that is built in -/
def excBlt (x : Str) : Bool := x == ("ValueError" : Str) || x == ("LookupError" : Str)
/-- the class that the module calls x -/
def excV (K : PySem.W.Frag) (x : Str) : Value := if x == ("ValueError" : Str) then .type "ValueError" else if x == ("LookupError" : Str) then .type "LookupError" else .ref (He.ga K x)
/-- the object of a caught exception -/
def ExT (K : PySem.W.Frag) (c : Str) (d : Option Addr) (p : Addr) : HO := .ext fun h => ∃ oe vs, h.get? p = some oe ∧ Zc (.ref (He.ga K c)) d oe ∧ oe.data = .fields vs
theorem exT_ok {K : PySem.W.Frag} {P : Program} {w : World} {H : Hp} {h : Heap} {c : Str} {d : Option Addr} {p : Addr} {oe : Obj} {vs : Array Value} (e : h.get? p = some oe) (z : Zc (.ref (He.ga K c)) d oe) (v : oe.data = .fields vs) : ObjOk P w H h p (ExT K c d p) :=
  ⟨⟨oe, vs, e, z, v⟩, ⟨_, e⟩, fun h1 h2 q k => by
    obtain ⟨o, ws, a, b, c⟩ := q
    exact ⟨o, ws, k _ a, b, c⟩⟩
theorem exT_at {K : PySem.W.Frag} {P : Program} {w : World} {H : Hp} {h : Heap} {c : Str} {d : Option Addr} {p q : Addr} (hok : HOk P w H h) (he : H q = some (ExT K c d p)) : ∃ oe vs, h.get? p = some oe ∧ Zc (.ref (He.ga K c)) d oe ∧ oe.data = .fields vs := by
  have x : ObjOk P w H h q (.ext fun h => ∃ oe vs, h.get? p = some oe ∧ Zc (.ref (He.ga K c)) d oe ∧ oe.data = .fields vs) := hok q _ he
  exact x.1
/-- the names of classes that an except clause or isinstance may name -/
def excNms : List Str := ["RingError", "LastPlace", "OutOfRange", "TooManyEdits", "NothingToUndo", "BadEdits", "NotDistinct", "TooLong", "BadRing", "BadHeight", "BadTolerance", "BadTurns", "Restless", "BadEdit", "Rejected", "BadText", "NoIndex", "NoPlace", "NoVersion", "ValueError", "LookupError"]
/-- y's class is there by that name -/
def excKn (K : PySem.W.Frag) (y : Str) : Bool := excBlt y || He.eqO (PySem.W.nsIn K mainGlobals y) (some (some (.ref (He.ga K y))))
/-- what the written part says of a class of errors -/
structure ClsF (K : PySem.W.Frag) (c : Str) : Prop where
  exc : ExcC K (He.ga K c)
  kit : ∀ y ∈ excNms, excKn K y = true → PySem.W.kitOne K (.ref (He.ga K c)) (excV K y) = some (excSub c y)
  exm : ∀ y ∈ excNms, excKn K y = true → PySem.W.exmOne K (.ref (He.ga K c)) (excV K y) = some (excSub c y)
abbrev NoF (K : PySem.W.Frag) (c f : Str) : Prop := PySem.W.findIn K (.ref (He.ga K c)) f = some none

mutual
inductive Rep (K : PySem.W.Frag) (H : Hp) (A : Addr → Prop) (ha : HA) : V → D → Prop
  | non : Rep K H A ha .non .non
  | bl (b : Bool) : Rep K H A ha (.bl b) (.bl b)
  | int (i : Int) : Rep K H A ha (.int i) (.int i)
  | str (x : Str) : Rep K H A ha (.str x) (.str x)
  | tup {p : Addr} {vs : List V} {xs : List D} : SqT K H p vs → vs.length ≤ sizeLine → Reps K H A ha vs xs → Rep K H A ha (.ref p) (.tup xs)
  | lst {p : Addr} {vs : List V} {xs : List D} : H p = some (.lst vs) → ¬ A p → vs.length ≤ sizeLine → Reps K H A ha vs xs → Rep K H A ha (.ref p) (.lst xs)
  | dic {p : Addr} {vs : List (Key × V)} {xs : List (Key × D)} : H p = some (.dK vs) → ¬ A p → vs.length ≤ sizeLine → Repk K H A ha vs xs → Rep K H A ha (.ref p) (.dic xs)
  | hnd {p : Addr} {i : Nat} : ha.l[i]? = some p → Rep K H A ha (.ref p) (.hnd i)
  | scr {p : Addr} {ns : List Int} : SqS K H A p (ns.map V.int) → ns.length ≤ CAP → Rep K H A ha (.ref p) (.scr ns)
  | xc0 {p : Addr} {c : Str} : H p = some (ExT K c none p) → ¬ A p → ClsF K c → Rep K H A ha (.ref p) (.xcp c "" .non)
  | xc1 {p dd : Addr} {c f : Str} {v : V} {x : D} : H p = some (ExT K c (some dd) p) → ¬ A p → H dd = some (.xd [(f, v)]) → ¬ A dd → Rep K H A ha v x → ClsF K c → NoF K c f → Rep K H A ha (.ref p) (.xcp c f x)
inductive Reps (K : PySem.W.Frag) (H : Hp) (A : Addr → Prop) (ha : HA) : List V → List D → Prop
  | nil : Reps K H A ha [] []
  | cons {v : V} {vs : List V} {d : D} {ds : List D} : Rep K H A ha v d → Reps K H A ha vs ds → Reps K H A ha (v :: vs) (d :: ds)
inductive Repk (K : PySem.W.Frag) (H : Hp) (A : Addr → Prop) (ha : HA) : List (Key × V) → List (Key × D) → Prop
  | nil : Repk K H A ha [] []
  | cons {k : Key} {v : V} {vs : List (Key × V)} {d : D} {ds : List (Key × D)} : Rep K H A ha v d → Repk K H A ha vs ds → Repk K H A ha ((k, v) :: vs) ((k, d) :: ds)
end

def ObjR (K : PySem.W.Frag) (H : Hp) (A : Addr → Prop) (ha : HA) (p : Addr) : HObj → Prop
  | .ml xs => ∃ vs, H p = some (.lst vs) ∧ vs.length ≤ sizeLine ∧ Reps K H A ha vs xs
  | .fz xs => ∃ vs, H p = some (.lst vs) ∧ vs.length ≤ sizeLine ∧ Reps K H A ha vs xs
  | .md xs => ∃ vs, H p = some (.dK vs) ∧ vs.length ≤ sizeLine ∧ Repk K H A ha vs xs
  | .gone => ∃ o, H p = some o
structure SRel (K : PySem.W.Frag) (H : Hp) (ha : HA) (s : S) : Prop where
  len : ha.l.length = s.length
  nd : ha.l.Nodup
  obj : ∀ (i : Nat) (o : HObj), s[i]? = some o → ∃ p, ha.l[i]? = some p ∧ ObjR K H (Av ha s) ha p o
  low : ∀ (i : Nat) (o : HObj), s[i]? = some o → o.blw i = true
  trk : ∀ p, ha.b p → ∃ o, H p = some o
  dis : ∀ p, ha.b p → p ∉ ha.l
  tab : TabK K H
/-- what bears data there bears it here -/
structure Tr (K : PySem.W.Frag) (H : Hp) (A : Addr → Prop) (ha : HA) (H' : Hp) (A' : Addr → Prop) (ha' : HA) : Prop where
  sqt : ∀ p vs, SqT K H p vs → SqT K H' p vs
  frz : ∀ p o, H p = some o → (∀ ps, o ≠ .tbl ps) → ¬ A p → H' p = some o ∧ ¬ A' p
  at' : ∀ (i : Nat) (p : Addr), ha.l[i]? = some p → ha'.l[i]? = some p
section
variable {K : PySem.W.Frag} {H H' : Hp} {A A' : Addr → Prop} {ha ha' : HA}
theorem Tr.sqs (x : Tr K H A ha H' A' ha') {p : Addr} {vs : List V} (h : SqS K H A p vs) : SqS K H' A' p vs := by
  rcases h with ⟨h | ⟨o, h⟩, n⟩ | h
  · obtain ⟨a, b⟩ := x.frz _ _ h (fun _ z => by cases z) n
    exact .inl ⟨.inl a, b⟩
  · obtain ⟨a, b⟩ := x.frz _ _ h (fun _ z => by cases z) n
    exact .inl ⟨.inr ⟨o, a⟩, b⟩
  · exact .inr h
mutual
theorem Rep.tr (x : Tr K H A ha H' A' ha') : ∀ (d : D) (v : V), Rep K H A ha v d → Rep K H' A' ha' v d
  | .non, _, h => by cases h; exact .non
  | .bl b, _, h => by cases h; exact .bl b
  | .int i, _, h => by cases h; exact .int i
  | .str y, _, h => by cases h; exact .str y
  | .tup xs, _, h => by
    cases h with
    | tup h1 h2 h3 => exact .tup (x.sqt _ _ h1) h2 (Reps.tr x xs _ h3)
  | .lst xs, _, h => by
    cases h with
    | lst h1 h2 h3 h4 =>
      obtain ⟨a, b⟩ := x.frz _ _ h1 (fun _ z => by cases z) h2
      exact .lst a b h3 (Reps.tr x xs _ h4)
  | .dic xs, _, h => by
    cases h with
    | dic h1 h2 h3 h4 =>
      obtain ⟨a, b⟩ := x.frz _ _ h1 (fun _ z => by cases z) h2
      exact .dic a b h3 (Repk.tr x xs _ h4)
  | .hnd i, _, h => by
    cases h with
    | hnd h1 => exact .hnd (x.at' _ _ h1)
  | .scr ns, _, h => by
    cases h with
    | scr h1 h2 => exact .scr (x.sqs h1) h2
  | .xcp c f y, _, h => by
    cases h with
    | xc0 h1 h2 h3 =>
      obtain ⟨a, b⟩ := x.frz _ _ h1 (fun _ z => by cases z) h2
      exact .xc0 a b h3
    | xc1 h1 h2 h3 h4 h5 h6 h7 =>
      obtain ⟨a, b⟩ := x.frz _ _ h1 (fun _ z => by cases z) h2
      obtain ⟨a', b'⟩ := x.frz _ _ h3 (fun _ z => by cases z) h4
      exact .xc1 a b a' b' (Rep.tr x y _ h5) h6 h7
theorem Reps.tr (x : Tr K H A ha H' A' ha') : ∀ (ds : List D) (vs : List V), Reps K H A ha vs ds → Reps K H' A' ha' vs ds
  | [], _, h => by cases h; exact .nil
  | d :: ds, _, h => by
    cases h with
    | cons h1 h2 => exact .cons (Rep.tr x d _ h1) (Reps.tr x ds _ h2)
theorem Repk.tr (x : Tr K H A ha H' A' ha') : ∀ (ds : List (Key × D)) (vs : List (Key × V)), Repk K H A ha vs ds → Repk K H' A' ha' vs ds
  | [], _, h => by cases h; exact .nil
  | (k, d) :: ds, _, h => by
    cases h with
    | cons h1 h2 => exact .cons (Rep.tr x d _ h1) (Repk.tr x ds _ h2)
end
theorem ObjR.tr (x : Tr K H A ha H' A' ha') {p : Addr} {o : HObj} (k : ∀ u, H p = some u → H' p = some u) (h : ObjR K H A ha p o) : ObjR K H' A' ha' p o := by
  cases o with
  | ml xs => obtain ⟨vs, a, b, c⟩ := h; exact ⟨vs, k _ a, b, Reps.tr x xs vs c⟩
  | fz xs => obtain ⟨vs, a, b, c⟩ := h; exact ⟨vs, k _ a, b, Reps.tr x xs vs c⟩
  | md xs => obtain ⟨vs, a, b, c⟩ := h; exact ⟨vs, k _ a, b, Repk.tr x xs vs c⟩
  | gone => obtain ⟨o, e⟩ := h; exact ⟨o, k o e⟩
end
/-- what a run leaves as it was -/
structure Ext (ha : HA) (s : S) (H : Hp) (ha' : HA) (s' : S) (H' : Hp) : Prop where
  pre : ∃ t, ha'.l = ha.l ++ t
  bb : ha'.b = ha.b
  keep : ∀ p o, H p = some o → (∀ ps, o ≠ .tbl ps) → ¬ Hv ha s p → H' p = some o
  new : ∀ q, Hv ha' s' q → Hv ha s q ∨ H q = none
  dom : ∀ p o, H p = some o → ∃ o', H' p = some o'
/-- .. and addresses may come to be avoided -/
structure Ext0 (ha : HA) (s : S) (H : Hp) (ha' : HA) (s' : S) (H' : Hp) : Prop where
  pre : ∃ t, ha'.l = ha.l ++ t
  bb : ∀ q, ha'.b q → ha.b q ∨ H q = none
  keep : ∀ p o, H p = some o → (∀ ps, o ≠ .tbl ps) → ¬ Hv ha s p → H' p = some o
  new : ∀ q, Hv ha' s' q → Hv ha s q ∨ H q = none
  dom : ∀ p o, H p = some o → ∃ o', H' p = some o'
theorem Ext.x0 {ha ha' : HA} {s s' : S} {H H' : Hp} (x : Ext ha s H ha' s' H') : Ext0 ha s H ha' s' H' := ⟨x.pre, fun q h => .inl (by rw [x.bb] at h; exact h), x.keep, x.new, x.dom⟩
theorem Ext.refl {ha : HA} {s : S} {H : Hp} : Ext ha s H ha s H := ⟨⟨[], by simp⟩, rfl, fun _ _ h _ _ => h, fun _ h => .inl h, fun _ o h => ⟨o, h⟩⟩
theorem Ext0.trans {ha ha1 ha2 : HA} {s s1 s2 : S} {H H1 H2 : Hp} (a : Ext0 ha s H ha1 s1 H1) (b : Ext0 ha1 s1 H1 ha2 s2 H2) : Ext0 ha s H ha2 s2 H2 := by
  obtain ⟨t, et⟩ := a.pre
  obtain ⟨u, eu⟩ := b.pre
  have back : ∀ q, H1 q = none → H q = none := fun q z => by
    cases e : H q with
    | none => rfl
    | some o =>
      obtain ⟨o', e'⟩ := a.dom q o e
      rw [z] at e'; cases e'
  refine ⟨⟨t ++ u, by rw [eu, et, List.append_assoc]⟩, fun q h => ?_, fun p o h nt n => ?_, fun q h => ?_, fun p o h => ?_⟩
  · rcases b.bb q h with z | z
    · exact a.bb q z
    · exact .inr (back q z)
  · refine b.keep p o (a.keep p o h nt n) nt fun z => ?_
    rcases a.new p z with z | z
    · exact n z
    · rw [z] at h; cases h
  · rcases b.new q h with z | z
    · exact a.new q z
    · exact .inr (back q z)
  · obtain ⟨o', h'⟩ := a.dom p o h
    exact b.dom p o' h'
theorem Ext.trans {ha ha1 ha2 : HA} {s s1 s2 : S} {H H1 H2 : Hp} (a : Ext ha s H ha1 s1 H1) (b : Ext ha1 s1 H1 ha2 s2 H2) : Ext ha s H ha2 s2 H2 :=
  let z := Ext0.trans a.x0 b.x0
  ⟨z.pre, b.bb.trans a.bb, z.keep, z.new, z.dom⟩
section
variable {K : PySem.W.Frag} {H H' : Hp} {ha ha' : HA} {s s' : S}
/-- an object that may change is a list or a dict -/
theorem SRel.kind (r : SRel K H ha s) {p : Addr} (h : Hv ha s p) : (∃ vs, H p = some (.lst vs)) ∨ ∃ vs, H p = some (.dK vs) := by
  obtain ⟨i, o, h1, h2, h3⟩ := h
  obtain ⟨q, h4, h5⟩ := r.obj i o h2
  rw [h1] at h4
  cases h4
  cases o with
  | ml xs => obtain ⟨vs, e, _⟩ := h5; exact .inl ⟨vs, e⟩
  | fz xs => cases h3
  | md xs => obtain ⟨vs, e, _⟩ := h5; exact .inr ⟨vs, e⟩
  | gone => cases h3
theorem Ext0.sqt (x : Ext0 ha s H ha' s' H') (r : SRel K H ha s) {p : Addr} {vs : List V} (h : SqT K H p vs) : SqT K H' p vs := by
  have na : ∀ o, H p = some o → (∀ vs, o ≠ .lst vs) → (∀ vs, o ≠ .dK vs) → (∀ ps, o ≠ .tbl ps) → H' p = some o := fun o e n1 n2 n3 => x.keep p o e n3 fun z => by
    rcases r.kind z with ⟨vs, q⟩ | ⟨vs, q⟩
    · rw [e] at q; exact n1 vs (Option.some.inj q)
    · rw [e] at q; exact n2 vs (Option.some.inj q)
  rcases h with (h | ⟨o, h⟩) | h
  · exact .inl (.inl (na _ h (fun _ z => by cases z) (fun _ z => by cases z) (fun _ z => by cases z)))
  · exact .inl (.inr ⟨o, na _ h (fun _ z => by cases z) (fun _ z => by cases z) (fun _ z => by cases z)⟩)
  · exact .inr h
theorem Ext0.frz (x : Ext0 ha s H ha' s' H') {p : Addr} {o : HO} (h : H p = some o) (nt : ∀ ps, o ≠ .tbl ps) (n : ¬ Av ha s p) : H' p = some o ∧ ¬ Av ha' s' p := by
  refine ⟨x.keep _ _ h nt fun z => n (.inr z), fun z => ?_⟩
  rcases z with z | z
  · rcases x.bb _ z with z | z
    · exact n (.inl z)
    · rw [h] at z; cases z
  · rcases x.new _ z with z | z
    · exact n (.inr z)
    · rw [h] at z; cases z
theorem Ext0.sqs (x : Ext0 ha s H ha' s' H') (r : SRel K H ha s) {p : Addr} {vs : List V} (h : SqS K H (Av ha s) p vs) : SqS K H' (Av ha' s') p vs := by
  rcases h with ⟨h | ⟨o, h⟩, n⟩ | h
  · obtain ⟨a, b⟩ := x.frz h (fun _ z => by cases z) n
    exact .inl ⟨.inl a, b⟩
  · obtain ⟨a, b⟩ := x.frz h (fun _ z => by cases z) n
    exact .inl ⟨.inr ⟨o, a⟩, b⟩
  · exact .inr h
theorem Ext0.at (x : Ext0 ha s H ha' s' H') {i : Nat} {p : Addr} (h : ha.l[i]? = some p) : ha'.l[i]? = some p := by
  obtain ⟨t, e⟩ := x.pre
  rw [e, List.getElem?_append_left (List.getElem?_eq_some_iff.mp h).1]
  exact h
theorem Ext0.tr (x : Ext0 ha s H ha' s' H') (r : SRel K H ha s) : Tr K H (Av ha s) ha H' (Av ha' s') ha' := ⟨fun _ _ h => x.sqt r h, fun _ _ h nt n => x.frz h nt n, fun _ _ h => x.at h⟩
theorem Rep.ext0 (x : Ext0 ha s H ha' s' H') (r : SRel K H ha s) (d : D) (v : V) (h : Rep K H (Av ha s) ha v d) : Rep K H' (Av ha' s') ha' v d := Rep.tr (x.tr r) d v h
theorem Reps.ext0 (x : Ext0 ha s H ha' s' H') (r : SRel K H ha s) (d : List D) (v : List V) (h : Reps K H (Av ha s) ha v d) : Reps K H' (Av ha' s') ha' v d := Reps.tr (x.tr r) d v h
theorem Repk.ext0 (x : Ext0 ha s H ha' s' H') (r : SRel K H ha s) (d : List (Key × D)) (v : List (Key × V)) (h : Repk K H (Av ha s) ha v d) : Repk K H' (Av ha' s') ha' v d := Repk.tr (x.tr r) d v h
end

section
variable {K : PySem.W.Frag} {H H' : Hp} {ha ha' : HA} {s s' : S}
theorem Rep.ext (x : Ext ha s H ha' s' H') (r : SRel K H ha s) (d : D) (v : V) (h : Rep K H (Av ha s) ha v d) : Rep K H' (Av ha' s') ha' v d := Rep.ext0 x.x0 r d v h
theorem Reps.ext (x : Ext ha s H ha' s' H') (r : SRel K H ha s) (d : List D) (v : List V) (h : Reps K H (Av ha s) ha v d) : Reps K H' (Av ha' s') ha' v d := Reps.ext0 x.x0 r d v h
theorem Repk.ext (x : Ext ha s H ha' s' H') (r : SRel K H ha s) (d : List (Key × D)) (v : List (Key × V)) (h : Repk K H (Av ha s) ha v d) : Repk K H' (Av ha' s') ha' v d := Repk.ext0 x.x0 r d v h
theorem Ext.at (x : Ext ha s H ha' s' H') {i : Nat} {p : Addr} (h : ha.l[i]? = some p) : ha'.l[i]? = some p := x.x0.at h
theorem Ext.frz (x : Ext ha s H ha' s' H') {p : Addr} {o : HO} (h : H p = some o) (nt : ∀ ps, o ≠ .tbl ps) (n : ¬ Av ha s p) : H' p = some o ∧ ¬ Av ha' s' p := x.x0.frz h nt n
end
/- a value that is borne names objects that are there -/
mutual
theorem Rep.low {K : PySem.W.Frag} {H : Hp} {A : Addr → Prop} {ha : HA} : ∀ (d : D) (v : V), Rep K H A ha v d → d.blw ha.l.length = true
  | .non, _, _ => rfl
  | .bl _, _, _ => rfl
  | .int _, _, _ => rfl
  | .str _, _, _ => rfl
  | .tup xs, _, h => by
    cases h with
    | tup h1 h2 h3 => exact Reps.low xs _ h3
  | .lst xs, _, h => by
    cases h with
    | lst h1 h2 h3 h4 => exact Reps.low xs _ h4
  | .dic xs, _, h => by
    cases h with
    | dic h1 h2 h3 h4 => exact Repk.low xs _ h4
  | .hnd i, _, h => by
    cases h with
    | hnd h1 => exact decide_eq_true (List.getElem?_eq_some_iff.mp h1).1
  | .scr _, _, _ => rfl
  | .xcp c f y, _, h => by
    cases h with
    | xc0 h1 h2 h3 => rfl
    | xc1 h1 h2 h3 h4 h5 h6 h7 => exact Rep.low y _ h5
theorem Reps.low {K : PySem.W.Frag} {H : Hp} {A : Addr → Prop} {ha : HA} : ∀ (ds : List D) (vs : List V), Reps K H A ha vs ds → blws ha.l.length ds = true
  | [], _, _ => rfl
  | d :: ds, _, h => by
    cases h with
    | cons h1 h2 => exact Bool.and_eq_true_iff.mpr ⟨Rep.low d _ h1, Reps.low ds _ h2⟩
theorem Repk.low {K : PySem.W.Frag} {H : Hp} {A : Addr → Prop} {ha : HA} : ∀ (ds : List (Key × D)) (vs : List (Key × V)), Repk K H A ha vs ds → blwkv ha.l.length ds = true
  | [], _, _ => rfl
  | (k, d) :: ds, _, h => by
    cases h with
    | cons h1 h2 => exact Bool.and_eq_true_iff.mpr ⟨Rep.low d _ h1, Repk.low ds _ h2⟩
end
/-! ### lists of data -/
section
variable {K : PySem.W.Frag} {H : Hp} {A : Addr → Prop} {ha : HA}
theorem Reps.length : ∀ {vs : List V} {xs : List D}, Reps K H A ha vs xs → vs.length = xs.length
  | _, [], h => by cases h; rfl
  | _, _ :: _, h => by
    cases h with
    | cons _ t => simp [Reps.length t]
theorem Reps.get : ∀ {vs : List V} {xs : List D} {i : Nat} {d : D}, Reps K H A ha vs xs → xs[i]? = some d → ∃ v, vs[i]? = some v ∧ Rep K H A ha v d
  | _, [], _, _, _, e => by simp at e
  | _, _ :: _, 0, _, .cons h _, e => by simp at e; subst e; exact ⟨_, rfl, h⟩
  | _, _ :: _, i + 1, d, .cons _ t, e => by
    obtain ⟨v, h1, h2⟩ := Reps.get (i := i) (d := d) t (by simpa using e)
    exact ⟨v, by simpa using h1, h2⟩
theorem Reps.append : ∀ {vs ws : List V} {xs ys : List D}, Reps K H A ha vs xs → Reps K H A ha ws ys → Reps K H A ha (vs ++ ws) (xs ++ ys)
  | [], _, [], _, _, t => t
  | _ :: _, _, _ :: _, _, .cons h t, u => .cons h (Reps.append t u)
theorem Reps.take (n : Nat) : ∀ {vs : List V} {xs : List D}, Reps K H A ha vs xs → Reps K H A ha (vs.take n) (xs.take n)
  | [], [], _ => by simp; exact .nil
  | _ :: _, _ :: _, .cons h t => by
    cases n with
    | zero => exact .nil
    | succ n => exact .cons h (Reps.take n t)
theorem Reps.drop (n : Nat) : ∀ {vs : List V} {xs : List D}, Reps K H A ha vs xs → Reps K H A ha (vs.drop n) (xs.drop n)
  | [], [], _ => by simp; exact .nil
  | _ :: _, _ :: _, .cons h t => by
    cases n with
    | zero => exact .cons h t
    | succ n => exact Reps.drop n t
theorem Reps.set {v : V} {d : D} (r : Rep K H A ha v d) (n : Nat) : ∀ {vs : List V} {xs : List D}, Reps K H A ha vs xs → Reps K H A ha (vs.set n v) (xs.set n d)
  | [], [], _ => .nil
  | _ :: _, _ :: _, .cons h t => by
    cases n with
    | zero => exact .cons r t
    | succ n => exact .cons h (Reps.set r n t)
theorem Reps.reverse : ∀ {vs : List V} {xs : List D}, Reps K H A ha vs xs → Reps K H A ha vs.reverse xs.reverse
  | [], [], _ => .nil
  | _ :: _, _ :: _, .cons h t => by
    rw [List.reverse_cons, List.reverse_cons]
    exact (Reps.reverse t).append (.cons h .nil)
theorem Reps.rep {vs : List V} {xs : List D} (h : Reps K H A ha vs xs) : ∀ n : Nat, Reps K H A ha (List.replicate n vs).flatten (List.replicate n xs).flatten
  | 0 => .nil
  | n + 1 => by
    rw [List.replicate_succ, List.replicate_succ, List.flatten_cons, List.flatten_cons]
    exact h.append (Reps.rep h n)
theorem Reps.ints : ∀ {vs : List V} {xs : List D} {ns : List Int}, Reps K H A ha vs xs → intsOf xs = some ns → vs = ns.map V.int
  | _, [], ns, h, e => by
    cases h
    cases e
    rfl
  | _, .int i :: r, ns, .cons h t, e => by
    cases h
    have e' : (intsOf r).map (i :: ·) = some ns := e
    cases q : intsOf r with
    | none => rw [q] at e'; cases e'
    | some ms =>
      rw [q] at e'
      cases e'
      rw [Reps.ints t q]
      rfl
  | _, .non :: _, _, _, e => by cases e
  | _, .bl _ :: _, _, _, e => by cases e
  | _, .str _ :: _, _, _, e => by cases e
  | _, .tup _ :: _, _, _, e => by cases e
  | _, .lst _ :: _, _, _, e => by cases e
  | _, .dic _ :: _, _, _, e => by cases e
  | _, .hnd _ :: _, _, _, e => by cases e
  | _, .scr _ :: _, _, _, e => by cases e
  | _, .xcp _ _ _ :: _, _, _, e => by cases e
theorem Reps.bools : ∀ {vs : List V} {xs : List D} {ns : List Bool}, Reps K H A ha vs xs → boolsOf xs = some ns → vs = ns.map V.bl
  | _, [], ns, h, e => by
    cases h
    cases e
    rfl
  | _, .bl i :: r, ns, .cons h t, e => by
    cases h
    have e' : (boolsOf r).map (i :: ·) = some ns := e
    cases q : boolsOf r with
    | none => rw [q] at e'; cases e'
    | some ms =>
      rw [q] at e'
      cases e'
      rw [Reps.bools t q]
      rfl
  | _, .non :: _, _, _, e => by cases e
  | _, .int _ :: _, _, _, e => by cases e
  | _, .str _ :: _, _, _, e => by cases e
  | _, .tup _ :: _, _, _, e => by cases e
  | _, .lst _ :: _, _, _, e => by cases e
  | _, .dic _ :: _, _, _, e => by cases e
  | _, .hnd _ :: _, _, _, e => by cases e
  | _, .scr _ :: _, _, _, e => by cases e
  | _, .xcp _ _ _ :: _, _, _, e => by cases e
theorem Reps.of_ints : ∀ ns : List Int, Reps K H A ha (ns.map V.int) (ns.map D.int)
  | [] => .nil
  | n :: ns => .cons (.int n) (Reps.of_ints ns)
end
theorem Av.at {ha : HA} {s : S} {i : Nat} {o : HObj} {p : Addr} (h1 : ha.l[i]? = some p) (h2 : s[i]? = some o) (h3 : o.mt = true) : Hv ha s p := ⟨i, o, h1, h2, h3⟩
/-- the items of a value that is a list -/
theorem lst_at {K : PySem.W.Frag} {H : Hp} {ha : HA} {s : S} (r : SRel K H ha s) {v : V} {d : D} {xs : List D} (h : Rep K H (Av ha s) ha v d) (e : lstOf s d = some xs) :
    ∃ p vs, v = .ref p ∧ H p = some (.lst vs) ∧ vs.length ≤ sizeLine ∧ Reps K H (Av ha s) ha vs xs := by
  cases h with
  | lst h1 h2 h3 h4 => cases e; exact ⟨_, _, rfl, h1, h3, h4⟩
  | @hnd p i h1 =>
    rw [show lstOf s (.hnd i) = (match s[i]? with | some (.ml xs) => some xs | some (.fz xs) => some xs | _ => none) from rfl] at e
    cases q : s[i]? with
    | none => rw [q] at e; cases e
    | some o =>
      obtain ⟨p', h2, h3⟩ := r.obj i o q
      rw [h1] at h2
      cases h2
      cases o with
      | ml ys => rw [q] at e; cases e; obtain ⟨vs, a, b, c⟩ := h3; exact ⟨_, vs, rfl, a, b, c⟩
      | fz ys => rw [q] at e; cases e; obtain ⟨vs, a, b, c⟩ := h3; exact ⟨_, vs, rfl, a, b, c⟩
      | md ys => rw [q] at e; cases e
      | gone => rw [q] at e; cases e
  | _ => cases e
theorem seq_at {K : PySem.W.Frag} {H : Hp} {ha : HA} {s : S} (r : SRel K H ha s) {v : V} {d : D} {xs : List D} (h : Rep K H (Av ha s) ha v d) (e : seqOf s d = some xs) :
    ∃ p vs, v = .ref p ∧ (H p = some (.lst vs) ∨ SqT K H p vs) ∧ vs.length ≤ sizeLine ∧ Reps K H (Av ha s) ha vs xs := by
  cases h with
  | tup h1 h2 h3 => cases e; exact ⟨_, _, rfl, .inr h1, h2, h3⟩
  | lst h1 h2 h3 h4 => cases e; exact ⟨_, _, rfl, .inl h1, h3, h4⟩
  | @hnd p i h1 =>
    obtain ⟨p', vs, e1, h2, h3, h4⟩ := lst_at r (.hnd h1) (show lstOf s (.hnd i) = some xs from e)
    exact ⟨p', vs, e1, .inl h2, h3, h4⟩
  | _ => cases e
end RS

set_option Elab.async false
set_option linter.all false
set_option maxRecDepth 100000
/-! the judgements -/
namespace RS
open PySem PySem.Spec L2
open PyProof.Rows hiding St

structure ERel (K : PySem.W.Frag) (H : Hp) (A : Addr → Prop) (ha : HA) (σ : St) (ρ : Env) : Prop where
  len : σ.length = ρ.length
  get : ∀ (i : Nat) (d : D), ρ[i]? = some (some d) → ∃ v, σ[i]? = some (some v) ∧ Rep K H A ha v d
theorem ERel.ext {K : PySem.W.Frag} {H H' : Hp} {ha ha' : HA} {s s' : S} {σ : St} {ρ : Env} (e : ERel K H (Av ha s) ha σ ρ) (x : Ext ha s H ha' s' H') (r : SRel K H ha s) : ERel K H' (Av ha' s') ha' σ ρ :=
  ⟨e.len, fun i d h => by
    obtain ⟨v, h1, h2⟩ := e.get i d h
    exact ⟨v, h1, Rep.ext x r d v h2⟩⟩

def RP {α : Type} (x : R α) (Φ : α → S → Prop) (Ψ : Str → List (Str × D) → Env → S → Prop) : Prop := match x with
  | .ok a s => Φ a s
  | .exc c fs ρ s => Ψ c fs ρ s
  | .bad => False
theorem RP.mono {α : Type} {x : R α} {Φ Φ' : α → S → Prop} {Ψ Ψ' : Str → List (Str × D) → Env → S → Prop} (h : RP x Φ Ψ) (h1 : ∀ a s, Φ a s → Φ' a s) (h2 : ∀ c fs ρ s, Ψ c fs ρ s → Ψ' c fs ρ s) : RP x Φ' Ψ' := by
  cases x with
  | ok a s => exact h1 a s h
  | exc c fs ρ s => exact h2 c fs ρ s h
  | bad => exact h
theorem RP.bindI {α β : Type} {x : R α} {f : α → S → R β} {Φ : β → S → Prop} {Ψ : Str → List (Str × D) → Env → S → Prop} (h : RP (x.bind f) Φ Ψ) : RP x (fun a s => RP (f a s) Φ Ψ) Ψ := by
  cases x with
  | ok a s => exact h
  | exc c fs ρ s => exact h
  | bad => exact h

/-- an exception's class and own dict -/
def ExR (mg : Str → Option Value) (K : PySem.W.Frag) (H : Hp) (A : Addr → Prop) (ha : HA) (c : Str) (fs : List (Str × D)) (cls : Value) (d : Option Addr) : Prop :=
  cls = .ref (He.ga K c) ∧ ClsF K c ∧ ((fs = [] ∧ d = none) ∨ ∃ f x dd v, fs = [(f, x)] ∧ d = some dd ∧ H dd = some (.xd [(f, v)]) ∧ ¬ A dd ∧ Rep K H A ha v x ∧ NoF K c f)
def ExP (X : Cx) (W : WX) (σ : St) (ha : HA) (s : S) (H : Hp) (c : Str) (fs : List (Str × D)) (ρ : Env) (s' : S) : Prop :=
  ∀ H' ha' cls d, SRel X.K H' ha' s' → Ext ha s H ha' s' H' → ERel X.K H' (Av ha' s') ha' σ ρ → ExR X.mg X.K H' (Av ha' s') ha' c fs cls d → W cls d σ H'
abbrev Rl (α β : Type) := Hp → (Addr → Prop) → HA → β → α → Prop
def PtG {α β : Type} (G : Rl α β) (X : Cx) (W : WX) (σ : St) (Q : β → Hp → Prop) (ha : HA) (s : S) (H : Hp) (x : R α) : Prop :=
  RP x (fun d s' => ∀ v H' ha', SRel X.K H' ha' s' → Ext ha s H ha' s' H' → G H' (Av ha' s') ha' v d → Q v H') (ExP X W σ ha s H)
def tG {α β : Type} (G : Rl α β) (X : Cx) (W : WX) (m : Env → S → R α) : St → Hp → (β → Hp → Prop) → Prop := fun σ H Q =>
  ∃ ha ρ s, SRel X.K H ha s ∧ ERel X.K H (Av ha s) ha σ ρ ∧ PtG G X W σ Q ha s H (m ρ s)
theorem PtG.ext {α β : Type} {G : Rl α β} {X : Cx} {W : WX} {σ : St} {Q : β → Hp → Prop} {ha ha1 : HA} {s s1 : S} {H H1 : Hp} {x : R α} (h : PtG G X W σ Q ha s H x) (e : Ext ha s H ha1 s1 H1) : PtG G X W σ Q ha1 s1 H1 x :=
  RP.mono h (fun _ _ q v H' ha' r z g => q v H' ha' r (e.trans z) g) (fun _ _ _ _ q H' ha' cls d r z => q H' ha' cls d r (e.trans z))
/-- one after the other -/
theorem PtG.bind {α β γ δ : Type} {G : Rl α β} {G' : Rl γ δ} {X : Cx} {W : WX} {σ : St} {Q : δ → Hp → Prop} {k : β → Hp → Prop} {ha : HA} {s : S} {H : Hp} {x : R α} {f : α → S → R γ}
    (h : PtG G' X W σ Q ha s H (x.bind f))
    (hk : ∀ a s1 v H1 ha1, SRel X.K H1 ha1 s1 → Ext ha s H ha1 s1 H1 → G H1 (Av ha1 s1) ha1 v a → PtG G' X W σ Q ha1 s1 H1 (f a s1) → k v H1) : PtG G X W σ k ha s H x :=
  RP.mono (RP.bindI h) (fun a s1 q v H1 ha1 r e g => hk a s1 v H1 ha1 r e g (PtG.ext (H := H) (ha := ha) (s := s) q e)) (fun _ _ _ _ q => q)
theorem PtG.ok {α β : Type} {G : Rl α β} {X : Cx} {W : WX} {σ : St} {Q : β → Hp → Prop} {ha : HA} {s : S} {H : Hp} {a : α} {v : β} (h : PtG G X W σ Q ha s H (.ok a s)) (r : SRel X.K H ha s) (g : G H (Av ha s) ha v a) : Q v H :=
  h v H ha r Ext.refl g

abbrev gE (K : PySem.W.Frag) : Rl D V := fun H A ha v d => Rep K H A ha v d
abbrev gA (K : PySem.W.Frag) : Rl (List D) (List V) := fun H A ha v d => Reps K H A ha v d
abbrev gB : Rl Bool Bool := fun _ _ _ b c => b = c
abbrev gO : Rl (Option Int) (Option Int) := fun _ _ _ b c => b = c
abbrev tM (X : Cx) (W : WX) (m : Env → S → R D) : TE := tG (gE X.K) X W m
abbrev tMT (X : Cx) (W : WX) (m : Env → S → R Bool) : TT := tG gB X W m
abbrev tMA (X : Cx) (W : WX) (m : Env → S → R (List D)) : TA := tG (gA X.K) X W m
abbrev tMO (X : Cx) (W : WX) (m : Env → S → R (Option Int)) : TO := tG gO X W m

theorem PE.imp {X : Cx} {e : Expr} {t t' : TE} (h : PE X e t) (i : ∀ σ H Q, t' σ H Q → t σ H Q) : PE X e t' := ⟨fun pins s σ H Q I q => h.run pins s σ H Q I (i σ H Q q)⟩
theorem PT.imp {X : Cx} {e : Expr} {t t' : TT} (h : PT X e t) (i : ∀ σ H Q, t' σ H Q → t σ H Q) : PT X e t' := ⟨fun pins s σ H Q I q => h.run pins s σ H Q I (i σ H Q q)⟩
theorem PW.imp {X : Cx} {e : Expr} {t t' : TT} (h : PW X e t) (i : ∀ σ H Q, t' σ H Q → t σ H Q) : PW X e t' := ⟨fun wh pins s σ H Q I q => h.run wh pins s σ H Q I (i σ H Q q)⟩
theorem PA.imp {X : Cx} {e : List Expr} {t t' : TA} (h : PA X e t) (i : ∀ σ H Q, t' σ H Q → t σ H Q) : PA X e t' := ⟨fun pos pins s σ H Q I q => h.run pos pins s σ H Q I (i σ H Q q)⟩
theorem PS.imp {X : Cx} {e : Stmt} {t t' : TS} (h : PS X e t) (i : ∀ D σ H, t' D σ H → t D σ H) : PS X e t' := ⟨fun pins s σ H D I q => h.run pins s σ H D I (i D σ H q)⟩
theorem PSs.imp {X : Cx} {e : List Stmt} {t t' : TS} (h : PSs X e t) (i : ∀ D σ H, t' D σ H → t D σ H) : PSs X e t' := ⟨fun pins s σ H D I q => h.run pins s σ H D I (i D σ H q)⟩

/-! ### a new object that stands still -/
theorem SRel.free {K : PySem.W.Frag} {H : Hp} {ha : HA} {s : S} (r : SRel K H ha s) {p : Addr} (h : H p = none) : ¬ Hv ha s p := fun z => by
  rcases r.kind z with ⟨vs, q⟩ | ⟨vs, q⟩ <;> (rw [h] at q; cases q)
theorem SRel.freeA {K : PySem.W.Frag} {H : Hp} {ha : HA} {s : S} (r : SRel K H ha s) {p : Addr} (h : H p = none) : ¬ Av ha s p := fun z => by
  rcases z with z | z
  · obtain ⟨o, e⟩ := r.trk p z
    rw [h] at e; cases e
  · exact r.free h z
theorem Ext.new1 {K : PySem.W.Frag} {H : Hp} {ha : HA} {s : S} {p : Addr} {o : HO} (h : H p = none) : Ext ha s H ha s (upd H p o) :=
  ⟨⟨[], by simp⟩, rfl, fun q u e _ _ => by rw [upd_ne (ne_of_none e h)]; exact e, fun _ z => .inl z, fun q u e => ⟨u, by rw [upd_ne (ne_of_none e h)]; exact e⟩⟩
theorem ObjR.ext {K : PySem.W.Frag} {H H' : Hp} {ha ha' : HA} {s s' : S} (x : Ext ha s H ha' s' H') (r : SRel K H ha s) {p : Addr} {o : HObj} (k : ∀ u, H p = some u → H' p = some u) (h : ObjR K H (Av ha s) ha p o) : ObjR K H' (Av ha' s') ha' p o := by
  cases o with
  | ml xs => obtain ⟨vs, a, b, c⟩ := h; exact ⟨vs, k _ a, b, Reps.ext x r xs vs c⟩
  | fz xs => obtain ⟨vs, a, b, c⟩ := h; exact ⟨vs, k _ a, b, Reps.ext x r xs vs c⟩
  | md xs => obtain ⟨vs, a, b, c⟩ := h; exact ⟨vs, k _ a, b, Repk.ext x r xs vs c⟩
  | gone => obtain ⟨o, e⟩ := h; exact ⟨o, k o e⟩
theorem SRel.new1 {K : PySem.W.Frag} {H : Hp} {ha : HA} {s : S} (r : SRel K H ha s) {p : Addr} {o : HO} (h : H p = none) : SRel K (upd H p o) ha s :=
  ⟨r.len, r.nd, fun i u e => by
    obtain ⟨q, h1, h2⟩ := r.obj i u e
    refine ⟨q, h1, ObjR.ext (Ext.new1 (K := K) h) r (fun w hw => by rw [upd_ne (ne_of_none hw h)]; exact hw) h2⟩, r.low, fun q z => by
    obtain ⟨u, e⟩ := r.trk q z
    exact ⟨u, by rw [upd_ne (ne_of_none e h)]; exact e⟩, r.dis, r.tab.new h⟩

/-! ### operators -/
/-- what an operator's rule gives, on data -/
def OpS (X : Cx) (r : R2) (g : S → D → D → Option D) : Prop := ∀ (H : Hp) (ha : HA) (s : S) (v u : V) (x y d : D) (Q : VK), SRel X.K H ha s → Rep X.K H (Av ha s) ha v x → Rep X.K H (Av ha s) ha u y → g s x y = some d →
  (∀ v' H' ha', SRel X.K H' ha' s → Ext ha s H ha' s H' → Rep X.K H' (Av ha' s) ha' v' d → Q v' H') → r v u H Q
theorem PtG.of {α β : Type} {G : Rl α β} {X : Cx} {W : WX} {σ : St} {Q : β → Hp → Prop} {ha : HA} {s : S} {H : Hp} {o : Option α} (h : PtG G X W σ Q ha s H (R.of s o)) :
    ∃ d, o = some d ∧ ∀ v H' ha', SRel X.K H' ha' s → Ext ha s H ha' s H' → G H' (Av ha' s) ha' v d → Q v H' := by
  cases o with
  | none => exact h.elim
  | some d => exact ⟨d, rfl, h⟩
section
variable {X : Cx} {W : WX} {a b c : Expr} {ma mb mc : Env → S → R D} {pos : Pos}
theorem tM2 {r : R2} {g : S → D → D → Option D} (hs : OpS X r g) {σ : St} {H : Hp} {Q : VK} (h : tM X W (fun ρ s => (ma ρ s).bind fun x s1 => (mb ρ s1).bind fun y s2 => R.of s2 (g s2 x y)) σ H Q) : tOp r (tM X W ma) (tM X W mb) σ H Q := by
  obtain ⟨ha, ρ, s, r0, e0, h⟩ := h
  refine ⟨ha, ρ, s, r0, e0, PtG.bind h fun x s1 v H1 ha1 r1 x1 g1 h1 => ?_⟩
  refine ⟨ha1, ρ, s1, r1, e0.ext x1 r0, PtG.bind h1 fun y s2 u H2 ha2 r2 x2 g2 h2 => ?_⟩
  obtain ⟨d, e, q⟩ := PtG.of h2
  exact hs H2 ha2 s2 v u x y d Q r2 (Rep.ext x2 r1 x v g1) g2 e q
theorem je_op {op : Operator} {r : R2} {g : S → D → D → Option D} (ho : OpR X (binaryOp op) r) (hs : OpS X r g) (ha : PE X a (tM X W ma)) (hb : PE X b (tM X W mb)) :
    PE X (.BinOp a op b pos) (tM X W fun ρ s => (ma ρ s).bind fun x s1 => (mb ρ s1).bind fun y s2 => R.of s2 (g s2 x y)) :=
  PE.imp (pe_op ho ha hb) fun σ H Q h => tM2 hs h
theorem je_cmp {op : CmpOp} {r : R2} {g : S → D → D → Option D} (ho : OpR X (compareOp op) r) (hs : OpS X r g) (ha : PE X a (tM X W ma)) (hb : PE X b (tM X W mb)) (hm : behindInMarks op b = false) :
    PE X (.Compare a [op] [b] pos) (tM X W fun ρ s => (ma ρ s).bind fun x s1 => (mb ρ s1).bind fun y s2 => R.of s2 (g s2 x y)) :=
  PE.imp (pe_cmpR ho ha hb hm) fun σ H Q h => tM2 hs h
end
end RS

set_option Elab.async false
set_option linter.all false
set_option maxRecDepth 100000
/-! operators -/
namespace RS
open PySem PySem.Spec L2
open PyProof.Rows hiding St

theorem cap_line {n : Nat} (h : n ≤ CAP) : n ≤ sizeLine := by
  rw [sizeLine_eq]
  have : CAP = 1000000 := rfl
  omega
section
variable {X : Cx}
theorem OpS.or {r r' : R2} {g g' : S → D → D → Option D} (h : OpS X r g) (h' : OpS X r' g') : OpS X (fun x y H Q => r x y H Q ∨ r' x y H Q) (fun s x y => match g s x y with | some d => some d | none => g' s x y) := by
  intro H ha s v u x y d Q r1 g1 g2 e q
  cases z : g s x y with
  | some d' =>
    simp only [z] at e
    cases e
    exact .inl (h H ha s v u x y _ Q r1 g1 g2 z q)
  | none =>
    simp only [z] at e
    exact .inr (h' H ha s v u x y _ Q r1 g1 g2 e q)
theorem OpS.imp {r : R2} {g g' : S → D → D → Option D} (h : OpS X r g) (i : ∀ s x y d, g' s x y = some d → g s x y = some d) : OpS X r g' := fun H ha s v u x y d Q r1 g1 g2 e q => h H ha s v u x y d Q r1 g1 g2 (i s x y d e) q
/-- ints alone -/
def gI (C : Int → Int → Bool) (f : Int → Int → D) : S → D → D → Option D := fun _ x y => match x, y with
  | .int i, .int j => if C i j then some (f i j) else none
  | _, _ => none
theorem gI_some {C : Int → Int → Bool} {f : Int → Int → D} {s : S} {x y d : D} (e : gI C f s x y = some d) : ∃ i j, x = .int i ∧ y = .int j ∧ C i j = true ∧ d = f i j := by
  unfold gI at e
  split at e
  · split at e
    · rename_i h
      cases e
      exact ⟨_, _, rfl, rfl, h, rfl⟩
    · cases e
  · cases e
theorem opS_rI {C : Int → Int → Bool} {C' : Int → Int → Prop} {f : Int → Int → V} {f' : Int → Int → D} (hc : ∀ i j, C i j = true → C' i j) (hf : ∀ (K : PySem.W.Frag) H A ha i j, Rep K H A ha (f i j) (f' i j)) : OpS X (rI C' f) (gI C f') := by
  intro H ha s v u x y d Q r1 g1 g2 e q
  obtain ⟨i, j, rfl, rfl, c, rfl⟩ := gI_some e
  cases g1
  cases g2
  exact ⟨i, j, rfl, rfl, hc i j c, q _ H ha r1 Ext.refl (hf _ _ _ _ _ _)⟩
theorem opS_rI0 {f : Int → Int → V} {f' : Int → Int → D} (hf : ∀ (K : PySem.W.Frag) H A ha i j, Rep K H A ha (f i j) (f' i j)) : OpS X (rI0 f) (gI (fun _ _ => true) f') := by
  intro H ha s v u x y d Q r1 g1 g2 e q
  obtain ⟨i, j, rfl, rfl, c, rfl⟩ := gI_some e
  cases g1
  cases g2
  exact ⟨i, j, rfl, rfl, q _ H ha r1 Ext.refl (hf _ _ _ _ _ _)⟩
/-- a new tuple, a new list -/
theorem rep_newT {K : PySem.W.Frag} {H : Hp} {ha : HA} {s : S} {p : Addr} {vs : List V} {xs : List D} (r : SRel K H ha s) (h : H p = none) (z : vs.length ≤ sizeLine) (g : Reps K H (Av ha s) ha vs xs) :
    Rep K (upd H p (.tup vs)) (Av ha s) ha (.ref p) (.tup xs) := .tup (SqT.of upd_same) z (Reps.ext (Ext.new1 (K := K) h) r xs vs g)
theorem rep_newL {K : PySem.W.Frag} {H : Hp} {ha : HA} {s : S} {p : Addr} {vs : List V} {xs : List D} (r : SRel K H ha s) (h : H p = none) (z : vs.length ≤ sizeLine) (g : Reps K H (Av ha s) ha vs xs) :
    Rep K (upd H p (.lst vs)) (Av ha s) ha (.ref p) (.lst xs) := .lst upd_same (r.freeA h) z (Reps.ext (Ext.new1 (K := K) h) r xs vs g)

/-! ### + -/
theorem opS_strAdd : OpS X (fun x y H Q => ∃ i j, x = .str i ∧ y = .str j ∧ i.length + j.length ≤ sizeLine ∧ Q (.str (i ++ j)) H) (fun _ x y => match x, y with
    | .str a, .str b => if a.length + b.length ≤ CAP then some (.str (a ++ b)) else none
    | _, _ => none) := by
  intro H ha s v u x y d Q r1 g1 g2 e q
  dsimp only at e
  split at e
  · split at e
    · rename_i h
      cases e
      cases g1
      cases g2
      exact ⟨_, _, rfl, rfl, cap_line h, q _ H ha r1 Ext.refl (.str _)⟩
    · cases e
  · cases e
theorem opS_catT : OpS X (rCatA X.K) (fun _ x y => match x, y with
    | .tup xs, .tup ys => if xs.length + ys.length ≤ CAP then some (.tup (xs ++ ys)) else none
    | _, _ => none) := by
  intro H ha s v u x y d Q r1 g1 g2 e q
  dsimp only at e
  split at e
  · split at e
    · rename_i xs ys h
      cases e
      cases g1 with
      | @tup p vs _ a1 a2 a3 =>
        cases g2 with
        | @tup p2 vs2 _ b1 b2 b3 =>
          have l1 := a3.length
          have l2 := b3.length
          have hz : vs.length + vs2.length ≤ sizeLine := by rw [l1, l2]; exact cap_line h
          refine ⟨p, p2, vs, vs2, rfl, rfl, a1, b1, hz, fun z => ?_, fun _ z => ?_, fun _ _ t ht => ?_⟩
          · subst z
            have : xs = [] := List.eq_nil_of_length_eq_zero (by rw [← l1]; rfl)
            subst this
            exact q _ H ha r1 Ext.refl (.tup b1 b2 b3)
          · subst z
            have : ys = [] := List.eq_nil_of_length_eq_zero (by rw [← l2]; rfl)
            subst this
            rw [List.append_nil] at q
            exact q _ H ha r1 Ext.refl (.tup a1 a2 a3)
          · exact q _ _ ha (r1.new1 ht) (Ext.new1 (K := X.K) ht) (rep_newT r1 ht (by rw [List.length_append]; exact hz) (a3.append b3))
    · cases e
  · cases e
theorem opS_catL : OpS X rCat (fun s a b => (lstOf s a).bind fun xs => (lstOf s b).bind fun ys => if xs.length + ys.length ≤ CAP then some (.lst (xs ++ ys)) else none) := by
  intro H ha s v u x y d Q r1 g1 g2 e q
  dsimp only at e
  cases e1 : lstOf s x with
  | none => rw [e1] at e; cases e
  | some xs =>
    cases e2 : lstOf s y with
    | none => rw [e1, e2] at e; cases e
    | some ys =>
      rw [e1, e2] at e
      simp only [Option.bind_some] at e
      split at e
      · rename_i h
        cases e
        obtain ⟨p, vs, rfl, h1, _, h3⟩ := lst_at r1 g1 e1
        obtain ⟨p2, vs2, rfl, k1, _, k3⟩ := lst_at r1 g2 e2
        have hz : vs.length + vs2.length ≤ sizeLine := by rw [h3.length, k3.length]; exact cap_line h
        exact ⟨p, p2, vs, vs2, rfl, rfl, h1, k1, hz, fun t ht => q _ _ ha (r1.new1 ht) (Ext.new1 (K := X.K) ht) (rep_newL r1 ht (by rw [List.length_append]; exact hz) (h3.append k3))⟩
      · cases e
theorem opS_add : OpS X (fun x y H Q => (((rI0 fun i j => .int (i + j)) x y H Q ∨ (∃ i j, x = .str i ∧ y = .str j ∧ i.length + j.length ≤ sizeLine ∧ Q (.str (i ++ j)) H)) ∨ rCatA X.K x y H Q) ∨ rCat x y H Q) addD := by
  refine OpS.imp (OpS.or (OpS.or (OpS.or (opS_rI0 (f' := fun i j => .int (i + j)) fun _ _ _ _ _ _ => .int _) opS_strAdd) opS_catT) opS_catL) fun s x y d e => ?_
  cases x <;> cases y <;> first
    | exact e
    | (simp only [addD] at e; simp only [gI]; exact e)
    | (simp only [addD, lstOf, Option.bind] at e; cases e)
    | (simp only [addD] at e; simp only [gI, if_true]; split <;> simp_all)
theorem op_addR : OpR X (binaryOp .Add) (fun x y H Q => (((rI0 fun i j => .int (i + j)) x y H Q ∨ (∃ i j, x = .str i ∧ y = .str j ∧ i.length + j.length ≤ sizeLine ∧ Q (.str (i ++ j)) H)) ∨ rCatA X.K x y H Q) ∨ rCat x y H Q) :=
  ((op_add.or op_add_str).or op_catA).or op_cat
theorem opS_sub : OpS X (rI0 fun i j => .int (i - j)) (fun _ => subD) :=
  OpS.imp (opS_rI0 (f' := fun i j => .int (i - j)) fun _ _ _ _ _ _ => .int _) fun s x y d e => by
    cases x <;> cases y <;> first | exact e | cases e
theorem opS_mod : OpS X (rI (fun _ j => 0 < j) fun i j => .int (i % j)) (fun _ => modD) :=
  OpS.imp (opS_rI (C := fun _ j => decide (0 < j)) (f' := fun i j => .int (i % j)) (fun _ _ h => of_decide_eq_true h) fun _ _ _ _ _ _ => .int _) fun s x y d e => by
    cases x <;> cases y <;> first | (simp only [modD] at e; simp only [gI, decide_eq_true_eq]; exact e) | cases e
theorem opS_div : OpS X (rI CDivW fun i j => .int (i / j)) (fun _ => divD) :=
  OpS.imp (opS_rI (C := fun _ j => decide (0 < j ∧ j < 2 ^ 200)) (f' := fun i j => .int (i / j)) (fun _ j h => by
    obtain ⟨h1, h2⟩ := of_decide_eq_true h
    exact wide_div (b := 200) h1 (by omega) (by decide) (by decide)) fun _ _ _ _ _ _ => .int _) fun s x y d e => by
    cases x <;> cases y <;> first | (simp only [divD] at e; simp only [gI, decide_eq_true_eq]; exact e) | cases e
theorem opS_pow : OpS X (rI CPow fun i j => .int (i ^ j.toNat)) (fun _ => powD) :=
  OpS.imp (opS_rI (C := fun i j => decide (0 ≤ j ∧ j ≤ 1000 ∧ i.natAbs < 2 ^ 64)) (f' := fun i j => .int (i ^ j.toNat)) (fun i j h => by
    obtain ⟨h1, h2, h3⟩ := of_decide_eq_true h
    exact ⟨h1, by omega, h3⟩) fun _ _ _ _ _ _ => .int _) fun s x y d e => by
    cases x <;> cases y <;> first | (simp only [powD] at e; simp only [gI, decide_eq_true_eq]; exact e) | cases e
/-! ### * -/
theorem okMul_ok {i j : Int} (h : okMul i j = true) : CMul i j := by
  unfold okMul at h
  simp only [Bool.or_eq_true, Bool.and_eq_true, decide_eq_true_eq] at h
  exact h
def rRepT2 (K : PySem.W.Frag) : R2 := fun x y H Q => ∃ l k xs, x = .ref l ∧ y = .int k ∧ SqT K H l xs ∧ k < 2 ^ 62 ∧ -(2 ^ 62) < k ∧ xs.length * k.toNat ≤ CAP ∧ ((xs = [] ∨ k = 1) → Q (.ref l) H) ∧ (¬ (xs = [] ∨ k = 1) → ∀ p, H p = none → Q (.ref p) (upd H p (.tup (List.replicate k.toNat xs).flatten)))
theorem tuple_mul_same (l : Addr) (items : Array Value) (n : Nat) (dd : Option Addr) (sl : Array (Option Value)) (x : Int) (u : Tok) (c0 : (decide (x < -(2 ^ 63)) || decide (x ≥ 2 ^ 63)) = false) (c1 : (items.isEmpty || x == 1) = true) :
    Meets (Builtin.«tuple.__mul__» ⟨[.ref l, .int x u], []⟩) (fun _ R s => s.heap.get? l = some { cls := .type "tuple", dict := dd, data := .seq items n, slots := sl } ∧ R (.ok (.ret (Value.ref l))) s) :=
  .of_wp fun prog w A R s h => by
    obtain ⟨hp, g, d, tk, os⟩ := s
    obtain ⟨hl, h⟩ := h
    have f1 := AutoSeq1.idx_int
    wp_walk using wpAny_loadPart' hl
    repeat (first
      | (refine wpAny_ite_false (decide_eq_false (by rw [c0]; exact Bool.false_ne_true)) ?_; wp_walk using wpAny_loadPart' hl)
      | (refine wpAny_ite_true (decide_eq_true c1) ?_; wp_walk using wpAny_loadPart' hl))
    exact ⟨_, rfl, h⟩
theorem tuple_mul_nil (l : Addr) (items : Array Value) (n : Nat) (dd : Option Addr) (sl : Array (Option Value)) (x : Int) (u : Tok) (c0 : (decide (x < -(2 ^ 63)) || decide (x ≥ 2 ^ 63)) = false) (c1 : (items.isEmpty || x == 1) = false) (c2 : (decide (x ≤ 0) || items.isEmpty) = true) :
    Meets (Builtin.«tuple.__mul__» ⟨[.ref l, .int x u], []⟩) (fun _ R s => s.heap.get? l = some { cls := .type "tuple", dict := dd, data := .seq items n, slots := sl } ∧
      R (.ok (.ret (Value.ref s.heap.objs.size))) { s with heap := s.heap.push { cls := Value.type "tuple", data := Data.seq #[] }, toks := s.toks }) :=
  .of_wp fun prog w A R s h => by
    obtain ⟨hp, g, d, tk, os⟩ := s
    obtain ⟨hl, h⟩ := h
    have f1 := AutoSeq1.idx_int
    wp_walk using wpAny_loadPart' hl
    repeat (first
      | (refine wpAny_ite_false (decide_eq_false (by rw [c0]; exact Bool.false_ne_true)) ?_; wp_walk using wpAny_loadPart' hl)
      | (refine wpAny_ite_false (decide_eq_false (by rw [c1]; exact Bool.false_ne_true)) ?_; wp_walk using wpAny_loadPart' hl)
      | (refine wpAny_ite_true (decide_eq_true c2) ?_; wp_walk using wpAny_loadPart' hl))
    exact ⟨_, rfl, h⟩
theorem op_repT2 : OpR X (binaryOp .Mult) (rRepT2 X.K) := by
  intro pins s σ H x y v u Q I rx ry h
  obtain ⟨l, k, xs, rfl, rfl, hT, h1, h2, hz, q1, q2⟩ := h
  cases rx
  obtain ⟨t, rfl⟩ := ry
  obtain ⟨its, r, ⟨⟨cls, dd, data, sl⟩, ho, hc, n, hd⟩, hs⟩ := I.tuple hT
  simp only at hc hd
  subst hc hd
  have hle : its.length = xs.length := r.length.symm
  have hsz0 : its.toArray.size = xs.length := by rw [List.size_toArray, hle]
  have c0 : (decide (k < -(2 ^ 63)) || decide (k ≥ 2 ^ 63)) = false := by
    rw [decide_eq_false (by omega), decide_eq_false (by omega)] <;> rfl
  have go : ∀ {R : PySem.Fin → Shared → Prop}, True := trivial
  by_cases hx : xs = [] ∨ k = 1
  · have c1 : (its.toArray.isEmpty || k == 1) = true := by
      rcases hx with hx | hx
      · have : its = [] := List.eq_nil_of_length_eq_zero (by rw [hle, hx]; rfl)
        subst this
        rfl
      · rw [hx]
        simp
    exact wpAny_binaryOp_repeat_ref (T := "tuple") (U := "int") (by decide) ⟨_, ho, rfl⟩ (fun s' => typeIs_int s' k t) noFill_tuple_mul F.fills_int_mul F.slot_int_rmul repeat_tuple F.slot_int_index.lookup
      (call_meets F.slot_int_rmul (typeIs_int s k t) F.entry_int_rmul (F.args_int_rmul_2 _ _) (int_rmul_tuple k t l its.toArray n dd sl)
        ⟨ho, rfl, ⟨_, ho, rfl⟩, call_meets F.slot_tuple_mul ⟨_, ho, rfl⟩ F.entry_tuple_mul (F.args_tuple_mul_2 _ _) (tuple_mul_same l its.toArray n dd sl k t c0 c1) ⟨ho, ⟨.ref l, H, I, rfl, q1 hx⟩⟩⟩)
  · have hne : xs ≠ [] := fun z => hx (.inl z)
    have hk1 : k ≠ 1 := fun z => hx (.inr z)
    have hn : its ≠ [] := fun e => hne (by
      rw [e] at hle
      exact List.eq_nil_of_length_eq_zero hle.symm)
    have hi : its.toArray.isEmpty = false := by
      cases its with
      | nil => exact absurd rfl hn
      | cons a b => rfl
    have c1 : (its.toArray.isEmpty || k == 1) = false := by
      rw [hi, Bool.false_or]
      exact beq_eq_false_iff_ne.mpr hk1
    have flen : (List.replicate k.toNat its).flatten.length ≤ sizeLine := by
      rw [PyProof.Rows.lm_len_rep_flat, hle, Nat.mul_comm]
      exact cap_line hz
    have vlen : (List.replicate k.toNat xs).flatten.length ≤ sizeLine := by
      rw [PyProof.Rows.lm_len_rep_flat, Nat.mul_comm]
      exact cap_line hz
    have fin : ∀ (hp : List.replicate k.toNat its |>.flatten |>.toArray |> fun z => True), EP X pins σ Q (.ref s.heap.objs.size) { s with heap := s.heap.push { cls := Value.type "tuple", data := Data.seq (List.replicate k.toNat its).flatten.toArray }, toks := s.toks } := fun _ => by
      refine ⟨.ref s.heap.objs.size, _, I.laid (t' := s.toks) (o := .tup (List.replicate k.toNat xs).flatten) (fun b ob q => Heap.get?_push_of_some _ q) (Nat.le_refl _) ?_, rfl, q2 hx _ (I.hok.fresh (Nat.le_refl _))⟩
      exact ⟨vlen, _, r.rep k.toNat, IsTup.new _ _⟩
    by_cases hk : k ≤ 0
    · have c2 : (decide (k ≤ 0) || its.toArray.isEmpty) = true := by rw [decide_eq_true hk, Bool.true_or]
      have hk0 : k.toNat = 0 := by omega
      have fin' := fin trivial
      rw [hk0] at fin'
      exact wpAny_binaryOp_repeat_ref (T := "tuple") (U := "int") (by decide) ⟨_, ho, rfl⟩ (fun s' => typeIs_int s' k t) noFill_tuple_mul F.fills_int_mul F.slot_int_rmul repeat_tuple F.slot_int_index.lookup
        (call_meets F.slot_int_rmul (typeIs_int s k t) F.entry_int_rmul (F.args_int_rmul_2 _ _) (int_rmul_tuple k t l its.toArray n dd sl)
          ⟨ho, rfl, ⟨_, ho, rfl⟩, call_meets F.slot_tuple_mul ⟨_, ho, rfl⟩ F.entry_tuple_mul (F.args_tuple_mul_2 _ _) (tuple_mul_nil l its.toArray n dd sl k t c0 c1 c2) ⟨ho, fin'⟩⟩)
    · have c2 : (decide (k ≤ 0) || its.toArray.isEmpty) = false := by
        rw [hi, Bool.or_false]
        exact decide_eq_false hk
      have hm : ((its.toArray.size : Nat) : Int) * k ≤ 1000000 := by
        rw [hsz0]
        have e : (((xs.length * k.toNat : Nat)) : Int) = (xs.length : Int) * k := by
          rw [Int.natCast_mul, Int.toNat_of_nonneg (by omega)]
        rw [← e]
        exact Int.ofNat_le.mpr hz
      have c4 : Builtin.Tuple.tupleTooMany (((its.toArray.size : Nat) : Int) * k) = false := by
        unfold Builtin.Tuple.tupleTooMany
        rw [sizeLine_eq]
        exact decide_eq_false (by omega)
      have fin' := fin trivial
      refine wpAny_binaryOp_repeat_ref (T := "tuple") (U := "int") (by decide) ⟨_, ho, rfl⟩ (fun s' => typeIs_int s' k t) noFill_tuple_mul F.fills_int_mul F.slot_int_rmul repeat_tuple F.slot_int_index.lookup
        (call_meets F.slot_int_rmul (typeIs_int s k t) F.entry_int_rmul (F.args_int_rmul_2 _ _) (int_rmul_tuple k t l its.toArray n dd sl)
          ⟨ho, rfl, ⟨_, ho, rfl⟩, call_meets F.slot_tuple_mul ⟨_, ho, rfl⟩ F.entry_tuple_mul (F.args_tuple_mul_2 _ _) (tuple_mulW l its.toArray n dd sl k t c0 c1 c2 (by omega) c4 (by rw [size_rep, List.size_toArray]; exact flen)) ⟨ho, ?_⟩⟩)
      rw [size_rep]
      exact fin'
theorem opS_repT : OpS X (rRepT2 X.K) (fun _ x y => match x, y with
    | .tup xs, .int k => if xs.length * k.toNat ≤ CAP ∧ k < 2 ^ 62 ∧ -(2 ^ 62) < k then some (.tup (List.replicate k.toNat xs).flatten) else none
    | _, _ => none) := by
  intro H ha s v u x y d Q r1 g1 g2 e q
  dsimp only at e
  split at e
  · split at e
    · rename_i xs k h
      cases e
      cases g2
      cases g1 with
      | @tup p vs _ a1 a2 a3 =>
        have l1 := a3.length
        refine ⟨p, k, vs, rfl, rfl, a1, h.2.1, h.2.2, by rw [l1]; exact h.1, fun z => ?_, fun _ t ht => ?_⟩
        · have e : (List.replicate k.toNat xs).flatten = xs := by
            rcases z with z | z
            · subst z
              have : xs = [] := List.eq_nil_of_length_eq_zero (by rw [← l1]; rfl)
              subst this
              generalize k.toNat = n
              induction n with
              | zero => rfl
              | succ n ih => rw [List.replicate_succ, List.flatten_cons, ih]; rfl
            · subst z
              show (List.replicate 1 xs).flatten = xs
              simp
          rw [e] at q
          exact q _ H ha r1 Ext.refl (.tup a1 a2 a3)
        · refine q _ _ ha (r1.new1 ht) (Ext.new1 (K := X.K) ht) (rep_newT r1 ht ?_ (a3.rep _))
          rw [PyProof.Rows.lm_len_rep_flat, Nat.mul_comm, l1]
          exact cap_line h.1
    · cases e
  · cases e
theorem opS_repL : OpS X rRep (fun s x y => match y with
    | .int k => (lstOf s x).bind fun xs => if xs.length * k.toNat ≤ CAP ∧ k < 2 ^ 62 ∧ -(2 ^ 62) < k then some (.lst (List.replicate k.toNat xs).flatten) else none
    | _ => none) := by
  intro H ha s v u x y d Q r1 g1 g2 e q
  dsimp only at e
  split at e
  · rename_i k
    cases e1 : lstOf s x with
    | none => rw [e1] at e; cases e
    | some xs =>
      rw [e1] at e
      simp only [Option.bind_some] at e
      split at e
      · rename_i h
        cases e
        cases g2
        obtain ⟨p, vs, rfl, h1, _, h3⟩ := lst_at r1 g1 e1
        have l1 := h3.length
        refine ⟨p, k, vs, rfl, rfl, h1, by omega, by omega, by rw [l1]; exact cap_line h.1, fun t ht => q _ _ ha (r1.new1 ht) (Ext.new1 (K := X.K) ht) (rep_newL r1 ht ?_ (h3.rep _))⟩
        rw [PyProof.Rows.lm_len_rep_flat, Nat.mul_comm, l1]
        exact cap_line h.1
      · cases e
  · cases e
theorem opS_mul : OpS X (fun x y H Q => ((rI CMul fun i j => .int (i * j)) x y H Q ∨ rRepT2 X.K x y H Q) ∨ rRep x y H Q) mulD := by
  refine OpS.imp (OpS.or (OpS.or (opS_rI (C := okMul) (f' := fun i j => .int (i * j)) (fun _ _ h => okMul_ok h) fun _ _ _ _ _ _ => .int _) opS_repT) opS_repL) fun s x y d e => ?_
  cases x <;> cases y <;> first
    | exact e
    | (simp only [mulD] at e; simp only [gI]; exact e)
    | (simp only [mulD, lstOf, Option.bind] at e; cases e)
    | (simp only [mulD] at e; simp only [gI, if_true]; split <;> simp_all)
theorem op_mulR : OpR X (binaryOp .Mult) (fun x y H Q => ((rI CMul fun i j => .int (i * j)) x y H Q ∨ rRepT2 X.K x y H Q) ∨ rRep x y H Q) := (op_mul.or op_repT2).or op_rep

variable {W : WX} {a b c : Expr} {ma mb mc : Env → S → R D} {pos : Pos}
def BO.op : BO → Operator
  | .add => .Add | .sub => .Sub | .mul => .Mult | .div => .FloorDiv | .mod => .Mod | .pow => .Pow
theorem je_bin (o : BO) (ha : PE X a (tM X W ma)) (hb : PE X b (tM X W mb)) : PE X (.BinOp a o.op b pos) (tM X W fun ρ s => (ma ρ s).bind fun x s1 => (mb ρ s1).bind fun y s2 => R.of s2 (binD o s2 x y)) := by
  cases o with
  | add => exact je_op op_addR opS_add ha hb
  | sub => exact je_op op_sub opS_sub ha hb
  | mul => exact je_op op_mulR opS_mul ha hb
  | div => exact je_op op_fdivW opS_div ha hb
  | mod => exact je_op op_mod opS_mod ha hb
  | pow => exact je_op op_pow opS_pow ha hb
end
end RS

set_option Elab.async false
set_option linter.all false
set_option maxRecDepth 100000
/-! names, constants, comparisons, displays, items -/
namespace RS
open PySem PySem.Spec L2
open PyProof.Rows hiding St
section
variable {X : Cx} {W : WX} {a b : Expr} {ma mb mc : Env → S → R D} {pos : Pos}

/-- what a body's context is known to be -/
structure Cok (X : Cx) : Prop where
  nd : X.N.Nodup
  un : X.A.units + 200 < cLine
  gd : X.A.guards = some []
/-- .. where no exception is being handled -/
structure Cold (X : Cx) : Prop where
  calm : X.calm = true
  hd : X.A.handled = none

theorem je_var {i : Nat} {x : Str} (hN : X.N[i]? = some x) (hv : Vis X.env.scope x) (hd : (x == ("__debug__" : Str)) = false) (hcd : (x == ("__classdict__" : Str)) = false) : PE X (.Name x pos) (tM X W fun ρ s => R.of s (getV ρ i)) :=
  PE.imp (pe_var hN hv hd hcd) fun σ H Q ⟨ha, ρ, s, r, e, h⟩ => by
    obtain ⟨d, ed, q⟩ := PtG.of h
    unfold getV at ed
    split at ed
    · rename_i d' h1
      cases ed
      obtain ⟨v, h2, h3⟩ := e.get i _ h1
      exact ⟨v, h2, q v H ha r Ext.refl h3⟩
    · cases ed
def Cst.v : Cst → V
  | .int i => .int i | .bl b => .bl b | .str s => .str s | .non => .non
def Cst.con : Cst → Const
  | .int i => .int i | .bl b => .bool b | .str s => .str s | .non => .none
theorem Cst.rep {K : PySem.W.Frag} {H : Hp} {A : Addr → Prop} {ha : HA} (c : Cst) : Rep K H A ha c.v c.d := by
  cases c with
  | int i => exact .int i
  | bl b => exact .bl b
  | str s => exact .str s
  | non => exact .non
theorem je_cst (c : Cst) {j : Nat} : PE X (.Constant c.con j pos) (tM X W fun ρ s => .ok c.d s) := by
  have i : ∀ σ H Q, tM X W (fun ρ s => .ok c.d s) σ H Q → tC c.v σ H Q := fun σ H Q ⟨ha, ρ, s, r, e, h⟩ => h c.v H ha r Ext.refl (Cst.rep c)
  cases c with
  | int k => exact PE.imp pe_int i
  | bl k => exact PE.imp pe_bl i
  | str k => exact PE.imp pe_str i
  | non => exact PE.imp pe_non i
theorem je_glb (c : Cst) {x : Str} {u : Value} (hg : Gl X x) (hm : X.mg x = some u) (r : RelV c.v u) (hd : (x == ("__debug__" : Str)) = false) : PE X (.Name x pos) (tM X W fun ρ s => .ok c.d s) :=
  PE.imp (pe_glob hg hm r hd) fun σ H Q ⟨ha, ρ, s, r, e, h⟩ => h c.v H ha r Ext.refl (Cst.rep c)
theorem je_neg (ha : PE X a (tM X W ma)) : PE X (.UnaryOp .USub a pos) (tM X W fun ρ s => (ma ρ s).bind fun x s1 => match x with
    | .int i => .ok (.int (-i)) s1
    | _ => .bad) :=
  PE.imp (pe_un un_neg ha) fun σ H Q ⟨ha, ρ, s, r, e, h⟩ => ⟨ha, ρ, s, r, e, PtG.bind h fun x s1 v H1 ha1 r1 x1 g1 h1 => by
    cases g1 with
    | int i => exact ⟨i, rfl, h1 _ _ _ r1 Ext.refl (.int _)⟩
    | _ => exact h1.elim⟩

/-! ### data as the library's own -/
mutual
theorem Rep.dp {K : PySem.W.Frag} {H : Hp} {A : Addr → Prop} {ha : HA} : ∀ (d : D) (v : V), Rep K H A ha v d → d.flt = true → Dp K H v d.py
  | .non, _, h, _ => by cases h; exact .non
  | .bl b, _, h, _ => by cases h; exact .bl b
  | .int i, _, h, _ => by cases h; exact .int i
  | .str y, _, h, _ => by cases h; exact .str y
  | .tup xs, _, h, f => by
    cases h with
    | tup h1 h2 h3 => exact .tup h1 (Reps.dp xs _ h3 f)
  | .lst xs, _, h, f => by
    cases h with
    | lst h1 h2 h3 h4 => exact .lst (SqL.of h1) (Reps.dp xs _ h4 f)
  | .dic xs, _, h, f => by cases f
  | .hnd i, _, h, f => by cases f
  | .scr ns, _, h, f => by cases f
  | .xcp _ _ _, _, h, f => by cases f
theorem Reps.dp {K : PySem.W.Frag} {H : Hp} {A : Addr → Prop} {ha : HA} : ∀ (ds : List D) (vs : List V), Reps K H A ha vs ds → flts ds = true → DpAll K H vs (pys ds)
  | [], _, h, _ => by cases h; exact .nil
  | d :: ds, _, h, f => by
    cases h with
    | cons h1 h2 =>
      have f' : (d.flt && flts ds) = true := f
      rw [Bool.and_eq_true] at f'
      exact .cons (Rep.dp d _ h1 f'.1) (Reps.dp ds _ h2 f'.2)
end
mutual
theorem flt_lay : ∀ d : D, d.flt = true → d.py.canLay0 = true
  | .non, _ => rfl
  | .bl _, _ => rfl
  | .int _, _ => rfl
  | .str x, f => by
    have f' : PyData.strOk x = true := f
    simpa [D.py, PyData.canLay0] using f'
  | .tup xs, f => by
    simp only [D.py, PyData.canLay0]
    exact flts_lay xs f
  | .lst xs, f => by
    simp only [D.py, PyData.canLay0]
    exact flts_lay xs f
  | .dic _, f => by cases f
  | .hnd _, f => by cases f
  | .scr _, f => by cases f
  | .xcp _ _ _, f => by cases f
theorem flts_lay : ∀ ds : List D, flts ds = true → PyData.canLayAll0 (pys ds) = true
  | [], _ => by simp only [pys, PyData.canLayAll0]
  | d :: ds, f => by
    have f' : (d.flt && flts ds) = true := f
    rw [Bool.and_eq_true] at f'
    simp only [pys, PyData.canLayAll0, Bool.and_eq_true]
    exact ⟨flt_lay d f'.1, flts_lay ds f'.2⟩
end
mutual
theorem dep_py : ∀ d : D, d.flt = true → d.py.depth = d.dep
  | .non, _ => by simp only [D.py, D.dep, PyData.depth]
  | .bl _, _ => by simp only [D.py, D.dep, PyData.depth]
  | .int _, _ => by simp only [D.py, D.dep, PyData.depth]
  | .str x, f => by simp only [D.py, D.dep, PyData.depth]
  | .tup xs, f => by
    simp only [D.py, D.dep, PyData.depth]
    rw [deps_py xs f]
  | .lst xs, f => by
    simp only [D.py, D.dep, PyData.depth]
    rw [deps_py xs f]
  | .dic _, f => by cases f
  | .hnd _, f => by cases f
  | .scr _, f => by cases f
  | .xcp _ _ _, f => by cases f
theorem deps_py : ∀ ds : List D, flts ds = true → PyData.depthAll (pys ds) = deps ds
  | [], _ => by simp only [pys, deps, PyData.depthAll]
  | d :: ds, f => by
    have f' : (d.flt && flts ds) = true := f
    rw [Bool.and_eq_true] at f'
    simp only [pys, deps, PyData.depthAll]
    rw [dep_py d f'.1, deps_py ds f'.2]
end
theorem eqOk_shaped {d : D} (h : eqOk d = true) : SeqAt.shaped d.py = true := by
  unfold eqOk at h
  rw [Bool.and_eq_true, decide_eq_true_eq] at h
  unfold SeqAt.shaped
  rw [flt_lay d h.1, dep_py d h.1, Bool.true_and, decide_eq_true_eq]
  omega
/-- a list that may change, as data -/
theorem Rep.unh {K : PySem.W.Frag} {H : Hp} {ha : HA} {s : S} (r : SRel K H ha s) {v : V} {d : D} (h : Rep K H (Av ha s) ha v d) (e : eqOk (RS.unh s d) = true) : Dp K H v (RS.unh s d).py := by
  have f : (RS.unh s d).flt = true := by
    unfold eqOk at e
    rw [Bool.and_eq_true] at e
    exact e.1
  cases h with
  | @hnd p i h1 =>
    have z : RS.unh s (.hnd i) = match s[i]? with
        | some (.ml xs) => .lst xs
        | some (.fz xs) => .lst xs
        | _ => .hnd i := rfl
    rw [z] at f ⊢
    split at f
    · rename_i xs q
      obtain ⟨p', h2, vs, k1, k2, k3⟩ := r.obj i _ q
      rw [h1] at h2
      cases h2
      exact .lst (SqL.of k1) (Reps.dp xs vs k3 f)
    · rename_i xs q
      obtain ⟨p', h2, vs, k1, k2, k3⟩ := r.obj i _ q
      rw [h1] at h2
      cases h2
      exact .lst (SqL.of k1) (Reps.dp xs vs k3 f)
    · cases f
  | scr h1 h2 => cases f
  | xc0 => cases f
  | xc1 => cases f
  | dic h1 h2 h3 h4 => cases f
  | non => exact .non
  | bl b => exact .bl b
  | int i => exact .int i
  | str x => exact .str x
  | tup h1 h2 h3 => exact .tup h1 (Reps.dp _ _ h3 f)
  | lst h1 h2 h3 h4 => exact .lst (SqL.of h1) (Reps.dp _ _ h4 f)
/-- comparisons give a bool and change nothing -/
def CmS (X : Cx) (r : R2) (g : S → D → D → Option Bool) : Prop := ∀ (H : Hp) (ha : HA) (s : S) (v u : V) (x y : D) (d : Bool) (Q : VK), SRel X.K H ha s → Rep X.K H (Av ha s) ha v x → Rep X.K H (Av ha s) ha u y → g s x y = some d → Q (.bl d) H → r v u H Q
theorem CmS.opS {r : R2} {g : S → D → D → Option Bool} (h : CmS X r g) : OpS X r (fun s x y => (g s x y).map .bl) := by
  intro H ha s v u x y d Q r1 g1 g2 e q
  dsimp only at e
  cases z : g s x y with
  | none => rw [z] at e; cases e
  | some k =>
    rw [z] at e
    cases e
    exact h H ha s v u x y k Q r1 g1 g2 z (q _ H ha r1 Ext.refl (.bl _))
theorem cmS_eq : CmS X (rEqD X.K) (fun s a b => if eqOk (unh s a) && eqOk (unh s b) then some (eqD (unh s a) (unh s b)) else none) := by
  intro H ha s v u x y d Q r1 g1 g2 e q
  dsimp only at e
  split at e
  · rename_i h
    rw [Bool.and_eq_true] at h
    cases e
    exact ⟨_, _, Rep.unh r1 g1 h.1, Rep.unh r1 g2 h.2, eqOk_shaped h.1, eqOk_shaped h.2, q⟩
  · cases e
theorem cmS_ne : CmS X (rNeD X.K) (fun s a b => if eqOk (unh s a) && eqOk (unh s b) then some (!eqD (unh s a) (unh s b)) else none) := by
  intro H ha s v u x y d Q r1 g1 g2 e q
  dsimp only at e
  split at e
  · rename_i h
    rw [Bool.and_eq_true] at h
    cases e
    exact ⟨_, _, Rep.unh r1 g1 h.1, Rep.unh r1 g2 h.2, eqOk_shaped h.1, eqOk_shaped h.2, q⟩
  · cases e
theorem cmS_eqS : CmS X rEq (fun _ => eqS) := by
  intro H ha s v u x y d Q r1 g1 g2 e q
  cases x with
  | str a =>
    cases y with
    | str b =>
      cases e
      cases g1
      cases g2
      exact ⟨rfl, by rw [dec_str]; exact q⟩
    | _ => cases e
  | _ => cases e
theorem cmS_neS : CmS X rNe (fun _ => neS) := by
  intro H ha s v u x y d Q r1 g1 g2 e q
  cases x with
  | str a =>
    cases y with
    | str b =>
      cases e
      cases g1
      cases g2
      exact ⟨rfl, by rw [dec_str]; exact q⟩
    | _ => cases e
  | _ => cases e
theorem CmS.or {r r' : R2} {g g' : S → D → D → Option Bool} (h : CmS X r g) (h' : CmS X r' g') : CmS X (fun x y H Q => r x y H Q ∨ r' x y H Q) (fun s x y => match g s x y with | some d => some d | none => g' s x y) := by
  intro H ha s v u x y d Q r1 g1 g2 e q
  dsimp only at e
  cases z : g s x y with
  | some d' =>
    simp only [z] at e
    cases e
    exact .inl (h H ha s v u x y _ Q r1 g1 g2 z q)
  | none =>
    simp only [z] at e
    exact .inr (h' H ha s v u x y _ Q r1 g1 g2 e q)
theorem CmS.imp {r : R2} {g g' : S → D → D → Option Bool} (h : CmS X r g) (i : ∀ s x y d, g' s x y = some d → g s x y = some d) : CmS X r g' := fun H ha s v u x y d Q r1 g1 g2 e q => h H ha s v u x y d Q r1 g1 g2 (i s x y d e) q
def ordI (f : Int → Int → Bool) : S → D → D → Option Bool := fun _ x y => match x, y with
  | .int i, .int j => some (f i j)
  | _, _ => none
def ordL (g : List Int → List Int → Option Bool) : S → D → D → Option Bool := fun _ x y => match x, y with
  | .tup xs, .tup ys => (intsOf xs).bind fun a => (intsOf ys).bind fun b => g a b
  | _, _ => none
theorem cmS_I {f : Int → Int → Bool} : CmS X (rI0 fun i j => .bl (f i j)) (ordI f) := by
  intro H ha s v u x y d Q r1 g1 g2 e q
  unfold ordI at e
  split at e
  · cases e
    cases g1
    cases g2
    exact ⟨_, _, rfl, rfl, q⟩
  · cases e
theorem ordL_some {g : List Int → List Int → Option Bool} {s : S} {x y : D} {d : Bool} (e : ordL g s x y = some d) : ∃ xs ys ns ms, x = .tup xs ∧ y = .tup ys ∧ intsOf xs = some ns ∧ intsOf ys = some ms ∧ g ns ms = some d := by
  unfold ordL at e
  split at e
  · rename_i xs ys
    cases h1 : intsOf xs with
    | none => rw [h1] at e; cases e
    | some ns =>
      cases h2 : intsOf ys with
      | none => rw [h1, h2] at e; cases e
      | some ms =>
        rw [h1, h2] at e
        exact ⟨xs, ys, ns, ms, rfl, rfl, h1, h2, e⟩
  · cases e
theorem cmS_ltT : CmS X (rLtT X.K) (ordL fun x y => some (HT.lexLt x y)) := by
  intro H ha s v u x y d Q r1 g1 g2 e q
  obtain ⟨xs, ys, ns, ms, rfl, rfl, h1, h2, e⟩ := ordL_some e
  cases e
  cases g1 with
  | tup a1 a2 a3 =>
    cases g2 with
    | tup b1 b2 b3 =>
      have k1 := Reps.ints a3 h1
      have k2 := Reps.ints b3 h2
      subst k1 k2
      exact ⟨_, _, ns, ms, rfl, rfl, a1, b1, q⟩
theorem lexAt_le : ∀ (ns ms : List Int), Ob.lexAt (fun j => decide (ns.getD j 0 = ms.getD j 0)) (fun j => decide (ns.getD j 0 ≤ ms.getD j 0)) (decide (ns.length ≤ ms.length)) 0 (min ns.length ms.length) = lexLeI ns ms := by
  intro ns ms
  have go : ∀ (k i : Nat), min (ns.length - i) (ms.length - i) = k → i ≤ ns.length → i ≤ ms.length → (Ob.lexAt (fun j => decide (ns.getD j 0 = ms.getD j 0)) (fun j => decide (ns.getD j 0 ≤ ms.getD j 0)) (decide (ns.length ≤ ms.length)) i k = lexLeI (ns.drop i) (ms.drop i)) := by
    intro k
    induction k with
    | zero =>
      intro i e h1 h2
      rw [Ob.lexAt_zero]
      by_cases z : ns.length = i
      · have e1 : ns.drop i = [] := List.drop_eq_nil_of_le (by omega)
        rw [e1]
        show _ = true
        exact decide_eq_true (by omega)
      · have z2 : ms.length = i := by omega
        have e1 : ms.drop i = [] := List.drop_eq_nil_of_le (by omega)
        obtain ⟨x, r, e2⟩ : ∃ x r, ns.drop i = x :: r := by
          cases q : ns.drop i with
          | nil =>
            have := congrArg List.length q
            rw [List.length_drop] at this
            simp at this
            omega
          | cons x r => exact ⟨x, r, rfl⟩
        rw [e1, e2]
        show _ = false
        exact decide_eq_false (by omega)
    | succ k ih =>
      intro i e h1 h2
      have l1 : i < ns.length := by omega
      have l2 : i < ms.length := by omega
      rw [Ob.lexAt_succ, List.drop_eq_getElem_cons l1, List.drop_eq_getElem_cons l2]
      have d1 : ns.getD i 0 = ns[i] := by simp [List.getD, l1]
      have d2 : ms.getD i 0 = ms[i] := by simp [List.getD, l2]
      show (if decide (ns.getD i 0 = ms.getD i 0) = true then _ else decide (ns.getD i 0 ≤ ms.getD i 0)) = if ns[i] = ms[i] then lexLeI (ns.drop (i + 1)) (ms.drop (i + 1)) else decide (ns[i] ≤ ms[i])
      rw [d1, d2]
      by_cases z : ns[i] = ms[i]
      · rw [if_pos (decide_eq_true z), if_pos z]
        exact ih (i + 1) (by omega) (by omega) (by omega)
      · rw [if_neg (fun h => z (of_decide_eq_true h)), if_neg z]
  exact go _ 0 (by omega) (Nat.zero_le _) (Nat.zero_le _)
theorem cmS_leT : CmS X (rLeT X.K) (ordL fun x y => some (lexLeI x y)) := by
  intro H ha s v u x y d Q r1 g1 g2 e q
  obtain ⟨xs, ys, ns, ms, rfl, rfl, h1, h2, e⟩ := ordL_some e
  cases e
  cases g1 with
  | tup a1 a2 a3 =>
    cases g2 with
    | tup b1 b2 b3 =>
      have k1 := Reps.ints a3 h1
      have k2 := Reps.ints b3 h2
      subst k1 k2
      exact ⟨_, _, ns, ms, rfl, rfl, a1, b1, by rw [lexAt_le]; exact q⟩
theorem cmS_ord {r : R2} {f : Int → Int → Bool} {g : List Int → List Int → Option Bool} (h : CmS X r (ordL g)) : CmS X (fun x y H Q => (rI0 fun i j => .bl (f i j)) x y H Q ∨ r x y H Q) (fun s => ordT s f g) :=
  CmS.imp (CmS.or cmS_I h) fun s x y d e => by
    cases x <;> cases y <;> first
      | exact e
      | (simp only [ordT] at e; simp only [ordI]; exact e)
      | (simp only [ordT] at e; simp only [ordI, ordL]; exact e)
      | (simp only [ordT] at e; cases e)
theorem cmS_I' {f : Int → Int → Bool} : CmS X (rI0 fun i j => .bl (f i j)) (fun s => ordT s f fun _ _ => none) :=
  CmS.imp cmS_I fun s x y d e => by
    cases x <;> cases y <;> first
      | exact e
      | (simp only [ordT] at e; simp only [ordI]; exact e)
      | (simp only [ordT] at e; cases h1 : intsOf _ <;> rw [h1] at e <;> first | cases e | (cases h2 : intsOf _ <;> rw [h2] at e <;> cases e))
      | (simp only [ordT] at e; cases e)
/-! is -/
theorem cmS_isN : CmS X (fun x y H Q => y = .non ∧ Q (.bl (decide (x = .non))) H) (fun _ x y => match y with
    | .non => match x with
      | .scr _ => some false
      | .xcp _ _ _ => some false
      | x => isD x .non
    | _ => none) := by
  intro H ha s v u x y d Q r1 g1 g2 e q
  dsimp only at e
  split at e
  · cases g2
    refine ⟨rfl, ?_⟩
    have z : ∀ b, b = d → decide (v = V.non) = b → Q (.bl (decide (v = V.non))) H := fun b e1 e2 => by rw [e2, e1]; exact q
    cases g1 <;> (simp only [isD] at e; cases e; exact z _ rfl (by first | rfl | simp))
  · cases e
theorem cmS_isB : CmS X rIsB (fun _ x y => match x, y with
    | .bl a, .bl b => some (a == b)
    | _, _ => none) := by
  intro H ha s v u x y d Q r1 g1 g2 e q
  dsimp only at e
  split at e
  · cases e
    cases g1
    cases g2
    refine ⟨_, _, rfl, rfl, ?_⟩
    have z : ∀ a b : Bool, decide (a = b) = (a == b) := fun a b => by cases a <;> cases b <;> rfl
    rw [z]
    exact q
  · cases e
theorem cmS_is : CmS X (fun x y H Q => (y = .non ∧ Q (.bl (decide (x = .non))) H) ∨ rIsB x y H Q) (fun _ => isD) :=
  CmS.imp (CmS.or cmS_isN cmS_isB) fun s x y d e => by
    cases x <;> cases y <;> first | exact e | (simp only [isD] at e; cases e)
theorem op_isR : OpR X (compareOp .Is) (fun x y H Q => (y = .non ∧ Q (.bl (decide (x = .non))) H) ∨ rIsB x y H Q) := op_isN.or op_isBl
theorem cmS_notN : CmS X (fun x y H Q => y = .non ∧ Q (.bl (!decide (x = .non))) H) (fun _ x y => match y with
    | .non => match x with
      | .scr _ => some true
      | .xcp _ _ _ => some true
      | x => (isD x .non).map (!·)
    | _ => none) := by
  intro H ha s v u x y d Q r1 g1 g2 e q
  dsimp only at e
  split at e
  · cases g2
    refine ⟨rfl, ?_⟩
    have z : ∀ b, b = d → (!decide (v = V.non)) = b → Q (.bl (!decide (v = V.non))) H := fun b e1 e2 => by rw [e2, e1]; exact q
    cases g1 <;> (simp only [isD, Option.map_some] at e; cases e; exact z _ rfl (by first | rfl | simp))
  · cases e
theorem cmS_notB : CmS X rNotB (fun _ x y => match x, y with
    | .bl a, .bl b => some (!(a == b))
    | _, _ => none) := by
  intro H ha s v u x y d Q r1 g1 g2 e q
  dsimp only at e
  split at e
  · cases e
    cases g1
    cases g2
    refine ⟨_, _, rfl, rfl, ?_⟩
    have z : ∀ a b : Bool, decide (a = b) = (a == b) := fun a b => by cases a <;> cases b <;> rfl
    rw [z]
    exact q
  · cases e
theorem cmS_isnot : CmS X (fun x y H Q => (y = .non ∧ Q (.bl (!decide (x = .non))) H) ∨ rNotB x y H Q) (fun _ x y => (isD x y).map (!·)) :=
  CmS.imp (CmS.or cmS_notN cmS_notB) fun s x y d e => by
    cases x <;> cases y <;> first | exact e | (simp only [isD, Option.map_some] at e; exact e) | (simp only [isD, Option.map_none] at e; cases e)
theorem op_isnotR : OpR X (compareOp .IsNot) (fun x y H Q => (y = .non ∧ Q (.bl (!decide (x = .non))) H) ∨ rNotB x y H Q) := op_notN.or op_notBl
end
end RS

set_option Elab.async false
set_option linter.all false
set_option maxRecDepth 100000
/-! in, all comparisons; truth; displays; items; slices -/
namespace RS
open PySem PySem.Spec L2
open PyProof.Rows hiding St
section
variable {X : Cx} {W : WX} {a b e1 : Expr} {ma mb mc : Env → S → R D} {mt mu : Env → S → R Bool} {pos : Pos}

/-! ### in -/
def rInS (K : PySem.W.Frag) (neg : Bool) : R2 := fun x y H Q => ∃ d ds, Dp K H x d ∧ (Dp K H y (.list ds) ∨ Dp K H y (.tuple ds)) ∧ SeqAt.shaped d = true ∧ PyData.canLayAll0 ds = true ∧ Q (.bl (if neg then !(ds.any fun z => PyData.eqv z d) else ds.any fun z => PyData.eqv z d)) H
theorem op_inS (hu : X.A.units + 65 < cLine) : OpR X (compareOp .In) (rInS X.K false) := by
  intro pins s σ H x y v u Q I rx ry h
  obtain ⟨d, ds, hd, he, sd, se, q⟩ := h
  obtain ⟨as, r1⟩ := Dp.reads I d x v hd rx
  rcases he with he | he
  · obtain ⟨bs, r2⟩ := Dp.reads I (.list ds) y u he ry
    exact SeqAt.in_list_reads r2 r1 (by simpa [PyData.canLay0] using se) (SeqAt.canLay_of_shaped sd) (room_in_shaped sd hu) ⟨.bl _, H, I, rfl, q⟩
  · obtain ⟨bs, r2⟩ := Dp.reads I (.tuple ds) y u he ry
    exact SeqAt.in_tuple_reads r2 r1 (by simpa [PyData.canLay0] using se) (SeqAt.canLay_of_shaped sd) (room_in_shaped sd hu) ⟨.bl _, H, I, rfl, q⟩
theorem op_notInS (hu : X.A.units + 65 < cLine) : OpR X (compareOp .NotIn) (rInS X.K true) := by
  intro pins s σ H x y v u Q I rx ry h
  obtain ⟨d, ds, hd, he, sd, se, q⟩ := h
  obtain ⟨as, r1⟩ := Dp.reads I d x v hd rx
  rcases he with he | he
  · obtain ⟨bs, r2⟩ := Dp.reads I (.list ds) y u he ry
    exact SeqAt.notIn_list_reads r2 r1 (by simpa [PyData.canLay0] using se) (SeqAt.canLay_of_shaped sd) (room_in_shaped sd hu) ⟨.bl _, H, I, rfl, q⟩
  · obtain ⟨bs, r2⟩ := Dp.reads I (.tuple ds) y u he ry
    exact SeqAt.notIn_tuple_reads r2 r1 (by simpa [PyData.canLay0] using se) (SeqAt.canLay_of_shaped sd) (room_in_shaped sd hu) ⟨.bl _, H, I, rfl, q⟩
theorem all_eqOk : ∀ xs : List D, xs.all eqOk = true → flts xs = true
  | [], _ => rfl
  | x :: xs, h => by
    rw [List.all_cons, Bool.and_eq_true] at h
    have h1 : x.flt = true := by
      have := h.1
      unfold eqOk at this
      rw [Bool.and_eq_true] at this
      exact this.1
    show (x.flt && flts xs) = true
    rw [h1, all_eqOk xs h.2]
    rfl
theorem pys_any (d : D) : ∀ xs : List D, (pys xs).any (fun z => PyData.eqv z d.py) = xs.any fun z => eqD z d
  | [] => rfl
  | x :: xs => by
    show ((x.py :: pys xs).any fun z => PyData.eqv z d.py) = _
    rw [List.any_cons, List.any_cons, pys_any d xs]
    rfl
theorem inD_some {s : S} {x y : D} {d : Bool} (e : inD s x y = some d) : ∃ xs, seqOf s y = some xs ∧ eqOk (unh s x) = true ∧ xs.all eqOk = true ∧ d = xs.any fun z => eqD z (unh s x) := by
  unfold inD at e
  cases q : seqOf s y with
  | none => rw [q] at e; cases e
  | some xs =>
    rw [q] at e
    simp only [Option.bind_some] at e
    split at e
    · rename_i h
      rw [Bool.and_eq_true, Bool.and_eq_true] at h
      cases e
      exact ⟨xs, rfl, h.1, h.2.1, rfl⟩
    · cases e
theorem seq_dp {H : Hp} {ha : HA} {s : S} (r : SRel X.K H ha s) {u : V} {y : D} {xs : List D} (g : Rep X.K H (Av ha s) ha u y) (e : seqOf s y = some xs) (f : flts xs = true) : Dp X.K H u (.list (pys xs)) ∨ Dp X.K H u (.tuple (pys xs)) := by
  obtain ⟨p, vs, rfl, h1, _, h3⟩ := seq_at r g e
  rcases h1 with h1 | h1
  · exact .inl (.lst (SqL.of h1) (Reps.dp _ _ h3 f))
  · exact .inr (.tup h1 (Reps.dp _ _ h3 f))
theorem cmS_in : CmS X (rInS X.K false) inD := by
  intro H ha s v u x y d Q r1 g1 g2 e q
  obtain ⟨xs, h1, h2, h3, rfl⟩ := inD_some e
  refine ⟨_, pys xs, Rep.unh r1 g1 h2, seq_dp r1 g2 h1 (all_eqOk xs h3), eqOk_shaped h2, flts_lay xs (all_eqOk xs h3), ?_⟩
  rw [pys_any]
  exact q
theorem cmS_notIn : CmS X (rInS X.K true) (fun s x y => (inD s x y).map (!·)) := by
  intro H ha s v u x y d Q r1 g1 g2 e q
  dsimp only at e
  cases z : inD s x y with
  | none => rw [z] at e; cases e
  | some k =>
    rw [z] at e
    cases e
    obtain ⟨xs, h1, h2, h3, rfl⟩ := inD_some z
    refine ⟨_, pys xs, Rep.unh r1 g1 h2, seq_dp r1 g2 h1 (all_eqOk xs h3), eqOk_shaped h2, flts_lay xs (all_eqOk xs h3), ?_⟩
    rw [pys_any]
    exact q
/-! lists of different lengths -/
def rEqN (K : PySem.W.Frag) (neg : Bool) : R2 := fun x y H Q => ∃ p q xs ys, x = .ref p ∧ y = .ref q ∧ SqL K H p xs ∧ SqL K H q ys ∧ xs.length ≠ ys.length ∧ Q (.bl neg) H
theorem op_eqN (hu : X.A.units < cLine) : OpR X (compareOp .Eq) (rEqN X.K false) := by
  intro pins s σ H x y v u Q I r1 r2 ⟨p, q, xs, ys, e1, e2, h1, h2, hne, hq⟩
  subst e1 e2
  obtain rfl : v = Value.ref p := r1
  obtain rfl : u = Value.ref q := r2
  obtain ⟨its, rv, hp, _⟩ := I.list h1
  obtain ⟨its2, rv2, hp2, _⟩ := I.list h2
  exact SeqAt.RcAt.lists_lengths hp.isList hp2.isList (by have := rv.length; have := rv2.length; simp; omega) hu X.prog X.w X.xe _ ⟨.bl false, H, I, rfl, hq⟩
theorem op_neN (hu : X.A.units < cLine) : OpR X (compareOp .NotEq) (rEqN X.K true) := by
  intro pins s σ H x y v u Q I r1 r2 ⟨p, q, xs, ys, e1, e2, h1, h2, hne, hq⟩
  subst e1 e2
  obtain rfl : v = Value.ref p := r1
  obtain rfl : u = Value.ref q := r2
  obtain ⟨its, rv, hp, _⟩ := I.list h1
  obtain ⟨its2, rv2, hp2, _⟩ := I.list h2
  exact SeqAt.RcNeAt.lists_lengths hp.isList hp2.isList (by have := rv.length; have := rv2.length; simp; omega) hu X.prog X.w X.xe _ ⟨.bl true, H, I, rfl, hq⟩
theorem cmS_eqN : CmS X (rEqN X.K false) (fun _ => eqN) := by
  intro H ha s v u x y d Q r1 g1 g2 e q
  cases x with
  | lst xs =>
    cases y with
    | lst ys =>
      have e : (if xs.length ≠ ys.length then some false else none) = some d := e
      by_cases h : xs.length ≠ ys.length
      · rw [if_pos h] at e
        cases e
        cases g1 with
        | lst h1 h2 h3 h4 => cases g2 with
          | lst k1 k2 k3 k4 => exact ⟨_, _, _, _, rfl, rfl, SqL.of h1, SqL.of k1, by rw [h4.length, k4.length]; exact h, q⟩
      · rw [if_neg h] at e; cases e
    | _ => cases e
  | _ => cases e
theorem cmS_neN : CmS X (rEqN X.K true) (fun _ x y => (eqN x y).map (!·)) := by
  intro H ha s v u x y d Q r1 g1 g2 e q
  cases x with
  | lst xs =>
    cases y with
    | lst ys =>
      have e : (if xs.length ≠ ys.length then some false else none).map (!·) = some d := e
      by_cases h : xs.length ≠ ys.length
      · rw [if_pos h] at e
        cases e
        cases g1 with
        | lst h1 h2 h3 h4 => cases g2 with
          | lst k1 k2 k3 k4 => exact ⟨_, _, _, _, rfl, rfl, SqL.of h1, SqL.of k1, by rw [h4.length, k4.length]; exact h, q⟩
      · rw [if_neg h] at e; cases e
    | _ => cases e
  | _ => cases e
/-- each comparison has its rule -/
def CmR (X : Cx) (o : CmpOp) : Prop := ∃ r, OpR X (compareOp o) r ∧ CmS X r (cmpD o)
theorem cm_all (k : Cok X) (o : CmpOp) : CmR X o := by
  have hu : X.A.units + 64 < cLine := by have := k.un; omega
  cases o with
  | Eq => exact ⟨_, op_eq.or ((op_eqD hu).or (op_eqN (by omega))), CmS.imp (CmS.or cmS_eqS (CmS.or cmS_eq cmS_eqN)) fun s x y d e => e⟩
  | NotEq => exact ⟨_, op_ne.or ((op_neD hu).or (op_neN (by omega))), CmS.imp (CmS.or cmS_neS (CmS.or cmS_ne cmS_neN)) fun s x y d e => e⟩
  | Lt => exact ⟨_, op_lt.or (op_ltT (by omega)), CmS.imp (cmS_ord cmS_ltT) fun s x y d e => e⟩
  | LtE => exact ⟨_, op_le.or (op_leT (by omega)), CmS.imp (cmS_ord cmS_leT) fun s x y d e => e⟩
  | Gt => exact ⟨_, op_gt, CmS.imp (cmS_I' (f := fun i j => decide (j < i))) fun s x y d e => e⟩
  | GtE => exact ⟨_, op_ge, CmS.imp (cmS_I' (f := fun i j => decide (j ≤ i))) fun s x y d e => e⟩
  | Is => exact ⟨_, op_isR, CmS.imp cmS_is fun s x y d e => e⟩
  | IsNot => exact ⟨_, op_isnotR, CmS.imp cmS_isnot fun s x y d e => e⟩
  | In => exact ⟨_, op_inS (by have := k.un; omega), CmS.imp cmS_in fun s x y d e => e⟩
  | NotIn => exact ⟨_, op_notInS (by have := k.un; omega), CmS.imp cmS_notIn fun s x y d e => e⟩
theorem je_cmpD (k : Cok X) (o : CmpOp) (ha : PE X a (tM X W ma)) (hb : PE X b (tM X W mb)) (hm : behindInMarks o b = false) :
    PE X (.Compare a [o] [b] pos) (tM X W fun ρ s => (ma ρ s).bind fun x s1 => (mb ρ s1).bind fun y s2 => R.of s2 ((cmpD o s2 x y).map .bl)) := by
  obtain ⟨r, h1, h2⟩ := cm_all k o
  exact je_cmp h1 h2.opS ha hb hm
/-- .. as a test -/
def mCmp (o : CmpOp) (ma mb : Env → S → R D) : Env → S → R Bool := fun ρ s => (ma ρ s).bind fun x s1 => (mb ρ s1).bind fun y s2 => R.of s2 (cmpD o s2 x y)
theorem jt_cmpD (k : Cok X) (o : CmpOp) (ha : PE X a (tM X W ma)) (hb : PE X b (tM X W mb)) (hm : behindInMarks o b = false) :
    PT X (.Compare a [o] [b] pos) (tMT X W (mCmp o ma mb)) := by
  obtain ⟨r, h1, h2⟩ := cm_all k o
  refine PT.imp (pt_cmpR h1 ha hb hm) fun σ H Q ⟨ha, ρ, s, r0, e0, h⟩ => ?_
  refine ⟨ha, ρ, s, r0, e0, PtG.bind h fun x s1 v H1 ha1 r1 x1 g1 h1 => ?_⟩
  refine ⟨ha1, ρ, s1, r1, e0.ext x1 r0, PtG.bind h1 fun y s2 u H2 ha2 r2 x2 g2 h3 => ?_⟩
  obtain ⟨d, e, q⟩ := PtG.of h3
  exact h2 H2 ha2 s2 v u x y d _ r2 (Rep.ext x2 r1 x v g1) g2 e ⟨d, rfl, q d H2 ha2 r2 Ext.refl rfl⟩
/-- two comparisons in a chain -/
theorem je_chn (k : Cok X) (o o' : CmpOp) (ha : PE X a (tM X W ma)) (hb : PE X b (tM X W mb)) (hc : PE X e1 (tM X W mc)) (hm : lastMarks [o, o'] [b, e1] = false) :
    PE X (.Compare a [o, o'] [b, e1] pos) (tM X W fun ρ s => (ma ρ s).bind fun x s1 => (mb ρ s1).bind fun y s2 => match cmpD o s2 x y with
      | some true => (mc ρ s2).bind fun z s3 => R.of s3 ((cmpD o' s3 y z).map .bl)
      | some false => .ok (.bl false) s2
      | none => .bad) := by
  obtain ⟨r, h1, h2⟩ := cm_all k o
  obtain ⟨r', h1', h2'⟩ := cm_all k o'
  refine PE.imp (pe_chain h1 h1' ha hb hc hm) fun σ H Q ⟨ha, ρ, s, r0, e0, h⟩ => ?_
  refine ⟨ha, ρ, s, r0, e0, PtG.bind h fun x s1 v H1 ha1 r1 x1 g1 h1 => ?_⟩
  refine ⟨ha1, ρ, s1, r1, e0.ext x1 r0, PtG.bind h1 fun y s2 u H2 ha2 r2 x2 g2 h3 => ?_⟩
  cases z : cmpD o s2 x y with
  | none => rw [z] at h3; exact h3.elim
  | some c =>
    rw [z] at h3
    refine h2 H2 ha2 s2 v u x y c _ r2 (Rep.ext x2 r1 x v g1) g2 z ⟨c, rfl, ?_⟩
    cases c with
    | false =>
      rw [if_neg Bool.false_ne_true]
      exact h3 _ H2 ha2 r2 Ext.refl (.bl _)
    | true =>
      rw [if_pos rfl]
      refine ⟨ha2, ρ, s2, r2, (e0.ext x1 r0).ext x2 r1, PtG.bind h3 fun z s3 w H3 ha3 r3 x3 g3 h4 => ?_⟩
      obtain ⟨d, e, q⟩ := PtG.of h4
      cases z2 : cmpD o' s3 y z with
      | none => rw [z2] at e; cases e
      | some c2 =>
        rw [z2] at e
        cases e
        exact h2' H3 ha3 s3 u w y z c2 _ r3 (Rep.ext x3 r2 y u g2) g3 z2 (q _ H3 ha3 r3 Ext.refl (.bl _))
theorem jt_chn (k : Cok X) (o o' : CmpOp) (ha : PE X a (tM X W ma)) (hb : PE X b (tM X W mb)) (hc : PE X e1 (tM X W mc)) (hm : lastMarks [o, o'] [b, e1] = false) :
    PT X (.Compare a [o, o'] [b, e1] pos) (tMT X W fun ρ s => (ma ρ s).bind fun x s1 => (mb ρ s1).bind fun y s2 => match cmpD o s2 x y with
      | some true => (mc ρ s2).bind fun z s3 => R.of s3 (cmpD o' s3 y z)
      | some false => .ok false s2
      | none => .bad) := by
  obtain ⟨r, h1, h2⟩ := cm_all k o
  obtain ⟨r', h1', h2'⟩ := cm_all k o'
  refine PT.imp (pt_chain h1 h1' ha hb hc hm) fun σ H Q ⟨ha, ρ, s, r0, e0, h⟩ => ?_
  refine ⟨ha, ρ, s, r0, e0, PtG.bind h fun x s1 v H1 ha1 r1 x1 g1 h1 => ?_⟩
  refine ⟨ha1, ρ, s1, r1, e0.ext x1 r0, PtG.bind h1 fun y s2 u H2 ha2 r2 x2 g2 h3 => ?_⟩
  cases z : cmpD o s2 x y with
  | none => rw [z] at h3; exact h3.elim
  | some c =>
    rw [z] at h3
    refine h2 H2 ha2 s2 v u x y c _ r2 (Rep.ext x2 r1 x v g1) g2 z ⟨c, rfl, ?_⟩
    cases c with
    | false =>
      rw [if_neg Bool.false_ne_true]
      exact ⟨false, rfl, h3 _ H2 ha2 r2 Ext.refl rfl⟩
    | true =>
      rw [if_pos rfl]
      refine ⟨ha2, ρ, s2, r2, (e0.ext x1 r0).ext x2 r1, PtG.bind h3 fun z s3 w H3 ha3 r3 x3 g3 h4 => ?_⟩
      obtain ⟨d, e, q⟩ := PtG.of h4
      exact h2' H3 ha3 s3 u w y z d _ r3 (Rep.ext x3 r2 y u g2) g3 e ⟨d, rfl, q _ H3 ha3 r3 Ext.refl rfl⟩

/-! ### not, and, or, if else -/
theorem je_not (ha : PE X a (tM X W ma)) : PE X (.UnaryOp .Not a pos) (tM X W fun ρ s => (ma ρ s).bind fun x s1 => match x with
    | .bl b => .ok (.bl (!b)) s1
    | _ => .bad) :=
  PE.imp (pe_not ha) fun σ H Q ⟨ha, ρ, s, r, e, h⟩ => ⟨ha, ρ, s, r, e, PtG.bind h fun x s1 v H1 ha1 r1 x1 g1 h1 => by
    cases g1 with
    | bl i => exact ⟨i, rfl, h1 _ _ _ r1 Ext.refl (.bl _)⟩
    | _ => exact h1.elim⟩
theorem je_and {rest : List Expr} (ha : PE X a (tM X W ma)) (hb : PE X (.BoolOp .And (b :: rest) pos) (tM X W mb)) : PE X (.BoolOp .And (a :: b :: rest) pos) (tM X W fun ρ s => (ma ρ s).bind fun x s1 => match x with
    | .bl true => mb ρ s1
    | .bl false => .ok (.bl false) s1
    | _ => .bad) :=
  PE.imp (pe_and ha hb) fun σ H Q ⟨ha, ρ, s, r, e, h⟩ => ⟨ha, ρ, s, r, e, PtG.bind h fun x s1 v H1 ha1 r1 x1 g1 h1 => by
    cases g1 with
    | bl i =>
      cases i with
      | true => exact ⟨true, rfl, by rw [if_pos rfl]; exact ⟨ha1, ρ, s1, r1, e.ext x1 r, h1⟩⟩
      | false => exact ⟨false, rfl, by rw [if_neg Bool.false_ne_true]; exact h1 _ _ _ r1 Ext.refl (.bl _)⟩
    | _ => exact h1.elim⟩
theorem je_or {rest : List Expr} (ha : PE X a (tM X W ma)) (hb : PE X (.BoolOp .Or (b :: rest) pos) (tM X W mb)) : PE X (.BoolOp .Or (a :: b :: rest) pos) (tM X W fun ρ s => (ma ρ s).bind fun x s1 => match x with
    | .bl false => mb ρ s1
    | .bl true => .ok (.bl true) s1
    | _ => .bad) :=
  PE.imp (pe_or ha hb) fun σ H Q ⟨ha, ρ, s, r, e, h⟩ => ⟨ha, ρ, s, r, e, PtG.bind h fun x s1 v H1 ha1 r1 x1 g1 h1 => by
    cases g1 with
    | bl i =>
      cases i with
      | false => exact ⟨false, rfl, by rw [if_neg Bool.false_ne_true]; exact ⟨ha1, ρ, s1, r1, e.ext x1 r, h1⟩⟩
      | true => exact ⟨true, rfl, by rw [if_pos rfl]; exact h1 _ _ _ r1 Ext.refl (.bl _)⟩
    | _ => exact h1.elim⟩
theorem je_ife {c : Expr} (hc : PT X c (tMT X W mt)) (ha : PE X a (tM X W ma)) (hb : PE X b (tM X W mb)) : PE X (.IfExp c a b pos) (tM X W fun ρ s => (mt ρ s).bind fun c s1 => if c then ma ρ s1 else mb ρ s1) :=
  PE.imp (pe_ifExp hc ha hb) fun σ H Q ⟨ha, ρ, s, r, e, h⟩ => ⟨ha, ρ, s, r, e, PtG.bind h fun x s1 v H1 ha1 r1 x1 g1 h1 => by
    cases g1
    cases x with
    | true => rw [if_pos rfl] at h1 ⊢; exact ⟨ha1, ρ, s1, r1, e.ext x1 r, h1⟩
    | false => rw [if_neg Bool.false_ne_true] at h1 ⊢; exact ⟨ha1, ρ, s1, r1, e.ext x1 r, h1⟩⟩
/-! tests -/
theorem jt_not {c : Expr} (hc : PT X c (tMT X W mt)) : PT X (.UnaryOp .Not c pos) (tMT X W fun ρ s => (mt ρ s).bind fun c s1 => .ok (!c) s1) :=
  PT.imp (pt_not hc) fun σ H Q ⟨ha, ρ, s, r, e, h⟩ => ⟨ha, ρ, s, r, e, PtG.bind h fun x s1 v H1 ha1 r1 x1 g1 h1 => by
    cases g1
    exact h1 _ _ _ r1 Ext.refl rfl⟩
theorem jw_and {c c2 : Expr} {rest : List Expr} (hc : PT X c (tMT X W mt)) (hr : PW X (.BoolOp .And (c2 :: rest) pos) (tMT X W mu)) : PW X (.BoolOp .And (c :: c2 :: rest) pos) (tMT X W fun ρ s => (mt ρ s).bind fun c s1 => if c then mu ρ s1 else .ok false s1) :=
  PW.imp (pw_and hc hr) fun σ H Q ⟨ha, ρ, s, r, e, h⟩ => ⟨ha, ρ, s, r, e, PtG.bind h fun x s1 v H1 ha1 r1 x1 g1 h1 => by
    cases g1
    cases x with
    | true => rw [if_pos rfl] at h1 ⊢; exact ⟨ha1, ρ, s1, r1, e.ext x1 r, h1⟩
    | false => rw [if_neg Bool.false_ne_true] at h1 ⊢; exact h1 _ _ _ r1 Ext.refl rfl⟩
theorem jw_or {c c2 : Expr} {rest : List Expr} (hc : PT X c (tMT X W mt)) (hr : PW X (.BoolOp .Or (c2 :: rest) pos) (tMT X W mu)) : PW X (.BoolOp .Or (c :: c2 :: rest) pos) (tMT X W fun ρ s => (mt ρ s).bind fun c s1 => if c then .ok true s1 else mu ρ s1) :=
  PW.imp (pw_or hc hr) fun σ H Q ⟨ha, ρ, s, r, e, h⟩ => ⟨ha, ρ, s, r, e, PtG.bind h fun x s1 v H1 ha1 r1 x1 g1 h1 => by
    cases g1
    cases x with
    | true => rw [if_pos rfl] at h1 ⊢; exact h1 _ _ _ r1 Ext.refl rfl
    | false => rw [if_neg Bool.false_ne_true] at h1 ⊢; exact ⟨ha1, ρ, s1, r1, e.ext x1 r, h1⟩⟩
theorem tru_at {K : PySem.W.Frag} {H : Hp} {ha : HA} {s : S} (r : SRel K H ha s) {v : V} {d : D} {k : Bool} (g : Rep K H (Av ha s) ha v d) (e : tru s d = some k) : TruV K v H k := by
  have sq : ∀ xs, seqOf s d = some xs → k = !xs.isEmpty → TruV K v H k := fun xs q ek => by
    obtain ⟨p, vs, rfl, h1, _, h3⟩ := seq_at r g q
    have ee : vs.isEmpty = xs.isEmpty := by
      have := h3.length
      cases vs <;> cases xs <;> simp_all
    rcases h1 with h1 | h1
    · exact .inl ⟨vs, SqL.of h1, by rw [ee]; exact ek⟩
    · exact .inr (.inl ⟨vs, h1, by rw [ee]; exact ek⟩)
  cases g with
  | non => cases e; rfl
  | bl b => cases e; rfl
  | int i => cases e; rfl
  | str x =>
    have e' : (if x.length ≤ CAP then some (x.length != 0) else none) = some k := e
    split at e'
    · rename_i h
      cases e'
      refine ⟨cap_line h, ?_⟩
      have z : ∀ n : Nat, (n != 0) = ((n : Int) != 0) := fun n => by
        cases n with
        | zero => rfl
        | succ n => rw [bne_iff_ne.mpr (by omega), bne_iff_ne.mpr (by omega)]
      exact z _
    · cases e'
  | scr h1 h2 => cases e
  | xc0 => cases e
  | xc1 => cases e
  | dic h1 h2 h3 h4 => cases e
  | tup h1 h2 h3 =>
    have e' : ((seqOf s (.tup _)).map fun xs => !xs.isEmpty) = some k := e
    cases e'
    exact sq _ rfl rfl
  | lst h1 h2 h3 h4 =>
    have e' : ((seqOf s (.lst _)).map fun xs => !xs.isEmpty) = some k := e
    cases e'
    exact sq _ rfl rfl
  | @hnd p i h1 =>
    have e' : ((seqOf s (.hnd i)).map fun xs => !xs.isEmpty) = some k := e
    cases q : seqOf s (.hnd i) with
    | none => rw [q] at e'; cases e'
    | some xs =>
      rw [q] at e'
      cases e'
      exact sq xs q rfl
theorem jt_val (ha : PE X a (tM X W ma)) (he : ∀ whole, isTrue a X.env whole = (do let v ← whole; standAt a.pos; holding [v] (truthy v))) : PT X a (tMT X W fun ρ s => (ma ρ s).bind fun x s1 => R.of s1 (tru s1 x)) :=
  PT.imp (pt_truth ha he) fun σ H Q ⟨ha, ρ, s, r, e, h⟩ => ⟨ha, ρ, s, r, e, PtG.bind h fun x s1 v H1 ha1 r1 x1 g1 h1 => by
    obtain ⟨d, e2, q⟩ := PtG.of h1
    exact ⟨d, tru_at r1 g1 e2, q d H1 ha1 r1 Ext.refl rfl⟩⟩

/-! ### argument lists, displays -/
theorem ja_nil : PA X [] (tMA X W fun ρ s => .ok [] s) := PA.imp pa_nil fun σ H Q ⟨ha, ρ, s, r, e, h⟩ => h _ _ _ r Ext.refl .nil
theorem ja_cons {es : List Expr} {ms : Env → S → R (List D)} (ha : PE X a (tM X W ma)) (hr : PA X es (tMA X W ms)) (hs : starEach (a :: es) X.env = (false, eval a X.env) :: starEach es X.env) :
    PA X (a :: es) (tMA X W fun ρ s => (ma ρ s).bind fun x s1 => (ms ρ s1).bind fun xs s2 => .ok (x :: xs) s2) :=
  PA.imp (pa_cons ha hr hs) fun σ H Q ⟨ha, ρ, s, r, e, h⟩ => ⟨ha, ρ, s, r, e, PtG.bind h fun x s1 v H1 ha1 r1 x1 g1 h1 =>
    ⟨ha1, ρ, s1, r1, e.ext x1 r, PtG.bind h1 fun xs s2 vs H2 ha2 r2 x2 g2 h2 => h2 _ _ _ r2 Ext.refl (.cons (Rep.ext x2 r1 x v g1) g2)⟩⟩
theorem je_tup {es : List Expr} {ms : Env → S → R (List D)} {k : Nat} (hz : ∀ ρ s xs s', ms ρ s = .ok xs s' → xs.length ≤ CAP) (h : PA X es (tMA X W ms)) : PE X (.Tuple es k pos) (tM X W fun ρ s => (ms ρ s).bind fun xs s1 => .ok (.tup xs) s1) :=
  PE.imp (pe_tup h) fun σ H Q ⟨ha, ρ, s, r, e, h⟩ => ⟨ha, ρ, s, r, e, by
    dsimp only at h
    cases q : ms ρ s with
    | bad => rw [q] at h; exact h.elim
    | exc c fs ρ' s' => rw [q] at h; exact h
    | ok xs s1 =>
      rw [q] at h
      intro vs H1 ha1 r1 x1 g1
      have z : vs.length ≤ sizeLine := by rw [g1.length]; exact cap_line (hz _ _ _ _ q)
      exact ⟨z, fun p hp => h _ _ ha1 (r1.new1 hp) (x1.trans (Ext.new1 (K := X.K) hp)) (rep_newT r1 hp z g1)⟩⟩
theorem je_lst {es : List Expr} {ms : Env → S → R (List D)} (hz : ∀ ρ s xs s', ms ρ s = .ok xs s' → xs.length ≤ CAP) (h : PA X es (tMA X W ms)) : PE X (.List es pos) (tM X W fun ρ s => (ms ρ s).bind fun xs s1 => .ok (.lst xs) s1) :=
  PE.imp (pe_lst h) fun σ H Q ⟨ha, ρ, s, r, e, h⟩ => ⟨ha, ρ, s, r, e, by
    dsimp only at h
    cases q : ms ρ s with
    | bad => rw [q] at h; exact h.elim
    | exc c fs ρ' s' => rw [q] at h; exact h
    | ok xs s1 =>
      rw [q] at h
      intro vs H1 ha1 r1 x1 g1
      have z : vs.length ≤ sizeLine := by rw [g1.length]; exact cap_line (hz _ _ _ _ q)
      exact ⟨z, fun p hp => h _ _ ha1 (r1.new1 hp) (x1.trans (Ext.new1 (K := X.K) hp)) (rep_newL r1 hp z g1)⟩⟩
/-! ### items -/
theorem atI_rep {K : PySem.W.Frag} {H : Hp} {A : Addr → Prop} {ha : HA} {vs : List V} {xs : List D} {i : Int} {d : D} (g : Reps K H A ha vs xs) (e : atI xs i = some d) : ∃ v, atI vs i = some v ∧ Rep K H A ha v d := by
  unfold atI at e ⊢
  rw [g.length]
  cases q : ixN xs.length i with
  | none => rw [q] at e; cases e
  | some j =>
    rw [q] at e
    obtain ⟨v, h1, h2⟩ := g.get (i := j) e
    exact ⟨v, h1, h2⟩
theorem opS_ix : OpS X (rIx X.K) idxD := by
  intro H ha s v u x y d Q r1 g1 g2 e q
  unfold idxD at e
  split at e
  · rename_i k
    cases g2
    split at e
    · rename_i z
      cases g1
      split at e
      · rename_i h
        cases e2 : atI z.cps.toList k with
        | none => rw [e2] at e; cases e
        | some c =>
          rw [e2] at e
          cases e
          exact .inr (.inr ⟨z, k, c, rfl, rfl, cap_line h, e2, q _ _ _ r1 Ext.refl (.str _)⟩)
      · cases e
    · cases e2 : seqOf s x with
      | none => rw [e2] at e; cases e
      | some xs =>
        rw [e2] at e
        obtain ⟨p, vs, rfl, h1, _, h3⟩ := seq_at r1 g1 e2
        obtain ⟨v', k1, k2⟩ := atI_rep h3 (show atI xs k = some d from e)
        rcases h1 with h1 | h1
        · exact .inl ⟨p, vs, k, v', rfl, rfl, SqL.of h1, k1, q _ _ _ r1 Ext.refl k2⟩
        · exact .inr (.inl ⟨p, vs, k, v', rfl, rfl, h1, k1, q _ _ _ r1 Ext.refl k2⟩)
  · cases e
theorem je_idx (ha : PE X a (tM X W ma)) (hb : PE X b (tM X W mb)) (hs : PlainIx b) : PE X (.Subscript a b pos) (tM X W fun ρ s => (ma ρ s).bind fun x s1 => (mb ρ s1).bind fun y s2 => R.of s2 (idxD s2 x y)) :=
  PE.imp (pe_ix ix_seq ha hb hs) fun σ H Q h => tM2 opS_ix h
end
section
variable {X : Cx} {W : WX} {a b c e1 : Expr} {ma mb mc md : Env → S → R D} {pos : Pos}
variable {b' c' d' : Expr}
def tChain3 (r r' r'' : R2) (ta tb tc td : TE) : TE := fun σ H Q => ta σ H fun x H1 => tb σ H1 fun y H2 => r x y H2 fun z H3 => ∃ k, z = .bl k ∧
  (if k = true then tc σ H3 fun w H4 => r' y w H4 fun z H5 => ∃ k, z = .bl k ∧ (if k = true then td σ H5 fun w' H6 => r'' w w' H6 Q else Q (.bl false) H5) else Q (.bl false) H3)
theorem pe_chain3 {op op' op'' : CmpOp} {r r' r'' : R2} {ta tb tc td : TE} (ho : OpR X (compareOp op) r) (ho' : OpR X (compareOp op') r') (ho'' : OpR X (compareOp op'') r'') (ha : PE X a ta) (hb : PE X b tb) (hc : PE X c tc) (hd : PE X d' td)
    (hm : lastMarks [op, op', op''] [b, c, d'] = false) : PE X (.Compare a [op, op', op''] [b, c, d'] pos) (tChain3 r r' r'' ta tb tc td) := by
  refine ⟨fun pins s σ H Q I h => ?_⟩
  refine Compare_chain (thn (ha.run pins s σ H _ I h) fun v s1 ⟨x, H1, I1, r1, q1⟩ => chain_link (thn (hb.run pins s1 σ H1 _ I1 q1) fun u s2 ⟨y, H2, I2, r2, q2⟩ =>
    thn (ho pins s2 σ H2 x y v u _ I2 r1 r2 q2) fun d s3 ⟨z, H3, I3, r3, k, e, q3⟩ => ?_)) hm
  subst e
  cases r3
  refine wpAny_truthy_bool ?_
  cases k with
  | false => exact ite_ff ⟨.bl false, H3, I3, rfl, q3⟩
  | true =>
    refine ite_tt (chain_link (thn (hc.run pins s3 σ H3 _ I3 q3) fun w' s4 ⟨z', H4, I4, r4, q4⟩ => thn (ho' pins s4 σ H4 y z' u w' _ I4 r2 r4 q4) fun d s5 ⟨z, H5, I5, r5, k, e, q5⟩ => ?_))
    subst e
    cases r5
    refine wpAny_truthy_bool ?_
    cases k with
    | false => exact ite_ff ⟨.bl false, H5, I5, rfl, q5⟩
    | true => exact ite_tt (chain_last (thn (hd.run pins s5 σ H5 _ I5 q5) fun w2 s6 ⟨z2, H6, I6, r6, q6⟩ => ho'' pins s6 σ H6 z' z2 w' w2 Q I6 r4 r6 q6))
theorem pt_chain3 {op op' op'' : CmpOp} {r r' r'' : R2} {ta tb tc td : TE} (ho : OpR X (compareOp op) r) (ho' : OpR X (compareOp op') r') (ho'' : OpR X (compareOp op'') r'') (ha : PE X a ta) (hb : PE X b tb) (hc : PE X c tc) (hd : PE X d' td)
    (hm : lastMarks [op, op', op''] [b, c, d'] = false) : PT X (.Compare a [op, op', op''] [b, c, d'] pos) (tTest (tChain3 r r' r'' ta tb tc td)) := by
  refine ⟨fun pins s σ H Q I h => ?_⟩
  refine isTrue_chain (thn (ha.run pins s σ H _ I h) fun v s1 ⟨x, H1, I1, r1, q1⟩ => test_link (thn (hb.run pins s1 σ H1 _ I1 q1) fun u s2 ⟨y, H2, I2, r2, q2⟩ =>
    thn (ho pins s2 σ H2 x y v u _ I2 r1 r2 q2) fun d s3 ⟨z, H3, I3, r3, k, e, q3⟩ => ?_)) hm
  subst e
  cases r3
  refine wpAny_truthy_bool ?_
  cases k with
  | false =>
    obtain ⟨k', e', q'⟩ := q3
    cases e'
    exact ite_ff ⟨H3, I3, q'⟩
  | true =>
    refine ite_tt (test_link (thn (hc.run pins s3 σ H3 _ I3 q3) fun w' s4 ⟨z', H4, I4, r4, q4⟩ => thn (ho' pins s4 σ H4 y z' u w' _ I4 r2 r4 q4) fun d s5 ⟨z, H5, I5, r5, k, e, q5⟩ => ?_))
    subst e
    cases r5
    refine wpAny_truthy_bool ?_
    cases k with
    | false =>
      obtain ⟨k', e', q'⟩ := q5
      cases e'
      exact ite_ff ⟨H5, I5, q'⟩
    | true =>
      refine ite_tt (test_last (thn (hd.run pins s5 σ H5 _ I5 q5) fun w2 s6 ⟨z2, H6, I6, r6, q6⟩ => thn (ho'' pins s6 σ H6 z' z2 w' w2 _ I6 r4 r6 q6) fun d3 s7 ⟨z3, H7, I7, r7, k2, e2, q7⟩ => ?_))
      subst e2
      cases r7
      exact wpAny_truthy_bool ⟨H7, I7, q7⟩
theorem je_chn3 (k : Cok X) (o o' o'' : CmpOp) (ha : PE X a (tM X W ma)) (hb : PE X b (tM X W mb)) (hc : PE X c (tM X W mc)) (hd : PE X d' (tM X W md)) (hm : lastMarks [o, o', o''] [b, c, d'] = false) :
    PE X (.Compare a [o, o', o''] [b, c, d'] pos) (tM X W fun ρ s => (ma ρ s).bind fun x s1 => (mb ρ s1).bind fun y s2 => match cmpD o s2 x y with
      | some true => (mc ρ s2).bind fun z s3 => match cmpD o' s3 y z with
        | some true => (md ρ s3).bind fun w s4 => R.of s4 ((cmpD o'' s4 z w).map .bl)
        | some false => .ok (.bl false) s3
        | none => .bad
      | some false => .ok (.bl false) s2
      | none => .bad) := by
  obtain ⟨r, h1, h2⟩ := cm_all k o
  obtain ⟨r', h1', h2'⟩ := cm_all k o'
  obtain ⟨r'', h1'', h2''⟩ := cm_all k o''
  refine PE.imp (pe_chain3 h1 h1' h1'' ha hb hc hd hm) fun σ H Q ⟨ha, ρ, s, r0, e0, h⟩ => ?_
  refine ⟨ha, ρ, s, r0, e0, PtG.bind h fun x s1 v H1 ha1 r1 x1 g1 h1 => ?_⟩
  refine ⟨ha1, ρ, s1, r1, e0.ext x1 r0, PtG.bind h1 fun y s2 u H2 ha2 r2 x2 g2 h3 => ?_⟩
  cases z : cmpD o s2 x y with
  | none => rw [z] at h3; exact h3.elim
  | some c =>
    rw [z] at h3
    refine h2 H2 ha2 s2 v u x y c _ r2 (Rep.ext x2 r1 x v g1) g2 z ⟨c, rfl, ?_⟩
    cases c with
    | false =>
      rw [if_neg Bool.false_ne_true]
      exact h3 _ H2 ha2 r2 Ext.refl (.bl _)
    | true =>
      rw [if_pos rfl]
      refine ⟨ha2, ρ, s2, r2, (e0.ext x1 r0).ext x2 r1, PtG.bind h3 fun z s3 w H3 ha3 r3 x3 g3 h4 => ?_⟩
      cases zz : cmpD o' s3 y z with
      | none => rw [zz] at h4; exact h4.elim
      | some c =>
        rw [zz] at h4
        refine h2' H3 ha3 s3 u w y z c _ r3 (Rep.ext x3 r2 y u g2) g3 zz ⟨c, rfl, ?_⟩
        cases c with
        | false =>
          rw [if_neg Bool.false_ne_true]
          exact h4 _ H3 ha3 r3 Ext.refl (.bl _)
        | true =>
          rw [if_pos rfl]
          refine ⟨ha3, ρ, s3, r3, ((e0.ext x1 r0).ext x2 r1).ext x3 r2, PtG.bind h4 fun z' s4 w4 H4 ha4 r4 x4 g4 h5 => ?_⟩
          obtain ⟨d, e, q⟩ := PtG.of h5
          cases z2 : cmpD o'' s4 z z' with
          | none => rw [z2] at e; cases e
          | some c2 =>
            rw [z2] at e
            cases e
            exact h2'' H4 ha4 s4 w w4 z z' c2 _ r4 (Rep.ext x4 r3 z w g3) g4 z2 (q _ H4 ha4 r4 Ext.refl (.bl _))
theorem jt_chn3 (k : Cok X) (o o' o'' : CmpOp) (ha : PE X a (tM X W ma)) (hb : PE X b (tM X W mb)) (hc : PE X c (tM X W mc)) (hd : PE X d' (tM X W md)) (hm : lastMarks [o, o', o''] [b, c, d'] = false) :
    PT X (.Compare a [o, o', o''] [b, c, d'] pos) (tMT X W fun ρ s => (ma ρ s).bind fun x s1 => (mb ρ s1).bind fun y s2 => match cmpD o s2 x y with
      | some true => (mc ρ s2).bind fun z s3 => match cmpD o' s3 y z with
        | some true => (md ρ s3).bind fun w s4 => R.of s4 (cmpD o'' s4 z w)
        | some false => .ok false s3
        | none => .bad
      | some false => .ok false s2
      | none => .bad) := by
  obtain ⟨r, h1, h2⟩ := cm_all k o
  obtain ⟨r', h1', h2'⟩ := cm_all k o'
  obtain ⟨r'', h1'', h2''⟩ := cm_all k o''
  refine PT.imp (pt_chain3 h1 h1' h1'' ha hb hc hd hm) fun σ H Q ⟨ha, ρ, s, r0, e0, h⟩ => ?_
  refine ⟨ha, ρ, s, r0, e0, PtG.bind h fun x s1 v H1 ha1 r1 x1 g1 h1 => ?_⟩
  refine ⟨ha1, ρ, s1, r1, e0.ext x1 r0, PtG.bind h1 fun y s2 u H2 ha2 r2 x2 g2 h3 => ?_⟩
  cases z : cmpD o s2 x y with
  | none => rw [z] at h3; exact h3.elim
  | some c =>
    rw [z] at h3
    refine h2 H2 ha2 s2 v u x y c _ r2 (Rep.ext x2 r1 x v g1) g2 z ⟨c, rfl, ?_⟩
    cases c with
    | false =>
      rw [if_neg Bool.false_ne_true]
      exact ⟨false, rfl, h3 _ H2 ha2 r2 Ext.refl rfl⟩
    | true =>
      rw [if_pos rfl]
      refine ⟨ha2, ρ, s2, r2, (e0.ext x1 r0).ext x2 r1, PtG.bind h3 fun z s3 w H3 ha3 r3 x3 g3 h4 => ?_⟩
      cases zz : cmpD o' s3 y z with
      | none => rw [zz] at h4; exact h4.elim
      | some c =>
        rw [zz] at h4
        refine h2' H3 ha3 s3 u w y z c _ r3 (Rep.ext x3 r2 y u g2) g3 zz ⟨c, rfl, ?_⟩
        cases c with
        | false =>
          rw [if_neg Bool.false_ne_true]
          exact ⟨false, rfl, h4 _ H3 ha3 r3 Ext.refl rfl⟩
        | true =>
          rw [if_pos rfl]
          refine ⟨ha3, ρ, s3, r3, ((e0.ext x1 r0).ext x2 r1).ext x3 r2, PtG.bind h4 fun z' s4 w4 H4 ha4 r4 x4 g4 h5 => ?_⟩
          obtain ⟨d, e, q⟩ := PtG.of h5
          exact h2'' H4 ha4 s4 w w4 z z' d _ r4 (Rep.ext x4 r3 z w g3) g4 e ⟨d, rfl, q _ H4 ha4 r4 Ext.refl rfl⟩
end
end RS

set_option Elab.async false
set_option linter.all false
set_option maxRecDepth 100000
/-! slices -/
namespace RS
open PySem PySem.Spec L2 HT
open PyProof.Rows hiding St
section
variable {prog : Program} {w : World} {A : Around} {E : Value → Shared → Prop} {s : Shared}
theorem rev_pick (its : List Value) : ((List.range its.length).filterMap fun (m : Nat) => its.toArray[(((its.length : Int) - 1) + (m : Int) * (-1)).toNat]?) = its.reverse := by
  have e : ∀ m, m ∈ List.range its.length → its.toArray[(((its.length : Int) - 1) + (m : Int) * (-1)).toNat]? = its.reverse[m]? := fun m hm => by
    have hm' := List.mem_range.mp hm
    rw [List.getElem?_toArray, List.getElem?_reverse hm', show (((its.length : Int) - 1) + (m : Int) * (-1)).toNat = its.length - 1 - m by omega]
  have go : ∀ (l : List Nat), (∀ m ∈ l, m ∈ List.range its.length) → l.filterMap (fun (m : Nat) => its.toArray[(((its.length : Int) - 1) + (m : Int) * (-1)).toNat]?) = l.filterMap fun m => its.reverse[m]? := fun l => by
    induction l with
    | nil => intro _; rfl
    | cons m l ih =>
      intro h
      rw [List.filterMap_cons, List.filterMap_cons, e m (h m List.mem_cons_self), ih fun k hk => h k (List.mem_cons_of_mem _ hk)]
  rw [go _ fun _ h => h]
  have := PySem.W.krv_all its.reverse.toArray
  rw [List.size_toArray, List.length_reverse] at this
  simp only [List.getElem?_toArray] at this
  exact this
theorem getItem_tuple_rev {t sl : Addr} {its : List Value} {tk : Tok} {Q : Value → Shared → Prop} (ht : IsTup s.heap t its.toArray) (hs : s.heap.IsSliceOf sl .none .none (.int (-1) tk))
    (h : Q (.ref s.heap.objs.size) { s with heap := s.heap.push { cls := .type "tuple", data := .seq its.reverse.toArray } })
    (hsz : its.length ≤ sizeLine) : wpAny (model prog w) A (getItem (.ref t) (.ref sl)) Q E s := by
  have htake : sizeOk (.seq its.reverse.toArray) := by
    show its.reverse.toArray.size ≤ sizeLine
    rw [List.size_toArray, List.length_reverse]
    exact hsz
  obtain ⟨os, hos, hcs, hds⟩ := id hs
  have hTs : s.TypeIs (.ref sl) "slice" := ⟨os, hos, hcs⟩
  unfold getItem
  try with_reducible refine wpAny_holding ?_
  first | refine wpAny_bind (wpAny_pure ?_) | skip
  refine wpAny_bind (wpAny_sequenceKey ht.typeIs (by decide) ?_)
  refine wpAny_bind (wpAny_callSpecial?_slot (name := Str.ofString "__getitem__") ht.typeIs PyProof.Rows.slot_tuple_getitem
    (wpAny_call_entry PyProof.Rows.slot_tuple_getitem ht.typeIs entry_tuple_getitem ?_ (args_tuple_getitem _ _)))
  show wpAny _ _ (Builtin.Tuple.tupleItemsOf (.ref t) >>= _) _ _ s
  refine wpAny_bind (tupleItemsOf_ ht ?_)
  refine wpAny_bind (wpAny_typeOf hTs ?_)
  rw [if_pos (by decide)]
  have ap : ∀ {R : Int × Int × Nat → Shared → Prop}, R (((its.length : Nat) : Int) - 1, -1, its.length) s → wpAny (model prog w) A.in1 (Builtin.Slice.sliceApplied (.ref sl) (pure ((its.toArray.size : Nat) : Int))) R E s := fun {R} hR => by
    unfold Builtin.Slice.sliceApplied Builtin.Slice.sliceFields
    refine wpAny_bind (wpAny_bind (wpAny_field hos hds (x := .none) rfl (wpAny_bind (wpAny_field hos hds (x := .none) rfl (wpAny_bind (wpAny_field hos hds (x := .int (-1) tk) rfl (wpAny_pure ?_)))))))
    refine wpAny_bind (slicePart_int ?_)
    show wpAny _ _ (if ((-1 : Int) == 0) = true then _ else _) _ _ s
    rw [if_neg (by decide)]
    refine wpAny_bind (slicePart_none (wpAny_bind (slicePart_none (wpAny_bind (wpAny_pure ?_)))))
    have e1 : Builtin.Slice.sliceAdjust none none (-1) ((its.toArray.size : Nat) : Int) = (((its.length : Nat) : Int) - 1, -1) := by
      unfold Builtin.Slice.sliceAdjust
      rw [List.size_toArray]
      rfl
    show wpAny _ _ (match Builtin.Slice.sliceAdjust none none (-1) ((its.toArray.size : Nat) : Int) with | (lo, hi) => pure (lo, (-1 : Int), Builtin.Slice.slicePlaces lo hi (-1))) _ _ s
    rw [e1]
    have e2 : Builtin.Slice.slicePlaces (((its.length : Nat) : Int) - 1) (-1) (-1) = its.length := by
      unfold Builtin.Slice.slicePlaces
      have h1 : ¬ ((-1 : Int) > 0) := by omega
      simp only [h1, if_false]
      split
      · rw [show (-(-1 : Int)) = 1 by decide, Int.ediv_one]
        omega
      · omega
    show wpAny _ _ (pure (((its.length : Nat) : Int) - 1, (-1 : Int), Builtin.Slice.slicePlaces (((its.length : Nat) : Int) - 1) (-1) (-1))) _ _ s
    rw [e2]
    exact wpAny_pure hR
  refine wpAny_bind (ap ?_)
  have hno : ¬ (((((its.length : Nat) : Int) - 1) == 0 && (-1 : Int) == 1 && its.length == its.toArray.size) = true) := by
    intro q
    rw [Bool.and_eq_true, Bool.and_eq_true] at q
    exact absurd q.1.2 (by decide)
  show wpAny _ _ (if ((((its.length : Nat) : Int) - 1) == 0 && (-1 : Int) == 1 && its.length == its.toArray.size) = true then _ else _) _ _ s
  rw [if_neg hno, rev_pick]
  first
    | exact wpAny_bind (m := Builtin.Tuple.tupleExact _) (wpAny_newObj_type (wpAny_pure ⟨_, rfl, wpAny_pure h⟩) htake)
    | exact wpAny_bind (m := Builtin.Tuple.tupleExact _) (wpAny_newObj_type (wpAny_bind (wpAny_pure (wpAny_pure ⟨_, rfl, wpAny_pure h⟩))) htake)
    | exact wpAny_bind (wpAny_bind (m := Builtin.Tuple.tupleExact _) (wpAny_newObj_type (wpAny_pure (wpAny_pure ⟨_, rfl, wpAny_pure h⟩)) htake))
    | exact wpAny_bind (wpAny_bind (m := Builtin.Tuple.tupleExact _) (wpAny_newObj_type (wpAny_pure ⟨_, rfl, wpAny_pure h⟩) htake))
end
section
variable {X : Cx} {W : WX} {a b e1 : Expr} {ma mb mc : Env → S → R D} {mt mu : Env → S → R Bool} {pos : Pos}
/-! ### xs[::-1] -/
def tRev (K : PySem.W.Frag) (te : TE) : TE := fun σ H Q => te σ H fun x H1 => (∃ a xs, x = .ref a ∧ SqL K H1 a xs ∧ ∀ p, H1 p = none → Q (.ref p) (upd H1 p (.lst xs.reverse))) ∨
  (∃ a xs, x = .ref a ∧ SqT K H1 a xs ∧ ∀ p, H1 p = none → Q (.ref p) (upd H1 p (.tup xs.reverse)))
theorem pe_rev {e : Expr} {te : TE} {k : Nat} {p1 p2 p3 pos : Pos} (he : PE X e te) : PE X (.Subscript e (.Slice none none (some (.UnaryOp .USub (.Constant (.int 1) k p1) p2)) p3) pos) (tRev X.K te) := by
  refine ⟨fun pins s σ H Q I h => ?_⟩
  refine Subscript_ (thn (he.run pins s σ H _ I h) fun v s1 ⟨x, H1, I1, r1, q1⟩ => ?_)
  have hst : PO X (some (.UnaryOp .USub (.Constant (.int 1) k p1) p2)) (tPart (tUn (rU fun i => .int (-i)) (tC (.int 1)))) := po_some (pe_un un_neg pe_int)
  refine wpAny_Slice (thn (po_none.run pins s1 σ H1 (fun o H2 => o = none ∧ H2 = H1) I1 ⟨rfl, rfl⟩) fun vl s2 ⟨l, H2, I2, pl, el, e2⟩ => ?_)
  subst el e2
  refine thn (po_none.run pins s2 σ H2 (fun o H3 => o = none ∧ H3 = H2) I2 ⟨rfl, rfl⟩) fun vu s3 ⟨u, H3, I3, pu, eu, e3⟩ => ?_
  subst eu e3
  refine thn (hst.run pins s3 σ H3 (fun o H4 => o = some (-1) ∧ H4 = H3) I3 ⟨1, rfl, -1, rfl, rfl, rfl⟩) fun vs s4 ⟨o, H4, I4, ps, eo, e4⟩ => ?_
  subst eo e4
  have I5 : Inv X pins σ H4 { s4 with heap := s4.heap.push { cls := .type "slice", data := .fields #[vl, vu, vs] } } := I4.kept (t' := s4.toks) fun b ob q => Heap.get?_push_of_some _ q
  rcases q1 with ⟨a, xs, ex, hx, q⟩ | ⟨a, xs, ex, hx, q⟩
  · subst ex
    cases r1
    obtain ⟨its, r, ht, hz⟩ := I5.list hx
    have hlen := r.length
    show wpAny (model X.prog X.w) X.A (subscriptTail e (.Slice none none (some (.UnaryOp .USub (.Constant (.int 1) k p1) p2)) p3) (.ref a) (.ref s4.heap.objs.size)) (EP X pins σ Q) X.xe { s4 with heap := s4.heap.push { cls := .type "slice", data := .fields #[vl, vu, vs] } }
    refine tail_any (ops := [.ref a, .ref s4.heap.objs.size]) ht.isList.typeIs (PySem.slot_list_getitem.lookup) ?_ (by with_unfolding_all rfl)
    refine wpAny_getItem_list_slice ht.isList (Heap.IsSliceOf.new _ vl vu vs) pl pu ps (by decide) ?_ (by rw [List.size_toArray]; omega)
    rw [PySem.W.krv_pick]
    refine ⟨.ref _, _, I5.laid (t' := s4.toks) (o := .lst xs.reverse) (fun b ob q => Heap.get?_push_of_some _ q) (Nat.le_refl _) ?_, rfl, q _ (I5.hok.fresh (Nat.le_refl _))⟩
    exact ⟨by rw [List.length_reverse]; exact hz, _, 0, r.reverse, Heap.get?_push_size _ rfl⟩
  · subst ex
    cases r1
    obtain ⟨its, r, ht, hz⟩ := I5.tuple hx
    have hlen := r.length
    cases pl
    cases pu
    obtain ⟨tk, rfl⟩ : ∃ tk, vs = .int (-1) tk := by cases ps; exact ⟨_, rfl⟩
    show wpAny (model X.prog X.w) X.A (subscriptTail e (.Slice none none (some (.UnaryOp .USub (.Constant (.int 1) k p1) p2)) p3) (.ref a) (.ref s4.heap.objs.size)) (EP X pins σ Q) X.xe { s4 with heap := s4.heap.push { cls := .type "slice", data := .fields #[.none, .none, .int (-1) tk] } }
    refine tail_any (ops := [.ref a, .ref s4.heap.objs.size]) ht.typeIs (PyProof.Rows.slot_tuple_getitem.lookup) ?_ (by with_unfolding_all rfl)
    refine getItem_tuple_rev ht (Heap.IsSliceOf.new _ .none .none (.int (-1) tk)) ?_ (by omega)
    refine ⟨.ref _, _, I5.laid (t' := s4.toks) (o := .tup xs.reverse) (fun b ob q => Heap.get?_push_of_some _ q) (Nat.le_refl _) ?_, rfl, q _ (I5.hok.fresh (Nat.le_refl _))⟩
    exact ⟨by rw [List.length_reverse]; exact hz, _, r.reverse, IsTup.new _ _⟩
theorem je_rev {k : Nat} {p1 p2 p3 : Pos} (ha : PE X a (tM X W ma)) : PE X (.Subscript a (.Slice none none (some (.UnaryOp .USub (.Constant (.int 1) k p1) p2)) p3) pos) (tM X W fun ρ s => (ma ρ s).bind fun x s1 => match x with
    | .tup xs => .ok (.tup xs.reverse) s1
    | x => R.of s1 ((lstOf s1 x).map fun xs => .lst xs.reverse)) :=
  PE.imp (pe_rev ha) fun σ H Q ⟨ha, ρ, s, r, e, h⟩ => ⟨ha, ρ, s, r, e, PtG.bind h fun x s1 v H1 ha1 r1 x1 g1 h1 => by
    have tu : ∀ xs, x = .tup xs → (∃ a xs, v = .ref a ∧ SqT X.K H1 a xs ∧ ∀ p, H1 p = none → Q (.ref p) (upd H1 p (.tup xs.reverse))) := fun xs ex => by
      subst ex
      cases g1 with
      | tup a1 a2 a3 =>
        refine ⟨_, _, rfl, a1, fun p hp => ?_⟩
        exact h1 _ _ ha1 (r1.new1 hp) (Ext.new1 (K := X.K) hp) (rep_newT r1 hp (by rw [List.length_reverse]; exact a2) a3.reverse)
    have li : PtG (gE X.K) X W σ Q ha1 s1 H1 (R.of s1 ((lstOf s1 x).map fun xs => .lst xs.reverse)) → (∃ a xs, v = .ref a ∧ SqL X.K H1 a xs ∧ ∀ p, H1 p = none → Q (.ref p) (upd H1 p (.lst xs.reverse))) := fun h2 => by
      obtain ⟨d, ed, q⟩ := PtG.of h2
      cases e2 : lstOf s1 x with
      | none => rw [e2] at ed; cases ed
      | some xs =>
        rw [e2] at ed
        cases ed
        obtain ⟨p, vs, rfl, k1, k2, k3⟩ := lst_at r1 g1 e2
        exact ⟨p, vs, rfl, SqL.of k1, fun p hp => q _ _ ha1 (r1.new1 hp) (Ext.new1 (K := X.K) hp) (rep_newL r1 hp (by rw [List.length_reverse]; exact k2) k3.reverse)⟩
    cases x with
    | tup xs => exact .inr (tu xs rfl)
    | _ => exact .inl (li h1)⟩
/-! ### xs[a:b] -/
def SlS (X : Cx) (r : V → Option Int → Option Int → Hp → VK → Prop) : Prop := ∀ (H : Hp) (ha : HA) (s : S) (v : V) (x d : D) (lo hi : Option Int) (Q : VK), SRel X.K H ha s → Rep X.K H (Av ha s) ha v x → slcD s x lo hi = some d →
  (∀ v' H' ha', SRel X.K H' ha' s → Ext ha s H ha' s H' → Rep X.K H' (Av ha' s) ha' v' d → Q v' H') → r v lo hi H Q
theorem Reps.cut {K : PySem.W.Frag} {H : Hp} {A : Addr → Prop} {ha : HA} {vs : List V} {xs : List D} (g : Reps K H A ha vs xs) (lo hi : Option Int) : Reps K H A ha (cutV vs lo hi) (cutD xs lo hi) := by
  unfold cutV cutD
  rw [g.length]
  exact (g.drop _).take _
theorem cutV_ints (ns : List Int) (lo hi : Option Int) : cutV (ns.map V.int) lo hi = (cutZ ns lo hi).map V.int := by
  unfold cutV cutZ
  rw [List.length_map, List.map_take, List.map_drop]
theorem slS : SlS X (fun x lo hi H Q => rSlA X.K x lo hi H Q ∨ rSlL X.K x lo hi H Q) := by
  intro H ha s v x d lo hi Q r1 g1 e q
  have li : ∀ xs, lstOf s x = some xs → d = .lst (cutD xs lo hi) → rSlL X.K v lo hi H Q := fun xs e2 ed => by
    subst ed
    obtain ⟨p, vs, rfl, k1, k2, k3⟩ := lst_at r1 g1 e2
    exact ⟨p, vs, rfl, SqL.of k1, fun t ht => q _ _ ha (r1.new1 ht) (Ext.new1 (K := X.K) ht) (rep_newL r1 ht (Nat.le_trans (cutV_length vs lo hi) k2) (k3.cut lo hi))⟩
  cases g1 with
  | @tup p vs xs a1 a2 a3 =>
    cases e
    refine .inl ⟨p, vs, rfl, a1, fun z => ?_, fun z t ht => ?_⟩
    · have e : cutD xs lo hi = xs := by
        unfold cutD
        rw [← a3.length, z.1, z.2]
        rw [List.drop_zero, Nat.sub_zero, a3.length, List.take_length]
      rw [e] at q
      exact q _ H ha r1 Ext.refl (.tup a1 a2 a3)
    · exact q _ _ ha (r1.new1 ht) (Ext.new1 (K := X.K) ht) (rep_newT r1 ht (Nat.le_trans (cutV_length vs lo hi) a2) (a3.cut lo hi))
  | @scr p ns a1 a2 =>
    cases e
    refine .inr ⟨p, _, rfl, a1.sql, fun t ht => ?_⟩
    refine q _ _ ha (r1.new1 ht) (Ext.new1 (K := X.K) ht) (rep_newL r1 ht ?_ ?_)
    · have := cutV_length (ns.map V.int) lo hi
      rw [List.length_map] at this
      exact cap_line (Nat.le_trans this a2)
    · rw [cutV_ints]
      exact Reps.of_ints _
  | lst a1 a2 a3 a4 => exact .inr (li _ rfl (by cases e; rfl))
  | @hnd p i a1 =>
    have e' : ((lstOf s (.hnd i)).map fun xs => .lst (cutD xs lo hi)) = some d := e
    cases e2 : lstOf s (.hnd i) with
    | none => rw [e2] at e'; cases e'
    | some xs =>
      rw [e2] at e'
      cases e'
      exact .inr (li xs e2 rfl)
  | _ => cases e
theorem jo_none : PO X none (tMO X W fun ρ s => .ok none s) := ⟨fun pins s σ H Q I ⟨ha, ρ, s', r, e, h⟩ => po_none.run pins s σ H Q I (h _ H ha r Ext.refl rfl)⟩
theorem jo_some (ha : PE X a (tM X W ma)) : PO X (some a) (tMO X W fun ρ s => (ma ρ s).bind fun x s1 => match x with
    | .int i => .ok (some i) s1
    | _ => .bad) := ⟨fun pins s σ H Q I ⟨ha', ρ, s', r, e, h⟩ => (po_some ha).run pins s σ H Q I ⟨ha', ρ, s', r, e, PtG.bind h fun x s1 v H1 ha1 r1 x1 g1 h1 => by
    cases g1 with
    | int i => exact ⟨i, rfl, h1 _ _ _ r1 Ext.refl rfl⟩
    | _ => exact h1.elim⟩⟩
theorem je_slc {lo hi : Option Expr} {ml mh : Env → S → R (Option Int)} {p2 : Pos} (ha : PE X a (tM X W ma)) (hl : PO X lo (tMO X W ml)) (hh : PO X hi (tMO X W mh)) :
    PE X (.Subscript a (.Slice lo hi none p2) pos) (tM X W fun ρ s => (ma ρ s).bind fun x s1 => (ml ρ s1).bind fun l s2 => (mh ρ s2).bind fun h s3 => R.of s3 (slcD s3 x l h)) :=
  PE.imp (pe_slice (sl_tupA.or sl_list) ha hl hh) fun σ H Q ⟨ha, ρ, s, r, e, h⟩ => ⟨ha, ρ, s, r, e, PtG.bind h fun x s1 v H1 ha1 r1 x1 g1 h1 =>
    ⟨ha1, ρ, s1, r1, e.ext x1 r, PtG.bind h1 fun l s2 lv H2 ha2 r2 x2 g2 h2 =>
      ⟨ha2, ρ, s2, r2, (e.ext x1 r).ext x2 r1, PtG.bind h2 fun u s3 uv H3 ha3 r3 x3 g3 h3 => by
        cases g2
        cases g3
        obtain ⟨d, ed, q⟩ := PtG.of h3
        exact slS H3 ha3 s3 v x d _ _ Q r3 (Rep.ext x3 r2 x v (Rep.ext x2 r1 x v g1)) ed q⟩⟩⟩
end
end RS

set_option Elab.async false
set_option linter.all false
set_option maxRecDepth 100000
/-! built-in functions -/
namespace RS
open PySem PySem.Spec L2
open PyProof.Rows hiding St

/-! ### the text of data fits -/
theorem natlog_of {n : Nat} (h : n < 2 ^ 1000) : n.log2 < 1920 := by
  by_cases z : n = 0
  · subst z; decide
  · have := (Nat.log2_lt z).mpr h
    omega
mutual
theorem shw_show : ∀ d : D, d.shw = true → d.py.showable = true
  | .non, _ => by simp only [D.py, PyData.showable]
  | .bl _, _ => by simp only [D.py, PyData.showable]
  | .int i, f => by
    simp only [D.py, PyData.showable, decide_eq_true_eq]
    have f' : decide (i.natAbs < 2 ^ 1000) = true := f
    exact natlog_of (of_decide_eq_true f')
  | .str x, _ => by simp only [D.py, PyData.showable]
  | .tup xs, f => by
    simp only [D.py, PyData.showable]
    exact shws_show xs f
  | .lst xs, f => by
    simp only [D.py, PyData.showable]
    exact shws_show xs f
  | .dic kvs, f => by
    simp only [D.py, PyData.showable]
    exact shwkv_show kvs f
  | .hnd _, f => by cases f
  | .scr _, f => by cases f
  | .xcp _ _ _, f => by cases f
theorem shws_show : ∀ ds : List D, shws ds = true → PyData.showableAll (pys ds) = true
  | [], _ => by simp only [pys, PyData.showableAll]
  | d :: ds, f => by
    have f' : (d.shw && shws ds) = true := f
    rw [Bool.and_eq_true] at f'
    simp only [pys, PyData.showableAll, Bool.and_eq_true]
    exact ⟨shw_show d f'.1, shws_show ds f'.2⟩
theorem shwkv_show : ∀ ds : List (Key × D), shwkv ds = true → PyData.showableKv (pykv ds) = true
  | [], _ => by simp only [pykv, PyData.showableKv]
  | (.inl i, d) :: ds, f => by
    have f' : (decide (i.natAbs < 2 ^ 1000) && (d.shw && shwkv ds)) = true := f
    rw [Bool.and_eq_true, Bool.and_eq_true, decide_eq_true_eq] at f'
    simp only [pykv, keyPy, PyData.showableKv, PyData.showable, Bool.and_eq_true, decide_eq_true_eq]
    exact ⟨⟨natlog_of f'.1, shw_show d f'.2.1⟩, shwkv_show ds f'.2.2⟩
  | (.inr x, d) :: ds, f => by
    have f' : (PyData.strOk x && (d.shw && shwkv ds)) = true := f
    rw [Bool.and_eq_true, Bool.and_eq_true] at f'
    simp only [pykv, keyPy, PyData.showableKv, PyData.showable, Bool.true_and, Bool.and_eq_true]
    exact ⟨shw_show d f'.2.1, shwkv_show ds f'.2.2⟩
end
section
variable {X : Cx} {W : WX} {a b e1 : Expr} {ma mb mc : Env → S → R D} {mt mu : Env → S → R Bool} {pos : Pos}

def C1S (X : Cx) (r : List V → Hp → VK → Prop) (g : S → D → Option D) : Prop := ∀ (H : Hp) (ha : HA) (s : S) (v : V) (x d : D) (Q : VK), SRel X.K H ha s → Rep X.K H (Av ha s) ha v x → g s x = some d →
  (∀ v' H' ha', SRel X.K H' ha' s → Ext ha s H ha' s H' → Rep X.K H' (Av ha' s) ha' v' d → Q v' H') → r [v] H Q
theorem tMc {r : List V → Hp → VK → Prop} {g : S → D → Option D} (hs : C1S X r g) {σ : L2.St} {H : Hp} {Q : VK} (h : tM X W (fun ρ s => (ma ρ s).bind fun x s1 => R.of s1 (g s1 x)) σ H Q) : tCB r (tCons (tM X W ma) tNil) σ H Q := by
  obtain ⟨ha, ρ, s, r0, e0, h⟩ := h
  refine ⟨ha, ρ, s, r0, e0, PtG.bind h fun x s1 v H1 ha1 r1 x1 g1 h1 => ?_⟩
  obtain ⟨d, e, q⟩ := PtG.of h1
  exact hs H1 ha1 s1 v x d Q r1 g1 e q
theorem C1S.imp {r : List V → Hp → VK → Prop} {g g' : S → D → Option D} (h : C1S X r g) (i : ∀ s x d, g' s x = some d → g s x = some d) : C1S X r g' := fun H ha s v x d Q r1 g1 e q => h H ha s v x d Q r1 g1 (i s x d e) q
/-- abs -/
theorem c1_abs : C1S X (fun xs H Q => ∃ i, xs = [.int i] ∧ Q (.int (if i < 0 then -i else i)) H) (f1D .abs) := by
  intro H ha s v x d Q r1 g1 e q
  cases g1 with
  | int i => cases e; exact ⟨i, rfl, q _ _ _ r1 Ext.refl (.int _)⟩
  | _ => cases e
theorem c1_len : C1S X (fun xs H Q => ∃ x n, xs = [x] ∧ LenV X.K x H n ∧ Q (.int n) H) (f1D .len) := by
  intro H ha s v x d Q r1 g1 e q
  have sq : ∀ xs, seqOf s x = some xs → d = .int xs.length → ∃ x n, [v] = [x] ∧ LenV X.K x H n ∧ Q (.int n) H := fun xs e2 ed => by
    subst ed
    obtain ⟨p, vs, rfl, h1, h2, h3⟩ := seq_at r1 g1 e2
    refine ⟨.ref p, xs.length, rfl, ?_, q _ _ _ r1 Ext.refl (.int _)⟩
    rw [← h3.length]
    rcases h1 with h1 | h1
    · exact .inl ⟨vs, SqL.of h1, rfl⟩
    · exact .inr ⟨vs, h1, rfl⟩
  cases g1 with
  | str x =>
    have e' : (if x.length ≤ CAP then some (D.int x.length) else none) = some d := e
    split at e'
    · rename_i h
      cases e'
      exact ⟨_, _, rfl, ⟨cap_line h, rfl⟩, q _ _ _ r1 Ext.refl (.int _)⟩
    · cases e'
  | @scr p ns h1 h2 =>
    cases e
    refine ⟨.ref p, ns.length, rfl, ?_, q _ _ _ r1 Ext.refl (.int _)⟩
    exact .inl ⟨_, h1.sql, by rw [List.length_map]⟩
  | tup h1 h2 h3 => exact sq _ rfl (by cases e; rfl)
  | lst h1 h2 h3 h4 => exact sq _ rfl (by cases e; rfl)
  | @hnd p i h1 =>
    have e' : ((seqOf s (.hnd i)).map fun xs => D.int xs.length) = some d := e
    cases e2 : seqOf s (.hnd i) with
    | none => rw [e2] at e'; cases e'
    | some xs =>
      rw [e2] at e'
      cases e'
      exact sq xs e2 rfl
  | _ => cases e
theorem c1_tuple : C1S X (fun xs H Q => ∃ p ys, xs = [.ref p] ∧ ((SqL X.K H p ys ∧ ∀ l, H l = none → Q (.ref l) (upd H l (.tup ys))) ∨ (SqT X.K H p ys ∧ Q (.ref p) H))) (f1D .tuple) := by
  intro H ha s v x d Q r1 g1 e q
  have li : ∀ xs, lstOf s x = some xs → d = .tup xs → ∃ p ys, [v] = [.ref p] ∧ ((SqL X.K H p ys ∧ ∀ l, H l = none → Q (.ref l) (upd H l (.tup ys))) ∨ (SqT X.K H p ys ∧ Q (.ref p) H)) := fun xs e2 ed => by
    subst ed
    obtain ⟨p, vs, rfl, h1, h2, h3⟩ := lst_at r1 g1 e2
    exact ⟨p, vs, rfl, .inl ⟨SqL.of h1, fun t ht => q _ _ ha (r1.new1 ht) (Ext.new1 (K := X.K) ht) (rep_newT r1 ht h2 h3)⟩⟩
  cases g1 with
  | tup h1 h2 h3 => cases e; exact ⟨_, _, rfl, .inr ⟨h1, q _ _ _ r1 Ext.refl (.tup h1 h2 h3)⟩⟩
  | lst h1 h2 h3 h4 => exact li _ rfl (by cases e; rfl)
  | @hnd p i h1 =>
    have e' : ((lstOf s (.hnd i)).map D.tup) = some d := e
    cases e2 : lstOf s (.hnd i) with
    | none => rw [e2] at e'; cases e'
    | some xs =>
      rw [e2] at e'
      cases e'
      exact li xs e2 rfl
  | _ => cases e
theorem c1_list : C1S X (fun xs H Q => ∃ p ys, xs = [.ref p] ∧ (SqL X.K H p ys ∨ SqT X.K H p ys) ∧ ∀ l, H l = none → Q (.ref l) (upd H l (.lst ys))) (f1D .list) := by
  intro H ha s v x d Q r1 g1 e q
  have e' : ((seqOf s x).map D.lst) = some d := by cases x <;> exact e
  cases e2 : seqOf s x with
  | none => rw [e2] at e'; cases e'
  | some xs =>
    rw [e2] at e'
    cases e'
    obtain ⟨p, vs, rfl, h1, h2, h3⟩ := seq_at r1 g1 e2
    refine ⟨p, vs, rfl, ?_, fun t ht => q _ _ ha (r1.new1 ht) (Ext.new1 (K := X.K) ht) (rep_newL r1 ht h2 h3)⟩
    rcases h1 with h1 | h1
    · exact .inl (SqL.of h1)
    · exact .inr h1
theorem c1_int : C1S X (fun xs H Q => (∃ i, xs = [.int i] ∧ Q (.int i) H) ∨ ∃ k, xs = [.bl k] ∧ Q (.int (if k then 1 else 0)) H) (f1D .int) := by
  intro H ha s v x d Q r1 g1 e q
  cases g1 with
  | int i => cases e; exact .inl ⟨i, rfl, q _ _ _ r1 Ext.refl (.int _)⟩
  | bl b => cases e; exact .inr ⟨b, rfl, q _ _ _ r1 Ext.refl (.int _)⟩
  | _ => cases e
theorem ints_at {H : Hp} {ha : HA} {s : S} (r : SRel X.K H ha s) {v : V} {x : D} {ns : List Int} (g : Rep X.K H (Av ha s) ha v x) (e : (lstOf s x).bind intsOf = some ns) : ∃ p, v = .ref p ∧ SqL X.K H p (ns.map V.int) := by
  cases e2 : lstOf s x with
  | none => rw [e2] at e; cases e
  | some xs =>
    rw [e2] at e
    obtain ⟨p, vs, rfl, h1, h2, h3⟩ := lst_at r g e2
    have := Reps.ints h3 e
    subst this
    exact ⟨p, rfl, SqL.of h1⟩
theorem bools_at {H : Hp} {ha : HA} {s : S} (r : SRel X.K H ha s) {v : V} {x : D} {ns : List Bool} (g : Rep X.K H (Av ha s) ha v x) (e : (lstOf s x).bind boolsOf = some ns) : ∃ p, v = .ref p ∧ SqL X.K H p (ns.map V.bl) := by
  cases e2 : lstOf s x with
  | none => rw [e2] at e; cases e
  | some xs =>
    rw [e2] at e
    obtain ⟨p, vs, rfl, h1, h2, h3⟩ := lst_at r g e2
    have := Reps.bools h3 e
    subst this
    exact ⟨p, rfl, SqL.of h1⟩
theorem c1_sum : C1S X (rSum X.K) (f1D .sum) := by
  intro H ha s v x d Q r1 g1 e q
  have e' : ((lstOf s x).bind intsOf).map (fun ns => D.int ns.sum) = some d := by cases x <;> exact e
  cases e2 : (lstOf s x).bind intsOf with
  | none => rw [e2] at e'; cases e'
  | some ns =>
    rw [e2] at e'
    cases e'
    obtain ⟨p, rfl, h⟩ := ints_at r1 g1 e2
    exact ⟨p, ns, rfl, h, q _ _ _ r1 Ext.refl (.int _)⟩
theorem c1_all : C1S X (rAll X.K) (f1D .all) := by
  intro H ha s v x d Q r1 g1 e q
  have e' : ((lstOf s x).bind boolsOf).map (fun bs => D.bl (bs.all id)) = some d := by cases x <;> exact e
  cases e2 : (lstOf s x).bind boolsOf with
  | none => rw [e2] at e'; cases e'
  | some ns =>
    rw [e2] at e'
    cases e'
    obtain ⟨p, rfl, h⟩ := bools_at r1 g1 e2
    exact ⟨p, ns, rfl, h, q _ _ _ r1 Ext.refl (.bl _)⟩
theorem c1_any : C1S X (rAny X.K) (f1D .any) := by
  intro H ha s v x d Q r1 g1 e q
  have e' : ((lstOf s x).bind boolsOf).map (fun bs => D.bl (bs.any id)) = some d := by cases x <;> exact e
  cases e2 : (lstOf s x).bind boolsOf with
  | none => rw [e2] at e'; cases e'
  | some ns =>
    rw [e2] at e'
    cases e'
    obtain ⟨p, rfl, h⟩ := bools_at r1 g1 e2
    exact ⟨p, ns, rfl, h, q _ _ _ r1 Ext.refl (.bl _)⟩
theorem maxL_mem : ∀ ns : List Int, ns ≠ [] → maxL ns ∈ ns ∧ ∀ y ∈ ns, y ≤ maxL ns
  | [], h => absurd rfl h
  | [x], _ => ⟨by simp [maxL], fun y hy => by simp at hy; subst hy; exact Int.le_refl _⟩
  | x :: y :: r, _ => by
    obtain ⟨h1, h2⟩ := maxL_mem (y :: r) (by simp)
    have e : maxL (x :: y :: r) = max x (maxL (y :: r)) := rfl
    rw [e]
    constructor
    · by_cases z : x ≤ maxL (y :: r)
      · rw [Int.max_eq_right z]; exact List.mem_cons_of_mem _ h1
      · rw [Int.max_eq_left (by omega)]; exact List.mem_cons_self
    · intro w hw
      rcases List.mem_cons.mp hw with e | hw
      · subst e; exact Int.le_max_left _ _
      · exact Int.le_trans (h2 w hw) (Int.le_max_right _ _)
theorem minL_mem : ∀ ns : List Int, ns ≠ [] → minL ns ∈ ns ∧ ∀ y ∈ ns, minL ns ≤ y
  | [], h => absurd rfl h
  | [x], _ => ⟨by simp [minL], fun y hy => by simp at hy; subst hy; exact Int.le_refl _⟩
  | x :: y :: r, _ => by
    obtain ⟨h1, h2⟩ := minL_mem (y :: r) (by simp)
    have e : minL (x :: y :: r) = min x (minL (y :: r)) := rfl
    rw [e]
    constructor
    · by_cases z : x ≤ minL (y :: r)
      · rw [Int.min_eq_left z]; exact List.mem_cons_self
      · rw [Int.min_eq_right (by omega)]; exact List.mem_cons_of_mem _ h1
    · intro w hw
      rcases List.mem_cons.mp hw with e | hw
      · subst e; exact Int.min_le_left _ _
      · exact Int.le_trans (Int.min_le_right _ _) (h2 w hw)
/-! least, greatest of a tuple -/
theorem ints_get : ∀ {its : List Value} {ns : List Int} {i : Nat} {v : Value}, IntsAre its ns → its[i]? = some v → ∃ t, v = .int (ns.getD i 0) t
  | _, _, _, _, .nil, h => by simp at h
  | _, _, 0, _, .cons n t _, h => by cases h; exact ⟨t, rfl⟩
  | _, _, i + 1, _, .cons n t r, h => ints_get (i := i) r (by simpa using h)
theorem ints_len : ∀ {its : List Value} {ns : List Int}, IntsAre its ns → its.length = ns.length
  | _, _, .nil => rfl
  | _, _, .cons n t r => congrArg Nat.succ (ints_len r)
theorem getD_mem {ns : List Int} {k : Nat} (h : k < ns.length) : ns.getD k 0 ∈ ns := by
  rw [List.getD_eq_getElem?_getD, List.getElem?_eq_getElem h]
  exact List.getElem_mem _
theorem mem_getD {ns : List Int} {a : Int} (h : a ∈ ns) : ∃ j, j < ns.length ∧ ns.getD j 0 = a := by
  obtain ⟨j, hj, e⟩ := List.mem_iff_getElem.mp h
  exact ⟨j, hj, by rw [List.getD_eq_getElem?_getD, List.getElem?_eq_getElem hj, e]; rfl⟩
section
variable {prog : Program} {w : World} {A : Around} {E : Value → Shared → Prop} {s : Shared} {l : Addr} {its : List Value} {ns : List Int} {Q : Value → Shared → Prop}
theorem min_tup (hh : A.handled = none) (ht : s.heap.IsTuple l its.toArray) (hi : IntsAre its ns) (h0 : 0 < ns.length)
    (h : ∀ (h' : Heap) (tk : Nat) (M : Int) (t' : Tok), (∀ (b : Addr) (o : Obj), s.heap.get? b = some o → h'.get? b = some o) → M ∈ ns → (∀ a ∈ ns, M ≤ a) → Q (.int M t') { s with heap := h', toks := tk }) :
    wpAny (model prog w) A (call (.builtin "min") [.ref l]) Q E s := by
  obtain ⟨o, ho, hc, n, hd⟩ := id ht
  have hl := Heap.lt_size ho
  have hlen := ints_len hi
  obtain ⟨val, hval⟩ : ∃ val : Nat → Int, ∀ i, val i = ns.getD i 0 := ⟨fun i => ns.getD i 0, fun _ => rfl⟩
  have hsz : its.toArray.size = its.length := rfl
  have W := Walks.tuple (prog := prog) (w := w) (A := A.in1) hh s.heap.objs.size l (Nat.ne_of_lt hl) its.toArray
  have S0 : (s.heap.push { cls := Value.type "tuple_iterator", data := Data.fields #[Value.ref l, Value.int 0 0] }).IsTupleIter s.heap.objs.size l 0 ∧ (s.heap.push { cls := Value.type "tuple_iterator", data := Data.fields #[Value.ref l, Value.int 0 0] }).IsTuple l its.toArray :=
    ⟨⟨_, Heap.get?_push_size _ rfl, rfl, rfl⟩, ⟨o, Heap.get?_push_of_some _ ho, hc, n, hd⟩⟩
  refine call_min_walk (wpAny_pyIter_tuple ht ⟨s.heap.objs.size, _, _, its.toArray.size, _, _, fun i j => decide (val i < val j), rfl, W, S0, fun b m => ?_, by omega,
    CmpOf.ints_lt val (fun i v e => by rw [hval]; exact ints_get hi (by simpa using e)), fun v h' tk e keep => ?_⟩)
  · have e1 : (s.heap.push { cls := Value.type "tuple_iterator", data := Data.fields #[Value.ref l, Value.int 0 0] }).objs.size = s.heap.objs.size + 1 := size_push' ..
    show b < (s.heap.push { cls := Value.type "tuple_iterator", data := Data.fields #[Value.ref l, Value.int 0 0] }).objs.size
    rw [e1]
    rcases List.mem_cons.mp m with m | m
    · rw [m]; exact Nat.lt_succ_self _
    · rw [List.mem_singleton.mp m]; exact Nat.lt_succ_of_lt hl
  · obtain ⟨k1, k2⟩ := argBest_lt val (its.toArray.size - 1)
    have k1 : argBest (fun i j => decide (val i < val j)) (its.toArray.size - 1) ≤ its.toArray.size - 1 := k1
    obtain ⟨t, ev⟩ := ints_get hi (show its[argBest (fun i j => decide (val i < val j)) (its.toArray.size - 1)]? = some v by simpa using e)
    rw [← hval] at ev
    subst ev
    generalize argBest (fun i j => decide (val i < val j)) (its.toArray.size - 1) = K at *
    refine h h' tk _ t (fun b o hb => keep b o (fun m => ?_) (Heap.get?_push_of_some _ hb)) (by rw [hval]; exact getD_mem (by omega)) fun a m => ?_
    · have h1 := Heap.lt_size hb
      have h2 := List.mem_singleton.mp m
      rw [h2] at h1
      exact absurd h1 (Nat.lt_irrefl _)
    · obtain ⟨j, hj, ej⟩ := mem_getD m
      rw [← ej, ← hval]
      exact k2 j (by omega)
theorem max_tup (hh : A.handled = none) (ht : s.heap.IsTuple l its.toArray) (hi : IntsAre its ns) (h0 : 0 < ns.length)
    (h : ∀ (h' : Heap) (tk : Nat) (M : Int) (t' : Tok), (∀ (b : Addr) (o : Obj), s.heap.get? b = some o → h'.get? b = some o) → M ∈ ns → (∀ a ∈ ns, a ≤ M) → Q (.int M t') { s with heap := h', toks := tk }) :
    wpAny (model prog w) A (call (.builtin "max") [.ref l]) Q E s := by
  obtain ⟨o, ho, hc, n, hd⟩ := id ht
  have hl := Heap.lt_size ho
  have hlen := ints_len hi
  obtain ⟨val, hval⟩ : ∃ val : Nat → Int, ∀ i, val i = ns.getD i 0 := ⟨fun i => ns.getD i 0, fun _ => rfl⟩
  have hsz : its.toArray.size = its.length := rfl
  have W := Walks.tuple (prog := prog) (w := w) (A := A.in1) hh s.heap.objs.size l (Nat.ne_of_lt hl) its.toArray
  have S0 : (s.heap.push { cls := Value.type "tuple_iterator", data := Data.fields #[Value.ref l, Value.int 0 0] }).IsTupleIter s.heap.objs.size l 0 ∧ (s.heap.push { cls := Value.type "tuple_iterator", data := Data.fields #[Value.ref l, Value.int 0 0] }).IsTuple l its.toArray :=
    ⟨⟨_, Heap.get?_push_size _ rfl, rfl, rfl⟩, ⟨o, Heap.get?_push_of_some _ ho, hc, n, hd⟩⟩
  refine call_max_walk (wpAny_pyIter_tuple ht ⟨s.heap.objs.size, _, _, its.toArray.size, _, _, fun i j => decide (val i > val j), rfl, W, S0, fun b m => ?_, by omega,
    CmpOf.ints_gt val (fun i v e => by rw [hval]; exact ints_get hi (by simpa using e)), fun v h' tk e keep => ?_⟩)
  · have e1 : (s.heap.push { cls := Value.type "tuple_iterator", data := Data.fields #[Value.ref l, Value.int 0 0] }).objs.size = s.heap.objs.size + 1 := size_push' ..
    show b < (s.heap.push { cls := Value.type "tuple_iterator", data := Data.fields #[Value.ref l, Value.int 0 0] }).objs.size
    rw [e1]
    rcases List.mem_cons.mp m with m | m
    · rw [m]; exact Nat.lt_succ_self _
    · rw [List.mem_singleton.mp m]; exact Nat.lt_succ_of_lt hl
  · obtain ⟨k1, k2⟩ := argBest_gt val (its.toArray.size - 1)
    have k1 : argBest (fun i j => decide (val i > val j)) (its.toArray.size - 1) ≤ its.toArray.size - 1 := k1
    obtain ⟨t, ev⟩ := ints_get hi (show its[argBest (fun i j => decide (val i > val j)) (its.toArray.size - 1)]? = some v by simpa using e)
    rw [← hval] at ev
    subst ev
    generalize argBest (fun i j => decide (val i > val j)) (its.toArray.size - 1) = K at *
    refine h h' tk _ t (fun b o hb => keep b o (fun m => ?_) (Heap.get?_push_of_some _ hb)) (by rw [hval]; exact getD_mem (by omega)) fun a m => ?_
    · have h1 := Heap.lt_size hb
      have h2 := List.mem_singleton.mp m
      rw [h2] at h1
      exact absurd h1 (Nat.lt_irrefl _)
    · obtain ⟨j, hj, ej⟩ := mem_getD m
      rw [← ej, ← hval]
      exact k2 j (by omega)
end
theorem ints_vals' : ∀ {ns : List Int} {us : List Value}, Vals (ns.map V.int) us → IntsAre us ns
  | [], _, .nil => .nil
  | n :: ns, _, .cons (b := u) h t => by
    obtain ⟨tk, rfl⟩ := h
    exact .cons n tk (ints_vals' t)
def rMinT (K : PySem.W.Frag) : List V → Hp → VK → Prop := fun vs H Q => ∃ (a : Addr) (ns : List Int), vs = [V.ref a] ∧ SqT K H a (ns.map V.int) ∧ 0 < ns.length ∧ ∀ m, m ∈ ns → (∀ y, y ∈ ns → m ≤ y) → Q (.int m) H
def rMaxT (K : PySem.W.Frag) : List V → Hp → VK → Prop := fun vs H Q => ∃ (a : Addr) (ns : List Int), vs = [V.ref a] ∧ SqT K H a (ns.map V.int) ∧ 0 < ns.length ∧ ∀ m, m ∈ ns → (∀ y, y ∈ ns → y ≤ m) → Q (.int m) H
theorem cr_minT (hc : X.A.handled = none) : CallR X (.builtin "min") (rMinT X.K) := by
  intro pins s σ H vs us Q I r ⟨a, ns, e, hs, hl, q⟩
  subst e
  obtain ⟨u, rfl, ru⟩ := vals1 r
  obtain rfl : u = Value.ref a := ru
  obtain ⟨its, rv, hp, _⟩ := I.tuple hs
  exact min_tup hc hp (ints_vals' rv) hl fun h' tk M t' keep m1 m2 => ⟨.int M, H, I.kept keep, ⟨t', rfl⟩, q M m1 m2⟩
theorem cr_maxT (hc : X.A.handled = none) : CallR X (.builtin "max") (rMaxT X.K) := by
  intro pins s σ H vs us Q I r ⟨a, ns, e, hs, hl, q⟩
  subst e
  obtain ⟨u, rfl, ru⟩ := vals1 r
  obtain rfl : u = Value.ref a := ru
  obtain ⟨its, rv, hp, _⟩ := I.tuple hs
  exact max_tup hc hp (ints_vals' rv) hl fun h' tk M t' keep m1 m2 => ⟨.int M, H, I.kept keep, ⟨t', rfl⟩, q M m1 m2⟩
theorem seq_ints {H : Hp} {ha : HA} {s : S} (r : SRel X.K H ha s) {v : V} {x : D} {ns : List Int} (g : Rep X.K H (Av ha s) ha v x) (e : (seqOf s x).bind intsOf = some ns) : ∃ p, v = .ref p ∧ (SqL X.K H p (ns.map V.int) ∨ SqT X.K H p (ns.map V.int)) := by
  cases e2 : seqOf s x with
  | none => rw [e2] at e; cases e
  | some xs =>
    rw [e2] at e
    obtain ⟨p, vs, rfl, h1, h2, h3⟩ := seq_at r g e2
    have := Reps.ints h3 e
    subst this
    rcases h1 with h1 | h1
    · exact ⟨p, rfl, .inl (SqL.of h1)⟩
    · exact ⟨p, rfl, .inr h1⟩
theorem callR_or {f : Value} {r r' : List V → Hp → VK → Prop} (h : CallR X f r) (h' : CallR X f r') : CallR X f (fun vs H Q => r vs H Q ∨ r' vs H Q) := fun pins s σ H vs us Q I rv hq => by
  rcases hq with q | q
  · exact h pins s σ H vs us Q I rv q
  · exact h' pins s σ H vs us Q I rv q
theorem c1_max : C1S X (fun vs H Q => rMax X.K vs H Q ∨ rMaxT X.K vs H Q) (f1D .max) := by
  intro H ha s v x d Q r1 g1 e q
  have e' : (((seqOf s x).bind intsOf).bind fun ns => if ns.isEmpty then none else some (D.int (maxL ns))) = some d := by cases x <;> exact e
  cases e2 : (seqOf s x).bind intsOf with
  | none => rw [e2] at e'; cases e'
  | some ns =>
    rw [e2] at e'
    simp only [Option.bind_some] at e'
    split at e'
    · cases e'
    · rename_i hn
      cases e'
      have hne : ns ≠ [] := fun z => hn (by rw [z]; rfl)
      obtain ⟨h1, h2⟩ := maxL_mem ns hne
      obtain ⟨p, rfl, h⟩ := seq_ints r1 g1 e2
      have fin : ∀ m, m ∈ ns → (∀ y, y ∈ ns → y ≤ m) → Q (.int m) H := fun m k1 k2 => by
        have : m = maxL ns := by
          have a1 := h2 m k1
          have a2 := k2 _ h1
          omega
        rw [this]
        exact q _ _ _ r1 Ext.refl (.int _)
      have pos : 0 < ns.length := by cases ns with | nil => exact absurd rfl hne | cons _ _ => exact Nat.succ_pos _
      rcases h with h | h
      · exact .inl ⟨p, ns, rfl, h, pos, fin⟩
      · exact .inr ⟨p, ns, rfl, h, pos, fin⟩
theorem c1_min : C1S X (fun vs H Q => rMin X.K vs H Q ∨ rMinT X.K vs H Q) (f1D .min) := by
  intro H ha s v x d Q r1 g1 e q
  have e' : (((seqOf s x).bind intsOf).bind fun ns => if ns.isEmpty then none else some (D.int (minL ns))) = some d := by cases x <;> exact e
  cases e2 : (seqOf s x).bind intsOf with
  | none => rw [e2] at e'; cases e'
  | some ns =>
    rw [e2] at e'
    simp only [Option.bind_some] at e'
    split at e'
    · cases e'
    · rename_i hn
      cases e'
      have hne : ns ≠ [] := fun z => hn (by rw [z]; rfl)
      obtain ⟨h1, h2⟩ := minL_mem ns hne
      obtain ⟨p, rfl, h⟩ := seq_ints r1 g1 e2
      have fin : ∀ m, m ∈ ns → (∀ y, y ∈ ns → m ≤ y) → Q (.int m) H := fun m k1 k2 => by
        have : m = minL ns := by
          have a1 := h2 m k1
          have a2 := k2 _ h1
          omega
        rw [this]
        exact q _ _ _ r1 Ext.refl (.int _)
      have pos : 0 < ns.length := by cases ns with | nil => exact absurd rfl hne | cons _ _ => exact Nat.succ_pos _
      rcases h with h | h
      · exact .inl ⟨p, ns, rfl, h, pos, fin⟩
      · exact .inr ⟨p, ns, rfl, h, pos, fin⟩
end
end RS

set_option Elab.async false
set_option linter.all false
set_option maxRecDepth 100000
/-! repr -/
namespace RS
open PySem PySem.Spec L2
open PyProof.Rows hiding St

mutual
theorem shown_len : ∀ d : D, d.shw = true → d.py.shown.length ≤ d.wt
  | .non, _ => by simp only [D.py, D.wt, PyData.shown]; decide
  | .bl b, _ => by simp only [D.py, D.wt, PyData.shown]; cases b <;> decide
  | .int i, f => by
    simp only [D.py, D.wt, PyData.shown]
    have f' : decide (i.natAbs < 2 ^ 1000) = true := f
    rw [PySem.ofString_length]
    have h := of_decide_eq_true f'
    have : i.natAbs.log2 < 1001 := by
      by_cases z : i.natAbs = 0
      · rw [z]; decide
      · have := (Nat.log2_lt (k := 1000) z).mpr h
        omega
    exact PySem.int_text_length_le (k := 1001) (by decide) this
  | .str x, f => by
    simp only [D.py, D.wt, PyData.shown]
    have f' : PyData.strOk x = true := f
    refine PySem.StrLaws.reprText_len x fun c hc => ?_
    unfold PyData.strOk at f'
    rw [← Array.all_toList] at f'
    have := List.all_eq_true.mp f' c hc
    have := of_decide_eq_true this
    have e : (0x110000 : Nat) < 16 ^ 8 := by decide
    omega
  | .tup xs, f => by
    simp only [D.py, D.wt, PyData.shown]
    have h1 := PySem.tupleText_len_le (PyData.shownAll (pys xs))
    have h2 := shown_lens xs f
    omega
  | .lst xs, f => by
    simp only [D.py, D.wt, PyData.shown]
    have h1 := PySem.listText_len_le (PyData.shownAll (pys xs))
    have h2 := shown_lens xs f
    omega
  | .dic kvs, f => by
    simp only [D.py, D.wt, PyData.shown]
    have h1 := PySem.dictText_len_le (PyData.shownKv (pykv kvs))
    have h2 := shown_lenkv kvs f
    omega
  | .hnd _, f => by cases f
  | .scr _, f => by cases f
  | .xcp _ _ _, f => by cases f
theorem shown_lens : ∀ ds : List D, shws ds = true → ((PyData.shownAll (pys ds)).map (·.length)).sum + 2 * (PyData.shownAll (pys ds)).length ≤ wts ds
  | [], _ => by simp [pys, PyData.shownAll, wts]
  | d :: ds, f => by
    have f' : (d.shw && shws ds) = true := f
    rw [Bool.and_eq_true] at f'
    simp only [pys, PyData.shownAll, wts, List.map_cons, List.sum_cons, List.length_cons]
    have h1 := shown_len d f'.1
    have h2 := shown_lens ds f'.2
    omega
theorem shown_lenkv : ∀ ds : List (Key × D), shwkv ds = true → ((PyData.shownKv (pykv ds)).map (·.length)).sum + 2 * (PyData.shownKv (pykv ds)).length + 1 ≤ wtkv ds + 1
  | [], _ => by simp [pykv, PyData.shownKv, wtkv]
  | (.inl i, d) :: ds, f => by
    have f' : (decide (i.natAbs < 2 ^ 1000) && (d.shw && shwkv ds)) = true := f
    rw [Bool.and_eq_true, Bool.and_eq_true] at f'
    simp only [pykv, keyPy, PyData.shownKv, wtkv, List.map_cons, List.sum_cons, List.length_cons, Str.length_append]
    have h0 := shown_len (.int i) f'.1
    have h1 := shown_len d f'.2.1
    have h2 := shown_lenkv ds f'.2.2
    have h3 : (Str.ofString ": ").length = 2 := by decide
    simp only [D.py, D.wt] at h0
    omega
  | (.inr x, d) :: ds, f => by
    have f' : (PyData.strOk x && (d.shw && shwkv ds)) = true := f
    rw [Bool.and_eq_true, Bool.and_eq_true] at f'
    simp only [pykv, keyPy, PyData.shownKv, wtkv, List.map_cons, List.sum_cons, List.length_cons, Str.length_append]
    have h0 := shown_len (.str x) f'.1
    have h1 := shown_len d f'.2.1
    have h2 := shown_lenkv ds f'.2.2
    have h3 : (Str.ofString ": ").length = 2 := by decide
    simp only [D.py, D.wt] at h0
    omega
end
mutual
theorem dep_le : ∀ d : D, d.py.depth ≤ d.dep
  | .non => by simp only [D.py, D.dep, PyData.depth]; omega
  | .bl _ => by simp only [D.py, D.dep, PyData.depth]; omega
  | .int _ => by simp only [D.py, D.dep, PyData.depth]; omega
  | .str x => by simp only [D.py, D.dep, PyData.depth]; omega
  | .tup xs => by
    simp only [D.py, D.dep, PyData.depth]
    have := deps_le xs
    omega
  | .lst xs => by
    simp only [D.py, D.dep, PyData.depth]
    have := deps_le xs
    omega
  | .dic kvs => by
    simp only [D.py, D.dep, PyData.depth]
    have := depkv_le kvs
    omega
  | .hnd _ => by simp only [D.py, D.dep, PyData.depth]; omega
  | .scr _ => by simp only [D.py, D.dep, PyData.depth]; omega
  | .xcp _ _ _ => by simp only [D.py, D.dep, PyData.depth]; omega
theorem deps_le : ∀ ds : List D, PyData.depthAll (pys ds) ≤ deps ds
  | [] => by simp only [pys, deps, PyData.depthAll]; omega
  | d :: ds => by
    simp only [pys, deps, PyData.depthAll]
    have h1 := dep_le d
    have h2 := deps_le ds
    omega
theorem depkv_le : ∀ ds : List (Key × D), PyData.depthKv (pykv ds) ≤ depkv ds
  | [] => by simp only [pykv, depkv, PyData.depthKv]; omega
  | (k, d) :: ds => by
    have h0 : (keyPy k).depth = 0 := by cases k <;> simp only [keyPy, PyData.depth]
    simp only [pykv, depkv, PyData.depthKv, h0]
    have h1 := dep_le d
    have h2 := depkv_le ds
    omega
end
section
variable {X : Cx} {pins : List (Addr × Obj)} {σ : L2.St} {H : Hp} {s : Shared}
/-- the place of sys.modules is taken -/
def Sm (X : Cx) : Prop := ∃ o, X.base.get? sysModules = some o
theorem Inv.nosm (I : Inv X pins σ H s) (m : Sm X) {p : Addr} {o : HO} (h : H p = some o) : p ≠ sysModules := fun e => by
  obtain ⟨u, hu⟩ := m
  have := (I.bs _ _ hu).2
  rw [← e, h] at this
  cases this
mutual
theorem Rep.reads (I : Inv X pins σ H s) (m : Sm X) {A : Addr → Prop} {ha : HA} : ∀ (d : D) (v : V) (u : Value), Rep X.K H A ha v d → RelV v u → d.pur = true → ∃ as, Reads s.heap u d.py as ∧ sysModules ∉ as
  | .non, _, _, h, r, _ => by
    cases h
    cases r
    exact ⟨_, Reads.none, by simp⟩
  | .bl b, _, _, h, r, _ => by
    cases h
    cases r
    exact ⟨_, Reads.bool b, by simp⟩
  | .int i, _, _, h, r, _ => by
    cases h
    obtain ⟨t, rfl⟩ := r
    exact ⟨_, Reads.int i t, by simp⟩
  | .str x, _, _, h, r, _ => by
    cases h
    obtain ⟨t, rfl⟩ := r
    exact ⟨_, Reads.str x t, by simp⟩
  | .lst ds, _, _, h, r, f => by
    cases h with
    | lst h1 h2 h3 h4 =>
      cases r
      obtain ⟨its, rv, ⟨o, n, ho, hc, _, hd⟩, _⟩ := I.list (SqL.of h1)
      obtain ⟨as, hr, hm⟩ := Reps.reads I m ds _ its h4 rv f
      refine ⟨_, Reads.list ho hc hd hr, fun z => ?_⟩
      rcases List.mem_cons.mp z with z | z
      · exact Inv.nosm I m h1 z.symm
      · exact hm z
  | .tup ds, _, _, h, r, f => by
    cases h with
    | tup hs h2 ha =>
      cases r
      obtain ⟨its, rv, ⟨o, ho, hc, n, hd⟩, _⟩ := I.tuple hs
      obtain ⟨as, hr, hm⟩ := Reps.reads I m ds _ its ha rv f
      exact ⟨_, Reads.tuple ho hc hd hr, hm⟩
  | .dic kvs, _, _, h, r, f => by
    cases h with
    | dic h1 h2 h3 h4 =>
      cases r
      obtain ⟨_, hsm, vs, rel, o, es, ep, ho, hx, hd, _, hp, _⟩ := (show ObjOk X.prog X.w H s.heap _ (.dK _) from I.hok _ _ h1)
      obtain ⟨as, bs, ra, rb, na, nb⟩ := Repk.reads I m kvs _ vs es.toList h4 rel hp f
      refine ⟨_, Reads.dict ho hx.1 hd ra rb, fun z => ?_⟩
      rcases List.mem_append.mp z with z | z
      · rcases List.mem_cons.mp z with z | z
        · rw [z] at hsm
          exact absurd hsm (by simp)
        · exact na z
      · exact nb z
  | .hnd _, _, _, _, _, f => by cases f
  | .scr _, _, _, _, _, f => by cases f
  | .xcp _ _ _, _, _, _, _, f => by cases f
theorem Reps.reads (I : Inv X pins σ H s) (m : Sm X) {A : Addr → Prop} {ha : HA} : ∀ (ds : List D) (vs : List V) (us : List Value), Reps X.K H A ha vs ds → Vals vs us → purs ds = true → ∃ as, ReadsAll s.heap us (pys ds) as ∧ sysModules ∉ as
  | [], _, _, h, r, _ => by
    cases h
    cases r
    exact ⟨_, ReadsAll.nil, by simp⟩
  | d :: ds, _, _, h, r, f => by
    have f' : (d.pur && purs ds) = true := f
    rw [Bool.and_eq_true] at f'
    cases h with
    | cons h1 h2 =>
      cases r with
      | cons r1 r2 =>
        obtain ⟨as, q1, n1⟩ := Rep.reads I m d _ _ h1 r1 f'.1
        obtain ⟨bs, q2, n2⟩ := Reps.reads I m ds _ _ h2 r2 f'.2
        exact ⟨_, ReadsAll.cons q1 q2, fun z => (List.mem_append.mp z).elim n1 n2⟩
theorem Repk.reads (I : Inv X pins σ H s) (m : Sm X) {A : Addr → Prop} {ha : HA} : ∀ (ds : List (Key × D)) (vs : List (Key × V)) (us : List (Key × Value)) (es : List DictEntry), Repk X.K H A ha vs ds → KV vs us → Pairs (mixKind X.prog X.w) es us → purkv ds = true →
    ∃ as bs, ReadsAll s.heap (es.map (·.key)) ((pykv ds).map (·.1)) as ∧ ReadsAll s.heap (es.map (·.val)) ((pykv ds).map (·.2)) bs ∧ sysModules ∉ as ∧ sysModules ∉ bs
  | [], _, _, _, h, r, p, _ => by
    cases h
    cases r
    cases p
    exact ⟨_, _, ReadsAll.nil, ReadsAll.nil, by simp, by simp⟩
  | (k, d) :: ds, _, _, _, h, r, p, f => by
    have f' : (d.pur && purkv ds) = true := f
    rw [Bool.and_eq_true] at f'
    cases h with
    | cons h1 h2 =>
      cases r with
      | cons r1 r2 =>
        cases p with
        | @cons en kv0 es0 kvs0 p1 p2 p3 =>
          obtain ⟨as, bs, q1, q2, n1, n2⟩ := Repk.reads I m ds _ _ _ h2 r2 p3 f'.2
          obtain ⟨cs, q3, n3⟩ := Rep.reads I m d _ _ h1 r1.2 f'.1
          have q3' : Reads s.heap en.val d.py cs := by
            rw [p2]
            exact q3
          have kr : ∃ as, Reads s.heap en.key (keyPy k) as ∧ sysModules ∉ as := by
            have e : keyIs _ en.key = true := p1
            rw [← r1.1] at e
            rcases keyIs_shape e with ⟨i, t, e1, e2⟩ | ⟨x, t, e1, e2⟩
            · have e1' : k = Sum.inl i := e1
              subst e1'
              rw [e2]
              exact ⟨_, Reads.int i t, by simp⟩
            · have e1' : k = Sum.inr x := e1
              subst e1'
              rw [e2]
              exact ⟨_, Reads.str x t, by simp⟩
          obtain ⟨ks, q4, n4⟩ := kr
          exact ⟨_, _, ReadsAll.cons q4 q1, ReadsAll.cons q3' q2, fun z => (List.mem_append.mp z).elim n4 n1, fun z => (List.mem_append.mp z).elim n3 n2⟩
end
end
section
variable {X : Cx}
def rRepr (K : PySem.W.Frag) : List V → Hp → VK → Prop := fun xs H Q => ∃ (v : V) (d : D) (A : Addr → Prop) (ha : HA), xs = [v] ∧ Rep K H A ha v d ∧ d.pur = true ∧ d.shw = true ∧ d.wt ≤ 10000000 ∧ d.dep ≤ 60 ∧ Q (.str d.py.shown) H
theorem call_reprD (k : Cok X) (m : Sm X) : CallR X (.builtin "repr") (rRepr X.K) := by
  intro pins s σ H xs us Q I r h
  obtain ⟨v, d, A, ha, rfl, g, f1, f2, f3, f4, q⟩ := h
  obtain ⟨u, rfl, rx⟩ := vals1 r
  obtain ⟨as, hr, hm⟩ := Rep.reads I m d v u g rx f1
  have hz : d.py.shown.length ≤ sizeLine := by
    have := shown_len d f2
    rw [sizeLine_eq]
    omega
  have hs := shw_show d f2
  have hdp := dep_le d
  have hu := k.un
  have ref : ∀ a, u = .ref a → wpAny (model X.prog X.w) X.A (call (.builtin "repr") [u]) (EP X pins σ Q) X.xe s := fun a e => by
    subst e
    exact repr_of_reads' hr hs (fun _ => hm) k.gd (by omega) (fun _ _ e => e) (fun h' t tk hk => ⟨.str _, H, I.kept hk, ⟨_, rfl⟩, q⟩) hz
  cases g with
  | non => cases rx; exact P.repr_of_none ⟨.str _, H, I.tok _, ⟨_, rfl⟩, by simpa only [D.py, PyData.shown] using q⟩
  | bl b => cases rx; exact P.repr_of_bool ⟨.str _, H, I.tok _, ⟨_, rfl⟩, by simpa only [D.py, PyData.shown] using q⟩
  | int i =>
    obtain ⟨t, rfl⟩ := rx
    have f' : decide (i.natAbs < 2 ^ 1000) = true := f2
    exact P.repr_of_int (natlog_of (of_decide_eq_true f')) ⟨.str _, H, I.tok _, ⟨_, rfl⟩, by simpa only [D.py, PyData.shown] using q⟩
  | str x =>
    obtain ⟨t, rfl⟩ := rx
    exact P.repr_of_str ⟨.str _, H, I.tok _, ⟨_, rfl⟩, by simpa only [D.py, PyData.shown] using q⟩ (by simpa only [D.py, PyData.shown] using hz)
  | tup => exact ref _ rx
  | lst => exact ref _ rx
  | dic => exact ref _ rx
  | hnd => cases f1
  | scr => cases f1
  | xc0 => cases f1
  | xc1 => cases f1
mutual
theorem Rep.wide {K : PySem.W.Frag} {H : Hp} {A : Addr → Prop} {ha : HA} : ∀ (d : D) (v : V), Rep K H A ha v d → Rep K H (fun _ => False) ha v d
  | .non, _, h => by cases h; exact .non
  | .bl b, _, h => by cases h; exact .bl b
  | .int i, _, h => by cases h; exact .int i
  | .str y, _, h => by cases h; exact .str y
  | .tup xs, _, h => by
    cases h with
    | tup h1 h2 h3 => exact .tup h1 h2 (Reps.wide xs _ h3)
  | .lst xs, _, h => by
    cases h with
    | lst h1 h2 h3 h4 => exact .lst h1 id h3 (Reps.wide xs _ h4)
  | .dic xs, _, h => by
    cases h with
    | dic h1 h2 h3 h4 => exact .dic h1 id h3 (Repk.wide xs _ h4)
  | .hnd i, _, h => by
    cases h with
    | hnd h1 => exact .hnd h1
  | .scr ns, _, h => by
    cases h with
    | scr h1 h2 => exact .scr (h1.elim (fun z => .inl ⟨z.1, id⟩) .inr) h2
  | .xcp c f y, _, h => by
    cases h with
    | xc0 h1 h2 h3 => exact .xc0 h1 id h3
    | xc1 h1 h2 h3 h4 h5 h6 h7 => exact .xc1 h1 id h3 id (Rep.wide y _ h5) h6 h7
theorem Reps.wide {K : PySem.W.Frag} {H : Hp} {A : Addr → Prop} {ha : HA} : ∀ (ds : List D) (vs : List V), Reps K H A ha vs ds → Reps K H (fun _ => False) ha vs ds
  | [], _, h => by cases h; exact .nil
  | d :: ds, _, h => by
    cases h with
    | cons h1 h2 => exact .cons (Rep.wide d _ h1) (Reps.wide ds _ h2)
theorem Repk.wide {K : PySem.W.Frag} {H : Hp} {A : Addr → Prop} {ha : HA} : ∀ (ds : List (Key × D)) (vs : List (Key × V)), Repk K H A ha vs ds → Repk K H (fun _ => False) ha vs ds
  | [], _, h => by cases h; exact .nil
  | (k, d) :: ds, _, h => by
    cases h with
    | cons h1 h2 => exact .cons (Rep.wide d _ h1) (Repk.wide ds _ h2)
end
/-- a list that may change, as a list that stands still -/
theorem Rep.still {K : PySem.W.Frag} {H : Hp} {ha : HA} {s : S} (r : SRel K H ha s) {v : V} {d : D} (h : Rep K H (Av ha s) ha v d) (f : (RS.unh s d).pur = true) : ∃ A hb, Rep K H A hb v (RS.unh s d) := by
  cases h with
  | @hnd p i h1 =>
    have z : RS.unh s (.hnd i) = match s[i]? with
        | some (.ml xs) => .lst xs
        | some (.fz xs) => .lst xs
        | _ => .hnd i := rfl
    rw [z] at f ⊢
    split at f
    · rename_i xs q
      obtain ⟨p', h2, vs, k1, k2, k3⟩ := r.obj i _ q
      rw [h1] at h2
      cases h2
      exact ⟨fun _ => False, ha, .lst k1 id k2 (Reps.wide xs vs k3)⟩
    · rename_i xs q
      obtain ⟨p', h2, vs, k1, k2, k3⟩ := r.obj i _ q
      rw [h1] at h2
      cases h2
      exact ⟨fun _ => False, ha, .lst k1 id k2 (Reps.wide xs vs k3)⟩
    · cases f
  | scr h1 h2 => cases f
  | xc0 => cases f
  | xc1 => cases f
  | non => exact ⟨Av ha s, ha, .non⟩
  | bl b => exact ⟨Av ha s, ha, .bl b⟩
  | int i => exact ⟨Av ha s, ha, .int i⟩
  | str x => exact ⟨Av ha s, ha, .str x⟩
  | tup h1 h2 h3 => exact ⟨_, _, .tup h1 h2 h3⟩
  | lst h1 h2 h3 h4 => exact ⟨_, _, .lst h1 h2 h3 h4⟩
  | dic h1 h2 h3 h4 => exact ⟨_, _, .dic h1 h2 h3 h4⟩
end
end RS

set_option Elab.async false
set_option linter.all false
set_option maxRecDepth 100000
/-! sorted over lists and tuples of data -/
namespace RS
open PySem PySem.Spec L2
open PyProof.Rows hiding St
open PySem.W (EachIs)

/-- what collect leaves -/
def colH (h : Heap) (vs : List Value) : Heap := (h.push (seqObj "list" #[] 0)).update h.objs.size (Obj.mapSeq (· ++ vs.toArray))
theorem colH_size {h : Heap} {vs : List Value} : (colH h vs).objs.size = h.objs.size + 1 := by
  unfold colH
  rw [Heap.size_update, size_push']
theorem colH_old {h : Heap} {vs : List Value} {b : Addr} {o : Obj} (e : h.get? b = some o) : (colH h vs).get? b = some o := by
  unfold colH
  rw [Heap.get?_update_ne _ _ _ _ (Nat.ne_of_lt (Heap.lt_size e)), Heap.get?_push_ne _ _ _ (Nat.ne_of_lt (Heap.lt_size e))]
  exact e
theorem collect_tup {prog : Program} {w : World} {A : Around} {E : Value → Shared → Prop} {s : Shared} {l : Addr} {vs : List Value} {Q : List Value → Shared → Prop} (hl : s.heap.IsTuple l vs.toArray)
    (h : Q vs { s with heap := colH s.heap vs }) (hsz : vs.length ≤ sizeLine) :
    wpAny (model prog w) A (collect (.ref l)) Q E s := by
  obtain ⟨o, ho, hc, n, hd⟩ := id hl
  unfold collect
  refine wpAny_bind (wpAny_runValue (codeAny_builtin entry_proto_collect' ?_))
  show wpAny _ _ (do again (.builtin "list.__iadd__" ⟨[← newList [], .ref l], []⟩)) _ _ s
  refine wpAny_bind (wpAny_newList (wpAny_pure ⟨Code.quiet_builtin _ (by decide +kernel), codeAny_builtin entry_list_iadd' ?_⟩))
  show wpAny _ _ (Builtin.List.listExtendWith (.ref s.heap.objs.size) (.ref l) (.ref s.heap.objs.size)) _ _ { s with heap := s.heap.push (seqObj "list" #[] 0) }
  unfold Builtin.List.listExtendWith
  have ho' : (s.heap.push (seqObj "list" #[] 0)).get? l = some o := Heap.get?_push_of_some _ ho
  refine wpAny_bind (wpAny_typeOf (T := "tuple") ⟨o, ho', hc⟩ ?_)
  have ht : (Value.type "tuple" == Value.type "tuple") = true := by rfl
  rw [if_pos (by rw [ht]; simp)]
  refine wpAny_bind (listItems_at ho' hd ?_)
  refine wpAny_bind (listItems_at (xs := #[]) (n := 0) (Heap.get?_push_size _ rfl) rfl ?_)
  rw [if_neg (by simp)]
  refine wpAny_bind (listUpdate_at (xs := #[]) (n := 0) (Heap.get?_push_size _ rfl) rfl ?_ (Nat.zero_le _) (by show (#[] ++ vs.toArray).size ≤ sizeLine + 1; simp only [Array.size_append, List.size_toArray, List.length_nil]; omega))
  refine wpAny_pure ?_
  show wpAny (model prog w) A (do
      let o ← load s.heap.objs.size
      match o.data with
      | .seq xs _ => pure xs.toList
      | _ => unsupported "internal:collect") Q E { s with heap := colH s.heap vs }
  refine wpAny_bind (wpAny_load (get?_update_seq (Heap.get?_push_size _ rfl) _) ?_)
  show wpAny _ _ (pure ((#[] : Array Value) ++ vs.toArray).toList) Q E _
  rw [show ((#[] : Array Value) ++ vs.toArray).toList = vs by simp]
  exact wpAny_pure h
theorem sorted_seq {prog : Program} {w : World} {A : Around} {E : Value → Shared → Prop} {s : Shared} {l : Addr} {vs : List Value} {kw : List (Str × Value)} {Q : Value → Shared → Prop} (hl : s.heap.IsList l vs.toArray ∨ s.heap.IsTuple l vs.toArray)
    (hL : vs.length ≤ sizeLine) (ha1 : PySem.argsOk "sorted" ⟨[.ref l], kw⟩) (ha2 : ∀ x, PySem.argsOk "list.sort" ⟨[.ref x], kw⟩)
    (body : ∀ E' : Value → Shared → Prop, wpAny (model prog w) A.in1.in1 (Builtin.«list.sort» ⟨[.ref (colH s.heap vs).objs.size], kw⟩) (fun f s' => f = .done (.ret .none) ∧ Q (.ref (colH s.heap vs).objs.size) s') E' { s with heap := (colH s.heap vs).push (seqObj "list" vs.toArray 0) }) :
    wpAny (model prog w) A (call (.builtin "sorted") [.ref l] kw) Q E s := by
  refine call_function_entry_kw PyProof.Rows.kind_sorted PyProof.Rows.plain_sorted PyProof.Rows.entry_sorted ha1 ?_
  unfold Builtin.«sorted»
  refine wpAny_bind (m := checkCount "sorted" 1 1 _) (wpAny_pure ?_)
  have rest : ∀ {R : Value → Shared → Prop} {E2 : Value → Shared → Prop} {F : Value → Sem PySem.Fin}, True := fun {_ _ _} => trivial
  have go : ∀ (c : wpAny (model prog w) A.in1 (collect (.ref l)) (fun xs s' => xs = vs ∧ s' = { s with heap := colH s.heap vs }) E s), wpAny (model prog w) A.in1 (collect (.ref l)) (fun xs s' => xs = vs ∧ s' = { s with heap := colH s.heap vs }) E s := fun c => c
  refine wpAny_bind (wpAny_mono (Q := fun xs s' => xs = vs ∧ s' = { s with heap := colH s.heap vs }) ?_ (fun xs s' hx => ?_) fun _ _ e => e)
  · rcases hl with hl | hl
    · exact collect_list hl ⟨rfl, rfl⟩ hL
    · exact collect_tup hl ⟨rfl, rfl⟩ hL
  · obtain ⟨rfl, rfl⟩ := hx
    refine wpAny_bind (wpAny_newList ?_ hL)
    show wpAny _ _ _ _ _ { s with heap := (colH s.heap xs).push (seqObj "list" xs.toArray 0) }
    refine wpAny_bind (wpAny_holding (wpAny_call_entry_kw PyProof.Rows.slot_list_sort ⟨_, Heap.get?_push_size _ rfl, rfl⟩ PyProof.Rows.entry_list_sort ?body (ha2 _)))
    case body =>
      show wpAny (model prog w) A.in1.in1 (Builtin.«list.sort» ⟨[.ref (colH s.heap xs).objs.size], kw⟩) _ _ _
      refine wpAny_mono (body _) (fun f s' hf => ?_) fun _ _ e => e
      obtain ⟨rfl, hq⟩ := hf
      exact ⟨_, rfl, wpAny_pure ⟨_, rfl, hq⟩⟩

def srtK (X : Cx) (b : Bool) : List V → Hp → VK → Prop := fun vs H Q => ∃ (a : Addr) (L : List (V × D)), vs = [.ref a] ∧ (SqL X.K H a (L.map (·.1)) ∨ SqT X.K H a (L.map (·.1))) ∧ (∀ p ∈ L, Dp X.K H p.1 p.2.py) ∧ srtOk (L.map (·.2)) = true ∧ L.length ≤ CAP ∧
  ∀ q, H q = none → Q (.ref q) (upd H q (.lst ((L.mergeSort (PySem.W.dataLe b fun p => p.2.py)).map (·.1))))
theorem each_of {L : List (V × D)} {us : List Value} (h : Vals (L.map (·.1)) us) : EachIs (fun (u : Value) (p : V × D) => RelV p.1 u) us L := by
  induction L generalizing us with
  | nil => cases h; exact .nil
  | cons p L ih =>
    cases h with
    | cons h1 h2 => exact .cons h1 (ih h2)
theorem vals_of {L : List (V × D)} {us : List Value} (h : EachIs (fun (u : Value) (p : V × D) => RelV p.1 u) us L) : Vals (L.map (·.1)) us := by
  induction h with
  | nil => exact .nil
  | cons h1 _ ih => exact .cons h1 ih
theorem each_mem {α β : Type} {R R' : α → β → Prop} {xs : List α} {ys : List β} (h : EachIs R xs ys) (i : ∀ a b, b ∈ ys → R a b → R' a b) : EachIs R' xs ys := by
  induction h with
  | nil => exact .nil
  | cons h1 _ ih => exact .cons (i _ _ (List.mem_cons_self ..) h1) (ih fun a b m => i a b (List.mem_cons_of_mem _ m))
theorem each_mapR {α β γ : Type} {R : α → γ → Prop} {f : β → γ} {xs : List α} {ys : List β} (h : EachIs (fun a b => R a (f b)) xs ys) : EachIs R xs (ys.map f) := by
  induction h with
  | nil => exact .nil
  | cons h1 _ ih => exact .cons h1 ih
section
variable {X : Cx}
theorem srt_hal {ds : List D} (h : srtOk ds = true) : PySem.W.AllAlike (ds.map D.py) ∧ PySem.W.Sortable (ds.map D.py) ∧ ∀ d ∈ ds, eqOk d = true := by
  unfold srtOk at h
  rw [Bool.and_eq_true, Bool.and_eq_true, Bool.or_eq_true] at h
  obtain ⟨h1, h2, h3⟩ := h
  refine ⟨fun d hd d' hd' => ?_, ?_, fun d m => List.all_eq_true.mp h1 d m⟩
  · obtain ⟨x, mx, rfl⟩ := List.mem_map.mp hd
    obtain ⟨y, my, rfl⟩ := List.mem_map.mp hd'
    exact List.all_eq_true.mp (List.all_eq_true.mp h2 x mx) y my
  · rcases h3 with h3 | h3
    · refine .inl fun d hd => ?_
      obtain ⟨x, mx, rfl⟩ := List.mem_map.mp hd
      have := List.all_eq_true.mp h3 x mx
      cases x with
      | tup xs =>
        cases xs with
        | nil => cases this
        | cons y ys => exact ⟨y.py, pys ys, rfl⟩
      | _ => cases this
    · refine .inr fun d hd => ?_
      obtain ⟨x, mx, rfl⟩ := List.mem_map.mp hd
      have := List.all_eq_true.mp h3 x mx
      cases x with
      | tup xs => cases this
      | non => cases this
      | hnd i => cases this
      | scr i => cases this
      | xcp c f i => cases this
      | _ => exact ⟨by simp [D.py], by simp [D.py]⟩
theorem eqOk_dep {d : D} (h : eqOk d = true) : d.py.depth ≤ 60 := by
  unfold eqOk at h
  rw [Bool.and_eq_true, decide_eq_true_eq] at h
  rw [dep_py d h.1]
  exact h.2
theorem cr_srtB (hu : X.A.units + 100 < cLine) (b : Bool) (kw : List (Str × Value)) (ha1 : ∀ l, PySem.argsOk "sorted" ⟨[.ref l], kw⟩) (ha2 : ∀ x, PySem.argsOk "list.sort" ⟨[.ref x], kw⟩)
    (hsort : ∀ {A : Around} {s : Shared} {a : Addr} {vs : List Value} {n : Nat} {κ : PyProof.Rows.KeyKind} {P : PySem.Fin → Shared → Prop} {E : Value → Shared → Prop} (_ : s.heap.get? a = some (seqObj "list" vs.toArray n)) (_ : PySem.W.SortsAt X.prog X.w A { s with heap := PySem.W.sortingHeap s.heap a vs } κ vs) (_ : vs.length ≤ sizeLine)
      (_ : P (.done (.ret .none)) { s with heap := sortedHeap s.heap a vs (PySem.W.sortVals κ b vs vs).toArray }), wpAny (model X.prog X.w) A (Builtin.«list.sort» ⟨[.ref a], kw⟩) P E s)
    {pins : List (Addr × Obj)} {s : Shared} {σ : L2.St} {H : Hp} {vs : List V} {us : List Value} {Q : VK} (I : L2.Inv X pins σ H s) (r : Vals vs us) (h : srtK X b vs H Q) :
    wpAny (model X.prog X.w) X.A (call (.builtin "sorted") us kw) (EP X pins σ Q) X.xe s := by
  obtain ⟨a, L, rfl, hs, hdp, hok, hcap, q⟩ := h
  obtain ⟨u, rfl, ru⟩ := vals1 r
  obtain rfl : u = Value.ref a := ru
  obtain ⟨hal, hk, heq⟩ := srt_hal hok
  obtain ⟨its, rv, hl⟩ : ∃ its : List Value, Vals (L.map (·.1)) its ∧ (s.heap.IsList a its.toArray ∨ s.heap.IsTuple a its.toArray) := by
    rcases hs with hs | hs
    · obtain ⟨its, rv, p, _⟩ := I.list hs
      exact ⟨its, rv, .inl p.isList⟩
    · obtain ⟨its, rv, p, _⟩ := I.tuple hs
      exact ⟨its, rv, .inr p⟩
  have e := each_of rv
  have hlen : its.length = L.length := by rw [← rv.length, List.length_map]
  have hL : its.length ≤ sizeLine := by rw [hlen]; exact cap_line hcap
  have er : EachIs (fun u (p : V × D) => ∃ as, Reads s.heap u p.2.py as) its L := each_mem e fun u p m ru => Dp.reads I _ _ u (hdp p m) ru
  have hal' : PySem.W.AllAlike (L.map fun p => p.2.py) := by
    have := hal
    rw [List.map_map] at this
    exact this
  have hk' : PySem.W.Sortable (L.map fun p => p.2.py) := by
    have := hk
    rw [List.map_map] at this
    exact this
  refine sorted_seq hl hL (ha1 _) ha2 fun E' => ?_
  have k : ∀ b o, s.heap.get? b = some o → (colH s.heap its).get? b = some o := fun b o hb => colH_old hb
  generalize hh : colH s.heap its = h' at *
  have hlt : s.heap.objs.size ≤ h'.objs.size := by rw [← hh, colH_size]; exact Nat.le_succ _
  have old : ∀ {b : Addr} {o : Obj}, s.heap.get? b = some o → (PySem.W.sortingHeap (h'.push (seqObj "list" its.toArray 0)) h'.objs.size its).get? b = some o := fun {b o} hb =>
    PySem.W.sortingHeap_old (Nat.ne_of_lt (Heap.lt_size (k b o hb))) (Heap.get?_push_of_some _ (k b o hb))
  have er' : EachIs (fun u (p : V × D) => ∃ as, Reads (PySem.W.sortingHeap (h'.push (seqObj "list" its.toArray 0)) h'.objs.size its) u p.2.py as) its L := er.mono fun _ _ ⟨as, r⟩ => ⟨as, PyProof.Rows.Reads.keeps (fun _ _ hb => old hb) r⟩
  refine hsort (s := { s with heap := h'.push (seqObj "list" its.toArray 0) }) (n := 0) (Heap.get?_push_size _ rfl)
    (PySem.W.SortsAt.data (prog := X.prog) (w := X.w) (A := X.A.in1.in1) (s := { s with heap := PySem.W.sortingHeap (h'.push (seqObj "list" its.toArray 0)) h'.objs.size its }) (each_mapR er') hal' hk' (fun d hd => ?_)) hL ⟨rfl, ?_⟩
  · obtain ⟨p, mp, rfl⟩ := List.mem_map.mp hd
    have := eqOk_dep (heq p.2 (List.mem_map.mpr ⟨p, mp, rfl⟩))
    show X.A.units + 1 + 1 + _ < cLine
    omega
  · have out := PySem.W.sortVals_data (R := fun (u : Value) (p : V × D) => RelV p.1 u) b e er' hal'
    obtain ⟨ep, he⟩ := sortedHeap_at (h := h'.push (seqObj "list" its.toArray 0)) (a := h'.objs.size) (vs := its) (n := 0) (out := (PySem.W.sortVals (PySem.W.dataKind (PySem.W.sortingHeap (h'.push (seqObj "list" its.toArray 0)) h'.objs.size its) (L.map fun p => p.2.py)) b its its).toArray) (Heap.get?_push_size _ rfl)
    refine ⟨.ref h'.objs.size, _, I.laid (a := h'.objs.size) (o := .lst ((L.mergeSort (PySem.W.dataLe b fun p => p.2.py)).map (·.1))) (t' := s.toks) (fun b o hb => ?_) hlt ⟨?_, _, ep, vals_of out, he⟩, rfl, q _ (I.hok.fresh hlt)⟩
    · have hb' := k b o hb
      exact (sortedHeap_old (Nat.ne_of_lt (Heap.lt_size hb')) (Nat.lt_of_lt_of_le (Heap.lt_size hb') (by rw [size_push']; exact Nat.le_succ _))).trans (Heap.get?_push_of_some _ hb')
    · rw [List.length_map, List.length_mergeSort]
      exact cap_line hcap
theorem cr_srt (hu : X.A.units + 100 < cLine) : CallR X (.builtin "sorted") (srtK X false) := fun _ _ _ _ _ _ _ I r h =>
  cr_srtB hu false [] (fun l => PyProof.Rows.args_sorted1 _) (fun x => PyProof.Rows.args_list_sort _) (fun ho S hL h => PySem.W.list_sort_vals ho S hL h) I r h
theorem zip_reps {K : PySem.W.Frag} {H : Hp} {A : Addr → Prop} {ha : HA} : ∀ {vs : List V} {xs : List D}, Reps K H A ha vs xs → ∃ L : List (V × D), L.map (·.1) = vs ∧ L.map (·.2) = xs ∧ ∀ p ∈ L, Rep K H A ha p.1 p.2
  | _, _, .nil => ⟨[], rfl, rfl, fun _ m => (nomatch m)⟩
  | _, _, .cons (v := v) (d := d) h t => by
    obtain ⟨L, e1, e2, e3⟩ := zip_reps t
    refine ⟨(v, d) :: L, by rw [← e1]; rfl, by rw [← e2]; rfl, fun p m => ?_⟩
    rcases List.mem_cons.mp m with rfl | m
    · exact h
    · exact e3 p m
theorem reps_zip {K : PySem.W.Frag} {H : Hp} {A : Addr → Prop} {ha : HA} : ∀ (L : List (V × D)), (∀ p ∈ L, Rep K H A ha p.1 p.2) → Reps K H A ha (L.map (·.1)) (L.map (·.2))
  | [], _ => .nil
  | p :: L, h => .cons (h p (List.mem_cons_self ..)) (reps_zip L fun q m => h q (List.mem_cons_of_mem _ m))
theorem c1_srt (b : Bool) : C1S X (srtK X b) (srtD b) := by
  intro H ha s v x d Q r1 g1 e q
  have e' : ((seqOf s x).bind fun xs => if srtOk xs && decide (xs.length ≤ CAP) then some (D.lst (xs.mergeSort (PySem.W.dataLe b D.py))) else none) = some d := e
  cases e2 : seqOf s x with
  | none => rw [e2] at e'; cases e'
  | some xs =>
    rw [e2] at e'
    obtain ⟨p, vs, rfl, h1, h2, h3⟩ := seq_at r1 g1 e2
    obtain ⟨L, k1, k2, k3⟩ := zip_reps h3
    have e3 : (if srtOk xs && decide (xs.length ≤ CAP) then some (D.lst (xs.mergeSort (PySem.W.dataLe b D.py))) else none) = some d := e'
    by_cases ok : (srtOk xs && decide (xs.length ≤ CAP)) = true
    · rw [if_pos ok] at e3
      cases e3
      obtain ⟨o1, o2⟩ := Bool.and_eq_true_iff.mp ok
      have heq := (srt_hal o1).2.2
      have hl : L.length = xs.length := by rw [← k2, List.length_map]
      refine ⟨p, L, rfl, ?_, fun z m => ?_, by rw [k2]; exact o1, by rw [hl]; exact of_decide_eq_true o2, fun t ht => ?_⟩
      · rw [k1]
        rcases h1 with h1 | h1
        · exact .inl (SqL.of h1)
        · exact .inr h1
      · have := heq z.2 (by rw [← k2]; exact List.mem_map.mpr ⟨z, m, rfl⟩)
        unfold eqOk at this
        rw [Bool.and_eq_true] at this
        exact Rep.dp _ _ (k3 z m) this.1
      · have em : xs.mergeSort (PySem.W.dataLe b D.py) = (L.mergeSort (PySem.W.dataLe b fun p => p.2.py)).map (·.2) := by
          rw [← k2]
          exact (List.map_mergeSort (f := fun p : V × D => p.2) (r := PySem.W.dataLe b fun p : V × D => p.2.py) (s := PySem.W.dataLe b D.py) (fun a _ c _ => rfl)).symm
        refine q _ _ ha (r1.new1 ht) (Ext.new1 (K := X.K) ht) ?_
        rw [em]
        refine rep_newL r1 ht ?_ (reps_zip _ fun z m => k3 z ((List.mergeSort_perm ..).mem_iff.mp m))
        rw [List.length_map, List.length_mergeSort, hl]
        exact cap_line (of_decide_eq_true o2)
    · rw [if_neg ok] at e3; cases e3
end
def minK (X : Cx) : List V → Hp → VK → Prop := fun vs H Q => ∃ (a : Addr) (p : V × D) (L : List (V × D)), vs = [.ref a] ∧ (SqL X.K H a ((p :: L).map (·.1)) ∨ SqT X.K H a ((p :: L).map (·.1))) ∧ (∀ q ∈ p :: L, Dp X.K H q.1 q.2.py) ∧ srtOk ((p :: L).map (·.2)) = true ∧
  Q (L.foldl (fun a y => if PySem.W.dataLt y.2.py a.2.py then y else a) p).1 H
section
variable {X : Cx}
theorem min_seq_data {prog : Program} {w : World} {A : Around} {E : Value → Shared → Prop} {s : Shared} {l : Addr} {vs : Array Value} {x : PyData} {xs : List PyData} {as : List Addr} {Q : Value → Shared → Prop} (hh : A.handled = none) (hl : s.heap.IsList l vs ∨ s.heap.IsTuple l vs) (hr : ReadsAll s.heap vs.toList (x :: xs) as) (ha : PySem.W.AlikeAll (x :: xs)) (hu : A.units + 1 + PyData.depthAll (x :: xs) < cLine)
    (h : ∀ v h' tk, vs[argBest (fun i j => PySem.W.dataLt ((x :: xs).getD i .none) ((x :: xs).getD j .none)) xs.length]? = some v → (∀ b o, s.heap.get? b = some o → h'.get? b = some o) → Q v { s with heap := h', toks := tk }) :
    wpAny (model prog w) A (call (.builtin "min") [.ref l]) Q E s := by
  have hn : vs.size = xs.length + 1 := PySem.W.readsAll_len hr
  have e1 : vs.size - 1 = xs.length := by omega
  rcases hl with hl | hl
  · refine call_min_walkH (PySem.W.iter_listW (A := A.in1) hh hl fun s₂ e W st hfp hw hk => ?_)
    refine ⟨_, _, _, _, _, _, _, s.heap, _, rfl, W, st, hfp, by omega, hw, hk, PySem.W.cmpIn_lt (A := A.in1) hr ha (by show A.units + 1 + _ < _; exact hu), fun v s' hP m => ?_⟩
    obtain ⟨h', tk, rfl, hk'⟩ := PySem.W.moved_old e rfl m
    rw [e1] at hP
    exact h v h' tk hP hk'
  · refine call_min_walkH (PySem.W.iter_tupleW (A := A.in1) hh hl fun s₂ e W st hfp hw hk => ?_)
    refine ⟨_, _, _, _, _, _, _, s.heap, _, rfl, W, st, hfp, by omega, hw, hk, PySem.W.cmpIn_lt (A := A.in1) hr ha (by show A.units + 1 + _ < _; exact hu), fun v s' hP m => ?_⟩
    obtain ⟨h', tk, rfl, hk'⟩ := PySem.W.moved_old e rfl m
    rw [e1] at hP
    exact h v h' tk hP hk'
theorem each_reads {h : Heap} : ∀ {us : List Value} {L : List (V × D)}, EachIs (fun u (p : V × D) => ∃ as, Reads h u p.2.py as) us L → ∃ as, ReadsAll h us (L.map fun p => p.2.py) as
  | _, _, .nil => ⟨_, .nil⟩
  | _, _, .cons ⟨as, h1⟩ t => by
    obtain ⟨bs, h2⟩ := each_reads t
    exact ⟨_, .cons h1 h2⟩
theorem each_get {α β : Type} {R : α → β → Prop} {xs : List α} {ys : List β} (h : EachIs R xs ys) : ∀ (i : Nat) (x : α) (y : β), xs[i]? = some x → ys[i]? = some y → R x y := by
  induction h with
  | nil => intro i x y h; simp at h
  | cons h1 _ ih =>
    intro i x y e1 e2
    cases i with
    | zero => simp at e1 e2; rw [← e1, ← e2]; exact h1
    | succ i => exact ih i x y (by simpa using e1) (by simpa using e2)
theorem pdeps_le : ∀ ds : List PyData, (∀ d ∈ ds, d.depth ≤ 60) → PyData.depthAll ds ≤ 60
  | [], _ => by simp [PyData.depthAll]
  | d :: ds, h => by
    have h1 := h d List.mem_cons_self
    have h2 := pdeps_le ds fun e m => h e (List.mem_cons_of_mem _ m)
    simp only [PyData.depthAll]
    omega
theorem cr_mnd (hc : X.A.handled = none) (hu : X.A.units + 100 < cLine) : CallR X (.builtin "min") (minK X) := by
  intro pins s σ H vs us Q I r ⟨a, p, L, e, hs, hdp, hok, q⟩
  subst e
  obtain ⟨u, rfl, ru⟩ := vals1 r
  obtain rfl : u = Value.ref a := ru
  obtain ⟨hal, hk, heq⟩ := srt_hal hok
  obtain ⟨its, rv, hl⟩ : ∃ its : List Value, Vals ((p :: L).map (·.1)) its ∧ (s.heap.IsList a its.toArray ∨ s.heap.IsTuple a its.toArray) := by
    rcases hs with hs | hs
    · obtain ⟨its, rv, p, _⟩ := I.list hs
      exact ⟨its, rv, .inl p.isList⟩
    · obtain ⟨its, rv, p, _⟩ := I.tuple hs
      exact ⟨its, rv, .inr p⟩
  have e := each_of rv
  have er : EachIs (fun u (p : V × D) => ∃ as, Reads s.heap u p.2.py as) its (p :: L) := each_mem e fun u p m ru => Dp.reads I _ _ u (hdp p m) ru
  obtain ⟨as, hr⟩ := each_reads er
  have mp : ∀ d ∈ (p :: L).map (fun p => p.2.py), ∃ z ∈ (p :: L).map (·.2), d = z.py := fun d m => by
    obtain ⟨z, mz, rfl⟩ := List.mem_map.mp m
    exact ⟨z.2, List.mem_map.mpr ⟨z, mz, rfl⟩, rfl⟩
  have ha : PySem.W.AlikeAll ((p :: L).map fun p => p.2.py) := by
    refine ⟨fun x mx y my => hal x ?_ y ?_, fun x mx => ?_⟩
    · rw [List.map_map]; exact mx
    · rw [List.map_map]; exact my
    · obtain ⟨z, mz, rfl⟩ := mp x mx
      rcases hk with hk | hk
      · obtain ⟨y, r, e⟩ := hk z.py (List.mem_map.mpr ⟨z, mz, rfl⟩)
        rw [e]
        exact fun e => nomatch e
      · exact (hk z.py (List.mem_map.mpr ⟨z, mz, rfl⟩)).1
  have hd : PyData.depthAll ((p :: L).map fun p => p.2.py) ≤ 60 := pdeps_le _ fun d m => by
    obtain ⟨z, mz, rfl⟩ := mp d m
    exact eqOk_dep (heq z mz)
  refine min_seq_data (x := p.2.py) (xs := L.map fun p => p.2.py) hc hl (by simpa using hr) (by simpa using ha) (by
    have : PyData.depthAll (p.2.py :: L.map fun p => p.2.py) ≤ 60 := hd
    omega) fun v h' tk hv keep => ?_
  have ab := PySem.W.argBest_fold (fun (y a : V × D) => PySem.W.dataLt y.2.py a.2.py) (V.non, D.non) p L L.length (Nat.le_refl _)
  rw [List.take_length] at ab
  have fe : (fun i j => PySem.W.dataLt ((p.2.py :: L.map fun p => p.2.py).getD i .none) ((p.2.py :: L.map fun p => p.2.py).getD j .none)) = fun i j => PySem.W.dataLt ((p :: L).getD i (V.non, D.non)).2.py ((p :: L).getD j (V.non, D.non)).2.py := by
    have g : ∀ i, (p.2.py :: L.map fun p => p.2.py).getD i .none = ((p :: L).getD i (V.non, D.non)).2.py := fun i => by
      rw [show (p.2.py :: L.map fun p => p.2.py) = (p :: L).map fun p => p.2.py from rfl, List.getD_eq_getElem?_getD, List.getD_eq_getElem?_getD, List.getElem?_map]
      cases (p :: L)[i]? with
      | none => rfl
      | some z => rfl
    funext i j
    rw [g, g]
  rw [fe, List.length_map] at hv
  generalize hk2 : argBest (fun i j => PySem.W.dataLt ((p :: L).getD i (V.non, D.non)).2.py ((p :: L).getD j (V.non, D.non)).2.py) L.length = k at *
  have hkl : k < (p :: L).length := by rw [List.length_cons]; omega
  have hz := List.getElem?_eq_getElem hkl
  have hz2 : (p :: L).getD k (V.non, D.non) = (p :: L)[k] := by rw [List.getD_eq_getElem?_getD, hz]; rfl
  rw [hz2] at ab
  have hv2 : its[k]? = some v := by simpa using hv
  have rel := each_get e k v _ hv2 hz
  rw [ab.2] at rel
  exact ⟨_, H, I.kept keep, rel, q⟩
theorem c1_mnd : C1S X (minK X) mndD := by
  intro H ha s v x d Q r1 g1 e q
  have e' : ((seqOf s x).bind fun xs => if srtOk xs && decide (xs.length ≤ CAP) then (match xs with
    | [] => none
    | x :: r => some (r.foldl (fun a y => if PySem.W.dataLt y.py a.py then y else a) x)) else none) = some d := e
  cases e2 : seqOf s x with
  | none => rw [e2] at e'; cases e'
  | some xs =>
    rw [e2] at e'
    obtain ⟨p, vs, rfl, h1, h2, h3⟩ := seq_at r1 g1 e2
    obtain ⟨L, k1, k2, k3⟩ := zip_reps h3
    have e3 : (if srtOk xs && decide (xs.length ≤ CAP) then (match xs with
      | [] => none
      | x :: r => some (r.foldl (fun a y => if PySem.W.dataLt y.py a.py then y else a) x)) else none) = some d := e'
    by_cases ok : (srtOk xs && decide (xs.length ≤ CAP)) = true
    · rw [if_pos ok] at e3
      obtain ⟨o1, o2⟩ := Bool.and_eq_true_iff.mp ok
      have heq := (srt_hal o1).2.2
      cases L with
      | nil => rw [← k2] at e3; cases e3
      | cons z L =>
        have hfold : ∀ (L : List (V × D)) (z : V × D), (L.foldl (fun a y => if PySem.W.dataLt y.2.py a.2.py then y else a) z).2 = (L.map (·.2)).foldl (fun a y => if PySem.W.dataLt y.py a.py then y else a) z.2 ∧ (L.foldl (fun a y => if PySem.W.dataLt y.2.py a.2.py then y else a) z) ∈ z :: L := by
          intro L
          induction L with
          | nil => intro z; exact ⟨rfl, List.mem_singleton.mpr rfl⟩
          | cons y L ih =>
            intro z
            by_cases c : PySem.W.dataLt y.2.py z.2.py = true
            · obtain ⟨i1, i2⟩ := ih y
              simp only [List.foldl_cons, List.map_cons, if_pos c]
              exact ⟨i1, List.mem_cons_of_mem _ i2⟩
            · obtain ⟨i1, i2⟩ := ih z
              simp only [List.foldl_cons, List.map_cons, if_neg c]
              refine ⟨i1, ?_⟩
              rcases List.mem_cons.mp i2 with i2 | i2
              · rw [i2]; exact List.mem_cons_self
              · exact List.mem_cons_of_mem _ (List.mem_cons_of_mem _ i2)
        rw [← k2] at e3
        have e4 : some ((L.map (·.2)).foldl (fun a y => if PySem.W.dataLt y.py a.py then y else a) z.2) = some d := e3
        cases e4
        obtain ⟨f1, f2⟩ := hfold L z
        refine ⟨p, z, L, rfl, ?_, fun w m => ?_, by rw [k2]; exact o1, ?_⟩
        · rw [k1]
          rcases h1 with h1 | h1
          · exact .inl (SqL.of h1)
          · exact .inr h1
        · have := heq w.2 (by rw [← k2]; exact List.mem_map.mpr ⟨w, m, rfl⟩)
          unfold eqOk at this
          rw [Bool.and_eq_true] at this
          exact Rep.dp _ _ (k3 w m) this.1
        · refine q _ H ha r1 Ext.refl ?_
          rw [← f1]
          exact k3 _ f2
    · rw [if_neg ok] at e3; cases e3
end
end RS

set_option Elab.async false
set_option linter.all false
set_option maxRecDepth 100000
/-! calls of built-in functions, isinstance, append, objects of the state -/
namespace RS
open PySem PySem.Spec L2
open PyProof.Rows hiding St

def plainE : Expr → Bool
  | .Starred _ _ => false
  | .Slice _ _ _ _ => false
  | _ => true
theorem star_plain {e : Expr} {es : List Expr} {env : PySem.Env} (h : plainE e = true) : starEach (e :: es) env = (false, eval e env) :: starEach es env := by
  cases e <;> first | rfl | cases h
theorem ix_plain {b : Expr} (h : plainE b = true) : PlainIx b := by
  intro o i
  cases b <;> first | rfl | cases h
section
variable {X : Cx} {W : WX} {a b e1 : Expr} {ma mb mc : Env → S → R D} {mt mu : Env → S → R Bool} {pos : Pos}
theorem c1_repr : C1S X (rRepr X.K) (f1D .repr) := by
  intro H ha s v x d Q r1 g1 e q
  have e' : reprD s x = some d := by cases x <;> exact e
  unfold reprD at e'
  split at e'
  · rename_i h
    rw [Bool.and_eq_true, Bool.and_eq_true, Bool.and_eq_true, decide_eq_true_eq, decide_eq_true_eq] at h
    cases e'
    obtain ⟨A, hb, g⟩ := Rep.still r1 g1 h.1
    exact ⟨v, _, A, hb, rfl, g, h.1, h.2.1, h.2.2.1, h.2.2.2, q _ _ _ r1 Ext.refl (.str _)⟩
  · cases e'
theorem c1_str : C1S X (fun xs H Q => (∃ i, xs = [.int i] ∧ i.natAbs.log2 < 1920 ∧ Q (.str (toString i)) H) ∨ ∃ a, xs = [.str a] ∧ Q (.str a) H) (f1D .str) := by
  intro H ha s v x d Q r1 g1 e q
  cases g1 with
  | int i =>
    have e' : (if i.natAbs < 2 ^ 1000 then some (D.str (D.int i).py.shown) else none) = some d := e
    split at e'
    · rename_i h
      cases e'
      refine .inl ⟨i, rfl, ?_, q _ _ _ r1 Ext.refl ?_⟩
      · by_cases z : i.natAbs = 0
        · rw [z]; decide
        · have := (Nat.log2_lt (k := 1000) z).mpr h
          omega
      · simp only [D.py, PyData.shown]
        exact .str _
    · cases e'
  | str x => cases e; exact .inr ⟨x, rfl, q _ _ _ r1 Ext.refl (.str _)⟩
  | _ => cases e
/-- the functions whose rules stand -/
def F1.nm : F1 → Str
  | .abs => "abs" | .len => "len" | .tuple => "tuple" | .list => "list" | .int => "int" | .repr => "repr" | .sum => "sum" | .all => "all" | .max => "max" | .min => "min"
  | .sorted => "sorted" | .any => "any" | .str => "str" | .mnd => "min"
def F1.have_ : F1 → Bool
  | _ => true
/-- what wants a calm place -/
def F1.heat : F1 → Bool
  | .sum | .all | .any | .max | .min | .mnd => true
  | _ => false
theorem je_f1 (k : Cok X) (m : Sm X) (f : F1) (kc : f.heat = true → Cold X) (hf : f.have_ = true) {p : Pos} (hg : Gl X f.nm) (hm : X.mg f.nm = none) (hs : starEach [a] X.env = (false, eval a X.env) :: starEach [] X.env) (ha : PE X a (tM X W ma)) :
    PE X (.Call (.Name f.nm p) [a] [] pos) (tM X W fun ρ s => (ma ρ s).bind fun x s1 => R.of s1 (f1D f s1 x)) := by
  cases f with
  | abs => exact PE.imp (pe_callB call_abs hg hm (by decide +kernel) (pa_cons ha pa_nil hs) (he := hs)) fun σ H Q h => tMc c1_abs h
  | len => exact PE.imp (pe_callB call_len hg hm (by decide +kernel) (pa_cons ha pa_nil hs) (he := hs)) fun σ H Q h => tMc c1_len h
  | tuple => exact PE.imp (pe_callTy call_tuple_of hg hm (by decide +kernel) (pa_cons ha pa_nil hs) (he := hs)) fun σ H Q h => tMc c1_tuple h
  | list => exact PE.imp (pe_callTy call_list_of hg hm (by decide +kernel) (pa_cons ha pa_nil hs) (he := hs)) fun σ H Q h => tMc c1_list h
  | int => exact PE.imp (pe_callTy call_int1 hg hm (by decide +kernel) (pa_cons ha pa_nil hs) (he := hs)) fun σ H Q h => tMc c1_int h
  | repr => exact PE.imp (pe_callB (call_reprD k m) hg hm (by decide +kernel) (pa_cons ha pa_nil hs) (he := hs)) fun σ H Q h => tMc c1_repr h
  | sum => exact PE.imp (pe_callB (cr_sum (kc rfl).calm) hg hm (by decide +kernel) (pa_cons ha pa_nil hs) (he := hs)) fun σ H Q h => tMc c1_sum h
  | all => exact PE.imp (pe_callB (cr_all (kc rfl).calm) hg hm (by decide +kernel) (pa_cons ha pa_nil hs) (he := hs)) fun σ H Q h => tMc c1_all h
  | any => exact PE.imp (pe_callB (cr_any (kc rfl).calm) hg hm (by decide +kernel) (pa_cons ha pa_nil hs) (he := hs)) fun σ H Q h => tMc c1_any h
  | max => exact PE.imp (pe_callB (callR_or (cr_max (kc rfl).calm) (cr_maxT (kc rfl).hd)) hg hm (by decide +kernel) (pa_cons ha pa_nil hs) (he := hs)) fun σ H Q h => tMc c1_max h
  | min => exact PE.imp (pe_callB (callR_or (cr_min (kc rfl).calm) (cr_minT (kc rfl).hd)) hg hm (by decide +kernel) (pa_cons ha pa_nil hs) (he := hs)) fun σ H Q h => tMc c1_min h
  | sorted => exact PE.imp (pe_callB (cr_srt (by have := k.un; omega)) hg hm (by decide +kernel) (pa_cons ha pa_nil hs) (he := hs)) fun σ H Q h => tMc (c1_srt false) h
  | mnd => exact PE.imp (pe_callB (cr_mnd (kc rfl).hd (by have := k.un; omega)) hg hm (by decide +kernel) (pa_cons ha pa_nil hs) (he := hs)) fun σ H Q h => tMc c1_mnd h
  | str => exact PE.imp (pe_callTy (callR_or call_str_int SkE.call_str_str) hg hm (by decide +kernel) (pa_cons ha pa_nil hs) (he := hs)) fun σ H Q h => tMc c1_str h
def F2.nm : F2 → Str
  | .max => "max" | .min => "min"
def C2S (X : Cx) (r : List V → Hp → VK → Prop) (g : S → D → D → Option D) : Prop := ∀ (H : Hp) (ha : HA) (s : S) (v u : V) (x y d : D) (Q : VK), SRel X.K H ha s → Rep X.K H (Av ha s) ha v x → Rep X.K H (Av ha s) ha u y → g s x y = some d →
  (∀ v' H' ha', SRel X.K H' ha' s → Ext ha s H ha' s H' → Rep X.K H' (Av ha' s) ha' v' d → Q v' H') → r [v, u] H Q
theorem tMc2 {r : List V → Hp → VK → Prop} {g : S → D → D → Option D} (hs : C2S X r g) {σ : L2.St} {H : Hp} {Q : VK} (h : tM X W (fun ρ s => (ma ρ s).bind fun x s1 => (mb ρ s1).bind fun y s2 => R.of s2 (g s2 x y)) σ H Q) : tCB r (tCons (tM X W ma) (tCons (tM X W mb) tNil)) σ H Q := by
  obtain ⟨ha, ρ, s, r0, e0, h⟩ := h
  refine ⟨ha, ρ, s, r0, e0, PtG.bind h fun x s1 v H1 ha1 r1 x1 g1 h1 => ?_⟩
  refine ⟨ha1, ρ, s1, r1, e0.ext x1 r0, PtG.bind h1 fun y s2 u H2 ha2 r2 x2 g2 h2 => ?_⟩
  obtain ⟨d, e, q⟩ := PtG.of h2
  exact hs H2 ha2 s2 v u x y d Q r2 (Rep.ext x2 r1 x v g1) g2 e q
theorem c2_max : C2S X (fun xs H Q => ∃ i j, xs = [.int i, .int j] ∧ Q (.int (if j > i then j else i)) H) (fun _ => f2D .max) := by
  intro H ha s v u x y d Q r1 g1 g2 e q
  cases g1 <;> cases g2 <;> first
    | (cases e; exact ⟨_, _, rfl, q _ _ _ r1 Ext.refl (.int _)⟩)
    | cases e
theorem c2_min : C2S X (fun xs H Q => ∃ i j, xs = [.int i, .int j] ∧ Q (.int (if j < i then j else i)) H) (fun _ => f2D .min) := by
  intro H ha s v u x y d Q r1 g1 g2 e q
  cases g1 <;> cases g2 <;> first
    | (cases e; exact ⟨_, _, rfl, q _ _ _ r1 Ext.refl (.int _)⟩)
    | cases e
theorem je_f2 (kc : Cold X) (f : F2) {p : Pos} (hg : Gl X f.nm) (hm : X.mg f.nm = none) (hs : starEach [a, b] X.env = (false, eval a X.env) :: starEach [b] X.env) (hs2 : starEach [b] X.env = (false, eval b X.env) :: starEach [] X.env) (ha : PE X a (tM X W ma)) (hb : PE X b (tM X W mb)) :
    PE X (.Call (.Name f.nm p) [a, b] [] pos) (tM X W fun ρ s => (ma ρ s).bind fun x s1 => (mb ρ s1).bind fun y s2 => R.of s2 (f2D f x y)) := by
  have hpl : (backTo pos (starEach [b] X.env)).any (·.1) = false := by rw [hs2]; rfl
  cases f with
  | max => exact PE.imp (pe_callB (call_max2 kc.calm) hg hm (by decide +kernel) (pa_cons ha (pa_cons hb pa_nil hs2) hs) (he := hs) (hpl := hpl)) fun σ H Q h => tMc2 c2_max h
  | min => exact PE.imp (pe_callB (call_min2 kc.calm) hg hm (by decide +kernel) (pa_cons ha (pa_cons hb pa_nil hs2) hs) (he := hs) (hpl := hpl)) fun σ H Q h => tMc2 c2_min h
/-! ### isinstance -/
def Ty.nm : Ty → String
  | .int => "int" | .bool => "bool" | .tuple => "tuple" | .list => "list" | .str => "str"
theorem ty_tup {K : PySem.W.Frag} {H : Hp} {p : Addr} {vs : List V} (h : SqT K H p vs) : TyX K H (.ref p) (.type "tuple") := by
  rcases h with (h | ⟨o, h⟩) | ⟨o, its, n, h1, h2, _⟩
  · exact .base (.tup h)
  · exact .fTuple h
  · exact .kTuple h1 h2
theorem isi_at {H : Hp} {ha : HA} {s : S} (r : SRel X.K H ha s) {v : V} {x : D} {t : Ty} {b : Bool} (g : Rep X.K H (Av ha s) ha v x) (e : isiD s t x = some b) : ∃ ty, TyX X.K H v ty ∧ PySem.W.kitOne X.K ty (.type t.nm) = some b := by
  have li : ∀ p vs, v = .ref p → H p = some (.lst vs) → b = t.isL → ∃ ty, TyX X.K H v ty ∧ PySem.W.kitOne X.K ty (.type t.nm) = some b := fun p vs ev h eb => by
    subst ev
    refine ⟨.type "list", .base (.lst h), ?_⟩
    rw [eb]
    cases t <;> exact kit_ty (by decide +kernel)
  cases g with
  | non => cases e; exact ⟨.type "NoneType", .base .non, by cases t <;> exact kit_ty (by decide +kernel)⟩
  | bl c => cases e; exact ⟨.type "bool", .base (.bl c), by cases t <;> exact kit_ty (by decide +kernel)⟩
  | int c => cases e; exact ⟨.type "int", .base (.int c), by cases t <;> exact kit_ty (by decide +kernel)⟩
  | str c => cases e; exact ⟨.type "str", .base (.str c), by cases t <;> exact kit_ty (by decide +kernel)⟩
  | tup h1 h2 h3 => cases e; exact ⟨.type "tuple", ty_tup h1, by cases t <;> exact kit_ty (by decide +kernel)⟩
  | lst h1 h2 h3 h4 => cases e; exact li _ _ rfl h1 rfl
  | dic h1 h2 h3 h4 => cases e; exact ⟨.type "dict", .base (.dK h1), by cases t <;> exact kit_ty (by decide +kernel)⟩
  | @hnd p i h1 =>
    have e' : (match s[i]? with
      | some (.ml _) | some (.fz _) => some t.isL
      | _ => none) = some b := e
    split at e'
    · rename_i xs q
      cases e'
      obtain ⟨p', h2, vs, k1, _⟩ := r.obj i _ q
      rw [h1] at h2
      cases h2
      exact li _ _ rfl k1 rfl
    · rename_i xs q
      cases e'
      obtain ⟨p', h2, vs, k1, _⟩ := r.obj i _ q
      rw [h1] at h2
      cases h2
      exact li _ _ rfl k1 rfl
    · cases e'
  | scr h1 h2 => cases e
  | xc0 => cases e
  | xc1 => cases e
theorem je_isi (t : Ty) {p p2 : Pos} (hg : Gl X "isinstance") (hm : X.mg "isinstance" = none) (hg2 : Gl X t.nm) (hm2 : X.mg t.nm = none) (hs : starEach [a, .Name t.nm p2] X.env = (false, eval a X.env) :: starEach [.Name t.nm p2] X.env) (ha : PE X a (tM X W ma)) :
    PE X (.Call (.Name "isinstance" p) [a, .Name t.nm p2] [] pos) (tM X W fun ρ s => (ma ρ s).bind fun x s1 => R.of s1 ((isiD s1 t x).map .bl)) := by
  have hc : PE X (.Name t.nm p2) (tC (.ty t.nm)) := by
    cases t <;> exact pe_bltn hg2 hm2 (by decide +kernel) rfl
  refine PE.imp (pe_callB call_isi hg hm (by decide +kernel) (pa_cons ha (pa_cons hc pa_nil rfl) hs) (he := hs) (hpl := rfl)) fun σ H Q ⟨ha, ρ, s, r0, e0, h⟩ => ?_
  refine ⟨ha, ρ, s, r0, e0, PtG.bind h fun x s1 v H1 ha1 r1 x1 g1 h1 => ?_⟩
  obtain ⟨d, e, q⟩ := PtG.of h1
  cases e2 : isiD s1 t x with
  | none => rw [e2] at e; cases e
  | some c =>
    rw [e2] at e
    cases e
    obtain ⟨ty, k1, k2⟩ := isi_at r1 g1 e2
    exact ⟨v, .ty t.nm, ty, .type t.nm, c, rfl, .ty _, k1, k2, q _ _ _ r1 Ext.refl (.bl _)⟩

/-! ### objects of the state -/
theorem Hv.snoc {ha : HA} {s : S} {p q : Addr} {o : HObj} (h : Hv (ha.snoc p) (s ++ [o]) q) (l : ha.l.length = s.length) : Hv ha s q ∨ q = p := by
  obtain ⟨i, u, h1, h2, h3⟩ := h
  have h1 : (ha.l ++ [p])[i]? = some q := h1
  by_cases z : i < ha.l.length
  · rw [List.getElem?_append_left z] at h1
    rw [List.getElem?_append_left (by omega)] at h2
    exact .inl ⟨i, u, h1, h2, h3⟩
  · have : i = ha.l.length := by
      have := (List.getElem?_eq_some_iff.mp h1).1
      simp at this
      omega
    subst this
    simp at h1
    exact .inr h1.symm
/-- a new object, made an object of the state -/
theorem Ext.snoc {K : PySem.W.Frag} {H : Hp} {ha : HA} {s : S} (r : SRel K H ha s) {p : Addr} {o : HObj} {u : HO} (hp : H p = none) : Ext ha s H (ha.snoc p) (s ++ [o]) (upd H p u) :=
  ⟨⟨[p], rfl⟩, rfl, fun q w e _ _ => by rw [upd_ne (ne_of_none e hp)]; exact e, fun q z => by
    rcases Hv.snoc z r.len with z | z
    · exact .inl z
    · rw [z]; exact .inr hp, fun q w e => ⟨w, by rw [upd_ne (ne_of_none e hp)]; exact e⟩⟩
theorem SRel.snoc {K : PySem.W.Frag} {H : Hp} {ha : HA} {s : S} (r : SRel K H ha s) {p : Addr} {o : HObj} {u : HO} (hp : H p = none) (np : p ∉ ha.l) (hl : o.blw s.length = true)
    (hA : ObjR K (upd H p u) (Av (ha.snoc p) (s ++ [o])) (ha.snoc p) p o) : SRel K (upd H p u) (ha.snoc p) (s ++ [o]) := by
  have hx := Ext.snoc (o := o) (u := u) r hp
  refine ⟨by simp [HA.snoc, r.len], ?_, fun i w e => ?_, fun i w e => ?_, fun q z => ?_, fun q z m => ?_, r.tab.new hp⟩
  · show (ha.l ++ [p]).Nodup
    rw [List.nodup_append]
    refine ⟨r.nd, by simp, fun x hm y hy => ?_⟩
    simp at hy
    subst hy
    intro e
    subst e
    exact np hm
  · by_cases z : i < s.length
    · rw [List.getElem?_append_left z] at e
      obtain ⟨q, h1, h2⟩ := r.obj i w e
      refine ⟨q, ?_, ObjR.ext hx r (fun _ h => by rw [upd_ne (ne_of_none h hp)]; exact h) h2⟩
      show (ha.l ++ [p])[i]? = some q
      rw [List.getElem?_append_left (by rw [r.len]; exact z)]
      exact h1
    · have : i = s.length := by
        have := (List.getElem?_eq_some_iff.mp e).1
        simp at this
        omega
      subst this
      simp at e
      subst e
      refine ⟨p, ?_, hA⟩
      show (ha.l ++ [p])[s.length]? = some p
      rw [← r.len]; simp
  · by_cases z : i < s.length
    · rw [List.getElem?_append_left z] at e
      exact r.low i w e
    · have : i = s.length := by
        have := (List.getElem?_eq_some_iff.mp e).1
        simp at this
        omega
      subst this
      simp at e
      subst e
      exact hl
  · obtain ⟨w, e⟩ := r.trk q z
    exact ⟨w, by rw [upd_ne (ne_of_none e hp)]; exact e⟩
  · have m : q ∈ ha.l ++ [p] := m
    rcases List.mem_append.mp m with m | m
    · exact r.dis q z m
    · have e : q = p := by simpa using m
      obtain ⟨w, e2⟩ := r.trk q z
      rw [e, hp] at e2
      cases e2
/-- a list made anew -/
def tF (X : Cx) (W : WX) (m : Env → S → R (List D)) : TE := fun σ H Q => ∃ ha ρ s, SRel X.K H ha s ∧ ERel X.K H (Av ha s) ha σ ρ ∧
  RP (m ρ s) (fun xs s' => ∀ vs H1 ha1 p, SRel X.K H1 ha1 s' → Ext ha s H ha1 s' H1 → Reps X.K H1 (Av ha1 s') ha1 vs xs → vs.length ≤ sizeLine → H1 p = none → Q (.ref p) (upd H1 p (.lst vs))) (ExP X W σ ha s H)
/-- .. may change -/
theorem SRel.nin {K : PySem.W.Frag} {H : Hp} {ha : HA} {s : S} (r : SRel K H ha s) {p : Addr} (hp : H p = none) : p ∉ ha.l := fun z => by
  obtain ⟨i, hi, e⟩ := List.getElem_of_mem z
  have hs : i < s.length := by rw [← r.len]; exact hi
  obtain ⟨q, h1, h2⟩ := r.obj i s[i] (List.getElem?_eq_getElem hs)
  rw [List.getElem?_eq_getElem hi, e] at h1
  cases h1
  cases q' : s[i] with
  | ml xs => rw [q'] at h2; obtain ⟨vs, e1, _⟩ := h2; rw [hp] at e1; cases e1
  | fz xs => rw [q'] at h2; obtain ⟨vs, e1, _⟩ := h2; rw [hp] at e1; cases e1
  | md xs => rw [q'] at h2; obtain ⟨vs, e1, _⟩ := h2; rw [hp] at e1; cases e1
  | gone => rw [q'] at h2; obtain ⟨vs, e1⟩ := h2; rw [hp] at e1; cases e1
theorem je_lstF {es : List Expr} {ms : Env → S → R (List D)} (hz : ∀ ρ s xs s', ms ρ s = .ok xs s' → xs.length ≤ CAP) (h : PA X es (tMA X W ms)) : PE X (.List es pos) (tF X W ms) :=
  PE.imp (pe_lst h) fun σ H Q ⟨ha, ρ, s, r, e, h⟩ => ⟨ha, ρ, s, r, e, by
    cases q : ms ρ s with
    | bad => rw [q] at h; exact h.elim
    | exc c fs ρ' s' => rw [q] at h; exact h
    | ok xs s1 =>
      rw [q] at h
      intro vs H1 ha1 r1 x1 g1
      have z : vs.length ≤ sizeLine := by rw [g1.length]; exact cap_line (hz _ _ _ _ q)
      exact ⟨z, fun p hp => h _ _ _ _ r1 x1 g1 z hp⟩⟩
theorem un_ok {x : R D} {Φ : List D → S → Prop} {Ψ : Str → List (Str × D) → Env → S → Prop} (h : RP (x.bind unL) Φ Ψ) : RP x (fun d s => ∃ xs, d = .lst xs ∧ Φ xs s) Ψ :=
  RP.mono (RP.bindI h) (fun d s q => by
    cases d with
    | lst xs => exact ⟨xs, rfl, q⟩
    | _ => exact q.elim) fun _ _ _ _ q => q
/-- list(..) made anew -/
theorem je_listF {p : Pos} (hg : Gl X "list") (hm : X.mg "list" = none) (hs : starEach [a] X.env = (false, eval a X.env) :: starEach [] X.env) (ha : PE X a (tM X W ma)) :
    PE X (.Call (.Name "list" p) [a] [] pos) (tF X W fun ρ s => ((ma ρ s).bind fun x s1 => R.of s1 (f1D .list s1 x)).bind unL) := by
  refine PE.imp (pe_callTy call_list_of hg hm (by decide +kernel) (pa_cons ha pa_nil hs) (he := hs)) fun σ H Q ⟨ha, ρ, s, r, e, h⟩ => ?_
  refine ⟨ha, ρ, s, r, e, ?_⟩
  refine RP.mono (RP.bindI (un_ok h)) (fun x s1 q v H1 ha1 r1 x1 g1 => ?_) fun _ _ _ _ q => q
  have q' : RP (R.of s1 (f1D .list s1 x)) _ _ := q
  cases e1 : f1D .list s1 x with
  | none => rw [e1] at q'; exact q'.elim
  | some d =>
    rw [e1] at q'
    obtain ⟨xs, rfl, q2⟩ := q'
    have e' : ((seqOf s1 x).map D.lst) = some (.lst xs) := by cases x <;> exact e1
    cases e2 : seqOf s1 x with
    | none => rw [e2] at e'; cases e'
    | some ys =>
      rw [e2] at e'
      cases e'
      obtain ⟨p, vs, rfl, h1, h2, h3⟩ := seq_at r1 g1 e2
      refine ⟨p, vs, rfl, ?_, fun t ht => q2 vs H1 ha1 t r1 x1 h3 h2 ht⟩
      rcases h1 with h1 | h1
      · exact .inl (SqL.of h1)
      · exact .inr h1
/-- [..] * n, xs + ys made anew -/
theorem je_repF (ha : PE X a (tM X W ma)) (hb : PE X b (tM X W mb)) : PE X (.BinOp a .Mult b pos) (tF X W fun ρ s => ((ma ρ s).bind fun x s1 => (mb ρ s1).bind fun y s2 => R.of s2 (binD .mul s2 x y)).bind unL) := by
  refine PE.imp (pe_op op_rep ha hb) fun σ H Q ⟨ha, ρ, s, r0, e0, h⟩ => ?_
  refine ⟨ha, ρ, s, r0, e0, ?_⟩
  refine RP.mono (RP.bindI (un_ok h)) (fun x s1 q v H1 ha1 r1 x1 g1 => ?_) fun _ _ _ _ q => q
  refine ⟨ha1, ρ, s1, r1, e0.ext x1 r0, ?_⟩
  refine RP.mono (RP.bindI q) (fun y s2 q u H2 ha2 r2 x2 g2 => ?_) fun c fs ρ' s' q H' ha' cls d r z => q H' ha' cls d r (x1.trans z)
  have q' : RP (R.of s2 (mulD s2 x y)) _ _ := q
  cases e1 : mulD s2 x y with
  | none => rw [e1] at q'; exact q'.elim
  | some d =>
    rw [e1] at q'
    obtain ⟨xs, rfl, q2⟩ := q'
    have e' : (match y with
      | .int k => (lstOf s2 x).bind fun xs => if xs.length * k.toNat ≤ CAP ∧ k < 2 ^ 62 ∧ -(2 ^ 62) < k then some (D.lst (List.replicate k.toNat xs).flatten) else none
      | _ => none) = some (D.lst xs) := by
      cases x <;> cases y <;> first
        | exact e1
        | (simp only [mulD, lstOf, Option.bind] at e1; cases e1)
        | (simp only [mulD] at e1; split at e1 <;> cases e1)
    have g1' := Rep.ext x2 r1 x v g1
    cases y with
    | int k =>
      dsimp only at e'
      cases e2 : lstOf s2 x with
      | none => rw [e2] at e'; cases e'
      | some ys =>
        rw [e2] at e'
        simp only [Option.bind_some] at e'
        split at e'
        · rename_i hk
          cases e'
          cases g2
          obtain ⟨p, vs, rfl, h1, _, h3⟩ := lst_at r2 g1' e2
          have l1 := h3.length
          have z : (List.replicate k.toNat vs).flatten.length ≤ sizeLine := by
            rw [PyProof.Rows.lm_len_rep_flat, Nat.mul_comm, l1]
            exact cap_line hk.1
          exact ⟨p, k, vs, rfl, rfl, h1, by omega, by omega, by rw [l1]; exact cap_line hk.1, fun t ht => q2 _ H2 ha2 t r2 (x1.trans x2) (h3.rep _) z ht⟩
        · cases e'
    | _ => cases e'
theorem je_catF (ha : PE X a (tM X W ma)) (hb : PE X b (tM X W mb)) : PE X (.BinOp a .Add b pos) (tF X W fun ρ s => ((ma ρ s).bind fun x s1 => (mb ρ s1).bind fun y s2 => R.of s2 (binD .add s2 x y)).bind unL) := by
  refine PE.imp (pe_op op_cat ha hb) fun σ H Q ⟨ha, ρ, s, r0, e0, h⟩ => ?_
  refine ⟨ha, ρ, s, r0, e0, ?_⟩
  refine RP.mono (RP.bindI (un_ok h)) (fun x s1 q v H1 ha1 r1 x1 g1 => ?_) fun _ _ _ _ q => q
  refine ⟨ha1, ρ, s1, r1, e0.ext x1 r0, ?_⟩
  refine RP.mono (RP.bindI q) (fun y s2 q u H2 ha2 r2 x2 g2 => ?_) fun c fs ρ' s' q H' ha' cls d r z => q H' ha' cls d r (x1.trans z)
  have q' : RP (R.of s2 (addD s2 x y)) _ _ := q
  cases e1 : addD s2 x y with
  | none => rw [e1] at q'; exact q'.elim
  | some d =>
    rw [e1] at q'
    obtain ⟨xs, rfl, q2⟩ := q'
    have e' : ((lstOf s2 x).bind fun xs => (lstOf s2 y).bind fun ys => if xs.length + ys.length ≤ CAP then some (D.lst (xs ++ ys)) else none) = some (.lst xs) := by
      cases x <;> cases y <;> first
        | exact e1
        | (simp only [addD] at e1; split at e1 <;> cases e1)
        | (simp only [addD] at e1; cases e1)
    have g1' := Rep.ext x2 r1 x v g1
    cases e2 : lstOf s2 x with
    | none => rw [e2] at e'; cases e'
    | some as =>
      cases e3 : lstOf s2 y with
      | none => rw [e2, e3] at e'; cases e'
      | some bs =>
        rw [e2, e3] at e'
        simp only [Option.bind_some] at e'
        split at e'
        · rename_i hk
          cases e'
          obtain ⟨p, vs, rfl, h1, _, h3⟩ := lst_at r2 g1' e2
          obtain ⟨p2, vs2, rfl, k1, _, k3⟩ := lst_at r2 g2 e3
          have z : vs.length + vs2.length ≤ sizeLine := by rw [h3.length, k3.length]; exact cap_line hk
          exact ⟨p, p2, vs, vs2, rfl, rfl, h1, k1, z, fun t ht => q2 _ H2 ha2 t r2 (x1.trans x2) (h3.append k3) (by rw [List.length_append]; exact z) ht⟩
        · cases e'
end
end RS

set_option Elab.async false
set_option linter.all false
set_option maxRecDepth 100000
/-! max and min of several ints; str of ints and texts -/
namespace RS
open PySem PySem.Spec L2
open PyProof.Rows hiding St
theorem vals_toks : ∀ {ns : List Int} {us : List Value}, Vals (ns.map V.int) us → ∃ ps : List (Int × Tok), us = ps.map (fun p => Value.int p.1 p.2) ∧ ps.map (·.1) = ns
  | [], _, .nil => ⟨[], rfl, rfl⟩
  | n :: ns, _, .cons h t => by
    obtain ⟨k, rfl⟩ := h
    obtain ⟨ps, rfl, rfl⟩ := vals_toks t
    exact ⟨(n, k) :: ps, rfl, rfl⟩
theorem best_gt (f : Nat → Int) : ∀ k j, j ≤ k → f j ≤ f (argBest (fun a b => decide (f a > f b)) k)
  | 0, j, h => by rw [Nat.le_zero.mp h]; exact Int.le_refl _
  | k + 1, j, h => by
    have ih := best_gt f k
    unfold argBest
    split
    · rename_i q
      have q := of_decide_eq_true q
      by_cases e : j = k + 1
      · rw [e]; exact Int.le_refl _
      · have := ih j (by omega); omega
    · rename_i q
      have q : ¬ f (k + 1) > f (argBest (fun a b => decide (f a > f b)) k) := fun z => q (decide_eq_true z)
      by_cases e : j = k + 1
      · rw [e]; omega
      · exact ih j (by omega)
theorem best_lt (f : Nat → Int) : ∀ k j, j ≤ k → f (argBest (fun a b => decide (f a < f b)) k) ≤ f j
  | 0, j, h => by rw [Nat.le_zero.mp h]; exact Int.le_refl _
  | k + 1, j, h => by
    have ih := best_lt f k
    unfold argBest
    split
    · rename_i q
      have q := of_decide_eq_true q
      by_cases e : j = k + 1
      · rw [e]; exact Int.le_refl _
      · have := ih j (by omega); omega
    · rename_i q
      have q : ¬ f (k + 1) < f (argBest (fun a b => decide (f a < f b)) k) := fun z => q (decide_eq_true z)
      by_cases e : j = k + 1
      · rw [e]; omega
      · exact ih j (by omega)
section
variable {prog : Program} {w : World} {A : Around} {E : Value → Shared → Prop} {s : Shared}
theorem argsMax4 (a b c d : Value) : argsOk "max" ⟨[a, b, c, d], []⟩ := by unfold argsOk; kernel_rfl
theorem argsMin4 (a b c d : Value) : argsOk "min" ⟨[a, b, c, d], []⟩ := by unfold argsOk; kernel_rfl
theorem max_many {a b : Value} {r : List Value} {Q : Value → Shared → Prop} (hz : (a :: b :: r).length ≤ sizeLine) (ok : argsOk "max" ⟨a :: b :: r, []⟩)
    (h : wpAny (model prog w) A.in1 (pyIter (.ref s.heap.objs.size)) (fun it s₂ => ∃ I fp wr n P St bt, it = .ref I ∧ Walks prog w A.in1 I fp wr n P St ∧ St 0 s₂.heap ∧ (∀ b ∈ fp, b < s₂.heap.objs.size) ∧ 0 < n ∧ CmpOf prog w A.in1 .Gt P bt ∧
      ∀ v h' tk, P (argBest bt (n - 1)) v → (∀ b o, b ∉ wr → s₂.heap.get? b = some o → h'.get? b = some o) → Q v { s₂ with heap := h', toks := tk }) E
      { s with heap := s.heap.push { cls := .type "tuple", data := .seq (a :: b :: r).toArray } }) :
    wpAny (model prog w) A (call (.builtin "max") (a :: b :: r)) Q E s := by
  have nm : (toString "max" ++ toString ".loop" : String) = "max.loop" := by decide
  refine call_function_tree F.kind_max F.plain_max F.entry_max ok ?_
  show wpAny _ A.in1 (Builtin.Builtins.bindParams "max" ["key", "default"] 0 ⟨[], []⟩ >>= _) _ _ s
  refine wpAny_bind (wpAny_of_eq (show Builtin.Builtins.bindParams "max" ["key", "default"] 0 ⟨[], []⟩ = pure [none, none] from rfl) ?_)
  show wpAny _ A.in1 (newTuple (a :: b :: r) >>= _) _ _ s
  refine wpAny_bind (wpAny_newTuple ?_ hz)
  refine wpAny_bind (wpAny_mono h (fun it s₂ z => ?_) fun _ _ e => e)
  obtain ⟨I, fp, wr, n, P, St, bt, rfl, W, hst, hfp, hn, hcmp, hQ⟩ := z
  refine wpAny_bind (wpAny_newObj_type ?_)
  have nS : s₂.heap.objs.size ∉ fp := fun hm => Nat.lt_irrefl _ (hfp _ hm)
  rw [nm]
  refine wpAny_pure ⟨plainId_quiet F.plain_max_loop _, codeAny_max_loop_first W bt hcmp s₂.heap.objs.size nS hn (W.frame _ _ _ hst fun b _ o e => Heap.get?_push_of_some _ e) (Heap.get?_push_size _ rfl) fun v h' tk hP hk => hQ v h' tk hP fun b o hb e => ?_⟩
  exact hk b o hb (Nat.ne_of_lt (Heap.lt_size e)) (Heap.get?_push_of_some _ e)
theorem min_many {a b : Value} {r : List Value} {Q : Value → Shared → Prop} (hz : (a :: b :: r).length ≤ sizeLine) (ok : argsOk "min" ⟨a :: b :: r, []⟩)
    (h : wpAny (model prog w) A.in1 (pyIter (.ref s.heap.objs.size)) (fun it s₂ => ∃ I fp wr n P St bt, it = .ref I ∧ Walks prog w A.in1 I fp wr n P St ∧ St 0 s₂.heap ∧ (∀ b ∈ fp, b < s₂.heap.objs.size) ∧ 0 < n ∧ CmpOf prog w A.in1 .Lt P bt ∧
      ∀ v h' tk, P (argBest bt (n - 1)) v → (∀ b o, b ∉ wr → s₂.heap.get? b = some o → h'.get? b = some o) → Q v { s₂ with heap := h', toks := tk }) E
      { s with heap := s.heap.push { cls := .type "tuple", data := .seq (a :: b :: r).toArray } }) :
    wpAny (model prog w) A (call (.builtin "min") (a :: b :: r)) Q E s := by
  have nm : (toString "min" ++ toString ".loop" : String) = "min.loop" := by decide
  refine call_function_tree F.kind_min F.plain_min F.entry_min ok ?_
  show wpAny _ A.in1 (Builtin.Builtins.bindParams "min" ["key", "default"] 0 ⟨[], []⟩ >>= _) _ _ s
  refine wpAny_bind (wpAny_of_eq (show Builtin.Builtins.bindParams "min" ["key", "default"] 0 ⟨[], []⟩ = pure [none, none] from rfl) ?_)
  show wpAny _ A.in1 (newTuple (a :: b :: r) >>= _) _ _ s
  refine wpAny_bind (wpAny_newTuple ?_ hz)
  refine wpAny_bind (wpAny_mono h (fun it s₂ z => ?_) fun _ _ e => e)
  obtain ⟨I, fp, wr, n, P, St, bt, rfl, W, hst, hfp, hn, hcmp, hQ⟩ := z
  refine wpAny_bind (wpAny_newObj_type ?_)
  have nS : s₂.heap.objs.size ∉ fp := fun hm => Nat.lt_irrefl _ (hfp _ hm)
  rw [nm]
  refine wpAny_pure ⟨plainId_quiet F.plain_min_loop _, codeAny_min_loop_first W bt hcmp s₂.heap.objs.size nS hn (W.frame _ _ _ hst fun b _ o e => Heap.get?_push_of_some _ e) (Heap.get?_push_size _ rfl) fun v h' tk hP hk => hQ v h' tk hP fun b o hb e => ?_⟩
  exact hk b o hb (Nat.ne_of_lt (Heap.lt_size e)) (Heap.get?_push_of_some _ e)
/-- several ints, walked as a tuple -/
theorem many_iter {op : CmpOp} (f : (Nat → Int) → Nat → Nat → Bool) (hf : ∀ xs : Array (Int × Tok), CmpOf prog w A.in1 op (fun i v => (intItems xs)[i]? = some v) (f (numAt xs))) (hh : A.handled = none) {ps : List (Int × Tok)} (h0 : 0 < ps.length) {Q : Value → Shared → Prop}
    (h : ∀ v h' tk, (intItems ps.toArray)[argBest (f (numAt ps.toArray)) (ps.length - 1)]? = some v → (∀ b o, s.heap.get? b = some o → h'.get? b = some o) → Q v { s with heap := h', toks := tk }) :
    wpAny (model prog w) A.in1 (pyIter (.ref s.heap.objs.size)) (fun it s₂ => ∃ I fp wr n P St bt, it = .ref I ∧ Walks prog w A.in1 I fp wr n P St ∧ St 0 s₂.heap ∧ (∀ b ∈ fp, b < s₂.heap.objs.size) ∧ 0 < n ∧ CmpOf prog w A.in1 op P bt ∧
      ∀ v h' tk, P (argBest bt (n - 1)) v → (∀ b o, b ∉ wr → s₂.heap.get? b = some o → h'.get? b = some o) → Q v { s₂ with heap := h', toks := tk }) E
      { s with heap := s.heap.push { cls := .type "tuple", data := .seq (ps.map fun p => Value.int p.1 p.2).toArray } } := by
  have ei : (ps.map fun p => Value.int p.1 p.2).toArray = intItems ps.toArray := by simp [intItems]
  rw [ei]
  have hT : (s.heap.push { cls := .type "tuple", data := .seq (intItems ps.toArray) }).IsTuple s.heap.objs.size (intItems ps.toArray) := ⟨_, Heap.get?_push_size _ rfl, rfl, 0, rfl⟩
  have hsz : (s.heap.push { cls := .type "tuple", data := .seq (intItems ps.toArray) }).objs.size = s.heap.objs.size + 1 := Heap.size_push ..
  have hn : (intItems ps.toArray).size = ps.length := by simp [intItems]
  refine wpAny_pyIter_tuple hT ⟨_, [_, s.heap.objs.size], [_], _, _, _, _, rfl, Walks.tuple (A := A.in1) hh _ s.heap.objs.size (by rw [hsz]; exact Nat.ne_of_lt (Nat.lt_succ_self _)) (intItems ps.toArray), ⟨⟨_, Heap.get?_push_size _ rfl, rfl, rfl⟩, hT.push _⟩, fun d hd => ?_, by rw [hn]; exact h0, hf ps.toArray, fun v h' tk hP hk => ?_⟩
  · show d < ((s.heap.push _).push _).objs.size
    rw [Heap.size_push, hsz]
    simp only [List.mem_cons, List.not_mem_nil, or_false] at hd
    rcases hd with rfl | rfl
    · rw [hsz]; exact Nat.lt_succ_self _
    · exact Nat.lt_succ_of_lt (Nat.lt_succ_self _)
  · rw [hn] at hP
    refine h v h' tk hP fun d o e => hk d o (fun hm => ?_) (Heap.get?_push_of_some _ (Heap.get?_push_of_some _ e))
    have e1 := List.mem_singleton.mp hm
    have := Heap.lt_size e
    rw [e1, hsz] at this
    exact Nat.lt_irrefl _ (Nat.lt_of_succ_lt this)
end
theorem num_at {ps : List (Int × Tok)} {i : Nat} {v : Value} (h : (intItems ps.toArray)[i]? = some v) : ∃ n t, (ps.map (·.1))[i]? = some n ∧ v = .int n t ∧ numAt ps.toArray i = n := by
  simp only [intItems, Array.getElem?_map, Option.map_eq_some_iff] at h
  obtain ⟨⟨n, t⟩, e, rfl⟩ := h
  have e' : ps[i]? = some (n, t) := by simpa using e
  refine ⟨n, t, by rw [List.getElem?_map, e']; rfl, rfl, ?_⟩
  unfold numAt
  simp [e']
theorem num_ix {ps : List (Int × Tok)} {j : Nat} {n : Int} (h : (ps.map (·.1))[j]? = some n) : numAt ps.toArray j = n := by
  rw [List.getElem?_map] at h
  cases e : ps[j]? with
  | none => rw [e] at h; cases h
  | some p =>
    rw [e] at h
    cases h
    unfold numAt
    simp [e]
def rMM (b : Bool) : List V → Hp → VK → Prop := fun vs H Q => ∃ ns : List Int, vs = ns.map V.int ∧ (3 ≤ ns.length ∧ ns.length ≤ 4) ∧ Q (.int (if b then maxL ns else minL ns)) H
theorem args_mm (id : String) (hid : id = "max" ∨ id = "min") {us : List Value} (h : 3 ≤ us.length ∧ us.length ≤ 4) : argsOk id ⟨us, []⟩ := by
  match us, h with
  | [a, b, c], _ => rcases hid with rfl | rfl; exact F.args_max3 ..; exact F.args_min3 ..
  | [a, b, c, d], _ => rcases hid with rfl | rfl; exact argsMax4 ..; exact argsMin4 ..
  | [], h => exact absurd h.1 (by simp)
  | [_], h => exact absurd h.1 (by simp)
  | [_, _], h => exact absurd h.1 (by simp)
  | _ :: _ :: _ :: _ :: _ :: _, h => exact absurd h.2 (by simp)
theorem many_shape {us : List Value} (h : 3 ≤ us.length) : ∃ a b r, us = a :: b :: r := by
  match us, h with
  | a :: b :: r, _ => exact ⟨a, b, r, rfl⟩
  | [], h => exact absurd h (by simp)
  | [_], h => exact absurd h (by simp)
section
variable {X : Cx}
theorem cr_mm (hd : X.A.handled = none) (b : Bool) : CallR X (.builtin (if b then "max" else "min")) (rMM b) := by
  intro pins s σ H xs us Q I r h
  obtain ⟨ns, rfl, hl, q⟩ := h
  obtain ⟨ps, rfl, rfl⟩ := vals_toks r
  have hl2 : 3 ≤ ps.length ∧ ps.length ≤ 4 := by simpa using hl
  have hm : 3 ≤ (ps.map fun p => Value.int p.1 p.2).length := by simpa using hl2.1
  obtain ⟨a, c, r0, eu⟩ := many_shape hm
  have hz : (a :: c :: r0).length ≤ sizeLine := by rw [← eu, List.length_map, sizeLine_eq]; omega
  have hne : ps.map (·.1) ≠ [] := fun e => by
    have : (ps.map (·.1)).length = 0 := by rw [e]; rfl
    rw [List.length_map] at this
    omega
  cases b with
  | true =>
    show wpAny _ _ (call (.builtin "max") (ps.map fun p => Value.int p.1 p.2)) _ _ _
    have ok := args_mm "max" (.inl rfl) (us := ps.map fun p => Value.int p.1 p.2) (by simpa using hl2)
    rw [eu] at ok ⊢
    refine max_many hz ok ?_
    rw [← eu]
    refine many_iter (fun f i j => decide (f i > f j)) (fun xs => CmpOf.ints_gt (numAt xs) fun _ _ => intItems_at) hd (by omega) fun v h' tk hv hk => ?_
    obtain ⟨n, t, e1, rfl, e2⟩ := num_at hv
    refine ⟨.int n, H, I.kept hk, ⟨_, rfl⟩, ?_⟩
    have en : n = maxL (ps.map (·.1)) := by
      obtain ⟨h1, h2⟩ := maxL_mem _ hne
      have a1 := h2 n (List.mem_of_getElem? e1)
      obtain ⟨j, hj⟩ := List.mem_iff_getElem?.mp h1
      have hj2 : j < ps.length := by have := (List.getElem?_eq_some_iff.mp hj).1; simpa using this
      have a2 := best_gt (numAt ps.toArray) (ps.length - 1) j (by omega)
      rw [e2, num_ix hj] at a2
      omega
    rw [en]
    exact q
  | false =>
    show wpAny _ _ (call (.builtin "min") (ps.map fun p => Value.int p.1 p.2)) _ _ _
    have ok := args_mm "min" (.inr rfl) (us := ps.map fun p => Value.int p.1 p.2) (by simpa using hl2)
    rw [eu] at ok ⊢
    refine min_many hz ok ?_
    rw [← eu]
    refine many_iter (fun f i j => decide (f i < f j)) (fun xs => CmpOf.ints_lt (numAt xs) fun _ _ => intItems_at) hd (by omega) fun v h' tk hv hk => ?_
    obtain ⟨n, t, e1, rfl, e2⟩ := num_at hv
    refine ⟨.int n, H, I.kept hk, ⟨_, rfl⟩, ?_⟩
    have en : n = minL (ps.map (·.1)) := by
      obtain ⟨h1, h2⟩ := minL_mem _ hne
      have a1 := h2 n (List.mem_of_getElem? e1)
      obtain ⟨j, hj⟩ := List.mem_iff_getElem?.mp h1
      have hj2 : j < ps.length := by have := (List.getElem?_eq_some_iff.mp hj).1; simpa using this
      have a2 := best_lt (numAt ps.toArray) (ps.length - 1) j (by omega)
      rw [e2, num_ix hj] at a2
      omega
    rw [en]
    exact q
def mmN (b : Bool) : String := if b then "max" else "min"
theorem je_mmx {W : WX} {mas : Env → S → R (List D)} {e : Expr} {es : List Expr} {p pos : Pos} (kc : Cold X) (b : Bool) (hg : Gl X (mmN b)) (hm : X.mg (mmN b) = none) (ha : PA X (e :: es) (tMA X W mas))
    (he : starEach (e :: es) X.env = (false, eval e X.env) :: starEach es X.env) (hpl : (backTo pos (starEach es X.env)).any (·.1) = false) :
    PE X (.Call (.Name (mmN b) p) (e :: es) [] pos) (tM X W fun ρ s => (mas ρ s).bind fun xs s1 => R.of s1 (mmxD b xs)) := by
  have hv : bootBuiltins (mmN b) = some (.builtin (if b then "max" else "min")) := by cases b <;> decide +kernel
  refine PE.imp (pe_callB (cr_mm kc.hd b) hg hm hv ha (hn := by cases b <;> decide) (hdb := by cases b <;> decide) (he := he) (hpl := hpl)) fun σ H Q ⟨ha, ρ, s, r0, e0, h⟩ => ⟨ha, ρ, s, r0, e0, PtG.bind h fun xs s1 vs H1 ha1 r1 x1 g1 h1 => ?_⟩
  obtain ⟨d, e, q⟩ := PtG.of h1
  unfold mmxD at e
  cases en : intsOf xs with
  | none => rw [en] at e; cases e
  | some ns =>
    rw [en] at e
    have e : (if 3 ≤ ns.length ∧ ns.length ≤ 4 then some (D.int (if b then maxL ns else minL ns)) else none) = some d := e
    split at e
    · rename_i hl
      cases e
      exact ⟨ns, Reps.ints g1 en, hl, q _ _ _ r1 Ext.refl (.int _)⟩
    · cases e
end
end RS

set_option Elab.async false
set_option linter.all false
set_option maxRecDepth 100000
/-! statements, targets, what is walked, loops -/
namespace RS
open PySem PySem.Spec L2
open PyProof.Rows hiding St

def ExPS (X : Cx) (W : WX) (ha : HA) (s : S) (H : Hp) (c : Str) (fs : List (Str × D)) (ρ : Env) (s' : S) : Prop :=
  ∀ σ' H' ha' cls d, SRel X.K H' ha' s' → Ext ha s H ha' s' H' → ERel X.K H' (Av ha' s') ha' σ' ρ → ExR X.mg X.K H' (Av ha' s') ha' c fs cls d → W cls d σ' H'
def FlP (X : Cx) (E : Ends) (ha : HA) (s : S) (H : Hp) : Fl → S → Prop
  | .nx ρ, s' => ∀ σ' H' ha', SRel X.K H' ha' s' → Ext ha s H ha' s' H' → ERel X.K H' (Av ha' s') ha' σ' ρ → E.nx σ' H'
  | .ct ρ, s' => ∀ σ' H' ha', SRel X.K H' ha' s' → Ext ha s H ha' s' H' → ERel X.K H' (Av ha' s') ha' σ' ρ → E.ct σ' H'
  | .bk ρ, s' => ∀ σ' H' ha', SRel X.K H' ha' s' → Ext ha s H ha' s' H' → ERel X.K H' (Av ha' s') ha' σ' ρ → E.bk σ' H'
  | .rt d, s' => ∀ v H' ha', SRel X.K H' ha' s' → Ext ha s H ha' s' H' → Rep X.K H' (Av ha' s') ha' v d → E.rt v H'
abbrev PtS (X : Cx) (W : WX) (E : Ends) (ha : HA) (s : S) (H : Hp) (x : R Fl) : Prop := RP x (FlP X E ha s H) (ExPS X W ha s H)
def tS (X : Cx) (W : WX) (m : Env → S → R Fl) : TS := fun E σ H => ∃ ha ρ s, SRel X.K H ha s ∧ ERel X.K H (Av ha s) ha σ ρ ∧ PtS X W E ha s H (m ρ s)
section
variable {X : Cx} {W : WX} {E : Ends} {ha ha1 : HA} {s s1 : S} {H H1 : Hp} {x : R Fl}
theorem ExPS.e {σ : St} {c : Str} {fs : List (Str × D)} {ρ : Env} {s' : S} (h : ExPS X W ha s H c fs ρ s') : ExP X W σ ha s H c fs ρ s' := fun H' ha' cls d => h σ H' ha' cls d
theorem ExPS.ext {c : Str} {fs : List (Str × D)} {ρ : Env} {s' : S} (h : ExPS X W ha s H c fs ρ s') (e : Ext ha s H ha1 s1 H1) : ExPS X W ha1 s1 H1 c fs ρ s' := fun σ H' ha' cls d r z => h σ H' ha' cls d r (e.trans z)
theorem FlP.ext {fl : Fl} {s' : S} (h : FlP X E ha s H fl s') (e : Ext ha s H ha1 s1 H1) : FlP X E ha1 s1 H1 fl s' := by
  cases fl with
  | nx ρ => exact fun σ H' ha' r z => h σ H' ha' r (e.trans z)
  | ct ρ => exact fun σ H' ha' r z => h σ H' ha' r (e.trans z)
  | bk ρ => exact fun σ H' ha' r z => h σ H' ha' r (e.trans z)
  | rt d => exact fun σ H' ha' r z => h σ H' ha' r (e.trans z)
theorem PtS.ext (h : PtS X W E ha s H x) (e : Ext ha s H ha1 s1 H1) : PtS X W E ha1 s1 H1 x := RP.mono h (fun _ _ q => FlP.ext q e) fun _ _ _ _ q => ExPS.ext q e
theorem PtG.stm {α β : Type} {G : Rl α β} {σ : St} {k : β → Hp → Prop} {m : R α} {f : α → S → R Fl} (h : PtS X W E ha s H (m.bind f))
    (hk : ∀ a s1 v H1 ha1, SRel X.K H1 ha1 s1 → Ext ha s H ha1 s1 H1 → G H1 (Av ha1 s1) ha1 v a → PtS X W E ha1 s1 H1 (f a s1) → k v H1) : PtG G X W σ k ha s H m :=
  RP.mono (RP.bindI h) (fun a s1 q v H1 ha1 r e g => hk a s1 v H1 ha1 r e g (PtS.ext (H := H) (ha := ha) (s := s) q e)) (fun _ _ _ _ q => ExPS.e q)
end
section
variable {X : Cx} {W : WX} {st : Stmt} {rest : List Stmt} {m m1 m2 : Env → S → R Fl} {me : Env → S → R D} {mt : Env → S → R Bool} {e : Expr} {pos : Pos}
theorem js_nil : PSs X [] (tS X W fun ρ s => .ok (.nx ρ) s) := PSs.imp pss_nil fun E σ H ⟨ha, ρ, s, r, e, h⟩ => h σ H ha r Ext.refl e
theorem seq_imp {E : Ends} {σ : St} {H : Hp} (h : tS X W (fun ρ s => (m1 ρ s).bind (sqC m2)) E σ H) : tSeq (tS X W m1) (tS X W m2) E σ H := by
  obtain ⟨ha, ρ, s, r, e, h⟩ := h
  refine ⟨ha, ρ, s, r, e, RP.mono (RP.bindI h) (fun fl s1 q => ?_) fun _ _ _ _ q => q⟩
  cases fl with
  | nx ρ' => exact fun σ' H' ha' r1 x1 e1 => ⟨ha', ρ', s1, r1, e1, PtS.ext (ha := ha) (s := s) (H := H) q x1⟩
  | ct ρ' => exact q
  | bk ρ' => exact q
  | rt d => exact q
theorem js_cons (h1 : PS X st (tS X W m1)) (h2 : PSs X rest (tS X W m2)) : PSs X (st :: rest) (tS X W fun ρ s => (m1 ρ s).bind (sqC m2)) :=
  PSs.imp (pss_cons h1 h2) fun _ _ _ h => seq_imp h
theorem js_expr (he : PE X e (tM X W me)) (hs : swapsWith e none pos.line X.env = pure false) : PS X (.Expr e pos) (tS X W fun ρ s => (me ρ s).bind fun _ s1 => .ok (.nx ρ) s1) :=
  PS.imp (ps_expr he hs) fun E σ H ⟨ha, ρ, s, r, e, h⟩ => ⟨ha, ρ, s, r, e, PtG.stm h fun a s1 v H1 ha1 r1 x1 g1 q => q σ H1 ha1 r1 Ext.refl (e.ext x1 r)⟩
theorem js_doc {x j pos'} : PS X (.Expr (.Constant (.str x) j pos) pos') (tS X W fun ρ s => .ok (.nx ρ) s) := PS.imp ps_doc fun E σ H ⟨ha, ρ, s, r, e, h⟩ => h σ H ha r Ext.refl e
theorem js_pass : PS X (.Pass pos) (tS X W fun ρ s => .ok (.nx ρ) s) := PS.imp ps_pass fun E σ H ⟨ha, ρ, s, r, e, h⟩ => h σ H ha r Ext.refl e
theorem js_brk : PS X (.Break pos) (tS X W fun ρ s => .ok (.bk ρ) s) := PS.imp ps_break fun E σ H ⟨ha, ρ, s, r, e, h⟩ => h σ H ha r Ext.refl e
theorem js_cnt : PS X (.Continue pos) (tS X W fun ρ s => .ok (.ct ρ) s) := PS.imp ps_continue fun E σ H ⟨ha, ρ, s, r, e, h⟩ => h σ H ha r Ext.refl e
theorem js_never : PS X st (tS X W fun _ _ => .bad) := PS.imp ps_never fun E σ H ⟨ha, ρ, s, r, e, h⟩ => h
theorem js_ret (he : PE X e (tM X W me)) : PS X (.Return (some e) pos) (tS X W fun ρ s => (me ρ s).bind fun x s1 => .ok (.rt x) s1) :=
  PS.imp (ps_ret he) fun E σ H ⟨ha, ρ, s, r, e, h⟩ => ⟨ha, ρ, s, r, e, PtG.stm h fun a s1 v H1 ha1 r1 x1 g1 q => q v H1 ha1 r1 Ext.refl g1⟩
theorem js_retN : PS X (.Return none pos) (tS X W fun _ s => .ok (.rt .non) s) := PS.imp ps_retN fun E σ H ⟨ha, ρ, s, r, e, h⟩ => h .non H ha r Ext.refl .non
theorem js_if {c : Expr} {a b : List Stmt} (hc : PT X c (tMT X W mt)) (h1 : PSs X a (tS X W m1)) (h2 : PSs X b (tS X W m2)) : PS X (.If c a b pos) (tS X W fun ρ s => (mt ρ s).bind fun c s1 => if c then m1 ρ s1 else m2 ρ s1) :=
  PS.imp (ps_if hc h1 h2) fun E σ H ⟨ha, ρ, s, r, e, h⟩ => ⟨ha, ρ, s, r, e, PtG.stm h fun a s1 v H1 ha1 r1 x1 g1 q => by
    have g1 : v = a := g1
    subst g1
    have e1 := e.ext x1 r
    cases v with
    | true => exact ⟨ha1, ρ, s1, r1, e1, q⟩
    | false => exact ⟨ha1, ρ, s1, r1, e1, q⟩⟩

/-! ### targets -/
mutual
def Tg.sub (vs : List Nat) : Tg → Bool
  | .nm i => vs.contains i
  | .tp ts => Tg.subs vs ts
def Tg.subs (vs : List Nat) : List Tg → Bool
  | [] => true
  | t :: ts => Tg.sub vs t && Tg.subs vs ts
end
def gT (X : Cx) (t : Tg) : TG := fun v σ H Q => ∃ ha s d ρ ρ', SRel X.K H ha s ∧ ERel X.K H (Av ha s) ha σ ρ ∧ Rep X.K H (Av ha s) ha v d ∧ bindT s t d ρ = some ρ' ∧
  ∀ σ', ERel X.K H (Av ha s) ha σ' ρ' → (∀ vs, t.sub vs = true → wipe σ' vs = wipe σ vs) → Q σ' H
def gTs (X : Cx) (ts : List Tg) : TGs := fun v σ H Q => ∃ ha s d ρ ρ', SRel X.K H ha s ∧ ERel X.K H (Av ha s) ha σ ρ ∧ Reps X.K H (Av ha s) ha v d ∧ bindTs s ts d ρ = some ρ' ∧
  ∀ σ', ERel X.K H (Av ha s) ha σ' ρ' → (∀ vs, Tg.subs vs ts = true → wipe σ' vs = wipe σ vs) → Q σ' H
theorem ERel.set {K : PySem.W.Frag} {H : Hp} {A : Addr → Prop} {ha : HA} {σ : St} {ρ : Env} (e : ERel K H A ha σ ρ) (i : Nat) {v : V} {d : D} (g : Rep K H A ha v d) : ERel K H A ha (σ.set i (some v)) (ρ.set i (some d)) := by
  refine ⟨by rw [List.length_set, List.length_set, e.len], fun j d' q => ?_⟩
  by_cases z : i = j
  · subst z
    have hl : i < ρ.length := by
      have := (List.getElem?_eq_some_iff.mp q).1
      rwa [List.length_set] at this
    rw [List.getElem?_set_self hl] at q
    cases q
    exact ⟨v, by rw [List.getElem?_set_self (by rw [e.len]; exact hl)], g⟩
  · rw [List.getElem?_set_ne z] at q
    obtain ⟨v', h1, h2⟩ := e.get j d' q
    exact ⟨v', by rw [List.getElem?_set_ne z]; exact h1, h2⟩
theorem ERel.wipe {K : PySem.W.Frag} {H : Hp} {A : Addr → Prop} {ha : HA} {σ : St} {ρ : Env} (e : ERel K H A ha σ ρ) : ∀ own : List (Str × Nat), ERel K H A ha (wipe σ (own.map (·.2))) (wipeE ρ own)
  | [] => e
  | v :: vs => by
    have ih := ERel.wipe e vs
    show ERel K H A ha ((L2.wipe σ (vs.map (·.2))).set v.2 none) ((wipeE ρ vs).set v.2 none)
    refine ⟨by rw [List.length_set, List.length_set, ih.len], fun j d' q => ?_⟩
    by_cases z : v.2 = j
    · rw [← z] at q
      rw [List.getElem?_set] at q
      simp at q
    · rw [List.getElem?_set_ne z] at q
      obtain ⟨v', h1, h2⟩ := ih.get j d' q
      exact ⟨v', by rw [List.getElem?_set_ne z]; exact h1, h2⟩
theorem wipe_set {σ : St} {i : Nat} {v : Option V} : ∀ vs : List Nat, vs.contains i = true → L2.wipe (σ.set i v) vs = L2.wipe σ vs
  | [], h => by simp at h
  | w :: vs, h => by
    unfold L2.wipe
    by_cases z : w = i
    · subst z
      by_cases c : vs.contains w = true
      · rw [wipe_set vs c]
      · have key : ∀ us : List Nat, us.contains w = false → L2.wipe (σ.set w v) us = (L2.wipe σ us).set w v := by
          intro us
          induction us with
          | nil => intro _; rfl
          | cons u us ih =>
            intro hc
            simp at hc
            unfold L2.wipe
            rw [ih (by simp [hc.2]), List.set_comm _ _ hc.1]
        rw [key vs (by simpa using c), List.set_set]
    · have : vs.contains i = true := by simp at h ⊢; rcases h with h | h; exact absurd h.symm z; exact h
      rw [wipe_set vs this]
theorem jg_name {i : Nat} {x : Str} (hN : X.N.Nodup) (hi : X.N[i]? = some x) (hx : Loc X.env.scope x) (hf : X.fn x = true ∨ X.env.scope.names.lookup x = some .local) : PG X (.Name x pos) (gT X (.nm i)) := by
  refine ⟨fun pins s σ H v u Q I rv h => ?_⟩
  refine (pg_name hN hi hx hf).run pins s σ H v u Q I rv ?_
  obtain ⟨ha, s0, d, ρ, ρ', r, e, g, b, q⟩ := h
  have b' : (if i < ρ.length then some (ρ.set i (some d)) else none) = some ρ' := b
  split at b'
  · cases b'
    exact q _ (e.set i g) fun vs hv => wipe_set vs hv
  · cases b'
theorem jgs_nil : PGs X [] (gTs X []) := by
  refine ⟨fun pins s σ H v u Q I rv h => ?_⟩
  refine pgs_nil.run pins s σ H v u Q I rv ?_
  obtain ⟨ha, s0, d, ρ, ρ', r, e, g, b, q⟩ := h
  cases d with
  | nil =>
    cases g
    cases b
    exact ⟨rfl, q σ e fun _ _ => rfl⟩
  | cons _ _ => cases b
theorem jgs_cons {e : Expr} {es : List Expr} {t : Tg} {ts : List Tg} (h1 : PG X e (gT X t)) (h2 : PGs X es (gTs X ts))
    (hs : (assignEach (e :: es) X.env).map (·.2) = assign e X.env :: (assignEach es X.env).map (·.2)) : PGs X (e :: es) (gTs X (t :: ts)) := by
  refine ⟨fun pins s σ H v u Q I rv h => ?_⟩
  refine (pgs_cons h1 h2 hs).run pins s σ H v u Q I rv ?_
  obtain ⟨ha, s0, d, ρ, ρ', r, e, g, b, q⟩ := h
  cases d with
  | nil => cases b
  | cons d ds =>
    cases g with
    | cons g1 g2 =>
      have b' : (bindT s0 t d ρ).bind (fun ρ' => bindTs s0 ts ds ρ') = some ρ' := b
      cases e1 : bindT s0 t d ρ with
      | none => rw [e1] at b'; cases b'
      | some ρ1 =>
        rw [e1] at b'
        refine ⟨_, _, rfl, ha, s0, d, ρ, ρ1, r, e, g1, e1, fun σ1 e2 w1 => ⟨ha, s0, ds, ρ1, ρ', r, e2, g2, b', fun σ2 e3 w2 => q σ2 e3 fun vs hv => ?_⟩⟩
        have hv := Bool.and_eq_true_iff.mp (show (Tg.sub vs t && Tg.subs vs ts) = true from hv)
        rw [w2 vs hv.2, w1 vs hv.1]
theorem bindTs_len {s : S} : ∀ (ts : List Tg) (xs : List D) (ρ : Env) {ρ' : Env}, bindTs s ts xs ρ = some ρ' → xs.length = ts.length
  | [], [], _, _, _ => rfl
  | [], _ :: _, _, _, h => by cases h
  | _ :: _, [], _, _, h => by cases h
  | t :: ts, x :: xs, ρ, ρ', h => by
    have b2 : (bindT s t x ρ).bind (fun ρ' => bindTs s ts xs ρ') = some ρ' := h
    cases e1 : bindT s t x ρ with
    | none => rw [e1] at b2; cases b2
    | some ρ1 =>
      rw [e1] at b2
      rw [List.length_cons, List.length_cons, bindTs_len ts xs ρ1 b2]
theorem jg_tup {es : List Expr} {k : Nat} {ts : List Tg} (hc : X.calm = true) (h : PGs X es (gTs X ts)) (hn : (assignEach es X.env).length = ts.length) (hst : (assignEach es X.env).findIdx? (·.1) = none) : PG X (.Tuple es k pos) (gT X (.tp ts)) := by
  refine ⟨fun pins s σ H v u Q I rv h0 => ?_⟩
  obtain ⟨ha, s0, d, ρ, ρ', r, e, g, b, q⟩ := h0
  have b1 : (seqOf s0 d).bind (fun xs => bindTs s0 ts xs ρ) = some ρ' := b
  cases e1 : seqOf s0 d with
  | none => rw [e1] at b1; cases b1
  | some xs =>
    rw [e1] at b1
    have b' : bindTs s0 ts xs ρ = some ρ' := b1
    obtain ⟨p, vs, rfl, h1, h2, h3⟩ := seq_at r g e1
    have hl : vs.length = ts.length := by rw [h3.length, bindTs_len ts xs ρ b']
    rcases h1 with h1 | h1
    · exact (pg_lst hc h hn hst).run pins s σ H _ u Q I rv ⟨p, vs, rfl, SqL.of h1, hl, ha, s0, xs, ρ, ρ', r, e, h3, b', q⟩
    · exact (pg_tup hc h hn hst).run pins s σ H _ u Q I rv ⟨p, vs, rfl, h1, hl, ha, s0, xs, ρ, ρ', r, e, h3, b', q⟩
theorem js_asg {tg : Expr} {t : Tg} (he : PE X e (tM X W me)) (hg : PG X tg (gT X t)) (hs : swapsWithSole [tg] e pos.line X.env = pure false) (hw : swappedStores [tg] e X.env = pure none)
    (h1 : (assignEach [tg] X.env).map (·.2) = [assign tg X.env]) : PS X (.Assign [tg] e pos) (tS X W fun ρ s => (me ρ s).bind fun x s1 => match bindT s1 t x ρ with | some ρ' => .ok (.nx ρ') s1 | none => .bad) :=
  PS.imp (ps_asg he hg hs hw h1) fun E σ H ⟨ha, ρ, s, r, e, h⟩ => ⟨ha, ρ, s, r, e, PtG.stm h fun a s1 v H1 ha1 r1 x1 g1 q => by
    cases e1 : bindT s1 t a ρ with
    | none => rw [e1] at q; exact q.elim
    | some ρ' =>
      rw [e1] at q
      exact ⟨ha1, s1, a, ρ, ρ', r1, e.ext x1 r, g1, e1, fun σ' e2 _ => q σ' H1 ha1 r1 Ext.refl e2⟩⟩
end
end RS

set_option Elab.async false
set_option linter.all false
set_option maxRecDepth 100000
/-! enumerate over a tuple -/
namespace RS
open PySem PySem.Spec L2
open PyProof.Rows hiding St
open Sem (wp)
open AutoSeq1 (wpAny_loadPart')

set_option maxHeartbeats 1000000 in
theorem meets_enumT {v : Value} {o : Obj} {H : Heap → Prop} (B : Begins v o H) :
    Meets (Builtin.«enumerate.__new__» ⟨[.type "enumerate", v], []⟩) (fun _ R s => H s.heap ∧
      R (.ok (.ret (.ref (s.heap.push o).objs.size))) { s with heap := (s.heap.push o).push { cls := .type "enumerate", data := .fields #[.none, .bool false, .ref s.heap.objs.size, rawInt 0, .none, .none] } }) :=
  .of_wp fun prog w A R s h => by
    obtain ⟨hp, g, d, tk, os⟩ := s
    obtain ⟨h1, h⟩ := h
    have hsub := sub_enumerate
    have q1 : ∀ {A' : Around} {E : Value → Shared → Prop} {Q : Value → Shared → Prop}, Q (.ref hp.objs.size) ⟨hp.push o, g, d, tk, os⟩ → wpAny (model prog w) A' (pyIter v) Q E ⟨hp, g, d, tk, os⟩ :=
      fun q => B.iter prog w _ _ ⟨hp, g, d, tk, os⟩ _ h1 q
    wp_walk using q1
    refine wpAny_stack_any fun st => wpAny_pure ?_
    split
    · rename_i c _ _ _ _ _
      cases (c == Value.type "enumerate")
      · wp_walk using q1
        exact ⟨_, rfl, h⟩
      · wp_walk using q1
        exact ⟨_, rfl, h⟩
    · wp_walk using q1
      exact ⟨_, rfl, h⟩
theorem call_enumT {prog : Program} {w : World} {A : Around} {E : Value → Shared → Prop} {s : Shared} {v : Value} {o : Obj} {H : Heap → Prop} {Q : Value → Shared → Prop} (B : Begins v o H) (h1 : H s.heap)
    (h : ∀ h', IsEnum h' (s.heap.objs.size + 1) s.heap.objs.size 0 .none → h'.get? s.heap.objs.size = some o → h'.objs.size = s.heap.objs.size + 2 →
      (∀ b o, s.heap.get? b = some o → h'.get? b = some o) → Q (.ref (s.heap.objs.size + 1)) { s with heap := h' }) :
    wpAny (model prog w) A (call (.type "enumerate") [v]) Q E s := by
  refine callType_new F.called_enumerate (by decide) (F.typeCall_enumerate_1 _) (F.newCall_enumerate_1 _) (fun obj => F.args_object_init_2 obj _) F.entry_enumerate_new
    (meets_enumT B) ⟨h1, ?_⟩
  have hz : (s.heap.push o).objs.size = s.heap.objs.size + 1 := Heap.size_push ..
  show _ ∧ _
  rw [hz]
  have he : IsEnum ((s.heap.push o).push { cls := .type "enumerate", data := .fields #[.none, .bool false, .ref s.heap.objs.size, rawInt 0, .none, .none] }) (s.heap.objs.size + 1) s.heap.objs.size 0 .none := by
    have := Heap.get?_push_size (s.heap.push o) (o := { cls := .type "enumerate", data := .fields #[.none, .bool false, .ref s.heap.objs.size, rawInt 0, .none, .none] }) rfl
    rw [hz] at this; exact this
  refine ⟨⟨_, he, rfl⟩, h _ he (Heap.get?_push_of_some _ (Heap.get?_push_size _ B.free)) (by rw [Heap.size_push, hz]) fun b o x => Heap.get?_push_of_some _ (Heap.get?_push_of_some _ x)⟩
/-- the tuple at a, each item in a new pair -/
def IteT (K : PySem.W.Frag) (a : Addr) : L2.It :=
  ⟨fun i H => ∃ (xs : List V) (x : V), SqT K H a xs ∧ xs[i]? = some x, fun i H v H' => ∃ T x, v = .ref T ∧ H T = none ∧ H' = upd H T (.tup [.int (i : Nat), x]) ∧ ∀ xs, SqT K H a xs → xs[i]? = some x, fun i H => ∃ xs : List V, SqT K H a xs ∧ xs.length ≤ i⟩
theorem turn_enumT {P : Program} {w : World} {K : PySem.W.Frag} {elts : List Expr} {kk : Nat} {tpos : Pos} (a e it : Addr) :
    Turn P w K (.Tuple elts kk tpos) (IteT K a) [e, it] e (fun i h => (∃ old, IsEnum h e it ((i : Nat) : Int) old) ∧ h.IsTupleIter it a i ∧ e ≠ it ∧ a ≠ it ∧ e ≠ a) where
  mem := by simp
  obj := fun i h st b hb => by
    obtain ⟨⟨old, he⟩, ⟨o, ho, hc, hd⟩, _⟩ := st
    have e' : b = e ∨ b = it := by simpa using hb
    rcases e' with z | z
    · rw [z]; exact ⟨_, he, fun v q => nomatch q⟩
    · rw [z]; exact ⟨o, ho, fun v q => by rw [hd] at q; cases q⟩
  keep := fun i h h' st k => let ⟨⟨old, he⟩, hi, hne⟩ := st; ⟨⟨old, k e (by simp) _ he⟩, hi.at fun o q => k it (by simp) o q, hne⟩
  item := by
    intro X hP hw hK hc i pins s σ H E I hf st hg
    subst hP hw hK
    obtain ⟨⟨old, he⟩, hit, hne, hai, hea⟩ := st
    obtain ⟨xs, x, hq, hx⟩ := hg
    obtain ⟨its, rv, p, hz⟩ := I.tuple hq
    obtain ⟨u, hu, ru⟩ := rv.get hx
    have hel : e < s.heap.objs.size := Heap.lt_size he
    have hil : it < s.heap.objs.size := by obtain ⟨_, q, _⟩ := hit; exact Heap.lt_size q
    have D := Draws.tuple (prog := X.prog) (w := X.w) (A := X.A.in1) (I.ok.hd hc) it a hai its.toArray
    have hlt : i < its.toArray.size := by
      have := (List.getElem?_eq_some_iff.mp hu).1
      simpa using this
    refine wpAny_pyNext_enum_itemD D he ⟨hit, p⟩ hlt hne (by simp [hne, hea]) fun x' h' tk hPx ho hit' hT hsz hk => ?_
    have ex : x' = u := by
      have : its.toArray[i]? = some u := by simpa using hu
      rw [this] at hPx
      exact (Option.some.inj hPx).symm
    subst ex
    refine ⟨_, rfl, wpAny_letOwnedTupleGo_enum (s := { s with heap := h', toks := tk + 1 }) ho fun h'' he' sb => ?_⟩
    have hT2 : h''.get? s.heap.objs.size = some { cls := .type "tuple", data := .seq #[.int i tk, x'] } := (sb.2 _ (Nat.ne_of_gt hel)).trans hT
    have new : ObjOk X.prog X.w (upd H s.heap.objs.size (.tup [.int (i : Nat), x])) h'' s.heap.objs.size (.tup [.int (i : Nat), x]) :=
      ⟨by show 2 ≤ sizeLine; decide, [.int i tk, x'], .cons ⟨_, rfl⟩ (.cons ru .nil), ⟨_, hT2, rfl, _, rfl⟩⟩
    have I1 : Inv X pins σ (upd H s.heap.objs.size (.tup [.int (i : Nat), x])) { s with heap := h'', toks := tk + 1 } :=
      I.turnedNew (ch := [e, it]) (fun b ob hb q => (sb.2 b (fun z => hb (by simp [z]))).trans (hk b ob (fun z => hb (by simp [z])) (fun z => hb (by simp [z])) q)) hf (Nat.le_refl _) new
    refine ⟨.ref s.heap.objs.size, _, I1, rfl, ⟨_, x, rfl, I.hok.fresh (Nat.le_refl _), rfl, fun ys hy => by rw [I.tuple_inj hy hq]; exact hx⟩, ⟨⟨x', ?_⟩, hit'.1.at fun o q => (sb.2 it (Ne.symm hne)).trans q, hne, hai, hea⟩, fun b hb => ?_⟩
    · have e1 : ((i + 1 : Nat) : Int) = (i : Int) + 1 := by omega
      rw [e1]; exact he'
    · have hb' : b < s.heap.objs.size := by
        have e' : b = e ∨ b = it := by simpa using hb
        rcases e' with z | z
        · rw [z]; exact hel
        · rw [z]; exact hil
      rw [upd_ne (Nat.ne_of_lt hb')]
      exact (hf b hb).1
  done := by
    intro X hP hw hK hc i pins s σ H E I hf st hg
    subst hP hw hK
    obtain ⟨⟨old, he⟩, hit, hne, hai, hea⟩ := st
    obtain ⟨xs, hq, hx⟩ := hg
    obtain ⟨its, rv, p, hz⟩ := I.tuple hq
    obtain ⟨f0, f1, f2, f3, f4, f5⟩ := hf it (by simp)
    have hl := rv.length
    have hT : s.TypeIs (.ref e) "enumerate" := ⟨_, he, rfl⟩
    unfold pyNext
    refine wpAny_bind (wpAny_attempt (wpAny_callSpecial?_slot (name := Str.ofString "__next__") hT F.slot_enumerate_next
      (wpAny_call_entry F.slot_enumerate_next hT F.entry_enumerate_next ?_ (F.args_enumerate_next_1 _))))
    show wpAny _ _ (field (.ref e) 2 >>= _) _ _ _
    refine wpAny_bind (wpAny_field he rfl (x := .ref it) rfl ?_)
    refine wpAny_bind (wpAny_nextOf_tuple_end (I.ok.hd hc) hit p (by simp; omega) fun h' x he' hx' => ?_)
    obtain ⟨o, ho, hc⟩ := hx'
    refine wpAny_bind (wpAny_isInstance (T := "StopIteration") (b := true) ⟨o, ho, hc⟩ isSubtype_stop ?_)
    exact wpAny_pure ⟨rfl, I.turned (t' := s.toks) (fun b o hb q => he' b o hb q) f0 f1 f3 f4 f5⟩
  self := fun A i s Q E st h => let ⟨⟨_, he⟩, _⟩ := st; wpAny_pyIter_enum he h
def iEnumA (K : PySem.W.Frag) (ta : TA) : TI := fun σ H R => ta σ H fun vs H1 => ∃ a xs, vs = [.ref a] ∧ ((SqL K H1 a xs ∧ R (Ite K a) H1) ∨ (SqT K H1 a xs ∧ R (IteT K a) H1))
theorem pi_enumA {X : Cx} {e : Expr} {ta : TA} {p pos tpos : Pos} {elts : List Expr} {kk : Nat} (hg : Gl X "enumerate") (hm : X.mg "enumerate" = none) (ha : PA X [e] ta) (hs : starEach [e] X.env = [(false, eval e X.env)]) :
    PI X (.Tuple elts kk tpos) (.Call (.Name "enumerate" p) [e] [] pos) (iEnumA X.K ta) := by
  refine ⟨fun pins s σ H R I h => ?_⟩
  refine Call_ (ld_blt I hg hm boot_enumerate (PyProof.Rows.callWith_type1 (thn (ha.run pos pins s σ H _ I h) fun us s1 ⟨vs, H1, I1, r1, q1⟩ => ?_) hs rfl))
  obtain ⟨a, xs, ex, q1⟩ := q1
  subst ex
  cases r1 with
  | cons r rr =>
    cases rr
    cases r
    have fr : ∀ b, b ∈ [s1.heap.objs.size + 1, s1.heap.objs.size] → FpOk X pins H1 b := fun b hb => by
      have e' : b = s1.heap.objs.size + 1 ∨ b = s1.heap.objs.size := by simpa using hb
      have hle : s1.heap.objs.size ≤ b := by
        rcases e' with z | z
        · rw [z]; exact Nat.le_add_right _ _
        · rw [z]; exact Nat.le_refl _
      exact I1.fpOk hle (I1.hok.fresh hle)
    rcases q1 with ⟨hq, q⟩ | ⟨hq, q⟩
    · obtain ⟨its, rv, p', hz⟩ := I1.list hq
      refine call_enumerate_list p'.isList fun h' he hit hsz hk => wpAny_pyIter_enum he ?_
      have I2 : Inv X pins σ H1 { s1 with heap := h' } := I1.kept (t' := s1.toks) hk
      exact ⟨s1.heap.objs.size + 1, [s1.heap.objs.size + 1, s1.heap.objs.size], _, _, H1, rfl, I2, turn_enum a (s1.heap.objs.size + 1) s1.heap.objs.size, ⟨⟨.none, he⟩, hit, Nat.succ_ne_self _⟩, fr, q⟩
    · obtain ⟨its, rv, p', hz⟩ := I1.tuple hq
      have hal : a < s1.heap.objs.size := by obtain ⟨o, ho, _⟩ := id p'; exact Heap.lt_size ho
      refine call_enumT (begins_tuple a its.toArray) p' fun h' he hit hsz hk => wpAny_pyIter_enum he ?_
      have I2 : Inv X pins σ H1 { s1 with heap := h' } := I1.kept (t' := s1.toks) hk
      exact ⟨s1.heap.objs.size + 1, [s1.heap.objs.size + 1, s1.heap.objs.size], _, _, H1, rfl, I2, turn_enumT a (s1.heap.objs.size + 1) s1.heap.objs.size, ⟨⟨.none, he⟩, ⟨_, hit, rfl, rfl⟩, Nat.succ_ne_self _, Nat.ne_of_lt hal, Nat.ne_of_gt (Nat.lt_succ_of_lt hal)⟩, fr, q⟩
end RS

set_option Elab.async false
set_option linter.all false
set_option maxRecDepth 100000
/-! what is walked; for, while -/
namespace RS
open PySem PySem.Spec L2
open PyProof.Rows hiding St

theorem R.bind_assoc {α β γ : Type} (x : R α) (f : α → S → R β) (g : β → S → R γ) : (x.bind f).bind g = x.bind fun a s => (f a s).bind g := by cases x <;> rfl
def JW (X : Cx) (J : L2.It) (ha : HA) (s : S) (H : Hp) (xs : List D) : Prop := xs.length ≤ sizeLine ∧ ∀ ha' s' H', SRel X.K H' ha' s' → Ext0 ha s H ha' s' H' → ∀ i : Nat,
  (∀ d, xs[i]? = some d → J.go i H' ∧ ∀ x H'', J.yld i H' x H'' → SRel X.K H'' ha' s' ∧ Ext ha' s' H' ha' s' H'' ∧ Rep X.K H'' (Av ha' s') ha' x d) ∧ (xs.length ≤ i → J.stop i H')
def tI (X : Cx) (W : WX) (m : Env → S → R (List D)) : TI := fun σ H Rr => ∃ ha ρ s, SRel X.K H ha s ∧ ERel X.K H (Av ha s) ha σ ρ ∧
  RP (m ρ s) (fun xs s' => ∀ J H1 ha1, SRel X.K H1 ha1 s' → Ext ha s H ha1 s' H1 → JW X J ha1 s' H1 xs → Rr J H1) (ExP X W σ ha s H)
theorem PI.imp {X : Cx} {tg e : Expr} {t t' : TI} (h : PI X tg e t) (i : ∀ σ H Q, t' σ H Q → t σ H Q) : PI X tg e t' := ⟨fun pins s σ H Q I q => h.run pins s σ H Q I (i σ H Q q)⟩
section
variable {X : Cx} {W : WX}
theorem jw_list {ha : HA} {s : S} {H : Hp} {p : Addr} {vs : List V} {xs : List D} (r : SRel X.K H ha s) (h : H p = some (.lst vs)) (z : vs.length ≤ sizeLine) (n : ¬ Hv ha s p) (g : Reps X.K H (Av ha s) ha vs xs) : JW X (Itl X.K p) ha s H xs := by
  refine ⟨by rw [← g.length]; exact z, fun ha' s' H' r' x i => ⟨fun d e => ?_, fun e => ⟨vs, SqL.of (x.keep _ _ h (fun _ z => by cases z) n), by rw [g.length]; exact e⟩⟩⟩
  have g' := Reps.ext0 x r xs vs g
  have q := x.keep _ _ h (fun _ z => by cases z) n
  obtain ⟨v, h1, h2⟩ := g'.get e
  refine ⟨⟨vs, v, SqL.of q, h1⟩, fun w H'' ⟨e1, hy⟩ => ?_⟩
  subst e1
  have := hy vs (SqL.of q)
  rw [h1] at this
  cases this
  exact ⟨r', Ext.refl, h2⟩
theorem jw_tup {ha : HA} {s : S} {H : Hp} {p : Addr} {vs : List V} {xs : List D} (r : SRel X.K H ha s) (h : SqT X.K H p vs) (z : vs.length ≤ sizeLine) (g : Reps X.K H (Av ha s) ha vs xs) : JW X (Itt X.K p) ha s H xs := by
  refine ⟨by rw [← g.length]; exact z, fun ha' s' H' r' x i => ⟨fun d e => ?_, fun e => ⟨vs, x.sqt r h, by rw [g.length]; exact e⟩⟩⟩
  have g' := Reps.ext0 x r xs vs g
  have q := x.sqt r h
  obtain ⟨v, h1, h2⟩ := g'.get e
  refine ⟨⟨vs, v, q, h1⟩, fun w H'' ⟨e1, hy⟩ => ?_⟩
  subst e1
  have := hy vs q
  rw [h1] at this
  cases this
  exact ⟨r', Ext.refl, h2⟩
theorem Ext.tup2 {ha : HA} {s : S} {H : Hp} {T : Addr} {x y : V} {d e : D} (r : SRel X.K H ha s) (hT : H T = none) (g1 : Rep X.K H (Av ha s) ha x d) (g2 : Rep X.K H (Av ha s) ha y e) :
    SRel X.K (upd H T (.tup [x, y])) ha s ∧ Ext ha s H ha s (upd H T (.tup [x, y])) ∧ Rep X.K (upd H T (.tup [x, y])) (Av ha s) ha (.ref T) (.tup [d, e]) :=
  ⟨r.new1 hT, Ext.new1 (K := X.K) hT, rep_newT r hT (by show 2 ≤ sizeLine; decide) (.cons g1 (.cons g2 .nil))⟩
theorem jw_enum {ha : HA} {s : S} {H : Hp} {p : Addr} {vs : List V} {xs : List D} (r : SRel X.K H ha s) (h : H p = some (.lst vs)) (z : vs.length ≤ sizeLine) (n : ¬ Hv ha s p) (g : Reps X.K H (Av ha s) ha vs xs) :
    JW X (Ite X.K p) ha s H (xs.mapIdx fun i d => .tup [.int (i : Nat), d]) := by
  refine ⟨by rw [List.length_mapIdx, ← g.length]; exact z, fun ha' s' H' r' x i => ⟨fun d e => ?_, fun e => ⟨vs, SqL.of (x.keep _ _ h (fun _ z => by cases z) n), by rw [List.length_mapIdx] at e; rw [g.length]; exact e⟩⟩⟩
  have g' := Reps.ext0 x r xs vs g
  have q := x.keep _ _ h (fun _ z => by cases z) n
  rw [List.getElem?_mapIdx] at e
  cases e1 : xs[i]? with
  | none => rw [e1] at e; cases e
  | some d' =>
    rw [e1] at e
    cases e
    obtain ⟨v, h1, h2⟩ := g'.get e1
    refine ⟨⟨vs, v, SqL.of q, h1⟩, fun w H'' ⟨T, x0, e2, hT, e3, hy⟩ => ?_⟩
    subst e2 e3
    have := hy vs (SqL.of q)
    rw [h1] at this
    cases this
    exact Ext.tup2 r' hT (.int _) h2
theorem jw_enumT {ha : HA} {s : S} {H : Hp} {p : Addr} {vs : List V} {xs : List D} (r : SRel X.K H ha s) (h : SqT X.K H p vs) (z : vs.length ≤ sizeLine) (g : Reps X.K H (Av ha s) ha vs xs) :
    JW X (IteT X.K p) ha s H (xs.mapIdx fun i d => .tup [.int (i : Nat), d]) := by
  refine ⟨by rw [List.length_mapIdx, ← g.length]; exact z, fun ha' s' H' r' x i => ⟨fun d e => ?_, fun e => ⟨vs, x.sqt r h, by rw [List.length_mapIdx] at e; rw [g.length]; exact e⟩⟩⟩
  have g' := Reps.ext0 x r xs vs g
  have q := x.sqt r h
  rw [List.getElem?_mapIdx] at e
  cases e1 : xs[i]? with
  | none => rw [e1] at e; cases e
  | some d' =>
    rw [e1] at e
    cases e
    obtain ⟨v, h1, h2⟩ := g'.get e1
    refine ⟨⟨vs, v, q, h1⟩, fun w H'' ⟨T, x0, e2, hT, e3, hy⟩ => ?_⟩
    subst e2 e3
    have := hy vs q
    rw [h1] at this
    cases this
    exact Ext.tup2 r' hT (.int _) h2
theorem jw_range {ha : HA} {s : S} {H : Hp} (i j : Int) (hi : i ≤ CAP ∧ -CAP ≤ i) (hj : j ≤ CAP ∧ -CAP ≤ j) : JW X (Itr i (j - i).toNat) ha s H (rangeD i j) := by
  have hl : (rangeD i j).length = (j - i).toNat := by simp [rangeD]
  refine ⟨by rw [hl]; exact Nat.le_trans (show (j - i).toNat ≤ 2 * CAP by unfold CAP at *; omega) (by decide), fun ha' s' H' r' x k => ⟨fun d e => ?_, fun e => by rw [hl] at e; exact e⟩⟩
  have hk : k < (j - i).toNat := by
    have := (List.getElem?_eq_some_iff.mp e).1
    rwa [hl] at this
  refine ⟨hk, fun w H'' ⟨e1, e2⟩ => ?_⟩
  subst e1 e2
  have : d = .int (i + (k : Int)) := by
    simp only [rangeD, List.getElem?_map, List.getElem?_range hk] at e
    cases e
    rfl
  rw [this]
  exact ⟨r', Ext.refl, .int _⟩
theorem zw_get : ∀ (xs ys : List D) (i : Nat) (d : D), (List.zipWith (fun d e => D.tup [d, e]) xs ys)[i]? = some d → ∃ a b, xs[i]? = some a ∧ ys[i]? = some b ∧ d = .tup [a, b] := by
  intro xs ys i d e
  rw [List.getElem?_zipWith] at e
  cases e1 : xs[i]? with
  | none => rw [e1] at e; cases e
  | some a =>
    cases e2 : ys[i]? with
    | none => rw [e1, e2] at e; cases e
    | some b => rw [e1, e2] at e; cases e; exact ⟨a, b, rfl, rfl, rfl⟩
theorem jw_zipL {ha : HA} {s : S} {H : Hp} {p q : Addr} {vs ws : List V} {xs ys : List D} (r : SRel X.K H ha s) (h : H p = some (.lst vs)) (z : vs.length ≤ sizeLine) (n : ¬ Hv ha s p) (g : Reps X.K H (Av ha s) ha vs xs)
    (h2 : H q = some (.lst ws)) (n2 : ¬ Hv ha s q) (g2 : Reps X.K H (Av ha s) ha ws ys) : JW X (Itz X.K p q) ha s H (List.zipWith (fun d e => .tup [d, e]) xs ys) := by
  refine ⟨by rw [List.length_zipWith, ← g.length]; exact Nat.le_trans (Nat.min_le_left _ _) z, fun ha' s' H' r' x i => ?_⟩
  have k1 := x.keep _ _ h (fun _ z => by cases z) n
  have k2 := x.keep _ _ h2 (fun _ z => by cases z) n2
  refine ⟨fun d e => ?_, fun e => ⟨vs, ws, SqL.of k1, SqL.of k2, by rw [List.length_zipWith] at e; rw [g.length, g2.length]; omega⟩⟩
  obtain ⟨a, b, e1, e2, rfl⟩ := zw_get _ _ _ _ e
  obtain ⟨v, h3, h4⟩ := (Reps.ext0 x r xs vs g).get e1
  obtain ⟨w, h5, h6⟩ := (Reps.ext0 x r ys ws g2).get e2
  refine ⟨⟨vs, ws, v, w, SqL.of k1, SqL.of k2, h3, h5⟩, fun u H'' ⟨T, x0, y0, e3, hT, e4, hy, hy2⟩ => ?_⟩
  subst e3 e4
  have t1 := hy vs (SqL.of k1)
  have t2 := hy2 ws (SqL.of k2)
  rw [h3] at t1
  rw [h5] at t2
  cases t1
  cases t2
  exact Ext.tup2 r' hT h4 h6
theorem jw_zipT {ha : HA} {s : S} {H : Hp} {p q : Addr} {vs ws : List V} {xs ys : List D} (r : SRel X.K H ha s) (h : SqT X.K H p vs) (z : vs.length ≤ sizeLine) (g : Reps X.K H (Av ha s) ha vs xs)
    (h2 : SqT X.K H q ws) (g2 : Reps X.K H (Av ha s) ha ws ys) : JW X (RZ.ItzT X.K p q) ha s H (List.zipWith (fun d e => .tup [d, e]) xs ys) := by
  refine ⟨by rw [List.length_zipWith, ← g.length]; exact Nat.le_trans (Nat.min_le_left _ _) z, fun ha' s' H' r' x i => ?_⟩
  have k1 := x.sqt r h
  have k2 := x.sqt r h2
  refine ⟨fun d e => ?_, fun e => ⟨vs, ws, k1, k2, by rw [List.length_zipWith] at e; rw [g.length, g2.length]; omega⟩⟩
  obtain ⟨a, b, e1, e2, rfl⟩ := zw_get _ _ _ _ e
  obtain ⟨v, h3, h4⟩ := (Reps.ext0 x r xs vs g).get e1
  obtain ⟨w, h5, h6⟩ := (Reps.ext0 x r ys ws g2).get e2
  refine ⟨⟨vs, ws, v, w, k1, k2, h3, h5⟩, fun u H'' ⟨T, x0, y0, e3, hT, e4, hy, hy2⟩ => ?_⟩
  subst e3 e4
  have t1 := hy vs k1
  have t2 := hy2 ws k2
  rw [h3] at t1
  rw [h5] at t2
  cases t1
  cases t2
  exact Ext.tup2 r' hT h4 h6

/-! ### an object that may change stands still from now on -/
theorem Hv.fz {ha : HA} {s : S} {i : Nat} {xs : List D} {q : Addr} (h : Hv ha (s.set i (.fz xs)) q) : Hv ha s q := by
  obtain ⟨j, o, h1, h2, h3⟩ := h
  by_cases z : i = j
  · subst z
    have hl : i < s.length := by
      have := (List.getElem?_eq_some_iff.mp h2).1
      rwa [List.length_set] at this
    rw [List.getElem?_set_self hl] at h2
    cases h2
    cases h3
  · rw [List.getElem?_set_ne z] at h2
    exact ⟨j, o, h1, h2, h3⟩
theorem Ext.fz {ha : HA} {s : S} {H : Hp} (i : Nat) (xs : List D) : Ext ha s H ha (s.set i (.fz xs)) H :=
  ⟨⟨[], by simp⟩, rfl, fun _ _ h _ _ => h, fun _ z => .inl z.fz, fun _ o h => ⟨o, h⟩⟩
theorem SRel.fz {ha : HA} {s : S} {H : Hp} (r : SRel X.K H ha s) {i : Nat} {xs : List D} (e : s[i]? = some (.ml xs)) : SRel X.K H ha (s.set i (.fz xs)) := by
  refine ⟨by rw [List.length_set]; exact r.len, r.nd, fun j o h => ?_, fun j o h => ?_, r.trk, r.dis, r.tab⟩
  · by_cases z : i = j
    · subst z
      rw [List.getElem?_set_self (List.getElem?_eq_some_iff.mp e).1] at h
      cases h
      obtain ⟨p, h1, vs, h2, h3, h4⟩ := r.obj i _ e
      exact ⟨p, h1, vs, h2, h3, Reps.ext (Ext.fz i xs) r xs vs h4⟩
    · rw [List.getElem?_set_ne z] at h
      obtain ⟨p, h1, h2⟩ := r.obj j o h
      exact ⟨p, h1, ObjR.ext (Ext.fz i xs) r (fun _ w => w) h2⟩
  · by_cases z : i = j
    · subst z
      rw [List.getElem?_set_self (List.getElem?_eq_some_iff.mp e).1] at h
      cases h
      exact r.low i (.ml xs) e
    · rw [List.getElem?_set_ne z] at h
      exact r.low j o h
/-- a list that stands still, or is made to -/
theorem lstF_at {ha : HA} {s s' : S} {H : Hp} (r : SRel X.K H ha s) {v : V} {d : D} {xs : List D} (h : Rep X.K H (Av ha s) ha v d) (e : lstF d s = .ok xs s') :
    SRel X.K H ha s' ∧ Ext ha s H ha s' H ∧ ∃ p vs, v = .ref p ∧ H p = some (.lst vs) ∧ ¬ Hv ha s' p ∧ vs.length ≤ sizeLine ∧ Reps X.K H (Av ha s') ha vs xs := by
  cases h with
  | lst h1 h2 h3 h4 => cases e; exact ⟨r, Ext.refl, _, _, rfl, h1, fun z => h2 (.inr z), h3, h4⟩
  | @hnd p i h1 =>
    have e' : (match s[i]? with | some (.ml xs) => R.ok xs (s.set i (.fz xs)) | some (.fz xs) => .ok xs s | _ => .bad) = .ok xs s' := e
    have nh : ∀ {t : S} {ys : List D}, SRel X.K H ha t → t[i]? = some (.fz ys) → ¬ Hv ha t p := fun rt q z => by
      obtain ⟨j, o, k1, k2, k3⟩ := z
      have : i = j := by
        exact (List.getElem?_inj (List.getElem?_eq_some_iff.mp h1).1 rt.nd).mp (h1.trans k1.symm)
      subst this
      rw [q] at k2
      cases k2
      cases k3
    cases q : s[i]? with
    | none => rw [q] at e'; cases e'
    | some o =>
      obtain ⟨p', h2, h3⟩ := r.obj i o q
      rw [h1] at h2
      cases h2
      rw [q] at e'
      cases o with
      | ml ys =>
        cases e'
        have r' := r.fz q
        obtain ⟨vs, a, b, c⟩ := h3
        refine ⟨r', Ext.fz i xs, _, vs, rfl, a, ?_, b, Reps.ext (Ext.fz i xs) r xs vs c⟩
        exact nh r' (List.getElem?_set_self (List.getElem?_eq_some_iff.mp q).1)
      | fz ys =>
        cases e'
        obtain ⟨vs, a, b, c⟩ := h3
        exact ⟨r, Ext.refl, _, vs, rfl, a, nh r q, b, c⟩
      | md ys => cases e'
      | gone => cases e'
  | _ => cases e
/-! ### the walks' rules -/
def iSeq (K : PySem.W.Frag) (tl : TE) : TI := fun σ H R => tl σ H fun x H1 => ∃ a, x = .ref a ∧ (((∃ xs, SqL K H1 a xs) ∧ R (Itl K a) H1) ∨ ((∃ xs, SqT K H1 a xs) ∧ R (Itt K a) H1))
theorem pi_seq {tg l : Expr} {tl : TE} (hl : PE X l tl) : PI X tg l (iSeq X.K tl) := by
  refine ⟨fun pins s σ H R I h => ?_⟩
  refine thn (hl.run pins s σ H _ I h) fun v s1 ⟨x, H1, I1, r1, q1⟩ => ?_
  obtain ⟨a, e, q⟩ := q1
  subst e
  cases r1
  rcases q with ⟨⟨xs, hq⟩, q⟩ | ⟨⟨xs, hq⟩, q⟩
  · obtain ⟨its, rv, p, hz⟩ := I1.list hq
    refine wpAny_pyIter_list p.isList ?_
    refine ⟨s1.heap.objs.size, [s1.heap.objs.size], _, _, H1, rfl, I1.kept (t' := s1.toks) fun b o e => Heap.get?_push_of_some _ e, turn_list a _, ⟨_, Heap.get?_push_size _ rfl, rfl, rfl⟩, fun b hb => ?_, q⟩
    have e : b = s1.heap.objs.size := by simpa using hb
    subst e
    exact I1.fpOk (Nat.le_refl _) (I1.hok.fresh (Nat.le_refl _))
  · obtain ⟨its, rv, p, hz⟩ := I1.tuple hq
    refine wpAny_pyIter_tuple (show s1.heap.IsTuple a its.toArray from p) ?_
    refine ⟨s1.heap.objs.size, [s1.heap.objs.size], _, _, H1, rfl, I1.kept (t' := s1.toks) fun b o e => Heap.get?_push_of_some _ e, turn_tuple a _, ⟨_, Heap.get?_push_size _ rfl, rfl, rfl⟩, fun b hb => ?_, q⟩
    have e : b = s1.heap.objs.size := by simpa using hb
    subst e
    exact I1.fpOk (Nat.le_refl _) (I1.hok.fresh (Nat.le_refl _))
variable {tg a b : Expr} {ma mb : Env → S → R D} {p pos : Pos}
theorem PtG.wlk {α β : Type} {G : Rl α β} {σ : St} {k : β → Hp → Prop} {m : R α} {f : α → S → R (List D)} {ha : HA} {s : S} {H : Hp} {Rr : L2.It → Hp → Prop}
    (h : RP (m.bind f) (fun xs s' => ∀ J H1 ha1, SRel X.K H1 ha1 s' → Ext ha s H ha1 s' H1 → JW X J ha1 s' H1 xs → Rr J H1) (ExP X W σ ha s H))
    (hk : ∀ a s1 v H1 ha1, SRel X.K H1 ha1 s1 → Ext ha s H ha1 s1 H1 → G H1 (Av ha1 s1) ha1 v a → RP (f a s1) (fun xs s' => ∀ J H2 ha2, SRel X.K H2 ha2 s' → Ext ha1 s1 H1 ha2 s' H2 → JW X J ha2 s' H2 xs → Rr J H2) (ExP X W σ ha1 s1 H1) → k v H1) : PtG G X W σ k ha s H m :=
  RP.mono (RP.bindI h) (fun a s1 q v H1 ha1 r e g => hk a s1 v H1 ha1 r e g (RP.mono q (fun xs s' z J H2 ha2 r2 e2 j => z J H2 ha2 r2 (e.trans e2) j) (fun _ _ _ _ z H' ha' cls d r' x' => z H' ha' cls d r' (e.trans x')))) (fun _ _ _ _ q => q)
theorem ji_seq (h : PE X a (tM X W ma)) : PI X tg a (tI X W fun ρ s => (ma ρ s).bind seqF) :=
  PI.imp (pi_seq h) fun σ H Q ⟨ha, ρ, s, r, e, h⟩ => ⟨ha, ρ, s, r, e, PtG.wlk h fun d s1 v H1 ha1 r1 x1 g1 q => by
    by_cases hd : ∃ xs, d = .tup xs
    · obtain ⟨xs, rfl⟩ := hd
      cases g1 with
      | tup h1 h2 h3 => exact ⟨_, rfl, .inr ⟨⟨_, h1⟩, q _ H1 ha1 r1 Ext.refl (jw_tup r1 h1 h2 h3)⟩⟩
    · have e1 : seqF d s1 = lstF d s1 := by
        cases d with
        | tup xs => exact absurd ⟨xs, rfl⟩ hd
        | _ => rfl
      rw [e1] at q
      cases e2 : lstF d s1 with
      | bad => rw [e2] at q; exact q.elim
      | exc c fs ρ' s' =>
        exfalso
        cases d with
        | hnd i =>
          have e3 : (match s1[i]? with | some (.ml xs) => R.ok xs (s1.set i (.fz xs)) | some (.fz xs) => .ok xs s1 | _ => .bad) = .exc c fs ρ' s' := e2
          cases q2 : s1[i]? with
          | none => rw [q2] at e3; cases e3
          | some o => rw [q2] at e3; cases o <;> cases e3
        | _ => cases e2
      | ok xs s2 =>
        rw [e2] at q
        obtain ⟨r2, x2, p, vs, rfl, k1, k2, k3, k4⟩ := lstF_at r1 g1 e2
        exact ⟨p, rfl, .inl ⟨⟨vs, SqL.of k1⟩, q _ H1 ha1 r2 x2 (jw_list r2 k1 k3 k2 k4)⟩⟩⟩
theorem ji_r1 {W : WX} (hg : Gl X "range") (hm : X.mg "range" = none) (ha : PE X a (tM X W ma)) (hs : starEach [a] X.env = [(false, eval a X.env)]) :
    PI X tg (.Call (.Name "range" p) [a] [] pos) (tI X W fun ρ s => (ma ρ s).bind fun x s1 => R.of s1 (rng1 x)) :=
  PI.imp (pi_range1 hg hm (pa_cons ha pa_nil hs) hs) fun σ H Q ⟨ha, ρ, s, r, e, h⟩ => ⟨ha, ρ, s, r, e, PtG.wlk h fun d s1 v H1 ha1 r1 x1 g1 q => by
    cases d with
    | int j =>
      have q' : RP (R.of s1 (if j ≤ CAP ∧ -CAP ≤ j then some (rangeD 0 j) else none)) _ _ := q
      by_cases hj : j ≤ CAP ∧ -CAP ≤ j
      · rw [if_pos hj] at q'
        cases g1
        refine ⟨j, rfl, by unfold CAP at hj; omega, by unfold CAP at hj; omega, ?_⟩
        have := q' (Itr 0 (j - 0).toNat) H1 ha1 r1 Ext.refl (jw_range 0 j (by decide) hj)
        rwa [show j - 0 = j by omega] at this
      · rw [if_neg hj] at q'; exact q'.elim
    | _ => exact q.elim⟩
theorem ji_r2 (hg : Gl X "range") (hm : X.mg "range" = none) (ha : PE X a (tM X W ma)) (hb : PE X b (tM X W mb)) (hs : starEach [a, b] X.env = [(false, eval a X.env), (false, eval b X.env)]) (hs2 : starEach [b] X.env = [(false, eval b X.env)]) :
    PI X tg (.Call (.Name "range" p) [a, b] [] pos) (tI X W fun ρ s => (ma ρ s).bind fun x s1 => (mb ρ s1).bind fun y s2 => R.of s2 (rng2 x y)) :=
  PI.imp (pi_range2 hg hm (pa_cons ha (pa_cons hb pa_nil hs2) (by rw [hs, hs2])) hs hs2) fun σ H Q ⟨ha, ρ, s, r, e, h⟩ => ⟨ha, ρ, s, r, e, PtG.wlk h fun d s1 v H1 ha1 r1 x1 g1 q => ⟨ha1, ρ, s1, r1, e.ext x1 r, PtG.wlk q fun d2 s2 v2 H2 ha2 r2 x2 g2 q => by
    cases d with
    | int i =>
      cases d2 with
      | int j =>
        have q' : RP (R.of s2 (if (j ≤ CAP ∧ -CAP ≤ j) ∧ i ≤ CAP ∧ -CAP ≤ i then some (rangeD i j) else none)) _ _ := q
        by_cases hj : (j ≤ CAP ∧ -CAP ≤ j) ∧ i ≤ CAP ∧ -CAP ≤ i
        · rw [if_pos hj] at q'
          cases g1
          cases g2
          refine ⟨i, j, rfl, by unfold CAP at hj; omega, ?_⟩
          exact q' (Itr i (j - i).toNat) H2 ha2 r2 Ext.refl (jw_range i j hj.2 hj.1)
        · rw [if_neg hj] at q'; exact q'.elim
      | _ => exact q.elim
    | _ => exact q.elim⟩⟩
theorem lstF_exc {d : D} {s1 : S} {c : Str} {fs : List (Str × D)} {ρ' : Env} {s' : S} (e2 : lstF d s1 = .exc c fs ρ' s') : False := by
  cases d with
  | hnd i =>
    have e3 : (match s1[i]? with | some (.ml xs) => R.ok xs (s1.set i (.fz xs)) | some (.fz xs) => .ok xs s1 | _ => .bad) = .exc c fs ρ' s' := e2
    cases q2 : s1[i]? with
    | none => rw [q2] at e3; cases e3
    | some o => rw [q2] at e3; cases o <;> cases e3
  | _ => cases e2
theorem ji_en {elts : List Expr} {kk : Nat} {tpos : Pos} (hg : Gl X "enumerate") (hm : X.mg "enumerate" = none) (ha : PE X a (tM X W ma)) (hs : starEach [a] X.env = [(false, eval a X.env)]) :
    PI X (.Tuple elts kk tpos) (.Call (.Name "enumerate" p) [a] [] pos) (tI X W fun ρ s => ((ma ρ s).bind seqF).bind fun xs s2 => .ok (xs.mapIdx fun i d => .tup [.int (i : Nat), d]) s2) :=
  PI.imp (pi_enumA hg hm (pa_cons ha pa_nil hs) hs) fun σ H Q ⟨ha, ρ, s, r, e, h⟩ => ⟨ha, ρ, s, r, e, PtG.wlk (f := fun d s1 => (seqF d s1).bind fun xs s2 => .ok (xs.mapIdx fun i d => .tup [.int (i : Nat), d]) s2) (by rw [← R.bind_assoc]; exact h) fun d s1 v H1 ha1 r1 x1 g1 q => by
    by_cases hd : ∃ xs, d = .tup xs
    · obtain ⟨xs, rfl⟩ := hd
      cases g1 with
      | tup h1 h2 h3 => exact ⟨_, _, rfl, .inr ⟨h1, q _ H1 ha1 r1 Ext.refl (jw_enumT r1 h1 h2 h3)⟩⟩
    · have e1 : seqF d s1 = lstF d s1 := by
        cases d with
        | tup xs => exact absurd ⟨xs, rfl⟩ hd
        | _ => rfl
      rw [e1] at q
      have q2 := RP.bindI q
      cases e2 : lstF d s1 with
      | bad => rw [e2] at q2; exact q2.elim
      | exc c fs ρ' s' => exact (lstF_exc e2).elim
      | ok xs s2 =>
        rw [e2] at q2
        obtain ⟨r2, x2, p, vs, rfl, k1, k2, k3, k4⟩ := lstF_at r1 g1 e2
        exact ⟨p, vs, rfl, .inl ⟨SqL.of k1, q2 _ H1 ha1 r2 x2 (jw_enum r2 k1 k3 k2 k4)⟩⟩⟩
theorem ji_zp {elts : List Expr} {kk : Nat} {tpos : Pos} (hg : Gl X "zip") (hm : X.mg "zip" = none) (ha : PE X a (tM X W ma)) (hb : PE X b (tM X W mb)) (hs : starEach [a, b] X.env = (false, eval a X.env) :: starEach [b] X.env) (hs2 : starEach [b] X.env = [(false, eval b X.env)]) :
    PI X (.Tuple elts kk tpos) (.Call (.Name "zip" p) [a, b] [] pos) (tI X W fun ρ s => (ma ρ s).bind fun x s1 => (mb ρ s1).bind fun y s2 => zipF x y s2) :=
  PI.imp (RZ.pi_zipA hg hm (pa_cons ha (pa_cons hb pa_nil hs2) hs) hs (by rw [hs2]; rfl)) fun σ H Q ⟨ha, ρ, s, r, e, h⟩ => ⟨ha, ρ, s, r, e, PtG.wlk h fun d s1 v H1 ha1 r1 x1 g1 q => ⟨ha1, ρ, s1, r1, e.ext x1 r, PtG.wlk q fun d2 s2 v2 H2 ha2 r2 x2 g2 q => by
    have g1 := Rep.ext x2 r1 d v g1
    by_cases hd : ∃ xs ys, d = .tup xs ∧ d2 = .tup ys
    · obtain ⟨xs, ys, rfl, rfl⟩ := hd
      cases g1 with
      | tup h1 h2 h3 =>
        cases g2 with
        | tup k1 k2 k3 => exact ⟨_, _, _, _, rfl, .inr ⟨h1, k1, q _ H2 ha2 r2 Ext.refl (jw_zipT r2 h1 h2 h3 k1 k3)⟩⟩
    · have e1 : zipF d d2 s2 = (lstF d s2).bind fun xs s1 => (lstF d2 s1).bind fun ys s2 => .ok (List.zipWith (fun d e => .tup [d, e]) xs ys) s2 := by
        cases d with
        | tup xs =>
          cases d2 with
          | tup ys => exact absurd ⟨xs, ys, rfl, rfl⟩ hd
          | _ => rfl
        | _ => cases d2 <;> rfl
      rw [e1] at q
      have q1 := RP.bindI q
      cases e2 : lstF d s2 with
      | bad => rw [e2] at q1; exact q1.elim
      | exc c fs ρ' s' => exact (lstF_exc e2).elim
      | ok xs s3 =>
        rw [e2] at q1
        obtain ⟨r3, x3, p, vs, rfl, k1, k2, k3, k4⟩ := lstF_at r2 g1 e2
        have q2 := RP.bindI (show RP ((lstF d2 s3).bind _) _ _ from q1)
        cases e3 : lstF d2 s3 with
        | bad => rw [e3] at q2; exact q2.elim
        | exc c fs ρ' s' => exact (lstF_exc e3).elim
        | ok ys s4 =>
          rw [e3] at q2
          obtain ⟨r4, x4, p', vs', rfl, j1, j2, j3, j4⟩ := lstF_at r3 (Rep.ext x3 r2 d2 v2 g2) e3
          refine ⟨p, p', vs, vs', rfl, .inl ⟨SqL.of k1, SqL.of j1, q2 _ H2 ha2 r4 (x3.trans x4) (jw_zipL r4 k1 k3 (fun z => ?_) (Reps.ext x4 r3 xs vs k4) j1 j2 j4)⟩⟩
          rcases x4.new _ z with z | z
          · exact k2 z
          · rw [k1] at z; cases z⟩⟩

/-! ### for -/
theorem js_for {iter : Expr} {body : List Stmt} {t : Tg} {mi : Env → S → R (List D)} {m : Env → S → R Fl} (hp : PassesOwn (model X.prog X.w) X.A X.env X.xe) (hc : X.calm = true) (hi : PI X tg iter (tI X W mi)) (hg : PG X tg (gT X t)) (hb : PSs X body (tS X W m))
    (hs : ∀ x, foldedSetIterable iter X.env x = pure x) : PS X (.For tg iter body [] pos) (tS X W fun ρ s => (mi ρ s).bind fun xs s1 => forL (bodyC t m) xs ρ s1) := by
  refine PS.imp (ps_for hp hc hi hg hb hs) fun E σ H ⟨ha, ρ, s, r, e, h⟩ => ⟨ha, ρ, s, r, e, ?_⟩
  refine RP.mono (RP.bindI h) (fun xs s1 q J H1 ha1 r1 x1 jw => ?_) fun _ _ _ _ q => ExPS.e q
  have q := PtS.ext (ha := ha) (s := s) (H := H) q x1
  -- the invariant
  refine ⟨fun i k σ' H' => k = xs.length - i ∧ i ≤ xs.length ∧ ∃ ha' ρ' s', SRel X.K H' ha' s' ∧ Ext0 ha1 s1 H1 ha' s' H' ∧ ERel X.K H' (Av ha' s') ha' σ' ρ' ∧ PtS X W E ha' s' H' (forL (bodyC t m) (xs.drop i) ρ' s'),
    ⟨xs.length, by simp, Nat.zero_le _, ha1, ρ, s1, r1, Ext.refl.x0, e.ext x1 r, q⟩, ?_⟩
  rintro i k σ' H' ⟨rfl, hle, ha', ρ', s', r', x', e', q'⟩
  obtain ⟨hz, jw⟩ := jw
  obtain ⟨hgo, hst⟩ := jw ha' s' H' r' x' i
  by_cases hlt : i < xs.length
  · have ed : xs.drop i = xs[i] :: xs.drop (i + 1) := List.drop_eq_getElem_cons hlt
    obtain ⟨g1, g2⟩ := hgo xs[i] (List.getElem?_eq_getElem hlt)
    rw [ed] at q'
    refine .inr ⟨g1, fun σ2 H2 => i + 1 ≤ xs.length ∧ ∃ ha2 ρ2 s2, SRel X.K H2 ha2 s2 ∧ Ext0 ha1 s1 H1 ha2 s2 H2 ∧ ERel X.K H2 (Av ha2 s2) ha2 σ2 ρ2 ∧ PtS X W E ha2 s2 H2 (forL (bodyC t m) (xs.drop (i + 1)) ρ2 s2),
      fun σ2 H2 ⟨hl, w⟩ => ⟨xs.length - (i + 1), by omega, rfl, hl, w⟩, fun x H'' hy => ?_⟩
    obtain ⟨r3, x3, g3⟩ := g2 x H'' hy
    have q' : PtS X W E ha' s' H' ((bodyC t m xs[i] ρ' s').bind fun fl s1 => match fl with
      | .nx ρ' => forL (bodyC t m) (xs.drop (i + 1)) ρ' s1
      | .ct ρ' => forL (bodyC t m) (xs.drop (i + 1)) ρ' s1
      | .bk ρ' => .ok (.nx ρ') s1
      | .rt d => .ok (.rt d) s1) := q'
    have q3 := PtS.ext q' x3
    have e3 := e'.ext x3 r'
    cases eb : bindT s' t xs[i] ρ' with
    | none =>
      have : bodyC t m xs[i] ρ' s' = .bad := by unfold bodyC; rw [eb]
      rw [this] at q3
      exact q3.elim
    | some ρ4 =>
      have : bodyC t m xs[i] ρ' s' = m ρ4 s' := by unfold bodyC; rw [eb]
      rw [this] at q3
      refine ⟨ha', s', xs[i], ρ', ρ4, r3, e3, g3, eb, fun σ4 e4 _ => ⟨ha', ρ4, s', r3, e4, ?_⟩⟩
      refine RP.mono (RP.bindI q3) (fun fl s5 q5 => ?_) fun _ _ _ _ q => q
      cases fl with
      | nx ρ5 => exact fun σ6 H6 ha6 r6 x6 e6 => ⟨hlt, ha6, ρ5, s5, r6, x'.trans (x3.trans x6).x0, e6, PtS.ext (H := H'') (ha := ha') (s := s') q5 x6⟩
      | ct ρ5 => exact fun σ6 H6 ha6 r6 x6 e6 => ⟨hlt, ha6, ρ5, s5, r6, x'.trans (x3.trans x6).x0, e6, PtS.ext (H := H'') (ha := ha') (s := s') q5 x6⟩
      | bk ρ5 => exact q5
      | rt d => exact q5
  · have ei : i = xs.length := by omega
    have q' : FlP X E ha' s' H' (.nx ρ') s' := by
      have : xs.drop i = [] := by rw [ei]; simp
      rw [this] at q'
      exact q'
    exact .inl ⟨hst (by omega), q' σ' H' ha' r' Ext.refl e'⟩
/-! ### while -/
theorem js_whl {c : Expr} {body : List Stmt} {mt : Env → S → R Bool} {m : Env → S → R Fl} (fuel : Nat) (hp : PassesOwn (model X.prog X.w) X.A X.env X.xe) (hc : PT X c (tMT X W mt)) (hb : PSs X body (tS X W m)) :
    PS X (.While c body [] pos) (tS X W fun ρ s => whlL mt m fuel ρ s) := by
  refine PS.imp (ps_while hp hc hb) fun E σ H ⟨ha, ρ, s, r, e, h⟩ => ?_
  refine ⟨fun k σ' H' => ∃ ha' ρ' s', SRel X.K H' ha' s' ∧ ERel X.K H' (Av ha' s') ha' σ' ρ' ∧ PtS X W E ha' s' H' (whlL mt m k ρ' s'), ⟨fuel, ha, ρ, s, r, e, h⟩, ?_⟩
  rintro k σ' H' ⟨ha', ρ', s', r', e', q'⟩
  cases k with
  | zero => exact q'.elim
  | succ k =>
    refine ⟨ha', ρ', s', r', e', PtG.stm q' fun b s1 v H1 ha1 r1 x1 g1 q1 => ?_⟩
    have g1 : v = b := g1
    subst g1
    have e1 := e'.ext x1 r'
    cases v with
    | false => exact q1 σ' H1 ha1 r1 Ext.refl e1
    | true =>
      refine ⟨fun σ2 H2 => ∃ ha' ρ' s', SRel X.K H2 ha' s' ∧ ERel X.K H2 (Av ha' s') ha' σ2 ρ' ∧ PtS X W E ha' s' H2 (whlL mt m k ρ' s'), fun σ2 H2 w => ⟨k, Nat.lt_succ_self k, w⟩, ha1, ρ', s1, r1, e1, ?_⟩
      have q1 : PtS X W E ha1 s1 H1 ((m ρ' s1).bind _) := q1
      refine RP.mono (RP.bindI q1) (fun fl s5 q5 => ?_) fun _ _ _ _ q => q
      cases fl with
      | nx ρ5 => exact fun σ6 H6 ha6 r6 x6 e6 => ⟨ha6, ρ5, s5, r6, e6, PtS.ext (H := H1) (ha := ha1) (s := s1) q5 x6⟩
      | ct ρ5 => exact fun σ6 H6 ha6 r6 x6 e6 => ⟨ha6, ρ5, s5, r6, e6, PtS.ext (H := H1) (ha := ha1) (s := s1) q5 x6⟩
      | bk ρ5 => exact q5
      | rt d => exact q5
end
end RS

set_option Elab.async false
set_option linter.all false
set_option maxRecDepth 100000
/-! enumerate(l, 1) -/
namespace RS
open PySem PySem.Spec L2
open PyProof.Rows hiding St
open AutoSeq1 (wpAny_loadPart')

/-- the list at a, each item in a new pair, counted from 1 -/
def Ite1 (K : PySem.W.Frag) (a : Addr) : L2.It :=
  ⟨fun i H => ∃ (xs : List V) (x : V), SqL K H a xs ∧ xs[i]? = some x, fun i H v H' => ∃ T x, v = .ref T ∧ H T = none ∧ H' = upd H T (.tup [.int ((i : Int) + 1), x]) ∧ ∀ xs, SqL K H a xs → xs[i]? = some x, fun i H => ∃ xs : List V, SqL K H a xs ∧ xs.length ≤ i⟩
theorem turn_enum1 {P : Program} {w : World} {K : PySem.W.Frag} {elts : List Expr} {kk : Nat} {tpos : Pos} (a e it : Addr) :
    Turn P w K (.Tuple elts kk tpos) (Ite1 K a) [e, it] e (fun i h => (∃ old, IsEnum h e it ((i : Int) + 1) old) ∧ h.IsListIter it a i ∧ e ≠ it ∧ a ≠ it ∧ e ≠ a) where
  mem := by simp
  obj := fun i h st b hb => by
    obtain ⟨⟨old, he⟩, ⟨o, ho, hc, hd⟩, _⟩ := st
    have e' : b = e ∨ b = it := by simpa using hb
    rcases e' with z | z
    · rw [z]; exact ⟨_, he, fun v q => nomatch q⟩
    · rw [z]; exact ⟨o, ho, fun v q => by rw [hd] at q; cases q⟩
  keep := fun i h h' st k => let ⟨⟨old, he⟩, hi, hne⟩ := st; ⟨⟨old, k e (by simp) _ he⟩, hi.at fun o q => k it (by simp) o q, hne⟩
  item := by
    intro X hP hw hK hc i pins s σ H E I hf st hg
    subst hP hw hK
    obtain ⟨⟨old, he⟩, hit, hne, hai, hea⟩ := st
    obtain ⟨xs, x, hq, hx⟩ := hg
    obtain ⟨its, rv, p, hz⟩ := I.list hq
    obtain ⟨u, hu, ru⟩ := rv.get hx
    have hel : e < s.heap.objs.size := Heap.lt_size he
    have hil : it < s.heap.objs.size := by obtain ⟨_, q, _⟩ := hit; exact Heap.lt_size q
    have D := Draws.list (prog := X.prog) (w := X.w) (A := X.A.in1) (I.ok.hd hc) it a hai its.toArray
    have hlt : i < its.toArray.size := by
      have := (List.getElem?_eq_some_iff.mp hu).1
      simpa using this
    refine wpAny_pyNext_enum_itemC (c := (i : Int) + 1) D he ⟨hit, p.isList⟩ hlt hne (by simp [hne, hea]) fun x' h' tk hPx ho hit' hT hsz hk => ?_
    have ex : x' = u := by
      have : its.toArray[i]? = some u := by simpa using hu
      rw [this] at hPx
      exact (Option.some.inj hPx).symm
    subst ex
    refine ⟨_, rfl, wpAny_letOwnedTupleGo_enum (s := { s with heap := h', toks := tk + 1 }) ho fun h'' he' sb => ?_⟩
    have hT2 : h''.get? s.heap.objs.size = some { cls := .type "tuple", data := .seq #[.int ((i : Int) + 1) tk, x'] } := (sb.2 _ (Nat.ne_of_gt hel)).trans hT
    have new : ObjOk X.prog X.w (upd H s.heap.objs.size (.tup [.int ((i : Int) + 1), x])) h'' s.heap.objs.size (.tup [.int ((i : Int) + 1), x]) :=
      ⟨by show 2 ≤ sizeLine; decide, [.int ((i : Int) + 1) tk, x'], .cons ⟨_, rfl⟩ (.cons ru .nil), ⟨_, hT2, rfl, _, rfl⟩⟩
    have I1 : L2.Inv X pins σ (upd H s.heap.objs.size (.tup [.int ((i : Int) + 1), x])) { s with heap := h'', toks := tk + 1 } :=
      I.turnedNew (ch := [e, it]) (fun b ob hb q => (sb.2 b (fun z => hb (by simp [z]))).trans (hk b ob (fun z => hb (by simp [z])) (fun z => hb (by simp [z])) q)) hf (Nat.le_refl _) new
    refine ⟨.ref s.heap.objs.size, _, I1, rfl, ⟨_, x, rfl, I.hok.fresh (Nat.le_refl _), rfl, fun ys hy => by rw [I.list_inj hy hq]; exact hx⟩, ⟨⟨x', ?_⟩, hit'.1.at fun o q => (sb.2 it (Ne.symm hne)).trans q, hne, hai, hea⟩, fun b hb => ?_⟩
    · have e1 : ((i + 1 : Nat) : Int) + 1 = (i : Int) + 1 + 1 := by omega
      rw [e1]; exact he'
    · have hb' : b < s.heap.objs.size := by
        have e' : b = e ∨ b = it := by simpa using hb
        rcases e' with z | z
        · rw [z]; exact hel
        · rw [z]; exact hil
      rw [upd_ne (Nat.ne_of_lt hb')]
      exact (hf b hb).1
  done := by
    intro X hP hw hK hc i pins s σ H E I hf st hg
    subst hP hw hK
    obtain ⟨⟨old, he⟩, hit, hne, hai, hea⟩ := st
    obtain ⟨xs, hq, hx⟩ := hg
    obtain ⟨its, rv, p, hz⟩ := I.list hq
    obtain ⟨f0, f1, f2, f3, f4, f5⟩ := hf it (by simp)
    have hl := rv.length
    have hT : s.TypeIs (.ref e) "enumerate" := ⟨_, he, rfl⟩
    unfold pyNext
    refine wpAny_bind (wpAny_attempt (wpAny_callSpecial?_slot (name := Str.ofString "__next__") hT F.slot_enumerate_next
      (wpAny_call_entry F.slot_enumerate_next hT F.entry_enumerate_next ?_ (F.args_enumerate_next_1 _))))
    show wpAny _ _ (field (.ref e) 2 >>= _) _ _ _
    refine wpAny_bind (wpAny_field he rfl (x := .ref it) rfl ?_)
    refine wpAny_bind (wpAny_nextOf_list_end (I.ok.hd hc) hit p.isList (by simp; omega) fun h' x he' hx' => ?_)
    obtain ⟨o, ho, hc⟩ := hx'
    refine wpAny_bind (wpAny_isInstance (T := "StopIteration") (b := true) ⟨o, ho, hc⟩ isSubtype_stop ?_)
    exact wpAny_pure ⟨rfl, I.turned (t' := s.toks) (fun b o hb q => he' b o hb q) f0 f1 f3 f4 f5⟩
  self := fun A i s Q E st h => let ⟨⟨_, he⟩, _⟩ := st; wpAny_pyIter_enum he h
def iEnum1 (K : PySem.W.Frag) (ta : TA) : TI := fun σ H R => ta σ H fun vs H1 => ∃ a xs, vs = [.ref a, .int 1] ∧ SqL K H1 a xs ∧ R (Ite1 K a) H1
section
variable {X : Cx} {W : WX} {a : Expr} {ma : Env → S → R D} {p pos : Pos}
theorem pi_enum1 {e e2 : Expr} {ta : TA} {tpos : Pos} {elts : List Expr} {kk : Nat} (hg : Gl X "enumerate") (hm : X.mg "enumerate" = none) (ha : PA X [e, e2] ta) (hs : starEach [e, e2] X.env = (false, eval e X.env) :: starEach [e2] X.env) (hpl : (backTo pos (starEach [e2] X.env)).any (·.1) = false) :
    PI X (.Tuple elts kk tpos) (.Call (.Name "enumerate" p) [e, e2] [] pos) (iEnum1 X.K ta) := by
  refine ⟨fun pins s σ H R I h => ?_⟩
  refine Call_ (ld_blt I hg hm boot_enumerate (PyProof.Rows.callWith_type1 (thn (ha.run pos pins s σ H _ I h) fun us s1 ⟨vs, H1, I1, r1, q1⟩ => ?_) hs hpl))
  obtain ⟨a, xs, ex, hq, q⟩ := q1
  subst ex
  obtain ⟨w1, w2, rfl, e1, e2⟩ := vals2 r1
  obtain rfl : w1 = Value.ref a := e1
  obtain ⟨t, rfl⟩ := e2
  have fr : ∀ b, b ∈ [s1.heap.objs.size + 1, s1.heap.objs.size] → FpOk X pins H1 b := fun b hb => by
    have e' : b = s1.heap.objs.size + 1 ∨ b = s1.heap.objs.size := by simpa using hb
    have hle : s1.heap.objs.size ≤ b := by
      rcases e' with z | z
      · rw [z]; exact Nat.le_add_right _ _
      · rw [z]; exact Nat.le_refl _
    exact I1.fpOk hle (I1.hok.fresh hle)
  obtain ⟨its, rv, p', hz⟩ := I1.list hq
  have hal : a < s1.heap.objs.size := by obtain ⟨o, ho, _⟩ := p'.isList; exact Heap.lt_size ho
  refine enum_begins (begins_list a its.toArray) p'.isList (by decide) (by decide) fun h' he hit hsz hk => wpAny_pyIter_enum he ?_
  have I2 : L2.Inv X pins σ H1 { s1 with heap := h' } := I1.kept (t' := s1.toks) hk
  exact ⟨s1.heap.objs.size + 1, [s1.heap.objs.size + 1, s1.heap.objs.size], _, _, H1, rfl, I2, turn_enum1 a (s1.heap.objs.size + 1) s1.heap.objs.size, ⟨⟨.none, he⟩, ⟨_, hit, rfl, rfl⟩, Nat.succ_ne_self _, Nat.ne_of_lt hal, Nat.ne_of_gt (Nat.lt_succ_of_lt hal)⟩, fr, q⟩
theorem jw_enum1 {ha : HA} {s : S} {H : Hp} {p : Addr} {vs : List V} {xs : List D} (r : SRel X.K H ha s) (h : H p = some (.lst vs)) (z : vs.length ≤ sizeLine) (n : ¬ Hv ha s p) (g : Reps X.K H (Av ha s) ha vs xs) :
    JW X (Ite1 X.K p) ha s H (xs.mapIdx fun i d => .tup [.int ((i : Int) + 1), d]) := by
  refine ⟨by rw [List.length_mapIdx, ← g.length]; exact z, fun ha' s' H' r' x i => ⟨fun d e => ?_, fun e => ⟨vs, SqL.of (x.keep _ _ h (fun _ z => by cases z) n), by rw [List.length_mapIdx] at e; rw [g.length]; exact e⟩⟩⟩
  have g' := Reps.ext0 x r xs vs g
  have q := x.keep _ _ h (fun _ z => by cases z) n
  rw [List.getElem?_mapIdx] at e
  cases e1 : xs[i]? with
  | none => rw [e1] at e; cases e
  | some d' =>
    rw [e1] at e
    cases e
    obtain ⟨v, h1, h2⟩ := g'.get e1
    refine ⟨⟨vs, v, SqL.of q, h1⟩, fun w H'' ⟨T, x0, e2, hT, e3, hy⟩ => ?_⟩
    subst e2 e3
    have := hy vs (SqL.of q)
    rw [h1] at this
    cases this
    exact Ext.tup2 r' hT (.int _) h2
theorem ji_en1 {elts : List Expr} {kk j : Nat} {tpos bp : Pos} (hg : Gl X "enumerate") (hm : X.mg "enumerate" = none) (ha : PE X a (tM X W ma)) (hs : starEach [a, .Constant (.int 1) j bp] X.env = (false, eval a X.env) :: starEach [.Constant (.int 1) j bp] X.env) :
    PI X (.Tuple elts kk tpos) (.Call (.Name "enumerate" p) [a, .Constant (.int 1) j bp] [] pos) (tI X W fun ρ s => ((ma ρ s).bind lstF).bind fun xs s2 => .ok (xs.mapIdx fun i d => .tup [.int ((i : Int) + 1), d]) s2) :=
  PI.imp (pi_enum1 hg hm (pa_cons ha (pa_cons pe_int pa_nil rfl) hs) hs rfl) fun σ H Q ⟨ha, ρ, s, r, e, h⟩ => ⟨ha, ρ, s, r, e, PtG.wlk (f := fun d s1 => (lstF d s1).bind fun xs s2 => .ok (xs.mapIdx fun i d => .tup [.int ((i : Int) + 1), d]) s2) (by rw [← R.bind_assoc]; exact h) fun d s1 v H1 ha1 r1 x1 g1 q => by
      have q2 := RP.bindI q
      cases e2 : lstF d s1 with
      | bad => rw [e2] at q2; exact q2.elim
      | exc c fs ρ' s' => exact (lstF_exc e2).elim
      | ok xs s2 =>
        rw [e2] at q2
        obtain ⟨r2, x2, p, vs, rfl, k1, k2, k3, k4⟩ := lstF_at r1 g1 e2
        exact ⟨p, vs, rfl, SqL.of k1, q2 _ H1 ha1 r2 x2 (jw_enum1 r2 k1 k3 k2 k4)⟩⟩
end
end RS

set_option Elab.async false
set_option linter.all false
set_option maxRecDepth 100000
/-! lists made anew by a comprehension; objects that change -/
namespace RS
open PySem PySem.Spec L2
open PyProof.Rows hiding St

def HA.plus (ha : HA) (p : Addr) : HA := ⟨ha.l, fun q => ha.b q ∨ q = p⟩
section
variable {K : PySem.W.Frag} {H H' : Hp} {ha ha' : HA} {s s' : S} {p : Addr}
theorem Hv.low {q : Addr} (h : Hv ha s q) : q ∈ ha.l := by
  obtain ⟨i, o, h1, _⟩ := h
  exact List.mem_of_getElem? h1
theorem SRel.bHv (r : SRel K H ha s) (h : ha.b p) : ¬ Hv ha s p := fun z => r.dis p h z.low
theorem Ext0.plus {u : HO} (hp : H p = none) : Ext0 ha s H (ha.plus p) s (upd H p u) :=
  ⟨⟨[], by simp [HA.plus]⟩, fun q z => z.imp id fun e => by rw [e]; exact hp, fun q w e _ _ => by rw [upd_ne (ne_of_none e hp)]; exact e, fun q z => .inl z, fun q w e => ⟨w, by rw [upd_ne (ne_of_none e hp)]; exact e⟩⟩
theorem SRel.plus {u : HO} (r : SRel K H ha s) (hp : H p = none) : SRel K (upd H p u) (ha.plus p) s :=
  ⟨r.len, r.nd, fun i o e => by
    obtain ⟨q, h1, h2⟩ := r.obj i o e
    exact ⟨q, h1, ObjR.tr ((Ext0.plus hp).tr r) (fun w hw => by rw [upd_ne (ne_of_none hw hp)]; exact hw) h2⟩, r.low, fun q z => by
    rcases z with z | z
    · obtain ⟨w, e⟩ := r.trk q z
      exact ⟨w, by rw [upd_ne (ne_of_none e hp)]; exact e⟩
    · rw [z]; exact ⟨u, upd_same⟩, fun q z => by
    rcases z with z | z
    · exact r.dis q z
    · rw [z]; exact SRel.nin r hp, r.tab.new hp⟩
/-- a list that is avoided is written -/
theorem Tr.updB {vs ws : List V} (r : SRel K H ha s) (hb : ha.b p) (hp : H p = some (.lst vs)) : Tr K H (Av ha s) ha (upd H p (.lst ws)) (Av ha s) ha :=
  ⟨fun q us h => by
    rcases h with (h | ⟨o, h⟩) | h
    · exact .inl (.inl (by rw [upd_ne (fun e => by rw [e, hp] at h; cases h)]; exact h))
    · exact .inl (.inr ⟨o, by rw [upd_ne (fun e => by rw [e, hp] at h; cases h)]; exact h⟩)
    · exact .inr h, fun q o h _ n => ⟨by rw [upd_ne (fun e => n (.inl (by rw [e]; exact hb)))]; exact h, n⟩, fun _ _ h => h⟩
theorem SRel.updB {vs ws : List V} (r : SRel K H ha s) (hb : ha.b p) (hp : H p = some (.lst vs)) : SRel K (upd H p (.lst ws)) ha s :=
  ⟨r.len, r.nd, fun i o e => by
    obtain ⟨q, h1, h2⟩ := r.obj i o e
    have hq : q ≠ p := fun e => r.dis p hb (by rw [← e]; exact List.mem_of_getElem? h1)
    refine ⟨q, h1, ?_⟩
    have t := Tr.updB (ws := ws) r hb hp
    cases o with
    | ml xs => obtain ⟨us, a, b, c⟩ := h2; exact ⟨us, by rw [upd_ne hq]; exact a, b, Reps.tr t xs us c⟩
    | fz xs => obtain ⟨us, a, b, c⟩ := h2; exact ⟨us, by rw [upd_ne hq]; exact a, b, Reps.tr t xs us c⟩
    | md xs => obtain ⟨us, a, b, c⟩ := h2; exact ⟨us, by rw [upd_ne hq]; exact a, b, Repk.tr t xs us c⟩
    | gone => obtain ⟨u, a⟩ := h2; exact ⟨u, by rw [upd_ne hq]; exact a⟩, r.low, fun q z => by
    by_cases e : q = p
    · exact ⟨.lst ws, by rw [e]; exact upd_same⟩
    · obtain ⟨w, e2⟩ := r.trk q z
      exact ⟨w, by rw [upd_ne e]; exact e2⟩, r.dis, r.tab.set hp (fun _ z => by cases z) fun _ z => by cases z⟩
theorem Ext0.updB {u : HO} (x : Ext0 ha s H ha' s' H') (hp : H p = none) : Ext0 ha s H ha' s' (upd H' p u) :=
  ⟨x.pre, x.bb, fun q o e nt n => by rw [upd_ne (ne_of_none e hp)]; exact x.keep q o e nt n, x.new, fun q o e => by
    obtain ⟨o', e'⟩ := x.dom q o e
    exact ⟨o', by rw [upd_ne (ne_of_none e hp)]; exact e'⟩⟩
/-- an avoided list is avoided no more: it stands still -/
theorem Tr.drop (b : Addr → Prop) (hb : ∀ q, b q → ha.b q) : Tr K H (Av ha s) ha H (Av ⟨ha.l, b⟩ s) ⟨ha.l, b⟩ :=
  ⟨fun _ _ h => h, fun q o h _ n => ⟨h, fun z => n (z.imp (hb q) id)⟩, fun _ _ h => h⟩
theorem SRel.drop (r : SRel K H ha s) (b : Addr → Prop) (hb : ∀ q, b q → ha.b q) : SRel K H ⟨ha.l, b⟩ s :=
  ⟨r.len, r.nd, fun i o e => by
    obtain ⟨q, h1, h2⟩ := r.obj i o e
    exact ⟨q, h1, ObjR.tr (Tr.drop b hb) (fun _ h => h) h2⟩, r.low, fun q z => r.trk q (hb q z), fun q z => r.dis q (hb q z), r.tab⟩
/-- .. it is an object of the state -/
theorem Tr.own (b : Addr → Prop) (hb : ∀ q, b q → ha.b q) (hp : ha.b p) (r : SRel K H ha s) (o : HObj) : Tr K H (Av ha s) ha H (Av ⟨ha.l ++ [p], b⟩ (s ++ [o])) ⟨ha.l ++ [p], b⟩ :=
  ⟨fun _ _ h => h, fun q u h _ n => ⟨h, fun z => by
    rcases z with z | z
    · exact n (.inl (hb q z))
    · rcases Hv.snoc (ha := ha) z r.len with z | z
      · exact n (.inr z)
      · exact n (.inl (by rw [z]; exact hp))⟩, fun i q h => by
    show (ha.l ++ [p])[i]? = some q
    rw [List.getElem?_append_left (List.getElem?_eq_some_iff.mp h).1]
    exact h⟩
theorem SRel.own (r : SRel K H ha s) (b : Addr → Prop) (hb : ∀ q, b q → ha.b q) (hp : ha.b p) (hn : ¬ b p) (o : HObj) (hl : o.blw s.length = true) (hA : ObjR K H (Av ⟨ha.l ++ [p], b⟩ (s ++ [o])) ⟨ha.l ++ [p], b⟩ p o) : SRel K H ⟨ha.l ++ [p], b⟩ (s ++ [o]) := by
  refine ⟨by simp [r.len], ?_, fun i w e => ?_, fun i w e => ?_, fun q z => r.trk q (hb q z), fun q z m => ?_, r.tab⟩
  · show (ha.l ++ [p]).Nodup
    rw [List.nodup_append]
    refine ⟨r.nd, by simp, fun x hm y hy => ?_⟩
    simp at hy
    subst hy
    intro e
    subst e
    exact r.dis _ hp hm
  · by_cases z : i < s.length
    · rw [List.getElem?_append_left z] at e
      obtain ⟨q, h1, h2⟩ := r.obj i w e
      refine ⟨q, ?_, ObjR.tr (Tr.own b hb hp r o) (fun _ h => h) h2⟩
      show (ha.l ++ [p])[i]? = some q
      rw [List.getElem?_append_left (by rw [r.len]; exact z)]
      exact h1
    · have : i = s.length := by
        have := (List.getElem?_eq_some_iff.mp e).1
        simp at this
        omega
      subst this
      simp at e
      subst e
      refine ⟨p, ?_, hA⟩
      show (ha.l ++ [p])[s.length]? = some p
      rw [← r.len]; simp
  · by_cases z : i < s.length
    · rw [List.getElem?_append_left z] at e
      exact r.low i w e
    · have : i = s.length := by
        have := (List.getElem?_eq_some_iff.mp e).1
        simp at this
        omega
      subst this
      simp at e
      subst e
      exact hl
  · have m : q ∈ ha.l ++ [p] := m
    rcases List.mem_append.mp m with m | m
    · exact r.dis q (hb q z) m
    · have e : q = p := by simpa using m
      rw [e] at z
      exact hn z
end

def FinD (X : Cx) (Q : VK) (ha : HA) (s : S) (H : Hp) (xs : List D) (s' : S) : Prop :=
  ∀ vs H1 haB p, SRel X.K H1 haB s' → Ext0 ha s H haB s' H1 → haB.b = (ha.plus p).b → H p = none → H1 p = some (.lst vs) → Reps X.K H1 (Av haB s') haB vs xs → vs.length ≤ sizeLine → Q (.ref p) H1
/-- a list made anew -/
def tD (X : Cx) (W : WX) (m : Env → S → R (List D)) : TE := fun σ H Q => ∃ ha ρ s, SRel X.K H ha s ∧ ERel X.K H (Av ha s) ha σ ρ ∧ RP (m ρ s) (FinD X Q ha s H) (ExP X W σ ha s H)
section
variable {X : Cx} {W : WX} {a b : Expr} {m : Env → S → R (List D)}
theorem je_FD (h : PE X a (tF X W m)) : PE X a (tD X W m) :=
  PE.imp h fun σ H Q ⟨ha, ρ, s, r, e, h⟩ => ⟨ha, ρ, s, r, e, RP.mono h (fun xs s' q vs H1 ha1 p r1 x1 g z hp => by
    have hH : H p = none := by
      cases e : H p with
      | none => rfl
      | some o =>
        obtain ⟨o', e'⟩ := x1.dom p o e
        rw [hp] at e'; cases e'
    exact q vs _ (ha1.plus p) p (r1.plus hp) (x1.x0.trans (Ext0.plus hp)) (by show (fun q => ha1.b q ∨ q = p) = _; rw [x1.bb]; rfl) hH upd_same (Reps.tr ((Ext0.plus hp).tr r1) xs vs g) z) fun _ _ _ _ q => q⟩
theorem D_imp {σ : St} {H : Hp} {Q : VK} : tM X W (fun ρ s => (m ρ s).bind fun xs s1 => .ok (.lst xs) s1) σ H Q → tD X W m σ H Q :=
  fun ⟨ha, ρ, s, r, e, h⟩ => ⟨ha, ρ, s, r, e, RP.mono (RP.bindI h) (fun xs s' q vs H1 haB p r1 x1 hb hp e1 g z => by
    have hsub : ∀ q, ha.b q → haB.b q := fun q z => by rw [hb]; exact .inl z
    have hpb : haB.b p := by rw [hb]; exact .inr rfl
    refine q _ _ ⟨haB.l, ha.b⟩ (r1.drop ha.b hsub) ⟨x1.pre, rfl, x1.keep, x1.new, x1.dom⟩ (.lst e1 (fun z => ?_) z (Reps.tr (Tr.drop ha.b hsub) xs vs g))
    rcases z with z | z
    · obtain ⟨w, e2⟩ := r.trk p z
      rw [hp] at e2; cases e2
    · exact r1.bHv hpb z) fun _ _ _ _ q => q⟩
theorem je_D (h : PE X a (tD X W m)) : PE X a (tM X W fun ρ s => (m ρ s).bind fun xs s1 => .ok (.lst xs) s1) := PE.imp h fun σ H Q q => D_imp q
theorem mkD_imp {σ : St} {H : Hp} {Q : VK} : tM X W (fun ρ s => (m ρ s).bind mkL) σ H Q → tD X W m σ H Q :=
  fun ⟨ha, ρ, s, r, e, h⟩ => ⟨ha, ρ, s, r, e, RP.mono (RP.bindI h) (fun xs s' q vs H1 haB p r1 x1 hb hp e1 g z => by
    have hsub : ∀ q, ha.b q → haB.b q := fun q z => by rw [hb]; exact .inl z
    have hpb : haB.b p := by rw [hb]; exact .inr rfl
    have hnb : ¬ ha.b p := fun z => by
      obtain ⟨w, e2⟩ := r.trk p z
      rw [hp] at e2; cases e2
    have hlow : (HObj.ml xs).blw s'.length = true := by
      have := Reps.low xs vs g
      rw [r1.len] at this
      exact this
    have r2 := r1.own ha.b hsub hpb hnb (.ml xs) hlow ⟨vs, e1, z, Reps.tr (Tr.own ha.b hsub hpb r1 (.ml xs)) xs vs g⟩
    obtain ⟨t, et⟩ := x1.pre
    refine q _ H1 ⟨haB.l ++ [p], ha.b⟩ r2 ⟨⟨t ++ [p], by show haB.l ++ [p] = _; rw [et, List.append_assoc]⟩, rfl, x1.keep, fun q z => ?_, x1.dom⟩ (.hnd ?_)
    · rcases Hv.snoc (ha := haB) z r1.len with z | z
      · exact x1.new q z
      · rw [z]; exact .inr hp
    · show (haB.l ++ [p])[s'.length]? = some p
      rw [← r1.len]; simp) fun _ _ _ _ q => q⟩

theorem je_mkD (h : PE X a (tD X W m)) : PE X a (tM X W fun ρ s => (m ρ s).bind mkL) := PE.imp h fun σ H Q q => mkD_imp q

/-! ### comprehensions -/
abbrev Wn : WX := fun _ _ _ _ => False
theorem RP.nox {α : Type} {x : R α} {Φ : α → S → Prop} {Ψ : Str → List (Str × D) → Env → S → Prop} (h : RP x.nox Φ Ψ) : RP x Φ fun _ _ _ _ => False := by
  cases x with
  | ok a s => exact h
  | exc c fs ρ s => exact h.elim
  | bad => exact h
theorem wipe_get {σ : St} {i : Nat} : ∀ vs : List Nat, i ∈ vs → (wipe σ vs)[i]? = if i < σ.length then some none else none
  | [], h => by simp at h
  | v :: vs, h => by
    unfold wipe
    by_cases e : v = i
    · subst e
      rw [List.getElem?_set, if_pos rfl, wipe_length]
    · rw [List.getElem?_set_ne e]
      exact wipe_get vs (by rcases List.mem_cons.mp h with h | h; exact absurd h.symm e; exact h)
theorem wipe_idem (σ : St) (vs : List Nat) : wipe (wipe σ vs) vs = wipe σ vs := by
  apply List.ext_getElem?
  intro i
  by_cases h : i ∈ vs
  · rw [wipe_get vs h, wipe_get vs h, wipe_length]
  · rw [wipe_out h]
theorem ERel.ext0 {K : PySem.W.Frag} {H H' : Hp} {ha ha' : HA} {s s' : S} {σ : St} {ρ : Env} (e : ERel K H (Av ha s) ha σ ρ) (x : Ext0 ha s H ha' s' H') (r : SRel K H ha s) : ERel K H' (Av ha' s') ha' σ ρ :=
  ⟨e.len, fun i d h => by
    obtain ⟨v, h1, h2⟩ := e.get i d h
    exact ⟨v, h1, Rep.ext0 x r d v h2⟩⟩
theorem comp_imp {own : List (Str × Nat)} {t : Tg} {mi : Env → S → R (List D)} {mt : Env → S → R Bool} {me : Env → S → R D} (hsub : t.sub (own.map (·.2)) = true) {σ : St} {H : Hp} {Q : VK} :
    tD X W (fun ρ s => (mi ρ s).bind fun xs s1 => compL (compF t mt me (wipeE ρ own)) xs s1) σ H Q → tLc (tI X W mi) (gT X t) (tMT X Wn mt) (tM X Wn me) (own.map (·.2)) σ H Q := by
  intro ⟨ha, ρ, s, r, e, h⟩
  refine ⟨ha, ρ, s, r, e, ?_⟩
  refine RP.mono (RP.bindI h) (fun xs s1 q J H1 ha1 r1 x1 jw D hD => ?_) fun _ _ _ _ q => q
  have hHD : H D = none := by
    cases e : H D with
    | none => rfl
    | some o =>
      obtain ⟨o', e'⟩ := x1.dom D o e
      rw [hD] at e'; cases e'
  obtain ⟨hz, jw⟩ := jw
  refine ⟨fun i k H' => k = xs.length - i ∧ i ≤ xs.length ∧ ∃ ha' s' acc ys, SRel X.K H' ha' s' ∧ Ext0 ha s H ha' s' H' ∧ Ext0 ha1 s1 H1 ha' s' H' ∧ ha'.b = (ha.plus D).b ∧ H' D = some (.lst acc) ∧ Reps X.K H' (Av ha' s') ha' acc ys ∧ acc.length ≤ i ∧
      RP (compL (compF t mt me (wipeE ρ own)) (xs.drop i) s') (fun zs s2 => FinD X Q ha s H (ys ++ zs) s2) (ExP X W σ ha s H),
    ⟨xs.length, by simp, Nat.zero_le _, ha1.plus D, s1, [], [], r1.plus hD, x1.x0.trans (Ext0.plus hD), Ext0.plus hD, by show (fun q => ha1.b q ∨ q = D) = _; rw [x1.bb]; rfl, upd_same, .nil, Nat.le_refl _, q⟩, ?_⟩
  rintro i k H' ⟨rfl, hle, ha', s', acc, ys, r', x', y', hb, hacc, g', hl', q'⟩
  obtain ⟨hgo, hst⟩ := jw ha' s' H' r' y' i
  have hDb : ha'.b D := by rw [hb]; exact .inr rfl
  by_cases hlt : i < xs.length
  · have ed : xs.drop i = xs[i] :: xs.drop (i + 1) := List.drop_eq_getElem_cons hlt
    obtain ⟨g1, g2⟩ := hgo xs[i] (List.getElem?_eq_getElem hlt)
    rw [ed] at q'
    refine .inr ⟨g1, fun H2 => i + 1 ≤ xs.length ∧ ∃ ha' s' acc ys, SRel X.K H2 ha' s' ∧ Ext0 ha s H ha' s' H2 ∧ Ext0 ha1 s1 H1 ha' s' H2 ∧ ha'.b = (ha.plus D).b ∧ H2 D = some (.lst acc) ∧ Reps X.K H2 (Av ha' s') ha' acc ys ∧ acc.length ≤ i + 1 ∧
      RP (compL (compF t mt me (wipeE ρ own)) (xs.drop (i + 1)) s') (fun zs s2 => FinD X Q ha s H (ys ++ zs) s2) (ExP X W σ ha s H), fun H2 ⟨hl, w⟩ => ⟨xs.length - (i + 1), by omega, rfl, hl, w⟩, fun x H'' hy => ?_⟩
    obtain ⟨r3, x3, g3⟩ := g2 x H'' hy
    have q0 : RP ((compF t mt me (wipeE ρ own) xs[i] s').nox.bind fun y s1 => (compL (compF t mt me (wipeE ρ own)) (xs.drop (i + 1)) s1).bind fun ys s2 => .ok (consO y ys) s2) (fun zs s2 => FinD X Q ha s H (ys ++ zs) s2) (ExP X W σ ha s H) := q'
    have q3 := RP.nox (RP.bindI q0)
    have e3 : ERel X.K H'' (Av ha' s') ha' (wipe σ (own.map (·.2))) (wipeE ρ own) := ((e.ext0 x' r).ext x3 r').wipe own
    cases eb : bindT s' t xs[i] (wipeE ρ own) with
    | none =>
      have : compF t mt me (wipeE ρ own) xs[i] s' = .bad := by unfold compF; rw [eb]
      rw [this] at q3
      exact q3.elim
    | some ρ4 =>
      have : compF t mt me (wipeE ρ own) xs[i] s' = (mt ρ4 s').bind fun c s' => if c then (me ρ4 s').bind fun y s'' => .ok (some y) s'' else .ok none s' := by unfold compF; rw [eb]
      rw [this] at q3
      refine ⟨ha', s', xs[i], wipeE ρ own, ρ4, r3, e3, g3, eb, fun σ4 e4 w4 => ⟨by rw [w4 _ hsub, wipe_idem], ha', ρ4, s', r3, e4, ?_⟩⟩
      refine RP.mono (RP.bindI q3) (fun c s5 q5 v H5 ha5 r5 x5 hv => ?_) fun _ _ _ _ q => q.elim
      have hv : v = c := hv
      subst hv
      have x35 := x3.trans x5
      cases v with
      | false =>
        have q5 := RP.bindI (show RP ((compL (compF t mt me (wipeE ρ own)) (xs.drop (i + 1)) s5).bind _) _ _ from q5)
        dsimp only
        rw [if_neg Bool.false_ne_true]
        exact ⟨hlt, ha5, s5, acc, ys, r5, x'.trans x35.x0, y'.trans x35.x0, x35.bb.trans hb, x35.keep D _ hacc (fun _ z => by cases z) (r'.bHv hDb), Reps.ext x35 r' ys acc g', by omega, q5⟩
      | true =>
        dsimp only
        rw [if_pos rfl]
        refine ⟨ha5, ρ4, s5, r5, e4.ext x5 r3, ?_⟩
        refine RP.mono (RP.bindI (show RP ((me ρ4 s5).bind _) _ _ from q5)) (fun yd s6 q6 y H6 ha6 r6 x6 g6 => ?_) fun _ _ _ _ q => q.elim
        have x36 := x35.trans x6
        have hk := x36.keep D _ hacc (fun _ z => by cases z) (r'.bHv hDb)
        have hb6 : ha6.b D := by rw [x36.bb]; exact hDb
        have q6 := RP.bindI (show RP ((compL (compF t mt me (wipeE ρ own)) (xs.drop (i + 1)) s6).bind _) _ _ from q6)
        have gg := (Reps.ext x36 r' ys acc g').append (.cons g6 .nil)
        refine ⟨acc, hk, by omega, hlt, ha6, s6, acc ++ [y], ys ++ [yd], r6.updB hb6 hk, (x'.trans x36.x0).updB hHD, (y'.trans x36.x0).updB hD, x36.bb.trans hb, upd_same, Reps.tr (Tr.updB r6 hb6 hk) _ _ gg, by simp; omega, ?_⟩
        exact RP.mono q6 (fun zs s7 z => by rw [List.append_assoc]; exact z) fun _ _ _ _ q => q
  · have ei : i = xs.length := by omega
    have q' : FinD X Q ha s H (ys ++ []) s' := by
      have : xs.drop i = [] := by rw [ei]; simp
      rw [this] at q'
      exact q'
    rw [List.append_nil] at q'
    exact .inl ⟨hst (by omega), q' acc H' ha' D r' x' hb hHD hacc g' (by omega)⟩
theorem je_comp {elt tg iter : Expr} {ifs : List Expr} {scope : Scope} {own : List (Str × Nat)} {pos : Pos} {t : Tg} {mi : Env → S → R (List D)} {mt : Env → S → R Bool} {me : Env → S → R D}
    (hc : X.calm = true) (hN : X.N.Nodup) (hi : PI X tg iter (tI X W mi)) (ok : BlkOk X.N X.env.scope scope own)
    (hg : ∀ (s : Shared) (H : Hp) (C : Addr) (cl : List (Str × Addr)) (fp : List Addr), PG (X.blk s H scope (compEnvC scope cl C X.env) fp) tg (gT X t))
    (ht : ∀ (s : Shared) (H : Hp) (C : Addr) (cl : List (Str × Addr)) (fp : List Addr), PTs (X.blk s H scope (compEnvC scope cl C X.env) fp) ifs (tMT X Wn mt))
    (he : ∀ (s : Shared) (H : Hp) (C : Addr) (cl : List (Str × Addr)) (fp : List Addr), PE (X.blk s H scope (compEnvC scope cl C X.env) fp) elt (tM X Wn me))
    (hs : ∀ x, foldedSetIterable iter X.env x = pure x) (hsub : t.sub (own.map (·.2)) = true) :
    PE X (.ListComp elt [⟨tg, iter, ifs, 0⟩] scope pos) (tD X W fun ρ s => (mi ρ s).bind fun xs s1 => compL (compF t mt me (wipeE ρ own)) xs s1) :=
  PE.imp (pe_lc hc hN hi ok hg ht he hs) fun σ H Q q => comp_imp hsub q
/-- name = [..] on one line, the name a local -/
theorem js_comp {i : Nat} {y : Str} {py : Pos} {elt tg iter : Expr} {ifs : List Expr} {scope : Scope} {own : List (Str × Nat)} {pos spos : Pos} {t : Tg} {mi : Env → S → R (List D)} {mt : Env → S → R Bool} {me : Env → S → R D} {mm : Env → S → R D}
    (hc : X.calm = true) (hN : X.N.Nodup) (hy : X.N[i]? = some y) (hyl : X.env.scope.names.lookup y = some .local)
    (hsw : swapsWith (.ListComp elt [⟨tg, iter, ifs, 0⟩] scope pos) (some (.Name y py)) spos.line X.env = pure true) (hi : PI X tg iter (tI X W mi)) (ok : BlkOk X.N X.env.scope scope own)
    (hg : ∀ (s : Shared) (H : Hp) (C : Addr) (cl : List (Str × Addr)) (fp : List Addr), PG (X.blk s H scope (compEnvC scope cl C X.env) fp) tg (gT X t))
    (ht : ∀ (s : Shared) (H : Hp) (C : Addr) (cl : List (Str × Addr)) (fp : List Addr), PTs (X.blk s H scope (compEnvC scope cl C X.env) fp) ifs (tMT X Wn mt))
    (he : ∀ (s : Shared) (H : Hp) (C : Addr) (cl : List (Str × Addr)) (fp : List Addr), PE (X.blk s H scope (compEnvC scope cl C X.env) fp) elt (tM X Wn me))
    (hs : ∀ x, foldedSetIterable iter X.env x = pure x) (hsub : t.sub (own.map (·.2)) = true)
    (hm : ∀ σ H Q, tM X W mm σ H Q → tD X W (fun ρ s => (mi ρ s).bind fun xs s1 => compL (compF t mt me (wipeE ρ own)) xs s1) σ H Q) :
    PS X (.Assign [.Name y py] (.ListComp elt [⟨tg, iter, ifs, 0⟩] scope pos) spos) (tS X W fun ρ s => (mm ρ s).bind fun x s1 => match bindT s1 (.nm i) x ρ with | some ρ' => .ok (.nx ρ') s1 | none => .bad) :=
  PS.imp (ps_setLc hc hN hy hyl hsw hi ok hg ht he hs) fun E σ H ⟨ha, ρ, s, r, e, h⟩ => comp_imp hsub (hm _ _ _ ⟨ha, ρ, s, r, e, PtG.stm h fun a s1 v H1 ha1 r1 x1 g1 q => by
    have b : bindT s1 (.nm i) a ρ = if i < ρ.length then some (ρ.set i (some a)) else none := rfl
    rw [b] at q
    by_cases hl : i < ρ.length
    · rw [if_pos hl] at q
      exact q _ H1 ha1 r1 Ext.refl ((e.ext x1 r).set i g1)
    · rw [if_neg hl] at q; exact q.elim⟩)
end

/-! ### an object that changes -/
section
variable {X : Cx} {W : WX} {K : PySem.W.Frag} {H : Hp} {ha : HA} {s : S} {i : Nat} {p : Addr} {o o' : HObj} {u : HO}
theorem Hv.upd {q : Addr} (h2 : s[i]? = some o) (hm : o.mt = true) (h : Hv ha (s.set i o') q) : Hv ha s q := by
  obtain ⟨j, w, k1, k2, k3⟩ := h
  by_cases z : i = j
  · subst z
    exact ⟨i, o, k1, h2, hm⟩
  · rw [List.getElem?_set_ne z] at k2
    exact ⟨j, w, k1, k2, k3⟩
theorem Ext.upd (h1 : ha.l[i]? = some p) (h2 : s[i]? = some o) (hm : o.mt = true) : Ext ha s H ha (s.set i o') (upd H p u) :=
  ⟨⟨[], by simp⟩, rfl, fun q w e _ n => by rw [upd_ne (fun z => n ⟨i, o, by rw [z]; exact h1, h2, hm⟩)]; exact e, fun q z => .inl (Hv.upd h2 hm z), fun q w e => by
    by_cases z : q = p
    · exact ⟨u, by rw [z]; exact upd_same⟩
    · exact ⟨w, by rw [upd_ne z]; exact e⟩⟩
theorem SRel.upd (r : SRel K H ha s) (h1 : ha.l[i]? = some p) (h2 : s[i]? = some o) (hm : o.mt = true) (hl : o'.blw i = true) (hA : ObjR K (upd H p u) (Av ha (s.set i o')) ha p o') : SRel K (upd H p u) ha (s.set i o') := by
  have x : Ext ha s H ha (s.set i o') (L2.upd H p u) := Ext.upd h1 h2 hm
  have hi := (List.getElem?_eq_some_iff.mp h2).1
  refine ⟨by rw [List.length_set]; exact r.len, r.nd, fun j w e => ?_, fun j w e => ?_, fun q z => ?_, r.dis, ?_⟩
  · by_cases z : i = j
    · subst z
      rw [List.getElem?_set_self hi] at e
      cases e
      exact ⟨p, h1, hA⟩
    · rw [List.getElem?_set_ne z] at e
      obtain ⟨q, k1, k2⟩ := r.obj j w e
      have hq : q ≠ p := fun e => z ((List.getElem?_inj (List.getElem?_eq_some_iff.mp h1).1 r.nd).mp (by rw [h1, k1, e]))
      refine ⟨q, k1, ?_⟩
      cases w with
      | ml xs => obtain ⟨us, a, b, c⟩ := k2; exact ⟨us, by rw [upd_ne hq]; exact a, b, Reps.ext x r xs us c⟩
      | fz xs => obtain ⟨us, a, b, c⟩ := k2; exact ⟨us, by rw [upd_ne hq]; exact a, b, Reps.ext x r xs us c⟩
      | md xs => obtain ⟨us, a, b, c⟩ := k2; exact ⟨us, by rw [upd_ne hq]; exact a, b, Repk.ext x r xs us c⟩
      | gone => obtain ⟨v, a⟩ := k2; exact ⟨v, by rw [upd_ne hq]; exact a⟩
  · by_cases z : i = j
    · subst z
      rw [List.getElem?_set_self hi] at e
      cases e
      exact hl
    · rw [List.getElem?_set_ne z] at e
      exact r.low j w e
  · obtain ⟨w, e⟩ := r.trk q z
    exact x.dom q w e
  · rcases r.kind ⟨i, o, h1, h2, hm⟩ with ⟨vs, e⟩ | ⟨vs, e⟩
    · exact r.tab.set e (fun _ z => by cases z) fun _ z => by cases z
    · exact r.tab.set e (fun _ z => by cases z) fun _ z => by cases z
end
end RS

set_option Elab.async false
set_option linter.all false
set_option maxRecDepth 100000
/-! append, a store to a place, two names at once -/
namespace RS
open PySem PySem.Spec L2
open PyProof.Rows hiding St

theorem blws_append (n : Nat) : ∀ (xs ys : List D), blws n (xs ++ ys) = (blws n xs && blws n ys)
  | [], ys => by simp [blws]
  | x :: xs, ys => by
    show (x.blw n && blws n (xs ++ ys)) = ((x.blw n && blws n xs) && blws n ys)
    rw [blws_append n xs ys, Bool.and_assoc]
theorem blws_set {n : Nat} {z : D} (hz : z.blw n = true) : ∀ (xs : List D) (j : Nat), blws n xs = true → blws n (xs.set j z) = true
  | [], _, h => h
  | x :: xs, 0, h => by
    have h := Bool.and_eq_true_iff.mp (show (x.blw n && blws n xs) = true from h)
    exact Bool.and_eq_true_iff.mpr ⟨hz, h.2⟩
  | x :: xs, j + 1, h => by
    have h := Bool.and_eq_true_iff.mp (show (x.blw n && blws n xs) = true from h)
    exact Bool.and_eq_true_iff.mpr ⟨h.1, blws_set hz xs j h.2⟩
section
variable {X : Cx} {W : WX} {a b c : Expr} {ma mb mc : Env → S → R D} {pos : Pos}
/-- the list of a value that may change -/
theorem ml_at {K : PySem.W.Frag} {H : Hp} {ha : HA} {s : S} {i : Nat} {xs : List D} {v : V} (r : SRel K H ha s) (g : Rep K H (Av ha s) ha v (.hnd i)) (e : s[i]? = some (.ml xs)) :
    ∃ p vs, v = .ref p ∧ ha.l[i]? = some p ∧ H p = some (.lst vs) ∧ vs.length ≤ sizeLine ∧ Reps K H (Av ha s) ha vs xs := by
  cases g with
  | hnd h1 =>
    obtain ⟨p', h2, vs, h3, h4, h5⟩ := r.obj i _ e
    rw [h1] at h2
    cases h2
    exact ⟨_, vs, rfl, h1, h3, h4, h5⟩
theorem appD_at {x y : D} {s s' : S} {d : D} (h : appD x y s = .ok d s') : ∃ i xs, x = .hnd i ∧ s[i]? = some (.ml xs) ∧ xs.length < CAP ∧ y.blw i = true ∧ d = .non ∧ s' = s.set i (.ml (xs ++ [y])) := by
  cases x with
  | hnd i =>
    have h : (match s[i]? with | some (.ml xs) => if xs.length < CAP && y.blw i then R.ok D.non (s.set i (.ml (xs ++ [y]))) else .bad | _ => .bad) = .ok d s' := h
    cases e : s[i]? with
    | none => rw [e] at h; cases h
    | some o =>
      rw [e] at h
      cases o with
      | ml xs =>
        dsimp only at h
        by_cases hc : (decide (xs.length < CAP) && y.blw i) = true
        · rw [if_pos hc] at h
          cases h
          have hc := Bool.and_eq_true_iff.mp hc
          exact ⟨i, xs, rfl, e, of_decide_eq_true hc.1, hc.2, rfl, rfl⟩
        · rw [if_neg hc] at h; cases h
      | _ => cases h
  | _ => cases h
theorem appD_exc {x y : D} {s s' : S} {cc : Str} {fs : List (Str × D)} {ρ : Env} (h : appD x y s = .exc cc fs ρ s') : False := by
  cases x with
  | hnd i =>
    have h : (match s[i]? with | some (.ml xs) => if xs.length < CAP && y.blw i then R.ok D.non (s.set i (.ml (xs ++ [y]))) else .bad | _ => .bad) = .exc cc fs ρ s' := h
    cases e : s[i]? with
    | none => rw [e] at h; cases h
    | some o =>
      rw [e] at h
      cases o with
      | ml xs =>
        dsimp only at h
        split at h <;> cases h
      | _ => cases h
  | _ => cases h
theorem je_app {apos : Pos} (ha : PE X a (tM X W ma)) (hb : PE X b (tM X W mb)) (hbase : attributeBase a "append" X.env (eval a X.env) = eval a X.env)
    (hfew : ((backTo pos (starEach [b] X.env)).all (fun x => !x.1) && (backToKw pos (keywordEach [] X.env)).all (fun x => x.1.isSome)
      && decide (([b] : List Expr).length + ([] : List Keyword).length + (if ([] : List Keyword).isEmpty then 0 else 1) < 30)) = true)
    (hline : (apos.endLine == pos.line) = true) (hs : starEach [b] X.env = (false, eval b X.env) :: starEach [] X.env) :
    PE X (.Call (.Attribute a "append" apos) [b] [] pos) (tM X W fun ρ s => (ma ρ s).bind fun x s1 => if isML x s1 then (mb ρ s1).bind fun y s2 => appD x y s2 else .bad) := by
  refine PE.imp (pe_bm PySem.F.plainAttrs_list PySem.F.slot_list_append PySem.F.type_list_append mt_append ha (pa_cons hb pa_nil hs) hbase hfew hline hs rfl) fun σ H Q ⟨ha, ρ, s, r, e, h⟩ => ?_
  refine ⟨ha, ρ, s, r, e, PtG.bind h fun x s1 v H1 ha1 r1 x1 g1 h1 => ?_⟩
  by_cases hm : isML x s1 = true
  · rw [if_pos hm] at h1
    obtain ⟨i, ys, rfl, hi⟩ : ∃ i ys, x = .hnd i ∧ s1[i]? = some (.ml ys) := by
      cases x with
      | hnd i =>
        have hm : (match s1[i]? with | some (.ml _) => true | _ => false) = true := hm
        cases e : s1[i]? with
        | none => rw [e] at hm; cases hm
        | some o =>
          rw [e] at hm
          cases o with
          | ml ys => exact ⟨i, ys, rfl, e⟩
          | _ => cases hm
      | _ => cases hm
    obtain ⟨p, vs, rfl, hp, hv, _, _⟩ := ml_at r1 g1 hi
    refine ⟨.inl ⟨rfl, vs, SqL.of hv⟩, ?_⟩
    refine ⟨ha1, ρ, s1, r1, e.ext x1 r, PtG.bind h1 fun y s2 w H2 ha2 r2 x2 g2 h2 => ?_⟩
    cases hd : appD (.hnd i) y s2 with
    | bad => rw [hd] at h2; exact h2.elim
    | exc cc fs ρ' s' => exact (appD_exc hd).elim
    | ok d s3 =>
      rw [hd] at h2
      obtain ⟨j, xs, e1, e2, e3, e4, rfl, rfl⟩ := appD_at hd
      cases e1
      obtain ⟨p', us, e5, hp', hu, hz, gu⟩ := ml_at r2 (Rep.ext x2 r1 _ _ g1) e2
      cases e5
      have hl : us.length < sizeLine := by rw [gu.length]; exact Nat.lt_of_lt_of_le e3 (cap_line (Nat.le_refl _))
      refine ⟨_, us, w, rfl, rfl, hu, hl, ?_⟩
      have xx : Ext ha2 s2 H2 ha2 (s2.set i (.ml (xs ++ [y]))) (upd H2 p (.lst (us ++ [w]))) := Ext.upd hp' e2 rfl
      have rr := SRel.upd (K := X.K) (u := .lst (us ++ [w])) (o' := .ml (xs ++ [y])) r2 hp' e2 rfl (by
        show blws i (xs ++ [y]) = true
        rw [blws_append, show blws i xs = true from r2.low i _ e2]
        show (true && (y.blw i && true)) = true
        rw [e4]; rfl) ⟨us ++ [w], upd_same, by rw [List.length_append]; exact hl, Reps.ext xx r2 _ _ (gu.append (.cons g2 .nil))⟩
      exact h2 .non _ ha2 rr xx .non
  · rw [if_neg hm] at h1; exact h1.elim
theorem sixD_at {x k z : D} {s s' : S} {u : Unit} (h : sixD x k z s = .ok u s') : ∃ i kk xs j, x = .hnd i ∧ k = .int kk ∧ s[i]? = some (.ml xs) ∧ ixN xs.length kk = some j ∧ z.blw i = true ∧ s' = s.set i (.ml (xs.set j z)) := by
  cases x with
  | hnd i =>
    cases k with
    | int kk =>
      simp only [sixD] at h
      cases e : s[i]? with
      | none => rw [e] at h; cases h
      | some o =>
        rw [e] at h
        cases o with
        | ml xs =>
          dsimp only at h
          cases e2 : ixN xs.length kk with
          | none => rw [e2] at h; cases h
          | some j =>
            rw [e2] at h
            dsimp only at h
            by_cases hb : z.blw i = true
            · rw [if_pos hb] at h; cases h; exact ⟨i, kk, xs, j, rfl, rfl, e, e2, hb, rfl⟩
            · rw [if_neg hb] at h; cases h
        | _ => cases h
    | _ => cases h
  | _ => cases h
theorem sixD_exc {x k z : D} {s s' : S} {cc : Str} {fs : List (Str × D)} {ρ : Env} (h : sixD x k z s = .exc cc fs ρ s') : False := by
  cases x with
  | hnd i =>
    cases k with
    | int kk =>
      simp only [sixD] at h
      cases e : s[i]? with
      | none => rw [e] at h; cases h
      | some o =>
        rw [e] at h
        cases o with
        | ml xs =>
          dsimp only at h
          cases e2 : ixN xs.length kk with
          | none => rw [e2] at h; cases h
          | some j => rw [e2] at h; dsimp only at h; split at h <;> cases h
        | _ => cases h
    | _ => cases h
  | _ => cases h
theorem je_six {tpos : Pos} {e0 : Expr} {me : Env → S → R D} (he : PE X e0 (tM X W me)) (ha : PE X a (tM X W ma)) (hb : PE X b (tM X W mb))
    (hasg : ∀ v, assign (.Subscript a b tpos) X.env v = (do
      let ov ← holding [v] (eval a X.env)
      let iv ← holding [v, ov] (eval b X.env)
      standAt tpos
      holding [v, ov, iv] (setItem ov iv v)
      release [v, ov, iv] []))
    (hs : swapsWithSole [.Subscript a b tpos] e0 pos.line X.env = pure false) (hw : swappedStores [.Subscript a b tpos] e0 X.env = pure none) (h1 : (assignEach [.Subscript a b tpos] X.env).map (·.2) = [assign (.Subscript a b tpos) X.env]) :
    PS X (.Assign [.Subscript a b tpos] e0 pos) (tS X W fun ρ s => (me ρ s).bind fun z s1 => (ma ρ s1).bind fun x s2 => (mb ρ s2).bind fun y s3 => (sixD x y z s3).bind fun _ s4 => .ok (.nx ρ) s4) := by
  refine PS.imp (ps_asg he (pg_sub ha hb set_list hasg) hs hw h1) fun E σ H ⟨ha, ρ, s, r, e, h⟩ => ⟨ha, ρ, s, r, e, PtG.stm h fun z s1 v H1 ha1 r1 x1 g1 q => ?_⟩
  refine ⟨ha1, ρ, s1, r1, e.ext x1 r, PtG.stm q fun x s2 v2 H2 ha2 r2 x2 g2 q => ?_⟩
  refine ⟨ha2, ρ, s2, r2, (e.ext x1 r).ext x2 r1, PtG.stm q fun y s3 v3 H3 ha3 r3 x3 g3 q => ?_⟩
  have q2 := RP.bindI q
  cases hd : sixD x y z s3 with
  | bad => rw [hd] at q2; exact q2.elim
  | exc cc fs ρ' s' => exact (sixD_exc hd).elim
  | ok d s4 =>
    rw [hd] at q2
    obtain ⟨i, k, xs, j, rfl, rfl, e1, e2, hb, rfl⟩ := sixD_at hd
    obtain ⟨p, us, rfl, hp, hu, hz, gu⟩ := ml_at r3 (Rep.ext x3 r2 _ _ g2) e1
    cases g3
    refine ⟨p, us, k, j, rfl, rfl, hu, by rw [gu.length]; exact e2, ?_⟩
    have xx : Ext ha3 s3 H3 ha3 (s3.set i (.ml (xs.set j z))) (upd H3 p (.lst (us.set j v))) := Ext.upd hp e1 rfl
    have gz := Rep.ext (x2.trans x3) r1 _ _ g1
    have rr := SRel.upd (K := X.K) (u := .lst (us.set j v)) (o' := .ml (xs.set j z)) r3 hp e1 rfl (blws_set hb xs j (r3.low i _ e1)) ⟨_, upd_same, by rw [List.length_set]; exact hz, Reps.ext xx r3 _ _ (gu.set gz j)⟩
    exact q2 σ _ ha3 rr xx ((((e.ext x1 r).ext x2 r1).ext x3 r2).ext xx r3)
theorem js_par {i j : Nat} {x y : Str} {px py pt : Pos} {kt k2 pt2} (hc : X.calm = true) (hN : X.N.Nodup) (hi : X.N[i]? = some x) (hj : X.N[j]? = some y) (hij : i ≠ j)
    (hx : X.env.scope.names.lookup x = some .local) (hy : X.env.scope.names.lookup y = some .local) (ha : PE X a (tM X W ma)) (hb : PE X b (tM X W mb)) (hs1 : starEach [a, b] X.env = (false, eval a X.env) :: starEach [b] X.env) (hs2 : starEach [b] X.env = (false, eval b X.env) :: starEach [] X.env)
    (hw : swappedStores [.Tuple [.Name x px, .Name y py] kt pt] (.Tuple [a, b] k2 pt2) X.env = pure (some [x, y]))
    (hs : swapsWithSole [.Tuple [.Name x px, .Name y py] kt pt] (.Tuple [a, b] k2 pt2) pos.line X.env = pure false) :
    PS X (.Assign [.Tuple [.Name x px, .Name y py] kt pt] (.Tuple [a, b] k2 pt2) pos) (tS X W fun ρ s => (ma ρ s).bind fun x s1 => (mb ρ s1).bind fun y s2 => if i < ρ.length ∧ j < ρ.length then .ok (.nx ((ρ.set i (some x)).set j (some y))) s2 else .bad) := by
  refine PS.imp (ps_par hc hN hi hj hij hx hy (pa_cons ha (pa_cons hb pa_nil hs2) hs1) hw hs) fun E σ H ⟨ha, ρ, s, r, e, h⟩ => ⟨ha, ρ, s, r, e, PtG.stm h fun x s1 v H1 ha1 r1 x1 g1 q => ?_⟩
  refine ⟨ha1, ρ, s1, r1, e.ext x1 r, PtG.stm q fun y s2 w H2 ha2 r2 x2 g2 q => ?_⟩
  by_cases hl : i < ρ.length ∧ j < ρ.length
  · rw [if_pos hl] at q
    exact ⟨v, w, rfl, q _ H2 ha2 r2 Ext.refl ((((e.ext x1 r).ext x2 r1).set i (Rep.ext x2 r1 x v g1)).set j g2)⟩
  · rw [if_neg hl] at q; exact q.elim
end
end RS

set_option Elab.async false
set_option linter.all false
set_option maxRecDepth 100000
/-! calls -/
namespace RS
open PySem PySem.Spec L2
open PyProof.Rows hiding St

/-! ### a def's promise, with no guard around -/
structure FnG (P : Program) (w : World) (K : PySem.W.Frag) (mg : Str → Option Value) (base : Heap) (CX : CXT) (k : Nat) (f : Addr) (fd : FuncData) (ps : List Str) (sp : Sp) : Prop where
  len : ∀ vs H Q E, sp vs H Q E → vs.length = ps.length
  run : ∀ (A : Around) (outer : List PySem.Env) (s : Shared) (H : Hp) (args : Args) (us : List Value) (vs : List V) (Q : VK) (E : XK), Room k A → A.guards = some [] → Env0 P w K mg base A outer s H → BindsTo s fd args (ps.zip us) → Vals vs us → sp vs H Q E →
    codeAny (model P w) A (.call (.ref f) args) (CR CX outer P w H s Q E) s
theorem FnG.mono {P : Program} {w : World} {K : PySem.W.Frag} {mg : Str → Option Value} {base : Heap} {CX : CXT} {j k : Nat} {f : Addr} {fd : FuncData} {ps : List Str} {sp : Sp} (F : FnG P w K mg base CX j f fd ps sp) (h : j ≤ k) :
    FnG P w K mg base CX k f fd ps sp := ⟨F.len, fun A outer s H args us vs Q E hr => F.run A outer s H args us vs Q E (hr.mono h)⟩
theorem guards_deeper (A : Around) (env : PySem.Env) (h : A.guards = some []) : (A.deeper env).guards = some [] := h
theorem fnG_of {CX : CXT} {P : Program} {w : World} {K : PySem.W.Frag} {mg : Str → Option Value} {base : Heap} {k : Nat} {f : Addr} {name qual : Str} {params : Arguments} {body : List Stmt} {scope : Scope} {dV kV doc pm cdv ct oc : Value} {an od : Option Addr}
    {osl : Array (Option Value)} {N ps : List Str} {sp : Sp} (lk : K.lookup f = some ⟨oc, od, .func (PySem.W.fnOf name qual params body scope dV kV doc pm an cdv ct), osl⟩) (hcd : PySem.W.codeIn K cdv qual = true) (S : FnScope N ps scope)
    (len : ∀ vs H Q E, sp vs H Q E → vs.length = ps.length)
    (hbody : ∀ (A : Around) (outer : List PySem.Env) (s : Shared) (H : Hp) (vs : List V) (Q : VK) (E : XK), Room k (A.deeper (envOfC qual scope s.heap.objs.size f cdv)) → (A.deeper (envOfC qual scope s.heap.objs.size f cdv)).guards = some [] → sp vs H Q E →
      ∃ t, PSs (cxOf CX P w K mg base N qual scope f cdv A outer s H E) body t ∧ t { nx := fun _ H' => Q .non H', rt := Q } (start N vs) H) :
    FnG P w K mg base CX (k + 1) f (PySem.W.fnOf name qual params body scope dV kV doc pm an cdv ct) ps sp := by
  refine ⟨len, fun A outer s H args us vs Q E hr hg e0 hb r hsp => ?_⟩
  have hl := len _ _ _ _ hsp
  have KX : K.In s.heap := e0.mod.kin.keeps fun b o e => (e0.bs b o e).1
  have lim : s.heap.NoLimit := e0.mod.nolimit.keeps fun b o e => (e0.bs b o e).1
  have hkind : ∀ y ∈ ps.zip us, scope.names.lookup y.1 = some .local ∨ (scope.names.lookup y.1 = some .cell ∧ ((cellsFrom (s.heap.objs.size + 1) scope.names []).lookup y.1).isSome = true) := fun ⟨n, v⟩ hy => by
    rcases S.par n (List.of_mem_zip hy).1 with q | q
    · exact .inl q
    · exact .inr ⟨q, PySem.W.cellsFrom_some _ _ _ (.inl q)⟩
  refine codeAny_call_function hr.depth (KX _ _ lk) rfl S.co S.gen rfl (PySem.W.codeRec_of KX hcd) (hb _ _ _ _ ?_)
  refine wpAny_newFunctionEnv_cells S.kind hkind fun env he s1 x => ?_
  subst he
  refine ⟨lim.keeps x.toInCall.keep, codeAny_func ?_⟩
  obtain ⟨t, ht, hq⟩ := hbody A outer s H vs Q E (hr.deeper _) (guards_deeper A _ hg) hsp
  have I : L2.Inv (cxOf CX P w K mg base N qual scope f cdv A outer s H E) [] (start N vs) H s1 := inv_start S hr.hd e0 hl r x
  refine wpAny_mono (ht.run [] s1 (start N vs) H _ I hq) (fun fl s' hs => ?_) fun e s' hs => hs
  have fin : ∀ {σ' : L2.St} {H' : Hp} {v : V} {u : Value}, L2.Inv (cxOf CX P w K mg base N qual scope f cdv A outer s H E) [] σ' H' s' → RelV v u → Q v H' → CE outer P w H s Q u s' :=
    fun {σ' H' v u} J rv q => ⟨v, H', J.os, J.bare, J.base, J.hok, rv, q⟩
  cases fl with
  | ret u =>
    obtain ⟨v, σ', H', J, rv, q⟩ := hs
    exact fin J rv q
  | next =>
    obtain ⟨σ', H', J, q⟩ := hs
    exact fin (v := V.non) (u := Value.none) J rfl q
  | brk =>
    obtain ⟨_, _, _, q⟩ := hs
    exact False.elim q
  | cont =>
    obtain ⟨_, _, _, q⟩ := hs
    exact False.elim q
section
variable {X : Cx} {CX : CXT} {k : Nat} {f : Addr} {fd : FuncData} {ps : List Str} {sp : Sp} {E : L2.St → XK} {x : Str} {p pos : Pos} {e : Expr} {es : List Expr} {t : TA}
theorem run_fnG {pins : List (Addr × Obj)} {σ : L2.St} {H : Hp} {s : Shared} {Q : VK} {us : List Value} {vs : List V} (F : FnG X.prog X.w X.K X.mg X.base CX k f fd ps sp) (hr : Room k X.A) (hgd : X.A.guards = some []) (hb : Binds X.K fd ps []) (hx : PassesAt CX X σ (E σ))
    (I : L2.Inv X pins σ H s) (r : Vals vs us) (h : sp vs H Q (E σ)) : wpAny (model X.prog X.w) X.A (call (.ref f) us) (EP X pins σ Q) X.xe s := by
  have hl : us.length = ps.length := by rw [← r.length]; exact F.len _ _ _ _ h
  have b := hb s us I.kIn (by rw [List.append_nil]; exact hl)
  rw [List.append_nil] at b
  refine wpAny_call (codeAny_mono (F.run X.A X.stack s H ⟨us, []⟩ us vs Q (E σ) hr hgd I.env0 b r h) fun r s' hq => ?_)
  cases r with
  | error e => exact hx pins H s e s' I hq
  | ok fl =>
    cases fl with
    | ret u => exact I.after hq
    | next => exact False.elim hq
    | brk => exact False.elim hq
    | cont => exact False.elim hq
theorem pe_callG (F : FnG X.prog X.w X.K X.mg X.base CX k f fd ps sp) (hr : Room k X.A) (hgd : X.A.guards = some []) (hg : Gl X x) (hm : X.mg x = some (.ref f)) (hk : PySem.W.keepIn X.K (.ref f) = true) (hb : Binds X.K fd ps []) (hx : ∀ σ, PassesAt CX X σ (E σ))
    (ha : PA X (e :: es) t) (hdb : (x == ("__debug__" : Str)) = false) (he : starEach (e :: es) X.env = (false, eval e X.env) :: starEach es X.env) (hpl : (backTo pos (starEach es X.env)).any (·.1) = false) :
    PE X (.Call (.Name x p) (e :: es) [] pos) (tCallS sp E t) := by
  refine ⟨fun pins s σ H Q I h => ?_⟩
  refine wpAny_Call_Name_kw (ld_glob I hg hm ?_ hdb)
  refine PySem.W.callWith_K (h₀ := X.base) I.ok.mod.kin hk (thn (ha.run pos pins s σ H _ I h) fun us s1 ⟨vs, H1, I1, r, q⟩ => ⟨I1.kIn, ?_⟩) he hpl
  exact run_fnG F hr hgd hb (hx σ) I1 r q
theorem pe_callG0 (F : FnG X.prog X.w X.K X.mg X.base CX k f fd ps sp) (hr : Room k X.A) (hgd : X.A.guards = some []) (hg : Gl X x) (hm : X.mg x = some (.ref f)) (hk : PySem.W.keepIn X.K (.ref f) = true) (hb : Binds X.K fd ps []) (hx : ∀ σ, PassesAt CX X σ (E σ))
    (hdb : (x == ("__debug__" : Str)) = false) :
    PE X (.Call (.Name x p) [] [] pos) (tCallS sp E tNil) := by
  refine ⟨fun pins s σ H Q I h => ?_⟩
  refine wpAny_Call_Name_kw (ld_glob I hg hm ?_ hdb)
  exact PySem.W.callWith_K0 I.kIn hk (run_fnG (us := []) F hr hgd hb (hx σ) I .nil h)
end

/-! ### what was made within a call is dropped -/
section
variable {K : PySem.W.Frag} {H : Hp} {A A' : Addr → Prop} {ha ha' : HA} {n : Nat}
/-- .. only the first n objects are kept -/
structure Ct (A : Addr → Prop) (ha : HA) (A' : Addr → Prop) (ha' : HA) (n : Nat) : Prop where
  av : ∀ p, A' p → A p
  at' : ∀ (i : Nat) (p : Addr), i < n → ha.l[i]? = some p → ha'.l[i]? = some p
mutual
theorem Rep.ct (x : Ct A ha A' ha' n) : ∀ (d : D) (v : V), d.blw n = true → Rep K H A ha v d → Rep K H A' ha' v d
  | .non, _, _, h => by cases h; exact .non
  | .bl b, _, _, h => by cases h; exact .bl b
  | .int i, _, _, h => by cases h; exact .int i
  | .str y, _, _, h => by cases h; exact .str y
  | .tup xs, _, l, h => by
    cases h with
    | tup h1 h2 h3 => exact .tup h1 h2 (Reps.ct x xs _ l h3)
  | .lst xs, _, l, h => by
    cases h with
    | lst h1 h2 h3 h4 => exact .lst h1 (fun z => h2 (x.av _ z)) h3 (Reps.ct x xs _ l h4)
  | .dic xs, _, l, h => by
    cases h with
    | dic h1 h2 h3 h4 => exact .dic h1 (fun z => h2 (x.av _ z)) h3 (Repk.ct x xs _ l h4)
  | .hnd i, _, l, h => by
    cases h with
    | hnd h1 => exact .hnd (x.at' _ _ (of_decide_eq_true l) h1)
  | .scr ns, _, _, h => by
    cases h with
    | scr h1 h2 =>
      refine .scr ?_ h2
      rcases h1 with ⟨h1, h3⟩ | h1
      · exact .inl ⟨h1, fun z => h3 (x.av _ z)⟩
      · exact .inr h1
  | .xcp c f y, _, l, h => by
    cases h with
    | xc0 h1 h2 h3 => exact .xc0 h1 (fun z => h2 (x.av _ z)) h3
    | xc1 h1 h2 h3 h4 h5 h6 h7 => exact .xc1 h1 (fun z => h2 (x.av _ z)) h3 (fun z => h4 (x.av _ z)) (Rep.ct x y _ l h5) h6 h7
theorem Reps.ct (x : Ct A ha A' ha' n) : ∀ (ds : List D) (vs : List V), blws n ds = true → Reps K H A ha vs ds → Reps K H A' ha' vs ds
  | [], _, _, h => by cases h; exact .nil
  | d :: ds, _, l, h => by
    have l := Bool.and_eq_true_iff.mp (show (d.blw n && blws n ds) = true from l)
    cases h with
    | cons h1 h2 => exact .cons (Rep.ct x d _ l.1 h1) (Reps.ct x ds _ l.2 h2)
theorem Repk.ct (x : Ct A ha A' ha' n) : ∀ (ds : List (Key × D)) (vs : List (Key × V)), blwkv n ds = true → Repk K H A ha vs ds → Repk K H A' ha' vs ds
  | [], _, _, h => by cases h; exact .nil
  | (k, d) :: ds, _, l, h => by
    have l := Bool.and_eq_true_iff.mp (show (d.blw n && blwkv n ds) = true from l)
    cases h with
    | cons h1 h2 => exact .cons (Rep.ct x d _ l.1 h1) (Repk.ct x ds _ l.2 h2)
end
mutual
theorem D.blw_mono {m n : Nat} (h : m ≤ n) : ∀ d : D, d.blw m = true → d.blw n = true
  | .non, _ => rfl
  | .bl _, _ => rfl
  | .int _, _ => rfl
  | .str _, _ => rfl
  | .scr _, _ => rfl
  | .xcp _ _ y, l => D.blw_mono h y l
  | .tup xs, l => blws_mono h xs l
  | .lst xs, l => blws_mono h xs l
  | .dic xs, l => blwkv_mono h xs l
  | .hnd i, l => decide_eq_true (Nat.lt_of_lt_of_le (of_decide_eq_true l) h)
theorem blws_mono {m n : Nat} (h : m ≤ n) : ∀ ds : List D, blws m ds = true → blws n ds = true
  | [], _ => rfl
  | d :: ds, l => by
    have l := Bool.and_eq_true_iff.mp (show (d.blw m && blws m ds) = true from l)
    exact Bool.and_eq_true_iff.mpr ⟨D.blw_mono h d l.1, blws_mono h ds l.2⟩
theorem blwkv_mono {m n : Nat} (h : m ≤ n) : ∀ ds : List (Key × D), blwkv m ds = true → blwkv n ds = true
  | [], _ => rfl
  | (k, d) :: ds, l => by
    have l := Bool.and_eq_true_iff.mp (show (d.blw m && blwkv m ds) = true from l)
    exact Bool.and_eq_true_iff.mpr ⟨D.blw_mono h d l.1, blwkv_mono h ds l.2⟩
end
end
def HA.cut (ha : HA) (n : Nat) : HA := ⟨ha.l.take n, ha.b⟩
section
variable {K : PySem.W.Frag} {H H1 : Hp} {ha ha1 : HA} {s s1 : S}
theorem Hv.cut {n : Nat} {p : Addr} (h : Hv (ha.cut n) (s.take n) p) : Hv ha s p := by
  obtain ⟨i, o, h1, h2, h3⟩ := h
  have a1 : (ha.l.take n)[i]? = some p := h1
  rw [List.getElem?_take] at a1 h2
  by_cases z : i < n
  · rw [if_pos z] at a1 h2
    exact ⟨i, o, a1, h2, h3⟩
  · rw [if_neg z] at a1; cases a1
theorem Ct.cut {n : Nat} : Ct (Av ha s) ha (Av (ha.cut n) (s.take n)) (ha.cut n) n :=
  ⟨fun p z => z.imp id Hv.cut, fun i p h e => by
    show (ha.l.take n)[i]? = some p
    rw [List.getElem?_take, if_pos h]
    exact e⟩
theorem SRel.cut (r : SRel K H ha s) (n : Nat) : SRel K H (ha.cut n) (s.take n) := by
  refine ⟨by show (ha.l.take n).length = _; rw [List.length_take, List.length_take, r.len], ?_, fun i o e => ?_, fun i o e => ?_, r.trk, fun p z m => r.dis p z (List.mem_of_mem_take m), r.tab⟩
  · exact r.nd.sublist (List.take_sublist _ _)
  · rw [List.getElem?_take] at e
    by_cases z : i < n
    · rw [if_pos z] at e
      obtain ⟨p, h1, h2⟩ := r.obj i o e
      refine ⟨p, Ct.cut (s := s).at' i p z h1, ?_⟩
      have l := r.low i o e
      cases o with
      | ml xs => obtain ⟨vs, a, b, c⟩ := h2; exact ⟨vs, a, b, Reps.ct Ct.cut xs vs (blws_mono (Nat.le_of_lt z) xs l) c⟩
      | fz xs => obtain ⟨vs, a, b, c⟩ := h2; exact ⟨vs, a, b, Reps.ct Ct.cut xs vs (blws_mono (Nat.le_of_lt z) xs l) c⟩
      | md xs => obtain ⟨vs, a, b, c⟩ := h2; exact ⟨vs, a, b, Repk.ct Ct.cut xs vs (blwkv_mono (Nat.le_of_lt z) xs l) c⟩
      | gone => exact h2
    · rw [if_neg z] at e; cases e
  · rw [List.getElem?_take] at e
    by_cases z : i < n
    · rw [if_pos z] at e
      exact r.low i o e
    · rw [if_neg z] at e; cases e
theorem Ext.cut (r : SRel K H ha s) (x : Ext ha s H ha1 s1 H1) : Ext ha s H (ha1.cut s.length) (s1.take s.length) H1 := by
  refine ⟨⟨[], ?_⟩, x.bb, x.keep, fun q z => x.new q (Hv.cut z), x.dom⟩
  obtain ⟨t, et⟩ := x.pre
  show ha1.l.take s.length = _
  rw [et, ← r.len, List.append_nil, List.take_left]
end
/-- what a cut answer wishes -/
theorem cut_at {K : PySem.W.Frag} {H H' : Hp} {ha ha' : HA} {s s' s2 : S} {d d2 : D} {v : V} (e : cutD1 s.length d s' = .ok d2 s2) (r : SRel K H ha s) (r' : SRel K H' ha' s') (x : Ext ha s H ha' s' H') (g : Rep K H' (Av ha' s') ha' v d) :
    SRel K H' (ha'.cut s.length) s2 ∧ Ext ha s H (ha'.cut s.length) s2 H' ∧ Rep K H' (Av (ha'.cut s.length) s2) (ha'.cut s.length) v d2 := by
  have pl : ∀ d : D, (if d.blw s.length then R.ok d (s'.take s.length) else .bad) = .ok d2 s2 → Rep K H' (Av ha' s') ha' v d → SRel K H' (ha'.cut s.length) s2 ∧ Ext ha s H (ha'.cut s.length) s2 H' ∧ Rep K H' (Av (ha'.cut s.length) s2) (ha'.cut s.length) v d2 := fun d e g => by
    by_cases l : d.blw s.length = true
    · rw [if_pos l] at e
      injection e with e1 e2
      subst e1 e2
      exact ⟨r'.cut _, x.cut r, Rep.ct Ct.cut d v l g⟩
    · rw [if_neg l] at e; cases e
  have up : ∀ {i : Nat} {o : HObj} {xs : List D}, ¬ i < s.length → s'[i]? = some o → (o = .ml xs ∨ o = .fz xs) → Rep K H' (Av ha' s') ha' v (.hnd i) → (if blws s.length xs then R.ok (D.lst xs) (s'.take s.length) else .bad) = .ok d2 s2 →
      SRel K H' (ha'.cut s.length) s2 ∧ Ext ha s H (ha'.cut s.length) s2 H' ∧ Rep K H' (Av (ha'.cut s.length) s2) (ha'.cut s.length) v d2 := fun {i o xs} hi eo ho g e => by
    by_cases l : blws s.length xs = true
    · rw [if_pos l] at e
      cases e
      refine ⟨r'.cut _, x.cut r, ?_⟩
      cases g with
      | hnd h1 =>
        rename_i p
        obtain ⟨p', h2, h3⟩ := r'.obj i o eo
        rw [h1] at h2
        cases h2
        obtain ⟨vs, a, b, c⟩ : ∃ vs, H' p = some (.lst vs) ∧ vs.length ≤ sizeLine ∧ Reps K H' (Av ha' s') ha' vs xs := by
          rcases ho with rfl | rfl
          · exact h3
          · exact h3
        refine .lst a (fun z => ?_) b (Reps.ct Ct.cut xs vs l c)
        rcases z with z | z
        · exact r'.dis _ z (List.mem_of_getElem? h1)
        · obtain ⟨j, w, k1, k2, _⟩ := z
          have a1 : (ha'.l.take s.length)[j]? = some p := k1
          rw [List.getElem?_take] at a1
          by_cases hj : j < s.length
          · rw [if_pos hj] at a1
            have : j = i := (List.getElem?_inj (List.getElem?_eq_some_iff.mp a1).1 r'.nd).mp (a1.trans h1.symm)
            omega
          · rw [if_neg hj] at a1; cases a1
    · rw [if_neg l] at e; cases e
  cases d with
  | hnd i =>
    have e' : (if i < s.length then R.ok (D.hnd i) (s'.take s.length) else match s'[i]? with
      | some (.ml xs) => if blws s.length xs then .ok (.lst xs) (s'.take s.length) else .bad
      | some (.fz xs) => if blws s.length xs then .ok (.lst xs) (s'.take s.length) else .bad
      | _ => .bad) = .ok d2 s2 := e
    by_cases hi : i < s.length
    · rw [if_pos hi] at e'
      refine pl (.hnd i) ?_ g
      rw [if_pos (show (D.hnd i).blw s.length = true from decide_eq_true hi)]
      exact e'
    · rw [if_neg hi] at e'
      cases q : s'[i]? with
      | none => rw [q] at e'; cases e'
      | some o =>
        rw [q] at e'
        cases o with
        | ml xs => exact up hi q (.inl rfl) g e'
        | fz xs => exact up hi q (.inr rfl) g e'
        | md xs => cases e'
        | gone => cases e'
  | non => exact pl .non e g
  | bl b => exact pl (.bl b) e g
  | int b => exact pl (.int b) e g
  | str b => exact pl (.str b) e g
  | tup b => exact pl (.tup b) e g
  | lst b => exact pl (.lst b) e g
  | dic b => exact pl (.dic b) e g
  | scr b => exact pl (.scr b) e g
  | xcp c f b => exact pl (.xcp c f b) e g
theorem blwfs_one {n : Nat} {f : Str} {x : D} (h : blwfs n [(f, x)] = true) : x.blw n = true := by
  have := Bool.and_eq_true_iff.mp (show (x.blw n && blwfs n []) = true from h)
  exact this.1

/-! ### the promise -/
def spF (K : PySem.W.Frag) (mg : Str → Option Value) (m : List D → S → R D) : Sp := fun vs H Q E => ∃ ha xs s, SRel K H ha s ∧ Reps K H (Av ha s) ha vs xs ∧
  RP (m xs s) (fun d s' => ∀ v H' ha', SRel K H' ha' s' → Ext ha s H ha' s' H' → Rep K H' (Av ha' s') ha' v d → Q v H')
    fun c fs _ s' => ∀ H' ha' cls d, SRel K H' ha' s' → Ext ha s H ha' s' H' → ExR mg K H' (Av ha' s') ha' c fs cls d → E cls d H'
section
variable {X : Cx} {W : WX} {k : Nat} {f : Addr} {fd : FuncData} {ps : List Str} {x : Str} {p pos : Pos} {es : List Expr} {mas : Env → S → R (List D)} {m : List D → S → R D}
theorem RP.at {α : Type} {x : R α} {ρ : Env} {Φ : α → S → Prop} {Ψ : Str → List (Str × D) → Env → S → Prop} (h : RP (x.at ρ) Φ Ψ) : RP x Φ fun c fs _ s => Ψ c fs ρ s := by
  cases x with
  | ok a s => exact h
  | exc c fs ρ' s => exact h
  | bad => exact h
theorem callG_imp {σ : L2.St} {H : Hp} {Q : VK} (h : tM X W (fun ρ s => (mas ρ s).bind fun xs s1 => (m xs s1).at ρ) σ H Q) : tCallS (spF X.K X.mg m) (WE W) (tMA X W mas) σ H Q := by
  obtain ⟨ha, ρ, s, r, e, h⟩ := h
  refine ⟨ha, ρ, s, r, e, PtG.bind h fun xs s1 vs H1 ha1 r1 x1 g1 h1 => ?_⟩
  refine ⟨ha1, xs, s1, r1, g1, RP.mono (RP.at h1) (fun d s' q => q) fun c fs _ s' q H' ha' cls d r' x' ex => ?_⟩
  exact q H' ha' cls d r' x' ((e.ext x1 r).ext x' r1) ex
theorem RP.cut {n : Nat} {x : R D} {ρ : Env} {Φ : D → S → Prop} {Ψ : Str → List (Str × D) → Env → S → Prop} (h : RP (cutS n (x.at ρ)) Φ Ψ) :
    RP x (fun d s => ∃ d2 s2, cutD1 n d s = .ok d2 s2 ∧ Φ d2 s2) fun c fs _ s => blwfs n fs = true ∧ Ψ c fs ρ (s.take n) := by
  cases x with
  | ok d s =>
    have h : RP (cutD1 n d s) Φ Ψ := h
    show ∃ d2 s2, cutD1 n d s = .ok d2 s2 ∧ Φ d2 s2
    cases e : cutD1 n d s with
    | ok d2 s2 => rw [e] at h; exact ⟨d2, s2, rfl, h⟩
    | bad => rw [e] at h; exact h.elim
    | exc c fs ρ' s' =>
      exfalso
      cases d with
      | hnd i =>
        have e' : (if i < n then R.ok (D.hnd i) (s.take n) else match s[i]? with
          | some (.ml xs) => if blws n xs then .ok (.lst xs) (s.take n) else .bad
          | some (.fz xs) => if blws n xs then .ok (.lst xs) (s.take n) else .bad
          | _ => .bad) = .exc c fs ρ' s' := e
        split at e'
        · cases e'
        · split at e'
          · split at e' <;> cases e'
          · split at e' <;> cases e'
          · cases e'
      | _ =>
        simp only [cutD1] at e
        split at e <;> cases e
  | exc c fs ρ' s =>
    have h : RP (if blwfs n fs then R.exc c fs ρ (s.take n) else .bad) Φ Ψ := h
    by_cases l : blwfs n fs = true
    · rw [if_pos l] at h; exact ⟨l, h⟩
    · rw [if_neg l] at h; exact h.elim
  | bad => exact h
theorem callC_imp {σ : L2.St} {H : Hp} {Q : VK} (h : tM X W (fun ρ s => (mas ρ s).bind fun xs s1 => cutS s1.length ((m xs s1).at ρ)) σ H Q) : tCallS (spF X.K X.mg m) (WE W) (tMA X W mas) σ H Q := by
  obtain ⟨ha, ρ, s, r, e, h⟩ := h
  refine ⟨ha, ρ, s, r, e, PtG.bind h fun xs s1 vs H1 ha1 r1 x1 g1 h1 => ?_⟩
  refine ⟨ha1, xs, s1, r1, g1, RP.mono (RP.cut h1) (fun d s' ⟨d2, s2, ed, q⟩ v H' ha' r' x' g' => ?_) fun c fs _ s' ⟨l, q⟩ H' ha' cls d r' x' ex => ?_⟩
  · obtain ⟨a, b, c⟩ := cut_at ed r1 r' x' g'
    exact q v H' _ a b c
  · have x2 := x'.cut r1
    refine q H' (ha'.cut s1.length) cls d (r'.cut _) x2 ((e.ext x1 r).ext x2 r1) ?_
    obtain ⟨hc, hcl, ex⟩ := ex
    refine ⟨hc, hcl, ?_⟩
    rcases ex with ex | ⟨f, y, dd, v, rfl, e1, e2, na, g, nf⟩
    · exact .inl ex
    · exact .inr ⟨f, y, dd, v, rfl, e1, e2, fun z => na (Ct.cut.av _ z), Rep.ct Ct.cut y v (blwfs_one l) g, nf⟩
theorem je_callS (F : FnG X.prog X.w X.K X.mg X.base (L2.CX X.prog X.w) k f fd ps (spF X.K X.mg m)) (hr : Room k X.A) (hgd : X.A.guards = some []) (hg : Gl X x) (hm : X.mg x = some (.ref f)) (hk : PySem.W.keepIn X.K (.ref f) = true) (hb : Binds X.K fd ps []) (tk : Takes X W)
    (ha : PA X es (tMA X W mas)) (hdb : (x == ("__debug__" : Str)) = false) (he : ∀ a as, es = a :: as → starEach (a :: as) X.env = (false, eval a X.env) :: starEach as X.env ∧ (backTo pos (starEach as X.env)).any (·.1) = false)
    (hnil : es = [] → ∀ ρ s, mas ρ s = .ok [] s) :
    PE X (.Call (.Name x p) es [] pos) (tCallS (spF X.K X.mg m) (WE W) (tMA X W mas)) := by
  cases es with
  | nil =>
    refine PE.imp (pe_callG0 F hr hgd hg hm hk hb (fun σ => passAt tk σ) hdb) fun σ H Q ⟨ha, ρ, s, r, e, h⟩ => ?_
    rw [hnil rfl] at h
    exact h [] H ha r Ext.refl .nil
  | cons a as => exact pe_callG F hr hgd hg hm hk hb (fun σ => passAt tk σ) ha hdb (he a as rfl).1 (he a as rfl).2
end
end RS

set_option Elab.async false
set_option linter.all false
set_option maxRecDepth 100000
/-! dict displays -/
namespace RS
open PySem PySem.Spec L2
open PyProof.Rows hiding St
section
variable {X : Cx} {W : WX} {pos p : Pos} {j j2 : Nat}
theorem pe_cstV (c : Cst) {j : Nat} : PE X (.Constant c.con j pos) (tC c.v) := by
  cases c with
  | int k => exact pe_int
  | bl k => exact pe_bl
  | str k => exact pe_str
  | non => exact pe_non
theorem je_dic0 : PE X (.Dict [] [] pos) (tM X W fun _ s => .ok (.dic []) s) :=
  PE.imp pe_dnewK fun σ H Q ⟨ha, ρ, s, r, e, h⟩ q hq => h (.ref q) _ ha (r.new1 hq) (Ext.new1 (K := X.K) hq) (.dic (vs := []) upd_same (r.freeA hq) (Nat.zero_le _) .nil)
theorem je_dic1 (k : Str) (c : Cst) {p2 : Pos} : PE X (.Dict [some (.Constant (.str k) j p)] [.Constant c.con j2 p2] pos) (tM X W fun _ s => .ok (.dic [(.inr k, c.d)]) s) :=
  PE.imp (pe_disp (pps_cons pe_str (pe_cstV c) pps_nil) rfl rfl (by simp) (show 1 ≤ 15 by decide)) fun σ H Q ⟨ha, ρ, s, r, e, h⟩ q hq => by
    refine ⟨upd_same, [(.inr k, c.v)], rfl, show 1 ≤ 15 by decide, ?_⟩
    rw [upd_upd]
    exact h (.ref q) _ ha (r.new1 hq) (Ext.new1 (K := X.K) hq) (.dic (vs := [(.inr k, c.v)]) upd_same (r.freeA hq) (show 1 ≤ sizeLine by decide) (.cons (Cst.rep c) .nil))
end
end RS

set_option Elab.async false
set_option linter.all false
set_option maxRecDepth 100000
/-! sorted(.., reverse=True), index, extend, pop -/
namespace RS
open PySem PySem.Spec L2
open PyProof.Rows hiding St
section
variable {X : Cx} {W : WX} {a b c : Expr} {ma mb mc : Env → S → R D} {pos : Pos}
theorem cr_srtR (hu : X.A.units + 100 < cLine) (b : Bool) : CallRK X (.builtin "sorted") [Str.ofString "reverse"] (fun vs zs H Q => zs = [.bl b] ∧ srtK X b vs H Q) := by
  intro pins s σ H vs zs us ws Q I r rz h
  obtain ⟨rfl, h⟩ := h
  obtain ⟨w1, rfl, e1⟩ := vals1 rz
  obtain rfl : w1 = Value.bool b := e1
  exact cr_srtB hu b [(Str.ofString "reverse", .bool b)] (fun l => PyProof.Rows.args_sorted_rev _ _) (fun x => PyProof.Rows.args_list_sort_rev _ _) (fun ho S hL h => PySem.W.list_sort_rev_vals ho S hL h) I r h
theorem je_srr (k : Cok X) {p kp cp : Pos} {j : Nat} (hg : Gl X "sorted") (hm : X.mg "sorted" = none) (hp : plainE a = true) (ha : PE X a (tM X W ma)) :
    PE X (.Call (.Name "sorted" p) [a] [⟨some "reverse", .Constant (.bool true) j cp, kp⟩] pos) (tM X W fun ρ s => (ma ρ s).bind fun x s1 => R.of s1 (srtD true s1 x)) := by
  have hs : starEach [a] X.env = [(false, eval a X.env)] := star_plain hp
  refine PE.imp (pe_callBK (cr_srtR (by have := k.un; omega) true) hg hm (by decide +kernel) (pa_cons ha pa_nil hs) (pk_cons (pe_bl (b := true)) pk_nil) (by decide +kernel) (by decide +kernel) (by rw [hs]; rfl) (by rw [hs]; rfl) rfl rfl rfl) fun σ H Q ⟨ha, ρ, s, r, e, h⟩ => ?_
  refine ⟨ha, ρ, s, r, e, PtG.bind h fun x s1 v H1 ha1 r1 x1 g1 h1 => ?_⟩
  obtain ⟨d, e2, q⟩ := PtG.of h1
  exact ⟨rfl, c1_srt true H1 ha1 s1 v x d Q r1 g1 e2 q⟩
/-! ### index -/
theorem ixo_at {s : S} {x y d : D} (h : ixoD s x y = some d) : ∃ xs j, unh s x = .lst xs ∧ eqOk (.lst xs) = true ∧ eqOk (unh s y) = true ∧ xs.findIdx? (fun z => eqD z (unh s y)) = some j ∧ d = .int (j : Nat) := by
  unfold ixoD at h
  cases e : unh s x with
  | lst xs =>
    rw [e] at h
    have h : (if eqOk (.lst xs) && eqOk (unh s y) then (xs.findIdx? fun z => eqD z (unh s y)).map fun i => D.int (i : Nat) else none) = some d := h
    by_cases c : (eqOk (.lst xs) && eqOk (unh s y)) = true
    · rw [if_pos c] at h
      obtain ⟨c1, c2⟩ := Bool.and_eq_true_iff.mp c
      cases q : xs.findIdx? fun z => eqD z (unh s y) with
      | none => rw [q] at h; cases h
      | some j =>
        rw [q] at h
        cases h
        exact ⟨xs, j, rfl, c1, c2, q, rfl⟩
    · rw [if_neg c] at h; cases h
  | _ => rw [e] at h; cases h
theorem pys_get : ∀ (xs : List D) (j : Nat), (pys xs)[j]? = (xs[j]?).map D.py
  | [], j => by simp [pys]
  | x :: xs, 0 => rfl
  | x :: xs, j + 1 => by
    show (pys xs)[j]? = _
    rw [pys_get xs j]
    rfl
theorem je_ixo (k : Cok X) {apos : Pos} (ha : PE X a (tM X W ma)) (hb : PE X b (tM X W mb)) (hbase : attributeBase a "index" X.env (eval a X.env) = eval a X.env)
    (hfew : ((backTo pos (starEach [b] X.env)).all (fun x => !x.1) && (backToKw pos (keywordEach [] X.env)).all (fun x => x.1.isSome)
      && decide (([b] : List Expr).length + ([] : List Keyword).length + (if ([] : List Keyword).isEmpty then 0 else 1) < 30)) = true)
    (hline : (apos.endLine == pos.line) = true) (hs : starEach [b] X.env = (false, eval b X.env) :: starEach [] X.env) :
    PE X (.Call (.Attribute a "index" apos) [b] [] pos) (tM X W fun ρ s => (ma ρ s).bind fun x s1 => if (lstOf s1 x).isSome then (mb ρ s1).bind fun y s2 => R.of s2 (ixoD s2 x y) else .bad) := by
  refine PE.imp (pe_bm PySem.F.plainAttrs_list PySem.F.slot_list_index PySem.F.type_list_index (mt_indexD (by have := k.un; omega)) ha (pa_cons hb pa_nil hs) hbase hfew hline hs rfl) fun σ H Q ⟨ha, ρ, s, r, e, h⟩ => ?_
  refine ⟨ha, ρ, s, r, e, PtG.bind h fun x s1 v H1 ha1 r1 x1 g1 h1 => ?_⟩
  cases hm : lstOf s1 x with
  | none => rw [hm] at h1; exact h1.elim
  | some xs0 =>
    rw [hm, if_pos (show (some xs0).isSome = true from rfl)] at h1
    obtain ⟨p, vs, rfl, hv, _, _⟩ := lst_at r1 g1 hm
    refine ⟨.inl ⟨rfl, vs, SqL.of hv⟩, ?_⟩
    refine ⟨ha1, ρ, s1, r1, e.ext x1 r, PtG.bind h1 fun y s2 w H2 ha2 r2 x2 g2 h2 => ?_⟩
    obtain ⟨d, e2, q⟩ := PtG.of h2
    obtain ⟨xs, j, k1, k2, k3, k4, rfl⟩ := ixo_at e2
    have hdx := Rep.unh r2 (Rep.ext x2 r1 _ _ g1) (by rw [k1]; exact k2)
    rw [k1] at hdx
    have hdy := Rep.unh r2 g2 k3
    have hf := List.findIdx?_eq_some_iff_getElem.mp k4
    obtain ⟨hj, hj2, hj3⟩ := hf
    refine ⟨p, w, (unh s2 y).py, pys xs, j, xs[j].py, rfl, rfl, hdx, hdy, eqOk_shaped k2, eqOk_shaped k3, by rw [pys_get, List.getElem?_eq_getElem hj]; rfl, hj2, fun m z hm' hz => ?_, q _ _ _ r2 Ext.refl (.int _)⟩
    rw [pys_get] at hz
    have hml : m < xs.length := by omega
    rw [List.getElem?_eq_getElem hml] at hz
    cases hz
    have := hj3 m hm'
    show eqD xs[m] (unh s2 y) = false
    simpa using this
/-! ### extend, pop -/
theorem ml_of {x : D} {s : S} (h : isML x s = true) : ∃ i ys, x = .hnd i ∧ s[i]? = some (.ml ys) := by
  cases x with
  | hnd i =>
    have hm : (match s[i]? with | some (.ml _) => true | _ => false) = true := h
    cases e : s[i]? with
    | none => rw [e] at hm; cases hm
    | some o =>
      rw [e] at hm
      cases o with
      | ml ys => exact ⟨i, ys, rfl, e⟩
      | _ => cases hm
  | _ => cases h
theorem ext_cases (i : Nat) (y : D) (s : S) : extD (.hnd i) y s = .bad ∨ ∃ xs ys, s[i]? = some (.ml xs) ∧ lstOf s y = some ys ∧ xs.length + ys.length ≤ CAP ∧ blws i ys = true ∧ extD (.hnd i) y s = .ok .non (s.set i (.ml (xs ++ ys))) := by
  have f : extD (.hnd i) y s = (match s[i]? with
    | some (.ml xs) => match lstOf s y with
      | some ys => if xs.length + ys.length ≤ CAP && blws i ys then R.ok D.non (s.set i (.ml (xs ++ ys))) else .bad
      | none => .bad
    | _ => .bad) := rfl
  rw [f]
  generalize hs : s[i]? = o
  cases o with
  | none => exact .inl rfl
  | some o =>
    cases o with
    | ml xs =>
      dsimp only
      generalize hy : lstOf s y = o2
      cases o2 with
      | none => exact .inl rfl
      | some ys =>
        dsimp only
        by_cases c : (decide (xs.length + ys.length ≤ CAP) && blws i ys) = true
        · obtain ⟨c1, c2⟩ := Bool.and_eq_true_iff.mp c
          exact .inr ⟨xs, ys, rfl, rfl, of_decide_eq_true c1, c2, if_pos c⟩
        · exact .inl (if_neg c)
    | _ => exact .inl rfl
theorem je_ext {apos : Pos} (ha : PE X a (tM X W ma)) (hb : PE X b (tM X W mb)) (hbase : attributeBase a "extend" X.env (eval a X.env) = eval a X.env)
    (hfew : ((backTo pos (starEach [b] X.env)).all (fun x => !x.1) && (backToKw pos (keywordEach [] X.env)).all (fun x => x.1.isSome)
      && decide (([b] : List Expr).length + ([] : List Keyword).length + (if ([] : List Keyword).isEmpty then 0 else 1) < 30)) = true)
    (hline : (apos.endLine == pos.line) = true) (hs : starEach [b] X.env = (false, eval b X.env) :: starEach [] X.env) :
    PE X (.Call (.Attribute a "extend" apos) [b] [] pos) (tM X W fun ρ s => (ma ρ s).bind fun x s1 => if isML x s1 then (mb ρ s1).bind fun y s2 => extD x y s2 else .bad) := by
  refine PE.imp (pe_bm PySem.F.plainAttrs_list PySem.F.slot_list_extend PySem.F.type_list_extend mt_extend ha (pa_cons hb pa_nil hs) hbase hfew hline hs rfl) fun σ H Q ⟨ha, ρ, s, r, e, h⟩ => ?_
  refine ⟨ha, ρ, s, r, e, PtG.bind h fun x s1 v H1 ha1 r1 x1 g1 h1 => ?_⟩
  by_cases hm : isML x s1 = true
  · rw [if_pos hm] at h1
    obtain ⟨i, ys0, rfl, hi⟩ := ml_of hm
    obtain ⟨p, vs, rfl, hp, hv, _, _⟩ := ml_at r1 g1 hi
    refine ⟨.inl ⟨rfl, vs, SqL.of hv⟩, ?_⟩
    refine ⟨ha1, ρ, s1, r1, e.ext x1 r, PtG.bind h1 fun y s2 w H2 ha2 r2 x2 g2 h2 => ?_⟩
    rcases ext_cases i y s2 with hd | ⟨xs, ys, e2, e3, e4, e5, hd⟩
    · rw [hd] at h2; exact h2.elim
    · rw [hd] at h2
      obtain ⟨p', us, e6, hp', hu, hz, gu⟩ := ml_at r2 (Rep.ext x2 r1 _ _ g1) e2
      cases e6
      obtain ⟨p2, ws, rfl, hw, hz2, gw⟩ := lst_at r2 g2 e3
      have hl : us.length + ws.length ≤ sizeLine := by rw [gu.length, gw.length]; exact cap_line e4
      refine ⟨_, p2, us, ws, rfl, rfl, hu, hw, hl, ?_⟩
      have xx : Ext ha2 s2 H2 ha2 (s2.set i (.ml (xs ++ ys))) (upd H2 p (.lst (us ++ ws))) := Ext.upd hp' e2 rfl
      have rr := SRel.upd (K := X.K) (u := .lst (us ++ ws)) (o' := .ml (xs ++ ys)) r2 hp' e2 rfl (by
        show blws i (xs ++ ys) = true
        rw [blws_append, show blws i xs = true from r2.low i _ e2, e5]
        rfl) ⟨us ++ ws, upd_same, by rw [List.length_append]; exact hl, Reps.ext xx r2 _ _ (gu.append gw)⟩
      exact h2 .non _ ha2 rr xx .non
  · rw [if_neg hm] at h1; exact h1.elim
theorem reps_dropLast {K : PySem.W.Frag} {H : Hp} {A : Addr → Prop} {ha : HA} : ∀ {vs : List V} {xs : List D}, Reps K H A ha vs xs → Reps K H A ha vs.dropLast xs.dropLast
  | _, _, .nil => .nil
  | _, _, .cons _ .nil => .nil
  | _, _, .cons h (.cons h2 t) => .cons h (reps_dropLast (.cons h2 t))
theorem reps_erase {K : PySem.W.Frag} {H : Hp} {A : Addr → Prop} {ha : HA} : ∀ {vs : List V} {xs : List D} (j : Nat), Reps K H A ha vs xs → Reps K H A ha (vs.eraseIdx j) (xs.eraseIdx j)
  | _, _, _, .nil => .nil
  | _, _, 0, .cons _ t => t
  | _, _, j + 1, .cons h t => .cons h (reps_erase j t)
theorem blws_dropLast {n : Nat} : ∀ xs : List D, blws n xs = true → blws n xs.dropLast = true
  | [], _ => rfl
  | [_], _ => rfl
  | x :: y :: xs, h => by
    have h := Bool.and_eq_true_iff.mp (show (x.blw n && blws n (y :: xs)) = true from h)
    exact Bool.and_eq_true_iff.mpr ⟨h.1, blws_dropLast (y :: xs) h.2⟩
theorem blws_erase {n : Nat} : ∀ (xs : List D) (j : Nat), blws n xs = true → blws n (xs.eraseIdx j) = true
  | [], _, _ => rfl
  | x :: xs, 0, h => (Bool.and_eq_true_iff.mp (show (x.blw n && blws n xs) = true from h)).2
  | x :: xs, j + 1, h => by
    have h := Bool.and_eq_true_iff.mp (show (x.blw n && blws n xs) = true from h)
    exact Bool.and_eq_true_iff.mpr ⟨h.1, blws_erase xs j h.2⟩
theorem pop0_cases (i : Nat) (s : S) : pop0D (.hnd i) s = .bad ∨ ∃ xs d, s[i]? = some (.ml xs) ∧ xs[xs.length - 1]? = some d ∧ pop0D (.hnd i) s = .ok d (s.set i (.ml xs.dropLast)) := by
  have f : pop0D (.hnd i) s = (match s[i]? with
    | some (.ml xs) => match xs[xs.length - 1]? with
      | some d => R.ok d (s.set i (.ml xs.dropLast))
      | none => .bad
    | _ => .bad) := rfl
  rw [f]
  generalize hs : s[i]? = o
  cases o with
  | none => exact .inl rfl
  | some o =>
    cases o with
    | ml xs =>
      dsimp only
      cases e2 : xs[xs.length - 1]? with
      | none => exact .inl rfl
      | some d => exact .inr ⟨xs, d, rfl, e2, rfl⟩
    | _ => exact .inl rfl
theorem je_pop0 {apos : Pos} (ha : PE X a (tM X W ma)) (hbase : attributeBase a "pop" X.env (eval a X.env) = eval a X.env) (hline : (apos.endLine == pos.line) = true) :
    PE X (.Call (.Attribute a "pop" apos) [] [] pos) (tM X W fun ρ s => (ma ρ s).bind fun x s1 => if isML x s1 then pop0D x s1 else .bad) := by
  refine PE.imp (pe_bm0 PySem.F.plainAttrs_list PySem.F.slot_list_pop PySem.F.type_list_pop mt_pop ha hbase hline) fun σ H Q ⟨ha, ρ, s, r, e, h⟩ => ?_
  refine ⟨ha, ρ, s, r, e, PtG.bind h fun x s1 v H1 ha1 r1 x1 g1 h1 => ?_⟩
  by_cases hm : isML x s1 = true
  · rw [if_pos hm] at h1
    obtain ⟨i, ys0, rfl, hi⟩ := ml_of hm
    obtain ⟨p, vs, rfl, hp, hv, hz, gv⟩ := ml_at r1 g1 hi
    refine ⟨.inl ⟨rfl, vs, SqL.of hv⟩, ?_⟩
    rcases pop0_cases i s1 with hd | ⟨xs, d, e2, e3, hd⟩
    · rw [hd] at h1; exact h1.elim
    · rw [hd] at h1
      rw [hi] at e2
      cases e2
      obtain ⟨w, hw, gw⟩ := gv.get e3
      have xx : Ext ha1 s1 H1 ha1 (s1.set i (.ml ys0.dropLast)) (upd H1 p (.lst vs.dropLast)) := Ext.upd hp hi rfl
      have rr := SRel.upd (K := X.K) (u := .lst vs.dropLast) (o' := .ml ys0.dropLast) r1 hp hi rfl (blws_dropLast _ (r1.low i _ hi)) ⟨vs.dropLast, upd_same, by rw [List.length_dropLast]; omega, Reps.ext xx r1 _ _ (reps_dropLast gv)⟩
      exact ⟨_, vs, w, rfl, rfl, hv, by rw [gv.length]; exact hw, h1 w _ ha1 rr xx (Rep.ext xx r1 _ _ gw)⟩
  · rw [if_neg hm] at h1; exact h1.elim
theorem pop1_cases (i : Nat) (y : D) (s : S) : pop1D (.hnd i) y s = .bad ∨ ∃ k xs j d, y = .int k ∧ s[i]? = some (.ml xs) ∧ ixN xs.length k = some j ∧ xs[j]? = some d ∧ xs.length ≤ CAP ∧ pop1D (.hnd i) y s = .ok d (s.set i (.ml (xs.eraseIdx j))) := by
  cases y with
  | int k =>
    have f : pop1D (.hnd i) (.int k) s = (match s[i]? with
      | some (.ml xs) => match ixN xs.length k with
        | some j => match xs[j]? with
          | some d => if xs.length ≤ CAP then R.ok d (s.set i (.ml (xs.eraseIdx j))) else .bad
          | none => .bad
        | none => .bad
      | _ => .bad) := rfl
    rw [f]
    generalize hs : s[i]? = o
    cases o with
    | none => exact .inl rfl
    | some o =>
      cases o with
      | ml xs =>
        dsimp only
        cases e2 : ixN xs.length k with
        | none => exact .inl rfl
        | some j =>
          dsimp only
          cases e3 : xs[j]? with
          | none => exact .inl rfl
          | some d =>
            dsimp only
            by_cases c : xs.length ≤ CAP
            · exact .inr ⟨k, xs, j, d, rfl, rfl, e2, e3, c, if_pos c⟩
            · exact .inl (if_neg c)
      | _ => exact .inl rfl
  | _ => exact .inl rfl
theorem je_pop1 {apos : Pos} (ha : PE X a (tM X W ma)) (hb : PE X b (tM X W mb)) (hbase : attributeBase a "pop" X.env (eval a X.env) = eval a X.env)
    (hfew : ((backTo pos (starEach [b] X.env)).all (fun x => !x.1) && (backToKw pos (keywordEach [] X.env)).all (fun x => x.1.isSome)
      && decide (([b] : List Expr).length + ([] : List Keyword).length + (if ([] : List Keyword).isEmpty then 0 else 1) < 30)) = true)
    (hline : (apos.endLine == pos.line) = true) (hs : starEach [b] X.env = (false, eval b X.env) :: starEach [] X.env) :
    PE X (.Call (.Attribute a "pop" apos) [b] [] pos) (tM X W fun ρ s => (ma ρ s).bind fun x s1 => if isML x s1 then (mb ρ s1).bind fun y s2 => pop1D x y s2 else .bad) := by
  refine PE.imp (pe_bm PySem.F.plainAttrs_list PySem.F.slot_list_pop PySem.F.type_list_pop mt_popAt ha (pa_cons hb pa_nil hs) hbase hfew hline hs rfl) fun σ H Q ⟨ha, ρ, s, r, e, h⟩ => ?_
  refine ⟨ha, ρ, s, r, e, PtG.bind h fun x s1 v H1 ha1 r1 x1 g1 h1 => ?_⟩
  by_cases hm : isML x s1 = true
  · rw [if_pos hm] at h1
    obtain ⟨i, ys0, rfl, hi⟩ := ml_of hm
    obtain ⟨p, vs, rfl, hp, hv, _, _⟩ := ml_at r1 g1 hi
    refine ⟨.inl ⟨rfl, vs, SqL.of hv⟩, ?_⟩
    refine ⟨ha1, ρ, s1, r1, e.ext x1 r, PtG.bind h1 fun y s2 w H2 ha2 r2 x2 g2 h2 => ?_⟩
    rcases pop1_cases i y s2 with hd | ⟨k, xs, j, d, rfl, e2, e3, e4, e5, hd⟩
    · rw [hd] at h2; exact h2.elim
    · rw [hd] at h2
      obtain ⟨p', us, e6, hp', hu, hz, gu⟩ := ml_at r2 (Rep.ext x2 r1 _ _ g1) e2
      cases e6
      cases g2
      obtain ⟨q1, q2, q3, q4⟩ := ixN_seq e3
      obtain ⟨w, hw, gw⟩ := gu.get e4
      have cl : (xs.length : Int) ≤ 1000000 := by have : xs.length ≤ 1000000 := e5; omega
      have xx : Ext ha2 s2 H2 ha2 (s2.set i (.ml (xs.eraseIdx j))) (upd H2 p (.lst (us.eraseIdx j))) := Ext.upd hp' e2 rfl
      have rr := SRel.upd (K := X.K) (u := .lst (us.eraseIdx j)) (o' := .ml (xs.eraseIdx j)) r2 hp' e2 rfl (blws_erase _ _ (r2.low i _ e2)) ⟨us.eraseIdx j, upd_same, by have := len_erase us j; omega, Reps.ext xx r2 _ _ (reps_erase j gu)⟩
      exact ⟨_, us, k, j, w, rfl, rfl, hu, by omega, by omega, by rw [gu.length]; exact q1, hw, h2 w _ ha2 rr xx (Rep.ext xx r2 _ _ gw)⟩
  · rw [if_neg hm] at h1; exact h1.elim
end
section
variable {X : Cx}
def rRemD (K : PySem.W.Frag) : V → List V → Hp → VK → Prop := fun x xs H Q => ∃ (a : Addr) (y : V) (d : PyData) (vs : List V) (ds : List PyData) (j : Nat) (z : PyData), x = V.ref a ∧ xs = [y] ∧ H a = some (.lst vs) ∧ DpAll K H vs ds ∧ Dp K H y d ∧
  SeqAt.shaped (.list ds) = true ∧ SeqAt.shaped d = true ∧ ds[j]? = some z ∧ PyData.eqv z d = true ∧ (∀ (m : Nat) (z' : PyData), m < j → ds[m]? = some z' → PyData.eqv z' d = false) ∧ Q .non (upd H a (.lst (vs.eraseIdx j)))
theorem mt_removeD (hu : X.A.units + 65 < cLine) : MtM X "list.remove" (rRemD X.K) := by
  intro pins s σ H x xs v us Q I rx rxs h
  obtain ⟨a, y, d, vs, ds, j, z, rfl, rfl, hH, ha, hy, sl, sd, hz, hzj, hno, q⟩ := h
  cases rx
  cases rxs with
  | cons ry rt =>
    rename_i uy ut
    cases rt
    obtain ⟨bs, r1⟩ := Dp.reads I d y uy hy ry
    have hxs : PyData.canLayAll0 ds = true := SeqAt.canLay_of_shaped sl
    have hroom : X.A.units + 1 + min (PyData.depthAll ds) d.depth < cLine := room_in_shaped sd hu
    obtain ⟨zl, its, n, rv, hl, e⟩ := I.lstM hH
    obtain ⟨as, h4⟩ := Dp.readsAll I ds _ its ha rv
    have hn : its.length = ds.length := SeqAt.ReadsAll.length ds its as h4
    have hmap : its.map (SeqAt.readOf s.heap) = ds := SeqAt.readsAll_map ds its as hxs h4
    have hvl := rv.length
    obtain ⟨hjd, _⟩ := List.getElem?_eq_some_iff.mp hz
    have hjl : j < its.length := by omega
    have hj : j < its.toArray.size := by simpa using hjl
    have at_ : ∀ (m : Nat) (hm : m < its.toArray.size) (z' : PyData), ds[m]? = some z' → SeqAt.readOf s.heap its.toArray[m] = z' := by
      intro m hm z' hz'
      have hml : m < its.length := by simpa using hm
      rw [← hmap, List.getElem?_map, List.getElem?_eq_getElem hml] at hz'
      have e1 : SeqAt.readOf s.heap its[m] = z' := Option.some.inj (show some (SeqAt.readOf s.heap its[m]) = some z' from hz')
      simpa using e1
    refine call_meets PySem.F.slot_list_remove ⟨_, e, rfl⟩ PySem.F.entry_list_remove (PySem.F.args_list_remove_2 _ _)
      (SeqAt.list_removeAt a its.toArray n _ _ uy (fun u => PyData.eqv (SeqAt.readOf s.heap u) d) j hj ?_ ?_ (by rw [List.size_toArray]; omega)) ⟨e, SeqAt.items_eqAt (vs := its.toArray) (show ReadsAll s.heap its.toArray.toList ds as from h4) r1 hxs (SeqAt.canLay_of_shaped sd) hroom, ?_⟩
    · show PyData.eqv (SeqAt.readOf s.heap its.toArray[j]) d = true
      rw [at_ j hj z hz]
      exact hzj
    · intro m hm hmj
      have hmd : m < ds.length := by omega
      have hz' : ds[m]? = some ds[m] := List.getElem?_eq_getElem hmd
      show PyData.eqv (SeqAt.readOf s.heap its.toArray[m]) d = false
      rw [at_ m hm _ hz']
      exact hno m _ hmj hz'
    · have rr := rv.eraseIdx j
      refine ⟨.non, _, I.lset (its' := its.eraseIdx j) (t' := s.toks) hH e ?_ rr ?_, rfl, q⟩
      · show its.toArray.eraseIdxIfInBounds j = (its.eraseIdx j).toArray
        rw [List.eraseIdxIfInBounds_toArray]
      · have z2 := len_erase vs j
        omega
variable {W : WX} {a b : Expr} {ma mb : Env → S → R D} {pos : Pos}
theorem rmv_cases (i : Nat) (y : D) (s : S) : rmvD (.hnd i) y s = .bad ∨ ∃ xs j, s[i]? = some (.ml xs) ∧ eqOk (.lst xs) = true ∧ eqOk (unh s y) = true ∧ xs.findIdx? (fun z => eqD z (unh s y)) = some j ∧ rmvD (.hnd i) y s = .ok .non (s.set i (.ml (xs.eraseIdx j))) := by
  have f : rmvD (.hnd i) y s = (match s[i]? with
    | some (.ml xs) => if eqOk (.lst xs) && eqOk (unh s y) then (match xs.findIdx? fun z => eqD z (unh s y) with
      | some j => R.ok D.non (s.set i (.ml (xs.eraseIdx j)))
      | none => .bad) else .bad
    | _ => .bad) := rfl
  rw [f]
  generalize hs : s[i]? = o
  cases o with
  | none => exact .inl rfl
  | some o =>
    cases o with
    | ml xs =>
      dsimp only
      by_cases c : (eqOk (.lst xs) && eqOk (unh s y)) = true
      · obtain ⟨c1, c2⟩ := Bool.and_eq_true_iff.mp c
        rw [if_pos c]
        cases e2 : xs.findIdx? fun z => eqD z (unh s y) with
        | none => exact .inl rfl
        | some j => exact .inr ⟨xs, j, rfl, c1, c2, e2, rfl⟩
      · exact .inl (if_neg c)
    | _ => exact .inl rfl
theorem je_rmv (k : Cok X) {apos : Pos} (ha : PE X a (tM X W ma)) (hb : PE X b (tM X W mb)) (hbase : attributeBase a "remove" X.env (eval a X.env) = eval a X.env)
    (hfew : ((backTo pos (starEach [b] X.env)).all (fun x => !x.1) && (backToKw pos (keywordEach [] X.env)).all (fun x => x.1.isSome)
      && decide (([b] : List Expr).length + ([] : List Keyword).length + (if ([] : List Keyword).isEmpty then 0 else 1) < 30)) = true)
    (hline : (apos.endLine == pos.line) = true) (hs : starEach [b] X.env = (false, eval b X.env) :: starEach [] X.env) :
    PE X (.Call (.Attribute a "remove" apos) [b] [] pos) (tM X W fun ρ s => (ma ρ s).bind fun x s1 => if isML x s1 then (mb ρ s1).bind fun y s2 => rmvD x y s2 else .bad) := by
  refine PE.imp (pe_bm PySem.F.plainAttrs_list PySem.F.slot_list_remove PySem.F.type_list_remove (mt_removeD (by have := k.un; omega)) ha (pa_cons hb pa_nil hs) hbase hfew hline hs rfl) fun σ H Q ⟨ha, ρ, s, r, e, h⟩ => ?_
  refine ⟨ha, ρ, s, r, e, PtG.bind h fun x s1 v H1 ha1 r1 x1 g1 h1 => ?_⟩
  by_cases hm : isML x s1 = true
  · rw [if_pos hm] at h1
    obtain ⟨i, ys0, rfl, hi⟩ := ml_of hm
    obtain ⟨p, vs, rfl, hp, hv, _, _⟩ := ml_at r1 g1 hi
    refine ⟨.inl ⟨rfl, vs, SqL.of hv⟩, ?_⟩
    refine ⟨ha1, ρ, s1, r1, e.ext x1 r, PtG.bind h1 fun y s2 w H2 ha2 r2 x2 g2 h2 => ?_⟩
    rcases rmv_cases i y s2 with hd | ⟨xs, j, e2, e3, e4, e5, hd⟩
    · rw [hd] at h2; exact h2.elim
    · rw [hd] at h2
      obtain ⟨p', us, e6, hp', hu, hz, gu⟩ := ml_at r2 (Rep.ext x2 r1 _ _ g1) e2
      cases e6
      have fx : flts xs = true := (Bool.and_eq_true_iff.mp e3).1
      have hdx := Reps.dp xs us gu fx
      have hdy := Rep.unh r2 g2 e4
      obtain ⟨hj, hj2, hj3⟩ := List.findIdx?_eq_some_iff_getElem.mp e5
      have xx : Ext ha2 s2 H2 ha2 (s2.set i (.ml (xs.eraseIdx j))) (upd H2 p (.lst (us.eraseIdx j))) := Ext.upd hp' e2 rfl
      have rr := SRel.upd (K := X.K) (u := .lst (us.eraseIdx j)) (o' := .ml (xs.eraseIdx j)) r2 hp' e2 rfl (blws_erase _ _ (r2.low i _ e2)) ⟨us.eraseIdx j, upd_same, by have := len_erase us j; omega, Reps.ext xx r2 _ _ (reps_erase j gu)⟩
      refine ⟨_, w, (unh s2 y).py, us, pys xs, j, xs[j].py, rfl, rfl, hu, hdx, hdy, eqOk_shaped e3, eqOk_shaped e4, by rw [pys_get, List.getElem?_eq_getElem hj]; rfl, hj2, fun m z hm' hz => ?_, h2 .non _ ha2 rr xx .non⟩
      rw [pys_get] at hz
      have hml : m < xs.length := by omega
      rw [List.getElem?_eq_getElem hml] at hz
      cases hz
      have := hj3 m hm'
      show eqD xs[m] (unh s2 y) = false
      simpa using this
  · rw [if_neg hm] at h1; exact h1.elim
end
end RS

set_option Elab.async false
set_option linter.all false
set_option maxRecDepth 100000
/-! tuple(range(..)), list(range(..)), sorted(set(..)), len(set(..)) -/
namespace RS
open PySem PySem.Spec L2
open PyProof.Rows hiding St
theorem eDup_mem {x : Int} : ∀ {xs : List Int}, x ∈ eDup xs ↔ x ∈ xs
  | [] => Iff.rfl
  | y :: ys => by
    unfold eDup
    have ih := eDup_mem (x := x) (xs := ys)
    split
    · rename_i h
      rw [ih]
      refine ⟨fun m => List.mem_cons_of_mem _ m, fun m => ?_⟩
      rcases List.mem_cons.mp m with rfl | m
      · exact h
      · exact m
    · rw [List.mem_cons, List.mem_cons, ih]
theorem eDup_nodup : ∀ xs : List Int, (eDup xs).Nodup
  | [] => List.nodup_nil
  | y :: ys => by
    unfold eDup
    split
    · exact eDup_nodup ys
    · rename_i h
      exact List.nodup_cons.mpr ⟨fun m => h (eDup_mem.mp m), eDup_nodup ys⟩
theorem eDup_len : ∀ xs : List Int, (eDup xs).length ≤ xs.length
  | [] => Nat.le_refl _
  | y :: ys => by
    have := eDup_len ys
    unfold eDup
    split
    · simp; omega
    · simp; omega
theorem sD_mem {x : Int} {xs : List Int} : x ∈ sD xs ↔ x ∈ xs := by
  rw [← eDup_mem (xs := xs)]
  exact (List.mergeSort_perm ..).mem_iff
theorem sD_pw (xs : List Int) : (sD xs).Pairwise (· < ·) := by
  have h1 := List.pairwise_mergeSort (le := leZ) (fun a b c h k => decide_eq_true (Int.le_trans (of_decide_eq_true h) (of_decide_eq_true k))) (fun a b => by
    unfold leZ
    rw [← Bool.decide_or]
    exact decide_eq_true (Int.le_total a b)) (eDup xs)
  have h2 : (sD xs).Nodup := (List.mergeSort_perm ..).nodup_iff.mpr (eDup_nodup xs)
  refine (h1.and h2).imp fun h => ?_
  have := of_decide_eq_true h.1
  have := h.2
  omega
theorem lt_uniq {xs ys : List Int} (h : xs.Pairwise (· < ·)) (k : ys.Pairwise (· < ·)) (e : ∀ z, z ∈ xs ↔ z ∈ ys) : xs = ys := by
  refine List.Perm.eq_of_pairwise (le := fun a b : Int => a < b) (fun a b _ _ h k => by omega) h k ?_
  exact (List.perm_ext_iff_of_nodup (h.imp fun h => by omega) (k.imp fun h => by omega)).mpr e
section
variable {X : Cx} {W : WX} {a b c : Expr} {ma mb mc : Env → S → R D} {pos : Pos}
theorem reps_rg {K : PySem.W.Frag} {H : Hp} {A : Addr → Prop} {ha : HA} (f : Nat → Int) : ∀ l : List Nat, Reps K H A ha (l.map fun i => V.int (f i)) (l.map fun i => D.int (f i))
  | [] => .nil
  | _ :: l => .cons (.int _) (reps_rg f l)
theorem reps_ints {K : PySem.W.Frag} {H : Hp} {A : Addr → Prop} {ha : HA} : ∀ l : List Int, Reps K H A ha (l.map V.int) (l.map D.int)
  | [] => .nil
  | _ :: l => .cons (.int _) (reps_ints l)
theorem je_rg1 (k : Cok X) (kc : Cold X) (t : Bool) {p p2 pos2 : Pos} (hg : Gl X (if t then "tuple" else "list")) (hm : X.mg (if t then "tuple" else "list") = none) (hg2 : Gl X "range") (hm2 : X.mg "range" = none) (hp : plainE a = true) (ha : PE X a (tM X W ma)) :
    PE X (.Call (.Name (if t then "tuple" else "list") p) [.Call (.Name "range" p2) [a] [] pos2] [] pos) (tM X W fun ρ s => (ma ρ s).bind fun x s1 => R.of s1 (rg1D t x)) := by
  have hs : starEach [a] X.env = (false, eval a X.env) :: starEach [] X.env := star_plain hp
  have hr := prg_1 (pos := pos2) (p := p2) hg2 hm2 ha hs
  have key : ∀ {x d : D}, rg1D t x = some d → ∃ j : Int, x = .int j ∧ (j ≤ CAP ∧ -CAP ≤ j) ∧ d = mkS t (rangeD 0 j) := fun {x d} e => by
    cases x with
    | int j =>
      have e : (if j ≤ CAP ∧ -CAP ≤ j then some (rangeD 0 j) else none).map (mkS t) = some d := e
      by_cases h : j ≤ CAP ∧ -CAP ≤ j
      · rw [if_pos h] at e; cases e; exact ⟨j, rfl, h, rfl⟩
      · rw [if_neg h] at e; cases e
    | _ => cases e
  have rg : ∀ {j : Int}, (j ≤ CAP ∧ -CAP ≤ j) → RgOk 0 j := fun {j} h => by
    have h1 : j ≤ 1000000 := h.1
    have h2 : -1000000 ≤ j := h.2
    exact ⟨by decide, by decide, by omega, by omega, by omega⟩
  have ln : ∀ {j : Int}, (j ≤ CAP ∧ -CAP ≤ j) → (rgV 0 j).length ≤ sizeLine := fun {j} h => by
    have h1 : j ≤ 1000000 := h.1
    unfold rgV
    rw [List.length_map, List.length_range]
    exact cap_line (by show _ ≤ 1000000; omega)
  cases t with
  | true =>
    refine PE.imp (pe_tupRg kc.calm hg hm hr (by rfl)) fun σ H Q ⟨ha, ρ, s, r, e, h⟩ => ?_
    refine ⟨ha, ρ, s, r, e, PtG.bind h fun x s1 v H1 ha1 r1 x1 g1 h1 => ?_⟩
    obtain ⟨d, e2, q⟩ := PtG.of h1
    obtain ⟨j, rfl, hj, rfl⟩ := key e2
    cases g1
    exact ⟨j, rfl, rg hj, fun z hz => q _ _ _ (r1.new1 hz) (Ext.new1 (K := X.K) hz) (rep_newT r1 hz (ln hj) (reps_rg _ _))⟩
  | false =>
    refine PE.imp (pe_listRg kc.calm hg hm hr (by rfl)) fun σ H Q ⟨ha, ρ, s, r, e, h⟩ => ?_
    refine ⟨ha, ρ, s, r, e, PtG.bind h fun x s1 v H1 ha1 r1 x1 g1 h1 => ?_⟩
    obtain ⟨d, e2, q⟩ := PtG.of h1
    obtain ⟨j, rfl, hj, rfl⟩ := key e2
    cases g1
    exact ⟨j, rfl, rg hj, fun z hz => q _ _ _ (r1.new1 hz) (Ext.new1 (K := X.K) hz) (rep_newL r1 hz (ln hj) (reps_rg _ _))⟩
theorem je_rg2 (k : Cok X) (kc : Cold X) (t : Bool) {p p2 pos2 : Pos} (hg : Gl X (if t then "tuple" else "list")) (hm : X.mg (if t then "tuple" else "list") = none) (hg2 : Gl X "range") (hm2 : X.mg "range" = none) (hp : plainE a = true) (hp2 : plainE b = true) (ha : PE X a (tM X W ma)) (hb : PE X b (tM X W mb)) :
    PE X (.Call (.Name (if t then "tuple" else "list") p) [.Call (.Name "range" p2) [a, b] [] pos2] [] pos) (tM X W fun ρ s => (ma ρ s).bind fun x s1 => (mb ρ s1).bind fun y s2 => R.of s2 (rg2D t x y)) := by
  have hs2 : starEach [b] X.env = (false, eval b X.env) :: starEach [] X.env := star_plain hp2
  have hs : starEach [a, b] X.env = (false, eval a X.env) :: starEach [b] X.env := star_plain hp
  have hr := prg_2 (pos := pos2) (p := p2) hg2 hm2 ha hb hs hs2 (by rw [hs2]; rfl)
  have key : ∀ {x y d : D}, rg2D t x y = some d → ∃ i j : Int, x = .int i ∧ y = .int j ∧ ((j ≤ CAP ∧ -CAP ≤ j) ∧ i ≤ CAP ∧ -CAP ≤ i) ∧ (rangeD i j).length ≤ CAP ∧ d = mkS t (rangeD i j) := fun {x y d} e => by
    cases x with
    | int i =>
      cases y with
      | int j =>
        have e : (if (j ≤ CAP ∧ -CAP ≤ j) ∧ i ≤ CAP ∧ -CAP ≤ i then some (rangeD i j) else none).bind (fun xs => if xs.length ≤ CAP then some (mkS t xs) else none) = some d := e
        by_cases h : (j ≤ CAP ∧ -CAP ≤ j) ∧ i ≤ CAP ∧ -CAP ≤ i
        · rw [if_pos h] at e
          have e : (if (rangeD i j).length ≤ CAP then some (mkS t (rangeD i j)) else none) = some d := e
          by_cases h' : (rangeD i j).length ≤ CAP
          · rw [if_pos h'] at e; cases e; exact ⟨i, j, rfl, rfl, h, h', rfl⟩
          · rw [if_neg h'] at e; cases e
        · rw [if_neg h] at e; cases e
      | _ => cases e
    | _ => cases e
  have rg : ∀ {i j : Int}, ((j ≤ CAP ∧ -CAP ≤ j) ∧ i ≤ CAP ∧ -CAP ≤ i) → RgOk i j := fun {i j} ⟨⟨h1, h2⟩, h3, h4⟩ => by
    have h1 : j ≤ 1000000 := h1
    have h2 : -1000000 ≤ j := h2
    have h3 : i ≤ 1000000 := h3
    have h4 : -1000000 ≤ i := h4
    exact ⟨by omega, by omega, by omega, by omega, by omega⟩
  have ln : ∀ {i j : Int}, (rangeD i j).length ≤ CAP → (rgV i j).length ≤ sizeLine := fun {i j} h => by
    unfold rgV
    unfold rangeD at h
    rw [List.length_map] at h ⊢
    exact cap_line h
  cases t with
  | true =>
    refine PE.imp (pe_tupRg kc.calm hg hm hr (by rfl)) fun σ H Q ⟨ha, ρ, s, r0, e0, h⟩ => ?_
    refine ⟨ha, ρ, s, r0, e0, PtG.bind h fun x s1 v H1 ha1 r1 x1 g1 h1 => ?_⟩
    refine ⟨ha1, ρ, s1, r1, e0.ext x1 r0, PtG.bind h1 fun y s2 u H2 ha2 r2 x2 g2 h3 => ?_⟩
    obtain ⟨d, e2, q⟩ := PtG.of h3
    obtain ⟨i, j, rfl, rfl, hj, hl, rfl⟩ := key e2
    cases g1
    cases g2
    exact ⟨i, j, rfl, rfl, rg hj, fun z hz => q _ _ _ (r2.new1 hz) (Ext.new1 (K := X.K) hz) (rep_newT r2 hz (ln hl) (reps_rg _ _))⟩
  | false =>
    refine PE.imp (pe_listRg kc.calm hg hm hr (by rfl)) fun σ H Q ⟨ha, ρ, s, r0, e0, h⟩ => ?_
    refine ⟨ha, ρ, s, r0, e0, PtG.bind h fun x s1 v H1 ha1 r1 x1 g1 h1 => ?_⟩
    refine ⟨ha1, ρ, s1, r1, e0.ext x1 r0, PtG.bind h1 fun y s2 u H2 ha2 r2 x2 g2 h3 => ?_⟩
    obtain ⟨d, e2, q⟩ := PtG.of h3
    obtain ⟨i, j, rfl, rfl, hj, hl, rfl⟩ := key e2
    cases g1
    cases g2
    exact ⟨i, j, rfl, rfl, rg hj, fun z hz => q _ _ _ (r2.new1 hz) (Ext.new1 (K := X.K) hz) (rep_newL r2 hz (ln hl) (reps_rg _ _))⟩
end
/-! ### set(l) of a list of ints: its own walk -/
section
variable {P : Program} {w : World} {A : Around} {E : Value → Shared → Prop} {s : Shared}
abbrev nsO (w : World) : Obj := { cls := .type "set", dict := none, data := .set #[] 0 (.fresh 0 0 (!w.params.followText "set-order")) }
set_option maxHeartbeats 3200000 in
theorem set_of_list {l : Addr} {items : Array Value} (ns : List Int) {Q : Value → Shared → Prop} (hh : A.handled = none) (hl : s.heap.IsList l items) (hit : IntsAre items.toList ns) (hb : ns.length + 1 < scanBound)
    (h : ∀ (h' : Heap) (tk c : Nat), SetR w h' s.heap.objs.size (fun j => decide (j ∈ ns)) c → (∀ b o, s.heap.get? b = some o → h'.get? b = some o) → Q (.ref s.heap.objs.size) { s with heap := h', toks := tk }) :
    wpAny (model P w) A (call (.type "set") [.ref l]) Q E s := by
  have hz : items.size = ns.length := by rw [← IntsAre.length hit, Array.length_toList]
  obtain ⟨cM, tM, hmro⟩ := F.called_set.mro
  have k1 := F.called_set.made
  have k2 := F.called_set.sub
  have k3 := F.called_set.notType
  have k4 := F.called_set.canCreate
  have k5 := F.typeCall_set_1 (.ref l)
  refine wpAny_call (codeAny_of_tree ?_)
  show wpAny _ _ (callAny (.type "set") _) _ _ _
  refine wpAny_pure ⟨Code.quiet_builtin _ (by decide +kernel), codeAny_builtin F.entry_type_call ?_⟩
  rw [Around.under_plain (weight_type_call_type "set" [.ref l] []) rfl]
  repeat (any_goals (first | assumption | wp_step))
  refine codeAny_mono (code_set_led1 (.ref l) (E := E) (Q₁ := fun x y => x = .ref s.heap.objs.size ∧ y = { s with heap := s.heap.push (nsO w) }) ⟨rfl, rfl⟩) fun r s₁ hr => ?_
  rcases r with e | fl
  · exact hr
  cases fl with
  | next => exact hr.elim
  | brk => exact hr.elim
  | cont => exact hr.elim
  | ret obj =>
    obtain ⟨rfl, rfl⟩ := hr
    have gS : (s.heap.push (nsO w)).get? s.heap.objs.size = some (nsO w) := Heap.get?_push_size _ rfl
    have gT : Shared.TypeIs { s with heap := s.heap.push (nsO w) } (.ref s.heap.objs.size) "set" := ⟨_, gS, rfl⟩
    have k6 := F.called_set.init.lookup
    have k7 := F.called_set.init.bind (.ref s.heap.objs.size)
    repeat (any_goals (first | assumption | wp_step))
    refine codeAny_mono (codeAny_call_builtin (R := wants (fun r s₂ => r = .none ∧ ∃ h' tk c, s₂ = { s with heap := h', toks := tk } ∧ SetR w h' s.heap.objs.size (fun j => decide (j ∈ ns)) c ∧ (∀ b o, s.heap.get? b = some o → h'.get? b = some o)) E) F.called_set.init.plain F.entry_set_init (check_set_init_1 gT ?_)) fun r₂ s₂ hr₂ => ?_
    · obtain ⟨⟨ocls, odict, odata, oslots⟩, hol, hcl, nl, hdl⟩ := hl
      simp only at hcl hdl
      subst hcl hdl
      have hol' : (s.heap.push (nsO w)).get? l = some { cls := .type "list", dict := odict, data := .seq items nl, slots := oslots } := Heap.get?_push_of_some _ hol
      have k8 := F.sub_list_set
      have k9 := F.sub_list_frozenset
      have k10 : (Value.type "list" == Value.type "dict") = false := by decide
      have gl1 : (s.heap.push (nsO w)).IsList l items := ⟨_, hol', rfl, nl, rfl⟩
      unfold Builtin.«set.__init__» noKeywords Builtin.Frozenset.updateFrom
      generalize hPI : pyIter = PI
      wp_walk
      subst hPI
      refine wpAny_pyIter_list gl1 ?_
      refine wpAny_bind (wpAny_runValue ?_)
      have lS : l < s.heap.objs.size := Heap.lt_size hol
      have zN : (s.heap.push (nsO w)).objs.size = s.heap.objs.size + 1 := Heap.size_push ..
      have nI : l ≠ (s.heap.push (nsO w)).objs.size := by rw [zN]; exact Nat.ne_of_lt (Nat.lt_succ_of_lt lS)
      have nS : s.heap.objs.size ∉ [(s.heap.push (nsO w)).objs.size, l] := fun m => by
        rw [zN] at m
        rcases List.mem_cons.mp m with e | m
        · exact Nat.ne_of_lt (Nat.lt_succ_self _) e
        · exact Nat.ne_of_gt lS (List.mem_singleton.mp m)
      refine set_update_ints ((Walks.list (show A.in1.in1.in1.handled = none by simp [hh]) _ l nI items).toS) s.heap.objs.size nS ns hz hb (fun i v hv => ?_) (items.size - 0) 0 _ (by omega) (Nat.zero_le _)
        ⟨⟨_, Heap.get?_push_size _ rfl, rfl, rfl⟩, gl1.push _⟩ ⟨0, Nat.le_refl 0, setR_new_at (Heap.get?_push_of_some _ gS)⟩ ?_
      · have hi : i < ns.length := by rw [← hz]; exact (Array.getElem?_eq_some_iff.mp hv).1
        obtain ⟨t, e⟩ := PyProof.Rows.IntsAre.int_at hit i v (by rw [Array.getElem?_toList]; exact hv)
        rw [List.getD_eq_getElem?_getD, List.getElem?_eq_getElem hi] at e
        exact ⟨ns[i], t, List.getElem?_eq_getElem hi, e⟩
      · intro s' c' hm _ hS'
        obtain ⟨h', g2, d', tk', os'⟩ := s'
        obtain rfl : g2 = s.gens := hm.gens
        obtain rfl : d' = s.drawn := hm.drawn
        obtain rfl : os' = s.os := hm.os
        show wpAny _ _ _ _ _ _
        refine wpAny_pure ?_
        show wpAny _ _ (ret Value.none) _ _ _
        refine wpAny_pure ⟨rfl, h', tk', c', rfl, hS', fun b o e => ?_⟩
        have b0 : b < s.heap.objs.size := Heap.lt_size e
        refine hm.heap b o (fun m => ?_) (Heap.get?_push_of_some _ (Heap.get?_push_of_some _ e))
        rw [zN] at m
        rcases List.mem_cons.mp m with e | m
        · exact Nat.ne_of_lt b0 e
        · exact Nat.ne_of_lt (Nat.lt_succ_of_lt b0) (List.mem_singleton.mp m)
    · rcases r₂ with e | fl₂
      · exact hr₂
      cases fl₂ with
      | next => exact hr₂.elim
      | brk => exact hr₂.elim
      | cont => exact hr₂.elim
      | ret r =>
        obtain ⟨rfl, h', tk, c', rfl, hS', hk'⟩ := hr₂
        repeat (any_goals (first | assumption | wp_step))
        exact h _ _ _ hS' hk'
end
section
variable {X : Cx} {W : WX} {a b c : Expr} {ma mb mc : Env → S → R D} {pos : Pos}
/-! ### sets of a tuple of ints -/
theorem ints_vals : ∀ {ns : List Int} {us : List Value}, Vals (ns.map V.int) us → IntsAre us ns
  | [], _, .nil => .nil
  | n :: ns, _, .cons (b := u) h t => by
    obtain ⟨tk, rfl⟩ := h
    exact .cons n tk (ints_vals t)
def rSetTI (K : PySem.W.Frag) (w : World) : List V → Hp → VK → Prop := fun vs H Q => ∃ (p : Addr) (ns : List Int), vs = [V.ref p] ∧ (SqT K H p (ns.map V.int) ∨ SqL K H p (ns.map V.int)) ∧ ns.length < 60 ∧ ∀ q, H q = none → Q (.ref q) (upd H q (SetO w q (fun j => decide (j ∈ ns)) (eDup ns).length))
theorem setR_len {w : World} {h : Heap} {a : Addr} {ns : List Int} {c : Nat} (r : SetR w h a (fun j => decide (j ∈ ns)) c) : c = (eDup ns).length := by
  obtain ⟨o, es, ep, t, h1, h2, h3, h4, h5, h6, h7, h8, h9, h10⟩ := r
  have : (es.toList.map keyOf).Perm (eDup ns) := (List.perm_ext_iff_of_nodup h5 (eDup_nodup ns)).mpr fun k => by
    rw [← h6 k, eDup_mem]
    exact decide_eq_true_iff
  rw [← h9, ← this.length_eq]
  simp
theorem cr_setTI (hc : X.A.handled = none) : CallR X (.type "set") (rSetTI X.K X.w) := by
  intro pins s σ H vs us Q I r ⟨p, ns, e, hs, hl, q⟩
  subst e
  obtain ⟨u, rfl, ru⟩ := vals1 r
  obtain rfl : u = Value.ref p := ru
  rcases hs with hs | hs
  rotate_left
  · obtain ⟨its, rv, pl, _⟩ := I.list hs
    refine set_of_list ns hc pl.isList (by simpa using ints_vals rv) (Nat.lt_of_lt_of_le (show ns.length + 1 < 64 by omega) (by decide +kernel)) fun h' tk c R keep => ?_
    have hcl := setR_len R
    subst hcl
    exact ⟨.ref _, _, I.laid keep (Nat.le_refl _) (setO_new R), rfl, q _ (I.hok.fresh (Nat.le_refl _))⟩
  obtain ⟨its, rv, hp, _⟩ := I.tuple hs
  refine call_set_tupI ns hc hp (by simpa using ints_vals rv) (Nat.lt_of_lt_of_le (show ns.length + 1 < 64 by omega) (by decide +kernel)) fun h' tk c R hcl keep => ?_
  have hcl := setR_len R
  subst hcl
  exact ⟨.ref _, _, I.laid keep (Nat.le_refl _) (setO_new R), rfl, q _ (I.hok.fresh (Nat.le_refl _))⟩
theorem tupI_at {H : Hp} {ha : HA} {s : S} {v : V} {x : D} {ns : List Int} (g : Rep X.K H (Av ha s) ha v x) (e : tupI x = some ns) : ∃ p, v = .ref p ∧ (SqT X.K H p (ns.map V.int) ∨ SqL X.K H p (ns.map V.int)) ∧ ns.length < 60 := by
  cases x with
  | tup xs =>
    have e : (intsOf xs).bind (fun ns => if ns.length < 60 then some ns else none) = some ns := e
    cases q : intsOf xs with
    | none => rw [q] at e; cases e
    | some ms =>
      rw [q] at e
      have e : (if ms.length < 60 then some ms else none) = some ns := e
      by_cases h : ms.length < 60
      · rw [if_pos h] at e
        cases e
        cases g with
        | tup h1 h2 h3 => exact ⟨_, rfl, .inl (by rw [← Reps.ints h3 q]; exact h1), h⟩
      · rw [if_neg h] at e; cases e
  | lst xs =>
    have e : (intsOf xs).bind (fun ns => if ns.length < 60 then some ns else none) = some ns := e
    cases q : intsOf xs with
    | none => rw [q] at e; cases e
    | some ms =>
      rw [q] at e
      have e : (if ms.length < 60 then some ms else none) = some ns := e
      by_cases h : ms.length < 60
      · rw [if_pos h] at e
        cases e
        cases g with
        | lst h1 h2 h3 h4 => exact ⟨_, rfl, .inr (.inl (.inl (by rw [← Reps.ints h4 q]; exact h1))), h⟩
      · rw [if_neg h] at e; cases e
  | _ => cases e
theorem je_sst (k : Cok X) (kc : Cold X) {p p2 pos2 : Pos} (hg : Gl X "sorted") (hm : X.mg "sorted" = none) (hg2 : Gl X "set") (hm2 : X.mg "set" = none) (hp : plainE a = true) (ha : PE X a (tM X W ma)) :
    PE X (.Call (.Name "sorted" p) [.Call (.Name "set" p2) [a] [] pos2] [] pos) (tM X W fun ρ s => (ma ρ s).bind fun x s1 => R.of s1 (sstD x)) := by
  have hs : starEach [a] X.env = (false, eval a X.env) :: starEach [] X.env := star_plain hp
  have inner := pe_callTy (p := p2) (pos := pos2) (cr_setTI kc.hd) hg2 hm2 (by decide +kernel) (pa_cons ha pa_nil hs) (he := hs)
  refine PE.imp (pe_callB (cr_sortedSet kc.calm) hg hm (by decide +kernel) (pa_cons inner pa_nil (by rfl)) (he := by rfl)) fun σ H Q ⟨ha, ρ, s, r, e, h⟩ => ?_
  refine ⟨ha, ρ, s, r, e, PtG.bind h fun x s1 v H1 ha1 r1 x1 g1 h1 => ?_⟩
  obtain ⟨d, e2, q⟩ := PtG.of h1
  have e2 : (tupI x).map (fun ns => D.lst ((sD ns).map .int)) = some d := e2
  cases e3 : tupI x with
  | none => rw [e3] at e2; cases e2
  | some ns =>
    rw [e3] at e2
    cases e2
    obtain ⟨z, rfl, hz, hl⟩ := tupI_at g1 e3
    refine ⟨z, ns, rfl, hz, hl, fun y hy => ?_⟩
    refine ⟨y, _, _, rfl, upd_same, Nat.lt_of_le_of_lt (eDup_len ns) (by omega), fun ns' w hw1 hw2 hw3 hw4 => ?_⟩
    have en : ns' = sD ns := lt_uniq hw1 (sD_pw ns) fun k => by rw [hw2 k, sD_mem]; exact decide_eq_true_iff
    subst en
    refine q _ _ _ ((r1.new1 hy).new1 hw4) ((Ext.new1 (K := X.K) hy).trans (Ext.new1 (K := X.K) hw4)) (rep_newL (r1.new1 hy) hw4 ?_ (reps_ints _))
    rw [List.length_map, hw3]
    exact cap_line (Nat.le_trans (eDup_len ns) (by show _ ≤ 1000000; omega))
/-! ### len(set(..)) -/
def rLenSetO (w : World) : List V → Hp → VK → Prop := fun vs H Q => ∃ (p : Addr) (S : Int → Bool) (n : Nat), vs = [V.ref p] ∧ H p = some (SetO w p S n) ∧ n < 1000 ∧ Q (.int n) H
theorem cr_lenSetO : CallR X (.builtin "len") (rLenSetO X.w) := by
  intro pins s σ H vs us Q I r ⟨p, S, n, e, hs, hl, q⟩
  subst e
  obtain ⟨u, rfl, ru⟩ := vals1 r
  obtain rfl : u = Value.ref p := ru
  obtain ⟨o, es, ep, t, h1, h2, h3, h4, h5, h6, h7, h8, h9, h10⟩ := setO_get I hs
  refine call_len_set h1 h2 h3 h8 (by omega) ?_
  refine ⟨.int n, H, I.tok _, ?_, q⟩
  exact ⟨_, by rw [h9]⟩
theorem je_lns (k : Cok X) (kc : Cold X) {p p2 pos2 : Pos} (hg : Gl X "len") (hm : X.mg "len" = none) (hg2 : Gl X "set") (hm2 : X.mg "set" = none) (hp : plainE a = true) (ha : PE X a (tM X W ma)) :
    PE X (.Call (.Name "len" p) [.Call (.Name "set" p2) [a] [] pos2] [] pos) (tM X W fun ρ s => (ma ρ s).bind fun x s1 => R.of s1 (lnsD x)) := by
  have hs : starEach [a] X.env = (false, eval a X.env) :: starEach [] X.env := star_plain hp
  have inner := pe_callTy (p := p2) (pos := pos2) (cr_setTI kc.hd) hg2 hm2 (by decide +kernel) (pa_cons ha pa_nil hs) (he := hs)
  refine PE.imp (pe_callB cr_lenSetO hg hm (by decide +kernel) (pa_cons inner pa_nil (by rfl)) (he := by rfl)) fun σ H Q ⟨ha, ρ, s, r, e, h⟩ => ?_
  refine ⟨ha, ρ, s, r, e, PtG.bind h fun x s1 v H1 ha1 r1 x1 g1 h1 => ?_⟩
  obtain ⟨d, e2, q⟩ := PtG.of h1
  have e2 : (tupI x).map (fun ns => D.int (eDup ns).length) = some d := e2
  cases e3 : tupI x with
  | none => rw [e3] at e2; cases e2
  | some ns =>
    rw [e3] at e2
    cases e2
    obtain ⟨z, rfl, hz, hl⟩ := tupI_at g1 e3
    refine ⟨z, ns, rfl, hz, hl, fun y hy => ?_⟩
    refine ⟨y, _, _, rfl, upd_same, Nat.lt_of_le_of_lt (eDup_len ns) (by omega), ?_⟩
    exact q _ _ _ (r1.new1 hy) (Ext.new1 (K := X.K) hy) (.int _)
end
end RS

set_option Elab.async false
set_option linter.all false
set_option maxRecDepth 100000
/-! a lambda of one parameter, called -/
namespace RS
open PySem PySem.Spec L2 PySem.Calls
open PyProof.Rows hiding St
open PySem.W (EachIs KeyIs KeyEnd)

structure Lam1 (sc scope : Scope) (p : Str) : Prop where
  kind : scope.kind = .function
  co : scope.isCoroutine = false
  gen : scope.isGenerator = false
  par : scope.names.lookup p = some .local
  own : ∀ y ∈ scope.names, y.2 ≠ .cell
  free : ∀ y ∈ scope.names, y.2 = .free → sc.names.lookup y.1 = some .cell ∨ sc.names.lookup y.1 = some .free
def lam1B (sc scope : Scope) (p : Str) : Bool :=
  decide (scope.kind = .function) && (!scope.isCoroutine && (!scope.isGenerator && (decide (scope.names.lookup p = some .local) && scope.names.all fun y => !decide (y.2 = .cell) && (!decide (y.2 = .free) || (decide (sc.names.lookup y.1 = some .cell) || decide (sc.names.lookup y.1 = some .free))))))
theorem lam1_by {sc scope : Scope} {p : Str} (h : lam1B sc scope p = true) : Lam1 sc scope p := by
  unfold lam1B at h
  simp only [Bool.and_eq_true, Bool.or_eq_true, Bool.not_eq_true', decide_eq_true_eq, decide_eq_false_iff_not, List.all_eq_true] at h
  obtain ⟨h1, h2, h3, h4, h5⟩ := h
  refine ⟨h1, h2, h3, h4, fun y hy => (h5 y hy).1, fun y hy e => ?_⟩
  rcases (h5 y hy).2 with z | z | z
  · exact absurd e z
  · exact .inl z
  · exact .inr z
theorem Lam1.has {X : Cx} {scope : Scope} {p : Str} (L : Lam1 X.env.scope scope p) (ok : X.Ok) : ∀ y ∈ scope.names, y.2 = .free → ∃ c, X.env.cells.lookup y.1 = some c := fun y hy e => by
  rcases L.free y hy e with k | k
  · exact ok.has _ (.inl k)
  · exact ok.has _ (.inr k)
def onePar : Arguments → Option Str
  | ⟨[], [a], none, [], [], none, []⟩ => some a.arg
  | _ => none
theorem onePar_at {params : Arguments} {p : Str} (h : onePar params = some p) : ∃ a : Arg, params = ⟨[], [a], none, [], [], none, []⟩ ∧ a.arg = p := by
  unfold onePar at h
  split at h
  · cases h; exact ⟨_, rfl, rfl⟩
  · cases h
theorem onePar_defaults {params : Arguments} {p : Str} (h : onePar params = some p) (env : PySem.Env) : defaultsOf params env = ([], []) := by
  obtain ⟨a, rfl, _⟩ := onePar_at h
  rfl
theorem onePar_bind {params : Arguments} {p : Str} (h : onePar params = some p) {name qual : Str} {body : Expr} {scope : Scope} {cl : List (Str × Addr)} {pm cdv ct : Value} (v : Value) :
    bindArgs (PySem.W.kla_fn name qual params body scope cl pm cdv ct) ⟨[v], []⟩ = pure [(p, v)] := by
  obtain ⟨a, rfl, rfl⟩ := onePar_at h
  have e : (a.arg == a.arg) = true := by simp
  unfold bindArgs
  simp [PySem.W.kla_fn, List.lookup, e, seqItems?]
  rfl
abbrev lEnv (qual : Str) (scope : Scope) (L f c' : Addr) (cl : List (Str × Addr)) : PySem.Env := PySem.W.envX qual scope L f (.ref c') cl
theorem lam1_call {prog : Program} {w : World} {A : Around} {s : Shared} {f c' : Addr} {qual p : Str} {params : Arguments} {body : Expr} {sc scope : Scope} {cl : List (Str × Addr)} {pm ctv v : Value} {Q : Value → Shared → Prop} {E : Value → Shared → Prop}
    (ho : s.heap.get? f = some (PySem.W.kla_obj "<lambda>" qual params body scope cl pm c' ctv)) (hc : s.heap.CodeRec (.ref c') qual) (hd : A.depth < recursionLimit) (hl : s.heap.NoLimit) (hp : onePar params = some p) (L : Lam1 sc scope p)
    (h : ∀ (h₁ : Heap) (tk : Tok), h₁.Ns s.heap.objs.size (fun y => [(p, v)].reverse.lookup y) → (∀ b o, s.heap.get? b = some o → h₁.get? b = some o) →
      wpAny (model prog w) (A.deeper (lEnv qual scope s.heap.objs.size f c' cl)) (eval body (lEnv qual scope s.heap.objs.size f c' cl)) Q (fun _ _ => False) { s with heap := h₁, toks := tk }) :
    wpAny (model prog w) A (call (.ref f) [v]) Q E s := by
  refine wpAny_call ?_
  refine codeAny_mono (R := fun r s' => ∃ u, r = .ok (.ret u) ∧ Q u s') ?_ fun r s' hr => by
    obtain ⟨u, rfl, hq⟩ := hr
    exact hq
  refine PySem.W.kla_callFunE hd ho rfl L.co L.gen rfl hc ?_
  rw [onePar_bind hp v]
  refine wpAny_pure (wpAny_newFunctionEnv L.own (fun y hy => ?_) (fun h₁ hns hsb => ⟨hl.fresh _ hsb, ?_⟩) L.kind)
  · rw [List.mem_singleton.mp hy]
    exact L.par
  · show codeAny _ _ (.expr body (lEnv qual scope s.heap.objs.size f c' cl)) _ _
    have kp : ∀ b o, s.heap.get? b = some o → h₁.get? b = some o := fun b o e => hsb.extBut b o (Nat.ne_of_lt (Heap.lt_size e)) (Heap.get?_push_of_some _ e)
    exact PySem.W.kla_codeExpr (wpAny_mono (h h₁ _ hns kp) (fun u s' hq => ⟨u, rfl, hq⟩) fun _ _ z => z.elim)
end RS

set_option Elab.async false
set_option linter.all false
set_option maxRecDepth 100000
/-! sorted by a key that is a call -/
namespace RS
open PySem PySem.Spec L2 PySem.Calls
open PyProof.Rows hiding St
open PySem.W (EachIs KeyIs KeyEnd)

/-- a call f(u) gives the key k -/
def TurnK (X : Cx) (s : Shared) (f : Addr) (u : Value) (k : PyData) : Prop := ∀ (A : Around) (g : Heap) (tk : Nat), A.depth = X.A.depth → (∀ b o, b ≠ X.env.locals → s.heap.get? b = some o → g.get? b = some o) → (∃ m, g.Ns X.env.locals m) →
  wpAny (model X.prog X.w) A (call (.ref f) [u]) (fun v s2 => ∃ g2 tk2 more, s2 = { s with heap := g2, toks := tk2 } ∧ (∀ b o, g.get? b = some o → g2.get? b = some o) ∧ KeyIs X.base k v more ∧
    ∀ p ∈ more, p.2.cls = .type "tuple" ∧ g2.get? p.1 = some p.2 ∧ p.1 ≠ X.env.locals ∧ X.base.get? p.1 = none) (fun _ _ => False) { s with heap := g, toks := tk }
theorem each_ofB {β : Type} {L : List (V × β)} {us : List Value} (h : Vals (L.map (·.1)) us) : EachIs (fun (u : Value) (p : V × β) => RelV p.1 u) us L := by
  induction L generalizing us with
  | nil => cases h; exact .nil
  | cons p L ih =>
    cases h with
    | cons h1 h2 => exact .cons h1 (ih h2)
theorem vals_ofB {β : Type} {L : List (V × β)} {us : List Value} (h : EachIs (fun (u : Value) (p : V × β) => RelV p.1 u) us L) : Vals (L.map (·.1)) us := by
  induction h with
  | nil => exact .nil
  | cons h1 _ ih => exact .cons h1 ih
theorem kv_mem {β : Type} {k : β → PyData} {L : List (V × β)} {us : List Value} (h : EachIs (fun (u : Value) (p : V × β) => RelV p.1 u) us L) {i : Nat} {u : Value} {d : PyData} (e1 : us[i]? = some u) (e2 : (L.map fun p => k p.2)[i]? = some d) : ∃ p ∈ L, RelV p.1 u ∧ d = k p.2 := by
  induction h generalizing i with
  | nil => simp at e1
  | @cons a b as bs h1 _ ih =>
    cases i with
    | zero =>
      simp at e1 e2
      subst e1 e2
      exact ⟨b, List.mem_cons_self .., h1, rfl⟩
    | succ i =>
      obtain ⟨p, m, q⟩ := ih (by simpa using e1) (by simpa using e2)
      exact ⟨p, List.mem_cons_of_mem _ m, q⟩
section
variable {X : Cx} {pins : List (Addr × Obj)} {σ : L2.St} {H : Hp} {s : Shared}
theorem sorted_lam {β : Type} {a f : Addr} {L : List (V × β)} {k : β → PyData} {Q : VK} (I : L2.Inv X pins σ H s) (hs : SqL X.K H a (L.map (·.1)) ∨ SqT X.K H a (L.map (·.1)))
    (hal : PySem.W.AllAlike (L.map fun p => k p.2)) (hsk : PySem.W.Sortable (L.map fun p => k p.2)) (hu : ∀ d ∈ L.map fun p => k p.2, X.A.units + 2 + d.depth < cLine) (hcap : L.length ≤ CAP)
    (turn : ∀ p ∈ L, ∀ u, RelV p.1 u → TurnK X s f u (k p.2))
    (q : ∀ D, H D = none → Q (.ref D) (upd H D (.lst ((L.mergeSort (PySem.W.dataLe false fun p => k p.2)).map (·.1))))) :
    wpAny (model X.prog X.w) X.A (call (.builtin "sorted") [.ref a] [(Str.ofString "key", .ref f)]) (EP X pins σ Q) X.xe s := by
  obtain ⟨its, rv, hl⟩ : ∃ its : List Value, Vals (L.map (·.1)) its ∧ (s.heap.IsList a its.toArray ∨ s.heap.IsTuple a its.toArray) := by
    rcases hs with hs | hs
    · obtain ⟨its, rv, p, _⟩ := I.list hs
      exact ⟨its, rv, .inl p.isList⟩
    · obtain ⟨its, rv, p, _⟩ := I.tuple hs
      exact ⟨its, rv, .inr p⟩
  have e := each_ofB rv
  have hlen : its.length = L.length := by rw [← rv.length, List.length_map]
  have hL : its.length ≤ sizeLine := by rw [hlen]; exact cap_line hcap
  refine sorted_seq hl hL (PyProof.Rows.ksk_s1 _ _) (fun x => PyProof.Rows.ksk_l1 _ _) fun E' => ?_
  rw [PyProof.Rows.ksk_t1]
  have k0 : ∀ b o, s.heap.get? b = some o → (colH s.heap its).get? b = some o := fun b o hb => colH_old hb
  have hlt0 : s.heap.objs.size ≤ (colH s.heap its).objs.size := by rw [colH_size]; exact Nat.le_succ _
  generalize hh : colH s.heap its = h' at *
  have kg : ∀ b o, s.heap.get? b = some o → (h'.push (seqObj "list" its.toArray 0)).get? b = some o := fun b o hb => Heap.get?_push_of_some _ (k0 b o hb)
  obtain ⟨m, hn, hloc⟩ := I.loc
  have F0 : Fr X.base X.env.locals (h'.push (seqObj "list" its.toArray 0)) m := ⟨hn.keeps kg, fun b o e => kg b o (I.bk b o e), Nat.le_trans I.ok.bsz I.ok.above⟩
  have hD : X.env.locals < h'.objs.size := Nat.lt_of_lt_of_le I.lt hlt0
  have haL : h'.objs.size ≠ X.env.locals := Nat.ne_of_gt hD
  have ha0 : X.base.get? h'.objs.size = none := Heap.get?_none_of_le (Nat.le_trans F0.above (Nat.le_of_lt hD))
  have kept : ∀ {g : Heap} {m' : Str → Option Value}, Fr X.base X.env.locals g m' → News X.base X.env.locals g (L2.rest X.base (h'.push (seqObj "list" its.toArray 0)) X.env.locals h'.objs.size) → ∀ b o, b ≠ X.env.locals → s.heap.get? b = some o → g.get? b = some o :=
    fun {g m'} F N b o hb hbo => kept_of_news F0.keep F N b o hb (Nat.ne_of_lt (Nat.lt_of_lt_of_le (Heap.lt_size hbo) hlt0)) (kg b o hbo)
  refine PySem.W.key_tree (prog := X.prog) (w := X.w) (A := X.A.in1.in1) (s := { s with heap := h'.push (seqObj "list" its.toArray 0) }) (vs := its) (n := 0) (kz := L.map fun p => k p.2) (news := L2.rest X.base (h'.push (seqObj "list" its.toArray 0)) X.env.locals h'.objs.size)
    F0 (fun p hp => news_all p (List.mem_filter.mp hp).1) (Heap.get?_push_size _ rfl) haL ha0 rest_ne (by rw [List.length_map, hlen]) hL hal hsk (fun d hd => ?_) (fun i v d hv hk g tk own F' N' => ?_) fun g tk out c F' N' ko => ⟨rfl, ?_⟩
  · have := hu d hd
    show X.A.units + 1 + 1 + d.depth < cLine
    omega
  · obtain ⟨p, mp, rp, rfl⟩ := kv_mem (k := k) e hv hk
    refine wpAny_mono (turn p mp v rp X.A.in1.in1 g tk rfl (kept F' fun z hz => N' z (List.mem_append_left _ hz)) ⟨m, F'.ns⟩) (fun u s2 h2 => ?_) fun _ _ z => z
    obtain ⟨g2, tk2, more, rfl, kp, ki, hm⟩ := h2
    refine ⟨g2, tk2, more, rfl, ki, fun z hz => (hm z hz).1, ⟨F'.ns.keeps kp, fun b o e => kp b o (F'.keep b o e), F'.above⟩, fun z hz => ?_⟩
    rcases List.mem_append.mp hz with hz | hz
    · exact ⟨kp _ _ (N' z hz).1, (N' z hz).2⟩
    · exact (hm z hz).2
  · have out' := PySem.W.keyedOut_each (R := fun (u : Value) (p : V × β) => RelV p.1 u) (bs := L) (fun p => k p.2) (by exact ko) e
    have kp := kept F' fun z hz => N' z (List.mem_cons_of_mem _ hz)
    have hDn : H h'.objs.size = none := I.hok.fresh hlt0
    have aD := (N' _ (List.mem_cons_self ..)).1
    have neD : ∀ b o, s.heap.get? b = some o → b ≠ h'.objs.size := fun b o e => Nat.ne_of_lt (Nat.lt_of_lt_of_le (Heap.lt_size e) hlt0)
    have neL : ∀ b u, H b = some u → b ≠ X.env.locals := fun b u e z => by rw [z, I.free] at e; cases e
    refine ⟨.ref h'.objs.size, upd H h'.objs.size (.lst ((L.mergeSort (PySem.W.dataLe false fun p => k p.2)).map (·.1))), ?_, rfl, q _ hDn⟩
    refine I.step (s := s) (g' := s.gens) (d' := s.drawn) (ch := []) (fun b hb => absurd hb (by simp)) (fun b o h1 _ _ e _ => kp b o h1 e) (fun b o h1 _ _ e _ => ⟨o.slots, kp b o h1 e⟩) (fun b o _ e n => by rw [upd_ne (neD b o e)]; exact n) (fun b o _ e => ?_)
      (fun b xs e => by rw [upd_ne (ne_of_none e hDn)]; exact e) (fun b o u e => by rw [upd_ne (ne_of_none e hDn)]; exact e) (fun b ps e => ⟨#[], by rw [upd_ne (ne_of_none e hDn), e]; simp⟩) (fun m' hm => ?_) (fun b u e => ?_) I.bare
    · by_cases hb : b = X.env.locals
      · obtain ⟨o', _, _, ho', _⟩ := F'.ns
        exact ⟨o', by rw [hb]; exact ho'⟩
      · exact ⟨o, kp b o hb e⟩
    · rw [SlX.ns_only hm hn]
      exact F'.ns
    · by_cases hb : b = h'.objs.size
      · subst hb
        rw [upd_same] at e
        cases e
        refine ⟨?_, out, c, vals_ofB out', aD⟩
        rw [List.length_map, List.length_mergeSort]
        exact cap_line hcap
      · rw [upd_ne hb] at e
        refine (I.hok b u e).stay (fun d v hd qd => kp d v ?_ qd) (fun d qd => by rw [upd_ne (ne_of_none qd hDn)]; exact qd) fun d xs qd => by rw [upd_ne (ne_of_none qd hDn)]; exact qd
        rcases hd with rfl | hd
        · exact neL _ _ e
        · exact neL _ _ hd
end
end RS

set_option Elab.async false
set_option linter.all false
set_option maxRecDepth 100000
/-! the two keys: (x[0] - x[1], x) and heights[x] -/
namespace RS
open PySem PySem.Spec L2 PySem.Calls
open PyProof.Rows hiding St
open PySem.W (EachIs KeyIs KeyEnd)

/-- at f stands a lambda of one parameter p, made in X's def -/
def LamAt (X : Cx) (s : Shared) (p : Str) (R : Scope → Prop) (body : Expr) (f : Addr) : Prop := ∃ (c : Addr) (qual : Str) (params : Arguments) (scope : Scope) (pm ctv : Value),
  s.heap.get? f = some (PySem.W.kla_obj "<lambda>" qual params body scope (cloFrom X.env.cells scope.names []) pm c ctv) ∧ f ≠ X.env.locals ∧ (∃ (oc : Obj) (vs : Array Value) (t : Tok), s.heap.get? c = some oc ∧ oc.data = .fields vs ∧ vs[1]? = some (.str qual t)) ∧ c ≠ X.env.locals ∧
  onePar params = some p ∧ Lam1 X.env.scope scope p ∧ R scope
/-- what the body's value must be -/
def KeyP (X : Cx) (s : Shared) (g : Heap) (k : PyData) (v : Value) (s2 : Shared) : Prop := ∃ g2 tk2 more, s2 = { s with heap := g2, toks := tk2 } ∧ (∀ b o, g.get? b = some o → g2.get? b = some o) ∧ KeyIs X.base k v more ∧
    ∀ p ∈ more, p.2.cls = .type "tuple" ∧ g2.get? p.1 = some p.2 ∧ p.1 ≠ X.env.locals ∧ X.base.get? p.1 = none
section
variable {X : Cx} {pins : List (Addr × Obj)} {σ : L2.St} {H : Hp} {s : Shared} {p : Str} {R : Scope → Prop} {body : Expr} {f : Addr} {u : Value} {k : PyData}
theorem lamAt_turn (l : LamAt X s p R body f) (I : L2.Inv X pins σ H s) (hd : X.A.depth < recursionLimit)
    (h : ∀ (A : Around) (g g1 : Heap) (tk : Nat) (scope : Scope) (c : Addr) (qual : Str), R scope → Lam1 X.env.scope scope p → (∀ b o, b ≠ X.env.locals → s.heap.get? b = some o → g.get? b = some o) → (∃ m, g.Ns X.env.locals m) →
      g1.Ns g.objs.size (fun y => [(p, u)].reverse.lookup y) → (∀ b o, g.get? b = some o → g1.get? b = some o) →
      wpAny (model X.prog X.w) A (eval body (lEnv qual scope g.objs.size f c (cloFrom X.env.cells scope.names []))) (KeyP X s g k) (fun _ _ => False) { s with heap := g1, toks := tk }) : TurnK X s f u k := by
  intro A g tk hA kp hm
  obtain ⟨c, qual, params, scope, pm, ctv, h1, h2, ⟨oc, vs, t, e1, e2, e3⟩, h4, h5, h6, h7⟩ := l
  have lim : g.NoLimit := I.ok.mod.nolimit.keeps fun b o e => kp b o (fun z => by
    have := Heap.lt_size e
    have a1 := I.ok.bsz
    have a2 := I.ok.above
    rw [z] at this
    exact absurd (Nat.lt_of_lt_of_le this (Nat.le_trans a1 a2)) (Nat.lt_irrefl _)) (I.bk b o e)
  exact lam1_call (s := { s with heap := g, toks := tk }) (kp f _ h2 h1) ⟨c, oc, vs, t, rfl, kp c _ h4 e1, e2, e3⟩ (by rw [hA]; exact hd) lim h5 h6 fun h₁ tk' hns hk => h (A.deeper _) g h₁ tk' scope c qual h7 h6 kp hm hns hk
end
section
variable {prog : Program} {w : World} {A : Around} {s : Shared} {Q : Value → Shared → Prop} {E : Value → Shared → Prop} {qual p : Str} {scope : Scope} {L f c : Addr} {cl : List (Str × Addr)} {u : Value}
theorem par_load {pos : Pos} (hk : scope.kind = .function) (hp : scope.names.lookup p = some .local) (hn : s.heap.Ns L (fun y => [(p, u)].reverse.lookup y)) (h : Q u s) (hd : (p == ("__debug__" : Str)) = false) :
    wpAny (model prog w) A (eval (.Name p pos) (lEnv qual scope L f c cl)) Q E s :=
  wpAny_Name (wpAny_loadName_local (env := lEnv qual scope L f c cl) hk hp hn (by
    show List.lookup p [(p, u)] = some u
    simp [List.lookup]) h) hd
theorem pair_ix {p1 p2 p3 : Pos} {i : Int} {jc : Nat} {j : Nat} {t : Addr} {x0 x1 x : Value} (hk : scope.kind = .function) (hp : scope.names.lookup p = some .local) (hn : s.heap.Ns L (fun y => [(p, .ref t)].reverse.lookup y)) (hd : (p == ("__debug__" : Str)) = false)
    (ht : IsTup s.heap t #[x0, x1]) (h0 : 0 ≤ i) (h1 : i < 2) (hj : seqIndex? i 2 = some j) (hx : (#[x0, x1] : Array Value)[j]? = some x) (h : ∀ tk, Q x { s with toks := tk }) :
    wpAny (model prog w) A (eval (.Subscript (.Name p p1) (.Constant (.int i) jc p2) p3) (lEnv qual scope L f c cl)) Q E s := by
  refine Subscript_ (par_load hk hp hn ?_ hd)
  refine wpAny_Constant_int ?_
  exact subscriptTail_builtinR (x := x) (IsTup.typeIs (by exact ht)) slot_tuple_getitem.lookup
    (getItem_tuple (j := j) (Q := fun r s' => r = x ∧ Q r s') ht (by omega) (by omega) hj hx ⟨rfl, h _⟩) rfl
end
section
variable {X : Cx} {pins : List (Addr × Obj)} {σ : L2.St} {H : Hp} {s : Shared} {p : Str} {f : Addr}
theorem tup_loc (I : L2.Inv X pins σ H s) {t : Addr} {its : Array Value} (ht : IsTup s.heap t its) : t ≠ X.env.locals := fun z => by
  obtain ⟨o, e1, _, n, e2⟩ := ht
  obtain ⟨m, ⟨o', es, ep, e3, e4, _⟩, _⟩ := I.loc
  rw [z, e3] at e1
  cases e1
  rw [e4] at e2
  cases e2
/-- key (x[0] - x[1], x) at a pair of ints -/
theorem turnR {t : Addr} {a b : Int} {jc0 jc1 kk : Nat} {p1 p2 p3 p4 p5 p6 p7 p8 p9 : Pos}
    (l : LamAt X s p (fun _ => True) (.Tuple [.BinOp (.Subscript (.Name p p1) (.Constant (.int 0) jc0 p2) p3) .Sub (.Subscript (.Name p p4) (.Constant (.int 1) jc1 p5) p6) p7, .Name p p8] kk p9) f)
    (I : L2.Inv X pins σ H s) (hd : X.A.depth < recursionLimit) (hdb : (p == ("__debug__" : Str)) = false) (ht : SqT X.K H t [.int a, .int b]) :
    TurnK X s f (.ref t) (.tuple [.int (a - b), .tuple [.int a, .int b]]) := by
  refine lamAt_turn l I hd fun A g g1 tk scope c qual _ L kp ⟨m, hm⟩ hns k1 => ?_
  obtain ⟨its, rv, pl, _⟩ := I.tuple ht
  obtain ⟨u1, u2, rfl, r1, r2⟩ := vals2 rv
  obtain ⟨ta, rfl⟩ := r1
  obtain ⟨tb, rfl⟩ := r2
  have pl : IsTup s.heap t #[.int a ta, .int b tb] := pl
  have hL := tup_loc I pl
  have plg : IsTup g t #[.int a ta, .int b tb] := by obtain ⟨o, e, r⟩ := pl; exact ⟨o, kp t o hL e, r⟩
  have plg1 : IsTup g1 t #[.int a ta, .int b tb] := plg.keeps k1
  refine wpAny_Tuple_spliced ?_
  show wpAny _ _ (spliced ((false, eval (.BinOp (.Subscript (.Name p p1) (.Constant (.int 0) jc0 p2) p3) .Sub (.Subscript (.Name p p4) (.Constant (.int 1) jc1 p5) p6) p7) _) :: (false, eval (.Name p p8) _) :: [])) _ _ _
  refine Calls.spliced_cons (wpAny_BinOp ?_)
  refine pair_ix (s := { s with heap := g1, toks := tk }) L.kind L.par hns hdb plg1 (by omega) (by omega) (j := 0) (by rfl) rfl fun tk1 => ?_
  refine pair_ix (s := { s with heap := g1, toks := tk1 }) L.kind L.par hns hdb plg1 (by omega) (by omega) (j := 1) (by rfl) rfl fun tk2 => ?_
  refine sub_int ?_
  refine Calls.spliced_cons (par_load L.kind L.par hns ?_ hdb)
  refine Calls.spliced_nil ⟨by show 2 ≤ sizeLine; decide +kernel, ?_⟩
  obtain ⟨o, e1, e2, n, e3⟩ := plg
  have hz : X.env.locals < g1.objs.size := (hm.keeps k1).lt
  have nb : X.base.get? g1.objs.size = none := Heap.get?_none_of_le (Nat.le_trans (Nat.le_trans I.ok.bsz I.ok.above) (Nat.le_of_lt hz))
  refine ⟨_, _, [(g1.objs.size, { cls := .type "tuple", data := .seq ([Value.int (a - b) tk2, .ref t] : List Value).toArray })] ++ (match X.base.get? t with | some _ => [] | none => [(t, o)]), rfl, fun b o e => Heap.get?_push_of_some _ (k1 b o e), fun h hb hmo => ?_, fun z hz' => ?_⟩
  · have eT := hmo _ (List.mem_append_left _ (List.mem_singleton.mpr rfl))
    have et : h.get? t = some o := by
      cases q : X.base.get? t with
      | some o' =>
        have := kp t o' hL (I.bk t o' q)
        rw [e1] at this
        cases this
        exact hb _ _ q
      | none => exact hmo (t, o) (List.mem_append_right _ (by rw [q]; exact List.mem_singleton.mpr rfl))
    exact ⟨_, .tuple eT rfl rfl (.cons (.int _ _) (.cons (.tuple et e2 e3 (.cons (.int _ _) (.cons (.int _ _) .nil))) .nil))⟩
  · rcases List.mem_append.mp hz' with hz' | hz'
    · rw [List.mem_singleton.mp hz']
      exact ⟨rfl, Heap.get?_push_size _ rfl, Nat.ne_of_gt hz, nb⟩
    · cases q : X.base.get? t with
      | some o' => rw [q] at hz'; cases hz'
      | none =>
        rw [q] at hz'
        rw [List.mem_singleton.mp hz']
        exact ⟨e2, Heap.get?_push_of_some _ (k1 _ _ e1), hL, q⟩
theorem mem_look {cells : List (Str × Addr)} {names : List (Str × NameKind)} {n : Str} (h : names.lookup n = some .free) (u : ∀ y c, (y, c) ∈ cloFrom cells names [] → cells.lookup y = some c) {c : Addr} (hc : cells.lookup n = some c) : (cloFrom cells names []).lookup n = some c := by
  have m := cloFrom_has (cells := cells) (acc := []) (PySem.mem_of_lookup h)
  obtain ⟨c', e⟩ := L2.mem_lookup m
  have := u n c' (PySem.mem_of_lookup e)
  rw [hc] at this
  cases this
  exact e
/-- key r[x] at a place of the tuple r of ints -/
theorem turnP {rn : Str} {r : Nat} {t : Addr} {ns : List Int} {i : Int} {tk0 : Tok} {p1 p2 p3 : Pos} (l : LamAt X s p (fun scope => scope.names.lookup rn = some .free) (.Subscript (.Name rn p1) (.Name p p2) p3) f)
    (I : L2.Inv X pins σ H s) (hd : X.A.depth < recursionLimit) (hdb : (p == ("__debug__" : Str)) = false) (hN : X.N[r]? = some rn) (hrd : (rn == ("__debug__" : Str)) = false) (hrc : (rn == ("__classdict__" : Str)) = false)
    (hr : σ[r]? = some (some (.ref t))) (ht : SqT X.K H t (ns.map V.int)) (h0 : 0 ≤ i) (h1 : i < ns.length) (hl : ns.length ≤ CAP) :
    TurnK X s f (.int i tk0) (.int (ns.getD i.toNat 0)) := by
  refine lamAt_turn l I hd fun A g g1 tk scope c qual hR L kp ⟨m, hm⟩ hns k1 => ?_
  obtain ⟨its, rv, pl, _⟩ := I.tuple ht
  have hL := tup_loc I pl
  have plg1 : IsTup g1 t its.toArray := by obtain ⟨o, e, r⟩ := pl; exact ⟨o, k1 t o (kp t o hL e), r⟩
  have hlen : its.length = ns.length := by rw [← rv.length, List.length_map]
  have hi : i.toNat < ns.length := by omega
  obtain ⟨u, hu, ru⟩ : ∃ u, its[i.toNat]? = some u ∧ RelV (.int (ns.getD i.toNat 0)) u := by
    obtain ⟨u, e, q⟩ := rv.get (i := i.toNat) (x := V.int (ns.getD i.toNat 0)) (by
      rw [List.getElem?_map, List.getD_eq_getElem?_getD, List.getElem?_eq_getElem hi]; rfl)
    exact ⟨u, e, q⟩
  obtain ⟨tu, rfl⟩ := ru
  -- the captured name
  have hfree := L.free _ (PySem.mem_of_lookup hR) rfl
  have hvis : Vis X.env.scope rn := hfree.elim (fun k => .inr (.inl k)) (fun k => .inr (.inr k))
  obtain ⟨m0, hn0, hlo⟩ := I.loc
  obtain ⟨w', rw', q⟩ := hlo r rn _ hN hr hvis
  obtain rfl : w' = Value.ref t := rw'
  obtain ⟨cc, hcc, hcell⟩ : ∃ cc, X.env.cells.lookup rn = some cc ∧ s.heap.IsCell cc (some (.ref t)) := by
    rcases q with ⟨k', _⟩ | ⟨_, c3, e', z⟩
    · exfalso
      have k' : X.env.scope.names.lookup rn = some .local := k'
      rcases hfree with k2 | k2 <;> rw [show X.env.scope.names.lookup rn = _ from k2] at k' <;> cases k'
    · exact ⟨c3, e', z⟩
  have has := L.has I.ok
  have mem : ∀ y c, (y, c) ∈ cloFrom X.env.cells scope.names [] → X.env.cells.lookup y = some c := fun y c hm => by
    rcases cloFrom_mem hm with z | ⟨z1, z2⟩
    · cases z
    · obtain ⟨c', hc'⟩ := has _ z1 rfl
      have hc' : X.env.cells.lookup y = some c' := hc'
      rw [hc'] at z2
      rw [hc', z2]
      rfl
  have hlook := mem_look hR mem hcc
  have hcl : g1.IsCell cc (some (.ref t)) := by
    obtain ⟨o, e, d⟩ := hcell
    exact ⟨o, k1 _ _ (kp _ _ (I.cne _ _ hcc) e), d⟩
  refine Subscript_ (wpAny_Name (wpAny_loadName_free (env := lEnv qual scope g.objs.size f c (cloFrom X.env.cells scope.names [])) L.kind hR hlook hcl ?_ hrc) hrd)
  refine par_load (u := .int i tk0) L.kind L.par hns ?_ hdb
  have hcap : (CAP : Int) < 2 ^ 63 := by decide
  have hlZ : (ns.length : Int) ≤ CAP := by exact_mod_cast hl
  refine subscriptTail_builtinR (x := .int (ns.getD i.toNat 0) tu) (IsTup.typeIs (by exact plg1)) slot_tuple_getitem.lookup
    (getItem_tuple (j := i.toNat) (Q := fun r s' => r = _ ∧ KeyP X s g (.int (ns.getD i.toNat 0)) r s') plg1 (by omega) (by omega) (by rw [List.size_toArray, hlen]; exact seqIndex_of h0 (by omega)) (by simpa using hu) ⟨rfl, ?_⟩) rfl
  exact ⟨_, _, [], rfl, k1, KeyIs.int _ _, fun z hz => (nomatch hz)⟩
end
end RS

set_option Elab.async false
set_option linter.all false
set_option maxRecDepth 100000
/-! a lambda is made -/
namespace RS
open PySem PySem.Spec L2 PySem.Calls LamX
open PyProof.Rows hiding St

structure LamStep (H H1 : Hp) : Prop where
  ext : ExtN H H1
  dom : ∀ p o, H p = some o → ∃ o', H1 p = some o'
section
variable {X : Cx} {pins : List (Addr × Obj)} {σ : L2.St} {H : Hp} {s : Shared}
theorem lam_make3 {T : List (Addr × Str)} {c P : Addr} {params : Arguments} {body : Expr} {scope : Scope} {pos : Pos} {E : Value → Shared → Prop} {Q : Value → Shared → Prop} (I : L2.Inv X pins σ H s) (TB : TabB X.base X.mg c P) (hcode : X.env.code = .ref c)
    (hm : (P, X.env.qual ++ "<lambda>") ∈ T) (hu : ∀ p ∈ T, p.1 = P → p.2 = X.env.qual ++ "<lambda>") (hT : Tabs T H) (hdef : defaultsOf params X.env = ([], [])) (hfree : ∀ y ∈ scope.names, y.2 = .free → ∃ c, X.env.cells.lookup y.1 = some c)
    (h : ∀ (f c' : Addr) (pm ctv : Value) (H1 : Hp) (s' : Shared), L2.Inv X pins σ H1 s' → LamStep H H1 → Tabs T H1 →
      s'.heap.get? f = some (PySem.W.kla_obj "<lambda>" (X.env.qual ++ "<lambda>") params body scope (cloFrom X.env.cells scope.names []) pm c' ctv) → s.heap.objs.size ≤ f → H1 c' = some (CodeO c' (X.env.qual ++ "<lambda>")) → Q (.ref f) s') :
    wpAny (model X.prog X.w) X.A (eval (.Lambda params body scope pos) X.env) Q E s := by
  obtain ⟨ps, hP, ht, ha⟩ := hT _ hm
  refine PySem.W.kla_eval hdef ?_
  have bP : s.heap.BuiltinsAt X.mg P := TB.bm.keeps I.bk
  have hP' : s.heap.get? P = some { cls := .none, data := .fields ps } := I.hok P _ hP
  cases hc : codeAmong pos ps.toList with
  | none =>
    refine PySem.W.kla_makeFunction (mg := X.mg) (c := c) (P := P) (ps := ps) (closure_ok hfree) I.ok.glob (I.mod.glob.keeps I.bk) hcode (TB.code.keeps I.bk) hP' ht hc TB.gP bP fun c' ctv h' tk hx hge hlt hrec htb => ?_
    obtain ⟨c2, oc, vs, t, e2, hoc, hd, hv⟩ := hrec
    cases e2
    have hsz : s.heap.objs.size ≤ h'.objs.size := Nat.le_trans hge (Nat.le_of_lt hlt)
    have nC : H c' = none := I.hok.fresh hge
    have I1 := inv_table (t' := tk) (more := #[rawInt pos.line, rawInt pos.col, .ref c']) (h' := h'.push (PySem.W.kla_obj "<lambda>" (X.env.qual ++ "<lambda>") params body scope (cloFrom X.env.cells scope.names []) ((X.mg "__name__").getD .none) c' ctv)) I hP
      (fun b o hb e => Heap.get?_push_of_some _ (hx b o hb e)) (Heap.get?_push_of_some _ htb) hge ⟨oc, vs, t, Heap.get?_push_of_some _ hoc, hd, hv⟩
    have hE : ExtN H (upd (upd H P (.tbl (ps ++ #[rawInt pos.line, rawInt pos.col, .ref c']))) c' (CodeO c' (X.env.qual ++ "<lambda>"))) := fun b o e n => by
      rw [upd_ne (ne_of_none e nC), upd_ne (fun z => n ps (Option.some.inj (e.symm.trans (by rw [z]; exact hP))))]
      exact e
    have eL : (ps ++ #[rawInt pos.line, rawInt pos.col, .ref c']).toList = ps.toList ++ [rawInt pos.line, rawInt pos.col, .ref c'] := by simp
    refine h h'.objs.size c' ((X.mg "__name__").getD .none) ctv _ _ I1 ⟨hE, fun p o e => ?_⟩ (fun p hp => ?_) (Heap.get?_push_size _ rfl) hsz upd_same
    · by_cases hb : p = P
      · exact ⟨_, by rw [hb, upd_ne (ne_of_none hP nC), upd_same]⟩
      · exact ⟨o, by rw [upd_ne (ne_of_none e nC), upd_ne hb]; exact e⟩
    · by_cases hb : p.1 = P
      · rw [hu p hp hb, hb]
        refine ⟨_, by rw [upd_ne (ne_of_none hP nC), upd_same], by rw [eL]; exact PySem.TriplesOk_snoc _ _ _ _ ht, fun p' cv hcv => ?_⟩
        rw [eL] at hcv
        rcases among_app _ ht hcv with z | z
        · obtain ⟨c0, e1, e2⟩ := ha p' cv z
          exact ⟨c0, e1, hE _ _ e2 codeO_ne⟩
        · exact ⟨c', z, upd_same⟩
      · obtain ⟨ps', a1, a2, a3⟩ := hT p hp
        refine ⟨ps', by rw [upd_ne (ne_of_none a1 nC), upd_ne hb]; exact a1, a2, fun p' cv hcv => ?_⟩
        obtain ⟨c0, e1, e2⟩ := a3 p' cv hcv
        exact ⟨c0, e1, hE _ _ e2 codeO_ne⟩
  | some cv =>
    obtain ⟨c', e, hco⟩ := ha pos cv hc
    subst e
    refine PySem.W.kla_makeFunctionHit (mg := X.mg) (c := c) (P := P) (ps := ps) (closure_ok hfree) I.ok.glob (I.mod.glob.keeps I.bk) hcode (TB.code.keeps I.bk) hP' ht hc bP fun ctv h' tk hx hsz => ?_
    have I1 : L2.Inv X pins σ H { s with heap := h'.push (PySem.W.kla_obj "<lambda>" (X.env.qual ++ "<lambda>") params body scope (cloFrom X.env.cells scope.names []) ((X.mg "__name__").getD .none) c' ctv), toks := tk } := I.kept fun b o e => Heap.get?_push_of_some _ (hx b o e)
    exact h h'.objs.size c' ((X.mg "__name__").getD .none) ctv H _ I1 ⟨ExtN.refl H, fun p o e => ⟨o, e⟩⟩ hT (Heap.get?_push_size _ rfl) hsz hco
end
section
variable {K : PySem.W.Frag} {H H1 : Hp} {ha : HA} {s : S}
theorem Ext.lam (l : LamStep H H1) : Ext ha s H ha s H1 := ⟨⟨[], by simp⟩, rfl, fun p o h nt _ => l.ext p o h nt, fun _ z => .inl z, l.dom⟩
theorem SRel.lam (r : SRel K H ha s) (l : LamStep H H1) (t : TabK K H1) : SRel K H1 ha s :=
  ⟨r.len, r.nd, fun i o e => by
    obtain ⟨q, h1, h2⟩ := r.obj i o e
    refine ⟨q, h1, ?_⟩
    have x : Ext ha s H ha s H1 := Ext.lam l
    cases o with
    | ml xs => obtain ⟨vs, a, b, c⟩ := h2; exact ⟨vs, l.ext _ _ a (fun _ z => by cases z), b, Reps.ext x r xs vs c⟩
    | fz xs => obtain ⟨vs, a, b, c⟩ := h2; exact ⟨vs, l.ext _ _ a (fun _ z => by cases z), b, Reps.ext x r xs vs c⟩
    | md xs => obtain ⟨vs, a, b, c⟩ := h2; exact ⟨vs, l.ext _ _ a (fun _ z => by cases z), b, Repk.ext x r xs vs c⟩
    | gone => obtain ⟨u, a⟩ := h2; exact l.dom _ _ a, r.low, fun q z => by
    obtain ⟨o, e⟩ := r.trk q z
    exact l.dom _ _ e, r.dis, t⟩
end
/-- lambdas may be made in this def -/
def LamOk (X : Cx) : Prop := ∃ x ∈ lamDefs, lamB X.K x = true ∧ X.env.qual ++ ("<lambda>" : Str) = lamQ x ∧ X.env.code = .ref (He.cT X.K (x, none)).1 ∧ TabB X.base X.mg (He.cT X.K (x, none)).1 (He.cT X.K (x, none)).2
end RS

set_option Elab.async false
set_option linter.all false
set_option maxRecDepth 100000
/-! sorted(l, key=lambda ..) -/
namespace RS
open PySem PySem.Spec L2 PySem.Calls LamX
open PyProof.Rows hiding St
open PySem.W (EachIs KeyIs KeyEnd)

/-- sorted(z, key=f), f a lambda just made -/
def SrkP (X : Cx) (q : Str) (Rq : Scope → Prop) (body : Expr) (σ : L2.St) (Q : VK) (v : V) (H1 : Hp) : Prop := ∃ z, v = .ref z ∧ TabK X.K H1 ∧ ∀ H2, LamStep H1 H2 → TabK X.K H2 → ∀ pins s2 f, L2.Inv X pins σ H2 s2 → LamAt X s2 q Rq body f →
      wpAny (model X.prog X.w) X.A (call (.builtin "sorted") [.ref z] [(Str.ofString "key", .ref f)]) (EP X pins σ Q) X.xe s2
section
variable {X : Cx} {W : WX} {a : Expr} {ma : Env → S → R D} {p pos lp kp : Pos} {params : Arguments} {body : Expr} {scope : Scope} {q : Str}
theorem pe_srkG {Rq : Scope → Prop} {ta : TE} (lo : LamOk X) (L : Lam1 X.env.scope scope q) (ho : onePar params = some q) (hR : Rq scope) (hg : Gl X "sorted") (hm : X.mg "sorted" = none) (ha : PE X a ta) (hs : starEach [a] X.env = (false, eval a X.env) :: starEach [] X.env) :
    PE X (.Call (.Name "sorted" p) [a] [⟨some ("key" : Str), .Lambda params body scope lp, kp⟩] pos) (fun σ H Q => ta σ H (SrkP X q Rq body σ Q)) := by
  refine ⟨fun pins s σ H Q I h => ?_⟩
  have hs' : starEach [a] X.env = [(false, eval a X.env)] := hs
  refine wpAny_Call_Name_kw (ld_blt I hg hm (u := .builtin "sorted") (by decide +kernel) ?_ (by decide) (by decide))
  refine PyProof.Rows.callWith_kw (thn ((pa_cons ha pa_nil hs).run pos pins s σ H (fun vs H1 => match vs with
    | [v] => SrkP X q Rq body σ Q v H1
    | _ => False) I h) fun us s1 ⟨vs, H1, I1, r1, q1⟩ => ?_) (by rw [hs']; rfl) (by rw [hs']; rfl) rfl rfl
  match vs, r1, q1 with
  | [v], r1, q1 =>
    obtain ⟨z, rfl, T1, q2⟩ := q1
    obtain ⟨u, rfl, ru⟩ := vals1 r1
    obtain rfl : u = Value.ref z := ru
    obtain ⟨x, hx, hb, hq, hcode, TB⟩ := lo
    show wpAny _ _ (evalAll ((do let v ← eval (.Lambda params body scope lp) X.env; standAt pos; pure v) :: [])) _ _ s1
    refine wpAny_evalAll_cons (wpAny_bind (lam_make3 (T := lamT X.K) I1 TB hcode (by rw [hq]; exact lamT_mem hx hb) (by rw [hq]; exact lamT_one hb) T1 (onePar_defaults ho _) (L.has I1.ok) fun f c' pm ctv H2 s2 I2 st T2 hf hsz hco => ?_))
    refine wpAny_bind (wpAny_standAt (wpAny_pure (wpAny_evalAll_nil ?_)))
    have hcc : CodeO c' (X.env.qual ++ ("<lambda>" : Str)) = .ext fun h => ∃ (oc : Obj) (vs : Array Value) (t : Tok), h.get? c' = some oc ∧ oc.data = .fields vs ∧ vs[1]? = some (.str (X.env.qual ++ ("<lambda>" : Str)) t) := rfl
    obtain ⟨⟨oc, ws, t, o1, o2, o3⟩, _, _⟩ := I2.hok c' _ hco
    refine q2 H2 st T2 pins s2 f I2 ⟨c', _, params, scope, pm, ctv, hf, Nat.ne_of_gt (Nat.lt_of_lt_of_le I1.lt hsz), ⟨oc, ws, t, o1, o2, o3⟩, fun z => ?_, ho, L, hR⟩
    rw [z, I2.free] at hco
    cases hco
  | [], _, q1 => exact q1.elim
  | _ :: _ :: _, _, q1 => exact q1.elim
/-! ### the keys -/
theorem alike_tup2 (a b c a' b' c' : Int) : PySem.W.alike (.tuple [.int a, .tuple [.int b, .int c]]) (.tuple [.int a', .tuple [.int b', .int c']]) = true := by
  simp [PySem.W.alike, PySem.W.alikeAll]
theorem isPr_at {d : D} (h : isPr d = true) : ∃ a b : Int, d = .tup [.int a, .int b] := by
  unfold isPr at h
  split at h
  · exact ⟨_, _, rfl⟩
  · cases h
theorem isIx_at {n : Nat} {d : D} (h : isIx n d = true) : ∃ i : Int, d = .int i ∧ 0 ≤ i ∧ i < n := by
  unfold isIx at h
  split at h
  · obtain ⟨h1, h2⟩ := Bool.and_eq_true_iff.mp h
    exact ⟨_, rfl, of_decide_eq_true h1, of_decide_eq_true h2⟩
  · cases h
theorem rep_pair {H : Hp} {A : Addr → Prop} {ha : HA} {v : V} {a b : Int} (g : Rep X.K H A ha v (.tup [.int a, .int b])) : ∃ t, v = .ref t ∧ SqT X.K H t [.int a, .int b] := by
  cases g with
  | tup h1 h2 h3 =>
    cases h3 with
    | cons g1 h3 =>
      cases h3 with
      | cons g2 h3 =>
        cases h3
        cases g1
        cases g2
        exact ⟨_, rfl, h1⟩
theorem srk_end {pins : List (Addr × Obj)} {s2 : Shared} {σ : L2.St} {H1 H2 : Hp} {ha : HA} {s1 : S} {f z : Addr} {vs : List V} {xs : List D} {k : D → PyData} {Q : VK} (r1 : SRel X.K H1 ha s1) (hs : H1 z = some (.lst vs) ∨ SqT X.K H1 z vs) (hv : Reps X.K H1 (Av ha s1) ha vs xs)
    (st : LamStep H1 H2) (T2 : TabK X.K H2) (I2 : L2.Inv X pins σ H2 s2) (hal : PySem.W.AllAlike (xs.map k)) (hsk : PySem.W.Sortable (xs.map k)) (hu : ∀ d ∈ xs.map k, X.A.units + 2 + d.depth < cLine) (hcap : xs.length ≤ CAP)
    (turn : ∀ d ∈ xs, ∀ v, Rep X.K H2 (Av ha s1) ha v d → ∀ u, L2.RelV v u → TurnK X s2 f u (k d))
    (q : ∀ v' H' ha', SRel X.K H' ha' s1 → Ext ha s1 H1 ha' s1 H' → Rep X.K H' (Av ha' s1) ha' v' (.lst (xs.mergeSort (PySem.W.dataLe false k))) → Q v' H') :
    wpAny (model X.prog X.w) X.A (call (.builtin "sorted") [.ref z] [(Str.ofString "key", .ref f)]) (EP X pins σ Q) X.xe s2 := by
  have r2 := r1.lam st T2
  have x2 : Ext ha s1 H1 ha s1 H2 := Ext.lam st
  obtain ⟨L, k1, k2, k3⟩ := zip_reps (Reps.ext x2 r1 xs vs hv)
  have ek : (L.map fun p => k p.2) = xs.map k := by rw [← k2, List.map_map]; rfl
  have hl : L.length = xs.length := by rw [← k2, List.length_map]
  refine sorted_lam (L := L) (k := k) I2 ?_ (by rw [ek]; exact hal) (by rw [ek]; exact hsk) (by rw [ek]; exact hu) (by rw [hl]; exact hcap) (fun p mp u ru => turn p.2 (by rw [← k2]; exact List.mem_map.mpr ⟨p, mp, rfl⟩) p.1 (k3 p mp) u ru) fun z0 hD => ?_
  · rw [k1]
    rcases hs with hs | hs
    · exact .inl (SqL.of (st.ext _ _ hs fun _ z => by cases z))
    · exact .inr (x2.x0.sqt r1 hs)
  · have em : xs.mergeSort (PySem.W.dataLe false k) = (L.mergeSort (PySem.W.dataLe false fun p => k p.2)).map (·.2) := by
      rw [← k2]
      exact (List.map_mergeSort (f := fun p : V × D => p.2) (r := PySem.W.dataLe false fun p : V × D => k p.2) (s := PySem.W.dataLe false k) (fun a _ c _ => rfl)).symm
    refine q _ _ ha (r2.new1 hD) (x2.trans (Ext.new1 (K := X.K) hD)) ?_
    rw [em]
    refine rep_newL r2 hD ?_ (reps_zip _ fun z m => k3 z ((List.mergeSort_perm ..).mem_iff.mp m))
    rw [List.length_map, List.length_mergeSort, hl]
    exact cap_line hcap
theorem je_srkR {p1 p2 p3 p4 p5 p6 p7 p8 p9 : Pos} {jc0 jc1 kk : Nat} (lo : LamOk X) (hd : X.A.depth < recursionLimit) (hu : X.A.units + 100 < cLine) (L : Lam1 X.env.scope scope q) (ho : onePar params = some q) (hdb : (q == ("__debug__" : Str)) = false) (hg : Gl X "sorted") (hm : X.mg "sorted" = none) (ha : PE X a (tM X W ma)) (hs : starEach [a] X.env = (false, eval a X.env) :: starEach [] X.env) :
    PE X (.Call (.Name "sorted" p) [a] [⟨some ("key" : Str), .Lambda params (.Tuple [.BinOp (.Subscript (.Name q p1) (.Constant (.int 0) jc0 p2) p3) .Sub (.Subscript (.Name q p4) (.Constant (.int 1) jc1 p5) p6) p7, .Name q p8] kk p9) scope lp, kp⟩] pos)
      (tM X W fun ρ s => (ma ρ s).bind fun x s1 => R.of s1 (srkRD s1 x)) := by
  refine PE.imp (pe_srkG (Rq := fun _ => True) lo L ho trivial hg hm ha hs) fun σ H Q ⟨ha, ρ, s, r, e, h⟩ => ?_
  refine ⟨ha, ρ, s, r, e, PtG.bind h fun x s1 v H1 ha1 r1 x1 g1 h1 => ?_⟩
  obtain ⟨d, e2, q1⟩ := PtG.of h1
  have e2 : ((seqOf s1 x).bind fun xs => if xs.all isPr && decide (xs.length ≤ CAP) then some (D.lst (xs.mergeSort (PySem.W.dataLe false keyR))) else none) = some d := e2
  cases e3 : seqOf s1 x with
  | none => rw [e3] at e2; cases e2
  | some xs =>
    rw [e3] at e2
    have e2 : (if xs.all isPr && decide (xs.length ≤ CAP) then some (D.lst (xs.mergeSort (PySem.W.dataLe false keyR))) else none) = some d := e2
    by_cases ok : (xs.all isPr && decide (xs.length ≤ CAP)) = true
    · rw [if_pos ok] at e2
      cases e2
      obtain ⟨o1, o2⟩ := Bool.and_eq_true_iff.mp ok
      obtain ⟨z, vs, rfl, k1, k2, k3⟩ := seq_at r1 g1 e3
      have pr : ∀ k ∈ xs.map keyR, ∃ a b : Int, k = .tuple [.int (a - b), .tuple [.int a, .int b]] := fun k mk => by
        obtain ⟨y, my, rfl⟩ := List.mem_map.mp mk
        obtain ⟨a, b, rfl⟩ := isPr_at (List.all_eq_true.mp o1 y my)
        exact ⟨a, b, rfl⟩
      refine ⟨z, rfl, r1.tab, fun H2 st T2 pins s2 f I2 la => ?_⟩
      refine srk_end (k := keyR) r1 k1 k3 st T2 I2 (fun k mk k' mk' => ?_) (.inl fun k mk => ?_) (fun k mk => ?_) (of_decide_eq_true o2) (fun y my v g u ru => ?_) q1
      · obtain ⟨a, b, rfl⟩ := pr k mk
        obtain ⟨a', b', rfl⟩ := pr k' mk'
        exact alike_tup2 ..
      · obtain ⟨a, b, rfl⟩ := pr k mk
        exact ⟨_, _, rfl⟩
      · obtain ⟨a, b, rfl⟩ := pr k mk
        have : (PyData.tuple [.int (a - b), .tuple [.int a, .int b]]).depth ≤ 10 := by simp [PyData.depth, PyData.depthAll]
        omega
      · obtain ⟨a, b, rfl⟩ := isPr_at (List.all_eq_true.mp o1 y my)
        obtain ⟨t, rfl, ht⟩ := rep_pair g
        obtain rfl : u = Value.ref t := ru
        exact turnR la I2 hd hdb ht
    · rw [if_neg ok] at e2; cases e2
theorem je_srkP {rn : Str} {ri : Nat} {p1 p2 p3 : Pos} (lo : LamOk X) (hd : X.A.depth < recursionLimit) (hu : X.A.units + 100 < cLine) (L : Lam1 X.env.scope scope q) (ho : onePar params = some q) (hfr : scope.names.lookup rn = some .free) (hN : X.N[ri]? = some rn) (hdb : (q == ("__debug__" : Str)) = false) (hrd : (rn == ("__debug__" : Str)) = false) (hrc : (rn == ("__classdict__" : Str)) = false)
    (hg : Gl X "sorted") (hm : X.mg "sorted" = none) (ha : PE X a (tM X W ma)) (hs : starEach [a] X.env = (false, eval a X.env) :: starEach [] X.env) :
    PE X (.Call (.Name "sorted" p) [a] [⟨some ("key" : Str), .Lambda params (.Subscript (.Name rn p1) (.Name q p2) p3) scope lp, kp⟩] pos)
      (tM X W fun ρ s => (ma ρ s).bind fun x s1 => R.of s1 ((getV ρ ri).bind fun y => srkPD s1 x y)) := by
  refine PE.imp (pe_srkG (Rq := fun sc => sc.names.lookup rn = some .free) lo L ho hfr hg hm ha hs) fun σ H Q ⟨ha, ρ, s, r, e, h⟩ => ?_
  refine ⟨ha, ρ, s, r, e, PtG.bind h fun x s1 v H1 ha1 r1 x1 g1 h1 => ?_⟩
  obtain ⟨d, e2, q1⟩ := PtG.of h1
  cases e0 : getV ρ ri with
  | none => rw [e0] at e2; cases e2
  | some y =>
    rw [e0] at e2
    have e2 : srkPD s1 x y = some d := e2
    cases y with
    | tup hs0 =>
      have e2 : ((intsOf hs0).bind fun ns => (seqOf s1 x).bind fun xs => if xs.all (isIx ns.length) && (decide (xs.length ≤ CAP) && decide (ns.length ≤ CAP)) then some (D.lst (xs.mergeSort (PySem.W.dataLe false (keyP ns)))) else none) = some d := e2
      cases e4 : intsOf hs0 with
      | none => rw [e4] at e2; cases e2
      | some ns =>
        rw [e4] at e2
        have e2 : ((seqOf s1 x).bind fun xs => if xs.all (isIx ns.length) && (decide (xs.length ≤ CAP) && decide (ns.length ≤ CAP)) then some (D.lst (xs.mergeSort (PySem.W.dataLe false (keyP ns)))) else none) = some d := e2
        cases e3 : seqOf s1 x with
        | none => rw [e3] at e2; cases e2
        | some xs =>
          rw [e3] at e2
          have e2 : (if xs.all (isIx ns.length) && (decide (xs.length ≤ CAP) && decide (ns.length ≤ CAP)) then some (D.lst (xs.mergeSort (PySem.W.dataLe false (keyP ns)))) else none) = some d := e2
          by_cases ok : (xs.all (isIx ns.length) && (decide (xs.length ≤ CAP) && decide (ns.length ≤ CAP))) = true
          · rw [if_pos ok] at e2
            cases e2
            obtain ⟨o1, o2⟩ := Bool.and_eq_true_iff.mp ok
            obtain ⟨o2, o3⟩ := Bool.and_eq_true_iff.mp o2
            obtain ⟨z, vs, rfl, k1, k2, k3⟩ := seq_at r1 g1 e3
            have pr : ∀ k ∈ xs.map (keyP ns), ∃ a : Int, k = .int a := fun k mk => by
              obtain ⟨y, my, rfl⟩ := List.mem_map.mp mk
              obtain ⟨i, rfl, _⟩ := isIx_at (List.all_eq_true.mp o1 y my)
              exact ⟨_, rfl⟩
            have hri : ρ[ri]? = some (some (.tup hs0)) := by
              unfold getV at e0
              split at e0
              · rename_i q; rw [q]; cases e0; rfl
              · cases e0
            obtain ⟨w, hw, gw⟩ := (e.ext x1 r).get ri _ hri
            obtain ⟨t, rfl, ht⟩ : ∃ t, w = .ref t ∧ SqT X.K H1 t (ns.map V.int) := by
              cases gw with
              | tup h1 h2 h3 => exact ⟨_, rfl, by rw [← Reps.ints h3 e4]; exact h1⟩
            refine ⟨z, rfl, r1.tab, fun H2 st T2 pins s2 f I2 la => ?_⟩
            have ht2 : SqT X.K H2 t (ns.map V.int) := (Ext.lam (ha := ha1) (s := s1) st).x0.sqt r1 ht
            refine srk_end (k := keyP ns) r1 k1 k3 st T2 I2 (fun k mk k' mk' => ?_) (.inr fun k mk => ?_) (fun k mk => ?_) (of_decide_eq_true o2) (fun y my v g u ru => ?_) q1
            · obtain ⟨a, rfl⟩ := pr k mk
              obtain ⟨a', rfl⟩ := pr k' mk'
              rfl
            · obtain ⟨a, rfl⟩ := pr k mk
              exact ⟨fun z => (nomatch z), fun _ z => (nomatch z)⟩
            · obtain ⟨a, rfl⟩ := pr k mk
              have : (PyData.int a).depth ≤ 10 := by simp [PyData.depth]
              omega
            · obtain ⟨i, rfl, i0, i1⟩ := isIx_at (List.all_eq_true.mp o1 y my)
              cases g
              obtain ⟨tk, rfl⟩ := ru
              exact turnP la I2 hd hdb hN hrd hrc hw ht2 i0 i1 (of_decide_eq_true o3)
          · rw [if_neg ok] at e2; cases e2
    | _ => cases e2
end
end RS

set_option Elab.async false
set_option linter.all false
set_option maxRecDepth 100000
/-! x[:0:-1], name *= e, a, b, c = x, y, z -/
namespace RS
open PySem PySem.Spec L2
open PyProof.Rows hiding St

theorem pick0 (items : Array Value) : slicePick items none (some 0) (some (-1)) = (items.toList.drop 1).reverse.toArray := by
  cases hn : items.size with
  | zero =>
    have e : items = #[] := Array.eq_empty_of_size_eq_zero hn
    subst e
    rfl
  | succ n =>
    have hb : sliceBounds none (some 0) (some (-1)) (n + 1) = ((n : Int), 0, -1) := by
      unfold sliceBounds
      have h1 : ¬ ((-1 : Int) > 0) := by decide
      simp only [Option.getD_some, h1, if_false]
      have h0 : ¬ ((0 : Int) < 0) := by decide
      simp only [h0, if_false]
      refine Prod.ext ?_ (Prod.ext ?_ rfl)
      · show (((n + 1 : Nat) : Int) - 1) = n
        omega
      · show max (-1 : Int) (min 0 (((n + 1 : Nat) : Int) - 1)) = 0
        omega
    unfold slicePick
    rw [hn, hb]
    show ((sliceRange (n : Int) 0 (-1)).filterMap (items[·]?)).toArray = _
    have e2 : sliceRange (n : Int) 0 (-1) = ((List.range n).map (1 + ·)).reverse := by
      unfold sliceRange
      have h1 : ¬ ((-1 : Int) > 0) := by decide
      simp only [h1, if_false]
      apply List.ext_getElem
      · simp
        split <;> omega
      · intro i h1 h2
        simp
        simp at h2
        omega
    have e3 := PySem.pick_run items 1 n
    rw [List.take_of_length_le (by rw [List.length_drop, Array.length_toList, hn]; omega)] at e3
    rw [e2, List.filterMap_reverse, e3]
section
variable {X : Cx} {W : WX} {a b c : Expr} {ma mb mc me : Env → S → R D} {pos : Pos}
def tRev0 (K : PySem.W.Frag) (te : TE) : TE := fun σ H Q => te σ H fun x H1 => ∃ a xs, x = .ref a ∧ SqL K H1 a xs ∧ ∀ p, H1 p = none → Q (.ref p) (upd H1 p (.lst (xs.drop 1).reverse))
theorem pe_rev0 {e : Expr} {te : TE} {k k0 : Nat} {p0 p1 p2 p3 : Pos} (he : PE X e te) : PE X (.Subscript e (.Slice none (some (.Constant (.int 0) k0 p0)) (some (.UnaryOp .USub (.Constant (.int 1) k p1) p2)) p3) pos) (tRev0 X.K te) := by
  refine ⟨fun pins s σ H Q I h => ?_⟩
  refine Subscript_ (thn (he.run pins s σ H _ I h) fun v s1 ⟨x, H1, I1, r1, q1⟩ => ?_)
  have hst : PO X (some (.UnaryOp .USub (.Constant (.int 1) k p1) p2)) (tPart (tUn (rU fun i => .int (-i)) (tC (.int 1)))) := po_some (pe_un un_neg pe_int)
  have hup : PO X (some (.Constant (.int 0) k0 p0)) (tPart (tC (.int 0))) := po_some pe_int
  refine wpAny_Slice (thn (po_none.run pins s1 σ H1 (fun o H2 => o = none ∧ H2 = H1) I1 ⟨rfl, rfl⟩) fun vl s2 ⟨l, H2, I2, pl, el, e2⟩ => ?_)
  subst el e2
  refine thn (hup.run pins s2 σ H2 (fun o H3 => o = some 0 ∧ H3 = H2) I2 ⟨0, rfl, rfl, rfl⟩) fun vu s3 ⟨u, H3, I3, pu, eu, e3⟩ => ?_
  subst eu e3
  refine thn (hst.run pins s3 σ H3 (fun o H4 => o = some (-1) ∧ H4 = H3) I3 ⟨1, rfl, -1, rfl, rfl, rfl⟩) fun vs s4 ⟨o, H4, I4, ps, eo, e4⟩ => ?_
  subst eo e4
  have I5 : L2.Inv X pins σ H4 { s4 with heap := s4.heap.push { cls := .type "slice", data := .fields #[vl, vu, vs] } } := I4.kept (t' := s4.toks) fun b ob q => Heap.get?_push_of_some _ q
  obtain ⟨a, xs, ex, hx, q⟩ := q1
  subst ex
  cases r1
  obtain ⟨its, r, ht, hz⟩ := I5.list hx
  have hlen := r.length
  show wpAny (model X.prog X.w) X.A (subscriptTail e (.Slice none (some (.Constant (.int 0) k0 p0)) (some (.UnaryOp .USub (.Constant (.int 1) k p1) p2)) p3) (.ref a) (.ref s4.heap.objs.size)) (EP X pins σ Q) X.xe { s4 with heap := s4.heap.push { cls := .type "slice", data := .fields #[vl, vu, vs] } }
  refine tail_any (ops := [.ref a, .ref s4.heap.objs.size]) ht.isList.typeIs (PySem.slot_list_getitem.lookup) ?_ (by with_unfolding_all rfl)
  refine wpAny_getItem_list_slice ht.isList (Heap.IsSliceOf.new _ vl vu vs) pl pu ps (by decide) ?_ (by rw [List.size_toArray]; omega)
  rw [pick0]
  refine ⟨.ref _, _, I5.laid (t' := s4.toks) (o := .lst (xs.drop 1).reverse) (fun b ob q => Heap.get?_push_of_some _ q) (Nat.le_refl _) ?_, rfl, q _ (I5.hok.fresh (Nat.le_refl _))⟩
  exact ⟨by rw [List.length_reverse, List.length_drop]; omega, _, 0, (r.drop 1).reverse, Heap.get?_push_size _ rfl⟩
theorem je_rv0 {k k0 : Nat} {p0 p1 p2 p3 : Pos} (ha : PE X a (tM X W ma)) : PE X (.Subscript a (.Slice none (some (.Constant (.int 0) k0 p0)) (some (.UnaryOp .USub (.Constant (.int 1) k p1) p2)) p3) pos) (tM X W fun ρ s => (ma ρ s).bind fun x s1 => R.of s1 ((lstOf s1 x).map fun xs => .lst (xs.drop 1).reverse)) :=
  PE.imp (pe_rev0 ha) fun σ H Q ⟨ha, ρ, s, r, e, h⟩ => ⟨ha, ρ, s, r, e, PtG.bind h fun x s1 v H1 ha1 r1 x1 g1 h1 => by
    obtain ⟨d, ed, q⟩ := PtG.of h1
    cases e2 : lstOf s1 x with
    | none => rw [e2] at ed; cases ed
    | some xs =>
      rw [e2] at ed
      cases ed
      obtain ⟨p, vs, rfl, k1, k2, k3⟩ := lst_at r1 g1 e2
      exact ⟨p, vs, rfl, SqL.of k1, fun p hp => q _ _ ha1 (r1.new1 hp) (Ext.new1 (K := X.K) hp) (rep_newL r1 hp (by rw [List.length_reverse, List.length_drop]; omega) (k3.drop 1).reverse)⟩⟩
theorem augD_at {x y d : D} (h : augD x y = some d) : ∃ i j : Int, x = .int i ∧ y = .int j ∧ okMul i j = true ∧ d = .int (i * j) := by
  unfold augD at h
  split at h
  · rename_i i j
    by_cases c : okMul i j = true
    · rw [if_pos c] at h; cases h; exact ⟨i, j, rfl, rfl, c, rfl⟩
    · rw [if_neg c] at h; cases h
  · cases h
theorem js_augM {i : Nat} {x : Str} {p : Pos} (hN : X.N.Nodup) (hi : X.N[i]? = some x) (hx : L2.Loc X.env.scope x) (hf : X.fn x = true ∨ X.env.scope.names.lookup x = some .local) (ha : PE X a (tM X W ma)) :
    PS X (.AugAssign (.Name x p) .Mult a pos) (tS X W fun ρ s => (R.of s (getV ρ i)).bind fun x s0 => (ma ρ s0).bind fun y s1 => match augD x y with
    | some d => if i < ρ.length then .ok (.nx (ρ.set i (some d))) s1 else .bad
    | none => .bad) :=
  PS.imp (ps_aug (ti := rI CMul fun i j => .int (i * j)) hN hi hx ha iop_mul hf) fun E σ H ⟨ha, ρ, s, r, e, h⟩ => by
    dsimp only at h
    cases q : getV ρ i with
    | none => rw [q] at h; exact h.elim
    | some dx =>
      rw [q] at h
      have hg : ρ[i]? = some (some dx) := by
        unfold getV at q
        split at q
        · rename_i z; rw [z]; cases q; rfl
        · cases q
      obtain ⟨v, h1, h2⟩ := e.get i dx hg
      have h : PtS X W E ha s H ((ma ρ s).bind fun y s1 => match augD dx y with
        | some d => if i < ρ.length then .ok (.nx (ρ.set i (some d))) s1 else .bad
        | none => .bad) := h
      refine ⟨v, h1, ha, ρ, s, r, e, PtG.stm h fun y s1 u H1 ha1 r1 x1 g1 q1 => ?_⟩
      cases q2 : augD dx y with
      | none => rw [q2] at q1; exact q1.elim
      | some d =>
        rw [q2] at q1
        obtain ⟨i1, j1, rfl, rfl, c, rfl⟩ := augD_at q2
        cases h2
        cases g1
        by_cases hl : i < ρ.length
        · have q1 : PtS X W E ha1 s1 H1 (if i < ρ.length then .ok (.nx (ρ.set i (some (D.int (i1 * j1))))) s1 else .bad) := q1
          rw [if_pos hl] at q1
          exact ⟨i1, j1, rfl, rfl, okMul_ok c, q1 _ H1 ha1 r1 Ext.refl ((e.ext x1 r).set i (.int _))⟩
        · have q1 : PtS X W E ha1 s1 H1 (if i < ρ.length then .ok (.nx (ρ.set i (some (D.int (i1 * j1))))) s1 else .bad) := q1
          rw [if_neg hl] at q1
          exact q1.elim
theorem js_par3 {i j l : Nat} {x y z : Str} {px py pz pt : Pos} {kt k2 pt2} (hc : X.calm = true) (hN : X.N.Nodup) (hi : X.N[i]? = some x) (hj : X.N[j]? = some y) (hl : X.N[l]? = some z) (hij : i ≠ j) (hil : i ≠ l) (hjl : j ≠ l)
    (hx : X.env.scope.names.lookup x = some .local) (hy : X.env.scope.names.lookup y = some .local) (hz : X.env.scope.names.lookup z = some .local) (ha : PE X a (tM X W ma)) (hb : PE X b (tM X W mb)) (hd : PE X c (tM X W mc))
    (hs1 : starEach [a, b, c] X.env = (false, eval a X.env) :: starEach [b, c] X.env) (hs2 : starEach [b, c] X.env = (false, eval b X.env) :: starEach [c] X.env) (hs3 : starEach [c] X.env = (false, eval c X.env) :: starEach [] X.env)
    (hw : swappedStores [.Tuple [.Name x px, .Name y py, .Name z pz] kt pt] (.Tuple [a, b, c] k2 pt2) X.env = pure (some [x, y, z]))
    (hs : swapsWithSole [.Tuple [.Name x px, .Name y py, .Name z pz] kt pt] (.Tuple [a, b, c] k2 pt2) pos.line X.env = pure false) :
    PS X (.Assign [.Tuple [.Name x px, .Name y py, .Name z pz] kt pt] (.Tuple [a, b, c] k2 pt2) pos) (tS X W fun ρ s => (ma ρ s).bind fun x s1 => (mb ρ s1).bind fun y s2 => (mc ρ s2).bind fun z s3 => if i < ρ.length ∧ j < ρ.length ∧ l < ρ.length then .ok (.nx (((ρ.set i (some x)).set j (some y)).set l (some z))) s3 else .bad) := by
  refine PS.imp (ps_par3 hc hN hi hj hl hij hil hjl hx hy hz (pa_cons ha (pa_cons hb (pa_cons hd pa_nil hs3) hs2) hs1) hw hs) fun E σ H ⟨ha, ρ, s, r, e, h⟩ => ⟨ha, ρ, s, r, e, PtG.stm h fun x s1 v H1 ha1 r1 x1 g1 q => ?_⟩
  refine ⟨ha1, ρ, s1, r1, e.ext x1 r, PtG.stm q fun y s2 w H2 ha2 r2 x2 g2 q => ?_⟩
  refine ⟨ha2, ρ, s2, r2, (e.ext x1 r).ext x2 r1, PtG.stm q fun z s3 u H3 ha3 r3 x3 g3 q => ?_⟩
  by_cases hl : i < ρ.length ∧ j < ρ.length ∧ l < ρ.length
  · rw [if_pos hl] at q
    exact ⟨v, w, u, rfl, q _ H3 ha3 r3 Ext.refl ((((((e.ext x1 r).ext x2 r1).ext x3 r2).set i (Rep.ext x3 r2 x v (Rep.ext x2 r1 x v g1))).set j (Rep.ext x3 r2 y w g2)).set l g3)⟩
  · rw [if_neg hl] at q; exact q.elim
end
end RS

set_option Elab.async false
set_option linter.all false
set_option maxRecDepth 100000
/-! index of an int in a tuple of ints -/
namespace RS
open PySem PySem.Spec L2
open PyProof.Rows hiding St
section
variable {X : Cx} {W : WX} {a b : Expr} {ma mb : Env → S → R D} {pos : Pos}
end
end RS

set_option Elab.async false
set_option linter.all false
set_option maxRecDepth 100000
/-! a text looked up in a display of three texts -/
namespace RS
open PySem PySem.Spec L2
open PyProof.Rows hiding St
section
variable {X : Cx} {W : WX} {b : Expr} {mb : Env → S → R D} {pos pos2 p1 p2 p3 p4 p5 p6 : Pos} {j1 j2 j3 j4 j5 j6 : Nat}
theorem je_dsub {k1 k2 k3 v1 v2 v3 : Str} (h12 : k1 ≠ k2) (h13 : k1 ≠ k3) (h23 : k2 ≠ k3) (k : Cok X) (hb : PE X b (tM X W mb)) (hs : PlainIx b) :
    PE X (.Subscript (.Dict [some (.Constant (.str k1) j1 p1), some (.Constant (.str k2) j2 p2), some (.Constant (.str k3) j3 p3)] [.Constant (.str v1) j4 p4, .Constant (.str v2) j5 p5, .Constant (.str v3) j6 p6] pos2) b pos)
      (tM X W fun ρ s => (mb ρ s).bind fun y s2 => R.of s2 (dsD [(k1, v1), (k2, v2), (k3, v3)] y)) := by
  refine PE.imp (pe_dget (by have := k.un; omega) (pe_disp (pps_cons pe_str pe_str (pps_cons pe_str pe_str (pps_cons pe_str pe_str pps_nil))) rfl rfl (by simp) (show 3 ≤ 15 by decide)) hb hs) fun σ H Q ⟨ha, ρ, s, r, e, h⟩ q hq => ?_
  refine ⟨upd_same, [(.inr k1, .str v1), (.inr k2, .str v2), (.inr k3, .str v3)], rfl, show 3 ≤ 15 by decide, ?_⟩
  rw [upd_upd]
  have em : mergeK [] [((.inr k1 : Key), V.str v1), (.inr k2, .str v2), (.inr k3, .str v3)] = [(.inr k1, .str v1), (.inr k2, .str v2), (.inr k3, .str v3)] := by
    simp [mergeK, putK, h12, h13, h23]
  rw [em]
  have g0 : Rep X.K (upd H q (.dK [(.inr k1, .str v1), (.inr k2, .str v2), (.inr k3, .str v3)])) (Av ha s) ha (.ref q) (.dic [(.inr k1, .str v1), (.inr k2, .str v2), (.inr k3, .str v3)]) :=
    .dic upd_same (r.freeA hq) (show 3 ≤ sizeLine by decide) (.cons (.str _) (.cons (.str _) (.cons (.str _) .nil)))
  have x0 := Ext.new1 (K := X.K) (ha := ha) (s := s) (o := .dK [(.inr k1, .str v1), (.inr k2, .str v2), (.inr k3, .str v3)]) hq
  have r0 := r.new1 (o := .dK [(.inr k1, .str v1), (.inr k2, .str v2), (.inr k3, .str v3)]) hq
  refine ⟨ha, ρ, s, r0, e.ext x0 r, PtG.bind (PtG.ext h x0) fun y s2 w H2 ha2 r2 x2 g2 h2 => ?_⟩
  obtain ⟨d, e2, q2⟩ := PtG.of h2
  cases y with
  | str z =>
    cases g2
    have e2 : ([(k1, v1), (k2, v2), (k3, v3)].lookup z).map D.str = some d := e2
    have g1 := Rep.ext x2 r0 _ _ g0
    cases g1 with
    | dic c1 c2 c3 c4 =>
      cases c4 with
      | cons a1 c4 =>
        cases c4 with
        | cons a2 c4 =>
          cases c4 with
          | cons a3 c4 =>
            cases c4
            cases a1
            cases a2
            cases a3
            have gt := DGet.k (k := .inr z) c1
            have key : ∀ v : Str, [(k1, v1), (k2, v2), (k3, v3)].lookup z = some v → valV [((.inr k1 : Key), V.str v1), (.inr k2, .str v2), (.inr k3, .str v3)] (.inr z) = some (.str v) := fun v ev => by
              unfold valV
              by_cases z1 : z = k1
              · subst z1
                simp at ev ⊢
                exact ev
              · by_cases z2 : z = k2
                · subst z2
                  have b1 : (z == k1) = false := by simpa using z1
                  simp [List.lookup, b1, Ne.symm z1] at ev ⊢
                  exact ev
                · by_cases z3 : z = k3
                  · subst z3
                    have b1 : (z == k1) = false := by simpa using z1
                    have b2 : (z == k2) = false := by simpa using z2
                    simp [List.lookup, b1, b2, Ne.symm z1, Ne.symm z2] at ev ⊢
                    exact ev
                  · have b1 : (z == k1) = false := by simpa using z1
                    have b2 : (z == k2) = false := by simpa using z2
                    have b3 : (z == k3) = false := by simpa using z3
                    simp [List.lookup, b1, b2, b3] at ev
            cases el : [(k1, v1), (k2, v2), (k3, v3)].lookup z with
            | none => rw [el] at e2; cases e2
            | some v =>
              rw [el] at e2
              cases e2
              rw [key v el] at gt
              exact ⟨q, .str v, rfl, gt, q2 _ _ _ r2 Ext.refl (.str v)⟩
  | _ => cases e2
end
end RS

set_option Elab.async false
set_option linter.all false
set_option maxRecDepth 100000
set_option maxHeartbeats 4000000
/-! isinstance of caught errors, their fields -/
namespace RSX
open PySem PySem.Spec PySem.W PySem.Calls PyProof.Rows
section
variable {prog : Program} {w : World} {A : Around} {E : Value → Shared → Prop} {s : Shared} {K : Frag} {x D : Addr} {ox : Obj} {od : Option Obj}
theorem findObj_dataO {C : Addr} {name : Str} {a g : Value} (hc : (clsIn K C).isSome = true) (ha : findIn K (.ref C) name = some (some a)) (hg : specialIn K a "__get__" = some (some g)) (ht : takesIn K a = some true) : findObj K C od name = some (.bind g a) := by
  obtain ⟨cd, hc⟩ := Option.isSome_iff_exists.mp hc
  unfold findObj
  rw [hc, Option.bind_some, ha, Option.bind_some]
  simp [hg, ht]
theorem kin_classO {Q : Option Value → Shared → Prop} (hga : findIn K (.ref D) "__getattribute__" = some (some (.builtin "BaseException.__getattribute__"))) (hgt : findIn K (.ref D) "__getattr__" = some none) (hsub : subIn K (.ref D) (.type "BaseException") = some true)
    (hdct : hasDictIn K D = true) (ha : findIn K (.ref D) "__class__" = some (some (.builtin "object.__class__")))
    (hn : specialIn K (.builtin "object.__class__") "__get__" = some (some (.builtin "getset_descriptor.__get__"))) (htk : takesIn K (.builtin "object.__class__") = some true) (hm : mroIn K D (.type "object") = some true)
    (X : K.In s.heap) (I : InstAt s.heap x ox D od) (h : Q (some (.ref D)) { s with toks := s.toks + 1 }) : wpAny (model prog w) A (getAttr? (.ref x) "__class__") Q E s := by
  have hf : findObj K D od "__class__" = some (.bind (.builtin "getset_descriptor.__get__") (.builtin "object.__class__")) := findObj_dataO (by obtain ⟨cd, hc, _⟩ := any_some hdct; rw [hc]; rfl) ha hn htk
  obtain ⟨hp, g, d, t, os⟩ := s
  have L0 := I.type (M := model prog w)
  have L1 := looks_findIn (M := model prog w) X hga
  have L2 := looks_findIn (M := model prog w) X hgt
  have L3 := looks_find (M := model prog w) X I hf
  have sub : Looks (model prog w) hp (isInstance (.ref x) (.type "BaseException")) true := L0.andThen (looks_subIn X hsub)
  have hx0 : (false && onTheHeap (Value.builtin "BaseException.__getattribute__")) = false := rfl
  have hx2 : (Value.builtin "BaseException.__getattribute__" == Value.builtin "object.__getattribute__") = false := by decide +kernel
  have hx1 : (onTheHeap (Value.ref D) && Value.builtin "BaseException.__getattribute__" == Value.builtin "object.__getattribute__") = false := by rw [hx2]; rfl
  unfold getAttr? getAttrBy? getAttrBy
  refine wpAny_bind (wpAny_mkText (wpAny_bind (wpAny_attempt (wpAny_holding (wpAny_bind (L0.at (wpAny_bind (L1.at ?_))))))))
  show wpAny _ _ (if (onTheHeap (Value.ref D) && Value.builtin "BaseException.__getattribute__" == Value.builtin "object.__getattribute__") = true then _ else _) _ _ _
  rw [hx1, if_neg Bool.false_ne_true]
  unfold getAttrByItsOwn hookBefore
  refine wpAny_bind ?_
  rw [if_pos (show onTheHeap (Value.ref D) = true from rfl)]
  refine L2.at ?_
  refine wpAny_bind (wpAny_attempt (wpAny_holding ?_))
  unfold callGetattribute
  rw [hx0, if_neg Bool.false_ne_true]
  unfold boundAndCalled
  rw [PySem.F.excAttr_ValueError.ga.bind (.ref x)]
  refine wpAny_bind (wpAny_pure ?_)
  show wpAny _ _ (call (.builtin "BaseException.__getattribute__") [.ref x, .str "__class__" t]) _ _ _
  refine wpAny_call (codeAny_call_builtin PySem.F.excAttr_ValueError.ga.plain PySem.F.entry_bexc_ga ?_)
  refine @check_slot (model prog w) _ _ ⟨hp, g, d, t + 1, os⟩ "BaseException.__getattribute__" "BaseException" "__getattribute__" (.ref x) [.str "__class__" t] [] _ (by decide +kernel) (by decide +kernel) sub (PySem.F.args_bexc_ga (.ref x) (.str "__class__" t)) ?_
  unfold Builtin.«object.__getattribute__»
  refine wpAny_bind (wpAny_of_eq (a := ((Value.ref x : Value), [Value.str "__class__" t])) (by first | rfl | (simp only [slotArgs]; rfl)) ?_)
  refine wpAny_bind (wpAny_pure (wpAny_bind (L0.at (wpAny_bind (L3.at ?_)))))
  show wpAny _ _ (holding [Value.builtin "object.__class__"] (call (.builtin "getset_descriptor.__get__") [.builtin "object.__class__", .ref x, .ref D]) >>= ret) _ _ _
  refine wpAny_bind (wpAny_holding (wpAny_call (class_get (s := ⟨hp, g, d, t + 1, os⟩) (ox := ox) (od := od) X I hm ?_)))
  refine wpAny_pure ?_
  show wpAny _ _ (handedOut (.ref D)) _ _ _
  rw [handedOut_of (v := .ref D) rfl]
  first
    | exact wpAny_pure (wpAny_pure h)
    | exact wpAny_pure h
    | exact wpAny_pure (wpAny_bind (wpAny_pure (wpAny_pure h)))
theorem kitx_excO (hga : findIn K (.ref D) "__getattribute__" = some (some (.builtin "BaseException.__getattribute__"))) (hgt : findIn K (.ref D) "__getattr__" = some none) (hsub : subIn K (.ref D) (.type "BaseException") = some true) (hdct : hasDictIn K D = true) (ha : findIn K (.ref D) "__class__" = some (some (.builtin "object.__class__")))
    (hn : specialIn K (.builtin "object.__class__") "__get__" = some (some (.builtin "getset_descriptor.__get__"))) (htk : takesIn K (.builtin "object.__class__") = some true) (hm : mroIn K D (.type "object") = some true) :
    KitX K (.ref x) (.ref D) (fun h => InstAt h x ox D od) where
  ty := fun _ _ _ I => I.type
  it := fun _ _ X _ => by
    obtain ⟨cdD, hcD, _⟩ := any_some hdct
    unfold clsIn at hcD
    split at hcD
    · rename_i c' d' cd' sl' ho
      intro A' Q' E' s' k q
      unfold isType loadHead
      exact wpAny_bind (wpAny_loadPart (k _ _ (X _ _ ho)) (wpAny_pure q))
    · cases hcD
  ne := fun h tp dd its n sl X htp => by
    obtain ⟨cdD, hcD, _⟩ := any_some hdct
    refine Bool.eq_false_iff.mpr fun q => ?_
    have e : D = tp := Value.ref.inj (beq_iff_eq.mp q)
    subst e
    unfold clsIn at hcD
    split at hcD
    · rename_i c' d' cd' sl' ho
      have z := (X _ _ ho).symm.trans htp
      cases z
    · cases hcD
  ca := fun X I k => kin_classO hga hgt hsub hdct ha hn htk hm X I k
end
end RSX
namespace RS
open PySem PySem.Spec L2
open PyProof.Rows hiding St
/-- a caught exception -/
def HeldX (K : PySem.W.Frag) (H : Hp) (p : Addr) (c : Str) : Prop := ∃ d, H p = some (ExT K c d p) ∧ ClsF K c ∧ ∀ dd, d = some dd → ∃ fs, H dd = some (.xd fs)
theorem HeldX.inst {X : Cx} {pins : List (Addr × Obj)} {σ : L2.St} {H : Hp} {s : Shared} {p : Addr} {c : Str} (I : Inv X pins σ H s) (h : HeldX X.K H p c) : ∃ oe od, PySem.W.InstAt s.heap p oe (He.ga X.K c) od := by
  obtain ⟨d, e, _, hd⟩ := h
  obtain ⟨oe, vs, e1, ⟨z1, z2⟩, e2⟩ := exT_at I.hok e
  have no : PySem.W.notCls oe = true := by unfold PySem.W.notCls; rw [e2] <;> rfl
  cases d with
  | none => exact ⟨oe, none, e1, z1, no, by rw [z2]; exact True.intro⟩
  | some dd =>
    obtain ⟨fs, ed⟩ := hd dd rfl
    have hx : ObjOk X.prog X.w H s.heap dd (.xd fs) := I.hok dd _ ed
    obtain ⟨mA, hns, hr⟩ := hx
    obtain ⟨od, ho, hl⟩ := lookIn_ns hns
    exact ⟨oe, some od, e1, z1, no, by rw [z2]; exact ho⟩
theorem HeldX.kit {X : Cx} {pins : List (Addr × Obj)} {σ : L2.St} {H : Hp} {s : Shared} {p : Addr} {c : Str} (I : Inv X pins σ H s) (h : HeldX X.K H p c) : ∃ P : Heap → Prop, PySem.W.KitX X.K (.ref p) (.ref (He.ga X.K c)) P ∧ P s.heap := by
  obtain ⟨oe, od, J⟩ := h.inst I
  obtain ⟨_, _, C, _⟩ := h
  exact ⟨_, RSX.kitx_excO C.exc.hg C.exc.hk C.exc.hs C.exc.hd C.exc.ha C.exc.hn C.exc.ht C.exc.hm, J⟩
def rIsX (K : PySem.W.Frag) : List V → Hp → VK → Prop := fun xs H Q => ∃ (p : Addr) (c : Str) (k : V) (u : Value) (b : Bool), xs = [.ref p, k] ∧ HeldX K H p c ∧ ClsV k u ∧ PySem.W.kitOne K (.ref (He.ga K c)) u = some b ∧ Q (.bl b) H
def rIsXT (K : PySem.W.Frag) : List V → Hp → VK → Prop := fun xs H Q => ∃ (p tp : Addr) (c : Str) (ks : List V) (us : List Value) (b : Bool), xs = [.ref p, .ref tp] ∧ H tp = some (.tup ks) ∧ HeldX K H p c ∧ Paired ClsV ks us ∧ PySem.W.kitAny K (.ref (He.ga K c)) us = some b ∧ Q (.bl b) H
section
variable {X : Cx} {W : WX} {a : Expr} {ma mb : Env → S → R D} {pos : Pos}
theorem call_isX : CallR X (.builtin "isinstance") (rIsX X.K) := by
  intro pins s σ H xs us Q I r h
  obtain ⟨p, c, k, u, b, rfl, hx, kc, e, q⟩ := h
  obtain ⟨u1, u2, rfl, r1, r2⟩ := vals2 r
  cases (show u1 = Value.ref p from r1)
  have e2 := kc.eq r2
  subst e2
  obtain ⟨P, Z, z⟩ := hx.kit I
  exact PySem.W.kia_one Z I.kIn z e (fun z => nomatch z) fun tk => ⟨.bl b, H, I.tok tk, rfl, q⟩
theorem call_isXT : CallR X (.builtin "isinstance") (rIsXT X.K) := by
  intro pins s σ H xs us Q I r h
  obtain ⟨p, tp, c, ks, ws, b, rfl, hT, hx, kc, e, q⟩ := h
  obtain ⟨u1, u2, rfl, r1, r2⟩ := vals2 r
  cases (show u1 = Value.ref p from r1)
  cases (show u2 = Value.ref tp from r2)
  obtain ⟨P, Z, z⟩ := hx.kit I
  obtain ⟨_, its, rv, o, h1, h2, n, h3⟩ := (show ObjOk X.prog X.w H s.heap tp (.tup ks) from I.hok tp _ hT)
  have e3 := ClsV.all kc rv
  subst e3
  obtain ⟨oc, od, dt, sl⟩ := o
  simp only at h2 h3
  subst h2 h3
  exact PySem.W.kia_tup Z I.kIn z h1 e (fun z => nomatch z) fun tk => ⟨.bl b, H, I.tok tk, rfl, q⟩
/-- a class of errors, as a value -/
def clsV (K : PySem.W.Frag) (x : Str) : V := if x == ("ValueError" : Str) then .ty "ValueError" else if x == ("LookupError" : Str) then .ty "LookupError" else .ref (He.ga K x)
theorem clsV_ok (K : PySem.W.Frag) (x : Str) : ClsV (clsV K x) (excV K x) := by
  unfold clsV excV
  by_cases h : (x == ("ValueError" : Str)) = true
  · rw [if_pos h, if_pos h]; exact .ty _
  · rw [if_neg h, if_neg h]
    by_cases h2 : (x == ("LookupError" : Str)) = true
    · rw [if_pos h2, if_pos h2]; exact .ty _
    · rw [if_neg h2, if_neg h2]; exact .own _
/-- the name of a class of errors, as the context knows it -/
structure NmC (X : Cx) (x : Str) : Prop where
  gl : Gl X x
  db : (x == ("__debug__" : Str)) = false
  mem : x ∈ excNms
  kn : excKn X.K x = true
  mg : X.mg x = if excBlt x then none else some (.ref (He.ga X.K x))
theorem NmC.names {x : Str} (n : NmC X x) : Names X x (excV X.K x) := by
  refine ⟨n.gl, n.db, ?_⟩
  have hm := n.mg
  unfold excBlt at hm
  unfold excV
  by_cases h : (x == ("ValueError" : Str)) = true
  · rw [if_pos h]
    rw [h, Bool.true_or, if_pos rfl] at hm
    cases beq_iff_eq.mp h
    exact .inr ⟨hm, by decide +kernel, by decide⟩
  · rw [if_neg h]
    by_cases h2 : (x == ("LookupError" : Str)) = true
    · rw [if_pos h2]
      rw [h2, Bool.or_true, if_pos rfl] at hm
      cases beq_iff_eq.mp h2
      exact .inr ⟨hm, by decide +kernel, by decide⟩
    · rw [if_neg h2]
      rw [Bool.not_eq_true] at h h2
      rw [h, h2, Bool.or_false, if_neg Bool.false_ne_true] at hm
      exact .inl hm
theorem pe_cls {x : Str} (n : NmC X x) : PE X (.Name x pos) (tC (clsV X.K x)) := by
  have hm := n.mg
  unfold excBlt at hm
  unfold clsV
  by_cases h : (x == ("ValueError" : Str)) = true
  · rw [if_pos h]
    rw [h, Bool.true_or, if_pos rfl] at hm
    cases beq_iff_eq.mp h
    exact pe_bltn n.gl hm (by decide +kernel) rfl
  · rw [if_neg h]
    by_cases h2 : (x == ("LookupError" : Str)) = true
    · rw [if_pos h2]
      rw [h2, Bool.or_true, if_pos rfl] at hm
      cases beq_iff_eq.mp h2
      exact pe_bltn n.gl hm (by decide +kernel) rfl
    · rw [if_neg h2]
      rw [Bool.not_eq_true] at h h2
      rw [h, h2, Bool.or_false, if_neg Bool.false_ne_true] at hm
      exact pe_glob n.gl hm rfl n.db
theorem kit_any {K : PySem.W.Frag} {c : Str} (C : ClsF K c) : ∀ {cs : List Str}, (∀ x ∈ cs, x ∈ excNms ∧ excKn K x = true) → PySem.W.kitAny K (.ref (He.ga K c)) (cs.map (excV K)) = some (cs.any (excSub c))
  | [], _ => rfl
  | x :: cs, h => by
    have e := C.kit x (h x List.mem_cons_self).1 (h x List.mem_cons_self).2
    refine kitAny_cons (b := excSub c x) e (fun z => ?_) (fun z => ?_)
    · rw [List.any_cons, z, Bool.false_or]
      exact kit_any C fun y hy => h y (List.mem_cons_of_mem _ hy)
    · rw [List.any_cons, z, Bool.true_or]
theorem held_of {K : PySem.W.Frag} {H : Hp} {A : Addr → Prop} {ha : HA} {v : V} {c f : Str} {x : D} (g : Rep K H A ha v (.xcp c f x)) : ∃ p, v = .ref p ∧ HeldX K H p c := by
  cases g with
  | xc0 h1 h2 h3 => exact ⟨_, rfl, none, h1, h3, fun _ z => by cases z⟩
  | xc1 h1 h2 h3 h4 h5 h6 h7 => exact ⟨_, rfl, _, h1, h6, fun dd z => by cases z; exact ⟨_, h3⟩⟩
theorem xis_at {cs : List Str} {x : D} {b : Bool} (e : xisD cs x = some b) : ∃ c f y, x = .xcp c f y ∧ b = cs.any (excSub c) := by
  cases x with
  | xcp c f y => cases e; exact ⟨c, f, y, rfl, rfl⟩
  | _ => cases e
/-- isinstance(e, C) -/
theorem je_xis1 {x : Str} {p p2 : Pos} (hg : Gl X "isinstance") (hm : X.mg "isinstance" = none) (n : NmC X x) (hs : starEach [a, .Name x p2] X.env = (false, eval a X.env) :: starEach [.Name x p2] X.env) (ha : PE X a (tM X W ma)) :
    PE X (.Call (.Name "isinstance" p) [a, .Name x p2] [] pos) (tM X W fun ρ s => (ma ρ s).bind fun y s1 => R.of s1 ((xisD [x] y).map .bl)) := by
  refine PE.imp (pe_callB call_isX hg hm (by decide +kernel) (pa_cons ha (pa_cons (pe_cls n) pa_nil rfl) hs) (he := hs) (hpl := rfl)) fun σ H Q ⟨ha, ρ, s, r0, e0, h⟩ => ?_
  refine ⟨ha, ρ, s, r0, e0, PtG.bind h fun y s1 v H1 ha1 r1 x1 g1 h1 => ?_⟩
  obtain ⟨d, e, q⟩ := PtG.of h1
  cases e2 : xisD [x] y with
  | none => rw [e2] at e; cases e
  | some b =>
    rw [e2] at e
    cases e
    obtain ⟨c, f, z, rfl, rfl⟩ := xis_at e2
    obtain ⟨p, rfl, hx⟩ := held_of g1
    have C := hx
    obtain ⟨_, _, C, _⟩ := C
    refine ⟨p, c, clsV X.K x, excV X.K x, [x].any (excSub c), rfl, hx, clsV_ok _ _, ?_, q _ _ _ r1 Ext.refl (.bl _)⟩
    rw [C.kit x n.mem n.kn, List.any_cons, List.any_nil, Bool.or_false]
/-- the classes of a display -/
theorem pa_cls : ∀ {es : List Expr} {cs : List Str}, Paired (fun e x => ∃ p, e = Expr.Name x p ∧ NmC X x) es cs → PA X es (fun _ H Q => Q (cs.map (clsV X.K)) H)
  | _, _, .nil => pa_nil
  | _, _, .cons ⟨p, e, n⟩ t => by
    subst e
    exact pa_cons (pe_cls n) (pa_cls t) rfl
theorem paired_clsV (K : PySem.W.Frag) : ∀ cs : List Str, Paired ClsV (cs.map (clsV K)) (cs.map (excV K))
  | [] => .nil
  | x :: cs => .cons (clsV_ok K x) (paired_clsV K cs)
theorem paired_nm : ∀ {es : List Expr} {cs : List Str}, Paired (fun e x => ∃ p, e = Expr.Name x p ∧ NmC X x) es cs → ∀ x ∈ cs, x ∈ excNms ∧ excKn X.K x = true
  | _, _, .nil => fun x h => by cases h
  | _, _, .cons ⟨p, e, n⟩ t => fun x h => by
    rcases List.mem_cons.mp h with rfl | h
    · exact ⟨n.mem, n.kn⟩
    · exact paired_nm t x h
/-- isinstance(e, (C1, C2, ..)) -/
theorem je_xisT {es : List Expr} {cs : List Str} {k : Nat} {p p2 : Pos} (hg : Gl X "isinstance") (hm : X.mg "isinstance" = none) (hx : Paired (fun e x => ∃ p, e = Expr.Name x p ∧ NmC X x) es cs) (hl : cs.length ≤ 1000)
    (hs : starEach [a, .Tuple es k p2] X.env = (false, eval a X.env) :: starEach [.Tuple es k p2] X.env) (ha : PE X a (tM X W ma)) :
    PE X (.Call (.Name "isinstance" p) [a, .Tuple es k p2] [] pos) (tM X W fun ρ s => (ma ρ s).bind fun y s1 => R.of s1 ((xisD cs y).map .bl)) := by
  refine PE.imp (pe_callB call_isXT hg hm (by decide +kernel) (pa_cons ha (pa_cons (pe_tup (pa_cls hx)) pa_nil rfl) hs) (he := hs) (hpl := rfl)) fun σ H Q ⟨ha, ρ, s, r0, e0, h⟩ => ?_
  refine ⟨ha, ρ, s, r0, e0, PtG.bind h fun y s1 v H1 ha1 r1 x1 g1 h1 => ?_⟩
  refine ⟨by rw [List.length_map, sizeLine_eq]; omega, fun tp htp => ?_⟩
  obtain ⟨d, e, q⟩ := PtG.of h1
  cases e2 : xisD cs y with
  | none => rw [e2] at e; cases e
  | some b =>
    rw [e2] at e
    cases e
    obtain ⟨c, f, z, rfl, rfl⟩ := xis_at e2
    have g2 := Rep.ext (Ext.new1 (K := X.K) (ha := ha1) (s := s1) (p := tp) (o := .tup (cs.map (clsV X.K))) htp) r1 _ _ g1
    obtain ⟨p, rfl, hx2⟩ := held_of g2
    have C := hx2
    obtain ⟨_, _, C, _⟩ := C
    refine ⟨p, tp, c, _, cs.map (excV X.K), cs.any (excSub c), rfl, upd_same, hx2, paired_clsV _ _, kit_any C (paired_nm hx), q _ _ ha1 (r1.new1 htp) (Ext.new1 (K := X.K) htp) (.bl _)⟩

/-! ### a field of a caught error -/
def tXfT (K : PySem.W.Frag) (f : Str) (te : TE) : TE := fun σ H Q => te σ H fun x H1 => ∃ (p dd : Addr) (c : Str) (v : V), x = .ref p ∧ H1 p = some (ExT K c (some dd) p) ∧ H1 dd = some (.xd [(f, v)]) ∧ ExcC K (He.ga K c) ∧ NoF K c f ∧ Q v H1
theorem pe_xfT {te : TE} {f : Str} (he : PE X a te) (hb : attributeBase a f X.env (eval a X.env) = eval a X.env) : PE X (.Attribute a f pos) (tXfT X.K f te) := by
  refine ⟨fun pins s σ H Q I h => ?_⟩
  refine attr_of hb (thn (he.run pins s σ H _ I h) fun u s1 hh => ?_)
  obtain ⟨x, H1, I1, rx, p, dd, c, v, ex, ep, ed, C, hno, q⟩ := hh
  subst ex
  obtain rfl : u = Value.ref p := rx
  obtain ⟨oe, vs, e1, ⟨z1, z2⟩, e2⟩ := exT_at I1.hok ep
  have hx : ObjOk X.prog X.w H1 s1.heap dd (.xd [(f, v)]) := I1.hok dd _ ed
  obtain ⟨mA, hns, hr⟩ := hx
  obtain ⟨od, ho, hl⟩ := lookIn_ns hns
  obtain ⟨u, hu, ru⟩ := RelO.some_of (v := v) (o := mA f) (by
    have := hr f
    rw [lookup_put, if_pos rfl] at this
    exact this)
  have J : PySem.W.InstAt s1.heap p oe (He.ga X.K c) (some od) := ⟨e1, z1, by unfold PySem.W.notCls; rw [e2] <;> rfl, by rw [z2]; exact ho⟩
  exact HandSPX.exc_get I1.kIn J C.hg C.hk C.hs (PySem.W.findObj_own C.hd hno rfl (by rw [hl, hu])) (handed_of ru) ⟨v, H1, I1.tok _, ru, q⟩
theorem je_xf {f : Str} (ha : PE X a (tM X W ma)) (hb : attributeBase a f X.env (eval a X.env) = eval a X.env) :
    PE X (.Attribute a f pos) (tM X W fun ρ s => (ma ρ s).bind fun y s1 => R.of s1 (xfD f y)) := by
  refine PE.imp (pe_xfT ha hb) fun σ H Q ⟨ha, ρ, s, r0, e0, h⟩ => ?_
  refine ⟨ha, ρ, s, r0, e0, PtG.bind h fun y s1 v H1 ha1 r1 x1 g1 h1 => ?_⟩
  obtain ⟨d, e, q⟩ := PtG.of h1
  cases y with
  | xcp c g z =>
    have e' : (if g == f && f != ("" : Str) then some z else none) = some d := e
    by_cases hc : (g == f && f != ("" : Str)) = true
    · rw [if_pos hc] at e'
      cases e'
      obtain ⟨k1, k2⟩ := Bool.and_eq_true_iff.mp hc
      cases beq_iff_eq.mp k1
      cases g1 with
      | xc0 => simp at k2
      | xc1 h1 h2 h3 h4 h5 h6 h7 => exact ⟨_, _, _, _, rfl, h1, h3, h6.exc, h7, q _ _ _ r1 Ext.refl h5⟩
    · rw [if_neg hc] at e'; cases e'
  | _ => cases e
end
end RS

set_option Elab.async false
set_option linter.all false
set_option maxRecDepth 100000
set_option maxHeartbeats 2000000
/-! count of a bool, an int in a list of such -/
namespace RS
open PySem PySem.Spec L2
open PyProof.Rows hiding St
def rCntF (K : PySem.W.Frag) : V → List V → Hp → VK → Prop := fun x xs H Q => ∃ (p : Addr) (ys : List V) (y : V), x = .ref p ∧ xs = [y] ∧ SqL K H p ys ∧ ys.all flatV = true ∧ flatV y = true ∧ Q (.int ((ys.countP fun z => eqV z y : Nat) : Int)) H
theorem count_eqU {x : V} : ∀ {xs : List V} {us : List Value}, Vals xs us → xs.all flatV = true → us.countP (eqU x) = xs.countP fun y => eqV y x
  | _, _, .nil, _ => rfl
  | y :: xs, u :: us, .cons r t, f => by
    rw [List.all_cons, Bool.and_eq_true] at f
    rw [List.countP_cons, List.countP_cons, eqU_of r f.1, count_eqU t f.2]
theorem mt_cntF {X : Cx} : MtR X "list.count" (rCntF X.K) := by
  intro pins s σ H x xs v us Q I rx rxs h
  obtain ⟨p, ys, y, rfl, rfl, hs, fs, fy, q⟩ := h
  cases rx
  obtain ⟨u, rfl, ru⟩ := rxs.one
  obtain ⟨its, rv, ⟨⟨cls, dd, data, sl⟩, n, ho, hc, hdn, hd⟩, hlen⟩ := I.list hs
  simp only at hc hd
  subst hc hd
  refine call_meets PySem.F.slot_list_count ⟨_, ho, rfl⟩ PySem.F.entry_list_count (PySem.F.args_list_count_2 _ _)
    (SeqAt.list_countAt p its.toArray n dd sl u (eqU y)) ⟨ho, fun w hw => mem_eqAt ru fy rv fs w (by simpa using hw), ?_⟩
  have ec : its.toArray.toList.countP (eqU y) = ys.countP fun z => eqV z y := by
    show its.countP (eqU y) = _
    exact count_eqU rv fs
  refine ⟨.int ((ys.countP fun z => eqV z y : Nat) : Int), H, I.tok _, ⟨s.toks, ?_⟩, q⟩
  show Value.int ((its.toArray.toList.countP (eqU y) : Nat) : Int) s.toks = Value.int ((ys.countP fun z => eqV z y : Nat) : Int) s.toks
  rw [ec]
theorem flat_of_ints (ns : List Int) : (ns.map V.int).all flatV = true := by simp [flatV]
theorem flat_of_bools (ns : List Bool) : (ns.map V.bl).all flatV = true := by simp [flatV]
section
variable {X : Cx} {W : WX} {a b : Expr} {ma mb : Env → S → R D} {pos : Pos}
theorem je_cnt {apos : Pos} (ha : PE X a (tM X W ma)) (hb : PE X b (tM X W mb)) (hbase : attributeBase a "count" X.env (eval a X.env) = eval a X.env)
    (hfew : ((backTo pos (starEach [b] X.env)).all (fun x => !x.1) && (backToKw pos (keywordEach [] X.env)).all (fun x => x.1.isSome)
      && decide (([b] : List Expr).length + ([] : List Keyword).length + (if ([] : List Keyword).isEmpty then 0 else 1) < 30)) = true)
    (hline : (apos.endLine == pos.line) = true) (hs : starEach [b] X.env = (false, eval b X.env) :: starEach [] X.env) :
    PE X (.Call (.Attribute a "count" apos) [b] [] pos) (tM X W fun ρ s => (ma ρ s).bind fun x s1 => if (lstOf s1 x).isSome then (mb ρ s1).bind fun y s2 => R.of s2 (cntD s2 x y) else .bad) := by
  refine PE.imp (pe_bm PySem.F.plainAttrs_list PySem.F.slot_list_count PySem.F.type_list_count mt_cntF ha (pa_cons hb pa_nil hs) hbase hfew hline hs rfl) fun σ H Q ⟨ha, ρ, s, r, e, h⟩ => ?_
  refine ⟨ha, ρ, s, r, e, PtG.bind h fun x s1 v H1 ha1 r1 x1 g1 h1 => ?_⟩
  cases hm : lstOf s1 x with
  | none => rw [hm] at h1; exact h1.elim
  | some xs0 =>
    rw [hm, if_pos (show (some xs0).isSome = true from rfl)] at h1
    obtain ⟨p, vs, rfl, hv, _, _⟩ := lst_at r1 g1 hm
    refine ⟨.inl ⟨rfl, vs, SqL.of hv⟩, ?_⟩
    refine ⟨ha1, ρ, s1, r1, e.ext x1 r, PtG.bind h1 fun y s2 w H2 ha2 r2 x2 g2 h2 => ?_⟩
    obtain ⟨d, e2, q⟩ := PtG.of h2
    have g3 := Rep.ext x2 r1 _ _ g1
    cases y with
    | bl k =>
      have e3 : ((lstOf s2 x).bind boolsOf).map (fun bs => D.int ((bs.count k : Nat) : Int)) = some d := e2
      cases hx : lstOf s2 x with
      | none => rw [hx] at e3; cases e3
      | some xs =>
        rw [hx] at e3
        have e4 : (boolsOf xs).map (fun bs => D.int ((bs.count k : Nat) : Int)) = some d := e3
        cases hb : boolsOf xs with
        | none => rw [hb] at e4; cases e4
        | some bs =>
          rw [hb] at e4
          cases e4
          obtain ⟨p', vs', e5, h5, h6, h7⟩ := lst_at r2 g3 hx
          cases e5
          have e6 := Reps.bools h7 hb
          subst e6
          cases g2
          refine ⟨p, bs.map V.bl, .bl k, rfl, rfl, SqL.of h5, flat_of_bools bs, rfl, ?_⟩
          have ec : (bs.map V.bl).countP (fun z => eqV z (.bl k)) = bs.count k := by
            rw [List.countP_map, List.count]
            congr 1
          rw [ec]
          exact q _ _ _ r2 Ext.refl (.int _)
    | int k =>
      have e3 : ((lstOf s2 x).bind intsOf).map (fun bs => D.int ((bs.count k : Nat) : Int)) = some d := e2
      cases hx : lstOf s2 x with
      | none => rw [hx] at e3; cases e3
      | some xs =>
        rw [hx] at e3
        have e4 : (intsOf xs).map (fun bs => D.int ((bs.count k : Nat) : Int)) = some d := e3
        cases hb : intsOf xs with
        | none => rw [hb] at e4; cases e4
        | some bs =>
          rw [hb] at e4
          cases e4
          obtain ⟨p', vs', e5, h5, h6, h7⟩ := lst_at r2 g3 hx
          cases e5
          have e6 := Reps.ints h7 hb
          subst e6
          cases g2
          refine ⟨p, bs.map V.int, .int k, rfl, rfl, SqL.of h5, flat_of_ints bs, rfl, ?_⟩
          have ec : (bs.map V.int).countP (fun z => eqV z (.int k)) = bs.count k := by
            rw [List.countP_map, List.count]
            congr 1
          rw [ec]
          exact q _ _ _ r2 Ext.refl (.int _)
    | _ => cases e2
end
end RS

set_option Elab.async false
set_option linter.all false
set_option maxRecDepth 100000
set_option maxHeartbeats 4000000
/-! raise, try .. except -/
namespace RS
open PySem PySem.Spec L2
open PyProof.Rows hiding St

/-! ### raise -/
/-- a class without own __init__ that is raised -/
structure Rai0 (K : PySem.W.Frag) (mg : Str → Option Value) (x : Str) : Prop where
  gm : mg x = some (.ref (He.ga K x))
  ex : PySem.W.excIn K (He.ga K x) He.veBase "ValueError.__new__" = true
  kp : PySem.W.keepIn K (.ref (He.ga K x)) = true
  sb : PySem.W.subIn K (.ref (He.ga K x)) (.type "BaseException") = some true
  ty : PySem.W.typeIn K (.ref (He.ga K x)) = some (.type "type")
  cl : ClsF K x
section
variable {X : Cx} {W : WX} {e : Expr} {me : Env → S → R D} {x f : Str} {p pos pos' : Pos}
theorem pmk_own0 {C : Addr} {bmB : List Value} {B newId initId : String} (F : ExcBaseFacts B newId initId bmB) (q : PySem.W.excIn X.K C bmB newId = true) (gC : X.mg x = some (.ref C))
    (kC : PySem.W.keepIn X.K (.ref C) = true) (r : Raises X (.ref C)) (hg : Gl X x) (hdb : (x == ("__debug__" : Str)) = false) :
    PMk X (.Call (.Name x p) [] [] pos) (fun _ H Q => Q (.ref C) none H) := by
  intro pins s σ H Q I h
  refine wpAny_Call_Name_kw (ld_glob I hg gC ?_ hdb)
  refine PySem.W.callWith_K0 I.kIn kC ?_
  show wpAny _ _ (call (.ref C) []) _ _ _
  obtain ⟨bm, N, nm, qn, bs, hdct, sn, sub, ab, col, dd, k0, k1, k2, k3, k5, mN, hC, hN, hni, T⟩ := exc_obj I.kIn q
  refine wpAny_call_exc_subT F T hC hN hni (fun h' e hm => ?_) (by show 0 ≤ sizeLine; exact Nat.zero_le _)
  exact mk_of I hm r h (I.hok.gone hm.new)
theorem js_rai (hc : X.calm = true) (tk : Takes X W) (r : Rai0 X.K X.mg x) (hg : Gl X x) (hdb : (x == ("__debug__" : Str)) = false) :
    PS X (.Raise (some (.Call (.Name x p) [] [] pos)) none pos') (tS X W fun ρ s => .exc x [] ρ s) :=
  PS.imp (ps_raise hc tk (pmk_own0 PySem.F.excBase_ValueError r.ex r.gm r.kp (raises_own r.sb r.ty) hg hdb)) fun E σ H ⟨ha, ρ, s, r0, e0, h⟩ =>
    h σ H ha _ _ r0 Ext.refl e0 ⟨rfl, r.cl, .inl ⟨rfl, rfl⟩⟩

/-! ### a class with an __init__ that keeps its argument -/
def spI (C : Addr) (f : Str) : Sp := fun vs H Q _ => ∃ a y, vs = [V.ref a, y] ∧ H a = some (exo a C none) ∧ ∀ dx, H dx = none → dx ≠ a → Q .non (upd (upd H dx (exd dx [(f, y)])) a (exo a C (some dx)))
structure Rai1 (P : Program) (w : World) (K : PySem.W.Frag) (mg : Str → Option Value) (base : Heap) (x f : Str) : Prop where
  gm : mg x = some (.ref (He.ga K x))
  oe : OexC K (He.ga K x)
  ini : PySem.W.findIn K (.ref (He.ga K x)) "__init__" = some (some (.ref (He.ma K (He.ga K x) "__init__")))
  ty : PySem.W.typeIn K (.ref (He.ma K (He.ga K x) "__init__")) = some (.type "function")
  fn : ∃ fd ps, FnOk P w K mg base (L2.CX P w) 1 (He.ma K (He.ga K x) "__init__") fd ps (spI (He.ga K x) f) ∧ Binds K fd ps []
  nof : NoF K x f
  cl : ClsF K x
theorem del_upd {H1 : Hp} {a dx C : Addr} {u u' o o' : HO} (ha : H1 a = none) (ne : dx ≠ a) : upd (del (upd (upd (upd H1 a u) dx u') a o) a) dx o' = upd H1 dx o' := by
  funext b
  by_cases h1 : b = dx
  · subst h1; rw [upd_same, upd_same]
  · rw [upd_ne h1, upd_ne h1]
    by_cases h2 : b = a
    · subst h2; rw [del_same, ha]
    · rw [del_ne h2, upd_ne h2, upd_ne h1, upd_ne h2]
theorem js_rai1 {k : Nat} (hc : X.calm = true) (hr : Room (k + 2) X.A) (tk : Takes X W) (r : Rai1 X.prog X.w X.K X.mg X.base x f) (hg : Gl X x) (hdb : (x == ("__debug__" : Str)) = false) (he : PE X e (tM X W me))
    (hs : starEach [e] X.env = (false, eval e X.env) :: starEach [] X.env) :
    PS X (.Raise (some (.Call (.Name x p) [e] [] pos)) none pos') (tS X W fun ρ s => (me ρ s).bind fun d s1 => .exc x [(f, d)] ρ s1) := by
  obtain ⟨fd, ps, F, hb⟩ := r.fn
  refine PS.imp (ps_raise hc tk (pmk_oex r.oe r.ini r.ty (F.mono (by omega : 1 ≤ k + 1)) hr hb .nil passL hg r.gm (pa_cons he pa_nil hs) hdb hs rfl)) fun E σ H ⟨ha, ρ, s, r0, e0, h⟩ => ?_
  refine ⟨ha, ρ, s, r0, e0, PtG.stm h fun d s1 v H1 ha1 r1 x1 g1 q => ?_⟩
  refine ⟨by simp, fun a na => ⟨a, v, rfl, upd_same, fun dx n ne => ?_⟩⟩
  have n1 : H1 dx = none := by rw [upd_ne ne] at n; exact n
  refine ⟨rfl, dx, [(f, v)], upd_same, by rw [upd_ne ne, upd_same], n1, ?_⟩
  rw [del_upd (C := a) na ne]
  have x2 := Ext.new1 (K := X.K) (ha := ha1) (s := s1) (o := HO.xd [(f, v)]) n1
  have r2 := SRel.new1 (o := HO.xd [(f, v)]) r1 n1
  exact q σ _ ha1 _ _ r2 x2 ((e0.ext x1 r0).ext x2 r1) ⟨rfl, r.cl, .inr ⟨f, d, dx, v, rfl, rfl, upd_same, fun z => r1.freeA n1 z, Rep.ext x2 r1 _ _ g1, r.nof⟩⟩
end

/-! ### try -/
section
variable {X : Cx} {pins : List (Addr × Obj)} {σ : L2.St} {H : Hp} {s : Shared}
/-- the caught exception, tracked -/
theorem Inv.track {sI : Shared} {a : Addr} {c : Str} {d : Option Addr} {oe : Obj} {vs : Array Value} (J : Inv X pins σ H s) (JI : Inv X pins σ H sI) (ha : s.heap.get? a = some oe) (hz : Zc (.ref (He.ga X.K c)) d oe) (hd : oe.data = .fields vs)
    (na : H a = none) (nL : a ≠ X.env.locals) (nB : ∀ b o, sI.heap.get? b = some o → b = X.env.locals ∨ b ∈ X.fs ∨ b ≠ a) (nF : a ∉ X.fs) :
    Inv (X.suite a (X.pn ++ pins)) [] σ (upd H a (ExT X.K c d a)) s := by
  have nsI : sI.heap.get? a = none := by
    cases e : sI.heap.get? a with
    | none => rfl
    | some o =>
      rcases nB a o e with z | z | z
      · exact absurd z nL
      · exact absurd z nF
      · exact absurd rfl z
  have ns0 : ∀ b o, X.s_0.heap.get? b = some o → b ∉ X.ex → b ≠ a := fun b o e hx z => by
    obtain ⟨o', e'⟩ := JI.base.there b o e hx
    rw [z, nsI] at e'
    cases e'
  refine ⟨J.ok.suite _ _, J.os, J.bare, ⟨J.base.keep, J.base.slot, fun b o e n hx => ?_, J.base.there, fun b xs e => ?_, fun b o u e => ?_, fun b ps e => ?_⟩, J.loc, J.cell, ?_, fun y cc e => ?_, fun p hp => ?_, fun b o e => ?_, J.len⟩
  · rw [upd_ne (ns0 b o e hx)]; exact J.base.free b o e n hx
  · have z := J.base.tups b xs e
    rw [upd_ne (ne_of_none z na)]; exact z
  · have z := J.base.frzs b o u e
    rw [upd_ne (ne_of_none z na)]; exact z
  · obtain ⟨more, z⟩ := J.base.tbls b ps e
    exact ⟨more, by rw [upd_ne (ne_of_none z na)]; exact z⟩
  · show upd H a _ X.env.locals = none
    rw [upd_ne (Ne.symm nL)]; exact J.free
  · have hne : cc ≠ a := fun z => by
      obtain ⟨w', hw⟩ := J.cell y cc e
      obtain ⟨o, ho, hdd⟩ := hw
      rw [z, ha] at ho
      cases ho
      rw [hd] at hdd
      cases hdd
    rw [upd_ne hne]; exact J.freeC y cc e
  · have hp' : p ∈ X.pn ++ pins := by rw [List.append_nil] at hp; exact hp
    obtain ⟨e1, e2, e3, e4, e5⟩ := J.pin p hp'
    obtain ⟨f1, _⟩ := JI.pin p hp'
    have hne : p.1 ≠ a := fun z => by rw [z, nsI] at f1; cases f1
    exact ⟨e1, by rw [upd_ne hne]; exact e2, e3, e4, e5⟩
  · by_cases hb : b = a
    · subst hb
      rw [upd_same] at e
      cases e
      exact exT_ok ha hz hd
    · rw [upd_ne hb] at e
      exact (J.hok b o e).stay (fun _ _ _ q => q) (fun c' hc => by rw [upd_ne (ne_of_none hc na)]; exact hc) fun c' xs hc => by rw [upd_ne (ne_of_none hc na)]; exact hc
theorem Inv.unsuite0 {a : Addr} {pn' : List (Addr × Obj)} (I : Inv (X.suite a (X.pn ++ pins)) pn' σ H s) (ok : X.Ok) : Inv X pins σ H s :=
  ⟨ok, I.os, I.bare, I.base, I.loc, I.cell, I.free, I.freeC, fun p hp => I.pin p (List.mem_append_left _ hp), I.hok, I.len⟩
end
theorem ERel.del {K : PySem.W.Frag} {H : Hp} {A : Addr → Prop} {ha : HA} {σ : L2.St} {ρ : Env} (e : ERel K H A ha σ ρ) (i : Nat) : ERel K H A ha (σ.set i none) (ρ.set i none) := by
  refine ⟨by simp [e.len], fun j d h => ?_⟩
  by_cases hj : i = j
  · subst hj
    by_cases hl : i < ρ.length
    · rw [List.getElem?_set_self hl] at h; cases h
    · rw [List.getElem?_eq_none (by simpa using hl)] at h; cases h
  · rw [List.getElem?_set_ne hj] at h ⊢
    exact e.get j d h
abbrev W0 : WX := fun _ _ _ _ => False
abbrev HSem := Str → List (Str × D) → Env → S → R Fl
/-- the clauses, one after the other -/
inductive HdsX (X : Cx) : List ExceptHandler → HSem → Prop
  | nil : HdsX X [] (fun c fs ρ s => .exc c fs ρ s)
  | one {x : Str} {b₀ : Stmt} {suite : List Stmt} {np pos' : Pos} {hds : List ExceptHandler} {ms : Env → S → R Fl} {mr : HSem} (n : NmC X x)
      (hsu : ∀ (a : Addr) (pn : List (Addr × Obj)), PSs (X.suite a pn) (b₀ :: suite) (tS (X.suite a pn) W0 ms)) (r : HdsX X hds mr) :
      HdsX X (.ExceptHandler (some (.Name x np)) none (b₀ :: suite) pos' :: hds) (fun c fs ρ s => if excSub c x then (ms ρ s).nox else mr c fs ρ s)
  | as_ {x n : Str} {i : Nat} {b₀ : Stmt} {suite : List Stmt} {np pos' : Pos} {hds : List ExceptHandler} {ms : Env → S → R Fl} {mr : HSem} (nc : NmC X x) (hN : X.N.Nodup) (hi : X.N[i]? = some n) (hln : X.env.kindOf n = some .local)
      (hsu : ∀ (a : Addr) (pn : List (Addr × Obj)), PSs (X.suite a pn) (b₀ :: suite) (tS (X.suite a pn) W0 ms)) (r : HdsX X hds mr) :
      HdsX X (.ExceptHandler (some (.Name x np)) (some n) (b₀ :: suite) pos' :: hds) (fun c fs ρ s => if excSub c x then match xcpD c fs with
        | some d => (ms (ρ.set i (some d)) s).nox.bind fun fl s1 => .ok (fl.del i) s1
        | none => .bad
        else mr c fs ρ s)
theorem nox_pts {X : Cx} {W : WX} {E : Ends} {ha : HA} {s : S} {H : Hp} {x : R Fl} (h : PtS X W E ha s H x.nox) : PtS X W0 E ha s H x := by
  cases x with
  | ok a s1 => exact h
  | exc c fs ρ s1 => exact False.elim h
  | bad => exact h
def Ends.del (E : Ends) (i : Nat) : Ends := { nx := fun σ' H' => E.nx (σ'.set i none) H', rt := E.rt, bk := fun σ' H' => E.bk (σ'.set i none) H', ct := fun σ' H' => E.ct (σ'.set i none) H' }
theorem nox_del {X : Cx} {W : WX} {E : Ends} {ha : HA} {s : S} {H : Hp} {x : R Fl} {i : Nat} (h : PtS X W E ha s H (x.nox.bind fun fl s1 => .ok (fl.del i) s1)) : PtS X W0 (Ends.del E i) ha s H x := by
  cases x with
  | ok fl s1 =>
    cases fl with
    | nx ρ => exact fun σ' H' ha' r z e => h _ H' ha' r z (e.del i)
    | bk ρ => exact fun σ' H' ha' r z e => h _ H' ha' r z (e.del i)
    | ct ρ => exact fun σ' H' ha' r z e => h _ H' ha' r z (e.del i)
    | rt d => exact h
  | exc c fs ρ s1 => exact False.elim h
  | bad => exact h
/-- what the clauses wish of an exception of the body -/
def wTry (X : Cx) (W : WX) (E : Ends) (mh : HSem) : WX := fun cls d σ H => ∃ c fs ρ s ha, SRel X.K H ha s ∧ ERel X.K H (Av ha s) ha σ ρ ∧ ExR X.mg X.K H (Av ha s) ha c fs cls d ∧ PtS X W E ha s H (mh c fs ρ s)
section
variable {X : Cx} {W : WX} {body : List Stmt} {h₀ : ExceptHandler} {hds : List ExceptHandler} {pos : Pos} {mb : Env → S → R Fl} {mh : HSem}
theorem js_try (hs : X.stack = X.env :: X.outer) (hf : X.env.frame = some X.env.locals) (tk : Takes X W)
    (hb : ∀ (W' : WX) (pn : List (Addr × Obj)) (xe : Value → Shared → Prop), Takes (X.tr pn xe) W' → PassesOwn (model X.prog X.w) X.A X.env xe → PSs (X.tr pn xe) body (tS (X.tr pn xe) W' mb))
    (hh : HdsX X (h₀ :: hds) mh) : PS X (.Try body (h₀ :: hds) [] [] pos) (tS X W fun ρ s => match mb ρ s with
      | .exc c fs ρ' s' => mh c fs ρ' s'
      | r => r) := by
  refine ⟨fun pins s σ H D I h => ?_⟩
  have ok := I.ok
  have hfr : X.A.frames = some (X.env :: X.outer) := by rw [ok.frames, hs]
  obtain ⟨ha0, ρ0, s0, r0, e0, h0⟩ := h
  have h0 : PtS X W D ha0 s0 H (match mb ρ0 s0 with
    | .exc c fs ρ' s' => mh c fs ρ' s'
    | r => r) := h0
  have hbody : tS X (wTry X W D mh) mb D σ H := by
    refine ⟨ha0, ρ0, s0, r0, e0, ?_⟩
    cases q : mb ρ0 s0 with
    | ok fl s1 => rw [q] at h0; exact h0
    | bad => rw [q] at h0; exact h0
    | exc c fs ρ' s' =>
      rw [q] at h0
      exact fun σ' H' ha' cls d r' x' e' ex => ⟨c, fs, ρ', s', ha', r', e', ex, PtS.ext (H := H) (ha := ha0) (s := s0) h0 x'⟩
  refine wpAny_Try_except ?_
  refine wpAny_mono ((hb (wTry X W D mh) (X.pn ++ pins) (fun e s₁ => wpAny (model X.prog X.w) X.A (noteFrame e X.env) (fun _ s₂ => wpAny (model X.prog X.w) X.A (setFlight e none) (fun _ s₃ =>
    wpAny (model X.prog X.w) X.A (handleBy e X.env (h₀ :: hds)) (SP X pins D) X.xe s₃) X.xe s₂) X.xe s₁) (fun u s' xx => ?_) PassesOwn.looking).run [] s σ H D (I.toTry _) hbody) (fun f s1 hsp => ?_) (fun e s1 he => he)
  · -- the catch
    obtain ⟨a, B, sI, pins', σ', H', cls, d, rfl, J', nb, up, sky, na, os, ag, w⟩ := xx
    have J : Inv X pins σ' H' sI := J'.ofTry ok
    have sky' : Sky B (X.env :: X.outer) a (Zc cls d) X.env.locals s'.heap := by rw [← hs]; exact sky
    show wpAny (model X.prog X.w) X.A (noteFrame (.ref a) X.env) _ _ _
    refine Sky.land Zc.steady hfr hf sky' fun h3 fl3 up3 => ?_
    have J3 : Inv X pins σ' H' { s' with heap := h3 } := J.landed nb fl3.1 (up.trans up3) os ag
    obtain ⟨oe3, vs3, he3, hz3, hd3⟩ := fl3.there
    have notFr : ∀ {h : Heap} {o : Obj} {vs : Array Value}, h.FunFrames B (X.env :: X.outer) → h.get? a = some o → o.data = .fields vs → a ∉ frs (X.env :: X.outer) := fun {h o vs} ff e dd hm => by
      obtain ⟨_, o', e', hnf⟩ := ff.mem hm
      rw [e] at e'; cases e'
      exact hnf _ dd
    have nfr := notFr fl3.2.2.1 he3 hd3
    have nL : a ≠ X.env.locals := fun z => nfr (List.mem_filterMap.mpr ⟨X.env, List.mem_cons_self, by rw [hf, z]⟩)
    have nF : a ∉ X.fs := fun hm => by
      obtain ⟨e, he, q⟩ := List.mem_filterMap.mp hm
      exact nfr (List.mem_filterMap.mpr ⟨e, List.mem_cons_of_mem _ he, q⟩)
    have nB : ∀ b o, sI.heap.get? b = some o → b = X.env.locals ∨ b ∈ X.fs ∨ b ≠ a := fun b o e => by
      by_cases hb : b = a
      · exfalso
        have hnf : b ∉ frs X.stack := by rw [hs, hb]; exact nfr
        have z := nb b o e hnf
        rw [hb, fl3.2.1] at z
        cases z
      · exact .inr (.inr hb)
    have S3 := J3.suite he3 hd3 na nL nF
    obtain ⟨c, fs, ρ, sS, ha, r, er, ex, w⟩ := w
    obtain ⟨ecls, hcl, hfs⟩ := ex
    subst ecls
    have go : ∀ {hds' : List ExceptHandler} {mh' : HSem}, HdsX X hds' mh' → PtS X W D ha sS H' (mh' c fs ρ sS) →
        wpAny (model X.prog X.w) X.A (handleBy (.ref a) X.env hds') (SP X pins D) X.xe { s' with heap := h3 } := by
      intro hds' mh' hk
      have test : ∀ {x : Str} {np : Pos} {Q : Value → Shared → Prop} {E : Value → Shared → Prop}, NmC X x → Q (excV X.K x) { s' with heap := h3 } → wpAny (model X.prog X.w) (X.A.mark (some (.ref a))) (eval (.Name x np) X.env) Q E { s' with heap := h3 } := fun {x np Q E} n q => by
        obtain ⟨hg, hdbg, hm | ⟨hm, hv, hnn⟩⟩ := n.names
        · exact ld_glob (X := X.suite a ((a, oe3) :: (X.pn ++ pins))) S3 hg hm q hdbg
        · exact ld_blt (X := X.suite a ((a, oe3) :: (X.pn ++ pins))) S3 hg hm hv q hnn hdbg
      have LT : PySem.W.Looks (model X.prog X.w) h3 (typeOf (.ref a)) (.ref (He.ga X.K c)) := fun A Q E s k q => wpAny_typeOf_ref (k _ _ he3) (by rw [hz3.1]; exact q)
      induction hk with
      | nil =>
        intro w
        have w' : W (.ref (He.ga X.K c)) d σ' H' := w σ' H' ha _ d r Ext.refl er ⟨rfl, hcl, hfs⟩
        refine wpAny_handleBy_nil ?_
        obtain ⟨k1, k2, k3, oe, vs, T, oT, ts', he, hz, hd, h1, hr⟩ := id fl3
        unfold PySem.passOn
        refine wpAny_bind (wpAny_field he hd h1 ?_)
        rw [if_neg (show ¬ ((Value.ref T == Value.none) = true) from by simp)]
        have fin : wpAny (model X.prog X.w) X.A (setFlight (.ref a) X.env.frame) (fun _ s4 => wpAny (model X.prog X.w) X.A (throw (.ref a) : Sem Flow) (SP X pins D) X.xe s4) X.xe { s' with heap := h3 } := by
          rw [hf]
          refine HandSPX.setFlight_upZ fl3 fun h4 hh4 up4 => wpAny_throw (tk _ _ ?_)
          exact ⟨a, B, sI, pins, σ', H', _, d, rfl, J, nb, (up.trans up3).trans up4, .inr (.inr (by rw [hs]; exact hh4)), na, os, ag, w'⟩
        first
          | exact wpAny_bind (wpAny_pure (wpAny_bind fin))
          | exact wpAny_bind fin
      | @one x b₀ suite np pos' hds2 ms mr n hsu r' ih =>
        intro w
        have LM := PySem.W.exm_one (M := model X.prog X.w) (J3.kIn) LT (hcl.exm x n.mem n.kn)
        refine wpAny_handleBy_cons (codeAny_handlers_test ?_) (by intro q; cases q)
        refine test n (LM.here ?_)
        have w : PtS X W D ha sS H' (if excSub c x then (ms ρ sS).nox else mr c fs ρ sS) := w
        cases hb1 : excSub c x with
        | true =>
          rw [hb1, if_pos rfl] at w
          refine codeAny_handlers_suite ?_
          refine HandSPX.lands_againZ fl3 fun h4 fl4 up4 => ?_
          have J4 : Inv X pins σ' H' { s' with heap := h4 } := J.landed nb fl4.1 ((up.trans up3).trans up4) os ag
          obtain ⟨oe4, vs4, he4, hz4, hd4⟩ := fl4.there
          have S4 := J4.suite he4 hd4 na nL nF
          refine wpAny_mono ((hsu a ((a, oe4) :: (X.pn ++ pins))).run [] _ _ H' D S4 ⟨ha, ρ, sS, r, er, nox_pts w⟩) (fun f s6 hsp => ?_) (fun _ _ z => False.elim z)
          cases f with
          | next =>
            obtain ⟨σ6, H6, S6, q6⟩ := hsp
            exact ⟨_, _, S6.unsuite ok, q6⟩
          | brk =>
            obtain ⟨σ6, H6, S6, q6⟩ := hsp
            exact ⟨_, _, S6.unsuite ok, q6⟩
          | cont =>
            obtain ⟨σ6, H6, S6, q6⟩ := hsp
            exact ⟨_, _, S6.unsuite ok, q6⟩
          | ret u =>
            obtain ⟨v6, σ6, H6, S6, r6, q6⟩ := hsp
            exact ⟨_, _, _, S6.unsuite ok, r6, q6⟩
        | false =>
          rw [hb1, if_neg Bool.false_ne_true] at w
          show wpAny _ X.A (handleBy (.ref a) X.env hds2) _ _ _
          exact ih w
      | @as_ x n i b₀ suite np pos' hds2 ms mr nc hN hi hln hsu r' ih =>
        intro w
        have hloc : Loc X.env.scope n := .inl hln
        have LM := PySem.W.exm_one (M := model X.prog X.w) (J3.kIn) LT (hcl.exm x nc.mem nc.kn)
        refine wpAny_handleBy_cons (codeAny_handlers_test ?_) (by intro q; cases q)
        refine test nc (LM.here ?_)
        have w : PtS X W D ha sS H' (if excSub c x then match xcpD c fs with
          | some d => (ms (ρ.set i (some d)) sS).nox.bind fun fl s1 => .ok (fl.del i) s1
          | none => .bad
          else mr c fs ρ sS) := w
        cases hb1 : excSub c x with
        | true =>
          rw [hb1, if_pos rfl] at w
          refine codeAny_handlers_suite_as ?_
          refine HandSPX.lands_againZ fl3 fun h4 fl4 up4 => ?_
          have J4 : Inv X pins σ' H' { s' with heap := h4 } := J.landed nb fl4.1 ((up.trans up3).trans up4) os ag
          obtain ⟨oe4, vs4, he4, hz4, hd4⟩ := fl4.there
          have S4 := Inv.track J4 J he4 hz4 hd4 na nL nB nF
          have xx := Ext.new1 (K := X.K) (ha := ha) (s := sS) (o := ExT X.K c d a) na
          have r4 := SRel.new1 (o := ExT X.K c d a) r na
          obtain ⟨dv, ed, gd⟩ : ∃ dv, xcpD c fs = some dv ∧ Rep X.K (upd H' a (ExT X.K c d a)) (Av ha sS) ha (.ref a) dv := by
            rcases hfs with ⟨e1, e2⟩ | ⟨f, y, dd, v, e1, e2, e3, e4, e5, e6⟩
            · subst e1 e2
              exact ⟨_, rfl, .xc0 upd_same (fun z => r.freeA na z) hcl⟩
            · subst e1 e2
              exact ⟨_, rfl, .xc1 upd_same (fun z => r.freeA na z) (by rw [upd_ne (ne_of_none e3 na)]; exact e3) e4 (Rep.ext xx r _ _ e5) hcl e6⟩
          have w : PtS X W D ha sS H' (match xcpD c fs with
            | some d => (ms (ρ.set i (some d)) sS).nox.bind fun fl s1 => .ok (fl.del i) s1
            | none => .bad) := w
          rw [ed] at w
          refine store_ok (X := X.suite a (X.pn ++ pins)) (v := .ref a) S4 hN hi hloc rfl (fun s5 S5 => ?_) (.inr hln)
          refine wpAny_mono ((hsu a (X.pn ++ pins)).run [] s5 _ _ (Ends.del D i) S5 ⟨ha, ρ.set i (some dv), sS, r4, (er.ext xx r).set i gd, PtS.ext (ha := ha) (s := sS) (H := H') (nox_del w) xx⟩) (fun f s6 hsp => ?_) (fun _ _ z => False.elim z)
          have end_ : ∀ {σ6 : L2.St} {H6 : Hp} {Q : Shared → Prop}, Inv (X.suite a (X.pn ++ pins)) [] σ6 H6 s6 → (∀ s7, Inv X pins (σ6.set i none) H6 s7 → Q s7) →
              wpAny (model X.prog X.w) X.A (do bindName X.env n .none; unbindBehindTheSuite X.env n pos') (fun _ s7 => Q s7) X.xe s6 := fun {σ6 H6 Q} S6 hq => gone_ok (Inv.unsuite0 S6 ok) hN hi hln hq
          cases f with
          | next =>
            obtain ⟨σ6, H6, S6, q6⟩ := hsp
            exact end_ S6 fun s7 J7 => ⟨_, _, J7, q6⟩
          | brk =>
            obtain ⟨σ6, H6, S6, q6⟩ := hsp
            exact end_ S6 fun s7 J7 => ⟨_, _, J7, q6⟩
          | cont =>
            obtain ⟨σ6, H6, S6, q6⟩ := hsp
            exact end_ S6 fun s7 J7 => ⟨_, _, J7, q6⟩
          | ret u =>
            obtain ⟨v6, σ6, H6, S6, r6, q6⟩ := hsp
            exact end_ S6 fun s7 J7 => ⟨_, _, _, J7, r6, q6⟩
        | false =>
          rw [hb1, if_neg Bool.false_ne_true] at w
          show wpAny _ X.A (handleBy (.ref a) X.env hds2) _ _ _
          exact ih w
    exact go hh w
  · cases f with
    | next =>
      obtain ⟨σ', H', J', q⟩ := hsp
      exact wpAny_execs_nil ⟨σ', H', J'.ofTry ok, q⟩
    | brk =>
      obtain ⟨σ', H', J', q⟩ := hsp
      exact ⟨σ', H', J'.ofTry ok, q⟩
    | cont =>
      obtain ⟨σ', H', J', q⟩ := hsp
      exact ⟨σ', H', J'.ofTry ok, q⟩
    | ret u =>
      obtain ⟨v, σ', H', J', r, q⟩ := hsp
      exact ⟨v, σ', H', J'.ofTry ok, r, q⟩
end
end RS

set_option Elab.async false
set_option linter.all false
set_option maxRecDepth 100000
/-! the matcher of expressions -/
namespace RS
open PySem PySem.Spec L2
open PyProof.Rows hiding St

/-- classes of errors: named in clauses and isinstance; raised without, with a field -/
structure Exs where
  exn : List Str := []
  ex0 : List Str := []
  ex1 : List (Str × Str) := []
structure Cz where
  N : List Str
  sc : Scope
  fnS : Option Scope
  gls : List (Str × Cst)
  fns : List Fn
  lam : Bool := false
  exs : Exs := {}
  hot : Bool := false
def nmOk (x : Str) : Bool := !(x == ("__debug__" : Str)) && !(x == ("__classdict__" : Str))
def isVis (sc : Scope) (x : Str) : Bool := match sc.names.lookup x with
  | some .local => true | some .cell => true | some .free => true | _ => false
def isGl (sc : Scope) (x : Str) : Bool := match sc.names.lookup x with
  | some .globalImplicit => true | _ => false
def fnOk : Option Scope → Str → Bool
  | none, _ => true
  | some s, x => s.names.lookup x == some .cell
def isSto (c : Cz) (x : Str) : Bool := match c.sc.names.lookup x with
  | some .local => true | some .cell => fnOk c.fnS x | _ => false
def isN (c : Cz) (i : Nat) (x : Str) : Bool := match c.N[i]? with
  | some y => y == x
  | none => false
def bltN : List Str := ["abs", "len", "tuple", "list", "int", "repr", "sum", "all", "max", "min", "sorted", "any", "str", "range", "enumerate", "zip", "isinstance", "bool", "set"]
def cstM : Cst → Const → Bool
  | .int i, .int j => i == j
  | .bl a, .bool b => a == b
  | .str s, .str t => s == t
  | .non, .none => true
  | _, _ => false
def cstE : Cst → Cst → Bool
  | .int i, .int j => i == j
  | .bl a, .bl b => a == b
  | .str s, .str t => s == t
  | .non, .non => true
  | _, _ => false
def glM (x : Str) (k : Cst) : List (Str × Cst) → Bool
  | [] => false
  | p :: ps => (p.1 == x && cstE p.2 k) || glM x k ps
def boM : BO → Operator → Bool
  | .add, .Add => true | .sub, .Sub => true | .mul, .Mult => true | .div, .FloorDiv => true | .mod, .Mod => true | .pow, .Pow => true
  | _, _ => false
def noSet : Expr → Bool
  | .Set _ _ _ => false
  | _ => true
def noCall : Expr → Bool
  | .Call _ (_ :: _) _ _ => true
  | .Call _ _ _ _ => false
  | _ => true
def fnM (c : Cz) (f : Nat) (x : Str) : Bool := match c.fns[f]? with
  | some F => F.name == x
  | none => false
def cstX : E → Const → Bool
  | .cst c, con => cstM c con
  | _, _ => false
def lamM (sc : Scope) (params : Arguments) (scope : Scope) (q : Str) : Bool := decide (onePar params = some q) && (lam1B sc scope q && nmOk q)
def kwR (c : Cz) : List Keyword → Bool
  | [⟨some w, .Lambda params (.Tuple [.BinOp (.Subscript (.Name q1 _) (.Constant (.int i0) _ _) _) .Sub (.Subscript (.Name q2 _) (.Constant (.int i1) _ _) _) _, .Name q3 _] _ _) scope _, _⟩] =>
    w == ("key" : Str) && (c.lam && (lamM c.sc params scope q1 && (decide (i0 = 0) && (decide (i1 = 1) && (q2 == q1 && q3 == q1)))))
  | _ => false
def kwP (c : Cz) (r : Nat) : List Keyword → Bool
  | [⟨some w, .Lambda params (.Subscript (.Name rn _) (.Name q _) _) scope _, _⟩] =>
    w == ("key" : Str) && (c.lam && (lamM c.sc params scope q && (decide (scope.names.lookup rn = some .free) && (isN c r rn && nmOk rn))))
  | _ => false
def nmX (c : Cz) (x : Str) : Bool := isGl c.sc x && (!(x == ("__debug__" : Str)) && c.exs.exn.contains x)
def nmsX (c : Cz) : List Str → List Expr → Bool
  | [], [] => true
  | x :: xs, .Name z _ :: es => z == x && (nmX c x && nmsX c xs es)
  | _, _ => false
def clsM (c : Cz) (one : Bool) (cs : List Str) : Expr → Bool
  | .Name z _ => one && (match cs with | [x] => z == x && nmX c x | _ => false)
  | .Tuple es _ _ => !one && (decide (cs.length ≤ 1000) && nmsX c cs es)
  | _ => false
/-- a value as a test -/
def tstE : Expr → Bool
  | .Name _ _ => true
  | .Call _ _ _ _ => true
  | .Subscript _ _ _ => true
  | .Constant _ _ _ => true
  | .BinOp _ _ _ _ => true
  | .Tuple _ _ _ => true
  | .List _ _ => true
  | .Attribute _ _ _ => true
  | _ => false
mutual
def mTg (c : Cz) : Tg → Expr → Bool
  | .nm i, .Name x _ => isN c i x && isSto c x
  | .tp ts, .Tuple es _ _ => !c.hot && mTgs c ts es
  | _, _ => false
def mTgs (c : Cz) : List Tg → List Expr → Bool
  | [], [] => true
  | t :: ts, e :: es => mTg c t e && mTgs c ts es
  | _, _ => false
end
mutual
def mE (c : Cz) : E → Expr → Bool
  | .var i, x => match x with
    | .Name x _ => isN c i x && (isVis c.sc x && nmOk x)
    | _ => false
  | .cst k, x => match x with
    | .Constant con _ _ => cstM k con
    | _ => false
  | .glb n k, x => match x with
    | .Name x _ => n == x && (isGl c.sc x && (nmOk x && glM x k c.gls))
    | _ => false
  | .bin o a b, x => match x with
    | .BinOp l op r _ => boM o op && (mE c a l && mE c b r)
    | _ => false
  | .neg a, x => match x with
    | .UnaryOp .USub x _ => mE c a x
    | _ => false
  | .cmp o a b, x => match x with
    | .Compare l [op] [r] _ => decide (o = op) && (!behindInMarks o r && (mE c a l && mE c b r))
    | _ => false
  | .chn o p a b d, x => match x with
    | .Compare l [o1, o2] [r1, r2] _ => decide (o = o1) && (decide (p = o2) && (!lastMarks [o, p] [r1, r2] && (mE c a l && (mE c b r1 && mE c d r2))))
    | _ => false
  | .chn3 o p q a b d e, x => match x with
    | .Compare l [o1, o2, o3] [r1, r2, r3] _ => decide (o = o1) && (decide (p = o2) && (decide (q = o3) && (!lastMarks [o, p, q] [r1, r2, r3] && (mE c a l && (mE c b r1 && (mE c d r2 && mE c e r3))))))
    | _ => false
  | .nt a, x => match x with
    | .UnaryOp .Not x _ => mE c a x
    | _ => false
  | .an a r, x => match x with
    | .BoolOp .And (x :: y :: rest) p => mE c a x && mE c r (.BoolOp .And (y :: rest) p)
    | _ => false
  | .an1 a, x => match x with
    | .BoolOp .And [x] _ => mE c a x
    | _ => false
  | .orr a r, x => match x with
    | .BoolOp .Or (x :: y :: rest) p => mE c a x && mE c r (.BoolOp .Or (y :: rest) p)
    | _ => false
  | .or1 a, x => match x with
    | .BoolOp .Or [x] _ => mE c a x
    | _ => false
  | .ife t a b, x => match x with
    | .IfExp t' x y _ => mT c t t' && (mE c a x && mE c b y)
    | _ => false
  | .tup es, x => match x with
    | .Tuple xs _ _ => decide (es.length ≤ CAP) && mEs c es xs
    | _ => false
  | .lst es, x => match x with
    | .List xs _ => decide (es.length ≤ CAP) && mEs c es xs
    | _ => false
  | .dic0, x => match x with
    | .Dict [] [] _ => true
    | _ => false
  | .dic1 k v, x => match x with
    | .Dict [some (.Constant (.str k') _ _)] [.Constant con _ _] _ => k == k' && cstX v con
    | _ => false
  | .idx a b, x => match x with
    | .Subscript x i _ => plainE i && (mE c a x && mE c b i)
    | _ => false
  | .slc a lo hi, x => match x with
    | .Subscript x (.Slice l h none _) _ => mE c a x && (mO c lo l && mO c hi h)
    | _ => false
  | .rev a, x => match x with
    | .Subscript x (.Slice none none (some (.UnaryOp .USub (.Constant (.int 1) _ _) _)) _) _ => mE c a x
    | _ => false
  | .f1 f a, x => match x with
    | .Call (.Name n _) [y] [] _ => (!c.hot || !f.heat) && (f.have_ && (n == f.nm && (isGl c.sc n && (plainE y && mE c a y))))
    | _ => false
  | .f2 f a b, x => match x with
    | .Call (.Name n _) [y, z] [] _ => !c.hot && (n == f.nm && (isGl c.sc n && (plainE y && (plainE z && (mE c a y && mE c b z)))))
    | _ => false
  | .isi t a, x => match x with
    | .Call (.Name n _) [y, .Name m _] [] _ => n == ("isinstance" : Str) && (m == (t.nm : Str) && (isGl c.sc n && (isGl c.sc m && (plainE y && mE c a y))))
    | _ => false
  | .app a b, x => match x with
    | .Call (.Attribute o n apos) [y] [] p => n == ("append" : Str) && (noCall o && (plainE y && ((apos.endLine == p.line) && (mE c a o && mE c b y))))
    | _ => false
  | .rg1 t a, x => match x with
    | .Call (.Name n _) [.Call (.Name m _) [y] [] _] [] _ => !c.hot && (n == ((if t then "tuple" else "list" : Str)) && (m == ("range" : Str) && (isGl c.sc n && (isGl c.sc m && (plainE y && mE c a y)))))
    | _ => false
  | .rg2 t a b, x => match x with
    | .Call (.Name n _) [.Call (.Name m _) [y, z] [] _] [] _ => !c.hot && (n == ((if t then "tuple" else "list" : Str)) && (m == ("range" : Str) && (isGl c.sc n && (isGl c.sc m && (plainE y && (plainE z && (mE c a y && mE c b z)))))))
    | _ => false
  | .sst a, x => match x with
    | .Call (.Name n _) [.Call (.Name m _) [y] [] _] [] _ => !c.hot && (n == ("sorted" : Str) && (m == ("set" : Str) && (isGl c.sc n && (isGl c.sc m && (plainE y && mE c a y)))))
    | _ => false
  | .lns a, x => match x with
    | .Call (.Name n _) [.Call (.Name m _) [y] [] _] [] _ => !c.hot && (n == ("len" : Str) && (m == ("set" : Str) && (isGl c.sc n && (isGl c.sc m && (plainE y && mE c a y)))))
    | _ => false
  | .mmx b es, x => match x with
    | .Call (.Name n _) xs [] _ => !c.hot && (n == ((if b then "max" else "min" : Str)) && (decide (es.length = 3 ∨ es.length = 4) && (isGl c.sc n && (xs.all plainE && mEs c es xs))))
    | _ => false
  | .srkR a, x => match x with
    | .Call (.Name n _) [y] kws _ => n == ("sorted" : Str) && (kwR c kws && (isGl c.sc n && (plainE y && mE c a y)))
    | _ => false
  | .srkP a r, x => match x with
    | .Call (.Name n _) [y] kws _ => n == ("sorted" : Str) && (kwP c r kws && (isGl c.sc n && (plainE y && mE c a y)))
    | _ => false
  | .rv0 a, x => match x with
    | .Subscript x (.Slice none (some (.Constant (.int 0) _ _)) (some (.UnaryOp .USub (.Constant (.int 1) _ _) _)) _) _ => mE c a x
    | _ => false
  | .dsub kvs a, x => match x with
    | .Subscript (.Dict [some (.Constant (.str k1) _ _), some (.Constant (.str k2) _ _), some (.Constant (.str k3) _ _)] [.Constant (.str v1) _ _, .Constant (.str v2) _ _, .Constant (.str v3) _ _] _) i _ =>
      decide (kvs = [(k1, v1), (k2, v2), (k3, v3)]) && (!(k1 == k2) && (!(k1 == k3) && (!(k2 == k3) && (plainE i && mE c a i))))
    | _ => false
  | .srr a, x => match x with
    | .Call (.Name n _) [y] [⟨some w, .Constant (.bool true) _ _, _⟩] _ => n == ("sorted" : Str) && (w == ("reverse" : Str) && (isGl c.sc n && (plainE y && mE c a y)))
    | _ => false
  | .ixo a b, x => match x with
    | .Call (.Attribute o n apos) [y] [] p => n == ("index" : Str) && (noCall o && (plainE y && ((apos.endLine == p.line) && (mE c a o && mE c b y))))
    | _ => false
  | .ext a b, x => match x with
    | .Call (.Attribute o n apos) [y] [] p => n == ("extend" : Str) && (noCall o && (plainE y && ((apos.endLine == p.line) && (mE c a o && mE c b y))))
    | _ => false
  | .pop0 a, x => match x with
    | .Call (.Attribute o n apos) [] [] p => n == ("pop" : Str) && (noCall o && ((apos.endLine == p.line) && mE c a o))
    | _ => false
  | .pop1 a b, x => match x with
    | .Call (.Attribute o n apos) [y] [] p => n == ("pop" : Str) && (noCall o && (plainE y && ((apos.endLine == p.line) && (mE c a o && mE c b y))))
    | _ => false
  | .rmv a b, x => match x with
    | .Call (.Attribute o n apos) [y] [] p => n == ("remove" : Str) && (noCall o && (plainE y && ((apos.endLine == p.line) && (mE c a o && mE c b y))))
    | _ => false
  | .comp elt tg src cond own, x => match x with
    | .ListComp e' [⟨tg', iter, ifs, 0⟩] scope _ => !c.hot && (blkC c.N c.sc scope own && (mI c src iter tg' && (noSet iter && (mTg { c with sc := relS scope c.sc, fnS := some scope } tg tg' && (tg.sub (own.map (·.2)) &&
        (mOT { c with sc := relS scope c.sc, fnS := some scope } cond ifs && mE { c with sc := relS scope c.sc, fnS := some scope } elt e'))))))
    | _ => false
  | .xis one cs a, x => match x with
    | .Call (.Name n _) [y, cl] [] _ => n == ("isinstance" : Str) && (isGl c.sc n && (plainE y && (clsM c one cs cl && mE c a y)))
    | _ => false
  | .xf f a, x => match x with
    | .Attribute y g _ => g == f && (noCall y && mE c a y)
    | _ => false
  | .cnt a b, x => match x with
    | .Call (.Attribute o n apos) [y] [] p => n == ("count" : Str) && (noCall o && (plainE y && ((apos.endLine == p.line) && (mE c a o && mE c b y))))
    | _ => false
  | .mk e, x => match x with
    | .ListComp _ _ _ _ => mE c e x && isComp e
    | .List _ _ => mE c e x && isLst e
    | .Call (.Name n _) [y] [] _ => n == ("list" : Str) && (mE c e x && isF1L e)
    | .BinOp _ .Mult _ _ => mE c e x && isMul e
    | .BinOp _ .Add _ _ => mE c e x && isAdd e
    | _ => false
  | .call f args, x => match x with
    | .Call (.Name n _) xs [] _ => !c.hot && (fnM c f n && (isGl c.sc n && (nmOk n && (xs.all plainE && mEs c args xs))))
    | _ => false
  | .calln f args, x => match x with
    | .Call (.Name n _) xs [] _ => !c.hot && (fnM c f n && (isGl c.sc n && (nmOk n && (xs.all plainE && mEs c args xs))))
    | _ => false
def mEs (c : Cz) : List E → List Expr → Bool
  | [], xs => match xs with
    | [] => true
    | _ => false
  | e :: es, xs => match xs with
    | x :: xs => plainE x && (mE c e x && mEs c es xs)
    | _ => false
def mO (c : Cz) : Option E → Option Expr → Bool
  | none, x => match x with
    | none => true
    | _ => false
  | some e, x => match x with
    | some x => mE c e x
    | _ => false
def mOT (c : Cz) : Option T → List Expr → Bool
  | none, x => match x with
    | [] => true
    | _ => false
  | some t, x => match x with
    | [x] => mT c t x
    | _ => false
def mT (c : Cz) : T → Expr → Bool
  | .v e, x => match x with
    | .Compare _ _ _ _ => mE c e x && isCmp e
    | x => tstE x && mE c e x
  | .nt t, x => match x with
    | .UnaryOp .Not x _ => mT c t x
    | _ => false
  | .an t u, x => match x with
    | .BoolOp .And (x :: y :: rest) p => mT c t x && (mT c u (.BoolOp .And (y :: rest) p))
    | _ => false
  | .an1 t, x => match x with
    | .BoolOp .And [x] _ => mT c t x
    | _ => false
  | .orr t u, x => match x with
    | .BoolOp .Or (x :: y :: rest) p => mT c t x && (mT c u (.BoolOp .Or (y :: rest) p))
    | _ => false
  | .or1 t, x => match x with
    | .BoolOp .Or [x] _ => mT c t x
    | _ => false
def mI (c : Cz) : It → Expr → Expr → Bool
  | .ex e, x, _ => mE c e x
  | .r1 a, x, _ => match x with
    | .Call (.Name n _) [y] [] _ => n == ("range" : Str) && (isGl c.sc n && (plainE y && mE c a y))
    | _ => false
  | .r2 a b, x, _ => match x with
    | .Call (.Name n _) [y, z] [] _ => n == ("range" : Str) && (isGl c.sc n && (plainE y && (plainE z && (mE c a y && mE c b z))))
    | _ => false
  | .en a, x, tg => match x, tg with
    | .Call (.Name n _) [y] [] _, .Tuple _ _ _ => n == ("enumerate" : Str) && (isGl c.sc n && (plainE y && mE c a y))
    | _, _ => false
  | .en1 a, x, tg => match x, tg with
    | .Call (.Name n _) [y, .Constant (.int 1) _ _] [] _, .Tuple _ _ _ => n == ("enumerate" : Str) && (isGl c.sc n && (plainE y && mE c a y))
    | _, _ => false
  | .zp a b, x, tg => match x, tg with
    | .Call (.Name n _) [y, z] [] _, .Tuple _ _ _ => n == ("zip" : Str) && (isGl c.sc n && (plainE y && (plainE z && (mE c a y && mE c b z))))
    | _, _ => false
def isComp : E → Bool
  | .comp _ _ _ _ _ => true
  | _ => false
def isLst : E → Bool
  | .lst _ => true
  | _ => false
def isF1L : E → Bool
  | .f1 .list _ => true
  | _ => false
def isMul : E → Bool
  | .bin .mul _ _ => true
  | _ => false
def isAdd : E → Bool
  | .bin .add _ _ => true
  | _ => false
def isCmp : E → Bool
  | .cmp _ _ _ => true
  | .chn _ _ _ _ _ => true
  | .chn3 _ _ _ _ _ _ _ => true
  | _ => false
end
end RS

set_option Elab.async false
set_option linter.all false
set_option maxRecDepth 100000
/-! what the matcher finds holds -/
namespace RS
open PySem PySem.Spec L2
open PyProof.Rows hiding St

/-- a class's name, in the module -/
structure ExN (K : PySem.W.Frag) (mg : Str → Option Value) (x : Str) : Prop where
  mem : x ∈ excNms
  kn : excKn K x = true
  mg : mg x = if excBlt x then none else some (.ref (He.ga K x))
structure Hy (X : Cx) (W : WX) (c : Cz) (fuel k : Nat) : Prop where
  cok : Cok X
  cold : c.hot = false → Cold X
  sm : Sm X
  N : X.N = c.N
  sc : X.env.scope = c.sc
  fnk : ∀ x, fnOk c.fnS x = true → X.fn x = true
  blt : ∀ b ∈ bltN, X.mg b = none
  gl : ∀ p ∈ c.gls, ∃ u, X.mg p.1 = some u ∧ RelV p.2.v u
  fn : ∀ (f : Nat) (F : Fn), c.fns[f]? = some F → ∃ a fd, X.mg F.name = some (.ref a) ∧ PySem.W.keepIn X.K (.ref a) = true ∧ Binds X.K fd F.ps [] ∧ FnG X.prog X.w X.K X.mg X.base (L2.CX X.prog X.w) (k + 2) a fd F.ps (spF X.K X.mg (evF c.fns fuel k f))
  room : c.hot = false → Room (k + 2) X.A
  dp : X.A.depth + 3 * (k + 2) + 5 < recursionLimit
  tk : Takes X W
  lam : c.lam = true → LamOk X
  stk : c.fnS = none → X.stack = X.env :: X.outer ∧ X.env.frame = some X.env.locals
  exn : ∀ x ∈ c.exs.exn, ExN X.K X.mg x
  ex0 : ∀ x ∈ c.exs.ex0, Rai0 X.K X.mg x
  ex1 : ∀ p ∈ c.exs.ex1, Rai1 X.prog X.w X.K X.mg X.base p.1 p.2
abbrev GG (c : Cz) (fuel k : Nat) : Gam := ⟨evF c.fns fuel k, fuel⟩

theorem and_t {a b : Bool} (h : (a && b) = true) : a = true ∧ b = true := Bool.and_eq_true_iff.mp h
theorem beq_t {α : Type} [DecidableEq α] {a b : α} (h : (a == b) = true) : a = b := by simpa using h
section
variable {X : Cx} {W : WX} {c : Cz} {fuel k : Nat}
theorem Hy.isN (h : Hy X W c fuel k) {i : Nat} {x : Str} (e : isN c i x = true) : X.N[i]? = some x := by
  rw [h.N]
  unfold RS.isN at e
  cases q : c.N[i]? with
  | none => rw [q] at e; cases e
  | some y => rw [q] at e; rw [beq_t e]
theorem Hy.vis (h : Hy X W c fuel k) {x : Str} (e : isVis c.sc x = true) : Vis X.env.scope x := by
  rw [h.sc]
  unfold isVis at e
  show c.sc.names.lookup x = some .local ∨ c.sc.names.lookup x = some .cell ∨ c.sc.names.lookup x = some .free
  cases q : c.sc.names.lookup x with
  | none => rw [q] at e; cases e
  | some y =>
    rw [q] at e
    cases y with
    | «local» => exact .inl rfl
    | cell => exact .inr (.inl rfl)
    | free => exact .inr (.inr rfl)
    | _ => cases e
theorem Hy.isGl (h : Hy X W c fuel k) {x : Str} (e : isGl c.sc x = true) : Gl X x := by
  show X.env.scope.names.lookup x = some .globalImplicit
  rw [h.sc]
  unfold RS.isGl at e
  cases q : c.sc.names.lookup x with
  | none => rw [q] at e; cases e
  | some y =>
    rw [q] at e
    cases y with
    | globalImplicit => rfl
    | _ => cases e
theorem Hy.sto (h : Hy X W c fuel k) {x : Str} (e : isSto c x = true) : L2.Loc X.env.scope x ∧ (X.fn x = true ∨ X.env.scope.names.lookup x = some .local) := by
  unfold isSto at e
  rw [h.sc]
  show (c.sc.names.lookup x = some .local ∨ c.sc.names.lookup x = some .cell) ∧ (X.fn x = true ∨ c.sc.names.lookup x = some .local)
  cases q : c.sc.names.lookup x with
  | none => rw [q] at e; cases e
  | some y =>
    rw [q] at e
    cases y with
    | «local» => exact ⟨.inl rfl, .inr rfl⟩
    | cell => exact ⟨.inr rfl, .inl (h.fnk x e)⟩
    | _ => cases e
theorem Hy.nmx (h : Hy X W c fuel k) {x : Str} (e : nmX c x = true) : NmC X x := by
  obtain ⟨e1, e⟩ := and_t e
  obtain ⟨e2, e3⟩ := and_t e
  obtain ⟨a, b, d⟩ := h.exn x (by simpa using e3)
  exact ⟨h.isGl e1, by simpa using e2, a, b, d⟩
theorem Hy.nmsx (h : Hy X W c fuel k) : ∀ {cs : List Str} {es : List Expr}, nmsX c cs es = true → Paired (fun e x => ∃ p, e = Expr.Name x p ∧ NmC X x) es cs
  | [], [], _ => .nil
  | [], _ :: _, e => by cases e
  | x :: xs, [], e => by cases e
  | x :: xs, .Name z p :: es, e => by
    obtain ⟨e1, e⟩ := and_t (show (z == x && (nmX c x && nmsX c xs es)) = true from e)
    obtain ⟨e2, e3⟩ := and_t e
    have e4 : z = x := beq_t e1
    subst e4
    exact .cons ⟨p, rfl, h.nmx e2⟩ (h.nmsx e3)
  | x :: xs, .BoolOp .. :: es, e => by cases e
  | x :: xs, .NamedExpr .. :: es, e => by cases e
  | x :: xs, .BinOp .. :: es, e => by cases e
  | x :: xs, .UnaryOp .. :: es, e => by cases e
  | x :: xs, .Lambda .. :: es, e => by cases e
  | x :: xs, .IfExp .. :: es, e => by cases e
  | x :: xs, .Dict .. :: es, e => by cases e
  | x :: xs, .Set .. :: es, e => by cases e
  | x :: xs, .ListComp .. :: es, e => by cases e
  | x :: xs, .SetComp .. :: es, e => by cases e
  | x :: xs, .DictComp .. :: es, e => by cases e
  | x :: xs, .GeneratorExp .. :: es, e => by cases e
  | x :: xs, .Await .. :: es, e => by cases e
  | x :: xs, .Yield .. :: es, e => by cases e
  | x :: xs, .YieldFrom .. :: es, e => by cases e
  | x :: xs, .Compare .. :: es, e => by cases e
  | x :: xs, .Call .. :: es, e => by cases e
  | x :: xs, .FormattedValue .. :: es, e => by cases e
  | x :: xs, .JoinedStr .. :: es, e => by cases e
  | x :: xs, .Constant .. :: es, e => by cases e
  | x :: xs, .Attribute .. :: es, e => by cases e
  | x :: xs, .Subscript .. :: es, e => by cases e
  | x :: xs, .Starred .. :: es, e => by cases e
  | x :: xs, .List .. :: es, e => by cases e
  | x :: xs, .Tuple .. :: es, e => by cases e
  | x :: xs, .Slice .. :: es, e => by cases e
theorem clsM_at {one : Bool} {cs : List Str} {cl : Expr} (h : clsM c one cs cl = true) : (∃ x p, cs = [x] ∧ cl = .Name x p ∧ nmX c x = true) ∨ ∃ es k p, cl = .Tuple es k p ∧ cs.length ≤ 1000 ∧ nmsX c cs es = true := by
  cases cl with
  | Name z p =>
    cases cs with
    | nil => obtain ⟨_, h⟩ := and_t h; cases h
    | cons x xs =>
      cases xs with
      | nil =>
        obtain ⟨_, h⟩ := and_t h
        obtain ⟨h1, h2⟩ := and_t (show (z == x && nmX c x) = true from h)
        have e : z = x := beq_t h1
        subst e
        exact .inl ⟨_, _, rfl, rfl, h2⟩
      | cons _ _ => obtain ⟨_, h⟩ := and_t h; cases h
  | Tuple es k p =>
    obtain ⟨_, h⟩ := and_t (show (!one && (decide (cs.length ≤ 1000) && nmsX c cs es)) = true from h)
    obtain ⟨h1, h2⟩ := and_t h
    exact .inr ⟨es, k, p, rfl, of_decide_eq_true h1, h2⟩
  | _ => cases h
theorem nh {b : Bool} (h : (!b) = true) : b = false := by simpa using h
theorem nmOk_at {x : Str} (h : nmOk x = true) : (x == ("__debug__" : Str)) = false ∧ (x == ("__classdict__" : Str)) = false := by
  have := and_t h
  exact ⟨by simpa using this.1, by simpa using this.2⟩
theorem cstM_at {k : Cst} {con : Const} (h : cstM k con = true) : con = k.con := by
  cases k <;> cases con <;> first
    | (cases h; done)
    | (rw [show _ = _ from beq_t h]; rfl)
    | rfl
theorem cstE_at {a b : Cst} (h : cstE a b = true) : a = b := by
  cases a <;> cases b <;> first
    | (cases h; done)
    | (rw [show _ = _ from beq_t h]; done)
    | rfl
theorem glM_at {x : Str} {k : Cst} : ∀ {ps : List (Str × Cst)}, glM x k ps = true → (x, k) ∈ ps
  | [], h => by cases h
  | p :: ps, h => by
    have h : ((p.1 == x && cstE p.2 k) || glM x k ps) = true := h
    rw [Bool.or_eq_true] at h
    rcases h with h | h
    · have := and_t h
      have e1 : p.1 = x := beq_t this.1
      have e2 := cstE_at this.2
      rw [← e1, ← e2]
      exact List.mem_cons_self
    · exact List.mem_cons_of_mem _ (glM_at h)
theorem boM_at {o : BO} {op : Operator} (h : boM o op = true) : op = o.op := by
  cases o <;> cases op <;> first | (cases h; done) | rfl
def noStar : Expr → Bool
  | .Starred _ _ => false
  | _ => true
theorem nof {P : Prop} (h : false = true) : P := by cases h
theorem asg_plain {e : Expr} {es : List Expr} {env : PySem.Env} (h : noStar e = true) : assignEach (e :: es) env = (false, assign e env) :: assignEach es env := by
  cases e <;> first | rfl | cases h
theorem mTg_ns {t : Tg} {e : Expr} (h : mTg c t e = true) : noStar e = true := by
  cases e with
  | Starred _ _ => cases t <;> exact nof h
  | _ => rfl
theorem mTgs_as : ∀ (ts : List Tg) (es : List Expr) (env : PySem.Env), mTgs c ts es = true → (assignEach es env).length = ts.length ∧ (assignEach es env).findIdx? (·.1) = none
  | [], [], _, _ => ⟨rfl, rfl⟩
  | [], _ :: _, _, h => nof h
  | _ :: _, [], _, h => nof h
  | t :: ts, e :: es, env, h => by
    have h := and_t (show (mTg c t e && mTgs c ts es) = true from h)
    obtain ⟨a, b⟩ := mTgs_as ts es env h.2
    rw [asg_plain (mTg_ns h.1)]
    refine ⟨by simp [a], ?_⟩
    rw [List.findIdx?_cons]
    simp [b]
mutual
theorem mTg_ok : ∀ (t : Tg) {X : Cx} {W : WX} {c : Cz} (h : Hy X W c fuel k) (e : Expr), mTg c t e = true → PG X e (gT X t)
  | .nm i, X, W, c, h, e, m => by
    cases e with
    | Name x p =>
      have m := and_t (show (RS.isN c i x && isSto c x) = true from m)
      obtain ⟨a, b⟩ := h.sto m.2
      exact jg_name h.cok.nd (h.isN m.1) a b
    | _ => exact nof m
  | .tp ts, X, W, c, h, e, m => by
    cases e with
    | Tuple es kk p =>
      obtain ⟨m0, m⟩ := and_t (show (!c.hot && mTgs c ts es) = true from m)
      obtain ⟨a, b⟩ := mTgs_as ts es X.env m
      exact jg_tup (h.cold (nh m0)).calm (mTgs_ok ts h es m) a b
    | _ => exact nof m
theorem mTgs_ok : ∀ (ts : List Tg) {X : Cx} {W : WX} {c : Cz} (h : Hy X W c fuel k) (es : List Expr), mTgs c ts es = true → PGs X es (gTs X ts)
  | [], X, W, c, h, es, m => by
    cases es with
    | nil => exact jgs_nil
    | cons _ _ => exact nof m
  | t :: ts, X, W, c, h, es, m => by
    cases es with
    | nil => exact nof m
    | cons e es =>
      have m := and_t (show (mTg c t e && mTgs c ts es) = true from m)
      exact jgs_cons (mTg_ok t h e m.1) (mTgs_ok ts h es m.2) (by rw [asg_plain (mTg_ns m.1)]; rfl)
end
end
/-! ### small facts -/
section
variable {X : Cx} {W : WX} {a b : Expr} {ma mb : Env → S → R D} {pos : Pos}
theorem pe_one {t : TE} (op : BoolOp) (h : PE X a t) : PE X (.BoolOp op [a] pos) t := ⟨fun pins s σ H Q I q => h.run pins s σ H Q I q⟩
theorem tst_plain {e : Expr} {env : PySem.Env} (h : tstE e = true) (whole : Sem Value) : isTrue e env whole = (do let v ← whole; standAt e.pos; holding [v] (truthy v)) := by
  cases e <;> first | rfl | exact nof h
theorem noset_plain {e : Expr} {env : PySem.Env} (h : noSet e = true) (x : Value) : foldedSetIterable e env x = pure x := by
  cases e <;> first | rfl | exact nof h
theorem base_plain {e : Expr} {m : Str} {env : PySem.Env} (h : noCall e = true) : attributeBase e m env (eval e env) = eval e env := by
  cases e with
  | Call f args kw p =>
    cases args with
    | nil => exact nof h
    | cons a as => cases f <;> rfl
  | _ => rfl
theorem pts_none : PTs X [] (tMT X W fun _ s => .ok true s) := ⟨fun pins s σ H Q I ⟨ha, ρ, s', r, e, h⟩ => pts_nil.run pins s σ H Q I (h _ H ha r Ext.refl rfl)⟩
theorem evEs_len {G : Gam} : ∀ (es : List E) (ρ : Env) (s : S) (xs : List D) (s' : S), evEs G es ρ s = .ok xs s' → xs.length = es.length
  | [], ρ, s, xs, s', h => by cases h; rfl
  | e :: es, ρ, s, xs, s', h => by
    have h : ((evE G e ρ s).bind fun x s1 => (evEs G es ρ s1).bind fun xs s2 => .ok (x :: xs) s2) = .ok xs s' := h
    cases q : evE G e ρ s with
    | ok x s1 =>
      rw [q] at h
      have h : ((evEs G es ρ s1).bind fun xs s2 => .ok (x :: xs) s2) = .ok xs s' := h
      cases q2 : evEs G es ρ s1 with
      | ok ys s2 =>
        rw [q2] at h
        cases h
        rw [List.length_cons, List.length_cons, evEs_len es ρ _ ys _ q2]
      | exc c fs ρ s => rw [q2] at h; cases h
      | bad => rw [q2] at h; cases h
    | exc c fs ρ s => rw [q] at h; cases h
    | bad => rw [q] at h; cases h
theorem evT_cmp {G : Gam} (o : CmpOp) (a b : E) : evT G (.v (.cmp o a b)) = mCmp o (evE G a) (evE G b) := by
  funext ρ s
  show (((evE G a ρ s).bind fun x s1 => (evE G b ρ s1).bind fun y s2 => R.of s2 ((cmpD o s2 x y).map .bl)).bind fun x s1 => R.of s1 (tru s1 x)) = (evE G a ρ s).bind fun x s1 => (evE G b ρ s1).bind fun y s2 => R.of s2 (cmpD o s2 x y)
  rw [R.bind_assoc]
  congr 1
  funext x s1
  rw [R.bind_assoc]
  congr 1
  funext y s2
  cases cmpD o s2 x y <;> rfl
theorem evT_chn3 {G : Gam} (o p q : CmpOp) (a b c d : E) : evT G (.v (.chn3 o p q a b c d)) = fun ρ s => (evE G a ρ s).bind fun x s1 => (evE G b ρ s1).bind fun y s2 => match cmpD o s2 x y with
      | some true => (evE G c ρ s2).bind fun z s3 => match cmpD p s3 y z with
        | some true => (evE G d ρ s3).bind fun w s4 => R.of s4 (cmpD q s4 z w)
        | some false => .ok false s3
        | none => .bad
      | some false => .ok false s2
      | none => .bad := by
  funext ρ s
  show (((evE G a ρ s).bind fun x s1 => (evE G b ρ s1).bind fun y s2 => match cmpD o s2 x y with
      | some true => (evE G c ρ s2).bind fun z s3 => match cmpD p s3 y z with
        | some true => (evE G d ρ s3).bind fun w s4 => R.of s4 ((cmpD q s4 z w).map .bl)
        | some false => .ok (.bl false) s3
        | none => .bad
      | some false => .ok (.bl false) s2
      | none => .bad).bind fun x s1 => R.of s1 (tru s1 x)) = _
  rw [R.bind_assoc]
  congr 1
  funext x s1
  rw [R.bind_assoc]
  congr 1
  funext y s2
  cases cmpD o s2 x y with
  | none => rfl
  | some v =>
    cases v with
    | false => rfl
    | true =>
      show ((evE G c ρ s2).bind _).bind _ = _
      rw [R.bind_assoc]
      congr 1
      funext z s3
      cases cmpD p s3 y z with
      | none => rfl
      | some v =>
        cases v with
        | false => rfl
        | true =>
          show ((evE G d ρ s3).bind _).bind _ = _
          rw [R.bind_assoc]
          congr 1
          funext w s4
          cases cmpD q s4 z w <;> rfl
theorem evT_chn {G : Gam} (o p : CmpOp) (a b c : E) : evT G (.v (.chn o p a b c)) = fun ρ s => (evE G a ρ s).bind fun x s1 => (evE G b ρ s1).bind fun y s2 => match cmpD o s2 x y with
      | some true => (evE G c ρ s2).bind fun z s3 => R.of s3 (cmpD p s3 y z)
      | some false => .ok false s2
      | none => .bad := by
  funext ρ s
  show (((evE G a ρ s).bind fun x s1 => (evE G b ρ s1).bind fun y s2 => match cmpD o s2 x y with
      | some true => (evE G c ρ s2).bind fun z s3 => R.of s3 ((cmpD p s3 y z).map .bl)
      | some false => .ok (.bl false) s2
      | none => .bad).bind fun x s1 => R.of s1 (tru s1 x)) = _
  rw [R.bind_assoc]
  congr 1
  funext x s1
  rw [R.bind_assoc]
  congr 1
  funext y s2
  cases cmpD o s2 x y with
  | none => rfl
  | some d =>
    cases d with
    | false => rfl
    | true =>
      show ((evE G c ρ s2).bind fun z s3 => R.of s3 ((cmpD p s3 y z).map .bl)).bind (fun x s1 => R.of s1 (tru s1 x)) = (evE G c ρ s2).bind fun z s3 => R.of s3 (cmpD p s3 y z)
      rw [R.bind_assoc]
      congr 1
      funext z s3
      cases cmpD p s3 y z <;> rfl
theorem bind_un (m : R (List D)) : (m.bind fun xs s1 => .ok (.lst xs) s1).bind unL = m := by cases m <;> rfl
end
/-! ### a comprehension's block -/
theorem Hy.blk {X : Cx} {W : WX} {c : Cz} {fuel k : Nat} (h : Hy X W c fuel k) (s : Shared) (H : Hp) (scope : Scope) (C : Addr) (cl : List (Str × Addr)) (fp : List Addr) :
    Hy (X.blk s H scope (compEnvC scope cl C X.env) fp) Wn { c with sc := relS scope c.sc, fnS := some scope } fuel k :=
  ⟨⟨h.cok.nd, h.cok.un, h.cok.gd⟩, fun e => ⟨(h.cold e).calm, (h.cold e).hd⟩, h.sm, h.N, by rw [← h.sc]; rfl, fun x e => e, h.blt, h.gl, h.fn, h.room, h.dp, takes0, h.lam, (fun e => by cases e), h.exn, h.ex0, h.ex1⟩
theorem comp_ok {X : Cx} {W : WX} {c : Cz} {fuel k : Nat} {elt : E} {tg : Tg} {src : It} {cond : Option T} {own : List (Str × Nat)} {e' tg' iter : Expr} {ifs : List Expr} {scope : Scope} {pos : Pos} (h : Hy X W c fuel k)
    (m : (!c.hot && (blkC c.N c.sc scope own && (mI c src iter tg' && (noSet iter && (mTg { c with sc := relS scope c.sc, fnS := some scope } tg tg' && (tg.sub (own.map (·.2)) &&
        (mOT { c with sc := relS scope c.sc, fnS := some scope } cond ifs && mE { c with sc := relS scope c.sc, fnS := some scope } elt e'))))))) = true)
    (hi : mI c src iter tg' = true → PI X tg' iter (tI X W (evI (GG c fuel k) src)))
    (ht : ∀ X' c', Hy X' Wn c' fuel k → mOT c' cond ifs = true → c'.fns = c.fns → PTs X' ifs (tMT X' Wn (evOT (GG c' fuel k) cond)))
    (he : ∀ X' c', Hy X' Wn c' fuel k → mE c' elt e' = true → c'.fns = c.fns → PE X' e' (tM X' Wn (evE (GG c' fuel k) elt))) :
    PE X (.ListComp e' [⟨tg', iter, ifs, 0⟩] scope pos) (tD X W fun ρ s => (evI (GG c fuel k) src ρ s).bind fun xs s1 => compL (compF tg (evOT (GG c fuel k) cond) (evE (GG c fuel k) elt) (wipeE ρ own)) xs s1) := by
  obtain ⟨m0, m⟩ := and_t m
  obtain ⟨m1, m⟩ := and_t m
  obtain ⟨m2, m⟩ := and_t m
  obtain ⟨m3, m⟩ := and_t m
  obtain ⟨m4, m⟩ := and_t m
  obtain ⟨m5, m⟩ := and_t m
  obtain ⟨m6, m7⟩ := and_t m
  refine je_comp (h.cold (nh m0)).calm h.cok.nd (hi m2) (by rw [h.N, h.sc]; exact blkOk_by m1) (fun s H C cl fp => ?_) (fun s H C cl fp => ?_) (fun s H C cl fp => ?_) (noset_plain m3) m5
  · exact mTg_ok tg (h.blk s H scope C cl fp) tg' m4
  · exact ht _ { c with sc := relS scope c.sc, fnS := some scope } (h.blk s H scope C cl fp) m6 rfl
  · exact he _ { c with sc := relS scope c.sc, fnS := some scope } (h.blk s H scope C cl fp) m7 rfl
end RS

set_option Elab.async false
set_option linter.all false
set_option maxHeartbeats 4000000
set_option maxRecDepth 100000
/-! the matcher is sound: expressions -/
namespace RS
open PySem PySem.Spec L2
open PyProof.Rows hiding St

theorem all_plain {es : List Expr} (h : es.all plainE = true) {a : Expr} {as : List Expr} (e : es = a :: as) (env : PySem.Env) (pos : Pos) : starEach (a :: as) env = (false, eval a env) :: starEach as env ∧ (backTo pos (starEach as env)).any (·.1) = false := by
  subst e
  have h := and_t (show (plainE a && as.all plainE) = true from h)
  refine ⟨star_plain h.1, ?_⟩
  have key : ∀ bs : List Expr, bs.all plainE = true → (backTo pos (starEach bs env)).any (·.1) = false := by
    intro bs
    induction bs with
    | nil => intro _; rfl
    | cons b bs ih =>
      intro hb
      have hb := and_t (show (plainE b && bs.all plainE) = true from hb)
      rw [star_plain hb.1]
      show (false || (backTo pos (starEach bs env)).any (·.1)) = false
      rw [ih hb.2]; rfl
  exact key as h.2
section
variable {fuel k : Nat}
theorem call_ok {X : Cx} {W : WX} {c : Cz} (h : Hy X W c fuel k) (h0 : c.hot = false) {f : Nat} {x : Str} {p pos : Pos} {es : List Expr} {mas : Env → S → R (List D)} (hf : fnM c f x = true) (hg : isGl c.sc x = true) (hn : nmOk x = true) (hp : es.all plainE = true) (ha : PA X es (tMA X W mas)) (hnil : es = [] → ∀ ρ s, mas ρ s = .ok [] s) :
    PE X (.Call (.Name x p) es [] pos) (tCallS (spF X.K X.mg (evF c.fns fuel k f)) (WE W) (tMA X W mas)) := by
  unfold fnM at hf
  cases q : c.fns[f]? with
  | none => rw [q] at hf; cases hf
  | some F =>
    rw [q] at hf
    have e : F.name = x := beq_t hf
    subst e
    obtain ⟨a, fd, h1, h2, h3, h4⟩ := h.fn f F q
    exact je_callS h4 (h.room h0) h.cok.gd (h.isGl hg) h1 h2 h3 h.tk ha (nmOk_at hn).1 (fun a as e => all_plain hp e _ _) hnil
theorem mEs_nil {G : Gam} {c : Cz} {args : List E} {es : List Expr} (h : mEs c args es = true) (e : es = []) : ∀ ρ s, evEs G args ρ s = .ok [] s := by
  subst e
  cases args with
  | nil => intro _ _; rfl
  | cons a as => exact nof h
mutual
theorem mE_ok : ∀ (e : E) {X : Cx} {W : WX} {c : Cz} (h : Hy X W c fuel k) (x : Expr), mE c e x = true → PE X x (tM X W (evE (GG c fuel k) e))
  | .var i, X, W, c, h, x, m => by
    cases x with
    | Name x p =>
      obtain ⟨m1, m⟩ := and_t (show (RS.isN c i x && (isVis c.sc x && nmOk x)) = true from m)
      obtain ⟨m2, m3⟩ := and_t m
      exact je_var (h.isN m1) (h.vis m2) (nmOk_at m3).1 (nmOk_at m3).2
    | _ => exact nof m
  | .cst q, X, W, c, h, x, m => by
    cases x with
    | Constant con j p =>
      have e := cstM_at (show cstM q con = true from m)
      subst e
      exact je_cst q
    | _ => exact nof m
  | .glb n q, X, W, c, h, x, m => by
    cases x with
    | Name x p =>
      obtain ⟨m1, m⟩ := and_t (show (n == x && (RS.isGl c.sc x && (nmOk x && glM x q c.gls))) = true from m)
      obtain ⟨m2, m⟩ := and_t m
      obtain ⟨m3, m4⟩ := and_t m
      obtain ⟨u, h1, h2⟩ := h.gl _ (glM_at m4)
      exact je_glb q (h.isGl m2) h1 h2 (nmOk_at m3).1
    | _ => exact nof m
  | .bin o a b, X, W, c, h, x, m => by
    cases x with
    | BinOp l op r p =>
      obtain ⟨m1, m⟩ := and_t (show (boM o op && (mE c a l && mE c b r)) = true from m)
      obtain ⟨m2, m3⟩ := and_t m
      have e := boM_at m1
      subst e
      exact je_bin o (mE_ok a h l m2) (mE_ok b h r m3)
    | _ => exact nof m
  | .neg a, X, W, c, h, x, m => by
    cases x with
    | UnaryOp op y p =>
      cases op with
      | USub => exact je_neg (mE_ok a h y m)
      | _ => exact nof m
    | _ => exact nof m
  | .cmp o a b, X, W, c, h, x, m => by
    cases x with
    | Compare l ops rs p =>
      match ops, rs, m with
      | [op], [r], m =>
        obtain ⟨m1, m⟩ := and_t (show (decide (o = op) && (!behindInMarks o r && (mE c a l && mE c b r))) = true from m)
        obtain ⟨m2, m⟩ := and_t m
        obtain ⟨m3, m4⟩ := and_t m
        have e := of_decide_eq_true m1
        subst e
        exact je_cmpD h.cok o (mE_ok a h l m3) (mE_ok b h r m4) (by simpa using m2)
      | [], _, m => exact nof m
      | [_], [], m => exact nof m
      | [_], _ :: _ :: _, m => exact nof m
      | _ :: _ :: _, _, m => exact nof m
    | _ => exact nof m
  | .chn3 o q w a b d e0, X, W, c, h, x, m => by
    unfold mE at m
    split at m
    · rename_i l o1 o2 o3 r1 r2 r3 p
      obtain ⟨m1, m⟩ := and_t m
      obtain ⟨m2, m⟩ := and_t m
      obtain ⟨m2', m⟩ := and_t m
      obtain ⟨m3, m⟩ := and_t m
      obtain ⟨m4, m⟩ := and_t m
      obtain ⟨m5, m⟩ := and_t m
      obtain ⟨m6, m7⟩ := and_t m
      have e := of_decide_eq_true m1
      have e' := of_decide_eq_true m2
      have e'' := of_decide_eq_true m2'
      subst e e' e''
      exact je_chn3 h.cok o q w (mE_ok a h l m4) (mE_ok b h r1 m5) (mE_ok d h r2 m6) (mE_ok e0 h r3 m7) (by simpa using m3)
    · exact nof m
  | .chn o q a b d, X, W, c, h, x, m => by
    cases x with
    | Compare l ops rs p =>
      match ops, rs, m with
      | [o1, o2], [r1, r2], m =>
        obtain ⟨m1, m⟩ := and_t (show (decide (o = o1) && (decide (q = o2) && (!lastMarks [o, q] [r1, r2] && (mE c a l && (mE c b r1 && mE c d r2))))) = true from m)
        obtain ⟨m2, m⟩ := and_t m
        obtain ⟨m3, m⟩ := and_t m
        obtain ⟨m4, m⟩ := and_t m
        obtain ⟨m5, m6⟩ := and_t m
        have e := of_decide_eq_true m1
        have e' := of_decide_eq_true m2
        subst e e'
        exact je_chn h.cok o q (mE_ok a h l m4) (mE_ok b h r1 m5) (mE_ok d h r2 m6) (by simpa using m3)
      | [], _, m => exact nof m
      | [_], _, m => exact nof m
      | [_, _], [], m => exact nof m
      | [_, _], [_], m => exact nof m
      | [_, _], _ :: _ :: _ :: _, m => exact nof m
      | _ :: _ :: _ :: _, _, m => exact nof m
    | _ => exact nof m
  | .nt a, X, W, c, h, x, m => by
    cases x with
    | UnaryOp op y p =>
      cases op with
      | Not => exact je_not (mE_ok a h y m)
      | _ => exact nof m
    | _ => exact nof m
  | .an a r, X, W, c, h, x, m => by
    cases x with
    | BoolOp op vs p =>
      match op, vs, m with
      | .And, x :: y :: rest, m =>
        obtain ⟨m1, m2⟩ := and_t (show (mE c a x && mE c r (.BoolOp .And (y :: rest) p)) = true from m)
        exact je_and (mE_ok a h x m1) (mE_ok r h _ m2)
      | .And, [], m => exact nof m
      | .And, [_], m => exact nof m
      | .Or, _, m => exact nof m
    | _ => exact nof m
  | .an1 a, X, W, c, h, x, m => by
    cases x with
    | BoolOp op vs p =>
      match op, vs, m with
      | .And, [x], m => exact pe_one .And (mE_ok a h x m)
      | .And, [], m => exact nof m
      | .And, _ :: _ :: _, m => exact nof m
      | .Or, _, m => exact nof m
    | _ => exact nof m
  | .orr a r, X, W, c, h, x, m => by
    cases x with
    | BoolOp op vs p =>
      match op, vs, m with
      | .Or, x :: y :: rest, m =>
        obtain ⟨m1, m2⟩ := and_t (show (mE c a x && mE c r (.BoolOp .Or (y :: rest) p)) = true from m)
        exact je_or (mE_ok a h x m1) (mE_ok r h _ m2)
      | .Or, [], m => exact nof m
      | .Or, [_], m => exact nof m
      | .And, _, m => exact nof m
    | _ => exact nof m
  | .or1 a, X, W, c, h, x, m => by
    cases x with
    | BoolOp op vs p =>
      match op, vs, m with
      | .Or, [x], m => exact pe_one .Or (mE_ok a h x m)
      | .Or, [], m => exact nof m
      | .Or, _ :: _ :: _, m => exact nof m
      | .And, _, m => exact nof m
    | _ => exact nof m
  | .ife t a b, X, W, c, h, x, m => by
    cases x with
    | IfExp t' x y p =>
      obtain ⟨m1, m⟩ := and_t (show (mT c t t' && (mE c a x && mE c b y)) = true from m)
      obtain ⟨m2, m3⟩ := and_t m
      exact je_ife (mT_ok t h t' m1) (mE_ok a h x m2) (mE_ok b h y m3)
    | _ => exact nof m
  | .tup es, X, W, c, h, x, m => by
    cases x with
    | Tuple xs kk p =>
      obtain ⟨m1, m2⟩ := and_t (show (decide (es.length ≤ CAP) && mEs c es xs) = true from m)
      exact je_tup (fun ρ s xs s' e => by rw [evEs_len es ρ s xs s' e]; exact of_decide_eq_true m1) (mEs_ok es h xs m2)
    | _ => exact nof m
  | .lst es, X, W, c, h, x, m => by
    cases x with
    | List xs p =>
      obtain ⟨m1, m2⟩ := and_t (show (decide (es.length ≤ CAP) && mEs c es xs) = true from m)
      exact je_lst (fun ρ s xs s' e => by rw [evEs_len es ρ s xs s' e]; exact of_decide_eq_true m1) (mEs_ok es h xs m2)
    | _ => exact nof m
  | .dic0, X, W, c, h, x, m => by
    unfold mE at m
    split at m
    · exact je_dic0
    · exact nof m
  | .dic1 k v, X, W, c, h, x, m => by
    unfold mE at m
    split at m
    · obtain ⟨m1, m2⟩ := and_t m
      have e := beq_t m1
      subst e
      match v, m2 with
      | .cst q, m2 =>
        have e := cstM_at (show cstM q _ = true from m2)
        subst e
        exact je_dic1 k q
    · exact nof m
  | .idx a b, X, W, c, h, x, m => by
    cases x with
    | Subscript x i p =>
      obtain ⟨m1, m⟩ := and_t (show (plainE i && (mE c a x && mE c b i)) = true from m)
      obtain ⟨m2, m3⟩ := and_t m
      exact je_idx (mE_ok a h x m2) (mE_ok b h i m3) (ix_plain m1)
    | _ => exact nof m
  | .slc a lo hi, X, W, c, h, x, m => by
    cases x with
    | Subscript x i p =>
      cases i with
      | Slice l u st p2 =>
        cases st with
        | none =>
          obtain ⟨m1, m⟩ := and_t (show (mE c a x && (mO c lo l && mO c hi u)) = true from m)
          obtain ⟨m2, m3⟩ := and_t m
          exact je_slc (mE_ok a h x m1) (mO_ok lo h l m2) (mO_ok hi h u m3)
        | some _ => exact nof m
      | _ => exact nof m
    | _ => exact nof m
  | .rev a, X, W, c, h, x, m => by
    unfold mE at m
    split at m
    · exact je_rev (mE_ok a h _ m)
    · exact nof m
  | .f1 f a, X, W, c, h, x, m => by
    unfold mE at m
    split at m
    · rename_i n p y pos
      obtain ⟨m0, m⟩ := and_t m
      obtain ⟨m1, m⟩ := and_t m
      obtain ⟨m2, m⟩ := and_t m
      obtain ⟨m3, m⟩ := and_t m
      obtain ⟨m4, m5⟩ := and_t m
      have e : n = f.nm := beq_t m2
      subst e
      exact je_f1 h.cok h.sm f (fun z => h.cold (by rw [z] at m0; simpa using m0)) m1 (h.isGl m3) (h.blt _ (by cases f <;> decide +kernel)) (star_plain m4) (mE_ok a h y m5)
    · exact nof m
  | .f2 f a b, X, W, c, h, x, m => by
    unfold mE at m
    split at m
    · rename_i n p y z pos
      obtain ⟨m0, m⟩ := and_t m
      obtain ⟨m2, m⟩ := and_t m
      obtain ⟨m3, m⟩ := and_t m
      obtain ⟨m4, m⟩ := and_t m
      obtain ⟨m5, m⟩ := and_t m
      obtain ⟨m6, m7⟩ := and_t m
      have e : n = f.nm := beq_t m2
      subst e
      exact je_f2 (h.cold (nh m0)) f (h.isGl m3) (h.blt _ (by cases f <;> decide +kernel)) (star_plain m4) (star_plain m5) (mE_ok a h y m6) (mE_ok b h z m7)
    · exact nof m
  | .isi t a, X, W, c, h, x, m => by
    unfold mE at m
    split at m
    · rename_i n p y mm p2 pos
      obtain ⟨m1, m⟩ := and_t m
      obtain ⟨m2, m⟩ := and_t m
      obtain ⟨m3, m⟩ := and_t m
      obtain ⟨m4, m⟩ := and_t m
      obtain ⟨m5, m6⟩ := and_t m
      have e : n = ("isinstance" : Str) := beq_t m1
      have e2 : mm = (t.nm : Str) := beq_t m2
      subst e e2
      exact je_isi t (h.isGl m3) (h.blt _ (by decide +kernel)) (h.isGl m4) (h.blt _ (by cases t <;> decide +kernel)) (star_plain m5) (mE_ok a h y m6)
    · exact nof m
  | .app a b, X, W, c, h, x, m => by
    unfold mE at m
    split at m
    · rename_i o n apos y p
      obtain ⟨m1, m⟩ := and_t m
      obtain ⟨m2, m⟩ := and_t m
      obtain ⟨m3, m⟩ := and_t m
      obtain ⟨m4, m⟩ := and_t m
      obtain ⟨m5, m6⟩ := and_t m
      have e : n = ("append" : Str) := beq_t m1
      subst e
      exact je_app (mE_ok a h o m5) (mE_ok b h y m6) (base_plain m2) (by rw [star_plain m3]; rfl) m4 (star_plain m3)
    · exact nof m
  | .rg1 t a, X, W, c, h, x, m => by
    unfold mE at m
    split at m
    · rename_i n p w p2 y pos2 pos
      obtain ⟨m0, m⟩ := and_t m
      obtain ⟨m1, m⟩ := and_t m
      obtain ⟨m2, m⟩ := and_t m
      obtain ⟨m3, m⟩ := and_t m
      obtain ⟨m4, m⟩ := and_t m
      obtain ⟨m5, m6⟩ := and_t m
      have e : n = (if t then "tuple" else "list" : Str) := beq_t m1
      have e2 : w = ("range" : Str) := beq_t m2
      subst e e2
      exact je_rg1 h.cok (h.cold (nh m0)) t (h.isGl m3) (h.blt _ (by cases t <;> decide +kernel)) (h.isGl m4) (h.blt _ (by decide +kernel)) m5 (mE_ok a h y m6)
    · exact nof m
  | .rg2 t a b, X, W, c, h, x, m => by
    unfold mE at m
    split at m
    · rename_i n p w p2 y z pos2 pos
      obtain ⟨m0, m⟩ := and_t m
      obtain ⟨m1, m⟩ := and_t m
      obtain ⟨m2, m⟩ := and_t m
      obtain ⟨m3, m⟩ := and_t m
      obtain ⟨m4, m⟩ := and_t m
      obtain ⟨m5, m⟩ := and_t m
      obtain ⟨m6, m⟩ := and_t m
      obtain ⟨m7, m8⟩ := and_t m
      have e : n = (if t then "tuple" else "list" : Str) := beq_t m1
      have e2 : w = ("range" : Str) := beq_t m2
      subst e e2
      exact je_rg2 h.cok (h.cold (nh m0)) t (h.isGl m3) (h.blt _ (by cases t <;> decide +kernel)) (h.isGl m4) (h.blt _ (by decide +kernel)) m5 m6 (mE_ok a h y m7) (mE_ok b h z m8)
    · exact nof m
  | .sst a, X, W, c, h, x, m => by
    unfold mE at m
    split at m
    · rename_i n p w p2 y pos2 pos
      obtain ⟨m0, m⟩ := and_t m
      obtain ⟨m1, m⟩ := and_t m
      obtain ⟨m2, m⟩ := and_t m
      obtain ⟨m3, m⟩ := and_t m
      obtain ⟨m4, m⟩ := and_t m
      obtain ⟨m5, m6⟩ := and_t m
      have e : n = ("sorted" : Str) := beq_t m1
      have e2 : w = ("set" : Str) := beq_t m2
      subst e e2
      exact je_sst h.cok (h.cold (nh m0)) (h.isGl m3) (h.blt _ (by decide +kernel)) (h.isGl m4) (h.blt _ (by decide +kernel)) m5 (mE_ok a h y m6)
    · exact nof m
  | .lns a, X, W, c, h, x, m => by
    unfold mE at m
    split at m
    · rename_i n p w p2 y pos2 pos
      obtain ⟨m0, m⟩ := and_t m
      obtain ⟨m1, m⟩ := and_t m
      obtain ⟨m2, m⟩ := and_t m
      obtain ⟨m3, m⟩ := and_t m
      obtain ⟨m4, m⟩ := and_t m
      obtain ⟨m5, m6⟩ := and_t m
      have e : n = ("len" : Str) := beq_t m1
      have e2 : w = ("set" : Str) := beq_t m2
      subst e e2
      exact je_lns h.cok (h.cold (nh m0)) (h.isGl m3) (h.blt _ (by decide +kernel)) (h.isGl m4) (h.blt _ (by decide +kernel)) m5 (mE_ok a h y m6)
    · exact nof m
  | .mmx b es, X, W, c, h, x, m => by
    unfold mE at m
    split at m
    · rename_i n p xs pos
      obtain ⟨m0, m⟩ := and_t m
      obtain ⟨m1, m⟩ := and_t m
      obtain ⟨m2, m⟩ := and_t m
      obtain ⟨m3, m⟩ := and_t m
      obtain ⟨m4, m5⟩ := and_t m
      cases xs with
      | nil =>
        cases es with
        | nil => exact absurd (of_decide_eq_true m2) (by simp)
        | cons _ _ => exact nof m5
      | cons y ys =>
        have pl := all_plain m4 rfl X.env pos
        cases b with
        | true =>
          have e : n = ("max" : Str) := beq_t m1
          subst e
          exact je_mmx (h.cold (nh m0)) true (h.isGl m3) (h.blt _ (by decide +kernel)) (mEs_ok es h _ m5) pl.1 pl.2
        | false =>
          have e : n = ("min" : Str) := beq_t m1
          subst e
          exact je_mmx (h.cold (nh m0)) false (h.isGl m3) (h.blt _ (by decide +kernel)) (mEs_ok es h _ m5) pl.1 pl.2
    · exact nof m
  | .srkR a, X, W, c, h, x, m => by
    unfold mE at m
    split at m
    · rename_i n p y kws pos
      obtain ⟨m1, m⟩ := and_t m
      obtain ⟨m2, m⟩ := and_t m
      obtain ⟨m3, m⟩ := and_t m
      obtain ⟨m4, m5⟩ := and_t m
      have e : n = ("sorted" : Str) := beq_t m1
      subst e
      unfold kwR at m2
      split at m2
      · rename_i w params q1 q1p i0 j0 p2 p3 q2 p4 i1 j1 p5 p6 p7 q3 p8 k0 p9 scope lp kp hz
        obtain ⟨n1, m2⟩ := and_t m2
        obtain ⟨n2, m2⟩ := and_t m2
        obtain ⟨n3, m2⟩ := and_t m2
        obtain ⟨n4, m2⟩ := and_t m2
        obtain ⟨n5, m2⟩ := and_t m2
        obtain ⟨n6, n7⟩ := and_t m2
        obtain ⟨l1, n3⟩ := and_t n3
        obtain ⟨l2, l3⟩ := and_t n3
        have e1 : w = ("key" : Str) := beq_t n1
        have e2 := of_decide_eq_true n4
        have e3 := of_decide_eq_true n5
        have e4 := beq_t n6
        have e5 := beq_t n7
        subst e1 e2 e3 e4 e5
        exact je_srkR (h.lam n2) (by have := h.dp; omega) (by have := h.cok.un; omega) (by rw [h.sc]; exact lam1_by l2) (of_decide_eq_true l1) (nmOk_at l3).1 (h.isGl m3) (h.blt _ (by decide +kernel)) (mE_ok a h y m5) (star_plain m4)
      · exact nof m2
    · exact nof m
  | .srkP a r, X, W, c, h, x, m => by
    unfold mE at m
    split at m
    · rename_i n p y kws pos
      obtain ⟨m1, m⟩ := and_t m
      obtain ⟨m2, m⟩ := and_t m
      obtain ⟨m3, m⟩ := and_t m
      obtain ⟨m4, m5⟩ := and_t m
      have e : n = ("sorted" : Str) := beq_t m1
      subst e
      unfold kwP at m2
      split at m2
      · rename_i w params rn p1 q p2 p3 scope lp kp hz
        obtain ⟨n1, m2⟩ := and_t m2
        obtain ⟨n2, m2⟩ := and_t m2
        obtain ⟨n3, m2⟩ := and_t m2
        obtain ⟨n4, m2⟩ := and_t m2
        obtain ⟨n5, n6⟩ := and_t m2
        obtain ⟨l1, n3⟩ := and_t n3
        obtain ⟨l2, l3⟩ := and_t n3
        have e1 : w = ("key" : Str) := beq_t n1
        subst e1
        exact je_srkP (h.lam n2) (by have := h.dp; omega) (by have := h.cok.un; omega) (by rw [h.sc]; exact lam1_by l2) (of_decide_eq_true l1) (of_decide_eq_true n4) (h.isN n5) (nmOk_at l3).1 (nmOk_at n6).1 (nmOk_at n6).2 (h.isGl m3) (h.blt _ (by decide +kernel)) (mE_ok a h y m5) (star_plain m4)
      · exact nof m2
    · exact nof m
  | .rv0 a, X, W, c, h, x, m => by
    unfold mE at m
    split at m
    · exact je_rv0 (mE_ok a h _ m)
    · exact nof m
  | .dsub kvs a, X, W, c, h, x, m => by
    unfold mE at m
    split at m
    · obtain ⟨m1, m⟩ := and_t m
      obtain ⟨m2, m⟩ := and_t m
      obtain ⟨m3, m⟩ := and_t m
      obtain ⟨m4, m⟩ := and_t m
      obtain ⟨m5, m6⟩ := and_t m
      have e := of_decide_eq_true m1
      subst e
      exact je_dsub (by simpa using m2) (by simpa using m3) (by simpa using m4) h.cok (mE_ok a h _ m6) (ix_plain m5)
    · exact nof m
  | .srr a, X, W, c, h, x, m => by
    unfold mE at m
    split at m
    · rename_i n p y w j cp kp pos
      obtain ⟨m1, m⟩ := and_t m
      obtain ⟨m2, m⟩ := and_t m
      obtain ⟨m3, m⟩ := and_t m
      obtain ⟨m4, m5⟩ := and_t m
      have e : n = ("sorted" : Str) := beq_t m1
      have e2 : w = ("reverse" : Str) := beq_t m2
      subst e e2
      exact je_srr h.cok (h.isGl m3) (h.blt _ (by decide +kernel)) m4 (mE_ok a h y m5)
    · exact nof m
  | .ixo a b, X, W, c, h, x, m => by
    unfold mE at m
    split at m
    · rename_i o n apos y p
      obtain ⟨m1, m⟩ := and_t m
      obtain ⟨m2, m⟩ := and_t m
      obtain ⟨m3, m⟩ := and_t m
      obtain ⟨m4, m⟩ := and_t m
      obtain ⟨m5, m6⟩ := and_t m
      have e : n = ("index" : Str) := beq_t m1
      subst e
      exact je_ixo h.cok (mE_ok a h o m5) (mE_ok b h y m6) (base_plain m2) (by rw [star_plain m3]; rfl) m4 (star_plain m3)
    · exact nof m
  | .ext a b, X, W, c, h, x, m => by
    unfold mE at m
    split at m
    · rename_i o n apos y p
      obtain ⟨m1, m⟩ := and_t m
      obtain ⟨m2, m⟩ := and_t m
      obtain ⟨m3, m⟩ := and_t m
      obtain ⟨m4, m⟩ := and_t m
      obtain ⟨m5, m6⟩ := and_t m
      have e : n = ("extend" : Str) := beq_t m1
      subst e
      exact je_ext (mE_ok a h o m5) (mE_ok b h y m6) (base_plain m2) (by rw [star_plain m3]; rfl) m4 (star_plain m3)
    · exact nof m
  | .rmv a b, X, W, c, h, x, m => by
    unfold mE at m
    split at m
    · rename_i o n apos y p
      obtain ⟨m1, m⟩ := and_t m
      obtain ⟨m2, m⟩ := and_t m
      obtain ⟨m3, m⟩ := and_t m
      obtain ⟨m4, m⟩ := and_t m
      obtain ⟨m5, m6⟩ := and_t m
      have e : n = ("remove" : Str) := beq_t m1
      subst e
      exact je_rmv h.cok (mE_ok a h o m5) (mE_ok b h y m6) (base_plain m2) (by rw [star_plain m3]; rfl) m4 (star_plain m3)
    · exact nof m
  | .pop1 a b, X, W, c, h, x, m => by
    unfold mE at m
    split at m
    · rename_i o n apos y p
      obtain ⟨m1, m⟩ := and_t m
      obtain ⟨m2, m⟩ := and_t m
      obtain ⟨m3, m⟩ := and_t m
      obtain ⟨m4, m⟩ := and_t m
      obtain ⟨m5, m6⟩ := and_t m
      have e : n = ("pop" : Str) := beq_t m1
      subst e
      exact je_pop1 (mE_ok a h o m5) (mE_ok b h y m6) (base_plain m2) (by rw [star_plain m3]; rfl) m4 (star_plain m3)
    · exact nof m
  | .pop0 a, X, W, c, h, x, m => by
    unfold mE at m
    split at m
    · rename_i o n apos p
      obtain ⟨m1, m⟩ := and_t m
      obtain ⟨m2, m⟩ := and_t m
      obtain ⟨m3, m4⟩ := and_t m
      have e : n = ("pop" : Str) := beq_t m1
      subst e
      exact je_pop0 (mE_ok a h o m4) (base_plain m2) m3
    · exact nof m
  | .comp elt tg src cond own, X, W, c, h, x, m => by
    unfold mE at m
    split at m
    · exact je_D (comp_ok h m (fun q => mI_ok src h _ _ q) (fun X' c' h' q e => by rw [e] at *; exact mOT_ok cond h' _ q) (fun X' c' h' q e => by rw [e] at *; exact mE_ok elt h' _ q))
    · exact nof m
  | .xis one cs a, X, W, c, h, x, m => by
    unfold mE at m
    split at m
    · rename_i n p y cl pos
      obtain ⟨m1, m⟩ := and_t m
      obtain ⟨m2, m⟩ := and_t m
      obtain ⟨m3, m⟩ := and_t m
      obtain ⟨m4, m5⟩ := and_t m
      have e : n = ("isinstance" : Str) := beq_t m1
      subst e
      rcases clsM_at m4 with ⟨x0, p2, rfl, rfl, n1⟩ | ⟨es, kk, p2, rfl, n1, n2⟩
      · exact je_xis1 (h.isGl m2) (h.blt _ (by decide +kernel)) (h.nmx n1) (star_plain m3) (mE_ok a h y m5)
      · exact je_xisT (h.isGl m2) (h.blt _ (by decide +kernel)) (h.nmsx n2) n1 (star_plain m3) (mE_ok a h y m5)
    · exact nof m
  | .xf f a, X, W, c, h, x, m => by
    unfold mE at m
    split at m
    · obtain ⟨m1, m⟩ := and_t m
      obtain ⟨m2, m3⟩ := and_t m
      have e := beq_t m1
      subst e
      exact je_xf (mE_ok a h _ m3) (base_plain m2)
    · exact nof m
  | .cnt a b, X, W, c, h, x, m => by
    unfold mE at m
    split at m
    · rename_i o n apos y p
      obtain ⟨m1, m⟩ := and_t m
      obtain ⟨m2, m⟩ := and_t m
      obtain ⟨m3, m⟩ := and_t m
      obtain ⟨m4, m⟩ := and_t m
      obtain ⟨m5, m6⟩ := and_t m
      have e : n = ("count" : Str) := beq_t m1
      subst e
      exact je_cnt (mE_ok a h o m5) (mE_ok b h y m6) (base_plain m2) (by rw [star_plain m3]; rfl) m4 (star_plain m3)
    · exact nof m
  | .mk e, X, W, c, h, x, m => by
    unfold mE at m
    split at m
    · obtain ⟨m1, m2⟩ := and_t m
      cases e with
      | comp elt tg src cond own =>
        unfold mE at m1
        split at m1
        · rename_i heq
          cases heq
          refine PE.imp (je_mkD (comp_ok h m1 (fun q => mI_ok src h _ _ q) (fun X' c' h' q e => by rw [e] at *; exact mOT_ok cond h' _ q) (fun X' c' h' q e => by rw [e] at *; exact mE_ok elt h' _ q))) fun σ H Q q => ?_
          have e1 : (fun ρ s => ((evI (GG c fuel k) src ρ s).bind fun xs s1 => compL (compF tg (evOT (GG c fuel k) cond) (evE (GG c fuel k) elt) (wipeE ρ own)) xs s1).bind mkL) = evE (GG c fuel k) (.mk (.comp elt tg src cond own)) := by
            funext ρ s
            show _ = (((((evI (GG c fuel k) src ρ s).bind fun xs s1 => compL (compF tg (evOT (GG c fuel k) cond) (evE (GG c fuel k) elt) (wipeE ρ own)) xs s1).bind fun ys s2 => .ok (.lst ys) s2).bind unL).bind mkL)
            rw [bind_un]
          rw [e1]
          exact q
        · exact nof m1
      | _ => exact nof m2
    · obtain ⟨m1, m2⟩ := and_t m
      cases e with
      | lst es =>
        obtain ⟨m1, m2⟩ := and_t (show (decide (es.length ≤ CAP) && mEs c es _) = true from m1)
        refine PE.imp (je_mkD (je_FD (je_lstF (fun ρ s xs s' e => by rw [evEs_len es ρ s xs s' e]; exact of_decide_eq_true m1) (mEs_ok es h _ m2)))) fun σ H Q q => ?_
        have e1 : (fun ρ s => (evEs (GG c fuel k) es ρ s).bind mkL) = evE (GG c fuel k) (.mk (.lst es)) := by
          funext ρ s
          show _ = ((((evEs (GG c fuel k) es ρ s).bind fun ys s2 => .ok (.lst ys) s2).bind unL).bind mkL)
          rw [bind_un]
        rw [e1]
        exact q
      | _ => exact nof m2
    · rename_i n p y pos
      obtain ⟨m0, m⟩ := and_t m
      obtain ⟨m1, m2⟩ := and_t m
      cases e with
      | f1 fo a =>
       cases fo with
       | list =>
        obtain ⟨m1, m⟩ := and_t (show ((!c.hot || !F1.list.heat) && (F1.list.have_ && (n == F1.list.nm && (RS.isGl c.sc n && (plainE y && mE c a y))))) = true from m1)
        obtain ⟨_, m⟩ := and_t m
        obtain ⟨m2, m⟩ := and_t m
        obtain ⟨m3, m⟩ := and_t m
        obtain ⟨m4, m5⟩ := and_t m
        have e : n = ("list" : Str) := beq_t m0
        subst e
        exact je_mkD (je_FD (je_listF (h.isGl m3) (h.blt _ (by decide +kernel)) (star_plain m4) (mE_ok a h y m5)))
       | _ => exact nof m2
      | _ => exact nof m2
    · rename_i l r pos
      obtain ⟨m1, m2⟩ := and_t m
      cases e with
      | bin bo a b =>
       cases bo with
       | mul =>
        obtain ⟨m1, m⟩ := and_t (show (boM .mul .Mult && (mE c a l && mE c b r)) = true from m1)
        obtain ⟨m2, m3⟩ := and_t m
        exact je_mkD (je_FD (je_repF (mE_ok a h l m2) (mE_ok b h r m3)))
       | _ => exact nof m2
      | _ => exact nof m2
    · rename_i l r pos
      obtain ⟨m1, m2⟩ := and_t m
      cases e with
      | bin bo a b =>
       cases bo with
       | add =>
        obtain ⟨m1, m⟩ := and_t (show (boM .add .Add && (mE c a l && mE c b r)) = true from m1)
        obtain ⟨m2, m3⟩ := and_t m
        exact je_mkD (je_FD (je_catF (mE_ok a h l m2) (mE_ok b h r m3)))
       | _ => exact nof m2
      | _ => exact nof m2
    · exact nof m
  | .call f args, X, W, c, h, x, m => by
    unfold mE at m
    split at m
    · obtain ⟨m0, m⟩ := and_t m
      obtain ⟨m1, m⟩ := and_t m
      obtain ⟨m2, m⟩ := and_t m
      obtain ⟨m3, m⟩ := and_t m
      obtain ⟨m4, m5⟩ := and_t m
      exact PE.imp (call_ok h (nh m0) m1 m2 m3 m4 (mEs_ok args h _ m5) (mEs_nil m5)) fun σ H Q q => callC_imp q
    · exact nof m
  | .calln f args, X, W, c, h, x, m => by
    unfold mE at m
    split at m
    · obtain ⟨m0, m⟩ := and_t m
      obtain ⟨m1, m⟩ := and_t m
      obtain ⟨m2, m⟩ := and_t m
      obtain ⟨m3, m⟩ := and_t m
      obtain ⟨m4, m5⟩ := and_t m
      exact PE.imp (call_ok h (nh m0) m1 m2 m3 m4 (mEs_ok args h _ m5) (mEs_nil m5)) fun σ H Q q => callG_imp q
    · exact nof m
theorem mEs_ok : ∀ (es : List E) {X : Cx} {W : WX} {c : Cz} (h : Hy X W c fuel k) (xs : List Expr), mEs c es xs = true → PA X xs (tMA X W (evEs (GG c fuel k) es))
  | [], X, W, c, h, xs, m => by
    cases xs with
    | nil => exact ja_nil
    | cons _ _ => exact nof m
  | e :: es, X, W, c, h, xs, m => by
    cases xs with
    | nil => exact nof m
    | cons x xs =>
      obtain ⟨m1, m⟩ := and_t (show (plainE x && (mE c e x && mEs c es xs)) = true from m)
      obtain ⟨m2, m3⟩ := and_t m
      exact ja_cons (mE_ok e h x m2) (mEs_ok es h xs m3) (star_plain m1)
theorem mO_ok : ∀ (o : Option E) {X : Cx} {W : WX} {c : Cz} (h : Hy X W c fuel k) (x : Option Expr), mO c o x = true → PO X x (tMO X W (evO (GG c fuel k) o))
  | none, X, W, c, h, x, m => by
    cases x with
    | none => exact jo_none
    | some _ => exact nof m
  | some e, X, W, c, h, x, m => by
    cases x with
    | none => exact nof m
    | some x => exact jo_some (mE_ok e h x m)
theorem mOT_ok : ∀ (o : Option T) {X : Cx} {W : WX} {c : Cz} (h : Hy X W c fuel k) (xs : List Expr), mOT c o xs = true → PTs X xs (tMT X W (evOT (GG c fuel k) o))
  | none, X, W, c, h, x, m => by
    match x, m with
    | [], m => exact pts_none
    | _ :: _, m => exact nof m
  | some t, X, W, c, h, x, m => by
    match x, m with
    | [x], m => exact pts_one (mT_ok t h x m)
    | [], m => exact nof m
    | _ :: _ :: _, m => exact nof m
theorem mT_ok : ∀ (t : T) {X : Cx} {W : WX} {c : Cz} (h : Hy X W c fuel k) (x : Expr), mT c t x = true → PT X x (tMT X W (evT (GG c fuel k) t))
  | .v e, X, W, c, h, x, m => by
    unfold mT at m
    split at m
    · rename_i l ops rs p
      obtain ⟨m1, m2⟩ := and_t m
      match e, m1, m2 with
      | .cmp o a b, m1, _ =>
        match ops, rs, m1 with
        | [op], [r], m =>
          obtain ⟨m1, m⟩ := and_t (show (decide (o = op) && (!behindInMarks o r && (mE c a l && mE c b r))) = true from m)
          obtain ⟨m2, m⟩ := and_t m
          obtain ⟨m3, m4⟩ := and_t m
          have e := of_decide_eq_true m1
          subst e
          rw [evT_cmp]
          exact jt_cmpD h.cok o (mE_ok a h l m3) (mE_ok b h r m4) (by simpa using m2)
        | [], _, m => exact nof m
        | [_], [], m => exact nof m
        | [_], _ :: _ :: _, m => exact nof m
        | _ :: _ :: _, _, m => exact nof m
      | .chn3 o q w a b d e0, m1, _ =>
        match ops, rs, m1 with
        | [o1, o2, o3], [r1, r2, r3], m =>
          obtain ⟨m1, m⟩ := and_t (show (decide (o = o1) && (decide (q = o2) && (decide (w = o3) && (!lastMarks [o, q, w] [r1, r2, r3] && (mE c a l && (mE c b r1 && (mE c d r2 && mE c e0 r3))))))) = true from m)
          obtain ⟨m2, m⟩ := and_t m
          obtain ⟨m2', m⟩ := and_t m
          obtain ⟨m3, m⟩ := and_t m
          obtain ⟨m4, m⟩ := and_t m
          obtain ⟨m5, m⟩ := and_t m
          obtain ⟨m6, m7⟩ := and_t m
          have e := of_decide_eq_true m1
          have e' := of_decide_eq_true m2
          have e'' := of_decide_eq_true m2'
          subst e e' e''
          rw [evT_chn3]
          exact jt_chn3 h.cok o q w (mE_ok a h l m4) (mE_ok b h r1 m5) (mE_ok d h r2 m6) (mE_ok e0 h r3 m7) (by simpa using m3)
        | [], _, m => exact nof m
        | [_], _, m => exact nof m
        | [_, _], _, m => exact nof m
        | [_, _, _], [], m => exact nof m
        | [_, _, _], [_], m => exact nof m
        | [_, _, _], [_, _], m => exact nof m
        | [_, _, _], _ :: _ :: _ :: _ :: _, m => exact nof m
        | _ :: _ :: _ :: _ :: _, _, m => exact nof m
      | .chn o q a b d, m1, _ =>
        match ops, rs, m1 with
        | [o1, o2], [r1, r2], m =>
          obtain ⟨m1, m⟩ := and_t (show (decide (o = o1) && (decide (q = o2) && (!lastMarks [o, q] [r1, r2] && (mE c a l && (mE c b r1 && mE c d r2))))) = true from m)
          obtain ⟨m2, m⟩ := and_t m
          obtain ⟨m3, m⟩ := and_t m
          obtain ⟨m4, m⟩ := and_t m
          obtain ⟨m5, m6⟩ := and_t m
          have e := of_decide_eq_true m1
          have e' := of_decide_eq_true m2
          subst e e'
          rw [evT_chn]
          exact jt_chn h.cok o q (mE_ok a h l m4) (mE_ok b h r1 m5) (mE_ok d h r2 m6) (by simpa using m3)
        | [], _, m => exact nof m
        | [_], _, m => exact nof m
        | [_, _], [], m => exact nof m
        | [_, _], [_], m => exact nof m
        | [_, _], _ :: _ :: _ :: _, m => exact nof m
        | _ :: _ :: _ :: _, _, m => exact nof m
    · obtain ⟨m1, m2⟩ := and_t m
      exact jt_val (mE_ok e h _ m2) (tst_plain m1)
  | .nt t, X, W, c, h, x, m => by
    cases x with
    | UnaryOp op y p =>
      cases op with
      | Not => exact jt_not (mT_ok t h y m)
      | _ => exact nof m
    | _ => exact nof m
  | .an t u, X, W, c, h, x, m => by
    unfold mT at m
    split at m
    · obtain ⟨m1, m2⟩ := and_t m
      exact (jw_and (mT_ok t h _ m1) (mW_ok u h _ _ _ m2)).pt
    · exact nof m
  | .an1 t, X, W, c, h, x, m => by
    unfold mT at m
    split at m
    · exact (pw_and1 (mT_ok t h _ m)).pt
    · exact nof m
  | .orr t u, X, W, c, h, x, m => by
    unfold mT at m
    split at m
    · obtain ⟨m1, m2⟩ := and_t m
      exact (jw_or (mT_ok t h _ m1) (mW_ok u h _ _ _ m2)).pt
    · exact nof m
  | .or1 t, X, W, c, h, x, m => by
    unfold mT at m
    split at m
    · exact (pw_or1 (mT_ok t h _ m)).pt
    · exact nof m
theorem mW_ok : ∀ (t : T) {X : Cx} {W : WX} {c : Cz} (h : Hy X W c fuel k) (op : BoolOp) (vs : List Expr) (p : Pos), mT c t (.BoolOp op vs p) = true → PW X (.BoolOp op vs p) (tMT X W (evT (GG c fuel k) t))
  | .v e, X, W, c, h, op, vs, p, m => nof m
  | .nt t, X, W, c, h, op, vs, p, m => nof m
  | .an t u, X, W, c, h, op, vs, p, m => by
    match op, vs, m with
    | .And, x :: y :: rest, m =>
      obtain ⟨m1, m2⟩ := and_t (show (mT c t x && mT c u (.BoolOp .And (y :: rest) p)) = true from m)
      exact jw_and (mT_ok t h _ m1) (mW_ok u h _ _ _ m2)
    | .And, [], m => exact nof m
    | .And, [_], m => exact nof m
    | .Or, _, m => exact nof m
  | .an1 t, X, W, c, h, op, vs, p, m => by
    match op, vs, m with
    | .And, [x], m => exact pw_and1 (mT_ok t h x m)
    | .And, [], m => exact nof m
    | .And, _ :: _ :: _, m => exact nof m
    | .Or, _, m => exact nof m
  | .orr t u, X, W, c, h, op, vs, p, m => by
    match op, vs, m with
    | .Or, x :: y :: rest, m =>
      obtain ⟨m1, m2⟩ := and_t (show (mT c t x && mT c u (.BoolOp .Or (y :: rest) p)) = true from m)
      exact jw_or (mT_ok t h _ m1) (mW_ok u h _ _ _ m2)
    | .Or, [], m => exact nof m
    | .Or, [_], m => exact nof m
    | .And, _, m => exact nof m
  | .or1 t, X, W, c, h, op, vs, p, m => by
    match op, vs, m with
    | .Or, [x], m => exact pw_or1 (mT_ok t h x m)
    | .Or, [], m => exact nof m
    | .Or, _ :: _ :: _, m => exact nof m
    | .And, _, m => exact nof m
theorem mI_ok : ∀ (i : It) {X : Cx} {W : WX} {c : Cz} (h : Hy X W c fuel k) (x tg : Expr), mI c i x tg = true → PI X tg x (tI X W (evI (GG c fuel k) i))
  | .ex e, X, W, c, h, x, tg, m => ji_seq (mE_ok e h x m)
  | .r1 a, X, W, c, h, x, tg, m => by
    unfold mI at m
    split at m
    · rename_i n p y pos
      obtain ⟨m1, m⟩ := and_t m
      obtain ⟨m2, m⟩ := and_t m
      obtain ⟨m3, m4⟩ := and_t m
      have e : n = ("range" : Str) := beq_t m1
      subst e
      exact ji_r1 (h.isGl m2) (h.blt _ (by decide +kernel)) (mE_ok a h y m4) (star_plain m3)
    · exact nof m
  | .r2 a b, X, W, c, h, x, tg, m => by
    unfold mI at m
    split at m
    · rename_i n p y z pos
      obtain ⟨m1, m⟩ := and_t m
      obtain ⟨m2, m⟩ := and_t m
      obtain ⟨m3, m⟩ := and_t m
      obtain ⟨m4, m⟩ := and_t m
      obtain ⟨m5, m6⟩ := and_t m
      have e : n = ("range" : Str) := beq_t m1
      subst e
      have s2 : starEach [z] X.env = [(false, eval z X.env)] := star_plain m4
      exact ji_r2 (h.isGl m2) (h.blt _ (by decide +kernel)) (mE_ok a h y m5) (mE_ok b h z m6) (by rw [star_plain m3, s2]) s2
    · exact nof m
  | .en a, X, W, c, h, x, tg, m => by
    unfold mI at m
    split at m
    · rename_i n p y pos elts kk tpos
      obtain ⟨m1, m⟩ := and_t m
      obtain ⟨m2, m⟩ := and_t m
      obtain ⟨m3, m4⟩ := and_t m
      have e : n = ("enumerate" : Str) := beq_t m1
      subst e
      exact ji_en (h.isGl m2) (h.blt _ (by decide +kernel)) (mE_ok a h y m4) (star_plain m3)
    · exact nof m
  | .en1 a, X, W, c, h, x, tg, m => by
    unfold mI at m
    split at m
    · rename_i n p y j bp pos elts kk tpos
      obtain ⟨m1, m⟩ := and_t m
      obtain ⟨m2, m⟩ := and_t m
      obtain ⟨m3, m4⟩ := and_t m
      have e : n = ("enumerate" : Str) := beq_t m1
      subst e
      exact ji_en1 (h.isGl m2) (h.blt _ (by decide +kernel)) (mE_ok a h y m4) (star_plain m3)
    · exact nof m
  | .zp a b, X, W, c, h, x, tg, m => by
    unfold mI at m
    split at m
    · rename_i n p y z pos elts kk tpos
      obtain ⟨m1, m⟩ := and_t m
      obtain ⟨m2, m⟩ := and_t m
      obtain ⟨m3, m⟩ := and_t m
      obtain ⟨m4, m⟩ := and_t m
      obtain ⟨m5, m6⟩ := and_t m
      have e : n = ("zip" : Str) := beq_t m1
      subst e
      exact ji_zp (h.isGl m2) (h.blt _ (by decide +kernel)) (mE_ok a h y m5) (mE_ok b h z m6) (star_plain m3) (star_plain m4)
    · exact nof m
end
end
end RS

set_option Elab.async false
set_option linter.all false
set_option maxHeartbeats 4000000
set_option maxRecDepth 100000
/-! the matcher of statements -/
namespace RS
open PySem PySem.Spec L2
open PyProof.Rows hiding St

def noComp : Expr → Bool
  | .ListComp _ _ _ _ => false
  | .SetComp _ _ _ _ => false
  | .DictComp _ _ _ _ _ => false
  | _ => true
/-- no stores from the right -/
def isNm (sc : Scope) : Expr → Bool
  | .Name x _ => match sc.names.lookup x with
    | some .local => true
    | _ => false
  | _ => false
def noPar (sc : Scope) : Expr → Expr → Bool
  | .Tuple ts _ _, .Tuple vs _ _ => !(ts.length == 2 || ts.length == 3) || (vs.all (foldedForSure 8) || !ts.all (isNm sc))
  | .List _ _, .Tuple _ _ _ => false
  | _, _ => true
/-- the place's own name is stored before the comprehension's names are let go -/
def swB (sc : Scope) (y : Str) (py : Pos) (scope : Scope) (pos : Pos) : Bool :=
  (match sc.kind with | .function => true | _ => false) && ((match sc.names.lookup y with | some .local => true | _ => false) && ((py.line == pos.line) && !(scope.names.any fun (n, k) => n == y && (k == .local || k == .cell))))
def noSw (c : Cz) : Expr → Expr → Bool
  | .Name y py, .ListComp _ _ scope pos => match c.sc.names.lookup y with
    | some .local => false
    | _ => true
  | .Tuple _ _ _, .ListComp _ _ _ _ => true
  | _, .ListComp _ _ _ _ => false
  | _, .SetComp _ _ _ _ => false
  | _, .DictComp _ _ _ _ _ => false
  | _, _ => true
def parB (c : Cz) (x : Str) (px : Pos) (y : Str) (py : Pos) (a b : Expr) : Bool :=
  (match c.sc.kind with | .function => true | _ => false) && ((c.sc.names.lookup x == some .local) && ((c.sc.names.lookup y == some .local) && (!(x == y) && ((py.line == px.line) && (noStar a && (noStar b && (!([a, b].all (foldedForSure 8)) && !([a, b].all (constantsAlone 8)))))))))
def parB3 (c : Cz) (x : Str) (px : Pos) (y : Str) (py : Pos) (z : Str) (pz : Pos) (a b d : Expr) : Bool :=
  (match c.sc.kind with | .function => true | _ => false) && ((c.sc.names.lookup x == some .local) && ((c.sc.names.lookup y == some .local) && ((c.sc.names.lookup z == some .local) && (!(x == y) && (!(x == z) && (!(y == z) && ((py.line == px.line) && ((pz.line == px.line) && (noStar a && (noStar b && (noStar d && (!([a, b, d].all (foldedForSure 8)) && !([a, b, d].all (constantsAlone 8))))))))))))))
def isTop (c : Cz) : Bool := match c.fnS with
  | none => true
  | _ => false
/-- the name behind as -/
def asM (c : Cz) : Option Nat → Option Str → Bool
  | none, none => true
  | some i, some n => isN c i n && (c.sc.names.lookup n == some .local)
  | _, _ => false
mutual
def mC (c : Cz) : C → Stmt → Bool
  | .asg t e, st => match st with
    | .Assign [.Name y py] (.ListComp e' [⟨tg', iter, ifs, 0⟩] scope pos) _ =>
      if swB c.sc y py scope pos then (match t with | .nm i => isN c i y | _ => false) && asC c e e' tg' iter ifs scope
      else noSw c (.Name y py) (.ListComp e' [⟨tg', iter, ifs, 0⟩] scope pos) && (mTg c t (.Name y py) && mE c e (.ListComp e' [⟨tg', iter, ifs, 0⟩] scope pos))
    | .Assign [tg] x _ => noPar c.sc tg x && (noSw c tg x && (mTg c t tg && mE c e x))
    | _ => false
  | .par i j a b, st => match st with
    | .Assign [.Tuple [.Name x px, .Name y py] _ _] (.Tuple [a', b'] _ _) _ => !c.hot && (parB c x px y py a' b' && (isN c i x && (isN c j y && (plainE a' && (plainE b' && (mE c a a' && mE c b b'))))))
    | _ => false
  | .par3 i j l a b d, st => match st with
    | .Assign [.Tuple [.Name x px, .Name y py, .Name z pz] _ _] (.Tuple [a', b', d'] _ _) _ => !c.hot && (parB3 c x px y py z pz a' b' d' && (isN c i x && (isN c j y && (isN c l z && (plainE a' && (plainE b' && (plainE d' && (mE c a a' && (mE c b b' && mE c d d')))))))))
    | _ => false
  | .augM i e, st => match st with
    | .AugAssign (.Name x _) .Mult y _ => isN c i x && (isSto c x && mE c e y)
    | _ => false
  | .six a i e, st => match st with
    | .Assign [.Subscript o k _] x _ => plainE k && (noComp x && (mE c e x && (mE c a o && mE c i k)))
    | _ => false
  | .exp e, st => match st with
    | .Expr x _ => noComp x && mE c e x
    | _ => false
  | .ret e, st => match st with
    | .Return (some x) _ => mE c e x
    | .Return none _ => isNon e
    | _ => false
  | .ite t a b, st => match st with
    | .If x p q _ => mT c t x && (mCs c a p && mCs c b q)
    | _ => false
  | .forr t it body, st => match st with
    | .For tg x p [] _ => !c.hot && (noSet x && (mTg c t tg && (mI c it x tg && mCs c body p)))
    | _ => false
  | .whl t body, st => match st with
    | .While x p [] _ => mT c t x && mCs c body p
    | _ => false
  | .brk, st => match st with
    | .Break _ => true
    | _ => false
  | .cnt, st => match st with
    | .Continue _ => true
    | _ => false
  | .pass, st => match st with
    | .Pass _ => true
    | .Expr (.Constant (.str _) _ _) _ => true
    | _ => false
  | .never, _ => true
  | .rai x, st => match st with
    | .Raise (some (.Call (.Name z _) [] [] _)) none _ => z == x && (!c.hot && (isGl c.sc x && (nmOk x && c.exs.ex0.contains x)))
    | _ => false
  | .rai1 x f e, st => match st with
    | .Raise (some (.Call (.Name z _) [y] [] _)) none _ => z == x && (!c.hot && (isGl c.sc x && (nmOk x && (c.exs.ex1.contains (x, f) && (plainE y && mE c e y)))))
    | _ => false
  | .tryy body hs, st => match st with
    | .Try p (h₀ :: hds) [] [] _ => !c.hot && (isTop c && (mCs c body p && mH c hs (h₀ :: hds)))
    | _ => false
  | .hd _ _ _ _, _ => false
  | .hd0, _ => false
def mH (c : Cz) : C → List ExceptHandler → Bool
  | .hd0, hds => match hds with
    | [] => true
    | _ => false
  | .hd x i suite r, hds => match hds with
    | .ExceptHandler (some (.Name z _)) nm (b₀ :: sts) _ :: hds => z == x && (nmX c x && (asM c i nm && (mCs { c with hot := true } suite (b₀ :: sts) && mH c r hds)))
    | _ => false
  | _, _ => false
def mCs (c : Cz) : List C → List Stmt → Bool
  | [], xs => match xs with
    | [] => true
    | _ => false
  | x :: xs, ys => match ys with
    | y :: ys => mC c x y && mCs c xs ys
    | _ => false
def isNon : E → Bool
  | .cst .non => true
  | _ => false
def asC (c : Cz) : E → Expr → Expr → Expr → List Expr → Scope → Bool
  | .comp elt tg src cond own, e', tg', iter, ifs, scope => !c.hot && (blkC c.N c.sc scope own && (mI c src iter tg' && (noSet iter && (mTg { c with sc := relS scope c.sc, fnS := some scope } tg tg' && (tg.sub (own.map (·.2)) &&
        (mOT { c with sc := relS scope c.sc, fnS := some scope } cond ifs && mE { c with sc := relS scope c.sc, fnS := some scope } elt e'))))))
  | .mk e, e', tg', iter, ifs, scope => match e with
    | .comp elt tg src cond own => !c.hot && (blkC c.N c.sc scope own && (mI c src iter tg' && (noSet iter && (mTg { c with sc := relS scope c.sc, fnS := some scope } tg tg' && (tg.sub (own.map (·.2)) &&
        (mOT { c with sc := relS scope c.sc, fnS := some scope } cond ifs && mE { c with sc := relS scope c.sc, fnS := some scope } elt e'))))))
    | _ => false
  | _, _, _, _, _, _ => false
end
theorem sw_no {e : Expr} {o : Option Expr} {l : Nat} {env : PySem.Env} (h : noComp e = true) : swapsWith e o l env = pure false := by
  cases e <;> first | rfl | exact nof h
theorem sw_sole {t e : Expr} {l : Nat} {env : PySem.Env} (h : noComp e = true) : swapsWithSole [t] e l env = pure false := by
  have := sw_no (o := some t) (l := l) (env := env) h
  exact this
section
variable {fuel k : Nat} {X : Cx} {W : WX} {c : Cz}
theorem names_short {env : PySem.Env} {line : Nat} : ∀ (ts : List Expr), (ts.filterMap fun e => match e with
    | .Name id pos => if env.kindOf id == some .local && pos.line == line then some id else none
    | _ => none).length = ts.length → ts.all (isNm env.scope) = true
  | [], _ => rfl
  | t :: ts, h => by
    have le := List.length_filterMap_le (fun e : Expr => match e with
      | .Name id pos => if env.kindOf id == some .local && pos.line == line then some id else none
      | _ => none) ts
    cases t with
    | Name x p =>
      rw [List.filterMap_cons] at h
      split at h
      · rw [List.length_cons] at h; omega
      · rename_i q
        refine Bool.and_eq_true_iff.mpr ⟨?_, names_short (env := env) (line := line) ts (by rw [List.length_cons, List.length_cons] at h; omega)⟩
        dsimp only at q
        split at q
        · rename_i z
          have z := (Bool.and_eq_true_iff.mp z).1
          have z : (env.scope.names.lookup x == some .local) = true := z
          have z : env.scope.names.lookup x = some .local := by simpa using z
          show (match env.scope.names.lookup x with | some .local => true | _ => false) = true
          rw [z]
        · cases q
    | _ =>
      rw [List.filterMap_cons] at h
      simp only [List.length_cons] at h
      omega
theorem par_no {tg x : Expr} {env : PySem.Env} (h : noPar env.scope tg x = true) : swappedStores [tg] x env = pure none := by
  cases tg with
  | Tuple ts kt pt =>
    cases x with
    | Tuple vs kv pv =>
      have h : (!(ts.length == 2 || ts.length == 3) || (vs.all (foldedForSure 8) || !ts.all (isNm env.scope))) = true := h
      unfold swappedStores
      simp only []
      split
      · rfl
      · rename_i n1
        split
        · rfl
        · split
          · rfl
          · rename_i n3
            split
            · rfl
            · rename_i n4
              exfalso
              rw [Bool.or_eq_true, Bool.or_eq_true] at h
              rcases h with h | h | h
              · apply n1
                rw [h]
                rfl
              · exact n4 h
              · apply n3
                rw [Bool.or_eq_true]
                refine .inl ?_
                rw [bne_iff_ne]
                intro e
                rw [names_short ts e] at h
                cases h
    | _ => rfl
  | List ts pt => cases x <;> first | rfl | exact nof h
  | _ => rfl
theorem noSw_at (h : Hy X W c fuel k) {tg x : Expr} {l : Nat} (m : noSw c tg x = true) : swapsWithSole [tg] x l X.env = pure false := by
  show swapsWith x (some tg) l X.env = pure false
  cases x with
  | ListComp e gs scope pos =>
    cases tg with
    | Name y py =>
      have m : (match c.sc.names.lookup y with | some .local => false | _ => true) = true := m
      have ky : X.env.kindOf y ≠ some .local := fun z => by
        have z : X.env.scope.names.lookup y = some .local := z
        rw [h.sc] at z
        rw [z] at m
        cases m
      unfold swapsWith
      have : (X.env.kindOf y == some .local) = false := by
        cases q : (X.env.kindOf y == some .local) with
        | false => rfl
        | true => exact absurd (by simpa using q) ky
      simp [this]
    | Tuple _ _ _ => rfl
    | _ => exact nof m
  | SetComp _ _ _ _ => cases tg <;> exact nof m
  | DictComp _ _ _ _ _ => cases tg <;> exact nof m
  | _ => rfl
theorem par_at (h : Hy X W c fuel k) {x y : Str} {px py pt pt2 : Pos} {kt k2 : Nat} {a b : Expr} (m : parB c x px y py a b = true) :
    swappedStores [.Tuple [.Name x px, .Name y py] kt pt] (.Tuple [a, b] k2 pt2) X.env = pure (some [x, y]) ∧ X.env.scope.names.lookup x = some .local ∧ X.env.scope.names.lookup y = some .local ∧ x ≠ y := by
  unfold parB at m
  obtain ⟨m1, m⟩ := and_t m
  obtain ⟨m2, m⟩ := and_t m
  obtain ⟨m3, m⟩ := and_t m
  obtain ⟨m4, m⟩ := and_t m
  obtain ⟨m5, m⟩ := and_t m
  obtain ⟨m6, m⟩ := and_t m
  obtain ⟨m7, m⟩ := and_t m
  obtain ⟨m8, m9⟩ := and_t m
  have hx : X.env.scope.names.lookup x = some .local := by rw [h.sc]; simpa using m2
  have hy : X.env.scope.names.lookup y = some .local := by rw [h.sc]; simpa using m3
  have hk : X.env.scope.kind = .function := by
    rw [h.sc]
    revert m1
    cases c.sc.kind <;> intro m1 <;> first | rfl | cases m1
  have hb : X.env.blockKind = .function := by unfold Env.blockKind; rw [hk]; rfl
  have hne : x ≠ y := by simpa using m4
  refine ⟨?_, hx, hy, hne⟩
  have kx : X.env.kindOf x = some .local := hx
  have ky : X.env.kindOf y = some .local := hy
  have hl : py.line = px.line := by simpa using m5
  have f1 : ([a, b].all (foldedForSure 8)) = false := Bool.not_eq_true' _ |>.mp m8
  have f2 : ([a, b].all (constantsAlone 8)) = false := Bool.not_eq_true' _ |>.mp m9
  have hed : ([x, y] : List Str).eraseDups.length = 2 := by
    rw [List.eraseDups_cons]
    have : ([y].filter fun b => !b == x) = [y] := by simp [Ne.symm hne]
    simp [this, List.eraseDups_cons]
  unfold swappedStores
  simp only [List.length_cons, List.length_nil, List.any_cons, List.any_nil, List.filterMap_cons, List.filterMap_nil, Expr.pos, List.head?_cons, Option.map_some, Option.getD_some, kx, ky, hl, hb, f1, f2]
  rw [if_neg (by decide), if_neg (fun z => by
    rw [Bool.or_eq_true, Bool.or_eq_true] at z
    rcases z with z | z | z
    · cases a <;> first | exact nof m6 | exact nof z
    · cases b <;> first | exact nof m7 | exact nof z
    · exact nof z)]
  have e1 : (some NameKind.local == some NameKind.local && px.line == px.line) = true := by simp
  simp only [e1, if_true]
  rw [if_neg (by rw [hed]; exact Bool.false_ne_true)]
  simp
theorem par3_at (h : Hy X W c fuel k) {x y z : Str} {px py pz pt pt2 : Pos} {kt k2 : Nat} {a b d : Expr} (m : parB3 c x px y py z pz a b d = true) :
    swappedStores [.Tuple [.Name x px, .Name y py, .Name z pz] kt pt] (.Tuple [a, b, d] k2 pt2) X.env = pure (some [x, y, z]) ∧ X.env.scope.names.lookup x = some .local ∧ X.env.scope.names.lookup y = some .local ∧ X.env.scope.names.lookup z = some .local ∧ x ≠ y ∧ x ≠ z ∧ y ≠ z := by
  unfold parB3 at m
  obtain ⟨m1, m⟩ := and_t m
  obtain ⟨m2, m⟩ := and_t m
  obtain ⟨m3, m⟩ := and_t m
  obtain ⟨m3', m⟩ := and_t m
  obtain ⟨m4, m⟩ := and_t m
  obtain ⟨m4', m⟩ := and_t m
  obtain ⟨m4'', m⟩ := and_t m
  obtain ⟨m5, m⟩ := and_t m
  obtain ⟨m5', m⟩ := and_t m
  obtain ⟨m6, m⟩ := and_t m
  obtain ⟨m7, m⟩ := and_t m
  obtain ⟨m7', m⟩ := and_t m
  obtain ⟨m8, m9⟩ := and_t m
  have hx : X.env.scope.names.lookup x = some .local := by rw [h.sc]; simpa using m2
  have hy : X.env.scope.names.lookup y = some .local := by rw [h.sc]; simpa using m3
  have hz : X.env.scope.names.lookup z = some .local := by rw [h.sc]; simpa using m3'
  have hk : X.env.scope.kind = .function := by
    rw [h.sc]
    revert m1
    cases c.sc.kind <;> intro m1 <;> first | rfl | cases m1
  have hb : X.env.blockKind = .function := by unfold Env.blockKind; rw [hk]; rfl
  have hne : x ≠ y := by simpa using m4
  have hne2 : x ≠ z := by simpa using m4'
  have hne3 : y ≠ z := by simpa using m4''
  refine ⟨?_, hx, hy, hz, hne, hne2, hne3⟩
  have kx : X.env.kindOf x = some .local := hx
  have ky : X.env.kindOf y = some .local := hy
  have kz : X.env.kindOf z = some .local := hz
  have hl : py.line = px.line := by simpa using m5
  have hl2 : pz.line = px.line := by simpa using m5'
  have f1 : ([a, b, d].all (foldedForSure 8)) = false := Bool.not_eq_true' _ |>.mp m8
  have f2 : ([a, b, d].all (constantsAlone 8)) = false := Bool.not_eq_true' _ |>.mp m9
  have hed : ([x, y, z] : List Str).eraseDups.length = 3 := by
    rw [List.eraseDups_cons]
    have e1 : ([y, z].filter fun b => !b == x) = [y, z] := by simp [Ne.symm hne, Ne.symm hne2]
    rw [e1, List.eraseDups_cons]
    have e2 : ([z].filter fun b => !b == y) = [z] := by simp [Ne.symm hne3]
    rw [e2]
    simp [List.eraseDups_cons]
  unfold swappedStores
  simp only [List.length_cons, List.length_nil, List.any_cons, List.any_nil, List.filterMap_cons, List.filterMap_nil, Expr.pos, List.head?_cons, Option.map_some, Option.getD_some, kx, ky, kz, hl, hl2, hb, f1, f2]
  rw [if_neg (by decide), if_neg (fun z => by
    rw [Bool.or_eq_true, Bool.or_eq_true, Bool.or_eq_true] at z
    rcases z with z | z | z | z
    · cases a <;> first | exact nof m6 | exact nof z
    · cases b <;> first | exact nof m7 | exact nof z
    · cases d <;> first | exact nof m7' | exact nof z
    · exact nof z)]
  have e1 : (some NameKind.local == some NameKind.local && px.line == px.line) = true := by simp
  simp only [e1, if_true]
  rw [if_neg (by rw [hed]; exact Bool.false_ne_true)]
  simp
theorem swB_at (h : Hy X W c fuel k) {elt : Expr} {gs : List Comprehension} {scope : Scope} {pos py : Pos} {y : Str} {l : Nat} (m : swB c.sc y py scope pos = true) :
    swapsWith (.ListComp elt gs scope pos) (some (.Name y py)) l X.env = pure true ∧ X.env.scope.names.lookup y = some .local := by
  unfold swB at m
  obtain ⟨m1, m⟩ := and_t m
  obtain ⟨m2, m⟩ := and_t m
  obtain ⟨m3, m4⟩ := and_t m
  have hk : X.env.scope.kind = .function := by
    rw [h.sc]
    revert m1
    cases c.sc.kind <;> intro m1 <;> first | rfl | cases m1
  have hy : X.env.scope.names.lookup y = some .local := by
    rw [h.sc]
    revert m2
    cases c.sc.names.lookup y with
    | none => intro m2; cases m2
    | some z => cases z <;> intro m2 <;> first | rfl | cases m2
  exact ⟨sw_true hk hy m3 ((Bool.not_eq_true' _).mp m4), hy⟩
theorem asC_ok (h : Hy X W c fuel k) {i : Nat} {y : Str} {py pos spos : Pos} {e : E} {e' tg' iter : Expr} {ifs : List Expr} {scope : Scope} (m1 : swB c.sc y py scope pos = true) (m2 : isN c i y = true) (m3 : asC c e e' tg' iter ifs scope = true) :
    PS X (.Assign [.Name y py] (.ListComp e' [⟨tg', iter, ifs, 0⟩] scope pos) spos) (tS X W fun ρ s => (evE (GG c fuel k) e ρ s).bind fun x s1 => match bindT s1 (.nm i) x ρ with | some ρ' => .ok (.nx ρ') s1 | none => .bad) := by
  have go : ∀ {elt : E} {tg : Tg} {src : It} {cond : Option T} {own : List (Str × Nat)} {mm : Env → S → R D}, (!c.hot && (blkC c.N c.sc scope own && (mI c src iter tg' && (noSet iter && (mTg { c with sc := relS scope c.sc, fnS := some scope } tg tg' && (tg.sub (own.map (·.2)) &&
        (mOT { c with sc := relS scope c.sc, fnS := some scope } cond ifs && mE { c with sc := relS scope c.sc, fnS := some scope } elt e'))))))) = true →
      (∀ σ H Q, tM X W mm σ H Q → tD X W (fun ρ s => (evI (GG c fuel k) src ρ s).bind fun xs s1 => compL (compF tg (evOT (GG c fuel k) cond) (evE (GG c fuel k) elt) (wipeE ρ own)) xs s1) σ H Q) →
      PS X (.Assign [.Name y py] (.ListComp e' [⟨tg', iter, ifs, 0⟩] scope pos) spos) (tS X W fun ρ s => (mm ρ s).bind fun x s1 => match bindT s1 (.nm i) x ρ with | some ρ' => .ok (.nx ρ') s1 | none => .bad) := fun {elt tg src cond own mm} m hm => by
    obtain ⟨a0, m⟩ := and_t m
    obtain ⟨a1, m⟩ := and_t m
    obtain ⟨a2, m⟩ := and_t m
    obtain ⟨a3, m⟩ := and_t m
    obtain ⟨a4, m⟩ := and_t m
    obtain ⟨a5, m⟩ := and_t m
    obtain ⟨a6, a7⟩ := and_t m
    obtain ⟨b1, b2⟩ := swB_at (elt := e') (gs := [⟨tg', iter, ifs, 0⟩]) (l := spos.line) h m1
    refine js_comp (h.cold (nh a0)).calm h.cok.nd (h.isN m2) b2 b1 (mI_ok src h iter tg' a2) (by rw [h.N, h.sc]; exact blkOk_by a1) (fun s H C cl fp => ?_) (fun s H C cl fp => ?_) (fun s H C cl fp => ?_) (noset_plain a3) a5 hm
    · exact mTg_ok tg (h.blk s H scope C cl fp) tg' a4
    · exact mOT_ok cond (h.blk s H scope C cl fp) _ a6
    · exact mE_ok elt (h.blk s H scope C cl fp) _ a7
  cases e with
  | comp elt tg src cond own => exact go m3 fun σ H Q q => D_imp q
  | mk e1 =>
   cases e1 with
   | comp elt tg src cond own =>
    refine go m3 fun σ H Q q => mkD_imp ?_
    have e1 : (fun ρ s => ((evI (GG c fuel k) src ρ s).bind fun xs s1 => compL (compF tg (evOT (GG c fuel k) cond) (evE (GG c fuel k) elt) (wipeE ρ own)) xs s1).bind mkL) = evE (GG c fuel k) (.mk (.comp elt tg src cond own)) := by
      funext ρ s
      show _ = (((((evI (GG c fuel k) src ρ s).bind fun xs s1 => compL (compF tg (evOT (GG c fuel k) cond) (evE (GG c fuel k) elt) (wipeE ρ own)) xs s1).bind fun ys s2 => .ok (.lst ys) s2).bind unL).bind mkL)
      rw [bind_un]
    rw [e1]
    exact q
   | _ => exact nof m3
  | _ => exact nof m3
theorem Hy.tr {W' : WX} (h : Hy X W c fuel k) (pn : List (Addr × Obj)) {xe : Value → Shared → Prop} (tk : Takes (X.tr pn xe) W') : Hy (X.tr pn xe) W' c fuel k :=
  ⟨⟨h.cok.nd, h.cok.un, h.cok.gd⟩, fun e => ⟨(h.cold e).calm, (h.cold e).hd⟩, h.sm, h.N, h.sc, h.fnk, h.blt, h.gl, h.fn, h.room, h.dp, tk, h.lam, h.stk, h.exn, h.ex0, h.ex1⟩
theorem Hy.suite (h : Hy X W c fuel k) (hc : c.hot = false) (a : Addr) (pn : List (Addr × Obj)) : Hy (X.suite a pn) W0 { c with hot := true } fuel k :=
  ⟨⟨h.cok.nd, h.cok.un, h.cok.gd⟩, (fun e => by cases e), h.sm, h.N, h.sc, h.fnk, h.blt, h.gl, h.fn, (fun e => by cases e), h.dp, takes_none5, h.lam, h.stk, h.exn, h.ex0, h.ex1⟩
mutual
theorem mC_ok : ∀ (ir : C) {X : Cx} {W : WX} {c : Cz} (h : Hy X W c fuel k) (hp : PassesOwn (model X.prog X.w) X.A X.env X.xe) (st : Stmt), mC c ir st = true → PS X st (tS X W (evC (GG c fuel k) ir))
  | .asg t e, X, W, c, h, hp, st, m => by
    unfold mC at m
    split at m
    · rename_i y py e' tg' iter ifs scope pos spos
      by_cases q : swB c.sc y py scope pos = true
      · rw [if_pos q] at m
        obtain ⟨m1, m2⟩ := and_t m
        cases t with
        | nm i => exact asC_ok h q m1 m2
        | _ => exact nof m1
      · rw [if_neg q] at m
        obtain ⟨m1, m⟩ := and_t m
        obtain ⟨m2, m3⟩ := and_t m
        exact js_asg (mE_ok e h _ m3) (mTg_ok t h _ m2) (noSw_at h m1) rfl rfl
    · rename_i tg x pos _
      obtain ⟨m0, m⟩ := and_t m
      obtain ⟨m1, m⟩ := and_t m
      obtain ⟨m2, m3⟩ := and_t m
      exact js_asg (mE_ok e h _ m3) (mTg_ok t h _ m2) (noSw_at h m1) (par_no (by rw [h.sc]; exact m0)) (by rw [asg_plain (mTg_ns m2)]; rfl)
    · exact nof m
  | .par i j a b, X, W, c, h, hp, st, m => by
    unfold mC at m
    split at m
    · rename_i x px y py _ _ a' b' _ _ pos
      obtain ⟨m0, m⟩ := and_t m
      obtain ⟨m1, m⟩ := and_t m
      obtain ⟨m2, m⟩ := and_t m
      obtain ⟨m3, m⟩ := and_t m
      obtain ⟨m4, m⟩ := and_t m
      obtain ⟨m5, m⟩ := and_t m
      obtain ⟨m6, m7⟩ := and_t m
      obtain ⟨q1, q2, q3, q4⟩ := par_at h m1
      have hij : i ≠ j := fun e => by
        have a := h.isN m2
        have b := h.isN m3
        rw [e, b] at a
        exact q4 (Option.some.inj a).symm
      exact js_par (h.cold (nh m0)).calm h.cok.nd (h.isN m2) (h.isN m3) hij q2 q3 (mE_ok a h _ m6) (mE_ok b h _ m7) (star_plain m4) (star_plain m5) q1 rfl
    · exact nof m
  | .par3 i j l a b d, X, W, c, h, hp, st, m => by
    unfold mC at m
    split at m
    · rename_i x px y py z pz _ _ a' b' d' _ _ pos
      obtain ⟨m0, m⟩ := and_t m
      obtain ⟨m1, m⟩ := and_t m
      obtain ⟨m2, m⟩ := and_t m
      obtain ⟨m3, m⟩ := and_t m
      obtain ⟨m3', m⟩ := and_t m
      obtain ⟨m4, m⟩ := and_t m
      obtain ⟨m5, m⟩ := and_t m
      obtain ⟨m5', m⟩ := and_t m
      obtain ⟨m6, m⟩ := and_t m
      obtain ⟨m7, m8⟩ := and_t m
      obtain ⟨q1, q2, q3, q4, q5, q6, q7⟩ := par3_at h m1
      have dif : ∀ {i j : Nat} {x y : Str}, X.N[i]? = some x → X.N[j]? = some y → x ≠ y → i ≠ j := fun a b n e => by
        rw [e, b] at a
        exact n (Option.some.inj a).symm
      exact js_par3 (h.cold (nh m0)).calm h.cok.nd (h.isN m2) (h.isN m3) (h.isN m3') (dif (h.isN m2) (h.isN m3) q5) (dif (h.isN m2) (h.isN m3') q6) (dif (h.isN m3) (h.isN m3') q7) q2 q3 q4 (mE_ok a h _ m6) (mE_ok b h _ m7) (mE_ok d h _ m8) (star_plain m4) (star_plain m5) (star_plain m5') q1 rfl
    · exact nof m
  | .augM i e, X, W, c, h, hp, st, m => by
    unfold mC at m
    split at m
    · obtain ⟨m1, m⟩ := and_t m
      obtain ⟨m2, m3⟩ := and_t m
      obtain ⟨s1, s2⟩ := h.sto m2
      exact js_augM h.cok.nd (h.isN m1) s1 s2 (mE_ok e h _ m3)
    · exact nof m
  | .six a i e, X, W, c, h, hp, st, m => by
    unfold mC at m
    split at m
    · rename_i o kx _ x _
      obtain ⟨m0, m⟩ := and_t m
      obtain ⟨m1, m⟩ := and_t m
      obtain ⟨m2, m⟩ := and_t m
      obtain ⟨m3, m4⟩ := and_t m
      exact je_six (mE_ok e h _ m2) (mE_ok a h _ m3) (mE_ok i h _ m4) (by intro _; cases kx <;> first | rfl | exact nof m0) (sw_sole m1) (by cases x <;> rfl) rfl
    · exact nof m
  | .exp e, X, W, c, h, hp, st, m => by
    unfold mC at m
    split at m
    · obtain ⟨m1, m2⟩ := and_t m
      exact js_expr (mE_ok e h _ m2) (sw_no m1)
    · exact nof m
  | .ret e, X, W, c, h, hp, st, m => by
    unfold mC at m
    split at m
    · exact js_ret (mE_ok e h _ m)
    · cases e with
      | cst k0 =>
        cases k0 with
        | non => exact js_retN
        | _ => exact nof m
      | _ => exact nof m
    · exact nof m
  | .ite t a b, X, W, c, h, hp, st, m => by
    unfold mC at m
    split at m
    · obtain ⟨m1, m⟩ := and_t m
      obtain ⟨m2, m3⟩ := and_t m
      exact js_if (mT_ok t h _ m1) (mCs_ok a h hp _ m2) (mCs_ok b h hp _ m3)
    · exact nof m
  | .forr t it body, X, W, c, h, hp, st, m => by
    unfold mC at m
    split at m
    · obtain ⟨m9, m⟩ := and_t m
      obtain ⟨m0, m⟩ := and_t m
      obtain ⟨m1, m⟩ := and_t m
      obtain ⟨m2, m3⟩ := and_t m
      exact js_for hp (h.cold (nh m9)).calm (mI_ok it h _ _ m2) (mTg_ok t h _ m1) (mCs_ok body h hp _ m3) (noset_plain m0)
    · exact nof m
  | .whl t body, X, W, c, h, hp, st, m => by
    unfold mC at m
    split at m
    · obtain ⟨m1, m2⟩ := and_t m
      exact js_whl fuel hp (mT_ok t h _ m1) (mCs_ok body h hp _ m2)
    · exact nof m
  | .brk, X, W, c, h, hp, st, m => by
    cases st with
    | Break p => exact js_brk
    | _ => exact nof m
  | .cnt, X, W, c, h, hp, st, m => by
    cases st with
    | Continue p => exact js_cnt
    | _ => exact nof m
  | .pass, X, W, c, h, hp, st, m => by
    unfold mC at m
    split at m
    · exact js_pass
    · exact js_doc
    · exact nof m
  | .never, X, W, c, h, hp, st, m => js_never
  | .rai x, X, W, c, h, hp, st, m => by
    unfold mC at m
    split at m
    · obtain ⟨m1, m⟩ := and_t m
      obtain ⟨m2, m⟩ := and_t m
      obtain ⟨m3, m⟩ := and_t m
      obtain ⟨m4, m5⟩ := and_t m
      have e := beq_t m1
      subst e
      exact js_rai (h.cold (nh m2)).calm h.tk (h.ex0 _ (by simpa using m5)) (h.isGl m3) (nmOk_at m4).1
    · exact nof m
  | .rai1 x f e, X, W, c, h, hp, st, m => by
    unfold mC at m
    split at m
    · obtain ⟨m1, m⟩ := and_t m
      obtain ⟨m2, m⟩ := and_t m
      obtain ⟨m3, m⟩ := and_t m
      obtain ⟨m4, m⟩ := and_t m
      obtain ⟨m5, m⟩ := and_t m
      obtain ⟨m6, m7⟩ := and_t m
      have e := beq_t m1
      subst e
      exact js_rai1 (h.cold (nh m2)).calm (h.room (nh m2)) h.tk (h.ex1 _ (by simpa using m5)) (h.isGl m3) (nmOk_at m4).1 (mE_ok e h _ m7) (star_plain m6)
    · exact nof m
  | .tryy body hs, X, W, c, h, hp, st, m => by
    unfold mC at m
    split at m
    · obtain ⟨m1, m⟩ := and_t m
      obtain ⟨m2, m⟩ := and_t m
      obtain ⟨m3, m4⟩ := and_t m
      have top : c.fnS = none := by
        unfold isTop at m2
        cases z : c.fnS with
        | none => rfl
        | some _ => rw [z] at m2; cases m2
      obtain ⟨s1, s2⟩ := h.stk top
      exact js_try s1 s2 h.tk (fun W' pn xe tk' hp' => mCs_ok body (h.tr pn tk') hp' _ m3) (mH_ok hs h (nh m1) _ m4)
    · exact nof m
  | .hd _ _ _ _, X, W, c, h, hp, st, m => nof m
  | .hd0, X, W, c, h, hp, st, m => nof m
theorem mH_ok : ∀ (ir : C) {X : Cx} {W : WX} {c : Cz} (h : Hy X W c fuel k) (hc : c.hot = false) (hds : List ExceptHandler), mH c ir hds = true → HdsX X hds (evH (GG c fuel k) ir)
  | .hd0, X, W, c, h, hc, hds, m => by
    cases hds with
    | nil => exact HdsX.nil
    | cons _ _ => exact nof m
  | .hd x none suite r, X, W, c, h, hc, hds, m => by
    unfold mH at m
    split at m
    · rename_i z np nm b₀ sts pos hds
      obtain ⟨m1, m⟩ := and_t m
      obtain ⟨m2, m⟩ := and_t m
      obtain ⟨m3, m⟩ := and_t m
      obtain ⟨m4, m5⟩ := and_t m
      have e : z = x := beq_t m1
      subst e
      cases nm with
      | some n => exact nof m3
      | none => exact HdsX.one (h.nmx m2) (fun a pn => mCs_ok suite (h.suite hc a pn) PassesOwn.never _ m4) (mH_ok r h hc _ m5)
    · exact nof m
  | .hd x (some i) suite r, X, W, c, h, hc, hds, m => by
    unfold mH at m
    split at m
    · rename_i z np nm b₀ sts pos hds
      obtain ⟨m1, m⟩ := and_t m
      obtain ⟨m2, m⟩ := and_t m
      obtain ⟨m3, m⟩ := and_t m
      obtain ⟨m4, m5⟩ := and_t m
      have e : z = x := beq_t m1
      subst e
      cases nm with
      | none => exact nof m3
      | some n =>
        obtain ⟨n1, n2⟩ := and_t (show (RS.isN c i n && (c.sc.names.lookup n == some .local)) = true from m3)
        exact HdsX.as_ (h.nmx m2) h.cok.nd (h.isN n1) (by show X.env.scope.names.lookup n = some .local; rw [h.sc]; simpa using n2) (fun a pn => mCs_ok suite (h.suite hc a pn) PassesOwn.never _ m4) (mH_ok r h hc _ m5)
    · exact nof m
  | .asg _ _, X, W, c, h, hc, hds, m => nof m
  | .par _ _ _ _, X, W, c, h, hc, hds, m => nof m
  | .par3 _ _ _ _ _ _, X, W, c, h, hc, hds, m => nof m
  | .augM _ _, X, W, c, h, hc, hds, m => nof m
  | .six _ _ _, X, W, c, h, hc, hds, m => nof m
  | .exp _, X, W, c, h, hc, hds, m => nof m
  | .ret _, X, W, c, h, hc, hds, m => nof m
  | .ite _ _ _, X, W, c, h, hc, hds, m => nof m
  | .forr _ _ _, X, W, c, h, hc, hds, m => nof m
  | .whl _ _, X, W, c, h, hc, hds, m => nof m
  | .brk, X, W, c, h, hc, hds, m => nof m
  | .cnt, X, W, c, h, hc, hds, m => nof m
  | .pass, X, W, c, h, hc, hds, m => nof m
  | .never, X, W, c, h, hc, hds, m => nof m
  | .rai _, X, W, c, h, hc, hds, m => nof m
  | .rai1 _ _ _, X, W, c, h, hc, hds, m => nof m
  | .tryy _ _, X, W, c, h, hc, hds, m => nof m
theorem mCs_ok : ∀ (irs : List C) {X : Cx} {W : WX} {c : Cz} (h : Hy X W c fuel k) (hp : PassesOwn (model X.prog X.w) X.A X.env X.xe) (sts : List Stmt), mCs c irs sts = true → PSs X sts (tS X W (evCs (GG c fuel k) irs))
  | [], X, W, c, h, hp, sts, m => by
    cases sts with
    | nil => exact js_nil
    | cons _ _ => exact nof m
  | x :: xs, X, W, c, h, hp, sts, m => by
    cases sts with
    | nil => exact nof m
    | cons y ys =>
      obtain ⟨m1, m2⟩ := and_t (show (mC c x y && mCs c xs ys) = true from m)
      exact js_cons (mC_ok x h hp y m1) (mCs_ok xs h hp ys m2)
end
end
end RS

set_option Elab.async false
set_option linter.all false
set_option maxRecDepth 100000
/-! defs as promises, the law's end -/
namespace RS
open PySem PySem.Spec L2
open PyProof.Rows hiding St

/-! ### a def's scope, its parameters -/
def kindB (k : ScopeKind) : Bool := match k with
  | .function => true
  | _ => false
def nodupB : List Str → Bool
  | [] => true
  | x :: xs => !xs.contains x && nodupB xs
def scB (N ps : List Str) (sc : Scope) : Bool := kindB sc.kind && (!sc.isCoroutine && (!sc.isGenerator && (nodupB N && (decide (N.take ps.length = ps) && ((ps.all fun x => match sc.names.lookup x with
  | some .local => true | some .cell => true | _ => false) && (sc.names.all fun y => match y.2 with
  | .free => false | _ => true))))))
theorem nodupB_ok : ∀ {xs : List Str}, nodupB xs = true → xs.Nodup
  | [], _ => .nil
  | x :: xs, h => by
    have h := and_t (show (!xs.contains x && nodupB xs) = true from h)
    exact List.nodup_cons.mpr ⟨by simpa using h.1, nodupB_ok h.2⟩
theorem scB_ok {N ps : List Str} {sc : Scope} (h : scB N ps sc = true) : FnScope N ps sc := by
  obtain ⟨h1, h⟩ := and_t h
  obtain ⟨h2, h⟩ := and_t h
  obtain ⟨h3, h⟩ := and_t h
  obtain ⟨h4, h⟩ := and_t h
  obtain ⟨h5, h⟩ := and_t h
  obtain ⟨h6, h7⟩ := and_t h
  refine ⟨?_, by simpa using h2, by simpa using h3, nodupB_ok h4, of_decide_eq_true h5, fun x hx => ?_, fun y hy e => ?_⟩
  · revert h1
    cases sc.kind <;> intro h1 <;> first | rfl | cases h1
  · have q := List.all_eq_true.mp h6 x hx
    cases e : sc.names.lookup x with
    | none => rw [e] at q; cases q
    | some k =>
      rw [e] at q
      cases k with
      | «local» => exact .inl rfl
      | cell => exact .inr rfl
      | _ => cases q
  · have q := List.all_eq_true.mp h7 y hy
    rw [e] at q
    cases q

/-- a def's row fits its text -/
def chk (gls : List (Str × Cst)) (fns : List Fn) (tf : List Str) (xs : Exs) (F : Fn) (st : Stmt) : Bool := scB F.N F.ps (defScope st) && mCs { N := F.N, sc := defScope st, fnS := none, gls := gls, fns := fns, lam := tf.contains F.name && F.dn == F.name, exs := xs } F.body (defBody st)
/-- its arguments bind -/
def Bd (F : Fn) (st : Stmt) : Prop := ∀ (kV doc pm : Value) (an : Option Addr) (cdv ct : Value) (us : List Value), us.length = F.ps.length → bindArgs (PySem.W.fnOf F.dn F.dn (defArgs st) (defBody st) (defScope st) .none kV doc pm an cdv ct) ⟨us, []⟩ = pure (F.ps.zip us)
structure DfOk (K : PySem.W.Frag) (mg : Str → Option Value) (gls : List (Str × Cst)) (fns : List Fn) (tf : List Str) (xs : Exs) (F : Fn) (a : Addr) (fd : FuncData) : Prop where
  mg : mg F.name = some (.ref a)
  ad : a = He.fAd K (F.name, none)
  ex : ∃ st, FunD K F.dn F.dn (defArgs st) (defBody st) (defScope st) [] [] a fd ∧ chk gls fns tf xs F st = true ∧ Bd F st
section
variable {P : Program} {w : World} {K : PySem.W.Frag} {mg : Str → Option Value} {base : Heap} {gls : List (Str × Cst)} {fns : List Fn} {tf : List Str} {xs : Exs} {fuel : Nat}
theorem DfOk.binds {F : Fn} {a : Addr} {fd : FuncData} (d : DfOk K mg gls fns tf xs F a fd) : Binds K fd F.ps [] := by
  obtain ⟨st, f, _, b⟩ := d.ex
  exact f.bindsN b
theorem DfOk.kp {F : Fn} {a : Addr} {fd : FuncData} (d : DfOk K mg gls fns tf xs F a fd) : PySem.W.keepIn K (.ref a) = true := by
  obtain ⟨st, f, _, b⟩ := d.ex
  exact f.kp
theorem reps_len {H : Hp} {A : Addr → Prop} {ha : HA} : ∀ {vs : List V} {xs : List D}, Reps K H A ha vs xs → vs.length = xs.length
  | _, _, .nil => rfl
  | _, _, .cons _ h => congrArg Nat.succ (reps_len h)
theorem reps_get {H : Hp} {A : Addr → Prop} {ha : HA} : ∀ {vs : List V} {xs : List D}, Reps K H A ha vs xs → ∀ (i : Nat) (d : D), xs[i]? = some d → ∃ v, vs[i]? = some v ∧ Rep K H A ha v d
  | _, _, .nil, i, d, e => by cases e
  | _, _, .cons (v := v) h t, 0, d, e => by cases e; exact ⟨v, rfl, h⟩
  | _, _, .cons h t, i + 1, d, e => reps_get t i d e
theorem start_rel {H : Hp} {A : Addr → Prop} {ha : HA} {vs : List V} {xs : List D} {N : List Str} (h : Reps K H A ha vs xs) : ERel K H A ha (L2.start N vs) (xs.map some ++ List.replicate (N.length - xs.length) none) := by
  have l := reps_len h
  refine ⟨by unfold L2.start; simp [l], fun i d e => ?_⟩
  by_cases q : i < xs.length
  · rw [List.getElem?_append_left (by simpa using q), List.getElem?_map] at e
    cases z : xs[i]? with
    | none => rw [z] at e; cases e
    | some d' =>
      rw [z] at e
      cases e
      obtain ⟨v, h1, h2⟩ := reps_get h i d z
      refine ⟨v, ?_, h2⟩
      unfold L2.start
      rw [List.getElem?_append_left (by simpa [l] using q), List.getElem?_map, h1]
      rfl
  · rw [List.getElem?_append_right (by simpa using Nat.le_of_not_lt q), List.getElem?_replicate] at e
    split at e <;> cases e
theorem all_ok (hsm : ∃ o, base.get? sysModules = some o) (hblt : ∀ b ∈ bltN, mg b = none) (hgl : ∀ p ∈ gls, ∃ u, mg p.1 = some u ∧ RelV p.2.v u)
    (hd : ∀ (f : Nat) (F : Fn), fns[f]? = some F → ∃ a fd, DfOk K mg gls fns tf xs F a fd)
    (hx0 : ∀ x ∈ xs.exn, ExN K mg x) (hx1 : ∀ x ∈ xs.ex0, Rai0 K mg x) (hx2 : ∀ p ∈ xs.ex1, Rai1 P w K mg base p.1 p.2)
    (htf : ∀ x ∈ tf, x ∈ lamDefs ∧ lamB K x = true) (hTB : ∀ x ∈ lamDefs, lamB K x = true → LamX.TabB base mg (He.cT K (x, none)).1 (He.cT K (x, none)).2) :
    ∀ (k f : Nat) (F : Fn) (a : Addr) (fd : FuncData), fns[f]? = some F → DfOk K mg gls fns tf xs F a fd → FnG P w K mg base (L2.CX P w) (k + 2) a fd F.ps (spF K mg (evF fns fuel k f))
  | 0, f, F, a, fd, e, d => by
    refine ⟨fun vs H Q E h => ?_, fun A outer s H args us vs Q E hr hg e0 hb r h => ?_⟩
    · obtain ⟨ha, xs, s, _, _, h⟩ := h
      exact h.elim
    · obtain ⟨ha, xs, s, _, _, h⟩ := h
      exact h.elim
  | k + 1, f, F, a, fd, e, d => by
    obtain ⟨st, fu, hc, hb⟩ := d.ex
    obtain ⟨oc, od, dV, kV, doc, pm, an, cdv, ct, osl, rfl, lk, hcd, hD, hK⟩ := fu.ex
    obtain ⟨c1, c2⟩ := and_t hc
    have S := scB_ok c1
    have ev : ∀ xs s, evF fns fuel (k + 1) f xs s = if xs.length = F.ps.length then (evCs ⟨evF fns fuel k, fuel⟩ F.body (xs.map some ++ List.replicate (F.N.length - xs.length) none) s).bind fun fl s1 => match fl with
      | .nx _ => .ok .non s1
      | .rt d => .ok d s1
      | _ => .bad
      else .bad := fun xs s => by
      show (match fns[f]? with
        | none => R.bad
        | some F => _) = _
      rw [e] <;> rfl
    rcases hD with ⟨_, rfl⟩ | ⟨z, _⟩
    · refine fnG_of lk hcd S (fun vs H Q E h => ?_) fun A outer s H vs Q E hr hg h => ?_
      · obtain ⟨ha, xs, s, _, g, h⟩ := h
        rw [ev] at h
        split at h
        · rename_i q
          rw [reps_len g]; exact q
        · exact h.elim
      · obtain ⟨ha, ys, sS, r, g, h⟩ := h
        rw [ev] at h
        split at h
        · rename_i q
          have hy : Hy (cxOf (L2.CX P w) P w K mg base F.N F.dn (defScope st) a cdv A outer s H E) (fun cls d _ H => E cls d H) { N := F.N, sc := defScope st, fnS := none, gls := gls, fns := fns, lam := tf.contains F.name && F.dn == F.name, exs := xs } fuel k :=
            { cok := ⟨S.nd, by have := hr.un; show (A.deeper _).units + 200 < cLine; omega, hg⟩
              cold := fun _ => ⟨rfl, hr.hd⟩
              sm := hsm
              N := rfl
              sc := rfl
              fnk := fun x _ => rfl
              blt := hblt
              gl := hgl
              fn := fun f F e => by
                obtain ⟨a, fd, d⟩ := hd f F e
                exact ⟨a, fd, d.mg, d.kp, d.binds, all_ok hsm hblt hgl hd hx0 hx1 hx2 htf hTB k f F a fd e d⟩
              room := fun _ => hr
              dp := hr.dp
              stk := fun _ => ⟨rfl, rfl⟩
              exn := hx0
              ex0 := hx1
              ex1 := hx2
              tk := takes_of rfl rfl rfl rfl
              lam := fun hl => by
                obtain ⟨l1, l2⟩ := and_t (show (tf.contains F.name && F.dn == F.name) = true from hl)
                have l1 : F.name ∈ tf := by simpa using l1
                have l2 : F.dn = F.name := beq_t l2
                obtain ⟨m1, m2⟩ := htf _ l1
                obtain ⟨c0, ec⟩ := He.codeIn_ref hcd
                have lk' := lk
                rw [d.ad] at lk'
                refine ⟨F.name, m1, m2, ?_, ?_, hTB _ m1 m2⟩
                · show (F.dn ++ (".<locals>." : Str)) ++ ("<lambda>" : Str) = lamQ F.name
                  rw [l2]
                  rfl
                · show cdv = .ref (He.codeOf K (F.name, none))
                  rw [He.codeOf_eq lk' ec, ec] }
          refine ⟨_, mCs_ok F.body hy (passes_of rfl) _ c2, ha, _, sS, r, start_rel g, ?_⟩
          refine RP.mono (RP.bindI h) (fun fl s1 q => ?_) fun c fs ρ s1 q σ' H' ha' cls d r' x' e' ex => q H' ha' cls d r' x' ex
          cases fl with
          | nx ρ => exact fun σ' H' ha' r' x' e' => q .non H' ha' r' x' .non
          | rt d => exact q
          | bk ρ => exact False.elim q
          | ct ρ => exact False.elim q
        · exact h.elim
    · exact absurd rfl z
end

/-! ### the law's call -/
/-- cs: the code objects of the defs that make lambdas, their tables -/
theorem law_callG {P : Program} {w : World} {K : PySem.W.Frag} {mg mb : Str → Option Value} {k : Nat} {fa a : Addr} {cs : List (Addr × Addr)} {fd : FuncData} {x : Str} {sp : Sp} {s₁ : Shared} {vs : List Value} {ns : List Int}
    (KX : K.In s₁.heap) (hns : s₁.heap.Ns mainGlobals mg) (hb : s₁.heap.Ns builtinsNs mb) (hbb : ∀ x : Str, x ≠ "__name__" → mb x = bootBuiltins x) (hlim : s₁.heap.NoLimit) (hg : s₁.gens = #[])
    (tE : ∀ p ∈ cs, s₁.heap.get? p.2 = some { cls := .none, data := .fields #[] }) (tK : ∀ p ∈ cs, K.lookup p.2 = none) (tC : ∀ p ∈ cs, PySem.W.CodeHd s₁.heap p.1 p.2)
    (hbm : ∃ (bm : Addr) (ob : Obj), mg "__builtins__" = some (.ref bm) ∧ bm ≠ builtinsNs ∧ s₁.heap.get? bm = some ob ∧ ob.cls = .type "module" ∧ ob.dict = some builtinsNs ∧ ob.data = .plain)
    (ha : s₁.heap.get? a = some { cls := .type "list", data := .seq vs.toArray }) (hi : IntsAre vs ns) (hl : ns.length ≤ sizeLine) (hr : Room k callerA)
    (F : ∀ base : Heap, K.In base → base.Ns mainGlobals mg → (∀ p ∈ cs, LamX.TabB base mg p.1 p.2) → FnG P w K mg base (L2.CX P w) k fa fd [x] sp) (hbind : ∀ (s : Shared) (u : Value), BindsTo s fd ⟨[u], []⟩ [(x, u)])
    (hsp : ∀ H : Hp, (∀ p ∈ cs, H p.2 = some (.tbl #[])) → SqL K H a (ns.map V.int) → sp [.ref a] H (fun v _ => v = .bl true) fun _ _ _ => False) :
    codeAny (model P w) callerA (.call (.ref fa) ⟨[.ref a], []⟩) (fun r s' => r = .ok (.ret (.bool true)) ∧ OldK s₁.heap s'.heap ∧ s'.os = s₁.os ∧ AllBare s'.gens) s₁ := by
  have rv := vals_ints hi
  have lenV := hi.length
  have isT : ∀ b : Addr, b ∈ cs.map (·.2) → s₁.heap.get? b = some { cls := .none, data := .fields #[] } := fun b hb => by
    obtain ⟨p, hp, e⟩ := List.mem_map.mp hb
    rw [← e]
    exact tE p hp
  have memT : ∀ p ∈ cs, p.2 ∈ cs.map (·.2) := fun p hp => List.mem_map.mpr ⟨p, hp, rfl⟩
  have aT : a ∉ cs.map (·.2) := fun z => by
    have q := isT a z
    rw [ha] at q
    have z' : Data.seq vs.toArray _ = Data.fields #[] := congrArg Obj.data (Option.some.inj q)
    cases z'
  have core : ∀ H : Hp, (∀ p ∈ cs, H p.2 = some (.tbl #[])) → (∀ b, H b = none ∨ b ∈ cs.map (·.2) ∨ ∃ o xs, H b = some (.frz o (.lst xs))) → SqL K H a (ns.map V.int) → HOk P w H s₁.heap → (∀ b, H b ≠ none → b = a ∨ b ∈ cs.map (·.2)) → (H a ≠ none → K.lookup a = none) →
      codeAny (model P w) callerA (.call (.ref fa) ⟨[.ref a], []⟩) (fun r s' => r = .ok (.ret (.bool true)) ∧ OldK s₁.heap s'.heap ∧ s'.os = s₁.os ∧ AllBare s'.gens) s₁ := by
    intro H hH hO hS hok hA hK
    have base_of : ∀ {b : Addr} {o : Obj}, s₁.heap.get? b = some o → H b = none → (hidT s₁.heap H).get? b = some o := fun e n => hidT_get e n
    -- neither the script nor a table
    have noD : ∀ {b : Addr} {o : Obj}, s₁.heap.get? b = some o → (∀ vs n, o.data ≠ .seq vs n) → o.data ≠ .fields #[] → H b = none := fun {b o} e h1 h2 => by
      cases q : H b with
      | none => rfl
      | some u =>
        rcases hA b (by rw [q]; simp) with e' | e'
        · rw [e', ha] at e
          cases e
          exact (h1 _ _ rfl).elim
        · rw [isT b e'] at e
          cases e
          exact (h2 rfl).elim
    have noA : ∀ {b : Addr} {o : Obj} {es : Array DictEntry} {ep : Nat}, s₁.heap.get? b = some o → o.data = .dict es ep → H b = none := fun {b o es ep} e d =>
      noD e (fun vs n z => by rw [d] at z; cases z) fun z => by rw [d] at z; cases z
    have nsK : ∀ {b : Addr} {m : Str → Option Value}, s₁.heap.Ns b m → (hidT s₁.heap H).Ns b m := fun {b m} ⟨o, es, ep, e, d, r⟩ => ⟨o, es, ep, base_of e (noA e d), d, r⟩
    have hKb : K.In (hidT s₁.heap H) := fun b o e => base_of (KX b o e) (by
      cases q : H b with
      | none => rfl
      | some u =>
        rcases hA b (by rw [q]; simp) with e' | e'
        · rw [e'] at e q
          rw [hK (by rw [q]; simp)] at e
          cases e
        · obtain ⟨p, hp, ep⟩ := List.mem_map.mp e'
          rw [← ep, tK p hp] at e
          cases e)
    have hM : Mod K mg (hidT s₁.heap H) := ⟨hKb, nsK hns, ⟨mb, nsK hb, hbb⟩, let ⟨mc, h1, h2⟩ := hlim; ⟨mc, nsK h1, h2⟩⟩
    have TB : ∀ p ∈ cs, LamX.TabB (hidT s₁.heap H) mg p.1 p.2 := fun p hp => by
      have hTp := tE p hp
      refine ⟨?_, ?_, fun z => ?_⟩
      · obtain ⟨o, us, file, tf, flags, tg, inF, text, tt, e1, r1, r2, r3, r⟩ := tC p hp
        refine ⟨o, us, file, tf, flags, tg, inF, text, tt, base_of e1 (noD e1 (fun vs n z => by rw [r2] at z; cases z) fun z => ?_), r1, r2, r3, r⟩
        rw [r2] at z
        cases z
        simp at r3
      · obtain ⟨bm, ob, b1, b2, b3, b4, b5, b6⟩ := hbm
        refine ⟨bm, ob, b1, b2, fun q => ?_, fun q => ?_, base_of b3 (noD b3 (fun vs n z => by rw [b6] at z; cases z) fun z => by rw [b6] at z; cases z), b4, b5, b6⟩
        · obtain ⟨o, es, ep, e, hd, _⟩ := hns
          rw [q, e] at b3
          cases b3
          rw [hd] at b6
          cases b6
        · rw [q, hTp] at b3
          cases b3
          cases b6
      · obtain ⟨o, es, ep, e, hd, _⟩ := hns
        rw [z, hTp] at e
        cases e
        cases hd
    have e0 : Env0 P w K mg (hidT s₁.heap H) callerA [] s₁ H := ⟨rfl, hM, fun b o e => of_hidT e, Nat.le_of_eq (hidT_size _ _), trivial, fun b hb => absurd (show b ∈ ([] : List Addr) from hb) (by simp), hok, .of_eq hg⟩
    refine codeAny_mono ((F _ hKb (nsK hns) TB).run callerA [] s₁ H ⟨[.ref a], []⟩ [.ref a] [.ref a] _ _ hr rfl e0 (hbind s₁ (.ref a)) (.cons rfl .nil) (hsp H hH hS)) fun r s' h => ?_
    cases r with
    | error e =>
      obtain ⟨_, _, _, _, _, _, _, _, _, _, _, _, h⟩ := h
      exact h.elim
    | ok fl =>
      cases fl with
      | next => exact False.elim h
      | brk => exact False.elim h
      | cont => exact False.elim h
      | ret u =>
        obtain ⟨v, H', os, bare, un, hok', r', q⟩ := h
        have q' : v = .bl true := q
        subst q'
        obtain rfl : u = Value.bool true := r'
        have key : ∀ b o, b ∉ cs.map (·.2) → s₁.heap.get? b = some o → s'.heap.get? b = some o := fun b o nb e => by
          cases q : H b with
          | none => exact un.keep b o e q (by intro z; exact absurd (show b ∈ ([] : List Addr) from z) (by simp)) (by simp)
          | some u =>
            rcases hO b with z | z | ⟨ob, xs, z⟩
            · rw [q] at z; cases z
            · exact absurd z nb
            · have z2 := un.frzs b ob _ z
              obtain ⟨e1, _⟩ := hok b _ z
              obtain ⟨e2, _⟩ := hok' b _ z2
              rw [e] at e1; cases e1
              exact e2
        have grown : ∀ p ∈ cs, ∃ more : Array Value, s'.heap.get? p.2 = some { cls := .none, data := .fields more } := fun p hp => by
          obtain ⟨more, z⟩ := un.tbls p.2 #[] (hH p hp)
          exact ⟨_, hok' p.2 _ z⟩
        refine ⟨rfl, ⟨fun b o e => ?_, fun b o e => ?_⟩, os, bare⟩
        · by_cases hb : b ∈ cs.map (·.2)
          · obtain ⟨p, hp, ep⟩ := List.mem_map.mp hb
            obtain ⟨more, hm⟩ := grown p hp
            rw [← ep] at e ⊢
            rw [tE p hp] at e
            cases e
            exact .inr (.inl ⟨((tC p hp).tab (tE p hp)).isCodeTable, rfl, #[], more, rfl, by rw [Array.empty_append]; exact hm⟩)
          · exact .inl (key b o hb e)
        · by_cases hb : b ∈ cs.map (·.2)
          · obtain ⟨p, hp, ep⟩ := List.mem_map.mp hb
            obtain ⟨more, hm⟩ := grown p hp
            rw [← ep]
            exact ⟨_, hm⟩
          · exact ⟨o, key b o hb e⟩
  cases hk : K.lookup a with
  | some o =>
    have e := KX a o hk
    rw [ha] at e
    cases e
    refine core (fun b => if b ∈ cs.map (·.2) then some (.tbl #[]) else none) (fun p hp => if_pos (memT p hp)) (fun b => ?_) (.inr ⟨_, vs.toArray, _, hk, rfl, rfl, rfl, by rw [List.size_toArray, lenV]; exact hl, by simpa using rv⟩) (fun b u z => ?_) (fun b z => ?_) fun z => absurd (show (if a ∈ cs.map (·.2) then some (HO.tbl #[]) else none) = none from if_neg aT) z
    · by_cases hb : b ∈ cs.map (·.2)
      · exact .inr (.inl hb)
      · exact .inl (if_neg hb)
    · by_cases hb : b ∈ cs.map (·.2)
      · have z' := (if_pos hb).symm.trans z
        cases z'
        exact isT b hb
      · have z' := (if_neg hb).symm.trans z
        cases z'
    · by_cases hb : b ∈ cs.map (·.2)
      · exact .inr hb
      · exact absurd (if_neg hb) z
  | none =>
    refine core (fun b => if b = a then some (.frz { cls := .type "list", data := .seq vs.toArray } (.lst (ns.map V.int))) else if b ∈ cs.map (·.2) then some (.tbl #[]) else none) (fun p hp => (if_neg (show ¬ p.2 = a from fun z => aT (by rw [← z]; exact memT p hp))).trans (if_pos (memT p hp))) (fun b => ?_)
      (.inl (.inr ⟨{ cls := .type "list", data := .seq vs.toArray }, if_pos rfl⟩)) (fun b u z => ?_) (fun b z => ?_) fun _ => hk
    · by_cases hb : b = a
      · exact .inr (.inr ⟨_, _, if_pos hb⟩)
      · by_cases hb2 : b ∈ cs.map (·.2)
        · exact .inr (.inl hb2)
        · exact .inl ((if_neg hb).trans (if_neg hb2))
    · by_cases hb : b = a
      · have z' := (if_pos hb).symm.trans z
        cases z'
        rw [hb]
        exact ⟨ha, by rw [List.length_map]; exact hl, vs, _, rv, ha⟩
      · have z1 := (if_neg hb).symm.trans z
        by_cases hb2 : b ∈ cs.map (·.2)
        · have z' := (if_pos hb2).symm.trans z1
          cases z'
          exact isT b hb2
        · have z' := (if_neg hb2).symm.trans z1
          cases z'
    · by_cases hb : b = a
      · exact .inl hb
      · by_cases hb2 : b ∈ cs.map (·.2)
        · exact .inr hb2
        · exact absurd ((if_neg hb).trans (if_neg hb2)) z

/-! ### the head's facts -/
/-- what a class of errors must say -/
def xcB (K : PySem.W.Frag) (D : Addr) : Bool := He.eqO (PySem.W.findIn K (.ref D) "__getattribute__") (some (some (.builtin "BaseException.__getattribute__"))) && (He.eqO (PySem.W.findIn K (.ref D) "__getattr__") (some none) && (decide (PySem.W.subIn K (.ref D) (.type "BaseException") = some true) && (PySem.W.hasDictIn K D &&
  (He.eqO (PySem.W.findIn K (.ref D) "__class__") (some (some (.builtin "object.__class__"))) && (He.eqO (PySem.W.specialIn K (.builtin "object.__class__") "__get__") (some (some (.builtin "getset_descriptor.__get__"))) && (decide (PySem.W.takesIn K (.builtin "object.__class__") = some true) && decide (PySem.W.mroIn K D (.type "object") = some true)))))))
theorem xcB_ok {K : PySem.W.Frag} {D : Addr} (h : xcB K D = true) : ExcC K D := by
  obtain ⟨h1, h⟩ := and_t h
  obtain ⟨h2, h⟩ := and_t h
  obtain ⟨h3, h⟩ := and_t h
  obtain ⟨h4, h⟩ := and_t h
  obtain ⟨h5, h⟩ := and_t h
  obtain ⟨h6, h⟩ := and_t h
  obtain ⟨h7, h8⟩ := and_t h
  exact ⟨He.eqO_ok h1, He.eqO_ok h2, of_decide_eq_true h3, h4, He.eqO_ok h5, He.eqO_ok h6, of_decide_eq_true h7, of_decide_eq_true h8⟩
def clsB (K : PySem.W.Frag) (c : Str) : Bool := xcB K (He.ga K c) && excNms.all fun y => !excKn K y || (decide (PySem.W.kitOne K (.ref (He.ga K c)) (excV K y) = some (excSub c y)) && decide (PySem.W.exmOne K (.ref (He.ga K c)) (excV K y) = some (excSub c y)))
theorem clsB_ok {K : PySem.W.Frag} {c : Str} (h : clsB K c = true) : ClsF K c := by
  obtain ⟨h1, h2⟩ := and_t h
  have key : ∀ y ∈ excNms, excKn K y = true → PySem.W.kitOne K (.ref (He.ga K c)) (excV K y) = some (excSub c y) ∧ PySem.W.exmOne K (.ref (He.ga K c)) (excV K y) = some (excSub c y) := fun y m k => by
    have z := List.all_eq_true.mp h2 y m
    rw [k] at z
    obtain ⟨a, b⟩ := and_t (show (decide (PySem.W.kitOne K (.ref (He.ga K c)) (excV K y) = some (excSub c y)) && decide (PySem.W.exmOne K (.ref (He.ga K c)) (excV K y) = some (excSub c y))) = true from z)
    exact ⟨of_decide_eq_true a, of_decide_eq_true b⟩
  exact ⟨xcB_ok h1, fun y m k => (key y m k).1, fun y m k => (key y m k).2⟩
def gloB (K : PySem.W.Frag) (x : Str) : Bool := He.eqO (PySem.W.nsIn K mainGlobals x) (some (some (.ref (He.ga K x))))
def exnB (K : PySem.W.Frag) (x : Str) : Bool := excNms.contains x && (excKn K x && (if excBlt x then He.eqO (PySem.W.nsIn K mainGlobals x) (some none) else gloB K x))
theorem exnB_ok {K : PySem.W.Frag} {x : Str} {h : Heap} {mg : Str → Option Value} (X : K.In h) (G : h.Ns mainGlobals mg) (e : exnB K x = true) : ExN K mg x := by
  obtain ⟨e1, e⟩ := and_t e
  obtain ⟨e2, e3⟩ := and_t e
  refine ⟨by simpa using e1, e2, ?_⟩
  by_cases b : excBlt x = true
  · rw [if_pos b] at e3 ⊢
    exact PySem.W.mg_none_of X G (He.eqO_ok e3)
  · rw [if_neg b] at e3 ⊢
    exact PySem.W.mg_of X G (He.eqO_ok e3)
def ex0B (K : PySem.W.Frag) (x : Str) : Bool := gloB K x && (PySem.W.excIn K (He.ga K x) He.veBase "ValueError.__new__" && (PySem.W.keepIn K (.ref (He.ga K x)) && (decide (PySem.W.subIn K (.ref (He.ga K x)) (.type "BaseException") = some true) && (decide (PySem.W.typeIn K (.ref (He.ga K x)) = some (.type "type")) && clsB K x))))
theorem ex0B_ok {K : PySem.W.Frag} {x : Str} {h : Heap} {mg : Str → Option Value} (X : K.In h) (G : h.Ns mainGlobals mg) (e : ex0B K x = true) : Rai0 K mg x := by
  obtain ⟨e1, e⟩ := and_t e
  obtain ⟨e2, e⟩ := and_t e
  obtain ⟨e3, e⟩ := and_t e
  obtain ⟨e4, e⟩ := and_t e
  obtain ⟨e5, e6⟩ := and_t e
  exact ⟨PySem.W.mg_of X G (He.eqO_ok e1), e2, e3, of_decide_eq_true e4, of_decide_eq_true e5, clsB_ok e6⟩
def oexB (K : PySem.W.Frag) (C : Addr) : Bool := (match K.lookup C with
  | some ⟨.type "type", _, .cls cd, sl⟩ => (match cd.mro, sl.toList with
    | .ref C' :: bm, [_, _, _, _, some (.builtin n), _] => C' == C && (n == "ValueError.__new__" && (!cd.hasDel && (cd.hasDict && PySem.HandSPX.refsVE bm)))
    | _, _ => false)
  | _ => false) && (He.eqO (PySem.W.findIn K (.ref C) "__setattr__") (some (some (.builtin "object.__setattr__"))) && (decide (PySem.W.subIn K (.ref C) (.type "BaseException") = some true) && (decide (PySem.W.typeIn K (.ref C) = some (.type "type")) && PySem.W.keepIn K (.ref C))))
theorem oexB_ok {K : PySem.W.Frag} {C : Addr} (h : oexB K C = true) : OexC K C := by
  obtain ⟨q, h⟩ := and_t h
  obtain ⟨h1, h⟩ := and_t h
  obtain ⟨h2, h⟩ := and_t h
  obtain ⟨h3, h4⟩ := and_t h
  refine ⟨?_, He.eqO_ok h1, of_decide_eq_true h2, of_decide_eq_true h3, h4⟩
  split at q
  · rename_i dd cd sl ho
    split at q
    · rename_i C' bm k0 k1 k2 k3 n k5 hm hs
      obtain ⟨q1, q⟩ := and_t q
      obtain ⟨q2, q⟩ := and_t q
      obtain ⟨q3, q⟩ := and_t q
      obtain ⟨q4, q5⟩ := and_t q
      obtain ⟨nm, bs, mro, ns, qn, hd, sn, sub, ab, col, del⟩ := cd
      have q1 : C' = C := by simpa using q1
      have q2 : n = "ValueError.__new__" := by simpa using q2
      dsimp only at hm q3 q4
      have q3 : del = false := by simpa using q3
      subst q1 q2 hm q3 q4
      have hsl : sl = #[k0, k1, k2, k3, some (.builtin "ValueError.__new__"), k5] := by
        obtain ⟨l⟩ := sl
        simp only at hs
        rw [hs]
      subst hsl
      exact ⟨nm, qn, ns, bs, bm, sn, sub, ab, col, dd, k0, k1, k2, k3, k5, ho, q5⟩
    · cases q
  · cases q
def ex1B (K : PySem.W.Frag) (p : Str × Str) : Bool := gloB K p.1 && (oexB K (He.ga K p.1) && (He.eqO (PySem.W.findIn K (.ref (He.ga K p.1)) "__init__") (some (some (.ref (He.ma K (He.ga K p.1) "__init__")))) && (decide (PySem.W.typeIn K (.ref (He.ma K (He.ga K p.1) "__init__")) = some (.type "function")) && (He.eqO (PySem.W.findIn K (.ref (He.ga K p.1)) p.2) (some none) && clsB K p.1))))
def exB (xs : Exs) (K : PySem.W.Frag) : Bool := xs.exn.all (exnB K) && (xs.ex0.all (ex0B K) && xs.ex1.all (ex1B K))
/-! the __init__ of such a class -/
def psI (st : Stmt) : List Str := (defArgs st).args.map (·.arg)
def iniM (f : Str) (st : Stmt) : Bool := match defBody st with
  | [.Assign [.Attribute (.Name a _) g _] (.Name v _) _] => scB [a, v] [a, v] (defScope st) && (decide (psI st = [a, v]) && (g == f && (isVis (defScope st) a && (isVis (defScope st) v && (nmOk a && nmOk v)))))
  | _ => false
def qI (x : Str) : Str := x ++ (".__init__" : Str)
def BdI (x : Str) (st : Stmt) : Prop := ∀ (kV doc pm : Value) (an : Option Addr) (cdv ct : Value) (us : List Value), us.length = (psI st).length → bindArgs (PySem.W.fnOf "__init__" (qI x) (defArgs st) (defBody st) (defScope st) .none kV doc pm an cdv ct) ⟨us, []⟩ = pure ((psI st).zip us)
theorem isVis_ok {sc : Scope} {x : Str} (e : isVis sc x = true) : Vis sc x := by
  unfold isVis at e
  show sc.names.lookup x = some .local ∨ sc.names.lookup x = some .cell ∨ sc.names.lookup x = some .free
  cases q : sc.names.lookup x with
  | none => rw [q] at e; cases e
  | some y =>
    rw [q] at e
    cases y with
    | «local» => exact .inl rfl
    | cell => exact .inr (.inl rfl)
    | free => exact .inr (.inr rfl)
    | _ => cases e
theorem ini_ok {P : Program} {w : World} {K : PySem.W.Frag} {mg : Str → Option Value} {base : Heap} {x f : Str} {st : Stmt} {fa C : Addr} {fd : FuncData} (F : FunD K "__init__" (qI x) (defArgs st) (defBody st) (defScope st) [] [] fa fd) (O : OexC K C) (nf : PySem.W.findIn K (.ref C) f = some none) (m : iniM f st = true) (b : BdI x st) :
    FnOk P w K mg base (L2.CX P w) 1 fa fd (psI st) (spI C f) ∧ Binds K fd (psI st) [] := by
  refine ⟨?_, F.bindsN b⟩
  unfold iniM at m
  split at m
  · rename_i a p1 g p2 v p3 pos eb
    obtain ⟨m1, m⟩ := and_t m
    obtain ⟨m2, m⟩ := and_t m
    obtain ⟨m3, m⟩ := and_t m
    obtain ⟨m4, m⟩ := and_t m
    obtain ⟨m5, m⟩ := and_t m
    obtain ⟨m6, m7⟩ := and_t m
    have e1 : psI st = [a, v] := of_decide_eq_true m2
    have e2 : g = f := beq_t m3
    subst e2
    rw [eb] at F
    rw [e1]
    refine F.ok (scB_ok m1) (fun vs H Q E h => ?_) fun cdv A outer s H vs Q E hr h => ?_
    · obtain ⟨a', y, rfl, _⟩ := h
      rfl
    · obtain ⟨a', y, rfl, ha, q⟩ := h
      have hst := ps_ost (X := cxOf (L2.CX P w) P w K mg base [a, v] (qI x) (defScope st) fa cdv A outer s H E) (f := g) (p' := p2) (pos := pos) (pe_var (i := 0) (x := a) (pos := p1) rfl (isVis_ok m4) (nmOk_at m6).1 (nmOk_at m6).2) (pe_var (i := 1) (x := v) (pos := p3) rfl (isVis_ok m5) (nmOk_at m7).1 (nmOk_at m7).2)
      refine ⟨_, pss_cons hst pss_nil, ?_⟩
      exact ⟨y, rfl, .ref a', rfl, a', C, rfl, O, nf, .inl ⟨ha, fun dx n ne => q dx n ne⟩⟩
  · cases m
theorem ex1B_ok {P : Program} {w : World} {K : PySem.W.Frag} {mg : Str → Option Value} {base : Heap} {p : Str × Str} {h : Heap} {st : Stmt} {fd : FuncData} (X : K.In h) (G : h.Ns mainGlobals mg) (e : ex1B K p = true)
    (F : FunD K "__init__" (qI p.1) (defArgs st) (defBody st) (defScope st) [] [] (He.ma K (He.ga K p.1) "__init__") fd) (m : iniM p.2 st = true) (b : BdI p.1 st) : Rai1 P w K mg base p.1 p.2 := by
  obtain ⟨e1, e⟩ := and_t e
  obtain ⟨e2, e⟩ := and_t e
  obtain ⟨e3, e⟩ := and_t e
  obtain ⟨e4, e⟩ := and_t e
  obtain ⟨e5, e6⟩ := and_t e
  exact ⟨PySem.W.mg_of X G (He.eqO_ok e1), oexB_ok e2, He.eqO_ok e3, of_decide_eq_true e4, ⟨fd, psI st, ini_ok F (oexB_ok e2) (He.eqO_ok e5) m b⟩, He.eqO_ok e5, clsB_ok e6⟩
abbrev AlR : Type := He.AlD × Bool
def fragR (n : Nat) (g : Addr → Option Obj) : PySem.W.Frag := He.frT g (sysModules :: He.asD g n)
/-- the tables of the defs that make lambdas are empty -/
def lamObs (g : Addr → Option Obj) (tf : List Str) (K : PySem.W.Frag) : Bool := (lamDefs.all fun x => !lamB K x || (match g (He.cT K (x, none)).2 with
  | some o => He.emptyTab o
  | none => false)) && tf.all fun x => lamDefs.contains x && lamB K x
theorem lamObs_at {g : Addr → Option Obj} {tf : List Str} {K : PySem.W.Frag} (h : lamObs g tf K = true) : (∀ x ∈ lamDefs, lamB K x = true → g (He.cT K (x, none)).2 = some { cls := .none, data := .fields #[] }) ∧ ∀ x ∈ tf, x ∈ lamDefs ∧ lamB K x = true := by
  obtain ⟨h1, h2⟩ := and_t h
  refine ⟨fun x hx hb => ?_, fun x hx => ?_⟩
  · have := List.all_eq_true.mp h1 x hx
    rw [hb] at this
    cases e : g (He.cT K (x, none)).2 with
    | none => rw [e] at this; cases this
    | some o =>
      rw [e] at this
      rw [He.emptyTab_eq (show He.emptyTab o = true from this)]
  · obtain ⟨a, b⟩ := and_t (List.all_eq_true.mp h2 x hx)
    exact ⟨by simpa using a, b⟩
def obsR (n : Nat) (fa : List He.Fa) (fn : List He.DefD) (tf : List Str) (xs : Exs) (g : Addr → Option Obj) : AlR := (He.obsD fa fn (fragR n g), ((fragR n g).lookup sysModules).isSome && (lamObs g tf (fragR n g) && exB xs (fragR n g)))
def hookR (n : Nat) (fa : List He.Fa) (fn : List He.DefD) (tf : List Str) (xs : Exs) : PySem.W.Hook where
  α := AlR
  obs := fun s => obsR n fa fn tf xs s.heap.get?
  val := fun _ => (He.valD fn, true)
  says := fun _ h => ∃ K : PySem.W.Frag, K.In h ∧ He.SaysD fa fn K ∧ (K.lookup sysModules).isSome = true ∧ (∀ x ∈ lamDefs, lamB K x = true → h.get? (He.cT K (x, none)).2 = some { cls := .none, data := .fields #[] }) ∧ (∀ x ∈ tf, x ∈ lamDefs ∧ lamB K x = true) ∧ exB xs K = true
  of := fun _ s e => by
    have e2 : (((fragR n s.heap.get?).lookup sysModules).isSome && (lamObs s.heap.get? tf (fragR n s.heap.get?) && exB xs (fragR n s.heap.get?))) = true := congrArg (fun z : AlR => z.2) e
    obtain ⟨a, b⟩ := and_t e2
    obtain ⟨b, b2⟩ := and_t b
    exact ⟨_, He.frT_in, congrArg (fun z : AlR => z.1) e, a, (lamObs_at b).1, (lamObs_at b).2, b2⟩
  keeps := fun _ _ _ ⟨K, hK, c, a, b, d⟩ k => ⟨K, PySem.W.Frag.In.keeps hK k, c, a, fun x hx hb => k _ _ (b x hx hb), d⟩
theorem obsR_eq {n : Nat} {fa : List He.Fa} {fn : List He.DefD} {tf : List Str} {xs : Exs} {g : Addr → Option Obj} {s : Shared} (h : ∀ a, g a = s.heap.get? a) : obsR n fa fn tf xs g = (hookR n fa fn tf xs).obs s := by
  have e : g = s.heap.get? := funext h
  rw [e] <;> rfl

/-- the facts, the defs -/
def faC : Str × Cst → He.Fa
  | (x, .int i) => .int x i
  | (x, .str z) => .str x z
  | (x, _) => .glo x
def fasOf (gls : List (Str × Cst)) (fns : List Fn) : List He.Fa := gls.map faC ++ (bltN.map He.Fa.free ++ fns.map fun F => He.Fa.glo F.name)
def dfOf (F : Fn) (st : Stmt) : He.DefD := ⟨(F.name, none), F.dn, F.dn, defArgs st, defBody st, defScope st, [], []⟩
def glOk : List (Str × Cst) → Bool
  | [] => true
  | (_, .int _) :: r => glOk r
  | (_, .str _) :: r => glOk r
  | _ :: _ => false
/-- the rows of the __init__ methods -/
def dfI (p : Str × Str) (st : Stmt) : He.DefD := ⟨(p.1, some "__init__"), "__init__", qI p.1, defArgs st, defBody st, defScope st, [], []⟩
def chkI : List (Str × Str) → List Stmt → Bool
  | [], [] => true
  | p :: ps, st :: sts => iniM p.2 st && chkI ps sts
  | _, _ => false
def BdsI : List (Str × Str) → List Stmt → Prop
  | [], [] => True
  | p :: ps, st :: sts => BdI p.1 st ∧ BdsI ps sts
  | _, _ => False
theorem chkI_at : ∀ {ps : List (Str × Str)} {sts : List Stmt}, chkI ps sts = true → BdsI ps sts → ∀ p ∈ ps, ∃ st, dfI p st ∈ List.zipWith dfI ps sts ∧ iniM p.2 st = true ∧ BdI p.1 st
  | [], [], _, _, p, m => by cases m
  | [], _ :: _, h, _, _, _ => nof h
  | _ :: _, [], h, _, _, _ => nof h
  | q :: ps, st :: sts, h, b, p, m => by
    obtain ⟨h1, h2⟩ := and_t (show (iniM q.2 st && chkI ps sts) = true from h)
    rcases List.mem_cons.mp m with e | m
    · subst e
      exact ⟨st, List.mem_cons_self, h1, b.1⟩
    · obtain ⟨st', a1, a2, a3⟩ := chkI_at h2 b.2 p m
      exact ⟨st', List.mem_cons_of_mem _ a1, a2, a3⟩
/-- what a law's data must say -/
def chks (gls : List (Str × Cst)) (fns : List Fn) (tf : List Str) (xs : Exs) : List Fn → List Stmt → Bool
  | [], [] => true
  | F :: Fs, st :: sts => chk gls fns tf xs F st && chks gls fns tf xs Fs sts
  | _, _ => false
def Bds : List Fn → List Stmt → Prop
  | [], [] => True
  | F :: Fs, st :: sts => Bd F st ∧ Bds Fs sts
  | _, _ => False
theorem chks_at {gls : List (Str × Cst)} {fns : List Fn} {tf : List Str} {xs : Exs} : ∀ {Fs : List Fn} {sts : List Stmt}, chks gls fns tf xs Fs sts = true → Bds Fs sts → ∀ (f : Nat) (F : Fn), Fs[f]? = some F → ∃ st, (List.zipWith dfOf Fs sts)[f]? = some (dfOf F st) ∧ chk gls fns tf xs F st = true ∧ Bd F st
  | [], [], _, _, f, F, e => by cases e
  | [], _ :: _, h, _, _, _, _ => nof h
  | _ :: _, [], h, _, _, _, _ => nof h
  | G :: Fs, st :: sts, h, b, 0, F, e => by
    cases e
    exact ⟨st, rfl, (and_t h).1, b.1⟩
  | G :: Fs, st :: sts, h, b, f + 1, F, e => chks_at (and_t h).2 b.2 f F e
section
variable {K : PySem.W.Frag} {h : Heap} {mg : Str → Option Value} {gls : List (Str × Cst)} {fns : List Fn} {tf : List Str} {xs : Exs} {sts ist : List Stmt}
theorem fa_at {fa : List He.Fa} {fn : List He.DefD} (c : He.SaysD fa fn K) {f : He.Fa} (m : f ∈ fa) : f.ok K = true := by
  obtain ⟨i, hi⟩ := List.mem_iff_getElem?.mp m
  exact c.fact i hi
theorem gl_at : ∀ {gls : List (Str × Cst)}, glOk gls = true → (∀ f ∈ gls.map faC, f.ok K = true) → K.In h → h.Ns mainGlobals mg → ∀ p ∈ gls, ∃ u, mg p.1 = some u ∧ RelV p.2.v u
  | [], _, _, _, _, p, m => by cases m
  | (x, .int i) :: r, g, c, X, G, p, m => by
    rcases List.mem_cons.mp m with e | m
    · subst e
      obtain ⟨t, e⟩ := He.int_ok X G (c (.int x i) (List.mem_cons_self ..))
      exact ⟨_, e, t, rfl⟩
    · exact gl_at (gls := r) g (fun f q => c f (List.mem_cons_of_mem _ q)) X G p m
  | (x, .str i) :: r, g, c, X, G, p, m => by
    rcases List.mem_cons.mp m with e | m
    · subst e
      obtain ⟨t, e⟩ := He.str_ok X G (c (.str x i) (List.mem_cons_self ..))
      exact ⟨_, e, t, rfl⟩
    · exact gl_at (gls := r) g (fun f q => c f (List.mem_cons_of_mem _ q)) X G p m
  | (x, .bl i) :: r, g, _, _, _, _, _ => nof g
  | (x, .non) :: r, g, _, _, _, _, _ => nof g
theorem says_all (X : K.In h) (G : h.Ns mainGlobals mg) (c : He.SaysD (fasOf gls fns) (List.zipWith dfOf fns sts ++ List.zipWith dfI xs.ex1 ist) K) (g : glOk gls = true) (ck : chks gls fns tf xs fns sts = true) (b : Bds fns sts) :
    (∀ b ∈ bltN, mg b = none) ∧ (∀ p ∈ gls, ∃ u, mg p.1 = some u ∧ RelV p.2.v u) ∧ ∀ (f : Nat) (F : Fn), fns[f]? = some F → ∃ a fd, DfOk K mg gls fns tf xs F a fd := by
  refine ⟨fun b m => ?_, ?_, fun f F e => ?_⟩
  · exact He.free_ok X G (fa_at c (List.mem_append_right _ (List.mem_append_left _ (List.mem_map.mpr ⟨b, m, rfl⟩))))
  · exact gl_at g (fun f m => fa_at c (List.mem_append_left _ m)) X G
  · obtain ⟨st, e1, e2, e3⟩ := chks_at ck b f F e
    obtain ⟨fd, fu⟩ := c.def_ f (by rw [List.getElem?_append_left (List.getElem?_eq_some_iff.mp e1).1]; exact e1)
    have gm := He.glo_ok X G (fa_at c (List.mem_append_right _ (List.mem_append_right _ (List.mem_map.mpr ⟨F, List.mem_of_getElem? e, rfl⟩))))
    exact ⟨_, fd, gm, rfl, st, fu, e2, e3⟩
end
theorem exs_all {K : PySem.W.Frag} {h : Heap} {mg : Str → Option Value} {gls : List (Str × Cst)} {fns : List Fn} {xs : Exs} {sts ist : List Stmt} {P : Program} {w : World} {base : Heap} (X : K.In h) (G : h.Ns mainGlobals mg) (c : He.SaysD (fasOf gls fns) (List.zipWith dfOf fns sts ++ List.zipWith dfI xs.ex1 ist) K)
    (e : exB xs K = true) (ci : chkI xs.ex1 ist = true) (bi : BdsI xs.ex1 ist) : (∀ x ∈ xs.exn, ExN K mg x) ∧ (∀ x ∈ xs.ex0, Rai0 K mg x) ∧ ∀ p ∈ xs.ex1, Rai1 P w K mg base p.1 p.2 := by
  obtain ⟨e1, e⟩ := and_t e
  obtain ⟨e2, e3⟩ := and_t e
  refine ⟨fun x m => exnB_ok X G (List.all_eq_true.mp e1 x m), fun x m => ex0B_ok X G (List.all_eq_true.mp e2 x m), fun p m => ?_⟩
  obtain ⟨st, a1, a2, a3⟩ := chkI_at ci bi p m
  obtain ⟨j, hj⟩ := List.mem_iff_getElem?.mp (List.mem_append_right (List.zipWith dfOf fns sts) a1)
  obtain ⟨fd, fu⟩ := c.def_ j hj
  exact ex1B_ok X G (List.all_eq_true.mp e3 p m) fu a2 a3
/-- the law's end -/
theorem walkR {l : PySem.W.OpenLaw} {n k fuel iL : Nat} {q : Program} {loose : List Str} {XP : (Str → Option Value) → Heap → Prop} {d : DefRec} {x : Str} {gls : List (Str × Cst)} {fns : List Fn} {tf : List Str} {xs : Exs} {sts ist : List Stmt} {N : List Str} {body : List C} {m : Nat}
    (hn : l.most = some n) (hn2 : n ≤ CAP) (hdf : d.params.defaults = []) (hr : Room (k + 2) callerA) (g : glOk gls = true) (ck : chks gls fns tf xs fns sts = true) (b : Bds fns sts) (ci : chkI xs.ex1 ist = true) (bi : BdsI xs.ex1 ist) (hL : fns[iL]? = some ⟨d.name, d.name, [x], N, body⟩)
    (main : ∀ ns : List Int, ns.length ≤ n → ∃ s, evF fns fuel k iL [.scr ns] [] = .ok (.bl true) s) :
    PySem.W.WalkO q loose XP (hookR m (fasOf gls fns) (List.zipWith dfOf fns sts ++ List.zipWith dfI xs.ex1 ist) tf xs).says l.row.toRowW d [] (fun f vs => PySem.call f vs) := by
  refine Att.attach_call hn hdf fun w s₀ s₁ mg mb fa o pm cd doc a vs ns G Y ho hd hcd hmg hobj hints hlen hg => ?_
  obtain ⟨K, KX, c, sm, tE, tf', eb⟩ := Y
  obtain ⟨h1, h2, h3⟩ := says_all KX G.T.g c g ck b
  obtain ⟨a', fd, df⟩ := h3 iL _ hL
  have e : a' = fa := by
    have := df.mg.symm.trans hmg
    injection this with this
    injection this
  subst e
  have hbA : ∀ (s : Shared) (u : Value), BindsTo s fd ⟨[u], []⟩ [(x, u)] := fun s u => by
    obtain ⟨st, fu, _, bd⟩ := df.ex
    exact fu.bindsA (ps := [x]) bd s [u] rfl
  have hl : ns.length ≤ CAP := Nat.le_trans hlen hn2
  have of_cs : ∀ p ∈ (lamDefs.filter (lamB K)).map fun x => He.cT K (x, none), ∃ x ∈ lamDefs, lamB K x = true ∧ p = He.cT K (x, none) := fun p hp => by
    obtain ⟨x, hx, rfl⟩ := List.mem_map.mp hp
    obtain ⟨x1, x2⟩ := List.mem_filter.mp hx
    exact ⟨x, x1, x2, rfl⟩
  have to_cs : ∀ x ∈ lamDefs, lamB K x = true → He.cT K (x, none) ∈ (lamDefs.filter (lamB K)).map fun x => He.cT K (x, none) := fun x hx hb => List.mem_map.mpr ⟨x, List.mem_filter.mpr ⟨hx, hb⟩, rfl⟩
  have lamA_of : ∀ {x : Str}, lamB K x = true → PySem.W.codeHdIn K (He.cT K (x, none)).1 (He.cT K (x, none)).2 = true ∧ K.lookup (He.cT K (x, none)).2 = none := fun {x} hb => by
    obtain ⟨q1, _⟩ := and_t hb
    obtain ⟨q1, q2⟩ := and_t (show (PySem.W.codeHdIn K (He.cT K (x, none)).1 (He.cT K (x, none)).2 && (K.lookup (He.cT K (x, none)).2).isNone) = true from q1)
    exact ⟨q1, by simpa using q2⟩
  refine law_callG (cs := (lamDefs.filter (lamB K)).map fun x => He.cT K (x, none)) (sp := spF K mg (evF fns fuel k iL)) KX G.T.g G.T.b G.T.builtins G.T.nolimit hg (fun p hp => ?_) (fun p hp => ?_) (fun p hp => ?_) G.T.bmain hobj hints (Nat.le_trans hl (by decide)) hr (fun base kb nb tb => ?_) hbA fun H hH hS => ?_
  · obtain ⟨x, x1, x2, rfl⟩ := of_cs p hp
    exact tE x x1 x2
  · obtain ⟨x, x1, x2, rfl⟩ := of_cs p hp
    exact (lamA_of x2).2
  · obtain ⟨x, x1, x2, rfl⟩ := of_cs p hp
    exact PySem.W.codeHd_of_K KX (lamA_of x2).1
  · obtain ⟨x0, x1, x2⟩ := exs_all (P := l.prog) (w := w) (base := base) KX G.T.g c eb ci bi
    refine all_ok ?_ h1 h2 h3 x0 x1 x2 tf' (fun x hx hb => tb _ (to_cs x hx hb)) k iL _ a' fd hL df
    cases z : K.lookup sysModules with
    | none => rw [z] at sm; cases sm
    | some o => exact ⟨o, kb _ _ z⟩
  · obtain ⟨s', e⟩ := main ns hlen
    refine ⟨⟨[], fun _ => False⟩, [.scr ns], [], ⟨rfl, .nil, fun i o e => (by cases e), fun i o e => (by cases e), fun p z => z.elim, fun p z => z.elim, fun p hp => ?_⟩, .cons (.scr ?_ hl) .nil, ?_⟩
    · obtain ⟨x, hx, rfl⟩ := List.mem_map.mp hp
      obtain ⟨x1, x2⟩ := List.mem_filter.mp hx
      exact LamX.TabS.nil (hH _ (to_cs x x1 x2))
    · rcases hS with hS | hS
      · exact .inl ⟨hS, fun z => z.elim id fun ⟨i, o, z, _⟩ => by cases z⟩
      · exact .inr hS
    · rw [e]
      exact fun v H' ha' _ _ r => by cases r; rfl
end RS

set_option linter.all false
set_option maxRecDepth 100000
/-! plain rules about the evaluator -/
namespace RS
open PySem L2 PyProof.Rows

def Ok {α : Type} (x : R α) (Φ : α → S → Prop) : Prop := ∃ a s, x = .ok a s ∧ Φ a s
section
variable {α β : Type} {G : Gam} {ρ : Env} {s : S} {Φ : α → S → Prop}
theorem Ok.ok {a : α} (h : Φ a s) : Ok (.ok a s) Φ := ⟨a, s, rfl, h⟩
theorem Ok.bind {x : R β} {f : β → S → R α} (h : Ok x fun a s => Ok (f a s) Φ) : Ok (x.bind f) Φ := by
  obtain ⟨a, s, rfl, h⟩ := h
  exact h
theorem Ok.mono {x : R α} {Ψ : α → S → Prop} (h : Ok x Φ) (i : ∀ a s, Φ a s → Ψ a s) : Ok x Ψ := by
  obtain ⟨a, s, rfl, h⟩ := h
  exact ⟨a, s, rfl, i a s h⟩
theorem Ok.eq {x : R α} {a : α} {s' : S} (h : Ok x fun b t => b = a ∧ t = s') : x = .ok a s' := by
  obtain ⟨_, _, e, rfl, rfl⟩ := h
  exact e
theorem Ok.of {o : Option α} {a : α} (e : o = some a) (h : Φ a s) : Ok (R.of s o) Φ := by
  subst e
  exact ⟨a, s, rfl, h⟩
end

/-! ### what a row is wished to do -/
structure OE (G : Gam) (e : E) (ρ : Env) (s : S) (Φ : D → S → Prop) : Prop where
  ok : Ok (evE G e ρ s) Φ
theorem OE.mono {G : Gam} {e : E} {ρ : Env} {s : S} {Φ Ψ : D → S → Prop} (h : OE G e ρ s Φ) (i : ∀ a s, Φ a s → Ψ a s) : Ok (evE G e ρ s) Ψ := h.ok.mono i
structure OEs (G : Gam) (e : List E) (ρ : Env) (s : S) (Φ : List D → S → Prop) : Prop where
  ok : Ok (evEs G e ρ s) Φ
theorem OEs.mono {G : Gam} {e : List E} {ρ : Env} {s : S} {Φ Ψ : List D → S → Prop} (h : OEs G e ρ s Φ) (i : ∀ a s, Φ a s → Ψ a s) : Ok (evEs G e ρ s) Ψ := h.ok.mono i
structure OT (G : Gam) (e : T) (ρ : Env) (s : S) (Φ : Bool → S → Prop) : Prop where
  ok : Ok (evT G e ρ s) Φ
theorem OT.mono {G : Gam} {e : T} {ρ : Env} {s : S} {Φ Ψ : Bool → S → Prop} (h : OT G e ρ s Φ) (i : ∀ a s, Φ a s → Ψ a s) : Ok (evT G e ρ s) Ψ := h.ok.mono i
structure OOT (G : Gam) (e : Option T) (ρ : Env) (s : S) (Φ : Bool → S → Prop) : Prop where
  ok : Ok (evOT G e ρ s) Φ
theorem OOT.mono {G : Gam} {e : Option T} {ρ : Env} {s : S} {Φ Ψ : Bool → S → Prop} (h : OOT G e ρ s Φ) (i : ∀ a s, Φ a s → Ψ a s) : Ok (evOT G e ρ s) Ψ := h.ok.mono i
structure OO (G : Gam) (e : Option E) (ρ : Env) (s : S) (Φ : Option Int → S → Prop) : Prop where
  ok : Ok (evO G e ρ s) Φ
theorem OO.mono {G : Gam} {e : Option E} {ρ : Env} {s : S} {Φ Ψ : Option Int → S → Prop} (h : OO G e ρ s Φ) (i : ∀ a s, Φ a s → Ψ a s) : Ok (evO G e ρ s) Ψ := h.ok.mono i
structure OI (G : Gam) (e : It) (ρ : Env) (s : S) (Φ : List D → S → Prop) : Prop where
  ok : Ok (evI G e ρ s) Φ
theorem OI.mono {G : Gam} {e : It} {ρ : Env} {s : S} {Φ Ψ : List D → S → Prop} (h : OI G e ρ s Φ) (i : ∀ a s, Φ a s → Ψ a s) : Ok (evI G e ρ s) Ψ := h.ok.mono i
structure OC (G : Gam) (e : C) (ρ : Env) (s : S) (Φ : Fl → S → Prop) : Prop where
  ok : Ok (evC G e ρ s) Φ
theorem OC.mono {G : Gam} {e : C} {ρ : Env} {s : S} {Φ Ψ : Fl → S → Prop} (h : OC G e ρ s Φ) (i : ∀ a s, Φ a s → Ψ a s) : Ok (evC G e ρ s) Ψ := h.ok.mono i
structure OCs (G : Gam) (e : List C) (ρ : Env) (s : S) (Φ : Fl → S → Prop) : Prop where
  ok : Ok (evCs G e ρ s) Φ
theorem OCs.mono {G : Gam} {e : List C} {ρ : Env} {s : S} {Φ Ψ : Fl → S → Prop} (h : OCs G e ρ s Φ) (i : ∀ a s, Φ a s → Ψ a s) : Ok (evCs G e ρ s) Ψ := h.ok.mono i
structure OSq (cs : Env → S → R Fl) (fl : Fl) (s : S) (Φ : Fl → S → Prop) : Prop where
  ok : Ok (sqC cs fl s) Φ
structure OFn (x : R D) (Φ : D → S → Prop) : Prop where
  ok : Ok x Φ
structure OBd (tg : Tg) (cs : Env → S → R Fl) (x : D) (ρ : Env) (s : S) (Φ : Fl → S → Prop) : Prop where
  ok : Ok (bodyC tg cs x ρ s) Φ
structure OFor (f : D → Env → S → R Fl) (xs : List D) (ρ : Env) (s : S) (Φ : Fl → S → Prop) : Prop where
  ok : Ok (forL f xs ρ s) Φ
structure OWh (t : Env → S → R Bool) (f : Env → S → R Fl) (n : Nat) (ρ : Env) (s : S) (Φ : Fl → S → Prop) : Prop where
  ok : Ok (whlL t f n ρ s) Φ
structure OCl (F : D → S → R (Option D)) (xs : List D) (s : S) (Φ : List D → S → Prop) : Prop where
  ok : Ok (compL F xs s) Φ
structure OCf (tg : Tg) (mt : Env → S → R Bool) (me : Env → S → R D) (ρ : Env) (x : D) (s : S) (Φ : Option D → S → Prop) : Prop where
  ok : Ok (compF tg mt me ρ x s) Φ
structure OSeq (x : D) (s : S) (Φ : List D → S → Prop) : Prop where
  ok : Ok (seqF x s) Φ
structure OZip (x y : D) (s : S) (Φ : List D → S → Prop) : Prop where
  ok : Ok (zipF x y s) Φ
structure OSix (x k z : D) (s : S) (Φ : S → Prop) : Prop where
  ok : Ok (sixD x k z s) fun _ s => Φ s
structure OApp (x y : D) (s : S) (Φ : D → S → Prop) : Prop where
  ok : Ok (appD x y s) Φ
structure BdP (s : S) (t : Tg) (x : D) (ρ : Env) (P : Env → Prop) : Prop where
  ok : ∃ ρ', bindT s t x ρ = some ρ' ∧ P ρ'
theorem bd {s : S} {t : Tg} {x : D} {ρ ρ' : Env} {P : Env → Prop} (e : bindT s t x ρ = some ρ') (h : P ρ') : BdP s t x ρ P := ⟨ρ', e, h⟩
structure IsI (x : D) (P : Int → Prop) : Prop where
  ok : ∃ i, x = .int i ∧ P i
theorem isI {i : Int} {P : Int → Prop} (h : P i) : IsI (.int i) P := ⟨i, rfl, h⟩
structure IsB (x : D) (P : Bool → Prop) : Prop where
  ok : ∃ i, x = .bl i ∧ P i
theorem isB {i : Bool} {P : Bool → Prop} (h : P i) : IsB (.bl i) P := ⟨i, rfl, h⟩
structure IsL (x : D) (P : List D → Prop) : Prop where
  ok : ∃ i, x = .lst i ∧ P i
theorem isL {i : List D} {P : List D → Prop} (h : P i) : IsL (.lst i) P := ⟨i, rfl, h⟩
structure IsT (x : D) (P : List D → Prop) : Prop where
  ok : ∃ i, x = .tup i ∧ P i
theorem isT {i : List D} {P : List D → Prop} (h : P i) : IsT (.tup i) P := ⟨i, rfl, h⟩
structure Spl (c : Bool) (P Q : Prop) : Prop where
  t : c = true → P
  f : c = false → Q
theorem splT {P Q : Prop} (h : P) : Spl true P Q := ⟨fun _ => h, fun z => (nomatch z)⟩
theorem splF {P Q : Prop} (h : Q) : Spl false P Q := ⟨fun z => (nomatch z), fun _ => h⟩
structure CapJ (j : Int) (P : Prop) : Prop where
  l : j ≤ CAP ∧ -CAP ≤ j
  q : P
structure Got {α : Type} (x : Option α) (P : α → Prop) : Prop where
  ok : ∃ d, x = some d ∧ P d
theorem got {α : Type} {x : Option α} {d : α} {P : α → Prop} (e : x = some d) (h : P d) : Got x P := ⟨d, e, h⟩
structure BinP (o : BO) (s : S) (x y : D) (P : D → Prop) : Prop where
  ex : ∃ d, binD o s x y = some d ∧ P d
structure CmpP (o : CmpOp) (s : S) (x y : D) (P : Bool → Prop) : Prop where
  ex : ∃ d, cmpD o s x y = some d ∧ P d
structure IdxP (s : S) (x y : D) (P : D → Prop) : Prop where
  ex : ∃ d, idxD s x y = some d ∧ P d
structure SlcP (s : S) (x : D) (lo hi : Option Int) (P : D → Prop) : Prop where
  ex : ∃ d, slcD s x lo hi = some d ∧ P d
structure F1P (f : F1) (s : S) (x : D) (P : D → Prop) : Prop where
  ex : ∃ d, f1D f s x = some d ∧ P d
structure CutP (n : Nat) (d : D) (s : S) (P : D → S → Prop) : Prop where
  ex : ∃ d' s', cutD1 n d s = .ok d' s' ∧ P d' s'
structure TruP (s : S) (x : D) (P : Bool → Prop) : Prop where
  ex : ∃ b, tru s x = some b ∧ P b
structure MLP (x : D) (s : S) (P : Prop) : Prop where
  e : isML x s = true
  h : P
section
variable {G : Gam} {ρ : Env} {s : S} {Φ : D → S → Prop}
theorem o_var {i : Nat} {d : D} (e : getV ρ i = some d) (h : Φ d s) : OE G (.var i) ρ s Φ := ⟨Ok.of e h⟩
theorem o_int {i : Int} (h : Φ (.int i) s) : OE G (.cst (.int i)) ρ s Φ := ⟨_, _, rfl, h⟩
theorem o_bl {i : Bool} (h : Φ (.bl i) s) : OE G (.cst (.bl i)) ρ s Φ := ⟨_, _, rfl, h⟩
theorem o_str {i : Str} (h : Φ (.str i) s) : OE G (.cst (.str i)) ρ s Φ := ⟨_, _, rfl, h⟩
theorem o_non (h : Φ .non s) : OE G (.cst .non) ρ s Φ := ⟨_, _, rfl, h⟩
theorem o_gli {x : Str} {i : Int} (h : Φ (.int i) s) : OE G (.glb x (.int i)) ρ s Φ := ⟨_, _, rfl, h⟩
theorem o_gls {x i : Str} (h : Φ (.str i) s) : OE G (.glb x (.str i)) ρ s Φ := ⟨_, _, rfl, h⟩
theorem o_bin {o : BO} {a b : E} (h : OE G a ρ s fun x s1 => OE G b ρ s1 fun y s2 => BinP o s2 x y fun d => Φ d s2) : OE G (.bin o a b) ρ s Φ :=
  ⟨Ok.bind (h.mono fun x s1 h => Ok.bind (h.mono fun y s2 ⟨d, e, h⟩ => Ok.of e h))⟩
theorem o_neg {a : E} (h : OE G a ρ s fun x s1 => IsI x fun i => Φ (.int (-i)) s1) : OE G (.neg a) ρ s Φ :=
  ⟨Ok.bind (h.mono fun x s1 ⟨i, e, h⟩ => by subst e; exact ⟨_, _, rfl, h⟩)⟩
theorem o_cmp {o : CmpOp} {a b : E} (h : OE G a ρ s fun x s1 => OE G b ρ s1 fun y s2 => CmpP o s2 x y fun d => Φ (.bl d) s2) : OE G (.cmp o a b) ρ s Φ :=
  ⟨Ok.bind (h.mono fun x s1 h => Ok.bind (h.mono fun y s2 ⟨d, e, h⟩ => Ok.of (a := .bl d) (by rw [e]; rfl) h))⟩
theorem o_chn {o p : CmpOp} {a b c : E} (h : OE G a ρ s fun x s1 => OE G b ρ s1 fun y s2 => CmpP o s2 x y fun d => Spl d (OE G c ρ s2 fun z s3 => CmpP p s3 y z fun d => Φ (.bl d) s3) (Φ (.bl false) s2)) : OE G (.chn o p a b c) ρ s Φ :=
  ⟨Ok.bind (h.mono fun x s1 h => Ok.bind (h.mono fun y s2 ⟨d, e, h1, h2⟩ => by
    try dsimp only
    rw [e]
    cases d with
    | true => exact Ok.bind ((h1 rfl).mono fun z s3 ⟨d, e, h⟩ => Ok.of (a := .bl d) (by rw [e]; rfl) h)
    | false => exact ⟨_, _, rfl, h2 rfl⟩))⟩
theorem o_nt {a : E} (h : OE G a ρ s fun x s1 => IsB x fun b => Φ (.bl (!b)) s1) : OE G (.nt a) ρ s Φ :=
  ⟨Ok.bind (h.mono fun x s1 ⟨i, e, h⟩ => by subst e; exact ⟨_, _, rfl, h⟩)⟩
theorem o_an {a r : E} (h : OE G a ρ s fun x s1 => IsB x fun b => Spl b (OE G r ρ s1 Φ) (Φ (.bl false) s1)) : OE G (.an a r) ρ s Φ :=
  ⟨Ok.bind (h.mono fun x s1 ⟨b, e, h1, h2⟩ => by
    subst e
    cases b with
    | true => exact (h1 rfl).ok
    | false => exact ⟨_, _, rfl, h2 rfl⟩)⟩
theorem o_an1 {a : E} (h : OE G a ρ s Φ) : OE G (.an1 a) ρ s Φ := ⟨h.ok⟩
theorem o_orr {a r : E} (h : OE G a ρ s fun x s1 => IsB x fun b => Spl b (Φ (.bl true) s1) (OE G r ρ s1 Φ)) : OE G (.orr a r) ρ s Φ :=
  ⟨Ok.bind (h.mono fun x s1 ⟨b, e, h1, h2⟩ => by
    subst e
    cases b with
    | false => exact (h2 rfl).ok
    | true => exact ⟨_, _, rfl, h1 rfl⟩)⟩
theorem o_or1 {a : E} (h : OE G a ρ s Φ) : OE G (.or1 a) ρ s Φ := ⟨h.ok⟩
theorem o_ife {t : T} {a b : E} (h : OT G t ρ s fun c s1 => Spl c (OE G a ρ s1 Φ) (OE G b ρ s1 Φ)) : OE G (.ife t a b) ρ s Φ :=
  ⟨Ok.bind (h.mono fun c s1 ⟨h1, h2⟩ => by
    cases c with
    | true => exact (h1 rfl).ok
    | false => exact (h2 rfl).ok)⟩
theorem o_tup {es : List E} (h : OEs G es ρ s fun xs s1 => Φ (.tup xs) s1) : OE G (.tup es) ρ s Φ := ⟨Ok.bind (h.mono fun xs s1 h => ⟨_, _, rfl, h⟩)⟩
theorem o_lst {es : List E} (h : OEs G es ρ s fun xs s1 => Φ (.lst xs) s1) : OE G (.lst es) ρ s Φ := ⟨Ok.bind (h.mono fun xs s1 h => ⟨_, _, rfl, h⟩)⟩
theorem o_dic0 (h : Φ (.dic []) s) : OE G .dic0 ρ s Φ := ⟨_, _, rfl, h⟩
theorem o_dic1 {k : Str} {v : E} (h : OE G v ρ s fun x s1 => Φ (.dic [(.inr k, x)]) s1) : OE G (.dic1 k v) ρ s Φ := ⟨Ok.bind (h.mono fun xs s1 h => ⟨_, _, rfl, h⟩)⟩
theorem o_idx {a b : E} (h : OE G a ρ s fun x s1 => OE G b ρ s1 fun y s2 => IdxP s2 x y fun d => Φ d s2) : OE G (.idx a b) ρ s Φ :=
  ⟨Ok.bind (h.mono fun x s1 h => Ok.bind (h.mono fun y s2 ⟨d, e, h⟩ => Ok.of e h))⟩
theorem o_slc {a : E} {lo hi : Option E} (h : OE G a ρ s fun x s1 => OO G lo ρ s1 fun l s2 => OO G hi ρ s2 fun r s3 => SlcP s3 x l r fun d => Φ d s3) : OE G (.slc a lo hi) ρ s Φ :=
  ⟨Ok.bind (h.mono fun x s1 h => Ok.bind (h.mono fun y s2 h => Ok.bind (h.mono fun z s3 ⟨d, e, h⟩ => Ok.of e h)))⟩
theorem o_f1 {f : F1} {a : E} (h : OE G a ρ s fun x s1 => F1P f s1 x fun d => Φ d s1) : OE G (.f1 f a) ρ s Φ :=
  ⟨Ok.bind (h.mono fun x s1 ⟨d, e, h⟩ => Ok.of e h)⟩
theorem o_f2 {f : F2} {a b : E} (h : OE G a ρ s fun x s1 => OE G b ρ s1 fun y s2 => Got (f2D f x y) fun d => Φ d s2) : OE G (.f2 f a b) ρ s Φ :=
  ⟨Ok.bind (h.mono fun x s1 h => Ok.bind (h.mono fun y s2 ⟨d, e, h⟩ => Ok.of e h))⟩
theorem o_isi {t : Ty} {a : E} (h : OE G a ρ s fun x s1 => Got (isiD s1 t x) fun d => Φ (.bl d) s1) : OE G (.isi t a) ρ s Φ :=
  ⟨Ok.bind (h.mono fun x s1 ⟨d, e, h⟩ => Ok.of (a := .bl d) (by rw [e]; rfl) h)⟩
theorem o_rg1 {t : Bool} {a : E} (h : OE G a ρ s fun x s1 => Got (rg1D t x) fun d => Φ d s1) : OE G (.rg1 t a) ρ s Φ :=
  ⟨Ok.bind (h.mono fun x s1 ⟨d, e, h⟩ => Ok.of e h)⟩
theorem o_rg2 {t : Bool} {a b : E} (h : OE G a ρ s fun x s1 => OE G b ρ s1 fun y s2 => Got (rg2D t x y) fun d => Φ d s2) : OE G (.rg2 t a b) ρ s Φ :=
  ⟨Ok.bind (h.mono fun x s1 h => Ok.bind (h.mono fun y s2 ⟨d, e, h⟩ => Ok.of e h))⟩
theorem o_sst {a : E} (h : OE G a ρ s fun x s1 => Got (sstD x) fun d => Φ d s1) : OE G (.sst a) ρ s Φ :=
  ⟨Ok.bind (h.mono fun x s1 ⟨d, e, h⟩ => Ok.of e h)⟩
theorem o_lns {a : E} (h : OE G a ρ s fun x s1 => Got (lnsD x) fun d => Φ d s1) : OE G (.lns a) ρ s Φ :=
  ⟨Ok.bind (h.mono fun x s1 ⟨d, e, h⟩ => Ok.of e h)⟩
theorem o_srr {a : E} (h : OE G a ρ s fun x s1 => Got (srtD true s1 x) fun d => Φ d s1) : OE G (.srr a) ρ s Φ :=
  ⟨Ok.bind (h.mono fun x s1 ⟨d, e, h⟩ => Ok.of e h)⟩
theorem o_dsub {kvs : List (Str × Str)} {a : E} (h : OE G a ρ s fun x s1 => Got (dsD kvs x) fun d => Φ d s1) : OE G (.dsub kvs a) ρ s Φ :=
  ⟨Ok.bind (h.mono fun x s1 ⟨d, e, h⟩ => Ok.of e h)⟩
theorem o_srkR {a : E} (h : OE G a ρ s fun x s1 => Got (srkRD s1 x) fun d => Φ d s1) : OE G (.srkR a) ρ s Φ :=
  ⟨Ok.bind (h.mono fun x s1 ⟨d, e, h⟩ => Ok.of e h)⟩
theorem o_srkP {a : E} {r : Nat} (h : OE G a ρ s fun x s1 => Got ((getV ρ r).bind fun y => srkPD s1 x y) fun d => Φ d s1) : OE G (.srkP a r) ρ s Φ :=
  ⟨Ok.bind (h.mono fun x s1 ⟨d, e, h⟩ => Ok.of e h)⟩
theorem o_rv0 {a : E} (h : OE G a ρ s fun x s1 => IsL x fun xs => Φ (.lst (xs.drop 1).reverse) s1) : OE G (.rv0 a) ρ s Φ :=
  ⟨Ok.bind (h.mono fun x s1 ⟨i, e, h⟩ => by subst e; exact ⟨_, _, rfl, h⟩)⟩
theorem o_mmx {b : Bool} {es : List E} (h : OEs G es ρ s fun xs s1 => Got (mmxD b xs) fun d => Φ d s1) : OE G (.mmx b es) ρ s Φ :=
  ⟨Ok.bind (h.mono fun x s1 ⟨d, e, h⟩ => Ok.of e h)⟩
theorem o_ixo {a b : E} (h : OE G a ρ s fun x s1 => (lstOf s1 x).isSome = true ∧ OE G b ρ s1 fun y s2 => Got (ixoD s2 x y) fun d => Φ d s2) : OE G (.ixo a b) ρ s Φ :=
  ⟨Ok.bind (h.mono fun x s1 ⟨z, h⟩ => by
    show Ok (if (lstOf s1 x).isSome = true then _ else _) _
    rw [if_pos z]
    exact Ok.bind (h.mono fun y s2 ⟨d, e, h⟩ => Ok.of e h))⟩
theorem o_app {a b : E} (h : OE G a ρ s fun x s1 => MLP x s1 (OE G b ρ s1 fun y s2 => OApp x y s2 Φ)) : OE G (.app a b) ρ s Φ :=
  ⟨Ok.bind (h.mono fun x s1 ⟨e, h⟩ => by (try dsimp only); rw [if_pos e]; exact Ok.bind (h.mono fun _ _ h => h.ok))⟩
theorem o_mk {e : E} (h : OE G e ρ s fun d s1 => IsL d fun xs => Φ (.hnd s1.length) (s1 ++ [.ml xs])) : OE G (.mk e) ρ s Φ := by
  obtain ⟨d, s1, e1, ⟨xs, e2, h⟩⟩ := h.ok
  subst e2
  refine ⟨_, _, ?_, h⟩
  show ((evE G e ρ s).bind unL).bind mkL = _
  rw [e1]
  rfl
theorem o_comp {elt : E} {tg : Tg} {src : It} {cond : Option T} {own : List (Str × Nat)} (h : OI G src ρ s fun xs s1 => OCl (compF tg (evOT G cond) (evE G elt) (wipeE ρ own)) xs s1 fun ys s2 => Φ (.lst ys) s2) : OE G (.comp elt tg src cond own) ρ s Φ :=
  ⟨Ok.bind (Ok.bind (h.mono fun xs s1 h => h.ok.mono fun ys s2 h => ⟨_, _, rfl, h⟩))⟩
theorem o_call {fns : List Fn} {fuel k f : Nat} {args : List E} (h : OEs ⟨evF fns fuel k, fuel⟩ args ρ s fun xs s1 => OFn (evF fns fuel k f xs s1) fun d s2 => CutP s1.length d s2 Φ) : OE ⟨evF fns fuel k, fuel⟩ (.call f args) ρ s Φ := by
  refine ⟨Ok.bind (h.mono fun xs s1 h => ?_)⟩
  obtain ⟨d, s2, e, ⟨d', s', e2, h⟩⟩ := h.ok
  show Ok (cutS s1.length ((evF fns fuel k f xs s1).at ρ)) Φ
  rw [e]
  exact ⟨d', s', e2, h⟩
theorem o_calln {fns : List Fn} {fuel k f : Nat} {args : List E} (h : OEs ⟨evF fns fuel k, fuel⟩ args ρ s fun xs s1 => OFn (evF fns fuel k f xs s1) Φ) : OE ⟨evF fns fuel k, fuel⟩ (.calln f args) ρ s Φ := by
  refine ⟨Ok.bind (h.mono fun xs s1 h => ?_)⟩
  obtain ⟨d, s2, e, h⟩ := h.ok
  show Ok ((evF fns fuel k f xs s1).at ρ) Φ
  rw [e]
  exact ⟨d, s2, rfl, h⟩
end
section
variable {G : Gam} {ρ : Env} {s : S} {Φ : List D → S → Prop}
theorem o_es0 (h : Φ [] s) : OEs G [] ρ s Φ := ⟨_, _, rfl, h⟩
theorem o_es {e : E} {es : List E} (h : OE G e ρ s fun x s1 => OEs G es ρ s1 fun xs s2 => Φ (x :: xs) s2) : OEs G (e :: es) ρ s Φ :=
  ⟨Ok.bind (h.mono fun x s1 h => Ok.bind (h.mono fun xs s2 h => ⟨_, _, rfl, h⟩))⟩
theorem o_iex {e : E} (h : OE G e ρ s fun x s1 => OSeq x s1 Φ) : OI G (.ex e) ρ s Φ := ⟨Ok.bind (h.mono fun _ _ h => h.ok)⟩
theorem o_ir1 {e : E} (h : OE G e ρ s fun x s1 => IsI x fun j => CapJ j (Φ (rangeD 0 j) s1)) : OI G (.r1 e) ρ s Φ :=
  ⟨Ok.bind (h.mono fun x s1 ⟨j, e, hj, h⟩ => by subst e; exact Ok.of (if_pos hj) h)⟩
theorem o_ir2 {e f : E} (h : OE G e ρ s fun x s1 => OE G f ρ s1 fun y s2 => IsI x fun i => CapJ i (IsI y fun j => CapJ j (Φ (rangeD i j) s2))) : OI G (.r2 e f) ρ s Φ :=
  ⟨Ok.bind (h.mono fun x s1 h => Ok.bind (h.mono fun y s2 ⟨i, e1, hi, ⟨j, e2, hj, q⟩⟩ => by subst e1 e2; exact Ok.of (if_pos ⟨hj, hi⟩) q))⟩
theorem o_ien {e : E} (h : OE G e ρ s fun x s1 => OSeq x s1 fun xs s2 => Φ (xs.mapIdx fun i d => .tup [.int (i : Nat), d]) s2) : OI G (.en e) ρ s Φ :=
  ⟨Ok.bind (Ok.bind (h.mono fun x s1 h => h.ok.mono fun xs s2 h => ⟨_, _, rfl, h⟩))⟩
theorem o_ien1 {e : E} (h : OE G e ρ s fun x s1 => IsL x fun xs => Φ (xs.mapIdx fun i d => .tup [.int ((i : Int) + 1), d]) s1) : OI G (.en1 e) ρ s Φ :=
  ⟨Ok.bind (Ok.bind (h.mono fun x s1 ⟨i, e, h⟩ => by subst e; exact ⟨_, _, rfl, _, _, rfl, h⟩))⟩
theorem o_izp {e f : E} (h : OE G e ρ s fun x s1 => OE G f ρ s1 fun y s2 => OZip x y s2 Φ) : OI G (.zp e f) ρ s Φ :=
  ⟨Ok.bind (h.mono fun x s1 h => Ok.bind (h.mono fun _ _ h => h.ok))⟩
theorem o_sqT {xs : List D} (h : Φ xs s) : OSeq (.tup xs) s Φ := ⟨_, _, rfl, h⟩
theorem o_sqL {xs : List D} (h : Φ xs s) : OSeq (.lst xs) s Φ := ⟨_, _, rfl, h⟩
theorem o_zpT {xs ys : List D} (h : Φ (List.zipWith (fun d e => .tup [d, e]) xs ys) s) : OZip (.tup xs) (.tup ys) s Φ := ⟨_, _, rfl, h⟩
theorem o_zpL {xs ys : List D} (h : Φ (List.zipWith (fun d e => .tup [d, e]) xs ys) s) : OZip (.lst xs) (.lst ys) s Φ := ⟨_, _, rfl, h⟩
end
section
variable {G : Gam} {ρ : Env} {s : S} {Φ : Option Int → S → Prop}
theorem o_o0 (h : Φ none s) : OO G none ρ s Φ := ⟨_, _, rfl, h⟩
theorem o_o1 {e : E} (h : OE G e ρ s fun x s1 => IsI x fun i => Φ (some i) s1) : OO G (some e) ρ s Φ :=
  ⟨Ok.bind (h.mono fun x s1 ⟨i, e, h⟩ => by subst e; exact ⟨_, _, rfl, h⟩)⟩
end
section
variable {G : Gam} {ρ : Env} {s : S} {Φ : Bool → S → Prop}
theorem o_tv {e : E} (h : OE G e ρ s fun x s1 => TruP s1 x fun b => Φ b s1) : OT G (.v e) ρ s Φ := ⟨Ok.bind (h.mono fun x s1 ⟨b, e, h⟩ => Ok.of e h)⟩
theorem o_tnt {t : T} (h : OT G t ρ s fun b s1 => Φ (!b) s1) : OT G (.nt t) ρ s Φ := ⟨Ok.bind (h.mono fun x s1 h => ⟨_, _, rfl, h⟩)⟩
theorem o_tan {t u : T} (h : OT G t ρ s fun b s1 => Spl b (OT G u ρ s1 Φ) (Φ false s1)) : OT G (.an t u) ρ s Φ :=
  ⟨Ok.bind (h.mono fun b s1 ⟨h1, h2⟩ => by
    cases b with
    | true => exact (h1 rfl).ok
    | false => exact ⟨_, _, rfl, h2 rfl⟩)⟩
theorem o_tan1 {t : T} (h : OT G t ρ s Φ) : OT G (.an1 t) ρ s Φ := ⟨h.ok⟩
theorem o_tor {t u : T} (h : OT G t ρ s fun b s1 => Spl b (Φ true s1) (OT G u ρ s1 Φ)) : OT G (.orr t u) ρ s Φ :=
  ⟨Ok.bind (h.mono fun b s1 ⟨h1, h2⟩ => by
    cases b with
    | false => exact (h2 rfl).ok
    | true => exact ⟨_, _, rfl, h1 rfl⟩)⟩
theorem o_tor1 {t : T} (h : OT G t ρ s Φ) : OT G (.or1 t) ρ s Φ := ⟨h.ok⟩
theorem o_ot0 (h : Φ true s) : OOT G none ρ s Φ := ⟨_, _, rfl, h⟩
theorem o_ot1 {t : T} (h : OT G t ρ s Φ) : OOT G (some t) ρ s Φ := ⟨h.ok⟩
end
section
variable {G : Gam} {ρ : Env} {s : S} {Φ : Fl → S → Prop}
theorem o_nil (h : Φ (.nx ρ) s) : OCs G [] ρ s Φ := ⟨_, _, rfl, h⟩
theorem o_cons {c : C} {cs : List C} (h : OC G c ρ s fun fl s1 => OSq (evCs G cs) fl s1 Φ) : OCs G (c :: cs) ρ s Φ := ⟨Ok.bind (h.mono fun _ _ h => h.ok)⟩
theorem s_nx {cs : List C} (h : OCs G cs ρ s Φ) : OSq (evCs G cs) (.nx ρ) s Φ := ⟨h.ok⟩
theorem s_rt {F : Env → S → R Fl} {d : D} (h : Φ (.rt d) s) : OSq F (.rt d) s Φ := ⟨_, _, rfl, h⟩
theorem s_bk {F : Env → S → R Fl} (h : Φ (.bk ρ) s) : OSq F (.bk ρ) s Φ := ⟨_, _, rfl, h⟩
theorem s_ct {F : Env → S → R Fl} (h : Φ (.ct ρ) s) : OSq F (.ct ρ) s Φ := ⟨_, _, rfl, h⟩
theorem o_asg {t : Tg} {e : E} (h : OE G e ρ s fun x s1 => BdP s1 t x ρ fun ρ' => Φ (.nx ρ') s1) : OC G (.asg t e) ρ s Φ :=
  ⟨Ok.bind (h.mono fun x s1 ⟨ρ', e, h⟩ => by (try dsimp only); rw [e]; exact ⟨_, _, rfl, h⟩)⟩
theorem o_par {i j : Nat} {a b : E} (l : i < ρ.length ∧ j < ρ.length) (h : OE G a ρ s fun x s1 => OE G b ρ s1 fun y s2 => Φ (.nx ((ρ.set i (some x)).set j (some y))) s2) : OC G (.par i j a b) ρ s Φ :=
  ⟨Ok.bind (h.mono fun x s1 h => Ok.bind (h.mono fun y s2 h => by (try dsimp only); rw [if_pos l]; exact ⟨_, _, rfl, h⟩))⟩
theorem o_par3 {i j l : Nat} {a b c : E} (q : i < ρ.length ∧ j < ρ.length ∧ l < ρ.length) (h : OE G a ρ s fun x s1 => OE G b ρ s1 fun y s2 => OE G c ρ s2 fun z s3 => Φ (.nx (((ρ.set i (some x)).set j (some y)).set l (some z))) s3) : OC G (.par3 i j l a b c) ρ s Φ :=
  ⟨Ok.bind (h.mono fun x s1 h => Ok.bind (h.mono fun y s2 h => Ok.bind (h.mono fun z s3 h => by (try dsimp only); rw [if_pos q]; exact ⟨_, _, rfl, h⟩)))⟩
theorem o_augM {i : Nat} {e : E} {x : D} (e1 : getV ρ i = some x) (q : i < ρ.length) (h : OE G e ρ s fun y s1 => Got (augD x y) fun d => Φ (.nx (ρ.set i (some d))) s1) : OC G (.augM i e) ρ s Φ := by
  refine ⟨?_⟩
  show Ok ((R.of s (getV ρ i)).bind _) Φ
  rw [e1]
  exact Ok.bind (show Ok (R.ok x s) _ from ⟨_, _, rfl, Ok.bind (h.mono fun y s1 ⟨d, e2, h⟩ => by (try dsimp only); rw [e2]; (try dsimp only); rw [if_pos q]; exact ⟨_, _, rfl, h⟩)⟩)
theorem o_six {a i e : E} (h : OE G e ρ s fun z s1 => OE G a ρ s1 fun x s2 => OE G i ρ s2 fun y s3 => OSix x y z s3 fun s4 => Φ (.nx ρ) s4) : OC G (.six a i e) ρ s Φ :=
  ⟨Ok.bind (h.mono fun z s1 h => Ok.bind (h.mono fun x s2 h => Ok.bind (h.mono fun y s3 h => Ok.bind (h.ok.mono fun _ s4 h => ⟨_, _, rfl, h⟩))))⟩
theorem o_exp {e : E} (h : OE G e ρ s fun _ s1 => Φ (.nx ρ) s1) : OC G (.exp e) ρ s Φ := ⟨Ok.bind (h.mono fun _ s1 h => ⟨_, _, rfl, h⟩)⟩
theorem o_ret {e : E} (h : OE G e ρ s fun x s1 => Φ (.rt x) s1) : OC G (.ret e) ρ s Φ := ⟨Ok.bind (h.mono fun _ s1 h => ⟨_, _, rfl, h⟩)⟩
theorem o_ite {t : T} {a b : List C} (h : OT G t ρ s fun c s1 => Spl c (OCs G a ρ s1 Φ) (OCs G b ρ s1 Φ)) : OC G (.ite t a b) ρ s Φ :=
  ⟨Ok.bind (h.mono fun c s1 ⟨h1, h2⟩ => by
    cases c with
    | true => exact (h1 rfl).ok
    | false => exact (h2 rfl).ok)⟩
theorem o_for {tg : Tg} {it : It} {body : List C} (h : OI G it ρ s fun xs s1 => OFor (bodyC tg (evCs G body)) xs ρ s1 Φ) : OC G (.forr tg it body) ρ s Φ := ⟨Ok.bind (h.mono fun _ _ h => h.ok)⟩
theorem o_whl {t : T} {body : List C} (h : OWh (evT G t) (evCs G body) G.fuel ρ s Φ) : OC G (.whl t body) ρ s Φ := ⟨h.ok⟩
theorem o_brk (h : Φ (.bk ρ) s) : OC G .brk ρ s Φ := ⟨_, _, rfl, h⟩
theorem o_cnt (h : Φ (.ct ρ) s) : OC G .cnt ρ s Φ := ⟨_, _, rfl, h⟩
theorem o_pass (h : Φ (.nx ρ) s) : OC G .pass ρ s Φ := ⟨_, _, rfl, h⟩
theorem o_body {tg : Tg} {cs : List C} {x : D} {ρ' : Env} (e : bindT s tg x ρ = some ρ') (h : OCs G cs ρ' s Φ) : OBd tg (evCs G cs) x ρ s Φ := by
  refine ⟨?_⟩
  unfold bodyC
  rw [e]
  exact h.ok
structure RetP (Ψ : D → S → Prop) (fl : Fl) (s : S) : Prop where
  ok : match fl with
    | .nx _ => Ψ .non s
    | .rt d => Ψ d s
    | _ => False
theorem r_rt {Ψ : D → S → Prop} {d : D} (h : Ψ d s) : RetP Ψ (.rt d) s := ⟨h⟩
theorem r_nx {Ψ : D → S → Prop} (h : Ψ .non s) : RetP Ψ (.nx ρ) s := ⟨h⟩
theorem o_fn {fns : List Fn} {fuel k f : Nat} {F : Fn} {xs : List D} {Ψ : D → S → Prop} {ρ0 : Env} {b : List C} (e : fns[f]? = some F) (eb : F.body = b) (l : xs.length = F.ps.length)
    (eρ : xs.map some ++ List.replicate (F.N.length - xs.length) none = ρ0) (h : OCs ⟨evF fns fuel k, fuel⟩ b ρ0 s (RetP Ψ)) : OFn (evF fns fuel (k + 1) f xs s) Ψ := by
  subst eρ eb
  obtain ⟨fl, s1, e1, ⟨h⟩⟩ := h.ok
  have ev : evF fns fuel (k + 1) f xs s = if xs.length = F.ps.length then (evCs ⟨evF fns fuel k, fuel⟩ F.body (xs.map some ++ List.replicate (F.N.length - xs.length) none) s).bind fun fl s1 => match fl with
      | .nx _ => .ok .non s1
      | .rt d => .ok d s1
      | _ => .bad
      else .bad := by
    show (match fns[f]? with
      | none => R.bad
      | some F => _) = _
    rw [e] <;> rfl
  rw [ev, if_pos l, e1]
  cases fl with
  | nx ρ => exact ⟨_, _, rfl, h⟩
  | rt d => exact ⟨_, _, rfl, h⟩
  | bk ρ => exact h.elim
  | ct ρ => exact h.elim
theorem OFn.mono {x : R D} {Φ Ψ : D → S → Prop} (h : OFn x Φ) (i : ∀ a s, Φ a s → Ψ a s) : OFn x Ψ := ⟨h.ok.mono i⟩
theorem OFn.eq {x : R D} {a : D} {s' : S} (h : OFn x fun b t => b = a ∧ t = s') : x = .ok a s' := h.ok.eq
theorem OFn.of {x : R D} {Φ : D → S → Prop} {a : D} {s' : S} (e : x = .ok a s') (h : Φ a s') : OFn x Φ := ⟨_, _, e, h⟩
end
section
variable {s : S} {Φ : S → Prop}
theorem o_sixM {i j : Nat} {xs : List D} {k : Int} {z : D} (e : s[i]? = some (.ml xs)) (e2 : ixN xs.length k = some j) (b : z.blw i = true) (h : Φ (s.set i (.ml (xs.set j z)))) : OSix (.hnd i) (.int k) z s Φ := by
  refine ⟨(), _, ?_, h⟩
  show (match s[i]? with
    | some (.ml xs) => match ixN xs.length k with
      | some j => if z.blw i then R.ok () (s.set i (.ml (xs.set j z))) else .bad
      | none => .bad
    | _ => .bad) = _
  rw [e]
  dsimp only
  rw [e2]
  dsimp only
  rw [if_pos b]
theorem o_sixR {x k z : D} {s' : S} (e : sixD x k z s = .ok () s') (h : Φ s') : OSix x k z s Φ := ⟨(), s', e, h⟩
theorem ixN_nat {n : Nat} {k : Int} (h1 : 0 ≤ k) (h2 : k < n) : ixN n k = some k.toNat := by
  unfold ixN
  rw [if_pos h1, if_pos h2]
end
theorem o_appM {s : S} {Φ : D → S → Prop} {i : Nat} {xs : List D} {z : D} (e : s[i]? = some (.ml xs)) (l : xs.length < CAP) (b : z.blw i = true) (h : Φ .non (s.set i (.ml (xs ++ [z])))) : OApp (.hnd i) z s Φ := by
  refine ⟨.non, _, ?_, h⟩
  show (match s[i]? with
    | some (.ml xs) => if xs.length < CAP && z.blw i then R.ok D.non (s.set i (.ml (xs ++ [z]))) else .bad
    | _ => .bad) = _
  rw [e]
  dsimp only
  rw [b, decide_eq_true l]
  rfl
theorem o_ml {s : S} {P : Prop} {i : Nat} {xs : List D} (e : s[i]? = some (.ml xs)) (h : P) : MLP (.hnd i) s P := by
  refine ⟨?_, h⟩
  show (match s[i]? with
    | some (.ml _) => true
    | _ => false) = true
  rw [e]
/-! ### loops -/
section
variable {s : S} {ρ : Env} {Φ : Fl → S → Prop}
/-- the ends of one turn -/
def Turn' (N : Env → S → Prop) (Φ : Fl → S → Prop) (fl : Fl) (s : S) : Prop := match fl with
  | .nx ρ' => N ρ' s
  | .ct ρ' => N ρ' s
  | .bk ρ' => Φ (.nx ρ') s
  | .rt d => Φ (.rt d) s
theorem for_I {f : D → Env → S → R Fl} (I : Nat → Env → S → Prop) {n : Nat} : ∀ (xs : List D) (i : Nat) (ρ : Env) (s : S), n = i + xs.length → I i ρ s →
    (∀ (j : Nat) (x : D) ρ s, xs[j]? = some x → I (i + j) ρ s → Ok (f x ρ s) (Turn' (I (i + j + 1)) Φ)) → (∀ ρ s, I n ρ s → Φ (.nx ρ) s) → Ok (forL f xs ρ s) Φ
  | [], i, ρ, s, e, h, _, hd => ⟨_, _, rfl, hd _ _ (by rw [e]; exact h)⟩
  | x :: xs, i, ρ, s, e, h, hs, hd => by
    refine Ok.bind ((hs 0 x ρ s rfl h).mono fun fl s' q => ?_)
    have rest : ∀ ρ', I (i + 0 + 1) ρ' s' → Ok (forL f xs ρ' s') Φ := fun ρ' q => by
      refine for_I I xs (i + 1) ρ' s' (by rw [e, List.length_cons]; omega) q (fun j x ρ s e h => ?_) hd
      have := hs (j + 1) x ρ s e (by rw [show i + (j + 1) = i + 1 + j by omega]; exact h)
      rw [show i + (j + 1) = i + 1 + j by omega] at this
      exact this
    cases fl with
    | nx ρ' => exact rest ρ' q
    | ct ρ' => exact rest ρ' q
    | bk ρ' => exact ⟨_, _, rfl, q⟩
    | rt d => exact ⟨_, _, rfl, q⟩
theorem o_forI {tg : Tg} {cs : Env → S → R Fl} (I : Nat → Env → S → Prop) {xs : List D} (h : I 0 ρ s)
    (hs : ∀ (j : Nat) (x : D) ρ s, xs[j]? = some x → I j ρ s → OBd tg cs x ρ s (Turn' (I (j + 1)) Φ)) (hd : ∀ ρ s, I xs.length ρ s → Φ (.nx ρ) s) : OFor (bodyC tg cs) xs ρ s Φ :=
  ⟨for_I I (n := xs.length) xs 0 ρ s (by omega) h (fun j x ρ s e h => by
    have := (hs j x ρ s e (by simpa using h)).ok
    rw [show 0 + j + 1 = j + 1 by omega]
    exact this) hd⟩
/-- over a range -/
theorem o_forR {tg : Tg} {cs : Env → S → R Fl} (I : Int → Env → S → Prop) {a b : Int} (hab : a ≤ b) (h : I a ρ s)
    (hs : ∀ (j : Int) ρ s, a ≤ j → j < b → I j ρ s → OBd tg cs (.int j) ρ s (Turn' (I (j + 1)) Φ)) (hd : ∀ ρ s, I b ρ s → Φ (.nx ρ) s) : OFor (bodyC tg cs) (rangeD a b) ρ s Φ := by
  have hl : (rangeD a b).length = (b - a).toNat := by simp [rangeD]
  refine o_forI (fun i ρ s => I (a + i) ρ s) (by simpa using h) (fun j x ρ s e h => ?_) fun ρ s h => hd ρ s (by rw [hl, show a + ((b - a).toNat : Int) = b by omega] at h; exact h)
  have hj : j < (b - a).toNat := by
    have := (List.getElem?_eq_some_iff.mp e).1
    rwa [hl] at this
  have ex : x = .int (a + (j : Int)) := by
    simp only [rangeD, List.getElem?_map, List.getElem?_range hj] at e
    cases e
    rfl
  subst ex
  have := hs (a + j) ρ s (by omega) (by omega) h
  rw [show a + ((j + 1 : Nat) : Int) = a + j + 1 by omega]
  exact this
theorem tn_nx {N : Env → S → Prop} (h : N ρ s) : Turn' N Φ (.nx ρ) s := h
theorem tn_ct {N : Env → S → Prop} (h : N ρ s) : Turn' N Φ (.ct ρ) s := h
theorem tn_bk {N : Env → S → Prop} (h : Φ (.nx ρ) s) : Turn' N Φ (.bk ρ) s := h
theorem tn_rt {N : Env → S → Prop} {d : D} (h : Φ (.rt d) s) : Turn' N Φ (.rt d) s := h
/-- while: I m stands ahead of a test, m falls -/
theorem whl_I {G : Gam} {t : T} {cs : List C} (I : Nat → Env → S → Prop) : ∀ (n m : Nat) (ρ : Env) (s : S), m < n → I m ρ s →
    (∀ m ρ s, I m ρ s → OT G t ρ s fun c s1 => Spl c (OCs G cs ρ s1 (Turn' (fun ρ' s' => ∃ m', m' < m ∧ I m' ρ' s') Φ)) (Φ (.nx ρ) s1)) → Ok (whlL (evT G t) (evCs G cs) n ρ s) Φ
  | 0, m, ρ, s, h, _, _ => absurd h (Nat.not_lt_zero _)
  | n + 1, m, ρ, s, hm, h, hs => by
    refine Ok.bind ((hs m ρ s h).mono fun c s1 ⟨h1, h2⟩ => ?_)
    cases c with
    | false => exact ⟨_, _, rfl, h2 rfl⟩
    | true =>
      refine Ok.bind ((h1 rfl).mono fun fl s' q => ?_)
      have rest : ∀ ρ', (∃ m', m' < m ∧ I m' ρ' s') → Ok (whlL (evT G t) (evCs G cs) n ρ' s') Φ := fun ρ' ⟨m', l, q⟩ => whl_I I n m' ρ' s' (by omega) q hs
      cases fl with
      | nx ρ' => exact rest ρ' q
      | ct ρ' => exact rest ρ' q
      | bk ρ' => exact ⟨_, _, rfl, q⟩
      | rt d => exact ⟨_, _, rfl, q⟩
theorem o_whlI {G : Gam} {t : T} {cs : List C} {n : Nat} (I : Nat → Env → S → Prop) (m : Nat) (hm : m < n) (h : I m ρ s)
    (hs : ∀ m ρ s, I m ρ s → OT G t ρ s fun c s1 => Spl c (OCs G cs ρ s1 (Turn' (fun ρ' s' => ∃ m', m' < m ∧ I m' ρ' s') Φ)) (Φ (.nx ρ) s1)) : OWh (evT G t) (evCs G cs) n ρ s Φ := ⟨whl_I I n m ρ s hm h hs⟩
end
section
variable {α : Type} {s : S} {ρ : Env} {Φ : List D → S → Prop} {G : Gam}
theorem o_cF {tg : Tg} {mt : Option T} {me : E} {x : D} {Ψ : Option D → S → Prop} {ρ' : Env} (e : bindT s tg x ρ = some ρ')
    (h : OOT G mt ρ' s fun c s' => Spl c (OE G me ρ' s' fun y s'' => Ψ (some y) s'') (Ψ none s')) : OCf tg (evOT G mt) (evE G me) ρ x s Ψ := by
  refine ⟨?_⟩
  unfold compF
  rw [e]
  refine Ok.bind (h.mono fun c s' ⟨h1, h2⟩ => ?_)
  cases c with
  | true => exact Ok.bind ((h1 rfl).mono fun y s'' h => ⟨_, _, rfl, h⟩)
  | false => exact ⟨_, _, rfl, h2 rfl⟩

theorem cl_I {F : D → S → R (Option D)} (I : Nat → List D → S → Prop) {n : Nat} : ∀ (xs : List D) (i : Nat) (ys : List D) (s : S) (Ψ : List D → S → Prop), n = i + xs.length → I i ys s →
    (∀ (j : Nat) (x : D) ys s, xs[j]? = some x → I (i + j) ys s → Ok (F x s) fun y s' => I (i + j + 1) (ys ++ consO y []) s') → (∀ zs s, I n (ys ++ zs) s → Ψ zs s) → Ok (compL F xs s) Ψ
  | [], i, ys, s, Ψ, e, h, _, hd => ⟨_, _, rfl, hd _ _ (by rw [e, List.append_nil]; exact h)⟩
  | x :: xs, i, ys, s, Ψ, e, h, hs, hd => by
    obtain ⟨y, s', e1, q⟩ := hs 0 x ys s rfl h
    have : Ok (compL F xs s') fun zs s2 => Ψ (consO y zs) s2 := by
      refine cl_I I (n := n) xs (i + 1) (ys ++ consO y []) s' _ (by rw [e, List.length_cons]; omega) q (fun j x ys s e h => ?_) fun zs s h => hd _ _ ?_
      · have := hs (j + 1) x ys s e (by rw [show i + (j + 1) = i + 1 + j by omega]; exact h)
        rw [show i + (j + 1) = i + 1 + j by omega] at this
        exact this
      · rw [show ys ++ consO y zs = ys ++ consO y [] ++ zs by cases y <;> simp [consO]]
        exact h
    obtain ⟨zs, s2, e2, q⟩ := this
    refine ⟨consO y zs, s2, ?_, q⟩
    show ((F x s).nox.bind fun y s1 => (compL F xs s1).bind fun ys s2 => .ok (consO y ys) s2) = _
    rw [e1]
    show ((compL F xs s').bind fun ys s2 => .ok (consO y ys) s2) = _
    rw [e2]
    rfl
/-- nothing changes -/
theorem cl_P {F : D → S → R (Option D)} {e : α → D} (g : α → Option D) : ∀ (l : List α), (∀ a ∈ l, Ok (F (e a) s) fun y s' => y = g a ∧ s' = s) → Φ (l.filterMap g) s → Ok (compL F (l.map e) s) Φ := by
  intro l h q
  suffices hh : compL F (l.map e) s = .ok (l.filterMap g) s from ⟨_, _, hh, q⟩
  clear q
  induction l with
  | nil => rfl
  | cons a l ih =>
    have e1 := (h a (List.mem_cons_self ..)).eq
    have e2 := ih fun a m => h a (List.mem_cons_of_mem _ m)
    show ((F (e a) s).nox.bind fun y s1 => (compL F (l.map e) s1).bind fun ys s2 => .ok (consO y ys) s2) = _
    rw [e1]
    show ((compL F (l.map e) s).bind fun ys s2 => .ok (consO (g a) ys) s2) = _
    rw [e2, List.filterMap_cons]
    cases g a <;> rfl
theorem cl_M {F : D → S → R (Option D)} {e : α → D} (g : α → D) (l : List α) (h : ∀ a ∈ l, Ok (F (e a) s) fun y s' => y = some (g a) ∧ s' = s) (q : Φ (l.map g) s) : Ok (compL F (l.map e) s) Φ :=
  cl_P (fun a => some (g a)) l h (by rw [List.filterMap_eq_map']; exact q)
/-- a list of data, the state changes -/
theorem o_clI {tg : Tg} {mt : Env → S → R Bool} {me : Env → S → R D} {xs : List D} (I : Nat → List D → S → Prop) (h : I 0 [] s)
    (hs : ∀ (j : Nat) (x : D) ys s, xs[j]? = some x → I j ys s → OCf tg mt me ρ x s fun y s' => I (j + 1) (ys ++ consO y []) s') (hd : ∀ zs s, I xs.length zs s → Φ zs s) : OCl (compF tg mt me ρ) xs s Φ :=
  ⟨cl_I I (n := xs.length) xs 0 [] s Φ (by omega) h (fun j x ys s e h => by
    have := (hs j x ys s e (by simpa using h)).ok
    rw [show 0 + j + 1 = j + 1 by omega]
    exact this) fun zs s h => hd zs s (by simpa using h)⟩
theorem o_clP {tg : Tg} {mt : Env → S → R Bool} {me : Env → S → R D} {e : α → D} (g : α → Option D) (l : List α) (h : ∀ a ∈ l, OCf tg mt me ρ (e a) s fun y s' => y = g a ∧ s' = s) (q : Φ (l.filterMap g) s) : OCl (compF tg mt me ρ) (l.map e) s Φ :=
  ⟨cl_P g l (fun a m => (h a m).ok) q⟩
theorem o_clM {tg : Tg} {mt : Env → S → R Bool} {me : Env → S → R D} {e : α → D} (g : α → D) (l : List α) (h : ∀ a ∈ l, OCf tg mt me ρ (e a) s fun y s' => y = some (g a) ∧ s' = s) (q : Φ (l.map g) s) : OCl (compF tg mt me ρ) (l.map e) s Φ :=
  ⟨cl_M g l (fun a m => (h a m).ok) q⟩
/-- with a test -/
theorem o_clF {tg : Tg} {mt : Env → S → R Bool} {me : Env → S → R D} {e : α → D} (p : α → Bool) (g : α → D) (l : List α) (h : ∀ a ∈ l, OCf tg mt me ρ (e a) s fun y s' => y = (if p a then some (g a) else none) ∧ s' = s) (q : Φ ((l.filter p).map g) s) : OCl (compF tg mt me ρ) (l.map e) s Φ :=
  o_clP (fun a => if p a then some (g a) else none) l h (by
    rw [show l.filterMap (fun a => if p a then some (g a) else none) = (l.filter p).map g by
      clear h q
      induction l with
      | nil => rfl
      | cons a l ih =>
        rw [List.filterMap_cons, List.filter_cons, ih]
        cases p a <;> rfl]
    exact q)
end

/-! ### leaves -/
section
variable {s : S} {P : D → Prop} {B : Bool → Prop}
theorem b_add {i j : Int} (h : P (.int (i + j))) : BinP .add s (.int i) (.int j) P := ⟨_, rfl, h⟩
theorem b_sub {i j : Int} (h : P (.int (i - j))) : BinP .sub s (.int i) (.int j) P := ⟨_, rfl, h⟩
theorem b_addT {xs ys : List D} (l : xs.length + ys.length ≤ CAP) (h : P (.tup (xs ++ ys))) : BinP .add s (.tup xs) (.tup ys) P := ⟨_, if_pos l, h⟩
theorem b_addL {xs ys : List D} (l : xs.length + ys.length ≤ CAP) (h : P (.lst (xs ++ ys))) : BinP .add s (.lst xs) (.lst ys) P := ⟨_, if_pos l, h⟩
theorem b_mul {i j : Int} (l : okMul i j = true) (h : P (.int (i * j))) : BinP .mul s (.int i) (.int j) P := ⟨_, if_pos l, h⟩
theorem b_mulT {xs : List D} {k : Int} (l : xs.length * k.toNat ≤ CAP ∧ k < 2 ^ 62 ∧ -(2 ^ 62) < k) (h : P (.tup (List.replicate k.toNat xs).flatten)) : BinP .mul s (.tup xs) (.int k) P := ⟨_, if_pos l, h⟩
theorem b_div {i j : Int} (l : 0 < j ∧ j < 2 ^ 200) (h : P (.int (i / j))) : BinP .div s (.int i) (.int j) P := ⟨_, if_pos l, h⟩
theorem b_mod {i j : Int} (l : 0 < j) (h : P (.int (i % j))) : BinP .mod s (.int i) (.int j) P := ⟨_, if_pos l, h⟩
theorem b_pow {i j : Int} (l : 0 ≤ j ∧ j ≤ 1000 ∧ i.natAbs < 2 ^ 64) (h : P (.int (i ^ j.toNat))) : BinP .pow s (.int i) (.int j) P := ⟨_, if_pos l, h⟩
theorem eqI (i j : Int) : eqD (.int i) (.int j) = decide (i = j) := by
  show PyData.eqv (.int i) (.int j) = _
  rw [show PyData.eqv (.int i) (.int j) = (i == j) from rfl]
  rfl
theorem c_lt {i j : Int} (h : B (decide (i < j))) : CmpP .Lt s (.int i) (.int j) B := ⟨_, rfl, h⟩
theorem c_le {i j : Int} (h : B (decide (i ≤ j))) : CmpP .LtE s (.int i) (.int j) B := ⟨_, rfl, h⟩
theorem c_gt {i j : Int} (h : B (decide (j < i))) : CmpP .Gt s (.int i) (.int j) B := ⟨_, rfl, h⟩
theorem c_ge {i j : Int} (h : B (decide (j ≤ i))) : CmpP .GtE s (.int i) (.int j) B := ⟨_, rfl, h⟩
theorem c_eq {i j : Int} (h : B (decide (i = j))) : CmpP .Eq s (.int i) (.int j) B := ⟨_, congrArg some (eqI i j), h⟩
theorem c_ne {i j : Int} (h : B (!decide (i = j))) : CmpP .NotEq s (.int i) (.int j) B := ⟨_, congrArg (fun b => some (!b)) (eqI i j), h⟩
theorem c_eqS {i j : Str} (h : B (i == j)) : CmpP .Eq s (.str i) (.str j) B := ⟨_, rfl, h⟩
theorem c_neS {i j : Str} (h : B (!(i == j))) : CmpP .NotEq s (.str i) (.str j) B := ⟨_, rfl, h⟩
theorem t_bl {b : Bool} (h : B b) : TruP s (.bl b) B := ⟨_, rfl, h⟩
theorem t_int {i : Int} (h : B (i != 0)) : TruP s (.int i) B := ⟨_, rfl, h⟩
theorem t_tup {xs : List D} (h : B (!xs.isEmpty)) : TruP s (.tup xs) B := ⟨_, rfl, h⟩
theorem t_lst {xs : List D} (h : B (!xs.isEmpty)) : TruP s (.lst xs) B := ⟨_, rfl, h⟩
theorem t_non (h : B false) : TruP s .non B := ⟨_, rfl, h⟩
theorem x_tup {xs : List D} {k : Int} {d : D} (e : atI xs k = some d) (h : P d) : IdxP s (.tup xs) (.int k) P := ⟨_, e, h⟩
theorem x_lst {xs : List D} {k : Int} {d : D} (e : atI xs k = some d) (h : P d) : IdxP s (.lst xs) (.int k) P := ⟨_, e, h⟩
theorem x_ml {i : Nat} {xs : List D} {k : Int} {d : D} (e0 : s[i]? = some (.ml xs)) (e : atI xs k = some d) (h : P d) : IdxP s (.hnd i) (.int k) P := by
  refine ⟨d, ?_, h⟩
  show (lstOf s (.hnd i)).bind (fun xs => atI xs k) = some d
  rw [show lstOf s (.hnd i) = some xs by show (match s[i]? with | some (.ml xs) => some xs | some (.fz xs) => some xs | _ => none) = _; rw [e0]]
  exact e
theorem atI_at {α : Type} {xs : List α} {k : Nat} {a : α} (e : xs[k]? = some a) : atI xs (k : Int) = some a := by
  have hk := (List.getElem?_eq_some_iff.mp e).1
  unfold atI ixN
  rw [if_pos (by omega), if_pos (by omega)]
  exact e
theorem atI_map {α β : Type} {f : α → β} {xs : List α} {k : Int} : atI (xs.map f) k = (atI xs k).map f := by
  unfold atI
  rw [List.length_map]
  cases ixN xs.length k with
  | none => rfl
  | some j => simp
theorem atI_some {α : Type} {xs : List α} {k : Int} (h1 : -(xs.length : Int) ≤ k) (h2 : k < xs.length) : ∃ a, atI xs k = some a ∧ a ∈ xs := by
  unfold atI ixN
  by_cases h : 0 ≤ k
  · rw [if_pos h, if_pos h2]
    have : k.toNat < xs.length := by omega
    exact ⟨xs[k.toNat], by simp [this], List.getElem_mem ..⟩
  · rw [if_neg h, if_pos h1]
    have : (k + xs.length).toNat < xs.length := by omega
    exact ⟨xs[(k + xs.length).toNat], by simp [this], List.getElem_mem ..⟩
theorem ints_map : ∀ (l : List Int), intsOf (l.map .int) = some l
  | [] => rfl
  | i :: l => by
    show (intsOf (l.map .int)).map (i :: ·) = _
    rw [ints_map l]
    rfl
theorem bools_map : ∀ (l : List Bool), boolsOf (l.map .bl) = some l
  | [] => rfl
  | i :: l => by
    show (boolsOf (l.map .bl)).map (i :: ·) = _
    rw [bools_map l]
    rfl
theorem f_sum {l : List Int} (h : P (.int l.sum)) : F1P .sum s (.lst (l.map .int)) P := by
  refine ⟨_, ?_, h⟩
  show (intsOf (l.map .int)).map (fun ns => D.int ns.sum) = _
  rw [ints_map]
  rfl
theorem f_abs {i : Int} (h : P (.int i.natAbs)) : F1P .abs s (.int i) P := by
  refine ⟨_, ?_, h⟩
  show some (D.int (if i < 0 then -i else i)) = _
  congr 2
  split <;> omega
theorem f_all {l : List Bool} (h : P (.bl (l.all id))) : F1P .all s (.lst (l.map .bl)) P := by
  refine ⟨_, ?_, h⟩
  show (boolsOf (l.map .bl)).map (fun ns => D.bl (ns.all id)) = _
  rw [bools_map]
  rfl
theorem f_any {l : List Bool} (h : P (.bl (l.any id))) : F1P .any s (.lst (l.map .bl)) P := by
  refine ⟨_, ?_, h⟩
  show (boolsOf (l.map .bl)).map (fun ns => D.bl (ns.any id)) = _
  rw [bools_map]
  rfl
theorem f_repr' {d : D} (h1 : (unh s d).pur = true) (h2 : (unh s d).shw = true) (h3 : (unh s d).wt ≤ 10000000) (h4 : (unh s d).dep ≤ 60) (h : P (.str (unh s d).py.shown)) : F1P .repr s d P := by
  refine ⟨_, ?_, h⟩
  show (if (unh s d).pur && ((unh s d).shw && (decide ((unh s d).wt ≤ 10000000) && decide ((unh s d).dep ≤ 60))) then some (D.str (unh s d).py.shown) else none) = _
  rw [h1, h2, decide_eq_true h3, decide_eq_true h4]
  rfl
end
section
variable {s s' : S} {n : Nat} {P : D → S → Prop}
theorem k_int {i : Int} (t : s.take n = s') (h : P (.int i) s') : CutP n (.int i) s P := by subst t; exact ⟨_, _, rfl, h⟩
theorem k_bl {i : Bool} (t : s.take n = s') (h : P (.bl i) s') : CutP n (.bl i) s P := by subst t; exact ⟨_, _, rfl, h⟩
theorem k_str {i : Str} (t : s.take n = s') (h : P (.str i) s') : CutP n (.str i) s P := by subst t; exact ⟨_, _, rfl, h⟩
theorem k_non (t : s.take n = s') (h : P .non s') : CutP n .non s P := by subst t; exact ⟨_, _, rfl, h⟩
theorem k_tup {xs : List D} (b : blws n xs = true) (t : s.take n = s') (h : P (.tup xs) s') : CutP n (.tup xs) s P := by
  subst t
  refine ⟨.tup xs, s.take n, ?_, h⟩
  show (if blws n xs = true then R.ok (D.tup xs) (s.take n) else .bad) = _
  rw [if_pos b]
mutual
theorem pur_blw (n : Nat) : ∀ d : D, d.pur = true → d.blw n = true
  | .non, _ => rfl
  | .bl _, _ => rfl
  | .int _, _ => rfl
  | .str _, _ => rfl
  | .tup xs, h => purs_blws n xs h
  | .lst xs, h => purs_blws n xs h
  | .dic xs, h => purkv_blw n xs h
  | .hnd _, h => by cases h
  | .scr _, h => by cases h
theorem purs_blws (n : Nat) : ∀ ds : List D, purs ds = true → blws n ds = true
  | [], _ => rfl
  | d :: ds, h => by
    have h := Bool.and_eq_true_iff.mp (show (d.pur && purs ds) = true from h)
    exact Bool.and_eq_true_iff.mpr ⟨pur_blw n d h.1, purs_blws n ds h.2⟩
theorem purkv_blw (n : Nat) : ∀ ds : List (Key × D), purkv ds = true → blwkv n ds = true
  | [], _ => rfl
  | (k, d) :: ds, h => by
    have h := Bool.and_eq_true_iff.mp (show (d.pur && purkv ds) = true from h)
    exact Bool.and_eq_true_iff.mpr ⟨pur_blw n d h.1, purkv_blw n ds h.2⟩
end
end
/-! ### the deck -/
def dk (c : List Int) (n : Int) (r : S) : S := .ml (c.map .int) :: .ml [.hnd 0, .int n] :: r
theorem dk_len {c : List Int} {n : Int} {r : S} : (dk c n r).length = r.length + 2 := rfl
theorem dk_take {c c' : List Int} {n n' : Int} {r : S} : (dk c' n' r).take (dk c n r).length = dk c' n' r := by
  rw [dk_len, ← dk_len (c := c') (n := n')]
  exact List.take_length
theorem dk_cut {c c' : List Int} {n n' : Int} {r t : S} : (dk c' n' (r ++ t)).take (dk c n r).length = dk c' n' r := by
  rw [dk_len]
  show HObj.ml _ :: HObj.ml _ :: (r ++ t).take r.length = _
  rw [List.take_left]
  rfl

theorem take_self {s : S} : s.take s.length = s := List.take_length
theorem take_app {s t : S} : (s ++ t).take s.length = s := List.take_left
theorem b_mulA {s : S} {P : D → Prop} {i j : Int} (l : -(2 ^ 64) < i ∧ i < 2 ^ 64) (h : P (.int (i * j))) : BinP .mul s (.int i) (.int j) P := b_mul (by unfold okMul; rw [decide_eq_true l.1, decide_eq_true l.2]; rfl) h
theorem b_mulB {s : S} {P : D → Prop} {i j : Int} (l : -(2 ^ 64) < j ∧ j < 2 ^ 64) (h : P (.int (i * j))) : BinP .mul s (.int i) (.int j) P := b_mul (by unfold okMul; rw [decide_eq_true l.1, decide_eq_true l.2]; simp) h
theorem eqB (i j : Bool) : eqD (.bl i) (.bl j) = (i == j) := by
  cases i <;> cases j <;> rfl
theorem c_eqB {s : S} {i j : Bool} {B : Bool → Prop} (h : B (i == j)) : CmpP .Eq s (.bl i) (.bl j) B := ⟨_, congrArg some (eqB i j), h⟩
theorem c_neB {s : S} {i j : Bool} {B : Bool → Prop} (h : B (!(i == j))) : CmpP .NotEq s (.bl i) (.bl j) B := ⟨_, congrArg (fun b => some (!b)) (eqB i j), h⟩
theorem c_eqBs {s : S} {i : Bool} {B : Bool → Prop} (h : B true) : CmpP .Eq s (.bl i) (.bl i) B := c_eqB (by rw [show (i == i) = true by cases i <;> rfl]; exact h)
theorem c_neBs {s : S} {i : Bool} {B : Bool → Prop} (h : B false) : CmpP .NotEq s (.bl i) (.bl i) B := c_neB (by rw [show (i == i) = true by cases i <;> rfl]; exact h)
theorem cut_from {xs : List D} {k : Nat} : RS.cutD xs (some (k : Int)) none = xs.drop k := by
  unfold RS.cutD
  rw [HT.sIx_nat, HT.sIx_none]
  by_cases h : k ≤ xs.length
  · rw [Nat.min_eq_left h]
    exact List.take_of_length_le (by rw [List.length_drop]; omega)
  · rw [Nat.min_eq_right (by omega), List.drop_of_length_le (Nat.le_refl _), List.drop_of_length_le (by omega), List.take_nil]
theorem cut_to {xs : List D} {k : Nat} : RS.cutD xs none (some (k : Int)) = xs.take k := by
  unfold RS.cutD
  rw [HT.sIx_nat, HT.sIx_none, List.drop_zero, Nat.sub_zero]
  by_cases h : k ≤ xs.length
  · rw [Nat.min_eq_left h]
  · rw [Nat.min_eq_right (by omega), List.take_of_length_le (Nat.le_refl _), List.take_of_length_le (by omega)]
theorem range0 (n : Nat) : rangeD 0 (n : Int) = (List.range n).map fun i => .int (i : Nat) := by
  unfold rangeD
  rw [show ((n : Int) - 0).toNat = n by omega]
  exact List.map_congr_left fun i _ => by rw [Int.zero_add]
theorem capN {n : Nat} (h : n ≤ 1000000) : n ≤ CAP := h
theorem capL {j : Int} {P : Prop} (l : j ≤ CAP ∧ -CAP ≤ j) (h : P) : CapJ j P := ⟨l, h⟩
theorem c_eqSs {s : S} {i : Str} {B : Bool → Prop} (h : B true) : CmpP .Eq s (.str i) (.str i) B := c_eqS (by rw [beq_self_eq_true]; exact h)
theorem c_neSs {s : S} {i : Str} {B : Bool → Prop} (h : B false) : CmpP .NotEq s (.str i) (.str i) B := c_neS (by rw [beq_self_eq_true]; exact h)
theorem x_any {s : S} {x y d : D} {P : D → Prop} (e : idxD s x y = some d) (h : P d) : IdxP s x y P := ⟨d, e, h⟩
theorem c_isN {s : S} {x : D} {d : Bool} {P : Bool → Prop} (e : isD x .non = some d) (h : P d) : CmpP .Is s x .non P := ⟨d, e, h⟩
theorem c_notN {s : S} {x : D} {d : Bool} {P : Bool → Prop} (e : (isD x .non).map (!·) = some d) (h : P d) : CmpP .IsNot s x .non P := ⟨d, e, h⟩
theorem f_lenT {s : S} {xs : List D} {P : D → Prop} (h : P (.int xs.length)) : F1P .len s (.tup xs) P := ⟨_, rfl, h⟩
theorem f_lenL {s : S} {xs : List D} {P : D → Prop} (h : P (.int xs.length)) : F1P .len s (.lst xs) P := ⟨_, rfl, h⟩
theorem f_lenM {s : S} {i : Nat} {xs : List D} {P : D → Prop} (e : s[i]? = some (.ml xs)) (h : P (.int xs.length)) : F1P .len s (.hnd i) P := by
  refine ⟨_, ?_, h⟩
  show (lstOf s (.hnd i)).map (fun xs => D.int xs.length) = _
  rw [show lstOf s (.hnd i) = some xs by show (match s[i]? with | some (.ml xs) => some xs | some (.fz xs) => some xs | _ => none) = _; rw [e]]
  rfl
theorem f_tupL {s : S} {xs : List D} {P : D → Prop} (h : P (.tup xs)) : F1P .tuple s (.lst xs) P := ⟨_, rfl, h⟩
theorem f_tupT {s : S} {xs : List D} {P : D → Prop} (h : P (.tup xs)) : F1P .tuple s (.tup xs) P := ⟨_, rfl, h⟩
theorem f_tupM {s : S} {i : Nat} {xs : List D} {P : D → Prop} (e : s[i]? = some (.ml xs)) (h : P (.tup xs)) : F1P .tuple s (.hnd i) P := by
  refine ⟨_, ?_, h⟩
  show (lstOf s (.hnd i)).map D.tup = _
  rw [show lstOf s (.hnd i) = some xs by show (match s[i]? with | some (.ml xs) => some xs | some (.fz xs) => some xs | _ => none) = _; rw [e]]
  rfl
theorem f_lstT {s : S} {xs : List D} {P : D → Prop} (h : P (.lst xs)) : F1P .list s (.tup xs) P := ⟨_, rfl, h⟩
theorem f_lstL {s : S} {xs : List D} {P : D → Prop} (h : P (.lst xs)) : F1P .list s (.lst xs) P := ⟨_, rfl, h⟩
theorem f_intI {s : S} {i : Int} {P : D → Prop} (h : P (.int i)) : F1P .int s (.int i) P := ⟨_, rfl, h⟩
theorem f_intB {s : S} {b : Bool} {P : D → Prop} (h : P (.int (if b then 1 else 0))) : F1P .int s (.bl b) P := ⟨_, rfl, h⟩
theorem l_tup {s : S} {xs : List D} {l r : Option Int} {P : D → Prop} (h : P (.tup (cutD xs l r))) : SlcP s (.tup xs) l r P := ⟨_, rfl, h⟩
theorem l_lst {s : S} {xs : List D} {l r : Option Int} {P : D → Prop} (h : P (.lst (cutD xs l r))) : SlcP s (.lst xs) l r P := ⟨_, rfl, h⟩
theorem l_scr {s : S} {xs : List Int} {l r : Option Int} {P : D → Prop} (h : P (.lst ((cutZ xs l r).map .int))) : SlcP s (.scr xs) l r P := ⟨_, rfl, h⟩
end RS

/-! ### exceptions -/
namespace RS
open PySem L2 PyProof.Rows
structure OXE (G : Gam) (e : E) (ρ : Env) (s : S) (Ψ : Str → List (Str × D) → Env → S → Prop) : Prop where
  ok : ∃ c fs ρ' s', evE G e ρ s = .exc c fs ρ' s' ∧ Ψ c fs ρ' s'
structure OXC (G : Gam) (e : C) (ρ : Env) (s : S) (Ψ : Str → List (Str × D) → Env → S → Prop) : Prop where
  ok : ∃ c fs ρ' s', evC G e ρ s = .exc c fs ρ' s' ∧ Ψ c fs ρ' s'
structure OXCs (G : Gam) (e : List C) (ρ : Env) (s : S) (Ψ : Str → List (Str × D) → Env → S → Prop) : Prop where
  ok : ∃ c fs ρ' s', evCs G e ρ s = .exc c fs ρ' s' ∧ Ψ c fs ρ' s'
structure OXF (x : R D) (Ψ : Str → List (Str × D) → S → Prop) : Prop where
  ok : ∃ c fs ρ' s', x = .exc c fs ρ' s' ∧ Ψ c fs s'
structure OXFor (f : D → Env → S → R Fl) (xs : List D) (ρ : Env) (s : S) (Ψ : Str → List (Str × D) → Env → S → Prop) : Prop where
  ok : ∃ c fs ρ' s', forL f xs ρ s = .exc c fs ρ' s' ∧ Ψ c fs ρ' s'
structure OXBd (tg : Tg) (cs : Env → S → R Fl) (x : D) (ρ : Env) (s : S) (Ψ : Str → List (Str × D) → Env → S → Prop) : Prop where
  ok : ∃ c fs ρ' s', bodyC tg cs x ρ s = .exc c fs ρ' s' ∧ Ψ c fs ρ' s'
structure NxP (fl : Fl) (P : Env → Prop) : Prop where
  ok : ∃ ρ, fl = .nx ρ ∧ P ρ
theorem nxP {ρ : Env} {P : Env → Prop} (h : P ρ) : NxP (.nx ρ) P := ⟨ρ, rfl, h⟩
structure OH (G : Gam) (h : C) (c : Str) (fs : List (Str × D)) (ρ : Env) (s : S) (Φ : Fl → S → Prop) : Prop where
  ok : Ok (evH G h c fs ρ s) Φ
section
variable {G : Gam} {ρ : Env} {s : S} {Ψ : Str → List (Str × D) → Env → S → Prop} {Φ : Fl → S → Prop} {ΦD : D → S → Prop}
theorem x_consX {c : C} {cs : List C} (h : OXC G c ρ s Ψ) : OXCs G (c :: cs) ρ s Ψ := by
  obtain ⟨c', fs, ρ', s', e2, q⟩ := h.ok
  refine ⟨c', fs, ρ', s', ?_, q⟩
  show (evC G c ρ s).bind (sqC (evCs G cs)) = _
  rw [e2]
  rfl
theorem x_ite {t : T} {a b : List C} (h : OT G t ρ s fun c s1 => Spl c (OXCs G a ρ s1 Ψ) (OXCs G b ρ s1 Ψ)) : OXC G (.ite t a b) ρ s Ψ := by
  obtain ⟨c, s1, e, ⟨h1, h2⟩⟩ := h.ok
  cases c with
  | true =>
    obtain ⟨c', fs, ρ', s', e2, q⟩ := (h1 rfl).ok
    refine ⟨c', fs, ρ', s', ?_, q⟩
    show (evT G t ρ s).bind _ = _
    rw [e]
    exact e2
  | false =>
    obtain ⟨c', fs, ρ', s', e2, q⟩ := (h2 rfl).ok
    refine ⟨c', fs, ρ', s', ?_, q⟩
    show (evT G t ρ s).bind _ = _
    rw [e]
    exact e2
theorem x_asg {t : Tg} {e : E} (h : OXE G e ρ s Ψ) : OXC G (.asg t e) ρ s Ψ := by
  obtain ⟨c', fs, ρ', s', e2, q⟩ := h.ok
  refine ⟨c', fs, ρ', s', ?_, q⟩
  show (evE G e ρ s).bind _ = _
  rw [e2]
  rfl
theorem x_ret {e : E} (h : OXE G e ρ s Ψ) : OXC G (.ret e) ρ s Ψ := by
  obtain ⟨c', fs, ρ', s', e2, q⟩ := h.ok
  refine ⟨c', fs, ρ', s', ?_, q⟩
  show (evE G e ρ s).bind _ = _
  rw [e2]
  rfl
theorem x_exp {e : E} (h : OXE G e ρ s Ψ) : OXC G (.exp e) ρ s Ψ := by
  obtain ⟨c', fs, ρ', s', e2, q⟩ := h.ok
  refine ⟨c', fs, ρ', s', ?_, q⟩
  show (evE G e ρ s).bind _ = _
  rw [e2]
  rfl
theorem x_rai {x : Str} (h : Ψ x [] ρ s) : OXC G (.rai x) ρ s Ψ := ⟨x, [], ρ, s, rfl, h⟩
theorem x_rai1 {x f : Str} {e : E} (h : OE G e ρ s fun d s1 => Ψ x [(f, d)] ρ s1) : OXC G (.rai1 x f e) ρ s Ψ := by
  obtain ⟨d, s1, e1, q⟩ := h.ok
  refine ⟨x, [(f, d)], ρ, s1, ?_, q⟩
  show (evE G e ρ s).bind _ = _
  rw [e1]
  rfl
theorem x_call {fns : List Fn} {fuel k f : Nat} {args : List E} (h : OEs ⟨evF fns fuel k, fuel⟩ args ρ s fun xs s1 => OXF (evF fns fuel k f xs s1) fun c fs s2 => blwfs s1.length fs = true ∧ Ψ c fs ρ (s2.take s1.length)) : OXE ⟨evF fns fuel k, fuel⟩ (.call f args) ρ s Ψ := by
  obtain ⟨xs, s1, e1, ⟨c, fs, ρ', s2, e2, b, q⟩⟩ := h.ok
  refine ⟨c, fs, ρ, s2.take s1.length, ?_, q⟩
  show (evEs ⟨evF fns fuel k, fuel⟩ args ρ s).bind (fun xs s1 => cutS s1.length ((evF fns fuel k f xs s1).at ρ)) = _
  rw [e1]
  show cutS s1.length ((evF fns fuel k f xs s1).at ρ) = _
  rw [e2]
  show (if blwfs s1.length fs then R.exc c fs ρ (s2.take s1.length) else .bad) = _
  rw [if_pos b]
theorem x_calln {fns : List Fn} {fuel k f : Nat} {args : List E} (h : OEs ⟨evF fns fuel k, fuel⟩ args ρ s fun xs s1 => OXF (evF fns fuel k f xs s1) fun c fs s2 => Ψ c fs ρ s2) : OXE ⟨evF fns fuel k, fuel⟩ (.calln f args) ρ s Ψ := by
  obtain ⟨xs, s1, e1, ⟨c, fs, ρ', s2, e2, q⟩⟩ := h.ok
  refine ⟨c, fs, ρ, s2, ?_, q⟩
  show (evEs ⟨evF fns fuel k, fuel⟩ args ρ s).bind (fun xs s1 => (evF fns fuel k f xs s1).at ρ) = _
  rw [e1]
  show (evF fns fuel k f xs s1).at ρ = _
  rw [e2]
  rfl
theorem x_fn {fns : List Fn} {fuel k f : Nat} {F : Fn} {xs : List D} {ΨF : Str → List (Str × D) → S → Prop} (e : fns[f]? = some F) (l : xs.length = F.ps.length)
    (h : OXCs ⟨evF fns fuel k, fuel⟩ F.body (xs.map some ++ List.replicate (F.N.length - xs.length) none) s fun c fs _ s1 => ΨF c fs s1) : OXF (evF fns fuel (k + 1) f xs s) ΨF := by
  obtain ⟨c, fs, ρ', s1, e1, h⟩ := h.ok
  have ev : evF fns fuel (k + 1) f xs s = if xs.length = F.ps.length then (evCs ⟨evF fns fuel k, fuel⟩ F.body (xs.map some ++ List.replicate (F.N.length - xs.length) none) s).bind fun fl s1 => match fl with
      | .nx _ => .ok .non s1
      | .rt d => .ok d s1
      | _ => .bad
      else .bad := by
    show (match fns[f]? with
      | none => R.bad
      | some F => _) = _
    rw [e] <;> rfl
  refine ⟨c, fs, ρ', s1, ?_, h⟩
  rw [ev, if_pos l, e1]
  rfl
theorem o_tryN {body : List C} {h : C} (q : OCs G body ρ s Φ) : OC G (.tryy body h) ρ s Φ := by
  obtain ⟨fl, s1, e, q⟩ := q.ok
  refine ⟨fl, s1, ?_, q⟩
  show (match evCs G body ρ s with
    | .exc c fs ρ' s' => evH G h c fs ρ' s'
    | r => r) = _
  rw [e]
theorem o_tryX {body : List C} {h : C} (q : OXCs G body ρ s fun c fs ρ' s' => OH G h c fs ρ' s' Φ) : OC G (.tryy body h) ρ s Φ := by
  obtain ⟨c, fs, ρ', s', e, ⟨q⟩⟩ := q.ok
  refine ⟨?_⟩
  show Ok (match evCs G body ρ s with
    | .exc c fs ρ' s' => evH G h c fs ρ' s'
    | r => r) Φ
  rw [e]
  exact q
theorem h_hit1 {x c : Str} {i : Nat} {suite : List C} {r : C} {fs : List (Str × D)} {d : D} (e : excSub c x = true) (ed : xcpD c fs = some d) (h : OCs G suite (ρ.set i (some d)) s fun fl s1 => Φ (fl.del i) s1) : OH G (.hd x (some i) suite r) c fs ρ s Φ := by
  obtain ⟨fl, s1, e1, q⟩ := h.ok
  refine ⟨fl.del i, s1, ?_, q⟩
  show (if excSub c x then match xcpD c fs with
    | some d => (evCs G suite (ρ.set i (some d)) s).nox.bind fun fl s1 => .ok (fl.del i) s1
    | none => .bad
    else evH G r c fs ρ s) = _
  rw [if_pos e, ed]
  show (evCs G suite (ρ.set i (some d)) s).nox.bind _ = _
  rw [e1]
  rfl
theorem o_xis {one : Bool} {cs : List Str} {a : E} (h : OE G a ρ s fun x s1 => Got (xisD cs x) fun d => ΦD (.bl d) s1) : OE G (.xis one cs a) ρ s ΦD :=
  ⟨Ok.bind (h.mono fun x s1 ⟨d, e, h⟩ => Ok.of (a := .bl d) (by rw [e]; rfl) h)⟩
theorem o_xf {f : Str} {a : E} (h : OE G a ρ s fun x s1 => Got (xfD f x) fun d => ΦD d s1) : OE G (.xf f a) ρ s ΦD :=
  ⟨Ok.bind (h.mono fun x s1 ⟨d, e, h⟩ => Ok.of e h)⟩
theorem o_cntE {a b : E} (h : OE G a ρ s fun x s1 => (lstOf s1 x).isSome = true ∧ OE G b ρ s1 fun y s2 => Got (cntD s2 x y) fun d => ΦD d s2) : OE G (.cnt a b) ρ s ΦD :=
  ⟨Ok.bind (h.mono fun x s1 ⟨z, h⟩ => by
    show Ok (if (lstOf s1 x).isSome = true then _ else _) _
    rw [if_pos z]
    exact Ok.bind (h.mono fun y s2 ⟨d, e, h⟩ => Ok.of e h))⟩
end
end RS

namespace RS
open PySem L2 PyProof.Rows
section
local macro_rules | `(tactic| eq_refl) => `(tactic| first
  | refine o_cons ?_ | refine s_nx ?_ | refine o_asg ?_ | refine bd rfl ?_ | refine o_var rfl ?_ | refine o_int ?_ | refine o_bin ?_ | refine o_idx ?_ | refine o_cmp ?_
  | refine o_ite ?_ | refine o_tv ?_ | refine t_bl ?_ | refine o_ret ?_ | refine s_rt ?_ | refine r_rt ?_ | refine o_call ?_ | refine o_es ?_ | refine o_es0 ?_
  | refine o_nil ?_ | refine s_bk ?_ | refine s_ct ?_ | refine r_nx ?_
  | refine o_par ⟨Nat.le_of_ble_eq_true rfl, Nat.le_of_ble_eq_true rfl⟩ ?_ | refine o_par3 ⟨Nat.le_of_ble_eq_true rfl, Nat.le_of_ble_eq_true rfl, Nat.le_of_ble_eq_true rfl⟩ ?_ | refine o_augM rfl (Nat.le_of_ble_eq_true rfl) ?_ | refine o_six ?_ | refine o_exp ?_ | refine o_for ?_ | refine o_brk ?_ | refine o_cnt ?_ | refine o_pass ?_ | refine o_whl ?_
  | refine o_bl ?_ | refine o_str ?_ | refine o_non ?_ | refine o_gli ?_ | refine o_gls ?_ | refine o_neg ?_ | refine o_chn ?_ | refine o_nt ?_
  | refine o_an ?_ | refine o_an1 ?_ | refine o_orr ?_ | refine o_or1 ?_ | refine o_ife ?_ | refine o_tup ?_ | refine o_lst ?_ | refine o_dic0 ?_ | refine o_dic1 ?_ | refine o_slc ?_ | refine o_f1 ?_ | refine o_f2 ?_ | refine o_isi ?_
  | refine o_rg1 ?_ | refine o_rg2 ?_ | refine o_sst ?_ | refine o_lns ?_ | refine o_srr ?_ | refine o_srkR ?_ | refine o_dsub ?_ | refine o_srkP ?_ | refine o_rv0 ?_ | refine o_mmx ?_ | refine o_app ?_ | refine o_mk ?_ | refine o_comp ?_ | refine o_calln ?_
  | refine o_iex ?_ | refine o_ir1 ?_ | refine o_ir2 ?_ | refine o_ien ?_ | refine o_ien1 ?_ | refine o_izp ?_ | refine o_sqT ?_ | refine o_sqL ?_ | refine o_zpT ?_ | refine o_zpL ?_
  | refine o_o0 ?_ | refine o_o1 ?_ | refine o_tnt ?_ | refine o_tan ?_ | refine o_tan1 ?_ | refine o_tor ?_ | refine o_tor1 ?_ | refine o_ot0 ?_ | refine o_ot1 ?_
  | refine o_cF rfl ?_ | refine o_body rfl ?_ | refine isI ?_ | refine capL (by decide) ?_ | refine isB ?_ | refine isL ?_ | refine isT ?_ | refine splT ?_ | refine splF ?_
  | refine b_add ?_ | refine b_sub ?_ | refine b_mod (by decide) ?_ | refine b_div (by decide) ?_ | refine b_pow (by decide) ?_ | refine b_mulA (by decide) ?_ | refine b_mulB (by decide) ?_
  | refine c_lt ?_ | refine c_le ?_ | refine c_gt ?_ | refine c_ge ?_ | refine c_eq ?_ | refine c_ne ?_ | refine c_eqBs ?_ | refine c_neBs ?_ | refine c_eqB ?_ | refine c_neB ?_ | refine c_eqSs ?_ | refine c_neSs ?_ | refine c_eqS ?_ | refine c_neS ?_ | refine c_isN rfl ?_ | refine c_notN rfl ?_
  | refine t_int ?_ | refine t_tup ?_ | refine t_lst ?_ | refine t_non ?_
  | refine f_lenT ?_ | refine f_lenL ?_ | refine f_tupL ?_ | refine f_tupT ?_ | refine f_lstT ?_ | refine f_lstL ?_ | refine f_abs ?_ | refine f_sum ?_ | refine f_all ?_ | refine f_any ?_ | refine f_intI ?_ | refine f_intB ?_
  | refine l_tup ?_ | refine l_lst ?_ | refine l_scr ?_ | refine got rfl ?_
  | refine k_int take_self ?_ | refine k_bl take_self ?_ | refine k_non take_self ?_ | refine k_str take_self ?_ | refine k_int dk_take ?_ | refine k_bl dk_take ?_ | refine k_non dk_take ?_
  | refine tn_nx ?_ | refine tn_ct ?_ | refine tn_bk ?_ | refine tn_rt ?_ | refine x_any rfl ?_ | refine f_lenM rfl ?_ | refine f_tupM rfl ?_
  | refine o_xis ?_ | refine o_xf ?_ | refine o_cntE ⟨rfl, ?_⟩ | refine x_ite ?_ | refine x_asg ?_ | refine x_ret ?_ | refine x_exp ?_ | refine x_call ?_ | refine x_calln ?_ | refine x_rai ?_ | refine x_rai1 ?_ | refine nxP ?_)

/-! ### the deck, draws, rings of the laws k00 to k07, k77 -/
def bDeckA : List C :=
   [.ret (.mk (.lst [(.mk (.comp (.f1 .abs (.var 1)) (.nm 1) (.ex (.slc (.var 0) none (some (.cst (.int 63))))) none [("_law_cell", 1)])), (.cst (.int 0))]))]
def fDeckA : Fn := ⟨"_law_deck", "_law_deck", ["_law_script"], ["_law_script", "_law_cell"], bDeckA⟩
def bDrawA : List C :=
   [.six (.var 0) (.cst (.int 1)) (.bin .add (.idx (.var 0) (.cst (.int 1))) (.cst (.int 1))),
    .asg (.tp [(.nm 2), (.nm 3)]) (.tup [(.cst (.int 0)), (.neg (.cst (.int 1)))]),
    .ite (.v (.cmp .Gt (.f1 .len (.idx (.var 0) (.cst (.int 0)))) (.cst (.int 0)))) [.asg (.nm 3) (.bin .mod (.idx (.var 0) (.cst (.int 1))) (.f1 .len (.idx (.var 0) (.cst (.int 0))))),
    .asg (.nm 2) (.idx (.idx (.var 0) (.cst (.int 0))) (.var 3))] [],
    .ite (.v (.cmp .GtE (.var 2) (.bin .pow (.cst (.int 10)) (.cst (.int 18))))) [.six (.idx (.var 0) (.cst (.int 0))) (.var 3) (.bin .div (.var 2) (.var 1)),
    .ret (.bin .mod (.var 2) (.var 1))] [],
    .ret (.bin .mod (.bin .div (.bin .mod (.bin .pow (.bin .add (.bin .add (.bin .mod (.var 2) (.cst (.int 2147483587))) (.bin .mul (.cst (.int 7919)) (.idx (.var 0) (.cst (.int 1))))) (.cst (.int 1))) (.cst (.int 5))) (.cst (.int 2147483647))) (.cst (.int 7))) (.var 1))]
def fDrawA : Fn := ⟨"_law_draw", "_law_draw", ["_law_deck_here", "_law_limit"], ["_law_deck_here", "_law_limit", "_law_cell", "_law_index"], bDrawA⟩
def bRingA (iD : Nat) : List C :=
   [.asg (.nm 2) (.lst [(.tup [(.cst (.int 2)), (.cst (.int 0))]), (.tup [(.cst (.int 4)), (.neg (.cst (.int 2)))]), (.tup [(.cst (.int 9)), (.cst (.int 5))]), (.tup [(.cst (.int 40)), (.neg (.cst (.int 20)))]), (.tup [(.bin .add (.bin .mul (.cst (.int 2)) (.bin .pow (.cst (.int 10)) (.cst (.int 9)))) (.cst (.int 1))), (.neg (.bin .pow (.cst (.int 10)) (.cst (.int 9))))]), (.tup [(.cst (.int 3)), (.bin .sub (.bin .pow (.cst (.int 10)) (.cst (.int 9))) (.cst (.int 2)))]), (.tup [(.cst (.int 5)), (.neg (.bin .pow (.cst (.int 10)) (.cst (.int 9))))])]),
    .asg (.tp [(.nm 3), (.nm 4)]) (.idx (.var 2) (.call iD [(.var 0), (.cst (.int 7))])),
    .asg (.nm 5) (.mk (.comp (.bin .add (.var 4) (.call iD [(.var 0), (.var 3)])) (.nm 8) (.r1 (.bin .add (.cst (.int 1)) (.call iD [(.var 0), (.var 1)]))) none [("_law_k", 8)])),
    .asg (.nm 6) (.call iD [(.var 0), (.cst (.int 3))]),
    .forr (.nm 7) (.r2 (.cst (.int 1)) (.f1 .len (.var 5))) [.ite (.an (.v (.cmp .Eq (.var 6) (.cst (.int 0)))) (.an1 (.v (.cmp .Eq (.call iD [(.var 0), (.cst (.int 3))]) (.cst (.int 0)))))) [.six (.var 5) (.var 7) (.idx (.var 5) (.bin .sub (.var 7) (.cst (.int 1))))] []],
    .ret (.f1 .tuple (.var 5))]
def fRingA (iD : Nat) : Fn := ⟨"_law_ring", "_law_ring", ["_law_deck_here", "_law_most"], ["_law_deck_here", "_law_most", "_law_menu", "_law_span", "_law_base", "_law_ring_here", "_law_rare", "_law_place", "_law_k"], bRingA iD⟩
/-! ### the deck -/
theorem dk_new {c : List Int} {n : Int} {r : S} {x : HObj} : (dk c n (r ++ [x]))[r.length + 2]? = some x := by
  show (r ++ [x])[r.length]? = some x
  simp
theorem dk_set {c : List Int} {n : Int} {r : S} {x y : HObj} : (dk c n (r ++ [x])).set (r.length + 2) y = dk c n (r ++ [y]) := by
  show HObj.ml _ :: HObj.ml _ :: (r ++ [x]).set r.length y = _
  rw [List.set_append_right _ _ (Nat.le_refl _), Nat.sub_self]
  rfl
abbrev dI (xs : List Int) : List D := xs.map .int
theorem dI_set {zs : List Int} {i : Nat} {y : Int} : dI (zs.set i y) = (dI zs).set i (.int y) := List.map_set ..
/-- heights in range -/
def Hts (xs : List Int) : Prop := ∀ x ∈ xs, -(10 ^ 9) ≤ x ∧ x ≤ 10 ^ 9
theorem Hts.app {xs : List Int} {x : Int} (h : Hts xs) (hx : -(10 ^ 9) ≤ x ∧ x ≤ 10 ^ 9) : Hts (xs ++ [x]) := fun y m => by
  rcases List.mem_append.mp m with m | m
  · exact h y m
  · rw [List.mem_singleton.mp m]; exact hx
theorem Hts.set {xs : List Int} {x : Int} {i : Nat} (h : Hts xs) (hx : -(10 ^ 9) ≤ x ∧ x ≤ 10 ^ 9) : Hts (xs.set i x) := fun y m => by
  rcases List.mem_or_eq_of_mem_set m with m | m
  · exact h y m
  · rw [m]; exact hx
/-! ### repr -/
theorem purs_dI : ∀ xs : List Int, purs (dI xs) = true
  | [] => rfl
  | _ :: xs => purs_dI xs
theorem pow64 : (2 : Nat) ^ 64 ≤ 2 ^ 1000 := Nat.pow_le_pow_right (by decide) (by decide)
/-- ints of less than 65 bits -/
def Sm64 (xs : List Int) : Prop := ∀ x ∈ xs, x.natAbs < 2 ^ 64
theorem Hts.sm {xs : List Int} (h : Hts xs) : Sm64 xs := fun x m => by have := h x m; omega
theorem shws_dI : ∀ xs : List Int, Sm64 xs → shws (dI xs) = true
  | [], _ => rfl
  | x :: xs, h => by
    have hx := h x (List.mem_cons_self ..)
    show (decide (x.natAbs < 2 ^ 1000) && shws (dI xs)) = true
    rw [shws_dI xs fun y m => h y (List.mem_cons_of_mem _ m), decide_eq_true (Nat.lt_of_lt_of_le hx pow64)]
    rfl
theorem wts_dI : ∀ xs : List Int, wts (dI xs) = 1004 * xs.length
  | [] => rfl
  | x :: xs => by
    show 1002 + 2 + wts (dI xs) = 1004 * (xs.length + 1)
    rw [wts_dI xs]
    omega
theorem deps_dI : ∀ xs : List Int, deps (dI xs) = 0
  | [] => rfl
  | x :: xs => by
    show max 0 (deps (dI xs)) = 0
    rw [deps_dI xs]
    rfl
theorem f_reprT {s : S} {xs : List Int} {P : D → Prop} (h : Sm64 xs) (l : xs.length ≤ 1000) (q : P (.str (D.tup (dI xs)).py.shown)) : F1P .repr s (.tup (dI xs)) P :=
  f_repr' (d := .tup (dI xs)) (purs_dI xs) (shws_dI xs h) (by show wts (dI xs) + 3 ≤ _; rw [wts_dI]; omega) (by show deps (dI xs) + 1 ≤ 60; rw [deps_dI]; omega) q
def abz (x : Int) : Int := x.natAbs
theorem deckA {fns : List Fn} {iK fuel k : Nat} {ns : List Int} {Φ : D → S → Prop} (ef : fns[iK]? = some fDeckA) (h : ∀ c, Φ (.hnd 1) (dk c 0 [])) : OFn (evF fns fuel (k + 1) iK [.scr ns] []) Φ := by
  refine o_fn (ρ0 := [some (.scr ns), none]) ef rfl rfl rfl ?_
  repeat eq_refl
  refine o_clM (fun i => .int (abz i)) _ (fun i m => ?_) ?_
  · repeat eq_refl
    exact ⟨rfl, rfl⟩
  · rw [show (List.map (fun i => D.int (abz i)) (cutZ ns none (some 63))) = dI ((cutZ ns none (some 63)).map abz) by simp]
    repeat eq_refl
    exact h _

end
section
local macro_rules | `(tactic| eq_refl) => `(tactic| first
  | refine o_cons ?_ | refine s_nx ?_ | refine o_asg ?_ | refine bd rfl ?_ | refine o_var rfl ?_ | refine o_int ?_ | refine o_bin ?_ | refine o_idx ?_ | refine o_cmp ?_
  | refine o_ite ?_ | refine o_tv ?_ | refine t_bl ?_ | refine o_ret ?_ | refine s_rt ?_ | refine r_rt ?_ | refine o_call ?_ | refine o_es ?_ | refine o_es0 ?_
  | refine o_nil ?_ | refine s_bk ?_ | refine s_ct ?_ | refine r_nx ?_
  | refine o_par ⟨Nat.le_of_ble_eq_true rfl, Nat.le_of_ble_eq_true rfl⟩ ?_ | refine o_par3 ⟨Nat.le_of_ble_eq_true rfl, Nat.le_of_ble_eq_true rfl, Nat.le_of_ble_eq_true rfl⟩ ?_ | refine o_augM rfl (Nat.le_of_ble_eq_true rfl) ?_ | refine o_six ?_ | refine o_exp ?_ | refine o_for ?_ | refine o_brk ?_ | refine o_cnt ?_ | refine o_pass ?_ | refine o_whl ?_
  | refine o_bl ?_ | refine o_str ?_ | refine o_non ?_ | refine o_gli ?_ | refine o_gls ?_ | refine o_neg ?_ | refine o_chn ?_ | refine o_nt ?_
  | refine o_an ?_ | refine o_an1 ?_ | refine o_orr ?_ | refine o_or1 ?_ | refine o_ife ?_ | refine o_tup ?_ | refine o_lst ?_ | refine o_dic0 ?_ | refine o_dic1 ?_ | refine o_slc ?_ | refine o_f1 ?_ | refine o_f2 ?_ | refine o_isi ?_
  | refine o_rg1 ?_ | refine o_rg2 ?_ | refine o_sst ?_ | refine o_lns ?_ | refine o_srr ?_ | refine o_srkR ?_ | refine o_dsub ?_ | refine o_srkP ?_ | refine o_rv0 ?_ | refine o_mmx ?_ | refine o_app ?_ | refine o_mk ?_ | refine o_comp ?_ | refine o_calln ?_
  | refine o_iex ?_ | refine o_ir1 ?_ | refine o_ir2 ?_ | refine o_ien ?_ | refine o_ien1 ?_ | refine o_izp ?_ | refine o_sqT ?_ | refine o_sqL ?_ | refine o_zpT ?_ | refine o_zpL ?_
  | refine o_o0 ?_ | refine o_o1 ?_ | refine o_tnt ?_ | refine o_tan ?_ | refine o_tan1 ?_ | refine o_tor ?_ | refine o_tor1 ?_ | refine o_ot0 ?_ | refine o_ot1 ?_
  | refine o_cF rfl ?_ | refine o_body rfl ?_ | refine isI ?_ | refine capL (by decide) ?_ | refine isB ?_ | refine isL ?_ | refine isT ?_ | refine splT ?_ | refine splF ?_
  | refine b_add ?_ | refine b_sub ?_ | refine b_mod (by decide) ?_ | refine b_div (by decide) ?_ | refine b_pow (by decide) ?_ | refine b_mulA (by decide) ?_ | refine b_mulB (by decide) ?_
  | refine c_lt ?_ | refine c_le ?_ | refine c_gt ?_ | refine c_ge ?_ | refine c_eq ?_ | refine c_ne ?_ | refine c_eqBs ?_ | refine c_neBs ?_ | refine c_eqB ?_ | refine c_neB ?_ | refine c_eqSs ?_ | refine c_neSs ?_ | refine c_eqS ?_ | refine c_neS ?_ | refine c_isN rfl ?_ | refine c_notN rfl ?_
  | refine t_int ?_ | refine t_tup ?_ | refine t_lst ?_ | refine t_non ?_
  | refine f_lenT ?_ | refine f_lenL ?_ | refine f_tupL ?_ | refine f_tupT ?_ | refine f_lstT ?_ | refine f_lstL ?_ | refine f_abs ?_ | refine f_sum ?_ | refine f_all ?_ | refine f_any ?_ | refine f_intI ?_ | refine f_intB ?_
  | refine l_tup ?_ | refine l_lst ?_ | refine l_scr ?_ | refine got rfl ?_
  | refine k_int take_self ?_ | refine k_bl take_self ?_ | refine k_non take_self ?_ | refine k_str take_self ?_ | refine k_int dk_take ?_ | refine k_bl dk_take ?_ | refine k_non dk_take ?_
  | refine tn_nx ?_ | refine tn_ct ?_ | refine tn_bk ?_ | refine tn_rt ?_ | refine x_any rfl ?_ | refine f_lenM rfl ?_ | refine f_tupM rfl ?_
  | refine o_xis ?_ | refine o_xf ?_ | refine o_cntE ⟨rfl, ?_⟩ | refine x_ite ?_ | refine x_asg ?_ | refine x_ret ?_ | refine x_exp ?_ | refine x_call ?_ | refine x_calln ?_ | refine x_rai ?_ | refine x_rai1 ?_ | refine nxP ?_)

/-! ### the place ahead -/
def prev (xs : List Int) (i : Nat) : Int := (atI xs ((i : Int) - 1)).getD 0
theorem mapIdx_dI (xs : List Int) : (dI xs).mapIdx (fun i d => D.tup [.int (i : Nat), d]) = xs.zipIdx.map fun p => D.tup [.int (p.2 : Nat), .int p.1] := by
  apply List.ext_getElem?
  intro i
  simp only [List.getElem?_mapIdx, List.getElem?_map, List.getElem?_zipIdx]
  cases xs[i]? <;> simp
theorem prev_at {xs : List Int} {i : Nat} (h : i < xs.length) : atI xs ((i : Int) - 1) = some (prev xs i) := by
  obtain ⟨a, ha, _⟩ := atI_some (xs := xs) (k := (i : Int) - 1) (by omega) (by omega)
  unfold prev
  rw [ha]
  rfl
end
section
local macro_rules | `(tactic| eq_refl) => `(tactic| first
  | refine o_cons ?_ | refine s_nx ?_ | refine o_asg ?_ | refine bd rfl ?_ | refine o_var rfl ?_ | refine o_int ?_ | refine o_bin ?_ | refine o_idx ?_ | refine o_cmp ?_
  | refine o_ite ?_ | refine o_tv ?_ | refine t_bl ?_ | refine o_ret ?_ | refine s_rt ?_ | refine r_rt ?_ | refine o_call ?_ | refine o_es ?_ | refine o_es0 ?_
  | refine o_nil ?_ | refine s_bk ?_ | refine s_ct ?_ | refine r_nx ?_
  | refine o_par ⟨Nat.le_of_ble_eq_true rfl, Nat.le_of_ble_eq_true rfl⟩ ?_ | refine o_par3 ⟨Nat.le_of_ble_eq_true rfl, Nat.le_of_ble_eq_true rfl, Nat.le_of_ble_eq_true rfl⟩ ?_ | refine o_augM rfl (Nat.le_of_ble_eq_true rfl) ?_ | refine o_six ?_ | refine o_exp ?_ | refine o_for ?_ | refine o_brk ?_ | refine o_cnt ?_ | refine o_pass ?_ | refine o_whl ?_
  | refine o_bl ?_ | refine o_str ?_ | refine o_non ?_ | refine o_gli ?_ | refine o_gls ?_ | refine o_neg ?_ | refine o_chn ?_ | refine o_nt ?_
  | refine o_an ?_ | refine o_an1 ?_ | refine o_orr ?_ | refine o_or1 ?_ | refine o_ife ?_ | refine o_tup ?_ | refine o_lst ?_ | refine o_dic0 ?_ | refine o_dic1 ?_ | refine o_slc ?_ | refine o_f1 ?_ | refine o_f2 ?_ | refine o_isi ?_
  | refine o_rg1 ?_ | refine o_rg2 ?_ | refine o_sst ?_ | refine o_lns ?_ | refine o_srr ?_ | refine o_srkR ?_ | refine o_dsub ?_ | refine o_srkP ?_ | refine o_rv0 ?_ | refine o_mmx ?_ | refine o_app ?_ | refine o_mk ?_ | refine o_comp ?_ | refine o_calln ?_
  | refine o_iex ?_ | refine o_ir1 ?_ | refine o_ir2 ?_ | refine o_ien ?_ | refine o_ien1 ?_ | refine o_izp ?_ | refine o_sqT ?_ | refine o_sqL ?_ | refine o_zpT ?_ | refine o_zpL ?_
  | refine o_o0 ?_ | refine o_o1 ?_ | refine o_tnt ?_ | refine o_tan ?_ | refine o_tan1 ?_ | refine o_tor ?_ | refine o_tor1 ?_ | refine o_ot0 ?_ | refine o_ot1 ?_
  | refine o_cF rfl ?_ | refine o_body rfl ?_ | refine isI ?_ | refine capL (by decide) ?_ | refine isB ?_ | refine isL ?_ | refine isT ?_ | refine splT ?_ | refine splF ?_
  | refine b_add ?_ | refine b_sub ?_ | refine b_mod (by decide) ?_ | refine b_div (by decide) ?_ | refine b_pow (by decide) ?_ | refine b_mulA (by decide) ?_ | refine b_mulB (by decide) ?_
  | refine c_lt ?_ | refine c_le ?_ | refine c_gt ?_ | refine c_ge ?_ | refine c_eq ?_ | refine c_ne ?_ | refine c_eqBs ?_ | refine c_neBs ?_ | refine c_eqB ?_ | refine c_neB ?_ | refine c_eqSs ?_ | refine c_neSs ?_ | refine c_eqS ?_ | refine c_neS ?_ | refine c_isN rfl ?_ | refine c_notN rfl ?_
  | refine t_int ?_ | refine t_tup ?_ | refine t_lst ?_ | refine t_non ?_
  | refine f_lenT ?_ | refine f_lenL ?_ | refine f_tupL ?_ | refine f_tupT ?_ | refine f_lstT ?_ | refine f_lstL ?_ | refine f_abs ?_ | refine f_sum ?_ | refine f_all ?_ | refine f_any ?_ | refine f_intI ?_ | refine f_intB ?_
  | refine l_tup ?_ | refine l_lst ?_ | refine l_scr ?_ | refine got rfl ?_
  | refine k_int take_self ?_ | refine k_bl take_self ?_ | refine k_non take_self ?_ | refine k_str take_self ?_ | refine k_int dk_take ?_ | refine k_bl dk_take ?_ | refine k_non dk_take ?_
  | refine tn_nx ?_ | refine tn_ct ?_ | refine tn_bk ?_ | refine tn_rt ?_ | refine x_any rfl ?_ | refine f_lenM rfl ?_ | refine f_tupM rfl ?_
  | refine o_xis ?_ | refine o_xf ?_ | refine o_cntE ⟨rfl, ?_⟩ | refine x_ite ?_ | refine x_asg ?_ | refine x_ret ?_ | refine x_exp ?_ | refine x_call ?_ | refine x_calln ?_ | refine x_rai ?_ | refine x_rai1 ?_ | refine nxP ?_)

/-! ### the deck, draws, rings of the laws k08 to k18 -/
def bDeckB : List C :=
   [.ret (.mk (.lst [(.mk (.comp (.f1 .abs (.var 1)) (.nm 1) (.ex (.slc (.var 0) none (some (.cst (.int 60))))) none [("_law_cell", 1)])), (.cst (.int 0))]))]
def bDrawB : List C :=
   [.six (.var 0) (.cst (.int 1)) (.bin .add (.idx (.var 0) (.cst (.int 1))) (.cst (.int 1))),
    .asg (.nm 2) (.bin .mod (.idx (.var 0) (.cst (.int 1))) (.f2 .max (.cst (.int 1)) (.f1 .len (.idx (.var 0) (.cst (.int 0)))))),
    .asg (.nm 3) (.idx (.bin .add (.idx (.var 0) (.cst (.int 0))) (.lst [(.cst (.int 0))])) (.var 2)),
    .ite (.v (.cmp .GtE (.var 3) (.bin .pow (.cst (.int 10)) (.cst (.int 18))))) [.six (.idx (.var 0) (.cst (.int 0))) (.var 2) (.bin .div (.var 3) (.var 1)),
    .ret (.bin .mod (.var 3) (.var 1))] [],
    .asg (.nm 4) (.bin .mod (.bin .pow (.bin .add (.bin .add (.bin .mod (.var 3) (.cst (.int 2147483563))) (.bin .mul (.cst (.int 104729)) (.idx (.var 0) (.cst (.int 1))))) (.cst (.int 7))) (.cst (.int 4))) (.cst (.int 2147483629))),
    .ret (.bin .mod (.bin .add (.bin .div (.var 4) (.cst (.int 8))) (.bin .mul (.cst (.int 31)) (.idx (.var 0) (.cst (.int 1))))) (.var 1))]
def bRingB (iD : Nat) : List C :=
   [.asg (.nm 2) (.lst [(.tup [(.cst (.int 0)), (.cst (.int 3))]), (.tup [(.neg (.cst (.int 5))), (.cst (.int 12))]), (.tup [(.bin .sub (.cst (.int 0)) (.bin .pow (.cst (.int 10)) (.cst (.int 9)))), (.cst (.int 4))]), (.tup [(.bin .sub (.bin .pow (.cst (.int 10)) (.cst (.int 9))) (.cst (.int 4))), (.cst (.int 5))]), (.tup [(.bin .sub (.cst (.int 0)) (.bin .pow (.cst (.int 10)) (.cst (.int 9)))), (.bin .add (.bin .mul (.cst (.int 2)) (.bin .pow (.cst (.int 10)) (.cst (.int 9)))) (.cst (.int 1)))]), (.tup [(.cst (.int 0)), (.cst (.int 60))])]),
    .asg (.tp [(.nm 3), (.nm 4)]) (.idx (.var 2) (.call iD [(.var 0), (.cst (.int 6))])),
    .asg (.nm 5) (.mk (.lst [(.bin .add (.var 3) (.call iD [(.var 0), (.var 4)]))])),
    .forr (.nm 6) (.r1 (.call iD [(.var 0), (.var 1)])) [.asg (.nm 7) (.cmp .Eq (.call iD [(.var 0), (.cst (.int 5))]) (.cst (.int 0))),
    .exp (.app (.var 5) (.idx (.lst [(.bin .add (.var 3) (.call iD [(.var 0), (.var 4)])), (.idx (.var 5) (.neg (.cst (.int 1))))]) (.f1 .int (.var 7))))],
    .ret (.f1 .tuple (.var 5))]
/-- a def of the list, by what of it counts -/
structure IsF (fns : List Fn) (i n m : Nat) (b : List C) : Prop where
  ex : ∃ F, fns[i]? = some F ∧ F.body = b ∧ F.ps.length = n ∧ F.N.length = m
theorem o_isF {fns : List Fn} {fuel k f n m : Nat} {b : List C} {xs : List D} {s : S} {Ψ : D → S → Prop} {ρ0 : Env} (e : IsF fns f n m b) (l : xs.length = n) (eρ : xs.map some ++ List.replicate (m - n) none = ρ0)
    (h : OCs ⟨evF fns fuel k, fuel⟩ b ρ0 s (RetP Ψ)) : OFn (evF fns fuel (k + 1) f xs s) Ψ := by
  obtain ⟨F, h1, h2, h3, h4⟩ := e.ex
  exact o_fn h1 h2 (l.trans h3.symm) (by rw [h4, l]; exact eρ) h
/-! ### repr of lists of tuples of ints -/
end
section
local macro_rules | `(tactic| eq_refl) => `(tactic| first
  | refine o_cons ?_ | refine s_nx ?_ | refine o_asg ?_ | refine bd rfl ?_ | refine o_var rfl ?_ | refine o_int ?_ | refine o_bin ?_ | refine o_idx ?_ | refine o_cmp ?_
  | refine o_ite ?_ | refine o_tv ?_ | refine t_bl ?_ | refine o_ret ?_ | refine s_rt ?_ | refine r_rt ?_ | refine o_call ?_ | refine o_es ?_ | refine o_es0 ?_
  | refine o_nil ?_ | refine s_bk ?_ | refine s_ct ?_ | refine r_nx ?_
  | refine o_par ⟨Nat.le_of_ble_eq_true rfl, Nat.le_of_ble_eq_true rfl⟩ ?_ | refine o_par3 ⟨Nat.le_of_ble_eq_true rfl, Nat.le_of_ble_eq_true rfl, Nat.le_of_ble_eq_true rfl⟩ ?_ | refine o_augM rfl (Nat.le_of_ble_eq_true rfl) ?_ | refine o_six ?_ | refine o_exp ?_ | refine o_for ?_ | refine o_brk ?_ | refine o_cnt ?_ | refine o_pass ?_ | refine o_whl ?_
  | refine o_bl ?_ | refine o_str ?_ | refine o_non ?_ | refine o_gli ?_ | refine o_gls ?_ | refine o_neg ?_ | refine o_chn ?_ | refine o_nt ?_
  | refine o_an ?_ | refine o_an1 ?_ | refine o_orr ?_ | refine o_or1 ?_ | refine o_ife ?_ | refine o_tup ?_ | refine o_lst ?_ | refine o_dic0 ?_ | refine o_dic1 ?_ | refine o_slc ?_ | refine o_f1 ?_ | refine o_f2 ?_ | refine o_isi ?_
  | refine o_rg1 ?_ | refine o_rg2 ?_ | refine o_sst ?_ | refine o_lns ?_ | refine o_srr ?_ | refine o_srkR ?_ | refine o_dsub ?_ | refine o_srkP ?_ | refine o_rv0 ?_ | refine o_mmx ?_ | refine o_app ?_ | refine o_mk ?_ | refine o_comp ?_ | refine o_calln ?_
  | refine o_iex ?_ | refine o_ir1 ?_ | refine o_ir2 ?_ | refine o_ien ?_ | refine o_ien1 ?_ | refine o_izp ?_ | refine o_sqT ?_ | refine o_sqL ?_ | refine o_zpT ?_ | refine o_zpL ?_
  | refine o_o0 ?_ | refine o_o1 ?_ | refine o_tnt ?_ | refine o_tan ?_ | refine o_tan1 ?_ | refine o_tor ?_ | refine o_tor1 ?_ | refine o_ot0 ?_ | refine o_ot1 ?_
  | refine o_cF rfl ?_ | refine o_body rfl ?_ | refine isI ?_ | refine capL (by decide) ?_ | refine isB ?_ | refine isL ?_ | refine isT ?_ | refine splT ?_ | refine splF ?_
  | refine b_add ?_ | refine b_sub ?_ | refine b_mod (by decide) ?_ | refine b_div (by decide) ?_ | refine b_pow (by decide) ?_ | refine b_mulA (by decide) ?_ | refine b_mulB (by decide) ?_
  | refine c_lt ?_ | refine c_le ?_ | refine c_gt ?_ | refine c_ge ?_ | refine c_eq ?_ | refine c_ne ?_ | refine c_eqBs ?_ | refine c_neBs ?_ | refine c_eqB ?_ | refine c_neB ?_ | refine c_eqSs ?_ | refine c_neSs ?_ | refine c_eqS ?_ | refine c_neS ?_ | refine c_isN rfl ?_ | refine c_notN rfl ?_
  | refine t_int ?_ | refine t_tup ?_ | refine t_lst ?_ | refine t_non ?_
  | refine f_lenT ?_ | refine f_lenL ?_ | refine f_tupL ?_ | refine f_tupT ?_ | refine f_lstT ?_ | refine f_lstL ?_ | refine f_abs ?_ | refine f_sum ?_ | refine f_all ?_ | refine f_any ?_ | refine f_intI ?_ | refine f_intB ?_
  | refine l_tup ?_ | refine l_lst ?_ | refine l_scr ?_ | refine got rfl ?_
  | refine k_int take_self ?_ | refine k_bl take_self ?_ | refine k_non take_self ?_ | refine k_str take_self ?_ | refine k_int dk_take ?_ | refine k_bl dk_take ?_ | refine k_non dk_take ?_
  | refine tn_nx ?_ | refine tn_ct ?_ | refine tn_bk ?_ | refine tn_rt ?_ | refine x_any rfl ?_ | refine f_lenM rfl ?_ | refine f_tupM rfl ?_
  | refine o_xis ?_ | refine o_xf ?_ | refine o_cntE ⟨rfl, ?_⟩ | refine x_ite ?_ | refine x_asg ?_ | refine x_ret ?_ | refine x_exp ?_ | refine x_call ?_ | refine x_calln ?_ | refine x_rai ?_ | refine x_rai1 ?_ | refine nxP ?_)

/-! ### pairs of ints, sorted, equal -/
abbrev II := Int × Int
abbrev dP (p : II) : D := .tup [.int p.1, .int p.2]
abbrev dPs (ps : List II) : List D := ps.map dP
def leP (p q : II) : Bool := decide (p.1 < q.1 ∨ p.1 = q.1 ∧ p.2 ≤ q.2)
theorem leP_trans (a b c : II) (h : leP a b = true) (k : leP b c = true) : leP a c = true := by
  have h := of_decide_eq_true h
  have k := of_decide_eq_true k
  exact decide_eq_true (by omega)
theorem leP_total (a b : II) : (leP a b || leP b a) = true := by
  unfold leP
  rw [← Bool.decide_or]
  exact decide_eq_true (by omega)
def sP (ps : List II) : List II := ps.mergeSort leP
def sZ (xs : List Int) : List Int := xs.mergeSort leZ
theorem sP_perm (ps : List II) : (sP ps).Perm ps := List.mergeSort_perm ..
theorem sP_pw (ps : List II) : (sP ps).Pairwise fun a b => leP a b = true := List.pairwise_mergeSort leP_trans leP_total _
theorem srtOk_pairs (ps : List II) : srtOk (dPs ps) = true := by
  unfold srtOk
  have h1 : (dPs ps).all eqOk = true := List.all_eq_true.mpr fun d m => by obtain ⟨x, _, rfl⟩ := List.mem_map.mp m; rfl
  have h2 : ((dPs ps).all fun d => (dPs ps).all fun e => PySem.W.alike d.py e.py) = true := List.all_eq_true.mpr fun d m => List.all_eq_true.mpr fun e n => by
    obtain ⟨x, _, rfl⟩ := List.mem_map.mp m
    obtain ⟨y, _, rfl⟩ := List.mem_map.mp n
    rfl
  have h3 : (dPs ps).all tupN = true := List.all_eq_true.mpr fun d m => by obtain ⟨x, _, rfl⟩ := List.mem_map.mp m; rfl
  rw [h1, h2, h3]
  rfl
theorem ms_pairs (xs : List II) : (dPs xs).mergeSort (PySem.W.dataLe false D.py) = dPs (sP xs) := by
  unfold sP
  refine (List.map_mergeSort (r := leP) fun a _ b _ => ?_).symm
  have := congrFun (congrFun (PySem.W.dataLe_ii (fun p : II => p.1) (fun p : II => p.2)) a) b
  exact this.symm
theorem f_srt {s : S} {x : D} {xs ys : List D} {P : D → Prop} (e : seqOf s x = some xs) (l : xs.length ≤ CAP) (ok : srtOk xs = true) (em : xs.mergeSort (PySem.W.dataLe false D.py) = ys) (h : P (.lst ys)) : F1P .sorted s x P := by
  refine ⟨_, ?_, h⟩
  show (seqOf s x).bind (fun xs => if srtOk xs && decide (xs.length ≤ CAP) then some (D.lst (xs.mergeSort (PySem.W.dataLe false D.py))) else none) = _
  rw [e]
  show (if srtOk xs && decide (xs.length ≤ CAP) then some (D.lst (xs.mergeSort (PySem.W.dataLe false D.py))) else none) = _
  rw [ok, decide_eq_true l, em]
  rfl
theorem f_srtP {s : S} {x : D} {xs : List II} {P : D → Prop} (e : seqOf s x = some (dPs xs)) (l : xs.length ≤ 1000000) (h : P (.lst (dPs (sP xs)))) : F1P .sorted s x P :=
  f_srt e (by rw [List.length_map]; exact l) (srtOk_pairs xs) (ms_pairs xs) h
/-! equal data -/
def fEq (a b : D) : Bool := eqD a b
theorem eqvs_map {α : Type} [DecidableEq α] {f : α → D} (hf : ∀ a b, eqD (f a) (f b) = decide (a = b)) : ∀ (as bs : List α), PyData.eqvAll (pys (as.map f)) (pys (bs.map f)) = decide (as = bs)
  | [], [] => rfl
  | [], b :: bs => rfl
  | a :: as, [] => rfl
  | a :: as, b :: bs => by
    show (PyData.eqv (f a).py (f b).py && PyData.eqvAll (pys (as.map f)) (pys (bs.map f))) = _
    rw [eqvs_map hf as bs, show PyData.eqv (f a).py (f b).py = eqD (f a) (f b) from rfl, hf, ← Bool.decide_and]
    simp
theorem eqLI (ps qs : List Int) : eqD (.lst (dI ps)) (.lst (dI qs)) = decide (ps = qs) := eqvs_map eqI ps qs
theorem eqTI (ps qs : List Int) : eqD (.tup (dI ps)) (.tup (dI qs)) = decide (ps = qs) := eqvs_map eqI ps qs
theorem flts_I : ∀ xs : List Int, flts (dI xs) = true
  | [] => rfl
  | _ :: xs => flts_I xs
theorem eqOkI (xs : List Int) : eqOk (.tup (dI xs)) = true := by
  show (flts (dI xs) && decide (deps (dI xs) + 1 ≤ 60)) = true
  rw [flts_I, deps_dI]; rfl
theorem eqOkLI (xs : List Int) : eqOk (.lst (dI xs)) = true := eqOkI xs
theorem c_eqD {s : S} {x y : D} {b : Bool} {B : Bool → Prop} (n : eqS x y = none) (h1 : eqOk (unh s x) = true) (h2 : eqOk (unh s y) = true) (e : eqD (unh s x) (unh s y) = b) (h : B b) : CmpP .Eq s x y B := by
  refine ⟨_, ?_, h⟩
  show (match eqS x y with | some d => some d | none => match (if eqOk (unh s x) && eqOk (unh s y) then some (eqD (unh s x) (unh s y)) else none) with | some d => some d | none => eqN x y) = _
  rw [n, h1, h2, ← e]
  rfl
theorem c_neD {s : S} {x y : D} {b : Bool} {B : Bool → Prop} (n : neS x y = none) (h1 : eqOk (unh s x) = true) (h2 : eqOk (unh s y) = true) (e : eqD (unh s x) (unh s y) = b) (h : B (!b)) : CmpP .NotEq s x y B := by
  refine ⟨_, ?_, h⟩
  show (match neS x y with | some d => some d | none => match (if eqOk (unh s x) && eqOk (unh s y) then some (!eqD (unh s x) (unh s y)) else none) with | some d => some d | none => (eqN x y).map (!·)) = _
  rw [n, h1, h2, ← e]
  rfl
theorem c_eqLI {s : S} {ps qs : List Int} {B : Bool → Prop} (h : B (decide (ps = qs))) : CmpP .Eq s (.lst (dI ps)) (.lst (dI qs)) B := c_eqD rfl (eqOkLI _) (eqOkLI _) (eqLI _ _) h
theorem c_neTI {s : S} {ps qs : List Int} {B : Bool → Prop} (h : B (!decide (ps = qs))) : CmpP .NotEq s (.tup (dI ps)) (.tup (dI qs)) B := c_neD rfl (eqOkI _) (eqOkI _) (eqTI _ _) h
theorem intsOf_dI : ∀ xs : List Int, intsOf (dI xs) = some xs
  | [] => rfl
  | x :: xs => by
    show (intsOf (dI xs)).map (x :: ·) = _
    rw [intsOf_dI xs]
    rfl
theorem minL_le : ∀ {xs : List Int} {x : Int}, x ∈ xs → minL xs ≤ x
  | [y], x, h => by rw [List.mem_singleton.mp h]; exact Int.le_refl _
  | y :: z :: xs, x, h => by
    show min y (minL (z :: xs)) ≤ x
    rcases List.mem_cons.mp h with rfl | h
    · omega
    · have := minL_le h; omega
theorem minL_in : ∀ {xs : List Int}, xs ≠ [] → minL xs ∈ xs
  | [y], _ => List.mem_singleton.mpr rfl
  | y :: z :: xs, _ => by
    show min y (minL (z :: xs)) ∈ _
    have := minL_in (xs := z :: xs) (by simp)
    by_cases h : y ≤ minL (z :: xs)
    · rw [Int.min_eq_left h]; exact List.mem_cons_self ..
    · rw [Int.min_eq_right (by omega)]; exact List.mem_cons_of_mem _ this
theorem f_min {s : S} {xs : List Int} {P : D → Prop} (hx : xs ≠ []) (h : P (.int (minL xs))) : F1P .min s (.lst (dI xs)) P := by
  refine ⟨_, ?_, h⟩
  show ((intsOf (dI xs)).bind fun ns => if ns.isEmpty then none else some (D.int (minL ns))) = _
  rw [intsOf_dI]
  show (if xs.isEmpty then none else some (D.int (minL xs))) = _
  cases xs with
  | nil => exact absurd rfl hx
  | cons _ _ => rfl
section
variable {s : S} {ρ : Env} {Φ : List D → S → Prop} {G : Gam}
end
theorem eqNil (ds : List D) : eqD (.lst ds) (.lst []) = ds.isEmpty := by cases ds <;> rfl
/-- a list beside the empty one -/
theorem c_neNil {s : S} {ds : List D} {B : Bool → Prop} (h : B (!ds.isEmpty)) : CmpP .NotEq s (.lst ds) (.lst []) B := by
  refine ⟨_, ?_, h⟩
  show (match neS (.lst ds) (.lst []) with | some d => some d | none => match (if eqOk (.lst ds) && eqOk (.lst []) then some (!eqD (.lst ds) (.lst [])) else none) with | some d => some d | none => (eqN (.lst ds) (.lst [])).map (!·)) = _
  show (match (if eqOk (.lst ds) && eqOk (.lst []) then some (!eqD (.lst ds) (.lst [])) else none) with | some d => some d | none => (eqN (.lst ds) (.lst [])).map (!·)) = _
  rw [eqNil]
  by_cases q : (eqOk (.lst ds) && eqOk (.lst [])) = true
  · rw [if_pos q]
  · rw [if_neg q]
    cases ds with
    | nil => exact absurd rfl q
    | cons x xs => rfl

end
section
local macro_rules | `(tactic| eq_refl) => `(tactic| first
  | refine o_cons ?_ | refine s_nx ?_ | refine o_asg ?_ | refine bd rfl ?_ | refine o_var rfl ?_ | refine o_int ?_ | refine o_bin ?_ | refine o_idx ?_ | refine o_cmp ?_
  | refine o_ite ?_ | refine o_tv ?_ | refine t_bl ?_ | refine o_ret ?_ | refine s_rt ?_ | refine r_rt ?_ | refine o_call ?_ | refine o_es ?_ | refine o_es0 ?_
  | refine o_nil ?_ | refine s_bk ?_ | refine s_ct ?_ | refine r_nx ?_
  | refine o_par ⟨Nat.le_of_ble_eq_true rfl, Nat.le_of_ble_eq_true rfl⟩ ?_ | refine o_par3 ⟨Nat.le_of_ble_eq_true rfl, Nat.le_of_ble_eq_true rfl, Nat.le_of_ble_eq_true rfl⟩ ?_ | refine o_augM rfl (Nat.le_of_ble_eq_true rfl) ?_ | refine o_six ?_ | refine o_exp ?_ | refine o_for ?_ | refine o_brk ?_ | refine o_cnt ?_ | refine o_pass ?_ | refine o_whl ?_
  | refine o_bl ?_ | refine o_str ?_ | refine o_non ?_ | refine o_gli ?_ | refine o_gls ?_ | refine o_neg ?_ | refine o_chn ?_ | refine o_nt ?_
  | refine o_an ?_ | refine o_an1 ?_ | refine o_orr ?_ | refine o_or1 ?_ | refine o_ife ?_ | refine o_tup ?_ | refine o_lst ?_ | refine o_dic0 ?_ | refine o_dic1 ?_ | refine o_slc ?_ | refine o_f1 ?_ | refine o_f2 ?_ | refine o_isi ?_
  | refine o_rg1 ?_ | refine o_rg2 ?_ | refine o_sst ?_ | refine o_lns ?_ | refine o_srr ?_ | refine o_srkR ?_ | refine o_dsub ?_ | refine o_srkP ?_ | refine o_rv0 ?_ | refine o_mmx ?_ | refine o_app ?_ | refine o_mk ?_ | refine o_comp ?_ | refine o_calln ?_
  | refine o_iex ?_ | refine o_ir1 ?_ | refine o_ir2 ?_ | refine o_ien ?_ | refine o_ien1 ?_ | refine o_izp ?_ | refine o_sqT ?_ | refine o_sqL ?_ | refine o_zpT ?_ | refine o_zpL ?_
  | refine o_o0 ?_ | refine o_o1 ?_ | refine o_tnt ?_ | refine o_tan ?_ | refine o_tan1 ?_ | refine o_tor ?_ | refine o_tor1 ?_ | refine o_ot0 ?_ | refine o_ot1 ?_
  | refine o_cF rfl ?_ | refine o_body rfl ?_ | refine isI ?_ | refine capL (by decide) ?_ | refine isB ?_ | refine isL ?_ | refine isT ?_ | refine splT ?_ | refine splF ?_
  | refine b_add ?_ | refine b_sub ?_ | refine b_mod (by decide) ?_ | refine b_div (by decide) ?_ | refine b_pow (by decide) ?_ | refine b_mulA (by decide) ?_ | refine b_mulB (by decide) ?_
  | refine c_lt ?_ | refine c_le ?_ | refine c_gt ?_ | refine c_ge ?_ | refine c_eq ?_ | refine c_ne ?_ | refine c_eqBs ?_ | refine c_neBs ?_ | refine c_eqB ?_ | refine c_neB ?_ | refine c_eqSs ?_ | refine c_neSs ?_ | refine c_eqS ?_ | refine c_neS ?_ | refine c_isN rfl ?_ | refine c_notN rfl ?_
  | refine t_int ?_ | refine t_tup ?_ | refine t_lst ?_ | refine t_non ?_
  | refine f_lenT ?_ | refine f_lenL ?_ | refine f_tupL ?_ | refine f_tupT ?_ | refine f_lstT ?_ | refine f_lstL ?_ | refine f_abs ?_ | refine f_sum ?_ | refine f_all ?_ | refine f_any ?_ | refine f_intI ?_ | refine f_intB ?_
  | refine l_tup ?_ | refine l_lst ?_ | refine l_scr ?_ | refine got rfl ?_
  | refine k_int take_self ?_ | refine k_bl take_self ?_ | refine k_non take_self ?_ | refine k_str take_self ?_ | refine k_int dk_take ?_ | refine k_bl dk_take ?_ | refine k_non dk_take ?_
  | refine tn_nx ?_ | refine tn_ct ?_ | refine tn_bk ?_ | refine tn_rt ?_ | refine x_any rfl ?_ | refine f_lenM rfl ?_ | refine f_tupM rfl ?_
  | refine o_xis ?_ | refine o_xf ?_ | refine o_cntE ⟨rfl, ?_⟩ | refine x_ite ?_ | refine x_asg ?_ | refine x_ret ?_ | refine x_exp ?_ | refine x_call ?_ | refine x_calln ?_ | refine x_rai ?_ | refine x_rai1 ?_ | refine nxP ?_)

/-! ### draws, heights, rings of the laws k43 to k76 -/
def bDrawC : List C :=
   [.six (.var 0) (.cst (.int 1)) (.bin .add (.idx (.var 0) (.cst (.int 1))) (.cst (.int 1))),
    .asg (.nm 2) (.cst (.int 0)),
    .asg (.nm 3) (.neg (.cst (.int 1))),
    .ite (.v (.cmp .Gt (.f1 .len (.idx (.var 0) (.cst (.int 0)))) (.cst (.int 0)))) [.asg (.nm 3) (.bin .mod (.idx (.var 0) (.cst (.int 1))) (.f1 .len (.idx (.var 0) (.cst (.int 0))))),
    .asg (.nm 2) (.idx (.idx (.var 0) (.cst (.int 0))) (.var 3))] [],
    .ite (.v (.cmp .GtE (.var 2) (.bin .pow (.cst (.int 10)) (.cst (.int 18))))) [.six (.idx (.var 0) (.cst (.int 0))) (.var 3) (.bin .div (.var 2) (.var 1)),
    .ret (.bin .mod (.var 2) (.var 1))] [],
    .ret (.bin .mod (.bin .mod (.bin .pow (.bin .add (.bin .add (.bin .mod (.var 2) (.cst (.int 2147483587))) (.bin .mul (.cst (.int 7919)) (.idx (.var 0) (.cst (.int 1))))) (.cst (.int 1))) (.cst (.int 5))) (.cst (.int 2147483647))) (.var 1))]
def bHeightsC (iD : Nat) : List C :=
   [.asg (.tp [(.nm 3), (.nm 4)]) (.idx (.lst [(.lst [(.cst (.int 0)), (.cst (.int 4))]), (.lst [(.neg (.cst (.int 3))), (.cst (.int 9))]), (.lst [(.bin .sub (.bin .pow (.cst (.int 10)) (.cst (.int 9))) (.cst (.int 12))), (.cst (.int 13))]), (.lst [(.neg (.bin .pow (.cst (.int 10)) (.cst (.int 9)))), (.cst (.int 7))]), (.lst [(.neg (.cst (.int 50))), (.cst (.int 101))])]) (.var 2)),
    .asg (.nm 5) (.mk (.comp (.bin .add (.var 3) (.call iD [(.var 0), (.var 4)])) (.nm 6) (.r1 (.var 1)) none [("_law_k", 6)])),
    .ite (.v (.cmp .Eq (.call iD [(.var 0), (.cst (.int 4))]) (.cst (.int 0)))) [.six (.var 5) (.call iD [(.var 0), (.var 1)]) (.idx (.lst [(.neg (.bin .pow (.cst (.int 10)) (.cst (.int 9)))), (.bin .pow (.cst (.int 10)) (.cst (.int 9)))]) (.call iD [(.var 0), (.cst (.int 2))]))] [],
    .ret (.var 5)]
def bRingC (iD iH : Nat) : List C :=
   [.asg (.nm 2) (.calln iH [(.var 0), (.bin .add (.cst (.int 1)) (.call iD [(.var 0), (.var 1)])), (.call iD [(.var 0), (.cst (.int 5))])]),
    .ite (.v (.cmp .Eq (.call iD [(.var 0), (.cst (.int 3))]) (.cst (.int 0)))) [.forr (.nm 3) (.r2 (.cst (.int 1)) (.f1 .len (.var 2))) [.ite (.v (.cmp .Eq (.call iD [(.var 0), (.cst (.int 3))]) (.cst (.int 0)))) [.six (.var 2) (.var 3) (.idx (.var 2) (.bin .sub (.var 3) (.cst (.int 1))))] []]] [],
    .ret (.f1 .tuple (.var 2))]
theorem drawC {fns : List Fn} {iD fuel k : Nat} {c : List Int} {n lim : Int} {r : S} {Φ : D → S → Prop} (ef : IsF fns iD 2 4 bDrawC) (hl : 0 < lim) (hl2 : lim < 2 ^ 200) (hn : 0 ≤ n) (hn2 : n < 2 ^ 39)
   (h : ∀ d c', c'.length = c.length → 0 ≤ d → d < lim → Φ (.int d) (dk c' (n + 1) r)) : OFn (evF fns fuel (k + 1) iD [.hnd 1, .int lim] (dk c n r)) Φ := by
  have mid : ∀ (m ix : Int), (10 ^ 18 ≤ m → 0 ≤ ix ∧ ix < c.length) → OCs ⟨evF fns fuel k, fuel⟩ (bDrawC.drop 4) [some (.hnd 1), some (.int lim), some (.int m), some (.int ix)] (dk c (n + 1) r) (RetP Φ) := by
    intro m ix hix
    repeat eq_refl
    refine ⟨fun hc => ?_, fun hc => ?_⟩
    · have hx := hix (of_decide_eq_true hc)
      repeat eq_refl
      refine b_div ⟨hl, hl2⟩ ?_
      repeat eq_refl
      refine o_sixM rfl (ixN_nat hx.1 (by simpa using hx.2)) rfl ?_
      repeat eq_refl
      refine b_mod hl ?_
      repeat eq_refl
      have := h (m % lim) (c.set ix.toNat (m / lim)) (by simp) (Int.emod_nonneg _ (by omega)) (Int.emod_lt_of_pos _ hl)
      rw [dk, List.map_set] at this
      exact this
    · repeat eq_refl
      refine b_pow (i := (m % 2147483587 + 7919 * (n + 1) + 1)) (j := 5) ⟨by decide, by decide, ?_⟩ ?_
      · have h1 := Int.emod_nonneg m (show (2147483587 : Int) ≠ 0 by decide)
        have h2 := Int.emod_lt_of_pos m (show (0 : Int) < 2147483587 by decide)
        omega
      repeat eq_refl
      refine b_mod hl ?_
      repeat eq_refl
      exact h _ c rfl (Int.emod_nonneg _ (by omega)) (Int.emod_lt_of_pos _ hl)
  refine o_isF (ρ0 := [some (.hnd 1), some (.int lim), none, none]) ef rfl rfl ?_
  repeat eq_refl
  refine o_sixR (s' := dk c (n + 1) r) rfl ?_
  repeat eq_refl
  refine ⟨fun hc => ?_, fun hc => ?_⟩
  · have hc : 0 < ((c.map D.int).length : Int) := of_decide_eq_true hc
    have hm := Int.emod_nonneg (n + 1) (show ((c.map D.int).length : Int) ≠ 0 by omega)
    have hm2 := Int.emod_lt_of_pos (n + 1) hc
    repeat eq_refl
    refine b_mod hc ?_
    repeat eq_refl
    obtain ⟨a, ha, _⟩ := atI_some (xs := c) (k := (n + 1) % ((c.map D.int).length : Int)) (by omega) (by simpa using hm2)
    refine x_ml rfl (by rw [atI_map, ha]; rfl) ?_
    repeat (first | exact mid a _ fun _ => ⟨hm, by simpa using hm2⟩ | eq_refl)
  · repeat (first | exact mid 0 (-1) fun z => absurd z (by decide) | eq_refl)
theorem heightsC {fns : List Fn} {iD iH fuel k : Nat} {c : List Int} {n count way : Int} {r : S} {Φ : D → S → Prop} (ed : IsF fns iD 2 4 bDrawC) (ef : IsF fns iH 3 7 (bHeightsC iD)) (hm : 1 ≤ count) (hm2 : count ≤ 24) (hw : 0 ≤ way) (hw2 : way < 5) (hn : 0 ≤ n) (hn2 : n < 2 ^ 38)
   (h : ∀ xs c' n', (xs.length : Int) = count → Hts xs → n ≤ n' → n' ≤ n + 40 → Φ (.hnd (r.length + 2)) (dk c' n' (r ++ [.ml (dI xs)]))) : OFn (evF fns fuel (k + 2) iH [.hnd 1, .int count, .int way] (dk c n r)) Φ := by
  refine o_isF (ρ0 := [some (.hnd 1), some (.int count), some (.int way), none, none, none, none]) ef rfl rfl ?_
  repeat eq_refl
  have menu : ∃ a b : Int, atI [D.lst [D.int 0, D.int 4], D.lst [D.int (-3), D.int 9], D.lst [D.int (10 ^ Int.toNat 9 - 12), D.int 13], D.lst [D.int (-10 ^ Int.toNat 9), D.int 7], D.lst [D.int (-50), D.int 101]] way = some (.lst [.int a, .int b]) ∧ 1 ≤ b ∧ b ≤ 200 ∧ -(10 ^ 9) ≤ a ∧ a + b - 1 ≤ 10 ^ 9 := by
    have : way = 0 ∨ way = 1 ∨ way = 2 ∨ way = 3 ∨ way = 4 := by omega
    rcases this with rfl | rfl | rfl | rfl | rfl
    all_goals exact ⟨_, _, rfl, by decide, by decide, by decide, by decide⟩
  obtain ⟨a, b, hab, hb, hb2, ha, ha2⟩ := menu
  refine x_lst hab ?_
  repeat eq_refl
  refine ⟨by unfold CAP; omega, ?_⟩
  refine o_clI (fun j ys s => ∃ zs c', ys = dI zs ∧ zs.length = j ∧ Hts zs ∧ s = dk c' (n + j) r) ⟨[], c, rfl, rfl, fun _ m => (nomatch m), by rw [show n + ((0 : Nat) : Int) = n by omega]⟩ (fun j x ys s ex ⟨zs, c', e1, e2, e3, e4⟩ => ?_) (fun zs s ⟨xs, c', e1, e2, e3, e4⟩ => ?_)
  · subst e1 e4
    have hj : j < (rangeD 0 count).length := (List.getElem?_eq_some_iff.mp ex).1
    have hl3 : (rangeD 0 count).length = count.toNat := by simp [rangeD]
    repeat eq_refl
    refine drawC ed (by omega) (by omega) (by omega) (by omega) fun v c3 _ hv hv2 => ?_
    repeat eq_refl
    refine ⟨zs ++ [a + v], c3, by simp [consO], by simp [e2], e3.app (by omega), ?_⟩
    congr 1
    omega
  · have hl3 : (rangeD 0 count).length = count.toNat := by simp [rangeD]
    subst e1 e4
    rw [hl3] at e2 ⊢
    repeat eq_refl
    refine drawC ed (by decide) (by decide) (by omega) (by omega) fun q c3 _ hq hq2 => ?_
    refine k_int dk_take ?_
    repeat eq_refl
    refine ⟨fun hc => ?_, fun hc => ?_⟩
    · repeat eq_refl
      refine drawC ed (by decide) (by decide) (by omega) (by omega) fun u c4 _ hu hu2 => ?_
      refine k_int dk_take ?_
      repeat eq_refl
      have two : ∃ z : Int, atI [D.int (-10 ^ Int.toNat 9), D.int (10 ^ Int.toNat 9)] u = some (.int z) ∧ -(10 ^ 9) ≤ z ∧ z ≤ 10 ^ 9 := by
        have : u = 0 ∨ u = 1 := by omega
        rcases this with rfl | rfl
        all_goals exact ⟨_, rfl, by decide, by decide⟩
      obtain ⟨z, hz, hz1, hz2⟩ := two
      refine x_lst hz ?_
      repeat eq_refl
      refine drawC ed (by omega) (by omega) (by omega) (by omega) fun p c5 _ hp hp2 => ?_
      refine k_int dk_take ?_
      repeat eq_refl
      refine o_sixM dk_new (ixN_nat (by omega) (by rw [List.length_map]; omega)) rfl ?_
      erw [dk_set]
      repeat eq_refl
      have := h (xs.set p.toNat z) c5 _ (by simp; omega) (e3.set ⟨hz1, hz2⟩) (show n ≤ n + (count.toNat : Nat) + 1 + 1 + 1 by omega) (by omega)
      rw [dI_set] at this
      exact this
    · repeat eq_refl
      exact h xs c3 _ (by omega) e3 (by omega) (by omega)
theorem ringC {fns : List Fn} {iD iH iR fuel k : Nat} {c : List Int} {n most : Int} {r : S} {Φ : D → S → Prop} (ed : IsF fns iD 2 4 bDrawC) (eh : IsF fns iH 3 7 (bHeightsC iD)) (ef : IsF fns iR 2 4 (bRingC iD iH)) (hm : 1 ≤ most) (hm2 : most ≤ 24) (hn : 0 ≤ n) (hn2 : n < 2 ^ 37)
   (h : ∀ xs c' n' t, 1 ≤ xs.length → xs.length ≤ most → Hts xs → n ≤ n' → n' ≤ n + 100 → Φ (.tup (dI xs)) (dk c' n' (r ++ t))) : OFn (evF fns fuel (k + 3) iR [.hnd 1, .int most] (dk c n r)) Φ := by
  refine o_isF (ρ0 := [some (.hnd 1), some (.int most), none, none]) ef rfl rfl ?_
  repeat eq_refl
  refine drawC ed (by omega) (by omega) (by omega) (by omega) fun l c1 _ hl hl2 => ?_
  refine k_int dk_take ?_
  repeat eq_refl
  refine drawC ed (by decide) (by decide) (by omega) (by omega) fun wy c2 _ hw hw2 => ?_
  refine k_int dk_take ?_
  repeat eq_refl
  refine heightsC ed eh (by omega) (by omega) hw hw2 (by omega) (by omega) fun xs c3 n3 hx1 hx2 hn3 hn4 => ?_
  repeat eq_refl
  refine drawC ed (by decide) (by decide) (by omega) (by omega) fun q c4 _ hq hq2 => ?_
  refine k_int dk_take ?_
  repeat eq_refl
  refine ⟨fun hc => ?_, fun hc => ?_⟩
  · repeat eq_refl
    refine f_lenM dk_new ?_
    repeat eq_refl
    refine ⟨by unfold CAP; simp; omega, ?_⟩
    refine o_forR (fun j ρ s => ∃ zs c' m x3, zs.length = xs.length ∧ Hts zs ∧ n ≤ m ∧ m ≤ n + 50 + j ∧ s = dk c' m (r ++ [.ml (dI zs)]) ∧ ρ = [some (.hnd 1), some (.int most), some (.hnd (r.length + 2)), x3]) (by simp; omega) ⟨xs, _, _, _, rfl, hx2, ?_, ?_, rfl, rfl⟩ (fun j ρ s hj hj2 ⟨zs, c', m, x7, f1, f2, f3, f4, f5, f6⟩ => ?_) (fun ρ s ⟨zs, c', m, x7, f1, f2, f3, f4, f5, f6⟩ => ?_)
    · omega
    · omega
    · simp only [List.length_map] at hj2
      subst f5 f6
      repeat eq_refl
      refine drawC ed (by decide) (by decide) (by omega) (by omega) fun u c5 _ hu hu2 => ?_
      refine k_int dk_take ?_
      repeat eq_refl
      refine ⟨fun hc => ?_, fun hc => ?_⟩
      · repeat eq_refl
        obtain ⟨y, hy, my⟩ := atI_some (xs := zs) (k := j - 1) (by omega) (by omega)
        refine x_ml dk_new (by rw [atI_map, hy]; rfl) ?_
        repeat eq_refl
        refine o_sixM dk_new (ixN_nat (by omega) (by rw [List.length_map]; omega)) rfl ?_
        rw [dk_set]
        repeat eq_refl
        exact ⟨zs.set j.toNat y, c5, m + 1, _, by simp [f1], f2.set (f2 y my), by omega, by omega, by rw [dI_set], rfl⟩
      · repeat eq_refl
        exact ⟨zs, c5, m + 1, _, f1, f2, by omega, by omega, rfl, rfl⟩
    · subst f5 f6
      simp only [List.length_map] at f4
      repeat eq_refl
      refine f_tupM dk_new ?_
      repeat eq_refl
      exact h zs c' m _ (by omega) (by omega) f2 f3 (by omega)
  · repeat eq_refl
    refine f_tupM dk_new ?_
    repeat eq_refl
    exact h xs c4 _ _ (by omega) (by omega) hx2 (by omega) (by omega)
/-! ### ranges as rings -/
def upto (n : Nat) : List Int := (List.range n).map Int.ofNat
theorem upto_len (n : Nat) : (upto n).length = n := by simp [upto]
theorem range_upto (n : Nat) : rangeD 0 (n : Int) = dI (upto n) := by
  rw [range0, dI, upto, List.map_map]
  rfl
theorem upto_sm {n : Nat} (h : n ≤ 1000) : Sm64 (upto n) := fun x m => by
  obtain ⟨i, mi, rfl⟩ := List.mem_map.mp m
  have := List.mem_range.mp mi
  show (Int.ofNat i).natAbs < 2 ^ 64
  simp
  omega

end
section
local macro_rules | `(tactic| eq_refl) => `(tactic| first
  | refine o_cons ?_ | refine s_nx ?_ | refine o_asg ?_ | refine bd rfl ?_ | refine o_var rfl ?_ | refine o_int ?_ | refine o_bin ?_ | refine o_idx ?_ | refine o_cmp ?_
  | refine o_ite ?_ | refine o_tv ?_ | refine t_bl ?_ | refine o_ret ?_ | refine s_rt ?_ | refine r_rt ?_ | refine o_call ?_ | refine o_es ?_ | refine o_es0 ?_
  | refine o_nil ?_ | refine s_bk ?_ | refine s_ct ?_ | refine r_nx ?_
  | refine o_par ⟨Nat.le_of_ble_eq_true rfl, Nat.le_of_ble_eq_true rfl⟩ ?_ | refine o_par3 ⟨Nat.le_of_ble_eq_true rfl, Nat.le_of_ble_eq_true rfl, Nat.le_of_ble_eq_true rfl⟩ ?_ | refine o_augM rfl (Nat.le_of_ble_eq_true rfl) ?_ | refine o_six ?_ | refine o_exp ?_ | refine o_for ?_ | refine o_brk ?_ | refine o_cnt ?_ | refine o_pass ?_ | refine o_whl ?_
  | refine o_bl ?_ | refine o_str ?_ | refine o_non ?_ | refine o_gli ?_ | refine o_gls ?_ | refine o_neg ?_ | refine o_chn ?_ | refine o_nt ?_
  | refine o_an ?_ | refine o_an1 ?_ | refine o_orr ?_ | refine o_or1 ?_ | refine o_ife ?_ | refine o_tup ?_ | refine o_lst ?_ | refine o_dic0 ?_ | refine o_dic1 ?_ | refine o_slc ?_ | refine o_f1 ?_ | refine o_f2 ?_ | refine o_isi ?_
  | refine o_rg1 ?_ | refine o_rg2 ?_ | refine o_sst ?_ | refine o_lns ?_ | refine o_srr ?_ | refine o_srkR ?_ | refine o_dsub ?_ | refine o_srkP ?_ | refine o_rv0 ?_ | refine o_mmx ?_ | refine o_app ?_ | refine o_mk ?_ | refine o_comp ?_ | refine o_calln ?_
  | refine o_iex ?_ | refine o_ir1 ?_ | refine o_ir2 ?_ | refine o_ien ?_ | refine o_ien1 ?_ | refine o_izp ?_ | refine o_sqT ?_ | refine o_sqL ?_ | refine o_zpT ?_ | refine o_zpL ?_
  | refine o_o0 ?_ | refine o_o1 ?_ | refine o_tnt ?_ | refine o_tan ?_ | refine o_tan1 ?_ | refine o_tor ?_ | refine o_tor1 ?_ | refine o_ot0 ?_ | refine o_ot1 ?_
  | refine o_cF rfl ?_ | refine o_body rfl ?_ | refine isI ?_ | refine capL (by decide) ?_ | refine isB ?_ | refine isL ?_ | refine isT ?_ | refine splT ?_ | refine splF ?_
  | refine b_add ?_ | refine b_sub ?_ | refine b_mod (by decide) ?_ | refine b_div (by decide) ?_ | refine b_pow (by decide) ?_ | refine b_mulA (by decide) ?_ | refine b_mulB (by decide) ?_
  | refine c_lt ?_ | refine c_le ?_ | refine c_gt ?_ | refine c_ge ?_ | refine c_eq ?_ | refine c_ne ?_ | refine c_eqBs ?_ | refine c_neBs ?_ | refine c_eqB ?_ | refine c_neB ?_ | refine c_eqSs ?_ | refine c_neSs ?_ | refine c_eqS ?_ | refine c_neS ?_ | refine c_isN rfl ?_ | refine c_notN rfl ?_
  | refine t_int ?_ | refine t_tup ?_ | refine t_lst ?_ | refine t_non ?_
  | refine f_lenT ?_ | refine f_lenL ?_ | refine f_tupL ?_ | refine f_tupT ?_ | refine f_lstT ?_ | refine f_lstL ?_ | refine f_abs ?_ | refine f_sum ?_ | refine f_all ?_ | refine f_any ?_ | refine f_intI ?_ | refine f_intB ?_
  | refine l_tup ?_ | refine l_lst ?_ | refine l_scr ?_ | refine got rfl ?_
  | refine k_int take_self ?_ | refine k_bl take_self ?_ | refine k_non take_self ?_ | refine k_str take_self ?_ | refine k_int dk_take ?_ | refine k_bl dk_take ?_ | refine k_non dk_take ?_
  | refine tn_nx ?_ | refine tn_ct ?_ | refine tn_bk ?_ | refine tn_rt ?_ | refine x_any rfl ?_ | refine f_lenM rfl ?_ | refine f_tupM rfl ?_
  | refine o_xis ?_ | refine o_xf ?_ | refine o_cntE ⟨rfl, ?_⟩ | refine x_ite ?_ | refine x_asg ?_ | refine x_ret ?_ | refine x_exp ?_ | refine x_call ?_ | refine x_calln ?_ | refine x_rai ?_ | refine x_rai1 ?_ | refine nxP ?_)

/-! ### values -/
structure Vd (w m : Nat) (d : D) : Prop where
  p : d.pur = true
  s : d.shw = true
  w : d.wt ≤ w
  d : d.dep ≤ m
structure Vs (w m : Nat) (xs : List D) : Prop where
  p : purs xs = true
  s : shws xs = true
  w : wts xs ≤ w
  d : deps xs ≤ m
theorem purs_app : ∀ (xs ys : List D), purs (xs ++ ys) = (purs xs && purs ys)
  | [], ys => (Bool.true_and _).symm
  | x :: xs, ys => by
    show (x.pur && purs (xs ++ ys)) = ((x.pur && purs xs) && purs ys)
    rw [purs_app xs ys, Bool.and_assoc]
theorem shws_app : ∀ (xs ys : List D), shws (xs ++ ys) = (shws xs && shws ys)
  | [], ys => (Bool.true_and _).symm
  | x :: xs, ys => by
    show (x.shw && shws (xs ++ ys)) = ((x.shw && shws xs) && shws ys)
    rw [shws_app xs ys, Bool.and_assoc]
theorem wts_app : ∀ (xs ys : List D), wts (xs ++ ys) = wts xs + wts ys
  | [], ys => (Nat.zero_add _).symm
  | x :: xs, ys => by
    show x.wt + 2 + wts (xs ++ ys) = x.wt + 2 + wts xs + wts ys
    rw [wts_app xs ys]
    omega
theorem deps_app : ∀ (xs ys : List D), deps (xs ++ ys) = max (deps xs) (deps ys)
  | [], ys => (Nat.zero_max _).symm
  | x :: xs, ys => by
    show max x.dep (deps (xs ++ ys)) = max (max x.dep (deps xs)) (deps ys)
    rw [deps_app xs ys]
    omega
theorem Vs.app {a b m : Nat} {xs ys : List D} (h : Vs a m xs) (k : Vs b m ys) : Vs (a + b) m (xs ++ ys) :=
  ⟨by rw [purs_app, h.p, k.p]; rfl, by rw [shws_app, h.s, k.s]; rfl, by rw [wts_app]; have := h.w; have := k.w; omega, by rw [deps_app]; have := h.d; have := k.d; omega⟩
theorem Vs.mono {a b m n : Nat} {xs : List D} (h : Vs a m xs) (k : a ≤ b) (l : m ≤ n) : Vs b n xs := ⟨h.p, h.s, Nat.le_trans h.w k, Nat.le_trans h.d l⟩
theorem Vs.sub {a m : Nat} {xs ys : List D} (h : Vs a m (xs ++ ys)) : Vs a m xs ∧ Vs a m ys := by
  obtain ⟨h1, h2, h3, h4⟩ := h
  rw [purs_app, Bool.and_eq_true] at h1
  rw [shws_app, Bool.and_eq_true] at h2
  rw [wts_app] at h3
  rw [deps_app] at h4
  exact ⟨⟨h1.1, h2.1, by omega, by omega⟩, ⟨h1.2, h2.2, by omega, by omega⟩⟩
theorem Vs.take {a m n : Nat} {xs : List D} (h : Vs a m xs) : Vs a m (xs.take n) := (Vs.sub (xs := xs.take n) (ys := xs.drop n) (by rw [List.take_append_drop]; exact h)).1
theorem Vs.drop {a m n : Nat} {xs : List D} (h : Vs a m xs) : Vs a m (xs.drop n) := (Vs.sub (xs := xs.take n) (ys := xs.drop n) (by rw [List.take_append_drop]; exact h)).2
theorem Vs.rep {a m : Nat} {xs : List D} (h : Vs a m xs) : ∀ n, Vs (n * a) m (List.replicate n xs).flatten
  | 0 => ⟨rfl, rfl, Nat.zero_le _, Nat.zero_le _⟩
  | n + 1 => by
    rw [List.replicate_succ, List.flatten_cons]
    exact (h.app (Vs.rep h n)).mono (by rw [Nat.succ_mul]; omega) (Nat.le_refl _)
theorem Vs.one {w m : Nat} {d : D} (h : Vd w m d) : Vs (w + 2) m [d] := ⟨by show (d.pur && true) = true; rw [h.p]; rfl, by show (d.shw && true) = true; rw [h.s]; rfl, by show d.wt + 2 + 0 ≤ _; have := h.w; omega, by show max d.dep 0 ≤ m; have := h.d; omega⟩
theorem Vs.tup {a m : Nat} {xs : List D} (h : Vs a m xs) : Vd (a + 3) (m + 1) (.tup xs) := ⟨h.p, h.s, by show wts xs + 3 ≤ _; have := h.w; omega, by show deps xs + 1 ≤ _; have := h.d; omega⟩
theorem Vs.lst {a m : Nat} {xs : List D} (h : Vs a m xs) : Vd (a + 3) (m + 1) (.lst xs) := ⟨h.p, h.s, by show wts xs + 3 ≤ _; have := h.w; omega, by show deps xs + 1 ≤ _; have := h.d; omega⟩
theorem Vd.vs {a m : Nat} {xs : List D} (h : Vd a (m + 1) (.tup xs)) : Vs a m xs := ⟨h.p, h.s, by have : wts xs + 3 ≤ a := h.w; omega, by have : deps xs + 1 ≤ m + 1 := h.d; omega⟩
theorem Vs.ints {xs : List Int} (h : Sm64 xs) : Vs (1004 * xs.length) 0 (dI xs) := ⟨purs_dI xs, shws_dI xs h, Nat.le_of_eq (wts_dI xs), Nat.le_of_eq (deps_dI xs)⟩
theorem Vd.mono {a b m n : Nat} {d : D} (h : Vd a m d) (k : a ≤ b) (l : m ≤ n) : Vd b n d := ⟨h.p, h.s, Nat.le_trans h.w k, Nat.le_trans h.d l⟩
def vdB (w m : Nat) (d : D) : Bool := d.pur && (d.shw && (decide (d.wt ≤ w) && decide (d.dep ≤ m)))
end
section
local macro_rules | `(tactic| eq_refl) => `(tactic| first
  | refine o_cons ?_ | refine s_nx ?_ | refine o_asg ?_ | refine bd rfl ?_ | refine o_var rfl ?_ | refine o_int ?_ | refine o_bin ?_ | refine o_idx ?_ | refine o_cmp ?_
  | refine o_ite ?_ | refine o_tv ?_ | refine t_bl ?_ | refine o_ret ?_ | refine s_rt ?_ | refine r_rt ?_ | refine o_call ?_ | refine o_es ?_ | refine o_es0 ?_
  | refine o_nil ?_ | refine s_bk ?_ | refine s_ct ?_ | refine r_nx ?_
  | refine o_par ⟨Nat.le_of_ble_eq_true rfl, Nat.le_of_ble_eq_true rfl⟩ ?_ | refine o_par3 ⟨Nat.le_of_ble_eq_true rfl, Nat.le_of_ble_eq_true rfl, Nat.le_of_ble_eq_true rfl⟩ ?_ | refine o_augM rfl (Nat.le_of_ble_eq_true rfl) ?_ | refine o_six ?_ | refine o_exp ?_ | refine o_for ?_ | refine o_brk ?_ | refine o_cnt ?_ | refine o_pass ?_ | refine o_whl ?_
  | refine o_bl ?_ | refine o_str ?_ | refine o_non ?_ | refine o_gli ?_ | refine o_gls ?_ | refine o_neg ?_ | refine o_chn ?_ | refine o_nt ?_
  | refine o_an ?_ | refine o_an1 ?_ | refine o_orr ?_ | refine o_or1 ?_ | refine o_ife ?_ | refine o_tup ?_ | refine o_lst ?_ | refine o_dic0 ?_ | refine o_dic1 ?_ | refine o_slc ?_ | refine o_f1 ?_ | refine o_f2 ?_ | refine o_isi ?_
  | refine o_rg1 ?_ | refine o_rg2 ?_ | refine o_sst ?_ | refine o_lns ?_ | refine o_srr ?_ | refine o_srkR ?_ | refine o_dsub ?_ | refine o_srkP ?_ | refine o_rv0 ?_ | refine o_mmx ?_ | refine o_app ?_ | refine o_mk ?_ | refine o_comp ?_ | refine o_calln ?_
  | refine o_iex ?_ | refine o_ir1 ?_ | refine o_ir2 ?_ | refine o_ien ?_ | refine o_ien1 ?_ | refine o_izp ?_ | refine o_sqT ?_ | refine o_sqL ?_ | refine o_zpT ?_ | refine o_zpL ?_
  | refine o_o0 ?_ | refine o_o1 ?_ | refine o_tnt ?_ | refine o_tan ?_ | refine o_tan1 ?_ | refine o_tor ?_ | refine o_tor1 ?_ | refine o_ot0 ?_ | refine o_ot1 ?_
  | refine o_cF rfl ?_ | refine o_body rfl ?_ | refine isI ?_ | refine capL (by decide) ?_ | refine isB ?_ | refine isL ?_ | refine isT ?_ | refine splT ?_ | refine splF ?_
  | refine b_add ?_ | refine b_sub ?_ | refine b_mod (by decide) ?_ | refine b_div (by decide) ?_ | refine b_pow (by decide) ?_ | refine b_mulA (by decide) ?_ | refine b_mulB (by decide) ?_
  | refine c_lt ?_ | refine c_le ?_ | refine c_gt ?_ | refine c_ge ?_ | refine c_eq ?_ | refine c_ne ?_ | refine c_eqBs ?_ | refine c_neBs ?_ | refine c_eqB ?_ | refine c_neB ?_ | refine c_eqSs ?_ | refine c_neSs ?_ | refine c_eqS ?_ | refine c_neS ?_ | refine c_isN rfl ?_ | refine c_notN rfl ?_
  | refine t_int ?_ | refine t_tup ?_ | refine t_lst ?_ | refine t_non ?_
  | refine f_lenT ?_ | refine f_lenL ?_ | refine f_tupL ?_ | refine f_tupT ?_ | refine f_lstT ?_ | refine f_lstL ?_ | refine f_abs ?_ | refine f_sum ?_ | refine f_all ?_ | refine f_any ?_ | refine f_intI ?_ | refine f_intB ?_
  | refine l_tup ?_ | refine l_lst ?_ | refine l_scr ?_ | refine got rfl ?_
  | refine k_int take_self ?_ | refine k_bl take_self ?_ | refine k_non take_self ?_ | refine k_str take_self ?_ | refine k_int dk_take ?_ | refine k_bl dk_take ?_ | refine k_non dk_take ?_
  | refine tn_nx ?_ | refine tn_ct ?_ | refine tn_bk ?_ | refine tn_rt ?_ | refine x_any rfl ?_ | refine f_lenM rfl ?_ | refine f_tupM rfl ?_
  | refine o_xis ?_ | refine o_xf ?_ | refine o_cntE ⟨rfl, ?_⟩ | refine x_ite ?_ | refine x_asg ?_ | refine x_ret ?_ | refine x_exp ?_ | refine x_call ?_ | refine x_calln ?_ | refine x_rai ?_ | refine x_rai1 ?_ | refine nxP ?_)

/-! ### passages: a walk with a mark -/
def mk' (a b : Int) (p : Bool) (x : Int) : Bool := if x ≤ a then false else if b ≤ x then true else p
def co' (a b : Int) (p : Bool) (x : Int) : Nat := if x ≤ a then 0 else if b ≤ x then (if p then 0 else 1) else 0
def run (a b : Int) : Bool → List Int → Nat
  | _, [] => 0
  | p, x :: xs => co' a b p x + run a b (mk' a b p x) xs
def fin' (a b : Int) : Bool → List Int → Bool
  | p, [] => p
  | p, x :: xs => fin' a b (mk' a b p x) xs
def pas (a b : Int) (xs : List Int) : Nat := run a b (fin' a b false xs) xs
section
variable {a b : Int}
theorem run_app : ∀ (X Y : List Int) (p : Bool), run a b p (X ++ Y) = run a b p X + run a b (fin' a b p X) Y
  | [], Y, p => (Nat.zero_add _).symm
  | x :: X, Y, p => by
    show co' a b p x + run a b (mk' a b p x) (X ++ Y) = co' a b p x + run a b (mk' a b p x) X + run a b (fin' a b (mk' a b p x) X) Y
    rw [run_app X Y]
    omega
theorem fin_app : ∀ (X Y : List Int) (p : Bool), fin' a b p (X ++ Y) = fin' a b (fin' a b p X) Y
  | [], Y, p => rfl
  | x :: X, Y, p => fin_app X Y _
/-- decided, or not at all -/
theorem fin_or : ∀ X : List Int, (∃ e, ∀ p, fin' a b p X = e) ∨ (∀ p, fin' a b p X = p ∧ run a b p X = 0)
  | [] => .inr fun p => ⟨rfl, rfl⟩
  | x :: X => by
    by_cases h1 : x ≤ a
    · exact .inl ⟨fin' a b false X, fun p => by show fin' a b (mk' a b p x) X = _; rw [show mk' a b p x = false from if_pos h1]⟩
    · by_cases h2 : b ≤ x
      · exact .inl ⟨fin' a b true X, fun p => by show fin' a b (mk' a b p x) X = _; rw [show mk' a b p x = true by unfold mk'; rw [if_neg h1, if_pos h2]]⟩
      · have e : ∀ p, mk' a b p x = p := fun p => by unfold mk'; rw [if_neg h1, if_neg h2]
        have e2 : ∀ p, co' a b p x = 0 := fun p => by unfold co'; rw [if_neg h1, if_neg h2]
        rcases fin_or X with ⟨y, h⟩ | h
        · exact .inl ⟨y, fun p => h _⟩
        · refine .inr fun p => ⟨?_, ?_⟩
          · show fin' a b (mk' a b p x) X = p
            rw [e]; exact (h p).1
          · show co' a b p x + run a b (mk' a b p x) X = 0
            rw [e, e2, (h p).2]
theorem pas_eq (X : List Int) (p : Bool) : pas a b X = run a b (fin' a b p X) X := by
  unfold pas
  rcases fin_or (a := a) (b := b) X with ⟨e, h⟩ | h
  · rw [h, h]
  · rw [(h _).2, (h _).2]
theorem pas_rot (X Y : List Int) : pas a b (X ++ Y) = pas a b (Y ++ X) := by
  unfold pas
  rw [run_app, run_app, fin_app, fin_app]
  rcases fin_or (a := a) (b := b) X with ⟨e, h⟩ | h <;> rcases fin_or (a := a) (b := b) Y with ⟨e2, h2⟩ | h2
  · simp only [h, h2]
    omega
  · simp only [h, (h2 _).1, (h2 _).2]
    omega
  · simp only [h2, (h _).1, (h _).2]
    omega
  · simp only [(h _).1, (h _).2, (h2 _).1, (h2 _).2]
/-- a pair of the least difference is taken out -/
theorem pas_rm (hab : a < b) {u v p q : Int} {B C : List Int} (hp : q :: B = C ++ [p]) (hc : (u < v ∧ v ≤ p ∧ q ≤ u) ∨ (v < u ∧ p ≤ v ∧ u ≤ q)) :
    pas a b (u :: v :: q :: B) = pas a b (q :: B) + (if min u v ≤ a ∧ b ≤ max u v then 1 else 0) := by
  rw [pas_eq (q :: B) (mk' a b (mk' a b false u) v)]
  unfold pas
  obtain ⟨s0, hs⟩ : ∃ s0, fin' a b false (u :: v :: q :: B) = mk' a b s0 p := by
    show ∃ s0, fin' a b (mk' a b (mk' a b false u) v) (q :: B) = _
    rw [hp, fin_app]
    exact ⟨_, rfl⟩
  have hs2 : fin' a b (mk' a b (mk' a b false u) v) (q :: B) = mk' a b s0 p := hs
  rw [hs, hs2]
  have e1 : mk' a b (mk' a b (mk' a b (mk' a b s0 p) u) v) q = mk' a b (mk' a b s0 p) q := by
    unfold mk'
    repeat' split
    all_goals first | rfl | omega
  have e2 : co' a b (mk' a b s0 p) u + (co' a b (mk' a b (mk' a b s0 p) u) v + co' a b (mk' a b (mk' a b (mk' a b s0 p) u) v) q) = co' a b (mk' a b s0 p) q + (if min u v ≤ a ∧ b ≤ max u v then 1 else 0) := by
    unfold co' mk'
    repeat' split
    all_goals first | rfl | omega | (cases s0 <;> simp_all <;> omega)
  show co' a b _ u + (co' a b _ v + (co' a b _ q + run a b _ B)) = co' a b _ q + run a b _ B + _
  rw [e1]
  omega
theorem pas_two (hab : a < b) {u v : Int} (h : u ≠ v) : pas a b [u, v] = if min u v ≤ a ∧ b ≤ max u v then 1 else 0 := by
  unfold pas
  show co' a b (mk' a b (mk' a b false u) v) u + (co' a b (mk' a b (mk' a b (mk' a b false u) v) u) v + 0) = _
  unfold co' mk'
  repeat' split
  all_goals first | rfl | omega | simp_all
end
/-! ### zigzags -/
def zig : Bool → List Int → Bool → Prop
  | _, [], _ => False
  | u, [_], e => u = e
  | u, x :: y :: r, e => (if u then x < y else y < x) ∧ zig (!u) (y :: r) e
theorem zig_snoc : ∀ {u e : Bool} {l : List Int} {x y : Int}, zig u (l ++ [x]) e → (if e then x < y else y < x) → zig u (l ++ [x, y]) (!e)
  | u, e, [], x, y, h, c => by
    have h : u = e := h
    subst h
    exact ⟨c, rfl⟩
  | u, e, [z], x, y, h, c => ⟨h.1, zig_snoc (l := []) h.2 c⟩
  | u, e, z :: w :: l, x, y, h, c => ⟨h.1, zig_snoc (l := w :: l) h.2 c⟩
theorem zig_init : ∀ {u e : Bool} {l : List Int} {x y : Int}, zig u (l ++ [x, y]) e → zig u (l ++ [x]) (!e) ∧ (if !e then x < y else y < x)
  | u, e, [], x, y, h => by
    obtain ⟨h1, h2⟩ := h
    have h2 : (!u) = e := h2
    subst h2
    rw [Bool.not_not]
    exact ⟨rfl, h1⟩
  | u, e, [z], x, y, h => by
    obtain ⟨h1, h2⟩ := zig_init (l := []) h.2
    exact ⟨⟨h.1, h1⟩, h2⟩
  | u, e, z :: w :: l, x, y, h => by
    obtain ⟨h1, h2⟩ := zig_init (l := w :: l) h.2
    exact ⟨⟨h.1, h1⟩, h2⟩
/-- round and round -/
def CZ : List Int → Prop
  | [] => False
  | x :: Z => ∃ u, zig u (x :: Z ++ [x]) u
theorem CZ.two {x : Int} {Z : List Int} (h : CZ (x :: Z)) : ∃ y Z', Z = y :: Z' ∧ x ≠ y := by
  obtain ⟨u, h⟩ := h
  cases Z with
  | nil =>
    obtain ⟨h1, _⟩ := h
    exfalso
    revert h1
    split <;> omega
  | cons y Z' =>
    refine ⟨y, Z', rfl, ?_⟩
    obtain ⟨h1, _⟩ := h
    revert h1
    split <;> omega
theorem CZ.rot1 {x : Int} {Z : List Int} (h : CZ (x :: Z)) : CZ (Z ++ [x]) := by
  obtain ⟨y, Z', rfl, _⟩ := h.two
  obtain ⟨u, h1, h2⟩ := h
  refine ⟨!u, ?_⟩
  have := zig_snoc (l := y :: Z') (x := x) (y := y) h2 h1
  simpa using this
theorem CZ.rot : ∀ (X : List Int) {Y : List Int}, CZ (X ++ Y) → CZ (Y ++ X)
  | [], Y, h => by simpa using h
  | x :: X, Y, h => by
    have := CZ.rot X (Y := Y ++ [x]) (by simpa using h.rot1)
    simpa using this
/-- the pair of the least difference leaves a zigzag -/
theorem CZ.rm {u v p q : Int} {B C : List Int} (h : CZ (u :: v :: q :: B)) (hp : q :: B = C ++ [p]) (h1 : (u - v).natAbs ≤ (p - u).natAbs) (h2 : (u - v).natAbs ≤ (v - q).natAbs) :
    CZ (q :: B) ∧ ((u < v ∧ v ≤ p ∧ q ≤ u) ∨ (v < u ∧ p ≤ v ∧ u ≤ q)) := by
  obtain ⟨d, k1, k2, k3⟩ := h
  rw [Bool.not_not] at k3
  have e : (q :: B) ++ [u] = C ++ [p, u] := by rw [hp]; simp
  have k3 : zig d (C ++ [p, u]) d := by rw [← e]; exact k3
  obtain ⟨k4, k5⟩ := zig_init k3
  have hc : (u < v ∧ v ≤ p ∧ q ≤ u) ∨ (v < u ∧ p ≤ v ∧ u ≤ q) := by
    cases d with
    | true =>
      have k1 : u < v := k1
      have k2 : q < v := k2
      have k5 : u < p := k5
      left; omega
    | false =>
      have k1 : v < u := k1
      have k2 : v < q := k2
      have k5 : p < u := k5
      right; omega
  refine ⟨⟨d, ?_⟩, hc⟩
  have k6 : (if (!d) then p < q else q < p) := by
    cases d with
    | true =>
      have k1 : u < v := k1
      show q < p
      omega
    | false =>
      have k1 : v < u := k1
      show p < q
      omega
  have := zig_snoc k4 k6
  rw [Bool.not_not] at this
  have e2 : q :: B ++ [q] = C ++ [p, q] := by rw [hp]; simp
  rw [e2]
  exact this
/-! ### the movement of a closed walk -/
def mvl : Int → List Int → Int
  | _, [] => 0
  | l, x :: xs => ((x - l).natAbs : Int) + mvl x xs
def mv (xs : List Int) : Int := mvl ((xs.getLast?).getD 0) xs
theorem mvl_app : ∀ (X Y : List Int) (l : Int), mvl l (X ++ Y) = mvl l X + mvl ((X.getLast?).getD l) Y
  | [], Y, l => by simp [mvl]
  | x :: X, Y, l => by
    show _ + mvl x (X ++ Y) = _ + mvl x X + _
    rw [mvl_app X Y x]
    have : ((x :: X).getLast?).getD l = (X.getLast?).getD x := by
      cases X with
      | nil => rfl
      | cons y Y => rw [List.getLast?_cons_cons, List.getLast?_eq_some_getLast (show y :: Y ≠ [] by simp)]; rfl
    rw [this]
    omega
theorem last_snoc {l : List Int} {x : Int} : (l ++ [x]).getLast? = some x := by simp
theorem mv_rot (X Y : List Int) : mv (X ++ Y) = mv (Y ++ X) := by
  rcases List.eq_nil_or_concat X with rfl | ⟨X', x, rfl⟩
  · simp
  · rcases List.eq_nil_or_concat Y with rfl | ⟨Y', y, rfl⟩
    · simp
    · unfold mv
      have e1 : (X' ++ [x] ++ (Y' ++ [y])).getLast? = some y := by rw [← List.append_assoc]; exact last_snoc
      have e2 : (Y' ++ [y] ++ (X' ++ [x])).getLast? = some x := by rw [← List.append_assoc]; exact last_snoc
      rw [List.concat_eq_append, List.concat_eq_append, e1, e2, mvl_app (X' ++ [x]), mvl_app (Y' ++ [y]), last_snoc, last_snoc]
      simp only [Option.getD_some]
      omega
theorem mv_rm {u v p q : Int} {B C : List Int} (hp : q :: B = C ++ [p]) (hc : (u < v ∧ v ≤ p ∧ q ≤ u) ∨ (v < u ∧ p ≤ v ∧ u ≤ q)) : mv (u :: v :: q :: B) = mv (q :: B) + 2 * (max u v - min u v) := by
  have e2 : ((q :: B).getLast?).getD 0 = p := by rw [hp, last_snoc]; rfl
  have e1 : ((u :: v :: q :: B).getLast?).getD 0 = p := by
    rw [List.getLast?_cons_cons, List.getLast?_cons_cons]
    exact e2
  unfold mv
  rw [e1, e2]
  show ((u - p).natAbs : Int) + (((v - u).natAbs : Int) + (((q - v).natAbs : Int) + mvl q B)) = ((q - p).natAbs : Int) + mvl q B + _
  omega
end
section
local macro_rules | `(tactic| eq_refl) => `(tactic| first
  | refine o_cons ?_ | refine s_nx ?_ | refine o_asg ?_ | refine bd rfl ?_ | refine o_var rfl ?_ | refine o_int ?_ | refine o_bin ?_ | refine o_idx ?_ | refine o_cmp ?_
  | refine o_ite ?_ | refine o_tv ?_ | refine t_bl ?_ | refine o_ret ?_ | refine s_rt ?_ | refine r_rt ?_ | refine o_call ?_ | refine o_es ?_ | refine o_es0 ?_
  | refine o_nil ?_ | refine s_bk ?_ | refine s_ct ?_ | refine r_nx ?_
  | refine o_par ⟨Nat.le_of_ble_eq_true rfl, Nat.le_of_ble_eq_true rfl⟩ ?_ | refine o_par3 ⟨Nat.le_of_ble_eq_true rfl, Nat.le_of_ble_eq_true rfl, Nat.le_of_ble_eq_true rfl⟩ ?_ | refine o_augM rfl (Nat.le_of_ble_eq_true rfl) ?_ | refine o_six ?_ | refine o_exp ?_ | refine o_for ?_ | refine o_brk ?_ | refine o_cnt ?_ | refine o_pass ?_ | refine o_whl ?_
  | refine o_bl ?_ | refine o_str ?_ | refine o_non ?_ | refine o_gli ?_ | refine o_gls ?_ | refine o_neg ?_ | refine o_chn ?_ | refine o_nt ?_
  | refine o_an ?_ | refine o_an1 ?_ | refine o_orr ?_ | refine o_or1 ?_ | refine o_ife ?_ | refine o_tup ?_ | refine o_lst ?_ | refine o_dic0 ?_ | refine o_dic1 ?_ | refine o_slc ?_ | refine o_f1 ?_ | refine o_f2 ?_ | refine o_isi ?_
  | refine o_rg1 ?_ | refine o_rg2 ?_ | refine o_sst ?_ | refine o_lns ?_ | refine o_srr ?_ | refine o_srkR ?_ | refine o_dsub ?_ | refine o_srkP ?_ | refine o_rv0 ?_ | refine o_mmx ?_ | refine o_app ?_ | refine o_mk ?_ | refine o_comp ?_ | refine o_calln ?_
  | refine o_iex ?_ | refine o_ir1 ?_ | refine o_ir2 ?_ | refine o_ien ?_ | refine o_ien1 ?_ | refine o_izp ?_ | refine o_sqT ?_ | refine o_sqL ?_ | refine o_zpT ?_ | refine o_zpL ?_
  | refine o_o0 ?_ | refine o_o1 ?_ | refine o_tnt ?_ | refine o_tan ?_ | refine o_tan1 ?_ | refine o_tor ?_ | refine o_tor1 ?_ | refine o_ot0 ?_ | refine o_ot1 ?_
  | refine o_cF rfl ?_ | refine o_body rfl ?_ | refine isI ?_ | refine capL (by decide) ?_ | refine isB ?_ | refine isL ?_ | refine isT ?_ | refine splT ?_ | refine splF ?_
  | refine b_add ?_ | refine b_sub ?_ | refine b_mod (by decide) ?_ | refine b_div (by decide) ?_ | refine b_pow (by decide) ?_ | refine b_mulA (by decide) ?_ | refine b_mulB (by decide) ?_
  | refine c_lt ?_ | refine c_le ?_ | refine c_gt ?_ | refine c_ge ?_ | refine c_eq ?_ | refine c_ne ?_ | refine c_eqBs ?_ | refine c_neBs ?_ | refine c_eqB ?_ | refine c_neB ?_ | refine c_eqSs ?_ | refine c_neSs ?_ | refine c_eqS ?_ | refine c_neS ?_ | refine c_isN rfl ?_ | refine c_notN rfl ?_
  | refine t_int ?_ | refine t_tup ?_ | refine t_lst ?_ | refine t_non ?_
  | refine f_lenT ?_ | refine f_lenL ?_ | refine f_tupL ?_ | refine f_tupT ?_ | refine f_lstT ?_ | refine f_lstL ?_ | refine f_abs ?_ | refine f_sum ?_ | refine f_all ?_ | refine f_any ?_ | refine f_intI ?_ | refine f_intB ?_
  | refine l_tup ?_ | refine l_lst ?_ | refine l_scr ?_ | refine got rfl ?_
  | refine k_int take_self ?_ | refine k_bl take_self ?_ | refine k_non take_self ?_ | refine k_str take_self ?_ | refine k_int dk_take ?_ | refine k_bl dk_take ?_ | refine k_non dk_take ?_
  | refine tn_nx ?_ | refine tn_ct ?_ | refine tn_bk ?_ | refine tn_rt ?_ | refine x_any rfl ?_ | refine f_lenM rfl ?_ | refine f_tupM rfl ?_
  | refine o_xis ?_ | refine o_xf ?_ | refine o_cntE ⟨rfl, ?_⟩ | refine x_ite ?_ | refine x_asg ?_ | refine x_ret ?_ | refine x_exp ?_ | refine x_call ?_ | refine x_calln ?_ | refine x_rai ?_ | refine x_rai1 ?_ | refine nxP ?_)

/-! ### the turns of a walk -/
/-- the first other height -/
def nd (x : Int) (l : List Int) : Int := (l.find? fun y => !decide (y = x)).getD x
theorem nd_eq {x : Int} {l : List Int} : nd x (x :: l) = nd x l := by
  unfold nd
  rw [List.find?_cons]
  simp
theorem nd_ne {x y : Int} {l : List Int} (h : y ≠ x) : nd x (y :: l) = y := by
  unfold nd
  rw [List.find?_cons]
  simp [h]
def lst (l : Int) (r : List Int) : Int := (r.getLast?).getD l
theorem lst_cons {l x : Int} {r : List Int} : lst l (x :: r) = lst x r := by
  unfold lst
  cases r with
  | nil => rfl
  | cons y Y => rw [List.getLast?_cons_cons, List.getLast?_eq_some_getLast (show y :: Y ≠ [] by simp)]; rfl
theorem lst_snoc {l x : Int} {r : List Int} : lst l (r ++ [x]) = x := by
  unfold lst
  rw [last_snoc]
  rfl
/-- is the middle one a turn -/
def tnB (l x nx : Int) : Bool := !decide (l = x) && (decide (l < x) == decide (nx < x))
def tw (l : Int) : List Int → List Int → List Int
  | [], _ => []
  | x :: r, E => if tnB l x (nd x (r ++ E)) then x :: tw x r E else tw x r E
def sc (d : Bool) (l : Int) : List Int → List Int
  | [] => []
  | x :: r => if x = l then sc d l r else if decide (l < x) = d then sc d x r else l :: sc (!d) x r
theorem tw_sc {t0 : Int} {E : List Int} : ∀ (r : List Int) (l : Int) (d : Bool), lst l r ≠ t0 → sc d l (r ++ [t0]) = (if decide (l < nd l (r ++ t0 :: E)) = d then [] else [l]) ++ tw l r (t0 :: E)
  | [], l, d, h => by
    have h : l ≠ t0 := h
    show (if t0 = l then sc d l [] else if decide (l < t0) = d then sc d t0 [] else l :: sc (!d) t0 []) = _
    rw [if_neg (Ne.symm h), List.nil_append, nd_ne (Ne.symm h)]
    show _ = (if _ then [] else [l]) ++ []
    rw [List.append_nil]
    rfl
  | x :: r, l, d, h => by
    rw [lst_cons] at h
    have ih := fun d => tw_sc (E := E) r x d h
    show (if x = l then sc d l (r ++ [t0]) else if decide (l < x) = d then sc d x (r ++ [t0]) else l :: sc (!d) x (r ++ [t0])) = (if decide (l < nd l (x :: (r ++ t0 :: E))) = d then [] else [l]) ++ (if tnB l x (nd x (r ++ t0 :: E)) then x :: tw x r (t0 :: E) else tw x r (t0 :: E))
    by_cases e : x = l
    · subst e
      rw [if_pos rfl, ih d, nd_eq, show tnB x x (nd x (r ++ t0 :: E)) = false by simp [tnB]]
      rfl
    · rw [if_neg e, nd_ne e, ih, ih]
      have key : ∀ d : Bool, decide (l < x) = d → ((if decide (x < nd x (r ++ t0 :: E)) = d then [] else [x]) ++ tw x r (t0 :: E)) = (if tnB l x (nd x (r ++ t0 :: E)) then x :: tw x r (t0 :: E) else tw x r (t0 :: E)) := by
        intro d hd
        have hne : nd x (r ++ t0 :: E) ≠ x := by
          unfold nd
          have hf : ∃ y, (r ++ t0 :: E).find? (fun y => !decide (y = x)) = some y := by
            cases q : (r ++ t0 :: E).find? (fun y => !decide (y = x)) with
            | some y => exact ⟨y, rfl⟩
            | none =>
              exfalso
              have q := List.find?_eq_none.mp q
              have a1 : t0 = x := by
                have := q t0 (by simp)
                simpa using this
              have a2 : ∀ y ∈ r, y = x := fun y m => by
                have := q y (List.mem_append_left _ m)
                simpa using this
              apply h
              rw [a1]
              unfold lst
              cases z : r.getLast? with
              | none => rfl
              | some w => exact a2 w (List.mem_of_getLast? z)
          obtain ⟨y, hy⟩ := hf
          rw [hy]
          have := List.find?_some hy
          simpa using this
        generalize nd x (r ++ t0 :: E) = w at *
        unfold tnB
        rw [decide_eq_false (show ¬ l = x from fun z => e z.symm)]
        subst hd
        by_cases a : l < x
        · by_cases b : x < w
          · simp [a, b, show ¬ w < x by omega]
          · simp [a, b, show w < x by omega]
        · by_cases b : x < w
          · simp [a, b, show ¬ w < x by omega]
          · simp [a, b, show w < x by omega]
      by_cases q : decide (l < x) = d
      · rw [if_pos q, if_pos q, List.nil_append, key d q]
      · rw [if_neg q, if_neg q, key (!d) (by cases d <;> simp at q ⊢ <;> omega)]
        rfl
theorem mk_idem {a b x : Int} {q : Bool} : mk' a b (mk' a b q x) x = mk' a b q x := by
  unfold mk'
  by_cases h1 : x ≤ a
  · simp [h1]
  · by_cases h2 : b ≤ x <;> simp [h1, h2]
theorem co_self {a b x : Int} {q : Bool} : co' a b (mk' a b q x) x = 0 := by
  unfold co' mk'
  by_cases h1 : x ≤ a
  · simp [h1]
  · by_cases h2 : b ≤ x <;> simp [h1, h2]
theorem mk_mono {a b t l x : Int} {p : Bool} (hab : a < b) (hb : (t ≤ l ∧ l ≤ x) ∨ (x ≤ l ∧ l ≤ t)) : mk' a b (mk' a b (mk' a b p t) l) x = mk' a b (mk' a b p t) x := by
  unfold mk'
  by_cases x1 : x ≤ a
  · simp [x1]
  · by_cases x2 : b ≤ x
    · simp [x1, x2]
    · by_cases t1 : t ≤ a
      · simp [x1, x2, t1, show ¬ b ≤ l by omega]
      · by_cases t2 : b ≤ t
        · simp [x1, x2, t1, t2, show ¬ l ≤ a by omega]
        · simp [x1, x2, t1, t2, show ¬ l ≤ a by omega, show ¬ b ≤ l by omega]
theorem co_mono {a b t l x : Int} {p : Bool} (hab : a < b) (hb : (t ≤ l ∧ l ≤ x) ∨ (x ≤ l ∧ l ≤ t)) : co' a b (mk' a b p t) l + co' a b (mk' a b (mk' a b p t) l) x = co' a b (mk' a b p t) x := by
  unfold co' mk'
  by_cases t1 : t ≤ a
  · by_cases x1 : x ≤ a
    · simp [x1, t1, show ¬ b ≤ l by omega]
    · by_cases l1 : l ≤ a
      · simp [t1, x1, l1]
      · by_cases l2 : b ≤ l
        · simp [t1, x1, l1, l2, show b ≤ x by omega]
        · simp [t1, x1, l1, l2]
  · by_cases t2 : b ≤ t
    · by_cases l1 : l ≤ a
      · simp [t1, t2, l1, show x ≤ a by omega]
      · by_cases l2 : b ≤ l <;> simp [t1, t2, l1, l2]
    · by_cases l1 : l ≤ a
      · simp [t1, t2, l1, show x ≤ a by omega]
      · by_cases l2 : b ≤ l
        · cases p <;> simp [t1, t2, l1, l2, show ¬ x ≤ a by omega, show b ≤ x by omega]
        · simp [t1, t2, l1, l2]
/-- the passages of a walk are those of its turns -/
theorem sc_run {a b : Int} (hab : a < b) : ∀ (r : List Int) (d p : Bool) (t l : Int), (if d then t ≤ l else l ≤ t) →
    co' a b (mk' a b p t) l + run a b (mk' a b (mk' a b p t) l) r = run a b (mk' a b p t) (sc d l r ++ [lst l r]) ∧ fin' a b (mk' a b (mk' a b p t) l) r = fin' a b (mk' a b p t) (sc d l r ++ [lst l r])
  | [], d, p, t, l, h => ⟨rfl, rfl⟩
  | x :: r, d, p, t, l, h => by
    rw [lst_cons]
    show _ + (co' a b _ x + run a b (mk' a b _ x) r) = run a b _ ((if x = l then sc d l r else if decide (l < x) = d then sc d x r else l :: sc (!d) x r) ++ _) ∧ fin' a b (mk' a b _ x) r = fin' a b _ ((if x = l then sc d l r else if decide (l < x) = d then sc d x r else l :: sc (!d) x r) ++ _)
    by_cases e : x = l
    · subst e
      rw [if_pos rfl]
      have ih := sc_run hab r d p t x h
      rw [mk_idem, co_self, Nat.zero_add]
      exact ih
    · rw [if_neg e]
      by_cases q : decide (l < x) = d
      · rw [if_pos q]
        have hx : if d then t ≤ x else x ≤ t := by
          cases d with
          | true => have := of_decide_eq_true q; have h : t ≤ l := h; show t ≤ x; omega
          | false => have := of_decide_eq_false q; have h : l ≤ t := h; show x ≤ t; omega
        have ih := sc_run hab r d p t x hx
        have hb : (t ≤ l ∧ l ≤ x) ∨ (x ≤ l ∧ l ≤ t) := by
          cases d with
          | true => have := of_decide_eq_true q; have h : t ≤ l := h; left; omega
          | false => have := of_decide_eq_false q; have h : l ≤ t := h; right; omega
        have e2 := co_mono (p := p) hab hb
        rw [mk_mono hab hb]
        refine ⟨?_, ih.2⟩
        rw [← ih.1]
        omega
      · rw [if_neg q]
        have hx : if (!d) then l ≤ x else x ≤ l := by
          cases d with
          | true =>
            have : ¬ l < x := fun z => q (decide_eq_true z)
            show x ≤ l; omega
          | false =>
            have : l < x := by
              by_cases z : l < x
              · exact z
              · exact absurd (decide_eq_false z) q
            show l ≤ x; omega
        have ih := sc_run hab r (!d) (mk' a b p t) l x hx
        refine ⟨?_, ih.2⟩
        show _ = co' a b (mk' a b p t) l + run a b (mk' a b (mk' a b p t) l) (sc (!d) x r ++ [lst x r])
        rw [← ih.1]
theorem sc_mv : ∀ (r : List Int) (d : Bool) (t l : Int), (if d then t ≤ l else l ≤ t) → ((l - t).natAbs : Int) + mvl l r = mvl t (sc d l r ++ [lst l r])
  | [], d, t, l, h => rfl
  | x :: r, d, t, l, h => by
    rw [lst_cons]
    show _ + (((x - l).natAbs : Int) + mvl x r) = mvl t ((if x = l then sc d l r else if decide (l < x) = d then sc d x r else l :: sc (!d) x r) ++ _)
    by_cases e : x = l
    · subst e
      rw [if_pos rfl, ← sc_mv r d t x h]
      omega
    · rw [if_neg e]
      by_cases q : decide (l < x) = d
      · rw [if_pos q]
        cases d with
        | true =>
          have := of_decide_eq_true q
          have h : t ≤ l := h
          rw [← sc_mv r true t x (show t ≤ x by omega)]
          omega
        | false =>
          have := of_decide_eq_false q
          have h : l ≤ t := h
          rw [← sc_mv r false t x (show x ≤ t by omega)]
          omega
      · rw [if_neg q]
        show _ = ((l - t).natAbs : Int) + mvl l (sc (!d) x r ++ [lst x r])
        have hx : if (!d) then l ≤ x else x ≤ l := by
          cases d with
          | true =>
            have : ¬ l < x := fun z => q (decide_eq_true z)
            show x ≤ l; omega
          | false =>
            have : l < x := by
              by_cases z : l < x
              · exact z
              · exact absurd (decide_eq_false z) q
            show l ≤ x; omega
        rw [← sc_mv r (!d) l x hx]
theorem sc_zig {z : Int} : ∀ (r : List Int) (d : Bool) (t l : Int), (if d then t ≤ l else l ≤ t) → (l = t → decide (l < nd l (r ++ [z])) = d) → lst l r ≠ z → zig d (t :: (sc d l (r ++ [z]) ++ [z])) (!decide (lst l r < z))
  | [], d, t, l, h, h2, h3 => by
    have h3 : l ≠ z := h3
    show zig d (t :: ((if z = l then sc d l [] else if decide (l < z) = d then sc d z [] else l :: sc (!d) z []) ++ [z])) (!decide (l < z))
    rw [if_neg (Ne.symm h3)]
    by_cases q : decide (l < z) = d
    · rw [if_pos q, q]
      refine ⟨?_, rfl⟩
      cases d with
      | true => have := of_decide_eq_true q; have h : t ≤ l := h; show t < z; omega
      | false => have := of_decide_eq_false q; have h : l ≤ t := h; show z < t; omega
    · rw [if_neg q]
      have hl : l ≠ t := fun e => q (by have := h2 e; rw [List.nil_append, nd_ne (Ne.symm h3)] at this; exact this)
      refine ⟨?_, ?_, ?_⟩
      · cases d with
        | true => have h : t ≤ l := h; show t < l; omega
        | false => have h : l ≤ t := h; show l < t; omega
      · cases d with
        | true =>
          have : ¬ l < z := fun y => q (decide_eq_true y)
          show z < l; omega
        | false =>
          have : l < z := by
            by_cases y : l < z
            · exact y
            · exact absurd (decide_eq_false y) q
          exact this
      · show (!(!d)) = _
        rw [Bool.not_not]
        cases d <;> simp at q ⊢ <;> omega
  | x :: r, d, t, l, h, h2, h3 => by
    rw [lst_cons] at h3 ⊢
    show zig d (t :: ((if x = l then sc d l (r ++ [z]) else if decide (l < x) = d then sc d x (r ++ [z]) else l :: sc (!d) x (r ++ [z])) ++ [z])) _
    by_cases e : x = l
    · subst e
      rw [if_pos rfl]
      exact sc_zig r d t x h (fun e => by have := h2 e; rw [List.cons_append, nd_eq] at this; exact this) h3
    · rw [if_neg e]
      by_cases q : decide (l < x) = d
      · rw [if_pos q]
        refine sc_zig r d t x ?_ (fun e2 => ?_) h3
        · cases d with
          | true => have := of_decide_eq_true q; have h : t ≤ l := h; show t ≤ x; omega
          | false => have := of_decide_eq_false q; have h : l ≤ t := h; show x ≤ t; omega
        · exfalso
          cases d with
          | true => have := of_decide_eq_true q; have h : t ≤ l := h; omega
          | false => have := of_decide_eq_false q; have h : l ≤ t := h; omega
      · rw [if_neg q]
        have hl : l ≠ t := fun e2 => q (by have := h2 e2; rw [List.cons_append, nd_ne e] at this; exact this)
        have hx : if (!d) then l < x else x < l := by
          cases d with
          | true =>
            have : ¬ l < x := fun z => q (decide_eq_true z)
            show x < l; omega
          | false =>
            have : l < x := by
              by_cases z : l < x
              · exact z
              · exact absurd (decide_eq_false z) q
            exact this
        have ih := sc_zig (z := z) r (!d) l x (by cases d with | true => exact Int.le_of_lt hx | false => exact Int.le_of_lt hx) (fun e2 => absurd e2 e) h3
        refine ⟨?_, ih⟩
        cases d with
        | true => have h : t ≤ l := h; show t < l; omega
        | false => have h : l ≤ t := h; show l < t; omega
/-! ### a ring that begins at a turn -/
/-- the turns of a ring that begins with a turn -/
theorem ring_turns {t0 : Int} {rest : List Int} (hl : lst t0 rest ≠ t0) (ht : tnB (lst t0 rest) t0 (nd t0 rest) = true) (hn : nd t0 rest ≠ t0) :
    CZ (t0 :: tw t0 rest (t0 :: rest)) ∧ (∀ a b, a < b → pas a b (t0 :: rest) = pas a b (t0 :: tw t0 rest (t0 :: rest))) ∧ mv (t0 :: rest) = mv (t0 :: tw t0 rest (t0 :: rest)) := by
  have hnd : nd t0 (rest ++ t0 :: rest) = nd t0 rest := by
    unfold nd
    rw [List.find?_append]
    cases q : rest.find? (fun y => !decide (y = t0)) with
    | some y => rfl
    | none =>
      exfalso
      apply hn
      unfold nd
      rw [q]
      rfl
  have hnd2 : nd t0 (rest ++ [t0]) = nd t0 rest := by
    unfold nd
    rw [List.find?_append]
    cases q : rest.find? (fun y => !decide (y = t0)) with
    | some y => rfl
    | none =>
      exfalso
      apply hn
      unfold nd
      rw [q]
      rfl
  generalize hd : decide (t0 < nd t0 rest) = d at *
  have key := tw_sc (t0 := t0) (E := rest) rest t0 d hl
  rw [hnd, hd, if_pos rfl, List.nil_append] at key
  rw [← key]
  have w : if d then t0 ≤ t0 else t0 ≤ t0 := by cases d <;> exact Int.le_refl _
  refine ⟨?_, fun a b hab => ?_, ?_⟩
  · have z := sc_zig (z := t0) rest d t0 t0 w (fun _ => by rw [hnd2, hd]) hl
    refine ⟨d, ?_⟩
    have e : (!decide (lst t0 rest < t0)) = d := by
      unfold tnB at ht
      rw [Bool.and_eq_true] at ht
      have h2 := ht.2
      have h2 : decide (lst t0 rest < t0) = decide (nd t0 rest < t0) := by simpa using h2
      rw [h2, ← hd]
      by_cases y : nd t0 rest < t0
      · simp [y, show ¬ t0 < nd t0 rest by omega]
      · simp [y, show t0 < nd t0 rest by omega]
    rw [e] at z
    exact z
  · have r1 : pas a b (t0 :: rest) = pas a b (rest ++ [t0]) := pas_rot [t0] rest
    have r2 : pas a b (t0 :: sc d t0 (rest ++ [t0])) = pas a b (sc d t0 (rest ++ [t0]) ++ [t0]) := pas_rot [t0] _
    rw [r1, r2]
    have hm : ∀ (X : List Int) (p : Bool), fin' a b p (X ++ [t0]) = mk' a b (fin' a b p X) t0 := fun X p => by rw [fin_app]; rfl
    have hs := sc_run hab (rest ++ [t0]) d (fin' a b false rest) t0 t0 w
    rw [lst_snoc] at hs
    rw [mk_idem, co_self, Nat.zero_add, ← hm rest false] at hs
    rw [show pas a b (rest ++ [t0]) = run a b (fin' a b false (rest ++ [t0])) (rest ++ [t0]) from rfl, hs.1, pas_eq _ (fin' a b false (rest ++ [t0])), ← hs.2]
    have : fin' a b (fin' a b false (rest ++ [t0])) (rest ++ [t0]) = fin' a b false (rest ++ [t0]) := by
      rcases fin_or (a := a) (b := b) (rest ++ [t0]) with ⟨e, h⟩ | h
      · rw [h, h]
      · rw [(h _).1]
    rw [this]
  · have r1 : mv (t0 :: rest) = mv (rest ++ [t0]) := mv_rot [t0] rest
    have r2 : mv (t0 :: sc d t0 (rest ++ [t0])) = mv (sc d t0 (rest ++ [t0]) ++ [t0]) := mv_rot [t0] _
    rw [r1, r2]
    have hs := sc_mv (rest ++ [t0]) d t0 t0 w
    rw [lst_snoc] at hs
    unfold mv
    rw [last_snoc, last_snoc]
    show mvl t0 _ = mvl t0 _
    rw [← hs]
    omega

end
section
local macro_rules | `(tactic| eq_refl) => `(tactic| first
  | refine o_cons ?_ | refine s_nx ?_ | refine o_asg ?_ | refine bd rfl ?_ | refine o_var rfl ?_ | refine o_int ?_ | refine o_bin ?_ | refine o_idx ?_ | refine o_cmp ?_
  | refine o_ite ?_ | refine o_tv ?_ | refine t_bl ?_ | refine o_ret ?_ | refine s_rt ?_ | refine r_rt ?_ | refine o_call ?_ | refine o_es ?_ | refine o_es0 ?_
  | refine o_nil ?_ | refine s_bk ?_ | refine s_ct ?_ | refine r_nx ?_
  | refine o_par ⟨Nat.le_of_ble_eq_true rfl, Nat.le_of_ble_eq_true rfl⟩ ?_ | refine o_par3 ⟨Nat.le_of_ble_eq_true rfl, Nat.le_of_ble_eq_true rfl, Nat.le_of_ble_eq_true rfl⟩ ?_ | refine o_augM rfl (Nat.le_of_ble_eq_true rfl) ?_ | refine o_six ?_ | refine o_exp ?_ | refine o_for ?_ | refine o_brk ?_ | refine o_cnt ?_ | refine o_pass ?_ | refine o_whl ?_
  | refine o_bl ?_ | refine o_str ?_ | refine o_non ?_ | refine o_gli ?_ | refine o_gls ?_ | refine o_neg ?_ | refine o_chn ?_ | refine o_nt ?_
  | refine o_an ?_ | refine o_an1 ?_ | refine o_orr ?_ | refine o_or1 ?_ | refine o_ife ?_ | refine o_tup ?_ | refine o_lst ?_ | refine o_dic0 ?_ | refine o_dic1 ?_ | refine o_slc ?_ | refine o_f1 ?_ | refine o_f2 ?_ | refine o_isi ?_
  | refine o_rg1 ?_ | refine o_rg2 ?_ | refine o_sst ?_ | refine o_lns ?_ | refine o_srr ?_ | refine o_srkR ?_ | refine o_dsub ?_ | refine o_srkP ?_ | refine o_rv0 ?_ | refine o_mmx ?_ | refine o_app ?_ | refine o_mk ?_ | refine o_comp ?_ | refine o_calln ?_
  | refine o_iex ?_ | refine o_ir1 ?_ | refine o_ir2 ?_ | refine o_ien ?_ | refine o_ien1 ?_ | refine o_izp ?_ | refine o_sqT ?_ | refine o_sqL ?_ | refine o_zpT ?_ | refine o_zpL ?_
  | refine o_o0 ?_ | refine o_o1 ?_ | refine o_tnt ?_ | refine o_tan ?_ | refine o_tan1 ?_ | refine o_tor ?_ | refine o_tor1 ?_ | refine o_ot0 ?_ | refine o_ot1 ?_
  | refine o_cF rfl ?_ | refine o_body rfl ?_ | refine isI ?_ | refine capL (by decide) ?_ | refine isB ?_ | refine isL ?_ | refine isT ?_ | refine splT ?_ | refine splF ?_
  | refine b_add ?_ | refine b_sub ?_ | refine b_mod (by decide) ?_ | refine b_div (by decide) ?_ | refine b_pow (by decide) ?_ | refine b_mulA (by decide) ?_ | refine b_mulB (by decide) ?_
  | refine c_lt ?_ | refine c_le ?_ | refine c_gt ?_ | refine c_ge ?_ | refine c_eq ?_ | refine c_ne ?_ | refine c_eqBs ?_ | refine c_neBs ?_ | refine c_eqB ?_ | refine c_neB ?_ | refine c_eqSs ?_ | refine c_neSs ?_ | refine c_eqS ?_ | refine c_neS ?_ | refine c_isN rfl ?_ | refine c_notN rfl ?_
  | refine t_int ?_ | refine t_tup ?_ | refine t_lst ?_ | refine t_non ?_
  | refine f_lenT ?_ | refine f_lenL ?_ | refine f_tupL ?_ | refine f_tupT ?_ | refine f_lstT ?_ | refine f_lstL ?_ | refine f_abs ?_ | refine f_sum ?_ | refine f_all ?_ | refine f_any ?_ | refine f_intI ?_ | refine f_intB ?_
  | refine l_tup ?_ | refine l_lst ?_ | refine l_scr ?_ | refine got rfl ?_
  | refine k_int take_self ?_ | refine k_bl take_self ?_ | refine k_non take_self ?_ | refine k_str take_self ?_ | refine k_int dk_take ?_ | refine k_bl dk_take ?_ | refine k_non dk_take ?_
  | refine tn_nx ?_ | refine tn_ct ?_ | refine tn_bk ?_ | refine tn_rt ?_ | refine x_any rfl ?_ | refine f_lenM rfl ?_ | refine f_tupM rfl ?_
  | refine o_xis ?_ | refine o_xf ?_ | refine o_cntE ⟨rfl, ?_⟩ | refine x_ite ?_ | refine x_asg ?_ | refine x_ret ?_ | refine x_exp ?_ | refine x_call ?_ | refine x_calln ?_ | refine x_rai ?_ | refine x_rai1 ?_ | refine nxP ?_)

/-! ### the turns of a ring, by place -/
theorem tw_app : ∀ (P Q : List Int) (l : Int) (E : List Int), tw l (P ++ Q) E = tw l P (Q ++ E) ++ tw (lst l P) Q E
  | [], Q, l, E => rfl
  | x :: P, Q, l, E => by
    rw [lst_cons]
    show (if tnB l x (nd x (P ++ Q ++ E)) then x :: tw x (P ++ Q) E else tw x (P ++ Q) E) = (if tnB l x (nd x (P ++ (Q ++ E))) then x :: tw x P (Q ++ E) else tw x P (Q ++ E)) ++ _
    rw [List.append_assoc, tw_app P Q x E]
    split <;> rfl
theorem nd_app {x : Int} {L F : List Int} (h : ∃ y ∈ L, y ≠ x) : nd x (L ++ F) = nd x L := by
  obtain ⟨y, m, hy⟩ := h
  unfold nd
  rw [List.find?_append]
  cases q : L.find? (fun y => !decide (y = x)) with
  | some z => rfl
  | none =>
    have := List.find?_eq_none.mp q y m
    simp [hy] at this
theorem tw_ext {E F : List Int} (h : ∀ x, ∃ y ∈ E, y ≠ x) : ∀ (r : List Int) (l : Int), tw l r (E ++ F) = tw l r E
  | [], _ => rfl
  | x :: r, l => by
    show (if tnB l x (nd x (r ++ (E ++ F))) then x :: tw x r (E ++ F) else tw x r (E ++ F)) = (if tnB l x (nd x (r ++ E)) then x :: tw x r E else tw x r E)
    rw [tw_ext h r x, ← List.append_assoc, nd_app]
    obtain ⟨y, m, hy⟩ := h x
    exact ⟨y, List.mem_append_right _ m, hy⟩
theorem tw_first : ∀ (r : List Int) (l : Int) (E : List Int), tw l r E ≠ [] → ∃ A t B, r = A ++ t :: B ∧ tw l A (t :: B ++ E) = [] ∧ tnB (lst l A) t (nd t (B ++ E)) = true ∧ tw l r E = t :: tw t B E
  | [], l, E, h => absurd rfl h
  | x :: r, l, E, h => by
    have e : tw l (x :: r) E = (if tnB l x (nd x (r ++ E)) then x :: tw x r E else tw x r E) := rfl
    by_cases q : tnB l x (nd x (r ++ E)) = true
    · exact ⟨[], x, r, rfl, rfl, q, by rw [e, if_pos q]⟩
    · rw [e, if_neg q] at h
      obtain ⟨A, t, B, h1, h2, h3, h4⟩ := tw_first r x E h
      refine ⟨x :: A, t, B, by rw [h1]; rfl, ?_, by rw [lst_cons]; exact h3, by rw [e, if_neg q, h4]⟩
      show (if tnB l x (nd x (A ++ (t :: B ++ E))) then x :: tw x A (t :: B ++ E) else tw x A (t :: B ++ E)) = []
      have e2 : r ++ E = A ++ (t :: B ++ E) := by rw [h1, List.append_assoc]
      rw [← e2, if_neg q, h2]
/-- the heights of the turns -/
def tz (xs : List Int) : List Int := tw (lst 0 xs) xs xs
theorem two_hts {xs : List Int} {x y : Int} (hx : x ∈ xs) (hy : y ∈ xs) (h : x ≠ y) : ∀ z, ∃ w ∈ xs, w ≠ z := fun z => by
  by_cases e : x = z
  · exact ⟨y, hy, fun q => h (e.trans q.symm)⟩
  · exact ⟨x, hx, e⟩
theorem cyc_ne : ∀ (xs : List Int) (l : Int), (∃ x ∈ xs, x ≠ l) → ∃ A t B, xs = A ++ t :: B ∧ lst l A ≠ t
  | [], l, h => by obtain ⟨x, m, _⟩ := h; cases m
  | x :: xs, l, h => by
    by_cases e : l = x
    · subst e
      obtain ⟨y, m, hy⟩ := h
      rcases List.mem_cons.mp m with rfl | m
      · exact absurd rfl hy
      · obtain ⟨A, t, B, h1, h2⟩ := cyc_ne xs l ⟨y, m, hy⟩
        exact ⟨l :: A, t, B, by rw [h1]; rfl, by rw [lst_cons]; exact h2⟩
    · exact ⟨[], x, xs, rfl, e⟩
theorem lst_app (l : Int) (P Q : List Int) : lst l (P ++ Q) = lst (lst l P) Q := by
  induction P generalizing l with
  | nil => rfl
  | cons x P ih => rw [List.cons_append, lst_cons, lst_cons, ih]
theorem lst_ne {l m : Int} {P : List Int} (h : P ≠ []) : lst l P = lst m P := by
  cases P with
  | nil => exact absurd rfl h
  | cons x P => rw [lst_cons, lst_cons]
theorem nd_some {x : Int} {L : List Int} (h : ∃ y ∈ L, y ≠ x) : nd x L ≠ x := by
  obtain ⟨y, m, hy⟩ := h
  unfold nd
  cases q : L.find? (fun y => !decide (y = x)) with
  | some z =>
    have := List.find?_some q
    simpa using this
  | none =>
    have := List.find?_eq_none.mp q y m
    simp [hy] at this
theorem const_pas {a b x : Int} : ∀ (xs : List Int) (p : Bool), (∀ y ∈ xs, y = x) → run a b (mk' a b p x) xs = 0
  | [], _, _ => rfl
  | y :: ys, p, h => by
    have e := h y (List.mem_cons_self ..)
    subst e
    show co' a b (mk' a b p y) y + run a b (mk' a b (mk' a b p y) y) ys = 0
    rw [co_self, mk_idem, const_pas ys p fun z m => h z (List.mem_cons_of_mem _ m)]
theorem const_mv {x : Int} : ∀ (xs : List Int), (∀ y ∈ xs, y = x) → mvl x xs = 0
  | [], _ => rfl
  | y :: ys, h => by
    have e := h y (List.mem_cons_self ..)
    subst e
    show ((y - y).natAbs : Int) + mvl y ys = 0
    rw [const_mv ys fun z m => h z (List.mem_cons_of_mem _ m)]
    omega
/-- a ring beside its turns -/
theorem tz_ok {xs : List Int} (hx : xs ≠ []) : (tz xs = [] ∧ (∀ x ∈ xs, ∀ y ∈ xs, x = y) ∨ CZ (tz xs)) ∧ (∀ a b, a < b → pas a b xs = pas a b (tz xs)) ∧ mv xs = mv (tz xs) := by
  by_cases hc : ∀ x ∈ xs, ∀ y ∈ xs, x = y
  · have hz : tz xs = [] := by
      have hl : ∀ x ∈ xs, x = lst 0 xs := fun x m => hc x m _ (by
        unfold lst
        cases q : xs.getLast? with
        | none => exact absurd (List.getLast?_eq_none_iff.mp q) hx
        | some w => exact List.mem_of_getLast? q)
      have key : ∀ (r : List Int) (E : List Int), (∀ x ∈ r, x = lst 0 xs) → tw (lst 0 xs) r E = [] := by
        intro r
        induction r with
        | nil => intro _ _; rfl
        | cons x r ih =>
          intro E h
          have e := h x (List.mem_cons_self ..)
          show (if tnB (lst 0 xs) x (nd x (r ++ E)) then x :: tw x r E else tw x r E) = []
          rw [show tnB (lst 0 xs) x (nd x (r ++ E)) = false by rw [e]; simp [tnB], e]
          exact ih E fun y m => h y (List.mem_cons_of_mem _ m)
      exact key xs xs hl
    refine ⟨.inl ⟨hz, hc⟩, fun a b hab => ?_, ?_⟩
    · rw [hz]
      obtain ⟨x, X, rfl⟩ : ∃ x X, xs = x :: X := by cases xs with
        | nil => exact absurd rfl hx
        | cons x X => exact ⟨x, X, rfl⟩
      have h0 : ∀ y ∈ x :: X, y = x := fun y m => hc y m x (List.mem_cons_self ..)
      rw [pas_eq _ (mk' a b false x)]
      have e : ∀ (ys : List Int), (∀ y ∈ ys, y = x) → fin' a b (mk' a b false x) ys = mk' a b false x := by
        intro ys
        induction ys with
        | nil => intro _; rfl
        | cons y ys ih =>
          intro h
          have e := h y (List.mem_cons_self ..)
          subst e
          show fin' a b (mk' a b (mk' a b false y) y) ys = _
          rw [mk_idem, ih fun z m => h z (List.mem_cons_of_mem _ m)]
      rw [e _ h0, const_pas _ _ h0]
      rfl
    · rw [hz]
      obtain ⟨x, X, rfl⟩ : ∃ x X, xs = x :: X := by cases xs with
        | nil => exact absurd rfl hx
        | cons x X => exact ⟨x, X, rfl⟩
      have h0 : ∀ y ∈ x :: X, y = x := fun y m => hc y m x (List.mem_cons_self ..)
      have hl : ((x :: X).getLast?).getD 0 = x := by
        cases q : (x :: X).getLast? with
        | none => exact absurd (List.getLast?_eq_none_iff.mp q) hx
        | some w => exact h0 w (List.mem_of_getLast? q)
      show mvl (((x :: X).getLast?).getD 0) (x :: X) = 0
      rw [hl]
      exact const_mv _ h0
  · have h2 : ∃ x ∈ xs, ∃ y ∈ xs, x ≠ y := by
      apply Classical.byContradiction
      intro h
      apply hc
      intro x mx y my
      apply Classical.byContradiction
      intro e
      exact h ⟨x, mx, y, my, e⟩
    obtain ⟨x0, mx, y0, my, hxy⟩ := h2
    have all := two_hts mx my hxy
    -- a turn there is
    have hne : tz xs ≠ [] := by
      intro hz
      obtain ⟨A, t, B, h1, h3⟩ := cyc_ne xs (lst 0 xs) (all _)
      have e1 : lst (lst 0 xs) A = lst t (B ++ A) := by
        cases A with
        | nil =>
          rw [h1]
          show lst 0 (t :: B) = lst t (B ++ [])
          rw [lst_cons, List.append_nil]
        | cons z A => rw [lst_app]; exact lst_ne (by simp)
      rw [e1] at h3
      have perm : ∀ z, z ∈ t :: (B ++ A) ↔ z ∈ xs := fun z => by rw [h1]; simp [or_comm, or_left_comm]
      have all2 : ∀ z, ∃ w ∈ t :: (B ++ A), w ≠ z := fun z => by
        obtain ⟨w, m, hw⟩ := all z
        exact ⟨w, (perm w).mpr m, hw⟩
      have hn : ∃ w ∈ B ++ A, w ≠ t := by
        obtain ⟨w, m, hw⟩ := all2 t
        rcases List.mem_cons.mp m with rfl | m
        · exact absurd rfl hw
        · exact ⟨w, m, hw⟩
      have hz : tw (lst 0 xs) xs xs = [] := hz
      have hz2 : tw (lst 0 xs) (A ++ t :: B) xs = [] := by
        have := hz
        conv at this => lhs; arg 2; rw [h1]
        exact this
      rw [tw_app, List.append_eq_nil_iff] at hz2
      obtain ⟨z1, z2⟩ := hz2
      have z2 : (if tnB (lst (lst 0 xs) A) t (nd t (B ++ xs)) then t :: tw t B xs else tw t B xs) = [] := z2
      have z3 : tw t B xs = [] := by
        revert z2
        split
        · intro z; cases z
        · exact id
      have w1 : tw t B (A ++ t :: (B ++ A)) = [] := by
        have : A ++ t :: (B ++ A) = xs ++ A := by rw [h1]; simp
        rw [this, tw_ext all, z3]
      have w2 : tw (lst t B) A (t :: (B ++ A)) = [] := by
        have e3 : t :: B ++ xs = (t :: (B ++ A)) ++ (t :: B) := by rw [h1]; simp
        rw [e3, tw_ext all2] at z1
        cases A with
        | nil => rfl
        | cons z A' =>
          have : lst t B = lst 0 xs := by rw [h1, lst_app, lst_cons]
          rw [this]
          exact z1
      have w : tw t (B ++ A) (t :: (B ++ A)) = [] := by rw [tw_app, w1, w2]; rfl
      have k := tw_sc (t0 := t) (E := B ++ A) (B ++ A) t (decide (t < nd t (B ++ A))) h3
      have e4 : nd t (B ++ A ++ t :: (B ++ A)) = nd t (B ++ A) := nd_app hn
      rw [w, e4, if_pos rfl, List.append_nil] at k
      have e5 : nd t (B ++ A ++ [t]) = nd t (B ++ A) := nd_app hn
      have zz := sc_zig (z := t) (B ++ A) (decide (t < nd t (B ++ A))) t t (by cases decide (t < nd t (B ++ A)) <;> exact Int.le_refl _) (fun _ => by rw [e5]) h3
      rw [k] at zz
      obtain ⟨z5, _⟩ := zz
      revert z5
      split <;> omega
    obtain ⟨A, t, B, h1, h2, h3, h4⟩ := tw_first xs (lst 0 xs) xs hne
    have e1 : lst (lst 0 xs) A = lst t (B ++ A) := by
      cases A with
      | nil =>
        rw [h1]
        show lst 0 (t :: B) = lst t (B ++ [])
        rw [lst_cons, List.append_nil]
      | cons z A => rw [lst_app]; exact lst_ne (by simp)
    have perm : ∀ z, z ∈ t :: (B ++ A) ↔ z ∈ xs := fun z => by rw [h1]; simp [or_comm, or_left_comm]
    have all2 : ∀ z, ∃ w ∈ t :: (B ++ A), w ≠ z := fun z => by
      obtain ⟨w, m, hw⟩ := all z
      exact ⟨w, (perm w).mpr m, hw⟩
    have hn : ∃ w ∈ B ++ A, w ≠ t := by
      obtain ⟨w, m, hw⟩ := all2 t
      rcases List.mem_cons.mp m with rfl | m
      · exact absurd rfl hw
      · exact ⟨w, m, hw⟩
    have e6 : nd t (B ++ xs) = nd t (B ++ A) := by
      rw [show B ++ xs = (B ++ A) ++ (t :: B) by rw [h1]; simp]
      exact nd_app hn
    rw [e1, e6] at h3
    have hl : lst t (B ++ A) ≠ t := fun e => by
      unfold tnB at h3
      rw [decide_eq_true e] at h3
      cases h3
    have zt : tz xs = t :: tw t (B ++ A) (t :: (B ++ A)) := by
      show tw (lst 0 xs) xs xs = _
      rw [h4, tw_app]
      have w1 : tw t B (A ++ t :: (B ++ A)) = tw t B xs := by
        have : A ++ t :: (B ++ A) = xs ++ A := by rw [h1]; simp
        rw [this, tw_ext all]
      have w2 : tw (lst t B) A (t :: (B ++ A)) = [] := by
        have e3 : t :: B ++ xs = (t :: (B ++ A)) ++ (t :: B) := by rw [h1]; simp
        rw [e3, tw_ext all2] at h2
        cases A with
        | nil => rfl
        | cons z A' =>
          have : lst t B = lst 0 xs := by rw [h1, lst_app, lst_cons]
          rw [this]
          exact h2
      rw [w1, w2, List.append_nil]
    obtain ⟨r1, r2, r3⟩ := ring_turns hl h3 (nd_some hn)
    rw [zt]
    refine ⟨.inr r1, fun a b hab => ?_, ?_⟩
    · rw [← r2 a b hab, h1, pas_rot A (t :: B)]
      rfl
    · rw [← r3, h1, mv_rot A (t :: B)]
      rfl

end
section
local macro_rules | `(tactic| eq_refl) => `(tactic| first
  | refine o_cons ?_ | refine s_nx ?_ | refine o_asg ?_ | refine bd rfl ?_ | refine o_var rfl ?_ | refine o_int ?_ | refine o_bin ?_ | refine o_idx ?_ | refine o_cmp ?_
  | refine o_ite ?_ | refine o_tv ?_ | refine t_bl ?_ | refine o_ret ?_ | refine s_rt ?_ | refine r_rt ?_ | refine o_call ?_ | refine o_es ?_ | refine o_es0 ?_
  | refine o_nil ?_ | refine s_bk ?_ | refine s_ct ?_ | refine r_nx ?_
  | refine o_par ⟨Nat.le_of_ble_eq_true rfl, Nat.le_of_ble_eq_true rfl⟩ ?_ | refine o_par3 ⟨Nat.le_of_ble_eq_true rfl, Nat.le_of_ble_eq_true rfl, Nat.le_of_ble_eq_true rfl⟩ ?_ | refine o_augM rfl (Nat.le_of_ble_eq_true rfl) ?_ | refine o_six ?_ | refine o_exp ?_ | refine o_for ?_ | refine o_brk ?_ | refine o_cnt ?_ | refine o_pass ?_ | refine o_whl ?_
  | refine o_bl ?_ | refine o_str ?_ | refine o_non ?_ | refine o_gli ?_ | refine o_gls ?_ | refine o_neg ?_ | refine o_chn ?_ | refine o_nt ?_
  | refine o_an ?_ | refine o_an1 ?_ | refine o_orr ?_ | refine o_or1 ?_ | refine o_ife ?_ | refine o_tup ?_ | refine o_lst ?_ | refine o_dic0 ?_ | refine o_dic1 ?_ | refine o_slc ?_ | refine o_f1 ?_ | refine o_f2 ?_ | refine o_isi ?_
  | refine o_rg1 ?_ | refine o_rg2 ?_ | refine o_sst ?_ | refine o_lns ?_ | refine o_srr ?_ | refine o_srkR ?_ | refine o_dsub ?_ | refine o_srkP ?_ | refine o_rv0 ?_ | refine o_mmx ?_ | refine o_app ?_ | refine o_mk ?_ | refine o_comp ?_ | refine o_calln ?_
  | refine o_iex ?_ | refine o_ir1 ?_ | refine o_ir2 ?_ | refine o_ien ?_ | refine o_ien1 ?_ | refine o_izp ?_ | refine o_sqT ?_ | refine o_sqL ?_ | refine o_zpT ?_ | refine o_zpL ?_
  | refine o_o0 ?_ | refine o_o1 ?_ | refine o_tnt ?_ | refine o_tan ?_ | refine o_tan1 ?_ | refine o_tor ?_ | refine o_tor1 ?_ | refine o_ot0 ?_ | refine o_ot1 ?_
  | refine o_cF rfl ?_ | refine o_body rfl ?_ | refine isI ?_ | refine capL (by decide) ?_ | refine isB ?_ | refine isL ?_ | refine isT ?_ | refine splT ?_ | refine splF ?_
  | refine b_add ?_ | refine b_sub ?_ | refine b_mod (by decide) ?_ | refine b_div (by decide) ?_ | refine b_pow (by decide) ?_ | refine b_mulA (by decide) ?_ | refine b_mulB (by decide) ?_
  | refine c_lt ?_ | refine c_le ?_ | refine c_gt ?_ | refine c_ge ?_ | refine c_eq ?_ | refine c_ne ?_ | refine c_eqBs ?_ | refine c_neBs ?_ | refine c_eqB ?_ | refine c_neB ?_ | refine c_eqSs ?_ | refine c_neSs ?_ | refine c_eqS ?_ | refine c_neS ?_ | refine c_isN rfl ?_ | refine c_notN rfl ?_
  | refine t_int ?_ | refine t_tup ?_ | refine t_lst ?_ | refine t_non ?_
  | refine f_lenT ?_ | refine f_lenL ?_ | refine f_tupL ?_ | refine f_tupT ?_ | refine f_lstT ?_ | refine f_lstL ?_ | refine f_abs ?_ | refine f_sum ?_ | refine f_all ?_ | refine f_any ?_ | refine f_intI ?_ | refine f_intB ?_
  | refine l_tup ?_ | refine l_lst ?_ | refine l_scr ?_ | refine got rfl ?_
  | refine k_int take_self ?_ | refine k_bl take_self ?_ | refine k_non take_self ?_ | refine k_str take_self ?_ | refine k_int dk_take ?_ | refine k_bl dk_take ?_ | refine k_non dk_take ?_
  | refine tn_nx ?_ | refine tn_ct ?_ | refine tn_bk ?_ | refine tn_rt ?_ | refine x_any rfl ?_ | refine f_lenM rfl ?_ | refine f_tupM rfl ?_
  | refine o_xis ?_ | refine o_xf ?_ | refine o_cntE ⟨rfl, ?_⟩ | refine x_ite ?_ | refine x_asg ?_ | refine x_ret ?_ | refine x_exp ?_ | refine x_call ?_ | refine x_calln ?_ | refine x_rai ?_ | refine x_rai1 ?_ | refine nxP ?_)

/-! ### a pair is taken out -/
theorem rotN_get {R : List Nat} {i k : Nat} (h : i ≤ R.length) (hk : k < R.length) : (R.drop i ++ R.take i)[k]? = R[(i + k) % R.length]? := by
  by_cases q : i + k < R.length
  · rw [List.getElem?_append_left (by rw [List.length_drop]; omega), List.getElem?_drop, Nat.mod_eq_of_lt q]
  · rw [List.getElem?_append_right (by rw [List.length_drop]; omega), List.length_drop, Nat.mod_eq_sub_mod (by omega), Nat.mod_eq_of_lt (by omega), List.getElem?_take]
    rw [if_pos (by omega)]
    congr 1
    omega
def gap (g : Nat → Int) (R : List Nat) (k : Nat) : Nat := (g (R.getD k 0) - g (R.getD ((k + 1) % R.length) 0)).natAbs
def cov (a b : Int) (p : Int × Int) : Bool := decide (p.1 ≤ a) && decide (b ≤ p.2)
def vp (u v : Int) : Int × Int := (min u v, max u v)
theorem list3 {L : List Nat} (h : 3 ≤ L.length) : ∃ u v q B, L = u :: v :: q :: B := by
  match L, h with
  | u :: v :: q :: B, _ => exact ⟨u, v, q, B, rfl⟩
structure Taken (g : Nat → Int) (R R' : List Nat) (u v : Nat) : Prop where
  cz : CZ (R'.map g)
  nd : R'.Nodup
  len : R'.length + 2 = R.length
  ne : g u ≠ g v
  mu : u ∈ R
  mv' : v ∈ R
  pas : ∀ a b, a < b → pas a b (R.map g) = pas a b (R'.map g) + (if cov a b (vp (g u) (g v)) then 1 else 0)
  mv : mv (R.map g) = mv (R'.map g) + 2 * (max (g u) (g v) - min (g u) (g v))
theorem take_pair {g : Nat → Int} {R : List Nat} (hz : CZ (R.map g)) (hn : R.Nodup) (hm : 2 < R.length) {i : Nat} (hi : i < R.length) (hmin : ∀ k, k < R.length → gap g R i ≤ gap g R k) :
    Taken g R (R.filter fun x => !(decide (x = R.getD i 0) || decide (x = R.getD ((i + 1) % R.length) 0))) (R.getD i 0) (R.getD ((i + 1) % R.length) 0) := by
  have hL : (R.drop i ++ R.take i).length = R.length := by simp; omega
  obtain ⟨u, v, q, B, e⟩ := list3 (L := R.drop i ++ R.take i) (by omega)
  have at' : ∀ k, k < R.length → (u :: v :: q :: B)[k]? = R[(i + k) % R.length]? := fun k hk => by rw [← e]; exact rotN_get (by omega) hk
  have getD' : ∀ k x, (u :: v :: q :: B)[k]? = some x → R.getD ((i + k) % R.length) 0 = x := fun k x h => by
    have hk : k < R.length := by
      have := (List.getElem?_eq_some_iff.mp h).1
      rw [← e, hL] at this
      exact this
    rw [at' k hk] at h
    rw [List.getD_eq_getElem?_getD, h]
    rfl
  have eu : R.getD i 0 = u := by
    have := getD' 0 u rfl
    rwa [Nat.add_zero, Nat.mod_eq_of_lt hi] at this
  have ev : R.getD ((i + 1) % R.length) 0 = v := getD' 1 v rfl
  have eq' : R.getD ((i + 2) % R.length) 0 = q := getD' 2 q rfl
  obtain ⟨C, p, hp⟩ : ∃ C p, q :: B = C ++ [p] := by
    rcases List.eq_nil_or_concat (q :: B) with h | ⟨C, p, h⟩
    · cases h
    · exact ⟨C, p, by rw [h, List.concat_eq_append]⟩
  have hlB : B.length + 3 = R.length := by rw [← hL, e]; simp
  have hlC : C.length + 1 = B.length + 1 := by
    have := congrArg List.length hp
    simpa using this.symm
  have ep : R.getD ((i + (R.length - 1)) % R.length) 0 = p := by
    refine getD' _ _ ?_
    rw [show R.length - 1 = C.length + 2 by omega]
    show (q :: B)[C.length]? = some p
    rw [hp]
    simp
  have g1 := hmin ((i + (R.length - 1)) % R.length) (Nat.mod_lt _ (by omega))
  have g2 := hmin ((i + 1) % R.length) (Nat.mod_lt _ (by omega))
  unfold gap at g1 g2
  have w1 : ((i + (R.length - 1)) % R.length + 1) % R.length = i := by
    rw [Nat.mod_add_mod, show i + (R.length - 1) + 1 = i + R.length by omega, Nat.add_mod_right, Nat.mod_eq_of_lt hi]
  have w2 : ((i + 1) % R.length + 1) % R.length = (i + 2) % R.length := by rw [Nat.mod_add_mod]
  rw [w1, ep, eu, ev] at g1
  rw [w2, eu, ev, eq'] at g2
  rw [eu, ev]
  have hRt : ∀ {α : Type} (f : Nat → α), (R.take i).map f ++ (R.drop i).map f = R.map f := fun f => by rw [← List.map_append, List.take_append_drop]
  have hz2 : CZ ((R.drop i).map g ++ (R.take i).map g) := CZ.rot _ (by rw [hRt]; exact hz)
  have hLm : (R.drop i).map g ++ (R.take i).map g = g u :: g v :: g q :: B.map g := by rw [← List.map_append, e]; rfl
  rw [hLm] at hz2
  have hpm : g q :: B.map g = C.map g ++ [g p] := by
    have := congrArg (List.map g) hp
    simpa using this
  obtain ⟨c1, c2⟩ := CZ.rm hz2 hpm g1 g2
  have hperm : (R.drop i ++ R.take i).Perm R := by
    refine List.perm_append_comm.trans ?_
    rw [List.take_append_drop]
  have hnL : (u :: v :: q :: B).Nodup := by rw [← e]; exact hperm.nodup_iff.mpr hn
  have nu := (List.nodup_cons.mp hnL).1
  have hn2 := (List.nodup_cons.mp hnL).2
  have nv := (List.nodup_cons.mp hn2).1
  have hn3 := (List.nodup_cons.mp hn2).2
  let P : Nat → Bool := fun x => !(decide (x = u) || decide (x = v))
  have fL : (R.drop i ++ R.take i).filter P = q :: B := by
    rw [e, List.filter_cons, if_neg (by simp [P]), List.filter_cons, if_neg (by simp [P])]
    refine List.filter_eq_self.mpr fun x m => ?_
    have a1 : x ≠ u := fun z => nu (by rw [← z]; exact List.mem_cons_of_mem _ m)
    have a2 : x ≠ v := fun z => nv (by rw [← z]; exact m)
    simp [P, a1, a2]
  have fR : R.filter P = (R.take i).filter P ++ (R.drop i).filter P := by rw [← List.filter_append, List.take_append_drop]
  have fL' : (R.drop i).filter P ++ (R.take i).filter P = q :: B := by rw [← List.filter_append, fL]
  have fLm : ((R.drop i).filter P).map g ++ ((R.take i).filter P).map g = g q :: B.map g := by rw [← List.map_append, fL']; rfl
  have hne : g u ≠ g v := by rcases c2 with h | h <;> omega
  have hu : u ∈ R := hperm.mem_iff.mp (by rw [e]; simp)
  have hv : v ∈ R := hperm.mem_iff.mp (by rw [e]; simp)
  show Taken g R (R.filter P) u v
  refine ⟨?_, hn.filter _, ?_, hne, hu, hv, fun a b hab => ?_, ?_⟩
  · rw [fR, List.map_append]
    exact CZ.rot _ (by rw [fLm]; exact c1)
  · have := congrArg List.length fL'
    rw [fR]
    simp at this ⊢
    omega
  · have h1 : pas a b (R.map g) = pas a b (g u :: g v :: g q :: B.map g) := by rw [← hLm, ← hRt g]; exact pas_rot _ _
    have h2 : pas a b ((R.filter P).map g) = pas a b (g q :: B.map g) := by rw [← fLm, fR, List.map_append]; exact pas_rot _ _
    rw [h1, h2, pas_rm hab hpm c2]
    congr 1
    unfold cov vp
    by_cases z1 : min (g u) (g v) ≤ a
    · by_cases z2 : b ≤ max (g u) (g v) <;> simp [z1, z2]
    · simp [z1]
  · have h1 : mv (R.map g) = mv (g u :: g v :: g q :: B.map g) := by rw [← hLm, ← hRt g]; exact mv_rot _ _
    have h2 : mv ((R.filter P).map g) = mv (g q :: B.map g) := by rw [← fLm, fR, List.map_append]; exact mv_rot _ _
    rw [h1, h2, mv_rm hpm c2]
/-! ### what the removal keeps -/
/-- the swings of a row of places so far -/
structure Kept (xs : List Int) (g : Nat → Int) (n : Nat) (R : List Nat) (S : List (Int × Int)) : Prop where
  cz : R = [] ∨ CZ (R.map g)
  nd : R.Nodup
  pas : ∀ a b, a < b → pas a b xs = S.countP (cov a b) + pas a b (R.map g)
  mv : mv xs = 2 * (S.map fun p => p.2 - p.1).sum + mv (R.map g)
  len : n = 2 * S.length + R.length
  lt : ∀ p ∈ S, p.1 < p.2
  inr : ∀ p ∈ S, p.1 ∈ xs ∧ p.2 ∈ xs
  sub : ∀ i ∈ R, g i ∈ xs
structure Swings (xs : List Int) (n : Nat) (S : List (Int × Int)) : Prop where
  pas : ∀ a b, a < b → pas a b xs = S.countP (cov a b)
  mv : mv xs = 2 * (S.map fun p => p.2 - p.1).sum
  len : n = 2 * S.length
  lt : ∀ p ∈ S, p.1 < p.2
  inr : ∀ p ∈ S, p.1 ∈ xs ∧ p.2 ∈ xs
theorem vp_lt {u v : Int} (h : u ≠ v) : (vp u v).1 < (vp u v).2 := by unfold vp; show min u v < max u v; omega
theorem vp_in {xs : List Int} {u v : Int} (hu : u ∈ xs) (hv : v ∈ xs) : (vp u v).1 ∈ xs ∧ (vp u v).2 ∈ xs := by
  unfold vp
  by_cases h : u ≤ v
  · rw [Int.min_eq_left h, Int.max_eq_right h]; exact ⟨hu, hv⟩
  · rw [Int.min_eq_right (by omega), Int.max_eq_left (by omega)]; exact ⟨hv, hu⟩
theorem Kept.step {xs : List Int} {g : Nat → Int} {n : Nat} {R R' : List Nat} {S : List (Int × Int)} {u v : Nat} (k : Kept xs g n R S) (t : Taken g R R' u v) (hs : ∀ x ∈ R', x ∈ R) : Kept xs g n R' (S ++ [vp (g u) (g v)]) := by
  refine ⟨.inr t.cz, t.nd, fun a b hab => ?_, ?_, ?_, fun p m => ?_, fun p m => ?_, fun i m => k.sub i (hs i m)⟩
  · rw [k.pas a b hab, t.pas a b hab, List.countP_append, List.countP_cons, List.countP_nil]
    omega
  · rw [k.mv, t.mv, List.map_append, List.sum_append]
    simp [vp]
    omega
  · rw [k.len, List.length_append, List.length_singleton]
    have := t.len
    omega
  · rcases List.mem_append.mp m with m | m
    · exact k.lt p m
    · rw [List.mem_singleton.mp m]; exact vp_lt t.ne
  · rcases List.mem_append.mp m with m | m
    · exact k.inr p m
    · rw [List.mem_singleton.mp m]; exact vp_in (k.sub u t.mu) (k.sub v t.mv')
theorem Kept.last {xs : List Int} {g : Nat → Int} {n : Nat} {R : List Nat} {S : List (Int × Int)} (k : Kept xs g n R S) (h : R.length ≤ 2) : (R = [] ∧ Swings xs n S) ∨ ∃ u v, R = [u, v] ∧ g u ≠ g v ∧ Swings xs n (S ++ [vp (g u) (g v)]) := by
  rcases k.cz with rfl | cz
  · refine .inl ⟨rfl, ⟨fun a b hab => ?_, ?_, ?_, k.lt, k.inr⟩⟩
    · rw [k.pas a b hab]; rfl
    · rw [k.mv]; show _ + 0 = _; omega
    · rw [k.len]; simp
  · match R, h, k, cz with
    | [], _, _, cz => exact cz.elim
    | [u], _, _, cz =>
      obtain ⟨_, _, h, _⟩ := CZ.two cz
      cases h
    | [u, v], _, k, cz =>
      obtain ⟨y, Z, h, hne⟩ := CZ.two cz
      have : y = g v := by
        have := (List.cons.inj h).1
        exact this.symm
      subst this
      refine .inr ⟨u, v, rfl, hne, ⟨fun a b hab => ?_, ?_, ?_, fun p m => ?_, fun p m => ?_⟩⟩
      · rw [k.pas a b hab, show RS.pas a b ([u, v].map g) = _ from pas_two hab hne, List.countP_append, List.countP_cons, List.countP_nil]
        unfold cov vp
        by_cases z1 : min (g u) (g v) ≤ a
        · by_cases z2 : b ≤ max (g u) (g v) <;> simp [z1, z2]
        · simp [z1]
      · rw [k.mv, List.map_append, List.sum_append]
        show _ + (((g u - g v).natAbs : Int) + (((g v - g u).natAbs : Int) + 0)) = _
        simp [vp]
        omega
      · rw [k.len, List.length_append, List.length_singleton]
        simp
        omega
      · rcases List.mem_append.mp m with m | m
        · exact k.lt p m
        · rw [List.mem_singleton.mp m]; exact vp_lt hne
      · rcases List.mem_append.mp m with m | m
        · exact k.inr p m
        · rw [List.mem_singleton.mp m]; exact vp_in (k.sub u (by simp)) (k.sub v (by simp))
/-! ### only one row of swings has these numbers -/
theorem count_cov (S : List (Int × Int)) (hs : ∀ p ∈ S, p.1 < p.2) (p : Int × Int) (hp : p.1 < p.2) :
    (S.count p : Int) = S.countP (cov p.1 p.2) - S.countP (cov (p.1 - 1) p.2) - S.countP (cov p.1 (p.2 + 1)) + S.countP (cov (p.1 - 1) (p.2 + 1)) := by
  induction S with
  | nil => rfl
  | cons q S ih =>
    have ih := ih fun r m => hs r (List.mem_cons_of_mem _ m)
    rw [List.count_cons, List.countP_cons, List.countP_cons, List.countP_cons, List.countP_cons]
    obtain ⟨l, h⟩ := p
    obtain ⟨l', h'⟩ := q
    have e : (((l', h') : Int × Int) == (l, h)) = (decide (l' = l) && decide (h' = h)) := by
      rw [Bool.eq_iff_iff]
      simp
    rw [e]
    unfold cov at *
    simp only [] at *
    have ex : ((if (decide (l' = l) && decide (h' = h)) = true then 1 else 0 : Nat) : Int) = ((if (decide (l' ≤ l) && decide (h ≤ h')) = true then 1 else 0 : Nat) : Int) - ((if (decide (l' ≤ l - 1) && decide (h ≤ h')) = true then 1 else 0 : Nat) : Int) - ((if (decide (l' ≤ l) && decide (h + 1 ≤ h')) = true then 1 else 0 : Nat) : Int) + ((if (decide (l' ≤ l - 1) && decide (h + 1 ≤ h')) = true then 1 else 0 : Nat) : Int) := by
      rcases Int.lt_trichotomy l' l with a1 | a1 | a1
      · rcases Int.lt_trichotomy h' h with b1 | b1 | b1
        · simp [show ¬ l' = l by omega, show ¬ h ≤ h' by omega, show ¬ h + 1 ≤ h' by omega]
        · subst b1
          simp [show ¬ l' = l by omega, show l' ≤ l by omega, show l' ≤ l - 1 by omega, show ¬ h' + 1 ≤ h' by omega]
        · simp [show ¬ l' = l by omega, show l' ≤ l by omega, show l' ≤ l - 1 by omega, show h + 1 ≤ h' by omega, show h ≤ h' by omega]
      · subst a1
        rcases Int.lt_trichotomy h' h with b1 | b1 | b1
        · simp [show ¬ h' = h by omega, show ¬ h ≤ h' by omega, show ¬ h + 1 ≤ h' by omega]
        · subst b1
          simp [show ¬ l' ≤ l' - 1 by omega, show ¬ h' + 1 ≤ h' by omega]
        · simp [show ¬ h' = h by omega, show ¬ l' ≤ l' - 1 by omega, show h + 1 ≤ h' by omega, show h ≤ h' by omega]
      · simp [show ¬ l' = l by omega, show ¬ l' ≤ l by omega, show ¬ l' ≤ l - 1 by omega]
    omega
theorem cov_perm {S T : List (Int × Int)} (hs : ∀ p ∈ S, p.1 < p.2) (ht : ∀ p ∈ T, p.1 < p.2) (h : ∀ a b, a < b → S.countP (cov a b) = T.countP (cov a b)) : S.Perm T := by
  rw [List.perm_iff_count]
  intro p
  by_cases hp : p.1 < p.2
  · have e1 := count_cov S hs p hp
    have e2 := count_cov T ht p hp
    rw [h _ _ hp, h _ _ (show p.1 - 1 < p.2 by omega), h _ _ (show p.1 < p.2 + 1 by omega), h _ _ (show p.1 - 1 < p.2 + 1 by omega)] at e1
    omega
  · rw [List.count_eq_zero.mpr fun m => hp (hs p m), List.count_eq_zero.mpr fun m => hp (ht p m)]

end
section
local macro_rules | `(tactic| eq_refl) => `(tactic| first
  | refine o_cons ?_ | refine s_nx ?_ | refine o_asg ?_ | refine bd rfl ?_ | refine o_var rfl ?_ | refine o_int ?_ | refine o_bin ?_ | refine o_idx ?_ | refine o_cmp ?_
  | refine o_ite ?_ | refine o_tv ?_ | refine t_bl ?_ | refine o_ret ?_ | refine s_rt ?_ | refine r_rt ?_ | refine o_call ?_ | refine o_es ?_ | refine o_es0 ?_
  | refine o_nil ?_ | refine s_bk ?_ | refine s_ct ?_ | refine r_nx ?_
  | refine o_par ⟨Nat.le_of_ble_eq_true rfl, Nat.le_of_ble_eq_true rfl⟩ ?_ | refine o_par3 ⟨Nat.le_of_ble_eq_true rfl, Nat.le_of_ble_eq_true rfl, Nat.le_of_ble_eq_true rfl⟩ ?_ | refine o_augM rfl (Nat.le_of_ble_eq_true rfl) ?_ | refine o_six ?_ | refine o_exp ?_ | refine o_for ?_ | refine o_brk ?_ | refine o_cnt ?_ | refine o_pass ?_ | refine o_whl ?_
  | refine o_bl ?_ | refine o_str ?_ | refine o_non ?_ | refine o_gli ?_ | refine o_gls ?_ | refine o_neg ?_ | refine o_chn ?_ | refine o_nt ?_
  | refine o_an ?_ | refine o_an1 ?_ | refine o_orr ?_ | refine o_or1 ?_ | refine o_ife ?_ | refine o_tup ?_ | refine o_lst ?_ | refine o_dic0 ?_ | refine o_dic1 ?_ | refine o_slc ?_ | refine o_f1 ?_ | refine o_f2 ?_ | refine o_isi ?_
  | refine o_rg1 ?_ | refine o_rg2 ?_ | refine o_sst ?_ | refine o_lns ?_ | refine o_srr ?_ | refine o_srkR ?_ | refine o_dsub ?_ | refine o_srkP ?_ | refine o_rv0 ?_ | refine o_mmx ?_ | refine o_app ?_ | refine o_mk ?_ | refine o_comp ?_ | refine o_calln ?_
  | refine o_iex ?_ | refine o_ir1 ?_ | refine o_ir2 ?_ | refine o_ien ?_ | refine o_ien1 ?_ | refine o_izp ?_ | refine o_sqT ?_ | refine o_sqL ?_ | refine o_zpT ?_ | refine o_zpL ?_
  | refine o_o0 ?_ | refine o_o1 ?_ | refine o_tnt ?_ | refine o_tan ?_ | refine o_tan1 ?_ | refine o_tor ?_ | refine o_tor1 ?_ | refine o_ot0 ?_ | refine o_ot1 ?_
  | refine o_cF rfl ?_ | refine o_body rfl ?_ | refine isI ?_ | refine capL (by decide) ?_ | refine isB ?_ | refine isL ?_ | refine isT ?_ | refine splT ?_ | refine splF ?_
  | refine b_add ?_ | refine b_sub ?_ | refine b_mod (by decide) ?_ | refine b_div (by decide) ?_ | refine b_pow (by decide) ?_ | refine b_mulA (by decide) ?_ | refine b_mulB (by decide) ?_
  | refine c_lt ?_ | refine c_le ?_ | refine c_gt ?_ | refine c_ge ?_ | refine c_eq ?_ | refine c_ne ?_ | refine c_eqBs ?_ | refine c_neBs ?_ | refine c_eqB ?_ | refine c_neB ?_ | refine c_eqSs ?_ | refine c_neSs ?_ | refine c_eqS ?_ | refine c_neS ?_ | refine c_isN rfl ?_ | refine c_notN rfl ?_
  | refine t_int ?_ | refine t_tup ?_ | refine t_lst ?_ | refine t_non ?_
  | refine f_lenT ?_ | refine f_lenL ?_ | refine f_tupL ?_ | refine f_tupT ?_ | refine f_lstT ?_ | refine f_lstL ?_ | refine f_abs ?_ | refine f_sum ?_ | refine f_all ?_ | refine f_any ?_ | refine f_intI ?_ | refine f_intB ?_
  | refine l_tup ?_ | refine l_lst ?_ | refine l_scr ?_ | refine got rfl ?_
  | refine k_int take_self ?_ | refine k_bl take_self ?_ | refine k_non take_self ?_ | refine k_str take_self ?_ | refine k_int dk_take ?_ | refine k_bl dk_take ?_ | refine k_non dk_take ?_
  | refine tn_nx ?_ | refine tn_ct ?_ | refine tn_bk ?_ | refine tn_rt ?_ | refine x_any rfl ?_ | refine f_lenM rfl ?_ | refine f_tupM rfl ?_
  | refine o_xis ?_ | refine o_xf ?_ | refine o_cntE ⟨rfl, ?_⟩ | refine x_ite ?_ | refine x_asg ?_ | refine x_ret ?_ | refine x_exp ?_ | refine x_call ?_ | refine x_calln ?_ | refine x_rai ?_ | refine x_rai1 ?_ | refine nxP ?_)

/-! ### turns and passages by place -/
def gx (xs : List Int) (i : Nat) : List Int := xs.drop (i + 1) ++ xs.take i
def ne (x z : Int) : Bool := !decide (z = x)
theorem gx_at {xs : List Int} {i k : Nat} (h : i < xs.length) (hk : k < xs.length - 1) : (gx xs i)[k]? = xs[(i + 1 + k) % xs.length]? := by
  unfold gx
  by_cases q : i + 1 + k < xs.length
  · rw [List.getElem?_append_left (by rw [List.length_drop]; omega), List.getElem?_drop, Nat.mod_eq_of_lt q]
  · rw [List.getElem?_append_right (by rw [List.length_drop]; omega), List.length_drop, Nat.mod_eq_sub_mod (by omega), Nat.mod_eq_of_lt (by omega), List.getElem?_take]
    rw [if_pos (by omega)]
    congr 1
    omega
theorem prev_mod {xs : List Int} {i : Nat} (h : i < xs.length) : xs[(i + xs.length - 1) % xs.length]? = some (prev xs i) := by
  have := prev_at h
  unfold atI ixN at this
  by_cases q : i = 0
  · subst q
    rw [if_neg (by decide), if_pos (by omega)] at this
    rw [Nat.mod_eq_of_lt (by omega), ← this]
    show _ = xs[_]?
    congr 1
    omega
  · rw [if_pos (by omega), if_pos (by omega)] at this
    rw [show i + xs.length - 1 = (i - 1) + xs.length by omega, Nat.add_mod_right, Nat.mod_eq_of_lt (by omega), ← this]
    show _ = xs[_]?
    congr 1
    omega
def fwd (xs : List Int) (i : Nat) (x : Int) : Int := ((gx xs i).find? (ne x)).getD 0
theorem fwd_at {xs : List Int} {i : Nat} {x : Int} (h : i < xs.length) (hn : prev xs i ≠ x) (hx : xs[i]? = some x) : (gx xs i).find? (ne x) = some (fwd xs i x) := by
  have h2 : 2 ≤ xs.length := by
    rcases Nat.lt_or_ge xs.length 2 with q | q
    · exfalso
      have e : i = 0 := by omega
      have := prev_mod h
      rw [show (i + xs.length - 1) % xs.length = i by rw [show xs.length = 1 by omega, e], hx] at this
      exact hn (Option.some.inj this).symm
    · exact q
  have hm : prev xs i ∈ gx xs i := by
    have := gx_at h (k := xs.length - 2) (by omega)
    rw [show i + 1 + (xs.length - 2) = i + xs.length - 1 by omega, prev_mod h] at this
    exact List.mem_of_getElem? this
  unfold fwd
  cases e : (gx xs i).find? (ne x) with
  | some y => rfl
  | none =>
    have := List.find?_eq_none.mp e _ hm
    unfold ne at this
    simp [hn] at this
def isTn (xs : List Int) (i : Nat) : Bool := !decide (prev xs i = xs[i]?.getD 0) && (decide (prev xs i < xs[i]?.getD 0) == decide (fwd xs i (xs[i]?.getD 0) < xs[i]?.getD 0))
/-- the heights from behind a place on, once round -/
def gy (xs : List Int) (i : Nat) : List Int := xs.drop (i + 1) ++ xs.take (i + 1)
theorem gy_at {xs : List Int} {i k : Nat} (h : i < xs.length) (hk : k < xs.length) : (gy xs i)[k]? = xs[(i + 1 + k) % xs.length]? := by
  unfold gy
  by_cases q : i + 1 + k < xs.length
  · rw [List.getElem?_append_left (by rw [List.length_drop]; omega), List.getElem?_drop, Nat.mod_eq_of_lt q]
  · rw [List.getElem?_append_right (by rw [List.length_drop]; omega), List.length_drop, Nat.mod_eq_sub_mod (by omega), Nat.mod_eq_of_lt (by omega), List.getElem?_take]
    rw [if_pos (by omega)]
    congr 1
    omega
def dec (lo hi x : Int) : Bool := decide (x ≤ lo) || decide (hi ≤ x)
def nxd (xs : List Int) (i : Nat) (lo hi : Int) : Int := ((gy xs i).find? (dec lo hi)).getD 0
theorem nxd_at {xs : List Int} {i : Nat} {x lo hi : Int} (hx : xs[i]? = some x) (hlo : x ≤ lo) : (gy xs i).find? (dec lo hi) = some (nxd xs i lo hi) := by
  have h : i < xs.length := (List.getElem?_eq_some_iff.mp hx).1
  have hm : x ∈ gy xs i := by
    have := gy_at h (k := xs.length - 1) (by omega)
    rw [show i + 1 + (xs.length - 1) = i + xs.length by omega, Nat.add_mod_right, Nat.mod_eq_of_lt h, hx] at this
    exact List.mem_of_getElem? this
  unfold nxd
  cases e : (gy xs i).find? (dec lo hi) with
  | some y => rfl
  | none =>
    have := List.find?_eq_none.mp e _ hm
    unfold dec at this
    simp [hlo] at this
def psB (xs : List Int) (lo hi : Int) (i : Nat) : Bool := decide (xs[i]?.getD 0 ≤ lo) && decide (hi ≤ nxd xs i lo hi)
def psP (xs : List Int) (lo hi : Int) : List Int := ((List.range xs.length).filter (psB xs lo hi)).map fun (i : Nat) => (i : Int)

def gt (xs : List Int) (i : Nat) : Int := xs[i]?.getD 0
theorem gt_at {xs : List Int} {i : Nat} (h : i < xs.length) : xs[i]? = some (gt xs i) := by
  unfold gt
  rw [List.getElem?_eq_getElem h]
  rfl
theorem gt_mem {xs : List Int} {i : Nat} (h : i < xs.length) : gt xs i ∈ xs := List.mem_of_getElem? (gt_at h)
theorem tw_idx : ∀ (r : List Int) (l : Int) (E : List Int), tw l r E = ((List.range r.length).filter fun k => tnB (lst l (r.take k)) (gt r k) (nd (gt r k) (r.drop (k + 1) ++ E))).map (gt r)
  | [], l, E => rfl
  | x :: r, l, E => by
    rw [List.length_cons, List.range_succ_eq_map, List.filter_cons, List.filter_map]
    have e : ∀ (F : List Nat), (F.map Nat.succ).map (gt (x :: r)) = F.map (gt r) := fun F => by rw [List.map_map]; rfl
    have ih := tw_idx r x E
    have e2 : ((List.range r.length).filter ((fun k => tnB (lst l ((x :: r).take k)) (gt (x :: r) k) (nd (gt (x :: r) k) ((x :: r).drop (k + 1) ++ E))) ∘ Nat.succ)) = (List.range r.length).filter fun k => tnB (lst x (r.take k)) (gt r k) (nd (gt r k) (r.drop (k + 1) ++ E)) := by
      congr 1
      funext k
      show tnB (lst l (x :: r.take k)) _ _ = _
      rw [lst_cons]
      rfl
    rw [e2]
    show (if tnB l x (nd x (r ++ E)) then x :: tw x r E else tw x r E) = _
    by_cases q : tnB l x (nd x (r ++ E)) = true
    · rw [if_pos q, if_pos (show tnB (lst l ((x :: r).take 0)) (gt (x :: r) 0) (nd (gt (x :: r) 0) ((x :: r).drop (0 + 1) ++ E)) = true from q), List.map_cons, e, ← ih]
      rfl
    · rw [if_neg q, if_neg (show ¬ tnB (lst l ((x :: r).take 0)) (gt (x :: r) 0) (nd (gt (x :: r) 0) ((x :: r).drop (0 + 1) ++ E)) = true from q), e, ← ih]
theorem prev_lst {xs : List Int} {k : Nat} (h : k < xs.length) : lst (lst 0 xs) (xs.take k) = prev xs k := by
  have hp := prev_mod h
  by_cases q : k = 0
  · subst q
    rw [Nat.zero_add, Nat.mod_eq_of_lt (by omega)] at hp
    show lst 0 xs = _
    unfold lst
    rw [List.getLast?_eq_getElem?, hp]
    rfl
  · rw [show k + xs.length - 1 = (k - 1) + xs.length by omega, Nat.add_mod_right, Nat.mod_eq_of_lt (by omega)] at hp
    unfold lst
    rw [List.getLast?_eq_getElem?, List.length_take, Nat.min_eq_left (by omega), List.getElem?_take, if_pos (by omega), hp]
    rfl
theorem nd_gx {xs : List Int} {k : Nat} (h : k < xs.length) : nd (gt xs k) (xs.drop (k + 1) ++ xs) = nd (gt xs k) (gx xs k) := by
  have e : xs = xs.take k ++ gt xs k :: xs.drop (k + 1) := by
    have h1 := List.getElem?_eq_some_iff.mp (gt_at h)
    obtain ⟨_, h1⟩ := h1
    rw [← h1, List.getElem_cons_drop, List.take_append_drop]
  by_cases q : ∃ y ∈ gx xs k, y ≠ gt xs k
  · have e2 : xs.drop (k + 1) ++ xs = gx xs k ++ (gt xs k :: xs.drop (k + 1)) := by
      unfold gx
      rw [List.append_assoc, ← e]
    rw [e2, nd_app q]
  · have a1 : ∀ y ∈ gx xs k, y = gt xs k := fun y m => by
      apply Classical.byContradiction
      intro z
      exact q ⟨y, m, z⟩
    have no : ∀ (L : List Int), (∀ y ∈ L, y = gt xs k) → nd (gt xs k) L = gt xs k := fun L hL => by
      unfold nd
      rw [List.find?_eq_none.mpr fun y m => by simp [hL y m]]
      rfl
    rw [no _ a1, no]
    intro y m
    rcases List.mem_append.mp m with m | m
    · exact a1 y (List.mem_append_left _ m)
    · rw [e] at m
      rcases List.mem_append.mp m with m | m
      · exact a1 y (List.mem_append_right _ m)
      · rcases List.mem_cons.mp m with z | m
        · exact z
        · exact a1 y (List.mem_append_left _ m)
theorem isT_tn {xs : List Int} {k : Nat} (h : k < xs.length) : isTn xs k = tnB (prev xs k) (gt xs k) (nd (gt xs k) (gx xs k)) := by
  unfold isTn tnB
  show (!decide (prev xs k = gt xs k) && (decide (prev xs k < gt xs k) == decide (fwd xs k (gt xs k) < gt xs k))) = _
  by_cases q : prev xs k = gt xs k
  · rw [decide_eq_true q]; rfl
  · have := fwd_at h q (gt_at h)
    have e : nd (gt xs k) (gx xs k) = fwd xs k (gt xs k) := by
      unfold nd
      rw [show (fun y => !decide (y = gt xs k)) = ne (gt xs k) from rfl, this]
      rfl
    rw [e]
/-- the turning places -/
def tpl (xs : List Int) : List Nat := (List.range xs.length).filter (isTn xs)
theorem tz_tpl {xs : List Int} : tz xs = (tpl xs).map (gt xs) := by
  unfold tz tpl
  rw [tw_idx]
  congr 1
  refine List.filter_congr fun k m => ?_
  have h := List.mem_range.mp m
  rw [prev_lst h, nd_gx h, isT_tn h]
theorem tpl_lt {xs : List Int} {i : Nat} (h : i ∈ tpl xs) : i < xs.length := List.mem_range.mp (List.mem_filter.mp h).1
theorem tpl_nodup (xs : List Int) : (tpl xs).Nodup := List.Pairwise.filter _ List.nodup_range
/-- the removal begins -/
theorem kept_first {xs : List Int} (hx : xs ≠ []) : Kept xs (gt xs) (tpl xs).length (tpl xs) [] := by
  obtain ⟨h1, h2, h3⟩ := tz_ok hx
  rw [tz_tpl] at h1 h2 h3
  refine ⟨?_, tpl_nodup xs, fun a b hab => by rw [h2 a b hab]; simp, by rw [h3]; simp, by simp, fun p m => (nomatch m), fun p m => (nomatch m), fun i m => gt_mem (tpl_lt m)⟩
  rcases h1 with h1 | h1
  · exact .inl (List.map_eq_nil_iff.mp h1.1)
  · exact .inr h1
/-! ### passages, counted where they begin -/
def hiB (lo hi : Int) (L : List Int) : Bool := match L.find? (dec lo hi) with
  | some y => decide (hi ≤ y)
  | none => false
def cl (lo hi : Int) : List Int → List Int → Nat
  | [], _ => 0
  | x :: r, E => (if decide (x ≤ lo) && hiB lo hi (r ++ E) then 1 else 0) + cl lo hi r E
def b2n (b : Bool) : Nat := if b then 1 else 0
theorem hiB_cons {lo hi x : Int} {L : List Int} : hiB lo hi (x :: L) = if dec lo hi x then decide (hi ≤ x) else hiB lo hi L := by
  unfold hiB
  rw [List.find?_cons]
  cases dec lo hi x <;> rfl
theorem cl_run {lo hi : Int} (h : lo < hi) : ∀ (r E : List Int) (p : Bool), run lo hi p r + b2n (!fin' lo hi p r && hiB lo hi E) = cl lo hi r E + b2n (!p && hiB lo hi (r ++ E))
  | [], E, p => by show 0 + _ = 0 + _; rfl
  | x :: r, E, p => by
    have ih := cl_run h r E (mk' lo hi p x)
    show co' lo hi p x + run lo hi (mk' lo hi p x) r + b2n (!fin' lo hi (mk' lo hi p x) r && hiB lo hi E) = (if decide (x ≤ lo) && hiB lo hi (r ++ E) then 1 else 0) + cl lo hi r E + b2n (!p && hiB lo hi (x :: (r ++ E)))
    rw [Nat.add_assoc, ih, hiB_cons]
    unfold dec
    by_cases h1 : x ≤ lo
    · have e1 : mk' lo hi p x = false := if_pos h1
      have e2 : co' lo hi p x = 0 := if_pos h1
      rw [e1, e2, decide_eq_true h1, decide_eq_false (show ¬ hi ≤ x by omega)]
      cases hiB lo hi (r ++ E) <;> cases p <;> simp [b2n] <;> omega
    · by_cases h2 : hi ≤ x
      · have e1 : mk' lo hi p x = true := by unfold mk'; rw [if_neg h1, if_pos h2]
        have e2 : co' lo hi p x = if p then 0 else 1 := by unfold co'; rw [if_neg h1, if_pos h2]
        rw [e1, e2, decide_eq_false h1, decide_eq_true h2]
        cases p <;> simp [b2n] <;> omega
      · have e1 : mk' lo hi p x = p := by unfold mk'; rw [if_neg h1, if_neg h2]
        have e2 : co' lo hi p x = 0 := by unfold co'; rw [if_neg h1, if_neg h2]
        rw [e1, e2, decide_eq_false h1, decide_eq_false h2]
        simp
theorem fin_fin {lo hi : Int} (xs : List Int) (p : Bool) : fin' lo hi (fin' lo hi p xs) xs = fin' lo hi p xs := by
  rcases fin_or (a := lo) (b := hi) xs with ⟨e, h⟩ | h
  · rw [h, h]
  · rw [(h _).1]
theorem hiB_self {lo hi : Int} (xs : List Int) : hiB lo hi (xs ++ xs) = hiB lo hi xs := by
  unfold hiB
  rw [List.find?_append]
  cases xs.find? (dec lo hi) <;> rfl
theorem pas_cl {lo hi : Int} (h : lo < hi) (xs : List Int) : pas lo hi xs = cl lo hi xs xs := by
  have := cl_run h xs xs (fin' lo hi false xs)
  rw [fin_fin, hiB_self] at this
  unfold pas
  omega
theorem cl_idx {lo hi : Int} : ∀ (r E : List Int), cl lo hi r E = ((List.range r.length).filter fun k => decide (gt r k ≤ lo) && hiB lo hi (r.drop (k + 1) ++ E)).length
  | [], E => rfl
  | x :: r, E => by
    rw [List.length_cons, List.range_succ_eq_map, List.filter_cons, List.filter_map]
    have ih := cl_idx (lo := lo) (hi := hi) r E
    show (if decide (x ≤ lo) && hiB lo hi (r ++ E) then 1 else 0) + cl lo hi r E = _
    have e2 : ((List.range r.length).filter ((fun k => decide (gt (x :: r) k ≤ lo) && hiB lo hi ((x :: r).drop (k + 1) ++ E)) ∘ Nat.succ)) = (List.range r.length).filter fun k => decide (gt r k ≤ lo) && hiB lo hi (r.drop (k + 1) ++ E) := rfl
    rw [e2, ih]
    by_cases q : (decide (x ≤ lo) && hiB lo hi (r ++ E)) = true
    · rw [if_pos q, if_pos (show (decide (gt (x :: r) 0 ≤ lo) && hiB lo hi ((x :: r).drop (0 + 1) ++ E)) = true from q), List.length_cons, List.length_map]
      omega
    · rw [if_neg q, if_neg (show ¬ (decide (gt (x :: r) 0 ≤ lo) && hiB lo hi ((x :: r).drop (0 + 1) ++ E)) = true from q), List.length_map]
      omega
theorem psP_len {lo hi : Int} (h : lo < hi) (xs : List Int) : (psP xs lo hi).length = pas lo hi xs := by
  rw [pas_cl h, cl_idx]
  unfold psP
  rw [List.length_map]
  congr 1
  refine List.filter_congr fun k m => ?_
  have hk := List.mem_range.mp m
  unfold psB
  show (decide (gt xs k ≤ lo) && _) = _
  by_cases q : gt xs k ≤ lo
  · rw [decide_eq_true q, Bool.true_and, Bool.true_and]
    have e := nxd_at (hi := hi) (gt_at hk) q
    unfold hiB
    have e2 : xs.drop (k + 1) ++ xs = gy xs k ++ xs.drop (k + 1) := by
      unfold gy
      rw [List.append_assoc, List.take_append_drop]
    rw [e2, List.find?_append, e]
    rfl
  · rw [decide_eq_false q, Bool.false_and, Bool.false_and]
/-! ### marks -/
def mks (lo hi : Int) (xs : List Int) : List Bool := (xs.filter (dec lo hi)).map fun h => decide (hi ≤ h)
def up : Bool → List Bool → Nat
  | _, [] => 0
  | p, x :: r => b2n (x && !p) + up x r
def dn : Bool → List Bool → Nat
  | _, [] => 0
  | p, x :: r => b2n (p && !x) + dn x r
def lsb (l : Bool) (r : List Bool) : Bool := (r.getLast?).getD l
theorem lsb_cons {l x : Bool} {r : List Bool} : lsb l (x :: r) = lsb x r := by
  unfold lsb
  cases r with
  | nil => rfl
  | cons y Y => rw [List.getLast?_cons_cons, List.getLast?_eq_some_getLast (show y :: Y ≠ [] by simp)]; rfl
theorem run_up {lo hi : Int} (hlt : lo < hi) : ∀ (xs : List Int) (p : Bool), run lo hi p xs = up p (mks lo hi xs) ∧ fin' lo hi p xs = lsb p (mks lo hi xs)
  | [], p => ⟨rfl, rfl⟩
  | x :: r, p => by
    have ih := run_up hlt r (mk' lo hi p x)
    show co' lo hi p x + run lo hi (mk' lo hi p x) r = _ ∧ fin' lo hi (mk' lo hi p x) r = _
    rw [ih.1, ih.2]
    unfold mks
    rw [List.filter_cons]
    by_cases h1 : x ≤ lo
    · by_cases h2 : hi ≤ x
      · omega
      · have e1 : mk' lo hi p x = false := if_pos h1
        have e2 : co' lo hi p x = 0 := if_pos h1
        rw [e1, e2, if_pos (by simp [dec, h1]), List.map_cons, decide_eq_false h2, lsb_cons]
        exact ⟨by show 0 + _ = b2n (false && !p) + _; simp [b2n], rfl⟩
    · by_cases h2 : hi ≤ x
      · have e1 : mk' lo hi p x = true := by unfold mk'; rw [if_neg h1, if_pos h2]
        have e2 : co' lo hi p x = if p then 0 else 1 := by unfold co'; rw [if_neg h1, if_pos h2]
        rw [e1, e2, if_pos (show dec lo hi x = true by simp [dec, h2]), List.map_cons, decide_eq_true h2, lsb_cons]
        exact ⟨by show _ = b2n (true && !p) + _; cases p <;> simp [b2n], rfl⟩
      · have e1 : mk' lo hi p x = p := by unfold mk'; rw [if_neg h1, if_neg h2]
        have e2 : co' lo hi p x = 0 := by unfold co'; rw [if_neg h1, if_neg h2]
        rw [e1, e2, if_neg (by simp [dec, h1, h2])]
        exact ⟨by simp, rfl⟩

theorem pas_up {lo hi : Int} (h : lo < hi) (xs : List Int) : pas lo hi xs = up (lsb false (mks lo hi xs)) (mks lo hi xs) := by
  unfold pas
  rw [(run_up h xs _).1, (run_up h xs _).2]
def prvB (ms : List Bool) (k : Nat) : Bool := lsb (lsb false ms) (ms.take k)
end
section
local macro_rules | `(tactic| eq_refl) => `(tactic| first
  | refine o_cons ?_ | refine s_nx ?_ | refine o_asg ?_ | refine bd rfl ?_ | refine o_var rfl ?_ | refine o_int ?_ | refine o_bin ?_ | refine o_idx ?_ | refine o_cmp ?_
  | refine o_ite ?_ | refine o_tv ?_ | refine t_bl ?_ | refine o_ret ?_ | refine s_rt ?_ | refine r_rt ?_ | refine o_call ?_ | refine o_es ?_ | refine o_es0 ?_
  | refine o_nil ?_ | refine s_bk ?_ | refine s_ct ?_ | refine r_nx ?_
  | refine o_par ⟨Nat.le_of_ble_eq_true rfl, Nat.le_of_ble_eq_true rfl⟩ ?_ | refine o_par3 ⟨Nat.le_of_ble_eq_true rfl, Nat.le_of_ble_eq_true rfl, Nat.le_of_ble_eq_true rfl⟩ ?_ | refine o_augM rfl (Nat.le_of_ble_eq_true rfl) ?_ | refine o_six ?_ | refine o_exp ?_ | refine o_for ?_ | refine o_brk ?_ | refine o_cnt ?_ | refine o_pass ?_ | refine o_whl ?_
  | refine o_bl ?_ | refine o_str ?_ | refine o_non ?_ | refine o_gli ?_ | refine o_gls ?_ | refine o_neg ?_ | refine o_chn ?_ | refine o_nt ?_
  | refine o_an ?_ | refine o_an1 ?_ | refine o_orr ?_ | refine o_or1 ?_ | refine o_ife ?_ | refine o_tup ?_ | refine o_lst ?_ | refine o_dic0 ?_ | refine o_dic1 ?_ | refine o_slc ?_ | refine o_f1 ?_ | refine o_f2 ?_ | refine o_isi ?_
  | refine o_rg1 ?_ | refine o_rg2 ?_ | refine o_sst ?_ | refine o_lns ?_ | refine o_srr ?_ | refine o_srkR ?_ | refine o_dsub ?_ | refine o_srkP ?_ | refine o_rv0 ?_ | refine o_mmx ?_ | refine o_app ?_ | refine o_mk ?_ | refine o_comp ?_ | refine o_calln ?_
  | refine o_iex ?_ | refine o_ir1 ?_ | refine o_ir2 ?_ | refine o_ien ?_ | refine o_ien1 ?_ | refine o_izp ?_ | refine o_sqT ?_ | refine o_sqL ?_ | refine o_zpT ?_ | refine o_zpL ?_
  | refine o_o0 ?_ | refine o_o1 ?_ | refine o_tnt ?_ | refine o_tan ?_ | refine o_tan1 ?_ | refine o_tor ?_ | refine o_tor1 ?_ | refine o_ot0 ?_ | refine o_ot1 ?_
  | refine o_cF rfl ?_ | refine o_body rfl ?_ | refine isI ?_ | refine capL (by decide) ?_ | refine isB ?_ | refine isL ?_ | refine isT ?_ | refine splT ?_ | refine splF ?_
  | refine b_add ?_ | refine b_sub ?_ | refine b_mod (by decide) ?_ | refine b_div (by decide) ?_ | refine b_pow (by decide) ?_ | refine b_mulA (by decide) ?_ | refine b_mulB (by decide) ?_
  | refine c_lt ?_ | refine c_le ?_ | refine c_gt ?_ | refine c_ge ?_ | refine c_eq ?_ | refine c_ne ?_ | refine c_eqBs ?_ | refine c_neBs ?_ | refine c_eqB ?_ | refine c_neB ?_ | refine c_eqSs ?_ | refine c_neSs ?_ | refine c_eqS ?_ | refine c_neS ?_ | refine c_isN rfl ?_ | refine c_notN rfl ?_
  | refine t_int ?_ | refine t_tup ?_ | refine t_lst ?_ | refine t_non ?_
  | refine f_lenT ?_ | refine f_lenL ?_ | refine f_tupL ?_ | refine f_tupT ?_ | refine f_lstT ?_ | refine f_lstL ?_ | refine f_abs ?_ | refine f_sum ?_ | refine f_all ?_ | refine f_any ?_ | refine f_intI ?_ | refine f_intB ?_
  | refine l_tup ?_ | refine l_lst ?_ | refine l_scr ?_ | refine got rfl ?_
  | refine k_int take_self ?_ | refine k_bl take_self ?_ | refine k_non take_self ?_ | refine k_str take_self ?_ | refine k_int dk_take ?_ | refine k_bl dk_take ?_ | refine k_non dk_take ?_
  | refine tn_nx ?_ | refine tn_ct ?_ | refine tn_bk ?_ | refine tn_rt ?_ | refine x_any rfl ?_ | refine f_lenM rfl ?_ | refine f_tupM rfl ?_
  | refine o_xis ?_ | refine o_xf ?_ | refine o_cntE ⟨rfl, ?_⟩ | refine x_ite ?_ | refine x_asg ?_ | refine x_ret ?_ | refine x_exp ?_ | refine x_call ?_ | refine x_calln ?_ | refine x_rai ?_ | refine x_rai1 ?_ | refine nxP ?_)

/-! ### the program's turns, passages, swings -/
theorem cut_from1 {xs : List D} {k : Nat} : RS.cutD xs (some ((k : Int) + 1)) none = xs.drop (k + 1) := cut_from (k := k + 1)
theorem cut_to1 {xs : List D} {k : Nat} : RS.cutD xs none (some ((k : Int) + 1)) = xs.take (k + 1) := cut_to (k := k + 1)
def bND : List C :=
   [.asg (.nm 2) (.bin .add (.slc (.var 0) (some (.bin .add (.var 1) (.cst (.int 1)))) none) (.slc (.var 0) none (some (.var 1)))),
    .ret (.idx (.comp (.var 3) (.nm 3) (.ex (.var 2)) (some (.v (.cmp .NotEq (.var 3) (.idx (.var 0) (.var 1))))) [("height", 3)]) (.cst (.int 0)))]
def bIT (a : Nat) : List C :=
   [.par 2 3 (.idx (.var 0) (.bin .sub (.var 1) (.cst (.int 1)))) (.idx (.var 0) (.var 1)),
    .ret (.an (.cmp .NotEq (.var 2) (.var 3)) (.an1 (.cmp .Eq (.cmp .Lt (.var 2) (.var 3)) (.cmp .Lt (.call a [(.var 0), (.var 1)]) (.var 3)))))]
def bTP (a : Nat) : List C :=
   [.ret (.f1 .tuple (.comp (.var 1) (.nm 1) (.r1 (.f1 .len (.var 0))) (some (.v (.call a [(.var 0), (.var 1)]))) [("place", 1)]))]
def bMV : List C :=
   [.ret (.f1 .sum (.comp (.f1 .abs (.bin .sub (.var 2) (.idx (.var 0) (.bin .sub (.var 1) (.cst (.int 1)))))) (.tp [(.nm 1), (.nm 2)]) (.en (.var 0)) none [("place", 1), ("height", 2)]))]
def bNDc : List C :=
   [.asg (.nm 4) (.bin .add (.slc (.var 0) (some (.bin .add (.var 1) (.cst (.int 1)))) none) (.slc (.var 0) none (some (.bin .add (.var 1) (.cst (.int 1)))))),
    .ret (.idx (.comp (.var 5) (.nm 5) (.ex (.var 4)) (some (.orr (.v (.cmp .LtE (.var 5) (.var 2))) (.or1 (.v (.cmp .GtE (.var 5) (.var 3)))))) [("height", 5)]) (.cst (.int 0)))]
def bPP (a : Nat) : List C :=
   [.asg (.nm 3) (.comp (.var 4) (.tp [(.nm 4), (.nm 5)]) (.en (.var 0)) (some (.v (.cmp .LtE (.var 5) (.var 1)))) [("place", 4), ("height", 5)]),
    .ret (.f1 .tuple (.comp (.var 4) (.nm 4) (.ex (.var 3)) (some (.v (.cmp .GtE (.call a [(.var 0), (.var 4), (.var 1), (.var 2)]) (.var 2)))) [("place", 4)]))]
def bCP (a : Nat) : List C :=
   [.ret (.f1 .len (.call a [(.var 0), (.var 1), (.var 2)]))]
def bVF : List C :=
   [.ret (.ife (.v (.cmp .Lt (.idx (.var 0) (.var 1)) (.idx (.var 0) (.var 2)))) (.tup [(.var 1), (.var 2)]) (.tup [(.var 2), (.var 1)]))]
def bFL : List C :=
   [.asg (.nm 2) (.bin .add (.slc (.var 1) (some (.cst (.int 1))) none) (.slc (.var 1) none (some (.cst (.int 1))))),
    .asg (.nm 3) (.comp (.f1 .abs (.bin .sub (.idx (.var 0) (.var 4)) (.idx (.var 0) (.var 5)))) (.tp [(.nm 4), (.nm 5)]) (.zp (.var 1) (.var 2)) none [("one", 4), ("other", 5)]),
    .ret (.ixo (.var 3) (.f1 .min (.var 3)))]
def bFR (iT iV iF : Nat) : List C :=
   [.asg (.nm 1) (.f1 .list (.call iT [(.var 0)])),
    .asg (.nm 2) (.mk (.lst [])),
    .whl (.v (.cmp .Gt (.f1 .len (.var 1)) (.cst (.int 2)))) [.asg (.nm 3) (.call iF [(.var 0), (.var 1)]),
    .asg (.nm 4) (.call iV [(.var 0), (.idx (.var 1) (.var 3)), (.idx (.var 1) (.bin .mod (.bin .add (.var 3) (.cst (.int 1))) (.f1 .len (.var 1))))]),
    .exp (.app (.var 2) (.var 4)),
    .asg (.nm 1) (.comp (.var 5) (.nm 5) (.ex (.var 1)) (some (.v (.cmp .NotIn (.var 5) (.var 4)))) [("place", 5)])],
    .ite (.v (.cmp .NotEq (.var 1) (.lst []))) [.exp (.app (.var 2) (.call iV [(.var 0), (.idx (.var 1) (.cst (.int 0))), (.idx (.var 1) (.cst (.int 1)))]))] [],
    .ret (.f1 .tuple (.var 2))]
def bSW (iR : Nat) : List C :=
   [.ret (.f1 .tuple (.f1 .sorted (.comp (.tup [(.idx (.var 0) (.var 1)), (.idx (.var 0) (.var 2))]) (.tp [(.nm 1), (.nm 2)]) (.ex (.call iR [(.var 0)])) none [("valley", 1), ("peak", 2)])))]
abbrev dNt (R : List Nat) : List D := R.map fun (i : Nat) => D.int (i : Int)
abbrev dNP (p : Nat × Nat) : D := .tup [.int (p.1 : Int), .int (p.2 : Int)]
abbrev dNPs (ps : List (Nat × Nat)) : List D := ps.map dNP
theorem purs_Nt : ∀ R : List Nat, purs (dNt R) = true
  | [] => rfl
  | _ :: R => purs_Nt R
theorem purs_NP : ∀ R : List (Nat × Nat), purs (dNPs R) = true
  | [] => rfl
  | _ :: R => purs_NP R
theorem purs_P : ∀ R : List II, purs (dPs R) = true
  | [] => rfl
  | _ :: R => purs_P R
section
variable {fns : List Fn} {fuel : Nat}
theorem nxDiff {a k i : Nat} (f : IsF fns a 2 4 bND) {x y : Int} {xs : List Int} {s : S} {Φ : D → S → Prop} (l : xs.length ≤ 1000) (hx : xs[i]? = some x) (hy : (gx xs i).find? (ne x) = some y) (h : Φ (.int y) s) :
    OFn (evF fns fuel (k + 1) a [.tup (dI xs), .int i] s) Φ := by
  refine o_isF (ρ0 := [some (.tup (dI xs)), some (.int i), none, none]) f rfl rfl ?_
  repeat eq_refl
  rw [cut_from1, cut_to]
  refine b_addT (capN (by simp; omega)) ?_
  rw [← List.map_drop, ← List.map_take, ← List.map_append]
  repeat eq_refl
  refine o_clF (ne x) .int (gx xs i) (fun z m => ?_) ?_
  · repeat eq_refl
    refine x_tup (d := .int x) (atI_at (by simp [hx])) ?_
    repeat eq_refl
    refine ⟨fun q => ?_, fun q => ?_⟩
    · have q : ne x z = true := q
      repeat eq_refl
      rw [q]
      exact ⟨rfl, rfl⟩
    · have q : ne x z = false := q
      rw [q]
      exact ⟨rfl, rfl⟩
  · repeat eq_refl
    refine x_lst (d := .int y) (atI_at (k := 0) ?_) ?_
    · have : ((gx xs i).filter (ne x))[0]? = some y := by rw [← List.head?_eq_getElem?, List.head?_filter, hy]
      simp [this]
    repeat eq_refl
    exact h
theorem isTurn {a b k i : Nat} (fa : IsF fns a 2 4 bND) (f : IsF fns b 2 4 (bIT a)) {xs : List Int} {s : S} {Φ : D → S → Prop} (l : xs.length ≤ 1000) (hi : i < xs.length) (h : Φ (.bl (isTn xs i)) s) :
    OFn (evF fns fuel (k + 2) b [.tup (dI xs), .int i] s) Φ := by
  obtain ⟨x, hx⟩ : ∃ x, xs[i]? = some x := ⟨xs[i], List.getElem?_eq_getElem hi⟩
  have hx' : atI (dI xs) (i : Int) = some (.int x) := atI_at (by simp [hx])
  refine o_isF (ρ0 := [some (.tup (dI xs)), some (.int i), none, none]) f rfl rfl ?_
  repeat eq_refl
  refine x_tup (by rw [atI_map, prev_at hi]; rfl) ?_
  repeat eq_refl
  refine x_tup hx' ?_
  repeat eq_refl
  unfold isTn at h
  rw [show xs[i]?.getD 0 = x by rw [hx]; rfl] at h
  refine ⟨fun q => ?_, fun q => ?_⟩
  · rw [q, Bool.true_and] at h
    repeat eq_refl
    refine nxDiff fa l hx (fwd_at hi (by simpa using q) hx) ?_
    repeat eq_refl
    exact h
  · rw [q, Bool.false_and] at h
    repeat eq_refl
    exact h
theorem turnPl {a b c k : Nat} (fa : IsF fns a 2 4 bND) (fb : IsF fns b 2 4 (bIT a)) (f : IsF fns c 1 2 (bTP b)) {xs : List Int} {s : S} {Φ : D → S → Prop} (l : xs.length ≤ 1000) (h : Φ (.tup (dNt (tpl xs))) s) :
    OFn (evF fns fuel (k + 3) c [.tup (dI xs)] s) Φ := by
  refine o_isF (ρ0 := [some (.tup (dI xs)), none]) f rfl rfl ?_
  repeat eq_refl
  refine ⟨by rw [List.length_map]; unfold CAP; omega, ?_⟩
  rw [List.length_map, range0]
  refine o_clF (isTn xs) (fun i => .int i) (List.range xs.length) (fun i m => ?_) ?_
  · repeat eq_refl
    refine isTurn fa fb l (by simpa using m) ?_
    repeat eq_refl
    refine ⟨fun q => ?_, fun q => ?_⟩
    · repeat eq_refl
      rw [q]
      exact ⟨rfl, rfl⟩
    · rw [q]
      exact ⟨rfl, rfl⟩
  · repeat eq_refl
    exact h
theorem zip_gt (xs : List Int) : xs.zipIdx = (List.range xs.length).map fun i => (gt xs i, i) := by
  apply List.ext_getElem?
  intro i
  rw [List.getElem?_zipIdx, List.getElem?_map]
  by_cases hil : i < xs.length
  · rw [List.getElem?_range hil, gt_at hil]
    simp
  · rw [List.getElem?_eq_none (by omega), List.getElem?_eq_none (by simp; omega)]; rfl
theorem nxDec {a k i : Nat} (f : IsF fns a 4 6 bNDc) {x lo hi : Int} {xs : List Int} {s : S} {Φ : D → S → Prop} (l : xs.length ≤ 1000) (hx : xs[i]? = some x) (hlo : x ≤ lo) (h : Φ (.int (nxd xs i lo hi)) s) :
    OFn (evF fns fuel (k + 1) a [.tup (dI xs), .int i, .int lo, .int hi] s) Φ := by
  refine o_isF (ρ0 := [some (.tup (dI xs)), some (.int i), some (.int lo), some (.int hi), none, none]) f rfl rfl ?_
  repeat eq_refl
  rw [cut_from1, cut_to1]
  refine b_addT (capN (by simp; omega)) ?_
  rw [← List.map_drop, ← List.map_take, ← List.map_append]
  repeat eq_refl
  refine o_clF (dec lo hi) .int (gy xs i) (fun z m => ?_) ?_
  · repeat eq_refl
    refine ⟨fun q => ?_, fun q => ?_⟩
    · repeat eq_refl
      rw [show dec lo hi z = true by unfold dec; rw [q]; rfl]
      exact ⟨rfl, rfl⟩
    · repeat eq_refl
      refine ⟨fun q2 => ?_, fun q2 => ?_⟩
      · repeat eq_refl
        rw [show dec lo hi z = true by unfold dec; rw [q, q2]; rfl]
        exact ⟨rfl, rfl⟩
      · rw [show dec lo hi z = false by unfold dec; rw [q, q2]; rfl]
        exact ⟨rfl, rfl⟩
  · repeat eq_refl
    refine x_lst (d := .int (nxd xs i lo hi)) (atI_at (k := 0) ?_) ?_
    · have : ((gy xs i).filter (dec lo hi))[0]? = some (nxd xs i lo hi) := by rw [← List.head?_eq_getElem?, List.head?_filter, nxd_at hx hlo]
      simp [this]
    repeat eq_refl
    exact h
theorem passPl {a b k : Nat} (fa : IsF fns a 4 6 bNDc) (f : IsF fns b 3 6 (bPP a)) {lo hi : Int} {xs : List Int} {s : S} {Φ : D → S → Prop} (l : xs.length ≤ 1000) (h : Φ (.tup (dI (psP xs lo hi))) s) :
    OFn (evF fns fuel (k + 2) b [.tup (dI xs), .int lo, .int hi] s) Φ := by
  refine o_isF (ρ0 := [some (.tup (dI xs)), some (.int lo), some (.int hi), none, none, none]) f rfl rfl ?_
  repeat eq_refl
  rw [mapIdx_dI]
  refine o_clF (fun p => decide (p.1 ≤ lo)) (fun p => .int (p.2 : Nat)) xs.zipIdx (fun p m => ?_) ?_
  · repeat eq_refl
    refine ⟨fun q => ?_, fun q => ?_⟩
    · repeat eq_refl
      rw [q]
      exact ⟨rfl, rfl⟩
    · rw [q]
      exact ⟨rfl, rfl⟩
  · repeat eq_refl
    refine o_clF (fun p : Int × Nat => decide (hi ≤ nxd xs p.2 lo hi)) (fun p => .int (p.2 : Nat)) (xs.zipIdx.filter fun p => decide (p.1 ≤ lo)) (fun p m => ?_) ?_
    · obtain ⟨m1, m2⟩ := List.mem_filter.mp m
      obtain ⟨x, i⟩ := p
      have hx : xs[i]? = some x := List.mk_mem_zipIdx_iff_getElem?.mp m1
      repeat eq_refl
      refine nxDec fa l hx (of_decide_eq_true m2) ?_
      repeat eq_refl
      refine ⟨fun q => ?_, fun q => ?_⟩
      · repeat eq_refl
        rw [q]
        exact ⟨rfl, rfl⟩
      · rw [q]
        exact ⟨rfl, rfl⟩
    · repeat eq_refl
      have e : List.map (fun p : Int × Nat => D.int p.2) (List.filter (fun p => decide (hi ≤ nxd xs p.2 lo hi)) (List.filter (fun p => decide (p.1 ≤ lo)) xs.zipIdx)) = dI (psP xs lo hi) := by
        rw [zip_gt, List.filter_filter, List.filter_map]
        unfold psP dI
        rw [List.map_map, List.map_map]
        congr 1
        congr 1
        funext i
        show (decide (hi ≤ nxd xs i lo hi) && decide (gt xs i ≤ lo)) = psB xs lo hi i
        unfold psB
        rw [Bool.and_comm]
        rfl
      rw [e]
      exact h
theorem countP {a b c k : Nat} (fa : IsF fns a 4 6 bNDc) (fb : IsF fns b 3 6 (bPP a)) (f : IsF fns c 3 3 (bCP b)) {lo hi : Int} {xs : List Int} {s : S} {Φ : D → S → Prop} (l : xs.length ≤ 1000) (hlt : lo < hi) (h : Φ (.int (pas lo hi xs)) s) :
    OFn (evF fns fuel (k + 3) c [.tup (dI xs), .int lo, .int hi] s) Φ := by
  refine o_isF (ρ0 := [some (.tup (dI xs)), some (.int lo), some (.int hi)]) f rfl rfl ?_
  repeat eq_refl
  refine passPl fa fb l ?_
  refine k_tup (purs_blws _ _ (purs_dI _)) take_self ?_
  repeat eq_refl
  rw [List.length_map, psP_len hlt]
  exact h
def vf (xs : List Int) (i j : Nat) : Nat × Nat := if gt xs i < gt xs j then (i, j) else (j, i)
theorem vf_vp {xs : List Int} {i j : Nat} : (gt xs (vf xs i j).1, gt xs (vf xs i j).2) = vp (gt xs i) (gt xs j) := by
  unfold vf vp
  split
  · rw [Int.min_eq_left (by omega), Int.max_eq_right (by omega)]
  · rw [Int.min_eq_right (by omega), Int.max_eq_left (by omega)]
theorem valleyF {a k i j : Nat} (f : IsF fns a 3 3 bVF) {xs : List Int} {s : S} {Φ : D → S → Prop} (hi : i < xs.length) (hj : j < xs.length) (h : Φ (dNP (vf xs i j)) s) :
    OFn (evF fns fuel (k + 1) a [.tup (dI xs), .int i, .int j] s) Φ := by
  refine o_isF (ρ0 := [some (.tup (dI xs)), some (.int i), some (.int j)]) f rfl rfl ?_
  repeat eq_refl
  refine x_tup (d := .int (gt xs i)) (by rw [atI_map, atI_at (gt_at hi)]; rfl) ?_
  repeat eq_refl
  refine x_tup (d := .int (gt xs j)) (by rw [atI_map, atI_at (gt_at hj)]; rfl) ?_
  repeat eq_refl
  refine ⟨fun q => ?_, fun q => ?_⟩
  · rw [show vf xs i j = (i, j) from if_pos (of_decide_eq_true q)] at h
    repeat eq_refl
    exact h
  · rw [show vf xs i j = (j, i) from if_neg (of_decide_eq_false q)] at h
    repeat eq_refl
    exact h
theorem ixo_ok {L : List Int} {s : S} (hL : L ≠ []) : ∃ i, i < L.length ∧ L[i]? = some (minL L) ∧ ixoD s (.lst (dI L)) (.int (minL L)) = some (.int (i : Nat)) := by
  have hf : ∃ i, (dI L).findIdx? (fun z => eqD z (.int (minL L))) = some i := by
    cases q : (dI L).findIdx? (fun z => eqD z (.int (minL L))) with
    | some i => exact ⟨i, rfl⟩
    | none =>
      have := List.findIdx?_eq_none_iff.mp q (.int (minL L)) (List.mem_map.mpr ⟨_, minL_in hL, rfl⟩)
      rw [eqI] at this
      simp at this
  obtain ⟨i, hi⟩ := hf
  obtain ⟨h1, h2, _⟩ := List.findIdx?_eq_some_iff_getElem.mp hi
  have hl : i < L.length := by simpa using h1
  refine ⟨i, hl, ?_, ?_⟩
  · rw [List.getElem?_eq_getElem hl]
    have : eqD (.int L[i]) (.int (minL L)) = true := by simpa using h2
    rw [eqI] at this
    rw [of_decide_eq_true this]
  · show (if eqOk (.lst (dI L)) && eqOk (.int (minL L)) then ((dI L).findIdx? fun z => eqD z (.int (minL L))).map fun i => D.int (i : Nat) else none) = _
    rw [eqOkLI, hi]
    rfl
theorem getD_at {R : List Nat} {k : Nat} (h : k < R.length) : R[k]? = some (R.getD k 0) := by
  rw [List.getElem?_eq_getElem h, List.getD_eq_getElem?_getD, List.getElem?_eq_getElem h]
  rfl
theorem gaps_eq {g : Nat → Int} {R : List Nat} (h : 0 < R.length) : ((R.zip (R.drop 1 ++ R.take 1)).map fun p => (((g p.1 - g p.2).natAbs : Nat) : Int)) = (List.range R.length).map fun k => ((gap g R k : Nat) : Int) := by
  apply List.ext_getElem?
  intro k
  by_cases hk : k < R.length
  · have e2 : (R.drop 1 ++ R.take 1)[k]? = R[(1 + k) % R.length]? := rotN_get (by omega) hk
    have h1 : (k + 1) % R.length < R.length := Nat.mod_lt _ h
    rw [List.getElem?_map, (List.getElem?_zip_eq_some (z := (R.getD k 0, R.getD ((k + 1) % R.length) 0))).mpr ⟨?_, ?_⟩, List.getElem?_map, List.getElem?_range hk]
    · rfl
    · exact getD_at hk
    · rw [e2, Nat.add_comm 1 k]; exact getD_at h1
  · rw [List.getElem?_eq_none (by simp; omega), List.getElem?_eq_none (by simp; omega)]
theorem flatT {a k : Nat} (f : IsF fns a 2 6 bFL) {xs : List Int} {R : List Nat} {s : S} {Φ : D → S → Prop} (hR : ∀ i ∈ R, i < xs.length) (h0 : 0 < R.length) (hl : R.length ≤ 1000)
    (h : ∀ i, i < R.length → (∀ k, k < R.length → gap (gt xs) R i ≤ gap (gt xs) R k) → Φ (.int (i : Nat)) s) : OFn (evF fns fuel (k + 1) a [.tup (dI xs), .lst (dNt R)] s) Φ := by
  refine o_isF (ρ0 := [some (.tup (dI xs)), some (.lst (dNt R)), none, none, none, none]) f rfl rfl ?_
  repeat eq_refl
  rw [show (1 : Int) = ((1 : Nat) : Int) from rfl, cut_from]
  repeat eq_refl
  rw [cut_to]
  refine b_addL (capN (by simp; omega)) ?_
  rw [show List.drop 1 (dNt R) ++ List.take 1 (dNt R) = dNt (R.drop 1 ++ R.take 1) by simp [dNt]]
  repeat eq_refl
  rw [show List.zipWith (fun d e => D.tup [d, e]) (dNt R) (dNt (R.drop 1 ++ R.take 1)) = (R.zip (R.drop 1 ++ R.take 1)).map fun p => D.tup [.int (p.1 : Nat), .int (p.2 : Nat)] by
    rw [List.zip, List.map_zipWith, dNt, dNt, List.zipWith_map]]
  refine o_clM (fun p => .int ((gt xs p.1 - gt xs p.2).natAbs : Nat)) _ (fun p m => ?_) ?_
  · have m1 := (List.of_mem_zip m).1
    have m2 := (List.of_mem_zip m).2
    have h1 := hR _ m1
    have h2 : p.2 < xs.length := by
      rcases List.mem_append.mp m2 with m2 | m2
      · exact hR _ (List.mem_of_mem_drop m2)
      · exact hR _ (List.mem_of_mem_take m2)
    repeat eq_refl
    refine x_tup (d := .int (gt xs p.1)) (by rw [atI_map, atI_at (gt_at h1)]; rfl) ?_
    repeat eq_refl
    refine x_tup (d := .int (gt xs p.2)) (by rw [atI_map, atI_at (gt_at h2)]; rfl) ?_
    repeat eq_refl
    exact ⟨rfl, rfl⟩
  rw [show (R.zip (R.drop 1 ++ R.take 1)).map (fun p => D.int ((gt xs p.1 - gt xs p.2).natAbs : Nat)) = dI ((R.zip (R.drop 1 ++ R.take 1)).map fun p => (((gt xs p.1 - gt xs p.2).natAbs : Nat) : Int)) by rw [dI, List.map_map]; rfl, gaps_eq h0]
  have hne : ((List.range R.length).map fun k => ((gap (gt xs) R k : Nat) : Int)) ≠ [] := by
    intro e
    have := congrArg List.length e
    rw [List.length_map, List.length_range] at this
    have : R.length = 0 := this
    omega
  repeat eq_refl
  refine o_ixo ?_
  repeat eq_refl
  refine ⟨rfl, ?_⟩
  repeat eq_refl
  refine f_min hne ?_
  obtain ⟨i, h1, h2, h3⟩ := ixo_ok (s := s) hne
  refine got h3 ?_
  repeat eq_refl
  have hi : i < R.length := by simpa using h1
  refine h i hi fun k hk => ?_
  rw [List.getElem?_map, List.getElem?_range hi] at h2
  have h2 : ((gap (gt xs) R i : Nat) : Int) = minL ((List.range R.length).map fun k => ((gap (gt xs) R k : Nat) : Int)) := Option.some.inj h2
  have := minL_le (xs := (List.range R.length).map fun k => ((gap (gt xs) R k : Nat) : Int)) (x := (gap (gt xs) R k : Nat)) (List.mem_map.mpr ⟨k, List.mem_range.mpr hk, rfl⟩)
  omega
theorem c_ninN {s : S} {x : Nat} {p : Nat × Nat} {B : Bool → Prop} (h : B (!(decide (x = p.1) || decide (x = p.2)))) : CmpP .NotIn s (.int (x : Int)) (dNP p) B := by
  refine ⟨_, ?_, h⟩
  show (inD s (.int (x : Int)) (dNP p)).map (!·) = _
  have : inD s (.int (x : Int)) (dNP p) = some (eqD (.int (p.1 : Int)) (.int (x : Int)) || (eqD (.int (p.2 : Int)) (.int (x : Int)) || false)) := rfl
  rw [this, eqI, eqI]
  show some _ = some _
  congr 1
  by_cases h1 : x = p.1
  · simp [h1]
  · by_cases h2 : x = p.2
    · simp [h2]
    · simp [h1, h2, show ¬ (p.1 : Int) = x by omega, show ¬ (p.2 : Int) = x by omega]
theorem s_new {s : S} {x : HObj} : (s ++ [x])[s.length]? = some x := by simp
theorem s_set {s : S} {x y : HObj} : (s ++ [x]).set s.length y = s ++ [y] := by
  rw [List.set_append_right _ _ (Nat.le_refl _), Nat.sub_self]
  rfl
theorem findR {a b c v w r k : Nat} (fa : IsF fns a 2 4 bND) (fb : IsF fns b 2 4 (bIT a)) (fc : IsF fns c 1 2 (bTP b)) (fv : IsF fns v 3 3 bVF) (fw : IsF fns w 2 6 bFL) (f : IsF fns r 1 6 (bFR c v w)) (hf : 100 ≤ fuel) {xs : List Int} {s : S} {Φ : D → S → Prop} (l0 : 1 ≤ xs.length) (l : xs.length ≤ 60)
    (h : ∀ Pr t, (∀ p ∈ Pr, p.1 < xs.length ∧ p.2 < xs.length) → Swings xs (tpl xs).length (Pr.map fun p => (gt xs p.1, gt xs p.2)) → Φ (.tup (dNPs Pr)) (s ++ t)) :
    OFn (evF fns fuel (k + 4) r [.tup (dI xs)] s) Φ := by
  have hx : xs ≠ [] := by intro e; rw [e] at l0; exact absurd l0 (by decide)
  have ht : (tpl xs).length ≤ xs.length := by
    unfold tpl
    have := List.length_filter_le (isTn xs) (List.range xs.length)
    rwa [List.length_range] at this
  refine o_isF (ρ0 := [some (.tup (dI xs)), none, none, none, none, none]) f rfl rfl ?_
  repeat eq_refl
  refine turnPl fa fb fc (by omega) ?_
  refine k_tup (purs_blws _ _ (purs_Nt _)) take_self ?_
  repeat eq_refl
  refine o_whlI (fun m ρ s' => ∃ R Pr x3 x4 x5, m = R.length ∧ m ≤ xs.length ∧ (∀ i ∈ R, i < xs.length) ∧ (∀ p ∈ Pr, p.1 < xs.length ∧ p.2 < xs.length) ∧ Kept xs (gt xs) (tpl xs).length R (Pr.map fun p => (gt xs p.1, gt xs p.2)) ∧ s' = s ++ [.ml (dNPs Pr)] ∧ ρ = [some (.tup (dI xs)), some (.lst (dNt R)), some (.hnd s.length), x3, x4, x5]) (tpl xs).length (by show (tpl xs).length < fuel; omega) ⟨tpl xs, [], _, _, _, rfl, ht, fun i m => tpl_lt m, fun p m => (nomatch m), kept_first hx, rfl, rfl⟩ (fun m ρ s' ⟨R, Pr, x3, x4, x5, g1, g2, g3, g4, g5, e1, e2⟩ => ?_)
  subst e1 e2 g1
  have lR : (dNt R).length = R.length := List.length_map ..
  repeat eq_refl
  rw [lR]
  refine ⟨fun q => ?_, fun q => ?_⟩
  · have hm : 2 < R.length := by have := of_decide_eq_true q; omega
    have hcz : CZ (R.map (gt xs)) := by
      rcases g5.cz with e | e
      · rw [e] at hm; exact absurd hm (by decide)
      · exact e
    repeat eq_refl
    refine flatT fw g3 (by omega) (by omega) fun i hi hmin => ?_
    refine k_int take_self ?_
    have tk := take_pair hcz g5.nd hm hi hmin
    have h1 : (i + 1) % R.length < R.length := Nat.mod_lt _ (by omega)
    have eu : R[i]? = some (R.getD i 0) := by rw [List.getD_eq_getElem?_getD, List.getElem?_eq_getElem hi]; rfl
    have ev : R[(i + 1) % R.length]? = some (R.getD ((i + 1) % R.length) 0) := by rw [List.getD_eq_getElem?_getD, List.getElem?_eq_getElem h1]; rfl
    generalize R.getD i 0 = u at *
    generalize R.getD ((i + 1) % R.length) 0 = v at *
    have hu := g3 u tk.mu
    have hv := g3 v tk.mv'
    repeat eq_refl
    refine x_lst (d := .int (u : Nat)) (by rw [atI_map, atI_at eu]; rfl) ?_
    repeat eq_refl
    rw [lR]
    refine b_mod (by omega) ?_
    rw [show ((i : Int) + 1) % (R.length : Int) = (((i + 1) % R.length : Nat) : Int) by simp]
    repeat eq_refl
    refine x_lst (d := .int (v : Nat)) (by rw [atI_map, atI_at ev]; rfl) ?_
    repeat eq_refl
    refine valleyF fv hu hv ?_
    refine k_tup (purs_blws _ _ rfl) take_self ?_
    repeat eq_refl
    refine o_ml s_new ?_
    repeat eq_refl
    have lp : (dNPs Pr).length ≤ 100 := by
      have := g5.len
      rw [List.length_map] at this ⊢
      omega
    refine o_appM s_new (by show _ < 1000000; omega) rfl ?_
    rw [s_set]
    repeat eq_refl
    refine o_clF (fun x => !(decide (x = u) || decide (x = v))) (fun (x : Nat) => .int (x : Int)) R (fun x m => ?_) ?_
    · repeat eq_refl
      refine c_ninN ?_
      have e : (!(decide (x = (vf xs u v).1) || decide (x = (vf xs u v).2))) = !(decide (x = u) || decide (x = v)) := by
        unfold vf
        split
        · rfl
        · rw [Bool.or_comm]
      rw [e]
      refine ⟨fun q => ?_, fun q => ?_⟩
      · rw [q]
        repeat eq_refl
        exact ⟨rfl, rfl⟩
      · rw [q]
        repeat eq_refl
        exact ⟨rfl, rfl⟩
    · repeat eq_refl
      refine ⟨(R.filter fun x => !(decide (x = u) || decide (x = v))).length, ?_, _, Pr ++ [vf xs u v], _, _, _, rfl, ?_, fun i m => g3 i (List.mem_filter.mp m).1, fun p m => ?_, ?_, ?_, rfl⟩
      · have := tk.len; omega
      · have := tk.len; omega
      · rcases List.mem_append.mp m with m | m
        · exact g4 p m
        · rw [List.mem_singleton.mp m]
          unfold vf
          split
          · exact ⟨hu, hv⟩
          · exact ⟨hv, hu⟩
      · rw [List.map_append, List.map_cons, List.map_nil, vf_vp]
        exact g5.step tk fun x m => (List.mem_filter.mp m).1
      · show s ++ [HObj.ml (dNPs Pr ++ [dNP (vf xs u v)])] = s ++ [HObj.ml (dNPs (Pr ++ [vf xs u v]))]
        simp [dNPs]
  · have hm : R.length ≤ 2 := by have := of_decide_eq_false q; omega
    repeat eq_refl
    refine c_neNil ?_
    rcases g5.last hm with ⟨rfl, sw⟩ | ⟨u, v, rfl, hne, sw⟩
    · repeat eq_refl
      refine f_tupM s_new ?_
      repeat eq_refl
      exact h Pr _ g4 sw
    · have hu := g3 u (by simp)
      have hv := g3 v (by simp)
      have lp : (dNPs Pr).length ≤ 100 := by
        have := g5.len
        rw [List.length_map] at this ⊢
        omega
      repeat eq_refl
      refine o_ml s_new ?_
      repeat eq_refl
      refine valleyF fv hu hv ?_
      refine k_tup (purs_blws _ _ rfl) take_self ?_
      repeat eq_refl
      refine o_appM s_new (by show _ < 1000000; omega) rfl ?_
      rw [s_set]
      repeat eq_refl
      refine f_tupM s_new ?_
      repeat eq_refl
      have := h (Pr ++ [vf xs u v]) [.ml (dNPs (Pr ++ [vf xs u v]))] (fun p m => by
        rcases List.mem_append.mp m with m | m
        · exact g4 p m
        · rw [List.mem_singleton.mp m]
          unfold vf
          split
          · exact ⟨hu, hv⟩
          · exact ⟨hv, hu⟩) (by rw [List.map_append, List.map_cons, List.map_nil, vf_vp]; exact sw)
      have e : dNPs Pr ++ [dNP (vf xs u v)] = dNPs (Pr ++ [vf xs u v]) := by simp [dNPs]
      rw [← e] at this
      exact this
theorem perm_sum {l k : List Int} (p : l.Perm k) : l.sum = k.sum := by
  induction p with
  | nil => rfl
  | cons x _ ih => rw [List.sum_cons, List.sum_cons, ih]
  | swap x y l => rw [List.sum_cons, List.sum_cons, List.sum_cons, List.sum_cons]; omega
  | trans _ _ ih1 ih2 => exact ih1.trans ih2
theorem Swings.perm {xs : List Int} {n : Nat} {S T : List (Int × Int)} (h : Swings xs n S) (p : T.Perm S) : Swings xs n T :=
  ⟨fun a b hab => by rw [h.pas a b hab, p.countP_eq], by rw [h.mv, perm_sum (p.map _)], by rw [h.len, p.length_eq], fun q m => h.lt q (p.mem_iff.mp m), fun q m => h.inr q (p.mem_iff.mp m)⟩
theorem swingsOf {a b c v w r z k : Nat} (fa : IsF fns a 2 4 bND) (fb : IsF fns b 2 4 (bIT a)) (fc : IsF fns c 1 2 (bTP b)) (fv : IsF fns v 3 3 bVF) (fw : IsF fns w 2 6 bFL) (fr : IsF fns r 1 6 (bFR c v w)) (f : IsF fns z 1 3 (bSW r)) (hf : 100 ≤ fuel) {xs : List Int} {s : S} {Φ : D → S → Prop} (l0 : 1 ≤ xs.length) (l : xs.length ≤ 60)
    (h : ∀ S, Swings xs (tpl xs).length S → (S.Pairwise fun a b => leP a b = true) → Φ (.tup (dPs S)) s) :
    OFn (evF fns fuel (k + 5) z [.tup (dI xs)] s) Φ := by
  refine o_isF (ρ0 := [some (.tup (dI xs)), none, none]) f rfl rfl ?_
  repeat eq_refl
  refine findR fa fb fc fv fw fr hf l0 l fun Pr t hP sw => ?_
  refine k_tup (purs_blws _ _ (purs_NP _)) take_app ?_
  repeat eq_refl
  refine o_clM (fun p => dP (gt xs p.1, gt xs p.2)) Pr (fun p m => ?_) ?_
  · obtain ⟨h1, h2⟩ := hP p m
    repeat eq_refl
    refine x_tup (d := .int (gt xs p.1)) (by rw [atI_map, atI_at (gt_at h1)]; rfl) ?_
    repeat eq_refl
    refine x_tup (d := .int (gt xs p.2)) (by rw [atI_map, atI_at (gt_at h2)]; rfl) ?_
    repeat eq_refl
    exact ⟨rfl, rfl⟩
  rw [show Pr.map (fun p => dP (gt xs p.1, gt xs p.2)) = dPs (Pr.map fun p => (gt xs p.1, gt xs p.2)) by rw [dPs, List.map_map]; rfl]
  repeat eq_refl
  have lp : (Pr.map fun p => (gt xs p.1, gt xs p.2)).length ≤ 1000 := by
    have h1 := sw.len
    have h2 : (tpl xs).length ≤ xs.length := by
      unfold tpl
      have := List.length_filter_le (isTn xs) (List.range xs.length)
      rwa [List.length_range] at this
    omega
  refine f_srtP rfl (by omega) ?_
  repeat eq_refl
  exact h _ (sw.perm (sP_perm _)) (sP_pw _)
end

end
section
local macro_rules | `(tactic| eq_refl) => `(tactic| first
  | refine o_cons ?_ | refine s_nx ?_ | refine o_asg ?_ | refine bd rfl ?_ | refine o_var rfl ?_ | refine o_int ?_ | refine o_bin ?_ | refine o_idx ?_ | refine o_cmp ?_
  | refine o_ite ?_ | refine o_tv ?_ | refine t_bl ?_ | refine o_ret ?_ | refine s_rt ?_ | refine r_rt ?_ | refine o_call ?_ | refine o_es ?_ | refine o_es0 ?_
  | refine o_nil ?_ | refine s_bk ?_ | refine s_ct ?_ | refine r_nx ?_
  | refine o_par ⟨Nat.le_of_ble_eq_true rfl, Nat.le_of_ble_eq_true rfl⟩ ?_ | refine o_par3 ⟨Nat.le_of_ble_eq_true rfl, Nat.le_of_ble_eq_true rfl, Nat.le_of_ble_eq_true rfl⟩ ?_ | refine o_augM rfl (Nat.le_of_ble_eq_true rfl) ?_ | refine o_six ?_ | refine o_exp ?_ | refine o_for ?_ | refine o_brk ?_ | refine o_cnt ?_ | refine o_pass ?_ | refine o_whl ?_
  | refine o_bl ?_ | refine o_str ?_ | refine o_non ?_ | refine o_gli ?_ | refine o_gls ?_ | refine o_neg ?_ | refine o_chn ?_ | refine o_nt ?_
  | refine o_an ?_ | refine o_an1 ?_ | refine o_orr ?_ | refine o_or1 ?_ | refine o_ife ?_ | refine o_tup ?_ | refine o_lst ?_ | refine o_dic0 ?_ | refine o_dic1 ?_ | refine o_slc ?_ | refine o_f1 ?_ | refine o_f2 ?_ | refine o_isi ?_
  | refine o_rg1 ?_ | refine o_rg2 ?_ | refine o_sst ?_ | refine o_lns ?_ | refine o_srr ?_ | refine o_srkR ?_ | refine o_dsub ?_ | refine o_srkP ?_ | refine o_rv0 ?_ | refine o_mmx ?_ | refine o_app ?_ | refine o_mk ?_ | refine o_comp ?_ | refine o_calln ?_
  | refine o_iex ?_ | refine o_ir1 ?_ | refine o_ir2 ?_ | refine o_ien ?_ | refine o_ien1 ?_ | refine o_izp ?_ | refine o_sqT ?_ | refine o_sqL ?_ | refine o_zpT ?_ | refine o_zpL ?_
  | refine o_o0 ?_ | refine o_o1 ?_ | refine o_tnt ?_ | refine o_tan ?_ | refine o_tan1 ?_ | refine o_tor ?_ | refine o_tor1 ?_ | refine o_ot0 ?_ | refine o_ot1 ?_
  | refine o_cF rfl ?_ | refine o_body rfl ?_ | refine isI ?_ | refine capL (by decide) ?_ | refine isB ?_ | refine isL ?_ | refine isT ?_ | refine splT ?_ | refine splF ?_
  | refine b_add ?_ | refine b_sub ?_ | refine b_mod (by decide) ?_ | refine b_div (by decide) ?_ | refine b_pow (by decide) ?_ | refine b_mulA (by decide) ?_ | refine b_mulB (by decide) ?_
  | refine c_lt ?_ | refine c_le ?_ | refine c_gt ?_ | refine c_ge ?_ | refine c_eq ?_ | refine c_ne ?_ | refine c_eqBs ?_ | refine c_neBs ?_ | refine c_eqB ?_ | refine c_neB ?_ | refine c_eqSs ?_ | refine c_neSs ?_ | refine c_eqS ?_ | refine c_neS ?_ | refine c_isN rfl ?_ | refine c_notN rfl ?_
  | refine t_int ?_ | refine t_tup ?_ | refine t_lst ?_ | refine t_non ?_
  | refine f_lenT ?_ | refine f_lenL ?_ | refine f_tupL ?_ | refine f_tupT ?_ | refine f_lstT ?_ | refine f_lstL ?_ | refine f_abs ?_ | refine f_sum ?_ | refine f_all ?_ | refine f_any ?_ | refine f_intI ?_ | refine f_intB ?_
  | refine l_tup ?_ | refine l_lst ?_ | refine l_scr ?_ | refine got rfl ?_
  | refine k_int take_self ?_ | refine k_bl take_self ?_ | refine k_non take_self ?_ | refine k_str take_self ?_ | refine k_int dk_take ?_ | refine k_bl dk_take ?_ | refine k_non dk_take ?_
  | refine tn_nx ?_ | refine tn_ct ?_ | refine tn_bk ?_ | refine tn_rt ?_ | refine x_any rfl ?_ | refine f_lenM rfl ?_ | refine f_tupM rfl ?_
  | refine o_xis ?_ | refine o_xf ?_ | refine o_cntE ⟨rfl, ?_⟩ | refine x_ite ?_ | refine x_asg ?_ | refine x_ret ?_ | refine x_exp ?_ | refine x_call ?_ | refine x_calln ?_ | refine x_rai ?_ | refine x_rai1 ?_ | refine nxP ?_)

/-! ### ranges, movement left -/
/-- falling -/
def sZd (xs : List Int) : List Int := xs.mergeSort fun a b => leZ b a
def bRO (iS : Nat) : List C :=
   [.ret (.srr (.comp (.bin .sub (.var 2) (.var 1)) (.tp [(.nm 1), (.nm 2)]) (.ex (.call iS [(.var 0)])) none [("low", 1), ("high", 2)]))]
def bML : List C :=
   [.ret (.bin .mul (.cst (.int 2)) (.f1 .sum (.comp (.f2 .max (.cst (.int 0)) (.bin .sub (.var 2) (.bin .mul (.cst (.int 2)) (.var 1)))) (.nm 2) (.ex (.var 0)) none [("size", 2)])))]
def bLM (iM iR : Nat) : List C :=
   [.ret (.call iM [(.call iR [(.var 0)]), (.var 1)])]
/-- the ranges of swings -/
def rgs (S : List II) : List Int := S.map fun p => p.2 - p.1
def lft (rs : List Int) (t : Int) : Int := (rs.map fun r => max 0 (r - 2 * t)).sum
/-- what swings_of wants -/
structure SwF (fns : List Fn) (z : Nat) : Prop where
  ex : ∃ a b c v w r, IsF fns a 2 4 bND ∧ IsF fns b 2 4 (bIT a) ∧ IsF fns c 1 2 (bTP b) ∧ IsF fns v 3 3 bVF ∧ IsF fns w 2 6 bFL ∧ IsF fns r 1 6 (bFR c v w) ∧ IsF fns z 1 3 (bSW r)
section
variable {fns : List Fn} {fuel : Nat}
theorem SwF.ok {z k : Nat} (f : SwF fns z) (hf : 100 ≤ fuel) {xs : List Int} {s : S} {Φ : D → S → Prop} (l0 : 1 ≤ xs.length) (l : xs.length ≤ 60)
    (h : ∀ S, Swings xs (tpl xs).length S → (S.Pairwise fun a b => leP a b = true) → Φ (.tup (dPs S)) s) : OFn (evF fns fuel (k + 5) z [.tup (dI xs)] s) Φ := by
  obtain ⟨a, b, c, v, w, r, h1, h2, h3, h4, h5, h6, h7⟩ := f.ex
  exact swingsOf h1 h2 h3 h4 h5 h6 h7 hf l0 l h
end
/-! ### levels -/
theorem sum_add {α : Type} (f g : α → Int) : ∀ l : List α, (l.map fun i => f i + g i).sum = (l.map f).sum + (l.map g).sum
  | [] => rfl
  | x :: l => by
    rw [List.map_cons, List.sum_cons, List.map_cons, List.sum_cons, List.map_cons, List.sum_cons, sum_add f g l]
    omega
theorem sum_zero {α : Type} : ∀ l : List α, (l.map fun _ => (0 : Int)).sum = 0
  | [] => rfl
  | x :: l => by rw [List.map_cons, List.sum_cons, sum_zero l]; rfl
theorem cnt_rng (a b : Int) (ha : 0 ≤ a) : ∀ N : Nat, ((List.range N).map fun (i : Nat) => if a ≤ (i : Int) ∧ (i : Int) ≤ b then (1 : Int) else 0).sum = max 0 (min b (N - 1) - a + 1)
  | 0 => by show (0 : Int) = _; omega
  | N + 1 => by
    rw [List.range_succ, List.map_append, List.sum_append, cnt_rng a b ha N]
    show _ + ((if a ≤ (N : Int) ∧ (N : Int) ≤ b then (1 : Int) else 0) + 0) = _
    split <;> omega
theorem levels {mn mx g : Int} (hg : 1 ≤ g) {N : Nat} (hN : (N : Int) = max 0 (mx - g + 1 - mn)) : ∀ (S : List II), (∀ p ∈ S, mn ≤ p.1 ∧ p.2 ≤ mx ∧ p.1 < p.2) →
    ((List.range N).map fun (i : Nat) => ((S.countP (cov (mn + (i : Int)) (mn + (i : Int) + g)) : Nat) : Int)).sum = (S.map fun p => max 0 (p.2 - p.1 - (g - 1))).sum
  | [], _ => sum_zero _
  | p :: S, h => by
    obtain ⟨h1, h2, h3⟩ := h p (List.mem_cons_self ..)
    have ih := levels hg hN S fun q m => h q (List.mem_cons_of_mem _ m)
    rw [List.map_cons, List.sum_cons, ← ih]
    have e : (fun (i : Nat) => (((p :: S).countP (cov (mn + (i : Int)) (mn + (i : Int) + g)) : Nat) : Int)) = fun (i : Nat) => (if p.1 - mn ≤ (i : Int) ∧ (i : Int) ≤ p.2 - g - mn then (1 : Int) else 0) + ((S.countP (cov (mn + (i : Int)) (mn + (i : Int) + g)) : Nat) : Int) := by
      funext i
      rw [List.countP_cons]
      unfold cov
      by_cases z1 : p.1 ≤ mn + (i : Int)
      · by_cases z2 : mn + (i : Int) + g ≤ p.2
        · rw [if_pos (by simp [z1, z2]), if_pos (by omega)]; omega
        · rw [if_neg (by simp [z2]), if_neg (by omega)]; omega
      · rw [if_neg (by simp [z1]), if_neg (by omega)]; omega
    rw [e, sum_add, cnt_rng _ _ (by omega)]
    congr 1
    omega
end
section
local macro_rules | `(tactic| eq_refl) => `(tactic| first
  | refine o_cons ?_ | refine s_nx ?_ | refine o_asg ?_ | refine bd rfl ?_ | refine o_var rfl ?_ | refine o_int ?_ | refine o_bin ?_ | refine o_idx ?_ | refine o_cmp ?_
  | refine o_ite ?_ | refine o_tv ?_ | refine t_bl ?_ | refine o_ret ?_ | refine s_rt ?_ | refine r_rt ?_ | refine o_call ?_ | refine o_es ?_ | refine o_es0 ?_
  | refine o_nil ?_ | refine s_bk ?_ | refine s_ct ?_ | refine r_nx ?_
  | refine o_par ⟨Nat.le_of_ble_eq_true rfl, Nat.le_of_ble_eq_true rfl⟩ ?_ | refine o_par3 ⟨Nat.le_of_ble_eq_true rfl, Nat.le_of_ble_eq_true rfl, Nat.le_of_ble_eq_true rfl⟩ ?_ | refine o_augM rfl (Nat.le_of_ble_eq_true rfl) ?_ | refine o_six ?_ | refine o_exp ?_ | refine o_for ?_ | refine o_brk ?_ | refine o_cnt ?_ | refine o_pass ?_ | refine o_whl ?_
  | refine o_bl ?_ | refine o_str ?_ | refine o_non ?_ | refine o_gli ?_ | refine o_gls ?_ | refine o_neg ?_ | refine o_chn ?_ | refine o_nt ?_
  | refine o_an ?_ | refine o_an1 ?_ | refine o_orr ?_ | refine o_or1 ?_ | refine o_ife ?_ | refine o_tup ?_ | refine o_lst ?_ | refine o_dic0 ?_ | refine o_dic1 ?_ | refine o_slc ?_ | refine o_f1 ?_ | refine o_f2 ?_ | refine o_isi ?_
  | refine o_rg1 ?_ | refine o_rg2 ?_ | refine o_sst ?_ | refine o_lns ?_ | refine o_srr ?_ | refine o_srkR ?_ | refine o_dsub ?_ | refine o_srkP ?_ | refine o_rv0 ?_ | refine o_mmx ?_ | refine o_app ?_ | refine o_mk ?_ | refine o_comp ?_ | refine o_calln ?_
  | refine o_iex ?_ | refine o_ir1 ?_ | refine o_ir2 ?_ | refine o_ien ?_ | refine o_ien1 ?_ | refine o_izp ?_ | refine o_sqT ?_ | refine o_sqL ?_ | refine o_zpT ?_ | refine o_zpL ?_
  | refine o_o0 ?_ | refine o_o1 ?_ | refine o_tnt ?_ | refine o_tan ?_ | refine o_tan1 ?_ | refine o_tor ?_ | refine o_tor1 ?_ | refine o_ot0 ?_ | refine o_ot1 ?_
  | refine o_cF rfl ?_ | refine o_body rfl ?_ | refine isI ?_ | refine capL (by decide) ?_ | refine isB ?_ | refine isL ?_ | refine isT ?_ | refine splT ?_ | refine splF ?_
  | refine b_add ?_ | refine b_sub ?_ | refine b_mod (by decide) ?_ | refine b_div (by decide) ?_ | refine b_pow (by decide) ?_ | refine b_mulA (by decide) ?_ | refine b_mulB (by decide) ?_
  | refine c_lt ?_ | refine c_le ?_ | refine c_gt ?_ | refine c_ge ?_ | refine c_eq ?_ | refine c_ne ?_ | refine c_eqBs ?_ | refine c_neBs ?_ | refine c_eqB ?_ | refine c_neB ?_ | refine c_eqSs ?_ | refine c_neSs ?_ | refine c_eqS ?_ | refine c_neS ?_ | refine c_isN rfl ?_ | refine c_notN rfl ?_
  | refine t_int ?_ | refine t_tup ?_ | refine t_lst ?_ | refine t_non ?_
  | refine f_lenT ?_ | refine f_lenL ?_ | refine f_tupL ?_ | refine f_tupT ?_ | refine f_lstT ?_ | refine f_lstL ?_ | refine f_abs ?_ | refine f_sum ?_ | refine f_all ?_ | refine f_any ?_ | refine f_intI ?_ | refine f_intB ?_
  | refine l_tup ?_ | refine l_lst ?_ | refine l_scr ?_ | refine got rfl ?_
  | refine k_int take_self ?_ | refine k_bl take_self ?_ | refine k_non take_self ?_ | refine k_str take_self ?_ | refine k_int dk_take ?_ | refine k_bl dk_take ?_ | refine k_non dk_take ?_
  | refine tn_nx ?_ | refine tn_ct ?_ | refine tn_bk ?_ | refine tn_rt ?_ | refine x_any rfl ?_ | refine f_lenM rfl ?_ | refine f_tupM rfl ?_
  | refine o_xis ?_ | refine o_xf ?_ | refine o_cntE ⟨rfl, ?_⟩ | refine x_ite ?_ | refine x_asg ?_ | refine x_ret ?_ | refine x_exp ?_ | refine x_call ?_ | refine x_calln ?_ | refine x_rai ?_ | refine x_rai1 ?_ | refine nxP ?_)

/-! ### swings of a row of heights, once round -/
def gl : Int → List Int → List Nat
  | _, [] => []
  | l, x :: r => (x - l).natAbs :: gl x r
def gC (Z : List Int) : List Nat := gl (lst 0 Z) Z
def ex (w : Bool) : Int → List Int → List Int
  | _, [] => []
  | l, x :: r => if decide (x < l) = w then x :: ex w x r else ex w x r
def exC (w : Bool) (Z : List Int) : List Int := ex w (lst 0 Z) Z
theorem gl_app : ∀ (X Y : List Int) (l : Int), gl l (X ++ Y) = gl l X ++ gl (lst l X) Y
  | [], Y, l => rfl
  | x :: X, Y, l => by
    rw [lst_cons]
    show (x - l).natAbs :: gl x (X ++ Y) = (x - l).natAbs :: (gl x X ++ _)
    rw [gl_app X Y x]
theorem ex_app {w : Bool} : ∀ (X Y : List Int) (l : Int), ex w l (X ++ Y) = ex w l X ++ ex w (lst l X) Y
  | [], Y, l => rfl
  | x :: X, Y, l => by
    rw [lst_cons]
    show (if decide (x < l) = w then x :: ex w x (X ++ Y) else ex w x (X ++ Y)) = (if decide (x < l) = w then x :: ex w x X else ex w x X) ++ _
    rw [ex_app X Y x]
    split <;> rfl
theorem rot_perm {α : Type} {f : Int → List Int → List α} (ha : ∀ X Y l, f l (X ++ Y) = f l X ++ f (lst l X) Y) (X Y : List Int) : (f (lst 0 (X ++ Y)) (X ++ Y)).Perm (f (lst 0 (Y ++ X)) (Y ++ X)) := by
  cases X with
  | nil => simp
  | cons x X =>
    cases Y with
    | nil => simp
    | cons y Y =>
      have e1 : lst 0 (x :: X ++ y :: Y) = lst 0 (y :: Y) := by rw [lst_app]; exact lst_ne (by simp)
      have e2 : lst 0 (y :: Y ++ x :: X) = lst 0 (x :: X) := by rw [lst_app]; exact lst_ne (by simp)
      have e3 : lst (lst 0 (y :: Y)) (x :: X) = lst 0 (x :: X) := lst_ne (by simp)
      have e4 : lst (lst 0 (x :: X)) (y :: Y) = lst 0 (y :: Y) := lst_ne (by simp)
      rw [e1, e2, ha, ha, e3, e4]
      exact List.perm_append_comm
theorem gC_rot (X Y : List Int) : (gC (X ++ Y)).Perm (gC (Y ++ X)) := rot_perm (f := gl) gl_app X Y
theorem exC_rot {w : Bool} (X Y : List Int) : (exC w (X ++ Y)).Perm (exC w (Y ++ X)) := rot_perm (f := ex w) ex_app X Y
theorem mem_gl {m : Nat} : ∀ (Z : List Int) (l : Int), m ∈ gl l Z → ∃ X x Y, Z = X ++ x :: Y ∧ m = (x - lst l X).natAbs
  | [], l, h => by cases h
  | x :: r, l, h => by
    rcases List.mem_cons.mp h with h | h
    · exact ⟨[], x, r, rfl, h⟩
    · obtain ⟨X, y, Y, e1, e2⟩ := mem_gl r x h
      exact ⟨x :: X, y, Y, by rw [e1]; rfl, by rw [lst_cons]; exact e2⟩
theorem nat_min : ∀ {L : List Nat}, L ≠ [] → ∃ m ∈ L, ∀ k ∈ L, m ≤ k
  | [], h => absurd rfl h
  | [x], _ => ⟨x, by simp, fun k m => by rw [List.mem_singleton.mp m]; exact Nat.le_refl _⟩
  | x :: y :: L, _ => by
    obtain ⟨m, hm, h⟩ := nat_min (L := y :: L) (by simp)
    by_cases q : x ≤ m
    · refine ⟨x, List.mem_cons_self .., fun k mk => ?_⟩
      rcases List.mem_cons.mp mk with rfl | mk
      · exact Nat.le_refl _
      · exact Nat.le_trans q (h k mk)
    · refine ⟨m, List.mem_cons_of_mem _ hm, fun k mk => ?_⟩
      rcases List.mem_cons.mp mk with rfl | mk
      · omega
      · exact h k mk
theorem gap_at {Z : List Int} {m : Nat} (h : 2 ≤ Z.length) (hm : m ∈ gC Z) : ∃ X Y u v W, Z = X ++ Y ∧ Y ++ X = u :: v :: W ∧ m = (v - u).natAbs := by
  obtain ⟨X, x, Y, e1, e2⟩ := mem_gl _ _ hm
  rcases List.eq_nil_or_concat X with rfl | ⟨X', u, rfl⟩
  · rcases List.eq_nil_or_concat Y with rfl | ⟨Y', u, rfl⟩
    · rw [e1] at h; exact absurd h (by simp)
    · rw [List.concat_eq_append] at e1
      refine ⟨x :: Y', [u], u, x, Y', by rw [e1]; simp, by simp, ?_⟩
      rw [e2]
      show (x - lst 0 Z).natAbs = _
      have : lst 0 Z = u := by
        rw [e1]
        show lst 0 (([] ++ x :: Y') ++ [u]) = u
        exact lst_snoc
      rw [this]
  · rw [List.concat_eq_append] at e1 e2
    refine ⟨X', u :: x :: Y, u, x, Y ++ X', by rw [e1]; simp, by simp, ?_⟩
    rw [e2, lst_snoc]
structure ZS (Z : List Int) (S : List (Int × Int)) : Prop where
  pas : ∀ a b, a < b → RS.pas a b Z = S.countP (cov a b)
  lt : ∀ p ∈ S, p.1 < p.2
  lo : (exC true Z).Perm (S.map fun p => p.1)
  hi : (exC false Z).Perm (S.map fun p => p.2)
  len : Z.length = 2 * S.length
  gap : ∀ m, (∀ k ∈ gC Z, m ≤ k) → ∀ p ∈ S, (m : Int) ≤ p.2 - p.1
  mv : RS.mv Z = 2 * (S.map fun p => p.2 - p.1).sum
theorem ZS.rot {X Y : List Int} {S : List (Int × Int)} (h : ZS (X ++ Y) S) : ZS (Y ++ X) S :=
  ⟨fun a b hab => by rw [pas_rot, h.pas a b hab], h.lt, (exC_rot Y X).trans h.lo, (exC_rot Y X).trans h.hi, by rw [← h.len, List.length_append, List.length_append, Nat.add_comm],
    fun m hm => h.gap m fun k mk => hm k ((gC_rot X Y).mem_iff.mp mk), by rw [mv_rot, h.mv]⟩
/-- what stands around the least gap -/
theorem CZ.min {u v q : Int} {B : List Int} (h : CZ (u :: v :: q :: B)) (hm : ∀ k ∈ gC (u :: v :: q :: B), (v - u).natAbs ≤ k) :
    CZ (q :: B) ∧ ((u < v ∧ v ≤ lst q B ∧ q ≤ u ∧ u < lst q B ∧ q < v) ∨ (v < u ∧ lst q B ≤ v ∧ u ≤ q ∧ lst q B < u ∧ v < q)) := by
  obtain ⟨C, p, hp⟩ : ∃ C p, q :: B = C ++ [p] := by
    rcases List.eq_nil_or_concat (q :: B) with h | ⟨C, p, h⟩
    · cases h
    · exact ⟨C, p, by rw [h, List.concat_eq_append]⟩
  have ep : lst q B = p := by
    have := congrArg (lst 0) hp
    rw [lst_cons, lst_snoc] at this
    exact this
  have el : lst 0 (u :: v :: q :: B) = p := by rw [lst_cons, lst_cons, lst_cons, ep]
  have g1 := hm (u - p).natAbs (by unfold gC; rw [el]; exact List.mem_cons_self ..)
  have g2 := hm (q - v).natAbs (by unfold gC; rw [el]; exact List.mem_cons_of_mem _ (List.mem_cons_of_mem _ (List.mem_cons_self ..)))
  obtain ⟨c1, c2⟩ := CZ.rm h hp (by omega) (by omega)
  rw [ep]
  refine ⟨c1, ?_⟩
  have hd := h
  obtain ⟨d, k1, k2, k3⟩ := hd
  rw [Bool.not_not] at k3
  have e : (q :: B) ++ [u] = C ++ [p, u] := by rw [hp]; simp
  have k3 : zig d (C ++ [p, u]) d := by rw [← e]; exact k3
  obtain ⟨k4, k5⟩ := zig_init k3
  cases d with
  | true =>
    have k1 : u < v := k1
    have k2 : q < v := k2
    have k5 : u < p := k5
    left; omega
  | false =>
    have k1 : v < u := k1
    have k2 : v < q := k2
    have k5 : p < u := k5
    right; omega
theorem cons_snoc (q : Int) (B : List Int) : ∃ C, q :: B = C ++ [lst q B] := by
  rcases List.eq_nil_or_concat (q :: B) with h | ⟨C, p, h⟩
  · cases h
  · rw [List.concat_eq_append] at h
    refine ⟨C, ?_⟩
    have := congrArg (lst 0) h
    rw [lst_cons, lst_snoc] at this
    rw [this, h]
theorem ZS.step {u v q : Int} {B : List Int} {S : List (Int × Int)} (h : CZ (u :: v :: q :: B)) (hm : ∀ k ∈ gC (u :: v :: q :: B), (v - u).natAbs ≤ k) (z : ZS (q :: B) S) : ZS (u :: v :: q :: B) (vp u v :: S) := by
  obtain ⟨c1, c2⟩ := CZ.min h hm
  obtain ⟨C, hp⟩ := cons_snoc q B
  have el : lst 0 (u :: v :: q :: B) = lst q B := by rw [lst_cons, lst_cons, lst_cons]
  have el2 : lst 0 (q :: B) = lst q B := lst_cons
  have c3 : (u < v ∧ v ≤ lst q B ∧ q ≤ u) ∨ (v < u ∧ lst q B ≤ v ∧ u ≤ q) := by omega
  refine ⟨fun a b hab => ?_, fun p m => ?_, ?_, ?_, ?_, fun m hmm p mp => ?_, ?_⟩
  · rw [pas_rm hab hp c3, z.pas a b hab, List.countP_cons]
    congr 1
    unfold cov vp
    by_cases z1 : min u v ≤ a
    · by_cases z2 : b ≤ max u v <;> simp [z1, z2]
    · simp [z1]
  · rcases List.mem_cons.mp m with rfl | m
    · exact vp_lt (by omega)
    · exact z.lt p m
  · have e1 : exC true (u :: v :: q :: B) = (if decide (u < lst q B) = true then u :: (if decide (v < u) = true then v :: (if decide (q < v) = true then q :: ex true q B else ex true q B) else (if decide (q < v) = true then q :: ex true q B else ex true q B)) else (if decide (v < u) = true then v :: (if decide (q < v) = true then q :: ex true q B else ex true q B) else (if decide (q < v) = true then q :: ex true q B else ex true q B))) := by
      unfold exC; rw [el]; rfl
    have e2 : exC true (q :: B) = if decide (q < lst q B) = true then q :: ex true q B else ex true q B := by
      unfold exC; rw [el2]; rfl
    have hz := z.lo
    rw [e2] at hz
    rw [e1, List.map_cons]
    rcases c2 with ⟨a1, a2, a3, a4, a5⟩ | ⟨a1, a2, a3, a4, a5⟩
    · rw [if_pos (by simpa using (show q < lst q B by omega))] at hz
      rw [if_pos (by simpa using a4), if_neg (by simpa using (show u ≤ v by omega)), if_pos (by simpa using a5), show (vp u v).1 = u by unfold vp; exact Int.min_eq_left (by omega)]
      exact hz.cons u
    · rw [if_neg (by simpa using (show lst q B ≤ q by omega))] at hz
      rw [if_neg (by simpa using (show lst q B ≤ u by omega)), if_pos (by simpa using a1), if_neg (by simpa using (show v ≤ q by omega)), show (vp u v).1 = v by unfold vp; exact Int.min_eq_right (by omega)]
      exact hz.cons v
  · have e1 : exC false (u :: v :: q :: B) = (if decide (u < lst q B) = false then u :: (if decide (v < u) = false then v :: (if decide (q < v) = false then q :: ex false q B else ex false q B) else (if decide (q < v) = false then q :: ex false q B else ex false q B)) else (if decide (v < u) = false then v :: (if decide (q < v) = false then q :: ex false q B else ex false q B) else (if decide (q < v) = false then q :: ex false q B else ex false q B))) := by
      unfold exC; rw [el]; rfl
    have e2 : exC false (q :: B) = if decide (q < lst q B) = false then q :: ex false q B else ex false q B := by
      unfold exC; rw [el2]; rfl
    have hz := z.hi
    rw [e2] at hz
    rw [e1, List.map_cons]
    rcases c2 with ⟨a1, a2, a3, a4, a5⟩ | ⟨a1, a2, a3, a4, a5⟩
    · rw [if_neg (by simpa using (show q < lst q B by omega))] at hz
      rw [if_neg (by simpa using a4), if_pos (by simpa using (show u ≤ v by omega)), if_neg (by simpa using a5), show (vp u v).2 = v by unfold vp; exact Int.max_eq_right (by omega)]
      exact hz.cons v
    · rw [if_pos (by simpa using (show lst q B ≤ q by omega))] at hz
      rw [if_pos (by simpa using (show lst q B ≤ u by omega)), if_neg (by simpa using a1), if_pos (by simpa using (show v ≤ q by omega)), show (vp u v).2 = u by unfold vp; exact Int.max_eq_left (by omega)]
      exact hz.cons u
  · have := z.len
    simp at this ⊢
    omega
  · have g1 := hmm (u - lst q B).natAbs (by unfold gC; rw [el]; exact List.mem_cons_self ..)
    have g2 := hmm (v - u).natAbs (by unfold gC; rw [el]; exact List.mem_cons_of_mem _ (List.mem_cons_self ..))
    have g3 := hmm (q - v).natAbs (by unfold gC; rw [el]; exact List.mem_cons_of_mem _ (List.mem_cons_of_mem _ (List.mem_cons_self ..)))
    have g4 : ∀ k ∈ gl q B, m ≤ k := fun k mk => hmm k (by unfold gC; rw [el]; exact List.mem_cons_of_mem _ (List.mem_cons_of_mem _ (List.mem_cons_of_mem _ mk)))
    have n1 := hm (u - lst q B).natAbs (by unfold gC; rw [el]; exact List.mem_cons_self ..)
    rcases List.mem_cons.mp mp with rfl | mp
    · unfold vp
      show (m : Int) ≤ max u v - min u v
      omega
    · refine z.gap m (fun k mk => ?_) p mp
      unfold gC at mk
      rw [el2] at mk
      rcases List.mem_cons.mp mk with rfl | mk
      · omega
      · exact g4 k mk
  · rw [mv_rm hp c3, z.mv, List.map_cons, List.sum_cons]
    unfold vp
    show _ = 2 * (max u v - min u v + _)
    omega
theorem ZS.two {u v : Int} (h : u ≠ v) : ZS [u, v] [vp u v] := by
  refine ⟨fun a b hab => ?_, fun p m => ?_, ?_, ?_, rfl, fun m hm p mp => ?_, ?_⟩
  · rw [pas_two hab h, List.countP_cons, List.countP_nil]
    unfold cov vp
    by_cases z1 : min u v ≤ a
    · by_cases z2 : b ≤ max u v <;> simp [z1, z2]
    · simp [z1]
  · rw [List.mem_singleton.mp m]; exact vp_lt h
  · show (if decide (u < v) = true then u :: (if decide (v < u) = true then [v] else []) else (if decide (v < u) = true then [v] else [])).Perm [min u v]
    by_cases q : u < v
    · rw [if_pos (by simpa using q), if_neg (by simpa using (show u ≤ v by omega)), Int.min_eq_left (by omega)]
    · rw [if_neg (by simpa using q), if_pos (by simpa using (show v < u by omega)), Int.min_eq_right (by omega)]
  · show (if decide (u < v) = false then u :: (if decide (v < u) = false then [v] else []) else (if decide (v < u) = false then [v] else [])).Perm [max u v]
    by_cases q : u < v
    · rw [if_neg (by simpa using q), if_pos (by simpa using (show u ≤ v by omega)), Int.max_eq_right (by omega)]
    · rw [if_pos (by simpa using q), if_neg (by simpa using (show v < u by omega)), Int.max_eq_left (by omega)]
  · rw [List.mem_singleton.mp mp]
    have := hm (v - u).natAbs (by show _ ∈ [_, _]; simp)
    unfold vp
    show (m : Int) ≤ max u v - min u v
    omega
  · show ((u - v).natAbs : Int) + (((v - u).natAbs : Int) + 0) = 2 * (max u v - min u v + 0)
    omega
/-- each zigzag has its swings -/
theorem cz_ex : ∀ (n : Nat) (Z : List Int), Z.length ≤ n → CZ Z → ∃ S, ZS Z S
  | 0, Z, hn, h => by
    have : Z = [] := List.eq_nil_of_length_eq_zero (by omega)
    subst this
    exact h.elim
  | n + 1, Z, hn, h => by
    match Z, hn, h with
    | [], _, h => exact h.elim
    | [x], _, h => obtain ⟨_, _, e, _⟩ := h.two; cases e
    | [x, y], _, h =>
      obtain ⟨_, _, e, hne⟩ := h.two
      cases e
      exact ⟨_, ZS.two hne⟩
    | x :: y :: z :: W, hn, h =>
      obtain ⟨m, hm, hmin⟩ := nat_min (L := gC (x :: y :: z :: W)) (by unfold gC; exact List.cons_ne_nil _ _)
      obtain ⟨X, Y, u, v, V, e1, e2, e3⟩ := gap_at (by simp) hm
      have hl : (u :: v :: V).length = (x :: y :: z :: W).length := by rw [← e2, e1, List.length_append, List.length_append, Nat.add_comm]
      match V, e2, hl with
      | [], _, hl => simp at hl
      | q :: B, e2, hl =>
        have hz : CZ (u :: v :: q :: B) := by rw [← e2]; exact CZ.rot X (by rw [← e1]; exact h)
        have hmm : ∀ k ∈ gC (u :: v :: q :: B), (v - u).natAbs ≤ k := fun k mk => by
          rw [← e3]
          rw [← e2] at mk
          exact hmin k (by rw [e1]; exact (gC_rot Y X).mem_iff.mp mk)
        obtain ⟨S, hS⟩ := cz_ex n (q :: B) (by simp at hl hn ⊢; omega) (CZ.min hz hmm).1
        refine ⟨vp u v :: S, ?_⟩
        rw [e1]
        refine ZS.rot ?_
        rw [e2]
        exact hS.step hz hmm
theorem ZS.perm {Z : List Int} {S T : List (Int × Int)} (h : ZS Z S) (p : T.Perm S) : ZS Z T :=
  ⟨fun a b hab => by rw [h.pas a b hab, p.countP_eq], fun q m => h.lt q (p.mem_iff.mp m), h.lo.trans (p.map _).symm, h.hi.trans (p.map _).symm, by rw [h.len, p.length_eq], fun m hm q mq => h.gap m hm q (p.mem_iff.mp mq), by rw [h.mv, perm_sum (p.map _)]⟩
theorem ZS.nil : ZS [] [] := ⟨fun _ _ _ => rfl, fun _ m => (nomatch m), .nil, .nil, rfl, fun _ _ _ m => (nomatch m), rfl⟩
/-- the swings of a ring are those of its turns -/
theorem Swings.zs {xs : List Int} {n : Nat} {S : List (Int × Int)} (h : Swings xs n S) (hx : xs ≠ []) : ZS (tz xs) S := by
  obtain ⟨h1, h2, _⟩ := tz_ok hx
  have : ∃ T, ZS (tz xs) T := by
    rcases h1 with ⟨h1, _⟩ | h1
    · rw [h1]; exact ⟨_, ZS.nil⟩
    · exact cz_ex _ _ (Nat.le_refl _) h1
  obtain ⟨T, hT⟩ := this
  refine hT.perm (cov_perm h.lt hT.lt fun a b hab => ?_)
  rw [← h.pas a b hab, ← hT.pas a b hab, h2 a b hab]
/-! ### the heights of valleys and peaks -/
def vw (w : Bool) (l : Int) : List Int → List Int → List Int
  | [], _ => []
  | x :: r, E => if tnB l x (nd x (r ++ E)) && (decide (x < l) == w) then x :: vw w x r E else vw w x r E
/-- the last turn beside the last height -/
def Inv (t l n : Int) : Prop := t = l ∨ (t < l ∧ l < n) ∨ (l < t ∧ n < l)
theorem ex_tw {w : Bool} {E : List Int} (hE : ∀ x, ∃ y ∈ E, y ≠ x) : ∀ (r : List Int) (l t : Int), Inv t l (nd l (r ++ E)) → ex w t (tw l r E) = vw w l r E ∧ Inv (lst t (tw l r E)) (lst l r) (nd (lst l r) E)
  | [], l, t, h => ⟨rfl, h⟩
  | x :: r, l, t, h => by
    show ex w t (if tnB l x (nd x (r ++ E)) then x :: tw x r E else tw x r E) = (if tnB l x (nd x (r ++ E)) && (decide (x < l) == w) then x :: vw w x r E else vw w x r E) ∧ Inv (lst t (if tnB l x (nd x (r ++ E)) then x :: tw x r E else tw x r E)) (lst l (x :: r)) _
    rw [lst_cons]
    have hne : nd x (r ++ E) ≠ x := nd_some (by obtain ⟨y, m, hy⟩ := hE x; exact ⟨y, List.mem_append_right _ m, hy⟩)
    by_cases e : x = l
    · subst e
      rw [List.cons_append, nd_eq] at h
      have e0 : tnB x x (nd x (r ++ E)) = false := by simp [tnB]
      rw [e0]
      exact ex_tw hE r x t h
    · rw [List.cons_append, nd_ne e] at h
      by_cases q : tnB l x (nd x (r ++ E)) = true
      · rw [q]
        obtain ⟨i1, i2⟩ := ex_tw (w := w) hE r x x (.inl rfl)
        rw [if_pos rfl, lst_cons]
        refine ⟨?_, i2⟩
        show (if decide (x < t) = w then x :: ex w x (tw x r E) else ex w x (tw x r E)) = _
        rw [i1]
        have ed : decide (x < t) = decide (x < l) := by
          rcases h with h | h | h
          · rw [h]
          · rw [decide_eq_false (show ¬ x < t by omega), decide_eq_false (show ¬ x < l by omega)]
          · rw [decide_eq_true (show x < t by omega), decide_eq_true (show x < l by omega)]
        rw [ed, Bool.true_and]
        by_cases q2 : decide (x < l) = w
        · rw [if_pos q2, if_pos (by rw [q2]; cases w <;> rfl)]
        · rw [if_neg q2, if_neg (by intro z; exact q2 (by simpa using z))]
      · have q1 : tnB l x (nd x (r ++ E)) = false := by simpa using q
        rw [q1]
        refine ex_tw hE r x t ?_
        unfold tnB at q1
        rw [decide_eq_false (show ¬ l = x from fun z => e z.symm)] at q1
        generalize nd x (r ++ E) = n at *
        unfold Inv at h ⊢
        by_cases a : l < x
        · have : ¬ n < x := by intro b; simp [a, b] at q1
          omega
        · have : n < x := by
            apply Classical.byContradiction
            intro b
            simp [a, b] at q1
          omega
theorem exC_tz {w : Bool} {xs : List Int} (hE : ∀ x, ∃ y ∈ xs, y ≠ x) : exC w (tz xs) = vw w (lst 0 xs) xs xs := by
  obtain ⟨i1, i2⟩ := ex_tw (w := w) hE xs (lst 0 xs) (lst 0 xs) (.inl rfl)
  have hx : xs ≠ [] := by obtain ⟨y, m, _⟩ := hE 0; intro e; rw [e] at m; cases m
  have hne : tz xs ≠ [] := by
    intro z
    obtain ⟨h1, _, _⟩ := tz_ok hx
    rcases h1 with ⟨_, h1⟩ | h1
    · obtain ⟨y, m, hy⟩ := hE (lst 0 xs)
      exact hy (h1 _ m _ (by
        unfold lst
        cases q : xs.getLast? with
        | none => exact absurd (List.getLast?_eq_none_iff.mp q) hx
        | some w => exact List.mem_of_getLast? q))
    · rw [z] at h1; exact h1.elim
  have e1 : lst (lst 0 xs) xs = lst 0 xs := lst_ne hx
  have e2 : lst (lst 0 xs) (tw (lst 0 xs) xs xs) = lst 0 (tz xs) := lst_ne hne
  rw [e1, e2] at i2
  have e3 : nd (lst 0 xs) (xs ++ xs) = nd (lst 0 xs) xs := nd_app (hE _)
  exact (ex_tw (w := w) hE xs (lst 0 xs) (lst 0 (tz xs)) (by rw [e3]; exact i2)).1
theorem vw_idx {w : Bool} : ∀ (r : List Int) (l : Int) (E : List Int), vw w l r E = ((List.range r.length).filter fun k => tnB (lst l (r.take k)) (gt r k) (nd (gt r k) (r.drop (k + 1) ++ E)) && (decide (gt r k < lst l (r.take k)) == w)).map (gt r)
  | [], l, E => rfl
  | x :: r, l, E => by
    rw [List.length_cons, List.range_succ_eq_map, List.filter_cons, List.filter_map]
    have e : ∀ (F : List Nat), (F.map Nat.succ).map (gt (x :: r)) = F.map (gt r) := fun F => by rw [List.map_map]; rfl
    have ih := vw_idx (w := w) r x E
    have e2 : ((List.range r.length).filter ((fun k => tnB (lst l ((x :: r).take k)) (gt (x :: r) k) (nd (gt (x :: r) k) ((x :: r).drop (k + 1) ++ E)) && (decide (gt (x :: r) k < lst l ((x :: r).take k)) == w)) ∘ Nat.succ)) = (List.range r.length).filter fun k => tnB (lst x (r.take k)) (gt r k) (nd (gt r k) (r.drop (k + 1) ++ E)) && (decide (gt r k < lst x (r.take k)) == w) := by
      congr 1
      funext k
      show (tnB (lst l (x :: r.take k)) _ _ && (decide (_ < lst l (x :: r.take k)) == w)) = _
      rw [lst_cons]
      rfl
    rw [e2]
    show (if tnB l x (nd x (r ++ E)) && (decide (x < l) == w) then x :: vw w x r E else vw w x r E) = _
    by_cases q : (tnB l x (nd x (r ++ E)) && (decide (x < l) == w)) = true
    · rw [if_pos q, if_pos (show (tnB (lst l ((x :: r).take 0)) (gt (x :: r) 0) (nd (gt (x :: r) 0) ((x :: r).drop (0 + 1) ++ E)) && (decide (gt (x :: r) 0 < lst l ((x :: r).take 0)) == w)) = true from q), List.map_cons, e, ← ih]
      rfl
    · rw [if_neg q, if_neg (show ¬ (tnB (lst l ((x :: r).take 0)) (gt (x :: r) 0) (nd (gt (x :: r) 0) ((x :: r).drop (0 + 1) ++ E)) && (decide (gt (x :: r) 0 < lst l ((x :: r).take 0)) == w)) = true from q), e, ← ih]
/-- the heights of the valleys (w), of the peaks -/
def vpl (w : Bool) (xs : List Int) : List Int := ((tpl xs).filter fun k => decide (gt xs k < prev xs k) == w).map (gt xs)
theorem vw_vpl {w : Bool} {xs : List Int} : vw w (lst 0 xs) xs xs = vpl w xs := by
  unfold vpl tpl
  rw [vw_idx, List.filter_filter]
  congr 1
  refine List.filter_congr fun k m => ?_
  have h := List.mem_range.mp m
  rw [prev_lst h, nd_gx h, isT_tn h, Bool.and_comm]
theorem Swings.ends {xs : List Int} {n : Nat} {S : List (Int × Int)} (h : Swings xs n S) (hx : xs ≠ []) : (vpl true xs).Perm (S.map fun p => p.1) ∧ (vpl false xs).Perm (S.map fun p => p.2) := by
  have z := h.zs hx
  by_cases hc : ∀ x ∈ xs, ∀ y ∈ xs, x = y
  · have tzn : tz xs = [] := by
      rcases (tz_ok hx).1 with h1 | h1
      · exact h1.1
      · exfalso
        match q : tz xs, h1 with
        | [], h1 => exact h1
        | x :: Z, h1 =>
          obtain ⟨y, Z', e, hne⟩ := h1.two
          have m1 : ∀ w ∈ tz xs, w ∈ xs := fun w m => by
            rw [tz_tpl] at m
            obtain ⟨i, mi, rfl⟩ := List.mem_map.mp m
            exact gt_mem (tpl_lt mi)
          exact hne (hc x (m1 x (by rw [q]; simp)) y (m1 y (by rw [q, e]; simp)))
    have e0 : tpl xs = [] := by
      rw [tz_tpl] at tzn
      exact List.map_eq_nil_iff.mp tzn
    have z1 := z.lo
    have z2 := z.hi
    rw [tzn] at z1 z2
    unfold vpl
    rw [e0]
    exact ⟨z1, z2⟩
  · have hE : ∀ x, ∃ y ∈ xs, y ≠ x := by
      have h2 : ∃ x ∈ xs, ∃ y ∈ xs, x ≠ y := by
        apply Classical.byContradiction
        intro h
        apply hc
        intro x mx y my
        apply Classical.byContradiction
        intro e
        exact h ⟨x, mx, y, my, e⟩
      obtain ⟨x0, mx, y0, my, hxy⟩ := h2
      exact two_hts mx my hxy
    have z1 := z.lo
    have z2 := z.hi
    rw [exC_tz hE, vw_vpl] at z1 z2
    exact ⟨z1, z2⟩
/-! ### the widest swing -/
theorem up0 : ∀ (r : List Bool), up false r = 0 → ∀ m ∈ r, m = false
  | [], _, _, m => by cases m
  | x :: r, h, z, m => by
    have h : b2n (x && !false) + up x r = 0 := h
    have hx : x = false := by cases x with
      | false => rfl
      | true => simp [b2n] at h
    subst hx
    rcases List.mem_cons.mp m with e | m
    · exact e
    · exact up0 r (by omega) z m
theorem up1 : ∀ (r : List Bool) (l : Bool), up l r = 0 → lsb l r = true → l = true ∧ ∀ m ∈ r, m = true
  | [], l, _, e => ⟨e, fun _ m => by cases m⟩
  | x :: r, l, h, e => by
    rw [lsb_cons] at e
    have h : b2n (x && !l) + up x r = 0 := h
    obtain ⟨i1, i2⟩ := up1 r x (by omega) e
    subst i1
    have hl : l = true := by cases l with
      | true => rfl
      | false => simp [b2n] at h
    refine ⟨hl, fun m mm => ?_⟩
    rcases List.mem_cons.mp mm with e | mm
    · exact e
    · exact i2 m mm
theorem pas_pos {a b x y : Int} {xs : List Int} (hab : a < b) (hx : x ∈ xs) (hy : y ∈ xs) (h1 : x ≤ a) (h2 : b ≤ y) : 1 ≤ pas a b xs := by
  rw [pas_up hab]
  have m1 : false ∈ mks a b xs := List.mem_map.mpr ⟨x, List.mem_filter.mpr ⟨hx, by simp [dec, h1]⟩, by simp; omega⟩
  have m2 : true ∈ mks a b xs := List.mem_map.mpr ⟨y, List.mem_filter.mpr ⟨hy, by simp [dec, h2]⟩, by simpa using h2⟩
  generalize mks a b xs = ms at *
  apply Classical.byContradiction
  intro h
  have h0 : up (lsb false ms) ms = 0 := by omega
  cases q : lsb false ms with
  | false =>
    rw [q] at h0
    have := up0 ms h0 true m2
    cases this
  | true =>
    rw [q] at h0
    have hl : lsb true ms = true := by
      cases ms with
      | nil => rfl
      | cons z ms => rw [lsb_cons] at q ⊢; exact q
    have := (up1 ms true h0 hl).2 false m1
    cases this
theorem Swings.wide {xs : List Int} {n : Nat} {S : List (Int × Int)} (h : Swings xs n S) {x y : Int} (hx : x ∈ xs) (hy : y ∈ xs) (hxy : x < y) (hm : ∀ z ∈ xs, x ≤ z ∧ z ≤ y) : (x, y) ∈ S := by
  have h1 := pas_pos hxy hx hy (Int.le_refl _) (Int.le_refl _)
  rw [h.pas x y hxy] at h1
  obtain ⟨p, mp, hp⟩ := List.countP_pos_iff.mp (by omega : 0 < S.countP (cov x y))
  unfold cov at hp
  rw [Bool.and_eq_true] at hp
  have p1 := of_decide_eq_true hp.1
  have p2 := of_decide_eq_true hp.2
  have i1 := (hm _ (h.inr p mp).1).1
  have i2 := (hm _ (h.inr p mp).2).2
  have : p = (x, y) := Prod.ext (by show p.1 = x; omega) (by show p.2 = y; omega)
  rw [← this]
  exact mp
structure RvP (s : S) (x : D) (P : D → Prop) : Prop where
  ex : ∃ d, (match x with
    | .tup xs => some (D.tup xs.reverse)
    | x => (lstOf s x).map fun xs => D.lst xs.reverse) = some d ∧ P d
theorem o_rev {G : Gam} {ρ : Env} {s : S} {Φ : D → S → Prop} {a : E} (h : OE G a ρ s fun x s1 => RvP s1 x fun d => Φ d s1) : OE G (.rev a) ρ s Φ :=
  ⟨Ok.bind (h.mono fun x s1 ⟨d, e, h⟩ => by
    cases x with
    | tup xs => cases e; exact ⟨_, _, rfl, h⟩
    | _ => exact Ok.of e h)⟩
theorem rv_T {s : S} {xs : List D} {P : D → Prop} (h : P (.tup xs.reverse)) : RvP s (.tup xs) P := ⟨_, rfl, h⟩
theorem rv_L {s : S} {xs : List D} {P : D → Prop} (h : P (.lst xs.reverse)) : RvP s (.lst xs) P := ⟨_, rfl, h⟩

end
section
local macro_rules | `(tactic| eq_refl) => `(tactic| first
  | refine k_tup (purs_blws _ _ (purs_dI _)) take_self ?_ | refine k_tup (purs_blws _ _ (purs_dI _)) dk_take ?_ | refine k_tup (purs_blws _ _ (purs_dI _)) dk_cut ?_ | refine k_tup (purs_blws _ _ (purs_P _)) take_self ?_ | refine k_tup (purs_blws _ _ (purs_Nt _)) take_self ?_ | refine o_rev ?_ | refine rv_T ?_ | refine rv_L ?_)
local macro_rules | `(tactic| eq_refl) => `(tactic| first
  | refine o_cons ?_ | refine s_nx ?_ | refine o_asg ?_ | refine bd rfl ?_ | refine o_var rfl ?_ | refine o_int ?_ | refine o_bin ?_ | refine o_idx ?_ | refine o_cmp ?_
  | refine o_ite ?_ | refine o_tv ?_ | refine t_bl ?_ | refine o_ret ?_ | refine s_rt ?_ | refine r_rt ?_ | refine o_call ?_ | refine o_es ?_ | refine o_es0 ?_
  | refine o_nil ?_ | refine s_bk ?_ | refine s_ct ?_ | refine r_nx ?_
  | refine o_par ⟨Nat.le_of_ble_eq_true rfl, Nat.le_of_ble_eq_true rfl⟩ ?_ | refine o_six ?_ | refine o_exp ?_ | refine o_for ?_ | refine o_brk ?_ | refine o_cnt ?_ | refine o_pass ?_ | refine o_whl ?_
  | refine o_bl ?_ | refine o_str ?_ | refine o_non ?_ | refine o_gli ?_ | refine o_gls ?_ | refine o_neg ?_ | refine o_chn ?_ | refine o_nt ?_
  | refine o_an ?_ | refine o_an1 ?_ | refine o_orr ?_ | refine o_or1 ?_ | refine o_ife ?_ | refine o_tup ?_ | refine o_lst ?_ | refine o_dic0 ?_ | refine o_dic1 ?_ | refine o_slc ?_ | refine o_f1 ?_ | refine o_f2 ?_ | refine o_isi ?_
  | refine o_rg1 ?_ | refine o_rg2 ?_ | refine o_sst ?_ | refine o_lns ?_ | refine o_srr ?_ | refine o_app ?_ | refine o_mk ?_ | refine o_comp ?_ | refine o_calln ?_
  | refine o_iex ?_ | refine o_ir1 ?_ | refine o_ir2 ?_ | refine o_ien ?_ | refine o_izp ?_ | refine o_sqT ?_ | refine o_sqL ?_ | refine o_zpT ?_ | refine o_zpL ?_
  | refine o_o0 ?_ | refine o_o1 ?_ | refine o_tnt ?_ | refine o_tan ?_ | refine o_tan1 ?_ | refine o_tor ?_ | refine o_tor1 ?_ | refine o_ot0 ?_ | refine o_ot1 ?_
  | refine o_cF rfl ?_ | refine o_body rfl ?_ | refine isI ?_ | refine capL (by decide) ?_ | refine isB ?_ | refine isL ?_ | refine isT ?_ | refine splT ?_ | refine splF ?_
  | refine b_add ?_ | refine b_sub ?_ | refine b_mod (by decide) ?_ | refine b_div (by decide) ?_ | refine b_pow (by decide) ?_ | refine b_mulA (by decide) ?_ | refine b_mulB (by decide) ?_
  | refine c_lt ?_ | refine c_le ?_ | refine c_gt ?_ | refine c_ge ?_ | refine c_eq ?_ | refine c_ne ?_ | refine c_eqBs ?_ | refine c_neBs ?_ | refine c_eqB ?_ | refine c_neB ?_ | refine c_eqSs ?_ | refine c_neSs ?_ | refine c_eqS ?_ | refine c_neS ?_ | refine c_isN rfl ?_ | refine c_notN rfl ?_
  | refine t_int ?_ | refine t_tup ?_ | refine t_lst ?_ | refine t_non ?_
  | refine f_lenT ?_ | refine f_lenL ?_ | refine f_tupL ?_ | refine f_tupT ?_ | refine f_lstT ?_ | refine f_lstL ?_ | refine f_abs ?_ | refine f_sum ?_ | refine f_all ?_ | refine f_any ?_ | refine f_intI ?_ | refine f_intB ?_
  | refine l_tup ?_ | refine l_lst ?_ | refine l_scr ?_ | refine got rfl ?_
  | refine k_int take_self ?_ | refine k_bl take_self ?_ | refine k_non take_self ?_ | refine k_str take_self ?_ | refine k_int dk_take ?_ | refine k_bl dk_take ?_ | refine k_non dk_take ?_
  | refine tn_nx ?_ | refine tn_ct ?_ | refine tn_bk ?_ | refine tn_rt ?_ | refine x_any rfl ?_ | refine f_lenM rfl ?_ | refine f_tupM rfl ?_)
/-! ### the laws' own number of passages; ints in a tuple -/
theorem Hts.reps {t : List Int} (h : Hts t) (n : Nat) : Hts (List.replicate n t).flatten := fun y m => by
  obtain ⟨l, ml, my⟩ := List.mem_flatten.mp m
  rw [List.eq_of_mem_replicate ml] at my
  exact h y my
theorem Hts.tk {t : List Int} (h : Hts t) (n : Nat) : Hts (t.take n) := fun y m => h y (List.mem_of_mem_take m)
def bMany : List C :=
   [.asg (.nm 3) (.comp (.cmp .GtE (.var 4) (.var 2)) (.nm 4) (.ex (.var 0)) (some (.orr (.v (.cmp .LtE (.var 4) (.var 1))) (.or1 (.v (.cmp .GtE (.var 4) (.var 2)))))) [("_law_height", 4)]),
    .ret (.f1 .len (.comp (.var 5) (.nm 5) (.r1 (.f1 .len (.var 3))) (some (.an (.v (.idx (.var 3) (.var 5))) (.an1 (.nt (.v (.idx (.var 3) (.bin .sub (.var 5) (.cst (.int 1))))))))) [("_law_k", 5)]))]
theorem Hts.rv {t : List Int} (h : Hts t) : Hts t.reverse := fun y m => h y (List.mem_reverse.mp m)
theorem Hts.nil : Hts [] := fun _ m => nomatch m
theorem Hts.cons {t : List Int} {x : Int} (hx : -(10 ^ 9) ≤ x ∧ x ≤ 10 ^ 9) (h : Hts t) : Hts (x :: t) := fun y m => by
  rcases List.mem_cons.mp m with rfl | m
  · exact hx
  · exact h y m
def bChangedB (iD : Nat) : List C :=
   [.asg (.nm 2) (.call iD [(.var 0), (.f1 .len (.var 1))]),
    .par 3 4 (.bin .add (.slc (.var 1) (some (.var 2)) none) (.slc (.var 1) none (some (.var 2)))) (.call iD [(.var 0), (.cst (.int 6))]),
    .ite (.v (.cmp .Eq (.var 4) (.cst (.int 0)))) [.ret (.rev (.var 3))] [],
    .ite (.v (.cmp .Eq (.var 4) (.cst (.int 1)))) [.par 5 6 (.f1 .min (.slc (.var 3) none (some (.cst (.int 2))))) (.f1 .max (.slc (.var 3) none (some (.cst (.int 2))))),
    .ret (.bin .add (.bin .add (.slc (.var 3) none (some (.cst (.int 1)))) (.tup [(.bin .add (.var 5) (.call iD [(.var 0), (.bin .add (.bin .sub (.var 6) (.var 5)) (.cst (.int 1)))]))])) (.slc (.var 3) (some (.cst (.int 1))) none))] [],
    .ite (.v (.cmp .Eq (.var 4) (.cst (.int 2)))) [.ret (.bin .add (.tup [(.bin .add (.idx (.var 3) (.cst (.int 0))) (.idx (.lst [(.cst (.int 1)), (.neg (.cst (.int 1)))]) (.f1 .int (.cmp .Eq (.idx (.var 3) (.cst (.int 0))) (.bin .pow (.cst (.int 10)) (.cst (.int 9)))))))]) (.slc (.var 3) (some (.cst (.int 1))) none))] [],
    .ite (.v (.cmp .Eq (.var 4) (.cst (.int 3)))) [.ret (.bin .add (.bin .add (.slc (.var 3) (some (.cst (.int 1))) (some (.cst (.int 2)))) (.slc (.var 3) none (some (.cst (.int 1))))) (.slc (.var 3) (some (.cst (.int 2))) none))] [],
    .ret (.idx (.lst [(.var 3), (.bin .add (.var 3) (.slc (.var 3) none (some (.cst (.int 1)))))]) (.bin .sub (.var 4) (.cst (.int 4))))]
theorem cutD_nat {xs : List D} {i j : Nat} (hij : i ≤ j) : RS.cutD xs (some (i : Int)) (some (j : Int)) = (xs.take j).drop i := by
  unfold RS.cutD
  rw [HT.sIx_nat, HT.sIx_nat, List.drop_take]
  by_cases h1 : i ≤ xs.length
  · by_cases h2 : j ≤ xs.length
    · rw [Nat.min_eq_left h1, Nat.min_eq_left h2]
    · rw [Nat.min_eq_left h1, Nat.min_eq_right (by omega), List.take_of_length_le (by rw [List.length_drop]; omega), List.take_of_length_le (by rw [List.length_drop]; omega)]
  · rw [Nat.min_eq_right (show xs.length ≤ i by omega), List.drop_of_length_le (Nat.le_refl _), List.take_nil, List.drop_of_length_le (show xs.length ≤ i by omega), List.take_nil]
theorem l_frm {s : S} {xs : List Int} {i : Nat} {P : D → Prop} (h : P (.tup (dI (xs.drop i)))) : SlcP s (.tup (dI xs)) (some (i : Int)) none P := l_tup (by rw [cut_from, ← List.map_drop]; exact h)
theorem l_to {s : S} {xs : List Int} {i : Nat} {P : D → Prop} (h : P (.tup (dI (xs.take i)))) : SlcP s (.tup (dI xs)) none (some (i : Int)) P := l_tup (by rw [cut_to, ← List.map_take]; exact h)
theorem l_frm1 {s : S} {xs : List Int} {P : D → Prop} (h : P (.tup (dI (xs.drop 1)))) : SlcP s (.tup (dI xs)) (some 1) none P := l_frm (i := 1) h
theorem l_frm2 {s : S} {xs : List Int} {P : D → Prop} (h : P (.tup (dI (xs.drop 2)))) : SlcP s (.tup (dI xs)) (some 2) none P := l_frm (i := 2) h
theorem l_to1 {s : S} {xs : List Int} {P : D → Prop} (h : P (.tup (dI (xs.take 1)))) : SlcP s (.tup (dI xs)) none (some 1) P := l_to (i := 1) h
theorem l_to2 {s : S} {xs : List Int} {P : D → Prop} (h : P (.tup (dI (xs.take 2)))) : SlcP s (.tup (dI xs)) none (some 2) P := l_to (i := 2) h
theorem l_mid {s : S} {xs : List Int} {i j : Nat} {P : D → Prop} (hij : i ≤ j) (h : P (.tup (dI ((xs.take j).drop i)))) : SlcP s (.tup (dI xs)) (some (i : Int)) (some (j : Int)) P := l_tup (by rw [cutD_nat hij, ← List.map_take, ← List.map_drop]; exact h)
theorem l_mid12 {s : S} {xs : List Int} {P : D → Prop} (h : P (.tup (dI ((xs.take 2).drop 1)))) : SlcP s (.tup (dI xs)) (some 1) (some 2) P := l_mid (i := 1) (j := 2) (by decide) h
local macro_rules | `(tactic| eq_refl) => `(tactic| first
  | refine l_frm1 ?_ | refine l_frm2 ?_ | refine l_to1 ?_ | refine l_to2 ?_ | refine l_mid12 ?_ | refine l_frm ?_ | refine l_to ?_)
/-! ### alike -/
/-! ### rings under a map of heights -/
theorem l_frmS {s : S} {xs : List Int} {i : Nat} {P : D → Prop} (h : P (.tup (dI (xs.drop (i + 1))))) : SlcP s (.tup (dI xs)) (some ((i : Int) + 1)) none P := l_frm (i := i + 1) h
theorem l_toS {s : S} {xs : List Int} {i : Nat} {P : D → Prop} (h : P (.tup (dI (xs.take (i + 1))))) : SlcP s (.tup (dI xs)) none (some ((i : Int) + 1)) P := l_to (i := i + 1) h
/-! ### extend -/
structure OXt (x y : D) (s : S) (Φ : D → S → Prop) : Prop where
  ok : Ok (extD x y s) Φ
theorem o_ext {G : Gam} {ρ : Env} {s : S} {Φ : D → S → Prop} {a b : E} (h : OE G a ρ s fun x s1 => MLP x s1 (OE G b ρ s1 fun y s2 => OXt x y s2 Φ)) : OE G (.ext a b) ρ s Φ :=
  ⟨Ok.bind (h.mono fun x s1 ⟨e, h⟩ => by (try dsimp only); rw [if_pos e]; exact Ok.bind (h.mono fun _ _ h => h.ok))⟩
end
end RS
/-! ### the law's defs -/
namespace LW
open PySem RS
def b_repeated : List C :=
   [.ite (.v (.cmp .Gt (.bin .mul (.f1 .len (.var 0)) (.var 1)) (.glb "MAX_LENGTH" (.int 24)))) [.rai1 "TooLong" "bound" (.glb "MAX_LENGTH" (.int 24))] [],
    .ret (.bin .mul (.var 0) (.var 1))]
def b__law_deck : List C :=
   [.ret (.mk (.lst [(.mk (.comp (.f1 .abs (.var 1)) (.nm 1) (.ex (.slc (.var 0) none (some (.cst (.int 63))))) none [("_law_cell", 1)])), (.cst (.int 0))]))]
def b__law_draw : List C :=
   [.six (.var 0) (.cst (.int 1)) (.bin .add (.idx (.var 0) (.cst (.int 1))) (.cst (.int 1))),
    .asg (.nm 2) (.cst (.int 0)),
    .asg (.nm 3) (.neg (.cst (.int 1))),
    .ite (.v (.cmp .Gt (.f1 .len (.idx (.var 0) (.cst (.int 0)))) (.cst (.int 0)))) [.asg (.nm 3) (.bin .mod (.idx (.var 0) (.cst (.int 1))) (.f1 .len (.idx (.var 0) (.cst (.int 0))))),
    .asg (.nm 2) (.idx (.idx (.var 0) (.cst (.int 0))) (.var 3))] [],
    .ite (.v (.cmp .GtE (.var 2) (.bin .pow (.cst (.int 10)) (.cst (.int 18))))) [.six (.idx (.var 0) (.cst (.int 0))) (.var 3) (.bin .div (.var 2) (.var 1)),
    .ret (.bin .mod (.var 2) (.var 1))] [],
    .ret (.bin .mod (.bin .mod (.bin .pow (.bin .add (.bin .add (.bin .mod (.var 2) (.cst (.int 2147483587))) (.bin .mul (.cst (.int 7919)) (.idx (.var 0) (.cst (.int 1))))) (.cst (.int 1))) (.cst (.int 5))) (.cst (.int 2147483647))) (.var 1))]
def b__law_heights : List C :=
   [.asg (.tp [(.nm 3), (.nm 4)]) (.idx (.lst [(.lst [(.cst (.int 0)), (.cst (.int 4))]), (.lst [(.neg (.cst (.int 3))), (.cst (.int 9))]), (.lst [(.bin .sub (.bin .pow (.cst (.int 10)) (.cst (.int 9))) (.cst (.int 12))), (.cst (.int 13))]), (.lst [(.neg (.bin .pow (.cst (.int 10)) (.cst (.int 9)))), (.cst (.int 7))]), (.lst [(.neg (.cst (.int 50))), (.cst (.int 101))])]) (.var 2)),
    .asg (.nm 5) (.mk (.comp (.bin .add (.var 3) (.call 2 [(.var 0), (.var 4)])) (.nm 6) (.r1 (.var 1)) none [("_law_k", 6)])),
    .ite (.v (.cmp .Eq (.call 2 [(.var 0), (.cst (.int 4))]) (.cst (.int 0)))) [.six (.var 5) (.call 2 [(.var 0), (.var 1)]) (.idx (.lst [(.neg (.bin .pow (.cst (.int 10)) (.cst (.int 9)))), (.bin .pow (.cst (.int 10)) (.cst (.int 9)))]) (.call 2 [(.var 0), (.cst (.int 2))]))] [],
    .ret (.var 5)]
def b__law_ring : List C :=
   [.asg (.nm 2) (.calln 3 [(.var 0), (.bin .add (.cst (.int 1)) (.call 2 [(.var 0), (.var 1)])), (.call 2 [(.var 0), (.cst (.int 5))])]),
    .ite (.v (.cmp .Eq (.call 2 [(.var 0), (.cst (.int 3))]) (.cst (.int 0)))) [.forr (.nm 3) (.r2 (.cst (.int 1)) (.f1 .len (.var 2))) [.ite (.v (.cmp .Eq (.call 2 [(.var 0), (.cst (.int 3))]) (.cst (.int 0)))) [.six (.var 2) (.var 3) (.idx (.var 2) (.bin .sub (.var 3) (.cst (.int 1))))] []]] [],
    .ret (.f1 .tuple (.var 2))]
def b__law_same : List C :=
   [.ite (.v (.isi .tuple (.var 1))) [.ite (.orr (.nt (.v (.isi .tuple (.var 0)))) (.or1 (.v (.cmp .NotEq (.f1 .len (.var 0)) (.f1 .len (.var 1)))))) [.ret (.cst (.bl false))] [],
    .ret (.cmp .Eq (.comp (.cst (.int 1)) (.tp [(.nm 2), (.nm 3)]) (.zp (.var 0) (.var 1)) (some (.nt (.v (.call 5 [(.var 2), (.var 3)])))) [("_law_one", 2), ("_law_other", 3)]) (.lst []))] [],
    .ite (.v (.cmp .Is (.var 1) (.cst .non))) [.ret (.cmp .Is (.var 0) (.cst .non))] [],
    .ite (.v (.isi .str (.var 1))) [.ret (.an (.isi .str (.var 0)) (.an1 (.cmp .Eq (.var 0) (.var 1))))] [],
    .ret (.an (.isi .int (.var 0)) (.an (.cmp .Eq (.isi .bool (.var 0)) (.isi .bool (.var 1))) (.an1 (.cmp .Eq (.var 0) (.var 1)))))]
def b__law_told : List C :=
   [.asg (.nm 2) (.cst .non),
    .tryy [.asg (.nm 2) (.call 0 [(.var 0), (.var 1)])] (.hd "RingError" (some 4) [.asg (.nm 2) (.cst (.str "other")),
    .ite (.v (.xis true ["TooLong"] (.var 4))) [.asg (.nm 3) (.xis false ["BadHeight", "BadRing", "LastPlace", "NotDistinct", "OutOfRange", "LookupError"] (.var 4)),
    .asg (.nm 2) (.tup [(.cst (.str "long")), (.xf "bound" (.var 4)), (.var 3)])] []] .hd0),
    .ret (.var 2)]
def b_law : List C :=
   [.asg (.nm 1) (.calln 1 [(.var 0)]),
    .asg (.nm 2) (.comp (.call 4 [(.var 1), (.var 6)]) (.nm 6) (.ex (.tup [(.cst (.int 24)), (.cst (.int 12)), (.cst (.int 8)), (.cst (.int 4)), (.cst (.int 3))])) none [("_law_most", 6)]),
    .forr (.nm 3) (.ex (.bin .add (.var 2) (.lst [(.tup [(.cst (.int 5))]), (.tup [(.cst (.int 0)), (.cst (.int 7))]), (.rg1 true (.cst (.int 12))), (.rg1 true (.cst (.int 13)))]))) [.par 5 6 (.f1 .repr (.var 3)) (.bin .div (.cst (.int 24)) (.f1 .len (.var 3))),
    .forr (.nm 4) (.ex (.lst [(.cst (.int 1)), (.cst (.int 2)), (.cst (.int 3)), (.var 6), (.bin .add (.var 6) (.cst (.int 1))), (.cst (.int 24)), (.cst (.int 25)), (.bin .pow (.cst (.int 10)) (.cst (.int 29))), (.bin .sub (.bin .pow (.cst (.int 10)) (.cst (.int 30))) (.cst (.int 1))), (.bin .add (.cst (.int 1)) (.call 2 [(.var 1), (.cst (.int 30))]))])) [.asg (.nm 7) (.tup [(.cst (.str "long")), (.cst (.int 24)), (.cst (.bl false))]),
    .ite (.v (.cmp .LtE (.var 4) (.var 6))) [.asg (.nm 7) (.f1 .tuple (.comp (.idx (.var 3) (.bin .mod (.var 8) (.f1 .len (.var 3)))) (.nm 8) (.r1 (.bin .mul (.f1 .len (.var 3)) (.var 4))) none [("_law_k", 8)]))] [],
    .ite (.nt (.v (.call 5 [(.call 6 [(.var 3), (.var 4)]), (.var 7)]))) [.ret (.cst (.bl false))] []],
    .ite (.orr (.an (.v (.cmp .Gt (.var 6) (.cst (.int 5)))) (.an1 (.v (.cmp .NotEq (.call 0 [(.call 0 [(.var 3), (.cst (.int 2))]), (.cst (.int 3))]) (.call 0 [(.var 3), (.cst (.int 6))]))))) (.or1 (.v (.cmp .NotEq (.f1 .repr (.var 3)) (.var 5))))) [.ret (.cst (.bl false))] []],
    .ret (.cst (.bl true))]
def fns : List Fn := [
  ⟨"repeated", "repeated", ["ring", "times"], ["ring", "times"], b_repeated⟩,
  ⟨"_law_deck", "_law_deck", ["_law_script"], ["_law_script", "_law_cell"], b__law_deck⟩,
  ⟨"_law_draw", "_law_draw", ["_law_deck_here", "_law_many"], ["_law_deck_here", "_law_many", "_law_cell", "_law_place"], b__law_draw⟩,
  ⟨"_law_heights", "_law_heights", ["_law_deck_here", "_law_count", "_law_way"], ["_law_deck_here", "_law_count", "_law_way", "_law_low", "_law_spread", "_law_found", "_law_k"], b__law_heights⟩,
  ⟨"_law_ring", "_law_ring", ["_law_deck_here", "_law_most"], ["_law_deck_here", "_law_most", "_law_heights_here", "_law_place"], b__law_ring⟩,
  ⟨"_law_same", "_law_same", ["_law_found", "_law_due"], ["_law_found", "_law_due", "_law_one", "_law_other"], b__law_same⟩,
  ⟨"_law_told", "_law_told", ["_law_ring_here", "_law_times"], ["_law_ring_here", "_law_times", "_law_found", "_law_others", "error"], b__law_told⟩,
  ⟨"law", "law", ["_law_script"], ["_law_script", "_law_deck_here", "_law_rings", "_law_ring_here", "_law_times", "_law_kept", "_law_most", "_law_due", "_law_k"], b_law⟩]
def gls : List (Str × Cst) := [("MAX_LENGTH", (.int 24))]
def tf : List Str := []
def xs : Exs := { exn := ["RingError", "TooLong", "BadHeight", "BadRing", "LastPlace", "NotDistinct", "OutOfRange", "LookupError"], ex0 := [], ex1 := [("TooLong", "bound")] }
def cbd : Stmt → List Stmt
  | .ClassDef _ _ _ b _ _ _ _ _ _ _ => b
  | _ => []
abbrev rw_ : PySem.W.OpenLaw := PySem.Challenge.rw_ringswings_k46_rings_repeated
def top (i : Nat) : Stmt := PySem.Challenge.pw_ringswings_k46_rings_repeated.main.body.getD i (.Pass ⟨0, 0, 0, 0⟩)
def sts : List Stmt := [top 10, top 12, top 13, top 14, top 15, top 16, top 17, top 18]
def ist : List Stmt := [(cbd (top 6)).getD 0 (.Pass ⟨0, 0, 0, 0⟩)]
def i_repeated : Nat := 0
def i__law_deck : Nat := 1
def i__law_draw : Nat := 2
def i__law_heights : Nat := 3
def i__law_ring : Nat := 4
def i__law_same : Nat := 5
def i__law_told : Nat := 6
def i_law : Nat := 7
theorem ck0 : chk gls fns tf xs (fns.getD 0 ⟨"", "", [], [], []⟩) (top 10) = true := by decide +kernel
theorem ck1 : chk gls fns tf xs (fns.getD 1 ⟨"", "", [], [], []⟩) (top 12) = true := by decide +kernel
theorem ck2 : chk gls fns tf xs (fns.getD 2 ⟨"", "", [], [], []⟩) (top 13) = true := by decide +kernel
theorem ck3 : chk gls fns tf xs (fns.getD 3 ⟨"", "", [], [], []⟩) (top 14) = true := by decide +kernel
theorem ck4 : chk gls fns tf xs (fns.getD 4 ⟨"", "", [], [], []⟩) (top 15) = true := by decide +kernel
theorem ck5 : chk gls fns tf xs (fns.getD 5 ⟨"", "", [], [], []⟩) (top 16) = true := by decide +kernel
theorem ck6 : chk gls fns tf xs (fns.getD 6 ⟨"", "", [], [], []⟩) (top 17) = true := by decide +kernel
theorem ck7 : chk gls fns tf xs (fns.getD 7 ⟨"", "", [], [], []⟩) (top 18) = true := by decide +kernel
theorem ck : chks gls fns tf xs fns sts = true := by
  show (chk gls fns tf xs (fns.getD 0 ⟨"", "", [], [], []⟩) (top 10) && (chk gls fns tf xs (fns.getD 1 ⟨"", "", [], [], []⟩) (top 12) && (chk gls fns tf xs (fns.getD 2 ⟨"", "", [], [], []⟩) (top 13) && (chk gls fns tf xs (fns.getD 3 ⟨"", "", [], [], []⟩) (top 14) && (chk gls fns tf xs (fns.getD 4 ⟨"", "", [], [], []⟩) (top 15) && (chk gls fns tf xs (fns.getD 5 ⟨"", "", [], [], []⟩) (top 16) && (chk gls fns tf xs (fns.getD 6 ⟨"", "", [], [], []⟩) (top 17) && (chk gls fns tf xs (fns.getD 7 ⟨"", "", [], [], []⟩) (top 18) && (true))))))))) = true
  simp only [ck0, ck1, ck2, ck3, ck4, ck5, ck6, ck7]
  rfl
theorem bds : Bds fns sts := ⟨fun _ _ _ _ _ _ us hl => match us, hl with | [_, _], _ => rfl, fun _ _ _ _ _ _ us hl => match us, hl with | [_], _ => rfl, fun _ _ _ _ _ _ us hl => match us, hl with | [_, _], _ => rfl, fun _ _ _ _ _ _ us hl => match us, hl with | [_, _, _], _ => rfl, fun _ _ _ _ _ _ us hl => match us, hl with | [_, _], _ => rfl, fun _ _ _ _ _ _ us hl => match us, hl with | [_, _], _ => rfl, fun _ _ _ _ _ _ us hl => match us, hl with | [_, _], _ => rfl, fun _ _ _ _ _ _ us hl => match us, hl with | [_], _ => rfl, trivial⟩
theorem cki : chkI xs.ex1 ist = true := by decide +kernel
theorem bdsi : BdsI xs.ex1 ist := ⟨fun _ _ _ _ _ _ us hl => match us, hl with | [_, _], _ => rfl, trivial⟩
end LW
namespace LW
open PySem RS L2 PyProof.Rows
local macro_rules | `(tactic| eq_refl) => `(tactic| first
  | refine k_tup (purs_blws _ _ (purs_dI _)) take_self ?_ | refine k_tup (purs_blws _ _ (purs_dI _)) dk_take ?_ | refine k_tup (purs_blws _ _ (purs_dI _)) dk_cut ?_ | refine k_tup (purs_blws _ _ (purs_P _)) take_self ?_ | refine k_tup (purs_blws _ _ (purs_Nt _)) take_self ?_ | refine k_tup (purs_blws _ _ (purs_dI _)) take_app ?_ | refine k_tup (purs_blws _ _ (purs_P _)) take_app ?_ | refine k_tup (purs_blws _ _ (purs_Nt _)) take_app ?_ | refine o_rev ?_ | refine rv_T ?_ | refine rv_L ?_)
local macro_rules | `(tactic| eq_refl) => `(tactic| first
  | refine o_cons ?_ | refine s_nx ?_ | refine o_asg ?_ | refine bd rfl ?_ | refine o_var rfl ?_ | refine o_int ?_ | refine o_bin ?_ | refine o_idx ?_ | refine o_cmp ?_
  | refine o_ite ?_ | refine o_tv ?_ | refine t_bl ?_ | refine o_ret ?_ | refine s_rt ?_ | refine r_rt ?_ | refine o_call ?_ | refine o_es ?_ | refine o_es0 ?_
  | refine o_nil ?_ | refine s_bk ?_ | refine s_ct ?_ | refine r_nx ?_
  | refine o_par ⟨Nat.le_of_ble_eq_true rfl, Nat.le_of_ble_eq_true rfl⟩ ?_ | refine o_par3 ⟨Nat.le_of_ble_eq_true rfl, Nat.le_of_ble_eq_true rfl, Nat.le_of_ble_eq_true rfl⟩ ?_ | refine o_augM rfl (Nat.le_of_ble_eq_true rfl) ?_ | refine o_six ?_ | refine o_exp ?_ | refine o_for ?_ | refine o_brk ?_ | refine o_cnt ?_ | refine o_pass ?_ | refine o_whl ?_
  | refine o_bl ?_ | refine o_str ?_ | refine o_non ?_ | refine o_gli ?_ | refine o_gls ?_ | refine o_neg ?_ | refine o_chn ?_ | refine o_nt ?_
  | refine o_an ?_ | refine o_an1 ?_ | refine o_orr ?_ | refine o_or1 ?_ | refine o_ife ?_ | refine o_tup ?_ | refine o_lst ?_ | refine o_dic0 ?_ | refine o_dic1 ?_ | refine o_slc ?_ | refine o_f1 ?_ | refine o_f2 ?_ | refine o_isi ?_
  | refine o_rg1 ?_ | refine o_rg2 ?_ | refine o_sst ?_ | refine o_lns ?_ | refine o_srr ?_ | refine o_srkR ?_ | refine o_dsub ?_ | refine o_srkP ?_ | refine o_rv0 ?_ | refine o_mmx ?_ | refine o_app ?_ | refine o_mk ?_ | refine o_comp ?_ | refine o_calln ?_
  | refine o_iex ?_ | refine o_ir1 ?_ | refine o_ir2 ?_ | refine o_ien ?_ | refine o_ien1 ?_ | refine o_izp ?_ | refine o_sqT ?_ | refine o_sqL ?_ | refine o_zpT ?_ | refine o_zpL ?_
  | refine o_o0 ?_ | refine o_o1 ?_ | refine o_tnt ?_ | refine o_tan ?_ | refine o_tan1 ?_ | refine o_tor ?_ | refine o_tor1 ?_ | refine o_ot0 ?_ | refine o_ot1 ?_
  | refine o_cF rfl ?_ | refine o_body rfl ?_ | refine isI ?_ | refine capL (by decide) ?_ | refine isB ?_ | refine isL ?_ | refine isT ?_ | refine splT ?_ | refine splF ?_
  | refine b_add ?_ | refine b_sub ?_ | refine b_mod (by decide) ?_ | refine b_div (by decide) ?_ | refine b_pow (by decide) ?_ | refine b_mulA (by decide) ?_ | refine b_mulB (by decide) ?_
  | refine c_lt ?_ | refine c_le ?_ | refine c_gt ?_ | refine c_ge ?_ | refine c_eq ?_ | refine c_ne ?_ | refine c_eqBs ?_ | refine c_neBs ?_ | refine c_eqB ?_ | refine c_neB ?_ | refine c_eqSs ?_ | refine c_neSs ?_ | refine c_eqS ?_ | refine c_neS ?_ | refine c_isN rfl ?_ | refine c_notN rfl ?_
  | refine t_int ?_ | refine t_tup ?_ | refine t_lst ?_ | refine t_non ?_
  | refine f_lenT ?_ | refine f_lenL ?_ | refine f_tupL ?_ | refine f_tupT ?_ | refine f_lstT ?_ | refine f_lstL ?_ | refine f_abs ?_ | refine f_sum ?_ | refine f_all ?_ | refine f_any ?_ | refine f_intI ?_ | refine f_intB ?_
  | refine l_tup ?_ | refine l_lst ?_ | refine l_scr ?_ | refine got rfl ?_
  | refine k_int take_self ?_ | refine k_bl take_self ?_ | refine k_non take_self ?_ | refine k_str take_self ?_ | refine k_int dk_take ?_ | refine k_bl dk_take ?_ | refine k_non dk_take ?_
  | refine tn_nx ?_ | refine tn_ct ?_ | refine tn_bk ?_ | refine tn_rt ?_ | refine x_any rfl ?_ | refine f_lenM rfl ?_ | refine f_tupM rfl ?_
  | refine o_xis ?_ | refine o_xf ?_ | refine o_cntE ⟨rfl, ?_⟩ | refine x_ite ?_ | refine x_asg ?_ | refine x_ret ?_ | refine x_exp ?_ | refine x_call ?_ | refine x_calln ?_ | refine x_rai ?_ | refine x_rai1 ?_ | refine nxP ?_)
local macro_rules | `(tactic| eq_refl) => `(tactic| first
  | (refine bd rfl ?_; dsimp only [List.set]) | (refine o_par ⟨Nat.le_of_ble_eq_true rfl, Nat.le_of_ble_eq_true rfl⟩ ?_; dsimp only [List.set]) | (refine o_par3 ⟨Nat.le_of_ble_eq_true rfl, Nat.le_of_ble_eq_true rfl, Nat.le_of_ble_eq_true rfl⟩ ?_; dsimp only [List.set]) | (refine o_augM rfl (Nat.le_of_ble_eq_true rfl) ?_; dsimp only [List.set])
  | refine o_ext ?_ | refine l_frm1 ?_ | refine l_frm2 ?_ | refine l_to1 ?_ | refine l_to2 ?_ | refine l_mid12 ?_ | refine l_frmS ?_ | refine l_toS ?_ | refine l_frm ?_ | refine l_to ?_)

theorem x_fn0 {fns : List Fn} {fuel k f : Nat} {F : Fn} {xs : List D} {s : S} {ΨF : Str → List (Str × D) → S → Prop} {ρ0 : RS.Env} {b : List C} (e : fns[f]? = some F) (eb : F.body = b) (l : xs.length = F.ps.length)
    (eρ : xs.map some ++ List.replicate (F.N.length - xs.length) none = ρ0) (h : OXCs ⟨evF fns fuel k, fuel⟩ b ρ0 s fun c fs _ s1 => ΨF c fs s1) : OXF (evF fns fuel (k + 1) f xs s) ΨF := by
  subst eρ eb
  exact x_fn e l h
theorem fD : IsF fns 2 2 4 bDrawC := ⟨_, rfl, rfl, rfl, rfl⟩
theorem fH : IsF fns 3 3 7 (bHeightsC 2) := ⟨_, rfl, rfl, rfl, rfl⟩
theorem fR : IsF fns 4 2 4 (bRingC 2 3) := ⟨_, rfl, rfl, rfl, rfl⟩
abbrev reps (n : Nat) (xs : List Int) : List Int := (List.replicate n xs).flatten
theorem rep_dI (n : Nat) (xs : List Int) : (List.replicate n (dI xs)).flatten = dI (reps n xs) := by
  rw [dI, dI, reps, List.map_flatten, List.map_replicate]
theorem lenI (xs : List Int) : (dI xs).length = xs.length := List.length_map ..
theorem natmul (a b : Nat) : ((a * b : Nat) : Int) = (a : Int) * (b : Int) := by simp
theorem rep_ok {fuel k n : Nat} {xs : List Int} {s : S} {Φ : D → S → Prop} (hn : n < 2 ^ 60) (l : xs.length * n ≤ 24) (h : Φ (.tup (dI (reps n xs))) s) : OFn (evF fns fuel (k + 1) 0 [.tup (dI xs), .int (n : Int)] s) Φ := by
  refine o_fn (ρ0 := [some (.tup (dI xs)), some (.int (n : Int))]) rfl rfl rfl rfl ?_
  have := natmul xs.length n
  repeat eq_refl
  refine b_mulB ⟨by omega, by omega⟩ ?_
  repeat eq_refl
  rw [lenI, decide_eq_false (show ¬ (24 : Int) < (xs.length : Int) * (n : Int) by omega)]
  repeat eq_refl
  refine b_mulT ⟨by rw [lenI, Int.toNat_natCast]; show _ ≤ 1000000; omega, by omega, by omega⟩ ?_
  rw [Int.toNat_natCast, rep_dI]
  repeat eq_refl
  exact h
theorem rep_no {fuel k : Nat} {xs : List Int} {t : Int} {s : S} {Ψ : Str → List (Str × D) → S → Prop} (hl : xs.length ≤ 100) (l : (24 : Int) < (xs.length : Int) * t) (h : Ψ "TooLong" [("bound", .int 24)] s) : OXF (evF fns fuel (k + 1) 0 [.tup (dI xs), .int t] s) Ψ := by
  refine x_fn0 (ρ0 := [some (.tup (dI xs)), some (.int t)]) rfl rfl rfl rfl ?_
  refine x_consX ?_
  repeat eq_refl
  refine b_mulA (by rw [lenI]; omega) ?_
  repeat eq_refl
  rw [lenI, decide_eq_true l]
  refine x_consX ?_
  repeat eq_refl
  exact h
abbrev long : D := .tup [.str "long", .int 24, .bl false]
def res (xs : List Int) (n : Nat) : D := if xs.length * n ≤ 24 then .tup (dI (reps n xs)) else long
theorem told_ok {fuel k n : Nat} {xs : List Int} {s : S} {Φ : D → S → Prop} (hl : xs.length ≤ 100) (l1 : 1 ≤ xs.length) (h : Φ (res xs n) s) : OFn (evF fns fuel (k + 2) 6 [.tup (dI xs), .int (n : Int)] s) Φ := by
  refine o_fn (ρ0 := [some (.tup (dI xs)), some (.int (n : Int)), none, none, none]) rfl rfl rfl rfl ?_
  repeat eq_refl
  unfold res at h
  by_cases hx : xs.length * n ≤ 24
  · rw [if_pos hx] at h
    refine o_tryN ?_
    repeat eq_refl
    refine rep_ok (by have : 1 * n ≤ xs.length * n := Nat.mul_le_mul_right n l1; omega) hx ?_
    refine k_tup (purs_blws _ _ (purs_dI _)) take_self ?_
    repeat eq_refl
    exact h
  · rw [if_neg hx] at h
    refine o_tryX ?_
    refine x_consX ?_
    repeat eq_refl
    refine rep_no hl (by have := natmul xs.length n; omega) ?_
    rw [take_self]
    refine ⟨rfl, ?_⟩
    refine h_hit1 (d := .xcp "TooLong" "bound" (.int 24)) ?_ rfl ?_
    · decide +kernel
    repeat eq_refl
    exact h
theorem same_int {fuel k : Nat} {i : Int} {s : S} {Φ : D → S → Prop} (h : Φ (.bl true) s) : OFn (evF fns fuel (k + 1) 5 [.int i, .int i] s) Φ := by
  refine o_fn (ρ0 := [some (.int i), some (.int i), none, none]) rfl rfl rfl rfl ?_
  repeat eq_refl
  rw [decide_eq_true rfl]
  exact h
theorem same_bl {fuel k : Nat} {i : Bool} {s : S} {Φ : D → S → Prop} (h : Φ (.bl true) s) : OFn (evF fns fuel (k + 1) 5 [.bl i, .bl i] s) Φ := by
  refine o_fn (ρ0 := [some (.bl i), some (.bl i), none, none]) rfl rfl rfl rfl ?_
  repeat eq_refl
  exact h
theorem same_str {fuel k : Nat} {i : Str} {s : S} {Φ : D → S → Prop} (h : Φ (.bl true) s) : OFn (evF fns fuel (k + 1) 5 [.str i, .str i] s) Φ := by
  refine o_fn (ρ0 := [some (.str i), some (.str i), none, none]) rfl rfl rfl rfl ?_
  repeat eq_refl
  exact h
theorem same_tup {fuel k : Nat} {xs : List D} {s : S} {Φ : D → S → Prop} (hx : ∀ x ∈ xs, ∀ (k : Nat) (Φ : D → S → Prop), Φ (.bl true) s → OFn (evF fns fuel (k + 1) 5 [x, x] s) Φ) (h : Φ (.bl true) s) : OFn (evF fns fuel (k + 2) 5 [.tup xs, .tup xs] s) Φ := by
  refine o_fn (ρ0 := [some (.tup xs), some (.tup xs), none, none]) rfl rfl rfl rfl ?_
  repeat eq_refl
  rw [decide_eq_true rfl]
  repeat eq_refl
  rw [show List.zipWith (fun d e => D.tup [d, e]) xs xs = xs.map fun i => D.tup [i, i] by
    clear h hx
    induction xs with
    | nil => rfl
    | cons x xs ih =>
      show _ :: List.zipWith (fun d e => D.tup [d, e]) xs xs = _
      rw [ih]
      rfl]
  refine o_clF (fun _ => false) (fun i => .int 1) _ (fun i m => ?_) ?_
  · repeat eq_refl
    refine hx i m _ _ ?_
    repeat eq_refl
    exact ⟨rfl, rfl⟩
  · rw [show xs.filter (fun _ => false) = [] by simp]
    repeat eq_refl
    refine c_eqLI (ps := []) (qs := []) ?_
    repeat eq_refl
    exact h
theorem same_res {fuel k n : Nat} {xs : List Int} {s : S} {Φ : D → S → Prop} (h : Φ (.bl true) s) : OFn (evF fns fuel (k + 2) 5 [res xs n, res xs n] s) Φ := by
  unfold res
  split
  · refine same_tup (fun x m k Φ h => ?_) h
    obtain ⟨i, _, rfl⟩ := List.mem_map.mp m
    exact same_int h
  · refine same_tup (fun x m k Φ h => ?_) h
    rcases List.mem_cons.mp m with rfl | m
    · exact same_str h
    rcases List.mem_cons.mp m with rfl | m
    · exact same_int h
    rw [List.mem_singleton.mp m]
    exact same_bl h
theorem k_res {m n : Nat} {ys : List Int} {s s' : S} {P : D → S → Prop} (t : s.take m = s') (h : P (res ys n) s') : CutP m (res ys n) s P := by
  unfold res at h ⊢
  split
  · rename_i q
    rw [if_pos q] at h
    exact k_tup (purs_blws _ _ (purs_dI _)) t h
  · rename_i q
    rw [if_neg q] at h
    exact k_tup rfl t h
/-- the ring, again and again -/
theorem cyc (xs : List Int) : ∀ n : Nat, (List.range (xs.length * n)).map (fun k => xs.getD (k % xs.length) 0) = reps n xs
  | 0 => by simp [reps]
  | n + 1 => by
    rw [Nat.mul_succ, Nat.add_comm, List.range_add, List.map_append, List.map_map]
    have e1 : (List.range xs.length).map (fun k => xs.getD (k % xs.length) 0) = xs := by
      refine List.ext_getElem (by simp) fun i h1 h2 => ?_
      rw [List.getElem_map, List.getElem_range, Nat.mod_eq_of_lt (by simpa using h1)]
      have : i < xs.length := h2
      simp [List.getD, this]
    have e2 : (List.range (xs.length * n)).map ((fun k => xs.getD (k % xs.length) 0) ∘ (xs.length + ·)) = reps n xs := by
      rw [← cyc xs n]
      exact List.map_congr_left fun k _ => by show xs.getD ((xs.length + k) % xs.length) 0 = _; rw [Nat.add_mod_left]
    rw [e1, e2]
    show _ = (List.replicate (n + 1) xs).flatten
    rw [List.replicate_succ, List.flatten_cons]
theorem six (xs : List Int) : reps 3 (reps 2 xs) = reps 6 xs := by simp [reps, List.replicate]

/-! ### loops over ints with a bound -/
theorem o_forP {P : Int → Prop} {tg : Tg} {cs : RS.Env → S → R Fl} {xs : List D} {ρ : RS.Env} {s : S} {Φ : Fl → S → Prop} (I : RS.Env → S → Prop) (hz : ∀ v ∈ xs, ∃ t, v = .int t ∧ P t) (h : I ρ s)
    (hs : ∀ (t : Int) ρ s, P t → I ρ s → OBd tg cs (.int t) ρ s (Turn' I Φ)) (hd : ∀ ρ s, I ρ s → Φ (.nx ρ) s) : OFor (bodyC tg cs) xs ρ s Φ :=
  o_forI (fun _ => I) h (fun j x ρ s e i => by
    obtain ⟨t, rfl, q⟩ := hz x (List.mem_of_getElem? e)
    exact hs t ρ s q i) fun ρ s i => hd ρ s i
abbrev lawB : List C := match b_law with | [_, _, .forr _ _ cs, _] => cs | _ => []
theorem div24 {n t : Nat} (h : 1 ≤ n) : t ≤ 24 / n ↔ n * t ≤ 24 := by
  rw [Nat.le_div_iff_mul_le (by omega), Nat.mul_comm]
theorem time_step {fuel k n : Nat} {xs : List Int} {s : S} {y0 y1 y2 y5 y7 y8 : Option D} (l1 : 1 ≤ xs.length) (l2 : xs.length ≤ 24) (hn : 1 ≤ n) {I : RS.Env → S → Prop} {Φ : Fl → S → Prop}
    (h : ∀ z, I [y0, y1, y2, some (.tup (dI xs)), some (.int (n : Int)), y5, some (.int ((24 / xs.length : Nat) : Int)), z, y8] s) :
    OCs ⟨evF fns fuel (k + 4), fuel⟩ (match lawB with | [_, .forr _ _ cs, _] => cs | _ => []) [y0, y1, y2, some (.tup (dI xs)), some (.int (n : Int)), y5, some (.int ((24 / xs.length : Nat) : Int)), y7, y8] s (Turn' I Φ) := by
  dsimp only [lawB, b_law]
  have hd := div24 (n := xs.length) (t := n) l1
  refine o_cons ?_
  refine o_asg ?_
  repeat eq_refl
  by_cases q : xs.length * n ≤ 24
  · rw [decide_eq_true (show (n : Int) ≤ ((24 / xs.length : Nat) : Int) by have := hd.mpr q; omega)]
    have hn2 : n ≤ 24 := by have : 1 * n ≤ xs.length * n := Nat.mul_le_mul_right n l1; omega
    repeat eq_refl
    rw [lenI]
    refine b_mulB ⟨by omega, by omega⟩ ?_
    repeat eq_refl
    have e := natmul xs.length n
    rw [← e]
    refine ⟨by unfold CAP; omega, ?_⟩
    rw [range0]
    refine o_clM (fun i => .int (xs.getD (i % xs.length) 0)) _ (fun i m => ?_) ?_
    · repeat eq_refl
      rw [lenI]
      refine b_mod (by omega) ?_
      rw [show ((i : Int) % (xs.length : Int)) = ((i % xs.length : Nat) : Int) by simp]
      have hi := Nat.mod_lt i (show 0 < xs.length by omega)
      refine x_tup (d := .int (xs.getD (i % xs.length) 0)) (by rw [atI_map, atI_at (a := xs.getD (i % xs.length) 0) (by rw [List.getElem?_eq_getElem hi]; simp [List.getD, hi])]; rfl) ?_
      repeat eq_refl
      exact ⟨rfl, rfl⟩
    rw [show (List.range (xs.length * n)).map (fun i => D.int (xs.getD (i % xs.length) 0)) = dI (reps n xs) by rw [← cyc, dI, List.map_map]; rfl]
    repeat eq_refl
    have er : D.tup (dI (reps n xs)) = res xs n := by unfold res; rw [if_pos q]
    rw [er]
    refine told_ok (by omega) l1 ?_
    refine k_res take_self ?_
    repeat eq_refl
    refine same_res ?_
    repeat eq_refl
    exact h _
  · rw [decide_eq_false (show ¬ (n : Int) ≤ ((24 / xs.length : Nat) : Int) from fun z => q (hd.mp (by omega)))]
    repeat eq_refl
    have er : D.tup [D.str "long", D.int 24, D.bl false] = res xs n := by unfold res; rw [if_neg q]
    rw [er]
    refine told_ok (by omega) l1 ?_
    refine k_res take_self ?_
    repeat eq_refl
    refine same_res ?_
    repeat eq_refl
    exact h _
theorem ring_step {fuel k : Nat} {c : List Int} {n : Int} {xs : List Int} {y0 y2 y4 y5 y6 y7 y8 : Option D} (hx : Sm64 xs) (l1 : 1 ≤ xs.length) (l2 : xs.length ≤ 24) (hn : 0 ≤ n) (hn2 : n < 2 ^ 37) {Φ : Fl → S → Prop} {J : RS.Env → S → Prop}
    (h : ∀ c' y4 y5 y6 y7 y8, J [y0, some (.hnd 1), y2, some (.tup (dI xs)), y4, y5, y6, y7, y8] (dk c' (n + 1) [])) :
    OCs ⟨evF fns fuel (k + 4), fuel⟩ lawB [y0, some (.hnd 1), y2, some (.tup (dI xs)), y4, y5, y6, y7, y8] (dk c n []) (Turn' J Φ) := by
  dsimp only [lawB, b_law]
  repeat eq_refl
  refine f_reprT hx (by omega) ?_
  repeat eq_refl
  rw [lenI]
  refine b_div (by omega) ?_
  rw [show (24 : Int) / (xs.length : Int) = ((24 / xs.length : Nat) : Int) by simp]
  repeat eq_refl
  refine drawC fD (by decide) (by decide) (by omega) (by omega) fun d c2 _ hd1 hd2 => ?_
  repeat eq_refl
  refine o_forP (P := fun t => 1 ≤ t) (fun ρ s => s = dk c2 (n + 1) [] ∧ ∃ x4 x7, ρ = [y0, some (.hnd 1), y2, some (.tup (dI xs)), x4, some (.str (D.tup (dI xs)).py.shown), some (.int ((24 / xs.length : Nat) : Int)), x7, y8]) (fun v m => ?_) ⟨rfl, _, _, rfl⟩ (fun t ρ s ht ⟨e1, x4, x7, e2⟩ => ?_) (fun ρ s ⟨e1, x4, x7, e2⟩ => ?_)
  · have h1 : 1 ≤ 24 / xs.length := (div24 l1).mpr (by omega)
    simp only [List.mem_cons, List.not_mem_nil, or_false] at m
    rcases m with rfl | rfl | rfl | rfl | rfl | rfl | rfl | rfl | rfl | rfl
    · exact ⟨_, rfl, by decide⟩
    · exact ⟨_, rfl, by decide⟩
    · exact ⟨_, rfl, by decide⟩
    · exact ⟨_, rfl, by omega⟩
    · exact ⟨_, rfl, by omega⟩
    · exact ⟨_, rfl, by decide⟩
    · exact ⟨_, rfl, by decide⟩
    · exact ⟨_, rfl, by decide⟩
    · exact ⟨_, rfl, by decide⟩
    · exact ⟨_, rfl, by omega⟩
  · subst e1 e2
    obtain ⟨m, rfl⟩ : ∃ m : Nat, t = (m : Int) := ⟨t.toNat, by omega⟩
    refine o_body rfl (time_step l1 l2 (by omega) fun z => ⟨rfl, _, _, rfl⟩)
  subst e1 e2
  repeat eq_refl
  have fin : OT ⟨evF fns fuel (k + 4), fuel⟩ (.or1 (.v (.cmp .NotEq (.f1 .repr (.var 3)) (.var 5)))) [y0, some (.hnd 1), y2, some (.tup (dI xs)), x4, some (.str (D.tup (dI xs)).py.shown), some (.int ((24 / xs.length : Nat) : Int)), x7, y8] (dk c2 (n + 1) []) fun b s => b = false ∧ s = dk c2 (n + 1) [] := by
    repeat eq_refl
    refine f_reprT hx (by omega) ?_
    repeat eq_refl
    exact ⟨rfl, rfl⟩
  have done : OT ⟨evF fns fuel (k + 4), fuel⟩ (.or1 (.v (.cmp .NotEq (.f1 .repr (.var 3)) (.var 5)))) [y0, some (.hnd 1), y2, some (.tup (dI xs)), x4, some (.str (D.tup (dI xs)).py.shown), some (.int ((24 / xs.length : Nat) : Int)), x7, y8] (dk c2 (n + 1) []) fun b s => Spl b (OCs ⟨evF fns fuel (k + 4), fuel⟩ [.ret (.cst (.bl false))] [y0, some (.hnd 1), y2, some (.tup (dI xs)), x4, some (.str (D.tup (dI xs)).py.shown), some (.int ((24 / xs.length : Nat) : Int)), x7, y8] s fun fl s1 => OSq (evCs ⟨evF fns fuel (k + 4), fuel⟩ []) fl s1 (Turn' J Φ)) (OCs ⟨evF fns fuel (k + 4), fuel⟩ [] [y0, some (.hnd 1), y2, some (.tup (dI xs)), x4, some (.str (D.tup (dI xs)).py.shown), some (.int ((24 / xs.length : Nat) : Int)), x7, y8] s fun fl s1 => OSq (evCs ⟨evF fns fuel (k + 4), fuel⟩ []) fl s1 (Turn' J Φ)) := by
    refine ⟨fin.mono fun b s ⟨e1, e2⟩ => ?_⟩
    subst e1 e2
    refine splF ?_
    repeat eq_refl
    exact h _ _ _ _ _ _
  by_cases q : 5 < 24 / xs.length
  · rw [decide_eq_true (show (5 : Int) < ((24 / xs.length : Nat) : Int) by omega)]
    have l6 : xs.length * 6 ≤ 24 := (div24 l1).mp q
    repeat eq_refl
    refine rep_ok (n := 2) (by decide) (by omega) ?_
    refine k_tup (purs_blws _ _ (purs_dI _)) take_self ?_
    repeat eq_refl
    have lr : (reps 2 xs).length = xs.length * 2 := by simp [reps]; omega
    refine rep_ok (n := 3) (by decide) (by rw [lr]; omega) ?_
    refine k_tup (purs_blws _ _ (purs_dI _)) take_self ?_
    repeat eq_refl
    refine rep_ok (n := 6) (by decide) (by omega) ?_
    refine k_tup (purs_blws _ _ (purs_dI _)) take_self ?_
    repeat eq_refl
    refine c_neTI ?_
    rw [six, decide_eq_true rfl]
    repeat (first | exact done | eq_refl)
  · rw [decide_eq_false (show ¬ (5 : Int) < ((24 / xs.length : Nat) : Int) by omega)]
    repeat (first | exact done | eq_refl)

theorem main (ns : List Int) (_ : ns.length ≤ 63) : ∃ s, evF fns 1000000 12 7 [.scr ns] [] = .ok (.bl true) s := by
  suffices h : OFn (evF fns 1000000 12 7 [.scr ns] []) fun d s => d = .bl true by
    obtain ⟨d, s, e, rfl⟩ := h.ok
    exact ⟨s, e⟩
  refine o_fn (ρ0 := [some (.scr ns), none, none, none, none, none, none, none, none]) rfl rfl rfl rfl ?_
  repeat eq_refl
  refine deckA rfl fun c => ?_
  repeat eq_refl
  refine o_clI (fun j ys s => ∃ (c' : List Int) (n' : Int), (∀ y ∈ ys, ∃ xs, y = .tup (dI xs) ∧ Sm64 xs ∧ 1 ≤ xs.length ∧ xs.length ≤ 24) ∧ ys.length ≤ j ∧ 0 ≤ n' ∧ n' ≤ 100 * j ∧ s = dk c' n' []) ⟨c, 0, fun _ m => (nomatch m), by simp, by omega, by omega, rfl⟩ (fun j x ys s ex ⟨c', n', g1, g0, g2, g3, g4⟩ => ?_) (fun zs s ⟨c', n', g1, g0, g2, g3, g4⟩ => ?_)
  · subst g4
    have hx : ∃ m : Int, x = .int m ∧ 1 ≤ m ∧ m ≤ 24 ∧ j < 5 := by
      have hj := (List.getElem?_eq_some_iff.mp ex).1
      have hj : j < 5 := hj
      have : j = 0 ∨ j = 1 ∨ j = 2 ∨ j = 3 ∨ j = 4 := by omega
      rcases this with rfl | rfl | rfl | rfl | rfl
      all_goals (cases ex; exact ⟨_, rfl, by decide, by decide, by decide⟩)
    obtain ⟨m, rfl, hm1, hm2, hj⟩ := hx
    repeat eq_refl
    refine ringC fD fH fR hm1 hm2 (by omega) (by omega) fun xs c1 n1 t l1 l2 hx hn1 hn2 => ?_
    refine k_tup (purs_blws _ _ (purs_dI _)) dk_cut ?_
    repeat eq_refl
    refine ⟨c1, n1, fun y my => ?_, by simp [consO]; omega, by omega, by omega, rfl⟩
    rcases List.mem_append.mp my with my | my
    · exact g1 y my
    · have : y = .tup (dI xs) := by simpa [consO] using my
      exact ⟨xs, this, hx.sm, by omega, by omega⟩
  · subst g4
    have e5 : ([D.int 24, D.int 12, D.int 8, D.int 4, D.int 3] : List D).length = 5 := rfl
    rw [e5] at g0 g3
    repeat eq_refl
    refine b_addL (capN (by show zs.length + 4 ≤ 1000000; omega)) ?_
    repeat eq_refl
    have e12 : mkS true (rangeD 0 12) = .tup (dI (upto 12)) := congrArg D.tup (range_upto 12)
    have e13 : mkS true (rangeD 0 13) = .tup (dI (upto 13)) := congrArg D.tup (range_upto 13)
    rw [e12, e13]
    have sm : ∀ xs : List Int, (xs.all fun x => decide (x.natAbs < 2 ^ 64)) = true → Sm64 xs := fun xs h x m => of_decide_eq_true (List.all_eq_true.mp h x m)
    have all : ∀ y ∈ zs ++ [D.tup [.int 5], .tup [.int 0, .int 7], D.tup (dI (upto 12)), .tup (dI (upto 13))], ∃ xs, y = .tup (dI xs) ∧ Sm64 xs ∧ 1 ≤ xs.length ∧ xs.length ≤ 24 := fun y my => by
      rcases List.mem_append.mp my with my | my
      · exact g1 y my
      rcases List.mem_cons.mp my with rfl | my
      · exact ⟨[5], rfl, sm _ (by decide), by decide, by decide⟩
      rcases List.mem_cons.mp my with rfl | my
      · exact ⟨[0, 7], rfl, sm _ (by decide), by decide, by decide⟩
      rcases List.mem_cons.mp my with rfl | my
      · exact ⟨_, rfl, upto_sm (by decide), by rw [upto_len]; decide, by rw [upto_len]; decide⟩
      · rw [List.mem_singleton.mp my]
        exact ⟨_, rfl, upto_sm (by decide), by rw [upto_len]; decide, by rw [upto_len]; decide⟩
    refine o_forI (fun j ρ s => ∃ (c' : List Int) (m : Int) (x2 x3 x4 x5 x6 x7 x8 : Option D), 0 ≤ m ∧ m ≤ 500 + 30 * j ∧ s = dk c' m [] ∧ ρ = [some (.scr ns), some (.hnd 1), x2, x3, x4, x5, x6, x7, x8]) ⟨c', n', _, _, _, _, _, _, _, by omega, by omega, rfl, rfl⟩ (fun j d ρ s ed ⟨c'', m, x2, x3, x4, x5, x6, x7, x8, k1, k2, q1, q2⟩ => ?_) (fun ρ s ⟨c'', m, x2, x3, x4, x5, x6, x7, x8, k1, k2, q1, q2⟩ => ?_)
    · subst q1 q2
      have hj := (List.getElem?_eq_some_iff.mp ed).1
      rw [List.length_append] at hj
      have hj : j < zs.length + 4 := hj
      obtain ⟨xs, rfl, hx, l1, l2⟩ := all d (List.mem_of_getElem? ed)
      refine ring_step hx l1 l2 k1 (by omega) fun c3 y4 y5 y6 y7 y8 => ?_
      exact ⟨c3, m + 1, _, _, _, _, _, _, _, by omega, by omega, rfl, rfl⟩
    · subst q1 q2
      repeat eq_refl

end LW

namespace LW
open PySem RS
abbrev R_ : PySem.W.OpenRow := PySem.W.OpenLaw.row rw_
abbrev dfs : List He.DefD := List.zipWith dfOf fns sts ++ List.zipWith dfI xs.ex1 ist
abbrev hk : PySem.W.Hook := hookR 5 (fasOf gls fns) dfs tf xs
def ob (s : PySem.W.SharedT) : AlR := obsR 5 (fasOf gls fns) dfs tf xs (HandSHeadRun.getT s)
theorem ob_eq (s : PySem.W.SharedT) : ob s = hk.obs s.abs := obsR_eq (HandSHeadRun.getT_eq s)
theorem run (w : World) : HandSHeadRun.RunEq R_ (PySem.W.view R_.prog [18]) hk ob 4000 ["MAX_LENGTH", "__name__", "RingError", "LastPlace", "OutOfRange", "NotDistinct", "TooLong", "BadRing", "BadHeight", "repeated", "_law_deck", "_law_draw", "_law_heights", "_law_ring", "_law_same", "_law_told"] w := by
  intro os
  kernel_rfl
end LW
open PySem PySem.W PySem.Calls PyProof.Rows
theorem PySem.Challenge.cw_ringswings_k46_rings_repeated_holds : PySem.Challenge.rw_ringswings_k46_rings_repeated.Holds := by
  w_on; o_law
  refine HandSHeadRun.head_any (r := OpenLaw.row PySem.Challenge.rw_ringswings_k46_rings_repeated) (q := view (OpenLaw.row PySem.Challenge.rw_ringswings_k46_rings_repeated).prog [18]) (H := LW.hk) (ob := LW.ob) (M := 4000) (loose := ["MAX_LENGTH", "__name__", "RingError", "LastPlace", "OutOfRange", "NotDistinct", "TooLong", "BadRing", "BadHeight", "repeated", "_law_deck", "_law_draw", "_law_heights", "_law_ring", "_law_same", "_law_told"]) (d := HandSHeadRun.topDef (OpenLaw.row PySem.Challenge.rw_ringswings_k46_rings_repeated).prog 18) (kwd := []) LW.ob_eq
    (by kernel_rfl) (fun s => by kernel_rfl) LW.run (by kernel_rfl) (by kernel_rfl) (by kernel_rfl) (by rfl) (by first | assumption | decide +kernel) (by decide +kernel) ⟨rfl, rfl, rfl, rfl, rfl, by decide +kernel⟩ ?hw ?hc
  case hw => w_witness2
  case hc =>
    exact RS.walkR (l := PySem.Challenge.rw_ringswings_k46_rings_repeated) (n := 63) (k := 12) (fuel := 1000000) (iL := 7) (x := "_law_script") (gls := LW.gls) (fns := LW.fns) (tf := LW.tf) (xs := LW.xs) (sts := LW.sts) (ist := LW.ist) (N := (LW.fns.getD 7 ⟨"", "", [], [], []⟩).N) (body := (LW.fns.getD 7 ⟨"", "", [], [], []⟩).body) (m := 5) rfl (by decide) (by kernel_rfl) ⟨rfl, by decide, by decide⟩ rfl LW.ck LW.bds LW.cki LW.bdsi (by kernel_rfl) LW.main

