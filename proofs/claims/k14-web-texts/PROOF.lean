import PyProof.Rows.All
import Wide.All
import OpenK.AllK
import Wide.FinOn
import HandS.ForMost
import HandS.ForExc
import HandS.TupAny
import HandS.TupMul
import HandS.Deep
import HandS.IsInst
import HandS.Wide
import HandS.Lambda
import HandS.Nested
import HandS.TryMany
import HandS.ExcField
import HandS.ExcInit
import HandS.Flow
import HandS.Walk
import HandS.Defaults
import HandS.HeadWalk
import HandS.HeadHook4
import KE.DataEq
import KE.DatumIndex
import KE.SortData
import KE.KDflt
import KE.GoesMore
import HandS.Small
import HandS.Style
import HandS.Conv
import KE.KExcSuper
import HandS.EndTab
import PySem.Challenge.RW_onewayapart_k14_whole_web_texts
import HandS.Head2
import HandS.Text
import PyProof.ReprLen
import PyProof.StrLawsRepr
import KE.LtData
section
set_option Elab.async false
set_option linter.all false
set_option maxRecDepth 100000
set_option maxHeartbeats 2000000
/-! Di.Core: data, a small language, its total interpreter. No Python machine here. -/
namespace Di
open PySem
/-- data -/
inductive D where
  | non | bl (b : Bool) | int (i : Int) | str (s : Str)
  | lst (xs : List D) | tup (xs : List D)
  | dct (ks vs : List D)
  | st (id : Nat)
  | scr (ns : List Int)
  deriving Inhabited
/-- values: data; a closure (which lambda, what its captured names hold); a list of closures -/
inductive Val where
  | d (x : D) | c (k : Nat) (cap : List Val) | l (xs : List Val)
  deriving Inhabited
mutual
def D.py : D → PyData
  | .non => .none
  | .bl b => .bool b
  | .int i => .int i
  | .str s => .str s
  | .lst xs => .list (pyL xs)
  | .tup xs => .tuple (pyL xs)
  | _ => .none
def pyL : List D → List PyData
  | [] => []
  | x :: r => x.py :: pyL r
end
mutual
/-- data without dicts, closures, states -/
def D.pl : D → Bool
  | .non => true
  | .bl _ => true
  | .int _ => true
  | .str _ => true
  | .lst xs => plL xs
  | .tup xs => plL xs
  | _ => false
def plL : List D → Bool
  | [] => true
  | x :: r => x.pl && plL r
end
/-- a program's state of draws: the digits left, the seed, the cells, the spot -/
structure MS where
  id : Nat
  left : Int
  seed : Int
  cells : List Int
  spot : Int
  deriving Inhabited
inductive Out (α : Type) where
  | ok (a : α) (m : MS)
  | ex (c : Nat) (p : Option D) (m : MS)
  | bad
@[reducible] def M (α : Type) := MS → Out α
@[inline] def M.pure {α : Type} (a : α) : M α := fun m => .ok a m
@[inline] def M.bind {α β : Type} (x : M α) (f : α → M β) : M β := fun m => match x m with
  | .ok a m' => f a m'
  | .ex c p m' => .ex c p m'
  | .bad => .bad
instance : Monad M where
  pure := M.pure
  bind := M.bind
def bad {α : Type} : M α := fun _ => .bad
def ofO {α : Type} : Option α → M α
  | some a => fun m => .ok a m
  | none => fun _ => .bad

/-- a slot: nothing; a value that may stand elsewhere too; a list or dict of the frame's own; the same, only to be read -/
inductive Sl where
  | no | sh (v : Val) | ow (v : Val) | ro (v : Val)
  deriving Inhabited
abbrev Env := List Sl
/-- what an expression yields: a value, or the thing of a slot that is the frame's own -/
inductive OV where
  | v (x : Val) | o (i : Nat)
def OV.r (ρ : Env) : OV → Option Val
  | .v x => some x
  | .o i => match ρ[i]? with
    | some (.ow x) => some x
    | some (.ro x) => some x
    | _ => none
def OV.d (ρ : Env) (x : OV) : Option D := match x.r ρ with
  | some (.d x) => some x
  | _ => none
def derefs (ρ : Env) : List OV → Option (List D)
  | [] => some []
  | x :: r => match x.d ρ with
    | none => none
    | some d => match derefs ρ r with
      | none => none
      | some ds => some (d :: ds)
def vals : List OV → Option (List Val)
  | [] => some []
  | .v d :: r => match vals r with
    | none => none
    | some ds => some (d :: ds)
  | .o _ :: _ => none
def datas : List Val → Option (List D)
  | [] => some []
  | .d d :: r => match datas r with
    | none => none
    | some ds => some (d :: ds)
  | _ :: _ => none
def allC : List Val → Bool
  | [] => true
  | .c _ _ :: r => allC r
  | _ :: _ => false
/-! ### the language -/
inductive Op2 | add | sub | mul | mod | fdiv | pow
  deriving DecidableEq
inductive Cmp | lt | le | gt | ge | eq | ne | isN | notN | isin | notin
  deriving DecidableEq
inductive Bi | len | tuple | list | sum | max | min | abs | int | str | repr | all | any | sorted | isinst (t : Nat) | lrange | join | split | index | count
  deriving DecidableEq
inductive ItK | seq | range | enum | zip
  deriving DecidableEq
inductive Tg | n (i : Nat) | t (is : List Tg)
inductive IR where
  | loc (i : Nat) | glo (g : Nat) | k (d : D)
  | tup (es : List IR) | lst (es : List IR) | dct0
  | op (o : Op2) (a b : IR) | neg (a : IR) | inot (a : IR)
  | cmp (o : Cmp) (a b : IR) | chain (o o' : Cmp) (a b c : IR)
  | iand (a b : IR) | ior (a b : IR) | ite (c a b : IR)
  | idx (a i : IR) | slc (a : IR) (lo hi : Option IR) | rev (a : IR)
  | bi (b : Bi) (es : List IR) | mt (b : Bi) (a e : IR)
  | call (f : Nat) (es : List IR)
  | callK (f : Nat) (ord : List Nat) (es : List IR)
  | clo (k : Nat) | app (i : Nat) (es : List IR)
  | mget (i f : Nat)
  | comp (own : List Nat) (tg : Tg) (it : ItK) (es : List IR) (ifs : List IR) (elt : IR)
/-- an except clause's answer -/
inductive HE where
  | fld | k (d : D) | tup (es : List HE) | lst (es : List HE)
inductive ST where
  | asg (tg : Tg) (e : IR) | asgO (i : Nat) (e : IR) | par (ts : List (Nat × Bool)) (es : List IR)
  | aug (i : Nat) (o : Op2) (e : IR)
  | push (i : Nat) (e : IR) | setIx (i : Nat) (k e : IR)
  | expr (e : IR) | ret (e : IR) | rse (c : Nat) (e : Option IR)
  | ifs (c : IR) (a b : List ST)
  | for (tg : Tg) (it : ItK) (es : List IR) (body : List ST)
  | while (c : IR) (body : List ST)
  | brk | cont | pass
  | ftry (e : IR) (hs : List (Nat × HE))
  | frz (i : Nat)
  | mset (i f : Nat) (e : IR) | mnew (a b c d : IR)
/-! ### what the operators do -/
mutual
/-- plain data nested less than n deep -/
def good : Nat → D → Bool
  | _, .non => true
  | _, .bl _ => true
  | _, .int _ => true
  | _, .str _ => true
  | _, .dct _ _ => false
  | _, .st _ => false
  | _, .scr _ => false
  | 0, .lst _ => false
  | 0, .tup _ => false
  | n + 1, .lst xs => goodL n xs
  | n + 1, .tup xs => goodL n xs
def goodL : Nat → List D → Bool
  | _, [] => true
  | n, x :: r => good n x && goodL n r
end
def eqD (a b : D) : Option Bool := if good 60 a && good 60 b then some (PyData.eqv a.py b.py) else none
def lenOk {α : Type} (xs : List α) : Bool := decide (xs.length ≤ sizeLine)
def mulOk (i j : Int) : Bool := decide (i.natAbs < 2 ^ 64) || decide (j.natAbs < 2 ^ 64) || decide (i.natAbs.log2 + j.natAbs.log2 < 1000000)
def cutL {α : Type} (xs : List α) (lo hi : Option Int) : List α := (xs.drop (HT.sIx xs.length 0 lo)).take (HT.sIx xs.length xs.length hi - HT.sIx xs.length 0 lo)
def op2 : Op2 → D → D → Option D
  | .add, .int i, .int j => some (.int (i + j))
  | .add, .str x, .str y => if x.length + y.length ≤ sizeLine then some (.str (x ++ y)) else none
  | .add, .lst x, .lst y => if x.length + y.length ≤ sizeLine then some (.lst (x ++ y)) else none
  | .add, .tup x, .tup y => if x.length + y.length ≤ sizeLine then some (.tup (x ++ y)) else none
  | .sub, .int i, .int j => some (.int (i - j))
  | .mul, .int i, .int j => if mulOk i j then some (.int (i * j)) else none
  | .mul, .lst x, .int k => if 0 ≤ k ∧ k ≤ 1000000 ∧ x.length * k.toNat ≤ sizeLine then some (.lst (List.replicate k.toNat x).flatten) else none
  | .mul, .tup x, .int k => if x.length ≠ 0 ∧ 2 ≤ k ∧ k ≤ 1000 ∧ x.length ≤ 1000 then some (.tup (List.replicate k.toNat x).flatten) else none
  | .mul, .str x, .int k => if 0 ≤ k ∧ k ≤ 1000000 ∧ x.length * k.toNat ≤ sizeLine then some (.str ⟨(List.replicate k.toNat x.cps.toList).flatten.toArray⟩) else none
  | .mod, .int i, .int j => if j = 0 then none else some (.int (i.fmod j))
  | .fdiv, .int i, .int j => if j ≠ 0 ∧ j.natAbs < 1073741824 then some (.int (i.fdiv j)) else none
  | .pow, .int i, .int j => if 0 ≤ j ∧ j ≤ 1000000 ∧ i.natAbs < 2 ^ 64 then some (.int (i ^ j.toNat)) else none
  | _, _, _ => none
def isKey : D → Bool
  | .int _ => true
  | .str _ => true
  | _ => false
def keyEq : D → D → Bool
  | .int i, .int j => i == j
  | .str x, .str y => decide (x = y)
  | _, _ => false
def look (k : D) : List D → List D → Option D
  | a :: ks, v :: vs => if keyEq a k then some v else look k ks vs
  | _, _ => none
def repl (k v : D) : List D → List D → List D
  | a :: ks, w :: vs => (if keyEq a k then v else w) :: repl k v ks vs
  | _, vs => vs
def putK (k v : D) (ks vs : List D) : List D × List D := if ks.any (keyEq · k) then (ks, repl k v ks vs) else (ks ++ [k], vs ++ [v])
def isinD (x : D) : D → Option Bool
  | .lst ys => if good 60 x && goodL 60 ys then some (ys.any fun y => PyData.eqv y.py x.py) else none
  | .tup ys => if good 60 x && goodL 60 ys then some (ys.any fun y => PyData.eqv y.py x.py) else none
  | .str z => match x with
    | .str ⟨⟨[c]⟩⟩ => some (decide (c ∈ z.cps.toList))
    | _ => none
  | .dct ks vs => if isKey x then some (look x ks vs).isSome else none
  | _ => none
def isNon : D → Bool
  | .non => true
  | _ => false
def cmpD : Cmp → D → D → Option Bool
  | .lt, .int i, .int j => some (decide (i < j))
  | .le, .int i, .int j => some (decide (i ≤ j))
  | .gt, .int i, .int j => some (decide (j < i))
  | .ge, .int i, .int j => some (decide (j ≤ i))
  | .eq, a, b => eqD a b
  | .ne, a, b => match eqD a b with
    | some c => some (!c)
    | none => none
  | .isN, a, .non => some (isNon a)
  | .notN, a, .non => some (!isNon a)
  | .isin, a, b => isinD a b
  | .notin, a, b => match isinD a b with
    | some c => some (!c)
    | none => none
  | _, _, _ => none
def idxD : D → D → Option D
  | .lst xs, .int i => L2.atI xs i
  | .tup xs, .int i => L2.atI xs i
  | .str z, .int i => if z.length ≤ sizeLine then match L2.atI z.cps.toList i with
      | some c => some (.str ⟨#[c]⟩)
      | none => none
    else none
  | .dct ks vs, k => look k ks vs
  | _, _ => none
def slcD (lo hi : Option Int) : D → Option D
  | .lst xs => some (.lst (cutL xs lo hi))
  | .tup xs => some (.tup (cutL xs lo hi))
  | .str z => if z.length ≤ sizeLine then some (.str (L2.cutS z lo hi)) else none
  | .scr ns => some (.lst ((cutL ns lo hi).map D.int))
  | _ => none
def revD : D → Option D
  | .lst xs => some (.lst xs.reverse)
  | .tup xs => some (.tup xs.reverse)
  | _ => none
def intsOf : List D → Option (List Int)
  | [] => some []
  | .int i :: r => match intsOf r with
    | some l => some (i :: l)
    | none => none
  | _ :: _ => none
def blsOf : List D → Option (List Bool)
  | [] => some []
  | .bl i :: r => match blsOf r with
    | some l => some (i :: l)
    | none => none
  | _ :: _ => none
def strsOf : List D → Option (List Str)
  | [] => some []
  | .str i :: r => match strsOf r with
    | some l => some (i :: l)
    | none => none
  | _ :: _ => none
def isT : Nat → D → Option Bool
  | 0, .int _ => some true
  | 0, .bl _ => some true
  | 1, .bl _ => some true
  | 2, .tup _ => some true
  | 3, .str _ => some true
  | 4, .lst _ => some true
  | _, .st _ => none
  | _, .scr _ => none
  | _, _ => some false
def rangeL (a b : Int) : List D := (List.range (b - a).toNat).map fun (i : Nat) => .int (a + (i : Int))
def small (i : Int) : Bool := Nat.ble i.natAbs 4611686018427387903
def rangeD : List D → Option (List D)
  | [.int b] => if small b then some (rangeL 0 b) else none
  | [.int a, .int b] => if small a && small b then some (rangeL a b) else none
  | _ => none
def reprD (d : D) : Option D := if good 60 d && PyData.showable d.py && decide ((PyData.shown d.py).length ≤ sizeLine) then some (.str (PyData.shown d.py)) else none
def biLen : List D → Option D
  | [.lst xs] => some (.int xs.length)
  | [.scr xs] => some (.int xs.length)
  | [.tup xs] => some (.int xs.length)
  | [.str z] => if z.length ≤ sizeLine then some (.int z.length) else none
  | _ => none
def biTuple : List D → Option D
  | [.lst xs] => some (.tup xs)
  | [.tup xs] => some (.tup xs)
  | _ => none
def biList : List D → Option D
  | [.lst xs] => some (.lst xs)
  | [.tup xs] => some (.lst xs)
  | _ => none
def biMax : List D → Option D
  | [.int i, .int j] => some (.int (if j > i then j else i))
  | _ => none
def biMin : List D → Option D
  | [.int i, .int j] => some (.int (if j < i then j else i))
  | _ => none
def biAbs : List D → Option D
  | [.int i] => some (.int (if i < 0 then -i else i))
  | _ => none
def biInt : List D → Option D
  | [.int i] => some (.int i)
  | [.bl b] => some (.int (if b then 1 else 0))
  | [.str s] => if s.length ≤ 640 then match PySem.intText? s with
      | some n => some (.int n)
      | none => none
    else none
  | _ => none
def biStr : List D → Option D
  | [.int i] => if i.natAbs.log2 < 1920 then some (.str (toString i)) else none
  | _ => none
def biRepr : List D → Option D
  | [d] => reprD d
  | _ => none
def biAll : List D → Option D
  | [.lst xs] => match blsOf xs with
    | some l => some (.bl (l.all id))
    | none => none
  | _ => none
def biAny : List D → Option D
  | [.lst xs] => match blsOf xs with
    | some l => some (.bl (l.any id))
    | none => none
  | _ => none
def biSum : List D → Option D
  | [.lst xs] => match intsOf xs with
    | some l => some (.int l.sum)
    | none => none
  | _ => none
def insI (a : Int) : List Int → List Int
  | [] => [a]
  | b :: r => if a ≤ b then a :: b :: r else b :: insI a r
def sortI : List Int → List Int
  | [] => []
  | a :: r => insI a (sortI r)
def biSorted : List D → Option D
  | [.lst xs] => match intsOf xs with
    | some l => some (.lst ((sortI l).map D.int))
    | none => none
  | _ => none
def biIsinst (t : Nat) : List D → Option D
  | [d] => match isT t d with
    | some b => some (.bl b)
    | none => none
  | _ => none
def biLrange (ds : List D) : Option D := match rangeD ds with
  | some l => if l.length ≤ sizeLine then some (.lst l) else none
  | none => none
def biJoin : List D → Option D
  | [.str a, .lst ys] => match strsOf ys with
    | some l => if (l.map (·.length)).sum + l.length * a.length ≤ 16777216 then some (.str (Txt.join a l)) else none
    | none => none
  | _ => none
def biSplit : List D → Option D
  | [.str a, .str b] => if b.length ≠ 0 ∧ a.length + 2 ≤ sizeLine then some (.lst ((Txt.split a b).map D.str)) else none
  | _ => none
def bi : Bi → List D → Option D
  | .len, ds => biLen ds
  | .tuple, ds => biTuple ds
  | .list, ds => biList ds
  | .max, ds => biMax ds
  | .min, ds => biMin ds
  | .abs, ds => biAbs ds
  | .int, ds => biInt ds
  | .str, ds => biStr ds
  | .repr, ds => biRepr ds
  | .all, ds => biAll ds
  | .any, ds => biAny ds
  | .sum, ds => biSum ds
  | .sorted, ds => biSorted ds
  | .isinst t, ds => biIsinst t ds
  | .lrange, ds => biLrange ds
  | .join, ds => biJoin ds
  | .split, ds => biSplit ds
  | _, _ => none
/-! ### walked things -/
def enumL : Nat → List D → List D
  | _, [] => []
  | n, x :: r => .tup [.int n, x] :: enumL (n + 1) r
def zipL : List D → List D → List D
  | x :: r, y :: t => .tup [x, y] :: zipL r t
  | _, _ => []
def seqD : D → Option (List D)
  | .lst xs => some xs
  | .tup xs => some xs
  | .str z => some (z.cps.toList.map fun c => .str ⟨#[c]⟩)
  | _ => none
def itemsD : ItK → List D → Option (List D)
  | .seq, [d] => seqD d
  | .range, ds => rangeD ds
  | .enum, [.lst xs] => some (enumL 0 xs)
  | .enum, [.tup xs] => some (enumL 0 xs)
  | .zip, [a, b] => match seqD a with
    | some xs => match seqD b with
      | some ys => some (zipL xs ys)
      | none => none
    | none => none
  | _, _ => none
structure LamI where
  np : Nat
  ns : Nat
  cap : List Nat
  dfl : List D
  body : IR
inductive FnI where
  | df (np ns : Nat) (body : List ST)
structure Prg where
  fns : List FnI
  lams : List LamI
  glob : List D
section
variable (P : Prg)
mutual
/-- whether a closure has captured slot i -/
def capt (i : Nat) : Val → Bool
  | .d _ => false
  | .c k cap => (match P.lams[k]? with
      | some l => l.cap.contains i
      | none => true) || captL i cap
  | .l xs => captL i xs
def captL (i : Nat) : List Val → Bool
  | [] => false
  | x :: r => capt i x || captL i r
end
def killS (i : Nat) : Sl → Sl
  | .no => .no
  | .sh v => if capt P i v then .no else .sh v
  | .ow v => if capt P i v then .no else .ow v
  | .ro v => if capt P i v then .no else .ro v
/-- slot i is stored: closures that captured it are forgotten -/
def put (i : Nat) (s : Sl) (ρ : Env) : Env := (ρ.set i s).map (killS P i)
mutual
def setTg : Tg → Val → Env → Option Env
  | .n i, v, ρ => some (put P i (.sh v) ρ)
  | .t ts, .d (.tup xs), ρ => setTgs ts xs ρ
  | .t _, _, _ => none
def setTgs : List Tg → List D → Env → Option Env
  | [], [], ρ => some ρ
  | t :: ts, x :: xs, ρ => match setTg t (.d x) ρ with
    | some ρ1 => setTgs ts xs ρ1
    | none => none
  | _, _, _ => none
end
def setPar : List (Nat × Bool) → List Val → Env → Option Env
  | [], [], ρ => some ρ
  | (i, o) :: r, .d d :: ds, ρ => setPar r ds (put P i (if o then .ow (.d d) else .sh (.d d)) ρ)
  | _, _, _ => none
end
def mask (own : List Nat) : Nat → Env → Env
  | _, [] => []
  | i, s :: r => (if own.contains i then .no else match s with
    | .ow d => .ro d
    | s => s) :: mask own (i + 1) r
def caps (ρ : Env) : List Nat → Option (List Val)
  | [] => some []
  | i :: r => match ρ[i]? with
    | some (.sh d) => match caps ρ r with
      | some ds => some (d :: ds)
      | none => none
    | _ => none
def itemsV (k : ItK) (vs : List Val) : Option (List Val) := match datas vs with
  | some ds => match itemsD k ds with
    | some xs => some (xs.map .d)
    | none => none
  | none => match k, vs with
    | .seq, [.l xs] => some xs
    | _, _ => none
def refs (ρ : Env) : List OV → Option (List Val)
  | [] => some []
  | x :: r => match x.r ρ with
    | none => none
    | some d => match refs ρ r with
      | none => none
      | some ds => some (d :: ds)
def op2V (o : Op2) : Val → Val → Option Val
  | .d x, .d y => match op2 o x y with
    | some z => some (.d z)
    | none => none
  | .l x, .l y => match o with
    | .add => if x.length + y.length ≤ sizeLine then some (.l (x ++ y)) else none
    | _ => none
  | _, _ => none
def slcV (lo hi : Option Int) : Val → Option Val
  | .d x => match slcD lo hi x with
    | some z => some (.d z)
    | none => none
  | .l xs => some (.l (cutL xs lo hi))
  | _ => none
def lstV (vs : List Val) : Option Val := match datas vs with
  | some ds => some (.d (.lst ds))
  | none => if allC vs then some (.l vs) else none
def compL (f : Val → M (Option D)) : List Val → M (List D)
  | [] => fun m => .ok [] m
  | x :: r => M.bind (f x) fun y => M.bind (compL f r) fun ys => match y with
    | some d => fun m => .ok (d :: ys) m
    | none => fun m => .ok ys m
def asBl : OV → Option Bool
  | .v (.d (.bl b)) => some b
  | _ => none
/-- the values in the parameters' order: ord tells, for each parameter, the place in what is written -/
def pick {α : Type} : List Nat → List α → Option (List α)
  | [], _ => some []
  | i :: r, xs => match xs[i]? with
    | some x => match pick r xs with
      | some t => some (x :: t)
      | none => none
    | none => none
/-! the leaves -/
def locO (ρ : Env) (i : Nat) : Option OV := match ρ[i]? with
  | some (.sh d) => some (.v d)
  | some (.ow _) => some (.o i)
  | some (.ro _) => some (.o i)
  | _ => none
def gloO (P : Prg) (g : Nat) : Option OV := match P.glob[g]? with
  | some d => some (.v (.d d))
  | none => none
def tupO (xs : List OV) : Option OV := match vals xs with
  | some vs => match datas vs with
    | some ds => if ds.length ≤ sizeLine then some (.v (.d (.tup ds))) else none
    | none => none
  | none => none
def lstO (xs : List OV) : Option OV := match vals xs with
  | some vs => match lstV vs with
    | some v => if vs.length ≤ sizeLine then some (.v v) else none
    | none => none
  | none => none
def opO (ρ : Env) (o : Op2) (x y : OV) : Option OV := match x.r ρ with
  | some dx => match y.r ρ with
    | some dy => match op2V o dx dy with
      | some d => some (.v d)
      | none => none
    | none => none
  | none => none
def negO : OV → Option OV
  | .v (.d (.int i)) => some (.v (.d (.int (-i))))
  | _ => none
def notO (x : OV) : Option OV := match asBl x with
  | some b => some (.v (.d (.bl (!b))))
  | none => none
def cmpB (ρ : Env) (o : Cmp) (x y : OV) : Option Bool := match x.d ρ with
  | some dx => match y.d ρ with
    | some dy => cmpD o dx dy
    | none => none
  | none => none
def idxO (ρ : Env) (x y : OV) : Option OV := match x.d ρ with
  | some dx => match y with
    | .v (.d dy) => match idxD dx dy with
      | some d => some (.v (.d d))
      | none => none
    | _ => none
  | none => none
def slcO (ρ : Env) (x : OV) (l h : Option Int) : Option OV := match x.r ρ with
  | some dx => match slcV l h dx with
    | some d => some (.v d)
    | none => none
  | none => none
def revO (ρ : Env) (x : OV) : Option OV := match x.d ρ with
  | some dx => match revD dx with
    | some d => some (.v (.d d))
    | none => none
  | none => none
def biO (ρ : Env) (b : Bi) (xs : List OV) : Option OV := match derefs ρ xs with
  | some ds => match bi b ds with
    | some d => some (.v (.d d))
    | none => none
  | none => none
def isS (ρ : Env) (x : OV) : Option Unit := match x.d ρ with
  | some (.str _) => some ()
  | _ => none
def cloO (P : Prg) (ρ : Env) (k : Nat) : Option OV := match P.lams[k]? with
  | some l => match caps ρ l.cap with
    | some ds => some (.v (.c k ds))
    | none => none
  | none => none
def appO (ρ : Env) (i : Nat) : Option (Nat × List Val) := match ρ[i]? with
  | some (.sh (.c k c)) => some (k, c)
  | _ => none
def intO : OV → Option (Option Int)
  | .v (.d (.int i)) => some (some i)
  | _ => none
def itemsO (ρ : Env) (it : ItK) (xs : List OV) : Option (List Val) := match refs ρ xs with
  | some ds => itemsV it ds
  | none => none
def forO (it : ItK) (xs : List OV) : Option (List Val) := match vals xs with
  | some ds => match datas ds with
    | some d => match itemsD it d with
      | some l => some (l.map .d)
      | none => none
    | none => none
  | none => none
def elO : OV → Option (Option D)
  | .v (.d d) => some (some d)
  | _ => none
def newL (ys : List D) : Option OV := if ys.length ≤ sizeLine then some (.v (.d (.lst ys))) else none
/-- a field of the draws: left, seed, cells, spot -/
def mgetO (ρ : Env) (i f : Nat) (m : MS) : Option OV := match ρ[i]? with
  | some (.sh (.d (.st id))) => if id = m.id ∧ 0 < id then match f with
      | 0 => some (.v (.d (.int m.left)))
      | 1 => some (.v (.d (.int m.seed)))
      | 2 => some (.v (.d (.lst (m.cells.map D.int))))
      | 3 => some (.v (.d (.int m.spot)))
      | _ => none
    else none
  | _ => none
def mgetM (ρ : Env) (i f : Nat) : M OV := fun m => match mgetO ρ i f m with
  | some x => .ok x m
  | none => .bad
def ret1 {α : Type} (a : α) : M α := fun m => .ok a m
/-- no exception leaves it -/
def noEx {α : Type} (c : M α) : M α := fun m => match c m with
  | .ok a m' => .ok a m'
  | _ => .bad
section
variable (P : Prg) (cf : Nat → List Val → M D) (ca : Nat → List Val → List Val → M D)
mutual
def evalE : IR → Env → M OV
  | .loc i, ρ => ofO (locO ρ i)
  | .glo g, _ => ofO (gloO P g)
  | .k d, _ => ret1 (.v (.d d))
  | .tup es, ρ => M.bind (evalEs es ρ) fun xs => ofO (tupO xs)
  | .lst es, ρ => M.bind (evalEs es ρ) fun xs => ofO (lstO xs)
  | .dct0, _ => ret1 (.v (.d (.dct [] [])))
  | .op o a b, ρ => M.bind (evalE a ρ) fun x => M.bind (evalE b ρ) fun y => ofO (opO ρ o x y)
  | .neg a, ρ => M.bind (evalE a ρ) fun x => ofO (negO x)
  | .inot a, ρ => M.bind (evalE a ρ) fun x => ofO (notO x)
  | .cmp o a b, ρ => M.bind (evalE a ρ) fun x => M.bind (evalE b ρ) fun y => M.bind (ofO (cmpB ρ o x y)) fun t => ret1 (.v (.d (.bl t)))
  | .chain o o' a b c, ρ => M.bind (evalE a ρ) fun x => M.bind (evalE b ρ) fun y => M.bind (ofO (cmpB ρ o x y)) fun t =>
      if t then M.bind (evalE c ρ) fun z => M.bind (ofO (cmpB ρ o' y z)) fun t' => ret1 (.v (.d (.bl t'))) else ret1 (.v (.d (.bl false)))
  | .iand a b, ρ => M.bind (evalE a ρ) fun x => M.bind (ofO (asBl x)) fun t => if t then evalE b ρ else ret1 (.v (.d (.bl false)))
  | .ior a b, ρ => M.bind (evalE a ρ) fun x => M.bind (ofO (asBl x)) fun t => if t then ret1 (.v (.d (.bl true))) else evalE b ρ
  | .ite c a b, ρ => M.bind (evalE c ρ) fun x => M.bind (ofO (asBl x)) fun t => if t then evalE a ρ else evalE b ρ
  | .idx a i, ρ => M.bind (evalE a ρ) fun x => M.bind (evalE i ρ) fun y => ofO (idxO ρ x y)
  | .slc a lo hi, ρ => M.bind (evalE a ρ) fun x => M.bind (evalO lo ρ) fun l => M.bind (evalO hi ρ) fun h => ofO (slcO ρ x l h)
  | .rev a, ρ => M.bind (evalE a ρ) fun x => ofO (revO ρ x)
  | .bi b es, ρ => M.bind (evalEs es ρ) fun xs => ofO (biO ρ b xs)
  | .mt b a e, ρ => M.bind (evalE a ρ) fun x => M.bind (ofO (isS ρ x)) fun _ => M.bind (evalE e ρ) fun y => ofO (biO ρ b [x, y])
  | .call f es, ρ => M.bind (evalEs es ρ) fun xs => M.bind (ofO (vals xs)) fun ds => M.bind (cf f ds) fun d => ret1 (.v (.d d))
  | .callK f ord es, ρ => M.bind (evalEs es ρ) fun xs => M.bind (ofO (vals xs)) fun ds => M.bind (ofO (pick ord ds)) fun ds' => M.bind (cf f ds') fun d => ret1 (.v (.d d))
  | .clo k, ρ => ofO (cloO P ρ k)
  | .app i es, ρ => M.bind (ofO (appO ρ i)) fun kc => M.bind (evalEs es ρ) fun xs => M.bind (ofO (vals xs)) fun ds => M.bind (ca kc.1 kc.2 ds) fun d => ret1 (.v (.d d))
  | .mget i f, ρ => mgetM ρ i f
  | .comp own tg it es ifs elt, ρ => M.bind (evalEs es ρ) fun xs => M.bind (ofO (itemsO ρ it xs)) fun items =>
      M.bind (noEx (compL (fun x => M.bind (ofO (setTg P tg x (mask own 0 ρ))) fun ρ1 => M.bind (evalIfs ifs ρ1) fun b => if b then M.bind (evalE elt ρ1) fun y => ofO (elO y) else ret1 none) items)) fun ys => ofO (newL ys)
def evalEs : List IR → Env → M (List OV)
  | [], _ => ret1 []
  | e :: r, ρ => M.bind (evalE e ρ) fun x => M.bind (evalEs r ρ) fun xs => ret1 (x :: xs)
def evalO : Option IR → Env → M (Option Int)
  | none, _ => ret1 none
  | some e, ρ => M.bind (evalE e ρ) fun x => ofO (intO x)
def evalIfs : List IR → Env → M Bool
  | [], _ => ret1 true
  | e :: r, ρ => M.bind (evalE e ρ) fun x => M.bind (ofO (asBl x)) fun t => if t then evalIfs r ρ else ret1 false
end
end
inductive Fl | nx (ρ : Env) | rt (d : D) | bk (ρ : Env) | ct (ρ : Env)
def forL (f : Val → Env → M Fl) : List Val → Env → M Fl
  | [], ρ => fun m => .ok (.nx ρ) m
  | x :: r, ρ => M.bind (f x ρ) fun fl => match fl with
    | .nx ρ1 => forL f r ρ1
    | .ct ρ1 => forL f r ρ1
    | .bk ρ1 => fun m => .ok (.nx ρ1) m
    | .rt d => fun m => .ok (.rt d) m
def whileL (t : Env → M Bool) (f : Env → M Fl) : Nat → Env → M Fl
  | 0, _ => bad
  | n + 1, ρ => M.bind (t ρ) fun b => if b then M.bind (f ρ) fun fl => match fl with
      | .nx ρ1 => whileL t f n ρ1
      | .ct ρ1 => whileL t f n ρ1
      | .bk ρ1 => fun m => .ok (.nx ρ1) m
      | .rt d => fun m => .ok (.rt d) m
    else fun m => .ok (.nx ρ) m
def frzS : Sl → Sl
  | .ow d => .sh d
  | s => s
mutual
def evalH (p : Option D) : HE → Option D
  | .fld => p
  | .k d => some d
  | .tup es => match evalHs p es with
    | some ds => some (.tup ds)
    | none => none
  | .lst es => match evalHs p es with
    | some ds => some (.lst ds)
    | none => none
def evalHs (p : Option D) : List HE → Option (List D)
  | [] => some []
  | e :: r => match evalH p e with
    | some d => match evalHs p r with
      | some ds => some (d :: ds)
      | none => none
    | none => none
end
def handle : List (Nat × HE) → Nat → Option D → M Fl
  | [], c, p => fun m => .ex c p m
  | (k, e) :: r, c, p => if k = c then match evalH p e with
      | some d => fun m => .ok (.rt d) m
      | none => bad
    else handle r c p
section
variable (P : Prg) (cf : Nat → List Val → M D) (ca : Nat → List Val → List Val → M D) (fuel : Nat)
def testE (c : IR) (ρ : Env) : M Bool := M.bind (evalE P cf ca c ρ) fun x => ofO (asBl x)
def valO : OV → Option Val
  | .v d => some d
  | .o _ => none
def datO : OV → Option D
  | .v (.d d) => some d
  | _ => none
def valE (e : IR) (ρ : Env) : M Val := M.bind (evalE P cf ca e ρ) fun x => ofO (valO x)
def datE (e : IR) (ρ : Env) : M D := M.bind (evalE P cf ca e ρ) fun x => ofO (datO x)
def shO (ρ : Env) (i : Nat) : Option Val := match ρ[i]? with
  | some (.sh x) => some x
  | _ => none
/-- `x op= y` of whole numbers -/
def augO : Op2 → Val → Val → Option Val
  | .add, .d (.int i), .d (.int j) => some (.d (.int (i + j)))
  | .sub, .d (.int i), .d (.int j) => some (.d (.int (i - j)))
  | .mul, .d (.int i), .d (.int j) => if mulOk i j then some (.d (.int (i * j))) else none
  | _, _, _ => none
def pushO (ρ : Env) (i : Nat) (d : Val) : Option Env := match ρ[i]? with
  | some (.ow (.d (.lst xs))) => match d with
    | .d d => if xs.length < sizeLine then some (ρ.set i (.ow (.d (.lst (xs ++ [d]))))) else none
    | .c k cap => if xs.isEmpty then some (ρ.set i (.ow (.l [.c k cap]))) else none
    | _ => none
  | some (.ow (.l xs)) => match d with
    | .c k cap => if xs.length < sizeLine then some (ρ.set i (.ow (.l (xs ++ [.c k cap])))) else none
    | _ => none
  | _ => none
def isOL (ρ : Env) (i : Nat) : Option Unit := match ρ[i]? with
  | some (.ow (.d (.lst _))) => some ()
  | some (.ow (.l _)) => some ()
  | _ => none
def isO (ρ : Env) (i : Nat) : Option Unit := match ρ[i]? with
  | some (.ow _) => some ()
  | _ => none
def setIxO (ρ : Env) (i : Nat) (kd d : D) : Option Env := match ρ[i]? with
  | some (.ow (.d (.dct ks vs))) => if isKey kd && decide (ks.length < 1000000) then some (ρ.set i (.ow (.d (.dct (putK kd d ks vs).1 (putK kd d ks vs).2)))) else none
  | some (.ow (.d (.lst xs))) => match kd with
    | .int j => match L2.ixN xs.length j with
      | some n => some (ρ.set i (.ow (.d (.lst (xs.set n d)))))
      | none => none
    | _ => none
  | _ => none
def frzO (ρ : Env) (i : Nat) : Option Env := match ρ[i]? with
  | some (.ow d) => some (ρ.set i (.sh d))
  | some (.sh _) => some ρ
  | _ => none
def msetO (ρ : Env) (i f : Nat) (d : D) (m : MS) : Option MS := match ρ[i]? with
  | some (.sh (.d (.st id))) => if id = m.id ∧ 0 < id then match f, d with
      | 0, .int v => some { m with left := v }
      | 1, .int v => some { m with seed := v }
      | 3, .int v => some { m with spot := v }
      | _, _ => none
    else none
  | _ => none
def msetM (ρ : Env) (i f : Nat) (d : D) : M Fl := fun m => match msetO ρ i f d m with
  | some m' => .ok (.nx ρ) m'
  | none => .bad
def mnewM (x y z w : D) : M Fl := fun m => match x, y, z, w with
  | .int l, .int s, .lst cs, .int p => match intsOf cs with
    | some ns => .ok (.rt (.st (m.id + 1))) ⟨m.id + 1, l, s, ns, p⟩
    | none => .bad
  | _, _, _, _ => .bad
mutual
def exec : ST → Env → M Fl
  | .asg tg e, ρ => M.bind (valE P cf ca e ρ) fun d => M.bind (ofO (setTg P tg d ρ)) fun ρ1 => ret1 (.nx ρ1)
  | .asgO i e, ρ => M.bind (valE P cf ca e ρ) fun d => ret1 (.nx (put P i (.ow d) ρ))
  | .par ts es, ρ => match ts, es with
    | [(i, o1), (j, o2)], [a, b] => M.bind (datE P cf ca a ρ) fun d1 => M.bind (datE P cf ca b ρ) fun d2 =>
        ret1 (.nx (put P j (if o2 then .ow (.d d2) else .sh (.d d2)) (put P i (if o1 then .ow (.d d1) else .sh (.d d1)) ρ)))
    | _, _ => bad
  | .aug i o e, ρ => M.bind (ofO (shO ρ i)) fun x => M.bind (valE P cf ca e ρ) fun y => M.bind (ofO (augO o x y)) fun d => ret1 (.nx (put P i (.sh d) ρ))
  | .push i e, ρ => M.bind (ofO (isOL ρ i)) fun _ => M.bind (valE P cf ca e ρ) fun d => M.bind (ofO (pushO ρ i d)) fun ρ1 => ret1 (.nx ρ1)
  | .setIx i k e, ρ => M.bind (datE P cf ca e ρ) fun d => M.bind (ofO (isO ρ i)) fun _ => M.bind (datE P cf ca k ρ) fun kd => M.bind (ofO (setIxO ρ i kd d)) fun ρ1 => ret1 (.nx ρ1)
  | .expr e, ρ => M.bind (evalE P cf ca e ρ) fun _ => ret1 (.nx ρ)
  | .ret e, ρ => M.bind (datE P cf ca e (ρ.map frzS)) fun d => ret1 (.rt d)
  | .rse c e, ρ => match e with
    | none => fun m => .ex c none m
    | some e => M.bind (datE P cf ca e ρ) fun d m => .ex c (some d) m
  | .ifs c a b, ρ => M.bind (testE P cf ca c ρ) fun t => if t then execs a ρ else execs b ρ
  | .for tg it es body, ρ => M.bind (evalEs P cf ca es ρ) fun xs => M.bind (ofO (forO it xs)) fun items =>
      forL (fun x ρ => M.bind (ofO (setTg P tg x ρ)) fun ρ1 => execs body ρ1) items ρ
  | .while c body, ρ => whileL (testE P cf ca c) (execs body) fuel ρ
  | .brk, ρ => ret1 (.bk ρ)
  | .cont, ρ => ret1 (.ct ρ)
  | .pass, ρ => ret1 (.nx ρ)
  | .ftry e hs, ρ => fun m => match datE P cf ca e (ρ.map frzS) m with
    | .ok d m1 => .ok (.rt d) m1
    | .ex c p m1 => handle hs c p m1
    | .bad => .bad
  | .frz i, ρ => M.bind (ofO (frzO ρ i)) fun ρ1 => ret1 (.nx ρ1)
  | .mset i f e, ρ => M.bind (datE P cf ca e ρ) fun d => msetM ρ i f d
  | .mnew a b c d, ρ => M.bind (datE P cf ca a (ρ.map frzS)) fun x => M.bind (datE P cf ca b (ρ.map frzS)) fun y => M.bind (datE P cf ca c (ρ.map frzS)) fun z => M.bind (datE P cf ca d (ρ.map frzS)) fun w => mnewM x y z w
def execs : List ST → Env → M Fl
  | [], ρ => ret1 (.nx ρ)
  | s :: r, ρ => M.bind (exec s ρ) fun fl => match fl with
    | .nx ρ1 => execs r ρ1
    | fl => ret1 fl
end
end
/-! ### the draws -/
def beginM (id : Nat) (script : List Int) (turn : Int) : MS :=
  let cells := cutL script (some turn) none ++ cutL script none (some turn)
  let great := cells.filter fun c => decide (c ≥ 10 ^ 18)
  { id, left := great.headD 0, seed := cells.foldl (fun s c => (s * 48271 + c).fmod 2147483647) (91 + turn), cells := cells ++ [61 * turn + 17], spot := 0 }
def drawM (m : MS) (span : Int) : Int × MS :=
  if m.left > 0 then (m.left.fmod span, { m with left := m.left.fdiv span }) else
    let extra := m.seed + 40503 * m.spot * m.spot
    let cell := (L2.atI m.cells (m.spot.fmod m.cells.length)).getD 0
    let blend := (cell * (2 * m.spot + 3) + extra).fmod 2147483647
    let blend := (blend * blend + 69621 * m.spot + m.seed).fmod 2147483629
    ((((blend * 48271 + m.spot).fmod 2147483647).fdiv 11).fmod span, { m with spot := m.spot + 1 })
def drawOk (m : MS) (span : Int) : Bool := decide (0 < span ∧ span < 2 ^ 60 ∧ 0 ≤ m.spot ∧ m.spot < 2 ^ 40 ∧ m.cells ≠ [])
section
variable (P : Prg) (fuel : Nat)
/-- a lambda's call: its parameters, the defaults that fill up, what it captured -/
def callL (cf : Nat → List Val → M D) (ca : Nat → List Val → List Val → M D) (k : Nat) (c as : List Val) : M D := match P.lams[k]? with
  | some l => if as.length ≤ l.np ∧ l.np - as.length ≤ l.dfl.length then
      datE P cf ca l.body ((as ++ (l.dfl.drop (l.dfl.length - (l.np - as.length))).map Val.d ++ c).map Sl.sh ++ List.replicate (l.ns - l.np - c.length) Sl.no) else bad
  | none => bad
def callD (cf : Nat → List Val → M D) (ca : Nat → List Val → List Val → M D) (f : Nat) (ds : List Val) : M D := match P.fns[f]? with
  | some (.df np ns body) => if ds.length = np ∧ np ≤ ns then M.bind (execs P cf ca fuel body (ds.map Sl.sh ++ List.replicate (ns - np) Sl.no)) fun fl => match fl with
      | .rt d => fun m => .ok d m
      | .nx _ => fun m => .ok .non m
      | _ => bad
    else bad
  | none => bad
mutual
/-- n frames deep -/
def callF : Nat → Nat → List Val → M D
  | 0, _, _ => bad
  | n + 1, f, ds => callD P fuel (callF n) (callG n) f ds
def callG : Nat → Nat → List Val → List Val → M D
  | 0, _, _, _ => bad
  | n + 1, k, c, as => callL P (callF n) (callG n) k c as
end
end
end Di
end
section
set_option Elab.async false
set_option linter.all false
set_option maxRecDepth 100000
set_option maxHeartbeats 2000000
/-! Di.Rep: how data lie in the hand layer's heap. -/
namespace Di
open PySem PySem.Spec PyProof.Rows L2 LamX NdefX
/-- a lambda of the text -/
structure LamA where
  qual : Str
  params : Arguments
  body : Expr
  scope : Scope
  ps : List Str
  fr : List Str
  N : List Str
  dfl : List V
/-- what stands fixed: the written part, the tables of code objects, the language's program, its lambdas in the text -/
structure Wd where
  K : PySem.W.Frag
  T : List NTab
  P : Prg
  lam : Nat → Option LamA
/-- the ghost: what is frozen, what cells hold, which cells are the running frame's own, a slot's cell, the draws' dict, the draws' number -/
structure G where
  F : Hp
  κ : Addr → Option V
  own : Addr → Prop
  cell : Nat → Option Addr
  μ : Addr
  mid : Nat
/-- the draws' dict stands at a -/
def G.mu (g : G) (a : Addr) : Prop := 0 < g.mid ∧ a = g.μ
def LamO (f : Addr) (L : LamA) (cl : List (Str × Addr)) (dV : Value) (c' : Addr) : HO :=
  .ext fun h => ∃ pm ctv doc : Value, h.get? f = some (PySem.W.kdv_obj "<lambda>" L.qual L.params (.expr L.body) L.scope cl dV doc pm c' ctv)
/-- the tables of code objects: the codes that they tell are frozen -/
def TabsF (T : List NTab) (F H : Hp) : Prop := ∀ p ∈ T, ∃ ps : Array Value, H p.1 = some (.tbl ps) ∧ TriplesOk ps.toList ∧ ∀ (pos : Pos) (cv : Value), codeAmong pos ps.toList = some cv → ∃ c, cv = .ref c ∧ F c = some (CodeO c (p.2 pos.line pos.col))
theorem TabsF.mono {T : List NTab} {F F' H H' : Hp} (t : TabsF T F H) (sF : ∀ a o, F a = some o → F' a = some o) (k : ∀ a ps, H a = some (.tbl ps) → H' a = some (.tbl ps)) : TabsF T F' H' := fun p hp => by
  obtain ⟨ps, h1, h2, h3⟩ := t p hp
  refine ⟨ps, k _ _ h1, h2, fun pos cv hc => ?_⟩
  obtain ⟨c, e1, e2⟩ := h3 pos cv hc
  exact ⟨c, e1, sF _ _ e2⟩
def keyV : Key → D
  | .inl i => .int i
  | .inr x => .str x
section
variable (W : Wd) (F : Hp) (μ : Addr) (mid : Nat)
mutual
def RepD : D → V → Prop
  | .non, v => v = .non
  | .bl b, v => v = .bl b
  | .int i, v => v = .int i
  | .str s, v => v = .str s
  | .lst xs, v => ∃ a vs, v = .ref a ∧ F a = some (.lst vs) ∧ RepDs xs vs
  | .tup xs, v => ∃ a vs, v = .ref a ∧ SqT W.K F a vs ∧ RepDs xs vs
  | .dct ks vs, v => ∃ a kvs, v = .ref a ∧ F a = some (.dK kvs) ∧ kvs.map (fun p => keyV p.1) = ks ∧ RepDs vs (kvs.map (·.2))
  | .st id, v => 0 < id ∧ id ≤ mid ∧ ∃ a, v = .ref a ∧ (id = mid → a = μ)
  | .scr ns, v => ∃ a, v = .ref a ∧ SqL W.K F a (ns.map V.int)
def RepDs : List D → List V → Prop
  | [], vs => vs = []
  | x :: r, vs => ∃ v ws, vs = v :: ws ∧ RepD x v ∧ RepDs r ws
end
end
section
variable (W : Wd) (g : G)
mutual
def RepV : Val → V → Prop
  | .d x, v => RepD W g.F g.μ g.mid x v
  | .c k cap, v => ∃ L f c' cl dV ws, W.lam k = some L ∧ v = .ref f ∧ g.F f = some (LamO f L cl dV c') ∧ g.F c' = some (CodeO c' L.qual) ∧
      ((L.dfl = [] ∧ dV = .none) ∨ ∃ a, dV = .ref a ∧ g.F a = some (.tup L.dfl)) ∧ (∀ y c, cl.lookup y = some c → y ∈ L.fr) ∧ (∀ x y c, cl.lookup x = some c → cl.lookup y = some c → x = y) ∧
      (∀ y c, cl.lookup y = some c → g.own c → ∃ l i, W.P.lams[k]? = some l ∧ i ∈ l.cap ∧ g.cell i = some c) ∧
      RepVs cap ws ∧ L.fr.map (fun y => (cl.lookup y).bind g.κ) = ws.map some
  | .l xs, v => ∃ a vs, v = .ref a ∧ g.F a = some (.lst vs) ∧ RepVs xs vs
def RepVs : List Val → List V → Prop
  | [], vs => vs = []
  | x :: r, vs => ∃ v ws, vs = v :: ws ∧ RepV x v ∧ RepVs r ws
end
/-- the thing of an own slot: at a, in H -/
def RepO (H : Hp) : Val → Addr → Prop
  | .d (.lst xs), a => ∃ vs, H a = some (.lst vs) ∧ RepDs W g.F g.μ g.mid xs vs
  | .d (.dct ks vs), a => ∃ kvs, H a = some (.dK kvs) ∧ kvs.map (fun p => keyV p.1) = ks ∧ RepDs W g.F g.μ g.mid vs (kvs.map (·.2))
  | .l xs, a => ∃ vs, H a = some (.lst vs) ∧ RepVs W g xs vs
  | _, _ => False
def ms4 (m : MS) (ca : Addr) : List (Key × V) := [(.inr "left", .int m.left), (.inr "seed", .int m.seed), (.inr "cells", .ref ca), (.inr "spot", .int m.spot)]
/-- the heap's state -/
structure HpS (m : MS) (H : Hp) : Prop where
  sub : ∀ a o, g.F a = some o → H a = some o
  mu : ∀ a, g.mu a → g.F a = none
  mid : m.id = g.mid
  mst : 0 < g.mid → ∃ ca, H g.μ = some (.dK (ms4 m ca)) ∧ g.F ca = some (.lst (m.cells.map V.int))
  tabs : TabsF W.T g.F H
  nt : ∀ a ps, g.F a ≠ some (.tbl ps)
def SlR (H : Hp) (s : Sl) (v : Option V) : Prop := match s with
  | .no => True
  | .sh x => ∃ w, v = some w ∧ RepV W g x w
  | .ow x => ∃ a, v = some (.ref a) ∧ g.F a = none ∧ ¬ g.mu a ∧ RepO W g H x a
  | .ro x => ∃ a, v = some (.ref a) ∧ g.F a = none ∧ ¬ g.mu a ∧ RepO W g H x a
def slot (σ : L2.St) (i : Nat) : Option V := (σ[i]?).join
end
/-- from (g, H) to (g', H'): what was stands, but for the draws' dict and the tables -/
structure ExtF (g : G) (H : Hp) (g' : G) (H' : Hp) : Prop where
  sub : ∀ a o, g.F a = some o → g'.F a = some o
  new : ∀ a o, g'.F a = some o → g.F a = some o ∨ H a = none
  keep : ∀ a o, H a = some o → ¬ g.mu a → (∀ ps, o ≠ .tbl ps) → H' a = some o
  dom : ∀ a, H' a = none → H a = none
  mid : (g'.mid = g.mid ∧ g'.μ = g.μ) ∨ (g.mid < g'.mid ∧ H g'.μ = none)
structure Ext (g : G) (H : Hp) (g' : G) (H' : Hp) : Prop extends ExtF g H g' H' where
  κ : g'.κ = g.κ
  own : g'.own = g.own
  cell : g'.cell = g.cell
theorem ExtF.refl (g : G) (H : Hp) : ExtF g H g H := ⟨fun _ _ h => h, fun _ _ h => .inl h, fun _ _ h _ _ => h, fun _ h => h, .inl ⟨rfl, rfl⟩⟩
theorem Ext.refl (g : G) (H : Hp) : Ext g H g H := ⟨ExtF.refl g H, rfl, rfl, rfl⟩
theorem ExtF.trans {g g1 g2 : G} {H H1 H2 : Hp} (a : ExtF g H g1 H1) (b : ExtF g1 H1 g2 H2) : ExtF g H g2 H2 where
  sub := fun c o h => b.sub c o (a.sub c o h)
  new := fun c o h => by
    rcases b.new c o h with h | h
    · exact a.new c o h
    · exact .inr (a.dom c h)
  keep := fun c o h hm ht => by
    have h1 := a.keep c o h hm ht
    refine b.keep c o h1 (fun ⟨e0, e⟩ => ?_) ht
    rcases a.mid with ⟨e1, e2⟩ | ⟨_, e2⟩
    · exact hm ⟨by rw [← e1]; exact e0, e.trans e2⟩
    · rw [← e, h] at e2; cases e2
  dom := fun c h => a.dom c (b.dom c h)
  mid := by
    rcases a.mid with ⟨e1, e2⟩ | ⟨e1, e2⟩ <;> rcases b.mid with ⟨f1, f2⟩ | ⟨f1, f2⟩
    · exact .inl ⟨f1.trans e1, f2.trans e2⟩
    · exact .inr ⟨by omega, a.dom _ f2⟩
    · exact .inr ⟨by omega, by rw [f2]; exact e2⟩
    · exact .inr ⟨by omega, a.dom _ f2⟩
theorem Ext.trans {g g1 g2 : G} {H H1 H2 : Hp} (a : Ext g H g1 H1) (b : Ext g1 H1 g2 H2) : Ext g H g2 H2 :=
  ⟨a.toExtF.trans b.toExtF, b.κ.trans a.κ, b.own.trans a.own, b.cell.trans a.cell⟩
theorem sqT_sub {K : PySem.W.Frag} {F F' : Hp} {a : Addr} {vs : List V} (s : ∀ a o, F a = some o → F' a = some o) (h : SqT K F a vs) : SqT K F' a vs := by
  rcases h with (h | ⟨o, h⟩) | h
  · exact .inl (.inl (s _ _ h))
  · exact .inl (.inr ⟨o, s _ _ h⟩)
  · exact .inr h
theorem sqL_sub {K : PySem.W.Frag} {F F' : Hp} {a : Addr} {vs : List V} (s : ∀ a o, F a = some o → F' a = some o) (h : SqL K F a vs) : SqL K F' a vs := by
  rcases h with (h | ⟨o, h⟩) | h
  · exact .inl (.inl (s _ _ h))
  · exact .inl (.inr ⟨o, s _ _ h⟩)
  · exact .inr h
section
variable {W : Wd} {F F' : Hp} {μ μ' : Addr} {mid mid' : Nat}
mutual
theorem RepD.mono (s : ∀ a o, F a = some o → F' a = some o) (hm : (mid' = mid ∧ μ' = μ) ∨ mid < mid') : ∀ (d : D) (v : V), RepD W F μ mid d v → RepD W F' μ' mid' d v
  | .non, _, h => h
  | .bl _, _, h => h
  | .int _, _, h => h
  | .str _, _, h => h
  | .lst xs, v, h => by
    obtain ⟨a, vs, e, h1, h2⟩ := (by simpa only [RepD] using h : ∃ a vs, v = .ref a ∧ F a = some (.lst vs) ∧ RepDs W F μ mid xs vs)
    simp only [RepD]
    exact ⟨a, vs, e, s _ _ h1, RepDs.mono s hm xs vs h2⟩
  | .tup xs, v, h => by
    obtain ⟨a, vs, e, h1, h2⟩ := (by simpa only [RepD] using h : ∃ a vs, v = .ref a ∧ SqT W.K F a vs ∧ RepDs W F μ mid xs vs)
    simp only [RepD]
    exact ⟨a, vs, e, sqT_sub s h1, RepDs.mono s hm xs vs h2⟩
  | .dct ks ds, v, h => by
    obtain ⟨a, kvs, e, h1, h2, h3⟩ := (by simpa only [RepD] using h : ∃ a kvs, v = .ref a ∧ F a = some (.dK kvs) ∧ kvs.map (fun p => keyV p.1) = ks ∧ RepDs W F μ mid ds (kvs.map (·.2)))
    simp only [RepD]
    exact ⟨a, kvs, e, s _ _ h1, h2, RepDs.mono s hm ds _ h3⟩
  | .st id, v, h => by
    simp only [RepD] at h ⊢
    obtain ⟨h0, h1, a, h2, h3⟩ := h
    rcases hm with ⟨e1, e2⟩ | hm
    · rw [e1, e2]; exact ⟨h0, h1, a, h2, h3⟩
    · exact ⟨h0, by omega, a, h2, fun e => by omega⟩
  | .scr ns, v, h => by
    simp only [RepD] at h ⊢
    obtain ⟨a, e, h1⟩ := h
    exact ⟨a, e, sqL_sub s h1⟩
theorem RepDs.mono (s : ∀ a o, F a = some o → F' a = some o) (hm : (mid' = mid ∧ μ' = μ) ∨ mid < mid') : ∀ (ds : List D) (vs : List V), RepDs W F μ mid ds vs → RepDs W F' μ' mid' ds vs
  | [], _, h => by simpa only [RepDs] using h
  | x :: r, vs, h => by
    simp only [RepDs] at h ⊢
    obtain ⟨v, ws, e, h1, h2⟩ := h
    exact ⟨v, ws, e, RepD.mono s hm x v h1, RepDs.mono s hm r ws h2⟩
end
end
theorem Ext.midw {g g' : G} {H H' : Hp} (e : Ext g H g' H') : (g'.mid = g.mid ∧ g'.μ = g.μ) ∨ g.mid < g'.mid := e.mid.imp id And.left
section
variable {W : Wd} {g g' : G}
mutual
theorem RepV.mono (s : ∀ a o, g.F a = some o → g'.F a = some o) (hm : (g'.mid = g.mid ∧ g'.μ = g.μ) ∨ g.mid < g'.mid) (hκ : g'.κ = g.κ) (ho : g'.own = g.own) (hc : g'.cell = g.cell) : ∀ (x : Val) (v : V), RepV W g x v → RepV W g' x v
  | .d x, v, h => by
    simp only [RepV] at h ⊢
    exact RepD.mono s hm x v h
  | .c k cap, v, h => by
    simp only [RepV] at h ⊢
    obtain ⟨L, f, c', cl, dV, ws, h1, h2, h3, h4, h5, h6, h7, h8, h9, h10⟩ := h
    refine ⟨L, f, c', cl, dV, ws, h1, h2, s _ _ h3, s _ _ h4, h5.imp id (fun ⟨a, e, q⟩ => ⟨a, e, s _ _ q⟩), h6, h7, ?_, RepVs.mono s hm hκ ho hc cap ws h9, ?_⟩
    · rw [ho, hc]; exact h8
    · rw [hκ]; exact h10
  | .l xs, v, h => by
    simp only [RepV] at h ⊢
    obtain ⟨a, vs, e, h1, h2⟩ := h
    exact ⟨a, vs, e, s _ _ h1, RepVs.mono s hm hκ ho hc xs vs h2⟩
theorem RepVs.mono (s : ∀ a o, g.F a = some o → g'.F a = some o) (hm : (g'.mid = g.mid ∧ g'.μ = g.μ) ∨ g.mid < g'.mid) (hκ : g'.κ = g.κ) (ho : g'.own = g.own) (hc : g'.cell = g.cell) : ∀ (xs : List Val) (vs : List V), RepVs W g xs vs → RepVs W g' xs vs
  | [], _, h => by simpa only [RepVs] using h
  | x :: r, vs, h => by
    simp only [RepVs] at h ⊢
    obtain ⟨v, ws, e, h1, h2⟩ := h
    exact ⟨v, ws, e, RepV.mono s hm hκ ho hc x v h1, RepVs.mono s hm hκ ho hc r ws h2⟩
end
theorem RepV.ext {H H' : Hp} (e : Ext g H g' H') {x : Val} {v : V} (h : RepV W g x v) : RepV W g' x v := RepV.mono e.sub e.midw e.κ e.own e.cell x v h
theorem RepVs.ext {H H' : Hp} (e : Ext g H g' H') {x : List Val} {v : List V} (h : RepVs W g x v) : RepVs W g' x v := RepVs.mono e.sub e.midw e.κ e.own e.cell x v h
theorem RepDs.ext {H H' : Hp} (e : Ext g H g' H') {x : List D} {v : List V} (h : RepDs W g.F g.μ g.mid x v) : RepDs W g'.F g'.μ g'.mid x v := RepDs.mono e.sub e.midw x v h
theorem RepO.ext {H H' : Hp} (e : Ext g H g' H') {x : Val} {a : Addr} (hm : ¬ g.mu a) (h : RepO W g H x a) : RepO W g' H' x a := by
  unfold RepO at h ⊢
  split at h
  · obtain ⟨vs, h1, h2⟩ := h
    exact ⟨vs, e.keep _ _ h1 hm (fun ps => by simp), h2.ext e⟩
  · obtain ⟨kvs, h1, h2, h3⟩ := h
    exact ⟨kvs, e.keep _ _ h1 hm (fun ps => by simp), h2, h3.ext e⟩
  · obtain ⟨vs, h1, h2⟩ := h
    exact ⟨vs, e.keep _ _ h1 hm (fun ps => by simp), h2.ext e⟩
  · exact h.elim
theorem RepO.dom {H : Hp} {x : Val} {a : Addr} (h : RepO W g H x a) : ∃ o, H a = some o := by
  unfold RepO at h
  split at h
  · obtain ⟨vs, h1, _⟩ := h; exact ⟨_, h1⟩
  · obtain ⟨vs, h1, _⟩ := h; exact ⟨_, h1⟩
  · obtain ⟨vs, h1, _⟩ := h; exact ⟨_, h1⟩
  · exact h.elim
theorem SlR.ext {H H' : Hp} (e : Ext g H g' H') {s : Sl} {v : Option V} (h : SlR W g H s v) : SlR W g' H' s v := by
  cases s with
  | no => trivial
  | sh x =>
    obtain ⟨w, e1, h1⟩ := h
    exact ⟨w, e1, h1.ext e⟩
  | ow x =>
    obtain ⟨a, e1, h0, h1, h2⟩ := h
    obtain ⟨o, ho⟩ := h2.dom
    refine ⟨a, e1, ?_, ?_, h2.ext e h1⟩
    · cases q : g'.F a with
      | none => rfl
      | some o' =>
        rcases e.new a o' q with z | z
        · rw [h0] at z; cases z
        · rw [ho] at z; cases z
    · intro ⟨z0, z⟩
      rcases e.mid with ⟨e1, e2⟩ | ⟨_, e2⟩
      · exact h1 ⟨by rw [← e1]; exact z0, z.trans e2⟩
      · rw [← z, ho] at e2; cases e2
  | ro x =>
    obtain ⟨a, e1, h0, h1, h2⟩ := h
    obtain ⟨o, ho⟩ := h2.dom
    refine ⟨a, e1, ?_, ?_, h2.ext e h1⟩
    · cases q : g'.F a with
      | none => rfl
      | some o' =>
        rcases e.new a o' q with z | z
        · rw [h0] at z; cases z
        · rw [ho] at z; cases z
    · intro ⟨z0, z⟩
      rcases e.mid with ⟨e1, e2⟩ | ⟨_, e2⟩
      · exact h1 ⟨by rw [← e1]; exact z0, z.trans e2⟩
      · rw [← z, ho] at e2; cases e2
end
/-! ### the state of a frame -/
/-- a cell's content, as it was at the frame's entry -/
def K0 (X : Cx) (c : Addr) (v : V) : Prop := ∃ (u : Value) (o : Obj), RelV v u ∧ X.s_0.heap.get? c = some o ∧ o.data = .cell (some u) ∧ X.H_0 c = none ∧ c ∉ X.ex ∧ ∀ x, X.fn x = true → X.env.cells.lookup x ≠ some c
structure KR (X : Cx) (σ : L2.St) (g : G) : Prop where
  κ : ∀ c v, g.κ c = some v → (∃ (i : Nat) (x : Str), X.N[i]? = some x ∧ X.env.cells.lookup x = some c ∧ (X.env.scope.names.lookup x = some .cell ∨ X.env.scope.names.lookup x = some .free) ∧ σ[i]? = some (some v)) ∨ K0 X c v
  own : ∀ c, g.own c ↔ ∃ x, X.fn x = true ∧ X.env.cells.lookup x = some c
  cell : ∀ i, g.cell i = (X.N[i]?).bind fun x => X.env.cells.lookup x
  full : ∀ (i : Nat) (x : Str) (c : Addr) (v : V), X.N[i]? = some x → X.env.cells.lookup x = some c → (X.env.scope.names.lookup x = some .cell ∨ X.env.scope.names.lookup x = some .free) → σ[i]? = some (some v) → g.κ c = some v
  inj : ∀ x y c, X.env.cells.lookup x = some c → X.env.cells.lookup y = some c → x = y
  nd : X.N.Nodup
  len : σ.length = X.N.length
structure FS (W : Wd) (X : Cx) (g0 : G × Hp) (g : G) (ρ : Env) (m : MS) (σ : L2.St) (H : Hp) : Prop where
  hs : HpS W g m H
  ext : ExtF g0.1 g0.2 g H
  len : ρ.length = σ.length
  env : ∀ i s, ρ[i]? = some s → SlR W g H s (slot σ i)
  sep : ∀ i j x y a, ρ[i]? = some (.ow x) → (ρ[j]? = some (.ow y) ∨ ρ[j]? = some (.ro y)) → slot σ i = some (.ref a) → slot σ j = some (.ref a) → i = j
  old : ∀ i x a, ρ[i]? = some (.ow x) → slot σ i = some (.ref a) → g0.2 a = none
  kr : KR X σ g
section
variable {W : Wd} {X : Cx} {g0 : G × Hp} {g g' : G} {ρ : Env} {m m' : MS} {σ : L2.St} {H H' : Hp}
theorem KR.ext (k : KR X σ g) (e : Ext g H g' H') : KR X σ g' := ⟨fun c v h => k.κ c v (by rw [← e.κ]; exact h), fun c => by rw [e.own]; exact k.own c, fun i => by rw [e.cell]; exact k.cell i, fun i x c v h1 h2 h3 h4 => by rw [e.κ]; exact k.full i x c v h1 h2 h3 h4, k.inj, k.nd, k.len⟩
theorem FS.step (s : FS W X g0 g ρ m σ H) (e : Ext g H g' H') (hs : HpS W g' m' H') : FS W X g0 g' ρ m' σ H' :=
  ⟨hs, s.ext.trans e.toExtF, s.len, fun i sl h => (s.env i sl h).ext e, s.sep, s.old, s.kr.ext e⟩
theorem slot_some {i : Nat} {v : V} (h : slot σ i = some v) : σ[i]? = some (some v) := by
  unfold slot at h
  cases e : σ[i]? with
  | none => rw [e] at h; cases h
  | some o => rw [e] at h; exact congrArg some h
theorem slot_of {i : Nat} {v : V} (h : σ[i]? = some (some v)) : slot σ i = some v := by
  unfold slot
  rw [h] <;> rfl
/-- a thing is frozen from now on, or was just made and is -/
def G.add (g : G) (a : Addr) (o : HO) : G := { g with F := upd g.F a o }
end
/-! ### what an expression's answer asks -/
/-- an operand's value: shared, or the own thing of a slot -/
def RepR (W : Wd) (g : G) (H : Hp) (x : Val) (v : V) : Prop := RepV W g x v ∨ ∃ a, v = .ref a ∧ RepO W g H x a
def RepOV (W : Wd) (ρ : Env) (σ : L2.St) (g : G) (x : OV) (v : V) : Prop := match x with
  | .v x => RepV W g x v
  | .o i => slot σ i = some v ∧ ∃ y, ρ[i]? = some (.ow y) ∨ ρ[i]? = some (.ro y)
/-- an exception of class c of the text (their numbers: cl), with its own dict or none -/
structure XcA where
  C : Addr
  f : Option Str
def RepX (W : Wd) (xc : Nat → Option XcA) (g : G) (H : Hp) (c : Nat) (p : Option D) (cls : Value) (dd : Option Addr) : Prop := ∃ A, xc c = some A ∧ cls = .ref A.C ∧ match A.f, p with
  | some f, some d => ∃ q w, dd = some q ∧ H q = some (.xd [(f, w)]) ∧ RepD W g.F g.μ g.mid d w
  | none, none => dd = none
  | _, _ => False
def Post {α β : Type} (W : Wd) (xc : Nat → Option XcA) (g : G) (σ : L2.St) (H : Hp) (R : G → Hp → α → β → Prop) (Q : β → Hp → Prop) (E : WX) (o : Out α) : Prop := match o with
  | .ok a m' => ∀ b g' H', Ext g H g' H' → HpS W g' m' H' → R g' H' a b → Q b H'
  | .ex c p m' => ∀ cls dd g' H', Ext g H g' H' → HpS W g' m' H' → RepX W xc g' H' c p cls dd → E cls dd σ H'
  | .bad => False
/-- the reading of an expression by the interpreter -/
def tI {α β : Type} (W : Wd) (xc : Nat → Option XcA) (X : Cx) (g0 : G × Hp) (E : WX) (R : Env → L2.St → G → Hp → α → β → Prop) (c : Env → M α) : L2.St → Hp → (β → Hp → Prop) → Prop := fun σ H Q =>
  ∃ g ρ m, FS W X g0 g ρ m σ H ∧ Post W xc g σ H (R ρ σ) Q E (c ρ m)
end Di
end
section
set_option Elab.async false
set_option linter.all false
set_option maxRecDepth 100000
set_option maxHeartbeats 2000000
/-! Di.Ops: the operators on data. -/
namespace Di
open PySem PySem.Spec PyProof.Rows L2 LamX NdefX
variable {W : Wd} {g g' g1 g2 : G} {H H' H1 H2 : Hp} {m : MS}
/-- things were made and frozen, nothing else -/
structure Gr (W : Wd) (g : G) (H : Hp) (g' : G) (H' : Hp) : Prop where
  ext : Ext g H g' H'
  hs : ∀ m, HpS W g m H → HpS W g' m H'
theorem Gr.refl : Gr W g H g H := ⟨Ext.refl g H, fun _ h => h⟩
theorem Gr.trans (a : Gr W g H g1 H1) (b : Gr W g1 H1 g2 H2) : Gr W g H g2 H2 := ⟨a.ext.trans b.ext, fun m h => b.hs m (a.hs m h)⟩
theorem sub_upd {F : Hp} {p : Addr} {o : HO} (h : F p = none) : ∀ a u, F a = some u → upd F p o a = some u := fun a u e => by
  rw [upd_ne (ne_of_none e h)]; exact e
/-- a new frozen object -/
theorem Gr.new {p : Addr} {o : HO} (hp : H p = none) (hF : ∀ a u, g.F a = some u → H a = some u) (ht : ∀ ps, o ≠ .tbl ps := by intro _ h; cases h) : Gr W g H (g.add p o) (upd H p o) := by
  have fp : g.F p = none := by
    cases e : g.F p with
    | none => rfl
    | some u => rw [hF _ _ e] at hp; cases hp
  refine ⟨⟨⟨sub_upd fp, fun a u e => ?_, fun a u e _ _ => sub_upd hp a u e, fun a e => ?_, .inl ⟨rfl, rfl⟩⟩, rfl, rfl, rfl⟩, fun m h => ⟨fun a u e => ?_, fun a hm => ?_, h.mid, fun h0 => ?_, h.tabs.mono (sub_upd fp) (fun a ps e => sub_upd hp a _ e), fun a ps e => ?_⟩⟩
  · by_cases q : a = p
    · exact .inr (by rw [q]; exact hp)
    · exact .inl (by rw [show (g.add p o).F a = upd g.F p o a from rfl, upd_ne q] at e; exact e)
  · by_cases q : a = p
    · rw [q]; exact hp
    · rw [upd_ne q] at e; exact e
  · by_cases q : a = p
    · rw [q] at e ⊢
      rw [show (g.add p o).F p = upd g.F p o p from rfl, upd_same] at e
      rw [upd_same]; exact e
    · rw [show (g.add p o).F a = upd g.F p o a from rfl, upd_ne q] at e
      rw [upd_ne q]; exact h.sub _ _ e
  · have h1 : g.F a = none := h.mu a hm
    obtain ⟨h0, e⟩ := hm
    obtain ⟨ca, h2, _⟩ := h.mst h0
    have q : a ≠ p := fun z => by
      have e' : a = g.μ := e
      rw [← z, e', h2] at hp; cases hp
    rw [show (g.add p o).F a = upd g.F p o a from rfl, upd_ne q]; exact h1
  · obtain ⟨ca, h1, h2⟩ := h.mst h0
    exact ⟨ca, sub_upd hp _ _ h1, sub_upd fp _ _ h2⟩
  · by_cases q : a = p
    · rw [q, show (g.add p o).F p = upd g.F p o p from rfl, upd_same] at e
      exact ht ps (Option.some.inj e)
    · rw [show (g.add p o).F a = upd g.F p o a from rfl, upd_ne q] at e
      exact h.nt a ps e
theorem HpS.ne {p : Addr} {o : HO} (h : HpS W g m H) (hp : H p = none) (e : g.F p = some o) : False := by
  rw [h.sub _ _ e] at hp; cases hp
theorem RepV.gr (e : Gr W g H g' H') {x : Val} {v : V} (h : RepV W g x v) : RepV W g' x v := h.ext e.ext
theorem RepDs.length : ∀ {ds : List D} {vs : List V} {F : Hp} {μ : Addr} {mid : Nat}, RepDs W F μ mid ds vs → ds.length = vs.length
  | [], vs, _, _, _, h => by simp only [RepDs] at h; subst h; rfl
  | x :: r, vs, _, _, _, h => by
    simp only [RepDs] at h
    obtain ⟨v, ws, rfl, _, h2⟩ := h
    simp [RepDs.length h2]
theorem RepVs.length : ∀ {ds : List Val} {vs : List V}, RepVs W g ds vs → ds.length = vs.length
  | [], vs, h => by simp only [RepVs] at h; subst h; rfl
  | x :: r, vs, h => by
    simp only [RepVs] at h
    obtain ⟨v, ws, rfl, _, h2⟩ := h
    simp [RepVs.length h2]
section
variable {F : Hp} {μ : Addr} {mid : Nat}
theorem RepDs.nil : RepDs W F μ mid [] [] := by simp only [RepDs]
theorem RepDs.cons {x : D} {r : List D} {v : V} {vs : List V} (h : RepD W F μ mid x v) (t : RepDs W F μ mid r vs) : RepDs W F μ mid (x :: r) (v :: vs) := by
  simp only [RepDs]; exact ⟨v, vs, rfl, h, t⟩
theorem RepDs.split {x : D} {r : List D} {vs : List V} (h : RepDs W F μ mid (x :: r) vs) : ∃ v ws, vs = v :: ws ∧ RepD W F μ mid x v ∧ RepDs W F μ mid r ws := by
  simpa only [RepDs] using h
theorem RepDs.append : ∀ {a b : List D} {vs ws : List V}, RepDs W F μ mid a vs → RepDs W F μ mid b ws → RepDs W F μ mid (a ++ b) (vs ++ ws)
  | [], _, vs, _, h, t => by simp only [RepDs] at h; subst h; exact t
  | x :: r, b, vs, ws, h, t => by
    obtain ⟨v, us, rfl, h1, h2⟩ := h.split
    exact RepDs.cons h1 (RepDs.append h2 t)
theorem RepDs.get : ∀ {ds : List D} {vs : List V} {i : Nat} {d : D}, RepDs W F μ mid ds vs → ds[i]? = some d → ∃ v, vs[i]? = some v ∧ RepD W F μ mid d v
  | [], _, _, _, _, e => by simp at e
  | x :: r, vs, 0, d, h, e => by
    obtain ⟨v, ws, rfl, h1, h2⟩ := h.split
    simp at e; subst e
    exact ⟨v, rfl, h1⟩
  | x :: r, vs, i + 1, d, h, e => by
    obtain ⟨v, ws, rfl, h1, h2⟩ := h.split
    obtain ⟨w, e1, e2⟩ := RepDs.get (i := i) h2 (by simpa using e)
    exact ⟨w, by simpa using e1, e2⟩
theorem RepDs.drop : ∀ {ds : List D} {vs : List V} (n : Nat), RepDs W F μ mid ds vs → RepDs W F μ mid (ds.drop n) (vs.drop n)
  | _, _, 0, h => h
  | [], vs, n + 1, h => by simp only [RepDs] at h; subst h; simpa using RepDs.nil
  | x :: r, vs, n + 1, h => by
    obtain ⟨v, ws, rfl, h1, h2⟩ := h.split
    simpa using RepDs.drop n h2
theorem RepDs.take : ∀ {ds : List D} {vs : List V} (n : Nat), RepDs W F μ mid ds vs → RepDs W F μ mid (ds.take n) (vs.take n)
  | _, _, 0, h => by simpa using RepDs.nil
  | [], vs, n + 1, h => by simp only [RepDs] at h; subst h; simpa using RepDs.nil
  | x :: r, vs, n + 1, h => by
    obtain ⟨v, ws, rfl, h1, h2⟩ := h.split
    simpa using RepDs.cons h1 (RepDs.take n h2)
theorem RepDs.reverse : ∀ {ds : List D} {vs : List V}, RepDs W F μ mid ds vs → RepDs W F μ mid ds.reverse vs.reverse
  | [], vs, h => by simp only [RepDs] at h; subst h; exact RepDs.nil
  | x :: r, vs, h => by
    obtain ⟨v, ws, rfl, h1, h2⟩ := h.split
    rw [List.reverse_cons, List.reverse_cons]
    exact RepDs.append (RepDs.reverse h2) (RepDs.cons h1 RepDs.nil)
theorem RepDs.set : ∀ {ds : List D} {vs : List V} {d : D} {v : V} (i : Nat), RepDs W F μ mid ds vs → RepD W F μ mid d v → RepDs W F μ mid (ds.set i d) (vs.set i v)
  | [], vs, _, _, _, h, _ => by simp only [RepDs] at h; subst h; simpa using RepDs.nil
  | x :: r, vs, _, _, 0, h, k => by
    obtain ⟨v, ws, rfl, h1, h2⟩ := h.split
    exact RepDs.cons k h2
  | x :: r, vs, _, _, i + 1, h, k => by
    obtain ⟨v, ws, rfl, h1, h2⟩ := h.split
    exact RepDs.cons h1 (RepDs.set i h2 k)
theorem RepDs.rep {ds : List D} {vs : List V} (h : RepDs W F μ mid ds vs) : ∀ n : Nat, RepDs W F μ mid (List.replicate n ds).flatten (List.replicate n vs).flatten
  | 0 => by simpa using RepDs.nil
  | n + 1 => by
    rw [List.replicate_succ, List.replicate_succ, List.flatten_cons, List.flatten_cons]
    exact RepDs.append h (RepDs.rep h n)
theorem RepDs.cut {ds : List D} {vs : List V} (h : RepDs W F μ mid ds vs) (lo hi : Option Int) : RepDs W F μ mid (cutL ds lo hi) (cutV vs lo hi) := by
  unfold cutL cutV
  rw [← h.length]
  exact (h.drop _).take _
end
theorem RepVs.nil : RepVs W g [] [] := by simp only [RepVs]
theorem RepVs.cons {x : Val} {r : List Val} {v : V} {vs : List V} (h : RepV W g x v) (t : RepVs W g r vs) : RepVs W g (x :: r) (v :: vs) := by
  simp only [RepVs]; exact ⟨v, vs, rfl, h, t⟩
theorem RepVs.split {x : Val} {r : List Val} {vs : List V} (h : RepVs W g (x :: r) vs) : ∃ v ws, vs = v :: ws ∧ RepV W g x v ∧ RepVs W g r ws := by
  simpa only [RepVs] using h
theorem RepVs.append : ∀ {a b : List Val} {vs ws : List V}, RepVs W g a vs → RepVs W g b ws → RepVs W g (a ++ b) (vs ++ ws)
  | [], _, vs, _, h, t => by simp only [RepVs] at h; subst h; exact t
  | x :: r, b, vs, ws, h, t => by
    obtain ⟨v, us, rfl, h1, h2⟩ := h.split
    exact RepVs.cons h1 (RepVs.append h2 t)
theorem RepVs.get : ∀ {ds : List Val} {vs : List V} {i : Nat} {d : Val}, RepVs W g ds vs → ds[i]? = some d → ∃ v, vs[i]? = some v ∧ RepV W g d v
  | [], _, _, _, _, e => by simp at e
  | x :: r, vs, 0, d, h, e => by
    obtain ⟨v, ws, rfl, h1, h2⟩ := h.split
    simp at e; subst e
    exact ⟨v, rfl, h1⟩
  | x :: r, vs, i + 1, d, h, e => by
    obtain ⟨v, ws, rfl, h1, h2⟩ := h.split
    obtain ⟨w, e1, e2⟩ := RepVs.get (i := i) h2 (by simpa using e)
    exact ⟨w, by simpa using e1, e2⟩
theorem RepVs.drop : ∀ {ds : List Val} {vs : List V} (n : Nat), RepVs W g ds vs → RepVs W g (ds.drop n) (vs.drop n)
  | _, _, 0, h => h
  | [], vs, n + 1, h => by simp only [RepVs] at h; subst h; simpa using RepVs.nil
  | x :: r, vs, n + 1, h => by
    obtain ⟨v, ws, rfl, h1, h2⟩ := h.split
    simpa using RepVs.drop n h2
theorem RepVs.take : ∀ {ds : List Val} {vs : List V} (n : Nat), RepVs W g ds vs → RepVs W g (ds.take n) (vs.take n)
  | _, _, 0, h => by simpa using RepVs.nil
  | [], vs, n + 1, h => by simp only [RepVs] at h; subst h; simpa using RepVs.nil
  | x :: r, vs, n + 1, h => by
    obtain ⟨v, ws, rfl, h1, h2⟩ := h.split
    simpa using RepVs.cons h1 (RepVs.take n h2)
theorem RepVs.cut {ds : List Val} {vs : List V} (h : RepVs W g ds vs) (lo hi : Option Int) : RepVs W g (cutL ds lo hi) (cutV vs lo hi) := by
  unfold cutL cutV
  rw [← h.length]
  exact (h.drop _).take _
theorem RepVs.data : ∀ {ds : List D} {vs : List V}, RepVs W g (ds.map .d) vs ↔ RepDs W g.F g.μ g.mid ds vs
  | [], vs => by simp only [List.map_nil, RepVs, RepDs]
  | x :: r, vs => by simp only [List.map_cons, RepVs, RepDs, RepV, RepVs.data]
theorem datas_eq : ∀ {vs : List Val} {ds : List D}, datas vs = some ds → vs = ds.map .d
  | [], ds, h => by simp only [datas, Option.some.injEq] at h; subst h; rfl
  | .d x :: r, ds, h => by
    simp only [datas] at h
    split at h
    · cases h
    · rename_i es e
      cases h
      rw [List.map_cons, datas_eq e]
  | .c _ _ :: r, ds, h => by simp only [datas] at h; cases h
  | .l _ :: r, ds, h => by simp only [datas] at h; cases h
theorem datas_map : ∀ ds : List D, datas (ds.map Val.d) = some ds
  | [] => rfl
  | x :: r => by simp only [List.map_cons, datas, datas_map r]
/-! ### operands -/
theorem RepR.d {x : D} {v : V} (h : RepV W g (.d x) v) : RepR W g H (.d x) v := .inl h
theorem RepR.sub {x : Val} {v : V} (hF : ∀ a u, g.F a = some u → H a = some u) (h : RepR W g H x v) : True := trivial
/-- a list -/
theorem RepR.lst {xs : List D} {v : V} (hF : ∀ a u, g.F a = some u → H a = some u) (h : RepR W g H (.d (.lst xs)) v) : ∃ a vs, v = .ref a ∧ H a = some (.lst vs) ∧ RepDs W g.F g.μ g.mid xs vs := by
  rcases h with h | ⟨a, e, h⟩
  · simp only [RepV, RepD] at h
    obtain ⟨a, vs, e, h1, h2⟩ := h
    exact ⟨a, vs, e, hF _ _ h1, h2⟩
  · simp only [RepO] at h
    obtain ⟨vs, h1, h2⟩ := h
    exact ⟨a, vs, e, h1, h2⟩
theorem RepR.l {xs : List Val} {v : V} (hF : ∀ a u, g.F a = some u → H a = some u) (h : RepR W g H (.l xs) v) : ∃ a vs, v = .ref a ∧ H a = some (.lst vs) ∧ RepVs W g xs vs := by
  rcases h with h | ⟨a, e, h⟩
  · simp only [RepV] at h
    obtain ⟨a, vs, e, h1, h2⟩ := h
    exact ⟨a, vs, e, hF _ _ h1, h2⟩
  · simp only [RepO] at h
    obtain ⟨vs, h1, h2⟩ := h
    exact ⟨a, vs, e, h1, h2⟩
theorem RepR.dct {ks ds : List D} {v : V} (hF : ∀ a u, g.F a = some u → H a = some u) (h : RepR W g H (.d (.dct ks ds)) v) : ∃ a kvs, v = .ref a ∧ H a = some (.dK kvs) ∧ kvs.map (fun p => keyV p.1) = ks ∧ RepDs W g.F g.μ g.mid ds (kvs.map (·.2)) := by
  rcases h with h | ⟨a, e, h⟩
  · simp only [RepV, RepD] at h
    obtain ⟨a, vs, e, h1, h2⟩ := h
    exact ⟨a, vs, e, hF _ _ h1, h2⟩
  · simp only [RepO] at h
    obtain ⟨vs, h1, h2⟩ := h
    exact ⟨a, vs, e, h1, h2⟩
/-- what is no list, no dict, is shared -/
def flat : D → Bool
  | .lst _ => false
  | .dct _ _ => false
  | _ => true
theorem RepR.flat {x : D} {v : V} (h : RepR W g H (.d x) v) (f : flat x = true) : RepD W g.F g.μ g.mid x v := by
  rcases h with h | ⟨a, e, h⟩
  · simpa only [RepV] using h
  · cases x <;> simp_all [RepO, Di.flat]
theorem RepR.tup {xs : List D} {v : V} (hF : ∀ a u, g.F a = some u → H a = some u) (h : RepR W g H (.d (.tup xs)) v) : ∃ a vs, v = .ref a ∧ SqT W.K H a vs ∧ RepDs W g.F g.μ g.mid xs vs := by
  have h := h.flat rfl
  simp only [RepD] at h
  obtain ⟨a, vs, e, h1, h2⟩ := h
  exact ⟨a, vs, e, sqT_sub hF h1, h2⟩
theorem RepR.int {i : Int} {v : V} (h : RepR W g H (.d (.int i)) v) : v = .int i := by
  simpa only [RepD] using h.flat rfl
theorem RepR.bl {i : Bool} {v : V} (h : RepR W g H (.d (.bl i)) v) : v = .bl i := by
  simpa only [RepD] using h.flat rfl
theorem RepR.str {i : Str} {v : V} (h : RepR W g H (.d (.str i)) v) : v = .str i := by
  simpa only [RepD] using h.flat rfl
theorem RepR.non {v : V} (h : RepR W g H (.d .non) v) : v = .non := by
  simpa only [RepD] using h.flat rfl
/-! ### plain data, for the library's rules about data -/
section
variable {F : Hp} {μ : Addr} {mid : Nat}
mutual
theorem RepD.dp (hF : ∀ a u, F a = some u → H a = some u) : ∀ (n : Nat) (d : D) (v : V), good n d = true → RepD W F μ mid d v → Dp W.K H v d.py
  | _, .non, v, _, h => by simp only [RepD] at h; subst h; simp only [D.py]; exact .non
  | _, .bl b, v, _, h => by simp only [RepD] at h; subst h; simp only [D.py]; exact .bl b
  | _, .int i, v, _, h => by simp only [RepD] at h; subst h; simp only [D.py]; exact .int i
  | _, .str s, v, _, h => by simp only [RepD] at h; subst h; simp only [D.py]; exact .str s
  | 0, .lst xs, v, q, _ => by simp [good] at q
  | 0, .tup xs, v, q, _ => by simp [good] at q
  | n + 1, .lst xs, v, q, h => by
    simp only [RepD] at h
    obtain ⟨a, vs, rfl, h1, h2⟩ := h
    simp only [D.py]
    exact .lst (.inl (.inl (hF _ _ h1))) (RepDs.dp hF n xs vs (by simpa only [good] using q) h2)
  | n + 1, .tup xs, v, q, h => by
    simp only [RepD] at h
    obtain ⟨a, vs, rfl, h1, h2⟩ := h
    simp only [D.py]
    exact .tup (sqT_sub hF h1) (RepDs.dp hF n xs vs (by simpa only [good] using q) h2)
  | _, .dct _ _, _, q, _ => by simp [good] at q
  | _, .st _, _, q, _ => by simp [good] at q
  | _, .scr _, _, q, _ => by simp [good] at q
theorem RepDs.dp (hF : ∀ a u, F a = some u → H a = some u) : ∀ (n : Nat) (ds : List D) (vs : List V), goodL n ds = true → RepDs W F μ mid ds vs → DpAll W.K H vs (pyL ds)
  | _, [], vs, _, h => by simp only [RepDs] at h; subst h; simp only [pyL]; exact .nil
  | n, x :: r, vs, q, h => by
    simp only [RepDs] at h
    obtain ⟨v, ws, rfl, h1, h2⟩ := h
    simp only [goodL, Bool.and_eq_true] at q
    simp only [pyL]
    exact .cons (RepD.dp hF n x v q.1 h1) (RepDs.dp hF n r ws q.2 h2)
end
end
mutual
theorem good_plain : ∀ (n : Nat) (d : D), good n d = true → d.py.plain = true ∧ d.py.depth ≤ n
  | _, .non, _ => ⟨rfl, Nat.zero_le _⟩
  | _, .bl b, _ => ⟨rfl, Nat.zero_le _⟩
  | _, .int i, _ => ⟨rfl, Nat.zero_le _⟩
  | _, .str s, _ => ⟨rfl, Nat.zero_le _⟩
  | 0, .lst xs, q => by simp [good] at q
  | 0, .tup xs, q => by simp [good] at q
  | n + 1, .lst xs, q => by
    obtain ⟨a, b⟩ := goodL_plain n xs (by simpa only [good] using q)
    exact ⟨by simpa only [D.py, PyData.plain] using a, by simp only [D.py, PyData.depth]; omega⟩
  | n + 1, .tup xs, q => by
    obtain ⟨a, b⟩ := goodL_plain n xs (by simpa only [good] using q)
    exact ⟨by simpa only [D.py, PyData.plain] using a, by simp only [D.py, PyData.depth]; omega⟩
  | _, .dct _ _, q => by simp [good] at q
  | _, .st _, q => by simp [good] at q
  | _, .scr _, q => by simp [good] at q
theorem goodL_plain : ∀ (n : Nat) (ds : List D), goodL n ds = true → PyData.plainAll (pyL ds) = true ∧ PyData.depthAll (pyL ds) ≤ n
  | _, [], _ => ⟨rfl, Nat.zero_le _⟩
  | n, x :: r, q => by
    simp only [goodL, Bool.and_eq_true] at q
    obtain ⟨a, b⟩ := good_plain n x q.1
    obtain ⟨c, d⟩ := goodL_plain n r q.2
    exact ⟨by simp only [pyL, PyData.plainAll, a, c, Bool.and_self], by simp only [pyL, PyData.depthAll]; omega⟩
end
theorem good_step : ∀ {n : Nat} {d : D}, good n d = true → flat d = true ∨ ∃ xs, d = .lst xs ∧ ∃ k, n = k + 1 ∧ goodL k xs = true
  | _, .non, _ => .inl rfl
  | _, .bl _, _ => .inl rfl
  | _, .int _, _ => .inl rfl
  | _, .str _, _ => .inl rfl
  | _, .tup _, _ => .inl rfl
  | 0, .lst _, q => by simp [good] at q
  | n + 1, .lst xs, q => .inr ⟨xs, rfl, n, rfl, by simpa only [good] using q⟩
  | _, .dct _ _, q => by simp [good] at q
  | _, .st _, _ => .inl rfl
  | _, .scr _, _ => .inl rfl
theorem RepR.dp {n : Nat} {x : D} {v : V} (hF : ∀ a u, g.F a = some u → H a = some u) (q : good n x = true) (h : RepR W g H (.d x) v) : Dp W.K H v x.py := by
  rcases good_step q with f | ⟨xs, rfl, k, rfl, qs⟩
  · exact RepD.dp hF n x v q (h.flat f)
  · obtain ⟨a, vs, rfl, h1, h2⟩ := h.lst hF
    simp only [D.py]
    exact .lst (.inl (.inl h1)) (RepDs.dp hF k xs vs qs h2)
/-! ### what an operator's reading is -/
def hF (g : G) (H : Hp) : Prop := ∀ a u, g.F a = some u → H a = some u
/-- the wish of a value made of what stands -/
def Wish (W : Wd) (g : G) (H : Hp) (x : Val) (Q : VK) : Prop := ∀ v g' H', Gr W g H g' H' → RepV W g' x v → Q v H'
theorem Wish.flat {x : D} {v : V} {Q : VK} (w : Wish W g H (.d x) Q) (h : RepD W g.F g.μ g.mid x v) : Q v H := w v g H Gr.refl (by simpa only [RepV] using h)
theorem Wish.same {x : Val} {v : V} {Q : VK} (w : Wish W g H x Q) (h : RepV W g x v) : Q v H := w v g H Gr.refl h
theorem Wish.new_lst {xs : List D} {vs : List V} {Q : VK} (f : hF g H) (w : Wish W g H (.d (.lst xs)) Q) (h : RepDs W g.F g.μ g.mid xs vs) : ∀ p, H p = none → Q (.ref p) (upd H p (.lst vs)) := fun p hp => by
  have e := Gr.new (W := W) (o := .lst vs) hp f
  refine w _ _ _ e ?_
  simp only [RepV, RepD]
  exact ⟨p, vs, rfl, upd_same, h.ext e.ext⟩
theorem Wish.new_tup {xs : List D} {vs : List V} {Q : VK} (f : hF g H) (w : Wish W g H (.d (.tup xs)) Q) (h : RepDs W g.F g.μ g.mid xs vs) : ∀ p, H p = none → Q (.ref p) (upd H p (.tup vs)) := fun p hp => by
  have e := Gr.new (W := W) (o := .tup vs) hp f
  refine w _ _ _ e ?_
  simp only [RepV, RepD]
  exact ⟨p, vs, rfl, .inl (.inl upd_same), h.ext e.ext⟩
theorem Wish.new_l {xs : List Val} {vs : List V} {Q : VK} (f : hF g H) (w : Wish W g H (.l xs) Q) (h : RepVs W g xs vs) : ∀ p, H p = none → Q (.ref p) (upd H p (.lst vs)) := fun p hp => by
  have e := Gr.new (W := W) (o := .lst vs) hp f
  refine w _ _ _ e ?_
  simp only [RepV]
  exact ⟨p, vs, rfl, upd_same, h.ext e.ext⟩
theorem Wish.int {i : Int} {Q : VK} (w : Wish W g H (.d (.int i)) Q) : Q (.int i) H := w.flat (by simp only [RepD])
theorem Wish.bl {i : Bool} {Q : VK} (w : Wish W g H (.d (.bl i)) Q) : Q (.bl i) H := w.flat (by simp only [RepD])
theorem Wish.str {i : Str} {Q : VK} (w : Wish W g H (.d (.str i)) Q) : Q (.str i) H := w.flat (by simp only [RepD])
end Di
end
section
set_option Elab.async false
set_option linter.all false
set_option maxRecDepth 100000
set_option maxHeartbeats 2000000
/-! Di.Op2: binary operators, comparisons. -/
namespace Di
open PySem PySem.Spec PyProof.Rows L2 LamX NdefX
variable {W : Wd} {X : Cx} {g : G} {H : Hp}
def Op2.py : Op2 → Operator
  | .add => .Add | .sub => .Sub | .mul => .Mult | .mod => .Mod | .fdiv => .FloorDiv | .pow => .Pow
def rOp2 (W : Wd) (o : Op2) : R2 := fun x y H Q => ∃ g dx dy d, hF g H ∧ RepR W g H dx x ∧ RepR W g H dy y ∧ op2V o dx dy = some d ∧ Wish W g H d Q
/-- text * int -/
theorem op_repS : OpR X (binaryOp .Mult) (fun x y H Q => ∃ z k, x = .str z ∧ y = .int k ∧ 0 ≤ k ∧ k ≤ 1000000 ∧ z.length * k.toNat ≤ sizeLine ∧ Q (.str ⟨(List.replicate k.toNat z.cps.toList).flatten.toArray⟩) H) := by
  intro pins s σ H x y v u Q I rx ry h
  obtain ⟨z, k, rfl, rfl, h0, h1, hz, q⟩ := h
  obtain ⟨t, rfl⟩ := rx
  obtain ⟨t', rfl⟩ := ry
  have hs : sizeLine = 16777216 := sizeLine_eq
  have fold : ∀ (n : Nat) (a : Array Nat), (List.replicate n z.cps).foldl (· ++ ·) a = a ++ (List.replicate n z.cps.toList).flatten.toArray := by
    intro n
    induction n with
    | zero => intro a; simp
    | succ n ih =>
      intro a
      rw [List.replicate_succ, List.foldl_cons, ih, List.replicate_succ, List.flatten_cons]
      refine Array.ext' ?_
      simp
  refine PySem.P.mul_str ?_ (fun h1' h2' => ?_) (fun h1' h2' => ?_) ?_
  · have a : ¬ k < -(2 ^ 63) := by omega
    have b : ¬ k ≥ 2 ^ 63 := by omega
    rw [decide_eq_false a, decide_eq_false b]; rfl
  · intro hh
    have hk : 2 ≤ k := by
      rw [Bool.or_eq_false_iff] at h2'
      have : ¬ k = 1 := fun e => by rw [e] at h2'; simp at h2'
      omega
    have e1 : z.length * k.toNat ≤ 16777216 := by omega
    have e2 : z.length ≤ z.length * k.toNat := Nat.le_mul_of_pos_right _ (by omega)
    have e3 : (2 ^ 63 - 1 : Int) / 1000000 ≤ (2 ^ 63 - 1) / k := Int.le_ediv_of_mul_le (by omega) (by
      have : (2 ^ 63 - 1 : Int) / 1000000 * k ≤ (2 ^ 63 - 1) / 1000000 * 1000000 := Int.mul_le_mul_of_nonneg_left h1 (by decide)
      omega)
    omega
  · show decide (_ > _) = false
    exact decide_eq_false (by omega)
  · by_cases hk : k < 1
    · rw [if_pos hk]
      have e : k.toNat = 0 := by omega
      rw [e] at q
      exact ⟨by decide, ⟨.str Str.empty, H, I.tok _, ⟨_, rfl⟩, by rw [List.replicate_zero, List.flatten_nil] at q; exact q⟩⟩
    · rw [if_neg hk]
      by_cases h2 : (k == 1 || z.length == 0) = true
      · rw [if_pos h2]
        have e : (⟨(List.replicate k.toNat z.cps.toList).flatten.toArray⟩ : Str) = z := by
          rw [Bool.or_eq_true] at h2
          rcases h2 with e | e
          · have e' : k = 1 := by simpa using e
            subst e'
            show (⟨(List.replicate 1 z.cps.toList).flatten.toArray⟩ : Str) = z
            simp [List.replicate]
          · have e' : z.cps.size = 0 := by simpa [Str.length] using e
            have e2 : z.cps = #[] := Array.eq_empty_of_size_eq_zero e'
            obtain ⟨c⟩ := z
            simp only at e2
            subst e2
            simp
        rw [e] at q
        exact ⟨.str z, H, I.tok _, ⟨_, rfl⟩, q⟩
      · rw [if_neg h2]
        refine ⟨?_, ⟨.str _, H, I.tok _, ⟨_, rfl⟩, ?_⟩⟩
        · rw [fold]
          have e1 : (#[] ++ (List.replicate k.toNat z.cps.toList).flatten.toArray : Array Nat).size = k.toNat * z.cps.toList.length := by
            rw [Array.empty_append, List.size_toArray, lm_len_rep_flat]
          show (#[] ++ (List.replicate k.toNat z.cps.toList).flatten.toArray : Array Nat).size ≤ sizeLine
          rw [e1, Nat.mul_comm]
          exact hz
        · rw [fold, Array.empty_append]; exact q
theorem op2_data (hK : W.K = X.K) (o : Op2) : OpR X (binaryOp o.py) (rOp2 W o) := by
  intro pins s σ H x y v u Q I rx ry h
  obtain ⟨g, dx, dy, d, f, h1, h2, e, w⟩ := h
  cases dx with
  | c k cap => cases dy <;> simp [op2V] at e
  | l xs =>
    cases dy with
    | l ys =>
      cases o <;> simp only [op2V] at e <;> try (cases e)
      split at e
      · rename_i hz
        cases e
        obtain ⟨a, vs, rfl, a1, a2⟩ := h1.l f
        obtain ⟨b, ws, rfl, b1, b2⟩ := h2.l f
        exact op_cat pins s σ H _ _ v u Q I rx ry ⟨a, b, vs, ws, rfl, rfl, a1, b1, by rw [← a2.length, ← b2.length]; exact hz, w.new_l f (a2.append b2)⟩
      · cases e
    | d y => simp [op2V] at e
    | c _ _ => simp [op2V] at e
  | d dx =>
    cases dy with
    | l ys => simp [op2V] at e
    | c _ _ => simp [op2V] at e
    | d dy =>
      simp only [op2V] at e
      split at e
      · rename_i z ez
        cases e
        cases o <;> cases dx <;> cases dy <;> simp only [op2] at ez <;> try (cases ez)
        -- add
        · have e1 := h1.int; have e2 := h2.int; subst e1 e2
          exact op_add pins s σ H _ _ v u Q I rx ry ⟨_, _, rfl, rfl, w.int⟩
        · have e1 := h1.str; have e2 := h2.str; subst e1 e2
          split at ez
          · rename_i hz
            cases ez
            exact op_add_str pins s σ H _ _ v u Q I rx ry ⟨_, _, rfl, rfl, hz, w.str⟩
          · cases ez
        · split at ez
          · rename_i hz
            cases ez
            obtain ⟨a, vs, rfl, a1, a2⟩ := h1.lst f
            obtain ⟨b, ws, rfl, b1, b2⟩ := h2.lst f
            exact op_cat pins s σ H _ _ v u Q I rx ry ⟨a, b, vs, ws, rfl, rfl, a1, b1, by rw [← a2.length, ← b2.length]; exact hz, w.new_lst f (a2.append b2)⟩
          · cases ez
        · split at ez
          · rename_i hz
            cases ez
            obtain ⟨a, vs, rfl, a1, a2⟩ := h1.tup f
            obtain ⟨b, ws, rfl, b1, b2⟩ := h2.tup f
            rw [hK] at a1 b1
            have i1 := h1.flat rfl
            have i2 := h2.flat rfl
            refine op_catA pins s σ H _ _ v u Q I rx ry ⟨a, b, vs, ws, rfl, rfl, a1, b1, by rw [← a2.length, ← b2.length]; exact hz, fun e0 => ?_, fun _ e0 => ?_, fun _ _ => w.new_tup f (a2.append b2)⟩
            · subst e0
              have e3 := List.eq_nil_of_length_eq_zero a2.length
              subst e3
              exact w.flat (by simpa using i2)
            · subst e0
              have e3 := List.eq_nil_of_length_eq_zero b2.length
              subst e3
              exact w.flat (by simpa using i1)
          · cases ez
        -- sub
        · have e1 := h1.int; have e2 := h2.int; subst e1 e2
          exact op_sub pins s σ H _ _ v u Q I rx ry ⟨_, _, rfl, rfl, w.int⟩
        -- mul
        · have e1 := h1.int; have e2 := h2.int; subst e1 e2
          split at ez
          · rename_i hz
            cases ez
            simp only [mulOk, Bool.or_eq_true, decide_eq_true_eq] at hz
            rcases hz with (hz | hz) | hz
            · exact op_mul pins s σ H _ _ v u Q I rx ry ⟨_, _, rfl, rfl, .inl (by omega), w.int⟩
            · exact op_mul pins s σ H _ _ v u Q I rx ry ⟨_, _, rfl, rfl, .inr (by omega), w.int⟩
            · exact op_mulW pins s σ H _ _ v u Q I rx ry ⟨_, _, rfl, rfl, hz, w.int⟩
          · cases ez
        · have e1 := h1.str; have e2 := h2.int; subst e1 e2
          split at ez
          · rename_i hz
            cases ez
            exact op_repS pins s σ H _ _ v u Q I rx ry ⟨_, _, rfl, rfl, hz.1, hz.2.1, hz.2.2, w.str⟩
          · cases ez
        · have e2 := h2.int; subst e2
          split at ez
          · rename_i hz
            cases ez
            obtain ⟨a, vs, rfl, a1, a2⟩ := h1.lst f
            exact op_rep pins s σ H _ _ v u Q I rx ry ⟨a, _, vs, rfl, rfl, a1, by omega, by omega, by rw [← a2.length]; exact hz.2.2, w.new_lst f (a2.rep _)⟩
          · cases ez
        · have e2 := h2.int; subst e2
          split at ez
          · rename_i hz
            cases ez
            obtain ⟨a, vs, rfl, a1, a2⟩ := h1.tup f
            rw [hK] at a1
            exact op_repT pins s σ H _ _ v u Q I rx ry ⟨a, _, vs, rfl, rfl, a1, fun e => by rw [e] at a2; exact hz.1 (by rw [a2.length]; rfl), hz.2.1, hz.2.2.1, by rw [← a2.length]; exact hz.2.2.2, w.new_tup f (a2.rep _)⟩
          · cases ez
        -- mod
        · have e1 := h1.int; have e2 := h2.int; subst e1 e2
          split at ez
          · cases ez
          · rename_i hz
            cases ez
            exact op_modN pins s σ H _ _ v u Q I rx ry ⟨_, _, rfl, rfl, hz, w.int⟩
        -- fdiv
        · have e1 := h1.int; have e2 := h2.int; subst e1 e2
          split at ez
          · rename_i hz
            cases ez
            exact op_fdivN pins s σ H _ _ v u Q I rx ry ⟨_, _, rfl, rfl, hz, w.int⟩
          · cases ez
        -- pow
        · have e1 := h1.int; have e2 := h2.int; subst e1 e2
          split at ez
          · rename_i hz
            cases ez
            exact op_pow pins s σ H _ _ v u Q I rx ry ⟨_, _, rfl, rfl, hz, w.int⟩
          · cases ez
      · cases e
/-! ### comparisons -/
def Cmp.py : Cmp → CmpOp
  | .lt => .Lt | .le => .LtE | .gt => .Gt | .ge => .GtE | .eq => .Eq | .ne => .NotEq | .isN => .Is | .notN => .IsNot | .isin => .In | .notin => .NotIn
def rCmp (W : Wd) (o : Cmp) : R2 := fun x y H Q => ∃ g dx dy c, hF g H ∧ RepR W g H (.d dx) x ∧ RepR W g H (.d dy) y ∧ cmpD o dx dy = some c ∧ Q (.bl c) H
theorem isNon_v {d : D} {v : V} (h : RepR W g H (.d d) v) : isNon d = decide (v = .non) := by
  have k : d ≠ .non → v ≠ .non := fun hd e => by
    subst e
    rcases h with h | ⟨a, e, _⟩
    · cases d <;> simp_all [RepV, RepD]
    · cases e
  cases d with
  | non => rw [h.non]; rfl
  | _ => rw [decide_eq_false (k (by simp))]; rfl
theorem keyV_is : ∀ {k : Key} {d : D} {v : V}, isKey d = true → RepR W g H (.d d) v → (∃ k : Key, v = kV k ∧ keyV k = d)
  | _, .int i, v, _, h => ⟨.inl i, h.int, rfl⟩
  | _, .str i, v, _, h => ⟨.inr i, h.str, rfl⟩
theorem key_is {d : D} {v : V} (q : isKey d = true) (h : RepR W g H (.d d) v) : ∃ k : Key, v = kV k ∧ keyV k = d := by
  cases d <;> simp [isKey] at q
  · exact ⟨.inl _, h.int, rfl⟩
  · exact ⟨.inr _, h.str, rfl⟩
theorem keyEq_v (a b : Key) : keyEq (keyV a) (keyV b) = decide (a = b) := by
  cases a with
  | inl i =>
    cases b with
    | inl j => exact (key_ll i j).symm
    | inr y => exact (key_lr i y).symm
  | inr x =>
    cases b with
    | inl j => exact (key_rl x j).symm
    | inr y => exact (key_rr x y).symm
/-- a dict's look-up -/
theorem look_val {F : Hp} {μ : Addr} {mid : Nat} (k : Key) : ∀ {kvs : List (Key × V)} {ks ds : List D}, kvs.map (fun p => keyV p.1) = ks → RepDs W F μ mid ds (kvs.map (·.2)) →
    match look (keyV k) ks ds with
    | some d => ∃ v, valV kvs k = some v ∧ RepD W F μ mid d v
    | none => valV kvs k = none
  | [], ks, ds, e, h => by
    subst e
    have e2 := h.length
    have e3 := List.eq_nil_of_length_eq_zero e2
    subst e3
    simp [look, valV]
  | p :: r, ks, ds, e, h => by
    subst e
    cases ds with
    | nil => have := h.length; simp at this
    | cons d ds =>
      obtain ⟨v, ws, e, h1, h2⟩ := h.split
      simp only [List.map_cons, List.cons.injEq] at e
      obtain ⟨e1, e2⟩ := e
      subst e1 e2
      simp only [List.map_cons, look, keyEq_v]
      unfold valV
      rw [List.find?_cons]
      by_cases hk : p.1 = k
      · simp only [hk, decide_true, if_true, Option.map_some]
        exact ⟨_, rfl, h1⟩
      · simp only [decide_eq_false hk, if_neg Bool.false_ne_true]
        exact look_val k rfl h2
theorem isin_data {I' : True} {pins : List (Addr × Obj)} {s : Shared} {σ : L2.St} {Q : VK} (hK : W.K = X.K) (hu : X.A.units + 200 < cLine) (neg : Bool) {x y : V} {u v : Value} (I : L2.Inv X pins σ H s) (rx : RelV x u) (ry : RelV y v) (f : hF g H)
    {dx dy : D} {c : Bool} (h1 : RepR W g H (.d dx) x) (h2 : RepR W g H (.d dy) y) (e : isinD dx dy = some c) (q : Q (.bl (neg != c)) H) :
    wpAny (model X.prog X.w) X.A (compareOp (if neg then .NotIn else .In) u v) (EP X pins σ Q) X.xe s := by
  have fin : ∀ {b : Bool}, b = (neg != c) → EP X pins σ Q (.bool b) s := fun {b} eb => ⟨.bl b, H, I, rfl, by rw [eb]; exact q⟩
  cases dy <;> simp only [isinD] at e <;> try (cases e)
  · -- text
    cases dx <;> (try simp only at e) <;> try (cases e)
    rename_i z cz
    obtain ⟨⟨l⟩⟩ := cz
    match l, e with
    | [c0], e =>
      simp only [Option.some.injEq] at e
      have e1 := h1.str; have e2 := h2.str; subst e1 e2
      cases neg with
      | true => exact op_notIn_sign pins s σ H _ _ u v Q I rx ry ⟨c0, z, rfl, rfl, by rw [e]; simpa using q⟩
      | false => exact op_in_sign pins s σ H _ _ u v Q I rx ry ⟨c0, z, rfl, rfl, by rw [e]; simpa using q⟩
  · -- list
    rename_i xs
    split at e
    · rename_i hg
      rw [Bool.and_eq_true] at hg
      obtain ⟨p1, p2⟩ := good_plain 60 dx hg.1
      obtain ⟨p3, p4⟩ := goodL_plain 60 _ hg.2
      have d1 : Dp X.K H x dx.py := by rw [← hK]; exact h1.dp f hg.1
      have d2 : Dp X.K H y (.list (pyL xs)) := by
        rw [← hK]
        exact RepR.dp (n := 61) (x := .lst xs) f (by simpa only [good] using hg.2) h2
      obtain ⟨as, r1⟩ := Dp.reads I _ _ _ d1 rx
      obtain ⟨bs, r2⟩ := Dp.reads I _ _ _ d2 ry
      simp only [Option.some.injEq] at e
      have ea : ∀ ys : List D, (pyL ys).any (fun y => PyData.eqv y dx.py) = ys.any (fun y => PyData.eqv y.py dx.py) := fun ys => by
        induction ys with
        | nil => rfl
        | cons a r ih => simp only [pyL, List.any_cons, ih]
      cases neg with
      | true => exact SeqAt.notIn_list_data r2 r1 p3 p1 (by omega) (fin (by rw [ea, e]; cases c <;> rfl))
      | false => exact SeqAt.in_list_data r2 r1 p3 p1 (by omega) (fin (by rw [ea, e]; cases c <;> rfl))
    · cases e
  · -- tuple
    rename_i xs
    split at e
    · rename_i hg
      rw [Bool.and_eq_true] at hg
      obtain ⟨p1, p2⟩ := good_plain 60 dx hg.1
      obtain ⟨p3, p4⟩ := goodL_plain 60 _ hg.2
      have d1 : Dp X.K H x dx.py := by rw [← hK]; exact h1.dp f hg.1
      have d2 : Dp X.K H y (.tuple (pyL xs)) := by
        rw [← hK]
        exact RepR.dp (n := 61) (x := .tup xs) f (by simpa only [good] using hg.2) h2
      obtain ⟨as, r1⟩ := Dp.reads I _ _ _ d1 rx
      obtain ⟨bs, r2⟩ := Dp.reads I _ _ _ d2 ry
      simp only [Option.some.injEq] at e
      have ea : ∀ ys : List D, (pyL ys).any (fun y => PyData.eqv y dx.py) = ys.any (fun y => PyData.eqv y.py dx.py) := fun ys => by
        induction ys with
        | nil => rfl
        | cons a r ih => simp only [pyL, List.any_cons, ih]
      cases neg with
      | true => exact SeqAt.notIn_tuple_data r2 r1 p3 p1 (by omega) (fin (by rw [ea, e]; cases c <;> rfl))
      | false => exact SeqAt.in_tuple_data r2 r1 p3 p1 (by omega) (fin (by rw [ea, e]; cases c <;> rfl))
    · cases e
  · -- dict
    split at e
    · rename_i hk
      obtain ⟨k, e1, e2⟩ := key_is hk h1
      subst e1 e2
      obtain ⟨a, kvs, e3, a1, a2, a3⟩ := h2.dct f
      subst e3
      obtain rfl : v = Value.ref a := ry
      have hl := look_val k a2 a3
      have ec : (valV kvs k).isSome = c := by
        simp only [Option.some.injEq] at e
        split at hl
        · rename_i d ed
          obtain ⟨w, hw, _⟩ := hl
          rw [ed] at e
          rw [hw, ← e]; rfl
        · rename_i ed
          rw [ed] at e
          rw [hl, ← e]; rfl
      cases neg with
      | true => exact d_notIn (by omega) I (DGet.k a1) rx fun s' I' => ⟨.bl (!(valV kvs k).isSome), H, I', rfl, by rw [ec]; simpa using q⟩
      | false => exact d_in (by omega) I (DGet.k a1) rx fun s' I' => ⟨.bl (valV kvs k).isSome, H, I', rfl, by rw [ec]; simpa using q⟩
    · cases e
theorem eqD_data {pins : List (Addr × Obj)} {s : Shared} {σ : L2.St} {Q : VK} (hK : W.K = X.K) (hu : X.A.units + 200 < cLine) (neg : Bool) {x y : V} {u v : Value} (I : L2.Inv X pins σ H s) (rx : RelV x u) (ry : RelV y v) (f : hF g H)
    {dx dy : D} {c : Bool} (h1 : RepR W g H (.d dx) x) (h2 : RepR W g H (.d dy) y) (e : eqD dx dy = some c) (q : Q (.bl (neg != c)) H) :
    wpAny (model X.prog X.w) X.A (compareOp (if neg then .NotEq else .Eq) u v) (EP X pins σ Q) X.xe s := by
  unfold eqD at e
  split at e
  · rename_i hg
    rw [Bool.and_eq_true] at hg
    obtain ⟨p1, p2⟩ := good_plain 60 dx hg.1
    obtain ⟨p3, p4⟩ := good_plain 60 dy hg.2
    have d1 : Dp X.K H x dx.py := by rw [← hK]; exact h1.dp f hg.1
    have d2 : Dp X.K H y dy.py := by rw [← hK]; exact h2.dp f hg.2
    obtain ⟨as, r1⟩ := Dp.reads I _ _ _ d1 rx
    obtain ⟨bs, r2⟩ := Dp.reads I _ _ _ d2 ry
    simp only [Option.some.injEq] at e
    have hd : X.A.units + min dx.py.depth dy.py.depth < cLine := by
      have := Nat.min_le_left dx.py.depth dy.py.depth
      omega
    cases neg with
    | true => exact SeqAt.ne_plain r1 r2 p1 p3 hd ⟨.bl _, H, I, rfl, by rw [e]; simpa using q⟩
    | false => exact SeqAt.eq_plain r1 r2 p1 p3 hd ⟨.bl _, H, I, rfl, by rw [e]; simpa using q⟩
  · cases e
theorem cmp_data (hK : W.K = X.K) (hu : X.A.units + 200 < cLine) (o : Cmp) : OpR X (compareOp o.py) (rCmp W o) := by
  intro pins s σ H x y u v Q I rx ry h
  obtain ⟨g, dx, dy, c, f, h1, h2, e, q⟩ := h
  cases o with
  | eq => exact eqD_data hK hu false I rx ry f h1 h2 e (by simpa using q)
  | ne =>
    simp only [cmpD] at e
    split at e
    · rename_i c' ec
      cases e
      exact eqD_data hK hu true I rx ry f h1 h2 ec (by simpa using q)
    · cases e
  | isin => exact isin_data (I' := trivial) hK hu false I rx ry f h1 h2 e (by simpa using q)
  | notin =>
    simp only [cmpD] at e
    split at e
    · rename_i c' ec
      cases e
      exact isin_data (I' := trivial) hK hu true I rx ry f h1 h2 ec (by simpa using q)
    · cases e
  | isN =>
    cases dy <;> simp only [cmpD] at e <;> try (cases e)
    have e2 := h2.non; subst e2
    exact op_isN pins s σ H _ _ u v Q I rx ry ⟨rfl, by rw [← isNon_v h1]; exact q⟩
  | notN =>
    cases dy <;> simp only [cmpD] at e <;> try (cases e)
    have e2 := h2.non; subst e2
    exact op_notN pins s σ H _ _ u v Q I rx ry ⟨rfl, by rw [← isNon_v h1]; exact q⟩
  | lt =>
    cases dx <;> cases dy <;> simp only [cmpD] at e <;> try (cases e)
    have e1 := h1.int; have e2 := h2.int; subst e1 e2
    exact op_lt pins s σ H _ _ u v Q I rx ry ⟨_, _, rfl, rfl, q⟩
  | le =>
    cases dx <;> cases dy <;> simp only [cmpD] at e <;> try (cases e)
    have e1 := h1.int; have e2 := h2.int; subst e1 e2
    exact op_le pins s σ H _ _ u v Q I rx ry ⟨_, _, rfl, rfl, q⟩
  | gt =>
    cases dx <;> cases dy <;> simp only [cmpD] at e <;> try (cases e)
    have e1 := h1.int; have e2 := h2.int; subst e1 e2
    exact op_gt pins s σ H _ _ u v Q I rx ry ⟨_, _, rfl, rfl, q⟩
  | ge =>
    cases dx <;> cases dy <;> simp only [cmpD] at e <;> try (cases e)
    have e1 := h1.int; have e2 := h2.int; subst e1 e2
    exact op_ge pins s σ H _ _ u v Q I rx ry ⟨_, _, rfl, rfl, q⟩
end Di
end
section
set_option Elab.async false
set_option linter.all false
set_option maxRecDepth 100000
set_option maxHeartbeats 2000000
/-! Di.Bi: builtins, subscripts, slices, on data. -/
namespace Di
open PySem PySem.Spec PyProof.Rows L2 LamX NdefX
variable {W : Wd} {X : Cx} {g : G} {H : Hp}
abbrev RepRs (W : Wd) (g : G) (H : Hp) (ds : List D) (vs : List V) : Prop := Paired (fun d v => RepR W g H (.d d) v) ds vs
def rBi (W : Wd) (b : Bi) : List V → Hp → VK → Prop := fun xs H Q => ∃ g ds d, hF g H ∧ RepRs W g H ds xs ∧ bi b ds = some d ∧ Wish W g H (.d d) Q
def Bi.fn : Bi → Option Value
  | .len => some (.builtin "len") | .tuple => some (.type "tuple") | .list => some (.type "list") | .max => some (.builtin "max") | .min => some (.builtin "min")
  | .abs => some (.builtin "abs") | .int => some (.type "int") | .str => some (.type "str") | .repr => some (.builtin "repr") | .all => some (.builtin "all") | .any => some (.builtin "any")
  | _ => none
theorem blsOf_rep {F : Hp} {μ : Addr} {mid : Nat} : ∀ {ds : List D} {vs : List V} {l : List Bool}, blsOf ds = some l → RepDs W F μ mid ds vs → vs = l.map V.bl
  | [], vs, l, e, h => by
    simp only [blsOf, Option.some.injEq] at e
    simp only [RepDs] at h
    subst e h; rfl
  | .bl b :: r, vs, l, e, h => by
    simp only [blsOf] at e
    split at e
    · rename_i l' el
      cases e
      obtain ⟨v, ws, rfl, h1, h2⟩ := h.split
      simp only [RepD] at h1
      rw [h1, blsOf_rep el h2]; rfl
    · cases e
  | .non :: r, _, _, e, _ => by simp [blsOf] at e
  | .int _ :: r, _, _, e, _ => by simp [blsOf] at e
  | .str _ :: r, _, _, e, _ => by simp [blsOf] at e
  | .lst _ :: r, _, _, e, _ => by simp [blsOf] at e
  | .tup _ :: r, _, _, e, _ => by simp [blsOf] at e
  | .dct _ _ :: r, _, _, e, _ => by simp [blsOf] at e
  | .st _ :: r, _, _, e, _ => by simp [blsOf] at e
  | .scr _ :: r, _, _, e, _ => by simp [blsOf] at e
theorem intsOf_rep {F : Hp} {μ : Addr} {mid : Nat} : ∀ {ds : List D} {vs : List V} {l : List Int}, intsOf ds = some l → RepDs W F μ mid ds vs → vs = l.map V.int
  | [], vs, l, e, h => by
    simp only [intsOf, Option.some.injEq] at e
    simp only [RepDs] at h
    subst e h; rfl
  | .int b :: r, vs, l, e, h => by
    simp only [intsOf] at e
    split at e
    · rename_i l' el
      cases e
      obtain ⟨v, ws, rfl, h1, h2⟩ := h.split
      simp only [RepD] at h1
      rw [h1, intsOf_rep el h2]; rfl
    · cases e
  | .non :: r, _, _, e, _ => by simp [intsOf] at e
  | .bl _ :: r, _, _, e, _ => by simp [intsOf] at e
  | .str _ :: r, _, _, e, _ => by simp [intsOf] at e
  | .lst _ :: r, _, _, e, _ => by simp [intsOf] at e
  | .tup _ :: r, _, _, e, _ => by simp [intsOf] at e
  | .dct _ _ :: r, _, _, e, _ => by simp [intsOf] at e
  | .st _ :: r, _, _, e, _ => by simp [intsOf] at e
  | .scr _ :: r, _, _, e, _ => by simp [intsOf] at e
theorem strsOf_rep {F : Hp} {μ : Addr} {mid : Nat} : ∀ {ds : List D} {vs : List V} {l : List Str}, strsOf ds = some l → RepDs W F μ mid ds vs → vs = l.map V.str
  | [], vs, l, e, h => by
    simp only [strsOf, Option.some.injEq] at e
    simp only [RepDs] at h
    subst e h; rfl
  | .str b :: r, vs, l, e, h => by
    simp only [strsOf] at e
    split at e
    · rename_i l' el
      cases e
      obtain ⟨v, ws, rfl, h1, h2⟩ := h.split
      simp only [RepD] at h1
      rw [h1, strsOf_rep el h2]; rfl
    · cases e
  | .non :: r, _, _, e, _ => by simp [strsOf] at e
  | .bl _ :: r, _, _, e, _ => by simp [strsOf] at e
  | .int _ :: r, _, _, e, _ => by simp [strsOf] at e
  | .lst _ :: r, _, _, e, _ => by simp [strsOf] at e
  | .tup _ :: r, _, _, e, _ => by simp [strsOf] at e
  | .dct _ _ :: r, _, _, e, _ => by simp [strsOf] at e
  | .st _ :: r, _, _, e, _ => by simp [strsOf] at e
  | .scr _ :: r, _, _, e, _ => by simp [strsOf] at e
theorem strs_rep {F : Hp} {μ : Addr} {mid : Nat} : ∀ l : List Str, RepDs W F μ mid (l.map D.str) (l.map V.str)
  | [] => RepDs.nil
  | x :: r => RepDs.cons (by simp only [RepD]) (strs_rep r)
theorem ints_rep {F : Hp} {μ : Addr} {mid : Nat} : ∀ l : List Int, RepDs W F μ mid (l.map D.int) (l.map V.int)
  | [] => RepDs.nil
  | x :: r => RepDs.cons (by simp only [RepD]) (ints_rep r)
theorem rr1 {d : D} {xs : List V} (h : RepRs W g H [d] xs) : ∃ v, xs = [v] ∧ RepR W g H (.d d) v := by
  cases h with
  | cons h t => cases t; exact ⟨_, rfl, h⟩
theorem rr2 {d e : D} {xs : List V} (h : RepRs W g H [d, e] xs) : ∃ v w, xs = [v, w] ∧ RepR W g H (.d d) v ∧ RepR W g H (.d e) w := by
  cases h with
  | cons h t =>
    obtain ⟨w, rfl, h2⟩ := rr1 t
    exact ⟨_, _, rfl, h, h2⟩
theorem sqL_h {a : Addr} {vs : List V} (h : H a = some (.lst vs)) : SqL X.K H a vs := .inl (.inl h)
/-- repr of data -/
theorem repr_data {pins : List (Addr × Obj)} {s : Shared} {σ : L2.St} {d : PyData} {v : V} {u : Value} {Q : VK} (hu : X.A.units + 200 < cLine) (hgd : X.A.guards = some []) (I : L2.Inv X pins σ H s) (rx : RelV v u)
    (dp : Dp X.K H v d) (hs : d.showable = true) (hd : d.hasDict = false) (hz : d.shown.length ≤ sizeLine) (h60 : d.depth ≤ 60) (q : Q (.str d.shown) H) :
    wpAny (model X.prog X.w) X.A (call (.builtin "repr") [u]) (EP X pins σ Q) X.xe s := by
  obtain ⟨as, r⟩ := Dp.reads I _ _ _ dp rx
  have fin : ∀ t s', (L2.Inv X pins σ H s') → EP X pins σ Q (.str d.shown t) s' := fun t s' I' => ⟨.str d.shown, H, I', ⟨_, rfl⟩, q⟩
  have far : ∀ a, u = .ref a → wpAny (model X.prog X.w) X.A (call (.builtin "repr") [u]) (EP X pins σ Q) X.xe s := fun a e => by
    subst e
    exact repr_of_reads' r hs (fun z => by rw [hd] at z; cases z) hgd (by omega) (fun _ _ e => e) (fun h' t tk hk => fin _ _ (I.kept hk)) (hsz := hz)
  cases dp with
  | non => cases rx; exact PySem.P.repr_of_none (fin _ _ (I.tok _))
  | bl b =>
    cases rx
    refine PySem.P.repr_of_bool ?_
    simp only [PyData.shown] at fin
    exact fin _ _ (I.tok _)
  | int i =>
    obtain ⟨t, rfl⟩ := rx
    simp only [PyData.shown] at fin
    exact PySem.P.repr_of_int (by simpa [PyData.showable] using hs) (fin _ _ (I.tok _))
  | str x =>
    obtain ⟨t, rfl⟩ := rx
    simp only [PyData.shown] at fin hz
    exact PySem.P.repr_of_str (fin _ _ (I.tok _)) (hsz := hz)
  | lst _ _ => exact far _ rx
  | tup _ _ => exact far _ rx
mutual
theorem good_nodict : ∀ (n : Nat) (d : D), good n d = true → d.py.hasDict = false
  | _, .non, _ => rfl
  | _, .bl b, _ => rfl
  | _, .int i, _ => rfl
  | _, .str s, _ => rfl
  | 0, .lst xs, q => by simp [good] at q
  | 0, .tup xs, q => by simp [good] at q
  | n + 1, .lst xs, q => by simpa only [D.py, PyData.hasDict] using goodL_nodict n xs (by simpa only [good] using q)
  | n + 1, .tup xs, q => by simpa only [D.py, PyData.hasDict] using goodL_nodict n xs (by simpa only [good] using q)
  | _, .dct _ _, q => by simp [good] at q
  | _, .st _, q => by simp [good] at q
  | _, .scr _, q => by simp [good] at q
theorem goodL_nodict : ∀ (n : Nat) (ds : List D), goodL n ds = true → PyData.hasDictAll (pyL ds) = false
  | _, [], _ => rfl
  | n, x :: r, q => by
    simp only [goodL, Bool.and_eq_true] at q
    simp only [pyL, PyData.hasDictAll, good_nodict n x q.1, goodL_nodict n r q.2, Bool.or_self]
end
theorem bi_call (hK : W.K = X.K) (hc : X.calm = true) (hu : X.A.units + 200 < cLine) (hgd : X.A.guards = some []) {b : Bi} {f : Value} (hf : b.fn = some f) : CallR X f (rBi W b) := by
  intro pins s σ H xs us Q I rs h
  obtain ⟨g, ds, d, f', hr, e, w⟩ := h
  cases b <;> simp only [Bi.fn] at hf <;> try (cases hf)
  · -- len
    simp only [bi] at e
    unfold biLen at e
    split at e <;> try (cases e)
    · obtain ⟨v, rfl, h1⟩ := rr1 hr
      obtain ⟨a, vs, rfl, a1, a2⟩ := h1.lst f'
      exact call_len_seq pins s σ H _ us Q I rs ⟨a, vs, rfl, .inl (sqL_h a1), by rw [← a2.length]; exact w.int⟩
    · obtain ⟨v, rfl, h1⟩ := rr1 hr
      have h2 := h1.flat rfl
      simp only [RepD] at h2
      obtain ⟨a, rfl, a1⟩ := h2
      rw [hK] at a1
      exact call_len_seq pins s σ H _ us Q I rs ⟨a, _, rfl, .inl (sqL_sub f' a1), by rw [List.length_map]; exact w.int⟩
    · obtain ⟨v, rfl, h1⟩ := rr1 hr
      obtain ⟨a, vs, rfl, a1, a2⟩ := h1.tup f'
      rw [hK] at a1
      exact call_len_seq pins s σ H _ us Q I rs ⟨a, vs, rfl, .inr a1, by rw [← a2.length]; exact w.int⟩
    · obtain ⟨v, rfl, h1⟩ := rr1 hr
      have := h1.str; subst this
      split at e <;> try (cases e)
      rename_i hz
      exact call_len_str pins s σ H _ us Q I rs ⟨_, rfl, hz, w.int⟩
  · -- tuple
    simp only [bi] at e
    unfold biTuple at e
    split at e <;> try (cases e)
    · obtain ⟨v, rfl, h1⟩ := rr1 hr
      obtain ⟨a, vs, rfl, a1, a2⟩ := h1.lst f'
      exact call_tuple_of pins s σ H _ us Q I rs ⟨a, vs, rfl, .inl ⟨sqL_h a1, w.new_tup f' a2⟩⟩
    · obtain ⟨v, rfl, h1⟩ := rr1 hr
      have h2 := h1.flat rfl
      obtain ⟨a, vs, rfl, a1, a2⟩ := h1.tup f'
      rw [hK] at a1
      exact call_tuple_of pins s σ H _ us Q I rs ⟨a, vs, rfl, .inr ⟨a1, w.flat h2⟩⟩
  · -- list
    simp only [bi] at e
    unfold biList at e
    split at e <;> try (cases e)
    · obtain ⟨v, rfl, h1⟩ := rr1 hr
      obtain ⟨a, vs, rfl, a1, a2⟩ := h1.lst f'
      exact call_list_of pins s σ H _ us Q I rs ⟨a, vs, rfl, .inl (sqL_h a1), w.new_lst f' a2⟩
    · obtain ⟨v, rfl, h1⟩ := rr1 hr
      obtain ⟨a, vs, rfl, a1, a2⟩ := h1.tup f'
      rw [hK] at a1
      exact call_list_of pins s σ H _ us Q I rs ⟨a, vs, rfl, .inr a1, w.new_lst f' a2⟩
  · -- max
    simp only [bi] at e
    unfold biMax at e
    split at e <;> try (cases e)
    obtain ⟨v, u, rfl, h1, h2⟩ := rr2 hr
    have e1 := h1.int; have e2 := h2.int; subst e1 e2
    exact call_max2 hc pins s σ H _ us Q I rs ⟨_, _, rfl, w.int⟩
  · -- min
    simp only [bi] at e
    unfold biMin at e
    split at e <;> try (cases e)
    obtain ⟨v, u, rfl, h1, h2⟩ := rr2 hr
    have e1 := h1.int; have e2 := h2.int; subst e1 e2
    exact call_min2 hc pins s σ H _ us Q I rs ⟨_, _, rfl, w.int⟩
  · -- abs
    simp only [bi] at e
    unfold biAbs at e
    split at e <;> try (cases e)
    obtain ⟨v, rfl, h1⟩ := rr1 hr
    have e1 := h1.int; subst e1
    exact call_abs pins s σ H _ us Q I rs ⟨_, rfl, w.int⟩
  · -- int
    simp only [bi] at e
    unfold biInt at e
    split at e <;> try (cases e)
    · obtain ⟨v, rfl, h1⟩ := rr1 hr
      have e1 := h1.int; subst e1
      exact call_int1 pins s σ H _ us Q I rs (.inl ⟨_, rfl, w.int⟩)
    · obtain ⟨v, rfl, h1⟩ := rr1 hr
      have e1 := h1.bl; subst e1
      exact call_int1 pins s σ H _ us Q I rs (.inr ⟨_, rfl, w.int⟩)
    · obtain ⟨v, rfl, h1⟩ := rr1 hr
      have e1 := h1.str; subst e1
      split at e
      · rename_i hz
        split at e <;> try (cases e)
        rename_i n en
        exact call_int_str pins s σ H _ us Q I rs ⟨_, n, rfl, en, hz, w.int⟩
      · cases e
  · -- str
    simp only [bi] at e
    unfold biStr at e
    split at e <;> try (cases e)
    obtain ⟨v, rfl, h1⟩ := rr1 hr
    have e1 := h1.int; subst e1
    split at e <;> try (cases e)
    rename_i hz
    exact call_str_int pins s σ H _ us Q I rs ⟨_, rfl, hz, w.str⟩
  · -- repr
    simp only [bi] at e
    unfold biRepr at e
    split at e <;> try (cases e)
    obtain ⟨v, rfl, h1⟩ := rr1 hr
    unfold reprD at e
    split at e <;> try (cases e)
    rename_i dd hh
    simp only [Bool.and_eq_true, decide_eq_true_eq] at hh
    obtain ⟨u, rfl, ru⟩ := vals1 rs
    have dp : Dp X.K H v dd.py := by rw [← hK]; exact h1.dp f' hh.1.1
    exact repr_data hu hgd I ru dp hh.1.2 (good_nodict 60 dd hh.1.1) hh.2 (good_plain 60 dd hh.1.1).2 w.str
  · -- all
    simp only [bi] at e
    unfold biAll at e
    split at e <;> try (cases e)
    obtain ⟨v, rfl, h1⟩ := rr1 hr
    obtain ⟨a, vs, rfl, a1, a2⟩ := h1.lst f'
    split at e <;> try (cases e)
    rename_i l el
    have ev := blsOf_rep el a2
    subst ev
    exact cr_all hc pins s σ H _ us Q I rs ⟨a, l, rfl, sqL_h a1, w.bl⟩
  · -- any
    simp only [bi] at e
    unfold biAny at e
    split at e <;> try (cases e)
    obtain ⟨v, rfl, h1⟩ := rr1 hr
    obtain ⟨a, vs, rfl, a1, a2⟩ := h1.lst f'
    split at e <;> try (cases e)
    rename_i l el
    have ev := blsOf_rep el a2
    subst ev
    exact cr_any hc pins s σ H _ us Q I rs ⟨a, l, rfl, sqL_h a1, w.bl⟩
/-! ### methods of texts -/
def rMt (W : Wd) (b : Bi) : V → List V → Hp → VK → Prop := fun x xs H Q => rBi W b (x :: xs) H Q
theorem mt_splitD : MtR X "str.split" (rMt W .split) := by
  intro pins s σ H x xs v us Q I rx rs h
  obtain ⟨g, ds, d, f', hr, e, w⟩ := h
  simp only [bi] at e
  unfold biSplit at e
  split at e <;> try (cases e)
  obtain ⟨v1, v2, e1, h1, h2⟩ := rr2 hr
  simp only [List.cons.injEq] at e1
  obtain ⟨rfl, rfl⟩ := e1
  have e1 := h1.str; have e2 := h2.str; subst e1 e2
  split at e <;> try (cases e)
  rename_i hz
  exact mt_split pins s σ H _ _ v us Q I rx rs ⟨_, _, rfl, rfl, by simpa using hz.1, hz.2, w.new_lst f' (strs_rep _)⟩
theorem mt_joinD : MtR X "str.join" (rMt W .join) := by
  intro pins s σ H x xs v us Q I rx rs h
  obtain ⟨g, ds, d, f', hr, e, w⟩ := h
  simp only [bi] at e
  unfold biJoin at e
  split at e <;> try (cases e)
  obtain ⟨v1, v2, e1, h1, h2⟩ := rr2 hr
  simp only [List.cons.injEq] at e1
  obtain ⟨rfl, rfl⟩ := e1
  have e1 := h1.str; subst e1
  obtain ⟨a, vs, rfl, a1, a2⟩ := h2.lst f'
  split at e <;> try (cases e)
  rename_i l el
  split at e <;> try (cases e)
  rename_i hz
  have ev := strsOf_rep el a2
  subst ev
  exact mt_join pins s σ H _ _ v us Q I rx rs ⟨_, a, l, rfl, rfl, .inl (sqL_h a1), hz, w.str⟩
theorem keyEq_key {a d : D} (h : keyEq a d = true) : isKey d = true := by
  cases a <;> cases d <;> simp_all [keyEq, isKey]
theorem look_key : ∀ {ks vs : List D} {d d' : D}, look d ks vs = some d' → isKey d = true
  | [], _, _, _, e => by simp [look] at e
  | _ :: _, [], _, _, e => by simp [look] at e
  | a :: ks, v :: vs, d, d', e => by
    simp only [look] at e
    split at e
    · rename_i h
      exact keyEq_key h
    · exact look_key e
/-! ### subscripts -/
def rIdx (W : Wd) : R2 := fun x y H Q => ∃ g dx dy d, hF g H ∧ RepR W g H (.d dx) x ∧ RepR W g H (.d dy) y ∧ idxD dx dy = some d ∧ Wish W g H (.d d) Q
theorem atI_rep {F : Hp} {μ : Addr} {mid : Nat} {ds : List D} {vs : List V} {i : Int} {d : D} (h : RepDs W F μ mid ds vs) (e : L2.atI ds i = some d) : ∃ v, L2.atI vs i = some v ∧ RepD W F μ mid d v := by
  unfold L2.atI at e ⊢
  rw [h.length] at e
  cases q : ixN vs.length i with
  | none => rw [q] at e; cases e
  | some j =>
    rw [q] at e
    exact h.get e
theorem ix_data (hK : W.K = X.K) (hu : X.A.units + 200 < cLine) : IxR X (rIdx W) := by
  intro value slice pins s σ H x y v u Q I rx ry h hs
  obtain ⟨g, dx, dy, d, f, h1, h2, e, w⟩ := h
  unfold idxD at e
  split at e
  · obtain ⟨a, vs, rfl, a1, a2⟩ := h1.lst f
    have e2 := h2.int; subst e2
    obtain ⟨z, ez, rz⟩ := atI_rep a2 e
    exact ix_list value slice pins s σ H _ _ v u Q I rx ry ⟨a, vs, _, z, rfl, rfl, sqL_h a1, ez, w.flat rz⟩ hs
  · obtain ⟨a, vs, rfl, a1, a2⟩ := h1.tup f
    rw [hK] at a1
    have e2 := h2.int; subst e2
    obtain ⟨z, ez, rz⟩ := atI_rep a2 e
    exact ix_tup value slice pins s σ H _ _ v u Q I rx ry ⟨a, vs, _, z, rfl, rfl, a1, ez, w.flat rz⟩ hs
  · have e1 := h1.str; have e2 := h2.int; subst e1 e2
    split at e <;> try (cases e)
    rename_i hz
    split at e <;> try (cases e)
    rename_i c ec
    exact ix_str value slice pins s σ H _ _ v u Q I rx ry ⟨_, _, c, rfl, rfl, hz, ec, w.str⟩ hs
  · rename_i ks vs
    obtain ⟨a, kvs, rfl, a1, a2, a3⟩ := h1.dct f
    have hk := look_key e
    obtain ⟨k, e1, e2⟩ := key_is hk h2
    subst e1 e2
    have hl := look_val k a2 a3
    rw [e] at hl
    obtain ⟨z, ez, rz⟩ := hl
    obtain rfl : v = Value.ref a := rx
    have td : s.TypeIs (.ref a) "dict" := by
      obtain ⟨_, _, vs', _, o, es, ep, q1, q2, _⟩ := I.hok a _ a1
      exact ⟨o, q1, q2.1⟩
    refine tail_any td F.slot_dict_getitem.lookup ?_ hs
    exact d_getItem (by omega) I (by rw [← ez]; exact DGet.k a1) ry fun w' s' I' r' => ⟨z, H, I', r', w.flat rz⟩
  · cases e
/-! ### slices -/
def rSlc (W : Wd) : V → Option Int → Option Int → Hp → VK → Prop := fun x lo hi H Q => ∃ g dx d, hF g H ∧ RepR W g H dx x ∧ slcV lo hi dx = some d ∧ Wish W g H d Q
theorem sl_data (hK : W.K = X.K) : L2.SlR X (rSlc W) := by
  intro pins s σ H x v vl vu lo hi sl Q I rx hsl pl pu h
  obtain ⟨g, dx, d, f, h1, e, w⟩ := h
  cases dx with
  | c _ _ => simp [slcV] at e
  | l xs =>
    simp only [slcV, Option.some.injEq] at e
    subst e
    obtain ⟨a, vs, rfl, a1, a2⟩ := h1.l f
    exact sl_list pins s σ H _ v vl vu lo hi sl Q I rx hsl pl pu ⟨a, vs, rfl, sqL_h a1, w.new_l f (a2.cut lo hi)⟩
  | d dx =>
    simp only [slcV] at e
    split at e <;> try (cases e)
    rename_i z ez
    unfold slcD at ez
    split at ez <;> try (cases ez)
    · obtain ⟨a, vs, rfl, a1, a2⟩ := h1.lst f
      exact sl_list pins s σ H _ v vl vu lo hi sl Q I rx hsl pl pu ⟨a, vs, rfl, sqL_h a1, w.new_lst f (a2.cut lo hi)⟩
    · rename_i xs
      have h2 := h1.flat rfl
      obtain ⟨a, vs, rfl, a1, a2⟩ := h1.tup f
      rw [hK] at a1
      refine sl_tupA pins s σ H _ v vl vu lo hi sl Q I rx hsl pl pu ⟨a, vs, rfl, a1, fun q => ?_, fun _ => w.new_tup f (a2.cut lo hi)⟩
      have ew : cutL xs lo hi = xs := by
        unfold cutL
        rw [a2.length, q.1, q.2, List.drop_zero, Nat.sub_zero, ← a2.length, List.take_length]
      rw [ew] at w
      exact w.flat h2
    · have e1 := h1.str; subst e1
      split at ez <;> try (cases ez)
      rename_i hz
      exact sl_str pins s σ H _ v vl vu lo hi sl Q I rx hsl pl pu ⟨_, rfl, hz, w.str⟩
    · rename_i ns
      have h2 := h1.flat rfl
      simp only [RepD] at h2
      obtain ⟨a, rfl, a1⟩ := h2
      have a2 : SqL X.K H a (ns.map V.int) := by rw [← hK]; exact sqL_sub f a1
      refine sl_list pins s σ H _ v vl vu lo hi sl Q I rx hsl pl pu ⟨a, _, rfl, a2, w.new_lst f ?_⟩
      have e2 : cutV (ns.map V.int) lo hi = (cutL ns lo hi).map V.int := by
        unfold cutV cutL
        rw [List.length_map, List.map_take, List.map_drop]
      rw [e2]
      exact ints_rep _
end Di
end
section
set_option Elab.async false
set_option linter.all false
set_option maxRecDepth 100000
set_option maxHeartbeats 2000000
/-! Di.E: expressions. -/
namespace Di
open PySem PySem.Spec PyProof.Rows L2 LamX NdefX
section
variable {W : Wd} {xc : Nat → Option XcA} {X : Cx} {g0 : G × Hp} {g g1 g' : G} {ρ : Env} {m m1 : MS} {σ : L2.St} {H H1 H' : Hp} {E : WX} {α β γ δ : Type}
theorem Post.ext {R : G → Hp → α → β → Prop} {Q : β → Hp → Prop} {o : Out α} (e : Ext g H g' H') (p : Post W xc g σ H R Q E o) : Post W xc g' σ H' R Q E o := by
  cases o with
  | ok a m' => exact fun b g2 H2 e2 => p b g2 H2 (e.trans e2)
  | ex c q m' => exact fun cls dd g2 H2 e2 => p cls dd g2 H2 (e.trans e2)
  | bad => exact p
theorem Post.mono {R : G → Hp → α → β → Prop} {Q Q' : β → Hp → Prop} {o : Out α} (p : Post W xc g σ H R Q E o) (h : ∀ b H, Q b H → Q' b H) : Post W xc g σ H R Q' E o := by
  cases o with
  | ok a m' => exact fun b g2 H2 e2 hs r => h _ _ (p b g2 H2 e2 hs r)
  | ex c q m' => exact p
  | bad => exact p
theorem Post.bind {R : G → Hp → α → β → Prop} {R' : G → Hp → γ → δ → Prop} {Q : δ → Hp → Prop} {c : M α} {f : α → M γ} (fs : FS W X g0 g ρ m σ H) (p : Post W xc g σ H R' Q E (M.bind c f m)) :
    Post W xc g σ H R (fun x H1 => ∃ g1 m1 a, FS W X g0 g1 ρ m1 σ H1 ∧ Ext g H g1 H1 ∧ R g1 H1 a x ∧ Post W xc g1 σ H1 R' Q E (f a m1)) E (c m) := by
  unfold M.bind at p
  cases h : c m with
  | ok a m1 =>
    rw [h] at p
    exact fun b g1 H1 e hs r => ⟨g1, m1, a, fs.step e hs, e, r, Post.ext e p⟩
  | ex k q m1 => rw [h] at p; exact p
  | bad => rw [h] at p; exact p
theorem Post.at {R : G → Hp → α → β → Prop} {Q : β → Hp → Prop} {a : α} {b : β} (p : Post W xc g σ H R Q E (.ok a m)) (fs : FS W X g0 g ρ m σ H) (r : R g H a b) : Q b H := p b g H (Ext.refl g H) fs.hs r
theorem Post.wish {x : Val} {Q : VK} (p : Post W xc g σ H (fun g _ x v => RepOV W ρ σ g x v) Q E (.ok (.v x) m)) (fs : FS W X g0 g ρ m σ H) : Wish W g H x Q := fun v g' H' e r => p v g' H' e.ext (e.hs m fs.hs) r
theorem RepOV.ext {x : OV} {v : V} (e : Ext g H g' H') (r : RepOV W ρ σ g x v) : RepOV W ρ σ g' x v := by
  cases x with
  | v x => exact RepV.ext e r
  | o i => exact r
theorem RepOV.rr {x : OV} {v : V} {d : Val} (fs : FS W X g0 g ρ m σ H) (r : RepOV W ρ σ g x v) (h : x.r ρ = some d) : RepR W g H d v := by
  cases x with
  | v x =>
    simp only [OV.r, Option.some.injEq] at h
    subst h
    exact .inl r
  | o i =>
    obtain ⟨r1, y, r2⟩ := r
    rcases r2 with r2 | r2
    · simp only [OV.r, r2, Option.some.injEq] at h
      subst h
      obtain ⟨a, e, _, _, h3⟩ := fs.env i _ r2
      rw [e] at r1; cases r1
      exact .inr ⟨a, rfl, h3⟩
    · simp only [OV.r, r2, Option.some.injEq] at h
      subst h
      obtain ⟨a, e, _, _, h3⟩ := fs.env i _ r2
      rw [e] at r1; cases r1
      exact .inr ⟨a, rfl, h3⟩
theorem OV.d_r {x : OV} {d : D} (h : x.d ρ = some d) : x.r ρ = some (.d d) := by
  unfold OV.d at h
  split at h
  · cases h; assumption
  · cases h
theorem RepOV.rd {x : OV} {v : V} {d : D} (fs : FS W X g0 g ρ m σ H) (r : RepOV W ρ σ g x v) (h : x.d ρ = some d) : RepR W g H (.d d) v := r.rr fs (OV.d_r h)
theorem FS.hF (fs : FS W X g0 g ρ m σ H) : hF g H := fs.hs.sub
theorem paired_ext {xs : List OV} {vs : List V} (e : Ext g H g' H') (r : Paired (fun x v => RepOV W ρ σ g x v) xs vs) : Paired (fun x v => RepOV W ρ σ g' x v) xs vs := by
  induction r with
  | nil => exact .nil
  | cons h _ ih => exact .cons (h.ext e) ih
theorem vals_rep : ∀ {xs : List OV} {vs : List V} {ws : List Val}, Paired (fun x v => RepOV W ρ σ g x v) xs vs → vals xs = some ws → RepVs W g ws vs
  | [], _, ws, .nil, e => by simp only [vals, Option.some.injEq] at e; subst e; exact RepVs.nil
  | .v x :: r, _, ws, .cons h t, e => by
    simp only [vals] at e
    split at e
    · cases e
    · rename_i ds ed
      cases e
      exact RepVs.cons h (vals_rep t ed)
  | .o _ :: r, _, ws, .cons h t, e => by simp only [vals] at e; cases e
theorem derefs_rep (fs : FS W X g0 g ρ m σ H) : ∀ {xs : List OV} {vs : List V} {ds : List D}, Paired (fun x v => RepOV W ρ σ g x v) xs vs → derefs ρ xs = some ds → RepRs W g H ds vs
  | [], _, ws, .nil, e => by simp only [derefs, Option.some.injEq] at e; subst e; exact .nil
  | x :: r, _, ws, .cons h t, e => by
    simp only [derefs] at e
    split at e
    · cases e
    · rename_i d ed
      split at e
      · cases e
      · rename_i ds es
        cases e
        exact .cons (h.rd fs ed) (derefs_rep fs t es)
theorem Post.ofO {R : G → Hp → α → β → Prop} {Q : β → Hp → Prop} {o : Option α} (p : Post W xc g σ H R Q E (Di.ofO o m)) : ∃ a, o = some a ∧ Post W xc g σ H R Q E (.ok a m) := by
  cases o with
  | none => exact p.elim
  | some a => exact ⟨a, rfl, p⟩
theorem Post.bofO {R : G → Hp → α → β → Prop} {Q : β → Hp → Prop} {o : Option γ} {f : γ → M α} (p : Post W xc g σ H R Q E (M.bind (Di.ofO o) f m)) : ∃ a, o = some a ∧ Post W xc g σ H R Q E (f a m) := by
  cases o with
  | none => exact p.elim
  | some a => exact ⟨a, rfl, p⟩
end
theorem pe_weak {X : Cx} {e : Expr} {t t' : TE} (h : PE X e t) (k : ∀ σ H Q, t' σ H Q → t σ H Q) : PE X e t' := ⟨fun pins s σ H Q I q => h.run pins s σ H Q I (k σ H Q q)⟩
theorem pt_weak {X : Cx} {e : Expr} {t t' : TT} (h : PT X e t) (k : ∀ σ H Q, t' σ H Q → t σ H Q) : PT X e t' := ⟨fun pins s σ H Q I q => h.run pins s σ H Q I (k σ H Q q)⟩
theorem pw_weak {X : Cx} {e : Expr} {t t' : TT} (h : PW X e t) (k : ∀ σ H Q, t' σ H Q → t σ H Q) : PW X e t' := ⟨fun wh pins s σ H Q I q => h.run wh pins s σ H Q I (k σ H Q q)⟩
theorem pa_weak {X : Cx} {e : List Expr} {t t' : TA} (h : PA X e t) (k : ∀ σ H Q, t' σ H Q → t σ H Q) : PA X e t' := ⟨fun pos pins s σ H Q I q => h.run pos pins s σ H Q I (k σ H Q q)⟩
/-- what a frame must have -/
structure XW (W : Wd) (X : Cx) : Prop where
  hK : W.K = X.K
  hc : X.calm = true
  hu : X.A.units + 200 < cLine
  hg : X.A.guards = some []
abbrev TV (W : Wd) (xc : Nat → Option XcA) (X : Cx) (g0 : G × Hp) (E : WX) (c : Env → M OV) : TE := tI W xc X g0 E (fun ρ σ g _ x v => RepOV W ρ σ g x v) c
abbrev TBo (W : Wd) (xc : Nat → Option XcA) (X : Cx) (g0 : G × Hp) (E : WX) (c : Env → M Bool) : TT := tI W xc X g0 E (fun _ _ _ _ b b' => b' = b) c
abbrev TLs (W : Wd) (xc : Nat → Option XcA) (X : Cx) (g0 : G × Hp) (E : WX) (c : Env → M (List OV)) : TA := tI W xc X g0 E (fun ρ σ g _ xs vs => Paired (fun x v => RepOV W ρ σ g x v) xs vs) c
abbrev TOp (W : Wd) (xc : Nat → Option XcA) (X : Cx) (g0 : G × Hp) (E : WX) (c : Env → M (Option Int)) : TO := tI W xc X g0 E (fun _ _ _ _ b b' => b' = b) c
section
variable {W : Wd} {xc : Nat → Option XcA} {X : Cx} {g0 : G × Hp} {E : WX} {ea eb ec : Expr} {ca cb cc : Env → M OV} {pos : Pos}
/-! ### names, constants -/
theorem pe_dloc {i : Nat} {x : Str} (hN : X.N[i]? = some x) (hv : Vis X.env.scope x) (hd : (x == ("__debug__" : Str)) = false) (hcd : (x == ("__classdict__" : Str)) = false) :
    PE X (.Name x pos) (TV W xc X g0 E fun ρ => ofO (locO ρ i)) :=
  pe_weak (pe_var hN hv hd hcd) fun σ H Q ⟨g, ρ, m, fs, p⟩ => by
    obtain ⟨x, e, p⟩ := p.ofO
    unfold locO at e
    split at e
    · rename_i d ed
      cases e
      obtain ⟨w, e1, h1⟩ := fs.env i _ ed
      exact ⟨w, slot_some e1, p.at fs (b := w) h1⟩
    · rename_i d ed
      cases e
      obtain ⟨a, e1, _⟩ := fs.env i _ ed
      exact ⟨.ref a, slot_some e1, p.at fs (b := V.ref a) ⟨e1, d, .inl ed⟩⟩
    · rename_i d ed
      cases e
      obtain ⟨a, e1, _⟩ := fs.env i _ ed
      exact ⟨.ref a, slot_some e1, p.at fs (b := V.ref a) ⟨e1, d, .inr ed⟩⟩
    · cases e
theorem pe_dconst {v : V} {d : D} (h : PE X ea (tC v)) (hr : ∀ F μ mid, RepD W F μ mid d v) : PE X ea (TV W xc X g0 E fun _ => ret1 (.v (.d d))) :=
  pe_weak h fun σ H Q ⟨g, ρ, m, fs, p⟩ => p.at fs (b := v) (by simpa only [RepOV, RepV] using hr g.F g.μ g.mid)
/-! ### operators -/
theorem pe_dop (xw : XW W X) {o : Op2} (ha : PE X ea (TV W xc X g0 E ca)) (hb : PE X eb (TV W xc X g0 E cb)) :
    PE X (.BinOp ea o.py eb pos) (TV W xc X g0 E fun ρ => M.bind (ca ρ) fun x => M.bind (cb ρ) fun y => ofO (opO ρ o x y)) :=
  pe_weak (pe_op (op2_data xw.hK o) ha hb) fun σ H Q ⟨g, ρ, m, fs, p⟩ => by
    refine ⟨g, ρ, m, fs, (p.bind fs).mono fun x H1 ⟨g1, m1, a, fs1, e1, r1, p1⟩ => ⟨g1, ρ, m1, fs1, (p1.bind fs1).mono fun y H2 ⟨g2, m2, b, fs2, e2, r2, p2⟩ => ?_⟩⟩
    have r1' := r1.ext e2
    obtain ⟨z, e, p2⟩ := p2.ofO
    unfold opO at e
    split at e <;> try (cases e)
    rename_i dx ex
    split at e <;> try (cases e)
    rename_i dy ey
    split at e <;> try (cases e)
    rename_i d ed
    exact ⟨g2, dx, dy, d, fs2.hF, r1'.rr fs2 ex, r2.rr fs2 ey, ed, p2.wish fs2⟩
theorem pe_dneg (ha : PE X ea (TV W xc X g0 E ca)) : PE X (.UnaryOp .USub ea pos) (TV W xc X g0 E fun ρ => M.bind (ca ρ) fun x => ofO (negO x)) :=
  pe_weak (pe_un un_neg ha) fun σ H Q ⟨g, ρ, m, fs, p⟩ => by
    refine ⟨g, ρ, m, fs, (p.bind fs).mono fun x H1 ⟨g1, m1, a, fs1, e1, r1, p1⟩ => ?_⟩
    obtain ⟨z, e, p1⟩ := p1.ofO
    unfold negO at e
    split at e <;> try (cases e)
    simp only [RepOV, RepV, RepD] at r1
    exact ⟨_, r1, p1.at fs1 (b := V.int _) (by simp only [RepOV, RepV, RepD])⟩
theorem asBl_rep {ρ : Env} {σ : L2.St} {g : G} {x : OV} {v : V} {b : Bool} (r : RepOV W ρ σ g x v) (h : asBl x = some b) : v = .bl b := by
  unfold asBl at h
  split at h
  · cases h
    simpa only [RepOV, RepV, RepD] using r
  · cases h
theorem pe_dnot (ha : PE X ea (TV W xc X g0 E ca)) : PE X (.UnaryOp .Not ea pos) (TV W xc X g0 E fun ρ => M.bind (ca ρ) fun x => ofO (notO x)) :=
  pe_weak (pe_not ha) fun σ H Q ⟨g, ρ, m, fs, p⟩ => by
    refine ⟨g, ρ, m, fs, (p.bind fs).mono fun x H1 ⟨g1, m1, a, fs1, e1, r1, p1⟩ => ?_⟩
    obtain ⟨z, e, p1⟩ := p1.ofO
    unfold notO at e
    split at e <;> try (cases e)
    rename_i b eb
    exact ⟨b, asBl_rep r1 eb, p1.at fs1 (b := V.bl _) (by simp only [RepOV, RepV, RepD])⟩
theorem cmpB_rep {ρ : Env} {σ : L2.St} {g : G} {m : MS} {H : Hp} {o : Cmp} {x y : OV} {v w : V} {t : Bool} {Q : VK} (fs : FS W X g0 g ρ m σ H) (r1 : RepOV W ρ σ g x v) (r2 : RepOV W ρ σ g y w) (e : cmpB ρ o x y = some t) (q : Q (.bl t) H) : rCmp W o v w H Q := by
  unfold cmpB at e
  split at e <;> try (cases e)
  rename_i dx ex
  split at e <;> try (cases e)
  rename_i dy ey
  exact ⟨g, dx, dy, t, fs.hF, r1.rd fs ex, r2.rd fs ey, e, q⟩
theorem pe_dcmp (xw : XW W X) {o : Cmp} (ha : PE X ea (TV W xc X g0 E ca)) (hb : PE X eb (TV W xc X g0 E cb)) (hm : behindInMarks o.py eb = false) :
    PE X (.Compare ea [o.py] [eb] pos) (TV W xc X g0 E fun ρ => M.bind (ca ρ) fun x => M.bind (cb ρ) fun y => M.bind (ofO (cmpB ρ o x y)) fun t => ret1 (.v (.d (.bl t)))) :=
  pe_weak (pe_cmpR (cmp_data xw.hK xw.hu o) ha hb hm) fun σ H Q ⟨g, ρ, m, fs, p⟩ => by
    refine ⟨g, ρ, m, fs, (p.bind fs).mono fun x H1 ⟨g1, m1, a, fs1, e1, r1, p1⟩ => ⟨g1, ρ, m1, fs1, (p1.bind fs1).mono fun y H2 ⟨g2, m2, b, fs2, e2, r2, p2⟩ => ?_⟩⟩
    obtain ⟨t, e, p2⟩ := p2.bofO
    exact cmpB_rep fs2 (r1.ext e2) r2 e (p2.at fs2 (b := V.bl _) (by simp only [RepOV, RepV, RepD]))
/-- a test of a comparison -/
theorem pt_dcmp (xw : XW W X) {o : Cmp} (ha : PE X ea (TV W xc X g0 E ca)) (hb : PE X eb (TV W xc X g0 E cb)) (hm : behindInMarks o.py eb = false) :
    PT X (.Compare ea [o.py] [eb] pos) (TBo W xc X g0 E fun ρ => M.bind (ca ρ) fun x => M.bind (cb ρ) fun y => ofO (cmpB ρ o x y)) :=
  pt_weak (pt_cmpR (cmp_data xw.hK xw.hu o) ha hb hm) fun σ H Q ⟨g, ρ, m, fs, p⟩ => by
    refine ⟨g, ρ, m, fs, (p.bind fs).mono fun x H1 ⟨g1, m1, a, fs1, e1, r1, p1⟩ => ⟨g1, ρ, m1, fs1, (p1.bind fs1).mono fun y H2 ⟨g2, m2, b, fs2, e2, r2, p2⟩ => ?_⟩⟩
    obtain ⟨t, e, p2⟩ := p2.ofO
    exact cmpB_rep fs2 (r1.ext e2) r2 e ⟨t, rfl, p2.at fs2 (b := t) rfl⟩
theorem pe_dchain (xw : XW W X) {o o' : Cmp} (ha : PE X ea (TV W xc X g0 E ca)) (hb : PE X eb (TV W xc X g0 E cb)) (hc : PE X ec (TV W xc X g0 E cc)) (hm : lastMarks [o.py, o'.py] [eb, ec] = false) :
    PE X (.Compare ea [o.py, o'.py] [eb, ec] pos) (TV W xc X g0 E fun ρ => M.bind (ca ρ) fun x => M.bind (cb ρ) fun y => M.bind (ofO (cmpB ρ o x y)) fun t =>
      if t then M.bind (cc ρ) fun z => M.bind (ofO (cmpB ρ o' y z)) fun t' => ret1 (.v (.d (.bl t'))) else ret1 (.v (.d (.bl false)))) :=
  pe_weak (pe_chain (cmp_data xw.hK xw.hu o) (cmp_data xw.hK xw.hu o') ha hb hc hm) fun σ H Q ⟨g, ρ, m, fs, p⟩ => by
    refine ⟨g, ρ, m, fs, (p.bind fs).mono fun x H1 ⟨g1, m1, a, fs1, e1, r1, p1⟩ => ⟨g1, ρ, m1, fs1, (p1.bind fs1).mono fun y H2 ⟨g2, m2, b, fs2, e2, r2, p2⟩ => ?_⟩⟩
    obtain ⟨t, e, p2⟩ := p2.bofO
    refine cmpB_rep fs2 (r1.ext e2) r2 e ⟨t, rfl, ?_⟩
    cases t with
    | true =>
      rw [if_pos rfl]
      refine ⟨g2, ρ, m2, fs2, (p2.bind fs2).mono fun z H3 ⟨g3, m3, c, fs3, e3, r3, p3⟩ => ?_⟩
      obtain ⟨t', e', p3⟩ := p3.bofO
      exact cmpB_rep fs3 (r2.ext e3) r3 e' (p3.at fs3 (b := V.bl _) (by simp only [RepOV, RepV, RepD]))
    | false =>
      rw [if_neg Bool.false_ne_true]
      exact p2.at fs2 (b := V.bl _) (by simp only [RepOV, RepV, RepD])
theorem pt_dchain (xw : XW W X) {o o' : Cmp} (ha : PE X ea (TV W xc X g0 E ca)) (hb : PE X eb (TV W xc X g0 E cb)) (hc : PE X ec (TV W xc X g0 E cc)) (hm : lastMarks [o.py, o'.py] [eb, ec] = false) :
    PT X (.Compare ea [o.py, o'.py] [eb, ec] pos) (TBo W xc X g0 E fun ρ => M.bind (ca ρ) fun x => M.bind (cb ρ) fun y => M.bind (ofO (cmpB ρ o x y)) fun t =>
      if t then M.bind (cc ρ) fun z => ofO (cmpB ρ o' y z) else ret1 false) :=
  pt_weak (pt_chain (cmp_data xw.hK xw.hu o) (cmp_data xw.hK xw.hu o') ha hb hc hm) fun σ H Q ⟨g, ρ, m, fs, p⟩ => by
    refine ⟨g, ρ, m, fs, (p.bind fs).mono fun x H1 ⟨g1, m1, a, fs1, e1, r1, p1⟩ => ⟨g1, ρ, m1, fs1, (p1.bind fs1).mono fun y H2 ⟨g2, m2, b, fs2, e2, r2, p2⟩ => ?_⟩⟩
    obtain ⟨t, e, p2⟩ := p2.bofO
    refine cmpB_rep fs2 (r1.ext e2) r2 e ⟨t, rfl, ?_⟩
    cases t with
    | true =>
      rw [if_pos rfl]
      refine ⟨g2, ρ, m2, fs2, (p2.bind fs2).mono fun z H3 ⟨g3, m3, c, fs3, e3, r3, p3⟩ => ?_⟩
      obtain ⟨t', e', p3⟩ := p3.ofO
      exact cmpB_rep fs3 (r2.ext e3) r3 e' ⟨t', rfl, p3.at fs3 (b := t') rfl⟩
    | false =>
      rw [if_neg Bool.false_ne_true]
      exact ⟨false, rfl, p2.at fs2 (b := false) rfl⟩
/-! ### and, or, if -/
variable {rest : List Expr}
theorem pe_dand (ha : PE X ea (TV W xc X g0 E ca)) (hb : PE X (.BoolOp .And (eb :: rest) pos) (TV W xc X g0 E cb)) :
    PE X (.BoolOp .And (ea :: eb :: rest) pos) (TV W xc X g0 E fun ρ => M.bind (ca ρ) fun x => M.bind (ofO (asBl x)) fun t => if t then cb ρ else ret1 (.v (.d (.bl false)))) :=
  pe_weak (pe_and ha hb) fun σ H Q ⟨g, ρ, m, fs, p⟩ => by
    refine ⟨g, ρ, m, fs, (p.bind fs).mono fun x H1 ⟨g1, m1, a, fs1, e1, r1, p1⟩ => ?_⟩
    obtain ⟨t, e, p1⟩ := p1.bofO
    refine ⟨t, asBl_rep r1 e, ?_⟩
    cases t with
    | true => rw [if_pos rfl]; exact ⟨g1, ρ, m1, fs1, p1⟩
    | false => rw [if_neg Bool.false_ne_true]; exact p1.at fs1 (b := V.bl _) (by simp only [RepOV, RepV, RepD])
theorem pe_dor (ha : PE X ea (TV W xc X g0 E ca)) (hb : PE X (.BoolOp .Or (eb :: rest) pos) (TV W xc X g0 E cb)) :
    PE X (.BoolOp .Or (ea :: eb :: rest) pos) (TV W xc X g0 E fun ρ => M.bind (ca ρ) fun x => M.bind (ofO (asBl x)) fun t => if t then ret1 (.v (.d (.bl true))) else cb ρ) :=
  pe_weak (pe_or ha hb) fun σ H Q ⟨g, ρ, m, fs, p⟩ => by
    refine ⟨g, ρ, m, fs, (p.bind fs).mono fun x H1 ⟨g1, m1, a, fs1, e1, r1, p1⟩ => ?_⟩
    obtain ⟨t, e, p1⟩ := p1.bofO
    refine ⟨t, asBl_rep r1 e, ?_⟩
    cases t with
    | true => rw [if_pos rfl]; exact p1.at fs1 (b := V.bl _) (by simp only [RepOV, RepV, RepD])
    | false => rw [if_neg Bool.false_ne_true]; exact ⟨g1, ρ, m1, fs1, p1⟩
variable {ba bb bc : Env → M Bool}
theorem pw_dand (ha : PT X ea (TBo W xc X g0 E ba)) (hb : PW X (.BoolOp .And (eb :: rest) pos) (TBo W xc X g0 E bb)) :
    PW X (.BoolOp .And (ea :: eb :: rest) pos) (TBo W xc X g0 E fun ρ => M.bind (ba ρ) fun t => if t then bb ρ else ret1 false) :=
  pw_weak (pw_and ha hb) fun σ H Q ⟨g, ρ, m, fs, p⟩ => by
    refine ⟨g, ρ, m, fs, (p.bind fs).mono fun x H1 ⟨g1, m1, a, fs1, e1, r1, p1⟩ => ?_⟩
    cases r1
    cases x with
    | true => rw [if_pos rfl]; exact ⟨g1, ρ, m1, fs1, p1⟩
    | false => rw [if_neg Bool.false_ne_true]; exact p1.at fs1 (b := false) rfl
theorem pw_dor (ha : PT X ea (TBo W xc X g0 E ba)) (hb : PW X (.BoolOp .Or (eb :: rest) pos) (TBo W xc X g0 E bb)) :
    PW X (.BoolOp .Or (ea :: eb :: rest) pos) (TBo W xc X g0 E fun ρ => M.bind (ba ρ) fun t => if t then ret1 true else bb ρ) :=
  pw_weak (pw_or ha hb) fun σ H Q ⟨g, ρ, m, fs, p⟩ => by
    refine ⟨g, ρ, m, fs, (p.bind fs).mono fun x H1 ⟨g1, m1, a, fs1, e1, r1, p1⟩ => ?_⟩
    cases r1
    cases x with
    | true => rw [if_pos rfl]; exact p1.at fs1 (b := true) rfl
    | false => rw [if_neg Bool.false_ne_true]; exact ⟨g1, ρ, m1, fs1, p1⟩
theorem pt_dnot (ha : PT X ea (TBo W xc X g0 E ba)) : PT X (.UnaryOp .Not ea pos) (TBo W xc X g0 E fun ρ => M.bind (ba ρ) fun t => ret1 (!t)) :=
  pt_weak (pt_not ha) fun σ H Q ⟨g, ρ, m, fs, p⟩ => by
    refine ⟨g, ρ, m, fs, (p.bind fs).mono fun x H1 ⟨g1, m1, a, fs1, e1, r1, p1⟩ => ?_⟩
    cases r1
    exact p1.at fs1 (b := !x) rfl
theorem pe_dite (hc : PT X ec (TBo W xc X g0 E bc)) (ha : PE X ea (TV W xc X g0 E ca)) (hb : PE X eb (TV W xc X g0 E cb)) :
    PE X (.IfExp ec ea eb pos) (TV W xc X g0 E fun ρ => M.bind (bc ρ) fun t => if t then ca ρ else cb ρ) :=
  pe_weak (pe_ifExp hc ha hb) fun σ H Q ⟨g, ρ, m, fs, p⟩ => by
    refine ⟨g, ρ, m, fs, (p.bind fs).mono fun x H1 ⟨g1, m1, a, fs1, e1, r1, p1⟩ => ?_⟩
    cases r1
    cases x with
    | true => rw [if_pos rfl]; exact ⟨g1, ρ, m1, fs1, p1⟩
    | false => rw [if_neg Bool.false_ne_true]; exact ⟨g1, ρ, m1, fs1, p1⟩
/-- a value that is a bool, as a test -/
theorem pt_dval (ha : PE X ea (TV W xc X g0 E ca)) (he : ∀ whole, isTrue ea X.env whole = (do let v ← whole; standAt ea.pos; holding [v] (truthy v))) :
    PT X ea (TBo W xc X g0 E fun ρ => M.bind (ca ρ) fun x => ofO (asBl x)) :=
  pt_weak (pt_val ha he) fun σ H Q ⟨g, ρ, m, fs, p⟩ => by
    refine ⟨g, ρ, m, fs, (p.bind fs).mono fun x H1 ⟨g1, m1, a, fs1, e1, r1, p1⟩ => ?_⟩
    obtain ⟨t, e, p1⟩ := p1.ofO
    exact ⟨t, asBl_rep r1 e, p1.at fs1 (b := t) rfl⟩
/-! ### lists of expressions -/
variable {es : List Expr} {cs : Env → M (List OV)}
theorem pa_dnil : PA X [] (TLs W xc X g0 E fun _ => ret1 []) := pa_weak pa_nil fun σ H Q ⟨g, ρ, m, fs, p⟩ => p.at fs (b := []) .nil
theorem pa_dcons (ha : PE X ea (TV W xc X g0 E ca)) (hr : PA X es (TLs W xc X g0 E cs)) (hs : starEach (ea :: es) X.env = (false, eval ea X.env) :: starEach es X.env) :
    PA X (ea :: es) (TLs W xc X g0 E fun ρ => M.bind (ca ρ) fun x => M.bind (cs ρ) fun xs => ret1 (x :: xs)) :=
  pa_weak (pa_cons ha hr hs) fun σ H Q ⟨g, ρ, m, fs, p⟩ => by
    refine ⟨g, ρ, m, fs, (p.bind fs).mono fun x H1 ⟨g1, m1, a, fs1, e1, r1, p1⟩ => ⟨g1, ρ, m1, fs1, (p1.bind fs1).mono fun xs H2 ⟨g2, m2, b, fs2, e2, r2, p2⟩ => ?_⟩⟩
    exact p2.at fs2 (b := x :: xs) (.cons (r1.ext e2) r2)
theorem lstV_rep {g : G} {H : Hp} {ws : List Val} {vs : List V} {v : Val} {Q : VK} (f : hF g H) (r : RepVs W g ws vs) (e : lstV ws = some v) (w : Wish W g H v Q) : ∀ p, H p = none → Q (.ref p) (upd H p (.lst vs)) := by
  unfold lstV at e
  split at e
  · rename_i ds ed
    cases e
    have := datas_eq ed
    subst this
    exact w.new_lst f (RepVs.data.mp r)
  · split at e
    · cases e
      exact w.new_l f r
    · cases e
theorem pe_dtup {k : Nat} (h : PA X es (TLs W xc X g0 E cs)) : PE X (.Tuple es k pos) (TV W xc X g0 E fun ρ => M.bind (cs ρ) fun xs => ofO (tupO xs)) :=
  pe_weak (pe_tup h) fun σ H Q ⟨g, ρ, m, fs, p⟩ => by
    refine ⟨g, ρ, m, fs, (p.bind fs).mono fun vs H1 ⟨g1, m1, a, fs1, e1, r1, p1⟩ => ?_⟩
    obtain ⟨z, e, p1⟩ := p1.ofO
    unfold tupO at e
    split at e <;> try (cases e)
    rename_i ws ew
    split at e <;> try (cases e)
    rename_i ds ed
    split at e <;> try (cases e)
    rename_i hz
    have q := vals_rep r1 ew
    have := datas_eq ed
    subst this
    have q2 := RepVs.data.mp q
    exact ⟨by rw [← q2.length]; exact hz, (p1.wish fs1).new_tup fs1.hF q2⟩
theorem pe_dlst (h : PA X es (TLs W xc X g0 E cs)) : PE X (.List es pos) (TV W xc X g0 E fun ρ => M.bind (cs ρ) fun xs => ofO (lstO xs)) :=
  pe_weak (pe_lst h) fun σ H Q ⟨g, ρ, m, fs, p⟩ => by
    refine ⟨g, ρ, m, fs, (p.bind fs).mono fun vs H1 ⟨g1, m1, a, fs1, e1, r1, p1⟩ => ?_⟩
    obtain ⟨z, e, p1⟩ := p1.ofO
    unfold lstO at e
    split at e <;> try (cases e)
    rename_i ws ew
    split at e <;> try (cases e)
    rename_i v ev
    split at e <;> try (cases e)
    rename_i hz
    have q := vals_rep r1 ew
    exact ⟨by rw [← q.length]; exact hz, lstV_rep fs1.hF q ev (p1.wish fs1)⟩
theorem pe_ddct : PE X (.Dict [] [] pos) (TV W xc X g0 E fun _ => ret1 (.v (.d (.dct [] [])))) :=
  pe_weak pe_dnewK fun σ H Q ⟨g, ρ, m, fs, p⟩ => by
    intro a ha
    have e := Gr.new (W := W) (o := HO.dK []) ha fs.hF
    refine (Post.wish (p : Post W xc g σ H _ Q E (.ok (OV.v (.d (.dct [] []))) m)) fs) _ _ _ e ?_
    simp only [RepV, RepD]
    exact ⟨a, [], rfl, upd_same, rfl, by simp only [List.map_nil, RepDs]⟩
/-! ### builtins -/
theorem tCB_of {b : Bi} {σ : L2.St} {H : Hp} {Q : VK} (q : TV W xc X g0 E (fun ρ => M.bind (cs ρ) fun xs => ofO (biO ρ b xs)) σ H Q) : TLs W xc X g0 E cs σ H fun vs H1 => rBi W b vs H1 Q := by
  obtain ⟨g, ρ, m, fs, p⟩ := q
  refine ⟨g, ρ, m, fs, (p.bind fs).mono fun vs H1 ⟨g1, m1, a, fs1, e1, r1, p1⟩ => ?_⟩
  obtain ⟨z, e, p1⟩ := p1.ofO
  unfold biO at e
  split at e <;> try (cases e)
  rename_i ds ed
  split at e <;> try (cases e)
  rename_i d e
  exact ⟨g1, ds, d, fs1.hF, derefs_rep fs1 r1 ed, e, p1.wish fs1⟩
theorem pe_dbi (xw : XW W X) {b : Bi} {f : Value} {x : Str} {p : Pos} (hf : b.fn = some f) (hg : Gl X x) (hm : X.mg x = none) (hv : bootBuiltins x = some f) (hn : x ≠ "__name__") (hdb : (x == ("__debug__" : Str)) = false)
    (ha : PA X (ea :: es) (TLs W xc X g0 E cs)) (he : starEach (ea :: es) X.env = (false, eval ea X.env) :: starEach es X.env) (hpl : (backTo pos (starEach es X.env)).any (·.1) = false) :
    PE X (.Call (.Name x p) (ea :: es) [] pos) (TV W xc X g0 E fun ρ => M.bind (cs ρ) fun xs => ofO (biO ρ b xs)) := by
  have hc := bi_call xw.hK xw.hc xw.hu xw.hg hf
  have z : (∃ id, f = .builtin id) ∨ ∃ T, f = .type T := by
    cases b <;> simp only [Bi.fn] at hf <;> cases hf <;> first | exact .inl ⟨_, rfl⟩ | exact .inr ⟨_, rfl⟩
  rcases z with ⟨id, rfl⟩ | ⟨T, rfl⟩
  · exact pe_weak (pe_callB hc hg hm hv ha hn hdb he hpl) fun σ H Q q => tCB_of q
  · exact pe_weak (pe_callTy hc hg hm hv ha hn hdb he hpl) fun σ H Q q => tCB_of q
/-! ### subscripts, slices -/
theorem pe_didx (xw : XW W X) (ha : PE X ea (TV W xc X g0 E ca)) (hb : PE X eb (TV W xc X g0 E cb)) (hs : PlainIx eb) :
    PE X (.Subscript ea eb pos) (TV W xc X g0 E fun ρ => M.bind (ca ρ) fun x => M.bind (cb ρ) fun y => ofO (idxO ρ x y)) :=
  pe_weak (pe_ix (ix_data xw.hK xw.hu) ha hb hs) fun σ H Q ⟨g, ρ, m, fs, p⟩ => by
    refine ⟨g, ρ, m, fs, (p.bind fs).mono fun x H1 ⟨g1, m1, a, fs1, e1, r1, p1⟩ => ⟨g1, ρ, m1, fs1, (p1.bind fs1).mono fun y H2 ⟨g2, m2, b, fs2, e2, r2, p2⟩ => ?_⟩⟩
    have r1' := r1.ext e2
    obtain ⟨z, e, p2⟩ := p2.ofO
    unfold idxO at e
    split at e <;> try (cases e)
    rename_i dx ex
    split at e <;> try (cases e)
    rename_i dy
    split at e <;> try (cases e)
    rename_i d ed
    exact ⟨g2, dx, dy, d, fs2.hF, r1'.rd fs2 ex, .inl r2, ed, p2.wish fs2⟩
theorem po_dnone : PO X none (TOp W xc X g0 E fun _ => ret1 none) := ⟨fun pins s σ H Q I ⟨g, ρ, m, fs, p⟩ => po_none.run pins s σ H Q I (p.at fs (b := none) rfl)⟩
theorem po_dsome (ha : PE X ea (TV W xc X g0 E ca)) : PO X (some ea) (TOp W xc X g0 E fun ρ => M.bind (ca ρ) fun x => ofO (intO x)) :=
  ⟨fun pins s σ H Q I ⟨g, ρ, m, fs, p⟩ => by
    refine (po_some ha).run pins s σ H Q I ⟨g, ρ, m, fs, (p.bind fs).mono fun x H1 ⟨g1, m1, a, fs1, e1, r1, p1⟩ => ?_⟩
    obtain ⟨z, e, p1⟩ := p1.ofO
    unfold intO at e
    split at e <;> try (cases e)
    rename_i i _
    exact ⟨i, by simpa only [RepOV, RepV, RepD] using r1, p1.at fs1 (b := some i) rfl⟩⟩
variable {lo hi : Option Expr} {cl ch : Env → M (Option Int)}
theorem pe_dslc (xw : XW W X) {p2 : Pos} (ha : PE X ea (TV W xc X g0 E ca)) (hl : PO X lo (TOp W xc X g0 E cl)) (hh : PO X hi (TOp W xc X g0 E ch)) :
    PE X (.Subscript ea (.Slice lo hi none p2) pos) (TV W xc X g0 E fun ρ => M.bind (ca ρ) fun x => M.bind (cl ρ) fun l => M.bind (ch ρ) fun h => ofO (slcO ρ x l h)) :=
  pe_weak (pe_slice (sl_data xw.hK) ha hl hh) fun σ H Q ⟨g, ρ, m, fs, p⟩ => by
    refine ⟨g, ρ, m, fs, (p.bind fs).mono fun x H1 ⟨g1, m1, a, fs1, e1, r1, p1⟩ => ⟨g1, ρ, m1, fs1, (p1.bind fs1).mono fun y H2 ⟨g2, m2, b, fs2, e2, r2, p2⟩ => ⟨g2, ρ, m2, fs2, (p2.bind fs2).mono fun z H3 ⟨g3, m3, c, fs3, e3, r3, p3⟩ => ?_⟩⟩⟩
    cases r2
    cases r3
    have r1' := (r1.ext e2).ext e3
    obtain ⟨w, e, p3⟩ := p3.ofO
    unfold slcO at e
    split at e <;> try (cases e)
    rename_i dx ex
    split at e <;> try (cases e)
    rename_i d ed
    exact ⟨g3, dx, d, fs3.hF, r1'.rr fs3 ex, ed, p3.wish fs3⟩
end
end Di
end
section
set_option Elab.async false
set_option linter.all false
set_option maxRecDepth 100000
set_option maxHeartbeats 2000000
/-! Di.Lc: a comprehension whose block knows the state in which it starts. -/
namespace Di
open PySem PySem.Spec PyProof.Rows L2 LamX NdefX
abbrev oD : Obj := { cls := .type "dict", data := .dict #[] }
abbrev oL : Obj := { cls := .type "list", data := .seq ([] : List Value).toArray }
abbrev blkEnv (X : Cx) (sc : Scope) (s : Shared) : PySem.Env :=
  compEnvC sc (cellsFrom (s.heap.objs.size + 1) sc.names
    (cloFrom X.env.cells sc.names [])) s.heap.objs.size X.env
abbrev blkCx (X : Cx) (sc : Scope) (s : Shared) (H : Hp) (fp : List Addr) : Cx := X.blk s H sc (blkEnv X sc s) fp
abbrev blkSt (s : Shared) (sc : Scope) : Shared :=
  { s with heap := pushCells (s.heap.push oD) sc.names }
def tLd (X : Cx) (sc : Scope) (vs : List Nat) (tg : Expr) (ifs : List Expr) (elt : Expr) (wi : TI) : TE := fun σ H Q => wi σ H fun J H1 => ∀ D, H1 D = none → ∀ (pins : List (Addr × Obj)) (s : Shared) (fp : List Addr),
  L2.Inv X pins σ (upd H1 D (.lst [])) s → L2.Inv (blkCx X sc s (upd H1 D (.lst [])) fp) [] (wipe σ vs) (upd H1 D (.lst [])) (blkSt s sc) →
  (∀ b ∈ fp, ∃ o, s.heap.get? b = some o ∧ ∀ v, o.data ≠ .cell v) →
  ∃ T : Nat → Nat → Hp → Prop, (∃ m, T 0 m (upd H1 D (.lst []))) ∧ ∀ i m H, T i m H → (J.stop i H ∧ Q (.ref D) H) ∨
    (J.go i H ∧ ∃ Nx : Hp → Prop, (∀ H', Nx H' → ∃ m', m' < m ∧ T (i + 1) m' H') ∧ ∀ x H', J.yld i H x H' →
      ∃ (g : TG) (tt : TT) (te : TE), PG (blkCx X sc s (upd H1 D (.lst [])) fp) tg g ∧ PTs (blkCx X sc s (upd H1 D (.lst [])) fp) ifs tt ∧ PE (blkCx X sc s (upd H1 D (.lst [])) fp) elt te ∧
      g x (wipe σ vs) H' fun σ2 H2 => wipe σ2 vs = wipe σ vs ∧ tt σ2 H2 fun b H3 => if b = true then te σ2 H3 fun y H4 => ∃ acc, H4 D = some (.lst acc) ∧ acc.length < sizeLine ∧ Nx (upd H4 D (.lst (acc ++ [y]))) else Nx H3)
theorem ld_core {X : Cx} {elt tg iter : Expr} {ifs : List Expr} {sc : Scope} {own : List (Str × Nat)} {pos pos' : Pos} {wi : TI} {use : Option (Value → Sem Unit)} {Qf : Value → Shared → Prop} {pins : List (Addr × Obj)} {s : Shared} {σ : L2.St} {H : Hp} {Q : VK} (calm : X.calm = true) (nd : X.N.Nodup)
    (I : L2.Inv X pins σ H s) (hi : PI X tg iter wi) (ok : BlkOk X.N X.env.scope sc own) (fo : ∀ x, foldedSetIterable iter X.env x = pure x) (h : tLd X sc (own.map (·.2)) tg ifs elt wi σ H Q)
    (out : ∀ D C s' m H', L2.Inv X pins σ H' s' → Q (.ref D) H' → s'.heap.Ns C m → FpOk X pins H' C → compPost (model X.prog X.w) X.A X.xe use Qf (.ref D) C (.ok .next) s') :
    wpAny (model X.prog X.w) X.A (comprehension (.ListComp elt [⟨tg, iter, ifs, 0⟩] sc pos) sc X.env pos' (newList []) false (eval iter X.env) use) Qf X.xe s := by
  have fr : ∀ y ∈ sc.names, y.2 = .free →
      ∃ c, X.env.cells.lookup y.1 = some c := fun y hy e =>
    (ok.free y hy e).elim (fun k => I.ok.has _ (.inl k))
      (fun k => I.ok.has _ (.inr k))
  have run := hi.run pins s σ H _ I h
  have un := fun (y : Str × NameKind) (hy : y ∈ sc.names) (e : y.2 = .local) =>
    (by rw [ok.uniq y hy, e] : sc.names.lookup y.1 = some .local)
  refine wpAny_comprehension_free (use := use) rfl fo
    (closure_ok fr) ok.kind un (thn run fun xv sa ha => ?_)
  refine thn ha fun itv sb hb => ?_
  obtain ⟨it, fp, tn, J, HB, eit, IB, tr, t0, fB, w⟩ := hb
  subst eit
  refine wpAny_newObj_type (newEnv_comp ?_)
    (by show 0 ≤ sizeLine; exact Nat.zero_le _)
  generalize eD : sb.heap.objs.size = D
  have nD : HB D = none := by rw [← eD]; exact IB.hok.fresh (Nat.le_refl _)
  have w := w D nD
  generalize eC : ({ sb with heap := sb.heap.push oL } : Shared) = sC
  have hC : sC.heap = sb.heap.push oL := by rw [← eC]
  have IC : L2.Inv X pins σ (upd HB D (.lst [])) sC := by
    rw [← eC]
    refine IB.laid (t' := sb.toks) (fun _ _ q => Heap.get?_push_of_some _ q)
      (by rw [eD]; exact Nat.le_refl _) ⟨Nat.zero_le _, [], 0, .nil, ?_⟩
    rw [← eD]
    exact (Heap.get?_push_size _ rfl)
  have lt : ∀ b ∈ fp, b < sb.heap.objs.size := fun b hb =>
    let ⟨_, e, _⟩ := tr.obj _ _ t0 b hb
    Heap.lt_size e
  have fC : ∀ b ∈ fp, FpOk X pins (upd HB D (.lst [])) b ∧
      b < sC.heap.objs.size := fun b hb => by
    have l := lt b hb
    have z : (upd HB D (.lst [])) b = HB b := upd_ne (by rw [← eD]; exact Nat.ne_of_lt l)
    exact ⟨⟨by rw [z]; exact (fB b hb).1, (fB b hb).2⟩,
      by rw [hC, Heap.size_push]; exact Nat.lt_succ_of_lt l⟩
  have tC : tn 0 sC.heap := tr.keep _ _ _ t0 fun b _ o e => by
    rw [hC]
    exact Heap.get?_push_of_some _ e
  have IE : L2.Inv (blkCx X sc sC (upd HB D (.lst [])) fp) []
      (wipe σ (own.map (·.2))) (upd HB D (.lst [])) (blkSt sC sc) :=
    block_start IC ok nd fC
  obtain ⟨T, ⟨m0, w0⟩, turn⟩ := w pins sC fp IC IE (tr.obj _ _ tC)
  show codeAny _ _ (.compStart (.ListComp elt [⟨tg, iter, ifs, 0⟩] sc pos) 0
    (.ref it) (.ref D) (blkEnv X sc sC)) (compPost (model X.prog X.w) X.A
      X.xe use Qf (.ref D) sC.heap.objs.size) (blkSt sC sc)
  have nF : ∀ b ∈ fp, (upd HB D (.lst [])) b = none :=
    fun b hb => (fC b hb).1.1
  have eL : (blkEnv X sc sC).locals = sC.heap.objs.size := rfl
  unfold blkCx at turn IE
  generalize eH : upd HB D (.lst []) = HC at *
  generalize eV : blkEnv X sc sC = ce at *
  have tE : tn 0 (blkSt sC sc).heap := tr.keep _ _ _ tC fun b _ o e =>
    pushCells_keeps _ _ _ _ (Heap.get?_push_of_some _ e)
  generalize eE : blkSt sC sc = sE at *
  have fpB : ∀ {σ' : L2.St} {H' : Hp} {s' : Shared},
      L2.Inv (X.blk sC HC sc ce fp) [] σ' H' s' → (∀ b ∈ fp, H' b = none) →
      ∀ b ∈ fp, FpOk (X.blk sC HC sc ce fp) [] H' b := fun {σ' H' s'} J1 n b hb =>
    ⟨n b hb, (J1.ok.exf b hb).1, J1.ok.exfs b hb, .inl hb,
      fun x c q => (J1.ok.exf b hb).2 x c q,
      fun p hp => absurd (show p ∈ ([] : List (Addr × Obj)) from hp) (by simp)⟩
  have loop : codeAny (model X.prog X.w) X.A
      (.compLoop (.ListComp elt [⟨tg, iter, ifs, 0⟩] sc pos) 0 (.ref it) (.ref D) ce)
      (compPost (model X.prog X.w) X.A X.xe use Qf (.ref D)
        sC.heap.objs.size) sE := by
    refine compLoop_any (fun n s' => ∃ i H', L2.Inv (X.blk sC HC sc ce fp) []
      (wipe σ (own.map (·.2))) H' s' ∧ tn i s'.heap ∧ (∀ b ∈ fp, H' b = none) ∧
        T i n H') ?_ m0 ⟨0, HC, IE, tE, nF, w0⟩
    intro n s5 ⟨i, H5, I5, t5, n5, w5⟩
    cases turn i n H5 w5 with
    | inl h =>
      obtain ⟨stop, fin⟩ := h
      have dn := tr.done (X.blk sC HC sc ce fp) rfl rfl rfl calm i [] s5 _ H5
        (fun _ _ => False) I5 (fpB I5 n5) t5 stop
      refine thnF dn fun r s6 ⟨er, I6⟩ => ?_
      subst er
      have I7 : L2.Inv X pins σ H5 s6 := IC.call' (ch := fp) I6.os I6.base
        I6.hok I6.bare fun b hb => by
          have f := (fC b hb).1
          exact ⟨f.2.2.2.1, f.2.1, f.2.2.2.2.1, f.2.2.2.2.2⟩
      obtain ⟨mm, ns, _⟩ := I6.loc
      have nC : H5 sC.heap.objs.size = none := by
        rw [← eL]; exact I6.free
      have ns : s6.heap.Ns ce.locals mm := ns
      rw [eL] at ns
      exact out D _ s6 mm H5 I7 fin ns (IC.fpOk (Nat.le_refl _) nC)
    | inr h =>
      obtain ⟨go, Nx, less, step⟩ := h
      have nx := tr.item (X.blk sC HC sc ce fp) rfl rfl rfl calm i [] s5 _ H5
        (fun _ _ => False) I5 (fpB I5 n5) t5 go
      refine thnF nx fun r s6 ⟨u, er, h6⟩ => ?_
      subst er
      refine thnF h6 fun _ s7 ⟨x, H7, I7, r7, y7, t7, n7⟩ => ?_
      obtain ⟨g, tt, te, pg, pt, pe, st⟩ := step x H7 y7
      have I7' := I7.pinned (fpB I7 n7) (tr.obj _ _ t7)
      refine thnF (pg.run _ s7 _ H7 x u _ I7' r7 st)
        fun _ s8 ⟨σ8, H8, I8, e8, q8⟩ => ?_
      refine thnF (pt.run _ s8 σ8 H8 _ I8 q8)
        fun b s9 ⟨H9, I9, q9⟩ => ?_
      have endT : ∀ {s' : Shared} {H' : Hp}, L2.Inv (X.blk sC HC sc ce fp)
          ([] ++ pinsAt fp s7.heap) σ8 H' s' → Nx H' → ∃ m, m < n ∧ ∃ i H',
          L2.Inv (X.blk sC HC sc ce fp) [] (wipe σ (own.map (·.2))) H' s' ∧
          tn i s'.heap ∧ (∀ b ∈ fp, H' b = none) ∧ T i m H' := by
        intro s' H' J1 nx
        obtain ⟨m', hm, w'⟩ := less H' nx
        have pin : ∀ b ∈ fp, ∀ o, s7.heap.get? b = some o →
            s'.heap.get? b = some o ∧ H' b = none := fun b hb o e => by
          have z := J1.pin (b, o) (List.mem_append_right _
            (List.mem_append_right _ (mem_pinsAt hb e)))
          exact ⟨z.1, z.2.1⟩
        refine ⟨m', hm, i + 1, H', (J1.unpinned (pins := [])).weak
          (by rw [← e8, wipe_length]) (fun j v e => ?_),
          tr.keep _ _ _ t7 fun b hb o e => (pin b hb o e).1, fun b hb => ?_, w'⟩
        · rw [← e8] at e
          exact (wipe_some e).1
        · have ⟨o, e, _⟩ := tr.obj _ _ t7 b hb
          exact (pin b hb o e).2
      cases b with
      | false =>
        simp only [Bool.false_eq_true, if_false] at q9 ⊢
        exact endT I9 q9
      | true =>
        simp only [if_true] at q9 ⊢
        refine thnF (pe.run _ s9 σ8 H9 _ I9 q9)
          fun z s10 ⟨y, H10, I10, r10, acc, d10, z10, nx⟩ => ?_
        exact app_ok (X := X.blk sC HC sc ce fp) I10 d10 z10 r10
          fun s11 I11 => endT I11 nx
  exact codeAny_compStart_list loop (tr.self X.A 0 _ _ _ tE loop)
theorem pe_ld {X : Cx} {elt tg iter : Expr} {ifs : List Expr} {sc : Scope} {own : List (Str × Nat)} {pos : Pos} {wi : TI} (calm : X.calm = true) (nd : X.N.Nodup) (hi : PI X tg iter wi) (ok : BlkOk X.N X.env.scope sc own)
    (fo : ∀ x, foldedSetIterable iter X.env x = pure x) : PE X (.ListComp elt [⟨tg, iter, ifs, 0⟩] sc pos) (tLd X sc (own.map (·.2)) tg ifs elt wi) := by
  refine ⟨fun pins s σ H Q I h => ?_⟩
  rw [eval_ListComp]
  refine ld_core calm nd I hi ok fo h fun D C s' m H' I' q ns f => ⟨m, ns, fun h'' sm => ?_⟩
  obtain ⟨a0, a1, a2, a3, a4, a5⟩ := f
  exact ⟨.ref D, H', I'.turned (t' := s'.toks)
    (fun b o hb e => (sm.2 b hb).trans e) a0 a1 a3 a4 a5, rfl, q⟩
/-- a local name's store of a comprehension on its line -/
theorem ps_ld {X : Cx} {i : Nat} {y : Str} {py : Pos} {elt tg iter : Expr} {ifs : List Expr} {sc : Scope} {own : List (Str × Nat)} {pos spos : Pos} {wi : TI} (calm : X.calm = true) (nd : X.N.Nodup) (hy : X.N[i]? = some y)
    (hl : X.env.scope.names.lookup y = some .local) (sw : swapsWith (.ListComp elt [⟨tg, iter, ifs, 0⟩] sc pos) (some (.Name y py)) spos.line X.env = pure true) (hi : PI X tg iter wi) (ok : BlkOk X.N X.env.scope sc own)
    (fo : ∀ x, foldedSetIterable iter X.env x = pure x) : PS X (.Assign [.Name y py] (.ListComp elt [⟨tg, iter, ifs, 0⟩] sc pos) spos) (tAsg (tLd X sc (own.map (·.2)) tg ifs elt wi) (gName i)) := by
  refine ⟨fun pins s σ H T I h => ?_⟩
  rw [exec_Assign_Name_used _ _ _ _ sw]
  refine wpAny_bind (wpAny_standAt (wpAny_bind ?_))
  have h : tLd X sc (own.map (·.2)) tg ifs elt wi σ H
    (fun x H1 => gName i x σ H1 T.nx) := h
  show wpAny _ X.A (do
    let _ ← comprehension (.ListComp elt [⟨tg, iter, ifs, 0⟩] sc pos) sc X.env
      (firstIterPos [⟨tg, iter, ifs, 0⟩] pos) (newList []) false
      (eval iter X.env) (some (assign (.Name y py) X.env))) _ _ s
  refine wpAny_bind (thn (ld_core (Qf := fun _ s' => SP X pins T .next s') calm nd I
    hi ok fo h fun L C s' m H' I' q ns f => ?_) fun _ s' hq => wpAny_pure (wpAny_pure hq))
  show wpAny _ _ (assign (.Name y py) X.env (.ref L)) _ _ _
  refine wpAny_assign_Name (store_ok2 (v := V.ref L) I' nd hy (.inl hl) rfl
    (fun s2 I2 ⟨a, sb, ha⟩ => ?_) (.inr hl))
  obtain ⟨a0, a1, a2, a3, a4, a5⟩ := f
  have ne : C ≠ a := by
    rcases ha with z | z
    · rw [z]; exact a1
    · exact fun e => a4 y a z e.symm
  refine ⟨m, ns.sameBut sb ne, fun h3 sm => ⟨_, H', I2.turned (t' := s2.toks)
    (fun b o hb e => (sm.2 b hb).trans e) a0 a1 a3 a4 a5, q⟩⟩
end Di
end
section
set_option Elab.async false
set_option linter.all false
set_option maxRecDepth 100000
set_option maxHeartbeats 2000000
/-! Di.Fs: what a store does to a frame. -/
namespace Di
open PySem PySem.Spec PyProof.Rows L2 LamX NdefX
/-- the ghost behind a store of v at the name x -/
def stG (X : Cx) (g : G) (x : Str) (v : V) : G := if X.env.scope.names.lookup x = some .local then g else match X.env.cells.lookup x with
  | some c => { g with κ := fun c' => if c' = c then some v else g.κ c' }
  | none => g
theorem stG_F {X : Cx} {g : G} {x : Str} {v : V} : (stG X g x v).F = g.F ∧ (stG X g x v).μ = g.μ ∧ (stG X g x v).mid = g.mid ∧ (stG X g x v).own = g.own ∧ (stG X g x v).cell = g.cell := by
  unfold stG
  split
  · exact ⟨rfl, rfl, rfl, rfl, rfl⟩
  · split <;> exact ⟨rfl, rfl, rfl, rfl, rfl⟩
section
variable {W : Wd} {g : G} {c : Addr} {i : Nat} {u : V}
theorem capt_c {P : Prg} {k : Nat} {cap : List Val} (h : capt P i (.c k cap) = false) : (∃ l, P.lams[k]? = some l ∧ ¬ i ∈ l.cap) ∧ captL P i cap = false := by
  simp only [capt, Bool.or_eq_false_iff] at h
  refine ⟨?_, h.2⟩
  have h1 := h.1
  cases e : P.lams[k]? with
  | none => rw [e] at h1; cases h1
  | some l =>
    rw [e] at h1
    exact ⟨l, rfl, by simpa using h1⟩
mutual
theorem RepV.sto (ho : g.own c) (hc : ∀ j, g.cell j = some c → j = i) : ∀ (y : Val) (w : V), capt W.P i y = false → RepV W g y w → RepV W { g with κ := fun c' => if c' = c then some u else g.κ c' } y w
  | .d x, w, _, h => by simpa only [RepV] using h
  | .c k cap, w, hcap, h => by
    simp only [RepV] at h ⊢
    obtain ⟨⟨l, el, hl⟩, hcl⟩ := capt_c hcap
    obtain ⟨L, f, c', cl, dV, ws, h1, h2, h3, h4, h5, h6, h7, h8, h9, h10⟩ := h
    have ne : ∀ y c2, cl.lookup y = some c2 → c2 ≠ c := fun y c2 e z => by
      subst z
      obtain ⟨l', i', e1, e2, e3⟩ := h8 y c2 e ho
      rw [el] at e1; cases e1
      rw [hc i' e3] at e2
      exact hl e2
    refine ⟨L, f, c', cl, dV, ws, h1, h2, h3, h4, h5, h6, h7, h8, RepVs.sto ho hc cap ws hcl h9, ?_⟩
    rw [← h10]
    refine List.map_congr_left fun y _ => ?_
    cases e : cl.lookup y with
    | none => rfl
    | some c2 => simp only [Option.bind_some, if_neg (ne y c2 e)]
  | .l xs, w, hcap, h => by
    simp only [RepV] at h ⊢
    obtain ⟨a, vs, e, h1, h2⟩ := h
    exact ⟨a, vs, e, h1, RepVs.sto ho hc xs vs (by simpa only [capt] using hcap) h2⟩
theorem RepVs.sto (ho : g.own c) (hc : ∀ j, g.cell j = some c → j = i) : ∀ (y : List Val) (w : List V), captL W.P i y = false → RepVs W g y w → RepVs W { g with κ := fun c' => if c' = c then some u else g.κ c' } y w
  | [], w, _, h => by simpa only [RepVs] using h
  | x :: r, w, hcap, h => by
    simp only [captL, Bool.or_eq_false_iff] at hcap
    simp only [RepVs] at h ⊢
    obtain ⟨v, ws, e, h1, h2⟩ := h
    exact ⟨v, ws, e, RepV.sto ho hc x v hcap.1 h1, RepVs.sto ho hc r ws hcap.2 h2⟩
end
theorem RepO.sto {H : Hp} {x : Val} {a : Addr} (ho : g.own c) (hc : ∀ j, g.cell j = some c → j = i) (hcap : capt W.P i x = false) (h : RepO W g H x a) : RepO W { g with κ := fun c' => if c' = c then some u else g.κ c' } H x a := by
  unfold RepO at h ⊢
  split at h
  · exact h
  · exact h
  · obtain ⟨vs, h1, h2⟩ := h
    exact ⟨vs, h1, RepVs.sto ho hc _ vs (by simpa only [capt] using hcap) h2⟩
  · exact h.elim
theorem SlR.sto {H : Hp} {s : Sl} {w : Option V} (ho : g.own c) (hc : ∀ j, g.cell j = some c → j = i) (h : SlR W g H s w) : SlR W { g with κ := fun c' => if c' = c then some u else g.κ c' } H (killS W.P i s) w := by
  cases s with
  | no => simp only [killS]; trivial
  | sh y =>
    simp only [killS]
    by_cases q : capt W.P i y = true
    · rw [if_pos q]; trivial
    · rw [if_neg q]
      obtain ⟨v, e, h⟩ := h
      exact ⟨v, e, RepV.sto ho hc y v (by simpa using q) h⟩
  | ow y =>
    simp only [killS]
    by_cases q : capt W.P i y = true
    · rw [if_pos q]; trivial
    · rw [if_neg q]
      obtain ⟨v, e, h0, h1, h2⟩ := h
      exact ⟨v, e, h0, h1, RepO.sto ho hc (by simpa using q) h2⟩
  | ro y =>
    simp only [killS]
    by_cases q : capt W.P i y = true
    · rw [if_pos q]; trivial
    · rw [if_neg q]
      obtain ⟨v, e, h0, h1, h2⟩ := h
      exact ⟨v, e, h0, h1, RepO.sto ho hc (by simpa using q) h2⟩
theorem SlR.kill {H : Hp} {s : Sl} {w : Option V} (P : Prg) (h : SlR W g H s w) : SlR W g H (killS P i s) w := by
  cases s with
  | no => exact h
  | sh y =>
    simp only [killS]
    by_cases q : capt P i y = true
    · rw [if_pos q]; trivial
    · rw [if_neg q]; exact h
  | ow y =>
    simp only [killS]
    by_cases q : capt P i y = true
    · rw [if_pos q]; trivial
    · rw [if_neg q]; exact h
  | ro y =>
    simp only [killS]
    by_cases q : capt P i y = true
    · rw [if_pos q]; trivial
    · rw [if_neg q]; exact h
end
section
variable {W : Wd} {X : Cx} {g0 : G × Hp} {g : G} {ρ : Env} {m : MS} {σ : L2.St} {H : Hp} {i : Nat} {x : Str} {v : V}
/-- a name that the frame may store at -/
def Own (X : Cx) (x : Str) : Prop := (X.env.scope.names.lookup x = some .local) ∨ (X.env.scope.names.lookup x = some .cell ∧ X.fn x = true ∧ ∃ c, X.env.cells.lookup x = some c)
theorem stG_cell {c : Addr} (hl : X.env.scope.names.lookup x = some .cell) (hc : X.env.cells.lookup x = some c) : stG X g x v = { g with κ := fun c' => if c' = c then some v else g.κ c' } := by
  unfold stG
  rw [if_neg (by rw [hl]; simp), hc]
theorem stG_loc (hl : X.env.scope.names.lookup x = some .local) : stG X g x v = g := by
  unfold stG
  rw [if_pos hl]
theorem nodup_ix {N : List Str} (nd : N.Nodup) {i j : Nat} {x : Str} (h : N[i]? = some x) (h' : N[j]? = some x) : i = j := by
  have a := (List.getElem?_eq_some_iff.mp h).1
  exact (List.getElem?_inj a nd).mp (h.trans h'.symm)
theorem KR.store (k : KR X σ g) (hN : X.N[i]? = some x) (ho : Own X x) : KR X (σ.set i (some v)) (stG X g x v) := by
  have hi : i < σ.length := by rw [k.len]; exact (List.getElem?_eq_some_iff.mp hN).1
  have at_ : ∀ j y (v' : V), X.N[j]? = some y → y ≠ x → σ[j]? = some (some v') → (σ.set i (some v))[j]? = some (some v') := fun j y v' h1 h2 h3 => by
    rw [List.getElem?_set_ne (fun e => h2 (by rw [← e, hN] at h1; exact (Option.some.inj h1).symm))]
    exact h3
  refine ⟨fun c v' e => ?_, fun c => by rw [stG_F.2.2.2.1]; exact k.own c, fun j => by rw [stG_F.2.2.2.2]; exact k.cell j, fun j y c v' h1 h2 h3 h4 => ?_, k.inj, k.nd, by rw [List.length_set]; exact k.len⟩
  rcases ho with hl | ⟨hl, hf, c0, hc⟩
  · rw [stG_loc hl] at e
    rcases k.κ c v' e with ⟨j, y, a1, a2, a3, a4⟩ | a
    · refine .inl ⟨j, y, a1, a2, a3, at_ j y v' a1 (fun z => ?_) a4⟩
      subst z
      rw [hl] at a3
      rcases a3 with a3 | a3 <;> cases a3
    · exact .inr a
  · rw [stG_cell hl hc] at e
    simp only at e
    by_cases q : c = c0
    · rw [if_pos q] at e
      cases e
      exact .inl ⟨i, x, hN, by rw [q]; exact hc, .inl hl, by rw [List.getElem?_set_self hi]⟩
    · rw [if_neg q] at e
      rcases k.κ c v' e with ⟨j, y, a1, a2, a3, a4⟩ | a
      · refine .inl ⟨j, y, a1, a2, a3, at_ j y v' a1 (fun z => ?_) a4⟩
        subst z
        rw [hc] at a2
        exact q (Option.some.inj a2).symm
      · exact .inr a
  · have ji : j = i → y = x := fun z => by rw [z, hN] at h1; exact (Option.some.inj h1).symm
    have old : j ≠ i → σ[j]? = some (some v') := fun z => by rw [List.getElem?_set_ne (fun w => z w.symm)] at h4; exact h4
    rcases ho with hl | ⟨hl, hf, c0, hc⟩
    · rw [stG_loc hl]
      have z : j ≠ i := fun z => by
        have := ji z
        subst this
        rw [hl] at h3
        rcases h3 with h3 | h3 <;> cases h3
      exact k.full j y c v' h1 h2 h3 (old z)
    · rw [stG_cell hl hc]
      by_cases z : j = i
      · have := ji z
        subst this z
        rw [hc] at h2; cases h2
        rw [List.getElem?_set_self hi] at h4
        cases h4
        exact if_pos rfl
      · have ne : c ≠ c0 := fun w => by
          subst w
          have := k.inj y x c h2 hc
          subst this
          exact z (nodup_ix k.nd h1 hN)
        show (if c = c0 then some v else g.κ c) = some v'
        rw [if_neg ne]
        exact k.full j y c v' h1 h2 h3 (old z)
theorem KR.cellI (k : KR X σ g) (hN : X.N[i]? = some x) {c : Addr} (hc : X.env.cells.lookup x = some c) : ∀ j, g.cell j = some c → j = i := fun j e => by
  rw [k.cell] at e
  cases q : X.N[j]? with
  | none => rw [q] at e; cases e
  | some y =>
    rw [q] at e
    have z := k.inj y x c e hc
    subst z
    exact nodup_ix k.nd q hN
theorem slR_store (k : KR X σ g) (hN : X.N[i]? = some x) (ho : Own X x) {s : Sl} {w : Option V} (h : SlR W g H s w) : SlR W (stG X g x v) H (killS W.P i s) w := by
  rcases ho with hl | ⟨hl, hf, c0, hc⟩
  · rw [stG_loc hl]
    exact h.kill W.P
  · rw [stG_cell hl hc]
    exact h.sto ((k.own c0).mpr ⟨x, hf, hc⟩) (k.cellI hN hc)
theorem HpS.of {g g' : G} (h : HpS W g m H) (e1 : g'.F = g.F) (e2 : g'.μ = g.μ) (e3 : g'.mid = g.mid) : HpS W g' m H := by
  refine ⟨by rw [e1]; exact h.sub, fun a q => ?_, by rw [e3]; exact h.mid, by rw [e1, e2, e3]; exact h.mst, by rw [e1]; exact h.tabs, by rw [e1]; exact h.nt⟩
  rw [e1]
  exact h.mu a ⟨by rw [← e3]; exact q.1, q.2.trans e2⟩
theorem ExtF.of {g g' g1 : G} {H0 : Hp} (h : ExtF g H0 g1 H) (e1 : g'.F = g1.F) (e2 : g'.μ = g1.μ) (e3 : g'.mid = g1.mid) : ExtF g H0 g' H :=
  ⟨by rw [e1]; exact h.sub, by rw [e1]; exact h.new, h.keep, h.dom, by rw [e2, e3]; exact h.mid⟩
theorem kill_or (P : Prg) (i : Nat) (s : Sl) : killS P i s = .no ∨ killS P i s = s := by
  cases s with
  | no => exact .inl rfl
  | sh y =>
    simp only [killS]
    by_cases q : capt P i y = true
    · rw [if_pos q]; exact .inl rfl
    · rw [if_neg q]; exact .inr rfl
  | ow y =>
    simp only [killS]
    by_cases q : capt P i y = true
    · rw [if_pos q]; exact .inl rfl
    · rw [if_neg q]; exact .inr rfl
  | ro y =>
    simp only [killS]
    by_cases q : capt P i y = true
    · rw [if_pos q]; exact .inl rfl
    · rw [if_neg q]; exact .inr rfl
theorem kill_own {P : Prg} {i : Nat} {s : Sl} {y : Val} (h : killS P i s = .ow y) : s = .ow y := by
  rcases kill_or P i s with q | q
  · rw [q] at h; cases h
  · rw [← q]; exact h
theorem kill_ro {P : Prg} {i : Nat} {s : Sl} {y : Val} (h : killS P i s = .ro y) : s = .ro y := by
  rcases kill_or P i s with q | q
  · rw [q] at h; cases h
  · rw [← q]; exact h
theorem put_get {P : Prg} {s s' : Sl} {j : Nat} (h : (put P i s ρ)[j]? = some s') : ∃ s0, s' = killS P i s0 ∧ ((j = i ∧ s0 = s) ∨ (j ≠ i ∧ ρ[j]? = some s0)) := by
  unfold put at h
  rw [List.getElem?_map] at h
  cases e : (ρ.set i s)[j]? with
  | none => rw [e] at h; cases h
  | some s0 =>
    rw [e] at h
    refine ⟨s0, (Option.some.inj h).symm, ?_⟩
    by_cases q : j = i
    · subst q
      have hj : j < ρ.length := by
        have := (List.getElem?_eq_some_iff.mp e).1
        simpa using this
      rw [List.getElem?_set_self hj] at e
      exact .inl ⟨rfl, (Option.some.inj e).symm⟩
    · rw [List.getElem?_set_ne (fun z => q z.symm)] at e
      exact .inr ⟨q, e⟩
theorem slot_set {j : Nat} (h : j ≠ i) : slot (σ.set i (some v)) j = slot σ j := by
  unfold slot
  rw [List.getElem?_set_ne (fun z => h z.symm)]
theorem slot_self (h : i < σ.length) : slot (σ.set i (some v)) i = some v := by
  unfold slot
  rw [List.getElem?_set_self h] <;> rfl
theorem FS.store (fs : FS W X g0 g ρ m σ H) (hN : X.N[i]? = some x) (ho : Own X x) {s : Sl} (hs : SlR W g H s (some v)) (hro : ∀ y, s ≠ .ro y)
    (hn : ∀ y a, s = .ow y → v = .ref a → g0.2 a = none ∧ ∀ j z, (ρ[j]? = some (.ow z) ∨ ρ[j]? = some (.ro z)) → slot σ j ≠ some (.ref a)) :
    FS W X g0 (stG X g x v) (put W.P i s ρ) m (σ.set i (some v)) H := by
  have F := stG_F (X := X) (g := g) (x := x) (v := v)
  have hi : i < σ.length := by rw [fs.kr.len]; exact (List.getElem?_eq_some_iff.mp hN).1
  refine ⟨fs.hs.of F.1 F.2.1 F.2.2.1, fs.ext.of F.1 F.2.1 F.2.2.1, by simp [put, fs.len], fun j s' e => ?_, fun j k y z a e1 e2 e3 e4 => ?_, fun j y a e1 e2 => ?_, fs.kr.store hN ho⟩
  · obtain ⟨s0, rfl, q⟩ := put_get e
    rcases q with ⟨ej, es⟩ | ⟨q, e'⟩
    · subst ej es
      rw [slot_self hi]
      exact slR_store fs.kr hN ho hs
    · rw [slot_set q]
      exact slR_store fs.kr hN ho (fs.env j s0 e')
  · obtain ⟨s1, k1, q1⟩ := put_get e1
    have k1 := kill_own k1.symm
    have q2 : ∃ s2, (s2 = .ow z ∨ s2 = .ro z) ∧ ((k = i ∧ s2 = s) ∨ (k ≠ i ∧ ρ[k]? = some s2)) := by
      rcases e2 with e2 | e2
      · obtain ⟨s2, k2, q2⟩ := put_get e2
        exact ⟨s2, .inl (kill_own k2.symm), q2⟩
      · obtain ⟨s2, k2, q2⟩ := put_get e2
        exact ⟨s2, .inr (kill_ro k2.symm), q2⟩
    obtain ⟨s2, k2, q2⟩ := q2
    subst k1
    clear e1 e2
    rcases q1 with ⟨ej, es⟩ | ⟨n1, f1⟩
    · subst ej
      rcases q2 with ⟨ek, _⟩ | ⟨n2, f2⟩
      · exact ek.symm
      · rw [slot_self hi] at e3
        rw [slot_set n2] at e4
        have := (hn y a es.symm (Option.some.inj e3)).2 k z (by rcases k2 with k2 | k2 <;> subst k2 <;> simp [f2])
        exact absurd e4 this
    · rcases q2 with ⟨ek, es⟩ | ⟨n2, f2⟩
      · subst ek
        rw [slot_set n1] at e3
        rw [slot_self hi] at e4
        rcases k2 with k2 | k2
        · subst k2
          have := (hn z a es.symm (Option.some.inj e4)).2 j y (.inl f1)
          exact absurd e3 this
        · exact absurd (es.symm.trans k2) (hro z)
      · rw [slot_set n1] at e3
        rw [slot_set n2] at e4
        exact fs.sep j k y z a f1 (by rcases k2 with k2 | k2 <;> subst k2 <;> simp [f2]) e3 e4
  · obtain ⟨s1, k1, q1⟩ := put_get e1
    have k1 := kill_own k1.symm
    subst k1
    clear e1
    rcases q1 with ⟨ej, es⟩ | ⟨n1, f1⟩
    · subst ej
      rw [slot_self hi] at e2
      exact (hn y a es.symm (Option.some.inj e2)).1
    · rw [slot_set n1] at e2
      exact fs.old j y a f1 e2
/-- a shared value is stored -/
theorem FS.put (fs : FS W X g0 g ρ m σ H) (hN : X.N[i]? = some x) (ho : Own X x) {y : Val} (hs : RepV W g y v) : FS W X g0 (stG X g x v) (Di.put W.P i (.sh y) ρ) m (σ.set i (some v)) H :=
  fs.store hN ho (s := .sh y) ⟨v, rfl, hs⟩ (fun _ => by simp) (fun _ _ e => by cases e)
/-! ### targets -/
/-- other slots stay -/
def Keeps (is : List Nat) (σ σ' : L2.St) : Prop := σ'.length = σ.length ∧ ∀ j, j ∉ is → σ'[j]? = σ[j]?
theorem Keeps.refl (is : List Nat) (σ : L2.St) : Keeps is σ σ := ⟨rfl, fun _ _ => rfl⟩
theorem Keeps.trans {is : List Nat} {σ σ1 σ2 : L2.St} (a : Keeps is σ σ1) (b : Keeps is σ1 σ2) : Keeps is σ σ2 := ⟨b.1.trans a.1, fun j h => (b.2 j h).trans (a.2 j h)⟩
theorem wipe_eq : ∀ {is : List Nat} {σ σ' : L2.St}, Keeps is σ σ' → wipe σ' is = wipe σ is := by
  intro is σ σ' h
  refine List.ext_getElem? fun j => ?_
  by_cases hj : j ∈ is
  · have z : ∀ (τ : L2.St), j < τ.length → (wipe τ is)[j]? = some none := by
      intro τ hl
      clear h
      induction is with
      | nil => cases hj
      | cons v vs ih =>
        unfold wipe
        by_cases q : v = j
        · subst q
          rw [List.getElem?_set_self (by rw [wipe_length]; exact hl)]
        · rw [List.getElem?_set_ne q]
          exact ih (by rcases List.mem_cons.mp hj with e | e; exact absurd e.symm q; exact e)
    by_cases hl : j < σ.length
    · rw [z σ hl, z σ' (by rw [h.1]; exact hl)]
    · rw [List.getElem?_eq_none (by rw [wipe_length, h.1]; omega), List.getElem?_eq_none (by rw [wipe_length]; omega)]
  · rw [wipe_out hj, wipe_out hj]
    exact h.2 j hj
/-- the same things are frozen -/
def SameF (g g' : G) : Prop := g'.F = g.F ∧ g'.μ = g.μ ∧ g'.mid = g.mid
theorem SameF.refl (g : G) : SameF g g := ⟨rfl, rfl, rfl⟩
theorem SameF.trans {g g1 g2 : G} (a : SameF g g1) (b : SameF g1 g2) : SameF g g2 := ⟨b.1.trans a.1, b.2.1.trans a.2.1, b.2.2.trans a.2.2⟩
theorem stG_same {X : Cx} {g : G} {x : Str} {v : V} : SameF g (stG X g x v) := let F := stG_F (X := X) (g := g) (x := x) (v := v); ⟨F.1, F.2.1, F.2.2.1⟩
def tgG (W : Wd) (X : Cx) (g0 : G × Hp) (is : List Nat) (tg : Tg) : TG := fun v σ H Q => ∃ g ρ m y ρ', FS W X g0 g ρ m σ H ∧ RepV W g y v ∧ setTg W.P tg y ρ = some ρ' ∧ ∀ σ' g', FS W X g0 g' ρ' m σ' H → SameF g g' → Keeps is σ σ' → Q σ' H
def tgGs (W : Wd) (X : Cx) (g0 : G × Hp) (is : List Nat) (tgs : List Tg) : TGs := fun vs σ H Q => ∃ g ρ m ys ρ', FS W X g0 g ρ m σ H ∧ RepDs W g.F g.μ g.mid ys vs ∧ setTgs W.P tgs ys ρ = some ρ' ∧ ∀ σ' g', FS W X g0 g' ρ' m σ' H → SameF g g' → Keeps is σ σ' → Q σ' H
theorem pg_weak {X : Cx} {e : Expr} {t t' : TG} (h : PG X e t) (k : ∀ v σ H Q, t' v σ H Q → t v σ H Q) : PG X e t' := ⟨fun pins s σ H v u Q I r q => h.run pins s σ H v u Q I r (k v σ H Q q)⟩
theorem pgs_weak {X : Cx} {e : List Expr} {t t' : TGs} (h : PGs X e t) (k : ∀ v σ H Q, t' v σ H Q → t v σ H Q) : PGs X e t' := ⟨fun pins s σ H v u Q I r q => h.run pins s σ H v u Q I r (k v σ H Q q)⟩
theorem pg_dn {is : List Nat} {pos : Pos} (nd : X.N.Nodup) (hN : X.N[i]? = some x) (ho : Own X x) (hi : i ∈ is) : PG X (.Name x pos) (tgG W X g0 is (.n i)) :=
  pg_weak (pg_name nd hN (ho.elim .inl fun h => .inr h.1) (ho.elim .inr fun h => .inl h.2.1)) fun v σ H Q ⟨g, ρ, m, y, ρ', fs, r, e, q⟩ => by
    simp only [setTg, Option.some.injEq] at e
    subst e
    refine q _ _ (fs.put hN ho r) stG_same ⟨by rw [List.length_set], fun j hj => ?_⟩
    rw [List.getElem?_set_ne (fun z => hj (by rw [← z]; exact hi))]
theorem setTgs_len {P : Prg} : ∀ {ts : List Tg} {xs : List D} {ρ ρ' : Env}, setTgs P ts xs ρ = some ρ' → ts.length = xs.length
  | [], [], _, _, _ => rfl
  | [], _ :: _, _, _, e => by simp [setTgs] at e
  | _ :: _, [], _, _, e => by simp [setTgs] at e
  | t :: ts, x :: xs, ρ, ρ', e => by
    simp only [setTgs] at e
    split at e
    · rw [List.length_cons, List.length_cons, setTgs_len e]
    · cases e
theorem pg_dt {is : List Nat} {pos : Pos} {es : List Expr} {k : Nat} {ts : List Tg} (hK : W.K = X.K) (hc : X.calm = true) (h : PGs X es (tgGs W X g0 is ts)) (hn : (assignEach es X.env).length = ts.length) (hst : (assignEach es X.env).findIdx? (·.1) = none) :
    PG X (.Tuple es k pos) (tgG W X g0 is (.t ts)) :=
  pg_weak (pg_tup hc h hn hst) fun v σ H Q ⟨g, ρ, m, y, ρ', fs, r, e, q⟩ => by
    cases y with
    | c _ _ => simp [setTg] at e
    | l _ => simp [setTg] at e
    | d d =>
      cases d <;> simp only [setTg] at e <;> try (cases e)
      simp only [RepV, RepD] at r
      obtain ⟨a, vs, e1, h1, h2⟩ := r
      rw [hK] at h1
      refine ⟨a, vs, e1, sqT_sub fs.hs.sub h1, ?_, g, ρ, m, _, ρ', fs, h2, e, q⟩
      rw [← h2.length]
      exact (setTgs_len e).symm
theorem pgs_dnil {is : List Nat} : PGs X [] (tgGs W X g0 is []) :=
  pgs_weak pgs_nil fun v σ H Q ⟨g, ρ, m, ys, ρ', fs, r, e, q⟩ => by
    cases ys with
    | nil =>
      simp only [setTgs, Option.some.injEq] at e
      simp only [RepDs] at r
      subst e r
      exact ⟨rfl, q σ g fs (SameF.refl g) (Keeps.refl _ _)⟩
    | cons _ _ => simp [setTgs] at e
theorem pgs_dcons {is : List Nat} {e : Expr} {es : List Expr} {t : Tg} {ts : List Tg} (h1 : PG X e (tgG W X g0 is t)) (h2 : PGs X es (tgGs W X g0 is ts)) (hs : (assignEach (e :: es) X.env).map (·.2) = assign e X.env :: (assignEach es X.env).map (·.2)) :
    PGs X (e :: es) (tgGs W X g0 is (t :: ts)) :=
  pgs_weak (pgs_cons h1 h2 hs) fun v σ H Q ⟨g, ρ, m, ys, ρ', fs, r, e, q⟩ => by
    cases ys with
    | nil => simp [setTgs] at e
    | cons y ys =>
      simp only [setTgs] at e
      split at e
      · rename_i ρ1 e1
        obtain ⟨w, ws, rfl, r1, r2⟩ := r.split
        refine ⟨w, ws, rfl, g, ρ, m, .d y, ρ1, fs, by simpa only [RepV] using r1, e1, fun σ1 g1 fs1 f1 k1 => ?_⟩
        refine ⟨g1, ρ1, m, ys, ρ', fs1, by rw [f1.1, f1.2.1, f1.2.2]; exact r2, e, fun σ2 g2 fs2 f2 k2 => q σ2 g2 fs2 (f1.trans f2) (k1.trans k2)⟩
      · cases e
end
end Di
end
section
set_option Elab.async false
set_option linter.all false
set_option maxRecDepth 100000
set_option maxHeartbeats 2000000
/-! Di.Enum: enumerate of a tuple. -/
namespace PySem
open Sem (wp)
open Builtin
abbrev oTi (l : Addr) : Obj := { cls := .type "tuple_iterator", data := .fields #[.ref l, .int ((0 : Nat) : Int) 0] }
abbrev oEn (i : Addr) : Obj := { cls := .type "enumerate", data := .fields #[.none, .bool false, .ref i, rawInt 0, .none, .none] }
theorem meets_enumT (l : Addr) (items : Array Value) : Meets (Builtin.«enumerate.__new__» ⟨[.type "enumerate", .ref l], []⟩) (fun _ R s =>
    s.heap.IsTuple l items ∧ R (.ok (.ret (.ref (s.heap.push (oTi l)).objs.size)))
      { s with heap := (s.heap.push (oTi l)).push (oEn s.heap.objs.size) }) :=
  .of_wp fun prog w A R s hh => by
    obtain ⟨hl, h⟩ := hh
    obtain ⟨hp, g, d, tk, os⟩ := s
    have sub := sub_enumerate
    have it : ∀ {A : Around} {E : Value → Shared → Prop} {Q : Value → Shared → Prop}, Q (.ref hp.objs.size) ⟨hp.push (oTi l), g, d, tk, os⟩ →
        wpAny (model prog w) A (pyIter (.ref l)) Q E ⟨hp, g, d, tk, os⟩ := fun {A E Q} q => wpAny_pyIter_tuple hl q
    wp_walk
    refine wpAny_stack_any fun st => wpAny_pure ?_
    split
    · rename_i c _ _ _ _ _
      cases (c == Value.type "enumerate")
      · wp_walk using it
        exact ⟨_, rfl, h⟩
      · wp_walk using it
        exact ⟨_, rfl, h⟩
    · wp_walk using it
      exact ⟨_, rfl, h⟩
theorem call_enumT {prog : Program} {w : World} {A : Around} {E : Value → Shared → Prop} {s : Shared} {l : Addr} {items : Array Value} {Q : Value → Shared → Prop} (hl : s.heap.IsTuple l items)
    (h : ∀ h', IsEnum h' (s.heap.objs.size + 1) s.heap.objs.size 0 .none → h'.IsTupleIter s.heap.objs.size l 0 → (∀ b o, s.heap.get? b = some o → h'.get? b = some o) →
      Q (.ref (s.heap.objs.size + 1)) { s with heap := h' }) : wpAny (model prog w) A (call (.type "enumerate") [.ref l]) Q E s := by
  refine callType_new F.called_enumerate (by decide) (F.typeCall_enumerate_1 _) (F.newCall_enumerate_1 _) (fun obj => F.args_object_init_2 obj _) F.entry_enumerate_new (meets_enumT l items) ⟨hl, ?_⟩
  generalize hh1 : s.heap.push (oTi l) = h1
  have sz : h1.objs.size = s.heap.objs.size + 1 := by rw [← hh1, Heap.size_push]
  have en : IsEnum (h1.push (oEn s.heap.objs.size)) (s.heap.objs.size + 1) s.heap.objs.size 0 .none := by
    have q := Heap.get?_push_size h1 (o := (oEn s.heap.objs.size)) rfl
    rw [sz] at q
    exact q
  have ti : h1.get? s.heap.objs.size = some (oTi l) := by rw [← hh1]; exact Heap.get?_push_size _ rfl
  show _ ∧ _
  rw [sz]
  refine ⟨⟨_, en, rfl⟩, h _ en ⟨_, Heap.get?_push_of_some _ ti, rfl, rfl⟩ fun b o x => Heap.get?_push_of_some _ ?_⟩
  rw [← hh1]
  exact Heap.get?_push_of_some _ x
end PySem
namespace Di
open PySem PySem.Spec PyProof.Rows L2 LamX NdefX
/-- a tuple's items as they stand at each turn, each in a new pair -/
def IteT (K : PySem.W.Frag) (a : Addr) : It where
  go i H := ∃ (xs : List V) (x : V), SqT K H a xs ∧ xs[i]? = some x
  yld i H v H' := ∃ T x, v = .ref T ∧ H T = none ∧ H' = upd H T (.tup [.int (i : Nat), x]) ∧ ∀ xs, SqT K H a xs → xs[i]? = some x
  stop i H := ∃ xs : List V, SqT K H a xs ∧ xs.length ≤ i
theorem turn_enumT {P : Program} {w : World} {K : PySem.W.Frag} {elts : List Expr} {kk : Nat} {tpos : Pos} (a e it : Addr) :
    Turn P w K (.Tuple elts kk tpos) (IteT K a) [e, it] e (fun i h => (∃ old, IsEnum h e it ((i : Nat) : Int) old) ∧ h.IsTupleIter it a i ∧ e ≠ it) where
  mem := List.mem_cons_self ..
  obj i h st b hb := by
    obtain ⟨⟨old, en⟩, ⟨o, ho, _, hd⟩, _⟩ := st
    simp only [List.mem_cons, List.not_mem_nil, or_false] at hb
    rcases hb with rfl | rfl
    · exact ⟨_, en, fun v q => nomatch q⟩
    · exact ⟨o, ho, fun v q => by rw [hd] at q; cases q⟩
  keep i h h' st k := by
    obtain ⟨⟨old, en⟩, ti, ne⟩ := st
    exact ⟨⟨old, k e (by simp) _ en⟩, ti.at fun o q => k it (by simp) o q, ne⟩
  item := by
    intro X hP hw hK hc i pins s σ H E I hf st hg
    subst hP hw hK
    obtain ⟨⟨old, en⟩, ti, ne⟩ := st
    obtain ⟨xs, x, hq, hx⟩ := hg
    obtain ⟨its, rv, pt, _⟩ := I.tuple hq
    obtain ⟨u, hu, ru⟩ := rv.get hx
    have le : e < s.heap.objs.size := Heap.lt_size en
    have li : it < s.heap.objs.size := by
      obtain ⟨_, q, _⟩ := ti
      exact Heap.lt_size q
    by_cases hai : a = it
    · exfalso
      subst hai
      obtain ⟨o, q, c, _⟩ := ti
      obtain ⟨o2, q2, c2, _⟩ := pt
      rw [q] at q2; cases q2
      rw [c] at c2
      exact absurd c2 (by simp)
    by_cases hae : a = e
    · exfalso
      subst hae
      obtain ⟨o2, q2, c2, _⟩ := pt
      have en' := en
      unfold IsEnum at en'
      rw [en'] at q2; cases q2
      exact absurd c2 (by simp)
    have small : i < its.toArray.size := by
      have := (List.getElem?_eq_some_iff.mp hu).1
      simpa using this
    refine wpAny_pyNext_enum_itemD (Draws.tuple (A := X.A.in1) (I.ok.hd hc) it a hai its.toArray) en ⟨ti, pt⟩ small ne (by simp only [List.mem_cons, List.not_mem_nil, or_false, not_or]; exact ⟨ne, fun z => hae z.symm⟩) fun y h' tk py ho st' hT hsz hk => ?_
    have ey : y = u := by
      simp only [List.getElem?_toArray] at py
      rw [hu] at py
      exact (Option.some.inj py).symm
    subst ey
    obtain ⟨ti', pt'⟩ := st'
    refine ⟨_, rfl, wpAny_letOwnedTupleGo_enum (s := { s with heap := h', toks := tk + 1 }) ho fun h2 en2 sb => ?_⟩
    have hT2 := (sb.2 s.heap.objs.size (Nat.ne_of_gt le)).trans hT
    have lay : ObjOk X.prog X.w (upd H s.heap.objs.size (.tup [.int (i : Nat), x])) h2 s.heap.objs.size (.tup [.int (i : Nat), x]) :=
      ⟨by show 2 ≤ sizeLine; decide, [.int i tk, y], .cons ⟨_, rfl⟩ (.cons ru .nil), _, hT2, rfl, _, rfl⟩
    have kp : ∀ b ob, b ∉ [e, it] → s.heap.get? b = some ob → h2.get? b = some ob := fun b ob hb q => by
      simp only [List.mem_cons, List.not_mem_nil, or_false, not_or] at hb
      exact (sb.2 b hb.1).trans (hk b ob hb.1 hb.2 q)
    have I1 : L2.Inv X pins σ (upd H s.heap.objs.size (.tup [.int (i : Nat), x])) { s with heap := h2, toks := tk + 1 } := I.turnedNew (ch := [e, it]) kp hf (Nat.le_refl _) lay
    refine ⟨.ref s.heap.objs.size, _, I1, rfl, ⟨_, x, rfl, I.hok.fresh (Nat.le_refl _), rfl, fun ys hy => ?_⟩, ⟨⟨y, ?_⟩, ti'.at fun o q => (sb.2 it (Ne.symm ne)).trans q, ne⟩, fun b hb => ?_⟩
    · rw [I.tuple_inj hy hq]; exact hx
    · rw [show ((i + 1 : Nat) : Int) = (i : Int) + 1 by omega]
      exact en2
    · have lt : b < s.heap.objs.size := by
        simp only [List.mem_cons, List.not_mem_nil, or_false] at hb
        rcases hb with rfl | rfl
        · exact le
        · exact li
      rw [upd_ne (Nat.ne_of_lt lt)]
      exact (hf b hb).1
  done := by
    intro X hP hw hK hc i pins s σ H E I hf st hg
    subst hP hw hK
    obtain ⟨⟨old, en⟩, ti, ne⟩ := st
    obtain ⟨xs, hq, hx⟩ := hg
    obtain ⟨its, rv, pt, _⟩ := I.tuple hq
    obtain ⟨f0, f1, f2, f3, f4, f5⟩ := hf it (by simp)
    have hl := rv.length
    by_cases hai : a = it
    · exfalso
      subst hai
      obtain ⟨o, q, c, _⟩ := ti
      obtain ⟨o2, q2, c2, _⟩ := pt
      rw [q] at q2; cases q2
      rw [c] at c2
      exact absurd c2 (by simp)
    -- past the end or at it
    have tend : ∀ (s : Shared) (Q : Option Value → Shared → Prop) (E : Value → Shared → Prop) (A : Around), A.handled = none → IsEnum s.heap e it ((i : Nat) : Int) old → s.heap.IsTupleIter it a i → s.heap.IsTuple a its.toArray →
        (∀ h', Heap.ExtBut it s.heap h' → Q none { s with heap := h' }) → wpAny (model X.prog X.w) A (pyNext (.ref e)) Q E s := by
      intro s Q E A hA en ti pt hQ
      have hT : s.TypeIs (.ref e) "enumerate" := ⟨_, en, rfl⟩
      unfold pyNext
      refine wpAny_bind (wpAny_attempt (wpAny_callSpecial?_slot (name := Str.ofString "__next__") hT F.slot_enumerate_next
        (wpAny_call_entry F.slot_enumerate_next hT F.entry_enumerate_next ?_ (F.args_enumerate_next_1 _))))
      show wpAny _ _ (field (.ref e) 2 >>= _) _ _ _
      refine wpAny_bind (wpAny_field en rfl (x := .ref it) rfl ?_)
      refine wpAny_bind (wpAny_nextOf_tuple_end hA ti pt (by simp; omega) fun h' x he' hx' => ?_)
      obtain ⟨o, ho, hc⟩ := hx'
      exact wpAny_bind (wpAny_isInstance (T := "StopIteration") (b := true) ⟨o, ho, hc⟩ isSubtype_stop (wpAny_pure (hQ _ he')))
    exact tend s _ E X.A (I.ok.hd hc) en ti pt fun h' eb => ⟨rfl, I.turned (t' := s.toks) (fun b o hb q => eb b o hb q) f0 f1 f3 f4 f5⟩
  self A i s Q E st h := by
    obtain ⟨⟨_, en⟩, _⟩ := st
    exact wpAny_pyIter_enum en h
def iEnumT (K : PySem.W.Frag) (ta : TA) : TI := fun σ H R => ta σ H fun vs H1 => ∃ a xs, vs = [.ref a] ∧ SqT K H1 a xs ∧ R (IteT K a) H1
theorem pi_enumT {X : Cx} {e : Expr} {ta : TA} {p pos tpos : Pos} {elts : List Expr} {kk : Nat} (hg : Gl X "enumerate") (hm : X.mg "enumerate" = none) (ha : PA X [e] ta) (hs : starEach [e] X.env = [(false, eval e X.env)]) :
    PI X (.Tuple elts kk tpos) (.Call (.Name "enumerate" p) [e] [] pos) (iEnumT X.K ta) := by
  refine ⟨fun pins s σ H R I h => ?_⟩
  have run := ha.run pos pins s σ H _ I h
  refine Call_ (ld_blt I hg hm boot_enumerate (PyProof.Rows.callWith_type1 (thn run fun us s1 ⟨vs, H1, I1, r1, q1⟩ => ?_) hs rfl))
  obtain ⟨a, xs, ex, hq, q⟩ := q1
  subst ex
  obtain ⟨u, rfl, ru⟩ := vals1 r1
  cases ru
  obtain ⟨its, rv, pt, _⟩ := I1.tuple hq
  refine call_enumT pt fun h' en ti hk => wpAny_pyIter_enum en ?_
  have I2 : L2.Inv X pins σ H1 { s1 with heap := h' } := I1.kept (t' := s1.toks) hk
  refine ⟨s1.heap.objs.size + 1, [s1.heap.objs.size + 1, s1.heap.objs.size], _, _, H1, rfl, I2, turn_enumT a _ s1.heap.objs.size, ⟨⟨.none, en⟩, ti, Nat.succ_ne_self _⟩, fun b hb => ?_, q⟩
  simp only [List.mem_cons, List.not_mem_nil, or_false] at hb
  have le : s1.heap.objs.size ≤ b := by
    rcases hb with rfl | rfl
    · exact Nat.le_succ _
    · exact Nat.le_refl _
  exact I1.fpOk le (I1.hok.fresh le)
end Di
end
section
set_option Elab.async false
set_option linter.all false
set_option maxRecDepth 100000
set_option maxHeartbeats 2000000
/-! Di.It: what is walked. -/
namespace Di
open PySem PySem.Spec PyProof.Rows L2 LamX NdefX
/-- the iterator yields the items, in each state of S -/
def Wk (W : Wd) (J : It) (S : G → Hp → Prop) (items : List Val) : Prop := ∀ (i : Nat) (g' : G) (H' : Hp) (m' : MS), S g' H' → HpS W g' m' H' →
  (∀ d, items[i]? = some d → J.go i H' ∧ ∀ x H'', J.yld i H' x H'' → ∃ g'', Gr W g' H' g'' H'' ∧ RepV W g'' d x) ∧ (items.length ≤ i → J.stop i H')
section
variable {W : Wd} {S : G → Hp → Prop} {a : Addr} {vs : List V} {items : List Val}
theorem RepVs.le {g : G} {ds : List Val} {vs : List V} {i : Nat} (h : RepVs W g ds vs) (e : ds.length ≤ i) : vs.length ≤ i := by rw [← h.length]; exact e
theorem wk_list (h : ∀ g' H' m', S g' H' → HpS W g' m' H' → SqL W.K H' a vs ∧ RepVs W g' items vs) : Wk W (Itl W.K a) S items := fun i g' H' m' hs hp => by
  obtain ⟨q, r⟩ := h g' H' m' hs hp
  refine ⟨fun d e => ?_, fun e => ⟨vs, q, r.le e⟩⟩
  obtain ⟨v, ev, rv⟩ := r.get e
  refine ⟨⟨vs, v, q, ev⟩, fun x H'' ⟨e1, e2⟩ => ?_⟩
  subst e1
  have := e2 vs q
  rw [ev] at this; cases this
  exact ⟨g', Gr.refl, rv⟩
theorem wk_tup (h : ∀ g' H' m', S g' H' → HpS W g' m' H' → SqT W.K H' a vs ∧ RepVs W g' items vs) : Wk W (Itt W.K a) S items := fun i g' H' m' hs hp => by
  obtain ⟨q, r⟩ := h g' H' m' hs hp
  refine ⟨fun d e => ?_, fun e => ⟨vs, q, r.le e⟩⟩
  obtain ⟨v, ev, rv⟩ := r.get e
  refine ⟨⟨vs, v, q, ev⟩, fun x H'' ⟨e1, e2⟩ => ?_⟩
  subst e1
  have := e2 vs q
  rw [ev] at this; cases this
  exact ⟨g', Gr.refl, rv⟩
theorem wk_str (x : Str) : Wk W (Its x) S ((x.cps.toList.map fun c => D.str ⟨#[c]⟩).map .d) := fun i g' H' m' hs hp => by
  have sz : x.cps.size = x.cps.toList.length := by simp
  refine ⟨fun d e => ?_, fun e => ?_⟩
  · rw [List.getElem?_map, List.getElem?_map] at e
    cases q : x.cps.toList[i]? with
    | none => rw [q] at e; cases e
    | some c =>
      rw [q] at e
      simp only [Option.map_some, Option.some.injEq] at e
      subst e
      have hi := (List.getElem?_eq_some_iff.mp q).1
      refine ⟨by show i < x.cps.size; rw [sz]; exact hi, fun y H'' ⟨e1, c', e2, e3⟩ => ?_⟩
      subst e1 e3
      have e2' : x.cps.toList[i]? = some c' := by simpa using e2
      rw [q] at e2'; cases e2'
      exact ⟨g', Gr.refl, by simp only [RepV, RepD]⟩
  · show x.cps.size ≤ i
    simpa using e
theorem rangeL_get {a b : Int} {i : Nat} {d : D} (e : (rangeL a b)[i]? = some d) : i < (b - a).toNat ∧ d = .int (a + (i : Int)) := by
  unfold rangeL at e
  rw [List.getElem?_map] at e
  cases q : (List.range (b - a).toNat)[i]? with
  | none => rw [q] at e; cases e
  | some j =>
    rw [q] at e
    obtain ⟨h1, h2⟩ := List.getElem?_eq_some_iff.mp q
    simp only [List.length_range] at h1
    simp only [List.getElem_range] at h2
    simp only [Option.map_some, Option.some.injEq] at e
    subst h2
    exact ⟨h1, e.symm⟩
theorem wk_range (a b : Int) : Wk W (Itr a (b - a).toNat) S ((rangeL a b).map .d) := fun i g' H' m' hs hp => by
  refine ⟨fun d e => ?_, fun e => ?_⟩
  · rw [List.getElem?_map] at e
    cases q : (rangeL a b)[i]? with
    | none => rw [q] at e; cases e
    | some j =>
      rw [q] at e
      simp only [Option.map_some, Option.some.injEq] at e
      subst e
      obtain ⟨h1, h2⟩ := rangeL_get q
      subst h2
      refine ⟨h1, fun y H'' ⟨e1, e2⟩ => ?_⟩
      subst e1 e2
      exact ⟨g', Gr.refl, by simp only [RepV, RepD]⟩
  · show (b - a).toNat ≤ i
    simpa [rangeL] using e
theorem enumL_get : ∀ {xs : List D} {n i : Nat} {d : D}, (enumL n xs)[i]? = some d → ∃ x, xs[i]? = some x ∧ d = .tup [.int ((n + i : Nat) : Int), x]
  | [], _, _, _, e => by simp [enumL] at e
  | x :: r, n, 0, d, e => by
    simp only [enumL, List.getElem?_cons_zero, Option.some.injEq] at e
    exact ⟨x, rfl, e.symm⟩
  | x :: r, n, i + 1, d, e => by
    simp only [enumL, List.getElem?_cons_succ] at e
    obtain ⟨y, h1, h2⟩ := enumL_get e
    refine ⟨y, by simpa using h1, ?_⟩
    rw [h2, show n + 1 + i = n + (i + 1) by omega]
theorem enumL_len : ∀ (xs : List D) (n : Nat), (enumL n xs).length = xs.length
  | [], _ => rfl
  | x :: r, n => by simp only [enumL, List.length_cons, enumL_len r]
theorem pair_new {g' : G} {H' : Hp} {m' : MS} {T : Addr} {x : D} {v : V} {i : Nat} (hp : HpS W g' m' H') (n : H' T = none) (r : RepD W g'.F g'.μ g'.mid x v) :
    ∃ g'', Gr W g' H' g'' (upd H' T (.tup [.int (i : Nat), v])) ∧ RepV W g'' (.d (.tup [.int ((i : Nat) : Int), x])) (.ref T) := by
  have e := Gr.new (W := W) (o := HO.tup [.int (i : Nat), v]) n hp.sub
  refine ⟨_, e, ?_⟩
  have r2 : RepDs W g'.F g'.μ g'.mid [.int ((i : Nat) : Int), x] [.int (i : Nat), v] := RepDs.cons (by simp only [RepD]) (RepDs.cons r RepDs.nil)
  simp only [RepV]
  rw [show RepD W (g'.add T (HO.tup [V.int (i : Nat), v])).F (g'.add T (HO.tup [V.int (i : Nat), v])).μ (g'.add T (HO.tup [V.int (i : Nat), v])).mid (D.tup [D.int (i : Nat), x]) (V.ref T) ↔ _ from by simp only [RepD]; exact Iff.rfl]
  exact ⟨T, _, rfl, .inl (.inl upd_same), r2.ext e.ext⟩
theorem wk_enumL {xs : List D} (h : ∀ g' H' m', S g' H' → HpS W g' m' H' → SqL W.K H' a vs ∧ RepDs W g'.F g'.μ g'.mid xs vs) : Wk W (Ite W.K a) S ((enumL 0 xs).map .d) := fun i g' H' m' hs hp => by
  obtain ⟨q, r⟩ := h g' H' m' hs hp
  refine ⟨fun d e => ?_, fun e => ⟨vs, q, by rw [← r.length]; simpa [enumL_len] using e⟩⟩
  rw [List.getElem?_map] at e
  cases z : (enumL 0 xs)[i]? with
  | none => rw [z] at e; cases e
  | some y =>
    rw [z] at e
    simp only [Option.map_some, Option.some.injEq] at e
    subst e
    obtain ⟨x, h1, h2⟩ := enumL_get z
    rw [Nat.zero_add] at h2
    subst h2
    obtain ⟨v, ev, rv⟩ := r.get h1
    refine ⟨⟨vs, v, q, ev⟩, fun y H'' ⟨T, w, e1, e2, e3, e4⟩ => ?_⟩
    subst e1 e3
    have := e4 vs q
    rw [ev] at this; cases this
    exact pair_new hp e2 rv
theorem wk_enumT {xs : List D} (h : ∀ g' H' m', S g' H' → HpS W g' m' H' → SqT W.K H' a vs ∧ RepDs W g'.F g'.μ g'.mid xs vs) : Wk W (IteT W.K a) S ((enumL 0 xs).map .d) := fun i g' H' m' hs hp => by
  obtain ⟨q, r⟩ := h g' H' m' hs hp
  refine ⟨fun d e => ?_, fun e => ⟨vs, q, by rw [← r.length]; simpa [enumL_len] using e⟩⟩
  rw [List.getElem?_map] at e
  cases z : (enumL 0 xs)[i]? with
  | none => rw [z] at e; cases e
  | some y =>
    rw [z] at e
    simp only [Option.map_some, Option.some.injEq] at e
    subst e
    obtain ⟨x, h1, h2⟩ := enumL_get z
    rw [Nat.zero_add] at h2
    subst h2
    obtain ⟨v, ev, rv⟩ := r.get h1
    refine ⟨⟨vs, v, q, ev⟩, fun y H'' ⟨T, w, e1, e2, e3, e4⟩ => ?_⟩
    subst e1 e3
    have := e4 vs q
    rw [ev] at this; cases this
    exact pair_new hp e2 rv
end
/-! ### the containers -/
/-- frozen things stay -/
structure SubF (g g' : G) : Prop where
  sub : ∀ a o, g.F a = some o → g'.F a = some o
  mid : (g'.mid = g.mid ∧ g'.μ = g.μ) ∨ g.mid < g'.mid
theorem SubF.refl (g : G) : SubF g g := ⟨fun _ _ h => h, .inl ⟨rfl, rfl⟩⟩
theorem SubF.trans {g g1 g2 : G} (a : SubF g g1) (b : SubF g1 g2) : SubF g g2 := ⟨fun c o h => b.sub c o (a.sub c o h), by
  rcases a.mid with ⟨e1, e2⟩ | e <;> rcases b.mid with ⟨f1, f2⟩ | f
  · exact .inl ⟨f1.trans e1, f2.trans e2⟩
  · exact .inr (by omega)
  · exact .inr (by omega)
  · exact .inr (by omega)⟩
theorem ExtF.subF {g g' : G} {H H' : Hp} (e : ExtF g H g' H') : SubF g g' := ⟨e.sub, e.mid.imp id And.left⟩
theorem SameF.subF {g g' : G} (e : SameF g g') : SubF g g' := ⟨by rw [e.1]; exact fun _ _ h => h, .inl ⟨e.2.2, e.2.1⟩⟩
/-- how a walked container lies: in all states of S its items stand -/
inductive Cont (W : Wd) (S : G → Hp → Prop) : Val → V → Prop
  | lst {xs : List D} {a : Addr} {vs : List V} (h : ∀ g' H' m', S g' H' → HpS W g' m' H' → SqL W.K H' a vs ∧ RepDs W g'.F g'.μ g'.mid xs vs) : Cont W S (.d (.lst xs)) (.ref a)
  | l {xs : List Val} {a : Addr} {vs : List V} (h : ∀ g' H' m', S g' H' → HpS W g' m' H' → SqL W.K H' a vs ∧ RepVs W g' xs vs) : Cont W S (.l xs) (.ref a)
  | tup {xs : List D} {a : Addr} {vs : List V} (h : ∀ g' H' m', S g' H' → HpS W g' m' H' → SqT W.K H' a vs ∧ RepDs W g'.F g'.μ g'.mid xs vs) : Cont W S (.d (.tup xs)) (.ref a)
  | str {z : Str} : Cont W S (.d (.str z)) (.str z)
  | int {i : Int} : Cont W S (.d (.int i)) (.int i)
  | other {x : Val} {v : V} (h : ∀ it, itemsV it [x] = none) (h2 : ∀ it y, itemsV it [x, y] = none) (h3 : ∀ it y, itemsV it [y, x] = none) : Cont W S x v
section
variable {W : Wd} {X : Cx} {g0 : G × Hp} {g : G} {ρ : Env} {m : MS} {σ : L2.St} {H : Hp}
theorem cont_data {d : D} {v : V} (r : RepD W g.F g.μ g.mid d v) : Cont W (fun g' _ => SubF g g') (.d d) v := by
  have mono : ∀ {g' : G} {xs : List D} {vs : List V}, SubF g g' → RepDs W g.F g.μ g.mid xs vs → RepDs W g'.F g'.μ g'.mid xs vs := fun {g' xs vs} s h => RepDs.mono s.sub s.mid xs vs h
  cases d with
  | lst xs =>
    simp only [RepD] at r
    obtain ⟨a, vs, rfl, h1, h2⟩ := r
    exact .lst fun g' H' m' s hp => ⟨.inl (.inl (hp.sub _ _ (s.sub _ _ h1))), mono s h2⟩
  | tup xs =>
    simp only [RepD] at r
    obtain ⟨a, vs, rfl, h1, h2⟩ := r
    exact .tup fun g' H' m' s hp => ⟨sqT_sub (fun a o e => hp.sub _ _ (s.sub _ _ e)) h1, mono s h2⟩
  | str z =>
    simp only [RepD] at r
    subst r
    exact .str
  | int i =>
    simp only [RepD] at r
    subst r
    exact .int
  | non => exact .other (fun it => by cases it <;> rfl) (fun it y => by cases it <;> cases y <;> rfl) (fun it y => by cases it <;> cases y <;> first | rfl | (rename_i z; cases z <;> rfl))
  | bl b => exact .other (fun it => by cases it <;> rfl) (fun it y => by cases it <;> cases y <;> rfl) (fun it y => by cases it <;> cases y <;> first | rfl | (rename_i z; cases z <;> rfl))
  | dct _ _ => exact .other (fun it => by cases it <;> rfl) (fun it y => by cases it <;> cases y <;> rfl) (fun it y => by cases it <;> cases y <;> first | rfl | (rename_i z; cases z <;> rfl))
  | st _ => exact .other (fun it => by cases it <;> rfl) (fun it y => by cases it <;> cases y <;> rfl) (fun it y => by cases it <;> cases y <;> first | rfl | (rename_i z; cases z <;> rfl))
  | scr _ => exact .other (fun it => by cases it <;> rfl) (fun it y => by cases it <;> cases y <;> rfl) (fun it y => by cases it <;> cases y <;> first | rfl | (rename_i z; cases z <;> rfl))
end
end Di
end
section
set_option Elab.async false
set_option linter.all false
set_option maxRecDepth 100000
set_option maxHeartbeats 2000000
/-! Di.Pi: iterators of a loop (f) or a comprehension. -/
namespace Di
open PySem PySem.Spec PyProof.Rows L2 LamX NdefX
def SSb (f : Bool) (g : G) (H : Hp) (g' : G) (H' : Hp) : Prop := match f with
  | true => SubF g g'
  | false => Ext g H g' H'
def eqb (f : Bool) (it : ItK) (ρ : Env) (xs : List OV) : Option (List Val) := match f with
  | true => forO it xs
  | false => itemsO ρ it xs
section
variable {W : Wd} {xc : Nat → Option XcA} {X : Cx} {g0 : G × Hp} {g : G} {ρ : Env} {m : MS} {σ : L2.St} {H : Hp} {E : WX} {f : Bool}
theorem SSb.refl : SSb f g H g H := by cases f; exact Ext.refl g H; exact SubF.refl g
theorem Cont.mono {S S' : G → Hp → Prop} {x : Val} {v : V} (h : ∀ g H, S' g H → S g H) (c : Cont W S x v) : Cont W S' x v := by
  cases c with
  | lst k => exact .lst fun g' H' m' s hp => k g' H' m' (h _ _ s) hp
  | l k => exact .l fun g' H' m' s hp => k g' H' m' (h _ _ s) hp
  | tup k => exact .tup fun g' H' m' s hp => k g' H' m' (h _ _ s) hp
  | str => exact .str
  | int => exact .int
  | other a b c => exact .other a b c
theorem items_dct (ks vs : List D) : (∀ it, itemsV it [.d (.dct ks vs)] = none) ∧ (∀ it y, itemsV it [.d (.dct ks vs), y] = none) ∧ ∀ it y, itemsV it [y, .d (.dct ks vs)] = none :=
  ⟨fun it => by cases it <;> rfl, fun it y => by cases it <;> cases y <;> rfl, fun it y => by cases it <;> cases y <;> first | rfl | (rename_i z; cases z <;> rfl)⟩
theorem cont_ov {x : OV} {v : V} {d : Val} (fs : FS W X g0 g ρ m σ H) (r : RepOV W ρ σ g x v) (e : x.r ρ = some d) (hf : f = true → ∃ dd, x = .v (.d dd)) : Cont W (SSb f g H) d v := by
  cases f with
  | true =>
    obtain ⟨dd, rfl⟩ := hf rfl
    simp only [OV.r, Option.some.injEq] at e
    subst e
    exact cont_data (by simpa only [RepOV, RepV] using r)
  | false =>
    have own : ∀ i y, (ρ[i]? = some (.ow y) ∨ ρ[i]? = some (.ro y)) → slot σ i = some v → Cont W (SSb false g H) y v := fun i y h sl => by
      have hh : ∃ a, slot σ i = some (.ref a) ∧ g.F a = none ∧ ¬ g.mu a ∧ RepO W g H y a := by
        rcases h with h | h
        · exact fs.env i _ h
        · exact fs.env i _ h
      obtain ⟨a, e1, _, n, ro⟩ := hh
      rw [e1] at sl; cases sl
      unfold RepO at ro
      split at ro
      · obtain ⟨vs, h1, h2⟩ := ro
        exact .lst fun g' H' m' s hp => ⟨.inl (.inl (s.keep _ _ h1 n (fun _ => by simp))), h2.ext s⟩
      · obtain ⟨i1, i2, i3⟩ := items_dct _ _
        exact .other i1 i2 i3
      · obtain ⟨vs, h1, h2⟩ := ro
        exact .l fun g' H' m' s hp => ⟨.inl (.inl (s.keep _ _ h1 n (fun _ => by simp))), h2.ext s⟩
      · exact ro.elim
    cases x with
    | v x =>
      simp only [OV.r, Option.some.injEq] at e
      subst e
      cases x with
      | d dd => exact (cont_data (by simpa only [RepOV, RepV] using r)).mono fun g' H' (s : Ext g H g' H') => s.toExtF.subF
      | c k cap => exact .other (fun it => by cases it <;> rfl) (fun it y => by cases it <;> rfl) (fun it y => by cases it <;> cases y <;> rfl)
      | l xs =>
        simp only [RepOV, RepV] at r
        obtain ⟨a, vs, rfl, h1, h2⟩ := r
        exact .l fun g' H' m' s hp => ⟨.inl (.inl (hp.sub _ _ (s.sub _ _ h1))), h2.ext s⟩
    | o i =>
      obtain ⟨r1, _⟩ := r
      simp only [OV.r] at e
      cases q : ρ[i]? with
      | none => rw [q] at e; cases e
      | some s =>
        rw [q] at e
        cases s <;> simp only at e <;> try (cases e)
        · exact own i _ (.inl q) r1
        · exact own i _ (.inr q) r1
theorem datas_one {x : Val} {ds : List D} (e : datas [x] = some ds) : ∃ d, x = .d d ∧ ds = [d] := by
  cases x <;> simp only [datas] at e <;> cases e
  exact ⟨_, rfl, rfl⟩
theorem eqb_one {it : ItK} {x : OV} {items : List Val} (e : eqb f it ρ [x] = some items) : ∃ d, x.r ρ = some d ∧ itemsV it [d] = some items ∧ (f = true → ∃ dd, x = .v (.d dd)) := by
  cases f with
  | true =>
    simp only [eqb, forO] at e
    split at e <;> try (cases e)
    rename_i ds ed
    split at e <;> try (cases e)
    rename_i dd edd
    split at e <;> try (cases e)
    rename_i l el
    cases x with
    | o i => simp [vals] at ed
    | v x =>
      simp only [vals, Option.some.injEq] at ed
      subst ed
      obtain ⟨d, rfl, rfl⟩ := datas_one edd
      refine ⟨.d d, rfl, ?_, fun _ => ⟨d, rfl⟩⟩
      simp only [itemsV, edd, el]
  | false =>
    simp only [eqb, itemsO] at e
    split at e <;> try (cases e)
    rename_i ds ed
    simp only [refs] at ed
    split at ed <;> try (cases ed)
    rename_i d hd
    exact ⟨d, hd, e, fun h => by cases h⟩
/-- the reading of what is walked: the items, and an iterator that yields them -/
abbrev TW (W : Wd) (xc : Nat → Option XcA) (X : Cx) (g0 : G × Hp) (E : WX) (f : Bool) (c : Env → M (List Val)) : TI := tI W xc X g0 E (fun _ _ g H items J => Wk W J (SSb f g H) items) c
variable {tg iter ea eb : Expr} {c : Env → M OV} {cs : Env → M (List OV)}
theorem pi_dseq (hK : W.K = X.K) (he : PE X iter (TV W xc X g0 E c)) : PI X tg iter (TW W xc X g0 E f fun ρ => M.bind (M.bind (c ρ) fun x => M.bind (ret1 []) fun xs => ret1 (x :: xs)) fun xs => ofO (eqb f .seq ρ xs)) :=
  ⟨fun pins s σ H R I ⟨g, ρ, m, fs, p⟩ => by
    cases ec : c ρ m with
    | bad =>
      simp only [M.bind, ec] at p
      exact p.elim
    | ex k q m1 =>
      simp only [M.bind, ec] at p
      exact (pi_list he).run pins s σ H R I ⟨g, ρ, m, fs, by rw [ec]; exact p⟩
    | ok x m1 =>
      simp only [M.bind, ec, ret1] at p
      obtain ⟨items, ei, p⟩ := p.ofO
      obtain ⟨d, ed, e2, hf⟩ := eqb_one ei
      have ct : ∀ {v g' H'}, Ext g H g' H' → HpS W g' m1 H' → RepOV W ρ σ g' x v → FS W X g0 g' ρ m1 σ H' ∧ Cont W (SSb f g' H') d v := fun {v g' H'} e hs r =>
        ⟨fs.step e hs, cont_ov (fs.step e hs) r ed hf⟩
      have no : ∀ {α : Prop}, itemsV .seq [d] = none → α := fun h => by rw [h] at e2; cases e2
      have kL : (∃ xs, d = .d (.lst xs)) ∨ (∃ xs, d = .l xs) → wpAny (model X.prog X.w) X.A (eval iter X.env) (fun v s1 => wpAny (model X.prog X.w) X.A (pyIter v) (PIE X pins σ tg R) X.xe s1) X.xe s := fun hd =>
        (pi_list he).run pins s σ H R I ⟨g, ρ, m, fs, by
          rw [ec]
          intro v g' H' e hs r
          obtain ⟨fs', ct⟩ := ct e hs r
          rcases hd with ⟨xs, rfl⟩ | ⟨xs, rfl⟩
          · cases ct with
            | lst h =>
              simp only [itemsV, datas, itemsD, seqD, Option.some.injEq] at e2
              subst e2
              rw [hK] at h
              refine ⟨_, rfl, ⟨_, (h g' H' m1 SSb.refl hs).1⟩, ?_⟩
              have wk := wk_list (W := W) (S := SSb f g' H') (items := xs.map .d) fun g2 H2 m2 s hp => by
                have z := h g2 H2 m2 s hp
                exact ⟨by rw [hK]; exact z.1, RepVs.data.mpr z.2⟩
              rw [hK] at wk
              exact p _ g' H' e hs wk
            | other h _ _ => exact no (h _)
          · cases ct with
            | l h =>
              simp only [itemsV, datas, Option.some.injEq] at e2
              subst e2
              rw [hK] at h
              refine ⟨_, rfl, ⟨_, (h g' H' m1 SSb.refl hs).1⟩, ?_⟩
              have wk := wk_list (W := W) (S := SSb f g' H') (items := xs) fun g2 H2 m2 s hp => by
                have z := h g2 H2 m2 s hp
                exact ⟨by rw [hK]; exact z.1, z.2⟩
              rw [hK] at wk
              exact p _ g' H' e hs wk
            | other h _ _ => exact no (h _)⟩
      cases d with
      | l xs => exact kL (.inr ⟨xs, rfl⟩)
      | c _ _ => exact no rfl
      | d d =>
        cases d with
        | lst xs => exact kL (.inl ⟨xs, rfl⟩)
        | tup xs =>
          refine (pi_tup he).run pins s σ H R I ⟨g, ρ, m, fs, ?_⟩
          rw [ec]
          intro v g' H' e hs r
          obtain ⟨fs', ct⟩ := ct e hs r
          cases ct with
          | tup h =>
            simp only [itemsV, datas, itemsD, seqD, Option.some.injEq] at e2
            subst e2
            rw [hK] at h
            refine ⟨_, rfl, ⟨_, (h g' H' m1 SSb.refl hs).1⟩, ?_⟩
            have wk := wk_tup (W := W) (S := SSb f g' H') (items := xs.map .d) fun g2 H2 m2 s hp => by
              have z := h g2 H2 m2 s hp
              exact ⟨by rw [hK]; exact z.1, RepVs.data.mpr z.2⟩
            rw [hK] at wk
            exact p _ g' H' e hs wk
          | other h _ _ => exact no (h _)
        | str z =>
          refine (pi_str he).run pins s σ H R I ⟨g, ρ, m, fs, ?_⟩
          rw [ec]
          intro v g' H' e hs r
          obtain ⟨fs', ct⟩ := ct e hs r
          cases ct with
          | str =>
            simp only [itemsV, datas, itemsD, seqD, Option.some.injEq] at e2
            subst e2
            exact ⟨z, rfl, p _ g' H' e hs (wk_str z)⟩
          | other h _ _ => exact no (h _)
        | _ => exact no rfl⟩
theorem pi_denum {elts : List Expr} {kk : Nat} {p1 tpos pos : Pos} (hK : W.K = X.K) (hg : Gl X "enumerate") (hm : X.mg "enumerate" = none) (ha : PE X ea (TV W xc X g0 E c)) (hs : starEach [ea] X.env = [(false, eval ea X.env)]) :
    PI X (.Tuple elts kk tpos) (.Call (.Name "enumerate" p1) [ea] [] pos) (TW W xc X g0 E f fun ρ => M.bind (M.bind (c ρ) fun x => M.bind (ret1 []) fun xs => ret1 (x :: xs)) fun xs => ofO (eqb f .enum ρ xs)) :=
  have hA : PA X [ea] (TLs W xc X g0 E fun ρ => M.bind (c ρ) fun x => M.bind (ret1 []) fun xs => ret1 (x :: xs)) := pa_dcons ha pa_dnil hs
  ⟨fun pins s σ H R I ⟨g, ρ, m, fs, p⟩ => by
    cases ec : c ρ m with
    | bad =>
      simp only [M.bind, ec] at p
      exact p.elim
    | ex k q m1 =>
      simp only [M.bind, ec] at p
      exact (pi_enum hg hm hA hs).run pins s σ H R I ⟨g, ρ, m, fs, by simp only [M.bind, ec]; exact p⟩
    | ok x m1 =>
      simp only [M.bind, ec, ret1] at p
      obtain ⟨items, ei, p⟩ := p.ofO
      obtain ⟨d, ed, e2, hf⟩ := eqb_one ei
      have ct : ∀ {v g' H'}, Ext g H g' H' → HpS W g' m1 H' → RepOV W ρ σ g' x v → FS W X g0 g' ρ m1 σ H' ∧ Cont W (SSb f g' H') d v := fun {v g' H'} e hs r =>
        ⟨fs.step e hs, cont_ov (fs.step e hs) r ed hf⟩
      have no : ∀ {α : Prop}, itemsV .enum [d] = none → α := fun h => by rw [h] at e2; cases e2
      cases d with
      | l xs =>
        refine no ?_
        simp only [itemsV, datas]
      | c _ _ => exact no rfl
      | d d =>
        cases d with
        | lst xs =>
          refine (pi_enum hg hm hA hs).run pins s σ H R I ⟨g, ρ, m, fs, ?_⟩
          simp only [M.bind, ec, ret1]
          intro vs g' H' e hs' r
          cases r with
          | cons r t =>
            cases t
            obtain ⟨fs', ct⟩ := ct e hs' r
            cases ct with
            | lst h =>
              simp only [itemsV, datas, itemsD, Option.some.injEq] at e2
              subst e2
              rw [hK] at h
              refine ⟨_, _, rfl, (h g' H' m1 SSb.refl hs').1, ?_⟩
              have wk := wk_enumL (W := W) (S := SSb f g' H') (xs := xs) fun g2 H2 m2 s hp => by
                have z := h g2 H2 m2 s hp
                exact ⟨by rw [hK]; exact z.1, z.2⟩
              rw [hK] at wk
              exact p _ g' H' e hs' wk
            | other h _ _ => exact no (h _)
        | tup xs =>
          refine (pi_enumT hg hm hA hs).run pins s σ H R I ⟨g, ρ, m, fs, ?_⟩
          simp only [M.bind, ec, ret1]
          intro vs g' H' e hs' r
          cases r with
          | cons r t =>
            cases t
            obtain ⟨fs', ct⟩ := ct e hs' r
            cases ct with
            | tup h =>
              simp only [itemsV, datas, itemsD, Option.some.injEq] at e2
              subst e2
              rw [hK] at h
              refine ⟨_, _, rfl, (h g' H' m1 SSb.refl hs').1, ?_⟩
              have wk := wk_enumT (W := W) (S := SSb f g' H') (xs := xs) fun g2 H2 m2 s hp => by
                have z := h g2 H2 m2 s hp
                exact ⟨by rw [hK]; exact z.1, z.2⟩
              rw [hK] at wk
              exact p _ g' H' e hs' wk
            | other h _ _ => exact no (h _)
        | _ => exact no rfl⟩
theorem eqb_range {xs : List OV} {items : List Val} (e : eqb f .range ρ xs = some items) : ∃ ds l, refs ρ xs = some (ds.map Val.d) ∧ rangeD ds = some l ∧ items = l.map .d := by
  have key : ∀ {ds : List Val}, itemsV .range ds = some items → ∃ d l, ds = d.map Val.d ∧ rangeD d = some l ∧ items = l.map .d := fun {ds} e => by
    simp only [itemsV] at e
    split at e
    · rename_i d ed
      simp only [itemsD] at e
      split at e <;> try (cases e)
      rename_i l el
      exact ⟨d, l, datas_eq ed, el, rfl⟩
    · cases e
  cases f with
  | false =>
    simp only [eqb, itemsO] at e
    split at e <;> try (cases e)
    rename_i ds ed
    obtain ⟨d, l, rfl, h2, h3⟩ := key e
    exact ⟨d, l, ed, h2, h3⟩
  | true =>
    simp only [eqb, forO] at e
    split at e <;> try (cases e)
    rename_i ds ed
    split at e <;> try (cases e)
    rename_i d edd
    split at e <;> try (cases e)
    rename_i l el
    have := datas_eq edd
    subst this
    refine ⟨d, l, ?_, el, rfl⟩
    clear el edd
    revert ed
    generalize d.map Val.d = w
    intro ed
    clear key d l
    induction xs generalizing w with
    | nil => simp only [vals, Option.some.injEq] at ed; subst ed; rfl
    | cons x r ih =>
      cases x with
      | o i => simp [vals] at ed
      | v x =>
        simp only [vals] at ed
        split at ed <;> try (cases ed)
        rename_i ws ew
        simp only [refs, OV.r, ih ws ew]
theorem refs_rep (fs : FS W X g0 g ρ m σ H) : ∀ {xs : List OV} {vs : List V} {ds : List D}, Paired (fun x v => RepOV W ρ σ g x v) xs vs → refs ρ xs = some (ds.map Val.d) → RepRs W g H ds vs
  | [], _, [], .nil, _ => .nil
  | [], _, _ :: _, .nil, e => by simp [refs] at e
  | x :: r, _, [], .cons h t, e => by
    exfalso
    simp only [refs, List.map_nil] at e
    split at e
    · cases e
    · split at e <;> cases e
  | x :: r, _, d :: ds, .cons h t, e => by
    simp only [refs] at e
    split at e <;> try (cases e)
    rename_i d' ed
    split at e <;> try (cases e)
    rename_i ds' es
    exact .cons (h.rr fs ed) (refs_rep fs t es)
theorem small_iff {i : Int} (h : small i = true) : -(2 ^ 62) ≤ i ∧ i < 2 ^ 62 := by
  unfold small at h
  have := Nat.le_of_ble_eq_true h
  omega
theorem Post.bindE {α β γ δ : Type} {R : G → Hp → α → β → Prop} {R' : G → Hp → γ → δ → Prop} {Q : δ → Hp → Prop} {c : M α} {f : α → M γ} (fs : FS W X g0 g ρ m σ H) (p : Post W xc g σ H R' Q E (M.bind c f m)) :
    Post W xc g σ H R (fun x H1 => ∃ g1 m1 a, c m = .ok a m1 ∧ FS W X g0 g1 ρ m1 σ H1 ∧ Ext g H g1 H1 ∧ R g1 H1 a x ∧ Post W xc g1 σ H1 R' Q E (f a m1)) E (c m) := by
  unfold M.bind at p
  cases h : c m with
  | ok a m1 =>
    rw [h] at p
    exact fun b g1 H1 e hs r => ⟨g1, m1, a, rfl, fs.step e hs, e, r, Post.ext e p⟩
  | ex k q m1 => rw [h] at p; exact p
  | bad => rw [h] at p; exact p
theorem one_ok {c : M OV} {xs : List OV} {m m1 : MS} (h : M.bind c (fun x => M.bind (ret1 []) fun xs => ret1 (x :: xs)) m = .ok xs m1) : ∃ x, xs = [x] := by
  unfold M.bind ret1 at h
  cases e : c m with
  | ok a m2 =>
    rw [e] at h
    simp only [Out.ok.injEq] at h
    exact ⟨a, h.1.symm⟩
  | ex _ _ _ => rw [e] at h; cases h
  | bad => rw [e] at h; cases h
theorem two_ok {c d : M OV} {xs : List OV} {m m1 : MS} (h : M.bind c (fun x => M.bind (M.bind d (fun x => M.bind (ret1 []) fun xs => ret1 (x :: xs))) fun xs => ret1 (x :: xs)) m = .ok xs m1) : ∃ x y, xs = [x, y] := by
  unfold M.bind at h
  cases e : c m with
  | ok a m2 =>
    rw [e] at h
    simp only at h
    cases e2 : (M.bind d (fun x => M.bind (ret1 []) fun xs => ret1 (x :: xs))) m2 with
    | ok ys m3 =>
      obtain ⟨y, rfl⟩ := one_ok e2
      unfold M.bind at e2
      rw [e2] at h
      simp only [ret1, Out.ok.injEq] at h
      exact ⟨a, y, h.1.symm⟩
    | ex _ _ _ =>
      unfold M.bind at e2
      rw [e2] at h; cases h
    | bad =>
      unfold M.bind at e2
      rw [e2] at h; cases h
  | ex _ _ _ => rw [e] at h; cases h
  | bad => rw [e] at h; cases h
theorem refs_len : ∀ {xs : List OV} {ds : List Val}, refs ρ xs = some ds → ds.length = xs.length
  | [], _, e => by simp only [refs, Option.some.injEq] at e; subst e; rfl
  | x :: r, _, e => by
    simp only [refs] at e
    split at e <;> try (cases e)
    split at e <;> try (cases e)
    rename_i ds' es
    rw [List.length_cons, List.length_cons, refs_len es]
theorem pi_drange1 {p1 pos : Pos} (hg : Gl X "range") (hm : X.mg "range" = none) (ha : PE X ea (TV W xc X g0 E c)) (hs : starEach [ea] X.env = [(false, eval ea X.env)]) :
    PI X tg (.Call (.Name "range" p1) [ea] [] pos) (TW W xc X g0 E f fun ρ => M.bind (M.bind (c ρ) fun x => M.bind (ret1 []) fun xs => ret1 (x :: xs)) fun xs => ofO (eqb f .range ρ xs)) :=
  ⟨fun pins s σ H R I ⟨g, ρ, m, fs, p⟩ => by
    refine (pi_range1 hg hm (pa_dcons ha pa_dnil hs) hs).run pins s σ H R I ⟨g, ρ, m, fs, (p.bindE fs).mono fun vs H1 ⟨g1, m1, xs, ok, fs1, e1, r1, p1⟩ => ?_⟩
    obtain ⟨x, rfl⟩ := one_ok ok
    obtain ⟨items, ei, p1⟩ := p1.ofO
    obtain ⟨ds, l, e1, e2, rfl⟩ := eqb_range ei
    have hl := refs_len e1
    have rr := refs_rep fs1 r1 e1
    simp only [List.length_map, List.length_cons, List.length_nil] at hl
    unfold rangeD at e2
    split at e2
    · rename_i b
      split at e2 <;> try (cases e2)
      rename_i hb
      obtain ⟨v, rfl, rv⟩ := rr1 rr
      have := rv.int
      subst this
      obtain ⟨k1, k2⟩ := small_iff hb
      refine ⟨b, rfl, k1, k2, p1.at fs1 (b := Itr 0 b.toNat) ?_⟩
      have z := wk_range (W := W) (S := SSb f g1 H1) 0 b
      rw [Int.sub_zero] at z
      exact z
    · simp at hl
    · cases e2⟩
theorem pi_drange2 {p1 pos : Pos} {d : Env → M OV} (hg : Gl X "range") (hm : X.mg "range" = none) (ha : PE X ea (TV W xc X g0 E c)) (hb : PE X eb (TV W xc X g0 E d)) (hs : starEach [ea, eb] X.env = [(false, eval ea X.env), (false, eval eb X.env)]) (hs2 : starEach [eb] X.env = [(false, eval eb X.env)]) :
    PI X tg (.Call (.Name "range" p1) [ea, eb] [] pos) (TW W xc X g0 E f fun ρ => M.bind (M.bind (c ρ) fun x => M.bind (M.bind (d ρ) fun x => M.bind (ret1 []) fun xs => ret1 (x :: xs)) fun xs => ret1 (x :: xs)) fun xs => ofO (eqb f .range ρ xs)) :=
  ⟨fun pins s σ H R I ⟨g, ρ, m, fs, p⟩ => by
    refine (pi_range2 hg hm (pa_dcons ha (pa_dcons hb pa_dnil hs2) (by rw [hs, hs2])) hs hs2).run pins s σ H R I ⟨g, ρ, m, fs, (p.bindE fs).mono fun vs H1 ⟨g1, m1, xs, ok, fs1, e1, r1, p1⟩ => ?_⟩
    obtain ⟨x, y, rfl⟩ := two_ok ok
    obtain ⟨items, ei, p1⟩ := p1.ofO
    obtain ⟨ds, l, e1, e2, rfl⟩ := eqb_range ei
    have hl := refs_len e1
    have rr := refs_rep fs1 r1 e1
    simp only [List.length_map, List.length_cons, List.length_nil] at hl
    unfold rangeD at e2
    split at e2
    · simp at hl
    · rename_i a b
      split at e2 <;> try (cases e2)
      rename_i hb
      rw [Bool.and_eq_true] at hb
      obtain ⟨v, w, rfl, rv, rw'⟩ := rr2 rr
      have h1 := rv.int
      have h2 := rw'.int
      subst h1 h2
      obtain ⟨k1, k2⟩ := small_iff hb.1
      obtain ⟨k3, k4⟩ := small_iff hb.2
      exact ⟨a, b, rfl, ⟨k1, k2, k3, k4⟩, p1.at fs1 (b := Itr a (b - a).toNat) (wk_range a b)⟩
    · cases e2⟩
end
end Di
end
section
set_option Elab.async false
set_option linter.all false
set_option maxRecDepth 100000
set_option maxHeartbeats 2000000
/-! Di.Comp: a comprehension. -/
namespace Di
open PySem PySem.Spec PyProof.Rows L2 LamX NdefX
/-! ### heaps that differ at a list of one's own -/
section
variable {W : Wd} {g g' : G} {H : Hp} {m : MS} {D : Addr} {o : HO} {xs : List V}
theorem tab_upd {T : List NTab} {F : Hp} (t : TabsF T F H) (h : ∀ u, H D = some u → (∃ ys, u = .lst ys) ∨ ∃ kvs, u = .dK kvs) : TabsF T F (upd H D o) := t.mono (fun _ _ e => e) fun a ps e => by
  have ne : a ≠ D := fun z => by
    subst z
    rcases h _ e with ⟨ys, q⟩ | ⟨ys, q⟩ <;> cases q
  rw [upd_ne ne]
  exact e
theorem HpS.updL (h : HpS W g m H) (n : g.F D = none) (nm : ¬ g.mu D) (hD : ∀ u, H D = some u → (∃ ys, u = .lst ys) ∨ ∃ kvs, u = .dK kvs) : HpS W g m (upd H D o) := by
  refine ⟨fun a u e => ?_, h.mu, h.mid, fun h0 => ?_, tab_upd h.tabs hD, h.nt⟩
  · rw [upd_ne (fun z => by rw [z, n] at e; cases e)]
    exact h.sub a u e
  · obtain ⟨ca, h1, h2⟩ := h.mst h0
    exact ⟨ca, by rw [upd_ne (fun z => nm ⟨h0, z.symm⟩)]; exact h1, h2⟩
theorem ExtF.updL {H0 : Hp} (e : ExtF g H0 g' H) (hn : H0 D = none) : ExtF g H0 g' (upd H D o) := by
  refine ⟨e.sub, e.new, fun a u q hm ht => ?_, fun a q => ?_, e.mid⟩
  · rw [upd_ne (fun z => by rw [z, hn] at q; cases q)]
    exact e.keep a u q hm ht
  · by_cases z : a = D
    · rw [z]; exact hn
    · rw [upd_ne z] at q
      exact e.dom a q
theorem ExtF.stayL {H' : Hp} (e : ExtF g H g' H') (n : g.F D = none) (nm : ¬ g.mu D) (hD : H D = some (.lst xs)) : g'.F D = none ∧ ¬ g'.mu D ∧ H' D = some (.lst xs) := by
  refine ⟨?_, fun ⟨z0, z⟩ => ?_, e.keep D _ hD nm (fun _ => by simp)⟩
  · cases q : g'.F D with
    | none => rfl
    | some u =>
      rcases e.new D u q with z | z
      · rw [n] at z; cases z
      · rw [hD] at z; cases z
  · rcases e.mid with ⟨e1, e2⟩ | ⟨e1, e2⟩
    · exact nm ⟨by rw [← e1]; exact z0, z.trans e2⟩
    · rw [← z, hD] at e2; cases e2
/-- a list of one's own is frozen -/
theorem HpS.frz (h : HpS W g m H) (nm : ¬ g.mu D) (n : g.F D = none) (hD : H D = some o) (ht : ∀ ps, o ≠ .tbl ps := by intro _ h; cases h) : HpS W (g.add D o) m H := by
  refine ⟨fun a u e => ?_, fun a hm => ?_, h.mid, fun h0 => ?_, h.tabs.mono (fun a u e => ?_) fun _ _ e => e, fun a ps e => ?_⟩
  · by_cases z : a = D
    · rw [z] at e ⊢
      rw [show (g.add D o).F D = upd g.F D o D from rfl, upd_same] at e
      rw [hD]; exact e
    · rw [show (g.add D o).F a = upd g.F D o a from rfl, upd_ne z] at e
      exact h.sub a u e
  · have z : a ≠ D := fun z => nm (by rw [← z]; exact hm)
    rw [show (g.add D o).F a = upd g.F D o a from rfl, upd_ne z]
    exact h.mu a hm
  · obtain ⟨ca, h1, h2⟩ := h.mst h0
    refine ⟨ca, h1, ?_⟩
    rw [show (g.add D o).F ca = upd g.F D o ca from rfl, upd_ne (fun z => by rw [z, n] at h2; cases h2)]
    exact h2
  · rw [show (g.add D o).F a = upd g.F D o a from rfl, upd_ne (fun z => by rw [z, n] at e; cases e)]
    exact e
  · by_cases q : a = D
    · rw [q, show (g.add D o).F D = upd g.F D o D from rfl, upd_same] at e
      exact ht ps (Option.some.inj e)
    · rw [show (g.add D o).F a = upd g.F D o a from rfl, upd_ne q] at e
      exact h.nt a ps e
theorem Ext.frz {g0 : G} {H0 : Hp} (e : Ext g0 H0 g H) (n : g.F D = none) (hn : H0 D = none) : Ext g0 H0 (g.add D o) H := by
  refine ⟨⟨fun a u q => ?_, fun a u q => ?_, e.keep, e.dom, e.mid⟩, e.κ, e.own, e.cell⟩
  · have q2 := e.sub a u q
    rw [show (g.add D o).F a = upd g.F D o a from rfl, upd_ne (fun z => by rw [z, n] at q2; cases q2)]
    exact q2
  · by_cases z : a = D
    · rw [z]; exact .inr hn
    · rw [show (g.add D o).F a = upd g.F D o a from rfl, upd_ne z] at q
      exact e.new a u q
end
/-! ### the same value in another frame -/
section
variable {W : Wd} {g g' : G}
structure Refr (g g' : G) : Prop where
  same : SameF g g'
  κ : ∀ c v, g.κ c = some v → g'.κ c = some v ∧ ¬ g'.own c
mutual
theorem RepV.refr (R : Refr g g') : ∀ (x : Val) (v : V), RepV W g x v → RepV W g' x v
  | .d x, v, h => by
    simp only [RepV] at h ⊢
    rw [R.same.1, R.same.2.1, R.same.2.2]
    exact h
  | .c k cap, v, h => by
    simp only [RepV] at h ⊢
    obtain ⟨L, f, c', cl, dV, ws, h1, h2, h3, h4, h5, h6, h7, h8, h9, h10⟩ := h
    have kn : ∀ y c, cl.lookup y = some c → ∃ v, g.κ c = some v := fun y c e => by
      have hy := h6 y c e
      have z : (cl.lookup y).bind g.κ ∈ L.fr.map fun y => (cl.lookup y).bind g.κ := List.mem_map_of_mem hy
      rw [h10, e] at z
      obtain ⟨w, _, e2⟩ := List.mem_map.mp z
      exact ⟨w, e2.symm⟩
    refine ⟨L, f, c', cl, dV, ws, h1, h2, by rw [R.same.1]; exact h3, by rw [R.same.1]; exact h4, by rw [R.same.1]; exact h5, h6, h7, fun y c e ho => ?_, RepVs.refr R cap ws h9, ?_⟩
    · obtain ⟨v, hv⟩ := kn y c e
      exact absurd ho (R.κ c v hv).2
    · rw [← h10]
      refine List.map_congr_left fun y _ => ?_
      cases e : cl.lookup y with
      | none => rfl
      | some c =>
        obtain ⟨v, hv⟩ := kn y c e
        simp only [Option.bind_some, hv, (R.κ c v hv).1]
  | .l xs, v, h => by
    simp only [RepV] at h ⊢
    obtain ⟨a, vs, e, h1, h2⟩ := h
    exact ⟨a, vs, e, by rw [R.same.1]; exact h1, RepVs.refr R xs vs h2⟩
theorem RepVs.refr (R : Refr g g') : ∀ (xs : List Val) (vs : List V), RepVs W g xs vs → RepVs W g' xs vs
  | [], vs, h => by simpa only [RepVs] using h
  | x :: r, vs, h => by
    simp only [RepVs] at h ⊢
    obtain ⟨v, ws, e, h1, h2⟩ := h
    exact ⟨v, ws, e, RepV.refr R x v h1, RepVs.refr R r ws h2⟩
end
theorem RepO.refr {H : Hp} {x : Val} {a : Addr} (R : Refr g g') (h : RepO W g H x a) : RepO W g' H x a := by
  unfold RepO at h ⊢
  split at h
  · rw [R.same.1, R.same.2.1, R.same.2.2]; exact h
  · rw [R.same.1, R.same.2.1, R.same.2.2]; exact h
  · obtain ⟨vs, h1, h2⟩ := h
    exact ⟨vs, h1, RepVs.refr R _ vs h2⟩
  · exact h.elim
end
/-! ### the frame of a block -/
/-- what cells a frame's ghost knows, and which are the frame's -/
def frG (X : Cx) (g : G) : G := { g with own := fun c => ∃ x, X.fn x = true ∧ X.env.cells.lookup x = some c, cell := fun i => (X.N[i]?).bind fun x => X.env.cells.lookup x }
theorem frG_same {X : Cx} {g : G} : SameF g (frG X g) := ⟨rfl, rfl, rfl⟩
section
variable {W : Wd} {X : Cx} {g0 : G × Hp} {g : G} {ρ : Env} {m : MS} {σ : L2.St} {H HD : Hp} {pins : List (Addr × Obj)} {s : Shared}
/-- a cell that a frame knows, as it stands -/
theorem KR.cellAt (k : KR X σ g) (I : L2.Inv X pins σ H s) {c : Addr} {v : V} (e : g.κ c = some v) : ∃ (u : Value) (o : Obj), RelV v u ∧ s.heap.get? c = some o ∧ o.data = .cell (some u) ∧ H c = none := by
  rcases k.κ c v e with ⟨i, x, h1, h2, h3, h4⟩ | ⟨u, o, h1, h2, h3, h4, h5, _⟩
  · obtain ⟨mm, _, l⟩ := I.loc
    obtain ⟨u, ru, lk⟩ := l i x v h1 h4 (by rcases h3 with h3 | h3; exact .inr (.inl h3); exact .inr (.inr h3))
    rcases lk with ⟨z, _⟩ | ⟨_, c', e1, o, e2, e3⟩
    · have z : X.env.scope.names.lookup x = some .local := z
      rcases h3 with h3 | h3 <;> rw [h3] at z <;> cases z
    · rw [h2] at e1; cases e1
      exact ⟨u, o, ru, e2, e3, I.freeC x c h2⟩
  · obtain ⟨sl, q⟩ := I.base.any h2 h4 h5
    exact ⟨u, _, h1, q, h3, I.base.free c o h2 h4 h5⟩
variable {sc : Scope} {fp : List Addr} {vs : List Nat}
theorem blk_cell {x : Str} {c : Addr} (h : (blkEnv X sc s).cells.lookup x = some c) : ((x, NameKind.free) ∈ sc.names ∧ c = (X.env.cells.lookup x).getD 0) ∨ (x, NameKind.cell) ∈ sc.names := by
  have m := PySem.mem_of_lookup h
  have e : (blkEnv X sc s).cells = cellsFrom (s.heap.push oD).objs.size sc.names (cloFrom X.env.cells sc.names []) := by rw [Heap.size_push] <;> rfl
  rw [e] at m
  rcases cells_mem m with m | ⟨m, _⟩
  · rcases cloFrom_mem m with m | m
    · cases m
    · exact .inl m
  · exact .inr m
theorem blk_kr {own : List (Str × Nat)} (k : KR X σ g) (I : L2.Inv X pins σ HD s) (ok : BlkOk X.N X.env.scope sc own) (IB : L2.Inv (blkCx X sc s HD fp) [] (wipe σ (own.map (·.2))) HD (blkSt s sc)) (nf : ∀ b ∈ fp, ∃ o, s.heap.get? b = some o ∧ ∀ v, o.data ≠ .cell v) :
    KR (blkCx X sc s HD fp) (wipe σ (own.map (·.2))) (frG (blkCx X sc s HD fp) g) := by
  refine ⟨fun c v e => .inr ?_, fun c => Iff.rfl, fun i => rfl, fun i x c v h1 h2 h3 h4 => ?_, IB.ok.inj, k.nd, by rw [wipe_length]; exact k.len⟩
  · obtain ⟨u, o, h1, h2, h3, h4⟩ := k.cellAt I e
    refine ⟨u, o, h1, h2, h3, h4, fun hb => ?_, fun x hx hl => ?_⟩
    · obtain ⟨o', e1, e2⟩ := nf c hb
      rw [h2] at e1; cases e1
      exact e2 _ h3
    · exact absurd (Nat.lt_of_lt_of_le (Heap.lt_size h2) (IB.ok.cab x c hx hl)) (Nat.lt_irrefl _)
  · have h1 : X.N[i]? = some x := h1
    obtain ⟨h4, hn⟩ := wipe_some h4
    rcases blk_cell h2 with ⟨m, e⟩ | m
    · have kk := ok.free _ m rfl
      obtain ⟨c', hc'⟩ := I.ok.has x (by rcases kk with z | z; exact .inl z; exact .inr z)
      rw [hc'] at e
      have e : c = c' := e
      subst e
      exact k.full i x c v h1 hc' kk h4
    · exfalso
      rcases ok.own _ m (.inr rfl) with z | z
      · obtain ⟨p, hp, ep⟩ := List.mem_map.mp z
        have hx := ok.ix p hp
        rw [ep] at hx
        exact hn (List.mem_map.mpr ⟨p, hp, nodup_ix k.nd hx h1⟩)
      · exact z (List.mem_of_getElem? h1)
theorem blk_refr (k : KR X σ g) (I : L2.Inv X pins σ HD s) (IB : L2.Inv (blkCx X sc s HD fp) [] (wipe σ vs) HD (blkSt s sc)) : Refr g (frG (blkCx X sc s HD fp) g) := by
  refine ⟨frG_same, fun c v e => ⟨e, fun ⟨x, hx, hl⟩ => ?_⟩⟩
  obtain ⟨u, o, h1, h2, h3, h4⟩ := k.cellAt I e
  exact absurd (Nat.lt_of_lt_of_le (Heap.lt_size h2) (IB.ok.cab x c hx hl)) (Nat.lt_irrefl _)
theorem mask_get : ∀ {ρ : Env} {n i : Nat} {s : Sl}, (mask vs n ρ)[i]? = some s → s = .no ∨ (¬ n + i ∈ vs ∧ ∃ s0, ρ[i]? = some s0 ∧ ((∃ d, s0 = .ow d ∧ s = .ro d) ∨ ((∀ d, s0 ≠ .ow d) ∧ s = s0)))
  | [], _, _, _, e => by simp [mask] at e
  | s0 :: r, n, 0, s, e => by
    simp only [mask, List.getElem?_cons_zero, Option.some.injEq] at e
    by_cases h : vs.contains n = true
    · rw [if_pos h] at e
      exact .inl e.symm
    · rw [if_neg h] at e
      refine .inr ⟨by simpa using h, s0, rfl, ?_⟩
      cases s0 with
      | ow d => exact .inl ⟨d, rfl, e.symm⟩
      | no => exact .inr ⟨fun _ => by simp, e.symm⟩
      | sh d => exact .inr ⟨fun _ => by simp, e.symm⟩
      | ro d => exact .inr ⟨fun _ => by simp, e.symm⟩
  | s0 :: r, n, i + 1, s, e => by
    simp only [mask, List.getElem?_cons_succ] at e
    rcases mask_get e with h | ⟨h1, h2⟩
    · exact .inl h
    · refine .inr ⟨by rw [show n + (i + 1) = n + 1 + i by omega]; exact h1, by simpa using h2⟩
theorem mask_len : ∀ {ρ : Env} {n : Nat}, (mask vs n ρ).length = ρ.length
  | [], _ => rfl
  | _ :: r, n => by simp only [mask, List.length_cons, mask_len (ρ := r)]
theorem mask_ow {n i : Nat} {y : Val} : (mask vs n ρ)[i]? ≠ some (.ow y) := fun e => by
  rcases mask_get e with h | ⟨_, s0, _, ⟨d, _, h⟩ | ⟨h1, h2⟩⟩
  · cases h
  · cases h
  · exact h1 y h2.symm
theorem FS.blk {own : List (Str × Nat)} {H' : Hp} {g' : G} {m' : MS} (fs : FS W X g0 g ρ m σ H) (e : Ext g H g' H') (hs : HpS W g' m' H') (I : L2.Inv X pins σ HD s) (ok : BlkOk X.N X.env.scope sc own) (IB : L2.Inv (blkCx X sc s HD fp) [] (wipe σ (own.map (·.2))) HD (blkSt s sc))
    (nf : ∀ b ∈ fp, ∃ o, s.heap.get? b = some o ∧ ∀ v, o.data ≠ .cell v) :
    FS W (blkCx X sc s HD fp) (frG (blkCx X sc s HD fp) g', H') (frG (blkCx X sc s HD fp) g') (mask (own.map (·.2)) 0 ρ) m' (wipe σ (own.map (·.2))) H' := by
  have fs' := fs.step e hs
  have R := blk_refr fs'.kr I IB
  refine ⟨hs.of rfl rfl rfl, ExtF.refl _ _, by rw [mask_len, wipe_length]; exact fs.len, fun i s0 h => ?_, fun i j x y a h => absurd h mask_ow, fun i x a h => absurd h mask_ow, blk_kr fs'.kr I ok IB nf⟩
  rcases mask_get h with h | ⟨hn, s1, h1, h2⟩
  · subst h; trivial
  · rw [Nat.zero_add] at hn
    have es : slot (wipe σ (own.map (·.2))) i = slot σ i := by unfold slot; rw [wipe_out hn]
    have z := fs'.env i s1 h1
    rw [es]
    rcases h2 with ⟨d, rfl, rfl⟩ | ⟨hd, rfl⟩
    · obtain ⟨a, e1, e2, e3, e4⟩ := z
      exact ⟨a, e1, e2, e3, e4.refr R⟩
    · cases s0 with
      | no => trivial
      | sh y =>
        obtain ⟨w, e1, e2⟩ := z
        exact ⟨w, e1, RepV.refr R _ _ e2⟩
      | ow y => exact absurd rfl (hd y)
      | ro y =>
        obtain ⟨a, e1, e2, e3, e4⟩ := z
        exact ⟨a, e1, e2, e3, e4.refr R⟩
end
/-! ### the comprehension -/
theorem bind_assoc {α β γ : Type} (c : M α) (f : α → M β) (k : β → M γ) : M.bind (M.bind c f) k = M.bind c fun x => M.bind (f x) k := by
  funext m
  unfold M.bind
  cases c m <;> rfl
/-- a comprehension's turn -/
def turnM (P : Prg) (t : Tg) (ci : Env → M Bool) (ce : Env → M OV) (ρb : Env) (x : Val) : M (Option D) :=
  M.bind (ofO (setTg P t x ρb)) fun ρ1 => M.bind (ci ρ1) fun b => if b then M.bind (ce ρ1) fun y => ofO (elO y) else ret1 none
theorem compL_cons {f : Val → M (Option D)} {d : Val} {r : List Val} {ys : List D} {m m' : MS} (h : compL f (d :: r) m = .ok ys m') : ∃ y m1 zs, f d m = .ok y m1 ∧ compL f r m1 = .ok zs m' ∧ ys = y.toList ++ zs := by
  simp only [compL] at h
  unfold M.bind at h
  cases e : f d m with
  | ok y m1 =>
    rw [e] at h
    simp only at h
    cases e2 : compL f r m1 with
    | ok zs m2 =>
      rw [e2] at h
      simp only at h
      cases y with
      | none =>
        simp only [Out.ok.injEq] at h
        obtain ⟨rfl, rfl⟩ := h
        exact ⟨none, m1, zs, rfl, e2, rfl⟩
      | some y =>
        simp only [Out.ok.injEq] at h
        obtain ⟨rfl, rfl⟩ := h
        exact ⟨some y, m1, zs, rfl, e2, rfl⟩
    | ex _ _ _ => rw [e2] at h; cases h
    | bad => rw [e2] at h; cases h
  | ex _ _ _ => rw [e] at h; cases h
  | bad => rw [e] at h; cases h
def noE : WX := fun _ _ _ _ => False
theorem out_ok {α β : Type} {c : M α} {f : α → M β} {b : β} {m m' : MS} (h : M.bind c f m = .ok b m') : ∃ a m1, c m = .ok a m1 ∧ f a m1 = .ok b m' := by
  unfold M.bind at h
  cases e : c m with
  | ok a m1 => rw [e] at h; exact ⟨a, m1, rfl, h⟩
  | ex _ _ _ => rw [e] at h; cases h
  | bad => rw [e] at h; cases h
theorem ofO_ok {α : Type} {o : Option α} {b : α} {m m' : MS} (h : ofO o m = .ok b m') : o = some b ∧ m' = m := by
  cases o with
  | none => cases h
  | some a =>
    simp only [ofO, Out.ok.injEq] at h
    exact ⟨by rw [h.1], h.2.symm⟩
theorem elO_some {x : OV} {y : Option D} (h : elO x = some y) : ∃ d, x = .v (.d d) ∧ y = some d := by
  unfold elO at h
  split at h
  · cases h; exact ⟨_, rfl, rfl⟩
  · cases h
theorem keeps_wipe (σ : L2.St) (vs : List Nat) : Keeps vs σ (wipe σ vs) := ⟨wipe_length σ vs, fun j h => wipe_out h⟩
/-- a thing that was just made, of one's own -/
def RN (W : Wd) (H : Hp) (g' : G) (H' : Hp) (y : Val) (v : V) : Prop := ∃ a, v = .ref a ∧ H a = none ∧ g'.F a = none ∧ ¬ g'.mu a ∧ RepO W g' H' y a
def TN (W : Wd) (xc : Nat → Option XcA) (X : Cx) (g0 : G × Hp) (E : WX) (c : Env → M Val) : TE := fun σ H Q => ∃ g ρ m, FS W X g0 g ρ m σ H ∧ Post W xc g σ H (RN W H) Q E (c ρ m)
def newLV (ys : List D) : Option Val := if ys.length ≤ sizeLine then some (.d (.lst ys)) else none
section
variable {W : Wd} {xc : Nat → Option XcA} {X : Cx} {g0 : G × Hp} {E : WX}
theorem hp_dom {g : G} {m : MS} {H : Hp} {D : Addr} (hs : HpS W g m H) (h : H D = none) : g.F D = none ∧ ¬ g.mu D := by
  constructor
  · cases e : g.F D with
    | none => rfl
    | some u => rw [hs.sub _ _ e] at h; cases h
  · intro ⟨z0, z⟩
    obtain ⟨ca, h1, _⟩ := hs.mst z0
    rw [← z, h] at h1; cases h1
/-- frozen at once -/
theorem RN.frz {g g' : G} {H H' : Hp} {m' : MS} {y : Val} {v : V} (e : Ext g H g' H') (hs : HpS W g' m' H') (r : RN W H g' H' y v) : ∃ g2, Ext g H g2 H' ∧ HpS W g2 m' H' ∧ RepV W g2 y v := by
  obtain ⟨a, rfl, n, f, mu, ro⟩ := r
  have sub : ∀ (o : HO) b u, g'.F b = some u → (g'.add a o).F b = some u := fun o b u q => by
    rw [show (g'.add a o).F b = upd g'.F a o b from rfl, upd_ne (fun z => by rw [z, f] at q; cases q)]
    exact q
  unfold RepO at ro
  split at ro
  · rename_i xs
    obtain ⟨vs, h1, h2⟩ := ro
    refine ⟨g'.add a (.lst vs), e.frz f n, hs.frz mu f h1, ?_⟩
    simp only [RepV]
    rw [show RepD W (g'.add a (HO.lst vs)).F (g'.add a (HO.lst vs)).μ (g'.add a (HO.lst vs)).mid (Di.D.lst xs) (V.ref a) ↔ _ from by simp only [RepD]; exact Iff.rfl]
    exact ⟨a, vs, rfl, upd_same, RepDs.mono (sub _) (.inl ⟨rfl, rfl⟩) _ _ h2⟩
  · rename_i ks ds
    obtain ⟨kvs, h1, h2, h3⟩ := ro
    refine ⟨g'.add a (.dK kvs), e.frz f n, hs.frz mu f h1, ?_⟩
    simp only [RepV]
    rw [show RepD W (g'.add a (HO.dK kvs)).F (g'.add a (HO.dK kvs)).μ (g'.add a (HO.dK kvs)).mid (Di.D.dct ks ds) (V.ref a) ↔ _ from by simp only [RepD]; exact Iff.rfl]
    exact ⟨a, kvs, rfl, upd_same, h2, RepDs.mono (sub _) (.inl ⟨rfl, rfl⟩) _ _ h3⟩
  · rename_i xs
    obtain ⟨vs, h1, h2⟩ := ro
    refine ⟨g'.add a (.lst vs), e.frz f n, hs.frz mu f h1, ?_⟩
    simp only [RepV]
    exact ⟨a, vs, rfl, upd_same, RepVs.mono (sub _) (.inl ⟨rfl, rfl⟩) rfl rfl rfl _ _ h2⟩
  · exact ro.elim
theorem tv_of_tn {e : Expr} {c : Env → M Val} (h : PE X e (TN W xc X g0 E c)) : PE X e (TV W xc X g0 E fun ρ => M.bind (c ρ) fun y => ret1 (.v y)) :=
  pe_weak h fun σ H Q ⟨g, ρ, m, fs, p⟩ => by
    refine ⟨g, ρ, m, fs, ?_⟩
    unfold M.bind at p
    cases ec : c ρ m with
    | ok y m1 =>
      simp only [ec] at p
      intro v g' H' e hs r
      obtain ⟨g2, e2, hs2, r2⟩ := r.frz e hs
      exact p v g2 H' e2 hs2 r2
    | ex k q m1 => simp only [ec] at p; exact p
    | bad => simp only [ec] at p; exact p
theorem comp_read {elt tg iter : Expr} {ifs : List Expr} {sc : Scope} {own : List (Str × Nat)} {cs : Env → M (List OV)} {it : ItK} {t : Tg} {ci : Env → M Bool} {ce : Env → M OV} {σ : L2.St} {H : Hp} {Q : VK} (xw : XW W X) (nd : X.N.Nodup)
    (hi : PI X tg iter (TW W xc X g0 E false fun ρ => M.bind (cs ρ) fun xs => ofO (eqb false it ρ xs))) (ok : BlkOk X.N X.env.scope sc own) (fo : ∀ x, foldedSetIterable iter X.env x = pure x)
    (hT : ∀ (s : Shared) (HD : Hp) (fp : List Addr) (b0 : G × Hp), PG (blkCx X sc s HD fp) tg (tgG W (blkCx X sc s HD fp) b0 (own.map (·.2)) t))
    (hI : ∀ (s : Shared) (HD : Hp) (fp : List Addr) (b0 : G × Hp), PTs (blkCx X sc s HD fp) ifs (TBo W xc (blkCx X sc s HD fp) b0 noE ci))
    (hE : ∀ (s : Shared) (HD : Hp) (fp : List Addr) (b0 : G × Hp), PE (blkCx X sc s HD fp) elt (TV W xc (blkCx X sc s HD fp) b0 noE ce))
    (h : TN W xc X g0 E (fun ρ => M.bind (cs ρ) fun xs => M.bind (ofO (itemsO ρ it xs)) fun items => M.bind (noEx (compL (turnM W.P t ci ce (mask (own.map (·.2)) 0 ρ)) items)) fun ys => ofO (newLV ys)) σ H Q) :
    tLd X sc (own.map (·.2)) tg ifs elt (TW W xc X g0 E false fun ρ => M.bind (cs ρ) fun xs => ofO (eqb false it ρ xs)) σ H Q := by
    obtain ⟨g, ρ, m, fs, p⟩ := h
    have p : Post W xc g σ H (RN W H) Q E (M.bind (M.bind (cs ρ) fun xs => ofO (eqb false it ρ xs)) (fun items => M.bind (noEx (compL (turnM W.P t ci ce (mask (own.map (·.2)) 0 ρ)) items)) fun ys => ofO (newLV ys)) m) := by
      rw [bind_assoc]
      exact p
    refine ⟨g, ρ, m, fs, (p.bind fs).mono fun J H1 ⟨g1, m1, items, fs1, e1, wk, p1⟩ => ?_⟩
    intro D hD pins s fp I IB nf
    -- the whole goes well
    have ex : ∃ ys m2, compL (turnM W.P t ci ce (mask (own.map (·.2)) 0 ρ)) items m1 = .ok ys m2 ∧ ys.length ≤ sizeLine ∧ Post W xc g1 σ H1 (RN W H) Q E (.ok (.d (.lst ys)) m2) := by
      unfold M.bind noEx at p1
      cases ec : compL (turnM W.P t ci ce (mask (own.map (·.2)) 0 ρ)) items m1 with
      | ok ys m2 =>
        rw [ec] at p1
        obtain ⟨z, ez, p1⟩ := p1.ofO
        unfold newLV at ez
        split at ez
        · rename_i hz
          cases ez
          exact ⟨ys, m2, rfl, hz, p1⟩
        · cases ez
      | ex _ _ _ => rw [ec] at p1; exact p1.elim
      | bad => rw [ec] at p1; exact p1.elim
    obtain ⟨ys, m2, ec, hz, q⟩ := ex
    have wk : Wk W J (fun g' H' => Ext g1 H1 g' H') items := wk
    have fD : g1.F D = none := by
      cases e : g1.F D with
      | none => rfl
      | some u => rw [fs1.hs.sub _ _ e] at hD; cases hD
    have mD : ¬ g1.mu D := fun ⟨z0, z⟩ => by
      obtain ⟨ca, h1, _⟩ := fs1.hs.mst z0
      rw [← z, hD] at h1; cases h1
    refine ⟨fun i n H' => i ≤ items.length ∧ n = items.length - i ∧ ∃ gi mi acc accD zs, Ext g1 H1 gi H' ∧ HpS W gi mi H' ∧ gi.F D = none ∧ ¬ gi.mu D ∧ H' D = some (.lst acc) ∧ RepDs W gi.F gi.μ gi.mid accD acc ∧
      compL (turnM W.P t ci ce (mask (own.map (·.2)) 0 ρ)) (items.drop i) mi = .ok zs m2 ∧ ys = accD ++ zs, ⟨items.length, Nat.zero_le _, rfl, g1, m1, [], [], ys, ?_, ?_, fD, mD, upd_same, RepDs.nil, by simpa using ec, rfl⟩, ?_⟩
    · exact ⟨(ExtF.refl g1 H1).updL hD, rfl, rfl, rfl⟩
    · exact fs1.hs.updL fD mD fun u e => by rw [hD] at e; cases e
    intro i n H' ⟨hi, hn, gi, mi, acc, accD, zs, x1, x2, x3, x4, x5, x6, x7, x8⟩
    obtain ⟨go, stop⟩ := wk i gi H' mi x1 x2
    by_cases hlt : i < items.length
    · refine .inr ?_
      obtain ⟨d, hd⟩ : ∃ d, items[i]? = some d := ⟨items[i], by simp [hlt]⟩
      obtain ⟨g1o, yl⟩ := go d hd
      have hdrop : items.drop i = d :: items.drop (i + 1) := by
        have := List.drop_eq_getElem_cons hlt
        rw [this]
        congr 1
        have h2 := (List.getElem?_eq_some_iff.mp hd).2
        exact h2
      rw [hdrop] at x7
      obtain ⟨y, m3, zs', f1, f2, f3⟩ := compL_cons x7
      refine ⟨g1o, fun H'' => i + 1 ≤ items.length ∧ n - 1 = items.length - (i + 1) ∧ ∃ gi mi acc accD zs, Ext g1 H1 gi H'' ∧ HpS W gi mi H'' ∧ gi.F D = none ∧ ¬ gi.mu D ∧ H'' D = some (.lst acc) ∧ RepDs W gi.F gi.μ gi.mid accD acc ∧
        compL (turnM W.P t ci ce (mask (own.map (·.2)) 0 ρ)) (items.drop (i + 1)) mi = .ok zs m2 ∧ ys = accD ++ zs, fun H'' h => ⟨n - 1, by omega, h⟩, fun x H'' yx => ?_⟩
      obtain ⟨g2, gr, rx⟩ := yl x H'' yx
      have z1 : Ext g1 H1 g2 H'' := x1.trans gr.ext
      have z2 := gr.hs _ x2
      obtain ⟨z3, z4, z5⟩ := gr.ext.toExtF.stayL x3 x4 x5
      have fb := fs1.blk z1 z2 I ok IB nf
      have R := blk_refr (fs1.step z1 z2).kr I IB
      have x6' : RepDs W g2.F g2.μ g2.mid accD acc := x6.ext gr.ext
      have outer : ∀ {ge : G} {He : Hp} {me : MS}, ExtF g2 H'' ge He → HpS W ge me He → Ext g1 H1 { ge with κ := g1.κ, own := g1.own, cell := g1.cell } He ∧ HpS W { ge with κ := g1.κ, own := g1.own, cell := g1.cell } me He ∧
          ge.F D = none ∧ ¬ ge.mu D ∧ He D = some (.lst acc) ∧ RepDs W ge.F ge.μ ge.mid accD acc := fun {ge He me} e h => by
        obtain ⟨k1, k2, k3⟩ := e.stayL z3 z4 z5
        exact ⟨⟨(z1.toExtF.trans e).of rfl rfl rfl, rfl, rfl, rfl⟩, h.of rfl rfl rfl, k1, k2, k3, RepDs.mono e.sub e.subF.mid _ _ x6'⟩
      obtain ⟨ρ1, ma, f4a, f1a⟩ := out_ok f1
      obtain ⟨f4, ema⟩ := ofO_ok f4a
      subst ema
      obtain ⟨b, mb, f5, f1⟩ := out_ok f1a
      refine ⟨_, _, _, hT s _ fp (frG (blkCx X sc s (upd H1 D (.lst [])) fp) g2, H''), hI s _ fp (frG (blkCx X sc s (upd H1 D (.lst [])) fp) g2, H''), hE s _ fp (frG (blkCx X sc s (upd H1 D (.lst [])) fp) g2, H''),
        ⟨frG (blkCx X sc s (upd H1 D (.lst [])) fp) g2, mask (own.map (·.2)) 0 ρ, ma, d, ρ1, fb, RepV.refr R d x rx, f4, fun σ2 gb fs2 sf kp => ⟨wipe_eq ((keeps_wipe σ _).trans kp), gb, ρ1, ma, fs2, ?_⟩⟩⟩
      have eb : ExtF g2 H'' gb H'' := (ExtF.refl g2 H'').of (sf.1.trans rfl) (sf.2.1.trans rfl) (sf.2.2.trans rfl)
      rw [f5]
      intro b' g3 H3 e3 hs3 rb
      have rb : b' = b := rb
      subst rb
      cases b' with
      | false =>
        simp only [Bool.false_eq_true, if_false] at f1 ⊢
        unfold ret1 at f1
        simp only [Out.ok.injEq] at f1
        obtain ⟨rfl, rfl⟩ := f1
        obtain ⟨k1, k2, k3, k4, k5, k6⟩ := outer (eb.trans e3.toExtF) hs3
        exact ⟨by omega, by omega, _, mb, acc, accD, zs', k1, k2, k3, k4, k5, k6, f2, by rw [x8, f3]; rfl⟩
      | true =>
        simp only [if_true] at f1 ⊢
        obtain ⟨yv, mc, f6, f1⟩ := out_ok f1
        obtain ⟨f7, emc⟩ := ofO_ok f1
        subst emc
        refine ⟨g3, ρ1, mb, fs2.step e3 hs3, ?_⟩
        rw [f6]
        intro v g4 H4 e5 hs5 rv
        obtain ⟨k1, k2, k3, k4, k5, k6⟩ := outer ((eb.trans e3.toExtF).trans e5.toExtF) hs5
        obtain ⟨d', eyv, ey⟩ := elO_some f7
        subst eyv ey
        have rv : RepD W g4.F g4.μ g4.mid d' v := by simpa only [RepOV, RepV] using rv
        have hlen : accD.length < sizeLine := by
          rw [x8, f3] at hz
          simp only [List.length_append, Option.toList_some, List.length_cons] at hz
          omega
        refine ⟨acc, k5, by rw [← k6.length]; exact hlen, by omega, by omega, _, m3, acc ++ [v], accD ++ [d'], zs', ⟨k1.toExtF.updL hD, rfl, rfl, rfl⟩, k2.updL k3 k4 (fun u e => by rw [k5] at e; cases e; exact .inl ⟨_, rfl⟩), k3, k4, upd_same, k6.append (RepDs.cons rv RepDs.nil), f2, by rw [x8, f3]; simp⟩
    · refine .inl ⟨stop (by omega), ?_⟩
      rw [List.drop_eq_nil_of_le (by omega)] at x7
      simp only [compL, Out.ok.injEq] at x7
      obtain ⟨rfl, rfl⟩ := x7
      rw [List.append_nil] at x8
      subst x8
      refine q (.ref D) gi H' x1 x2 ⟨D, rfl, e1.dom D hD, x3, x4, ?_⟩
      simp only [RepO]
      exact ⟨acc, x5, x6⟩
theorem pe_dcompN {elt tg iter : Expr} {ifs : List Expr} {sc : Scope} {own : List (Str × Nat)} {pos : Pos} {cs : Env → M (List OV)} {it : ItK} {t : Tg} {ci : Env → M Bool} {ce : Env → M OV} (xw : XW W X) (nd : X.N.Nodup)
    (hi : PI X tg iter (TW W xc X g0 E false fun ρ => M.bind (cs ρ) fun xs => ofO (eqb false it ρ xs))) (ok : BlkOk X.N X.env.scope sc own) (fo : ∀ x, foldedSetIterable iter X.env x = pure x)
    (hT : ∀ (s : Shared) (HD : Hp) (fp : List Addr) (b0 : G × Hp), PG (blkCx X sc s HD fp) tg (tgG W (blkCx X sc s HD fp) b0 (own.map (·.2)) t))
    (hI : ∀ (s : Shared) (HD : Hp) (fp : List Addr) (b0 : G × Hp), PTs (blkCx X sc s HD fp) ifs (TBo W xc (blkCx X sc s HD fp) b0 noE ci))
    (hE : ∀ (s : Shared) (HD : Hp) (fp : List Addr) (b0 : G × Hp), PE (blkCx X sc s HD fp) elt (TV W xc (blkCx X sc s HD fp) b0 noE ce)) :
    PE X (.ListComp elt [⟨tg, iter, ifs, 0⟩] sc pos) (TN W xc X g0 E fun ρ => M.bind (cs ρ) fun xs => M.bind (ofO (itemsO ρ it xs)) fun items => M.bind (noEx (compL (turnM W.P t ci ce (mask (own.map (·.2)) 0 ρ)) items)) fun ys => ofO (newLV ys)) :=
  pe_weak (pe_ld xw.hc nd hi ok fo) fun σ H Q h => comp_read xw nd hi ok fo hT hI hE h
theorem pe_dcomp {elt tg iter : Expr} {ifs : List Expr} {sc : Scope} {own : List (Str × Nat)} {pos : Pos} {cs : Env → M (List OV)} {it : ItK} {t : Tg} {ci : Env → M Bool} {ce : Env → M OV} (xw : XW W X) (nd : X.N.Nodup)
    (hi : PI X tg iter (TW W xc X g0 E false fun ρ => M.bind (cs ρ) fun xs => ofO (eqb false it ρ xs))) (ok : BlkOk X.N X.env.scope sc own) (fo : ∀ x, foldedSetIterable iter X.env x = pure x)
    (hT : ∀ (s : Shared) (HD : Hp) (fp : List Addr) (b0 : G × Hp), PG (blkCx X sc s HD fp) tg (tgG W (blkCx X sc s HD fp) b0 (own.map (·.2)) t))
    (hI : ∀ (s : Shared) (HD : Hp) (fp : List Addr) (b0 : G × Hp), PTs (blkCx X sc s HD fp) ifs (TBo W xc (blkCx X sc s HD fp) b0 noE ci))
    (hE : ∀ (s : Shared) (HD : Hp) (fp : List Addr) (b0 : G × Hp), PE (blkCx X sc s HD fp) elt (TV W xc (blkCx X sc s HD fp) b0 noE ce))
    : PE X (.ListComp elt [⟨tg, iter, ifs, 0⟩] sc pos) (TV W xc X g0 E fun ρ => M.bind (cs ρ) fun xs => M.bind (ofO (itemsO ρ it xs)) fun items => M.bind (noEx (compL (turnM W.P t ci ce (mask (own.map (·.2)) 0 ρ)) items)) fun ys => ofO (newL ys)) := by
  have h := tv_of_tn (pe_dcompN (pos := pos) xw nd hi ok fo hT hI hE)
  refine pe_weak h fun σ H Q ⟨g, ρ, m, fs, p⟩ => ⟨g, ρ, m, fs, ?_⟩
  have e : (M.bind (M.bind (cs ρ) fun xs => M.bind (ofO (itemsO ρ it xs)) fun items => M.bind (noEx (compL (turnM W.P t ci ce (mask (own.map (·.2)) 0 ρ)) items)) fun ys => ofO (newLV ys)) fun y => ret1 (OV.v y)) =
      M.bind (cs ρ) fun xs => M.bind (ofO (itemsO ρ it xs)) fun items => M.bind (noEx (compL (turnM W.P t ci ce (mask (own.map (·.2)) 0 ρ)) items)) fun ys => ofO (newL ys) := by
    simp only [bind_assoc]
    congr 1; funext xs; congr 1; funext items; congr 1; funext ys
    unfold newLV newL
    split <;> rfl
  dsimp only
  rw [e]
  exact p
end
end Di
end
section
set_option Elab.async false
set_option linter.all false
set_option maxRecDepth 100000
set_option maxHeartbeats 2000000
/-! Di.Call: calls of defs. -/
namespace Di
open PySem PySem.Spec PyProof.Rows L2 LamX NdefX
/-- what stands at a law's entry, fixed -/
structure Ct where
  prog : Program
  w : World
  mg : Str → Option Value
  base : Heap
/-- room for n calls, no guard -/
structure Rm (n : Nat) (A : Around) : Prop where
  room : Room n A
  g : A.guards = some []
theorem Rm.deeper {n : Nat} {A : Around} (r : Rm (n + 1) A) (env : PySem.Env) : Rm n (A.deeper env) := ⟨r.room.deeper env, r.g⟩
theorem Rm.mono {j n : Nat} {A : Around} (r : Rm n A) (h : j ≤ n) : Rm j A := ⟨r.room.mono h, r.g⟩
/-- the cells that a ghost knows stand so -/
def KnS (g : G) (s : Shared) (H : Hp) : Prop := ∀ c v, g.κ c = some v → ∃ (u : Value) (o : Obj), RelV v u ∧ s.heap.get? c = some o ∧ o.data = .cell (some u) ∧ H c = none
/-- what a call's outcome asks -/
abbrev PostC (W : Wd) (xc : Nat → Option XcA) (g : G) (H : Hp) (Q : VK) (Ex : XK) (o : Out D) : Prop := Post W xc g [] H (fun g _ d v => RepD W g.F g.μ g.mid d v) Q (fun cls dd _ H => Ex cls dd H) o
/-- the function at fa means sem -/
def FnS (W : Wd) (xc : Nat → Option XcA) (C : Ct) (n : Nat) (fa : Addr) (sem : List Val → M D) : Prop :=
  ∀ (A : Around) (outer : List PySem.Env) (s : Shared) (H : Hp) (us : List Value) (vs : List V) (Q : VK) (Ex : XK) (g : G) (ds : List Val) (m : MS), Rm n A → Env0 C.prog C.w W.K C.mg C.base A outer s H → KnS g s H → HpS W g m H → RepVs W g ds vs → Vals vs us →
    PostC W xc g H Q Ex (sem ds m) → codeAny (model C.prog C.w) A (.call (.ref fa) ⟨us, []⟩) (CR (L2.CX C.prog C.w) outer C.prog C.w H s Q Ex) s
/-- the same, however its arguments are handed -/
def FnSG (W : Wd) (xc : Nat → Option XcA) (C : Ct) (n : Nat) (fa : Addr) (fd : FuncData) (ps : List Str) (sem : List Val → M D) : Prop :=
  ∀ (A : Around) (outer : List PySem.Env) (s : Shared) (H : Hp) (args : Args) (us : List Value) (vs : List V) (Q : VK) (Ex : XK) (g : G) (ds : List Val) (m : MS), Rm n A → Env0 C.prog C.w W.K C.mg C.base A outer s H → KnS g s H → HpS W g m H → RepVs W g ds vs → Vals vs us → BindsTo s fd args (ps.zip us) →
    PostC W xc g H Q Ex (sem ds m) → codeAny (model C.prog C.w) A (.call (.ref fa) args) (CR (L2.CX C.prog C.w) outer C.prog C.w H s Q Ex) s
theorem paired_get {α β : Type} {R : α → β → Prop} : ∀ {xs : List α} {ys : List β} {i : Nat} {x : α}, Paired R xs ys → xs[i]? = some x → ∃ y, ys[i]? = some y ∧ R x y
  | [], _, _, _, .nil, e => by simp at e
  | a :: r, b :: t, 0, x, .cons h _, e => by
    simp only [List.getElem?_cons_zero, Option.some.injEq] at e
    subst e
    exact ⟨b, rfl, h⟩
  | a :: r, b :: t, i + 1, x, .cons _ h, e => by
    simp only [List.getElem?_cons_succ] at e ⊢
    exact paired_get h e
/-- a frame of that law -/
structure XC (W : Wd) (C : Ct) (X : Cx) : Prop where
  prog : X.prog = C.prog
  w : X.w = C.w
  mg : X.mg = C.mg
  base : X.base = C.base
  K : X.K = W.K
section
variable {W : Wd} {xc : Nat → Option XcA} {C : Ct} {X : Cx} {g0 : G × Hp} {E : WX} {cs : Env → M (List OV)}
/-- a callee runs -/
theorem run_fnS {n : Nat} {fa : Addr} {sem : List Val → M D} (F : FnS W xc C n fa sem) (xC : XC W C X) (hr : Rm n X.A) (tk : Takes X E) {pins : List (Addr × Obj)} {s : Shared} {σ : L2.St} {H : Hp} {Q : VK} {us : List Value} {vs : List V} {g : G} {ρ : Env} {m : MS} {ds : List Val}
    (I : L2.Inv X pins σ H s) (fs : FS W X g0 g ρ m σ H) (rv : RepVs W g ds vs) (r : Vals vs us) (p : Post W xc g σ H (fun g _ d v => RepD W g.F g.μ g.mid d v) Q E (sem ds m)) :
    wpAny (model X.prog X.w) X.A (call (.ref fa) us) (EP X pins σ Q) X.xe s := by
  have e0 := I.env0
  rw [xC.prog, xC.w, xC.mg, xC.base, xC.K] at e0
  have run := F X.A X.stack s H us vs Q (fun cls dd H => E cls dd σ H) g ds m hr e0 (fun c v e => fs.kr.cellAt I e) fs.hs rv r (by
    revert p
    cases sem ds m <;> exact id)
  rw [← xC.prog, ← xC.w] at run
  refine wpAny_call (codeAny_mono run fun r s' hq => ?_)
  cases r with
  | error e => exact tk e s' (XE.of_call I (fun cls d H' h => h) hq)
  | ok fl =>
    cases fl with
    | ret u => exact I.after hq
    | next => exact False.elim hq
    | brk => exact False.elim hq
    | cont => exact False.elim hq
theorem pe_dcall {n : Nat} {fa : Addr} {sem : List Val → M D} {x : Str} {p pos : Pos} {e : Expr} {es : List Expr} (F : FnS W xc C n fa sem) (xC : XC W C X) (hr : Rm n X.A) (tk : Takes X E) (hg : Gl X x) (hm : X.mg x = some (.ref fa)) (hk : PySem.W.keepIn X.K (.ref fa) = true)
    (ha : PA X (e :: es) (TLs W xc X g0 E cs)) (hdb : (x == ("__debug__" : Str)) = false) (he : starEach (e :: es) X.env = (false, eval e X.env) :: starEach es X.env) (hpl : (backTo pos (starEach es X.env)).any (·.1) = false) :
    PE X (.Call (.Name x p) (e :: es) [] pos) (TV W xc X g0 E fun ρ => M.bind (cs ρ) fun xs => M.bind (ofO (vals xs)) fun ds => M.bind (sem ds) fun d => ret1 (.v (.d d))) := by
  refine ⟨fun pins s σ H Q I ⟨g, ρ, m, fs, p⟩ => ?_⟩
  refine wpAny_Call_Name_kw (ld_glob I hg hm ?_ hdb)
  have args := ha.run pos pins s σ H _ I ⟨g, ρ, m, fs, p.bind fs⟩
  refine PySem.W.callWith_K (h₀ := X.base) I.ok.mod.kin hk (thn args fun us s1 ⟨vs, H1, I1, r, g1, m1, xs, fs1, e1, r1, p1⟩ => ⟨I1.kIn, ?_⟩) he hpl
  obtain ⟨ds, ed, p1⟩ := p1.bofO
  refine run_fnS F xC hr tk I1 fs1 (vals_rep r1 ed) r ((p1.bind fs1).mono fun v H2 ⟨g2, m2, d, fs2, e2, r2, p2⟩ => ?_)
  exact p2.at fs2 (b := v) (by simpa only [RepOV, RepV] using r2)
end
/-! ### statements -/
/-- what a statement's outcome asks -/
def PostS (W : Wd) (xc : Nat → Option XcA) (X : Cx) (b : G × Hp) (g : G) (T : Ends) (E : WX) (o : Out Fl) : Prop := match o with
  | .ok (.nx ρ) m => ∀ σ' g' H', FS W X b g' ρ m σ' H' → SubF g g' → T.nx σ' H'
  | .ok (.bk ρ) m => ∀ σ' g' H', FS W X b g' ρ m σ' H' → SubF g g' → T.bk σ' H'
  | .ok (.ct ρ) m => ∀ σ' g' H', FS W X b g' ρ m σ' H' → SubF g g' → T.ct σ' H'
  | .ok (.rt d) m => ∀ v g' H', ExtF b.1 b.2 g' H' → HpS W g' m H' → RepD W g'.F g'.μ g'.mid d v → T.rt v H'
  | .ex c p m => ∀ cls dd σ' g' H', ExtF b.1 b.2 g' H' → HpS W g' m H' → RepX W xc g' H' c p cls dd → E cls dd σ' H'
  | .bad => False
def TSt (W : Wd) (xc : Nat → Option XcA) (X : Cx) (b : G × Hp) (E : WX) (c : Env → M Fl) : TS := fun T σ H => ∃ g ρ m, FS W X b g ρ m σ H ∧ PostS W xc X b g T E (c ρ m)
theorem PostS.sub {W : Wd} {xc : Nat → Option XcA} {X : Cx} {b : G × Hp} {g g1 : G} {T : Ends} {E : WX} {o : Out Fl} (p : PostS W xc X b g T E o) (s : SubF g g1) : PostS W xc X b g1 T E o := by
  cases o with
  | bad => exact p
  | ex _ _ _ => exact p
  | ok fl m =>
    cases fl with
    | nx ρ => exact fun σ' g' H' fs s' => p σ' g' H' fs (s.trans s')
    | bk ρ => exact fun σ' g' H' fs s' => p σ' g' H' fs (s.trans s')
    | ct ρ => exact fun σ' g' H' fs s' => p σ' g' H' fs (s.trans s')
    | rt d => exact p
theorem ps_weak {X : Cx} {st : Stmt} {t t' : TS} (h : PS X st t) (k : ∀ T σ H, t' T σ H → t T σ H) : PS X st t' := ⟨fun pins s σ H T I q => h.run pins s σ H T I (k T σ H q)⟩
theorem pss_weak {X : Cx} {st : List Stmt} {t t' : TS} (h : PSs X st t) (k : ∀ T σ H, t' T σ H → t T σ H) : PSs X st t' := ⟨fun pins s σ H T I q => h.run pins s σ H T I (k T σ H q)⟩
theorem pss_ok {X : Cx} {st : List Stmt} {t : TS} (h : PSs X st t) : PSs X st (fun T σ H => ∀ pins s, L2.Inv X pins σ H s → t T σ H) := ⟨fun pins s σ H T I q => h.run pins s σ H T I (q pins s I)⟩
/-- an expression's exception is the statement's -/
theorem PostS.expr {W : Wd} {xc : Nat → Option XcA} {X : Cx} {b : G × Hp} {T : Ends} {E : WX} {g : G} {ρ : Env} {m : MS} {σ : L2.St} {H : Hp} {α β : Type} {R : G → Hp → α → β → Prop} {c : M α} {f : α → M Fl} (fs : FS W X b g ρ m σ H) (p : PostS W xc X b g T E (M.bind c f m)) :
    Post W xc g σ H R (fun v H1 => ∃ g1 m1 a, FS W X b g1 ρ m1 σ H1 ∧ Ext g H g1 H1 ∧ R g1 H1 a v ∧ PostS W xc X b g1 T E (f a m1)) E (c m) := by
  unfold M.bind at p
  cases h : c m with
  | ok a m1 =>
    rw [h] at p
    exact fun v g1 H1 e hs r => ⟨g1, m1, a, fs.step e hs, e, r, p.sub e.toExtF.subF⟩
  | ex k q m1 =>
    rw [h] at p
    exact fun cls dd g1 H1 e hs r => p cls dd σ g1 H1 (fs.ext.trans e.toExtF) hs r
  | bad => rw [h] at p; exact p
theorem ExtF.from {g g2 g1 : G} {H0 H : Hp} (h : ExtF g2 H0 g1 H) (s : SameF g g2) : ExtF g H0 g1 H := by
  obtain ⟨s1, s2, s3⟩ := s
  refine ⟨fun a o e => h.sub a o (by rw [s1]; exact e), fun a o e => by rw [← s1]; exact h.new a o e, fun a o e n t => h.keep a o e (fun ⟨z0, z⟩ => n ⟨by rw [← s3]; exact z0, by rw [← s2]; exact z⟩) t, h.dom, ?_⟩
  rw [← s2, ← s3]
  exact h.mid
/-! ### the entry of a def -/
/-- a parameter's cell and what it holds -/
def PCell (X : Cx) (σ : L2.St) (c : Addr) (v : V) : Prop := ∃ (i : Nat) (x : Str), X.N[i]? = some x ∧ X.env.cells.lookup x = some c ∧ X.env.scope.names.lookup x = some .cell ∧ σ[i]? = some (some v)
open Classical in
noncomputable def stκ (X : Cx) (σ : L2.St) (κ : Addr → Option V) (c : Addr) : Option V := if h : ∃ v, PCell X σ c v then some h.choose else κ c
theorem stκ_no {X : Cx} {σ : L2.St} {κ : Addr → Option V} {c : Addr} (n : ¬ ∃ v, PCell X σ c v) : stκ X σ κ c = κ c := by
  unfold stκ
  exact dif_neg n
theorem stκ_yes {X : Cx} {σ : L2.St} {κ : Addr → Option V} {c : Addr} (h : ∃ v, PCell X σ c v) : stκ X σ κ c = some h.choose := by
  unfold stκ
  exact dif_pos h
/-- the ghost at the entry: the parameters' cells are known, too -/
noncomputable def stE (X : Cx) (g : G) (σ : L2.St) : G := { frG X g with κ := stκ X σ g.κ }
theorem stE_same {X : Cx} {g : G} {σ : L2.St} : SameF g (stE X g σ) := ⟨rfl, rfl, rfl⟩
theorem stE_at {X : Cx} {g : G} {σ : L2.St} (inj : ∀ x y c, X.env.cells.lookup x = some c → X.env.cells.lookup y = some c → x = y) (nd : X.N.Nodup) {i : Nat} {x : Str} {c : Addr} {v : V} (h1 : X.N[i]? = some x) (h2 : X.env.cells.lookup x = some c) (h3 : X.env.scope.names.lookup x = some .cell) (h4 : σ[i]? = some (some v)) :
    (stE X g σ).κ c = some v := by
  have h : ∃ v, PCell X σ c v := ⟨v, i, x, h1, h2, h3, h4⟩
  show stκ X σ g.κ c = some v
  rw [stκ_yes h]
  obtain ⟨i', x', k1, k2, k3, k4⟩ := h.choose_spec
  have := inj x' x c k2 h2
  subst this
  have := nodup_ix nd k1 h1
  subst this
  rw [h4] at k4
  exact (Option.some.inj k4).symm
theorem stE_no {X : Cx} {g : G} {σ : L2.St} {c : Addr} {v : V} (e : g.κ c = some v) (n : ∀ x, X.env.cells.lookup x ≠ some c) : (stE X g σ).κ c = some v := by
  show stκ X σ g.κ c = some v
  rw [stκ_no fun ⟨_, _, x, _, h, _⟩ => n x h]
  exact e
theorem stE_or {X : Cx} {g : G} {σ : L2.St} {c : Addr} {v : V} (h : (stE X g σ).κ c = some v) : PCell X σ c v ∨ g.κ c = some v := by
  have h : stκ X σ g.κ c = some v := h
  by_cases q : ∃ v, PCell X σ c v
  · rw [stκ_yes q] at h
    have := Option.some.inj h
    rw [← this]
    exact .inl q.choose_spec
  · rw [stκ_no q] at h
    exact .inr h
section
variable {W : Wd} {xc : Nat → Option XcA} {C : Ct}
def startE (np ns : Nat) (ds : List Val) : Env := ds.map Sl.sh ++ List.replicate (ns - np) Sl.no
theorem start_get {vs : List V} {N : List Str} {i : Nat} : slot (L2.start N vs) i = vs[i]? := by
  unfold slot L2.start
  by_cases h : i < vs.length
  · rw [List.getElem?_append_left (by simpa using h), List.getElem?_map, List.getElem?_eq_getElem h]
    rfl
  · rw [List.getElem?_append_right (by simpa using h), List.getElem?_replicate]
    rw [List.getElem?_eq_none (by omega)]
    split <;> rfl
theorem fs_start {X : Cx} {g : G} {m : MS} {H : Hp} {ds : List Val} {vs : List V} {pins : List (Addr × Obj)} {s1 : Shared} {np : Nat} (I : L2.Inv X pins (L2.start X.N vs) H s1) (nd : X.N.Nodup) (hs : HpS W g m H) (R : Refr g (stE X g (L2.start X.N vs))) (rv : RepVs W g ds vs) (hnp : ds.length = np) (hN : np ≤ X.N.length)
    (k0 : ∀ c v, g.κ c = some v → K0 X c v) (nofree : ∀ x, X.env.scope.names.lookup x ≠ some .free) : FS W X (frG X g, H) (stE X g (L2.start X.N vs)) (startE np X.N.length ds) m (L2.start X.N vs) H := by
  have hl := rv.length
  refine ⟨hs.of rfl rfl rfl, (ExtF.refl (frG X g) H).of rfl rfl rfl, ?_, fun i sl e => ?_, fun i j x y a e => ?_, fun i x a e => ?_, ⟨fun c v e => ?_, fun c => Iff.rfl, fun i => rfl, fun i x c v h1 h2 h3 h4 => ?_, I.ok.inj, nd, I.len⟩⟩
  · unfold startE L2.start
    simp only [List.length_append, List.length_map, List.length_replicate]
    omega
  · rw [start_get]
    unfold startE at e
    by_cases h : i < ds.length
    · rw [List.getElem?_append_left (by simpa using h), List.getElem?_map] at e
      cases q : ds[i]? with
      | none => rw [q] at e; cases e
      | some d =>
        rw [q] at e
        simp only [Option.map_some, Option.some.injEq] at e
        subst e
        obtain ⟨v, ev, r⟩ := rv.get q
        exact ⟨v, ev, RepV.refr R _ _ r⟩
    · rw [List.getElem?_append_right (by simpa using h), List.getElem?_replicate] at e
      split at e <;> cases e
      trivial
  · exfalso
    unfold startE at e
    by_cases h : i < ds.length
    · rw [List.getElem?_append_left (by simpa using h), List.getElem?_map] at e
      cases q : ds[i]? <;> rw [q] at e <;> cases e
    · rw [List.getElem?_append_right (by simpa using h), List.getElem?_replicate] at e
      split at e <;> cases e
  · exfalso
    unfold startE at e
    by_cases h : i < ds.length
    · rw [List.getElem?_append_left (by simpa using h), List.getElem?_map] at e
      cases q : ds[i]? <;> rw [q] at e <;> cases e
    · rw [List.getElem?_append_right (by simpa using h), List.getElem?_replicate] at e
      split at e <;> cases e
  · rcases stE_or e with ⟨i, x, h1, h2, h3, h4⟩ | e
    · exact .inl ⟨i, x, h1, h2, .inl h3, h4⟩
    · exact .inr (k0 c v e)
  · rcases h3 with h3 | h3
    · exact stE_at I.ok.inj nd h1 h2 h3 h4
    · exact absurd h3 (nofree x)
/-- a def by its body -/
theorem fnG_of {n np : Nat} {fa : Addr} {name qual : Str} {params : Arguments} {body : List Stmt} {scope : Scope} {dV kV doc pm cdv ct oc : Value} {an od : Option Addr} {osl : Array (Option Value)} {N ps : List Str} {c : Env → M Fl}
    (lk : W.K.lookup fa = some ⟨oc, od, .func (PySem.W.fnOf name qual params body scope dV kV doc pm an cdv ct), osl⟩) (hcd : PySem.W.codeIn W.K cdv qual = true) (S : FnScope N ps scope)
    (hnp : ps.length = np) (hN : np ≤ N.length)
    (hbody : ∀ (A : Around) (outer : List PySem.Env) (s : Shared) (H : Hp) (Ex : XK) (b : G × Hp), Rm n (A.deeper (envOfC qual scope s.heap.objs.size fa cdv)) →
      PSs (cxOf (L2.CX C.prog C.w) C.prog C.w W.K C.mg C.base N qual scope fa cdv A outer s H Ex) body (TSt W xc (cxOf (L2.CX C.prog C.w) C.prog C.w W.K C.mg C.base N qual scope fa cdv A outer s H Ex) b (fun cls dd _ H' => Ex cls dd H') c)) :
    FnSG W xc C (n + 1) fa (PySem.W.fnOf name qual params body scope dV kV doc pm an cdv ct) ps (fun ds => if ds.length = np then M.bind (c (startE np N.length ds)) fun fl => match fl with
      | .rt d => ret1 d
      | .nx _ => ret1 .non
      | _ => bad else bad) := by
  intro A outer s H args us vs Q Ex g ds m hr e0 kn hs rv r bt p
  dsimp only at p
  have hl : ds.length = np := by
    by_cases h : ds.length = np
    · exact h
    · rw [if_neg h] at p; exact p.elim
  rw [if_pos hl] at p
  have hvl : vs.length = ps.length := by rw [← rv.length, hl, hnp]
  refine run_ofS (N := N) (ps := ps) (us := us) (vs := vs) lk hcd S hr.room e0 bt r hvl fun _ => ?_
  have hB := hbody A outer s H Ex
  generalize hX : cxOf (L2.CX C.prog C.w) C.prog C.w W.K C.mg C.base N qual scope fa cdv A outer s H Ex = X at hB ⊢
  have xs : X.s_0 = s := by rw [← hX]; rfl
  have xh : X.H_0 = H := by rw [← hX]; rfl
  have xe : X.ex = [] := by rw [← hX]; rfl
  have xn : X.N = N := by rw [← hX]; rfl
  refine ⟨_, pss_ok (hB (frG X g, H) (hr.deeper _)), fun pins s1 I => ?_⟩
  have own : ∀ c v, g.κ c = some v → ∀ x, X.fn x = true → X.env.cells.lookup x ≠ some c := fun c v e x hx hlk => by
    obtain ⟨u, o, h1, h2, h3, h4⟩ := kn c v e
    have z := I.ok.cab x c hx hlk
    rw [xs] at z
    exact absurd (Nat.lt_of_lt_of_le (Heap.lt_size h2) z) (Nat.lt_irrefl _)
  have k0 : ∀ c v, g.κ c = some v → K0 X c v := fun c v e => by
    obtain ⟨u, o, h1, h2, h3, h4⟩ := kn c v e
    exact ⟨u, o, h1, by rw [xs]; exact h2, h3, by rw [xh]; exact h4, by rw [xe]; simp, own c v e⟩
  have xf : ∀ x, X.fn x = true := by rw [← hX]; exact fun _ => rfl
  have xsc : X.env.scope = scope := by rw [← hX]; rfl
  rw [← xn] at I ⊢
  have R : Refr g (stE X g (L2.start X.N vs)) := ⟨stE_same, fun c v e => ⟨stE_no e fun x h => own c v e x (xf x) h, fun ⟨x, hx, hlk⟩ => own c v e x hx hlk⟩⟩
  have fs := fs_start I (by rw [xn]; exact S.nd) hs R rv hl (by rw [xn]; exact hN) k0 (fun x hx => S.nofree (x, .free) (by rw [← xsc]; exact PySem.mem_of_lookup hx) rfl)
  refine ⟨stE X g (L2.start X.N vs), _, m, fs, ?_⟩
  rw [← xn] at p
  unfold M.bind at p
  cases ec : c (startE np X.N.length ds) m with
  | bad => rw [ec] at p; exact p.elim
  | ex k q m1 =>
    rw [ec] at p
    intro cls dd σ' g' H' e hs' rx
    exact p cls dd { g' with κ := g.κ, own := g.own, cell := g.cell } H' ⟨(e.from frG_same).of rfl rfl rfl, rfl, rfl, rfl⟩ (hs'.of rfl rfl rfl) rx
  | ok fl m1 =>
    rw [ec] at p
    cases fl with
    | nx ρ' =>
      intro σ' g' H' fs' _
      exact p .non { g' with κ := g.κ, own := g.own, cell := g.cell } H' ⟨(fs'.ext.from frG_same).of rfl rfl rfl, rfl, rfl, rfl⟩ (fs'.hs.of rfl rfl rfl) (by simp only [RepD])
    | rt d =>
      intro v g' H' e hs' rd
      exact p v { g' with κ := g.κ, own := g.own, cell := g.cell } H' ⟨(e.from frG_same).of rfl rfl rfl, rfl, rfl, rfl⟩ (hs'.of rfl rfl rfl) rd
    | bk ρ' => exact p.elim
    | ct ρ' => exact p.elim
theorem FnSG.pos {n : Nat} {fa : Addr} {fd : FuncData} {ps : List Str} {sem : List Val → M D} (F : FnSG W xc C n fa fd ps sem) (hb : L2.Binds W.K fd ps []) (hs : ∀ ds m, ds.length ≠ ps.length → sem ds m = .bad) : FnS W xc C n fa sem := by
  intro A outer s H us vs Q Ex g ds m hr e0 kn h rv r p
  have hl : ds.length = ps.length := by
    by_cases z : ds.length = ps.length
    · exact z
    · rw [hs ds m z] at p; exact p.elim
  have bt := hb s us (e0.mod.kin.keeps fun b o e => (e0.bs b o e).1) (by simp only [List.append_nil]; rw [← r.length, ← rv.length]; exact hl)
  rw [List.append_nil] at bt
  exact F A outer s H ⟨us, []⟩ us vs Q Ex g ds m hr e0 kn h rv r bt p
theorem pick_len {α : Type} : ∀ {ord : List Nat} {xs ys : List α}, pick ord xs = some ys → ys.length = ord.length
  | [], _, _, h => by simp only [pick, Option.some.injEq] at h; subst h; rfl
  | i :: r, xs, ys, h => by
    simp only [pick] at h
    split at h
    · split at h
      · rename_i x hx t ht
        cases h
        rw [List.length_cons, List.length_cons, pick_len ht]
      · cases h
    · cases h
theorem pick_rep {g : G} : ∀ {ord : List Nat} {ds ds' : List Val} {vs : List V} {us : List Value}, RepVs W g ds vs → Vals vs us → pick ord ds = some ds' → ∃ vs' us', pick ord us = some us' ∧ RepVs W g ds' vs' ∧ Vals vs' us'
  | [], ds, ds', vs, us, _, _, h => by
    simp only [pick, Option.some.injEq] at h
    subst h
    exact ⟨[], [], rfl, RepVs.nil, .nil⟩
  | i :: r, ds, ds', vs, us, rv, rr, h => by
    simp only [pick] at h
    split at h
    · rename_i x hx
      split at h
      · rename_i t ht
        cases h
        obtain ⟨vs', us', e, h1, h2⟩ := pick_rep rv rr ht
        obtain ⟨v, hv, rx⟩ := rv.get hx
        obtain ⟨u, hu, ru⟩ := paired_get rr hv
        exact ⟨v :: vs', u :: us', by simp only [pick, hu, e], RepVs.cons rx h1, .cons ru h2⟩
      · cases h
    · cases h
/-- the function at fa, called with the keywords ks alone -/
def FnSKw (W : Wd) (xc : Nat → Option XcA) (C : Ct) (n : Nat) (fa : Addr) (ks : List Str) (ord : List Nat) (sem : List Val → M D) : Prop :=
  ∀ (A : Around) (outer : List PySem.Env) (s : Shared) (H : Hp) (us : List Value) (vs : List V) (Q : VK) (Ex : XK) (g : G) (ds ds' : List Val) (m : MS), Rm n A → Env0 C.prog C.w W.K C.mg C.base A outer s H → KnS g s H → HpS W g m H → RepVs W g ds vs → Vals vs us → us.length = ks.length →
    pick ord ds = some ds' → PostC W xc g H Q Ex (sem ds' m) → codeAny (model C.prog C.w) A (.call (.ref fa) ⟨[], ks.zip us⟩) (CR (L2.CX C.prog C.w) outer C.prog C.w H s Q Ex) s
theorem FnSG.kw {n : Nat} {fa : Addr} {fd : FuncData} {ps ks : List Str} {ord : List Nat} {sem : List Val → M D} (F : FnSG W xc C n fa fd ps sem) (hb : ∀ (s : Shared) (us us' : List Value), us.length = ks.length → pick ord us = some us' → BindsTo s fd ⟨[], ks.zip us⟩ (ps.zip us')) : FnSKw W xc C n fa ks ord sem := by
  intro A outer s H us vs Q Ex g ds ds' m hr e0 kn h rv r hl hp p
  obtain ⟨vs', us', e, h1, h2⟩ := pick_rep rv r hp
  exact F A outer s H ⟨[], ks.zip us⟩ us' vs' Q Ex g ds' m hr e0 kn h h1 h2 (hb s us us' hl e) p
end
end Di
end
section
set_option Elab.async false
set_option linter.all false
set_option maxRecDepth 100000
set_option maxHeartbeats 2000000
/-! Di.St: statements. -/
namespace Di
open PySem PySem.Spec PyProof.Rows L2 LamX NdefX
section
variable {W : Wd} {xc : Nat → Option XcA} {X : Cx} {b : G × Hp} {T : Ends} {E : WX} {g g' : G} {ρ ρ' : Env} {m : MS} {σ : L2.St} {H H' : Hp}
theorem PostS.bofO {γ : Type} {o : Option γ} {f : γ → M Fl} (p : PostS W xc X b g T E (M.bind (Di.ofO o) f m)) : ∃ a, o = some a ∧ PostS W xc X b g T E (f a m) := by
  cases o with
  | none => exact p.elim
  | some a => exact ⟨a, rfl, p⟩
theorem PostS.nxt (p : PostS W xc X b g T E (ret1 (.nx ρ) m)) (fs : FS W X b g' ρ m σ H) (s : SubF g g') : T.nx σ H := p σ g' H fs s
variable {st : Stmt} {sts : List Stmt} {c cs : Env → M Fl}
theorem pss_dnil : PSs X [] (TSt W xc X b E fun ρ => ret1 (.nx ρ)) := pss_weak pss_nil fun T σ H ⟨g, ρ, m, fs, p⟩ => p σ g H fs (SubF.refl g)
def seqM (cs : Env → M Fl) (fl : Fl) : M Fl := match fl with
  | .nx ρ1 => cs ρ1
  | fl => ret1 fl
theorem pss_dcons (h : PS X st (TSt W xc X b E c)) (hs : PSs X sts (TSt W xc X b E cs)) : PSs X (st :: sts) (TSt W xc X b E fun ρ => M.bind (c ρ) (seqM cs)) :=
  pss_weak (pss_cons h hs) fun T σ H ⟨g, ρ, m, fs, p⟩ => by
    refine ⟨g, ρ, m, fs, ?_⟩
    unfold M.bind at p
    cases ec : c ρ m with
    | bad => simp only [ec] at p; exact p.elim
    | ex k q m1 => simp only [ec] at p; exact p
    | ok fl m1 =>
      simp only [ec] at p
      cases fl with
      | nx ρ1 => exact fun σ' g' H' fs' s' => ⟨g', ρ1, m1, fs', PostS.sub (p : PostS W xc X b g T E (cs ρ1 m1)) s'⟩
      | rt d => exact p
      | bk ρ1 => exact p
      | ct ρ1 => exact p
/-! ### stores -/
variable {ce : Env → M OV} {e tg : Expr} {pos : Pos} {t : Tg} {is : List Nat}
theorem ps_dasg (he : PE X e (TV W xc X b E ce)) (hg : PG X tg (tgG W X b is t)) (hs : swapsWithSole [tg] e pos.line X.env = pure false) (hw : swappedStores [tg] e X.env = pure none) (h1 : (assignEach [tg] X.env).map (·.2) = [assign tg X.env]) :
    PS X (.Assign [tg] e pos) (TSt W xc X b E fun ρ => M.bind (M.bind (ce ρ) fun x => ofO (valO x)) fun d => M.bind (ofO (setTg W.P t d ρ)) fun ρ1 => ret1 (.nx ρ1)) :=
  ps_weak (ps_asg he hg hs hw h1) fun T σ H ⟨g, ρ, m, fs, p⟩ => by
    dsimp only at p
    rw [bind_assoc] at p
    refine ⟨g, ρ, m, fs, (p.expr fs).mono fun v H1 ⟨g1, m1, x, fs1, e1, r1, p1⟩ => ?_⟩
    obtain ⟨d, ed, p2⟩ := p1.bofO
    obtain ⟨ρ1, eρ, p3⟩ := p2.bofO
    cases x with
    | o i => simp [valO] at ed
    | v x =>
      simp only [valO, Option.some.injEq] at ed
      subst ed
      exact ⟨g1, ρ, m1, x, ρ1, fs1, r1, eρ, fun σ' g' fs' sf _ => p3.nxt fs' sf.subF⟩
/-- a store at a name of a thing just made -/
theorem ps_dasgN {i : Nat} {x : Str} {te : TE} {cv : Env → M Val} (h : PS X st (tAsg te (gName i))) (hte : ∀ σ H Q, TN W xc X b E cv σ H Q → te σ H Q) (hN : X.N[i]? = some x) (ho : Own X x) :
    PS X st (TSt W xc X b E fun ρ => M.bind (cv ρ) fun d => M.bind (ofO (setTg W.P (.n i) d ρ)) fun ρ1 => ret1 (.nx ρ1)) :=
  ps_weak h fun T σ H ⟨g, ρ, m, fs, p⟩ => by
    refine hte σ H _ ⟨g, ρ, m, fs, ?_⟩
    unfold M.bind at p
    cases ec : cv ρ m with
    | bad => simp only [ec] at p; exact p.elim
    | ex k q m1 =>
      simp only [ec] at p
      exact fun cls dd g1 H1 e hs r => p cls dd σ g1 H1 (fs.ext.trans e.toExtF) hs r
    | ok y m1 =>
      simp only [ec] at p
      intro v g1 H1 e hs r
      obtain ⟨g2, e2, hs2, r2⟩ := r.frz e hs
      exact PostS.nxt (p : PostS W xc X b g T E (ret1 (.nx (put W.P i (.sh y) ρ)) m1)) ((fs.step e2 hs2).put hN ho r2) (e2.toExtF.subF.trans stG_same.subF)
theorem FS.dom_ow (fs : FS W X b g ρ m σ H) {j : Nat} {z : Val} {a : Addr} (h : ρ[j]? = some (.ow z) ∨ ρ[j]? = some (.ro z)) (e : slot σ j = some (.ref a)) : ∃ o, H a = some o := by
  have q : ∃ a, slot σ j = some (.ref a) ∧ g.F a = none ∧ ¬ g.mu a ∧ RepO W g H z a := by
    rcases h with h | h
    · exact fs.env j _ h
    · exact fs.env j _ h
  obtain ⟨a', e1, _, _, r⟩ := q
  rw [e] at e1; cases e1
  exact r.dom
theorem ps_dasgO {i : Nat} {x : Str} {te : TE} {cv : Env → M Val} (h : PS X st (tAsg te (gName i))) (hte : ∀ σ H Q, TN W xc X b E cv σ H Q → te σ H Q) (hN : X.N[i]? = some x) (ho : Own X x) :
    PS X st (TSt W xc X b E fun ρ => M.bind (cv ρ) fun d => ret1 (.nx (put W.P i (.ow d) ρ))) :=
  ps_weak h fun T σ H ⟨g, ρ, m, fs, p⟩ => by
    refine hte σ H _ ⟨g, ρ, m, fs, ?_⟩
    unfold M.bind at p
    cases ec : cv ρ m with
    | bad => simp only [ec] at p; exact p.elim
    | ex k q m1 =>
      simp only [ec] at p
      exact fun cls dd g1 H1 e hs r => p cls dd σ g1 H1 (fs.ext.trans e.toExtF) hs r
    | ok y m1 =>
      simp only [ec] at p
      intro v g1 H1 e hs r
      obtain ⟨a, rfl, n, f, mu, ro⟩ := r
      have fs1 := fs.step e hs
      refine PostS.nxt p (fs1.store hN ho (s := .ow y) ⟨a, rfl, f, mu, ro⟩ (fun _ => by simp) fun y' a' _ ea => ?_) (e.toExtF.subF.trans stG_same.subF)
      cases ea
      refine ⟨fs.ext.dom a n, fun j z hz hs' => ?_⟩
      obtain ⟨o, ho'⟩ := fs.dom_ow hz hs'
      rw [n] at ho'; cases ho'
/-! ### what makes new things -/
variable {es : List Expr} {cl : Env → M (List OV)}
theorem tn_lst (h : PA X es (TLs W xc X b E cl)) : PE X (.List es pos) (TN W xc X b E fun ρ => M.bind (M.bind (cl ρ) fun xs => ofO (lstO xs)) fun x => ofO (valO x)) :=
  pe_weak (pe_lst h) fun σ H Q ⟨g, ρ, m, fs, p⟩ => by
    dsimp only at p
    rw [bind_assoc] at p
    refine ⟨g, ρ, m, fs, (p.bind fs).mono fun vs H1 ⟨g1, m1, a, fs1, e1, r1, p1⟩ => ?_⟩
    obtain ⟨z, ez, p1⟩ := p1.bofO
    unfold lstO at ez
    split at ez <;> try (cases ez)
    rename_i ws ew
    split at ez <;> try (cases ez)
    rename_i y ey
    split at ez <;> try (cases ez)
    rename_i hz
    have q := vals_rep r1 ew
    refine ⟨by rw [← q.length]; exact hz, fun a ha => ?_⟩
    obtain ⟨f, mu⟩ := hp_dom fs1.hs ha
    have p1 : Post W xc g1 σ H1 (RN W H) Q E (.ok y m1) := p1
    refine p1 (.ref a) g1 (upd H1 a (.lst vs)) ⟨(ExtF.refl g1 H1).updL ha, rfl, rfl, rfl⟩ (fs1.hs.updL f mu fun u e => by rw [ha] at e; cases e) ⟨a, rfl, e1.dom a ha, f, mu, ?_⟩
    unfold lstV at ey
    split at ey
    · rename_i ds ed
      cases ey
      have := datas_eq ed
      subst this
      simp only [RepO]
      exact ⟨vs, upd_same, RepVs.data.mp q⟩
    · split at ey
      · cases ey
        simp only [RepO]
        exact ⟨vs, upd_same, q⟩
      · cases ey
theorem tn_dct : PE X (.Dict [] [] pos) (TN W xc X b E fun _ => ret1 (.d (.dct [] []))) :=
  pe_weak pe_dnewK fun σ H Q ⟨g, ρ, m, fs, p⟩ => by
    intro a ha
    obtain ⟨f, mu⟩ := hp_dom fs.hs ha
    refine p (.ref a) g (upd H a (.dK [])) ⟨(ExtF.refl g H).updL ha, rfl, rfl, rfl⟩ (fs.hs.updL f mu fun u e => by rw [ha] at e; cases e) ⟨a, rfl, ha, f, mu, ?_⟩
    simp only [RepO]
    exact ⟨[], upd_same, rfl, by simp only [List.map_nil, RepDs]⟩
/-! ### simple ones -/
theorem ps_dexpr (he : PE X e (TV W xc X b E ce)) (hs : swapsWith e none pos.line X.env = pure false) : PS X (.Expr e pos) (TSt W xc X b E fun ρ => M.bind (ce ρ) fun _ => ret1 (.nx ρ)) :=
  ps_weak (ps_expr he hs) fun T σ H ⟨g, ρ, m, fs, p⟩ => ⟨g, ρ, m, fs, (p.expr fs).mono fun v H1 ⟨g1, m1, x, fs1, e1, r1, p1⟩ => p1.nxt fs1 (SubF.refl g1)⟩
theorem ps_dpass : PS X (.Pass pos) (TSt W xc X b E fun ρ => ret1 (.nx ρ)) := ps_weak ps_pass fun T σ H ⟨g, ρ, m, fs, p⟩ => p.nxt fs (SubF.refl g)
theorem ps_dbrk : PS X (.Break pos) (TSt W xc X b E fun ρ => ret1 (.bk ρ)) := ps_weak ps_break fun T σ H ⟨g, ρ, m, fs, p⟩ => p σ g H fs (SubF.refl g)
theorem ps_dcont : PS X (.Continue pos) (TSt W xc X b E fun ρ => ret1 (.ct ρ)) := ps_weak ps_continue fun T σ H ⟨g, ρ, m, fs, p⟩ => p σ g H fs (SubF.refl g)
theorem ps_ddoc {x j pos'} : PS X (.Expr (.Constant (.str x) j pos) pos') (TSt W xc X b E fun ρ => ret1 (.nx ρ)) := ps_weak ps_doc fun T σ H ⟨g, ρ, m, fs, p⟩ => p.nxt fs (SubF.refl g)
variable {bc : Env → M Bool} {c1 c2 : Env → M Fl} {s1 s2 : List Stmt} {ec : Expr}
theorem ps_dif (hc : PT X ec (TBo W xc X b E bc)) (ha : PSs X s1 (TSt W xc X b E c1)) (hb : PSs X s2 (TSt W xc X b E c2)) : PS X (.If ec s1 s2 pos) (TSt W xc X b E fun ρ => M.bind (bc ρ) fun t => if t then c1 ρ else c2 ρ) :=
  ps_weak (ps_if hc ha hb) fun T σ H ⟨g, ρ, m, fs, p⟩ => by
    refine ⟨g, ρ, m, fs, (p.expr fs).mono fun v H1 ⟨g1, m1, x, fs1, e1, r1, p1⟩ => ?_⟩
    cases r1
    cases v with
    | true => rw [if_pos rfl]; exact ⟨g1, ρ, m1, fs1, p1⟩
    | false => rw [if_neg Bool.false_ne_true]; exact ⟨g1, ρ, m1, fs1, p1⟩
end
/-! ### freezing -/
section
variable {W : Wd} {X : Cx} {b : G × Hp} {g : G} {ρ ρ' : Env} {m : MS} {σ : L2.St} {H : Hp}
def Fz (p : Nat → Bool) (ρ ρ' : Env) : Prop := ρ'.length = ρ.length ∧ ∀ j s', ρ'[j]? = some s' → ∃ s, ρ[j]? = some s ∧ s' = if p j = true then frzS s else s
open Classical in
theorem FS.frzP {p : Nat → Bool} (fs : FS W X b g ρ m σ H) (fz : Fz p ρ ρ') : ∃ g', FS W X b g' ρ' m σ H ∧ g'.κ = g.κ ∧ SubF g g' := by
  let O : Addr → Prop := fun a => ∃ i y, p i = true ∧ ρ[i]? = some (.ow y) ∧ slot σ i = some (.ref a)
  let F' : Hp := fun a => if O a then H a else g.F a
  let g' : G := { g with F := F' }
  have own : ∀ {i y a}, ρ[i]? = some (.ow y) → slot σ i = some (.ref a) → g.F a = none ∧ ¬ g.mu a ∧ RepO W g H y a := fun {i y a} e s => by
    obtain ⟨a', e1, h⟩ := fs.env i _ e
    rw [s] at e1; cases e1
    exact h
  have sub : ∀ a o, g.F a = some o → F' a = some o := fun a o e => by
    show (if O a then H a else g.F a) = some o
    split
    · rename_i h
      obtain ⟨i, y, _, h1, h2⟩ := h
      rw [(own h1 h2).1] at e; cases e
    · exact e
  have out : ∀ a, F' a = none → g.F a = none := fun a e => by
    cases q : g.F a with
    | none => rfl
    | some o => rw [sub a o q] at e; cases e
  have atO : ∀ a, O a → F' a = H a := fun a h => by
    show (if O a then H a else g.F a) = H a
    rw [if_pos h]
  have notO : ∀ a, ¬ O a → F' a = g.F a := fun a h => by
    show (if O a then H a else g.F a) = g.F a
    rw [if_neg h]
  have mono : ∀ {x v}, RepV W g x v → RepV W g' x v := fun {x v} h => RepV.mono (g := g) (g' := g') sub (.inl ⟨rfl, rfl⟩) rfl rfl rfl x v h
  have monoDs : ∀ {xs vs}, RepDs W g.F g.μ g.mid xs vs → RepDs W g'.F g'.μ g'.mid xs vs := fun {xs vs} h => RepDs.mono sub (.inl ⟨rfl, rfl⟩) xs vs h
  have monoVs : ∀ {xs vs}, RepVs W g xs vs → RepVs W g' xs vs := fun {xs vs} h => RepVs.mono (g := g) (g' := g') sub (.inl ⟨rfl, rfl⟩) rfl rfl rfl xs vs h
  have roO : ∀ {y a}, RepO W g H y a → RepO W g' H y a := fun {y a} h => by
    unfold RepO at h ⊢
    split at h
    · obtain ⟨vs, h1, h2⟩ := h; exact ⟨vs, h1, monoDs h2⟩
    · obtain ⟨kvs, h1, h2, h3⟩ := h; exact ⟨kvs, h1, h2, monoDs h3⟩
    · obtain ⟨vs, h1, h2⟩ := h; exact ⟨vs, h1, monoVs h2⟩
    · exact h.elim
  refine ⟨g', ⟨⟨fun a o e => ?_, fun a hm => ?_, fs.hs.mid, fun h0 => ?_, fs.hs.tabs.mono sub (fun _ _ e => e), fun a ps e => ?_⟩, ⟨fun a o e => sub a o (fs.ext.sub a o e), fun a o e => ?_, fs.ext.keep, fs.ext.dom, fs.ext.mid⟩, by rw [fz.1]; exact fs.len, fun j s' e => ?_, fun i j x y a e1 e2 e3 e4 => ?_, fun i x a e1 e2 => ?_,
    ⟨fs.kr.κ, fs.kr.own, fs.kr.cell, fs.kr.full, fs.kr.inj, fs.kr.nd, fs.kr.len⟩⟩, rfl, ⟨sub, .inl ⟨rfl, rfl⟩⟩⟩
  · by_cases h : O a
    · rw [show g'.F a = H a from atO a h] at e; exact e
    · rw [show g'.F a = g.F a from notO a h] at e; exact fs.hs.sub a o e
  · by_cases h : O a
    · obtain ⟨i, y, _, h1, h2⟩ := h
      exact absurd hm (own h1 h2).2.1
    · rw [show g'.F a = g.F a from notO a h]; exact fs.hs.mu a hm
  · obtain ⟨ca, h1, h2⟩ := fs.hs.mst h0
    exact ⟨ca, h1, sub _ _ h2⟩
  · by_cases h : O a
    · rw [show g'.F a = H a from atO a h] at e
      obtain ⟨i, y, _, h1, h2⟩ := h
      have r := (own h1 h2).2.2
      unfold RepO at r
      split at r
      · obtain ⟨vs, k1, _⟩ := r; rw [e] at k1; cases k1
      · obtain ⟨vs, k1, _⟩ := r; rw [e] at k1; cases k1
      · obtain ⟨vs, k1, _⟩ := r; rw [e] at k1; cases k1
      · exact r.elim
    · rw [show g'.F a = g.F a from notO a h] at e; exact fs.hs.nt a ps e
  · by_cases h : O a
    · obtain ⟨i, y, _, h1, h2⟩ := h
      exact .inr (fs.old i y a h1 h2)
    · rw [show g'.F a = g.F a from notO a h] at e; exact fs.ext.new a o e
  · obtain ⟨s, es, rfl⟩ := fz.2 j s' e
    have q := fs.env j s es
    by_cases hp : p j = true
    · rw [if_pos hp]
      cases s with
      | no => trivial
      | sh y =>
        obtain ⟨w, e1, h1⟩ := q
        exact ⟨w, e1, mono h1⟩
      | ow y =>
        obtain ⟨a, e1, h1, h2, h3⟩ := q
        have h : O a := ⟨j, y, hp, es, e1⟩
        refine ⟨.ref a, e1, ?_⟩
        unfold RepO at h3
        split at h3
        · obtain ⟨vs, k1, k2⟩ := h3
          simp only [RepV]
          rw [show RepD W g'.F g'.μ g'.mid (Di.D.lst _) (V.ref a) ↔ _ from by simp only [RepD]; exact Iff.rfl]
          exact ⟨a, vs, rfl, by rw [show g'.F a = H a from atO a h]; exact k1, monoDs k2⟩
        · obtain ⟨kvs, k1, k2, k3⟩ := h3
          simp only [RepV]
          rw [show RepD W g'.F g'.μ g'.mid (Di.D.dct _ _) (V.ref a) ↔ _ from by simp only [RepD]; exact Iff.rfl]
          exact ⟨a, kvs, rfl, by rw [show g'.F a = H a from atO a h]; exact k1, k2, monoDs k3⟩
        · obtain ⟨vs, k1, k2⟩ := h3
          simp only [RepV]
          exact ⟨a, vs, rfl, by rw [show g'.F a = H a from atO a h]; exact k1, monoVs k2⟩
        · exact h3.elim
      | ro y =>
        obtain ⟨a, e1, h1, h2, h3⟩ := q
        refine ⟨a, e1, ?_, h2, roO h3⟩
        rw [show g'.F a = g.F a from notO a fun ⟨i, z, _, k1, k2⟩ => ?_]
        · exact h1
        · have := fs.sep i j z y a k1 (.inr es) k2 e1
          subst this
          rw [es] at k1; cases k1
    · rw [if_neg hp]
      cases s with
      | no => trivial
      | sh y =>
        obtain ⟨w, e1, h1⟩ := q
        exact ⟨w, e1, mono h1⟩
      | ow y =>
        obtain ⟨a, e1, h1, h2, h3⟩ := q
        refine ⟨a, e1, ?_, h2, roO h3⟩
        rw [show g'.F a = g.F a from notO a fun ⟨i, z, hi, k1, k2⟩ => ?_]
        · exact h1
        · have := fs.sep i j z y a k1 (.inl es) k2 e1
          subst this
          exact hp hi
      | ro y =>
        obtain ⟨a, e1, h1, h2, h3⟩ := q
        refine ⟨a, e1, ?_, h2, roO h3⟩
        rw [show g'.F a = g.F a from notO a fun ⟨i, z, _, k1, k2⟩ => ?_]
        · exact h1
        · have := fs.sep i j z y a k1 (.inr es) k2 e1
          subst this
          rw [es] at k1; cases k1
  · obtain ⟨s1, f1, k1⟩ := fz.2 i _ e1
    have z1 : s1 = .ow x := by
      by_cases hp : p i = true
      · rw [if_pos hp] at k1
        cases s1 <;> simp [frzS] at k1
      · rw [if_neg hp] at k1; exact k1.symm
    subst z1
    have z2 : ρ[j]? = some (.ow y) ∨ ρ[j]? = some (.ro y) := by
      rcases e2 with e2 | e2
      · obtain ⟨s2, f2, k2⟩ := fz.2 j _ e2
        by_cases hp : p j = true
        · rw [if_pos hp] at k2
          cases s2 <;> simp [frzS] at k2
        · rw [if_neg hp] at k2
          rw [← k2] at f2; exact .inl f2
      · obtain ⟨s2, f2, k2⟩ := fz.2 j _ e2
        by_cases hp : p j = true
        · rw [if_pos hp] at k2
          cases s2 <;> simp [frzS] at k2
          subst k2; exact .inr f2
        · rw [if_neg hp] at k2
          rw [← k2] at f2; exact .inr f2
    exact fs.sep i j x y a f1 z2 e3 e4
  · obtain ⟨s1, f1, k1⟩ := fz.2 i _ e1
    have z1 : s1 = .ow x := by
      by_cases hp : p i = true
      · rw [if_pos hp] at k1
        cases s1 <;> simp [frzS] at k1
      · rw [if_neg hp] at k1; exact k1.symm
    subst z1
    exact fs.old i x a f1 e2
theorem fz_all : Fz (fun _ => true) ρ (ρ.map frzS) := by
  refine ⟨by simp, fun j s' e => ?_⟩
  rw [List.getElem?_map] at e
  cases q : ρ[j]? with
  | none => rw [q] at e; cases e
  | some s =>
    rw [q] at e
    exact ⟨s, rfl, by simpa using e.symm⟩
theorem fz_one {i : Nat} (h : frzO ρ i = some ρ') : Fz (fun j => j == i) ρ ρ' := by
  unfold frzO at h
  split at h
  · rename_i d ed
    cases h
    refine ⟨by simp, fun j s' e => ?_⟩
    by_cases q : j = i
    · subst q
      have hl : j < ρ.length := (List.getElem?_eq_some_iff.mp ed).1
      rw [List.getElem?_set_self hl] at e
      cases e
      exact ⟨_, ed, by simp [frzS]⟩
    · rw [List.getElem?_set_ne (fun z => q z.symm)] at e
      exact ⟨s', e, by simp [q]⟩
  · rename_i d ed
    cases h
    refine ⟨rfl, fun j s' e => ⟨s', e, ?_⟩⟩
    by_cases q : j = i
    · subst q
      rw [ed] at e; cases e
      simp [frzS]
    · simp [q]
  · cases h
end
section
variable {W : Wd} {xc : Nat → Option XcA} {X : Cx} {b : G × Hp} {E : WX} {ce : Env → M OV} {e : Expr} {pos : Pos} {sts : List Stmt} {cs : Env → M Fl}
theorem pss_dfrz {i : Nat} (h : PSs X sts (TSt W xc X b E cs)) : PSs X sts (TSt W xc X b E fun ρ => M.bind (M.bind (ofO (frzO ρ i)) fun ρ1 => ret1 (.nx ρ1)) (seqM cs)) :=
  pss_weak h fun T σ H ⟨g, ρ, m, fs, p⟩ => by
    dsimp only at p
    rw [bind_assoc] at p
    obtain ⟨ρ1, e, p⟩ := p.bofO
    obtain ⟨g', fs', _, s'⟩ := fs.frzP (fz_one e)
    exact ⟨g', ρ1, m, fs', PostS.sub (p : PostS W xc X b g T E (cs ρ1 m)) s'⟩
/-- an expression in the frame with all frozen -/
theorem tv_frz {β : Type} {R : Env → L2.St → G → Hp → β → V → Prop} {c : Env → M β} {σ : L2.St} {H : Hp} {g : G} {ρ : Env} {m : MS} (fs : FS W X b g ρ m σ H) : ∃ g', FS W X b g' (ρ.map frzS) m σ H :=
  let ⟨g', h, _⟩ := fs.frzP fz_all
  ⟨g', h⟩
theorem ps_dret (he : PE X e (TV W xc X b E ce)) : PS X (.Return (some e) pos) (TSt W xc X b E fun ρ => M.bind (M.bind (ce (ρ.map frzS)) fun x => ofO (datO x)) fun d => ret1 (.rt d)) :=
  ps_weak (ps_ret he) fun T σ H ⟨g, ρ, m, fs, p⟩ => by
    dsimp only at p
    rw [bind_assoc] at p
    obtain ⟨g', fs', _, s'⟩ := fs.frzP fz_all
    refine ⟨g', ρ.map frzS, m, fs', ((p.sub s').expr fs').mono fun v H1 ⟨g1, m1, x, fs1, e1, r1, p1⟩ => ?_⟩
    obtain ⟨d, ed, p1⟩ := p1.bofO
    unfold datO at ed
    split at ed <;> try (cases ed)
    exact p1 v g1 H1 fs1.ext fs1.hs (by simpa only [RepOV, RepV] using r1)
theorem ps_dretN : PS X (.Return none pos) (TSt W xc X b E fun ρ => ret1 (.rt .non)) :=
  ps_weak ps_retN fun T σ H ⟨g, ρ, m, fs, p⟩ => p .non g H fs.ext fs.hs (by simp only [RepD])
end
end Di
end
section
set_option Elab.async false
set_option linter.all false
set_option maxRecDepth 100000
set_option maxHeartbeats 2000000
/-! Di.St2: stores into things of one's own; loops. -/
namespace Di
open PySem PySem.Spec PyProof.Rows L2 LamX NdefX
section
variable {W : Wd} {xc : Nat → Option XcA} {X : Cx} {b : G × Hp} {T : Ends} {E : WX} {g g' : G} {ρ ρ' : Env} {m : MS} {σ : L2.St} {H H' : Hp}
/-- the thing of an own slot changes -/
theorem FS.chg (fs : FS W X b g ρ m σ H) {i : Nat} {y y' : Val} {a : Addr} {o : HO} (hi : ρ[i]? = some (.ow y)) (hs : slot σ i = some (.ref a)) (hD : ∀ u, H a = some u → (∃ ys, u = .lst ys) ∨ ∃ kvs, u = .dK kvs) (r : RepO W g (upd H a o) y' a) :
    FS W X b g (ρ.set i (.ow y')) m σ (upd H a o) := by
  obtain ⟨a', e1, f, mu, _⟩ := fs.env i _ hi
  rw [hs] at e1; cases e1
  have hb := fs.old i y a hi hs
  have hl : i < ρ.length := (List.getElem?_eq_some_iff.mp hi).1
  have get : ∀ {j s}, (ρ.set i (.ow y'))[j]? = some s → (j = i ∧ s = .ow y') ∨ (j ≠ i ∧ ρ[j]? = some s) := fun {j s} e => by
    by_cases q : j = i
    · subst q
      rw [List.getElem?_set_self hl] at e
      exact .inl ⟨rfl, (Option.some.inj e).symm⟩
    · rw [List.getElem?_set_ne (fun z => q z.symm)] at e
      exact .inr ⟨q, e⟩
  have old : ∀ {j : Nat} {z : Val}, (ρ.set i (Sl.ow y'))[j]? = some (Sl.ow z) → ∃ z' : Val, ρ[j]? = some (Sl.ow z') := fun {j z} e => by
    rcases get e with ⟨rfl, _⟩ | ⟨_, e⟩
    · exact ⟨y, hi⟩
    · exact ⟨z, e⟩
  refine ⟨fs.hs.updL f mu hD, fs.ext.updL hb, by rw [List.length_set]; exact fs.len, fun j s e => ?_, fun j k z w c e1 e2 e3 e4 => ?_, fun j z c e1 e2 => ?_, fs.kr⟩
  · rcases get e with ⟨rfl, rfl⟩ | ⟨n, e⟩
    · exact ⟨a, hs, f, mu, r⟩
    · have q := fs.env j s e
      have other : ∀ {z c}, (ρ[j]? = some (.ow z) ∨ ρ[j]? = some (.ro z)) → slot σ j = some (.ref c) → RepO W g H z c → RepO W g (upd H a o) z c := fun {z c} h1 h2 h3 => by
        have ne : c ≠ a := fun e => by
          subst e
          exact n (fs.sep i j y z c hi h1 hs h2).symm
        unfold RepO at h3 ⊢
        split at h3
        · obtain ⟨vs, k1, k2⟩ := h3; exact ⟨vs, by rw [upd_ne ne]; exact k1, k2⟩
        · obtain ⟨vs, k1, k2⟩ := h3; exact ⟨vs, by rw [upd_ne ne]; exact k1, k2⟩
        · obtain ⟨vs, k1, k2⟩ := h3; exact ⟨vs, by rw [upd_ne ne]; exact k1, k2⟩
        · exact h3.elim
      cases s with
      | no => trivial
      | sh z => exact q
      | ow z =>
        obtain ⟨c, k1, k2, k3, k4⟩ := q
        exact ⟨c, k1, k2, k3, other (.inl e) k1 k4⟩
      | ro z =>
        obtain ⟨c, k1, k2, k3, k4⟩ := q
        exact ⟨c, k1, k2, k3, other (.inr e) k1 k4⟩
  · obtain ⟨z', f1⟩ := old e1
    have f2 : ∃ w', ρ[k]? = some (.ow w') ∨ ρ[k]? = some (.ro w') := by
      rcases e2 with e2 | e2
      · obtain ⟨w', q⟩ := old e2; exact ⟨w', .inl q⟩
      · rcases get e2 with ⟨_, q⟩ | ⟨_, q⟩
        · cases q
        · exact ⟨w, .inr q⟩
    obtain ⟨w', f2⟩ := f2
    exact fs.sep j k z' w' c f1 f2 e3 e4
  · obtain ⟨z', f1⟩ := old e1
    exact fs.old j z' c f1 e2
theorem post_one {c : M OV} {Q1 : VK} {Q2 : List V → Hp → Prop} (p : Post W xc g σ H (fun g _ x v => RepOV W ρ σ g x v) Q1 E (c m)) (h : ∀ v H, Q1 v H → Q2 [v] H) :
    Post W xc g σ H (fun g _ xs vs => Paired (fun x v => RepOV W ρ σ g x v) xs vs) Q2 E (M.bind c (fun x => M.bind (ret1 []) fun xs => ret1 (x :: xs)) m) := by
  unfold M.bind
  revert p
  cases c m with
  | bad => exact fun q => q
  | ex k r m1 => exact fun q => q
  | ok z m1 =>
    intro q us g1 H1 e1 hs1 r
    cases r with
    | cons r t =>
      cases t
      exact h _ _ (q _ g1 H1 e1 hs1 r)
/-! ### append -/
variable {ce : Env → M OV} {e : Expr} {pos p1 ap cp : Pos} {i : Nat} {x : Str}
theorem ps_dpush (hN : X.N[i]? = some x) (hv : Vis X.env.scope x) (hd : (x == ("__debug__" : Str)) = false) (hcd : (x == ("__classdict__" : Str)) = false) (he : PE X e (TV W xc X b E ce))
    (hbase : attributeBase (.Name x p1) "append" X.env (eval (.Name x p1) X.env) = eval (.Name x p1) X.env) (hline : (ap.endLine == cp.line) = true) (hs : starEach [e] X.env = (false, eval e X.env) :: starEach [] X.env) :
    PS X (.Expr (.Call (.Attribute (.Name x p1) "append" ap) [e] [] cp) pos) (TSt W xc X b E fun ρ => M.bind (ofO (isOL ρ i)) fun _ => M.bind (M.bind (ce ρ) fun x => ofO (valO x)) fun d => M.bind (ofO (pushO ρ i d)) fun ρ1 => ret1 (.nx ρ1)) := by
  have few : ((backTo cp (starEach [e] X.env)).all (fun x => !x.1) && (backToKw cp (keywordEach [] X.env)).all (fun x => x.1.isSome) && decide ([e].length + ([] : List Keyword).length + (if ([] : List Keyword).isEmpty then 0 else 1) < 30)) = true := by rw [hs]; rfl
  have call := pe_bm (X := X) (T := "list") (cpos := cp) F.plainAttrs_list F.slot_list_append F.type_list_append (mt_append (X := X)) (pe_var (pos := p1) hN hv hd hcd) (pa_dcons he pa_dnil hs) hbase few hline hs rfl
  refine ps_weak (ps_expr call (by rfl)) fun T σ H ⟨g, ρ, m, fs, p⟩ => ?_
  dsimp only at p
  obtain ⟨_, eo, p⟩ := p.bofO
  rw [bind_assoc] at p
  have hown : ∃ y a vs, ρ[i]? = some (.ow y) ∧ slot σ i = some (.ref a) ∧ H a = some (.lst vs) := by
    unfold isOL at eo
    split at eo
    · rename_i q
      obtain ⟨a, e1, _, _, r⟩ := fs.env i _ q
      simp only [RepO] at r
      obtain ⟨vs, r, _⟩ := r
      exact ⟨_, a, vs, q, e1, r⟩
    · rename_i q
      obtain ⟨a, e1, _, _, r⟩ := fs.env i _ q
      simp only [RepO] at r
      obtain ⟨vs, r, _⟩ := r
      exact ⟨_, a, vs, q, e1, r⟩
    · cases eo
  obtain ⟨y, a, vs0, hy, hsl, hH⟩ := hown
  refine ⟨.ref a, slot_some hsl, .inl ⟨rfl, vs0, .inl (.inl hH)⟩, g, ρ, m, fs, ?_⟩
  refine post_one (PostS.expr (R := fun g _ x v => RepOV W ρ σ g x v) fs p) fun v H1 ⟨g2, m2, x2, fs1, _, r1, p1⟩ => ?_
  obtain ⟨d, ed, p2⟩ := p1.bofO
  obtain ⟨ρ1, eρ, p3⟩ := p2.bofO
  cases x2 with
  | o _ => simp [valO] at ed
  | v x2 =>
    simp only [valO, Option.some.injEq] at ed
    subst ed
    obtain ⟨a', e2, f, mu, ro⟩ := fs1.env i _ hy
    rw [hsl] at e2; cases e2
    unfold pushO at eρ
    rw [hy] at eρ
    have key : ∀ {vs ws : List V} {y' : Val} {v' : V}, H1 a = some (.lst vs) → vs.length < sizeLine → ρ1 = ρ.set i (.ow y') → RepO W g2 (upd H1 a (.lst (vs ++ [v']))) y' a →
        rAppend (.ref a) [v'] H1 fun _ H2 => T.nx σ H2 := fun {vs ws y' v'} h1 h2 h3 h4 => by
      refine ⟨a, vs, v', rfl, rfl, h1, h2, ?_⟩
      have fs2 := fs1.chg (o := .lst (vs ++ [v'])) hy hsl (fun u hu => by rw [h1] at hu; cases hu; exact .inl ⟨_, rfl⟩) h4
      rw [← h3] at fs2
      exact p3.nxt fs2 (SubF.refl g2)
    cases y with
    | c _ _ => simp at eρ
    | l xs =>
      simp only [RepO] at ro
      obtain ⟨vs, k1, k2⟩ := ro
      cases x2 with
      | d _ => simp at eρ
      | l _ => simp at eρ
      | c k cap =>
        simp only at eρ
        split at eρ <;> try (cases eρ)
        rename_i hz
        exact key (ws := []) k1 (by rw [← k2.length]; exact hz) rfl (by simp only [RepO]; exact ⟨_, upd_same, k2.append (RepVs.cons r1 RepVs.nil)⟩)
    | d y =>
      cases y <;> simp only at eρ <;> try (cases eρ)
      rename_i xs
      simp only [RepO] at ro
      obtain ⟨vs, k1, k2⟩ := ro
      cases x2 with
      | l _ => simp at eρ
      | d d =>
        simp only at eρ
        split at eρ <;> try (cases eρ)
        rename_i hz
        have rd : RepD W g2.F g2.μ g2.mid d v := by simpa only [RepOV, RepV] using r1
        exact key (ws := []) k1 (by rw [← k2.length]; exact hz) rfl (by simp only [RepO]; exact ⟨_, upd_same, k2.append (RepDs.cons rd RepDs.nil)⟩)
      | c k cap =>
        simp only at eρ
        split at eρ <;> try (cases eρ)
        rename_i hz
        have ex : xs = [] := by simpa using hz
        subst ex
        have ev := List.eq_nil_of_length_eq_zero k2.length.symm
        subst ev
        exact key (ws := []) k1 (by rw [sizeLine_eq]; decide) rfl (by simp only [RepO]; exact ⟨_, upd_same, RepVs.cons r1 RepVs.nil⟩)
/-! ### loops -/
variable {tg iter : Expr} {t : Tg} {is : List Nat} {body : List Stmt} {cb : Env → M Fl} {ci : Env → M (List Val)}
def loopM (P : Prg) (t : Tg) (cb : Env → M Fl) (x : Val) (ρ : Env) : M Fl := M.bind (ofO (setTg P t x ρ)) fun ρ1 => cb ρ1
theorem ps_dfor (hp : PassesOwn (model X.prog X.w) X.A X.env X.xe) (hc : X.calm = true) (hi : PI X tg iter (TW W xc X b E true ci)) (hit : ∀ ρ items m m', ci ρ m = .ok items m' → ∃ ds : List D, items = ds.map .d) (hg : ∀ b', PG X tg (tgG W X b' is t)) (hb : PSs X body (TSt W xc X b E cb)) (fo : ∀ x, foldedSetIterable iter X.env x = pure x) :
    PS X (.For tg iter body [] pos) (TSt W xc X b E fun ρ => M.bind (ci ρ) fun items => forL (loopM W.P t cb) items ρ) :=
  ps_weak (ps_for hp hc hi (hg b) hb fo) fun T σ H ⟨g, ρ, m, fs, p⟩ => by
    refine ⟨g, ρ, m, fs, ?_⟩
    unfold M.bind at p
    cases ec : ci ρ m with
    | bad => simp only [ec] at p; exact p
    | ex k r m1 =>
      simp only [ec] at p
      exact fun cls dd g1 H1 e hs r => p cls dd σ g1 H1 (fs.ext.trans e.toExtF) hs r
    | ok items m1 =>
      simp only [ec] at p
      intro J g1 H1 e1 hs1 wk
      obtain ⟨ds, rfl⟩ := hit ρ items m m1 ec
      generalize ds.map Val.d = items at *
      have wk : Wk W J (fun g' _ => SubF g1 g') items := wk
      refine ⟨fun i n σ' H' => i ≤ items.length ∧ n = items.length - i ∧ ∃ gi ρi mi, FS W X b gi ρi mi σ' H' ∧ SubF g1 gi ∧ PostS W xc X b gi T E (forL (loopM W.P t cb) (items.drop i) ρi mi),
        ⟨items.length, Nat.zero_le _, rfl, g1, ρ, m1, fs.step e1 hs1, SubF.refl _, p.sub e1.toExtF.subF⟩, ?_⟩
      intro i n σ' H' ⟨hi, hn, gi, ρi, mi, x1, x2, x3⟩
      obtain ⟨go, stop⟩ := wk i gi H' mi x2 x1.hs
      by_cases hlt : i < items.length
      · refine .inr ?_
        obtain ⟨d, hd⟩ : ∃ d, items[i]? = some d := ⟨items[i], by simp [hlt]⟩
        obtain ⟨g1o, yl⟩ := go d hd
        have hdrop : items.drop i = d :: items.drop (i + 1) := by
          rw [List.drop_eq_getElem_cons hlt]
          congr 1
          exact (List.getElem?_eq_some_iff.mp hd).2
        rw [hdrop] at x3
        simp only [forL, loopM] at x3
        rw [bind_assoc] at x3
        obtain ⟨ρ1, eρ, x4⟩ := x3.bofO
        refine ⟨g1o, fun σ2 H2 => i + 1 ≤ items.length ∧ n - 1 = items.length - (i + 1) ∧ ∃ gi ρi mi, FS W X b gi ρi mi σ2 H2 ∧ SubF g1 gi ∧ PostS W xc X b gi T E (forL (loopM W.P t cb) (items.drop (i + 1)) ρi mi), fun σ2 H2 h => ⟨n - 1, by omega, h⟩, fun x H2 yx => ?_⟩
        obtain ⟨g2, gr, rx⟩ := yl x H2 yx
        have fs2 := x1.step gr.ext (gr.hs _ x1.hs)
        refine ⟨g2, ρi, mi, d, ρ1, fs2, rx, eρ, fun σ3 g3 fs3 sf _ => ⟨g3, ρ1, mi, fs3, ?_⟩⟩
        have s13 : SubF gi g3 := gr.ext.toExtF.subF.trans sf.subF
        unfold M.bind at x4
        cases eb : cb ρ1 mi with
        | bad => simp only [eb] at x4; exact x4
        | ex k r m4 => simp only [eb] at x4; exact x4
        | ok fl m4 =>
          simp only [eb] at x4
          cases fl with
          | nx ρ4 => exact fun σ4 g4 H4 fs4 s4 => ⟨by omega, by omega, g4, ρ4, m4, fs4, (x2.trans s13).trans s4, PostS.sub (p := x4) (s13.trans s4)⟩
          | ct ρ4 => exact fun σ4 g4 H4 fs4 s4 => ⟨by omega, by omega, g4, ρ4, m4, fs4, (x2.trans s13).trans s4, PostS.sub (p := x4) (s13.trans s4)⟩
          | bk ρ4 => exact fun σ4 g4 H4 fs4 s4 => x4 σ4 g4 H4 fs4 (s13.trans s4)
          | rt d => exact x4
      · refine .inl ⟨stop (by omega), ?_⟩
        rw [List.drop_eq_nil_of_le (by omega)] at x3
        simp only [forL] at x3
        exact x3 σ' gi H' x1 (SubF.refl _)
end
end Di
end
section
set_option Elab.async false
set_option linter.all false
set_option maxRecDepth 100000
set_option maxHeartbeats 2000000
/-! Di.E2: more expressions. -/
namespace Di
open PySem PySem.Spec PyProof.Rows L2 LamX NdefX
section
variable {prog : Program} {w : World} {A : Around} {E : Value → Shared → Prop} {s : Shared}
theorem applied_rev {sl : Addr} {t : Tok} {n : Nat} {Q : Int × Int × Nat → Shared → Prop} (hs : s.heap.IsSliceOf sl .none .none (.int (-1) t)) (h : Q ((n : Int) - 1, -1, n) s) :
    wpAny (model prog w) A (Builtin.Slice.sliceApplied (.ref sl) (pure (n : Int))) Q E s := by
  obtain ⟨os, hos, hcs, hds⟩ := id hs
  unfold Builtin.Slice.sliceApplied Builtin.Slice.sliceFields
  refine wpAny_bind (wpAny_bind (wpAny_field hos hds (x := .none) rfl
    (wpAny_bind (wpAny_field hos hds (x := .none) rfl
      (wpAny_bind (wpAny_field hos hds (x := .int (-1) t) rfl (wpAny_pure ?_)))))))
  refine wpAny_bind (slicePart_int ?_)
  show wpAny _ _ (if ((-1 : Int) == 0) = true then _ else _) _ _ s
  rw [if_neg (by decide)]
  refine wpAny_bind (slicePart_none (wpAny_bind (slicePart_none (wpAny_bind (wpAny_pure ?_)))))
  have e : Builtin.Slice.sliceAdjust none none (-1) (n : Int) = ((n : Int) - 1, -1) := rfl
  have p : Builtin.Slice.slicePlaces ((n : Int) - 1) (-1) (-1) = n := by
    unfold Builtin.Slice.slicePlaces
    simp only [show ¬ ((-1 : Int) > 0) by decide, if_false]
    split <;> simp <;> omega
  show wpAny _ _ (match Builtin.Slice.sliceAdjust none none (-1) (n : Int) with
    | (lo, hi) => pure (lo, (-1 : Int), Builtin.Slice.slicePlaces lo hi (-1))) _ _ s
  rw [e]
  show wpAny _ _ (pure ((n : Int) - 1, (-1 : Int), Builtin.Slice.slicePlaces ((n : Int) - 1) (-1) (-1))) _ _ s
  rw [p]
  exact wpAny_pure h
theorem pick_rev (xs : Array Value) : ((List.range xs.size).filterMap fun (m : Nat) => xs[((xs.size : Int) - 1 + (m : Int) * -1).toNat]?).toArray = xs.toList.reverse.toArray := by
  congr 1
  have h : ∀ k, k ≤ xs.size → (List.range k).filterMap (fun (m : Nat) => xs[((xs.size : Int) - 1 + (m : Int) * -1).toNat]?) = (xs.toList.reverse).take k := by
    intro k
    induction k with
    | zero => intro _; simp
    | succ k ih =>
      intro hk
      rw [List.range_succ, List.filterMap_append, ih (by omega), List.take_succ]
      congr 1
      have e : ((xs.size : Int) - 1 + (k : Int) * -1).toNat = xs.size - 1 - k := by omega
      simp only [List.filterMap_cons, List.filterMap_nil, e]
      rw [List.getElem?_reverse (by rw [Array.length_toList]; omega)]
      simp only [Array.length_toList, Array.getElem?_toList]
      have : xs.size - 1 - k < xs.size := by omega
      simp [this]
  have := h xs.size (Nat.le_refl _)
  rw [List.take_of_length_le (by simp)] at this
  exact this
theorem item_tup_rev {t sl : Addr} {tk : Tok} {items : Array Value} {Q : Value → Shared → Prop} (ht : IsTup s.heap t items) (hs : s.heap.IsSliceOf sl .none .none (.int (-1) tk)) (hsz : items.size ≤ sizeLine)
    (h : Q (.ref s.heap.objs.size) { s with heap := s.heap.push { cls := .type "tuple", data := .seq items.toList.reverse.toArray } }) : wpAny (model prog w) A (getItem (.ref t) (.ref sl)) Q E s := by
  have fit : sizeOk (.seq items.toList.reverse.toArray) := by
    show items.toList.reverse.toArray.size ≤ sizeLine
    simpa using hsz
  obtain ⟨os, hos, hcs, hds⟩ := id hs
  have ts : s.TypeIs (.ref sl) "slice" := ⟨os, hos, hcs⟩
  unfold getItem
  try with_reducible refine wpAny_holding ?_
  first | refine wpAny_bind (wpAny_pure ?_) | skip
  refine wpAny_bind (wpAny_sequenceKey ht.typeIs (by decide) ?_)
  have slot := PyProof.Rows.slot_tuple_getitem
  refine wpAny_bind (wpAny_callSpecial?_slot (name := Str.ofString "__getitem__") ht.typeIs slot
    (wpAny_call_entry slot ht.typeIs entry_tuple_getitem ?_ (args_tuple_getitem _ _)))
  show wpAny _ _ (Builtin.Tuple.tupleItemsOf (.ref t) >>= _) _ _ s
  refine wpAny_bind (tupleItemsOf_ ht (wpAny_bind (wpAny_typeOf ts ?_)))
  rw [if_pos (by decide)]
  refine wpAny_bind (applied_rev hs ?_)
  have no : ¬ (((items.size : Int) - 1 == 0 && (-1 : Int) == 1 && items.size == items.size) = true) := by simp
  show wpAny _ _ (if ((items.size : Int) - 1 == 0 && (-1 : Int) == 1 && items.size == items.size) = true then _ else _) _ _ s
  rw [if_neg no, pick_rev]
  first
    | exact wpAny_bind (m := Builtin.Tuple.tupleExact _) (wpAny_newObj_type (wpAny_pure ⟨_, rfl, wpAny_pure h⟩) fit)
    | exact wpAny_bind (wpAny_bind (m := Builtin.Tuple.tupleExact _) (wpAny_newObj_type (wpAny_pure ⟨_, rfl, wpAny_pure h⟩) fit))
    | exact wpAny_bind (wpAny_bind (m := Builtin.Tuple.tupleExact _) (wpAny_newObj_type (wpAny_pure (wpAny_pure ⟨_, rfl, wpAny_pure h⟩)) fit))
end
section
variable {W : Wd} {xc : Nat → Option XcA} {X : Cx} {g0 : G × Hp} {E : WX} {ea eb : Expr} {ca cb : Env → M OV} {pos : Pos}
/-- x[::-1] of a list, of a tuple -/
theorem pe_drev {k : Nat} {y1 y2 y3 : Pos} (hK : W.K = X.K) (ha : PE X ea (TV W xc X g0 E ca)) : PE X (.Subscript ea (.Slice none none (some (.UnaryOp .USub (.Constant (.int 1) k y1) y2)) y3) pos) (TV W xc X g0 E fun ρ => M.bind (ca ρ) fun x => ofO (revO ρ x)) := by
  refine ⟨fun pins s σ H Q I ⟨g, ρ, m, fs, p⟩ => ?_⟩
  refine Subscript_ (thn (ha.run pins s σ H _ I ⟨g, ρ, m, fs, p.bind fs⟩) fun v s1 ⟨x, H1, I1, r1, g1, m1, z, fs1, e1, q1, p1⟩ => ?_)
  obtain ⟨y, ey, p2'⟩ := p1.ofO
  have step : PO X (some (.UnaryOp .USub (.Constant (.int 1) k y1) y2)) (tPart (tUn (rU fun i => .int (-i)) (tC (.int 1)))) := po_some (pe_un un_neg pe_int)
  have none1 := po_none.run pins s1 σ H1 (fun o H2 => o = none ∧ H2 = H1) I1 ⟨rfl, rfl⟩
  refine wpAny_Slice (thn none1 fun vl s2 ⟨l, H2, I2, pl, el, e2⟩ => ?_)
  subst el e2
  have none2 := po_none.run pins s2 σ H2 (fun o H3 => o = none ∧ H3 = H2) I2 ⟨rfl, rfl⟩
  refine thn none2 fun vu s3 ⟨u, H3, I3, pu, eu, e3⟩ => ?_
  subst eu e3
  have st := step.run pins s3 σ H3 (fun o H4 => o = some (-1) ∧ H4 = H3) I3 ⟨1, rfl, -1, rfl, rfl, rfl⟩
  refine thn st fun vs s4 ⟨o, H4, I4, ps, eo, e4⟩ => ?_
  subst eo e4
  generalize hob : ({ cls := .type "slice", data := .fields #[vl, vu, vs] } : Obj) = ob
  have I5 : L2.Inv X pins σ H4 { s4 with heap := s4.heap.push ob } := I4.kept (t' := s4.toks) fun b ob' q => Heap.get?_push_of_some _ q
  have sl : (s4.heap.push ob).IsSliceOf s4.heap.objs.size vl vu vs := by rw [← hob]; exact Heap.IsSliceOf.new _ vl vu vs
  unfold revO at ey
  split at ey <;> try (cases ey)
  rename_i dx ex
  split at ey <;> try (cases ey)
  rename_i d ed
  have rr := q1.rd fs1 ex
  show wpAny (model X.prog X.w) X.A (subscriptTail ea (.Slice none none (some (.UnaryOp .USub (.Constant (.int 1) k y1) y2)) y3) v (.ref s4.heap.objs.size)) (EP X pins σ Q) X.xe { s4 with heap := s4.heap.push ob }
  unfold revD at ed
  split at ed <;> try (cases ed)
  · obtain ⟨a, ws, rfl, a1, a2⟩ := rr.lst fs1.hF
    cases r1
    obtain ⟨its, r, ht, hz⟩ := I5.list (sqL_h a1)
    have hlen := r.length
    refine tail_any (ops := [.ref a, .ref s4.heap.objs.size]) ht.isList.typeIs (PySem.slot_list_getitem.lookup) ?_ (by with_unfolding_all rfl)
    refine wpAny_getItem_list_slice ht.isList sl pl pu ps (by decide) ?_ (by rw [List.size_toArray]; omega)
    rw [PySem.W.krv_pick]
    have w := (p2'.wish fs1).new_lst fs1.hF a2.reverse _ (I5.hok.fresh (Nat.le_refl _))
    refine ⟨.ref _, _, I5.laid (t' := s4.toks) (o := .lst ws.reverse) (fun b ob' q => Heap.get?_push_of_some _ q) (Nat.le_refl _) ?_, rfl, w⟩
    exact ⟨by rw [List.length_reverse]; exact hz, _, 0, r.reverse, Heap.get?_push_size _ rfl⟩
  · obtain ⟨a, ws, rfl, a1, a2⟩ := rr.tup fs1.hF
    rw [hK] at a1
    cases r1
    obtain ⟨its, r, ht, hz⟩ := I5.tuple a1
    have hlen := r.length
    have none_ : ∀ {v : Value}, IsPart v none → v = .none := fun h => by cases h; rfl
    have one_ : ∀ {v : Value}, IsPart v (some (-1)) → ∃ t, v = .int (-1) t := fun h => by cases h; exact ⟨_, rfl⟩
    obtain rfl := none_ pl
    obtain rfl := none_ pu
    obtain ⟨tk, rfl⟩ := one_ ps
    refine tail_any (ops := [.ref a, .ref s4.heap.objs.size]) ht.typeIs (PyProof.Rows.slot_tuple_getitem.lookup) ?_ (by with_unfolding_all rfl)
    refine item_tup_rev ht sl (by rw [List.size_toArray]; omega) ?_
    have w := (p2'.wish fs1).new_tup fs1.hF a2.reverse _ (I5.hok.fresh (Nat.le_refl _))
    refine ⟨.ref _, _, I5.laid (t' := s4.toks) (o := .tup ws.reverse) (fun b ob' q => Heap.get?_push_of_some _ q) (Nat.le_refl _) ?_, rfl, w⟩
    exact ⟨by rw [List.length_reverse]; exact hz, its.reverse, r.reverse, by simpa using IsTup.new (s4.heap.push ob) (its.reverse.toArray)⟩
/-! ### methods of texts -/
theorem pe_dmt {b : Bi} {id : String} {name : Str} {ap : Pos} (slot : Slot "str" name id) (ty : typeOf (.builtin id) = pure (.type "method_descriptor")) (rule : MtR X id (rMt W b)) (ha : PE X ea (TV W xc X g0 E ca)) (hb : PE X eb (TV W xc X g0 E cb))
    (hs : starEach [eb] X.env = [(false, eval eb X.env)]) (hbase : attributeBase ea name X.env (eval ea X.env) = eval ea X.env) (hline : (ap.endLine == pos.line) = true) :
    PE X (.Call (.Attribute ea name ap) [eb] [] pos) (TV W xc X g0 E fun ρ => M.bind (ca ρ) fun x => M.bind (ofO (isS ρ x)) fun _ => M.bind (cb ρ) fun y => ofO (biO ρ b [x, y])) :=
  pe_weak (pe_m1 slot ty rule ha hb hs hbase hline) fun σ H Q ⟨g, ρ, m, fs, p⟩ => by
    refine ⟨g, ρ, m, fs, (p.bind fs).mono fun x H1 ⟨g1, m1, a, fs1, e1, r1, p1⟩ => ?_⟩
    obtain ⟨_, es, p1⟩ := p1.bofO
    refine ⟨?_, g1, ρ, m1, fs1, (p1.bind fs1).mono fun y H2 ⟨g2, m2, c, fs2, e2, r2, p2⟩ => ?_⟩
    · unfold isS at es
      split at es
      · rename_i z ez
        exact ⟨z, (r1.rd fs1 ez).str⟩
      · cases es
    · obtain ⟨z, ez, p3⟩ := p2.ofO
      unfold biO at ez
      split at ez <;> try (cases ez)
      rename_i ds ed
      split at ez <;> try (cases ez)
      rename_i d e
      exact ⟨g2, ds, d, fs2.hF, derefs_rep fs2 (.cons (r1.ext e2) (.cons r2 .nil)) ed, e, p3.wish fs2⟩
theorem pe_djoin {ap : Pos} (ha : PE X ea (TV W xc X g0 E ca)) (hb : PE X eb (TV W xc X g0 E cb)) (hs : starEach [eb] X.env = [(false, eval eb X.env)]) (hbase : attributeBase ea "join" X.env (eval ea X.env) = eval ea X.env) (hline : (ap.endLine == pos.line) = true) :
    PE X (.Call (.Attribute ea "join" ap) [eb] [] pos) (TV W xc X g0 E fun ρ => M.bind (ca ρ) fun x => M.bind (ofO (isS ρ x)) fun _ => M.bind (cb ρ) fun y => ofO (biO ρ .join [x, y])) := pe_dmt F.slot_str_join F.type_str_join mt_joinD ha hb hs hbase hline
theorem pe_dsplit {ap : Pos} (ha : PE X ea (TV W xc X g0 E ca)) (hb : PE X eb (TV W xc X g0 E cb)) (hs : starEach [eb] X.env = [(false, eval eb X.env)]) (hbase : attributeBase ea "split" X.env (eval ea X.env) = eval ea X.env) (hline : (ap.endLine == pos.line) = true) :
    PE X (.Call (.Attribute ea "split" ap) [eb] [] pos) (TV W xc X g0 E fun ρ => M.bind (ca ρ) fun x => M.bind (ofO (isS ρ x)) fun _ => M.bind (cb ρ) fun y => ofO (biO ρ .split [x, y])) := pe_dmt F.slot_str_split F.type_str_split mt_splitD ha hb hs hbase hline
/-! ### list(range(..)) -/
theorem rg_rep {F : Hp} {μ : Addr} {mid : Nat} (a c : Int) : RepDs W F μ mid (rangeL a c) (rgV a c) := by
  unfold rangeL rgV
  generalize List.range (c - a).toNat = l
  induction l with
  | nil => exact RepDs.nil
  | cons x r ih => exact RepDs.cons (by simp only [RepD]) ih
theorem lrange_ok {ds : List D} {d : D} (e : biLrange ds = some d) : ∃ a c, (ds = [.int c] ∧ a = 0 ∨ ds = [.int a, .int c]) ∧ RgOk a c ∧ d = .lst (rangeL a c) := by
  unfold biLrange at e
  split at e <;> try (cases e)
  rename_i l el
  split at e <;> try (cases e)
  rename_i hz
  have z : sizeLine = 16777216 := sizeLine_eq
  unfold rangeD at el
  split at el
  · rename_i c
    split at el <;> try (cases el)
    rename_i h
    obtain ⟨k1, k2⟩ := small_iff h
    simp only [rangeL, List.length_map, List.length_range] at hz
    exact ⟨0, c, .inl ⟨rfl, rfl⟩, ⟨by omega, by omega, k1, k2, by omega⟩, rfl⟩
  · rename_i a c
    split at el <;> try (cases el)
    rename_i h
    rw [Bool.and_eq_true] at h
    obtain ⟨k1, k2⟩ := small_iff h.1
    obtain ⟨k3, k4⟩ := small_iff h.2
    simp only [rangeL, List.length_map, List.length_range] at hz
    exact ⟨a, c, .inr rfl, ⟨k1, k2, k3, k4, by omega⟩, rfl⟩
  · cases el
theorem derefs_refs {ρ : Env} : ∀ {xs : List OV} {ds : List D}, derefs ρ xs = some ds → xs.length = ds.length
  | [], _, e => by simp only [derefs, Option.some.injEq] at e; subst e; rfl
  | x :: r, _, e => by
    simp only [derefs] at e
    split at e
    · cases e
    · split at e
      · cases e
      · rename_i ds es
        cases e
        simp [derefs_refs es]
theorem pe_dlrange1 (xw : XW W X) {p p1 p2 : Pos} (hg : Gl X "list") (hm : X.mg "list" = none) (hg2 : Gl X "range") (hm2 : X.mg "range" = none) (ha : PE X ea (TV W xc X g0 E ca)) (na : starEach [ea] X.env = (false, eval ea X.env) :: starEach [] X.env)
    (nb : starEach [.Call (.Name "range" p1) [ea] [] p2] X.env = (false, eval (.Call (.Name "range" p1) [ea] [] p2) X.env) :: starEach [] X.env) :
    PE X (.Call (.Name "list" p) [.Call (.Name "range" p1) [ea] [] p2] [] pos) (TV W xc X g0 E fun ρ => M.bind (M.bind (ca ρ) fun x => M.bind (ret1 []) fun xs => ret1 (x :: xs)) fun xs => ofO (biO ρ .lrange xs)) :=
  pe_weak (pe_listRg xw.hc hg hm (prg_1 hg2 hm2 ha na) nb) fun σ H Q ⟨g, ρ, m, fs, p⟩ => by
    dsimp only at p
    rw [bind_assoc] at p
    refine ⟨g, ρ, m, fs, (p.bind fs).mono fun x H1 ⟨g1, m1, a, fs1, e1, r1, p1⟩ => ?_⟩
    obtain ⟨z, ez, p2⟩ := Post.ofO (p1 : Post W xc g1 σ H1 _ Q E (ofO (biO ρ .lrange [a]) m1))
    unfold biO at ez
    split at ez <;> try (cases ez)
    rename_i ds ed
    split at ez <;> try (cases ez)
    rename_i d e
    simp only [bi] at e
    obtain ⟨a0, c, hd, ok, rfl⟩ := lrange_ok e
    have l := derefs_refs ed
    rcases hd with ⟨rfl, rfl⟩ | rfl
    · obtain ⟨v, ev, rv⟩ := rr1 (derefs_rep fs1 (.cons r1 .nil) ed)
      cases ev
      have := rv.int
      subst this
      exact ⟨c, rfl, ok, (p2.wish fs1).new_lst fs1.hF (rg_rep 0 c)⟩
    · simp at l
theorem pe_dlrange2 (xw : XW W X) {p p1 p2 : Pos} (hg : Gl X "list") (hm : X.mg "list" = none) (hg2 : Gl X "range") (hm2 : X.mg "range" = none) (ha : PE X ea (TV W xc X g0 E ca)) (hb : PE X eb (TV W xc X g0 E cb)) (na : starEach [ea, eb] X.env = (false, eval ea X.env) :: starEach [eb] X.env)
    (na2 : starEach [eb] X.env = (false, eval eb X.env) :: starEach [] X.env) (np : (backTo p2 (starEach [eb] X.env)).any (·.1) = false)
    (nb : starEach [.Call (.Name "range" p1) [ea, eb] [] p2] X.env = (false, eval (.Call (.Name "range" p1) [ea, eb] [] p2) X.env) :: starEach [] X.env) :
    PE X (.Call (.Name "list" p) [.Call (.Name "range" p1) [ea, eb] [] p2] [] pos) (TV W xc X g0 E fun ρ => M.bind (M.bind (ca ρ) fun x => M.bind (M.bind (cb ρ) fun x => M.bind (ret1 []) fun xs => ret1 (x :: xs)) fun xs => ret1 (x :: xs)) fun xs => ofO (biO ρ .lrange xs)) :=
  pe_weak (pe_listRg xw.hc hg hm (prg_2 hg2 hm2 ha hb na na2 np) nb) fun σ H Q ⟨g, ρ, m, fs, p⟩ => by
    dsimp only at p
    rw [bind_assoc] at p
    refine ⟨g, ρ, m, fs, (p.bind fs).mono fun x H1 ⟨g1, m1, a, fs1, e1, r1, p1⟩ => ?_⟩
    rw [bind_assoc, bind_assoc] at p1
    refine ⟨g1, ρ, m1, fs1, (p1.bind fs1).mono fun y H2 ⟨g2, m2, a2, fs2, e2, r2, p2⟩ => ?_⟩
    obtain ⟨z, ez, p2⟩ := Post.ofO (p2 : Post W xc g2 σ H2 _ Q E (ofO (biO ρ .lrange [a, a2]) m2))
    unfold biO at ez
    split at ez <;> try (cases ez)
    rename_i ds ed
    split at ez <;> try (cases ez)
    rename_i d e
    simp only [bi] at e
    obtain ⟨a0, c, hd, ok, rfl⟩ := lrange_ok e
    have l := derefs_refs ed
    rcases hd with ⟨rfl, rfl⟩ | rfl
    · simp at l
    · obtain ⟨v, w, ev, rv, rw'⟩ := rr2 (derefs_rep fs2 (.cons (r1.ext e2) (.cons r2 .nil)) ed)
      cases ev
      have h1 := rv.int
      have h2 := rw'.int
      subst h1 h2
      exact ⟨a0, c, rfl, rfl, ok, (p2.wish fs2).new_lst fs2.hF (rg_rep a0 c)⟩
/-! ### isinstance -/
def tyN : Nat → Option String
  | 0 => some "int" | 1 => some "bool" | 2 => some "tuple" | 3 => some "str" | 4 => some "list" | _ => none
theorem rep_tyx {g : G} {H : Hp} {d : D} {v : V} {n : Nat} {T : String} {b : Bool} (hK : W.K = X.K) (f : hF g H) (r : RepR W g H (.d d) v) (hT : tyN n = some T) (e : isT n d = some b) : ∃ t, TyX X.K H v t ∧ PySem.W.kitOne X.K t (.type T) = some b := by
  have hn : n = 0 ∨ n = 1 ∨ n = 2 ∨ n = 3 ∨ n = 4 := by
    unfold tyN at hT
    split at hT <;> simp_all
  cases d with
  | st _ => rcases hn with rfl | rfl | rfl | rfl | rfl <;> simp [isT] at e
  | scr _ => rcases hn with rfl | rfl | rfl | rfl | rfl <;> simp [isT] at e
  | non =>
    have := r.non; subst this
    refine ⟨_, .base .non, ?_⟩
    rcases hn with rfl | rfl | rfl | rfl | rfl <;> simp only [tyN, Option.some.injEq] at hT <;> subst hT <;> simp only [isT, Option.some.injEq] at e <;> subst e <;> rfl
  | bl _ =>
    have := r.bl; subst this
    refine ⟨_, .base (.bl _), ?_⟩
    rcases hn with rfl | rfl | rfl | rfl | rfl <;> simp only [tyN, Option.some.injEq] at hT <;> subst hT <;> simp only [isT, Option.some.injEq] at e <;> subst e <;> rfl
  | int _ =>
    have := r.int; subst this
    refine ⟨_, .base (.int _), ?_⟩
    rcases hn with rfl | rfl | rfl | rfl | rfl <;> simp only [tyN, Option.some.injEq] at hT <;> subst hT <;> simp only [isT, Option.some.injEq] at e <;> subst e <;> rfl
  | str _ =>
    have := r.str; subst this
    refine ⟨_, .base (.str _), ?_⟩
    rcases hn with rfl | rfl | rfl | rfl | rfl <;> simp only [tyN, Option.some.injEq] at hT <;> subst hT <;> simp only [isT, Option.some.injEq] at e <;> subst e <;> rfl
  | lst _ =>
    obtain ⟨a, vs, rfl, a1, _⟩ := r.lst f
    refine ⟨_, .base (.lst a1), ?_⟩
    rcases hn with rfl | rfl | rfl | rfl | rfl <;> simp only [tyN, Option.some.injEq] at hT <;> subst hT <;> simp only [isT, Option.some.injEq] at e <;> subst e <;> rfl
  | dct _ _ =>
    obtain ⟨a, kvs, rfl, a1, _⟩ := r.dct f
    refine ⟨_, .base (.dK a1), ?_⟩
    rcases hn with rfl | rfl | rfl | rfl | rfl <;> simp only [tyN, Option.some.injEq] at hT <;> subst hT <;> simp only [isT, Option.some.injEq] at e <;> subst e <;> rfl
  | tup _ =>
    obtain ⟨a, vs, rfl, a1, _⟩ := r.tup f
    rw [hK] at a1
    have ty : TyX X.K H (.ref a) (.type "tuple") := by
      rcases a1 with (a1 | ⟨o, a1⟩) | ⟨o, its, k, a1, a2, _⟩
      · exact .base (.tup a1)
      · exact .fTuple a1
      · exact .kTuple a1 a2
    refine ⟨_, ty, ?_⟩
    rcases hn with rfl | rfl | rfl | rfl | rfl <;> simp only [tyN, Option.some.injEq] at hT <;> subst hT <;> simp only [isT, Option.some.injEq] at e <;> subst e <;> rfl
theorem pe_disinst (xw : XW W X) {n : Nat} {T : String} {x : Str} {p p1 : Pos} (hT : tyN n = some T) (hg : Gl X "isinstance") (hm : X.mg "isinstance" = none) (hv : bootBuiltins "isinstance" = some (.builtin "isinstance")) (hg2 : Gl X x) (hm2 : X.mg x = none) (hv2 : bootBuiltins x = some (.type T))
    (hn2 : x ≠ "__name__") (hd2 : (x == ("__debug__" : Str)) = false) (ha : PE X ea (TV W xc X g0 E ca)) (na : starEach [ea, .Name x p1] X.env = (false, eval ea X.env) :: starEach [.Name x p1] X.env) :
    PE X (.Call (.Name "isinstance" p) [ea, .Name x p1] [] pos) (TV W xc X g0 E fun ρ => M.bind (M.bind (ca ρ) fun x => M.bind (ret1 []) fun xs => ret1 (x :: xs)) fun xs => ofO (biO ρ (.isinst n) xs)) :=
  pe_weak (pe_callB (p := p) (pos := pos) (call_isi (X := X)) hg hm hv (pa_cons ha (pa_cons (pe_bltn (pos := p1) hg2 hm2 hv2 (v := V.ty T) rfl hn2 hd2) pa_nil rfl) na) (by decide) (by decide) na rfl) fun σ H Q ⟨g, ρ, m, fs, p⟩ => by
    dsimp only at p
    rw [bind_assoc] at p
    refine ⟨g, ρ, m, fs, (p.bind fs).mono fun v H1 ⟨g1, m1, a, fs1, e1, r1, p1⟩ => ?_⟩
    obtain ⟨z, ez, p2⟩ := Post.ofO (p1 : Post W xc g1 σ H1 _ Q E (ofO (biO ρ (.isinst n) [a]) m1))
    unfold biO at ez
    split at ez <;> try (cases ez)
    rename_i ds ed
    split at ez <;> try (cases ez)
    rename_i d e
    simp only [bi] at e
    unfold biIsinst at e
    split at e <;> try (cases e)
    rename_i d0
    split at e <;> try (cases e)
    rename_i b eb
    obtain ⟨v', ev, rv⟩ := rr1 (derefs_rep fs1 (.cons r1 .nil) ed)
    cases ev
    obtain ⟨t, ty, k⟩ := rep_tyx xw.hK fs1.hF rv hT eb
    exact ⟨v, .ty T, t, .type T, b, rfl, .ty T, ty, k, (p2.wish fs1).bl⟩
end
end Di
end
section
set_option Elab.async false
set_option linter.all false
set_option maxRecDepth 100000
set_option maxHeartbeats 2000000
/-! Di.Lam: lambdas: made, called. -/
namespace Di
open PySem PySem.Spec PyProof.Rows L2 LamX NdefX
section
variable {X : Cx} {pins : List (Addr × Obj)} {σ : L2.St} {H : Hp} {s : Shared}
/-- a lambda's object just made is known -/
theorem inv_lam {L : LamA} {cl : List (Str × Addr)} {dV pm doc ctv : Value} {c' : Addr} {t' : Nat} (I : L2.Inv X pins σ H s) :
    L2.Inv X pins σ (upd H s.heap.objs.size (LamO s.heap.objs.size L cl dV c')) { s with heap := s.heap.push (PySem.W.kdv_obj "<lambda>" L.qual L.params (.expr L.body) L.scope cl dV doc pm c' ctv), toks := t' } := by
  refine I.laid (a := s.heap.objs.size) (fun b u e => Heap.get?_push_of_some _ e) (Nat.le_refl _) ?_
  have e := Heap.get?_push_size s.heap (o := PySem.W.kdv_obj "<lambda>" L.qual L.params (.expr L.body) L.scope cl dV doc pm c' ctv) rfl
  exact ⟨⟨pm, ctv, doc, e⟩, ⟨_, e⟩, fun h1 h2 ⟨p, c, d, z⟩ st => ⟨p, c, d, st _ z⟩⟩
/-- what a made lambda leaves -/
structure Made (T : List NTab) (F H F1 H1 : Hp) (L : LamA) (cl : List (Str × Addr)) (dV : Value) (f c' : Addr) : Prop where
  sub : ∀ a o, F a = some o → F1 a = some o
  new : ∀ a o, F1 a = some o → F a = some o ∨ H a = none
  keep : ∀ a o, H a = some o → (∀ ps, o ≠ .tbl ps) → H1 a = some o
  dom : ∀ a, H1 a = none → H a = none
  inH : ∀ a o, F1 a = some o → H1 a = some o
  tabs : TabsF T F1 H1
  f : F1 f = some (LamO f L cl dV c')
  c : F1 c' = some (CodeO c' L.qual)
  nt : ∀ a ps, F1 a ≠ some (.tbl ps)
theorem lamO_ne {f : Addr} {L : LamA} {cl : List (Str × Addr)} {dV : Value} {c' : Addr} (ps : Array Value) : LamO f L cl dV c' ≠ .tbl ps := fun z => by
  unfold LamO at z; cases z
theorem lam_tail {T : List NTab} {nm : Nat → Nat → Str} {c P : Addr} {L : LamA} {pos : Pos} {dV : Value} {F : Hp} {E : Value → Shared → Prop} {Q : Value → Shared → Prop} (I : L2.Inv X pins σ H s) (TB : TabB X.base X.mg c P) (hcode : X.env.code = .ref c) (hm : (P, nm) ∈ T)
    (hq : L.qual = X.env.qual ++ "<lambda>") (hn : nm pos.line pos.col = L.qual) (hu : ∀ p ∈ T, p.1 = P → p.2 = nm) (hT : TabsF T F H) (hF : ∀ a o, F a = some o → H a = some o) (nt : ∀ a ps, F a ≠ some (.tbl ps)) (hfree : ∀ y ∈ L.scope.names, y.2 = .free → ∃ c, X.env.cells.lookup y.1 = some c)
    (h : ∀ f c' F1 H1 s', L2.Inv X pins σ H1 s' → Made T F H F1 H1 L (cloFrom X.env.cells L.scope.names []) dV f c' → Q (.ref f) s') :
    wpAny (model X.prog X.w) X.A (makeTail "<lambda>" L.qual L.params (.expr L.body) L.scope X.env dV .none none pos pos.line) Q E s := by
  obtain ⟨ps, hP, ht, ha⟩ := hT _ hm
  have bP : s.heap.BuiltinsAt X.mg P := TB.bm.keeps I.bk
  have hP' : s.heap.get? P = some { cls := .none, data := .fields ps } := I.hok P _ hP
  cases hc : codeAmong pos ps.toList with
  | none =>
    refine PySem.W.kdv_makeTail (mg := X.mg) (c := c) (P := P) (ps := ps) (closure_ok hfree) I.ok.glob (I.mod.glob.keeps I.bk) hcode (TB.code.keeps I.bk) hP' ht hc TB.gP bP
      fun c' ctv doc h' tk hx hge hlt hrec htb => ?_
    obtain ⟨c2, oc, vs, t, e2, hoc, hd, hv⟩ := hrec
    cases e2
    have nC : H c' = none := I.hok.fresh hge
    have I1 := inv_table (t' := tk) (more := #[rawInt pos.line, rawInt pos.col, .ref c']) (h' := h') I hP
      (fun b o hb e => hx b o hb e) htb hge ⟨oc, vs, t, hoc, hd, hv⟩
    generalize hH1 : upd (upd H P (.tbl (ps ++ #[rawInt pos.line, rawInt pos.col, .ref c']))) c' (CodeO c' L.qual) = H1 at I1
    have nF : H1 h'.objs.size = none := I1.hok.fresh (Nat.le_refl _)
    have I2 := inv_lam (L := L) (cl := cloFrom X.env.cells L.scope.names []) (dV := dV) (pm := (X.mg "__name__").getD .none) (doc := doc) (ctv := ctv) (c' := c') (t' := tk) I1
    have PH1 : H1 P = some (.tbl (ps ++ #[rawInt pos.line, rawInt pos.col, .ref c'])) := by rw [← hH1, upd_ne (ne_of_none hP nC), upd_same]
    have cH1 : H1 c' = some (CodeO c' L.qual) := by rw [← hH1, upd_same]
    have k1 : ∀ a o, H a = some o → (∀ ps, o ≠ .tbl ps) → H1 a = some o := fun a o e n => by
      rw [← hH1, upd_ne (ne_of_none e nC), upd_ne (fun z => n ps (Option.some.inj (e.symm.trans (by rw [z]; exact hP))))]
      exact e
    have t1 : ∀ a qs, H a = some (.tbl qs) → a ≠ P → H1 a = some (.tbl qs) := fun a qs e n => by
      rw [← hH1, upd_ne (ne_of_none e nC), upd_ne n]
      exact e
    have d1 : ∀ a, H1 a = none → H a = none := fun a e => by
      rw [← hH1] at e
      exact upd_none (upd_none e)
    have fc : F c' = none := by
      cases q : F c' with
      | none => rfl
      | some o => rw [hF _ _ q] at nC; cases nC
    have nf : ∀ {a o}, H1 a = some o → a ≠ h'.objs.size := fun e => ne_of_none e nF
    have ff : F h'.objs.size = none := by
      cases q : F h'.objs.size with
      | none => rfl
      | some o =>
        have := hF _ _ q
        rw [d1 _ nF] at this; cases this
    have cf : c' ≠ h'.objs.size := nf cH1
    have sub : ∀ a o, F a = some o → upd (upd F c' (CodeO c' L.qual)) h'.objs.size (LamO h'.objs.size L (cloFrom X.env.cells L.scope.names []) dV c') a = some o := fun a o e => by
      rw [upd_ne (ne_of_none e ff), upd_ne (ne_of_none e fc)]
      exact e
    have eL : (ps ++ #[rawInt pos.line, rawInt pos.col, .ref c']).toList = ps.toList ++ [rawInt pos.line, rawInt pos.col, .ref c'] := by simp
    refine h h'.objs.size c' (upd (upd F c' (CodeO c' L.qual)) h'.objs.size (LamO h'.objs.size L (cloFrom X.env.cells L.scope.names []) dV c')) _ _ I2
      ⟨sub, fun a o e => ?_, fun a o e n => ?_, fun a e => d1 a (upd_none e), fun a o e => ?_, fun p hp => ?_, upd_same, by rw [upd_ne cf, upd_same], fun a qs e => ?_⟩
    · by_cases z : a = h'.objs.size
      · rw [z]; exact .inr (d1 _ nF)
      · rw [upd_ne z] at e
        by_cases w : a = c'
        · rw [w]; exact .inr nC
        · rw [upd_ne w] at e; exact .inl e
    · have e1 := k1 a o e n
      rw [upd_ne (nf e1)]; exact e1
    · by_cases z : a = h'.objs.size
      · subst z
        rw [upd_same] at e ⊢; exact e
      · rw [upd_ne z] at e ⊢
        by_cases w : a = c'
        · subst w
          rw [upd_same] at e
          rw [cH1]; exact e
        · rw [upd_ne w] at e
          exact k1 a o (hF a o e) fun qs q => nt a qs (by rw [← q]; exact e)
    · by_cases hb : p.1 = P
      · refine ⟨_, by rw [hb, upd_ne (nf PH1)]; exact PH1, by rw [eL]; exact PySem.TriplesOk_snoc _ _ _ _ ht, fun p' cv hcv => ?_⟩
        rw [eL] at hcv
        rw [hu p hp hb]
        rcases among_app2 _ ht hcv with z | ⟨z, z1, z2⟩
        · obtain ⟨c0, e1, e2⟩ := ha p' cv z
          exact ⟨c0, e1, sub _ _ e2⟩
        · refine ⟨c', z, ?_⟩
          rw [← z1, ← z2]
          rw [hn, upd_ne cf, upd_same]
      · obtain ⟨qs, a1, a2, a3⟩ := hT p hp
        have e1 := t1 _ _ a1 hb
        refine ⟨qs, by rw [upd_ne (nf e1)]; exact e1, a2, fun p' cv hcv => ?_⟩
        obtain ⟨c0, e1, e2⟩ := a3 p' cv hcv
        exact ⟨c0, e1, sub _ _ e2⟩
    · by_cases z : a = h'.objs.size
      · subst z
        rw [upd_same] at e
        exact lamO_ne qs (Option.some.inj e)
      · rw [upd_ne z] at e
        by_cases w : a = c'
        · subst w
          rw [upd_same] at e
          exact codeO_ne qs (Option.some.inj e)
        · rw [upd_ne w] at e; exact nt a qs e
  | some cv =>
    obtain ⟨c', e, hco⟩ := ha pos cv hc
    subst e
    have hco : F c' = some (CodeO c' L.qual) := by rw [← hn]; exact hco
    refine PySem.W.kdv_makeTailHit (mg := X.mg) (c := c) (P := P) (ps := ps) (closure_ok hfree) I.ok.glob (I.mod.glob.keeps I.bk) hcode (TB.code.keeps I.bk) hP' ht hc bP
      fun ctv doc h' tk hx hsz => ?_
    have I1 : L2.Inv X pins σ H { s with heap := h', toks := tk } := I.kept hx
    have nF : H h'.objs.size = none := I1.hok.fresh (Nat.le_refl _)
    have I2 := inv_lam (L := L) (cl := cloFrom X.env.cells L.scope.names []) (dV := dV) (pm := (X.mg "__name__").getD .none) (doc := doc) (ctv := ctv) (c' := c') (t' := tk) I1
    have ff : F h'.objs.size = none := by
      cases q : F h'.objs.size with
      | none => rfl
      | some o => have := hF _ _ q; rw [nF] at this; cases this
    have sub : ∀ a o, F a = some o → upd F h'.objs.size (LamO h'.objs.size L (cloFrom X.env.cells L.scope.names []) dV c') a = some o := fun a o e => by
      rw [upd_ne (ne_of_none e ff)]; exact e
    refine h h'.objs.size c' (upd F h'.objs.size (LamO h'.objs.size L (cloFrom X.env.cells L.scope.names []) dV c')) _ _ I2
      ⟨sub, fun a o e => ?_, fun a o e _ => by rw [upd_ne (ne_of_none e nF)]; exact e, fun a e => upd_none e, fun a o e => ?_, hT.mono sub fun a qs e => by rw [upd_ne (ne_of_none e nF)]; exact e, upd_same, sub _ _ hco, fun a qs e => ?_⟩
    · by_cases z : a = h'.objs.size
      · rw [z]; exact .inr nF
      · rw [upd_ne z] at e; exact .inl e
    · by_cases z : a = h'.objs.size
      · subst z
        rw [upd_same] at e ⊢; exact e
      · rw [upd_ne z] at e ⊢; exact hF a o e
    · by_cases z : a = h'.objs.size
      · subst z
        rw [upd_same] at e
        exact lamO_ne qs (Option.some.inj e)
      · rw [upd_ne z] at e; exact nt a qs e
end
/-! ### a lambda as a value -/
section
variable {W : Wd} {xc : Nat → Option XcA} {X : Cx} {g0 : G × Hp} {E : WX}
theorem clo_look {cells : List (Str × Addr)} {names : List (Str × NameKind)} (hf : ∀ y ∈ names, y.2 = .free → ∃ c, cells.lookup y.1 = some c) {y : Str} {c : Addr} (e : (cloFrom cells names []).lookup y = some c) : (y, NameKind.free) ∈ names ∧ cells.lookup y = some c := by
  rcases cloFrom_mem (PySem.mem_of_lookup e) with m | ⟨m, q⟩
  · cases m
  · obtain ⟨c1, h1⟩ := hf _ m rfl
    have h1 : cells.lookup y = some c1 := h1
    rw [h1] at q
    have q : c = c1 := q
    rw [q]
    exact ⟨m, h1⟩
theorem clo_has {cells : List (Str × Addr)} {names : List (Str × NameKind)} {y : Str} (m : (y, NameKind.free) ∈ names) : ∃ c, (cloFrom cells names []).lookup y = some c := mem_lookup (cloFrom_has (acc := []) m)
theorem all_const {pins : List (Addr × Obj)} {σ : L2.St} {H : Hp} : ∀ {es : List Expr} {vs : List V} {s : Shared} {Q : List Value → Shared → Prop}, Paired (fun e v => PE X e (tC v)) es vs → L2.Inv X pins σ H s → (∀ us s', L2.Inv X pins σ H s' → Vals vs us → Q us s') →
    wpAny (model X.prog X.w) X.A (evalAll (evalEach es X.env)) Q X.xe s
  | [], _, s, Q, .nil, I, h => PySem.W.kdv_all0 (h [] s I .nil)
  | e :: es, _, s, Q, .cons p t, I, h => by
    refine PySem.W.kdv_all1 (thn (p.run _ s _ _ (fun v H1 => v = _ ∧ H1 = H) I ⟨rfl, rfl⟩) fun u s1 ⟨v, H1, I1, r, ev, eH⟩ => ?_)
    subst ev eH
    exact all_const t I1 fun us s' I' rs => h _ s' I' (.cons r rs)
structure LamK (W : Wd) (X : Cx) (k : Nat) (L : LamA) (l : LamI) (nm : Nat → Nat → Str) (c P : Addr) (pos : Pos) : Prop where
  tb : TabB X.base X.mg c P
  code : X.env.code = .ref c
  mem : (P, nm) ∈ W.T
  uniq : ∀ p ∈ W.T, p.1 = P → p.2 = nm
  lam : W.lam k = some L
  ir : W.P.lams[k]? = some l
  qual : L.qual = X.env.qual ++ "<lambda>"
  name : nm pos.line pos.col = L.qual
  fr : ∀ y ∈ L.scope.names, y.2 = .free → y.1 ∈ L.fr
  fr2 : ∀ y ∈ L.fr, (y, NameKind.free) ∈ L.scope.names
  kind : ∀ y ∈ L.fr, X.env.scope.names.lookup y = some .cell ∨ X.env.scope.names.lookup y = some .free
  cap : l.cap.map (fun i => X.N[i]?) = L.fr.map some
theorem rep_caps {g g' : G} {ρ : Env} {m : MS} {σ : L2.St} {H : Hp} {L : LamA} (fs : FS W X g0 g ρ m σ H) (mono : ∀ x v, RepV W g x v → RepV W g' x v) (hk : g'.κ = g.κ) (has : ∀ y ∈ L.fr, (cloFrom X.env.cells L.scope.names []).lookup y = X.env.cells.lookup y ∧ ∃ c, X.env.cells.lookup y = some c)
    (kind : ∀ y ∈ L.fr, X.env.scope.names.lookup y = some .cell ∨ X.env.scope.names.lookup y = some .free) : ∀ {is : List Nat} {fr : List Str} {ds : List Val}, (∀ y ∈ fr, y ∈ L.fr) → is.map (fun i => X.N[i]?) = fr.map some → caps ρ is = some ds →
    ∃ ws, RepVs W g' ds ws ∧ fr.map (fun y => ((cloFrom X.env.cells L.scope.names []).lookup y).bind g'.κ) = ws.map some
  | [], [], ds, _, _, e => by
    simp only [caps, Option.some.injEq] at e
    subst e
    exact ⟨[], RepVs.nil, rfl⟩
  | [], _ :: _, _, _, h, _ => by simp at h
  | _ :: _, [], _, _, h, _ => by simp at h
  | i :: is, y :: fr, ds, hs, h, e => by
    simp only [List.map_cons, List.cons.injEq] at h
    simp only [caps] at e
    split at e
    · rename_i d hd
      split at e
      · rename_i ds' es
        cases e
        obtain ⟨ws, h1, h2⟩ := rep_caps fs mono hk has kind (fun z hz => hs z (List.mem_cons_of_mem _ hz)) h.2 es
        obtain ⟨w, ew, rw'⟩ := fs.env i _ hd
        have hy := hs y List.mem_cons_self
        obtain ⟨c1, c, c2⟩ := has y hy
        have kn := fs.kr.full i y c w h.1 c2 (kind y hy) (slot_some ew)
        refine ⟨w :: ws, RepVs.cons (mono _ _ rw') h1, ?_⟩
        rw [List.map_cons, List.map_cons, h2, c1, c2, hk]
        simp only [Option.bind_some, kn]
      · cases e
    · cases e
theorem clo_fin {k : Nat} {L : LamA} {l : LamI} {nm : Nat → Nat → Str} {c P : Addr} {pos : Pos} (K : LamK W X k L l nm c P pos) {pins : List (Addr × Obj)} {σ : L2.St} {H H2 F1 H1 : Hp} {Q : VK} {g g2 : G} {ρ : Env} {m : MS} {ds : List Val} {dV : Value} {f c' : Addr} {s : Shared} (I : L2.Inv X pins σ H s) (fs : FS W X g0 g ρ m σ H) (gr : Gr W g H g2 H2)
    (ec : caps ρ l.cap = some ds) (p : Post W xc g σ H (fun g _ x v => RepOV W ρ σ g x v) Q E (.ok (.v (.c k ds)) m)) (md : Made W.T g2.F H2 F1 H1 L (cloFrom X.env.cells L.scope.names []) dV f c') (hd : (L.dfl = [] ∧ dV = .none) ∨ ∃ a, dV = .ref a ∧ g2.F a = some (.tup L.dfl)) : Q (.ref f) H1 := by
  have fs2 := fs.step gr.ext (gr.hs _ fs.hs)
  have hfree : ∀ y ∈ L.scope.names, y.2 = .free → ∃ c, X.env.cells.lookup y.1 = some c := fun y hy e => I.ok.has _ (K.kind y.1 (K.fr y hy e))
  have hasL : ∀ y ∈ L.fr, (cloFrom X.env.cells L.scope.names []).lookup y = X.env.cells.lookup y ∧ ∃ c, X.env.cells.lookup y = some c := fun y hy => by
    obtain ⟨c1, e1⟩ := clo_has (cells := X.env.cells) (K.fr2 y hy)
    obtain ⟨_, e2⟩ := clo_look hfree e1
    exact ⟨e1.trans e2.symm, c1, e2⟩
  have e2 : Ext g2 H2 { g2 with F := F1 } H1 := ⟨⟨md.sub, md.new, fun a o e _ t => md.keep a o e t, md.dom, .inl ⟨rfl, rfl⟩⟩, rfl, rfl, rfl⟩
  have hs1 : HpS W { g2 with F := F1 } m H1 := by
    refine ⟨md.inH, fun a hm => ?_, fs2.hs.mid, fun h0 => ?_, md.tabs, md.nt⟩
    · cases q : F1 a with
      | none => exact q
      | some o =>
        exfalso
        rcases md.new a o q with z | z
        · have := fs2.hs.mu a hm
          rw [z] at this; cases this
        · obtain ⟨h0, e⟩ := hm
          obtain ⟨ca, h1, _⟩ := fs2.hs.mst h0
          have e' : a = g2.μ := e
          rw [← e', z] at h1; cases h1
    · obtain ⟨ca, h1, h2⟩ := fs2.hs.mst h0
      exact ⟨ca, md.keep _ _ h1 (fun _ => by simp), md.sub _ _ h2⟩
  have mono : ∀ x v, RepV W g2 x v → RepV W { g2 with F := F1 } x v := fun x v h => h.ext e2
  obtain ⟨ws, w1, w2⟩ := rep_caps (g' := { g2 with F := F1 }) fs2 mono rfl hasL K.kind (fun y hy => hy) K.cap ec
  refine p (.ref f) { g2 with F := F1 } H1 (gr.ext.trans e2) hs1 ?_
  simp only [RepOV, RepV]
  refine ⟨L, f, c', cloFrom X.env.cells L.scope.names [], dV, ws, K.lam, rfl, md.f, md.c, hd.imp id (fun ⟨a, e, q⟩ => ⟨a, e, md.sub _ _ q⟩), fun y c e => ?_, fun x y c e1 e2 => ?_, fun y c e _ => ?_, w1, w2⟩
  · obtain ⟨m1, _⟩ := clo_look hfree e
    exact K.fr _ m1 rfl
  · exact I.ok.inj x y c (clo_look hfree e1).2 (clo_look hfree e2).2
  · obtain ⟨m1, e2⟩ := clo_look hfree e
    have hy := K.fr _ m1 rfl
    have z : some y ∈ l.cap.map (fun i => X.N[i]?) := by
      rw [K.cap]
      exact List.mem_map_of_mem hy
    obtain ⟨i, hi, ei⟩ := List.mem_map.mp z
    refine ⟨l, i, K.ir, hi, ?_⟩
    rw [fs2.kr.cell i, ei]
    exact e2
theorem pe_dclo {k : Nat} {L : LamA} {l : LamI} {nm : Nat → Nat → Str} {c P : Addr} {pos : Pos} (K : LamK W X k L l nm c P pos)
    (hd : (L.dfl = [] ∧ defaultsOf L.params X.env = ([], [])) ∨ (L.params.defaults.isEmpty = false ∧ L.params.kw_defaults = [] ∧ L.dfl.length ≤ sizeLine ∧ Paired (fun e v => PE X e (tC v)) L.params.defaults L.dfl)) : PE X (.Lambda L.params L.body L.scope pos) (TV W xc X g0 E fun ρ => ofO (cloO W.P ρ k)) := by
  refine ⟨fun pins s σ H Q I ⟨g, ρ, m, fs, p⟩ => ?_⟩
  obtain ⟨x, ex, p⟩ := p.ofO
  unfold cloO at ex
  rw [K.ir] at ex
  simp only at ex
  split at ex <;> try (cases ex)
  rename_i ds ec
  have hfree : ∀ y ∈ L.scope.names, y.2 = .free → ∃ c, X.env.cells.lookup y.1 = some c := fun y hy e => I.ok.has _ (K.kind y.1 (K.fr y hy e))
  rcases hd with ⟨d0, hdef⟩ | ⟨hne, hk0, hz, hp⟩
  · refine PySem.W.kla_eval hdef ?_
    rw [makeFunction_eq, ← K.qual]
    simp only [List.zip_nil_right, List.filterMap_nil, List.isEmpty_nil, if_true, pure_bind]
    exact lam_tail I K.tb K.code K.mem K.qual K.name K.uniq fs.hs.tabs fs.hs.sub fs.hs.nt hfree fun f c' F1 H1 s' I1 md => ⟨.ref f, H1, I1, rfl, clo_fin K I fs Gr.refl ec p md (.inl ⟨d0, rfl⟩)⟩
  · refine PySem.W.kdv_lam hne hk0 (all_const hp I fun us s1 I1 rs => ?_)
    have hus : us.isEmpty = false := by
      have h1 := hp.length
      have h2 := rs.length
      cases us with
      | cons _ _ => rfl
      | nil =>
        rw [h2] at h1
        have h3 := List.eq_nil_of_length_eq_zero (h1 : L.params.defaults.length = 0)
        rw [h3] at hne
        cases hne
    rw [makeFunction_eq, ← K.qual]
    simp only [List.zip_nil_right, List.filterMap_nil, List.isEmpty_nil, if_true, pure_bind, hus, Bool.false_eq_true, if_false]
    refine wpAny_bind (wpAny_newTextTuple ?_)
    have hf : H s1.heap.objs.size = none := I1.hok.fresh (Nat.le_refl _)
    have gr := Gr.new (W := W) (o := HO.tup L.dfl) hf fs.hs.sub
    have I2 : L2.Inv X pins σ (upd H s1.heap.objs.size (.tup L.dfl)) { s1 with heap := s1.heap.push { cls := .type "tuple", data := .seq us.toArray } } :=
      I1.laid (t' := s1.toks) (fun b o e => Heap.get?_push_of_some _ e) (Nat.le_refl _) ⟨hz, us, rs, IsTup.new _ _⟩
    have fs2 := fs.step gr.ext (gr.hs _ fs.hs)
    exact lam_tail I2 K.tb K.code K.mem K.qual K.name K.uniq fs2.hs.tabs fs2.hs.sub fs2.hs.nt hfree fun f c' F1 H1 s' I1 md =>
      ⟨.ref f, H1, I1, rfl, clo_fin K I fs gr ec p md (.inr ⟨_, rfl, upd_same⟩)⟩
end
end Di
end
section
set_option Elab.async false
set_option linter.all false
set_option maxRecDepth 100000
set_option maxHeartbeats 2000000
/-! Di.App: a closure is called. -/
namespace Di
open PySem PySem.Spec PyProof.Rows L2 LamX NdefX
def LamS (W : Wd) (xc : Nat → Option XcA) (C : Ct) (n k : Nat) (sem : List Val → List Val → M D) : Prop :=
  ∀ (A : Around) (outer : List PySem.Env) (s : Shared) (H : Hp) (f : Addr) (us : List Value) (vs : List V) (Q : VK) (Ex : XK) (g : G) (cap as : List Val) (m : MS), Rm n A → Env0 C.prog C.w W.K C.mg C.base A outer s H → KnS g s H → HpS W g m H →
    RepV W g (.c k cap) (.ref f) → RepVs W g as vs → Vals vs us → PostC W xc g H Q Ex (sem cap as m) → codeAny (model C.prog C.w) A (.call (.ref f) ⟨us, []⟩) (CR (L2.CX C.prog C.w) outer C.prog C.w H s Q Ex) s
def lamNF (L : LamA) (cl : List (Str × Addr)) (c' : Addr) : NF := ⟨"<lambda>", L.qual, L.params, [], L.scope, cl, c'⟩
abbrev lamX (W : Wd) (C : Ct) (L : LamA) (cl : List (Str × Addr)) (c' f : Addr) (A : Around) (outer : List PySem.Env) (s : Shared) (H : Hp) (Ex : XK) : Cx := ncx (L2.CX C.prog C.w) C.prog C.w W.K C.mg C.base L.N (lamNF L cl c') f A outer s H Ex
/-- what the text tells of a lambda -/
structure LamT (W : Wd) (k : Nat) (L : LamA) (l : LamI) : Prop where
  lam : W.lam k = some L
  ir : W.P.lams[k]? = some l
  sc : NScope L.N L.ps L.fr L.scope
  np : l.np = L.ps.length
  ns : l.ns = L.N.length
  dfl : ∀ F μ mid, RepDs W F μ mid l.dfl L.dfl
  bind : ∀ (s : Shared) (cl : List (Str × Addr)) (dV doc pm ctv : Value) (c' : Addr) (us dus : List Value), ((L.dfl = [] ∧ dV = .none) ∨ ∃ (a : Addr) (o : Obj) (n : Nat), dV = .ref a ∧ s.heap.get? a = some o ∧ o.data = .seq dus.toArray n) → dus.length = L.dfl.length → us.length ≤ L.ps.length → L.ps.length - us.length ≤ dus.length →
    BindsTo s (PySem.W.kdv_fn "<lambda>" L.qual L.params (.expr L.body) L.scope cl dV doc pm (.ref c') ctv) ⟨us, []⟩ (L.ps.zip (us ++ dus.drop (dus.length - (L.ps.length - us.length))))
/-- the frame of a closure's call, in the interpreter -/
def appE (l : LamI) (cap as : List Val) : Env := (as ++ (l.dfl.drop (l.dfl.length - (l.np - as.length))).map Val.d ++ cap).map Sl.sh ++ List.replicate (l.ns - l.np - cap.length) Sl.no
def appM (l : LamI) (ce : Env → M OV) (cap as : List Val) : M D := if as.length ≤ l.np ∧ l.np - as.length ≤ l.dfl.length then M.bind (ce (appE l cap as)) (fun x => ofO (datO x)) else bad
section
variable {W : Wd} {xc : Nat → Option XcA} {C : Ct}
theorem startF_get {N : List Str} {vs ws : List V} {i : Nat} : slot (startF N vs (ws.map some)) i = if i < vs.length then vs[i]? else ws[i - vs.length]? := by
  unfold slot startF
  by_cases h : i < vs.length
  · rw [if_pos h, List.getElem?_append_left (by simpa using h), List.getElem?_map, List.getElem?_eq_getElem h]
    rfl
  · rw [if_neg h, List.getElem?_append_right (by simpa using h)]
    simp only [List.length_map]
    by_cases h2 : i - vs.length < ws.length
    · rw [List.getElem?_append_left (by simpa using h2), List.getElem?_map, List.getElem?_eq_getElem h2]
      rfl
    · rw [List.getElem?_append_right (by simpa using h2), List.getElem?_replicate, List.getElem?_eq_none (by omega : ws.length ≤ i - vs.length)]
      split <;> rfl
theorem fs_app {X : Cx} {g : G} {m : MS} {H : Hp} {l : LamI} {ds cap : List Val} {vs ws : List V} {pins : List (Addr × Obj)} {s1 : Shared} (I : L2.Inv X pins (startF X.N vs (ws.map some)) H s1) (nd : X.N.Nodup) (hs : HpS W g m H) (fnF : ∀ x, X.fn x = false) (rv : RepVs W g ds vs) (rw' : RepVs W g cap ws) (hN : ds.length + cap.length ≤ X.N.length)
    (k0 : ∀ c v, g.κ c = some v → K0 X c v) (full : ∀ (i : Nat) (x : Str) (c : Addr) (v : V), X.N[i]? = some x → X.env.cells.lookup x = some c → (X.env.scope.names.lookup x = some .cell ∨ X.env.scope.names.lookup x = some .free) → (startF X.N vs (ws.map some))[i]? = some (some v) → g.κ c = some v) :
    FS W X (frG X g, H) (frG X g) ((ds ++ cap).map Sl.sh ++ List.replicate (X.N.length - ds.length - cap.length) Sl.no) m (startF X.N vs (ws.map some)) H := by
  have R : Refr g (frG X g) := ⟨frG_same, fun c v e => ⟨e, fun ⟨x, hx, _⟩ => by rw [fnF] at hx; cases hx⟩⟩
  have l1 := rv.length
  have l2 := rw'.length
  have noOw : ∀ {i : Nat} {y : Val}, ((ds ++ cap).map Sl.sh ++ List.replicate (X.N.length - ds.length - cap.length) Sl.no)[i]? ≠ some (.ow y) := fun {i y} e => by
    by_cases h : i < (ds ++ cap).length
    · rw [List.getElem?_append_left (by simpa using h), List.getElem?_map] at e
      cases q : (ds ++ cap)[i]? <;> rw [q] at e <;> cases e
    · rw [List.getElem?_append_right (by simpa using h), List.getElem?_replicate] at e
      split at e <;> cases e
  refine ⟨hs.of rfl rfl rfl, ExtF.refl _ _, ?_, fun i sl e => ?_, fun i j x y a e => absurd e noOw, fun i x a e => absurd e noOw, ⟨fun c v e => .inr (k0 c v e), fun c => Iff.rfl, fun i => rfl, full, I.ok.inj, nd, I.len⟩⟩
  · unfold startF
    simp only [List.length_append, List.length_map, List.length_replicate]
    omega
  · rw [startF_get]
    by_cases h : i < (ds ++ cap).length
    · rw [List.getElem?_append_left (by simpa using h), List.getElem?_map] at e
      by_cases h2 : i < ds.length
      · rw [List.getElem?_append_left h2] at e
        rw [if_pos (by omega)]
        cases q : ds[i]? with
        | none => rw [q] at e; cases e
        | some d =>
          rw [q] at e
          simp only [Option.map_some, Option.some.injEq] at e
          subst e
          obtain ⟨v, ev, r⟩ := rv.get q
          exact ⟨v, ev, RepV.refr R _ _ r⟩
      · rw [List.getElem?_append_right (by omega)] at e
        rw [if_neg (by omega), ← l1]
        cases q : cap[i - ds.length]? with
        | none => rw [q] at e; cases e
        | some d =>
          rw [q] at e
          simp only [Option.map_some, Option.some.injEq] at e
          subst e
          obtain ⟨v, ev, r⟩ := rw'.get q
          exact ⟨v, ev, RepV.refr R _ _ r⟩
    · rw [List.getElem?_append_right (by simpa using h), List.getElem?_replicate] at e
      split at e <;> cases e
      trivial
theorem lamS_of {n k : Nat} {L : LamA} {l : LamI} {ce : Env → M OV} (T : LamT W k L l)
    (hbody : ∀ (A : Around) (outer : List PySem.Env) (s : Shared) (H : Hp) (Ex : XK) (b : G × Hp) (cl : List (Str × Addr)) (c' f : Addr), Rm n (lamX W C L cl c' f A outer s H Ex).A → PE (lamX W C L cl c' f A outer s H Ex) L.body (TV W xc (lamX W C L cl c' f A outer s H Ex) b (fun cls dd _ H' => Ex cls dd H') ce)) :
    LamS W xc C (n + 1) k (appM l ce) := by
  intro A outer s H f us vs Q Ex g cap as m hr e0 kn hs rc rv r p
  unfold appM at p
  have hl : as.length ≤ l.np ∧ l.np - as.length ≤ l.dfl.length := by
    by_cases h : as.length ≤ l.np ∧ l.np - as.length ≤ l.dfl.length
    · exact h
    · rw [if_neg h] at p; exact p.elim
  rw [if_pos hl] at p
  simp only [RepV] at rc
  obtain ⟨L', f', c', cl, dV, ws, h1, h2, h3, h4, h5, h6, h7, h8, h9, h10⟩ := rc
  rw [T.lam] at h1; cases h1
  cases h2
  have lv := rv.length
  have lu := r.length
  have ld := (T.dfl g.F g.μ g.mid).length
  have lc := h9.length
  have lfr : L.fr.length = ws.length := by have := congrArg List.length h10; simpa using this
  have hF : s.heap.NoLimit := e0.mod.nolimit.keeps fun b o e => (e0.bs b o e).1
  obtain ⟨⟨pm, ctv, doc, ho⟩, _, _⟩ := (show ObjOk C.prog C.w H s.heap f (LamO f L cl dV c') from e0.hok f _ (hs.sub _ _ h3))
  obtain ⟨⟨oc, cvs, tk, hoc, hcd, hcv⟩, _, _⟩ := (show ObjOk C.prog C.w H s.heap c' (CodeO c' L.qual) from e0.hok c' _ (hs.sub _ _ h4))
  -- the defaults, as values
  obtain ⟨dus, hdv, hdl, rdu⟩ : ∃ dus : List Value, ((L.dfl = [] ∧ dV = .none) ∨ ∃ (a : Addr) (o : Obj) (n : Nat), dV = .ref a ∧ s.heap.get? a = some o ∧ o.data = .seq dus.toArray n) ∧ dus.length = L.dfl.length ∧ Vals L.dfl dus := by
    rcases h5 with ⟨d0, d1⟩ | ⟨a, d1, d2⟩
    · exact ⟨[], .inl ⟨d0, d1⟩, by rw [d0]; rfl, by rw [d0]; exact .nil⟩
    · obtain ⟨_, its, ri, o, ho', _, n', hd'⟩ := (show ObjOk C.prog C.w H s.heap a (.tup L.dfl) from e0.hok a _ (hs.sub _ _ d2))
      exact ⟨its, .inr ⟨a, o, n', d1, ho', hd'⟩, ri.length.symm, ri⟩
  have bt := T.bind s cl dV doc pm ctv c' us dus hdv hdl (by rw [← T.np]; omega) (by rw [← T.np]; omega)
  generalize hus : us ++ dus.drop (dus.length - (L.ps.length - us.length)) = us2 at bt
  generalize hvs : vs ++ L.dfl.drop (L.dfl.length - (L.ps.length - vs.length)) = vs2
  have r2 : Vals vs2 us2 := by
    rw [← hus, ← hvs, hdl, lu]
    exact r.append (rdu.drop _)
  have lvs2 : vs2.length = L.ps.length := by
    rw [← hvs, List.length_append, List.length_drop]
    have := T.np
    omega
  have rv2 : RepVs W g (as ++ (l.dfl.drop (l.dfl.length - (l.np - as.length))).map Val.d) vs2 := by
    rw [← hvs, T.np, lv, ld]
    exact rv.append (RepVs.data.mpr ((T.dfl g.F g.μ g.mid).drop _))
  have sc := T.sc
  refine PySem.W.kla_callFunE hr.room.depth ho rfl sc.co sc.gen rfl ⟨c', oc, cvs, tk, rfl, hoc, hcd, hcv⟩ (bt _ _ _ _ ?_)
  refine wpAny_newFunctionEnv sc.nocell (fun ⟨nn, _⟩ hy => sc.par nn (List.of_mem_zip hy).1) (fun h₁ hns hsb => ⟨hF.fresh _ hsb, ?_⟩) sc.kind
  have kp : ∀ b o, s.heap.get? b = some o → h₁.get? b = some o := fun b o e => hsb.extBut b o (Nat.ne_of_lt (Heap.lt_size e)) (Heap.get?_push_of_some _ e)
  have kn' : ∀ y c, cl.lookup y = some c → ∃ j v, L.fr[j]? = some y ∧ ws[j]? = some v ∧ g.κ c = some v := fun y c e => by
    obtain ⟨j, hj⟩ := List.mem_iff_getElem?.mp (h6 y c e)
    have z := congrArg (fun q => q[j]?) h10
    simp only [List.getElem?_map, hj, Option.map_some, e, Option.bind_some] at z
    cases q : ws[j]? with
    | none => rw [q] at z; cases z
    | some v =>
      rw [q] at z
      simp only [Option.map_some, Option.some.injEq] at z
      exact ⟨j, v, hj, q, z⟩
  have cat : CellsAt (lamNF L cl c').cl L.fr (ws.map some) s.heap H := by
    refine ⟨by rw [List.length_map]; exact lfr.symm, fun y c e => ?_, h7, fun i y hi => ?_⟩
    · obtain ⟨j, v, _, _, q⟩ := kn' y c e
      obtain ⟨u, o, k1, k2, k3, k4⟩ := kn c v q
      exact ⟨k4, some u, o, k2, k3⟩
    · have z := congrArg (fun q => q[i]?) h10
      simp only [List.getElem?_map, hi, Option.map_some] at z
      cases q : ws[i]? with
      | none => rw [q] at z; cases z
      | some v =>
        rw [q] at z
        simp only [Option.map_some, Option.some.injEq] at z
        cases e : cl.lookup y with
        | none => rw [e] at z; cases z
        | some c =>
          rw [e] at z
          have z : g.κ c = some v := z
          refine ⟨c, e, fun v' hv => ?_⟩
          rw [List.getElem?_map, q] at hv
          simp only [Option.map_some, Option.some.injEq] at hv
          subst hv
          obtain ⟨u, o, k1, k2, k3, k4⟩ := kn c v z
          exact ⟨u, k1, o, k2, k3⟩
  have I := inv_startN (CX := L2.CX C.prog C.w) (f := f) (E := Ex) (tk := s.toks + (L.ps.zip us2).length) sc hr.room.hd e0 lvs2 r2 cat hns kp
  show codeAny _ _ (.expr L.body (envF (lamNF L cl c') f s.heap.objs.size)) _ _
  have hB := hbody A outer s H Ex
  have RmB : Rm n (lamX W C L cl c' f A outer s H Ex).A := hr.deeper _
  have npl : L.ps.length + L.fr.length ≤ L.N.length := by
    have q := congrArg List.length sc.pre
    rw [List.length_take, List.length_append] at q
    omega
  have at_ : ∀ i y, L.N[i]? = some y → ∀ j, L.fr[j]? = some y → i = L.ps.length + j := fun i y hi j hj => by
    refine nodup_ix sc.nd hi ?_
    have lj : j < L.fr.length := (List.getElem?_eq_some_iff.mp hj).1
    have q : (L.N.take (L.ps.length + L.fr.length))[L.ps.length + j]? = some y := by
      rw [sc.pre, List.getElem?_append_right (by omega)]
      simpa using hj
    rw [List.getElem?_take_of_lt (by omega)] at q
    exact q
  have fs := fs_app (X := lamX W C L cl c' f A outer s H Ex) (l := l) I sc.nd hs (fun _ => rfl) rv2 h9 (by
      have := rv2.length
      show _ ≤ L.N.length
      omega)
    (fun c v e => by
      obtain ⟨u, o, k1, k2, k3, k4⟩ := kn c v e
      exact ⟨u, o, k1, k2, k3, k4, fun z => (nomatch (show c ∈ ([] : List Addr) from z)), fun x hx => by cases hx⟩)
    (fun i x c v e1 e2 e3 e4 => by
      obtain ⟨j, v', f1, f2, f3⟩ := kn' x c e2
      have hi := at_ i x e1 j f1
      have z := slot_of e4
      rw [startF_get, if_neg (by omega), lvs2, hi, Nat.add_sub_cancel_left, f2] at z
      rw [f3]; exact z)
  refine PySem.W.kla_codeExpr (wpAny_mono ((hB (frG (lamX W C L cl c' f A outer s H Ex) g, H) cl c' f RmB).run [] _ _ H Q I ⟨_, _, m, fs, ?_⟩) (fun v s' hq => ?_) fun e s' hq => hq)
  · have ee : (as ++ (l.dfl.drop (l.dfl.length - (l.np - as.length))).map Val.d ++ cap).map Sl.sh ++ List.replicate ((lamX W C L cl c' f A outer s H Ex).N.length - (as ++ (l.dfl.drop (l.dfl.length - (l.np - as.length))).map Val.d).length - cap.length) Sl.no = appE l cap as := by
      unfold appE
      rw [T.ns, show (lamX W C L cl c' f A outer s H Ex).N = L.N from rfl, rv2.length, lvs2, T.np]
    rw [ee]
    unfold M.bind at p
    cases ec : ce (appE l cap as) m with
    | bad => rw [ec] at p; exact p.elim
    | ex k' q m1 =>
      rw [ec] at p
      intro cls dd g' H' e hs' rx
      exact p cls dd { g' with κ := g.κ, own := g.own, cell := g.cell } H' ⟨(e.toExtF.from frG_same).of rfl rfl rfl, rfl, rfl, rfl⟩ (hs'.of rfl rfl rfl) rx
    | ok x m1 =>
      rw [ec] at p
      obtain ⟨d, ed, p⟩ := p.ofO
      unfold datO at ed
      split at ed <;> try (cases ed)
      intro v g' H' e hs' rx
      exact p v { g' with κ := g.κ, own := g.own, cell := g.cell } H' ⟨(e.toExtF.from frG_same).of rfl rfl rfl, rfl, rfl, rfl⟩ (hs'.of rfl rfl rfl) (by simpa only [RepOV, RepV] using rx)
  · obtain ⟨w', H', J', rv', q⟩ := hq
    exact ⟨w', H', J'.os, J'.bare, J'.base, J'.hok, rv', q⟩
end
/-! ### the call's expression -/
section
variable {W : Wd} {xc : Nat → Option XcA} {C : Ct} {X : Cx} {g0 : G × Hp} {E : WX} {cs : Env → M (List OV)}
theorem run_lamS {n k : Nat} {f : Addr} {sem : List Val → List Val → M D} (F : LamS W xc C n k sem) (xC : XC W C X) (hr : Rm n X.A) (tk : Takes X E) {pins : List (Addr × Obj)} {s : Shared} {σ : L2.St} {H : Hp} {Q : VK} {us : List Value} {vs : List V} {g : G} {ρ : Env} {m : MS} {ds cap : List Val}
    (I : L2.Inv X pins σ H s) (fs : FS W X g0 g ρ m σ H) (rc : RepV W g (.c k cap) (.ref f)) (rv : RepVs W g ds vs) (r : Vals vs us) (p : Post W xc g σ H (fun g _ d v => RepD W g.F g.μ g.mid d v) Q E (sem cap ds m)) :
    wpAny (model X.prog X.w) X.A (call (.ref f) us) (EP X pins σ Q) X.xe s := by
  have e0 := I.env0
  rw [xC.prog, xC.w, xC.mg, xC.base, xC.K] at e0
  have run := F X.A X.stack s H f us vs Q (fun cls dd H => E cls dd σ H) g cap ds m hr e0 (fun c v e => fs.kr.cellAt I e) fs.hs rc rv r (by
    revert p
    cases sem cap ds m <;> exact id)
  rw [← xC.prog, ← xC.w] at run
  refine wpAny_call (codeAny_mono run fun r s' hq => ?_)
  cases r with
  | error e => exact tk e s' (XE.of_call I (fun cls d H' h => h) hq)
  | ok fl =>
    cases fl with
    | ret u => exact I.after hq
    | next => exact False.elim hq
    | brk => exact False.elim hq
    | cont => exact False.elim hq
theorem lam_at {k : Nat} {cap : List Val} {f : Addr} {g : G} {m : MS} {H : Hp} {pins : List (Addr × Obj)} {s : Shared} {σ : L2.St} (I : L2.Inv X pins σ H s) (hs : HpS W g m H) (rc : RepV W g (.c k cap) (.ref f)) : PySem.W.FnAt f s.heap := by
  simp only [RepV] at rc
  obtain ⟨L', f', c', cl, dV, ws, h1, h2, h3, _⟩ := rc
  cases h2
  obtain ⟨⟨pm, ctv, doc, ho⟩, _, _⟩ := (show ObjOk X.prog X.w H s.heap f (LamO f L' cl dV c') from I.hok f _ (hs.sub _ _ h3))
  exact ⟨_, _, _, _, ho⟩
theorem app_some {ρ : Env} {i : Nat} {kc : Nat × List Val} (e : appO ρ i = some kc) : ρ[i]? = some (.sh (.c kc.1 kc.2)) := by
  unfold appO at e
  split at e
  · rename_i q
    cases e
    exact q
  · cases e
/-- x(e, ..), x a name that holds a closure -/
theorem pe_dapp {n : Nat} {i : Nat} {x : Str} {p1 pos : Pos} {e : Expr} {es : List Expr} {sem : Nat → List Val → List Val → M D} (F : ∀ k, LamS W xc C n k (sem k)) (xC : XC W C X) (hr : Rm n X.A) (tk : Takes X E) (hN : X.N[i]? = some x) (hv : Vis X.env.scope x) (hd : (x == ("__debug__" : Str)) = false) (hcd : (x == ("__classdict__" : Str)) = false)
    (ha : PA X (e :: es) (TLs W xc X g0 E cs)) (he : starEach (e :: es) X.env = (false, eval e X.env) :: starEach es X.env) (hpl : (backTo pos (starEach es X.env)).any (·.1) = false) :
    PE X (.Call (.Name x p1) (e :: es) [] pos) (TV W xc X g0 E fun ρ => M.bind (ofO (appO ρ i)) fun kc => M.bind (cs ρ) fun xs => M.bind (ofO (vals xs)) fun ds => M.bind (sem kc.1 kc.2 ds) fun d => ret1 (.v (.d d))) := by
  refine ⟨fun pins s σ H Q I ⟨g, ρ, m, fs, p⟩ => ?_⟩
  obtain ⟨kc, ek, p⟩ := p.bofO
  have hsl := app_some ek
  obtain ⟨w, ew, rw'⟩ := fs.env i _ hsl
  have rr := rw'
  simp only [RepV] at rr
  obtain ⟨_, f, _, _, _, _, _, ef, _⟩ := rr
  subst ef
  have ld := (pe_var (pos := p1) hN hv hd hcd).run pins s σ H (fun v H1 => v = .ref f ∧ H1 = H) I ⟨.ref f, slot_some ew, rfl, rfl⟩
  refine wpAny_Call_Name_kw (thn ld fun u s1 ⟨v, H1, I1, r1, ev, eH⟩ => ?_)
  subst ev eH
  obtain rfl : u = Value.ref f := r1
  have args := ha.run pos pins s1 σ H1 _ I1 ⟨g, ρ, m, fs, p.bind fs⟩
  refine PySem.W.callWith_F (lam_at I1 fs.hs rw') (thn args fun us s2 ⟨vs, H2, I2, r, g2, m2, xs, fs2, e2, r2, p2⟩ => ?_) he hpl
  obtain ⟨ds, ed, p3⟩ := p2.bofO
  have rc2 : RepV W g2 (.c kc.1 kc.2) (.ref f) := rw'.ext e2
  refine ⟨lam_at I2 fs2.hs rc2, run_lamS (F kc.1) xC hr tk I2 fs2 rc2 (vals_rep r2 ed) r ((p3.bind fs2).mono fun v H3 ⟨g3, m3, d, fs3, e3, r3, p4⟩ => ?_)⟩
  exact p4.at fs3 (b := v) (by simpa only [RepOV, RepV] using r3)
theorem pe_dapp0 {n : Nat} {i : Nat} {x : Str} {p1 pos : Pos} {sem : Nat → List Val → List Val → M D} (F : ∀ k, LamS W xc C n k (sem k)) (xC : XC W C X) (hr : Rm n X.A) (tk : Takes X E) (hN : X.N[i]? = some x) (hv : Vis X.env.scope x) (hd : (x == ("__debug__" : Str)) = false) (hcd : (x == ("__classdict__" : Str)) = false) :
    PE X (.Call (.Name x p1) [] [] pos) (TV W xc X g0 E fun ρ => M.bind (ofO (appO ρ i)) fun kc => M.bind (ret1 []) fun xs => M.bind (ofO (vals xs)) fun ds => M.bind (sem kc.1 kc.2 ds) fun d => ret1 (.v (.d d))) := by
  refine ⟨fun pins s σ H Q I ⟨g, ρ, m, fs, p⟩ => ?_⟩
  obtain ⟨kc, ek, p⟩ := p.bofO
  have hsl := app_some ek
  obtain ⟨w, ew, rw'⟩ := fs.env i _ hsl
  have rr := rw'
  simp only [RepV] at rr
  obtain ⟨_, f, _, _, _, _, _, ef, _⟩ := rr
  subst ef
  have ld := (pe_var (pos := p1) hN hv hd hcd).run pins s σ H (fun v H1 => v = .ref f ∧ H1 = H) I ⟨.ref f, slot_some ew, rfl, rfl⟩
  refine wpAny_Call_Name_kw (thn ld fun u s1 ⟨v, H1, I1, r1, ev, eH⟩ => ?_)
  subst ev eH
  obtain rfl : u = Value.ref f := r1
  refine PySem.W.callWith_F0 (lam_at I1 fs.hs rw') ?_
  have p : Post W xc g σ H1 (fun g _ x v => RepOV W ρ σ g x v) Q E (M.bind (sem kc.1 kc.2 []) (fun d => ret1 (OV.v (.d d))) m) := p
  refine run_lamS (F kc.1) xC hr tk I1 fs rw' (ds := []) RepVs.nil .nil ((p.bind fs).mono fun v H3 ⟨g3, m3, d, fs3, e3, r3, p4⟩ => ?_)
  exact p4.at fs3 (b := v) (by simpa only [RepOV, RepV] using r3)
/-- a def without arguments -/
theorem pe_dcall0 {n : Nat} {fa : Addr} {sem : List Val → M D} {x : Str} {p pos : Pos} (F : FnS W xc C n fa sem) (xC : XC W C X) (hr : Rm n X.A) (tk : Takes X E) (hg : Gl X x) (hm : X.mg x = some (.ref fa)) (hk : PySem.W.keepIn X.K (.ref fa) = true) (hdb : (x == ("__debug__" : Str)) = false) :
    PE X (.Call (.Name x p) [] [] pos) (TV W xc X g0 E fun ρ => M.bind (ret1 []) fun xs => M.bind (ofO (vals xs)) fun ds => M.bind (sem ds) fun d => ret1 (.v (.d d))) := by
  refine ⟨fun pins s σ H Q I ⟨g, ρ, m, fs, q⟩ => ?_⟩
  refine wpAny_Call_Name_kw (ld_glob I hg hm ?_ hdb)
  have q : Post W xc g σ H (fun g _ x v => RepOV W ρ σ g x v) Q E (M.bind (sem []) (fun d => ret1 (OV.v (.d d))) m) := q
  refine PySem.W.callWith_K0 I.kIn hk (run_fnS F xC hr tk I fs (ds := []) RepVs.nil .nil ((q.bind fs).mono fun v H2 ⟨g2, m2, d, fs2, e2, r2, p2⟩ => ?_))
  exact p2.at fs2 (b := v) (by simpa only [RepOV, RepV] using r2)
end
end Di
end
section
set_option Elab.async false
set_option linter.all false
set_option maxRecDepth 100000
set_option maxHeartbeats 2000000
/-! Di.St3: item stores, two stores at once, while. -/
namespace Di
open PySem PySem.Spec PyProof.Rows L2 LamX NdefX
section
variable {W : Wd} {F : Hp} {μ : Addr} {mid : Nat}
theorem repl_rep {k : Key} {d : D} {v : V} (rd : RepD W F μ mid d v) : ∀ {kvs : List (Key × V)} {vs : List D}, RepDs W F μ mid vs (kvs.map (·.2)) →
    RepDs W F μ mid (repl (keyV k) d (kvs.map fun p => keyV p.1) vs) ((kvs.map fun kv => if kv.1 = k then (kv.1, v) else kv).map (·.2))
  | [], vs, h => by simpa only [List.map_nil, repl] using h
  | p :: r, [], h => by have := h.length; simp at this
  | p :: r, w :: vs, h => by
    obtain ⟨u, us, e, h1, h2⟩ := h.split
    simp only [List.map_cons, List.cons.injEq] at e
    obtain ⟨e1, e2⟩ := e
    subst e1 e2
    simp only [List.map_cons, repl, keyEq_v]
    refine RepDs.cons ?_ (repl_rep rd h2)
    by_cases q : p.1 = k
    · simp only [q, decide_true, if_true]; exact rd
    · simp only [decide_eq_false q, if_neg q, if_neg Bool.false_ne_true]; exact h1
theorem putK_rep {k : Key} {d : D} {v : V} (rd : RepD W F μ mid d v) {kvs : List (Key × V)} {ks vs : List D} (e : kvs.map (fun p => keyV p.1) = ks) (h : RepDs W F μ mid vs (kvs.map (·.2))) :
    (L2.putK kvs k v).map (fun p => keyV p.1) = (putK (keyV k) d ks vs).1 ∧ RepDs W F μ mid (putK (keyV k) d ks vs).2 ((L2.putK kvs k v).map (·.2)) := by
  subst e
  have ea : (kvs.map fun p => keyV p.1).any (keyEq · (keyV k)) = kvs.any fun kv => decide (kv.1 = k) := by
    rw [List.any_map]
    congr 1
    funext p
    exact keyEq_v p.1 k
  unfold putK L2.putK
  rw [ea]
  by_cases q : (kvs.any fun kv => decide (kv.1 = k)) = true
  · rw [if_pos q, if_pos q]
    refine ⟨?_, repl_rep rd h⟩
    rw [List.map_map]
    refine List.map_congr_left fun p _ => ?_
    simp only [Function.comp]
    split <;> rfl
  · rw [if_neg q, if_neg q]
    exact ⟨by simp, by
      rw [List.map_append]
      exact h.append (RepDs.cons rd RepDs.nil)⟩
end
section
variable {W : Wd} {xc : Nat → Option XcA} {X : Cx} {b : G × Hp} {T : Ends} {E : WX} {g g' : G} {ρ ρ' : Env} {m : MS} {σ : L2.St} {H H' : Hp}
def rSetX : TSet := fun o i v H Q => rSetD o i v H Q ∨ rSetL o i v H Q
theorem set_x (hu : X.A.units + 1 < cLine) : PSet X rSetX := fun pins s σ H o i v ov iv u Q I ro ri rv h => by
  rcases h with h | h
  · exact set_dict hu pins s σ H o i v ov iv u Q I ro ri rv h
  · exact set_list pins s σ H o i v ov iv u Q I ro ri rv h
variable {ek ev : Expr} {ck cv : Env → M OV} {pos p1 tp : Pos} {i : Nat} {x : Str}
theorem dat_rep {x : OV} {v : V} {d : D} (r : RepOV W ρ σ g x v) (e : datO x = some d) : RepD W g.F g.μ g.mid d v := by
  unfold datO at e
  split at e
  · cases e
    simpa only [RepOV, RepV] using r
  · cases e
theorem ps_dsetIx (xw : XW W X) (hN : X.N[i]? = some x) (hv : Vis X.env.scope x) (hd : (x == ("__debug__" : Str)) = false) (hcd : (x == ("__classdict__" : Str)) = false) (he : PE X ev (TV W xc X b E cv)) (hk : PE X ek (TV W xc X b E ck))
    (ha : ∀ v, assign (.Subscript (.Name x p1) ek tp) X.env v = (do
      let ov ← holding [v] (eval (.Name x p1) X.env)
      let iv ← holding [v, ov] (eval ek X.env)
      standAt tp
      holding [v, ov, iv] (setItem ov iv v)
      release [v, ov, iv] []))
    (hs : swapsWithSole [.Subscript (.Name x p1) ek tp] ev pos.line X.env = pure false) (hw : swappedStores [.Subscript (.Name x p1) ek tp] ev X.env = pure none) (h1 : (assignEach [.Subscript (.Name x p1) ek tp] X.env).map (·.2) = [assign (.Subscript (.Name x p1) ek tp) X.env]) :
    PS X (.Assign [.Subscript (.Name x p1) ek tp] ev pos) (TSt W xc X b E fun ρ => M.bind (M.bind (cv ρ) fun x => ofO (datO x)) fun d => M.bind (ofO (isO ρ i)) fun _ => M.bind (M.bind (ck ρ) fun x => ofO (datO x)) fun kd => M.bind (ofO (setIxO ρ i kd d)) fun ρ1 => ret1 (.nx ρ1)) :=
  ps_weak (ps_asg he (pg_sub (pe_var (pos := p1) hN hv hd hcd) hk (set_x (by have := xw.hu; omega)) ha) hs hw h1) fun T σ H ⟨g, ρ, m, fs, p⟩ => by
    dsimp only at p
    rw [bind_assoc] at p
    refine ⟨g, ρ, m, fs, (p.expr fs).mono fun v H1 ⟨g1, m1, a, fs1, e1, r1, p1⟩ => ?_⟩
    obtain ⟨d, ed, p2⟩ := p1.bofO
    obtain ⟨_, eo, p3⟩ := p2.bofO
    rw [bind_assoc] at p3
    have hy : ∃ y, ρ[i]? = some (.ow y) := by
      unfold isO at eo
      split at eo
      · rename_i q; exact ⟨_, q⟩
      · cases eo
    obtain ⟨y, hy⟩ := hy
    obtain ⟨ad, es, _, _, _⟩ := fs1.env i _ hy
    refine ⟨.ref ad, slot_some es, g1, ρ, m1, fs1, (p3.expr fs1).mono fun kv H2 ⟨g2, m2, a2, fs2, e2, r2, p4⟩ => ?_⟩
    obtain ⟨kd, ek', p5⟩ := p4.bofO
    obtain ⟨ρ1, eρ, p6⟩ := p5.bofO
    have rd : RepD W g2.F g2.μ g2.mid d v := RepD.mono e2.sub e2.midw _ _ (dat_rep r1 ed)
    have rk : RepD W g2.F g2.μ g2.mid kd kv := dat_rep r2 ek'
    obtain ⟨a', es', f, mu, ro⟩ := fs2.env i _ hy
    rw [es] at es'; cases es'
    unfold setIxO at eρ
    rw [hy] at eρ
    cases y with
    | c _ _ => simp at eρ
    | l _ => simp at eρ
    | d y =>
      cases y <;> simp only at eρ <;> try (cases eρ)
      · -- a list
        rename_i xs
        cases kd <;> simp only at eρ <;> try (cases eρ)
        rename_i j
        split at eρ <;> try (cases eρ)
        rename_i nn en
        simp only [RepD] at rk
        subst rk
        simp only [RepO] at ro
        obtain ⟨vs, k1, k2⟩ := ro
        rw [k2.length] at en
        refine .inr ⟨ad, vs, j, nn, rfl, rfl, k1, en, ?_⟩
        exact p6.nxt (fs2.chg (o := .lst (vs.set nn v)) hy es (fun u hu => by rw [k1] at hu; cases hu; exact .inl ⟨_, rfl⟩) (by simp only [RepO]; exact ⟨_, upd_same, k2.set nn rd⟩)) (SubF.refl _)
      · -- a dict
        rename_i ks vs
        split at eρ <;> try (cases eρ)
        rename_i hz
        rw [Bool.and_eq_true, decide_eq_true_eq] at hz
        obtain ⟨k, ekv, ekd⟩ := key_is (W := W) (g := g2) (H := H2) hz.1 (.inl (by simpa only [RepV] using rk))
        subst ekv ekd
        simp only [RepO] at ro
        obtain ⟨kvs, k1, k2, k3⟩ := ro
        have sz : kvs.length < sizeLine := by
          have := congrArg List.length k2
          rw [List.length_map] at this
          rw [sizeLine_eq]
          omega
        obtain ⟨q1, q2⟩ := putK_rep (k := k) rd k2 k3
        refine .inl ⟨ad, _, rfl, DPut.k k1 sz, ?_⟩
        exact p6.nxt (fs2.chg (o := .dK (L2.putK kvs k v)) hy es (fun u hu => by rw [k1] at hu; cases hu; exact .inr ⟨_, rfl⟩) (by simp only [RepO]; exact ⟨_, upd_same, q1, q2⟩)) (SubF.refl _)
/-! ### while -/
variable {c : Expr} {body : List Stmt} {bc : Env → M Bool} {cb : Env → M Fl}
theorem ps_dwhile {fuel : Nat} (hp : PassesOwn (model X.prog X.w) X.A X.env X.xe) (hc : PT X c (TBo W xc X b E bc)) (hb : PSs X body (TSt W xc X b E cb)) : PS X (.While c body [] pos) (TSt W xc X b E fun ρ => whileL bc cb fuel ρ) :=
  ps_weak (ps_while hp hc hb) fun T σ H ⟨g, ρ, m, fs, p⟩ => by
    refine ⟨fun n σ' H' => ∃ gi ρi mi, FS W X b gi ρi mi σ' H' ∧ SubF g gi ∧ PostS W xc X b gi T E (whileL bc cb n ρi mi), ⟨fuel, g, ρ, m, fs, SubF.refl g, p⟩, ?_⟩
    intro n σ' H' ⟨gi, ρi, mi, x1, x2, x3⟩
    cases n with
    | zero => exact x3.elim
    | succ n =>
      simp only [whileL] at x3
      refine ⟨gi, ρi, mi, x1, (x3.expr x1).mono fun t H1 ⟨g1, m1, t', fs1, e1, r1, p1⟩ => ?_⟩
      cases r1
      cases t with
      | false =>
        simp only [Bool.false_eq_true, if_false] at p1 ⊢
        exact p1 _ g1 _ fs1 (SubF.refl _)
      | true =>
        simp only [if_true] at p1 ⊢
        refine ⟨fun σ' H' => ∃ gi ρi mi, FS W X b gi ρi mi σ' H' ∧ SubF g gi ∧ PostS W xc X b gi T E (whileL bc cb n ρi mi), fun σ' H' h => ⟨n, by omega, h⟩, g1, ρi, m1, fs1, ?_⟩
        have s1 := x2.trans e1.toExtF.subF
        unfold M.bind at p1
        cases eb : cb ρi m1 with
        | bad => simp only [eb] at p1; exact p1
        | ex k r m4 => simp only [eb] at p1; exact p1
        | ok fl m4 =>
          simp only [eb] at p1
          cases fl with
          | nx ρ4 => exact fun σ4 g4 H4 fs4 s4 => ⟨g4, ρ4, m4, fs4, s1.trans s4, PostS.sub (p := p1) s4⟩
          | ct ρ4 => exact fun σ4 g4 H4 fs4 s4 => ⟨g4, ρ4, m4, fs4, s1.trans s4, PostS.sub (p := p1) s4⟩
          | bk ρ4 => exact fun σ4 g4 H4 fs4 s4 => p1 σ4 g4 H4 fs4 s4
          | rt d => exact p1
end
end Di
end
section
set_option Elab.async false
set_option linter.all false
set_option maxRecDepth 100000
set_option maxHeartbeats 2000000
/-! Di.Par: a, b = x, y. -/
namespace Di
open PySem PySem.Spec PyProof.Rows L2 LamX NdefX
section
variable {W : Wd} {xc : Nat → Option XcA} {X : Cx} {b : G × Hp} {T : Ends} {E : WX} {g : G} {ρ : Env} {m : MS} {σ : L2.St} {H : Hp}
/-- what a component of the right side gives: a shared value, or a list or dict of one's own that was just made -/
def RC (W : Wd) (o : Bool) (H : Hp) (g' : G) (H' : Hp) (d : D) (v : V) : Prop := match o with
  | false => RepD W g'.F g'.μ g'.mid d v
  | true => ∃ a, v = .ref a ∧ H a = none ∧ g'.F a = none ∧ ¬ g'.mu a ∧ RepO W g' H' (.d d) a
/-- a component's reading: from the heap H -/
def TC (W : Wd) (xc : Nat → Option XcA) (X : Cx) (b : G × Hp) (E : WX) (o : Bool) (c : Env → M D) : TE := fun σ H Q => ∃ g ρ m, FS W X b g ρ m σ H ∧ Post W xc g σ H (RC W o H) Q E (c ρ m)
theorem tc_sh {e : Expr} {ce : Env → M OV} (he : PE X e (TV W xc X b E ce)) : PE X e (TC W xc X b E false fun ρ => M.bind (ce ρ) fun x => ofO (datO x)) :=
  pe_weak he fun σ H Q ⟨g, ρ, m, fs, p⟩ => by
    refine ⟨g, ρ, m, fs, (p.bind fs).mono fun v H1 ⟨g1, m1, x, fs1, e1, r1, p1⟩ => ?_⟩
    obtain ⟨d, ed, p2⟩ := p1.ofO
    exact p2 v g1 H1 (Ext.refl _ _) fs1.hs (dat_rep r1 ed)
theorem tc_ow {e : Expr} {cv : Env → M Val} (he : PE X e (TN W xc X b E cv)) : PE X e (TC W xc X b E true fun ρ => M.bind (cv ρ) fun x => ofO (match x with
    | .d d => some d
    | _ => none)) :=
  pe_weak he fun σ H Q ⟨g, ρ, m, fs, p⟩ => by
    refine ⟨g, ρ, m, fs, ?_⟩
    unfold M.bind at p
    cases ec : cv ρ m with
    | bad => simp only [ec] at p; exact p
    | ex k q m1 => simp only [ec] at p; exact p
    | ok y m1 =>
      simp only [ec] at p
      obtain ⟨d, ed, p⟩ := p.ofO
      cases y <;> simp at ed
      subst ed
      intro v g' H' e hs ⟨a, h1, h2, h3, h4, h5⟩
      exact p v g' H' e hs ⟨a, h1, h2, h3, h4, h5⟩
theorem RC.ext {o : Bool} {H H1 H2 : Hp} {g1 g2 : G} {d : D} {v : V} (e : Ext g1 H1 g2 H2) (h : RC W o H g1 H1 d v) : RC W o H g2 H2 d v := by
  cases o with
  | false => exact RepD.mono e.sub e.midw _ _ h
  | true =>
    obtain ⟨a, h1, h2, h3, h4, h5⟩ := h
    obtain ⟨u, hu⟩ := h5.dom
    refine ⟨a, h1, h2, ?_, ?_, h5.ext e h4⟩
    · cases q : g2.F a with
      | none => rfl
      | some w =>
        rcases e.new a w q with z | z
        · rw [h3] at z; cases z
        · rw [hu] at z; cases z
    · intro ⟨z0, z⟩
      rcases e.mid with ⟨e1, e2⟩ | ⟨_, e2⟩
      · exact h4 ⟨by rw [← e1]; exact z0, z.trans e2⟩
      · rw [← z, hu] at e2; cases e2
/-- a tuple that nobody keeps -/
theorem FS.loose (fs : FS W X b g ρ m σ H) {p : Addr} {o : HO} (hp : H p = none) : FS W X b g ρ m σ (upd H p o) ∧ Ext g H g (upd H p o) := by
  obtain ⟨f, mu⟩ := hp_dom fs.hs hp
  have e : Ext g H g (upd H p o) := ⟨(ExtF.refl g H).updL hp, rfl, rfl, rfl⟩
  exact ⟨fs.step e (fs.hs.updL f mu fun u e => by rw [hp] at e; cases e), e⟩
/-- one component is stored -/
theorem FS.comp {i : Nat} {x : Str} {o : Bool} {H0 : Hp} {d : D} {v : V} (fs : FS W X b g ρ m σ H) (hN : X.N[i]? = some x) (ho : Own X x) (r : RC W o H0 g H d v) (hb : ∀ a, H0 a = none → b.2 a = none)
    (new : ∀ a, H0 a = none → ∀ j z, (ρ[j]? = some (.ow z) ∨ ρ[j]? = some (.ro z)) → slot σ j ≠ some (.ref a)) : FS W X b (stG X g x v) (Di.put W.P i (if o then .ow (.d d) else .sh (.d d)) ρ) m (σ.set i (some v)) H := by
  cases o with
  | false =>
    have r : RepV W g (.d d) v := by simp only [RepV]; exact r
    exact fs.put hN ho r
  | true =>
    obtain ⟨a, rfl, h2, h3, h4, h5⟩ := r
    refine fs.store hN ho (s := .ow (.d d)) ⟨a, rfl, h3, h4, h5⟩ (fun _ => by simp) fun y a' _ ea => ?_
    cases ea
    exact ⟨hb a h2, new a h2⟩
theorem RC.same {o : Bool} {H0 : Hp} {g g' : G} {d : D} {v : V} (s : SameF g g') (h : RC W o H0 g H d v) : RC W o H0 g' H d v := by
  cases o with
  | false =>
    show RepD W g'.F g'.μ g'.mid d v
    rw [s.1, s.2.1, s.2.2]; exact h
  | true =>
    obtain ⟨a, h1, h2, h3, h4, h5⟩ := h
    refine ⟨a, h1, h2, by rw [s.1]; exact h3, fun ⟨z0, z⟩ => h4 ⟨by rw [← s.2.2]; exact z0, by rw [← s.2.1]; exact z⟩, ?_⟩
    unfold RepO at h5 ⊢
    split at h5
    · rw [s.1, s.2.1, s.2.2]; exact h5
    · rw [s.1, s.2.1, s.2.2]; exact h5
    · rename_i q; cases q
    · exact h5.elim
variable {ea eb : Expr} {ca cb : Env → M D} {i j : Nat} {x y : Str} {o1 o2 : Bool}
/-- both stores -/
theorem par_read (hi : X.N[i]? = some x) (hj : X.N[j]? = some y) (hij : i ≠ j) (ox : Own X x) (oy : Own X y) {t : TA} (ht : ∀ σ H Q, TC W xc X b E o1 ca σ H (fun v H1 => TC W xc X b E o2 cb σ H1 fun w H2 => Q [v, w] H2) → t σ H Q)
    (h : TSt W xc X b E (fun ρ => M.bind (ca ρ) fun d1 => M.bind (cb ρ) fun d2 => ret1 (.nx (Di.put W.P j (if o2 then .ow (.d d2) else .sh (.d d2)) (Di.put W.P i (if o1 then .ow (.d d1) else .sh (.d d1)) ρ)))) T σ H) :
    t σ H fun vs H1 => ∃ v w, vs = [v, w] ∧ ∀ H2, (H2 = H1 ∨ ∃ p o, H1 p = none ∧ H2 = upd H1 p o) → T.nx ((σ.set i (some v)).set j (some w)) H2 := by
  obtain ⟨g, ρ, m, fs, p⟩ := h
  refine ht σ H _ ⟨g, ρ, m, fs, (p.expr (R := RC W o1 H) fs).mono fun v H1 ⟨g1, m1, d1, fs1, e1, r1, p1⟩ => ⟨g1, ρ, m1, fs1, (p1.expr (R := RC W o2 H1) fs1).mono fun w H2 ⟨g2, m2, d2, fs2, e2, r2, p2⟩ => ⟨v, w, rfl, fun H3 h3 => ?_⟩⟩⟩
  have r1' := r1.ext e2
  have fin : ∀ {H3 : Hp}, FS W X b g2 ρ m2 σ H3 → RC W o1 H g2 H3 d1 v → RC W o2 H1 g2 H3 d2 w → (∀ a, H3 a = none → H2 a = none) → T.nx ((σ.set i (some v)).set j (some w)) H3 := fun {H3} fs3 q1 q2 _ => by
    have s1 := fs3.comp hi ox q1 (fun a z => fs.ext.dom a z) (fun a z k u hk hs => by
      obtain ⟨o, ho⟩ := fs.dom_ow hk hs
      rw [z] at ho; cases ho)
    have s2 := s1.comp hj oy (q2.same stG_same) (fun a z => fs.ext.dom a (e1.dom a z)) (fun a z k u hk hs => by
      have hk' : ∃ s0, (s0 = Sl.ow u ∨ s0 = Sl.ro u) ∧ ((k = i ∧ s0 = (if o1 then .ow (.d d1) else .sh (.d d1))) ∨ (k ≠ i ∧ ρ[k]? = some s0)) := by
        rcases hk with hk | hk
        · obtain ⟨s0, k1, k2⟩ := put_get hk
          exact ⟨s0, .inl (kill_own k1.symm), k2⟩
        · obtain ⟨s0, k1, k2⟩ := put_get hk
          exact ⟨s0, .inr (kill_ro k1.symm), k2⟩
      obtain ⟨s0, k1, k2⟩ := hk'
      rcases k2 with ⟨rfl, k2⟩ | ⟨n, k2⟩
      · rw [slot_self (by rw [fs.kr.len]; exact (List.getElem?_eq_some_iff.mp hi).1)] at hs
        cases hs
        cases o1 with
        | false =>
          rw [if_neg Bool.false_ne_true] at k2
          subst k2
          rcases k1 with k1 | k1 <;> cases k1
        | true =>
          obtain ⟨a', ea, _, _, _, ro⟩ := r1
          cases ea
          obtain ⟨o, ho⟩ := ro.dom
          rw [z] at ho; cases ho
      · rw [slot_set n] at hs
        obtain ⟨o, ho⟩ := fs1.dom_ow (show ρ[k]? = some (.ow u) ∨ ρ[k]? = some (.ro u) from by
          rcases k1 with k1 | k1
          · exact .inl (by rw [k2, k1])
          · exact .inr (by rw [k2, k1])) hs
        rw [z] at ho; cases ho)
    exact p2.nxt s2 (stG_same.trans stG_same).subF
  rcases h3 with rfl | ⟨q, o, hq, rfl⟩
  · exact fin fs2 r1' r2 fun _ z => z
  · obtain ⟨fs3, e3⟩ := fs2.loose (o := o) hq
    exact fin fs3 (r1'.ext e3) (r2.ext e3) fun a z => upd_none z
theorem tc2_mono {σ : L2.St} {H : Hp} {Q Q' : List V → Hp → Prop} (h : tCons (TC W xc X b E o1 ca) (tCons (TC W xc X b E o2 cb) tNil) σ H Q) (k : ∀ vs H, Q vs H → Q' vs H) : tCons (TC W xc X b E o1 ca) (tCons (TC W xc X b E o2 cb) tNil) σ H Q' := by
  obtain ⟨g, ρ, m, fs, p⟩ := h
  exact ⟨g, ρ, m, fs, p.mono fun v H1 ⟨g1, ρ1, m1, fs1, p1⟩ => ⟨g1, ρ1, m1, fs1, p1.mono fun w H2 q => k _ _ q⟩⟩
/-- two plain locals -/
theorem ps_dpar {px py pt pos : Pos} {kt k2 : Nat} {pt2 : Pos} (hc : X.calm = true) (nd : X.N.Nodup) (hi : X.N[i]? = some x) (hj : X.N[j]? = some y) (hij : i ≠ j) (hx : X.env.scope.names.lookup x = some .local) (hy : X.env.scope.names.lookup y = some .local)
    (ha : PE X ea (TC W xc X b E o1 ca)) (hb : PE X eb (TC W xc X b E o2 cb)) (s1 : starEach [ea, eb] X.env = (false, eval ea X.env) :: starEach [eb] X.env) (s2 : starEach [eb] X.env = (false, eval eb X.env) :: starEach [] X.env)
    (hw : swappedStores [.Tuple [.Name x px, .Name y py] kt pt] (.Tuple [ea, eb] k2 pt2) X.env = pure (some [x, y])) (hs : swapsWithSole [.Tuple [.Name x px, .Name y py] kt pt] (.Tuple [ea, eb] k2 pt2) pos.line X.env = pure false) :
    PS X (.Assign [.Tuple [.Name x px, .Name y py] kt pt] (.Tuple [ea, eb] k2 pt2) pos) (TSt W xc X b E fun ρ => M.bind (ca ρ) fun d1 => M.bind (cb ρ) fun d2 => ret1 (.nx (Di.put W.P j (if o2 then .ow (.d d2) else .sh (.d d2)) (Di.put W.P i (if o1 then .ow (.d d1) else .sh (.d d1)) ρ)))) :=
  ps_weak (ps_par hc nd hi hj hij hx hy (pa_cons ha (pa_cons hb pa_nil s2) s1) hw hs) fun T σ H h => by
    have z := par_read (T := T) (t := tCons (TC W xc X b E o1 ca) (tCons (TC W xc X b E o2 cb) tNil)) hi hj hij (.inl hx) (.inl hy) (fun σ H Q q => q) h
    exact tc2_mono z fun vs H1 ⟨v, w, e, k⟩ => ⟨v, w, e, k H1 (.inl rfl)⟩
/-- any two names -/
theorem ps_dparT {px py pt pos : Pos} {kt k2 : Nat} {pt2 : Pos} (hc : X.calm = true) (nd : X.N.Nodup) (hi : X.N[i]? = some x) (hj : X.N[j]? = some y) (hij : i ≠ j) (ox : Own X x) (oy : Own X y)
    (ha : PE X ea (TC W xc X b E o1 ca)) (hb : PE X eb (TC W xc X b E o2 cb)) (s1 : starEach [ea, eb] X.env = (false, eval ea X.env) :: starEach [eb] X.env) (s2 : starEach [eb] X.env = (false, eval eb X.env) :: starEach [] X.env)
    (hw : swappedStores [.Tuple [.Name x px, .Name y py] kt pt] (.Tuple [ea, eb] k2 pt2) X.env = pure none) (hs : swapsWithSole [.Tuple [.Name x px, .Name y py] kt pt] (.Tuple [ea, eb] k2 pt2) pos.line X.env = pure false) :
    PS X (.Assign [.Tuple [.Name x px, .Name y py] kt pt] (.Tuple [ea, eb] k2 pt2) pos) (TSt W xc X b E fun ρ => M.bind (ca ρ) fun d1 => M.bind (cb ρ) fun d2 => ret1 (.nx (Di.put W.P j (if o2 then .ow (.d d2) else .sh (.d d2)) (Di.put W.P i (if o1 then .ow (.d d1) else .sh (.d d1)) ρ)))) :=
  have lx : PG X (.Name x px) (gName i) := pg_name nd hi (ox.elim .inl fun h => .inr h.1) (ox.elim .inr fun h => .inl h.2.1)
  have ly : PG X (.Name y py) (gName j) := pg_name nd hj (oy.elim .inl fun h => .inr h.1) (oy.elim .inr fun h => .inl h.2.1)
  ps_weak (ps_asg (pe_tup (x1 := k2) (pos := pt2) (pa_cons ha (pa_cons hb pa_nil s2) s1)) (pg_tup (k := kt) (pos := pt) (n := 2) hc (pgs_cons lx (pgs_cons ly pgs_nil rfl) rfl) rfl rfl) hs hw rfl) fun T σ H h => by
    have z := par_read (T := T) (t := tCons (TC W xc X b E o1 ca) (tCons (TC W xc X b E o2 cb) tNil)) hi hj hij ox oy (fun σ H Q q => q) h
    show tCons (TC W xc X b E o1 ca) (tCons (TC W xc X b E o2 cb) tNil) σ H (fun vs H1 => vs.length ≤ sizeLine ∧ ∀ p, H1 p = none → gTup X.K 2 (gCons (gName i) (gCons (gName j) gNil)) (.ref p) σ (upd H1 p (.tup vs)) T.nx)
    refine tc2_mono z fun vs H1 ⟨v, w, e, k⟩ => ?_
    subst e
    exact ⟨by rw [sizeLine_eq]; exact (show 2 ≤ 16777216 by decide), fun p hp => ⟨p, [v, w], rfl, .inl (.inl upd_same), rfl, v, [w], rfl, w, [], rfl, rfl, k _ (.inr ⟨p, _, hp, rfl⟩)⟩⟩
end
end Di
end
section
set_option Elab.async false
set_option linter.all false
set_option maxRecDepth 100000
set_option maxHeartbeats 2000000
/-! Di.Aug: `x += e`, `x -= e`, `x *= e` of whole numbers. -/
namespace Di
open PySem PySem.Spec PyProof.Rows L2 LamX NdefX
section
variable {W : Wd} {xc : Nat → Option XcA} {X : Cx} {b : G × Hp} {T : Ends} {E : WX} {g g' : G} {ρ ρ' : Env} {m : MS} {σ : L2.St} {H H' : Hp}
/-- by values: two whole numbers, as `augO` has them -/
def rAug (o : Op2) : R2 := fun x y H Q => ∃ i j k, x = .int i ∧ y = .int j ∧ augO o (.d (.int i)) (.d (.int j)) = some (.d (.int k)) ∧ Q (.int k) H
theorem ip_mulBig : OpR X (inplaceOp .Mult) (rI CMulW fun i j => .int (i * j)) := opI fun _ _ _ _ _ _ _ c q => imul_int q c.ok
theorem ip_aug (o : Op2) : PIp X o.py (rAug o) := by
  intro pins s σ H x y v u Q I rx ry h
  obtain ⟨i, j, k, rfl, rfl, e, q⟩ := h
  cases o with
  | add =>
    simp only [augO, Option.some.injEq, Val.d.injEq, D.int.injEq] at e
    subst e
    exact iop_add pins s σ H _ _ v u Q I rx ry ⟨_, _, rfl, rfl, q⟩
  | sub =>
    simp only [augO, Option.some.injEq, Val.d.injEq, D.int.injEq] at e
    subst e
    exact iop_sub pins s σ H _ _ v u Q I rx ry ⟨_, _, rfl, rfl, q⟩
  | mul =>
    simp only [augO] at e
    split at e
    · rename_i hz
      simp only [Option.some.injEq, Val.d.injEq, D.int.injEq] at e
      subst e
      simp only [mulOk, Bool.or_eq_true, decide_eq_true_eq] at hz
      rcases hz with (hz | hz) | hz
      · exact iop_mul pins s σ H _ _ v u Q I rx ry ⟨_, _, rfl, rfl, .inl (by omega), q⟩
      · exact iop_mul pins s σ H _ _ v u Q I rx ry ⟨_, _, rfl, rfl, .inr (by omega), q⟩
      · exact ip_mulBig pins s σ H _ _ v u Q I rx ry ⟨_, _, rfl, rfl, hz, q⟩
    · cases e
  | mod => simp [augO] at e
  | fdiv => simp [augO] at e
  | pow => simp [augO] at e
theorem aug_some {o : Op2} {x y d : Val} (e : augO o x y = some d) : ∃ i j k, x = .d (.int i) ∧ y = .d (.int j) ∧ d = .d (.int k) ∧ augO o (.d (.int i)) (.d (.int j)) = some (.d (.int k)) := by
  have e0 := e
  unfold augO at e
  split at e
  · cases e; exact ⟨_, _, _, rfl, rfl, rfl, e0⟩
  · cases e; exact ⟨_, _, _, rfl, rfl, rfl, e0⟩
  · split at e
    · cases e; exact ⟨_, _, _, rfl, rfl, rfl, e0⟩
    · cases e
  · cases e
variable {e : Expr} {ce : Env → M OV} {pos p1 : Pos} {i : Nat} {x : Str}
theorem ps_daug (o : Op2) (nd : X.N.Nodup) (hN : X.N[i]? = some x) (ho : Own X x) (he : PE X e (TV W xc X b E ce)) :
    PS X (.AugAssign (.Name x p1) o.py e pos) (TSt W xc X b E fun ρ => M.bind (ofO (shO ρ i)) fun y => M.bind (M.bind (ce ρ) fun x => ofO (valO x)) fun z => M.bind (ofO (augO o y z)) fun d => ret1 (.nx (Di.put W.P i (.sh d) ρ))) :=
  ps_weak (ps_aug nd hN (ho.elim .inl fun h => .inr h.1) he (ip_aug o) (ho.elim .inr fun h => .inl h.2.1)) fun T σ H ⟨g, ρ, m, fs, p⟩ => by
    dsimp only at p
    obtain ⟨y, ey, p⟩ := p.bofO
    rw [bind_assoc] at p
    have hy : ∃ v, slot σ i = some v ∧ RepV W g y v := by
      unfold shO at ey
      split at ey
      · rename_i q
        cases ey
        obtain ⟨v, e1, r⟩ := fs.env i _ q
        exact ⟨v, e1, r⟩
      · cases ey
    obtain ⟨v, hv, rv⟩ := hy
    refine ⟨v, slot_some hv, g, ρ, m, fs, (p.expr fs).mono fun w H1 ⟨g1, m1, a, fs1, e1, r1, p1⟩ => ?_⟩
    obtain ⟨z, ez, p2⟩ := p1.bofO
    obtain ⟨d, ed, p3⟩ := p2.bofO
    obtain ⟨n, k, l, rfl, rfl, rfl, e2⟩ := aug_some ed
    cases a with
    | o _ => simp [valO] at ez
    | v a =>
      simp only [valO, Option.some.injEq] at ez
      subst ez
      have r2 : w = .int k := by simpa only [RepOV, RepV, RepD] using r1
      have r3 : v = .int n := by simpa only [RepV, RepD] using rv
      subst r2 r3
      refine ⟨n, k, l, rfl, rfl, e2, ?_⟩
      exact p3.nxt (fs1.put hN ho (y := .d (.int l)) (by simp only [RepV, RepD])) (stG_same (X := X)).subF
end
end Di
end
section
set_option Elab.async false
set_option linter.all false
set_option maxRecDepth 100000
set_option maxHeartbeats 2000000
/-! Di.Exc: raise of an own exception class with one field. -/
namespace Di
open PySem PySem.Spec PyProof.Rows L2 LamX NdefX
section
variable {W : Wd} {xc : Nat → Option XcA} {X : Cx} {b : G × Hp} {T : Ends} {E : WX} {g g' : G} {ρ ρ' : Env} {m : MS} {σ : L2.St} {H H' : Hp}
/-- what a class's own maker does: the error gets its own dict, with the one field f -/
def InitS (sp : Sp) (C : Addr) (f : Str) : Prop := ∀ (a : Addr) (v : V) (H : Hp) (Q : VK) (Ex : XK), H a = none →
  (∀ d, d ≠ a → H d = none → Q .non (upd (upd H a (exo a C (some d))) d (exd d [(f, v)]))) → sp [.ref a, v] (upd H a (exo a C none)) Q Ex
theorem exc_heap {H : Hp} {a q C : Addr} {f : Str} {v : V} (ha : H a = none) (hq : q ≠ a) : upd (del (upd (upd H a (exo a C (some q))) q (exd q [(f, v)])) a) q (.xd [(f, v)]) = upd H q (.xd [(f, v)]) := by
  funext c
  by_cases h : c = q
  · rw [h, upd_same, upd_same]
  · rw [upd_ne h, upd_ne h]
    by_cases k : c = a
    · rw [k, del_same, ha]
    · rw [del_ne k, upd_ne h, upd_ne k]
variable {ce : Env → M OV} {mk : Expr} {pos : Pos} {C : Addr} {sp : Sp} {f : Str} {c : Nat}
theorem ps_drse (hc : X.calm = true) (tk : Takes X E) (hmk : PMk X mk (tMkO C sp [] (tCons (TV W xc X b E ce) tNil))) (hI : InitS sp C f) (hx : xc c = some ⟨C, some f⟩) :
    PS X (.Raise (some mk) none pos) (TSt W xc X b E fun ρ => M.bind (M.bind (ce ρ) fun x => ofO (datO x)) fun d m => .ex c (some d) m) :=
  ps_weak (ps_raise hc tk hmk) fun T σ H ⟨g, ρ, m, fs, p⟩ => by
    dsimp only at p
    rw [bind_assoc] at p
    refine ⟨g, ρ, m, fs, (p.expr fs).mono fun v H1 ⟨g1, m1, x, fs1, e1, r1, p1⟩ => ?_⟩
    obtain ⟨d, ed, p2⟩ := p1.bofO
    refine ⟨(by decide : (1 : Nat) ≤ 1000), fun a ha => hI a v H1 _ _ ha fun q hq hqn => ⟨rfl, q, [(f, v)], ?_, upd_same, hqn, ?_⟩⟩
    · rw [upd_ne (Ne.symm hq), upd_same]
    · rw [exc_heap ha hq]
      have G := Gr.new (W := W) (o := .xd [(f, v)]) hqn fs1.hF
      exact p2 _ _ σ _ _ (fs1.ext.trans G.ext.toExtF) (G.hs _ fs1.hs) ⟨⟨C, some f⟩, hx, rfl, q, v, rfl, upd_same, RepD.mono G.ext.sub G.ext.midw _ _ (dat_rep r1 ed)⟩
end
end Di
end
section
set_option Elab.async false
set_option linter.all false
set_option maxRecDepth 100000
set_option maxHeartbeats 2000000
/-! Di.Hd: what a handler's suite may say of the caught error (`HE`). -/
namespace Di
open PySem PySem.Spec PyProof.Rows L2 LamX NdefX
section
variable {W : Wd} {X : Cx} {g g' : G} {σ : L2.St} {H H' : Hp}
/-- the caught error is a, of class C, with the one field f that shows pd -/
def Caught (W : Wd) (i : Nat) (a : Addr) (cls : Value) (dd : Option Addr) (C : Addr) (f : Str) (pd : D) (g : G) (σ : L2.St) (H : Hp) : Prop :=
  σ[i]? = some (some (.ref a)) ∧ cls = .ref C ∧ hF g H ∧ ∃ q w, dd = some q ∧ ¬ g.mu q ∧ H q = some (.xd [(f, w)]) ∧ RepD W g.F g.μ g.mid pd w
theorem Caught.gr {i : Nat} {a C : Addr} {cls : Value} {dd : Option Addr} {f : Str} {pd : D} (k : Caught W i a cls dd C f pd g σ H) (e : Gr W g H g' H') (hf : hF g' H') (hm : ∀ q, g'.mu q → H q = none ∨ g.mu q) : Caught W i a cls dd C f pd g' σ H' := by
  obtain ⟨k1, k2, k3, q, w, k4, k5, k6, k7⟩ := k
  refine ⟨k1, k2, hf, q, w, k4, fun z => ?_, e.ext.keep q _ k6 k5 (fun ps => by simp), RepD.mono e.ext.sub e.ext.midw _ _ k7⟩
  rcases hm q z with h | h
  · rw [h] at k6; cases k6
  · exact k5 h
theorem Caught.new {i : Nat} {a C : Addr} {cls : Value} {dd : Option Addr} {f : Str} {pd : D} (k : Caught W i a cls dd C f pd g σ H) {p : Addr} {o : HO} (hp : H p = none) (ht : ∀ ps, o ≠ .tbl ps) : Caught W i a cls dd C f pd (g.add p o) σ (upd H p o) :=
  k.gr (Gr.new hp k.2.2.1 ht) (fun b u e => by
    by_cases q : b = p
    · rw [show (g.add p o).F b = upd g.F p o b from rfl, q, upd_same] at e
      rw [q, upd_same]; exact e
    · rw [show (g.add p o).F b = upd g.F p o b from rfl, upd_ne q] at e
      rw [upd_ne q]; exact k.2.2.1 b u e) fun q h => .inr h
/-- an expression of the suite -/
def TH (W : Wd) (i : Nat) (a : Addr) (cls : Value) (dd : Option Addr) (C : Addr) (f : Str) (pd : D) (he : HE) : TE := fun σ H Q => ∃ g d, Caught W i a cls dd C f pd g σ H ∧ evalH (some pd) he = some d ∧
  ∀ v g' H', Gr W g H g' H' → Caught W i a cls dd C f pd g' σ H' → RepD W g'.F g'.μ g'.mid d v → Q v H'
def THs (W : Wd) (i : Nat) (a : Addr) (cls : Value) (dd : Option Addr) (C : Addr) (f : Str) (pd : D) (hes : List HE) : TA := fun σ H Q => ∃ g ds, Caught W i a cls dd C f pd g σ H ∧ evalHs (some pd) hes = some ds ∧
  ∀ vs g' H', Gr W g H g' H' → Caught W i a cls dd C f pd g' σ H' → RepDs W g'.F g'.μ g'.mid ds vs → Q vs H'
variable {i : Nat} {a C : Addr} {cls : Value} {dd : Option Addr} {f : Str} {pd : D} {x : Str} {pos p1 : Pos} {oe : Obj} {pn : List (Addr × Obj)}
theorem pe_hfld (hN : X.N[i]? = some x) (hv : Vis X.env.scope x) (hd : (x == ("__debug__" : Str)) = false) (hcd : (x == ("__classdict__" : Str)) = false) (T : XfC X.K C) (hno : PySem.W.findIn X.K (.ref C) f = some none)
    (hz : Zc cls dd oe) (hf : ∃ vs, oe.data = .fields vs) (hb : attributeBase (.Name x p1) f X.env (eval (.Name x p1) X.env) = eval (.Name x p1) X.env) :
    PE (X.suite a ((a, oe) :: pn)) (.Attribute (.Name x p1) f pos) (TH W i a cls dd C f pd .fld) :=
  pe_weak (pe_xf T hno hz hf (pe_var (X := X.suite a ((a, oe) :: pn)) (pos := p1) hN hv hd hcd) hb) fun σ H Q ⟨g, d, k, e, wi⟩ => by
    have k' := k
    obtain ⟨k1, k2, k3, q, w, k4, k5, k6, k7⟩ := k
    simp only [evalH, Option.some.injEq] at e
    subst e
    exact ⟨.ref a, k1, rfl, k2, q, [(f, w)], w, k4, k6, by simp [List.lookup], wi _ g H Gr.refl k' k7⟩
variable {Y : Cx} {j : Nat}
theorem pe_hstr {s : Str} : PE Y (.Constant (.str s) j pos) (TH W i a cls dd C f pd (.k (.str s))) :=
  pe_weak pe_str fun σ H Q ⟨g, d, k, e, wi⟩ => by
    simp only [evalH, Option.some.injEq] at e
    subst e
    exact wi _ g H Gr.refl k (by simp only [RepD])
theorem pe_hint {n : Int} : PE Y (.Constant (.int n) j pos) (TH W i a cls dd C f pd (.k (.int n))) :=
  pe_weak pe_int fun σ H Q ⟨g, d, k, e, wi⟩ => by
    simp only [evalH, Option.some.injEq] at e
    subst e
    exact wi _ g H Gr.refl k (by simp only [RepD])
theorem pe_hnon : PE Y (.Constant .none j pos) (TH W i a cls dd C f pd (.k .non)) :=
  pe_weak pe_non fun σ H Q ⟨g, d, k, e, wi⟩ => by
    simp only [evalH, Option.some.injEq] at e
    subst e
    exact wi _ g H Gr.refl k (by simp only [RepD])
variable {e : Expr} {es : List Expr} {he : HE} {hes : List HE}
theorem pa_hnil : PA Y [] (THs W i a cls dd C f pd []) := pa_weak pa_nil fun σ H Q ⟨g, ds, k, e, wi⟩ => by
  simp only [evalHs, Option.some.injEq] at e
  subst e
  exact wi [] g H Gr.refl k RepDs.nil
theorem pa_hcons (h : PE Y e (TH W i a cls dd C f pd he)) (hs : PA Y es (THs W i a cls dd C f pd hes)) (s : starEach (e :: es) Y.env = (false, eval e Y.env) :: starEach es Y.env) : PA Y (e :: es) (THs W i a cls dd C f pd (he :: hes)) :=
  pa_weak (pa_cons h hs s) fun σ H Q ⟨g, ds, k, e, wi⟩ => by
    simp only [evalHs] at e
    split at e <;> try (cases e)
    rename_i d ed
    split at e <;> cases e
    rename_i ds' es'
    exact ⟨g, d, k, ed, fun v g1 H1 G1 k1 r1 => ⟨g1, ds', k1, es', fun vs g2 H2 G2 k2 r2 => wi _ g2 H2 (G1.trans G2) k2 (RepDs.cons (RepD.mono G2.ext.sub G2.ext.midw _ _ r1) r2)⟩⟩
theorem pe_htup {n : Nat} (h : PA Y es (THs W i a cls dd C f pd hes)) (hl : hes.length ≤ 1000) : PE Y (.Tuple es n pos) (TH W i a cls dd C f pd (.tup hes)) :=
  pe_weak (pe_tup h) fun σ H Q ⟨g, d, k, e, wi⟩ => by
    simp only [evalH] at e
    split at e <;> cases e
    rename_i ds ed
    refine ⟨g, ds, k, ed, fun vs g1 H1 G1 k1 r1 => ⟨?_, fun p hp => ?_⟩⟩
    · rw [← r1.length, sizeLine_eq]
      have : ∀ (l : List HE) (ds : List D), evalHs (some pd) l = some ds → ds.length = l.length := by
        intro l
        induction l with
        | nil => intro ds e; simp only [evalHs, Option.some.injEq] at e; rw [← e]; rfl
        | cons x r ih =>
          intro ds e
          simp only [evalHs] at e
          split at e <;> try (cases e)
          split at e <;> cases e
          rename_i ds' es'
          rw [List.length_cons, List.length_cons, ih _ es']
      have := this _ _ ed
      omega
    · have G := Gr.new (W := W) (o := .tup vs) hp k1.2.2.1
      refine wi _ _ _ (G1.trans G) (k1.new hp (fun _ z => by cases z)) ?_
      simp only [RepD]
      exact ⟨p, vs, rfl, .inl (.inl upd_same), r1.ext G.ext⟩
/-- the suite: `return e` -/
def TSuite (W : Wd) (i : Nat) (a : Addr) (cls : Value) (dd : Option Addr) (C : Addr) (f : Str) (pd : D) (he : HE) : TS := fun T σ H => ∃ g d, Caught W i a cls dd C f pd g σ H ∧ evalH (some pd) he = some d ∧
  ∀ v g' H', Gr W g H g' H' → RepD W g'.F g'.μ g'.mid d v → T.rt v H'
theorem ps_hret (h : PE Y e (TH W i a cls dd C f pd he)) : PS Y (.Return (some e) pos) (TSuite W i a cls dd C f pd he) :=
  ps_weak (ps_ret h) fun T σ H ⟨g, d, k, e, wi⟩ => ⟨g, d, k, e, fun v g1 H1 G1 k1 r1 => wi v g1 H1 G1 r1⟩
theorem pss_hret (h : PE Y e (TH W i a cls dd C f pd he)) : PSs Y [.Return (some e) pos] (TSuite W i a cls dd C f pd he) := pss_weak (pss_one (ps_hret h)) fun T σ H q => q
end
end Di
end
section
set_option Elab.async false
set_option linter.all false
set_option maxRecDepth 100000
set_option maxHeartbeats 2000000
/-! Di.T: the interpreter's conditions in the shape that the lemmas on tests have. -/
namespace Di
open PySem PySem.Spec
section
variable {P : Prg} {cf : Nat → List Val → M D} {ca : Nat → List Val → List Val → M D} {a b c : IR} {ρ : Env} {o o' : Cmp} {α β : Type}
theorem bind_cong {m : M α} {f f' : α → M β} (h : ∀ x, f x = f' x) : M.bind m f = M.bind m f' := by rw [funext h]
theorem ofO_some {x : α} {f : α → M β} : M.bind (ofO (some x)) f = f x := rfl
theorem ofO_none {f : α → M β} : M.bind (ofO (none : Option α)) f = ofO none := rfl
theorem ret1_bind {x : α} {f : α → M β} : M.bind (ret1 x) f = f x := rfl
theorem testE_cmp : testE P cf ca (.cmp o a b) ρ = M.bind (evalE P cf ca a ρ) fun x => M.bind (evalE P cf ca b ρ) fun y => ofO (cmpB ρ o x y) := by
  unfold testE
  rw [evalE, bind_assoc]
  refine bind_cong fun x => ?_
  rw [bind_assoc]
  refine bind_cong fun y => ?_
  cases cmpB ρ o x y <;> rfl
theorem testE_chain : testE P cf ca (.chain o o' a b c) ρ = M.bind (evalE P cf ca a ρ) fun x => M.bind (evalE P cf ca b ρ) fun y => M.bind (ofO (cmpB ρ o x y)) fun t =>
    if t then M.bind (evalE P cf ca c ρ) fun z => ofO (cmpB ρ o' y z) else ret1 false := by
  unfold testE
  rw [evalE, bind_assoc]
  refine bind_cong fun x => ?_
  rw [bind_assoc]
  refine bind_cong fun y => ?_
  rw [bind_assoc]
  refine bind_cong fun t => ?_
  cases t with
  | false => rfl
  | true =>
    simp only [if_true]
    rw [bind_assoc]
    refine bind_cong fun z => ?_
    cases cmpB ρ o' y z <;> rfl
theorem testE_and : testE P cf ca (.iand a b) ρ = M.bind (testE P cf ca a ρ) fun t => if t then testE P cf ca b ρ else ret1 false := by
  unfold testE
  rw [evalE, bind_assoc, bind_assoc]
  refine bind_cong fun x => ?_
  rw [bind_assoc]
  refine bind_cong fun t => ?_
  cases t <;> rfl
theorem testE_or : testE P cf ca (.ior a b) ρ = M.bind (testE P cf ca a ρ) fun t => if t then ret1 true else testE P cf ca b ρ := by
  unfold testE
  rw [evalE, bind_assoc, bind_assoc]
  refine bind_cong fun x => ?_
  rw [bind_assoc]
  refine bind_cong fun t => ?_
  cases t <;> rfl
theorem testE_ite : testE P cf ca (.ite c a b) ρ = M.bind (testE P cf ca c ρ) fun t => if t then testE P cf ca a ρ else testE P cf ca b ρ := by
  unfold testE
  rw [evalE, bind_assoc, bind_assoc]
  refine bind_cong fun x => ?_
  rw [bind_assoc]
  refine bind_cong fun t => ?_
  cases t <;> rfl
theorem evalE_ite : evalE P cf ca (.ite c a b) ρ = M.bind (testE P cf ca c ρ) fun t => if t then evalE P cf ca a ρ else evalE P cf ca b ρ := by
  unfold testE
  rw [evalE, bind_assoc]
theorem testE_not : testE P cf ca (.inot a) ρ = M.bind (testE P cf ca a ρ) fun t => ret1 (!t) := by
  unfold testE
  rw [evalE, bind_assoc, bind_assoc]
  refine bind_cong fun x => ?_
  unfold notO
  cases x with
  | o _ => rfl
  | v x => cases x with
    | d y => cases y <;> rfl
    | l _ => rfl
    | c _ _ => rfl
end
end Di
end
section
set_option Elab.async false
set_option linter.all false
set_option maxRecDepth 100000
set_option maxHeartbeats 2000000
/-! Di.Kw: a def called with keywords alone. -/
namespace Di
open PySem PySem.Spec PyProof.Rows L2 LamX NdefX
section
variable {W : Wd} {xc : Nat → Option XcA} {C : Ct} {X : Cx} {g0 : G × Hp} {E : WX} {ce : Env → M OV} {cs : Env → M (List OV)}
theorem pk_weak {kws : List Keyword} {t t' : TA} (h : PK X kws t) (k : ∀ σ H Q, t' σ H Q → t σ H Q) : PK X kws t' := ⟨fun pos pins s σ H Q I q => h.run pos pins s σ H Q I (k σ H Q q)⟩
theorem pk_dnil : PK X [] (TLs W xc X g0 E fun _ => ret1 []) := pk_weak pk_nil fun σ H Q ⟨g, ρ, m, fs, p⟩ => p.at fs (b := []) .nil
theorem pk_dcons {e : Expr} {nm : Option Str} {kp : Pos} {kws : List Keyword} (ha : PE X e (TV W xc X g0 E ce)) (hr : PK X kws (TLs W xc X g0 E cs)) : PK X (⟨nm, e, kp⟩ :: kws) (TLs W xc X g0 E fun ρ => M.bind (ce ρ) fun x => M.bind (cs ρ) fun xs => ret1 (x :: xs)) :=
  pk_weak (pk_cons ha hr) fun σ H Q ⟨g, ρ, m, fs, p⟩ =>
    ⟨g, ρ, m, fs, (p.bind fs).mono fun x H1 ⟨g1, m1, a, fs1, e1, r1, p1⟩ => ⟨g1, ρ, m1, fs1, (p1.bind fs1).mono fun xs H2 ⟨g2, m2, b, fs2, e2, r2, p2⟩ => p2.at fs2 (b := x :: xs) (.cons (r1.ext e2) r2)⟩⟩
theorem kw_all {pos : Pos} {env : PySem.Env} : ∀ {kws : List Keyword} {ks : List Str}, kws.map (·.arg) = ks.map some → (backToKw pos (keywordEach kws env)).all (·.1.isSome) = true ∧ (backToKw pos (keywordEach kws env)).filterMap (·.1) = ks ∧ (backToKw pos (keywordEach kws env)).any (·.1.isNone) = false
  | [], [], _ => ⟨rfl, rfl, rfl⟩
  | [], _ :: _, h => by cases h
  | _ :: _, [], h => by cases h
  | ⟨nm, e, kp⟩ :: kws, x :: ks, h => by
    simp only [List.map_cons, List.cons.injEq] at h
    obtain ⟨h1, h2⟩ := h
    subst h1
    obtain ⟨i1, i2, i3⟩ := kw_all (pos := pos) (env := env) h2
    unfold backToKw at i1 i2 i3 ⊢
    refine ⟨?_, ?_, ?_⟩
    · rw [keywordEach, List.map_cons, List.all_cons, i1] <;> rfl
    · rw [keywordEach, List.map_cons, List.filterMap_cons]
      exact congrArg (x :: ·) i2
    · rw [keywordEach, List.map_cons, List.any_cons, i3] <;> rfl
theorem evalEs_len {P : Prg} {cf : Nat → List Val → M D} {ca : Nat → List Val → List Val → M D} {ρ : Env} : ∀ {es : List IR} {xs : List OV} {m m' : MS}, evalEs P cf ca es ρ m = .ok xs m' → xs.length = es.length
  | [], xs, m, m', h => by
    have h : (Out.ok [] m : Out (List OV)) = .ok xs m' := h
    cases h; rfl
  | e :: r, xs, m, m', h => by
    have h : M.bind (evalE P cf ca e ρ) (fun x => M.bind (evalEs P cf ca r ρ) fun xs => ret1 (x :: xs)) m = .ok xs m' := h
    obtain ⟨x, m1, _, h2⟩ := out_ok h
    obtain ⟨ys, m2, h3, h4⟩ := out_ok h2
    have h4 : (Out.ok (x :: ys) m2 : Out (List OV)) = .ok xs m' := h4
    cases h4
    rw [List.length_cons, List.length_cons, evalEs_len h3]
theorem pe_dcallK {n : Nat} {fa : Addr} {ks : List Str} {ord : List Nat} {sem : List Val → M D} {x : Str} {p pos : Pos} {kws : List Keyword} (F : FnSKw W xc C n fa ks ord sem) (xC : XC W C X) (hr : Rm n X.A) (tk : Takes X E) (hg : Gl X x) (hm : X.mg x = some (.ref fa)) (hk : PySem.W.keepIn X.K (.ref fa) = true)
    (hkw : PK X kws (TLs W xc X g0 E cs)) (hks : kws.map (·.arg) = ks.map some) (hcs : ∀ ρ xs m m', cs ρ m = .ok xs m' → xs.length = ks.length) (hdb : (x == ("__debug__" : Str)) = false) :
    PE X (.Call (.Name x p) [] kws pos) (TV W xc X g0 E fun ρ => M.bind (cs ρ) fun xs => M.bind (ofO (vals xs)) fun ds => M.bind (ofO (pick ord ds)) fun ds' => M.bind (sem ds') fun d => ret1 (.v (.d d))) := by
  refine ⟨fun pins s σ H Q I ⟨g, ρ, m, fs, p⟩ => ?_⟩
  obtain ⟨k1, k2, k3⟩ := kw_all (pos := pos) (env := X.env) hks
  refine wpAny_Call_Name_kw (ld_glob I hg hm ?_ hdb)
  have args := hkw.run pos pins s σ H _ I ⟨g, ρ, m, fs, p.bindE fs⟩
  refine PySem.W.callWith_KW0 (h₀ := X.base) I.ok.mod.kin hk k1 (thn args fun us s1 ⟨vs, H1, I1, r, g1, m1, xs, ec, fs1, e1, r1, p1⟩ => ⟨I1.kIn, ?_⟩) (by rw [k3] <;> rfl)
  rw [k2]
  obtain ⟨ds, ed, p1⟩ := p1.bofO
  obtain ⟨ds', ep, p1⟩ := p1.bofO
  have rv := vals_rep r1 ed
  have hl : us.length = ks.length := by
    rw [← r.length, ← r1.length]
    exact hcs _ _ _ _ ec
  have e0 := I1.env0
  rw [xC.prog, xC.w, xC.mg, xC.base, xC.K] at e0
  have q : Post W xc g1 σ H1 (fun g _ d v => RepD W g.F g.μ g.mid d v) Q E (sem ds' m1) := (p1.bind fs1).mono fun v H2 ⟨g2, m2, d, fs2, e2, r2, p2⟩ => p2.at fs2 (b := v) (by simpa only [RepOV, RepV] using r2)
  have run := F X.A X.stack s1 H1 us vs Q (fun cls dd H => E cls dd σ H) g1 ds ds' m1 hr e0 (fun c v e => fs1.kr.cellAt I1 e) fs1.hs rv r hl ep (by
    revert q
    cases sem ds' m1 <;> exact id)
  rw [← xC.prog, ← xC.w] at run
  refine wpAny_call (codeAny_mono run fun r s' hq => ?_)
  cases r with
  | error e => exact tk e s' (XE.of_call I1 (fun cls d H' h => h) hq)
  | ok fl =>
    cases fl with
    | ret u => exact I1.after hq
    | next => exact False.elim hq
    | brk => exact False.elim hq
    | cont => exact False.elim hq
end
end Di
end
section
set_option Elab.async false
set_option linter.all false
set_option maxRecDepth 100000
set_option maxHeartbeats 2000000
/-! Di.M: the draws' dict: a field read, a field stored, a new one. -/
namespace Di
open PySem PySem.Spec PyProof.Rows L2 LamX NdefX
def mKey : Nat → Str
  | 0 => "left" | 1 => "seed" | 2 => "cells" | _ => "spot"
section
variable {W : Wd} {xc : Nat → Option XcA} {X : Cx} {b : G × Hp} {E : WX} {T : Ends} {g : G} {ρ : Env} {m m' : MS} {σ : L2.St} {H : Hp} {i f : Nat} {x : Str} {p1 p2 pos tp : Pos} {j : Nat}
theorem FS.mref (fs : FS W X b g ρ m σ H) {id : Nat} (h : ρ[i]? = some (.sh (.d (.st id)))) (e : id = m.id) (h0 : 0 < id) : slot σ i = some (.ref g.μ) ∧ 0 < g.mid := by
  obtain ⟨w, e1, r⟩ := fs.env i _ h
  simp only [RepV, RepD] at r
  obtain ⟨_, _, a, rfl, h3⟩ := r
  have em := fs.hs.mid
  rw [h3 (e.trans em)] at e1
  exact ⟨e1, by omega⟩
theorem m4_val (m : MS) (ca : Addr) : valV (ms4 m ca) (.inr "left") = some (.int m.left) ∧ valV (ms4 m ca) (.inr "seed") = some (.int m.seed) ∧ valV (ms4 m ca) (.inr "cells") = some (.ref ca) ∧ valV (ms4 m ca) (.inr "spot") = some (.int m.spot) := by
  refine ⟨rfl, rfl, rfl, rfl⟩
theorem mgetO_some {v : OV} (e : mgetO ρ i f m = some v) : ∃ id, ρ[i]? = some (.sh (.d (.st id))) ∧ id = m.id ∧ 0 < id ∧ ((f = 0 ∧ v = .v (.d (.int m.left))) ∨ (f = 1 ∧ v = .v (.d (.int m.seed))) ∨ (f = 2 ∧ v = .v (.d (.lst (m.cells.map D.int)))) ∨ (f = 3 ∧ v = .v (.d (.int m.spot)))) := by
  unfold mgetO at e
  split at e
  · rename_i id hid
    split at e
    · rename_i c
      refine ⟨id, hid, c.1, c.2, ?_⟩
      split at e <;> first | (cases e; done) | (simp only [Option.some.injEq] at e; subst e; simp)
    · cases e
  · cases e
theorem pe_mget (hu : X.A.units + 200 < cLine) (hN : X.N[i]? = some x) (hv : Vis X.env.scope x) (hd : (x == ("__debug__" : Str)) = false) (hcd : (x == ("__classdict__" : Str)) = false) :
    PE X (.Subscript (.Name x p1) (.Constant (.str (mKey f)) j p2) pos) (TV W xc X b E fun ρ => mgetM ρ i f) :=
  pe_weak (pe_dget (by omega) (pe_var (pos := p1) hN hv hd hcd) (pe_str (x := mKey f) (j := j) (pos := p2)) (fun _ _ => rfl)) fun σ H Q ⟨g, ρ, m, fs, p⟩ => by
    have p : Post W xc g σ H (fun g _ x v => RepOV W ρ σ g x v) Q E (match mgetO ρ i f m with
      | some x => .ok x m
      | none => .bad) := p
    cases e : mgetO ρ i f m with
    | none => rw [e] at p; exact p.elim
    | some v =>
      rw [e] at p
      obtain ⟨id, h1, h2, h3, h4⟩ := mgetO_some e
      obtain ⟨s1, s2⟩ := fs.mref h1 h2 h3
      obtain ⟨ca, m1, m2⟩ := fs.hs.mst s2
      obtain ⟨v1, v2, v3, v4⟩ := m4_val m ca
      refine ⟨.ref g.μ, slot_some s1, ?_⟩
      rcases h4 with ⟨rfl, rfl⟩ | ⟨rfl, rfl⟩ | ⟨rfl, rfl⟩ | ⟨rfl, rfl⟩
      · exact ⟨g.μ, .int m.left, rfl, by rw [← v1]; exact DGet.k (k := .inr "left") m1, p.at fs (by simp only [RepOV, RepV, RepD])⟩
      · exact ⟨g.μ, .int m.seed, rfl, by rw [← v2]; exact DGet.k (k := .inr "seed") m1, p.at fs (by simp only [RepOV, RepV, RepD])⟩
      · exact ⟨g.μ, .ref ca, rfl, by rw [← v3]; exact DGet.k (k := .inr "cells") m1, p.at fs (by simp only [RepOV, RepV, RepD]; exact ⟨ca, _, rfl, m2, ints_rep _⟩)⟩
      · exact ⟨g.μ, .int m.spot, rfl, by rw [← v4]; exact DGet.k (k := .inr "spot") m1, p.at fs (by simp only [RepOV, RepV, RepD])⟩
/-- the draws' dict changes -/
theorem FS.mchg (fs : FS W X b g ρ m σ H) (h0 : 0 < g.mid) {ca : Addr} (hc : g.F ca = some (.lst (m'.cells.map V.int))) (hid : m'.id = m.id) : FS W X b g ρ m' σ (upd H g.μ (.dK (ms4 m' ca))) := by
  obtain ⟨c0, m1, _⟩ := fs.hs.mst h0
  have nF : g.F g.μ = none := fs.hs.mu g.μ ⟨h0, rfl⟩
  have keepO : ∀ a y, ¬ g.mu a → RepO W g H y a → RepO W g (upd H g.μ (.dK (ms4 m' ca))) y a := fun a y nm r => by
    have ne : a ≠ g.μ := fun z => nm ⟨h0, z⟩
    unfold RepO at r ⊢
    split at r
    · obtain ⟨vs, r1, r2⟩ := r; exact ⟨vs, by rw [upd_ne ne]; exact r1, r2⟩
    · obtain ⟨vs, r1, r2⟩ := r; exact ⟨vs, by rw [upd_ne ne]; exact r1, r2⟩
    · obtain ⟨vs, r1, r2⟩ := r; exact ⟨vs, by rw [upd_ne ne]; exact r1, r2⟩
    · exact r.elim
  refine ⟨⟨fun a o e => ?_, fs.hs.mu, hid.trans fs.hs.mid, fun _ => ⟨ca, upd_same .., hc⟩, tab_upd fs.hs.tabs (fun u hu => ?_), fs.hs.nt⟩, ⟨fs.ext.sub, fs.ext.new, fun a o e nm ht => ?_, fun a e => ?_, fs.ext.mid⟩, fs.len, fun k s hk => ?_, fs.sep, fs.old, fs.kr⟩
  · have ne : a ≠ g.μ := fun z => by rw [z, nF] at e; cases e
    rw [upd_ne ne]
    exact fs.hs.sub a o e
  · rw [m1] at hu
    cases hu
    exact .inr ⟨_, rfl⟩
  · have ne : a ≠ g.μ := fun z => by
      rcases fs.ext.mid with ⟨e1, e2⟩ | ⟨_, e2⟩
      · exact nm ⟨by rw [← e1]; exact h0, z.trans e2⟩
      · rw [z, e2] at e; cases e
    rw [upd_ne ne]
    exact fs.ext.keep a o e nm ht
  · by_cases z : a = g.μ
    · rw [z, upd_same] at e; cases e
    · rw [upd_ne z] at e
      exact fs.ext.dom a e
  · have q := fs.env k s hk
    cases s with
    | no => trivial
    | sh y => exact q
    | ow y =>
      obtain ⟨a, q1, q2, q3, q4⟩ := q
      exact ⟨a, q1, q2, q3, keepO a y q3 q4⟩
    | ro y =>
      obtain ⟨a, q1, q2, q3, q4⟩ := q
      exact ⟨a, q1, q2, q3, keepO a y q3 q4⟩
theorem msetO_some {d : D} (e : msetO ρ i f d m = some m') : ∃ id v, ρ[i]? = some (.sh (.d (.st id))) ∧ id = m.id ∧ 0 < id ∧ d = .int v ∧ ((f = 0 ∧ m' = { m with left := v }) ∨ (f = 1 ∧ m' = { m with seed := v }) ∨ (f = 3 ∧ m' = { m with spot := v })) := by
  unfold msetO at e
  split at e
  · rename_i id hid
    split at e
    · rename_i c
      split at e <;> first | (cases e; done) | (simp only [Option.some.injEq] at e; subst e; exact ⟨id, _, hid, c.1, c.2, rfl, by simp⟩)
    · cases e
  · cases e
variable {ev : Expr} {cv : Env → M OV}
theorem ps_mset (hu : X.A.units + 200 < cLine) (hN : X.N[i]? = some x) (hv : Vis X.env.scope x) (hd : (x == ("__debug__" : Str)) = false) (hcd : (x == ("__classdict__" : Str)) = false) (he : PE X ev (TV W xc X b E cv)) (hs : swapsWith ev (some (.Subscript (.Name x p1) (.Constant (.str (mKey f)) j p2) tp)) pos.line X.env = pure false) :
    PS X (.Assign [.Subscript (.Name x p1) (.Constant (.str (mKey f)) j p2) tp] ev pos) (TSt W xc X b E fun ρ => M.bind (M.bind (cv ρ) fun x => ofO (datO x)) fun d => msetM ρ i f d) :=
  ps_weak (L2.ps_dput (by omega) (pe_var (pos := p1) hN hv hd hcd) (pe_str (x := mKey f) (j := j) (pos := p2)) he hs) fun T σ H ⟨g, ρ, m, fs, p⟩ => by
    dsimp only at p
    rw [bind_assoc] at p
    refine ⟨g, ρ, m, fs, (PostS.expr fs p).mono fun v H1 ⟨g1, m1, a, fs1, e1, r1, p1⟩ => ?_⟩
    obtain ⟨d, ed, p1⟩ := p1.bofO
    have rd := dat_rep r1 ed
    have p1 : PostS W xc X b g1 T E (match msetO ρ i f d m1 with
      | some m' => .ok (.nx ρ) m'
      | none => .bad) := p1
    cases e : msetO ρ i f d m1 with
    | none => rw [e] at p1; exact p1.elim
    | some m2 =>
      rw [e] at p1
      obtain ⟨id, w, h1, h2, h3, rfl, h4⟩ := msetO_some e
      simp only [RepD] at rd
      subst rd
      obtain ⟨s1, s2⟩ := fs1.mref h1 h2 h3
      obtain ⟨ca, k1, k2⟩ := fs1.hs.mst s2
      have z4 : (ms4 m1 ca).length < sizeLine := by
        show 4 < sizeLine
        rw [sizeLine_eq]; decide
      refine ⟨.ref g1.μ, slot_some s1, ?_⟩
      rcases h4 with ⟨rfl, rfl⟩ | ⟨rfl, rfl⟩ | ⟨rfl, rfl⟩
      · exact ⟨g1.μ, _, rfl, DPut.k (k := .inr "left") k1 z4, p1 σ g1 _ (fs1.mchg (m' := { m1 with left := w }) s2 k2 rfl) (SubF.refl g1)⟩
      · exact ⟨g1.μ, _, rfl, DPut.k (k := .inr "seed") k1 z4, p1 σ g1 _ (fs1.mchg (m' := { m1 with seed := w }) s2 k2 rfl) (SubF.refl g1)⟩
      · exact ⟨g1.μ, _, rfl, DPut.k (k := .inr "spot") k1 z4, p1 σ g1 _ (fs1.mchg (m' := { m1 with spot := w }) s2 k2 rfl) (SubF.refl g1)⟩
variable {e1 e2 e3 e4 : Expr} {c1 c2 c3 c4 : Env → M OV} {k1 k2 k3 k4 dp q1 q2 q3 q4 : Pos} {j1 j2 j3 j4 : Nat}
theorem RepD.ex {g1 g2 : G} {H1 H2 : Hp} {d : D} {v : V} (e : Ext g1 H1 g2 H2) (r : RepD W g1.F g1.μ g1.mid d v) : RepD W g2.F g2.μ g2.mid d v := RepD.mono e.sub e.midw d v r
/-- a new state of draws, returned -/
theorem FS.mnew (fs : FS W X b g ρ m σ H) {p0 : Addr} {ca : Addr} {l s p : Int} {ns : List Int} (hb : b.2 p0 = none) (hp : H p0 = some (.dK [])) (hF : g.F p0 = none) (hc : g.F ca = some (.lst (ns.map V.int))) :
    ∃ g', ExtF b.1 b.2 g' (upd H p0 (.dK (ms4 ⟨m.id + 1, l, s, ns, p⟩ ca))) ∧ HpS W g' ⟨m.id + 1, l, s, ns, p⟩ (upd H p0 (.dK (ms4 ⟨m.id + 1, l, s, ns, p⟩ ca))) ∧ RepD W g'.F g'.μ g'.mid (.st (m.id + 1)) (.ref p0) := by
  have em := fs.hs.mid
  refine ⟨{ g with mid := g.mid + 1, μ := p0 }, ⟨fs.ext.sub, fs.ext.new, fun a o e nm ht => ?_, fun a e => ?_, .inr ⟨?_, hb⟩⟩, ⟨fun a o e => ?_, fun a z => ?_, ?_, fun _ => ⟨ca, upd_same .., hc⟩, tab_upd fs.hs.tabs (fun u hu => ?_), fs.hs.nt⟩, ?_⟩
  · have ne : a ≠ p0 := fun z => by rw [z, hb] at e; cases e
    rw [upd_ne ne]
    exact fs.ext.keep a o e nm ht
  · by_cases z : a = p0
    · rw [z, upd_same] at e; cases e
    · rw [upd_ne z] at e
      exact fs.ext.dom a e
  · rcases fs.ext.mid with ⟨z, _⟩ | ⟨z, _⟩
    · show b.1.mid < g.mid + 1; omega
    · show b.1.mid < g.mid + 1; omega
  · have ne : a ≠ p0 := fun z => by
      have e : g.F a = some o := e
      rw [z, hF] at e; cases e
    rw [upd_ne ne]
    exact fs.hs.sub a o e
  · rw [z.2]; exact hF
  · show m.id + 1 = g.mid + 1; rw [em]
  · rw [hp] at hu
    cases hu
    exact .inr ⟨_, rfl⟩
  · simp only [RepD]
    exact ⟨by omega, by rw [em]; exact Nat.le_refl _, p0, rfl, fun _ => rfl⟩
theorem FS.mnew_fin (fs : FS W X b g ρ m σ H) {p0 : Addr} {d1 d2 d3 d4 : D} {v1 v2 v3 v4 : V} (hb : b.2 p0 = none) (hp : H p0 = some (.dK [])) (hF : g.F p0 = none) (r1 : RepD W g.F g.μ g.mid d1 v1) (r2 : RepD W g.F g.μ g.mid d2 v2) (r3 : RepD W g.F g.μ g.mid d3 v3)
    (r4 : RepD W g.F g.μ g.mid d4 v4) (pz : PostS W xc X b g T E (mnewM d1 d2 d3 d4 m)) : T.rt (.ref p0) (upd H p0 (.dK (mergeK [] [(.inr "left", v1), (.inr "seed", v2), (.inr "cells", v3), (.inr "spot", v4)]))) := by
  unfold mnewM at pz
  split at pz
  · rename_i l s cs p
    split at pz
    · rename_i ns ens
      simp only [RepD] at r1 r2 r3 r4
      subst r1 r2 r4
      obtain ⟨ca, vs, rfl, f1, f2⟩ := r3
      have ev := intsOf_rep ens f2
      subst ev
      obtain ⟨g5, z1, z2, z3⟩ := fs.mnew (l := l) (s := s) (p := p) hb hp hF f1
      exact pz (.ref p0) g5 _ z1 z2 z3
    · exact pz.elim
  · exact pz.elim
theorem ps_mnew (he1 : PE X e1 (TV W xc X b E c1)) (he2 : PE X e2 (TV W xc X b E c2)) (he3 : PE X e3 (TV W xc X b E c3)) (he4 : PE X e4 (TV W xc X b E c4)) :
    PS X (.Return (some (.Dict [some (.Constant (.str "left") j1 q1), some (.Constant (.str "seed") j2 q2), some (.Constant (.str "cells") j3 q3), some (.Constant (.str "spot") j4 q4)] [e1, e2, e3, e4] dp)) pos)
      (TSt W xc X b E fun ρ => M.bind (M.bind (c1 (ρ.map frzS)) fun x => ofO (datO x)) fun x => M.bind (M.bind (c2 (ρ.map frzS)) fun x => ofO (datO x)) fun y => M.bind (M.bind (c3 (ρ.map frzS)) fun x => ofO (datO x)) fun z => M.bind (M.bind (c4 (ρ.map frzS)) fun x => ofO (datO x)) fun w => mnewM x y z w) := by
  refine ps_weak (ps_ret (pe_disp (pps_cons (pe_str (x := "left") (j := j1) (pos := q1)) he1 (pps_cons (pe_str (x := "seed") (j := j2) (pos := q2)) he2 (pps_cons (pe_str (x := "cells") (j := j3) (pos := q3)) he3 (pps_cons (pe_str (x := "spot") (j := j4) (pos := q4)) he4 pps_nil)))) rfl rfl (by simp) (by show 4 ≤ 15; decide))) fun T σ H ⟨g, ρ, m, fs, pz⟩ => ?_
  obtain ⟨g', fs', _, sub⟩ := FS.frzP fs fz_all
  have p := pz.sub sub
  clear pz
  intro p0 hp
  obtain ⟨fs0, x0⟩ := fs'.loose (o := .dK []) hp
  have hb : b.2 p0 = none := fs'.ext.dom p0 hp
  have nF' : g'.F p0 = none := by
    cases q : g'.F p0 with
    | none => rfl
    | some o => have := fs'.hs.sub p0 o q; rw [hp] at this; cases this
  have nmu : ¬ g'.mu p0 := fun z => by
    obtain ⟨ca, m1, _⟩ := fs'.hs.mst z.1
    rw [← z.2, hp] at m1
    cases m1
  dsimp only at p
  rw [bind_assoc] at p
  refine ⟨g', _, m, fs0, (PostS.expr fs0 p).mono fun v1 H1 ⟨g1, m1, a1, fs1, x1, u1, w1⟩ => ?_⟩
  obtain ⟨d1, y1, p1⟩ := w1.bofO
  have s1 := dat_rep u1 y1
  clear u1 w1
  rw [bind_assoc] at p1
  refine ⟨g1, _, m1, fs1, (PostS.expr fs1 p1).mono fun v2 H2 ⟨g2, m2, a2, fs2, x2, u2, w2⟩ => ?_⟩
  obtain ⟨d2, y2, p2⟩ := w2.bofO
  have s2 := dat_rep u2 y2
  clear u2 w2
  rw [bind_assoc] at p2
  refine ⟨g2, _, m2, fs2, (PostS.expr fs2 p2).mono fun v3 H3 ⟨g3, m3, a3, fs3, x3, u3, w3⟩ => ?_⟩
  obtain ⟨d3, y3, p3⟩ := w3.bofO
  have s3 := dat_rep u3 y3
  clear u3 w3
  rw [bind_assoc] at p3
  refine ⟨g3, _, m3, fs3, (PostS.expr fs3 p3).mono fun v4 H4 ⟨g4, m4, a4, fs4, x4, u4, w4⟩ => ?_⟩
  obtain ⟨d4, y4, p4⟩ := w4.bofO
  have s4 := dat_rep u4 y4
  clear u4 w4
  have x14 := x2.trans (x3.trans x4)
  have x04 := x1.trans x14
  have r1 := s1.ex x14
  have r2 := s2.ex (x3.trans x4)
  have r3 := s3.ex x4
  have r4 := s4
  clear s1 s2 s3 s4 p1 p2 p3 p
  have hp4 : H4 p0 = some (.dK []) := x04.keep p0 _ (upd_same ..) nmu (fun ps => by simp)
  have nF : g4.F p0 = none := by
    cases q : g4.F p0 with
    | none => rfl
    | some o =>
      rcases x04.new p0 o q with z | z
      · rw [nF'] at z; cases z
      · rw [upd_same] at z; cases z
  refine ⟨hp4, [(.inr "left", v1), (.inr "seed", v2), (.inr "cells", v3), (.inr "spot", v4)], rfl, by show 4 ≤ 15; decide, ?_⟩
  exact fs4.mnew_fin hb hp4 nF r1 r2 r3 r4 p4
end
end Di
end
section
set_option Elab.async false
set_option linter.all false
set_option maxRecDepth 100000
set_option maxHeartbeats 2000000
/-! Di.Fr: what is static of a frame; looks at expressions. -/
namespace Di
open PySem PySem.Spec PyProof.Rows L2 LamX NdefX
/-! ### looks -/
def notStar : Expr → Bool
  | .Starred _ _ => false
  | _ => true
theorem star_one {e : Expr} {es : List Expr} {env : PySem.Env} (h : notStar e = true) : starEach (e :: es) env = (false, eval e env) :: starEach es env := by
  cases e <;> first | rfl | cases h
theorem star_all {env : PySem.Env} {pos : Pos} : ∀ {es : List Expr}, es.all notStar = true → (backTo pos (starEach es env)).any (·.1) = false
  | [], _ => rfl
  | e :: r, h => by
    simp only [List.all_cons, Bool.and_eq_true] at h
    rw [star_one h.1]
    have ih := star_all (env := env) (pos := pos) h.2
    unfold backTo at ih ⊢
    rw [List.map_cons, List.any_cons, ih] <;> rfl
theorem asg_one {e : Expr} {es : List Expr} {env : PySem.Env} (h : notStar e = true) : assignEach (e :: es) env = (false, assign e env) :: assignEach es env := by
  cases e <;> first | rfl | cases h
theorem asg_len {env : PySem.Env} : ∀ {es : List Expr}, (assignEach es env).length = es.length
  | [] => rfl
  | e :: r => by
    have ih := asg_len (env := env) (es := r)
    cases e <;> (show (_ :: assignEach r env).length = _; rw [List.length_cons, List.length_cons, ih])
theorem asg_none {env : PySem.Env} : ∀ {es : List Expr}, es.all notStar = true → (assignEach es env).findIdx? (·.1) = none
  | [], _ => rfl
  | e :: r, h => by
    simp only [List.all_cons, Bool.and_eq_true] at h
    rw [asg_one h.1, List.findIdx?_cons, asg_none h.2] <;> rfl
def notComp : Expr → Bool
  | .ListComp .. => false
  | .SetComp .. => false
  | .DictComp .. => false
  | _ => true
theorem swaps_no {e : Expr} {t : Option Expr} {l : Nat} {env : PySem.Env} (h : notComp e = true) : swapsWith e t l env = pure false := by
  cases e <;> first | rfl | cases h
def plainT : Expr → Bool
  | .UnaryOp .Not _ _ => false
  | .BoolOp .. => false
  | .IfExp .. => false
  | .Compare .. => false
  | _ => true
theorem true_plain {e : Expr} {env : PySem.Env} (h : plainT e = true) : ∀ whole, isTrue e env whole = (do let v ← whole; standAt e.pos; holding [v] (truthy v)) := by
  intro whole
  cases e with
  | UnaryOp o x p => cases o <;> first | rfl | cases h
  | BoolOp => cases h
  | IfExp => cases h
  | Compare => cases h
  | _ => rfl
def notSlice : Expr → Bool
  | .Slice .. => false
  | _ => true
theorem plain_ix {e : Expr} (h : notSlice e = true) : PlainIx e := by
  intro o i
  cases e <;> first | rfl | cases h
def notSuper : Expr → Bool
  | .Call .. => false
  | _ => true
theorem base_plain {o : Expr} {attr : Str} {env : PySem.Env} {whole : Sem Value} (h : notSuper o = true) : attributeBase o attr env whole = whole := by
  cases o <;> first | rfl | cases h
def notSetD : Expr → Bool
  | .Set .. => false
  | _ => true
theorem mark_no {o : CmpOp} {e : Expr} (h : notSetD e = true) : behindInMarks o e = false := by
  cases e <;> first | rfl | cases h
theorem mark_no2 {o o' : CmpOp} {e e' : Expr} (h : notSetD e' = true) : lastMarks [o, o'] [e, e'] = false := mark_no h
theorem fold_no {e : Expr} {env : PySem.Env} (h : notSetD e = true) : ∀ x, foldedSetIterable e env x = pure x := by
  intro x
  cases e <;> first | rfl | cases h
/-! ### destructors -/
def xName : Expr → Option (Str × Pos)
  | .Name x p => some (x, p)
  | _ => none
theorem xName_eq {e : Expr} {x : Str} {p : Pos} (h : xName e = some (x, p)) : e = .Name x p := by
  cases e <;> simp only [xName, Option.some.injEq, Prod.mk.injEq, reduceCtorEq] at h <;> obtain ⟨rfl, rfl⟩ := h <;> rfl
def xConst : Expr → Option (Const × Nat × Pos)
  | .Constant c k p => some (c, k, p)
  | _ => none
theorem xConst_eq {e : Expr} {c : Const} {k : Nat} {p : Pos} (h : xConst e = some (c, k, p)) : e = .Constant c k p := by
  cases e <;> simp only [xConst, Option.some.injEq, Prod.mk.injEq, reduceCtorEq] at h <;> obtain ⟨rfl, rfl, rfl⟩ := h <;> rfl
def xTup : Expr → Option (List Expr × Nat × Pos)
  | .Tuple c k p => some (c, k, p)
  | _ => none
theorem xTup_eq {e : Expr} {c : List Expr} {k : Nat} {p : Pos} (h : xTup e = some (c, k, p)) : e = .Tuple c k p := by
  cases e <;> simp only [xTup, Option.some.injEq, Prod.mk.injEq, reduceCtorEq] at h <;> obtain ⟨rfl, rfl, rfl⟩ := h <;> rfl
def xList : Expr → Option (List Expr × Pos)
  | .List c p => some (c, p)
  | _ => none
theorem xList_eq {e : Expr} {c : List Expr} {p : Pos} (h : xList e = some (c, p)) : e = .List c p := by
  cases e <;> simp only [xList, Option.some.injEq, Prod.mk.injEq, reduceCtorEq] at h <;> obtain ⟨rfl, rfl⟩ := h <;> rfl
def xDict0 : Expr → Option Pos
  | .Dict [] [] p => some p
  | _ => none
theorem xDict0_eq {e : Expr} {p : Pos} (h : xDict0 e = some p) : e = .Dict [] [] p := by
  unfold xDict0 at h
  split at h
  · cases h; rfl
  · cases h
def xBin : Expr → Option (Expr × Operator × Expr × Pos)
  | .BinOp a o b p => some (a, o, b, p)
  | _ => none
theorem xBin_eq {e : Expr} {a b : Expr} {o : Operator} {p : Pos} (h : xBin e = some (a, o, b, p)) : e = .BinOp a o b p := by
  cases e <;> simp only [xBin, Option.some.injEq, Prod.mk.injEq, reduceCtorEq] at h <;> obtain ⟨rfl, rfl, rfl, rfl⟩ := h <;> rfl
def xUn : Expr → Option (UnaryOp × Expr × Pos)
  | .UnaryOp o b p => some (o, b, p)
  | _ => none
theorem xUn_eq {e : Expr} {b : Expr} {o : UnaryOp} {p : Pos} (h : xUn e = some (o, b, p)) : e = .UnaryOp o b p := by
  cases e <;> simp only [xUn, Option.some.injEq, Prod.mk.injEq, reduceCtorEq] at h <;> obtain ⟨rfl, rfl, rfl⟩ := h <;> rfl
def xCmp1 : Expr → Option (Expr × CmpOp × Expr × Pos)
  | .Compare a [o] [b] p => some (a, o, b, p)
  | _ => none
theorem xCmp1_eq {e : Expr} {a b : Expr} {o : CmpOp} {p : Pos} (h : xCmp1 e = some (a, o, b, p)) : e = .Compare a [o] [b] p := by
  unfold xCmp1 at h
  split at h
  · cases h; rfl
  · cases h
def xCmp2 : Expr → Option (Expr × CmpOp × CmpOp × Expr × Expr × Pos)
  | .Compare a [o, o'] [b, c] p => some (a, o, o', b, c, p)
  | _ => none
theorem xCmp2_eq {e : Expr} {a b c : Expr} {o o' : CmpOp} {p : Pos} (h : xCmp2 e = some (a, o, o', b, c, p)) : e = .Compare a [o, o'] [b, c] p := by
  unfold xCmp2 at h
  split at h
  · cases h; rfl
  · cases h
/-- x op y op rest: the first, the others as one -/
def xBo : Expr → Option (PySem.BoolOp × Expr × Expr × List Expr × Pos)
  | .BoolOp o (x :: y :: r) p => some (o, x, y, r, p)
  | _ => none
theorem xBo_eq {e : Expr} {o : PySem.BoolOp} {x y : Expr} {r : List Expr} {p : Pos} (h : xBo e = some (o, x, y, r, p)) : e = .BoolOp o (x :: y :: r) p := by
  unfold xBo at h
  split at h
  · cases h; rfl
  · cases h
/-- what stands behind the first -/
def restB (o : PySem.BoolOp) (y : Expr) (r : List Expr) (p : Pos) : Expr := match r with
  | [] => y
  | z :: zs => .BoolOp o (y :: z :: zs) p
def xIf : Expr → Option (Expr × Expr × Expr × Pos)
  | .IfExp a b c p => some (a, b, c, p)
  | _ => none
theorem xIf_eq {e a b c : Expr} {p : Pos} (h : xIf e = some (a, b, c, p)) : e = .IfExp a b c p := by
  cases e <;> simp only [xIf, Option.some.injEq, Prod.mk.injEq, reduceCtorEq] at h <;> obtain ⟨rfl, rfl, rfl, rfl⟩ := h <;> rfl
def xSub : Expr → Option (Expr × Expr × Pos)
  | .Subscript a b p => some (a, b, p)
  | _ => none
theorem xSub_eq {e a b : Expr} {p : Pos} (h : xSub e = some (a, b, p)) : e = .Subscript a b p := by
  cases e <;> simp only [xSub, Option.some.injEq, Prod.mk.injEq, reduceCtorEq] at h <;> obtain ⟨rfl, rfl, rfl⟩ := h <;> rfl
def xSlice : Expr → Option (Option Expr × Option Expr × Pos)
  | .Slice a b none p => some (a, b, p)
  | _ => none
theorem xSlice_eq {e : Expr} {a b : Option Expr} {p : Pos} (h : xSlice e = some (a, b, p)) : e = .Slice a b none p := by
  unfold xSlice at h
  split at h
  · cases h; rfl
  · cases h
def xRev : Expr → Option (Nat × Pos × Pos × Pos)
  | .Slice none none (some (.UnaryOp .USub (.Constant (.int 1) k y1) y2)) y3 => some (k, y1, y2, y3)
  | _ => none
theorem xRev_eq {e : Expr} {k : Nat} {y1 y2 y3 : Pos} (h : xRev e = some (k, y1, y2, y3)) : e = .Slice none none (some (.UnaryOp .USub (.Constant (.int 1) k y1) y2)) y3 := by
  unfold xRev at h
  split at h
  · cases h; rfl
  · cases h
/-- m["field"] -/
def xFld : Expr → Option (Str × Pos × Str × Nat × Pos × Pos)
  | .Subscript (.Name x p1) (.Constant (.str k) j p2) p => some (x, p1, k, j, p2, p)
  | _ => none
theorem xFld_eq {e : Expr} {x k : Str} {p1 p2 p : Pos} {j : Nat} (h : xFld e = some (x, p1, k, j, p2, p)) : e = .Subscript (.Name x p1) (.Constant (.str k) j p2) p := by
  unfold xFld at h
  split at h
  · cases h; rfl
  · cases h
/-- f(es): a name called -/
def xCall : Expr → Option (Str × Pos × List Expr × Pos)
  | .Call (.Name x p) es [] pos => some (x, p, es, pos)
  | _ => none
theorem xCall_eq {e : Expr} {x : Str} {p pos : Pos} {es : List Expr} (h : xCall e = some (x, p, es, pos)) : e = .Call (.Name x p) es [] pos := by
  unfold xCall at h
  split at h
  · cases h; rfl
  · cases h
def xCallK : Expr → Option (Str × Pos × List Keyword × Pos)
  | .Call (.Name x p) [] kws pos => some (x, p, kws, pos)
  | _ => none
theorem xCallK_eq {e : Expr} {x : Str} {p pos : Pos} {kws : List Keyword} (h : xCallK e = some (x, p, kws, pos)) : e = .Call (.Name x p) [] kws pos := by
  unfold xCallK at h
  split at h
  · cases h; rfl
  · cases h
def xMeth : Expr → Option (Expr × Str × Pos × Expr × Pos)
  | .Call (.Attribute o m ap) [e] [] pos => some (o, m, ap, e, pos)
  | _ => none
theorem xMeth_eq {e o a : Expr} {m : Str} {ap pos : Pos} (h : xMeth e = some (o, m, ap, a, pos)) : e = .Call (.Attribute o m ap) [a] [] pos := by
  unfold xMeth at h
  split at h
  · cases h; rfl
  · cases h
def xLam : Expr → Option (Arguments × Expr × Scope × Pos)
  | .Lambda a b c p => some (a, b, c, p)
  | _ => none
theorem xLam_eq {e b : Expr} {a : Arguments} {c : Scope} {p : Pos} (h : xLam e = some (a, b, c, p)) : e = .Lambda a b c p := by
  cases e <;> simp only [xLam, Option.some.injEq, Prod.mk.injEq, reduceCtorEq] at h <;> obtain ⟨rfl, rfl, rfl, rfl⟩ := h <;> rfl
def xComp : Expr → Option (Expr × Expr × Expr × List Expr × Scope × Pos)
  | .ListComp elt [⟨tg, iter, ifs, 0⟩] sc pos => some (elt, tg, iter, ifs, sc, pos)
  | _ => none
theorem xComp_eq {e elt tg iter : Expr} {ifs : List Expr} {sc : Scope} {pos : Pos} (h : xComp e = some (elt, tg, iter, ifs, sc, pos)) : e = .ListComp elt [⟨tg, iter, ifs, 0⟩] sc pos := by
  unfold xComp at h
  split at h
  · cases h; rfl
  · cases h
end Di
end
section
set_option Elab.async false
set_option linter.all false
set_option maxRecDepth 100000
set_option maxHeartbeats 2000000
/-! Di.Fk: frames by their static part; single forms over it. -/
namespace Di
open PySem PySem.Spec PyProof.Rows L2 LamX NdefX
/-- what is static of a frame: its names, scope, qualified name, the cells that it may store, the names of its inner functions' code -/
structure Fr where
  N : List Str
  sc : Scope
  qual : Str
  own : Str → Bool
  lam : Option (Nat → Nat → Str)
/-- what a global name stands for: a function, a number or text, a class of exceptions -/
inductive Gk where
  | fn (f : Nat) | con (g : Nat) | exc (c : Nat) (f : Str)
  deriving DecidableEq
structure Tb where
  glob : List (Str × Gk)
  free : List Str
  kw : List (Str × List Str × Nat × List Nat)
structure FrOk (W : Wd) (C : Ct) (n : Nat) (fr : Fr) (X : Cx) : Prop where
  xw : XW W X
  xC : XC W C X
  rm : Rm n X.A
  N : X.N = fr.N
  sc : X.env.scope = fr.sc
  qual : X.env.qual = fr.qual
  nd : fr.N.Nodup
  own : ∀ x, fr.own x = true → fr.sc.names.lookup x = some .cell ∧ X.fn x = true ∧ ∃ c, X.env.cells.lookup x = some c
  tab : ∀ nm, fr.lam = some nm → ∃ c P, TabB X.base X.mg c P ∧ X.env.code = .ref c ∧ (P, nm) ∈ W.T ∧ ∀ p ∈ W.T, p.1 = P → p.2 = nm
/-- what the tables say is so -/
structure TbOk (W : Wd) (xc : Nat → Option XcA) (C : Ct) (tb : Tb) (fad : Nat → Addr) : Prop where
  fn : ∀ x f, tb.glob.lookup x = some (.fn f) → C.mg x = some (.ref (fad f)) ∧ PySem.W.keepIn W.K (.ref (fad f)) = true
  con : ∀ x g, tb.glob.lookup x = some (.con g) → ∃ u v d, C.mg x = some u ∧ RelV v u ∧ W.P.glob[g]? = some d ∧ ∀ F μ mid, RepD W F μ mid d v
  free : ∀ x, tb.free.contains x = true → C.mg x = none
/-! ### looks at names -/
def visB (sc : Scope) (x : Str) : Bool := match sc.names.lookup x with
  | some .local => true
  | some .cell => true
  | some .free => true
  | _ => false
theorem vis_of {sc : Scope} {x : Str} (h : visB sc x = true) : Vis sc x := by
  unfold visB at h
  unfold Vis
  split at h
  · exact .inl (by assumption)
  · exact .inr (.inl (by assumption))
  · exact .inr (.inr (by assumption))
  · cases h
def notDbg (x : Str) : Bool := !(x == ("__debug__" : Str)) && !(x == ("__classdict__" : Str))
def locB (fr : Fr) (i : Nat) (x : Str) : Bool := decide (fr.N[i]? = some x) && visB fr.sc x && notDbg x
def gloB (fr : Fr) (x : Str) : Bool := decide (fr.sc.names.lookup x = some .globalImplicit) && notDbg x
def ownB (fr : Fr) (x : Str) : Bool := decide (fr.sc.names.lookup x = some .local) || fr.own x
section
variable {W : Wd} {xc : Nat → Option XcA} {C : Ct} {n : Nat} {fr : Fr} {X : Cx} {tb : Tb} {fad : Nat → Addr} {g0 : G × Hp} {E : WX}
theorem dbg_of {x : Str} (h : notDbg x = true) : (x == ("__debug__" : Str)) = false ∧ (x == ("__classdict__" : Str)) = false := by
  unfold notDbg at h
  rw [Bool.and_eq_true, Bool.not_eq_true', Bool.not_eq_true'] at h
  exact h
theorem FrOk.loc (k : FrOk W C n fr X) {i : Nat} {x : Str} (h : locB fr i x = true) : X.N[i]? = some x ∧ Vis X.env.scope x ∧ (x == ("__debug__" : Str)) = false ∧ (x == ("__classdict__" : Str)) = false := by
  unfold locB at h
  rw [Bool.and_eq_true, Bool.and_eq_true, decide_eq_true_eq] at h
  exact ⟨by rw [k.N]; exact h.1.1, by rw [k.sc]; exact vis_of h.1.2, dbg_of h.2⟩
theorem FrOk.glo (k : FrOk W C n fr X) {x : Str} (h : gloB fr x = true) : Gl X x ∧ (x == ("__debug__" : Str)) = false := by
  unfold gloB at h
  rw [Bool.and_eq_true, decide_eq_true_eq] at h
  refine ⟨?_, (dbg_of h.2).1⟩
  show X.env.scope.names.lookup x = _
  rw [k.sc]
  exact h.1
theorem FrOk.ownX (k : FrOk W C n fr X) {x : Str} (h : ownB fr x = true) : Own X x := by
  unfold ownB at h
  rw [Bool.or_eq_true, decide_eq_true_eq] at h
  rcases h with h | h
  · exact .inl (by rw [k.sc]; exact h)
  · obtain ⟨h1, h2⟩ := k.own x h
    exact .inr ⟨by rw [k.sc]; exact h1, h2⟩
theorem FrOk.ndX (k : FrOk W C n fr X) : X.N.Nodup := by rw [k.N]; exact k.nd
theorem TbOk.freeX (t : TbOk W xc C tb fad) (k : FrOk W C n fr X) {x : Str} (h : tb.free.contains x = true) : X.mg x = none := by
  rw [k.xC.mg]; exact t.free x h
/-! ### constants -/
def constB : D → Const → Bool
  | .non, .none => true
  | .bl b, .bool c => b == c
  | .int i, .int j => decide (i = j)
  | .str x, .str y => decide (x = y)
  | _, _ => false
theorem pe_dk {d : D} {c : Const} {j : Nat} {pos : Pos} (h : constB d c = true) : PE X (.Constant c j pos) (TV W xc X g0 E fun _ => ret1 (.v (.d d))) := by
  unfold constB at h
  split at h
  · exact pe_dconst pe_non fun _ _ _ => by simp only [RepD]
  · rw [beq_iff_eq] at h; subst h
    exact pe_dconst pe_bl fun _ _ _ => by simp only [RepD]
  · rw [decide_eq_true_eq] at h; subst h
    exact pe_dconst pe_int fun _ _ _ => by simp only [RepD]
  · rw [decide_eq_true_eq] at h; subst h
    exact pe_dconst pe_str fun _ _ _ => by simp only [RepD]
  · cases h
theorem pe_dglo (t : TbOk W xc C tb fad) (k : FrOk W C n fr X) {x : Str} {g : Nat} {pos : Pos} (h : gloB fr x = true) (hg : tb.glob.lookup x = some (.con g)) : PE X (.Name x pos) (TV W xc X g0 E fun _ => ofO (gloO W.P g)) := by
  obtain ⟨u, v, d, h1, h2, h3, h4⟩ := t.con x g hg
  obtain ⟨k1, k2⟩ := k.glo h
  have e : (fun _ : Env => (ofO (gloO W.P g) : M OV)) = fun _ => ret1 (.v (.d d)) := by
    unfold gloO
    rw [h3] <;> rfl
  rw [e]
  exact pe_dconst (pe_glob k1 (by rw [k.xC.mg]; exact h1) h2 k2) h4
/-! ### and, or -/
theorem pe_rest {o : PySem.BoolOp} {y : Expr} {r : List Expr} {p : Pos} {t : TE} (h : PE X (restB o y r p) t) : PE X (.BoolOp o (y :: r) p) t := by
  cases r with
  | nil => exact ⟨fun pins s σ H Q I q => h.run pins s σ H Q I q⟩
  | cons z zs => exact h
theorem pw_bo {o : PySem.BoolOp} {vs : List Expr} {p : Pos} {t : TT} (h : PT X (.BoolOp o vs p) t) : PW X (.BoolOp o vs p) t := ⟨fun _ pins s σ H Q I q => h.run pins s σ H Q I q⟩
theorem pw_rest {o : PySem.BoolOp} {y : Expr} {r : List Expr} {p : Pos} {t : TT} (h : PT X (restB o y r p) t) : PW X (.BoolOp o (y :: r) p) t := by
  cases r with
  | nil => cases o with
    | And => exact pw_and1 h
    | Or => exact pw_or1 h
  | cons z zs => exact pw_bo h
/-! ### a comprehension's block -/
def relS (sc out : Scope) : Scope := { sc with names := sc.names.map fun (n, k) => if (k == .free && out.kind == .function && out.names.lookup n == some .cell) then (n, .cell) else (n, k) }
def Fr.blk (fr : Fr) (sc : Scope) : Fr := { N := fr.N, sc := relS sc fr.sc, qual := fr.qual, own := fun x => sc.names.lookup x == some .cell, lam := fr.lam }
theorem look_cell {f : Str × NameKind → Bool} : ∀ {names : List (Str × NameKind)} {x : Str}, (∀ p, f p = true → p.2 = .free) → names.lookup x = some .cell →
    (names.map fun p => if f p then (p.1, NameKind.cell) else p).lookup x = some .cell
  | [], x, _, h => by simp at h
  | (a, k) :: r, x, hf, h => by
    rw [List.map_cons, List.lookup_cons]
    rw [List.lookup_cons] at h
    by_cases hp : f (a, k) = true
    · have := hf _ hp
      rw [if_pos hp]
      show (match x == a with | true => some NameKind.cell | false => _) = _
      cases e : x == a with
      | true => rfl
      | false => rw [e] at h; exact look_cell hf h
    · rw [if_neg hp]
      show (match x == a with | true => some k | false => _) = _
      cases e : x == a with
      | true => rw [e] at h; exact h
      | false => rw [e] at h; exact look_cell hf h
theorem FrOk.blk (k : FrOk W C n fr X) (sc : Scope) (s : Shared) (HD : Hp) (fp : List Addr) : FrOk W C n (fr.blk sc) (blkCx X sc s HD fp) := by
  refine ⟨⟨k.xw.hK, k.xw.hc, k.xw.hu, k.xw.hg⟩, ⟨k.xC.prog, k.xC.w, k.xC.mg, k.xC.base, k.xC.K⟩, k.rm, k.N, ?_, k.qual, k.nd, fun x hx => ?_, k.tab⟩
  · show relabel sc X.env = relS sc fr.sc
    unfold relabel relS Env.kindOf
    rw [k.sc]
  · have hx : (sc.names.lookup x == some NameKind.cell) = true := hx
    rw [beq_iff_eq] at hx
    refine ⟨?_, by show (sc.names.lookup x == some NameKind.cell) = true; rw [hx]; rfl, ?_⟩
    · exact look_cell (f := fun p => p.2 == .free && fr.sc.kind == .function && fr.sc.names.lookup p.1 == some .cell) (fun p hp => by
        simp only [Bool.and_eq_true, beq_iff_eq] at hp
        exact hp.1.1) hx
    · show ∃ c, (cellsFrom (s.heap.objs.size + 1) sc.names (cloFrom X.env.cells sc.names [])).lookup x = some c
      exact Option.isSome_iff_exists.mp (PySem.W.cellsFrom_some sc.names _ _ (.inl hx))
def ownP (fr : Fr) (own : List Nat) : List (Str × Nat) := own.filterMap fun i => (fr.N[i]?).map fun x => (x, i)
end
end Di
end
section
set_option Elab.async false
set_option linter.all false
set_option maxRecDepth 100000
set_option maxHeartbeats 4000000
/-! Di.Chk: expressions of the text against the language's: a look, and that it is sound. -/
namespace Di
open PySem PySem.Spec PyProof.Rows L2 LamX NdefX
/-! ### names of builtins -/
def biNm : Bi → Option Str
  | .len => some "len" | .tuple => some "tuple" | .list => some "list" | .max => some "max" | .min => some "min"
  | .abs => some "abs" | .int => some "int" | .str => some "str" | .repr => some "repr" | .all => some "all" | .any => some "any"
  | _ => none
theorem biNm_ok {b : Bi} {x : Str} (h : biNm b = some x) : ∃ f, b.fn = some f ∧ bootBuiltins x = some f ∧ x ≠ "__name__" := by
  cases b <;> simp only [biNm, Option.some.injEq, reduceCtorEq] at h <;> subst h <;> exact ⟨_, rfl, by decide +kernel, by decide⟩
def tyNm : Nat → Option Str
  | 0 => some "int" | 1 => some "bool" | 2 => some "tuple" | 3 => some "str" | 4 => some "list" | _ => none
theorem tyNm_ok {n : Nat} {x : Str} (h : tyNm n = some x) : ∃ T, tyN n = some T ∧ bootBuiltins x = some (.type T) ∧ x ≠ "__name__" := by
  unfold tyNm at h
  split at h <;> first | (cases h; done) | (simp only [Option.some.injEq] at h; subst h; exact ⟨_, rfl, by decide +kernel, by decide⟩)
theorem boot_isinst : bootBuiltins "isinstance" = some (.builtin "isinstance") := by decide +kernel
/-! ### two texts are one -/
def eqL {α : Type} (f : α → α → Bool) : List α → List α → Bool
  | [], [] => true
  | a :: r, b :: t => f a b && eqL f r t
  | _, _ => false
theorem eqL_ok {α : Type} {f : α → α → Bool} (hf : ∀ a b, f a b = true → a = b) : ∀ {x y : List α}, eqL f x y = true → x = y
  | [], [], _ => rfl
  | [], _ :: _, h => by cases h
  | _ :: _, [], h => by cases h
  | a :: r, b :: t, h => by
    simp only [eqL, Bool.and_eq_true] at h
    rw [hf _ _ h.1, eqL_ok hf h.2]
def eqOp {α : Type} (f : α → α → Bool) : Option α → Option α → Bool
  | none, none => true
  | some a, some b => f a b
  | _, _ => false
theorem eqOp_ok {α : Type} {f : α → α → Bool} (hf : ∀ a b, f a b = true → a = b) : ∀ {x y : Option α}, eqOp f x y = true → x = y
  | none, none, _ => rfl
  | none, some _, h => by cases h
  | some _, none, h => by cases h
  | some a, some b, h => by rw [hf a b h]
def eqKw (f : Expr → Expr → Bool) (a b : Keyword) : Bool := decide (a.arg = b.arg) && f a.value b.value && decide (a.pos = b.pos)
theorem eqKw_ok {f : Expr → Expr → Bool} (hf : ∀ a b, f a b = true → a = b) (a b : Keyword) (h : eqKw f a b = true) : a = b := by
  obtain ⟨a1, a2, a3⟩ := a
  obtain ⟨b1, b2, b3⟩ := b
  simp only [eqKw, Bool.and_eq_true, decide_eq_true_eq] at h
  rw [h.1.1, hf _ _ h.1.2, h.2]
def eqGe (f : Expr → Expr → Bool) (a b : Comprehension) : Bool := f a.target b.target && f a.iter b.iter && eqL f a.ifs b.ifs && decide (a.is_async = b.is_async)
theorem eqGe_ok {f : Expr → Expr → Bool} (hf : ∀ a b, f a b = true → a = b) (a b : Comprehension) (h : eqGe f a b = true) : a = b := by
  obtain ⟨a1, a2, a3, a4⟩ := a
  obtain ⟨b1, b2, b3, b4⟩ := b
  simp only [eqGe, Bool.and_eq_true, decide_eq_true_eq] at h
  rw [hf _ _ h.1.1.1, hf _ _ h.1.1.2, eqL_ok hf h.1.2, h.2]
def eqE : Nat → Expr → Expr → Bool
  | 0 => fun _ _ => false
  | n + 1 => fun a b => match a, b with
    | .BoolOp o v p, .BoolOp o' v' p' => decide (o = o') && eqL (eqE n) v v' && decide (p = p')
    | .BinOp a o b p, .BinOp a' o' b' p' => decide (o = o') && eqE n a a' && eqE n b b' && decide (p = p')
    | .UnaryOp o a p, .UnaryOp o' a' p' => decide (o = o') && eqE n a a' && decide (p = p')
    | .IfExp a b c p, .IfExp a' b' c' p' => eqE n a a' && eqE n b b' && eqE n c c' && decide (p = p')
    | .ListComp a b c p, .ListComp a' b' c' p' => eqE n a a' && eqL (eqGe (eqE n)) b b' && decide (c = c') && decide (p = p')
    | .Compare a b c p, .Compare a' b' c' p' => eqE n a a' && decide (b = b') && eqL (eqE n) c c' && decide (p = p')
    | .Call a b c p, .Call a' b' c' p' => eqE n a a' && eqL (eqE n) b b' && eqL (eqKw (eqE n)) c c' && decide (p = p')
    | .Constant a b p, .Constant a' b' p' => decide (a = a') && decide (b = b') && decide (p = p')
    | .Attribute a b p, .Attribute a' b' p' => eqE n a a' && decide (b = b') && decide (p = p')
    | .Subscript a b p, .Subscript a' b' p' => eqE n a a' && eqE n b b' && decide (p = p')
    | .Name a p, .Name a' p' => decide (a = a') && decide (p = p')
    | .List a p, .List a' p' => eqL (eqE n) a a' && decide (p = p')
    | .Tuple a k p, .Tuple a' k' p' => eqL (eqE n) a a' && decide (k = k') && decide (p = p')
    | .Slice a b c p, .Slice a' b' c' p' => eqOp (eqE n) a a' && eqOp (eqE n) b b' && eqOp (eqE n) c c' && decide (p = p')
    | _, _ => false
theorem eqE_ok : ∀ (n : Nat) (a b : Expr), eqE n a b = true → a = b := by
  intro n
  induction n with
  | zero => intro a b h; cases h
  | succ n ih =>
    intro a b h
    unfold eqE at h
    split at h <;> first
      | (cases h; done)
      | (simp only [Bool.and_eq_true, decide_eq_true_eq] at h
         first
           | (obtain ⟨⟨h1, h2⟩, h3⟩ := h; first | (rw [h1, eqL_ok ih h2, h3]; done) | (rw [h1, ih _ _ h2, h3]; done) | (rw [h1, h2, h3]; done) | (rw [ih _ _ h1, h2, h3]; done) | (rw [ih _ _ h1, ih _ _ h2, h3]; done) | (rw [eqL_ok ih h1, h2, h3]; done))
           | (obtain ⟨⟨⟨h1, h2⟩, h3⟩, h4⟩ := h; first | (rw [h1, ih _ _ h2, ih _ _ h3, h4]; done) | (rw [ih _ _ h1, ih _ _ h2, ih _ _ h3, h4]; done) | (rw [ih _ _ h1, eqL_ok (eqGe_ok ih) h2, h3, h4]; done) | (rw [ih _ _ h1, h2, eqL_ok ih h3, h4]; done) | (rw [ih _ _ h1, eqL_ok ih h2, eqL_ok (eqKw_ok ih) h3, h4]; done) | (rw [eqOp_ok ih h1, eqOp_ok ih h2, eqOp_ok ih h3, h4]; done))
           | (obtain ⟨h1, h2⟩ := h; first | (rw [h1, h2]; done) | (rw [eqL_ok ih h1, h2]; done)))
def noAnn : Option Expr → Bool
  | none => true
  | _ => false
def eqArg (a b : Arg) : Bool := decide (a.arg = b.arg) && noAnn a.annotation && noAnn b.annotation && decide (a.pos = b.pos)
theorem eqArg_ok (a b : Arg) (h : eqArg a b = true) : a = b := by
  obtain ⟨a1, a2, a3⟩ := a
  obtain ⟨b1, b2, b3⟩ := b
  simp only [eqArg, Bool.and_eq_true, decide_eq_true_eq] at h
  obtain ⟨⟨⟨h1, h2⟩, h3⟩, h4⟩ := h
  have n : ∀ {z : Option Expr}, noAnn z = true → z = none := fun {z} h => by
    cases z with
    | none => rfl
    | some _ => cases h
  rw [h1, h4, n h2, n h3]
def noArg : Option Arg → Bool
  | none => true
  | _ => false
def eqArgs (a b : Arguments) : Bool := eqL eqArg a.posonlyargs b.posonlyargs && eqL eqArg a.args b.args && noArg a.vararg && noArg b.vararg && a.kwonlyargs.isEmpty && b.kwonlyargs.isEmpty && a.kw_defaults.isEmpty && b.kw_defaults.isEmpty &&
  noArg a.kwarg && noArg b.kwarg && eqL (eqE 20) a.defaults b.defaults
theorem noArg_eq {a : Option Arg} (h : noArg a = true) : a = none := by
  cases a with
  | none => rfl
  | some _ => cases h
theorem eqArgs_ok {a b : Arguments} (h : eqArgs a b = true) : a = b := by
  obtain ⟨a1, a2, a3, a4, a5, a6, a7⟩ := a
  obtain ⟨b1, b2, b3, b4, b5, b6, b7⟩ := b
  simp only [eqArgs, Bool.and_eq_true, List.isEmpty_iff] at h
  obtain ⟨⟨⟨⟨⟨⟨⟨⟨⟨⟨h1, h2⟩, h3⟩, h4⟩, h5⟩, h6⟩, h7⟩, h8⟩, h9⟩, h10⟩, h11⟩ := h
  rw [eqL_ok eqArg_ok h1, eqL_ok eqArg_ok h2, eqL_ok (eqE_ok 20) h11, noArg_eq h3, noArg_eq h4, h5, h6, h7, h8, noArg_eq h9, noArg_eq h10]
/-! ### a lambda -/
def cvB : Expr → V → Bool
  | .Constant .none _ _, .non => true
  | .Constant (.bool b) _ _, .bl c => b == c
  | .Constant (.int i) _ _, .int j => decide (i = j)
  | .Constant (.str i) _ _, .str j => decide (i = j)
  | _, _ => false
theorem cvB_ok {X : Cx} {e : Expr} {v : V} (h : cvB e v = true) : PE X e (tC v) := by
  unfold cvB at h
  split at h
  · exact pe_non
  · rw [beq_iff_eq] at h; subst h; exact pe_bl
  · rw [decide_eq_true_eq] at h; subst h; exact pe_int
  · rw [decide_eq_true_eq] at h; subst h; exact pe_str
  · cases h
def cvsB : List Expr → List V → Bool
  | [], [] => true
  | e :: r, v :: t => cvB e v && cvsB r t
  | _, _ => false
theorem cvsB_ok {X : Cx} : ∀ {es : List Expr} {vs : List V}, cvsB es vs = true → Paired (fun e v => PE X e (tC v)) es vs
  | [], [], _ => .nil
  | [], _ :: _, h => by cases h
  | _ :: _, [], h => by cases h
  | e :: r, v :: t, h => by
    simp only [cvsB, Bool.and_eq_true] at h
    exact .cons (cvB_ok h.1) (cvsB_ok h.2)
def lamB (fr : Fr) (L : LamA) (l : LamI) (a : Arguments) (b : Expr) (c : Scope) (p : Pos) : Bool := match fr.lam with
  | some nm => decide (L.qual = fr.qual ++ "<lambda>") && decide (nm p.line p.col = L.qual) && eqArgs a L.params && eqE 60 b L.body && decide (c = L.scope) && (L.scope.names.all fun y => !decide (y.2 = .free) || decide (y.1 ∈ L.fr)) &&
      (L.fr.all fun y => decide ((y, NameKind.free) ∈ L.scope.names)) && (L.fr.all fun y => decide (fr.sc.names.lookup y = some .cell) || decide (fr.sc.names.lookup y = some .free)) && decide (l.cap.map (fun i => fr.N[i]?) = L.fr.map some) &&
      L.params.kw_defaults.isEmpty && cvsB L.params.defaults L.dfl && decide (L.dfl.length ≤ 20)
  | none => false
/-! ### the look -/
/-- the iterated thing's arguments -/
def itArgs (fr : Fr) (tb : Tb) (it : ItK) (tg iter : Expr) : Option (List Expr) := match it with
  | .seq => some [iter]
  | .range => match xCall iter with
    | some (x, _, xs, _) => if x = "range" ∧ gloB fr x = true ∧ tb.free.contains x = true ∧ (xs.length = 1 ∨ xs.length = 2) then some xs else none
    | none => none
  | .enum => match xCall iter with
    | some (x, _, xs, _) => if x = "enumerate" ∧ gloB fr x = true ∧ tb.free.contains x = true ∧ xs.length = 1 ∧ (xTup tg).isSome = true then some xs else none
    | none => none
  | .zip => none
mutual
def chkTg (fr : Fr) (is : List Nat) : Tg → Expr → Bool
  | .n i, e => match xName e with
    | some (x, _) => decide (fr.N[i]? = some x) && ownB fr x && is.contains i
    | none => false
  | .t ts, e => match xTup e with
    | some (es, _, _) => chkTgs fr is ts es
    | none => false
def chkTgs (fr : Fr) (is : List Nat) : List Tg → List Expr → Bool
  | [], [] => true
  | t :: ts, e :: es => notStar e && chkTg fr is t e && chkTgs fr is ts es
  | _, _ => false
end
section
variable (tb : Tb) (LA : List LamA) (LI : List LamI)
mutual
def chkE : IR → Fr → Bool → Expr → Bool
  | .loc i, fr, t, e => (!t || plainT e) && match xName e with
    | some (x, _) => locB fr i x
    | none => false
  | .glo g, fr, t, e => (!t || plainT e) && match xName e with
    | some (x, _) => gloB fr x && decide (tb.glob.lookup x = some (.con g))
    | none => false
  | .k d, fr, t, e => (!t || plainT e) && match xConst e with
    | some (c, _, _) => constB d c
    | none => false
  | .tup es, fr, t, e => (!t || plainT e) && match xTup e with
    | some (xs, _, _) => chkEs es fr xs
    | none => false
  | .lst es, fr, t, e => (!t || plainT e) && match xList e with
    | some (xs, _) => chkEs es fr xs
    | none => false
  | .dct0, fr, t, e => (!t || plainT e) && (xDict0 e).isSome
  | .op o a b, fr, t, e => (!t || plainT e) && match xBin e with
    | some (x, p, y, _) => decide (p = o.py) && chkE a fr false x && chkE b fr false y
    | none => false
  | .neg a, fr, t, e => (!t || plainT e) && match xUn e with
    | some (o, x, _) => decide (o = .USub) && chkE a fr false x
    | none => false
  | .inot a, fr, t, e => match xUn e with
    | some (o, x, _) => decide (o = .Not) && chkE a fr t x
    | none => false
  | .cmp o a b, fr, t, e => match xCmp1 e with
    | some (x, p, y, _) => decide (p = o.py) && notSetD y && chkE a fr false x && chkE b fr false y
    | none => false
  | .chain o o' a b c, fr, t, e => match xCmp2 e with
    | some (x, p, p', y, z, _) => decide (p = o.py) && decide (p' = o'.py) && notSetD z && chkE a fr false x && chkE b fr false y && chkE c fr false z
    | none => false
  | .iand a b, fr, t, e => match xBo e with
    | some (o, x, y, r, p) => decide (o = .And) && chkE a fr t x && chkE b fr t (restB o y r p)
    | none => false
  | .ior a b, fr, t, e => match xBo e with
    | some (o, x, y, r, p) => decide (o = .Or) && chkE a fr t x && chkE b fr t (restB o y r p)
    | none => false
  | .ite c a b, fr, t, e => (!t || plainT e) && match xIf e with
    | some (x, y, z, _) => chkE c fr true x && chkE a fr false y && chkE b fr false z
    | none => false
  | .idx a i, fr, t, e => (!t || plainT e) && match xSub e with
    | some (x, y, _) => notSlice y && chkE a fr false x && chkE i fr false y
    | none => false
  | .slc a lo hi, fr, t, e => (!t || plainT e) && match xSub e with
    | some (x, s, _) => match xSlice s with
      | some (l, h, _) => chkE a fr false x && chkO lo fr l && chkO hi fr h
      | none => false
    | none => false
  | .rev a, fr, t, e => (!t || plainT e) && match xSub e with
    | some (x, s, _) => (xRev s).isSome && chkE a fr false x
    | none => false
  | .bi b es, fr, t, e => (!t || plainT e) && match xCall e with
    | some (x, _, xs, _) => gloB fr x && tb.free.contains x && (match b, xs with
      | .isinst n, [ea, et] => decide (x = "isinstance") && notStar ea && (match xName et with
        | some (y, _) => decide (tyNm n = some y) && gloB fr y && tb.free.contains y
        | none => false) && chkEs es fr [ea]
      | .lrange, [inner] => decide (x = "list") && (match xCall inner with
        | some (y, _, ys, _) => decide (y = "range") && gloB fr y && tb.free.contains y && (decide (ys.length = 1) || decide (ys.length = 2)) && chkEs es fr ys
        | none => false)
      | b, xs => decide (biNm b = some x) && !xs.isEmpty && chkEs es fr xs)
    | none => false
  | .mt b a e', fr, t, e => (!t || plainT e) && match xMeth e with
    | some (o, m, ap, arg, pos) => ((decide (b = .join) && decide (m = "join")) || (decide (b = .split) && decide (m = "split"))) && notSuper o && (ap.endLine == pos.line) && notStar arg && chkE a fr false o && chkE e' fr false arg
    | none => false
  | .call f es, fr, t, e => (!t || plainT e) && match xCall e with
    | some (x, _, xs, _) => gloB fr x && decide (tb.glob.lookup x = some (.fn f)) && chkEs es fr xs
    | none => false
  | .callK f ord es, fr, t, e => (!t || plainT e) && match xCallK e with
    | some (x, _, kws, _) => gloB fr x && decide (tb.glob.lookup x = some (.fn f)) && decide ((x, kws.filterMap (·.arg), f, ord) ∈ tb.kw) && decide (kws.map (·.arg) = (kws.filterMap (·.arg)).map some) && chkEs es fr (kws.map (·.value))
    | none => false
  | .clo k, fr, t, e => (!t || plainT e) && match xLam e with
    | some (a, b, c, p) => (match LA[k]?, LI[k]? with
      | some L, some l => lamB fr L l a b c p
      | _, _ => false)
    | none => false
  | .app i es, fr, t, e => (!t || plainT e) && match xCall e with
    | some (x, _, xs, _) => locB fr i x && chkEs es fr xs
    | none => false
  | .mget i f, fr, t, e => (!t || plainT e) && match xFld e with
    | some (x, _, k, _, _, _) => locB fr i x && decide (k = mKey f)
    | none => false
  | .comp own tg it es ifs elt, fr, t, e => (!t || plainT e) && match xComp e with
    | some (elt', tg', iter, ifs', sc, _) => decide ((ownP fr own).map (·.2) = own) && blkC fr.N fr.sc sc (ownP fr own) && notSetD iter && (match itArgs fr tb it tg' iter with
      | some xs => chkEs es fr xs
      | none => false) && chkTg (fr.blk sc) own tg tg' && chkIfs ifs (fr.blk sc) ifs' && chkE elt (fr.blk sc) false elt'
    | none => false
def chkEs : List IR → Fr → List Expr → Bool
  | [], _, xs => xs.isEmpty
  | i :: is, fr, xs => match xs with
    | [] => false
    | x :: r => notStar x && chkE i fr false x && chkEs is fr r
def chkO : Option IR → Fr → Option Expr → Bool
  | none, _, o => match o with
    | none => true
    | _ => false
  | some i, fr, o => match o with
    | some x => chkE i fr false x
    | none => false
def chkIfs : List IR → Fr → List Expr → Bool
  | [], _, xs => xs.isEmpty
  | i :: is, fr, xs => is.isEmpty && match xs with
    | [x] => chkE i fr true x
    | _ => false
end
end
end Di
end
section
set_option Elab.async false
set_option linter.all false
set_option maxRecDepth 100000
set_option maxHeartbeats 4000000
/-! Di.Snd: the look at expressions is sound. -/
namespace Di
open PySem PySem.Spec PyProof.Rows L2 LamX NdefX
def OkE (W : Wd) (xc : Nat → Option XcA) (X : Cx) (g0 : G × Hp) (E : WX) (t : Bool) (e : Expr) (c : Env → M OV) : Prop := match t with
  | false => PE X e (TV W xc X g0 E c)
  | true => PT X e (TBo W xc X g0 E fun ρ => M.bind (c ρ) fun x => ofO (asBl x))
structure Hyp (W : Wd) (xc : Nat → Option XcA) (C : Ct) (n : Nat) (tb : Tb) (fad : Nat → Addr) (LA : List LamA) (cf : Nat → List Val → M D) (ca : Nat → List Val → List Val → M D) : Prop where
  tbk : TbOk W xc C tb fad
  lam : ∀ k, W.lam k = LA[k]?
  fn : ∀ x f, tb.glob.lookup x = some (.fn f) → FnS W xc C n (fad f) (cf f)
  cl : ∀ k, LamS W xc C n k (ca k)
  kw : ∀ x ks f ord, (x, ks, f, ord) ∈ tb.kw → FnSKw W xc C n (fad f) ks ord (cf f)
section
variable {W : Wd} {xc : Nat → Option XcA} {C : Ct} {n : Nat} {tb : Tb} {fad : Nat → Addr} {LA : List LamA} {cf : Nat → List Val → M D} {ca : Nat → List Val → List Val → M D} {fr : Fr} {X : Cx} {g0 : G × Hp} {E : WX}
theorem okE_fin {t : Bool} {e : Expr} {c : Env → M OV} (ht : (!t || plainT e) = true) (h : PE X e (TV W xc X g0 E c)) : OkE W xc X g0 E t e c := by
  cases t with
  | false => exact h
  | true => exact pt_dval h (true_plain (by simpa using ht))
/-- each of them -/
def AllE (W : Wd) (xc : Nat → Option XcA) (cf : Nat → List Val → M D) (ca : Nat → List Val → List Val → M D) (X : Cx) (g0 : G × Hp) (E : WX) (is : List IR) (xs : List Expr) : Prop := xs.all notStar = true ∧ Paired (fun i x => PE X x (TV W xc X g0 E (evalE W.P cf ca i))) is xs
theorem AllE.pa : ∀ {is : List IR} {xs : List Expr}, AllE W xc cf ca X g0 E is xs → PA X xs (TLs W xc X g0 E (evalEs W.P cf ca is))
  | [], [], _ => pa_dnil
  | [], _ :: _, ⟨_, h⟩ => by cases h
  | _ :: _, [], ⟨_, h⟩ => by cases h
  | i :: is, x :: xs, ⟨s, h⟩ => by
    cases h with
    | cons h1 h2 =>
      simp only [List.all_cons, Bool.and_eq_true] at s
      exact pa_dcons h1 (AllE.pa ⟨s.2, h2⟩) (star_one s.1)
theorem AllE.len : ∀ {is : List IR} {xs : List Expr}, AllE W xc cf ca X g0 E is xs → is.length = xs.length := fun ⟨_, h⟩ => h.length
theorem AllE.pk : ∀ {is : List IR} {kws : List Keyword}, AllE W xc cf ca X g0 E is (kws.map (·.value)) → PK X kws (TLs W xc X g0 E (evalEs W.P cf ca is))
  | [], [], _ => pk_dnil
  | [], _ :: _, ⟨_, h⟩ => by cases h
  | _ :: _, [], ⟨_, h⟩ => by cases h
  | i :: is, ⟨nm, x, kp⟩ :: xs, ⟨s, h⟩ => by
    cases h with
    | cons h1 h2 =>
      simp only [List.map_cons, List.all_cons, Bool.and_eq_true] at s
      exact pk_dcons h1 (AllE.pk ⟨s.2, h2⟩)
theorem AllE.one {is : List IR} {x : Expr} (h : AllE W xc cf ca X g0 E is [x]) : ∃ i, is = [i] ∧ PE X x (TV W xc X g0 E (evalE W.P cf ca i)) ∧ notStar x = true := by
  obtain ⟨s, h⟩ := h
  cases h with
  | cons h1 h2 =>
    cases h2
    simp only [List.all_cons, Bool.and_eq_true] at s
    exact ⟨_, rfl, h1, s.1⟩
theorem AllE.two {is : List IR} {x y : Expr} (h : AllE W xc cf ca X g0 E is [x, y]) : ∃ i j, is = [i, j] ∧ PE X x (TV W xc X g0 E (evalE W.P cf ca i)) ∧ PE X y (TV W xc X g0 E (evalE W.P cf ca j)) ∧ notStar x = true ∧ notStar y = true := by
  obtain ⟨s, h⟩ := h
  cases h with
  | cons h1 h2 =>
    cases h2 with
    | cons h3 h4 =>
      cases h4
      simp only [List.all_cons, Bool.and_eq_true] at s
      exact ⟨_, _, rfl, h1, h3, s.1, s.2.1⟩
theorem len_one {α : Type} {xs : List α} (h : xs.length = 1) : ∃ x, xs = [x] := by
  match xs, h with
  | [x], _ => exact ⟨x, rfl⟩
theorem len_two {α : Type} {xs : List α} (h : xs.length = 2) : ∃ x y, xs = [x, y] := by
  match xs, h with
  | [x, y], _ => exact ⟨x, y, rfl⟩
theorem it_ok {it : ItK} {tg iter : Expr} {xs : List Expr} {is : List IR} {f : Bool} (h : Hyp W xc C n tb fad LA cf ca) (k : FrOk W C n fr X) (e : itArgs fr tb it tg iter = some xs) (a : AllE W xc cf ca X g0 E is xs) :
    PI X tg iter (TW W xc X g0 E f fun ρ => M.bind (evalEs W.P cf ca is ρ) fun xs => ofO (eqb f it ρ xs)) := by
  unfold itArgs at e
  cases it with
  | zip => cases e
  | seq =>
    simp only [Option.some.injEq] at e
    subst e
    obtain ⟨i, rfl, h1, _⟩ := a.one
    exact pi_dseq k.xw.hK h1
  | range =>
    dsimp only at e
    split at e
    · rename_i x p ys pos hx
      split at e
      · rename_i z
        obtain ⟨rfl, hg, hf, hl⟩ := z
        simp only [Option.some.injEq] at e
        subst e
        have hx := xCall_eq hx
        subst hx
        rcases hl with hl | hl
        · obtain ⟨y, rfl⟩ := len_one hl
          obtain ⟨i, rfl, h1, s1⟩ := a.one
          exact pi_drange1 (k.glo hg).1 (h.tbk.freeX k hf) h1 (star_one s1)
        · obtain ⟨y, z, rfl⟩ := len_two hl
          obtain ⟨i, j, rfl, h1, h2, s1, s2⟩ := a.two
          exact pi_drange2 (k.glo hg).1 (h.tbk.freeX k hf) h1 h2 (by rw [star_one s1, star_one s2] <;> rfl) (star_one s2)
      · cases e
    · cases e
  | enum =>
    dsimp only at e
    split at e
    · rename_i x p ys pos hx
      split at e
      · rename_i z
        obtain ⟨rfl, hg, hf, hl, ht⟩ := z
        simp only [Option.some.injEq] at e
        subst e
        have hx := xCall_eq hx
        subst hx
        obtain ⟨y, rfl⟩ := len_one hl
        obtain ⟨i, rfl, h1, s1⟩ := a.one
        cases hy : xTup tg with
        | none => rw [hy] at ht; cases ht
        | some w =>
          obtain ⟨c, kk, tpos⟩ := w
          obtain rfl := xTup_eq hy
          exact pi_denum k.xw.hK (k.glo hg).1 (h.tbk.freeX k hf) h1 (star_one s1)
      · cases e
    · cases e
theorem lam_ok {L : LamA} {l : LamI} {kk : Nat} {a : Arguments} {b : Expr} {c : Scope} {p : Pos} (k : FrOk W C n fr X) (e1 : W.lam kk = some L) (e2 : W.P.lams[kk]? = some l) (q : lamB fr L l a b c p = true) :
    PE X (.Lambda a b c p) (TV W xc X g0 E fun ρ => ofO (cloO W.P ρ kk)) := by
  unfold lamB at q
  split at q
  · rename_i nm hnm
    simp only [Bool.and_eq_true, decide_eq_true_eq, List.all_eq_true, Bool.or_eq_true, Bool.not_eq_true', decide_eq_false_iff_not] at q
    obtain ⟨⟨⟨⟨⟨⟨⟨⟨⟨⟨⟨q1, q2⟩, q3⟩, q4⟩, q5⟩, q6⟩, q7⟩, q8⟩, q9⟩, q10⟩, q11⟩, q12⟩ := q
    obtain ⟨cc, P, t1, t2, t3, t4⟩ := k.tab nm hnm
    rw [eqArgs_ok q3, eqE_ok 60 _ _ q4, q5]
    have K : LamK W X kk L l nm cc P p := ⟨t1, t2, t3, t4, e1, e2, by rw [k.qual]; exact q1, q2, fun y hy z => (q6 y hy).elim (fun w => absurd z w) id, q7, fun y hy => by rw [k.sc]; exact q8 y hy, by rw [k.N]; exact q9⟩
    refine pe_dclo K ?_
    cases hd : L.params.defaults with
    | nil =>
      refine .inl ⟨?_, ?_⟩
      · rw [hd] at q11
        cases hv : L.dfl with
        | nil => rfl
        | cons v t => rw [hv] at q11; cases q11
      · generalize L.params = pa at hd q10
        obtain ⟨a1, a2, a3, a4, a5, a6, a7⟩ := pa
        have z7 : a7 = [] := hd
        have z5 : a5 = [] := List.isEmpty_iff.mp q10
        rw [z7, z5]
        rfl
    | cons x xs =>
      rw [hd] at q11
      exact .inr ⟨rfl, List.isEmpty_iff.mp q10, Nat.le_trans q12 (by rw [sizeLine_eq]; decide), cvsB_ok q11⟩
  · cases q
mutual
theorem tg_ok {is : List Nat} (k : FrOk W C n fr X) : ∀ (t : Tg) (e : Expr), chkTg fr is t e = true → PG X e (tgG W X g0 is t)
  | .n i, e, q => by
    simp only [chkTg] at q
    split at q
    · rename_i x p hx
      obtain rfl := xName_eq hx
      simp only [Bool.and_eq_true, decide_eq_true_eq] at q
      exact pg_dn k.ndX (by rw [k.N]; exact q.1.1) (k.ownX q.1.2) (by simpa using q.2)
    · cases q
  | .t ts, e, q => by
    simp only [chkTg] at q
    split at q
    · rename_i es kk p hx
      obtain rfl := xTup_eq hx
      obtain ⟨h1, h2, h3⟩ := tgs_ok k ts es q
      exact pg_dt k.xw.hK k.xw.hc h1 (by rw [asg_len, h2]) (asg_none h3)
    · cases q
theorem tgs_ok {is : List Nat} (k : FrOk W C n fr X) : ∀ (ts : List Tg) (es : List Expr), chkTgs fr is ts es = true → PGs X es (tgGs W X g0 is ts) ∧ es.length = ts.length ∧ es.all notStar = true
  | [], [], _ => ⟨pgs_dnil, rfl, rfl⟩
  | [], _ :: _, q => by simp [chkTgs] at q
  | _ :: _, [], q => by simp [chkTgs] at q
  | t :: ts, e :: es, q => by
    simp only [chkTgs, Bool.and_eq_true] at q
    obtain ⟨h1, h2, h3⟩ := tgs_ok k ts es q.2
    exact ⟨pgs_dcons (tg_ok k t e q.1.2) h1 (by rw [asg_one q.1.1] <;> rfl), by simp [h2], by simp [q.1.1, h3]⟩
end
theorem takes_no : Takes X noE := fun u s' ⟨a, B, sI, pins, σ, H, cls, d, e, I, nb, up, sky, na, os, ag, w⟩ => w.elim

abbrev AllX (W : Wd) (xc : Nat → Option XcA) (C : Ct) (n : Nat) (cf : Nat → List Val → M D) (ca : Nat → List Val → List Val → M D) (fr : Fr) (is : List IR) (xs : List Expr) : Prop := ∀ (X : Cx) (g0 : G × Hp) (E : WX), FrOk W C n fr X → Takes X E → AllE W xc cf ca X g0 E is xs
theorem cmp_fin {t : Bool} {o : Cmp} {x y : Expr} {a b : IR} {p : Pos} (k : FrOk W C n fr X) (hm : notSetD y = true) (h1 : PE X x (TV W xc X g0 E (evalE W.P cf ca a))) (h2 : PE X y (TV W xc X g0 E (evalE W.P cf ca b))) :
    OkE W xc X g0 E t (.Compare x [o.py] [y] p) (evalE W.P cf ca (.cmp o a b)) := by
  cases t with
  | false => exact pe_dcmp k.xw h1 h2 (mark_no hm)
  | true =>
    have q := pt_dcmp (pos := p) k.xw (o := o) h1 h2 (mark_no hm)
    have e : (fun ρ => M.bind (evalE W.P cf ca (.cmp o a b) ρ) fun x => ofO (asBl x)) = fun ρ => M.bind (evalE W.P cf ca a ρ) fun x => M.bind (evalE W.P cf ca b ρ) fun y => ofO (cmpB ρ o x y) := funext fun ρ => testE_cmp
    show PT X _ (TBo W xc X g0 E _)
    rw [e]
    exact q
theorem chain_fin {t : Bool} {o o' : Cmp} {x y z : Expr} {a b c : IR} {p : Pos} (k : FrOk W C n fr X) (hm : notSetD z = true) (h1 : PE X x (TV W xc X g0 E (evalE W.P cf ca a))) (h2 : PE X y (TV W xc X g0 E (evalE W.P cf ca b)))
    (h3 : PE X z (TV W xc X g0 E (evalE W.P cf ca c))) : OkE W xc X g0 E t (.Compare x [o.py, o'.py] [y, z] p) (evalE W.P cf ca (.chain o o' a b c)) := by
  cases t with
  | false => exact pe_dchain k.xw h1 h2 h3 (mark_no2 hm)
  | true =>
    have q := pt_dchain (pos := p) k.xw (o := o) (o' := o') h1 h2 h3 (mark_no2 hm)
    have e : (fun ρ => M.bind (evalE W.P cf ca (.chain o o' a b c) ρ) fun x => ofO (asBl x)) = fun ρ => M.bind (evalE W.P cf ca a ρ) fun x => M.bind (evalE W.P cf ca b ρ) fun y => M.bind (ofO (cmpB ρ o x y)) fun t =>
        if t then M.bind (evalE W.P cf ca c ρ) fun z => ofO (cmpB ρ o' y z) else ret1 false := funext fun ρ => testE_chain
    show PT X _ (TBo W xc X g0 E _)
    rw [e]
    exact q
theorem and_fin {t : Bool} {x y : Expr} {r : List Expr} {a b : IR} {p : Pos} (h1 : OkE W xc X g0 E t x (evalE W.P cf ca a)) (h2 : OkE W xc X g0 E t (restB .And y r p) (evalE W.P cf ca b)) :
    OkE W xc X g0 E t (.BoolOp .And (x :: y :: r) p) (evalE W.P cf ca (.iand a b)) := by
  cases t with
  | false => exact pe_dand h1 (pe_rest h2)
  | true =>
    have q := (pw_dand h1 (pw_rest h2)).pt
    have e : (fun ρ => M.bind (evalE W.P cf ca (.iand a b) ρ) fun x => ofO (asBl x)) = fun ρ => M.bind (testE W.P cf ca a ρ) fun t => if t then testE W.P cf ca b ρ else ret1 false := funext fun ρ => testE_and
    show PT X _ (TBo W xc X g0 E _)
    rw [e]
    exact q
theorem or_fin {t : Bool} {x y : Expr} {r : List Expr} {a b : IR} {p : Pos} (h1 : OkE W xc X g0 E t x (evalE W.P cf ca a)) (h2 : OkE W xc X g0 E t (restB .Or y r p) (evalE W.P cf ca b)) :
    OkE W xc X g0 E t (.BoolOp .Or (x :: y :: r) p) (evalE W.P cf ca (.ior a b)) := by
  cases t with
  | false => exact pe_dor h1 (pe_rest h2)
  | true =>
    have q := (pw_dor h1 (pw_rest h2)).pt
    have e : (fun ρ => M.bind (evalE W.P cf ca (.ior a b) ρ) fun x => ofO (asBl x)) = fun ρ => M.bind (testE W.P cf ca a ρ) fun t => if t then ret1 true else testE W.P cf ca b ρ := funext fun ρ => testE_or
    show PT X _ (TBo W xc X g0 E _)
    rw [e]
    exact q
theorem not_fin {t : Bool} {x : Expr} {a : IR} {p : Pos} (h1 : OkE W xc X g0 E t x (evalE W.P cf ca a)) : OkE W xc X g0 E t (.UnaryOp .Not x p) (evalE W.P cf ca (.inot a)) := by
  cases t with
  | false => exact pe_dnot h1
  | true =>
    have q := pt_dnot (pos := p) h1
    have e : (fun ρ => M.bind (evalE W.P cf ca (.inot a) ρ) fun x => ofO (asBl x)) = fun ρ => M.bind (testE W.P cf ca a ρ) fun t => ret1 (!t) := funext fun ρ => testE_not
    show PT X _ (TBo W xc X g0 E _)
    rw [e]
    exact q
theorem ite_fin {x y z : Expr} {c a b : IR} {p : Pos} (h1 : OkE W xc X g0 E true x (evalE W.P cf ca c)) (h2 : PE X y (TV W xc X g0 E (evalE W.P cf ca a))) (h3 : PE X z (TV W xc X g0 E (evalE W.P cf ca b))) :
    PE X (.IfExp x y z p) (TV W xc X g0 E (evalE W.P cf ca (.ite c a b))) := by
  have q := pe_dite (pos := p) h1 h2 h3
  have e : evalE W.P cf ca (.ite c a b) = fun ρ => M.bind (testE W.P cf ca c ρ) fun t => if t then evalE W.P cf ca a ρ else evalE W.P cf ca b ρ := funext fun ρ => evalE_ite
  rw [e]
  exact q
theorem bi_fin {b : Bi} {es : List IR} {e : Expr} {x : Str} {p pos : Pos} {xs : List Expr} (h : Hyp W xc C n tb fad LA cf ca) (k : FrOk W C n fr X) (tk : Takes X E) (hg : gloB fr x = true) (hf : tb.free.contains x = true) (hb : biNm b = some x) (hne : xs.isEmpty = false) (hall : AllE W xc cf ca X g0 E es xs) :
    PE X (.Call (.Name x p) xs [] pos) (TV W xc X g0 E (evalE W.P cf ca (.bi b es))) := by
  obtain ⟨f, h1, h2, h3⟩ := biNm_ok hb
  cases xs with
  | nil => cases hne
  | cons y ys =>
    have s := hall.1
    simp only [List.all_cons, Bool.and_eq_true] at s
    exact pe_dbi k.xw h1 (k.glo hg).1 (h.tbk.freeX k hf) h2 h3 (k.glo hg).2 hall.pa (star_one s.1) (star_all s.2)
theorem call_fin {f : Nat} {es : List IR} {x : Str} {p pos : Pos} {xs : List Expr} (h : Hyp W xc C n tb fad LA cf ca) (k : FrOk W C n fr X) (tk : Takes X E) (hg : gloB fr x = true) (hf : tb.glob.lookup x = some (.fn f)) (hall : AllE W xc cf ca X g0 E es xs) :
    PE X (.Call (.Name x p) xs [] pos) (TV W xc X g0 E (evalE W.P cf ca (.call f es))) := by
  obtain ⟨h1, h2⟩ := h.tbk.fn x f hf
  have hm : X.mg x = some (.ref (fad f)) := by rw [k.xC.mg]; exact h1
  have hk : PySem.W.keepIn X.K (.ref (fad f)) = true := by rw [k.xC.K]; exact h2
  cases xs with
  | nil =>
    obtain ⟨_, z⟩ := hall
    cases z
    exact pe_dcall0 (h.fn x f hf) k.xC k.rm tk (k.glo hg).1 hm hk (k.glo hg).2
  | cons y ys =>
    have s := hall.1
    simp only [List.all_cons, Bool.and_eq_true] at s
    exact pe_dcall (h.fn x f hf) k.xC k.rm tk (k.glo hg).1 hm hk hall.pa (k.glo hg).2 (star_one s.1) (star_all s.2)
theorem callK_fin {f : Nat} {ord : List Nat} {es : List IR} {x : Str} {p pos : Pos} {kws : List Keyword} {ks : List Str} (h : Hyp W xc C n tb fad LA cf ca) (k : FrOk W C n fr X) (tk : Takes X E) (hg : gloB fr x = true) (hf : tb.glob.lookup x = some (.fn f)) (hk : (x, ks, f, ord) ∈ tb.kw) (hks : kws.map (·.arg) = ks.map some)
    (hall : AllE W xc cf ca X g0 E es (kws.map (·.value))) : PE X (.Call (.Name x p) [] kws pos) (TV W xc X g0 E (evalE W.P cf ca (.callK f ord es))) := by
  obtain ⟨h1, h2⟩ := h.tbk.fn x f hf
  refine pe_dcallK (h.kw x ks f ord hk) k.xC k.rm tk (k.glo hg).1 (by rw [k.xC.mg]; exact h1) (by rw [k.xC.K]; exact h2) hall.pk hks (fun ρ xs m m' e => ?_) (k.glo hg).2
  rw [evalEs_len e, hall.len, List.length_map, ← List.length_map (f := fun z : Keyword => z.arg), hks, List.length_map]
theorem app_fin {i : Nat} {es : List IR} {x : Str} {p pos : Pos} {xs : List Expr} (h : Hyp W xc C n tb fad LA cf ca) (k : FrOk W C n fr X) (tk : Takes X E) (hl : locB fr i x = true) (hall : AllE W xc cf ca X g0 E es xs) :
    PE X (.Call (.Name x p) xs [] pos) (TV W xc X g0 E (evalE W.P cf ca (.app i es))) := by
  obtain ⟨l1, l2, l3, l4⟩ := k.loc hl
  cases xs with
  | nil =>
    obtain ⟨_, z⟩ := hall
    cases z
    exact pe_dapp0 h.cl k.xC k.rm tk l1 l2 l3 l4
  | cons y ys =>
    have s := hall.1
    simp only [List.all_cons, Bool.and_eq_true] at s
    exact pe_dapp h.cl k.xC k.rm tk l1 l2 l3 l4 hall.pa (star_one s.1) (star_all s.2)
theorem isinst_fin {m : Nat} {es : List IR} {x y : Str} {p p1 pos : Pos} {ea : Expr} (h : Hyp W xc C n tb fad LA cf ca) (k : FrOk W C n fr X) (hg : gloB fr "isinstance" = true) (hf : tb.free.contains "isinstance" = true) (hs : notStar ea = true) (hy : tyNm m = some y) (hg2 : gloB fr y = true)
    (hf2 : tb.free.contains y = true) (hall : AllE W xc cf ca X g0 E es [ea]) : PE X (.Call (.Name "isinstance" p) [ea, .Name y p1] [] pos) (TV W xc X g0 E (evalE W.P cf ca (.bi (.isinst m) es))) := by
  obtain ⟨T, h1, h2, h3⟩ := tyNm_ok hy
  obtain ⟨i, rfl, a1, _⟩ := hall.one
  exact pe_disinst k.xw h1 (k.glo hg).1 (h.tbk.freeX k hf) boot_isinst (k.glo hg2).1 (h.tbk.freeX k hf2) h2 h3 (k.glo hg2).2 a1 (star_one hs)
theorem lrange_fin {es : List IR} {p p1 p2 pos : Pos} {ys : List Expr} (h : Hyp W xc C n tb fad LA cf ca) (k : FrOk W C n fr X) (hg : gloB fr "list" = true) (hf : tb.free.contains "list" = true) (hg2 : gloB fr "range" = true) (hf2 : tb.free.contains "range" = true)
    (hl : ys.length = 1 ∨ ys.length = 2) (hall : AllE W xc cf ca X g0 E es ys) : PE X (.Call (.Name "list" p) [.Call (.Name "range" p1) ys [] p2] [] pos) (TV W xc X g0 E (evalE W.P cf ca (.bi .lrange es))) := by
  rcases hl with hl | hl
  · obtain ⟨y, rfl⟩ := len_one hl
    obtain ⟨i, rfl, a1, s1⟩ := hall.one
    exact pe_dlrange1 k.xw (k.glo hg).1 (h.tbk.freeX k hf) (k.glo hg2).1 (h.tbk.freeX k hf2) a1 (star_one s1) (star_one rfl)
  · obtain ⟨y, z, rfl⟩ := len_two hl
    obtain ⟨i, j, rfl, a1, a2, s1, s2⟩ := hall.two
    exact pe_dlrange2 k.xw (k.glo hg).1 (h.tbk.freeX k hf) (k.glo hg2).1 (h.tbk.freeX k hf2) a1 a2 (star_one s1) (star_one s2) (star_all (by simp [s2])) (star_one rfl)
theorem mt_fin {b : Bi} {a e' : IR} {m : Str} {o arg : Expr} {ap pos : Pos} (k : FrOk W C n fr X) (hm : (b = .join ∧ m = "join") ∨ (b = .split ∧ m = "split")) (ho : notSuper o = true) (hl : (ap.endLine == pos.line) = true) (hs : notStar arg = true)
    (h1 : PE X o (TV W xc X g0 E (evalE W.P cf ca a))) (h2 : PE X arg (TV W xc X g0 E (evalE W.P cf ca e'))) : PE X (.Call (.Attribute o m ap) [arg] [] pos) (TV W xc X g0 E (evalE W.P cf ca (.mt b a e'))) := by
  rcases hm with ⟨rfl, rfl⟩ | ⟨rfl, rfl⟩
  · exact pe_djoin h1 h2 (star_one hs) (base_plain ho) hl
  · exact pe_dsplit h1 h2 (star_one hs) (base_plain ho) hl
/-- a comprehension: what its forms need -/
structure CompB (W : Wd) (xc : Nat → Option XcA) (C : Ct) (n : Nat) (cf : Nat → List Val → M D) (ca : Nat → List Val → List Val → M D) (fr : Fr) (own : List Nat) (tg : Tg) (it : ItK) (es ifs : List IR) (elt : IR) (elt' tg' iter : Expr) (ifs' : List Expr) (sc : Scope) : Prop where
  ow : (ownP fr own).map (·.2) = own
  blk : BlkOk fr.N fr.sc sc (ownP fr own)
  fo : notSetD iter = true
  hi : ∀ (X : Cx) (g0 : G × Hp) (E : WX) (f : Bool), FrOk W C n fr X → Takes X E → PI X tg' iter (TW W xc X g0 E f fun ρ => M.bind (evalEs W.P cf ca es ρ) fun xs => ofO (eqb f it ρ xs))
  tg : ∀ (X : Cx) (g0 : G × Hp), FrOk W C n (fr.blk sc) X → PG X tg' (tgG W X g0 own tg)
  hI : ∀ (X : Cx) (g0 : G × Hp) (E : WX), FrOk W C n (fr.blk sc) X → Takes X E → PTs X ifs' (TBo W xc X g0 E (evalIfs W.P cf ca ifs))
  hE : ∀ (X : Cx) (g0 : G × Hp) (E : WX), FrOk W C n (fr.blk sc) X → Takes X E → PE X elt' (TV W xc X g0 E (evalE W.P cf ca elt))
theorem comp_fin {own : List Nat} {tg : Tg} {it : ItK} {es ifs : List IR} {elt : IR} {elt' tg' iter : Expr} {ifs' : List Expr} {sc : Scope} {pos : Pos} (k : FrOk W C n fr X) (tk : Takes X E) (B : CompB W xc C n cf ca fr own tg it es ifs elt elt' tg' iter ifs' sc) :
    PE X (.ListComp elt' [⟨tg', iter, ifs', 0⟩] sc pos) (TV W xc X g0 E (evalE W.P cf ca (.comp own tg it es ifs elt))) := by
  have q := pe_dcomp (W := W) (xc := xc) (X := X) (g0 := g0) (E := E) (pos := pos) (own := ownP fr own) (t := tg) (ci := evalIfs W.P cf ca ifs) (ce := evalE W.P cf ca elt) (cs := evalEs W.P cf ca es) (it := it) k.xw k.ndX (B.hi X g0 E false k tk)
    (by rw [k.N, k.sc]; exact B.blk) (fold_no B.fo) (fun s HD fp b0 => by rw [B.ow]; exact B.tg _ _ (k.blk sc s HD fp)) (fun s HD fp b0 => B.hI _ _ _ (k.blk sc s HD fp) takes_no) (fun s HD fp b0 => B.hE _ _ _ (k.blk sc s HD fp) takes_no)
  rw [B.ow] at q
  exact q
mutual
theorem chkE_ok (h : Hyp W xc C n tb fad LA cf ca) : ∀ (ir : IR) (fr : Fr) (t : Bool) (e : Expr), chkE tb LA W.P.lams ir fr t e = true → ∀ (X : Cx) (g0 : G × Hp) (E : WX), FrOk W C n fr X → Takes X E → OkE W xc X g0 E t e (evalE W.P cf ca ir)
  | .loc i, fr, t, e, q, X, g0, E, k, tk => by
    rw [chkE, Bool.and_eq_true] at q
    obtain ⟨q1, q2⟩ := q
    split at q2
    · rename_i x p hx
      obtain rfl := xName_eq hx
      obtain ⟨l1, l2, l3, l4⟩ := k.loc q2
      exact okE_fin q1 (pe_dloc l1 l2 l3 l4)
    · cases q2
  | .glo g, fr, t, e, q, X, g0, E, k, tk => by
    rw [chkE, Bool.and_eq_true] at q
    obtain ⟨q1, q2⟩ := q
    split at q2
    · rename_i x p hx
      obtain rfl := xName_eq hx
      rw [Bool.and_eq_true, decide_eq_true_eq] at q2
      exact okE_fin q1 (pe_dglo h.tbk k q2.1 q2.2)
    · cases q2
  | .k d, fr, t, e, q, X, g0, E, k, tk => by
    rw [chkE, Bool.and_eq_true] at q
    obtain ⟨q1, q2⟩ := q
    split at q2
    · rename_i c j p hx
      obtain rfl := xConst_eq hx
      exact okE_fin q1 (pe_dk q2)
    · cases q2
  | .tup es, fr, t, e, q, X, g0, E, k, tk => by
    rw [chkE, Bool.and_eq_true] at q
    obtain ⟨q1, q2⟩ := q
    split at q2
    · rename_i xs j p hx
      obtain rfl := xTup_eq hx
      exact okE_fin q1 (pe_dtup (chkEs_ok h es fr xs q2 X g0 E k tk).pa)
    · cases q2
  | .lst es, fr, t, e, q, X, g0, E, k, tk => by
    rw [chkE, Bool.and_eq_true] at q
    obtain ⟨q1, q2⟩ := q
    split at q2
    · rename_i xs p hx
      obtain rfl := xList_eq hx
      exact okE_fin q1 (pe_dlst (chkEs_ok h es fr xs q2 X g0 E k tk).pa)
    · cases q2
  | .dct0, fr, t, e, q, X, g0, E, k, tk => by
    rw [chkE, Bool.and_eq_true] at q
    obtain ⟨q1, q2⟩ := q
    cases hx : xDict0 e with
    | none => rw [hx] at q2; cases q2
    | some p =>
      obtain rfl := xDict0_eq hx
      exact okE_fin q1 pe_ddct
  | .op o a b, fr, t, e, q, X, g0, E, k, tk => by
    rw [chkE, Bool.and_eq_true] at q
    obtain ⟨q1, q2⟩ := q
    split at q2
    · rename_i x p y pos hx
      obtain rfl := xBin_eq hx
      rw [Bool.and_eq_true, Bool.and_eq_true, decide_eq_true_eq] at q2
      obtain ⟨⟨rfl, q3⟩, q4⟩ := q2
      exact okE_fin q1 (pe_dop k.xw (chkE_ok h a fr false x q3 X g0 E k tk) (chkE_ok h b fr false y q4 X g0 E k tk))
    · cases q2
  | .neg a, fr, t, e, q, X, g0, E, k, tk => by
    rw [chkE, Bool.and_eq_true] at q
    obtain ⟨q1, q2⟩ := q
    split at q2
    · rename_i o x pos hx
      obtain rfl := xUn_eq hx
      rw [Bool.and_eq_true, decide_eq_true_eq] at q2
      obtain ⟨rfl, q3⟩ := q2
      exact okE_fin q1 (pe_dneg (chkE_ok h a fr false x q3 X g0 E k tk))
    · cases q2
  | .inot a, fr, t, e, q, X, g0, E, k, tk => by
    rw [chkE] at q
    split at q
    · rename_i o x pos hx
      obtain rfl := xUn_eq hx
      rw [Bool.and_eq_true, decide_eq_true_eq] at q
      obtain ⟨rfl, q3⟩ := q
      exact not_fin (chkE_ok h a fr t x q3 X g0 E k tk)
    · cases q
  | .cmp o a b, fr, t, e, q, X, g0, E, k, tk => by
    rw [chkE] at q
    split at q
    · rename_i x p y pos hx
      obtain rfl := xCmp1_eq hx
      rw [Bool.and_eq_true, Bool.and_eq_true, Bool.and_eq_true, decide_eq_true_eq] at q
      obtain ⟨⟨⟨rfl, q2⟩, q3⟩, q4⟩ := q
      exact cmp_fin k q2 (chkE_ok h a fr false x q3 X g0 E k tk) (chkE_ok h b fr false y q4 X g0 E k tk)
    · cases q
  | .chain o o' a b c, fr, t, e, q, X, g0, E, k, tk => by
    rw [chkE] at q
    split at q
    · rename_i x p p' y z pos hx
      obtain rfl := xCmp2_eq hx
      simp only [Bool.and_eq_true, decide_eq_true_eq] at q
      obtain ⟨⟨⟨⟨⟨rfl, rfl⟩, q2⟩, q3⟩, q4⟩, q5⟩ := q
      exact chain_fin k q2 (chkE_ok h a fr false x q3 X g0 E k tk) (chkE_ok h b fr false y q4 X g0 E k tk) (chkE_ok h c fr false z q5 X g0 E k tk)
    · cases q
  | .iand a b, fr, t, e, q, X, g0, E, k, tk => by
    rw [chkE] at q
    split at q
    · rename_i o x y r pos hx
      obtain rfl := xBo_eq hx
      simp only [Bool.and_eq_true, decide_eq_true_eq] at q
      obtain ⟨⟨rfl, q3⟩, q4⟩ := q
      exact and_fin (chkE_ok h a fr t x q3 X g0 E k tk) (chkE_ok h b fr t _ q4 X g0 E k tk)
    · cases q
  | .ior a b, fr, t, e, q, X, g0, E, k, tk => by
    rw [chkE] at q
    split at q
    · rename_i o x y r pos hx
      obtain rfl := xBo_eq hx
      simp only [Bool.and_eq_true, decide_eq_true_eq] at q
      obtain ⟨⟨rfl, q3⟩, q4⟩ := q
      exact or_fin (chkE_ok h a fr t x q3 X g0 E k tk) (chkE_ok h b fr t _ q4 X g0 E k tk)
    · cases q
  | .ite c a b, fr, t, e, q, X, g0, E, k, tk => by
    rw [chkE, Bool.and_eq_true] at q
    obtain ⟨q1, q2⟩ := q
    split at q2
    · rename_i x y z pos hx
      obtain rfl := xIf_eq hx
      simp only [Bool.and_eq_true] at q2
      obtain ⟨⟨q3, q4⟩, q5⟩ := q2
      exact okE_fin q1 (ite_fin (chkE_ok h c fr true x q3 X g0 E k tk) (chkE_ok h a fr false y q4 X g0 E k tk) (chkE_ok h b fr false z q5 X g0 E k tk))
    · cases q2
  | .idx a i, fr, t, e, q, X, g0, E, k, tk => by
    rw [chkE, Bool.and_eq_true] at q
    obtain ⟨q1, q2⟩ := q
    split at q2
    · rename_i x y pos hx
      obtain rfl := xSub_eq hx
      simp only [Bool.and_eq_true] at q2
      obtain ⟨⟨q3, q4⟩, q5⟩ := q2
      exact okE_fin q1 (pe_didx k.xw (chkE_ok h a fr false x q4 X g0 E k tk) (chkE_ok h i fr false y q5 X g0 E k tk) (plain_ix q3))
    · cases q2
  | .slc a lo hi, fr, t, e, q, X, g0, E, k, tk => by
    rw [chkE, Bool.and_eq_true] at q
    obtain ⟨q1, q2⟩ := q
    split at q2
    · rename_i x s pos hx
      obtain rfl := xSub_eq hx
      split at q2
      · rename_i l hh p2 hy
        obtain rfl := xSlice_eq hy
        simp only [Bool.and_eq_true] at q2
        obtain ⟨⟨q3, q4⟩, q5⟩ := q2
        exact okE_fin q1 (pe_dslc k.xw (chkE_ok h a fr false x q3 X g0 E k tk) (chkO_ok h lo fr l q4 X g0 E k tk) (chkO_ok h hi fr hh q5 X g0 E k tk))
      · cases q2
    · cases q2
  | .rev a, fr, t, e, q, X, g0, E, k, tk => by
    rw [chkE, Bool.and_eq_true] at q
    obtain ⟨q1, q2⟩ := q
    split at q2
    · rename_i x s pos hx
      obtain rfl := xSub_eq hx
      rw [Bool.and_eq_true] at q2
      cases hy : xRev s with
      | none => rw [hy] at q2; cases q2.1
      | some z =>
        obtain ⟨kk, y1, y2, y3⟩ := z
        obtain rfl := xRev_eq hy
        exact okE_fin q1 (pe_drev k.xw.hK (chkE_ok h a fr false x q2.2 X g0 E k tk))
    · cases q2
  | .bi b es, fr, t, e, q, X, g0, E, k, tk => by
    rw [chkE, Bool.and_eq_true] at q
    obtain ⟨q1, q2⟩ := q
    split at q2
    · rename_i x p xs pos hx
      obtain rfl := xCall_eq hx
      rw [Bool.and_eq_true, Bool.and_eq_true] at q2
      obtain ⟨⟨q3, q4⟩, q5⟩ := q2
      refine okE_fin q1 ?_
      split at q5
      · rename_i m ea et
        simp only [Bool.and_eq_true, decide_eq_true_eq] at q5
        obtain ⟨⟨⟨rfl, q6⟩, q7⟩, q8⟩ := q5
        split at q7
        · rename_i y py hy
          obtain rfl := xName_eq hy
          simp only [Bool.and_eq_true, decide_eq_true_eq] at q7
          exact isinst_fin (x := "isinstance") h k q3 q4 q6 q7.1.1 q7.1.2 q7.2 (chkEs_ok h es fr _ q8 X g0 E k tk)
        · cases q7
      · rename_i inner
        simp only [Bool.and_eq_true, decide_eq_true_eq] at q5
        obtain ⟨rfl, q7⟩ := q5
        split at q7
        · rename_i y py ys pos2 hy
          obtain rfl := xCall_eq hy
          simp only [Bool.and_eq_true, decide_eq_true_eq, Bool.or_eq_true] at q7
          obtain ⟨⟨⟨⟨rfl, q6⟩, q7⟩, q8⟩, q9⟩ := q7
          exact lrange_fin h k q3 q4 q6 q7 q8 (chkEs_ok h es fr _ q9 X g0 E k tk)
        · cases q7
      · simp only [Bool.and_eq_true, decide_eq_true_eq, Bool.not_eq_true'] at q5
        exact bi_fin (e := .Name x p) h k tk q3 q4 q5.1.1 q5.1.2 (chkEs_ok h es fr _ q5.2 X g0 E k tk)
    · cases q2
  | .mt b a e', fr, t, e, q, X, g0, E, k, tk => by
    rw [chkE, Bool.and_eq_true] at q
    obtain ⟨q1, q2⟩ := q
    split at q2
    · rename_i o m ap arg pos hx
      obtain rfl := xMeth_eq hx
      simp only [Bool.and_eq_true, decide_eq_true_eq, Bool.or_eq_true] at q2
      obtain ⟨⟨⟨⟨⟨q3, q4⟩, q5⟩, q6⟩, q7⟩, q8⟩ := q2
      exact okE_fin q1 (mt_fin k q3 q4 q5 q6 (chkE_ok h a fr false o q7 X g0 E k tk) (chkE_ok h e' fr false arg q8 X g0 E k tk))
    · cases q2
  | .call f es, fr, t, e, q, X, g0, E, k, tk => by
    rw [chkE, Bool.and_eq_true] at q
    obtain ⟨q1, q2⟩ := q
    split at q2
    · rename_i x p xs pos hx
      obtain rfl := xCall_eq hx
      simp only [Bool.and_eq_true, decide_eq_true_eq] at q2
      exact okE_fin q1 (call_fin h k tk q2.1.1 q2.1.2 (chkEs_ok h es fr _ q2.2 X g0 E k tk))
    · cases q2
  | .callK f ord es, fr, t, e, q, X, g0, E, k, tk => by
    rw [chkE, Bool.and_eq_true] at q
    obtain ⟨q1, q2⟩ := q
    split at q2
    · rename_i x p kws pos hx
      obtain rfl := xCallK_eq hx
      simp only [Bool.and_eq_true, decide_eq_true_eq] at q2
      obtain ⟨⟨⟨⟨q3, q4⟩, q5⟩, q6⟩, q7⟩ := q2
      exact okE_fin q1 (callK_fin h k tk q3 q4 q5 q6 (chkEs_ok h es fr _ q7 X g0 E k tk))
    · cases q2
  | .clo kk, fr, t, e, q, X, g0, E, k, tk => by
    rw [chkE, Bool.and_eq_true] at q
    obtain ⟨q1, q2⟩ := q
    split at q2
    · rename_i a b c p hx
      obtain rfl := xLam_eq hx
      split at q2
      · rename_i L l hL hl
        exact okE_fin q1 (lam_ok k (by rw [h.lam]; exact hL) hl q2)
      · cases q2
    · cases q2
  | .app i es, fr, t, e, q, X, g0, E, k, tk => by
    rw [chkE, Bool.and_eq_true] at q
    obtain ⟨q1, q2⟩ := q
    split at q2
    · rename_i x p xs pos hx
      obtain rfl := xCall_eq hx
      simp only [Bool.and_eq_true] at q2
      exact okE_fin q1 (app_fin h k tk q2.1 (chkEs_ok h es fr _ q2.2 X g0 E k tk))
    · cases q2
  | .mget i f, fr, t, e, q, X, g0, E, k, tk => by
    rw [chkE, Bool.and_eq_true] at q
    obtain ⟨q1, q2⟩ := q
    split at q2
    · rename_i x p1 kk j p2 pos hx
      obtain rfl := xFld_eq hx
      rw [Bool.and_eq_true, decide_eq_true_eq] at q2
      obtain ⟨q3, rfl⟩ := q2
      obtain ⟨l1, l2, l3, l4⟩ := k.loc q3
      exact okE_fin q1 (pe_mget k.xw.hu l1 l2 l3 l4)
    · cases q2
  | .comp own tg it es ifs elt, fr, t, e, q, X, g0, E, k, tk => by
    rw [chkE, Bool.and_eq_true] at q
    obtain ⟨q1, q2⟩ := q
    split at q2
    · rename_i elt' tg' iter ifs' sc pos hx
      obtain rfl := xComp_eq hx
      simp only [Bool.and_eq_true, decide_eq_true_eq] at q2
      obtain ⟨⟨⟨⟨⟨⟨q3, q4⟩, q5⟩, q6⟩, q7⟩, q8⟩, q9⟩ := q2
      refine okE_fin q1 (comp_fin k tk ⟨q3, blkOk_by q4, q5, ?_, fun X g0 k => tg_ok k tg tg' q7, fun X g0 E k tk => chkIfs_ok h ifs _ ifs' q8 X g0 E k tk, fun X g0 E k tk => chkE_ok h elt _ false elt' q9 X g0 E k tk⟩)
      split at q6
      · rename_i xs hxs
        exact fun X g0 E f k tk => it_ok h k hxs (chkEs_ok h es fr xs q6 X g0 E k tk)
      · cases q6
    · cases q2
theorem chkEs_ok (h : Hyp W xc C n tb fad LA cf ca) : ∀ (is : List IR) (fr : Fr) (xs : List Expr), chkEs tb LA W.P.lams is fr xs = true → ∀ (X : Cx) (g0 : G × Hp) (E : WX), FrOk W C n fr X → Takes X E → AllE W xc cf ca X g0 E is xs
  | [], fr, xs, q, X, g0, E, k, tk => by
    rw [chkEs, List.isEmpty_iff] at q
    subst q
    exact ⟨rfl, .nil⟩
  | i :: is, fr, xs, q, X, g0, E, k, tk => by
    cases xs with
    | nil => simp [chkEs] at q
    | cons x r =>
      simp only [chkEs, Bool.and_eq_true] at q
      obtain ⟨a, b⟩ := chkEs_ok h is fr r q.2 X g0 E k tk
      exact ⟨by simp [q.1.1, a], .cons (chkE_ok h i fr false x q.1.2 X g0 E k tk) b⟩
theorem chkO_ok (h : Hyp W xc C n tb fad LA cf ca) : ∀ (o : Option IR) (fr : Fr) (x : Option Expr), chkO tb LA W.P.lams o fr x = true → ∀ (X : Cx) (g0 : G × Hp) (E : WX), FrOk W C n fr X → Takes X E → PO X x (TOp W xc X g0 E (evalO W.P cf ca o))
  | none, fr, x, q, X, g0, E, k, tk => by
    cases x with
    | none => exact po_dnone
    | some y => simp [chkO] at q
  | some i, fr, x, q, X, g0, E, k, tk => by
    cases x with
    | none => simp [chkO] at q
    | some y =>
      simp only [chkO] at q
      exact po_dsome (chkE_ok h i fr false y q X g0 E k tk)
theorem chkIfs_ok (h : Hyp W xc C n tb fad LA cf ca) : ∀ (is : List IR) (fr : Fr) (xs : List Expr), chkIfs tb LA W.P.lams is fr xs = true → ∀ (X : Cx) (g0 : G × Hp) (E : WX), FrOk W C n fr X → Takes X E → PTs X xs (TBo W xc X g0 E (evalIfs W.P cf ca is))
  | [], fr, xs, q, X, g0, E, k, tk => by
    rw [chkIfs, List.isEmpty_iff] at q
    subst q
    exact ⟨fun pins s σ H Q I ⟨g, ρ, m, fs, p⟩ => pts_nil.run pins s σ H Q I (p.at fs (b := true) rfl)⟩
  | i :: is, fr, xs, q, X, g0, E, k, tk => by
    match xs, q with
    | [], q => simp [chkIfs] at q
    | _ :: _ :: _, q => simp [chkIfs] at q
    | [x], q =>
      simp only [chkIfs, Bool.and_eq_true, List.isEmpty_iff] at q
      obtain ⟨q1, q2⟩ := q
      subst q1
      have r := pts_one (chkE_ok h i fr true x q2 X g0 E k tk)
      have e : evalIfs W.P cf ca [i] = fun ρ => M.bind (evalE W.P cf ca i ρ) fun x => ofO (asBl x) := by
        funext ρ
        show (M.bind (evalE W.P cf ca i ρ) fun x => M.bind (ofO (asBl x)) fun t => if t then ret1 true else ret1 false) = _
        refine bind_cong fun x => ?_
        cases asBl x with
        | none => rfl
        | some b => cases b <;> rfl
      rw [e]
      exact r
end
end
end Di
end
section
set_option Elab.async false
set_option linter.all false
set_option maxRecDepth 100000
set_option maxHeartbeats 4000000
/-! Di.Try: try: body / several clauses `except C as n`. -/
namespace Di
open PySem PySem.Spec PyProof.Rows L2 LamX NdefX
/-- the ends of a clause's suite: its name goes -/
def cutN (i : Nat) (D : Ends) : Ends := { nx := fun τ H => D.nx (τ.set i none) H, rt := D.rt, bk := fun τ H => D.bk (τ.set i none) H, ct := fun τ H => D.ct (τ.set i none) H }
abbrev Cl : Type := Value × (Addr → Value → Option Addr → TS)
/-- what the clauses wish of the body's exception; slot i is the name's -/
def wAsM (K : PySem.W.Frag) (i : Nat) (Wo : WX) (D : Ends) : List Cl → WX
  | [] => Wo
  | p :: r => fun cls d τ H => ∃ y : Bool, PySem.W.exmOne K cls p.1 = some y ∧ (y = true → ∀ a : Addr, H a = none → i < τ.length → p.2 a cls d (cutN i D) (τ.set i (some (.ref a))) H) ∧ (y = false → wAsM K i Wo D r cls d τ H)
inductive HdsA (X : Cx) (n : Str) : List ExceptHandler → List Cl → Prop
  | nil : HdsA X n [] []
  | cons {x : Str} {p : Cl} {st : Stmt} {np hp : Pos} {hs : List ExceptHandler} {l : List Cl} (nm : Names X x p.1)
      (su : ∀ (a : Addr) (o : Obj) (cls : Value) (d : Option Addr) (pn : List (Addr × Obj)), Zc cls d o → (∃ fs, o.data = .fields fs) → PSs (X.suite a ((a, o) :: pn)) [st] (p.2 a cls d)) (r : HdsA X n hs l) :
      HdsA X n (.ExceptHandler (some (.Name x np)) (some n) [st] hp :: hs) (p :: l)
section
variable {X : Cx} {n : Str} {i : Nat} {D : Ends} {Wo : WX} {a : Addr} {B : Heap} {sI s1 : Shared} {pins : List (Addr × Obj)} {τ : L2.St} {H : Hp} {cls : Value} {d : Option Addr}
/-- the exception has landed: it is caught, known to be none of the frames' -/
structure Land (X : Cx) (pins : List (Addr × Obj)) (τ : L2.St) (H : Hp) (a : Addr) (B : Heap) (cls : Value) (d : Option Addr) (sI s1 : Shared) (h : Heap) : Prop where
  inv : L2.Inv X pins τ H sI
  nb : ∀ b o, sI.heap.get? b = some o → b ∉ frs X.stack → B.get? b = some o
  na : H a = none
  os : s1.os = sI.os
  ag : AllBare s1.gens
  fl : HandSPX.FlyingZ B (X.env :: X.outer) a (Zc cls d) h
  up : sI.heap.UpToSlots h
theorem Land.at (L : Land X pins τ H a B cls d sI s1 h) : L2.Inv X pins τ H { s1 with heap := h } := Inv.landed (s' := { s1 with heap := h }) L.inv L.nb L.fl.1 L.up L.os L.ag
theorem Land.apart (hf : X.env.frame = some X.env.locals) (L : Land X pins τ H a B cls d sI s1 h) : a ≠ X.env.locals ∧ a ∉ X.fs := by
  obtain ⟨ob, fs, e1, _, e3⟩ := L.fl.there
  have out : a ∉ frs (X.env :: X.outer) := fun m => by
    obtain ⟨_, o2, g1, g2⟩ := L.fl.2.2.1.mem m
    rw [e1] at g1
    cases g1
    exact g2 _ e3
  refine ⟨fun z => out (List.mem_filterMap.mpr ⟨X.env, List.mem_cons_self, by rw [hf, z]⟩), fun m => ?_⟩
  obtain ⟨v, h1, h2⟩ := List.mem_filterMap.mp m
  exact out (List.mem_filterMap.mpr ⟨v, List.mem_cons_of_mem _ h1, h2⟩)
/-- no clause is left: it flies on -/
theorem land_on (hs : X.stack = X.env :: X.outer) (hf : X.env.frame = some X.env.locals) (tk : Takes X Wo) (L : Land X pins τ H a B cls d sI s1 h) (w : Wo cls d τ H) : wpAny (model X.prog X.w) X.A (handleBy (.ref a) X.env []) (SP X pins D) X.xe { s1 with heap := h } := by
  refine wpAny_handleBy_nil ?_
  have fl := L.fl
  obtain ⟨_, _, _, ob, fs, T, oT, _, e1, _, e3, e4, _⟩ := id fl
  have up2 : wpAny (model X.prog X.w) X.A (setFlight (.ref a) X.env.frame) (fun _ t => wpAny (model X.prog X.w) X.A (throw (.ref a) : Sem Flow) (SP X pins D) X.xe t) X.xe { s1 with heap := h } := by
    rw [hf]
    refine HandSPX.setFlight_upZ fl fun h2 held u2 => wpAny_throw (tk _ _ ⟨a, B, sI, pins, τ, H, cls, d, rfl, L.inv, L.nb, L.up.trans u2, .inr (.inr ?_), L.na, L.os, L.ag, w⟩)
    rw [hs]
    exact held
  unfold PySem.passOn
  refine wpAny_bind (wpAny_field e1 e3 e4 ?_)
  rw [if_neg (show ¬ ((Value.ref T == Value.none) = true) by simp)]
  first
    | exact wpAny_bind (wpAny_pure (wpAny_bind up2))
    | exact wpAny_bind up2
/-- a clause after the other -/
theorem land_by (hs : X.stack = X.env :: X.outer) (hf : X.env.frame = some X.env.locals) (nd : X.N.Nodup) (hi : X.N[i]? = some n) (hl : X.env.kindOf n = some .local) (tk : Takes X Wo) (L : Land X pins τ H a B cls d sI s1 h) :
    ∀ {hds : List ExceptHandler} {l : List Cl}, HdsA X n hds l → wAsM X.K i Wo D l cls d τ H → wpAny (model X.prog X.w) X.A (handleBy (.ref a) X.env hds) (SP X pins D) X.xe { s1 with heap := h } := by
  intro hds l q
  induction q with
  | nil => exact fun w => land_on hs hf tk L w
  | @cons x p st np hp hs2 l2 nm su r ih =>
    rintro ⟨y, m, yes, no⟩
    have ok := L.inv.ok
    obtain ⟨aL, aF⟩ := L.apart hf
    obtain ⟨ob, fs, e1, e2, e3⟩ := L.fl.there
    have J := L.at
    have S := J.suite e1 e3 L.na aL aF
    refine wpAny_handleBy_cons (codeAny_handlers_test ?_) (by intro z; cases z)
    have ty : PySem.W.Looks (model X.prog X.w) h (typeOf (.ref a)) cls := fun _ _ _ _ k z => wpAny_typeOf_ref (k _ _ e1) (by rw [e2.1]; exact z)
    have LM := PySem.W.exm_one (M := model X.prog X.w) J.kIn ty m
    have named : ∀ {Q : Value → Shared → Prop} {E : Value → Shared → Prop}, Q p.1 { s1 with heap := h } → wpAny (model X.prog X.w) (X.A.mark (some (.ref a))) (eval (.Name x np) X.env) Q E { s1 with heap := h } := fun {Q E} z => by
      obtain ⟨g1, g2, g3 | ⟨g3, g4, g5⟩⟩ := nm
      · exact ld_glob (X := X.suite a ((a, ob) :: (X.pn ++ pins))) S g1 g3 z g2
      · exact ld_blt (X := X.suite a ((a, ob) :: (X.pn ++ pins))) S g1 g3 g4 z g5 g2
    refine named (LM.here ?_)
    cases y with
    | false => exact ih (no rfl)
    | true =>
      refine codeAny_handlers_suite_as (HandSPX.lands_againZ L.fl fun h2 fl2 u2 => ?_)
      have LL : Land X pins τ H a B cls d sI s1 h2 := ⟨L.inv, L.nb, L.na, L.os, L.ag, fl2, L.up.trans u2⟩
      obtain ⟨o2, f2, k1, k2, k3⟩ := fl2.there
      have S2 := LL.at.suite k1 k3 L.na aL aF
      have hlt : i < τ.length := by
        rw [L.inv.len]
        exact (List.getElem?_eq_some_iff.mp hi).1
      refine store_ok (X := X.suite a ((a, o2) :: (X.pn ++ pins))) (v := .ref a) S2 nd hi (.inl hl) rfl (fun t St => ?_) (.inr hl)
      refine wpAny_mono ((su a o2 cls d (X.pn ++ pins) k2 ⟨_, k3⟩).run [] t _ H _ St (yes rfl a L.na hlt)) (fun f t2 sp => ?_) (fun _ _ z => z.elim)
      have out : ∀ {υ : L2.St} {G : Hp} {Q : Shared → Prop}, L2.Inv (X.suite a ((a, o2) :: (X.pn ++ pins))) [] υ G t2 → (∀ t3, L2.Inv X pins (υ.set i none) G t3 → Q t3) →
          wpAny (model X.prog X.w) X.A (do bindName X.env n .none; unbindBehindTheSuite X.env n hp) (fun _ t3 => Q t3) X.xe t2 := fun {υ G Q} I z => gone_ok (I.unsuite ok) nd hi hl z
      cases f with
      | ret u =>
        obtain ⟨v, υ, G, I, rv, w⟩ := sp
        exact out I fun t3 I3 => ⟨_, _, _, I3, rv, w⟩
      | next =>
        obtain ⟨υ, G, I, w⟩ := sp
        exact out I fun t3 I3 => ⟨_, _, I3, w⟩
      | brk =>
        obtain ⟨υ, G, I, w⟩ := sp
        exact out I fun t3 I3 => ⟨_, _, I3, w⟩
      | cont =>
        obtain ⟨υ, G, I, w⟩ := sp
        exact out I fun t3 I3 => ⟨_, _, I3, w⟩
theorem ps_try_asMany {body : List Stmt} {h0 : ExceptHandler} {hds : List ExceptHandler} {l : List Cl} {pos : Pos} {tb : WX → TS} (hs : X.stack = X.env :: X.outer) (hf : X.env.frame = some X.env.locals) (nd : X.N.Nodup) (hi : X.N[i]? = some n) (hl : X.env.kindOf n = some .local) (tk : Takes X Wo)
    (hb : ∀ (V : WX) (pn : List (Addr × Obj)) (xe : Value → Shared → Prop), Takes (X.tr pn xe) V → PSs (X.tr pn xe) body (tb V)) (hh : HdsA X n (h0 :: hds) l) : PS X (.Try body (h0 :: hds) [] [] pos) (fun D σ H => tb (wAsM X.K i Wo D l) D σ H) := by
  refine ⟨fun pins s σ H D I q => wpAny_Try_except ?_⟩
  have ok := I.ok
  have fr : X.A.frames = some (X.env :: X.outer) := by rw [ok.frames, hs]
  refine wpAny_mono ((hb (wAsM X.K i Wo D l) (X.pn ++ pins) (fun e t => wpAny (model X.prog X.w) X.A (noteFrame e X.env) (fun _ t2 => wpAny (model X.prog X.w) X.A (setFlight e none) (fun _ t3 => wpAny (model X.prog X.w) X.A (handleBy e X.env (h0 :: hds)) (SP X pins D) X.xe t3) X.xe t2) X.xe t) (fun u t xx => ?_)).run [] s σ H D (I.toTry _) q) (fun f t sp => ?_) (fun _ _ z => z)
  · obtain ⟨a, B, sI, pins2, τ, G, cls, d, rfl, J, nb, up, sky, na, os, ag, w⟩ := xx
    have J2 : L2.Inv X pins τ G sI := J.ofTry ok
    have sk : Sky B (X.env :: X.outer) a (Zc cls d) X.env.locals t.heap := by rw [← hs]; exact sky
    show wpAny (model X.prog X.w) X.A (noteFrame (.ref a) X.env) _ _ t
    exact Sky.land Zc.steady fr hf sk fun h3 fl3 u3 => land_by hs hf nd hi hl tk ⟨J2, nb, na, os, ag, fl3, up.trans u3⟩ hh w
  · cases f with
    | ret u =>
      obtain ⟨v, τ, G, J, rv, w⟩ := sp
      exact ⟨v, τ, G, J.ofTry ok, rv, w⟩
    | next =>
      obtain ⟨τ, G, J, w⟩ := sp
      exact wpAny_execs_nil ⟨τ, G, J.ofTry ok, w⟩
    | brk =>
      obtain ⟨τ, G, J, w⟩ := sp
      exact ⟨τ, G, J.ofTry ok, w⟩
    | cont =>
      obtain ⟨τ, G, J, w⟩ := sp
      exact ⟨τ, G, J.ofTry ok, w⟩
end
end Di
end
section
set_option Elab.async false
set_option linter.all false
set_option maxRecDepth 100000
set_option maxHeartbeats 4000000
/-! Di.Stm: statements of the text against the language's: single forms. -/
namespace Di
open PySem PySem.Spec PyProof.Rows L2 LamX NdefX
/-! ### destructors -/
def sAssign : Stmt → Option (Expr × Expr × Pos)
  | .Assign [t] v p => some (t, v, p)
  | _ => none
theorem sAssign_eq {s : Stmt} {t v : Expr} {p : Pos} (h : sAssign s = some (t, v, p)) : s = .Assign [t] v p := by
  unfold sAssign at h
  split at h
  · cases h; rfl
  · cases h
def sAug : Stmt → Option (Str × Pos × Operator × Expr × Pos)
  | .AugAssign (.Name x p1) o e p => some (x, p1, o, e, p)
  | _ => none
theorem sAug_eq {s : Stmt} {x : Str} {p1 p : Pos} {o : Operator} {e : Expr} (h : sAug s = some (x, p1, o, e, p)) : s = .AugAssign (.Name x p1) o e p := by
  unfold sAug at h
  split at h
  · cases h; rfl
  · cases h
def sPush : Stmt → Option (Str × Pos × Str × Pos × Expr × Pos × Pos)
  | .Expr (.Call (.Attribute (.Name x p1) m ap) [e] [] cp) p => some (x, p1, m, ap, e, cp, p)
  | _ => none
theorem sPush_eq {s : Stmt} {x m : Str} {p1 ap cp p : Pos} {e : Expr} (h : sPush s = some (x, p1, m, ap, e, cp, p)) : s = .Expr (.Call (.Attribute (.Name x p1) m ap) [e] [] cp) p := by
  unfold sPush at h
  split at h
  · cases h; rfl
  · cases h
def sExpr : Stmt → Option (Expr × Pos)
  | .Expr e p => some (e, p)
  | _ => none
theorem sExpr_eq {s : Stmt} {e : Expr} {p : Pos} (h : sExpr s = some (e, p)) : s = .Expr e p := by
  unfold sExpr at h
  split at h
  · cases h; rfl
  · cases h
def sRet : Stmt → Option (Option Expr × Pos)
  | .Return e p => some (e, p)
  | _ => none
theorem sRet_eq {s : Stmt} {e : Option Expr} {p : Pos} (h : sRet s = some (e, p)) : s = .Return e p := by
  unfold sRet at h
  split at h
  · cases h; rfl
  · cases h
def sRse : Stmt → Option (Str × Pos × Expr × Pos × Pos)
  | .Raise (some (.Call (.Name x p) [e] [] cp)) none pos => some (x, p, e, cp, pos)
  | _ => none
theorem sRse_eq {s : Stmt} {x : Str} {p cp pos : Pos} {e : Expr} (h : sRse s = some (x, p, e, cp, pos)) : s = .Raise (some (.Call (.Name x p) [e] [] cp)) none pos := by
  unfold sRse at h
  split at h
  · cases h; rfl
  · cases h
def sIf : Stmt → Option (Expr × List Stmt × List Stmt × Pos)
  | .If c a b p => some (c, a, b, p)
  | _ => none
theorem sIf_eq {s : Stmt} {c : Expr} {a b : List Stmt} {p : Pos} (h : sIf s = some (c, a, b, p)) : s = .If c a b p := by
  unfold sIf at h
  split at h
  · cases h; rfl
  · cases h
def sFor : Stmt → Option (Expr × Expr × List Stmt × Pos)
  | .For t i b [] p => some (t, i, b, p)
  | _ => none
theorem sFor_eq {s : Stmt} {t i : Expr} {b : List Stmt} {p : Pos} (h : sFor s = some (t, i, b, p)) : s = .For t i b [] p := by
  unfold sFor at h
  split at h
  · cases h; rfl
  · cases h
def sWhile : Stmt → Option (Expr × List Stmt × Pos)
  | .While t b [] p => some (t, b, p)
  | _ => none
theorem sWhile_eq {s : Stmt} {t : Expr} {b : List Stmt} {p : Pos} (h : sWhile s = some (t, b, p)) : s = .While t b [] p := by
  unfold sWhile at h
  split at h
  · cases h; rfl
  · cases h
def sTry : Stmt → Option (Expr × Pos × ExceptHandler × List ExceptHandler × Pos)
  | .Try [.Return (some e) rp] (h0 :: hs) [] [] p => some (e, rp, h0, hs, p)
  | _ => none
theorem sTry_eq {s : Stmt} {e : Expr} {rp p : Pos} {h0 : ExceptHandler} {hs : List ExceptHandler} (h : sTry s = some (e, rp, h0, hs, p)) : s = .Try [.Return (some e) rp] (h0 :: hs) [] [] p := by
  unfold sTry at h
  split at h
  · cases h; rfl
  · cases h
def sHd : ExceptHandler → Option (Str × Pos × Str × Expr × Pos × Pos)
  | .ExceptHandler (some (.Name x np)) (some n) [.Return (some e) rp] hp => some (x, np, n, e, rp, hp)
  | _ => none
theorem sHd_eq {s : ExceptHandler} {x n : Str} {np rp hp : Pos} {e : Expr} (h : sHd s = some (x, np, n, e, rp, hp)) : s = .ExceptHandler (some (.Name x np)) (some n) [.Return (some e) rp] hp := by
  unfold sHd at h
  split at h
  · cases h; rfl
  · cases h
def sNew : Stmt → Option (Expr × Expr × Expr × Expr × Pos × (Nat × Nat × Nat × Nat) × (Pos × Pos × Pos × Pos) × Pos × (Str × Str × Str × Str))
  | .Return (some (.Dict [some (.Constant (.str s1) j1 q1), some (.Constant (.str s2) j2 q2), some (.Constant (.str s3) j3 q3), some (.Constant (.str s4) j4 q4)] [e1, e2, e3, e4] dp)) p => some (e1, e2, e3, e4, dp, (j1, j2, j3, j4), (q1, q2, q3, q4), p, (s1, s2, s3, s4))
  | _ => none
theorem sNew_eq {s : Stmt} {e1 e2 e3 e4 : Expr} {dp p q1 q2 q3 q4 : Pos} {j1 j2 j3 j4 : Nat} {s1 s2 s3 s4 : Str} (h : sNew s = some (e1, e2, e3, e4, dp, (j1, j2, j3, j4), (q1, q2, q3, q4), p, (s1, s2, s3, s4))) :
    s = .Return (some (.Dict [some (.Constant (.str s1) j1 q1), some (.Constant (.str s2) j2 q2), some (.Constant (.str s3) j3 q3), some (.Constant (.str s4) j4 q4)] [e1, e2, e3, e4] dp)) p := by
  unfold sNew at h
  split at h
  · cases h; rfl
  · cases h
def sPass : Stmt → Bool
  | .Pass _ => true
  | .Expr (.Constant (.str _) _ _) _ => true
  | _ => false
/-! ### swaps -/
def blkK (sc : Scope) : ScopeKind := if sc.kind.isAnnotationScope then .function else sc.kind
/-- whether a comprehension is stored by a swap -/
def swB (sc : Scope) (x : Str) (p : Pos) : Expr → Bool
  | .ListComp _ _ s vp => blkK sc == .function && sc.names.lookup x == some .local && p.line == vp.line && !(s.names.any fun (n, k) => n == x && (k == .local || k == .cell))
  | .SetComp _ _ s vp => blkK sc == .function && sc.names.lookup x == some .local && p.line == vp.line && !(s.names.any fun (n, k) => n == x && (k == .local || k == .cell))
  | .DictComp _ _ _ s vp => blkK sc == .function && sc.names.lookup x == some .local && p.line == vp.line && !(s.names.any fun (n, k) => n == x && (k == .local || k == .cell))
  | _ => false
theorem sw_name {v : Expr} {x : Str} {p : Pos} {l : Nat} {env : PySem.Env} : swapsWith v (some (.Name x p)) l env = pure (swB env.scope x p v) := by
  cases v <;> rfl
theorem sw_sub {v a b : Expr} {p : Pos} {l : Nat} {env : PySem.Env} : swapsWith v (some (.Subscript a b p)) l env = pure false := by
  cases v <;> rfl
theorem sw_tup {v : Expr} {es : List Expr} {k : Nat} {p : Pos} {l : Nat} {env : PySem.Env} : swapsWith v (some (.Tuple es k p)) l env = pure false := by
  cases v <;> rfl
theorem ss_name {v : Expr} {x : Str} {p : Pos} {env : PySem.Env} : swappedStores [.Name x p] v env = pure none := rfl
theorem ss_sub {v a b : Expr} {p : Pos} {env : PySem.Env} : swappedStores [.Subscript a b p] v env = pure none := rfl
def notTup : Expr → Bool
  | .Tuple .. => false
  | _ => true
theorem ss_tup {v : Expr} {es : List Expr} {k : Nat} {p : Pos} {env : PySem.Env} (h : notTup v = true) : swappedStores [.Tuple es k p] v env = pure none := by
  cases v <;> first | rfl | cases h
/-- two names at once: stored by a swap or not -/
def swp2 (sc : Scope) (x y : Str) (px py : Pos) (a b : Expr) : Option Bool :=
  if blkK sc = .function ∧ notStar a = true ∧ notStar b = true then
    if sc.names.lookup x = some .local ∧ sc.names.lookup y = some .local ∧ py.line = px.line ∧ x ≠ y then
      if foldedForSure 8 a = true ∧ foldedForSure 8 b = true then some false
      else if constantsAlone 8 a = true ∧ constantsAlone 8 b = true then none
      else some true
    else if sc.names.lookup x = some .local ∧ sc.names.lookup y = some .local ∧ py.line = px.line then none
    else some false
  else none
theorem swp2_ok {env : PySem.Env} {x y : Str} {px py pt pt2 : Pos} {kt k2 : Nat} {a b : Expr} {r : Bool} (h : swp2 env.scope x y px py a b = some r) :
    swappedStores [.Tuple [.Name x px, .Name y py] kt pt] (.Tuple [a, b] k2 pt2) env = pure (if r then some [x, y] else none) := by
  unfold swp2 at h
  split at h
  · rename_i c
    obtain ⟨c1, c2, c3⟩ := c
    have c1 : env.blockKind = .function := c1
    unfold swappedStores
    dsimp only
    rw [c1]
    have t1 : (!(([Expr.Name x px, Expr.Name y py].length == 2 || [Expr.Name x px, Expr.Name y py].length == 3)) || [a, b].length != [Expr.Name x px, Expr.Name y py].length || (ScopeKind.function != ScopeKind.function)) = false := rfl
    rw [t1]
    refine Eq.trans (if_neg (by decide)) (Eq.trans (if_neg ?_) ?_)
    · cases a <;> first | (cases c2; done) | (cases b <;> first | (cases c3; done) | (intro z; cases z; done))
    split at h
    · rename_i d
      obtain ⟨d1, d2, d3, d4⟩ := d
      have k1 : (env.kindOf x == some NameKind.local && px.line == px.line) = true := by
        show (env.scope.names.lookup x == some NameKind.local && px.line == px.line) = true
        rw [d1]; simp
      have k2 : (env.kindOf y == some NameKind.local && py.line == px.line) = true := by
        show (env.scope.names.lookup y == some NameKind.local && py.line == px.line) = true
        rw [d2, d3]; simp
      have e1 : (x == y) = false := by simpa using d4
      have e2 : (y == x) = false := by simpa using Ne.symm d4
      have t2 : ((!(2 == 2 || 2 == 3)) : Bool) = false := rfl
      simp only [List.head?_cons, Option.map_some, Option.getD_some, Expr.pos, List.filterMap_cons, k1, k2, if_true, List.filterMap_nil, List.length_cons, List.length_nil, List.all_cons, List.all_nil, Bool.and_true]
      have ed : [x, y].eraseDups.length = 2 := by
        simp [List.eraseDups_cons, List.filter, e2, d4, Ne.symm d4]
      rw [ed]
      split at h
      · rename_i f
        cases h
        simp [f.1, f.2]
      · rename_i f
        split at h
        · cases h
        · rename_i g
          cases h
          have f' : (foldedForSure 8 a && foldedForSure 8 b) = false := by
            cases q : foldedForSure 8 a <;> cases q2 : foldedForSure 8 b <;> simp_all
          have g' : (constantsAlone 8 a && constantsAlone 8 b) = false := by
            cases q : constantsAlone 8 a <;> cases q2 : constantsAlone 8 b <;> simp_all
          simp [f', g']
    · rename_i d
      split at h
      · cases h
      · rename_i d2
        cases h
        by_cases k1 : (env.kindOf x == some NameKind.local && px.line == px.line) = true
        · have k2 : (env.kindOf y == some NameKind.local && py.line == px.line) = false := by
            cases q : (env.kindOf y == some NameKind.local && py.line == px.line) with
            | false => rfl
            | true =>
              exfalso
              simp only [Bool.and_eq_true, beq_iff_eq] at k1 q
              exact d2 ⟨k1.1, q.1, q.2⟩
          simp only [List.head?_cons, Option.map_some, Option.getD_some, Expr.pos, List.filterMap_cons, k1, k2, if_true, List.filterMap_nil, List.length_cons, List.length_nil]
          rfl
        · have k1 : (env.kindOf x == some NameKind.local && px.line == px.line) = false := by simpa using k1
          by_cases k2 : (env.kindOf y == some NameKind.local && py.line == px.line) = true
          · simp only [List.head?_cons, Option.map_some, Option.getD_some, Expr.pos, List.filterMap_cons, k1, k2, if_true, List.filterMap_nil, List.length_cons, List.length_nil]
            rfl
          · have k2 : (env.kindOf y == some NameKind.local && py.line == px.line) = false := by simpa using k2
            simp only [List.head?_cons, Option.map_some, Option.getD_some, Expr.pos, List.filterMap_cons, k1, k2, if_true, List.filterMap_nil, List.length_cons, List.length_nil]
            rfl
  · cases h
end Di
end
section
set_option Elab.async false
set_option linter.all false
set_option maxRecDepth 100000
set_option maxHeartbeats 4000000
/-! Di.Stk: statements: the look, and that it is sound. -/
namespace Di
open PySem PySem.Spec PyProof.Rows L2 LamX NdefX
mutual
def tgSl : Tg → List Nat
  | .n i => [i]
  | .t ts => tgSls ts
def tgSls : List Tg → List Nat
  | [] => []
  | t :: r => tgSl t ++ tgSls r
end
def isFresh : IR → Bool
  | .lst _ => true
  | .dct0 => true
  | .comp .. => true
  | _ => false
def isFrz : ST → Bool
  | .frz _ => true
  | _ => false
/-! ### a handler's answer -/
def fldB (n f : Str) (e : Expr) : Bool := match e with
  | .Attribute (.Name x _) g _ => decide (x = n) && decide (g = f)
  | _ => false
def hkB (d : D) (e : Expr) : Bool := match d, e with
  | .non, .Constant .none _ _ => true
  | .int i, .Constant (.int j) _ _ => decide (i = j)
  | .str i, .Constant (.str j) _ _ => decide (i = j)
  | _, _ => false
mutual
def chkH (n f : Str) : HE → Expr → Bool
  | .fld, e => fldB n f e
  | .k d, e => hkB d e
  | .tup es, e => match xTup e with
    | some (xs, _, _) => decide (es.length ≤ 1000) && chkHs n f es xs
    | none => false
  | .lst _, _ => false
def chkHs (n f : Str) : List HE → List Expr → Bool
  | [], xs => xs.isEmpty
  | h :: r, xs => match xs with
    | [] => false
    | x :: t => notStar x && chkH n f h x && chkHs n f r t
end
section
variable (tb : Tb) (LA : List LamA) (LI : List LamI)
def chkHd (fr : Fr) (n : Str) (k : Nat × HE) (h : ExceptHandler) : Bool := match sHd h with
  | some (x, _, m, e, _, _) => decide (m = n) && gloB fr x && (match tb.glob.lookup x with
    | some (.exc c f) => decide (c = k.1) && chkH n f k.2 e
    | _ => false)
  | none => false
def chkHds (fr : Fr) (n : Str) : List (Nat × HE) → List ExceptHandler → Bool
  | [], [] => true
  | k :: r, h :: t => chkHd tb fr n k h && chkHds fr n r t
  | _, _ => false
/-- the name that the clauses give -/
def hdN : ExceptHandler → Str
  | .ExceptHandler _ (some n) _ _ => n
  | _ => ""
def chkPar (fr : Fr) (i j : Nat) (o1 o2 : Bool) (a b : IR) (t v : Expr) : Bool := match xTup t, xTup v with
  | some ([tx, ty], _, _), some ([ea, eb], _, _) => (match xName tx, xName ty with
    | some (x, px), some (y, py) => decide (i ≠ j) && decide (fr.N[i]? = some x) && decide (fr.N[j]? = some y) && ownB fr x && ownB fr y && notStar ea && notStar eb && chkE tb LA LI a fr false ea && chkE tb LA LI b fr false eb &&
        (!o1 || isFresh a) && (!o2 || isFresh b) && (match swp2 fr.sc x y px py ea eb with
          | some true => decide (fr.sc.names.lookup x = some .local) && decide (fr.sc.names.lookup y = some .local)
          | some false => true
          | none => false)
    | _, _ => false)
  | _, _ => false
def asgB (fr : Fr) (tg : Tg) (e : IR) (t v : Expr) : Bool := match tg, xName t with
  | .n _, some (x, p) => !swB fr.sc x p v || isFresh e
  | _, _ => notTup v
def parB (fr : Fr) (ts : List (Nat × Bool)) (es : List IR) (st : Stmt) : Bool := match ts, es, sAssign st with
  | [(i, o1), (j, o2)], [a, b], some (t, v, _) => chkPar tb LA LI fr i j o1 o2 a b t v
  | _, _, _ => false
def isBrk : Stmt → Bool
  | .Break _ => true
  | _ => false
def isCont : Stmt → Bool
  | .Continue _ => true
  | _ => false
def isNonE : IR → Bool
  | .k .non => true
  | _ => false
mutual
def chkS : ST → Fr → Stmt → Bool
  | .asg tg e, fr, st => match sAssign st with
    | some (t, v, _) => chkE tb LA LI e fr false v && chkTg fr (tgSl tg) tg t && notStar t && asgB fr tg e t v
    | none => false
  | .asgO i e, fr, st => match sAssign st with
    | some (t, v, _) => (match xName t with
      | some (x, _) => decide (fr.N[i]? = some x) && ownB fr x && isFresh e && chkE tb LA LI e fr false v
      | none => false)
    | none => false
  | .par ts es, fr, st => parB tb LA LI fr ts es st
  | .aug i o e, fr, st => match sAug st with
    | some (x, _, p, v, _) => decide (fr.N[i]? = some x) && ownB fr x && decide (p = o.py) && chkE tb LA LI e fr false v
    | none => false
  | .push i e, fr, st => match sPush st with
    | some (x, _, m, ap, v, cp, _) => decide (m = "append") && locB fr i x && (ap.endLine == cp.line) && notStar v && chkE tb LA LI e fr false v
    | none => false
  | .setIx i k e, fr, st => match sAssign st with
    | some (t, v, _) => (match xSub t with
      | some (o, s, _) => (match xName o with
        | some (x, _) => locB fr i x && notSlice s && chkE tb LA LI k fr false s && chkE tb LA LI e fr false v
        | none => false)
      | none => false)
    | none => false
  | .expr e, fr, st => match sExpr st with
    | some (v, _) => notComp v && chkE tb LA LI e fr false v
    | none => false
  | .ret e, fr, st => match sRet st with
    | some (some v, _) => chkE tb LA LI e fr false v
    | some (none, _) => isNonE e
    | none => false
  | .rse c e, fr, st => match sRse st with
    | some (x, _, v, _, _) => gloB fr x && notStar v && (match tb.glob.lookup x with
        | some (.exc c' _) => decide (c' = c)
        | _ => false) && (match e with
        | some e => chkE tb LA LI e fr false v
        | none => false)
    | none => false
  | .ifs c a b, fr, st => match sIf st with
    | some (x, y, z, _) => chkE tb LA LI c fr true x && chkSs a fr y && chkSs b fr z
    | none => false
  | .for tg it es body, fr, st => match sFor st with
    | some (t, iter, b, _) => notSetD iter && (match itArgs fr tb it t iter with
      | some xs => chkEs tb LA LI es fr xs
      | none => false) && chkTg fr (tgSl tg) tg t && chkSs body fr b
    | none => false
  | .while c body, fr, st => match sWhile st with
    | some (x, b, _) => chkE tb LA LI c fr true x && chkSs body fr b
    | none => false
  | .brk, _, st => isBrk st
  | .cont, _, st => isCont st
  | .pass, _, st => sPass st
  | .ftry e hs, fr, st => match sTry st with
    | some (v, _, h0, hds, _) => chkE tb LA LI e fr false v && chkHds tb fr (hdN h0) hs (h0 :: hds) && decide (hdN h0 ∈ fr.N) && decide (fr.sc.names.lookup (hdN h0) = some .local) && notDbg (hdN h0)
    | none => false
  | .frz _, _, _ => false
  | .mset i f e, fr, st => match sAssign st with
    | some (t, v, _) => (match xFld t with
      | some (x, _, k, _, _, _) => locB fr i x && decide (k = mKey f) && chkE tb LA LI e fr false v
      | none => false)
    | none => false
  | .mnew a b c d, fr, st => match sNew st with
    | some (x, y, z, w, _, _, _, _, s) => decide (s = (("left" : Str), ("seed" : Str), ("cells" : Str), ("spot" : Str))) && chkE tb LA LI a fr false x && chkE tb LA LI b fr false y && chkE tb LA LI c fr false z && chkE tb LA LI d fr false w
    | none => false
def chkSs : List ST → Fr → List Stmt → Bool
  | [], _, ss => ss.isEmpty
  | s :: r, fr, ss => if isFrz s then chkSs r fr ss else match ss with
    | [] => false
    | t :: u => chkS s fr t && chkSs r fr u
end
end
/-! ### what is asked of classes of exceptions -/
structure ExcF (W : Wd) (xc : Nat → Option XcA) (C : Ct) (n : Nat) (x : Str) (c : Nat) (f : Str) : Prop where
  ex : ∃ (A fI : Addr) (k : Nat) (fd : FuncData) (ps : List Str) (sp : Sp), k + 1 ≤ n ∧ xc c = some ⟨A, some f⟩ ∧ C.mg x = some (.ref A) ∧ OexC W.K A ∧ PySem.W.findIn W.K (.ref A) "__init__" = some (some (.ref fI)) ∧ PySem.W.typeIn W.K (.ref fI) = some (.type "function") ∧
    FnOk C.prog C.w W.K C.mg C.base (L2.CX C.prog C.w) k fI fd ps sp ∧ Binds W.K fd ps [] ∧ InitS sp A f ∧ XfC W.K A ∧ PySem.W.findIn W.K (.ref A) f = some none
structure HypS (W : Wd) (xc : Nat → Option XcA) (C : Ct) (n : Nat) (tb : Tb) (fad : Nat → Addr) (LA : List LamA) (cf : Nat → List Val → M D) (ca : Nat → List Val → List Val → M D) : Prop extends Hyp W xc C n tb fad LA cf ca where
  exc : ∀ x c f, tb.glob.lookup x = some (.exc c f) → ExcF W xc C n x c f
  exm : ∀ c k A B, xc c = some A → xc k = some B → PySem.W.exmOne W.K (.ref A.C) (.ref B.C) = some (decide (k = c))
/-- a def's frame -/
structure DfOk (X : Cx) : Prop where
  stk : X.stack = X.env :: X.outer
  frm : X.env.frame = some X.env.locals
  own : PassesOwn (model X.prog X.w) X.A X.env X.xe
section
variable {W : Wd} {xc : Nat → Option XcA} {C : Ct} {n : Nat} {tb : Tb} {fad : Nat → Addr} {LA : List LamA} {cf : Nat → List Val → M D} {ca : Nat → List Val → List Val → M D} {fr : Fr} {X : Cx} {b : G × Hp} {E : WX} {fuel : Nat}
theorem comp_valE {own : List Nat} {tg : Tg} {it : ItK} {es ifs : List IR} {elt : IR} {ρ : Env} : valE W.P cf ca (.comp own tg it es ifs elt) ρ = M.bind (evalEs W.P cf ca es ρ) fun xs => M.bind (ofO (itemsO ρ it xs)) fun items => M.bind (noEx (compL (turnM W.P tg (evalIfs W.P cf ca ifs) (evalE W.P cf ca elt) (mask own 0 ρ)) items)) fun ys => ofO (newLV ys) := by
  show M.bind (M.bind (evalEs W.P cf ca es ρ) fun xs => M.bind (ofO (itemsO ρ it xs)) fun items => M.bind (noEx (compL (turnM W.P tg (evalIfs W.P cf ca ifs) (evalE W.P cf ca elt) (mask own 0 ρ)) items)) fun ys => ofO (newL ys)) (fun x => ofO (valO x)) = _
  rw [bind_assoc]
  refine bind_cong fun xs => ?_
  rw [bind_assoc]
  refine bind_cong fun items => ?_
  rw [bind_assoc]
  refine bind_cong fun ys => ?_
  unfold newL newLV
  split <;> rfl
theorem datE_val {e : IR} {ρ : Env} : datE W.P cf ca e ρ = M.bind (valE W.P cf ca e ρ) fun x => ofO (match x with
    | .d d => some d
    | _ => none) := by
  show M.bind (evalE W.P cf ca e ρ) (fun x => ofO (datO x)) = M.bind (M.bind (evalE W.P cf ca e ρ) fun x => ofO (valO x)) _
  rw [bind_assoc]
  refine bind_cong fun x => ?_
  cases x with
  | o i => rfl
  | v y => cases y <;> rfl
/-- a comprehension in the text: what its forms need -/
theorem chk_comp {own : List Nat} {tg : Tg} {it : ItK} {es ifs : List IR} {elt : IR} {e : Expr} (h : Hyp W xc C n tb fad LA cf ca) (q : chkE tb LA W.P.lams (.comp own tg it es ifs elt) fr false e = true) :
    ∃ elt' tg' iter ifs' sc pos, e = .ListComp elt' [⟨tg', iter, ifs', 0⟩] sc pos ∧ CompB W xc C n cf ca fr own tg it es ifs elt elt' tg' iter ifs' sc := by
  rw [chkE, Bool.and_eq_true] at q
  obtain ⟨_, q2⟩ := q
  split at q2
  · rename_i elt' tg' iter ifs' sc pos hx
    obtain rfl := xComp_eq hx
    simp only [Bool.and_eq_true, decide_eq_true_eq] at q2
    obtain ⟨⟨⟨⟨⟨⟨q3, q4⟩, q5⟩, q6⟩, q7⟩, q8⟩, q9⟩ := q2
    refine ⟨elt', tg', iter, ifs', sc, pos, rfl, q3, blkOk_by q4, q5, ?_, fun X g0 k => tg_ok k tg tg' q7, fun X g0 E k tk => chkIfs_ok h ifs _ ifs' q8 X g0 E k tk, fun X g0 E k tk => chkE_ok h elt _ false elt' q9 X g0 E k tk⟩
    split at q6
    · rename_i xs hxs
      exact fun X g0 E f k tk => it_ok h k hxs (chkEs_ok h es fr xs q6 X g0 E k tk)
    · cases q6
  · cases q2
theorem chk_lst {es : List IR} {e : Expr} (h : Hyp W xc C n tb fad LA cf ca) (q : chkE tb LA W.P.lams (.lst es) fr false e = true) : ∃ xs pos, e = .List xs pos ∧ ∀ (X : Cx) (g0 : G × Hp) (E : WX), FrOk W C n fr X → Takes X E → AllE W xc cf ca X g0 E es xs := by
  rw [chkE, Bool.and_eq_true] at q
  obtain ⟨_, q2⟩ := q
  split at q2
  · rename_i xs p hx
    obtain rfl := xList_eq hx
    exact ⟨xs, p, rfl, fun X g0 E k tk => chkEs_ok h es fr xs q2 X g0 E k tk⟩
  · cases q2
theorem fresh_ok {ir : IR} {e : Expr} (h : Hyp W xc C n tb fad LA cf ca) (k : FrOk W C n fr X) (tk : Takes X E) (hf : isFresh ir = true) (q : chkE tb LA W.P.lams ir fr false e = true) : PE X e (TN W xc X b E (valE W.P cf ca ir)) := by
  cases ir with
  | lst es =>
    obtain ⟨xs, pos, rfl, a⟩ := chk_lst h q
    exact tn_lst (a X b E k tk).pa
  | dct0 =>
    rw [chkE, Bool.and_eq_true] at q
    cases hx : xDict0 e with
    | none => rw [hx] at q; cases q.2
    | some p =>
      obtain rfl := xDict0_eq hx
      exact tn_dct
  | comp own tg it es ifs elt =>
    obtain ⟨elt', tg', iter, ifs', sc, pos, rfl, B⟩ := chk_comp h q
    have r := pe_dcompN (W := W) (xc := xc) (X := X) (g0 := b) (E := E) (pos := pos) (own := ownP fr own) (t := tg) (ci := evalIfs W.P cf ca ifs) (ce := evalE W.P cf ca elt) (cs := evalEs W.P cf ca es) (it := it) k.xw k.ndX (B.hi X b E false k tk)
      (by rw [k.N, k.sc]; exact B.blk) (fold_no B.fo) (fun s HD fp b0 => by rw [B.ow]; exact B.tg _ _ (k.blk sc s HD fp)) (fun s HD fp b0 => B.hI _ _ _ (k.blk sc s HD fp) takes_no) (fun s HD fp b0 => B.hE _ _ _ (k.blk sc s HD fp) takes_no)
    rw [B.ow] at r
    have e : valE W.P cf ca (.comp own tg it es ifs elt) = _ := funext fun ρ => comp_valE
    rw [e]
    exact r
  | _ => cases hf
/-- x = e, e a new list, a new dict, a comprehension -/
theorem set_fresh {ir : IR} {v : Expr} {i : Nat} {x : Str} {p pos : Pos} (h : Hyp W xc C n tb fad LA cf ca) (k : FrOk W C n fr X) (tk : Takes X E) (hN : fr.N[i]? = some x) (ho : ownB fr x = true) (hf : isFresh ir = true) (q : chkE tb LA W.P.lams ir fr false v = true) :
    ∃ te : TE, PS X (.Assign [.Name x p] v pos) (tAsg te (gName i)) ∧ ∀ σ H Q, TN W xc X b E (valE W.P cf ca ir) σ H Q → te σ H Q := by
  have hx : X.N[i]? = some x := by rw [k.N]; exact hN
  have ow := k.ownX ho
  have lc : Loc X.env.scope x := ow.imp id (fun z => z.1)
  have fn : X.fn x = true ∨ X.env.scope.names.lookup x = some .local := by
    rcases ow with z | z
    · exact .inr z
    · exact .inl z.2.1
  cases hs : swB fr.sc x p v with
  | false =>
    refine ⟨_, ps_set k.ndX hx lc (fresh_ok (b := b) h k tk hf q) (by rw [sw_name, k.sc, hs]) fn, fun σ H Q z => z⟩
  | true =>
    cases ir with
    | lst es =>
      obtain ⟨xs, pos, rfl, a⟩ := chk_lst h q
      cases hs
    | dct0 =>
      rw [chkE, Bool.and_eq_true] at q
      cases hx : xDict0 v with
      | none => rw [hx] at q; cases q.2
      | some p =>
        obtain rfl := xDict0_eq hx
        cases hs
    | comp own tg it es ifs elt =>
      obtain ⟨elt', tg', iter, ifs', sc, vpos, rfl, B⟩ := chk_comp h q
      have hl : X.env.scope.names.lookup x = some .local := by
        simp only [swB, Bool.and_eq_true, beq_iff_eq] at hs
        rw [k.sc]; exact hs.1.1.2
      refine ⟨_, ps_ld (own := ownP fr own) k.xw.hc k.ndX hx hl (by rw [sw_name, k.sc, hs]) (B.hi X b E false k tk) (by rw [k.N, k.sc]; exact B.blk) (fold_no B.fo), fun σ H Q z => ?_⟩
      refine comp_read (ci := evalIfs W.P cf ca ifs) (ce := evalE W.P cf ca elt) (t := tg) k.xw k.ndX (B.hi X b E false k tk) (by rw [k.N, k.sc]; exact B.blk) (fold_no B.fo) (fun s HD fp b0 => by rw [B.ow]; exact B.tg _ _ (k.blk sc s HD fp))
        (fun s HD fp b0 => B.hI _ _ _ (k.blk sc s HD fp) takes_no) (fun s HD fp b0 => B.hE _ _ _ (k.blk sc s HD fp) takes_no) ?_
      rw [B.ow]
      have e : valE W.P cf ca (.comp own tg it es ifs elt) = _ := funext fun ρ => comp_valE
      rw [e] at z
      exact z
    | _ => cases hf
end
end Di
end
section
set_option Elab.async false
set_option linter.all false
set_option maxRecDepth 100000
set_option maxHeartbeats 4000000
/-! Di.Sts: the look at statements is sound. -/
namespace Di
open PySem PySem.Spec PyProof.Rows L2 LamX NdefX
section
variable {W : Wd} {xc : Nat → Option XcA} {C : Ct} {n : Nat} {tb : Tb} {fad : Nat → Addr} {LA : List LamA} {cf : Nat → List Val → M D} {ca : Nat → List Val → List Val → M D} {fr : Fr} {X : Cx} {b : G × Hp} {E : WX} {fuel : Nat}
/-! ### try -/
section
variable {i : Nat} {a : Addr} {cls : Value} {dd : Option Addr} {A : Addr} {f : Str} {pd : D} {nm : Str} {oe : Obj} {pn : List (Addr × Obj)}
mutual
theorem chkH_ok (hN : X.N[i]? = some nm) (hv : Vis X.env.scope nm) (hd : notDbg nm = true) (T : XfC X.K A) (hno : PySem.W.findIn X.K (.ref A) f = some none) (hz : Zc cls dd oe) (hf : ∃ vs, oe.data = .fields vs) :
    ∀ (he : HE) (e : Expr), chkH nm f he e = true → PE (X.suite a ((a, oe) :: pn)) e (TH W i a cls dd A f pd he)
  | .fld, e, q => by
    rw [chkH] at q
    unfold fldB at q
    split at q
    · rw [Bool.and_eq_true, decide_eq_true_eq, decide_eq_true_eq] at q
      obtain ⟨rfl, rfl⟩ := q
      exact pe_hfld hN hv (dbg_of hd).1 (dbg_of hd).2 T hno hz hf (base_plain rfl)
    · cases q
  | .k d, e, q => by
    rw [chkH] at q
    unfold hkB at q
    split at q
    · exact pe_hnon
    · rw [decide_eq_true_eq] at q; subst q; exact pe_hint
    · rw [decide_eq_true_eq] at q; subst q; exact pe_hstr
    · cases q
  | .tup es, e, q => by
    rw [chkH] at q
    split at q
    · rename_i xs kk p hx
      obtain rfl := xTup_eq hx
      rw [Bool.and_eq_true, decide_eq_true_eq] at q
      exact pe_htup (chkHs_ok hN hv hd T hno hz hf es xs q.2) q.1
    · cases q
  | .lst _, e, q => by rw [chkH] at q; cases q
theorem chkHs_ok (hN : X.N[i]? = some nm) (hv : Vis X.env.scope nm) (hd : notDbg nm = true) (T : XfC X.K A) (hno : PySem.W.findIn X.K (.ref A) f = some none) (hz : Zc cls dd oe) (hf : ∃ vs, oe.data = .fields vs) :
    ∀ (hes : List HE) (es : List Expr), chkHs nm f hes es = true → PA (X.suite a ((a, oe) :: pn)) es (THs W i a cls dd A f pd hes)
  | [], es, q => by
    rw [chkHs, List.isEmpty_iff] at q
    subst q
    exact pa_hnil
  | he :: r, es, q => by
    cases es with
    | nil => simp [chkHs] at q
    | cons x t =>
      simp only [chkHs, Bool.and_eq_true] at q
      exact pa_hcons (chkH_ok hN hv hd T hno hz hf he x q.1.2) (chkHs_ok hN hv hd T hno hz hf r t q.2) (star_one q.1.1)
end
end
/-- a clause as the try's rule wants it -/
def clOf (W : Wd) (i : Nat) (A : Addr) (f : Str) (he : HE) : Cl := (.ref A, fun a cls dd T σ H => ∃ pd, TSuite W i a cls dd A f pd he T σ H)
/-- the clauses of the text, those of the language, what they wish -/
inductive Cls (W : Wd) (xc : Nat → Option XcA) (i : Nat) : List (Nat × HE) → List Cl → Prop
  | nil : Cls W xc i [] []
  | cons {k : Nat} {he : HE} {A : Addr} {f : Str} {hs : List (Nat × HE)} {l : List Cl} (e : xc k = some ⟨A, some f⟩) (r : Cls W xc i hs l) : Cls W xc i ((k, he) :: hs) (clOf W i A f he :: l)
theorem hds_ok (h : HypS W xc C n tb fad LA cf ca) (k : FrOk W C n fr X) {i : Nat} {nm : Str} (hN : X.N[i]? = some nm) (hv : Vis X.env.scope nm) (hd : notDbg nm = true) :
    ∀ (hs : List (Nat × HE)) (hds : List ExceptHandler), chkHds tb fr nm hs hds = true → ∃ l, HdsA X nm hds l ∧ Cls W xc i hs l
  | [], [], _ => ⟨[], .nil, .nil⟩
  | [], _ :: _, q => by simp [chkHds] at q
  | _ :: _, [], q => by simp [chkHds] at q
  | (c, he) :: hs, hd1 :: hds, q => by
    rw [chkHds, Bool.and_eq_true] at q
    obtain ⟨q1, q2⟩ := q
    obtain ⟨l, a1, a2⟩ := hds_ok h k hN hv hd hs hds q2
    unfold chkHd at q1
    split at q1
    · rename_i x np m e rp hp hx
      obtain rfl := sHd_eq hx
      rw [Bool.and_eq_true, Bool.and_eq_true, decide_eq_true_eq] at q1
      obtain ⟨⟨rfl, q3⟩, q4⟩ := q1
      split at q4
      · rename_i c' f hg
        rw [Bool.and_eq_true, decide_eq_true_eq] at q4
        obtain ⟨rfl, q5⟩ := q4
        obtain ⟨A, fI, kk, fd, ps, sp, e1, e2, e3, e4, e5, e6, e7, e8, e9, e10, e11⟩ := (h.exc x _ f hg).ex
        refine ⟨clOf W i A f he :: l, .cons ⟨(k.glo q3).1, (k.glo q3).2, .inl (by rw [k.xC.mg]; exact e3)⟩ (fun a o cls d pn hz hf => ?_) a1, .cons e2 a2⟩
        refine ⟨fun pins s σ H T I ⟨pd, z⟩ => ?_⟩
        exact (pss_hret (pos := rp) (chkH_ok (W := W) (pd := pd) hN hv hd (by rw [k.xC.K]; exact e10) (by rw [k.xC.K]; exact e11) hz hf he e q5)).run pins s σ H T I z
      · cases q4
    · cases q1
theorem FS.tr {g : G} {ρ : Env} {m : MS} {σ : L2.St} {H : Hp} {pn : List (Addr × Obj)} {xe : Value → Shared → Prop} : FS W (X.tr pn xe) b g ρ m σ H ↔ FS W X b g ρ m σ H :=
  ⟨fun s => ⟨s.hs, s.ext, s.len, s.env, s.sep, s.old, ⟨s.kr.κ, s.kr.own, s.kr.cell, s.kr.full, s.kr.inj, s.kr.nd, s.kr.len⟩⟩, fun s => ⟨s.hs, s.ext, s.len, s.env, s.sep, s.old, ⟨s.kr.κ, s.kr.own, s.kr.cell, s.kr.full, s.kr.inj, s.kr.nd, s.kr.len⟩⟩⟩
theorem PostS.tr {g : G} {T : Ends} {o : Out Fl} {pn : List (Addr × Obj)} {xe : Value → Shared → Prop} (p : PostS W xc X b g T E o) : PostS W xc (X.tr pn xe) b g T E o := by
  cases o with
  | bad => exact p
  | ex _ _ _ => exact p
  | ok fl m =>
    cases fl with
    | nx ρ => exact fun σ' g' H' fs s => p σ' g' H' (FS.tr.mp fs) s
    | bk ρ => exact fun σ' g' H' fs s => p σ' g' H' (FS.tr.mp fs) s
    | ct ρ => exact fun σ' g' H' fs s => p σ' g' H' (FS.tr.mp fs) s
    | rt d => exact p
theorem FrOk.tr (k : FrOk W C n fr X) (pn : List (Addr × Obj)) (xe : Value → Shared → Prop) : FrOk W C n fr (X.tr pn xe) :=
  ⟨⟨k.xw.hK, k.xw.hc, k.xw.hu, k.xw.hg⟩, ⟨k.xC.prog, k.xC.w, k.xC.mg, k.xC.base, k.xC.K⟩, k.rm, k.N, k.sc, k.qual, k.nd, k.own, k.tab⟩
theorem handle_eq {k c : Nat} {he : HE} {hs : List (Nat × HE)} {p : Option D} : handle ((k, he) :: hs) c p = if k = c then (match evalH p he with
    | some d => fun m => .ok (.rt d) m
    | none => bad) else handle hs c p := rfl
/-- the wish of the body's exception, by the language's handlers -/
theorem handle_ok (exm : ∀ c k A B, xc c = some A → xc k = some B → PySem.W.exmOne W.K (.ref A.C) (.ref B.C) = some (decide (k = c))) {i : Nat} {T : Ends} {g : G} {c : Nat} {p : Option D} {m : MS} : ∀ {hs : List (Nat × HE)} {l : List Cl}, Cls W xc i hs l → PostS W xc X b g T E (handle hs c p m) →
    ∀ cls dd σ' g' H', ExtF b.1 b.2 g' H' → HpS W g' m H' → RepX W xc g' H' c p cls dd → wAsM W.K i E T l cls dd σ' H' := by
  intro hs l q
  induction q with
  | nil => exact fun z cls dd σ' g' H' e1 e2 e3 => z cls dd σ' g' H' e1 e2 e3
  | @cons k he A f hs l e r ih =>
    intro z cls dd σ' g' H' e1 e2 e3
    have e3' := e3
    obtain ⟨AA, x1, x2, x3⟩ := e3
    refine ⟨decide (k = c), ?_, fun hy a na hi => ?_, fun hn => ?_⟩
    · rw [x2]
      exact exm c k AA ⟨A, some f⟩ x1 e
    · rw [decide_eq_true_eq] at hy
      subst hy
      rw [e] at x1
      have x1 := Option.some.inj x1
      subst x1
      rw [handle_eq, if_pos rfl] at z
      cases hd : evalH p he with
      | none => rw [hd] at z; exact z.elim
      | some d =>
        rw [hd] at z
        cases p with
        | none => exact x3.elim
        | some pd =>
          obtain ⟨qa, w, y1, y2, y3⟩ := x3
          refine ⟨pd, g', d, ⟨?_, x2, e2.sub, qa, w, y1, fun mm => ?_, y2, y3⟩, hd, fun v g2 H2 gr rd => ?_⟩
          · rw [List.getElem?_set_self hi]
          · obtain ⟨ca, m1, _⟩ := e2.mst mm.1
            rw [mm.2, m1] at y2
            cases y2
          · exact z v g2 H2 (e1.trans gr.ext.toExtF) (gr.hs m e2) rd
    · rw [decide_eq_false_iff_not] at hn
      rw [handle_eq, if_neg hn] at z
      exact ih z cls dd σ' g' H' e1 e2 e3'
theorem try_fin {e : IR} {hs : List (Nat × HE)} {v : Expr} {rp pos : Pos} {h0 : ExceptHandler} {hds : List ExceptHandler} {i : Nat} {nm : Str} (h : HypS W xc C n tb fad LA cf ca) (k : FrOk W C n fr X) (df : DfOk X) (tk : Takes X E) (hN : X.N[i]? = some nm) (hl : fr.sc.names.lookup nm = some .local)
    (hd : notDbg nm = true) (q1 : chkE tb LA W.P.lams e fr false v = true) (q2 : chkHds tb fr nm hs (h0 :: hds) = true) : PS X (.Try [.Return (some v) rp] (h0 :: hds) [] [] pos) (TSt W xc X b E (exec W.P cf ca fuel (.ftry e hs))) := by
  have hl' : X.env.scope.names.lookup nm = some .local := by rw [k.sc]; exact hl
  obtain ⟨l, a1, a2⟩ := hds_ok h k hN (.inl hl') hd hs (h0 :: hds) q2
  refine ps_weak (ps_try_asMany (i := i) (Wo := E) (tb := fun V => TSt W xc X b V fun ρ => M.bind (M.bind (evalE W.P cf ca e (ρ.map frzS)) fun x => ofO (datO x)) fun d => ret1 (.rt d)) df.stk df.frm k.ndX hN hl' tk (fun V pn xe tV => ?_) a1) fun T σ H ⟨g, ρ, m, fs, p⟩ => ?_
  · exact pss_weak (pss_one (ps_dret (chkE_ok h.toHyp e fr false v q1 (X.tr pn xe) b V (k.tr pn xe) tV))) fun T σ H ⟨g, ρ, m, fs, p⟩ => ⟨g, ρ, m, FS.tr.mpr fs, p.tr⟩
  · refine ⟨g, ρ, m, fs, ?_⟩
    show PostS W xc X b g T _ (M.bind (datE W.P cf ca e (ρ.map frzS)) (fun d => ret1 (.rt d)) m)
    have p : PostS W xc X b g T E (match datE W.P cf ca e (ρ.map frzS) m with
      | .ok d m1 => .ok (.rt d) m1
      | .ex c p m1 => handle hs c p m1
      | .bad => .bad) := p
    unfold M.bind
    cases q : datE W.P cf ca e (ρ.map frzS) m with
    | bad => rw [q] at p; exact p
    | ok d m1 => rw [q] at p; exact p
    | ex c pp m1 =>
      rw [q] at p
      rw [show X.K = W.K from k.xC.K]
      exact handle_ok h.exm a2 p
/-! ### the others -/
theorem ih_of {P1 : Prop} (h : P1) : P1 := h
theorem sws_tup {v : Expr} {es : List Expr} {k : Nat} {p : Pos} {l : Nat} {env : PySem.Env} : swapsWithSole [.Tuple es k p] v l env = pure false := by cases v <;> rfl
theorem sws_sub {v a b : Expr} {p : Pos} {l : Nat} {env : PySem.Env} : swapsWithSole [.Subscript a b p] v l env = pure false := by cases v <;> rfl
theorem asg_fin {tg : Tg} {e : IR} {t v : Expr} {pos : Pos} (h : HypS W xc C n tb fad LA cf ca) (k : FrOk W C n fr X) (tk : Takes X E) (q1 : chkE tb LA W.P.lams e fr false v = true) (q2 : chkTg fr (tgSl tg) tg t = true) (q3 : notStar t = true)
    (q4 : asgB fr tg e t v = true) : PS X (.Assign [t] v pos) (TSt W xc X b E (exec W.P cf ca fuel (.asg tg e))) := by
  have he := chkE_ok h.toHyp e fr false v q1 X b E k tk
  have hg := tg_ok (g0 := b) k tg t q2
  have h1 : (assignEach [t] X.env).map (·.2) = [assign t X.env] := by rw [asg_one q3] <;> rfl
  cases tg with
  | n i =>
    simp only [chkTg] at q2
    split at q2
    · rename_i x p hx
      obtain rfl := xName_eq hx
      simp only [Bool.and_eq_true, decide_eq_true_eq] at q2
      cases hs : swB fr.sc x p v with
      | false => exact ps_dasg he hg (by show swapsWith v (some (.Name x p)) pos.line X.env = _; rw [sw_name, k.sc, hs]) ss_name h1
      | true =>
        have hf : isFresh e = true := by
          have q4 : (!swB fr.sc x p v || isFresh e) = true := q4
          rw [hs] at q4
          simpa using q4
        obtain ⟨te, s1, s2⟩ := set_fresh (b := b) (p := p) (pos := pos) h.toHyp k tk q2.1.1 q2.1.2 hf q1
        exact ps_dasgN s1 s2 (by rw [k.N]; exact q2.1.1) (k.ownX q2.1.2)
    · cases q2
  | t ts =>
    simp only [chkTg] at q2
    split at q2
    · rename_i es kk p hx
      obtain rfl := xTup_eq hx
      exact ps_dasg he hg sws_tup (ss_tup q4) h1
    · cases q2
theorem par_fin {i j : Nat} {o1 o2 : Bool} {a c : IR} {t v : Expr} {pos : Pos} (h : HypS W xc C n tb fad LA cf ca) (k : FrOk W C n fr X) (tk : Takes X E) (q : chkPar tb LA W.P.lams fr i j o1 o2 a c t v = true) : PS X (.Assign [t] v pos) (TSt W xc X b E (exec W.P cf ca fuel (.par [(i, o1), (j, o2)] [a, c]))) := by
  unfold chkPar at q
  split at q
  · rename_i tx ty kt pt ea eb k2 pt2 hx hy
    obtain rfl := xTup_eq hx
    obtain rfl := xTup_eq hy
    split at q
    · rename_i x px y py hx hy
      obtain rfl := xName_eq hx
      obtain rfl := xName_eq hy
      simp only [Bool.and_eq_true, decide_eq_true_eq, Bool.or_eq_true, Bool.not_eq_true'] at q
      obtain ⟨⟨⟨⟨⟨⟨⟨⟨⟨⟨⟨q1, q2⟩, q3⟩, q4⟩, q5⟩, q6⟩, q7⟩, q8⟩, q9⟩, q10⟩, q11⟩, q12⟩ := q
      have n1 : X.N[i]? = some x := by rw [k.N]; exact q2
      have n2 : X.N[j]? = some y := by rw [k.N]; exact q3
      have comp : ∀ {o : Bool} {ir : IR} {e : Expr}, chkE tb LA W.P.lams ir fr false e = true → (o = false ∨ isFresh ir = true) → PE X e (TC W xc X b E o fun ρ => datE W.P cf ca ir ρ) := fun {o ir e} z1 z2 => by
        cases o with
        | false => exact tc_sh (chkE_ok h.toHyp ir fr false e z1 X b E k tk)
        | true =>
          have z2 : isFresh ir = true := z2.resolve_left (by decide)
          have r := tc_ow (fresh_ok (b := b) h.toHyp k tk z2 z1)
          have e : (fun ρ => datE W.P cf ca ir ρ) = _ := funext fun ρ => datE_val
          rw [e]
          exact r
      have c1 := comp q8 q10
      have c2 := comp q9 q11
      cases hw : swp2 fr.sc x y px py ea eb with
      | none => rw [hw] at q12; cases q12
      | some r =>
        rw [hw] at q12
        have w := swp2_ok (env := X.env) (pt := pt) (pt2 := pt2) (kt := kt) (k2 := k2) (by rw [k.sc]; exact hw)
        cases r with
        | true =>
          rw [Bool.and_eq_true, decide_eq_true_eq, decide_eq_true_eq] at q12
          exact ps_dpar k.xw.hc k.ndX n1 n2 q1 (by rw [k.sc]; exact q12.1) (by rw [k.sc]; exact q12.2) c1 c2 (star_one q6) (star_one q7) w sws_tup
        | false => exact ps_dparT k.xw.hc k.ndX n1 n2 q1 (k.ownX q4) (k.ownX q5) c1 c2 (star_one q6) (star_one q7) w sws_tup
    · cases q
  · cases q
theorem rse_fin {c : Nat} {e : IR} {x f : Str} {p cp pos : Pos} {v : Expr} (h : HypS W xc C n tb fad LA cf ca) (k : FrOk W C n fr X) (tk : Takes X E) (hg : gloB fr x = true) (hs : notStar v = true) (q : chkE tb LA W.P.lams e fr false v = true) (hx : tb.glob.lookup x = some (.exc c f)) :
    PS X (.Raise (some (.Call (.Name x p) [v] [] cp)) none pos) (TSt W xc X b E (exec W.P cf ca fuel (.rse c (some e)))) := by
  obtain ⟨A, fI, kk, fd, ps, sp, e1, e2, e3, e4, e5, e6, e7, e8, e9, e10, e11⟩ := (h.exc x c f hx).ex
  have he := chkE_ok h.toHyp e fr false v q X b E k tk
  have K := k.xC.K
  have mk : PMk X (.Call (.Name x p) [v] [] cp) (tMkO A sp [] (tCons (TV W xc X b E (evalE W.P cf ca e)) tNil)) := by
    refine pmk_oex (CX := L2.CX X.prog X.w) (k := kk) (by rw [K]; exact e4) (by rw [K]; exact e5) (by rw [K]; exact e6) (F1 := ?_) ?_ (by rw [K]; exact e8) .nil (passes_call tk fun _ _ _ _ z => z.elim) (k.glo hg).1 (by rw [k.xC.mg]; exact e3) (pa_cons he pa_nil (star_one hs)) (k.glo hg).2 (star_one hs) rfl
    · rw [k.xC.prog, k.xC.w, k.xC.K, k.xC.mg, k.xC.base]
      exact e7
    · exact (k.rm.mono e1).room
  exact ps_drse k.xw.hc tk mk e9 e2
mutual
theorem chkS_ok (h : HypS W xc C n tb fad LA cf ca) : ∀ (s : ST) (fr : Fr) (st : Stmt), chkS tb LA W.P.lams s fr st = true → ∀ (X : Cx) (b : G × Hp) (E : WX), FrOk W C n fr X → DfOk X → Takes X E → PS X st (TSt W xc X b E (exec W.P cf ca fuel s))
  | .asg tg e, fr, st, q, X, b, E, k, df, tk => by
    rw [chkS] at q
    split at q
    · rename_i t v p hx
      obtain rfl := sAssign_eq hx
      rw [Bool.and_eq_true, Bool.and_eq_true, Bool.and_eq_true] at q
      exact asg_fin h k tk q.1.1.1 q.1.1.2 q.1.2 q.2
    · cases q
  | .asgO i e, fr, st, q, X, b, E, k, df, tk => by
    rw [chkS] at q
    split at q
    · rename_i t v p hx
      obtain rfl := sAssign_eq hx
      split at q
      · rename_i x p2 hy
        obtain rfl := xName_eq hy
        simp only [Bool.and_eq_true, decide_eq_true_eq] at q
        obtain ⟨te, s1, s2⟩ := set_fresh (b := b) (p := p2) (pos := p) h.toHyp k tk q.1.1.1 q.1.1.2 q.1.2 q.2
        exact ps_dasgO s1 s2 (by rw [k.N]; exact q.1.1.1) (k.ownX q.1.1.2)
      · cases q
    · cases q
  | .par ts es, fr, st, q, X, b, E, k, df, tk => by
    rw [chkS] at q
    unfold parB at q
    split at q
    · rename_i i o1 j o2 a c t v p hx
      obtain rfl := sAssign_eq hx
      exact par_fin h k tk q
    · cases q
  | .aug i o e, fr, st, q, X, b, E, k, df, tk => by
    rw [chkS] at q
    split at q
    · rename_i x p1 op v p hx
      obtain rfl := sAug_eq hx
      simp only [Bool.and_eq_true, decide_eq_true_eq] at q
      obtain ⟨⟨⟨q1, q2⟩, rfl⟩, q4⟩ := q
      exact ps_daug o k.ndX (by rw [k.N]; exact q1) (k.ownX q2) (chkE_ok h.toHyp e fr false v q4 X b E k tk)
    · cases q
  | .push i e, fr, st, q, X, b, E, k, df, tk => by
    rw [chkS] at q
    split at q
    · rename_i x p1 m ap v cp p hx
      obtain rfl := sPush_eq hx
      simp only [Bool.and_eq_true, decide_eq_true_eq] at q
      obtain ⟨⟨⟨⟨rfl, q2⟩, q3⟩, q4⟩, q5⟩ := q
      obtain ⟨l1, l2, l3, l4⟩ := k.loc q2
      exact ps_dpush l1 l2 l3 l4 (chkE_ok h.toHyp e fr false v q5 X b E k tk) (base_plain rfl) q3 (star_one q4)
    · cases q
  | .setIx i kk e, fr, st, q, X, b, E, k, df, tk => by
    rw [chkS] at q
    split at q
    · rename_i t v p hx
      obtain rfl := sAssign_eq hx
      split at q
      · rename_i o s tp hy
        obtain rfl := xSub_eq hy
        split at q
        · rename_i x p1 hz
          obtain rfl := xName_eq hz
          simp only [Bool.and_eq_true] at q
          obtain ⟨⟨⟨q1, q2⟩, q3⟩, q4⟩ := q
          obtain ⟨l1, l2, l3, l4⟩ := k.loc q1
          refine ps_dsetIx k.xw l1 l2 l3 l4 (chkE_ok h.toHyp e fr false v q4 X b E k tk) (chkE_ok h.toHyp kk fr false s q3 X b E k tk) (fun v => ?_) sws_sub ss_sub rfl
          cases s <;> first | rfl | (cases q2; done)
        · cases q
      · cases q
    · cases q
  | .expr e, fr, st, q, X, b, E, k, df, tk => by
    rw [chkS] at q
    split at q
    · rename_i v p hx
      obtain rfl := sExpr_eq hx
      rw [Bool.and_eq_true] at q
      exact ps_dexpr (chkE_ok h.toHyp e fr false v q.2 X b E k tk) (swaps_no q.1)
    · cases q
  | .ret e, fr, st, q, X, b, E, k, df, tk => by
    rw [chkS] at q
    split at q
    · rename_i v p hx
      obtain rfl := sRet_eq hx
      exact ps_dret (chkE_ok h.toHyp e fr false v q X b E k tk)
    · rename_i p hx
      obtain rfl := sRet_eq hx
      unfold isNonE at q
      split at q
      · exact ps_dretN
      · cases q
    · cases q
  | .rse c e, fr, st, q, X, b, E, k, df, tk => by
    rw [chkS] at q
    split at q
    · rename_i x p v cp pos hx
      obtain rfl := sRse_eq hx
      simp only [Bool.and_eq_true] at q
      obtain ⟨⟨⟨q1, q2⟩, q4⟩, q3⟩ := q
      split at q4
      · rename_i c' f hg
        rw [decide_eq_true_eq] at q4
        subst q4
        cases e with
        | none => cases q3
        | some e => exact rse_fin h k tk q1 q2 q3 hg
      · cases q4
    · cases q
  | .ifs c a d, fr, st, q, X, b, E, k, df, tk => by
    rw [chkS] at q
    split at q
    · rename_i x y z p hx
      obtain rfl := sIf_eq hx
      simp only [Bool.and_eq_true] at q
      exact ps_dif (chkE_ok h.toHyp c fr true x q.1.1 X b E k tk) (chkSs_ok h a fr y q.1.2 X b E k df tk) (chkSs_ok h d fr z q.2 X b E k df tk)
    · cases q
  | .for tg it es body, fr, st, q, X, b, E, k, df, tk => by
    rw [chkS] at q
    split at q
    · rename_i t iter bd p hx
      obtain rfl := sFor_eq hx
      simp only [Bool.and_eq_true] at q
      obtain ⟨⟨⟨q1, q2⟩, q3⟩, q4⟩ := q
      split at q2
      · rename_i xs hxs
        have hi := it_ok (f := true) (E := E) (g0 := b) h.toHyp k hxs (chkEs_ok h.toHyp es fr xs q2 X b E k tk)
        have r := ps_dfor (pos := p) df.own k.xw.hc hi (fun ρ items m m' e => by
          obtain ⟨xs, m1, e1, e2⟩ := out_ok e
          obtain ⟨e3, _⟩ := ofO_ok e2
          have e3 : forO it xs = some items := e3
          unfold forO at e3
          split at e3
          · split at e3
            · split at e3
              · rename_i l _
                simp only [Option.some.injEq] at e3
                exact ⟨l, e3.symm⟩
              · cases e3
            · cases e3
          · cases e3) (fun b' => tg_ok (g0 := b') k tg t q3) (chkSs_ok h body fr bd q4 X b E k df tk) (fold_no q1)
        have e : exec W.P cf ca fuel (.for tg it es body) = fun ρ => M.bind (M.bind (evalEs W.P cf ca es ρ) fun xs => ofO (eqb true it ρ xs)) fun items => forL (loopM W.P tg (execs W.P cf ca fuel body)) items ρ := by
          funext ρ
          rw [bind_assoc]
          rfl
        rw [e]
        exact r
      · cases q2
    · cases q
  | .while c body, fr, st, q, X, b, E, k, df, tk => by
    rw [chkS] at q
    split at q
    · rename_i x bd p hx
      obtain rfl := sWhile_eq hx
      rw [Bool.and_eq_true] at q
      exact ps_dwhile df.own (chkE_ok h.toHyp c fr true x q.1 X b E k tk) (chkSs_ok h body fr bd q.2 X b E k df tk)
    · cases q
  | .brk, fr, st, q, X, b, E, k, df, tk => by
    rw [chkS] at q
    unfold isBrk at q
    split at q
    · exact ps_dbrk
    · cases q
  | .cont, fr, st, q, X, b, E, k, df, tk => by
    rw [chkS] at q
    unfold isCont at q
    split at q
    · exact ps_dcont
    · cases q
  | .pass, fr, st, q, X, b, E, k, df, tk => by
    rw [chkS] at q
    unfold sPass at q
    split at q
    · exact ps_dpass
    · exact ps_ddoc
    · cases q
  | .ftry e hs, fr, st, q, X, b, E, k, df, tk => by
    rw [chkS] at q
    split at q
    · rename_i v rp h0 hds p hx
      obtain rfl := sTry_eq hx
      simp only [Bool.and_eq_true, decide_eq_true_eq] at q
      obtain ⟨⟨⟨⟨q1, q2⟩, q3⟩, q4⟩, q5⟩ := q
      obtain ⟨i, hi, e1⟩ := List.mem_iff_getElem.mp q3
      exact try_fin (i := i) h k df tk (by rw [k.N, List.getElem?_eq_getElem hi, e1]) q4 q5 q1 q2
    · cases q
  | .frz i, fr, st, q, X, b, E, k, df, tk => by
    rw [chkS] at q
    cases q
  | .mset i f e, fr, st, q, X, b, E, k, df, tk => by
    rw [chkS] at q
    split at q
    · rename_i t v p hx
      obtain rfl := sAssign_eq hx
      split at q
      · rename_i x p1 kk j p2 tp hy
        obtain rfl := xFld_eq hy
        simp only [Bool.and_eq_true, decide_eq_true_eq] at q
        obtain ⟨⟨q1, rfl⟩, q3⟩ := q
        obtain ⟨l1, l2, l3, l4⟩ := k.loc q1
        exact ps_mset k.xw.hu l1 l2 l3 l4 (chkE_ok h.toHyp e fr false v q3 X b E k tk) sw_sub
      · cases q
    · cases q
  | .mnew a c d e, fr, st, q, X, b, E, k, df, tk => by
    rw [chkS] at q
    split at q
    · rename_i x y z w dp jj qq p s hx
      obtain ⟨j1, j2, j3, j4⟩ := jj
      obtain ⟨q1, q2, q3, q4⟩ := qq
      obtain ⟨s1, s2, s3, s4⟩ := s
      obtain rfl := sNew_eq hx
      simp only [Bool.and_eq_true, decide_eq_true_eq, Prod.mk.injEq] at q
      obtain ⟨⟨⟨⟨⟨rfl, rfl, rfl, rfl⟩, a1⟩, a2⟩, a3⟩, a4⟩ := q
      exact ps_mnew (chkE_ok h.toHyp a fr false x a1 X b E k tk) (chkE_ok h.toHyp c fr false y a2 X b E k tk) (chkE_ok h.toHyp d fr false z a3 X b E k tk) (chkE_ok h.toHyp e fr false w a4 X b E k tk)
    · cases q
theorem chkSs_ok (h : HypS W xc C n tb fad LA cf ca) : ∀ (ss : List ST) (fr : Fr) (sts : List Stmt), chkSs tb LA W.P.lams ss fr sts = true → ∀ (X : Cx) (b : G × Hp) (E : WX), FrOk W C n fr X → DfOk X → Takes X E → PSs X sts (TSt W xc X b E (execs W.P cf ca fuel ss))
  | [], fr, sts, q, X, b, E, k, df, tk => by
    rw [chkSs, List.isEmpty_iff] at q
    subst q
    exact pss_dnil
  | s :: r, fr, sts, q, X, b, E, k, df, tk => by
    by_cases hz : isFrz s = true
    · cases s with
      | frz i =>
        simp only [chkSs, isFrz, if_true] at q
        exact pss_dfrz (chkSs_ok h r fr sts q X b E k df tk)
      | _ => cases hz
    · cases sts with
      | nil => simp [chkSs, hz] at q
      | cons t u =>
        simp only [chkSs, hz, if_false, Bool.false_eq_true, Bool.and_eq_true] at q
        exact pss_dcons (chkS_ok h s fr t q.1 X b E k df tk) (chkSs_ok h r fr u q.2 X b E k df tk)
end
end
end Di
end
section
set_option Elab.async false
set_option linter.all false
set_option maxRecDepth 100000
set_option maxHeartbeats 4000000
/-! Di.Top: a def, a lambda of the text by the looks; all of them by the depth. -/
namespace Di
open PySem PySem.Spec PyProof.Rows L2 LamX NdefX
/-- a def of the text -/
structure DefA where
  name : Str
  qual : Str
  params : Arguments
  body : List Stmt
  scope : Scope
  ps : List Str
  N : List Str
  lam : Option (Nat → Nat → Str)
def DefA.fr (d : DefA) : Fr := ⟨d.N, d.scope, d.qual ++ ".<locals>.", fun x => d.scope.names.lookup x == some .cell, d.lam⟩
def fnScB (N ps : List Str) (sc : Scope) : Bool := decide (sc.kind = .function) && !sc.isCoroutine && !sc.isGenerator && decide N.Nodup && decide (N.take ps.length = ps) &&
  (ps.all fun x => decide (sc.names.lookup x = some .local) || decide (sc.names.lookup x = some .cell)) && (sc.names.all fun y => !decide (y.2 = .free))
theorem fnSc_of {N ps : List Str} {sc : Scope} (h : fnScB N ps sc = true) : FnScope N ps sc := by
  unfold fnScB at h
  simp only [Bool.and_eq_true, Bool.not_eq_true', decide_eq_true_eq, List.all_eq_true, Bool.or_eq_true, decide_eq_false_iff_not] at h
  obtain ⟨⟨⟨⟨⟨⟨h1, h2⟩, h3⟩, h4⟩, h5⟩, h6⟩, h7⟩ := h
  exact ⟨h1, h2, h3, h4, h5, h6, h7⟩
def defB (tb : Tb) (LA : List LamA) (LI : List LamI) (d : DefA) (np ns : Nat) (body : List ST) : Bool :=
  fnScB d.N d.ps d.scope && decide (d.ps.length = np) && decide (d.N.length = ns) && decide (np ≤ ns) && chkSs tb LA LI body d.fr d.body
/-- a lambda's body -/
def lamFr (L : LamA) : Fr := ⟨L.N, L.scope, L.qual ++ ".<locals>.", fun _ => false, none⟩
def lamOkB (tb : Tb) (LA : List LamA) (LI : List LamI) (L : LamA) (l : LamI) : Bool := nscB L.N L.ps L.fr L.scope && decide (l.np = L.ps.length) && decide (l.ns = L.N.length) && chkE tb LA LI l.body (lamFr L) false L.body
/-- constant defaults -/
def dvB : D → V → Bool
  | .non, .non => true
  | .bl b, .bl c => b == c
  | .int i, .int j => decide (i = j)
  | .str i, .str j => decide (i = j)
  | _, _ => false
def dvsB : List D → List V → Bool
  | [], [] => true
  | d :: r, v :: t => dvB d v && dvsB r t
  | _, _ => false
section
variable {W : Wd} {xc : Nat → Option XcA} {C : Ct} {n : Nat} {tb : Tb} {fad : Nat → Addr} {LA : List LamA} {cf : Nat → List Val → M D} {ca : Nat → List Val → List Val → M D} {fuel : Nat}
theorem dvs_ok : ∀ {ds : List D} {vs : List V}, dvsB ds vs = true → ∀ F μ mid, RepDs W F μ mid ds vs
  | [], [], _ => fun _ _ _ => RepDs.nil
  | [], _ :: _, h => by cases h
  | _ :: _, [], h => by cases h
  | d :: r, v :: t, h => fun F μ mid => by
    simp only [dvsB, Bool.and_eq_true] at h
    refine RepDs.cons ?_ (dvs_ok h.2 F μ mid)
    have h1 := h.1
    unfold dvB at h1
    split at h1
    · simp only [RepD]
    · rw [beq_iff_eq] at h1; subst h1; simp only [RepD]
    · rw [decide_eq_true_eq] at h1; subst h1; simp only [RepD]
    · rw [decide_eq_true_eq] at h1; subst h1; simp only [RepD]
    · cases h1
theorem Rm.hu {A : Around} (r : Rm n A) : A.units + 200 < cLine := by have := r.room.un; omega
/-- the code object's table of a def with lambdas -/
def TabK (W : Wd) (C : Ct) (d : DefA) (cdv : Value) : Prop := ∀ nm, d.lam = some nm → ∃ c P, cdv = .ref c ∧ TabB C.base C.mg c P ∧ (P, nm) ∈ W.T ∧ ∀ p ∈ W.T, p.1 = P → p.2 = nm
theorem fr_def {d : DefA} {fa : Addr} {cdv : Value} {A : Around} {outer : List PySem.Env} {s : Shared} {H : Hp} {Ex : XK} (S : FnScope d.N d.ps d.scope) (T : TabK W C d cdv) (hr : Rm n (A.deeper (envOfC d.qual d.scope s.heap.objs.size fa cdv))) :
    FrOk W C n d.fr (cxOf (L2.CX C.prog C.w) C.prog C.w W.K C.mg C.base d.N d.qual d.scope fa cdv A outer s H Ex) ∧ DfOk (cxOf (L2.CX C.prog C.w) C.prog C.w W.K C.mg C.base d.N d.qual d.scope fa cdv A outer s H Ex) ∧
      Takes (cxOf (L2.CX C.prog C.w) C.prog C.w W.K C.mg C.base d.N d.qual d.scope fa cdv A outer s H Ex) (fun cls dd _ H' => Ex cls dd H') := by
  refine ⟨⟨⟨rfl, rfl, hr.hu, hr.g⟩, ⟨rfl, rfl, rfl, rfl, rfl⟩, hr, rfl, rfl, rfl, S.nd, fun x hx => ?_, fun nm hn => ?_⟩, ⟨rfl, rfl, passes_of rfl⟩, takes_of rfl rfl rfl rfl⟩
  · have hx : (d.scope.names.lookup x == some NameKind.cell) = true := hx
    rw [beq_iff_eq] at hx
    exact ⟨hx, rfl, cell_has hx⟩
  · obtain ⟨c, P, h1, h2, h3, h4⟩ := T nm hn
    exact ⟨c, P, h2, h1, h3, h4⟩
theorem def_ok {d : DefA} {f np ns : Nat} {body : List ST} {fa : Addr} {dV kV doc pm cdv ct oc : Value} {an od : Option Addr} {osl : Array (Option Value)} (h : HypS W xc C (n + 5) tb fad LA cf ca)
    (lk : W.K.lookup fa = some ⟨oc, od, .func (PySem.W.fnOf d.name d.qual d.params d.body d.scope dV kV doc pm an cdv ct), osl⟩) (hcd : PySem.W.codeIn W.K cdv d.qual = true) (T : TabK W C d cdv) (hp : W.P.fns[f]? = some (.df np ns body))
    (q : defB tb LA W.P.lams d np ns body = true) : FnSG W xc C (n + 6) fa (PySem.W.fnOf d.name d.qual d.params d.body d.scope dV kV doc pm an cdv ct) d.ps (callD W.P fuel cf ca f) := by
  unfold defB at q
  simp only [Bool.and_eq_true, decide_eq_true_eq] at q
  obtain ⟨⟨⟨⟨q1, q2⟩, q3⟩, q4⟩, q5⟩ := q
  have S := fnSc_of q1
  have r := fnG_of (xc := xc) (n := n + 5) (np := np) (N := d.N) (ps := d.ps) (c := execs W.P cf ca fuel body) lk hcd S q2 (by omega) fun A outer s H Ex b hr => by
    obtain ⟨k, df, tk⟩ := fr_def (Ex := Ex) (outer := outer) (H := H) S T hr
    exact chkSs_ok h body d.fr d.body q5 _ b _ k df tk
  have e : callD W.P fuel cf ca f = fun ds => if ds.length = np then M.bind (execs W.P cf ca fuel body (startE np d.N.length ds)) fun fl => match fl with
      | .rt d => ret1 d
      | .nx _ => ret1 .non
      | _ => bad else bad := by
    funext ds
    unfold callD
    rw [hp]
    dsimp only
    by_cases hl : ds.length = np
    · rw [if_pos ⟨hl, q4⟩, if_pos hl, q3]
      refine bind_cong fun fl => ?_
      cases fl <;> rfl
    · rw [if_neg (fun z => hl z.1), if_neg hl]
  rw [e]
  exact r
theorem callD_len {f np ns : Nat} {body : List ST} (hp : W.P.fns[f]? = some (.df np ns body)) (ds : List Val) (m : MS) (h : ds.length ≠ np) : callD W.P fuel cf ca f ds m = .bad := by
  unfold callD
  rw [hp]
  dsimp only
  rw [if_neg (fun z => h z.1)]
  rfl
theorem lam_of {k : Nat} {L : LamA} {l : LamI} (h : HypS W xc C (n + 5) tb fad LA cf ca) (hL : LA[k]? = some L) (hl : W.P.lams[k]? = some l) (q : lamOkB tb LA W.P.lams L l = true) (hd : dvsB l.dfl L.dfl = true)
    (hb : ∀ (s : Shared) (cl : List (Str × Addr)) (dV doc pm ctv : Value) (c' : Addr) (us dus : List Value), ((L.dfl = [] ∧ dV = .none) ∨ ∃ (a : Addr) (o : Obj) (n : Nat), dV = .ref a ∧ s.heap.get? a = some o ∧ o.data = .seq dus.toArray n) → dus.length = L.dfl.length → us.length ≤ L.ps.length → L.ps.length - us.length ≤ dus.length →
      BindsTo s (PySem.W.kdv_fn "<lambda>" L.qual L.params (.expr L.body) L.scope cl dV doc pm (.ref c') ctv) ⟨us, []⟩ (L.ps.zip (us ++ dus.drop (dus.length - (L.ps.length - us.length))))) :
    LamS W xc C (n + 6) k (callL W.P cf ca k) := by
  unfold lamOkB at q
  simp only [Bool.and_eq_true, decide_eq_true_eq] at q
  obtain ⟨⟨⟨q1, q2⟩, q3⟩, q4⟩ := q
  have S := nscope_by q1
  have T : LamT W k L l := ⟨by rw [h.lam]; exact hL, hl, S, q2, q3, dvs_ok hd, hb⟩
  have r := lamS_of (xc := xc) (C := C) (n := n + 5) (ce := evalE W.P cf ca l.body) T fun A outer s H Ex b cl c' f hr => by
    have k : FrOk W C (n + 5) (lamFr L) (lamX W C L cl c' f A outer s H Ex) := ⟨⟨rfl, rfl, hr.hu, hr.g⟩, ⟨rfl, rfl, rfl, rfl, rfl⟩, hr, rfl, rfl, rfl, S.nd, fun x hx => (by cases hx), fun nm hn => (by cases hn)⟩
    exact chkE_ok h.toHyp l.body (lamFr L) false L.body q4 _ b _ k (takes_of rfl rfl rfl rfl)
  have e : callL W.P cf ca k = appM l (evalE W.P cf ca l.body) := by
    funext cc as
    unfold callL
    rw [hl]
    rfl
  rw [e]
  exact r
/-! ### all of them -/
structure All (W : Wd) (xc : Nat → Option XcA) (C : Ct) (tb : Tb) (fad : Nat → Addr) (LA : List LamA) (fuel : Nat) : Prop where
  tbk : TbOk W xc C tb fad
  lam : ∀ k, W.lam k = LA[k]?
  exc : ∀ n x c f, tb.glob.lookup x = some (.exc c f) → ExcF W xc C (n + 5) x c f
  exm : ∀ c k A B, xc c = some A → xc k = some B → PySem.W.exmOne W.K (.ref A.C) (.ref B.C) = some (decide (k = c))
  fn : ∀ n cf ca, HypS W xc C (n + 5) tb fad LA cf ca → ∀ x f, tb.glob.lookup x = some (.fn f) → FnS W xc C (n + 6) (fad f) (callD W.P fuel cf ca f)
  kw : ∀ n cf ca, HypS W xc C (n + 5) tb fad LA cf ca → ∀ x ks f ord, (x, ks, f, ord) ∈ tb.kw → FnSKw W xc C (n + 6) (fad f) ks ord (callD W.P fuel cf ca f)
  cl : ∀ n cf ca, HypS W xc C (n + 5) tb fad LA cf ca → ∀ k, LamS W xc C (n + 6) k (callL W.P cf ca k)
theorem all_ok (a : All W xc C tb fad LA fuel) : ∀ n, HypS W xc C (n + 5) tb fad LA (callF W.P fuel n) (callG W.P fuel n)
  | 0 => ⟨⟨a.tbk, a.lam, fun x f _ => fun A outer s H us vs Q Ex g ds m _ _ _ _ _ _ p => p.elim, fun k => fun A outer s H f us vs Q Ex g cap as m _ _ _ _ _ _ _ p => p.elim,
      fun x ks f ord _ => fun A outer s H us vs Q Ex g ds ds' m _ _ _ _ _ _ _ _ p => p.elim⟩, a.exc 0, a.exm⟩
  | n + 1 => ⟨⟨a.tbk, a.lam, fun x f hx => a.fn n _ _ (all_ok a n) x f hx, fun k => a.cl n _ _ (all_ok a n) k, fun x ks f ord hx => a.kw n _ _ (all_ok a n) x ks f ord hx⟩, a.exc (n + 1), a.exm⟩
end
end Di
end
section
set_option Elab.async false
set_option linter.all false
set_option maxRecDepth 100000
set_option maxHeartbeats 4000000
/-! Di.Law: defs and lambdas out of a text. -/
namespace Di
open PySem PySem.Spec PyProof.Rows L2 LamX NdefX
def stBody : Stmt → List Stmt
  | .FunctionDef (body := b) .. => b
  | _ => []
def stArgs : Stmt → Arguments
  | .FunctionDef (args := a) .. => a
  | _ => ⟨[], [], none, [], [], none, []⟩
def stScope : Stmt → Scope
  | .FunctionDef (scope := s) .. => s
  | _ => ⟨.function, [], false, false, []⟩
def defAt (st : Stmt) (name : Str) (ps N : List Str) (lam : Option (Nat → Nat → Str)) : DefA := ⟨name, name, stArgs st, stBody st, stScope st, ps, N, lam⟩
def gF (x : Str) (i : Nat) : Str × Gk := (x, .fn i)
def gC (x : Str) (i : Nat) : Str × Gk := (x, .con i)
def gE (x : Str) (i : Nat) (f : Str) : Str × Gk := (x, .exc i f)
abbrev LamT3 : Type := Arguments × Expr × Scope
/-- the lambdas of an expression, from the left -/
def lamsE : Nat → Expr → List LamT3
  | 0 => fun _ => []
  | n + 1 => fun e => match e with
    | .Lambda a b s _ => [(a, b, s)]
    | .BoolOp _ vs _ => vs.flatMap (lamsE n)
    | .BinOp a _ b _ => lamsE n a ++ lamsE n b
    | .UnaryOp _ a _ => lamsE n a
    | .IfExp a b c _ => lamsE n a ++ lamsE n b ++ lamsE n c
    | .Compare a _ cs _ => lamsE n a ++ cs.flatMap (lamsE n)
    | .Call f xs kws _ => lamsE n f ++ xs.flatMap (lamsE n) ++ kws.flatMap fun k => lamsE n k.value
    | .Subscript a b _ => lamsE n a ++ lamsE n b
    | .List xs _ => xs.flatMap (lamsE n)
    | .Tuple xs _ _ => xs.flatMap (lamsE n)
    | .ListComp elt gs _ _ => (gs.flatMap fun g => lamsE n g.iter ++ g.ifs.flatMap (lamsE n)) ++ lamsE n elt
    | _ => []
def lamsO (n : Nat) : Option Expr → List LamT3
  | some e => lamsE n e
  | none => []
def lamsS : Nat → Stmt → List LamT3
  | 0 => fun _ => []
  | n + 1 => fun s => match s with
    | .Return v _ => lamsO n v
    | .Assign _ v _ => lamsE n v
    | .AugAssign _ _ v _ => lamsE n v
    | .For _ i b _ _ => lamsE n i ++ b.flatMap (lamsS n)
    | .While c b _ _ => lamsE n c ++ b.flatMap (lamsS n)
    | .If c a b _ => lamsE n c ++ a.flatMap (lamsS n) ++ b.flatMap (lamsS n)
    | .Expr e _ => lamsE n e
    | .Raise v _ _ => lamsO n v
    | _ => []
def lamNo (st : Stmt) (j : Nat) : LamT3 := ((stBody st).flatMap (lamsS 60)).getD j (⟨[], [], none, [], [], none, []⟩, .Constant .none 0 ⟨0, 0, 0, 0⟩, ⟨.function, [], false, false, []⟩)
def lamAt (st : Stmt) (j : Nat) (qual : Str) (ps fr N : List Str) (dfl : List V) : LamA := ⟨qual, (lamNo st j).1, (lamNo st j).2.1, (lamNo st j).2.2, ps, fr, N, dfl⟩
end Di
end
section
set_option Elab.async false
set_option linter.all false
set_option maxRecDepth 100000
set_option maxHeartbeats 4000000
/-! Di.Init: `__init__(self, f): super().__init__(text); self.f = f` of an own ValueError. -/
namespace Di
open PySem PySem.Spec PyProof.Rows L2 LamX NdefX
section
variable {P : Program} {w : World} {A : Around} {E : Value → Shared → Prop} {h : Heap} {g : Array GenState} {dr : Drawn} {t : Nat} {os : OsState}
variable {nm q : Str} {C N : Addr} {bs bm : List Value} {hdct : Bool} {sn : List Str} {sub : List Value} {ab : Bool} {col : Option Bool} {dd : Option Addr} {k0 k1 k2 k3 k5 : Option Value}
/-- the built-in's __init__, bound to the new exception, called -/
theorem call_mw {u e t0 : Addr} {rest : List Value} {Q : Value → Shared → Prop} (hC : h.get? C = some (excClassObj nm q C N bs bm hdct sn sub ab col dd k0 k1 k2 k3 k5 "ValueError.__new__")) (he : h.get? e = some (HandSPX.excO C t0)) (hu : h.get? u = some (PySem.W.kxs_mw "ValueError.__init__" e)) (hl : rest.length ≤ sizeLine)
    (k : ∀ h' t1, (∀ b o, b ≠ e → h.get? b = some o → h'.get? b = some o) → h'.get? e = some (HandSPX.excO C t1) → Q .none ⟨h', g, dr, t, os⟩) : wpAny (model P w) A (call (.ref u) rest) Q E ⟨h, g, dr, t, os⟩ := by
  refine wpAny_call (codeAny_of_tree ?_)
  show wpAny _ A.in1 (callAny (.ref u) ⟨rest, []⟩) _ _ _
  simp only [callAny]
  refine wpAny_bind (wpAny_load hu ?_)
  simp only [PySem.W.kxs_mw, show (Value.type "method-wrapper" == Value.type "method" || Value.type "method-wrapper" == Value.type "builtin_function_or_method" || Value.type "method-wrapper" == Value.type "method-wrapper") = true by decide, if_true]
  refine PySem.W.KFB.if_so (by decide) (wpAny_bind (PySem.W.check_bound_init F.excBase_ValueError.toExcCallFacts hC he rfl (wpAny_bind (wpAny_pure (wpAny_pure ?_)))))
  refine ⟨plainId_quiet F.excBase_ValueError.init.plain _, codeAny_builtin F.excBase_ValueError.initEntry ?_⟩
  exact PySem.W.exc_init_tree (cls := .ref C) (t0 := t0) (dv := none) (c2 := .none) (c3 := .none) (b4 := .bool false) he hl fun h' k1 k2 _ => k h' _ k1 k2
end
/-- what the written part says of such an __init__: at fI, of the class at C, its field f -/
structure InitK (K : PySem.W.Frag) (P : Program) (mg : Str → Option Value) (C fI : Addr) (f : Str) (cda cc : Addr) (qual : Str) (params : Arguments) (body : List Stmt) (scope : Scope) (fd : FuncData) : Prop where
  fn : ∃ (oc : Value) (od : Option Addr) (dV kV doc pm ct : Value) (an : Option Addr) (osl : Array (Option Value)), fd = PySem.W.ksFn "__init__" qual params body scope dV kV doc pm an (.ref cda) ct cc ∧ K.lookup fI = some ⟨oc, od, .func fd, osl⟩
  code : PySem.W.codeIn K (.ref cda) qual = true
  file : ∃ (ccl : Value) (cdd : Option Addr) (vs : Array Value) (ccs : Array (Option Value)) (file : Str) (tf : Tok), K.lookup cda = some ⟨ccl, cdd, .fields vs, ccs⟩ ∧ vs[2]? = some (.str file tf) ∧ (P.main.file == file) = true
  cell : ∃ (cl : Value) (cld : Option Addr) (csl : Array (Option Value)), K.lookup cc = some ⟨cl, cld, .cell (some (.ref C)), csl⟩
  sub : PySem.W.mroIn K C (.ref C) = some true
  sup : PySem.W.ks_superIn K C C "__init__" = some (some (.builtin "ValueError.__init__"))
  ve : PySem.W.subIn K (.ref C) (.type "ValueError") = some true
  opq : PySem.W.nsIn K PySem.cStatics "thirdparty.any" = some none
  mgs : mg "super" = none
  top : (P.main.scope.names.lookup ("super" : Str)).isSome = false
  oex : OexC K C
  no : PySem.W.findIn K (.ref C) f = some none
def simpArgs (a : Arguments) (ps : List Str) : Bool := a.posonlyargs.isEmpty && noArg a.vararg && a.kwonlyargs.isEmpty && a.kw_defaults.isEmpty && noArg a.kwarg && decide (a.args.map (·.arg) = ps)
theorem simpArgs_ok {a : Arguments} {ps : List Str} (h : simpArgs a ps = true) : ∃ as ds, a = ⟨[], as, none, [], [], none, ds⟩ ∧ as.map (·.arg) = ps := by
  obtain ⟨a1, a2, a3, a4, a5, a6, a7⟩ := a
  simp only [simpArgs, Bool.and_eq_true, List.isEmpty_iff, decide_eq_true_eq] at h
  obtain ⟨⟨⟨⟨⟨h1, h2⟩, h3⟩, h4⟩, h5⟩, h6⟩ := h
  exact ⟨a2, a7, by rw [h1, noArg_eq h2, h3, h4, noArg_eq h5], h6⟩
/-- the text of it -/
structure InitT (f : Str) (params : Arguments) (body : List Stmt) (scope : Scope) : Prop where
  b : ∃ (x msg : Str) (j : Nat) (p0 p1 p2 p3 p4 p5 p6 p7 p8 p9 : Pos), body = [.Expr (.Call (.Attribute (.Call (.Name "super" p0) [] [] p1) "__init__" p2) [.Constant (.str msg) j p3] [] p4) p5, .Assign [.Attribute (.Name "self" p6) f p7] (.Name x p8) p9] ∧ (p2.endLine == p4.line) = true ∧
    NScope ["self", x, "__class__"] ["self", x] ["__class__"] scope ∧ scope.names.lookup ("super" : Str) = some .globalImplicit ∧ (params.posonlyargs ++ params.args).head?.map (·.arg) = some "self" ∧ (x == ("__debug__" : Str)) = false ∧ (x == ("__classdict__" : Str)) = false ∧ simpArgs params [("self" : Str), x] = true ∧ ([("self" : Str), x]).Nodup
/-- the look at it -/
def initTB (f : Str) (params : Arguments) (body : List Stmt) (scope : Scope) : Bool := match body with
  | [.Expr (.Call (.Attribute (.Call (.Name s1 _) [] [] _) m p2) [.Constant (.str _) _ _] [] p4) _, .Assign [.Attribute (.Name s2 _) f' _] (.Name x _) _] =>
    decide (s1 = "super") && (decide (m = "__init__") && (decide (s2 = "self") && (decide (f' = f) && ((p2.endLine == p4.line) && (nscB [("self" : Str), x, ("__class__" : Str)] [("self" : Str), x] [("__class__" : Str)] scope && (decide (scope.names.lookup ("super" : Str) = some .globalImplicit) && (notDbg x && (simpArgs params [("self" : Str), x] && decide ([("self" : Str), x]).Nodup))))))))
  | _ => false
theorem initT_of {f : Str} {params : Arguments} {body : List Stmt} {scope : Scope} (h : initTB f params body scope = true) : InitT f params body scope := by
  unfold initTB at h
  split at h
  · rename_i s1 p0 p1 m p2 msg j p3 p4 p5 s2 p6 f' p7 x p8 p9
    simp only [Bool.and_eq_true, decide_eq_true_eq] at h
    obtain ⟨rfl, rfl, rfl, rfl, h5, h6, h7, h8, h9, h10⟩ := h
    refine ⟨x, msg, j, p0, p1, p2, p3, p4, p5, p6, p7, p8, p9, rfl, h5, nscope_by h6, h7, ?_, (dbg_of h8).1, (dbg_of h8).2, h9, h10⟩
    obtain ⟨as, ds, e1, e2⟩ := simpArgs_ok h9
    rw [e1]
    show (([] ++ as).head?).map (fun z : Arg => z.arg) = _
    rw [List.nil_append]
    cases as with
    | nil => cases e2
    | cons a r => simp only [List.map_cons, List.cons.injEq] at e2; rw [List.head?_cons, Option.map_some, e2.1] <;> rfl
  · cases h
def spInit (C : Addr) (f : Str) : Sp := fun vs H Q _ => ∃ a v, vs = [.ref a, v] ∧ H a = some (exo a C none) ∧ ∀ d, d ≠ a → H d = none → Q .non (upd (upd H a (exo a C (some d))) d (exd d [(f, v)]))
theorem spInit_ok {C : Addr} {f : Str} : InitS (spInit C f) C f := by
  intro a v H Q Ex ha hq
  refine ⟨a, v, rfl, upd_same .., fun d hd hn => ?_⟩
  have e : upd (upd (upd H a (exo a C none)) a (exo a C (some d))) d (exd d [(f, v)]) = upd (upd H a (exo a C (some d))) d (exd d [(f, v)]) := by
    funext b
    by_cases h1 : b = d
    · rw [h1, upd_same, upd_same]
    · rw [upd_ne h1, upd_ne h1]
      by_cases h2 : b = a
      · rw [h2, upd_same, upd_same]
      · rw [upd_ne h2, upd_ne h2, upd_ne h2]
  rw [e]
  exact hq d hd (by rw [upd_ne hd] at hn; exact hn)
section
variable {X : Cx} {C fI cda cc a : Addr} {f qual : Str} {params : Arguments} {body : List Stmt} {scope : Scope} {fd : FuncData} {σ : L2.St} {H : Hp} {s : Shared} {msg : Str} {j : Nat} {p0 p1 p2 p3 p4 : Pos} {E : Value → Shared → Prop}
/-- super().__init__(text) -/
theorem super_eval (KI : InitK X.K X.prog X.mg C fI f cda cc qual params body scope fd) (I : L2.Inv X [] σ H s) (hsc : X.env.scope = scope) (hfu : X.env.func = some fI) (hco : X.env.code = .ref cda) (hcl : X.env.cells = [(("__class__" : Str), cc)]) (hl : (p2.endLine == p4.line) = true)
    (k1 : scope.names.lookup ("super" : Str) = some .globalImplicit) (k2 : scope.names.lookup ("__class__" : Str) = some .free) (k3 : scope.names.lookup ("self" : Str) = some .local) (hpar : ∃ ar : Arg, (params.posonlyargs ++ params.args).head? = some ar ∧ ar.arg = "self")
    (hN : X.N[0]? = some ("self" : Str)) (hσ : σ[0]? = some (some (.ref a))) (ha : H a = some (exo a C none)) :
    _root_.PySem.wpAt (model X.prog X.w) X.A (.func body X.env) (eval (.Call (.Attribute (.Call (.Name "super" p0) [] [] p1) "__init__" p2) [.Constant (.str msg) j p3] [] p4) X.env) (fun u s' => u = .none ∧ L2.Inv X [] σ H s') X.xe s := by
  have KX : X.K.In s.heap := I.kIn
  obtain ⟨oc, od, dV, kV, doc, pm, ct, an, osl, rfl, lk⟩ := KI.fn
  obtain ⟨ccl, cdd, vs, ccs, file, tf, lcd, hvs, hfile⟩ := KI.file
  obtain ⟨cl, cld, csl, hcell⟩ := KI.cell
  obtain ⟨ar, ha1, ha2⟩ := hpar
  obtain ⟨nm, qn, N, bs, bm, sn, sub, ab, col, dd, c0, c1, c2, c3, c5, hC, hbm⟩ := KI.oex.cls
  have hcls : PySem.W.clsIn X.K C = some { name := nm, bases := bs, mro := .ref C :: bm, ns := N, qualname := qn, hasDict := true, slotNames := sn, subclasses := sub, abstract := ab, collection := col, hasDel := false } := by unfold PySem.W.clsIn; rw [hC] <;> rfl
  have kf : X.env.scope.kind = .function := I.ok.kind
  obtain ⟨m, hns, hlk⟩ := id I.loc
  obtain ⟨u0, ru, lo⟩ := hlk 0 "self" (.ref a) hN hσ (.inl (by rw [hsc]; exact k3))
  obtain rfl : u0 = Value.ref a := ru
  have hself : m "self" = some (.ref a) := by
    rcases lo with ⟨_, z⟩ | ⟨z, _⟩
    · exact z
    · have z : X.env.scope.names.lookup ("self" : Str) = some .cell ∨ X.env.scope.names.lookup ("self" : Str) = some .free := z
      rw [hsc, k3] at z
      rcases z with z | z <;> cases z
  obtain ⟨mb, b1, b2⟩ := I.mod.blt
  obtain ⟨t0, hoe⟩ := exo_at I.hok ha
  have gC := KX _ _ hC
  show _root_.PySem.wpAt _ _ _ (attributeBase (.Call (.Name "super" p0) [] [] p1) "__init__" X.env (eval (.Call (.Name "super" p0) [] [] p1) X.env) >>= fun ov => standAt p2.atName >>= fun _ => methodCall (.Call (.Name "super" p0) [] [] p1) "__init__" p2 p4 X.env ov 1 (backTo p4 (starEach [.Constant (.str msg) j p3] X.env)) (backToKw p4 (keywordEach [] X.env))) _ _ s
  refine _root_.PySem.wpAt_bind (ks_wpAt_super_base (fd := PySem.W.ksFn "__init__" qual params body scope dV kV doc pm an (.ref cda) ct cc) (ar := ar) (by show X.env.scope.names.lookup _ = _; rw [hsc]; exact k1) (by show X.env.scope.names.lookup _ = _; rw [hsc]; exact k2) (by decide) hfu (KX _ _ lk) rfl ha1 hco (KX _ _ lcd) rfl hvs hfile KI.top ?_)
  refine PySem.W.ks_loadName_global kf (by show X.env.scope.names.lookup _ = _; rw [hsc]; exact k1) (Calls.loadGlobal_builtin (by rw [I.ok.glob]; exact I.mod.glob.keeps I.bk) KI.mgs (by rw [I.ok.blt]; exact b1.keeps I.bk) ((b2 "super" (by decide)).trans (by decide +kernel)) ⟨rfl, ?_⟩)
  refine wpAny_loadName_free kf (by show X.env.scope.names.lookup _ = _; rw [hsc]; exact k2) (by rw [hcl]; rfl) ⟨_, KX _ _ hcell, rfl⟩ ?_
  rw [ha2]
  refine wpAny_loadName_local kf (by show X.env.scope.names.lookup _ = _; rw [hsc]; exact k3) hns hself ?_
  obtain ⟨hp, g, d, tk, os⟩ := s
  refine ks_wpAny_isType_cls gC rfl ⟨rfl, ks_wpAny_call_super gC rfl hoe rfl (fun c z => by cases z) (PySem.W.looks_mroIn KX KI.sub) fun h2 so k => ?_⟩
  have I2 : L2.Inv X [] σ H ⟨h2, g, d, tk, os⟩ := I.kept (t' := tk) k
  have K2 : X.K.In h2 := I2.kIn
  have he2 := k _ _ hoe
  have LT : PySem.W.Looks (model X.prog X.w) h2 (typeOf (.ref a)) (.ref C) := fun _ _ _ _ kk z => wpAny_typeOf_ref (kk _ _ he2) z
  have hI : PySem.W.Looks (model X.prog X.w) h2 (isInstance (.ref a) (.type "ValueError")) true := LT.andThen (PySem.W.looks_subIn K2 KI.ve)
  have hne : a ≠ C := fun z => by
    rw [z] at hoe
    have z2 := hoe.symm.trans gC
    cases z2
  have hm := KI.sup
  unfold PySem.W.ks_superIn at hm
  rw [hcls] at hm
  refine _root_.PySem.wpAt_of_wpAny (wpAny_bind (wpAny_standAt ?_))
  rw [mcall_line rfl hl]
  refine wpAny_bind (wpAny_holding (PySem.W.kxs_getMethod PySem.W.kxs_ValueError so (PySem.W.looks_opaque K2 KI.opq) (l₀ := .ref C :: bm) (fun A Q E s kk z => wpAny_bind ((PySem.W.looks_clsIn K2 hcls) A _ E s kk (wpAny_pure z))) rfl K2 hm hI hne (by decide) ?_))
  have hu : (h2.push (PySem.W.kxs_mw "ValueError.__init__" a)).get? h2.objs.size = some (PySem.W.kxs_mw "ValueError.__init__" a) := Heap.get?_push_at rfl rfl
  have k3 : ∀ b o, h2.get? b = some o → (h2.push (PySem.W.kxs_mw "ValueError.__init__" a)).get? b = some o := fun b o e => Heap.get?_push_of_some _ e
  have I3 : L2.Inv X [] σ H ⟨h2.push (PySem.W.kxs_mw "ValueError.__init__" a), g, d, tk + 1, os⟩ := I2.kept (t' := tk + 1) k3
  have hsz : h2.objs.size ≤ h2.objs.size := Nat.le_refl _
  have I3p : L2.Inv X [(h2.objs.size, PySem.W.kxs_mw "ValueError.__init__" a)] σ H ⟨h2.push (PySem.W.kxs_mw "ValueError.__init__" a), g, d, tk + 1, os⟩ := I3.pins_of fun p hp => by
    have hp : p = (h2.objs.size, PySem.W.kxs_mw "ValueError.__init__" a) := by simpa using hp
    subst hp
    exact ⟨hu, I2.hok.fresh hsz, fun z => absurd I2.lt (by rw [← z]; exact Nat.lt_irrefl _), I2.nofs hsz, fun v z => by cases z⟩
  refine PySem.W.kxs_callWith (i := "ValueError.__init__") (x := a) rfl (Calls.evalArgs_plain (thn ((pa_cons (pe_str (x := msg) (j := j) (pos := p3)) pa_nil).run p4 _ _ σ H (fun vs G => G = H ∧ vs.length = 1) I3p ⟨rfl, rfl⟩) fun us s4 ⟨zs, H4, I4, rz, e4, l4⟩ => ?_))
  subst e4
  have hu4 := (I4.pin (h2.objs.size, PySem.W.kxs_mw "ValueError.__init__" a) (by simp)).1
  refine ⟨hu4, ?_⟩
  obtain ⟨t4, hoe4⟩ := exo_at I4.hok ha
  obtain ⟨hp4, g4, d4, tk4, os4⟩ := s4
  refine call_mw (I4.kIn _ _ hC) hoe4 hu4 (by show ([] ++ us).length ≤ _; rw [List.nil_append, ← rz.length, l4, sizeLine_eq]; decide) fun h5 t5 kp5 he5 => ?_
  have J := I4.write (t' := tk4) (x := a) (e := a) (o := exo a C none) (by rw [ha]; exact True.intro) (.inl rfl) kp5 ⟨_, he5⟩ (exo_ok he5)
  have eu : upd H4 a (exo a C none) = H4 := by
    funext b
    by_cases hb : b = a
    · rw [hb, upd_same, ha]
    · rw [upd_ne hb]
  rw [eu] at J
  exact ⟨rfl, J.pins_of (pins' := []) fun p hp => by cases hp⟩
end
section
variable {P : Program} {w : World} {K : PySem.W.Frag} {mg : Str → Option Value} {base : Heap} {C fI cda cc : Addr} {f qual : Str} {params : Arguments} {body : List Stmt} {scope : Scope} {fd : FuncData}
theorem wpAt_execs {X : Cx} {st st2 : Stmt} {c : Code} {Q : Flow → Shared → Prop} {E : Value → Shared → Prop} {s : Shared} (h : _root_.PySem.wpAt (model X.prog X.w) X.A c (PySem.exec st X.env) (fun fl s' => fl = .next ∧ wpAny (model X.prog X.w) X.A (PySem.execs [st2] X.env) Q E s') E s) :
    _root_.PySem.wpAt (model X.prog X.w) X.A c (PySem.execs [st, st2] X.env) Q E s := by
  show _root_.PySem.wpAt _ _ _ (PySem.exec st X.env >>= fun fl => match fl with
    | .next => PySem.execs [st2] X.env
    | fl => pure fl) _ _ s
  refine _root_.PySem.wpAt_bind (_root_.PySem.wpAt_mono h (fun fl s' ⟨e, q⟩ => ?_) fun _ _ z => z)
  subst e
  exact _root_.PySem.wpAt_of_wpAny q
theorem exec_expr {e : Expr} {p : Pos} {env : PySem.Env} (h1 : interactive env = false) (h2 : notComp e = true) : PySem.exec (.Expr e p) env = (do
      standAt p
      let v ← eval e env
      dropValue e p v) := by
  show (do
    standAt p
    if interactive env then _ else do
      if ← swapsWith e none p.line env then _ else _) = _
  rw [h1, swaps_no h2]
  rfl
theorem init_ok (T : InitT f params body scope) (KI : InitK K P mg C fI f cda cc qual params body scope fd) : ∃ x : Str, FnOk P w K mg base (L2.CX P w) 1 fI fd [("self" : Str), x] (spInit C f) ∧ simpArgs params [("self" : Str), x] = true ∧ ([("self" : Str), x]).Nodup := by
  obtain ⟨x, msg, j, p0, p1, p2, p3, p4, p5, p6, p7, p8, p9, rfl, hl, S, hsup, hpar, hd1, hd2, hsa, hnd⟩ := T.b
  refine ⟨x, ⟨fun vs H Q E ⟨a, v, e, _⟩ => by rw [e] <;> rfl, fun A outer s H args us vs Q E hr e0 hbd r hsp => ?_⟩, hsa, hnd⟩
  obtain ⟨a, v, rfl, ha, hq⟩ := hsp
  obtain ⟨oc, od, dV, kV, doc, pm, ct, an, osl, efd, lk⟩ := KI.fn
  have KX : K.In s.heap := e0.mod.kin.keeps fun b o e => (e0.bs b o e).1
  have lim : s.heap.NoLimit := e0.mod.nolimit.keeps fun b o e => (e0.bs b o e).1
  obtain ⟨cl, cld, csl, hcell⟩ := KI.cell
  obtain ⟨F, hF⟩ : ∃ F : NF, F = ⟨"__init__", qual, params, [.Expr (.Call (.Attribute (.Call (.Name "super" p0) [] [] p1) "__init__" p2) [.Constant (.str msg) j p3] [] p4) p5, .Assign [.Attribute (.Name "self" p6) f p7] (.Name x p8) p9], scope, [("__class__", cc)], cda⟩ := ⟨_, rfl⟩
  have hH : H cc = none := (e0.bs cc _ (e0.mod.kin _ _ hcell)).2
  have one : ∀ {y : Str} {c : Addr}, List.lookup y [(("__class__" : Str), cc)] = some c → y = "__class__" ∧ c = cc := fun {y c} e => by
    rw [List.lookup_cons] at e
    cases z : y == ("__class__" : Str) with
    | true => rw [z] at e; cases e; exact ⟨beq_iff_eq.mp z, rfl⟩
    | false => rw [z] at e; cases e
  have CA : CellsAt F.cl ["__class__"] [some (.ref C)] s.heap H := by
    rw [hF]
    refine ⟨rfl, fun y c e => ?_, fun y z c e1 e2 => (one e1).1.trans (one e2).1.symm, fun i y e => ?_⟩
    · obtain ⟨_, rfl⟩ := one e
      exact ⟨hH, some (.ref C), _, KX _ _ hcell, rfl⟩
    · match i, e with
      | 0, e =>
        simp only [List.getElem?_cons_zero, Option.some.injEq] at e
        subst e
        refine ⟨cc, by simp [List.lookup], fun v ev => ?_⟩
        simp only [List.getElem?_cons_zero, Option.some.injEq] at ev
        subst ev
        exact ⟨.ref C, rfl, _, KX _ _ hcell, rfl⟩
      | i + 1, e => simp at e
  have SF : NScope [("self" : Str), x, ("__class__" : Str)] [("self" : Str), x] ["__class__"] F.scope := by rw [hF]; exact S
  refine ks_codeAny_call_defAt (body := F.body) hr.depth (KX _ _ lk) rfl lim (by rw [efd]; exact PySem.W.codeRec_of KX KI.code) (by rw [efd, hF] <;> rfl) hbd (by rw [efd]; exact S.nocell) (fun y hy => by rw [efd]; exact S.par y.1 (List.of_mem_zip hy).1) (fun h1 hns kp => ?_) (by rw [efd]; exact S.co) (by rw [efd]; exact S.gen) (by rw [efd]; exact S.kind)
  have I0 := inv_startN (CX := L2.CX P w) (P := P) (w := w) (N := [("self" : Str), x, ("__class__" : Str)]) (F := F) (f := fI) (E := E) (tk := s.toks + ([("self" : Str), x].zip us).length) SF hr.hd e0 rfl r CA hns kp
  have ecall : callEnv fd s.heap.objs.size fI = envF F fI s.heap.objs.size := by rw [efd, hF] <;> rfl
  rw [ecall]
  generalize ({ s with heap := h1, toks := s.toks + ([("self" : Str), x].zip us).length } : Shared) = s1 at I0 ⊢
  have eB : F.body = [.Expr (.Call (.Attribute (.Call (.Name "super" p0) [] [] p1) "__init__" p2) [.Constant (.str msg) j p3] [] p4) p5, .Assign [.Attribute (.Name "self" p6) f p7] (.Name x p8) p9] := by rw [hF]
  obtain ⟨X, hX⟩ : ∃ X, X = ncx (L2.CX P w) P w K mg base [("self" : Str), x, ("__class__" : Str)] F fI A outer s H E := ⟨_, rfl⟩
  have fin : ∀ {σ' : L2.St} {H' : Hp} {v : V} {u : Value} {s' : Shared}, L2.Inv X [] σ' H' s' → L2.RelV v u → Q v H' → CE outer P w H s Q u s' := fun {σ' H' v u s'} J rv q => by
    rw [hX] at J
    exact ⟨v, H', J.os, J.bare, J.base, J.hok, rv, q⟩
  have I : L2.Inv X [] (startF [("self" : Str), x, ("__class__" : Str)] [V.ref a, v] [some (.ref C)]) H s1 := by rw [hX]; exact I0
  have eK : X.K = K := by rw [hX] <;> rfl
  have eP : X.prog = P := by rw [hX] <;> rfl
  have em : X.mg = mg := by rw [hX] <;> rfl
  have esc : X.env.scope = scope := by rw [hX, hF] <;> rfl
  have efu : X.env.func = some fI := by rw [hX] <;> rfl
  have eco : X.env.code = .ref cda := by rw [hX, hF] <;> rfl
  have ecl : X.env.cells = [(("__class__" : Str), cc)] := by rw [hX, hF] <;> rfl
  have eN : X.N = [("self" : Str), x, ("__class__" : Str)] := by rw [hX] <;> rfl
  suffices g : _root_.PySem.wpAt (model X.prog X.w) X.A (.func F.body X.env) (PySem.execs F.body X.env) (fun fl s' => SP X [] { nx := fun _ H' => Q .non H', rt := Q } fl s') X.xe s1 by
    rw [hX] at g
    refine _root_.PySem.wpAt_mono g (fun fl s' sp => ?_) fun _ _ z => z
    rw [← hX] at sp
    cases fl with
    | ret u =>
      obtain ⟨v', σ', H', J, rv, q⟩ := sp
      exact fin J rv q
    | next =>
      obtain ⟨σ', H', J, q⟩ := sp
      exact fin (v := V.non) (u := Value.none) J rfl q
    | brk =>
      obtain ⟨_, _, _, q⟩ := sp
      exact False.elim q
    | cont =>
      obtain ⟨_, _, _, q⟩ := sp
      exact False.elim q
  rw [eB]
  have KI' : InitK X.K X.prog X.mg C fI f cda cc qual params [.Expr (.Call (.Attribute (.Call (.Name "super" p0) [] [] p1) "__init__" p2) [.Constant (.str msg) j p3] [] p4) p5, .Assign [.Attribute (.Name "self" p6) f p7] (.Name x p8) p9] scope fd := by rw [eK, eP, em]; exact KI
  have hself : scope.names.lookup ("self" : Str) = some .local := S.par _ (by simp)
  have hx : scope.names.lookup x = some .local := S.par _ (by simp)
  have hcls : scope.names.lookup ("__class__" : Str) = some .free := S.frk _ (by simp)
  refine wpAt_execs ?_
  rw [exec_expr I.quiet rfl]
  refine _root_.PySem.wpAt_bind (_root_.PySem.wpAt_of_wpAny (wpAny_standAt ?_))
  refine _root_.PySem.wpAt_bind (_root_.PySem.wpAt_mono (super_eval KI' I esc efu eco ecl hl hsup hcls hself ?_ (by rw [eN] <;> rfl) rfl ha) (fun u s2 ⟨eu, I2⟩ => ?_) fun _ _ z => z)
  · cases hh : (params.posonlyargs ++ params.args).head? with
    | none => rw [hh] at hpar; cases hpar
    | some ar =>
      rw [hh] at hpar
      exact ⟨ar, rfl, Option.some.inj hpar⟩
  · subst eu
    refine _root_.PySem.wpAt_of_wpAny (wpAny_pure ⟨rfl, ?_⟩)
    refine (pss_one (ps_ost (f := f) (p' := p7) (pos := p9) (pe_var (X := X) (i := 0) (pos := p6) (by rw [eN] <;> rfl) (.inl (by rw [esc]; exact hself)) (by decide) (by decide)) (pe_var (X := X) (i := 1) (pos := p8) (by rw [eN] <;> rfl) (.inl (by rw [esc]; exact hx)) hd1 hd2))).run [] s2 _ H _ I2 ?_
    refine ⟨v, rfl, .ref a, rfl, a, C, rfl, by rw [eK]; exact KI.oex, by rw [eK]; exact KI.no, .inl ⟨ha, fun d hn hd => ?_⟩⟩
    have e : upd (upd H d (exd d [(f, v)])) a (exo a C (some d)) = upd (upd H a (exo a C (some d))) d (exd d [(f, v)]) := by
      funext b
      by_cases h1 : b = a
      · rw [h1, upd_same, upd_ne (Ne.symm hd), upd_same]
      · rw [upd_ne h1]
        by_cases h2 : b = d
        · rw [h2, upd_same, upd_same]
        · rw [upd_ne h2, upd_ne h2, upd_ne h1]
    show Q .non _
    rw [e]
    exact hq d hd hn
end
end Di
end
section
set_option Elab.async false
set_option linter.all false
set_option maxRecDepth 100000
set_option maxHeartbeats 4000000
/-! Di.Bind: how plain parameters are bound. -/
namespace Di
open PySem PySem.Spec PyProof.Rows L2 LamX NdefX
theorem zip_get : ∀ {ps : List Str} {us : List Value}, us.length = ps.length → ∀ x ∈ ps, ((ps.zip us).lookup x).isNone = false
  | [], _, _, x, h => by cases h
  | p :: ps, [], h, _, _ => by simp at h
  | p :: ps, u :: us, h, x, hx => by
    rw [List.zip_cons_cons, List.lookup_cons]
    cases e : x == p with
    | true => rfl
    | false =>
      have hx : x ∈ ps := by
        rcases List.mem_cons.mp hx with z | z
        · rw [z] at e; simp at e
        · exact z
      exact zip_get (by simpa using h) x hx
theorem zip_map : ∀ {ps : List Str} {us : List Value} {l : List (Str × Value)}, ps.Nodup → us.length = ps.length → (∀ x ∈ ps, l.lookup x = none) → (ps.filterMap fun n => ((l ++ ps.zip us).lookup n).map fun v => (n, v)) = ps.zip us
  | [], _, _, _, _, _ => rfl
  | p :: ps, [], _, _, h, _ => by simp at h
  | p :: ps, u :: us, l, nd, h, hl => by
    obtain ⟨h1, h2⟩ := List.nodup_cons.mp nd
    have e0 : (l ++ (p :: ps).zip (u :: us)).lookup p = some u := by
      rw [List.lookup_append, hl p (by simp), List.zip_cons_cons, List.lookup_cons]
      simp
    rw [List.filterMap_cons, e0]
    show (p, u) :: _ = _
    rw [List.zip_cons_cons]
    congr 1
    have e1 : l ++ (p, u) :: ps.zip us = (l ++ [(p, u)]) ++ ps.zip us := by simp
    rw [e1]
    refine zip_map h2 (by simpa using h) fun x hx => ?_
    rw [List.lookup_append, hl x (by simp [hx]), List.lookup_cons]
    have : (x == p) = false := by
      cases e : x == p with
      | false => rfl
      | true => rw [beq_iff_eq.mp e] at hx; exact absurd hx h1
    rw [this] <;> rfl
theorem bind_simple {fd : FuncData} {ps : List Str} {us : List Value} {as : List Arg} {ds : List Expr} (hp : fd.params = ⟨[], as, none, [], [], none, ds⟩) (ha : as.map (·.arg) = ps) (hd : fd.defaults = .none) (nd : ps.Nodup) (hl : us.length = ps.length) : bindArgs fd ⟨us, []⟩ = pure (ps.zip us) := by
  unfold bindArgs
  rw [hp, hd]
  have e1 : (!(List.filter (fun n => (List.lookup n (ps.zip us)).isNone) ps).isEmpty) = false := by
    have : List.filter (fun n => (List.lookup n (ps.zip us)).isNone) ps = [] := List.filter_eq_nil_iff.mpr fun x hx => by rw [zip_get hl x hx]; decide
    rw [this] <;> rfl
  have e2 := zip_map (l := []) nd hl fun _ _ => rfl
  rw [List.nil_append] at e2
  have e3 : decide (us.length > ps.length) = false := by simp [hl]
  simp only [List.map_nil, List.nil_append, ha, List.append_nil]
  have es : seqItems? Value.none = pure none := rfl
  have ec : decide (us.length > ps.length) = false := e3
  simp only [List.forIn_nil, pure_bind, es, Option.getD_none, List.length_nil, Nat.zero_sub, Nat.sub_zero, List.take_length, List.drop_length, List.drop_nil, List.zip_nil_right, List.zip_nil_left, e1, ec, Bool.false_and, Bool.false_eq_true, if_false, List.isEmpty_nil, Bool.not_true, Option.isNone_none, e2]
theorem bind_ref0 {s : Shared} {fd : FuncData} {ps : List Str} {us : List Value} {as : List Arg} {ds : List Expr} {T : Addr} {o : Obj} {n : Nat} (hp : fd.params = ⟨[], as, none, [], [], none, ds⟩) (ha : as.map (·.arg) = ps) (hd : fd.defaults = .ref T) (ho : s.heap.get? T = some o) (hs : o.data = .seq ([] : List Value).toArray n)
    (nd : ps.Nodup) (hl : us.length = ps.length) : BindsTo s fd ⟨us, []⟩ (ps.zip us) := by
  have e1 : (!(List.filter (fun n => (List.lookup n (ps.zip us)).isNone) ps).isEmpty) = false := by
    have : List.filter (fun n => (List.lookup n (ps.zip us)).isNone) ps = [] := List.filter_eq_nil_iff.mpr fun x hx => by rw [zip_get hl x hx]; decide
    rw [this] <;> rfl
  have e2 := zip_map (l := []) nd hl fun _ _ => rfl
  rw [List.nil_append] at e2
  have e3 : decide (us.length > ps.length) = false := by simp [hl]
  refine BindsTo.of_defaults (k := ?k3) hd ho hs ?_ ?_
  case refine_1 =>
    unfold bindArgs
    rw [hp]
    simp only [List.map_nil, List.nil_append, ha, List.append_nil, List.forIn_nil, pure_bind]
    rfl
  case refine_2 =>
    simp only [List.forIn_nil, pure_bind, Option.getD_some, List.toList_toArray, List.length_nil, Nat.zero_sub, Nat.sub_zero, List.take_length, List.drop_length, List.drop_nil, List.zip_nil_right, List.zip_nil_left, e1, e3, Bool.false_and, Bool.false_eq_true, if_false, List.isEmpty_nil, Bool.not_true, Option.isNone_none, e2]
theorem bind_one {s : Shared} {fd : FuncData} {x : Str} {us dus : List Value} {ar : Arg} {ds : List Expr} {T : Addr} {o : Obj} {n : Nat} (hp : fd.params = ⟨[], [ar], none, [], [], none, ds⟩) (hx : ar.arg = x) (hd : fd.defaults = .ref T) (ho : s.heap.get? T = some o) (hs : o.data = .seq dus.toArray n) (hl : us.length ≤ 1) (hdl : dus.length = 1) :
    BindsTo s fd ⟨us, []⟩ ([x].zip (us ++ dus.drop (dus.length - (1 - us.length)))) := by
  match dus, hdl with
  | [d], _ =>
    match us, hl with
    | [], _ =>
      refine BindsTo.of_defaults (k := ?k) hd ho hs ?_ ?_
      case refine_1 =>
        unfold bindArgs
        rw [hp]
        simp only [List.map_nil, List.nil_append, List.map_cons, hx, List.append_nil, List.forIn_nil, pure_bind]
        rfl
      case refine_2 =>
        simp
    | [u], _ =>
      refine BindsTo.of_defaults (k := ?k2) hd ho hs ?_ ?_
      case refine_1 =>
        unfold bindArgs
        rw [hp]
        simp only [List.map_nil, List.nil_append, List.map_cons, hx, List.append_nil, List.forIn_nil, pure_bind]
        rfl
      case refine_2 =>
        simp
end Di
end
section
set_option Elab.async false
set_option linter.all false
set_option maxRecDepth 100000
set_option maxHeartbeats 4000000
/-! Di.Head: what the top leaves, told by a Hook; a law's defs, lambdas, errors out of it. -/
namespace Di
open PySem PySem.Spec PyProof.Rows L2 LamX NdefX
/-- a class of errors in the text: its number, its name, its field, its __init__ -/
structure ExA where
  c : Nat
  name : Str
  fld : Str
  qual : Str
  params : Arguments
  body : List Stmt
  scope : Scope
abbrev IniV : Type := Option (Str × Str × Arguments × FuncBody × Scope × Addr × List Str × Bool × Addr)
def noneB : Value → Bool
  | .none => true
  | _ => false
def iniAd (K : PySem.W.Frag) (x : Str) : Addr := He.ma K (He.ga K x) "__init__"
def iniObs (K : PySem.W.Frag) (x : Str) : IniV := match K.lookup (iniAd K x) with
  | some ⟨_, _, .func fd, _⟩ => some (fd.name, fd.qualname, fd.params, fd.body, fd.scope, fd.globals, fd.closure.map (·.1), noneB fd.defaults, fd.builtins)
  | _ => none
def ExA.val (e : ExA) : IniV := some (("__init__" : Str), e.qual, e.params, FuncBody.stmts e.body, e.scope, mainGlobals, [("__class__" : Str)], true, builtinsNs)
def cdaOf (K : PySem.W.Frag) (x : Str) : Addr := match K.lookup (iniAd K x) with
  | some ⟨_, _, .func fd, _⟩ => (match fd.code with
    | .ref c => c
    | _ => 0)
  | _ => 0
def ccOf (K : PySem.W.Frag) (x : Str) : Addr := match K.lookup (iniAd K x) with
  | some ⟨_, _, .func fd, _⟩ => (match fd.closure with
    | [(_, c)] => c
    | _ => 0)
  | _ => 0
def codeRef (K : PySem.W.Frag) (x : Str) : Bool := match K.lookup (iniAd K x) with
  | some ⟨_, _, .func fd, _⟩ => (match fd.code with
    | .ref _ => true
    | _ => false)
  | _ => false
def fileB (K : PySem.W.Frag) (file : Str) (c : Addr) : Bool := match K.lookup c with
  | some ⟨_, _, .fields vs, _⟩ => (match (vs[2]? : Option Value) with
    | some (.str f _) => file == f
    | _ => false)
  | _ => false
def cellB (K : PySem.W.Frag) (c C : Addr) : Bool := match K.lookup c with
  | some ⟨_, _, .cell (some (.ref A)), _⟩ => decide (A = C)
  | _ => false
def oexB (K : PySem.W.Frag) (C : Addr) : Bool := (match K.lookup C with
  | some ⟨.type t, dd, .cls cd, sl⟩ => decide (t = "type") && (match cd.mro, sl.toList with
    | .ref C' :: bm, [_, _, _, _, some (.builtin n), _] => decide (C' = C) && (decide (n = "ValueError.__new__") && (!cd.hasDel && (cd.hasDict && PySem.HandSPX.refsVE bm)))
    | _, _ => false)
  | _ => false) && (He.eqO (PySem.W.findIn K (.ref C) "__setattr__") (some (some (.builtin "object.__setattr__"))) && (decide (PySem.W.subIn K (.ref C) (.type "BaseException") = some true) && (decide (PySem.W.typeIn K (.ref C) = some (.type "type")) && PySem.W.keepIn K (.ref C))))
theorem oexB_ok {K : PySem.W.Frag} {C : Addr} (h : oexB K C = true) : OexC K C := by
  unfold oexB at h
  obtain ⟨h1, h⟩ := He.ba h
  obtain ⟨h2, h⟩ := He.ba h
  obtain ⟨h3, h⟩ := He.ba h
  obtain ⟨h4, h5⟩ := He.ba h
  refine ⟨?_, He.eqO_ok h2, of_decide_eq_true h3, of_decide_eq_true h4, h5⟩
  clear h h2 h3 h4 h5
  split at h1
  · rename_i t dd cd sl ho
    obtain ⟨a1, i1⟩ := He.ba h1
    clear h1
    have a1 := of_decide_eq_true a1
    subst a1
    split at i1
    · rename_i C' bm k0 k1 k2 k3 n k5 hm hs
      obtain ⟨b1, c2⟩ := He.ba i1
      obtain ⟨b2, c3⟩ := He.ba c2
      obtain ⟨b3, c4⟩ := He.ba c3
      obtain ⟨b4, b5⟩ := He.ba c4
      clear i1 c2 c3 c4
      have d1 := of_decide_eq_true b1
      have d2 := of_decide_eq_true b2
      clear b1 b2
      subst d1 d2
      obtain ⟨nm, bs, mro, ns, qn, hd, sn, sub, ab, col, del⟩ := cd
      have d3 : del = false := by simpa using b3
      have d4 : hd = true := b4
      have hm : mro = _ := hm
      clear b3 b4
      subst d3 d4 hm
      have hsl : sl = #[k0, k1, k2, k3, some (.builtin "ValueError.__new__"), k5] := by
        rw [← hs, Array.toArray_toList]
      subst hsl
      exact ⟨nm, qn, ns, bs, bm, sn, sub, ab, col, dd, k0, k1, k2, k3, k5, ho, b5⟩
    · cases i1
  · cases h1
def exB (K : PySem.W.Frag) (file : Str) (e : ExA) : Bool :=
  He.eqO (PySem.W.findIn K (.ref (He.ga K e.name)) "__init__") (some (some (.ref (iniAd K e.name)))) && (decide (PySem.W.typeIn K (.ref (iniAd K e.name)) = some (.type "function")) && (codeRef K e.name && (PySem.W.codeIn K (.ref (cdaOf K e.name)) e.qual && (fileB K file (cdaOf K e.name) &&
  (cellB K (ccOf K e.name) (He.ga K e.name) && (decide (PySem.W.mroIn K (He.ga K e.name) (.ref (He.ga K e.name)) = some true) && (decide (PySem.W.ks_superIn K (He.ga K e.name) (He.ga K e.name) "__init__" = some (some (.builtin "ValueError.__init__"))) &&
  (decide (PySem.W.subIn K (.ref (He.ga K e.name)) (.type "ValueError") = some true) && (decide (PySem.W.nsIn K PySem.cStatics "thirdparty.any" = some none) && (oexB K (He.ga K e.name) && (He.eqO (PySem.W.findIn K (.ref (He.ga K e.name)) e.fld) (some none) && L2.xfB K (He.ga K e.name))))))))))))
theorem fileB_ok {K : PySem.W.Frag} {P : Program} {c : Addr} (h : fileB K P.main.file c = true) : ∃ (ccl : Value) (cdd : Option Addr) (vs : Array Value) (ccs : Array (Option Value)) (file : Str) (tf : Tok), K.lookup c = some ⟨ccl, cdd, .fields vs, ccs⟩ ∧ vs[2]? = some (.str file tf) ∧ (P.main.file == file) = true := by
  unfold fileB at h
  split at h
  · rename_i vs _ ho
    split at h
    · rename_i f t hv
      exact ⟨_, _, vs, _, f, t, ho, hv, h⟩
    · cases h
  · cases h
theorem cellB_ok {K : PySem.W.Frag} {c C : Addr} (h : cellB K c C = true) : ∃ (cl : Value) (cld : Option Addr) (csl : Array (Option Value)), K.lookup c = some ⟨cl, cld, .cell (some (.ref C)), csl⟩ := by
  unfold cellB at h
  split at h
  · rename_i A _ ho
    have e := of_decide_eq_true h
    subst e
    exact ⟨_, _, _, ho⟩
  · cases h
theorem ini_fd {K : PySem.W.Frag} {e : ExA} (h : iniObs K e.name = e.val) (hc : codeRef K e.name = true) : ∃ (fd : FuncData) (oc : Value) (od : Option Addr) (kV doc pm ct : Value) (an : Option Addr) (osl : Array (Option Value)),
    fd = PySem.W.ksFn "__init__" e.qual e.params e.body e.scope .none kV doc pm an (.ref (cdaOf K e.name)) ct (ccOf K e.name) ∧ K.lookup (iniAd K e.name) = some ⟨oc, od, .func fd, osl⟩ := by
  unfold iniObs at h
  unfold codeRef at hc
  unfold cdaOf ccOf
  cases q : K.lookup (iniAd K e.name) with
  | none => rw [q] at hc; cases hc
  | some o =>
    obtain ⟨oc, od, dt, osl⟩ := o
    rw [q] at h hc
    cases dt with
    | func fd =>
      obtain ⟨n1, n2, n3, n4, n5, n6, n7, n8, n9, n10, n11, n12, n13, n14, n15⟩ := fd
      have e2 : (some (n1, n2, n3, n4, n5, n6, n7.map (·.1), noneB n8, n15) : IniV) = some (("__init__" : Str), e.qual, e.params, FuncBody.stmts e.body, e.scope, mainGlobals, [("__class__" : Str)], true, builtinsNs) := h
      simp only [Option.some.injEq, Prod.mk.injEq] at e2
      obtain ⟨h1, h2, h3, h4, h5, h6, h7, h8, h9⟩ := e2
      cases n13 with
      | ref c =>
        match n7, h7 with
        | [(y, cc)], h7 =>
          simp only [List.map_cons, List.map_nil, List.cons.injEq, and_true] at h7
          have h8' : n8 = .none := by
            cases n8 <;> first | rfl | (cases h8; done)
          subst h1 h2 h3 h4 h5 h6 h7 h8' h9
          exact ⟨_, oc, od, n9, n10, n11, n14, n12, osl, rfl, rfl⟩
        | [], h7 => simp at h7
        | _ :: _ :: _, h7 => simp at h7
      | _ => cases hc
    | _ => cases hc
/-! ### the Hook -/
section
variable (n : Nat) (fa : List He.Fa) (fn : List He.DefD) (tf : List He.Defn) (exs : List ExA) (ex : PySem.W.Frag → Bool)
def kY (g : Addr → Option Obj) : PySem.W.Frag := He.frT g (He.asD g n ++ [PySem.cStatics])
abbrev AlY : Type := (He.AlT × Bool) × List IniV
def obsY (g : Addr → Option Obj) : AlY := ((He.obsT fa fn [] (kY n g), ex (kY n g) && He.tabsB g tf (kY n g)), exs.map fun e => iniObs (kY n g) e.name)
def valY (w : World) : AlY := ((He.valT fn [] w, true), exs.map ExA.val)
structure SaysY (w : World) (h : Heap) (K : PySem.W.Frag) : Prop extends He.SaysX fa fn [] tf ex w h K where
  ini : exs.map (fun e => iniObs K e.name) = exs.map ExA.val
variable {n fa fn tf exs ex}
theorem saysY_of {w : World} {h : Heap} (e : obsY n fa fn tf exs ex h.get? = valY fn exs w) : SaysY fa fn tf exs ex w h (kY n h.get?) := by
  have e1 : He.obsT fa fn [] (kY n h.get?) = He.valT fn [] w := congrArg (fun z : AlY => z.1.1) e
  have e2 : (ex (kY n h.get?) && He.tabsB h.get? tf (kY n h.get?)) = true := congrArg (fun z : AlY => z.1.2) e
  have e3 : exs.map (fun e => iniObs (kY n h.get?) e.name) = exs.map ExA.val := congrArg (fun z : AlY => z.2) e
  obtain ⟨m1, m2⟩ := He.ba e2
  have look : ∀ p ∈ tf, PySem.W.codeHdIn (kY n h.get?) (He.cT (kY n h.get?) p).1 (He.cT (kY n h.get?) p).2 = true ∧ ∃ o, h.get? (He.cT (kY n h.get?) p).2 = some o ∧ He.emptyTab o = true := fun p hp => by
    obtain ⟨a, b⟩ := He.ba (List.all_eq_true.mp m2 p hp)
    cases z : h.get? (He.cT (kY n h.get?) p).2 with
    | none => rw [z] at b; cases b
    | some o =>
      rw [z] at b
      exact ⟨a, o, rfl, b⟩
  refine ⟨⟨e1, m1, fun p hp => (look p hp).1, fun p hp => ?_, fun p hp => ?_⟩, e3⟩
  · obtain ⟨_, o, z1, z2⟩ := look p hp
    exact He.frT_none z1 z2
  · obtain ⟨_, o, z1, z2⟩ := look p hp
    rw [z1, He.emptyTab_eq z2]
variable (n fa fn tf exs ex) in
def hookY : PySem.W.Hook where
  α := AlY
  obs := fun s => obsY n fa fn tf exs ex s.heap.get?
  val := fun w => valY fn exs w
  says := fun w h => ∃ K : PySem.W.Frag, K.In h ∧ SaysY fa fn tf exs ex w h K
  of := fun _ _ e => ⟨_, He.frT_in, saysY_of e⟩
  keeps := fun _ _ _ ⟨K, hK, c⟩ k => ⟨K, PySem.W.Frag.In.keeps hK k, ⟨⟨c.t, c.more, c.hd, c.out, fun p hp => k _ _ (c.empty p hp)⟩, c.ini⟩⟩
theorem obsY_eq {g : Addr → Option Obj} {s : Shared} (h : ∀ a, g a = s.heap.get? a) : obsY n fa fn tf exs ex g = (hookY n fa fn tf exs ex).obs s := by
  have e : g = s.heap.get? := funext h
  rw [e] <;> rfl
end
/-- an error's class out of the facts -/
theorem excF_of {W : Wd} {xc : Nat → Option XcA} {C : Ct} {n : Nat} {e : ExA} (hi : iniObs W.K e.name = e.val) (hB : exB W.K C.prog.main.file e = true) (hT : InitT e.fld e.params e.body e.scope)
    (hmg : C.mg e.name = some (.ref (He.ga W.K e.name))) (hs : C.mg "super" = none) (htop : (C.prog.main.scope.names.lookup ("super" : Str)).isSome = false) (hx : xc e.c = some ⟨He.ga W.K e.name, some e.fld⟩) (hn : 2 ≤ n) : ExcF W xc C n e.name e.c e.fld := by
  unfold exB at hB
  obtain ⟨b1, hB⟩ := He.ba hB
  obtain ⟨b2, hB⟩ := He.ba hB
  obtain ⟨b3, hB⟩ := He.ba hB
  obtain ⟨b4, hB⟩ := He.ba hB
  obtain ⟨b5, hB⟩ := He.ba hB
  obtain ⟨b6, hB⟩ := He.ba hB
  obtain ⟨b7, hB⟩ := He.ba hB
  obtain ⟨b8, hB⟩ := He.ba hB
  obtain ⟨b9, hB⟩ := He.ba hB
  obtain ⟨b10, hB⟩ := He.ba hB
  obtain ⟨b11, hB⟩ := He.ba hB
  obtain ⟨b12, b13⟩ := He.ba hB
  obtain ⟨fd, oc, od, kV, doc, pm, ct, an, osl, ef, lk⟩ := ini_fd hi b3
  have KI : InitK W.K C.prog C.mg (He.ga W.K e.name) (iniAd W.K e.name) e.fld (cdaOf W.K e.name) (ccOf W.K e.name) e.qual e.params e.body e.scope fd :=
    ⟨⟨oc, od, .none, kV, doc, pm, ct, an, osl, ef, lk⟩, b4, fileB_ok b5, cellB_ok b6, of_decide_eq_true b7, of_decide_eq_true b8, of_decide_eq_true b9, of_decide_eq_true b10, hs, htop, oexB_ok b11, He.eqO_ok b12⟩
  obtain ⟨x, F, sa, nd⟩ := init_ok (w := C.w) (base := C.base) hT KI
  obtain ⟨as, ds, e1, e2⟩ := simpArgs_ok sa
  refine ⟨He.ga W.K e.name, iniAd W.K e.name, 1, fd, [("self" : Str), x], _, hn, hx, hmg, oexB_ok b11, He.eqO_ok b1, of_decide_eq_true b2, F, .all fun us hl => ?_, spInit_ok, xfB_ok b13, He.eqO_ok b12⟩
  exact bind_simple (as := as) (ds := ds) (by rw [ef]; exact e1) e2 (by rw [ef] <;> rfl) nd hl
end Di
end
section
set_option Elab.async false
set_option linter.all false
set_option maxRecDepth 100000
set_option maxHeartbeats 4000000
/-! Di.End: the law's call, from the caller alone (nothing guarded there). -/
namespace Di
open PySem PySem.Spec PyProof.Rows L2 LamX NdefX
/-- the tracked heap ahead of the law's call: the script, if it is not written, and the empty tables -/
structure Start (K : PySem.W.Frag) (cs : List (Addr × Addr)) (a : Addr) (ns : List Int) (H : Hp) : Prop where
  tabs : ∀ p ∈ cs, H p.2 = some (.tbl #[])
  scr : SqL K H a (ns.map V.int)
  frz : ∀ b u, H b = some u → b ∉ cs.map (·.2) → ∃ o xs, u = .frz o (.lst xs)
  dom : ∀ b, H b ≠ none → b = a ∨ b ∈ cs.map (·.2)
section
variable {P : Program} {w : World} {K : PySem.W.Frag} {mg mb : Str → Option Value} {fa a : Addr} {cs : List (Addr × Addr)} {t0 : Shared} {vs : List Value} {ns : List Int} {H : Hp}
/-- what stands in the heap and is not tracked is in the base -/
theorem base_at (da : t0.heap.get? a = some { cls := .type "list", data := .seq vs.toArray }) (dT : ∀ p ∈ cs, t0.heap.get? p.2 = some { cls := .none, data := .fields #[] }) (S : Start K cs a ns H) {b : Addr} {o : Obj} (e : t0.heap.get? b = some o) (n1 : ∀ us n, o.data ≠ .seq us n) (n2 : o.data ≠ .fields #[]) :
    H b = none ∧ (hidT t0.heap H).get? b = some o := by
  have z : H b = none := by
    cases q : H b with
    | none => rfl
    | some u =>
      exfalso
      rcases S.dom b (by rw [q]; simp) with h | h
      · rw [h, da] at e
        cases e
        exact n1 _ _ rfl
      · obtain ⟨p, hp, ep⟩ := List.mem_map.mp h
        rw [← ep, dT p hp] at e
        cases e
        exact n2 rfl
  exact ⟨z, hidT_get e z⟩
theorem base_ns (da : t0.heap.get? a = some { cls := .type "list", data := .seq vs.toArray }) (dT : ∀ p ∈ cs, t0.heap.get? p.2 = some { cls := .none, data := .fields #[] }) (S : Start K cs a ns H) {b : Addr} {m : Str → Option Value} (q : t0.heap.Ns b m) : (hidT t0.heap H).Ns b m := by
  obtain ⟨o, es, ep, e, d, r⟩ := q
  exact ⟨o, es, ep, (base_at da dT S e (fun us n z => by rw [d] at z; cases z) (fun z => by rw [d] at z; cases z)).2, d, r⟩
theorem base_tab (da : t0.heap.get? a = some { cls := .type "list", data := .seq vs.toArray }) (dT : ∀ p ∈ cs, t0.heap.get? p.2 = some { cls := .none, data := .fields #[] }) (S : Start K cs a ns H) (gns : t0.heap.Ns mainGlobals mg)
    (bmain : ∃ (bm : Addr) (ob : Obj), mg "__builtins__" = some (.ref bm) ∧ bm ≠ builtinsNs ∧ t0.heap.get? bm = some ob ∧ ob.cls = .type "module" ∧ ob.dict = some builtinsNs ∧ ob.data = .plain) {p : Addr × Addr} (hp : p ∈ cs) (cd : PySem.W.CodeHd t0.heap p.1 p.2) : TabB (hidT t0.heap H) mg p.1 p.2 := by
  have dp := dT p hp
  obtain ⟨gO, ges, gep, ge, gd, _⟩ := gns
  refine ⟨?_, ?_, fun z => ?_⟩
  · obtain ⟨o, us, file, tf, flags, tg, inF, text, tt, e1, r1, r2, r3, rest⟩ := cd
    exact ⟨o, us, file, tf, flags, tg, inF, text, tt, (base_at da dT S e1 (fun us n z => by rw [r2] at z; cases z) (fun z => by rw [r2] at z; cases z; simp at r3)).2, r1, r2, r3, rest⟩
  · obtain ⟨bm, ob, m1, m2, m3, m4, m5, m6⟩ := bmain
    refine ⟨bm, ob, m1, m2, fun q => ?_, fun q => ?_, (base_at da dT S m3 (fun us n z => by rw [m6] at z; cases z) (fun z => by rw [m6] at z; cases z)).2, m4, m5, m6⟩
    · rw [q, ge] at m3
      cases m3
      rw [gd] at m6
      cases m6
    · rw [q, dp] at m3
      cases m3
      cases m6
  · rw [z, dp] at ge
    cases ge
    cases gd
/-- the state behind the call -/
theorem end_of (dT : ∀ p ∈ cs, t0.heap.get? p.2 = some { cls := .none, data := .fields #[] }) (S : Start K cs a ns H) (cd : ∀ p ∈ cs, PySem.W.CodeHd t0.heap p.1 p.2) (h0 : HOk P w H t0.heap) {r : Result} {t1 : Shared}
    (q : CR (L2.CX P w) [] P w H t0 (fun v _ => v = .bl true) (fun _ _ _ => False) r t1) : r = .ok (.ret (.bool true)) ∧ OldK t0.heap t1.heap ∧ t1.os = t0.os ∧ AllBare t1.gens := by
  cases r with
  | error e =>
    obtain ⟨_, _, _, _, _, _, _, _, _, _, _, _, z⟩ := q
    exact z.elim
  | ok fl =>
    cases fl with
    | next => exact q.elim
    | brk => exact q.elim
    | cont => exact q.elim
    | ret u =>
      obtain ⟨v, H1, os, bare, un, h1, rv, ev⟩ := q
      have ev : v = .bl true := ev
      subst ev
      obtain rfl : u = Value.bool true := rv
      have stay : ∀ b o, b ∉ cs.map (·.2) → t0.heap.get? b = some o → t1.heap.get? b = some o := fun b o nb e => by
        cases z : H b with
        | none => exact un.keep b o e z (fun y => by have y : b ∈ ([] : List Addr) := y; simp at y) (by simp)
        | some x =>
          obtain ⟨ob, xs, rfl⟩ := S.frz b x z nb
          have y1 := (h0 b _ z).1
          have y2 := (h1 b _ (un.frzs b ob _ z)).1
          rw [e] at y1
          cases y1
          exact y2
      have more : ∀ p ∈ cs, ∃ ms : Array Value, t1.heap.get? p.2 = some { cls := .none, data := .fields ms } := fun p hp => by
        obtain ⟨ms, z⟩ := un.tbls p.2 #[] (S.tabs p hp)
        exact ⟨_, h1 p.2 _ z⟩
      refine ⟨rfl, ⟨fun b o e => ?_, fun b o e => ?_⟩, os, bare⟩
      · by_cases hb : b ∈ cs.map (·.2)
        · obtain ⟨p, hp, rfl⟩ := List.mem_map.mp hb
          obtain ⟨ms, z⟩ := more p hp
          rw [dT p hp] at e
          cases e
          exact .inr (.inl ⟨((cd p hp).tab (dT p hp)).isCodeTable, rfl, #[], ms, rfl, by rw [Array.empty_append]; exact z⟩)
        · exact .inl (stay b o hb e)
      · by_cases hb : b ∈ cs.map (·.2)
        · obtain ⟨p, hp, rfl⟩ := List.mem_map.mp hb
          obtain ⟨ms, z⟩ := more p hp
          exact ⟨_, z⟩
        · exact ⟨o, stay b o hb e⟩
/-- the tracked heap that there is -/
theorem start_of (KX : K.In t0.heap) (da : t0.heap.get? a = some { cls := .type "list", data := .seq vs.toArray }) (iv : IntsAre vs ns) (hl : ns.length ≤ sizeLine) (dT : ∀ p ∈ cs, t0.heap.get? p.2 = some { cls := .none, data := .fields #[] }) :
    ∃ H : Hp, Start K cs a ns H ∧ HOk P w H t0.heap ∧ (H a ≠ none → K.lookup a = none) := by
  classical
  have rv := vals_ints iv
  have lv := iv.length
  have aT : a ∉ cs.map (·.2) := fun z => by
    obtain ⟨p, hp, ep⟩ := List.mem_map.mp z
    have q := dT p hp
    rw [ep, da] at q
    have z2 : Data.seq vs.toArray _ = Data.fields #[] := congrArg Obj.data (Option.some.inj q)
    cases z2
  have okT : ∀ (G : Hp) (b : Addr), b ∈ cs.map (·.2) → ObjOk P w G t0.heap b (.tbl #[]) := fun G b hb => by
    obtain ⟨p, hp, rfl⟩ := List.mem_map.mp hb
    exact dT p hp
  cases hk : K.lookup a with
  | some o =>
    have e := KX a o hk
    rw [da] at e
    cases e
    refine ⟨fun b => if b ∈ cs.map (·.2) then some (.tbl #[]) else none, ⟨fun p hp => if_pos (List.mem_map.mpr ⟨p, hp, rfl⟩), .inr ⟨_, vs.toArray, _, hk, rfl, rfl, rfl, by rw [List.size_toArray, lv]; exact hl, by simpa using rv⟩, fun b u z nb => ?_, fun b z => ?_⟩, fun b u z => ?_, fun z => ?_⟩
    · rw [if_neg nb] at z; cases z
    · by_cases hb : b ∈ cs.map (·.2)
      · exact .inr hb
      · exact absurd (if_neg hb) z
    · have z : (if b ∈ cs.map (·.2) then some (HO.tbl #[]) else none) = some u := z
      split at z
      · cases z
        exact okT _ b (by assumption)
      · cases z
    · exact absurd (show (if a ∈ cs.map (·.2) then some (HO.tbl #[]) else none) = none from if_neg aT) z
  | none =>
    refine ⟨fun b => if b = a then some (.frz { cls := .type "list", data := .seq vs.toArray } (.lst (ns.map V.int))) else if b ∈ cs.map (·.2) then some (.tbl #[]) else none, ⟨fun p hp => ?_, .inl (.inr ⟨{ cls := .type "list", data := .seq vs.toArray }, if_pos rfl⟩), fun b u z nb => ?_, fun b z => ?_⟩, fun b u z => ?_, fun _ => rfl⟩
    · have m : p.2 ∈ cs.map (·.2) := List.mem_map.mpr ⟨p, hp, rfl⟩
      have ne : p.2 ≠ a := fun z => aT (by rw [← z]; exact m)
      exact (if_neg ne).trans (if_pos m)
    · have z : (if b = a then some (HO.frz { cls := .type "list", data := .seq vs.toArray } (.lst (ns.map V.int))) else if b ∈ cs.map (·.2) then some (.tbl #[]) else none) = some u := z
      rw [if_neg nb] at z
      split at z
      · cases z; exact ⟨_, _, rfl⟩
      · cases z
    · by_cases h1 : b = a
      · exact .inl h1
      · by_cases h2 : b ∈ cs.map (·.2)
        · exact .inr h2
        · exact absurd ((if_neg h1).trans (if_neg h2)) z
    · have z : (if b = a then some (HO.frz { cls := .type "list", data := .seq vs.toArray } (.lst (ns.map V.int))) else if b ∈ cs.map (·.2) then some (.tbl #[]) else none) = some u := z
      split at z
      · rename_i h1
        cases z
        rw [h1]
        exact ⟨da, by rw [List.length_map]; exact hl, vs, _, rv, da⟩
      · split at z
        · cases z
          exact okT _ b (by assumption)
        · cases z
end
end Di
end
section
set_option Elab.async false
set_option linter.all false
set_option maxRecDepth 100000
set_option maxHeartbeats 4000000
/-! Di.Kb: how keywords are bound to plain parameters. -/
namespace Di
open PySem PySem.Spec PyProof.Rows L2 LamX NdefX
theorem forIn_kw {f : Str × Value → (List (Str × Value) × List (Str × Value)) → Sem (ForInStep (List (Str × Value) × List (Str × Value)))} : ∀ {l acc : List (Str × Value)}, (l.map (·.1)).Nodup → (∀ x ∈ l, acc.lookup x.1 = none) →
    (∀ x ∈ l, ∀ acc : List (Str × Value), acc.lookup x.1 = none → f x (acc, []) = pure (.yield (acc ++ [x], []))) → forIn l (acc, []) f = pure (acc ++ l, [])
  | [], acc, _, _, _ => by rw [List.forIn_nil, List.append_nil]
  | x :: r, acc, nd, h1, h2 => by
    obtain ⟨n1, n2⟩ := List.nodup_cons.mp (show (x.1 :: r.map (·.1)).Nodup from nd)
    rw [List.forIn_cons, h2 x (by simp) acc (h1 x (by simp)), pure_bind]
    show forIn r (acc ++ [x], []) f = _
    rw [forIn_kw (l := r) (acc := acc ++ [x]) n2 (fun y hy => ?_) fun y hy => h2 y (by simp [hy])]
    · simp
    · rw [List.lookup_append, h1 y (by simp [hy]), List.lookup_cons]
      have : (y.1 == x.1) = false := by
        cases e : y.1 == x.1 with
        | false => rfl
        | true =>
          exfalso
          refine n1 ?_
          rw [← beq_iff_eq.mp e]
          exact List.mem_map.mpr ⟨y, hy, rfl⟩
      rw [this] <;> rfl
theorem kzip_get : ∀ {ks : List Str} {us : List Value} {j : Nat} {x : Str} {u : Value}, ks.Nodup → ks[j]? = some x → us[j]? = some u → (ks.zip us).lookup x = some u
  | [], _, _, _, _, _, h, _ => by simp at h
  | _ :: _, [], _, _, _, _, _, h => by simp at h
  | k :: ks, v :: us, 0, x, u, nd, h1, h2 => by
    simp only [List.getElem?_cons_zero, Option.some.injEq] at h1 h2
    subst h1 h2
    rw [List.zip_cons_cons, List.lookup_cons]
    simp
  | k :: ks, v :: us, j + 1, x, u, nd, h1, h2 => by
    simp only [List.getElem?_cons_succ] at h1 h2
    obtain ⟨n1, n2⟩ := List.nodup_cons.mp nd
    rw [List.zip_cons_cons, List.lookup_cons]
    have : (x == k) = false := by
      cases e : x == k with
      | false => rfl
      | true =>
        rw [beq_iff_eq.mp e] at h1
        exact absurd (List.mem_of_getElem? h1) n1
    rw [this]
    exact kzip_get n2 h1 h2
theorem pick_zip {ks : List Str} {us : List Value} (nd : ks.Nodup) : ∀ {ord : List Nat} {ps : List Str} {us' : List Value}, ord.map (ks[·]?) = ps.map some → pick ord us = some us' →
    (ps.filterMap fun n => ((ks.zip us).lookup n).map fun v => (n, v)) = ps.zip us' ∧ ∀ x ∈ ps, ((ks.zip us).lookup x).isNone = false
  | [], [], us', _, h => by
    simp only [pick, Option.some.injEq] at h
    subst h
    exact ⟨rfl, fun _ hx => by cases hx⟩
  | [], _ :: _, _, h, _ => by simp at h
  | _ :: _, [], _, h, _ => by simp at h
  | i :: ord, p :: ps, us', h, hp => by
    simp only [List.map_cons, List.cons.injEq] at h
    simp only [pick] at hp
    split at hp
    · rename_i u hu
      split at hp
      · rename_i t ht
        cases hp
        have g := kzip_get nd h.1 hu
        obtain ⟨i1, i2⟩ := pick_zip nd h.2 ht
        refine ⟨?_, fun x hx => ?_⟩
        · rw [List.filterMap_cons, g, List.zip_cons_cons, ← i1] <;> rfl
        · rcases List.mem_cons.mp hx with z | z
          · rw [z, g] <;> rfl
          · exact i2 x z
      · cases hp
    · cases hp
theorem kw_simple {fd : FuncData} {ps ks : List Str} {us us' : List Value} {ord : List Nat} {as : List Arg} {ds : List Expr} (hp : fd.params = ⟨[], as, none, [], [], none, ds⟩) (ha : as.map (·.arg) = ps) (hd : fd.defaults = .none) (nd : ks.Nodup) (hin : ∀ k ∈ ks, ps.contains k = true) (ho : ord.map (ks[·]?) = ps.map some)
    (hl : us.length = ks.length) (hk : pick ord us = some us') : bindArgs fd ⟨[], ks.zip us⟩ = pure (ps.zip us') := by
  obtain ⟨e2, e0⟩ := pick_zip nd ho hk
  unfold bindArgs
  rw [hp, hd]
  have e1 : (!(List.filter (fun n => (List.lookup n (ks.zip us)).isNone) ps).isEmpty) = false := by
    have : List.filter (fun n => (List.lookup n (ks.zip us)).isNone) ps = [] := List.filter_eq_nil_iff.mpr fun x hx => by rw [e0 x hx]; decide
    rw [this] <;> rfl
  have es : seqItems? Value.none = pure none := rfl
  have ndz : ((ks.zip us).map (·.1)).Nodup := by rw [List.map_fst_zip (by omega)]; exact nd
  simp only [List.map_nil, List.nil_append, ha, List.append_nil, List.zip_nil_right]
  rw [forIn_kw (l := ks.zip us) (acc := []) ndz (fun _ _ => rfl) (fun x hx acc hacc => by
    have hc : ps.contains x.1 = true := hin x.1 (List.of_mem_zip hx).1
    simp only [hc, hacc, Bool.true_or, if_true, Option.isSome_none, Bool.false_eq_true, if_false])]
  simp only [List.forIn_nil, pure_bind, es, Option.getD_none, List.length_nil, Nat.zero_sub, Nat.sub_zero, List.take_length, List.drop_length, List.drop_nil, List.zip_nil_right, List.zip_nil_left, List.nil_append, e1, Bool.false_and, Bool.false_eq_true, if_false, List.isEmpty_nil, Bool.not_true, Option.isNone_none, e2, gt_iff_lt, Nat.not_lt_zero, decide_false]
def kwOk (ps ks : List Str) (ord : List Nat) : Bool := decide ks.Nodup && (ks.all fun k => ps.contains k) && decide (ord.map (ks[·]?) = ps.map some)
end Di
end
section
set_option Elab.async false
set_option linter.all false
set_option maxRecDepth 100000
set_option maxHeartbeats 4000000
/-! Di.Fin: a law by its tables: the looks, what the top leaves, what the language says. -/
namespace Di
open PySem PySem.Spec PyProof.Rows L2 LamX NdefX
theorem nd_inj {α β : Type} {f : α → β} : ∀ {l : List α} {a b : α}, (l.map f).Nodup → a ∈ l → b ∈ l → f a = f b → a = b
  | [], _, _, _, h, _, _ => by cases h
  | x :: r, a, b, nd, ha, hb, e => by
    obtain ⟨n1, n2⟩ := List.nodup_cons.mp (show (f x :: r.map f).Nodup from nd)
    rcases List.mem_cons.mp ha with z1 | z1 <;> rcases List.mem_cons.mp hb with z2 | z2
    · rw [z1, z2]
    · exact absurd (by rw [← z1, e]; exact List.mem_map.mpr ⟨b, z2, rfl⟩) n1
    · exact absurd (by rw [← z2, ← e]; exact List.mem_map.mpr ⟨a, z1, rfl⟩) n1
    · exact nd_inj n2 z1 z2 e
structure LawI where
  prog : Program
  prg : Prg
  tb : Tb
  LA : List LamA
  defs : List DefA
  exs : List ExA
  law : Nat
namespace LawI
def dd (d : DefA) : He.DefD := ⟨(d.name, none), d.name, d.qual, d.params, d.body, d.scope, [], []⟩
def fn (L : LawI) : List He.DefD := L.defs.map dd
def lamD (L : LawI) : List DefA := L.defs.filter fun d => d.lam.isSome
def tf (L : LawI) : List He.Defn := L.lamD.map fun d => (d.name, none)
def conFa (x : Str) : D → List He.Fa
  | .int i => [.int x i]
  | .str z => [.str x z]
  | _ => []
def gFa (L : LawI) (p : Str × Gk) : List He.Fa := match p.2 with
  | .fn _ => [.glo p.1]
  | .con g => (match L.prg.glob[g]? with
    | some d => conFa p.1 d
    | none => [])
  | .exc _ _ => [.glo p.1]
def fa (L : LawI) : List He.Fa := L.tb.glob.flatMap L.gFa ++ (L.tb.free.map He.Fa.free ++ ([He.Fa.free "super"] ++ L.exs.flatMap fun a => L.exs.map fun b => He.Fa.exm a.name b.name (decide (b.c = a.c))))
def ex (L : LawI) (K : PySem.W.Frag) : Bool := (L.exs.all fun e => exB K L.prog.main.file e) && decide ((L.tf.map fun p => (He.cT K p).2).Nodup)
def globB (L : LawI) (p : Str × Gk) : Bool := match p.2 with
  | .fn f => (match L.defs[f]? with
    | some d => decide (d.name = p.1)
    | none => false)
  | .con g => (match L.prg.glob[g]? with
    | some (.int _) => true
    | some (.str _) => true
    | _ => false)
  | .exc c f => (match L.exs.find? fun e => e.c == c with
    | some e => decide (e.name = p.1) && decide (e.fld = f)
    | none => false)
def defOkB (L : LawI) (i : Nat) : Bool := match L.defs[i]?, L.prg.fns[i]? with
  | some d, some (.df np ns body) => defB L.tb L.LA L.prg.lams d np ns body && simpArgs d.params d.ps
  | _, _ => false
def lamBindB (l : LamA) : Bool := simpArgs l.params l.ps && (l.dfl.isEmpty || (decide (l.ps.length = 1) && decide (l.dfl.length = 1)))
def lamOk1 (L : LawI) (i : Nat) : Bool := match L.LA[i]?, L.prg.lams[i]? with
  | some a, some l => lamOkB L.tb L.LA L.prg.lams a l && dvsB l.dfl a.dfl && lamBindB a
  | _, _ => false
def kwB (L : LawI) (e : Str × List Str × Nat × List Nat) : Bool := match L.defs[e.2.2.1]? with
  | some d => kwOk d.ps e.2.1 e.2.2.2
  | none => false
def okB (L : LawI) : Bool := L.tb.glob.all L.globB && ((List.range L.defs.length).all L.defOkB && ((List.range L.LA.length).all L.lamOk1 && (decide (L.LA.length = L.prg.lams.length) && (L.tb.kw.all L.kwB && ((L.exs.all fun e => initTB e.fld e.params e.body e.scope) && ((L.prog.main.scope.names.lookup ("super" : Str)).isNone &&
  (match L.defs[L.law]? with
    | some d => decide (d.ps.length = 1)
    | none => false)))))))
section
variable {L : LawI} {w : World} {h : Heap} {K : PySem.W.Frag}
abbrev Says (L : LawI) (w : World) (h : Heap) (K : PySem.W.Frag) : Prop := SaysY L.fa L.fn L.tf L.exs L.ex w h K
def fad (L : LawI) (K : PySem.W.Frag) (f : Nat) : Addr := match L.defs[f]? with
  | some d => He.ga K d.name
  | none => 0
def xc (L : LawI) (K : PySem.W.Frag) (c : Nat) : Option XcA := match L.exs.find? fun e => e.c == c with
  | some e => some ⟨He.ga K e.name, some e.fld⟩
  | none => none
def wd (L : LawI) (K : PySem.W.Frag) : Wd := ⟨K, L.lamD.map fun d => ((He.cT K (d.name, none)).2, d.lam.getD fun _ _ => ""), L.prg, fun k => L.LA[k]?⟩
theorem ex_of {c : Nat} {e : ExA} (h : L.exs.find? (fun e => e.c == c) = some e) : e ∈ L.exs ∧ e.c = c := ⟨List.mem_of_find?_eq_some h, by have := List.find?_some h; simpa using this⟩
theorem fact (c : L.Says w h K) {f : He.Fa} (hf : f ∈ L.fa) : f.ok K = true := He.SaysD.facts c.t.d hf
theorem mem_glob {x : Str} {k : Gk} (h : L.tb.glob.lookup x = some k) : (x, k) ∈ L.tb.glob := PySem.mem_of_lookup h
theorem fa_glob {x : Str} {k : Gk} (h : L.tb.glob.lookup x = some k) {f : He.Fa} (hf : f ∈ L.gFa (x, k)) : f ∈ L.fa := List.mem_append_left _ (List.mem_flatMap.mpr ⟨_, mem_glob h, hf⟩)
structure Ok (L : LawI) : Prop where
  glob : ∀ p ∈ L.tb.glob, L.globB p = true
  defs : ∀ i, i < L.defs.length → L.defOkB i = true
  lams : ∀ i, i < L.LA.length → L.lamOk1 i = true
  ll : L.LA.length = L.prg.lams.length
  kw : ∀ e ∈ L.tb.kw, L.kwB e = true
  exs : ∀ e ∈ L.exs, initTB e.fld e.params e.body e.scope = true
  top : (L.prog.main.scope.names.lookup ("super" : Str)).isSome = false
  law : ∃ d, L.defs[L.law]? = some d ∧ d.ps.length = 1
theorem ok_of (h : L.okB = true) : L.Ok := by
  unfold okB at h
  obtain ⟨h1, h⟩ := He.ba h
  obtain ⟨h2, h⟩ := He.ba h
  obtain ⟨h3, h⟩ := He.ba h
  obtain ⟨h4, h⟩ := He.ba h
  obtain ⟨h5, h⟩ := He.ba h
  obtain ⟨h6, h⟩ := He.ba h
  obtain ⟨h7, h8⟩ := He.ba h
  refine ⟨List.all_eq_true.mp h1, fun i hi => List.all_eq_true.mp h2 i (List.mem_range.mpr hi), fun i hi => List.all_eq_true.mp h3 i (List.mem_range.mpr hi), of_decide_eq_true h4, List.all_eq_true.mp h5, List.all_eq_true.mp h6, ?_, ?_⟩
  · cases z : L.prog.main.scope.names.lookup ("super" : Str) with
    | none => rfl
    | some _ => rw [z] at h7; cases h7
  · split at h8
    · rename_i d hd
      exact ⟨d, hd, of_decide_eq_true h8⟩
    · cases h8
/-- the context of the law -/
def ct (L : LawI) (w : World) (mg : Str → Option Value) (base : Heap) : Ct := ⟨L.prog, w, mg, base⟩
variable {mg : Str → Option Value} {base : Heap} {cf : Nat → List Val → M D} {ca : Nat → List Val → List Val → M D} {n fuel : Nat}
theorem glob_fn (ok : L.Ok) {x : Str} {f : Nat} (h : L.tb.glob.lookup x = some (.fn f)) : ∃ d, L.defs[f]? = some d ∧ d.name = x := by
  have q := ok.glob _ (mem_glob h)
  unfold globB at q
  dsimp only at q
  split at q
  · rename_i d hd
    exact ⟨d, hd, of_decide_eq_true q⟩
  · cases q
theorem glob_exc (ok : L.Ok) {x f : Str} {c : Nat} (h : L.tb.glob.lookup x = some (.exc c f)) : ∃ e, L.exs.find? (fun e => e.c == c) = some e ∧ e.name = x ∧ e.fld = f := by
  have q := ok.glob _ (mem_glob h)
  unfold globB at q
  dsimp only at q
  split at q
  · rename_i e he
    rw [Bool.and_eq_true, decide_eq_true_eq, decide_eq_true_eq] at q
    exact ⟨e, he, q.1, q.2⟩
  · cases q
theorem def_of (c : L.Says w h K) {f : Nat} {d : DefA} (hd : L.defs[f]? = some d) : ∃ fd, FunD K d.name d.qual d.params d.body d.scope [] [] (He.ga K d.name) fd :=
  He.SaysD.defs (d := dd d) c.t.d (List.mem_map.mpr ⟨d, List.mem_of_getElem? hd, rfl⟩)
theorem tab_of (c : L.Says w h K) (KB : K.In base) (TB : ∀ p ∈ L.tf.map (He.cT K), TabB base mg p.1 p.2) {d : DefA} (hm : d ∈ L.defs) {oc : Value} {od : Option Addr} {osl : Array (Option Value)} {dV kV doc pm cdv ct' : Value} {an : Option Addr}
    (lk : K.lookup (He.ga K d.name) = some ⟨oc, od, .func (PySem.W.fnOf d.name d.qual d.params d.body d.scope dV kV doc pm an cdv ct'), osl⟩) (hcd : PySem.W.codeIn K cdv d.qual = true) : TabK (L.wd K) (L.ct w mg base) d cdv := by
  intro nm hn
  obtain ⟨cc, rfl⟩ := He.codeIn_ref hcd
  have hl : d ∈ L.lamD := List.mem_filter.mpr ⟨hm, by rw [hn]; rfl⟩
  have hp : ((d.name, none) : He.Defn) ∈ L.tf := List.mem_map.mpr ⟨d, hl, rfl⟩
  have ec : He.codeOf K (d.name, none) = cc := He.codeOf_eq (p := (d.name, none)) lk rfl
  have nd : ((L.lamD.map fun d => (He.cT K (d.name, none)).2)).Nodup := by
    have q := (He.ba c.more).2
    have q := of_decide_eq_true q
    unfold tf at q
    rw [List.map_map] at q
    exact q
  refine ⟨cc, (He.cT K (d.name, none)).2, rfl, ?_, List.mem_map.mpr ⟨d, hl, by rw [hn] <;> rfl⟩, fun p hp e => ?_⟩
  · have t := TB _ (List.mem_map.mpr ⟨_, hp, rfl⟩)
    have e1 : (He.cT K (d.name, none)).1 = cc := ec
    rw [← e1]
    exact t
  · obtain ⟨d2, h2, rfl⟩ := List.mem_map.mp hp
    have e : (He.cT K (d2.name, none)).2 = (He.cT K (d.name, none)).2 := e
    have e2 : d2 = d := nd_inj nd h2 hl e
    show d2.lam.getD (fun _ _ => "") = nm
    rw [e2, hn] <;> rfl
theorem fnG (ok : L.Ok) (c : L.Says w h K) (KB : K.In base) (TB : ∀ p ∈ L.tf.map (He.cT K), TabB base mg p.1 p.2) (H : HypS (L.wd K) (L.xc K) (L.ct w mg base) (n + 5) L.tb (L.fad K) L.LA cf ca) {f : Nat} {d : DefA} (hd : L.defs[f]? = some d) :
    ∃ fd, FnSG (L.wd K) (L.xc K) (L.ct w mg base) (n + 6) (He.ga K d.name) fd d.ps (callD L.prg fuel cf ca f) ∧ fd.params = d.params ∧ fd.defaults = .none ∧ simpArgs d.params d.ps = true ∧ d.ps.Nodup ∧ (∀ ds m, ds.length ≠ d.ps.length → callD L.prg fuel cf ca f ds m = .bad) ∧ PySem.W.keepIn K (.ref (He.ga K d.name)) = true := by
  have hlt : f < L.defs.length := (List.getElem?_eq_some_iff.mp hd).1
  have q := ok.defs f hlt
  unfold defOkB at q
  rw [hd] at q
  split at q
  · rename_i d' np ns body e1 e2
    cases e1
    rw [Bool.and_eq_true] at q
    obtain ⟨q1, q2⟩ := q
    obtain ⟨fd, FD⟩ := def_of c hd
    obtain ⟨oc, od, dV, kV, doc, pm, an, cdv, ct', osl, rfl, lk, hcd, hD, _⟩ := FD.ex
    have r := def_ok (fuel := fuel) H lk hcd (tab_of (mg := mg) (base := base) c KB TB (List.mem_of_getElem? hd) lk hcd) e2 q1
    have q1' := q1
    unfold defB at q1'
    simp only [Bool.and_eq_true, decide_eq_true_eq] at q1'
    obtain ⟨⟨⟨⟨s1, s2⟩, _⟩, _⟩, _⟩ := q1'
    have S := fnSc_of s1
    have nd : d.ps.Nodup := by rw [← S.pre]; exact S.nd.sublist (List.take_sublist _ _)
    refine ⟨_, r, rfl, ?_, q2, nd, fun ds m hl => callD_len (W := L.wd K) e2 ds m (by rw [← s2]; exact hl), FD.kp⟩
    rcases hD with ⟨_, e⟩ | ⟨e, _⟩
    · exact e
    · exact absurd rfl e
  · cases q
theorem all (ok : L.Ok) (c : L.Says w h K) (KH : K.In h) (G : h.Ns mainGlobals mg) (KB : K.In base) (TB : ∀ p ∈ L.tf.map (He.cT K), TabB base mg p.1 p.2) : All (L.wd K) (L.xc K) (L.ct w mg base) L.tb (L.fad K) L.LA fuel := by
  have super : mg "super" = none := He.free_ok KH G (fact c (List.mem_append_right _ (List.mem_append_right _ (List.mem_append_left _ (by simp)))))
  have xcf : ∀ {k : Nat} {A : XcA}, L.xc K k = some A → ∃ e, e ∈ L.exs ∧ e.c = k ∧ A = ⟨He.ga K e.name, some e.fld⟩ := fun {k A} z => by
    unfold xc at z
    split at z
    · rename_i e he
      obtain ⟨m, ec⟩ := ex_of he
      cases z
      exact ⟨e, m, ec, rfl⟩
    · cases z
  have glo : ∀ {x : Str} {k : Gk}, L.tb.glob.lookup x = some k → He.Fa.glo x ∈ L.gFa (x, k) → mg x = some (.ref (He.ga K x)) := fun {x k} z m => He.glo_ok KH G (fact c (fa_glob z m))
  refine ⟨⟨fun x f z => ?_, fun x g z => ?_, fun x z => ?_⟩, fun k => rfl, fun n x k f z => ?_, fun k j A B z1 z2 => ?_, fun n cf ca H x f z => ?_, fun n cf ca H x ks f ord z => ?_, fun n cf ca H k => ?_⟩
  · obtain ⟨d, hd, rfl⟩ := glob_fn ok z
    have e : L.fad K f = He.ga K d.name := by unfold fad; rw [hd]
    obtain ⟨fd, FD⟩ := def_of c hd
    rw [e]
    exact ⟨glo z (by simp [gFa]), FD.kp⟩
  · have q := ok.glob _ (mem_glob z)
    unfold globB at q
    dsimp only at q
    split at q
    · rename_i i hi
      obtain ⟨t, ht⟩ := He.int_ok KH G (fact c (fa_glob z (f := .int x i) (by unfold gFa; dsimp only; rw [hi]; simp [conFa])))
      exact ⟨_, .int i, .int i, ht, ⟨t, rfl⟩, hi, fun _ _ _ => by simp only [RepD]⟩
    · rename_i i hi
      obtain ⟨t, ht⟩ := He.str_ok KH G (fact c (fa_glob z (f := .str x i) (by unfold gFa; dsimp only; rw [hi]; simp [conFa])))
      exact ⟨_, .str i, .str i, ht, ⟨t, rfl⟩, hi, fun _ _ _ => by simp only [RepD]⟩
    · cases q
  · exact He.free_ok KH G (fact c (List.mem_append_right _ (List.mem_append_left _ (List.mem_map.mpr ⟨x, by simpa using z, rfl⟩))))
  · obtain ⟨e, he, rfl, rfl⟩ := glob_exc ok z
    obtain ⟨m, rfl⟩ := ex_of he
    have hi : iniObs K e.name = e.val := by
      have q := c.ini
      obtain ⟨i, hi, e1⟩ := List.mem_iff_getElem.mp m
      have q2 : (L.exs.map fun e => iniObs K e.name)[i]? = (L.exs.map ExA.val)[i]? := by rw [q]
      rw [List.getElem?_map, List.getElem?_map, List.getElem?_eq_getElem hi, e1] at q2
      exact Option.some.inj q2
    have hB := List.all_eq_true.mp (He.ba c.more).1 e m
    exact excF_of (W := L.wd K) (C := L.ct w mg base) hi hB (initT_of (ok.exs e m)) (glo z (by simp [gFa])) super ok.top (by unfold xc; rw [he] <;> rfl) (by omega)
  · obtain ⟨a, ma, rfl, rfl⟩ := xcf z1
    obtain ⟨b, mb, rfl, rfl⟩ := xcf z2
    exact He.exm_ok (fact c (List.mem_append_right _ (List.mem_append_right _ (List.mem_append_right _ (List.mem_flatMap.mpr ⟨a, ma, List.mem_map.mpr ⟨b, mb, rfl⟩⟩)))))
  · obtain ⟨d, hd, rfl⟩ := glob_fn ok z
    have e : L.fad K f = He.ga K d.name := by unfold fad; rw [hd]
    obtain ⟨fd, r, p1, p2, p3, nd, p4, _⟩ := fnG (fuel := fuel) ok c KB TB H hd
    obtain ⟨as, ds, a1, a2⟩ := simpArgs_ok p3
    rw [e]
    exact r.pos (.all fun us hl => bind_simple (p1.trans a1) a2 p2 nd hl) p4
  · have q := ok.kw _ z
    unfold kwB at q
    dsimp only at q
    split at q
    · rename_i d hd
      have e : L.fad K f = He.ga K d.name := by unfold fad; rw [hd]
      obtain ⟨fd, r, p1, p2, p3, nd, p4, _⟩ := fnG (fuel := fuel) ok c KB TB H hd
      obtain ⟨as, ds, a1, a2⟩ := simpArgs_ok p3
      unfold kwOk at q
      simp only [Bool.and_eq_true, decide_eq_true_eq, List.all_eq_true] at q
      rw [e]
      exact r.kw fun s us us' hl hp => .of_eq (kw_simple (p1.trans a1) a2 p2 q.1.1 q.1.2 q.2 hl hp)
    · cases q
  · cases hL : L.LA[k]? with
    | none =>
      intro A outer s H' f us vs Q Ex g cap as m _ _ _ _ rc _ _ _
      exfalso
      simp only [RepV] at rc
      obtain ⟨L', f', c', cl, dV, ws, h1, _⟩ := rc
      have h1 : L.LA[k]? = some L' := h1
      rw [hL] at h1
      cases h1
    | some a =>
      have hlt : k < L.LA.length := (List.getElem?_eq_some_iff.mp hL).1
      have q := ok.lams k hlt
      unfold lamOk1 at q
      rw [hL] at q
      split at q
      · rename_i a' l e1 e2
        cases e1
        simp only [Bool.and_eq_true] at q
        obtain ⟨⟨q1, q2⟩, q3⟩ := q
        unfold lamBindB at q3
        rw [Bool.and_eq_true, Bool.or_eq_true, Bool.and_eq_true, decide_eq_true_eq, decide_eq_true_eq, List.isEmpty_iff] at q3
        obtain ⟨as, ds, a1, a2⟩ := simpArgs_ok q3.1
        have nd : a.ps.Nodup := by
          unfold lamOkB at q1
          simp only [Bool.and_eq_true] at q1
          have S := nscope_by q1.1.1.1
          have z := S.nd.sublist (List.take_sublist (a.ps.length + a.fr.length) a.N)
          rw [S.pre] at z
          exact (List.nodup_append.mp z).1
        refine lam_of (W := L.wd K) H hL e2 q1 q2 fun s cl dV doc pm ctv c' us dus hdV h1 h2 h3 => ?_
        rcases q3.2 with z | ⟨z1, z2⟩
        · have hd : dus = [] := List.length_eq_zero_iff.mp (by rw [h1, z]; rfl)
          subst hd
          have hl : us.length = a.ps.length := by simp at h3; omega
          rcases hdV with ⟨_, e⟩ | ⟨T, o, nn, e, e3, e4⟩
          · rw [List.drop_nil, List.append_nil]
            exact .of_eq (bind_simple (fd := PySem.W.kdv_fn "<lambda>" a.qual a.params (.expr a.body) a.scope cl dV doc pm (.ref c') ctv) a1 a2 e nd hl)
          · rw [List.drop_nil, List.append_nil]
            exact bind_ref0 (fd := PySem.W.kdv_fn "<lambda>" a.qual a.params (.expr a.body) a.scope cl dV doc pm (.ref c') ctv) a1 a2 e e3 e4 nd hl
        · obtain ⟨x, ex⟩ := len_one z1
          rcases hdV with ⟨e, _⟩ | ⟨T, o, nn, e, e3, e4⟩
          · rw [e] at z2; cases z2
          · rw [ex] at a2 h2 h3 ⊢
            match as, a2 with
            | [ar], a2 =>
              simp only [List.map_cons, List.map_nil, List.cons.injEq, and_true] at a2
              exact bind_one (fd := PySem.W.kdv_fn "<lambda>" a.qual a.params (.expr a.body) a.scope cl dV doc pm (.ref c') ctv) (ar := ar) (ds := ds) a1 a2 e e3 e4 (by simpa using h2) (h1.trans z2)
      · cases q
end
end LawI
end Di
end
section
set_option Elab.async false
set_option linter.all false
set_option maxRecDepth 100000
set_option maxHeartbeats 4000000
/-! Di.Last: the law holds if the language says so. -/
namespace Di
open PySem PySem.Spec PyProof.Rows L2 LamX NdefX
/-- a class's __init__ -/
def clsIni : Stmt → Stmt
  | .ClassDef (body := b) .. => b.getD 0 (.Pass ⟨0, 0, 0, 0⟩)
  | s => s
def exAt (st : Stmt) (c : Nat) (name fld : Str) : ExA := ⟨c, name, fld, name ++ ".__init__", stArgs (clsIni st), stBody (clsIni st), stScope (clsIni st)⟩
namespace LawI
def m00 : MS := ⟨0, 0, 0, [], 0⟩
/-- what is left: the language's answer at every script -/
def Plain (L : LawI) (n : Nat) : Prop := ∀ ns : List Int, ns.length ≤ 63 → (∀ z ∈ ns, Builtin.Int.intBits z ≤ 1048576) → ∃ fuel m, callF L.prg fuel n L.law [.d (.scr ns)] m00 = .ok (.bl true) m
theorem scr_start {W : Wd} {cs : List (Addr × Addr)} {a : Addr} {ns : List Int} {H : Hp} (S : Start W.K cs a ns H) (hT : ∀ p ∈ W.T, p.1 ∈ cs.map (·.2)) : ∃ g : G, HpS W g m00 H ∧ (∀ c, g.κ c = none) ∧ RepVs W g [.d (.scr ns)] [.ref a] := by
  have tabs : ∀ F : Hp, TabsF W.T F H := fun F p hp => by
    obtain ⟨z, hz, e⟩ := List.mem_map.mp (hT p hp)
    refine ⟨#[], by rw [← e]; exact S.tabs z hz, by simp [TriplesOk], fun pos cv h => by simp [codeAmong] at h⟩
  have mk : ∀ F : Hp, (∀ b o, F b = some o → H b = some o) → (∀ b ps, F b ≠ some (.tbl ps)) → SqL W.K F a (ns.map V.int) → ∃ g : G, HpS W g m00 H ∧ (∀ c, g.κ c = none) ∧ RepVs W g [.d (.scr ns)] [.ref a] := fun F h1 h2 h3 =>
    ⟨⟨F, fun _ => none, fun _ => False, fun _ => none, 0, 0⟩, ⟨h1, fun b z => absurd z.1 (Nat.lt_irrefl 0), rfl, fun z => absurd z (Nat.lt_irrefl 0), tabs F, h2⟩, fun _ => rfl, RepVs.cons (by simp only [RepV, RepD]; exact ⟨a, rfl, h3⟩) RepVs.nil⟩
  rcases S.scr with (h | ⟨o, h⟩) | h
  · refine mk (fun b => if b = a then H a else none) (fun b o e => ?_) (fun b ps e => ?_) (.inl (.inl ((if_pos rfl).trans h)))
    · have e : (if b = a then H a else none) = some o := e
      split at e
      · rename_i z; rw [z]; exact e
      · cases e
    · have e : (if b = a then H a else none) = some (.tbl ps) := e
      split at e
      · rw [h] at e; cases e
      · cases e
  · refine mk (fun b => if b = a then H a else none) (fun b o e => ?_) (fun b ps e => ?_) (.inl (.inr ⟨o, (if_pos rfl).trans h⟩))
    · have e : (if b = a then H a else none) = some o := e
      split at e
      · rename_i z; rw [z]; exact e
      · cases e
    · have e : (if b = a then H a else none) = some (.tbl ps) := e
      split at e
      · rw [h] at e; cases e
      · cases e
  · exact mk (fun _ => none) (fun b o e => by cases e) (fun b ps e => by cases e) (.inr h)
theorem walk {l : PySem.W.OpenLaw} {L : LawI} {n : Nat} {q : Program} {loose : List Str} {XP : (Str → Option Value) → Heap → Prop} {d : DefRec} {nn : Nat} (ok : L.Ok) (hpr : L.prog = l.prog) (hn : l.most = some 63) (hdf : d.params.defaults = []) (hr : Room (n + 6) callerA)
    (hlaw : L.tb.glob.lookup d.name = some (.fn L.law)) (pl : L.Plain (n + 1)) : PySem.W.WalkO q loose XP (hookY nn L.fa L.fn L.tf L.exs L.ex).says l.row.toRowW d [] (fun f vs => PySem.call f vs) := by
  refine Att.attach_callB hn hdf fun w s₀ t0 mg mb fa o pm cd doc a vs ns G Y ho hd hcd hmg hobj hints hlen hbits hg => ?_
  obtain ⟨K, KX, c⟩ := Y
  have dT : ∀ p ∈ L.tf.map (He.cT K), t0.heap.get? p.2 = some { cls := .none, data := .fields #[] } := fun p hp => by
    obtain ⟨z, hz, rfl⟩ := List.mem_map.mp hp
    exact c.empty z hz
  have CH : ∀ p ∈ L.tf.map (He.cT K), PySem.W.CodeHd t0.heap p.1 p.2 := fun p hp => by
    obtain ⟨z, hz, rfl⟩ := List.mem_map.mp hp
    exact PySem.W.codeHd_of_K KX (c.hd z hz)
  obtain ⟨H, S, hok, hK⟩ := start_of KX hobj hints (Nat.le_trans hlen (by rw [sizeLine_eq]; decide)) dT
  have bns : ∀ {b : Addr} {m : Str → Option Value}, t0.heap.Ns b m → (hidT t0.heap H).Ns b m := fun z => base_ns hobj dT S z
  have KB : K.In (hidT t0.heap H) := fun b o e => hidT_get (KX b o e) (by
    cases z : H b with
    | none => rfl
    | some u =>
      exfalso
      rcases S.dom b (by rw [z]; simp) with y | y
      · rw [y] at e z
        rw [hK (by rw [z]; simp)] at e
        cases e
      · obtain ⟨p, hp, ep⟩ := List.mem_map.mp y
        obtain ⟨p2, hp2, rfl⟩ := List.mem_map.mp hp
        rw [← ep, c.out p2 hp2] at e
        cases e)
  have TB : ∀ p ∈ L.tf.map (He.cT K), TabB (hidT t0.heap H) mg p.1 p.2 := fun p hp => base_tab hobj dT S G.T.g G.T.bmain hp (CH p hp)
  have MB : L2.Mod K mg (hidT t0.heap H) := ⟨KB, bns G.T.g, ⟨mb, bns G.T.b, G.T.builtins⟩, by
    obtain ⟨mc, h1, h2⟩ := G.T.nolimit
    exact ⟨mc, bns h1, h2⟩⟩
  have e0 : Env0 l.prog w K mg (hidT t0.heap H) callerA [] t0 H := ⟨rfl, MB, fun b o e => of_hidT e, Nat.le_of_eq (hidT_size _ _), trivial, fun b z => by have z : b ∈ ([] : List Addr) := z; simp at z, hok, .of_eq hg⟩
  obtain ⟨fuel, m, run⟩ := pl ns hlen hbits
  obtain ⟨d', hd', en⟩ := glob_fn ok hlaw
  obtain ⟨d2, hd2, l1⟩ := ok.law
  rw [hd'] at hd2
  cases hd2
  have HY := all_ok (all (mg := mg) (base := hidT t0.heap H) (fuel := fuel) ok c KX G.T.g KB TB) n
  obtain ⟨fd, F, p1, p2, p3, nd, _, _⟩ := fnG (fuel := fuel) ok c KB TB HY hd'
  obtain ⟨as, ds, a1, a2⟩ := simpArgs_ok p3
  obtain ⟨g, hs, hk, rv⟩ := scr_start (W := L.wd K) S (fun p hp => by
    obtain ⟨z, hz, rfl⟩ := List.mem_map.mp hp
    exact List.mem_map.mpr ⟨He.cT K (z.name, none), List.mem_map.mpr ⟨(z.name, none), List.mem_map.mpr ⟨z, hz, rfl⟩, rfl⟩, rfl⟩)
  have efa : fa = He.ga K d'.name := by
    have z := He.glo_ok KX G.T.g (fact c (fa_glob hlaw (f := .glo d.name) (by simp [gFa])))
    rw [hmg] at z
    rw [en]
    cases z
    rfl
  rw [efa]
  have bt : BindsTo t0 fd ⟨[.ref a], []⟩ (d'.ps.zip [.ref a]) := .of_eq (bind_simple (p1.trans a1) a2 p2 nd (by rw [l1]; rfl))
  have go := F callerA [] t0 H ⟨[.ref a], []⟩ [.ref a] [.ref a] (fun v _ => v = .bl true) (fun _ _ _ => False) g [.d (.scr ns)] m00 ⟨hr, rfl⟩ (by show Env0 L.prog w K mg _ callerA [] t0 H; rw [hpr]; exact e0) (fun c' v e => by rw [hk c'] at e; cases e) hs rv (.cons rfl .nil) bt (by
    have run : callD L.prg fuel (callF L.prg fuel n) (callG L.prg fuel n) L.law [.d (.scr ns)] m00 = .ok (.bl true) m := run
    show PostC (L.wd K) (L.xc K) g H (fun v _ => v = V.bl true) (fun _ _ _ => False) (callD L.prg fuel (callF L.prg fuel n) (callG L.prg fuel n) L.law [.d (.scr ns)] m00)
    rw [run]
    intro b g' H' _ _ rb
    simpa only [RepD] using rb)
  have go : codeAny (model L.prog w) callerA (.call (.ref (He.ga K d'.name)) ⟨[.ref a], []⟩) (CR (L2.CX L.prog w) [] L.prog w H t0 (fun v _ => v = .bl true) fun _ _ _ => False) t0 := go
  rw [hpr] at go
  exact codeAny_mono go fun r t1 z => end_of dT S CH hok z
end LawI
end Di
end
section
set_option Elab.async false
set_option linter.all false
set_option maxRecDepth 100000
set_option maxHeartbeats 4000000
namespace K14
open Di PySem
set_option maxRecDepth 10000
/-- is_whole(value, low, high): 0 value 1 low 2 high -/
def f0 : List ST :=
  [.ret (.iand (.bi (.isinst 0) [(.loc 0)]) (.iand (.inot (.bi (.isinst 1) [(.loc 0)])) (.chain .le .le (.loc 1) (.loc 0) (.loc 2))))]
/-- is_arrow(many, value): 0 many 1 value 2 one -/
def f1 : List ST :=
  [.ifs (.ior (.inot (.bi (.isinst 2) [(.loc 1)])) (.cmp .ne (.bi .len [(.loc 1)]) (.k (.int 2))))
      [.ret (.k (.bl false))]
      [],
    .ret (.iand (.bi .all [(.comp [2] (.n 2) .seq [(.loc 1)] [] (.call 0 [(.loc 2), (.k (.int 0)), (.op .sub (.loc 0) (.k (.int 1)))]))]) (.cmp .ne (.idx (.loc 1) (.k (.int 0))) (.idx (.loc 1) (.k (.int 1)))))]
/-- web_fault(value): 0 value 1 number 2 arrow -/
def f2 : List ST :=
  [.ifs (.ior (.inot (.bi (.isinst 2) [(.loc 0)])) (.cmp .ne (.bi .len [(.loc 0)]) (.k (.int 2))))
      [.ret (.tup [])]
      [],
    .ifs (.inot (.call 0 [(.idx (.loc 0) (.k (.int 0))), (.k (.int 1)), (.glo 0)]))
      [.ret (.tup [(.k (.int 0))])]
      [],
    .ifs (.ior (.inot (.bi (.isinst 2) [(.idx (.loc 0) (.k (.int 1)))])) (.cmp .gt (.bi .len [(.idx (.loc 0) (.k (.int 1)))]) (.glo 1)))
      [.ret (.tup [(.k (.int 1))])]
      [],
    .for (.t [(.n 1), (.n 2)]) .enum [(.idx (.loc 0) (.k (.int 1)))]
      [.ifs (.inot (.call 1 [(.idx (.loc 0) (.k (.int 0))), (.loc 2)]))
        [.ret (.tup [(.k (.int 1)), (.loc 1)])]
        []],
    .ret (.k (.non))]
/-- need_web(web): 0 web 1 fault -/
def f3 : List ST :=
  [.asg (.n 1) (.call 2 [(.loc 0)]),
    .ifs (.cmp .notN (.loc 1) (.k (.non)))
      [.rse 1 (some (.loc 1))]
      [],
    .ret (.loc 0)]
/-- row_fault(web, low, high, value): 0 web 1 low 2 high 3 value 4 place 5 one -/
def f4 : List ST :=
  [.ifs (.ior (.inot (.bi (.isinst 2) [(.loc 3)])) (.cmp .ne (.bi .len [(.loc 3)]) (.idx (.loc 0) (.k (.int 0)))))
      [.ret (.tup [])]
      [],
    .for (.t [(.n 4), (.n 5)]) .enum [(.loc 3)]
      [.ifs (.inot (.call 0 [(.loc 5), (.loc 1), (.loc 2)]))
        [.ret (.tup [(.loc 4)])]
        []],
    .ret (.k (.non))]
/-- checked_row(web, low, high, row): 0 web 1 low 2 high 3 row 4 fault -/
def f5 : List ST :=
  [.asg (.n 4) (.call 4 [(.loc 0), (.loc 1), (.loc 2), (.loc 3)]),
    .ifs (.cmp .notN (.loc 4) (.k (.non)))
      [.rse 2 (some (.loc 4))]
      [],
    .ret (.loc 3)]
/-- need_counts(web, counts): 0 web 1 counts -/
def f6 : List ST :=
  [.ret (.call 5 [(.call 3 [(.loc 0)]), (.k (.int 0)), (.glo 2), (.loc 1)])]
/-- number_in(word, low, high): 0 word 1 low 2 high 3 sign -/
def f7 : List ST :=
  [.ifs (.ior (.cmp .eq (.loc 0) (.k (.str ""))) (.ior (.cmp .gt (.bi .len [(.loc 0)]) (.k (.int 7))) (.inot (.bi .all [(.comp [3] (.n 3) .seq [(.loc 0)] [] (.cmp .isin (.loc 3) (.glo 3)))]))))
      [.ret (.k (.non))]
      [],
    .ifs (.iand (.cmp .eq (.idx (.loc 0) (.k (.int 0))) (.k (.str "0"))) (.cmp .ne (.loc 0) (.k (.str "0"))))
      [.ret (.k (.non))]
      [],
    .ret (.ite (.chain .le .le (.loc 1) (.bi .int [(.loc 0)]) (.loc 2)) (.bi .int [(.loc 0)]) (.k (.non)))]
/-- arrow_in(word, many): 0 word 1 many 2 ends 3 one -/
def f8 : List ST :=
  [.asg (.n 2) (.comp [3] (.n 3) .seq [(.mt .split (.loc 0) (.k (.str ">")))] [] (.call 7 [(.loc 3), (.k (.int 0)), (.op .sub (.loc 1) (.k (.int 1)))])),
    .ifs (.ior (.cmp .ne (.bi .len [(.loc 2)]) (.k (.int 2))) (.ior (.cmp .isin (.k (.non)) (.loc 2)) (.cmp .eq (.idx (.loc 2) (.k (.int 0))) (.idx (.loc 2) (.k (.int 1))))))
      [.ret (.k (.non))]
      [],
    .ret (.bi .tuple [(.loc 2)])]
/-- words_of(string): 0 string -/
def f9 : List ST :=
  [.ifs (.inot (.bi (.isinst 3) [(.loc 0)]))
      [.rse 3 (some (.k (.non)))]
      [],
    .ret (.mt .split (.loc 0) (.k (.str " ")))]
/-- web_text(web): 0 web 1 near 2 far -/
def f10 : List ST :=
  [.expr (.call 3 [(.loc 0)]),
    .ret (.mt .join (.k (.str " ")) (.op .add (.lst [(.k (.str "web")), (.bi .str [(.idx (.loc 0) (.k (.int 0)))])]) (.comp [1, 2] (.t [(.n 1), (.n 2)]) .seq [(.idx (.loc 0) (.k (.int 1)))] [] (.op .add (.op .add (.bi .str [(.loc 1)]) (.k (.str ">"))) (.bi .str [(.loc 2)])))))]
/-- read_web(string): 0 string 1 words 2 many 3 arrows 4 spot 5 word 6 arrow -/
def f11 : List ST :=
  [.asg (.n 1) (.call 9 [(.loc 0)]),
    .ifs (.cmp .ne (.idx (.loc 1) (.k (.int 0))) (.k (.str "web")))
      [.rse 3 (some (.k (.int 0)))]
      [],
    .asg (.n 2) (.ite (.cmp .gt (.bi .len [(.loc 1)]) (.k (.int 1))) (.call 7 [(.idx (.loc 1) (.k (.int 1))), (.k (.int 1)), (.glo 0)]) (.k (.non))),
    .ifs (.cmp .isN (.loc 2) (.k (.non)))
      [.rse 3 (some (.k (.int 1)))]
      [],
    .asgO 3 (.lst []),
    .for (.t [(.n 4), (.n 5)]) .enum [(.slc (.loc 1) (some (.k (.int 2))) none)]
      [.asg (.n 6) (.call 8 [(.loc 5), (.loc 2)]),
      .ifs (.ior (.cmp .isN (.loc 6) (.k (.non))) (.cmp .eq (.loc 4) (.glo 1)))
        [.rse 3 (some (.op .add (.loc 4) (.k (.int 2))))]
        [],
      .push 3 (.loc 6)],
    .ret (.tup [(.loc 2), (.bi .tuple [(.loc 3)])])]
/-- counts_text(web, counts): 0 web 1 counts 2 one -/
def f12 : List ST :=
  [.ret (.mt .join (.k (.str " ")) (.comp [2] (.n 2) .seq [(.call 6 [(.loc 0), (.loc 1)])] [] (.bi .str [(.loc 2)])))]
/-- read_counts(web, string): 0 web 1 string 2 found 3 spot 4 word 5 number -/
def f13 : List ST :=
  [.expr (.call 3 [(.loc 0)]),
    .asgO 2 (.lst []),
    .for (.t [(.n 3), (.n 4)]) .enum [(.call 9 [(.loc 1)])]
      [.asg (.n 5) (.call 7 [(.loc 4), (.k (.int 0)), (.glo 2)]),
      .ifs (.ior (.cmp .isN (.loc 5) (.k (.non))) (.cmp .eq (.loc 3) (.idx (.loc 0) (.k (.int 0)))))
        [.rse 3 (some (.loc 3))]
        [],
      .push 2 (.loc 5)],
    .ifs (.cmp .lt (.bi .len [(.loc 2)]) (.idx (.loc 0) (.k (.int 0))))
      [.rse 3 (some (.bi .len [(.loc 2)]))]
      [],
    .ret (.bi .tuple [(.loc 2)])]
/-- _law_begun(script, turn): 0 script 1 turn 2 cells 3 great 4 cell 5 seed -/
def f14 : List ST :=
  [.asg (.n 2) (.op .add (.slc (.loc 0) (some (.loc 1)) none) (.slc (.loc 0) none (some (.loc 1)))),
    .asg (.n 3) (.comp [4] (.n 4) .seq [(.loc 2)] [(.cmp .ge (.loc 4) (.op .pow (.k (.int 10)) (.k (.int 18))))] (.loc 4)),
    .asg (.n 5) (.op .add (.k (.int 91)) (.loc 1)),
    .for (.n 4) .seq [(.loc 2)]
      [.asg (.n 5) (.op .mod (.bi .int [(.op .add (.op .mul (.loc 5) (.k (.int 48271))) (.loc 4))]) (.k (.int 2147483647)))],
    .mnew (.ite (.cmp .ne (.loc 3) (.lst [])) (.idx (.loc 3) (.k (.int 0))) (.k (.int 0))) (.loc 5) (.op .add (.loc 2) (.lst [(.op .add (.op .mul (.k (.int 61)) (.loc 1)) (.k (.int 17)))])) (.k (.int 0))]
/-- _law_draw(m, span): 0 m 1 span 2 found 3 spot 4 cells 5 extra 6 cell 7 blend -/
def f15 : List ST :=
  [.ifs (.cmp .gt (.mget 0 0) (.k (.int 0)))
      [.asg (.n 2) (.op .mod (.bi .int [(.mget 0 0)]) (.loc 1)),
      .mset 0 0 (.op .fdiv (.mget 0 0) (.loc 1)),
      .ret (.loc 2)]
      [],
    .asg (.n 3) (.mget 0 3),
    .mset 0 3 (.op .add (.loc 3) (.k (.int 1))),
    .par [(4, false), (5, false)] [(.mget 0 2), (.op .add (.mget 0 1) (.op .mul (.op .mul (.k (.int 40503)) (.loc 3)) (.loc 3)))],
    .asg (.n 6) (.idx (.loc 4) (.op .mod (.bi .int [(.loc 3)]) (.bi .len [(.loc 4)]))),
    .asg (.n 7) (.op .mod (.bi .int [(.op .add (.op .mul (.loc 6) (.op .add (.op .mul (.k (.int 2)) (.loc 3)) (.k (.int 3)))) (.loc 5))]) (.k (.int 2147483647))),
    .asg (.n 7) (.op .mod (.bi .int [(.op .add (.op .add (.op .mul (.loc 7) (.loc 7)) (.op .mul (.k (.int 69621)) (.loc 3))) (.mget 0 1))]) (.k (.int 2147483629))),
    .ret (.op .mod (.op .fdiv (.op .mod (.bi .int [(.op .add (.op .mul (.loc 7) (.k (.int 48271))) (.loc 3))]) (.k (.int 2147483647))) (.k (.int 11))) (.loc 1))]
/-- _law_of(m, some): 0 m 1 some -/
def f16 : List ST :=
  [.ret (.idx (.loc 1) (.call 15 [(.loc 0), (.bi .len [(.loc 1)])]))]
/-- _law_like(told, due): 0 told 1 due -/
def f17 : List ST :=
  [.ret (.iand (.cmp .eq (.loc 0) (.loc 1)) (.cmp .eq (.bi .repr [(.loc 0)]) (.bi .repr [(.loc 1)])))]
/-- _law_shuffled(m, count): 0 m 1 count 2 left 3 found 4 turn 5 one 6 twin -/
def f18 : List ST :=
  [.par [(2, false), (3, true)] [(.bi .lrange [(.loc 1)]), (.lst [])],
    .for (.n 4) .range [(.loc 1)]
      [.asg (.n 5) (.call 16 [(.loc 0), (.loc 2)]),
      .asg (.n 2) (.comp [6] (.n 6) .seq [(.loc 2)] [(.cmp .ne (.loc 6) (.loc 5))] (.loc 6)),
      .push 3 (.loc 5)],
    .ret (.bi .tuple [(.loc 3)])]
/-- _law_ties_of(kind_so, width): 0 kind_so 1 width 2 k -/
def f19 : List ST :=
  [.ifs (.cmp .eq (.loc 0) (.k (.str "A")))
      [.ret (.comp [2] (.n 2) .range [(.op .sub (.loc 1) (.k (.int 1)))] [] (.tup [(.loc 2), (.op .add (.loc 2) (.k (.int 1)))]))]
      [],
    .ifs (.cmp .eq (.loc 0) (.k (.str "D")))
      [.ret (.op .add (.comp [2] (.n 2) .range [(.op .sub (.loc 1) (.k (.int 2)))] [] (.tup [(.loc 2), (.op .add (.loc 2) (.k (.int 1)))])) (.lst [(.tup [(.op .sub (.loc 1) (.k (.int 3))), (.op .sub (.loc 1) (.k (.int 1)))])]))]
      [],
    .ret (.op .add (.comp [2] (.n 2) .range [(.op .sub (.loc 1) (.k (.int 2)))] [] (.tup [(.loc 2), (.op .add (.loc 2) (.k (.int 1)))])) (.lst [(.tup [(.k (.int 2)), (.op .sub (.loc 1) (.k (.int 1)))])]))]
/-- _law_web_of(m, kind_so, width): 0 m 1 kind_so 2 width 3 names 4 found 5 near_so 6 far_so 7 pair 8 k -/
def f20 : List ST :=
  [.asg (.n 3) (.call 18 [(.loc 0), (.loc 2)]),
    .asgO 4 (.lst []),
    .for (.t [(.n 5), (.n 6)]) .seq [(.call 19 [(.loc 1), (.loc 2)])]
      [.asg (.n 7) (.tup [(.idx (.loc 3) (.loc 5)), (.idx (.loc 3) (.loc 6))]),
      .push 4 (.ite (.cmp .eq (.call 15 [(.loc 0), (.k (.int 2))]) (.k (.int 0))) (.loc 7) (.rev (.loc 7)))],
    .ret (.tup [(.loc 2), (.bi .tuple [(.comp [8] (.n 8) .seq [(.call 18 [(.loc 0), (.bi .len [(.loc 4)])])] [] (.idx (.loc 4) (.loc 8)))])])]
/-- _law_any_web(m): 0 m 1 way 2 width 3 k 4 arms 5 last 6 ties 7 more 8 pairs 9 again 10 here 11 there -/
def f21 : List ST :=
  [.par [(1, false), (2, false)] [(.call 15 [(.loc 0), (.k (.int 7))]), (.op .add (.k (.int 1)) (.call 15 [(.loc 0), (.k (.int 8))]))],
    .ifs (.cmp .eq (.loc 1) (.k (.int 0)))
      [.ret (.call 20 [(.loc 0), (.k (.str "E")), (.op .add (.k (.int 6)) (.call 15 [(.loc 0), (.k (.int 3))]))])]
      [],
    .ifs (.cmp .eq (.loc 1) (.k (.int 1)))
      [.ret (.call 20 [(.loc 0), (.k (.str "D")), (.op .add (.k (.int 4)) (.call 15 [(.loc 0), (.k (.int 5))]))])]
      [],
    .ifs (.cmp .eq (.loc 1) (.k (.int 2)))
      [.ret (.call 22 [(.loc 0), (.comp [3] (.n 3) .range [(.op .add (.loc 2) (.k (.int 1)))] [] (.tup [(.loc 3), (.op .mod (.bi .int [(.op .add (.loc 3) (.k (.int 1)))]) (.op .add (.loc 2) (.k (.int 1))))])), (.op .add (.loc 2) (.k (.int 1)))])]
      [],
    .ifs (.cmp .eq (.loc 1) (.k (.int 3)))
      [.asg (.n 4) (.lst [(.tup [(.k (.int 1)), (.k (.int 1)), (.k (.int 1)), (.k (.int 1))]), (.tup [(.k (.int 2)), (.k (.int 2)), (.k (.int 2))]), (.tup [(.k (.int 1)), (.k (.int 3)), (.k (.int 3))]), (.tup [(.k (.int 1)), (.k (.int 2)), (.k (.int 5))]), (.tup [(.k (.int 1)), (.k (.int 1)), (.k (.int 5))]), (.tup [(.k (.int 2)), (.k (.int 2)), (.k (.int 1))]), (.tup [(.k (.int 1)), (.k (.int 2)), (.k (.int 6))]), (.tup [(.k (.int 1)), (.k (.int 1)), (.k (.int 1)), (.k (.int 2))]), (.tup [(.k (.int 3)), (.k (.int 3)), (.k (.int 2))])]),
      .ret (.call 23 [(.loc 0), (.call 16 [(.loc 0), (.loc 4)])])]
      [],
    .ifs (.cmp .eq (.loc 1) (.k (.int 4)))
      [.asg (.n 5) (.bi .min [(.loc 2), (.k (.int 7))]),
      .asg (.n 6) (.comp [3] (.n 3) .range [(.loc 5)] [] (.tup [(.loc 3), (.op .add (.loc 3) (.k (.int 1)))])),
      .asg (.n 7) (.slc (.lst [(.tup [(.k (.int 0)), (.op .add (.loc 5) (.k (.int 1)))]), (.tup [(.loc 5), (.op .add (.loc 5) (.k (.int 2)))]), (.tup [(.k (.int 0)), (.op .add (.loc 5) (.k (.int 3)))]), (.tup [(.loc 5), (.op .add (.loc 5) (.k (.int 4)))])]) none (some (.op .add (.k (.int 2)) (.call 15 [(.loc 0), (.k (.int 3))])))),
      .ret (.call 22 [(.loc 0), (.op .add (.loc 6) (.loc 7)), (.op .add (.op .add (.loc 5) (.k (.int 1))) (.bi .len [(.loc 7)]))])]
      [],
    .asgO 8 (.lst []),
    .for (.n 9) .range [(.ite (.cmp .gt (.loc 2) (.k (.int 1))) (.call 15 [(.loc 0), (.k (.int 11))]) (.k (.int 0)))]
      [.par [(10, false), (11, false)] [(.call 15 [(.loc 0), (.loc 2)]), (.call 15 [(.loc 0), (.op .sub (.loc 2) (.k (.int 1)))])],
      .push 8 (.tup [(.loc 10), (.ite (.cmp .lt (.loc 11) (.loc 10)) (.loc 11) (.op .add (.loc 11) (.k (.int 1))))])],
    .ret (.tup [(.loc 2), (.bi .tuple [(.loc 8)])])]
/-- _law_of_ties(m, ties, width): 0 m 1 ties 2 width 3 names 4 found 5 near 6 far 7 pair 8 k -/
def f22 : List ST :=
  [.par [(3, false), (4, true)] [(.call 18 [(.loc 0), (.loc 2)]), (.lst [])],
    .for (.t [(.n 5), (.n 6)]) .seq [(.loc 1)]
      [.asg (.n 7) (.tup [(.idx (.loc 3) (.loc 5)), (.idx (.loc 3) (.loc 6))]),
      .push 4 (.ite (.cmp .eq (.call 15 [(.loc 0), (.k (.int 2))]) (.k (.int 0))) (.loc 7) (.rev (.loc 7)))],
    .ret (.tup [(.loc 2), (.bi .tuple [(.comp [8] (.n 8) .seq [(.call 18 [(.loc 0), (.bi .len [(.loc 4)])])] [] (.idx (.loc 4) (.loc 8)))])])]
/-- _law_star(m, arms): 0 m 1 arms 2 ties 3 last 4 arm 5 here 6 k -/
def f23 : List ST :=
  [.par [(2, true), (3, false)] [(.lst []), (.k (.int 0))],
    .for (.n 4) .seq [(.loc 1)]
      [.asg (.n 5) (.k (.int 0)),
      .for (.n 6) .range [(.loc 4)]
        [.asg (.n 3) (.op .add (.loc 3) (.k (.int 1))),
        .push 2 (.tup [(.loc 5), (.loc 3)]),
        .asg (.n 5) (.loc 3)]],
    .ret (.call 22 [(.loc 0), (.loc 2), (.op .add (.loc 3) (.k (.int 1)))])]
/-- _law_heard(call): 0 call 1 error -/
def f24 : List ST :=
  [.ftry (.lst [(.app 0 [])]) [(3, (.tup [(.k (.str "text")), .fld])), (2, (.tup [(.k (.str "counts")), .fld])), (1, (.tup [(.k (.str "web")), .fld]))]]
/-- _law_web_due(string_so): 0 string_so 1 words 2 k 3 width 4 arrows_so 5 known 6 here 7 there 8 word -/
def f25 : List ST :=
  [.asg (.n 1) (.mt .split (.loc 0) (.k (.str " "))),
    .ifs (.cmp .ne (.idx (.loc 1) (.k (.int 0))) (.k (.str "web")))
      [.ret (.tup [(.k (.str "text")), (.k (.int 0))])]
      [],
    .ifs (.ior (.cmp .lt (.bi .len [(.loc 1)]) (.k (.int 2))) (.cmp .notin (.idx (.loc 1) (.k (.int 1))) (.comp [2] (.n 2) .range [(.k (.int 1)), (.k (.int 13))] [] (.bi .str [(.loc 2)]))))
      [.ret (.tup [(.k (.str "text")), (.k (.int 1))])]
      [],
    .par [(3, false), (4, true)] [(.bi .int [(.idx (.loc 1) (.k (.int 1)))]), (.lst [])],
    .asgO 5 .dct0,
    .for (.n 6) .range [(.loc 3)]
      [.for (.n 7) .range [(.loc 3)]
        [.ifs (.cmp .ne (.loc 6) (.loc 7))
          [.setIx 5 (.op .add (.op .add (.bi .str [(.loc 6)]) (.k (.str ">"))) (.bi .str [(.loc 7)])) (.tup [(.loc 6), (.loc 7)])]
          []]],
    .for (.t [(.n 2), (.n 8)]) .enum [(.slc (.loc 1) (some (.k (.int 2))) none)]
      [.ifs (.ior (.cmp .notin (.loc 8) (.loc 5)) (.cmp .gt (.loc 2) (.k (.int 19))))
        [.ret (.tup [(.k (.str "text")), (.op .add (.loc 2) (.k (.int 2)))])]
        [],
      .push 4 (.idx (.loc 5) (.loc 8))],
    .ret (.lst [(.tup [(.loc 3), (.bi .tuple [(.loc 4)])])])]
/-- _law_is_count(word): 0 word 1 sign -/
def f26 : List ST :=
  [.ret (.iand (.chain .lt .lt (.k (.int 0)) (.bi .len [(.loc 0)]) (.k (.int 5))) (.iand (.cmp .eq (.comp [1] (.n 1) .seq [(.loc 0)] [(.cmp .notin (.loc 1) (.k (.str "0123456789")))] (.k (.int 1))) (.lst [])) (.iand (.cmp .eq (.bi .str [(.bi .int [(.loc 0)])]) (.loc 0)) (.cmp .lt (.bi .int [(.loc 0)]) (.k (.int 1001))))))]
/-- _law_counts_due(width, string_so): 0 width 1 string_so 2 words 3 k 4 word -/
def f27 : List ST :=
  [.asg (.n 2) (.mt .split (.loc 1) (.k (.str " "))),
    .for (.t [(.n 3), (.n 4)]) .enum [(.loc 2)]
      [.ifs (.ior (.cmp .eq (.loc 3) (.loc 0)) (.inot (.call 26 [(.loc 4)])))
        [.ret (.tup [(.k (.str "text")), (.loc 3)])]
        []],
    .ret (.ite (.cmp .eq (.bi .len [(.loc 2)]) (.loc 0)) (.lst [(.bi .tuple [(.comp [4] (.n 4) .seq [(.loc 2)] [] (.bi .int [(.loc 4)]))])]) (.tup [(.k (.str "text")), (.bi .len [(.loc 2)])]))]
/-- _law_bent(m, words): 0 m 1 words 2 at 3 way 4 some 5 word -/
def f28 : List ST :=
  [.ifs (.cmp .eq (.loc 1) (.lst []))
      [.ret (.lst [(.k (.str "web"))])]
      [],
    .par [(2, false), (3, false)] [(.call 15 [(.loc 0), (.bi .len [(.loc 1)])]), (.call 15 [(.loc 0), (.k (.int 8))])],
    .asg (.n 4) (.lst [(.k (.str "")), (.k (.str "0")), (.k (.str "1")), (.k (.str "12")), (.k (.str "13")), (.k (.str "00")), (.k (.str "-1")), (.k (.str "web")), (.k (.str "Web")), (.k (.str "0>1")), (.k (.str "1>0")), (.k (.str "1>1")), (.k (.str "0>")), (.k (.str ">")), (.k (.str "0>1>0")), (.k (.str "0 >1")), (.k (.str "01>0")), (.k (.str "1>2")), (.k (.str "x"))]),
    .asg (.n 5) (.call 16 [(.loc 0), (.op .add (.loc 4) (.lst [(.k (.str "1000")), (.k (.str "1001")), (.k (.str "0999")), (.k (.str "999")), (.k (.str "+1")), (.k (.str "1_0")), (.k (.str "0>12")), (.k (.str "11>0")), (.k (.str "0<1")), (.k (.str "web\n")), (.k (.str "1\n"))]))]),
    .ifs (.cmp .eq (.loc 3) (.k (.int 0)))
      [.ret (.op .add (.slc (.loc 1) none (some (.loc 2))) (.slc (.loc 1) (some (.op .add (.loc 2) (.k (.int 1)))) none))]
      [],
    .ifs (.cmp .eq (.loc 3) (.k (.int 1)))
      [.ret (.op .add (.op .add (.slc (.loc 1) none (some (.loc 2))) (.slc (.loc 1) (some (.loc 2)) (some (.op .add (.loc 2) (.k (.int 1)))))) (.slc (.loc 1) (some (.loc 2)) none))]
      [],
    .ifs (.cmp .eq (.loc 3) (.k (.int 2)))
      [.ret (.slc (.loc 1) none (some (.loc 2)))]
      [],
    .ret (.op .add (.op .add (.slc (.loc 1) none (some (.loc 2))) (.lst [(.loc 5)])) (.slc (.loc 1) (some (.op .add (.loc 2) (.ite (.cmp .lt (.loc 3) (.k (.int 6))) (.k (.int 1)) (.k (.int 0))))) none))]
/-- _law_right(m, web_so): 0 m 1 web_so 2 words 3 here 4 there 5 width 6 line 7 k 8 numbers 9 one 10 told 11 turn 12 due 13 bent 14 near -/
def f29 : List ST :=
  [.asg (.n 2) (.op .add (.lst [(.k (.str "web")), (.bi .str [(.idx (.loc 1) (.k (.int 0)))])]) (.comp [3, 4] (.t [(.n 3), (.n 4)]) .seq [(.idx (.loc 1) (.k (.int 1)))] [] (.op .add (.op .add (.bi .str [(.loc 3)]) (.k (.str ">"))) (.bi .str [(.loc 4)])))),
    .asg (.n 5) (.idx (.loc 1) (.k (.int 0))),
    .asg (.n 6) (.bi .tuple [(.comp [7] (.n 7) .range [(.loc 5)] [] (.call 16 [(.loc 0), (.lst [(.k (.int 0)), (.k (.int 1)), (.k (.int 2)), (.k (.int 9)), (.k (.int 10)), (.k (.int 100)), (.k (.int 1000)), (.k (.int 999))])]))]),
    .asg (.n 8) (.comp [9] (.n 9) .seq [(.loc 6)] [] (.bi .str [(.loc 9)])),
    .asgO 10 (.lst [(.callK 10 [0] [(.loc 1)]), (.callK 11 [0] [(.mt .join (.k (.str " ")) (.loc 2))])]),
    .push 10 (.callK 12 [1, 0] [(.loc 6), (.loc 1)]),
    .frz 10,
    .ifs (.inot (.call 17 [(.loc 10), (.lst [(.mt .join (.k (.str " ")) (.loc 2)), (.loc 1), (.mt .join (.k (.str " ")) (.loc 8))])]))
      [.ret (.k (.bl false))]
      [],
    .ifs (.inot (.call 17 [(.callK 13 [1, 0] [(.mt .join (.k (.str " ")) (.loc 8)), (.loc 1)]), (.loc 6)]))
      [.ret (.k (.bl false))]
      [],
    .for (.n 11) .range [(.k (.int 5))]
      [.par [(13, false), (14, false)] [(.call 28 [(.loc 0), (.loc 2)]), (.call 28 [(.loc 0), (.loc 8)])],
      .ifs (.cmp .gt (.loc 11) (.k (.int 2)))
        [.par [(13, false), (14, false)] [(.call 28 [(.loc 0), (.loc 13)]), (.call 28 [(.loc 0), (.loc 14)])]]
        [],
      .ifs (.inot (.call 17 [(.call 24 [(.clo 0)]), (.call 25 [(.mt .join (.k (.str " ")) (.loc 13))])]))
        [.ret (.k (.bl false))]
        [],
      .asg (.n 12) (.call 27 [(.loc 5), (.mt .join (.k (.str " ")) (.loc 14))]),
      .ifs (.inot (.call 17 [(.call 24 [(.clo 1)]), (.loc 12)]))
        [.ret (.k (.bl false))]
        []],
    .ret (.k (.bl true))]
/-- law(script): 0 script 1 turn 2 m 3 some 4 told 5 one 6 two 7 due -/
def f30 : List ST :=
  [.for (.n 1) .range [(.op .add (.k (.int 1)) (.bi .min [(.k (.int 2)), (.bi .len [(.loc 0)])]))]
      [.asg (.n 2) (.call 14 [(.loc 0), (.loc 1)]),
      .ifs (.inot (.call 29 [(.loc 2), (.call 21 [(.loc 2)])]))
        [.ret (.k (.bl false))]
        []],
    .asg (.n 3) (.lst [(.op .add (.k (.str "web 12")) (.op .mul (.k (.str " 0>11")) (.k (.int 20)))), (.op .add (.k (.str "web 12")) (.op .mul (.k (.str " 0>11")) (.k (.int 21)))), (.k (.str "web 13")), (.k (.str "web 0")), (.k (.str "web")), (.k (.str "")), (.k (.str " web 1")), (.k (.str "web 1")), (.k (.str "web 1 0>0")), (.k (.str "web 2 0>1 ")), (.k (.str "web  2"))]),
    .asg (.n 3) (.op .add (.loc 3) (.lst [(.k (.str "web 2 0>2")), (.k (.str "web 2 1>0 0>1")), (.k (.str "web 02")), (.k (.str "web 2 0>01")), (.k (.str "WEB 2"))])),
    .asg (.n 4) (.comp [5] (.n 5) .seq [(.loc 3)] [] (.call 24 [(.clo 2)])),
    .ifs (.inot (.call 17 [(.loc 4), (.comp [5] (.n 5) .seq [(.loc 3)] [] (.call 25 [(.loc 5)]))]))
      [.ret (.k (.bl false))]
      [],
    .asg (.n 4) (.lst [(.idx (.loc 4) (.k (.int 1))), (.idx (.loc 4) (.k (.int 4))), (.idx (.loc 4) (.k (.int 5))), (.call 24 [(.clo 3)]), (.call 24 [(.clo 4)])]),
    .ifs (.inot (.call 17 [(.loc 4), (.lst [(.tup [(.k (.str "text")), (.k (.int 22))]), (.tup [(.k (.str "text")), (.k (.int 1))]), (.tup [(.k (.str "text")), (.k (.int 0))]), (.tup [(.k (.str "text")), (.k (.non))]), (.tup [(.k (.str "text")), (.k (.non))])])]))
      [.ret (.k (.bl false))]
      [],
    .asg (.n 6) (.tup [(.k (.int 2)), (.tup [(.tup [(.k (.int 0)), (.k (.int 1))])])]),
    .asg (.n 4) (.comp [5] (.n 5) .seq [(.tup [(.k (.str "1000 0")), (.k (.str "1001 0")), (.k (.str "1")), (.k (.str "")), (.k (.str "1 2 3")), (.k (.str "1 ")), (.k (.str "00 1")), (.k (.str "1 -1"))])] [] (.call 24 [(.clo 5)])),
    .asg (.n 7) (.lst [(.lst [(.tup [(.k (.int 1000)), (.k (.int 0))])]), (.tup [(.k (.str "text")), (.k (.int 0))]), (.tup [(.k (.str "text")), (.k (.int 1))]), (.tup [(.k (.str "text")), (.k (.int 0))]), (.tup [(.k (.str "text")), (.k (.int 2))]), (.tup [(.k (.str "text")), (.k (.int 1))]), (.tup [(.k (.str "text")), (.k (.int 0))]), (.tup [(.k (.str "text")), (.k (.int 1))])]),
    .asg (.n 4) (.op .add (.loc 4) (.lst [(.call 24 [(.clo 6)]), (.call 24 [(.clo 7)])])),
    .asg (.n 4) (.op .add (.loc 4) (.lst [(.call 24 [(.clo 8)]), (.call 24 [(.clo 9)])])),
    .ret (.call 17 [(.loc 4), (.op .add (.loc 7) (.lst [(.tup [(.k (.str "text")), (.k (.non))]), (.tup [(.k (.str "web")), (.tup [])]), (.tup [(.k (.str "counts")), (.tup [(.k (.int 1))])]), (.tup [(.k (.str "counts")), (.tup [(.k (.int 0))])])]))])]
/-- lambda 0 at line 249: bent -/
def l0 : IR := (.call 11 [(.mt .join (.k (.str " ")) (.loc 0))])
/-- lambda 1 at line 252: web_so near -/
def l1 : IR := (.call 13 [(.loc 0), (.mt .join (.k (.str " ")) (.loc 1))])
/-- lambda 2 at line 262: one -/
def l2 : IR := (.call 11 [(.loc 0)])
/-- lambda 3 at line 265:  -/
def l3 : IR := (.call 11 [(.k (.non))])
/-- lambda 4 at line 265: a -/
def l4 : IR := (.call 11 [(.lst [(.k (.str "web")), (.k (.str "1"))])])
/-- lambda 5 at line 269: two one -/
def l5 : IR := (.call 13 [(.loc 0), (.loc 1)])
/-- lambda 6 at line 271: two -/
def l6 : IR := (.call 13 [(.loc 0), (.k (.non))])
/-- lambda 7 at line 271: a -/
def l7 : IR := (.call 13 [(.k (.non)), (.k (.non))])
/-- lambda 8 at line 272: two -/
def l8 : IR := (.call 12 [(.loc 0), (.tup [(.k (.int 1)), (.k (.int 1001))])])
/-- lambda 9 at line 272: a two -/
def l9 : IR := (.call 12 [(.loc 1), (.tup [(.neg (.k (.int 1))), (.k (.int 5))])])
def prg : Prg := ⟨[.df 3 3 f0, .df 2 3 f1, .df 1 3 f2, .df 1 2 f3, .df 4 6 f4, .df 4 5 f5, .df 2 2 f6, .df 3 4 f7, .df 2 4 f8, .df 1 1 f9, .df 1 3 f10, .df 1 7 f11, .df 2 3 f12, .df 2 6 f13, .df 2 6 f14, .df 2 8 f15, .df 2 2 f16, .df 2 2 f17, .df 2 7 f18, .df 2 3 f19, .df 3 9 f20, .df 1 12 f21, .df 3 9 f22, .df 2 7 f23, .df 1 2 f24, .df 1 9 f25, .df 1 2 f26, .df 2 5 f27, .df 2 6 f28, .df 2 15 f29, .df 1 8 f30], [⟨0, 1, [13], [], l0⟩, ⟨0, 2, [1, 14], [], l1⟩, ⟨0, 1, [5], [], l2⟩, ⟨0, 0, [], [], l3⟩, ⟨1, 1, [], [.int 0], l4⟩, ⟨0, 2, [6, 5], [], l5⟩, ⟨0, 1, [6], [], l6⟩, ⟨1, 1, [], [.int 0], l7⟩, ⟨0, 1, [6], [], l8⟩, ⟨1, 2, [6], [.int 0], l9⟩], [.int 12, .int 20, .int 1000, .str "0123456789"]⟩
abbrev i_is_whole : Nat := 0
abbrev i_is_arrow : Nat := 1
abbrev i_web_fault : Nat := 2
abbrev i_need_web : Nat := 3
abbrev i_row_fault : Nat := 4
abbrev i_checked_row : Nat := 5
abbrev i_need_counts : Nat := 6
abbrev i_number_in : Nat := 7
abbrev i_arrow_in : Nat := 8
abbrev i_words_of : Nat := 9
abbrev i_web_text : Nat := 10
abbrev i_read_web : Nat := 11
abbrev i_counts_text : Nat := 12
abbrev i_read_counts : Nat := 13
abbrev i_law_begun : Nat := 14
abbrev i_law_draw : Nat := 15
abbrev i_law_of : Nat := 16
abbrev i_law_like : Nat := 17
abbrev i_law_shuffled : Nat := 18
abbrev i_law_ties_of : Nat := 19
abbrev i_law_web_of : Nat := 20
abbrev i_law_any_web : Nat := 21
abbrev i_law_of_ties : Nat := 22
abbrev i_law_star : Nat := 23
abbrev i_law_heard : Nat := 24
abbrev i_law_web_due : Nat := 25
abbrev i_law_is_count : Nat := 26
abbrev i_law_counts_due : Nat := 27
abbrev i_law_bent : Nat := 28
abbrev i_law_right : Nat := 29
abbrev i_law : Nat := 30
end K14
namespace K14
open Di PySem PySem.Spec PyProof.Rows L2
def top (i : Nat) : Stmt := PySem.Challenge.pw_onewayapart_k14_whole_web_texts.main.body.getD i (.Pass ⟨0, 0, 0, 0⟩)
def d0 : DefA := defAt (top 8) "is_whole" ["value", "low", "high"] ["value", "low", "high"] (none)
def d1 : DefA := defAt (top 9) "is_arrow" ["many", "value"] ["many", "value", "one"] (none)
def d2 : DefA := defAt (top 10) "web_fault" ["value"] ["value", "number", "arrow"] (none)
def d3 : DefA := defAt (top 11) "need_web" ["web"] ["web", "fault"] (none)
def d4 : DefA := defAt (top 14) "row_fault" ["web", "low", "high", "value"] ["web", "low", "high", "value", "place", "one"] (none)
def d5 : DefA := defAt (top 15) "checked_row" ["web", "low", "high", "row"] ["web", "low", "high", "row", "fault"] (none)
def d6 : DefA := defAt (top 16) "need_counts" ["web", "counts"] ["web", "counts"] (none)
def d7 : DefA := defAt (top 19) "number_in" ["word", "low", "high"] ["word", "low", "high", "sign"] (none)
def d8 : DefA := defAt (top 20) "arrow_in" ["word", "many"] ["word", "many", "ends", "one"] (none)
def d9 : DefA := defAt (top 21) "words_of" ["string"] ["string"] (none)
def d10 : DefA := defAt (top 22) "web_text" ["web"] ["web", "near", "far"] (none)
def d11 : DefA := defAt (top 23) "read_web" ["string"] ["string", "words", "many", "arrows", "spot", "word", "arrow"] (none)
def d12 : DefA := defAt (top 24) "counts_text" ["web", "counts"] ["web", "counts", "one"] (none)
def d13 : DefA := defAt (top 25) "read_counts" ["web", "string"] ["web", "string", "found", "spot", "word", "number"] (none)
def d14 : DefA := defAt (top 27) "_law_begun" ["script", "turn"] ["script", "turn", "cells", "great", "cell", "seed"] (none)
def d15 : DefA := defAt (top 28) "_law_draw" ["m", "span"] ["m", "span", "found", "spot", "cells", "extra", "cell", "blend"] (none)
def d16 : DefA := defAt (top 29) "_law_of" ["m", "some"] ["m", "some"] (none)
def d17 : DefA := defAt (top 30) "_law_like" ["told", "due"] ["told", "due"] (none)
def d18 : DefA := defAt (top 31) "_law_shuffled" ["m", "count"] ["m", "count", "left", "found", "turn", "one", "twin"] (none)
def d19 : DefA := defAt (top 32) "_law_ties_of" ["kind_so", "width"] ["kind_so", "width", "k"] (none)
def d20 : DefA := defAt (top 33) "_law_web_of" ["m", "kind_so", "width"] ["m", "kind_so", "width", "names", "found", "near_so", "far_so", "pair", "k"] (none)
def d21 : DefA := defAt (top 34) "_law_any_web" ["m"] ["m", "way", "width", "k", "arms", "last", "ties", "more", "pairs", "again", "here", "there"] (none)
def d22 : DefA := defAt (top 35) "_law_of_ties" ["m", "ties", "width"] ["m", "ties", "width", "names", "found", "near", "far", "pair", "k"] (none)
def d23 : DefA := defAt (top 36) "_law_star" ["m", "arms"] ["m", "arms", "ties", "last", "arm", "here", "k"] (none)
def d24 : DefA := defAt (top 37) "_law_heard" ["call"] ["call", "error"] (none)
def d25 : DefA := defAt (top 38) "_law_web_due" ["string_so"] ["string_so", "words", "k", "width", "arrows_so", "known", "here", "there", "word"] (none)
def d26 : DefA := defAt (top 39) "_law_is_count" ["word"] ["word", "sign"] (none)
def d27 : DefA := defAt (top 40) "_law_counts_due" ["width", "string_so"] ["width", "string_so", "words", "k", "word"] (none)
def d28 : DefA := defAt (top 41) "_law_bent" ["m", "words"] ["m", "words", "at", "way", "some", "word"] (none)
def d29 : DefA := defAt (top 42) "_law_right" ["m", "web_so"] ["m", "web_so", "words", "here", "there", "width", "line", "k", "numbers", "one", "told", "turn", "due", "bent", "near"] (some fun _ _ => "_law_right.<locals>.<lambda>")
def d30 : DefA := defAt (top 43) "law" ["script"] ["script", "turn", "m", "some", "told", "one", "two", "due"] (some fun _ _ => "law.<locals>.<lambda>")
def L0 : LamA := lamAt (top 42) 0 "_law_right.<locals>.<lambda>" [] ["bent"] ["bent"] []
def L1 : LamA := lamAt (top 42) 1 "_law_right.<locals>.<lambda>" [] ["web_so", "near"] ["web_so", "near"] []
def L2 : LamA := lamAt (top 43) 0 "law.<locals>.<lambda>" [] ["one"] ["one"] []
def L3 : LamA := lamAt (top 43) 1 "law.<locals>.<lambda>" [] [] [] []
def L4 : LamA := lamAt (top 43) 2 "law.<locals>.<lambda>" ["a"] [] ["a"] [.int 0]
def L5 : LamA := lamAt (top 43) 3 "law.<locals>.<lambda>" [] ["two", "one"] ["two", "one"] []
def L6 : LamA := lamAt (top 43) 4 "law.<locals>.<lambda>" [] ["two"] ["two"] []
def L7 : LamA := lamAt (top 43) 5 "law.<locals>.<lambda>" ["a"] [] ["a"] [.int 0]
def L8 : LamA := lamAt (top 43) 6 "law.<locals>.<lambda>" [] ["two"] ["two"] []
def L9 : LamA := lamAt (top 43) 7 "law.<locals>.<lambda>" ["a"] ["two"] ["a", "two"] [.int 0]
def LA : List LamA := [L0, L1, L2, L3, L4, L5, L6, L7, L8, L9]
def tb : Tb := ⟨gF "is_whole" 0 :: gF "is_arrow" 1 :: gF "web_fault" 2 :: gF "need_web" 3 :: gF "row_fault" 4 :: gF "checked_row" 5 :: gF "need_counts" 6 :: gF "number_in" 7 :: gF "arrow_in" 8 :: gF "words_of" 9 :: gF "web_text" 10 :: gF "read_web" 11 :: gF "counts_text" 12 :: gF "read_counts" 13 :: gF "_law_begun" 14 :: gF "_law_draw" 15 :: gF "_law_of" 16 :: gF "_law_like" 17 :: gF "_law_shuffled" 18 :: gF "_law_ties_of" 19 :: gF "_law_web_of" 20 :: gF "_law_any_web" 21 :: gF "_law_of_ties" 22 :: gF "_law_star" 23 :: gF "_law_heard" 24 :: gF "_law_web_due" 25 :: gF "_law_is_count" 26 :: gF "_law_counts_due" 27 :: gF "_law_bent" 28 :: gF "_law_right" 29 :: gF "law" 30 :: gC "MOST_PLACES" 0 :: gC "MOST_ARROWS" 1 :: gC "MOST_COUNT" 2 :: gC "DIGITS" 3 :: gE "BadWeb" 1 "path" :: gE "BadCounts" 2 "path" :: gE "BadText" 3 "number" :: [], ["all", "bool", "enumerate", "int", "isinstance", "len", "list", "min", "range", "repr", "str", "tuple"], [("web_text", ["web"], 10, [0]), ("read_web", ["string"], 11, [0]), ("counts_text", ["counts", "web"], 12, [1, 0]), ("read_counts", ["string", "web"], 13, [1, 0])]⟩
def exs : List ExA := [exAt (top 2) 1 "BadWeb" "path", exAt (top 3) 2 "BadCounts" "path", exAt (top 4) 3 "BadText" "number"]
def ds0 : List DefA := [d0, d1, d2, d3, d4, d5, d6, d7, d8, d9, d10, d11, d12, d13, d14, d15, d16, d17, d18, d19, d20, d21, d22, d23, d24, d25, d26, d27, d28, d29]
def ds1 : List DefA := [d30]
def L : LawI := ⟨PySem.Challenge.pw_onewayapart_k14_whole_web_texts, prg, tb, LA, ds0 ++ ds1, exs, 30⟩
theorem okB : L.okB = true := by decide +kernel
def nm0 : List Str := ["WebError", "BadWeb", "BadCounts", "BadText", "MOST_PLACES", "MOST_ARROWS", "is_whole", "is_arrow", "web_fault", "need_web", "MOST_COUNT", "row_fault", "checked_row", "need_counts", "DIGITS", "number_in", "arrow_in", "words_of", "web_text", "read_web", "counts_text", "read_counts", "_law_begun", "_law_draw", "_law_of", "_law_like", "_law_shuffled", "_law_ties_of", "_law_web_of", "_law_any_web"]
def nm1 : List Str := ["_law_of_ties", "_law_star", "_law_heard", "_law_web_due", "_law_is_count", "_law_counts_due", "_law_bent", "_law_right"]
def loose : List Str := nm0 ++ nm1
def place : Nat := 43
end K14
end
section
set_option Elab.async false
set_option linter.all false
set_option maxRecDepth 100000
set_option maxHeartbeats 0
namespace K14
open PySem PySem.W PySem.Calls PyProof.Rows
abbrev R : OpenRow := OpenLaw.row PySem.Challenge.rw_onewayapart_k14_whole_web_texts
abbrev qv : Program := view R.prog [43]
abbrev hk : PySem.W.Hook := Di.hookY 5 L.fa L.fn L.tf L.exs L.ex
def ob (s : PySem.W.SharedT) : Di.AlY := Di.obsY 5 L.fa L.fn L.tf L.exs L.ex (HandSHeadRun.getT s)
theorem ob_eq (s : PySem.W.SharedT) : ob s = hk.obs s.abs := Di.obsY_eq (HandSHeadRun.getT_eq s)
theorem run (w : World) : HandSHeadRun.RunEq R qv hk ob 6000 loose w := by
  intro os
  kernel_rfl
end K14
end
section
set_option Elab.async false
set_option linter.all false
set_option maxRecDepth 100000
set_option maxHeartbeats 4000000
/-! Di.Ev: the language's answers, by rewriting. -/
namespace Di
open PySem
section
variable {P : Prg} {cf : Nat → List Val → M D} {ca : Nat → List Val → List Val → M D} {ρ : Env} {fuel : Nat} {α β γ : Type}
@[simp] theorem ev_bind_ret (a : α) (f : α → M β) : M.bind (ret1 a) f = f a := (rfl)
@[simp] theorem ev_bind_some (a : α) (f : α → M β) : M.bind (ofO (some a)) f = f a := (rfl)
@[simp] theorem ev_ofO_some (a : α) : (ofO (some a) : M α) = ret1 a := (rfl)
@[simp] theorem ev_ofO_none : (ofO none : M α) = bad := (rfl)
@[simp] theorem ev_bind_bad (f : α → M β) : M.bind bad f = bad := (rfl)
@[simp] theorem ev_bind_assoc (c : M α) (f : α → M β) (k : β → M γ) : M.bind (M.bind c f) k = M.bind c fun x => M.bind (f x) k := by
  funext m
  unfold M.bind
  cases c m <;> rfl
theorem ev_bind_if (c : Prop) [Decidable c] (x y : M α) (f : α → M β) : M.bind (if c then x else y) f = if c then M.bind x f else M.bind y f := by split <;> rfl
@[simp] theorem ev_loc {i : Nat} : evalE P cf ca (.loc i) ρ = ofO (locO ρ i) := (rfl)
@[simp] theorem ev_glo {g : Nat} : evalE P cf ca (.glo g) ρ = ofO (gloO P g) := (rfl)
@[simp] theorem ev_k {d : D} : evalE P cf ca (.k d) ρ = ret1 (.v (.d d)) := (rfl)
@[simp] theorem ev_tup {es : List IR} : evalE P cf ca (.tup es) ρ = M.bind (evalEs P cf ca es ρ) fun xs => ofO (tupO xs) := (rfl)
@[simp] theorem ev_lst {es : List IR} : evalE P cf ca (.lst es) ρ = M.bind (evalEs P cf ca es ρ) fun xs => ofO (lstO xs) := (rfl)
@[simp] theorem ev_dct0 : evalE P cf ca .dct0 ρ = ret1 (.v (.d (.dct [] []))) := (rfl)
@[simp] theorem ev_op {o : Op2} {a b : IR} : evalE P cf ca (.op o a b) ρ = M.bind (evalE P cf ca a ρ) fun x => M.bind (evalE P cf ca b ρ) fun y => ofO (opO ρ o x y) := (rfl)
@[simp] theorem ev_neg {a : IR} : evalE P cf ca (.neg a) ρ = M.bind (evalE P cf ca a ρ) fun x => ofO (negO x) := (rfl)
@[simp] theorem ev_inot {a : IR} : evalE P cf ca (.inot a) ρ = M.bind (evalE P cf ca a ρ) fun x => ofO (notO x) := (rfl)
@[simp] theorem ev_cmp {o : Cmp} {a b : IR} : evalE P cf ca (.cmp o a b) ρ = M.bind (evalE P cf ca a ρ) fun x => M.bind (evalE P cf ca b ρ) fun y => M.bind (ofO (cmpB ρ o x y)) fun t => ret1 (.v (.d (.bl t))) := (rfl)
@[simp] theorem ev_chain {o o' : Cmp} {a b c : IR} : evalE P cf ca (.chain o o' a b c) ρ = M.bind (evalE P cf ca a ρ) fun x => M.bind (evalE P cf ca b ρ) fun y => M.bind (ofO (cmpB ρ o x y)) fun t =>
      if t then M.bind (evalE P cf ca c ρ) fun z => M.bind (ofO (cmpB ρ o' y z)) fun t' => ret1 (.v (.d (.bl t'))) else ret1 (.v (.d (.bl false))) := (rfl)
@[simp] theorem ev_iand {a b : IR} : evalE P cf ca (.iand a b) ρ = M.bind (evalE P cf ca a ρ) fun x => M.bind (ofO (asBl x)) fun t => if t then evalE P cf ca b ρ else ret1 (.v (.d (.bl false))) := (rfl)
@[simp] theorem ev_ior {a b : IR} : evalE P cf ca (.ior a b) ρ = M.bind (evalE P cf ca a ρ) fun x => M.bind (ofO (asBl x)) fun t => if t then ret1 (.v (.d (.bl true))) else evalE P cf ca b ρ := (rfl)
@[simp] theorem ev_ite {c a b : IR} : evalE P cf ca (.ite c a b) ρ = M.bind (evalE P cf ca c ρ) fun x => M.bind (ofO (asBl x)) fun t => if t then evalE P cf ca a ρ else evalE P cf ca b ρ := (rfl)
@[simp] theorem ev_idx {a i : IR} : evalE P cf ca (.idx a i) ρ = M.bind (evalE P cf ca a ρ) fun x => M.bind (evalE P cf ca i ρ) fun y => ofO (idxO ρ x y) := (rfl)
@[simp] theorem ev_slc {a : IR} {lo hi : Option IR} : evalE P cf ca (.slc a lo hi) ρ = M.bind (evalE P cf ca a ρ) fun x => M.bind (evalO P cf ca lo ρ) fun l => M.bind (evalO P cf ca hi ρ) fun h => ofO (slcO ρ x l h) := (rfl)
@[simp] theorem ev_rev {a : IR} : evalE P cf ca (.rev a) ρ = M.bind (evalE P cf ca a ρ) fun x => ofO (revO ρ x) := (rfl)
@[simp] theorem ev_bi {b : Bi} {es : List IR} : evalE P cf ca (.bi b es) ρ = M.bind (evalEs P cf ca es ρ) fun xs => ofO (biO ρ b xs) := (rfl)
@[simp] theorem ev_mt {b : Bi} {a e : IR} : evalE P cf ca (.mt b a e) ρ = M.bind (evalE P cf ca a ρ) fun x => M.bind (ofO (isS ρ x)) fun _ => M.bind (evalE P cf ca e ρ) fun y => ofO (biO ρ b [x, y]) := (rfl)
@[simp] theorem ev_call {f : Nat} {es : List IR} : evalE P cf ca (.call f es) ρ = M.bind (evalEs P cf ca es ρ) fun xs => M.bind (ofO (vals xs)) fun ds => M.bind (cf f ds) fun d => ret1 (.v (.d d)) := (rfl)
@[simp] theorem ev_callK {f : Nat} {ord : List Nat} {es : List IR} : evalE P cf ca (.callK f ord es) ρ = M.bind (evalEs P cf ca es ρ) fun xs => M.bind (ofO (vals xs)) fun ds => M.bind (ofO (pick ord ds)) fun ds' => M.bind (cf f ds') fun d => ret1 (.v (.d d)) := (rfl)
@[simp] theorem ev_clo {k : Nat} : evalE P cf ca (.clo k) ρ = ofO (cloO P ρ k) := (rfl)
@[simp] theorem ev_app {i : Nat} {es : List IR} : evalE P cf ca (.app i es) ρ = M.bind (ofO (appO ρ i)) fun kc => M.bind (evalEs P cf ca es ρ) fun xs => M.bind (ofO (vals xs)) fun ds => M.bind (ca kc.1 kc.2 ds) fun d => ret1 (.v (.d d)) := (rfl)
@[simp] theorem ev_mget {i f : Nat} : evalE P cf ca (.mget i f) ρ = mgetM ρ i f := (rfl)
/-- what a comprehension makes of an item -/
def compF (P : Prg) (cf : Nat → List Val → M D) (ca : Nat → List Val → List Val → M D) (tg : Tg) (ifs : List IR) (elt : IR) (ρb : Env) (x : Val) : M (Option D) :=
  M.bind (ofO (setTg P tg x ρb)) fun ρ1 => M.bind (evalIfs P cf ca ifs ρ1) fun b => if b then M.bind (evalE P cf ca elt ρ1) fun y => ofO (elO y) else ret1 none
@[simp] theorem ev_comp {own : List Nat} {tg : Tg} {it : ItK} {es ifs : List IR} {elt : IR} : evalE P cf ca (.comp own tg it es ifs elt) ρ = M.bind (evalEs P cf ca es ρ) fun xs => M.bind (ofO (itemsO ρ it xs)) fun items => M.bind (noEx (compL (compF P cf ca tg ifs elt (mask own 0 ρ)) items)) fun ys => ofO (newL ys) := (rfl)
@[simp] theorem evs_nil : evalEs P cf ca [] ρ = ret1 [] := (rfl)
@[simp] theorem evs_cons {e : IR} {r : List IR} : evalEs P cf ca (e :: r) ρ = M.bind (evalE P cf ca e ρ) fun x => M.bind (evalEs P cf ca r ρ) fun xs => ret1 (x :: xs) := (rfl)
@[simp] theorem evo_none : evalO P cf ca none ρ = ret1 none := (rfl)
@[simp] theorem evo_some {e : IR} : evalO P cf ca (some e) ρ = M.bind (evalE P cf ca e ρ) fun x => ofO (intO x) := (rfl)
@[simp] theorem evi_nil : evalIfs P cf ca [] ρ = ret1 true := (rfl)
@[simp] theorem evi_cons {e : IR} {r : List IR} : evalIfs P cf ca (e :: r) ρ = M.bind (evalE P cf ca e ρ) fun x => M.bind (ofO (asBl x)) fun t => if t then evalIfs P cf ca r ρ else ret1 false := (rfl)
/-! statements -/
@[simp] theorem ex_asg {tg : Tg} {e : IR} : exec P cf ca fuel (.asg tg e) ρ = M.bind (valE P cf ca e ρ) fun d => M.bind (ofO (setTg P tg d ρ)) fun ρ1 => ret1 (.nx ρ1) := (rfl)
@[simp] theorem ex_asgO {i : Nat} {e : IR} : exec P cf ca fuel (.asgO i e) ρ = M.bind (valE P cf ca e ρ) fun d => ret1 (.nx (put P i (.ow d) ρ)) := (rfl)
@[simp] theorem ex_par {i j : Nat} {o1 o2 : Bool} {a b : IR} : exec P cf ca fuel (.par [(i, o1), (j, o2)] [a, b]) ρ = M.bind (datE P cf ca a ρ) fun d1 => M.bind (datE P cf ca b ρ) fun d2 =>
        ret1 (.nx (put P j (if o2 then .ow (.d d2) else .sh (.d d2)) (put P i (if o1 then .ow (.d d1) else .sh (.d d1)) ρ))) := (rfl)
@[simp] theorem ex_aug {i : Nat} {o : Op2} {e : IR} : exec P cf ca fuel (.aug i o e) ρ = M.bind (ofO (shO ρ i)) fun x => M.bind (valE P cf ca e ρ) fun y => M.bind (ofO (augO o x y)) fun d => ret1 (.nx (put P i (.sh d) ρ)) := (rfl)
@[simp] theorem ex_push {i : Nat} {e : IR} : exec P cf ca fuel (.push i e) ρ = M.bind (ofO (isOL ρ i)) fun _ => M.bind (valE P cf ca e ρ) fun d => M.bind (ofO (pushO ρ i d)) fun ρ1 => ret1 (.nx ρ1) := (rfl)
@[simp] theorem ex_setIx {i : Nat} {k e : IR} : exec P cf ca fuel (.setIx i k e) ρ = M.bind (datE P cf ca e ρ) fun d => M.bind (ofO (isO ρ i)) fun _ => M.bind (datE P cf ca k ρ) fun kd => M.bind (ofO (setIxO ρ i kd d)) fun ρ1 => ret1 (.nx ρ1) := (rfl)
@[simp] theorem ex_expr {e : IR} : exec P cf ca fuel (.expr e) ρ = M.bind (evalE P cf ca e ρ) fun _ => ret1 (.nx ρ) := (rfl)
@[simp] theorem ex_ret {e : IR} : exec P cf ca fuel (.ret e) ρ = M.bind (datE P cf ca e (ρ.map frzS)) fun d => ret1 (.rt d) := (rfl)
theorem ex_rse {c : Nat} {e : IR} : exec P cf ca fuel (.rse c (some e)) ρ = M.bind (datE P cf ca e ρ) fun d m => .ex c (some d) m := (rfl)
@[simp] theorem ex_ifs {c : IR} {a b : List ST} : exec P cf ca fuel (.ifs c a b) ρ = M.bind (testE P cf ca c ρ) fun t => if t then execs P cf ca fuel a ρ else execs P cf ca fuel b ρ := (rfl)
/-- a loop's turn -/
def forF (P : Prg) (cf : Nat → List Val → M D) (ca : Nat → List Val → List Val → M D) (fuel : Nat) (tg : Tg) (body : List ST) (x : Val) (ρ : Env) : M Fl := M.bind (ofO (setTg P tg x ρ)) fun ρ1 => execs P cf ca fuel body ρ1
@[simp] theorem ex_for {tg : Tg} {it : ItK} {es : List IR} {body : List ST} : exec P cf ca fuel (.for tg it es body) ρ = M.bind (evalEs P cf ca es ρ) fun xs => M.bind (ofO (forO it xs)) fun items => forL (forF P cf ca fuel tg body) items ρ := (rfl)
@[simp] theorem ex_frz {i : Nat} : exec P cf ca fuel (.frz i) ρ = M.bind (ofO (frzO ρ i)) fun ρ1 => ret1 (.nx ρ1) := (rfl)
@[simp] theorem ex_mset {i f : Nat} {e : IR} : exec P cf ca fuel (.mset i f e) ρ = M.bind (datE P cf ca e ρ) fun d => msetM ρ i f d := (rfl)
@[simp] theorem ex_mnew {a b c d : IR} : exec P cf ca fuel (.mnew a b c d) ρ = M.bind (datE P cf ca a (ρ.map frzS)) fun x => M.bind (datE P cf ca b (ρ.map frzS)) fun y => M.bind (datE P cf ca c (ρ.map frzS)) fun z => M.bind (datE P cf ca d (ρ.map frzS)) fun w => mnewM x y z w := (rfl)
/-- what comes behind a statement -/
def goOn (P : Prg) (cf : Nat → List Val → M D) (ca : Nat → List Val → List Val → M D) (fuel : Nat) (r : List ST) (fl : Fl) : M Fl := match fl with
  | .nx ρ1 => execs P cf ca fuel r ρ1
  | fl => ret1 fl
@[simp] theorem exs_nil : execs P cf ca fuel [] ρ = ret1 (.nx ρ) := (rfl)
@[simp] theorem exs_cons {s : ST} {r : List ST} : execs P cf ca fuel (s :: r) ρ = M.bind (exec P cf ca fuel s ρ) (goOn P cf ca fuel r) := (rfl)
@[simp] theorem go_nx {r : List ST} : goOn P cf ca fuel r (.nx ρ) = execs P cf ca fuel r ρ := (rfl)
@[simp] theorem go_rt {r : List ST} {d : D} : goOn P cf ca fuel r (.rt d) = ret1 (.rt d) := (rfl)
@[simp] theorem go_bk {r : List ST} : goOn P cf ca fuel r (.bk ρ) = ret1 (.bk ρ) := (rfl)
@[simp] theorem go_ct {r : List ST} : goOn P cf ca fuel r (.ct ρ) = ret1 (.ct ρ) := (rfl)
@[simp] theorem ev_test {c : IR} : testE P cf ca c ρ = M.bind (evalE P cf ca c ρ) fun x => ofO (asBl x) := (rfl)
@[simp] theorem ev_val {c : IR} : valE P cf ca c ρ = M.bind (evalE P cf ca c ρ) fun x => ofO (valO x) := (rfl)
@[simp] theorem ev_dat {c : IR} : datE P cf ca c ρ = M.bind (evalE P cf ca c ρ) fun x => ofO (datO x) := (rfl)
/-! leaves -/
@[simp] theorem lf_loc {i : Nat} {v : Val} (h : ρ[i]? = some (.sh v)) : locO ρ i = some (.v v) := by unfold locO; rw [h]
@[simp] theorem lf_r {x : Val} : OV.r ρ (.v x) = some x := (rfl)
@[simp] theorem lf_d {x : D} : OV.d ρ (.v (.d x)) = some x := (rfl)
@[simp] theorem lf_cmp {o : Cmp} {a b : D} : cmpB ρ o (.v (.d a)) (.v (.d b)) = cmpD o a b := (rfl)
@[simp] theorem lf_op {o : Op2} {a b : D} : opO ρ o (.v (.d a)) (.v (.d b)) = (op2 o a b).map fun d => .v (.d d) := by
  simp only [opO, OV.r, op2V]
  cases op2 o a b <;> rfl
@[simp] theorem lf_idx {a b : D} : idxO ρ (.v (.d a)) (.v (.d b)) = (idxD a b).map fun d => .v (.d d) := by
  simp only [idxO, OV.d, OV.r]
  cases idxD a b <;> rfl
@[simp] theorem lf_rev {a : D} : revO ρ (.v (.d a)) = (revD a).map fun d => .v (.d d) := by
  simp only [revO, OV.d, OV.r]
  cases revD a <;> rfl
@[simp] theorem lf_slc {a : D} {l h : Option Int} : slcO ρ (.v (.d a)) l h = (slcD l h a).map fun d => .v (.d d) := by
  simp only [slcO, OV.r, slcV]
  cases slcD l h a <;> rfl
@[simp] theorem lf_bi1 {b : Bi} {x : D} : biO ρ b [.v (.d x)] = (bi b [x]).map fun d => .v (.d d) := by
  simp only [biO, derefs, OV.d, OV.r]
  cases bi b [x] <;> rfl
@[simp] theorem lf_bi2 {b : Bi} {x y : D} : biO ρ b [.v (.d x), .v (.d y)] = (bi b [x, y]).map fun d => .v (.d d) := by
  simp only [biO, derefs, OV.d, OV.r]
  cases bi b [x, y] <;> rfl
@[simp] theorem lf_not {b : Bool} : notO (.v (.d (.bl b))) = some (.v (.d (.bl (!b)))) := (rfl)
@[simp] theorem lf_neg {i : Int} : negO (.v (.d (.int i))) = some (.v (.d (.int (-i)))) := (rfl)
@[simp] theorem lf_asBl {b : Bool} : asBl (.v (.d (.bl b))) = some b := (rfl)
@[simp] theorem lf_val {v : Val} : valO (.v v) = some v := (rfl)
@[simp] theorem lf_dat {d : D} : datO (.v (.d d)) = some d := (rfl)
@[simp] theorem lf_int {i : Int} : intO (.v (.d (.int i))) = some (some i) := (rfl)
@[simp] theorem lf_elO {d : D} : elO (.v (.d d)) = some (some d) := (rfl)
@[simp] theorem lf_isS {z : Str} : isS ρ (.v (.d (.str z))) = some () := (rfl)
@[simp] theorem lf_seq {a : D} : itemsO ρ .seq [.v (.d a)] = (seqD a).map (·.map Val.d) := by
  simp only [itemsO, refs, OV.r, itemsV, datas, itemsD]
  cases seqD a <;> rfl
@[simp] theorem lf_range1 {a : D} : itemsO ρ .range [.v (.d a)] = (rangeD [a]).map (·.map Val.d) := by
  simp only [itemsO, refs, OV.r, itemsV, datas, itemsD]
  cases rangeD [a] <;> rfl
@[simp] theorem lf_range2 {a b : D} : itemsO ρ .range [.v (.d a), .v (.d b)] = (rangeD [a, b]).map (·.map Val.d) := by
  simp only [itemsO, refs, OV.r, itemsV, datas, itemsD]
  cases rangeD [a, b] <;> rfl
@[simp] theorem lf_fseq {a : D} : forO .seq [.v (.d a)] = (seqD a).map (·.map Val.d) := by
  simp only [forO, vals, datas, itemsD]
  cases seqD a <;> rfl
@[simp] theorem lf_frange1 {a : D} : forO .range [.v (.d a)] = (rangeD [a]).map (·.map Val.d) := by
  simp only [forO, vals, datas, itemsD]
  cases rangeD [a] <;> rfl
@[simp] theorem lf_frange2 {a b : D} : forO .range [.v (.d a), .v (.d b)] = (rangeD [a, b]).map (·.map Val.d) := by
  simp only [forO, vals, datas, itemsD]
  cases rangeD [a, b] <;> rfl
@[simp] theorem lf_fenumL {xs : List D} : forO .enum [.v (.d (.lst xs))] = some ((enumL 0 xs).map Val.d) := (rfl)
@[simp] theorem lf_fenumT {xs : List D} : forO .enum [.v (.d (.tup xs))] = some ((enumL 0 xs).map Val.d) := (rfl)
@[simp] theorem lf_seqL {xs : List D} : seqD (.lst xs) = some xs := (rfl)
@[simp] theorem lf_seqT {xs : List D} : seqD (.tup xs) = some xs := (rfl)
theorem lf_seqS {z : Str} : seqD (.str z) = some (z.cps.toList.map fun c => .str ⟨#[c]⟩) := (rfl)
@[simp] theorem lf_set {i : Nat} {v : Val} : setTg P (.n i) v ρ = some (put P i (.sh v) ρ) := by simp [setTg]
@[simp] theorem lf_vals0 : vals [] = some [] := (rfl)
@[simp] theorem lf_valsc {v : Val} {r : List OV} : vals (.v v :: r) = (vals r).map (v :: ·) := by
  simp only [vals]
  cases vals r <;> rfl
@[simp] theorem lf_datas0 : datas [] = some [] := (rfl)
@[simp] theorem lf_datasc {d : D} {r : List Val} : datas (.d d :: r) = (datas r).map (d :: ·) := by
  simp only [datas]
  cases datas r <;> rfl
theorem lf_tup {xs : List OV} {vs : List Val} {ds : List D} (h : vals xs = some vs) (h2 : datas vs = some ds) (h3 : ds.length ≤ sizeLine) : tupO xs = some (.v (.d (.tup ds))) := by
  unfold tupO
  rw [h]
  dsimp only
  rw [h2]
  dsimp only
  rw [if_pos h3]
theorem lf_lst {xs : List OV} {vs : List Val} {ds : List D} (h : vals xs = some vs) (h2 : datas vs = some ds) (h3 : vs.length ≤ sizeLine) : lstO xs = some (.v (.d (.lst ds))) := by
  unfold lstO
  rw [h]
  dsimp only
  unfold lstV
  rw [h2]
  dsimp only
  rw [if_pos h3]
@[simp] theorem lf_newL {ys : List D} (h : ys.length ≤ sizeLine) : newL ys = some (.v (.d (.lst ys))) := by unfold newL; rw [if_pos h]
@[simp] theorem lk_no {i : Nat} : killS P i .no = .no := (rfl)
@[simp] theorem lk_sh {i : Nat} {d : D} : killS P i (.sh (.d d)) = .sh (.d d) := by simp [killS, capt]
@[simp] theorem lk_ow {i : Nat} {d : D} : killS P i (.ow (.d d)) = .ow (.d d) := by simp [killS, capt]
@[simp] theorem lk_ro {i : Nat} {d : D} : killS P i (.ro (.d d)) = .ro (.d d) := by simp [killS, capt]
@[simp] theorem lz_sh {v : Val} : frzS (.sh v) = .sh v := (rfl)
@[simp] theorem lz_ow {v : Val} : frzS (.ow v) = .sh v := (rfl)
@[simp] theorem lz_no : frzS .no = .no := (rfl)
/-! operators -/
@[simp] theorem o_add {i j : Int} : op2 .add (.int i) (.int j) = some (.int (i + j)) := (rfl)
@[simp] theorem o_sub {i j : Int} : op2 .sub (.int i) (.int j) = some (.int (i - j)) := (rfl)
theorem o_mul {i j : Int} (h : mulOk i j = true) : op2 .mul (.int i) (.int j) = some (.int (i * j)) := by simp only [op2, h, if_true]
theorem o_mod {i j : Int} (h : j ≠ 0) : op2 .mod (.int i) (.int j) = some (.int (i.fmod j)) := by simp only [op2, h, if_false]
theorem o_fdiv {i j : Int} (h : j ≠ 0) (h2 : j.natAbs < 1073741824) : op2 .fdiv (.int i) (.int j) = some (.int (i.fdiv j)) := by simp only [op2]; rw [if_pos ⟨h, h2⟩]
theorem o_adds {x y : Str} (h : x.length + y.length ≤ sizeLine) : op2 .add (.str x) (.str y) = some (.str (x ++ y)) := by simp only [op2]; rw [if_pos h]
theorem o_addl {x y : List D} (h : x.length + y.length ≤ sizeLine) : op2 .add (.lst x) (.lst y) = some (.lst (x ++ y)) := by simp only [op2]; rw [if_pos h]
@[simp] theorem c_lt {i j : Int} : cmpD .lt (.int i) (.int j) = some (decide (i < j)) := (rfl)
@[simp] theorem c_le {i j : Int} : cmpD .le (.int i) (.int j) = some (decide (i ≤ j)) := (rfl)
@[simp] theorem c_gt {i j : Int} : cmpD .gt (.int i) (.int j) = some (decide (j < i)) := (rfl)
@[simp] theorem c_ge {i j : Int} : cmpD .ge (.int i) (.int j) = some (decide (j ≤ i)) := (rfl)
@[simp] theorem c_isN {a : D} : cmpD .isN a .non = some (isNon a) := (rfl)
@[simp] theorem c_notN {a : D} : cmpD .notN a .non = some (!isNon a) := (rfl)
@[simp] theorem nonI {i : Int} : isNon (.int i) = false := (rfl)
@[simp] theorem nonN : isNon .non = true := (rfl)
@[simp] theorem nonT {xs : List D} : isNon (.tup xs) = false := (rfl)
@[simp] theorem eqD_str {a b : Str} : eqD (.str a) (.str b) = some (decide (a = b)) := by
  simp [eqD, good, D.py, PyData.eqv, Bool.beq_eq_decide_eq]
@[simp] theorem eqD_int {a b : Int} : eqD (.int a) (.int b) = some (decide (a = b)) := by
  simp [eqD, good, D.py, PyData.eqv, Bool.beq_eq_decide_eq]
@[simp] theorem c_eqs {a b : Str} : cmpD .eq (.str a) (.str b) = some (decide (a = b)) := by simp only [cmpD, eqD_str]
@[simp] theorem c_eqi {a b : Int} : cmpD .eq (.int a) (.int b) = some (decide (a = b)) := by simp only [cmpD, eqD_int]
@[simp] theorem c_nes {a b : Str} : cmpD .ne (.str a) (.str b) = some (!decide (a = b)) := by simp only [cmpD, eqD_str]
@[simp] theorem c_nei {a b : Int} : cmpD .ne (.int a) (.int b) = some (!decide (a = b)) := by simp only [cmpD, eqD_int]
@[simp] theorem b_lenL {xs : List D} : bi .len [.lst xs] = some (.int xs.length) := (rfl)
@[simp] theorem b_lenT {xs : List D} : bi .len [.tup xs] = some (.int xs.length) := (rfl)
@[simp] theorem b_lenR {xs : List Int} : bi .len [.scr xs] = some (.int xs.length) := (rfl)
theorem b_lenS {z : Str} (h : z.length ≤ sizeLine) : bi .len [.str z] = some (.int z.length) := by simp only [bi, biLen]; rw [if_pos h]
@[simp] theorem b_int {i : Int} : bi .int [.int i] = some (.int i) := (rfl)
@[simp] theorem b_tupL {xs : List D} : bi .tuple [.lst xs] = some (.tup xs) := (rfl)
@[simp] theorem b_str {i : Int} (h : i.natAbs.log2 < 1920) : bi .str [.int i] = some (.str (toString i)) := by simp only [bi, biStr]; rw [if_pos h]
/-- every item by itself -/
theorem compL_map {f : Val → M (Option D)} {g : Val → Option D} : ∀ {xs : List Val}, (∀ x ∈ xs, f x = ret1 (g x)) → compL f xs = ret1 (xs.filterMap g)
  | [], _ => rfl
  | x :: r, h => by
    show (M.bind (f x) fun y => M.bind (compL f r) fun ys => match y with
      | some d => fun m => .ok (d :: ys) m
      | none => fun m => .ok ys m) = _
    rw [h x (by simp), ev_bind_ret, compL_map fun y hy => h y (by simp [hy]), ev_bind_ret, List.filterMap_cons]
    cases g x <;> rfl
@[simp] theorem noEx_ret {a : α} : noEx (ret1 a) = ret1 a := (rfl)
theorem blsOf_map {α : Type} (p : α → Bool) : ∀ l : List α, blsOf (l.map fun c => D.bl (p c)) = some (l.map p)
  | [] => rfl
  | x :: r => by simp only [List.map_cons, blsOf, blsOf_map p r]
theorem b_all {l : List D} {bs : List Bool} (h : blsOf l = some bs) : bi .all [.lst l] = some (.bl (bs.all id)) := by simp only [bi, biAll, h]
end
end Di
end
section
set_option Elab.async false
set_option linter.all false
set_option maxRecDepth 100000
set_option maxHeartbeats 4000000
/-! Di.Txt: plain facts about texts: words, numbers. -/
namespace Di
open PySem TL L2
theorem pre1 (s c : Nat) (r : List Nat) : pre [s] (c :: r) = decide (c = s) := by
  simp [pre, Bool.beq_eq_decide_eq]
theorem spl1_hit (s : Nat) (acc r : List Nat) : spl [s] 0 acc (s :: r) = acc :: spl [s] 0 [] r := by
  rw [spl_hit (by rw [pre1]; simp)]
  rfl
theorem spl1_miss {s c : Nat} (h : c ≠ s) (acc r : List Nat) : spl [s] 0 acc (c :: r) = spl [s] 0 (acc ++ [c]) r := spl_miss (by rw [pre1]; simp [h])
theorem spl1_ne (s : Nat) : ∀ (l acc : List Nat), spl [s] 0 acc l ≠ []
  | [], acc => by rw [spl_nil]; simp
  | c :: r, acc => by
    by_cases h : c = s
    · subst h
      rw [spl1_hit]
      simp
    · rw [spl1_miss h]
      exact spl1_ne s r _
theorem joinL_cons {S p : List Nat} {r : List (List Nat)} (h : r ≠ []) : joinL S (p :: r) = p ++ (S ++ joinL S r) := by
  cases r with
  | nil => exact absurd rfl h
  | cons q r => rfl
theorem join_spl (s : Nat) : ∀ (l acc : List Nat), joinL [s] (spl [s] 0 acc l) = acc ++ l
  | [], acc => by rw [spl_nil]; simp [joinL]
  | c :: r, acc => by
    by_cases h : c = s
    · subst h
      rw [spl1_hit, joinL_cons (spl1_ne _ _ _), join_spl c r []]
      simp
    · rw [spl1_miss h, join_spl s r]
      simp
theorem spl1_free (s : Nat) : ∀ (l acc : List Nat), s ∉ acc → ∀ p ∈ spl [s] 0 acc l, s ∉ p
  | [], acc, ha, p, hp => by
    rw [spl_nil] at hp
    simp at hp
    rw [hp]
    exact ha
  | c :: r, acc, ha, p, hp => by
    by_cases h : c = s
    · subst h
      rw [spl1_hit] at hp
      rcases List.mem_cons.mp hp with hp | hp
      · rw [hp]; exact ha
      · exact spl1_free c r [] (by simp) p hp
    · rw [spl1_miss h] at hp
      exact spl1_free s r _ (by simp [ha]; exact fun e => h e.symm) p hp
/-- how long a cut text's parts are -/
theorem spl1_len (s : Nat) : ∀ (l acc : List Nat), ∀ p ∈ spl [s] 0 acc l, p.length ≤ acc.length + l.length
  | [], acc, p, hp => by
    rw [spl_nil] at hp
    simp at hp
    rw [hp]
    simp
  | c :: r, acc, p, hp => by
    by_cases h : c = s
    · subst h
      rw [spl1_hit] at hp
      rcases List.mem_cons.mp hp with hp | hp
      · rw [hp]; simp
      · have := spl1_len c r [] p hp
        simp at this ⊢
        omega
    · rw [spl1_miss h] at hp
      have := spl1_len s r _ p hp
      simp at this ⊢
      omega
theorem spl1_count (s : Nat) : ∀ (l acc : List Nat), (spl [s] 0 acc l).length ≤ l.length + 1
  | [], acc => by rw [spl_nil]; simp
  | c :: r, acc => by
    by_cases h : c = s
    · subst h
      rw [spl1_hit]
      have := spl1_count c r []
      simp
      omega
    · rw [spl1_miss h]
      have := spl1_count s r (acc ++ [c])
      simp
      omega
/-! numbers -/
def isDg (c : Nat) : Bool := decide (48 ≤ c ∧ c ≤ 57)
/-- a number as it is written -/
def canon : List Nat → Bool
  | [] => false
  | c :: r => (c :: r).all isDg && (decide (c ≠ 48) || r.isEmpty)
theorem num_head (n : Nat) : ∃ c r, numL n = c :: r ∧ (c = 48 → n = 0 ∧ r = []) := by
  induction n using Nat.strongRecOn with
  | ind n ih =>
    by_cases h : n < 10
    · exact ⟨48 + n, [], numL_lt h, fun e => ⟨by omega, rfl⟩⟩
    · have h10 : 10 ≤ n := by omega
      obtain ⟨c, r, e, hc⟩ := ih (n / 10) (by omega)
      refine ⟨c, r ++ [48 + n % 10], by rw [numL_step h10, e]; rfl, fun e2 => ?_⟩
      have := (hc e2).1
      omega
theorem num_canon (n : Nat) : canon (numL n) = true := by
  obtain ⟨c, r, e, hc⟩ := num_head n
  have hd := numL_digits n
  rw [e] at hd ⊢
  simp only [canon, Bool.and_eq_true, List.all_eq_true]
  refine ⟨fun x hx => by simpa [isDg] using hd x hx, ?_⟩
  by_cases h : c = 48
  · simp [(hc h).2]
  · simp [h]
theorem digitsVal_snoc (l : List Nat) (c : Nat) : NumText.digitsVal (l ++ [c]) = NumText.digitsVal l * 10 + (c - 48) := by
  simp [NumText.digitsVal]
theorem val_pos : ∀ l : List Nat, (∀ c ∈ l, 48 ≤ c ∧ c ≤ 57) → ∀ a : Nat, 1 ≤ a → 1 ≤ l.foldl (fun acc c => acc * 10 + (c - 48)) a
  | [], _, a, h => h
  | c :: r, hl, a, h => val_pos r (fun x hx => hl x (by simp [hx])) (a * 10 + (c - 48)) (by omega)
theorem canon_num (l : List Nat) (h : canon l = true) : numL (NumText.digitsVal l) = l := by
  have key : ∀ n (l : List Nat), l.length = n → canon l = true → numL (NumText.digitsVal l) = l := by
    intro n
    induction n with
    | zero => intro l e hc; cases l with
      | nil => exact absurd hc (by simp [canon])
      | cons _ _ => simp at e
    | succ n ih =>
      intro l e hc
      obtain ⟨l', c, rfl⟩ : ∃ l' c, l = l' ++ [c] := by
        rcases List.eq_nil_or_concat l with h | ⟨a, b, h⟩
        · subst h; simp at e
        · exact ⟨a, b, by simpa using h⟩
      cases l' with
      | nil =>
        simp [canon, isDg] at hc
        have e : NumText.digitsVal ([] ++ [c]) = c - 48 := by simp [NumText.digitsVal]
        rw [e, numL_lt (by omega)]
        simp
        omega
      | cons d r =>
        simp only [canon, List.cons_append, Bool.and_eq_true, List.all_eq_true, Bool.or_eq_true] at hc
        obtain ⟨h1, h2⟩ := hc
        have hd48 : d ≠ 48 := by simpa using h2
        have hall : ∀ x ∈ d :: r, 48 ≤ x ∧ x ≤ 57 := fun x hx => by
          have := h1 x (by rw [← List.cons_append]; exact List.mem_append_left _ hx)
          simpa [isDg] using this
        have hc : 48 ≤ c ∧ c ≤ 57 := by
          have := h1 c (by rw [← List.cons_append]; exact List.mem_append_right _ (by simp))
          simpa [isDg] using this
        have hi := ih (d :: r) (by simpa using e) (by
          simp only [canon, Bool.and_eq_true, List.all_eq_true, Bool.or_eq_true]
          exact ⟨fun x hx => by simpa [isDg] using hall x hx, Or.inl (by simpa using hd48)⟩)
        have hp : 1 ≤ NumText.digitsVal (d :: r) := by
          have h1 := hall d (by simp)
          exact val_pos r (fun x hx => hall x (by simp [hx])) (0 * 10 + (d - 48)) (by omega)
        rw [digitsVal_snoc, numL_step (by omega)]
        have e1 : (NumText.digitsVal (d :: r) * 10 + (c - 48)) / 10 = NumText.digitsVal (d :: r) := by omega
        have e2 : 48 + (NumText.digitsVal (d :: r) * 10 + (c - 48)) % 10 = c := by omega
        rw [e1, e2, hi]
  exact key _ l rfl h
/-- a number as a text -/
abbrev nStr (n : Nat) : Str := Str.ofString (toString (n : Int))
theorem tl_nStr (n : Nat) : tl (nStr n) = numL n := tl_num n
theorem nStr_inj {m n : Nat} (h : nStr m = nStr n) : m = n := numL_inj (by rw [← tl_nStr, ← tl_nStr, h])
theorem eq_nStr {w : Str} {n : Nat} : w = nStr n ↔ tl w = numL n := ⟨fun h => by rw [h, tl_nStr], fun h => ext_tl (by rw [h, tl_nStr])⟩
/-- the number that a text is, within bounds -/
def numIn (w : List Nat) (lo hi : Int) : Option Int :=
  if canon w = true ∧ w.length ≤ 7 ∧ lo ≤ (NumText.digitsVal w : Int) ∧ (NumText.digitsVal w : Int) ≤ hi then some (NumText.digitsVal w : Int) else none
theorem numIn_some {w : List Nat} {lo hi : Int} (h : hi < 10000000) {i : Int} : numIn w lo hi = some i ↔ ∃ n : Nat, i = n ∧ lo ≤ n ∧ (n : Int) ≤ hi ∧ w = numL n := by
  unfold numIn
  constructor
  · intro e
    split at e
    · rename_i hc
      injection e with e
      exact ⟨_, e.symm, hc.2.2.1, hc.2.2.2, (canon_num w hc.1).symm⟩
    · cases e
  · rintro ⟨n, rfl, h1, h2, rfl⟩
    rw [if_pos, numL_val]
    rw [numL_val]
    exact ⟨num_canon n, numL_len (by omega) (by omega), h1, h2⟩
theorem numIn_none {w : List Nat} {lo hi : Int} (h : hi < 10000000) : numIn w lo hi = none ↔ ∀ n : Nat, lo ≤ n → (n : Int) ≤ hi → w ≠ numL n := by
  constructor
  · intro e n h1 h2 hw
    rw [(numIn_some h).mpr ⟨n, rfl, h1, h2, hw⟩] at e
    cases e
  · intro hn
    cases e : numIn w lo hi with
    | none => rfl
    | some i =>
      obtain ⟨n, _, h1, h2, h3⟩ := (numIn_some h).mp e
      exact absurd h3 (hn n h1 h2)
def noD : Option Int → D
  | some i => .int i
  | none => .non
/-- cut at one sign -/
theorem split1 {x y : Str} {s : Nat} (hy : tl y = [s]) (hs : s < 256) : (Txt.split x y).map tl = spl [s] 0 [] (tl x) := by
  rw [split_spl x y (by rw [hy]; simp) (kind_ok (by
    have : y.cps = #[s] := by
      have := congrArg List.toArray hy
      simpa [tl] using this
    rw [this]
    simp [hs])), hy]
theorem len_split {x y : Str} {s : Nat} (hy : tl y = [s]) (hs : s < 256) : (Txt.split x y).length ≤ x.length + 1 := by
  have := congrArg List.length (split1 (x := x) hy hs)
  rw [List.length_map] at this
  rw [this, len_tl]
  exact spl1_count s _ _
theorem split_ne {x y : Str} {s : Nat} (hy : tl y = [s]) (hs : s < 256) : Txt.split x y ≠ [] := by
  intro h
  have := split1 (x := x) hy hs
  rw [h] at this
  exact spl1_ne s _ _ this.symm
theorem len_part {x y : Str} {s : Nat} (hy : tl y = [s]) (hs : s < 256) {w : Str} (h : w ∈ Txt.split x y) : w.length ≤ x.length := by
  have : tl w ∈ (Txt.split x y).map tl := List.mem_map.mpr ⟨w, h, rfl⟩
  rw [split1 hy hs] at this
  have := spl1_len s _ _ _ this
  rw [len_tl, len_tl]
  simpa using this
end Di
end
section
set_option Elab.async false
set_option linter.all false
set_option maxRecDepth 100000
set_option maxHeartbeats 4000000
/-! Di.Ew: more of the language's answers; loops, comprehensions; budgets of draws. -/
namespace Di
open PySem TL L2
section
variable {P : Prg} {cf : Nat → List Val → M D} {ca : Nat → List Val → List Val → M D} {ρ : Env} {fuel : Nat} {α β γ : Type}
theorem compL_mapL {f : Val → M (Option D)} {h : α → Val} {g : α → D} : ∀ (l : List α), (∀ x ∈ l, f (h x) = ret1 (some (g x))) → compL f (l.map h) = ret1 (l.map g)
  | [], _ => rfl
  | x :: r, H => by
    show (M.bind (f (h x)) fun y => M.bind (compL f (r.map h)) fun ys => match y with
      | some d => fun m => .ok (d :: ys) m
      | none => fun m => .ok ys m) = _
    rw [H x (by simp), ev_bind_ret, compL_mapL r fun y hy => H y (by simp [hy]), ev_bind_ret]
    rfl
theorem compL_mapO {f : Val → M (Option D)} {h : α → Val} {g : α → Option D} : ∀ (l : List α), (∀ x ∈ l, f (h x) = ret1 (g x)) → compL f (l.map h) = ret1 (l.filterMap g)
  | [], _ => rfl
  | x :: r, H => by
    show (M.bind (f (h x)) fun y => M.bind (compL f (r.map h)) fun ys => match y with
      | some d => fun m => .ok (d :: ys) m
      | none => fun m => .ok ys m) = _
    rw [H x (by simp), ev_bind_ret, compL_mapO r fun y hy => H y (by simp [hy]), ev_bind_ret, List.filterMap_cons]
    cases g x <;> rfl
@[simp] theorem put_eq {i : Nat} {x : Sl} : put P i x ρ = (ρ.set i x).map (killS P i) := (rfl)
@[simp] theorem locO_eq {i : Nat} : locO ρ i = match ρ[i]? with
  | some (.sh d) => some (.v d)
  | some (.ow _) => some (.o i)
  | some (.ro _) => some (.o i)
  | _ => none := (rfl)
@[simp] theorem rep_eq {n : Nat} {x : Sl} : List.replicate (n + 1) x = x :: List.replicate n x := (rfl)
@[simp] theorem stg_t {ts : List Tg} {xs : List D} : setTg P (.t ts) (.d (.tup xs)) ρ = setTgs P ts xs ρ := by simp [setTg]
@[simp] theorem stg_n : setTgs P [] [] ρ = some ρ := by simp [setTgs]
@[simp] theorem stg_c {t : Tg} {ts : List Tg} {x : D} {xs : List D} : setTgs P (t :: ts) (x :: xs) ρ = (setTg P t (.d x) ρ).bind (setTgs P ts xs) := by
  simp only [setTgs]
  cases setTg P t (.d x) ρ <;> rfl
@[simp] theorem slc_lst {l h : Option Int} {xs : List D} : slcD l h (.lst xs) = some (.lst (cutL xs l h)) := (rfl)
@[simp] theorem slc_tup {l h : Option Int} {xs : List D} : slcD l h (.tup xs) = some (.tup (cutL xs l h)) := (rfl)
theorem lf_tupD {a b : D} : tupO [.v (.d a), .v (.d b)] = some (.v (.d (.tup [a, b]))) := lf_tup (ds := [a, b]) rfl rfl (show 2 ≤ sizeLine by decide)
@[simp] theorem lf_cmpo {o : Cmp} {a : D} {i : Nat} : cmpB ρ o (.v (.d a)) (.o i) = match ρ[i]? with
  | some (.ow (.d b)) => cmpD o a b
  | some (.ro (.d b)) => cmpD o a b
  | _ => none := by
  simp only [cmpB, OV.d, OV.r]
  rcases ρ[i]? with _ | (_ | ⟨_ | _ | _⟩ | ⟨_ | _ | _⟩ | ⟨_ | _ | _⟩) <;> rfl
@[simp] theorem lf_idxo {b : D} {i : Nat} : idxO ρ (.o i) (.v (.d b)) = match ρ[i]? with
  | some (.ow (.d a)) => (idxD a b).map fun d => .v (.d d)
  | some (.ro (.d a)) => (idxD a b).map fun d => .v (.d d)
  | _ => none := by
  simp only [idxO, OV.d, OV.r]
  rcases ρ[i]? with _ | (_ | ⟨_ | _ | _⟩ | ⟨a | _ | _⟩ | ⟨a | _ | _⟩) <;> try rfl
  · simp only; cases idxD a b <;> rfl
  · simp only; cases idxD a b <;> rfl
@[simp] theorem lf_bio {b : Bi} {i : Nat} : biO ρ b [.o i] = match ρ[i]? with
  | some (.ow (.d a)) => (Di.bi b [a]).map fun d => .v (.d d)
  | some (.ro (.d a)) => (Di.bi b [a]).map fun d => .v (.d d)
  | _ => none := by
  simp only [biO, derefs, OV.d, OV.r]
  rcases ρ[i]? with _ | (_ | ⟨_ | _ | _⟩ | ⟨a | _ | _⟩ | ⟨a | _ | _⟩) <;> try rfl
  · simp only; cases Di.bi b [a] <;> rfl
  · simp only; cases Di.bi b [a] <;> rfl
@[simp] theorem lf_notin {x y : D} : cmpD .notin x y = (isinD x y).map (!·) := by
  simp only [cmpD]
  cases isinD x y <;> rfl
theorem goodL_strs (n : Nat) : ∀ l : List Str, goodL n (l.map D.str) = true
  | [] => rfl
  | x :: r => by
    simp only [List.map_cons, goodL, goodL_strs n r, good, Bool.and_self]
theorem isin_strs (w : Str) (l : List Str) : isinD (.str w) (.lst (l.map D.str)) = some (decide (w ∈ l)) := by
  simp only [isinD, good, goodL_strs, Bool.and_self, if_true]
  congr 1
  rw [List.any_map]
  induction l with
  | nil => rfl
  | cons x r ih =>
    rw [List.any_cons, ih]
    simp only [Function.comp, D.py, PyData.eqv, List.mem_cons]
    by_cases h : w = x
    · subst h
      simp
    · have : ¬ x = w := fun e => h e.symm
      simp [h, this]
theorem lf_lst0 : lstO [] = some (.v (.d (.lst []))) := lf_lst (ds := []) rfl rfl (Nat.zero_le _)
theorem lf_lst1 {a : D} : lstO [.v (.d a)] = some (.v (.d (.lst [a]))) := lf_lst (ds := [a]) rfl rfl (show 1 ≤ sizeLine by decide)
theorem lf_lst2 {a b : D} : lstO [.v (.d a), .v (.d b)] = some (.v (.d (.lst [a, b]))) := lf_lst (ds := [a, b]) rfl rfl (show 2 ≤ sizeLine by decide)
theorem lf_lst3 {a b c : D} : lstO [.v (.d a), .v (.d b), .v (.d c)] = some (.v (.d (.lst [a, b, c]))) := lf_lst (ds := [a, b, c]) rfl rfl (show 3 ≤ sizeLine by decide)
/-- how a loop goes on -/
def forK (f : Val → Env → M Fl) (r : List Val) (fl : Fl) : M Fl := match fl with
  | .nx ρ1 => forL f r ρ1
  | .ct ρ1 => forL f r ρ1
  | .bk ρ1 => ret1 (.nx ρ1)
  | .rt d => ret1 (.rt d)
theorem forL_nil {f : Val → Env → M Fl} : forL f [] ρ = ret1 (.nx ρ) := (rfl)
theorem forL_cons {f : Val → Env → M Fl} {x : Val} {r : List Val} : forL f (x :: r) ρ = M.bind (f x ρ) (forK f r) := by
  show (M.bind (f x ρ) fun fl => match fl with
    | .nx ρ1 => forL f r ρ1
    | .ct ρ1 => forL f r ρ1
    | .bk ρ1 => fun m => .ok (.nx ρ1) m
    | .rt d => fun m => .ok (.rt d) m) = _
  congr 1
@[simp] theorem fk_nx {f : Val → Env → M Fl} {r : List Val} : forK f r (.nx ρ) = forL f r ρ := (rfl)
@[simp] theorem fk_ct {f : Val → Env → M Fl} {r : List Val} : forK f r (.ct ρ) = forL f r ρ := (rfl)
@[simp] theorem fk_bk {f : Val → Env → M Fl} {r : List Val} : forK f r (.bk ρ) = ret1 (.nx ρ) := (rfl)
@[simp] theorem fk_rt {f : Val → Env → M Fl} {r : List Val} {d : D} : forK f r (.rt d) = ret1 (.rt d) := (rfl)
/-- what a def's body gives back -/
def outR (fl : Fl) : M D := match fl with
  | .rt d => ret1 d
  | .nx _ => ret1 .non
  | _ => bad
@[simp] theorem out_rt {d : D} : outR (.rt d) = ret1 d := (rfl)
@[simp] theorem out_nx : outR (.nx ρ) = ret1 .non := (rfl)
/-- a def's call -/
theorem callF_at {n f np ns : Nat} {body : List ST} {ds : List Val} (hf : P.fns[f]? = some (.df np ns body)) (h : ds.length = np) (h2 : np ≤ ns) :
    callF P fuel (n + 1) f ds = M.bind (execs P (callF P fuel n) (callG P fuel n) fuel body (ds.map Sl.sh ++ List.replicate (ns - np) Sl.no)) outR := by
  show callD P fuel (callF P fuel n) (callG P fuel n) f ds = _
  unfold callD
  rw [hf]
  dsimp only
  rw [if_pos ⟨h, h2⟩]
  congr 1
/-- a lambda's call -/
theorem callG_at {n k : Nat} {l : LamI} {c as : List Val} (hk : P.lams[k]? = some l) (h : as.length ≤ l.np ∧ l.np - as.length ≤ l.dfl.length) :
    callG P fuel (n + 1) k c as = datE P (callF P fuel n) (callG P fuel n) l.body ((as ++ (l.dfl.drop (l.dfl.length - (l.np - as.length))).map Val.d ++ c).map Sl.sh ++ List.replicate (l.ns - l.np - c.length) Sl.no) := by
  show callL P (callF P fuel n) (callG P fuel n) k c as = _
  unfold callL
  rw [hk]
  dsimp only
  rw [if_pos h]
/-- an exception -/
def exM {α : Type} (c : Nat) (d : Option D) : M α := fun m => .ex c d m
@[simp] theorem ev_bind_ex {c : Nat} {d : Option D} {f : α → M β} : M.bind (exM c d) f = exM c d := (rfl)
@[simp] theorem ex_rse' {c : Nat} {e : IR} : exec P cf ca fuel (.rse c (some e)) ρ = M.bind (datE P cf ca e ρ) fun d => exM c (some d) := (rfl)
@[simp] theorem lf_isin {x y : D} : cmpD .isin x y = isinD x y := (rfl)
/-- a text's signs -/
def sg (z : Str) : List Nat := tl z
@[simp] theorem lf_isinS {c : Nat} {z : Str} : isinD (.str ⟨#[c]⟩) (.str z) = some (decide (c ∈ sg z)) := (rfl)
@[simp] theorem lf_seqSg {z : Str} : seqD (.str z) = some ((sg z).map fun c => .str ⟨#[c]⟩) := (rfl)
@[simp] theorem ix_l0 {a : D} {r : List D} : idxD (.lst (a :: r)) (.int 0) = some a := by simp [idxD, L2.atI, L2.ixN]
@[simp] theorem ix_t0 {a : D} {r : List D} : idxD (.tup (a :: r)) (.int 0) = some a := by simp [idxD, L2.atI, L2.ixN]
@[simp] theorem ix_l1 {a b : D} {r : List D} : idxD (.lst (a :: b :: r)) (.int 1) = some b := by
  have h : (1 : Int) < r.length + 1 + 1 := by omega
  simp [idxD, L2.atI, L2.ixN, h]
@[simp] theorem ix_t1 {a b : D} {r : List D} : idxD (.tup (a :: b :: r)) (.int 1) = some b := by
  have h : (1 : Int) < r.length + 1 + 1 := by omega
  simp [idxD, L2.atI, L2.ixN, h]
theorem sg_len (z : Str) : z.length = (sg z).length := len_tl z
theorem sg_ext {x y : Str} (h : sg x = sg y) : x = y := ext_tl h
theorem sg_of (s : String) : sg (Str.ofString s) = s.toList.map Char.toNat := tl_ofString s
theorem idxD_S0 {z : Str} {c : Nat} {r : List Nat} (h : sg z = c :: r) (hl : z.length ≤ sizeLine) : idxD (.str z) (.int 0) = some (.str ⟨#[c]⟩) := by
  simp only [idxD]
  rw [if_pos hl]
  have h : z.cps.toList = c :: r := h
  rw [h]
  simp [L2.atI, L2.ixN]
@[simp] theorem b_isT2 {xs : List D} : bi (.isinst 2) [.tup xs] = some (.bl true) := (rfl)
@[simp] theorem b_isT3 {z : Str} : bi (.isinst 3) [.str z] = some (.bl true) := (rfl)
@[simp] theorem b_isI {i : Int} : bi (.isinst 0) [.int i] = some (.bl true) := (rfl)
@[simp] theorem b_isB {i : Int} : bi (.isinst 1) [.int i] = some (.bl false) := (rfl)
end
end Di
end
section
set_option Elab.async false
set_option linter.all false
set_option maxRecDepth 100000
set_option maxHeartbeats 4000000
/-! Di.Lk: a datum is like itself; how long it shows. -/
namespace Di
open PySem TL
mutual
/-- numbers of at most 18 digits, signs that are signs -/
def chOk : D → Bool
  | .non => true
  | .bl _ => true
  | .int i => decide (i.natAbs < 10 ^ 18)
  | .str s => (sg s).all fun c => decide (c < 16 ^ 8)
  | .lst xs => chL xs
  | .tup xs => chL xs
  | _ => false
def chL : List D → Bool
  | [] => true
  | x :: r => chOk x && chL r
end
mutual
/-- a bound for how long a datum shows -/
def wt : D → Nat
  | .int _ => 20
  | .str s => 10 * (sg s).length + 2
  | .lst xs => wtL xs + 3
  | .tup xs => wtL xs + 3
  | _ => 6
def wtL : List D → Nat
  | [] => 0
  | x :: r => wt x + 2 + wtL r
end
theorem str_len_of (s : String) : (Str.ofString s).length = s.toList.length := by
  rw [sg_len, sg_of, List.length_map]
theorem int_len (i : Int) (h : i.natAbs < 10 ^ 18) : (Str.ofString (toString i)).length ≤ 20 := by
  cases i with
  | ofNat n =>
    rw [sg_len]
    show (tl (Str.ofString (toString ((n : Nat) : Int)))).length ≤ 20
    rw [tl_num]
    have := numL_len (n := n) (k := 18) (by decide) (by simpa using h)
    omega
  | negSucc n =>
    have e : toString (Int.negSucc n) = "-" ++ toString (((n + 1 : Nat)) : Int) := rfl
    rw [e, str_len_of, String.toList_append, List.length_append]
    have e2 : (toString (((n + 1 : Nat)) : Int)).toList.length = (numL (n + 1)).length := by
      rw [← tl_num, tl_ofString, List.length_map]
    rw [e2]
    have := numL_len (n := n + 1) (k := 18) (by decide) (by
      have : (Int.negSucc n).natAbs = n + 1 := rfl
      omega)
    have e3 : ("-" : String).toList.length = 1 := by decide
    omega
mutual
theorem ch_show : ∀ (d : D), chOk d = true → PyData.showable d.py = true ∧ (PyData.shown d.py).length ≤ wt d ∧ W.alike d.py d.py = true
  | .non, _ => ⟨rfl, by show (Str.ofString "None").length ≤ 6; rw [str_len_of]; decide, by simp [D.py, W.alike]⟩
  | .bl b, _ => ⟨rfl, by cases b <;> (show (Str.ofString _).length ≤ 6; rw [str_len_of]; decide), by simp [D.py, W.alike]⟩
  | .int i, h => by
    have h : i.natAbs < 10 ^ 18 := by simpa [chOk] using h
    refine ⟨?_, int_len i h, by simp [D.py, W.alike]⟩
    simp only [D.py, PyData.showable, decide_eq_true_eq]
    by_cases h0 : i.natAbs = 0
    · rw [h0]; decide
    · have := (Nat.log2_lt h0).mpr (show i.natAbs < 2 ^ 60 by omega)
      omega
  | .str s, h => by
    refine ⟨rfl, ?_, by simp [D.py, W.alike]⟩
    have h : ∀ c ∈ s.cps.toList, c < 16 ^ 8 := by
      have h : ∀ c ∈ sg s, c < 16 ^ 8 := by simpa [chOk, List.all_eq_true] using h
      exact h
    have := StrLaws.reprText_len s h
    show (reprText s).length ≤ 10 * (sg s).length + 2
    rw [← sg_len]
    exact this
  | .lst xs, h => by
    obtain ⟨h1, h2, h3, h4⟩ := chL_show xs (by simpa [chOk] using h)
    refine ⟨by simpa [D.py, PyData.showable] using h1, ?_, by simpa [D.py, W.alike] using h3⟩
    show (listText (PyData.shownAll (pyL xs))).length ≤ wtL xs + 3
    have := listText_len_le (PyData.shownAll (pyL xs))
    omega
  | .tup xs, h => by
    obtain ⟨h1, h2, h3, h4⟩ := chL_show xs (by simpa [chOk] using h)
    refine ⟨by simpa [D.py, PyData.showable] using h1, ?_, by simpa [D.py, W.alike] using h3⟩
    show (tupleText (PyData.shownAll (pyL xs))).length ≤ wtL xs + 3
    have := tupleText_len_le (PyData.shownAll (pyL xs))
    omega
  | .dct _ _, h => absurd h (by simp [chOk])
  | .st _, h => absurd h (by simp [chOk])
  | .scr _, h => absurd h (by simp [chOk])
theorem chL_show : ∀ (l : List D), chL l = true → PyData.showableAll (pyL l) = true ∧ ((PyData.shownAll (pyL l)).map (·.length)).sum + 2 * (PyData.shownAll (pyL l)).length ≤ wtL l ∧ W.alikeAll (pyL l) (pyL l) = true ∧ True
  | [], _ => ⟨rfl, by simp [pyL, PyData.shownAll, wtL], by simp [pyL, W.alikeAll], trivial⟩
  | x :: r, h => by
    simp only [chL, Bool.and_eq_true] at h
    obtain ⟨a1, a2, a3⟩ := ch_show x h.1
    obtain ⟨b1, b2, b3, _⟩ := chL_show r h.2
    refine ⟨by simp [pyL, PyData.showableAll, a1, b1], ?_, by simp [pyL, W.alikeAll, a3, b3], trivial⟩
    simp only [pyL, PyData.shownAll, List.map_cons, List.sum_cons, List.length_cons, wtL]
    omega
end
theorem eqD_self {d : D} (hg : good 60 d = true) (hc : chOk d = true) : eqD d d = some true := by
  simp only [eqD, hg, Bool.and_self, if_true]
  rw [W.eqv_refl_alike _ (ch_show d hc).2.2]
theorem reprD_self {d : D} (hg : good 60 d = true) (hc : chOk d = true) (hw : wt d ≤ sizeLine) : ∃ z, reprD d = some (.str z) := by
  obtain ⟨h1, h2, _⟩ := ch_show d hc
  have : decide ((PyData.shown d.py).length ≤ sizeLine) = true := by simpa using Nat.le_trans h2 hw
  exact ⟨PyData.shown d.py, by simp only [reprD, hg, h1, this, Bool.and_self, if_true]⟩
end Di
end
section
set_option Elab.async false
set_option linter.all false
set_option maxRecDepth 100000
set_option maxHeartbeats 4000000
/-! Di.Dr: draws: what comes of a computation that draws. -/
namespace Di
open PySem TL
section
variable {α β γ : Type}
/-- the draws' state is whole -/
def Gd (id : Nat) (m : MS) : Prop := m.id = id ∧ 0 < id ∧ m.cells ≠ [] ∧ 0 ≤ m.spot
/-- at most k draws, and what comes is Q -/
def T (id : Nat) (k : Nat) (c : M α) (Q : α → Prop) : Prop := ∀ m, Gd id m → m.spot + k ≤ 2 ^ 40 → ∃ a m', c m = .ok a m' ∧ Gd id m' ∧ m'.spot ≤ m.spot + k ∧ Q a
variable {id k k1 k2 : Nat} {Q R : α → Prop} {c : M α}
theorem T_ret {a : α} (h : Q a) : T id k (ret1 a) Q := fun m hm hk => ⟨a, m, rfl, hm, by omega, h⟩
theorem T_bind {f : α → M β} {Q : β → Prop} (h1 : T id k1 c R) (h2 : ∀ a, R a → T id k2 (f a) Q) : T id (k1 + k2) (M.bind c f) Q := by
  intro m hm hk
  obtain ⟨a, m1, e1, g1, s1, r1⟩ := h1 m hm (by omega)
  obtain ⟨b, m2, e2, g2, s2, r2⟩ := h2 a r1 m1 g1 (by omega)
  refine ⟨b, m2, ?_, g2, by omega, r2⟩
  show (match c m with
    | .ok a m' => f a m'
    | .ex c p m' => .ex c p m'
    | .bad => .bad) = _
  rw [e1]
  exact e2
theorem T_mono (h : T id k1 c R) (hk : k1 ≤ k2) (hq : ∀ a, R a → Q a) : T id k2 c Q := by
  intro m hm hk2
  obtain ⟨a, m1, e1, g1, s1, r1⟩ := h m hm (by omega)
  exact ⟨a, m1, e1, g1, by omega, hq a r1⟩
theorem T_noEx (h : T id k c Q) : T id k (noEx c) Q := by
  intro m hm hk
  obtain ⟨a, m1, e1, g1, s1, r1⟩ := h m hm hk
  refine ⟨a, m1, ?_, g1, s1, r1⟩
  show (match c m with
    | .ok a m' => .ok a m'
    | _ => .bad : Out α) = _
  rw [e1]
/-- a loop that draws: at most k draws a turn -/
theorem T_for {f : Val → Env → M Fl} {I : List Val → Env → Prop} (h : ∀ x r ρ, I (x :: r) ρ → T id k (f x ρ) fun fl => ∃ ρ', fl = .nx ρ' ∧ I r ρ') :
    ∀ (l : List Val) (ρ : Env), I l ρ → T id (l.length * k) (forL f l ρ) fun fl => ∃ ρ', fl = .nx ρ' ∧ I [] ρ'
  | [], ρ, hi => by
    rw [forL_nil]
    exact T_ret ⟨ρ, rfl, hi⟩
  | x :: r, ρ, hi => by
    rw [forL_cons]
    refine T_mono (T_bind (h x r ρ hi) (k2 := r.length * k) (Q := fun fl => ∃ ρ', fl = .nx ρ' ∧ I [] ρ') fun fl hfl => ?_) (by rw [List.length_cons, Nat.succ_mul]; omega) fun a h => h
    obtain ⟨ρ', rfl, hi'⟩ := hfl
    rw [fk_nx]
    exact T_for h r ρ' hi'
/-- a comprehension that draws -/
theorem T_comp {f : Val → M (Option D)} {p : D → Prop} : ∀ (l : List Val), (∀ x ∈ l, T id k (f x) fun o => ∃ d, o = some d ∧ p d) → T id (l.length * k) (compL f l) fun ds => ds.length = l.length ∧ ∀ d ∈ ds, p d
  | [], _ => T_ret (by simp)
  | x :: r, h => by
    refine T_mono (T_bind (h x (by simp)) (k2 := r.length * k) (Q := fun ds => ds.length = (x :: r).length ∧ ∀ d ∈ ds, p d) fun o ho => ?_) (by rw [List.length_cons, Nat.succ_mul]; omega) fun a h => h
    obtain ⟨d, rfl, hd⟩ := ho
    refine T_mono (T_bind (T_comp r fun y hy => h y (by simp [hy])) (k2 := 0) (Q := fun ds => ds.length = (x :: r).length ∧ ∀ d ∈ ds, p d) fun ds hds => T_ret ⟨by simp [hds.1], ?_⟩) (by omega) fun a h => h
    intro z hz
    rcases List.mem_cons.mp hz with rfl | hz
    · exact hd
    · exact hds.2 z hz
/-! states -/
@[simp] theorem ret_at {a : α} {m : MS} : ret1 a m = .ok a m := (rfl)
@[simp] theorem bad_at {m : MS} : (bad : M α) m = .bad := (rfl)
/-- and then -/
def thenO (o : Out α) (f : α → M β) : Out β := match o with
  | .ok a m' => f a m'
  | .ex c p m' => .ex c p m'
  | .bad => .bad
theorem bind_at {f : α → M β} {m : MS} : M.bind c f m = thenO (c m) f := (rfl)
@[simp] theorem then_ok {a : α} {f : α → M β} {m : MS} : thenO (.ok a m) f = f a m := (rfl)
@[simp] theorem if_at {p : Prop} [Decidable p] {a b : M α} {m : MS} : (if p then a else b) m = if p then a m else b m := by split <;> rfl
theorem mul_l {i j : Int} (h : i.natAbs < 2 ^ 64) : op2 .mul (.int i) (.int j) = some (.int (i * j)) := o_mul (by simp only [mulOk, h, decide_true, Bool.true_or])
theorem mul_r {i j : Int} (h : j.natAbs < 2 ^ 64) : op2 .mul (.int i) (.int j) = some (.int (i * j)) := o_mul (by simp only [mulOk, h, decide_true, Bool.true_or, Bool.or_true])
theorem fmod_rng {a b : Int} (h : 0 < b) : 0 ≤ a.fmod b ∧ a.fmod b < b := ⟨Int.fmod_nonneg_of_pos a h, Int.fmod_lt_of_pos a h⟩
theorem atI_some {xs : List Int} {i : Int} (h : 0 ≤ i) (h2 : i < xs.length) : ∃ v, idxD (.lst (xs.map D.int)) (.int i) = some (.int v) := by
  obtain ⟨n, rfl⟩ : ∃ n : Nat, i = n := ⟨i.toNat, by omega⟩
  have hn : n < xs.length := by omega
  refine ⟨xs[n], ?_⟩
  simp only [idxD, L2.atI, L2.ixN, List.length_map]
  rw [if_pos h, if_pos h2]
  simp [hn]
end
end Di
end
section
set_option Elab.async false
set_option linter.all false
set_option maxRecDepth 100000
set_option maxHeartbeats 4000000
/-! Di.Lw: what all laws share: the draws, `_law_of`, `_law_like`, `_law_shuffled`. -/
namespace Di
open PySem TL
def bBegun : List ST :=
  [.asg (.n 2) (.op .add (.slc (.loc 0) (some (.loc 1)) none) (.slc (.loc 0) none (some (.loc 1)))),
    .asg (.n 3) (.comp [4] (.n 4) .seq [(.loc 2)] [(.cmp .ge (.loc 4) (.op .pow (.k (.int 10)) (.k (.int 18))))] (.loc 4)),
    .asg (.n 5) (.op .add (.k (.int 91)) (.loc 1)),
    .for (.n 4) .seq [(.loc 2)]
      [.asg (.n 5) (.op .mod (.bi .int [(.op .add (.op .mul (.loc 5) (.k (.int 48271))) (.loc 4))]) (.k (.int 2147483647)))],
    .mnew (.ite (.cmp .ne (.loc 3) (.lst [])) (.idx (.loc 3) (.k (.int 0))) (.k (.int 0))) (.loc 5) (.op .add (.loc 2) (.lst [(.op .add (.op .mul (.k (.int 61)) (.loc 1)) (.k (.int 17)))])) (.k (.int 0))]
def bDraw : List ST :=
  [.ifs (.cmp .gt (.mget 0 0) (.k (.int 0)))
      [.asg (.n 2) (.op .mod (.bi .int [(.mget 0 0)]) (.loc 1)),
      .mset 0 0 (.op .fdiv (.mget 0 0) (.loc 1)),
      .ret (.loc 2)]
      [],
    .asg (.n 3) (.mget 0 3),
    .mset 0 3 (.op .add (.loc 3) (.k (.int 1))),
    .par [(4, false), (5, false)] [(.mget 0 2), (.op .add (.mget 0 1) (.op .mul (.op .mul (.k (.int 40503)) (.loc 3)) (.loc 3)))],
    .asg (.n 6) (.idx (.loc 4) (.op .mod (.bi .int [(.loc 3)]) (.bi .len [(.loc 4)]))),
    .asg (.n 7) (.op .mod (.bi .int [(.op .add (.op .mul (.loc 6) (.op .add (.op .mul (.k (.int 2)) (.loc 3)) (.k (.int 3)))) (.loc 5))]) (.k (.int 2147483647))),
    .asg (.n 7) (.op .mod (.bi .int [(.op .add (.op .add (.op .mul (.loc 7) (.loc 7)) (.op .mul (.k (.int 69621)) (.loc 3))) (.mget 0 1))]) (.k (.int 2147483629))),
    .ret (.op .mod (.op .fdiv (.op .mod (.bi .int [(.op .add (.op .mul (.loc 7) (.k (.int 48271))) (.loc 3))]) (.k (.int 2147483647))) (.k (.int 11))) (.loc 1))]
def bOf (d : Nat) : List ST :=
  [.ret (.idx (.loc 1) (.call d [(.loc 0), (.bi .len [(.loc 1)])]))]
def bLike : List ST :=
  [.ret (.iand (.cmp .eq (.loc 0) (.loc 1)) (.cmp .eq (.bi .repr [(.loc 0)]) (.bi .repr [(.loc 1)])))]
def bShuf (d : Nat) : List ST :=
  [.par [(2, false), (3, true)] [(.bi .lrange [(.loc 1)]), (.lst [])],
    .for (.n 4) .range [(.loc 1)]
      [.asg (.n 5) (.call d [(.loc 0), (.loc 2)]),
      .asg (.n 2) (.comp [6] (.n 6) .seq [(.loc 2)] [(.cmp .ne (.loc 6) (.loc 5))] (.loc 6)),
      .push 3 (.loc 5)],
    .ret (.bi .tuple [(.loc 3)])]
theorem draw_ok {P : Prg} {f : Nat} (hf : P.fns[f]? = some (.df 2 8 bDraw)) (n fuel id : Nat) (span : Nat) (h0 : 0 < span) (h1 : span < 1073741824) : T id 1 (callF P fuel (n + 1) f [.d (.st id), .d (.int span)]) fun d => ∃ v : Nat, d = .int v ∧ v < span := by
  intro m ⟨g1, g2, g3, g4⟩ hk
  rw [callF_at hf rfl (by decide)]
  have hs0 : ¬ ((span : Int) = 0) := by omega
  by_cases hl : 0 < m.left
  · have hr := fmod_rng (a := m.left) (b := span) (by omega)
    have hfd := o_fdiv (i := m.left) (j := span) hs0 (by omega)
    have hm := o_mod (i := m.left) (j := span) hs0
    simp [bDraw, bind_at, mgetM, mgetO, msetM, msetO, g1, g2, hl, hfd, hm]
    refine ⟨_, _, ⟨rfl, rfl⟩, ⟨rfl, g2, g3, g4⟩, by simp; omega, (m.left.fmod span).toNat, ?_, by omega⟩
    rw [Int.toNat_of_nonneg hr.1]
  · have hlen : ¬ ((m.cells.length : Int) = 0) := by
      intro h
      exact g3 (List.length_eq_zero_iff.mp (by omega))
    have hlp : 0 < (m.cells.length : Int) := by omega
    have hi := fmod_rng (a := m.spot) hlp
    obtain ⟨cell, hcell⟩ := atI_some (xs := m.cells) hi.1 hi.2
    have hsp : m.spot.natAbs < 2 ^ 64 := by omega
    have e0 := o_mod (i := m.spot) (j := m.cells.length) hlen
    have e1 := mul_l (i := 40503) (j := m.spot) (by decide)
    have e2 := mul_r (i := 40503 * m.spot) (j := m.spot) hsp
    have e3 := mul_l (i := 2) (j := m.spot) (by decide)
    have e4 := mul_r (i := cell) (j := 2 * m.spot + 3) (by omega)
    have e5 := o_mod (i := cell * (2 * m.spot + 3) + (m.seed + 40503 * m.spot * m.spot)) (j := 2147483647) (by decide)
    have h5 := fmod_rng (a := cell * (2 * m.spot + 3) + (m.seed + 40503 * m.spot * m.spot)) (b := 2147483647) (by decide)
    generalize (cell * (2 * m.spot + 3) + (m.seed + 40503 * m.spot * m.spot)).fmod 2147483647 = b1 at e5 h5
    have e6 := mul_l (i := b1) (j := b1) (by omega)
    have e7 := mul_l (i := 69621) (j := m.spot) (by decide)
    have e8 := o_mod (i := b1 * b1 + 69621 * m.spot + m.seed) (j := 2147483629) (by decide)
    have h8 := fmod_rng (a := b1 * b1 + 69621 * m.spot + m.seed) (b := 2147483629) (by decide)
    generalize (b1 * b1 + 69621 * m.spot + m.seed).fmod 2147483629 = b2 at e8 h8
    have e9 := mul_r (i := b2) (j := 48271) (by decide)
    have e10 := o_mod (i := b2 * 48271 + m.spot) (j := 2147483647) (by decide)
    generalize (b2 * 48271 + m.spot).fmod 2147483647 = b3 at e10
    have e11 := o_fdiv (i := b3) (j := 11) (by decide) (by decide)
    have e12 := o_mod (i := b3.fdiv 11) (j := span) hs0
    have h12 := fmod_rng (a := b3.fdiv 11) (b := span) (by omega)
    generalize (b3.fdiv 11).fmod span = b4 at e12 h12
    simp [bDraw, bind_at, mgetM, mgetO, msetM, msetO, g1, g2, hl, e0, e1, e2, e3, e4, e5, e6, e7, e8, e9, e10, e11, e12, hcell]
    refine ⟨_, _, ⟨rfl, rfl⟩, ⟨rfl, g2, g3, by simp; omega⟩, by simp, b4.toNat, ?_, by omega⟩
    rw [Int.toNat_of_nonneg h12.1]


theorem vals_len : ∀ {xs : List OV} {vs : List Val}, vals xs = some vs → vs.length = xs.length
  | [], _, h => by cases h; rfl
  | .v x :: r, vs, h => by
    simp only [vals] at h
    cases e : vals r with
    | none => rw [e] at h; cases h
    | some ws =>
      rw [e] at h
      cases h
      simp [vals_len e]
  | .o i :: r, vs, h => by cases h
theorem datas_len : ∀ {xs : List Val} {vs : List D}, datas xs = some vs → vs.length = xs.length
  | [], _, h => by cases h; rfl
  | .d x :: r, vs, h => by
    simp only [datas] at h
    cases e : datas r with
    | none => rw [e] at h; cases h
    | some ws =>
      rw [e] at h
      cases h
      simp [datas_len e]
  | .c _ _ :: r, vs, h => by cases h
  | .l _ :: r, vs, h => by cases h
theorem tupO_eq {xs : List OV} (h : xs.length ≤ 1000) : tupO xs = ((vals xs).bind datas).map fun ds => .v (.d (.tup ds)) := by
  have hs : sizeLine = 16777216 := rfl
  unfold tupO
  cases e : vals xs with
  | none => rfl
  | some vs =>
    dsimp only [Option.bind]
    cases e2 : datas vs with
    | none => rfl
    | some ds =>
      have h1 := vals_len e
      have h2 := datas_len e2
      dsimp only
      rw [if_pos (by omega)]
      rfl
theorem lstO_eq {xs : List OV} (h : xs.length ≤ 1000) (hd : ((vals xs).bind datas).isSome = true) : lstO xs = ((vals xs).bind datas).map fun ds => .v (.d (.lst ds)) := by
  have hs : sizeLine = 16777216 := rfl
  cases e : vals xs with
  | none => rw [e] at hd; cases hd
  | some vs =>
    rw [e] at hd
    dsimp only [Option.bind] at hd ⊢
    cases e2 : datas vs with
    | none => rw [e2] at hd; cases hd
    | some ds =>
      have h1 := vals_len e
      have h2 := datas_len e2
      exact lf_lst e e2 (by omega)
theorem of_ok {P : Prg} {f d : Nat} (hf : P.fns[f]? = some (.df 2 2 (bOf d))) (hd : P.fns[d]? = some (.df 2 8 bDraw)) (n fuel id : Nat) (xs : List D) (h0 : xs ≠ []) (h1 : xs.length < 1073741824) :
    T id 1 (callF P fuel (n + 2) f [.d (.st id), .d (.lst xs)]) fun d => d ∈ xs := by
  rw [callF_at hf rfl (by decide)]
  have hp : 0 < xs.length := List.length_pos_iff.mpr h0
  have h := draw_ok hd n fuel id xs.length hp h1
  simp [bOf]
  refine T_mono (T_bind h (k2 := 0) fun a ha => ?_) (by omega) fun a h => h
  obtain ⟨v, rfl, hv⟩ := ha
  have e : idxD (.lst xs) (.int v) = some xs[v] := by
    simp only [idxD, L2.atI, L2.ixN]
    rw [if_pos (by omega), if_pos (by omega)]
    simp [hv]
  simp [e]
  exact T_ret (List.getElem_mem _)
theorem like_ok {P : Prg} {f : Nat} (hf : P.fns[f]? = some (.df 2 2 bLike)) (n fuel : Nat) (d : D) (hg : good 60 d = true) (hc : chOk d = true) (hw : wt d ≤ sizeLine) : callF P fuel (n + 1) f [.d d, .d d] = ret1 (.bl true) := by
  rw [callF_at hf rfl (by decide)]
  obtain ⟨z, hz⟩ := reprD_self hg hc hw
  have h1 : cmpD .eq d d = some true := by simp only [cmpD]; exact eqD_self hg hc
  have h2 : bi .repr [d] = some (.str z) := by simp only [bi, biRepr]; exact hz
  simp [bLike, h1, h2]
theorem goodL_ints (n : Nat) : ∀ l : List Int, goodL n (l.map D.int) = true
  | [] => rfl
  | x :: r => by simp only [List.map_cons, goodL, goodL_ints n r, good, Bool.and_self]
theorem eq_lnil (l : List D) (h : goodL 59 l = true) : eqD (.lst l) (.lst []) = some l.isEmpty := by
  simp only [eqD, good, h, goodL, Bool.and_self, if_true, D.py]
  cases l <;> simp [pyL, PyData.eqv, PyData.eqvAll]
theorem ints_of : ∀ l : List Int, intsOf (l.map D.int) = some l
  | [] => rfl
  | x :: r => by simp only [List.map_cons, intsOf, ints_of r]
theorem cut_len {α : Type} (xs : List α) (a b : Option Int) : (cutL xs a b).length ≤ xs.length := by
  unfold cutL
  rw [List.length_take, List.length_drop]
  omega
abbrev bSeed : List ST := [.asg (.n 5) (.op .mod (.bi .int [(.op .add (.op .mul (.loc 5) (.k (.int 48271))) (.loc 4))]) (.k (.int 2147483647)))]
theorem seed_loop (P : Prg) (cf : Nat → List Val → M D) (ca : Nat → List Val → List Val → M D) (fuel : Nat) (v0 v1 v2 v3 : Val) (h0 : ∀ i, killS P i (.sh v0) = .sh v0) (h1 : ∀ i, killS P i (.sh v1) = .sh v1) (h2 : ∀ i, killS P i (.sh v2) = .sh v2) (h3 : ∀ i, killS P i (.sh v3) = .sh v3) :
    ∀ (l : List Int) (x4 : Sl) (s : Int), (∀ i, killS P i x4 = x4) → ∃ y4 s', forL (forF P cf ca fuel (.n 4) bSeed) (l.map fun i => Val.d (.int i)) [.sh v0, .sh v1, .sh v2, .sh v3, x4, .sh (.d (.int s))] = ret1 (.nx [.sh v0, .sh v1, .sh v2, .sh v3, y4, .sh (.d (.int s'))]) := by
  intro l
  induction l with
  | nil => intro x4 s _; exact ⟨x4, s, rfl⟩
  | cons c l ih =>
    intro x4 s h4
    rw [List.map_cons, forL_cons]
    have e1 := mul_r (i := s) (j := 48271) (by decide)
    have e2 := o_mod (i := s * 48271 + c) (j := 2147483647) (by decide)
    have hst : forF P cf ca fuel (.n 4) bSeed (.d (.int c)) [.sh v0, .sh v1, .sh v2, .sh v3, x4, .sh (.d (.int s))] = ret1 (.nx [.sh v0, .sh v1, .sh v2, .sh v3, .sh (.d (.int c)), .sh (.d (.int ((s * 48271 + c).fmod 2147483647)))]) := by
      simp [forF, bSeed, h0, h1, h2, h3, h4, e1, e2]
    rw [hst]
    obtain ⟨y4, s', e⟩ := ih (.sh (.d (.int c))) ((s * 48271 + c).fmod 2147483647) (by simp)
    exact ⟨y4, s', by simpa using e⟩
theorem begun_ok {P : Prg} {f : Nat} (hf : P.fns[f]? = some (.df 2 6 bBegun)) (n fuel : Nat) (ns : List Int) (turn : Nat) (hn : ns.length ≤ 1000) (m : MS) (ht : turn < 1000) :
    ∃ m', callF P fuel (n + 1) f [.d (.scr ns), .d (.int turn)] m = .ok (.st (m.id + 1)) m' ∧ Gd (m.id + 1) m' ∧ m'.spot = 0 := by
  rw [callF_at hf rfl (by decide)]
  have hs : sizeLine = 16777216 := rfl
  have l1 := cut_len ns (some (turn : Int)) none
  have l2 := cut_len ns none (some (turn : Int))
  have ea := o_addl (x := (cutL ns (some (turn : Int)) none).map D.int) (y := (cutL ns none (some (turn : Int))).map D.int) (by rw [List.length_map, List.length_map]; omega)
  rw [← List.map_append] at ea
  have hcl : (cutL ns (some (turn : Int)) none ++ cutL ns none (some (turn : Int))).length ≤ 2000 := by rw [List.length_append]; omega
  have ep : op2 .pow (.int 10) (.int 18) = some (.int 1000000000000000000) := by
    simp only [op2]
    rw [if_pos (by decide)]
    rfl
  have e61 := mul_l (i := 61) (j := turn) (by decide)
  have sA : ∀ l h, slcD l h (.scr ns) = some (.lst ((cutL ns l h).map D.int)) := fun _ _ => rfl
  generalize cutL ns (some (turn : Int)) none ++ cutL ns none (some (turn : Int)) = cells at *
  simp [bBegun, sA, ea, -List.map_append]
  rw [compL_mapO cells (h := Val.d ∘ D.int) (g := fun c => if 1000000000000000000 ≤ c then some (D.int c) else none) (fun c _ => by
    by_cases hc : 1000000000000000000 ≤ c
    · simp [compF, mask, ep, hc]
    · simp [compF, mask, ep, hc])]
  have eg : (cells.filterMap fun c => if 1000000000000000000 ≤ c then some (D.int c) else none) = (cells.filter fun c => decide ((1000000000000000000 : Int) ≤ c)).map D.int := by
    clear hcl ea
    induction cells with
    | nil => rfl
    | cons c r ih =>
      rw [List.filterMap_cons, List.filter_cons, ih]
      by_cases hc : (1000000000000000000 : Int) ≤ c
      · simp [hc]
      · simp [hc]
  rw [eg]
  have hgl := List.length_filter_le (fun c => decide ((1000000000000000000 : Int) ≤ c)) cells
  generalize (cells.filter fun c => decide ((1000000000000000000 : Int) ≤ c)) = gr at *
  obtain ⟨y4, s', el⟩ := seed_loop P (callF P fuel n) (callG P fuel n) fuel (.d (.scr ns)) (.d (.int turn)) (.d (.lst (cells.map D.int))) (.d (.lst (gr.map D.int))) (by simp) (by simp) (by simp) (by simp) cells .no (91 + turn) (by simp)
  simp only [bSeed] at el
  have e8 : (Val.d ∘ D.int) = fun i => Val.d (.int i) := rfl
  simp [lf_newL (ys := gr.map D.int) (by rw [List.length_map]; omega)]
  rw [e8, el]
  have en : cmpD .ne (.lst (gr.map D.int)) (.lst []) = some (!gr.isEmpty) := by
    simp only [cmpD, eq_lnil _ (goodL_ints 59 gr)]
    cases gr <;> rfl
  have ec := o_addl (x := cells.map D.int) (y := [D.int (61 * turn + 17)]) (by rw [List.length_map]; simp; omega)
  have ei : intsOf (cells.map D.int ++ [D.int (61 * (turn : Int) + 17)]) = some (cells ++ [61 * (turn : Int) + 17]) := by
    have := ints_of (cells ++ [61 * (turn : Int) + 17])
    simpa using this
  cases gr with
  | nil =>
    simp only [List.map_nil, List.map_cons, List.isEmpty] at en
    simp [lf_lst0, lf_lst1, en, ec, e61, bind_at, mnewM, ei]
    exact ⟨rfl, by omega, by simp, by simp⟩
  | cons g gs =>
    simp only [List.map_nil, List.map_cons, List.isEmpty] at en
    simp [lf_lst0, lf_lst1, en, ec, e61, bind_at, mnewM, ei]
    exact ⟨rfl, by omega, by simp, by simp⟩
end Di
end
section
set_option Elab.async false
set_option linter.all false
set_option maxRecDepth 100000
set_option maxHeartbeats 4000000
/-! Di.Sf: `_law_shuffled`. -/
namespace Di
open PySem TL
theorem rng_nat (n : Nat) (h : n < 10000000) : rangeD [.int n] = some ((List.range n).map fun (i : Nat) => D.int i) := by
  have h1 : small (n : Int) = true := by
    exact Nat.ble_eq_true_of_le (by omega)
  simp only [rangeD, h1, if_true, rangeL]
  simp
theorem for_rng {P : Prg} {cf : Nat → List Val → M D} {ca : Nat → List Val → List Val → M D} {fuel : Nat} {tg : Tg} {e : IR} {body : List ST} {ρ : Di.Env} {n : Nat} (h : n < 10000000) (he : evalE P cf ca e ρ = ret1 (.v (.d (.int n)))) :
    exec P cf ca fuel (.for tg .range [e] body) ρ = forL (forF P cf ca fuel tg body) ((List.range n).map fun (i : Nat) => Val.d (.int i)) ρ := by
  rw [ex_for, evs_cons, he, ev_bind_ret, evs_nil, ev_bind_ret, ev_bind_ret, lf_frange1, rng_nat n h, Option.map_some, List.map_map, ev_bind_some]
  rfl
abbrev natL (l : List Nat) : List D := l.map fun (i : Nat) => D.int i
abbrev bSh (d : Nat) : List ST := [.asg (.n 5) (.call d [(.loc 0), (.loc 2)]),
      .asg (.n 2) (.comp [6] (.n 6) .seq [(.loc 2)] [(.cmp .ne (.loc 6) (.loc 5))] (.loc 6)),
      .push 3 (.loc 5)]
def ShI (P : Prg) (id count : Nat) (r : List Val) (ρ : Env) : Prop := ∃ (L F : List Nat) (x4 x5 : Sl), ρ = [.sh (.d (.st id)), .sh (.d (.int count)), .sh (.d (.lst (natL L))), .ow (.d (.lst (natL F))), x4, x5, .no] ∧
  (∀ i, killS P i x4 = x4) ∧ (∀ i, killS P i x5 = x5) ∧ (F ++ L).Nodup ∧ (∀ x ∈ F ++ L, x < count) ∧ F.length + L.length = count ∧ L.length = r.length ∧ ∀ x ∈ r, ∃ d, x = .d d
theorem mem_natL {d : D} {l : List Nat} (h : d ∈ natL l) : ∃ i ∈ l, d = .int i := by
  obtain ⟨i, hi, rfl⟩ := List.mem_map.mp h
  exact ⟨i, hi, rfl⟩
theorem filt_nat (one : Nat) : ∀ l : List Nat, (l.filterMap fun t => if t = one then none else some (D.int (t : Int))) = natL (l.filter (· != one))
  | [] => rfl
  | c :: r => by
    rw [List.filterMap_cons, List.filter_cons, filt_nat one r]
    by_cases hc : c = one
    · simp [hc]
    · simp [hc]
theorem shuf_ok {P : Prg} {f g d : Nat} (hf : P.fns[f]? = some (.df 2 7 (bShuf g))) (hg : P.fns[g]? = some (.df 2 2 (bOf d))) (hd : P.fns[d]? = some (.df 2 8 bDraw)) (n fuel id count : Nat) (hc : count < 100000) :
    T id count (callF P fuel (n + 3) f [.d (.st id), .d (.int count)]) fun x => ∃ l : List Nat, x = .tup (natL l) ∧ l.length = count ∧ l.Nodup ∧ ∀ i ∈ l, i < count := by
  rw [callF_at hf rfl (by decide)]
  have hs : sizeLine = 16777216 := rfl
  have el : bi .lrange [.int count] = some (.lst (natL (List.range count))) := by
    simp only [bi, biLrange, rng_nat count (by omega)]
    rw [if_pos (by rw [List.length_map, List.length_range]; omega)]
  simp [bShuf, el, lf_lst0, -ex_for]
  rw [for_rng (n := count) (by omega) (by simp)]
  have hloop := T_for (id := id) (k := 1) (f := forF P (callF P fuel (n + 2)) (callG P fuel (n + 2)) fuel (.n 4) (bSh g)) (I := ShI P id count) (by
    rintro x r ρ ⟨L, F, x4, x5, rfl, h4, h5, hn, hlt, hlen, hr, hx⟩
    have hL : L ≠ [] := by
      intro e
      rw [e] at hr
      simp at hr
    have ho := of_ok hg hd n fuel id (natL L) (by simpa using hL) (by rw [List.length_map]; omega)
    obtain ⟨x, rfl⟩ := hx x (by simp)
    simp [forF, bSh, h4, h5]
    refine T_mono (T_bind ho (k2 := 0) fun a ha => ?_) (by omega) fun a h => h
    obtain ⟨one, hone, rfl⟩ := mem_natL ha
    rw [compL_mapO L (h := Val.d ∘ fun (i : Nat) => D.int i) (g := fun t => if t = one then none else some (D.int (t : Int))) (fun t _ => by
      by_cases ht : t = one
      · simp [compF, mask, ht, h4, h5]
      · have : ¬ ((t : Int) = one) := by omega
        simp [compF, mask, ht, h4, h5, this])]
    rw [filt_nat]
    have hfl := List.length_filter_le (· != one) L
    have hnL : L.Nodup := (List.nodup_append.mp hn).2.1
    have hfe := hnL.erase_eq_filter one
    have hfl2 : (L.filter (· != one)).length = L.length - 1 := by
      rw [← hfe]
      exact List.length_erase_of_mem hone
    have hLp : 0 < L.length := List.length_pos_iff.mpr hL
    simp only [List.length_cons] at hr
    simp [lf_newL (ys := natL (L.filter (· != one))) (by rw [List.length_map]; omega), isOL, pushO]
    rw [if_pos (by omega)]
    refine T_ret ⟨_, rfl, L.filter (· != one), F ++ [one], .sh (.d x), .sh (.d (.int one)), ?_, by simp, by simp, ?_, ?_, ?_, ?_, fun z hz => hx z (by simp [hz])⟩
    · simp
    · rw [List.nodup_append] at hn ⊢
      obtain ⟨n1, n2, n3⟩ := hn
      refine ⟨?_, hnL.filter _, ?_⟩
      · rw [List.nodup_append]
        exact ⟨n1, by simp, fun z hz y hy => by
          have hy : y = one := by simpa using hy
          rw [hy]
          exact n3 z hz one hone⟩
      · intro a ha b hb
        rw [List.mem_filter] at hb
        rcases List.mem_append.mp ha with ha | ha
        · exact n3 a ha b hb.1
        · simp at ha
          subst ha
          intro e
          subst e
          simp at hb
    · intro z hz
      apply hlt
      rcases List.mem_append.mp hz with hz | hz
      · rcases List.mem_append.mp hz with hz | hz
        · exact List.mem_append_left _ hz
        · simp at hz
          subst hz
          exact List.mem_append_right _ hone
      · exact List.mem_append_right _ (List.mem_filter.mp hz).1
    · rw [hfl2]
      simp
      omega
    · rw [hfl2]
      omega) ((List.range count).map fun (i : Nat) => Val.d (.int i)) [.sh (.d (.st id)), .sh (.d (.int count)), .sh (.d (.lst (natL (List.range count)))), .ow (.d (.lst [])), .no, .no, .no]
    ⟨List.range count, [], .no, .no, rfl, by simp, by simp, by simpa using List.nodup_range, by simp, by simp, by simp, by
      intro x hx
      obtain ⟨i, _, rfl⟩ := List.mem_map.mp hx
      exact ⟨_, rfl⟩⟩
  simp only [List.length_map, List.length_range, Nat.mul_one] at hloop
  refine T_mono (T_bind hloop (k2 := 0) fun a ha => ?_) (by omega) fun a h => h
  obtain ⟨ρ', rfl, L, F, x4, x5, rfl, h4, h5, hn, hlt, hlen, hr, _⟩ := ha
  have hL : L = [] := List.length_eq_zero_iff.mp (by simpa using hr)
  subst hL
  simp
  refine T_ret ⟨F, by simp, by simpa using hlen, by simpa using hn, by simpa using hlt⟩
end Di
end
section
set_option Elab.async false
set_option linter.all false
set_option maxRecDepth 100000
set_option maxHeartbeats 4000000
namespace K14
open PySem Di TL
abbrev dig : Str := "0123456789"
theorem gl0 : gloO prg 0 = some (.v (.d (.int 12))) := rfl
theorem gl1 : gloO prg 1 = some (.v (.d (.int 20))) := rfl
theorem gl2 : gloO prg 2 = some (.v (.d (.int 1000))) := rfl
theorem gl3 : gloO prg 3 = some (.v (.d (.str dig))) := rfl
theorem sg_dig : sg dig = [48, 49, 50, 51, 52, 53, 54, 55, 56, 57] := by
  show sg (Str.ofString "0123456789") = _
  rw [sg_of]
  decide
theorem isDg_dig (c : Nat) : decide (c ∈ sg dig) = isDg c := by
  rw [sg_dig]
  simp only [isDg, List.mem_cons, List.not_mem_nil, or_false]
  congr 1
  apply propext
  omega
theorem sg_empty : sg (Str.ofString "") = [] := by rw [sg_of]; rfl
theorem sg_0 : sg (Str.ofString "0") = [48] := by rw [sg_of]; decide
theorem nin (n fuel : Nat) (w : Str) (lo hi : Int) (hl : w.length ≤ sizeLine) : callF prg fuel (n + 1) 7 [.d (.str w), .d (.int lo), .d (.int hi)] = ret1 (noD (numIn (sg w) lo hi)) := by
  rw [callF_at (np := 3) (ns := 4) (body := f7) rfl rfl (by decide)]
  simp [f7, List.replicate, put, locO, b_lenS hl, gl3, List.map_map]
  by_cases h1 : w = Str.ofString ""
  · rw [if_pos h1]
    subst h1
    simp [numIn, canon, sg_empty, noD]
  rw [if_neg h1]
  by_cases h2 : 7 < (w.length : Int)
  · rw [if_pos h2]
    have : ¬ (sg w).length ≤ 7 := by rw [sg_len] at h2; omega
    simp [numIn, this, noD]
  rw [if_neg h2]
  rw [sg_len] at h2
  rw [compL_mapL (sg w) (g := fun c => D.bl (isDg c)) (fun c _ => by simp [compF, put, mask, locO, gl3, isDg_dig])]
  have hs : (List.map (fun c => D.bl (isDg c)) (sg w)).length ≤ sizeLine := by
    rw [List.length_map]
    have : sizeLine = 16777216 := rfl
    omega
  have h0 : sg w ≠ [] := fun e => h1 (sg_ext (by rw [e, sg_empty]))
  obtain ⟨c, r, e⟩ := List.exists_cons_of_ne_nil h0
  simp [lf_newL hs, b_all (blsOf_map isDg _), -List.all_map]
  by_cases H : ∃ a, a ∈ sg w ∧ isDg a = false
  · rw [if_pos H]
    obtain ⟨a, ha, hb⟩ := H
    have : canon (sg w) = false := by
      rw [e] at ha ⊢
      simp only [canon, Bool.and_eq_false_iff]
      left
      rw [List.all_eq_false]
      exact ⟨a, ha, by simp [hb]⟩
    simp [numIn, this, noD]
  rw [if_neg H]
  have had : ∀ a ∈ sg w, isDg a = true := fun a ha => by
    cases hb : isDg a with
    | true => rfl
    | false => exact absurd ⟨a, ha, hb⟩ H
  have hz : (w = Str.ofString "0") ↔ sg w = [48] := ⟨fun h => by rw [h, sg_0], fun h => sg_ext (by rw [h, sg_0])⟩
  have hc : ((⟨#[c]⟩ : Str) = Str.ofString "0") ↔ c = 48 := by
    constructor
    · intro h
      have := congrArg sg h
      rw [sg_0] at this
      exact (List.cons.inj this).1
    · intro h
      exact sg_ext (by rw [sg_0, h]; rfl)
  have hit : PySem.intText? w = some ((NumText.digitsVal (sg w) : Nat) : Int) := intText_digits (fun a ha => by simpa [isDg] using had a ha) h0 (by rw [sg_len]; omega)
  have hb : Di.bi .int [.str w] = some (.int (NumText.digitsVal (sg w) : Nat)) := by
    simp only [Di.bi, biInt]
    rw [if_pos (by rw [sg_len]; omega), hit]
  have hn : canon (sg w) = true ↔ ¬ (c = 48 ∧ ¬ sg w = [48]) := by
    rw [e] at had ⊢
    simp only [canon, Bool.and_eq_true, List.all_eq_true, Bool.or_eq_true, decide_eq_true_eq]
    constructor
    · rintro ⟨_, h | h⟩ ⟨h1, h2⟩
      · exact h h1
      · simp at h
        subst h
        exact h2 (by rw [h1])
    · intro h
      refine ⟨had, ?_⟩
      by_cases h48 : c = 48
      · right
        subst h48
        simp at h
        simp [h]
      · left; exact h48
  have hlen : (sg w).length ≤ 7 := by omega
  simp [locO, idxD_S0 e hl, hc, hz]
  by_cases hx : c = 48 ∧ ¬ sg w = [48]
  · have hn' : ¬ canon (sg w) = true := fun h => hn.mp h hx
    simp [hx, numIn, hn', noD]
  · have hn' := hn.mpr hx
    have hx1 : (if c = 48 then (ret1 (OV.v (Val.d (D.bl (!decide (sg w = [48]))))) : M OV) else ret1 (OV.v (Val.d (D.bl false)))) = ret1 (OV.v (Val.d (D.bl false))) := by
      by_cases h48 : c = 48
      · rw [if_pos h48]
        have : sg w = [48] := Classical.byContradiction fun h => hx ⟨h48, h⟩
        simp [this]
      · rw [if_neg h48]
    rw [hx1]
    simp [locO, hb, numIn, hn', hlen]
    by_cases a1 : lo ≤ (NumText.digitsVal (sg w) : Int)
    · by_cases a2 : (NumText.digitsVal (sg w) : Int) ≤ hi
      · simp [a1, a2, locO, hb, noD]
      · simp [a1, a2, noD]
    · simp [a1, noD]
end K14
end
section
set_option Elab.async false
set_option linter.all false
set_option maxRecDepth 100000
set_option maxHeartbeats 4000000
namespace K14
open PySem Di TL
def mkS (l : List Nat) : Str := ⟨l.toArray⟩
theorem sg_mk (l : List Nat) : sg (mkS l) = l := rfl
theorem mk_sg (z : Str) : mkS (sg z) = z := mk_tl z
theorem split_eq {x y : Str} {s : Nat} (hy : sg y = [s]) (hs : s < 256) : Txt.split x y = (spl [s] 0 [] (sg x)).map mkS := by
  refine map_tl_inj ?_
  rw [split1 hy hs, List.map_map]
  have : (TL.tl ∘ mkS) = id := rfl
  rw [this, List.map_id]
  rfl
theorem sg_gt : sg (Str.ofString ">") = [62] := by rw [sg_of]; decide
theorem sg_sp : sg (Str.ofString " ") = [32] := by rw [sg_of]; decide
theorem b_split {a b : Str} {s : Nat} (hy : sg b = [s]) (hs : s < 256) (h : a.length + 2 ≤ sizeLine) : bi .split [.str a, .str b] = some (.lst ((spl [s] 0 [] (sg a)).map fun l => D.str (mkS l))) := by
  simp only [bi, biSplit]
  rw [if_pos ⟨by rw [sg_len, hy]; simp, h⟩, split_eq hy hs, List.map_map]
  rfl
/-- the arrow that a word is -/
def arrO (w : List Nat) (many : Int) : Option (Int × Int) := match spl [62] 0 [] w with
  | [a, b] => match numIn a 0 (many - 1), numIn b 0 (many - 1) with
    | some i, some j => if i = j then none else some (i, j)
    | _, _ => none
  | _ => none
def arD : Option (Int × Int) → D
  | some p => .tup [.int p.1, .int p.2]
  | none => .non
theorem isin_non (x y : Option Int) : isinD .non (.lst [noD x, noD y]) = some (x.isNone || y.isNone) := by
  cases x <;> cases y <;> simp [isinD, good, goodL, noD, D.py, PyData.eqv]
theorem f8_ok (n fuel : Nat) (w : Str) (many : Int) (hl : w.length + 2 ≤ sizeLine) : callF prg fuel (n + 2) 8 [.d (.str w), .d (.int many)] = ret1 (arD (arrO (sg w) many)) := by
  rw [callF_at (np := 2) (ns := 4) (body := f8) rfl rfl (by decide)]
  have hlen : ∀ l ∈ spl [62] 0 [] (sg w), (mkS l).length ≤ sizeLine := fun l h => by
    have := spl1_len 62 _ _ l h
    rw [sg_len] at hl ⊢
    rw [sg_mk]
    simp at this
    omega
  simp [f8, List.replicate, put, locO, b_split sg_gt (by decide) hl, List.map_map]
  rw [compL_mapL (spl [62] 0 [] (sg w)) (g := fun l => noD (numIn l 0 (many - 1))) (fun c hc => by simp [compF, put, mask, locO, nin n fuel _ _ _ (hlen c hc), sg_mk])]
  have hs : (List.map (fun l => noD (numIn l 0 (many - 1))) (spl [62] 0 [] (sg w))).length ≤ sizeLine := by
    rw [List.length_map]
    have := spl1_count 62 (sg w) []
    rw [sg_len] at hl
    omega
  simp [lf_newL hs]
  unfold arrO
  generalize spl [62] 0 [] (sg w) = sp
  match sp with
  | [] => simp [arD]
  | [a] => simp [arD]
  | a :: b :: c :: r =>
    have : ¬ ((r.length : Int) + 1 + 1 + 1 = 2) := by omega
    simp [locO, this, arD]
  | [a, b] =>
    simp [locO, isin_non]
    cases ha : numIn a 0 (many - 1) with
    | none => simp [arD]
    | some i => cases hb : numIn b 0 (many - 1) with
      | none => simp [arD]
      | some j =>
        simp [noD]
        by_cases hij : i = j
        · simp [hij, arD]
        · simp [hij, locO, arD]
end K14
end
section
set_option Elab.async false
set_option linter.all false
set_option maxRecDepth 100000
set_option maxHeartbeats 4000000
namespace K14
open PySem Di TL
/-- the arrows that words are; else the number of the first that is none -/
def rdA (many : Int) : Nat → List (List Nat) → Nat ⊕ List (Int × Int)
  | _, [] => .inr []
  | k, w :: r => match arrO w many with
    | none => .inl (k + 2)
    | some p => if k = 20 then .inl (k + 2) else match rdA many (k + 1) r with
      | .inl e => .inl e
      | .inr ps => .inr (p :: ps)
abbrev arP (p : Int × Int) : D := .tup [.int p.1, .int p.2]
def strL (l : List (List Nat)) : List D := l.map fun w => D.str (mkS w)
theorem strL_cons (w : List Nat) (l : List (List Nat)) : strL (w :: l) = .str (mkS w) :: strL l := rfl
theorem enumL_cons (k : Nat) (x : D) (r : List D) : enumL k (x :: r) = .tup [.int k, x] :: enumL (k + 1) r := rfl
abbrev b11 : List ST := [.asg (.n 6) (.call 8 [(.loc 5), (.loc 2)]),
      .ifs (.ior (.cmp .isN (.loc 6) (.k (.non))) (.cmp .eq (.loc 4) (.glo 1)))
        [.rse 3 (some (.op .add (.loc 4) (.k (.int 2))))]
        [],
      .push 3 (.loc 6)]
theorem f11_loop (n fuel : Nat) (s0 : Val) (ws : List D) (many : Int) (hs0 : ∀ i, killS prg i (.sh s0) = .sh s0) : ∀ (l : List (List Nat)) (k : Nat) (acc : List D) (x4 x5 x6 : Sl), (∀ i, killS prg i x4 = x4) → (∀ i, killS prg i x5 = x5) → (∀ i, killS prg i x6 = x6) →
    (∀ w ∈ l, w.length + 2 ≤ sizeLine) → acc.length + l.length < sizeLine →
    (∀ e, rdA many k l = .inl e → forL (forF prg (callF prg fuel (n + 2)) (callG prg fuel (n + 2)) fuel (.t [.n 4, .n 5]) b11) ((enumL k (strL l)).map Val.d) [.sh s0, .sh (.d (.lst ws)), .sh (.d (.int many)), .ow (.d (.lst acc)), x4, x5, x6] = exM 3 (some (.int e))) ∧
    (∀ ps, rdA many k l = .inr ps → ∃ y4 y5 y6, forL (forF prg (callF prg fuel (n + 2)) (callG prg fuel (n + 2)) fuel (.t [.n 4, .n 5]) b11) ((enumL k (strL l)).map Val.d) [.sh s0, .sh (.d (.lst ws)), .sh (.d (.int many)), .ow (.d (.lst acc)), x4, x5, x6] = ret1 (.nx [.sh s0, .sh (.d (.lst ws)), .sh (.d (.int many)), .ow (.d (.lst (acc ++ ps.map arP))), y4, y5, y6]))
  | [], k, acc, x4, x5, x6, h4, h5, h6, hw, hl => by
    constructor
    · intro e he
      cases he
    · intro ps he
      injection he with he
      subst he
      refine ⟨x4, x5, x6, ?_⟩
      show forL _ [] _ = _
      rw [forL_nil]
      simp
  | w :: l, k, acc, x4, x5, x6, h4, h5, h6, hw, hl => by
    rw [strL_cons, enumL_cons, List.map_cons, forL_cons]
    have hw1 : (mkS w).length + 2 ≤ sizeLine := by rw [sg_len, sg_mk]; exact hw w (by simp)
    have hwr : ∀ z ∈ l, z.length + 2 ≤ sizeLine := fun z hz => hw z (by simp [hz])
    simp only [List.length_cons] at hl
    have h8 := f8_ok n fuel (mkS w) many hw1
    rw [sg_mk] at h8
    cases ha : arrO w many with
    | none =>
      rw [ha] at h8
      constructor
      · intro e he
        simp only [rdA, ha] at he
        injection he with he
        subst he
        simp [forF, setTg, setTgs, put, locO, hs0, h4, h5, h6, h8, arD, b11]
      · intro ps he
        simp only [rdA, ha] at he
        cases he
    | some p =>
      rw [ha] at h8
      by_cases hk : k = 20
      · constructor
        · intro e he
          simp only [rdA, ha, if_pos hk] at he
          injection he with he
          subst he
          subst hk
          simp [forF, setTg, setTgs, put, locO, hs0, h4, h5, h6, h8, arD, b11, gl1]
        · intro ps he
          simp only [rdA, ha, if_pos hk] at he
          cases he
      · have hk' : ¬ ((k : Int) = 20) := by omega
        have hb : forF prg (callF prg fuel (n + 2)) (callG prg fuel (n + 2)) fuel (.t [.n 4, .n 5]) b11 (.d (.tup [.int k, .str (mkS w)])) [.sh s0, .sh (.d (.lst ws)), .sh (.d (.int many)), .ow (.d (.lst acc)), x4, x5, x6] =
            ret1 (.nx [.sh s0, .sh (.d (.lst ws)), .sh (.d (.int many)), .ow (.d (.lst (acc ++ [arP p]))), .sh (.d (.int k)), .sh (.d (.str (mkS w))), .sh (.d (arP p))]) := by
          simp [forF, setTg, setTgs, put, locO, hs0, h4, h5, h6, h8, arD, b11, gl1, hk', isOL, pushO]
          rw [if_pos (by omega)]
          simp
        rw [hb]
        have IH := f11_loop n fuel s0 ws many hs0 l (k + 1) (acc ++ [arP p]) (.sh (.d (.int k))) (.sh (.d (.str (mkS w)))) (.sh (.d (arP p))) (by simp) (by simp) (by simp) hwr (by simp; omega)
        simp only [ev_bind_ret, fk_nx]
        constructor
        · intro e he
          simp only [rdA, ha, if_neg hk] at he
          cases hr : rdA many (k + 1) l with
          | inl e' =>
            rw [hr] at he
            injection he with he
            subst he
            exact IH.1 _ hr
          | inr ps =>
            rw [hr] at he
            cases he
        · intro ps he
          simp only [rdA, ha, if_neg hk] at he
          cases hr : rdA many (k + 1) l with
          | inl e' =>
            rw [hr] at he
            cases he
          | inr ps' =>
            rw [hr] at he
            injection he with he
            subst he
            have := IH.2 _ hr
            simpa using this
end K14
end
section
set_option Elab.async false
set_option linter.all false
set_option maxRecDepth 100000
set_option maxHeartbeats 4000000
namespace K14
open PySem Di TL
abbrev wds (s : Str) : List (List Nat) := spl [32] 0 [] (sg s)
theorem f9_ok (n fuel : Nat) (s : Str) (hl : s.length + 2 ≤ sizeLine) : callF prg fuel (n + 1) 9 [.d (.str s)] = ret1 (.lst (strL (wds s))) := by
  rw [callF_at (np := 1) (ns := 1) (body := f9) rfl rfl (by decide)]
  simp [f9, List.replicate, put, locO, b_split sg_sp (by decide) hl, strL]
theorem cut2 {α : Type} (a b : α) (r : List α) : cutL (a :: b :: r) (some 2) none = r := by
  simp [cutL, HT.sIx]
def rdW : List (List Nat) → Nat ⊕ (Int × List (Int × Int))
  | [] => .inl 0
  | a :: r => if a = [119, 101, 98] then match r with
    | [] => .inl 1
    | b :: r => match numIn b 1 12 with
      | none => .inl 1
      | some many => match rdA many 0 r with
        | .inl e => .inl e
        | .inr ps => .inr (many, ps)
    else .inl 0
def webD (p : Int × List (Int × Int)) : D := .tup [.int p.1, .tup (p.2.map arP)]
def resM : Nat ⊕ (Int × List (Int × Int)) → M D
  | .inl e => exM 3 (some (.int e))
  | .inr p => ret1 (webD p)
theorem sg_web : sg (Str.ofString "web") = [119, 101, 98] := by rw [sg_of]; decide
theorem mk_eq {l : List Nat} {z : Str} : (mkS l = z) ↔ l = sg z := ⟨fun h => by rw [← h, sg_mk], fun h => by rw [h, mk_sg]⟩
theorem f11_ok (n fuel : Nat) (s : Str) (hl : s.length + 2 ≤ sizeLine) : callF prg fuel (n + 3) 11 [.d (.str s)] = resM (rdW (wds s)) := by
  rw [callF_at (np := 1) (ns := 7) (body := f11) rfl rfl (by decide)]
  have hlen : ∀ l ∈ wds s, l.length + 2 ≤ sizeLine := fun l h => by
    have := spl1_len 32 _ _ l h
    rw [sg_len] at hl
    simp at this
    omega
  have hcnt : (wds s).length < sizeLine := by
    have := spl1_count 32 (sg s) []
    rw [sg_len] at hl
    show (spl [32] 0 [] (sg s)).length < _
    omega
  have hne : wds s ≠ [] := spl1_ne 32 _ _
  simp [f11, List.replicate, put, locO, f9_ok (n + 1) fuel s hl]
  generalize wds s = ws at *
  match ws, hne with
  | a :: r, _ =>
    rw [strL_cons]
    simp [mk_eq, sg_web]
    by_cases ha : a = [119, 101, 98]
    case neg => simp [ha, rdW, resM]
    simp only [ha, if_true, rdW]
    cases r with
    | nil => simp [locO, strL, resM]
    | cons b r =>
      rw [strL_cons]
      have hb := nin (n + 1) fuel (mkS b) 1 12 (by rw [sg_len, sg_mk]; have := hlen b (by simp); omega)
      rw [sg_mk] at hb
      have h0 : (1 : Int) < r.length + 1 + 1 := by omega
      simp [locO, h0, hb, gl0, strL]
      cases hm : numIn b 1 12 with
      | none => simp [noD, locO, resM, put]
      | some many =>
        simp [noD, locO, resM, lf_lst (xs := []) rfl rfl (Nat.zero_le _), evo_some, cut2]
        have Lp := f11_loop n fuel (.d (.str s)) (D.str (mkS [119, 101, 98]) :: D.str (mkS b) :: strL r) many (by simp) r 0 [] .no .no .no (by simp) (by simp) (by simp) (fun w hw => hlen w (by simp [hw])) (by simp only [List.length_cons] at hcnt; simp; omega)
        cases hr : rdA many 0 r with
        | inl e =>
          have := Lp.1 e hr
          simp only [strL, b11] at this
          rw [this]
          simp
        | inr ps =>
          obtain ⟨y4, y5, y6, this⟩ := Lp.2 ps hr
          simp only [strL, b11] at this
          rw [this]
          simp [locO, lf_tupD, webD]
end K14
end
section
set_option Elab.async false
set_option linter.all false
set_option maxRecDepth 100000
set_option maxHeartbeats 4000000
namespace K14
open PySem Di TL
/-! the law's dict of arrows -/
def aw (a b : Nat) : List Nat := numL a ++ (62 :: numL b)
theorem num_no62 (n : Nat) : 62 ∉ numL n := numL_free (Or.inr (by decide))
theorem spl_aw (a b : Nat) : spl [62] 0 [] (aw a b) = [numL a, numL b] := by
  have := spl_join (s := 62) (S := []) (parts := [numL a, numL b]) (by simp) (by
    intro p hp
    simp at hp
    rcases hp with rfl | rfl <;> exact num_no62 _)
  exact this
theorem aw_inj {a b c d : Nat} (h : aw a b = aw c d) : a = c ∧ b = d := by
  have := congrArg (spl [62] 0 []) h
  rw [spl_aw, spl_aw] at this
  simp at this
  exact ⟨numL_inj this.1, numL_inj this.2⟩
def Kn (ks vs : List D) (done : Nat → Nat → Prop) : Prop := ∀ w : List Nat, (∀ a b, done a b → w = aw a b → look (.str (mkS w)) ks vs = some (arP (a, b))) ∧ ((∀ a b, done a b → w ≠ aw a b) → look (.str (mkS w)) ks vs = none)
theorem keyEq_comm (a b : D) (h : keyEq a b = true) : keyEq b a = true := by
  cases a <;> cases b <;> simp_all [keyEq]
theorem look_app_none (k v : D) (w : D) : ∀ ks vs : List D, ks.length = vs.length → look w (ks ++ [k]) (vs ++ [v]) = (look w ks vs).or (if keyEq k w then some v else none)
  | [], [], _ => by simp [look]
  | a :: ks, b :: vs, h => by
    simp only [List.cons_append, look]
    split
    · rfl
    · exact look_app_none k v w ks vs (by simpa using h)
theorem look_none_any (k : D) : ∀ ks vs : List D, ks.length = vs.length → ks.any (keyEq · k) = false → look k ks vs = none
  | [], [], _, _ => rfl
  | a :: ks, b :: vs, h, h2 => by
    simp only [List.any_cons, Bool.or_eq_false_iff] at h2
    simp only [look, h2.1]
    exact look_none_any k ks vs (by simpa using h) h2.2
theorem look_repl (x y : Str) (v : D) : ∀ ks vs : List D, ks.length = vs.length → look (.str x) ks (repl (.str y) v ks vs) = if x = y ∧ ks.any (keyEq · (.str y)) = true then some v else look (.str x) ks vs
  | [], [], _ => by simp [look, repl]
  | a :: ks, b :: vs, h => by
    simp only [repl, look]
    have ih := look_repl x y v ks vs (by simpa using h)
    cases a with
    | str z =>
      by_cases hx : x = y
      · subst hx
        by_cases hz : z = x
        · subst hz
          simp [keyEq]
        · simp [keyEq, hz, ih]
      · by_cases hz : z = y
        · subst hz
          have : ¬ z = x := fun e => hx e.symm
          simp [keyEq, hx, this, ih]
        · simp [keyEq, hz, hx, ih]
    | int _ => simp [keyEq, ih]
    | non => simp [keyEq, ih]
    | bl _ => simp [keyEq, ih]
    | lst _ => simp [keyEq, ih]
    | tup _ => simp [keyEq, ih]
    | dct _ _ => simp [keyEq, ih]
    | st _ => simp [keyEq, ih]
    | scr _ => simp [keyEq, ih]
theorem repl_len (k v : D) : ∀ ks vs : List D, ks.length = vs.length → (repl k v ks vs).length = vs.length
  | [], [], _ => rfl
  | a :: ks, b :: vs, h => by simp [repl, repl_len k v ks vs (by simpa using h)]
theorem look_putK (x y : Str) (v : D) (ks vs : List D) (h : ks.length = vs.length) : look (.str x) (putK (.str y) v ks vs).1 (putK (.str y) v ks vs).2 = if x = y then some v else look (.str x) ks vs := by
  unfold putK
  split
  · rename_i h1
    simp only [look_repl x y v ks vs h, h1, and_true]
  · rename_i h1
    have h1 : ks.any (keyEq · (.str y)) = false := by simpa using h1
    simp only [look_app_none _ _ _ ks vs h]
    by_cases hx : x = y
    · subst hx
      simp [look_none_any _ ks vs h h1, keyEq]
    · have : ¬ y = x := fun e => hx e.symm
      simp [keyEq, this, hx]
theorem putK_len (k v : D) (ks vs : List D) (h : ks.length = vs.length) : (putK k v ks vs).1.length = (putK k v ks vs).2.length ∧ (putK k v ks vs).1.length ≤ ks.length + 1 := by
  unfold putK
  split
  · simp [repl_len k v ks vs h, h]
  · simp [h]
theorem Kn_put {ks vs : List D} {done : Nat → Nat → Prop} (h : Kn ks vs done) (hl : ks.length = vs.length) (a b : Nat) :
    Kn (putK (.str (mkS (aw a b))) (arP (a, b)) ks vs).1 (putK (.str (mkS (aw a b))) (arP (a, b)) ks vs).2 (fun x y => done x y ∨ (x = a ∧ y = b)) := by
  intro w
  rw [look_putK _ _ _ _ _ hl]
  by_cases hw : w = aw a b
  · subst hw
    rw [if_pos rfl]
    constructor
    · intro c d _ e
      obtain ⟨rfl, rfl⟩ := aw_inj e
      rfl
    · intro hn
      exact absurd rfl (hn a b (Or.inr ⟨rfl, rfl⟩))
  · have : ¬ mkS w = mkS (aw a b) := fun e => hw (congrArg sg e)
    rw [if_neg this]
    constructor
    · intro c d hd e
      rcases hd with hd | ⟨rfl, rfl⟩
      · exact (h w).1 c d hd e
      · exact absurd e hw
    · intro hn
      exact (h w).2 fun c d hd => hn c d (Or.inl hd)
theorem Kn_nil : Kn [] [] (fun _ _ => False) := fun w => ⟨fun _ _ h => h.elim, fun _ => rfl⟩
theorem Kn_iff {ks vs : List D} {p q : Nat → Nat → Prop} (h : Kn ks vs p) (e : ∀ a b, p a b ↔ q a b) : Kn ks vs q := fun w => ⟨fun a b hq => (h w).1 a b ((e a b).mpr hq), fun hn => (h w).2 fun a b hp => hn a b ((e a b).mp hp)⟩
end K14
end
section
set_option Elab.async false
set_option linter.all false
set_option maxRecDepth 100000
set_option maxHeartbeats 4000000
namespace K14
open PySem Di TL
theorem log2_lt {n : Nat} (h : n < 2 ^ 200) : n.log2 < 1920 := by
  by_cases h0 : n = 0
  · subst h0; decide
  · have := (Nat.log2_lt h0).mpr h
    omega
theorem b_strN (n : Nat) (h : n < 10000000) : bi .str [.int n] = some (.str (nStr n)) := by
  rw [b_str (log2_lt (by
    show n < 2 ^ 200
    have : (10000000 : Nat) < 2 ^ 200 := by decide
    omega))]
theorem numL_le (n : Nat) (h : n < 10000000) : (numL n).length ≤ 7 := numL_len (by decide) (by simpa using h)
theorem nStr_len (n : Nat) (h : n < 10000000) : (nStr n).length ≤ 7 := by
  rw [sg_len]
  show (tl (nStr n)).length ≤ 7
  rw [tl_nStr]
  exact numL_le n h
theorem sg_nStr (n : Nat) : sg (nStr n) = numL n := tl_nStr n
theorem sg_app (x y : Str) : sg (x ++ y) = sg x ++ sg y := tl_append x y
theorem aw_str (a b : Nat) : nStr a ++ Str.ofString ">" ++ nStr b = mkS (aw a b) := sg_ext (by
  rw [sg_app, sg_app, sg_nStr, sg_nStr, sg_gt, sg_mk]
  simp [aw])
theorem aw_opd (a b : Nat) (ha : a < 10000000) (hb : b < 10000000) : op2 .add (.str (nStr a)) (.str (Str.ofString ">")) = some (.str (nStr a ++ Str.ofString ">")) ∧ op2 .add (.str (nStr a ++ Str.ofString ">")) (.str (nStr b)) = some (.str (mkS (aw a b))) := by
  have h1 := nStr_len a ha
  have h2 := nStr_len b hb
  have hs : sizeLine = 16777216 := rfl
  have h3 : (Str.ofString ">").length = 1 := by rw [sg_len, sg_gt]; rfl
  have h4 : (nStr a ++ Str.ofString ">").length = (nStr a).length + 1 := by rw [sg_len, sg_app, sg_gt, sg_len]; simp
  constructor
  · rw [o_adds (by omega)]
  · rw [o_adds (by omega), aw_str]
theorem range_nat (n : Nat) (h : n < 10000000) : rangeD [.int n] = some ((List.range n).map fun (i : Nat) => D.int i) := by
  have h1 : small (n : Int) = true := by
    exact Nat.ble_eq_true_of_le (by omega)
  simp only [rangeD, h1, if_true, rangeL]
  simp
theorem for_range {P : Prg} {cf : Nat → List Val → M D} {ca : Nat → List Val → List Val → M D} {fuel : Nat} {tg : Tg} {e : IR} {body : List ST} {ρ : Di.Env} {n : Nat} (h : n < 10000000) (he : evalE P cf ca e ρ = ret1 (.v (.d (.int n)))) :
    exec P cf ca fuel (.for tg .range [e] body) ρ = forL (forF P cf ca fuel tg body) ((List.range n).map fun (i : Nat) => Val.d (.int i)) ρ := by
  rw [ex_for, evs_cons, he, ev_bind_ret, evs_nil, ev_bind_ret, ev_bind_ret, lf_frange1, range_nat n h, Option.map_some, List.map_map, ev_bind_some]
  rfl
abbrev bin25 : List ST := [.ifs (.cmp .ne (.loc 6) (.loc 7))
          [.setIx 5 (.op .add (.op .add (.bi .str [(.loc 6)]) (.k (.str ">"))) (.bi .str [(.loc 7)])) (.tup [(.loc 6), (.loc 7)])]
          []]
abbrev E25 (s0 ws : Val) (width : Nat) (ks vs : List D) (x6 x7 : Sl) : Di.Env := [.sh s0, .sh ws, .no, .sh (.d (.int width)), .ow (.d (.lst [])), .ow (.d (.dct ks vs)), x6, x7, .no]
theorem f25_in (cf : Nat → List Val → M D) (ca : Nat → List Val → List Val → M D) (fuel : Nat) (s0 ws : Val) (width a : Nat) (ha : a < 100) (hs0 : ∀ i, killS prg i (.sh s0) = .sh s0) (hws : ∀ i, killS prg i (.sh ws) = .sh ws) :
    ∀ (l : List Nat) (ks vs : List D) (x7 : Sl) (done : Nat → Nat → Prop), (∀ i, killS prg i x7 = x7) → (∀ b ∈ l, b < 100) → Kn ks vs done → ks.length = vs.length → ks.length + l.length < 1000000 →
    ∃ ks' vs' y7, forL (forF prg cf ca fuel (.n 7) bin25) (l.map fun (i : Nat) => Val.d (.int i)) (E25 s0 ws width ks vs (.sh (.d (.int a))) x7) = ret1 (.nx (E25 s0 ws width ks' vs' (.sh (.d (.int a))) y7)) ∧
      Kn ks' vs' (fun x y => done x y ∨ (x = a ∧ y ∈ l ∧ x ≠ y)) ∧ ks'.length = vs'.length ∧ ks'.length ≤ ks.length + l.length ∧ (∀ i, killS prg i y7 = y7)
  | [], ks, vs, x7, done, h7, hb, hk, hl, hz => ⟨ks, vs, x7, by simp [forL_nil], Kn_iff hk (by simp), hl, by simp, h7⟩
  | b :: l, ks, vs, x7, done, h7, hb, hk, hl, hz => by
    have hb1 := hb b (by simp)
    simp only [List.length_cons] at hz
    rw [List.map_cons, forL_cons]
    by_cases hab : a = b
    · have hst : forF prg cf ca fuel (.n 7) bin25 (Val.d (.int b)) (E25 s0 ws width ks vs (.sh (.d (.int a))) x7) = ret1 (.nx (E25 s0 ws width ks vs (.sh (.d (.int a))) (.sh (.d (.int b))))) := by
        simp [forF, bin25, hs0, hws, h7, hab]
      rw [hst]
      obtain ⟨ks', vs', y7, h1, h2, h3, h4, h5⟩ := f25_in cf ca fuel s0 ws width a ha hs0 hws l ks vs (.sh (.d (.int b))) done (by simp) (fun x hx => hb x (by simp [hx])) hk hl (by omega)
      refine ⟨ks', vs', y7, by simpa using h1, Kn_iff h2 ?_, h3, by simp; omega, h5⟩
      intro x y
      simp only [List.mem_cons]
      constructor
      · rintro (h | ⟨h, h', h''⟩)
        · exact Or.inl h
        · exact Or.inr ⟨h, Or.inr h', h''⟩
      · rintro (h | ⟨h, h' | h', h''⟩)
        · exact Or.inl h
        · subst h; subst h'; exact absurd hab h''
        · exact Or.inr ⟨h, h', h''⟩
    · have hab' : ¬ ((a : Int) = b) := by omega
      have hst : forF prg cf ca fuel (.n 7) bin25 (Val.d (.int b)) (E25 s0 ws width ks vs (.sh (.d (.int a))) x7) = ret1 (.nx (E25 s0 ws width (putK (.str (mkS (aw a b))) (arP (a, b)) ks vs).1 (putK (.str (mkS (aw a b))) (arP (a, b)) ks vs).2 (.sh (.d (.int a))) (.sh (.d (.int b))))) := by
        have ho := aw_opd a b (by omega) (by omega)
        simp [forF, bin25, hs0, hws, h7, hab', b_strN a (by omega), b_strN b (by omega), ho.1, ho.2, lf_tupD, isO, setIxO, isKey]
        rw [if_pos (by omega)]
        simp
      rw [hst]
      have hp := putK_len (.str (mkS (aw a b))) (arP (a, b)) ks vs hl
      obtain ⟨ks', vs', y7, h1, h2, h3, h4, h5⟩ := f25_in cf ca fuel s0 ws width a ha hs0 hws l _ _ (.sh (.d (.int b))) _ (by simp) (fun x hx => hb x (by simp [hx])) (Kn_put hk hl a b) hp.1 (by omega)
      refine ⟨ks', vs', y7, by simpa using h1, Kn_iff h2 ?_, h3, by simp; omega, h5⟩
      intro x y
      simp only [List.mem_cons]
      constructor
      · rintro ((h | ⟨h, h'⟩) | ⟨h, h', h''⟩)
        · exact Or.inl h
        · refine Or.inr ⟨h, Or.inl h', ?_⟩
          subst h; subst h'; exact hab
        · exact Or.inr ⟨h, Or.inr h', h''⟩
      · rintro (h | ⟨h, h' | h', h''⟩)
        · exact Or.inl (Or.inl h)
        · exact Or.inl (Or.inr ⟨h, h'⟩)
        · exact Or.inr ⟨h, h', h''⟩
abbrev bout25 : List ST := [.for (.n 7) .range [(.loc 3)] bin25]
theorem f25_row (cf : Nat → List Val → M D) (ca : Nat → List Val → List Val → M D) (fuel : Nat) (s0 ws : Val) (width a : Nat) (hwd : width < 10000000) (hs0 : ∀ i, killS prg i (.sh s0) = .sh s0) (hws : ∀ i, killS prg i (.sh ws) = .sh ws)
    (ks vs k1 v1 : List D) (x6 x7 y7 : Sl) (h6 : ∀ i, killS prg i x6 = x6) (h7 : ∀ i, killS prg i x7 = x7)
    (e1 : forL (forF prg cf ca fuel (.n 7) bin25) ((List.range width).map fun (i : Nat) => Val.d (.int i)) (E25 s0 ws width ks vs (.sh (.d (.int a))) x7) = ret1 (.nx (E25 s0 ws width k1 v1 (.sh (.d (.int a))) y7))) :
    forF prg cf ca fuel (.n 6) bout25 (Val.d (.int a)) (E25 s0 ws width ks vs x6 x7) = ret1 (.nx (E25 s0 ws width k1 v1 (.sh (.d (.int a))) y7)) := by
  have hset : setTg prg (.n 6) (Val.d (.int a)) (E25 s0 ws width ks vs x6 x7) = some (E25 s0 ws width ks vs (.sh (.d (.int a))) x7) := by simp [hs0, hws, h7, h6]
  unfold forF
  rw [hset, ev_bind_some, exs_cons, for_range (n := width) hwd (by simp), e1, ev_bind_ret, go_nx, exs_nil]
theorem f25_out (cf : Nat → List Val → M D) (ca : Nat → List Val → List Val → M D) (fuel : Nat) (s0 ws : Val) (width N : Nat) (hwd : width < 100) (hN : N < 1000000) (hs0 : ∀ i, killS prg i (.sh s0) = .sh s0) (hws : ∀ i, killS prg i (.sh ws) = .sh ws) :
    ∀ (l : List Nat) (ks vs : List D) (x6 x7 : Sl) (done : Nat → Nat → Prop), (∀ i, killS prg i x6 = x6) → (∀ i, killS prg i x7 = x7) → (∀ b ∈ l, b < 100) → Kn ks vs done → ks.length = vs.length → ks.length + l.length * width ≤ N →
    ∃ ks' vs' y6 y7, forL (forF prg cf ca fuel (.n 6) bout25) (l.map fun (i : Nat) => Val.d (.int i)) (E25 s0 ws width ks vs x6 x7) = ret1 (.nx (E25 s0 ws width ks' vs' y6 y7)) ∧
      Kn ks' vs' (fun x y => done x y ∨ (x ∈ l ∧ y < width ∧ x ≠ y)) ∧ ks'.length = vs'.length ∧ (∀ i, killS prg i y6 = y6) ∧ (∀ i, killS prg i y7 = y7) := by
  intro l
  induction l with
  | nil =>
    intro ks vs x6 x7 done h6 h7 hb hk hl hz
    exact ⟨ks, vs, x6, x7, by simp [forL_nil], Kn_iff hk (by simp), hl, h6, h7⟩
  | cons a l ih =>
    intro ks vs x6 x7 done h6 h7 hb hk hl hz
    have ha := hb a (by simp)
    simp only [List.length_cons] at hz
    have hz' : ks.length + width + l.length * width ≤ N := by
      have : (l.length + 1) * width = l.length * width + width := Nat.succ_mul _ _
      omega
    obtain ⟨k1, v1, y7, e1, e2, e3, e4, e5⟩ := f25_in cf ca fuel s0 ws width a ha hs0 hws (List.range width) ks vs x7 done h7 (fun b hb => by simp at hb; omega) hk hl (by simp; omega)
    rw [List.map_cons, forL_cons]
    have hst := f25_row cf ca fuel s0 ws width a (by omega) hs0 hws ks vs k1 v1 x6 x7 y7 h6 h7 e1
    rw [hst]
    obtain ⟨ks', vs', y6, y7', h1, h2, h3, h4, h5⟩ := ih k1 v1 (.sh (.d (.int a))) y7 _ (by simp) e5 (fun x hx => hb x (by simp [hx])) e2 e3 (by simp at e4; omega)
    refine ⟨ks', vs', y6, y7', by simpa using h1, Kn_iff h2 ?_, h3, h4, h5⟩
    intro x y
    simp only [List.mem_cons, List.mem_range]
    constructor
    · rintro ((h | ⟨h, h'⟩) | ⟨h, h'⟩)
      · exact Or.inl h
      · exact Or.inr ⟨Or.inl h, h'⟩
      · exact Or.inr ⟨Or.inr h, h'⟩
    · rintro (h | ⟨h | h, h'⟩)
      · exact Or.inl (Or.inl h)
      · exact Or.inl (Or.inr ⟨h, h'⟩)
      · exact Or.inr ⟨h, h'⟩
end K14
end
section
set_option Elab.async false
set_option linter.all false
set_option maxRecDepth 100000
set_option maxHeartbeats 4000000
namespace K14
open PySem Di TL
theorem arrO_aw {a b width : Nat} (ha : a < width) (hb : b < width) (hab : a ≠ b) (hw : width < 1000000) : arrO (aw a b) width = some ((a : Int), (b : Int)) := by
  have h1 : numIn (numL a) 0 ((width : Int) - 1) = some (a : Int) := (numIn_some (by omega)).mpr ⟨a, rfl, by omega, by omega, rfl⟩
  have h2 : numIn (numL b) 0 ((width : Int) - 1) = some (b : Int) := (numIn_some (by omega)).mpr ⟨b, rfl, by omega, by omega, rfl⟩
  have : ¬ ((a : Int) = b) := by omega
  simp only [arrO, spl_aw, h1, h2, if_neg this]
theorem arrO_some {w : List Nat} {width : Nat} (hw : width < 1000000) {p : Int × Int} (h : arrO w width = some p) : ∃ a b : Nat, p = ((a : Int), (b : Int)) ∧ a < width ∧ b < width ∧ a ≠ b ∧ w = aw a b := by
  unfold arrO at h
  split at h
  · rename_i x y hs
    split at h
    · rename_i i j hi hj
      split at h
      · cases h
      · rename_i hij
        injection h with h
        obtain ⟨a, rfl, _, h2, rfl⟩ := (numIn_some (by omega)).mp hi
        obtain ⟨b, rfl, _, h4, rfl⟩ := (numIn_some (by omega)).mp hj
        refine ⟨a, b, h.symm, by omega, by omega, by omega, ?_⟩
        have := join_spl 62 w []
        rw [hs] at this
        simpa [joinL, aw] using this.symm
    · cases h
  · cases h
theorem Kn_look {ks vs : List D} {width : Nat} (hw : width < 1000000) (h : Kn ks vs (fun x y => x < width ∧ y < width ∧ x ≠ y)) (w : List Nat) : look (.str (mkS w)) ks vs = (arrO w width).map arP := by
  cases ha : arrO w width with
  | some p =>
    obtain ⟨a, b, rfl, h1, h2, h3, h4⟩ := arrO_some hw ha
    exact (h w).1 a b ⟨h1, h2, h3⟩ h4
  | none =>
    refine (h w).2 fun a b hab e => ?_
    rw [e, arrO_aw hab.1 hab.2.1 hab.2.2 hw] at ha
    cases ha
abbrev b25 : List ST := [.ifs (.ior (.cmp .notin (.loc 8) (.loc 5)) (.cmp .gt (.loc 2) (.k (.int 19))))
        [.ret (.tup [(.k (.str "text")), (.op .add (.loc 2) (.k (.int 2)))])]
        [],
      .push 4 (.idx (.loc 5) (.loc 8))]
abbrev F25 (s0 ws : Val) (width : Nat) (ks vs : List D) (x2 : Sl) (acc : List D) (x6 x7 x8 : Sl) : Di.Env := [.sh s0, .sh ws, x2, .sh (.d (.int width)), .ow (.d (.lst acc)), .ow (.d (.dct ks vs)), x6, x7, x8]
abbrev txt (e : Nat) : D := .tup [.str (Str.ofString "text"), .int e]
theorem f25_loop (cf : Nat → List Val → M D) (ca : Nat → List Val → List Val → M D) (fuel : Nat) (s0 ws : Val) (width : Nat) (ks vs : List D) (x6 x7 : Sl) (hs0 : ∀ i, killS prg i (.sh s0) = .sh s0) (hws : ∀ i, killS prg i (.sh ws) = .sh ws) (h6 : ∀ i, killS prg i x6 = x6) (h7 : ∀ i, killS prg i x7 = x7)
    (hk : ∀ w, look (.str (mkS w)) ks vs = (arrO w width).map arP) : ∀ (l : List (List Nat)) (k : Nat) (acc : List D) (x2 x8 : Sl), (∀ i, killS prg i x2 = x2) → (∀ i, killS prg i x8 = x8) → k ≤ 20 → acc.length + l.length < sizeLine →
    (∀ e, rdA width k l = .inl e → forL (forF prg cf ca fuel (.t [.n 2, .n 8]) b25) ((enumL k (strL l)).map Val.d) (F25 s0 ws width ks vs x2 acc x6 x7 x8) = ret1 (.rt (txt e))) ∧
    (∀ ps, rdA width k l = .inr ps → ∃ y2 y8, forL (forF prg cf ca fuel (.t [.n 2, .n 8]) b25) ((enumL k (strL l)).map Val.d) (F25 s0 ws width ks vs x2 acc x6 x7 x8) = ret1 (.nx (F25 s0 ws width ks vs y2 (acc ++ ps.map arP) x6 x7 y8))) := by
  intro l
  induction l with
  | nil =>
    intro k acc x2 x8 h2 h8 hk20 hl
    constructor
    · intro e he
      cases he
    · intro ps he
      injection he with he
      subst he
      refine ⟨x2, x8, ?_⟩
      show forL _ [] _ = _
      rw [forL_nil]
      simp
  | cons w l ih =>
    intro k acc x2 x8 h2 h8 hk20 hl
    rw [strL_cons, enumL_cons, List.map_cons, forL_cons]
    simp only [List.length_cons] at hl
    have hkw := hk w
    have hin : isinD (.str (mkS w)) (.dct ks vs) = some (arrO w width).isSome := by
      simp only [isinD, isKey, if_true, hkw, Option.isSome_map]
    have hix : idxD (.dct ks vs) (.str (mkS w)) = (arrO w width).map arP := by
      simp only [idxD, hkw]
    cases ha : arrO w width with
    | none =>
      rw [ha] at hin
      constructor
      · intro e he
        simp only [rdA, ha] at he
        injection he with he
        subst he
        simp [forF, hs0, hws, h2, h6, h7, h8, b25, hin, lf_tupD, txt]
      · intro ps he
        simp only [rdA, ha] at he
        cases he
    | some p =>
      rw [ha] at hin hix
      by_cases hk2 : k = 20
      · constructor
        · intro e he
          simp only [rdA, ha, if_pos hk2] at he
          injection he with he
          subst he
          subst hk2
          simp [forF, hs0, hws, h2, h6, h7, h8, b25, hin, lf_tupD, txt]
        · intro ps he
          simp only [rdA, ha, if_pos hk2] at he
          cases he
      · have hk' : ¬ ((19 : Int) < k) := by omega
        have hb : forF prg cf ca fuel (.t [.n 2, .n 8]) b25 (.d (.tup [.int k, .str (mkS w)])) (F25 s0 ws width ks vs x2 acc x6 x7 x8) =
            ret1 (.nx (F25 s0 ws width ks vs (.sh (.d (.int k))) (acc ++ [arP p]) x6 x7 (.sh (.d (.str (mkS w)))))) := by
          simp [forF, hs0, hws, h2, h6, h7, h8, b25, hin, hix, hk', isOL, pushO]
          rw [if_pos (by omega)]
          simp
        rw [hb]
        have IH := ih (k + 1) (acc ++ [arP p]) (.sh (.d (.int k))) (.sh (.d (.str (mkS w)))) (by simp) (by simp) (by omega) (by simp; omega)
        simp only [ev_bind_ret, fk_nx]
        constructor
        · intro e he
          simp only [rdA, ha, if_neg hk2] at he
          cases hr : rdA width (k + 1) l with
          | inl e' =>
            rw [hr] at he
            injection he with he
            subst he
            exact IH.1 _ hr
          | inr ps =>
            rw [hr] at he
            cases he
        · intro ps he
          simp only [rdA, ha, if_neg hk2] at he
          cases hr : rdA width (k + 1) l with
          | inl e' =>
            rw [hr] at he
            cases he
          | inr ps' =>
            rw [hr] at he
            injection he with he
            subst he
            have := IH.2 _ hr
            simpa using this
theorem rng13 : rangeD [.int 1, .int 13] = some ((List.range 12).map fun (i : Nat) => D.int ((i + 1 : Nat) : Int)) := by
  have h : (small 1 && small 13) = true := by decide
  simp only [rangeD]
  rw [if_pos h]
  rfl
theorem mem13 (b : List Nat) : (mkS b ∈ (List.range 12).map fun (i : Nat) => nStr (i + 1)) ↔ numIn b 1 12 ≠ none := by
  rw [List.mem_map]
  constructor
  · rintro ⟨i, hi, e⟩ hn
    have hi : i < 12 := by simpa using hi
    refine (numIn_none (by decide)).mp hn (i + 1) (by omega) (by omega) ?_
    have := congrArg sg e
    rw [sg_nStr, sg_mk] at this
    exact this.symm
  · intro hn
    cases h : numIn b 1 12 with
    | none => exact absurd h hn
    | some i =>
      obtain ⟨n, _, h1, h2, h3⟩ := (numIn_some (by decide)).mp h
      refine ⟨n - 1, by simp; omega, ?_⟩
      have : n - 1 + 1 = n := by omega
      rw [this]
      exact sg_ext (by rw [sg_nStr, h3, sg_mk])
theorem nStr_mk (n : Nat) : mkS (numL n) = nStr n := sg_ext (by rw [sg_mk, sg_nStr])
theorem b_intN (n : Nat) (h : n < 10000000) : Di.bi .int [.str (nStr n)] = some (.int n) := by
  have h1 := nStr_len n h
  have h2 := numL_le n h
  simp only [Di.bi, biInt]
  rw [if_pos (by omega), int_num (by omega)]
def dueD : Nat ⊕ (Int × List (Int × Int)) → D
  | .inl e => txt e
  | .inr p => .lst [webD p]
theorem f25_ok (n fuel : Nat) (s : Str) (hl : s.length + 2 ≤ sizeLine) : callF prg fuel (n + 1) 25 [.d (.str s)] = ret1 (dueD (rdW (wds s))) := by
  rw [callF_at (np := 1) (ns := 9) (body := f25) rfl rfl (by decide)]
  have hlen : ∀ l ∈ wds s, l.length + 2 ≤ sizeLine := fun l h => by
    have := spl1_len 32 _ _ l h
    rw [sg_len] at hl
    simp at this
    omega
  have hcnt : (wds s).length < sizeLine := by
    have := spl1_count 32 (sg s) []
    rw [sg_len] at hl
    show (spl [32] 0 [] (sg s)).length < _
    omega
  have hne : wds s ≠ [] := spl1_ne 32 _ _
  have hsp : Di.bi .split [.str s, .str (Str.ofString " ")] = some (.lst (strL (wds s))) := b_split sg_sp (by decide) hl
  simp [f25, hsp]
  generalize wds s = ws at *
  match ws, hne with
  | a :: r, _ =>
    rw [strL_cons]
    simp [mk_eq, sg_web]
    by_cases ha : a = [119, 101, 98]
    case neg => simp [ha, rdW, dueD, lf_tupD, txt]
    simp only [ha, if_true, rdW]
    cases r with
    | nil => simp [strL, dueD, lf_tupD, txt]
    | cons b r =>
      rw [strL_cons]
      have h0 : ¬ ((r.length : Int) + 1 + 1 < 2) := by omega
      simp [h0, strL, rng13]
      rw [compL_mapL (List.range 12) (g := fun i => D.str (nStr (i + 1))) (fun c hc => by
        have hc : c < 12 := by simpa using hc
        have : Di.bi .str [.int ((c : Int) + 1)] = some (.str (nStr (c + 1))) := b_strN (c + 1) (by omega)
        simp [compF, mask, this])]
      have e1 : ((List.range 12).map fun i => D.str (nStr (i + 1))) = ((List.range 12).map fun i => nStr (i + 1)).map D.str := by rw [List.map_map]; rfl
      rw [e1]
      simp [lf_newL (ys := ((List.range 12).map fun i => nStr (i + 1)).map D.str) (by rw [List.length_map, List.length_map, List.length_range]; decide), isin_strs, -List.map_map, mem13]
      cases hm : numIn b 1 12 with
      | none => simp [dueD, lf_tupD, txt]
      | some i =>
        obtain ⟨m, rfl, hm1, hm2, rfl⟩ := (numIn_some (by decide)).mp hm
        have hm12 : m ≤ 12 := by omega
        simp [nStr_mk, b_intN m (by omega), lf_lst (xs := []) rfl rfl (Nat.zero_le _), -ex_for]
        have hks : ∀ i, killS prg i (.sh (.d (.str s))) = .sh (.d (.str s)) := by simp
        have hkw : ∀ i, killS prg i (.sh (.d (.lst (strL ([119, 101, 98] :: numL m :: r))))) = .sh (.d (.lst (strL ([119, 101, 98] :: numL m :: r)))) := by simp
        obtain ⟨ks, vs, y6, y7, q1, q2, q3, q4, q5⟩ := f25_out (callF prg fuel n) (callG prg fuel n) fuel (.d (.str s)) (.d (.lst (strL ([119, 101, 98] :: numL m :: r)))) m 1000 (by omega) (by decide) hks hkw (List.range m) [] [] .no .no _ (by simp) (by simp) (fun b hb => by simp at hb; omega) Kn_nil rfl (by
          rw [List.length_range]
          have := Nat.mul_le_mul hm12 hm12
          simp
          omega)
        have q6 := Kn_look (by omega) (Kn_iff (q := fun x y => x < m ∧ y < m ∧ x ≠ y) q2 (by simp))
        simp only [List.length_cons] at hcnt
        have Lp := f25_loop (callF prg fuel n) (callG prg fuel n) fuel (.d (.str s)) (.d (.lst (strL ([119, 101, 98] :: numL m :: r)))) m ks vs y6 y7 hks hkw q4 q5 q6 r 0 [] .no .no (by simp) (by simp) (by omega) (by simp; omega)
        unfold E25 at q1
        simp only [strL, List.map_cons, nStr_mk] at q1
        rw [for_range (n := m) (by omega) (by simp)]
        simp only [bout25, bin25] at q1
        rw [q1]
        simp [cut2]
        unfold F25 at Lp
        simp only [strL, List.map_cons, nStr_mk, b25] at Lp
        cases hr : rdA m 0 r with
        | inl e =>
          rw [Lp.1 e hr]
          simp [dueD, txt]
        | inr ps =>
          obtain ⟨y2, y8, h⟩ := Lp.2 ps hr
          rw [h]
          simp [dueD, webD, lf_tupD, lf_lst1]
end K14
end
section
set_option Elab.async false
set_option linter.all false
set_option maxRecDepth 100000
set_option maxHeartbeats 4000000
namespace K14
open PySem Di TL
theorem eq_nil (l : List D) (h : goodL 59 l = true) : cmpD .eq (.lst l) (.lst []) = some l.isEmpty := by
  simp only [cmpD, eqD, good, h, goodL, Bool.and_self, if_true, D.py]
  cases l <;> simp [pyL, PyData.eqv, PyData.eqvAll]
theorem good_ones (p : Nat → Bool) : ∀ l : List Nat, goodL 59 (l.filterMap fun c => if p c then none else some (D.int 1)) = true
  | [] => rfl
  | c :: r => by
    rw [List.filterMap_cons]
    by_cases h : p c = true
    · simp only [h, if_true]
      exact good_ones p r
    · simp only [h, if_false, Bool.false_eq_true]
      simp only [goodL, good, good_ones p r, Bool.and_self]
theorem ones_empty (p : Nat → Bool) (l : List Nat) : (l.filterMap fun c => if p c then none else some (D.int 1)).isEmpty = l.all p := by
  induction l with
  | nil => rfl
  | cons c r ih =>
    rw [List.filterMap_cons]
    by_cases h : p c = true
    · simp [h, ih]
    · simp [h]
theorem b_intD (w : Str) (h : ∀ a ∈ sg w, isDg a = true) (h0 : sg w ≠ []) (hl : (sg w).length ≤ 7) : Di.bi .int [.str w] = some (.int (NumText.digitsVal (sg w) : Nat)) := by
  have hit : PySem.intText? w = some ((NumText.digitsVal (sg w) : Nat) : Int) := intText_digits (fun a ha => by simpa [isDg] using h a ha) h0 (by rw [sg_len]; omega)
  simp only [Di.bi, biInt]
  rw [if_pos (by rw [sg_len]; omega), hit]
theorem fold_lt : ∀ (l : List Nat) (a : Nat), (∀ c ∈ l, c ≤ 57) → l.foldl (fun acc c => acc * 10 + (c - 48)) a < (a + 1) * 10 ^ l.length
  | [], a, _ => by simp
  | c :: r, a, h => by
    have h1 := h c (by simp)
    have := fold_lt r (a * 10 + (c - 48)) fun x hx => h x (by simp [hx])
    refine Nat.lt_of_lt_of_le this ?_
    rw [List.length_cons, Nat.pow_succ']
    rw [← Nat.mul_assoc]
    exact Nat.mul_le_mul_right _ (by omega)
theorem val_lt (l : List Nat) (h : ∀ a ∈ l, isDg a = true) : NumText.digitsVal l < 10 ^ l.length := by
  have := fold_lt l 0 fun c hc => by
    have := h c hc
    simp [isDg] at this
    exact this.2
  simpa [NumText.digitsVal] using this
theorem f26_ok (n fuel : Nat) (w : Str) (hl : w.length ≤ sizeLine) : callF prg fuel (n + 1) 26 [.d (.str w)] = ret1 (.bl (numIn (sg w) 0 1000).isSome) := by
  rw [callF_at (np := 1) (ns := 2) (body := f26) rfl rfl (by decide)]
  simp [f26, b_lenS hl]
  by_cases h0 : sg w = []
  · have : w.length = 0 := by rw [sg_len, h0]; rfl
    simp [this, numIn, h0, canon]
  have hp : 0 < (sg w).length := List.length_pos_iff.mpr h0
  have hp1 : 0 < w.length := by rw [sg_len]; exact hp
  simp [hp1]
  by_cases h5 : (w.length : Int) < 5
  case neg =>
    have : ¬ (numIn (sg w) 0 1000).isSome = true := by
      intro h
      obtain ⟨i, hi⟩ := Option.isSome_iff_exists.mp h
      obtain ⟨n, _, h1, h2, h3⟩ := (numIn_some (by decide)).mp hi
      have := numL_len (n := n) (k := 4) (by decide) (by omega)
      rw [← h3, ← sg_len] at this
      omega
    simp [h5, this]
  have h5' : (sg w).length < 5 := by rw [sg_len] at h5; omega
  simp [h5]
  rw [compL_mapO (sg w) (g := fun c => if isDg c then none else some (D.int 1)) (fun c _ => by
    have : decide (c ∈ sg (Str.ofString "0123456789")) = isDg c := isDg_dig c
    simp [compF, mask, -lf_isin, lf_notin, lf_isinS, this]
    cases isDg c <;> simp)]
  have hle : ((sg w).filterMap fun c => if isDg c then none else some (D.int 1)).length ≤ sizeLine := by
    have := List.length_filterMap_le (fun c => if isDg c then none else some (D.int 1)) (sg w)
    have hs : sizeLine = 16777216 := rfl
    omega
  simp [lf_newL hle, lf_lst0, eq_nil _ (good_ones isDg _), ones_empty]
  by_cases had : ∀ a ∈ sg w, isDg a = true
  case neg =>
    have : ¬ (numIn (sg w) 0 1000).isSome = true := by
      intro h
      obtain ⟨i, hi⟩ := Option.isSome_iff_exists.mp h
      obtain ⟨n, _, h1, h2, h3⟩ := (numIn_some (by decide)).mp hi
      apply had
      rw [h3]
      intro a ha
      simpa [isDg] using numL_digits n a ha
    simp [had, this]
  have hv := val_lt _ had
  have hv4 : NumText.digitsVal (sg w) < 10000 := by
    have : 10 ^ (sg w).length ≤ 10 ^ 4 := Nat.pow_le_pow_right (by decide) (by omega)
    omega
  have hb := b_intD w had h0 (by omega)
  have hs := b_strN (NumText.digitsVal (sg w)) (by omega)
  have hw : (nStr (NumText.digitsVal (sg w)) = w) ↔ canon (sg w) = true := by
    constructor
    · intro h
      have := congrArg sg h
      rw [sg_nStr] at this
      rw [← this]
      exact num_canon _
    · intro h
      exact sg_ext (by rw [sg_nStr, canon_num _ h])
  simp [had, hb, hs, hw]
  rw [if_pos had]
  have hlen : (sg w).length ≤ 7 := by omega
  by_cases hc : canon (sg w) = true
  · by_cases hv2 : NumText.digitsVal (sg w) < 1001
    · have e1 : (NumText.digitsVal (sg w) : Int) < 1001 := by omega
      have e2 : (NumText.digitsVal (sg w) : Int) ≤ 1000 := by omega
      simp [hc, numIn, hlen, e1, e2]
    · have e1 : ¬ (NumText.digitsVal (sg w) : Int) < 1001 := by omega
      have e2 : ¬ (NumText.digitsVal (sg w) : Int) ≤ 1000 := by omega
      simp [hc, numIn, hlen, e1, e2]
  · simp [hc, numIn]
/-- the counts that words are; else the number of the first that is none -/
def rdC (width : Nat) : Nat → List (List Nat) → Nat ⊕ List Int
  | _, [] => .inr []
  | k, w :: r => match numIn w 0 1000 with
    | none => .inl k
    | some i => if k = width then .inl k else match rdC width (k + 1) r with
      | .inl e => .inl e
      | .inr ps => .inr (i :: ps)
theorem rdC_len (width : Nat) : ∀ (l : List (List Nat)) (k : Nat) (ps : List Int), rdC width k l = .inr ps → k ≤ width → ps.length = l.length ∧ k + l.length ≤ width ∧ ∀ w ∈ l, ∃ i, numIn w 0 1000 = some i
  | [], k, ps, h, hk => by
    injection h with h
    subst h
    simp [hk]
  | w :: r, k, ps, h, hk => by
    simp only [rdC] at h
    cases hw : numIn w 0 1000 with
    | none => rw [hw] at h; cases h
    | some i =>
      rw [hw] at h
      simp only at h
      split at h
      · cases h
      · rename_i hkw
        cases hr : rdC width (k + 1) r with
        | inl e => rw [hr] at h; cases h
        | inr qs =>
          rw [hr] at h
          injection h with h
          subst h
          obtain ⟨h1, h2, h3⟩ := rdC_len width r (k + 1) qs hr (by omega)
          refine ⟨by simp [h1], by simp; omega, fun z hz => ?_⟩
          rcases List.mem_cons.mp hz with rfl | hz
          · exact ⟨i, hw⟩
          · exact h3 z hz
theorem rdC_map (width : Nat) : ∀ (l : List (List Nat)) (k : Nat) (ps : List Int), rdC width k l = .inr ps → ps = l.map fun w => (numIn w 0 1000).getD 0
  | [], k, ps, h => by
    injection h with h
    exact h.symm
  | w :: r, k, ps, h => by
    simp only [rdC] at h
    cases hw : numIn w 0 1000 with
    | none => rw [hw] at h; cases h
    | some i =>
      rw [hw] at h
      simp only at h
      split at h
      · cases h
      · cases hr : rdC width (k + 1) r with
        | inl e => rw [hr] at h; cases h
        | inr qs =>
          rw [hr] at h
          injection h with h
          subst h
          rw [List.map_cons, hw, rdC_map width r (k + 1) qs hr]
          rfl
def cntR (width : Nat) (ws : List (List Nat)) : Nat ⊕ List Int := match rdC width 0 ws with
  | .inl e => .inl e
  | .inr ps => if ws.length < width then .inl ws.length else .inr ps
def lineD (ps : List Int) : D := .tup (ps.map D.int)
def resC : Nat ⊕ List Int → M D
  | .inl e => exM 3 (some (.int e))
  | .inr p => ret1 (lineD p)
def dueC : Nat ⊕ List Int → D
  | .inl e => txt e
  | .inr p => .lst [lineD p]
abbrev b27 : List ST := [.ifs (.ior (.cmp .eq (.loc 3) (.loc 0)) (.inot (.call 26 [(.loc 4)])))
        [.ret (.tup [(.k (.str "text")), (.loc 3)])]
        []]
theorem f27_loop (n fuel : Nat) (ca : Nat → List Val → List Val → M D) (width : Nat) (s1 ws : Val) (hs1 : ∀ i, killS prg i (.sh s1) = .sh s1) (hws : ∀ i, killS prg i (.sh ws) = .sh ws) : ∀ (l : List (List Nat)) (k : Nat) (x3 x4 : Sl), (∀ i, killS prg i x3 = x3) → (∀ i, killS prg i x4 = x4) → (∀ w ∈ l, w.length ≤ sizeLine) →
    (∀ e, rdC width k l = .inl e → forL (forF prg (callF prg fuel (n + 1)) ca fuel (.t [.n 3, .n 4]) b27) ((enumL k (strL l)).map Val.d) [.sh (.d (.int width)), .sh s1, .sh ws, x3, x4] = ret1 (.rt (txt e))) ∧
    (∀ ps, rdC width k l = .inr ps → ∃ y3 y4, forL (forF prg (callF prg fuel (n + 1)) ca fuel (.t [.n 3, .n 4]) b27) ((enumL k (strL l)).map Val.d) [.sh (.d (.int width)), .sh s1, .sh ws, x3, x4] = ret1 (.nx [.sh (.d (.int width)), .sh s1, .sh ws, y3, y4])) := by
  intro l
  induction l with
  | nil =>
    intro k x3 x4 h3 h4 hw
    constructor
    · intro e he
      cases he
    · intro ps he
      exact ⟨x3, x4, rfl⟩
  | cons w l ih =>
    intro k x3 x4 h3 h4 hw
    rw [strL_cons, enumL_cons, List.map_cons, forL_cons]
    have h26 := f26_ok n fuel (mkS w) (by rw [sg_len, sg_mk]; exact hw w (by simp))
    rw [sg_mk] at h26
    cases ha : numIn w 0 1000 with
    | none =>
      rw [ha] at h26
      constructor
      · intro e he
        simp only [rdC, ha] at he
        injection he with he
        subst he
        simp [forF, hs1, hws, h3, h4, b27, h26, lf_tupD, txt]
      · intro ps he
        simp only [rdC, ha] at he
        cases he
    | some p =>
      rw [ha] at h26
      by_cases hk2 : k = width
      · constructor
        · intro e he
          simp only [rdC, ha, if_pos hk2] at he
          injection he with he
          subst he
          subst hk2
          simp [forF, hs1, hws, h3, h4, b27, h26, lf_tupD, txt]
        · intro ps he
          simp only [rdC, ha, if_pos hk2] at he
          cases he
      · have hk' : ¬ ((k : Int) = width) := by omega
        have hb : forF prg (callF prg fuel (n + 1)) ca fuel (.t [.n 3, .n 4]) b27 (.d (.tup [.int k, .str (mkS w)])) [.sh (.d (.int width)), .sh s1, .sh ws, x3, x4] =
            ret1 (.nx [.sh (.d (.int width)), .sh s1, .sh ws, .sh (.d (.int k)), .sh (.d (.str (mkS w)))]) := by
          simp [forF, hs1, hws, h3, h4, b27, h26, hk']
        rw [hb]
        have IH := ih (k + 1) (.sh (.d (.int k))) (.sh (.d (.str (mkS w)))) (by simp) (by simp) (fun x hx => hw x (by simp [hx]))
        simp only [ev_bind_ret, fk_nx]
        constructor
        · intro e he
          simp only [rdC, ha, if_neg hk2] at he
          cases hr : rdC width (k + 1) l with
          | inl e' =>
            rw [hr] at he
            injection he with he
            subst he
            exact IH.1 _ hr
          | inr ps =>
            rw [hr] at he
            cases he
        · intro ps he
          simp only [rdC, ha, if_neg hk2] at he
          cases hr : rdC width (k + 1) l with
          | inl e' =>
            rw [hr] at he
            cases he
          | inr ps' => exact IH.2 _ hr
theorem b_int_num {w : List Nat} {i : Int} (h : numIn w 0 1000 = some i) : Di.bi .int [.str (mkS w)] = some (.int i) := by
  obtain ⟨n, rfl, h1, h2, rfl⟩ := (numIn_some (by decide)).mp h
  rw [nStr_mk]
  exact b_intN n (by omega)
theorem f27_ok (n fuel : Nat) (width : Nat) (s : Str) (hl : s.length + 2 ≤ sizeLine) : callF prg fuel (n + 2) 27 [.d (.int width), .d (.str s)] = ret1 (dueC (cntR width (wds s))) := by
  rw [callF_at (np := 2) (ns := 5) (body := f27) rfl rfl (by decide)]
  have hlen : ∀ l ∈ wds s, l.length ≤ sizeLine := fun l h => by
    have := spl1_len 32 _ _ l h
    rw [sg_len] at hl
    simp at this
    omega
  have hcnt : (wds s).length < sizeLine := by
    have := spl1_count 32 (sg s) []
    rw [sg_len] at hl
    show (spl [32] 0 [] (sg s)).length < _
    omega
  have hsp : Di.bi .split [.str s, .str (Str.ofString " ")] = some (.lst (strL (wds s))) := b_split sg_sp (by decide) hl
  generalize wds s = ws at *
  have Lp := f27_loop n fuel (callG prg fuel (n + 1)) width (.d (.str s)) (.d (.lst (strL ws))) (by simp) (by simp) ws 0 .no .no (by simp) (by simp) hlen
  simp only [b27] at Lp
  simp [f27, hsp]
  cases hr : rdC width 0 ws with
  | inl e =>
    rw [Lp.1 e hr]
    simp [cntR, hr, dueC]
  | inr ps =>
    obtain ⟨y3, y4, h⟩ := Lp.2 ps hr
    rw [h]
    obtain ⟨g1, g2, g3⟩ := rdC_len width ws 0 ps hr (by omega)
    have hsl : (strL ws).length = ws.length := by simp [strL]
    simp [hsl]
    by_cases hlt : ws.length < width
    · have : ¬ ((ws.length : Int) = width) := by omega
      simp [this, cntR, hr, hlt, dueC, lf_tupD, hsl, txt]
    · have : (ws.length : Int) = width := by omega
      simp [this, cntR, hr, hlt, dueC, strL, List.map_map]
      rw [compL_mapL ws (g := fun w => D.int ((numIn w 0 1000).getD 0)) (fun w hw => by
        obtain ⟨i, hi⟩ := g3 w hw
        simp [compF, mask, b_int_num hi, hi])]
      have e1 : (ws.map fun w => D.int ((numIn w 0 1000).getD 0)) = ps.map D.int := by
        rw [rdC_map width ws 0 ps hr, List.map_map]
        rfl
      rw [e1]
      simp [lf_newL (ys := ps.map D.int) (by rw [List.length_map]; omega), lf_lst1, lineD]
end K14
end
section
set_option Elab.async false
set_option linter.all false
set_option maxRecDepth 100000
set_option maxHeartbeats 4000000
namespace K14
open PySem Di TL
abbrev arN (p : Nat × Nat) : D := .tup [.int p.1, .int p.2]
abbrev webN (w : Nat) (ar : List (Nat × Nat)) : D := .tup [.int w, .tup (ar.map arN)]
def OkW (w : Nat) (ar : List (Nat × Nat)) : Prop := 1 ≤ w ∧ w ≤ 12 ∧ ar.length ≤ 20 ∧ ∀ p ∈ ar, p.1 < w ∧ p.2 < w ∧ p.1 ≠ p.2
theorem f0_ok (n fuel : Nat) (v lo hi : Int) (h1 : lo ≤ v) (h2 : v ≤ hi) : callF prg fuel (n + 1) 0 [.d (.int v), .d (.int lo), .d (.int hi)] = ret1 (.bl true) := by
  rw [callF_at (np := 3) (ns := 3) (body := f0) rfl rfl (by decide)]
  simp [f0, h1, h2]
theorem f1_ok (n fuel : Nat) (w : Nat) (p : Nat × Nat) (h : p.1 < w ∧ p.2 < w ∧ p.1 ≠ p.2) : callF prg fuel (n + 2) 1 [.d (.int w), .d (arN p)] = ret1 (.bl true) := by
  rw [callF_at (np := 2) (ns := 3) (body := f1) rfl rfl (by decide)]
  have a1 := f0_ok n fuel (p.1 : Int) 0 ((w : Int) - 1) (by omega) (by omega)
  have a2 := f0_ok n fuel (p.2 : Int) 0 ((w : Int) - 1) (by omega) (by omega)
  have e : ([.int (p.1 : Int), .int (p.2 : Int)] : List D).map Val.d = [(p.1 : Int), (p.2 : Int)].map fun (i : Int) => Val.d (.int i) := rfl
  have h2 : ¬ ((p.1 : Int) = p.2) := by omega
  simp [f1, -List.map_cons, e]
  rw [compL_mapL [(p.1 : Int), (p.2 : Int)] (g := fun _ => D.bl true) (fun i hi => by
    simp at hi
    rcases hi with rfl | rfl
    · simp [compF, mask, a1]
    · simp [compF, mask, a2])]
  simp [lf_newL (ys := [D.bl true, D.bl true]) (show 2 ≤ sizeLine by decide), b_all (l := [D.bl true, D.bl true]) (bs := [true, true]) rfl, h2]
abbrev b2 : List ST := [.ifs (.inot (.call 1 [(.idx (.loc 0) (.k (.int 0))), (.loc 2)]))
        [.ret (.tup [(.k (.int 1)), (.loc 1)])]
        []]
theorem f2_loop (n fuel : Nat) (ca : Nat → List Val → List Val → M D) (w : Nat) (xs : List D) : ∀ (l : List (Nat × Nat)) (k : Nat) (x1 x2 : Sl), (∀ i, killS prg i x1 = x1) → (∀ i, killS prg i x2 = x2) → (∀ p ∈ l, p.1 < w ∧ p.2 < w ∧ p.1 ≠ p.2) →
    ∃ y1 y2, forL (forF prg (callF prg fuel (n + 2)) ca fuel (.t [.n 1, .n 2]) b2) ((enumL k (l.map arN)).map Val.d) [.sh (.d (.tup (.int w :: xs))), x1, x2] = ret1 (.nx [.sh (.d (.tup (.int w :: xs))), y1, y2]) := by
  intro l
  induction l with
  | nil => intro k x1 x2 _ _ _; exact ⟨x1, x2, rfl⟩
  | cons p l ih =>
    intro k x1 x2 h1 h2 h
    rw [List.map_cons, enumL_cons, List.map_cons, forL_cons]
    have hp := f1_ok n fuel w p (h p (by simp))
    have hst : forF prg (callF prg fuel (n + 2)) ca fuel (.t [.n 1, .n 2]) b2 (.d (.tup [.int k, arN p])) [.sh (.d (.tup (.int w :: xs))), x1, x2] = ret1 (.nx [.sh (.d (.tup (.int w :: xs))), .sh (.d (.int k)), .sh (.d (arN p))]) := by
      simp [forF, b2, h1, h2, hp]
    rw [hst]
    obtain ⟨y1, y2, e⟩ := ih (k + 1) (.sh (.d (.int k))) (.sh (.d (arN p))) (by simp) (by simp) (fun q hq => h q (by simp [hq]))
    exact ⟨y1, y2, by simpa using e⟩
theorem f2_ok (n fuel : Nat) (w : Nat) (ar : List (Nat × Nat)) (h : OkW w ar) : callF prg fuel (n + 3) 2 [.d (webN w ar)] = ret1 .non := by
  rw [callF_at (np := 1) (ns := 3) (body := f2) rfl rfl (by decide)]
  obtain ⟨g1, g2, g3, g4⟩ := h
  have a0 := f0_ok (n + 1) fuel (w : Int) 1 12 (by omega) (by omega)
  have a3 : ¬ ((20 : Int) < ar.length) := by omega
  obtain ⟨y1, y2, e⟩ := f2_loop n fuel (callG prg fuel (n + 2)) w [.tup (ar.map arN)] ar 0 .no .no (by simp) (by simp) g4
  simp only [b2] at e
  simp [f2, gl0, gl1, a0, a3, e]
theorem f3_ok (n fuel : Nat) (w : Nat) (ar : List (Nat × Nat)) (h : OkW w ar) : callF prg fuel (n + 4) 3 [.d (webN w ar)] = ret1 (webN w ar) := by
  rw [callF_at (np := 1) (ns := 2) (body := f3) rfl rfl (by decide)]
  simp [f3, f2_ok n fuel w ar h]
/-! read_counts -/
abbrev b13 : List ST := [.asg (.n 5) (.call 7 [(.loc 4), (.k (.int 0)), (.glo 2)]),
      .ifs (.ior (.cmp .isN (.loc 5) (.k (.non))) (.cmp .eq (.loc 3) (.idx (.loc 0) (.k (.int 0)))))
        [.rse 3 (some (.loc 3))]
        [],
      .push 2 (.loc 5)]
theorem f13_loop (n fuel : Nat) (ca : Nat → List Val → List Val → M D) (width : Nat) (xs : List D) (s1 : Val) (hs1 : ∀ i, killS prg i (.sh s1) = .sh s1) : ∀ (l : List (List Nat)) (k : Nat) (acc : List D) (x3 x4 x5 : Sl), (∀ i, killS prg i x3 = x3) → (∀ i, killS prg i x4 = x4) → (∀ i, killS prg i x5 = x5) → (∀ w ∈ l, w.length ≤ sizeLine) → acc.length + l.length < sizeLine →
    (∀ e, rdC width k l = .inl e → forL (forF prg (callF prg fuel (n + 1)) ca fuel (.t [.n 3, .n 4]) b13) ((enumL k (strL l)).map Val.d) [.sh (.d (.tup (.int width :: xs))), .sh s1, .ow (.d (.lst acc)), x3, x4, x5] = exM 3 (some (.int e))) ∧
    (∀ ps, rdC width k l = .inr ps → ∃ y3 y4 y5, forL (forF prg (callF prg fuel (n + 1)) ca fuel (.t [.n 3, .n 4]) b13) ((enumL k (strL l)).map Val.d) [.sh (.d (.tup (.int width :: xs))), .sh s1, .ow (.d (.lst acc)), x3, x4, x5] = ret1 (.nx [.sh (.d (.tup (.int width :: xs))), .sh s1, .ow (.d (.lst (acc ++ ps.map D.int))), y3, y4, y5])) := by
  intro l
  induction l with
  | nil =>
    intro k acc x3 x4 x5 h3 h4 h5 hw hl
    constructor
    · intro e he
      cases he
    · intro ps he
      injection he with he
      subst he
      refine ⟨x3, x4, x5, ?_⟩
      show forL _ [] _ = _
      rw [forL_nil]
      simp
  | cons w l ih =>
    intro k acc x3 x4 x5 h3 h4 h5 hw hl
    rw [strL_cons, enumL_cons, List.map_cons, forL_cons]
    simp only [List.length_cons] at hl
    have h7 := nin n fuel (mkS w) 0 1000 (by rw [sg_len, sg_mk]; exact hw w (by simp))
    rw [sg_mk] at h7
    cases ha : numIn w 0 1000 with
    | none =>
      rw [ha] at h7
      constructor
      · intro e he
        simp only [rdC, ha] at he
        injection he with he
        subst he
        simp [forF, hs1, h3, h4, h5, b13, h7, noD, gl2]
      · intro ps he
        simp only [rdC, ha] at he
        cases he
    | some p =>
      rw [ha] at h7
      by_cases hk2 : k = width
      · constructor
        · intro e he
          simp only [rdC, ha, if_pos hk2] at he
          injection he with he
          subst he
          subst hk2
          simp [forF, hs1, h3, h4, h5, b13, h7, noD, gl2]
        · intro ps he
          simp only [rdC, ha, if_pos hk2] at he
          cases he
      · have hk' : ¬ ((k : Int) = width) := by omega
        have hb : forF prg (callF prg fuel (n + 1)) ca fuel (.t [.n 3, .n 4]) b13 (.d (.tup [.int k, .str (mkS w)])) [.sh (.d (.tup (.int width :: xs))), .sh s1, .ow (.d (.lst acc)), x3, x4, x5] =
            ret1 (.nx [.sh (.d (.tup (.int width :: xs))), .sh s1, .ow (.d (.lst (acc ++ [.int p]))), .sh (.d (.int k)), .sh (.d (.str (mkS w))), .sh (.d (.int p))]) := by
          simp [forF, hs1, h3, h4, h5, b13, h7, noD, gl2, hk', isOL, pushO]
          rw [if_pos (by omega)]
          simp
        rw [hb]
        have IH := ih (k + 1) (acc ++ [.int p]) (.sh (.d (.int k))) (.sh (.d (.str (mkS w)))) (.sh (.d (.int p))) (by simp) (by simp) (by simp) (fun x hx => hw x (by simp [hx])) (by simp; omega)
        simp only [ev_bind_ret, fk_nx]
        constructor
        · intro e he
          simp only [rdC, ha, if_neg hk2] at he
          cases hr : rdC width (k + 1) l with
          | inl e' =>
            rw [hr] at he
            injection he with he
            subst he
            exact IH.1 _ hr
          | inr ps =>
            rw [hr] at he
            cases he
        · intro ps he
          simp only [rdC, ha, if_neg hk2] at he
          cases hr : rdC width (k + 1) l with
          | inl e' =>
            rw [hr] at he
            cases he
          | inr ps' =>
            rw [hr] at he
            injection he with he
            subst he
            have := IH.2 _ hr
            simpa using this
theorem f13_ok (n fuel : Nat) (width : Nat) (ar : List (Nat × Nat)) (h : OkW width ar) (s : Str) (hl : s.length + 2 ≤ sizeLine) : callF prg fuel (n + 5) 13 [.d (webN width ar), .d (.str s)] = resC (cntR width (wds s)) := by
  rw [callF_at (np := 2) (ns := 6) (body := f13) rfl rfl (by decide)]
  have hlen : ∀ l ∈ wds s, l.length ≤ sizeLine := fun l h => by
    have := spl1_len 32 _ _ l h
    rw [sg_len] at hl
    simp at this
    omega
  have hcnt : (wds s).length < sizeLine := by
    have := spl1_count 32 (sg s) []
    rw [sg_len] at hl
    show (spl [32] 0 [] (sg s)).length < _
    omega
  have h9 := f9_ok (n + 3) fuel s hl
  generalize wds s = ws at *
  have Lp := f13_loop (n + 3) fuel (callG prg fuel (n + 4)) width [.tup (ar.map arN)] (.d (.str s)) (by simp) ws 0 [] .no .no .no (by simp) (by simp) (by simp) hlen (by simpa using hcnt)
  simp only [b13] at Lp
  simp [f13, f3_ok n fuel width ar h, h9, lf_lst0]
  cases hr : rdC width 0 ws with
  | inl e =>
    rw [Lp.1 e hr]
    simp [cntR, hr, resC]
  | inr ps =>
    obtain ⟨y3, y4, y5, h⟩ := Lp.2 ps hr
    rw [h]
    obtain ⟨g1, g2, g3⟩ := rdC_len width ws 0 ps hr (by omega)
    by_cases hlt : ws.length < width
    · have : ((ws.length : Int) < width) := by omega
      simp [this, cntR, hr, hlt, resC, g1]
    · have : ¬ ((ws.length : Int) < width) := by omega
      simp [this, cntR, hr, hlt, resC, g1, lineD]
/-! counts_text -/
abbrev b4 : List ST := [.ifs (.inot (.call 0 [(.loc 5), (.loc 1), (.loc 2)]))
        [.ret (.tup [(.loc 4)])]
        []]
theorem f4_loop (n fuel : Nat) (ca : Nat → List Val → List Val → M D) (v0 v3 : Val) (lo hi : Int) (hv0 : ∀ i, killS prg i (.sh v0) = .sh v0) (hv3 : ∀ i, killS prg i (.sh v3) = .sh v3) : ∀ (l : List Int) (k : Nat) (x4 x5 : Sl), (∀ i, killS prg i x4 = x4) → (∀ i, killS prg i x5 = x5) → (∀ p ∈ l, lo ≤ p ∧ p ≤ hi) →
    ∃ y4 y5, forL (forF prg (callF prg fuel (n + 1)) ca fuel (.t [.n 4, .n 5]) b4) ((enumL k (l.map D.int)).map Val.d) [.sh v0, .sh (.d (.int lo)), .sh (.d (.int hi)), .sh v3, x4, x5] = ret1 (.nx [.sh v0, .sh (.d (.int lo)), .sh (.d (.int hi)), .sh v3, y4, y5]) := by
  intro l
  induction l with
  | nil => intro k x1 x2 _ _ _; exact ⟨x1, x2, rfl⟩
  | cons p l ih =>
    intro k x4 x5 h4 h5 h
    rw [List.map_cons, enumL_cons, List.map_cons, forL_cons]
    have hp := f0_ok n fuel p lo hi (h p (by simp)).1 (h p (by simp)).2
    have hst : forF prg (callF prg fuel (n + 1)) ca fuel (.t [.n 4, .n 5]) b4 (.d (.tup [.int k, .int p])) [.sh v0, .sh (.d (.int lo)), .sh (.d (.int hi)), .sh v3, x4, x5] = ret1 (.nx [.sh v0, .sh (.d (.int lo)), .sh (.d (.int hi)), .sh v3, .sh (.d (.int k)), .sh (.d (.int p))]) := by
      simp [forF, b4, hv0, hv3, h4, h5, hp]
    rw [hst]
    obtain ⟨y1, y2, e⟩ := ih (k + 1) (.sh (.d (.int k))) (.sh (.d (.int p))) (by simp) (by simp) (fun q hq => h q (by simp [hq]))
    exact ⟨y1, y2, by simpa using e⟩
theorem f4_ok (n fuel : Nat) (w : Nat) (xs : List D) (ps : List Int) (lo hi : Int) (hl : ps.length = w) (h : ∀ p ∈ ps, lo ≤ p ∧ p ≤ hi) : callF prg fuel (n + 2) 4 [.d (.tup (.int w :: xs)), .d (.int lo), .d (.int hi), .d (lineD ps)] = ret1 .non := by
  rw [callF_at (np := 4) (ns := 6) (body := f4) rfl rfl (by decide)]
  obtain ⟨y1, y2, e⟩ := f4_loop n fuel (callG prg fuel (n + 1)) (.d (.tup (.int w :: xs))) (.d (lineD ps)) lo hi (by simp) (by simp) ps 0 .no .no (by simp) (by simp) h
  simp only [b4, lineD] at e
  simp [f4, lineD, hl, e]
theorem f5_ok (n fuel : Nat) (w : Nat) (xs : List D) (ps : List Int) (lo hi : Int) (hl : ps.length = w) (h : ∀ p ∈ ps, lo ≤ p ∧ p ≤ hi) : callF prg fuel (n + 3) 5 [.d (.tup (.int w :: xs)), .d (.int lo), .d (.int hi), .d (lineD ps)] = ret1 (lineD ps) := by
  rw [callF_at (np := 4) (ns := 5) (body := f5) rfl rfl (by decide)]
  simp [f5, f4_ok n fuel w xs ps lo hi hl h]
theorem f6_ok (n fuel : Nat) (w : Nat) (ar : List (Nat × Nat)) (hw : OkW w ar) (ps : List Int) (hl : ps.length = w) (h : ∀ p ∈ ps, 0 ≤ p ∧ p ≤ 1000) : callF prg fuel (n + 5) 6 [.d (webN w ar), .d (lineD ps)] = ret1 (lineD ps) := by
  rw [callF_at (np := 2) (ns := 2) (body := f6) rfl rfl (by decide)]
  simp [f6, f3_ok n fuel w ar hw, f5_ok (n + 1) fuel w _ ps 0 1000 hl h, gl2]
end K14
end
section
set_option Elab.async false
set_option linter.all false
set_option maxRecDepth 100000
set_option maxHeartbeats 4000000
namespace K14
open PySem Di TL
theorem f17_ok (n fuel : Nat) (d : D) (hg : good 60 d = true) (hc : chOk d = true) (hw : wt d ≤ sizeLine) : callF prg fuel (n + 1) 17 [.d d, .d d] = ret1 (.bl true) := by
  rw [callF_at (np := 2) (ns := 2) (body := f17) rfl rfl (by decide)]
  obtain ⟨z, hz⟩ := reprD_self hg hc hw
  have h1 : cmpD .eq d d = some true := by simp only [cmpD]; exact eqD_self hg hc
  have h2 : Di.bi .repr [d] = some (.str z) := by simp only [Di.bi, biRepr]; exact hz
  simp [f17, h1, h2]
/-! joined words -/
abbrev sp : Str := Str.ofString " "
def joinS (ws : List Str) : Str := Txt.join sp ws
theorem sg_join (ws : List Str) : sg (joinS ws) = joinL [32] (ws.map sg) := by
  show tl (Txt.join sp ws) = _
  rw [join_eq, tl_join]
  show joinL (sg sp) _ = _
  rw [sg_sp]
  rfl
theorem joinL_len (k : Nat) : ∀ l : List (List Nat), (∀ w ∈ l, w.length ≤ k) → (joinL [32] l).length ≤ l.length * (k + 1)
  | [], _ => by simp [joinL]
  | [p], h => by
    have := h p (by simp)
    simp [joinL]
    omega
  | p :: q :: r, h => by
    have h1 := h p (by simp)
    have ih := joinL_len k (q :: r) fun w hw => h w (by simp at hw ⊢; right; exact hw)
    rw [joinL_cons (by simp)]
    simp only [List.length_append, List.length_cons, List.length_nil] at ih ⊢
    rw [Nat.succ_mul]
    omega
/-- some words, none long -/
def OkL (k : Nat) (ws : List Str) : Prop := ws.length ≤ k ∧ ∀ w ∈ ws, (sg w).length ≤ 8
theorem join_len {k : Nat} {ws : List Str} (h : OkL k ws) : (joinS ws).length ≤ k * 9 := by
  rw [sg_len, sg_join]
  have := joinL_len 8 (ws.map sg) (by
    intro w hw
    obtain ⟨z, hz, rfl⟩ := List.mem_map.mp hw
    exact h.2 z hz)
  rw [List.length_map] at this
  have := Nat.mul_le_mul_right 9 h.1
  omega
theorem sum_len : ∀ ws : List Str, (∀ w ∈ ws, (sg w).length ≤ 8) → (ws.map (·.length)).sum ≤ ws.length * 8
  | [], _ => by simp
  | w :: r, h => by
    have h1 := h w (by simp)
    have := sum_len r fun x hx => h x (by simp [hx])
    rw [← sg_len] at h1
    simp only [List.map_cons, List.sum_cons, List.length_cons, Nat.succ_mul]
    omega
theorem strsOf_map : ∀ ws : List Str, strsOf (ws.map D.str) = some ws
  | [] => rfl
  | w :: r => by simp only [List.map_cons, strsOf, strsOf_map r]
theorem b_join {k : Nat} {ws : List Str} (h : OkL k ws) (hk : k ≤ 1000) : Di.bi .join [.str sp, .lst (ws.map D.str)] = some (.str (joinS ws)) := by
  simp only [Di.bi, biJoin, strsOf_map]
  have h1 := sum_len ws h.2
  have h2 : sp.length = 1 := by rw [sg_len, sg_sp]; rfl
  have h3 := h.1
  rw [if_pos (by rw [h2]; omega)]
  rfl
/-! the texts of a web and of counts -/
def webWs (w : Nat) (ar : List (Nat × Nat)) : List Str := Str.ofString "web" :: nStr w :: ar.map fun p => mkS (aw p.1 p.2)
theorem aw_len (a b : Nat) (ha : a < 100) (hb : b < 100) : (aw a b).length ≤ 8 := by
  have h1 := numL_len (n := a) (k := 2) (by decide) (by omega)
  have h2 := numL_len (n := b) (k := 2) (by decide) (by omega)
  simp [aw]
  omega
theorem webWs_ok (w : Nat) (ar : List (Nat × Nat)) (h : OkW w ar) : OkL 22 (webWs w ar) := by
  obtain ⟨h1, h2, h3, h4⟩ := h
  constructor
  · simp [webWs]; omega
  · intro x hx
    simp only [webWs, List.mem_cons, List.mem_map] at hx
    rcases hx with rfl | rfl | ⟨p, hp, rfl⟩
    · rw [sg_web]; decide
    · rw [sg_nStr]; have := numL_le w (by omega); omega
    · rw [sg_mk]
      have := h4 p hp
      exact aw_len _ _ (by omega) (by omega)
theorem num_no32 (n : Nat) : 32 ∉ numL n := numL_free (Or.inl (by decide))
theorem wds_join (ws : List Str) (hne : ws ≠ []) (h : ∀ w ∈ ws, 32 ∉ sg w) : wds (joinS ws) = ws.map sg := by
  show spl [32] 0 [] (sg (joinS ws)) = _
  rw [sg_join]
  exact spl_join (by simpa using hne) (by
    intro p hp
    obtain ⟨z, hz, rfl⟩ := List.mem_map.mp hp
    exact h z hz)
theorem rdA_ok (w : Nat) (hw : w ≤ 12) : ∀ (ar : List (Nat × Nat)) (k : Nat), k + ar.length ≤ 20 → (∀ p ∈ ar, p.1 < w ∧ p.2 < w ∧ p.1 ≠ p.2) → rdA w k (ar.map fun p => aw p.1 p.2) = .inr (ar.map fun p => ((p.1 : Int), (p.2 : Int)))
  | [], k, _, _ => rfl
  | p :: r, k, hk, h => by
    have hp := h p (by simp)
    simp only [List.length_cons] at hk
    have h1 := arrO_aw hp.1 hp.2.1 hp.2.2 (by omega)
    have h2 : ¬ k = 20 := by omega
    simp only [List.map_cons, rdA, h1, if_neg h2, rdA_ok w hw r (k + 1) (by omega) fun q hq => h q (by simp [hq])]
theorem rdW_ok (w : Nat) (ar : List (Nat × Nat)) (h : OkW w ar) : rdW (wds (joinS (webWs w ar))) = .inr ((w : Int), ar.map fun p => ((p.1 : Int), (p.2 : Int))) := by
  obtain ⟨h1, h2, h3, h4⟩ := h
  rw [wds_join _ (by simp [webWs]) (by
    intro x hx
    simp only [webWs, List.mem_cons, List.mem_map] at hx
    rcases hx with rfl | rfl | ⟨p, hp, rfl⟩
    · rw [sg_web]; decide
    · rw [sg_nStr]; exact num_no32 _
    · rw [sg_mk]
      simp [aw, num_no32])]
  have hn : numIn (numL w) 1 12 = some (w : Int) := (numIn_some (by decide)).mpr ⟨w, rfl, by omega, by omega, rfl⟩
  have e : (ar.map fun p => mkS (aw p.1 p.2)).map sg = ar.map fun p => aw p.1 p.2 := by
    rw [List.map_map]; rfl
  simp only [webWs, List.map_cons, sg_web, sg_nStr, e, rdW, if_true, hn, rdA_ok w h2 ar 0 (by omega) h4]
theorem webD_N (w : Nat) (ar : List (Nat × Nat)) : webD ((w : Int), ar.map fun p => ((p.1 : Int), (p.2 : Int))) = webN w ar := by
  simp [webD, List.map_map]
theorem f11_web (n fuel : Nat) (w : Nat) (ar : List (Nat × Nat)) (h : OkW w ar) : callF prg fuel (n + 3) 11 [.d (.str (joinS (webWs w ar)))] = ret1 (webN w ar) := by
  have := join_len (webWs_ok w ar h)
  rw [f11_ok n fuel _ (by have : sizeLine = 16777216 := rfl; omega), rdW_ok w ar h, resM, webD_N]
theorem f10_ok (n fuel : Nat) (w : Nat) (ar : List (Nat × Nat)) (h : OkW w ar) : callF prg fuel (n + 5) 10 [.d (webN w ar)] = ret1 (.str (joinS (webWs w ar))) := by
  rw [callF_at (np := 1) (ns := 3) (body := f10) rfl rfl (by decide)]
  have hb := b_join (webWs_ok w ar h) (by decide)
  have hw12 := h.2.1
  simp [f10, f3_ok n fuel w ar h, b_strN w (by omega), lf_lst2, List.map_map]
  rw [compL_mapL ar (g := fun p => D.str (mkS (aw p.1 p.2))) (fun p hp => by
    have h4 := h.2.2.2 p hp
    have ho := aw_opd p.1 p.2 (by omega) (by omega)
    simp [compF, mask, b_strN p.1 (by omega), b_strN p.2 (by omega), ho.1, ho.2])]
  have e2 : (ar.map fun p => D.str (mkS (aw p.1 p.2))) = (ar.map fun p => mkS (aw p.1 p.2)).map D.str := by rw [List.map_map]; rfl
  have h3 := h.2.2.1
  have hs : sizeLine = 16777216 := rfl
  rw [e2]
  simp only [webWs, List.map_cons] at hb
  simp [lf_newL (ys := (ar.map fun p => mkS (aw p.1 p.2)).map D.str) (by rw [List.length_map, List.length_map]; omega), -List.map_map, o_addl (x := [D.str (Str.ofString "web"), D.str (nStr w)]) (y := (ar.map fun p => mkS (aw p.1 p.2)).map D.str) (by simp; omega), hb, webWs]
def numWs (ln : List Nat) : List Str := ln.map nStr
abbrev lnD (ln : List Nat) : D := .tup (ln.map fun (i : Nat) => D.int i)
theorem numWs_ok (ln : List Nat) (h : ln.length ≤ 12) (hb : ∀ i ∈ ln, i ≤ 1000) : OkL 12 (numWs ln) := by
  constructor
  · simpa [numWs] using h
  · intro x hx
    obtain ⟨i, hi, rfl⟩ := List.mem_map.mp hx
    rw [sg_nStr]
    have := numL_le i (by have := hb i hi; omega)
    omega
theorem lineD_ln (ln : List Nat) : lineD (ln.map fun (i : Nat) => (i : Int)) = lnD ln := by
  simp [lineD, List.map_map]
theorem f12_ok (n fuel : Nat) (w : Nat) (ar : List (Nat × Nat)) (h : OkW w ar) (ln : List Nat) (hl : ln.length = w) (hb : ∀ i ∈ ln, i ≤ 1000) : callF prg fuel (n + 6) 12 [.d (webN w ar), .d (lnD ln)] = ret1 (.str (joinS (numWs ln))) := by
  rw [callF_at (np := 2) (ns := 3) (body := f12) rfl rfl (by decide)]
  have hw12 := h.2.1
  have hj := b_join (numWs_ok ln (by omega) hb) (by decide)
  have h6 := f6_ok n fuel w ar h (ln.map fun (i : Nat) => (i : Int)) (by simpa using hl) (by
    intro p hp
    obtain ⟨i, hi, rfl⟩ := List.mem_map.mp hp
    have := hb i hi
    omega)
  rw [lineD_ln] at h6
  simp [f12, h6, List.map_map]
  rw [compL_mapL ln (g := fun i => D.str (nStr i)) (fun i hi => by
    have := hb i hi
    simp [compF, mask, b_strN i (by omega)])]
  have e2 : (ln.map fun i => D.str (nStr i)) = (numWs ln).map D.str := by rw [numWs, List.map_map]; rfl
  have hs : sizeLine = 16777216 := rfl
  rw [e2]
  simp [lf_newL (ys := (numWs ln).map D.str) (by rw [List.length_map, numWs, List.length_map]; omega), hj, -List.map_map]
theorem rdC_ok (width : Nat) : ∀ (ln : List Nat) (k : Nat), k + ln.length ≤ width → (∀ i ∈ ln, i ≤ 1000) → rdC width k (ln.map numL) = .inr (ln.map fun (i : Nat) => (i : Int))
  | [], k, _, _ => rfl
  | i :: r, k, hk, h => by
    have hi := h i (by simp)
    simp only [List.length_cons] at hk
    have h1 : numIn (numL i) 0 1000 = some (i : Int) := (numIn_some (by decide)).mpr ⟨i, rfl, by omega, by omega, rfl⟩
    have h2 : ¬ k = width := by omega
    simp only [List.map_cons, rdC, h1, if_neg h2, rdC_ok width r (k + 1) (by omega) fun q hq => h q (by simp [hq])]
theorem f13_line (n fuel : Nat) (w : Nat) (ar : List (Nat × Nat)) (h : OkW w ar) (ln : List Nat) (hl : ln.length = w) (hb : ∀ i ∈ ln, i ≤ 1000) : callF prg fuel (n + 5) 13 [.d (webN w ar), .d (.str (joinS (numWs ln)))] = ret1 (lnD ln) := by
  have hw := h.2.1
  have hw1 := h.1
  have := join_len (numWs_ok ln (by omega) hb)
  have hs : sizeLine = 16777216 := rfl
  have hne : numWs ln ≠ [] := by
    intro e
    have := congrArg List.length e
    simp [numWs] at this
    rw [this] at hl
    simp at hl
    omega
  rw [f13_ok n fuel w ar h _ (by omega), wds_join _ hne (by
    intro x hx
    obtain ⟨i, hi, rfl⟩ := List.mem_map.mp hx
    rw [sg_nStr]
    exact num_no32 _)]
  have e : (numWs ln).map sg = ln.map numL := by
    rw [numWs, List.map_map]
    apply List.map_congr_left
    intro i _
    exact sg_nStr i
  have hr := rdC_ok w ln 0 (by omega) hb
  have hn : ¬ (ln.map numL).length < w := by rw [List.length_map]; omega
  rw [e]
  simp only [cntR, hr, if_neg hn, resC, lineD_ln]
end K14
end
section
set_option Elab.async false
set_option linter.all false
set_option maxRecDepth 100000
set_option maxHeartbeats 4000000
namespace K14
open PySem Di TL
theorem e15 : prg.fns[15]? = some (.df 2 8 bDraw) := rfl
theorem e16 : prg.fns[16]? = some (.df 2 2 (bOf 15)) := rfl
theorem e18 : prg.fns[18]? = some (.df 2 7 (bShuf 16)) := rfl
theorem e14 : prg.fns[14]? = some (.df 2 6 bBegun) := rfl
theorem dr (n fuel id : Nat) (span : Nat) (h0 : 0 < span) (h1 : span < 1000000) : T id 1 (callF prg fuel (n + 1) 15 [.d (.st id), .d (.int span)]) fun d => ∃ v : Nat, d = .int v ∧ v < span := draw_ok e15 n fuel id span h0 (by omega)
theorem sh (n fuel id : Nat) (count : Nat) (h1 : count < 100000) : T id count (callF prg fuel (n + 3) 18 [.d (.st id), .d (.int count)]) fun x => ∃ l : List Nat, x = .tup (natL l) ∧ l.length = count ∧ l.Nodup ∧ ∀ i ∈ l, i < count := shuf_ok e18 e16 e15 n fuel id count h1
theorem ixT (l : List Nat) (i : Nat) (h : i < l.length) : idxD (.tup (natL l)) (.int i) = some (.int (l[i] : Nat)) := by
  simp only [idxD, L2.atI, L2.ixN, List.length_map]
  rw [if_pos (by omega), if_pos (by omega)]
  simp [h]
theorem ixL (l : List (Nat × Nat)) (i : Nat) (h : i < l.length) : idxD (.lst (l.map arN)) (.int i) = some (arN l[i]) := by
  simp only [idxD, L2.atI, L2.ixN, List.length_map]
  rw [if_pos (by omega), if_pos (by omega)]
  simp [h]
abbrev b22 : List ST := [.asg (.n 7) (.tup [(.idx (.loc 3) (.loc 5)), (.idx (.loc 3) (.loc 6))]),
      .push 4 (.ite (.cmp .eq (.call 15 [(.loc 0), (.k (.int 2))]) (.k (.int 0))) (.loc 7) (.rev (.loc 7)))]
def OkA (w : Nat) (p : Nat × Nat) : Prop := p.1 < w ∧ p.2 < w ∧ p.1 ≠ p.2
def I22 (id w : Nat) (v1 : Val) (l : List Nat) (N : Nat) (r : List Val) (ρ : Di.Env) : Prop := ∃ (ar F : List (Nat × Nat)) (x5 x6 x7 : Sl), r = ar.map (fun p => Val.d (arN p)) ∧ (∀ p ∈ ar, OkA w p) ∧
  ρ = [.sh (.d (.st id)), .sh v1, .sh (.d (.int w)), .sh (.d (.tup (natL l))), .ow (.d (.lst (F.map arN))), x5, x6, x7, .no] ∧
  (∀ i, killS prg i x5 = x5) ∧ (∀ i, killS prg i x6 = x6) ∧ (∀ i, killS prg i x7 = x7) ∧ (∀ p ∈ F, OkA w p) ∧ F.length + r.length = N
theorem st22 (n fuel id w : Nat) (v1 : Val) (hv1 : ∀ i, killS prg i (.sh v1) = .sh v1) (l : List Nat) (N : Nat) (hN : N ≤ 100) (hl : l.length = w) (hnd : l.Nodup) (hlt : ∀ i ∈ l, i < w) (x : Val) (r : List Val) (ρ : Di.Env) (hI : I22 id w v1 l N (x :: r) ρ) :
    T id 1 (forF prg (callF prg fuel (n + 1)) (callG prg fuel (n + 1)) fuel (.t [.n 5, .n 6]) b22 x ρ) fun fl => ∃ ρ', fl = .nx ρ' ∧ I22 id w v1 l N r ρ' := by
  obtain ⟨ar, F, x5, x6, x7, har, hok, rfl, h5, h6, h7, hF, hlen⟩ := hI
  have hs : sizeLine = 16777216 := rfl
  cases ar with
  | nil => cases har
  | cons p ar =>
    rw [List.map_cons] at har
    injection har with e1 e2
    subst e1
    subst e2
    obtain ⟨p1, p2, p3⟩ := hok p (by simp)
    simp only [List.length_cons, List.length_map] at hlen
    have i1 := ixT l p.1 (by omega)
    have i2 := ixT l p.2 (by omega)
    have hlt1 := hlt l[p.1] (List.getElem_mem _)
    have hlt2 := hlt l[p.2] (List.getElem_mem _)
    have hne : l[p.1] ≠ l[p.2] := fun e => p3 ((List.getElem_inj hnd).mp e)
    have hd := dr n fuel id 2 (by decide) (by decide)
    simp [forF, b22, hv1, h5, h6, h7, i1, i2, lf_tupD, isOL]
    refine T_mono (T_bind hd (k2 := 0) fun a ha => ?_) (by omega) fun a h => h
    obtain ⟨v, rfl, hv⟩ := ha
    by_cases h0 : v = 0
    · subst h0
      simp [pushO]
      rw [if_pos (by omega)]
      refine T_ret ⟨_, rfl, ar, F ++ [(l[p.1], l[p.2])], .sh (.d (.int p.1)), .sh (.d (.int p.2)), .sh (.d (arN (l[p.1], l[p.2]))), rfl, fun q hq => hok q (by simp [hq]), by simp, by simp, by simp, by simp, ?_, by simp; omega⟩
      intro q hq
      rcases List.mem_append.mp hq with hq | hq
      · exact hF q hq
      · simp at hq
        subst hq
        exact ⟨hlt1, hlt2, hne⟩
    · have h0' : ¬ ((v : Int) = 0) := by omega
      simp [h0, pushO, revD]
      rw [if_pos (by omega)]
      refine T_ret ⟨_, rfl, ar, F ++ [(l[p.2], l[p.1])], .sh (.d (.int p.1)), .sh (.d (.int p.2)), .sh (.d (arN (l[p.1], l[p.2]))), rfl, fun q hq => hok q (by simp [hq]), by simp, by simp, by simp, by simp, ?_, by simp; omega⟩
      intro q hq
      rcases List.mem_append.mp hq with hq | hq
      · exact hF q hq
      · simp at hq
        subst hq
        exact ⟨hlt2, hlt1, fun e => hne e.symm⟩
abbrev r22 : ST := .ret (.tup [(.loc 2), (.bi .tuple [(.comp [8] (.n 8) .seq [(.call 18 [(.loc 0), (.bi .len [(.loc 4)])])] [] (.idx (.loc 4) (.loc 8)))])])
theorem ret22 (n fuel id w : Nat) (hw1 : 1 ≤ w) (hw2 : w ≤ 12) (v1 : Val) (l : List Nat) (N : Nat) (hN : N ≤ 20) (ρ : Di.Env) (hI : I22 id w v1 l N [] ρ) :
    T id N (Di.exec prg (callF prg fuel (n + 3)) (callG prg fuel (n + 3)) fuel r22 ρ) fun fl => ∃ ar', fl = .rt (webN w ar') ∧ OkW w ar' := by
  obtain ⟨ar, F, x5, x6, x7, har, hok, rfl, h5, h6, h7, hF, hlen⟩ := hI
  have hlen : F.length = N := by simpa using hlen
  have hs : sizeLine = 16777216 := rfl
  have hsh := sh n fuel id F.length (by omega)
  simp [r22]
  refine T_mono (T_bind hsh (k2 := 0) fun a ha => ?_) (by omega) fun a h => h
  obtain ⟨l2, rfl, g1, g2, g3⟩ := ha
  simp [List.map_map]
  rw [compL_mapL l2 (h := Val.d ∘ fun (i : Nat) => D.int i) (g := fun i => arN (F[i]?.getD (0, 1))) (fun i hi => by
    have := ixL F i (g3 i hi)
    have e : F[i]?.getD (0, 1) = F[i]'(g3 i hi) := by
      simp [g3 i hi]
    simp [compF, mask, this, e])]
  simp [lf_newL (ys := l2.map fun i => arN (F[i]?.getD (0, 1))) (by rw [List.length_map]; omega), lf_tupD]
  refine T_ret ⟨l2.map fun i => F[i]?.getD (0, 1), by simp [webN, List.map_map], hw1, hw2, by rw [List.length_map]; omega, ?_⟩
  intro p hp
  obtain ⟨i, hi, rfl⟩ := List.mem_map.mp hp
  have e : F[i]?.getD (0, 1) = F[i]'(g3 i hi) := by simp [g3 i hi]
  rw [e]
  exact hF _ (List.getElem_mem _)
theorem f22_ok (n fuel id w : Nat) (hw1 : 1 ≤ w) (hw2 : w ≤ 12) (ar : List (Nat × Nat)) (har : ar.length ≤ 20) (hok : ∀ p ∈ ar, OkA w p) :
    T id 60 (callF prg fuel (n + 4) 22 [.d (.st id), .d (.lst (ar.map arN)), .d (.int w)]) fun d => ∃ ar', d = webN w ar' ∧ OkW w ar' := by
  rw [callF_at (np := 3) (ns := 9) (body := f22) rfl rfl (by decide)]
  have hsh := sh n fuel id w (by omega)
  simp [f22, lf_lst0]
  refine T_mono (T_bind hsh (k2 := 45) fun a ha => ?_) (by omega) fun a h => h
  obtain ⟨l, rfl, g1, g2, g3⟩ := ha
  have hl := T_for (id := id) (k := 1) (I := I22 id w (.d (.lst (ar.map arN))) l ar.length) (st22 (n + 2) fuel id w (.d (.lst (ar.map arN))) (by simp) l ar.length (by omega) g1 g2 g3)
    (ar.map fun p => Val.d (arN p)) [.sh (.d (.st id)), .sh (.d (.lst (ar.map arN))), .sh (.d (.int w)), .sh (.d (.tup (natL l))), .ow (.d (.lst [])), .no, .no, .no, .no]
    ⟨ar, [], .no, .no, .no, rfl, hok, rfl, by simp, by simp, by simp, by simp, by simp⟩
  simp only [b22, List.length_map, Nat.mul_one] at hl
  refine T_mono (T_bind hl (k2 := 20) fun fl hfl => ?_) (by omega) fun a h => h
  obtain ⟨ρ', rfl, hI⟩ := hfl
  have hr := ret22 n fuel id w hw1 hw2 _ l ar.length har ρ' hI
  simp only [r22] at hr
  simp only [go_nx, exs_cons, exs_nil, ev_bind_assoc]
  refine T_mono (T_bind hr (k2 := 0) fun fl hfl => ?_) (by omega) fun a h => h
  obtain ⟨ar', rfl, h⟩ := hfl
  simp
  exact T_ret ⟨ar', rfl, h⟩
end K14
end
section
set_option Elab.async false
set_option linter.all false
set_option maxRecDepth 100000
set_option maxHeartbeats 4000000
namespace K14
open PySem Di TL
theorem ne_str {a b : String} (h : a.toList.map Char.toNat ≠ b.toList.map Char.toNat) : ¬ (Str.ofString a = Str.ofString b) := fun e => h (by rw [← sg_of, ← sg_of, e])
theorem nEA : ¬ (Str.ofString "E" = Str.ofString "A") := ne_str (by decide)
theorem nED : ¬ (Str.ofString "E" = Str.ofString "D") := ne_str (by decide)
theorem nDA : ¬ (Str.ofString "D" = Str.ofString "A") := ne_str (by decide)
def chain (n : Nat) : List (Nat × Nat) := (List.range n).map fun k => (k, k + 1)
def tiesE (w : Nat) : List (Nat × Nat) := chain (w - 2) ++ [(2, w - 1)]
def tiesD (w : Nat) : List (Nat × Nat) := chain (w - 2) ++ [(w - 3, w - 1)]
theorem chain_comp (cf : Nat → List Val → M D) (ca : Nat → List Val → List Val → M D) (s : Nat) (ρ : Di.Env) (n : Nat) (hs : s < ρ.length) :
    noEx (compL (compF prg cf ca (.n s) [] (.tup [(.loc s), (.op .add (.loc s) (.k (.int 1)))]) ρ) ((List.range n).map fun (i : Nat) => Val.d (.int i))) = ret1 ((chain n).map arN) := by
  rw [compL_mapL (List.range n) (h := fun (i : Nat) => Val.d (.int i)) (g := fun k => arN (k, k + 1)) (fun i _ => by
    simp [compF, hs, lf_tupD, arN])]
  simp [chain, List.map_map]
  rfl
theorem chain_len (n : Nat) : (chain n).length = n := by simp [chain]
theorem chain_ok (n w : Nat) (h : n < w) : ∀ p ∈ chain n, OkA w p := by
  intro p hp
  obtain ⟨k, hk, rfl⟩ := List.mem_map.mp hp
  have : k < n := by simpa using hk
  exact ⟨by omega, by show k + 1 < w; omega, by show k ≠ k + 1; omega⟩
theorem range_sub (w j : Nat) (h : j ≤ w) (hw : w < 100) : (rangeD [.int ((w : Int) - (j : Int))]).map (·.map Val.d) = some ((List.range (w - j)).map fun (i : Nat) => Val.d (.int i)) := by
  have : (w : Int) - (j : Int) = ((w - j : Nat) : Int) := by omega
  rw [this, rng_nat _ (by omega), Option.map_some, List.map_map]
  rfl
theorem f19_E (n fuel w : Nat) (h3 : 4 ≤ w) (hw : w ≤ 12) : callF prg fuel (n + 1) 19 [.d (.str (Str.ofString "E")), .d (.int w)] = ret1 (.lst ((tiesE w).map arN)) := by
  rw [callF_at (np := 2) (ns := 3) (body := f19) rfl rfl (by decide)]
  have hs : sizeLine = 16777216 := rfl
  have hr := range_sub w 2 (by omega) (by omega)
  have hc := chain_comp (callF prg fuel n) (callG prg fuel n) 2 (mask [2] 0 [.sh (.d (.str (Str.ofString "E"))), .sh (.d (.int w)), .no]) (w - 2) (by simp [mask])
  have e1 : (w : Int) - 1 = ((w - 1 : Nat) : Int) := by omega
  have hl := chain_len (w - 2)
  have ho := o_addl (x := (chain (w - 2)).map arN) (y := [.tup [.int 2, .int ((w - 1 : Nat) : Int)]]) (by simp; omega)
  simp only [Int.cast_ofNat_Int] at hr
  simp [f19, nEA, nED, hr, hc, lf_newL (ys := (chain (w - 2)).map arN) (by rw [List.length_map]; omega), lf_tupD, lf_lst1, e1, ho, tiesE, arN]
theorem f19_D (n fuel w : Nat) (h3 : 4 ≤ w) (hw : w ≤ 12) : callF prg fuel (n + 1) 19 [.d (.str (Str.ofString "D")), .d (.int w)] = ret1 (.lst ((tiesD w).map arN)) := by
  rw [callF_at (np := 2) (ns := 3) (body := f19) rfl rfl (by decide)]
  have hs : sizeLine = 16777216 := rfl
  have hr := range_sub w 2 (by omega) (by omega)
  have hc := chain_comp (callF prg fuel n) (callG prg fuel n) 2 (mask [2] 0 [.sh (.d (.str (Str.ofString "D"))), .sh (.d (.int w)), .no]) (w - 2) (by simp [mask])
  have e1 : (w : Int) - 1 = ((w - 1 : Nat) : Int) := by omega
  have e3 : (w : Int) - 3 = ((w - 3 : Nat) : Int) := by omega
  have hl := chain_len (w - 2)
  have ho := o_addl (x := (chain (w - 2)).map arN) (y := [.tup [.int ((w - 3 : Nat) : Int), .int ((w - 1 : Nat) : Int)]]) (by simp; omega)
  simp only [Int.cast_ofNat_Int] at hr
  simp [f19, nDA, hr, hc, lf_newL (ys := (chain (w - 2)).map arN) (by rw [List.length_map]; omega), lf_tupD, lf_lst1, e1, e3, ho, tiesD]
theorem ties_ok (w : Nat) (h : 4 ≤ w) : (∀ p ∈ tiesE w, OkA w p) ∧ (∀ p ∈ tiesD w, OkA w p) := by
  constructor
  · intro p hp
    rcases List.mem_append.mp hp with hp | hp
    · exact chain_ok _ _ (by omega) p hp
    · simp at hp
      subst hp
      exact ⟨by show 2 < w; omega, by show w - 1 < w; omega, by show 2 ≠ w - 1; omega⟩
  · intro p hp
    rcases List.mem_append.mp hp with hp | hp
    · exact chain_ok _ _ (by omega) p hp
    · simp at hp
      subst hp
      exact ⟨by show w - 3 < w; omega, by show w - 1 < w; omega, by show w - 3 ≠ w - 1; omega⟩
theorem f20_ok (n fuel id w : Nat) (k : Str) (hw1 : 4 ≤ w) (hw2 : w ≤ 12) (ar : List (Nat × Nat)) (har : ar.length ≤ 20) (hok : ∀ p ∈ ar, OkA w p) (h19 : callF prg fuel (n + 3) 19 [.d (.str k), .d (.int w)] = ret1 (.lst (ar.map arN))) :
    T id 60 (callF prg fuel (n + 4) 20 [.d (.st id), .d (.str k), .d (.int w)]) fun d => ∃ ar', d = webN w ar' ∧ OkW w ar' := by
  rw [callF_at (np := 3) (ns := 9) (body := f20) rfl rfl (by decide)]
  have hsh := sh n fuel id w (by omega)
  simp [f20, lf_lst0]
  refine T_mono (T_bind hsh (k2 := 45) fun a ha => ?_) (by omega) fun a h => h
  obtain ⟨l, rfl, g1, g2, g3⟩ := ha
  simp [h19, List.map_map]
  have hl := T_for (id := id) (k := 1) (I := I22 id w (.d (.str k)) l ar.length) (st22 (n + 2) fuel id w (.d (.str k)) (by simp) l ar.length (by omega) g1 g2 g3)
    (ar.map fun p => Val.d (arN p)) [.sh (.d (.st id)), .sh (.d (.str k)), .sh (.d (.int w)), .sh (.d (.tup (natL l))), .ow (.d (.lst [])), .no, .no, .no, .no]
    ⟨ar, [], .no, .no, .no, rfl, hok, rfl, by simp, by simp, by simp, by simp, by simp⟩
  simp only [b22, List.length_map, Nat.mul_one] at hl
  refine T_mono (T_bind hl (k2 := 20) fun fl hfl => ?_) (by omega) fun a h => h
  obtain ⟨ρ', rfl, hI⟩ := hfl
  have hr := ret22 n fuel id w (by omega) hw2 _ l ar.length har ρ' hI
  simp only [r22] at hr
  simp only [go_nx, exs_cons, exs_nil, ev_bind_assoc]
  refine T_mono (T_bind hr (k2 := 0) fun fl hfl => ?_) (by omega) fun a h => h
  obtain ⟨ar', rfl, h⟩ := hfl
  simp
  exact T_ret ⟨ar', rfl, h⟩
end K14
end
section
set_option Elab.async false
set_option linter.all false
set_option maxRecDepth 100000
set_option maxHeartbeats 4000000
namespace K14
open PySem Di TL
abbrev b23i : List ST := [.asg (.n 3) (.op .add (.loc 3) (.k (.int 1))),
        .push 2 (.tup [(.loc 5), (.loc 3)]),
        .asg (.n 5) (.loc 3)]
abbrev E23 (id : Nat) (v1 : Val) (F : List (Nat × Nat)) (last : Nat) (x4 x5 x6 : Sl) : Di.Env := [.sh (.d (.st id)), .sh v1, .ow (.d (.lst (F.map arN))), .sh (.d (.int last)), x4, x5, x6]
def J23 (F : List (Nat × Nat)) (last : Nat) : Prop := F.length = last ∧ ∀ p ∈ F, OkA (last + 1) p
theorem J23_step {F : List (Nat × Nat)} {last here : Nat} (h : J23 F last) (hh : here ≤ last) : J23 (F ++ [(here, last + 1)]) (last + 1) := by
  refine ⟨by simp [h.1], ?_⟩
  intro p hp
  rcases List.mem_append.mp hp with hp | hp
  · obtain ⟨a, b, c⟩ := h.2 p hp
    exact ⟨by omega, by omega, c⟩
  · simp at hp
    subst hp
    exact ⟨by show here < last + 1 + 1; omega, by show last + 1 < last + 1 + 1; omega, by show here ≠ last + 1; omega⟩
theorem f23_in (cf : Nat → List Val → M D) (ca : Nat → List Val → List Val → M D) (fuel id : Nat) (v1 : Val) (x4 : Sl) (hv1 : ∀ i, killS prg i (.sh v1) = .sh v1) (h4 : ∀ i, killS prg i x4 = x4) :
    ∀ (l : List Nat) (F : List (Nat × Nat)) (last here : Nat) (x6 : Sl), (∀ i, killS prg i x6 = x6) → J23 F last → here ≤ last → last + l.length < 1000 →
    ∃ F' here' y6, forL (forF prg cf ca fuel (.n 6) b23i) (l.map fun (i : Nat) => Val.d (.int i)) (E23 id v1 F last x4 (.sh (.d (.int here))) x6) = ret1 (.nx (E23 id v1 F' (last + l.length) x4 (.sh (.d (.int (here' : Nat)))) y6)) ∧ J23 F' (last + l.length) ∧ (∀ i, killS prg i y6 = y6) := by
  intro l
  induction l with
  | nil => intro F last here x6 h6 hj hh hl; exact ⟨F, here, x6, rfl, hj, h6⟩
  | cons k l ih =>
    intro F last here x6 h6 hj hh hl
    simp only [List.length_cons] at hl
    rw [List.map_cons, forL_cons]
    have hs : sizeLine = 16777216 := rfl
    have hFl := hj.1
    have hst : forF prg cf ca fuel (.n 6) b23i (.d (.int k)) (E23 id v1 F last x4 (.sh (.d (.int here))) x6) = ret1 (.nx (E23 id v1 (F ++ [(here, last + 1)]) (last + 1) x4 (.sh (.d (.int (last + 1 : Nat)))) (.sh (.d (.int k))))) := by
      simp [forF, b23i, hv1, h4, h6, lf_tupD, isOL, pushO]
      rw [if_pos (by omega)]
      simp [arN, hv1, h4, E23]
    rw [hst]
    obtain ⟨F', here', y6, e1, e2, e3⟩ := ih (F ++ [(here, last + 1)]) (last + 1) (last + 1) (.sh (.d (.int k))) (by simp) (J23_step hj hh) (by omega) (by omega)
    have e : last + 1 + l.length = last + (k :: l).length := by simp; omega
    rw [e] at e1 e2
    exact ⟨F', here', y6, by simpa using e1, e2, e3⟩
abbrev b23o : List ST := [.asg (.n 5) (.k (.int 0)), .for (.n 6) .range [(.loc 4)] b23i]
theorem f23_row (cf : Nat → List Val → M D) (ca : Nat → List Val → List Val → M D) (fuel id : Nat) (v1 : Val) (hv1 : ∀ i, killS prg i (.sh v1) = .sh v1) (F : List (Nat × Nat)) (last arm : Nat) (x4 x5 x6 : Sl) (h4 : ∀ i, killS prg i x4 = x4) (h5 : ∀ i, killS prg i x5 = x5) (h6 : ∀ i, killS prg i x6 = x6) (hj : J23 F last) (hl : last + arm < 1000) :
    ∃ F' here' y6, forF prg cf ca fuel (.n 4) b23o (.d (.int arm)) (E23 id v1 F last x4 x5 x6) = ret1 (.nx (E23 id v1 F' (last + arm) (.sh (.d (.int arm))) (.sh (.d (.int (here' : Nat)))) y6)) ∧ J23 F' (last + arm) ∧ (∀ i, killS prg i y6 = y6) := by
  obtain ⟨F', here', y6, e1, e2, e3⟩ := f23_in cf ca fuel id v1 (.sh (.d (.int arm))) hv1 (by simp) (List.range arm) F last 0 x6 h6 hj (by omega) (by rw [List.length_range]; omega)
  rw [List.length_range] at e1 e2
  refine ⟨F', here', y6, ?_, e2, e3⟩
  have hset : setTg prg (.n 4) (Val.d (.int arm)) (E23 id v1 F last x4 x5 x6) = some (E23 id v1 F last (.sh (.d (.int arm))) x5 x6) := by simp [hv1, h4, h5, h6]
  have has : Di.exec prg cf ca fuel (.asg (.n 5) (.k (.int 0))) (E23 id v1 F last (.sh (.d (.int arm))) x5 x6) = ret1 (.nx (E23 id v1 F last (.sh (.d (.int arm))) (.sh (.d (.int 0))) x6)) := by simp [hv1, h4, h5, h6]
  unfold forF
  rw [hset, ev_bind_some, exs_cons, has, ev_bind_ret, go_nx, exs_cons, for_rng (n := arm) (by omega) (by simp)]
  rw [show (0 : Int) = ((0 : Nat) : Int) from rfl, e1, ev_bind_ret, go_nx, exs_nil]
theorem f23_out (cf : Nat → List Val → M D) (ca : Nat → List Val → List Val → M D) (fuel id : Nat) (v1 : Val) (hv1 : ∀ i, killS prg i (.sh v1) = .sh v1) :
    ∀ (arms : List Nat) (F : List (Nat × Nat)) (last : Nat) (x4 x5 x6 : Sl), (∀ i, killS prg i x4 = x4) → (∀ i, killS prg i x5 = x5) → (∀ i, killS prg i x6 = x6) → J23 F last → last + arms.sum < 1000 →
    ∃ F' y4 y5 y6, forL (forF prg cf ca fuel (.n 4) b23o) (arms.map fun (i : Nat) => Val.d (.int i)) (E23 id v1 F last x4 x5 x6) = ret1 (.nx (E23 id v1 F' (last + arms.sum) y4 y5 y6)) ∧ J23 F' (last + arms.sum) := by
  intro arms
  induction arms with
  | nil => intro F last x4 x5 x6 h4 h5 h6 hj hl; exact ⟨F, x4, x5, x6, rfl, hj⟩
  | cons a r ih =>
    intro F last x4 x5 x6 h4 h5 h6 hj hl
    rw [List.sum_cons] at hl
    rw [List.map_cons, forL_cons]
    obtain ⟨F1, here1, y6, e1, e2, e3⟩ := f23_row cf ca fuel id v1 hv1 F last a x4 x5 x6 h4 h5 h6 hj (by omega)
    rw [e1]
    obtain ⟨F', z4, z5, z6, g1, g2⟩ := ih F1 (last + a) (.sh (.d (.int a))) (.sh (.d (.int here1))) y6 (by simp) (by simp) e3 e2 (by omega)
    have e : last + a + r.sum = last + (a :: r).sum := by rw [List.sum_cons]; omega
    rw [e] at g1 g2
    exact ⟨F', z4, z5, z6, by simpa using g1, g2⟩
theorem f23_ok (n fuel id : Nat) (arms : List Nat) (ha : arms.sum ≤ 11) :
    T id 60 (callF prg fuel (n + 5) 23 [.d (.st id), .d (.tup (natL arms))]) fun d => ∃ w ar', d = webN w ar' ∧ OkW w ar' := by
  rw [callF_at (np := 2) (ns := 7) (body := f23) rfl rfl (by decide)]
  obtain ⟨F', y4, y5, y6, e1, e2⟩ := f23_out (callF prg fuel (n + 4)) (callG prg fuel (n + 4)) fuel id (.d (.tup (natL arms))) (by simp) arms [] 0 .no .no .no (by simp) (by simp) (by simp) ⟨rfl, by simp⟩ (by omega)
  simp only [b23o, b23i, Nat.zero_add] at e1 e2
  simp [f23, lf_lst0, List.map_map, -ex_for]
  rw [ex_for]
  simp [List.map_map]
  have e3 : (Val.d ∘ fun (i : Nat) => D.int i) = fun (i : Nat) => Val.d (.int i) := rfl
  unfold E23 at e1
  simp only [List.map_nil] at e1
  rw [show ((0 : Nat) : Int) = 0 from rfl] at e1
  rw [e3, e1]
  have h22 := f22_ok n fuel id (arms.sum + 1) (by omega) (by omega) F' (by have := e2.1; omega) e2.2
  simp only [Int.natCast_add, Int.natCast_one] at h22
  simp only [ev_bind_ret]
  simp
  refine T_mono (T_bind h22 (k2 := 0) fun a ha => ?_) (by omega) fun a h => h
  obtain ⟨ar', rfl, h⟩ := ha
  exact T_ret ⟨_, ar', rfl, h⟩
end K14
end
section
set_option Elab.async false
set_option linter.all false
set_option maxRecDepth 100000
set_option maxHeartbeats 4000000
namespace K14
open PySem Di TL
def ring (w : Nat) : List (Nat × Nat) := (List.range w).map fun k => (k, (k + 1) % w)
theorem ring_ok (w : Nat) (h : 2 ≤ w) : ∀ p ∈ ring w, OkA w p := by
  intro p hp
  obtain ⟨k, hk, rfl⟩ := List.mem_map.mp hp
  have hk : k < w := by simpa using hk
  refine ⟨hk, Nat.mod_lt _ (by omega), ?_⟩
  show k ≠ (k + 1) % w
  by_cases e : k + 1 = w
  · rw [e, Nat.mod_self]; omega
  · rw [Nat.mod_eq_of_lt (by omega)]; omega
theorem fmod_nat (k w : Nat) : ((k : Int) + 1).fmod (1 + (w : Int) + 1) = (((k + 1) % (w + 2) : Nat) : Int) := by
  rw [Int.fmod_eq_emod_of_nonneg _ (by omega)]
  have : (1 + (w : Int) + 1) = ((w + 2 : Nat) : Int) := by omega
  rw [this]
  have h2 : (k : Int) + 1 = ((k + 1 : Nat) : Int) := by omega
  rw [h2]
  exact (Int.natCast_emod _ _).symm
def arms9 : List (List Nat) := [[1, 1, 1, 1], [2, 2, 2], [1, 3, 3], [1, 2, 5], [1, 1, 5], [2, 2, 1], [1, 2, 6], [1, 1, 1, 2], [3, 3, 2]]
theorem cut4_2 {α : Type} (a b c d : α) : cutL [a, b, c, d] none (some 2) = [a, b] := by simp [cutL, HT.sIx]
theorem cut4_3 {α : Type} (a b c d : α) : cutL [a, b, c, d] none (some 3) = [a, b, c] := by simp [cutL, HT.sIx]
theorem cut4_4 {α : Type} (a b c d : α) : cutL [a, b, c, d] none (some 4) = [a, b, c, d] := by simp [cutL, HT.sIx]
abbrev b21 : List ST := [.par [(10, false), (11, false)] [(.call 15 [(.loc 0), (.loc 2)]), (.call 15 [(.loc 0), (.op .sub (.loc 2) (.k (.int 1)))])],
      .push 8 (.tup [(.loc 10), (.ite (.cmp .lt (.loc 11) (.loc 10)) (.loc 11) (.op .add (.loc 11) (.k (.int 1))))])]
def I21 (id w : Nat) (v1 : Val) (N : Nat) (r : List Val) (ρ : Di.Env) : Prop := ∃ (F : List (Nat × Nat)) (x9 x10 x11 : Sl),
  ρ = [.sh (.d (.st id)), .sh v1, .sh (.d (.int w)), .no, .no, .no, .no, .no, .ow (.d (.lst (F.map arN))), x9, x10, x11] ∧
  (∀ i, killS prg i x9 = x9) ∧ (∀ i, killS prg i x10 = x10) ∧ (∀ i, killS prg i x11 = x11) ∧ (∀ p ∈ F, OkA w p) ∧ F.length + r.length = N ∧ ∀ x ∈ r, ∃ d, x = .d d
theorem st21 (n fuel id w : Nat) (hw : 2 ≤ w) (hw2 : w ≤ 100) (v1 : Val) (hv1 : ∀ i, killS prg i (.sh v1) = .sh v1) (N : Nat) (hN : N ≤ 100) (x : Val) (r : List Val) (ρ : Di.Env) (hI : I21 id w v1 N (x :: r) ρ) :
    T id 2 (forF prg (callF prg fuel (n + 1)) (callG prg fuel (n + 1)) fuel (.n 9) b21 x ρ) fun fl => ∃ ρ', fl = .nx ρ' ∧ I21 id w v1 N r ρ' := by
  obtain ⟨F, x9, x10, x11, rfl, h9, h10, h11, hF, hlen, hx⟩ := hI
  have hs : sizeLine = 16777216 := rfl
  obtain ⟨x, rfl⟩ := hx x (by simp)
  simp only [List.length_cons] at hlen
  have d1 := dr n fuel id w (by omega) (by omega)
  have d2 := dr n fuel id (w - 1) (by omega) (by omega)
  have e1 : ((w - 1 : Nat) : Int) = (w : Int) - 1 := by omega
  rw [e1] at d2
  simp [forF, b21, hv1, h9, h10, h11, isOL]
  refine T_mono (T_bind d1 (k2 := 1) fun a ha => ?_) (by omega) fun a h => h
  obtain ⟨a, rfl, ha⟩ := ha
  refine T_mono (T_bind d2 (k2 := 0) fun b hb => ?_) (by omega) fun a h => h
  obtain ⟨b, rfl, hb⟩ := hb
  by_cases hab : b < a
  · have hab' : (b : Int) < a := by omega
    simp [hab, lf_tupD, pushO]
    rw [if_pos (by omega)]
    refine T_ret ⟨_, rfl, F ++ [(a, b)], .sh (.d x), .sh (.d (.int a)), .sh (.d (.int b)), by simp [arN], by simp, by simp, by simp, ?_, by simp; omega, fun z hz => hx z (by simp [hz])⟩
    intro q hq
    rcases List.mem_append.mp hq with hq | hq
    · exact hF q hq
    · simp at hq
      subst hq
      exact ⟨ha, by show b < w; omega, by show a ≠ b; omega⟩
  · have hab' : ¬ (b : Int) < a := by omega
    simp [hab, lf_tupD, pushO]
    rw [if_pos (by omega)]
    refine T_ret ⟨_, rfl, F ++ [(a, b + 1)], .sh (.d x), .sh (.d (.int a)), .sh (.d (.int b)), by simp [arN], by simp, by simp, by simp, ?_, by simp; omega, fun z hz => hx z (by simp [hz])⟩
    intro q hq
    rcases List.mem_append.mp hq with hq | hq
    · exact hF q hq
    · simp at hq
      subst hq
      exact ⟨ha, by show b + 1 < w; omega, by show a ≠ b + 1; omega⟩
def WebQ (d : D) : Prop := ∃ w ar, d = webN w ar ∧ OkW w ar
theorem f21_ok (n fuel id : Nat) : T id 200 (callF prg fuel (n + 6) 21 [.d (.st id)]) WebQ := by
  rw [callF_at (np := 1) (ns := 12) (body := f21) rfl rfl (by decide)]
  have hs : sizeLine = 16777216 := rfl
  have dr' := fun (span : Nat) h0 h1 => dr (n + 4) fuel id span h0 h1
  simp [f21]
  refine T_mono (T_bind (dr' 7 (by decide) (by decide)) (k2 := 190) fun a ha => ?_) (by omega) fun a h => h
  obtain ⟨way, rfl, hway⟩ := ha
  simp
  refine T_mono (T_bind (dr' 8 (by decide) (by decide)) (k2 := 180) fun a ha => ?_) (by omega) fun a h => h
  obtain ⟨wd, rfl, hwd⟩ := ha
  simp
  by_cases c0 : way = 0
  · subst c0
    simp
    refine T_mono (T_bind (dr' 3 (by decide) (by decide)) (k2 := 70) fun a ha => ?_) (by omega) fun a h => h
    obtain ⟨v, rfl, hv⟩ := ha
    have h19 := f19_E (n + 3) fuel (6 + v) (by omega) (by omega)
    have h20 := f20_ok (n + 1) fuel id (6 + v) (Str.ofString "E") (by omega) (by omega) (tiesE (6 + v)) (by simp [tiesE, chain_len]; omega) (ties_ok (6 + v) (by omega)).1 h19
    simp only [Int.natCast_add, Int.cast_ofNat_Int] at h20
    simp
    refine T_mono (T_bind h20 (k2 := 0) fun a ha => ?_) (by omega) fun a h => h
    obtain ⟨ar', rfl, h⟩ := ha
    exact T_ret ⟨_, ar', rfl, h⟩
  by_cases c1 : way = 1
  · subst c1
    simp
    refine T_mono (T_bind (dr' 5 (by decide) (by decide)) (k2 := 70) fun a ha => ?_) (by omega) fun a h => h
    obtain ⟨v, rfl, hv⟩ := ha
    have h19 := f19_D (n + 3) fuel (4 + v) (by omega) (by omega)
    have h20 := f20_ok (n + 1) fuel id (4 + v) (Str.ofString "D") (by omega) (by omega) (tiesD (4 + v)) (by simp [tiesD, chain_len]; omega) (ties_ok (4 + v) (by omega)).2 h19
    simp only [Int.natCast_add, Int.cast_ofNat_Int] at h20
    simp
    refine T_mono (T_bind h20 (k2 := 0) fun a ha => ?_) (by omega) fun a h => h
    obtain ⟨ar', rfl, h⟩ := ha
    exact T_ret ⟨_, ar', rfl, h⟩
  by_cases c2 : way = 2
  · subst c2
    have e1 : (1 : Int) + wd + 1 = ((wd + 2 : Nat) : Int) := by omega
    have hr : (rangeD [.int ((1 : Int) + wd + 1)]).map (·.map Val.d) = some ((List.range (wd + 2)).map fun (i : Nat) => Val.d (.int i)) := by
      rw [e1, rng_nat _ (by omega), Option.map_some, List.map_map]
      rfl
    simp [hr]
    rw [compL_mapL (List.range (wd + 2)) (h := fun (i : Nat) => Val.d (.int i)) (g := fun k => arN (k, (k + 1) % (wd + 2))) (fun k _ => by
      have hm := o_mod (i := (k : Int) + 1) (j := 1 + (wd : Int) + 1) (by omega)
      rw [fmod_nat] at hm
      simp [compF, mask, hm, lf_tupD, arN])]
    have e2 : ((List.range (wd + 2)).map fun k => arN (k, (k + 1) % (wd + 2))) = (ring (wd + 2)).map arN := by simp [ring, List.map_map]
    rw [e2]
    have hl : (ring (wd + 2)).length = wd + 2 := by simp [ring]
    have h22 := f22_ok (n + 1) fuel id (wd + 2) (by omega) (by omega) (ring (wd + 2)) (by omega) (ring_ok _ (by omega))
    rw [← e1] at h22
    simp [lf_newL (ys := (ring (wd + 2)).map arN) (by rw [List.length_map]; omega)]
    refine T_mono (T_bind h22 (k2 := 0) fun a ha => ?_) (by omega) fun a h => h
    obtain ⟨ar', rfl, h⟩ := ha
    exact T_ret ⟨_, ar', rfl, h⟩
  by_cases c3 : way = 3
  · subst c3
    have h16 := of_ok e16 e15 (n + 3) fuel id (arms9.map fun a => D.tup (natL a)) (by simp [arms9]) (by simp [arms9])
    simp [tupO_eq, lstO_eq]
    refine T_mono (T_bind h16 (k2 := 60) fun a ha => ?_) (by omega) fun a h => h
    obtain ⟨arms, harms, rfl⟩ := List.mem_map.mp ha
    have hsum : arms.sum ≤ 11 := (show ∀ a ∈ arms9, a.sum ≤ 11 by decide) arms harms
    refine T_mono (T_bind (f23_ok n fuel id arms hsum) (k2 := 0) fun a ha => ?_) (by omega) fun a h => h
    exact T_ret ha
  by_cases c4 : way = 4
  · subst c4
    have hmin : Di.bi .min [.int ((1 : Int) + wd), .int 7] = some (.int ((if 7 < wd + 1 then 7 else wd + 1 : Nat) : Int)) := by
      simp only [Di.bi, biMin]
      by_cases h : 7 < wd + 1
      · rw [if_pos h, if_pos (by omega)]; rfl
      · rw [if_neg h, if_neg (by omega)]
        congr 2
        omega
    have hL : (if 7 < wd + 1 then 7 else wd + 1) ≤ 7 ∧ 1 ≤ (if 7 < wd + 1 then 7 else wd + 1) := by split <;> omega
    generalize (if 7 < wd + 1 then 7 else wd + 1) = L at hmin hL
    have hc := fun ρ (h : 3 < List.length ρ) => chain_comp (callF prg fuel (n + 5)) (callG prg fuel (n + 5)) 3 ρ L h
    have hr : (rangeD [.int (L : Int)]).map (·.map Val.d) = some ((List.range L).map fun (i : Nat) => Val.d (.int i)) := by
      rw [rng_nat _ (by omega), Option.map_some, List.map_map]
      rfl
    have hl := chain_len L
    simp [hmin, hr]
    rw [hc _ (by simp [mask])]
    simp [lf_newL (ys := (chain L).map arN) (by rw [List.length_map]; omega), tupO_eq, lstO_eq]
    refine T_mono (T_bind (dr' 3 (by decide) (by decide)) (k2 := 70) fun a ha => ?_) (by omega) fun a h => h
    obtain ⟨v, rfl, hv⟩ := ha
    have key : ∀ (more : List (Nat × Nat)), 1 ≤ more.length → more.length ≤ 4 → (∀ p ∈ more, OkA (L + 1 + more.length) p) →
        T id 60 (callF prg fuel (n + 5) 22 [.d (.st id), .d (.lst ((chain L).map arN ++ more.map arN)), .d (.int ((L : Int) + 1 + more.length))]) WebQ := by
      intro more h1 h2 h3
      have h22 := f22_ok (n + 1) fuel id (L + 1 + more.length) (by omega) (by omega) (chain L ++ more) (by rw [List.length_append]; omega) (by
        intro p hp
        rcases List.mem_append.mp hp with hp | hp
        · exact chain_ok L _ (by omega) p hp
        · exact h3 p hp)
      rw [List.map_append] at h22
      exact T_mono h22 (by omega) fun d ⟨ar', e, h⟩ => ⟨_, ar', e, h⟩
    have hv3 : v = 0 ∨ v = 1 ∨ v = 2 := by omega
    have ho : ∀ ys : List D, ys.length ≤ 4 → op2 .add (.lst ((chain L).map arN)) (.lst ys) = some (.lst ((chain L).map arN ++ ys)) := fun ys hy => o_addl (by rw [List.length_map]; omega)
    rcases hv3 with rfl | rfl | rfl
    · have k := key [(0, L + 1), (L, L + 2)] (by simp) (by simp) (by
        intro p hp
        simp at hp
        rcases hp with rfl | rfl <;> exact ⟨by simp; try omega, by simp; try omega, by simp; try omega⟩)
      simp [arN] at k
      simp [cut4_2, ho]
      exact T_mono (T_bind k (k2 := 0) fun a ha => T_ret ha) (by omega) fun a h => h
    · have k := key [(0, L + 1), (L, L + 2), (0, L + 3)] (by simp) (by simp) (by
        intro p hp
        simp at hp
        rcases hp with rfl | rfl | rfl <;> exact ⟨by simp; try omega, by simp; try omega, by simp; try omega⟩)
      simp [arN] at k
      simp [cut4_3, ho]
      exact T_mono (T_bind k (k2 := 0) fun a ha => T_ret ha) (by omega) fun a h => h
    · have k := key [(0, L + 1), (L, L + 2), (0, L + 3), (L, L + 4)] (by simp) (by simp) (by
        intro p hp
        simp at hp
        rcases hp with rfl | rfl | rfl | rfl <;> exact ⟨by simp; try omega, by simp; try omega, by simp; try omega⟩)
      simp [arN] at k
      simp [cut4_4, ho]
      exact T_mono (T_bind k (k2 := 0) fun a ha => T_ret ha) (by omega) fun a h => h
  have a0 : ¬ ((way : Int) = 0) := by omega
  have a1 : ¬ ((way : Int) = 1) := by omega
  have a2 : ¬ ((way : Int) = 2) := by omega
  have a3 : ¬ ((way : Int) = 3) := by omega
  have a4 : ¬ ((way : Int) = 4) := by omega
  have ew : (1 : Int) + wd = ((wd + 1 : Nat) : Int) := by omega
  rw [ew]
  simp only [a0, a1, a2, a3, a4, c0, c1, c2, c3, c4]
  simp [a0, a1, a2, a3, a4, c0, c1, c2, c3, c4, lf_lst0]
  have fin : ∀ ρ', I21 id (wd + 1) (.d (.int way)) ρ'.length [] ρ' → True := fun _ _ => trivial
  clear fin
  have fin : ∀ (N : Nat) (ρ' : Di.Env), N ≤ 10 → I21 id (wd + 1) (.d (.int way)) N [] ρ' → T id 0 (M.bind (goOn prg (callF prg fuel (n + 5)) (callG prg fuel (n + 5)) fuel [ST.ret (IR.tup [IR.loc 2, IR.bi Bi.tuple [IR.loc 8]])] (.nx ρ')) outR) WebQ := by
    rintro N ρ' hN ⟨F, x9, x10, x11, rfl, h9, h10, h11, hF, hlen, hx⟩
    simp [lf_tupD]
    refine T_ret ⟨wd + 1, F, by simp [webN], by omega, by omega, by simp at hlen; omega, hF⟩
  have tail : ∀ N : Nat, N ≤ 10 → (N = 0 ∨ 2 ≤ wd + 1) → T id 30 (M.bind (forL (forF prg (callF prg fuel (n + 5)) (callG prg fuel (n + 5)) fuel (.n 9) b21) ((List.range N).map fun (i : Nat) => Val.d (.int i)) [Sl.sh (Val.d (D.st id)), Sl.sh (Val.d (D.int ↑way)), Sl.sh (Val.d (D.int ((wd + 1 : Nat) : Int))), Sl.no, Sl.no, Sl.no, Sl.no, Sl.no, Sl.ow (Val.d (D.lst [])), Sl.no, Sl.no, Sl.no])
      fun x => M.bind (goOn prg (callF prg fuel (n + 5)) (callG prg fuel (n + 5)) fuel [ST.ret (IR.tup [IR.loc 2, IR.bi Bi.tuple [IR.loc 8]])] x) outR) WebQ := by
    intro N hN h
    have hI0 : I21 id (wd + 1) (.d (.int way)) N ((List.range N).map fun (i : Nat) => Val.d (.int i)) [Sl.sh (Val.d (D.st id)), Sl.sh (Val.d (D.int ↑way)), Sl.sh (Val.d (D.int ((wd + 1 : Nat) : Int))), Sl.no, Sl.no, Sl.no, Sl.no, Sl.no, Sl.ow (Val.d (D.lst [])), Sl.no, Sl.no, Sl.no] :=
      ⟨[], .no, .no, .no, rfl, by simp, by simp, by simp, by simp, by simp, by
        intro x hx
        obtain ⟨i, _, rfl⟩ := List.mem_map.mp hx
        exact ⟨_, rfl⟩⟩
    rcases h with rfl | h
    · rw [List.range_zero, List.map_nil, forL_nil, ev_bind_ret]
      exact T_mono (fin 0 _ (by omega) hI0) (by omega) fun a h => h
    · have hl := T_for (id := id) (k := 2) (I := I21 id (wd + 1) (.d (.int way)) N) (st21 (n + 4) fuel id (wd + 1) h (by omega) (.d (.int way)) (by simp) N (by omega)) _ _ hI0
      simp only [List.length_map, List.length_range] at hl
      refine T_mono (T_bind hl (k2 := 0) fun fl hfl => ?_) (by omega) fun a h => h
      obtain ⟨ρ', rfl, hI⟩ := hfl
      exact fin N ρ' hN hI
  by_cases hw1 : 1 < wd + 1
  · have hw1' : (1 : Int) < (wd : Int) + 1 := by omega
    rw [if_pos hw1']
    simp only [ev_bind_assoc]
    refine T_mono (T_bind (dr' 11 (by decide) (by decide)) (k2 := 30) fun a ha => ?_) (by omega) fun a h => h
    obtain ⟨v, rfl, hv⟩ := ha
    have t := tail v (by omega) (Or.inr (by omega))
    have e8 : (Val.d ∘ fun (i : Nat) => D.int i) = fun (i : Nat) => Val.d (.int i) := rfl
    rw [ev_bind_ret, lf_frange1, rng_nat v (by omega), Option.map_some, List.map_map, ev_bind_some, e8]
    exact t
  · have hw1' : ¬ (1 : Int) < (wd : Int) + 1 := by omega
    rw [if_neg hw1']
    have t := tail 0 (by omega) (Or.inl rfl)
    have e8 : (Val.d ∘ fun (i : Nat) => D.int i) = fun (i : Nat) => Val.d (.int i) := rfl
    have r0 := rng_nat 0 (by omega)
    rw [show ((0 : Nat) : Int) = 0 from rfl] at r0
    rw [ev_bind_ret, lf_frange1, r0, Option.map_some, List.map_map, ev_bind_some, e8]
    exact T_mono t (by omega) fun a h => h
end K14
end
section
set_option Elab.async false
set_option linter.all false
set_option maxRecDepth 100000
set_option maxHeartbeats 4000000
namespace K14
open PySem Di TL
theorem cut_map {α β : Type} (f : α → β) (l : List α) (a b : Option Int) : cutL (l.map f) a b = (cutL l a b).map f := by
  simp [cutL, List.map_take, List.map_drop]
theorem cut_mem {α : Type} {l : List α} {a b : Option Int} {x : α} (h : x ∈ cutL l a b) : x ∈ l := List.mem_of_mem_drop (List.mem_of_mem_take h)
def strs30 : List String := ["", "0", "1", "12", "13", "00", "-1", "web", "Web", "0>1", "1>0", "1>1", "0>", ">", "0>1>0", "0 >1", "01>0", "1>2", "x", "1000", "1001", "0999", "999", "+1", "1_0", "0>12", "11>0", "0<1", "web\n", "1\n"]
theorem strs30_ok : ∀ w ∈ strs30.map Str.ofString, (sg w).length ≤ 8 := by
  intro w hw
  obtain ⟨s, hs, rfl⟩ := List.mem_map.mp hw
  rw [sg_of, List.length_map]
  exact (show ∀ s ∈ strs30, s.toList.length ≤ 8 by decide) s hs
theorem OkL_mono {j k : Nat} {ws : List Str} (h : OkL j ws) (hk : j ≤ k) : OkL k ws := ⟨by have := h.1; omega, h.2⟩
abbrev sD (ws : List Str) : D := .lst (ws.map D.str)
theorem f28_ok (n fuel id k : Nat) (ws : List Str) (h : OkL k ws) (hk : k ≤ 200) : T id 3 (callF prg fuel (n + 3) 28 [.d (.st id), .d (sD ws)]) fun d => ∃ ws', d = sD ws' ∧ OkL (3 * k + 1) ws' := by
  rw [callF_at (np := 2) (ns := 6) (body := f28) rfl rfl (by decide)]
  have hs : sizeLine = 16777216 := rfl
  have hl := h.1
  have e0 : cmpD .eq (sD ws) (.lst []) = some ws.isEmpty := by
    rw [eq_nil _ (goodL_strs 59 ws)]
    cases ws <;> rfl
  by_cases hw : ws = []
  · subst hw
    simp at e0
    simp [f28, lf_lst0, e0, lf_lst1]
    exact T_ret ⟨[Str.ofString "web"], rfl, by simp, by simp [sg_web]⟩
  have hp : 0 < ws.length := List.length_pos_iff.mpr hw
  have hemp : ws.isEmpty = false := by cases ws with
    | nil => exact absurd rfl hw
    | cons _ _ => rfl
  rw [hemp] at e0
  have d1 := dr (n + 1) fuel id ws.length hp (by omega)
  have d2 := dr (n + 1) fuel id 8 (by decide) (by decide)
  have h16 := of_ok e16 e15 n fuel id ((strs30.map Str.ofString).map D.str) (by simp [strs30]) (by simp [strs30])
  have hc := cut_len ws
  have hadd : ∀ x y : List Str, x.length ≤ 1000 → y.length ≤ 1000 → op2 .add (sD x) (sD y) = some (sD (x ++ y)) := fun x y hx hy => by
    rw [o_addl (by rw [List.length_map, List.length_map]; omega), ← List.map_append]
  have hcm : ∀ a b, cutL (ws.map D.str) a b = (cutL ws a b).map D.str := fun a b => cut_map D.str ws a b
  have ha2 : ∀ a b c d, op2 .add (.lst ((cutL ws a b).map D.str)) (.lst ((cutL ws c d).map D.str)) = some (.lst ((cutL ws a b ++ cutL ws c d).map D.str)) := fun a b c d => hadd _ _ (by have := hc a b; omega) (by have := hc c d; omega)
  have ha3 : ∀ a b c d e f, op2 .add (.lst ((cutL ws a b ++ cutL ws c d).map D.str)) (.lst ((cutL ws e f).map D.str)) = some (.lst ((cutL ws a b ++ cutL ws c d ++ cutL ws e f).map D.str)) := fun a b c d e f => hadd _ _ (by have := hc a b; have := hc c d; rw [List.length_append]; omega) (by have := hc e f; omega)
  have haw : ∀ a b w, op2 .add (.lst ((cutL ws a b).map D.str)) (.lst [.str w]) = some (.lst ((cutL ws a b ++ [w]).map D.str)) := fun a b w => hadd _ [w] (by have := hc a b; omega) (by simp)
  have haw3 : ∀ a b w c d, op2 .add (.lst ((cutL ws a b ++ [w]).map D.str)) (.lst ((cutL ws c d).map D.str)) = some (.lst ((cutL ws a b ++ [w] ++ cutL ws c d).map D.str)) := fun a b w c d => hadd _ _ (by have := hc a b; simp; omega) (by have := hc c d; omega)
  have fin : ∀ {w : Str} {x : List Str} , (sg w).length ≤ 8 → (∀ z ∈ x, z ∈ ws ∨ z = w) → x.length ≤ 3 * k + 1 → OkL (3 * k + 1) x := fun hw hx hl => ⟨hl, fun z hz => by
    rcases hx z hz with hz | hz
    · exact h.2 z hz
    · rw [hz]; exact hw⟩
  simp [f28, lf_lst0, e0, -List.map_map, lstO_eq]
  refine T_mono (T_bind d1 (k2 := 2) fun a ha => ?_) (by omega) fun a h => h
  obtain ⟨at', rfl, hat⟩ := ha
  refine T_mono (T_bind d2 (k2 := 1) fun a ha => ?_) (by omega) fun a h => h
  obtain ⟨way, rfl, hway⟩ := ha
  simp [o_addl, hs]
  refine T_mono (T_bind h16 (k2 := 0) fun a ha => ?_) (by omega) fun a h => h
  obtain ⟨w, hw30, rfl⟩ := List.mem_map.mp ha
  have hw8 := strs30_ok w hw30
  by_cases c0 : way = 0
  · subst c0
    simp [hcm, ha2, -List.map_append, -List.map_map]
    refine T_ret ⟨_, rfl, fin hw8 (fun z hz => ?_) ?_⟩
    · rcases List.mem_append.mp hz with hz | hz
      · exact Or.inl (cut_mem hz)
      · exact Or.inl (cut_mem hz)
    · have h1 := hc none (some (at' : Int))
      have h2 := hc (some ((at' : Int) + 1)) none
      rw [List.length_append]; omega
  by_cases c1 : way = 1
  · subst c1
    simp [hcm, ha2, ha3, -List.map_append, -List.map_map, -List.append_assoc]
    refine T_ret ⟨_, rfl, fin hw8 (fun z hz => ?_) ?_⟩
    · rcases List.mem_append.mp hz with hz | hz
      · rcases List.mem_append.mp hz with hz | hz
        · exact Or.inl (cut_mem hz)
        · exact Or.inl (cut_mem hz)
      · exact Or.inl (cut_mem hz)
    · have h1 := hc none (some (at' : Int))
      have h2 := hc (some (at' : Int)) (some ((at' : Int) + 1))
      have h3 := hc (some (at' : Int)) none
      rw [List.length_append, List.length_append]; omega
  by_cases c2 : way = 2
  · subst c2
    simp [hcm, -List.map_append, -List.map_map]
    refine T_ret ⟨_, rfl, fin hw8 (fun z hz => Or.inl (cut_mem hz)) ?_⟩
    have h1 := hc none (some (at' : Int))
    omega
  have a0 : ¬ ((way : Int) = 0) := by omega
  have a1 : ¬ ((way : Int) = 1) := by omega
  have a2 : ¬ ((way : Int) = 2) := by omega
  by_cases c6 : way < 6
  · have a6 : (way : Int) < 6 := by omega
    simp [c0, c1, c2, a0, a1, a2, a6, c6, hcm, haw, haw3, lf_lst1, -List.map_append, -List.map_map, -List.append_assoc]
    refine T_ret ⟨_, rfl, fin hw8 (fun z hz => ?_) ?_⟩
    · rcases List.mem_append.mp hz with hz | hz
      · rcases List.mem_append.mp hz with hz | hz
        · exact Or.inl (cut_mem hz)
        · exact Or.inr (by simpa using hz)
      · exact Or.inl (cut_mem hz)
    · have h1 := hc none (some (at' : Int))
      have h3 := hc (some ((at' : Int) + 1)) none
      rw [List.length_append, List.length_append]; simp; omega
  · have a6 : ¬ (way : Int) < 6 := by omega
    simp [c0, c1, c2, a0, a1, a2, a6, c6, hcm, haw, haw3, lf_lst1, -List.map_append, -List.map_map, -List.append_assoc]
    refine T_ret ⟨_, rfl, fin hw8 (fun z hz => ?_) ?_⟩
    · rcases List.mem_append.mp hz with hz | hz
      · rcases List.mem_append.mp hz with hz | hz
        · exact Or.inl (cut_mem hz)
        · exact Or.inr (by simpa using hz)
      · exact Or.inl (cut_mem hz)
    · have h1 := hc none (some (at' : Int))
      have h3 := hc (some (at' : Int)) none
      rw [List.length_append, List.length_append]; simp; omega
/-! what is heard -/
theorem ftry_ok {P : Prg} {cf : Nat → List Val → M D} {ca : Nat → List Val → List Val → M D} {fuel : Nat} {e : IR} {hs : List (Nat × HE)} {ρ : Di.Env} {d : D} (h : datE P cf ca e (ρ.map frzS) = ret1 d) : Di.exec P cf ca fuel (.ftry e hs) ρ = ret1 (.rt d) := by
  funext m
  show (match datE P cf ca e (ρ.map frzS) m with
    | .ok d m1 => .ok (.rt d) m1
    | .ex c p m1 => handle hs c p m1
    | .bad => .bad : Out Fl) = _
  rw [h]
  rfl
theorem ftry_ex {P : Prg} {cf : Nat → List Val → M D} {ca : Nat → List Val → List Val → M D} {fuel : Nat} {e : IR} {hs : List (Nat × HE)} {ρ : Di.Env} {c : Nat} {p : Option D} (h : datE P cf ca e (ρ.map frzS) = exM c p) : Di.exec P cf ca fuel (.ftry e hs) ρ = handle hs c p := by
  funext m
  show (match datE P cf ca e (ρ.map frzS) m with
    | .ok d m1 => .ok (.rt d) m1
    | .ex c p m1 => handle hs c p m1
    | .bad => .bad : Out Fl) = _
  rw [h]
  rfl
theorem heard_ok (n fuel k : Nat) (cap : List Val) (v : D) (h : callG prg fuel n k cap [] = ret1 v) : callF prg fuel (n + 1) 24 [.c k cap] = ret1 (.lst [v]) := by
  rw [callF_at (np := 1) (ns := 2) (body := f24) rfl rfl (by decide)]
  have e : datE prg (callF prg fuel n) (callG prg fuel n) (.lst [(.app 0 [])]) ([Sl.sh (.c k cap), .no].map frzS) = ret1 (.lst [v]) := by
    simp [appO, h, lf_lst1]
  simp [f24, ftry_ok e]
theorem heard_ex (n fuel k : Nat) (cap : List Val) (c : Nat) (d : D) (w : Str) (hc : c = 3 ∧ w = Str.ofString "text" ∨ c = 2 ∧ w = Str.ofString "counts" ∨ c = 1 ∧ w = Str.ofString "web") (h : callG prg fuel n k cap [] = exM c (some d)) : callF prg fuel (n + 1) 24 [.c k cap] = ret1 (.tup [.str w, d]) := by
  rw [callF_at (np := 1) (ns := 2) (body := f24) rfl rfl (by decide)]
  have e : datE prg (callF prg fuel n) (callG prg fuel n) (.lst [(.app 0 [])]) ([Sl.sh (.c k cap), .no].map frzS) = exM c (some d) := by
    simp [appO, h]
  simp [f24, ftry_ex e]
  rcases hc with ⟨rfl, rfl⟩ | ⟨rfl, rfl⟩ | ⟨rfl, rfl⟩ <;> rfl
theorem heardW (n fuel k : Nat) (cap : List Val) (s : Str) (hl : s.length + 2 ≤ sizeLine) (h : callG prg fuel n k cap [] = resM (rdW (wds s))) : callF prg fuel (n + 1) 24 [.c k cap] = ret1 (dueD (rdW (wds s))) := by
  cases hr : rdW (wds s) with
  | inl e =>
    rw [hr] at h
    exact heard_ex n fuel k cap 3 (.int e) _ (Or.inl ⟨rfl, rfl⟩) h
  | inr p =>
    rw [hr] at h
    exact heard_ok n fuel k cap _ h
theorem heardC (n fuel k : Nat) (cap : List Val) (w : Nat) (s : Str) (h : callG prg fuel n k cap [] = resC (cntR w (wds s))) : callF prg fuel (n + 1) 24 [.c k cap] = ret1 (dueC (cntR w (wds s))) := by
  cases hr : cntR w (wds s) with
  | inl e =>
    rw [hr] at h
    exact heard_ex n fuel k cap 3 (.int e) _ (Or.inl ⟨rfl, rfl⟩) h
  | inr p =>
    rw [hr] at h
    exact heard_ok n fuel k cap _ h
theorem lam0 (n fuel : Nat) (ws : List Str) (h : OkL 1000 ws) : callG prg fuel (n + 4) 0 [.d (sD ws)] [] = resM (rdW (wds (joinS ws))) := by
  have hj := b_join h (by decide)
  have hl := join_len h
  have h11 := f11_ok n fuel (joinS ws) (by have : sizeLine = 16777216 := rfl; omega)
  rw [callG_at (l := ⟨0, 1, [13], [], l0⟩) rfl (by simp)]
  simp [l0, hj, h11]
  cases rdW (wds (joinS ws)) <;> simp [resM]
theorem lam1 (n fuel : Nat) (w : Nat) (ar : List (Nat × Nat)) (hw : OkW w ar) (ws : List Str) (h : OkL 1000 ws) : callG prg fuel (n + 6) 1 [.d (webN w ar), .d (sD ws)] [] = resC (cntR w (wds (joinS ws))) := by
  have hj := b_join h (by decide)
  have hl := join_len h
  have h13 := f13_ok n fuel w ar hw (joinS ws) (by have : sizeLine = 16777216 := rfl; omega)
  rw [callG_at (l := ⟨0, 2, [1, 14], [], l1⟩) rfl (by simp)]
  simp [l1, hj, h13]
  cases cntR w (wds (joinS ws)) <;> simp [resC]
end K14
end
section
set_option Elab.async false
set_option linter.all false
set_option maxRecDepth 100000
set_option maxHeartbeats 4000000
namespace K14
open PySem Di TL
/-- a datum that is like itself -/
def Lk (d : D) : Prop := good 60 d = true ∧ chOk d = true ∧ wt d ≤ 100000
theorem like (n fuel : Nat) {d : D} (h : Lk d) : callF prg fuel (n + 1) 17 [.d d, .d d] = ret1 (.bl true) := f17_ok n fuel d h.1 h.2.1 (by have : sizeLine = 16777216 := rfl; have := h.2.2; omega)
theorem rdA_bd (many : Int) (hm : many ≤ 12) : ∀ (l : List (List Nat)) (k : Nat), k ≤ 20 → (∀ e, rdA many k l = .inl e → e ≤ 22) ∧ (∀ ps, rdA many k l = .inr ps → k + ps.length ≤ 20 ∧ ∀ p ∈ ps, (0 ≤ p.1 ∧ p.1 ≤ 12) ∧ (0 ≤ p.2 ∧ p.2 ≤ 12))
  | [], k, hk => ⟨fun e h => (by cases h), fun ps h => by injection h with h; subst h; exact ⟨by simpa using hk, by simp⟩⟩
  | w :: r, k, hk => by
    simp only [rdA]
    cases ha : arrO w many with
    | none => exact ⟨fun e h => by injection h with h; omega, fun ps h => by cases h⟩
    | some p =>
      have hp : (0 ≤ p.1 ∧ p.1 ≤ 12) ∧ (0 ≤ p.2 ∧ p.2 ≤ 12) := by
        unfold arrO at ha
        split at ha
        · split at ha
          · rename_i i j hi hj
            split at ha
            · cases ha
            · injection ha with ha
              obtain ⟨a, rfl, a1, a2, _⟩ := (numIn_some (by omega)).mp hi
              obtain ⟨b, rfl, b1, b2, _⟩ := (numIn_some (by omega)).mp hj
              rw [← ha]
              exact ⟨⟨a1, by omega⟩, ⟨b1, by omega⟩⟩
          · cases ha
        · cases ha
      simp only
      by_cases h20 : k = 20
      · rw [if_pos h20]
        exact ⟨fun e h => by injection h with h; omega, fun ps h => by cases h⟩
      · rw [if_neg h20]
        have ih := rdA_bd many hm r (k + 1) (by omega)
        cases hr : rdA many (k + 1) r with
        | inl e => exact ⟨fun e' h => by injection h with h; subst h; exact ih.1 _ hr, fun ps h => by cases h⟩
        | inr qs =>
          refine ⟨fun e h => (by cases h), fun ps h => ?_⟩
          injection h with h
          subst h
          obtain ⟨i1, i2⟩ := ih.2 _ hr
          refine ⟨by simp; omega, fun q hq => ?_⟩
          rcases List.mem_cons.mp hq with rfl | hq
          · exact hp
          · exact i2 q hq
theorem rdW_bd (ws : List (List Nat)) : (∀ e, rdW ws = .inl e → e ≤ 22) ∧ (∀ p, rdW ws = .inr p → (0 ≤ p.1 ∧ p.1 ≤ 12) ∧ p.2.length ≤ 20 ∧ ∀ q ∈ p.2, (0 ≤ q.1 ∧ q.1 ≤ 12) ∧ (0 ≤ q.2 ∧ q.2 ≤ 12)) := by
  unfold rdW
  split
  · exact ⟨fun e h => by injection h with h; omega, fun p h => by cases h⟩
  · split
    · split
      · exact ⟨fun e h => by injection h with h; omega, fun p h => by cases h⟩
      · rename_i b r
        split
        · exact ⟨fun e h => by injection h with h; omega, fun p h => by cases h⟩
        · rename_i many hm
          obtain ⟨m, rfl, h1, h2, _⟩ := (numIn_some (by decide)).mp hm
          have := rdA_bd (m : Int) h2 r 0 (by omega)
          cases hr : rdA (m : Int) 0 r with
          | inl e => exact ⟨fun e' h => by injection h with h; subst h; exact this.1 _ hr, fun p h => by cases h⟩
          | inr ps =>
            refine ⟨fun e h => (by cases h), fun p h => ?_⟩
            injection h with h
            subst h
            obtain ⟨i1, i2⟩ := this.2 _ hr
            exact ⟨⟨by simp, h2⟩, by simpa using i1, i2⟩
    · exact ⟨fun e h => by injection h with h; omega, fun p h => by cases h⟩
theorem good_arP (n : Nat) : ∀ ps : List (Int × Int), goodL (n + 1) (ps.map arP) = true
  | [] => rfl
  | p :: r => by simp only [List.map_cons, goodL, good_arP n r, arP, good, Bool.and_self]
theorem ch_arP : ∀ ps : List (Int × Int), (∀ p ∈ ps, (0 ≤ p.1 ∧ p.1 ≤ 12) ∧ (0 ≤ p.2 ∧ p.2 ≤ 12)) → chL (ps.map arP) = true
  | [], _ => rfl
  | p :: r, h => by
    have hp := h p (by simp)
    have h1 : p.1.natAbs < 1000000000000000000 := by omega
    have h2 : p.2.natAbs < 1000000000000000000 := by omega
    simp [chL, chOk, h1, h2, ch_arP r fun q hq => h q (by simp [hq])]
theorem wt_arP : ∀ ps : List (Int × Int), wtL (ps.map arP) = ps.length * 49
  | [] => rfl
  | p :: r => by
    simp only [List.map_cons, wtL, wt, wt_arP r, List.length_cons, Nat.succ_mul]
    omega
theorem sg_text : (sg (Str.ofString "text")).all (fun c => decide (c < 16 ^ 8)) = true ∧ (sg (Str.ofString "text")).length = 4 := by
  rw [sg_of]
  decide
theorem Lk_txt (e : Nat) (h : e ≤ 100000) : Lk (txt e) := by
  have h1 : (e : Int).natAbs < 1000000000000000000 := by omega
  refine ⟨by simp [good, goodL], ?_, ?_⟩
  · simp only [chOk, chL, sg_text.1, Bool.and_true, Bool.true_and]
    simpa using h1
  · simp only [wt, wtL, sg_text.2]
    decide
theorem Lk_webD {p : Int × List (Int × Int)} (h1 : 0 ≤ p.1 ∧ p.1 ≤ 12) (h2 : p.2.length ≤ 20) (h3 : ∀ q ∈ p.2, (0 ≤ q.1 ∧ q.1 ≤ 12) ∧ (0 ≤ q.2 ∧ q.2 ≤ 12)) : good 59 (webD p) = true ∧ chOk (webD p) = true ∧ wt (webD p) ≤ 2000 := by
  have a1 : p.1.natAbs < 1000000000000000000 := by omega
  refine ⟨?_, ?_, ?_⟩
  · simp only [webD, good, goodL, good_arP, Bool.and_self]
  · simp [webD, chOk, chL, ch_arP _ h3, a1]
  · simp only [webD, wt, wtL, wt_arP]
    omega
theorem Lk_due (ws : List (List Nat)) : Lk (dueD (rdW ws)) := by
  have hb := rdW_bd ws
  cases hr : rdW ws with
  | inl e => exact Lk_txt e (by have := hb.1 e hr; omega)
  | inr p =>
    obtain ⟨i1, i2, i3⟩ := hb.2 p hr
    obtain ⟨g1, g2, g3⟩ := Lk_webD i1 i2 i3
    refine ⟨?_, ?_, ?_⟩
    · simp only [dueD, good, goodL, g1, Bool.and_self]
    · simp only [dueD, chOk, chL, g2, Bool.and_self]
    · simp only [dueD, wt, wtL]
      omega
theorem rdC_bd (width : Nat) : ∀ (l : List (List Nat)) (k : Nat), (∀ e, rdC width k l = .inl e → e ≤ k + l.length) ∧ (∀ ps, rdC width k l = .inr ps → ps.length = l.length ∧ ∀ p ∈ ps, 0 ≤ p ∧ p ≤ 1000)
  | [], k => ⟨fun e h => (by cases h), fun ps h => by injection h with h; subst h; simp⟩
  | w :: r, k => by
    simp only [rdC]
    cases ha : numIn w 0 1000 with
    | none => exact ⟨fun e h => by injection h with h; omega, fun ps h => by cases h⟩
    | some i =>
      obtain ⟨m, rfl, m1, m2, _⟩ := (numIn_some (by decide)).mp ha
      simp only
      by_cases hk : k = width
      · rw [if_pos hk]
        exact ⟨fun e h => by injection h with h; omega, fun ps h => by cases h⟩
      · rw [if_neg hk]
        have ih := rdC_bd width r (k + 1)
        cases hr : rdC width (k + 1) r with
        | inl e => exact ⟨fun e' h => by injection h with h; subst h; have := ih.1 _ hr; simp; omega, fun ps h => by cases h⟩
        | inr qs =>
          refine ⟨fun e h => (by cases h), fun ps h => ?_⟩
          injection h with h
          subst h
          obtain ⟨i1, i2⟩ := ih.2 _ hr
          refine ⟨by simp; omega, fun q hq => ?_⟩
          rcases List.mem_cons.mp hq with rfl | hq
          · exact ⟨by omega, m2⟩
          · exact i2 q hq
theorem ch_ints : ∀ ps : List Int, (∀ p ∈ ps, 0 ≤ p ∧ p ≤ 1000) → chL (ps.map D.int) = true
  | [], _ => rfl
  | p :: r, h => by
    have hp := h p (by simp)
    have h1 : p.natAbs < 1000000000000000000 := by omega
    simp [chL, chOk, h1, ch_ints r fun q hq => h q (by simp [hq])]
theorem wt_ints : ∀ ps : List Int, wtL (ps.map D.int) = ps.length * 22
  | [] => rfl
  | p :: r => by
    simp only [List.map_cons, wtL, wt, wt_ints r, List.length_cons, Nat.succ_mul]
    omega
theorem Lk_line (ps : List Int) (h : ∀ p ∈ ps, 0 ≤ p ∧ p ≤ 1000) (hl : ps.length ≤ 4000) : Lk (lineD ps) ∧ Lk (.lst [lineD ps]) := by
  have a := ch_ints ps h
  have b := wt_ints ps
  refine ⟨⟨?_, ?_, ?_⟩, ?_, ?_, ?_⟩
  · simp only [lineD, good, goodL_ints]
  · simp only [lineD, chOk, a]
  · simp only [lineD, wt]; omega
  · simp only [lineD, good, goodL, goodL_ints, Bool.and_self]
  · simp only [lineD, chOk, chL, a, Bool.and_self]
  · simp only [lineD, wt, wtL]; omega
theorem Lk_dueC (width : Nat) (ws : List (List Nat)) (hl : ws.length ≤ 4000) : Lk (dueC (cntR width ws)) := by
  have hb := rdC_bd width ws 0
  unfold cntR
  cases hr : rdC width 0 ws with
  | inl e => exact Lk_txt e (by have := hb.1 e hr; omega)
  | inr ps =>
    obtain ⟨i1, i2⟩ := hb.2 ps hr
    simp only
    split
    · exact Lk_txt _ (by omega)
    · exact (Lk_line ps i2 (by omega)).2
end K14
end
section
set_option Elab.async false
set_option linter.all false
set_option maxRecDepth 100000
set_option maxHeartbeats 4000000
namespace K14
open PySem Di TL
abbrev b29 : List ST := [.par [(13, false), (14, false)] [(.call 28 [(.loc 0), (.loc 2)]), (.call 28 [(.loc 0), (.loc 8)])],
      .ifs (.cmp .gt (.loc 11) (.k (.int 2)))
        [.par [(13, false), (14, false)] [(.call 28 [(.loc 0), (.loc 13)]), (.call 28 [(.loc 0), (.loc 14)])]]
        [],
      .ifs (.inot (.call 17 [(.call 24 [(.clo 0)]), (.call 25 [(.mt .join (.k (.str " ")) (.loc 13))])]))
        [.ret (.k (.bl false))]
        [],
      .asg (.n 12) (.call 27 [(.loc 5), (.mt .join (.k (.str " ")) (.loc 14))]),
      .ifs (.inot (.call 17 [(.call 24 [(.clo 1)]), (.loc 12)]))
        [.ret (.k (.bl false))]
        []]
abbrev E29 (id w : Nat) (ar : List (Nat × Nat)) (ws ns : List Str) (v6 v10 : D) (x11 x12 x13 x14 : Sl) : Di.Env := [.sh (.d (.st id)), .sh (.d (webN w ar)), .sh (.d (sD ws)), .no, .no, .sh (.d (.int w)), .sh (.d v6), .no, .sh (.d (sD ns)), .no, .sh (.d v10), x11, x12, x13, x14]
def I29 (id w : Nat) (ar : List (Nat × Nat)) (ws ns : List Str) (v6 v10 : D) (r : List Val) (ρ : Di.Env) : Prop := ∃ x11 x12 x13 x14, ρ = E29 id w ar ws ns v6 v10 x11 x12 x13 x14 ∧ (∀ i, killS prg i x11 = x11) ∧ (∀ i, killS prg i x12 = x12) ∧ (∀ i, killS prg i x13 = x13) ∧ (∀ i, killS prg i x14 = x14) ∧ ∀ x ∈ r, ∃ i : Int, x = .d (.int i)
theorem lams0 : prg.lams[0]? = some ⟨0, 1, [13], [], l0⟩ := rfl
theorem lams1 : prg.lams[1]? = some ⟨0, 2, [1, 14], [], l1⟩ := rfl
abbrev t29 : List ST := [.ifs (.inot (.call 17 [(.call 24 [(.clo 0)]), (.call 25 [(.mt .join (.k (.str " ")) (.loc 13))])]))
        [.ret (.k (.bl false))]
        [],
      .asg (.n 12) (.call 27 [(.loc 5), (.mt .join (.k (.str " ")) (.loc 14))]),
      .ifs (.inot (.call 17 [(.call 24 [(.clo 1)]), (.loc 12)]))
        [.ret (.k (.bl false))]
        []]
theorem tail29 (n fuel id w : Nat) (ar : List (Nat × Nat)) (hw : OkW w ar) (ws ns : List Str) (v6 v10 : D) (i : Int) (x12 : Sl) (h12 : ∀ i, killS prg i x12 = x12) (bw bn : List Str) (hb : OkL 1000 bw) (hn : OkL 400 bn) :
    ∃ d, execs prg (callF prg fuel (n + 7)) (callG prg fuel (n + 7)) fuel t29 (E29 id w ar ws ns v6 v10 (.sh (.d (.int i))) x12 (.sh (.d (sD bw))) (.sh (.d (sD bn)))) = ret1 (.nx (E29 id w ar ws ns v6 v10 (.sh (.d (.int i))) (.sh (.d d)) (.sh (.d (sD bw))) (.sh (.d (sD bn))))) := by
  have hs : sizeLine = 16777216 := rfl
  have hjb := b_join hb (by decide)
  have hjn := b_join hn (by decide)
  have hlb := join_len hb
  have hln := join_len hn
  have hh0 := heardW (n + 6) fuel 0 [.d (sD bw)] (joinS bw) (by omega) (lam0 (n + 2) fuel bw hb)
  have hh1 := heardC (n + 6) fuel 1 [.d (webN w ar), .d (sD bn)] w (joinS bn) (lam1 n fuel w ar hw bn (OkL_mono hn (by decide)))
  have h25 := f25_ok (n + 6) fuel (joinS bw) (by omega)
  have h27 := f27_ok (n + 5) fuel w (joinS bn) (by omega)
  have hk0 := like (n + 6) fuel (Lk_due (wds (joinS bw)))
  have hcnt : (wds (joinS bn)).length ≤ 4000 := by
    have := spl1_count 32 (sg (joinS bn)) []
    rw [sg_len] at hln
    show (spl [32] 0 [] (sg (joinS bn))).length ≤ _
    omega
  have hk1 := like (n + 6) fuel (Lk_dueC w (wds (joinS bn)) hcnt)
  refine ⟨dueC (cntR w (wds (joinS bn))), ?_⟩
  simp [t29, E29, cloO, lams0, lams1, caps, hjb, hjn, hh0, hh1, h25, h27, hk0, hk1, h12]
theorem st29 (n fuel id w : Nat) (ar : List (Nat × Nat)) (hw : OkW w ar) (ws ns : List Str) (hws : OkL 22 ws) (hns : OkL 22 ns) (v6 v10 : D) (x : Val) (r : List Val) (ρ : Di.Env) (hI : I29 id w ar ws ns v6 v10 (x :: r) ρ) :
    T id 12 (forF prg (callF prg fuel (n + 7)) (callG prg fuel (n + 7)) fuel (.n 11) b29 x ρ) fun fl => ∃ ρ', fl = .nx ρ' ∧ I29 id w ar ws ns v6 v10 r ρ' := by
  obtain ⟨x11, x12, x13, x14, rfl, h11, h12, h13, h14, hx⟩ := hI
  obtain ⟨i, rfl⟩ := hx x (by simp)
  have d1 := fun (k : Nat) (us : List Str) (h : OkL k us) (hk : k ≤ 200) => f28_ok (n + 4) fuel id k us h hk
  simp [forF, b29, E29, h11, h12, h13, h14]
  refine T_mono (T_bind (d1 22 ws hws (by decide)) (k2 := 9) fun a ha => ?_) (by omega) fun a h => h
  obtain ⟨bw, rfl, hbw⟩ := ha
  refine T_mono (T_bind (d1 22 ns hns (by decide)) (k2 := 6) fun a ha => ?_) (by omega) fun a h => h
  obtain ⟨bn, rfl, hbn⟩ := ha
  have fin : ∀ bw bn, OkL 1000 bw → OkL 400 bn → T id 0 (execs prg (callF prg fuel (n + 7)) (callG prg fuel (n + 7)) fuel t29 (E29 id w ar ws ns v6 v10 (.sh (.d (.int i))) x12 (.sh (.d (sD bw))) (.sh (.d (sD bn))))) fun fl => ∃ ρ', fl = .nx ρ' ∧ I29 id w ar ws ns v6 v10 r ρ' := by
    intro bw bn hb hn
    obtain ⟨d, e⟩ := tail29 n fuel id w ar hw ws ns v6 v10 i x12 h12 bw bn hb hn
    rw [e]
    exact T_ret ⟨_, rfl, _, _, _, _, rfl, by simp, by simp, by simp, by simp, fun z hz => hx z (by simp [hz])⟩
  by_cases hi : 2 < i
  · rw [if_pos hi]
    simp only [ev_bind_assoc]
    refine T_mono (T_bind (d1 67 bw hbw (by decide)) (k2 := 3) fun a ha => ?_) (by omega) fun a h => h
    obtain ⟨bw2, rfl, hbw2⟩ := ha
    refine T_mono (T_bind (d1 67 bn hbn (by decide)) (k2 := 0) fun a ha => ?_) (by omega) fun a h => h
    obtain ⟨bn2, rfl, hbn2⟩ := ha
    exact fin bw2 bn2 (OkL_mono hbw2 (by decide)) (OkL_mono hbn2 (by decide))
  · rw [if_neg hi]
    exact T_mono (fin bw bn (OkL_mono hbw (by decide)) (OkL_mono hbn (by decide))) (by omega) fun a h => h
def nums8 : List Nat := [0, 1, 2, 9, 10, 100, 1000, 999]
theorem sg_all (s : String) (h : ∀ c ∈ s.toList, c.toNat < 16 ^ 8) : ∀ c ∈ sg (Str.ofString s), c < 16 ^ 8 := by
  rw [sg_of]
  intro c hc
  obtain ⟨d, hd, rfl⟩ := List.mem_map.mp hc
  exact h d hd
theorem joinL_mem {S : List Nat} {c : Nat} : ∀ {l : List (List Nat)}, c ∈ joinL S l → c ∈ S ∨ ∃ p ∈ l, c ∈ p
  | [], h => by simp [joinL] at h
  | [p], h => Or.inr ⟨p, by simp, h⟩
  | p :: q :: r, h => by
    rw [joinL_cons (by simp)] at h
    rcases List.mem_append.mp h with h | h
    · exact Or.inr ⟨p, by simp, h⟩
    · rcases List.mem_append.mp h with h | h
      · exact Or.inl h
      · rcases joinL_mem h with h | ⟨z, hz, hc⟩
        · exact Or.inl h
        · exact Or.inr ⟨z, List.mem_cons_of_mem _ hz, hc⟩
theorem num_small {n c : Nat} (h : c ∈ numL n) : c < 100 := by
  have := numL_digits n c h
  omega
theorem join_ch {k : Nat} {ws : List Str} (h : OkL k ws) (hc : ∀ w ∈ ws, ∀ c ∈ sg w, c < 200) : chOk (.str (joinS ws)) = true ∧ wt (.str (joinS ws)) ≤ 90 * k + 2 := by
  constructor
  · simp only [chOk, List.all_eq_true, decide_eq_true_eq]
    intro c hm
    rw [sg_join] at hm
    rcases joinL_mem hm with h | ⟨p, hp, hcp⟩
    · simp at h; omega
    · obtain ⟨z, hz, rfl⟩ := List.mem_map.mp hp
      have := hc z hz c hcp
      omega
  · have := join_len h
    simp only [wt, ← sg_len]
    omega
theorem webWs_ch (w : Nat) (ar : List (Nat × Nat)) : ∀ x ∈ webWs w ar, ∀ c ∈ sg x, c < 200 := by
  intro x hx c hc
  simp only [webWs, List.mem_cons, List.mem_map] at hx
  rcases hx with rfl | rfl | ⟨p, hp, rfl⟩
  · rw [sg_web] at hc
    simp at hc
    omega
  · rw [sg_nStr] at hc
    have := num_small hc
    omega
  · rw [sg_mk] at hc
    simp only [aw, List.mem_append, List.mem_cons] at hc
    rcases hc with hc | rfl | hc
    · have := num_small hc; omega
    · omega
    · have := num_small hc; omega
theorem numWs_ch (ln : List Nat) : ∀ x ∈ numWs ln, ∀ c ∈ sg x, c < 200 := by
  intro x hx c hc
  obtain ⟨i, hi, rfl⟩ := List.mem_map.mp hx
  rw [sg_nStr] at hc
  have := num_small hc
  omega
theorem webN_like (w : Nat) (ar : List (Nat × Nat)) (h : OkW w ar) : good 59 (webN w ar) = true ∧ chOk (webN w ar) = true ∧ wt (webN w ar) ≤ 2000 := by
  obtain ⟨h1, h2, h3, h4⟩ := h
  have := Lk_webD (p := ((w : Int), ar.map fun p => ((p.1 : Int), (p.2 : Int)))) ⟨by simp, by simp; omega⟩ (by simpa using h3) (by
    intro q hq
    obtain ⟨p, hp, rfl⟩ := List.mem_map.mp hq
    have := h4 p hp
    simp
    omega)
  rwa [webD_N] at this
theorem told_like (w : Nat) (ar : List (Nat × Nat)) (h : OkW w ar) (ln : List Nat) (hl : ln.length ≤ 12) (hb : ∀ i ∈ ln, i ≤ 1000) : Lk (.lst [.str (joinS (webWs w ar)), webN w ar, .str (joinS (numWs ln))]) := by
  obtain ⟨a1, a2⟩ := join_ch (webWs_ok w ar h) (webWs_ch w ar)
  obtain ⟨b1, b2⟩ := join_ch (numWs_ok ln hl hb) (numWs_ch ln)
  obtain ⟨c1, c2, c3⟩ := webN_like w ar h
  refine ⟨?_, ?_, ?_⟩
  · show (true && (good 59 (webN w ar) && (true && true))) = true
    rw [c1]
    rfl
  · simp only [chOk, chL, Bool.and_true, Bool.and_eq_true] at a1 b1 c2 ⊢
    exact ⟨a1, c2, b1⟩
  · simp only [wt, wtL] at a2 b2 c3 ⊢
    omega
theorem nat_of {l : List Nat} : ∀ {ds : List D}, (∀ d ∈ ds, d ∈ natL l) → ∃ ln : List Nat, ds = natL ln ∧ ∀ i ∈ ln, i ∈ l
  | [], _ => ⟨[], rfl, by simp⟩
  | d :: r, h => by
    obtain ⟨ln, e, h2⟩ := nat_of fun x hx => h x (List.mem_cons_of_mem _ hx)
    obtain ⟨i, hi, rfl⟩ := mem_natL (h d (by simp))
    refine ⟨i :: ln, by rw [e]; rfl, ?_⟩
    intro j hj
    rcases List.mem_cons.mp hj with rfl | hj
    · exact hi
    · exact h2 j hj
theorem f29_ok (n fuel id w : Nat) (ar : List (Nat × Nat)) (hw : OkW w ar) : T id 100 (callF prg fuel (n + 8) 29 [.d (.st id), .d (webN w ar)]) fun d => d = .bl true := by
  rw [callF_at (np := 2) (ns := 15) (body := f29) rfl rfl (by decide)]
  have hs : sizeLine = 16777216 := rfl
  have hw12 := hw.2.1
  have h3 := hw.2.2.1
  have hj := b_join (webWs_ok w ar hw) (by decide)
  have e2 : (ar.map fun p => D.str (mkS (aw p.1 p.2))) = (ar.map fun p => mkS (aw p.1 p.2)).map D.str := by rw [List.map_map]; rfl
  have h16 := of_ok e16 e15 (n + 5) fuel id (natL nums8) (by simp [nums8]) (by simp [nums8])
  simp [f29, b_strN w (by omega), lf_lst2, List.map_map]
  rw [compL_mapL ar (g := fun p => D.str (mkS (aw p.1 p.2))) (fun p hp => by
    have h4 := hw.2.2.2 p hp
    have ho := aw_opd p.1 p.2 (by omega) (by omega)
    simp [compF, mask, b_strN p.1 (by omega), b_strN p.2 (by omega), ho.1, ho.2])]
  rw [e2]
  have ho2 := o_addl (x := [D.str (Str.ofString "web"), D.str (nStr w)]) (y := (ar.map fun p => mkS (aw p.1 p.2)).map D.str) (by simp; omega)
  have ew : [D.str (Str.ofString "web"), D.str (nStr w)] ++ (ar.map fun p => mkS (aw p.1 p.2)).map D.str = (webWs w ar).map D.str := rfl
  rw [ew] at ho2
  have hr : (rangeD [.int (w : Int)]).map (·.map Val.d) = some ((List.range w).map fun (i : Nat) => Val.d (.int i)) := by
    rw [rng_nat _ (by omega), Option.map_some, List.map_map]
    rfl
  simp [lf_newL (ys := (ar.map fun p => mkS (aw p.1 p.2)).map D.str) (by rw [List.length_map, List.length_map]; omega), -List.map_map, ho2, hr]
  have hcomp : T id w (noEx (compL
            (compF prg (callF prg fuel (n + 7)) (callG prg fuel (n + 7)) (Tg.n 7) []
              (IR.call 16
                [IR.loc 0,
                  IR.lst
                    [IR.k (D.int 0), IR.k (D.int 1), IR.k (D.int 2), IR.k (D.int 9), IR.k (D.int 10), IR.k (D.int 100),
                      IR.k (D.int 1000), IR.k (D.int 999)]])
              (mask [7] 0
                [Sl.sh (Val.d (D.st id)), Sl.sh (Val.d (webN w ar)),
                  Sl.sh (Val.d (D.lst (List.map D.str (webWs w ar)))), Sl.no, Sl.no, Sl.sh (Val.d (D.int ↑w)), Sl.no,
                  Sl.no, Sl.no, Sl.no, Sl.no, Sl.no, Sl.no, Sl.no, Sl.no]))
            (List.map (fun (i : Nat) => Val.d (D.int ↑i)) (List.range w)))) fun ds => ds.length = w ∧ ∀ d ∈ ds, d ∈ natL nums8 := by
    have := T_comp (id := id) (k := 1) (p := fun d => d ∈ natL nums8) (f := compF prg (callF prg fuel (n + 7)) (callG prg fuel (n + 7)) (Tg.n 7) []
              (IR.call 16
                [IR.loc 0,
                  IR.lst
                    [IR.k (D.int 0), IR.k (D.int 1), IR.k (D.int 2), IR.k (D.int 9), IR.k (D.int 10), IR.k (D.int 100),
                      IR.k (D.int 1000), IR.k (D.int 999)]])
              (mask [7] 0
                [Sl.sh (Val.d (D.st id)), Sl.sh (Val.d (webN w ar)),
                  Sl.sh (Val.d (D.lst (List.map D.str (webWs w ar)))), Sl.no, Sl.no, Sl.sh (Val.d (D.int ↑w)), Sl.no,
                  Sl.no, Sl.no, Sl.no, Sl.no, Sl.no, Sl.no, Sl.no, Sl.no])) ((List.range w).map fun (i : Nat) => Val.d (D.int i)) (by
      intro x hx
      obtain ⟨i, _, rfl⟩ := List.mem_map.mp hx
      simp [compF, mask, lstO_eq]
      refine T_mono (T_bind h16 (k2 := 0) fun a ha => ?_) (by omega) fun a h => h
      exact T_ret ⟨a, rfl, List.mem_map.mp ha⟩)
    simp only [List.length_map, List.length_range, Nat.mul_one] at this
    exact T_noEx this
  refine T_mono (T_bind hcomp (k2 := 80) fun ds hds => ?_) (by omega) fun a h => h
  obtain ⟨hd1, hd2⟩ := hds
  obtain ⟨ln, rfl, hln⟩ := nat_of hd2
  have hlen : ln.length = w := by simpa using hd1
  have hb : ∀ i ∈ ln, i ≤ 1000 := fun i hi => (show ∀ j ∈ nums8, j ≤ 1000 by decide) i (hln i hi)
  simp [lf_newL (ys := natL ln) (by rw [List.length_map]; omega), List.map_map]
  rw [compL_mapL ln (h := Val.d ∘ fun (i : Nat) => D.int i) (g := fun i => D.str (nStr i)) (fun i hi => by
    have := hb i hi
    simp [compF, mask, b_strN i (by omega)])]
  have en : (ln.map fun i => D.str (nStr i)) = (numWs ln).map D.str := by rw [numWs, List.map_map]; rfl
  rw [en]
  have hjn := b_join (numWs_ok ln (by omega) hb) (by decide)
  have g10 := f10_ok (n + 2) fuel w ar hw
  have g11 := f11_web (n + 4) fuel w ar hw
  have g12 := f12_ok (n + 1) fuel w ar hw ln hlen hb
  have g13 := f13_line (n + 2) fuel w ar hw ln hlen hb
  have gk := like (n + 6) fuel (told_like w ar hw ln (by omega) hb)
  have gl := like (n + 6) fuel (Lk_line (ln.map fun (i : Nat) => (i : Int)) (by
    intro p hp
    obtain ⟨i, hi, rfl⟩ := List.mem_map.mp hp
    have := hb i hi
    omega) (by rw [List.length_map]; omega)).1
  rw [lineD_ln] at gl
  simp [lf_newL (ys := (numWs ln).map D.str) (by rw [List.length_map, numWs, List.length_map]; omega), -List.map_map, pick, hj, hjn, g10, g11, g12, g13, gk, gl, lf_lst2, lf_lst3, isOL, pushO, frzO, hs, -ex_for]
  rw [for_rng (n := 5) (by decide) rfl]
  have hloop := T_for (id := id) (k := 12) (I := I29 id w ar (webWs w ar) (numWs ln) (lnD ln) (.lst [.str (joinS (webWs w ar)), webN w ar, .str (joinS (numWs ln))]))
    (st29 n fuel id w ar hw (webWs w ar) (numWs ln) (webWs_ok w ar hw) (OkL_mono (numWs_ok ln (by omega) hb) (by decide)) _ _) ((List.range 5).map fun (i : Nat) => Val.d (.int i)) _
    ⟨.no, .no, .no, .no, rfl, by simp, by simp, by simp, by simp, by
      intro x hx
      obtain ⟨i, _, rfl⟩ := List.mem_map.mp hx
      exact ⟨_, rfl⟩⟩
  simp only [List.length_map, List.length_range] at hloop
  refine T_mono (T_bind hloop (k2 := 0) fun fl hfl => ?_) (by omega) fun a h => h
  obtain ⟨ρ', rfl, _⟩ := hfl
  simp
  exact T_ret rfl
end K14
end
section
set_option Elab.async false
set_option linter.all false
set_option maxRecDepth 100000
set_option maxHeartbeats 4000000
namespace K14
open PySem Di TL
abbrev b30 : List ST := [.asg (.n 2) (.call 14 [(.loc 0), (.loc 1)]),
      .ifs (.inot (.call 29 [(.loc 2), (.call 21 [(.loc 2)])]))
        [.ret (.k (.bl false))]
        []]
abbrev E30 (ns : List Int) (x1 x2 : Sl) : Di.Env := [.sh (.d (.scr ns)), x1, x2, .no, .no, .no, .no, .no]
theorem st30 (n fuel : Nat) (ns : List Int) (hn : ns.length ≤ 63) (turn : Nat) (ht : turn < 1000) (x1 x2 : Sl) (h1 : ∀ i, killS prg i x1 = x1) (h2 : ∀ i, killS prg i x2 = x2) (m : MS) :
    ∃ id m', forF prg (callF prg fuel (n + 8)) (callG prg fuel (n + 8)) fuel (.n 1) b30 (.d (.int turn)) (E30 ns x1 x2) m = .ok (.nx (E30 ns (.sh (.d (.int turn))) (.sh (.d (.st id))))) m' := by
  obtain ⟨m1, e1, g1, s1⟩ := begun_ok e14 (n + 7) fuel ns turn (by omega) m ht
  obtain ⟨a, m2, e2, g2, s2, w, ar, rfl, hw⟩ := f21_ok (n + 2) fuel (m.id + 1) m1 g1 (by omega)
  obtain ⟨b, m3, e3, g3, s3, rfl⟩ := f29_ok n fuel (m.id + 1) w ar hw m2 g2 (by omega)
  refine ⟨m.id + 1, m3, ?_⟩
  simp [forF, b30, E30, bind_at, h1, h2, e1, e2, e3]
theorem loop30 (n fuel : Nat) (ns : List Int) (hn : ns.length ≤ 63) : ∀ (l : List Nat), (∀ t ∈ l, t < 1000) → ∀ (x1 x2 : Sl) (m : MS), (∀ i, killS prg i x1 = x1) → (∀ i, killS prg i x2 = x2) →
    ∃ y1 y2 m', forL (forF prg (callF prg fuel (n + 8)) (callG prg fuel (n + 8)) fuel (.n 1) b30) (l.map fun (i : Nat) => Val.d (.int i)) (E30 ns x1 x2) m = .ok (.nx (E30 ns y1 y2)) m' ∧ (∀ i, killS prg i y1 = y1) ∧ (∀ i, killS prg i y2 = y2) := by
  intro l
  induction l with
  | nil => intro _ x1 x2 m h1 h2; exact ⟨x1, x2, m, rfl, h1, h2⟩
  | cons t l ih =>
    intro hl x1 x2 m h1 h2
    obtain ⟨id, m1, e1⟩ := st30 n fuel ns hn t (hl t (by simp)) x1 x2 h1 h2 m
    obtain ⟨y1, y2, m2, e2, h3, h4⟩ := ih (fun s hs => hl s (by simp [hs])) (.sh (.d (.int t))) (.sh (.d (.st id))) m1 (by simp) (by simp)
    refine ⟨y1, y2, m2, ?_, h3, h4⟩
    rw [List.map_cons, forL_cons, bind_at, e1, then_ok, fk_nx]
    exact e2
/-! the end: texts by hand -/
def mulS (z : Str) (k : Nat) : Str := ⟨(List.replicate k z.cps.toList).flatten.toArray⟩
def s20 : Str := Str.ofString "web 12" ++ mulS (Str.ofString " 0>11") 20
def s21 : Str := Str.ofString "web 12" ++ mulS (Str.ofString " 0>11") 21
def some16 : List Str := [s20, s21, "web 13", "web 0", "web", "", " web 1", "web 1", "web 1 0>0", "web 2 0>1 ", "web  2", "web 2 0>2", "web 2 1>0 0>1", "web 02", "web 2 0>01", "WEB 2"]
theorem some16_len : ∀ s ∈ some16, s.length ≤ 200 := by decide +kernel
theorem lam2 (n fuel : Nat) (s : Str) (hl : s.length + 2 ≤ sizeLine) : callG prg fuel (n + 4) 2 [.d (.str s)] [] = resM (rdW (wds s)) := by
  have h11 := f11_ok n fuel s hl
  rw [callG_at (l := ⟨0, 1, [5], [], l2⟩) rfl (by simp)]
  simp [l2, h11]
  cases rdW (wds s) <;> simp [resM]
abbrev two : D := webN 2 [(0, 1)]
theorem two_ok : OkW 2 [(0, 1)] := ⟨by decide, by decide, by decide, by decide⟩
theorem lam5 (n fuel : Nat) (s : Str) (hl : s.length + 2 ≤ sizeLine) : callG prg fuel (n + 6) 5 [.d two, .d (.str s)] [] = resC (cntR 2 (wds s)) := by
  have h13 := f13_ok n fuel 2 [(0, 1)] two_ok s hl
  rw [callG_at (l := ⟨0, 2, [6, 5], [], l5⟩) rfl (by simp)]
  simp only [two] at h13 ⊢
  simp [l5, h13]
  cases cntR 2 (wds s) <;> simp [resC]
theorem h3 (n fuel : Nat) : callF prg fuel (n + 8) 24 [.c 3 []] = ret1 (.tup [.str (Str.ofString "text"), .non]) := by kernel_rfl
theorem h4 (n fuel : Nat) : callF prg fuel (n + 8) 24 [.c 4 []] = ret1 (.tup [.str (Str.ofString "text"), .non]) := by kernel_rfl
theorem h6 (n fuel : Nat) : callF prg fuel (n + 8) 24 [.c 6 [.d (.tup [.int 2, .tup [.tup [.int 0, .int 1]]])]] = ret1 (.tup [.str (Str.ofString "text"), .non]) := by kernel_rfl
theorem h7 (n fuel : Nat) : callF prg fuel (n + 8) 24 [.c 7 []] = ret1 (.tup [.str (Str.ofString "web"), .tup []]) := by kernel_rfl
theorem h8 (n fuel : Nat) : callF prg fuel (n + 8) 24 [.c 8 [.d (.tup [.int 2, .tup [.tup [.int 0, .int 1]]])]] = ret1 (.tup [.str (Str.ofString "counts"), .tup [.int 1]]) := by kernel_rfl
theorem h9 (n fuel : Nat) : callF prg fuel (n + 8) 24 [.c 9 [.d (.tup [.int 2, .tup [.tup [.int 0, .int 1]]])]] = ret1 (.tup [.str (Str.ofString "counts"), .tup [.int 0]]) := by kernel_rfl
end K14
end
section
set_option Elab.async false
set_option linter.all false
set_option maxRecDepth 100000
set_option maxHeartbeats 4000000
namespace K14
open PySem Di TL
def toldW : List D := some16.map fun s => dueD (rdW (wds s))
theorem goodL_all (n : Nat) : ∀ l : List D, (∀ d ∈ l, good n d = true) → goodL n l = true
  | [], _ => rfl
  | x :: r, h => by simp only [goodL, h x (by simp), goodL_all n r fun y hy => h y (by simp [hy]), Bool.and_self]
theorem chL_all : ∀ l : List D, (∀ d ∈ l, chOk d = true) → chL l = true
  | [], _ => rfl
  | x :: r, h => by simp only [chL, h x (by simp), chL_all r fun y hy => h y (by simp [hy]), Bool.and_self]
theorem wtL_all (k : Nat) : ∀ l : List D, (∀ d ∈ l, wt d ≤ k) → wtL l ≤ l.length * (k + 2)
  | [], _ => by simp [wtL]
  | x :: r, h => by
    have h1 := h x (by simp)
    have h2 := wtL_all k r fun y hy => h y (by simp [hy])
    simp only [wtL, List.length_cons, Nat.succ_mul]
    omega
theorem lk_told : good 60 (.lst toldW) = true ∧ chOk (.lst toldW) = true ∧ wt (.lst toldW) ≤ 100000 := by
  refine ⟨by decide +kernel, by decide +kernel, by decide +kernel⟩
abbrev txN : D := .tup [.str (Str.ofString "text"), .non]
def told5 : D := .lst [txt 22, txt 1, txt 0, txN, txN]
theorem lk_told5 : Lk told5 := ⟨by decide +kernel, by decide +kernel, by decide +kernel⟩
def some8 : List Str := ["1000 0", "1001 0", "1", "", "1 2 3", "1 ", "00 1", "1 -1"]
def due12 : List D := [.lst [.tup [.int 1000, .int 0]], txt 0, txt 1, txt 0, txt 2, txt 1, txt 0, txt 1, txN, .tup [.str (Str.ofString "web"), .tup []], .tup [.str (Str.ofString "counts"), .tup [.int 1]], .tup [.str (Str.ofString "counts"), .tup [.int 0]]]
theorem lk_due12 : Lk (.lst due12) := ⟨by decide +kernel, by decide +kernel, by decide +kernel⟩
theorem some8_due : (some8.map fun s => dueC (cntR 2 (wds s))) = due12.take 8 := by kernel_rfl
theorem toldW1 : (dueD (rdW (wds s21)) = txt 22) ∧ (dueD (rdW (wds (Str.ofString "web"))) = txt 1) ∧ (dueD (rdW (wds (Str.ofString ""))) = txt 0) := by
  refine ⟨by kernel_rfl, by kernel_rfl, by kernel_rfl⟩
def tail30 : List ST := f30.drop 1
theorem o_muls (z : Str) (k : Nat) (hk : k ≤ 1000) (h : z.length * k ≤ sizeLine) : op2 .mul (.str z) (.int k) = some (.str (mulS z k)) := by
  simp only [op2]
  rw [if_pos ⟨by omega, by omega, by simpa using h⟩]
  rfl
theorem m20 : op2 .mul (.str (Str.ofString " 0>11")) (.int 20) = some (.str (mulS (Str.ofString " 0>11") 20)) := o_muls _ 20 (by decide) (by decide +kernel)
theorem m21 : op2 .mul (.str (Str.ofString " 0>11")) (.int 21) = some (.str (mulS (Str.ofString " 0>11") 21)) := o_muls _ 21 (by decide) (by decide +kernel)
theorem a20 : op2 .add (.str (Str.ofString "web 12")) (.str (mulS (Str.ofString " 0>11") 20)) = some (.str s20) := o_adds (by decide +kernel)
theorem a21 : op2 .add (.str (Str.ofString "web 12")) (.str (mulS (Str.ofString " 0>11") 21)) = some (.str s21) := o_adds (by decide +kernel)
theorem lams2 : prg.lams[2]? = some ⟨0, 1, [5], [], l2⟩ := rfl
theorem told_1 : idxD (.lst toldW) (.int 1) = some (txt 22) := by kernel_rfl
theorem told_4 : idxD (.lst toldW) (.int 4) = some (txt 1) := by kernel_rfl
theorem told_5 : idxD (.lst toldW) (.int 5) = some (txt 0) := by kernel_rfl
theorem toldW_len : toldW.length ≤ sizeLine := by decide +kernel
def told8 : List D := due12.take 8
theorem told8_len : told8.length ≤ sizeLine := by decide +kernel
theorem some8_len : ∀ s ∈ some8, s.length ≤ 200 := by decide +kernel
theorem compA (n fuel : Nat) (ρ : Di.Env) (h : 5 < ρ.length) : noEx (compL (compF prg (callF prg fuel (n + 8)) (callG prg fuel (n + 8)) (.n 5) [] (.call 24 [.clo 2]) ρ) (some16.map fun s => Val.d (.str s))) = ret1 toldW := by
  have hs : sizeLine = 16777216 := rfl
  rw [compL_mapL some16 (h := fun s => Val.d (.str s)) (g := fun s => dueD (rdW (wds s))) (fun s hm => by
    have hl := some16_len s hm
    have := heardW (n + 7) fuel 2 [.d (.str s)] s (by omega) (lam2 (n + 3) fuel s (by omega))
    simp [compF, cloO, lams2, caps, h, this])]
  rfl
theorem compB (n fuel : Nat) (ρ : Di.Env) (h : 5 < ρ.length) : noEx (compL (compF prg (callF prg fuel (n + 8)) (callG prg fuel (n + 8)) (.n 5) [] (.call 25 [.loc 5]) ρ) (some16.map fun s => Val.d (.str s))) = ret1 toldW := by
  have hs : sizeLine = 16777216 := rfl
  rw [compL_mapL some16 (h := fun s => Val.d (.str s)) (g := fun s => dueD (rdW (wds s))) (fun s hm => by
    have hl := some16_len s hm
    have := f25_ok (n + 7) fuel s (by omega)
    simp [compF, h, this])]
  rfl
theorem lams5 : prg.lams[5]? = some ⟨0, 2, [6, 5], [], l5⟩ := rfl
theorem compC (n fuel : Nat) (ρ : Di.Env) (h : 5 < ρ.length) (h6 : ρ[6]? = some (.sh (.d (.tup [.int 2, .tup [.tup [.int 0, .int 1]]])))) : noEx (compL (compF prg (callF prg fuel (n + 8)) (callG prg fuel (n + 8)) (.n 5) [] (.call 24 [.clo 5]) ρ) (some8.map fun s => Val.d (.str s))) = ret1 told8 := by
  have hs : sizeLine = 16777216 := rfl
  rw [compL_mapL some8 (h := fun s => Val.d (.str s)) (g := fun s => dueC (cntR 2 (wds s))) (fun s hm => by
    have hl := some8_len s hm
    have := heardC (n + 7) fuel 5 [.d (.tup [.int 2, .tup [.tup [.int 0, .int 1]]]), .d (.str s)] 2 s (lam5 (n + 1) fuel s (by omega))
    simp [compF, cloO, lams5, caps, h, h6, this])]
  rw [some8_due]
  rfl
theorem lams3 : prg.lams[3]? = some ⟨0, 0, [], [], l3⟩ := rfl
theorem lams4 : prg.lams[4]? = some ⟨1, 1, [], [.int 0], l4⟩ := rfl
theorem lams6 : prg.lams[6]? = some ⟨0, 1, [6], [], l6⟩ := rfl
theorem lams7 : prg.lams[7]? = some ⟨1, 1, [], [.int 0], l7⟩ := rfl
theorem lams8 : prg.lams[8]? = some ⟨0, 1, [6], [], l8⟩ := rfl
theorem lams9 : prg.lams[9]? = some ⟨1, 2, [6], [.int 0], l9⟩ := rfl
theorem tail_ok (n fuel : Nat) (ns : List Int) (y1 y2 : Sl) (h1 : ∀ i, killS prg i y1 = y1) (h2 : ∀ i, killS prg i y2 = y2) :
    execs prg (callF prg fuel (n + 8)) (callG prg fuel (n + 8)) fuel tail30 (E30 ns y1 y2) = ret1 (.rt (.bl true)) := by
  have hs : sizeLine = 16777216 := rfl
  have hA := compA n fuel
  have hB := compB n fuel
  have hC := compC n fuel
  simp only [some16, some8, List.map_cons, List.map_nil] at hA hB hC
  have k1 := f17_ok (n + 7) fuel _ lk_told.1 lk_told.2.1 (by have := lk_told.2.2; omega)
  have k2 := like (n + 7) fuel lk_told5
  have k3 := like (n + 7) fuel lk_due12
  simp [tail30, f30, E30, h1, h2, tupO_eq, lstO_eq, m20, m21, a20, a21, o_addl, hs]
  rw [hA _ (by simp [mask])]
  simp [lf_newL toldW_len]
  rw [hB _ (by simp [mask])]
  simp [lf_newL toldW_len, k1]
  simp [told5, txt, txN] at k2
  simp [told_1, told_4, told_5, cloO, lams3, lams4, caps, h3, h4, tupO_eq, lstO_eq, txt, k2]
  rw [hC _ (by simp [mask]) (by simp [mask])]
  simp [lf_newL told8_len, tupO_eq, lstO_eq]
  simp [due12, txt, txN] at k3
  simp [told8, due12, txt, txN, cloO, lams6, lams7, lams8, lams9, caps, h6, h7, h8, h9, tupO_eq, lstO_eq, o_addl, hs, k3]
end K14
end
section
set_option Elab.async false
set_option linter.all false
set_option maxRecDepth 100000
set_option maxHeartbeats 4000000
namespace K14
open PySem Di TL
theorem exec30 (ns : List Int) (hn : ns.length ≤ 63) (n fuel : Nat) (m : MS) : ∃ m', callF prg fuel (n + 9) 30 [.d (.scr ns)] m = .ok (.bl true) m' := by
  rw [callF_at (np := 1) (ns := 8) (body := f30) rfl rfl (by decide)]
  have hmin : Di.bi .min [.int 2, .int (ns.length : Int)] = some (.int ((if ns.length < 2 then ns.length else 2 : Nat) : Int)) := by
    simp only [Di.bi, biMin]
    by_cases h : ns.length < 2
    · rw [if_pos h, if_pos (by omega)]
    · rw [if_neg h, if_neg (by omega)]; rfl
  have hc : (if ns.length < 2 then ns.length else 2) ≤ 2 := by split <;> omega
  generalize (if ns.length < 2 then ns.length else 2) = c at hmin hc
  have e1 : (1 : Int) + (c : Int) = ((c + 1 : Nat) : Int) := by omega
  obtain ⟨y1, y2, m', e2, k1, k2⟩ := loop30 n fuel ns hn (List.range (c + 1)) (by
    intro t ht
    have : t < c + 1 := by simpa using ht
    omega) .no .no m (by simp) (by simp)
  have e3 : f30 = .for (.n 1) .range [(.op .add (.k (.int 1)) (.bi .min [(.k (.int 2)), (.bi .len [(.loc 0)])]))] b30 :: tail30 := rfl
  refine ⟨m', ?_⟩
  have e4 : evalE prg (callF prg fuel (n + 8)) (callG prg fuel (n + 8)) (.op .add (.k (.int 1)) (.bi .min [(.k (.int 2)), (.bi .len [(.loc 0)])])) (E30 ns .no .no) = ret1 (.v (.d (.int ((c + 1 : Nat) : Int)))) := by
    rw [← e1]
    simp [hmin]
  have e5 : [Val.d (D.scr ns)].map Sl.sh ++ List.replicate (8 - 1) Sl.no = E30 ns .no .no := rfl
  rw [e3, e5, exs_cons, for_rng (n := c + 1) (by omega) e4, ev_bind_assoc, bind_at, e2, then_ok, go_nx, tail_ok n fuel ns y1 y2 k1 k2, ev_bind_ret, out_rt, ret_at]
theorem plain : K14.L.Plain 20 := by
  intro ns hn _
  obtain ⟨m', h⟩ := exec30 ns hn 11 0 ⟨0, 0, 0, [], 0⟩
  exact ⟨0, m', h⟩
end K14
end
section
set_option Elab.async false
set_option linter.all false
set_option maxRecDepth 100000
set_option maxHeartbeats 0
open PySem PySem.W PySem.Calls PyProof.Rows
theorem PySem.Challenge.cw_onewayapart_k14_whole_web_texts_holds : PySem.Challenge.rw_onewayapart_k14_whole_web_texts.Holds := by
  w_on; o_law
  refine HandSHeadRun.head_any (r := K14.R) (q := K14.qv) (H := K14.hk) (ob := K14.ob) (M := 6000) (loose := K14.loose) (d := HandSHeadRun.topDef K14.R.prog 43) (kwd := []) K14.ob_eq
    (by kernel_rfl) (fun s => by kernel_rfl) K14.run (by kernel_rfl) (by kernel_rfl) (by kernel_rfl) (by rfl) (by first | assumption | decide +kernel) (by decide +kernel) ⟨rfl, rfl, rfl, rfl, rfl, by decide +kernel⟩ ?hw ?hc
  case hw => w_witness2
  case hc => exact Di.LawI.walk (L := K14.L) (n := 19) (Di.LawI.ok_of K14.okB) rfl rfl (by kernel_rfl) ⟨rfl, by decide, by decide⟩ (by kernel_rfl) K14.plain
end
