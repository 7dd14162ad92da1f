import PyProof.Rows.All
import Wide.All
import OpenK.AllK
import Wide.FinOn
import HandS.ForExc
import HandS.ForMost
import HandS.Wide
import HandS.Small
import HandS.IsInst
import HandS.TupAny
import HandS.TupMul
import HandS.TupLe
import HandS.TryMany
import HandS.TryOnly
import HandS.Walk
import HandS.Style
import HandS.Deep
import HandS.DictTup
import HandS.TupLen
import HandS.Conv
import KE.KStateDown
import KE.GoesMore
import KE.GoesEnum
import HandS.Zip
import Lean
import HandS.Head0
import HandS.Head1
import HandS.Head2
import HandS.HeadEnd
import HandS.HeadHook1
import HandS.HeadHook2
import HandS.HeadHook3
import HandS.HeadHook4
import HandS.WordsExc
import HandS.Defaults
import KE.SortData
import KE.SortKeyHeap
import HandS.SortKw
import PyProof.ExcBaseAll.ValueError
import PySem.Challenge.RW_bracketwords_k86_whole_runs_of_letters
set_option Elab.async false
set_option linter.all false
set_option maxRecDepth 100000
set_option maxHeartbeats 0
set_option exponentiation.threshold 5000
namespace Vf
open PySem PySem.Spec PyProof.Rows L2

inductive D where
  | non | bl (b : Bool) | int (i : Int) | str (x : Str)
  | tup (ds : List D) | lst (ds : List D)
  | ktup (ds : List D)
  | dic (t : Bool) (kvs : List (D × D))
  | tape

abbrev TP := Option (List Int × Int)
structure S where
  ρ : List (Option (Bool × D))
  T : TP
inductive Res (α : Type) where
  | ok (a : α) (s : S) | exc (c : Nat) (s : S) | stuck
abbrev M (α : Type) := S → Res α
@[reducible] def ret {α : Type} (a : α) : M α := fun s => .ok a s
def bnd {α β : Type} (m : M α) (f : α → M β) : M β := fun s => match m s with
  | .ok a s' => f a s'
  | .exc c s' => .exc c s'
  | .stuck => .stuck
def stk {α : Type} : M α := fun _ => .stuck
def opt {α : Type} : Option α → M α
  | some a => fun s => .ok a s
  | none => fun _ => .stuck

inductive Pr where
  | bin (op : Operator) | cmp (op : CmpOp) | neg | idx | sl (lo hi : Bool) | rev
  | isN (b : Bool) | isB (b c : Bool) | isT (T : String) | blt (id : String) | mth (id : String)
  deriving DecidableEq

mutual
inductive Ex where
  | var (i : Nat) | cst (d : D) | glo (x : Str) (d : D)
  | prim (p : Pr) (es : Exs)
  | chkI (a : Ex) | not (a : Ex) | and (a b : Ex) | or (a b : Ex) | ite (c a b : Ex)
  | tup (es : Exs) | lst (es : Exs) | dic (t : Bool)
  | call (f : Nat) (es : Exs)
  | pop (i : Nat) (es : Exs)
  | comp (own : List Nat) (tg : List Nat) (it : It) (c : Exs) (e : Ex)
  | sortk (a : Ex) (f : Nat)
inductive Exs where
  | nil | cons (e : Ex) (es : Exs)
inductive It where
  | ex (e : Ex) | rng1 (a : Ex) | rng2 (a b : Ex) | zip (a b : Ex) | enm (a : Ex)
end

mutual
inductive Sx where
  | set (i : Nat) (e : Ex)
  | unp (is : List Nat) (e : Ex)
  | par (is : List Nat) (es : Exs)
  | aug (i : Nat) (op : Operator) (e : Ex)
  | put (i : Nat) (k e : Ex)
  | augk (i : Nat) (k : Ex) (op : Operator) (e : Ex)
  | app (i : Nat) (e : Ex)
  | ext (i : Nat) (e : Ex)
  | ite (c : Ex) (a b : Sxs)
  | for_ (tg : List Nat) (it : It) (b : Sxs)
  | while_ (c : Ex) (b : Sxs)
  | ret (e : Ex)
  | raise (c : Nat)
  | expr (e : Ex)
  | pass
  | try_ (e : Ex) (r : Bool) (hs : List (Nat × Option D))
inductive Sxs where
  | nil | cons (s : Sx) (ss : Sxs)
end

mutual
def pd : D → PyData
  | .non => .none | .bl b => .bool b | .int i => .int i | .str x => .str x
  | .tup ds => .tuple (pds ds) | .lst ds => .list (pds ds) | .ktup ds => .tuple (pds ds)
  | .dic _ _ => .none | .tape => .none
def pds : List D → List PyData
  | [] => []
  | d :: ds => pd d :: pds ds
end
mutual
def okD : Nat → D → Bool
  | _, .dic _ _ => false
  | _, .tape => false
  | _, .non => true
  | _, .bl _ => true
  | _, .int _ => true
  | _, .str x => PyData.strOk x
  | n, .tup ds => match n with
    | 0 => false
    | n + 1 => okDs n ds
  | n, .ktup ds => match n with
    | 0 => false
    | n + 1 => okDs n ds
  | n, .lst ds => match n with
    | 0 => false
    | n + 1 => okDs n ds
def okDs : Nat → List D → Bool
  | _, [] => true
  | n, d :: ds => okD n d && okDs n ds
end
def small (i : Int) : Bool := decide (i.natAbs.log2 < 9000)
def intsD : List D → Option (List Int)
  | [] => some []
  | .int i :: r => (intsD r).map (i :: ·)
  | _ => none
def blsD : List D → Option (List Bool)
  | [] => some []
  | .bl i :: r => (blsD r).map (i :: ·)
  | _ => none
def keyD : D → Option Key
  | .int i => some (.inl i)
  | .str x => some (.inr x)
  | _ => none
def keysD : List D → Option (List Key)
  | [] => some []
  | d :: r => match keyD d, keysD r with
    | some k, some ks => some (k :: ks)
    | _, _ => none
def dkey (t : Bool) (d : D) : Option (Key ⊕ List Key) := match t, d with
  | false, d => (keyD d).map .inl
  | true, .tup ds => (keysD ds).map .inr
  | true, _ => none
def dget (t : Bool) (k : Key ⊕ List Key) : List (D × D) → Option D
  | [] => none
  | (d, e) :: r => if dkey t d = some k then some e else dget t k r
def drep (t : Bool) (k : Key ⊕ List Key) (e : D) (r : List (D × D)) : List (D × D) := r.map fun p => if dkey t p.1 = some k then (p.1, e) else p
def dput (t : Bool) (k : Key ⊕ List Key) (dk e : D) : List (D × D) → List (D × D)
  | [] => [(dk, e)]
  | (d, x) :: r => if dkey t d = some k then (d, e) :: drep t k e r else (d, x) :: dput t k dk e r
def line : Nat := sizeLine
def fits (n : Nat) : Bool := decide (n ≤ sizeLine)
def eqD (a b : D) : Option Bool := match a, b with
  | .int i, .int j => some (decide (i = j))
  | .bl i, .bl j => some (decide (i = j))
  | .str i, .str j => some (decide (i = j))
  | a, b => if okD 60 a && okD 60 b then some (PyData.eqv (pd a) (pd b)) else none
def ltI (a b : List Int) : Bool := HT.lexLt a b
def ltD : D → D → Option Bool
  | .int i, .int j => some (decide (i < j))
  | .tup a, .tup b => match intsD a, intsD b with
    | some x, some y => some (ltI x y)
    | _, _ => if okD 60 (.tup a) && okD 60 (.tup b) && PySem.W.alike (pd (.tup a)) (pd (.tup b)) then some (PySem.W.dataLt (pd (.tup a)) (pd (.tup b))) else none
  | _, _ => none
def leD : D → D → Option Bool
  | .int i, .int j => some (decide (i ≤ j))
  | _, _ => none
def flatD : D → Bool
  | .int _ => true | .str _ => true | .bl _ => true | .non => true | _ => false
def inD : D → D → Option Bool
  | k, .dic t kvs => (dkey t k).map fun k => (dget t k kvs).isSome
  | k, .lst ds => if okD 60 k && okDs 59 ds then some (ds.any fun z => PyData.eqv (pd z) (pd k)) else none
  | .int k, .tup ds => (intsD ds).map fun ns => decide (k ∈ ns)
  | _, _ => none
def cmpD (op : CmpOp) (a b : D) : Option Bool := match op with
  | .Eq => eqD a b
  | .NotEq => (eqD a b).map (!·)
  | .Lt => ltD a b
  | .LtE => leD a b
  | .Gt => match a, b with
    | .int i, .int j => some (decide (j < i))
    | _, _ => none
  | .GtE => match a, b with
    | .int i, .int j => some (decide (j ≤ i))
    | _, _ => none
  | .In => inD a b
  | .NotIn => (inD a b).map (!·)
  | _ => none
def at? (i : Int) (xs : List D) : Option D := atI xs i
def rep (xs : List D) : Nat → List D
  | 0 => []
  | n + 1 => xs ++ rep xs n
def addD : D → D → Option (D × Bool)
  | .int i, .int j => some (.int (i + j), false)
  | .tup a, .tup b => if fits (a.length + b.length) then some (.tup (a ++ b), false) else none
  | .lst a, .lst b => if fits (a.length + b.length) then some (.lst (a ++ b), true) else none
  | _, _ => none
def subD : D → D → Option (D × Bool)
  | .int i, .int j => some (.int (i - j), false)
  | _, _ => none
def mulD : D → D → Option (D × Bool)
  | .int i, .int j => if decide (i.natAbs.log2 + j.natAbs.log2 < 1000000) then some (.int (i * j), false) else none
  | .lst a, .int j => if decide (j < 2 ^ 30) && decide (-(2 ^ 30) < j) && fits (a.length * j.toNat) then some (.lst (rep a j.toNat), true) else none
  | .tup a, .int j => if decide (1 ≤ j) && decide (j ≤ 1000) && decide (a.length ≤ 1000) then some (.tup (rep a j.toNat), false) else none
  | _, _ => none
def divD : D → D → Option (D × Bool)
  | .int i, .int j => if decide (j ≠ 0) && small j then some (.int (i.fdiv j), false) else none
  | _, _ => none
def modD : D → D → Option (D × Bool)
  | .int i, .int j => if decide (j ≠ 0) then some (.int (i.fmod j), false) else none
  | _, _ => none
def binD (op : Operator) (a b : D) : Option (D × Bool) := match op with
  | .Add => addD a b
  | .Sub => subD a b
  | .Mult => mulD a b
  | .FloorDiv => divD a b
  | .Mod => modD a b
  | _ => none
def isT : String → D → Option Bool
  | "int", .int _ => some true | "int", .bl _ => some true | "int", .non => some false | "int", .str _ => some false | "int", .tup _ => some false | "int", .ktup _ => some false | "int", .lst _ => some false
  | "bool", .bl _ => some true | "bool", .int _ => some false | "bool", .non => some false | "bool", .str _ => some false | "bool", .tup _ => some false | "bool", .ktup _ => some false | "bool", .lst _ => some false
  | "tuple", .tup _ => some true | "tuple", .ktup _ => some true | "tuple", .int _ => some false | "tuple", .bl _ => some false | "tuple", .non => some false | "tuple", .str _ => some false | "tuple", .lst _ => some false
  | "str", .str _ => some true | "str", .int _ => some false | "str", .bl _ => some false | "str", .non => some false | "str", .tup _ => some false | "str", .ktup _ => some false | "str", .lst _ => some false
  | _, _ => none
end Vf
namespace Vf
open PySem PySem.Spec PyProof.Rows L2

def alikeB (ds : List PyData) : Bool := ds.all fun d => ds.all fun e => PySem.W.alike d e
def sortB : List PyData → Bool
  | ds => (ds.all fun d => match d with | .tuple (_ :: _) => true | _ => false) || ds.all fun d => match d with | .none => false | .tuple _ => false | _ => true
def sortable (ds : List D) : Bool := okDs 20 ds && fits ds.length && alikeB (pds ds) && sortB (pds ds)
def sortD (ds : List D) : List D := ds.mergeSort (PySem.W.dataLe false pd)
def sortK (ds ks : List D) : List D := ((ds.zip ks).mergeSort (PySem.W.dataLe false fun p => pd p.2)).map (·.1)
def pairsOfD : List D → Option (List (D × D))
  | [] => some []
  | .tup [a, b] :: r => (pairsOfD r).map ((a, b) :: ·)
  | _ => none
def putAllD (t : Bool) : List (D × D) → List (D × D) → Option (List (D × D))
  | acc, [] => some acc
  | acc, (k, v) :: r => match dkey t k with
    | some kk => putAllD t (dput t kk k v acc) r
    | none => none
def maxI : Int → List Int → Int
  | a, [] => a
  | a, b :: r => maxI (if a < b then b else a) r
def minI : Int → List Int → Int
  | a, [] => a
  | a, b :: r => minI (if b < a then b else a) r
def countD (d : D) : List D → Option Int
  | [] => some 0
  | x :: r => match eqD x d, countD d r with
    | some b, some n => some (if b then n + 1 else n)
    | _, _ => none
def arg1 {α : Type} (f : D → Option α) : List D → Option α
  | [a] => f a
  | _ => none
def arg2 {α : Type} (f : D → D → Option α) : List D → Option α
  | [a, b] => f a b
  | _ => none
def lenD : D → Option (D × Bool)
  | .tup a => some (.int a.length, false)
  | .ktup a => some (.int a.length, false)
  | .lst a => some (.int a.length, false)
  | .dic true a => some (.int a.length, false)
  | _ => none
def absD : D → Option (D × Bool)
  | .int i => some (.int (if i < 0 then -i else i), false)
  | _ => none
def intD : D → Option (D × Bool)
  | .int i => some (.int i, false)
  | _ => none
def tupleD : D → Option (D × Bool)
  | .tup a => some (.tup a, false)
  | .ktup a => some (.ktup a, false)
  | .lst a => some (.tup a, false)
  | _ => none
def listD : D → Option (D × Bool)
  | .tup a => some (.lst a, true)
  | .ktup a => some (.lst a, true)
  | .lst a => some (.lst a, true)
  | .dic true a => some (.lst (a.map (·.1)), true)
  | _ => none
def sumD : D → Option (D × Bool)
  | .lst a => (intsD a).map fun x => (.int x.sum, false)
  | _ => none
def maxD : D → Option (D × Bool)
  | .lst a => match intsD a with
    | some (y :: r) => some (.int (maxI y r), false)
    | _ => none
  | _ => none
def minD : D → Option (D × Bool)
  | .lst a => match intsD a with
    | some (y :: r) => some (.int (minI y r), false)
    | _ => none
  | _ => none
def max2D : D → D → Option (D × Bool)
  | .int i, .int j => some (.int (if j > i then j else i), false)
  | _, _ => none
def min2D : D → D → Option (D × Bool)
  | .int i, .int j => some (.int (if j < i then j else i), false)
  | _, _ => none
def allD : D → Option (D × Bool)
  | .lst a => (blsD a).map fun x => (.bl (x.all id), false)
  | _ => none
def anyD : D → Option (D × Bool)
  | .lst a => (blsD a).map fun x => (.bl (x.any id), false)
  | _ => none
def itemsOf : D → Option (List D)
  | .lst a => some a
  | .tup a => some a
  | .dic true a => some (a.map (·.1))
  | _ => none
def sortedD (d : D) : Option (D × Bool) := match itemsOf d with
  | some a => if sortable a then some (.lst (sortD a), true) else none
  | none => none
def dictD : D → Option (D × Bool)
  | .lst a => match pairsOfD a with
    | some ((.tup k, v) :: r) => (putAllD true [] ((.tup k, v) :: r)).map fun q => (.dic true q, true)
    | _ => none
  | _ => none
def orElse2 {α : Type} (f : List D → Option α) (g : List D → Option α) (ds : List D) : Option α := match ds with
  | [_] => f ds
  | _ => g ds
def bltD (id : String) (ds : List D) : Option (D × Bool) :=
  if id = "len" then arg1 lenD ds else if id = "abs" then arg1 absD ds else if id = "int" then arg1 intD ds else if id = "tuple" then arg1 tupleD ds else if id = "list" then arg1 listD ds
  else if id = "sum" then arg1 sumD ds else if id = "max" then orElse2 (arg1 maxD) (arg2 max2D) ds else if id = "min" then orElse2 (arg1 minD) (arg2 min2D) ds
  else if id = "all" then arg1 allD ds else if id = "any" then arg1 anyD ds else if id = "sorted" then arg1 sortedD ds else if id = "dict" then arg1 dictD ds else none
def getD2 (d k : D) : Option (D × Bool) := match d with
  | .dic t kvs => (dkey t k).map fun kk => ((dget t kk kvs).getD .non, false)
  | _ => none
def getD3 (d k x : D) : Option (D × Bool) := match d with
  | .dic t kvs => (dkey t k).map fun kk => ((dget t kk kvs).getD x, false)
  | _ => none
def arg3 {α : Type} (f : D → D → D → Option α) : List D → Option α
  | [a, b, c] => f a b c
  | _ => none
def countD' : D → D → Option (D × Bool)
  | .tup a, .int i => (intsD a).map fun x => (.int (x.count i), false)
  | _, _ => none
def indexD : D → D → Option (D × Bool)
  | .lst a, .int i => (intsD a).bind fun x => if i ∈ x then some (.int (x.idxOf i), false) else none
  | _, _ => none
def mthD (id : String) (ds : List D) : Option (D × Bool) :=
  if id = "get" then match ds with
    | [d, k] => getD2 d k
    | [d, k, x] => getD3 d k x
    | _ => none
  else if id = "count" then arg2 countD' ds else if id = "index" then arg2 indexD ds else none
def cutD (lo hi : Option Int) (xs : List D) : List D := cutV' lo hi xs
where cutV' (lo hi : Option Int) (xs : List D) : List D := (xs.drop (HT.sIx xs.length 0 lo)).take (HT.sIx xs.length xs.length hi - HT.sIx xs.length 0 lo)
def slD (lo hi : Option Int) : D → Option (D × Bool)
  | .tup a => some (.tup (cutD lo hi a), false)
  | .lst a => some (.lst (cutD lo hi a), true)
  | _ => none
def idxD : D → D → Option (D × Bool)
  | .tup a, .int i => (at? i a).map fun d => (d, false)
  | .ktup a, .int i => (at? i a).map fun d => (d, false)
  | .lst a, .int i => (at? i a).map fun d => (d, false)
  | .dic t kvs, k => (dkey t k).bind fun kk => (dget t kk kvs).map fun d => (d, false)
  | _, _ => none
def negD : D → Option (D × Bool)
  | .int i => some (.int (-i), false)
  | _ => none
def revD : D → Option (D × Bool)
  | .tup a => some (.tup a.reverse, false)
  | .lst a => some (.lst a.reverse, true)
  | _ => none
def isND (b : Bool) : D → Option (D × Bool)
  | .non => some (.bl b, false)
  | .tape => none
  | .dic _ _ => none
  | _ => some (.bl (!b), false)
def isBD (b c : Bool) : D → Option (D × Bool)
  | .bl x => some (.bl ((x == b) == c), false)
  | _ => none
def slArgs (lo hi : Bool) (ds : List D) : Option (D × Bool) := match lo, hi, ds with
  | true, false, [x, .int i] => slD (some i) none x
  | false, true, [x, .int j] => slD none (some j) x
  | true, true, [x, .int i, .int j] => slD (some i) (some j) x
  | _, _, _ => none
def primD (p : Pr) (ds : List D) : Option (D × Bool) := match p with
  | .bin op => arg2 (binD op) ds
  | .cmp op => arg2 (fun a b => (cmpD op a b).map fun r => (.bl r, false)) ds
  | .neg => arg1 negD ds
  | .idx => arg2 idxD ds
  | .sl lo hi => slArgs lo hi ds
  | .rev => arg1 revD ds
  | .isN b => arg1 (isND b) ds
  | .isB b c => arg1 (isBD b c) ds
  | .isT T => arg1 (fun d => (isT T d).map fun b => (.bl b, false)) ds
  | .blt id => bltD id ds
  | .mth id => mthD id ds

inductive FRes where
  | ok (d : D) (fr : Bool) (T : TP) | exc (c : Nat) (T : TP) | stuck
abbrev FT := Nat → List D → TP → FRes
inductive Opd where
  | val (d : D) | slot (i : Nat)
def lk (s : S) (i : Nat) : Option (Bool × D) := (s.ρ[i]?).join
def Opd.get (s : S) : Opd → Option D
  | .val d => some d
  | .slot i => (lk s i).map (·.2)
def getAll (s : S) : List Opd → Option (List D)
  | [] => some []
  | o :: r => match o.get s, getAll s r with
    | some d, some ds => some (d :: ds)
    | _, _ => none
def setS (s : S) (i : Nat) (x : Option (Bool × D)) : S := { s with ρ := s.ρ.set i x }
def rdV (i : Nat) : M (D × Bool) := fun s => match lk s i with
  | some (_, d) => .ok (d, false) (setS s i (some (false, d)))
  | none => .stuck
def opV (i : Nat) : M Opd := fun s => match lk s i with
  | some _ => .ok (.slot i) s
  | none => .stuck
def tyOf : D → String
  | .lst _ => "list" | .tup _ => "tuple" | .ktup _ => "tuple" | .dic _ _ => "dict" | .int _ => "int" | .bl _ => "bool" | .str _ => "str" | .non => "NoneType" | .tape => "list"
def mthTy : String → D → Bool
  | "get", .dic _ _ => true | "count", .tup _ => true | "index", .lst _ => true | _, _ => false
def isB : D × Bool → M Bool
  | (.bl b, _) => ret b
  | _ => stk
def intM : D × Bool → M (D × Bool)
  | (.int i, _) => ret (.int i, false)
  | _ => stk
def callM (F : FT) (f : Nat) (ds : List D) : M (D × Bool) := fun s => match F f ds s.T with
  | .ok d fr T => .ok (d, fr) { s with T := T }
  | .exc c T => .exc c { s with T := T }
  | .stuck => .stuck
def tupM (ds : List D) : M (D × Bool) := if fits ds.length then ret (.tup ds, false) else stk
def lstM (ds : List D) : M (D × Bool) := if fits ds.length then ret (.lst ds, true) else stk
def setP : List Nat → List D → S → S
  | i :: is, d :: ds, s => setP is ds (setS s i (some (false, d)))
  | _, _, s => s
def setAll : List Nat → List (D × Bool) → S → S
  | i :: is, d :: ds, s => setS (setAll is ds s) i (some (d.2, d.1))
  | _, _, s => s
def tupOf : D → Option (List D)
  | .tup ds => some ds
  | .ktup ds => some ds
  | _ => none
def plainD (ds : List D) : List (D × Bool) := ds.map fun d => (d, false)
def bindTup (is : List Nat) (d : D) : M Unit := fun s => match tupOf d with
  | some ds => if is.length = ds.length then .ok () (setP is ds s) else .stuck
  | none => .stuck
def bindT (tg : List Nat) (d : D) : M Unit := match tg with
  | [i] => fun s => .ok () (setS s i (some (false, d)))
  | is => bindTup is d
def wipeS (own : List Nat) (s : S) : S := { s with ρ := own.foldl (fun ρ i => ρ.set i none) s.ρ }
def noOwned (own : List Nat) (s : S) : Bool := own.all fun i => match lk s i with
  | some (true, _) => false
  | _ => true
def backS (own : List Nat) (s0 s : S) : S := { s with ρ := own.foldl (fun ρ i => ρ.set i ((s0.ρ[i]?).join)) s.ρ }
def nox {α : Type} (m : M α) : M α := fun s => match m s with
  | .ok a s' => .ok a s'
  | _ => .stuck
def wordsD : List D → Option (List (List Int))
  | [] => some []
  | .tup xs :: r => match intsD xs, wordsD r with
    | some w, some ws => some (w :: ws)
    | _, _ => none
  | _ => none
def wordD (w : List Int) : D := .tup (w.map .int)
def wkey (w : List Int) : PyData := .tuple [.int w.length, .tuple (w.map .int)]
def sortW (ws : List (List Int)) : List (List Int) := ws.mergeSort (PySem.W.dataLe false wkey)
def itemsL : D → Option (List D)
  | .lst a => some a
  | .dic true a => some (a.map (·.1))
  | _ => none
def sortkD (d : D) : Option (D × Bool) := (itemsL d).bind fun ds => (wordsD ds).bind fun ws => if fits ws.length then some (.lst ((sortW ws).map wordD), true) else none
def ownM (i : Nat) : M Unit := fun s => match lk s i with
  | some (true, _) => .ok () s
  | _ => .stuck
def ownL (i : Nat) : M Unit := fun s => match lk s i with
  | some (true, .lst _) => .ok () s
  | _ => .stuck
def seqOf : D → Option (List D)
  | .lst ds => some ds
  | .tup ds => some ds
  | .ktup ds => some ds
  | _ => none
def rangeD (i j : Int) : List D := (List.range (j - i).toNat).map fun (k : Nat) => D.int (i + (k : Int))
def pairD (a b : D) : D := .tup [a, b]
def zipD : D → D → Option (List D)
  | .lst xs, .lst ys => some (List.zipWith pairD xs ys)
  | d, e => (tupOf d).bind fun xs => (tupOf e).map fun ys => List.zipWith pairD xs ys
def enumD : Nat → List D → List D
  | _, [] => []
  | n, d :: r => .tup [.int n, d] :: enumD (n + 1) r
def bigOk (i : Int) : Bool := decide (-(2 ^ 62) ≤ i) && decide (i < 2 ^ 62)

def popV (i : Nat) (xs : List D) : M (D × Bool) := fun s => match lk s i with
  | some (true, .lst ds) => match xs with
    | [] => match ds.getLast? with
      | some d => .ok (d, false) (setS s i (some (true, .lst ds.dropLast)))
      | none => .stuck
    | [.int k] => if bigOk k then match seqIndex? k ds.length with
        | some j => match ds[j]? with
          | some d => .ok (d, false) (setS s i (some (true, .lst (ds.eraseIdx j))))
          | none => .stuck
        | none => .stuck
      else .stuck
    | _ => .stuck
  | _ => .stuck
def compL (own tg : List Nat) (c : M Bool) (e : M (D × Bool)) : List D → M (List D)
  | [] => ret []
  | d :: r => fun s => bnd (bindT tg d) (fun _ => bnd c fun b => if b then bnd e fun x s' => bnd (compL own tg c e r) (fun xs => ret (x.1 :: xs)) (wipeS own s') else fun s' => compL own tg c e r (wipeS own s')) s
mutual
def evE (F : FT) : Ex → M (D × Bool)
  | .var i => rdV i
  | .cst d => ret (d, false)
  | .glo _ d => ret (d, false)
  | .prim p es => bnd (evO F es) fun os s => match getAll s os with
    | some ds => match primD p ds with
      | some r => .ok r s
      | none => .stuck
    | none => .stuck
  | .chkI a => bnd (evE F a) intM
  | .not a => bnd (bnd (evE F a) isB) fun b => ret (.bl (!b), false)
  | .and a b => bnd (bnd (evE F a) isB) fun x => if x then evE F b else ret (.bl false, false)
  | .or a b => bnd (bnd (evE F a) isB) fun x => if x then ret (.bl true, false) else evE F b
  | .ite c a b => bnd (bnd (evE F c) isB) fun x => if x then evE F a else evE F b
  | .tup es => bnd (evEs F es) fun xs => tupM (xs.map (·.1))
  | .lst es => bnd (evEs F es) fun xs => lstM (xs.map (·.1))
  | .dic t => ret (.dic t [], true)
  | .call f es => bnd (evEs F es) fun xs => callM F f (xs.map (·.1))
  | .pop i es => bnd (ownL i) fun _ => bnd (evEs F es) fun xs => popV i (xs.map (·.1))
  | .comp own tg it c e => nox (bnd (evIt F it) fun ds s => if noOwned own s then
      bnd (compL own tg (match c with | .nil => ret true | .cons c _ => bnd (evE F c) isB) (evE F e) ds) (fun xs s' => if fits xs.length then .ok (.lst xs, true) (backS own s s') else .stuck) (wipeS own s) else .stuck)
  | .sortk a _ => bnd (evE F a) fun d => opt (sortkD d.1)
def evEs (F : FT) : Exs → M (List (D × Bool))
  | .nil => ret []
  | .cons e es => bnd (evE F e) fun d => bnd (evEs F es) fun ds => ret (d :: ds)
def evO (F : FT) : Exs → M (List Opd)
  | .nil => ret []
  | .cons e es => bnd (match e with | .var i => opV i | e => bnd (evE F e) fun d => ret (.val d.1)) fun o => bnd (evO F es) fun os => ret (o :: os)
def evIt (F : FT) : It → M (List D)
  | .ex e => bnd (evE F e) fun d => opt (seqOf d.1)
  | .rng1 a => bnd (evE F a) fun d => match d.1 with
    | .int j => if bigOk j then ret (rangeD 0 j) else stk
    | _ => stk
  | .rng2 a b => bnd (evE F a) fun d => bnd (evE F b) fun e => match d.1, e.1 with
    | .int i, .int j => if bigOk i && bigOk j then ret (rangeD i j) else stk
    | _, _ => stk
  | .zip a b => bnd (evE F a) fun d => bnd (evE F b) fun e => opt (zipD d.1 e.1)
  | .enm a => bnd (evE F a) fun d => match seqOf d.1 with
    | some xs => ret (enumD 0 xs)
    | none => stk
end

def evOp (F : FT) : Ex → M Opd
  | .var i => opV i
  | e => bnd (evE F e) fun d => ret (.val d.1)
theorem evO_cons (F : FT) (e : Ex) (es : Exs) : evO F (.cons e es) = bnd (evOp F e) fun o => bnd (evO F es) fun os => ret (o :: os) := by
  cases e <;> simp only [evO, evOp]
inductive Fl where
  | nx | rt (d : D) (fr : Bool)
def retV (i : Nat) : M Fl := fun s => match lk s i with
  | some (fr, d) => .ok (.rt d fr) (setS s i none)
  | none => .stuck
def storeM (i : Nat) (x : D × Bool) : M Fl := fun s => .ok .nx (setS s i (some (x.2, x.1)))
def forL (tg : List Nat) (b : M Fl) : List D → M Fl
  | [] => ret .nx
  | d :: r => bnd (bindT tg d) fun _ => bnd b fun f => match f with
    | .nx => forL tg b r
    | .rt d fr => ret (.rt d fr)
def whileL (c : M Bool) (b : M Fl) : Nat → M Fl
  | 0 => stk
  | n + 1 => bnd c fun x => if x then bnd b fun f => match f with
    | .nx => whileL c b n
    | .rt d fr => ret (.rt d fr) else ret .nx
def most : Nat := 1000000000
def augD (op : Operator) (a b : D) : Option D := match op, a, b with
  | .Add, .int i, .int j => some (.int (i + j))
  | .Sub, .int i, .int j => some (.int (i - j))
  | _, _, _ => none
def setAt (d : D) (k : D) (x : D) : Option D := match d, k with
  | .lst xs, .int i => (ixN xs.length i).map fun j => .lst (xs.set j x)
  | .dic t kvs, k => (dkey t k).bind fun kk => if kvs.length < 16000000 then some (.dic t (dput t kk k x kvs)) else none
  | _, _ => none
def putV (i : Nat) (k x : D) : M Fl := fun s => match lk s i with
  | some (true, d) => match setAt d k x with
    | some d' => .ok .nx (setS s i (some (true, d')))
    | none => .stuck
  | _ => .stuck
mutual
def evS (F : FT) : Sx → M Fl
  | .set i e => bnd (evE F e) (storeM i)
  | .unp is e => bnd (evE F e) fun x s => match tupOf x.1 with
    | some ds => if is.length = ds.length then .ok .nx (setP is ds s) else .stuck
    | none => .stuck
  | .par is es => bnd (evEs F es) fun ds s => if is.length = ds.length then .ok .nx (setAll is ds s) else .stuck
  | .aug i op e => bnd (rdV i) fun a => bnd (evE F e) fun b s => match augD op a.1 b.1 with
    | some d => .ok .nx (setS s i (some (false, d)))
    | none => .stuck
  | .put i k e => bnd (evE F e) fun x => bnd (ownM i) fun _ => bnd (evE F k) fun kk => putV i kk.1 x.1
  | .augk i k op e => bnd (ownM i) fun _ => bnd (evE F k) fun kk s => match lk s i with
    | some (true, d) => match primD .idx [d, kk.1] with
      | some (old, _) => bnd (evE F e) (fun b s => match augD op old b.1 with
        | some x => putV i kk.1 x s
        | none => .stuck) s
      | none => .stuck
    | _ => .stuck
  | .app i e => bnd (ownL i) fun _ => bnd (evE F e) fun x s => match lk s i with
    | some (true, .lst xs) => if decide (xs.length < sizeLine) then .ok .nx (setS s i (some (true, .lst (xs ++ [x.1])))) else .stuck
    | _ => .stuck
  | .ext i e => bnd (ownL i) fun _ => bnd (evE F e) fun x s => match lk s i, x.1 with
    | some (true, .lst xs), .lst ys => if fits (xs.length + ys.length) then .ok .nx (setS s i (some (true, .lst (xs ++ ys)))) else .stuck
    | _, _ => .stuck
  | .ite c a b => bnd (bnd (evE F c) isB) fun x => if x then evSs F a else evSs F b
  | .for_ tg it b => bnd (evIt F it) fun ds => forL tg (evSs F b) ds
  | .while_ c b => whileL (bnd (evE F c) isB) (evSs F b) most
  | .ret e => match e with
    | .var i => retV i
    | e => bnd (evE F e) fun x => ret (.rt x.1 x.2)
  | .raise c => fun s => .exc c s
  | .expr e => bnd (evE F e) fun _ => ret .nx
  | .pass => ret .nx
  | .try_ e r hs => fun s => match evE F e s with
    | .ok x s' => .ok (if r then .rt x.1 x.2 else .nx) s'
    | .exc c s' => match hs.lookup c with
      | some (some d) => .ok (.rt d false) s'
      | some none => .exc c s'
      | none => .stuck
    | .stuck => .stuck
def evSs (F : FT) : Sxs → M Fl
  | .nil => ret .nx
  | .cons s ss => bnd (evS F s) fun f => match f with
    | .nx => evSs F ss
    | .rt d fr => ret (.rt d fr)
end

structure Fd where
  n : Nat                 -- slots
  ps : Nat                -- parameters
  b : Sxs
def startS (n : Nat) (ds : List D) (T : TP) : S := ⟨(ds.map fun d => some (false, d)) ++ List.replicate (n - ds.length) none, T⟩
def runB (F : FT) (f : Fd) (ds : List D) (T : TP) : FRes := if ds.length = f.ps then match evSs F f.b (startS f.n ds T) with
  | .ok .nx s => .ok .non false s.T
  | .ok (.rt d fr) s => .ok d fr s.T
  | .exc c s => .exc c s.T
  | .stuck => .stuck else .stuck
inductive Fn where
  | body (f : Fd) | prim (p : List D → TP → FRes)
def run (P : List Fn) : Nat → FT
  | 0 => fun _ _ _ => .stuck
  | k + 1 => fun f ds T => match P[f]? with
    | some (.body b) => runB (run P k) b ds T
    | some (.prim p) => p ds T
    | none => .stuck
end Vf
namespace Vf
open PySem PySem.Spec PyProof.Rows L2

abbrev AP := Addr → Prop
abbrev TA2 := Option (Addr × Addr)
def KTu (K : PySem.W.Frag) (a : Addr) (xs : List V) : Prop :=
  ∃ (o : Obj) (its : Array Value) (n : Nat), K.lookup a = some o ∧ o.cls = .type "tuple" ∧ o.data = .seq its n ∧ its.size ≤ sizeLine ∧ Vals xs its.toList
mutual
inductive Rep (K : PySem.W.Frag) (P : AP) (τ : TA2) (H : Hp) : V → D → Prop
  | non : Rep K P τ H .non .non
  | bl (b : Bool) : Rep K P τ H (.bl b) (.bl b)
  | int (i : Int) : Rep K P τ H (.int i) (.int i)
  | str (x : Str) : Rep K P τ H (.str x) (.str x)
  | tup {a : Addr} {xs : List V} {ds : List D} : (¬ P a ∧ H a = some (.tup xs)) → RepAll K P τ H xs ds → Rep K P τ H (.ref a) (.tup ds)
  | ktup {a : Addr} {xs : List V} {ds : List D} : KTu K a xs → RepAll K P τ H xs ds → Rep K P τ H (.ref a) (.ktup ds)
  | lst {a : Addr} {xs : List V} {ds : List D} : (¬ P a ∧ H a = some (.lst xs)) → RepAll K P τ H xs ds → Rep K P τ H (.ref a) (.lst ds)
  | dK {a : Addr} {kvs : List (Key × V)} {ds : List (D × D)} : ¬ P a → H a = some (.dK kvs) → RepK K P τ H kvs ds → Rep K P τ H (.ref a) (.dic false ds)
  | dT {a : Addr} {kvs : List (List Key × V)} {ds : List (D × D)} : ¬ P a → H a = some (.dT kvs) → RepT K P τ H kvs ds → Rep K P τ H (.ref a) (.dic true ds)
  | tape {a c : Addr} : τ = some (a, c) → Rep K P τ H (.ref a) .tape
inductive RepAll (K : PySem.W.Frag) (P : AP) (τ : TA2) (H : Hp) : List V → List D → Prop
  | nil : RepAll K P τ H [] []
  | cons {v : V} {vs : List V} {d : D} {ds : List D} : Rep K P τ H v d → RepAll K P τ H vs ds → RepAll K P τ H (v :: vs) (d :: ds)
inductive RepK (K : PySem.W.Frag) (P : AP) (τ : TA2) (H : Hp) : List (Key × V) → List (D × D) → Prop
  | nil : RepK K P τ H [] []
  | cons {k : Key} {v : V} {kd d : D} {r : List (Key × V)} {s : List (D × D)} : keyD kd = some k → Rep K P τ H v d → RepK K P τ H r s → RepK K P τ H ((k, v) :: r) ((kd, d) :: s)
inductive RepT (K : PySem.W.Frag) (P : AP) (τ : TA2) (H : Hp) : List (List Key × V) → List (D × D) → Prop
  | nil : RepT K P τ H [] []
  | cons {k : List Key} {v : V} {kd : List D} {d : D} {r : List (List Key × V)} {s : List (D × D)} : keysD kd = some k → Rep K P τ H v d → RepT K P τ H r s → RepT K P τ H ((k, v) :: r) ((.tup kd, d) :: s)
end

section
variable {K : PySem.W.Frag} {P P' : AP} {τ : TA2} {H H' : Hp}
structure Mo (P P' : AP) (H H' : Hp) : Prop where
  kp : ∀ b u, H b = some u → ¬ P b → H' b = some u
  ap : ∀ b, P' b → H b ≠ none → P b
theorem Mo.rd (m : Mo P P' H H') {a : Addr} {u : HO} (r : H a = some u) (n : ¬ P a) : ¬ P' a ∧ H' a = some u :=
  ⟨fun q => n (m.ap _ q (by rw [r]; simp)), m.kp _ _ r n⟩
theorem Mo.same {P P' : AP} (h : ∀ b, P' b → P b) : Mo P P' H H := ⟨fun _ _ q _ => q, fun b q _ => h b q⟩
mutual
theorem Rep.mo (m : Mo P P' H H') : ∀ {v : V} {d : D}, Rep K P τ H v d → Rep K P' τ H' v d
  | _, _, .non => .non
  | _, _, .bl b => .bl b
  | _, _, .int i => .int i
  | _, _, .str x => .str x
  | _, _, .tup s r => .tup (m.rd s.2 s.1) (r.mo m)
  | _, _, .ktup s r => .ktup s (r.mo m)
  | _, _, .lst s r => .lst (m.rd s.2 s.1) (r.mo m)
  | _, _, .dK n s r => .dK (m.rd s n).1 (m.rd s n).2 (r.mo m)
  | _, _, .dT n s r => .dT (m.rd s n).1 (m.rd s n).2 (r.mo m)
  | _, _, .tape e => .tape e
theorem RepAll.mo (m : Mo P P' H H') : ∀ {v : List V} {d : List D}, RepAll K P τ H v d → RepAll K P' τ H' v d
  | _, _, .nil => .nil
  | _, _, .cons h t => .cons (h.mo m) (t.mo m)
theorem RepK.mo (m : Mo P P' H H') : ∀ {v : List (Key × V)} {d : List (D × D)}, RepK K P τ H v d → RepK K P' τ H' v d
  | _, _, .nil => .nil
  | _, _, .cons k h t => .cons k (h.mo m) (t.mo m)
theorem RepT.mo (m : Mo P P' H H') : ∀ {v : List (List Key × V)} {d : List (D × D)}, RepT K P τ H v d → RepT K P' τ H' v d
  | _, _, .nil => .nil
  | _, _, .cons k h t => .cons k (h.mo m) (t.mo m)
end
theorem RepAll.len : ∀ {v : List V} {d : List D}, RepAll K P τ H v d → v.length = d.length
  | _, _, .nil => rfl
  | _, _, .cons _ t => by simp [t.len]
theorem RepAll.append : ∀ {v w : List V} {d e : List D}, RepAll K P τ H v d → RepAll K P τ H w e → RepAll K P τ H (v ++ w) (d ++ e)
  | _, _, _, _, .nil, h => h
  | _, _, _, _, .cons h t, q => .cons h (t.append q)
theorem RepAll.get : ∀ {v : List V} {d : List D}, RepAll K P τ H v d → ∀ {i : Nat} {x : D}, d[i]? = some x → ∃ u, v[i]? = some u ∧ Rep K P τ H u x
  | _, _, .nil, _, _, e => by simp at e
  | _, _, .cons h _, 0, _, e => by simp at e; subst e; exact ⟨_, rfl, h⟩
  | _, _, .cons _ t, i + 1, _, e => by
    obtain ⟨u, h1, h2⟩ := t.get (i := i) (by simpa using e)
    exact ⟨u, by simpa using h1, h2⟩
theorem RepAll.take : ∀ {v : List V} {d : List D}, RepAll K P τ H v d → ∀ n, RepAll K P τ H (v.take n) (d.take n)
  | _, _, .nil, _ => by simp; exact .nil
  | _, _, .cons _ _, 0 => .nil
  | _, _, .cons h t, n + 1 => .cons h (t.take n)
theorem RepAll.drop : ∀ {v : List V} {d : List D}, RepAll K P τ H v d → ∀ n, RepAll K P τ H (v.drop n) (d.drop n)
  | _, _, .nil, _ => by simp; exact .nil
  | _, _, .cons h t, 0 => .cons h t
  | _, _, .cons _ t, n + 1 => t.drop n
theorem RepAll.rev : ∀ {v : List V} {d : List D}, RepAll K P τ H v d → RepAll K P τ H v.reverse d.reverse
  | _, _, .nil => .nil
  | _, _, .cons h t => by rw [List.reverse_cons, List.reverse_cons]; exact t.rev.append (.cons h .nil)
theorem RepAll.set : ∀ {v : List V} {d : List D}, RepAll K P τ H v d → ∀ (i : Nat) {u : V} {x : D}, Rep K P τ H u x → RepAll K P τ H (v.set i u) (d.set i x)
  | _, _, .nil, _, _, _, _ => .nil
  | _, _, .cons _ t, 0, _, _, r => .cons r t
  | _, _, .cons h t, i + 1, _, _, r => .cons h (t.set i r)
theorem RepAll.erase : ∀ {v : List V} {d : List D}, RepAll K P τ H v d → ∀ (i : Nat), RepAll K P τ H (v.eraseIdx i) (d.eraseIdx i)
  | _, _, .nil, _ => .nil
  | _, _, .cons _ t, 0 => t
  | _, _, .cons h t, i + 1 => .cons h (t.erase i)
theorem RepAll.dropLast {v : List V} {d : List D} (h : RepAll K P τ H v d) : RepAll K P τ H v.dropLast d.dropLast := by
  rw [List.dropLast_eq_take, List.dropLast_eq_take, h.len]; exact h.take _
def RepFz (K : PySem.W.Frag) (P : AP) (τ : TA2) (H : Hp) (Fz : List (V × D)) : Prop := ∀ p ∈ Fz, Rep K P τ H p.1 p.2
theorem RepAll.fz : ∀ {v : List V} {d : List D}, RepAll K P τ H v d → RepFz K P τ H (v.zip d)
  | _, _, .nil => fun p hp => by simp at hp
  | _, _, .cons h t => fun p hp => by
    rcases List.mem_cons.mp (by simpa using hp) with e | e
    · subst e; exact h
    · exact t.fz p e
theorem RepAll.of_fz : ∀ {v : List V} {d : List D}, v.length = d.length → RepFz K P τ H (v.zip d) → RepAll K P τ H v d
  | [], [], _, _ => .nil
  | [], _ :: _, e, _ => by simp at e
  | _ :: _, [], e, _ => by simp at e
  | v :: vs, d :: ds, e, h => .cons (h (v, d) (by simp)) (RepAll.of_fz (by simpa using e) fun p hp => h p (by simp [hp]))
theorem RepK.vals : ∀ {v : List (Key × V)} {d : List (D × D)}, RepK K P τ H v d → RepAll K P τ H (v.map (·.2)) (d.map (·.2))
  | _, _, .nil => .nil
  | _, _, .cons _ h t => .cons h t.vals
theorem RepT.vals : ∀ {v : List (List Key × V)} {d : List (D × D)}, RepT K P τ H v d → RepAll K P τ H (v.map (·.2)) (d.map (·.2))
  | _, _, .nil => .nil
  | _, _, .cons _ h t => .cons h t.vals
end

inductive Cont : HO → D → List (V × D) → Prop
  | lst {xs : List V} {ds : List D} : xs.length = ds.length → Cont (.lst xs) (.lst ds) (xs.zip ds)
  | dK {kvs : List (Key × V)} {ds : List (D × D)} : kvs.map (fun p => some p.1) = ds.map (fun p => keyD p.1) → Cont (.dK kvs) (.dic false ds) ((kvs.map (·.2)).zip (ds.map (·.2)))
  | dT {kvs : List (List Key × V)} {ds : List (D × D)} : kvs.map (fun p => some (Sum.inr (α := Key) p.1)) = ds.map (fun p => dkey true p.1) → Cont (.dT kvs) (.dic true ds) ((kvs.map (·.2)).zip (ds.map (·.2)))
section
variable {K : PySem.W.Frag} {P P' : AP} {τ : TA2} {H H' : Hp}
theorem repK_of : ∀ {kvs : List (Key × V)} {ds : List (D × D)}, kvs.map (fun p => some p.1) = ds.map (fun p => keyD p.1) → RepFz K P τ H ((kvs.map (·.2)).zip (ds.map (·.2))) → RepK K P τ H kvs ds
  | [], [], _, _ => .nil
  | [], _ :: _, e, _ => by simp at e
  | _ :: _, [], e, _ => by simp at e
  | (k, v) :: r, (kd, d) :: s, e, h => by
    simp only [List.map_cons, List.cons.injEq] at e
    exact .cons e.1.symm (h (v, d) (by simp)) (repK_of e.2 fun p hp => h p (by simp [hp]))
theorem repT_of : ∀ {kvs : List (List Key × V)} {ds : List (D × D)}, kvs.map (fun p => some (Sum.inr (α := Key) p.1)) = ds.map (fun p => dkey true p.1) → RepFz K P τ H ((kvs.map (·.2)).zip (ds.map (·.2))) → RepT K P τ H kvs ds
  | [], [], _, _ => .nil
  | [], _ :: _, e, _ => by simp at e
  | _ :: _, [], e, _ => by simp at e
  | (k, v) :: r, (kd, d) :: s, e, h => by
    simp only [List.map_cons, List.cons.injEq] at e
    have e1 := e.1.symm
    have tl := repT_of (kvs := r) (ds := s) e.2 fun p hp => h p (by simp [hp])
    have hd := h (v, d) (by simp)
    cases kd with
    | tup kd =>
      simp only [dkey] at e1
      cases q : keysD kd with
      | none => rw [q] at e1; simp at e1
      | some ks =>
        rw [q] at e1
        simp at e1
        subst e1
        exact .cons q hd tl
    | _ => simp [dkey] at e1
theorem RepK.keys : ∀ {kvs : List (Key × V)} {ds : List (D × D)}, RepK K P τ H kvs ds → kvs.map (fun p => some p.1) = ds.map (fun p => keyD p.1)
  | _, _, .nil => rfl
  | _, _, .cons k _ t => by simp [k, t.keys]
theorem RepT.keys : ∀ {kvs : List (List Key × V)} {ds : List (D × D)}, RepT K P τ H kvs ds → kvs.map (fun p => some (Sum.inr (α := Key) p.1)) = ds.map (fun p => dkey true p.1)
  | _, _, .nil => rfl
  | _, _, .cons k _ t => by simp [dkey, k, t.keys]
theorem Cont.rep {u : HO} {d : D} {cs : List (V × D)} {a : Addr} (c : Cont u d cs) (h : H a = some u) (n : ¬ P a) (f : RepFz K P τ H cs) : Rep K P τ H (.ref a) d := by
  cases c with
  | lst e => exact .lst ⟨n, h⟩ (RepAll.of_fz e f)
  | dK e => exact .dK n h (repK_of e f)
  | dT e => exact .dT n h (repT_of e f)
end

def Own (S : S) (i : Nat) (d : D) : Prop := lk S i = some (true, d)
def Prt (M : AP) (o : Nat → Addr) (τ : TA2) (S : S) : AP := fun a => M a ∨ (∃ p, τ = some p ∧ (a = p.1 ∨ a = p.2)) ∨ ∃ i d, Own S i d ∧ a = o i
def TpA (τ : TA2) (a : Addr) : Prop := ∃ p, τ = some p ∧ (a = p.1 ∨ a = p.2)
def TapeAt (τ : TA2) (T : TP) (H : Hp) : Prop := match T, τ with
  | some (cs, n), some (a, c) => a ≠ c ∧ H a = some (.lst [.ref c, .int n]) ∧ H c = some (.lst (cs.map .int))
  | none, none => True
  | _, _ => False
structure TapeR (M : AP) (τ : TA2) (T : TP) (H : Hp) : Prop where
  no : ∀ a, TpA τ a → ¬ M a
  at_ : TapeAt τ T H
theorem TapeAt.move {τ : TA2} {T : TP} {H H' : Hp} (t : TapeAt τ T H) (k : ∀ b u, H b = some u → H' b = some u) : TapeAt τ T H' := by
  cases T with
  | none => cases τ <;> exact t
  | some x => cases τ with
    | none => exact t
    | some y => exact ⟨t.1, k _ _ t.2.1, k _ _ t.2.2⟩
def NT (H : Hp) (b : Addr) : Prop := ∃ u, H b = some u ∧ ∀ xs, u ≠ .tup xs
theorem NT.nn {H : Hp} {b : Addr} (h : NT H b) : H b ≠ none := by
  obtain ⟨u, e, _⟩ := h
  rw [e]; simp
structure RelS (K : PySem.W.Frag) (B : Hp) (M : AP) (o : Nat → Addr) (τ : TA2) (Fz : List (V × D)) (σ : L2.St) (S : S) (H : Hp) : Prop where
  len : σ.length = S.ρ.length
  keep : ∀ b u, B b = some u → ¬ TpA τ b → H b = some u
  fz : RepFz K (Prt M o τ S) τ H Fz
  sh : ∀ i d, lk S i = some (false, d) → ∃ v, σ[i]? = some (some v) ∧ Rep K (Prt M o τ S) τ H v d
  ow : ∀ i d, Own S i d → σ[i]? = some (some (.ref (o i))) ∧ ¬ M (o i) ∧ ¬ TpA τ (o i) ∧ B (o i) = none ∧ ∃ u cs, H (o i) = some u ∧ Cont u d cs ∧ RepFz K (Prt M o τ S) τ H cs
  inj : ∀ i j d e, Own S i d → Own S j e → o i = o j → i = j
  tp : TapeR M τ S.T H
  mt : ∀ b, M b → NT H b
end Vf
namespace Vf
open PySem PySem.Spec PyProof.Rows L2

section
variable {K : PySem.W.Frag} {B B' : Hp} {M M' : AP} {o o' : Nat → Addr} {τ : TA2} {Fz Fz' : List (V × D)} {σ : L2.St} {s s' : S} {H H' : Hp}

theorem TapeR.some_at {T : TP} (t : TapeR M τ T H) {a : Addr} (h : TpA τ a) : H a ≠ none := by
  obtain ⟨⟨x, c⟩, e, h⟩ := h
  have q := t.at_
  subst e
  cases T with
  | none => exact q.elim
  | some t =>
    obtain ⟨cs, n⟩ := t
    obtain ⟨_, h1, h2⟩ := q
    rcases h with e | e
    · rw [e, h1]; simp
    · rw [e, h2]; simp
theorem RelS.fresh (r : RelS K B M o τ Fz σ s H) {p : Addr} (hp : H p = none) : B p = none ∧ ¬ M p ∧ ¬ TpA τ p ∧ ∀ i d, Own s i d → o i ≠ p := by
  have h3 : ¬ TpA τ p := fun z => r.tp.some_at z hp
  refine ⟨?_, fun z => (r.mt _ z).nn hp, h3, fun i d w e => ?_⟩
  · cases e : B p with
    | none => rfl
    | some u => rw [r.keep _ _ e h3] at hp; cases hp
  · obtain ⟨_, _, _, _, u, cs, hu, _⟩ := r.ow i d w
    rw [e, hp] at hu; cases hu
theorem Prt.nn (r : RelS K B M o τ Fz σ s H) {a : Addr} (h : Prt M o τ s a) : H a ≠ none := by
  rcases h with h | h | ⟨i, d, w, e⟩
  · exact (r.mt _ h).nn
  · exact r.tp.some_at h
  · obtain ⟨_, _, _, _, u, cs, hu, _⟩ := r.ow i d w
    rw [e, hu]; simp
theorem RelS.weak (r : RelS K B M o τ Fz σ s H) (hB : ∀ b u, B' b = some u → B b = some u) (hM : ∀ b, M' b → M b) (hF : RepFz K (Prt M o τ s) τ H Fz') : RelS K B' M' o τ Fz' σ s H := by
  have hp : ∀ b, Prt M' o τ s b → Prt M o τ s b := fun b h => h.imp (hM b) id
  have mo := Mo.same (H := H) hp
  refine ⟨r.len, fun b u q => r.keep b u (hB b u q), fun p q => (hF p q).mo mo, fun i d q => ?_, fun i d q => ?_, r.inj, ⟨fun a h z => r.tp.no a h (hM a z), r.tp.at_⟩, fun b z => r.mt b (hM b z)⟩
  · obtain ⟨v, h1, h2⟩ := r.sh i d q
    exact ⟨v, h1, h2.mo mo⟩
  · obtain ⟨h1, h2, h3, h4, u, cs, h5, h6, h7⟩ := r.ow i d q
    refine ⟨h1, fun z => h2 (hM _ z), h3, ?_, u, cs, h5, h6, fun p q => (h7 p q).mo mo⟩
    cases e : B' (o i) with
    | none => rfl
    | some x => rw [hB _ _ e] at h4; cases h4
theorem RelS.drop (r : RelS K B M o τ Fz σ s H) (h : ∀ p ∈ Fz', p ∈ Fz) : RelS K B M o τ Fz' σ s H := r.weak (fun _ _ q => q) (fun _ q => q) fun p q => r.fz p (h p q)
theorem RelS.more (r : RelS K B M o τ Fz σ s H) (h : RepFz K (Prt M o τ s) τ H Fz') : RelS K B M o τ (Fz' ++ Fz) σ s H := r.weak (fun _ _ q => q) (fun _ q => q) fun p q => (List.mem_append.mp q).elim (h p) (r.fz p)
theorem RelS.more1 (r : RelS K B M o τ Fz σ s H) {v : V} {d : D} (h : Rep K (Prt M o τ s) τ H v d) : RelS K B M o τ ((v, d) :: Fz) σ s H := r.weak (fun _ _ q => q) (fun _ q => q) fun p q => (List.mem_cons.mp q).elim (fun e => e ▸ h) (r.fz p)
theorem RelS.move {T : TP} (r : RelS K B M o τ Fz σ s H) (k : ∀ b u, H b = some u → ¬ TpA τ b → H' b = some u) (ht : TapeR M τ T H') : RelS K B M o τ Fz σ { s with T := T } H' := by
  have mo : Mo (Prt M o τ s) (Prt M o τ { s with T := T }) H H' := ⟨fun b u q n => k b u q fun z => n (.inr (.inl z)), fun b q _ => q⟩
  refine ⟨r.len, fun b u q n => k b u (r.keep b u q n) n, fun p q => (r.fz p q).mo mo, fun i d q => ?_, fun i d q => ?_, r.inj, ht, fun b z => ?_⟩
  · obtain ⟨v, h1, h2⟩ := r.sh i d q
    exact ⟨v, h1, h2.mo mo⟩
  · obtain ⟨h1, h2, h3, h4, u, cs, h5, h6, h7⟩ := r.ow i d q
    exact ⟨h1, h2, h3, h4, u, cs, k _ _ h5 h3, h6, fun p q => (h7 p q).mo mo⟩
  · obtain ⟨u, e, nt⟩ := r.mt b z
    exact ⟨u, k b u e fun q => r.tp.no b q z, nt⟩
theorem RelS.alloc {p : Addr} {u : HO} (r : RelS K B M o τ Fz σ s H) (hp : H p = none) (nt : ∀ xs, u ≠ .tup xs) : RelS K (upd B p u) (fun b => M b ∨ b = p) o τ Fz σ s (upd H p u) := by
  obtain ⟨f1, f2, f3, f4⟩ := r.fresh hp
  have ne : ∀ b x, H b = some x → b ≠ p := fun b x e z => by subst z; rw [hp] at e; cases e
  have mo : Mo (Prt M o τ s) (Prt (fun b => M b ∨ b = p) o τ s) H (upd H p u) := by
    refine ⟨fun b x q _ => by rw [upd_ne (ne b x q)]; exact q, fun b q h => ?_⟩
    rcases q with (q | q) | q | q
    · exact .inl q
    · exact absurd (q ▸ hp) h
    · exact .inr (.inl q)
    · exact .inr (.inr q)
  refine ⟨r.len, fun b x q n => ?_, fun p q => (r.fz p q).mo mo, fun i d q => ?_, fun i d q => ?_, r.inj, ⟨fun a h z => z.elim (r.tp.no a h) fun e => f3 (e ▸ h), ?_⟩, fun b z => ?_⟩
  · by_cases e : b = p
    · subst e; rw [upd_same] at q ⊢; exact q
    · rw [upd_ne e] at q ⊢; exact r.keep b x q n
  · obtain ⟨v, h1, h2⟩ := r.sh i d q
    exact ⟨v, h1, h2.mo mo⟩
  · obtain ⟨h1, h2, h3, h4, x, cs, h5, h6, h7⟩ := r.ow i d q
    refine ⟨h1, fun z => z.elim h2 (f4 i d q), h3, by rw [upd_ne (f4 i d q)]; exact h4, x, cs, by rw [upd_ne (f4 i d q)]; exact h5, h6, fun p q => (h7 p q).mo mo⟩
  · exact r.tp.at_.move fun b x q => by rw [upd_ne (ne b x q)]; exact q
  · by_cases e : b = p
    · subst e; exact ⟨u, upd_same, nt⟩
    · obtain ⟨x, q, h⟩ := r.mt b (z.resolve_right e)
      exact ⟨x, by rw [upd_ne e]; exact q, h⟩
theorem RelS.laid {p : Addr} {u : HO} (r : RelS K B M o τ Fz σ s H) (hp : H p = none) : RelS K B M o τ Fz σ s (upd H p u) := by
  have ne : ∀ b x, H b = some x → b ≠ p := fun b x e z => by subst z; rw [hp] at e; cases e
  have e : s = { s with T := s.T } := rfl
  rw [e]
  exact r.move (fun b x q _ => by rw [upd_ne (ne b x q)]; exact q) ⟨r.tp.no, r.tp.at_.move fun b x q => by rw [upd_ne (ne b x q)]; exact q⟩
theorem RelS.new {p : Addr} {u : HO} {v : V} {d : D} (r : RelS K B M o τ Fz σ s H) (hp : H p = none)
    (h : ∀ P H', Mo (Prt M o τ s) P H H' → H' p = some u → ¬ P p → Rep K P τ H' v d) : RelS K B M o τ ((v, d) :: Fz) σ s (upd H p u) := by
  obtain ⟨f1, f2, f3, f4⟩ := r.fresh hp
  have ne : ∀ b x, H b = some x → b ≠ p := fun b x e z => by subst z; rw [hp] at e; cases e
  have q := r.laid (u := u) hp
  refine q.more1 (h _ _ ⟨fun b x e _ => by rw [upd_ne (ne b x e)]; exact e, fun b z _ => z⟩ upd_same ?_)
  rintro (z | z | ⟨i, e, z, z2⟩)
  · exact f2 z
  · exact f3 z
  · exact f4 i e z z2.symm
end

def RelT (K : PySem.W.Frag) (o : Nat → Addr) (τ : TA2) (σ : L2.St) (s : S) (H : Hp) : List (V × D × Bool) → Hp → AP → List (V × D) → Prop
  | [], B, M, Fz => RelS K B M o τ Fz σ s H
  | (v, d, false) :: r, B, M, Fz => RelT K o τ σ s H r B M ((v, d) :: Fz)
  | (v, d, true) :: r, B, M, Fz => ∃ a u cs, v = .ref a ∧ B a = none ∧ ¬ TpA τ a ∧ ¬ M a ∧ Cont u d cs ∧ RelT K o τ σ s H r (upd B a u) (fun b => M b ∨ b = a) (cs ++ Fz)
section
variable {K : PySem.W.Frag} {B B' : Hp} {M M' : AP} {o o' : Nat → Addr} {τ : TA2} {Fz Fz' : List (V × D)} {σ : L2.St} {s s' : S} {H H' : Hp}
theorem upd_up {B : Hp} {a : Addr} {u : HO} (h : B a = none) : ∀ b x, B b = some x → upd B a u b = some x := fun b x e => by
  rw [upd_ne]; exact e; intro z; subst z; rw [h] at e; cases e
theorem RelS.unnew {a : Addr} {u : HO} {d : D} {cs : List (V × D)} (hb : B a = none) (ht : ¬ TpA τ a) (hm : ¬ M a) (c : Cont u d cs) (r : RelS K (upd B a u) (fun b => M b ∨ b = a) o τ (cs ++ Fz) σ s H) : RelS K B M o τ ((.ref a, d) :: Fz) σ s H := by
  have q := r.weak (B' := B) (M' := M) (Fz' := Fz) (upd_up hb) (fun b z => .inl z) fun p z => r.fz p (List.mem_append_right _ z)
  have fc : RepFz K (Prt M o τ s) τ H cs := fun p z => (r.fz p (List.mem_append_left _ z)).mo (Mo.same fun b y => y.imp .inl id)
  refine q.more1 (c.rep (r.keep a u upd_same ht) ?_ fc)
  rintro (z | z | ⟨i, e, z, z2⟩)
  · exact hm z
  · exact ht z
  · exact (r.ow i e z).2.1 (.inr z2.symm)
theorem RelT.plain : ∀ {ts : List (V × D × Bool)} {B : Hp} {M : AP} {Fz : List (V × D)}, RelT K o τ σ s H ts B M Fz → RelS K B M o τ (ts.map (fun t => (t.1, t.2.1)) ++ Fz) σ s H
  | [], _, _, _, h => h
  | (v, d, false) :: r, B, M, Fz, h => by
    have q := RelT.plain (ts := r) h
    refine q.drop fun p z => ?_
    simp only [List.map_cons, List.cons_append, List.mem_cons, List.mem_append] at z ⊢
    rcases z with z | z | z
    · exact .inr (.inl z)
    · exact .inl z
    · exact .inr (.inr z)
  | (v, d, true) :: r, B, M, Fz, h => by
    obtain ⟨a, u, cs, rfl, hb, ht, hm, c, h⟩ := h
    have q := RelT.plain (ts := r) h
    have q2 : RelS K (upd B a u) (fun b => M b ∨ b = a) o τ (cs ++ (r.map (fun t => (t.1, t.2.1)) ++ Fz)) σ s H := q.drop fun p z => by
      simp only [List.mem_append] at z ⊢
      rcases z with z | z | z
      · exact .inr (.inl z)
      · exact .inl z
      · exact .inr (.inr z)
    have q3 := RelS.unnew hb ht hm c q2
    exact q3
theorem RelT.one {v : V} {d : D} {fr : Bool} (h : RelT K o τ σ s H [(v, d, fr)] B M Fz) : RelS K B M o τ ((v, d) :: Fz) σ s H := h.plain
end
end Vf
namespace Vf
open PySem PySem.Spec PyProof.Rows L2

theorem Cont.nt {u : HO} {d : D} {cs : List (V × D)} (c : Cont u d cs) : ∀ xs, u ≠ .tup xs := fun xs z => by subst z; cases c
section
variable {K : PySem.W.Frag} {B B' : Hp} {M M' : AP} {o o' : Nat → Addr} {τ : TA2} {Fz Fz' : List (V × D)} {σ : L2.St} {s s' : S} {H H' : Hp}
theorem lk_set {s : S} {i j : Nat} {x : Option (Bool × D)} : lk (setS s i x) j = if j = i then (if i < s.ρ.length then x else none) else lk s j := by
  unfold lk setS
  by_cases e : j = i
  · subst e
    rw [if_pos rfl]
    by_cases h : j < s.ρ.length
    · rw [if_pos h, List.getElem?_set_self h]; rfl
    · rw [if_neg h, List.getElem?_eq_none (by simpa using h)]; rfl
  · rw [if_neg e, List.getElem?_set_ne (Ne.symm e)]
theorem lk_lt {s : S} {i : Nat} {x : Bool × D} (h : lk s i = some x) : i < s.ρ.length := by
  by_cases e : i < s.ρ.length
  · exact e
  · unfold lk at h; rw [List.getElem?_eq_none (by simpa using e)] at h; cases h
theorem setS_len {s : S} {i : Nat} {x : Option (Bool × D)} : (setS s i x).ρ.length = s.ρ.length := by simp [setS]
theorem setS_T {s : S} {i : Nat} {x : Option (Bool × D)} : (setS s i x).T = s.T := rfl
theorem own_set_false {s : S} {i j : Nat} {d e : D} (h : Own (setS s i (some (false, d))) j e) : j ≠ i ∧ Own s j e := by
  unfold Own at h
  rw [lk_set] at h
  by_cases q : j = i
  · rw [if_pos q] at h
    split at h
    · cases h
    · cases h
  · rw [if_neg q] at h; exact ⟨q, h⟩
theorem own_set_none {s : S} {i j : Nat} {e : D} (h : Own (setS s i none) j e) : j ≠ i ∧ Own s j e := by
  unfold Own at h
  rw [lk_set] at h
  by_cases q : j = i
  · rw [if_pos q] at h
    split at h <;> cases h
  · rw [if_neg q] at h; exact ⟨q, h⟩
theorem RelS.store {i : Nat} {v : V} {d : D} (r : RelS K B M o τ ((v, d) :: Fz) σ s H) : RelS K B M o τ ((v, d) :: Fz) (σ.set i (some v)) (setS s i (some (false, d))) H := by
  have hp : ∀ b, Prt M o τ (setS s i (some (false, d))) b → Prt M o τ s b := fun b h => h.imp id fun h => h.imp id fun ⟨j, e, w, q⟩ => ⟨j, e, (own_set_false w).2, q⟩
  have mo := Mo.same (H := H) hp
  refine ⟨by rw [List.length_set, setS_len]; exact r.len, r.keep, fun p q => (r.fz p q).mo mo, fun j e q => ?_, fun j e q => ?_, fun j k e f q1 q2 => r.inj j k e f (own_set_false q1).2 (own_set_false q2).2, ⟨r.tp.no, r.tp.at_⟩, r.mt⟩
  · rw [lk_set] at q
    by_cases c : j = i
    · subst c
      rw [if_pos rfl] at q
      split at q
      · rename_i hl
        cases q
        refine ⟨v, List.getElem?_set_self (by rw [r.len]; exact hl), (r.fz (v, d) List.mem_cons_self).mo mo⟩
      · cases q
    · rw [if_neg c] at q
      obtain ⟨u, h1, h2⟩ := r.sh j e q
      exact ⟨u, by rw [List.getElem?_set_ne (Ne.symm c)]; exact h1, h2.mo mo⟩
  · obtain ⟨c, q⟩ := own_set_false q
    obtain ⟨h1, h2, h3, h4, u, cs, h5, h6, h7⟩ := r.ow j e q
    exact ⟨by rw [List.getElem?_set_ne (Ne.symm c)]; exact h1, h2, h3, h4, u, cs, h5, h6, fun p q => (h7 p q).mo mo⟩
theorem RelS.forget {i : Nat} (r : RelS K B M o τ Fz σ s H) : RelS K B M o τ Fz σ (setS s i none) H := by
  have hp : ∀ b, Prt M o τ (setS s i none) b → Prt M o τ s b := fun b h => h.imp id fun h => h.imp id fun ⟨j, e, w, q⟩ => ⟨j, e, (own_set_none w).2, q⟩
  have mo := Mo.same (H := H) hp
  refine ⟨by rw [setS_len]; exact r.len, r.keep, fun p q => (r.fz p q).mo mo, fun j e q => ?_, fun j e q => ?_, fun j k e f q1 q2 => r.inj j k e f (own_set_none q1).2 (own_set_none q2).2, ⟨r.tp.no, r.tp.at_⟩, r.mt⟩
  · rw [lk_set] at q
    by_cases c : j = i
    · rw [if_pos c] at q
      split at q <;> cases q
    · rw [if_neg c] at q
      obtain ⟨u, h1, h2⟩ := r.sh j e q
      exact ⟨u, h1, h2.mo mo⟩
  · obtain ⟨c, q⟩ := own_set_none q
    obtain ⟨h1, h2, h3, h4, u, cs, h5, h6, h7⟩ := r.ow j e q
    exact ⟨h1, h2, h3, h4, u, cs, h5, h6, fun p q => (h7 p q).mo mo⟩
theorem own_set_true {s : S} {i j : Nat} {d e : D} (h : Own (setS s i (some (true, d))) j e) : (j = i ∧ e = d ∧ i < s.ρ.length) ∨ (j ≠ i ∧ Own s j e) := by
  unfold Own at h
  rw [lk_set] at h
  by_cases q : j = i
  · rw [if_pos q] at h
    split at h
    · rename_i hl; cases h; exact .inl ⟨q, rfl, hl⟩
    · cases h
  · rw [if_neg q] at h; exact .inr ⟨q, h⟩
theorem RelS.storeN {i : Nat} {a : Addr} {u : HO} {d : D} {cs : List (V × D)} (hb : B a = none) (ht : ¬ TpA τ a) (hm : ¬ M a) (c : Cont u d cs)
    (r : RelS K (upd B a u) (fun b => M b ∨ b = a) o τ (cs ++ Fz) σ s H) : ∃ o', RelS K B M o' τ Fz (σ.set i (some (.ref a))) (setS s i (some (true, d))) H := by
  refine ⟨fun j => if j = i then a else o j, ?_⟩
  have hp : ∀ b, Prt M (fun j => if j = i then a else o j) τ (setS s i (some (true, d))) b → Prt (fun b => M b ∨ b = a) o τ s b := by
    rintro b (h | h | ⟨j, e, w, q⟩)
    · exact .inl (.inl h)
    · exact .inr (.inl h)
    · rcases own_set_true w with ⟨h1, h2, _⟩ | ⟨h1, h2⟩
      · simp only [if_pos h1] at q; exact .inl (.inr q)
      · simp only [if_neg h1] at q; exact .inr (.inr ⟨j, e, h2, q⟩)
  have mo := Mo.same (H := H) hp
  refine ⟨by rw [List.length_set, setS_len]; exact r.len, fun b x q n => r.keep b x (upd_up hb b x q) n, fun p q => (r.fz p (List.mem_append_right _ q)).mo mo, fun j e q => ?_, fun j e q => ?_, fun j k e f q1 q2 h => ?_, ⟨fun a h z => r.tp.no a h (.inl z), r.tp.at_⟩, fun b z => r.mt b (.inl z)⟩
  · rw [lk_set] at q
    by_cases c : j = i
    · rw [if_pos c] at q
      split at q <;> cases q
    · rw [if_neg c] at q
      obtain ⟨u, h1, h2⟩ := r.sh j e q
      exact ⟨u, by rw [List.getElem?_set_ne (Ne.symm c)]; exact h1, h2.mo mo⟩
  · rcases own_set_true q with ⟨h1, h2, h3⟩ | ⟨h1, h2⟩
    · subst h1 h2
      simp only [if_pos]
      exact ⟨List.getElem?_set_self (by rw [r.len]; exact h3), hm, ht, hb, u, cs, r.keep a u upd_same ht, c, fun p q => (r.fz p (List.mem_append_left _ q)).mo mo⟩
    · simp only [if_neg h1]
      obtain ⟨g1, g2, g3, g4, x, xs, g5, g6, g7⟩ := r.ow j e h2
      refine ⟨by rw [List.getElem?_set_ne (Ne.symm h1)]; exact g1, fun z => g2 (.inl z), g3, ?_, x, xs, g5, g6, fun p q => (g7 p q).mo mo⟩
      rw [upd_ne fun z => g2 (.inr z)] at g4; exact g4
  · rcases own_set_true q1 with ⟨h1, h2, h3⟩ | ⟨h1, h2⟩
    · rcases own_set_true q2 with ⟨k1, k2, k3⟩ | ⟨k1, k2⟩
      · rw [h1, k1]
      · simp only [if_pos h1, if_neg k1] at h
        exact absurd (.inr h.symm) (r.ow k f k2).2.1
    · rcases own_set_true q2 with ⟨k1, k2, k3⟩ | ⟨k1, k2⟩
      · simp only [if_neg h1, if_pos k1] at h
        exact absurd (.inr h) (r.ow j e h2).2.1
      · simp only [if_neg h1, if_neg k1] at h
        exact r.inj j k e f h2 k2 h
theorem RelT.store {i : Nat} {v : V} {d : D} {fr : Bool} (h : RelT K o τ σ s H [(v, d, fr)] B M Fz) : ∃ o', RelS K B M o' τ Fz (σ.set i (some v)) (setS s i (some (fr, d))) H := by
  cases fr with
  | false => exact ⟨o, (RelS.store (i := i) h).drop fun p q => List.mem_cons_of_mem _ q⟩
  | true =>
    obtain ⟨a, u, cs, rfl, hb, ht, hm, c, h⟩ := h
    exact RelS.storeN hb ht hm c h
theorem RelS.freeze {i : Nat} {fr : Bool} {d : D} (r : RelS K B M o τ Fz σ s H) (w : lk s i = some (fr, d)) : ∃ v, σ[i]? = some (some v) ∧ RelS K B M o τ ((v, d) :: Fz) σ (setS s i (some (false, d))) H := by
  cases fr with
  | false =>
    obtain ⟨v, h1, h2⟩ := r.sh i d w
    have q := (r.more1 h2).store (i := i)
    have e : σ.set i (some v) = σ := by
      apply List.ext_getElem?
      intro j
      by_cases c : j = i
      · subst c; rw [List.getElem?_set_self (by rw [r.len]; exact lk_lt w), h1]
      · rw [List.getElem?_set_ne (Ne.symm c)]
    rw [e] at q
    exact ⟨v, h1, q⟩
  | true =>
    obtain ⟨h1, h2, h3, h4, u, cs, h5, h6, h7⟩ := r.ow i d w
    refine ⟨.ref (o i), h1, ?_⟩
    have hp : ∀ b, Prt M o τ (setS s i (some (false, d))) b → Prt M o τ s b := fun b h => h.imp id fun h => h.imp id fun ⟨j, e, w, q⟩ => ⟨j, e, (own_set_false w).2, q⟩
    have mo := Mo.same (H := H) hp
    have np : ¬ Prt M o τ (setS s i (some (false, d))) (o i) := by
      rintro (z | z | ⟨j, e, z, z2⟩)
      · exact h2 z
      · exact h3 z
      · exact (own_set_false z).1 (r.inj j i e d (own_set_false z).2 w z2.symm)
    have rv : Rep K (Prt M o τ (setS s i (some (false, d)))) τ H (.ref (o i)) d := h6.rep h5 np fun p q => (h7 p q).mo mo
    refine ⟨by rw [setS_len]; exact r.len, r.keep, fun p q => ?_, fun j e q => ?_, fun j e q => ?_, fun j k e f q1 q2 => r.inj j k e f (own_set_false q1).2 (own_set_false q2).2, ⟨r.tp.no, r.tp.at_⟩, r.mt⟩
    · rcases List.mem_cons.mp q with q | q
      · subst q; exact rv
      · exact (r.fz p q).mo mo
    · rw [lk_set] at q
      by_cases c : j = i
      · subst c
        rw [if_pos rfl] at q
        split at q
        · cases q; exact ⟨_, h1, rv⟩
        · cases q
      · rw [if_neg c] at q
        obtain ⟨u, g1, g2⟩ := r.sh j e q
        exact ⟨u, g1, g2.mo mo⟩
    · obtain ⟨c, q⟩ := own_set_false q
      obtain ⟨g1, g2, g3, g4, x, xs, g5, g6, g7⟩ := r.ow j e q
      exact ⟨g1, g2, g3, g4, x, xs, g5, g6, fun p q => (g7 p q).mo mo⟩
theorem RelS.take {i : Nat} {fr : Bool} {d : D} (r : RelS K B M o τ Fz σ s H) (w : lk s i = some (fr, d)) : ∃ v, σ[i]? = some (some v) ∧ RelT K o τ σ (setS s i none) H [(v, d, fr)] B M Fz := by
  cases fr with
  | false =>
    obtain ⟨v, h1, h2⟩ := r.sh i d w
    exact ⟨v, h1, (r.more1 h2).forget⟩
  | true =>
    obtain ⟨h1, h2, h3, h4, u, cs, h5, h6, h7⟩ := r.ow i d w
    refine ⟨.ref (o i), h1, o i, u, cs, rfl, h4, h3, h2, h6, ?_⟩
    have hp : ∀ b, Prt (fun b => M b ∨ b = o i) o τ (setS s i none) b → Prt M o τ s b := by
      rintro b ((h | h) | h | ⟨j, e, z, q⟩)
      · exact .inl h
      · exact .inr (.inr ⟨i, d, w, h⟩)
      · exact .inr (.inl h)
      · exact .inr (.inr ⟨j, e, (own_set_none z).2, q⟩)
    have mo := Mo.same (H := H) hp
    refine ⟨by rw [setS_len]; exact r.len, fun b x q n => ?_, fun p q => ?_, fun j e q => ?_, fun j e q => ?_, fun j k e f q1 q2 => r.inj j k e f (own_set_none q1).2 (own_set_none q2).2, ⟨fun a h z => z.elim (r.tp.no a h) fun z => h3 (z ▸ h), r.tp.at_⟩, fun b z => ?_⟩
    · by_cases c : b = o i
      · subst c; rw [upd_same] at q; cases q; exact h5
      · rw [upd_ne c] at q; exact r.keep b x q n
    · rcases List.mem_append.mp q with q | q
      · exact (h7 p q).mo mo
      · exact (r.fz p q).mo mo
    · rw [lk_set] at q
      by_cases c : j = i
      · rw [if_pos c] at q
        split at q <;> cases q
      · rw [if_neg c] at q
        obtain ⟨u, g1, g2⟩ := r.sh j e q
        exact ⟨u, g1, g2.mo mo⟩
    · obtain ⟨c, q⟩ := own_set_none q
      obtain ⟨g1, g2, g3, g4, x, xs, g5, g6, g7⟩ := r.ow j e q
      refine ⟨g1, fun z => z.elim g2 fun z => c (r.inj j i e d q w z), g3, ?_, x, xs, g5, g6, fun p q => (g7 p q).mo mo⟩
      rw [upd_ne fun z => c (r.inj j i e d q w z)]; exact g4
    · rcases z with z | z
      · exact r.mt b z
      · exact ⟨u, by rw [z, h5], h6.nt⟩
theorem RelS.mutate {i : Nat} {d d' : D} {u' : HO} {cs' : List (V × D)} (r : RelS K B M o τ Fz σ s H) (w : Own s i d) (c' : Cont u' d' cs') (hc : RepFz K (Prt M o τ s) τ H cs') :
    RelS K B M o τ Fz σ (setS s i (some (true, d'))) (upd H (o i) u') := by
  obtain ⟨h1, h2, h3, h4, u, cs, h5, h6, h7⟩ := r.ow i d w
  have il := lk_lt w
  have hp : ∀ b, Prt M o τ (setS s i (some (true, d'))) b → Prt M o τ s b := by
    rintro b (h | h | ⟨j, e, z, q⟩)
    · exact .inl h
    · exact .inr (.inl h)
    · rcases own_set_true z with ⟨g1, g2, _⟩ | ⟨g1, g2⟩
      · subst g1; exact .inr (.inr ⟨j, d, w, q⟩)
      · exact .inr (.inr ⟨j, e, g2, q⟩)
  have pi : Prt M o τ s (o i) := .inr (.inr ⟨i, d, w, rfl⟩)
  have mo : Mo (Prt M o τ s) (Prt M o τ (setS s i (some (true, d')))) H (upd H (o i) u') := ⟨fun b x q n => by rw [upd_ne (fun (z : b = o i) => n (by rw [z]; exact pi))]; exact q, fun b q _ => hp b q⟩
  refine ⟨by rw [setS_len]; exact r.len, fun b x q n => ?_, fun p q => (r.fz p q).mo mo, fun j e q => ?_, fun j e q => ?_, fun j k e f q1 q2 => ?_, ⟨r.tp.no, ?_⟩, fun b z => ?_⟩
  · rw [upd_ne]
    · exact r.keep b x q n
    · intro z; subst z; rw [h4] at q; cases q
  · rw [lk_set] at q
    by_cases c : j = i
    · rw [if_pos c] at q
      split at q <;> cases q
    · rw [if_neg c] at q
      obtain ⟨u, g1, g2⟩ := r.sh j e q
      exact ⟨u, g1, g2.mo mo⟩
  · rcases own_set_true q with ⟨g1, g2, _⟩ | ⟨g1, g2⟩
    · subst g1 g2
      exact ⟨h1, h2, h3, h4, u', cs', upd_same, c', fun p q => (hc p q).mo mo⟩
    · obtain ⟨k1, k2, k3, k4, x, xs, k5, k6, k7⟩ := r.ow j e g2
      exact ⟨k1, k2, k3, k4, x, xs, by rw [upd_ne fun z => g1 (r.inj j i e d g2 w z)]; exact k5, k6, fun p q => (k7 p q).mo mo⟩
  · have red : ∀ {j : Nat} {e : D}, Own (setS s i (some (true, d'))) j e → ∃ e', Own s j e' := fun {j e} z => by
      rcases own_set_true z with ⟨g1, _, _⟩ | ⟨_, g2⟩
      · subst g1; exact ⟨d, w⟩
      · exact ⟨e, g2⟩
    obtain ⟨e1, q1⟩ := red q1
    obtain ⟨f1, q2⟩ := red q2
    exact r.inj j k e1 f1 q1 q2
  · have q := r.tp.at_
    show TapeAt τ s.T _
    cases hT : s.T with
    | none => rw [hT] at q; cases τ <;> exact q
    | some t =>
      rw [hT] at q
      cases hτ : τ with
      | none => rw [hτ] at q; exact q
      | some y =>
        rw [hτ] at q
        refine ⟨q.1, ?_, ?_⟩
        · rw [upd_ne fun z => h3 ⟨y, hτ, .inl z.symm⟩]; exact q.2.1
        · rw [upd_ne fun z => h3 ⟨y, hτ, .inr z.symm⟩]; exact q.2.2
  · by_cases c : b = o i
    · exact ⟨u', by rw [c, upd_same], c'.nt⟩
    · obtain ⟨x, q, h⟩ := r.mt b z
      exact ⟨x, by rw [upd_ne c]; exact q, h⟩
end
end Vf
namespace Vf
open PySem PySem.Spec PyProof.Rows L2

def WPm {α : Type} (m : M α) (s : S) (ok : α → S → Prop) (ex : Nat → S → Prop) : Prop := match m s with
  | .ok a s' => ok a s'
  | .exc c s' => ex c s'
  | .stuck => False
section
variable {α β : Type} {m : M α} {f : α → M β} {s : S} {ok : α → S → Prop} {ok' : β → S → Prop} {ex ex' : Nat → S → Prop}
theorem WPm.bnd_ (h : WPm (bnd m f) s ok' ex) : WPm m s (fun a s' => WPm (f a) s' ok' ex) ex := by
  unfold WPm bnd at h
  unfold WPm
  cases e : m s with
  | ok a s' => rw [e] at h; exact h
  | exc c s' => rw [e] at h; exact h
  | stuck => rw [e] at h; exact h
theorem WPm.mono {ok2 : α → S → Prop} (h : WPm m s ok ex) (h1 : ∀ a s', ok a s' → ok2 a s') (h2 : ∀ c s', ex c s' → ex' c s') : WPm m s ok2 ex' := by
  unfold WPm at h ⊢
  cases e : m s with
  | ok a s' => rw [e] at h; exact h1 _ _ h
  | exc c s' => rw [e] at h; exact h2 _ _ h
  | stuck => rw [e] at h; exact h
theorem WPm.ret_ {a : α} (h : WPm (ret a) s ok ex) : ok a s := h
theorem WPm.stk_ {p : Prop} (h : WPm (stk : M α) s ok ex) : p := False.elim h
end

structure Cn where
  names : List (Str × Nat)
  cls : List Str
  cons : List (Str × D)
  free : List Str
  lenk : List Str
  ar : List Nat
  exm : Nat → Nat → Bool
structure Gl where
  P : Program
  w : World
  K : PySem.W.Frag
  mg : Str → Option Value
  base : Heap
  k : Nat
def Gl.ca (G : Gl) (C : Cn) (c : Nat) : Addr := He.ga G.K (C.cls.getD c "")
def zipT : List V → List (D × Bool) → List (V × D × Bool)
  | v :: vs, x :: xs => (v, x.1, x.2) :: zipT vs xs
  | _, _ => []
def OpdR (Fz : List (V × D)) (σ : L2.St) (v : V) : Opd → Prop
  | .val d => (v, d) ∈ Fz
  | .slot i => σ[i]? = some (some v)
section
variable (K : PySem.W.Frag) (ca : Nat → Addr) (W : WX)
def EX (B : Hp) (M : AP) (o : Nat → Addr) (τ : TA2) (Fz : List (V × D)) (σ : L2.St) : Nat → S → Prop := fun c s' => ∀ H', RelS K B M o τ Fz σ s' H' → W (.ref (ca c)) none σ H'
def tvE (m : M (D × Bool)) : TE := fun σ H Q => ∃ B M o τ Fz s, RelS K B M o τ Fz σ s H ∧ WPm m s (fun x s' => ∀ v H', RelT K o τ σ s' H' [(v, x.1, x.2)] B M Fz → Q v H') (EX K ca W B M o τ Fz σ)
def tvT (m : M Bool) : TT := fun σ H Q => ∃ B M o τ Fz s, RelS K B M o τ Fz σ s H ∧ WPm m s (fun b s' => ∀ H', RelS K B M o τ Fz σ s' H' → Q b H') (EX K ca W B M o τ Fz σ)
def tvO (m : M Opd) : TE := fun σ H Q => ∃ B M o τ Fz s, RelS K B M o τ Fz σ s H ∧ WPm m s (fun od s' => ∀ v H' Fz', (∀ p ∈ Fz, p ∈ Fz') → RelS K B M o τ Fz' σ s' H' → OpdR Fz' σ v od → Q v H') (EX K ca W B M o τ Fz σ)
def tvEs (m : M (List (D × Bool))) : TA := fun σ H Q => ∃ B M o τ Fz s, RelS K B M o τ Fz σ s H ∧ WPm m s (fun xs s' => ∀ vs H', vs.length = xs.length → RelT K o τ σ s' H' (zipT vs xs) B M Fz → Q vs H') (EX K ca W B M o τ Fz σ)
def tvOs (m : M (List Opd)) : TA := fun σ H Q => ∃ B M o τ Fz s, RelS K B M o τ Fz σ s H ∧ WPm m s (fun os s' => ∀ vs H' Fz', (∀ p ∈ Fz, p ∈ Fz') → RelS K B M o τ Fz' σ s' H' → Paired (OpdR Fz' σ) vs os → Q vs H') (EX K ca W B M o τ Fz σ)
end
theorem EX.up {K : PySem.W.Frag} {ca : Nat → Addr} {W : WX} {B B' : Hp} {M M' : AP} {o : Nat → Addr} {τ : TA2} {Fz Fz' : List (V × D)} {σ : L2.St} (hB : ∀ b u, B b = some u → B' b = some u) (hM : ∀ b, M b → M' b) (hF : ∀ p ∈ Fz, p ∈ Fz') :
    ∀ c s', EX K ca W B M o τ Fz σ c s' → EX K ca W B' M' o τ Fz' σ c s' := fun c s' h H' r => h H' (r.weak hB hM fun p q => r.fz p (hF p q))
theorem EX.fz {K : PySem.W.Frag} {ca : Nat → Addr} {W : WX} {B : Hp} {M : AP} {o : Nat → Addr} {τ : TA2} {Fz Fz' : List (V × D)} {σ : L2.St} (hF : ∀ p ∈ Fz, p ∈ Fz') : ∀ c s', EX K ca W B M o τ Fz σ c s' → EX K ca W B M o τ Fz' σ c s' := EX.up (fun _ _ q => q) (fun _ q => q) hF

theorem PE.imp {X : Cx} {e : Expr} {t t' : TE} (h : PE X e t) (i : ∀ σ H Q, t' σ H Q → t σ H Q) : PE X e t' := ⟨fun pins s σ H Q I q => h.run pins s σ H Q I (i σ H Q q)⟩
theorem PT.imp {X : Cx} {e : Expr} {t t' : TT} (h : PT X e t) (i : ∀ σ H Q, t' σ H Q → t σ H Q) : PT X e t' := ⟨fun pins s σ H Q I q => h.run pins s σ H Q I (i σ H Q q)⟩
theorem PA.imp {X : Cx} {e : List Expr} {t t' : TA} (h : PA X e t) (i : ∀ σ H Q, t' σ H Q → t σ H Q) : PA X e t' := ⟨fun pos pins s σ H Q I q => h.run pos pins s σ H Q I (i σ H Q q)⟩
theorem PS.imp {X : Cx} {e : Stmt} {t t' : TS} (h : PS X e t) (i : ∀ D σ H, t' D σ H → t D σ H) : PS X e t' := ⟨fun pins s σ H D I q => h.run pins s σ H D I (i D σ H q)⟩
theorem PSs.imp {X : Cx} {e : List Stmt} {t t' : TS} (h : PSs X e t) (i : ∀ D σ H, t' D σ H → t D σ H) : PSs X e t' := ⟨fun pins s σ H D I q => h.run pins s σ H D I (i D σ H q)⟩

section
variable {K : PySem.W.Frag} {ca : Nat → Addr} {W : WX}
theorem tvO_of_tvE {m : M (D × Bool)} {σ : L2.St} {H : Hp} {Q : VK} (h : tvO K ca W (bnd m fun d => ret (.val d.1)) σ H Q) : tvE K ca W m σ H Q := by
  obtain ⟨B, M, o, τ, Fz, s, r, h⟩ := h
  exact ⟨B, M, o, τ, Fz, s, r, h.bnd_.mono (fun x s' q v H' rt => q v H' ((v, x.1) :: Fz) (fun p hp => List.mem_cons_of_mem _ hp) rt.one List.mem_cons_self) fun _ _ z => z⟩
theorem tvO_var {i : Nat} {σ : L2.St} {H : Hp} {Q : VK} (h : tvO K ca W (opV i) σ H Q) : tVar i σ H Q := by
  obtain ⟨B, M, o, τ, Fz, s, r, h⟩ := h
  unfold WPm opV at h
  cases e : lk s i with
  | none => rw [e] at h; exact h.elim
  | some x =>
    rw [e] at h
    obtain ⟨fr, d⟩ := x
    have hv : ∃ v, σ[i]? = some (some v) := by
      cases fr with
      | false => obtain ⟨v, h1, _⟩ := r.sh i d e; exact ⟨v, h1⟩
      | true => exact ⟨_, (r.ow i d e).1⟩
    obtain ⟨v, hv⟩ := hv
    exact ⟨v, hv, h v H Fz (fun p q => q) r hv⟩
theorem tvE_var {i : Nat} {σ : L2.St} {H : Hp} {Q : VK} (h : tvE K ca W (rdV i) σ H Q) : tVar i σ H Q := by
  obtain ⟨B, M, o, τ, Fz, s, r, h⟩ := h
  unfold WPm rdV at h
  cases e : lk s i with
  | none => rw [e] at h; exact h.elim
  | some x =>
    rw [e] at h
    obtain ⟨fr, d⟩ := x
    obtain ⟨v, hv, r'⟩ := r.freeze e
    exact ⟨v, hv, h v H r'⟩
theorem tvEs_cons {m : M (D × Bool)} {n : M (List (D × Bool))} {σ : L2.St} {H : Hp} {Q : List V → Hp → Prop} (h : tvEs K ca W (bnd m fun d => bnd n fun ds => ret (d :: ds)) σ H Q) : tCons (tvE K ca W m) (tvEs K ca W n) σ H Q := by
  obtain ⟨B, M, o, τ, Fz, s, r, h⟩ := h
  refine ⟨B, M, o, τ, Fz, s, r, h.bnd_.mono (fun x s' q v H' rt => ?_) fun _ _ z => z⟩
  obtain ⟨d, fr⟩ := x
  cases fr with
  | false =>
    refine ⟨B, M, o, τ, (v, d) :: Fz, s', rt, q.bnd_.mono (fun xs s2 q2 vs H2 hl rt2 => ?_) (EX.fz fun p hp => List.mem_cons_of_mem _ hp)⟩
    exact q2 (v :: vs) H2 (by simp [hl]) rt2
  | true =>
    obtain ⟨a, u, cs, rfl, hb, ht, hm, c, rt⟩ := rt
    refine ⟨upd B a u, _, o, τ, cs ++ Fz, s', rt, q.bnd_.mono (fun xs s2 q2 vs H2 hl rt2 => ?_) (EX.up (upd_up hb) (fun b z => .inl z) fun p hp => List.mem_append_right _ hp)⟩
    exact q2 (.ref a :: vs) H2 (by simp [hl]) ⟨a, u, cs, rfl, hb, ht, hm, c, rt2⟩
theorem tvEs_nil {σ : L2.St} {H : Hp} {Q : List V → Hp → Prop} (h : tvEs K ca W (ret []) σ H Q) : tNil σ H Q := by
  obtain ⟨B, M, o, τ, Fz, s, r, h⟩ := h
  exact h.ret_ [] H rfl r
theorem tvOs_cons {m : M Opd} {n : M (List Opd)} {σ : L2.St} {H : Hp} {Q : List V → Hp → Prop} (h : tvOs K ca W (bnd m fun d => bnd n fun ds => ret (d :: ds)) σ H Q) : tCons (tvO K ca W m) (tvOs K ca W n) σ H Q := by
  obtain ⟨B, M, o, τ, Fz, s, r, h⟩ := h
  refine ⟨B, M, o, τ, Fz, s, r, h.bnd_.mono (fun x s' q v H' Fz1 hF r1 o1 => ?_) fun _ _ z => z⟩
  refine ⟨B, M, o, τ, Fz1, s', r1, q.bnd_.mono (fun xs s2 q2 vs H2 Fz2 hF2 r2 o2 => ?_) (EX.fz hF)⟩
  refine q2 (v :: vs) H2 Fz2 (fun p hp => hF2 p (hF p hp)) r2 (.cons ?_ o2)
  cases x with
  | val d => exact hF2 _ o1
  | slot i => exact o1
theorem tvOs_nil {σ : L2.St} {H : Hp} {Q : List V → Hp → Prop} (h : tvOs K ca W (ret []) σ H Q) : tNil σ H Q := by
  obtain ⟨B, M, o, τ, Fz, s, r, h⟩ := h
  exact h.ret_ [] H Fz (fun p q => q) r .nil
theorem tvT_of {m : M (D × Bool)} {σ : L2.St} {H : Hp} {Q : Bool → Hp → Prop} (h : tvT K ca W (bnd m isB) σ H Q) : tB (tvE K ca W m) σ H Q := by
  obtain ⟨B, M, o, τ, Fz, s, r, h⟩ := h
  refine ⟨B, M, o, τ, Fz, s, r, h.bnd_.mono (fun x s' q v H' rt => ?_) fun _ _ z => z⟩
  obtain ⟨d, fr⟩ := x
  cases d with
  | bl b =>
    cases fr with
    | false =>
      have q1 := (rt : RelS K B M o τ ((v, D.bl b) :: Fz) σ s' H')
      have e := q1.fz (v, .bl b) List.mem_cons_self
      cases e
      exact ⟨b, rfl, (WPm.ret_ q) H' (q1.drop fun p hp => List.mem_cons_of_mem _ hp)⟩
    | true =>
      obtain ⟨a, u, cs, _, _, _, _, c, _⟩ := rt
      cases c
  | _ => exact (WPm.stk_ q)
end
end Vf
namespace Vf
open PySem PySem.Spec PyProof.Rows L2

def TopR (K : PySem.W.Frag) (P : AP) (τ : TA2) (H : Hp) (v : V) (d : D) : Prop := Rep K P τ H v d ∨ ∃ a u cs, v = .ref a ∧ H a = some u ∧ Cont u d cs ∧ RepFz K P τ H cs
section
variable {K : PySem.W.Frag} {P : AP} {τ : TA2} {H : Hp} {v : V}
theorem TopR.int {i : Int} (h : TopR K P τ H v (.int i)) : v = .int i := by
  rcases h with h | ⟨a, u, cs, _, _, c, _⟩
  · cases h; rfl
  · cases c
theorem TopR.bl {i : Bool} (h : TopR K P τ H v (.bl i)) : v = .bl i := by
  rcases h with h | ⟨a, u, cs, _, _, c, _⟩
  · cases h; rfl
  · cases c
theorem TopR.str {i : Str} (h : TopR K P τ H v (.str i)) : v = .str i := by
  rcases h with h | ⟨a, u, cs, _, _, c, _⟩
  · cases h; rfl
  · cases c
theorem TopR.non (h : TopR K P τ H v .non) : v = .non := by
  rcases h with h | ⟨a, u, cs, _, _, c, _⟩
  · cases h; rfl
  · cases c
theorem TopR.tup {ds : List D} (h : TopR K P τ H v (.tup ds)) : ∃ a xs, v = .ref a ∧ H a = some (.tup xs) ∧ RepAll K P τ H xs ds ∧ ¬ P a := by
  rcases h with h | ⟨a, u, cs, _, _, c, _⟩
  · cases h with
    | tup q r => exact ⟨_, _, rfl, q.2, r, q.1⟩
  · cases c
theorem TopR.ktup {ds : List D} (h : TopR K P τ H v (.ktup ds)) : ∃ a xs, v = .ref a ∧ KTu K a xs ∧ RepAll K P τ H xs ds := by
  rcases h with h | ⟨a, u, cs, _, _, c, _⟩
  · cases h with
    | ktup q r => exact ⟨_, _, rfl, q, r⟩
  · cases c
theorem TopR.lst {ds : List D} (h : TopR K P τ H v (.lst ds)) : ∃ a xs, v = .ref a ∧ H a = some (.lst xs) ∧ RepAll K P τ H xs ds := by
  rcases h with h | ⟨a, u, cs, rfl, hu, c, f⟩
  · cases h with
    | lst q r => exact ⟨_, _, rfl, q.2, r⟩
  · cases c with
    | lst e => exact ⟨_, _, rfl, hu, RepAll.of_fz e f⟩
theorem TopR.dK {ds : List (D × D)} (h : TopR K P τ H v (.dic false ds)) : ∃ a kvs, v = .ref a ∧ H a = some (.dK kvs) ∧ RepK K P τ H kvs ds := by
  rcases h with h | ⟨a, u, cs, rfl, hu, c, f⟩
  · cases h with
    | dK n q r => exact ⟨_, _, rfl, q, r⟩
  · cases c with
    | dK e => exact ⟨_, _, rfl, hu, repK_of e f⟩
theorem TopR.dT {ds : List (D × D)} (h : TopR K P τ H v (.dic true ds)) : ∃ a kvs, v = .ref a ∧ H a = some (.dT kvs) ∧ RepT K P τ H kvs ds := by
  rcases h with h | ⟨a, u, cs, rfl, hu, c, f⟩
  · cases h with
    | dT n q r => exact ⟨_, _, rfl, q, r⟩
  · cases c with
    | dT e => exact ⟨_, _, rfl, hu, repT_of e f⟩
theorem TopR.rep {d : D} (h : TopR K P τ H v d) (hd : ∀ ds, d ≠ .lst ds) (hk : ∀ t ds, d ≠ .dic t ds) : Rep K P τ H v d := by
  rcases h with h | ⟨a, u, cs, _, _, c, _⟩
  · exact h
  · cases c with
    | lst _ => exact absurd rfl (hd _)
    | dK _ => exact absurd rfl (hk _ _)
    | dT _ => exact absurd rfl (hk _ _)
theorem RepAll.ints : ∀ {xs : List V} {ds : List D} {ns : List Int}, RepAll K P τ H xs ds → intsD ds = some ns → xs = ns.map V.int
  | _, _, _, .nil, e => by simp [intsD] at e; subst e; rfl
  | _, _, _, .cons (v := v) (d := d) (ds := ds) h t, e => by
    cases d with
    | int i =>
      simp only [intsD] at e
      cases q : intsD ds with
      | none => rw [q] at e; simp at e
      | some r =>
        rw [q] at e
        simp at e
        subst e
        cases h
        rw [t.ints q]; rfl
    | _ => simp [intsD] at e
theorem RepAll.bls : ∀ {xs : List V} {ds : List D} {ns : List Bool}, RepAll K P τ H xs ds → blsD ds = some ns → xs = ns.map V.bl
  | _, _, _, .nil, e => by simp [blsD] at e; subst e; rfl
  | _, _, _, .cons (v := v) (d := d) (ds := ds) h t, e => by
    cases d with
    | bl i =>
      simp only [blsD] at e
      cases q : blsD ds with
      | none => rw [q] at e; simp at e
      | some r =>
        rw [q] at e
        simp at e
        subst e
        cases h
        rw [t.bls q]; rfl
    | _ => simp [blsD] at e
mutual
theorem Rep.dp : ∀ {v : V} {d : D} {n : Nat}, Rep K P τ H v d → okD n d = true → Dp K H v (pd d)
  | _, _, _, .non, _ => by rw [pd]; exact .non
  | _, _, _, .bl b, _ => by rw [pd]; exact .bl b
  | _, _, _, .int b, _ => by rw [pd]; exact .int b
  | _, _, _, .str b, _ => by rw [pd]; exact .str b
  | _, _, 0, .tup s r, e => by simp [okD] at e
  | _, _, 0, .ktup s r, e => by simp [okD] at e
  | _, _, 0, .lst s r, e => by simp [okD] at e
  | _, _, n + 1, .tup s r, e => by rw [pd]; exact .tup (.inl (.inl s.2)) (r.dp (by simpa [okD] using e))
  | _, _, n + 1, .ktup s r, e => by rw [pd]; exact .tup (.inr s) (r.dp (by simpa [okD] using e))
  | _, _, n + 1, .lst s r, e => by rw [pd]; exact .lst (.inl (.inl s.2)) (r.dp (by simpa [okD] using e))
  | _, _, _, .dK _ _ _, e => by simp [okD] at e
  | _, _, _, .dT _ _ _, e => by simp [okD] at e
  | _, _, _, .tape _, e => by simp [okD] at e
theorem RepAll.dp : ∀ {v : List V} {d : List D} {n : Nat}, RepAll K P τ H v d → okDs n d = true → DpAll K H v (pds d)
  | _, _, _, .nil, _ => by rw [pds]; exact .nil
  | _, _, _, .cons h t, e => by
    simp only [okDs, Bool.and_eq_true] at e
    rw [pds]
    exact .cons (h.dp e.1) (t.dp e.2)
end
theorem TopR.dp {d : D} {n : Nat} (h : TopR K P τ H v d) (e : okD n d = true) : Dp K H v (pd d) := by
  rcases h with h | ⟨a, u, cs, rfl, hu, c, f⟩
  · exact h.dp e
  · cases c with
    | lst el =>
      cases n with
      | zero => simp [okD] at e
      | succ n =>
        rw [pd]
        exact .lst (.inl (.inl hu)) ((RepAll.of_fz el f).dp (by simpa [okD] using e))
    | dK _ => simp [okD] at e
    | dT _ => simp [okD] at e
end
mutual
theorem okD_lay : ∀ {n : Nat} {d : D}, okD n d = true → PyData.canLay0 (pd d) = true ∧ (pd d).depth ≤ n
  | n, .non, _ => by rw [pd]; exact ⟨rfl, by simp [PyData.depth]⟩
  | n, .bl b, _ => by rw [pd]; exact ⟨rfl, by simp [PyData.depth]⟩
  | n, .int b, _ => by rw [pd]; exact ⟨rfl, by simp [PyData.depth]⟩
  | n, .str b, e => by rw [pd]; exact ⟨by simpa [okD, PyData.canLay0] using e, by simp [PyData.depth]⟩
  | 0, .tup ds, e => by simp [okD] at e
  | 0, .ktup ds, e => by simp [okD] at e
  | 0, .lst ds, e => by simp [okD] at e
  | n + 1, .tup ds, e => by
    obtain ⟨h1, h2⟩ := okDs_lay (n := n) (d := ds) (by simpa [okD] using e)
    rw [pd]; exact ⟨by simpa [PyData.canLay0] using h1, by simp [PyData.depth]; exact h2⟩
  | n + 1, .ktup ds, e => by
    obtain ⟨h1, h2⟩ := okDs_lay (n := n) (d := ds) (by simpa [okD] using e)
    rw [pd]; exact ⟨by simpa [PyData.canLay0] using h1, by simp [PyData.depth]; exact h2⟩
  | n + 1, .lst ds, e => by
    obtain ⟨h1, h2⟩ := okDs_lay (n := n) (d := ds) (by simpa [okD] using e)
    rw [pd]; exact ⟨by simpa [PyData.canLay0] using h1, by simp [PyData.depth]; exact h2⟩
  | _, .dic _ _, e => by simp [okD] at e
  | _, .tape, e => by simp [okD] at e
theorem okDs_lay : ∀ {n : Nat} {d : List D}, okDs n d = true → PyData.canLayAll0 (pds d) = true ∧ PyData.depthAll (pds d) ≤ n
  | n, [], _ => by rw [pds]; exact ⟨rfl, by simp [PyData.depthAll]⟩
  | n, d :: ds, e => by
    simp only [okDs, Bool.and_eq_true] at e
    obtain ⟨h1, h2⟩ := okD_lay e.1
    obtain ⟨h3, h4⟩ := okDs_lay e.2
    rw [pds]
    exact ⟨by simp [PyData.canLayAll0, h1, h3], by simp only [PyData.depthAll]; omega⟩
end
theorem okD_shaped {d : D} (e : okD 60 d = true) : SeqAt.shaped (pd d) = true := by
  obtain ⟨h1, h2⟩ := okD_lay e
  unfold SeqAt.shaped
  rw [h1, decide_eq_true (by omega)]; rfl

section
variable {K : PySem.W.Frag} {B : Hp} {M : AP} {o : Nat → Addr} {τ : TA2} {Fz : List (V × D)} {σ : L2.St} {s : S} {H : Hp}
theorem OpdR.top {v : V} {od : Opd} {d : D} (r : RelS K B M o τ Fz σ s H) (h : OpdR Fz σ v od) (e : od.get s = some d) : TopR K (Prt M o τ s) τ H v d := by
  cases od with
  | val d' =>
    have e' : d' = d := by simpa [Opd.get] using e
    subst e'
    exact .inl (r.fz _ h)
  | slot i =>
    simp only [Opd.get] at e
    cases q : lk s i with
    | none => rw [q] at e; simp at e
    | some x =>
      rw [q] at e
      obtain ⟨fr, d'⟩ := x
      have e' : d' = d := by simpa using e
      subst e'
      have h' : σ[i]? = some (some v) := h
      cases fr with
      | false =>
        obtain ⟨w, h1, h2⟩ := r.sh i _ q
        rw [h'] at h1
        cases h1
        exact .inl h2
      | true =>
        obtain ⟨h1, _, _, _, u, cs, h5, h6, h7⟩ := r.ow i _ q
        rw [h'] at h1
        cases h1
        exact .inr ⟨_, u, cs, rfl, h5, h6, h7⟩
theorem OpdR.tops (r : RelS K B M o τ Fz σ s H) : ∀ {vs : List V} {os : List Opd} {ds : List D}, Paired (OpdR Fz σ) vs os → getAll s os = some ds → Paired (TopR K (Prt M o τ s) τ H) vs ds
  | _, _, _, .nil, e => by simp [getAll] at e; subst e; exact .nil
  | _, _, _, .cons (l₂ := os) h t, e => by
    simp only [getAll] at e
    split at e
    · rename_i d ds h1 h2
      cases e
      exact .cons (h.top r h1) (OpdR.tops r t h2)
    · cases e
theorem RelS.tupOk (r : RelS K B M o τ Fz σ s H) {b : Addr} {xs : List V} (e : H b = some (.tup xs)) : ¬ Prt M o τ s b := by
  rintro (z | z | ⟨i, d, w, z⟩)
  · obtain ⟨u, q, h⟩ := r.mt b z
    rw [e] at q; cases q; exact h _ rfl
  · obtain ⟨⟨x, c⟩, ht, z⟩ := z
    have q := r.tp.at_
    subst ht
    cases hT : s.T with
    | none => rw [hT] at q; exact q
    | some t =>
      rw [hT] at q
      rcases z with z | z
      · rw [z, q.2.1] at e; cases e
      · rw [z, q.2.2] at e; cases e
  · obtain ⟨_, _, _, _, u, cs, h5, h6, _⟩ := r.ow i d w
    rw [z, h5] at e; cases e; cases h6
abbrev Got (K : PySem.W.Frag) (B : Hp) (M : AP) (o : Nat → Addr) (τ : TA2) (Fz : List (V × D)) (σ : L2.St) (s : S) (x : D × Bool) (Q : VK) : Prop := ∀ v H', RelT K o τ σ s H' [(v, x.1, x.2)] B M Fz → Q v H'
theorem got_rep {v : V} {d : D} {Q : VK} (r : RelS K B M o τ Fz σ s H) (h : Rep K (Prt M o τ s) τ H v d) (q : Got K B M o τ Fz σ s (d, false) Q) : Q v H := q v H (r.more1 h)
theorem got_tup {xs : List V} {ds : List D} {Q : VK} (r : RelS K B M o τ Fz σ s H) (h : RepAll K (Prt M o τ s) τ H xs ds) (q : Got K B M o τ Fz σ s (.tup ds, false) Q) : ∀ p, H p = none → Q (.ref p) (upd H p (.tup xs)) := fun p hp =>
  q (.ref p) _ (r.new hp fun P H' mo e n => .tup ⟨n, e⟩ (h.mo mo))
theorem got_lst {xs : List V} {ds : List D} {Q : VK} (r : RelS K B M o τ Fz σ s H) (h : RepAll K (Prt M o τ s) τ H xs ds) (q : Got K B M o τ Fz σ s (.lst ds, true) Q) : ∀ p, H p = none → Q (.ref p) (upd H p (.lst xs)) := fun p hp => by
  obtain ⟨f1, f2, f3, f4⟩ := r.fresh hp
  refine q (.ref p) _ ⟨p, .lst xs, _, rfl, f1, f3, f2, .lst h.len, ?_⟩
  exact (r.more h.fz).alloc hp fun _ z => by cases z
theorem got_dic {t : Bool} {Q : VK} (r : RelS K B M o τ Fz σ s H) (q : Got K B M o τ Fz σ s (.dic t [], true) Q) : ∀ p, H p = none → Q (.ref p) (upd H p (if t then .dT [] else .dK [])) := fun p hp => by
  obtain ⟨f1, f2, f3, f4⟩ := r.fresh hp
  cases t with
  | false => exact q (.ref p) _ ⟨p, .dK [], [], rfl, f1, f3, f2, Cont.dK (kvs := []) (ds := []) rfl, r.alloc hp fun _ z => by cases z⟩
  | true => exact q (.ref p) _ ⟨p, .dT [], [], rfl, f1, f3, f2, Cont.dT (kvs := []) (ds := []) rfl, r.alloc hp fun _ z => by cases z⟩
end

theorem orOp {X : Cx} {f : Value → Value → Sem Value} {r r' : R2} (h : OpR X f r) (h' : OpR X f r') : OpR X f (fun x y H Q => r x y H Q ∨ r' x y H Q) := by
  intro pins s σ H x y v u Q I rx ry q
  rcases q with q | q
  · exact h pins s σ H x y v u Q I rx ry q
  · exact h' pins s σ H x y v u Q I rx ry q
theorem orCall {X : Cx} {f : Value} {r r' : List V → Hp → VK → Prop} (h : CallR X f r) (h' : CallR X f r') : CallR X f (fun x H Q => r x H Q ∨ r' x H Q) := by
  intro pins s σ H x v Q I rx q
  rcases q with q | q
  · exact h pins s σ H x v Q I rx q
  · exact h' pins s σ H x v Q I rx q
def Serves (K : PySem.W.Frag) (p : Pr) (r : List V → Hp → VK → Prop) : Prop :=
  ∀ (B : Hp) (M : AP) (o : Nat → Addr) (τ : TA2) (Fz : List (V × D)) (σ : L2.St) (s : S) (H : Hp) (vs : List V) (ds : List D) (x : D × Bool) (Q : VK), RelS K B M o τ Fz σ s H → Paired (TopR K (Prt M o τ s) τ H) vs ds → primD p ds = some x →
    Got K B M o τ Fz σ s x Q → r vs H Q
def two (r : R2) : List V → Hp → VK → Prop := fun vs H Q => ∃ x y, vs = [x, y] ∧ r x y H Q
def one_ (r : V → Hp → VK → Prop) : List V → Hp → VK → Prop := fun vs H Q => ∃ x, vs = [x] ∧ r x H Q
def is2 : Pr → Bool
  | .bin _ => true | .cmp _ => true | .idx => true | _ => false
def is1 : Pr → Bool
  | .neg => true | .rev => true | .isN _ => true | .isB _ _ => true | .isT _ => true | _ => false
theorem serves2 {K : PySem.W.Frag} {p : Pr} {r : R2} (hp : is2 p = true)
    (h : ∀ (B : Hp) (M : AP) (o : Nat → Addr) (τ : TA2) (Fz : List (V × D)) (σ : L2.St) (s : S) (H : Hp) (v1 v2 : V) (d1 d2 : D) (x : D × Bool) (Q : VK), RelS K B M o τ Fz σ s H → TopR K (Prt M o τ s) τ H v1 d1 → TopR K (Prt M o τ s) τ H v2 d2 → primD p [d1, d2] = some x →
      Got K B M o τ Fz σ s x Q → r v1 v2 H Q) : Serves K p (two r) := by
  intro B M o τ Fz σ s H vs ds x Q rs pv e q
  cases pv with
  | nil => cases p <;> simp [primD, arg1, arg2] at e <;> simp [is2] at hp
  | cons h1 t =>
    cases t with
    | nil => cases p <;> simp [primD, arg1, arg2] at e <;> simp [is2] at hp
    | cons h2 t =>
      cases t with
      | cons _ _ => cases p <;> simp [primD, arg1, arg2] at e <;> simp [is2] at hp
      | nil => exact ⟨_, _, rfl, h B M o τ Fz σ s H _ _ _ _ x Q rs h1 h2 e q⟩
theorem serves1 {K : PySem.W.Frag} {p : Pr} {r : V → Hp → VK → Prop} (hp : is1 p = true)
    (h : ∀ (B : Hp) (M : AP) (o : Nat → Addr) (τ : TA2) (Fz : List (V × D)) (σ : L2.St) (s : S) (H : Hp) (v1 : V) (d1 : D) (x : D × Bool) (Q : VK), RelS K B M o τ Fz σ s H → TopR K (Prt M o τ s) τ H v1 d1 → primD p [d1] = some x →
      Got K B M o τ Fz σ s x Q → r v1 H Q) : Serves K p (one_ r) := by
  intro B M o τ Fz σ s H vs ds x Q rs pv e q
  cases pv with
  | nil => cases p <;> simp [primD, arg1, arg2] at e <;> simp [is1] at hp
  | cons h1 t =>
    cases t with
    | nil => exact ⟨_, rfl, h B M o τ Fz σ s H _ _ x Q rs h1 e q⟩
    | cons h2 t => cases p <;> simp [primD, arg1, arg2] at e <;> simp [is1] at hp

section
variable {X : Cx} {K : PySem.W.Frag}
theorem op_fdivZ : OpR X (binaryOp .FloorDiv) (rI (fun _ j => j ≠ 0 ∧ j.natAbs.log2 < 9000) fun i j => .int (i.fdiv j)) := opI fun i j _ _ _ _ _ hc q => floordiv_int hc.1 q (.inl (PyProof.noPylong_of_log2 hc.2))
def rAddA (K : PySem.W.Frag) : R2 := fun x y H Q => (rI0 (fun i j => .int (i + j)) x y H Q ∨ rCatA K x y H Q) ∨ rCat x y H Q
theorem op_addA : OpR X (binaryOp .Add) (rAddA X.K) := orOp (orOp op_add op_catA) op_cat
theorem serves_add : Serves K (.bin .Add) (two (rAddA K)) := by
  refine serves2 rfl ?_
  intro B M o τ Fz σ s H v1 v2 d1 d2 x Q r h1 h2 e q
  simp only [primD, arg2, binD] at e
  unfold addD at e
  split at e
  · cases e
    cases h1.int; cases h2.int
    exact .inl (.inl ⟨_, _, rfl, rfl, got_rep r (.int _) q⟩)
  · rename_i a b
    split at e
    · rename_i hf
      cases e
      have hf := of_decide_eq_true hf
      obtain ⟨a1, xs, rfl, e1, r1, n1⟩ := h1.tup
      obtain ⟨a2, ys, rfl, e2, r2, n2⟩ := h2.tup
      have l1 := r1.len
      have l2 := r2.len
      refine .inl (.inr ⟨a1, a2, xs, ys, rfl, rfl, .of e1, .of e2, by omega, fun z => ?_, fun _ z => ?_, fun _ _ => got_tup r (r1.append r2) q⟩)
      · have : a = [] := List.eq_nil_of_length_eq_zero (by rw [← l1, z]; rfl)
        subst this
        exact got_rep r (.tup ⟨n2, e2⟩ r2) q
      · have : b = [] := List.eq_nil_of_length_eq_zero (by rw [← l2, z]; rfl)
        subst this
        rw [List.append_nil] at q
        exact got_rep r (.tup ⟨n1, e1⟩ r1) q
    · cases e
  · split at e
    · rename_i hf
      cases e
      have hf := of_decide_eq_true hf
      obtain ⟨a1, xs, rfl, e1, r1⟩ := h1.lst
      obtain ⟨a2, ys, rfl, e2, r2⟩ := h2.lst
      have l1 := r1.len
      have l2 := r2.len
      exact .inr ⟨a1, a2, xs, ys, rfl, rfl, e1, e2, by omega, got_lst r (r1.append r2) q⟩
    · cases e
  · cases e
def rSubA : R2 := rI0 fun i j => .int (i - j)
theorem serves_sub : Serves K (.bin .Sub) (two rSubA) := by
  refine serves2 rfl ?_
  intro B M o τ Fz σ s H v1 v2 d1 d2 x Q r h1 h2 e q
  simp only [primD, arg2, binD] at e
  unfold subD at e
  split at e
  · cases e
    cases h1.int; cases h2.int
    exact ⟨_, _, rfl, rfl, got_rep r (.int _) q⟩
  · cases e
def rDivA : R2 := rI (fun _ j => j ≠ 0 ∧ j.natAbs.log2 < 9000) fun i j => .int (i.fdiv j)
theorem serves_div : Serves K (.bin .FloorDiv) (two rDivA) := by
  refine serves2 rfl ?_
  intro B M o τ Fz σ s H v1 v2 d1 d2 x Q r h1 h2 e q
  simp only [primD, arg2, binD] at e
  unfold divD at e
  split at e
  · split at e
    · rename_i hf
      cases e
      cases h1.int; cases h2.int
      simp only [Bool.and_eq_true, decide_eq_true_eq, small] at hf
      exact ⟨_, _, rfl, rfl, hf, got_rep r (.int _) q⟩
    · cases e
  · cases e
def rModA : R2 := rI (fun _ j => j ≠ 0) fun i j => .int (i.fmod j)
theorem serves_mod : Serves K (.bin .Mod) (two rModA) := by
  refine serves2 rfl ?_
  intro B M o τ Fz σ s H v1 v2 d1 d2 x Q r h1 h2 e q
  simp only [primD, arg2, binD] at e
  unfold modD at e
  split at e
  · split at e
    · rename_i hf
      cases e
      cases h1.int; cases h2.int
      simp only [decide_eq_true_eq] at hf
      exact ⟨_, _, rfl, rfl, hf, got_rep r (.int _) q⟩
    · cases e
  · cases e
def rEqA (K : PySem.W.Frag) : R2 := fun x y H Q => rEq x y H Q ∨ rEqD K x y H Q
def rNeA (K : PySem.W.Frag) : R2 := fun x y H Q => rNe x y H Q ∨ rNeD K x y H Q
theorem op_eqA (hu : X.A.units + 64 < cLine) : OpR X (compareOp .Eq) (rEqA X.K) := orOp op_eq (op_eqD hu)
theorem op_neA (hu : X.A.units + 64 < cLine) : OpR X (compareOp .NotEq) (rNeA X.K) := orOp op_ne (op_neD hu)
theorem eqD_cases {P : AP} {τ : TA2} {H : Hp} {v1 v2 : V} {d1 d2 : D} {b : Bool} (h1 : TopR K P τ H v1 d1) (h2 : TopR K P τ H v2 d2) (e : eqD d1 d2 = some b) :
    (scal v1 v2 = true ∧ b = decide (v1 = v2)) ∨ (okD 60 d1 = true ∧ okD 60 d2 = true ∧ b = PyData.eqv (pd d1) (pd d2)) := by
  unfold eqD at e
  split at e
  · cases h1.int; cases h2.int
    cases e
    exact .inl ⟨rfl, by simp⟩
  · cases h1.bl; cases h2.bl
    cases e
    exact .inl ⟨rfl, by simp⟩
  · cases h1.str; cases h2.str
    cases e
    exact .inl ⟨rfl, by simp⟩
  · split at e
    · rename_i hk
      cases e
      simp only [Bool.and_eq_true] at hk
      exact .inr ⟨hk.1, hk.2, rfl⟩
    · cases e
theorem serves_eq : Serves K (.cmp .Eq) (two (rEqA K)) := by
  refine serves2 rfl ?_
  intro B M o τ Fz σ s H v1 v2 d1 d2 x Q r h1 h2 e q
  simp only [primD, arg2, cmpD] at e
  cases e1 : eqD d1 d2 with
  | none => rw [e1] at e; cases e
  | some b =>
    rw [e1] at e
    cases e
    rcases eqD_cases h1 h2 e1 with ⟨g1, g2⟩ | ⟨g1, g2, g3⟩
    · exact .inl ⟨g1, by rw [← g2]; exact got_rep r (.bl _) q⟩
    · exact .inr ⟨_, _, h1.dp g1, h2.dp g2, okD_shaped g1, okD_shaped g2, by rw [← g3]; exact got_rep r (.bl _) q⟩
theorem serves_ne : Serves K (.cmp .NotEq) (two (rNeA K)) := by
  refine serves2 rfl ?_
  intro B M o τ Fz σ s H v1 v2 d1 d2 x Q r h1 h2 e q
  simp only [primD, arg2, cmpD] at e
  cases e1 : eqD d1 d2 with
  | none => rw [e1] at e; cases e
  | some b =>
    rw [e1] at e
    cases e
    rcases eqD_cases h1 h2 e1 with ⟨g1, g2⟩ | ⟨g1, g2, g3⟩
    · exact .inl ⟨g1, by rw [← g2]; exact got_rep r (.bl _) q⟩
    · exact .inr ⟨_, _, h1.dp g1, h2.dp g2, okD_shaped g1, okD_shaped g2, by rw [← g3]; exact got_rep r (.bl _) q⟩
def rLtD (K : PySem.W.Frag) : R2 := fun x y H Q => ∃ d e, Dp K H x d ∧ Dp K H y e ∧ SeqAt.shaped d = true ∧ PySem.W.alike d e = true ∧ d ≠ .none ∧ Q (.bl (PySem.W.dataLt d e)) H
theorem op_ltD (hu : X.A.units + 64 < cLine) : OpR X (compareOp .Lt) (rLtD X.K) := by
  intro ps s σ H x y v u Q I rx ry h
  obtain ⟨d, e, hd, he, sd, al, nn, q⟩ := h
  obtain ⟨as, r1⟩ := Dp.reads I d x v hd rx
  obtain ⟨bs, r2⟩ := Dp.reads I e y u he ry
  exact PySem.W.rcLt_alike d e X.A s v u as bs r1 r2 al nn (SeqAt.room_of_shaped sd hu) _ _ _ _ ⟨.bl _, H, I, rfl, q⟩
def rLtA (K : PySem.W.Frag) : R2 := fun x y H Q => (rI0 (fun i j => .bl (decide (i < j))) x y H Q ∨ rLtT K x y H Q) ∨ rLtD K x y H Q
theorem op_ltA (hu : X.A.units + 64 < cLine) : OpR X (compareOp .Lt) (rLtA X.K) := orOp (orOp op_lt (op_ltT (by omega))) (op_ltD hu)
theorem serves_lt : Serves K (.cmp .Lt) (two (rLtA K)) := by
  refine serves2 rfl ?_
  intro B M o τ Fz σ s H v1 v2 d1 d2 x Q r h1 h2 e q
  simp only [primD, arg2, cmpD] at e
  unfold ltD at e
  split at e
  · cases e
    cases h1.int; cases h2.int
    exact .inl (.inl ⟨_, _, rfl, rfl, got_rep r (.bl _) q⟩)
  · split at e
    · rename_i g1 g2
      cases e
      obtain ⟨a1, xs, rfl, e1, r1, n1⟩ := h1.tup
      obtain ⟨a2, ys, rfl, e2, r2, n2⟩ := h2.tup
      have i1 := r1.ints g1
      have i2 := r2.ints g2
      subst i1 i2
      exact .inl (.inr ⟨a1, a2, _, _, rfl, rfl, .of e1, .of e2, got_rep r (.bl _) q⟩)
    · split at e
      · rename_i hk
        cases e
        simp only [Bool.and_eq_true] at hk
        obtain ⟨⟨g1, g2⟩, g3⟩ := hk
        exact .inr ⟨_, _, h1.dp g1, h2.dp g2, okD_shaped g1, g3, (fun z => by unfold pd at z; cases z), got_rep r (.bl _) q⟩
      · cases e
  · cases e
def rCm (g : Int → Int → Bool) : R2 := rI0 fun i j => .bl (g i j)
theorem serves_le : Serves K (.cmp .LtE) (two (rCm fun i j => decide (i ≤ j))) := by
  refine serves2 rfl ?_
  intro B M o τ Fz σ s H v1 v2 d1 d2 x Q r h1 h2 e q
  simp only [primD, arg2, cmpD] at e
  unfold leD at e
  split at e
  · cases e
    cases h1.int; cases h2.int
    exact ⟨_, _, rfl, rfl, got_rep r (.bl _) q⟩
  · cases e
theorem serves_gt : Serves K (.cmp .Gt) (two (rCm fun i j => decide (j < i))) := by
  refine serves2 rfl ?_
  intro B M o τ Fz σ s H v1 v2 d1 d2 x Q r h1 h2 e q
  simp only [primD, arg2, cmpD] at e
  split at e
  · cases e
    cases h1.int; cases h2.int
    exact ⟨_, _, rfl, rfl, got_rep r (.bl _) q⟩
  · cases e
theorem serves_ge : Serves K (.cmp .GtE) (two (rCm fun i j => decide (j ≤ i))) := by
  refine serves2 rfl ?_
  intro B M o τ Fz σ s H v1 v2 d1 d2 x Q r h1 h2 e q
  simp only [primD, arg2, cmpD] at e
  split at e
  · cases e
    cases h1.int; cases h2.int
    exact ⟨_, _, rfl, rfl, got_rep r (.bl _) q⟩
  · cases e
end
end Vf
namespace Vf
open PySem PySem.Spec PyProof.Rows L2

section
variable {X : Cx} {K : PySem.W.Frag}
theorem rep_flat {α : Type} (xs : List α) : ∀ n, (List.replicate n xs).flatten.length = n * xs.length := fun n => by
  induction n with
  | zero => simp
  | succ n ih => simp [List.replicate_succ, ih, Nat.succ_mul, Nat.add_comm]
theorem RepAll.rep {P : AP} {τ : TA2} {H : Hp} {xs : List V} {ds : List D} (h : RepAll K P τ H xs ds) : ∀ n, RepAll K P τ H (List.replicate n xs).flatten (rep ds n)
  | 0 => .nil
  | n + 1 => by rw [List.replicate_succ, List.flatten_cons]; exact h.append (RepAll.rep h n)
theorem tuple_mul1 (l : Addr) (items : Array Value) (n : Nat) (sl : Array (Option Value)) (dd : Option Addr) (x : Int) (u : Tok) (c0 : (decide (x < -(2 ^ 63)) || decide (x ≥ 2 ^ 63)) = false) (c1 : (items.isEmpty || x == 1) = true) :
    Meets (Builtin.«tuple.__mul__» ⟨[.ref l, .int x u], []⟩) (fun _ R s => s.heap.get? l = some { cls := .type "tuple", dict := dd, data := .seq items n, slots := sl } ∧
      R (.ok (.ret (Value.ref l))) s) :=
  .of_wp fun prog w A R s h => by
    obtain ⟨hp, g, d, tk, os⟩ := s
    obtain ⟨hl, h⟩ := h
    have f1 := AutoSeq1.idx_int
    wp_walk using wpAny_loadPart' hl
    repeat (first
      | (refine wpAny_ite_false (decide_eq_false (by rw [c0]; exact Bool.false_ne_true)) ?_; wp_walk using wpAny_loadPart' hl)
      | (refine wpAny_ite_true (decide_eq_true c1) ?_; wp_walk using wpAny_loadPart' hl))
    exact ⟨_, rfl, h⟩
def rRepT1 (K : PySem.W.Frag) : R2 := fun x y H Q => ∃ l k xs, x = .ref l ∧ y = .int k ∧ SqT K H l xs ∧ (xs = [] ∨ k = 1) ∧ -(2 ^ 63) ≤ k ∧ k < 2 ^ 63 ∧ Q (.ref l) H
theorem op_repT1 : OpR X (binaryOp .Mult) (rRepT1 X.K) := by
  intro pins s σ H x y v u Q I rx ry h
  obtain ⟨l, k, xs, rfl, rfl, hT, hne, h1, h2, q⟩ := h
  cases rx
  obtain ⟨t, rfl⟩ := ry
  obtain ⟨its, r, ⟨⟨cls, dd, data, sl⟩, ho, hc, n, hd⟩, hs⟩ := I.tuple hT
  simp only at hc hd
  subst hc hd
  have c0 : (decide (k < -(2 ^ 63)) || decide (k ≥ 2 ^ 63)) = false := by
    rw [decide_eq_false (by omega), decide_eq_false (by omega)] <;> rfl
  have c1 : (its.toArray.isEmpty || k == 1) = true := by
    rcases hne with e | e
    · have : its = [] := List.eq_nil_of_length_eq_zero (by rw [← r.length, e]; rfl)
      subst this; rfl
    · subst e; simp
  refine wpAny_binaryOp_repeat_ref (T := "tuple") (U := "int") (by decide) ⟨_, ho, rfl⟩ (fun s' => typeIs_int s' k t) noFill_tuple_mul F.fills_int_mul F.slot_int_rmul repeat_tuple F.slot_int_index.lookup
    (call_meets F.slot_int_rmul (typeIs_int s k t) F.entry_int_rmul (F.args_int_rmul_2 _ _) (int_rmul_tuple k t l its.toArray n dd sl)
      ⟨ho, rfl, ⟨_, ho, rfl⟩, call_meets F.slot_tuple_mul ⟨_, ho, rfl⟩ F.entry_tuple_mul (F.args_tuple_mul_2 _ _) (tuple_mul1 l its.toArray n sl dd k t c0 c1) ⟨ho, ?_⟩⟩)
  exact ⟨.ref l, H, I, rfl, q⟩
def rMulA (K : PySem.W.Frag) : R2 := fun x y H Q => ((rI CMulW (fun i j => .int (i * j)) x y H Q ∨ rRep x y H Q) ∨ rRepT K x y H Q) ∨ rRepT1 K x y H Q
theorem op_mulA : OpR X (binaryOp .Mult) (rMulA X.K) := orOp (orOp (orOp op_mulW op_rep) op_repT) op_repT1
theorem rep_one {α : Type} (xs : List α) : (List.replicate 1 xs).flatten = xs := by simp
theorem rep1 (ds : List D) : rep ds 1 = ds := by simp [rep]
theorem rep_nil : ∀ n, rep [] n = []
  | 0 => rfl
  | n + 1 => by rw [rep, rep_nil n]; rfl
theorem serves_mul : Serves K (.bin .Mult) (two (rMulA K)) := by
  refine serves2 rfl ?_
  intro B M o τ Fz σ s H v1 v2 d1 d2 x Q r h1 h2 e q
  simp only [primD, arg2, binD] at e
  unfold mulD at e
  split at e
  · split at e
    · rename_i hf
      cases e
      cases h1.int; cases h2.int
      exact .inl (.inl (.inl ⟨_, _, rfl, rfl, (by simpa using hf : _ < _), got_rep r (.int _) q⟩))
    · cases e
  · split at e
    · rename_i a j hf
      cases e
      cases h2.int
      obtain ⟨a1, xs, rfl, e1, r1⟩ := h1.lst
      have l1 := r1.len
      simp only [Bool.and_eq_true, decide_eq_true_eq, fits] at hf
      exact .inl (.inl (.inr ⟨a1, j, xs, rfl, rfl, e1, by omega, by omega, by rw [l1]; exact hf.2, got_lst r (r1.rep _) q⟩))
    · cases e
  · split at e
    · rename_i a j hf
      cases e
      cases h2.int
      obtain ⟨a1, xs, rfl, e1, r1, n1⟩ := h1.tup
      have l1 := r1.len
      simp only [Bool.and_eq_true, decide_eq_true_eq] at hf
      by_cases hj : j = 1 ∨ a = []
      · refine .inr ⟨a1, j, xs, rfl, rfl, .of e1, ?_, by omega, by omega, ?_⟩
        · rcases hj with hj | hj
          · exact .inr hj
          · refine .inl (List.eq_nil_of_length_eq_zero ?_)
            rw [l1, hj]; rfl
        · have : rep a j.toNat = a := by
            rcases hj with hj | hj
            · subst hj; exact rep1 a
            · subst hj; exact rep_nil _
          rw [this] at q
          exact got_rep r (.tup ⟨n1, e1⟩ r1) q
      · refine .inl (.inr ⟨a1, j, xs, rfl, rfl, .of e1, ?_, ?_, by omega, by omega, got_tup r (r1.rep _) q⟩)
        · intro z; subst z
          exact hj (.inr (List.eq_nil_of_length_eq_zero (by rw [← l1]; rfl)))
        · have : j ≠ 1 := fun z => hj (.inl z)
          omega
    · cases e
  · cases e
theorem serves_neg : Serves K .neg (one_ (rU fun i => .int (-i))) := by
  refine serves1 rfl ?_
  intro B M o τ Fz σ s H v1 d1 x Q r h1 e q
  simp only [primD, arg1] at e
  cases d1 with
  | int i =>
    simp only [negD] at e
    cases e
    cases h1.int
    exact ⟨_, rfl, got_rep r (.int _) q⟩
  | _ => simp [negD] at e
def rIxA (K : PySem.W.Frag) : R2 := fun x y H Q => rIxL K x y H Q ∨ rIxT K x y H Q
theorem ix_A : IxR X (rIxA X.K) := ix_list.or ix_tup
theorem atI_of {ds : List D} {xs : List V} {P : AP} {τ : TA2} {H : Hp} {i : Int} {d : D} (r : RepAll K P τ H xs ds) (e : at? i ds = some d) : ∃ v, atI xs i = some v ∧ Rep K P τ H v d := by
  unfold at? atI at e
  unfold atI
  rw [r.len]
  cases q : ixN ds.length i with
  | none => rw [q] at e; cases e
  | some j =>
    rw [q] at e
    exact r.get e
theorem dput_len (t : Bool) (k : Key ⊕ List Key) (dk e : D) : ∀ ds, (dput t k dk e ds).length ≤ ds.length + 1
  | [] => by simp [dput]
  | (d, x) :: r => by
    unfold dput
    split
    · simp [drep]
    · have := dput_len t k dk e r
      simp only [List.length_cons]; omega
theorem valV_cons {κ : Type} [DecidableEq κ] {k k' : κ} {v : V} {r : List (κ × V)} : valV ((k', v) :: r) k = if k' = k then some v else valV r k := by
  unfold valV
  rw [List.find?_cons]
  by_cases h : k' = k
  · simp [h]
  · simp [h]
theorem dgetK {P : AP} {τ : TA2} {H : Hp} {k : Key} : ∀ {kvs : List (Key × V)} {ds : List (D × D)}, RepK K P τ H kvs ds →
    match dget false (.inl k) ds with
    | some d => ∃ v, valV kvs k = some v ∧ Rep K P τ H v d
    | none => valV kvs k = none
  | _, _, .nil => by simp [dget, valV]
  | _, _, .cons (k := k') (v := v) (kd := kd) (d := d) (s := s) (r := r) hk hr t => by
    have ih := dgetK (k := k) t
    rw [valV_cons]
    simp only [dget, dkey, hk, Option.map_some, Option.some.injEq, Sum.inl.injEq]
    by_cases h : k' = k
    · simp only [if_pos h]; exact ⟨v, rfl, hr⟩
    · simp only [if_neg h]; exact ih
theorem dgetT {P : AP} {τ : TA2} {H : Hp} {k : List Key} : ∀ {kvs : List (List Key × V)} {ds : List (D × D)}, RepT K P τ H kvs ds →
    match dget true (.inr k) ds with
    | some d => ∃ v, valV kvs k = some v ∧ Rep K P τ H v d
    | none => valV kvs k = none
  | _, _, .nil => by simp [dget, valV]
  | _, _, .cons (k := k') (v := v) (kd := kd) (d := d) (s := s) (r := r) hk hr t => by
    have ih := dgetT (k := k) t
    rw [valV_cons]
    simp only [dget, dkey, hk, Option.map_some, Option.some.injEq, Sum.inr.injEq]
    by_cases h : k' = k
    · simp only [if_pos h]; exact ⟨v, rfl, hr⟩
    · simp only [if_neg h]; exact ih
theorem key_val {P : AP} {τ : TA2} {H : Hp} {v : V} {d : D} {k : Key} (h : TopR K P τ H v d) (e : keyD d = some k) : v = kV k := by
  cases d with
  | int i => simp [keyD] at e; subst e; rw [h.int]; rfl
  | str i => simp [keyD] at e; subst e; rw [h.str]; rfl
  | _ => simp [keyD] at e
theorem keys_val {P : AP} {τ : TA2} {H : Hp} : ∀ {xs : List V} {ds : List D} {ks : List Key}, RepAll K P τ H xs ds → keysD ds = some ks → xs = ks.map kV
  | _, _, _, .nil, e => by simp [keysD] at e; subst e; rfl
  | _, _, _, .cons h t, e => by
    simp only [keysD] at e
    split at e
    · rename_i k ks h1 h2
      cases e
      rw [key_val (.inl h) h1, keys_val t h2]; rfl
    · cases e
theorem dget_ok {P : AP} {τ : TA2} {H : Hp} {v1 v2 : V} {t : Bool} {kvs : List (D × D)} {kd : D} {kk : Key ⊕ List Key} (h1 : TopR K P τ H v1 (.dic t kvs)) (h2 : TopR K P τ H v2 kd) (e : dkey t kd = some kk) :
    ∃ a ov, v1 = .ref a ∧ DGet H a v2 ov ∧ IsD H a ∧ match dget t kk kvs with
      | some d => ∃ v, ov = some v ∧ Rep K P τ H v d
      | none => ov = none := by
  cases t with
  | false =>
    obtain ⟨a, xs, rfl, e1, r1⟩ := h1.dK
    simp only [dkey] at e
    cases q : keyD kd with
    | none => rw [q] at e; cases e
    | some k =>
      rw [q] at e
      cases e
      have := key_val h2 q
      subst this
      exact ⟨a, _, rfl, DGet.k e1, .inl ⟨_, .of e1⟩, dgetK r1⟩
  | true =>
    obtain ⟨a, xs, rfl, e1, r1⟩ := h1.dT
    cases kd with
    | tup ds =>
      simp only [dkey] at e
      cases q : keysD ds with
      | none => rw [q] at e; cases e
      | some k =>
        rw [q] at e
        cases e
        obtain ⟨b, ys, rfl, e2, r2, _⟩ := h2.tup
        have := keys_val r2 q
        subst this
        exact ⟨a, _, rfl, DGet.t e1 e2, .inr ⟨_, .of e1⟩, dgetT r1⟩
    | _ => simp [dkey] at e
def rIxD (K : PySem.W.Frag) : R2 := fun x y H Q => rIxA K x y H Q ∨ ∃ a v, x = .ref a ∧ DGet H a y (some v) ∧ Q v H
theorem serves_idx : Serves K .idx (two (rIxD K)) := by
  refine serves2 rfl ?_
  intro B M o τ Fz σ s H v1 v2 d1 d2 x Q r h1 h2 e q
  simp only [primD, arg2] at e
  unfold idxD at e
  split at e
  · rename_i a i
    cases e1 : at? i a with
    | none => rw [e1] at e; cases e
    | some d =>
      rw [e1] at e
      cases e
      cases h2.int
      obtain ⟨a1, xs, rfl, g1, r1, n1⟩ := h1.tup
      obtain ⟨v, g2, g3⟩ := atI_of r1 e1
      exact .inl (.inr ⟨a1, xs, i, v, rfl, rfl, .of g1, g2, got_rep r g3 q⟩)
  · rename_i a i
    cases e1 : at? i a with
    | none => rw [e1] at e; cases e
    | some d =>
      rw [e1] at e
      cases e
      cases h2.int
      obtain ⟨a1, xs, rfl, g1, r1⟩ := h1.ktup
      obtain ⟨v, g2, g3⟩ := atI_of r1 e1
      exact .inl (.inr ⟨a1, xs, i, v, rfl, rfl, .inr g1, g2, got_rep r g3 q⟩)
  · rename_i a i
    cases e1 : at? i a with
    | none => rw [e1] at e; cases e
    | some d =>
      rw [e1] at e
      cases e
      cases h2.int
      obtain ⟨a1, xs, rfl, g1, r1⟩ := h1.lst
      obtain ⟨v, g2, g3⟩ := atI_of r1 e1
      exact .inl (.inl ⟨a1, xs, i, v, rfl, rfl, .of g1, g2, got_rep r g3 q⟩)
  · rename_i t kvs
    cases e1 : dkey t d2 with
    | none => rw [e1] at e; cases e
    | some kk =>
      rw [e1] at e
      simp only [Option.bind_some] at e
      obtain ⟨a, ov, rfl, g1, _, g2⟩ := dget_ok h1 h2 e1
      cases e2 : dget t kk kvs with
      | none => rw [e2] at e; cases e
      | some d =>
        rw [e2] at e g2
        cases e
        obtain ⟨v, rfl, g3⟩ := g2
        exact .inr ⟨a, v, rfl, g1, got_rep r g3 q⟩
  · cases e
def rSlice (K : PySem.W.Frag) : V → Option Int → Option Int → Hp → VK → Prop := fun x lo hi H Q => rSlA K x lo hi H Q ∨ rSlL K x lo hi H Q
theorem sl_any : SlR X (rSlice X.K) := SlR.or sl_tupA sl_list
theorem RepAll.cut {P : AP} {τ : TA2} {H : Hp} {xs : List V} {ds : List D} (h : RepAll K P τ H xs ds) (lo hi : Option Int) : RepAll K P τ H (cutV xs lo hi) (cutD lo hi ds) := by
  unfold cutV cutD cutD.cutV'
  rw [h.len]
  exact (h.drop _).take _
theorem slice_ok {B : Hp} {M : AP} {o : Nat → Addr} {τ : TA2} {Fz : List (V × D)} {σ : L2.St} {s : S} {H : Hp} {v : V} {d : D} {lo hi : Option Int} {x : D × Bool} {Q : VK} (r : RelS K B M o τ Fz σ s H) (h : TopR K (Prt M o τ s) τ H v d) (e : slD lo hi d = some x)
    (q : Got K B M o τ Fz σ s x Q) : rSlice K v lo hi H Q := by
  cases d with
  | tup ds =>
    simp only [slD] at e
    cases e
    obtain ⟨a, xs, rfl, g1, r1, n1⟩ := h.tup
    have c := r1.cut lo hi
    refine .inl ⟨a, xs, rfl, .of g1, fun w => ?_, fun _ => got_tup r c q⟩
    have : cutD lo hi ds = ds := by
      unfold cutD cutD.cutV'
      rw [← r1.len, w.1, w.2, r1.len]
      simp
    rw [this] at q
    exact got_rep r (.tup ⟨n1, g1⟩ r1) q
  | lst ds =>
    simp only [slD] at e
    cases e
    obtain ⟨a, xs, rfl, g1, r1⟩ := h.lst
    exact .inr ⟨a, xs, rfl, .of g1, got_lst r (r1.cut lo hi) q⟩
  | _ => simp [slD] at e
end
end Vf
namespace Vf
open PySem PySem.Spec PyProof.Rows L2

section
variable {X : Cx} {K : PySem.W.Frag}
theorem serves_isN (b : Bool) : Serves K (.isN b) (one_ fun x H Q => Q (.bl (decide (x = .non) == b)) H) := by
  refine serves1 rfl ?_
  intro B M o τ Fz σ s H v1 d1 x Q r h1 e q
  simp only [primD, arg1] at e
  have key : ∀ v : V, (v ≠ .non) → Got K B M o τ Fz σ s (.bl (!b), false) Q → Q (.bl (decide (v = .non) == b)) H := fun v hv q => by
    rw [decide_eq_false hv]
    have : (false == b) = !b := by cases b <;> rfl
    rw [this]
    exact got_rep r (.bl _) q
  cases d1 with
  | non =>
    simp only [isND] at e
    cases e
    cases h1.non
    have : (decide (V.non = V.non) == b) = b := by cases b <;> simp
    rw [this]
    exact got_rep r (.bl _) q
  | bl i => simp only [isND] at e; cases e; cases h1.bl; exact key _ (fun z => by cases z) q
  | int i => simp only [isND] at e; cases e; cases h1.int; exact key _ (fun z => by cases z) q
  | str i => simp only [isND] at e; cases e; cases h1.str; exact key _ (fun z => by cases z) q
  | tup ds => simp only [isND] at e; cases e; obtain ⟨a, xs, rfl, _⟩ := h1.tup; exact key _ (fun z => by cases z) q
  | ktup ds => simp only [isND] at e; cases e; obtain ⟨a, xs, rfl, _⟩ := h1.ktup; exact key _ (fun z => by cases z) q
  | lst ds => simp only [isND] at e; cases e; obtain ⟨a, xs, rfl, _⟩ := h1.lst; exact key _ (fun z => by cases z) q
  | dic t ds => simp [isND] at e
  | tape => simp [isND] at e
theorem serves_isB (b c : Bool) : Serves K (.isB b c) (one_ fun x H Q => ∃ y, x = .bl y ∧ Q (.bl ((y == b) == c)) H) := by
  refine serves1 rfl ?_
  intro B M o τ Fz σ s H v1 d1 x Q r h1 e q
  simp only [primD, arg1] at e
  cases d1 with
  | bl y =>
    simp only [isBD] at e
    cases e
    cases h1.bl
    exact ⟨y, rfl, got_rep r (.bl _) q⟩
  | _ => simp [isBD] at e
def tyName : D → Option String
  | .non => some "NoneType" | .bl _ => some "bool" | .int _ => some "int" | .str _ => some "str" | .tup _ => some "tuple" | .ktup _ => some "tuple" | .lst _ => some "list" | _ => none
theorem ty_of {P : AP} {τ : TA2} {H : Hp} {v : V} {d : D} {n : String} (h : TopR K P τ H v d) (e : tyName d = some n) : TyX K H v (.type n) := by
  cases d with
  | non => cases h.non; cases e; exact .base .non
  | bl b => cases h.bl; cases e; exact .base (.bl b)
  | int b => cases h.int; cases e; exact .base (.int b)
  | str b => cases h.str; cases e; exact .base (.str b)
  | tup ds => obtain ⟨a, xs, rfl, e1, _⟩ := h.tup; cases e; exact .base (.tup e1)
  | ktup ds => obtain ⟨a, xs, rfl, ⟨o, its, n, hk, hc, _⟩, _⟩ := h.ktup; cases e; exact .kTuple hk hc
  | lst ds => obtain ⟨a, xs, rfl, e1, _⟩ := h.lst; cases e; exact .base (.lst e1)
  | _ => cases e
theorem isT_kit {T : String} {d : D} {b : Bool} (e : isT T d = some b) : ∃ n, tyName d = some n ∧ PySem.W.kitOne K (.type n) (.type T) = some b := by
  unfold isT at e
  split at e <;> first
    | (cases e; exact ⟨_, rfl, by first | rfl | decide +kernel⟩)
    | cases e
theorem serves_isT (T : String) : Serves K (.isT T) (one_ fun x H Q => rIsi K [x, .ty T] H Q) := by
  refine serves1 rfl ?_
  intro B M o τ Fz σ s H v1 d1 x Q r h1 e q
  simp only [primD, arg1] at e
  cases e1 : isT T d1 with
  | none => rw [e1] at e; cases e
  | some b =>
    rw [e1] at e
    cases e
    obtain ⟨n, g1, g2⟩ := isT_kit (K := K) e1
    exact ⟨v1, .ty T, .type n, .type T, b, rfl, .ty T, ty_of h1 g1, g2, got_rep r (.bl _) q⟩
theorem serves1B {id : String} {f : D → Option (D × Bool)} {r : List V → Hp → VK → Prop} (hf : ∀ ds, bltD id ds = arg1 f ds)
    (h : ∀ (B : Hp) (M : AP) (o : Nat → Addr) (τ : TA2) (Fz : List (V × D)) (σ : L2.St) (s : S) (H : Hp) (v1 : V) (d1 : D) (x : D × Bool) (Q : VK), RelS K B M o τ Fz σ s H → TopR K (Prt M o τ s) τ H v1 d1 → f d1 = some x →
      Got K B M o τ Fz σ s x Q → r [v1] H Q) : Serves K (.blt id) r := by
  intro B M o τ Fz σ s H vs ds x Q rs pv e q
  have e' : bltD id ds = some x := e
  rw [hf] at e'
  cases pv with
  | nil => cases e'
  | cons h1 t =>
    cases t with
    | nil => exact h B M o τ Fz σ s H _ _ x Q rs h1 e' q
    | cons _ _ => cases e'
def rLenA (K : PySem.W.Frag) : List V → Hp → VK → Prop := fun xs H Q => (∃ p ys, xs = [.ref p] ∧ (SqL K H p ys ∨ SqT K H p ys) ∧ Q (.int ys.length) H) ∨ rLenT xs H Q
theorem call_lenA : CallR X (.builtin "len") (rLenA X.K) := orCall call_len_seq call_len_dT
theorem serves_len : Serves K (.blt "len") (rLenA K) := by
  refine serves1B (f := lenD) (fun ds => rfl) ?_
  intro B M o τ Fz σ s H v1 d1 x Q r h1 e q
  unfold lenD at e
  split at e
  · cases e
    obtain ⟨a, xs, rfl, g1, r1, n1⟩ := h1.tup
    exact .inl ⟨a, xs, rfl, .inr (.of g1), by rw [r1.len]; exact got_rep r (.int _) q⟩
  · cases e
    obtain ⟨a, xs, rfl, g1, r1⟩ := h1.ktup
    exact .inl ⟨a, xs, rfl, .inr (.inr g1), by rw [r1.len]; exact got_rep r (.int _) q⟩
  · cases e
    obtain ⟨a, xs, rfl, g1, r1⟩ := h1.lst
    exact .inl ⟨a, xs, rfl, .inl (.of g1), by rw [r1.len]; exact got_rep r (.int _) q⟩
  · cases e
    obtain ⟨a, xs, rfl, g1, r1⟩ := h1.dT
    have := r1.vals.len
    simp only [List.length_map] at this
    exact .inr ⟨a, xs, rfl, g1, by rw [this]; exact got_rep r (.int _) q⟩
  · cases e
theorem serves_abs : Serves K (.blt "abs") (fun xs H Q => ∃ i, xs = [.int i] ∧ Q (.int (if i < 0 then -i else i)) H) := by
  refine serves1B (f := absD) (fun ds => rfl) ?_
  intro B M o τ Fz σ s H v1 d1 x Q r h1 e q
  unfold absD at e
  split at e
  · cases e
    cases h1.int
    exact ⟨_, rfl, got_rep r (.int _) q⟩
  · cases e
theorem serves_int : Serves K (.blt "int") (fun xs H Q => (∃ i, xs = [.int i] ∧ Q (.int i) H) ∨ ∃ k, xs = [.bl k] ∧ Q (.int (if k then 1 else 0)) H) := by
  refine serves1B (f := intD) (fun ds => rfl) ?_
  intro B M o τ Fz σ s H v1 d1 x Q r h1 e q
  unfold intD at e
  split at e
  · cases e
    cases h1.int
    exact .inl ⟨_, rfl, got_rep r (.int _) q⟩
  · cases e
theorem serves_tuple : Serves K (.blt "tuple") (fun xs H Q => ∃ p ys, xs = [.ref p] ∧ ((SqL K H p ys ∧ ∀ l, H l = none → Q (.ref l) (upd H l (.tup ys))) ∨ (SqT K H p ys ∧ Q (.ref p) H))) := by
  refine serves1B (f := tupleD) (fun ds => rfl) ?_
  intro B M o τ Fz σ s H v1 d1 x Q r h1 e q
  unfold tupleD at e
  split at e
  · cases e
    obtain ⟨a, xs, rfl, g1, r1, n1⟩ := h1.tup
    exact ⟨a, xs, rfl, .inr ⟨.of g1, got_rep r (.tup ⟨n1, g1⟩ r1) q⟩⟩
  · cases e
    obtain ⟨a, xs, rfl, g1, r1⟩ := h1.ktup
    exact ⟨a, xs, rfl, .inr ⟨.inr g1, got_rep r (.ktup g1 r1) q⟩⟩
  · cases e
    obtain ⟨a, xs, rfl, g1, r1⟩ := h1.lst
    exact ⟨a, xs, rfl, .inl ⟨.of g1, got_tup r r1 q⟩⟩
  · cases e
def rListA (K : PySem.W.Frag) : List V → Hp → VK → Prop := fun xs H Q => (∃ p ys, xs = [.ref p] ∧ (SqL K H p ys ∨ SqT K H p ys) ∧ ∀ l, H l = none → Q (.ref l) (upd H l (.lst ys))) ∨
  ∃ d kvs, xs = [V.ref d] ∧ Rd H d (.dT kvs) ∧ ∀ p bs, H p = none → IsKeys H kvs bs → Q (.ref p) (upd H p (.lst (bs.map V.ref)))
theorem call_listA (hc : X.calm = true) : CallR X (.type "list") (rListA X.K) := orCall call_list_of (call_list_dT hc)
theorem keyD_kV {P : AP} {τ : TA2} {H : Hp} {d : D} {k : Key} (e : keyD d = some k) : Rep K P τ H (kV k) d := by
  cases d with
  | int i => simp [keyD] at e; subst e; exact .int i
  | str i => simp [keyD] at e; subst e; exact .str i
  | _ => simp [keyD] at e
theorem keysD_kV {P : AP} {τ : TA2} {H : Hp} : ∀ {ds : List D} {ks : List Key}, keysD ds = some ks → RepAll K P τ H (ks.map kV) ds
  | [], _, e => by simp [keysD] at e; subst e; exact .nil
  | d :: ds, _, e => by
    simp only [keysD] at e
    split at e
    · rename_i k ks h1 h2
      cases e
      exact .cons (keyD_kV h1) (keysD_kV h2)
    · cases e
theorem isKeys_rep {P : AP} {τ : TA2} {H : Hp} (ht : ∀ b xs, H b = some (.tup xs) → ¬ P b) : ∀ {kvs : List (List Key × V)} {bs : List Addr} {ds : List (D × D)}, IsKeys H kvs bs → RepT K P τ H kvs ds → RepAll K P τ H (bs.map V.ref) (ds.map (·.1))
  | _, _, _, .nil, .nil => .nil
  | _, _, _, .cons h t, .cons hk _ q => .cons (.tup ⟨ht _ _ h, h⟩ (keysD_kV hk)) (isKeys_rep ht t q)
theorem serves_list : Serves K (.blt "list") (rListA K) := by
  refine serves1B (f := listD) (fun ds => rfl) ?_
  intro B M o τ Fz σ s H v1 d1 x Q r h1 e q
  unfold listD at e
  split at e
  · cases e
    obtain ⟨a, xs, rfl, g1, r1, n1⟩ := h1.tup
    exact .inl ⟨a, xs, rfl, .inr (.of g1), got_lst r r1 q⟩
  · cases e
    obtain ⟨a, xs, rfl, g1, r1⟩ := h1.ktup
    exact .inl ⟨a, xs, rfl, .inr (.inr g1), got_lst r r1 q⟩
  · cases e
    obtain ⟨a, xs, rfl, g1, r1⟩ := h1.lst
    exact .inl ⟨a, xs, rfl, .inl (.of g1), got_lst r r1 q⟩
  · cases e
    obtain ⟨a, xs, rfl, g1, r1⟩ := h1.dT
    exact .inr ⟨a, xs, rfl, .of g1, fun p bs hp hk => got_lst r (isKeys_rep (fun b xs e => r.tupOk e) hk r1) q p hp⟩
  · cases e
theorem serves_all : Serves K (.blt "all") (rAll K) := by
  refine serves1B (f := allD) (fun ds => rfl) ?_
  intro B M o τ Fz σ s H v1 d1 x Q r h1 e q
  unfold allD at e
  split at e
  · rename_i a
    cases e1 : blsD a with
    | none => rw [e1] at e; cases e
    | some bs =>
      rw [e1] at e
      cases e
      obtain ⟨a, xs, rfl, g1, r1⟩ := h1.lst
      have := r1.bls e1
      subst this
      exact ⟨a, bs, rfl, .of g1, got_rep r (.bl _) q⟩
  · cases e
theorem serves_any : Serves K (.blt "any") (rAny K) := by
  refine serves1B (f := anyD) (fun ds => rfl) ?_
  intro B M o τ Fz σ s H v1 d1 x Q r h1 e q
  unfold anyD at e
  split at e
  · rename_i a
    cases e1 : blsD a with
    | none => rw [e1] at e; cases e
    | some bs =>
      rw [e1] at e
      cases e
      obtain ⟨a, xs, rfl, g1, r1⟩ := h1.lst
      have := r1.bls e1
      subst this
      exact ⟨a, bs, rfl, .of g1, got_rep r (.bl _) q⟩
  · cases e
end
end Vf
namespace Vf
open PySem PySem.Spec PyProof.Rows L2

def caK (K : PySem.W.Frag) (C : Cn) (c : Nat) : Addr := He.ga K (C.cls.getD c "")
section
variable {K : PySem.W.Frag} {ca : Nat → Addr} {W : WX}
theorem tvE.mono {m : M (D × Bool)} {σ : L2.St} {H : Hp} {Q Q' : VK} (h : tvE K ca W m σ H Q) (i : ∀ v H', Q v H' → Q' v H') : tvE K ca W m σ H Q' := by
  obtain ⟨B, M, o, τ, Fz, s, r, h⟩ := h
  exact ⟨B, M, o, τ, Fz, s, r, h.mono (fun x s' q v H' rt => i v H' (q v H' rt)) fun _ _ z => z⟩
theorem tvO.mono {m : M Opd} {σ : L2.St} {H : Hp} {Q Q' : VK} (h : tvO K ca W m σ H Q) (i : ∀ v H', Q v H' → Q' v H') : tvO K ca W m σ H Q' := by
  obtain ⟨B, M, o, τ, Fz, s, r, h⟩ := h
  exact ⟨B, M, o, τ, Fz, s, r, h.mono (fun x s' q v H' Fz' a b c => i v H' (q v H' Fz' a b c)) fun _ _ z => z⟩
theorem tvT.mono {m : M Bool} {σ : L2.St} {H : Hp} {Q Q' : Bool → Hp → Prop} (h : tvT K ca W m σ H Q) (i : ∀ v H', Q v H' → Q' v H') : tvT K ca W m σ H Q' := by
  obtain ⟨B, M, o, τ, Fz, s, r, h⟩ := h
  exact ⟨B, M, o, τ, Fz, s, r, h.mono (fun x s' q H' a => i x H' (q H' a)) fun _ _ z => z⟩
theorem tvE_cst {v : V} {d : D} (hr : ∀ P τ H, Rep K P τ H v d) {σ : L2.St} {H : Hp} {Q : VK} (h : tvE K ca W (ret (d, false)) σ H Q) : tC v σ H Q := by
  obtain ⟨B, M, o, τ, Fz, s, r, h⟩ := h
  exact h.ret_ v H (r.more1 (hr _ _ _))
theorem prim_imp {F : FT} {p : Pr} {es : Exs} {r : List V → Hp → VK → Prop} (sv : Serves K p r) {σ : L2.St} {H : Hp} {Q : VK} (h : tvE K ca W (evE F (.prim p es)) σ H Q) : tvOs K ca W (evO F es) σ H fun vs H1 => r vs H1 Q := by
  obtain ⟨B, M, o, τ, Fz, s, rs, h⟩ := h
  unfold evE at h
  refine ⟨B, M, o, τ, Fz, s, rs, h.bnd_.mono (fun os s' q vs H' Fz' hF r' po => ?_) fun _ _ z => z⟩
  unfold WPm at q
  cases e1 : getAll s' os with
  | none => simp only [e1] at q
  | some ds =>
    simp only [e1] at q
    cases e2 : primD p ds with
    | none => simp only [e2] at q
    | some x =>
      simp only [e2] at q
      refine sv B M o τ Fz' σ s' H' vs ds x Q r' (OpdR.tops r' po e1) e2 fun v H2 rt => q v H2 ?_
      obtain ⟨d, fr⟩ := x
      cases fr with
      | false =>
        have rt' : RelS K B M o τ ((v, d) :: Fz') σ s' H2 := rt
        have g : RelS K B M o τ ((v, d) :: Fz) σ s' H2 := rt'.drop fun p0 hp => (List.mem_cons.mp hp).elim (fun z => z ▸ List.mem_cons_self) fun z => List.mem_cons_of_mem _ (hF p0 z)
        exact g
      | true =>
        obtain ⟨a, u, cs, e, hb, ht, hm, c, rt⟩ := rt
        have rt' : RelS K (upd B a u) (fun b => M b ∨ b = a) o τ (cs ++ Fz') σ s' H2 := rt
        exact ⟨a, u, cs, e, hb, ht, hm, c, rt'.drop fun p0 hp => (List.mem_append.mp hp).elim (fun z => List.mem_append_left _ z) fun z => List.mem_append_right _ (hF p0 z)⟩
theorem two_eq {r : R2} {x y : V} {H : Hp} {Q : VK} : two r [x, y] H Q = r x y H Q := propext ⟨fun ⟨_, _, e, h⟩ => by cases e; exact h, fun h => ⟨_, _, rfl, h⟩⟩
theorem one_eq {r : V → Hp → VK → Prop} {x : V} {H : Hp} {Q : VK} : one_ r [x] H Q = r x H Q := propext ⟨fun ⟨_, e, h⟩ => by cases e; exact h, fun h => ⟨_, rfl, h⟩⟩
theorem evO_2 {F : FT} {a b : Ex} {σ : L2.St} {H : Hp} {r : R2} {Q : VK} (h : tvOs K ca W (evO F (.cons a (.cons b .nil))) σ H fun vs H1 => two r vs H1 Q) : tOp r (tvO K ca W (evOp F a)) (tvO K ca W (evOp F b)) σ H Q := by
  rw [evO_cons] at h
  refine tvO.mono (tvOs_cons h) fun x H1 h => ?_
  rw [evO_cons] at h
  refine tvO.mono (tvOs_cons h) fun y H2 h => ?_
  have := tvOs_nil (K := K) (ca := ca) (W := W) (by simpa only [evO] using h)
  have h' : two r [x, y] H2 Q := this
  rw [two_eq] at h'
  exact h'
theorem evO_1 {F : FT} {a : Ex} {σ : L2.St} {H : Hp} {r : V → Hp → VK → Prop} {Q : VK} (h : tvOs K ca W (evO F (.cons a .nil)) σ H fun vs H1 => one_ r vs H1 Q) : tUn r (tvO K ca W (evOp F a)) σ H Q := by
  rw [evO_cons] at h
  refine tvO.mono (tvOs_cons h) fun x H1 h => ?_
  have := tvOs_nil (K := K) (ca := ca) (W := W) (by simpa only [evO] using h)
  have h' : one_ r [x] H1 Q := this
  rw [one_eq] at h'
  exact h'
end
def nst : Expr → Bool
  | .Starred .. => false
  | _ => true
theorem star_cons {e : Expr} {es : List Expr} {env : Env} (h : nst e = true) : starEach (e :: es) env = (false, eval e env) :: starEach es env := by
  cases e <;> first | rfl | cases h
def nstAll (es : List Expr) : Bool := es.all nst
theorem star_any : ∀ {es : List Expr} {env : Env} {pos : Pos}, nstAll es = true → (backTo pos (starEach es env)).any (·.1) = false
  | [], _, _, _ => rfl
  | e :: es, env, pos, h => by
    unfold nstAll at h
    simp only [List.all_cons, Bool.and_eq_true] at h
    rw [star_cons h.1]
    have ih := star_any (es := es) (env := env) (pos := pos) h.2
    unfold backTo at ih ⊢
    simp only [List.map_cons, List.any_cons, Bool.false_or]
    exact ih
section
variable {X : Cx} {ca : Nat → Addr} {W : WX} {F : FT}
abbrev JE (X : Cx) (ca : Nat → Addr) (W : WX) (a : Expr) (m : M (D × Bool)) : Prop := PE X a (tvE X.K ca W m)
abbrev JO (X : Cx) (ca : Nat → Addr) (W : WX) (a : Expr) (m : M Opd) : Prop := PE X a (tvO X.K ca W m)
abbrev JT (X : Cx) (ca : Nat → Addr) (W : WX) (a : Expr) (m : M Bool) : Prop := PT X a (tvT X.K ca W m)
abbrev JA (X : Cx) (ca : Nat → Addr) (W : WX) (as : List Expr) (m : M (List (D × Bool))) : Prop := PA X as (tvEs X.K ca W m)
abbrev JOs (X : Cx) (ca : Nat → Addr) (W : WX) (as : List Expr) (m : M (List Opd)) : Prop := PA X as (tvOs X.K ca W m)
theorem jo_of {a : Expr} {e : Ex} (h : JE X ca W a (evE F e)) (hv : ∀ i, e ≠ .var i) : JO X ca W a (evOp F e) := by
  refine PE.imp h fun σ H Q q => tvO_of_tvE ?_
  cases e with
  | var i => exact absurd rfl (hv i)
  | _ => exact q
theorem ja_nil : JA X ca W [] (evEs F .nil) := PA.imp pa_nil fun σ H Q q => tvEs_nil (by simpa only [evEs] using q)
theorem ja_cons {a : Expr} {as : List Expr} {e : Ex} {es : Exs} (h : JE X ca W a (evE F e)) (t : JA X ca W as (evEs F es)) (n : nst a = true) : JA X ca W (a :: as) (evEs F (.cons e es)) :=
  PA.imp (pa_cons h t (star_cons n)) fun σ H Q q => tvEs_cons (by simpa only [evEs] using q)
theorem jos_nil : JOs X ca W [] (evO F .nil) := PA.imp pa_nil fun σ H Q q => tvOs_nil (by simpa only [evO] using q)
theorem jos_cons {a : Expr} {as : List Expr} {e : Ex} {es : Exs} (h : JO X ca W a (evOp F e)) (t : JOs X ca W as (evO F es)) (n : nst a = true) : JOs X ca W (a :: as) (evO F (.cons e es)) :=
  PA.imp (pa_cons h t (star_cons n)) fun σ H Q q => tvOs_cons (by rw [← evO_cons]; exact q)
theorem je_bin {op : Operator} {r : R2} {a b : Expr} {e1 e2 : Ex} {pos : Pos} (ho : OpR X (binaryOp op) r) (sv : Serves X.K (.bin op) (two r)) (ha : JO X ca W a (evOp F e1)) (hb : JO X ca W b (evOp F e2)) :
    JE X ca W (.BinOp a op b pos) (evE F (.prim (.bin op) (.cons e1 (.cons e2 .nil)))) := PE.imp (pe_op ho ha hb) fun σ H Q h => evO_2 (prim_imp sv h)
theorem je_cmp {op : CmpOp} {r : R2} {a b : Expr} {e1 e2 : Ex} {pos : Pos} (ho : OpR X (compareOp op) r) (sv : Serves X.K (.cmp op) (two r)) (ha : JO X ca W a (evOp F e1)) (hb : JO X ca W b (evOp F e2)) (hm : behindInMarks op b = false) :
    JE X ca W (.Compare a [op] [b] pos) (evE F (.prim (.cmp op) (.cons e1 (.cons e2 .nil)))) := PE.imp (pe_cmpR ho ha hb hm) fun σ H Q h => evO_2 (prim_imp sv h)
theorem jt_cmp {op : CmpOp} {r : R2} {a b : Expr} {e1 e2 : Ex} {pos : Pos} (ho : OpR X (compareOp op) r) (sv : Serves X.K (.cmp op) (two r)) (ha : JO X ca W a (evOp F e1)) (hb : JO X ca W b (evOp F e2)) (hm : behindInMarks op b = false) :
    JT X ca W (.Compare a [op] [b] pos) (bnd (evE F (.prim (.cmp op) (.cons e1 (.cons e2 .nil)))) isB) := PT.imp (pt_cmpR ho ha hb hm) fun σ H Q h => evO_2 (prim_imp sv (tvT_of h))
theorem je_idx {r : R2} {a b : Expr} {e1 e2 : Ex} {pos : Pos} (ho : IxR X r) (sv : Serves X.K .idx (two r)) (ha : JO X ca W a (evOp F e1)) (hb : JO X ca W b (evOp F e2)) (hs : PlainIx b) :
    JE X ca W (.Subscript a b pos) (evE F (.prim .idx (.cons e1 (.cons e2 .nil)))) := PE.imp (pe_ix ho ha hb hs) fun σ H Q h => evO_2 (prim_imp sv h)
theorem je_neg {a : Expr} {e1 : Ex} {pos : Pos} (ha : JO X ca W a (evOp F e1)) : JE X ca W (.UnaryOp .USub a pos) (evE F (.prim .neg (.cons e1 .nil))) := PE.imp (pe_un un_neg ha) fun σ H Q h => evO_1 (prim_imp serves_neg h)
theorem je_isN {a : Expr} {e1 : Ex} {pos p2 : Pos} {k : Nat} (b : Bool) (ha : JO X ca W a (evOp F e1)) : JE X ca W (.Compare a [if b then .Is else .IsNot] [.Constant .none k p2] pos) (evE F (.prim (.isN b) (.cons e1 .nil))) := by
  cases b with
  | true =>
    refine PE.imp (pe_cmpR op_isN ha pe_non rfl) fun σ H Q h => tvO.mono (evO_1 (prim_imp (serves_isN true) h)) fun x H1 q => ⟨rfl, ?_⟩
    simpa using q
  | false =>
    refine PE.imp (pe_cmpR op_notN ha pe_non rfl) fun σ H Q h => tvO.mono (evO_1 (prim_imp (serves_isN false) h)) fun x H1 q => ⟨rfl, ?_⟩
    have e : (decide (x = V.non) == false) = !decide (x = V.non) := by cases decide (x = V.non) <;> rfl
    rw [e] at q
    exact q
theorem jt_isN {a : Expr} {e1 : Ex} {pos p2 : Pos} {k : Nat} (b : Bool) (ha : JO X ca W a (evOp F e1)) : JT X ca W (.Compare a [if b then .Is else .IsNot] [.Constant .none k p2] pos) (bnd (evE F (.prim (.isN b) (.cons e1 .nil))) isB) := by
  cases b with
  | true =>
    refine PT.imp (pt_cmpR op_isN ha pe_non rfl) fun σ H Q h => tvO.mono (evO_1 (prim_imp (serves_isN true) (tvT_of h))) fun x H1 q => ⟨rfl, ?_⟩
    simpa using q
  | false =>
    refine PT.imp (pt_cmpR op_notN ha pe_non rfl) fun σ H Q h => tvO.mono (evO_1 (prim_imp (serves_isN false) (tvT_of h))) fun x H1 q => ⟨rfl, ?_⟩
    have e : (decide (x = V.non) == false) = !decide (x = V.non) := by cases decide (x = V.non) <;> rfl
    rw [e] at q
    exact q
theorem je_isB {a : Expr} {e1 : Ex} {pos p2 : Pos} {k : Nat} (b c : Bool) (ha : JO X ca W a (evOp F e1)) : JE X ca W (.Compare a [if c then .Is else .IsNot] [.Constant (.bool b) k p2] pos) (evE F (.prim (.isB b c) (.cons e1 .nil))) := by
  have key : ∀ y : Bool, ((y == b) == true) = decide (y = b) := fun y => by cases y <;> cases b <;> rfl
  have key2 : ∀ y : Bool, ((y == b) == false) = !decide (y = b) := fun y => by cases y <;> cases b <;> rfl
  cases c with
  | true => exact PE.imp (pe_cmpR op_isBl ha pe_bl rfl) fun σ H Q h => tvO.mono (evO_1 (prim_imp (serves_isB b true) h)) fun x H1 ⟨y, e, q⟩ => ⟨y, b, e, rfl, by rw [← key]; exact q⟩
  | false => exact PE.imp (pe_cmpR op_notBl ha pe_bl rfl) fun σ H Q h => tvO.mono (evO_1 (prim_imp (serves_isB b false) h)) fun x H1 ⟨y, e, q⟩ => ⟨y, b, e, rfl, by rw [← key2]; exact q⟩
theorem jt_isB {a : Expr} {e1 : Ex} {pos p2 : Pos} {k : Nat} (b c : Bool) (ha : JO X ca W a (evOp F e1)) : JT X ca W (.Compare a [if c then .Is else .IsNot] [.Constant (.bool b) k p2] pos) (bnd (evE F (.prim (.isB b c) (.cons e1 .nil))) isB) := by
  have key : ∀ y : Bool, ((y == b) == true) = decide (y = b) := fun y => by cases y <;> cases b <;> rfl
  have key2 : ∀ y : Bool, ((y == b) == false) = !decide (y = b) := fun y => by cases y <;> cases b <;> rfl
  cases c with
  | true => exact PT.imp (pt_cmpR op_isBl ha pe_bl rfl) fun σ H Q h => tvO.mono (evO_1 (prim_imp (serves_isB b true) (tvT_of h))) fun x H1 ⟨y, e, q⟩ => ⟨y, b, e, rfl, by rw [← key]; exact q⟩
  | false => exact PT.imp (pt_cmpR op_notBl ha pe_bl rfl) fun σ H Q h => tvO.mono (evO_1 (prim_imp (serves_isB b false) (tvT_of h))) fun x H1 ⟨y, e, q⟩ => ⟨y, b, e, rfl, by rw [← key2]; exact q⟩
theorem je_not {a : Expr} {e : Ex} {pos : Pos} (h : JE X ca W a (evE F e)) : JE X ca W (.UnaryOp .Not a pos) (evE F (.not e)) := by
  refine PE.imp (pe_not h) fun σ H Q q => ?_
  obtain ⟨B, M, o, τ, Fz, s, r, q⟩ := q
  unfold evE at q
  have q1 := tvT_of (K := X.K) (ca := ca) (W := W) (σ := σ) (H := H) (Q := fun c H' => Q (.bl (!c)) H') ⟨B, M, o, τ, Fz, s, r, q.bnd_.mono (fun c s' z H' r' => z.ret_ _ H' (r'.more1 (.bl _))) fun _ _ z => z⟩
  exact q1
theorem jt_not {a : Expr} {m : M Bool} {pos : Pos} (h : JT X ca W a m) : JT X ca W (.UnaryOp .Not a pos) (bnd (bnd m fun b => ret (.bl (!b), false)) isB) := by
  refine PT.imp (pt_not h) fun σ H Q q => ?_
  obtain ⟨B, M, o, τ, Fz, s, r, q⟩ := q
  exact ⟨B, M, o, τ, Fz, s, r, (q.bnd_).bnd_.mono (fun c s' z H' r' => by
    have z1 := z.ret_
    exact WPm.ret_ (ok := fun b s' => ∀ H', RelS X.K B M o τ Fz σ s' H' → Q b H') z1 H' r') fun _ _ z => z⟩
theorem je_and {a b : Expr} {rest : List Expr} {e f : Ex} {pos : Pos} (ha : JE X ca W a (evE F e)) (hb : JE X ca W (.BoolOp .And (b :: rest) pos) (evE F f)) : JE X ca W (.BoolOp .And (a :: b :: rest) pos) (evE F (.and e f)) := by
  refine PE.imp (pe_and ha hb) fun σ H Q q => ?_
  obtain ⟨B, M, o, τ, Fz, s, r, q⟩ := q
  unfold evE at q
  refine tvT_of (K := X.K) (ca := ca) (W := W) (Q := fun c H1 => if c = true then tvE X.K ca W (evE F f) σ H1 Q else Q (.bl false) H1) ⟨B, M, o, τ, Fz, s, r, q.bnd_.mono (fun c s' z H' r' => ?_) fun _ _ z => z⟩
  cases c with
  | true => exact ⟨B, M, o, τ, Fz, s', r', z⟩
  | false => exact z.ret_ _ H' (r'.more1 (.bl _))
theorem je_or {a b : Expr} {rest : List Expr} {e f : Ex} {pos : Pos} (ha : JE X ca W a (evE F e)) (hb : JE X ca W (.BoolOp .Or (b :: rest) pos) (evE F f)) : JE X ca W (.BoolOp .Or (a :: b :: rest) pos) (evE F (.or e f)) := by
  refine PE.imp (pe_or ha hb) fun σ H Q q => ?_
  obtain ⟨B, M, o, τ, Fz, s, r, q⟩ := q
  unfold evE at q
  refine tvT_of (K := X.K) (ca := ca) (W := W) (Q := fun c H1 => if c = true then Q (.bl true) H1 else tvE X.K ca W (evE F f) σ H1 Q) ⟨B, M, o, τ, Fz, s, r, q.bnd_.mono (fun c s' z H' r' => ?_) fun _ _ z => z⟩
  cases c with
  | false => exact ⟨B, M, o, τ, Fz, s', r', z⟩
  | true => exact z.ret_ _ H' (r'.more1 (.bl _))
theorem wpm_assoc {α β γ : Type} {m : M α} {f : α → M β} {g : β → M γ} : bnd (bnd m f) g = bnd m fun a => bnd (f a) g := by
  funext s
  unfold bnd
  cases m s <;> rfl
theorem pw_and' {a b : Expr} {rest : List Expr} {e f : Ex} {pos : Pos} (ha : JT X ca W a (bnd (evE F e) isB)) (hb : PW X (.BoolOp .And (b :: rest) pos) (tvT X.K ca W (bnd (evE F f) isB))) : PW X (.BoolOp .And (a :: b :: rest) pos) (tvT X.K ca W (bnd (evE F (.and e f)) isB)) := by
  refine ⟨fun whole pins s σ H Q I q => (pw_and ha hb).run whole pins s σ H Q I ?_⟩
  obtain ⟨B, M, o, τ, Fz, s, r, q⟩ := q
  unfold evE at q
  rw [wpm_assoc] at q
  refine ⟨B, M, o, τ, Fz, s, r, q.bnd_.mono (fun c s' z H' r' => ?_) fun _ _ z => z⟩
  cases c with
  | true => exact ⟨B, M, o, τ, Fz, s', r', z⟩
  | false => exact WPm.ret_ (ok := fun b s' => ∀ H', RelS X.K B M o τ Fz σ s' H' → Q b H') (z.bnd_.ret_) H' r'
theorem pw_or' {a b : Expr} {rest : List Expr} {e f : Ex} {pos : Pos} (ha : JT X ca W a (bnd (evE F e) isB)) (hb : PW X (.BoolOp .Or (b :: rest) pos) (tvT X.K ca W (bnd (evE F f) isB))) : PW X (.BoolOp .Or (a :: b :: rest) pos) (tvT X.K ca W (bnd (evE F (.or e f)) isB)) := by
  refine ⟨fun whole pins s σ H Q I q => (pw_or ha hb).run whole pins s σ H Q I ?_⟩
  obtain ⟨B, M, o, τ, Fz, s, r, q⟩ := q
  unfold evE at q
  rw [wpm_assoc] at q
  refine ⟨B, M, o, τ, Fz, s, r, q.bnd_.mono (fun c s' z H' r' => ?_) fun _ _ z => z⟩
  cases c with
  | false => exact ⟨B, M, o, τ, Fz, s', r', z⟩
  | true => exact WPm.ret_ (ok := fun b s' => ∀ H', RelS X.K B M o τ Fz σ s' H' → Q b H') (z.bnd_.ret_) H' r'
theorem je_ite {c a b : Expr} {e f g : Ex} {pos : Pos} (hc : JT X ca W c (bnd (evE F e) isB)) (ha : JE X ca W a (evE F f)) (hb : JE X ca W b (evE F g)) : JE X ca W (.IfExp c a b pos) (evE F (.ite e f g)) := by
  refine PE.imp (pe_ifExp hc ha hb) fun σ H Q q => ?_
  obtain ⟨B, M, o, τ, Fz, s, r, q⟩ := q
  unfold evE at q
  refine ⟨B, M, o, τ, Fz, s, r, q.bnd_.mono (fun c s' z H' r' => ?_) fun _ _ z => z⟩
  cases c with
  | true => exact ⟨B, M, o, τ, Fz, s', r', z⟩
  | false => exact ⟨B, M, o, τ, Fz, s', r', z⟩
theorem jt_val {a : Expr} {m : M (D × Bool)} (h : JE X ca W a m) (he : ∀ whole, isTrue a X.env whole = (do let v ← whole; standAt a.pos; holding [v] (truthy v))) : JT X ca W a (bnd m isB) :=
  PT.imp (pt_val h he) fun σ H Q q => tvT_of q
end
end Vf
namespace Vf
open PySem PySem.Spec PyProof.Rows L2

def spF (G : Gl) (C : Cn) (F : FT) (n i : Nat) : Sp := fun vs H Q E => vs.length = n ∧ ∃ (M : AP) (τ : TA2) (T : Vf.TP) (ds : List D), vs.length = ds.length ∧ RelS G.K H M (fun _ => 0) τ (vs.zip ds) [] ⟨[], T⟩ H ∧
  match F i ds T with
  | .ok d fr T' => ∀ v H', RelT G.K (fun _ => 0) τ [] ⟨[], T'⟩ H' [(v, d, fr)] H M [] → Q v H'
  | .exc c T' => ∀ H', RelS G.K H M (fun _ => 0) τ [] [] ⟨[], T'⟩ H' → E (.ref (caK G.K C c)) none H'
  | .stuck => False
def ExcOk (K : PySem.W.Frag) (mg : Str → Option Value) (x : Str) (c : Addr) : Prop := ∃ (bmB : List Value) (B newId initId : String), ExcBaseFacts B newId initId bmB ∧ PySem.W.excIn K c bmB newId = true ∧ mg x = some (.ref c) ∧ PySem.W.keepIn K (.ref c) = true ∧
  PySem.W.subIn K (.ref c) (.type "BaseException") = some true ∧ PySem.W.typeIn K (.ref c) = some (.type "type")
structure LenKey (body : List Stmt) (scope : Scope) (x : Str) : Prop where
  body : ∃ p1 p2 p3 p4 k p5 p6, body = [.Return (some (.Tuple [.Call (.Name "len" p1) [.Name x p2] [] p3, .Name x p4] k p5)) p6]
  loc : scope.names.lookup x = some .local
  glo : scope.names.lookup ("len" : Str) = some .globalImplicit
  kind : scope.kind = .function
  co : scope.isCoroutine = false
  gen : scope.isGenerator = false
  nd : (x == ("__debug__" : Str)) = false
def LenFn (K : PySem.W.Frag) (mg : Str → Option Value) (x : Str) : Prop := ∃ (f : Addr) (fd : FuncData) (name qual : Str) (params : Arguments) (body : List Stmt) (scope : Scope) (p : Str), mg x = some (.ref f) ∧ mg ("len" : Str) = none ∧ FunD K name qual params body scope [] [] f fd ∧ L2.Binds K fd [p] [] ∧ LenKey body scope p
structure PF (C : Cn) (F : FT) (G : Gl) : Prop where
  fns : ∀ x i, C.names.lookup x = some i → ∃ f fd ps, C.ar[i]? = some ps.length ∧ G.mg x = some (.ref f) ∧ PySem.W.keepIn G.K (.ref f) = true ∧ L2.Binds G.K fd ps [] ∧ FnOk G.P G.w G.K G.mg G.base (L2.CX G.P G.w) G.k f fd ps (spF G C F ps.length i)
  con : ∀ x d, C.cons.lookup x = some d → ∃ v u, G.mg x = some u ∧ RelV v u ∧ ∀ P τ H, Rep G.K P τ H v d
  free : ∀ x ∈ C.free, G.mg x = none
  lenk : ∀ x ∈ C.lenk, LenFn G.K G.mg x
  cls : ∀ (c : Nat) (x : Str), C.cls[c]? = some x → ExcOk G.K G.mg x (caK G.K C c)
  exm : ∀ (i j : Nat) (x y : Str), C.cls[i]? = some x → C.cls[j]? = some y → PySem.W.exmOne G.K (.ref (caK G.K C i)) (.ref (caK G.K C j)) = some (C.exm i j)
@[reducible] def glX (X : Cx) (k : Nat) : Gl := ⟨X.prog, X.w, X.K, X.mg, X.base, k⟩
section
variable {K : PySem.W.Frag} {B : Hp} {M : AP} {o : Nat → Addr} {τ : TA2} {Fz : List (V × D)} {σ : L2.St} {s : S} {H H' : Hp}
def M0 (M : AP) (o : Nat → Addr) (s : S) : AP := fun b => M b ∨ ∃ i d, Own s i d ∧ b = o i
theorem prt0 {M : AP} {o o' : Nat → Addr} {τ : TA2} {s : S} {T : Vf.TP} {b : Addr} : Prt (M0 M o s) o' τ ⟨[], T⟩ b ↔ Prt M o τ s b := by
  constructor
  · rintro ((h | h) | h | ⟨i, d, w, e⟩)
    · exact .inl h
    · exact .inr (.inr h)
    · exact .inr (.inl h)
    · cases w
  · rintro (h | h | h)
    · exact .inl (.inl h)
    · exact .inr (.inl h)
    · exact .inl (.inr h)
theorem RelS.callee (r : RelS K B M o τ Fz σ s H) {l : List (V × D)} (hl : ∀ p ∈ l, p ∈ Fz) (o' : Nat → Addr) : RelS K H (M0 M o s) o' τ l [] ⟨[], s.T⟩ H := by
  refine ⟨rfl, fun _ _ q _ => q, fun p q => (r.fz p (hl p q)).mo (Mo.same fun b h => prt0.mp h), (fun i d q => by cases q), (fun i d q => by cases q), (fun i j d e q => by cases q), ⟨fun a h z => ?_, r.tp.at_⟩, fun b z => ?_⟩
  · rcases z with z | ⟨i, d, w, e⟩
    · exact r.tp.no a h z
    · exact (r.ow i d w).2.2.1 (e ▸ h)
  · rcases z with z | ⟨i, d, w, e⟩
    · exact r.mt b z
    · obtain ⟨_, _, _, _, u, cs, h5, h6, _⟩ := r.ow i d w
      exact ⟨u, by rw [e]; exact h5, h6.nt⟩
theorem RelS.back (r : RelS K B M o τ Fz σ s H) {T : Vf.TP} {l : List (V × D)} {o' : Nat → Addr} (q : RelS K H (M0 M o s) o' τ l [] ⟨[], T⟩ H') : RelS K B M o τ Fz σ { s with T := T } H' :=
  r.move q.keep ⟨r.tp.no, q.tp.at_⟩
theorem RelT.back (r : RelS K B M o τ Fz σ s H) {T : Vf.TP} {v : V} {d : D} {fr : Bool} {o' : Nat → Addr} (q : RelT K o' τ [] ⟨[], T⟩ H' [(v, d, fr)] H (M0 M o s) []) : RelT K o τ σ { s with T := T } H' [(v, d, fr)] B M Fz := by
  cases fr with
  | false =>
    have q' : RelS K H (M0 M o s) o' τ [(v, d)] [] ⟨[], T⟩ H' := q
    have b := r.back q'
    refine b.more1 ((q'.fz (v, d) List.mem_cons_self).mo (Mo.same fun x h => ?_))
    have h' : Prt M o τ s x := h
    exact prt0.mpr h'
  | true =>
    obtain ⟨a, u, cs, e, hb, ht, hm, c, q'⟩ := q
    have q' : RelS K (upd H a u) (fun b => M0 M o s b ∨ b = a) o' τ (cs ++ []) [] ⟨[], T⟩ H' := q'
    obtain ⟨f1, f2, f3, f4⟩ := r.fresh hb
    refine ⟨a, u, cs, e, f1, ht, f2, c, ?_⟩
    show RelS K (upd B a u) (fun b => M b ∨ b = a) o τ (cs ++ Fz) σ { s with T := T } H'
    have ka : H' a = some u := q'.keep a u upd_same ht
    have kp : ∀ b x, H b = some x → ¬ TpA τ b → H' b = some x := fun b x h n => q'.keep b x (upd_up hb b x h) n
    have mo : Mo (Prt M o τ s) (Prt (fun b => M b ∨ b = a) o τ { s with T := T }) H H' := by
      refine ⟨fun b x h n => kp b x h fun z => n (.inr (.inl z)), fun b h hn => ?_⟩
      rcases h with (h | h) | h | h
      · exact .inl h
      · exact absurd (h ▸ hb) hn
      · exact .inr (.inl h)
      · exact .inr (.inr h)
    refine ⟨r.len, fun b x h n => ?_, fun p h => ?_, fun i d h => ?_, fun i d h => ?_, r.inj, ⟨fun x h z => ?_, q'.tp.at_⟩, fun b z => ?_⟩
    · by_cases e : b = a
      · subst e; rw [upd_same] at h; cases h; exact ka
      · rw [upd_ne e] at h
        exact kp b x (r.keep b x h n) n
    · rcases List.mem_append.mp h with h | h
      · refine (q'.fz p (List.mem_append_left _ h)).mo (Mo.same fun x z => ?_)
        rcases z with (z | z) | z | z
        · exact .inl (.inl (.inl z))
        · exact .inl (.inr z)
        · exact .inr (.inl z)
        · exact .inl (.inl (.inr z))
      · exact (r.fz p h).mo mo
    · obtain ⟨w, h1, h2⟩ := r.sh i d h
      exact ⟨w, h1, h2.mo mo⟩
    · obtain ⟨h1, h2, h3, h4, x, xs, h5, h6, h7⟩ := r.ow i d h
      have ne : o i ≠ a := f4 i d h
      exact ⟨h1, fun z => z.elim h2 ne, h3, by rw [upd_ne ne]; exact h4, x, xs, kp _ _ h5 h3, h6, fun p z => (h7 p z).mo mo⟩
    · rcases z with z | z
      · exact r.tp.no x h z
      · exact ht (z ▸ h)
    · rcases z with z | z
      · obtain ⟨x, h, n⟩ := r.mt b z
        exact ⟨x, kp b x h fun y => r.tp.no b y z, n⟩
      · exact ⟨u, by rw [z]; exact ka, c.nt⟩
theorem zipT_map : ∀ {vs : List V} {xs : List (D × Bool)}, vs.length = xs.length → (zipT vs xs).map (fun t => (t.1, t.2.1)) = vs.zip (xs.map (·.1))
  | [], [], _ => rfl
  | [], _ :: _, e => by simp at e
  | _ :: _, [], e => by simp at e
  | v :: vs, x :: xs, e => by
    have := zipT_map (vs := vs) (xs := xs) (by simpa using e)
    simp only [zipT, List.map_cons, List.zip_cons_cons, this]
end
section
variable {X : Cx} {W : WX} {F : FT} {C : Cn} {k : Nat}
theorem pe_callS0 {CX : CXT} {f : Addr} {fd : FuncData} {ps : List Str} {sp : Sp} {E : L2.St → XK} {x : Str} {p pos : Pos} (F : FnOk X.prog X.w X.K X.mg X.base CX k f fd ps sp) (hr : Room k X.A) (hg : L2.Gl X x) (hm : X.mg x = some (.ref f)) (hk : PySem.W.keepIn X.K (.ref f) = true) (hb : L2.Binds X.K fd ps []) (hx : ∀ σ, PassesAt CX X σ (E σ))
    (hdb : (x == ("__debug__" : Str)) = false) : PE X (.Call (.Name x p) [] [] pos) (tCallS sp E tNil) := by
  refine ⟨fun pins s σ H Q I h => ?_⟩
  refine wpAny_Call_Name_kw (ld_glob I hg hm ?_ hdb)
  exact PySem.W.callWith_K0 I.kIn hk (run_fnS (us := []) F hr hb (hx σ) I .nil h)
theorem call_imp {i n : Nat} {es : Exs} {σ : L2.St} {H : Hp} {Q : VK} (hn : ∀ (xs : List (D × Bool)) (s s' : S), evEs F es s = .ok xs s' → xs.length = n) (h : tvE X.K (caK X.K C) W (evE F (.call i es)) σ H Q) : tCallS (spF (glX X k) C F n i) (WE W) (tvEs X.K (caK X.K C) W (evEs F es)) σ H Q := by
  obtain ⟨B, M, o, τ, Fz, s, r, h⟩ := h
  unfold evE at h
  have h2 := h.bnd_
  have h3 : WPm (evEs F es) s (fun a s' => a.length = n ∧ WPm (callM F i (a.map (·.1))) s' (fun x s' => ∀ (v : V) (H' : Hp), RelT X.K o τ σ s' H' [(v, x.1, x.2)] B M Fz → Q v H') (EX X.K (caK X.K C) W B M o τ Fz σ)) (EX X.K (caK X.K C) W B M o τ Fz σ) := by
    unfold WPm at h2 ⊢
    cases e : evEs F es s with
    | ok a s' => rw [e] at h2; exact ⟨hn a s s' e, h2⟩
    | exc c s' => rw [e] at h2; exact h2
    | stuck => rw [e] at h2; exact h2
  refine ⟨B, M, o, τ, Fz, s, r, h3.mono (fun xs s' q vs H' hl rt => ?_) fun _ _ z => z⟩
  obtain ⟨hln, q⟩ := q
  have r1 := rt.plain
  rw [zipT_map hl] at r1
  refine ⟨by rw [hl, hln], M0 M o s', τ, s'.T, (xs.map fun x => x.1 : List D), by simp [hl], r1.callee (fun p hp => List.mem_append_left _ hp) _, ?_⟩
  have r2 : RelS X.K B M o τ Fz σ s' H' := r1.drop fun p hp => List.mem_append_right _ hp
  unfold WPm callM at q
  cases e : F i (xs.map (·.1)) s'.T with
  | ok d fr T' =>
    rw [e] at q
    exact fun v H2 rt2 => q v H2 (rt2.back r2)
  | exc c T' =>
    rw [e] at q
    exact fun H2 rt2 => q H2 (r2.back rt2)
  | stuck => rw [e] at q; exact q
def Exs.len : Exs → Nat
  | .nil => 0
  | .cons _ es => es.len + 1
theorem evEs_len : ∀ (es : Exs) (xs : List (D × Bool)) (s s' : S), evEs F es s = .ok xs s' → xs.length = es.len
  | .nil, xs, s, s', h => by simp only [evEs, ret] at h; cases h; rfl
  | .cons e es, xs, s, s', h => by
    simp only [evEs, bnd] at h
    cases e1 : evE F e s with
    | ok d s1 =>
      rw [e1] at h
      simp only at h
      cases e2 : evEs F es s1 with
      | ok ds s2 =>
        rw [e2] at h
        simp only [ret] at h
        cases h
        simp [Exs.len, evEs_len es ds _ _ e2]
      | exc c s2 => rw [e2] at h; cases h
      | stuck => rw [e2] at h; cases h
    | exc c s1 => rw [e1] at h; cases h
    | stuck => rw [e1] at h; cases h
theorem je_call {x : Str} {i : Nat} {p pos : Pos} {a : Expr} {as : List Expr} {es : Exs} {f : Addr} {fd : FuncData} {ps : List Str} (hr : Room k X.A) (tk : Takes X W) (hg : L2.Gl X x)
    (hm : X.mg x = some (.ref f)) (hk : PySem.W.keepIn X.K (.ref f) = true) (hb : L2.Binds X.K fd ps []) (hF : FnOk X.prog X.w X.K X.mg X.base (L2.CX X.prog X.w) k f fd ps (spF (glX X k) C F ps.length i))
    (hl : es.len = ps.length) (hdb : (x == ("__debug__" : Str)) = false) (ha : JA X (caK X.K C) W (a :: as) (evEs F es)) (hn : nstAll (a :: as) = true) : JE X (caK X.K C) W (.Call (.Name x p) (a :: as) [] pos) (evE F (.call i es)) := by
  unfold nstAll at hn
  simp only [List.all_cons, Bool.and_eq_true] at hn
  exact PE.imp (pe_callS hF hr hg hm hk hb (fun σ => passAt tk σ) ha hdb (star_cons hn.1) (star_any hn.2)) fun σ H Q h => call_imp (fun xs s s' e => by rw [evEs_len es xs s s' e, hl]) h
theorem je_call0 {x : Str} {i : Nat} {p pos : Pos} {f : Addr} {fd : FuncData} {ps : List Str} (hr : Room k X.A) (tk : Takes X W) (hg : L2.Gl X x)
    (hm : X.mg x = some (.ref f)) (hk : PySem.W.keepIn X.K (.ref f) = true) (hb : L2.Binds X.K fd ps []) (hF : FnOk X.prog X.w X.K X.mg X.base (L2.CX X.prog X.w) k f fd ps (spF (glX X k) C F ps.length i))
    (hl : ps.length = 0) (hdb : (x == ("__debug__" : Str)) = false) : JE X (caK X.K C) W (.Call (.Name x p) [] [] pos) (evE F (.call i .nil)) :=
  PE.imp (pe_callS0 hF hr hg hm hk hb (fun σ => passAt tk σ) hdb) fun σ H Q h => by
    have q := call_imp (X := X) (W := W) (C := C) (k := k) (n := ps.length) (fun xs s s' e => by rw [evEs_len .nil xs s s' e, hl]; rfl) h
    unfold tCallS at q
    exact tvEs_nil (K := X.K) (ca := caK X.K C) (W := W) (by simpa only [evEs] using q)
theorem je_tup {as : List Expr} {es : Exs} {n : Nat} {pos : Pos} {ca : Nat → Addr} (h : JA X ca W as (evEs F es)) : JE X ca W (.Tuple as n pos) (evE F (.tup es)) := by
  refine PE.imp (pe_tup h) fun σ H Q q => ?_
  obtain ⟨B, M, o, τ, Fz, s, r, q⟩ := q
  unfold evE at q
  refine ⟨B, M, o, τ, Fz, s, r, q.bnd_.mono (fun xs s' q vs H' hl rt => ?_) fun _ _ z => z⟩
  have r1 := rt.plain
  rw [zipT_map hl] at r1
  unfold tupM at q
  split at q
  · rename_i hf
    have hf := of_decide_eq_true hf
    simp only [List.length_map] at hf
    have ra : RepAll X.K (Prt M o τ s') τ H' vs (xs.map fun x => x.1) := RepAll.of_fz (by simp [hl]) fun p hp => r1.fz p (List.mem_append_left _ hp)
    refine ⟨by rw [hl]; exact hf, got_tup r1 ra fun v H2 rt2 => WPm.ret_ q v H2 ?_⟩
    have r3 : RelS X.K B M o τ ((v, .tup (xs.map fun x => x.1)) :: (vs.zip (xs.map fun x => x.1) ++ Fz)) σ s' H2 := rt2
    exact r3.drop fun p hp => (List.mem_cons.mp hp).elim (fun e => e ▸ List.mem_cons_self) fun e => List.mem_cons_of_mem _ (List.mem_append_right _ e)
  · exact WPm.stk_ q
theorem je_lst {as : List Expr} {es : Exs} {pos : Pos} {ca : Nat → Addr} (h : JA X ca W as (evEs F es)) : JE X ca W (.List as pos) (evE F (.lst es)) := by
  refine PE.imp (pe_lst h) fun σ H Q q => ?_
  obtain ⟨B, M, o, τ, Fz, s, r, q⟩ := q
  unfold evE at q
  refine ⟨B, M, o, τ, Fz, s, r, q.bnd_.mono (fun xs s' q vs H' hl rt => ?_) fun _ _ z => z⟩
  have r1 := rt.plain
  rw [zipT_map hl] at r1
  unfold lstM at q
  split at q
  · rename_i hf
    have hf := of_decide_eq_true hf
    simp only [List.length_map] at hf
    have ra : RepAll X.K (Prt M o τ s') τ H' vs (xs.map fun x => x.1) := RepAll.of_fz (by simp [hl]) fun p hp => r1.fz p (List.mem_append_left _ hp)
    refine ⟨by rw [hl]; exact hf, got_lst r1 ra fun v H2 rt2 => WPm.ret_ q v H2 ?_⟩
    obtain ⟨a, u, cs, e, hb, ht, hm, c, r3⟩ := rt2
    refine ⟨a, u, cs, e, hb, ht, hm, c, ?_⟩
    have r3 : RelS X.K (upd B a u) (fun b => M b ∨ b = a) o τ (cs ++ (vs.zip (xs.map fun x => x.1) ++ Fz)) σ s' H2 := r3
    exact r3.drop fun p hp => (List.mem_append.mp hp).elim (fun e => List.mem_append_left _ e) fun e => List.mem_append_right _ (List.mem_append_right _ e)
  · exact WPm.stk_ q
theorem je_dic {t : Bool} {pos : Pos} {ca : Nat → Addr} : JE X ca W (.Dict [] [] pos) (evE F (.dic t)) := by
  have key : ∀ σ H Q, tvE X.K ca W (evE F (.dic t)) σ H Q → ∀ p, H p = none → Q (.ref p) (upd H p (if t then .dT [] else .dK [])) := fun σ H Q q => by
    obtain ⟨B, M, o, τ, Fz, s, r, q⟩ := q
    unfold evE at q
    exact got_dic r fun v H2 rt => WPm.ret_ q v H2 rt
  cases t with
  | true => exact PE.imp pe_dnewT key
  | false => exact PE.imp pe_dnewK key
end
end Vf
namespace Vf
open PySem PySem.Spec PyProof.Rows L2

section
variable {X : Cx} {W : WX} {F : FT} {C : Cn} {k : Nat} {ca : Nat → Addr} {K : PySem.W.Frag}
theorem maxI_ok : ∀ (r : List Int) (a : Int), maxI a r ∈ a :: r ∧ ∀ y ∈ a :: r, y ≤ maxI a r
  | [], a => by simp [maxI]
  | b :: r, a => by
    unfold maxI
    by_cases hc : a < b
    · rw [if_pos hc]
      obtain ⟨h1, h2⟩ := maxI_ok r b
      refine ⟨List.mem_cons_of_mem _ h1, fun y hy => ?_⟩
      rcases List.mem_cons.mp hy with e | e
      · subst e; have := h2 b List.mem_cons_self; omega
      · exact h2 y e
    · rw [if_neg hc]
      obtain ⟨h1, h2⟩ := maxI_ok r a
      refine ⟨?_, fun y hy => ?_⟩
      · rcases List.mem_cons.mp h1 with e | e
        · rw [e]; exact List.mem_cons_self
        · exact List.mem_cons_of_mem _ (List.mem_cons_of_mem _ e)
      · rcases List.mem_cons.mp hy with e | e
        · subst e; exact h2 _ List.mem_cons_self
        · rcases List.mem_cons.mp e with e | e
          · subst e; have := h2 a List.mem_cons_self; omega
          · exact h2 y (List.mem_cons_of_mem _ e)
theorem minI_ok : ∀ (r : List Int) (a : Int), minI a r ∈ a :: r ∧ ∀ y ∈ a :: r, minI a r ≤ y
  | [], a => by simp [minI]
  | b :: r, a => by
    unfold minI
    by_cases hc : b < a
    · rw [if_pos hc]
      obtain ⟨h1, h2⟩ := minI_ok r b
      refine ⟨List.mem_cons_of_mem _ h1, fun y hy => ?_⟩
      rcases List.mem_cons.mp hy with e | e
      · subst e; have := h2 b List.mem_cons_self; omega
      · exact h2 y e
    · rw [if_neg hc]
      obtain ⟨h1, h2⟩ := minI_ok r a
      refine ⟨?_, fun y hy => ?_⟩
      · rcases List.mem_cons.mp h1 with e | e
        · rw [e]; exact List.mem_cons_self
        · exact List.mem_cons_of_mem _ (List.mem_cons_of_mem _ e)
      · rcases List.mem_cons.mp hy with e | e
        · subst e; exact h2 _ List.mem_cons_self
        · rcases List.mem_cons.mp e with e | e
          · subst e; have := h2 a List.mem_cons_self; omega
          · exact h2 y (List.mem_cons_of_mem _ e)
theorem serves_sum : Serves K (.blt "sum") (rSum K) := by
  refine serves1B (f := sumD) (fun ds => rfl) ?_
  intro B M o τ Fz σ s H v1 d1 x Q r h1 e q
  unfold sumD at e
  split at e
  · rename_i a
    cases e1 : intsD a with
    | none => rw [e1] at e; cases e
    | some bs =>
      rw [e1] at e
      cases e
      obtain ⟨a, xs, rfl, g1, r1⟩ := h1.lst
      have := r1.ints e1
      subst this
      exact ⟨a, bs, rfl, .of g1, got_rep r (.int _) q⟩
  · cases e
def rMaxA (K : PySem.W.Frag) : List V → Hp → VK → Prop := fun xs H Q => rMax K xs H Q ∨ ∃ i j, xs = [.int i, .int j] ∧ Q (.int (if j > i then j else i)) H
def rMinA (K : PySem.W.Frag) : List V → Hp → VK → Prop := fun xs H Q => rMin K xs H Q ∨ ∃ i j, xs = [.int i, .int j] ∧ Q (.int (if j < i then j else i)) H
theorem call_maxA (hc : X.calm = true) : CallR X (.builtin "max") (rMaxA X.K) := orCall (cr_max hc) (call_max2 hc)
theorem call_minA (hc : X.calm = true) : CallR X (.builtin "min") (rMinA X.K) := orCall (cr_min hc) (call_min2 hc)
theorem serves_max : Serves K (.blt "max") (rMaxA K) := by
  intro B M o τ Fz σ s H vs ds x Q rs pv e q
  have e' : orElse2 (arg1 maxD) (arg2 max2D) ds = some x := e
  cases pv with
  | nil => cases e'
  | cons h1 t =>
    cases t with
    | nil =>
      simp only [orElse2, arg1] at e'
      unfold maxD at e'
      split at e'
      · split at e'
        · rename_i a y r hi
          cases e'
          obtain ⟨b, xs, rfl, g1, r1⟩ := h1.lst
          have := r1.ints hi
          subst this
          refine .inl ⟨b, y :: r, rfl, .of g1, by simp, fun m hm hy => ?_⟩
          obtain ⟨k1, k2⟩ := maxI_ok r y
          have : m = maxI y r := by
            have := hy _ k1
            have := k2 m hm
            omega
          rw [this]
          exact got_rep rs (.int _) q
        · cases e'
      · cases e'
    | cons h2 t =>
      cases t with
      | cons _ _ => simp [orElse2, arg2] at e'
      | nil =>
        simp only [orElse2, arg2] at e'
        unfold max2D at e'
        split at e'
        · cases e'
          cases h1.int; cases h2.int
          exact .inr ⟨_, _, rfl, got_rep rs (.int _) q⟩
        · cases e'
theorem serves_min : Serves K (.blt "min") (rMinA K) := by
  intro B M o τ Fz σ s H vs ds x Q rs pv e q
  have e' : orElse2 (arg1 minD) (arg2 min2D) ds = some x := e
  cases pv with
  | nil => cases e'
  | cons h1 t =>
    cases t with
    | nil =>
      simp only [orElse2, arg1] at e'
      unfold minD at e'
      split at e'
      · split at e'
        · rename_i a y r hi
          cases e'
          obtain ⟨b, xs, rfl, g1, r1⟩ := h1.lst
          have := r1.ints hi
          subst this
          refine .inl ⟨b, y :: r, rfl, .of g1, by simp, fun m hm hy => ?_⟩
          obtain ⟨k1, k2⟩ := minI_ok r y
          have : m = minI y r := by
            have := hy _ k1
            have := k2 m hm
            omega
          rw [this]
          exact got_rep rs (.int _) q
        · cases e'
      · cases e'
    | cons h2 t =>
      cases t with
      | cons _ _ => simp [orElse2, arg2] at e'
      | nil =>
        simp only [orElse2, arg2] at e'
        unfold min2D at e'
        split at e'
        · cases e'
          cases h1.int; cases h2.int
          exact .inr ⟨_, _, rfl, got_rep rs (.int _) q⟩
        · cases e'
structure BltOk (X : Cx) (id : String) : Prop where
  ok : ∃ r, Serves X.K (.blt id) r ∧ ((CallR X (.builtin id) r ∧ bootBuiltins id = some (.builtin id)) ∨ (CallR X (.type id) r ∧ bootBuiltins id = some (.type id)))
  n1 : (id : Str) ≠ "__name__"
  n2 : ((id : Str) == ("__debug__" : Str)) = false
def bltIds : List String := ["len", "abs", "int", "tuple", "list", "sum", "max", "min", "all", "any"]
theorem blt_ok (hc : X.calm = true) {id : String} (h : id ∈ bltIds) : BltOk X id := by
  have h' : id = "len" ∨ id = "abs" ∨ id = "int" ∨ id = "tuple" ∨ id = "list" ∨ id = "sum" ∨ id = "max" ∨ id = "min" ∨ id = "all" ∨ id = "any" := by simpa [bltIds] using h
  rcases h' with e | e | e | e | e | e | e | e | e | e <;> subst e
  · exact ⟨⟨_, serves_len, .inl ⟨call_lenA, boot_len⟩⟩, by decide +kernel, by decide +kernel⟩
  · exact ⟨⟨_, serves_abs, .inl ⟨call_abs, by decide +kernel⟩⟩, by decide +kernel, by decide +kernel⟩
  · exact ⟨⟨_, serves_int, .inr ⟨call_int1, by decide +kernel⟩⟩, by decide +kernel, by decide +kernel⟩
  · exact ⟨⟨_, serves_tuple, .inr ⟨call_tuple_of, by decide +kernel⟩⟩, by decide +kernel, by decide +kernel⟩
  · exact ⟨⟨_, serves_list, .inr ⟨call_listA hc, by decide +kernel⟩⟩, by decide +kernel, by decide +kernel⟩
  · exact ⟨⟨_, serves_sum, .inl ⟨cr_sum hc, by decide +kernel⟩⟩, by decide +kernel, by decide +kernel⟩
  · exact ⟨⟨_, serves_max, .inl ⟨call_maxA hc, by decide +kernel⟩⟩, by decide +kernel, by decide +kernel⟩
  · exact ⟨⟨_, serves_min, .inl ⟨call_minA hc, by decide +kernel⟩⟩, by decide +kernel, by decide +kernel⟩
  · exact ⟨⟨_, serves_all, .inl ⟨cr_all hc, by decide +kernel⟩⟩, by decide +kernel, by decide +kernel⟩
  · exact ⟨⟨_, serves_any, .inl ⟨cr_any hc, by decide +kernel⟩⟩, by decide +kernel, by decide +kernel⟩
theorem je_blt {id : String} {p pos : Pos} {a : Expr} {as : List Expr} {es : Exs} (b : BltOk X id) (hg : L2.Gl X id) (hm : X.mg id = none) (ha : JOs X ca W (a :: as) (evO F es)) (hn : nstAll (a :: as) = true) :
    JE X ca W (.Call (.Name id p) (a :: as) [] pos) (evE F (.prim (.blt id) es)) := by
  unfold nstAll at hn
  simp only [List.all_cons, Bool.and_eq_true] at hn
  obtain ⟨⟨r, sv, hr⟩, n1, n2⟩ := b
  rcases hr with ⟨hc, hb⟩ | ⟨hc, hb⟩
  · exact PE.imp (pe_callB hc hg hm hb ha n1 n2 (star_cons hn.1) (star_any hn.2)) fun σ H Q h => prim_imp sv h
  · exact PE.imp (pe_callTy hc hg hm hb ha n1 n2 (star_cons hn.1) (star_any hn.2)) fun σ H Q h => prim_imp sv h
def tyIds : List String := ["int", "bool", "tuple", "str"]
theorem je_isT {T : String} {p p2 pos : Pos} {a : Expr} {e : Ex} (hT : T ∈ tyIds) (hg : L2.Gl X "isinstance") (hm : X.mg "isinstance" = none) (hgT : L2.Gl X T) (hmT : X.mg T = none) (ha : JO X ca W a (evOp F e)) (hn : nst a = true) :
    JE X ca W (.Call (.Name "isinstance" p) [a, .Name T p2] [] pos) (evE F (.prim (.isT T) (.cons e .nil))) := by
  have h' : T = "int" ∨ T = "bool" ∨ T = "tuple" ∨ T = "str" := by simpa [tyIds] using hT
  have hb : bootBuiltins T = some (.type T) := by rcases h' with e | e | e | e <;> subst e <;> decide +kernel
  have n1 : (T : Str) ≠ "__name__" := by rcases h' with e | e | e | e <;> subst e <;> decide +kernel
  have n2 : ((T : Str) == ("__debug__" : Str)) = false := by rcases h' with e | e | e | e <;> subst e <;> decide +kernel
  have pT : PE X (.Name T p2) (tC (.ty T)) := pe_bltn hgT hmT hb rfl n1 n2
  have pA : PA X [a, .Name T p2] (tCons (tvO X.K ca W (evOp F e)) (tCons (tC (.ty T)) tNil)) := pa_cons ha (pa_cons pT pa_nil rfl) (star_cons hn)
  refine PE.imp (pe_callB call_isi hg hm (by decide +kernel) pA (by decide +kernel) (by decide +kernel) (star_cons hn) rfl) fun σ H Q h => ?_
  exact evO_1 (prim_imp (serves_isT T) h)
def rDIn : R2 := fun y x H Q => ∃ a o, x = .ref a ∧ DGet H a y o ∧ Q (.bl o.isSome) H
def rDNotIn : R2 := fun y x H Q => ∃ a o, x = .ref a ∧ DGet H a y o ∧ Q (.bl (!o.isSome)) H
theorem op_dIn (hu : X.A.units + 1 < cLine) : OpR X (compareOp .In) rDIn := by
  intro pins s σ H x y v u Q I rx ry h
  obtain ⟨a, o, rfl, g, q⟩ := h
  obtain rfl : u = Value.ref a := ry
  exact d_in hu I g rx fun s3 I3 => ⟨.bl o.isSome, H, I3, rfl, q⟩
theorem op_dNotIn (hu : X.A.units + 1 < cLine) : OpR X (compareOp .NotIn) rDNotIn := by
  intro pins s σ H x y v u Q I rx ry h
  obtain ⟨a, o, rfl, g, q⟩ := h
  obtain rfl : u = Value.ref a := ry
  exact d_notIn hu I g rx fun s3 I3 => ⟨.bl (!o.isSome), H, I3, rfl, q⟩
def rInA (K : PySem.W.Frag) : R2 := fun x y H Q => (rDIn x y H Q ∨ rInD K x y H Q) ∨ rIn K false x y H Q
def rNotInA (K : PySem.W.Frag) : R2 := fun x y H Q => (rDNotIn x y H Q ∨ rNotInD K x y H Q) ∨ rIn K true x y H Q
theorem op_inA (hu : X.A.units + 65 < cLine) : OpR X (compareOp .In) (rInA X.K) := orOp (orOp (op_dIn (by omega)) (op_inD hu)) op_in_seq
theorem op_notInA (hu : X.A.units + 65 < cLine) : OpR X (compareOp .NotIn) (rNotInA X.K) := orOp (orOp (op_dNotIn (by omega)) (op_notInD hu)) op_notIn_seq
theorem pds_any (f : PyData → Bool) : ∀ ds : List D, (pds ds).any f = ds.any fun z => f (pd z)
  | [] => by rw [pds]; rfl
  | d :: ds => by rw [pds, List.any_cons, List.any_cons, pds_any f ds]
theorem inV_ints (k : Int) (ns : List Int) : inV (.int k) (ns.map V.int) = decide (k ∈ ns) := by
  induction ns with
  | nil => rfl
  | cons n ns ih =>
    unfold inV at ih ⊢
    rw [List.map_cons, List.any_cons, ih]
    by_cases h : n = k
    · subst h; simp [eqV]
    · have h' : ¬ k = n := fun e => h e.symm
      simp [eqV, h, h']
theorem in_cases {B : Hp} {M : AP} {o : Nat → Addr} {τ : TA2} {Fz : List (V × D)} {σ : L2.St} {s : S} {H : Hp} {v1 v2 : V} {d1 d2 : D} {b : Bool} (r : RelS K B M o τ Fz σ s H) (h1 : TopR K (Prt M o τ s) τ H v1 d1) (h2 : TopR K (Prt M o τ s) τ H v2 d2) (e : inD d1 d2 = some b) :
    (∃ a ov, v2 = .ref a ∧ DGet H a v1 ov ∧ ov.isSome = b) ∨
    (∃ d ds, Dp K H v1 d ∧ Dp K H v2 (.list ds) ∧ SeqAt.shaped d = true ∧ SeqAt.shaped (.list ds) = true ∧ (ds.any fun z => PyData.eqv z d) = b) ∨
    (∃ p xs, v2 = .ref p ∧ (SqL K H p xs ∨ SqT K H p xs) ∧ flatV v1 = true ∧ xs.all flatV = true ∧ inV v1 xs = b) := by
  unfold inD at e
  split at e
  · rename_i t kvs
    cases e1 : dkey t d1 with
    | none => rw [e1] at e; cases e
    | some kk =>
      rw [e1] at e
      simp only [Option.map_some, Option.some.injEq] at e
      obtain ⟨a, ov, rfl, g1, _, g2⟩ := dget_ok h2 h1 e1
      refine .inl ⟨a, ov, rfl, g1, ?_⟩
      rw [← e]
      cases e2 : dget t kk kvs with
      | none => rw [e2] at g2; have g3 : ov = none := g2; subst g3; rfl
      | some d => rw [e2] at g2; obtain ⟨v, rfl, _⟩ := g2; rfl
  · rename_i ds
    split at e
    · rename_i hf
      simp only [Bool.and_eq_true] at hf
      cases e
      have ok2 : okD 60 (.lst ds) = true := by simpa [okD] using hf.2
      refine .inr (.inl ⟨pd d1, pds ds, h1.dp hf.1, ?_, okD_shaped hf.1, ?_, pds_any _ ds⟩)
      · have := h2.dp ok2
        rw [pd] at this
        exact this
      · have := okD_shaped ok2
        rw [pd] at this
        exact this
    · cases e
  · rename_i k ds
    cases e1 : intsD ds with
    | none => rw [e1] at e; cases e
    | some ns =>
      rw [e1] at e
      cases e
      cases h1.int
      obtain ⟨a, xs, rfl, g1, r1, _⟩ := h2.tup
      have := r1.ints e1
      subst this
      refine .inr (.inr ⟨a, _, rfl, .inr (.of g1), rfl, ?_, inV_ints k ns⟩)
      rw [List.all_map]
      exact List.all_eq_true.mpr fun _ _ => rfl
  · cases e
theorem serves_in : Serves K (.cmp .In) (two (rInA K)) := by
  refine serves2 rfl ?_
  intro B M o τ Fz σ s H v1 v2 d1 d2 x Q r h1 h2 e q
  simp only [primD, arg2, cmpD] at e
  cases e1 : inD d1 d2 with
  | none => rw [e1] at e; cases e
  | some b =>
    rw [e1] at e
    cases e
    have fin : Q (.bl b) H := got_rep r (.bl _) q
    rcases in_cases r h1 h2 e1 with ⟨a, ov, g1, g2, rfl⟩ | ⟨d, ds, g1, g2, g3, g4, rfl⟩ | ⟨p, xs, g1, g2, g3, g4, rfl⟩
    · exact .inl (.inl ⟨a, ov, g1, g2, fin⟩)
    · exact .inl (.inr ⟨d, ds, g1, g2, g3, g4, fin⟩)
    · exact .inr ⟨p, xs, g1, g2, g3, g4, fin⟩
theorem serves_notIn : Serves K (.cmp .NotIn) (two (rNotInA K)) := by
  refine serves2 rfl ?_
  intro B M o τ Fz σ s H v1 v2 d1 d2 x Q r h1 h2 e q
  simp only [primD, arg2, cmpD] at e
  cases e1 : inD d1 d2 with
  | none => rw [e1] at e; cases e
  | some b =>
    rw [e1] at e
    cases e
    have fin : Q (.bl (!b)) H := got_rep r (.bl _) q
    rcases in_cases r h1 h2 e1 with ⟨a, ov, g1, g2, rfl⟩ | ⟨d, ds, g1, g2, g3, g4, rfl⟩ | ⟨p, xs, g1, g2, g3, g4, rfl⟩
    · exact .inl (.inl ⟨a, ov, g1, g2, fin⟩)
    · exact .inl (.inr ⟨d, ds, g1, g2, g3, g4, fin⟩)
    · exact .inr ⟨p, xs, g1, g2, g3, g4, fin⟩
theorem ix_dict (hu : X.A.units + 1 < cLine) : IxR X (fun x y H Q => ∃ a v, x = .ref a ∧ DGet H a y (some v) ∧ Q v H) := by
  intro value slice pins s σ H x y v u Q I rx ry h hs
  obtain ⟨a, w, rfl, g, q⟩ := h
  cases rx
  exact PyProof.Rows.tail_any (ops := [.ref a, u]) (dict_typeIs I g) PySem.F.slot_dict_getitem.lookup (d_getItem hu I g ry fun w' s3 I3 rw' => ⟨w, H, I3, rw', q⟩) hs
theorem ix_D (hu : X.A.units + 1 < cLine) : IxR X (rIxD X.K) := ix_A.or (ix_dict hu)
def rSl (K : PySem.W.Frag) (lo hi : Bool) : List V → Hp → VK → Prop := fun vs H Q => match lo, hi, vs with
  | true, false, [x, i] => ∃ k, i = .int k ∧ rSlice K x (some k) none H Q
  | false, true, [x, j] => ∃ k, j = .int k ∧ rSlice K x none (some k) H Q
  | true, true, [x, i, j] => ∃ k l, i = .int k ∧ j = .int l ∧ rSlice K x (some k) (some l) H Q
  | _, _, _ => False
theorem serves_sl (lo hi : Bool) : Serves K (.sl lo hi) (rSl K lo hi) := by
  intro B M o τ Fz σ s H vs ds x Q rs pv e q
  have e' : slArgs lo hi ds = some x := e
  cases pv with
  | nil => cases lo <;> cases hi <;> simp [slArgs] at e'
  | cons h1 t =>
    cases t with
    | nil => cases lo <;> cases hi <;> simp [slArgs] at e'
    | @cons _ d2 _ _ h2 t =>
      cases t with
      | nil =>
        cases lo <;> cases hi <;> cases d2 <;> simp [slArgs] at e'
        · cases h2.int; exact ⟨_, rfl, slice_ok rs h1 e' q⟩
        · cases h2.int; exact ⟨_, rfl, slice_ok rs h1 e' q⟩
      | @cons _ d3 _ _ h3 t =>
        cases t with
        | nil =>
          cases lo <;> cases hi <;> cases d2 <;> cases d3 <;> simp [slArgs] at e'
          cases h2.int; cases h3.int
          exact ⟨_, _, rfl, rfl, slice_ok rs h1 e' q⟩
        | cons _ _ => cases lo <;> cases hi <;> cases d2 <;> cases d3 <;> simp [slArgs] at e'
theorem je_slL {a l : Expr} {e1 e2 : Ex} {p2 pos : Pos} (ha : JO X ca W a (evOp F e1)) (hl : JO X ca W l (evOp F e2)) : JE X ca W (.Subscript a (.Slice (some l) none none p2) pos) (evE F (.prim (.sl true false) (.cons e1 (.cons e2 .nil)))) := by
  refine PE.imp (pe_slice sl_any ha (po_some hl) po_none) fun σ H Q h => ?_
  have q := prim_imp (serves_sl (K := X.K) true false) h
  rw [evO_cons] at q
  refine tvO.mono (tvOs_cons q) fun x H1 q => ?_
  rw [evO_cons] at q
  refine tvO.mono (tvOs_cons q) fun y H2 q => ?_
  have q := tvOs_nil (K := X.K) (ca := ca) (W := W) (by simpa only [evO] using q)
  exact q
theorem je_slH {a l : Expr} {e1 e2 : Ex} {p2 pos : Pos} (ha : JO X ca W a (evOp F e1)) (hl : JO X ca W l (evOp F e2)) : JE X ca W (.Subscript a (.Slice none (some l) none p2) pos) (evE F (.prim (.sl false true) (.cons e1 (.cons e2 .nil)))) := by
  refine PE.imp (pe_slice sl_any ha po_none (po_some hl)) fun σ H Q h => ?_
  have q := prim_imp (serves_sl (K := X.K) false true) h
  rw [evO_cons] at q
  refine tvO.mono (tvOs_cons q) fun x H1 q => ?_
  rw [evO_cons] at q
  refine tvO.mono (tvOs_cons q) fun y H2 q => ?_
  have q := tvOs_nil (K := X.K) (ca := ca) (W := W) (by simpa only [evO] using q)
  exact q
theorem chk_int {e : Ex} {σ : L2.St} {H : Hp} {Q : VK} (h : tvO K ca W (evOp F (.chkI e)) σ H Q) : tvE K ca W (evE F e) σ H fun y H2 => ∃ i, y = .int i ∧ Q y H2 := by
  have h := tvO_of_tvE (m := evE F (.chkI e)) h
  obtain ⟨B, M, o, τ, Fz, s, r, h⟩ := h
  unfold evE at h
  refine ⟨B, M, o, τ, Fz, s, r, h.bnd_.mono (fun x s' q v H' rt => ?_) fun _ _ z => z⟩
  obtain ⟨d, fr⟩ := x
  cases d with
  | int i =>
    have rt1 : RelS K B M o τ ((v, D.int i) :: Fz) σ s' H' := rt.one
    have e := rt1.fz (v, .int i) List.mem_cons_self
    cases e
    exact ⟨i, rfl, WPm.ret_ q _ H' rt1⟩
  | _ => exact WPm.stk_ q
theorem je_slB {a l m : Expr} {e1 e2 e3 : Ex} {p2 pos : Pos} (ha : JO X ca W a (evOp F e1)) (hl : JE X ca W l (evE F e2)) (hm : JO X ca W m (evOp F e3)) : JE X ca W (.Subscript a (.Slice (some l) (some m) none p2) pos) (evE F (.prim (.sl true true) (.cons e1 (.cons (.chkI e2) (.cons e3 .nil))))) := by
  refine PE.imp (pe_slice sl_any ha (po_some hl) (po_some hm)) fun σ H Q h => ?_
  have q := prim_imp (serves_sl (K := X.K) true true) h
  rw [evO_cons] at q
  refine tvO.mono (tvOs_cons q) fun x H1 q => ?_
  rw [evO_cons] at q
  refine tvE.mono (chk_int (tvOs_cons q)) fun y H2 q => ?_
  obtain ⟨i, rfl, q⟩ := q
  refine ⟨i, rfl, ?_⟩
  rw [evO_cons] at q
  refine tvO.mono (tvOs_cons q) fun z H3 q => ?_
  have q := tvOs_nil (K := X.K) (ca := ca) (W := W) (by simpa only [evO] using q)
  obtain ⟨i', j, e, rfl, q⟩ := q
  cases e
  exact ⟨j, rfl, q⟩
end
end Vf
namespace Vf
open PySem PySem.Spec PyProof.Rows L2

theorem meets_enumT (l : Addr) (items : Array Value) :
    Meets (Builtin.«enumerate.__new__» ⟨[.type "enumerate", .ref l], []⟩) (fun _ R s => s.heap.IsTuple l items ∧
      R (.ok (.ret (.ref (s.heap.push { cls := .type "tuple_iterator", data := .fields #[.ref l, .int 0 0] }).objs.size)))
        { s with heap := (s.heap.push { cls := .type "tuple_iterator", data := .fields #[.ref l, .int 0 0] }).push { cls := .type "enumerate", data := .fields #[.none, .bool false, .ref s.heap.objs.size, rawInt 0, .none, .none] } }) :=
  .of_wp fun prog w A R s h => by
    obtain ⟨hp, g, d, tk, os⟩ := s; obtain ⟨hl, h⟩ := h
    have hsub := sub_enumerate
    have q1 : ∀ {A' : Around} {E : Value → Shared → Prop} {Q : Value → Shared → Prop}, Q (.ref hp.objs.size) ⟨hp.push { cls := .type "tuple_iterator", data := .fields #[.ref l, .int 0 0] }, g, d, tk, os⟩ → wpAny (model prog w) A' (pyIter (.ref l)) Q E ⟨hp, g, d, tk, os⟩ :=
      fun q => wpAny_pyIter_tuple hl q
    wp_walk using q1
    refine wpAny_stack_any fun st => wpAny_pure ?_
    split
    · rename_i c _ _ _ _ _
      cases (c == Value.type "enumerate")
      · wp_walk using q1
        exact ⟨_, rfl, h⟩
      · wp_walk using q1
        exact ⟨_, rfl, h⟩
    · wp_walk using q1
      exact ⟨_, rfl, h⟩
theorem call_enumT {prog : Program} {w : World} {A : Around} {E : Value → Shared → Prop} {s : Shared} {l : Addr} {items : Array Value} {Q : Value → Shared → Prop} (hL : s.heap.IsTuple l items)
    (h : ∀ h', IsEnum h' (s.heap.objs.size + 1) s.heap.objs.size 0 .none → h'.IsTupleIter s.heap.objs.size l 0 → h'.objs.size = s.heap.objs.size + 2 →
      (∀ b o, s.heap.get? b = some o → h'.get? b = some o) → Q (.ref (s.heap.objs.size + 1)) { s with heap := h' }) :
    wpAny (model prog w) A (call (.type "enumerate") [.ref l]) Q E s := by
  refine callType_new F.called_enumerate (by decide) (F.typeCall_enumerate_1 _) (F.newCall_enumerate_1 _) (fun obj => F.args_object_init_2 obj _) F.entry_enumerate_new
    (meets_enumT l items) ⟨hL, ?_⟩
  have hz : (s.heap.push { cls := .type "tuple_iterator", data := .fields #[.ref l, .int 0 0] }).objs.size = s.heap.objs.size + 1 := Heap.size_push ..
  show _ ∧ _
  rw [hz]
  have he : IsEnum ((s.heap.push { cls := .type "tuple_iterator", data := .fields #[.ref l, .int 0 0] }).push
      { cls := .type "enumerate", data := .fields #[.none, .bool false, .ref s.heap.objs.size, rawInt 0, .none, .none] }) (s.heap.objs.size + 1) s.heap.objs.size 0 .none := by
    have := Heap.get?_push_size (s.heap.push { cls := .type "tuple_iterator", data := .fields #[.ref l, .int 0 0] })
      (o := { cls := .type "enumerate", data := .fields #[.none, .bool false, .ref s.heap.objs.size, rawInt 0, .none, .none] }) rfl
    rw [hz] at this; exact this
  refine ⟨⟨_, he, rfl⟩, h _ he ⟨_, Heap.get?_push_of_some _ (Heap.get?_push_size _ rfl), rfl, rfl⟩ (by rw [Heap.size_push, hz]) fun b o x => Heap.get?_push_of_some _ (Heap.get?_push_of_some _ x)⟩
theorem enumT_end {prog : Program} {w : World} {A : Around} {E : Value → Shared → Prop} {s : Shared} {e it l : Addr} {items : Array Value} {j : Nat} {i : Int} {old : Value} {Q : Option Value → Shared → Prop} (hh : A.handled = none)
    (he : IsEnum s.heap e it i old) (hit : s.heap.IsTupleIter it l j) (ht : s.heap.IsTuple l items) (hx : items[j]? = none)
    (hQ : ∀ h', Heap.ExtBut it s.heap h' → Q none { s with heap := h' }) : wpAny (model prog w) A (pyNext (.ref e)) Q E s := by
  have hT : s.TypeIs (.ref e) "enumerate" := ⟨_, he, rfl⟩
  unfold pyNext
  refine wpAny_bind (wpAny_attempt (wpAny_callSpecial?_slot (name := Str.ofString "__next__") hT F.slot_enumerate_next
    (wpAny_call_entry F.slot_enumerate_next hT F.entry_enumerate_next ?_ (F.args_enumerate_next_1 _))))
  show wpAny _ _ (field (.ref e) 2 >>= _) _ _ _
  refine wpAny_bind (wpAny_field he rfl (x := .ref it) rfl ?_)
  refine wpAny_bind (wpAny_nextOf_tuple_end (A := A.in1) hh hit ht hx fun h' x he' hx' => ?_)
  obtain ⟨o, ho, hc⟩ := hx'
  refine wpAny_bind (wpAny_isInstance (T := "StopIteration") (b := true) ⟨o, ho, hc⟩ isSubtype_stop ?_)
  exact wpAny_pure (hQ _ he')
def IteT (K : PySem.W.Frag) (a : Addr) : L2.It :=
  ⟨fun i H => ∃ (xs : List V) (x : V), SqT K H a xs ∧ xs[i]? = some x, fun i H v H' => ∃ T x, v = .ref T ∧ H T = none ∧ H' = upd H T (.tup [.int (i : Nat), x]) ∧ ∀ xs, SqT K H a xs → xs[i]? = some x, fun i H => ∃ xs : List V, SqT K H a xs ∧ xs.length ≤ i⟩
theorem turn_enumT {P : Program} {w : World} {K : PySem.W.Frag} {elts : List Expr} {kk : Nat} {tpos : Pos} (a e it : Addr) (hat : a ≠ it) (hae : a ≠ e) :
    Turn P w K (.Tuple elts kk tpos) (IteT K a) [e, it] e (fun i h => (∃ old, IsEnum h e it ((i : Nat) : Int) old) ∧ h.IsTupleIter it a i ∧ e ≠ it) where
  mem := by simp
  obj := fun i h st b hb => by
    obtain ⟨⟨old, he⟩, ⟨o, ho, hc, hd⟩, _⟩ := st
    have e' : b = e ∨ b = it := by simpa using hb
    rcases e' with z | z
    · rw [z]; exact ⟨_, he, fun v q => nomatch q⟩
    · rw [z]; exact ⟨o, ho, fun v q => by rw [hd] at q; cases q⟩
  keep := fun i h h' st k => let ⟨⟨old, he⟩, hi, hne⟩ := st; ⟨⟨old, k e (by simp) _ he⟩, hi.at fun o q => k it (by simp) o q, hne⟩
  item := by
    intro X hP hw hK hc i pins s σ H E I hf st hg
    subst hP hw hK
    obtain ⟨⟨old, he⟩, hit, hne⟩ := st
    obtain ⟨xs, x, hq, hx⟩ := hg
    obtain ⟨its, rv, p, hz⟩ := I.tuple hq
    obtain ⟨u, hu, ru⟩ := rv.get hx
    have hel : e < s.heap.objs.size := Heap.lt_size he
    have hil : it < s.heap.objs.size := by obtain ⟨_, q, _⟩ := hit; exact Heap.lt_size q
    have hi2 : i < its.toArray.size := by
      rw [List.size_toArray, ← rv.length]
      exact (List.getElem?_eq_some_iff.mp hx).1
    refine wpAny_pyNext_enum_itemD (Draws.tuple (A := X.A.in1) (I.ok.hd hc) it a hat its.toArray) he ⟨hit, p⟩ hi2 hne (by simp [hne, Ne.symm hae]) fun y h' tk hy ho hst hT hsz hk => ?_
    have hit' : h'.IsTupleIter it a (i + 1) := hst.1
    have ey : y = u := by
      have hy' : its.toArray[i]? = some y := hy
      have hu' : its.toArray[i]? = some u := by simpa using hu
      rw [hy'] at hu'; exact Option.some.inj hu'
    subst ey
    refine ⟨_, rfl, wpAny_letOwnedTupleGo_enum (s := { s with heap := h', toks := tk + 1 }) ho fun h'' he' sb => ?_⟩
    have hT2 : h''.get? s.heap.objs.size = some { cls := .type "tuple", data := .seq #[.int i tk, y] } := (sb.2 _ (Nat.ne_of_gt hel)).trans hT
    have new : ObjOk X.prog X.w (upd H s.heap.objs.size (.tup [.int (i : Nat), x])) h'' s.heap.objs.size (.tup [.int (i : Nat), x]) :=
      ⟨by show 2 ≤ sizeLine; decide, [.int i tk, y], .cons ⟨_, rfl⟩ (.cons ru .nil), ⟨_, hT2, rfl, _, rfl⟩⟩
    have I1 : Inv X pins σ (upd H s.heap.objs.size (.tup [.int (i : Nat), x])) { s with heap := h'', toks := tk + 1 } :=
      I.turnedNew (ch := [e, it]) (fun b ob hb q => (sb.2 b (fun z => hb (by simp [z]))).trans (hk b ob (fun z => hb (by simp [z])) (fun z => hb (by simp [z])) q)) hf (Nat.le_refl _) new
    refine ⟨.ref s.heap.objs.size, _, I1, rfl, ⟨_, x, rfl, I.hok.fresh (Nat.le_refl _), rfl, fun ys hy => by rw [I.tuple_inj hy hq]; exact hx⟩, ⟨⟨y, ?_⟩, hit'.at fun o q => (sb.2 it (Ne.symm hne)).trans q, hne⟩, fun b hb => ?_⟩
    · have e1 : ((i + 1 : Nat) : Int) = (i : Int) + 1 := by omega
      rw [e1]; exact he'
    · have hb' : b < s.heap.objs.size := by
        have e' : b = e ∨ b = it := by simpa using hb
        rcases e' with z | z
        · rw [z]; exact hel
        · rw [z]; exact hil
      rw [upd_ne (Nat.ne_of_lt hb')]
      exact (hf b hb).1
  done := by
    intro X hP hw hK hc i pins s σ H E I hf st hg
    subst hP hw hK
    obtain ⟨⟨old, he⟩, hit, hne⟩ := st
    obtain ⟨xs, hq, hx⟩ := hg
    obtain ⟨its, rv, p, hz⟩ := I.tuple hq
    obtain ⟨f0, f1, f2, f3, f4, f5⟩ := hf it (by simp)
    have hl := rv.length
    refine enumT_end (I.ok.hd hc) he hit p (by simp; omega) fun h' eb => ⟨rfl, I.turned (t' := s.toks) (fun b o hb q => eb b o hb q) f0 f1 f3 f4 f5⟩
  self := fun A i s Q E st h => let ⟨⟨_, he⟩, _⟩ := st; wpAny_pyIter_enum he h
def iEnumA (K : PySem.W.Frag) (ta : TA) : TI := fun σ H R => ta σ H fun vs H1 => ∃ a xs, vs = [.ref a] ∧ ((SqL K H1 a xs ∧ R (Ite K a) H1) ∨ (SqT K H1 a xs ∧ R (IteT K a) H1))
theorem pi_enumA {X : Cx} {e : Expr} {ta : TA} {p pos tpos : Pos} {elts : List Expr} {kk : Nat} (hg : L2.Gl X "enumerate") (hm : X.mg "enumerate" = none) (ha : PA X [e] ta) (hs : starEach [e] X.env = [(false, eval e X.env)]) :
    PI X (.Tuple elts kk tpos) (.Call (.Name "enumerate" p) [e] [] pos) (iEnumA X.K ta) := by
  refine ⟨fun pins s σ H R I h => ?_⟩
  refine Call_ (ld_blt I hg hm boot_enumerate (PyProof.Rows.callWith_type1 (thn (ha.run pos pins s σ H _ I h) fun us s1 ⟨vs, H1, I1, r1, q1⟩ => ?_) hs rfl))
  obtain ⟨a, xs, ex, q1⟩ := q1
  subst ex
  cases r1 with
  | cons r rr =>
    cases rr
    cases r
    have fp : ∀ b ∈ [s1.heap.objs.size + 1, s1.heap.objs.size], FpOk X pins H1 b := fun b hb => by
      have e' : b = s1.heap.objs.size + 1 ∨ b = s1.heap.objs.size := by simpa using hb
      have hle : s1.heap.objs.size ≤ b := by
        rcases e' with z | z
        · rw [z]; exact Nat.le_add_right _ _
        · rw [z]; exact Nat.le_refl _
      exact I1.fpOk hle (I1.hok.fresh hle)
    rcases q1 with ⟨hq, q⟩ | ⟨hq, q⟩
    · obtain ⟨its, rv, p', hz⟩ := I1.list hq
      refine call_enumerate_list p'.isList fun h' he hit hsz hk => wpAny_pyIter_enum he ?_
      have I2 : Inv X pins σ H1 { s1 with heap := h' } := I1.kept (t' := s1.toks) hk
      exact ⟨s1.heap.objs.size + 1, [s1.heap.objs.size + 1, s1.heap.objs.size], _, _, H1, rfl, I2, turn_enum a (s1.heap.objs.size + 1) s1.heap.objs.size, ⟨⟨.none, he⟩, hit, Nat.succ_ne_self _⟩, fp, q⟩
    · obtain ⟨its, rv, p', hz⟩ := I1.tuple hq
      have hal : a < s1.heap.objs.size := p'.lt
      refine call_enumT p' fun h' he hit hsz hk => wpAny_pyIter_enum he ?_
      have I2 : Inv X pins σ H1 { s1 with heap := h' } := I1.kept (t' := s1.toks) hk
      exact ⟨s1.heap.objs.size + 1, [s1.heap.objs.size + 1, s1.heap.objs.size], _, _, H1, rfl, I2, turn_enumT a (s1.heap.objs.size + 1) s1.heap.objs.size (Nat.ne_of_lt hal) (Nat.ne_of_lt (Nat.lt_succ_of_lt hal)), ⟨⟨.none, he⟩, hit, Nat.succ_ne_self _⟩, fp, q⟩
def iSeqA (K : PySem.W.Frag) (tl : TE) : TI := fun σ H R => tl σ H fun x H1 => ∃ a xs, x = .ref a ∧ ((SqL K H1 a xs ∧ R (Itl K a) H1) ∨ (SqT K H1 a xs ∧ R (Itt K a) H1))
theorem pi_seqA {X : Cx} {tg l : Expr} {tl : TE} (hl : PE X l tl) : PI X tg l (iSeqA X.K tl) := by
  refine ⟨fun pins s σ H R I h => ?_⟩
  refine thn (hl.run pins s σ H _ I h) fun v s1 ⟨x, H1, I1, r1, q1⟩ => ?_
  obtain ⟨a, xs, e, q1⟩ := q1
  subst e
  cases r1
  have fp : ∀ b ∈ [s1.heap.objs.size], FpOk X pins H1 b := fun b hb => by
    have e : b = s1.heap.objs.size := by simpa using hb
    subst e
    exact I1.fpOk (Nat.le_refl _) (I1.hok.fresh (Nat.le_refl _))
  rcases q1 with ⟨hq, q⟩ | ⟨hq, q⟩
  · obtain ⟨its, rv, p, hz⟩ := I1.list hq
    refine wpAny_pyIter_list p.isList ?_
    exact ⟨s1.heap.objs.size, [s1.heap.objs.size], _, _, H1, rfl, I1.kept (t' := s1.toks) fun b o e => Heap.get?_push_of_some _ e, turn_list a _, ⟨_, Heap.get?_push_size _ rfl, rfl, rfl⟩, fp, q⟩
  · obtain ⟨its, rv, p, hz⟩ := I1.tuple hq
    refine wpAny_pyIter_tuple (show s1.heap.IsTuple a its.toArray from p) ?_
    exact ⟨s1.heap.objs.size, [s1.heap.objs.size], _, _, H1, rfl, I1.kept (t' := s1.toks) fun b o e => Heap.get?_push_of_some _ e, turn_tuple a _, ⟨_, Heap.get?_push_size _ rfl, rfl, rfl⟩, fp, q⟩
theorem walk_enumT {K : PySem.W.Frag} {a : Addr} {xs : List V} : Walk (IteT K a) xs.length (fun H => SqT K H a xs) (YPair (fun i => some (.int (i : Nat))) (fun i => xs[i]?)) := by
  refine ⟨fun i _ hi q => ⟨xs, xs[i], q, by simp [hi]⟩, fun _ q => ⟨xs, q, Nat.le_refl _⟩, fun i H v H' _ q y => ?_⟩
  obtain ⟨T, x, h1, h2, h3, h4⟩ := y
  exact ⟨T, .int (i : Nat), x, h1, h2, h3, rfl, h4 xs q⟩
theorem walk_zipT {K : PySem.W.Frag} {a b : Addr} {xs ys : List V} {n : Nat} (hn : n = min xs.length ys.length) : Walk (RZ.ItzT K a b) n (fun H => SqT K H a xs ∧ SqT K H b ys) (YPair (fun i => xs[i]?) (fun i => ys[i]?)) := by
  subst hn
  refine ⟨fun i _ hi q => ?_, fun _ q => ⟨xs, ys, q.1, q.2, by omega⟩, fun i H v H' _ q y => ?_⟩
  · have h1 : i < xs.length := by omega
    have h2 : i < ys.length := by omega
    exact ⟨xs, ys, xs[i], ys[i], q.1, q.2, by simp [h1], by simp [h2]⟩
  · obtain ⟨T, x, z, h1, h2, h3, h4, h5⟩ := y
    exact ⟨T, x, z, h1, h2, h3, h4 xs q.1, h5 ys q.2⟩
end Vf
namespace Vf
open PySem PySem.Spec PyProof.Rows L2

section
variable {K : PySem.W.Frag} {B B1 : Hp} {M : AP} {o : Nat → Addr} {τ : TA2} {Fz Fz1 : List (V × D)} {σ : L2.St} {s : S} {H : Hp}
noncomputable def pinB (B : Hp) (P : AP) (H : Hp) : Hp := open Classical in fun b => if P b then B b else match H b with
  | some u => some u
  | none => B b
theorem pinB_up {P : AP} (h : ∀ b u, B b = some u → ¬ TpA τ b → H b = some u) (hP : ∀ b, TpA τ b → P b) : ∀ b u, B b = some u → pinB B P H b = some u := fun b u e => by
  unfold pinB
  by_cases p : P b
  · rw [if_pos p]; exact e
  · rw [if_neg p, h b u e fun z => p (hP b z)]
theorem pinB_at {P : AP} {a : Addr} {u : HO} (n : ¬ P a) (h : H a = some u) : pinB B P H a = some u := by
  unfold pinB
  rw [if_neg n, h]
theorem RelS.pin (r : RelS K B M o τ Fz σ s H) : RelS K (pinB B (Prt M o τ s) H) M o τ Fz σ s H := by
  refine ⟨r.len, fun b u q n => ?_, r.fz, r.sh, fun i d w => ?_, r.inj, r.tp, r.mt⟩
  · unfold pinB at q
    split at q
    · exact r.keep b u q n
    · cases e : H b with
      | some x => rw [e] at q; exact q
      | none =>
        rw [e] at q
        have := r.keep b u q n
        rw [e] at this; cases this
  · obtain ⟨h1, h2, h3, h4, rest⟩ := r.ow i d w
    refine ⟨h1, h2, h3, ?_, rest⟩
    unfold pinB
    rw [if_pos (show Prt M o τ s (o i) from .inr (.inr ⟨i, d, w, rfl⟩))]
    exact h4
theorem RelS.pin_up (r : RelS K B M o τ Fz σ s H) : ∀ b u, B b = some u → pinB B (Prt M o τ s) H b = some u := pinB_up (τ := τ) r.keep fun b z => .inr (.inl z)
structure ItG (K : PySem.W.Frag) (τ : TA2) (B1 : Hp) (Fz1 : List (V × D)) (J : L2.It) (ds : List D) : Prop where
  ex : ∃ (G : Hp → Prop) (Y : Nat → Hp → V → Hp → Prop), Walk J ds.length G Y ∧ ∀ (B' : Hp) (M' : AP) (o : Nat → Addr) (σ : L2.St) (s : S) (H : Hp) (Fz' : List (V × D)), (∀ b u, B1 b = some u → B' b = some u) → (∀ p ∈ Fz1, p ∈ Fz') →
    RelS K B' M' o τ Fz' σ s H → G H ∧ ∀ i x H' d, ds[i]? = some d → Y i H x H' → RelS K B' M' o τ ((x, d) :: Fz') σ s H'
def tvI (K : PySem.W.Frag) (ca : Nat → Addr) (W : WX) (m : Vf.M (List D)) : TI := fun σ H R => ∃ B M o τ Fz s, RelS K B M o τ Fz σ s H ∧ WPm m s (fun ds s' => ∀ J H' B1 Fz1, (∀ b u, B b = some u → B1 b = some u) → (∀ p ∈ Fz, p ∈ Fz1) → RelS K B1 M o τ Fz1 σ s' H' → ItG K τ B1 Fz1 J ds → R J H') (EX K ca W B M o τ Fz σ)
abbrev JI (X : Cx) (ca : Nat → Addr) (W : WX) (tg it : Expr) (m : Vf.M (List D)) : Prop := PI X tg it (tvI X.K ca W m)
theorem RepAll.at_ {P : AP} {v : List V} {d : List D} (h : RepAll K P τ H v d) {i : Nat} {x : V} {e : D} (hx : v[i]? = some x) (he : d[i]? = some e) : Rep K P τ H x e := by
  obtain ⟨u, h1, h2⟩ := h.get he
  rw [hx] at h1; cases h1; exact h2
theorem itg_list {a : Addr} {xs : List V} {ds : List D} (r : RelS K B M o τ Fz σ s H) (hm : (.ref a, D.lst ds) ∈ Fz) (hx : H a = some (.lst xs)) : ItG K τ (pinB B (Prt M o τ s) H) Fz (Itl K a) ds := by
  have rep := r.fz _ hm
  cases rep with
  | lst q ra =>
    obtain ⟨np, e⟩ := q
    rw [hx] at e
    have e := HO.lst.inj (Option.some.inj e)
    subst e
    have nt : ¬ TpA τ a := fun z => np (.inr (.inl z))
    refine ⟨fun H => SqL K H a xs, YAt xs, by rw [← ra.len]; exact walk_list, fun B' M' o' σ' s' H' Fz' hB hF r' => ?_⟩
    have ha : H' a = some (.lst xs) := r'.keep a _ (hB a _ (pinB_at np hx)) nt
    refine ⟨.of ha, fun i x H2 d hd y => ?_⟩
    obtain ⟨rfl, hx'⟩ := y
    have rep' := r'.fz _ (hF _ hm)
    cases rep' with
    | lst q' ra' =>
      have e := q'.2
      rw [ha] at e
      have e := HO.lst.inj (Option.some.inj e)
      subst e
      exact r'.more1 (ra'.at_ hx' hd)
def TupAt (K : PySem.W.Frag) (P : AP) (H : Hp) (a : Addr) (xs : List V) : D → Prop
  | .tup _ => ¬ P a ∧ H a = some (.tup xs)
  | .ktup _ => KTu K a xs
  | _ => False
theorem tup_same {P : AP} {v : V} {d : D} {ds : List D} (ht : tupOf d = some ds) (h : Rep K P τ H v d) : ∃ a xs, v = .ref a ∧ SqT K H a xs ∧ RepAll K P τ H xs ds ∧ TupAt K P H a xs d := by
  cases h with
  | tup q ra => cases ht; exact ⟨_, _, rfl, .of q.2, ra, q⟩
  | ktup q ra => cases ht; exact ⟨_, _, rfl, .inr q, ra, q⟩
  | _ => cases ht
theorem ktu_inj {a : Addr} {xs ys : List V} (h : KTu K a xs) (h' : KTu K a ys) : xs = ys := by
  obtain ⟨o, its, n, h1, _, h2, _, h3⟩ := h
  obtain ⟨o', its', n', g1, _, g2, _, g3⟩ := h'
  rw [h1] at g1; cases g1
  rw [h2] at g2
  injection g2 with e1 e2
  subst e1
  exact h3.inj g3
theorem tup_keep {a : Addr} {d : D} {ds : List D} {xs : List V} (ht : tupOf d = some ds) (r : RelS K B M o τ Fz σ s H) (q : TupAt K (Prt M o τ s) H a xs d) {B' : Hp} {M' : AP} {o' : Nat → Addr} {σ' : L2.St} {s' : S} {H' : Hp} {Fz' : List (V × D)}
    (hB : ∀ b u, pinB B (Prt M o τ s) H b = some u → B' b = some u) (r' : RelS K B' M' o' τ Fz' σ' s' H') (hm : (.ref a, d) ∈ Fz') : SqT K H' a xs ∧ RepAll K (Prt M' o' τ s') τ H' xs ds := by
  have rep := r'.fz _ hm
  cases d with
  | tup es =>
    obtain ⟨np, e⟩ := q
    have nt : ¬ TpA τ a := fun z => np (.inr (.inl z))
    have ha : H' a = some (.tup xs) := r'.keep a _ (hB a _ (pinB_at np e)) nt
    cases ht
    refine ⟨.of ha, ?_⟩
    cases rep with
    | tup q ra =>
      have e := q.2
      rw [ha] at e
      have e := HO.tup.inj (Option.some.inj e)
      subst e; exact ra
  | ktup es =>
    cases ht
    refine ⟨.inr q, ?_⟩
    cases rep with
    | ktup q' ra => rw [ktu_inj q q']; exact ra
  | _ => cases ht
theorem lst_keep {a : Addr} {ds : List D} {xs : List V} (r : RelS K B M o τ Fz σ s H) (np : ¬ Prt M o τ s a) (hx : H a = some (.lst xs)) {B' : Hp} {M' : AP} {o' : Nat → Addr} {σ' : L2.St} {s' : S} {H' : Hp} {Fz' : List (V × D)}
    (hB : ∀ b u, pinB B (Prt M o τ s) H b = some u → B' b = some u) (r' : RelS K B' M' o' τ Fz' σ' s' H') (hm : (.ref a, D.lst ds) ∈ Fz') : SqL K H' a xs ∧ RepAll K (Prt M' o' τ s') τ H' xs ds := by
  have rep := r'.fz _ hm
  have nt : ¬ TpA τ a := fun z => np (.inr (.inl z))
  have ha : H' a = some (.lst xs) := r'.keep a _ (hB a _ (pinB_at np hx)) nt
  refine ⟨.of ha, ?_⟩
  cases rep with
  | lst q ra =>
    have e := q.2
    rw [ha] at e
    have e := HO.lst.inj (Option.some.inj e)
    subst e; exact ra
theorem pair_new {x1 x2 : V} {d1 d2 : D} {T : Addr} (r : RelS K B M o τ Fz σ s H) (hT : H T = none) (h1 : Rep K (Prt M o τ s) τ H x1 d1) (h2 : Rep K (Prt M o τ s) τ H x2 d2) : RelS K B M o τ ((.ref T, .tup [d1, d2]) :: Fz) σ s (upd H T (.tup [x1, x2])) :=
  r.new hT fun P H' mo e n => .tup ⟨n, e⟩ (.cons (h1.mo mo) (.cons (h2.mo mo) .nil))
theorem enumD_len : ∀ (n : Nat) (ds : List D), (enumD n ds).length = ds.length
  | _, [] => rfl
  | n, d :: ds => by simp [enumD, enumD_len (n + 1) ds]
theorem enumD_get : ∀ (n : Nat) (ds : List D) (i : Nat) (d : D), (enumD n ds)[i]? = some d → ∃ e, ds[i]? = some e ∧ d = .tup [.int ((n + i : Nat) : Int), e]
  | _, [], i, d, h => by simp [enumD] at h
  | n, x :: ds, 0, d, h => by simp [enumD] at h; exact ⟨x, rfl, h.symm⟩
  | n, x :: ds, i + 1, d, h => by
    have h' : (enumD (n + 1) ds)[i]? = some d := by simpa [enumD] using h
    obtain ⟨e, h1, h2⟩ := enumD_get (n + 1) ds i d h'
    exact ⟨e, by simpa using h1, by rw [h2, show n + 1 + i = n + (i + 1) by omega]⟩
theorem zip_get {xs ys : List D} {i : Nat} {d : D} (h : (List.zipWith pairD xs ys)[i]? = some d) : ∃ x y, xs[i]? = some x ∧ ys[i]? = some y ∧ d = .tup [x, y] := by
  rw [List.getElem?_zipWith] at h
  split at h
  · rename_i x y h1 h2
    cases h
    exact ⟨x, y, h1, h2, rfl⟩
  · cases h
theorem rangeD_len (i j : Int) : (rangeD i j).length = (j - i).toNat := by simp [rangeD]
theorem rangeD_get {i j : Int} {n : Nat} {d : D} (h : (rangeD i j)[n]? = some d) : d = .int (i + n) := by
  unfold rangeD at h
  rw [List.getElem?_map] at h
  cases q : (List.range (j - i).toNat)[n]? with
  | none => rw [q] at h; cases h
  | some k =>
    rw [q] at h
    cases h
    have := List.getElem?_range (n := (j - i).toNat) (i := n) (by
      have := (List.getElem?_eq_some_iff.mp q).1
      simpa using this)
    rw [this] at q
    cases q; rfl
end
section
variable {X : Cx} {W : WX} {F : FT} {ca : Nat → Addr} {tg : Expr}
theorem ji_ex {a : Expr} {e : Ex} (h : JE X ca W a (evE F e)) : JI X ca W tg a (evIt F (.ex e)) := by
  refine ⟨fun pins s σ H R I q => (pi_seqA (tg := tg) h).run pins s σ H R I ?_⟩
  obtain ⟨B, M, o, τ, Fz, s, r, q⟩ := q
  unfold evIt at q
  refine ⟨B, M, o, τ, Fz, s, r, q.bnd_.mono (fun x s' q v H' rt => ?_) fun _ _ z => z⟩
  have rt := rt.one
  unfold WPm at q
  cases e1 : seqOf x.1 with
  | none => rw [e1] at q; exact q.elim
  | some ds =>
    rw [e1] at q
    have hm : (v, x.1) ∈ (v, x.1) :: Fz := List.mem_cons_self
    have rep := rt.fz _ hm
    have key := fun (J : L2.It) => q J H' (pinB B (Prt M o τ s') H') ((v, x.1) :: Fz) rt.pin_up (fun p hp => List.mem_cons_of_mem _ hp) rt.pin
    obtain ⟨d, fr⟩ := x
    cases d with
    | lst es =>
      cases e1
      cases rep with
      | @lst a xs _ q1 ra =>
        refine ⟨a, xs, rfl, .inl ⟨.of q1.2, key (Itl X.K a) ⟨fun H => SqL X.K H a xs, YAt xs, by rw [← ra.len]; exact walk_list, fun B' M' o' σ' s2 H2 Fz' hB hF r' => ?_⟩⟩⟩
        obtain ⟨g1, g2⟩ := lst_keep rt q1.1 q1.2 hB r' (hF _ hm)
        exact ⟨g1, fun i y H3 d hd z => by obtain ⟨rfl, hx⟩ := z; exact r'.more1 (g2.at_ hx hd)⟩
    | tup es =>
      obtain ⟨a, xs, e0, h1, ra, ta⟩ := tup_same (ds := es) rfl rep
      subst e0
      cases e1
      refine ⟨a, xs, rfl, .inr ⟨h1, key (Itt X.K a) ⟨fun H => SqT X.K H a xs, YAt xs, by rw [← ra.len]; exact walk_tup, fun B' M' o' σ' s2 H2 Fz' hB hF r' => ?_⟩⟩⟩
      obtain ⟨g1, g2⟩ := tup_keep rfl rt ta hB r' (hF _ hm)
      exact ⟨g1, fun i y H3 d hd z => by obtain ⟨rfl, hx⟩ := z; exact r'.more1 (g2.at_ hx hd)⟩
    | ktup es =>
      obtain ⟨a, xs, e0, h1, ra, ta⟩ := tup_same (ds := es) rfl rep
      subst e0
      cases e1
      refine ⟨a, xs, rfl, .inr ⟨h1, key (Itt X.K a) ⟨fun H => SqT X.K H a xs, YAt xs, by rw [← ra.len]; exact walk_tup, fun B' M' o' σ' s2 H2 Fz' hB hF r' => ?_⟩⟩⟩
      obtain ⟨g1, g2⟩ := tup_keep rfl rt ta hB r' (hF _ hm)
      exact ⟨g1, fun i y H3 d hd z => by obtain ⟨rfl, hx⟩ := z; exact r'.more1 (g2.at_ hx hd)⟩
    | _ => cases e1
theorem itg_range {τ : TA2} {B : Hp} {Fz : List (V × D)} (i j : Int) : ItG X.K τ B Fz (Itr i (j - i).toNat) (rangeD i j) := by
  refine ⟨fun _ => True, YFn fun n => .int (i + n), by rw [rangeD_len]; exact walk_range, fun B' M' o' σ' s2 H2 Fz' hB hF r' => ⟨trivial, fun n y H3 d hd z => ?_⟩⟩
  obtain ⟨rfl, rfl⟩ := z
  rw [rangeD_get hd]
  exact r'.more1 (.int _)
theorem ji_rng1 {a : Expr} {e : Ex} {p pos : Pos} (hg : L2.Gl X "range") (hm : X.mg "range" = none) (h : JE X ca W a (evE F e)) (hn : nst a = true) : JI X ca W tg (.Call (.Name "range" p) [a] [] pos) (evIt F (.rng1 e)) := by
  refine ⟨fun pins s σ H R I q => (pi_range1 (tg := tg) hg hm (pa_cons h pa_nil (star_cons hn)) (star_cons hn)).run pins s σ H R I ?_⟩
  obtain ⟨B, M, o, τ, Fz, s, r, q⟩ := q
  unfold evIt at q
  refine ⟨B, M, o, τ, Fz, s, r, q.bnd_.mono (fun x s' q v H' rt => ?_) fun _ _ z => z⟩
  have rt := rt.one
  have rep := rt.fz (v, x.1) List.mem_cons_self
  obtain ⟨d, fr⟩ := x
  cases d with
  | int j =>
    have e : v = V.int j := by cases rep; rfl
    subst e
    have q : WPm (if bigOk j = true then ret (rangeD 0 j) else stk) s' _ _ := q
    split at q
    · rename_i hb
      simp only [bigOk, Bool.and_eq_true, decide_eq_true_eq] at hb
      have q := WPm.ret_ q (Itr 0 j.toNat) H' (pinB B (Prt M o τ s') H') ((.int j, .int j) :: Fz) rt.pin_up (fun p hp => List.mem_cons_of_mem _ hp) rt.pin
      refine ⟨j, rfl, hb.1, hb.2, q ?_⟩
      have := itg_range (X := X) (τ := τ) (B := pinB B (Prt M o τ s') H') (Fz := (.int j, .int j) :: Fz) 0 j
      simpa using this
    · exact WPm.stk_ q
  | _ => exact WPm.stk_ q
theorem bnd_ret {α β : Type} {a : α} {f : α → Vf.M β} : bnd (ret a) f = f a := rfl
theorem evEs_two {a b : Ex} {α : Type} (k : D × Bool → D × Bool → Vf.M α) (k' : List (D × Bool) → Vf.M α) (hk : ∀ d e, k' [d, e] = k d e) : (bnd (evE F a) fun d => bnd (evE F b) fun e => k d e) = bnd (evEs F (.cons a (.cons b .nil))) k' := by
  simp only [evEs, wpm_assoc, bnd_ret, hk]
theorem wp_two {a b : Ex} {α : Type} {k : D × Bool → D × Bool → Vf.M α} {s : S} {ok : α → S → Prop} {ex : Nat → S → Prop} (k' : List (D × Bool) → Vf.M α) (hk : ∀ d e, k' [d, e] = k d e) (h : WPm (bnd (evE F a) fun d => bnd (evE F b) fun e => k d e) s ok ex) : WPm (bnd (evEs F (.cons a (.cons b .nil))) k') s ok ex := by
  rw [← evEs_two k k' hk]; exact h
theorem ji_rng2 {a b : Expr} {e f : Ex} {p pos : Pos} (hg : L2.Gl X "range") (hm : X.mg "range" = none) (h : JE X ca W a (evE F e)) (h2 : JE X ca W b (evE F f)) (hn : nst a = true) (hn2 : nst b = true) : JI X ca W tg (.Call (.Name "range" p) [a, b] [] pos) (evIt F (.rng2 e f)) := by
  have hA : PA X [a, b] (tvEs X.K ca W (evEs F (.cons e (.cons f .nil)))) := ja_cons h (ja_cons h2 ja_nil hn2) hn
  refine ⟨fun pins s σ H R I q => (pi_range2 (tg := tg) hg hm hA (by rw [star_cons hn, star_cons hn2]; rfl) (by rw [star_cons hn2]; rfl)).run pins s σ H R I ?_⟩
  obtain ⟨B, M, o, τ, Fz, s, r, q⟩ := q
  unfold evIt at q
  have q := wp_two (F := F) (a := e) (b := f) (fun xs => match xs with
    | [d, e] => (match d.1, e.1 with
      | .int i, .int j => if bigOk i && bigOk j then ret (rangeD i j) else stk
      | _, _ => stk)
    | _ => stk) (fun d e => rfl) q
  refine ⟨B, M, o, τ, Fz, s, r, q.bnd_.mono (fun xs s' q vs H' hl rt => ?_) fun _ _ z => z⟩
  have r1 := rt.plain
  rw [zipT_map hl] at r1
  split at q
  · rename_i d e
    split at q
    · rename_i i j h1 h2
      split at q
      · rename_i hb
        simp only [bigOk, Bool.and_eq_true, decide_eq_true_eq] at hb
        obtain ⟨v1, v2, rfl⟩ : ∃ v1 v2, vs = [v1, v2] := by
          match vs, hl with
          | [v1, v2], _ => exact ⟨v1, v2, rfl⟩
        have rp1 := r1.fz (v1, d.1) (by simp)
        have rp2 := r1.fz (v2, e.1) (by simp)
        rw [h1] at rp1
        rw [h2] at rp2
        have e1 : v1 = V.int i := by cases rp1; rfl
        have e2 : v2 = V.int j := by cases rp2; rfl
        subst e1 e2
        have q := WPm.ret_ q (Itr i (j - i).toNat) H' (pinB B (Prt M o τ s') H') _ r1.pin_up (fun p hp => List.mem_append_right _ hp) r1.pin (itg_range i j)
        exact ⟨i, j, rfl, ⟨hb.1.1, hb.1.2, hb.2.1, hb.2.2⟩, q⟩
      · exact WPm.stk_ q
    · exact WPm.stk_ q
  · exact WPm.stk_ q
theorem two_vs {vs : List V} {d e : D × Bool} (hl : vs.length = [d, e].length) : ∃ v1 v2, vs = [v1, v2] := by
  match vs, hl with
  | [v1, v2], _ => exact ⟨v1, v2, rfl⟩
theorem opt_some {α : Type} {a : α} {o : Option α} {s : S} {ok : α → S → Prop} {ex : Nat → S → Prop} (h : WPm (opt o) s ok ex) : ∃ a, o = some a ∧ ok a s := by
  cases o with
  | none => exact False.elim h
  | some a => exact ⟨a, rfl, h⟩
theorem ji_enm {a : Expr} {elts : List Expr} {kk : Nat} {tpos : Pos} {e : Ex} {p pos : Pos} (hg : L2.Gl X "enumerate") (hm : X.mg "enumerate" = none) (h : JE X ca W a (evE F e)) (hn : nst a = true) : JI X ca W (.Tuple elts kk tpos) (.Call (.Name "enumerate" p) [a] [] pos) (evIt F (.enm e)) := by
  refine ⟨fun pins s σ H R I q => (pi_enumA (elts := elts) (kk := kk) (tpos := tpos) hg hm (pa_cons h pa_nil (star_cons hn)) (star_cons hn)).run pins s σ H R I ?_⟩
  obtain ⟨B, M, o, τ, Fz, s, r, q⟩ := q
  unfold evIt at q
  refine ⟨B, M, o, τ, Fz, s, r, q.bnd_.mono (fun x s' q v H' rt => ?_) fun _ _ z => z⟩
  have rt := rt.one
  cases e1 : seqOf x.1 with
  | none => simp only [e1] at q; exact WPm.stk_ q
  | some ds =>
    simp only [e1] at q
    have hm : (v, x.1) ∈ (v, x.1) :: Fz := List.mem_cons_self
    have rep := rt.fz _ hm
    have key := fun (J : L2.It) => WPm.ret_ q J H' (pinB B (Prt M o τ s') H') ((v, x.1) :: Fz) rt.pin_up (fun p hp => List.mem_cons_of_mem _ hp) rt.pin
    have fin : ∀ {xs : List V} {B' : Hp} {M' : AP} {o' : Nat → Addr} {σ' : L2.St} {s2 : S} {H2 : Hp} {Fz' : List (V × D)}, RelS X.K B' M' o' τ Fz' σ' s2 H2 → RepAll X.K (Prt M' o' τ s2) τ H2 xs ds → ∀ i y H3 d, (enumD 0 ds)[i]? = some d →
        YPair (fun i => some (.int (i : Nat))) (fun i => xs[i]?) i H2 y H3 → RelS X.K B' M' o' τ ((y, d) :: Fz') σ' s2 H3 := fun {xs B' M' o' σ' s2 H2 Fz'} r' ra i y H3 d hd ⟨T, x1, x2, g1, g2, g3, g4, g5⟩ => by
      subst g1 g3
      cases g4
      obtain ⟨e, k1, rfl⟩ := enumD_get 0 ds i d hd
      rw [Nat.zero_add]
      exact pair_new r' g2 (.int _) (ra.at_ g5 k1)
    obtain ⟨d, fr⟩ := x
    cases d with
    | lst es =>
      cases e1
      cases rep with
      | @lst a xs _ q1 ra =>
        refine ⟨a, xs, rfl, .inl ⟨.of q1.2, key (Ite X.K a) ⟨fun H => SqL X.K H a xs, _, by rw [enumD_len, ← ra.len]; exact walk_enum, fun B' M' o' σ' s2 H2 Fz' hB hF r' => ?_⟩⟩⟩
        obtain ⟨g1, g2⟩ := lst_keep rt q1.1 q1.2 hB r' (hF _ hm)
        exact ⟨g1, fin r' g2⟩
    | tup es =>
      obtain ⟨a, xs, e0, h1, ra, ta⟩ := tup_same (ds := es) rfl rep
      subst e0
      cases e1
      refine ⟨a, xs, rfl, .inr ⟨h1, key (IteT X.K a) ⟨fun H => SqT X.K H a xs, _, by rw [enumD_len, ← ra.len]; exact walk_enumT, fun B' M' o' σ' s2 H2 Fz' hB hF r' => ?_⟩⟩⟩
      obtain ⟨g1, g2⟩ := tup_keep rfl rt ta hB r' (hF _ hm)
      exact ⟨g1, fin r' g2⟩
    | ktup es =>
      obtain ⟨a, xs, e0, h1, ra, ta⟩ := tup_same (ds := es) rfl rep
      subst e0
      cases e1
      refine ⟨a, xs, rfl, .inr ⟨h1, key (IteT X.K a) ⟨fun H => SqT X.K H a xs, _, by rw [enumD_len, ← ra.len]; exact walk_enumT, fun B' M' o' σ' s2 H2 Fz' hB hF r' => ?_⟩⟩⟩
      obtain ⟨g1, g2⟩ := tup_keep rfl rt ta hB r' (hF _ hm)
      exact ⟨g1, fin r' g2⟩
    | _ => cases e1
theorem zipD_cases {d e : D} {ds : List D} (h : zipD d e = some ds) : (∃ xs ys, d = .lst xs ∧ e = .lst ys ∧ ds = List.zipWith pairD xs ys) ∨ ∃ xs ys, tupOf d = some xs ∧ tupOf e = some ys ∧ ds = List.zipWith pairD xs ys := by
  unfold zipD at h
  split at h
  · cases h; exact .inl ⟨_, _, rfl, rfl, rfl⟩
  · cases h1 : tupOf d with
    | none => rw [h1] at h; cases h
    | some xs =>
      rw [h1] at h
      cases h2 : tupOf e with
      | none => rw [h2] at h; cases h
      | some ys => rw [h2] at h; cases h; exact .inr ⟨xs, ys, rfl, rfl, rfl⟩
theorem ji_zip {a b : Expr} {elts : List Expr} {kk : Nat} {tpos : Pos} {e f : Ex} {p pos : Pos} (hg : L2.Gl X "zip") (hm : X.mg "zip" = none) (h : JE X ca W a (evE F e)) (h2 : JE X ca W b (evE F f)) (hn : nst a = true) (hn2 : nst b = true) : JI X ca W (.Tuple elts kk tpos) (.Call (.Name "zip" p) [a, b] [] pos) (evIt F (.zip e f)) := by
  have hA : PA X [a, b] (tvEs X.K ca W (evEs F (.cons e (.cons f .nil)))) := ja_cons h (ja_cons h2 ja_nil hn2) hn
  refine ⟨fun pins s σ H R I q => (RZ.pi_zipA (elts := elts) (kk := kk) (tpos := tpos) hg hm hA (star_cons hn) (star_any (by simp [nstAll, hn2]))).run pins s σ H R I ?_⟩
  obtain ⟨B, M, o, τ, Fz, s, r, q⟩ := q
  unfold evIt at q
  have q := wp_two (F := F) (a := e) (b := f) (fun xs => match xs with
    | [d, e] => opt (zipD d.1 e.1)
    | _ => stk) (fun d e => rfl) q
  refine ⟨B, M, o, τ, Fz, s, r, q.bnd_.mono (fun xs s' q vs H' hl rt => ?_) fun _ _ z => z⟩
  have r1 := rt.plain
  rw [zipT_map hl] at r1
  split at q
  · rename_i d e
    obtain ⟨ds, hz, q⟩ := opt_some (a := []) q
    obtain ⟨v1, v2, rfl⟩ := two_vs hl
    have hm1 : (v1, d.1) ∈ ([v1, v2].zip ([d, e].map fun x => x.1) ++ Fz) := by simp
    have hm2 : (v2, e.1) ∈ ([v1, v2].zip ([d, e].map fun x => x.1) ++ Fz) := by simp
    have rp1 := r1.fz _ hm1
    have rp2 := r1.fz _ hm2
    have key := fun (J : L2.It) => q J H' (pinB B (Prt M o τ s') H') _ r1.pin_up (fun p hp => List.mem_append_right _ hp) r1.pin
    have fin : ∀ {xs ys : List V} {d1 d2 : List D} {B' : Hp} {M' : AP} {o' : Nat → Addr} {σ' : L2.St} {s2 : S} {H2 : Hp} {Fz' : List (V × D)}, RelS X.K B' M' o' τ Fz' σ' s2 H2 → RepAll X.K (Prt M' o' τ s2) τ H2 xs d1 → RepAll X.K (Prt M' o' τ s2) τ H2 ys d2 → ∀ i y H3 d, (List.zipWith pairD d1 d2)[i]? = some d →
        YPair (fun i => xs[i]?) (fun i => ys[i]?) i H2 y H3 → RelS X.K B' M' o' τ ((y, d) :: Fz') σ' s2 H3 := fun {xs ys d1 d2 B' M' o' σ' s2 H2 Fz'} r' ra rb i y H3 d hd ⟨T, x1, x2, g1, g2, g3, g4, g5⟩ => by
      subst g1 g3
      obtain ⟨z1, z2, k1, k2, rfl⟩ := zip_get hd
      exact pair_new r' g2 (ra.at_ g4 k1) (rb.at_ g5 k2)
    have lenz : ∀ {xs ys : List V} {d1 d2 : List D}, xs.length = d1.length → ys.length = d2.length → (List.zipWith pairD d1 d2).length = min xs.length ys.length := fun h1 h2 => by rw [List.length_zipWith, h1, h2]
    rcases zipD_cases hz with ⟨d1, d2, k1, k2, rfl⟩ | ⟨d1, d2, k1, k2, rfl⟩
    · rw [k1] at rp1 hm1
      rw [k2] at rp2 hm2
      cases rp1 with
      | @lst a1 xs _ q1 ra =>
        cases rp2 with
        | @lst a2 ys _ q2 rb =>
          refine ⟨a1, a2, xs, ys, rfl, .inl ⟨.of q1.2, .of q2.2, key (Itz X.K a1 a2) ⟨fun H => SqL X.K H a1 xs ∧ SqL X.K H a2 ys, _, walk_zip (lenz ra.len rb.len), fun B' M' o' σ' s2 H2 Fz' hB hF r' => ?_⟩⟩⟩
          obtain ⟨g1, g2⟩ := lst_keep r1 q1.1 q1.2 hB r' (hF _ hm1)
          obtain ⟨g3, g4⟩ := lst_keep r1 q2.1 q2.2 hB r' (hF _ hm2)
          exact ⟨⟨g1, g3⟩, fin r' g2 g4⟩
    · obtain ⟨a1, xs, e0, h1, ra, ta⟩ := tup_same k1 rp1
      obtain ⟨a2, ys, e2, h2, rb, tb⟩ := tup_same k2 rp2
      subst e0 e2
      refine ⟨a1, a2, xs, ys, rfl, .inr ⟨h1, h2, key (RZ.ItzT X.K a1 a2) ⟨fun H => SqT X.K H a1 xs ∧ SqT X.K H a2 ys, _, walk_zipT (lenz ra.len rb.len), fun B' M' o' σ' s2 H2 Fz' hB hF r' => ?_⟩⟩⟩
      obtain ⟨g1, g2⟩ := tup_keep k1 r1 ta hB r' (hF _ hm1)
      obtain ⟨g3, g4⟩ := tup_keep k2 r1 tb hB r' (hF _ hm2)
      exact ⟨⟨g1, g3⟩, fin r' g2 g4⟩
  · exact WPm.stk_ q
end
end Vf
namespace Vf
open PySem PySem.Spec PyProof.Rows L2

section
variable {K : PySem.W.Frag} {B B1 : Hp} {M : AP} {o : Nat → Addr} {τ : TA2} {Fz Fz1 : List (V × D)} {σ σ' : L2.St} {s s' : S} {H : Hp}
def gNs : List Nat → TGs
  | [] => gNil
  | i :: is => gCons (gName i) (gNs is)
def gTg (K : PySem.W.Frag) : List Nat → TG
  | [i] => gName i
  | is => gTup K is.length (gNs is)
def Off (tg : List Nat) (σ σ' : L2.St) : Prop := σ'.length = σ.length ∧ ∀ j, j ∉ tg → σ'[j]? = σ[j]?
theorem setP_ok : ∀ {is : List Nat} {xs : List V} {ds : List D} {σ : L2.St} {s : S}, RelS K B M o τ Fz σ s H → (∀ p ∈ xs.zip ds, p ∈ Fz) → xs.length = is.length → ds.length = is.length → ∀ {Q : L2.St → Hp → Prop},
    (∀ σ', RelS K B M o τ Fz σ' (setP is ds s) H → Off is σ σ' → Q σ' H) → gNs is xs σ H Q
  | [], [], [], σ, s, r, _, _, _, Q, h => ⟨rfl, h σ r ⟨rfl, fun _ _ => rfl⟩⟩
  | [], _ :: _, _, _, _, _, _, h, _, _, _ => by simp at h
  | [], [], _ :: _, _, _, _, _, _, h, _, _ => by simp at h
  | _ :: _, [], _, _, _, _, _, h, _, _, _ => by simp at h
  | _ :: _, _ :: _, [], _, _, _, _, _, h, _, _ => by simp at h
  | i :: is, x :: xs, d :: ds, σ, s, r, hF, h1, h2, Q, h => by
    refine ⟨x, xs, rfl, ?_⟩
    have r1 : RelS K B M o τ Fz (σ.set i (some x)) (setS s i (some (false, d))) H := ((r.more1 (r.fz _ (hF (x, d) (by simp)))).store (i := i)).drop fun p hp => List.mem_cons_of_mem _ hp
    refine setP_ok r1 (fun p hp => hF p (by simp [hp])) (by simpa using h1) (by simpa using h2) fun σ' r' off => h σ' r' ⟨by rw [off.1, List.length_set], fun j hj => ?_⟩
    have hj' : j ≠ i ∧ j ∉ is := by simpa using hj
    rw [off.2 j hj'.2, List.getElem?_set_ne (Ne.symm hj'.1)]
theorem bind_ok {tg : List Nat} {v : V} {d : D} (r : RelS K B M o τ Fz σ s H) (hm : (v, d) ∈ Fz) {ok : Unit → S → Prop} {ex : Nat → S → Prop} (h : WPm (bindT tg d) s ok ex) {Q : L2.St → Hp → Prop}
    (q : ∀ σ' s', ok () s' → RelS K B M o τ Fz σ' s' H → Off tg σ σ' → Q σ' H) : gTg K tg v σ H Q := by
  have multi : ∀ is : List Nat, WPm (bindTup is d) s ok ex → (∀ σ' s', ok () s' → RelS K B M o τ Fz σ' s' H → Off is σ σ' → Q σ' H) → gTup K is.length (gNs is) v σ H Q := fun is h q => by
    unfold WPm bindTup at h
    cases e : tupOf d with
    | none => rw [e] at h; exact h.elim
    | some ds =>
      rw [e] at h
      by_cases hl : is.length = ds.length
      · simp only [if_pos hl] at h
        obtain ⟨a, xs, e0, h1, ra, _⟩ := tup_same e (r.fz _ hm)
        have r2 := r.more ra.fz
        refine ⟨a, xs, e0, h1, by rw [ra.len, hl], ?_⟩
        refine setP_ok r2 (fun p hp => List.mem_append_left _ hp) (by rw [ra.len, hl]) hl.symm fun σ' r' off => q σ' _ h (r'.drop fun p hp => List.mem_append_right _ hp) off
      · simp only [if_neg hl] at h
  cases tg with
  | nil => exact multi [] h q
  | cons i is =>
    cases is with
    | nil =>
      have r1 : RelS K B M o τ Fz (σ.set i (some v)) (setS s i (some (false, d))) H := ((r.more1 (r.fz _ hm)).store (i := i)).drop fun p hp => List.mem_cons_of_mem _ hp
      exact q _ _ h r1 ⟨by rw [List.length_set], fun j hj => by rw [List.getElem?_set_ne (Ne.symm (by simpa using hj))]⟩
    | cons j js => exact multi (i :: j :: js) h q
theorem RelS.slots (r : RelS K B M o τ Fz σ s H) (hl : σ'.length = s'.ρ.length) (hT : s'.T = s.T) (h : ∀ i x, lk s' i = some x → lk s i = some x ∧ σ'[i]? = σ[i]?) : RelS K B M o τ Fz σ' s' H := by
  have ho : ∀ {i d}, Own s' i d → Own s i d := fun {i d} w => (h i _ w).1
  have hp : ∀ b, Prt M o τ s' b → Prt M o τ s b := fun b z => z.imp id fun z => z.imp id fun ⟨i, d, w, e⟩ => ⟨i, d, ho w, e⟩
  have mo := Mo.same (H := H) hp
  refine ⟨hl, r.keep, fun p q => (r.fz p q).mo mo, fun i d w => ?_, fun i d w => ?_, fun i j d e w1 w2 => r.inj i j d e (ho w1) (ho w2), ⟨r.tp.no, by rw [hT]; exact r.tp.at_⟩, r.mt⟩
  · obtain ⟨h1, h2⟩ := h i _ w
    obtain ⟨v, g1, g2⟩ := r.sh i d h1
    exact ⟨v, by rw [h2]; exact g1, g2.mo mo⟩
  · obtain ⟨h1, h2⟩ := h i _ w
    obtain ⟨g1, g2, g3, g4, u, cs, g5, g6, g7⟩ := r.ow i d h1
    exact ⟨by rw [h2]; exact g1, g2, g3, g4, u, cs, g5, g6, fun p q => (g7 p q).mo mo⟩
theorem fold_set_len {α : Type} (f : Nat → α) : ∀ (own : List Nat) (ρ : List α), (own.foldl (fun ρ i => ρ.set i (f i)) ρ).length = ρ.length
  | [], _ => rfl
  | j :: own, ρ => by rw [List.foldl_cons, fold_set_len f own, List.length_set]
theorem fold_set_get {α : Type} (f : Nat → α) : ∀ (own : List Nat) (ρ : List α) (i : Nat), (own.foldl (fun ρ i => ρ.set i (f i)) ρ)[i]? = if i ∈ own ∧ i < ρ.length then some (f i) else ρ[i]?
  | [], ρ, i => by simp
  | j :: own, ρ, i => by
    rw [List.foldl_cons, fold_set_get f own, List.length_set]
    by_cases h : i ∈ own
    · by_cases hl : i < ρ.length
      · simp [h, hl]
      · simp [h, hl]
    · by_cases e : i = j
      · subst e
        by_cases hl : i < ρ.length
        · simp [h, hl]
        · simp [h, hl]
      · simp [h, e, List.getElem?_set_ne (Ne.symm e)]
theorem wipeS_lk {own : List Nat} {i : Nat} : lk (wipeS own s) i = if i ∈ own then none else lk s i := by
  unfold lk wipeS
  simp only
  rw [fold_set_get (fun _ => none)]
  by_cases h : i ∈ own
  · by_cases hl : i < s.ρ.length
    · simp [h, hl]
    · simp [h, hl]
  · simp [h]
theorem backS_lk {own : List Nat} {s0 : S} {i : Nat} (hl : s.ρ.length = s0.ρ.length) : lk (backS own s0 s) i = if i ∈ own then lk s0 i else lk s i := by
  unfold lk backS
  simp only
  rw [fold_set_get (fun i => (s0.ρ[i]?).join)]
  by_cases h : i ∈ own
  · by_cases hi : i < s.ρ.length
    · simp [h, hi]
    · have : s0.ρ[i]? = none := List.getElem?_eq_none (by omega)
      simp [h, hi, this]
  · simp [h]
theorem wipeS_len {own : List Nat} : (wipeS own s).ρ.length = s.ρ.length := fold_set_len (fun _ => none) own s.ρ
theorem backS_len {own : List Nat} {s0 : S} : (backS own s0 s).ρ.length = s.ρ.length := fold_set_len (fun i => (s0.ρ[i]?).join) own s.ρ
theorem wipe_get : ∀ {vs : List Nat} {i : Nat}, (wipe σ vs)[i]? = if i ∈ vs ∧ i < σ.length then some none else σ[i]?
  | [], i => by simp [wipe]
  | v :: vs, i => by
    unfold wipe
    by_cases e : i = v
    · subst e
      by_cases hl : i < σ.length
      · rw [List.getElem?_set_self (by rw [wipe_length]; exact hl)]
        simp [hl]
      · rw [List.getElem?_eq_none (by rw [List.length_set, wipe_length]; omega), List.getElem?_eq_none (by omega)]
        simp [hl]
    · rw [List.getElem?_set_ne (Ne.symm e), wipe_get]
      simp [e]
theorem wipe_off {own tg : List Nat} (h : Off tg (wipe σ own) σ') (ht : ∀ i ∈ tg, i ∈ own) : wipe σ' own = wipe σ own := by
  apply List.ext_getElem?
  intro j
  have hl : σ'.length = σ.length := by rw [h.1, wipe_length]
  rw [wipe_get, wipe_get, hl]
  by_cases hj : j ∈ own
  · by_cases hl : j < σ.length
    · simp [hj, hl]
    · simp only [hj, hl, and_false, if_false]
      rw [List.getElem?_eq_none (by omega), List.getElem?_eq_none (by omega)]
  · simp only [hj, false_and, if_false]
    rw [h.2 j (fun z => hj (ht j z)), wipe_get]
    simp [hj]
theorem RelS.wiped {own : List Nat} (r : RelS K B M o τ Fz σ s H) : RelS K B M o τ Fz (wipe σ own) (wipeS own s) H := by
  refine r.slots (by rw [wipe_length, wipeS_len, r.len]) rfl fun i x h => ?_
  rw [wipeS_lk] at h
  by_cases hi : i ∈ own
  · rw [if_pos hi] at h; cases h
  · rw [if_neg hi] at h
    refine ⟨h, ?_⟩
    rw [wipe_get]
    simp [hi]
def ownF (σ : L2.St) (s : S) (own : List Nat) : List (V × D) := own.filterMap fun j => match lk s j, σ[j]? with
  | some (false, d), some (some v) => some (v, d)
  | _, _ => none
theorem RelS.ownF_ (r : RelS K B M o τ Fz σ s H) (own : List Nat) : RepFz K (Prt M o τ s) τ H (ownF σ s own) := fun p hp => by
  unfold ownF at hp
  rw [List.mem_filterMap] at hp
  obtain ⟨j, _, e⟩ := hp
  split at e
  · rename_i d v h1 h2
    cases e
    obtain ⟨w, g1, g2⟩ := r.sh j d h1
    rw [h2] at g1; cases g1; exact g2
  · cases e
theorem RelS.returned {own : List Nat} {s0 : S} {H0 : Hp} {B0 : Hp} {M0' : AP} {Fz0 : List (V × D)} (r0 : RelS K B0 M0' o τ Fz0 σ s0 H0) (r : RelS K B M o τ Fz (wipe σ own) s H) (hn : noOwned own s0 = true) (hF : ∀ p ∈ ownF σ s0 own, p ∈ Fz) :
    RelS K B M o τ Fz σ (backS own s0 s) H := by
  have hl : s.ρ.length = s0.ρ.length := by rw [← r.len, wipe_length, r0.len]
  have own0 : ∀ i ∈ own, ∀ d, lk s0 i ≠ some (true, d) := fun i hi d e => by
    unfold noOwned at hn
    have := List.all_eq_true.mp hn i hi
    rw [e] at this
    cases this
  have ho : ∀ {i d}, Own (backS own s0 s) i d → Own s i d ∧ i ∉ own := fun {i d} w => by
    unfold Own at w
    rw [backS_lk hl] at w
    by_cases hi : i ∈ own
    · rw [if_pos hi] at w; exact absurd w (own0 i hi d)
    · rw [if_neg hi] at w; exact ⟨w, hi⟩
  have hp : ∀ b, Prt M o τ (backS own s0 s) b → Prt M o τ s b := fun b z => z.imp id fun z => z.imp id fun ⟨i, d, w, e⟩ => ⟨i, d, (ho w).1, e⟩
  have mo := Mo.same (H := H) hp
  have wg : ∀ i, i ∉ own → (wipe σ own)[i]? = σ[i]? := fun i hi => by rw [wipe_get]; simp [hi]
  refine ⟨by rw [backS_len, ← r.len, wipe_length], r.keep, fun p q => (r.fz p q).mo mo, fun i d w => ?_, fun i d w => ?_, fun i j d e w1 w2 => r.inj i j d e (ho w1).1 (ho w2).1, ⟨r.tp.no, r.tp.at_⟩, r.mt⟩
  · rw [backS_lk hl] at w
    by_cases hi : i ∈ own
    · rw [if_pos hi] at w
      obtain ⟨v, g1, g2⟩ := r0.sh i d w
      refine ⟨v, g1, (r.fz (v, d) (hF _ ?_)).mo mo⟩
      unfold ownF
      rw [List.mem_filterMap]
      exact ⟨i, hi, by rw [w, g1]⟩
    · rw [if_neg hi] at w
      obtain ⟨v, g1, g2⟩ := r.sh i d w
      exact ⟨v, by rw [← wg i hi]; exact g1, g2.mo mo⟩
  · obtain ⟨w, hi⟩ := ho w
    obtain ⟨g1, g2, g3, g4, u, cs, g5, g6, g7⟩ := r.ow i d w
    exact ⟨by rw [← wg i hi]; exact g1, g2, g3, g4, u, cs, g5, g6, fun p q => (g7 p q).mo mo⟩
theorem RelS.bump {a : Addr} {u u' : HO} (ht : ¬ TpA τ a) (r : RelS K (upd B a u) (fun b => M b ∨ b = a) o τ Fz σ s H) (nt : ∀ xs, u' ≠ .tup xs) : RelS K (upd B a u') (fun b => M b ∨ b = a) o τ Fz σ s (upd H a u') := by
  have pa : Prt (fun b => M b ∨ b = a) o τ s a := .inl (.inr rfl)
  have mo : Mo (Prt (fun b => M b ∨ b = a) o τ s) (Prt (fun b => M b ∨ b = a) o τ s) H (upd H a u') := ⟨fun b x q n => by rw [upd_ne (fun (z : b = a) => n (by rw [z]; exact pa))]; exact q, fun b z _ => z⟩
  have na : ∀ i d, Own s i d → o i ≠ a := fun i d w z => (r.ow i d w).2.1 (.inr z)
  refine ⟨r.len, fun b x q n => ?_, fun p q => (r.fz p q).mo mo, fun i d w => ?_, fun i d w => ?_, r.inj, ⟨r.tp.no, ?_⟩, fun b z => ?_⟩
  · by_cases e : b = a
    · subst e; rw [upd_same] at q ⊢; exact q
    · rw [upd_ne e] at q ⊢
      exact r.keep b x (by rw [upd_ne e]; exact q) n
  · obtain ⟨v, g1, g2⟩ := r.sh i d w
    exact ⟨v, g1, g2.mo mo⟩
  · obtain ⟨g1, g2, g3, g4, x, cs, g5, g6, g7⟩ := r.ow i d w
    refine ⟨g1, g2, g3, ?_, x, cs, by rw [upd_ne (na i d w)]; exact g5, g6, fun p q => (g7 p q).mo mo⟩
    rw [upd_ne (na i d w)] at g4 ⊢; exact g4
  · have q := r.tp.at_
    cases hT : s.T with
    | none => rw [hT] at q; cases τ <;> exact q
    | some t =>
      rw [hT] at q
      cases hτ : τ with
      | none => rw [hτ] at q; exact q
      | some y =>
        rw [hτ] at q
        exact ⟨q.1, by rw [upd_ne fun z => ht ⟨y, hτ, .inl z.symm⟩]; exact q.2.1, by rw [upd_ne fun z => ht ⟨y, hτ, .inr z.symm⟩]; exact q.2.2⟩
  · by_cases e : b = a
    · subst e; exact ⟨u', upd_same, nt⟩
    · obtain ⟨x, q, n⟩ := r.mt b z
      exact ⟨x, by rw [upd_ne e]; exact q, n⟩
end
end Vf
namespace Vf
open PySem PySem.Spec PyProof.Rows L2

theorem nox_wp {α : Type} {m : M α} {s : S} {ok : α → S → Prop} {ex : Nat → S → Prop} (h : WPm (nox m) s ok ex) : WPm m s ok (fun _ _ => False) := by
  unfold WPm nox at h
  unfold WPm
  cases e : m s with
  | ok a s' => rw [e] at h; exact h
  | exc c s' => rw [e] at h; exact h
  | stuck => rw [e] at h; exact h
theorem wp_ok {α : Type} {m : M α} {s : S} {ok : α → S → Prop} (h : WPm m s ok (fun _ _ => False)) : ∃ a s', m s = .ok a s' ∧ ok a s' := by
  unfold WPm at h
  cases e : m s with
  | ok a s' => rw [e] at h; exact ⟨a, s', rfl, h⟩
  | exc c s' => rw [e] at h; exact h.elim
  | stuck => rw [e] at h; exact h.elim
abbrev W0 : WX := fun _ _ _ _ => False
def condM (F : FT) (c : Exs) : M Bool := match c with
  | .nil => ret true
  | .cons c _ => bnd (evE F c) isB
theorem evE_comp (F : FT) (own tg : List Nat) (it : Vf.It) (c : Exs) (e : Ex) : evE F (.comp own tg it c e) = nox (bnd (evIt F it) fun ds s => if noOwned own s then
      bnd (compL own tg (condM F c) (evE F e) ds) (fun xs s' => if fits xs.length then .ok (.lst xs, true) (backS own s s') else .stuck) (wipeS own s) else .stuck) := by
  cases c <;> simp only [evE, condM]
section
variable {X : Cx} {W : WX} {F : FT} {ca : Nat → Addr}
theorem lc_imp {own tg : List Nat} {it : Vf.It} {c : Exs} {e : Ex} {σ : L2.St} {H : Hp} {Q : VK} (ht : ∀ i ∈ tg, i ∈ own) (h : tvE X.K ca W (evE F (.comp own tg it c e)) σ H Q) :
    tLc (tvI X.K ca W (evIt F it)) (gTg X.K tg) (tvT X.K ca W0 (condM F c)) (tvE X.K ca W0 (evE F e)) own σ H Q := by
  obtain ⟨B, M, o, τ, Fz, s, r, h⟩ := h
  rw [evE_comp] at h
  refine ⟨B, M, o, τ, Fz, s, r, (nox_wp h).bnd_.mono (fun ds s1 q J H1 B1 Fz1 hB hF r1 itg D hD => ?_) fun _ _ z => z.elim⟩
  have q : WPm (fun s => if noOwned own s = true then bnd (compL own tg (condM F c) (evE F e) ds) (fun xs s' => if fits xs.length = true then Res.ok (Vf.D.lst xs, true) (backS own s s') else .stuck) (wipeS own s) else .stuck) s1 _ _ := q
  unfold WPm at q
  by_cases hn : noOwned own s1 = true
  · simp only [if_pos hn] at q
    obtain ⟨G, Y, wk, gy⟩ := itg.ex
    obtain ⟨f1, f2, f3, f4⟩ := r1.fresh hD
    have f0 : B D = none := by
      cases e : B D with
      | none => rfl
      | some u => rw [hB _ _ e] at f1; cases f1
    let okF : List Vf.D → S → Prop := fun xs s' => fits xs.length = true ∧ ∀ v H', RelT X.K o τ σ (backS own s1 s') H' [(v, .lst xs, true)] B M Fz → Q v H'
    have q2 : WPm (compL own tg (condM F c) (evE F e) ds) (wipeS own s1) okF (fun _ _ => False) := by
      have q3 : WPm (bnd (compL own tg (condM F c) (evE F e) ds) (fun xs s' => if fits xs.length = true then Res.ok (Vf.D.lst xs, true) (backS own s1 s') else .stuck)) (wipeS own s1) (fun x s' => ∀ v H', RelT X.K o τ σ s' H' [(v, x.1, x.2)] B M Fz → Q v H') (fun _ _ => False) := q
      refine q3.bnd_.mono (fun xs s' z => ?_) fun _ _ z => z
      unfold WPm at z
      by_cases hf : fits xs.length = true
      · simp only [if_pos hf] at z; exact ⟨hf, z⟩
      · simp only [if_neg hf] at z
    have rF := r1.more (r1.ownF_ own)
    let Fz2 := ownF σ s1 own ++ Fz1
    let Pv : Nat → Hp → Prop := fun i H => ∃ s2 acc dsi, RelS X.K (upd B1 D (.lst acc)) (fun b => M b ∨ b = D) o τ (acc.zip dsi ++ Fz2) (wipe σ own) s2 H ∧ acc.length = dsi.length ∧
      WPm (compL own tg (condM F c) (evE F e) (ds.drop i)) s2 (fun xs s' => okF (dsi ++ xs) s') (fun _ _ => False)
    have inB : ∀ acc b u, B1 b = some u → upd B1 D (.lst acc) b = some u := fun acc b u e => upd_up f1 b u e
    have inF : ∀ (acc : List V) (dsi : List Vf.D), ∀ p ∈ Fz1, p ∈ acc.zip dsi ++ Fz2 := fun acc dsi p hp => List.mem_append_right _ (List.mem_append_right _ hp)
    refine lc_it wk Pv ?_ (fun i H _ ⟨s2, acc, dsi, r2, _, _⟩ => (gy _ _ _ _ _ _ _ (inB acc) (inF acc dsi) r2).1) ?_ ?_
    · have r3 := (rF.alloc (u := .lst []) hD (fun _ z => by cases z)).wiped (own := own)
      exact ⟨_, [], [], r3, rfl, by simpa using q2⟩
    · intro i x H2 H3 hi ⟨s2, acc, dsi, r2, hl, qi⟩ hy
      obtain ⟨d, hd⟩ : ∃ d, ds[i]? = some d := ⟨ds[i], by simp [hi]⟩
      have hdr : ds.drop i = d :: ds.drop (i + 1) := by
        rw [List.drop_eq_getElem_cons hi]
        have : ds[i] = d := by simpa [hi] using hd
        rw [this]
      rw [hdr] at qi
      unfold compL at qi
      have r3 := (gy _ _ _ _ _ _ _ (inB acc) (inF acc dsi) r2).2 i x H3 d hd hy
      refine bind_ok r3 List.mem_cons_self (WPm.bnd_ qi) fun σ2 s3 qb r4 off => ?_
      have hw := wipe_off off ht
      refine ⟨hw, ?_⟩
      refine ⟨_, _, o, τ, _, s3, r4, (WPm.bnd_ qb).mono (fun b s4 qc H4 r5 => ?_) fun _ _ z => z.elim⟩
      cases b with
      | true =>
        rw [if_pos rfl]
        refine ⟨_, _, o, τ, _, s4, r5, (WPm.bnd_ qc).mono (fun y s5 qd v H5 rt => ?_) fun _ _ z => z.elim⟩
        have r6 := rt.one
        have hDa : H5 D = some (.lst acc) := r6.keep D _ upd_same f3
        have qd : WPm (bnd (compL own tg (condM F c) (evE F e) (ds.drop (i + 1))) fun xs => ret (y.1 :: xs)) (wipeS own s5) (fun xs s' => okF (dsi ++ xs) s') (fun _ _ => False) := qd
        have qe := (WPm.bnd_ qd).mono (ok2 := fun xs s' => okF ((dsi ++ [y.1]) ++ xs) s') (fun xs s' z => by
          have z := WPm.ret_ z
          rw [List.append_assoc]; exact z) (ex' := fun _ _ => False) (fun _ _ z => z)
        have hfit : acc.length < sizeLine := by
          obtain ⟨xs, s', _, z⟩ := wp_ok qe
          have z1 := of_decide_eq_true z.1
          simp only [List.length_append, List.length_cons, List.length_nil] at z1
          omega
        refine ⟨acc, hDa, hfit, wipeS own s5, acc ++ [v], dsi ++ [y.1], ?_, by simp [hl], qe⟩
        have r7 := (r6.bump (u' := .lst (acc ++ [v])) f3 (fun _ z => by cases z)).wiped (own := own)
        rw [hw] at r7
        refine r7.drop fun p hp => ?_
        rw [List.zip_append hl] at hp
        simp only [List.zip_cons_cons, List.zip_nil_left, List.append_assoc, List.mem_append, List.mem_cons, List.not_mem_nil, false_or, or_false] at hp ⊢
        rcases hp with z | z | z
        · exact .inr (.inr (.inl z))
        · exact .inl z
        · exact .inr (.inr (.inr z))
      | false =>
        rw [if_neg Bool.false_ne_true]
        refine ⟨wipeS own s4, acc, dsi, ?_, hl, qc⟩
        have r7 := r5.wiped (own := own)
        rw [hw] at r7
        exact r7.drop fun p hp => List.mem_cons_of_mem _ hp
    · intro H2 ⟨s2, acc, dsi, r2, hl, qi⟩
      have e0 : ds.drop ds.length = [] := by simp
      rw [e0] at qi
      unfold compL at qi
      have qi := WPm.ret_ qi
      have qi : okF (dsi ++ []) s2 := qi
      rw [List.append_nil] at qi
      refine qi.2 (.ref D) H2 ⟨D, .lst acc, acc.zip dsi, rfl, f0, f3, f2, .lst hl, ?_⟩
      have r8 := RelS.returned r1 r2 hn (fun p hp => List.mem_append_right _ (List.mem_append_left _ hp))
      refine r8.weak (fun b u e => ?_) (fun _ z => z) (fun p hp => r8.fz p ?_)
      · by_cases eb : b = D
        · subst eb; rw [upd_same] at e ⊢; exact e
        · rw [upd_ne eb] at e ⊢; exact hB b u e
      · rcases List.mem_append.mp hp with z | z
        · exact List.mem_append_left _ z
        · exact List.mem_append_right _ (List.mem_append_right _ (hF p z))
  · simp only [if_neg hn] at q
theorem own_ty {K : PySem.W.Frag} {B : Hp} {M : AP} {o : Nat → Addr} {τ : TA2} {Fz : List (V × D)} {σ : L2.St} {s : S} {H : Hp} {i : Nat} {ds : List D} (r : RelS K B M o τ Fz σ s H) (w : Own s i (.lst ds)) :
    ∃ xs, σ[i]? = some (some (.ref (o i))) ∧ H (o i) = some (.lst xs) ∧ RepAll K (Prt M o τ s) τ H xs ds := by
  obtain ⟨h1, h2, h3, h4, u, cs, h5, h6, h7⟩ := r.ow i _ w
  cases h6 with
  | lst e => exact ⟨_, h1, h5, RepAll.of_fz e h7⟩
theorem lst_mutate {K : PySem.W.Frag} {B : Hp} {M : AP} {o : Nat → Addr} {τ : TA2} {Fz : List (V × D)} {σ : L2.St} {s : S} {H : Hp} {i : Nat} {ds ds' : List D} {xs' : List V} (r : RelS K B M o τ Fz σ s H) (w : Own s i (.lst ds)) (ra : RepAll K (Prt M o τ s) τ H xs' ds') :
    RelS K B M o τ Fz σ (setS s i (some (true, .lst ds'))) (upd H (o i) (.lst xs')) := r.mutate w (.lst ra.len) ra.fz
theorem own_of {s : S} {i : Nat} {ok : Unit → S → Prop} {ex : Nat → S → Prop} (h : WPm (ownL i) s ok ex) : (∃ ds, Own s i (.lst ds)) ∧ ok () s := by
  unfold WPm ownL at h
  split at h <;> rename_i hh
  · split at hh
    · rename_i ds e
      cases hh
      exact ⟨⟨ds, e⟩, h⟩
    · cases hh
  · split at hh <;> cases hh
  · exact h.elim
theorem getLast_ix {α : Type} (ds : List α) : ds.getLast? = ds[ds.length - 1]? := by
  rw [List.getLast?_eq_getElem?]
theorem popV_ok {i : Nat} {xs : List D} {s : S} {ok : D × Bool → S → Prop} {ex : Nat → S → Prop} (h : WPm (popV i xs) s ok ex) : ∃ ds, Own s i (.lst ds) ∧ ((xs = [] ∧ ∃ d, ds.getLast? = some d ∧ ok (d, false) (setS s i (some (true, .lst ds.dropLast)))) ∨
    ∃ k j d, xs = [.int k] ∧ bigOk k = true ∧ seqIndex? k ds.length = some j ∧ ds[j]? = some d ∧ ok (d, false) (setS s i (some (true, .lst (ds.eraseIdx j))))) := by
  unfold WPm popV at h
  split at h <;> rename_i hh
  · split at hh
    · rename_i ds w
      refine ⟨ds, w, ?_⟩
      split at hh
      · split at hh
        · rename_i d e; cases hh; exact .inl ⟨rfl, d, e, h⟩
        · cases hh
      · split at hh
        · rename_i hb
          split at hh
          · rename_i j e
            split at hh
            · rename_i d e2; cases hh; exact .inr ⟨_, j, d, rfl, hb, e, e2, h⟩
            · cases hh
          · cases hh
        · cases hh
      · cases hh
    · cases hh
  · exfalso
    revert hh
    repeat' first
      | (intro hh; cases hh; done)
      | split
  · exact h.elim
theorem je_pop0 {x : Str} {i : Nat} {px apos cpos : Pos} (hN : X.N[i]? = some x) (hv : Vis X.env.scope x) (h1 : (x == ("__debug__" : Str)) = false) (h2 : (x == ("__classdict__" : Str)) = false) (hl : (apos.endLine == cpos.line) = true) :
    JE X ca W (.Call (.Attribute (.Name x px) "pop" apos) [] [] cpos) (evE F (.pop i .nil)) := by
  refine PE.imp (pe_bm0 PySem.F.plainAttrs_list PySem.F.slot_list_pop PySem.F.type_list_pop mt_pop (pe_var hN hv h1 h2) rfl hl) fun σ H Q q => ?_
  obtain ⟨B, M, o, τ, Fz, s, r, q⟩ := q
  unfold evE at q
  obtain ⟨⟨ds, w⟩, q⟩ := own_of q.bnd_
  obtain ⟨xs, g1, g2, ra⟩ := own_ty r w
  refine ⟨_, g1, ⟨.inl ⟨rfl, xs, .of g2⟩, ?_⟩⟩
  have q := q.bnd_
  simp only [evEs] at q
  have q := WPm.ret_ q
  obtain ⟨ds1, w1, q⟩ := popV_ok q
  obtain ⟨xs, g1, g2, ra⟩ := own_ty r w1
  rcases q with ⟨_, d, e, q⟩ | ⟨k, j, d, e, _⟩
  · have e' := e
    rw [getLast_ix] at e'
    obtain ⟨y, hy, ry⟩ := ra.get e'
    refine ⟨o i, xs, y, rfl, rfl, g2, by rw [ra.len]; exact hy, q y _ ?_⟩
    exact lst_mutate (r.more1 ry) w1 ra.dropLast
  · cases e
theorem wp_len {es : Exs} {s : S} {ok : List (D × Bool) → S → Prop} {ex : Nat → S → Prop} (h : WPm (evEs F es) s ok ex) : WPm (evEs F es) s (fun xs s' => xs.length = es.len ∧ ok xs s') ex := by
  unfold WPm at h ⊢
  cases e : evEs F es s with
  | ok a s' => rw [e] at h; exact ⟨evEs_len es a s s' e, h⟩
  | exc c s' => rw [e] at h; exact h
  | stuck => rw [e] at h; exact h
theorem je_pop1 {x : Str} {i : Nat} {px apos cpos : Pos} {a : Expr} {e : Ex} (hN : X.N[i]? = some x) (hv : Vis X.env.scope x) (h1 : (x == ("__debug__" : Str)) = false) (h2 : (x == ("__classdict__" : Str)) = false) (hl : (apos.endLine == cpos.line) = true)
    (ha : JE X ca W a (evE F e)) (hn : nst a = true) : JE X ca W (.Call (.Attribute (.Name x px) "pop" apos) [a] [] cpos) (evE F (.pop i (.cons e .nil))) := by
  have hA : PA X [a] (tvEs X.K ca W (evEs F (.cons e .nil))) := ja_cons ha ja_nil hn
  refine PE.imp (pe_bm PySem.F.plainAttrs_list PySem.F.slot_list_pop PySem.F.type_list_pop mt_popAt (pe_var hN hv h1 h2) hA rfl (by rw [star_cons hn]; rfl) hl (star_cons hn) rfl) fun σ H Q q => ?_
  obtain ⟨B, M, o, τ, Fz, s, r, q⟩ := q
  rw [evE] at q
  obtain ⟨⟨ds, w⟩, q⟩ := own_of q.bnd_
  obtain ⟨xs, g1, g2, ra⟩ := own_ty r w
  refine ⟨_, g1, ⟨.inl ⟨rfl, xs, .of g2⟩, ?_⟩⟩
  refine ⟨B, M, o, τ, Fz, s, r, (wp_len q.bnd_).mono (fun ys s1 q vs H1 hlen rt => ?_) fun _ _ z => z⟩
  obtain ⟨hy1, q⟩ := q
  have r1 := rt.plain
  rw [zipT_map hlen] at r1
  obtain ⟨ds1, w1, q2⟩ := popV_ok q
  obtain ⟨xs1, g3, g4, ra⟩ := own_ty r1 w1
  obtain ⟨y0, rfl⟩ : ∃ y0, ys = [y0] := by
    match ys, hy1 with
    | [y0], _ => exact ⟨y0, rfl⟩
  rcases q2 with ⟨e, _⟩ | ⟨k, j, d, e, hb, hj, hd, q3⟩
  · cases e
  · obtain ⟨v, rfl⟩ : ∃ v, vs = [v] := by
      match vs, hlen with
      | [v], _ => exact ⟨v, rfl⟩
    have e : y0.1 = .int k := by simpa using e
    have rp := r1.fz (v, y0.1) (by simp)
    rw [e] at rp
    have ev : v = V.int k := by cases rp; rfl
    subst ev
    obtain ⟨y, hy, ry⟩ := ra.get hd
    simp only [bigOk, Bool.and_eq_true, decide_eq_true_eq] at hb
    refine ⟨o i, xs1, k, j, y, rfl, rfl, g4, by omega, by omega, by rw [ra.len]; exact hj, hy, q3 y _ ?_⟩
    have r2 := lst_mutate (r1.more1 ry) w1 (ra.erase j)
    exact r2.drop fun p hp => (List.mem_cons.mp hp).elim (fun z => z ▸ List.mem_cons_self) fun z => List.mem_cons_of_mem _ (List.mem_append_right _ z)
end
end Vf
namespace Vf
open PySem PySem.Spec PyProof.Rows L2

section
variable {K : PySem.W.Frag} {P : AP} {τ : TA2} {H : Hp}
theorem putK_cons {κ : Type} [DecidableEq κ] {p : κ × V} {r : List (κ × V)} {k : κ} {v : V} : putK (p :: r) k v = if p.1 = k then (p.1, v) :: r.map (fun kv => if kv.1 = k then (kv.1, v) else kv) else p :: putK r k v := by
  unfold putK
  by_cases h : p.1 = k
  · simp [h]
  · simp only [List.any_cons, decide_eq_false h, Bool.false_or, List.map_cons, if_neg h, List.cons_append]
    split <;> rfl
theorem drepK {k : Key} {v : V} {d : D} (hr : Rep K P τ H v d) : ∀ {kvs : List (Key × V)} {ds : List (D × D)}, RepK K P τ H kvs ds → RepK K P τ H (kvs.map fun kv => if kv.1 = k then (kv.1, v) else kv) (drep false (.inl k) d ds)
  | _, _, .nil => .nil
  | _, _, .cons (k := k') (v := v') (kd := kd) (d := d') hk h t => by
    unfold drep
    simp only [List.map_cons, dkey, hk, Option.map_some, Option.some.injEq, Sum.inl.injEq]
    by_cases e : k' = k
    · rw [if_pos e, if_pos e]; exact .cons hk hr (drepK hr t)
    · rw [if_neg e, if_neg e]; exact .cons hk h (drepK hr t)
theorem dputK {k : Key} {v : V} {kd d : D} (hk0 : keyD kd = some k) (hr : Rep K P τ H v d) : ∀ {kvs : List (Key × V)} {ds : List (D × D)}, RepK K P τ H kvs ds → RepK K P τ H (putK kvs k v) (dput false (.inl k) kd d ds)
  | _, _, .nil => by unfold putK dput; exact .cons hk0 hr .nil
  | _, _, .cons (k := k') (v := v') (kd := kd') (d := d') hk h t => by
    rw [putK_cons]
    unfold dput
    simp only [dkey, hk, Option.map_some, Option.some.injEq, Sum.inl.injEq]
    by_cases e : k' = k
    · rw [if_pos e, if_pos e]; exact .cons hk hr (drepK hr t)
    · rw [if_neg e, if_neg e]; exact .cons hk h (dputK hk0 hr t)
theorem drepT {k : List Key} {v : V} {d : D} (hr : Rep K P τ H v d) : ∀ {kvs : List (List Key × V)} {ds : List (D × D)}, RepT K P τ H kvs ds → RepT K P τ H (kvs.map fun kv => if kv.1 = k then (kv.1, v) else kv) (drep true (.inr k) d ds)
  | _, _, .nil => .nil
  | _, _, .cons (k := k') (v := v') (kd := kd) (d := d') hk h t => by
    unfold drep
    simp only [List.map_cons, dkey, hk, Option.map_some, Option.some.injEq, Sum.inr.injEq]
    by_cases e : k' = k
    · rw [if_pos e, if_pos e]; exact .cons hk hr (drepT hr t)
    · rw [if_neg e, if_neg e]; exact .cons hk h (drepT hr t)
theorem dputT {k : List Key} {v : V} {kd : List D} {d : D} (hk0 : keysD kd = some k) (hr : Rep K P τ H v d) : ∀ {kvs : List (List Key × V)} {ds : List (D × D)}, RepT K P τ H kvs ds → RepT K P τ H (putK kvs k v) (dput true (.inr k) (.tup kd) d ds)
  | _, _, .nil => by unfold putK dput; exact .cons hk0 hr .nil
  | _, _, .cons (k := k') (v := v') (kd := kd') (d := d') hk h t => by
    rw [putK_cons]
    unfold dput
    simp only [dkey, hk, Option.map_some, Option.some.injEq, Sum.inr.injEq]
    by_cases e : k' = k
    · rw [if_pos e, if_pos e]; exact .cons hk hr (drepT hr t)
    · rw [if_neg e, if_neg e]; exact .cons hk h (dputT hk0 hr t)
theorem line16 : (16000000 : Nat) ≤ sizeLine := by rw [sizeLine_eq]; decide
def rSetA : TSet := fun o i v H Q => rSetL o i v H Q ∨ rSetD o i v H Q
theorem set_A {X : Cx} (hu : X.A.units + 1 < cLine) : PSet X rSetA := by
  intro pins s σ H o i v ov iv u Q I ro ri rv h
  rcases h with h | h
  · exact set_list pins s σ H o i v ov iv u Q I ro ri rv h
  · exact set_dict hu pins s σ H o i v ov iv u Q I ro ri rv h
theorem setAt_ok {B : Hp} {M : AP} {o : Nat → Addr} {Fz : List (V × D)} {σ : L2.St} {s : S} {i : Nat} {d kd x d' : D} {kv xv : V} {Q : Hp → Prop} (r : RelS K B M o τ Fz σ s H) (w : Own s i d) (hk : (kv, kd) ∈ Fz) (hx : (xv, x) ∈ Fz) (e : setAt d kd x = some d')
    (q : ∀ H', RelS K B M o τ Fz σ (setS s i (some (true, d'))) H' → Q H') : rSetA (.ref (o i)) kv xv H Q := by
  obtain ⟨h1, h2, h3, h4, u, cs, h5, h6, h7⟩ := r.ow i d w
  have rk := r.fz _ hk
  have rx := r.fz _ hx
  cases h6 with
  | @lst xs ds el =>
    cases kd with
    | int k =>
      simp only [setAt] at e
      cases e1 : ixN ds.length k with
      | none => rw [e1] at e; cases e
      | some j =>
        rw [e1] at e
        cases e
        have ev : kv = V.int k := by cases rk; rfl
        subst ev
        have ra := RepAll.of_fz el h7
        exact .inl ⟨o i, xs, k, j, rfl, rfl, h5, by rw [el]; exact e1, q _ (lst_mutate r w (ra.set j rx))⟩
    | _ => simp [setAt] at e
  | @dK kvs ds el =>
    cases e1 : dkey false kd with
    | none => simp [setAt, e1] at e
    | some kk =>
      simp only [setAt, e1, Option.bind_some] at e
      split at e
      · rename_i hl
        cases e
        simp only [dkey] at e1
        cases e2 : keyD kd with
        | none => rw [e2] at e1; cases e1
        | some k =>
          rw [e2] at e1
          cases e1
          have ev := key_val (.inl rk) e2
          subst ev
          have rk0 := repK_of el h7
          have ra := dputK e2 rx rk0
          have l1 := rk0.vals.len
          simp only [List.length_map] at l1
          have := line16
          exact .inr ⟨o i, _, rfl, .inl ⟨kvs, k, h5, rfl, by omega, rfl⟩, q _ (r.mutate w (.dK ra.keys) ra.vals.fz)⟩
      · cases e
  | @dT kvs ds el =>
    cases e1 : dkey true kd with
    | none => simp [setAt, e1] at e
    | some kk =>
      simp only [setAt, e1, Option.bind_some] at e
      split at e
      · rename_i hl
        cases e
        cases kd with
        | tup kds =>
          simp only [dkey] at e1
          cases e2 : keysD kds with
          | none => rw [e2] at e1; cases e1
          | some k =>
            rw [e2] at e1
            cases e1
            cases rk with
            | @tup b ys _ hb rys =>
              have ev := keys_val rys e2
              subst ev
              have rk0 := repT_of el h7
              have ra := dputT e2 rx rk0
              have l1 := rk0.vals.len
              simp only [List.length_map] at l1
              have := line16
              exact .inr ⟨o i, _, rfl, .inr ⟨kvs, k, b, h5, rfl, hb.2, by omega, rfl⟩, q _ (r.mutate w (.dT ra.keys) ra.vals.fz)⟩
        | _ => simp [dkey] at e1
      · cases e
def rGetA (K : PySem.W.Frag) : V → V → Hp → VK → Prop := fun x y H Q => rIxL K x y H Q ∨ ∃ a v, x = .ref a ∧ DGet H a y (some v) ∧ Q v H
theorem get_A {X : Cx} (hu : X.A.units + 1 < cLine) : PGet X (rGetA X.K) := by
  intro pins s σ H x y v u Q I rx ry h
  rcases h with ⟨p, xs, i, z, rfl, rfl, hq, he, q⟩ | ⟨a, w, rfl, g, q⟩
  · cases rx
    obtain ⟨t, rfl⟩ := ry
    obtain ⟨its, r, pl, hz⟩ := I.list hq
    obtain ⟨j, h1, h2, h3, h4, h5⟩ := atI_get he
    obtain ⟨w, ew, rw'⟩ := r.get h2
    have hl := r.length
    have hn := line63
    have fin : EP X pins σ Q w s := ⟨z, H, I, rw', q⟩
    by_cases h0 : 0 ≤ i
    · have hj : i.toNat = j := by
        rw [seqIndex_of h0 h5] at h1
        exact Option.some.inj h1
      exact wpAny_getItem_list pl.isList h0 (by omega) (by rw [hj]; simpa using ew) fin
    · have hj : (i + (its.toArray.size : Int)).toNat = j := by
        rw [seqIndex_neg (by omega) h4] at h1
        rw [List.size_toArray, ← hl]
        exact Option.some.inj h1
      exact wpAny_getItem_list_neg pl.isList (by omega) (by rw [List.size_toArray] <;> omega) (by omega) (by rw [hj]; simpa using ew) fin
  · cases rx
    exact d_getItem hu I g ry fun w' s3 I3 rw' => ⟨w, H, I3, rw', q⟩
end
end Vf
namespace Vf
open PySem PySem.Spec PyProof.Rows L2

section
variable (K : PySem.W.Frag) (ca : Nat → Addr) (W : WX)
def okS (B : Hp) (M : AP) (τ : TA2) (Fz : List (V × D)) (E : Ends) : Fl → S → Prop
  | .nx, s' => ∀ o σ H', RelS K B M o τ Fz σ s' H' → E.nx σ H'
  | .rt d fr, s' => ∀ v o σ H', RelT K o τ σ s' H' [(v, d, fr)] B M Fz → E.rt v H'
def exS (B : Hp) (M : AP) (τ : TA2) (Fz : List (V × D)) : Nat → S → Prop := fun c s' => ∀ o σ H', RelS K B M o τ Fz σ s' H' → W (.ref (ca c)) none σ H'
def tvS (m : M Fl) : TS := fun E σ H => ∃ B M o τ Fz s, RelS K B M o τ Fz σ s H ∧ WPm m s (okS K B M τ Fz E) (exS K ca W B M τ Fz)
end
section
variable {K : PySem.W.Frag} {ca : Nat → Addr} {W : WX} {B B' : Hp} {M M' : AP} {τ : TA2} {Fz Fz' : List (V × D)} {E : Ends} {o : Nat → Addr} {σ : L2.St} {s : S} {H : Hp}
theorem RelT.weak : ∀ {ts : List (V × D × Bool)} {B B' : Hp} {Fz Fz' : List (V × D)}, (∀ b u, B' b = some u → B b = some u) → (∀ p ∈ Fz', p ∈ Fz) → RelT K o τ σ s H ts B M Fz → RelT K o τ σ s H ts B' M Fz' := by
  intro ts
  induction ts generalizing M with
  | nil => intro B B' Fz Fz' hB hF r; exact RelS.weak r hB (fun _ z => z) fun p hp => RelS.fz r p (hF p hp)
  | cons t ts ih =>
    intro B B' Fz Fz' hB hF r
    obtain ⟨v, d, fr⟩ := t
    cases fr with
    | false => exact ih (Fz := (v, d) :: Fz) hB (fun p hp => (List.mem_cons.mp hp).elim (fun e => e ▸ List.mem_cons_self) fun e => List.mem_cons_of_mem _ (hF p e)) r
    | true =>
      obtain ⟨a, u, cs, e, hb, ht, hm, c, r⟩ := r
      refine ⟨a, u, cs, e, ?_, ht, hm, c, ih (B := upd B a u) ?_ ?_ r⟩
      · cases q : B' a with
        | none => rfl
        | some x => rw [hB _ _ q] at hb; cases hb
      · intro b x q
        by_cases eb : b = a
        · subst eb; rw [upd_same] at q ⊢; exact q
        · rw [upd_ne eb] at q ⊢; exact hB b x q
      · exact fun p hp => (List.mem_append.mp hp).elim (fun e => List.mem_append_left _ e) fun e => List.mem_append_right _ (hF p e)
theorem okS.up (hB : ∀ b u, B b = some u → B' b = some u) (hF : ∀ p ∈ Fz, p ∈ Fz') : ∀ f s', okS K B M τ Fz E f s' → okS K B' M τ Fz' E f s'
  | .nx, s', h => fun o σ H' r => h o σ H' (r.weak hB (fun _ z => z) fun p hp => r.fz p (hF p hp))
  | .rt d fr, s', h => fun v o σ H' r => h v o σ H' (r.weak hB hF)
theorem exS.up (hB : ∀ b u, B b = some u → B' b = some u) (hF : ∀ p ∈ Fz, p ∈ Fz') : ∀ c s', exS K ca W B M τ Fz c s' → exS K ca W B' M τ Fz' c s' := fun c s' h o σ H' r => h o σ H' (r.weak hB (fun _ z => z) fun p hp => r.fz p (hF p hp))
theorem exS.ex : ∀ c s', exS K ca W B M τ Fz c s' → EX K ca W B M o τ Fz σ c s' := fun c s' h H' r => h o σ H' r
theorem tvE_st {m : Vf.M (D × Bool)} {k : D × Bool → Vf.M Fl} {Q : VK} (r : RelS K B M o τ Fz σ s H) (h : WPm (bnd m k) s (okS K B M τ Fz E) (exS K ca W B M τ Fz))
    (q : ∀ x s' v H', WPm (k x) s' (okS K B M τ Fz E) (exS K ca W B M τ Fz) → RelT K o τ σ s' H' [(v, x.1, x.2)] B M Fz → Q v H') : tvE K ca W m σ H Q :=
  ⟨B, M, o, τ, Fz, s, r, h.bnd_.mono (fun x s' z v H' rt => q x s' v H' z rt) exS.ex⟩
theorem tvT_st {m : Vf.M Bool} {k : Bool → Vf.M Fl} {Q : Bool → Hp → Prop} (r : RelS K B M o τ Fz σ s H) (h : WPm (bnd m k) s (okS K B M τ Fz E) (exS K ca W B M τ Fz))
    (q : ∀ b s' H', WPm (k b) s' (okS K B M τ Fz E) (exS K ca W B M τ Fz) → RelS K B M o τ Fz σ s' H' → Q b H') : tvT K ca W m σ H Q :=
  ⟨B, M, o, τ, Fz, s, r, h.bnd_.mono (fun x s' z H' rt => q x s' H' z rt) exS.ex⟩
end
section
variable {X : Cx} {ca : Nat → Addr} {W : WX} {F : FT}
abbrev JS (X : Cx) (ca : Nat → Addr) (W : WX) (st : Stmt) (m : Vf.M Fl) : Prop := PS X st (tvS X.K ca W m)
abbrev JSs (X : Cx) (ca : Nat → Addr) (W : WX) (st : List Stmt) (m : Vf.M Fl) : Prop := PSs X st (tvS X.K ca W m)
theorem jss_nil : JSs X ca W [] (evSs F .nil) := PSs.imp pss_nil fun E σ H ⟨B, M, o, τ, Fz, s, r, h⟩ => by
  unfold evSs at h
  exact WPm.ret_ h o σ H r
theorem jss_cons {st : Stmt} {sts : List Stmt} {x : Sx} {xs : Sxs} (h : JS X ca W st (evS F x)) (t : JSs X ca W sts (evSs F xs)) : JSs X ca W (st :: sts) (evSs F (.cons x xs)) := PSs.imp (pss_cons h t) fun E σ H ⟨B, M, o, τ, Fz, s, r, h⟩ => by
  unfold evSs at h
  refine ⟨B, M, o, τ, Fz, s, r, h.bnd_.mono (fun f s' q => ?_) fun _ _ z => z⟩
  cases f with
  | nx => exact fun o' σ' H' r' => ⟨B, M, o', τ, Fz, s', r', q⟩
  | rt d fr => exact WPm.ret_ (ex := exS X.K ca W B M τ Fz) q
theorem js_set {i : Nat} {x : Str} {a : Expr} {e : Ex} {p pos : Pos} (hN : X.N.Nodup) (hi : X.N[i]? = some x) (hx : Loc X.env.scope x) (hf : X.fn x = true ∨ X.env.scope.names.lookup x = some .local) (h : JE X ca W a (evE F e))
    (hs : swapsWith a (some (.Name x p)) pos.line X.env = pure false) : JS X ca W (.Assign [.Name x p] a pos) (evS F (.set i e)) := PS.imp (ps_set hN hi hx h hs hf) fun E σ H ⟨B, M, o, τ, Fz, s, r, h⟩ => by
  unfold evS at h
  refine tvE_st r h fun x s' v H' q rt => ?_
  obtain ⟨o', r'⟩ := rt.store (i := i)
  have q : okS X.K B M τ Fz E .nx (setS s' i (some (x.2, x.1))) := q
  exact q o' _ H' r'
theorem set_imp {i : Nat} {m : Vf.M (D × Bool)} {te : TE} (hte : ∀ σ H Q, tvE X.K ca W m σ H Q → te σ H Q) : ∀ E σ H, tvS X.K ca W (bnd m (storeM i)) E σ H → tAsg te (gName i) E σ H := fun E σ H ⟨B, M, o, τ, Fz, s, r, h⟩ => by
  refine hte _ _ _ (tvE_st r h fun x s' v H' q rt => ?_)
  obtain ⟨o', r'⟩ := rt.store (i := i)
  have q : okS X.K B M τ Fz E .nx (setS s' i (some (x.2, x.1))) := q
  exact q o' _ H' r'
theorem pgs_names {N : List Str} (hN : X.N.Nodup) : ∀ {is : List Nat} {xs : List Str} {ps : List Pos}, (∀ p ∈ is.zip xs, X.N[p.1]? = some p.2 ∧ Loc X.env.scope p.2 ∧ (X.fn p.2 = true ∨ X.env.scope.names.lookup p.2 = some .local)) → is.length = xs.length → ps.length = xs.length →
    PGs X (List.zipWith (fun x p => Expr.Name x p) xs ps) (gNs is)
  | [], [], [], _, _, _ => pgs_nil
  | [], _ :: _, _, _, h, _ => by simp at h
  | _ :: _, [], _, _, h, _ => by simp at h
  | [], [], _ :: _, _, _, h => by simp at h
  | _ :: _, _ :: _, [], _, _, h => by simp at h
  | i :: is, x :: xs, p :: ps, h, h1, h2 => by
    obtain ⟨a, b, c⟩ := h (i, x) (by simp)
    exact pgs_cons (pg_name hN a b c) (pgs_names (N := N) hN (fun q hq => h q (by simp [hq])) (by simpa using h1) (by simpa using h2))
theorem js_unp {is : List Nat} {tg a : Expr} {e : Ex} {pos : Pos} (hg : PG X tg (gTup X.K is.length (gNs is))) (h : JE X ca W a (evE F e)) (hs : swapsWithSole [tg] a pos.line X.env = pure false) (hw : swappedStores [tg] a X.env = pure none)
    (h1 : (assignEach [tg] X.env).map (·.2) = [assign tg X.env]) : JS X ca W (.Assign [tg] a pos) (evS F (.unp is e)) := PS.imp (ps_asg h hg hs hw h1) fun E σ H ⟨B, M, o, τ, Fz, s, r, h⟩ => by
  unfold evS at h
  refine tvE_st r h fun x s' v H' q rt => ?_
  have r1 := rt.one
  unfold WPm at q
  cases e1 : tupOf x.1 with
  | none => simp only [e1] at q
  | some ds =>
    simp only [e1] at q
    by_cases hl : is.length = ds.length
    · simp only [if_pos hl] at q
      obtain ⟨a, xs, e0, h1, ra, _⟩ := tup_same e1 (r1.fz (v, x.1) List.mem_cons_self)
      have r2 := r1.more ra.fz
      refine ⟨a, xs, e0, h1, by rw [ra.len, hl], ?_⟩
      refine setP_ok r2 (fun p hp => List.mem_append_left _ hp) (by rw [ra.len, hl]) hl.symm fun σ' r' off => q o σ' H' (r'.drop fun p hp => List.mem_append_right _ (List.mem_cons_of_mem _ hp))
    · simp only [if_neg hl] at q
theorem RelT.store2 {K : PySem.W.Frag} {o : Nat → Addr} {τ : TA2} {σ : L2.St} {s : S} {H : Hp} {B : Hp} {M : AP} {Fz : List (V × D)} {i : Nat} {v : V} {d : D} {fr : Bool} {ts : List (V × D × Bool)} {f : L2.St → L2.St} {g : S → S}
    (hts : ∀ B M Fz, RelT K o τ σ s H ts B M Fz → ∃ o', RelS K B M o' τ Fz (f σ) (g s) H) (h : RelT K o τ σ s H ((v, d, fr) :: ts) B M Fz) : ∃ o', RelS K B M o' τ Fz ((f σ).set i (some v)) (setS (g s) i (some (fr, d))) H := by
  cases fr with
  | false =>
    obtain ⟨o', r⟩ := hts _ _ _ h
    exact ⟨o', (r.store (i := i)).drop fun p q => List.mem_cons_of_mem _ q⟩
  | true =>
    obtain ⟨a, u, cs, rfl, hb, ht, hm, c, h⟩ := h
    obtain ⟨o', r⟩ := hts _ _ _ h
    exact RelS.storeN hb ht hm c r
theorem js_par2 {i j : Nat} {x y : Str} {a b : Expr} {es : Exs} {px py pt pos : Pos} {kt k2 : Nat} {pt2 : Pos} (hc : X.calm = true) (hN : X.N.Nodup) (hi : X.N[i]? = some x) (hj : X.N[j]? = some y) (hij : i ≠ j)
    (hx : X.env.scope.names.lookup x = some .local) (hy : X.env.scope.names.lookup y = some .local) (h : JA X ca W [a, b] (evEs F es))
    (hw : swappedStores [.Tuple [.Name x px, .Name y py] kt pt] (.Tuple [a, b] k2 pt2) X.env = pure (some [x, y])) :
    JS X ca W (.Assign [.Tuple [.Name x px, .Name y py] kt pt] (.Tuple [a, b] k2 pt2) pos) (evS F (.par [i, j] es)) := PS.imp (ps_par hc hN hi hj hij hx hy h hw rfl) fun E σ H ⟨B, M, o, τ, Fz, s, r, h⟩ => by
  unfold evS at h
  refine ⟨B, M, o, τ, Fz, s, r, h.bnd_.mono (fun xs s' q vs H' hl rt => ?_) exS.ex⟩
  unfold WPm at q
  by_cases hl2 : [i, j].length = xs.length
  · simp only [if_pos hl2] at q
    obtain ⟨x1, x2, rfl⟩ : ∃ x1 x2, xs = [x1, x2] := by
      match xs, hl2 with
      | [x1, x2], _ => exact ⟨x1, x2, rfl⟩
    obtain ⟨v1, v2, rfl⟩ := two_vs hl
    refine ⟨v1, v2, rfl, ?_⟩
    have rt : RelT X.K o τ σ s' H' [(v1, x1.1, x1.2), (v2, x2.1, x2.2)] B M Fz := rt
    obtain ⟨o', r'⟩ := RelT.store2 (i := i) (f := fun σ => σ.set j (some v2)) (g := fun s => setS s j (some (x2.2, x2.1))) (fun B M Fz h => RelT.store (i := j) h) rt
    have q : okS X.K B M τ Fz E .nx (setS (setS s' j (some (x2.2, x2.1))) i (some (x1.2, x1.1))) := q
    have := q o' _ H' r'
    rw [List.set_comm _ _ (Ne.symm hij)] at this
    exact this
  · simp only [if_neg hl2] at q
theorem js_par3 {i j l : Nat} {x y z : Str} {a b c : Expr} {es : Exs} {px py pz pt pos : Pos} {kt k2 : Nat} {pt2 : Pos} (hc : X.calm = true) (hN : X.N.Nodup) (hi : X.N[i]? = some x) (hj : X.N[j]? = some y) (hl0 : X.N[l]? = some z) (hij : i ≠ j) (hil : i ≠ l) (hjl : j ≠ l)
    (hx : X.env.scope.names.lookup x = some .local) (hy : X.env.scope.names.lookup y = some .local) (hz : X.env.scope.names.lookup z = some .local) (h : JA X ca W [a, b, c] (evEs F es))
    (hw : swappedStores [.Tuple [.Name x px, .Name y py, .Name z pz] kt pt] (.Tuple [a, b, c] k2 pt2) X.env = pure (some [x, y, z])) :
    JS X ca W (.Assign [.Tuple [.Name x px, .Name y py, .Name z pz] kt pt] (.Tuple [a, b, c] k2 pt2) pos) (evS F (.par [i, j, l] es)) := PS.imp (ps_par3 hc hN hi hj hl0 hij hil hjl hx hy hz h hw rfl) fun E σ H ⟨B, M, o, τ, Fz, s, r, h⟩ => by
  unfold evS at h
  refine ⟨B, M, o, τ, Fz, s, r, h.bnd_.mono (fun xs s' q vs H' hl rt => ?_) exS.ex⟩
  unfold WPm at q
  by_cases hl2 : [i, j, l].length = xs.length
  · simp only [if_pos hl2] at q
    obtain ⟨x1, x2, x3, rfl⟩ : ∃ x1 x2 x3, xs = [x1, x2, x3] := by
      match xs, hl2 with
      | [x1, x2, x3], _ => exact ⟨x1, x2, x3, rfl⟩
    obtain ⟨v1, v2, v3, rfl⟩ : ∃ v1 v2 v3, vs = [v1, v2, v3] := by
      match vs, hl with
      | [v1, v2, v3], _ => exact ⟨v1, v2, v3, rfl⟩
    refine ⟨v1, v2, v3, rfl, ?_⟩
    have rt : RelT X.K o τ σ s' H' [(v1, x1.1, x1.2), (v2, x2.1, x2.2), (v3, x3.1, x3.2)] B M Fz := rt
    obtain ⟨o', r'⟩ := RelT.store2 (i := i) (f := fun σ => (σ.set l (some v3)).set j (some v2)) (g := fun s => setS (setS s l (some (x3.2, x3.1))) j (some (x2.2, x2.1)))
      (fun B M Fz h => RelT.store2 (i := j) (f := fun σ => σ.set l (some v3)) (g := fun s => setS s l (some (x3.2, x3.1))) (fun B M Fz h => RelT.store (i := l) h) h) rt
    have q : okS X.K B M τ Fz E .nx (setS (setS (setS s' l (some (x3.2, x3.1))) j (some (x2.2, x2.1))) i (some (x1.2, x1.1))) := q
    have := q o' _ H' r'
    rw [List.set_comm _ _ (Ne.symm hjl), List.set_comm _ _ (Ne.symm hil), List.set_comm _ _ (Ne.symm hij)] at this
    exact this
  · simp only [if_neg hl2] at q
theorem js_if {c : Expr} {a b : List Stmt} {e : Ex} {xs ys : Sxs} {pos : Pos} (hc : JT X ca W c (bnd (evE F e) isB)) (ha : JSs X ca W a (evSs F xs)) (hb : JSs X ca W b (evSs F ys)) : JS X ca W (.If c a b pos) (evS F (.ite e xs ys)) := PS.imp (ps_if hc ha hb) fun E σ H ⟨B, M, o, τ, Fz, s, r, h⟩ => by
  unfold evS at h
  refine tvT_st r h fun b s' H' q r' => ?_
  cases b with
  | true => exact ⟨B, M, o, τ, Fz, s', r', q⟩
  | false => exact ⟨B, M, o, τ, Fz, s', r', q⟩
theorem js_pass {pos : Pos} : JS X ca W (.Pass pos) (evS F .pass) := PS.imp ps_pass fun E σ H ⟨B, M, o, τ, Fz, s, r, h⟩ => by
  unfold evS at h
  exact WPm.ret_ h o σ H r
theorem js_expr {a : Expr} {e : Ex} {pos : Pos} (h : JE X ca W a (evE F e)) (hs : swapsWith a none pos.line X.env = pure false) : JS X ca W (.Expr a pos) (evS F (.expr e)) := PS.imp (ps_expr h hs) fun E σ H ⟨B, M, o, τ, Fz, s, r, h⟩ => by
  unfold evS at h
  refine tvE_st r h fun x s' v H' q rt => ?_
  exact WPm.ret_ q o σ H' (rt.one.drop fun p hp => List.mem_cons_of_mem _ hp)
theorem evS_ret {e : Ex} (hv : ∀ i, e ≠ .var i) : evS F (.ret e) = bnd (evE F e) fun x => ret (.rt x.1 x.2) := by
  cases e with
  | var i => exact absurd rfl (hv i)
  | _ => simp only [evS]
theorem js_retE {a : Expr} {e : Ex} {pos : Pos} (h : JE X ca W a (evE F e)) : JS X ca W (.Return (some a) pos) (bnd (evE F e) fun x => ret (.rt x.1 x.2)) := PS.imp (ps_ret h) fun E σ H ⟨B, M, o, τ, Fz, s, r, h⟩ => by
  refine tvE_st r h fun x s' v H' q rt => ?_
  exact WPm.ret_ q v o σ H' rt
theorem js_retV {i : Nat} {a : Expr} {pos : Pos} (h : PE X a (tVar i)) : JS X ca W (.Return (some a) pos) (evS F (.ret (.var i))) := PS.imp (ps_ret h) fun E σ H ⟨B, M, o, τ, Fz, s, r, h⟩ => by
  unfold evS at h
  unfold WPm retV at h
  cases e : lk s i with
  | none => simp only [e] at h
  | some x =>
    obtain ⟨fr, d⟩ := x
    simp only [e] at h
    obtain ⟨v, hv, rt⟩ := r.take e
    exact ⟨v, hv, h v o σ H rt⟩
theorem js_retN {pos : Pos} : JS X ca W (.Return none pos) (evS F (.ret (.cst .non))) := PS.imp ps_retN fun E σ H ⟨B, M, o, τ, Fz, s, r, h⟩ => by
  unfold evS at h
  simp only [evE, bnd_ret] at h
  exact WPm.ret_ h .non o σ H (r.more1 .non)
theorem js_for {tg it : Expr} {body : List Stmt} {tgs : List Nat} {i : Vf.It} {xs : Sxs} {pos : Pos} (hp : PassesOwn (model X.prog X.w) X.A X.env X.xe) (hc : X.calm = true) (hi : JI X ca W tg it (evIt F i)) (hg : PG X tg (gTg X.K tgs)) (hb : JSs X ca W body (evSs F xs))
    (hs : ∀ x : Value, foldedSetIterable it X.env x = pure x) : JS X ca W (.For tg it body [] pos) (evS F (.for_ tgs i xs)) := PS.imp (ps_for hp hc hi hg hb hs) fun E σ H ⟨B, M, o, τ, Fz, s, r, h⟩ => by
  unfold evS at h
  refine ⟨B, M, o, τ, Fz, s, r, h.bnd_.mono (fun ds s1 q J H1 B1 Fz1 hB hF r1 itg => ?_) exS.ex⟩
  obtain ⟨G, Y, wk, gy⟩ := itg.ex
  have hB1 : ∀ b u, B b = some u → B1 b = some u := hB
  refine for_it wk (fun i σ H => ∃ o s, RelS X.K B1 M o τ Fz1 σ s H ∧ WPm (forL tgs (evSs F xs) (ds.drop i)) s (okS X.K B M τ Fz E) (exS X.K ca W B M τ Fz)) ⟨o, s1, r1, by simpa using q⟩
    (fun i σ H _ ⟨o, s, r, _⟩ => (gy _ _ _ _ _ _ _ (fun _ _ z => z) (fun _ z => z) r).1) ?_ ?_
  · intro i x σ2 H2 H3 hi ⟨o2, s2, r2, q2⟩ hy
    obtain ⟨d, hd⟩ : ∃ d, ds[i]? = some d := ⟨ds[i], by simp [hi]⟩
    have hdr : ds.drop i = d :: ds.drop (i + 1) := by
      rw [List.drop_eq_getElem_cons hi]
      have : ds[i] = d := by simpa [hi] using hd
      rw [this]
    rw [hdr] at q2
    unfold forL at q2
    have r3 := (gy _ _ _ _ _ _ _ (fun _ _ z => z) (fun _ z => z) r2).2 i x H3 d hd hy
    refine bind_ok r3 List.mem_cons_self (WPm.bnd_ q2) fun σ3 s3 qb r4 off => ?_
    refine ⟨B1, M, o2, τ, (x, d) :: Fz1, s3, r4, (WPm.bnd_ qb).mono (fun f s4 qf => ?_) (fun c s' z => exS.up hB (fun p hp => List.mem_cons_of_mem _ (hF p hp)) c s' z)⟩
    cases f with
    | nx => exact fun o4 σ4 H4 r5 => ⟨o4, s4, r5.drop fun p hp => List.mem_cons_of_mem _ hp, qf⟩
    | rt d2 fr => exact okS.up (E := E) hB (fun p hp => List.mem_cons_of_mem _ (hF p hp)) (.rt d2 fr) s4 (WPm.ret_ qf)
  · intro σ2 H2 ⟨o2, s2, r2, q2⟩
    have e0 : ds.drop ds.length = [] := by simp
    rw [e0] at q2
    unfold forL at q2
    exact WPm.ret_ q2 o2 σ2 H2 (r2.weak hB (fun _ z => z) fun p hp => r2.fz p (hF p hp))
theorem js_while {c : Expr} {body : List Stmt} {e : Ex} {xs : Sxs} {pos : Pos} (hp : PassesOwn (model X.prog X.w) X.A X.env X.xe) (hc : JT X ca W c (bnd (evE F e) isB)) (hb : JSs X ca W body (evSs F xs)) : JS X ca W (.While c body [] pos) (evS F (.while_ e xs)) := PS.imp (ps_while hp hc hb) fun E σ H ⟨B, M, o, τ, Fz, s, r, h⟩ => by
  unfold evS at h
  refine ⟨fun m σ H => ∃ o s, RelS X.K B M o τ Fz σ s H ∧ WPm (whileL (bnd (evE F e) isB) (evSs F xs) m) s (okS X.K B M τ Fz E) (exS X.K ca W B M τ Fz), ⟨most, o, s, r, h⟩, ?_⟩
  rintro m σ1 H1 ⟨o1, s1, r1, q1⟩
  cases m with
  | zero => unfold whileL at q1; exact WPm.stk_ q1
  | succ m =>
    unfold whileL at q1
    refine tvT_st r1 q1 fun b s2 H2 q2 r2 => ?_
    cases b with
    | true =>
      rw [if_pos rfl] at q2 ⊢
      refine ⟨fun σ H => ∃ o s, RelS X.K B M o τ Fz σ s H ∧ WPm (whileL (bnd (evE F e) isB) (evSs F xs) m) s (okS X.K B M τ Fz E) (exS X.K ca W B M τ Fz), fun σ' H' z => ⟨m, Nat.lt_succ_self m, z⟩, ?_⟩
      refine ⟨B, M, o1, τ, Fz, s2, r2, (WPm.bnd_ q2).mono (fun f s3 qf => ?_) fun _ _ z => z⟩
      cases f with
      | nx => exact fun o4 σ4 H4 r5 => ⟨o4, s3, r5, qf⟩
      | rt d fr => exact WPm.ret_ (ex := exS X.K ca W B M τ Fz) qf
    | false =>
      rw [if_neg Bool.false_ne_true] at q2 ⊢
      exact WPm.ret_ q2 o1 σ1 H2 r2
end
end Vf
namespace Vf
open PySem PySem.Spec PyProof.Rows L2

section
variable {X : Cx} {ca : Nat → Addr} {W : WX} {F : FT}
theorem ownM_of {s : S} {i : Nat} {ok : Unit → S → Prop} {ex : Nat → S → Prop} (h : WPm (ownM i) s ok ex) : (∃ d, Own s i d) ∧ ok () s := by
  unfold WPm ownM at h
  split at h <;> rename_i hh
  · split at hh
    · rename_i d e
      cases hh
      exact ⟨⟨d, e⟩, h⟩
    · cases hh
  · split at hh <;> cases hh
  · exact h.elim
theorem putV_ok {i : Nat} {k x : D} {s : S} {ok : Fl → S → Prop} {ex : Nat → S → Prop} (h : WPm (putV i k x) s ok ex) : ∃ d d', Own s i d ∧ setAt d k x = some d' ∧ ok .nx (setS s i (some (true, d'))) := by
  unfold WPm putV at h
  cases e1 : lk s i with
  | none => simp only [e1] at h
  | some y =>
    obtain ⟨fr, d⟩ := y
    cases fr with
    | false => simp only [e1] at h
    | true =>
      simp only [e1] at h
      cases e2 : setAt d k x with
      | none => simp only [e2] at h
      | some d' => simp only [e2] at h; exact ⟨d, d', e1, e2, h⟩
def nsl : Expr → Bool
  | .Slice .. => false
  | _ => true
theorem assign_nsl {o k : Expr} {pos : Pos} {env : Env} (h : nsl k = true) : ∀ v, assign (.Subscript o k pos) env v = (do
      let ov ← holding [v] (eval o env)
      let iv ← holding [v, ov] (eval k env)
      standAt pos
      holding [v, ov, iv] (setItem ov iv v)
      release [v, ov, iv] []) := by cases k <;> first | (intro _; rfl) | cases h
theorem aug_nsl {k : Expr} (h : nsl k = true) : ∀ ov iv new, augStore k ov iv new = (do holding [new, ov, iv] (setItem ov iv new); release [new, ov, iv] []; pure .next) := by cases k <;> first | (intros; rfl) | cases h
theorem plain_nsl {k : Expr} (h : nsl k = true) : PlainIx k := by cases k <;> first | (intros _ _; rfl) | cases h
theorem js_put {i : Nat} {x : Str} {k a : Expr} {ek e : Ex} {px p2 pos : Pos} (hu : X.A.units + 1 < cLine) (hN : X.N[i]? = some x) (hv : Vis X.env.scope x) (h1 : (x == ("__debug__" : Str)) = false) (h2 : (x == ("__classdict__" : Str)) = false)
    (hk : JE X ca W k (evE F ek)) (h : JE X ca W a (evE F e)) (hn : nsl k = true) (hs : swapsWithSole [.Subscript (.Name x px) k p2] a pos.line X.env = pure false) (hw : swappedStores [.Subscript (.Name x px) k p2] a X.env = pure none) :
    JS X ca W (.Assign [.Subscript (.Name x px) k p2] a pos) (evS F (.put i ek e)) := PS.imp (ps_asg h (pg_sub (pe_var hN hv h1 h2) hk (set_A hu) (assign_nsl hn)) hs hw) fun E σ H ⟨B, M, o, τ, Fz, s, r, h⟩ => by
  unfold evS at h
  refine tvE_st r h fun x s' v H' q rt => ?_
  have r1 := rt.one
  obtain ⟨⟨d, w⟩, q⟩ := ownM_of (WPm.bnd_ q)
  refine ⟨_, (r1.ow i d w).1, ?_⟩
  refine ⟨B, M, o, τ, (v, x.1) :: Fz, s', r1, (WPm.bnd_ q).mono (fun kk s2 z kv H2 rt2 => ?_) (fun c s2 z => EX.fz (fun p hp => List.mem_cons_of_mem _ hp) c s2 (exS.ex (o := o) (σ := σ) c s2 z))⟩
  obtain ⟨d, d', w2, e1, q2⟩ := putV_ok z
  have r3 := rt2.one
  refine setAt_ok r3 w2 (kd := kk.1) (x := x.1) List.mem_cons_self (List.mem_cons_of_mem _ List.mem_cons_self) e1 fun H3 r4 => ?_
  exact q2 o σ H3 (r4.drop fun p hp => List.mem_cons_of_mem _ (List.mem_cons_of_mem _ hp))
def augR : Operator → TIp
  | .Add => ipI fun i j => i + j
  | .Sub => ipI fun i j => i - j
  | _ => fun _ _ _ _ => False
theorem aug_ip (op : Operator) : PIp X op (augR op) := by
  cases op <;> first
    | exact ip_add
    | exact ip_sub
    | exact fun _ _ _ _ _ _ _ _ _ _ _ _ h => h.elim
theorem augD_ok {K : PySem.W.Frag} {P : AP} {τ : TA2} {H : Hp} {op : Operator} {a b d : D} {v u : V} {Q : VK} (ha : Rep K P τ H v a) (hb : Rep K P τ H u b) (e : augD op a b = some d) (q : ∀ i, d = .int i → Q (.int i) H) : augR op v u H Q := by
  unfold augD at e
  split at e
  · cases e; cases ha; cases hb; exact ⟨_, _, rfl, rfl, q _ rfl⟩
  · cases e; cases ha; cases hb; exact ⟨_, _, rfl, rfl, q _ rfl⟩
  · cases e
theorem augD_int {op : Operator} {a b d : D} (e : augD op a b = some d) : ∃ i, d = .int i := by
  unfold augD at e
  split at e
  · cases e; exact ⟨_, rfl⟩
  · cases e; exact ⟨_, rfl⟩
  · cases e
theorem js_aug {i : Nat} {x : Str} {op : Operator} {a : Expr} {e : Ex} {p pos : Pos} (hN : X.N.Nodup) (hi : X.N[i]? = some x) (hx : Loc X.env.scope x) (hf : X.fn x = true ∨ X.env.scope.names.lookup x = some .local) (h : JE X ca W a (evE F e)) :
    JS X ca W (.AugAssign (.Name x p) op a pos) (evS F (.aug i op e)) := PS.imp (ps_aug hN hi hx h (aug_ip op) hf) fun E σ H ⟨B, M, o, τ, Fz, s, r, h⟩ => by
  unfold evS at h
  have h := h.bnd_
  unfold WPm rdV at h
  cases e1 : lk s i with
  | none => simp only [e1] at h
  | some x =>
    obtain ⟨fr, d⟩ := x
    simp only [e1] at h
    obtain ⟨v, hv, r1⟩ := r.freeze e1
    refine ⟨v, hv, ?_⟩
    have h : WPm (bnd (evE F e) fun b s => match augD op d b.1 with
      | some d => Res.ok .nx (setS s i (some (false, d)))
      | none => .stuck) (setS s i (some (false, d))) (okS X.K B M τ Fz E) (exS X.K ca W B M τ Fz) := h
    refine ⟨B, M, o, τ, (v, d) :: Fz, _, r1, h.bnd_.mono (fun y s2 z u H2 rt => ?_) (fun c s2 z => EX.fz (fun p hp => List.mem_cons_of_mem _ hp) c s2 (exS.ex (o := o) (σ := σ) c s2 z))⟩
    have r2 := rt.one
    unfold WPm at z
    cases e2 : augD op d y.1 with
    | none => simp only [e2] at z
    | some d2 =>
      simp only [e2] at z
      have z : okS X.K B M τ Fz E .nx (setS s2 i (some (false, d2))) := z
      refine augD_ok (r2.fz (v, d) (List.mem_cons_of_mem _ List.mem_cons_self)) (r2.fz (u, y.1) List.mem_cons_self) e2 fun n en => ?_
      subst en
      have r3 := (r2.more1 (v := .int n) (d := .int n) (.int n)).store (i := i)
      exact z o _ H2 (r3.drop fun p hp => List.mem_cons_of_mem _ (List.mem_cons_of_mem _ (List.mem_cons_of_mem _ hp)))
theorem js_augk {i : Nat} {x : Str} {op : Operator} {k a : Expr} {ek e : Ex} {px p2 pos : Pos} (hu : X.A.units + 1 < cLine) (hN : X.N[i]? = some x) (hv : Vis X.env.scope x) (h1 : (x == ("__debug__" : Str)) = false) (h2 : (x == ("__classdict__" : Str)) = false)
    (hk : JE X ca W k (evE F ek)) (h : JE X ca W a (evE F e)) (hn : nsl k = true) :
    JS X ca W (.AugAssign (.Subscript (.Name x px) k p2) op a pos) (evS F (.augk i ek op e)) := PS.imp (ps_augS (pe_var hN hv h1 h2) hk (get_A hu) h (aug_ip op) (set_A hu) (aug_nsl hn)) fun E σ H ⟨B, M, o, τ, Fz, s, r, h⟩ => by
  unfold evS at h
  obtain ⟨⟨d, w⟩, h⟩ := ownM_of h.bnd_
  refine ⟨_, (r.ow i d w).1, ?_⟩
  have h := h.bnd_
  refine ⟨B, M, o, τ, Fz, s, r, h.mono (fun kk s1 z kv H1 rt => ?_) exS.ex⟩
  have r1 := rt.one
  unfold WPm at z
  cases e1 : lk s1 i with
  | none => simp only [e1] at z
  | some y =>
    obtain ⟨fr, d1⟩ := y
    cases fr with
    | false => simp only [e1] at z
    | true =>
      simp only [e1] at z
      cases e2 : primD .idx [d1, kk.1] with
      | none => simp only [e2] at z
      | some old =>
        obtain ⟨old, fr⟩ := old
        simp only [e2] at z
        have z : WPm (bnd (evE F e) (fun b s => match augD op old b.1 with
          | some x => putV i kk.1 x s
          | none => .stuck)) s1 (okS X.K B M τ Fz E) (exS X.K ca W B M τ Fz) := z
        have w1 : Own s1 i d1 := e1
        have go : ∀ v, Rep X.K (Prt M o τ s1) τ H1 v old → tvE X.K ca W (evE F e) σ H1 fun y H4 => augR op v y H4 fun z H5 => rSetA (.ref (o i)) kv z H5 fun H6 => E.nx σ H6 := fun v rv => by
          have r2 := r1.more1 rv
          refine ⟨B, M, o, τ, _, s1, r2, z.bnd_.mono (fun b s2 z u H2 rt2 => ?_) (fun c s2 z => EX.fz (fun p hp => List.mem_cons_of_mem _ (List.mem_cons_of_mem _ hp)) c s2 (exS.ex (o := o) (σ := σ) c s2 z))⟩
          have r3 := rt2.one
          unfold WPm at z
          cases e3 : augD op old b.1 with
          | none => simp only [e3] at z
          | some x =>
            simp only [e3] at z
            have z : WPm (putV i kk.1 x) s2 (okS X.K B M τ Fz E) (exS X.K ca W B M τ Fz) := z
            obtain ⟨d2, d', w2, e5, z2⟩ := putV_ok z
            refine augD_ok (r3.fz (v, old) (List.mem_cons_of_mem _ List.mem_cons_self)) (r3.fz (u, b.1) List.mem_cons_self) e3 fun n en => ?_
            subst en
            have r4 := r3.more1 (v := .int n) (d := .int n) (.int n)
            refine setAt_ok r4 w2 (kd := kk.1) (x := .int n) (by simp) List.mem_cons_self e5 fun H3 r5 => ?_
            exact z2 o σ H3 (r5.drop fun p hp => List.mem_cons_of_mem _ (List.mem_cons_of_mem _ (List.mem_cons_of_mem _ (List.mem_cons_of_mem _ hp))))
        obtain ⟨g1, g2, g3, g4, u, cs, g5, g6, g7⟩ := r1.ow i d1 w1
        have tp : TopR X.K (Prt M o τ s1) τ H1 (.ref (o i)) d1 := .inr ⟨_, u, cs, rfl, g5, g6, g7⟩
        have rk := r1.fz (kv, kk.1) List.mem_cons_self
        simp only [primD, arg2] at e2
        unfold idxD at e2
        split at e2
        · obtain ⟨_, xs, eo, g, ra, _⟩ := tp.tup
          cases eo
          rw [g5] at g; cases g; cases g6
        · cases g6
        · rename_i ds j ek2
          cases e3 : at? j ds with
          | none => rw [e3] at e2; cases e2
          | some dd =>
            rw [e3] at e2
            cases e2
            obtain ⟨a1, xs, eo, g, ra⟩ := tp.lst
            cases eo
            obtain ⟨v, q1, q2⟩ := atI_of ra e3
            have ev : kv = V.int j := by rw [ek2] at rk; cases rk; rfl
            subst ev
            exact .inl ⟨_, xs, j, v, rfl, rfl, .of g, q1, go v q2⟩
        · rename_i t kvs
          cases e3 : dkey t kk.1 with
          | none => rw [e3] at e2; cases e2
          | some kk2 =>
            rw [e3] at e2
            simp only [Option.bind_some] at e2
            obtain ⟨a, ov, eo, q1, _, q2⟩ := dget_ok tp (.inl rk) e3
            cases eo
            cases e4 : dget t kk2 kvs with
            | none => rw [e4] at e2; cases e2
            | some dd =>
              rw [e4] at e2 q2
              cases e2
              obtain ⟨v, rfl, q3⟩ := q2
              exact .inr ⟨_, v, rfl, q1, go v q3⟩
        · cases e2
theorem ownL_of {s : S} {i : Nat} {ok : Unit → S → Prop} {ex : Nat → S → Prop} (h : WPm (ownL i) s ok ex) : (∃ ds, Own s i (.lst ds)) ∧ ok () s := own_of h
theorem js_app {i : Nat} {x : Str} {a : Expr} {e : Ex} {px apos cpos pos : Pos} (hN : X.N[i]? = some x) (hv : Vis X.env.scope x) (h1 : (x == ("__debug__" : Str)) = false) (h2 : (x == ("__classdict__" : Str)) = false) (hl : (apos.endLine == cpos.line) = true)
    (h : JE X ca W a (evE F e)) (hn : nst a = true) : JS X ca W (.Expr (.Call (.Attribute (.Name x px) "append" apos) [a] [] cpos) pos) (evS F (.app i e)) := by
  have hA : PA X [a] (tCons (tvE X.K ca W (evE F e)) tNil) := pa_cons h pa_nil (star_cons hn)
  have hE : PE X (.Call (.Attribute (.Name x px) "append" apos) [a] [] cpos) (tBM X.K "list" rAppend (tVar i) (tCons (tvE X.K ca W (evE F e)) tNil)) := pe_bm PySem.F.plainAttrs_list PySem.F.slot_list_append PySem.F.type_list_append mt_append (pe_var hN hv h1 h2) hA rfl (by rw [star_cons hn]; rfl) hl (star_cons hn) rfl
  refine PS.imp (ps_expr hE rfl) fun E σ H ⟨B, M, o, τ, Fz, s, r, h⟩ => ?_
  unfold evS at h
  obtain ⟨⟨ds, w⟩, h⟩ := ownL_of h.bnd_
  obtain ⟨xs, g1, g2, ra⟩ := own_ty r w
  refine ⟨_, g1, .inl ⟨rfl, xs, .of g2⟩, ?_⟩
  refine tvE_st r h fun x s1 v H1 q rt => ?_
  have r1 := rt.one
  unfold WPm at q
  cases e1 : lk s1 i with
  | none => simp only [e1] at q
  | some y =>
    obtain ⟨fr, d⟩ := y
    cases fr with
    | false => simp only [e1] at q
    | true =>
      cases d with
      | lst ds1 =>
        simp only [e1] at q
        by_cases hz : ds1.length < sizeLine
        · simp only [decide_eq_true hz, if_true] at q
          have q : okS X.K B M τ Fz E .nx (setS s1 i (some (true, .lst (ds1 ++ [x.1])))) := q
          have w1 : Own s1 i (.lst ds1) := e1
          obtain ⟨xs1, g3, g4, ra1⟩ := own_ty r1 w1
          have ev : V.ref (o i) = V.ref (o i) := rfl
          refine ⟨o i, xs1, v, rfl, rfl, g4, by rw [ra1.len]; exact hz, ?_⟩
          have r2 := lst_mutate r1 w1 (ra1.append (.cons (r1.fz (v, x.1) List.mem_cons_self) .nil))
          exact q o σ _ (r2.drop fun p hp => List.mem_cons_of_mem _ hp)
        · simp only [decide_eq_false hz, Bool.false_eq_true, if_false] at q
      | _ => simp only [e1] at q
theorem iop_lst : PIp X .Add rExt2 := iop_ext
theorem set_same {σ : L2.St} {i : Nat} {v : V} (h : σ[i]? = some (some v)) : σ.set i (some v) = σ := by
  apply List.ext_getElem?
  intro j
  by_cases e : j = i
  · subst e
    rw [List.getElem?_set_self (List.getElem?_eq_some_iff.mp h).1, h]
  · rw [List.getElem?_set_ne (Ne.symm e)]
theorem js_ext {i : Nat} {x : Str} {a : Expr} {e : Ex} {p pos : Pos} (hN : X.N.Nodup) (hi : X.N[i]? = some x) (hx : Loc X.env.scope x) (hf : X.fn x = true ∨ X.env.scope.names.lookup x = some .local) (h : JE X ca W a (evE F e)) :
    JS X ca W (.AugAssign (.Name x p) .Add a pos) (evS F (.ext i e)) := PS.imp (ps_aug hN hi hx h iop_lst hf) fun E σ H ⟨B, M, o, τ, Fz, s, r, h⟩ => by
  unfold evS at h
  obtain ⟨⟨ds, w⟩, h⟩ := ownL_of h.bnd_
  obtain ⟨xs, g1, g2, ra⟩ := own_ty r w
  refine ⟨_, g1, ?_⟩
  refine tvE_st r h fun x s1 v H1 q rt => ?_
  have r1 := rt.one
  unfold WPm at q
  cases e1 : lk s1 i with
  | none => simp only [e1] at q
  | some y =>
    obtain ⟨fr, d⟩ := y
    cases fr with
    | false => simp only [e1] at q
    | true =>
      cases d with
      | lst ds1 =>
        obtain ⟨xd, xf⟩ := x
        cases xd with
        | lst ys =>
          simp only [e1] at q
          by_cases hz : ds1.length + ys.length ≤ sizeLine
          · have hz' : fits (ds1.length + ys.length) = true := decide_eq_true hz
            simp only [hz', if_true] at q
            have q : okS X.K B M τ Fz E .nx (setS s1 i (some (true, .lst (ds1 ++ ys)))) := q
            have w1 : Own s1 i (.lst ds1) := e1
            obtain ⟨xs1, g3, g4, ra1⟩ := own_ty r1 w1
            have rv := r1.fz (v, .lst ys) List.mem_cons_self
            cases rv with
            | @lst b zs _ hb rb =>
              refine ⟨o i, b, xs1, zs, rfl, rfl, g4, hb.2, by rw [ra1.len, rb.len]; exact hz, ?_⟩
              have r2 := lst_mutate r1 w1 (ra1.append rb)
              show E.nx (σ.set i (some (.ref (o i)))) _
              rw [set_same g3]
              exact q o σ _ (r2.drop fun p hp => List.mem_cons_of_mem _ hp)
          · have hz' : fits (ds1.length + ys.length) = false := decide_eq_false hz
            simp only [hz', Bool.false_eq_true, if_false] at q
        | _ => simp only [e1] at q
      | _ => simp only [e1] at q
theorem pmk_none {x : Str} {c : Addr} {p pos : Pos} (hE : ExcOk X.K X.mg x c) (hg : L2.Gl X x) (hdb : (x == ("__debug__" : Str)) = false) : PMk X (.Call (.Name x p) [] [] pos) (fun _ H Q => Q (.ref c) none H) := by
  obtain ⟨bmB, B, newId, initId, FB, q, gC, kC, r1, r2⟩ := hE
  intro pins s σ H Q I h
  refine wpAny_Call_Name_kw (ld_glob I hg gC ?_ hdb)
  refine PySem.W.callWith_K0 I.kIn kC ?_
  show wpAny _ _ (call (.ref c) []) _ _ _
  obtain ⟨bm, N, nm, qn, bs, hdct, sn, sub, ab, col, dd, k0, k1, k2, k3, k5, mN, hC, hN, hni, T⟩ := exc_obj I.kIn q
  refine wpAny_call_exc_subT FB T hC hN hni (fun h' e hm => ?_) (by simp)
  exact mk_of I hm (raises_own r1 r2) h (I.hok.gone hm.new)
theorem js_raise {x : Str} {c : Nat} {p p2 pos : Pos} (hc : X.calm = true) (tk : Takes X W) (hE : ExcOk X.K X.mg x (ca c)) (hg : L2.Gl X x) (hdb : (x == ("__debug__" : Str)) = false) : JS X ca W (.Raise (some (.Call (.Name x p) [] [] p2)) none pos) (evS F (.raise c)) :=
  PS.imp (ps_raise hc tk (pmk_none hE hg hdb)) fun E σ H ⟨B, M, o, τ, Fz, s, r, h⟩ => by
    unfold evS at h
    exact h o σ H r
theorem je_comp {elt tg iter : Expr} {ifs : List Expr} {scope : Scope} {own : List (Str × Nat)} {pos : Pos} {tgs : List Nat} {it : Vf.It} {c : Exs} {e : Ex} (hc : X.calm = true) (hN : X.N.Nodup) (hi : JI X ca W tg iter (evIt F it)) (ok : BlkOk X.N X.env.scope scope own)
    (hg : ∀ (s : Shared) (H : Hp) (C : Addr) (cl : List (Str × Addr)) (fp : List Addr), PG (X.blk s H scope (compEnvC scope cl C X.env) fp) tg (gTg X.K tgs)) (ht : ∀ (s : Shared) (H : Hp) (C : Addr) (cl : List (Str × Addr)) (fp : List Addr), PTs (X.blk s H scope (compEnvC scope cl C X.env) fp) ifs (tvT X.K ca W0 (condM F c)))
    (he : ∀ (s : Shared) (H : Hp) (C : Addr) (cl : List (Str × Addr)) (fp : List Addr), JE (X.blk s H scope (compEnvC scope cl C X.env) fp) ca W0 elt (evE F e)) (hs : ∀ x, foldedSetIterable iter X.env x = pure x) (hto : ∀ i ∈ tgs, i ∈ own.map (·.2)) :
    JE X ca W (.ListComp elt [⟨tg, iter, ifs, 0⟩] scope pos) (evE F (.comp (own.map (·.2)) tgs it c e)) := by
  have h := pe_lc (elt := elt) (te := tvE X.K ca W0 (evE F e)) (pos := pos) hc hN hi ok hg ht he hs
  exact PE.imp h fun σ H Q q => lc_imp hto q
theorem js_setLc {i : Nat} {y : Str} {py : Pos} {elt tg iter : Expr} {ifs : List Expr} {scope : Scope} {own : List (Str × Nat)} {pos spos : Pos} {tgs : List Nat} {it : Vf.It} {c : Exs} {e : Ex} (hc : X.calm = true) (hN : X.N.Nodup) (hy : X.N[i]? = some y) (hyl : X.env.scope.names.lookup y = some .local)
    (hsw : swapsWith (.ListComp elt [⟨tg, iter, ifs, 0⟩] scope pos) (some (.Name y py)) spos.line X.env = pure true) (hi : JI X ca W tg iter (evIt F it)) (ok : BlkOk X.N X.env.scope scope own)
    (hg : ∀ (s : Shared) (H : Hp) (C : Addr) (cl : List (Str × Addr)) (fp : List Addr), PG (X.blk s H scope (compEnvC scope cl C X.env) fp) tg (gTg X.K tgs)) (ht : ∀ (s : Shared) (H : Hp) (C : Addr) (cl : List (Str × Addr)) (fp : List Addr), PTs (X.blk s H scope (compEnvC scope cl C X.env) fp) ifs (tvT X.K ca W0 (condM F c)))
    (he : ∀ (s : Shared) (H : Hp) (C : Addr) (cl : List (Str × Addr)) (fp : List Addr), JE (X.blk s H scope (compEnvC scope cl C X.env) fp) ca W0 elt (evE F e)) (hs : ∀ x, foldedSetIterable iter X.env x = pure x) (hto : ∀ i ∈ tgs, i ∈ own.map (·.2)) :
    JS X ca W (.Assign [.Name y py] (.ListComp elt [⟨tg, iter, ifs, 0⟩] scope pos) spos) (evS F (.set i (.comp (own.map (·.2)) tgs it c e))) := by
  have h := ps_setLc (te := tvE X.K ca W0 (evE F e)) (pos := pos) hc hN hy hyl hsw hi ok hg ht he hs
  refine PS.imp h fun E σ H q => ?_
  unfold evS at q
  exact set_imp (fun σ H Q q => lc_imp hto q) E σ H q
end
end Vf
namespace Vf
open PySem PySem.Spec PyProof.Rows L2

theorem lenKey_call {P : Program} {w : World} {K : PySem.W.Frag} {mg mb : Str → Option Value} {A : Around} {E : Value → Shared → Prop} {s : Shared} {x name qual : Str} {params : Arguments} {body : List Stmt} {scope : Scope} {f b : Addr} {fd : FuncData} {its : Array Value} {d : PyData}
    (kin : K.In s.heap) (hg : s.heap.Ns mainGlobals mg) (hb : s.heap.Ns builtinsNs mb) (hbb : ∀ x : Str, x ≠ "__name__" → mb x = bootBuiltins x) (lim : s.heap.NoLimit)
    (F : FunD K name qual params body scope [] [] f fd) (bd : L2.Binds K fd [x] []) (hl : mg ("len" : Str) = none) (L : LenKey body scope x) (ht : IsTup s.heap b its) (hz : its.size ≤ sizeLine) (hr : Reads s.heap (.ref b) d []) (hd : A.depth < recursionLimit) :
    wpAny (model P w) A (call (.ref f) [.ref b]) (PySem.W.KeyPure (.tuple [.int its.size, d]) s) E s := by
  obtain ⟨oc, od, dV, kV, doc, pm, an, cdv, ct, osl, rfl, lk, hcd, _⟩ := F.ex
  obtain ⟨p1, p2, p3, p4, k, p5, p6, hbody⟩ := L.body
  have bb := bd s [.ref b] kin rfl
  have main : codeAny (model P w) A (.call (.ref f) ⟨[.ref b], []⟩) (fun r s' => match r with | .ok (.ret v) => PySem.W.KeyPure (.tuple [.int its.size, d]) s v s' | _ => False) s := by
    refine Att.call_fn (binds := [(x, .ref b)]) kin lim lk hcd hd bb ?_ (fun s₁ ic => ?_) L.co L.gen L.kind
    · simp [L.loc]
    · obtain ⟨h1, tk1, e1, kp⟩ := ic.done
      have hloc : (envOfC qual scope s.heap.objs.size f cdv).kindOf x = some .local := L.loc
      have hns := ic.toInCall.ns
      have hval : (bindL (envOfC qual scope s.heap.objs.size f cdv).kindOf [(x, .ref b)] fun _ => none) x = some (.ref b) := by
        exact bindL_get (P := [x]) (vs := [.ref b]) (i := 0) (by simp) rfl rfl hloc
      rw [hbody]
      refine wpAny_execs_cons (wpAny_Return_some (wpAny_Tuple_spliced ?_))
      have rdx : ∀ {Q : Value → Shared → Prop} {E' : Value → Shared → Prop} {h2 : Heap} {t2 : Nat} {p : Pos}, h2.Ns s.heap.objs.size (bindL (envOfC qual scope s.heap.objs.size f cdv).kindOf [(x, .ref b)] fun _ => none) → Q (.ref b) { s with heap := h2, toks := t2 } →
          wpAny (model P w) (A.deeper (envOfC qual scope s.heap.objs.size f cdv)) (eval (.Name x p) (envOfC qual scope s.heap.objs.size f cdv)) Q E' { s with heap := h2, toks := t2 } := fun {Q E' h2 t2 p} hn q =>
        wpAny_Name (wpAny_loadName_local L.kind hloc hn hval q) L.nd
      subst e1
      have g1 : h1.Ns mainGlobals mg := hg.keeps kp
      have g2 : h1.Ns builtinsNs mb := hb.keeps kp
      have hlen : mb ("len" : Str) = some (.builtin "len") := (hbb _ (by decide +kernel)).trans boot_len
      have ht1 : IsTup h1 b its := by
        obtain ⟨o, ho, hc, n, hd⟩ := ht
        exact ⟨o, kp b o ho, hc, n, hd⟩
      refine Calls.spliced_cons ?_
      refine wpAny_Call_Name_kw (Calls.Name_function_global L.kind L.glo (Calls.loadGlobal_builtin g1 hl g2 hlen ?_) (by decide +kernel))
      refine PyProof.Rows.callWith_builtin1 (Calls.spliced_cons (rdx hns (Calls.spliced_nil ?_))) rfl rfl
      refine PyProof.Rows.len_tuple ht1 (by have := line63; omega) ?_
      refine Calls.spliced_cons (rdx (t2 := tk1 + 1 + 1) hns (Calls.spliced_nil ⟨by show 2 ≤ sizeLine; decide, ?_⟩))
      refine ⟨_, tk1 + 1 + 1, rfl, fun c o e => Heap.get?_push_of_some _ (kp c o e), ?_⟩
      have hr1 := (Reads.keeps (h' := h1.push { cls := .type "tuple", data := .seq ([.int its.size (tk1 + 1), .ref b] : List Value).toArray }) (fun c o e => Heap.get?_push_of_some _ (kp c o e)) hr)
      exact Reads.tuple (Heap.get?_push_size _ rfl) rfl rfl (.cons (as := []) (bs := []) (.int _ _) (.cons (as := []) (bs := []) hr1 .nil))
  refine wpAny_call (codeAny_mono main fun r s' q => ?_)
  cases r with
  | error e => exact q.elim
  | ok fl => cases fl <;> first | exact q | exact q.elim
end Vf
namespace Vf
open PySem PySem.Spec PyProof.Rows L2

abbrev WdAt (H : Hp) (v : Value) (w : List Int) : Prop := ∃ b, v = .ref b ∧ H b = some (.tup (w.map V.int))
def rSortK (K : PySem.W.Frag) (f : Addr) : List V → List V → Hp → VK → Prop := fun vs zs H Q => ∃ (a : Addr) (ws : List (List Int)), vs = [V.ref a] ∧ zs = [V.ref f] ∧ ws.length ≤ sizeLine ∧
  ((∃ bs, SqL K H a (bs.map V.ref) ∧ Paired (fun b w => H b = some (.tup (w.map V.int))) bs ws) ∨ ∃ kvs : List (List Key × V), Rd H a (.dT kvs) ∧ kvs.map (·.1) = ws.map fun w => w.map Sum.inl) ∧
  ∀ (bs : List Addr) (p : Addr), H p = none → Paired (fun b w => H b = some (.tup (w.map V.int))) bs (sortW ws) → Q (.ref p) (upd H p (.lst (bs.map V.ref)))
theorem each_of {H : Hp} : ∀ {bs : List Addr} {ws : List (List Int)}, Paired (fun b w => H b = some (.tup (w.map V.int))) bs ws → PySem.W.EachIs (WdAt H) (bs.map Value.ref) ws
  | _, _, .nil => .nil
  | _, _, .cons h t => .cons ⟨_, rfl, h⟩ (each_of t)
theorem of_each {H : Hp} : ∀ {us : List Value} {ws : List (List Int)}, PySem.W.EachIs (WdAt H) us ws → ∃ bs : List Addr, us = bs.map Value.ref ∧ Paired (fun b w => H b = some (.tup (w.map V.int))) bs ws
  | _, _, .nil => ⟨[], rfl, .nil⟩
  | _, _, .cons ⟨b, e, h⟩ t => by
    obtain ⟨bs, e2, h2⟩ := of_each t
    exact ⟨b :: bs, by rw [e, e2]; rfl, .cons h h2⟩
theorem readsAll_ints {h : Heap} : ∀ {ns : List Int} {us : List Value}, Vals (ns.map V.int) us → ReadsAll h us (ns.map .int) []
  | [], _, .nil => .nil
  | n :: ns, _, .cons r t => by
    obtain ⟨tk, rfl⟩ := r
    exact .cons (as := []) (bs := []) (.int n tk) (readsAll_ints t)
theorem wkey_alike (ws : List (List Int)) : PySem.W.AllAlike (ws.map wkey) := PySem.W.AllAlike.of fun a b => by
  simp [wkey, PySem.W.alike, PySem.W.alikeAll, PySem.W.alike_ints]
theorem wkey_depth (w : List Int) : (wkey w).depth ≤ 2 := by
  have h : ∀ ns : List Int, PyData.depthAll (ns.map .int) = 0 := fun ns => by
    induction ns with
    | nil => rfl
    | cons n ns ih => simp [PyData.depthAll, PyData.depth, ih]
  simp [wkey, PyData.depth, PyData.depthAll, h]
theorem refs_eq : ∀ {bs : List Addr} {us : List Value}, Vals (bs.map V.ref) us → us = bs.map Value.ref
  | [], _, .nil => rfl
  | _ :: _, _, .cons r t => by
    have r : _ = Value.ref _ := r
    rw [r, refs_eq t]; rfl
theorem keys_words {H : Hp} : ∀ {kvs : List (List Key × V)} {ks : List (List Key × Addr × Value)} {ws : List (List Int)}, Paired (fun (p : List Key × V) (q : List Key × Addr × Value) => p.1 = q.1 ∧ H q.2.1 = some (.tup (p.1.map kV)) ∧ RelV p.2 q.2.2) kvs ks →
    kvs.map (·.1) = ws.map (fun w => w.map Sum.inl) → Paired (fun b w => H b = some (.tup (w.map V.int))) (ks.map fun x => x.2.1) ws
  | [], [], [], .nil, _ => .nil
  | [], [], _ :: _, .nil, h => by simp at h
  | _ :: _, _ :: _, [], .cons _ _, h => by simp at h
  | (k, v) :: kvs, q :: ks, w :: ws, .cons r t, h => by
    simp only [List.map_cons, List.cons.injEq] at h
    obtain ⟨h1, h2⟩ := h
    refine .cons ?_ (keys_words t h2)
    have r2 := r.2.1
    rw [h1, List.map_map] at r2
    exact r2
section
variable {X : Cx}
theorem cr_sortk {f : Addr} {fd : FuncData} {name qual p : Str} {params : Arguments} {body : List Stmt} {scope : Scope} (hc : X.calm = true) (hu : X.A.units + 10 < cLine) (hdp : X.A.depth < recursionLimit)
    (F : FunD X.K name qual params body scope [] [] f fd) (bd : L2.Binds X.K fd [p] []) (hl : X.mg ("len" : Str) = none) (L : LenKey body scope p) : CallRK X (.builtin "sorted") [Str.ofString "key"] (rSortK X.K f) := by
  intro pins s σ H vs zs us wv Q I r rz h
  obtain ⟨a, ws, rfl, rfl, hz, hsrc, q⟩ := h
  obtain rfl := Vals.ref1 r
  obtain ⟨w1, rfl, e1⟩ := vals1 rz
  obtain rfl : w1 = Value.ref f := e1
  refine call_function_entry_kw kind_sorted plain_sorted entry_sorted (PyProof.Rows.ksk_s1 _ _) ?_
  unfold Builtin.«sorted»
  refine wpAny_bind (m := checkCount "sorted" 1 1 _) (wpAny_pure ?_)
  have key : wpAny (model X.prog X.w) X.A.in1 (collect (.ref a)) (fun acc s1 => ∃ h' tk, s1 = { s with heap := h', toks := tk } ∧ (∀ b o, s.heap.get? b = some o → h'.get? b = some o) ∧ PySem.W.EachIs (WdAt H) acc ws) X.xe s := by
    rcases hsrc with ⟨bs, hs, hp⟩ | ⟨kvs, hd, hk⟩
    · obtain ⟨its, rv, pl, hzl⟩ := I.list hs
      have ei : its = bs.map Value.ref := refs_eq rv
      refine collect_list pl.isList ⟨_, s.toks, rfl, fun b o q => ?_, by rw [ei]; exact each_of hp⟩ (by rw [← rv.length]; exact hzl)
      have hlt : b < s.heap.objs.size := Heap.lt_size q
      rw [Heap.get?_update_ne _ _ _ _ (Nat.ne_of_lt hlt)]
      exact Heap.get?_push_of_some _ q
    · obtain ⟨z, hs, ks, pr, o, es, ep, ho, hx, hdt, he, hn⟩ := (show ObjOk X.prog X.w H s.heap a (.dT kvs) from hd.ok I.hok)
      have l1 : es.size = ks.length := size_of_entries he
      have l2 : kvs.length = ks.length := Paired.length pr
      have l3 : kvs.length = ws.length := by have := congrArg List.length hk; simpa using this
      refine PySem.W.kdu_collect (A := X.A.in1) (kdl_raw hs hx hdt) (I.ok.hd hc) ho (by omega) fun h' tk acc' hkp it => ⟨h', tk, rfl, hkp, ?_⟩
      have ea : acc'.toList = ks.map fun x => Value.ref x.2.1 := by
        have hl : acc'.toList.length = ks.length := by rw [Array.length_toList, it.1]; exact l1
        apply List.ext_getElem?
        intro j
        rw [List.getElem?_map]
        cases hj : acc'.toList[j]? with
        | none =>
          have h1 := List.getElem?_eq_none_iff.mp hj
          rw [List.getElem?_eq_none (by omega)]
          all_goals rfl
        | some v =>
          obtain ⟨en, hen, hv⟩ := it.2 j v (by rw [← Array.getElem?_toList]; exact hj)
          have qe := entry_at he j
          rw [hen] at qe
          cases hb : ks[j]? with
          | none =>
            rw [hb] at qe
            exact nomatch (show some en = none from qe)
          | some b =>
            rw [hb] at qe
            have e2 : en = entryOfKey (tupleKind (mixKind X.prog X.w)) b := Option.some.inj qe
            rw [hv, e2]
            all_goals rfl
      have eb : acc'.toList = (ks.map fun x => x.2.1).map Value.ref := by rw [ea, List.map_map]; all_goals rfl
      rw [eb]
      exact each_of (keys_words pr hk)
  refine wpAny_bind (wpAny_mono key (fun acc s1 hq => ?_) fun _ _ z => z)
  obtain ⟨h', tk, rfl, kp, ea⟩ := hq
  have I1 : Inv X pins σ H { s with heap := h', toks := tk } := I.kept kp
  have lacc : acc.length = ws.length := ea.length
  refine wpAny_bind (wpAny_newList ?_ (by rw [lacc]; exact hz))
  have hoL : (h'.push (seqObj "list" acc.toArray 0)).get? h'.objs.size = some (seqObj "list" acc.toArray 0) := Heap.get?_push_size _ rfl
  show wpAny _ _ _ _ _ { s with heap := h'.push (seqObj "list" acc.toArray 0), toks := tk }
  have kb : ∀ {g : Heap}, PySem.W.KeepsBut h'.objs.size (h'.push (seqObj "list" acc.toArray 0)) g → ∀ b o, h'.get? b = some o → g.get? b = some o := fun {g} kq b o e => kq b o (Nat.ne_of_lt (Heap.lt_size e)) (Heap.get?_push_of_some _ e)
  refine wpAny_bind (wpAny_holding (PySem.W.list_sort_key_data (A := X.A.in1) (b := false) (R := WdAt H) wkey hoL ea (wkey_alike ws) (PySem.W.Sortable.tuples fun w => ⟨_, _, rfl⟩) hz (fun w _ => ?_) (PyProof.Rows.ksk_l1 _ _) (PyProof.Rows.ksk_t1 _ _) (fun v w hv _ g tg kq => ?_) (fun out c g tg kq hg hlo eo => ?_)))
  · have := wkey_depth w
    show X.A.units + 1 + 1 + (wkey w).depth < cLine
    omega
  · obtain ⟨b, rfl, hb⟩ := hv
    have kg := kb kq
    have kall : ∀ b o, X.base.get? b = some o → g.get? b = some o := fun b o e => kg b o (kp b o (I.bk b o e))
    obtain ⟨zz, its, rv, ob, ho, hcl, n, hd⟩ := I1.hok b _ hb
    obtain ⟨mb, hb1, hb2⟩ := I.ok.mod.blt
    have htg : IsTup g b its.toArray := ⟨ob, kg b ob ho, hcl, n, hd⟩
    have hlen : its.length = w.length := by rw [← rv.length, List.length_map]
    have := lenKey_call (P := X.prog) (w := X.w) (A := X.A.in1.in1) (E := fun _ _ => False) (s := { s with heap := g, toks := tg }) (d := .tuple (w.map .int)) (I.ok.mod.kin.keeps kall) (I.ok.mod.glob.keeps kall) (hb1.keeps kall) hb2 (I.ok.mod.nolimit.keeps kall) F bd hl L htg
      (by rw [List.size_toArray, hlen]; have := zz; rw [List.length_map] at this; exact this) (Reads.tuple (kg b ob ho) hcl hd (readsAll_ints rv)) hdp
    rw [List.size_toArray, hlen] at this
    exact this
  · obtain ⟨bs, rfl, hp⟩ := of_each eo
    have kg := kb kq
    have hl2 : (sortW ws).length = ws.length := List.length_mergeSort _
    have hz2 : (bs.map V.ref).length ≤ sizeLine := by
      have := Paired.length hp
      rw [List.length_map, this]
      show (sortW ws).length ≤ sizeLine
      rw [hl2]; exact hz
    have I3 : Inv X pins σ (upd H h'.objs.size (.lst (bs.map V.ref))) { s with heap := g, toks := tg } :=
      I1.laid (t' := tg) (o := .lst (bs.map V.ref)) kg (Nat.le_refl _) ⟨hz2, bs.map Value.ref, c, vals_refs bs, hg⟩
    exact wpAny_pure ⟨_, rfl, .ref h'.objs.size, _, I3, rfl, q bs _ (I1.hok.fresh (Nat.le_refl _)) hp⟩
end
end Vf
namespace Vf
open PySem PySem.Spec PyProof.Rows L2

theorem wordsD_eq : ∀ {ds : List D} {ws : List (List Int)}, wordsD ds = some ws → ds = ws.map wordD
  | [], _, h => by simp [wordsD] at h; subst h; rfl
  | d :: r, ws, h => by
    cases d with
    | tup xs =>
      simp only [wordsD] at h
      split at h
      · rename_i w ws' h1 h2
        cases h
        rw [wordsD_eq h2]
        have : xs = w.map D.int := by
          clear h2
          induction xs generalizing w with
          | nil => simp [intsD] at h1; subst h1; rfl
          | cons x xs ih =>
            cases x with
            | int i =>
              simp only [intsD] at h1
              cases q : intsD xs with
              | none => rw [q] at h1; cases h1
              | some v =>
                rw [q] at h1
                cases h1
                rw [ih _ q]; rfl
            | _ => simp [intsD] at h1
        rw [this]; rfl
      · cases h
    | _ => simp [wordsD] at h
section
variable {K : PySem.W.Frag} {P : AP} {τ : TA2} {H : Hp}
theorem intsV : ∀ {w : List Int} {xs : List V}, RepAll K P τ H xs (w.map D.int) → xs = w.map V.int
  | [], _, .nil => rfl
  | i :: w, _, .cons h t => by cases h; rw [intsV t]; rfl
theorem rep_words : ∀ {ws : List (List Int)} {xs : List V}, RepAll K P τ H xs (ws.map wordD) → ∃ bs : List Addr, xs = bs.map V.ref ∧ Paired (fun b w => H b = some (.tup (w.map V.int))) bs ws
  | [], _, .nil => ⟨[], rfl, .nil⟩
  | w :: ws, _, .cons h t => by
    obtain ⟨bs, e, p⟩ := rep_words t
    have h : Rep K P τ H _ (.tup (w.map D.int)) := h
    cases h with
    | @tup a ys _ q r =>
      rw [intsV r] at q
      exact ⟨a :: bs, by rw [e]; rfl, .cons q.2 p⟩
theorem ints_repV : ∀ (w : List Int), RepAll K P τ H (w.map V.int) (w.map D.int)
  | [] => .nil
  | i :: w => .cons (.int i) (ints_repV w)
theorem words_rep (ht : ∀ b xs, H b = some (.tup xs) → ¬ P b) : ∀ {bs : List Addr} {ws : List (List Int)}, Paired (fun b w => H b = some (.tup (w.map V.int))) bs ws → RepAll K P τ H (bs.map V.ref) (ws.map wordD)
  | _, _, .nil => .nil
  | _, _, .cons (l₂ := _) h t => .cons (.tup ⟨ht _ _ h, h⟩ (ints_repV _)) (words_rep ht t)
theorem repT_words : ∀ {kvs : List (List Key × V)} {ds : List (D × D)} {ws : List (List Int)}, RepT K P τ H kvs ds → ds.map (·.1) = ws.map wordD → kvs.map (·.1) = ws.map fun w => w.map Sum.inl
  | [], [], [], .nil, _ => rfl
  | [], [], _ :: _, .nil, h => by simp at h
  | _, _, [], .cons _ _ _, h => by simp at h
  | _, _, w :: ws, .cons (k := k) (kd := kd) hk _ t, h => by
    simp only [List.map_cons, List.cons.injEq] at h ⊢
    refine ⟨?_, repT_words t h.2⟩
    have e : kd = w.map D.int := by have := h.1; simp only [wordD] at this; exact D.tup.inj this
    rw [e] at hk
    clear e h t
    have key : ∀ (w : List Int), keysD (w.map D.int) = some (w.map Sum.inl) := fun w => by
      induction w with
      | nil => rfl
      | cons i w ih => simp [keysD, keyD, ih]
    rw [key] at hk
    exact (Option.some.inj hk).symm
end
section
variable {X : Cx} {ca : Nat → Addr} {W : WX} {F : FT} {k : Nat}
theorem je_sortk {y : Str} {a : Expr} {e : Ex} {i : Nat} {p py kp pos : Pos} (hr : Room k X.A) (hc : X.calm = true) (hg : L2.Gl X "sorted") (hm : X.mg "sorted" = none) (hgy : L2.Gl X y) (hdy : (y == ("__debug__" : Str)) = false) (lf : LenFn X.K X.mg y) (ha : JE X ca W a (evE F e)) (hn : nst a = true) :
    JE X ca W (.Call (.Name "sorted" p) [a] [⟨some "key", .Name y py, kp⟩] pos) (evE F (.sortk e i)) := by
  obtain ⟨f, fd, name, qual, params, body, scope, p0, m1, m2, Fd, bd, L⟩ := lf
  have u1 := hr.un
  have hK : PK X [⟨some "key", .Name y py, kp⟩] (tCons (tC (.ref f)) tNil) := pk_cons (pe_glob hgy m1 rfl hdy) pk_nil
  have hA : PA X [a] (tCons (tvE X.K ca W (evE F e)) tNil) := pa_cons ha pa_nil (star_cons hn)
  refine PE.imp (pe_callBK (cr_sortk hc (by omega) hr.depth Fd bd m2 L) hg hm boot_sorted hA hK (by decide +kernel) (by decide +kernel) (by rw [star_cons hn]; rfl) (by rw [star_cons hn]; rfl) rfl rfl rfl) fun σ H Q ⟨B, M, o, τ, Fz, s, r, q⟩ => ?_
  unfold evE at q
  refine ⟨B, M, o, τ, Fz, s, r, q.bnd_.mono (fun x s' q v H' rt => ?_) fun _ _ z => z⟩
  have r1 := rt.one
  obtain ⟨z, hz, q⟩ := opt_some (a := x) q
  unfold sortkD at hz
  cases h1 : itemsL x.1 with
  | none => rw [h1] at hz; cases hz
  | some ds =>
    rw [h1] at hz
    simp only [Option.bind_some] at hz
    cases h2 : wordsD ds with
    | none => rw [h2] at hz; cases hz
    | some ws =>
      rw [h2] at hz
      simp only [Option.bind_some] at hz
      split at hz
      · rename_i hf
        cases hz
        have hf := of_decide_eq_true hf
        have e1 := wordsD_eq h2
        have rv := r1.fz (v, x.1) List.mem_cons_self
        have fin : ∀ (bs : List Addr) (p : Addr), H' p = none → Paired (fun b w => H' b = some (.tup (w.map V.int))) bs (sortW ws) → Q (.ref p) (upd H' p (.lst (bs.map V.ref))) := fun bs p hp pr => by
          have ra : RepAll X.K (Prt M o τ s') τ H' (bs.map V.ref) ((sortW ws).map wordD) := words_rep (fun b xs e => r1.tupOk e) pr
          refine got_lst r1 ra (fun v2 H2 rt2 => q v2 H2 ?_) p hp
          obtain ⟨a, u, cs, e, hb, ht, hm, c, r3⟩ := rt2
          refine ⟨a, u, cs, e, hb, ht, hm, c, ?_⟩
          have r3 : RelS X.K (upd B a u) (fun b => M b ∨ b = a) o τ (cs ++ ((v, x.1) :: Fz)) σ s' H2 := r3
          exact r3.drop fun p hp => (List.mem_append.mp hp).elim (fun z => List.mem_append_left _ z) fun z => List.mem_append_right _ (List.mem_cons_of_mem _ z)
        obtain ⟨d, fr⟩ := x
        cases d with
        | lst es =>
          cases h1
          cases rv with
          | @lst a xs _ q1 ra =>
            rw [e1] at ra
            obtain ⟨bs, eb, pb⟩ := rep_words ra
            exact ⟨a, ws, rfl, rfl, hf, .inl ⟨bs, .of (by rw [← eb]; exact q1.2), pb⟩, fin⟩
        | dic t kvs =>
          cases t with
          | false => cases h1
          | true =>
            cases h1
            cases rv with
            | @dT a xs _ np hq ra => exact ⟨a, ws, rfl, rfl, hf, .inr ⟨xs, .of hq, repT_words ra e1⟩, fin⟩
        | _ => cases h1
      · cases hz
end
end Vf
namespace Vf
open PySem PySem.Spec PyProof.Rows L2

structure SC where
  sc : Scope
  sc0 : Scope
  N : List Str
def mainN (x : Str) : Bool := !(x == ("__debug__" : Str)) && !(x == ("__classdict__" : Str)) && !(x == ("__name__" : Str))
def visB (sc : Scope) (x : Str) : Bool := match sc.names.lookup x with
  | some .local => true | some .cell => true | some .free => true | _ => false
def rdB (c : SC) (x : Str) (i : Nat) : Bool := decide (c.N[i]? = some x) && visB c.sc x && mainN x
def locB (sc : Scope) (x : Str) : Bool := match sc.names.lookup x with
  | some .local => true | some .cell => true | _ => false
def wrB (c : SC) (x : Str) (i : Nat) : Bool := decide (c.N[i]? = some x) && locB c.sc0 x && mainN x
def glB (c : SC) (x : Str) : Bool := decide (c.sc.names.lookup x = some .globalImplicit) && mainN x
def frB (C : Cn) (c : SC) (x : Str) : Bool := glB c x && decide (x ∈ C.free)
mutual
def sameD : D → D → Bool
  | .non, .non => true | .bl a, .bl b => decide (a = b) | .int a, .int b => decide (a = b) | .str a, .str b => decide (a = b)
  | .tup a, .tup b => sameDs a b | .lst a, .lst b => sameDs a b | .ktup a, .ktup b => sameDs a b
  | _, _ => false
def sameDs : List D → List D → Bool
  | [], [] => true
  | a :: r, b :: s => sameD a b && sameDs r s
  | _, _ => false
end
mutual
theorem sameD_eq : ∀ {a b : D}, sameD a b = true → a = b
  | .non, b, h => by cases b <;> first | rfl | (simp [sameD] at h)
  | .bl a, b, h => by cases b <;> first | (simp [sameD] at h; rw [h]) | (simp [sameD] at h)
  | .int a, b, h => by cases b <;> first | (simp [sameD] at h; rw [h]) | (simp [sameD] at h)
  | .str a, b, h => by cases b <;> first | (simp [sameD] at h; rw [h]) | (simp [sameD] at h)
  | .tup a, b, h => by cases b <;> first | (simp only [sameD] at h; rw [sameDs_eq h]) | (simp [sameD] at h)
  | .lst a, b, h => by cases b <;> first | (simp only [sameD] at h; rw [sameDs_eq h]) | (simp [sameD] at h)
  | .ktup a, b, h => by cases b <;> first | (simp only [sameD] at h; rw [sameDs_eq h]) | (simp [sameD] at h)
  | .dic _ _, b, h => by cases b <;> simp [sameD] at h
  | .tape, b, h => by cases b <;> simp [sameD] at h
theorem sameDs_eq : ∀ {a b : List D}, sameDs a b = true → a = b
  | [], [], _ => rfl
  | [], _ :: _, h => by simp [sameDs] at h
  | _ :: _, [], h => by simp [sameDs] at h
  | a :: r, b :: s, h => by
    simp only [sameDs, Bool.and_eq_true] at h
    rw [sameD_eq h.1, sameDs_eq h.2]
end
def conB (C : Cn) (x : Str) (d : D) : Bool := match C.cons.lookup x with
  | some e => sameD e d
  | none => false
def cstB : Const → D → Bool
  | .int i, .int j => decide (i = j)
  | .bool i, .bl j => decide (i = j)
  | .none, .non => true
  | .str i, .str j => decide (i = j)
  | _, _ => false
def cmpOps : List CmpOp := [.Eq, .NotEq, .Lt, .LtE, .Gt, .GtE, .In, .NotIn]
def binOps : List Operator := [.Add, .Sub, .Mult, .FloorDiv, .Mod]
def nset : Expr → Bool
  | .Set .. => false
  | _ => true
def isOp (t : Bool) : CmpOp := if t then .Is else .IsNot
def opnds (C : Cn) (c : SC) (p : Pr) (a : Expr) : Option (List Expr) := match p, a with
  | .bin op, .BinOp a op' b _ => if decide (op' = op) && decide (op ∈ binOps) then some [a, b] else none
  | .cmp op, .Compare a [op'] [b] _ => if decide (op' = op) && decide (op ∈ cmpOps) && nset b then some [a, b] else none
  | .isN t, .Compare a [op] [.Constant .none _ _] _ => if decide (op = isOp t) then some [a] else none
  | .isB b t, .Compare a [op] [.Constant (.bool b') _ _] _ => if decide (op = isOp t) && decide (b' = b) then some [a] else none
  | .neg, .UnaryOp .USub a _ => some [a]
  | .idx, .Subscript a b _ => if nsl b then some [a, b] else none
  | .sl true false, .Subscript a (.Slice (some l) none none _) _ => some [a, l]
  | .sl false true, .Subscript a (.Slice none (some l) none _) _ => some [a, l]
  | .sl true true, .Subscript a (.Slice (some l) (some m) none _) _ => some [a, l, m]
  | .isT T, .Call (.Name f _) [a, .Name t _] [] _ => if decide (f = ("isinstance" : Str)) && decide (t = (T : Str)) && decide (T ∈ tyIds) && frB C c f && frB C c t then some [a] else none
  | .blt id, .Call (.Name f _) (a :: as) [] _ => if decide (f = (id : Str)) && decide (id ∈ bltIds) && frB C c f then some (a :: as) else none
  | _, _ => none
def slOk (p : Pr) (es : Exs) : Bool := match p with
  | .sl true true => (match es with
    | .cons _ (.cons (.chkI _) (.cons _ .nil)) => true
    | _ => false)
  | _ => true
def tst1 : Ex → Bool
  | .ite _ _ _ => false
  | .chkI _ => false
  | _ => true
def ownOf (N : List Str) (scope : Scope) : List (Str × Nat) := scope.names.filterMap fun y => if locB scope y.1 then (N.idxOf? y.1).map fun i => (y.1, i) else none
def namesB (c : SC) : List Nat → List Expr → Bool
  | [], [] => true
  | i :: is, .Name x _ :: ts => wrB c x i && namesB c is ts
  | _, _ => false
def tgB (c : SC) (tg : List Nat) (a : Expr) : Bool := match tg, a with
  | [i], .Name x _ => wrB c x i
  | i :: j :: is, .Tuple ts _ _ => namesB c (i :: j :: is) ts
  | _, _ => false
def blkSC (c : SC) (scope : Scope) : SC := ⟨relS scope c.sc, scope, c.N⟩
def isTup : Expr → Bool
  | .Tuple .. => true
  | _ => false
mutual
def ckE (C : Cn) (c : SC) : Ex → Expr → Bool
  | .var i, a => match a with
    | .Name x _ => rdB c x i
    | _ => false
  | .cst d, a => match a with
    | .Constant k _ _ => cstB k d
    | _ => false
  | .glo x d, a => match a with
    | .Name y _ => decide (y = x) && glB c x && conB C x d
    | _ => false
  | .prim p es, a => match opnds C c p a with
    | some as => slOk p es && ckEs C c es as
    | none => false
  | .chkI e, a => ckE C c e a
  | .not e, a => match a with
    | .UnaryOp .Not b _ => tst1 e && ckE C c e b
    | _ => false
  | .and e f, a => match a with
    | .BoolOp .And (a :: b :: rest) pos => tst1 e && tst1 f && ckE C c e a && (match rest with
      | [] => ckE C c f b
      | _ :: _ => ckE C c f (.BoolOp .And (b :: rest) pos))
    | _ => false
  | .or e f, a => match a with
    | .BoolOp .Or (a :: b :: rest) pos => tst1 e && tst1 f && ckE C c e a && (match rest with
      | [] => ckE C c f b
      | _ :: _ => ckE C c f (.BoolOp .Or (b :: rest) pos))
    | _ => false
  | .ite e f g, a => match a with
    | .IfExp t a b _ => tst1 e && ckE C c e t && ckE C c f a && ckE C c g b
    | _ => false
  | .tup es, a => match a with
    | .Tuple as _ _ => ckEs C c es as
    | _ => false
  | .lst es, a => match a with
    | .List as _ => ckEs C c es as
    | _ => false
  | .dic _, a => match a with
    | .Dict [] [] _ => true
    | _ => false
  | .call f es, a => match a with
    | .Call (.Name x _) as [] _ => decide (C.names.lookup x = some f) && glB c x && decide (C.ar[f]? = some es.len) && ckEs C c es as
    | _ => false
  | .pop i es, a => match a with
    | .Call (.Attribute (.Name x _) m apos) as [] cpos => decide (m = ("pop" : Str)) && rdB c x i && (apos.endLine == cpos.line) && decide (es.len ≤ 1) && ckEs C c es as
    | _ => false
  | .comp own tg it cd e, a => match a with
    | .ListComp elt gens scope _ => (match gens with
      | [⟨t, i, ifs, n⟩] => decide (n = 0) && decide (own = (ownOf c.N scope).map (·.2)) && blkC c.N c.sc scope (ownOf c.N scope) && tgB (blkSC c scope) tg t && (tg.all fun j => decide (j ∈ own)) && nset i && ckI C c it t i &&
        ckEs C (blkSC c scope) cd ifs && ckCd cd && ckE C (blkSC c scope) e elt
      | _ => false)
    | _ => false
  | .sortk e _, a => match a with
    | .Call (.Name s _) [a] [⟨some kw, .Name y _, _⟩] _ => decide (s = ("sorted" : Str)) && decide (kw = ("key" : Str)) && frB C c s && glB c y && decide (y ∈ C.lenk) && nst a && ckE C c e a
    | _ => false
def ckEs (C : Cn) (c : SC) : Exs → List Expr → Bool
  | .nil, as => as.isEmpty
  | .cons e es, as => match as with
    | a :: as => nst a && ckE C c e a && ckEs C c es as
    | [] => false
def ckCd : Exs → Bool
  | .nil => true
  | .cons e es => tst1 e && (match es with
    | .nil => true
    | .cons _ _ => false)
def ckI (C : Cn) (c : SC) : It → Expr → Expr → Bool
  | .ex e, _, a => ckE C c e a
  | .rng1 e, _, a => match a with
    | .Call (.Name f _) [a] [] _ => decide (f = ("range" : Str)) && frB C c f && nst a && ckE C c e a
    | _ => false
  | .rng2 e g, _, a => match a with
    | .Call (.Name f _) [a, b] [] _ => decide (f = ("range" : Str)) && frB C c f && nst a && nst b && ckE C c e a && ckE C c g b
    | _ => false
  | .zip e g, t, a => match a with
    | .Call (.Name f _) [a, b] [] _ => decide (f = ("zip" : Str)) && frB C c f && isTup t && nst a && nst b && ckE C c e a && ckE C c g b
    | _ => false
  | .enm e, t, a => match a with
    | .Call (.Name f _) [a] [] _ => decide (f = ("enumerate" : Str)) && frB C c f && isTup t && nst a && ckE C c e a
    | _ => false
end

structure Good (C : Cn) (F : FT) (k : Nat) (c : SC) (X : Cx) (W : WX) : Prop where
  N : X.N = c.N
  nd : X.N.Nodup
  sc : X.env.scope = c.sc
  wr : ∀ x, (c.sc0.names.lookup x = some .local ∨ c.sc0.names.lookup x = some .cell) → Loc X.env.scope x ∧ (X.fn x = true ∨ X.env.scope.names.lookup x = some .local)
  calm : X.calm = true
  room : Room k X.A
  tk : Takes X W
  pf : PF C F (glX X k)
section
variable {C : Cn} {F : FT} {k : Nat} {c : SC} {X : Cx} {W : WX}
theorem mainN_ok {x : Str} (h : mainN x = true) : (x == ("__debug__" : Str)) = false ∧ (x == ("__classdict__" : Str)) = false ∧ x ≠ ("__name__" : Str) := by
  unfold mainN at h
  simp only [Bool.and_eq_true, Bool.not_eq_true'] at h
  refine ⟨h.1.1, h.1.2, fun e => ?_⟩
  subst e
  have := h.2
  simp at this
theorem rd_ok (G : Good C F k c X W) {x : Str} {i : Nat} (h : rdB c x i = true) : X.N[i]? = some x ∧ Vis X.env.scope x ∧ (x == ("__debug__" : Str)) = false ∧ (x == ("__classdict__" : Str)) = false := by
  unfold rdB at h
  simp only [Bool.and_eq_true, decide_eq_true_eq] at h
  obtain ⟨⟨h1, h2⟩, h3⟩ := h
  obtain ⟨m1, m2, _⟩ := mainN_ok h3
  refine ⟨by rw [G.N]; exact h1, ?_, m1, m2⟩
  rw [G.sc]
  unfold visB at h2
  split at h2
  · exact .inl (by assumption)
  · exact .inr (.inl (by assumption))
  · exact .inr (.inr (by assumption))
  · cases h2
theorem wr_ok (G : Good C F k c X W) {x : Str} {i : Nat} (h : wrB c x i = true) : X.N[i]? = some x ∧ Loc X.env.scope x ∧ (X.fn x = true ∨ X.env.scope.names.lookup x = some .local) := by
  unfold wrB at h
  simp only [Bool.and_eq_true, decide_eq_true_eq] at h
  obtain ⟨⟨h1, h2⟩, h3⟩ := h
  refine ⟨by rw [G.N]; exact h1, G.wr x ?_⟩
  unfold locB at h2
  split at h2
  · exact .inl (by assumption)
  · exact .inr (by assumption)
  · cases h2
theorem gl_ok (G : Good C F k c X W) {x : Str} (h : glB c x = true) : L2.Gl X x ∧ (x == ("__debug__" : Str)) = false := by
  unfold glB at h
  simp only [Bool.and_eq_true, decide_eq_true_eq] at h
  refine ⟨?_, (mainN_ok h.2).1⟩
  show X.env.scope.names.lookup x = some .globalImplicit
  rw [G.sc]; exact h.1
theorem fr_ok (G : Good C F k c X W) {x : Str} (h : frB C c x = true) : L2.Gl X x ∧ X.mg x = none := by
  unfold frB at h
  simp only [Bool.and_eq_true, decide_eq_true_eq] at h
  exact ⟨(gl_ok G h.1).1, G.pf.free x h.2⟩
theorem pgs_of (G : Good C F k c X W) : ∀ {is : List Nat} {ts : List Expr}, namesB c is ts = true → PGs X ts (gNs is) ∧ (assignEach ts X.env).length = is.length ∧ (assignEach ts X.env).findIdx? (·.1) = none
  | [], [], _ => ⟨pgs_nil, rfl, rfl⟩
  | [], _ :: _, h => by simp [namesB] at h
  | _ :: _, [], h => by simp [namesB] at h
  | i :: is, t :: ts, h => by
    cases t with
    | Name x p =>
      simp only [namesB, Bool.and_eq_true] at h
      obtain ⟨h1, h2, h3⟩ := wr_ok G h.1
      obtain ⟨g1, g2, g3⟩ := pgs_of G h.2
      refine ⟨pgs_cons (pg_name G.nd h1 h2 h3) g1, ?_, ?_⟩
      · show (assignEach ts X.env).length + 1 = is.length + 1
        rw [g2]
      · show List.findIdx? _ ((false, assign (.Name x p) X.env) :: assignEach ts X.env) = none
        rw [List.findIdx?_cons]
        simp [g3]
    | _ => simp [namesB] at h
theorem tg_ok (G : Good C F k c X W) {tg : List Nat} {a : Expr} (h : tgB c tg a = true) : PG X a (gTg X.K tg) := by
  unfold tgB at h
  split at h
  · obtain ⟨h1, h2, h3⟩ := wr_ok G h
    exact pg_name G.nd h1 h2 h3
  · obtain ⟨g1, g2, g3⟩ := pgs_of G h
    exact pg_tup G.calm g1 g2 g3
  · cases h
theorem blk_ok (G : Good C F k c X W) {scope : Scope} {own : List (Str × Nat)} (ok : BlkOk c.N c.sc scope own) (s : Shared) (H : Hp) (D : Addr) (cl : List (Str × Addr)) (fp : List Addr) : Good C F k (blkSC c scope) (X.blk s H scope (compEnvC scope cl D X.env) fp) W0 := by
  have hsc : (X.blk s H scope (compEnvC scope cl D X.env) fp).env.scope = relS scope c.sc := by
    rw [← G.sc]; rfl
  refine ⟨G.N, G.nd, hsc, fun x h => ?_, G.calm, G.room, takes0, G.pf⟩
  rw [hsc]
  rcases h with h | h
  · have := lookup_relS_keep (sc := c.sc) (show NameKind.local ≠ .free by decide) h
    exact ⟨.inl this, .inr this⟩
  · have := lookup_relS_keep (sc := c.sc) (show NameKind.cell ≠ .free by decide) h
    refine ⟨.inr this, .inl ?_⟩
    have h : scope.names.lookup x = some .cell := h
    show (scope.names.lookup x == some .cell) = true
    rw [h]; rfl
structure J3 (X : Cx) (ca : Nat → Addr) (W : WX) (F : FT) (e : Ex) (a : Expr) : Prop where
  je : JE X ca W a (evE F e)
  jo : JO X ca W a (evOp F e)
  jt : tst1 e = true → JT X ca W a (bnd (evE F e) isB)
  jw : tst1 e = true → ∀ op es pos, a = .BoolOp op es pos → PW X a (tvT X.K ca W (bnd (evE F e) isB))
  jc : ∀ f, e = .chkI f → JE X ca W a (evE F f)
def plainT : Expr → Bool
  | .UnaryOp .Not _ _ => false
  | .BoolOp .. => false
  | .IfExp .. => false
  | .Compare .. => false
  | _ => true
theorem J3.val {ca : Nat → Addr} {e : Ex} {a : Expr} (h : JE X ca W a (evE F e)) (hv : ∀ i, e ≠ .var i) (hp : plainT a = true) (hc : ∀ f, e ≠ .chkI f := by intro _ z; cases z) : J3 X ca W F e a := by
  refine ⟨h, jo_of h hv, fun _ => jt_val h ?_, fun _ op es pos e => ?_, fun f e => absurd e (hc f)⟩
  · intro whole
    cases a with
    | UnaryOp op b p => cases op <;> first | rfl | cases hp
    | BoolOp => cases hp
    | IfExp => cases hp
    | Compare => cases hp
    | _ => rfl
  · subst e; cases hp
def AllJ (X : Cx) (ca : Nat → Addr) (W : WX) (F : FT) : Exs → List Expr → Prop
  | .nil, [] => True
  | .cons e es, a :: as => nst a = true ∧ J3 X ca W F e a ∧ AllJ X ca W F es as
  | _, _ => False
theorem AllJ.ja {ca : Nat → Addr} : ∀ {es : Exs} {as : List Expr}, AllJ X ca W F es as → JA X ca W as (evEs F es) ∧ nstAll as = true
  | .nil, [], _ => ⟨ja_nil, rfl⟩
  | .nil, _ :: _, h => h.elim
  | .cons _ _, [], h => h.elim
  | .cons e es, a :: as, ⟨h1, h2, h3⟩ => by
    obtain ⟨g1, g2⟩ := AllJ.ja h3
    exact ⟨ja_cons h2.je g1 h1, by unfold nstAll at g2 ⊢; simp [h1, g2]⟩
theorem AllJ.jos {ca : Nat → Addr} : ∀ {es : Exs} {as : List Expr}, AllJ X ca W F es as → JOs X ca W as (evO F es) ∧ nstAll as = true
  | .nil, [], _ => ⟨jos_nil, rfl⟩
  | .nil, _ :: _, h => h.elim
  | .cons _ _, [], h => h.elim
  | .cons e es, a :: as, ⟨h1, h2, h3⟩ => by
    obtain ⟨g1, g2⟩ := AllJ.jos h3
    exact ⟨jos_cons h2.jo g1 h1, by unfold nstAll at g2 ⊢; simp [h1, g2]⟩
end
end Vf
namespace Vf
open PySem PySem.Spec PyProof.Rows L2
section
variable {C : Cn} {F : FT} {k : Nat} {c : SC} {X : Cx} {W : WX} {ca : Nat → Addr}
theorem AllJ.one {es : Exs} {a : Expr} (h : AllJ X ca W F es [a]) : ∃ e, es = .cons e .nil ∧ J3 X ca W F e a ∧ nst a = true := by
  match es, h with
  | .nil, h => exact h.elim
  | .cons e .nil, h => exact ⟨e, rfl, h.2.1, h.1⟩
  | .cons e (.cons _ _), h => exact h.2.2.elim
theorem AllJ.two {es : Exs} {a b : Expr} (h : AllJ X ca W F es [a, b]) : ∃ e f, es = .cons e (.cons f .nil) ∧ J3 X ca W F e a ∧ J3 X ca W F f b ∧ nst a = true ∧ nst b = true := by
  match es, h with
  | .nil, h => exact h.elim
  | .cons e r, h =>
    obtain ⟨f, rfl, h1, h2⟩ := AllJ.one h.2.2
    exact ⟨e, f, rfl, h.2.1, h1, h.1, h2⟩
theorem AllJ.three {es : Exs} {a b c : Expr} (h : AllJ X ca W F es [a, b, c]) : ∃ e f g, es = .cons e (.cons f (.cons g .nil)) ∧ J3 X ca W F e a ∧ J3 X ca W F f b ∧ J3 X ca W F g c := by
  match es, h with
  | .nil, h => exact h.elim
  | .cons e r, h =>
    obtain ⟨f, g, rfl, h1, h2, _⟩ := AllJ.two h.2.2
    exact ⟨e, f, g, rfl, h.2.1, h1, h2⟩
theorem cmp_mark {op : CmpOp} {b : Expr} (h : nset b = true) : behindInMarks op b = false := by
  cases b <;> first | rfl | cases h
theorem J3.cmp {p : Pr} {es : Exs} {a : Expr} (h : JE X ca W a (evE F (.prim p es))) (ht : JT X ca W a (bnd (evE F (.prim p es)) isB)) (hb : ∀ op es pos, a ≠ .BoolOp op es pos) : J3 X ca W F (.prim p es) a :=
  ⟨h, jo_of h (fun i => by intro z; cases z), fun _ => ht, fun _ op es pos e => absurd e (hb op es pos), fun f z => by cases z⟩
theorem jcmp {op : CmpOp} {r : R2} {a b : Expr} {e1 e2 : Ex} {pos : Pos} (ho : OpR X (compareOp op) r) (sv : Serves X.K (.cmp op) (two r)) (ha : JO X ca W a (evOp F e1)) (hb : JO X ca W b (evOp F e2)) (hm : behindInMarks op b = false) :
    J3 X ca W F (.prim (.cmp op) (.cons e1 (.cons e2 .nil))) (.Compare a [op] [b] pos) := J3.cmp (je_cmp ho sv ha hb hm) (jt_cmp ho sv ha hb hm) (fun _ _ _ z => by cases z)
theorem prim_ok (G : Good C F k c X W) {p : Pr} {es : Exs} {a : Expr} {as : List Expr} (h : opnds C c p a = some as) (hs : slOk p es = true) (hj : AllJ X ca W F es as) : J3 X ca W F (.prim p es) a := by
  have u1 := G.room.un
  have prv : ∀ i, Ex.prim p es ≠ .var i := fun i z => by cases z
  unfold opnds at h
  split at h
  · -- bin
    split at h
    · rename_i hc
      cases h
      simp only [Bool.and_eq_true, decide_eq_true_eq] at hc
      obtain ⟨e1, e2, rfl, j1, j2, _⟩ := hj.two
      obtain ⟨rfl, hm⟩ := hc
      refine J3.val ?_ prv rfl
      have hm' := hm
      simp only [binOps, List.mem_cons, List.not_mem_nil, or_false] at hm'
      rcases hm' with e | e | e | e | e <;> subst e
      · exact je_bin op_addA serves_add j1.jo j2.jo
      · exact je_bin op_sub serves_sub j1.jo j2.jo
      · exact je_bin op_mulA serves_mul j1.jo j2.jo
      · exact je_bin op_fdivZ serves_div j1.jo j2.jo
      · exact je_bin op_modN serves_mod j1.jo j2.jo
    · cases h
  · -- cmp
    split at h
    · rename_i hc
      cases h
      simp only [Bool.and_eq_true, decide_eq_true_eq] at hc
      obtain ⟨e1, e2, rfl, j1, j2, _⟩ := hj.two
      obtain ⟨⟨rfl, hm⟩, hn⟩ := hc
      have hb := fun op => cmp_mark (op := op) hn
      have hm' := hm
      simp only [cmpOps, List.mem_cons, List.not_mem_nil, or_false] at hm'
      rcases hm' with e | e | e | e | e | e | e | e <;> subst e
      · exact jcmp (op_eqA (by omega)) serves_eq j1.jo j2.jo (hb _)
      · exact jcmp (op_neA (by omega)) serves_ne j1.jo j2.jo (hb _)
      · exact jcmp (op_ltA (by omega)) serves_lt j1.jo j2.jo (hb _)
      · exact jcmp op_le serves_le j1.jo j2.jo (hb _)
      · exact jcmp op_gt serves_gt j1.jo j2.jo (hb _)
      · exact jcmp op_ge serves_ge j1.jo j2.jo (hb _)
      · exact jcmp (op_inA (by omega)) serves_in j1.jo j2.jo (hb _)
      · exact jcmp (op_notInA (by omega)) serves_notIn j1.jo j2.jo (hb _)
    · cases h
  · -- is None
    split at h
    · rename_i hc
      cases h
      have hc := of_decide_eq_true hc
      subst hc
      obtain ⟨e1, rfl, j1, _⟩ := hj.one
      exact J3.cmp (a := .Compare _ [isOp _] [.Constant .none _ _] _) (je_isN _ j1.jo) (jt_isN _ j1.jo) (fun _ _ _ z => by cases z)
    · cases h
  · split at h
    · rename_i hc
      cases h
      simp only [Bool.and_eq_true, decide_eq_true_eq] at hc
      obtain ⟨rfl, rfl⟩ := hc
      obtain ⟨e1, rfl, j1, _⟩ := hj.one
      exact J3.cmp (a := .Compare _ [isOp _] [.Constant (.bool _) _ _] _) (je_isB _ _ j1.jo) (jt_isB _ _ j1.jo) (fun _ _ _ z => by cases z)
    · cases h
  · cases h
    obtain ⟨e1, rfl, j1, _⟩ := hj.one
    exact J3.val (je_neg j1.jo) prv rfl
  · split at h
    · rename_i hc
      cases h
      obtain ⟨e1, e2, rfl, j1, j2, _⟩ := hj.two
      exact J3.val (je_idx (ix_D (by omega)) serves_idx j1.jo j2.jo (plain_nsl hc)) prv rfl
    · cases h
  · cases h
    obtain ⟨e1, e2, rfl, j1, j2, _⟩ := hj.two
    exact J3.val (je_slL j1.jo j2.jo) prv rfl
  · cases h
    obtain ⟨e1, e2, rfl, j1, j2, _⟩ := hj.two
    exact J3.val (je_slH j1.jo j2.jo) prv rfl
  · cases h
    obtain ⟨e1, e2, e3, rfl, j1, j2, j3⟩ := hj.three
    cases e2 with
    | chkI e2 => exact J3.val (je_slB j1.jo (j2.jc _ rfl) j3.jo) prv rfl
    | _ => simp [slOk] at hs
  · split at h
    · rename_i hc
      cases h
      simp only [Bool.and_eq_true, decide_eq_true_eq] at hc
      obtain ⟨⟨⟨⟨rfl, rfl⟩, hT⟩, f1⟩, f2⟩ := hc
      obtain ⟨e1, rfl, j1, hn⟩ := hj.one
      obtain ⟨g1, g2⟩ := fr_ok G f1
      obtain ⟨g3, g4⟩ := fr_ok G f2
      exact J3.val (je_isT hT g1 g2 g3 g4 j1.jo hn) prv rfl
    · cases h
  · split at h
    · rename_i hc
      cases h
      simp only [Bool.and_eq_true, decide_eq_true_eq] at hc
      obtain ⟨⟨rfl, hT⟩, f1⟩ := hc
      obtain ⟨g1, g2⟩ := fr_ok G f1
      obtain ⟨q1, q2⟩ := hj.jos
      exact J3.val (je_blt (blt_ok G.calm hT) g1 g2 q1 q2) prv rfl
    · cases h
  · cases h
theorem je_chkI {e : Ex} {a : Expr} (h : JE X ca W a (evE F e)) : JE X ca W a (evE F (.chkI e)) := PE.imp h fun σ H Q ⟨B, M, o, τ, Fz, s, r, q⟩ => by
  unfold evE at q
  refine ⟨B, M, o, τ, Fz, s, r, q.bnd_.mono (fun x s' q v H' rt => ?_) fun _ _ z => z⟩
  obtain ⟨d, fr⟩ := x
  cases d with
  | int i =>
    have rt1 : RelS X.K B M o τ ((v, D.int i) :: Fz) σ s' H' := rt.one
    exact WPm.ret_ (ok := fun (x : D × Bool) s' => ∀ v H', RelT X.K o τ σ s' H' [(v, x.1, x.2)] B M Fz → Q v H') (ex := fun _ _ => True) q v H' rt1
  | _ => exact q.elim
end
end Vf
namespace Vf
open PySem PySem.Spec PyProof.Rows L2
section
variable {C : Cn} {F : FT} {k : Nat}
theorem cst_ok {X : Cx} {ca : Nat → Addr} {W : WX} {q : Const} {d : D} {n : Nat} {pos : Pos} (h : cstB q d = true) : JE X ca W (.Constant q n pos) (evE F (.cst d)) := by
  have key : ∀ {v : V}, PE X (.Constant q n pos) (tC v) → (∀ P τ H, Rep X.K P τ H v d) → JE X ca W (.Constant q n pos) (evE F (.cst d)) := fun hp hr => PE.imp hp fun σ H Q z => by
    unfold evE at z
    exact tvE_cst hr z
  unfold cstB at h
  split at h
  · cases (of_decide_eq_true h); exact key pe_int fun _ _ _ => .int _
  · cases (of_decide_eq_true h); exact key pe_bl fun _ _ _ => .bl _
  · exact key pe_non fun _ _ _ => .non
  · cases (of_decide_eq_true h); exact key pe_str fun _ _ _ => .str _
  · cases h
theorem fold_nset {e : Expr} {env : Env} (h : nset e = true) : ∀ x : Value, foldedSetIterable e env x = pure x := by
  cases e <;> first | (intro x; rfl) | cases h
mutual
theorem sound_E : ∀ (e : Ex) {c : SC} {X : Cx} {W : WX} (G : Good C F k c X W) {a : Expr}, ckE C c e a = true → J3 X (caK X.K C) W F e a
  | .var i, c, X, W, G, a, h => by
    simp only [ckE] at h
    split at h
    · obtain ⟨h1, h2, h3, h4⟩ := rd_ok G h
      have pv := fun p => pe_var (X := X) (pos := p) h1 h2 h3 h4
      have je : ∀ p, JE X (caK X.K C) W (.Name _ p) (evE F (.var i)) := fun p => PE.imp (pv p) fun σ H Q z => by unfold evE at z; exact tvE_var z
      refine ⟨je _, PE.imp (pv _) fun σ H Q z => tvO_var z, fun _ => jt_val (je _) (fun _ => rfl), (fun _ op es pos e => by cases e), (fun f z => by cases z)⟩
    · cases h
  | .cst d, c, X, W, G, a, h => by
    simp only [ckE] at h
    split at h
    · exact J3.val (cst_ok h) (fun i z => by cases z) rfl
    · cases h
  | .glo x d, c, X, W, G, a, h => by
    simp only [ckE] at h
    split at h
    · simp only [Bool.and_eq_true, decide_eq_true_eq] at h
      obtain ⟨⟨rfl, h2⟩, h3⟩ := h
      obtain ⟨g1, g2⟩ := gl_ok G h2
      unfold conB at h3
      split at h3
      · rename_i d' hl
        have e := sameD_eq h3
        subst e
        obtain ⟨v, u, m1, m2, m3⟩ := G.pf.con _ _ hl
        refine J3.val (PE.imp (pe_glob g1 m1 m2 g2) fun σ H Q z => ?_) (fun i z => by cases z) rfl
        unfold evE at z
        exact tvE_cst m3 z
      · cases h3
    · cases h
  | .prim p es, c, X, W, G, a, h => by
    simp only [ckE] at h
    split at h
    · rename_i as ho
      simp only [Bool.and_eq_true] at h
      exact prim_ok G ho h.1 (sound_Es es G h.2)
    · cases h
  | .chkI e, c, X, W, G, a, h => by
    simp only [ckE] at h
    have j := sound_E e G h
    have jc := je_chkI j.je
    exact ⟨jc, jo_of jc (fun i z => by cases z), (fun z => by simp [tst1] at z), (fun z => by simp [tst1] at z), (fun f z => by cases z; exact j.je)⟩
  | .not e, c, X, W, G, a, h => by
    simp only [ckE] at h
    split at h
    · simp only [Bool.and_eq_true] at h
      have j := sound_E e G h.2
      have je := je_not (pos := ‹Pos›) j.je
      refine ⟨je, jo_of je (fun i z => by cases z), fun _ => ?_, (fun _ op es pos e => by cases e), (fun f z => by cases z)⟩
      have := jt_not (pos := ‹Pos›) (j.jt h.1)
      unfold evE
      exact this
    · cases h
  | .and e f, c, X, W, G, a, h => by
    simp only [ckE] at h
    split at h
    · rename_i a b rest pos
      simp only [Bool.and_eq_true] at h
      obtain ⟨⟨⟨t1, t2⟩, h1⟩, h2⟩ := h
      have j1 := sound_E e G h1
      have hb : JE X (caK X.K C) W (.BoolOp .And (b :: rest) pos) (evE F f) ∧ PW X (.BoolOp .And (b :: rest) pos) (tvT X.K (caK X.K C) W (bnd (evE F f) isB)) := by
        cases rest with
        | nil =>
          have j2 := sound_E f G h2
          exact ⟨pe_one j2.je, pw_and1 (j2.jt t2)⟩
        | cons r rs =>
          have j2 := sound_E f G h2
          exact ⟨j2.je, j2.jw t2 _ _ _ rfl⟩
      have je := je_and j1.je hb.1
      have pw := pw_and' (j1.jt t1) hb.2
      exact ⟨je, jo_of je (fun i z => by cases z), fun _ => pw.pt, fun _ op es pos e => pw, (fun f z => by cases z)⟩
    · cases h
  | .or e f, c, X, W, G, a, h => by
    simp only [ckE] at h
    split at h
    · rename_i a b rest pos
      simp only [Bool.and_eq_true] at h
      obtain ⟨⟨⟨t1, t2⟩, h1⟩, h2⟩ := h
      have j1 := sound_E e G h1
      have hb : JE X (caK X.K C) W (.BoolOp .Or (b :: rest) pos) (evE F f) ∧ PW X (.BoolOp .Or (b :: rest) pos) (tvT X.K (caK X.K C) W (bnd (evE F f) isB)) := by
        cases rest with
        | nil =>
          have j2 := sound_E f G h2
          exact ⟨pe_one j2.je, pw_or1 (j2.jt t2)⟩
        | cons r rs =>
          have j2 := sound_E f G h2
          exact ⟨j2.je, j2.jw t2 _ _ _ rfl⟩
      have je := je_or j1.je hb.1
      have pw := pw_or' (j1.jt t1) hb.2
      exact ⟨je, jo_of je (fun i z => by cases z), fun _ => pw.pt, fun _ op es pos e => pw, (fun f z => by cases z)⟩
    · cases h
  | .ite e f g, c, X, W, G, a, h => by
    simp only [ckE] at h
    split at h
    · simp only [Bool.and_eq_true] at h
      obtain ⟨⟨⟨t1, h1⟩, h2⟩, h3⟩ := h
      have je := je_ite (pos := ‹Pos›) ((sound_E e G h1).jt t1) (sound_E f G h2).je (sound_E g G h3).je
      exact ⟨je, jo_of je (fun i z => by cases z), (fun z => by simp [tst1] at z), (fun z => by simp [tst1] at z), (fun f z => by cases z)⟩
    · cases h
  | .tup es, c, X, W, G, a, h => by
    simp only [ckE] at h
    split at h
    · exact J3.val (je_tup (sound_Es es G h).ja.1) (fun i z => by cases z) rfl
    · cases h
  | .lst es, c, X, W, G, a, h => by
    simp only [ckE] at h
    split at h
    · exact J3.val (je_lst (sound_Es es G h).ja.1) (fun i z => by cases z) rfl
    · cases h
  | .dic t, c, X, W, G, a, h => by
    simp only [ckE] at h
    split at h
    · exact J3.val je_dic (fun i z => by cases z) rfl
    · cases h
  | .call f es, c, X, W, G, a, h => by
    simp only [ckE] at h
    split at h
    · rename_i x p as pos
      simp only [Bool.and_eq_true, decide_eq_true_eq] at h
      obtain ⟨⟨⟨h1, h2⟩, h3⟩, h4⟩ := h
      obtain ⟨g1, g2⟩ := gl_ok G h2
      obtain ⟨fa, fd, ps, q0, q1, q2, q3, q4⟩ := G.pf.fns x f h1
      have hl : es.len = ps.length := by rw [h3] at q0; exact Option.some.inj q0
      have aj := sound_Es es G h4
      refine J3.val ?_ (fun i z => by cases z) rfl
      cases as with
      | nil =>
        cases es with
        | nil => exact je_call0 G.room G.tk g1 q1 q2 q3 q4 hl.symm g2
        | cons _ _ => exact aj.elim
      | cons a as =>
        obtain ⟨k1, k2⟩ := aj.ja
        exact je_call G.room G.tk g1 q1 q2 q3 q4 hl g2 k1 k2
    · cases h
  | .pop i es, c, X, W, G, a, h => by
    simp only [ckE] at h
    split at h
    · rename_i x px m apos as cpos
      simp only [Bool.and_eq_true, decide_eq_true_eq] at h
      obtain ⟨⟨⟨⟨rfl, h2⟩, h3⟩, h4⟩, h5⟩ := h
      obtain ⟨r1, r2, r3, r4⟩ := rd_ok G h2
      have aj := sound_Es es G h5
      refine J3.val ?_ (fun i z => by cases z) rfl
      match es, as, aj, h4 with
      | .nil, [], _, _ => exact je_pop0 r1 r2 r3 r4 h3
      | .nil, _ :: _, aj, _ => exact aj.elim
      | .cons _ _, [], aj, _ => exact aj.elim
      | .cons e .nil, [a], aj, _ => exact je_pop1 r1 r2 r3 r4 h3 aj.2.1.je aj.1
      | .cons e .nil, a :: b :: as, aj, _ => exact aj.2.2.elim
      | .cons e (.cons _ _), _ :: _, _, h4 => simp [Exs.len] at h4
    · cases h
  | .comp own tg it cd e, c, X, W, G, a, h => by
    simp only [ckE] at h
    split at h
    · rename_i elt gens scope pos
      split at h
      · rename_i t i ifs n
        simp only [Bool.and_eq_true, decide_eq_true_eq] at h
        obtain ⟨⟨⟨⟨⟨⟨⟨⟨⟨hn, ho⟩, hb⟩, ht⟩, hto⟩, hs⟩, hi⟩, hc⟩, hcd⟩, he⟩ := h
        subst hn ho
        have ok : BlkOk X.N X.env.scope scope (ownOf c.N scope) := by rw [G.N, G.sc]; exact blkOk_by hb
        have ok' : BlkOk c.N c.sc scope (ownOf c.N scope) := blkOk_by hb
        refine J3.val ?_ (fun i z => by cases z) rfl
        refine je_comp G.calm G.nd (sound_I it G hi) ok (fun s H D cl fp => tg_ok (blk_ok G ok' s H D cl fp) ht) (fun s H D cl fp => ?_) (fun s H D cl fp => (sound_E e (blk_ok G ok' s H D cl fp) he).je) (fold_nset hs) (fun j hj => by simpa using List.all_eq_true.mp hto j hj)
        have aj := sound_Es cd (blk_ok G ok' s H D cl fp) hc
        match cd, ifs, aj, hcd with
        | .nil, [], _, _ => exact ⟨fun pins s σ H Q I q => pts_nil.run pins s σ H Q I (by
            obtain ⟨B, M, o, τ, Fz, s, r, q⟩ := q
            exact WPm.ret_ (ok := fun b s' => ∀ H', RelS _ B M o τ Fz σ s' H' → Q b H') q H r)⟩
        | .nil, _ :: _, aj, _ => exact aj.elim
        | .cons _ _, [], aj, _ => exact aj.elim
        | .cons c0 .nil, [i0], aj, hcd =>
          simp only [ckCd, Bool.and_eq_true] at hcd
          exact pts_one (aj.2.1.jt hcd.1)
        | .cons c0 .nil, _ :: _ :: _, aj, _ => exact aj.2.2.elim
        | .cons _ (.cons _ _), _ :: _, _, hcd => simp [ckCd] at hcd
      · cases h
    · cases h
  | .sortk e _, c, X, W, G, a, h => by
    simp only [ckE] at h
    split at h
    · simp only [Bool.and_eq_true, decide_eq_true_eq] at h
      obtain ⟨⟨⟨⟨⟨⟨rfl, rfl⟩, h1⟩, h2⟩, h3⟩, h4⟩, h5⟩ := h
      obtain ⟨g1, g2⟩ := fr_ok G h1
      obtain ⟨k1, k2⟩ := gl_ok G h2
      exact J3.val (je_sortk G.room G.calm g1 g2 k1 k2 (G.pf.lenk _ h3) (sound_E e G h5).je h4) (fun i z => by cases z) rfl
    · cases h
theorem sound_Es : ∀ (es : Exs) {c : SC} {X : Cx} {W : WX} (G : Good C F k c X W) {as : List Expr}, ckEs C c es as = true → AllJ X (caK X.K C) W F es as
  | .nil, c, X, W, G, as, h => by
    cases as with
    | nil => trivial
    | cons _ _ => simp [ckEs] at h
  | .cons e es, c, X, W, G, as, h => by
    cases as with
    | nil => simp [ckEs] at h
    | cons a as =>
      simp only [ckEs, Bool.and_eq_true] at h
      exact ⟨h.1.1, sound_E e G h.1.2, sound_Es es G h.2⟩
theorem sound_I : ∀ (it : Vf.It) {c : SC} {X : Cx} {W : WX} (G : Good C F k c X W) {tg a : Expr}, ckI C c it tg a = true → JI X (caK X.K C) W tg a (evIt F it)
  | .ex e, c, X, W, G, tg, a, h => by
    simp only [ckI] at h
    exact ji_ex (sound_E e G h).je
  | .rng1 e, c, X, W, G, tg, a, h => by
    simp only [ckI] at h
    split at h
    · simp only [Bool.and_eq_true, decide_eq_true_eq] at h
      obtain ⟨⟨⟨rfl, h1⟩, h2⟩, h3⟩ := h
      obtain ⟨g1, g2⟩ := fr_ok G h1
      exact ji_rng1 g1 g2 (sound_E e G h3).je h2
    · cases h
  | .rng2 e f, c, X, W, G, tg, a, h => by
    simp only [ckI] at h
    split at h
    · simp only [Bool.and_eq_true, decide_eq_true_eq] at h
      obtain ⟨⟨⟨⟨⟨rfl, h1⟩, h2⟩, h3⟩, h4⟩, h5⟩ := h
      obtain ⟨g1, g2⟩ := fr_ok G h1
      exact ji_rng2 g1 g2 (sound_E e G h4).je (sound_E f G h5).je h2 h3
    · cases h
  | .zip e f, c, X, W, G, tg, a, h => by
    simp only [ckI] at h
    split at h
    · simp only [Bool.and_eq_true, decide_eq_true_eq] at h
      obtain ⟨⟨⟨⟨⟨⟨rfl, h1⟩, ht⟩, h2⟩, h3⟩, h4⟩, h5⟩ := h
      obtain ⟨g1, g2⟩ := fr_ok G h1
      cases tg <;> first
        | exact ji_zip g1 g2 (sound_E e G h4).je (sound_E f G h5).je h2 h3
        | cases ht
    · cases h
  | .enm e, c, X, W, G, tg, a, h => by
    simp only [ckI] at h
    split at h
    · simp only [Bool.and_eq_true, decide_eq_true_eq] at h
      obtain ⟨⟨⟨⟨rfl, h1⟩, ht⟩, h2⟩, h3⟩ := h
      obtain ⟨g1, g2⟩ := fr_ok G h1
      cases tg <;> first
        | exact ji_enm g1 g2 (sound_E e G h3).je h2
        | cases ht
    · cases h
end
end
end Vf
namespace Vf
open PySem PySem.Spec PyProof.Rows L2

def swN (sc : Scope) (line : Nat) (ts : List Expr) : List Str := ts.filterMap fun
  | .Name id pos => if sc.names.lookup id == some .local && pos.line == line then some id else none
  | _ => none
def swT (sc : Scope) (ts vs : List Expr) : Option (Option (List Str)) :=
  if !(ts.length == 2 || ts.length == 3) || vs.length != ts.length || false then some none
  else if vs.any (fun | .Starred .. => true | _ => false) then some none
  else
    let names := swN sc ((ts.head?.map (·.pos.line)).getD 0) ts
    if names.length != ts.length || names.eraseDups.length != names.length then some none
    else if vs.all (foldedForSure 8) then some none
    else if vs.all (constantsAlone 8) then none
    else some (some names)
theorem swT_ok {ts vs : List Expr} {k k2 : Nat} {p p2 : Pos} {env : Env} {r : Option (List Str)} (hk : env.scope.kind = .function) (h : swT env.scope ts vs = some r) : swappedStores [.Tuple ts k p] (.Tuple vs k2 p2) env = pure r := by
  have hb : env.blockKind = .function := by unfold Env.blockKind; rw [hk]; rfl
  have hb2 : (env.blockKind != .function) = false := by rw [hb]; rfl
  unfold swappedStores
  show (if (!(ts.length == 2 || ts.length == 3) || vs.length != ts.length || env.blockKind != .function) = true then pure none else _) = pure r
  rw [hb2]
  unfold swT at h
  split at h
  · rename_i h1
    cases h
    rw [if_pos h1]
  · rename_i h1
    rw [if_neg h1]
    split at h
    · rename_i h2
      cases h
      exact if_pos h2
    · rename_i h2
      refine (if_neg h2).trans ?_
      simp only at h
      split at h
      · rename_i h3
        cases h
        exact if_pos h3
      · rename_i h3
        refine (if_neg h3).trans ?_
        split at h
        · rename_i h4
          cases h
          exact if_pos h4
        · rename_i h4
          refine (if_neg h4).trans ?_
          split at h
          · cases h
          · rename_i h5
            cases h
            exact if_neg h5
theorem sw_ntup {ts : List Expr} {k : Nat} {p : Pos} {a : Expr} {env : Env} (h : isTup a = false) : swappedStores [.Tuple ts k p] a env = pure none := by
  cases a <;> first | rfl | cases h
def ncomp : Expr → Bool
  | .ListComp .. => false
  | .SetComp .. => false
  | .DictComp .. => false
  | _ => true
def nsd : Expr → Bool
  | .SetComp .. => false
  | .DictComp .. => false
  | _ => true
theorem sw_tup {ts : List Expr} {k : Nat} {p : Pos} {a : Expr} {l : Nat} {env : Env} : swapsWithSole [.Tuple ts k p] a l env = pure false := by
  cases a <;> rfl
theorem sw_sub {o i : Expr} {p : Pos} {a : Expr} {l : Nat} {env : Env} : swapsWithSole [.Subscript o i p] a l env = pure false := by
  cases a <;> rfl
theorem sw_none {a : Expr} {l : Nat} {env : Env} (h : ncomp a = true) : swapsWith a none l env = pure false := by
  cases a <;> first | rfl | cases h
def swB (sc : Scope) (a : Expr) (x : Str) (p : Pos) : Bool := match a with
  | .ListComp _ _ s _ => sc.names.lookup x == some .local && p.line == a.pos.line && !(s.names.any fun (n, k) => n == x && (k == .local || k == .cell))
  | _ => false
theorem swB_ok {a : Expr} {x : Str} {p : Pos} {l : Nat} {env : Env} (hn : nsd a = true) (hk : env.scope.kind = .function) : swapsWith a (some (.Name x p)) l env = pure (swB env.scope a x p) := by
  have hb : env.blockKind = .function := by unfold Env.blockKind; rw [hk]; rfl
  cases a with
  | ListComp elt gs scope pos =>
    show (pure (env.blockKind == .function && env.kindOf x == some .local && p.line == (Expr.ListComp elt gs scope pos).pos.line && !(scope.names.any fun (n, k) => n == x && (k == .local || k == .cell))) : Sem Bool) = _
    rw [hb]
    rfl
  | SetComp => cases hn
  | DictComp => cases hn
  | _ => rfl
section
variable {C : Cn} {F : FT} {k : Nat} {c : SC} {X : Cx} {W : WX}
theorem comp_parts (G : Good C F k c X W) {own tg : List Nat} {it : Vf.It} {cd : Exs} {e : Ex} {elt : Expr} {gens : List Comprehension} {scope : Scope} {pos : Pos} (h : ckE C c (.comp own tg it cd e) (.ListComp elt gens scope pos) = true) :
    ∃ t i ifs, gens = [⟨t, i, ifs, 0⟩] ∧ own = (ownOf c.N scope).map (·.2) ∧ JI X (caK X.K C) W t i (evIt F it) ∧ BlkOk X.N X.env.scope scope (ownOf c.N scope) ∧
    (∀ (s : Shared) (H : Hp) (D : Addr) (cl : List (Str × Addr)) (fp : List Addr), PG (X.blk s H scope (compEnvC scope cl D X.env) fp) t (gTg X.K tg)) ∧
    (∀ (s : Shared) (H : Hp) (D : Addr) (cl : List (Str × Addr)) (fp : List Addr), PTs (X.blk s H scope (compEnvC scope cl D X.env) fp) ifs (tvT X.K (caK X.K C) W0 (condM F cd))) ∧
    (∀ (s : Shared) (H : Hp) (D : Addr) (cl : List (Str × Addr)) (fp : List Addr), JE (X.blk s H scope (compEnvC scope cl D X.env) fp) (caK X.K C) W0 elt (evE F e)) ∧
    (∀ x : Value, foldedSetIterable i X.env x = pure x) ∧ ∀ i ∈ tg, i ∈ (ownOf c.N scope).map (·.2) := by
  simp only [ckE] at h
  split at h
  · rename_i t i ifs n
    simp only [Bool.and_eq_true, decide_eq_true_eq] at h
    obtain ⟨⟨⟨⟨⟨⟨⟨⟨⟨hn, ho⟩, hb⟩, ht⟩, hto⟩, hs⟩, hi⟩, hc⟩, hcd⟩, he⟩ := h
    subst hn ho
    have ok : BlkOk X.N X.env.scope scope (ownOf c.N scope) := by rw [G.N, G.sc]; exact blkOk_by hb
    have ok' : BlkOk c.N c.sc scope (ownOf c.N scope) := blkOk_by hb
    refine ⟨t, i, ifs, rfl, rfl, sound_I it G hi, ok, fun s H D cl fp => tg_ok (blk_ok G ok' s H D cl fp) ht, fun s H D cl fp => ?_, fun s H D cl fp => (sound_E e (blk_ok G ok' s H D cl fp) he).je, fold_nset hs, fun j hj => by simpa using List.all_eq_true.mp hto j hj⟩
    have aj := sound_Es cd (blk_ok G ok' s H D cl fp) hc
    match cd, ifs, aj, hcd with
    | .nil, [], _, _ => exact ⟨fun pins s σ H Q I q => pts_nil.run pins s σ H Q I (by
        obtain ⟨B, M, o, τ, Fz, s, r, q⟩ := q
        exact WPm.ret_ (ok := fun b s' => ∀ H', RelS _ B M o τ Fz σ s' H' → Q b H') q H r)⟩
    | .nil, _ :: _, aj, _ => exact aj.elim
    | .cons _ _, [], aj, _ => exact aj.elim
    | .cons c0 .nil, [i0], aj, hcd =>
      simp only [ckCd, Bool.and_eq_true] at hcd
      exact pts_one (aj.2.1.jt hcd.1)
    | .cons c0 .nil, _ :: _ :: _, aj, _ => exact aj.2.2.elim
    | .cons _ (.cons _ _), _ :: _, _, hcd => simp [ckCd] at hcd
  · cases h
end
def cstD : Const → Option D
  | .int i => some (.int i) | .bool i => some (.bl i) | .none => some .non | .str i => some (.str i) | _ => none
def cstV : Const → V
  | .int i => .int i | .bool i => .bl i | .none => .non | .str i => .str i | _ => .non
theorem cstD_ok {q : Const} {d : D} (h : cstD q = some d) : (∀ (X : Cx) (n : Nat) (pos : Pos), PE X (.Constant q n pos) (tC (cstV q))) ∧ ∀ K P τ H, Rep K P τ H (cstV q) d := by
  cases q <;> simp [cstD] at h <;> subst h
  · exact ⟨fun _ _ _ => pe_non, fun _ _ _ _ => .non⟩
  · exact ⟨fun _ _ _ => pe_bl, fun _ _ _ _ => .bl _⟩
  · exact ⟨fun _ _ _ => pe_int, fun _ _ _ _ => .int _⟩
  · exact ⟨fun _ _ _ => pe_str, fun _ _ _ _ => .str _⟩
def clsIx (C : Cn) (x : Str) : Option Nat := (List.range C.cls.length).find? fun j => decide (C.cls[j]? = some x)
theorem clsIx_ok {C : Cn} {x : Str} {j : Nat} (h : clsIx C x = some j) : C.cls[j]? = some x := by
  have := List.find?_some h
  simpa using this
def hdsL (C : Cn) (c : SC) : List ExceptHandler → Option (List (Nat × D))
  | [] => some []
  | .ExceptHandler (some (.Name x _)) none [.Return (some (.Constant q _ _)) _] _ :: hs => if glB c x then (match clsIx C x, cstD q, hdsL C c hs with
    | some j, some d, some r => some ((j, d) :: r)
    | _, _, _ => none) else none
  | _ => none
def hdl (C : Cn) (i : Nat) : List (Nat × D) → Option D
  | [] => none
  | (j, d) :: r => if C.exm i j then some d else hdl C i r
section
variable {C : Cn} {F : FT} {k : Nat} {c : SC} {X : Cx} {W : WX}
theorem hds_ok (G : Good C F k c X W) : ∀ {hs : List ExceptHandler} {l : List (Nat × D)}, hdsL C c hs = some l → ∃ L, HdsOk X hs L ∧
    ∀ (D : Ends) (i : Nat) (σ : L2.St) (H : Hp) (y : Str), C.cls[i]? = some y → (match hdl C i l with
      | some d => ∀ v, (∀ K P τ H, Rep K P τ H v d) → D.rt v H
      | none => W (.ref (caK X.K C i)) none σ H) → wMany X.K W D L (.ref (caK X.K C i)) none σ H
  | [], l, h => by
    simp only [hdsL, Option.some.injEq] at h
    subst h
    exact ⟨[], .nil, fun D i σ H y hy h => h⟩
  | h0 :: hs, l, h => by
    unfold hdsL at h
    split at h
    · rename_i e; cases e
    · rename_i x np q n p1 p2 p3 hs' e
      cases e
      split at h
      · rename_i hg
        split at h
        · rename_i j d r e1 e2 e3
          cases h
          obtain ⟨L, h1, h2⟩ := hds_ok G e3
          obtain ⟨g1, g2⟩ := gl_ok G hg
          obtain ⟨hv, hr⟩ := cstD_ok e2
          have hx := clsIx_ok e1
          obtain ⟨bmB, B, ni, ii, FB, q1, gC, kC, r1, r2⟩ := G.pf.cls j x hx
          refine ⟨(.ref (caK X.K C j), fun _ _ _ => tRet (tC (cstV q))) :: L, .cons ⟨g1, g2, .inl gC⟩ (fun a oe cls d' pn hz ho => pss_one (ps_ret (hv _ _ _))) h1, fun D i σ H y hy h => ?_⟩
          refine ⟨C.exm i j, G.pf.exm i j y x hy hx, fun hb a ha => ?_, fun hb => ?_⟩
          · unfold hdl at h
            rw [if_pos hb] at h
            exact h (cstV q) hr
          · unfold hdl at h
            rw [if_neg (by rw [hb]; exact Bool.false_ne_true)] at h
            exact h2 D i σ H y hy h
        · cases h
      · cases h
    · cases h
theorem js_try {e : Ex} {r : Bool} {hs : List (Nat × Option D)} {l : List (Nat × D)} {body : Stmt} {h₀ : ExceptHandler} {hds : List ExceptHandler} {pos : Pos} (G : Good C F k c X W) (hst : X.stack = X.env :: X.outer) (hf : X.env.frame = some X.env.locals)
    (hb : ∀ (W' : WX) (pn : List (Addr × Obj)) (xe : Value → Shared → Prop), Takes (X.tr pn xe) W' → PassesOwn (model X.prog X.w) X.A X.env xe → JS (X.tr pn xe) (caK X.K C) W' body (bnd (evE F e) fun x => ret (if r then .rt x.1 x.2 else .nx)))
    (hh : hdsL C c (h₀ :: hds) = some l) (hl : ∀ i x, hs.lookup i = some x → i < C.cls.length ∧ x = hdl C i l) :
    JS X (caK X.K C) W (.Try [body] (h₀ :: hds) [] [] pos) (evS F (.try_ e r hs)) := by
  obtain ⟨L, h1, h2⟩ := hds_ok G hh
  refine PS.imp (ps_try_many (tb := fun W' => tvS X.K (caK X.K C) W' (bnd (evE F e) fun x => ret (if r then .rt x.1 x.2 else .nx))) hst hf G.tk (fun W' pn xe tk po => pss_one (hb W' pn xe tk po)) h1) fun E σ H ⟨B, M, o, τ, Fz, s, rr, h⟩ => ?_
  unfold evS at h
  unfold WPm at h
  refine ⟨B, M, o, τ, Fz, s, rr, ?_⟩
  unfold WPm bnd
  cases q : evE F e s with
  | stuck => simp only [q] at h
  | ok x s' =>
    simp only [q] at h
    cases r with
    | true => exact h
    | false => exact h
  | exc i s' =>
    simp only [q] at h
    cases q3 : hs.lookup i with
    | none => simp only [q3] at h
    | some y =>
      obtain ⟨hi, hy⟩ := hl i y q3
      intro o' σ' H' r'
      refine h2 E i σ' H' (C.cls[i]) (by simp [hi]) ?_
      rw [← hy]
      cases y with
      | some d =>
        simp only [q3] at h
        have h : okS X.K B M τ Fz E (.rt d false) s' := h
        exact fun v hr => h v o' σ' H' (r'.more1 (hr _ _ _ _))
      | none =>
        simp only [q3] at h
        exact h o' σ' H' r'
end
end Vf
namespace Vf
open PySem PySem.Spec PyProof.Rows L2

def sameO : Option D → Option D → Bool
  | none, none => true
  | some a, some b => sameD a b
  | _, _ => false
theorem sameO_eq {a b : Option D} (h : sameO a b = true) : a = b := by
  cases a <;> cases b <;> simp [sameO] at h
  · rfl
  · rw [sameD_eq h]
def hsB (C : Cn) (l : List (Nat × D)) (hs : List (Nat × Option D)) : Bool := hs.all fun p => decide (p.1 < C.cls.length) && sameO p.2 (hdl C p.1 l)
theorem lookup_mem {β : Type} : ∀ {l : List (Nat × β)} {i : Nat} {x : β}, l.lookup i = some x → (i, x) ∈ l
  | [], _, _, h => by cases h
  | (j, y) :: r, i, x, h => by
    rw [List.lookup_cons] at h
    by_cases e : i = j
    · subst e
      simp at h
      subst h
      exact List.mem_cons_self
    · have e' : (i == j) = false := by simpa using e
      rw [e'] at h
      exact List.mem_cons_of_mem _ (lookup_mem h)
theorem hsB_ok {C : Cn} {l : List (Nat × D)} {hs : List (Nat × Option D)} (h : hsB C l hs = true) : ∀ i x, hs.lookup i = some x → i < C.cls.length ∧ x = hdl C i l := fun i x e => by
  have := List.all_eq_true.mp h _ (lookup_mem e)
  simp only [Bool.and_eq_true, decide_eq_true_eq] at this
  exact ⟨this.1, sameO_eq this.2⟩
def locX (c : SC) (x : Str) : Bool := decide (c.sc.names.lookup x = some .local)
def isVar : Ex → Bool
  | .var _ => true
  | _ => false
mutual
def ckS (C : Cn) (c : SC) : Sx → Stmt → Bool
  | .set i e, st => match st with
    | .Assign [.Name x p] a _ => wrB c x i && nsd a && ckE C c e a && (if swB c.sc a x p then locX c x && (match e with
      | .comp .. => true
      | _ => false) else true)
    | _ => false
  | .unp is e, st => match st with
    | .Assign [.Tuple ts _ _] a _ => namesB c is ts && ckE C c e a && (match a with
      | .Tuple vs _ _ => (match swT c.sc ts vs with
        | some none => true
        | _ => false)
      | _ => true)
    | _ => false
  | .par is es, st => match st with
    | .Assign [.Tuple ts _ _] (.Tuple vs _ _) _ => (match is, ts, vs with
      | [i, j], [.Name x _, .Name y _], [_, _] => wrB c x i && wrB c y j && decide (i ≠ j) && locX c x && locX c y && decide (swT c.sc ts vs = some (some [x, y]))
      | [i, j, l], [.Name x _, .Name y _, .Name z _], [_, _, _] => wrB c x i && wrB c y j && wrB c z l && decide (i ≠ j) && decide (i ≠ l) && decide (j ≠ l) && locX c x && locX c y && locX c z && decide (swT c.sc ts vs = some (some [x, y, z]))
      | _, _, _ => false) && ckEs C c es vs
    | _ => false
  | .aug i op e, st => match st with
    | .AugAssign (.Name x _) op' a _ => decide (op' = op) && wrB c x i && ckE C c e a
    | _ => false
  | .put i k e, st => match st with
    | .Assign [.Subscript (.Name x _) kk _] a _ => rdB c x i && nsl kk && ckE C c k kk && ckE C c e a
    | _ => false
  | .augk i k op e, st => match st with
    | .AugAssign (.Subscript (.Name x _) kk _) op' a _ => decide (op' = op) && rdB c x i && nsl kk && ckE C c k kk && ckE C c e a
    | _ => false
  | .app i e, st => match st with
    | .Expr (.Call (.Attribute (.Name x _) m apos) [a] [] cpos) _ => decide (m = ("append" : Str)) && rdB c x i && (apos.endLine == cpos.line) && nst a && ckE C c e a
    | _ => false
  | .ext i e, st => match st with
    | .AugAssign (.Name x _) .Add a _ => wrB c x i && ckE C c e a
    | _ => false
  | .ite e xs ys, st => match st with
    | .If t a b _ => tst1 e && ckE C c e t && ckSs C c xs a && ckSs C c ys b
    | _ => false
  | .for_ tg it xs, st => match st with
    | .For t i b [] _ => tgB c tg t && nset i && ckI C c it t i && ckSs C c xs b
    | _ => false
  | .while_ e xs, st => match st with
    | .While t b [] _ => tst1 e && ckE C c e t && ckSs C c xs b
    | _ => false
  | .ret e, st => match st with
    | .Return (some a) _ => ckE C c e a
    | .Return none _ => (match e with
      | .cst .non => true
      | _ => false)
    | _ => false
  | .raise i, st => match st with
    | .Raise (some (.Call (.Name x _) [] [] _)) none _ => decide (C.cls[i]? = some x) && glB c x
    | _ => false
  | .expr e, st => match st with
    | .Expr a _ => ncomp a && ckE C c e a
    | _ => false
  | .pass, st => match st with
    | .Pass _ => true
    | _ => false
  | .try_ e r hs, st => match st with
    | .Try [b] (h₀ :: hds) [] [] _ => (match hdsL C c (h₀ :: hds) with
      | some l => hsB C l hs && (match r, b with
        | true, .Return (some a) _ => !isVar e && ckE C c e a
        | false, .Expr a _ => ncomp a && ckE C c e a
        | _, _ => false)
      | none => false)
    | _ => false
def ckSs (C : Cn) (c : SC) : Sxs → List Stmt → Bool
  | .nil, sts => sts.isEmpty
  | .cons x xs, sts => match sts with
    | st :: sts => ckS C c x st && ckSs C c xs sts
    | [] => false
end
structure GoodS (C : Cn) (F : FT) (k : Nat) (c : SC) (X : Cx) (W : WX) : Prop extends Good C F k c X W where
  kind : c.sc.kind = .function
  po : PassesOwn (model X.prog X.w) X.A X.env X.xe
  hst : X.stack = X.env :: X.outer
  hf : X.env.frame = some X.env.locals
section
variable {C : Cn} {F : FT} {k : Nat} {c : SC} {X : Cx} {W : WX}
theorem loc_of (G : Good C F k c X W) {x : Str} (h : locX c x = true) : X.env.scope.names.lookup x = some .local := by
  unfold locX at h
  rw [G.sc]; simpa using h
mutual
theorem sound_S : ∀ (s : Sx) {c : SC} {X : Cx} {W : WX} (G : GoodS C F k c X W) {st : Stmt}, ckS C c s st = true → JS X (caK X.K C) W st (evS F s)
  | .set i e, c, X, W, G, st, h => by
    simp only [ckS] at h
    split at h
    · rename_i x p a pos
      simp only [Bool.and_eq_true] at h
      obtain ⟨⟨⟨h1, h2⟩, h3⟩, h4⟩ := h
      obtain ⟨w1, w2, w3⟩ := wr_ok G.toGood h1
      have hk : X.env.scope.kind = .function := by rw [G.sc]; exact G.kind
      have hsw := swB_ok (a := a) (x := x) (p := p) (l := pos.line) (env := X.env) h2 hk
      rw [G.sc] at hsw
      cases hb : swB c.sc a x p with
      | false =>
        rw [hb] at hsw
        exact js_set G.nd w1 w2 w3 (sound_E e G.toGood h3).je hsw
      | true =>
        rw [hb] at hsw
        rw [hb] at h4
        simp only [if_true, Bool.and_eq_true] at h4
        obtain ⟨h5, h6⟩ := h4
        cases a with
        | ListComp elt gens scope pos2 =>
          cases e with
          | comp own tg it cd e =>
            obtain ⟨t, i2, ifs, rfl, rfl, p1, p2, p3, p4, p5, p6, p7⟩ := comp_parts G.toGood h3
            exact js_setLc G.calm G.nd w1 (loc_of G.toGood h5) hsw p1 p2 p3 p4 p5 p6 p7
          | _ => cases h6
        | _ => simp [swB] at hb
    · cases h
  | .unp is e, c, X, W, G, st, h => by
    simp only [ckS] at h
    split at h
    · rename_i ts n p a pos
      simp only [Bool.and_eq_true] at h
      obtain ⟨⟨h1, h2⟩, h3⟩ := h
      obtain ⟨g1, g2, g3⟩ := pgs_of G.toGood h1
      have hk : X.env.scope.kind = .function := by rw [G.sc]; exact G.kind
      refine js_unp (pg_tup G.calm g1 g2 g3) (sound_E e G.toGood h2).je sw_tup ?_ rfl
      cases hp : isTup a with
      | false => exact sw_ntup hp
      | true =>
        cases a with
        | Tuple vs n2 p2 =>
          simp only at h3
          split at h3
          · rename_i hs
            exact swT_ok hk (by rw [G.sc]; exact hs)
          · cases h3
        | _ => cases hp
    · cases h
  | .par is es, c, X, W, G, st, h => by
    simp only [ckS] at h
    split at h
    · rename_i ts n p vs n2 p2 pos
      simp only [Bool.and_eq_true] at h
      obtain ⟨h1, h2⟩ := h
      have hk : X.env.scope.kind = .function := by rw [G.sc]; exact G.kind
      have aj := (sound_Es es G.toGood h2).ja.1
      split at h1
      · simp only [Bool.and_eq_true, decide_eq_true_eq] at h1
        obtain ⟨⟨⟨⟨⟨q1, q2⟩, q3⟩, q4⟩, q5⟩, q6⟩ := h1
        obtain ⟨w1, w2, w3⟩ := wr_ok G.toGood q1
        obtain ⟨u1, u2, u3⟩ := wr_ok G.toGood q2
        exact js_par2 G.calm G.nd w1 u1 q3 (loc_of G.toGood q4) (loc_of G.toGood q5) aj (swT_ok hk (by rw [G.sc]; exact q6))
      · simp only [Bool.and_eq_true, decide_eq_true_eq] at h1
        obtain ⟨⟨⟨⟨⟨⟨⟨⟨⟨q1, q2⟩, q3⟩, q4⟩, q5⟩, q6⟩, q7⟩, q8⟩, q9⟩, q10⟩ := h1
        obtain ⟨w1, w2, w3⟩ := wr_ok G.toGood q1
        obtain ⟨u1, u2, u3⟩ := wr_ok G.toGood q2
        obtain ⟨v1, v2, v3⟩ := wr_ok G.toGood q3
        exact js_par3 G.calm G.nd w1 u1 v1 q4 q5 q6 (loc_of G.toGood q7) (loc_of G.toGood q8) (loc_of G.toGood q9) aj (swT_ok hk (by rw [G.sc]; exact q10))
      · cases h1
    · cases h
  | .aug i op e, c, X, W, G, st, h => by
    simp only [ckS] at h
    split at h
    · simp only [Bool.and_eq_true, decide_eq_true_eq] at h
      obtain ⟨⟨rfl, h1⟩, h2⟩ := h
      obtain ⟨w1, w2, w3⟩ := wr_ok G.toGood h1
      exact js_aug G.nd w1 w2 w3 (sound_E e G.toGood h2).je
    · cases h
  | .put i kx e, c, X, W, G, st, h => by
    simp only [ckS] at h
    split at h
    · simp only [Bool.and_eq_true] at h
      obtain ⟨⟨⟨h1, h2⟩, h3⟩, h4⟩ := h
      obtain ⟨r1, r2, r3, r4⟩ := rd_ok G.toGood h1
      have := G.room.un
      exact js_put (by omega) r1 r2 r3 r4 (sound_E kx G.toGood h3).je (sound_E e G.toGood h4).je h2 sw_sub rfl
    · cases h
  | .augk i kx op e, c, X, W, G, st, h => by
    simp only [ckS] at h
    split at h
    · simp only [Bool.and_eq_true, decide_eq_true_eq] at h
      obtain ⟨⟨⟨⟨rfl, h1⟩, h2⟩, h3⟩, h4⟩ := h
      obtain ⟨r1, r2, r3, r4⟩ := rd_ok G.toGood h1
      have := G.room.un
      exact js_augk (by omega) r1 r2 r3 r4 (sound_E kx G.toGood h3).je (sound_E e G.toGood h4).je h2
    · cases h
  | .app i e, c, X, W, G, st, h => by
    simp only [ckS] at h
    split at h
    · simp only [Bool.and_eq_true, decide_eq_true_eq] at h
      obtain ⟨⟨⟨⟨rfl, h1⟩, h2⟩, h3⟩, h4⟩ := h
      obtain ⟨r1, r2, r3, r4⟩ := rd_ok G.toGood h1
      exact js_app r1 r2 r3 r4 h2 (sound_E e G.toGood h4).je h3
    · cases h
  | .ext i e, c, X, W, G, st, h => by
    simp only [ckS] at h
    split at h
    · simp only [Bool.and_eq_true] at h
      obtain ⟨w1, w2, w3⟩ := wr_ok G.toGood h.1
      exact js_ext G.nd w1 w2 w3 (sound_E e G.toGood h.2).je
    · cases h
  | .ite e xs ys, c, X, W, G, st, h => by
    simp only [ckS] at h
    split at h
    · simp only [Bool.and_eq_true] at h
      obtain ⟨⟨⟨h1, h2⟩, h3⟩, h4⟩ := h
      exact js_if ((sound_E e G.toGood h2).jt h1) (sound_Ss xs G h3) (sound_Ss ys G h4)
    · cases h
  | .for_ tg it xs, c, X, W, G, st, h => by
    simp only [ckS] at h
    split at h
    · simp only [Bool.and_eq_true] at h
      obtain ⟨⟨⟨h1, h2⟩, h3⟩, h4⟩ := h
      exact js_for G.po G.calm (sound_I it G.toGood h3) (tg_ok G.toGood h1) (sound_Ss xs G h4) (fold_nset h2)
    · cases h
  | .while_ e xs, c, X, W, G, st, h => by
    simp only [ckS] at h
    split at h
    · simp only [Bool.and_eq_true] at h
      obtain ⟨⟨h1, h2⟩, h3⟩ := h
      exact js_while G.po ((sound_E e G.toGood h2).jt h1) (sound_Ss xs G h3)
    · cases h
  | .ret e, c, X, W, G, st, h => by
    simp only [ckS] at h
    split at h
    · rename_i a pos
      by_cases hv : ∃ i, e = .var i
      · obtain ⟨i, rfl⟩ := hv
        simp only [ckE] at h
        split at h
        · obtain ⟨r1, r2, r3, r4⟩ := rd_ok G.toGood h
          exact js_retV (pe_var r1 r2 r3 r4)
        · cases h
      · have hv : ∀ i, e ≠ .var i := fun i z => hv ⟨i, z⟩
        rw [evS_ret hv]
        exact js_retE (sound_E e G.toGood h).je
    · split at h
      · exact js_retN
      · cases h
    · cases h
  | .raise i, c, X, W, G, st, h => by
    simp only [ckS] at h
    split at h
    · simp only [Bool.and_eq_true, decide_eq_true_eq] at h
      obtain ⟨g1, g2⟩ := gl_ok G.toGood h.2
      exact js_raise G.calm G.tk (G.pf.cls i _ h.1) g1 g2
    · cases h
  | .expr e, c, X, W, G, st, h => by
    simp only [ckS] at h
    split at h
    · simp only [Bool.and_eq_true] at h
      exact js_expr (sound_E e G.toGood h.2).je (sw_none h.1)
    · cases h
  | .pass, c, X, W, G, st, h => by
    simp only [ckS] at h
    split at h
    · exact js_pass
    · cases h
  | .try_ e r hs, c, X, W, G, st, h => by
    simp only [ckS] at h
    split at h
    · rename_i b h₀ hds pos
      split at h
      · rename_i l hl
        simp only [Bool.and_eq_true] at h
        obtain ⟨h1, h2⟩ := h
        refine js_try G.toGood G.hst G.hf (fun W' pn xe tk po => ?_) hl (hsB_ok h1)
        have G' : Good C F k c (X.tr pn xe) W' := ⟨G.N, G.nd, G.sc, G.wr, G.calm, G.room, tk, G.pf⟩
        split at h2
        · simp only [Bool.and_eq_true] at h2
          have := js_retE (pos := ‹Pos›) (sound_E e G' h2.2).je
          simpa using this
        · simp only [Bool.and_eq_true] at h2
          have := js_expr (F := F) (e := e) (pos := ‹Pos›) (sound_E e G' h2.2).je (sw_none h2.1)
          simpa [evS] using this
        · cases h2
      · cases h
    · cases h
theorem sound_Ss : ∀ (s : Sxs) {c : SC} {X : Cx} {W : WX} (G : GoodS C F k c X W) {st : List Stmt}, ckSs C c s st = true → JSs X (caK X.K C) W st (evSs F s)
  | .nil, c, X, W, G, st, h => by
    cases st with
    | nil => exact jss_nil
    | cons _ _ => simp [ckSs] at h
  | .cons x xs, c, X, W, G, st, h => by
    cases st with
    | nil => simp [ckSs] at h
    | cons s st =>
      simp only [ckSs, Bool.and_eq_true] at h
      exact jss_cons (sound_S x G h.1) (sound_Ss xs G h.2)
end
end
end Vf
namespace Vf
open PySem PySem.Spec PyProof.Rows L2

section
variable {K : PySem.W.Frag} {B : Hp} {M : AP} {o : Nat → Addr} {τ : TA2} {Fz : List (V × D)} {σ : L2.St} {s : S} {H : Hp}
theorem RelS.strip (r : RelS K B M o τ Fz σ s H) (o' : Nat → Addr) : RelS K B M o' τ Fz [] ⟨[], s.T⟩ H := by
  have hp : ∀ b, Prt M o' τ ⟨[], s.T⟩ b → Prt M o τ s b := by
    rintro b (z | z | ⟨i, d, w, _⟩)
    · exact .inl z
    · exact .inr (.inl z)
    · cases w
  have mo := Mo.same (H := H) hp
  exact ⟨rfl, r.keep, fun p q => (r.fz p q).mo mo, (fun i d w => by cases w), (fun i d w => by cases w), (fun i j d e w => by cases w), ⟨r.tp.no, r.tp.at_⟩, r.mt⟩
theorem RelT.strip {v : V} {d : D} {fr : Bool} (h : RelT K o τ σ s H [(v, d, fr)] B M Fz) (o' : Nat → Addr) : RelT K o' τ [] ⟨[], s.T⟩ H [(v, d, fr)] B M Fz := by
  cases fr with
  | false => exact RelS.strip h o'
  | true =>
    obtain ⟨a, u, cs, e, hb, ht, hm, c, r⟩ := h
    exact ⟨a, u, cs, e, hb, ht, hm, c, RelS.strip r o'⟩
theorem start_lk {ds : List D} {n : Nat} {T : Vf.TP} {i : Nat} : lk (startS n ds T) i = (ds[i]?).map fun d => (false, d) := by
  unfold lk startS
  simp only
  by_cases h : i < ds.length
  · rw [List.getElem?_append_left (by simpa using h), List.getElem?_map]
    cases ds[i]? <;> rfl
  · rw [List.getElem?_append_right (by simpa using h), List.getElem?_eq_none (by omega : ds.length ≤ i)]
    simp only [List.getElem?_replicate]
    split <;> rfl
theorem RelS.enter {vs : List V} {ds : List D} {T : Vf.TP} {N : List Str} {o' : Nat → Addr} (r : RelS K B M o τ (vs.zip ds) [] ⟨[], T⟩ H) (hl : vs.length = ds.length) (hn : ds.length ≤ N.length) : RelS K B M o' τ (vs.zip ds) (L2.start N vs) (startS N.length ds T) H := by
  have no : ∀ {i d}, ¬ Own (startS N.length ds T) i d := fun {i d} w => by
    unfold Own at w
    rw [start_lk] at w
    cases q : ds[i]? with
    | none => rw [q] at w; cases w
    | some x => rw [q] at w; cases w
  have hp : ∀ b, Prt M o' τ (startS N.length ds T) b → Prt M o τ ⟨[], T⟩ b := by
    rintro b (z | z | ⟨i, d, w, _⟩)
    · exact .inl z
    · exact .inr (.inl z)
    · exact absurd w no
  have mo := Mo.same (H := H) hp
  refine ⟨by simp [L2.start, startS, hl], r.keep, fun p q => (r.fz p q).mo mo, fun i d w => ?_, fun i d w => absurd w no, fun i j d e w => absurd w no, ⟨r.tp.no, r.tp.at_⟩, r.mt⟩
  rw [start_lk] at w
  cases q : ds[i]? with
  | none => rw [q] at w; cases w
  | some x =>
    rw [q] at w
    cases w
    have hi : i < ds.length := (List.getElem?_eq_some_iff.mp q).1
    have hv : vs[i]? = some (vs[i]'(by omega)) := by simp [hl, hi]
    refine ⟨vs[i]'(by omega), ?_, (r.fz (vs[i]'(by omega), d) ?_).mo mo⟩
    · unfold L2.start
      rw [List.getElem?_append_left (by simp; omega), List.getElem?_map, hv]
      rfl
    · rw [List.mem_iff_getElem?]
      exact ⟨i, by rw [List.getElem?_zip_eq_some]; exact ⟨hv, q⟩⟩
end

def ckD (C : Cn) (N ps : List Str) (sc : Scope) (f : Fd) (body : List Stmt) : Bool := decide (f.n = N.length) && decide (f.ps = ps.length) && ckSs C ⟨sc, sc, N⟩ f.b body
theorem def_ok {C : Cn} {P : Program} {w : World} {K : PySem.W.Frag} {mg : Str → Option Value} {base : Heap} {k : Nat} {Ps : List Fn} {i : Nat} {fd0 : Fd} {N ps : List Str} {x qual : Str} {params : Arguments} {body : List Stmt} {scope : Scope} {dvs : List V} {kws : List (Str × V)} {f : Addr} {fd : FuncData}
    (pf : PF C (run Ps k) ⟨P, w, K, mg, base, k⟩) (hP : Ps[i]? = some (.body fd0)) (F : FunD K x qual params body scope dvs kws f fd) (Sc : FnScope N ps scope) (hc : ckD C N ps scope fd0 body = true) :
    FnOk P w K mg base (L2.CX P w) (k + 1) f fd ps (spF ⟨P, w, K, mg, base, k + 1⟩ C (run Ps (k + 1)) ps.length i) := by
  unfold ckD at hc
  simp only [Bool.and_eq_true, decide_eq_true_eq] at hc
  obtain ⟨⟨hn, hps⟩, hb⟩ := hc
  have hpl : ps.length ≤ N.length := by have := congrArg List.length Sc.pre; rw [List.length_take] at this; omega
  refine F.ok Sc (fun vs H Q E h => h.1) fun cdv A outer s H vs Q E hr h => ?_
  let X := cxOf (L2.CX P w) P w K mg base N qual scope f cdv A outer s H E
  let W : WX := fun cls d _ H => E cls d H
  have tk : Takes X W := takes_of (X := X) rfl rfl rfl rfl
  have G : GoodS C (run Ps k) k ⟨scope, scope, N⟩ X W := by
    refine ⟨⟨rfl, Sc.nd, rfl, fun y hy => ⟨hy, .inl rfl⟩, rfl, hr, tk, pf⟩, Sc.kind, passes_of (X := X) rfl, rfl, rfl⟩
  refine ⟨_, sound_Ss fd0.b G hb, ?_⟩
  obtain ⟨hv, M, τ, T, ds, hl, r, hm⟩ := h
  have hr1 : run Ps (k + 1) i ds T = runB (run Ps k) fd0 ds T := by
    show (match Ps[i]? with | some (.body b) => runB (run Ps k) b ds T | some (.prim p) => p ds T | none => .stuck) = _
    rw [hP]
  rw [hr1] at hm
  unfold runB at hm
  have hd : ds.length = fd0.ps := by omega
  rw [if_pos hd] at hm
  refine ⟨H, M, fun _ => 0, τ, vs.zip ds, startS fd0.n ds T, ?_, ?_⟩
  · rw [hn]; exact r.enter hl (by omega)
  · unfold WPm
    cases q : evSs (run Ps k) fd0.b (startS fd0.n ds T) with
    | stuck => rw [q] at hm; exact hm
    | exc c s' =>
      rw [q] at hm
      intro o σ H' r'
      exact hm H' ((r'.strip _).drop fun p hp => by simp at hp)
    | ok fl s' =>
      rw [q] at hm
      cases fl with
      | nx =>
        intro o σ H' r'
        have r2 : RelS K H M (fun _ => 0) τ [] [] ⟨[], s'.T⟩ H' := (r'.strip _).drop fun p hp => by simp at hp
        exact hm .non H' (r2.more1 .non)
      | rt d fr =>
        intro v o σ H' r'
        exact hm v H' ((r'.strip _).weak (fun _ _ z => z) (by simp))
structure DefIn (C : Cn) (P : Program) (w : World) (K : PySem.W.Frag) (mg : Str → Option Value) (base : Heap) (Ps : List Fn) (i : Nat) (f : Addr) : Prop where
  ex : ∃ (fd : FuncData) (ps : List Str), C.ar[i]? = some ps.length ∧ PySem.W.keepIn K (.ref f) = true ∧ L2.Binds K fd ps [] ∧
    ((∃ (fd0 : Fd) (N : List Str) (x qual : Str) (params : Arguments) (body : List Stmt) (scope : Scope) (dvs : List V) (kws : List (Str × V)), Ps[i]? = some (.body fd0) ∧ FunD K x qual params body scope dvs kws f fd ∧ FnScope N ps scope ∧ ckD C N ps scope fd0 body = true) ∨
     ∃ p, Ps[i]? = some (.prim p) ∧ ∀ k, FnOk P w K mg base (L2.CX P w) (k + 1) f fd ps (spF ⟨P, w, K, mg, base, k + 1⟩ C (fun _ => p) ps.length i))
structure Mdl (C : Cn) (P : Program) (w : World) (K : PySem.W.Frag) (mg : Str → Option Value) (base : Heap) (Ps : List Fn) : Prop where
  defs : ∀ x i, C.names.lookup x = some i → ∃ f, mg x = some (.ref f) ∧ DefIn C P w K mg base Ps i f
  con : ∀ x d, C.cons.lookup x = some d → ∃ v u, mg x = some u ∧ RelV v u ∧ ∀ P τ H, Rep K P τ H v d
  free : ∀ x ∈ C.free, mg x = none
  lenk : ∀ x ∈ C.lenk, LenFn K mg x
  cls : ∀ (c : Nat) (x : Str), C.cls[c]? = some x → ExcOk K mg x (caK K C c)
  exm : ∀ (i j : Nat) (x y : Str), C.cls[i]? = some x → C.cls[j]? = some y → PySem.W.exmOne K (.ref (caK K C i)) (.ref (caK K C j)) = some (C.exm i j)
section
variable {C : Cn} {P : Program} {w : World} {K : PySem.W.Frag} {mg : Str → Option Value} {base : Heap} {Ps : List Fn}
theorem defIn_ok {i : Nat} {f : Addr} (d : DefIn C P w K mg base Ps i f) {k : Nat} (pf : PF C (run Ps k) ⟨P, w, K, mg, base, k⟩) : ∃ fd ps, C.ar[i]? = some ps.length ∧ PySem.W.keepIn K (.ref f) = true ∧ L2.Binds K fd ps [] ∧
    FnOk P w K mg base (L2.CX P w) (k + 1) f fd ps (spF ⟨P, w, K, mg, base, k + 1⟩ C (run Ps (k + 1)) ps.length i) := by
  obtain ⟨fd, ps, h1, h2, h3, h4⟩ := d.ex
  refine ⟨fd, ps, h1, h2, h3, ?_⟩
  rcases h4 with ⟨fd0, N, x, qual, params, body, scope, dvs, kws, g1, g2, g3, g4⟩ | ⟨p, g1, g2⟩
  · exact def_ok pf g1 g2 g3 g4
  · refine (g2 k).imp ?_
    · intro vs H Q E h
      obtain ⟨hv, M, τ, T, ds, hl, r, hm⟩ := h
      refine ⟨hv, M, τ, T, ds, hl, r, ?_⟩
      have hr1 : run Ps (k + 1) i ds T = p ds T := by
        show (match Ps[i]? with | some (.body b) => runB (run Ps k) b ds T | some (.prim p) => p ds T | none => .stuck) = _
        rw [g1]
      rw [hr1] at hm
      exact hm
theorem all_ok (m : Mdl C P w K mg base Ps) : ∀ k, PF C (run Ps k) ⟨P, w, K, mg, base, k⟩
  | 0 => ⟨fun x i h => by
      obtain ⟨f, h1, d⟩ := m.defs x i h
      obtain ⟨fd, ps, g1, g2, g3, _⟩ := d.ex
      refine ⟨f, fd, ps, g1, h1, g2, g3, ⟨fun vs H Q E h => h.1, fun A outer s H args us vs Q E hr e0 hb r h => ?_⟩⟩
      obtain ⟨hv, M, τ, T, ds, hl, r, hm⟩ := h
      exact False.elim hm, m.con, m.free, m.lenk, m.cls, m.exm⟩
  | k + 1 => ⟨fun x i h => by
      obtain ⟨f, h1, d⟩ := m.defs x i h
      obtain ⟨fd, ps, g1, g2, g3, g4⟩ := defIn_ok d (all_ok m k)
      exact ⟨f, fd, ps, g1, h1, g2, g3, g4⟩, m.con, m.free, m.lenk, m.cls, m.exm⟩
end
end Vf
namespace Vf
open PySem PySem.Spec PyProof.Rows L2

def cutZ : List Int → List Int
  | [] => []
  | c :: r => if c = 0 then cutZ r else c :: r
def drawT (m : Int) (cs : List Int) (n : Int) : Int × (List Int × Int) := match cutZ cs with
  | c :: r => (c.fmod m, (c.fdiv m :: r, n))
  | [] => (((n * 48271 + 12345).fmod 2147483647).fdiv 64 |>.fmod m, ([], (n * 48271 + 12345).fmod 2147483647))
def drawP : List D → Vf.TP → FRes := fun ds T => match ds, T with
  | [.tape, .int m], some (cs, n) => if decide (0 < m) && decide (m < 1073741824) && decide (0 ≤ n) && decide (n < 4294967296) then .ok (.int (drawT m cs n).1) false (some (drawT m cs n).2) else .stuck
  | _, _ => .stuck
def isNm (x : Str) : Expr → Bool
  | .Name y _ => decide (y = x)
  | _ => false
def isK (k : Int) : Expr → Bool
  | .Constant (.int j) _ _ => decide (j = k)
  | _ => false
def isSub (x : Str) (k : Int) : Expr → Bool
  | .Subscript a b _ => isNm x a && isK k b
  | _ => false
def isFn (f : Str) (q : Expr → Bool) : Expr → Bool
  | .Call a [e] [] _ => isNm f a && nst e && q e
  | _ => false
def isBin (op : Operator) (q r : Expr → Bool) : Expr → Bool
  | .BinOp a o b _ => decide (o = op) && q a && r b
  | _ => false
def isCmp (op : CmpOp) (q r : Expr → Bool) : Expr → Bool
  | .Compare a [o] [b] _ => decide (o = op) && q a && r b
  | _ => false
def isAnd (q r : Expr → Bool) : Expr → Bool
  | .BoolOp .And [a, b] _ => q a && r b
  | _ => false
def isPop (x : Str) : Stmt → Bool
  | .Expr (.Call (.Attribute a m ap) [e] [] cp) _ => isNm x a && decide (m = ("pop" : Str)) && isK 0 e && (ap.endLine == cp.line)
  | _ => false
def isSet (x : Str) (q : Expr → Bool) : Stmt → Bool
  | .Assign [.Name y _] a _ => decide (y = x) && ncomp a && q a
  | _ => false
def isPut (x : Str) (k : Int) (q : Expr → Bool) : Stmt → Bool
  | .Assign [.Subscript a b _] e _ => isNm x a && isK k b && q e
  | _ => false
def isRet (q : Expr → Bool) : Stmt → Bool
  | .Return (some a) _ => q a
  | _ => false
def isWh (q : Expr → Bool) (r : Stmt → Bool) : Stmt → Bool
  | .While t [b] [] _ => q t && r b
  | _ => false
def isIf3 (q : Expr → Bool) (r1 r2 r3 : Stmt → Bool) : Stmt → Bool
  | .If t [a, b, c] [] _ => q t && r1 a && r2 b && r3 c
  | _ => false
def drawB (b : List Stmt) : Bool := match b with
  | [s1, s2, s3, s4, s5] => isSet "cells" (isSub "tape" 0) s1 && isWh (isAnd (isCmp .Gt (isFn "len" (isNm "cells")) (isK 0)) (isCmp .Eq (isSub "cells" 0) (isK 0))) (isPop "cells") s2 &&
    isIf3 (isCmp .Gt (isFn "len" (isNm "cells")) (isK 0)) (isSet "number" (isSub "cells" 0)) (isPut "cells" 0 (isBin .FloorDiv (isNm "number") (isNm "many"))) (isRet (isBin .Mod (isFn "int" (isNm "number")) (isNm "many"))) s3 &&
    isPut "tape" 1 (isBin .Mod (isFn "int" (isBin .Add (isBin .Mult (isSub "tape" 1) (isK 48271)) (isK 12345))) (isK 2147483647)) s4 &&
    isRet (isBin .Mod (isFn "int" (isBin .FloorDiv (isSub "tape" 1) (isK 64))) (isNm "many")) s5
  | _ => false
abbrev drawN : List Str := ["tape", "many", "cells", "number"]
structure DrawSc (sc : Scope) : Prop where
  v0 : sc.names.lookup ("tape" : Str) = some .local
  v1 : sc.names.lookup ("many" : Str) = some .local
  v2 : sc.names.lookup ("cells" : Str) = some .local
  v3 : sc.names.lookup ("number" : Str) = some .local
  gl : sc.names.lookup ("len" : Str) = some .globalImplicit
  gi : sc.names.lookup ("int" : Str) = some .globalImplicit
section
variable {X : Cx}
abbrev rIx0 (K : PySem.W.Frag) : R2 := rIxL K
theorem pe_v {i : Nat} {x : Str} {p : Pos} (hN : X.N = drawN) (hi : drawN[i]? = some x) (hl : X.env.scope.names.lookup x = some .local) (h1 : (x == ("__debug__" : Str)) = false) (h2 : (x == ("__classdict__" : Str)) = false) : PE X (.Name x p) (tVar i) :=
  pe_var (by rw [hN]; exact hi) (.inl hl) h1 h2
def tDraw (K : PySem.W.Frag) : TS :=
  tSeq (tAsg (tOp (rIxL K) (tVar 0) (tC (.int 0))) (gName 2))
  (tSeq (tWhile (tAnd (tTest (tOp (rI0 fun i j => .bl (decide (j < i))) (tCB (rLenA K) (tCons (tVar 2) tNil)) (tC (.int 0)))) (tTest (tOp rEq (tOp (rIxL K) (tVar 2) (tC (.int 0))) (tC (.int 0)))))
      (tDrop (tBM K "list" rPopAt (tVar 2) (tCons (tC (.int 0)) tNil))))
  (tSeq (tIfS (tTest (tOp (rI0 fun i j => .bl (decide (j < i))) (tCB (rLenA K) (tCons (tVar 2) tNil)) (tC (.int 0))))
      (tSeq (tAsg (tOp (rIxL K) (tVar 2) (tC (.int 0))) (gName 3))
      (tSeq (tAsg (tOp (rI (fun _ j => j ≠ 0 ∧ j.natAbs.log2 < 9000) fun i j => .int (i.fdiv j)) (tVar 3) (tVar 1)) (gSub (tVar 2) (tC (.int 0)) rSetL))
      (tRet (tOp (rI (fun _ j => j ≠ 0) fun i j => .int (i.fmod j)) (tCB (fun xs H Q => (∃ i, xs = [.int i] ∧ Q (.int i) H) ∨ ∃ k, xs = [.bl k] ∧ Q (.int (if k then 1 else 0)) H) (tCons (tVar 3) tNil)) (tVar 1)))))
      tNext)
  (tSeq (tAsg (tOp (rI (fun _ j => j ≠ 0) fun i j => .int (i.fmod j)) (tCB (fun xs H Q => (∃ i, xs = [.int i] ∧ Q (.int i) H) ∨ ∃ k, xs = [.bl k] ∧ Q (.int (if k then 1 else 0)) H)
      (tCons (tOp (rI0 fun i j => .int (i + j)) (tOp (rI CMulW fun i j => .int (i * j)) (tOp (rIxL K) (tVar 0) (tC (.int 1))) (tC (.int 48271))) (tC (.int 12345))) tNil)) (tC (.int 2147483647))) (gSub (tVar 0) (tC (.int 1)) rSetL))
  (tRet (tOp (rI (fun _ j => j ≠ 0) fun i j => .int (i.fmod j)) (tCB (fun xs H Q => (∃ i, xs = [.int i] ∧ Q (.int i) H) ∨ ∃ k, xs = [.bl k] ∧ Q (.int (if k then 1 else 0)) H)
      (tCons (tOp (rI (fun _ j => j ≠ 0 ∧ j.natAbs.log2 < 9000) fun i j => .int (i.fdiv j)) (tOp (rIxL K) (tVar 0) (tC (.int 1))) (tC (.int 64))) tNil)) (tVar 1))))))
theorem nm_of {x : Str} {e : Expr} (h : isNm x e = true) : ∃ p, e = .Name x p := by
  cases e <;> simp [isNm] at h
  exact ⟨_, by rw [h]⟩
theorem k_of {k : Int} {e : Expr} (h : isK k e = true) : ∃ n p, e = .Constant (.int k) n p := by
  unfold isK at h
  split at h
  · exact ⟨_, _, by rw [of_decide_eq_true h]⟩
  · cases h
theorem pe_K {k : Int} {e : Expr} (h : isK k e = true) : PE X e (tC (.int k)) := by
  obtain ⟨n, p, rfl⟩ := k_of h
  exact pe_int
theorem pe_N {x : Str} {i : Nat} {e : Expr} (P : ∀ {p}, PE X (.Name x p) (tVar i)) (h : isNm x e = true) : PE X e (tVar i) := by
  obtain ⟨p, rfl⟩ := nm_of h
  exact P
theorem pe_Sub {x : Str} {i : Nat} {k : Int} {e : Expr} (P : ∀ {p}, PE X (.Name x p) (tVar i)) (h : isSub x k e = true) : PE X e (tOp (rIxL X.K) (tVar i) (tC (.int k))) := by
  unfold isSub at h
  split at h
  · simp only [Bool.and_eq_true] at h
    obtain ⟨n, p, rfl⟩ := k_of h.2
    exact pe_ix ix_list (pe_N P h.1) pe_int (fun _ _ => rfl)
  · cases h
theorem pe_Len {q : Expr → Bool} {e : Expr} {te : TE} (hg : L2.Gl X "len") (hm : X.mg ("len" : Str) = none) (hq : ∀ e, q e = true → PE X e te) (h : isFn "len" q e = true) : PE X e (tCB (rLenA X.K) (tCons te tNil)) := by
  unfold isFn at h
  split at h
  · simp only [Bool.and_eq_true] at h
    obtain ⟨⟨h1, h2⟩, h3⟩ := h
    obtain ⟨p, rfl⟩ := nm_of h1
    exact pe_callB call_lenA hg hm boot_len (pa_cons (hq _ h3) pa_nil (star_cons h2)) (by decide +kernel) (by decide +kernel) (star_cons h2) rfl
  · cases h
abbrev rInt : List V → Hp → VK → Prop := fun xs H Q => (∃ i, xs = [.int i] ∧ Q (.int i) H) ∨ ∃ k, xs = [.bl k] ∧ Q (.int (if k then 1 else 0)) H
theorem pe_Int {q : Expr → Bool} {e : Expr} {te : TE} (hg : L2.Gl X "int") (hm : X.mg ("int" : Str) = none) (hq : ∀ e, q e = true → PE X e te) (h : isFn "int" q e = true) : PE X e (tCB rInt (tCons te tNil)) := by
  unfold isFn at h
  split at h
  · simp only [Bool.and_eq_true] at h
    obtain ⟨⟨h1, h2⟩, h3⟩ := h
    obtain ⟨p, rfl⟩ := nm_of h1
    exact pe_callTy call_int1 hg hm (by decide +kernel) (pa_cons (hq _ h3) pa_nil (star_cons h2)) (by decide +kernel) (by decide +kernel) (star_cons h2) rfl
  · cases h
theorem pe_Bin {op : Operator} {q r : Expr → Bool} {e : Expr} {ta tb : TE} {R : R2} (ho : OpR X (binaryOp op) R) (hq : ∀ e, q e = true → PE X e ta) (hr : ∀ e, r e = true → PE X e tb) (h : isBin op q r e = true) : PE X e (tOp R ta tb) := by
  unfold isBin at h
  split at h
  · simp only [Bool.and_eq_true, decide_eq_true_eq] at h
    obtain ⟨⟨rfl, h1⟩, h2⟩ := h
    exact pe_op ho (hq _ h1) (hr _ h2)
  · cases h
theorem pt_Cmp {op : CmpOp} {q : Expr → Bool} {k : Int} {e : Expr} {ta : TE} {R : R2} (ho : OpR X (compareOp op) R) (hq : ∀ e, q e = true → PE X e ta) (h : isCmp op q (isK k) e = true) : PT X e (tTest (tOp R ta (tC (.int k)))) := by
  unfold isCmp at h
  split at h
  · simp only [Bool.and_eq_true, decide_eq_true_eq] at h
    obtain ⟨⟨rfl, h1⟩, h2⟩ := h
    obtain ⟨n, p, rfl⟩ := k_of h2
    exact pt_cmpR ho (hq _ h1) pe_int rfl
  · cases h
theorem pt_And {q r : Expr → Bool} {e : Expr} {ta tb : TT} (hq : ∀ e, q e = true → PT X e ta) (hr : ∀ e, r e = true → PT X e tb) (h : isAnd q r e = true) : PT X e (tAnd ta tb) := by
  unfold isAnd at h
  split at h
  · simp only [Bool.and_eq_true] at h
    exact (pw_and (hq _ h.1) (pw_and1 (hr _ h.2))).pt
  · cases h
theorem ps_Set {x : Str} {i : Nat} {q : Expr → Bool} {st : Stmt} {te : TE} (hNd : X.N.Nodup) (hi : X.N[i]? = some x) (hl : X.env.scope.names.lookup x = some .local) (hq : ∀ e, q e = true → PE X e te) (h : isSet x q st = true) : PS X st (tAsg te (gName i)) := by
  unfold isSet at h
  split at h
  · rename_i y p a pos
    simp only [Bool.and_eq_true, decide_eq_true_eq] at h
    obtain ⟨⟨rfl, h1⟩, h2⟩ := h
    refine ps_set hNd hi (.inl hl) (hq _ h2) ?_ (.inr hl)
    cases a <;> first | rfl | cases h1
  · cases h
theorem ps_Put {x : Str} {i : Nat} {k : Int} {q : Expr → Bool} {st : Stmt} {te : TE} (P : ∀ {p}, PE X (.Name x p) (tVar i)) (hq : ∀ e, q e = true → PE X e te) (h : isPut x k q st = true) : PS X st (tAsg te (gSub (tVar i) (tC (.int k)) rSetL)) := by
  unfold isPut at h
  split at h
  · simp only [Bool.and_eq_true] at h
    obtain ⟨⟨h1, h2⟩, h3⟩ := h
    obtain ⟨n, p, rfl⟩ := k_of h2
    exact ps_asg (hq _ h3) (pg_sub (pe_N P h1) pe_int set_list) sw_sub rfl
  · cases h
theorem ps_Ret {q : Expr → Bool} {st : Stmt} {te : TE} (hq : ∀ e, q e = true → PE X e te) (h : isRet q st = true) : PS X st (tRet te) := by
  unfold isRet at h
  split at h
  · exact ps_ret (hq _ h)
  · cases h
theorem ps_Pop {x : Str} {i : Nat} {st : Stmt} (P : ∀ {p}, PE X (.Name x p) (tVar i)) (h : isPop x st = true) : PS X st (tDrop (tBM X.K "list" rPopAt (tVar i) (tCons (tC (.int 0)) tNil))) := by
  unfold isPop at h
  split at h
  · simp only [Bool.and_eq_true, decide_eq_true_eq] at h
    obtain ⟨⟨⟨h1, rfl⟩, h2⟩, h3⟩ := h
    obtain ⟨n, p, rfl⟩ := k_of h2
    obtain ⟨p2, rfl⟩ := nm_of h1
    exact ps_expr (pe_bm PySem.F.plainAttrs_list PySem.F.slot_list_pop PySem.F.type_list_pop mt_popAt P (pa_cons pe_int pa_nil) rfl rfl h3 rfl rfl) rfl
  · cases h
theorem ps_Wh {q : Expr → Bool} {r : Stmt → Bool} {st : Stmt} {tt : TT} {tb : TS} (hp : PassesOwn (model X.prog X.w) X.A X.env X.xe) (hq : ∀ e, q e = true → PT X e tt) (hr : ∀ e, r e = true → PS X e tb) (h : isWh q r st = true) : PS X st (tWhile tt tb) := by
  unfold isWh at h
  split at h
  · simp only [Bool.and_eq_true] at h
    exact ps_while hp (hq _ h.1) (pss_one (hr _ h.2))
  · cases h
theorem ps_If3 {q : Expr → Bool} {r1 r2 r3 : Stmt → Bool} {st : Stmt} {tt : TT} {t1 t2 t3 : TS} (hq : ∀ e, q e = true → PT X e tt) (h1 : ∀ e, r1 e = true → PS X e t1) (h2 : ∀ e, r2 e = true → PS X e t2) (h3 : ∀ e, r3 e = true → PS X e t3) (h : isIf3 q r1 r2 r3 st = true) : PS X st (tIfS tt (tSeq t1 (tSeq t2 t3)) tNext) := by
  unfold isIf3 at h
  split at h
  · simp only [Bool.and_eq_true] at h
    obtain ⟨⟨⟨g1, g2⟩, g3⟩, g4⟩ := h
    exact ps_if (hq _ g1) (pss_cons (h1 _ g2) (pss_cons (h2 _ g3) (pss_one (h3 _ g4)))) pss_nil
  · cases h
theorem pss_draw {b : List Stmt} (h : drawB b = true) (hN : X.N = drawN) (S : DrawSc X.env.scope) (hp : PassesOwn (model X.prog X.w) X.A X.env X.xe) (hl : X.mg ("len" : Str) = none) (hi : X.mg ("int" : Str) = none) : PSs X b (tDraw X.K) := by
  have hNd : X.N.Nodup := by rw [hN]; decide +kernel
  have P0 : ∀ {p}, PE X (.Name "tape" p) (tVar 0) := pe_v hN rfl S.v0 (by decide +kernel) (by decide +kernel)
  have P1 : ∀ {p}, PE X (.Name "many" p) (tVar 1) := pe_v hN rfl S.v1 (by decide +kernel) (by decide +kernel)
  have P2 : ∀ {p}, PE X (.Name "cells" p) (tVar 2) := pe_v hN rfl S.v2 (by decide +kernel) (by decide +kernel)
  have P3 : ∀ {p}, PE X (.Name "number" p) (tVar 3) := pe_v hN rfl S.v3 (by decide +kernel) (by decide +kernel)
  have X2 : X.N[2]? = some ("cells" : Str) := by rw [hN]; rfl
  have X3 : X.N[3]? = some ("number" : Str) := by rw [hN]; rfl
  unfold drawB at h
  split at h
  · simp only [Bool.and_eq_true] at h
    obtain ⟨⟨⟨⟨h1, h2⟩, h3⟩, h4⟩, h5⟩ := h
    have lenC := fun e => pe_Len (X := X) (e := e) S.gl hl (fun e => pe_N P2)
    refine pss_cons (ps_Set hNd X2 S.v2 (fun e => pe_Sub P0) h1) (pss_cons (ps_Wh hp (fun e => pt_And (fun e => pt_Cmp op_gt lenC) (fun e => pt_Cmp op_eq (fun e => pe_Sub P2))) (fun e => ps_Pop P2) h2)
      (pss_cons (ps_If3 (fun e => pt_Cmp op_gt lenC) (fun e => ps_Set hNd X3 S.v3 (fun e => pe_Sub P2)) (fun e => ps_Put P2 (fun e => pe_Bin op_fdivZ (fun e => pe_N P3) (fun e => pe_N P1))) (fun e => ps_Ret (fun e => pe_Bin op_modN (fun e => pe_Int S.gi hi (fun e => pe_N P3)) (fun e => pe_N P1))) h3)
      (pss_cons (ps_Put P0 (fun e => pe_Bin op_modN (fun e => pe_Int S.gi hi (fun e => pe_Bin op_add (fun e => pe_Bin op_mulW (fun e => pe_Sub P0) (fun e => pe_K)) (fun e => pe_K))) (fun e => pe_K)) h4)
      (pss_one (ps_Ret (fun e => pe_Bin op_modN (fun e => pe_Int S.gi hi (fun e => pe_Bin op_fdivZ (fun e => pe_Sub P0) (fun e => pe_K))) (fun e => pe_N P1)) h5)))))
  · cases h
end
end Vf
namespace Vf
open PySem PySem.Spec PyProof.Rows L2

structure Tp (H : Hp) (a c : Addr) (H' : Hp) (cs : List Int) (n : Int) : Prop where
  keep : ∀ b u, H b = some u → b ≠ a → b ≠ c → H' b = some u
  ta : H' a = some (.lst [.ref c, .int n])
  tc : H' c = some (.lst (cs.map .int))
theorem Tp.cell {H : Hp} {a c : Addr} {H' : Hp} {cs cs' : List Int} {n : Int} (t : Tp H a c H' cs n) (ne : a ≠ c) : Tp H a c (upd H' c (.lst (cs'.map .int))) cs' n :=
  ⟨fun b u e h1 h2 => by rw [upd_ne h2]; exact t.keep b u e h1 h2, by rw [upd_ne ne]; exact t.ta, upd_same⟩
theorem Tp.seed {H : Hp} {a c : Addr} {H' : Hp} {cs : List Int} {n n' : Int} (t : Tp H a c H' cs n) (ne : a ≠ c) : Tp H a c (upd H' a (.lst [.ref c, .int n'])) cs n' :=
  ⟨fun b u e h1 h2 => by rw [upd_ne h1]; exact t.keep b u e h1 h2, upd_same, by rw [upd_ne (Ne.symm ne)]; exact t.tc⟩
theorem small_log {j : Int} (h : j.natAbs < 2 ^ 32) : j.natAbs.log2 < 9000 := by
  have := PySem.Flt.log2_lt_of (k := 32) (by decide) h
  omega
theorem log_lt {n : Nat} {b : Nat} (hb : 0 < b) (h : n < 2 ^ b) : n.log2 < b := PySem.Flt.log2_lt_of hb h
theorem at0 {x : Int} {r : List Int} : atI ((x :: r).map V.int) 0 = some (V.int x) := atI_nat (j := 0) rfl
theorem ix0 {x : Int} {r : List Int} : ixN ((x :: r).map V.int).length 0 = some 0 := by
  unfold ixN
  simp
theorem sq0 {x : Int} {r : List Int} : seqIndex? 0 ((x :: r).map V.int).length = some 0 := by
  unfold seqIndex?
  simp
theorem draw_run {K : PySem.W.Frag} {H : Hp} {a c : Addr} {cs : List Int} {n m : Int} {Q : VK} (ne : a ≠ c) (ha : H a = some (.lst [.ref c, .int n])) (hc : H c = some (.lst (cs.map .int))) (hm0 : 0 < m) (hm : m < 1073741824) (hn0 : 0 ≤ n) (hn : n < 4294967296)
    (q : ∀ H', Tp H a c H' (drawT m cs n).2.1 (drawT m cs n).2.2 → Q (.int (drawT m cs n).1) H') (D : Ends) (hD : D.rt = Q) : tDraw K D (L2.start drawN [.ref a, .int m]) H := by
  have t0 : Tp H a c H cs n := ⟨fun b u e _ _ => e, ha, hc⟩
  have s0 : ∀ {v w : Option V}, ([some (V.ref a), some (V.int m), v, w] : L2.St)[0]? = some (some (V.ref a)) := rfl
  have s1 : ∀ {v w : Option V}, ([some (V.ref a), some (V.int m), v, w] : L2.St)[1]? = some (some (V.int m)) := rfl
  have s2 : ∀ {w : Option V}, ([some (V.ref a), some (V.int m), some (V.ref c), w] : L2.St)[2]? = some (some (V.ref c)) := rfl
  have s3 : ∀ {x : V}, ([some (V.ref a), some (V.int m), some (V.ref c), some x] : L2.St)[3]? = some (some x) := rfl
  refine ⟨V.ref a, s0, a, _, 0, V.ref c, rfl, rfl, .of ha, rfl, ?_⟩
  show tSeq _ _ D [some (V.ref a), some (V.int m), some (V.ref c), none] H
  refine ⟨fun j σ H' => σ = [some (V.ref a), some (V.int m), some (V.ref c), none] ∧ ∃ cs1 : List Int, j = cs1.length ∧ cutZ cs1 = cutZ cs ∧ Tp H a c H' cs1 n, ⟨cs.length, rfl, cs, rfl, rfl, t0⟩, ?_⟩
  rintro j σ H1 ⟨rfl, cs1, rfl, hcut, t1⟩
  have lenT : ∀ {σ : L2.St} {Q : Bool → Hp → Prop}, σ[2]? = some (some (V.ref c)) → Q (decide (0 < ((cs1.map V.int).length : Int))) H1 → (tTest (tOp (rI0 fun i j => .bl (decide (j < i))) (tCB (rLenA K) (tCons (tVar 2) tNil)) (tC (.int 0)))) σ H1 Q := fun {σ Q} hs hq =>
    ⟨V.ref c, hs, .inl ⟨c, cs1.map V.int, rfl, .inl (.of t1.tc), _, _, rfl, rfl, _, rfl, hq⟩⟩
  refine lenT s2 ?_
  try dsimp only
  have theEnd : cutZ cs1 = cs1 → (tSeq (tIfS (tTest (tOp (rI0 fun i j => .bl (decide (j < i))) (tCB (rLenA K) (tCons (tVar 2) tNil)) (tC (.int 0))))
      (tSeq (tAsg (tOp (rIxL K) (tVar 2) (tC (.int 0))) (gName 3))
      (tSeq (tAsg (tOp (rI (fun _ j => j ≠ 0 ∧ j.natAbs.log2 < 9000) fun i j => .int (i.fdiv j)) (tVar 3) (tVar 1)) (gSub (tVar 2) (tC (.int 0)) rSetL))
      (tRet (tOp (rI (fun _ j => j ≠ 0) fun i j => .int (i.fmod j)) (tCB rInt (tCons (tVar 3) tNil)) (tVar 1)))))
      tNext)
  (tSeq (tAsg (tOp (rI (fun _ j => j ≠ 0) fun i j => .int (i.fmod j)) (tCB rInt
      (tCons (tOp (rI0 fun i j => .int (i + j)) (tOp (rI CMulW fun i j => .int (i * j)) (tOp (rIxL K) (tVar 0) (tC (.int 1))) (tC (.int 48271))) (tC (.int 12345))) tNil)) (tC (.int 2147483647))) (gSub (tVar 0) (tC (.int 1)) rSetL))
  (tRet (tOp (rI (fun _ j => j ≠ 0) fun i j => .int (i.fmod j)) (tCB rInt
      (tCons (tOp (rI (fun _ j => j ≠ 0 ∧ j.natAbs.log2 < 9000) fun i j => .int (i.fdiv j)) (tOp (rIxL K) (tVar 0) (tC (.int 1))) (tC (.int 64))) tNil)) (tVar 1))))) D [some (V.ref a), some (V.int m), some (V.ref c), none] H1 := fun hz => by
    refine lenT s2 ?_
    try dsimp only
    rw [hz] at hcut
    cases cs1 with
    | nil =>
      have e0 : decide (0 < ((([] : List Int).map V.int).length : Int)) = false := rfl
      rw [e0, if_neg Bool.false_ne_true]
      have ed : drawT m cs n = ((((n * 48271 + 12345).fmod 2147483647).fdiv 64).fmod m, ([], (n * 48271 + 12345).fmod 2147483647)) := by unfold drawT; rw [← hcut]
      rw [ed] at q
      refine ⟨V.ref a, s0, a, _, 1, V.int n, rfl, rfl, .of t1.ta, rfl, n, 48271, rfl, rfl, ?_, _, _, rfl, rfl, ?_⟩
      · have h1 : n.natAbs.log2 < 32 := log_lt (by decide) (by omega)
        have h2 : (48271 : Int).natAbs.log2 < 32 := log_lt (by decide) (by decide)
        show _ + _ < _
        omega
      refine .inl ⟨_, rfl, _, _, rfl, rfl, (by decide : (2147483647 : Int) ≠ 0), ?_⟩
      refine ⟨V.ref a, s0, a, _, 1, 1, rfl, rfl, t1.ta, rfl, ?_⟩
      have t2 := t1.seed (n' := (n * 48271 + 12345).fmod 2147483647) ne
      refine ⟨V.ref a, s0, a, _, 1, V.int ((n * 48271 + 12345).fmod 2147483647), rfl, rfl, .of t2.ta, rfl, _, 64, rfl, rfl, ⟨by decide, by decide⟩, ?_⟩
      refine .inl ⟨_, rfl, V.int m, s1, _, _, rfl, rfl, (by omega : m ≠ 0), ?_⟩
      rw [hD]
      exact q _ t2
    | cons c0 r =>
      have e0 : decide (0 < (((c0 :: r).map V.int).length : Int)) = true := decide_eq_true (by simp)
      rw [e0, if_pos rfl]
      have ed : drawT m cs n = (c0.fmod m, (c0.fdiv m :: r, n)) := by unfold drawT; rw [← hcut]
      rw [ed] at q
      refine ⟨V.ref c, s2, c, _, 0, V.int c0, rfl, rfl, .of t1.tc, at0, ?_⟩
      refine ⟨V.int c0, s3, V.int m, s1, _, _, rfl, rfl, ⟨by omega, small_log (by omega)⟩, ?_⟩
      refine ⟨V.ref c, s2, c, _, 0, 0, rfl, rfl, t1.tc, ix0, ?_⟩
      have t2 := t1.cell (cs' := c0.fdiv m :: r) ne
      refine ⟨V.int c0, s3, .inl ⟨_, rfl, V.int m, s1, _, _, rfl, rfl, (by omega : m ≠ 0), ?_⟩⟩
      rw [hD]
      exact q _ t2
  cases cs1 with
  | nil =>
    have e0 : decide (0 < ((([] : List Int).map V.int).length : Int)) = false := rfl
    rw [e0, if_neg Bool.false_ne_true, if_neg Bool.false_ne_true]
    exact theEnd rfl
  | cons c0 r =>
    have e0 : decide (0 < (((c0 :: r).map V.int).length : Int)) = true := decide_eq_true (by simp)
    rw [e0, if_pos rfl]
    refine ⟨V.ref c, s2, c, _, 0, V.int c0, rfl, rfl, .of t1.tc, at0, rfl, _, rfl, ?_⟩
    by_cases h0 : c0 = 0
    · have e1 : decide (V.int c0 = V.int 0) = true := decide_eq_true (by rw [h0])
      rw [e1]
      try dsimp only
      rw [if_pos rfl]
      refine ⟨fun σ H' => σ = [some (V.ref a), some (V.int m), some (V.ref c), none] ∧ Tp H a c H' r n, fun σ' H' h => ⟨r.length, by simp, h.1, r, rfl, ?_, h.2⟩, ?_⟩
      · rw [← hcut]; show cutZ r = cutZ (c0 :: r); rw [cutZ, if_pos h0]
      · refine ⟨V.ref c, s2, .inl ⟨rfl, _, .of t1.tc⟩, c, _, 0, 0, V.int c0, rfl, rfl, t1.tc, by decide, by decide, sq0, rfl, ?_⟩
        exact ⟨rfl, t1.cell (cs' := r) ne⟩
    · have e1 : decide (V.int c0 = V.int 0) = false := decide_eq_false (fun z => h0 (V.int.inj z))
      rw [e1]
      try dsimp only
      rw [if_neg Bool.false_ne_true]
      exact theEnd (by unfold cutZ; rw [if_neg h0])
theorem drawP_cases (ds : List Vf.D) (T : Vf.TP) : drawP ds T = .stuck ∨ ∃ m cs n, ds = [.tape, .int m] ∧ T = some (cs, n) ∧ 0 < m ∧ m < 1073741824 ∧ 0 ≤ n ∧ n < 4294967296 ∧ drawP ds T = .ok (.int (drawT m cs n).1) false (some (drawT m cs n).2) := by
  unfold drawP
  split
  · rename_i m cs n
    split
    · rename_i h
      simp only [Bool.and_eq_true, decide_eq_true_eq] at h
      exact .inr ⟨m, cs, n, rfl, rfl, h.1.1.1, h.1.1.2, h.1.2, h.2, rfl⟩
    · exact .inl rfl
  · exact .inl rfl
theorem draw_ok {C : Cn} {P : Program} {w : World} {K : PySem.W.Frag} {mg : Str → Option Value} {base : Heap} {i : Nat} {x qual : Str} {params : Arguments} {body : List Stmt} {scope : Scope} {f : Addr} {fd : FuncData}
    (F : FunD K x qual params body scope [] [] f fd) (S : FnScope drawN ["tape", "many"] scope) (D : DrawSc scope) (hb : drawB body = true) (hl : mg ("len" : Str) = none) (hi : mg ("int" : Str) = none) :
    ∀ k, FnOk P w K mg base (L2.CX P w) (k + 1) f fd ["tape", "many"] (spF ⟨P, w, K, mg, base, k + 1⟩ C (fun _ => drawP) 2 i) := fun k => by
  refine F.ok S (fun vs H Q E h => h.1) fun cdv A outer s H vs Q E hr h => ?_
  let X := cxOf (L2.CX P w) P w K mg base drawN qual scope f cdv A outer s H E
  refine ⟨_, pss_draw (X := X) hb rfl D (passes_of (X := X) rfl) hl hi, ?_⟩
  obtain ⟨hv, M, τ, T, ds, hlen, r, hm⟩ := h
  have hm : (match drawP ds T with
    | .ok d fr T' => ∀ v H', RelT K (fun _ => 0) τ [] ⟨[], T'⟩ H' [(v, d, fr)] H M [] → Q v H'
    | .exc c T' => ∀ H', RelS K H M (fun _ => 0) τ [] [] ⟨[], T'⟩ H' → E (.ref (caK K C c)) none H'
    | .stuck => False) := hm
  rcases drawP_cases ds T with e | ⟨m, cs, n, rfl, rfl, c1, c2, c3, c4, e⟩
  · rw [e] at hm; exact False.elim hm
  · rw [e] at hm
    · skip
      obtain ⟨v1, v2, rfl⟩ : ∃ v1 v2, vs = [v1, v2] := by
        match vs, hv with
        | [v1, v2], _ => exact ⟨v1, v2, rfl⟩
      have r1 := r.fz (v1, .tape) (by simp)
      have r2 := r.fz (v2, .int m) (by simp)
      cases r2
      cases r1 with
      | @tape a c ht =>
        have tp := r.tp.at_
        subst ht
        obtain ⟨ne, ha, hc⟩ : a ≠ c ∧ H a = some (.lst [.ref c, .int n]) ∧ H c = some (.lst (cs.map V.int)) := tp
        refine draw_run ne ha hc c1 c2 c3 c4 (fun H' t => hm _ H' ?_) _ rfl
        have r3 : RelS K H M (fun _ => 0) (some (a, c)) [] [] ⟨[], some (drawT m cs n).2⟩ H' := by
          have r0 : RelS K H M (fun _ => 0) (some (a, c)) [] [] ⟨[], some (cs, n)⟩ H := r.drop (by simp)
          refine r0.move (T := some (drawT m cs n).2) (fun b u e hn => t.keep b u e (fun z => hn ⟨_, rfl, .inl z⟩) (fun z => hn ⟨_, rfl, .inr z⟩)) ⟨r0.tp.no, ?_⟩
          exact ⟨ne, t.ta, t.tc⟩
        exact r3.more1 (.int _)
end Vf
namespace Vf
open PySem PySem.Spec PyProof.Rows L2

def seedF (s : Int) (ns : List Int) : Int := ns.foldl (fun s c => (s * 31 + c).fmod 1000003) s
def absI (i : Int) : Int := if i < 0 then -i else i
def spTape (K : PySem.W.Frag) : Sp := fun vs H Q _ => vs.length = 1 ∧ ∃ l ns, ns.length ≤ 1000 ∧ vs = [.ref l] ∧ SqL K H l (ns.map V.int) ∧ ∀ t c H', H t = none → H c = none → t ≠ c → (∀ b u, H b = some u → H' b = some u) → H' t = some (.lst [.ref c, .int (seedF 7 ns + 1)]) → H' c = some (.lst ((ns.map absI).map V.int)) → Q (.ref t) H'
def isForN (x y : Str) (r : Stmt → Bool) : Stmt → Bool
  | .For t i [b] [] _ => isNm x t && isNm y i && r b
  | _ => false
def isLc (x y : Str) (q : Expr → Bool) (sc N : Scope → Bool) : Expr → Bool
  | .ListComp elt [⟨t, i, [], n⟩] scope _ => decide (n = 0) && isNm x t && isNm y i && q elt && sc scope && N scope
  | _ => false
def isLst2 (q r : Expr → Bool) : Expr → Bool
  | .List [a, b] _ => nst a && nst b && q a && r b
  | _ => false
abbrev tapeN : List Str := ["script", "seed", "cell"]
def tapeSc (scope : Scope) : Bool := decide (scope.names.lookup ("cell" : Str) = some .local) && decide (scope.names.lookup ("abs" : Str) = some .globalImplicit) && decide (scope.names.lookup ("int" : Str) = some .globalImplicit)
def tapeB (sc : Scope) (b : List Stmt) : Bool := match b with
  | [s1, s2, s3] => isSet "seed" (isK 7) s1 && isForN "cell" "script" (isSet "seed" (isBin .Mod (isFn "int" (isBin .Add (isBin .Mult (isNm "seed") (isK 31)) (isNm "cell"))) (isK 1000003))) s2 &&
    isRet (isLst2 (isLc "cell" "script" (isFn "abs" (isFn "int" (isNm "cell"))) tapeSc (fun scope => blkC tapeN sc scope [("cell", 2)])) (isBin .Add (isNm "seed") (isK 1))) s3
  | _ => false
structure TapeSc (sc : Scope) : Prop where
  v0 : sc.names.lookup ("script" : Str) = some .local
  v1 : sc.names.lookup ("seed" : Str) = some .local
  v2 : sc.names.lookup ("cell" : Str) = some .local
  gi : sc.names.lookup ("int" : Str) = some .globalImplicit
section
variable {X : Cx}
def tTape (K : PySem.W.Frag) : TS :=
  tSeq (tAsg (tC (.int 7)) (gName 1))
  (tSeq (tFor (iList K (tVar 0)) (gName 2) (tAsg (tOp (rI (fun _ j => j ≠ 0) fun i j => .int (i.fmod j)) (tCB rInt (tCons (tOp (rI0 fun i j => .int (i + j)) (tOp (rI CMulW fun i j => .int (i * j)) (tVar 1) (tC (.int 31))) (tVar 2)) tNil)) (tC (.int 1000003))) (gName 1)))
  (tRet (tLst (tCons (tLc (iList K (tVar 0)) (gName 2) tYes (tCB (fun xs H Q => ∃ i, xs = [.int i] ∧ Q (.int (if i < 0 then -i else i)) H) (tCons (tCB rInt (tCons (tVar 2) tNil)) tNil)) [2])
    (tCons (tOp (rI0 fun i j => .int (i + j)) (tVar 1) (tC (.int 1))) tNil)))))
theorem pe_Abs {q : Expr → Bool} {e : Expr} {te : TE} (hg : L2.Gl X "abs") (hm : X.mg ("abs" : Str) = none) (hq : ∀ e, q e = true → PE X e te) (h : isFn "abs" q e = true) : PE X e (tCB (fun xs H Q => ∃ i, xs = [.int i] ∧ Q (.int (if i < 0 then -i else i)) H) (tCons te tNil)) := by
  unfold isFn at h
  split at h
  · simp only [Bool.and_eq_true] at h
    obtain ⟨⟨h1, h2⟩, h3⟩ := h
    obtain ⟨p, rfl⟩ := nm_of h1
    exact pe_callB call_abs hg hm (by decide +kernel) (pa_cons (hq _ h3) pa_nil (star_cons h2)) (by decide +kernel) (by decide +kernel) (star_cons h2) rfl
  · cases h
theorem pss_tape {b : List Stmt} (h : tapeB X.env.scope b = true) (hN : X.N = tapeN) (S : TapeSc X.env.scope) (hc : X.calm = true) (hp : PassesOwn (model X.prog X.w) X.A X.env X.xe) (ha : X.mg ("abs" : Str) = none) (hi : X.mg ("int" : Str) = none) : PSs X b (tTape X.K) := by
  have hNd : X.N.Nodup := by rw [hN]; decide +kernel
  have X0 : X.N[0]? = some ("script" : Str) := by rw [hN]; rfl
  have X1 : X.N[1]? = some ("seed" : Str) := by rw [hN]; rfl
  have X2 : X.N[2]? = some ("cell" : Str) := by rw [hN]; rfl
  have P0 : ∀ {p}, PE X (.Name "script" p) (tVar 0) := pe_var X0 (.inl S.v0) (by decide +kernel) (by decide +kernel)
  have P1 : ∀ {p}, PE X (.Name "seed" p) (tVar 1) := pe_var X1 (.inl S.v1) (by decide +kernel) (by decide +kernel)
  have P2 : ∀ {p}, PE X (.Name "cell" p) (tVar 2) := pe_var X2 (.inl S.v2) (by decide +kernel) (by decide +kernel)
  have forR : ∀ st, isForN "cell" "script" (isSet "seed" (isBin .Mod (isFn "int" (isBin .Add (isBin .Mult (isNm "seed") (isK 31)) (isNm "cell"))) (isK 1000003))) st = true → PS X st _ := fun st h => by
    unfold isForN at h
    split at h
    · simp only [Bool.and_eq_true] at h
      obtain ⟨p1, rfl⟩ := nm_of h.1.1
      obtain ⟨p2, rfl⟩ := nm_of h.1.2
      exact ps_for hp hc (pi_list P0) (pg_name hNd X2 (.inl S.v2) (.inr S.v2)) (pss_one (ps_Set hNd X1 S.v1 (fun e => pe_Bin op_modN (fun e => pe_Int S.gi hi (fun e => pe_Bin op_add (fun e => pe_Bin op_mulW (fun e => pe_N P1) (fun e => pe_K)) (fun e => pe_N P2))) (fun e => pe_K)) h.2))
    · cases h
  have lcR : ∀ e, isLc "cell" "script" (isFn "abs" (isFn "int" (isNm "cell"))) tapeSc (fun scope => blkC tapeN X.env.scope scope [("cell", 2)]) e = true → PE X e (tLc (iList X.K (tVar 0)) (gName 2) tYes (tCB (fun xs H Q => ∃ i, xs = [.int i] ∧ Q (.int (if i < 0 then -i else i)) H) (tCons (tCB rInt (tCons (tVar 2) tNil)) tNil)) [2]) := fun e h => by
    unfold isLc at h
    split at h
    · rename_i elt t i n scope pos
      simp only [Bool.and_eq_true, decide_eq_true_eq] at h
      obtain ⟨⟨⟨⟨⟨rfl, h1⟩, h2⟩, h3⟩, h4⟩, h5⟩ := h
      obtain ⟨p1, rfl⟩ := nm_of h1
      obtain ⟨p2, rfl⟩ := nm_of h2
      unfold tapeSc at h4
      simp only [Bool.and_eq_true, decide_eq_true_eq] at h4
      obtain ⟨⟨q1, q2⟩, q3⟩ := h4
      have ok : BlkOk X.N X.env.scope scope [("cell", 2)] := by rw [hN]; exact blkOk_by h5
      have k1 := lookup_relS_keep (sc := X.env.scope) (show NameKind.local ≠ .free by decide) q1
      have k2 := lookup_relS_keep (sc := X.env.scope) (show NameKind.globalImplicit ≠ .free by decide) q2
      have k3 := lookup_relS_keep (sc := X.env.scope) (show NameKind.globalImplicit ≠ .free by decide) q3
      refine pe_lc (own := [("cell", 2)]) hc hNd (pi_list P0) ok (fun s H C cl fp => pg_name hNd X2 (.inl k1) (.inr k1)) (fun s H C cl fp => pts_nil) (fun s H C cl fp => ?_) (fun _ => rfl)
      have PB : ∀ {p}, PE (X.blk s H scope (compEnvC scope cl C X.env) fp) (.Name "cell" p) (tVar 2) := pe_var X2 (.inl k1) (by decide +kernel) (by decide +kernel)
      exact pe_Abs (X := X.blk s H scope (compEnvC scope cl C X.env) fp) k2 ha (fun e => pe_Int (X := X.blk s H scope (compEnvC scope cl C X.env) fp) k3 hi (fun e => pe_N PB)) h3
    · cases h
  have lst2 : ∀ e, isLst2 (isLc "cell" "script" (isFn "abs" (isFn "int" (isNm "cell"))) tapeSc (fun scope => blkC tapeN X.env.scope scope [("cell", 2)])) (isBin .Add (isNm "seed") (isK 1)) e = true → PE X e _ := fun e h => by
    unfold isLst2 at h
    split at h
    · simp only [Bool.and_eq_true] at h
      obtain ⟨⟨⟨h1, h2⟩, h3⟩, h4⟩ := h
      exact pe_lst (pa_cons (lcR _ h3) (pa_cons (pe_Bin op_add (fun e => pe_N P1) (fun e => pe_K) h4) pa_nil (star_cons h2)) (star_cons h1))
    · cases h
  unfold tapeB at h
  split at h
  · simp only [Bool.and_eq_true] at h
    obtain ⟨⟨h1, h2⟩, h3⟩ := h
    exact pss_cons (ps_Set hNd X1 S.v1 (fun e => pe_K) h1) (pss_cons (forR _ h2) (pss_one (ps_Ret lst2 h3)))
  · cases h
end
end Vf
namespace Vf
open PySem PySem.Spec PyProof.Rows L2

theorem seedF_snoc (s : Int) (ns : List Int) (c : Int) : seedF s (ns ++ [c]) = (seedF s ns * 31 + c).fmod 1000003 := by
  unfold seedF
  rw [List.foldl_append]
  rfl
theorem seedF_small : ∀ (ns : List Int) (s : Int), 0 ≤ s → s < 1000003 → 0 ≤ seedF s ns ∧ seedF s ns < 1000003
  | [], s, h1, h2 => ⟨h1, h2⟩
  | c :: r, s, h1, h2 => by
    have a1 := Int.fmod_nonneg_of_pos (s * 31 + c) (by decide : (0 : Int) < 1000003)
    have a2 := Int.fmod_lt_of_pos (s * 31 + c) (by decide : (0 : Int) < 1000003)
    exact seedF_small r _ a1 a2
theorem tape_run {K : PySem.W.Frag} {H : Hp} {l : Addr} {ns : List Int} {Q : VK} (hs : SqL K H l (ns.map V.int)) (hz : ns.length ≤ 1000)
    (q : ∀ t c H', H t = none → H c = none → t ≠ c → (∀ b u, H b = some u → H' b = some u) → H' t = some (.lst [.ref c, .int (seedF 7 ns + 1)]) → H' c = some (.lst ((ns.map absI).map V.int)) → Q (.ref t) H') (D : Ends) (hD : D.rt = Q) : tTape K D (L2.start tapeN [.ref l]) H := by
  show tSeq _ _ D [some (V.ref l), some (V.int 7), none] H
  refine ⟨V.ref l, rfl, l, rfl, ⟨_, hs⟩, ?_⟩
  refine for_it (walk_list (xs := ns.map V.int)) (fun i σ H1 => H1 = H ∧ σ.length = 3 ∧ σ[0]? = some (some (V.ref l)) ∧ σ[1]? = some (some (V.int (seedF 7 (ns.take i))))) ⟨rfl, rfl, rfl, by simp [seedF]⟩ (fun i σ H1 _ h => by rw [h.1]; exact hs) ?_ ?_
  · rintro i x σ H1 H2 hi ⟨rfl, hl, h0, h1⟩ ⟨rfl, hx⟩
    rw [List.getElem?_map] at hx
    cases hc : ns[i]? with
    | none => rw [hc] at hx; cases hx
    | some c =>
      rw [hc] at hx
      cases hx
      obtain ⟨b1, b2⟩ := seedF_small (ns.take i) 7 (by decide) (by decide)
      have e2 : (σ.set 2 (some (V.int c)))[1]? = some (some (V.int (seedF 7 (ns.take i)))) := by rw [List.getElem?_set_ne (by decide)]; exact h1
      have e3 : (σ.set 2 (some (V.int c)))[2]? = some (some (V.int c)) := List.getElem?_set_self (by omega)
      have hm : CMulW (seedF 7 (ns.take i)) 31 := by
        have h1 : (seedF 7 (ns.take i)).natAbs.log2 < 32 := log_lt (by decide) (by omega)
        have h2 : (31 : Int).natAbs.log2 < 32 := log_lt (by decide) (by decide)
        show _ + _ < _
        omega
      refine ⟨_, e2, _, _, rfl, rfl, hm, _, e3, _, _, rfl, rfl, .inl ⟨_, rfl, _, _, rfl, rfl, (by decide : (1000003 : Int) ≠ 0), ?_⟩⟩
      have ht : ns.take (i + 1) = ns.take i ++ [c] := by rw [List.take_add_one, hc]; rfl
      refine ⟨rfl, by simp [hl], ?_, ?_⟩
      · rw [List.getElem?_set_ne (by decide), List.getElem?_set_ne (by decide)]; exact h0
      · rw [List.getElem?_set_self (by simp [hl]), ht, seedF_snoc]
  · rintro σ H1 ⟨rfl, hl, h0, h1⟩
    rw [List.length_map, List.take_length] at h1
    refine ⟨V.ref l, h0, l, rfl, ⟨_, hs⟩, fun C hC => ?_⟩
    have same : ∀ xs, Same H1 (upd H1 C (.lst xs)) := fun xs b u e => by rw [upd_ne]; exact e; intro z; subst z; rw [hC] at e; cases e
    have hsC : ∀ xs, SqL K (upd H1 C (.lst xs)) l (ns.map V.int) := fun xs => (same xs).seq hs
    refine lc_list (xs := ns.map V.int) (fun i H2 => H2 = upd H1 C (.lst (((ns.take i).map absI).map V.int))) (by simp) (fun i H2 _ h => by rw [h]; exact hsC _) ?_ ?_
    · rintro i x H2 hx rfl
      rw [List.getElem?_map] at hx
      cases hc : ns[i]? with
      | none => rw [hc] at hx; cases hx
      | some c =>
        rw [hc] at hx
        cases hx
        have e3 : ((wipe σ [2]).set 2 (some (V.int c)))[2]? = some (some (V.int c)) := List.getElem?_set_self (by rw [wipe_length]; omega)
        have ew : wipe ((wipe σ [2]).set 2 (some (V.int c))) [2] = wipe σ [2] := by simp [wipe]
        refine ⟨ew, ?_⟩
        unfold tYes
        dsimp only
        rw [if_pos rfl]
        refine ⟨_, e3, .inl ⟨_, rfl, _, rfl, _, upd_same, ?_, ?_⟩⟩
        · have := line16
          simp only [List.length_map, List.length_take]
          omega
        · have ht : ns.take (i + 1) = ns.take i ++ [c] := by rw [List.take_add_one, hc]; rfl
          rw [upd_upd, ht, List.map_append, List.map_append]
          rfl
    · rintro H2 rfl
      rw [List.length_map, List.take_length]
      refine ⟨_, h1, _, _, rfl, rfl, (by show 2 ≤ sizeLine; decide), fun t ht => ?_⟩
      rw [hD]
      have hne : t ≠ C := fun z => by rw [z, upd_same] at ht; cases ht
      rw [upd_ne hne] at ht
      refine q t C _ ht hC hne (fun b u e => ?_) upd_same ?_
      · rw [upd_ne, upd_ne]
        · exact e
        · intro z; subst z; rw [hC] at e; cases e
        · intro z; subst z; rw [ht] at e; cases e
      · rw [upd_ne (Ne.symm hne), upd_same]
theorem tape_ok {P : Program} {w : World} {K : PySem.W.Frag} {mg : Str → Option Value} {base : Heap} {x qual : Str} {params : Arguments} {body : List Stmt} {scope : Scope} {f : Addr} {fd : FuncData}
    (F : FunD K x qual params body scope [] [] f fd) (S : FnScope tapeN ["script"] scope) (D : TapeSc scope) (hb : tapeB scope body = true) (ha : mg ("abs" : Str) = none) (hi : mg ("int" : Str) = none) :
    ∀ k, FnOk P w K mg base (L2.CX P w) (k + 1) f fd ["script"] (spTape K) := fun k => by
  refine F.ok S (fun vs H Q E h => h.1) fun cdv A outer s H vs Q E hr h => ?_
  let X := cxOf (L2.CX P w) P w K mg base tapeN qual scope f cdv A outer s H E
  refine ⟨_, pss_tape (X := X) hb rfl D rfl (passes_of (X := X) rfl) ha hi, ?_⟩
  obtain ⟨_, l, ns, hz, rfl, hs, q⟩ := h
  exact tape_run hs hz q _ rfl
end Vf
namespace Vf
open PySem PySem.Spec PyProof.Rows L2

def lawS (n i : Nat) (ns : List Int) : S := ⟨(List.replicate n none).set i (some (false, .tape)), some (ns.map absI, seedF 7 ns + 1)⟩
def spLaw (K : PySem.W.Frag) (m : Nat) : Sp := fun vs H Q _ => vs.length = 1 ∧ ∃ (a : Addr) (ns : List Int), ns.length ≤ m ∧ vs = [.ref a] ∧ SqL K H a (ns.map V.int) ∧ ∀ H', Q (.bl true) H'
def lawB (C : Cn) (N : List Str) (i : Nat) (sc : Scope) (f : Sxs) (b : List Stmt) : Bool := match b with
  | s0 :: rest => isSet "tape" (isFn "_law_tape" (isNm "script")) s0 && decide (N[i]? = some ("tape" : Str)) && locB sc "tape" && decide (sc.names.lookup ("script" : Str) = some .local) && decide (N[0]? = some ("script" : Str)) &&
    decide (sc.names.lookup ("_law_tape" : Str) = some .globalImplicit) && ckSs C ⟨sc, sc, N⟩ f rest
  | [] => false
theorem ps_SetL {X : Cx} {x : Str} {i : Nat} {q : Expr → Bool} {st : Stmt} {te : TE} (hNd : X.N.Nodup) (hi : X.N[i]? = some x) (hl : Loc X.env.scope x) (hf : X.fn x = true) (hq : ∀ e, q e = true → PE X e te) (h : isSet x q st = true) : PS X st (tAsg te (gName i)) := by
  unfold isSet at h
  split at h
  · rename_i y p a pos
    simp only [Bool.and_eq_true, decide_eq_true_eq] at h
    obtain ⟨⟨rfl, h1⟩, h2⟩ := h
    refine ps_set hNd hi hl (hq _ h2) ?_ (.inl hf)
    cases a <;> first | rfl | cases h1
  · cases h
theorem locB_ok {sc : Scope} {x : Str} (h : locB sc x = true) : Loc sc x := by
  unfold locB at h
  split at h
  · exact .inl (by assumption)
  · exact .inr (by assumption)
  · cases h
theorem law_ok {C : Cn} {P : Program} {w : World} {K : PySem.W.Frag} {mg : Str → Option Value} {base : Heap} {k : Nat} {Ps : List Fn} {fb : Sxs} {N : List Str} {i m : Nat} {x qual : Str} {params : Arguments} {body : List Stmt} {scope : Scope} {dvs : List V} {kws : List (Str × V)} {f ft : Addr} {fd fdt : FuncData}
    (pf : PF C (run Ps (k + 1)) ⟨P, w, K, mg, base, k + 1⟩) (F : FunD K x qual params body scope dvs kws f fd) (Sc : FnScope N ["script"] scope) (hb : lawB C N i scope fb body = true)
    (ht : mg ("_law_tape" : Str) = some (.ref ft)) (hk : PySem.W.keepIn K (.ref ft) = true) (bt : L2.Binds K fdt ["script"] []) (Ft : ∀ k, FnOk P w K mg base (L2.CX P w) (k + 1) ft fdt ["script"] (spTape K)) (hm : m ≤ 1000)
    (math : ∀ ns : List Int, ns.length ≤ m → ∃ fr s', evSs (run Ps (k + 1)) fb (lawS N.length i ns) = .ok (.rt (.bl true) fr) s') :
    FnOk P w K mg base (L2.CX P w) (k + 2) f fd ["script"] (spLaw K m) := by
  refine F.ok Sc (fun vs H Q E h => h.1) fun cdv A outer s H vs Q E hr h => ?_
  let X := cxOf (L2.CX P w) P w K mg base N qual scope f cdv A outer s H E
  let W : WX := fun cls d _ H => E cls d H
  have tk : Takes X W := takes_of (X := X) rfl rfl rfl rfl
  have G : GoodS C (run Ps (k + 1)) (k + 1) ⟨scope, scope, N⟩ X W := by
    refine ⟨⟨rfl, Sc.nd, rfl, fun y hy => ⟨hy, .inl rfl⟩, rfl, hr, tk, pf⟩, Sc.kind, passes_of (X := X) rfl, rfl, rfl⟩
  unfold lawB at hb
  split at hb
  · rename_i s0 rest
    simp only [Bool.and_eq_true, decide_eq_true_eq] at hb
    obtain ⟨⟨⟨⟨⟨⟨h1, h2⟩, h3⟩, h4⟩, h5⟩, h6⟩, h7⟩ := hb
    have P0 : ∀ {p}, PE X (.Name "script" p) (tVar 0) := pe_var h5 (.inl h4) (by decide +kernel) (by decide +kernel)
    have callR : ∀ e, isFn "_law_tape" (isNm "script") e = true → PE X e (tCallS (spTape K) (WE W) (tCons (tVar 0) tNil)) := fun e h => by
      unfold isFn at h
      split at h
      · simp only [Bool.and_eq_true] at h
        obtain ⟨⟨g1, g2⟩, g3⟩ := h
        obtain ⟨p, rfl⟩ := nm_of g1
        exact pe_callS (X := X) (Ft k) hr h6 ht hk bt (fun σ => passAt tk σ) (pa_cons (pe_N P0 g3) pa_nil (star_cons g2)) (by decide +kernel) (star_cons g2) rfl
      · cases h
    refine ⟨_, pss_cons (ps_SetL (X := X) Sc.nd h2 (locB_ok h3) rfl callR h1) (sound_Ss fb G h7), ?_⟩
    obtain ⟨_, a, ns, hz, rfl, hs, q⟩ := h
    have hN0 : 0 < N.length := (List.getElem?_eq_some_iff.mp h5).1
    have hNi : i < N.length := (List.getElem?_eq_some_iff.mp h2).1
    refine ⟨V.ref a, rfl, rfl, a, ns, Nat.le_trans hz hm, rfl, hs, fun t c H' t1 t2 ne kp t3 t4 => ?_⟩
    obtain ⟨fr, s', hev⟩ := math ns hz
    have lkS : ∀ {j : Nat} {y : Bool × D}, lk (lawS N.length i ns) j = some y → j = i ∧ y = (false, .tape) := fun {j y} e => by
      unfold lk lawS at e
      simp only at e
      by_cases hj : j = i
      · subst hj
        rw [List.getElem?_set_self (by simpa using hNi)] at e
        exact ⟨rfl, (Option.some.inj e).symm⟩
      · rw [List.getElem?_set_ne (Ne.symm hj), List.getElem?_replicate] at e
        split at e <;> cases e
    have hl : (L2.start N [V.ref a]).length = N.length := by simp [L2.start]; omega
    refine ⟨fun _ => none, fun _ => False, fun _ => 0, some (t, c), [], lawS N.length i ns, ?_, ?_⟩
    · refine ⟨by rw [List.length_set, hl]; simp [lawS], (fun b u e => by cases e), (fun p hp => by cases hp), fun j d e => ?_, fun j d e => ?_, fun j j2 d e w1 => ?_, ⟨fun b _ z => z, ?_⟩, fun b z => z.elim⟩
      · obtain ⟨rfl, e2⟩ := lkS e
        cases e2
        exact ⟨.ref t, List.getElem?_set_self (by rw [hl]; exact hNi), .tape rfl⟩
      · obtain ⟨_, e2⟩ := lkS e; cases e2
      · obtain ⟨_, e2⟩ := lkS w1; cases e2
      · exact ⟨ne, t3, t4⟩
    · unfold WPm
      rw [hev]
      intro v o σ H2 rt
      have ev : v = .bl true := by
        cases fr with
        | false =>
          have rt : RelS K (fun _ => none) (fun _ => False) o (some (t, c)) [(v, .bl true)] σ s' H2 := rt
          have := rt.fz (v, .bl true) List.mem_cons_self
          cases this; rfl
        | true =>
          obtain ⟨_, _, _, _, _, _, _, cc, _⟩ := rt
          cases cc
      subst ev
      exact q H2
  · cases hb
def AllP {α : Type} (Q : α → Prop) : List α → Prop
  | [] => True
  | a :: l => Q a ∧ AllP Q l
theorem AllP.mem {α : Type} {Q : α → Prop} : ∀ {l : List α}, AllP Q l → ∀ a ∈ l, Q a
  | [], _, _, h => by cases h
  | b :: l, ⟨h1, h2⟩, a, h => (List.mem_cons.mp h).elim (fun e => e ▸ h1) fun e => AllP.mem h2 a e
theorem lookup_memS {β : Type} : ∀ {l : List (Str × β)} {i : Str} {x : β}, l.lookup i = some x → (i, x) ∈ l
  | [], _, _, h => by cases h
  | (j, y) :: r, i, x, h => by
    rw [List.lookup_cons] at h
    by_cases e : i = j
    · subst e
      simp at h
      subst h
      exact List.mem_cons_self
    · have e' : (i == j) = false := by simpa using e
      rw [e'] at h
      exact List.mem_cons_of_mem _ (lookup_memS h)
def lenKeyB (b : List Stmt) (sc : Scope) (x : Str) : Bool := match b with
  | [.Return (some (.Tuple [.Call (.Name l _) [.Name y _] [] _, .Name z _] _ _)) _] => decide (l = ("len" : Str)) && decide (y = x) && decide (z = x) && decide (sc.names.lookup x = some .local) && decide (sc.names.lookup ("len" : Str) = some .globalImplicit) && !(x == ("__debug__" : Str))
  | _ => false
theorem lenKeyB_ok {b : List Stmt} {sc : Scope} {x : Str} {N : List Str} (S : FnScope N [x] sc) (h : lenKeyB b sc x = true) : LenKey b sc x := by
  unfold lenKeyB at h
  split at h
  · simp only [Bool.and_eq_true, decide_eq_true_eq, Bool.not_eq_true'] at h
    obtain ⟨⟨⟨⟨⟨rfl, rfl⟩, rfl⟩, h1⟩, h2⟩, h3⟩ := h
    exact ⟨⟨_, _, _, _, _, _, _, rfl⟩, h1, h2, S.kind, S.co, S.gen, h3⟩
  · cases h
theorem exc_of {K : PySem.W.Frag} {mg : Str → Option Value} {x : Str} (c : (He.Fa.exc x).ok K = true) (g : mg x = some (.ref (He.ga K x))) : ExcOk K mg x (He.ga K x) := by
  obtain ⟨c1, c2, c3, c4⟩ := He.exc_ok c
  exact ⟨He.veBase, "ValueError", "ValueError.__new__", "ValueError.__init__", PySem.F.excBase_ValueError, c1, g, c2, c3, c4⟩
theorem con_int {K : PySem.W.Frag} {h : Heap} {mg : Str → Option Value} (X : K.In h) (G : h.Ns mainGlobals mg) {x : Str} {i : Int} (c : (He.Fa.int x i).ok K = true) : ∃ v u, mg x = some u ∧ RelV v u ∧ ∀ P τ H, Rep K P τ H v (.int i) := by
  obtain ⟨t, e⟩ := He.int_ok X G c
  exact ⟨.int i, _, e, ⟨t, rfl⟩, fun _ _ _ => .int i⟩
theorem con_tup {K : PySem.W.Frag} {mg : Str → Option Value} {x : Str} (g : mg x = some (.ref (He.ga K x))) {ns : List Int} (hB : He.tupB K x (ns.map He.Dv.int) = true) : ∃ v u, mg x = some u ∧ RelV v u ∧ ∀ P τ H, Rep K P τ H v (.ktup (ns.map .int)) := by
  refine ⟨.ref (He.ga K x), _, g, rfl, fun P τ H => ?_⟩
  have e : (ns.map He.Dv.int).map (He.Dv.v K) = ns.map V.int := by rw [List.map_map]; rfl
  have h := He.tupB_ok hB (fun _ => none)
  rw [e] at h
  rcases h with h | h
  · rcases h with h | ⟨o, h⟩ <;> cases h
  · exact .ktup h (ints_repV ns)
theorem walk_ofX {l : PySem.W.OpenLaw} {n k : Nat} {q : Program} {loose : List Str} {XP : (Str → Option Value) → Heap → Prop} {YP : World → Heap → Prop} {d : DefRec} {x : Str}
    (hn : l.most = some n) (hn2 : n ≤ sizeLine) (hdf : d.params.defaults = []) (hr : Room k callerA)
    (F : ∀ (w : World) (mg : Str → Option Value) (fa : Addr) (h : Heap), YP w h → h.Ns mainGlobals mg → mg d.name = some (.ref fa) →
      ∃ (K : PySem.W.Frag) (fd : FuncData) (sp : Sp), K.In h ∧ (∀ (s : Shared) (u : Value), BindsTo s fd ⟨[u], []⟩ [(x, u)]) ∧
        (∀ (H : Hp) (a : Addr) (ns : List Int), ns.length ≤ n → Only H → SqL K H a (ns.map V.int) → sp [.ref a] H (fun v _ => v = .bl true) fun _ _ _ => False) ∧
        ∀ base : Heap, K.In base → base.Ns mainGlobals mg → FnOk l.prog w K mg base (L2.CX l.prog w) k fa fd [x] sp) :
    PySem.W.WalkO q loose XP YP l.row.toRowW d [] (fun f vs => PySem.call f vs) := by
  refine Att.attach_call hn hdf fun w s₀ s₁ mg mb fa o pm cd doc a vs ns G Y ho hd hcd hmg hobj hints hlen hg => ?_
  obtain ⟨K, fd, sp, KX, hb, hsp, hF⟩ := F w mg fa _ Y G.T.g hmg
  refine law_call KX G.T.g G.T.b G.T.builtins G.T.nolimit hg hobj hints (Nat.le_trans hlen hn2) hr hF hb (fun H hO hS => hsp H a ns hlen hO hS) fun H e s' h => ?_
  obtain ⟨_, _, _, _, _, _, _, _, _, _, _, _, z⟩ := h
  exact z
end Vf
namespace HL
open PySem PySem.Spec PyProof.Rows L2 Vf
abbrev prog : Program := PySem.Challenge.pw_bracketwords_k86_whole_runs_of_letters
def top (i : Nat) : Stmt := PySem.Challenge.pw_bracketwords_k86_whole_runs_of_letters.main.body.getD i (.Pass ⟨0, 0, 0, 0⟩)
def Ct : Cn := ⟨([("is_integer", 0), ("is_ratio", 1), ("divisor", 2), ("make", 3), ("add", 4), ("add_ratios", 5), ("multiply", 6), ("divide", 7), ("is_word", 8), ("check_word", 9), ("is_sum", 10), ("check_sum", 11), ("key", 12), ("gathered", 13), ("of_word", 14), ("letter", 15), ("one", 16), ("add_sums", 4), ("scaled", 17), ("minus", 18), ("cut_product", 19), ("number_at", 20), ("cut", 21), ("check_depth", 22), ("exponential", 23)] : List (Str × Nat)) ++ ([("logarithm", 24), ("together", 25), ("two_letters", 26), ("blocks", 27), ("by_blocks", 28), ("run_poly", 29), ("times_poly", 30), ("slope_poly", 31), ("area", 32), ("_law_draw", 34), ("_law_same", 35), ("_law_frac", 36), ("_law_plus", 37), ("_law_by", 38), ("_law_over", 39), ("_law_times", 40), ("_law_run", 41), ("_law_goldberg", 42), ("_law_word", 43), ("_law_refused", 44)] : List (Str × Nat)),
  (["BracketError", "BadNumber", "BadWord", "BadSum", "BadSize"] : List (Str)),
  ([("ZERO", (.ktup [(.int (0)), (.int (1))])), ("ONE", (.ktup [(.int (1)), (.int (1))])), ("MOST_LETTERS", (.int (9))), ("MOST_WORD", (.int (60))), ("MOST_TERMS", (.int (6000))), ("MOST_DEPTH", (.int (10))), ("MOST_BLOCKS", (.int (12)))] : List (Str × D)),
  (["ValueError", "abs", "all", "any", "bool", "enumerate", "int", "isinstance", "len", "list", "min", "range", "sorted", "str", "tuple", "zip"] : List (Str)),
  (["key"] : List (Str)),
  ([1, 1, 2, 2, 2, 2, 2, 2, 1, 1, 1, 1, 1, 1, 1, 1, 0, 2, 2, 3, 2, 2, 1, 2, 2] : List (Nat)) ++ ([3, 1, 1, 1, 1, 2, 1, 1, 1, 2, 2, 2, 2, 2, 2, 2, 1, 2, 2, 1, 1] : List (Nat)),
  fun i j => decide ((i, j) ∈ (([(0, 0), (1, 0), (1, 1), (2, 0), (2, 2), (3, 0), (3, 3), (4, 0), (4, 4)] : List (Nat × Nat))))⟩
def n_is_integer : List Str := ["value"]
def p_is_integer : List Str := ["value"]
def b_is_integer : Fd := ⟨1, 1, (.cons (.ret (.and (.prim (.isT "int") (.cons (.var 0) .nil)) (.not (.prim (.isT "bool") (.cons (.var 0) .nil)))))
  .nil)⟩

def n_is_ratio : List Str := ["value", "item"]
def p_is_ratio : List Str := ["value"]
def b_is_ratio : Fd := ⟨2, 1, (.cons (.ite (.or (.not (.prim (.isT "tuple") (.cons (.var 0) .nil))) (.or (.prim (.cmp .NotEq) (.cons (.prim (.blt "len") (.cons (.var 0) .nil)) (.cons (.cst (.int (2))) .nil))) (.not (.prim (.blt "all") (.cons (.comp [1] [1] (.ex (.var 0)) .nil (.call 0 (.cons (.var 1) .nil))) .nil))))) (.cons (.ret (.cst (.bl false)))
  .nil) .nil)
  (.cons (.ret (.and (.prim (.cmp .Gt) (.cons (.prim .idx (.cons (.var 0) (.cons (.cst (.int (1))) .nil))) (.cons (.cst (.int (0))) .nil))) (.prim (.cmp .Eq) (.cons (.call 2 (.cons (.prim .idx (.cons (.var 0) (.cons (.cst (.int (0))) .nil))) (.cons (.prim .idx (.cons (.var 0) (.cons (.cst (.int (1))) .nil))) .nil))) (.cons (.cst (.int (1))) .nil)))))
  .nil))⟩

def n_divisor : List Str := ["one", "other"]
def p_divisor : List Str := ["one", "other"]
def b_divisor : Fd := ⟨2, 2, (.cons (.par [0, 1] (.cons (.prim (.blt "abs") (.cons (.var 0) .nil)) (.cons (.prim (.blt "abs") (.cons (.var 1) .nil)) .nil)))
  (.cons (.while_ (.prim (.cmp .Gt) (.cons (.var 1) (.cons (.cst (.int (0))) .nil))) (.cons (.par [0, 1] (.cons (.var 1) (.cons (.prim (.bin .Mod) (.cons (.var 0) (.cons (.var 1) .nil))) .nil)))
  .nil))
  (.cons (.ret (.var 0))
  .nil)))⟩

def n_make : List Str := ["above", "below", "common"]
def p_make : List Str := ["above", "below"]
def b_make : Fd := ⟨3, 2, (.cons (.ite (.prim (.cmp .Eq) (.cons (.var 1) (.cons (.cst (.int (0))) .nil))) (.cons (.raise 1)
  .nil) .nil)
  (.cons (.set 2 (.call 2 (.cons (.var 0) (.cons (.var 1) .nil))))
  (.cons (.ite (.prim (.cmp .Lt) (.cons (.var 1) (.cons (.cst (.int (0))) .nil))) (.cons (.set 2 (.prim .neg (.cons (.var 2) .nil)))
  .nil) .nil)
  (.cons (.ret (.tup (.cons (.prim (.bin .FloorDiv) (.cons (.var 0) (.cons (.var 2) .nil))) (.cons (.prim (.bin .FloorDiv) (.cons (.var 1) (.cons (.var 2) .nil))) .nil))))
  .nil))))⟩

def n_add : List Str := ["first", "other"]
def p_add : List Str := ["first", "other"]
def b_add : Fd := ⟨2, 2, (.cons (.ret (.call 13 (.cons (.prim (.bin .Add) (.cons (.var 0) (.cons (.var 1) .nil))) .nil)))
  .nil)⟩

def n_add_ratios : List Str := ["one", "other"]
def p_add_ratios : List Str := ["one", "other"]
def b_add_ratios : Fd := ⟨2, 2, (.cons (.ret (.call 3 (.cons (.prim (.bin .Add) (.cons (.prim (.bin .Mult) (.cons (.prim .idx (.cons (.var 0) (.cons (.cst (.int (0))) .nil))) (.cons (.prim .idx (.cons (.var 1) (.cons (.cst (.int (1))) .nil))) .nil))) (.cons (.prim (.bin .Mult) (.cons (.prim .idx (.cons (.var 1) (.cons (.cst (.int (0))) .nil))) (.cons (.prim .idx (.cons (.var 0) (.cons (.cst (.int (1))) .nil))) .nil))) .nil))) (.cons (.prim (.bin .Mult) (.cons (.prim .idx (.cons (.var 0) (.cons (.cst (.int (1))) .nil))) (.cons (.prim .idx (.cons (.var 1) (.cons (.cst (.int (1))) .nil))) .nil))) .nil))))
  .nil)⟩

def n_multiply : List Str := ["one", "other"]
def p_multiply : List Str := ["one", "other"]
def b_multiply : Fd := ⟨2, 2, (.cons (.ret (.call 3 (.cons (.prim (.bin .Mult) (.cons (.prim .idx (.cons (.var 0) (.cons (.cst (.int (0))) .nil))) (.cons (.prim .idx (.cons (.var 1) (.cons (.cst (.int (0))) .nil))) .nil))) (.cons (.prim (.bin .Mult) (.cons (.prim .idx (.cons (.var 0) (.cons (.cst (.int (1))) .nil))) (.cons (.prim .idx (.cons (.var 1) (.cons (.cst (.int (1))) .nil))) .nil))) .nil))))
  .nil)⟩

def n_divide : List Str := ["one", "other"]
def p_divide : List Str := ["one", "other"]
def b_divide : Fd := ⟨2, 2, (.cons (.ite (.prim (.cmp .Eq) (.cons (.prim .idx (.cons (.var 1) (.cons (.cst (.int (0))) .nil))) (.cons (.cst (.int (0))) .nil))) (.cons (.raise 1)
  .nil) .nil)
  (.cons (.ret (.call 3 (.cons (.prim (.bin .Mult) (.cons (.prim .idx (.cons (.var 0) (.cons (.cst (.int (0))) .nil))) (.cons (.prim .idx (.cons (.var 1) (.cons (.cst (.int (1))) .nil))) .nil))) (.cons (.prim (.bin .Mult) (.cons (.prim .idx (.cons (.var 0) (.cons (.cst (.int (1))) .nil))) (.cons (.prim .idx (.cons (.var 1) (.cons (.cst (.int (0))) .nil))) .nil))) .nil))))
  .nil))⟩

def n_is_word : List Str := ["value", "item"]
def p_is_word : List Str := ["value"]
def b_is_word : Fd := ⟨2, 1, (.cons (.ite (.or (.not (.prim (.isT "tuple") (.cons (.var 0) .nil))) (.prim (.cmp .Gt) (.cons (.prim (.blt "len") (.cons (.var 0) .nil)) (.cons (.glo "MOST_WORD" (.int (60))) .nil)))) (.cons (.ret (.cst (.bl false)))
  .nil) .nil)
  (.cons (.ret (.prim (.blt "all") (.cons (.comp [1] [1] (.ex (.var 0)) .nil (.and (.call 0 (.cons (.var 1) .nil)) (.and (.prim (.cmp .LtE) (.cons (.cst (.int (0))) (.cons (.var 1) .nil))) (.prim (.cmp .Lt) (.cons (.var 1) (.cons (.glo "MOST_LETTERS" (.int (9))) .nil)))))) .nil)))
  .nil))⟩

def n_check_word : List Str := ["value"]
def p_check_word : List Str := ["value"]
def b_check_word : Fd := ⟨1, 1, (.cons (.ite (.not (.call 8 (.cons (.var 0) .nil))) (.cons (.raise 2)
  .nil) .nil)
  .nil)⟩

def n_is_sum : List Str := ["value", "term", "one", "other"]
def p_is_sum : List Str := ["value"]
def b_is_sum : Fd := ⟨4, 1, (.cons (.ite (.or (.not (.prim (.isT "tuple") (.cons (.var 0) .nil))) (.prim (.cmp .Gt) (.cons (.prim (.blt "len") (.cons (.var 0) .nil)) (.cons (.glo "MOST_TERMS" (.int (6000))) .nil)))) (.cons (.ret (.cst (.bl false)))
  .nil) .nil)
  (.cons (.for_ [1] (.ex (.var 0)) (.cons (.ite (.or (.not (.prim (.isT "tuple") (.cons (.var 1) .nil))) (.or (.prim (.cmp .NotEq) (.cons (.prim (.blt "len") (.cons (.var 1) .nil)) (.cons (.cst (.int (2))) .nil))) (.not (.call 8 (.cons (.prim .idx (.cons (.var 1) (.cons (.cst (.int (0))) .nil))) .nil))))) (.cons (.ret (.cst (.bl false)))
  .nil) .nil)
  (.cons (.ite (.or (.not (.call 1 (.cons (.prim .idx (.cons (.var 1) (.cons (.cst (.int (1))) .nil))) .nil))) (.prim (.cmp .Eq) (.cons (.prim .idx (.cons (.var 1) (.cons (.cst (.int (1))) .nil))) (.cons (.glo "ZERO" (.ktup [(.int (0)), (.int (1))])) .nil)))) (.cons (.ret (.cst (.bl false)))
  .nil) .nil)
  .nil)))
  (.cons (.ret (.prim (.blt "all") (.cons (.comp [2, 3] [2, 3] (.zip (.var 0) (.prim (.sl true false) (.cons (.var 0) (.cons (.cst (.int (1))) .nil)))) .nil (.prim (.cmp .Lt) (.cons (.call 12 (.cons (.prim .idx (.cons (.var 2) (.cons (.cst (.int (0))) .nil))) .nil)) (.cons (.call 12 (.cons (.prim .idx (.cons (.var 3) (.cons (.cst (.int (0))) .nil))) .nil)) .nil)))) .nil)))
  .nil)))⟩

def n_check_sum : List Str := ["value"]
def p_check_sum : List Str := ["value"]
def b_check_sum : Fd := ⟨1, 1, (.cons (.ite (.not (.call 10 (.cons (.var 0) .nil))) (.cons (.raise 3)
  .nil) .nil)
  .nil)⟩

def n_key : List Str := ["word"]
def p_key : List Str := ["word"]
def b_key : Fd := ⟨1, 1, (.cons (.ret (.tup (.cons (.prim (.blt "len") (.cons (.var 0) .nil)) (.cons (.var 0) .nil))))
  .nil)⟩

def n_gathered : List Str := ["terms", "known", "word", "number", "found"]
def p_gathered : List Str := ["terms"]
def b_gathered : Fd := ⟨5, 1, (.cons (.set 1 (.dic true))
  (.cons (.for_ [2, 3] (.ex (.var 0)) (.cons (.put 1 (.var 2) (.ite (.prim (.cmp .In) (.cons (.var 2) (.cons (.var 1) .nil))) (.call 5 (.cons (.prim .idx (.cons (.var 1) (.cons (.var 2) .nil))) (.cons (.var 3) .nil))) (.var 3)))
  .nil))
  (.cons (.set 4 (.prim (.blt "tuple") (.cons (.comp [2] [2] (.ex (.sortk (.var 1) 12)) (.cons (.prim (.cmp .NotEq) (.cons (.prim .idx (.cons (.var 1) (.cons (.var 2) .nil))) (.cons (.glo "ZERO" (.ktup [(.int (0)), (.int (1))])) .nil))) .nil) (.tup (.cons (.var 2) (.cons (.prim .idx (.cons (.var 1) (.cons (.var 2) .nil))) .nil)))) .nil)))
  (.cons (.ite (.prim (.cmp .Gt) (.cons (.prim (.blt "len") (.cons (.var 4) .nil)) (.cons (.glo "MOST_TERMS" (.int (6000))) .nil))) (.cons (.raise 4)
  .nil) .nil)
  (.cons (.ret (.var 4))
  .nil)))))⟩

def n_of_word : List Str := ["word"]
def p_of_word : List Str := ["word"]
def b_of_word : Fd := ⟨1, 1, (.cons (.ret (.tup (.cons (.tup (.cons (.var 0) (.cons (.glo "ONE" (.ktup [(.int (1)), (.int (1))])) .nil))) .nil)))
  .nil)⟩

def n_letter : List Str := ["number"]
def p_letter : List Str := ["number"]
def b_letter : Fd := ⟨1, 1, (.cons (.ret (.call 14 (.cons (.tup (.cons (.var 0) .nil)) .nil)))
  .nil)⟩

def n_one : List Str := []
def p_one : List Str := []
def b_one : Fd := ⟨0, 0, (.cons (.ret (.call 14 (.cons (.tup .nil) .nil)))
  .nil)⟩

def n_scaled : List Str := ["number", "first", "word", "item"]
def p_scaled : List Str := ["number", "first"]
def b_scaled : Fd := ⟨4, 2, (.cons (.ite (.prim (.cmp .Eq) (.cons (.var 0) (.cons (.glo "ZERO" (.ktup [(.int (0)), (.int (1))])) .nil))) (.cons (.ret (.tup .nil))
  .nil) .nil)
  (.cons (.ret (.prim (.blt "tuple") (.cons (.comp [2, 3] [2, 3] (.ex (.var 1)) .nil (.tup (.cons (.var 2) (.cons (.call 6 (.cons (.var 0) (.cons (.var 3) .nil))) .nil)))) .nil)))
  .nil))⟩

def n_minus : List Str := ["first", "other"]
def p_minus : List Str := ["first", "other"]
def b_minus : Fd := ⟨2, 2, (.cons (.ret (.call 13 (.cons (.prim (.bin .Add) (.cons (.var 0) (.cons (.call 17 (.cons (.tup (.cons (.prim .neg (.cons (.cst (.int (1))) .nil)) (.cons (.cst (.int (1))) .nil))) (.cons (.var 1) .nil))) .nil))) .nil)))
  .nil)⟩

def n_cut_product : List Str := ["first", "other", "depth", "terms", "word", "number", "mate", "item"]
def p_cut_product : List Str := ["first", "other", "depth"]
def b_cut_product : Fd := ⟨8, 3, (.cons (.set 3 (.lst .nil))
  (.cons (.for_ [4, 5] (.ex (.var 0)) (.cons (.for_ [6, 7] (.ex (.var 1)) (.cons (.ite (.prim (.cmp .LtE) (.cons (.prim (.bin .Add) (.cons (.prim (.blt "len") (.cons (.var 4) .nil)) (.cons (.prim (.blt "len") (.cons (.var 6) .nil)) .nil))) (.cons (.var 2) .nil))) (.cons (.app 3 (.tup (.cons (.prim (.bin .Add) (.cons (.var 4) (.cons (.var 6) .nil))) (.cons (.call 6 (.cons (.var 5) (.cons (.var 7) .nil))) .nil))))
  .nil) .nil)
  .nil))
  .nil))
  (.cons (.ret (.call 13 (.cons (.var 3) .nil)))
  .nil)))⟩

def n_number_at : List Str := ["first", "word", "mate", "item"]
def p_number_at : List Str := ["first", "word"]
def b_number_at : Fd := ⟨4, 2, (.cons (.for_ [2, 3] (.ex (.var 0)) (.cons (.ite (.prim (.cmp .Eq) (.cons (.var 2) (.cons (.var 1) .nil))) (.cons (.ret (.var 3))
  .nil) .nil)
  .nil))
  (.cons (.ret (.glo "ZERO" (.ktup [(.int (0)), (.int (1))])))
  .nil))⟩

def n_cut : List Str := ["first", "depth", "term"]
def p_cut : List Str := ["first", "depth"]
def b_cut : Fd := ⟨3, 2, (.cons (.ret (.prim (.blt "tuple") (.cons (.comp [2] [2] (.ex (.var 0)) (.cons (.prim (.cmp .LtE) (.cons (.prim (.blt "len") (.cons (.prim .idx (.cons (.var 2) (.cons (.cst (.int (0))) .nil))) .nil)) (.cons (.var 1) .nil))) .nil) (.var 2)) .nil)))
  .nil)⟩

def n_check_depth : List Str := ["depth"]
def p_check_depth : List Str := ["depth"]
def b_check_depth : Fd := ⟨1, 1, (.cons (.ite (.or (.not (.call 0 (.cons (.var 0) .nil))) (.or (.prim (.cmp .Lt) (.cons (.var 0) (.cons (.cst (.int (0))) .nil))) (.prim (.cmp .Gt) (.cons (.var 0) (.cons (.glo "MOST_DEPTH" (.int (10))) .nil))))) (.cons (.raise 1)
  .nil) .nil)
  .nil)⟩

def n_exponential : List Str := ["first", "depth", "found", "now", "step"]
def p_exponential : List Str := ["first", "depth"]
def b_exponential : Fd := ⟨5, 2, (.cons (.expr (.call 11 (.cons (.var 0) .nil)))
  (.cons (.expr (.call 22 (.cons (.var 1) .nil)))
  (.cons (.ite (.prim (.cmp .NotEq) (.cons (.call 20 (.cons (.var 0) (.cons (.tup .nil) .nil))) (.cons (.glo "ZERO" (.ktup [(.int (0)), (.int (1))])) .nil))) (.cons (.raise 3)
  .nil) .nil)
  (.cons (.par [2, 3] (.cons (.call 16 .nil) (.cons (.call 16 .nil) .nil)))
  (.cons (.for_ [4] (.rng2 (.cst (.int (1))) (.prim (.bin .Add) (.cons (.var 1) (.cons (.cst (.int (1))) .nil)))) (.cons (.set 3 (.call 17 (.cons (.tup (.cons (.cst (.int (1))) (.cons (.var 4) .nil))) (.cons (.call 19 (.cons (.var 3) (.cons (.var 0) (.cons (.var 1) .nil)))) .nil))))
  (.cons (.set 2 (.call 4 (.cons (.var 2) (.cons (.var 3) .nil))))
  .nil)))
  (.cons (.ret (.var 2))
  .nil))))))⟩

def n_logarithm : List Str := ["first", "depth", "rest", "found", "now", "step"]
def p_logarithm : List Str := ["first", "depth"]
def b_logarithm : Fd := ⟨6, 2, (.cons (.expr (.call 11 (.cons (.var 0) .nil)))
  (.cons (.expr (.call 22 (.cons (.var 1) .nil)))
  (.cons (.ite (.prim (.cmp .NotEq) (.cons (.call 20 (.cons (.var 0) (.cons (.tup .nil) .nil))) (.cons (.glo "ONE" (.ktup [(.int (1)), (.int (1))])) .nil))) (.cons (.raise 3)
  .nil) .nil)
  (.cons (.set 2 (.call 21 (.cons (.call 18 (.cons (.var 0) (.cons (.call 16 .nil) .nil))) (.cons (.var 1) .nil))))
  (.cons (.par [3, 4] (.cons (.tup .nil) (.cons (.call 16 .nil) .nil)))
  (.cons (.for_ [5] (.rng2 (.cst (.int (1))) (.prim (.bin .Add) (.cons (.var 1) (.cons (.cst (.int (1))) .nil)))) (.cons (.set 4 (.call 19 (.cons (.var 4) (.cons (.var 2) (.cons (.var 1) .nil)))))
  (.cons (.set 3 (.call 4 (.cons (.var 3) (.cons (.call 17 (.cons (.tup (.cons (.ite (.prim (.cmp .Eq) (.cons (.prim (.bin .Mod) (.cons (.var 5) (.cons (.cst (.int (2))) .nil))) (.cons (.cst (.int (1))) .nil))) (.cst (.int (1))) (.prim .neg (.cons (.cst (.int (1))) .nil))) (.cons (.var 5) .nil))) (.cons (.var 4) .nil))) .nil))))
  .nil)))
  (.cons (.ret (.var 3))
  .nil)))))))⟩

def n_together : List Str := ["first", "other", "depth", "product"]
def p_together : List Str := ["first", "other", "depth"]
def b_together : Fd := ⟨4, 3, (.cons (.set 3 (.call 19 (.cons (.call 23 (.cons (.var 0) (.cons (.var 2) .nil))) (.cons (.call 23 (.cons (.var 1) (.cons (.var 2) .nil))) (.cons (.var 2) .nil)))))
  (.cons (.ret (.call 24 (.cons (.var 3) (.cons (.var 2) .nil))))
  .nil))⟩

def n_two_letters : List Str := ["depth"]
def p_two_letters : List Str := ["depth"]
def b_two_letters : Fd := ⟨1, 1, (.cons (.expr (.call 22 (.cons (.var 0) .nil)))
  (.cons (.ret (.call 25 (.cons (.call 15 (.cons (.cst (.int (0))) .nil)) (.cons (.call 15 (.cons (.cst (.int (1))) .nil)) (.cons (.var 0) .nil)))))
  .nil))⟩

def n_blocks : List Str := ["word", "found", "place", "item"]
def p_blocks : List Str := ["word"]
def b_blocks : Fd := ⟨4, 1, (.cons (.expr (.call 9 (.cons (.var 0) .nil)))
  (.cons (.set 1 (.lst .nil))
  (.cons (.for_ [2, 3] (.enm (.var 0)) (.cons (.ite (.and (.prim (.cmp .Gt) (.cons (.var 2) (.cons (.cst (.int (0))) .nil))) (.prim (.cmp .Eq) (.cons (.prim .idx (.cons (.var 0) (.cons (.prim (.bin .Sub) (.cons (.var 2) (.cons (.cst (.int (1))) .nil))) .nil))) (.cons (.var 3) .nil)))) (.cons (.augk 1 (.prim .neg (.cons (.cst (.int (1))) .nil)) .Add (.cst (.int (1))))
  .nil) (.cons (.app 1 (.cst (.int (1))))
  .nil))
  .nil))
  (.cons (.ret (.prim (.blt "tuple") (.cons (.var 1) .nil)))
  .nil))))⟩

def n_by_blocks : List Str := ["word", "runs", "poly", "size", "first", "halves", "power", "factor", "_", "found", "sign", "item"]
def p_by_blocks : List Str := ["word"]
def b_by_blocks : Fd := ⟨12, 1, (.cons (.expr (.call 9 (.cons (.var 0) .nil)))
  (.cons (.ite (.or (.prim (.blt "any") (.cons (.comp [11] [11] (.ex (.var 0)) .nil (.prim (.cmp .Gt) (.cons (.var 11) (.cons (.cst (.int (1))) .nil)))) .nil)) (.or (.prim (.cmp .Eq) (.cons (.var 0) (.cons (.tup .nil) .nil))) (.prim (.cmp .Gt) (.cons (.prim (.blt "len") (.cons (.var 0) .nil)) (.cons (.glo "MOST_BLOCKS" (.int (12))) .nil))))) (.cons (.raise 3)
  .nil) .nil)
  (.cons (.set 1 (.call 27 (.cons (.var 0) .nil)))
  (.cons (.set 2 (.tup (.cons (.glo "ONE" (.ktup [(.int (1)), (.int (1))])) .nil)))
  (.cons (.for_ [3] (.ex (.var 1)) (.cons (.set 2 (.call 30 (.cons (.var 2) (.cons (.call 29 (.cons (.var 3) .nil)) .nil))))
  .nil))
  (.cons (.set 4 (.prim .idx (.cons (.var 0) (.cons (.cst (.int (0))) .nil))))
  (.cons (.set 5 (.prim (.bin .FloorDiv) (.cons (.prim (.blt "len") (.cons (.var 1) .nil)) (.cons (.cst (.int (2))) .nil))))
  (.cons (.set 6 (.prim (.bin .Sub) (.cons (.prim (.bin .Sub) (.cons (.prim (.blt "len") (.cons (.var 1) .nil)) (.cons (.cst (.int (1))) .nil))) (.cons (.var 5) .nil))))
  (.cons (.set 7 (.tup (.cons (.glo "ONE" (.ktup [(.int (1)), (.int (1))])) .nil)))
  (.cons (.for_ [8] (.rng1 (.var 5)) (.cons (.set 7 (.call 30 (.cons (.var 7) (.cons (.tup (.cons (.glo "ZERO" (.ktup [(.int (0)), (.int (1))])) (.cons (.glo "ONE" (.ktup [(.int (1)), (.int (1))])) .nil))) .nil))))
  .nil))
  (.cons (.for_ [8] (.rng1 (.var 6)) (.cons (.set 7 (.call 30 (.cons (.var 7) (.cons (.tup (.cons (.tup (.cons (.prim .neg (.cons (.cst (.int (1))) .nil)) (.cons (.cst (.int (1))) .nil))) (.cons (.glo "ONE" (.ktup [(.int (1)), (.int (1))])) .nil))) .nil))))
  .nil))
  (.cons (.set 9 (.call 32 (.cons (.call 30 (.cons (.var 2) (.cons (.var 7) .nil))) .nil)))
  (.cons (.set 10 (.ite (.or (.prim (.cmp .Eq) (.cons (.var 4) (.cons (.cst (.int (0))) .nil))) (.prim (.cmp .Eq) (.cons (.prim (.bin .Mod) (.cons (.prim (.blt "len") (.cons (.var 0) .nil)) (.cons (.cst (.int (2))) .nil))) (.cons (.cst (.int (1))) .nil)))) (.cst (.int (1))) (.prim .neg (.cons (.cst (.int (1))) .nil))))
  (.cons (.ret (.tup (.cons (.prim (.bin .Mult) (.cons (.prim .idx (.cons (.var 9) (.cons (.cst (.int (0))) .nil))) (.cons (.var 10) .nil))) (.cons (.prim .idx (.cons (.var 9) (.cons (.cst (.int (1))) .nil))) .nil))))
  .nil))))))))))))))⟩

def n_run_poly : List Str := ["size", "found", "step", "item"]
def p_run_poly : List Str := ["size"]
def b_run_poly : Fd := ⟨4, 1, (.cons (.set 1 (.tup (.cons (.glo "ONE" (.ktup [(.int (1)), (.int (1))])) .nil)))
  (.cons (.for_ [2] (.rng2 (.cst (.int (2))) (.prim (.bin .Add) (.cons (.var 0) (.cons (.cst (.int (1))) .nil)))) (.cons (.set 1 (.call 31 (.cons (.call 30 (.cons (.tup (.cons (.glo "ZERO" (.ktup [(.int (0)), (.int (1))])) (.cons (.tup (.cons (.prim .neg (.cons (.cst (.int (1))) .nil)) (.cons (.cst (.int (1))) .nil))) (.cons (.glo "ONE" (.ktup [(.int (1)), (.int (1))])) .nil)))) (.cons (.var 1) .nil))) .nil)))
  (.cons (.set 1 (.prim (.blt "tuple") (.cons (.comp [3] [3] (.ex (.var 1)) .nil (.call 7 (.cons (.var 3) (.cons (.tup (.cons (.var 2) (.cons (.cst (.int (1))) .nil))) .nil)))) .nil)))
  .nil)))
  (.cons (.ret (.var 1))
  .nil)))⟩

def n_times_poly : List Str := ["first", "other", "found", "k", "left", "j", "right"]
def p_times_poly : List Str := ["first", "other"]
def b_times_poly : Fd := ⟨7, 2, (.cons (.set 2 (.prim (.bin .Mult) (.cons (.lst (.cons (.glo "ZERO" (.ktup [(.int (0)), (.int (1))])) .nil)) (.cons (.prim (.bin .Sub) (.cons (.prim (.bin .Add) (.cons (.prim (.blt "len") (.cons (.var 0) .nil)) (.cons (.prim (.blt "len") (.cons (.var 1) .nil)) .nil))) (.cons (.cst (.int (1))) .nil))) .nil))))
  (.cons (.for_ [3, 4] (.enm (.var 0)) (.cons (.for_ [5, 6] (.enm (.var 1)) (.cons (.put 2 (.prim (.bin .Add) (.cons (.var 3) (.cons (.var 5) .nil))) (.call 5 (.cons (.prim .idx (.cons (.var 2) (.cons (.prim (.bin .Add) (.cons (.var 3) (.cons (.var 5) .nil))) .nil))) (.cons (.call 6 (.cons (.var 4) (.cons (.var 6) .nil))) .nil))))
  .nil))
  .nil))
  (.cons (.ret (.prim (.blt "tuple") (.cons (.var 2) .nil)))
  .nil)))⟩

def n_slope_poly : List Str := ["first", "k", "item"]
def p_slope_poly : List Str := ["first"]
def b_slope_poly : Fd := ⟨3, 1, (.cons (.ret (.prim (.blt "tuple") (.cons (.prim (.sl true false) (.cons (.comp [1, 2] [1, 2] (.enm (.var 0)) .nil (.call 6 (.cons (.tup (.cons (.var 1) (.cons (.cst (.int (1))) .nil))) (.cons (.var 2) .nil)))) (.cons (.cst (.int (1))) .nil))) .nil)))
  .nil)⟩

def n_area : List Str := ["first", "found", "k", "item"]
def p_area : List Str := ["first"]
def b_area : Fd := ⟨4, 1, (.cons (.set 1 (.glo "ZERO" (.ktup [(.int (0)), (.int (1))])))
  (.cons (.for_ [2, 3] (.enm (.var 0)) (.cons (.set 1 (.call 5 (.cons (.var 1) (.cons (.call 7 (.cons (.var 3) (.cons (.tup (.cons (.prim (.bin .Add) (.cons (.var 2) (.cons (.cst (.int (1))) .nil))) (.cons (.cst (.int (1))) .nil))) .nil))) .nil))))
  .nil))
  (.cons (.ret (.var 1))
  .nil)))⟩

def n__law_same : List Str := ["actual", "due", "k"]
def p__law_same : List Str := ["actual", "due"]
def b__law_same : Fd := ⟨3, 2, (.cons (.ite (.prim (.isN true) (.cons (.var 1) .nil)) (.cons (.ret (.prim (.isN true) (.cons (.var 0) .nil)))
  .nil) .nil)
  (.cons (.ite (.prim (.isT "bool") (.cons (.var 1) .nil)) (.cons (.ret (.and (.prim (.isT "bool") (.cons (.var 0) .nil)) (.prim (.cmp .Eq) (.cons (.var 0) (.cons (.var 1) .nil)))))
  .nil) .nil)
  (.cons (.ite (.prim (.isT "tuple") (.cons (.var 1) .nil)) (.cons (.ite (.or (.not (.prim (.isT "tuple") (.cons (.var 0) .nil))) (.prim (.cmp .NotEq) (.cons (.prim (.blt "len") (.cons (.var 0) .nil)) (.cons (.prim (.blt "len") (.cons (.var 1) .nil)) .nil)))) (.cons (.ret (.cst (.bl false)))
  .nil) .nil)
  (.cons (.ret (.prim (.blt "all") (.cons (.comp [2] [2] (.rng1 (.prim (.blt "len") (.cons (.var 1) .nil))) .nil (.call 35 (.cons (.prim .idx (.cons (.var 0) (.cons (.var 2) .nil))) (.cons (.prim .idx (.cons (.var 1) (.cons (.var 2) .nil))) .nil)))) .nil)))
  .nil)) .nil)
  (.cons (.ite (.prim (.isT "str") (.cons (.var 1) .nil)) (.cons (.ret (.and (.prim (.isT "str") (.cons (.var 0) .nil)) (.prim (.cmp .Eq) (.cons (.var 0) (.cons (.var 1) .nil)))))
  .nil) .nil)
  (.cons (.ret (.and (.prim (.isT "int") (.cons (.var 0) .nil)) (.and (.not (.prim (.isT "bool") (.cons (.var 0) .nil))) (.prim (.cmp .Eq) (.cons (.var 0) (.cons (.var 1) .nil))))))
  .nil)))))⟩

def n__law_frac : List Str := ["above", "below", "one_v", "other"]
def p__law_frac : List Str := ["above", "below"]
def b__law_frac : Fd := ⟨4, 2, (.cons (.par [2, 3] (.cons (.prim (.blt "abs") (.cons (.var 0) .nil)) (.cons (.prim (.blt "abs") (.cons (.var 1) .nil)) .nil)))
  (.cons (.while_ (.prim (.cmp .Gt) (.cons (.var 3) (.cons (.cst (.int (0))) .nil))) (.cons (.par [2, 3] (.cons (.var 3) (.cons (.prim (.bin .Mod) (.cons (.var 2) (.cons (.var 3) .nil))) .nil)))
  .nil))
  (.cons (.ret (.ite (.prim (.cmp .Gt) (.cons (.var 1) (.cons (.cst (.int (0))) .nil))) (.tup (.cons (.prim (.bin .FloorDiv) (.cons (.var 0) (.cons (.var 2) .nil))) (.cons (.prim (.bin .FloorDiv) (.cons (.var 1) (.cons (.var 2) .nil))) .nil))) (.tup (.cons (.prim (.bin .FloorDiv) (.cons (.prim .neg (.cons (.var 0) .nil)) (.cons (.var 2) .nil))) (.cons (.prim (.bin .FloorDiv) (.cons (.prim .neg (.cons (.var 1) .nil)) (.cons (.var 2) .nil))) .nil)))))
  .nil)))⟩

def n__law_plus : List Str := ["one_v", "other"]
def p__law_plus : List Str := ["one_v", "other"]
def b__law_plus : Fd := ⟨2, 2, (.cons (.ret (.call 36 (.cons (.prim (.bin .Add) (.cons (.prim (.bin .Mult) (.cons (.prim .idx (.cons (.var 0) (.cons (.cst (.int (0))) .nil))) (.cons (.prim .idx (.cons (.var 1) (.cons (.cst (.int (1))) .nil))) .nil))) (.cons (.prim (.bin .Mult) (.cons (.prim .idx (.cons (.var 1) (.cons (.cst (.int (0))) .nil))) (.cons (.prim .idx (.cons (.var 0) (.cons (.cst (.int (1))) .nil))) .nil))) .nil))) (.cons (.prim (.bin .Mult) (.cons (.prim .idx (.cons (.var 0) (.cons (.cst (.int (1))) .nil))) (.cons (.prim .idx (.cons (.var 1) (.cons (.cst (.int (1))) .nil))) .nil))) .nil))))
  .nil)⟩

def n__law_by : List Str := ["one_v", "other"]
def p__law_by : List Str := ["one_v", "other"]
def b__law_by : Fd := ⟨2, 2, (.cons (.ret (.call 36 (.cons (.prim (.bin .Mult) (.cons (.prim .idx (.cons (.var 0) (.cons (.cst (.int (0))) .nil))) (.cons (.prim .idx (.cons (.var 1) (.cons (.cst (.int (0))) .nil))) .nil))) (.cons (.prim (.bin .Mult) (.cons (.prim .idx (.cons (.var 0) (.cons (.cst (.int (1))) .nil))) (.cons (.prim .idx (.cons (.var 1) (.cons (.cst (.int (1))) .nil))) .nil))) .nil))))
  .nil)⟩

def n__law_over : List Str := ["one_v", "other"]
def p__law_over : List Str := ["one_v", "other"]
def b__law_over : Fd := ⟨2, 2, (.cons (.ret (.call 36 (.cons (.prim (.bin .Mult) (.cons (.prim .idx (.cons (.var 0) (.cons (.cst (.int (0))) .nil))) (.cons (.prim .idx (.cons (.var 1) (.cons (.cst (.int (1))) .nil))) .nil))) (.cons (.prim (.bin .Mult) (.cons (.prim .idx (.cons (.var 0) (.cons (.cst (.int (1))) .nil))) (.cons (.prim .idx (.cons (.var 1) (.cons (.cst (.int (0))) .nil))) .nil))) .nil))))
  .nil)⟩

def n__law_times : List Str := ["one_v", "other", "found", "k", "j"]
def p__law_times : List Str := ["one_v", "other"]
def b__law_times : Fd := ⟨5, 2, (.cons (.set 2 (.prim (.bin .Mult) (.cons (.lst (.cons (.tup (.cons (.cst (.int (0))) (.cons (.cst (.int (1))) .nil))) .nil)) (.cons (.prim (.bin .Sub) (.cons (.prim (.bin .Add) (.cons (.prim (.blt "len") (.cons (.var 0) .nil)) (.cons (.prim (.blt "len") (.cons (.var 1) .nil)) .nil))) (.cons (.cst (.int (1))) .nil))) .nil))))
  (.cons (.for_ [3] (.rng1 (.prim (.blt "len") (.cons (.var 0) .nil))) (.cons (.for_ [4] (.rng1 (.prim (.blt "len") (.cons (.var 1) .nil))) (.cons (.put 2 (.prim (.bin .Add) (.cons (.var 3) (.cons (.var 4) .nil))) (.call 37 (.cons (.prim .idx (.cons (.var 2) (.cons (.prim (.bin .Add) (.cons (.var 3) (.cons (.var 4) .nil))) .nil))) (.cons (.call 38 (.cons (.prim .idx (.cons (.var 0) (.cons (.var 3) .nil))) (.cons (.prim .idx (.cons (.var 1) (.cons (.var 4) .nil))) .nil))) .nil))))
  .nil))
  .nil))
  (.cons (.ret (.var 2))
  .nil)))⟩

def n__law_run : List Str := ["size", "found", "step", "made", "k"]
def p__law_run : List Str := ["size"]
def b__law_run : Fd := ⟨5, 1, (.cons (.set 1 (.lst (.cons (.tup (.cons (.cst (.int (1))) (.cons (.cst (.int (1))) .nil))) .nil)))
  (.cons (.for_ [2] (.rng2 (.cst (.int (2))) (.prim (.bin .Add) (.cons (.var 0) (.cons (.cst (.int (1))) .nil)))) (.cons (.set 3 (.call 40 (.cons (.var 1) (.cons (.lst (.cons (.tup (.cons (.cst (.int (0))) (.cons (.cst (.int (1))) .nil))) (.cons (.tup (.cons (.prim .neg (.cons (.cst (.int (1))) .nil)) (.cons (.cst (.int (1))) .nil))) (.cons (.tup (.cons (.cst (.int (1))) (.cons (.cst (.int (1))) .nil))) .nil)))) .nil))))
  (.cons (.set 1 (.comp [4] [4] (.rng2 (.cst (.int (1))) (.prim (.blt "len") (.cons (.var 3) .nil))) .nil (.call 38 (.cons (.tup (.cons (.var 4) (.cons (.var 2) .nil))) (.cons (.prim .idx (.cons (.var 3) (.cons (.var 4) .nil))) .nil)))))
  .nil)))
  (.cons (.ret (.var 1))
  .nil)))⟩

def n__law_goldberg : List Str := ["word", "runs", "found", "size", "turn", "total", "k", "item"]
def p__law_goldberg : List Str := ["word", "runs"]
def b__law_goldberg : Fd := ⟨8, 2, (.cons (.set 2 (.lst (.cons (.tup (.cons (.cst (.int (1))) (.cons (.cst (.int (1))) .nil))) .nil)))
  (.cons (.for_ [3] (.ex (.var 1)) (.cons (.set 2 (.call 40 (.cons (.var 2) (.cons (.call 41 (.cons (.var 3) .nil)) .nil))))
  .nil))
  (.cons (.for_ [4] (.rng1 (.prim (.bin .FloorDiv) (.cons (.prim (.blt "len") (.cons (.var 1) .nil)) (.cons (.cst (.int (2))) .nil)))) (.cons (.set 2 (.call 40 (.cons (.var 2) (.cons (.lst (.cons (.tup (.cons (.cst (.int (0))) (.cons (.cst (.int (1))) .nil))) (.cons (.tup (.cons (.cst (.int (1))) (.cons (.cst (.int (1))) .nil))) .nil))) .nil))))
  .nil))
  (.cons (.for_ [4] (.rng1 (.prim (.bin .FloorDiv) (.cons (.prim (.bin .Sub) (.cons (.prim (.blt "len") (.cons (.var 1) .nil)) (.cons (.cst (.int (1))) .nil))) (.cons (.cst (.int (2))) .nil)))) (.cons (.set 2 (.call 40 (.cons (.var 2) (.cons (.lst (.cons (.tup (.cons (.prim .neg (.cons (.cst (.int (1))) .nil)) (.cons (.cst (.int (1))) .nil))) (.cons (.tup (.cons (.cst (.int (1))) (.cons (.cst (.int (1))) .nil))) .nil))) .nil))))
  .nil))
  (.cons (.set 5 (.tup (.cons (.cst (.int (0))) (.cons (.cst (.int (1))) .nil))))
  (.cons (.for_ [6, 7] (.enm (.var 2)) (.cons (.set 5 (.call 37 (.cons (.var 5) (.cons (.call 39 (.cons (.var 7) (.cons (.tup (.cons (.prim (.bin .Add) (.cons (.var 6) (.cons (.cst (.int (1))) .nil))) (.cons (.cst (.int (1))) .nil))) .nil))) .nil))))
  .nil))
  (.cons (.ret (.ite (.and (.prim (.cmp .Eq) (.cons (.prim .idx (.cons (.var 0) (.cons (.cst (.int (0))) .nil))) (.cons (.cst (.int (1))) .nil))) (.prim (.cmp .Eq) (.cons (.prim (.bin .Mod) (.cons (.prim (.blt "len") (.cons (.var 0) .nil)) (.cons (.cst (.int (2))) .nil))) (.cons (.cst (.int (0))) .nil)))) (.tup (.cons (.prim .neg (.cons (.prim .idx (.cons (.var 5) (.cons (.cst (.int (0))) .nil))) .nil)) (.cons (.prim .idx (.cons (.var 5) (.cons (.cst (.int (1))) .nil))) .nil))) (.var 5)))
  .nil)))))))⟩

def n__law_word : List Str := ["first", "runs", "found", "letter_v", "size"]
def p__law_word : List Str := ["first", "runs"]
def b__law_word : Fd := ⟨5, 2, (.cons (.par [2, 3] (.cons (.tup .nil) (.cons (.var 0) .nil)))
  (.cons (.for_ [4] (.ex (.var 1)) (.cons (.par [2, 3] (.cons (.prim (.bin .Add) (.cons (.var 2) (.cons (.prim (.bin .Mult) (.cons (.tup (.cons (.var 3) .nil)) (.cons (.var 4) .nil))) .nil))) (.cons (.prim (.bin .Sub) (.cons (.cst (.int (1))) (.cons (.var 3) .nil))) .nil)))
  .nil))
  (.cons (.ret (.var 2))
  .nil)))⟩

def n__law_refused : List Str := ["word"]
def p__law_refused : List Str := ["word"]
def b__law_refused : Fd := ⟨1, 1, (.cons (.try_ (.call 28 (.cons (.var 0) .nil)) false [(0, none), (1, none), (2, none), (3, some (.bl true)), (4, none)])
  (.cons (.ret (.cst (.bl false)))
  .nil))⟩

def n_law : List Str := ["script", "tape", "turn", "runs", "left", "step", "first", "word", "due", "mixed", "rest", "turned", "k"]
def bl_law : Sxs := (.cons (.for_ [2] (.rng1 (.cst (.int (4)))) (.cons (.par [3, 4] (.cons (.lst .nil) (.cons (.cst (.int (12))) .nil)))
  (.cons (.for_ [5] (.rng1 (.prim (.bin .Add) (.cons (.cst (.int (1))) (.cons (.call 34 (.cons (.var 1) (.cons (.cst (.int (6))) .nil))) .nil)))) (.cons (.ite (.prim (.cmp .Gt) (.cons (.var 4) (.cons (.cst (.int (0))) .nil))) (.cons (.app 3 (.prim (.blt "min") (.cons (.var 4) (.cons (.prim (.bin .Add) (.cons (.cst (.int (1))) (.cons (.call 34 (.cons (.var 1) (.cons (.cst (.int (4))) .nil))) .nil))) .nil))))
  (.cons (.set 4 (.prim (.bin .Sub) (.cons (.var 4) (.cons (.prim .idx (.cons (.var 3) (.cons (.prim .neg (.cons (.cst (.int (1))) .nil)) .nil))) .nil))))
  .nil)) .nil)
  .nil))
  (.cons (.set 6 (.call 34 (.cons (.var 1) (.cons (.cst (.int (2))) .nil))))
  (.cons (.set 7 (.call 43 (.cons (.var 6) (.cons (.var 3) .nil))))
  (.cons (.set 8 (.call 42 (.cons (.var 7) (.cons (.var 3) .nil))))
  (.cons (.ite (.not (.call 35 (.cons (.tup (.cons (.prim (.blt "tuple") (.cons (.call 27 (.cons (.var 7) .nil)) .nil)) (.cons (.call 28 (.cons (.var 7) .nil)) .nil))) (.cons (.tup (.cons (.prim (.blt "tuple") (.cons (.var 3) .nil)) (.cons (.var 8) .nil))) .nil)))) (.cons (.ret (.cst (.bl false)))
  .nil) .nil)
  (.cons (.par [9, 10] (.cons (.lst .nil) (.cons (.prim (.blt "list") (.cons (.var 3) .nil)) .nil)))
  (.cons (.while_ (.prim (.cmp .NotEq) (.cons (.var 10) (.cons (.lst .nil) .nil))) (.cons (.app 9 (.pop 10 (.cons (.call 34 (.cons (.var 1) (.cons (.prim (.blt "len") (.cons (.var 10) .nil)) .nil))) .nil)))
  .nil))
  (.cons (.ite (.not (.call 35 (.cons (.call 28 (.cons (.call 43 (.cons (.var 6) (.cons (.var 9) .nil))) .nil)) (.cons (.var 8) .nil)))) (.cons (.ret (.cst (.bl false)))
  .nil) .nil)
  (.cons (.set 11 (.ite (.prim (.cmp .Eq) (.cons (.prim (.bin .Mod) (.cons (.prim (.blt "len") (.cons (.var 7) .nil)) (.cons (.cst (.int (2))) .nil))) (.cons (.cst (.int (1))) .nil))) (.var 8) (.tup (.cons (.prim .neg (.cons (.prim .idx (.cons (.var 8) (.cons (.cst (.int (0))) .nil))) .nil)) (.cons (.prim .idx (.cons (.var 8) (.cons (.cst (.int (1))) .nil))) .nil)))))
  (.cons (.ite (.not (.call 35 (.cons (.call 28 (.cons (.call 43 (.cons (.prim (.bin .Sub) (.cons (.cst (.int (1))) (.cons (.var 6) .nil))) (.cons (.var 3) .nil))) .nil)) (.cons (.var 11) .nil)))) (.cons (.ret (.cst (.bl false)))
  .nil) .nil)
  (.cons (.ite (.and (.prim (.cmp .Lt) (.cons (.prim (.blt "len") (.cons (.var 7) .nil)) (.cons (.cst (.int (7))) .nil))) (.not (.call 35 (.cons (.call 20 (.cons (.call 26 (.cons (.prim (.blt "len") (.cons (.var 7) .nil)) .nil)) (.cons (.var 7) .nil))) (.cons (.var 8) .nil))))) (.cons (.ret (.cst (.bl false)))
  .nil) .nil)
  .nil)))))))))))))
  (.cons (.set 7 (.call 43 (.cons (.cst (.int (0))) (.cons (.comp [12] [12] (.rng1 (.cst (.int (3)))) .nil (.prim (.bin .Add) (.cons (.cst (.int (1))) (.cons (.call 34 (.cons (.var 1) (.cons (.cst (.int (3))) .nil))) .nil)))) .nil))))
  (.cons (.ret (.and (.call 44 (.cons (.tup .nil) .nil)) (.and (.call 44 (.cons (.prim (.bin .Add) (.cons (.var 7) (.cons (.tup (.cons (.prim (.bin .Add) (.cons (.cst (.int (2))) (.cons (.call 34 (.cons (.var 1) (.cons (.cst (.int (7))) .nil))) .nil))) .nil)) .nil))) .nil)) (.call 44 (.cons (.prim (.bin .Add) (.cons (.prim (.bin .Mult) (.cons (.tup (.cons (.cst (.int (0))) (.cons (.cst (.int (1))) .nil))) (.cons (.cst (.int (6))) .nil))) (.cons (.tup (.cons (.cst (.int (0))) .nil)) .nil))) .nil)))))
  .nil)))


theorem c_is_integer : ckD Ct n_is_integer p_is_integer (defScope (top 9)) b_is_integer (defBody (top 9)) = true := by decide +kernel
theorem s_is_integer : FnScope n_is_integer p_is_integer (defScope (top 9)) := ⟨by kernel_rfl, by kernel_rfl, by kernel_rfl, by decide +kernel, by decide +kernel, by decide +kernel, by decide +kernel⟩
theorem c_is_ratio : ckD Ct n_is_ratio p_is_ratio (defScope (top 10)) b_is_ratio (defBody (top 10)) = true := by decide +kernel
theorem s_is_ratio : FnScope n_is_ratio p_is_ratio (defScope (top 10)) := ⟨by kernel_rfl, by kernel_rfl, by kernel_rfl, by decide +kernel, by decide +kernel, by decide +kernel, by decide +kernel⟩
theorem c_divisor : ckD Ct n_divisor p_divisor (defScope (top 11)) b_divisor (defBody (top 11)) = true := by decide +kernel
theorem s_divisor : FnScope n_divisor p_divisor (defScope (top 11)) := ⟨by kernel_rfl, by kernel_rfl, by kernel_rfl, by decide +kernel, by decide +kernel, by decide +kernel, by decide +kernel⟩
theorem c_make : ckD Ct n_make p_make (defScope (top 12)) b_make (defBody (top 12)) = true := by decide +kernel
theorem s_make : FnScope n_make p_make (defScope (top 12)) := ⟨by kernel_rfl, by kernel_rfl, by kernel_rfl, by decide +kernel, by decide +kernel, by decide +kernel, by decide +kernel⟩
theorem c_add : ckD Ct n_add p_add (defScope (top 32)) b_add (defBody (top 32)) = true := by decide +kernel
theorem s_add : FnScope n_add p_add (defScope (top 32)) := ⟨by kernel_rfl, by kernel_rfl, by kernel_rfl, by decide +kernel, by decide +kernel, by decide +kernel, by decide +kernel⟩
theorem c_add_ratios : ckD Ct n_add_ratios p_add_ratios (defScope (top 13)) b_add_ratios (defBody (top 13)) = true := by decide +kernel
theorem s_add_ratios : FnScope n_add_ratios p_add_ratios (defScope (top 13)) := ⟨by kernel_rfl, by kernel_rfl, by kernel_rfl, by decide +kernel, by decide +kernel, by decide +kernel, by decide +kernel⟩
theorem c_multiply : ckD Ct n_multiply p_multiply (defScope (top 15)) b_multiply (defBody (top 15)) = true := by decide +kernel
theorem s_multiply : FnScope n_multiply p_multiply (defScope (top 15)) := ⟨by kernel_rfl, by kernel_rfl, by kernel_rfl, by decide +kernel, by decide +kernel, by decide +kernel, by decide +kernel⟩
theorem c_divide : ckD Ct n_divide p_divide (defScope (top 16)) b_divide (defBody (top 16)) = true := by decide +kernel
theorem s_divide : FnScope n_divide p_divide (defScope (top 16)) := ⟨by kernel_rfl, by kernel_rfl, by kernel_rfl, by decide +kernel, by decide +kernel, by decide +kernel, by decide +kernel⟩
theorem c_is_word : ckD Ct n_is_word p_is_word (defScope (top 20)) b_is_word (defBody (top 20)) = true := by decide +kernel
theorem s_is_word : FnScope n_is_word p_is_word (defScope (top 20)) := ⟨by kernel_rfl, by kernel_rfl, by kernel_rfl, by decide +kernel, by decide +kernel, by decide +kernel, by decide +kernel⟩
theorem c_check_word : ckD Ct n_check_word p_check_word (defScope (top 21)) b_check_word (defBody (top 21)) = true := by decide +kernel
theorem s_check_word : FnScope n_check_word p_check_word (defScope (top 21)) := ⟨by kernel_rfl, by kernel_rfl, by kernel_rfl, by decide +kernel, by decide +kernel, by decide +kernel, by decide +kernel⟩
theorem c_is_sum : ckD Ct n_is_sum p_is_sum (defScope (top 25)) b_is_sum (defBody (top 25)) = true := by decide +kernel
theorem s_is_sum : FnScope n_is_sum p_is_sum (defScope (top 25)) := ⟨by kernel_rfl, by kernel_rfl, by kernel_rfl, by decide +kernel, by decide +kernel, by decide +kernel, by decide +kernel⟩
theorem c_check_sum : ckD Ct n_check_sum p_check_sum (defScope (top 26)) b_check_sum (defBody (top 26)) = true := by decide +kernel
theorem s_check_sum : FnScope n_check_sum p_check_sum (defScope (top 26)) := ⟨by kernel_rfl, by kernel_rfl, by kernel_rfl, by decide +kernel, by decide +kernel, by decide +kernel, by decide +kernel⟩
theorem c_key : ckD Ct n_key p_key (defScope (top 27)) b_key (defBody (top 27)) = true := by decide +kernel
theorem s_key : FnScope n_key p_key (defScope (top 27)) := ⟨by kernel_rfl, by kernel_rfl, by kernel_rfl, by decide +kernel, by decide +kernel, by decide +kernel, by decide +kernel⟩
theorem c_gathered : ckD Ct n_gathered p_gathered (defScope (top 28)) b_gathered (defBody (top 28)) = true := by decide +kernel
theorem s_gathered : FnScope n_gathered p_gathered (defScope (top 28)) := ⟨by kernel_rfl, by kernel_rfl, by kernel_rfl, by decide +kernel, by decide +kernel, by decide +kernel, by decide +kernel⟩
theorem c_of_word : ckD Ct n_of_word p_of_word (defScope (top 29)) b_of_word (defBody (top 29)) = true := by decide +kernel
theorem s_of_word : FnScope n_of_word p_of_word (defScope (top 29)) := ⟨by kernel_rfl, by kernel_rfl, by kernel_rfl, by decide +kernel, by decide +kernel, by decide +kernel, by decide +kernel⟩
theorem c_letter : ckD Ct n_letter p_letter (defScope (top 30)) b_letter (defBody (top 30)) = true := by decide +kernel
theorem s_letter : FnScope n_letter p_letter (defScope (top 30)) := ⟨by kernel_rfl, by kernel_rfl, by kernel_rfl, by decide +kernel, by decide +kernel, by decide +kernel, by decide +kernel⟩
theorem c_one : ckD Ct n_one p_one (defScope (top 31)) b_one (defBody (top 31)) = true := by decide +kernel
theorem s_one : FnScope n_one p_one (defScope (top 31)) := ⟨by kernel_rfl, by kernel_rfl, by kernel_rfl, by decide +kernel, by decide +kernel, by decide +kernel, by decide +kernel⟩
theorem c_scaled : ckD Ct n_scaled p_scaled (defScope (top 34)) b_scaled (defBody (top 34)) = true := by decide +kernel
theorem s_scaled : FnScope n_scaled p_scaled (defScope (top 34)) := ⟨by kernel_rfl, by kernel_rfl, by kernel_rfl, by decide +kernel, by decide +kernel, by decide +kernel, by decide +kernel⟩
theorem c_minus : ckD Ct n_minus p_minus (defScope (top 35)) b_minus (defBody (top 35)) = true := by decide +kernel
theorem s_minus : FnScope n_minus p_minus (defScope (top 35)) := ⟨by kernel_rfl, by kernel_rfl, by kernel_rfl, by decide +kernel, by decide +kernel, by decide +kernel, by decide +kernel⟩
theorem c_cut_product : ckD Ct n_cut_product p_cut_product (defScope (top 36)) b_cut_product (defBody (top 36)) = true := by decide +kernel
theorem s_cut_product : FnScope n_cut_product p_cut_product (defScope (top 36)) := ⟨by kernel_rfl, by kernel_rfl, by kernel_rfl, by decide +kernel, by decide +kernel, by decide +kernel, by decide +kernel⟩
theorem c_number_at : ckD Ct n_number_at p_number_at (defScope (top 37)) b_number_at (defBody (top 37)) = true := by decide +kernel
theorem s_number_at : FnScope n_number_at p_number_at (defScope (top 37)) := ⟨by kernel_rfl, by kernel_rfl, by kernel_rfl, by decide +kernel, by decide +kernel, by decide +kernel, by decide +kernel⟩
theorem c_cut : ckD Ct n_cut p_cut (defScope (top 38)) b_cut (defBody (top 38)) = true := by decide +kernel
theorem s_cut : FnScope n_cut p_cut (defScope (top 38)) := ⟨by kernel_rfl, by kernel_rfl, by kernel_rfl, by decide +kernel, by decide +kernel, by decide +kernel, by decide +kernel⟩
theorem c_check_depth : ckD Ct n_check_depth p_check_depth (defScope (top 41)) b_check_depth (defBody (top 41)) = true := by decide +kernel
theorem s_check_depth : FnScope n_check_depth p_check_depth (defScope (top 41)) := ⟨by kernel_rfl, by kernel_rfl, by kernel_rfl, by decide +kernel, by decide +kernel, by decide +kernel, by decide +kernel⟩
theorem c_exponential : ckD Ct n_exponential p_exponential (defScope (top 42)) b_exponential (defBody (top 42)) = true := by decide +kernel
theorem s_exponential : FnScope n_exponential p_exponential (defScope (top 42)) := ⟨by kernel_rfl, by kernel_rfl, by kernel_rfl, by decide +kernel, by decide +kernel, by decide +kernel, by decide +kernel⟩
theorem c_logarithm : ckD Ct n_logarithm p_logarithm (defScope (top 43)) b_logarithm (defBody (top 43)) = true := by decide +kernel
theorem s_logarithm : FnScope n_logarithm p_logarithm (defScope (top 43)) := ⟨by kernel_rfl, by kernel_rfl, by kernel_rfl, by decide +kernel, by decide +kernel, by decide +kernel, by decide +kernel⟩
theorem c_together : ckD Ct n_together p_together (defScope (top 44)) b_together (defBody (top 44)) = true := by decide +kernel
theorem s_together : FnScope n_together p_together (defScope (top 44)) := ⟨by kernel_rfl, by kernel_rfl, by kernel_rfl, by decide +kernel, by decide +kernel, by decide +kernel, by decide +kernel⟩
theorem c_two_letters : ckD Ct n_two_letters p_two_letters (defScope (top 45)) b_two_letters (defBody (top 45)) = true := by decide +kernel
theorem s_two_letters : FnScope n_two_letters p_two_letters (defScope (top 45)) := ⟨by kernel_rfl, by kernel_rfl, by kernel_rfl, by decide +kernel, by decide +kernel, by decide +kernel, by decide +kernel⟩
theorem c_blocks : ckD Ct n_blocks p_blocks (defScope (top 46)) b_blocks (defBody (top 46)) = true := by decide +kernel
theorem s_blocks : FnScope n_blocks p_blocks (defScope (top 46)) := ⟨by kernel_rfl, by kernel_rfl, by kernel_rfl, by decide +kernel, by decide +kernel, by decide +kernel, by decide +kernel⟩
theorem c_by_blocks : ckD Ct n_by_blocks p_by_blocks (defScope (top 47)) b_by_blocks (defBody (top 47)) = true := by decide +kernel
theorem s_by_blocks : FnScope n_by_blocks p_by_blocks (defScope (top 47)) := ⟨by kernel_rfl, by kernel_rfl, by kernel_rfl, by decide +kernel, by decide +kernel, by decide +kernel, by decide +kernel⟩
theorem c_run_poly : ckD Ct n_run_poly p_run_poly (defScope (top 48)) b_run_poly (defBody (top 48)) = true := by decide +kernel
theorem s_run_poly : FnScope n_run_poly p_run_poly (defScope (top 48)) := ⟨by kernel_rfl, by kernel_rfl, by kernel_rfl, by decide +kernel, by decide +kernel, by decide +kernel, by decide +kernel⟩
theorem c_times_poly : ckD Ct n_times_poly p_times_poly (defScope (top 49)) b_times_poly (defBody (top 49)) = true := by decide +kernel
theorem s_times_poly : FnScope n_times_poly p_times_poly (defScope (top 49)) := ⟨by kernel_rfl, by kernel_rfl, by kernel_rfl, by decide +kernel, by decide +kernel, by decide +kernel, by decide +kernel⟩
theorem c_slope_poly : ckD Ct n_slope_poly p_slope_poly (defScope (top 50)) b_slope_poly (defBody (top 50)) = true := by decide +kernel
theorem s_slope_poly : FnScope n_slope_poly p_slope_poly (defScope (top 50)) := ⟨by kernel_rfl, by kernel_rfl, by kernel_rfl, by decide +kernel, by decide +kernel, by decide +kernel, by decide +kernel⟩
theorem c_area : ckD Ct n_area p_area (defScope (top 51)) b_area (defBody (top 51)) = true := by decide +kernel
theorem s_area : FnScope n_area p_area (defScope (top 51)) := ⟨by kernel_rfl, by kernel_rfl, by kernel_rfl, by decide +kernel, by decide +kernel, by decide +kernel, by decide +kernel⟩
theorem c__law_same : ckD Ct n__law_same p__law_same (defScope (top 55)) b__law_same (defBody (top 55)) = true := by decide +kernel
theorem s__law_same : FnScope n__law_same p__law_same (defScope (top 55)) := ⟨by kernel_rfl, by kernel_rfl, by kernel_rfl, by decide +kernel, by decide +kernel, by decide +kernel, by decide +kernel⟩
theorem c__law_frac : ckD Ct n__law_frac p__law_frac (defScope (top 56)) b__law_frac (defBody (top 56)) = true := by decide +kernel
theorem s__law_frac : FnScope n__law_frac p__law_frac (defScope (top 56)) := ⟨by kernel_rfl, by kernel_rfl, by kernel_rfl, by decide +kernel, by decide +kernel, by decide +kernel, by decide +kernel⟩
theorem c__law_plus : ckD Ct n__law_plus p__law_plus (defScope (top 57)) b__law_plus (defBody (top 57)) = true := by decide +kernel
theorem s__law_plus : FnScope n__law_plus p__law_plus (defScope (top 57)) := ⟨by kernel_rfl, by kernel_rfl, by kernel_rfl, by decide +kernel, by decide +kernel, by decide +kernel, by decide +kernel⟩
theorem c__law_by : ckD Ct n__law_by p__law_by (defScope (top 58)) b__law_by (defBody (top 58)) = true := by decide +kernel
theorem s__law_by : FnScope n__law_by p__law_by (defScope (top 58)) := ⟨by kernel_rfl, by kernel_rfl, by kernel_rfl, by decide +kernel, by decide +kernel, by decide +kernel, by decide +kernel⟩
theorem c__law_over : ckD Ct n__law_over p__law_over (defScope (top 59)) b__law_over (defBody (top 59)) = true := by decide +kernel
theorem s__law_over : FnScope n__law_over p__law_over (defScope (top 59)) := ⟨by kernel_rfl, by kernel_rfl, by kernel_rfl, by decide +kernel, by decide +kernel, by decide +kernel, by decide +kernel⟩
theorem c__law_times : ckD Ct n__law_times p__law_times (defScope (top 60)) b__law_times (defBody (top 60)) = true := by decide +kernel
theorem s__law_times : FnScope n__law_times p__law_times (defScope (top 60)) := ⟨by kernel_rfl, by kernel_rfl, by kernel_rfl, by decide +kernel, by decide +kernel, by decide +kernel, by decide +kernel⟩
theorem c__law_run : ckD Ct n__law_run p__law_run (defScope (top 61)) b__law_run (defBody (top 61)) = true := by decide +kernel
theorem s__law_run : FnScope n__law_run p__law_run (defScope (top 61)) := ⟨by kernel_rfl, by kernel_rfl, by kernel_rfl, by decide +kernel, by decide +kernel, by decide +kernel, by decide +kernel⟩
theorem c__law_goldberg : ckD Ct n__law_goldberg p__law_goldberg (defScope (top 62)) b__law_goldberg (defBody (top 62)) = true := by decide +kernel
theorem s__law_goldberg : FnScope n__law_goldberg p__law_goldberg (defScope (top 62)) := ⟨by kernel_rfl, by kernel_rfl, by kernel_rfl, by decide +kernel, by decide +kernel, by decide +kernel, by decide +kernel⟩
theorem c__law_word : ckD Ct n__law_word p__law_word (defScope (top 63)) b__law_word (defBody (top 63)) = true := by decide +kernel
theorem s__law_word : FnScope n__law_word p__law_word (defScope (top 63)) := ⟨by kernel_rfl, by kernel_rfl, by kernel_rfl, by decide +kernel, by decide +kernel, by decide +kernel, by decide +kernel⟩
theorem c__law_refused : ckD Ct n__law_refused p__law_refused (defScope (top 64)) b__law_refused (defBody (top 64)) = true := by decide +kernel
theorem s__law_refused : FnScope n__law_refused p__law_refused (defScope (top 64)) := ⟨by kernel_rfl, by kernel_rfl, by kernel_rfl, by decide +kernel, by decide +kernel, by decide +kernel, by decide +kernel⟩
theorem c_law : lawB Ct n_law 1 (defScope (top 65)) bl_law (defBody (top 65)) = true := by decide +kernel
theorem s_law : FnScope n_law ["script"] (defScope (top 65)) := ⟨by kernel_rfl, by kernel_rfl, by kernel_rfl, by decide +kernel, by decide +kernel, by decide +kernel, by decide +kernel⟩
theorem s__law_tape : FnScope tapeN ["script"] (defScope (top 53)) := ⟨by kernel_rfl, by kernel_rfl, by kernel_rfl, by decide +kernel, by decide +kernel, by decide +kernel, by decide +kernel⟩
theorem c__law_tape : tapeB (defScope (top 53)) (defBody (top 53)) = true := by decide +kernel
theorem t__law_tape : TapeSc (defScope (top 53)) := ⟨by decide +kernel, by decide +kernel, by decide +kernel, by decide +kernel⟩
theorem s__law_draw : FnScope drawN ["tape", "many"] (defScope (top 54)) := ⟨by kernel_rfl, by kernel_rfl, by kernel_rfl, by decide +kernel, by decide +kernel, by decide +kernel, by decide +kernel⟩
theorem c__law_draw : drawB (defBody (top 54)) = true := by decide +kernel
theorem t__law_draw : DrawSc (defScope (top 54)) := ⟨by decide +kernel, by decide +kernel, by decide +kernel, by decide +kernel, by decide +kernel, by decide +kernel⟩
theorem l_key : lenKeyB (defBody (top 27)) (defScope (top 27)) "word" = true := by decide +kernel
def Ps : List Fn := ([.body b_is_integer, .body b_is_ratio, .body b_divisor, .body b_make, .body b_add, .body b_add_ratios, .body b_multiply, .body b_divide, .body b_is_word, .body b_check_word, .body b_is_sum, .body b_check_sum, .body b_key, .body b_gathered, .body b_of_word, .body b_letter, .body b_one, .body b_scaled, .body b_minus, .body b_cut_product, .body b_number_at, .body b_cut, .body b_check_depth, .body b_exponential, .body b_logarithm] : List (Fn)) ++ ([.body b_together, .body b_two_letters, .body b_blocks, .body b_by_blocks, .body b_run_poly, .body b_times_poly, .body b_slope_poly, .body b_area, .prim fun _ _ => .stuck, .prim drawP, .body b__law_same, .body b__law_frac, .body b__law_plus, .body b__law_by, .body b__law_over, .body b__law_times, .body b__law_run, .body b__law_goldberg, .body b__law_word, .body b__law_refused, .prim fun _ _ => .stuck] : List (Fn))
end HL
namespace HL
open PySem PySem.Spec PyProof.Rows L2 He
def fn : List He.DefD := ([⟨("is_integer", none), "is_integer", "is_integer", defArgs (top 9), defBody (top 9), defScope (top 9), [], []⟩, ⟨("is_ratio", none), "is_ratio", "is_ratio", defArgs (top 10), defBody (top 10), defScope (top 10), [], []⟩, ⟨("divisor", none), "divisor", "divisor", defArgs (top 11), defBody (top 11), defScope (top 11), [], []⟩, ⟨("make", none), "make", "make", defArgs (top 12), defBody (top 12), defScope (top 12), [], []⟩, ⟨("add", none), "add", "add", defArgs (top 32), defBody (top 32), defScope (top 32), [], []⟩, ⟨("add_ratios", none), "add", "add", defArgs (top 13), defBody (top 13), defScope (top 13), [], []⟩, ⟨("multiply", none), "multiply", "multiply", defArgs (top 15), defBody (top 15), defScope (top 15), [], []⟩, ⟨("divide", none), "divide", "divide", defArgs (top 16), defBody (top 16), defScope (top 16), [], []⟩, ⟨("is_word", none), "is_word", "is_word", defArgs (top 20), defBody (top 20), defScope (top 20), [], []⟩, ⟨("check_word", none), "check_word", "check_word", defArgs (top 21), defBody (top 21), defScope (top 21), [], []⟩, ⟨("is_sum", none), "is_sum", "is_sum", defArgs (top 25), defBody (top 25), defScope (top 25), [], []⟩, ⟨("check_sum", none), "check_sum", "check_sum", defArgs (top 26), defBody (top 26), defScope (top 26), [], []⟩, ⟨("key", none), "key", "key", defArgs (top 27), defBody (top 27), defScope (top 27), [], []⟩, ⟨("gathered", none), "gathered", "gathered", defArgs (top 28), defBody (top 28), defScope (top 28), [], []⟩, ⟨("of_word", none), "of_word", "of_word", defArgs (top 29), defBody (top 29), defScope (top 29), [], []⟩, ⟨("letter", none), "letter", "letter", defArgs (top 30), defBody (top 30), defScope (top 30), [], []⟩, ⟨("one", none), "one", "one", defArgs (top 31), defBody (top 31), defScope (top 31), [], []⟩, ⟨("add_sums", none), "add", "add", defArgs (top 32), defBody (top 32), defScope (top 32), [], []⟩, ⟨("scaled", none), "scaled", "scaled", defArgs (top 34), defBody (top 34), defScope (top 34), [], []⟩, ⟨("minus", none), "minus", "minus", defArgs (top 35), defBody (top 35), defScope (top 35), [], []⟩, ⟨("cut_product", none), "cut_product", "cut_product", defArgs (top 36), defBody (top 36), defScope (top 36), [], []⟩, ⟨("number_at", none), "number_at", "number_at", defArgs (top 37), defBody (top 37), defScope (top 37), [], []⟩, ⟨("cut", none), "cut", "cut", defArgs (top 38), defBody (top 38), defScope (top 38), [], []⟩, ⟨("check_depth", none), "check_depth", "check_depth", defArgs (top 41), defBody (top 41), defScope (top 41), [], []⟩, ⟨("exponential", none), "exponential", "exponential", defArgs (top 42), defBody (top 42), defScope (top 42), [], []⟩] : List (He.DefD)) ++ ([⟨("logarithm", none), "logarithm", "logarithm", defArgs (top 43), defBody (top 43), defScope (top 43), [], []⟩, ⟨("together", none), "together", "together", defArgs (top 44), defBody (top 44), defScope (top 44), [], []⟩, ⟨("two_letters", none), "two_letters", "two_letters", defArgs (top 45), defBody (top 45), defScope (top 45), [], []⟩, ⟨("blocks", none), "blocks", "blocks", defArgs (top 46), defBody (top 46), defScope (top 46), [], []⟩, ⟨("by_blocks", none), "by_blocks", "by_blocks", defArgs (top 47), defBody (top 47), defScope (top 47), [], []⟩, ⟨("run_poly", none), "run_poly", "run_poly", defArgs (top 48), defBody (top 48), defScope (top 48), [], []⟩, ⟨("times_poly", none), "times_poly", "times_poly", defArgs (top 49), defBody (top 49), defScope (top 49), [], []⟩, ⟨("slope_poly", none), "slope_poly", "slope_poly", defArgs (top 50), defBody (top 50), defScope (top 50), [], []⟩, ⟨("area", none), "area", "area", defArgs (top 51), defBody (top 51), defScope (top 51), [], []⟩, ⟨("_law_tape", none), "_law_tape", "_law_tape", defArgs (top 53), defBody (top 53), defScope (top 53), [], []⟩, ⟨("_law_draw", none), "_law_draw", "_law_draw", defArgs (top 54), defBody (top 54), defScope (top 54), [], []⟩, ⟨("_law_same", none), "_law_same", "_law_same", defArgs (top 55), defBody (top 55), defScope (top 55), [], []⟩, ⟨("_law_frac", none), "_law_frac", "_law_frac", defArgs (top 56), defBody (top 56), defScope (top 56), [], []⟩, ⟨("_law_plus", none), "_law_plus", "_law_plus", defArgs (top 57), defBody (top 57), defScope (top 57), [], []⟩, ⟨("_law_by", none), "_law_by", "_law_by", defArgs (top 58), defBody (top 58), defScope (top 58), [], []⟩, ⟨("_law_over", none), "_law_over", "_law_over", defArgs (top 59), defBody (top 59), defScope (top 59), [], []⟩, ⟨("_law_times", none), "_law_times", "_law_times", defArgs (top 60), defBody (top 60), defScope (top 60), [], []⟩, ⟨("_law_run", none), "_law_run", "_law_run", defArgs (top 61), defBody (top 61), defScope (top 61), [], []⟩, ⟨("_law_goldberg", none), "_law_goldberg", "_law_goldberg", defArgs (top 62), defBody (top 62), defScope (top 62), [], []⟩, ⟨("_law_word", none), "_law_word", "_law_word", defArgs (top 63), defBody (top 63), defScope (top 63), [], []⟩, ⟨("_law_refused", none), "_law_refused", "_law_refused", defArgs (top 64), defBody (top 64), defScope (top 64), [], []⟩, ⟨("law", none), "law", "law", defArgs (top 65), defBody (top 65), defScope (top 65), [], []⟩] : List (He.DefD))
def fa : List He.Fa := ([.glo "BracketError", .exc "BracketError", .glo "BadNumber", .exc "BadNumber", .glo "BadWord", .exc "BadWord", .glo "BadSum", .exc "BadSum", .glo "BadSize", .exc "BadSize", .glo "ZERO", .glo "ONE", .glo "is_integer", .glo "is_ratio", .glo "divisor", .glo "make", .glo "add", .glo "add_ratios", .glo "multiply", .glo "divide", .int "MOST_LETTERS" 9, .int "MOST_WORD" 60, .glo "is_word", .glo "check_word", .int "MOST_TERMS" 6000] : List (He.Fa)) ++ ([.int "MOST_DEPTH" 10, .glo "is_sum", .glo "check_sum", .glo "key", .glo "gathered", .glo "of_word", .glo "letter", .glo "one", .glo "add_sums", .glo "scaled", .glo "minus", .glo "cut_product", .glo "number_at", .glo "cut", .int "MOST_BLOCKS" 12, .glo "check_depth", .glo "exponential", .glo "logarithm", .glo "together", .glo "two_letters", .glo "blocks", .glo "by_blocks", .glo "run_poly", .glo "times_poly", .glo "slope_poly"] : List (He.Fa)) ++ ([.glo "area", .glo "_law_tape", .glo "_law_draw", .glo "_law_same", .glo "_law_frac", .glo "_law_plus", .glo "_law_by", .glo "_law_over", .glo "_law_times", .glo "_law_run", .glo "_law_goldberg", .glo "_law_word", .glo "_law_refused", .glo "law", .exm "BracketError" "BracketError" true, .exm "BracketError" "BadNumber" false, .exm "BracketError" "BadWord" false, .exm "BracketError" "BadSum" false, .exm "BracketError" "BadSize" false, .exm "BadNumber" "BracketError" true, .exm "BadNumber" "BadNumber" true, .exm "BadNumber" "BadWord" false, .exm "BadNumber" "BadSum" false, .exm "BadNumber" "BadSize" false, .exm "BadWord" "BracketError" true] : List (He.Fa)) ++ ([.exm "BadWord" "BadNumber" false, .exm "BadWord" "BadWord" true, .exm "BadWord" "BadSum" false, .exm "BadWord" "BadSize" false, .exm "BadSum" "BracketError" true, .exm "BadSum" "BadNumber" false, .exm "BadSum" "BadWord" false, .exm "BadSum" "BadSum" true, .exm "BadSum" "BadSize" false, .exm "BadSize" "BracketError" true, .exm "BadSize" "BadNumber" false, .exm "BadSize" "BadWord" false, .exm "BadSize" "BadSum" false, .exm "BadSize" "BadSize" true, .free "ValueError", .free "abs", .free "all", .free "any", .free "bool", .free "enumerate", .free "int", .free "isinstance", .free "len", .free "list", .free "min"] : List (He.Fa)) ++ ([.free "range", .free "sorted", .free "str", .free "tuple", .free "zip"] : List (He.Fa))
def exB (K : PySem.W.Frag) : Bool := tupB K "ZERO" [.int 0, .int 1] && tupB K "ONE" [.int 1, .int 1]
abbrev R : PySem.W.OpenRow := PySem.W.OpenLaw.row PySem.Challenge.rw_bracketwords_k86_whole_runs_of_letters
abbrev hk : PySem.W.Hook := He.hookX 4 fa fn [] [] exB
def ob (s : PySem.W.SharedT) : He.AlX := He.obsX 4 fa fn [] [] exB (HandSHeadRun.getT s)
theorem ob_eq (s : PySem.W.SharedT) : ob s = hk.obs s.abs := He.obsX_eq (HandSHeadRun.getT_eq s)
def loose : List Str := (["BracketError", "BadNumber", "BadWord", "BadSum", "BadSize", "ZERO", "ONE", "is_integer", "is_ratio", "divisor", "make", "add", "add_ratios", "multiply", "divide", "MOST_LETTERS", "MOST_WORD", "is_word", "check_word", "MOST_TERMS", "MOST_DEPTH", "is_sum", "check_sum", "key", "gathered"] : List (Str)) ++ (["of_word", "letter", "one", "add_sums", "scaled", "minus", "cut_product", "number_at", "cut", "MOST_BLOCKS", "check_depth", "exponential", "logarithm", "together", "two_letters", "blocks", "by_blocks", "run_poly", "times_poly", "slope_poly", "area", "_law_tape", "_law_draw", "_law_same", "_law_frac"] : List (Str)) ++ (["_law_plus", "_law_by", "_law_over", "_law_times", "_law_run", "_law_goldberg", "_law_word", "_law_refused"] : List (Str))
theorem run (w : World) : HandSHeadRun.RunEq R (PySem.W.view R.prog [65]) hk ob 4000 loose w := by
  intro os
  kernel_rfl
end HL
namespace Vf
open PySem PySem.Spec PyProof.Rows L2

def MLe {α : Type} (m m' : M α) : Prop := ∀ s, m s = .stuck ∨ m s = m' s
def FLe (F G : FT) : Prop := ∀ i ds T, F i ds T = .stuck ∨ F i ds T = G i ds T
theorem MLe.rfl' {α : Type} {m : M α} : MLe m m := fun _ => .inr rfl
theorem MLe.bnd {α β : Type} {m m' : M α} {f f' : α → M β} (h : MLe m m') (g : ∀ a, MLe (f a) (f' a)) : MLe (Vf.bnd m f) (Vf.bnd m' f') := fun s => by
  unfold Vf.bnd
  rcases h s with e | e
  · rw [e]; exact .inl rfl
  · rw [e]
    cases m' s with
    | ok a s' => exact g a s'
    | exc c s' => exact .inr rfl
    | stuck => exact .inl rfl
theorem MLe.nox {α : Type} {m m' : M α} (h : MLe m m') : MLe (Vf.nox m) (Vf.nox m') := fun s => by
  unfold Vf.nox
  rcases h s with e | e
  · rw [e]; exact .inl rfl
  · rw [e]; exact .inr rfl
theorem MLe.ite {α : Type} {m m' n n' : M α} {b : Bool} (h : MLe m m') (g : MLe n n') : MLe (if b then m else n) (if b then m' else n') := by
  cases b
  · exact g
  · exact h
theorem callM_le {F G : FT} (h : FLe F G) (i : Nat) (ds : List D) : MLe (callM F i ds) (callM G i ds) := fun s => by
  unfold callM
  rcases h i ds s.T with e | e
  · rw [e]; exact .inl rfl
  · rw [e]; exact .inr rfl
theorem compL_le {own tg : List Nat} {c c' : M Bool} {e e' : M (D × Bool)} (hc : MLe c c') (he : MLe e e') : ∀ ds, MLe (compL own tg c e ds) (compL own tg c' e' ds)
  | [] => .rfl'
  | d :: r => by
    have ih := compL_le (own := own) (tg := tg) hc he r
    show MLe (fun s => Vf.bnd _ _ s) (fun s => Vf.bnd _ _ s)
    refine MLe.bnd .rfl' fun _ => MLe.bnd hc fun b => ?_
    cases b
    · exact fun s => ih _
    · refine MLe.bnd he fun x s => ?_
      exact MLe.bnd ih (fun _ => .rfl') _
mutual
theorem evE_le {F G : FT} (h : FLe F G) : ∀ e, MLe (evE F e) (evE G e)
  | .var i => by unfold evE; exact .rfl'
  | .cst d => by unfold evE; exact .rfl'
  | .glo _ d => by unfold evE; exact .rfl'
  | .prim p es => by unfold evE; exact (evO_le h es).bnd fun _ => .rfl'
  | .chkI a => by unfold evE; exact (evE_le h a).bnd fun _ => .rfl'
  | .not a => by unfold evE; exact ((evE_le h a).bnd fun _ => .rfl').bnd fun _ => .rfl'
  | .and a b => by unfold evE; exact ((evE_le h a).bnd fun _ => .rfl').bnd fun x => .ite (evE_le h b) .rfl'
  | .or a b => by unfold evE; exact ((evE_le h a).bnd fun _ => .rfl').bnd fun x => .ite .rfl' (evE_le h b)
  | .ite c a b => by unfold evE; exact ((evE_le h c).bnd fun _ => .rfl').bnd fun x => .ite (evE_le h a) (evE_le h b)
  | .tup es => by unfold evE; exact (evEs_le h es).bnd fun _ => .rfl'
  | .lst es => by unfold evE; exact (evEs_le h es).bnd fun _ => .rfl'
  | .dic t => by unfold evE; exact .rfl'
  | .call f es => by unfold evE; exact (evEs_le h es).bnd fun _ => callM_le h _ _
  | .pop i es => by unfold evE; exact MLe.bnd .rfl' fun _ => (evEs_le h es).bnd fun _ => .rfl'
  | .comp own tg it .nil e => by
    have h1 := evIt_le h it
    have h3 := evE_le h e
    unfold evE
    refine .nox (h1.bnd fun ds s => ?_)
    split
    · exact MLe.bnd (compL_le .rfl' h3 ds) (fun _ => .rfl') _
    · exact .inr rfl
  | .comp own tg it (.cons c es) e => by
    have h1 := evIt_le h it
    have h2 := evE_le h c
    have h3 := evE_le h e
    unfold evE
    refine .nox (h1.bnd fun ds s => ?_)
    split
    · exact MLe.bnd (compL_le (h2.bnd fun _ => .rfl') h3 ds) (fun _ => .rfl') _
    · exact .inr rfl
  | .sortk a _ => by unfold evE; exact (evE_le h a).bnd fun _ => .rfl'
theorem evEs_le {F G : FT} (h : FLe F G) : ∀ es, MLe (evEs F es) (evEs G es)
  | .nil => by unfold evEs; exact .rfl'
  | .cons e es => by unfold evEs; exact (evE_le h e).bnd fun _ => (evEs_le h es).bnd fun _ => .rfl'
theorem evO_le {F G : FT} (h : FLe F G) : ∀ es, MLe (evO F es) (evO G es)
  | .nil => by unfold evO; exact .rfl'
  | .cons e es => by
    have h1 := evE_le h e
    have h2 := evO_le h es
    rw [evO_cons, evO_cons]
    refine MLe.bnd ?_ fun _ => h2.bnd fun _ => .rfl'
    unfold evOp
    split
    · exact .rfl'
    · exact h1.bnd fun _ => .rfl'
theorem evIt_le {F G : FT} (h : FLe F G) : ∀ it, MLe (evIt F it) (evIt G it)
  | .ex e => by unfold evIt; exact (evE_le h e).bnd fun _ => .rfl'
  | .rng1 a => by unfold evIt; exact (evE_le h a).bnd fun _ => .rfl'
  | .rng2 a b => by unfold evIt; exact (evE_le h a).bnd fun _ => (evE_le h b).bnd fun _ => .rfl'
  | .zip a b => by unfold evIt; exact (evE_le h a).bnd fun _ => (evE_le h b).bnd fun _ => .rfl'
  | .enm a => by unfold evIt; exact (evE_le h a).bnd fun _ => .rfl'
end
theorem forL_le {tg : List Nat} {b b' : M Fl} (h : MLe b b') : ∀ ds, MLe (forL tg b ds) (forL tg b' ds)
  | [] => .rfl'
  | d :: r => by
    refine MLe.bnd .rfl' fun _ => h.bnd fun f => ?_
    cases f
    · exact forL_le h r
    · exact .rfl'
theorem whileL_le {c c' : M Bool} {b b' : M Fl} (hc : MLe c c') (h : MLe b b') : ∀ n, MLe (whileL c b n) (whileL c' b' n)
  | 0 => .rfl'
  | n + 1 => by
    refine MLe.bnd hc fun x => .ite (h.bnd fun f => ?_) .rfl'
    cases f
    · exact whileL_le hc h n
    · exact .rfl'
mutual
theorem evS_le {F G : FT} (h : FLe F G) : ∀ s, MLe (evS F s) (evS G s)
  | .set i e => by unfold evS; exact (evE_le h e).bnd fun _ => .rfl'
  | .unp is e => by unfold evS; exact (evE_le h e).bnd fun _ => .rfl'
  | .par is es => by unfold evS; exact (evEs_le h es).bnd fun _ => .rfl'
  | .aug i op e => by unfold evS; exact MLe.bnd .rfl' fun _ => (evE_le h e).bnd fun _ => .rfl'
  | .put i k e => by unfold evS; exact (evE_le h e).bnd fun _ => MLe.bnd .rfl' fun _ => (evE_le h k).bnd fun _ => .rfl'
  | .augk i k op e => by
    have h1 := evE_le h e
    unfold evS
    refine MLe.bnd .rfl' fun _ => (evE_le h k).bnd fun kk s => ?_
    split
    · split
      · exact MLe.bnd h1 (fun _ => .rfl') _
      · exact .inl rfl
    · exact .inl rfl
  | .app i e => by unfold evS; exact MLe.bnd .rfl' fun _ => (evE_le h e).bnd fun _ => .rfl'
  | .ext i e => by unfold evS; exact MLe.bnd .rfl' fun _ => (evE_le h e).bnd fun _ => .rfl'
  | .ite c a b => by unfold evS; exact ((evE_le h c).bnd fun _ => .rfl').bnd fun x => .ite (evSs_le h a) (evSs_le h b)
  | .for_ tg it b => by unfold evS; exact (evIt_le h it).bnd fun ds => forL_le (evSs_le h b) ds
  | .while_ c b => by unfold evS; exact whileL_le ((evE_le h c).bnd fun _ => .rfl') (evSs_le h b) _
  | .ret e => by
    have h1 := evE_le h e
    unfold evS
    split
    · exact .rfl'
    · exact h1.bnd fun _ => .rfl'
  | .raise c => by unfold evS; exact .rfl'
  | .expr e => by unfold evS; exact (evE_le h e).bnd fun _ => .rfl'
  | .pass => by unfold evS; exact .rfl'
  | .try_ e r hs => by
    intro s
    unfold evS
    rcases evE_le h e s with q | q
    · exact .inl (by show (match evE F e s with | .ok x s' => _ | .exc c s' => _ | .stuck => _) = _; rw [q])
    · exact .inr (by show (match evE F e s with | .ok x s' => _ | .exc c s' => _ | .stuck => _) = (match evE G e s with | .ok x s' => _ | .exc c s' => _ | .stuck => _); rw [q])
theorem evSs_le {F G : FT} (h : FLe F G) : ∀ ss, MLe (evSs F ss) (evSs G ss)
  | .nil => by unfold evSs; exact .rfl'
  | .cons s ss => by
    unfold evSs
    refine (evS_le h s).bnd fun f => ?_
    cases f
    · exact evSs_le h ss
    · exact .rfl'
end
theorem runB_le {F G : FT} (h : FLe F G) (f : Fd) (ds : List D) (T : TP) : runB F f ds T = .stuck ∨ runB F f ds T = runB G f ds T := by
  unfold runB
  split
  · rcases evSs_le h f.b (startS f.n ds T) with e | e
    · rw [e]; exact .inl rfl
    · rw [e]; exact .inr rfl
  · exact .inl rfl
def runX (X : FT) (P : List Fn) : Nat → FT
  | 0 => fun _ _ _ => .stuck
  | k + 1 => fun f ds T => match X f ds T with
    | .stuck => (match P[f]? with
      | some (.body b) => runB (runX X P k) b ds T
      | some (.prim p) => p ds T
      | none => .stuck)
    | r => r
theorem FLe.trans {F G H : FT} (a : FLe F G) (b : FLe G H) : FLe F H := fun i ds T => by
  rcases a i ds T with e | e
  · exact .inl e
  · rw [e]; exact b i ds T
theorem run_step (P : List Fn) : ∀ k, FLe (run P k) (run P (k + 1))
  | 0 => fun _ _ _ => .inl rfl
  | k + 1 => fun f ds T => by
    show (match P[f]? with | some (.body b) => runB (run P k) b ds T | some (.prim p) => p ds T | none => .stuck) = .stuck ∨ (match P[f]? with | some (.body b) => runB (run P k) b ds T | some (.prim p) => p ds T | none => .stuck) = (match P[f]? with | some (.body b) => runB (run P (k + 1)) b ds T | some (.prim p) => p ds T | none => .stuck)
    split
    · exact runB_le (run_step P k) _ _ _
    · exact .inr rfl
    · exact .inl rfl
theorem run_le (P : List Fn) (k : Nat) : ∀ j, FLe (run P k) (run P (k + j))
  | 0 => fun _ _ _ => .inr rfl
  | j + 1 => (run_le P k j).trans (run_step P (k + j))
theorem runX_le {X : FT} {P : List Fn} {n : Nat} (h : FLe X (run P n)) : ∀ k, FLe (runX X P k) (run P (n + k))
  | 0 => fun _ _ _ => .inl rfl
  | k + 1 => fun f ds T => by
    have ih := runX_le h k
    have hx := (h.trans (run_le P n (k + 1))) f ds T
    show (match X f ds T with | .stuck => (match P[f]? with | some (.body b) => runB (runX X P k) b ds T | some (.prim p) => p ds T | none => .stuck) | r => r) = .stuck ∨ (match X f ds T with | .stuck => (match P[f]? with | some (.body b) => runB (runX X P k) b ds T | some (.prim p) => p ds T | none => .stuck) | r => r) = _
    cases hX : X f ds T with
    | stuck =>
      show (match P[f]? with | some (.body b) => runB (runX X P k) b ds T | some (.prim p) => p ds T | none => .stuck) = .stuck ∨ (match P[f]? with | some (.body b) => runB (runX X P k) b ds T | some (.prim p) => p ds T | none => .stuck) = (match P[f]? with | some (.body b) => runB (run P (n + k)) b ds T | some (.prim p) => p ds T | none => .stuck)
      split
      · exact runB_le ih _ _ _
      · exact .inr rfl
      · exact .inl rfl
    | ok d fr T' => rw [hX] at hx; exact hx
    | exc c T' => rw [hX] at hx; exact hx
theorem ev_found {F G : FT} (h : FLe F G) {ss : Sxs} {s s' : S} {f : Fl} (e : evSs F ss s = .ok f s') : evSs G ss s = .ok f s' := by
  rcases evSs_le h ss s with q | q
  · rw [e] at q; cases q
  · rw [← q]; exact e
theorem fn_found {F G : FT} (h : FLe F G) {i : Nat} {ds : List D} {T : TP} {r : FRes} (e : F i ds T = r) (hr : r ≠ .stuck) : G i ds T = r := by
  rcases h i ds T with q | q
  · rw [e] at q; exact (hr q).elim
  · rw [← q]; exact e
end Vf
namespace Vf
open PySem PySem.Spec PyProof.Rows L2

theorem u_bnd {α β : Type} {s : S} {m : M α} {f : α → M β} : bnd m f s = match m s with
  | .ok a s' => f a s'
  | .exc c s' => .exc c s'
  | .stuck => .stuck := rfl
theorem u_ite {α : Type} {s : S} {c : Prop} [Decidable c] {m n : M α} : (if c then m else n) s = if c then m s else n s := by split <;> rfl
theorem u_retS {α : Type} {s : S} {a : α} : Vf.ret a s = .ok a s := rfl
theorem u_stk {α : Type} {s : S} : (stk : M α) s = .stuck := rfl
theorem u_opt {α : Type} {s : S} {a : α} : opt (some a) s = .ok a s := rfl
theorem u_isB {s : S} {b fr : Bool} : isB (.bl b, fr) s = .ok b s := rfl
theorem u_eqI {i j : Int} : Vf.eqD (.int i) (.int j) = some (decide (i = j)) := rfl
theorem u_eqB {i j : Bool} : Vf.eqD (.bl i) (.bl j) = some (decide (i = j)) := rfl
theorem u_ltI {i j : Int} : Vf.ltD (.int i) (.int j) = some (decide (i < j)) := rfl
theorem u_leI {i j : Int} : Vf.leD (.int i) (.int j) = some (decide (i ≤ j)) := rfl
theorem u_ix0 {a : D} {r : List D} : idxD (.tup (a :: r)) (.int 0) = some (a, false) := by
  show (at? 0 (a :: r)).map _ = _
  have : at? 0 (a :: r) = some a := atI_nat (j := 0) rfl
  rw [this]; rfl
theorem u_ix1 {a b : D} {r : List D} : idxD (.tup (a :: b :: r)) (.int 1) = some (b, false) := by
  show (at? 1 (a :: b :: r)).map _ = _
  have : at? 1 (a :: b :: r) = some b := atI_nat (j := 1) rfl
  rw [this]; rfl
theorem u_ix0k {a : D} {r : List D} : idxD (.ktup (a :: r)) (.int 0) = some (a, false) := by
  show (at? 0 (a :: r)).map _ = _
  have : at? 0 (a :: r) = some a := atI_nat (j := 0) rfl
  rw [this]; rfl
theorem u_ix1k {a b : D} {r : List D} : idxD (.ktup (a :: b :: r)) (.int 1) = some (b, false) := by
  show (at? 1 (a :: b :: r)).map _ = _
  have : at? 1 (a :: b :: r) = some b := atI_nat (j := 1) rfl
  rw [this]; rfl
theorem u_sqL {ds : List D} : seqOf (.lst ds) = some ds := rfl
theorem u_sqT {ds : List D} : seqOf (.tup ds) = some ds := rfl
theorem u_sqK {ds : List D} : seqOf (.ktup ds) = some ds := rfl
end Vf
open PySem PySem.Spec PyProof.Rows L2 Vf
local macro_rules
  | `(tactic| dsimp!) => `(tactic| dsimp! [])
  | `(tactic| dsimp! [$xs,*]) => `(tactic| simp only [Vf.runB, Vf.evE, Vf.evEs, Vf.evO_cons, Vf.evOp, Vf.evO, Vf.evIt, Vf.evS, Vf.evSs, Vf.u_bnd, Vf.u_ite, Vf.u_retS, Vf.u_stk, Vf.u_opt, Vf.u_isB, Vf.rdV, Vf.opV, Vf.retV, Vf.storeM, Vf.startS, Vf.lk, Vf.setS, Vf.setP, Vf.setAll, Vf.getAll, Vf.Opd.get, Vf.callM, Vf.tupM, Vf.lstM, Vf.tupOf, Vf.bindTup, Vf.bindT, Vf.wipeS, Vf.noOwned, Vf.backS, Vf.nox, Vf.ownM, Vf.ownL, Vf.u_sqL, Vf.u_sqT, Vf.u_sqK, Vf.primD, Vf.arg1, Vf.arg2, Vf.bltD, Vf.lenD, Vf.absD, Vf.intD, Vf.tupleD, Vf.listD, Vf.negD, Vf.binD, Vf.addD, Vf.subD, Vf.mulD, Vf.divD, Vf.modD, Vf.cmpD, Vf.isT, Vf.u_eqI, Vf.u_eqB, Vf.u_ltI, Vf.u_leI, Vf.u_ix0, Vf.u_ix1, Vf.u_ix0k, Vf.u_ix1k, Vf.forL, Vf.compL, Vf.orElse2, Vf.min2D, Vf.putV,
      List.map_cons, List.map_nil, List.length_cons, List.length_nil, List.cons_append, List.nil_append, List.getElem?_cons_zero, List.getElem?_cons_succ, List.getElem?_nil, List.set_cons_zero, List.set_cons_succ, List.replicate, Option.join_some, Option.join_none, Option.map_some, Option.map_none, Option.bind_some, Option.bind_none, List.foldl_cons, List.foldl_nil, List.all_cons, List.all_nil, Option.join, id, id_eq,
      Nat.reduceAdd, Nat.reduceSub, Nat.reduceEqDiff, ↓reduceIte, if_true, if_false, Bool.not_true, Bool.not_false, Bool.true_and, Bool.and_true, Bool.false_and, Bool.and_false, decide_true, decide_false, decide_not, Bool.false_eq_true, String.reduceEq, Nat.add_zero, Nat.zero_add, reduceCtorEq, not_false_eq_true, not_true_eq_false, ne_eq, implies_true, $xs,*])
namespace Vf
theorem st_cons {F : FT} {x : Sx} {ss : Sxs} {s s1 s2 : S} {r : Fl} (h : evS F x s = .ok .nx s1) (g : evSs F ss s1 = .ok r s2) : evSs F (.cons x ss) s = .ok r s2 := by
  unfold evSs
  rw [u_bnd, h]
  exact g
theorem st_last {F : FT} {x : Sx} {ss : Sxs} {s s1 : S} {d : D} {fr : Bool} (h : evS F x s = .ok (.rt d fr) s1) : evSs F (.cons x ss) s = .ok (.rt d fr) s1 := by
  unfold evSs
  rw [u_bnd, h]
theorem st_end {F : FT} {s : S} : evSs F .nil s = .ok .nx s := by
  unfold evSs
  rfl
theorem rb_rt {F : FT} {f : Fd} {ds : List D} {T : TP} {d : D} {fr : Bool} {s : S} (h : ds.length = f.ps) (g : evSs F f.b (startS f.n ds T) = .ok (.rt d fr) s) (t : s.T = T) : runB F f ds T = .ok d fr T := by
  unfold runB
  rw [if_pos h, g, ← t]
theorem rb_nx {F : FT} {f : Fd} {ds : List D} {T : TP} {s : S} (h : ds.length = f.ps) (g : evSs F f.b (startS f.n ds T) = .ok .nx s) (t : s.T = T) : runB F f ds T = .ok .non false T := by
  unfold runB
  rw [if_pos h, g, ← t]
theorem st_while {F : FT} {c : Ex} {b : Sxs} {s s1 : S} {r : Fl} (h : whileL (bnd (evE F c) isB) (evSs F b) most s = .ok r s1) : evS F (.while_ c b) s = .ok r s1 := by
  unfold evS
  exact h
theorem st_for {F : FT} {tg : List Nat} {it : It} {b : Sxs} {s s0 s1 : S} {ds : List D} {r : Fl} (h0 : evIt F it s = .ok ds s0) (h : forL tg (evSs F b) ds s0 = .ok r s1) : evS F (.for_ tg it b) s = .ok r s1 := by
  unfold evS
  rw [u_bnd, h0]
  exact h
theorem for_cons {tg : List Nat} {b : M Fl} {d : D} {r : List D} {s s1 s2 s3 : S} {x : Fl} (h1 : bindT tg d s = .ok () s1) (h2 : b s1 = .ok .nx s2) (h3 : forL tg b r s2 = .ok x s3) : forL tg b (d :: r) s = .ok x s3 := by
  show bnd _ _ s = _
  rw [u_bnd, h1]
  show bnd _ _ s1 = _
  rw [u_bnd, h2]
  exact h3
theorem comp_no {own tg : List Nat} {c : M Bool} {e : M (D × Bool)} {d : D} {r : List D} {s s1 s2 : S} {z : Res (List D)} (h1 : bindT tg d s = .ok () s1) (h2 : c s1 = .ok false s2) (h3 : compL own tg c e r (wipeS own s2) = z) : compL own tg c e (d :: r) s = z := by
  unfold compL
  rw [u_bnd, h1]
  show bnd c _ s1 = _
  rw [u_bnd, h2]
  exact h3
theorem comp_yes {own tg : List Nat} {c : M Bool} {e : M (D × Bool)} {d : D} {r : List D} {s s1 s2 s3 s4 : S} {x : D × Bool} {xs : List D} (h1 : bindT tg d s = .ok () s1) (h2 : c s1 = .ok true s2) (h3 : e s2 = .ok x s3) (h4 : compL own tg c e r (wipeS own s3) = .ok xs s4) : compL own tg c e (d :: r) s = .ok (x.1 :: xs) s4 := by
  unfold compL
  rw [u_bnd, h1]
  show bnd c _ s1 = _
  rw [u_bnd, h2]
  show bnd e _ s2 = _
  rw [u_bnd, h3]
  show bnd _ _ (wipeS own s3) = _
  rw [u_bnd, h4]
theorem nox_ok {α : Type} {m : M α} {s s1 : S} {a : α} (h : m s = .ok a s1) : Vf.nox m s = .ok a s1 := by
  unfold Vf.nox
  rw [h]
theorem ev_comp0 {F : FT} {own tg : List Nat} {it : It} {e : Ex} {s s0 s1 : S} {ds xs : List D} (h0 : evIt F it s = .ok ds s0) (hn : noOwned own s0 = true) (h : compL own tg (Vf.ret true) (evE F e) ds (wipeS own s0) = .ok xs s1) (hf : fits xs.length = true) :
    evE F (.comp own tg it .nil e) s = .ok (.lst xs, true) (backS own s0 s1) := by
  unfold evE
  refine nox_ok ?_
  rw [u_bnd, h0]
  refine (if_pos hn).trans ?_
  rw [u_bnd, h]
  exact if_pos hf
theorem ev_comp1 {F : FT} {own tg : List Nat} {it : It} {c e : Ex} {s s0 s1 : S} {ds xs : List D} (h0 : evIt F it s = .ok ds s0) (hn : noOwned own s0 = true) (h : compL own tg (bnd (evE F c) isB) (evE F e) ds (wipeS own s0) = .ok xs s1) (hf : fits xs.length = true) :
    evE F (.comp own tg it (.cons c .nil) e) s = .ok (.lst xs, true) (backS own s0 s1) := by
  unfold evE
  refine nox_ok ?_
  rw [u_bnd, h0]
  refine (if_pos hn).trans ?_
  rw [u_bnd, h]
  exact if_pos hf
theorem ev_blt1 {F : FT} {p : Pr} {e : Ex} (hv : ∀ i, e ≠ .var i) {s s1 : S} {d : D} {fr : Bool} {r : D × Bool} (h : evE F e s = .ok (d, fr) s1) (hp : primD p [d] = some r) : evE F (.prim p (.cons e .nil)) s = .ok r s1 := by
  have ho : evOp F e s = .ok (.val d) s1 := by
    unfold evOp
    split
    · exact (hv _ rfl).elim
    · rw [u_bnd, h]
  unfold evE
  rw [u_bnd, evO_cons, u_bnd, ho]
  simp only [evO, u_bnd, u_retS, getAll, Opd.get, hp]
theorem st_set {F : FT} {i : Nat} {e : Ex} {s s1 : S} {x : D × Bool} (h : evE F e s = .ok x s1) : evS F (.set i e) s = .ok .nx (setS s1 i (some (x.2, x.1))) := by
  unfold evS
  rw [u_bnd, h]
  rfl
theorem st_ret {F : FT} {e : Ex} (hv : ∀ i, e ≠ .var i) {s s1 : S} {x : D × Bool} (h : evE F e s = .ok x s1) : evS F (.ret e) s = .ok (.rt x.1 x.2) s1 := by
  unfold evS
  split
  · exact (hv _ rfl).elim
  · rw [u_bnd, h]
theorem ev_or_f {F : FT} {a b : Ex} {s s1 : S} {fr : Bool} {r : Res (D × Bool)} (h : evE F a s = .ok (.bl false, fr) s1) (g : evE F b s1 = r) : evE F (.or a b) s = r := by
  have e : evE F (.or a b) = bnd (bnd (evE F a) isB) fun x => if x then Vf.ret (.bl true, false) else evE F b := by conv => lhs; unfold evE
  rw [e, u_bnd, u_bnd, h]
  exact g
theorem st_ite_f {F : FT} {c : Ex} {a b : Sxs} {s s1 : S} {fr : Bool} {r : Res Fl} (h : evE F c s = .ok (.bl false, fr) s1) (g : evSs F b s1 = r) : evS F (.ite c a b) s = r := by
  have e : evS F (.ite c a b) = bnd (bnd (evE F c) isB) fun x => if x then evSs F a else evSs F b := by conv => lhs; unfold evS
  rw [e, u_bnd, u_bnd, h]
  exact g
theorem st_ite_t {F : FT} {c : Ex} {a b : Sxs} {s s1 : S} {fr : Bool} {r : Res Fl} (h : evE F c s = .ok (.bl true, fr) s1) (g : evSs F a s1 = r) : evS F (.ite c a b) s = r := by
  have e : evS F (.ite c a b) = bnd (bnd (evE F c) isB) fun x => if x then evSs F a else evSs F b := by conv => lhs; unfold evS
  rw [e, u_bnd, u_bnd, h]
  exact g
theorem ev_not {F : FT} {a : Ex} {s s1 : S} {b fr : Bool} (h : evE F a s = .ok (.bl b, fr) s1) : evE F (.not a) s = .ok (.bl (!b), false) s1 := by
  have e : evE F (.not a) = bnd (bnd (evE F a) isB) fun x => Vf.ret (.bl (!x), false) := by conv => lhs; unfold evE
  rw [e, u_bnd, u_bnd, h]
  rfl
end Vf
namespace HL
open PySem PySem.Spec PyProof.Rows L2 Vf

theorem run_body {Ps : List Fn} {i : Nat} {f : Fd} (h : Ps[i]? = some (.body f)) (k : Nat) (ds : List D) (T : Vf.TP) : Vf.run Ps (k + 1) i ds T = runB (Vf.run Ps k) f ds T := by
  show (match Ps[i]? with | some (.body b) => runB (Vf.run Ps k) b ds T | some (.prim p) => p ds T | none => .stuck) = _
  rw [h]
theorem r_is_integer (F : FT) (i : Int) (T : Vf.TP) : runB F b_is_integer [.int i] T = .ok (.bl true) false T := by
  dsimp! [b_is_integer]
theorem divisor_step (F : FT) (T : Vf.TP) (m : Nat) (a b : Nat) : whileL (bnd (evE F (.prim (.cmp .Gt) (.cons (.var 1) (.cons (.cst (.int (0))) .nil)))) Vf.isB) (evSs F (.cons (.par [0, 1] (.cons (.var 1) (.cons (.prim (.bin .Mod) (.cons (.var 0) (.cons (.var 1) .nil))) .nil))) .nil)) (m + 1) ⟨[some (false, .int a), some (false, .int b)], T⟩ =
   if b = 0 then .ok .nx ⟨[some (false, .int a), some (false, .int b)], T⟩ else whileL (bnd (evE F (.prim (.cmp .Gt) (.cons (.var 1) (.cons (.cst (.int (0))) .nil)))) Vf.isB) (evSs F (.cons (.par [0, 1] (.cons (.var 1) (.cons (.prim (.bin .Mod) (.cons (.var 0) (.cons (.var 1) .nil))) .nil))) .nil)) m ⟨[some (false, .int b), some (false, .int (a % b : Nat))], T⟩ := by
    rw [whileL]
    by_cases hb : b = 0
    · subst hb
      dsimp!
      simp
    · have hb' : 0 < (b : Int) := by omega
      have hb2 : (b : Int) ≠ 0 := by omega
      have e1 : (a : Int).fmod b = ((a % b : Nat) : Int) := by rw [Int.fmod_eq_emod_of_nonneg _ (by omega)]; rfl
      dsimp! [hb, hb', hb2, e1]
theorem mod_half {a b : Nat} (h : b ≠ 0) (h2 : a % b ≠ 0) {k : Nat} (hk : b < 2 ^ (k + 1)) : b % (a % b) < 2 ^ k := by
  have h1 : a % b < b := Nat.mod_lt _ (by omega)
  have h3 : b % (a % b) < a % b := Nat.mod_lt _ (by omega)
  have h4 := Nat.div_add_mod b (a % b)
  have h5 : 0 < b / (a % b) := Nat.div_pos (by omega) (by omega)
  have h6 : a % b ≤ (a % b) * (b / (a % b)) := Nat.le_mul_of_pos_right _ h5
  rw [Nat.pow_succ] at hk
  omega
theorem divisor_loop (F : FT) (T : Vf.TP) : ∀ (k m a b : Nat), b < 2 ^ k → 2 * k + 1 ≤ m → whileL (bnd (evE F (.prim (.cmp .Gt) (.cons (.var 1) (.cons (.cst (.int (0))) .nil)))) Vf.isB) (evSs F (.cons (.par [0, 1] (.cons (.var 1) (.cons (.prim (.bin .Mod) (.cons (.var 0) (.cons (.var 1) .nil))) .nil))) .nil)) m ⟨[some (false, .int a), some (false, .int b)], T⟩ =
    .ok .nx ⟨[some (false, .int (Nat.gcd a b)), some (false, .int 0)], T⟩
  | k, 0, a, b, h, hm => by omega
  | k, m + 1, a, b, h, hm => by
    rw [divisor_step]
    by_cases hb : b = 0
    · subst hb; rw [if_pos rfl, Nat.gcd_zero_right]; rfl
    rw [if_neg hb]
    have e2 : Nat.gcd a b = Nat.gcd b (a % b) := by rw [Nat.gcd_comm a b, Nat.gcd_rec b a, Nat.gcd_comm]
    cases k with
    | zero => omega
    | succ k =>
      obtain ⟨m, rfl⟩ : ∃ m', m = m' + 1 := ⟨m - 1, by omega⟩
      rw [divisor_step]
      by_cases hr : a % b = 0
      · rw [if_pos hr, e2, hr, Nat.gcd_zero_right]; rfl
      · rw [if_neg hr, divisor_loop F T k m _ _ (mod_half hb hr h) (by omega), e2]
        have e3 : Nat.gcd b (a % b) = Nat.gcd (a % b) (b % (a % b)) := by rw [Nat.gcd_comm b, Nat.gcd_rec (a % b) b, Nat.gcd_comm]
        rw [e3]
theorem abs_nat (a : Int) : (if a < 0 then -a else a) = (a.natAbs : Int) := by split <;> omega
theorem r_divisor (F : FT) (a b : Int) (T : Vf.TP) (h : b.natAbs < 2 ^ 4000) : runB F b_divisor [.int a, .int b] T = .ok (.int (Int.gcd a b)) false T := by
  refine rb_rt rfl (st_cons (s1 := ⟨[some (false, .int a.natAbs), some (false, .int b.natAbs)], T⟩) ?_ (st_cons (st_while (divisor_loop F T 4000 Vf.most a.natAbs b.natAbs h (by decide))) (st_last rfl))) rfl
  dsimp! [b_divisor, abs_nat]
abbrev Q := Int × Int
def qD (q : Q) : D := .tup [.int q.1, .int q.2]
def kD (k : Bool) (q : Q) : D := match k with
  | true => .ktup [.int q.1, .int q.2]
  | false => .tup [.int q.1, .int q.2]
def okB (a : Int) : Bool := decide (a.natAbs < 2 ^ 4000)
def mkQ (a b : Int) : Option Q := if okB a && okB b && decide (0 < b) then some (a / (Int.gcd a b), b / (Int.gcd a b)) else none
def addQ (p q : Q) : Option Q := if okB p.1 && okB p.2 && okB q.1 && okB q.2 then mkQ (p.1 * q.2 + q.1 * p.2) (p.2 * q.2) else none
def mulQ (p q : Q) : Option Q := if okB p.1 && okB p.2 && okB q.1 && okB q.2 then mkQ (p.1 * q.1) (p.2 * q.2) else none
theorem okB_log {a : Int} (h : okB a = true) : a.natAbs.log2 < 9000 := by
  have h1 : a.natAbs < 2 ^ 4000 := of_decide_eq_true h
  have := PySem.Flt.log2_lt_of (k := 4000) (by decide) h1
  omega
theorem mul_ok {a b : Int} (ha : okB a = true) (hb : okB b = true) : decide (a.natAbs.log2 + b.natAbs.log2 < 1000000) = true := by
  have := okB_log ha
  have := okB_log hb
  exact decide_eq_true (by omega)
theorem gcd_small {a b : Int} (hb : 0 < b) (h : okB b = true) : decide ((Int.gcd a b : Int) ≠ 0) = true ∧ small (Int.gcd a b : Int) = true := by
  have h1 : Int.gcd a b ≤ b.natAbs := Nat.le_of_dvd (by omega) (Nat.gcd_dvd_right _ _)
  have h2 : 0 < Int.gcd a b := Nat.gcd_pos_of_pos_right _ (by omega)
  have h3 : b.natAbs < 2 ^ 4000 := of_decide_eq_true h
  have h4 : okB (Int.gcd a b : Int) = true := decide_eq_true (by simp only [Int.natAbs_natCast]; omega)
  exact ⟨decide_eq_true (by omega), decide_eq_true (okB_log h4)⟩
theorem r_make {F : FT} {T : Vf.TP} (hF : ∀ a b : Int, b.natAbs < 2 ^ 4000 → F 2 [.int a, .int b] T = .ok (.int (Int.gcd a b)) false T) {a b : Int} {q : Q} (h : mkQ a b = some q) : runB F b_make [.int a, .int b] T = .ok (qD q) false T := by
  unfold mkQ at h
  split at h
  · rename_i hc
    simp only [Bool.and_eq_true, decide_eq_true_eq] at hc
    obtain ⟨⟨h1, h2⟩, h3⟩ := hc
    cases h
    obtain ⟨g1, g2⟩ := gcd_small (a := a) h3 h2
    have e0 : ¬ b = 0 := by omega
    have e1 : ¬ b < 0 := by omega
    have e2 := hF a b (of_decide_eq_true h2)
    have e3 : (Int.gcd a b : Int) ≠ 0 := of_decide_eq_true g1
    have d1 : a.fdiv (Int.gcd a b) = a / (Int.gcd a b) := Int.fdiv_eq_ediv_of_nonneg _ (by omega)
    have d2 : b.fdiv (Int.gcd a b) = b / (Int.gcd a b) := Int.fdiv_eq_ediv_of_nonneg _ (by omega)
    refine rb_rt rfl (st_cons (s1 := ⟨[some (false, .int a), some (false, .int b), none], T⟩) ?_ (st_cons (s1 := ⟨[some (false, .int a), some (false, .int b), some (false, .int (Int.gcd a b))], T⟩) ?_ (st_cons (s1 := ⟨[some (false, .int a), some (false, .int b), some (false, .int (Int.gcd a b))], T⟩) ?_ (st_last (s1 := ⟨[some (false, .int a), some (false, .int b), some (false, .int (Int.gcd a b))], T⟩) ?_)))) rfl
    · dsimp! [b_make, e0]
    · dsimp! [b_make, e2]
    · dsimp! [e1]
    · dsimp! [g1, g2, d1, d2, qD, e3]
      rfl
  · cases h
theorem r_add {F : FT} {T : Vf.TP} (hF : ∀ (a b : Int) q, mkQ a b = some q → F 3 [.int a, .int b] T = .ok (qD q) false T) {p q r : Q} (k1 k2 : Bool) (h : addQ p q = some r) : runB F b_add_ratios [kD k1 p, kD k2 q] T = .ok (qD r) false T := by
  unfold addQ at h
  split at h
  · rename_i hc
    simp only [Bool.and_eq_true] at hc
    obtain ⟨⟨⟨h1, h2⟩, h3⟩, h4⟩ := hc
    have e := hF _ _ _ h
    have m1 := mul_ok h1 h4
    have m2 := mul_ok h3 h2
    have m3 := mul_ok h2 h4
    refine rb_rt rfl (st_last (s1 := ⟨[some (false, kD k1 p), some (false, kD k2 q)], T⟩) ?_) rfl
    cases k1 <;> cases k2 <;> dsimp! [b_add_ratios, qD, kD, m1, m2, m3, e]
  · cases h
theorem r_mul {F : FT} {T : Vf.TP} (hF : ∀ (a b : Int) q, mkQ a b = some q → F 3 [.int a, .int b] T = .ok (qD q) false T) {p q r : Q} (k1 k2 : Bool) (h : mulQ p q = some r) : runB F b_multiply [kD k1 p, kD k2 q] T = .ok (qD r) false T := by
  unfold mulQ at h
  split at h
  · rename_i hc
    simp only [Bool.and_eq_true] at hc
    obtain ⟨⟨⟨h1, h2⟩, h3⟩, h4⟩ := hc
    have e := hF _ _ _ h
    have m1 := mul_ok h1 h3
    have m3 := mul_ok h2 h4
    refine rb_rt rfl (st_last (s1 := ⟨[some (false, kD k1 p), some (false, kD k2 q)], T⟩) ?_) rfl
    cases k1 <;> cases k2 <;> dsimp! [b_multiply, qD, kD, m1, m3, e]
  · cases h
def divQ (p q : Q) : Option Q := if okB p.1 && okB p.2 && okB q.1 && okB q.2 && decide (0 < q.1) then mkQ (p.1 * q.2) (p.2 * q.1) else none
theorem r_div {F : FT} {T : Vf.TP} (hF : ∀ (a b : Int) q, mkQ a b = some q → F 3 [.int a, .int b] T = .ok (qD q) false T) {p q r : Q} (k1 k2 : Bool) (h : divQ p q = some r) : runB F b_divide [kD k1 p, kD k2 q] T = .ok (qD r) false T := by
  unfold divQ at h
  split at h
  · rename_i hc
    simp only [Bool.and_eq_true, decide_eq_true_eq] at hc
    obtain ⟨⟨⟨⟨h1, h2⟩, h3⟩, h4⟩, h5⟩ := hc
    have e := hF _ _ _ h
    have m1 := mul_ok h1 h4
    have m3 := mul_ok h2 h3
    have e0 : ¬ q.1 = 0 := by omega
    refine rb_rt rfl (st_cons (s1 := ⟨[some (false, kD k1 p), some (false, kD k2 q)], T⟩) ?_ (st_last (s1 := ⟨[some (false, kD k1 p), some (false, kD k2 q)], T⟩) ?_)) rfl
    · cases k1 <;> cases k2 <;> dsimp! [b_divide, qD, kD, e0]
    · cases k1 <;> cases k2 <;> dsimp! [b_divide, qD, kD, m1, m3, e]
  · cases h
abbrev LC : Ex := .prim (.cmp .Gt) (.cons (.var 3) (.cons (.cst (.int (0))) .nil))
abbrev LB : Sxs := .cons (.par [2, 3] (.cons (.var 3) (.cons (.prim (.bin .Mod) (.cons (.var 2) (.cons (.var 3) .nil))) .nil))) .nil
theorem frac_step (F : FT) (T : Vf.TP) (x y : Option (Bool × D)) (m : Nat) (a b : Nat) : whileL (bnd (evE F LC) Vf.isB) (evSs F LB) (m + 1) ⟨[x, y, some (false, .int a), some (false, .int b)], T⟩ =
   if b = 0 then .ok .nx ⟨[x, y, some (false, .int a), some (false, .int b)], T⟩ else whileL (bnd (evE F LC) Vf.isB) (evSs F LB) m ⟨[x, y, some (false, .int b), some (false, .int (a % b : Nat))], T⟩ := by
    rw [whileL]
    by_cases hb : b = 0
    · subst hb
      dsimp!
      simp
    · have hb' : 0 < (b : Int) := by omega
      have hb2 : (b : Int) ≠ 0 := by omega
      have e1 : (a : Int).fmod b = ((a % b : Nat) : Int) := by rw [Int.fmod_eq_emod_of_nonneg _ (by omega)]; rfl
      dsimp! [hb, hb', hb2, e1]
theorem frac_loop (F : FT) (T : Vf.TP) (x y : Option (Bool × D)) : ∀ (k m a b : Nat), b < 2 ^ k → 2 * k + 1 ≤ m → whileL (bnd (evE F LC) Vf.isB) (evSs F LB) m ⟨[x, y, some (false, .int a), some (false, .int b)], T⟩ =
    .ok .nx ⟨[x, y, some (false, .int (Nat.gcd a b)), some (false, .int 0)], T⟩
  | k, 0, a, b, h, hm => by omega
  | k, m + 1, a, b, h, hm => by
    rw [frac_step]
    by_cases hb : b = 0
    · subst hb; rw [if_pos rfl, Nat.gcd_zero_right]; rfl
    rw [if_neg hb]
    have e2 : Nat.gcd a b = Nat.gcd b (a % b) := by rw [Nat.gcd_comm a b, Nat.gcd_rec b a, Nat.gcd_comm]
    cases k with
    | zero => omega
    | succ k =>
      obtain ⟨m, rfl⟩ : ∃ m', m = m' + 1 := ⟨m - 1, by omega⟩
      rw [frac_step]
      by_cases hr : a % b = 0
      · rw [if_pos hr, e2, hr, Nat.gcd_zero_right]; rfl
      · rw [if_neg hr, frac_loop F T x y k m _ _ (mod_half hb hr h) (by omega), e2]
        have e3 : Nat.gcd b (a % b) = Nat.gcd (a % b) (b % (a % b)) := by rw [Nat.gcd_comm b, Nat.gcd_rec (a % b) b, Nat.gcd_comm]
        rw [e3]
theorem r_frac {F : FT} {T : Vf.TP} {a b : Int} {q : Q} (h : mkQ a b = some q) : runB F b__law_frac [.int a, .int b] T = .ok (qD q) false T := by
  unfold mkQ at h
  split at h
  · rename_i hc
    simp only [Bool.and_eq_true, decide_eq_true_eq] at hc
    obtain ⟨⟨h1, h2⟩, h3⟩ := hc
    cases h
    obtain ⟨g1, g2⟩ := gcd_small (a := a) h3 h2
    have e3 : (Int.gcd a b : Int) ≠ 0 := of_decide_eq_true g1
    have d1 : a.fdiv (Int.gcd a b) = a / (Int.gcd a b) := Int.fdiv_eq_ediv_of_nonneg _ (by omega)
    have d2 : b.fdiv (Int.gcd a b) = b / (Int.gcd a b) := Int.fdiv_eq_ediv_of_nonneg _ (by omega)
    have hl := frac_loop F T (some (false, .int a)) (some (false, .int b)) 4000 Vf.most a.natAbs b.natAbs (of_decide_eq_true h2) (by decide)
    refine rb_rt rfl (st_cons (s1 := ⟨[some (false, .int a), some (false, .int b), some (false, .int a.natAbs), some (false, .int b.natAbs)], T⟩) ?_ (st_cons (st_while hl) (st_last (s1 := ⟨[some (false, .int a), some (false, .int b), some (false, .int (Int.gcd a b)), some (false, .int 0)], T⟩) ?_))) rfl
    · dsimp! [b__law_frac, abs_nat]
    · show evS F _ ⟨[some (false, .int a), some (false, .int b), some (false, .int (Int.gcd a b)), some (false, .int 0)], T⟩ = _
      dsimp! [h3, g1, g2, d1, d2, qD, e3]
      rfl
  · cases h
theorem r_plus {F : FT} {T : Vf.TP} (hF : ∀ (a b : Int) q, mkQ a b = some q → F 36 [.int a, .int b] T = .ok (qD q) false T) {p q r : Q} (k1 k2 : Bool) (h : addQ p q = some r) : runB F b__law_plus [kD k1 p, kD k2 q] T = .ok (qD r) false T := by
  unfold addQ at h
  split at h
  · rename_i hc
    simp only [Bool.and_eq_true] at hc
    obtain ⟨⟨⟨h1, h2⟩, h3⟩, h4⟩ := hc
    have e := hF _ _ _ h
    have m1 := mul_ok h1 h4
    have m2 := mul_ok h3 h2
    have m3 := mul_ok h2 h4
    refine rb_rt rfl (st_last (s1 := ⟨[some (false, kD k1 p), some (false, kD k2 q)], T⟩) ?_) rfl
    cases k1 <;> cases k2 <;> dsimp! [b__law_plus, qD, kD, m1, m2, m3, e]
  · cases h
theorem r_by {F : FT} {T : Vf.TP} (hF : ∀ (a b : Int) q, mkQ a b = some q → F 36 [.int a, .int b] T = .ok (qD q) false T) {p q r : Q} (k1 k2 : Bool) (h : mulQ p q = some r) : runB F b__law_by [kD k1 p, kD k2 q] T = .ok (qD r) false T := by
  unfold mulQ at h
  split at h
  · rename_i hc
    simp only [Bool.and_eq_true] at hc
    obtain ⟨⟨⟨h1, h2⟩, h3⟩, h4⟩ := hc
    have e := hF _ _ _ h
    have m1 := mul_ok h1 h3
    have m3 := mul_ok h2 h4
    refine rb_rt rfl (st_last (s1 := ⟨[some (false, kD k1 p), some (false, kD k2 q)], T⟩) ?_) rfl
    cases k1 <;> cases k2 <;> dsimp! [b__law_by, qD, kD, m1, m3, e]
  · cases h
theorem r_over {F : FT} {T : Vf.TP} (hF : ∀ (a b : Int) q, mkQ a b = some q → F 36 [.int a, .int b] T = .ok (qD q) false T) {p q r : Q} (k1 k2 : Bool) (h : divQ p q = some r) : runB F b__law_over [kD k1 p, kD k2 q] T = .ok (qD r) false T := by
  unfold divQ at h
  split at h
  · rename_i hc
    simp only [Bool.and_eq_true, decide_eq_true_eq] at hc
    obtain ⟨⟨⟨⟨h1, h2⟩, h3⟩, h4⟩, h5⟩ := hc
    have e := hF _ _ _ h
    have m1 := mul_ok h1 h4
    have m3 := mul_ok h2 h3
    refine rb_rt rfl (st_last (s1 := ⟨[some (false, kD k1 p), some (false, kD k2 q)], T⟩) ?_) rfl
    cases k1 <;> cases k2 <;> dsimp! [b__law_over, qD, kD, m1, m3, e]
  · cases h

def asQ : D → Option (Bool × Q)
  | .tup [.int a, .int b] => some (false, (a, b))
  | .ktup [.int a, .int b] => some (true, (a, b))
  | _ => none
def onQ (f : Q → Q → Option Q) (ds : List D) (T : Vf.TP) : FRes := match ds with
  | [x, y] => (match asQ x, asQ y with
    | some (_, p), some (_, q) => (match f p q with
      | some r => .ok (qD r) false T
      | none => .stuck)
    | _, _ => .stuck)
  | _ => .stuck
def onI (f : Int → Int → Option D) (ds : List D) (T : Vf.TP) : FRes := match ds with
  | [.int a, .int b] => (match f a b with
    | some r => .ok r false T
    | none => .stuck)
  | _ => .stuck
def gcdD (a b : Int) : Option D := if okB b then some (.int (Int.gcd a b)) else none
def mkD (a b : Int) : Option D := (mkQ a b).map qD
def X : FT := fun i ds T => bif i.beq 2 then onI gcdD ds T else bif i.beq 3 then onI mkD ds T else bif i.beq 5 then onQ addQ ds T else bif i.beq 6 then onQ mulQ ds T else bif i.beq 7 then onQ divQ ds T
  else bif i.beq 37 then onQ addQ ds T else bif i.beq 38 then onQ mulQ ds T else bif i.beq 39 then onQ divQ ds T else .stuck
theorem asQ_k {d : D} {k : Bool} {q : Q} (h : asQ d = some (k, q)) : d = kD k q := by
  unfold asQ at h
  split at h <;> cases h <;> rfl
theorem k_make (T : Vf.TP) (k : Nat) : ∀ (a b : Int) q, mkQ a b = some q → Vf.run Ps (k + 2) 3 [.int a, .int b] T = .ok (qD q) false T := fun a b q h => by
  rw [run_body (f := b_make) rfl]
  exact r_make (fun a b h => by rw [run_body (f := b_divisor) rfl]; exact r_divisor _ a b T h) h
theorem k_frac (T : Vf.TP) (k : Nat) : ∀ (a b : Int) q, mkQ a b = some q → Vf.run Ps (k + 1) 36 [.int a, .int b] T = .ok (qD q) false T := fun a b q h => by
  rw [run_body (f := b__law_frac) rfl]
  exact r_frac h
theorem onQ_ok {f : Q → Q → Option Q} {G : List D → Vf.TP → FRes} (h : ∀ T p q r k1 k2, f p q = some r → G [kD k1 p, kD k2 q] T = .ok (qD r) false T) (ds : List D) (T : Vf.TP) : onQ f ds T = .stuck ∨ onQ f ds T = G ds T := by
  unfold onQ
  split
  · split
    · rename_i e1 e2
      split
      · rename_i r e3
        rw [asQ_k e1, asQ_k e2]
        exact .inr (h T _ _ _ _ _ e3).symm
      · exact .inl rfl
    · exact .inl rfl
  · exact .inl rfl
theorem onI_ok {f : Int → Int → Option D} {G : List D → Vf.TP → FRes} (h : ∀ T a b r, f a b = some r → G [.int a, .int b] T = .ok r false T) (ds : List D) (T : Vf.TP) : onI f ds T = .stuck ∨ onI f ds T = G ds T := by
  unfold onI
  split
  · split
    · rename_i r e3
      exact .inr (h T _ _ _ e3).symm
    · exact .inl rfl
  · exact .inl rfl
theorem X_le : FLe X (Vf.run Ps 4) := fun i ds T => by
  have b2 : ∀ n : Nat, Nat.beq i n = true → i = n := fun n h => Nat.eq_of_beq_eq_true h
  unfold X
  cases e2 : Nat.beq i 2
  case true =>
    cases b2 _ e2
    refine onI_ok (G := fun ds T => Vf.run Ps 4 2 ds T) (fun T a b r h => ?_) ds T
    unfold gcdD at h
    split at h
    · rename_i hb
      cases h
      rw [run_body (f := b_divisor) rfl]
      exact r_divisor _ a b T (of_decide_eq_true hb)
    · cases h
  cases e3 : Nat.beq i 3
  case true =>
    cases b2 _ e3
    refine onI_ok (G := fun ds T => Vf.run Ps 4 3 ds T) (fun T a b r h => ?_) ds T
    unfold mkD at h
    cases e : mkQ a b with
    | none => rw [e] at h; cases h
    | some q => rw [e] at h; cases h; exact k_make T 2 a b q e
  cases e5 : Nat.beq i 5
  case true =>
    cases b2 _ e5
    refine onQ_ok (G := fun ds T => Vf.run Ps 4 5 ds T) (fun T p q r k1 k2 h => ?_) ds T
    rw [run_body (f := b_add_ratios) rfl]
    exact r_add (k_make T 1) k1 k2 h
  cases e6 : Nat.beq i 6
  case true =>
    cases b2 _ e6
    refine onQ_ok (G := fun ds T => Vf.run Ps 4 6 ds T) (fun T p q r k1 k2 h => ?_) ds T
    rw [run_body (f := b_multiply) rfl]
    exact r_mul (k_make T 1) k1 k2 h
  cases e7 : Nat.beq i 7
  case true =>
    cases b2 _ e7
    refine onQ_ok (G := fun ds T => Vf.run Ps 4 7 ds T) (fun T p q r k1 k2 h => ?_) ds T
    rw [run_body (f := b_divide) rfl]
    exact r_div (k_make T 1) k1 k2 h
  cases e37 : Nat.beq i 37
  case true =>
    cases b2 _ e37
    refine onQ_ok (G := fun ds T => Vf.run Ps 4 37 ds T) (fun T p q r k1 k2 h => ?_) ds T
    rw [run_body (f := b__law_plus) rfl]
    exact r_plus (k_frac T 2) k1 k2 h
  cases e38 : Nat.beq i 38
  case true =>
    cases b2 _ e38
    refine onQ_ok (G := fun ds T => Vf.run Ps 4 38 ds T) (fun T p q r k1 k2 h => ?_) ds T
    rw [run_body (f := b__law_by) rfl]
    exact r_by (k_frac T 2) k1 k2 h
  cases e39 : Nat.beq i 39
  case true =>
    cases b2 _ e39
    refine onQ_ok (G := fun ds T => Vf.run Ps 4 39 ds T) (fun T p q r k1 k2 h => ?_) ds T
    rw [run_body (f := b__law_over) rfl]
    exact r_over (k_frac T 2) k1 k2 h
  exact .inl rfl
end HL
namespace Vf
open PySem PySem.Spec PyProof.Rows L2

def atT {α : Type} (T : TP) : Res α → Res α
  | .ok a s => .ok a ⟨s.ρ, T⟩
  | .exc c s => .exc c ⟨s.ρ, T⟩
  | .stuck => .stuck
def atF (T : TP) : FRes → FRes
  | .ok d fr _ => .ok d fr T
  | .exc c _ => .exc c T
  | .stuck => .stuck
def MT {α : Type} (m : M α) : Prop := ∀ ρ T, m ⟨ρ, T⟩ = atT T (m ⟨ρ, none⟩)
def FTI (F : FT) : Prop := ∀ i ds T, F i ds T = atF T (F i ds none)
theorem MT.none {α : Type} {m : M α} (h : MT m) {ρ : List (Option (Bool × D))} {a : α} {s : S} (e : m ⟨ρ, .none⟩ = .ok a s) : s = ⟨s.ρ, .none⟩ := by
  have := h ρ .none
  rw [e] at this
  injection this
theorem MT.bnd {α β : Type} {m : M α} {f : α → M β} (h : MT m) (g : ∀ a, MT (f a)) : MT (Vf.bnd m f) := fun ρ T => by
  rw [u_bnd, u_bnd, h ρ T]
  cases e : m ⟨ρ, .none⟩ with
  | ok a s =>
    have e2 := h.none e
    show f a ⟨s.ρ, T⟩ = atT T (f a s)
    rw [g a s.ρ T, ← e2]
  | exc c s => rfl
  | stuck => rfl
theorem MT.ret {α : Type} {a : α} : MT (Vf.ret a) := fun _ _ => rfl
theorem MT.stk {α : Type} : MT (Vf.stk : M α) := fun _ _ => rfl
theorem MT.opt {α : Type} {a : Option α} : MT (Vf.opt a) := fun _ _ => by cases a <;> rfl
theorem MT.ite {α : Type} {m n : M α} {b : Prop} [Decidable b] (h : MT m) (g : MT n) : MT (if b then m else n) := by
  split
  · exact h
  · exact g
theorem MT.nox {α : Type} {m : M α} (h : MT m) : MT (Vf.nox m) := fun ρ T => by
  unfold Vf.nox
  rw [h ρ T]
  cases m ⟨ρ, .none⟩ <;> rfl
theorem MT.rdV (i : Nat) : MT (Vf.rdV i) := fun ρ T => by
  show (match lk ⟨ρ, T⟩ i with | some (_, d) => _ | .none => _) = atT T (match lk ⟨ρ, .none⟩ i with | some (_, d) => _ | .none => _)
  have : lk ⟨ρ, T⟩ i = lk ⟨ρ, .none⟩ i := rfl
  rw [this]
  split <;> rfl
theorem MT.opV (i : Nat) : MT (Vf.opV i) := fun ρ T => by
  show (match lk ⟨ρ, T⟩ i with | some _ => _ | .none => _) = atT T (match lk ⟨ρ, .none⟩ i with | some _ => _ | .none => _)
  have : lk ⟨ρ, T⟩ i = lk ⟨ρ, .none⟩ i := rfl
  rw [this]
  split <;> rfl
theorem MT.retV (i : Nat) : MT (Vf.retV i) := fun ρ T => by
  show (match lk ⟨ρ, T⟩ i with | some (fr, d) => _ | .none => _) = atT T (match lk ⟨ρ, .none⟩ i with | some (fr, d) => _ | .none => _)
  have : lk ⟨ρ, T⟩ i = lk ⟨ρ, .none⟩ i := rfl
  rw [this]
  split <;> rfl
theorem MT.isB (x : D × Bool) : MT (Vf.isB x) := by
  unfold Vf.isB
  split
  · exact .ret
  · exact .stk
theorem MT.intM (x : D × Bool) : MT (Vf.intM x) := by
  unfold Vf.intM
  split
  · exact .ret
  · exact .stk
theorem MT.tupM (x : List D) : MT (Vf.tupM x) := .ite .ret .stk
theorem MT.lstM (x : List D) : MT (Vf.lstM x) := .ite .ret .stk
theorem MT.callM {F : FT} (h : FTI F) (i : Nat) (ds : List D) : MT (Vf.callM F i ds) := fun ρ T => by
  unfold Vf.callM
  simp only
  rw [h i ds T]
  cases F i ds .none <;> rfl
theorem MT.ownM (i : Nat) : MT (Vf.ownM i) := fun ρ T => by
  show (match lk ⟨ρ, T⟩ i with | some (true, _) => _ | _ => _) = atT T (match lk ⟨ρ, .none⟩ i with | some (true, _) => _ | _ => _)
  have : lk ⟨ρ, T⟩ i = lk ⟨ρ, .none⟩ i := rfl
  rw [this]
  split <;> rfl
theorem MT.ownL (i : Nat) : MT (Vf.ownL i) := fun ρ T => by
  show (match lk ⟨ρ, T⟩ i with | some (true, .lst _) => _ | _ => _) = atT T (match lk ⟨ρ, .none⟩ i with | some (true, .lst _) => _ | _ => _)
  have : lk ⟨ρ, T⟩ i = lk ⟨ρ, .none⟩ i := rfl
  rw [this]
  split <;> rfl
theorem MT.putV (i : Nat) (k x : D) : MT (Vf.putV i k x) := fun ρ T => by
  unfold Vf.putV
  have : lk ⟨ρ, T⟩ i = lk ⟨ρ, .none⟩ i := rfl
  simp only [this]
  split
  · split <;> rfl
  · rfl
theorem MT.popV (i : Nat) (xs : List D) : MT (Vf.popV i xs) := fun ρ T => by
  unfold Vf.popV
  have : lk ⟨ρ, T⟩ i = lk ⟨ρ, .none⟩ i := rfl
  simp only [this]
  repeat' split
  all_goals rfl
theorem setP_T (T : TP) : ∀ (is : List Nat) (ds : List D) (ρ : List (Option (Bool × D))), setP is ds ⟨ρ, T⟩ = ⟨(setP is ds ⟨ρ, .none⟩).ρ, T⟩
  | [], _, _ => by simp only [setP]
  | _ :: _, [], _ => by simp only [setP]
  | i :: is, d :: ds, ρ => by
    show setP is ds (setS ⟨ρ, T⟩ i _) = ⟨(setP is ds (setS ⟨ρ, .none⟩ i _)).ρ, T⟩
    exact setP_T T is ds _
theorem setAll_T (T : TP) : ∀ (is : List Nat) (ds : List (D × Bool)) (ρ : List (Option (Bool × D))), setAll is ds ⟨ρ, T⟩ = ⟨(setAll is ds ⟨ρ, .none⟩).ρ, T⟩
  | [], _, _ => by simp only [setAll]
  | _ :: _, [], _ => by simp only [setAll]
  | i :: is, d :: ds, ρ => by
    show setS (setAll is ds ⟨ρ, T⟩) i _ = ⟨(setS (setAll is ds ⟨ρ, .none⟩) i _).ρ, T⟩
    rw [setAll_T T is ds ρ]
    rfl
theorem setP_T0 (is : List Nat) (ds : List D) (ρ : List (Option (Bool × D))) : setP is ds ⟨ρ, .none⟩ = ⟨(setP is ds ⟨ρ, .none⟩).ρ, .none⟩ := setP_T .none is ds ρ
theorem MT.bindT (tg : List Nat) (d : D) : MT (Vf.bindT tg d) := fun ρ T => by
  unfold Vf.bindT
  split
  · rfl
  · unfold bindTup
    split
    · split
      · rw [setP_T]; rfl
      · rfl
    · rfl
theorem MT.comp {own tg : List Nat} {c : M Bool} {e : M (D × Bool)} (hc : MT c) (he : MT e) : ∀ ds, MT (compL own tg c e ds)
  | [] => .ret
  | d :: r => by
    have ih := MT.comp (own := own) (tg := tg) hc he r
    show MT (fun s => Vf.bnd _ _ s)
    have : ∀ {m : M (List D)}, MT m → MT (fun s => m s) := fun h => h
    refine this (MT.bnd (.bindT _ _) fun _ => MT.bnd hc fun b => ?_)
    have w : ∀ {β : Type} {m : M β}, MT m → MT (fun s' => m (wipeS own s')) := fun {β m} h ρ T => h _ T
    cases b
    · exact w ih
    · exact MT.bnd he fun x => w (MT.bnd ih fun _ => .ret)
mutual
theorem evE_T {F : FT} (h : FTI F) : ∀ e, MT (evE F e)
  | .var i => by unfold evE; exact .rdV i
  | .cst d => by unfold evE; exact .ret
  | .glo _ d => by unfold evE; exact .ret
  | .prim p es => by
    unfold evE
    refine (evO_T h es).bnd fun os ρ T => ?_
    have : ∀ os, getAll ⟨ρ, T⟩ os = getAll ⟨ρ, none⟩ os := fun os => by
      induction os with
      | nil => rfl
      | cons o r ih =>
        have : o.get ⟨ρ, T⟩ = o.get ⟨ρ, none⟩ := by cases o <;> rfl
        unfold getAll
        rw [ih, this]
    simp only [this]
    split
    · split <;> rfl
    · rfl
  | .chkI a => by unfold evE; exact (evE_T h a).bnd .intM
  | .not a => by unfold evE; exact ((evE_T h a).bnd .isB).bnd fun _ => .ret
  | .and a b => by unfold evE; exact ((evE_T h a).bnd .isB).bnd fun x => .ite (evE_T h b) .ret
  | .or a b => by unfold evE; exact ((evE_T h a).bnd .isB).bnd fun x => .ite .ret (evE_T h b)
  | .ite c a b => by unfold evE; exact ((evE_T h c).bnd .isB).bnd fun x => .ite (evE_T h a) (evE_T h b)
  | .tup es => by unfold evE; exact (evEs_T h es).bnd fun _ => .tupM _
  | .lst es => by unfold evE; exact (evEs_T h es).bnd fun _ => .lstM _
  | .dic t => by unfold evE; exact .ret
  | .call f es => by unfold evE; exact (evEs_T h es).bnd fun _ => .callM h _ _
  | .pop i es => by unfold evE; exact MT.bnd (.ownL i) fun _ => (evEs_T h es).bnd fun _ => .popV _ _
  | .comp own tg it .nil e => by
    have h1 := evIt_T h it
    have h3 := evE_T h e
    unfold evE
    refine .nox (h1.bnd fun ds ρ T => ?_)
    have : noOwned own ⟨ρ, T⟩ = noOwned own ⟨ρ, none⟩ := rfl
    rw [this]
    split
    · refine MT.bnd (MT.comp .ret h3 ds) (fun _ ρ' T => ?_) (wipeS own ⟨ρ, none⟩).ρ T
      split <;> rfl
    · rfl
  | .comp own tg it (.cons c es) e => by
    have h1 := evIt_T h it
    have h2 := evE_T h c
    have h3 := evE_T h e
    unfold evE
    refine .nox (h1.bnd fun ds ρ T => ?_)
    have : noOwned own ⟨ρ, T⟩ = noOwned own ⟨ρ, none⟩ := rfl
    rw [this]
    split
    · refine MT.bnd (MT.comp (h2.bnd .isB) h3 ds) (fun _ ρ' T => ?_) (wipeS own ⟨ρ, none⟩).ρ T
      split <;> rfl
    · rfl
  | .sortk a _ => by unfold evE; exact (evE_T h a).bnd fun _ => .opt
theorem evEs_T {F : FT} (h : FTI F) : ∀ es, MT (evEs F es)
  | .nil => by unfold evEs; exact .ret
  | .cons e es => by unfold evEs; exact (evE_T h e).bnd fun _ => (evEs_T h es).bnd fun _ => .ret
theorem evO_T {F : FT} (h : FTI F) : ∀ es, MT (evO F es)
  | .nil => by unfold evO; exact .ret
  | .cons e es => by
    have h1 := evE_T h e
    have h2 := evO_T h es
    rw [evO_cons]
    refine MT.bnd ?_ fun _ => h2.bnd fun _ => .ret
    unfold evOp
    split
    · exact .opV _
    · exact h1.bnd fun _ => .ret
theorem evIt_T {F : FT} (h : FTI F) : ∀ it, MT (evIt F it)
  | .ex e => by unfold evIt; exact (evE_T h e).bnd fun _ => .opt
  | .rng1 a => by
    unfold evIt
    refine (evE_T h a).bnd fun d => ?_
    split
    · exact .ite .ret .stk
    · exact .stk
  | .rng2 a b => by
    unfold evIt
    refine (evE_T h a).bnd fun d => (evE_T h b).bnd fun e => ?_
    split
    · exact .ite .ret .stk
    · exact .stk
  | .zip a b => by unfold evIt; exact (evE_T h a).bnd fun _ => (evE_T h b).bnd fun _ => .opt
  | .enm a => by
    unfold evIt
    refine (evE_T h a).bnd fun d => ?_
    split
    · exact .ret
    · exact .stk
end
theorem forL_T {tg : List Nat} {b : M Fl} (h : MT b) : ∀ ds, MT (forL tg b ds)
  | [] => .ret
  | d :: r => by
    refine MT.bnd (.bindT _ _) fun _ => h.bnd fun f => ?_
    cases f
    · exact forL_T h r
    · exact .ret
theorem whileL_T {c : M Bool} {b : M Fl} (hc : MT c) (h : MT b) : ∀ n, MT (whileL c b n)
  | 0 => .stk
  | n + 1 => by
    refine MT.bnd hc fun x => .ite (h.bnd fun f => ?_) .ret
    cases f
    · exact whileL_T hc h n
    · exact .ret
mutual
theorem evS_T {F : FT} (h : FTI F) : ∀ s, MT (evS F s)
  | .set i e => by unfold evS; exact (evE_T h e).bnd fun _ _ _ => rfl
  | .unp is e => by
    unfold evS
    refine (evE_T h e).bnd fun x ρ T => ?_
    split
    · split
      · rw [setP_T]; rfl
      · rfl
    · rfl
  | .par is es => by
    unfold evS
    refine (evEs_T h es).bnd fun ds ρ T => ?_
    split
    · rw [setAll_T]; rfl
    · rfl
  | .aug i op e => by
    unfold evS
    refine MT.bnd (.rdV i) fun _ => (evE_T h e).bnd fun _ _ _ => ?_
    split <;> rfl
  | .put i k e => by unfold evS; exact (evE_T h e).bnd fun _ => MT.bnd (.ownM i) fun _ => (evE_T h k).bnd fun _ => .putV _ _ _
  | .augk i k op e => by
    have h1 := evE_T h e
    unfold evS
    refine MT.bnd (.ownM i) fun _ => (evE_T h k).bnd fun kk ρ T => ?_
    have : lk ⟨ρ, T⟩ i = lk ⟨ρ, none⟩ i := rfl
    simp only [this]
    split
    · split
      · refine MT.bnd h1 (fun b => ?_) ρ T
        intro ρ T
        split
        · exact MT.putV _ _ _ ρ T
        · rfl
      · rfl
    · rfl
  | .app i e => by
    unfold evS
    refine MT.bnd (.ownL i) fun _ => (evE_T h e).bnd fun _ ρ T => ?_
    have : lk ⟨ρ, T⟩ i = lk ⟨ρ, none⟩ i := rfl
    simp only [this]
    split
    · split <;> rfl
    · rfl
  | .ext i e => by
    unfold evS
    refine MT.bnd (.ownL i) fun _ => (evE_T h e).bnd fun _ ρ T => ?_
    have : lk ⟨ρ, T⟩ i = lk ⟨ρ, none⟩ i := rfl
    simp only [this]
    split
    · split <;> rfl
    · rfl
  | .ite c a b => by unfold evS; exact ((evE_T h c).bnd .isB).bnd fun x => .ite (evSs_T h a) (evSs_T h b)
  | .for_ tg it b => by unfold evS; exact (evIt_T h it).bnd fun ds => forL_T (evSs_T h b) ds
  | .while_ c b => by unfold evS; exact whileL_T ((evE_T h c).bnd .isB) (evSs_T h b) _
  | .ret e => by
    have h1 := evE_T h e
    unfold evS
    split
    · exact .retV _
    · exact h1.bnd fun _ => .ret
  | .raise c => by unfold evS; exact fun _ _ => rfl
  | .expr e => by unfold evS; exact (evE_T h e).bnd fun _ => .ret
  | .pass => by unfold evS; exact .ret
  | .try_ e r hs => by
    intro ρ T
    have q := evE_T h e ρ T
    unfold evS
    show (match evE F e ⟨ρ, T⟩ with | .ok x s' => _ | .exc c s' => _ | .stuck => _) = atT T (match evE F e ⟨ρ, none⟩ with | .ok x s' => _ | .exc c s' => _ | .stuck => _)
    rw [q]
    cases evE F e ⟨ρ, none⟩ with
    | ok x s => rfl
    | exc c s =>
      show (match hs.lookup c with | some (some d) => _ | some none => _ | none => _) = atT T (match hs.lookup c with | some (some d) => _ | some none => _ | none => _)
      split <;> rfl
    | stuck => rfl
theorem evSs_T {F : FT} (h : FTI F) : ∀ ss, MT (evSs F ss)
  | .nil => by unfold evSs; exact .ret
  | .cons s ss => by
    unfold evSs
    refine (evS_T h s).bnd fun f => ?_
    cases f
    · exact evSs_T h ss
    · exact .ret
end
theorem runB_T {F : FT} (h : FTI F) (f : Fd) (ds : List D) (T : TP) : runB F f ds T = atF T (runB F f ds none) := by
  unfold runB
  split
  · have : startS f.n ds T = ⟨(startS f.n ds none).ρ, T⟩ := rfl
    rw [this, evSs_T h f.b _ T]
    show _ = atF T (match evSs F f.b (startS f.n ds none) with | .ok .nx s => _ | .ok (.rt d fr) s => _ | .exc c s => _ | .stuck => _)
    have e : startS f.n ds none = ⟨(startS f.n ds none).ρ, none⟩ := rfl
    rw [← e]
    cases evSs F f.b (startS f.n ds none) with
    | ok a s => cases a <;> rfl
    | exc c s => rfl
    | stuck => rfl
  · rfl
def bodies (P : List Fn) : List Fn := P.map fun f => match f with
  | .body b => .body b
  | .prim _ => .prim fun _ _ => .stuck
theorem bodies_get {P : List Fn} {i : Nat} : (bodies P)[i]? = (P[i]?).map fun f => match f with
  | .body b => .body b
  | .prim _ => .prim fun _ _ => .stuck := List.getElem?_map ..
theorem runX_T {X : FT} {P : List Fn} (hX : FTI X) : ∀ k, FTI (runX X (bodies P) k)
  | 0 => fun _ _ _ => rfl
  | k + 1 => fun i ds T => by
    have ih := runX_T (P := P) hX k
    unfold runX
    have hx := hX i ds T
    rw [hx]
    cases e : X i ds none with
    | stuck =>
      show (match (bodies P)[i]? with | some (.body b) => runB (runX X (bodies P) k) b ds T | some (.prim p) => p ds T | none => .stuck) = atF T (match (bodies P)[i]? with | some (.body b) => runB (runX X (bodies P) k) b ds none | some (.prim p) => p ds none | none => .stuck)
      rw [bodies_get]
      cases P[i]? with
      | none => rfl
      | some f =>
        cases f with
        | body b => exact runB_T ih b ds T
        | prim p => rfl
    | ok d fr T' => rfl
    | exc c T' => rfl
theorem bodies_le {X : FT} {P : List Fn} : ∀ k, FLe (runX X (bodies P) k) (runX X P k)
  | 0 => fun _ _ _ => .inl rfl
  | k + 1 => fun i ds T => by
    have ih := bodies_le (X := X) (P := P) k
    unfold runX
    cases e : X i ds T with
    | stuck =>
      show (match (bodies P)[i]? with | some (.body b) => runB (runX X (bodies P) k) b ds T | some (.prim p) => p ds T | none => .stuck) = .stuck ∨ (match (bodies P)[i]? with | some (.body b) => runB (runX X (bodies P) k) b ds T | some (.prim p) => p ds T | none => .stuck) = (match P[i]? with | some (.body b) => runB (runX X P k) b ds T | some (.prim p) => p ds T | none => .stuck)
      rw [bodies_get]
      cases P[i]? with
      | none => exact .inl rfl
      | some f =>
        cases f with
        | body b => exact runB_le ih b ds T
        | prim p => exact .inl rfl
    | ok d fr T' => exact .inr rfl
    | exc c T' => exact .inr rfl
theorem fact_ok {X : FT} {P : List Fn} {n k : Nat} (hX : FTI X) (hl : FLe X (run P n)) {i : Nat} {ds : List D} {d : D} {fr : Bool} {T0 : TP} (e : runX X (bodies P) k i ds none = .ok d fr T0) {m : Nat} (hm : n + k ≤ m) (T : TP) : run P m i ds T = .ok d fr T := by
  have h1 : FLe (runX X (bodies P) k) (run P (n + k)) := (bodies_le k).trans (runX_le hl k)
  obtain ⟨j, rfl⟩ : ∃ j, m = (n + k) + j := ⟨m - (n + k), by omega⟩
  have h2 := h1.trans (run_le P (n + k) j)
  have h3 := runX_T (P := P) hX k i ds T
  rw [e] at h3
  exact fn_found h2 h3 (by intro q; cases q)
end Vf
namespace HL
open PySem PySem.Spec PyProof.Rows L2 Vf

def insB {α : Type} (le : α → α → Bool) (a : α) : List α → List α
  | [] => [a]
  | b :: r => if le a b then a :: b :: r else b :: insB le a r
def sortB' {α : Type} (le : α → α → Bool) : List α → List α
  | [] => []
  | a :: r => insB le a (sortB' le r)
theorem insB_split {α : Type} {le : α → α → Bool} {a : α} : ∀ {l1 l2 : List α}, (∀ b ∈ l1, le a b = false) → (∀ b ∈ l2, le a b = true) → insB le a (l1 ++ l2) = l1 ++ a :: l2
  | [], [], _, _ => rfl
  | [], b :: r, _, h => by
    show (if le a b then a :: b :: r else _) = _
    rw [if_pos (h b (List.mem_cons_self ..))]
    rfl
  | c :: l1, l2, h1, h2 => by
    show (if le a c then _ else c :: insB le a (l1 ++ l2)) = _
    rw [if_neg (by rw [h1 c (List.mem_cons_self ..)]; exact Bool.false_ne_true), insB_split (fun b hb => h1 b (List.mem_cons_of_mem _ hb)) h2]
    rfl
theorem sort_ins {α : Type} {le : α → α → Bool} (t : ∀ a b c, le a b = true → le b c = true → le a c = true) (o : ∀ a b, (le a b || le b a) = true) : ∀ l : List α, l.mergeSort le = sortB' le l
  | [] => by simp [sortB']
  | a :: r => by
    obtain ⟨l1, l2, e1, e2, h⟩ := List.mergeSort_cons t o a r
    have hp := List.pairwise_mergeSort t o (a :: r)
    rw [e1] at hp
    show _ = insB le a (sortB' le r)
    rw [← sort_ins t o r, e1, e2]
    refine (insB_split (fun b hb => ?_) fun b hb => ?_).symm
    · have := h b hb
      simpa using this
    · have := (List.pairwise_append.mp hp).2.1
      exact (List.pairwise_cons.mp this).1 b hb
theorem sortW_ins (ws : List (List Int)) : sortW ws = sortB' (PySem.W.dataLe false wkey) ws := by
  have T := PySem.W.sortLe_total (PyProof.Rows.listOrd PyProof.Rows.itemOrd) false fun b : List Int => PySem.W.keyToks (wkey b)
  refine sort_ins (fun a b c => T.trans a b c) (fun a b => ?_) ws
  rcases T.total a b with h | h
  · exact Bool.or_eq_true_iff.mpr (.inl h)
  · exact Bool.or_eq_true_iff.mpr (.inr h)
abbrev Tm := List Int × Bool × Q
def tmD (t : Tm) : D := .tup [wordD t.1, kD t.2.1 t.2.2]
def gget (w : List Int) : List Tm → Option (Bool × Q)
  | [] => none
  | (v, x) :: r => if v = w then some x else gget w r
def grep (w : List Int) (x : Bool × Q) (r : List Tm) : List Tm := r.map fun p => if p.1 = w then (p.1, x) else p
def gset (w : List Int) (x : Bool × Q) : List Tm → List Tm
  | [] => [(w, x)]
  | (v, y) :: r => if v = w then (v, x) :: grep w x r else (v, y) :: gset w x r
def gstep (A : List Tm) (t : Tm) : Option (List Tm) := match gget t.1 A with
  | some (_, q) => (addQ q t.2.2).map fun r => gset t.1 (false, r) A
  | none => some (gset t.1 t.2 A)
def gall : List Tm → List Tm → Option (List Tm)
  | A, [] => some A
  | A, t :: r => (gstep A t).bind fun B => gall B r
def gout (A : List Tm) : List (List Int) → Option (List Tm)
  | [] => some []
  | w :: r => (gget w A).bind fun x => (gout A r).map fun o => if x.2 = (0, 1) then o else (w, x) :: o
def gath (ts : List Tm) : Option (List Tm) := if ts.length ≤ 1000000 then (gall [] ts).bind fun A => (gout A (sortB' (PySem.W.dataLe false wkey) (A.map (·.1)))).bind fun o => if o.length ≤ 6000 then some o else none else none
def kvsOf (A : List Tm) : List (D × D) := A.map fun p => (wordD p.1, kD p.2.1 p.2.2)
theorem keysD_int : ∀ w : List Int, keysD (w.map .int) = some (w.map .inl)
  | [] => rfl
  | a :: r => by
    have h := keysD_int r
    rw [List.map_cons, List.map_cons]
    unfold keysD
    rw [h]
    rfl
theorem dkey_w (w : List Int) : dkey true (wordD w) = some (.inr (w.map .inl)) := by
  have h := keysD_int w
  exact congrArg (Option.map Sum.inr) h
theorem map_inl : ∀ {w v : List Int}, (v.map Sum.inl : List Key) = w.map .inl → v = w
  | [], [], _ => rfl
  | [], _ :: _, h => by cases h
  | _ :: _, [], h => by cases h
  | a :: w, b :: v, h => by
    rw [List.map_cons, List.map_cons] at h
    injection h with h1 h2
    injection h1 with h1
    rw [h1, map_inl h2]
theorem inl_inj {w v : List Int} : (some (Sum.inr (v.map Sum.inl)) : Option (Key ⊕ List Key)) = some (.inr (w.map .inl)) ↔ v = w := by
  constructor
  · intro h
    have h2 : (v.map Sum.inl : List Key) = w.map .inl := by injection h with h; injection h
    exact map_inl h2
  · rintro rfl; rfl
theorem dget_w (w : List Int) : ∀ A : List Tm, dget true (.inr (w.map .inl)) (kvsOf A) = (gget w A).map fun x => kD x.1 x.2
  | [] => rfl
  | (v, x) :: r => by
    show (if dkey true (wordD v) = _ then _ else dget true _ (kvsOf r)) = Option.map _ (if v = w then _ else gget w r)
    rw [dkey_w]
    by_cases h : v = w
    · rw [if_pos (inl_inj.mpr h), if_pos h]; rfl
    · rw [if_neg (fun e => h (inl_inj.mp e)), if_neg h, dget_w w r]
theorem drep_w (w : List Int) (x : Bool × Q) (A : List Tm) : drep true (.inr (w.map .inl)) (kD x.1 x.2) (kvsOf A) = kvsOf (grep w x A) := by
  unfold drep grep kvsOf
  rw [List.map_map, List.map_map]
  refine List.map_congr_left fun p _ => ?_
  show (if dkey true (wordD p.1) = _ then _ else _) = _
  rw [dkey_w]
  by_cases h : p.1 = w
  · rw [if_pos (inl_inj.mpr h)]; show _ = (wordD (if p.1 = w then (p.1, x) else p).1, kD (if p.1 = w then (p.1, x) else p).2.1 (if p.1 = w then (p.1, x) else p).2.2); rw [if_pos h]
  · rw [if_neg (fun e => h (inl_inj.mp e))]; show _ = (wordD (if p.1 = w then (p.1, x) else p).1, kD (if p.1 = w then (p.1, x) else p).2.1 (if p.1 = w then (p.1, x) else p).2.2); rw [if_neg h]
theorem dput_w (w : List Int) (x : Bool × Q) : ∀ A : List Tm, dput true (.inr (w.map .inl)) (wordD w) (kD x.1 x.2) (kvsOf A) = kvsOf (gset w x A)
  | [] => rfl
  | (v, y) :: r => by
    show (if dkey true (wordD v) = _ then _ else _ :: dput true _ _ _ (kvsOf r)) = kvsOf (if v = w then _ else _ :: gset w x r)
    rw [dkey_w]
    by_cases h : v = w
    · rw [if_pos (inl_inj.mpr h), if_pos h]
      show _ :: drep true _ _ (kvsOf r) = _
      rw [drep_w]; rfl
    · rw [if_neg (fun e => h (inl_inj.mp e)), if_neg h, dput_w w x r]; rfl
theorem gset_len (w : List Int) (x : Bool × Q) : ∀ A : List Tm, (gset w x A).length ≤ A.length + 1
  | [] => Nat.le_refl _
  | (v, y) :: r => by
    unfold gset
    split
    · unfold grep; simp
    · have := gset_len w x r
      simp only [List.length_cons]
      omega
theorem gstep_len {A B : List Tm} {t : Tm} (h : gstep A t = some B) : B.length ≤ A.length + 1 := by
  unfold gstep at h
  split at h
  · cases e : addQ _ t.2.2 with
    | none => rw [e] at h; cases h
    | some r => rw [e] at h; cases h; exact gset_len _ _ _
  · cases h; exact gset_len _ _ _
theorem gall_len : ∀ {ts : List Tm} {A B : List Tm}, gall A ts = some B → B.length ≤ A.length + ts.length
  | [], A, B, h => by cases h; exact Nat.le_refl _
  | t :: r, A, B, h => by
    unfold gall at h
    cases e : gstep A t with
    | none => rw [e] at h; cases h
    | some C =>
      rw [e] at h
      have h1 := gstep_len e
      have h2 := gall_len h
      rw [List.length_cons]
      omega
theorem eqZ (k : Bool) (q : Q) : Vf.eqD (kD k q) (.ktup [.int 0, .int 1]) = some (decide (q = (0, 1))) := by
  have h : PyData.eqv (.tuple [.int q.1, .int q.2]) (.tuple [.int 0, .int 1]) = decide (q = (0, 1)) := by
    obtain ⟨a, b⟩ := q
    simp only [PyData.eqv, PyData.eqvAll, Prod.mk.injEq]
    by_cases h1 : a = 0 <;> by_cases h2 : b = 1 <;> simp [h1, h2]
  cases k
  · show (if okD 60 (.tup [.int q.1, .int q.2]) && okD 60 (.ktup [.int 0, .int 1]) then some (PyData.eqv _ _) else none) = _
    exact (if_pos rfl).trans (congrArg some h)
  · show (if okD 60 (.ktup [.int q.1, .int q.2]) && okD 60 (.ktup [.int 0, .int 1]) then some (PyData.eqv _ _) else none) = _
    exact (if_pos rfl).trans (congrArg some h)
theorem in_w (w : List Int) (A : List Tm) : inD (wordD w) (.dic true (kvsOf A)) = some (gget w A).isSome := by
  show (dkey true (wordD w)).map _ = _
  rw [dkey_w]
  show some (dget true _ (kvsOf A)).isSome = _
  rw [dget_w, Option.isSome_map]
theorem idx_w {w : List Int} {A : List Tm} {x : Bool × Q} (h : gget w A = some x) : idxD (.dic true (kvsOf A)) (wordD w) = some (kD x.1 x.2, false) := by
  show (dkey true (wordD w)).bind _ = _
  rw [dkey_w]
  show (dget true _ (kvsOf A)).map _ = _
  rw [dget_w, h]
  rfl
theorem put_w (w : List Int) (A : List Tm) (x : Bool × Q) (hA : A.length < 16000000) : setAt (.dic true (kvsOf A)) (wordD w) (kD x.1 x.2) = some (.dic true (kvsOf (gset w x A))) := by
  show (dkey true (wordD w)).bind _ = _
  rw [dkey_w]
  show (if (kvsOf A).length < 16000000 then _ else _) = _
  have : (kvsOf A).length = A.length := List.length_map ..
  rw [if_pos (by omega), dput_w]
abbrev GP : Sxs := .cons (.put 1 (.var 2) (.ite (.prim (.cmp .In) (.cons (.var 2) (.cons (.var 1) .nil))) (.call 5 (.cons (.prim .idx (.cons (.var 1) (.cons (.var 2) .nil))) (.cons (.var 3) .nil))) (.var 3))) .nil
theorem gath_turn {F : FT} {T : Vf.TP} (hF : ∀ (p q r : Q) k1 k2, addQ p q = some r → F 5 [kD k1 p, kD k2 q] T = .ok (qD r) false T) {A B : List Tm} {t : Tm} {d : D} (hA : A.length < 16000000) (h : gstep A t = some B) :
    evSs F GP ⟨[some (false, d), some (true, .dic true (kvsOf A)), some (false, wordD t.1), some (false, kD t.2.1 t.2.2), none], T⟩ = .ok .nx ⟨[some (false, d), some (true, .dic true (kvsOf B)), some (false, wordD t.1), some (false, kD t.2.1 t.2.2), none], T⟩ := by
  have h1 := in_w t.1 A
  unfold gstep at h
  split at h
  · rename_i k q hg
    rw [hg] at h1
    have h2 := idx_w hg
    cases e : addQ q t.2.2 with
    | none => rw [e] at h; cases h
    | some r =>
      rw [e] at h
      cases h
      have h3 := hF _ _ _ k t.2.1 e
      have h4 := put_w t.1 A (false, r) hA
      have h5 : kD false r = qD r := rfl
      rw [h5] at h4
      dsimp! [h1, h2, h3, h4, Option.isSome_some]
  · rename_i hg
    cases h
    rw [hg] at h1
    have h4 := put_w t.1 A t.2 hA
    dsimp! [h1, h4, Option.isSome_none]
theorem gath_loop {F : FT} {T : Vf.TP} (hF : ∀ (p q r : Q) k1 k2, addQ p q = some r → F 5 [kD k1 p, kD k2 q] T = .ok (qD r) false T) {d : D} : ∀ (ts : List Tm) (A B : List Tm) (x y : Option (Bool × D)), A.length + ts.length < 16000000 → gall A ts = some B →
    ∃ x' y', forL [2, 3] (evSs F GP) (ts.map tmD) ⟨[some (false, d), some (true, .dic true (kvsOf A)), x, y, none], T⟩ = .ok .nx ⟨[some (false, d), some (true, .dic true (kvsOf B)), x', y', none], T⟩ ∧ (x = none ∨ (∃ e, x = some (false, e)) → x' = none ∨ (∃ e, x' = some (false, e)))
  | [], A, B, x, y, _, h => by
    cases h
    exact ⟨x, y, rfl, id⟩
  | t :: r, A, B, x, y, hl, h => by
    unfold gall at h
    cases e : gstep A t with
    | none => rw [e] at h; cases h
    | some C =>
      rw [e] at h
      have hC := gstep_len e
      rw [List.length_cons] at hl
      obtain ⟨x', y', g, gx⟩ := gath_loop hF (d := d) r C B (some (false, wordD t.1)) (some (false, kD t.2.1 t.2.2)) (by omega) h
      refine ⟨x', y', for_cons (s1 := ⟨[some (false, d), some (true, .dic true (kvsOf A)), some (false, wordD t.1), some (false, kD t.2.1 t.2.2), none], T⟩) ?_ (gath_turn hF (by omega) e) g, fun _ => gx (.inr ⟨_, rfl⟩)⟩
      rw [tmD]
      dsimp!
theorem words_ok : ∀ ws : List (List Int), wordsD (ws.map wordD) = some ws
  | [] => rfl
  | w :: r => by
    have h := words_ok r
    have hi : ∀ w : List Int, intsD (w.map .int) = some w := fun w => by
      induction w with
      | nil => rfl
      | cons a r ih => rw [List.map_cons]; unfold intsD; rw [ih]; rfl
    rw [List.map_cons]
    unfold wordD
    unfold wordsD
    have h' := h
    unfold wordD at h'
    rw [hi, h']
theorem sort_ok (A : List Tm) (h : A.length < 16000000) : sortkD (.dic true (kvsOf A)) = some (.lst ((sortB' (PySem.W.dataLe false wkey) (A.map (·.1))).map wordD), true) := by
  have h1 : (kvsOf A).map (·.1) = (A.map (·.1)).map wordD := by unfold kvsOf; rw [List.map_map, List.map_map]; rfl
  show (some ((kvsOf A).map (·.1))).bind _ = _
  show (wordsD ((kvsOf A).map (·.1))).bind _ = _
  rw [h1, words_ok]
  show (if fits (A.map (·.1)).length then _ else _) = _
  have h2 : fits (A.map (·.1)).length = true := decide_eq_true (by rw [List.length_map]; show A.length ≤ 2 ^ 24; omega)
  rw [if_pos h2, sortW_ins]
theorem gout_loop {F : FT} {T : Vf.TP} {d : D} {A : List Tm} {y : Option (Bool × D)} {fb : Bool} : ∀ (ws : List (List Int)) (o : List Tm), gout A ws = some o →
    compL [2] [2] (bnd (evE F (.prim (.cmp .NotEq) (.cons (.prim .idx (.cons (.var 1) (.cons (.var 2) .nil))) (.cons (.glo "ZERO" (.ktup [(.int (0)), (.int (1))])) .nil)))) Vf.isB) (evE F (.tup (.cons (.var 2) (.cons (.prim .idx (.cons (.var 1) (.cons (.var 2) .nil))) .nil)))) (ws.map wordD)
      ⟨[some (false, d), some (fb, .dic true (kvsOf A)), none, y, none], T⟩ = .ok (o.map tmD) ⟨[some (false, d), some (fb, .dic true (kvsOf A)), none, y, none], T⟩
  | [], o, h => by cases h; rfl
  | w :: r, o, h => by
    unfold gout at h
    cases e : gget w A with
    | none => rw [e] at h; cases h
    | some x =>
      rw [e] at h
      cases e2 : gout A r with
      | none => rw [e2] at h; cases h
      | some o2 =>
        rw [e2] at h
        have ih := gout_loop (F := F) (T := T) (d := d) (y := y) (fb := fb) r o2 e2
        have h2 := idx_w e
        have h3 := eqZ x.1 x.2
        have hf : fits 2 = true := by decide
        have h' : (if x.2 = (0, 1) then o2 else (w, x) :: o2) = o := Option.some.inj h
        by_cases hx : x.2 = (0, 1)
        · rw [if_pos hx] at h'
          subst h'
          rw [decide_eq_true hx] at h3
          rw [List.map_cons]
          refine comp_no (s1 := ⟨[some (false, d), some (fb, .dic true (kvsOf A)), some (false, wordD w), y, none], T⟩) (s2 := ⟨[some (false, d), some (fb, .dic true (kvsOf A)), some (false, wordD w), y, none], T⟩) ?_ ?_ ih
          · dsimp!
          · dsimp! [h2, h3]
        · rw [if_neg hx] at h'
          subst h'
          rw [decide_eq_false hx] at h3
          rw [List.map_cons]
          refine comp_yes (x := (tmD (w, x), false)) (s1 := ⟨[some (false, d), some (fb, .dic true (kvsOf A)), some (false, wordD w), y, none], T⟩) (s2 := ⟨[some (false, d), some (fb, .dic true (kvsOf A)), some (false, wordD w), y, none], T⟩) (s3 := ⟨[some (false, d), some (fb, .dic true (kvsOf A)), some (false, wordD w), y, none], T⟩) ?_ ?_ ?_ ih
          · dsimp!
          · dsimp! [h2, h3]
          · dsimp! [h2, hf, tmD]
theorem gath_ok {F : FT} {T : Vf.TP} (hF : ∀ (p q r : Q) k1 k2, addQ p q = some r → F 5 [kD k1 p, kD k2 q] T = .ok (qD r) false T) {ts o : List Tm} (h : gath ts = some o) {d : D} (hd : seqOf d = some (ts.map tmD)) : runB F b_gathered [d] T = .ok (.tup (o.map tmD)) false T := by
  unfold gath at h
  split at h
  · rename_i hl
    cases e : gall [] ts with
    | none => rw [e] at h; cases h
    | some A =>
      rw [e] at h
      change ((gout A (sortB' (PySem.W.dataLe false wkey) (A.map (·.1)))).bind fun o => _) = _ at h
      cases e2 : gout A (sortB' (PySem.W.dataLe false wkey) (A.map (·.1))) with
      | none => rw [e2] at h; cases h
      | some o2 =>
        rw [e2] at h
        change (if o2.length ≤ 6000 then some o2 else none) = some o at h
        split at h
        · rename_i hl2
          cases h
          obtain ⟨x', y', g, gx⟩ := gath_loop hF (d := d) ts [] A none none (by simp only [List.length_nil]; omega) e
          have hx : ∀ i : Nat, i = 2 → noOwned [2] ⟨[some (false, d), some (false, .dic true (kvsOf A)), x', y', none], T⟩ = true := fun _ _ => by
            rcases gx (.inl rfl) with h | ⟨e, h⟩ <;> subst h <;> rfl
          have hA := gall_len e
          rw [List.length_nil] at hA
          have h6 := sort_ok A (by omega)
          have h7 := gout_loop (F := F) (T := T) (d := d) (y := y') (fb := false) _ _ e2
          have hfit : fits (o.map tmD).length = true := decide_eq_true (by rw [List.length_map]; show o.length ≤ 2 ^ 24; omega)
          have hb : backS [2] ⟨[some (false, d), some (false, .dic true (kvsOf A)), x', y', none], T⟩ ⟨[some (false, d), some (false, .dic true (kvsOf A)), none, y', none], T⟩ = ⟨[some (false, d), some (false, .dic true (kvsOf A)), x', y', none], T⟩ := by
            rcases gx (.inl rfl) with h | ⟨e, h⟩ <;> subst h <;> rfl
          have hc := ev_comp1 (F := F) (own := [2]) (tg := [2]) (it := .ex (.sortk (.var 1) 12)) (s := ⟨[some (false, d), some (true, .dic true (kvsOf A)), x', y', none], T⟩) (s0 := ⟨[some (false, d), some (false, .dic true (kvsOf A)), x', y', none], T⟩) (by
            dsimp! [h6]) (hx 2 rfl) h7 hfit
          rw [hb] at hc
          have hl3 : ¬ (6000 : Int) < (o.map tmD).length := by rw [List.length_map]; omega
          refine rb_rt rfl (st_cons (s1 := ⟨[some (false, d), some (true, .dic true (kvsOf [])), none, none, none], T⟩) ?_ (st_cons (st_for (s0 := ⟨[some (false, d), some (true, .dic true (kvsOf [])), none, none, none], T⟩) (ds := ts.map tmD) ?_ g)
            (st_cons (st_set (ev_blt1 (fun _ h => by cases h) hc rfl)) (st_cons (s1 := ⟨[some (false, d), some (false, .dic true (kvsOf A)), x', y', some (false, .tup (o.map tmD))], T⟩) ?_ (st_last (s1 := ⟨[some (false, d), some (false, .dic true (kvsOf A)), x', y', none], T⟩) ?_))))) rfl
          · dsimp! [b_gathered]; rfl
          · dsimp! [hd]
          · dsimp! [hl3]
          · dsimp!
        · cases h
  · cases h
theorem ints_eq : ∀ {ds : List D} {w : List Int}, intsD ds = some w → ds = w.map .int
  | [], w, h => by cases h; rfl
  | .int i :: r, w, h => by
    change (intsD r).map (i :: ·) = some w at h
    cases e : intsD r with
    | none => rw [e] at h; cases h
    | some v => rw [e] at h; cases h; rw [ints_eq e]; rfl
def asTm : D → Option Tm
  | .tup [.tup xs, y] => (intsD xs).bind fun w => (asQ y).map fun p => (w, p)
  | _ => none
def asTms : List D → Option (List Tm)
  | [] => some []
  | d :: r => (asTm d).bind fun t => (asTms r).map fun ts => t :: ts
theorem asTm_eq {d : D} {t : Tm} (h : asTm d = some t) : d = tmD t := by
  unfold asTm at h
  split at h
  · rename_i xs y
    cases e : intsD xs with
    | none => rw [e] at h; cases h
    | some w =>
      rw [e] at h
      change (asQ y).map _ = _ at h
      cases e2 : asQ y with
      | none => rw [e2] at h; cases h
      | some p =>
        rw [e2] at h
        cases h
        rw [ints_eq e, asQ_k (k := p.1) (q := p.2) e2]
        rfl
  · cases h
theorem asTms_eq : ∀ {ds : List D} {ts : List Tm}, asTms ds = some ts → ds = ts.map tmD
  | [], ts, h => by cases h; rfl
  | d :: r, ts, h => by
    unfold asTms at h
    cases e : asTm d with
    | none => rw [e] at h; cases h
    | some t =>
      rw [e] at h
      change (asTms r).map _ = _ at h
      cases e2 : asTms r with
      | none => rw [e2] at h; cases h
      | some v => rw [e2] at h; cases h; rw [asTm_eq e, asTms_eq e2]; rfl
def onG (ds : List D) (T : Vf.TP) : FRes := match ds with
  | [d] => (match (seqOf d).bind fun xs => (asTms xs).bind gath with
    | some o => .ok (.tup (o.map tmD)) false T
    | none => .stuck)
  | _ => .stuck
def Y : FT := fun i ds T => bif i.beq 13 then onG ds T else X i ds T
theorem Y_le : FLe Y (Vf.run Ps 5) := fun i ds T => by
  unfold Y
  cases e13 : Nat.beq i 13
  case false => exact (X_le.trans (run_step Ps 4)) i ds T
  case true =>
    cases Nat.eq_of_beq_eq_true e13
    show onG ds T = .stuck ∨ onG ds T = _
    unfold onG
    split
    · rename_i d
      split
      · rename_i o h
        cases e : seqOf d with
        | none => rw [e] at h; cases h
        | some xs =>
          rw [e] at h
          change (asTms xs).bind gath = some o at h
          cases e2 : asTms xs with
          | none => rw [e2] at h; cases h
          | some ts =>
            rw [e2] at h
            refine .inr ?_
            rw [run_body (f := b_gathered) rfl]
            refine (gath_ok (fun p q r k1 k2 h => ?_) h (by rw [e, asTms_eq e2])).symm
            rw [run_body (f := b_add_ratios) rfl]
            exact r_add (k_make T 1) k1 k2 h
      · exact .inl rfl
    · exact .inl rfl
theorem onQ_T {f : Q → Q → Option Q} (ds : List D) (T : Vf.TP) : onQ f ds T = atF T (onQ f ds none) := by
  unfold onQ
  repeat' split
  all_goals rfl
theorem onI_T {f : Int → Int → Option D} (ds : List D) (T : Vf.TP) : onI f ds T = atF T (onI f ds none) := by
  unfold onI
  repeat' split
  all_goals rfl
theorem onG_T (ds : List D) (T : Vf.TP) : onG ds T = atF T (onG ds none) := by
  unfold onG
  repeat' split
  all_goals rfl
theorem cond_T {b : Bool} {x y x' y' : FRes} {T : Vf.TP} (h : x = atF T x') (g : y = atF T y') : (bif b then x else y) = atF T (bif b then x' else y') := by
  cases b
  · exact g
  · exact h
theorem Y_T : FTI Y := fun i ds T => by
  unfold Y X
  refine cond_T (onG_T ds T) (cond_T (onI_T ds T) (cond_T (onI_T ds T) (cond_T (onQ_T ds T) (cond_T (onQ_T ds T) (cond_T (onQ_T ds T) (cond_T (onQ_T ds T) (cond_T (onQ_T ds T) (cond_T (onQ_T ds T) rfl))))))))
def E : FT := runX Y (bodies Ps) 12
theorem E_fact {i : Nat} {ds : List D} {d : D} {fr : Bool} {T0 : Vf.TP} (e : E i ds none = .ok d fr T0) {m : Nat} (hm : 17 ≤ m) (T : Vf.TP) : Vf.run Ps m i ds T = .ok d fr T := fact_ok (n := 5) (k := 12) Y_T Y_le e hm T
end HL
namespace HL
open PySem PySem.Spec PyProof.Rows L2 Vf

def iD (w : List Int) : List D := w.map .int
theorem rep_one (d : D) : ∀ n, Vf.rep [d] n = List.replicate n d
  | 0 => rfl
  | n + 1 => by
    unfold Vf.rep
    rw [rep_one d n]
    rfl
def wof (f : Int) : List Nat → List Int
  | [] => []
  | n :: r => List.replicate n f ++ wof (1 - f) r
theorem wof_len : ∀ (f : Int) (rs : List Nat), (wof f rs).length = rs.sum
  | _, [] => rfl
  | f, n :: r => by
    unfold wof
    rw [List.length_append, List.length_replicate, wof_len (1 - f) r, List.sum_cons]
abbrev WB : Sxs := .cons (.par [2, 3] (.cons (.prim (.bin .Add) (.cons (.var 2) (.cons (.prim (.bin .Mult) (.cons (.tup (.cons (.var 3) .nil)) (.cons (.var 4) .nil))) .nil))) (.cons (.prim (.bin .Sub) (.cons (.cst (.int (1))) (.cons (.var 3) .nil))) .nil))) .nil
theorem word_loop {F : FT} {T : Vf.TP} {a b : Option (Bool × D)} : ∀ (rs : List Nat) (l : Int) (acc : List Int) (z : Option (Bool × D)), (∀ n ∈ rs, 1 ≤ n ∧ n ≤ 4) → acc.length + rs.sum ≤ 1000000 →
    ∃ l' z', forL [4] (evSs F WB) (rs.map fun n => .int (n : Nat)) ⟨[a, b, some (false, .tup (iD acc)), some (false, .int l), z], T⟩ = .ok .nx ⟨[a, b, some (false, .tup (iD (acc ++ wof l rs))), l', z'], T⟩
  | [], l, acc, z, _, _ => ⟨_, z, by rw [show wof l [] = [] from rfl, List.append_nil]; rfl⟩
  | n :: r, l, acc, z, h, hl => by
    obtain ⟨h1, h2⟩ := h n (List.mem_cons_self ..)
    rw [List.sum_cons] at hl
    obtain ⟨l', z', ih⟩ := word_loop (F := F) (T := T) (a := a) (b := b) r (1 - l) (acc ++ List.replicate n l) (some (false, .int (n : Nat))) (fun m hm => h m (List.mem_cons_of_mem _ hm)) (by rw [List.length_append, List.length_replicate]; omega)
    refine ⟨l', z', ?_⟩
    rw [List.map_cons]
    have e1 : (decide (1 ≤ (n : Int)) && decide ((n : Int) ≤ 1000) && decide (1 ≤ 1000)) = true := by simp; omega
    have e2 : fits ((iD acc).length + (List.replicate n (D.int l)).length) = true := decide_eq_true (by rw [List.length_replicate]; unfold iD; rw [List.length_map]; show _ ≤ 2 ^ 24; omega)
    have e3 : iD acc ++ List.replicate n (D.int l) = iD (acc ++ List.replicate n l) := by unfold iD; rw [List.map_append, List.map_replicate]
    have e4 : fits 1 = true := by decide
    have e5 : ((n : Int)).toNat = n := by omega
    refine for_cons (s1 := ⟨[a, b, some (false, .tup (iD acc)), some (false, .int l), some (false, .int (n : Nat))], T⟩) (s2 := ⟨[a, b, some (false, .tup (iD (acc ++ List.replicate n l))), some (false, .int (1 - l)), some (false, .int (n : Nat))], T⟩) ?_ ?_ ?_
    · dsimp!
    · dsimp! [e1, e4, rep_one, e5, e2, e3]
    · rw [ih, List.append_assoc]
      rfl
theorem r_word {F : FT} {T : Vf.TP} (rs : List Nat) (f : Int) (h : ∀ n ∈ rs, 1 ≤ n ∧ n ≤ 4) (hl : rs.sum ≤ 1000000) : runB F b__law_word [.int f, .lst (rs.map fun n => .int (n : Nat))] T = .ok (wordD (wof f rs)) false T := by
  obtain ⟨l', z', e⟩ := word_loop (F := F) (T := T) (a := some (false, .int f)) (b := some (false, .lst (rs.map fun n => .int (n : Nat)))) rs f [] none h (by simpa using hl)
  refine rb_rt rfl (st_cons (s1 := ⟨[some (false, .int f), some (false, .lst (rs.map fun n => .int (n : Nat))), some (false, .tup (iD [])), some (false, .int f), none], T⟩) ?_ (st_cons (st_for (s0 := ⟨[some (false, .int f), some (false, .lst (rs.map fun n => .int (n : Nat))), some (false, .tup (iD [])), some (false, .int f), none], T⟩) ?_ e) (st_last (s1 := ⟨[some (false, .int f), some (false, .lst (rs.map fun n => .int (n : Nat))), none, l', z'], T⟩) ?_))) rfl
  · dsimp! [b__law_word]
    rfl
  · dsimp!
  · rw [List.nil_append]
    dsimp!
    rfl
theorem ints_iD : ∀ w : List Int, intsD (iD w) = some w
  | [] => rfl
  | a :: r => by
    have h := ints_iD r
    show intsD (.int a :: iD r) = _
    unfold intsD
    rw [h]
    rfl
theorem ok_iD : ∀ (w : List Int) (n : Nat), okDs n (iD w) = true
  | [], n => by unfold iD okDs; rfl
  | a :: r, n => by
    have h := ok_iD r n
    show okDs n (.int a :: iD r) = true
    unfold okDs okD
    rw [h]
    rfl
theorem bls_rep (b : Bool) : ∀ n, blsD (List.replicate n (.bl b)) = some (List.replicate n b)
  | 0 => rfl
  | n + 1 => by
    have h := bls_rep b n
    rw [List.replicate_succ, List.replicate_succ]
    unfold blsD
    rw [h]
    rfl
theorem all_rep : ∀ n, (List.replicate n true).all id = true
  | 0 => rfl
  | n + 1 => by rw [List.replicate_succ]; exact all_rep n
theorem any_rep : ∀ n, (List.replicate n false).any id = false
  | 0 => rfl
  | n + 1 => by rw [List.replicate_succ]; exact any_rep n
theorem isw_comp {F : FT} {T : Vf.TP} {d : D} (h0 : ∀ i : Int, F 0 [.int i] T = .ok (.bl true) false T) : ∀ w : List Int, (∀ x ∈ w, 0 ≤ x ∧ x < 9) →
    compL [1] [1] (Vf.ret true) (evE F (.and (.call 0 (.cons (.var 1) .nil)) (.and (.prim (.cmp .LtE) (.cons (.cst (.int (0))) (.cons (.var 1) .nil))) (.prim (.cmp .Lt) (.cons (.var 1) (.cons (.glo "MOST_LETTERS" (.int (9))) .nil)))))) (iD w) ⟨[some (false, d), none], T⟩ = .ok (List.replicate w.length (.bl true)) ⟨[some (false, d), none], T⟩
  | [], _ => rfl
  | x :: r, h => by
    obtain ⟨h1, h2⟩ := h x (List.mem_cons_self ..)
    have ih := isw_comp (F := F) (T := T) (d := d) h0 r (fun y hy => h y (List.mem_cons_of_mem _ hy))
    show compL _ _ _ _ (.int x :: iD r) _ = .ok (List.replicate (r.length + 1) _) _
    rw [List.replicate_succ]
    refine comp_yes (x := (.bl true, false)) (s1 := ⟨[some (false, d), some (false, .int x)], T⟩) (s2 := ⟨[some (false, d), some (false, .int x)], T⟩) (s3 := ⟨[some (false, d), some (false, .int x)], T⟩) ?_ rfl ?_ ih
    · dsimp!
    · dsimp! [h0, h1, h2]
theorem r_isword {F : FT} {T : Vf.TP} (h0 : ∀ i : Int, F 0 [.int i] T = .ok (.bl true) false T) (w : List Int) (h : ∀ x ∈ w, 0 ≤ x ∧ x < 9) (hl : w.length ≤ 60) : runB F b_is_word [wordD w] T = .ok (.bl true) false T := by
  have hc := ev_comp0 (F := F) (own := [1]) (tg := [1]) (it := .ex (.var 0)) (s := ⟨[some (false, wordD w), none], T⟩) (s0 := ⟨[some (false, wordD w), none], T⟩) (ds := iD w) (by unfold wordD iD; dsimp!) rfl (isw_comp h0 w h) (decide_eq_true (by rw [List.length_replicate]; show _ ≤ 2 ^ 24; omega))
  have hb := ev_blt1 (F := F) (p := .blt "all") (fun _ h => by cases h) hc (r := (.bl true, false)) (by
    show (blsD _).map _ = _
    rw [bls_rep]
    show some (D.bl (List.all _ id), false) = _
    rw [all_rep])
  have e1 : ¬ (60 : Int) < (w.map D.int).length := by rw [List.length_map]; omega
  refine rb_rt rfl (st_cons (s1 := ⟨[some (false, wordD w), none], T⟩) ?_ (st_last (st_ret (fun _ h => by cases h) hb))) rfl
  unfold wordD
  dsimp! [b_is_word, e1]
theorem r_checkword {F : FT} {T : Vf.TP} {d : D} (h8 : F 8 [d] T = .ok (.bl true) false T) : runB F b_check_word [d] T = .ok .non false T := by
  refine rb_nx rfl (st_cons (s1 := ⟨[some (false, d)], T⟩) ?_ st_end) rfl
  dsimp! [b_check_word, h8]
def blk : Option Int → List Int → List Int → List Int
  | _, acc, [] => acc
  | p, acc, x :: xs => if p = some x then blk (some x) (acc.dropLast ++ [acc.getLastD 0 + 1]) xs else blk (some x) (acc ++ [1]) xs
theorem blk_run (x : Int) : ∀ (n : Nat) (acc : List Int) (c : Int) (xs : List Int), blk (some x) (acc ++ [c]) (List.replicate n x ++ xs) = blk (some x) (acc ++ [c + n]) xs
  | 0, acc, c, xs => by simp
  | n + 1, acc, c, xs => by
    rw [List.replicate_succ, List.cons_append]
    rw [blk, if_pos rfl]
    have e : (acc ++ [c]).dropLast ++ [(acc ++ [c]).getLastD 0 + 1] = acc ++ [c + 1] := by simp
    have e2 : c + 1 + (n : Int) = c + ((n + 1 : Nat) : Int) := by omega
    rw [e, blk_run x n, e2]
theorem blk_wof : ∀ (rs : List Nat) (f : Int) (p : Option Int) (acc : List Int), (∀ n ∈ rs, 1 ≤ n) → (f = 0 ∨ f = 1) → p ≠ some f → blk p acc (wof f rs) = acc ++ rs.map Int.ofNat
  | [], f, p, acc, _, _, _ => by simp [wof, blk]
  | n :: r, f, p, acc, h, hf, hp => by
    have h1 := h n (List.mem_cons_self ..)
    obtain ⟨m, rfl⟩ : ∃ m, n = m + 1 := ⟨n - 1, by omega⟩
    unfold wof
    rw [List.replicate_succ, List.cons_append]
    rw [blk, if_neg hp, blk_run, blk_wof r (1 - f) (some f) _ (fun k hk => h k (List.mem_cons_of_mem _ hk)) (by omega) (by intro e; injection e; omega)]
    rw [List.map_cons, List.append_assoc]
    congr 2
    simp
    omega
end HL
namespace HL
open PySem PySem.Spec PyProof.Rows L2 Vf

abbrev KQ := Bool × Q
def kqD (x : KQ) : D := kD x.1 x.2
def kqs (p : List KQ) : List D := p.map kqD
def nthK : List KQ → Nat → Option KQ
  | [], _ => none
  | a :: _, 0 => some a
  | _ :: r, n + 1 => nthK r n
def setK : List KQ → Nat → KQ → List KQ
  | [], _, _ => []
  | _ :: r, 0, x => x :: r
  | a :: r, n + 1, x => a :: setK r n x
theorem nthK_eq : ∀ (l : List KQ) (n : Nat), nthK l n = l[n]?
  | [], n => by cases n <;> rfl
  | a :: r, 0 => rfl
  | a :: r, n + 1 => by show nthK r n = _; rw [nthK_eq r n, List.getElem?_cons_succ]
theorem setK_eq : ∀ (l : List KQ) (n : Nat) (x : KQ), setK l n x = l.set n x
  | [], n, x => by cases n <;> rfl
  | a :: r, 0, x => rfl
  | a :: r, n + 1, x => by show a :: setK r n x = _; rw [setK_eq r n x]; rfl
def tin (k : Nat) (l : KQ) : List KQ → Nat → List KQ → Option (List KQ)
  | acc, _, [] => some acc
  | acc, j, r :: rs => (mulQ l.2 r.2).bind fun m => (nthK acc (k + j)).bind fun a => (addQ a.2 m).bind fun x => tin k l (setK acc (k + j) (false, x)) (j + 1) rs
def tout (o : List KQ) : List KQ → Nat → List KQ → Option (List KQ)
  | acc, _, [] => some acc
  | acc, k, l :: ls => (tin k l acc 0 o).bind fun a => tout o a (k + 1) ls
def tmul (k0 : Bool) (p o : List KQ) : Option (List KQ) := if p.length + o.length ≤ 1000 ∧ 1 ≤ p.length then tout o (List.replicate (p.length + o.length - 1) (k0, (0, 1))) 0 p else none
theorem idx_n {p : List KQ} {n : Nat} {a : KQ} (h : nthK p n = some a) : idxD (.lst (kqs p)) (.int (n : Nat)) = some (kqD a, false) ∧ idxD (.tup (kqs p)) (.int (n : Nat)) = some (kqD a, false) := by
  rw [nthK_eq] at h
  have h2 : at? ((n : Nat) : Int) (kqs p) = some (kqD a) := by
    refine atI_nat (j := n) ?_
    unfold kqs
    rw [List.getElem?_map, h]
    rfl
  constructor
  · show (at? _ (kqs p)).map _ = _
    rw [h2]; rfl
  · show (at? _ (kqs p)).map _ = _
    rw [h2]; rfl
theorem set_n {p : List KQ} {n : Nat} {a : KQ} (h : nthK p n = some a) (x : KQ) : setAt (.lst (kqs p)) (.int (n : Nat)) (kqD x) = some (.lst (kqs (setK p n x))) := by
  rw [nthK_eq] at h
  have hn : n < p.length := (List.getElem?_eq_some_iff.mp h).1
  show (ixN (kqs p).length _).map _ = _
  have e : ixN (kqs p).length ((n : Nat) : Int) = some n := by
    unfold ixN kqs
    rw [List.length_map, if_pos (by omega), if_pos (by omega)]
    simp
  rw [e, setK_eq]
  unfold kqs
  rw [List.map_set]
  rfl
abbrev TB : Sxs := .cons (.put 2 (.prim (.bin .Add) (.cons (.var 3) (.cons (.var 5) .nil))) (.call 5 (.cons (.prim .idx (.cons (.var 2) (.cons (.prim (.bin .Add) (.cons (.var 3) (.cons (.var 5) .nil))) .nil))) (.cons (.call 6 (.cons (.var 4) (.cons (.var 6) .nil))) .nil)))) .nil
section
variable {F : FT} {T : Vf.TP} (h5 : ∀ (p q r : Q) k1 k2, addQ p q = some r → F 5 [kD k1 p, kD k2 q] T = .ok (qD r) false T) (h6 : ∀ (p q r : Q) k1 k2, mulQ p q = some r → F 6 [kD k1 p, kD k2 q] T = .ok (qD r) false T)
include h5 h6
theorem tin_loop {a b : Option (Bool × D)} {k : Nat} {l : KQ} : ∀ (rs : List KQ) (acc out : List KQ) (j : Nat) (x y : Option (Bool × D)), tin k l acc j rs = some out →
    ∃ x' y', forL [5, 6] (evSs F TB) (enumD j (kqs rs)) ⟨[a, b, some (true, .lst (kqs acc)), some (false, .int k), some (false, kqD l), x, y], T⟩ = .ok .nx ⟨[a, b, some (true, .lst (kqs out)), some (false, .int k), some (false, kqD l), x', y'], T⟩
  | [], acc, out, j, x, y, h => by cases h; exact ⟨x, y, rfl⟩
  | r :: rs, acc, out, j, x, y, h => by
    unfold tin at h
    cases e1 : mulQ l.2 r.2 with
    | none => rw [e1] at h; cases h
    | some m =>
      rw [e1] at h
      change (nthK acc (k + j)).bind _ = _ at h
      cases e2 : nthK acc (k + j) with
      | none => rw [e2] at h; cases h
      | some c =>
        rw [e2] at h
        change (addQ c.2 m).bind _ = _ at h
        cases e3 : addQ c.2 m with
        | none => rw [e3] at h; cases h
        | some z =>
          rw [e3] at h
          obtain ⟨x', y', ih⟩ := tin_loop (a := a) (b := b) rs _ out (j + 1) (some (false, .int j)) (some (false, kqD r)) h
          refine ⟨x', y', ?_⟩
          show forL _ _ (.tup [.int j, kqD r] :: enumD (j + 1) (kqs rs)) _ = _
          have g1 := h6 _ _ _ l.1 r.1 e1
          have g2 := h5 _ _ _ c.1 false e3
          have g3 := (idx_n e2).1
          have g4 := set_n e2 (false, z)
          have e5 : (k : Int) + (j : Int) = ((k + j : Nat) : Int) := by omega
          have e6 : kqD l = kD l.1 l.2 := rfl
          have e7 : kqD r = kD r.1 r.2 := rfl
          have e8 : kqD c = kD c.1 c.2 := rfl
          have e9 : kqD (false, z) = qD z := rfl
          have e10 : kD false m = qD m := rfl
          rw [e10] at g2
          rw [e9] at g4
          refine for_cons (s1 := ⟨[a, b, some (true, .lst (kqs acc)), some (false, .int k), some (false, kqD l), some (false, .int j), some (false, kqD r)], T⟩) (s2 := ⟨[a, b, some (true, .lst (kqs (setK acc (k + j) (false, z)))), some (false, .int k), some (false, kqD l), some (false, .int j), some (false, kqD r)], T⟩) ?_ ?_ ih
          · dsimp!
          · dsimp! [e5, g3, e6, e7, g1, e8, g2, g4]
theorem tout_loop {a : Option (Bool × D)} {o : List KQ} : ∀ (ls : List KQ) (acc out : List KQ) (k : Nat) (u v x y : Option (Bool × D)) (fb : Bool), tout o acc k ls = some out →
    ∃ fb' u' v' x' y', forL [3, 4] (evSs F (.cons (.for_ [5, 6] (.enm (.var 1)) TB) .nil)) (enumD k (kqs ls)) ⟨[a, some (fb, .tup (kqs o)), some (true, .lst (kqs acc)), u, v, x, y], T⟩ = .ok .nx ⟨[a, some (fb', .tup (kqs o)), some (true, .lst (kqs out)), u', v', x', y'], T⟩
  | [], acc, out, k, u, v, x, y, fb, h => by cases h; exact ⟨fb, u, v, x, y, rfl⟩
  | l :: ls, acc, out, k, u, v, x, y, fb, h => by
    unfold tout at h
    cases e1 : tin k l acc 0 o with
    | none => rw [e1] at h; cases h
    | some c =>
      rw [e1] at h
      obtain ⟨x1, y1, g⟩ := tin_loop h5 h6 (a := a) (b := some (false, .tup (kqs o))) o acc c 0 x y e1
      obtain ⟨fb', u', v', x', y', ih⟩ := tout_loop (a := a) ls c out (k + 1) (some (false, .int k)) (some (false, kqD l)) x1 y1 false h
      refine ⟨fb', u', v', x', y', ?_⟩
      show forL _ _ (.tup [.int k, kqD l] :: enumD (k + 1) (kqs ls)) _ = _
      refine for_cons (s1 := ⟨[a, some (fb, .tup (kqs o)), some (true, .lst (kqs acc)), some (false, .int k), some (false, kqD l), x, y], T⟩) ?_ (st_cons (st_for (s0 := ⟨[a, some (false, .tup (kqs o)), some (true, .lst (kqs acc)), some (false, .int k), some (false, kqD l), x, y], T⟩) (ds := enumD 0 (kqs o)) ?_ g) st_end) ih
      · dsimp!
      · dsimp!
theorem rep_k (k0 : Bool) (n : Nat) : Vf.rep [kD k0 (0, 1)] n = kqs (List.replicate n (k0, (0, 1))) := by
  rw [rep_one]
  unfold kqs
  rw [List.map_replicate]
  rfl
theorem r_times {p o out : List KQ} (h : tmul true p o = some out) : runB F b_times_poly [.tup (kqs p), .tup (kqs o)] T = .ok (.tup (kqs out)) false T := by
  unfold tmul at h
  split at h
  · rename_i hl
    obtain ⟨hl, hl1⟩ := hl
    obtain ⟨fb', u', v', x', y', g⟩ := tout_loop h5 h6 (a := some (false, .tup (kqs p))) p _ out 0 none none none none false h
    have lp : (kqs p).length = p.length := List.length_map ..
    have lo : (kqs o).length = o.length := List.length_map ..
    have e1 : ((p.length : Int) + (o.length : Int) - 1).toNat = p.length + o.length - 1 := by omega
    have e2 : (decide ((p.length : Int) + (o.length : Int) - 1 < 2 ^ 30) && decide (-(2 ^ 30) < (p.length : Int) + (o.length : Int) - 1) && fits (1 * (p.length + o.length - 1))) = true := by
      simp only [Bool.and_eq_true, decide_eq_true_eq]
      refine ⟨⟨by omega, by omega⟩, decide_eq_true (by show _ ≤ 2 ^ 24; omega)⟩
    have e3 : (.ktup [.int 0, .int 1] : D) = kD true (0, 1) := rfl
    have e4 : fits 1 = true := by decide
    refine rb_rt rfl (st_cons (s1 := ⟨[some (false, .tup (kqs p)), some (false, .tup (kqs o)), some (true, .lst (kqs (List.replicate (p.length + o.length - 1) (true, (0, 1))))), none, none, none, none], T⟩) ?_ (st_cons (st_for (s0 := ⟨[some (false, .tup (kqs p)), some (false, .tup (kqs o)), some (true, .lst (kqs (List.replicate (p.length + o.length - 1) (true, (0, 1))))), none, none, none, none], T⟩) (ds := enumD 0 (kqs p)) ?_ g) (st_last (s1 := ⟨[some (false, .tup (kqs p)), some (fb', .tup (kqs o)), some (true, .lst (kqs out)), u', v', x', y'], T⟩) ?_))) rfl
    · dsimp! [b_times_poly, lp, lo, e4, e1, e2, e3, rep_k (F := F) h5 h6]
    · dsimp!
    · dsimp!
  · cases h
end
end HL
namespace HL
open PySem PySem.Spec PyProof.Rows L2 Vf

def rngN : Nat → Nat → List D
  | _, 0 => []
  | j, m + 1 => .int (j : Nat) :: rngN (j + 1) m
theorem rng_map : ∀ (m j : Nat), (List.range' j m).map (fun (k : Nat) => D.int (0 + (k : Int))) = rngN j m
  | 0, j => rfl
  | m + 1, j => by
    rw [List.range'_succ, List.map_cons, rng_map m (j + 1)]
    show D.int (0 + (j : Int)) :: _ = D.int (j : Int) :: _
    rw [Int.zero_add]
theorem range_n (n : Nat) : rangeD 0 (n : Int) = rngN 0 n := by
  unfold rangeD
  have e : ((n : Int) - 0).toNat = n := by omega
  rw [e, List.range_eq_range', rng_map]
theorem big_n {n : Nat} (h : n ≤ 1000) : bigOk (n : Int) = true := by
  have h1 : ∀ k : Nat, k ≤ 1000 → (k : Int) < 2 ^ 62 := fun k hk => Int.lt_of_le_of_lt (Int.ofNat_le.mpr hk) (by decide)
  have h2 : (-(2 ^ 62) : Int) ≤ (n : Int) := Int.le_trans (show (-(2 ^ 62) : Int) ≤ 0 by decide) (Int.natCast_nonneg n)
  show (decide _ && decide _) = true
  rw [decide_eq_true h2, decide_eq_true (h1 n h)]
  rfl
theorem it_rng1 {F : FT} {a : Ex} {s s1 : S} {j : Int} {fr : Bool} (h : evE F a s = .ok (.int j, fr) s1) (hb : bigOk j = true) : evIt F (.rng1 a) s = .ok (rangeD 0 j) s1 := by
  have e : evIt F (.rng1 a) = bnd (evE F a) fun d => match d.1 with
    | .int j => if bigOk j then Vf.ret (rangeD 0 j) else stk
    | _ => stk := by unfold evIt; rfl
  rw [e, u_bnd, h]
  exact congrFun (if_pos hb) s1
theorem it_rngn {F : FT} {a : Ex} {s s1 : S} {n : Nat} {fr : Bool} (h : evE F a s = .ok (.int (n : Nat), fr) s1) (hb : n ≤ 1000) : evIt F (.rng1 a) s = .ok (rngN 0 n) s1 := by
  rw [it_rng1 h (big_n hb), range_n]
abbrev UB : Sxs := .cons (.put 2 (.prim (.bin .Add) (.cons (.var 3) (.cons (.var 4) .nil))) (.call 37 (.cons (.prim .idx (.cons (.var 2) (.cons (.prim (.bin .Add) (.cons (.var 3) (.cons (.var 4) .nil))) .nil))) (.cons (.call 38 (.cons (.prim .idx (.cons (.var 0) (.cons (.var 3) .nil))) (.cons (.prim .idx (.cons (.var 1) (.cons (.var 4) .nil))) .nil))) .nil)))) .nil
section
variable {F : FT} {T : Vf.TP} (h5 : ∀ (p q r : Q) k1 k2, addQ p q = some r → F 37 [kD k1 p, kD k2 q] T = .ok (qD r) false T) (h6 : ∀ (p q r : Q) k1 k2, mulQ p q = some r → F 38 [kD k1 p, kD k2 q] T = .ok (qD r) false T)
include h5 h6
theorem uin_loop {p o : List KQ} {k : Nat} {l : KQ} (hk : nthK p k = some l) : ∀ (rs : List KQ) (acc out : List KQ) (j : Nat) (x : Option (Bool × D)), (∀ i, nthK rs i = nthK o (j + i)) → tin k l acc j rs = some out →
    ∃ x', forL [4] (evSs F UB) (rngN j rs.length) ⟨[some (false, .lst (kqs p)), some (false, .lst (kqs o)), some (true, .lst (kqs acc)), some (false, .int k), x], T⟩ = .ok .nx ⟨[some (false, .lst (kqs p)), some (false, .lst (kqs o)), some (true, .lst (kqs out)), some (false, .int k), x'], T⟩
  | [], acc, out, j, x, ho, h => by cases h; exact ⟨x, rfl⟩
  | r :: rs, acc, out, j, x, ho, h => by
    unfold tin at h
    cases e1 : mulQ l.2 r.2 with
    | none => rw [e1] at h; cases h
    | some m =>
      rw [e1] at h
      change (nthK acc (k + j)).bind _ = _ at h
      cases e2 : nthK acc (k + j) with
      | none => rw [e2] at h; cases h
      | some c =>
        rw [e2] at h
        change (addQ c.2 m).bind _ = _ at h
        cases e3 : addQ c.2 m with
        | none => rw [e3] at h; cases h
        | some z =>
          rw [e3] at h
          have hj : nthK o j = some r := by have := ho 0; rw [Nat.add_zero] at this; rw [← this]; rfl
          obtain ⟨x', ih⟩ := uin_loop hk rs _ out (j + 1) (some (false, .int j)) (fun i => by have := ho (i + 1); rw [show j + 1 + i = j + (i + 1) by omega, ← this]; rfl) h
          refine ⟨x', ?_⟩
          show forL _ _ (.int (j : Nat) :: rngN (j + 1) rs.length) _ = _
          have g1 := h6 _ _ _ l.1 r.1 e1
          have g2 := h5 _ _ _ c.1 false e3
          have g3 := (idx_n e2).1
          have g4 := set_n e2 (false, z)
          have g5 := (idx_n hk).1
          have g6 := (idx_n hj).1
          have e5 : (k : Int) + (j : Int) = ((k + j : Nat) : Int) := by omega
          have e6 : kqD l = kD l.1 l.2 := rfl
          have e7 : kqD r = kD r.1 r.2 := rfl
          have e8 : kqD c = kD c.1 c.2 := rfl
          have e9 : kqD (false, z) = qD z := rfl
          have e10 : kD false m = qD m := rfl
          rw [e10] at g2
          rw [e9] at g4
          refine for_cons (s1 := ⟨[some (false, .lst (kqs p)), some (false, .lst (kqs o)), some (true, .lst (kqs acc)), some (false, .int k), some (false, .int j)], T⟩) (s2 := ⟨[some (false, .lst (kqs p)), some (false, .lst (kqs o)), some (true, .lst (kqs (setK acc (k + j) (false, z)))), some (false, .int k), some (false, .int j)], T⟩) ?_ ?_ ih
          · dsimp!
          · dsimp! [e5, g3, g5, g6, e6, e7, g1, e8, g2, g4]
theorem uout_loop {p o : List KQ} (hz : o.length ≤ 1000) : ∀ (ls : List KQ) (acc out : List KQ) (k : Nat) (u x : Option (Bool × D)), (∀ i, nthK ls i = nthK p (k + i)) → tout o acc k ls = some out →
    ∃ u' x', forL [3] (evSs F (.cons (.for_ [4] (.rng1 (.prim (.blt "len") (.cons (.var 1) .nil))) UB) .nil)) (rngN k ls.length) ⟨[some (false, .lst (kqs p)), some (false, .lst (kqs o)), some (true, .lst (kqs acc)), u, x], T⟩ = .ok .nx ⟨[some (false, .lst (kqs p)), some (false, .lst (kqs o)), some (true, .lst (kqs out)), u', x'], T⟩
  | [], acc, out, k, u, x, hp, h => by cases h; exact ⟨u, x, rfl⟩
  | l :: ls, acc, out, k, u, x, hp, h => by
    unfold tout at h
    cases e1 : tin k l acc 0 o with
    | none => rw [e1] at h; cases h
    | some c =>
      rw [e1] at h
      have hk : nthK p k = some l := by have := hp 0; rw [Nat.add_zero] at this; rw [← this]; rfl
      obtain ⟨x1, g⟩ := uin_loop h5 h6 hk o acc c 0 x (fun i => by rw [Nat.zero_add]) e1
      obtain ⟨u', x', ih⟩ := uout_loop hz ls c out (k + 1) (some (false, .int k)) x1 (fun i => by have := hp (i + 1); rw [show k + 1 + i = k + (i + 1) by omega, ← this]; rfl) h
      refine ⟨u', x', ?_⟩
      have lo : (kqs o).length = o.length := List.length_map ..
      have eb : bigOk (o.length : Int) = true := big_n hz
      show forL _ _ (.int (k : Nat) :: rngN (k + 1) ls.length) _ = _
      refine for_cons (s1 := ⟨[some (false, .lst (kqs p)), some (false, .lst (kqs o)), some (true, .lst (kqs acc)), some (false, .int k), x], T⟩) ?_ (st_cons (st_for (s0 := ⟨[some (false, .lst (kqs p)), some (false, .lst (kqs o)), some (true, .lst (kqs acc)), some (false, .int k), x], T⟩) (ds := rngN 0 o.length) ?_ g) st_end) ih
      · dsimp!
      · exact it_rngn (fr := false) (by dsimp! [lo]) hz
theorem r_ltimes {p o out : List KQ} (h : tmul false p o = some out) : runB F b__law_times [.lst (kqs p), .lst (kqs o)] T = .ok (.lst (kqs out)) true T := by
  unfold tmul at h
  split at h
  · rename_i hl
    obtain ⟨hl, hl1⟩ := hl
    obtain ⟨u', x', g⟩ := uout_loop h5 h6 (p := p) (o := o) (by omega) p _ out 0 none none (fun i => by rw [Nat.zero_add]) h
    have lp : (kqs p).length = p.length := List.length_map ..
    have lo : (kqs o).length = o.length := List.length_map ..
    have eb : bigOk (p.length : Int) = true := big_n (by omega)
    have e1 : ((p.length : Int) + (o.length : Int) - 1).toNat = p.length + o.length - 1 := by omega
    have e2 : (decide ((p.length : Int) + (o.length : Int) - 1 < 2 ^ 30) && decide (-(2 ^ 30) < (p.length : Int) + (o.length : Int) - 1) && fits (1 * (p.length + o.length - 1))) = true := by
      simp only [Bool.and_eq_true, decide_eq_true_eq]
      refine ⟨⟨by omega, by omega⟩, decide_eq_true (by show _ ≤ 2 ^ 24; omega)⟩
    have e3 : (.tup [.int 0, .int 1] : D) = kD false (0, 1) := rfl
    have e4 : fits 1 = true := by decide
    have e5 : fits 2 = true := by decide
    have e6 : Vf.rep [kD false (0, 1)] (p.length + o.length - 1) = kqs (List.replicate (p.length + o.length - 1) (false, (0, 1))) := by
      rw [rep_one]
      unfold kqs
      rw [List.map_replicate]
      rfl
    refine rb_rt rfl (st_cons (s1 := ⟨[some (false, .lst (kqs p)), some (false, .lst (kqs o)), some (true, .lst (kqs (List.replicate (p.length + o.length - 1) (false, (0, 1))))), none, none], T⟩) ?_ (st_cons (st_for (s0 := ⟨[some (false, .lst (kqs p)), some (false, .lst (kqs o)), some (true, .lst (kqs (List.replicate (p.length + o.length - 1) (false, (0, 1))))), none, none], T⟩) (ds := rngN 0 p.length) ?_ g) (st_last (s1 := ⟨[some (false, .lst (kqs p)), some (false, .lst (kqs o)), none, u', x'], T⟩) ?_))) rfl
    · dsimp! [b__law_times, lp, lo, e4, e5, e1, e2, e3, e6]
    · exact it_rngn (fr := false) (by dsimp! [lp]) (by omega)
    · dsimp!
  · cases h
end
end HL
namespace HL
open PySem PySem.Spec PyProof.Rows L2 Vf

def asKs : List D → Option (List KQ)
  | [] => some []
  | d :: r => (asQ d).bind fun t => (asKs r).map fun ts => t :: ts
theorem asKs_eq : ∀ {ds : List D} {ts : List KQ}, asKs ds = some ts → ds = kqs ts
  | [], ts, h => by cases h; rfl
  | d :: r, ts, h => by
    unfold asKs at h
    cases e : asQ d with
    | none => rw [e] at h; cases h
    | some t =>
      rw [e] at h
      change (asKs r).map _ = _ at h
      cases e2 : asKs r with
      | none => rw [e2] at h; cases h
      | some v =>
        rw [e2] at h
        cases h
        have := asQ_k (k := t.1) (q := t.2) e
        rw [this, asKs_eq e2]
        rfl
def mulKs (k0 : Bool) (a b : List D) : Option (List KQ) := (asKs a).bind fun p => (asKs b).bind fun o => tmul k0 p o
theorem mulKs_eq {k0 : Bool} {a b : List D} {out : List KQ} (h : mulKs k0 a b = some out) : ∃ p o, a = kqs p ∧ b = kqs o ∧ tmul k0 p o = some out := by
  unfold mulKs at h
  cases e : asKs a with
  | none => rw [e] at h; cases h
  | some p =>
    rw [e] at h
    change (asKs b).bind _ = _ at h
    cases e2 : asKs b with
    | none => rw [e2] at h; cases h
    | some o => rw [e2] at h; exact ⟨p, o, asKs_eq e, asKs_eq e2, h⟩
def on30 (ds : List D) (T : Vf.TP) : FRes := match ds with
  | [.tup a, .tup b] => (match mulKs true a b with
    | some o => .ok (.tup (kqs o)) false T
    | none => .stuck)
  | _ => .stuck
def on40 (ds : List D) (T : Vf.TP) : FRes := match ds with
  | [.lst a, .lst b] => (match mulKs false a b with
    | some o => .ok (.lst (kqs o)) true T
    | none => .stuck)
  | _ => .stuck
def Z : FT := fun i ds T => bif i.beq 30 then on30 ds T else bif i.beq 40 then on40 ds T else Y i ds T
theorem k_add (T : Vf.TP) (k : Nat) : ∀ (p q r : Q) k1 k2, addQ p q = some r → Vf.run Ps (k + 3) 5 [kD k1 p, kD k2 q] T = .ok (qD r) false T := fun p q r k1 k2 h => by
  rw [run_body (f := b_add_ratios) rfl]
  exact r_add (k_make T k) k1 k2 h
theorem k_mul (T : Vf.TP) (k : Nat) : ∀ (p q r : Q) k1 k2, mulQ p q = some r → Vf.run Ps (k + 3) 6 [kD k1 p, kD k2 q] T = .ok (qD r) false T := fun p q r k1 k2 h => by
  rw [run_body (f := b_multiply) rfl]
  exact r_mul (k_make T k) k1 k2 h
theorem k_plus (T : Vf.TP) (k : Nat) : ∀ (p q r : Q) k1 k2, addQ p q = some r → Vf.run Ps (k + 2) 37 [kD k1 p, kD k2 q] T = .ok (qD r) false T := fun p q r k1 k2 h => by
  rw [run_body (f := b__law_plus) rfl]
  exact r_plus (k_frac T k) k1 k2 h
theorem k_by (T : Vf.TP) (k : Nat) : ∀ (p q r : Q) k1 k2, mulQ p q = some r → Vf.run Ps (k + 2) 38 [kD k1 p, kD k2 q] T = .ok (qD r) false T := fun p q r k1 k2 h => by
  rw [run_body (f := b__law_by) rfl]
  exact r_by (k_frac T k) k1 k2 h
theorem Z_le : FLe Z (Vf.run Ps 5) := fun i ds T => by
  unfold Z
  cases e1 : Nat.beq i 30
  case true =>
    cases Nat.eq_of_beq_eq_true e1
    show on30 ds T = .stuck ∨ on30 ds T = _
    unfold on30
    split
    · split
      · rename_i out h
        obtain ⟨p, o, rfl, rfl, h2⟩ := mulKs_eq h
        refine .inr ?_
        rw [run_body (f := b_times_poly) rfl]
        exact (r_times (k_add T 1) (k_mul T 1) h2).symm
      · exact .inl rfl
    · exact .inl rfl
  case false =>
    cases e2 : Nat.beq i 40
    case true =>
      cases Nat.eq_of_beq_eq_true e2
      show on40 ds T = .stuck ∨ on40 ds T = _
      unfold on40
      split
      · split
        · rename_i out h
          obtain ⟨p, o, rfl, rfl, h2⟩ := mulKs_eq h
          refine .inr ?_
          rw [run_body (f := b__law_times) rfl]
          exact (r_ltimes (k_plus T 2) (k_by T 2) h2).symm
        · exact .inl rfl
      · exact .inl rfl
    case false => exact Y_le i ds T
theorem on30_T (ds : List D) (T : Vf.TP) : on30 ds T = atF T (on30 ds none) := by
  unfold on30
  repeat' split
  all_goals rfl
theorem on40_T (ds : List D) (T : Vf.TP) : on40 ds T = atF T (on40 ds none) := by
  unfold on40
  repeat' split
  all_goals rfl
theorem Z_T : FTI Z := fun i ds T => by
  unfold Z
  exact cond_T (on30_T ds T) (cond_T (on40_T ds T) (Y_T i ds T))
def E2 : FT := runX Z (bodies Ps) 12
theorem E2_fact {i : Nat} {ds : List D} {d : D} {fr : Bool} {T0 : Vf.TP} (e : E2 i ds none = .ok d fr T0) {m : Nat} (hm : 17 ≤ m) (T : Vf.TP) : Vf.run Ps m i ds T = .ok d fr T := fact_ok (n := 5) (k := 12) Z_T Z_le e hm T
end HL
namespace HL
open PySem PySem.Spec PyProof.Rows L2 Vf

def cinL (t : Tm) (d : Nat) : List Tm → Option (List Tm)
  | [] => some []
  | u :: us => if t.1.length + u.1.length ≤ d then (mulQ t.2.2 u.2.2).bind fun m => (cinL t d us).map fun r => (t.1 ++ u.1, false, m) :: r else cinL t d us
def cutL (us : List Tm) (d : Nat) : List Tm → Option (List Tm)
  | [] => some []
  | t :: ts => (cinL t d us).bind fun a => (cutL us d ts).map fun b => a ++ b
def cutP (ts us : List Tm) (d : Nat) : Option (List Tm) := if ts.length * us.length ≤ 1000000 ∧ d ≤ 1000 then (cutL us d ts).bind gath else none
def tms (ts : List Tm) : List D := ts.map tmD
abbrev CB : Sxs := .cons (.ite (.prim (.cmp .LtE) (.cons (.prim (.bin .Add) (.cons (.prim (.blt "len") (.cons (.var 4) .nil)) (.cons (.prim (.blt "len") (.cons (.var 6) .nil)) .nil))) (.cons (.var 2) .nil))) (.cons (.app 3 (.tup (.cons (.prim (.bin .Add) (.cons (.var 4) (.cons (.var 6) .nil))) (.cons (.call 6 (.cons (.var 5) (.cons (.var 7) .nil))) .nil)))) .nil) .nil) .nil
section
variable {F : FT} {T : Vf.TP} (h6 : ∀ (p q r : Q) k1 k2, mulQ p q = some r → F 6 [kD k1 p, kD k2 q] T = .ok (qD r) false T)
include h6
theorem cin_loop {a b : Option (Bool × D)} {d : Nat} (hd : d ≤ 1000) {t : Tm} : ∀ (us acc out : List Tm) (f1 : Bool) (x y : Option (Bool × D)), cinL t d us = some out → acc.length + us.length < 16000000 →
    ∃ f1' x' y', forL [6, 7] (evSs F CB) (tms us) ⟨[a, b, some (false, .int d), some (true, .lst (tms acc)), some (false, wordD t.1), some (f1, kqD t.2), x, y], T⟩ = .ok .nx ⟨[a, b, some (false, .int d), some (true, .lst (tms (acc ++ out))), some (false, wordD t.1), some (f1', kqD t.2), x', y'], T⟩
  | [], acc, out, f1, x, y, h, _ => by cases h; rw [List.append_nil]; exact ⟨f1, x, y, rfl⟩
  | u :: us, acc, out, f1, x, y, h, hl => by
    rw [List.length_cons] at hl
    unfold cinL at h
    have l1 : (t.1.map D.int).length = t.1.length := List.length_map ..
    have l2 : (u.1.map D.int).length = u.1.length := List.length_map ..
    show ∃ f1' x' y', forL [6, 7] _ (tmD u :: tms us) _ = _
    have q1 : kqD t.2 = kD t.2.1 t.2.2 := rfl
    by_cases hc : t.1.length + u.1.length ≤ d
    · rw [if_pos hc] at h
      cases e1 : mulQ t.2.2 u.2.2 with
      | none => rw [e1] at h; cases h
      | some m =>
        rw [e1] at h
        change (cinL t d us).map _ = _ at h
        cases e2 : cinL t d us with
        | none => rw [e2] at h; cases h
        | some r =>
          rw [e2] at h
          cases h
          obtain ⟨f1', x', y', ih⟩ := cin_loop hd (a := a) (b := b) us (acc ++ [(t.1 ++ u.1, false, m)]) r false (some (false, wordD u.1)) (some (false, kD u.2.1 u.2.2)) e2 (by rw [List.length_append]; simp; omega)
          refine ⟨f1', x', y', ?_⟩
          have g1 := h6 _ _ _ t.2.1 u.2.1 e1
          have hc' : (t.1.length : Int) + (u.1.length : Int) ≤ (d : Int) := by omega
          have ef : fits (t.1.length + u.1.length) = true := decide_eq_true (by show _ ≤ 2 ^ 24; omega)
          have ef2 : fits 2 = true := by decide
          have es : (tms acc).length < sizeLine := by unfold tms; rw [List.length_map]; show _ < 2 ^ 24; omega
          have em : tms acc ++ [D.tup [.tup (t.1.map .int ++ u.1.map .int), qD m]] = tms (acc ++ [(t.1 ++ u.1, false, m)]) := by
            unfold tms
            rw [List.map_append]
            show _ = _ ++ [tmD _]
            unfold tmD wordD
            rw [List.map_append]
            rfl
          refine for_cons (s1 := ⟨[a, b, some (false, .int d), some (true, .lst (tms acc)), some (false, wordD t.1), some (f1, kqD t.2), some (false, wordD u.1), some (false, kD u.2.1 u.2.2)], T⟩) (s2 := ⟨[a, b, some (false, .int d), some (true, .lst (tms (acc ++ [(t.1 ++ u.1, false, m)]))), some (false, wordD t.1), some (false, kqD t.2), some (false, wordD u.1), some (false, kD u.2.1 u.2.2)], T⟩) ?_ ?_ (by rw [List.append_assoc] at ih; exact ih)
          · unfold tmD; dsimp!
          · unfold wordD
            dsimp! [l1, l2, hc', ef, ef2, q1, g1, es, em]
    · rw [if_neg hc] at h
      obtain ⟨f1', x', y', ih⟩ := cin_loop hd (a := a) (b := b) us acc out f1 (some (false, wordD u.1)) (some (false, kD u.2.1 u.2.2)) h (by omega)
      refine ⟨f1', x', y', ?_⟩
      have hc' : ¬ (t.1.length : Int) + (u.1.length : Int) ≤ (d : Int) := by omega
      refine for_cons (s1 := ⟨[a, b, some (false, .int d), some (true, .lst (tms acc)), some (false, wordD t.1), some (f1, kqD t.2), some (false, wordD u.1), some (false, kD u.2.1 u.2.2)], T⟩) (s2 := ⟨[a, b, some (false, .int d), some (true, .lst (tms acc)), some (false, wordD t.1), some (f1, kqD t.2), some (false, wordD u.1), some (false, kD u.2.1 u.2.2)], T⟩) ?_ ?_ ih
      · unfold tmD; dsimp!
      · unfold wordD
        dsimp! [l1, l2, hc']
theorem cin_len {t : Tm} {d : Nat} : ∀ {us out : List Tm}, cinL t d us = some out → out.length ≤ us.length
  | [], out, h => by cases h; exact Nat.le_refl _
  | u :: us, out, h => by
    unfold cinL at h
    split at h
    · cases e1 : mulQ t.2.2 u.2.2 with
      | none => rw [e1] at h; cases h
      | some m =>
        rw [e1] at h
        change (cinL t d us).map _ = _ at h
        cases e2 : cinL t d us with
        | none => rw [e2] at h; cases h
        | some r =>
          rw [e2] at h
          cases h
          have := cin_len e2
          simp only [List.length_cons]
          omega
    · have := cin_len h
      simp only [List.length_cons]
      omega
theorem cut_loop {a : Option (Bool × D)} {us : List Tm} {d : Nat} (hd : d ≤ 1000) : ∀ (ts acc out : List Tm) (fb : Bool) (x y z w : Option (Bool × D)), cutL us d ts = some out → acc.length + ts.length * us.length < 16000000 →
    ∃ fb' x' y' z' w', forL [4, 5] (evSs F (.cons (.for_ [6, 7] (.ex (.var 1)) CB) .nil)) (tms ts) ⟨[a, some (fb, .tup (tms us)), some (false, .int d), some (true, .lst (tms acc)), x, y, z, w], T⟩ = .ok .nx ⟨[a, some (fb', .tup (tms us)), some (false, .int d), some (true, .lst (tms (acc ++ out))), x', y', z', w'], T⟩
  | [], acc, out, fb, x, y, z, w, h, _ => by cases h; rw [List.append_nil]; exact ⟨fb, x, y, z, w, rfl⟩
  | t :: ts, acc, out, fb, x, y, z, w, h, hl => by
    unfold cutL at h
    cases e1 : cinL t d us with
    | none => rw [e1] at h; cases h
    | some p =>
      rw [e1] at h
      change (cutL us d ts).map _ = _ at h
      cases e2 : cutL us d ts with
      | none => rw [e2] at h; cases h
      | some q =>
        rw [e2] at h
        cases h
        have hp := cin_len (F := F) (T := T) h6 e1
        rw [List.length_cons, Nat.succ_mul] at hl
        obtain ⟨f1', z1, w1, g⟩ := cin_loop h6 hd (a := a) (b := some (false, .tup (tms us))) us acc p false z w e1 (by omega)
        obtain ⟨fb', x', y', z', w', ih⟩ := cut_loop hd (a := a) ts (acc ++ p) q false (some (false, wordD t.1)) (some (f1', kqD t.2)) z1 w1 e2 (by rw [List.length_append]; omega)
        refine ⟨fb', x', y', z', w', ?_⟩
        show forL [4, 5] _ (tmD t :: tms ts) _ = _
        refine for_cons (s1 := ⟨[a, some (fb, .tup (tms us)), some (false, .int d), some (true, .lst (tms acc)), some (false, wordD t.1), some (false, kqD t.2), z, w], T⟩) ?_ (st_cons (st_for (s0 := ⟨[a, some (false, .tup (tms us)), some (false, .int d), some (true, .lst (tms acc)), some (false, wordD t.1), some (false, kqD t.2), z, w], T⟩) ?_ g) st_end) (by rw [List.append_assoc] at ih; exact ih)
        · unfold tmD kqD; dsimp!
        · dsimp!
theorem r_cut {ts us o : List Tm} {d : Nat} (h13 : ∀ (v o : List Tm), gath v = some o → F 13 [.lst (tms v)] T = .ok (.tup (tms o)) false T) (h : cutP ts us d = some o) : runB F b_cut_product [.tup (tms ts), .tup (tms us), .int d] T = .ok (.tup (tms o)) false T := by
  unfold cutP at h
  split at h
  · rename_i hl
    cases e : cutL us d ts with
    | none => rw [e] at h; cases h
    | some v =>
      rw [e] at h
      have g13 := h13 _ _ h
      obtain ⟨fb', x', y', z', w', g⟩ := cut_loop h6 hl.2 (a := some (false, .tup (tms ts))) ts [] v false none none none none e (by simp; omega)
      rw [List.nil_append] at g
      have ef : fits 0 = true := by decide
      refine rb_rt rfl (st_cons (s1 := ⟨[some (false, .tup (tms ts)), some (false, .tup (tms us)), some (false, .int d), some (true, .lst (tms [])), none, none, none, none], T⟩) ?_ (st_cons (st_for (s0 := ⟨[some (false, .tup (tms ts)), some (false, .tup (tms us)), some (false, .int d), some (true, .lst (tms [])), none, none, none, none], T⟩) ?_ g) (st_last (s1 := ⟨[some (false, .tup (tms ts)), some (fb', .tup (tms us)), some (false, .int d), some (false, .lst (tms v)), x', y', z', w'], T⟩) ?_))) rfl
      · dsimp! [b_cut_product, ef]
        rfl
      · dsimp!
      · dsimp! [g13]
  · cases h
end
end HL
namespace HL
open PySem PySem.Spec PyProof.Rows L2 Vf
def on19 (ds : List D) (T : Vf.TP) : FRes := match ds with
  | [.tup a, .tup b, .int d] => (match (asTms a).bind fun ts => (asTms b).bind fun us => if 0 ≤ d then cutP ts us d.toNat else none with
    | some o => .ok (.tup (tms o)) false T
    | none => .stuck)
  | _ => .stuck
def Z2 : FT := fun i ds T => bif i.beq 19 then on19 ds T else Z i ds T
theorem k_gath (T : Vf.TP) (k : Nat) : ∀ (v o : List Tm), gath v = some o → Vf.run Ps (k + 4) 13 [.lst (tms v)] T = .ok (.tup (tms o)) false T := fun v o h => by
  rw [run_body (f := b_gathered) rfl]
  exact gath_ok (k_add T k) h rfl
theorem Z2_le : FLe Z2 (Vf.run Ps 5) := fun i ds T => by
  unfold Z2
  cases e1 : Nat.beq i 19
  case true =>
    cases Nat.eq_of_beq_eq_true e1
    show on19 ds T = .stuck ∨ on19 ds T = _
    unfold on19
    split
    · rename_i a b d
      split
      · rename_i o h
        cases ea : asTms a with
        | none => rw [ea] at h; cases h
        | some ts =>
          rw [ea] at h
          change ((asTms b).bind _) = _ at h
          cases eb : asTms b with
          | none => rw [eb] at h; cases h
          | some us =>
            rw [eb] at h
            change (if 0 ≤ d then cutP ts us d.toNat else none) = _ at h
            split at h
            · rename_i hd
              refine .inr ?_
              obtain ⟨n, rfl⟩ : ∃ n : Nat, d = n := ⟨d.toNat, by omega⟩
              rw [Int.toNat_natCast] at h
              rw [asTms_eq ea, asTms_eq eb, run_body (f := b_cut_product) rfl]
              exact (r_cut (k_mul T 1) (k_gath T 0) h).symm
            · cases h
      · exact .inl rfl
    · exact .inl rfl
  case false => exact Z_le i ds T
theorem on19_T (ds : List D) (T : Vf.TP) : on19 ds T = atF T (on19 ds none) := by
  unfold on19
  repeat' split
  all_goals rfl
theorem Z2_T : FTI Z2 := fun i ds T => by
  unfold Z2
  exact cond_T (on19_T ds T) (Z_T i ds T)
def E3 : FT := runX Z2 (bodies Ps) 12
theorem E3_fact {i : Nat} {ds : List D} {d : D} {fr : Bool} {T0 : Vf.TP} (e : E3 i ds none = .ok d fr T0) {m : Nat} (hm : 17 ≤ m) (T : Vf.TP) : Vf.run Ps m i ds T = .ok d fr T := fact_ok (n := 5) (k := 12) Z2_T Z2_le e hm T
end HL
namespace HL
open PySem PySem.Spec PyProof.Rows L2 Vf

def lsum : KQ → Nat → List KQ → Option KQ
  | acc, _, [] => some acc
  | acc, n, x :: r => (divQ x.2 ((n : Int) + 1, 1)).bind fun m => (addQ acc.2 m).bind fun a => lsum (false, a) (n + 1) r
section
variable {F : FT} {T : Vf.TP}
theorem area_loop (h5 : ∀ (p q r : Q) k1 k2, addQ p q = some r → F 5 [kD k1 p, kD k2 q] T = .ok (qD r) false T) (h7 : ∀ (p q r : Q) k1 k2, divQ p q = some r → F 7 [kD k1 p, kD k2 q] T = .ok (qD r) false T) {a : Option (Bool × D)} :
    ∀ (l : List KQ) (acc out : KQ) (n : Nat) (x y : Option (Bool × D)), lsum acc n l = some out →
    ∃ x' y', forL [2, 3] (evSs F (.cons (.set 1 (.call 5 (.cons (.var 1) (.cons (.call 7 (.cons (.var 3) (.cons (.tup (.cons (.prim (.bin .Add) (.cons (.var 2) (.cons (.cst (.int (1))) .nil))) (.cons (.cst (.int (1))) .nil))) .nil))) .nil)))) .nil)) (enumD n (kqs l)) ⟨[a, some (false, kqD acc), x, y], T⟩ = .ok .nx ⟨[a, some (false, kqD out), x', y'], T⟩
  | [], acc, out, n, x, y, h => by cases h; exact ⟨x, y, rfl⟩
  | z :: r, acc, out, n, x, y, h => by
    unfold lsum at h
    cases e1 : divQ z.2 ((n : Int) + 1, 1) with
    | none => rw [e1] at h; cases h
    | some m =>
      rw [e1] at h
      change (addQ acc.2 m).bind _ = _ at h
      cases e2 : addQ acc.2 m with
      | none => rw [e2] at h; cases h
      | some c =>
        rw [e2] at h
        obtain ⟨x', y', ih⟩ := area_loop h5 h7 (a := a) r (false, c) out (n + 1) (some (false, .int n)) (some (false, kqD z)) h
        refine ⟨x', y', ?_⟩
        have g1 := h7 _ _ _ z.1 false e1
        have g2 := h5 _ _ _ acc.1 false e2
        have q1 : kD false ((n : Int) + 1, 1) = .tup [.int ((n : Int) + 1), .int 1] := rfl
        have q2 : kqD z = kD z.1 z.2 := rfl
        have q3 : kqD acc = kD acc.1 acc.2 := rfl
        have q4 : kD false m = qD m := rfl
        rw [q1] at g1
        rw [q4] at g2
        have ef : fits 2 = true := by decide
        show forL _ _ (.tup [.int n, kqD z] :: enumD (n + 1) (kqs r)) _ = _
        refine for_cons (s1 := ⟨[a, some (false, kqD acc), some (false, .int n), some (false, kqD z)], T⟩) (s2 := ⟨[a, some (false, kqD (false, c)), some (false, .int n), some (false, kqD z)], T⟩) ?_ ?_ ih
        · dsimp!
        · dsimp! [ef, q2, g1, q3, g2]
          rfl
theorem r_area (h5 : ∀ (p q r : Q) k1 k2, addQ p q = some r → F 5 [kD k1 p, kD k2 q] T = .ok (qD r) false T) (h7 : ∀ (p q r : Q) k1 k2, divQ p q = some r → F 7 [kD k1 p, kD k2 q] T = .ok (qD r) false T) {l : List KQ} {out : KQ} (h : lsum (true, (0, 1)) 0 l = some out) :
    runB F b_area [.tup (kqs l)] T = .ok (kqD out) false T := by
  obtain ⟨x', y', g⟩ := area_loop h5 h7 (a := some (false, .tup (kqs l))) l (true, (0, 1)) out 0 none none h
  refine rb_rt rfl (st_cons (s1 := ⟨[some (false, .tup (kqs l)), some (false, kqD (true, (0, 1))), none, none], T⟩) ?_ (st_cons (st_for (s0 := ⟨[some (false, .tup (kqs l)), some (false, kqD (true, (0, 1))), none, none], T⟩) (ds := enumD 0 (kqs l)) ?_ g) (st_last (s1 := ⟨[some (false, .tup (kqs l)), none, x', y'], T⟩) ?_))) rfl
  · dsimp! [b_area]; rfl
  · dsimp!
  · dsimp!
abbrev BB : Sxs := .cons (.ite (.and (.prim (.cmp .Gt) (.cons (.var 2) (.cons (.cst (.int (0))) .nil))) (.prim (.cmp .Eq) (.cons (.prim .idx (.cons (.var 0) (.cons (.prim (.bin .Sub) (.cons (.var 2) (.cons (.cst (.int (1))) .nil))) .nil))) (.cons (.var 3) .nil)))) (.cons (.augk 1 (.prim .neg (.cons (.cst (.int (1))) .nil)) .Add (.cst (.int (1)))) .nil) (.cons (.app 1 (.cst (.int (1)))) .nil)) .nil
theorem blk_loop {w : List Int} : ∀ (xs pre acc : List Int) (p : Option Int) (x y : Option (Bool × D)), w = pre ++ xs → p = pre.getLast? → (pre ≠ [] → acc ≠ []) → acc.length ≤ pre.length → w.length ≤ 1000 →
    ∃ x' y', forL [2, 3] (evSs F BB) (enumD pre.length (iD xs)) ⟨[some (false, wordD w), some (true, .lst (iD acc)), x, y], T⟩ = .ok .nx ⟨[some (false, wordD w), some (true, .lst (iD (blk p acc xs))), x', y'], T⟩
  | [], pre, acc, p, x, y, hw, hp, ha, hl, hz => ⟨x, y, by rw [show blk p acc [] = acc by cases p <;> rfl]; rfl⟩
  | z :: xs, pre, acc, p, x, y, hw, hp, ha, hl, hz => by
    have hlw : pre.length + 1 + xs.length = w.length := by rw [hw]; simp; omega
    show ∃ x' y', forL _ _ (.tup [.int pre.length, .int z] :: enumD (pre.length + 1) (iD xs)) _ = _
    by_cases hpz : p = some z
    · -- the same letter again
      have hne : pre ≠ [] := by rintro rfl; rw [hp] at hpz; cases hpz
      obtain ⟨ac, c, rfl⟩ : ∃ ac c, acc = ac ++ [c] := ⟨acc.dropLast, acc.getLast (ha hne), (List.dropLast_concat_getLast (ha hne)).symm⟩
      obtain ⟨pr, q, rfl⟩ : ∃ pr q, pre = pr ++ [q] := ⟨pre.dropLast, pre.getLast hne, (List.dropLast_concat_getLast hne).symm⟩
      rw [List.getLast?_concat] at hp
      rw [hp] at hpz
      cases hpz
      have eb : blk p (ac ++ [c]) (z :: xs) = blk (some z) (ac ++ [c + 1]) xs := by
        rw [hp, blk, if_pos rfl]
        congr 1
        simp
      rw [eb]
      obtain ⟨x', y', ih⟩ := blk_loop xs (pr ++ [z] ++ [z]) (ac ++ [c + 1]) (some z) (some (false, .int ((pr ++ [z]).length : Nat))) (some (false, .int z)) (by rw [hw]; simp) (by rw [List.getLast?_concat]) (fun _ => by simp) (by simp only [List.length_append, List.length_singleton] at hl ⊢; omega) hz
      refine ⟨x', y', ?_⟩
      have l1 : (pr ++ [z]).length = pr.length + 1 := by simp
      have l2 : (pr ++ [z] ++ [z]).length = pr.length + 1 + 1 := by simp
      rw [l2] at ih
      rw [l1] at ih ⊢
      have i1 : idxD (wordD w) (.int (((pr.length + 1 : Nat) : Int) - 1)) = some (.int z, false) := by
        have e : ((pr.length + 1 : Nat) : Int) - 1 = (pr.length : Nat) := by omega
        rw [e]
        show (at? _ (w.map D.int)).map _ = _
        have : at? ((pr.length : Nat) : Int) (w.map D.int) = some (.int z) := by
          refine atI_nat (j := pr.length) ?_
          rw [List.getElem?_map, hw]
          simp
        rw [this]; rfl
      have c0 : (0 : Int) < ((pr.length + 1 : Nat) : Int) := by omega
      have i2 : idxD (.lst (iD (ac ++ [c]))) (.int (-1)) = some (.int c, false) := by
        show (at? _ (iD (ac ++ [c]))).map _ = _
        have : at? (-1) (iD (ac ++ [c])) = some (.int c) := by
          unfold iD
          rw [List.map_append]
          exact atI_last _ _
        rw [this]; rfl
      have i3 : setAt (.lst (iD (ac ++ [c]))) (.int (-1)) (.int (c + 1)) = some (.lst (iD (ac ++ [c + 1]))) := by
        show (ixN (iD (ac ++ [c])).length (-1)).map _ = _
        have e : ixN (iD (ac ++ [c])).length (-1) = some ac.length := by
          unfold ixN iD
          simp only [List.length_map, List.length_append, List.length_singleton]
          rw [if_neg (by decide), if_pos (by omega)]
          congr 1
          omega
        rw [e]
        show some (D.lst _) = _
        congr 2
        unfold iD
        rw [List.map_append, List.map_append]
        have : (ac.map D.int).length = ac.length := List.length_map ..
        rw [← this]
        simp
      refine for_cons (s1 := ⟨[some (false, wordD w), some (true, .lst (iD (ac ++ [c]))), some (false, .int ((pr.length + 1 : Nat) : Int)), some (false, .int z)], T⟩) (s2 := ⟨[some (false, wordD w), some (true, .lst (iD (ac ++ [c + 1]))), some (false, .int ((pr.length + 1 : Nat) : Int)), some (false, .int z)], T⟩) ?_ ?_ ih
      · dsimp!
      · dsimp! [i1, c0, i2, augD, i3]
    · have eb : blk p acc (z :: xs) = blk (some z) (acc ++ [1]) xs := by rw [blk, if_neg hpz]
      rw [eb]
      obtain ⟨x', y', ih⟩ := blk_loop xs (pre ++ [z]) (acc ++ [1]) (some z) (some (false, .int (pre.length : Nat))) (some (false, .int z)) (by rw [hw]; simp) (by rw [List.getLast?_concat]) (fun _ => by simp) (by simp; omega) hz
      have l2 : (pre ++ [z]).length = pre.length + 1 := by simp
      rw [l2] at ih
      refine ⟨x', y', ?_⟩
      have es : (iD acc).length < sizeLine := by unfold iD; rw [List.length_map]; show _ < 2 ^ 24; omega
      have em : iD acc ++ [D.int 1] = iD (acc ++ [1]) := by unfold iD; rw [List.map_append]; rfl
      refine for_cons (s1 := ⟨[some (false, wordD w), some (true, .lst (iD acc)), some (false, .int (pre.length : Nat)), some (false, .int z)], T⟩) (s2 := ⟨[some (false, wordD w), some (true, .lst (iD (acc ++ [1]))), some (false, .int (pre.length : Nat)), some (false, .int z)], T⟩) ?_ ?_ ih
      · dsimp!
      · rcases List.eq_nil_or_concat pre with rfl | ⟨pr, q, rfl⟩
        · have c0 : ¬ (0 : Int) < ((0 : Nat) : Int) := by simp
          dsimp! [c0, es, em]
        · have hq : p = some q := by rw [hp, List.concat_eq_append, List.getLast?_concat]
          have hqz : ¬ q = z := fun e => hpz (by rw [hq, e])
          have l1 : (pr.concat q).length = pr.length + 1 := by simp
          rw [l1]
          have c0 : (0 : Int) < ((pr.length + 1 : Nat) : Int) := by omega
          have i1 : idxD (wordD w) (.int (((pr.length + 1 : Nat) : Int) - 1)) = some (.int q, false) := by
            have e : ((pr.length + 1 : Nat) : Int) - 1 = (pr.length : Nat) := by omega
            rw [e]
            show (at? _ (w.map D.int)).map _ = _
            have : at? ((pr.length : Nat) : Int) (w.map D.int) = some (.int q) := by
              refine atI_nat (j := pr.length) ?_
              rw [List.getElem?_map, hw]
              simp
            rw [this]; rfl
          dsimp! [i1, c0, hqz, es, em]
theorem r_blocks {w : List Int} (h9 : F 9 [wordD w] T = .ok .non false T) (hz : w.length ≤ 1000) : runB F b_blocks [wordD w] T = .ok (.tup (iD (blk none [] w))) false T := by
  obtain ⟨x', y', g⟩ := blk_loop (F := F) (T := T) (w := w) w [] [] none none none rfl rfl (fun h => (h rfl).elim) (Nat.le_refl _) hz
  have ef : fits 0 = true := by decide
  refine rb_rt rfl (st_cons (s1 := ⟨[some (false, wordD w), none, none, none], T⟩) ?_ (st_cons (s1 := ⟨[some (false, wordD w), some (true, .lst (iD [])), none, none], T⟩) ?_ (st_cons (st_for (s0 := ⟨[some (false, wordD w), some (true, .lst (iD [])), none, none], T⟩) (ds := enumD 0 (iD w)) ?_ g) (st_last (s1 := ⟨[some (false, wordD w), some (true, .lst (iD (blk none [] w))), x', y'], T⟩) ?_)))) rfl
  · dsimp! [b_blocks, h9]
  · dsimp! [ef]; rfl
  · unfold wordD; dsimp!; rfl
  · dsimp!
end
end HL
namespace HL
open PySem PySem.Spec PyProof.Rows L2 Vf

def natD (rs : List Nat) : List D := rs.map fun n => .int (n : Nat)
def foldK (k0 : Bool) (R : Nat → List KQ) : List KQ → List Nat → Option (List KQ)
  | P, [] => some P
  | P, n :: r => (tmul k0 P (R n)).bind fun Q => foldK k0 R Q r
def iterK (k0 : Bool) (X : List KQ) : Nat → List KQ → Option (List KQ)
  | 0, P => some P
  | n + 1, P => (tmul k0 P X).bind fun Q => iterK k0 X n Q
section
variable {F : FT} {T : Vf.TP}
theorem fold_code (h30 : ∀ p o out, tmul true p o = some out → F 30 [.tup (kqs p), .tup (kqs o)] T = .ok (.tup (kqs out)) false T) {R : Nat → List KQ} {a b c d e f g h i j : Option (Bool × D)} :
    ∀ (rs : List Nat) (P out : List KQ) (x : Option (Bool × D)), (∀ n ∈ rs, F 29 [.int (n : Nat)] T = .ok (.tup (kqs (R n))) false T) → foldK true R P rs = some out →
    ∃ x', forL [3] (evSs F (.cons (.set 2 (.call 30 (.cons (.var 2) (.cons (.call 29 (.cons (.var 3) .nil)) .nil)))) .nil)) (natD rs) ⟨[a, b, some (false, .tup (kqs P)), x, c, d, e, f, g, h, i, j], T⟩ = .ok .nx ⟨[a, b, some (false, .tup (kqs out)), x', c, d, e, f, g, h, i, j], T⟩
  | [], P, out, x, hR, hf => by cases hf; exact ⟨x, rfl⟩
  | n :: r, P, out, x, hR, hf => by
    unfold foldK at hf
    cases e1 : tmul true P (R n) with
    | none => rw [e1] at hf; cases hf
    | some Q =>
      rw [e1] at hf
      obtain ⟨x', ih⟩ := fold_code h30 (a := a) (b := b) (c := c) (d := d) (e := e) (f := f) (g := g) (h := h) (i := i) (j := j) r Q out (some (false, .int (n : Nat))) (fun m hm => hR m (List.mem_cons_of_mem _ hm)) hf
      have g1 := hR n (List.mem_cons_self ..)
      have g2 := h30 _ _ _ e1
      refine ⟨x', ?_⟩
      show forL _ _ (.int (n : Nat) :: natD r) _ = _
      refine for_cons (s1 := ⟨[a, b, some (false, .tup (kqs P)), some (false, .int (n : Nat)), c, d, e, f, g, h, i, j], T⟩) (s2 := ⟨[a, b, some (false, .tup (kqs Q)), some (false, .int (n : Nat)), c, d, e, f, g, h, i, j], T⟩) ?_ ?_ ih
      · dsimp!
      · dsimp! [g1, g2]
theorem iter_code {ex : Exs} {X : List KQ} (h30 : ∀ p o out, tmul true p o = some out → F 30 [.tup (kqs p), .tup (kqs o)] T = .ok (.tup (kqs out)) false T) (hX : ∀ s : S, s.T = T → evEs F ex s = .ok [(.tup (kqs X), false)] s) {a b c d e f g h i j : Option (Bool × D)} :
    ∀ (n m : Nat) (P out : List KQ) (x : Option (Bool × D)), iterK true X n P = some out →
    ∃ x', forL [8] (evSs F (.cons (.set 7 (.call 30 (.cons (.var 7) ex))) .nil)) (rngN m n) ⟨[a, b, c, d, e, f, g, some (false, .tup (kqs P)), x, h, i, j], T⟩ = .ok .nx ⟨[a, b, c, d, e, f, g, some (false, .tup (kqs out)), x', h, i, j], T⟩
  | 0, m, P, out, x, hf => by cases hf; exact ⟨x, rfl⟩
  | n + 1, m, P, out, x, hf => by
    unfold iterK at hf
    cases e1 : tmul true P X with
    | none => rw [e1] at hf; cases hf
    | some Q =>
      rw [e1] at hf
      obtain ⟨x', ih⟩ := iter_code h30 hX (a := a) (b := b) (c := c) (d := d) (e := e) (f := f) (g := g) (h := h) (i := i) (j := j) n (m + 1) Q out (some (false, .int (m : Nat))) hf
      have g2 := h30 _ _ _ e1
      refine ⟨x', ?_⟩
      show forL _ _ (.int (m : Nat) :: rngN (m + 1) n) _ = _
      have g1 := hX ⟨[a, b, c, d, e, f, g, some (false, .tup (kqs P)), some (false, .int (m : Nat)), h, i, j], T⟩ rfl
      refine for_cons (s1 := ⟨[a, b, c, d, e, f, g, some (false, .tup (kqs P)), some (false, .int (m : Nat)), h, i, j], T⟩) (s2 := ⟨[a, b, c, d, e, f, g, some (false, .tup (kqs Q)), some (false, .int (m : Nat)), h, i, j], T⟩) ?_ ?_ ih
      · dsimp!
      · dsimp! [g1, g2]
theorem fold_law (h40 : ∀ p o out, tmul false p o = some out → F 40 [.lst (kqs p), .lst (kqs o)] T = .ok (.lst (kqs out)) true T) {R : Nat → List KQ} {a b c d e f : Option (Bool × D)} :
    ∀ (rs : List Nat) (P out : List KQ) (x : Option (Bool × D)), (∀ n ∈ rs, F 41 [.int (n : Nat)] T = .ok (.lst (kqs (R n))) true T) → foldK false R P rs = some out →
    ∃ x', forL [3] (evSs F (.cons (.set 2 (.call 40 (.cons (.var 2) (.cons (.call 41 (.cons (.var 3) .nil)) .nil)))) .nil)) (natD rs) ⟨[a, b, some (true, .lst (kqs P)), x, c, d, e, f], T⟩ = .ok .nx ⟨[a, b, some (true, .lst (kqs out)), x', c, d, e, f], T⟩
  | [], P, out, x, hR, hf => by cases hf; exact ⟨x, rfl⟩
  | n :: r, P, out, x, hR, hf => by
    unfold foldK at hf
    cases e1 : tmul false P (R n) with
    | none => rw [e1] at hf; cases hf
    | some Q =>
      rw [e1] at hf
      obtain ⟨x', ih⟩ := fold_law h40 (a := a) (b := b) (c := c) (d := d) (e := e) (f := f) r Q out (some (false, .int (n : Nat))) (fun m hm => hR m (List.mem_cons_of_mem _ hm)) hf
      have g1 := hR n (List.mem_cons_self ..)
      have g2 := h40 _ _ _ e1
      refine ⟨x', ?_⟩
      show forL _ _ (.int (n : Nat) :: natD r) _ = _
      refine for_cons (s1 := ⟨[a, b, some (true, .lst (kqs P)), some (false, .int (n : Nat)), c, d, e, f], T⟩) (s2 := ⟨[a, b, some (true, .lst (kqs Q)), some (false, .int (n : Nat)), c, d, e, f], T⟩) ?_ ?_ ih
      · dsimp!
      · dsimp! [g1, g2]
theorem iter_law {ex : Exs} {X : List KQ} {fx : Bool} (h40 : ∀ p o out, tmul false p o = some out → F 40 [.lst (kqs p), .lst (kqs o)] T = .ok (.lst (kqs out)) true T) (hX : ∀ s : S, s.T = T → evEs F ex s = .ok [(.lst (kqs X), fx)] s) {a b c d e f : Option (Bool × D)} :
    ∀ (n m : Nat) (P out : List KQ) (x : Option (Bool × D)), iterK false X n P = some out →
    ∃ x', forL [4] (evSs F (.cons (.set 2 (.call 40 (.cons (.var 2) ex))) .nil)) (rngN m n) ⟨[a, b, some (true, .lst (kqs P)), c, x, d, e, f], T⟩ = .ok .nx ⟨[a, b, some (true, .lst (kqs out)), c, x', d, e, f], T⟩
  | 0, m, P, out, x, hf => by cases hf; exact ⟨x, rfl⟩
  | n + 1, m, P, out, x, hf => by
    unfold iterK at hf
    cases e1 : tmul false P X with
    | none => rw [e1] at hf; cases hf
    | some Q =>
      rw [e1] at hf
      obtain ⟨x', ih⟩ := iter_law h40 hX (a := a) (b := b) (c := c) (d := d) (e := e) (f := f) n (m + 1) Q out (some (false, .int (m : Nat))) hf
      have g2 := h40 _ _ _ e1
      refine ⟨x', ?_⟩
      show forL _ _ (.int (m : Nat) :: rngN (m + 1) n) _ = _
      have g1 := hX ⟨[a, b, some (false, .lst (kqs P)), c, some (false, .int (m : Nat)), d, e, f], T⟩ rfl
      refine for_cons (s1 := ⟨[a, b, some (true, .lst (kqs P)), c, some (false, .int (m : Nat)), d, e, f], T⟩) (s2 := ⟨[a, b, some (true, .lst (kqs Q)), c, some (false, .int (m : Nat)), d, e, f], T⟩) ?_ ?_ ih
      · dsimp!
      · dsimp! [g1, g2]
theorem total_loop (h37 : ∀ (p q r : Q) k1 k2, addQ p q = some r → F 37 [kD k1 p, kD k2 q] T = .ok (qD r) false T) (h39 : ∀ (p q r : Q) k1 k2, divQ p q = some r → F 39 [kD k1 p, kD k2 q] T = .ok (qD r) false T) {a b c d e : Option (Bool × D)} :
    ∀ (l : List KQ) (acc out : KQ) (n : Nat) (x y : Option (Bool × D)), lsum acc n l = some out →
    ∃ x' y', forL [6, 7] (evSs F (.cons (.set 5 (.call 37 (.cons (.var 5) (.cons (.call 39 (.cons (.var 7) (.cons (.tup (.cons (.prim (.bin .Add) (.cons (.var 6) (.cons (.cst (.int (1))) .nil))) (.cons (.cst (.int (1))) .nil))) .nil))) .nil)))) .nil)) (enumD n (kqs l)) ⟨[a, b, c, d, e, some (false, kqD acc), x, y], T⟩ = .ok .nx ⟨[a, b, c, d, e, some (false, kqD out), x', y'], T⟩
  | [], acc, out, n, x, y, h => by cases h; exact ⟨x, y, rfl⟩
  | z :: r, acc, out, n, x, y, h => by
    unfold lsum at h
    cases e1 : divQ z.2 ((n : Int) + 1, 1) with
    | none => rw [e1] at h; cases h
    | some m =>
      rw [e1] at h
      change (addQ acc.2 m).bind _ = _ at h
      cases e2 : addQ acc.2 m with
      | none => rw [e2] at h; cases h
      | some c' =>
        rw [e2] at h
        obtain ⟨x', y', ih⟩ := total_loop h37 h39 (a := a) (b := b) (c := c) (d := d) (e := e) r (false, c') out (n + 1) (some (false, .int n)) (some (false, kqD z)) h
        refine ⟨x', y', ?_⟩
        have g1 := h39 _ _ _ z.1 false e1
        have g2 := h37 _ _ _ acc.1 false e2
        have q1 : kD false ((n : Int) + 1, 1) = .tup [.int ((n : Int) + 1), .int 1] := rfl
        have q2 : kqD z = kD z.1 z.2 := rfl
        have q3 : kqD acc = kD acc.1 acc.2 := rfl
        have q4 : kD false m = qD m := rfl
        rw [q1] at g1
        rw [q4] at g2
        have ef : fits 2 = true := by decide
        show forL _ _ (.tup [.int n, kqD z] :: enumD (n + 1) (kqs r)) _ = _
        refine for_cons (s1 := ⟨[a, b, c, d, e, some (false, kqD acc), some (false, .int n), some (false, kqD z)], T⟩) (s2 := ⟨[a, b, c, d, e, some (false, kqD (false, c')), some (false, .int n), some (false, kqD z)], T⟩) ?_ ?_ ih
        · dsimp!
        · dsimp! [ef, q2, g1, q3, g2]
          rfl
end
end HL
namespace HL
open PySem PySem.Spec PyProof.Rows L2 Vf

theorem nat_iD (rs : List Nat) : iD (rs.map Int.ofNat) = natD rs := by
  unfold iD natD
  rw [List.map_map]
  rfl
def cX0 : List KQ := [(true, (0, 1)), (true, (1, 1))]
def cX1 : List KQ := [(false, (-1, 1)), (true, (1, 1))]
def lX0 : List KQ := [(false, (0, 1)), (false, (1, 1))]
def lX1 : List KQ := [(false, (-1, 1)), (false, (1, 1))]
section
variable {F : FT} {T : Vf.TP}
theorem any_comp {d : D} {b c e f g h i j k l : Option (Bool × D)} : ∀ w : List Int, (∀ x ∈ w, x ≤ 1) →
    compL [11] [11] (Vf.ret true) (evE F (.prim (.cmp .Gt) (.cons (.var 11) (.cons (.cst (.int (1))) .nil)))) (iD w) ⟨[some (false, d), b, c, e, f, g, h, i, j, k, l, none], T⟩ = .ok (List.replicate w.length (.bl false)) ⟨[some (false, d), b, c, e, f, g, h, i, j, k, l, none], T⟩
  | [], _ => rfl
  | x :: r, hw => by
    have h1 := hw x (List.mem_cons_self ..)
    have h2 : ¬ 1 < x := by omega
    have ih := any_comp (d := d) (b := b) (c := c) (e := e) (f := f) (g := g) (h := h) (i := i) (j := j) (k := k) (l := l) r (fun y hy => hw y (List.mem_cons_of_mem _ hy))
    show compL _ _ _ _ (.int x :: iD r) _ = .ok (List.replicate (r.length + 1) _) _
    rw [List.replicate_succ]
    refine comp_yes (x := (.bl false, false)) (s1 := ⟨[some (false, d), b, c, e, f, g, h, i, j, k, l, some (false, .int x)], T⟩) (s2 := ⟨[some (false, d), b, c, e, f, g, h, i, j, k, l, some (false, .int x)], T⟩) (s3 := ⟨[some (false, d), b, c, e, f, g, h, i, j, k, l, some (false, .int x)], T⟩) ?_ rfl ?_ ih
    · dsimp!
    · dsimp! [h2]
theorem eq_nil {w : List Int} (h : w ≠ []) : Vf.eqD (wordD w) (.tup []) = some false := by
  cases w with
  | nil => exact (h rfl).elim
  | cons a r =>
    have hk : (okD 60 (wordD (a :: r)) && okD 60 (.tup [])) = true := by
      have := ok_iD (a :: r) 59
      show (okDs 59 (iD (a :: r)) && _) = true
      rw [this]; rfl
    have e : Vf.eqD (wordD (a :: r)) (.tup []) = if okD 60 (wordD (a :: r)) && okD 60 (.tup []) then some (PyData.eqv (pd (wordD (a :: r))) (pd (.tup []))) else none := rfl
    rw [e, if_pos hk]
    rfl
theorem r_byblocks (h30 : ∀ p o out, tmul true p o = some out → F 30 [.tup (kqs p), .tup (kqs o)] T = .ok (.tup (kqs out)) false T)
    (h32 : ∀ l out, lsum (true, (0, 1)) 0 l = some out → F 32 [.tup (kqs l)] T = .ok (kqD out) false T)
    {f : Int} {w : List Int} {rs : List Nat} (h9 : F 9 [wordD (f :: w)] T = .ok .non false T) (h27 : F 27 [wordD (f :: w)] T = .ok (.tup (natD rs)) false T) (hw : ∀ x ∈ f :: w, x ≤ 1) (hl : (f :: w).length ≤ 12) (hk : 1 ≤ rs.length) (hk2 : rs.length ≤ 100)
    {R : Nat → List KQ} (hR : ∀ n ∈ rs, F 29 [.int (n : Nat)] T = .ok (.tup (kqs (R n))) false T) {P A B C : List KQ} {v : KQ} (e1 : foldK true R [(true, (1, 1))] rs = some P) (e2 : iterK true cX0 (rs.length / 2) [(true, (1, 1))] = some A) (e3 : iterK true cX1 ((rs.length - 1) / 2) A = some B)
    (e4 : tmul true P B = some C) (e5 : lsum (true, (0, 1)) 0 C = some v) (hv : okB v.2.1 = true) :
    runB F b_by_blocks [wordD (f :: w)] T = .ok (qD (v.2.1 * (if f = 0 ∨ (f :: w).length % 2 = 1 then 1 else -1), v.2.2)) false T := by
  have lw : ((f :: w).map D.int).length = (f :: w).length := List.length_map ..
  have lr : (natD rs).length = rs.length := List.length_map ..
  obtain ⟨x1, g1⟩ := fold_code (T := T) h30 (a := some (false, wordD (f :: w))) (b := some (false, .tup (natD rs))) (c := none) (d := none) (e := none) (f := none) (g := none) (h := none) (i := none) (j := none) rs [(true, (1, 1))] P none hR e1
  have hX0 : ∀ s : S, s.T = T → evEs F (.cons (.tup (.cons (.glo "ZERO" (.ktup [(.int (0)), (.int (1))])) (.cons (.glo "ONE" (.ktup [(.int (1)), (.int (1))])) .nil))) .nil) s = .ok [(.tup (kqs cX0), false)] s := fun s _ => by
    have ef : fits 2 = true := by decide
    dsimp! [ef]
    rfl
  have hX1 : ∀ s : S, s.T = T → evEs F (.cons (.tup (.cons (.tup (.cons (.prim .neg (.cons (.cst (.int (1))) .nil)) (.cons (.cst (.int (1))) .nil))) (.cons (.glo "ONE" (.ktup [(.int (1)), (.int (1))])) .nil))) .nil) s = .ok [(.tup (kqs cX1), false)] s := fun s _ => by
    have ef : fits 2 = true := by decide
    dsimp! [ef]
    rfl
  have hn : (rs.length : Int) - 1 - ((rs.length / 2 : Nat) : Int) = (((rs.length - 1) / 2 : Nat) : Int) := by omega
  have hh : (rs.length : Int).fdiv 2 = ((rs.length / 2 : Nat) : Int) := by rw [Int.fdiv_eq_ediv_of_nonneg _ (by omega)]; omega
  have hsm : (!decide ((2 : Int) = 0) && small 2) = true := by decide
  obtain ⟨x2, g2⟩ := iter_code (T := T) h30 hX0 (a := some (false, wordD (f :: w))) (b := some (false, .tup (natD rs))) (c := some (false, .tup (kqs P))) (d := x1) (e := some (false, .int f)) (f := some (false, .int ((rs.length / 2 : Nat) : Int))) (g := some (false, .int (((rs.length - 1) / 2 : Nat) : Int))) (h := none) (i := none) (j := none) (rs.length / 2) 0 [(true, (1, 1))] A none e2
  obtain ⟨x3, g3⟩ := iter_code (T := T) h30 hX1 (a := some (false, wordD (f :: w))) (b := some (false, .tup (natD rs))) (c := some (false, .tup (kqs P))) (d := x1) (e := some (false, .int f)) (f := some (false, .int ((rs.length / 2 : Nat) : Int))) (g := some (false, .int (((rs.length - 1) / 2 : Nat) : Int))) (h := none) (i := none) (j := none) ((rs.length - 1) / 2) 0 A B x2 e3
  have g4 := h30 _ _ _ e4
  have g5 := h32 _ _ e5
  have gv : kqD v = kD v.1 v.2 := rfl
  refine rb_rt rfl (st_cons (s1 := ⟨[some (false, wordD (f :: w)), none, none, none, none, none, none, none, none, none, none, none], T⟩) ?_ (st_cons (s1 := ⟨[some (false, wordD (f :: w)), none, none, none, none, none, none, none, none, none, none, none], T⟩) ?_
    (st_cons (s1 := ⟨[some (false, wordD (f :: w)), some (false, .tup (natD rs)), none, none, none, none, none, none, none, none, none, none], T⟩) ?_
    (st_cons (s1 := ⟨[some (false, wordD (f :: w)), some (false, .tup (natD rs)), some (false, .tup (kqs [(true, (1, 1))])), none, none, none, none, none, none, none, none, none], T⟩) ?_
    (st_cons (st_for (s0 := ⟨[some (false, wordD (f :: w)), some (false, .tup (natD rs)), some (false, .tup (kqs [(true, (1, 1))])), none, none, none, none, none, none, none, none, none], T⟩) (ds := natD rs) ?_ g1)
    (st_cons (s1 := ⟨[some (false, wordD (f :: w)), some (false, .tup (natD rs)), some (false, .tup (kqs P)), x1, some (false, .int f), none, none, none, none, none, none, none], T⟩) ?_
    (st_cons (s1 := ⟨[some (false, wordD (f :: w)), some (false, .tup (natD rs)), some (false, .tup (kqs P)), x1, some (false, .int f), some (false, .int ((rs.length / 2 : Nat) : Int)), none, none, none, none, none, none], T⟩) ?_
    (st_cons (s1 := ⟨[some (false, wordD (f :: w)), some (false, .tup (natD rs)), some (false, .tup (kqs P)), x1, some (false, .int f), some (false, .int ((rs.length / 2 : Nat) : Int)), some (false, .int (((rs.length - 1) / 2 : Nat) : Int)), none, none, none, none, none], T⟩) ?_
    (st_cons (s1 := ⟨[some (false, wordD (f :: w)), some (false, .tup (natD rs)), some (false, .tup (kqs P)), x1, some (false, .int f), some (false, .int ((rs.length / 2 : Nat) : Int)), some (false, .int (((rs.length - 1) / 2 : Nat) : Int)), some (false, .tup (kqs [(true, (1, 1))])), none, none, none, none], T⟩) ?_
    (st_cons (st_for (s0 := ⟨[some (false, wordD (f :: w)), some (false, .tup (natD rs)), some (false, .tup (kqs P)), x1, some (false, .int f), some (false, .int ((rs.length / 2 : Nat) : Int)), some (false, .int (((rs.length - 1) / 2 : Nat) : Int)), some (false, .tup (kqs [(true, (1, 1))])), none, none, none, none], T⟩) ?_ g2)
    (st_cons (st_for (s0 := ⟨[some (false, wordD (f :: w)), some (false, .tup (natD rs)), some (false, .tup (kqs P)), x1, some (false, .int f), some (false, .int ((rs.length / 2 : Nat) : Int)), some (false, .int (((rs.length - 1) / 2 : Nat) : Int)), some (false, .tup (kqs A)), x2, none, none, none], T⟩) ?_ g3)
    (st_cons (s1 := ⟨[some (false, wordD (f :: w)), some (false, .tup (natD rs)), some (false, .tup (kqs P)), x1, some (false, .int f), some (false, .int ((rs.length / 2 : Nat) : Int)), some (false, .int (((rs.length - 1) / 2 : Nat) : Int)), some (false, .tup (kqs B)), x3, some (false, kqD v), none, none], T⟩) ?_
    (st_cons (s1 := ⟨[some (false, wordD (f :: w)), some (false, .tup (natD rs)), some (false, .tup (kqs P)), x1, some (false, .int f), some (false, .int ((rs.length / 2 : Nat) : Int)), some (false, .int (((rs.length - 1) / 2 : Nat) : Int)), some (false, .tup (kqs B)), x3, some (false, kqD v), some (false, .int (if f = 0 ∨ (f :: w).length % 2 = 1 then 1 else -1)), none], T⟩) ?_
    (st_last (s1 := ⟨[some (false, wordD (f :: w)), some (false, .tup (natD rs)), some (false, .tup (kqs P)), x1, some (false, .int f), some (false, .int ((rs.length / 2 : Nat) : Int)), some (false, .int (((rs.length - 1) / 2 : Nat) : Int)), some (false, .tup (kqs B)), x3, some (false, kqD v), some (false, .int (if f = 0 ∨ (f :: w).length % 2 = 1 then 1 else -1)), none], T⟩) ?_)))))))))))))) rfl
  · dsimp! [b_by_blocks, h9]
  · refine st_ite_f (fr := false) (s1 := ⟨[some (false, wordD (f :: w)), none, none, none, none, none, none, none, none, none, none, none], T⟩) ?_ st_end
    have hc := ev_comp0 (F := F) (own := [11]) (tg := [11]) (it := .ex (.var 0)) (s := ⟨[some (false, wordD (f :: w)), none, none, none, none, none, none, none, none, none, none, none], T⟩) (s0 := ⟨[some (false, wordD (f :: w)), none, none, none, none, none, none, none, none, none, none, none], T⟩) (ds := iD (f :: w)) (by unfold wordD iD; dsimp!) rfl (any_comp (f :: w) hw) (decide_eq_true (by rw [List.length_replicate]; show _ ≤ 2 ^ 24; omega))
    have hb := ev_blt1 (F := F) (p := .blt "any") (fun _ h => by cases h) hc (r := (.bl false, false)) (by
      show (blsD _).map _ = _
      rw [bls_rep]
      show some (D.bl (List.any _ id), false) = _
      rw [any_rep])
    refine ev_or_f hb ?_
    have q1 := eq_nil (w := f :: w) (by simp)
    have q2 : ¬ (12 : Int) < ((f :: w).map D.int).length := by rw [lw]; omega
    have q3 : fits 0 = true := by decide
    show evE F _ ⟨[some (false, wordD (f :: w)), none, none, none, none, none, none, none, none, none, none, none], T⟩ = _
    have q4 : lenD (wordD (f :: w)) = some (.int ((f :: w).map D.int).length, false) := rfl
    generalize wordD (f :: w) = W at q1 q4 ⊢
    generalize (((f :: w).map D.int).length : Int) = N at q2 q4
    dsimp! [q1, q2, q3, -lenD, q4]
  · dsimp! [h27]
  · have ef : fits 1 = true := by decide
    dsimp! [ef]
    rfl
  · dsimp!
  · unfold wordD
    dsimp!
  · dsimp! [lr, hh, hsm]
  · dsimp! [lr, hn]
  · have ef : fits 1 = true := by decide
    dsimp! [ef]
    rfl
  · exact it_rngn (fr := false) (by dsimp!) (by omega)
  · exact it_rngn (fr := false) (by dsimp!) (by omega)
  · dsimp! [g4, g5]
  · have hm : ((f :: w).length : Int).fmod 2 = (((f :: w).length % 2 : Nat) : Int) := by rw [Int.fmod_eq_emod_of_nonneg _ (by omega)]; rfl
    have q4 : lenD (wordD (f :: w)) = some (.int ((f :: w).length : Nat), false) := by
      show some (D.int (((f :: w).map D.int).length : Nat), false) = _
      rw [lw]
    have q5 : (!decide ((2 : Int) = 0)) = true := by decide
    generalize wordD (f :: w) = W at q4 ⊢
    generalize (f :: w).length = N at hm q4 ⊢
    by_cases c1 : f = 0
    · rw [if_pos (Or.inl c1)]
      dsimp! [c1]
    · by_cases c2 : N % 2 = 1
      · rw [if_pos (Or.inr c2)]
        have c3 : ((N % 2 : Nat) : Int) = 1 := by omega
        dsimp! [c1, -lenD, q4, hm, q5, c3]
      · rw [if_neg (fun h => h.elim c1 c2)]
        have c3 : ¬ ((N % 2 : Nat) : Int) = 1 := by omega
        dsimp! [c1, -lenD, q4, hm, q5, c3]
  · have m1 : decide (v.2.1.natAbs.log2 + (if f = 0 ∨ (f :: w).length % 2 = 1 then (1 : Int) else -1).natAbs.log2 < 1000000) = true := mul_ok hv (by split <;> decide)
    have ef : fits 2 = true := by decide
    obtain ⟨kv, a, b⟩ := v
    generalize (if f = 0 ∨ (f :: w).length % 2 = 1 then (1 : Int) else -1) = sg at m1 ⊢
    cases kv <;> dsimp! [kqD, kD, ef, m1, qD]
theorem r_goldberg (h40 : ∀ p o out, tmul false p o = some out → F 40 [.lst (kqs p), .lst (kqs o)] T = .ok (.lst (kqs out)) true T)
    (h37 : ∀ (p q r : Q) k1 k2, addQ p q = some r → F 37 [kD k1 p, kD k2 q] T = .ok (qD r) false T) (h39 : ∀ (p q r : Q) k1 k2, divQ p q = some r → F 39 [kD k1 p, kD k2 q] T = .ok (qD r) false T)
    {f : Int} {w : List Int} {rs : List Nat} (hk : 1 ≤ rs.length) (hk2 : rs.length ≤ 100)
    {R : Nat → List KQ} (hR : ∀ n ∈ rs, F 41 [.int (n : Nat)] T = .ok (.lst (kqs (R n))) true T) {P A B : List KQ} {v : KQ} (e1 : foldK false R [(false, (1, 1))] rs = some P) (e2 : iterK false lX0 (rs.length / 2) P = some A) (e3 : iterK false lX1 ((rs.length - 1) / 2) A = some B)
    (e5 : lsum (false, (0, 1)) 0 B = some v) :
    runB F b__law_goldberg [wordD (f :: w), .lst (natD rs)] T = .ok (if f = 1 ∧ (f :: w).length % 2 = 0 then qD (-v.2.1, v.2.2) else kqD v) false T := by
  have lw : ((f :: w).map D.int).length = (f :: w).length := List.length_map ..
  have lr : (natD rs).length = rs.length := List.length_map ..
  obtain ⟨x1, g1⟩ := fold_law (T := T) h40 (a := some (false, wordD (f :: w))) (b := some (false, .lst (natD rs))) (c := none) (d := none) (e := none) (f := none) rs [(false, (1, 1))] P none hR e1
  have hX0 : ∀ s : S, s.T = T → evEs F (.cons (.lst (.cons (.tup (.cons (.cst (.int (0))) (.cons (.cst (.int (1))) .nil))) (.cons (.tup (.cons (.cst (.int (1))) (.cons (.cst (.int (1))) .nil))) .nil))) .nil) s = .ok [(.lst (kqs lX0), true)] s := fun s _ => by
    have ef : fits 2 = true := by decide
    dsimp! [ef]
    rfl
  have hX1 : ∀ s : S, s.T = T → evEs F (.cons (.lst (.cons (.tup (.cons (.prim .neg (.cons (.cst (.int (1))) .nil)) (.cons (.cst (.int (1))) .nil))) (.cons (.tup (.cons (.cst (.int (1))) (.cons (.cst (.int (1))) .nil))) .nil))) .nil) s = .ok [(.lst (kqs lX1), true)] s := fun s _ => by
    have ef : fits 2 = true := by decide
    dsimp! [ef]
    rfl
  have hn : ((rs.length : Int) - 1).fdiv 2 = (((rs.length - 1) / 2 : Nat) : Int) := by rw [Int.fdiv_eq_ediv_of_nonneg _ (by omega)]; omega
  have hh : (rs.length : Int).fdiv 2 = ((rs.length / 2 : Nat) : Int) := by rw [Int.fdiv_eq_ediv_of_nonneg _ (by omega)]; omega
  have hsm : (!decide ((2 : Int) = 0) && small 2) = true := by decide
  obtain ⟨x2, g2⟩ := iter_law (T := T) h40 hX0 (a := some (false, wordD (f :: w))) (b := some (false, .lst (natD rs))) (c := x1) (d := none) (e := none) (f := none) (rs.length / 2) 0 P A none e2
  obtain ⟨x3, g3⟩ := iter_law (T := T) h40 hX1 (a := some (false, wordD (f :: w))) (b := some (false, .lst (natD rs))) (c := x1) (d := none) (e := none) (f := none) ((rs.length - 1) / 2) 0 A B x2 e3
  obtain ⟨x6, x7, g5⟩ := total_loop (T := T) h37 h39 (a := some (false, wordD (f :: w))) (b := some (false, .lst (natD rs))) (c := some (false, .lst (kqs B))) (d := x1) (e := x3) B (false, (0, 1)) v 0 none none e5
  refine rb_rt rfl (st_cons (s1 := ⟨[some (false, wordD (f :: w)), some (false, .lst (natD rs)), some (true, .lst (kqs [(false, (1, 1))])), none, none, none, none, none], T⟩) ?_
    (st_cons (st_for (s0 := ⟨[some (false, wordD (f :: w)), some (false, .lst (natD rs)), some (true, .lst (kqs [(false, (1, 1))])), none, none, none, none, none], T⟩) (ds := natD rs) ?_ g1)
    (st_cons (st_for (s0 := ⟨[some (false, wordD (f :: w)), some (false, .lst (natD rs)), some (true, .lst (kqs P)), x1, none, none, none, none], T⟩) ?_ g2)
    (st_cons (st_for (s0 := ⟨[some (false, wordD (f :: w)), some (false, .lst (natD rs)), some (true, .lst (kqs A)), x1, x2, none, none, none], T⟩) ?_ g3)
    (st_cons (s1 := ⟨[some (false, wordD (f :: w)), some (false, .lst (natD rs)), some (true, .lst (kqs B)), x1, x3, some (false, kqD (false, (0, 1))), none, none], T⟩) ?_
    (st_cons (st_for (s0 := ⟨[some (false, wordD (f :: w)), some (false, .lst (natD rs)), some (false, .lst (kqs B)), x1, x3, some (false, kqD (false, (0, 1))), none, none], T⟩) (ds := enumD 0 (kqs B)) ?_ g5)
    (st_last (s1 := ⟨[some (false, wordD (f :: w)), some (false, .lst (natD rs)), some (false, .lst (kqs B)), x1, x3, some (false, kqD v), x6, x7], T⟩) ?_))))))) rfl
  · have ef : fits 2 = true := by decide
    have ef1 : fits 1 = true := by decide
    dsimp! [b__law_goldberg, ef, ef1]
    rfl
  · dsimp!
  · exact it_rngn (fr := false) (by dsimp! [lr, hh, hsm]) (by omega)
  · exact it_rngn (fr := false) (by dsimp! [lr, hn, hsm]) (by omega)
  · have ef : fits 2 = true := by decide
    dsimp! [ef]
    rfl
  · dsimp!
  · have hm : ((f :: w).length : Int).fmod 2 = (((f :: w).length % 2 : Nat) : Int) := by rw [Int.fmod_eq_emod_of_nonneg _ (by omega)]; rfl
    have q4 : lenD (wordD (f :: w)) = some (.int ((f :: w).length : Nat), false) := by
      show some (D.int (((f :: w).map D.int).length : Nat), false) = _
      rw [lw]
    have q5 : (!decide ((2 : Int) = 0)) = true := by decide
    have q6 : idxD (wordD (f :: w)) (.int 0) = some (.int f, false) := u_ix0
    have ef : fits 2 = true := by decide
    have q7 : idxD (kqD v) (.int 0) = some (.int v.2.1, false) := by
      obtain ⟨kv, a, b⟩ := v
      cases kv
      · exact u_ix0
      · exact u_ix0k
    have q8 : idxD (kqD v) (.int 1) = some (.int v.2.2, false) := by
      obtain ⟨kv, a, b⟩ := v
      cases kv
      · exact u_ix1
      · exact u_ix1k
    generalize wordD (f :: w) = W at q4 q6 ⊢
    generalize (f :: w).length = N at hm q4 ⊢
    by_cases c1 : f = 1
    · by_cases c2 : N % 2 = 0
      · rw [if_pos ⟨c1, c2⟩]
        have c3 : ((N % 2 : Nat) : Int) = 0 := by omega
        dsimp! [c1, q6, -lenD, q4, hm, q5, c3, q7, q8, ef, qD]
      · rw [if_neg (fun h => c2 h.2)]
        have c3 : ¬ ((N % 2 : Nat) : Int) = 0 := by omega
        dsimp! [c1, q6, -lenD, q4, hm, q5, c3]
    · rw [if_neg (fun h => c1 h.1)]
      dsimp! [c1, q6]
end
end HL
namespace HL
open PySem PySem.Spec PyProof.Rows L2 Vf

mutual
def plain : Nat → D → Bool
  | _, .int _ => true
  | n + 1, .tup ds => plains n ds && decide (ds.length ≤ 1000)
  | _, _ => false
def plains : Nat → List D → Bool
  | _, [] => true
  | n, d :: ds => plain n d && plains n ds
end
theorem plains_mem : ∀ {n : Nat} {ds : List D}, plains n ds = true → ∀ d ∈ ds, plain n d = true
  | n, [], _, d, h => by cases h
  | n, a :: r, hp, d, h => by
    unfold plains at hp
    rw [Bool.and_eq_true] at hp
    rcases List.mem_cons.mp h with rfl | h
    · exact hp.1
    · exact plains_mem hp.2 d h
theorem same_int {F : FT} {T : Vf.TP} (i : Int) : runB F b__law_same [.int i, .int i] T = .ok (.bl true) false T := by
  refine rb_rt rfl (st_cons (s1 := ⟨[some (false, .int i), some (false, .int i), none], T⟩) ?_ (st_cons (s1 := ⟨[some (false, .int i), some (false, .int i), none], T⟩) ?_ (st_cons (s1 := ⟨[some (false, .int i), some (false, .int i), none], T⟩) ?_ (st_cons (s1 := ⟨[some (false, .int i), some (false, .int i), none], T⟩) ?_ (st_last (s1 := ⟨[some (false, .int i), some (false, .int i), none], T⟩) ?_))))) rfl
  · dsimp! [b__law_same, isND]
  · dsimp!
  · dsimp!
  · dsimp!
  · dsimp!
theorem same_comp {F : FT} {T : Vf.TP} {ds : List D} (h : ∀ d ∈ ds, F 35 [d, d] T = .ok (.bl true) false T) : ∀ (m j : Nat), j + m = ds.length →
    compL [2] [2] (Vf.ret true) (evE F (.call 35 (.cons (.prim .idx (.cons (.var 0) (.cons (.var 2) .nil))) (.cons (.prim .idx (.cons (.var 1) (.cons (.var 2) .nil))) .nil)))) (rngN j m) ⟨[some (false, .tup ds), some (false, .tup ds), none], T⟩ = .ok (List.replicate m (.bl true)) ⟨[some (false, .tup ds), some (false, .tup ds), none], T⟩
  | 0, j, _ => rfl
  | m + 1, j, hj => by
    have ih := same_comp h m (j + 1) (by omega)
    have hlt : j < ds.length := by omega
    have hg : ds[j]? = some ds[j] := List.getElem?_eq_getElem hlt
    have h2 := h ds[j] (List.getElem_mem hlt)
    have i1 : idxD (.tup ds) (.int (j : Nat)) = some (ds[j], false) := by
      show (at? _ ds).map _ = _
      have : at? ((j : Nat) : Int) ds = some ds[j] := atI_nat hg
      rw [this]; rfl
    show compL _ _ _ _ (.int (j : Nat) :: rngN (j + 1) m) _ = .ok (List.replicate (m + 1) _) _
    rw [List.replicate_succ]
    refine comp_yes (x := (.bl true, false)) (s1 := ⟨[some (false, .tup ds), some (false, .tup ds), some (false, .int (j : Nat))], T⟩) (s2 := ⟨[some (false, .tup ds), some (false, .tup ds), some (false, .int (j : Nat))], T⟩) (s3 := ⟨[some (false, .tup ds), some (false, .tup ds), some (false, .int (j : Nat))], T⟩) ?_ rfl ?_ ih
    · dsimp!
    · dsimp! [i1, h2]
theorem same_tup {F : FT} {T : Vf.TP} {ds : List D} (hl : ds.length ≤ 1000) (h : ∀ d ∈ ds, F 35 [d, d] T = .ok (.bl true) false T) : runB F b__law_same [.tup ds, .tup ds] T = .ok (.bl true) false T := by
  have hc := ev_comp0 (F := F) (own := [2]) (tg := [2]) (it := .rng1 (.prim (.blt "len") (.cons (.var 1) .nil))) (s := ⟨[some (false, .tup ds), some (false, .tup ds), none], T⟩) (s0 := ⟨[some (false, .tup ds), some (false, .tup ds), none], T⟩) (ds := rngN 0 ds.length) (it_rngn (fr := false) (by dsimp!) hl) rfl (same_comp h ds.length 0 (by omega)) (decide_eq_true (by rw [List.length_replicate]; show _ ≤ 2 ^ 24; omega))
  have hb := ev_blt1 (F := F) (p := .blt "all") (fun _ h => by cases h) hc (r := (.bl true, false)) (by
    show (blsD _).map _ = _
    rw [bls_rep]
    show some (D.bl (List.all _ id), false) = _
    rw [all_rep])
  refine rb_rt rfl (st_cons (s1 := ⟨[some (false, .tup ds), some (false, .tup ds), none], T⟩) ?_ (st_cons (s1 := ⟨[some (false, .tup ds), some (false, .tup ds), none], T⟩) ?_ (st_last (s1 := ⟨[some (false, .tup ds), some (false, .tup ds), none], T⟩) ?_))) rfl
  · dsimp! [b__law_same, isND]
  · dsimp!
  · refine st_ite_t (fr := false) (s1 := ⟨[some (false, .tup ds), some (false, .tup ds), none], T⟩) (by dsimp!) (st_cons (s1 := ⟨[some (false, .tup ds), some (false, .tup ds), none], T⟩) ?_ (st_last (st_ret (fun _ h => by cases h) hb)))
    dsimp!
theorem k_same (T : Vf.TP) : ∀ (n k : Nat) (d : D), plain n d = true → Vf.run Ps (k + n + 1) 35 [d, d] T = .ok (.bl true) false T
  | n, k, .int i, _ => by rw [run_body (f := b__law_same) rfl]; exact same_int i
  | n + 1, k, .tup ds, h => by
    unfold plain at h
    rw [Bool.and_eq_true, decide_eq_true_eq] at h
    rw [run_body (f := b__law_same) rfl]
    exact same_tup h.2 fun d hd => k_same T n k d (plains_mem h.1 d hd)
  | 0, k, .tup ds, h => by simp [plain] at h
  | n, k, .non, h => by simp [plain] at h
  | n, k, .bl _, h => by simp [plain] at h
  | n, k, .str _, h => by simp [plain] at h
  | n, k, .lst _, h => by simp [plain] at h
  | n, k, .ktup _, h => by simp [plain] at h
  | n, k, .dic _ _, h => by simp [plain] at h
  | n, k, .tape, h => by simp [plain] at h
end HL
namespace HL
open PySem PySem.Spec PyProof.Rows L2 Vf

mutual
def same : D → D → Bool
  | .non, .non => true
  | .bl a, .bl b => a == b
  | .int a, .int b => decide (a = b)
  | .tup a, .tup b => sames a b
  | .lst a, .lst b => sames a b
  | .ktup a, .ktup b => sames a b
  | _, _ => false
def sames : List D → List D → Bool
  | [], [] => true
  | a :: r, b :: t => same a b && sames r t
  | _, _ => false
end
mutual
theorem same_eq : ∀ {a b : D}, same a b = true → a = b
  | .non, b, h => by cases b <;> simp [same] at h ⊢
  | .bl x, b, h => by cases b <;> simp [same] at h ⊢; exact h
  | .int x, b, h => by cases b <;> simp [same] at h ⊢; exact h
  | .tup x, b, h => by
    cases b with
    | tup y => simp only [same] at h; rw [sames_eq h]
    | _ => simp [same] at h
  | .lst x, b, h => by
    cases b with
    | lst y => simp only [same] at h; rw [sames_eq h]
    | _ => simp [same] at h
  | .ktup x, b, h => by
    cases b with
    | ktup y => simp only [same] at h; rw [sames_eq h]
    | _ => simp [same] at h
  | .str x, b, h => by simp [same] at h
  | .dic x y, b, h => by simp [same] at h
  | .tape, b, h => by simp [same] at h
theorem sames_eq : ∀ {a b : List D}, sames a b = true → a = b
  | [], [], _ => rfl
  | [], _ :: _, h => by simp [sames] at h
  | _ :: _, [], h => by simp [sames] at h
  | a :: r, b :: t, h => by
    simp only [sames, Bool.and_eq_true] at h
    rw [same_eq h.1, sames_eq h.2]
end
def sameR (r : FRes) (d : D) (fr : Bool) : Bool := match r with
  | .ok e f _ => same e d && (f == fr)
  | _ => false
def Fact (i : Nat) (ds : List D) (d : D) (fr : Bool) : Prop := ∀ m, 17 ≤ m → ∀ T, Vf.run Ps m i ds T = .ok d fr T
theorem fact_of {i : Nat} {ds : List D} {d : D} {fr : Bool} (h : sameR (E2 i ds none) d fr = true) : Fact i ds d fr := fun m hm T => by
  unfold sameR at h
  split at h
  · rename_i e f T0 he
    simp only [Bool.and_eq_true, beq_iff_eq] at h
    rw [← same_eq h.1, ← h.2]
    exact E2_fact he hm T
  · cases h

structure En where
  c : Nat
  k : Nat
  s : Nat
  P : List Q
  v : Q
def rp : Nat → List Q
  | 1 => [(1, 1)]
  | 2 => [(-1, 2), (1, 1)]
  | 3 => [(1, 6), (-1, 1), (1, 1)]
  | 4 => [(-1, 24), (7, 12), (-3, 2), (1, 1)]
  | _ => []
def tab0 : List En := [
  ⟨0, 0, 0, [(1, 1)], (0, 1)⟩,
  ⟨1, 1, 1, [(1, 1)], (1, 1)⟩,
  ⟨7, 1, 2, [(-1, 2), (1, 1)], (0, 1)⟩,
  ⟨49, 1, 3, [(1, 6), (-1, 1), (1, 1)], (0, 1)⟩,
  ⟨343, 1, 4, [(-1, 24), (7, 12), (-3, 2), (1, 1)], (0, 1)⟩,
  ⟨2, 2, 2, [(1, 1)], (1, 2)⟩,
  ⟨8, 2, 3, [(-1, 2), (1, 1)], (1, 12)⟩,
  ⟨50, 2, 4, [(1, 6), (-1, 1), (1, 1)], (0, 1)⟩,
  ⟨344, 2, 5, [(-1, 24), (7, 12), (-3, 2), (1, 1)], (-1, 720)⟩,
  ⟨14, 2, 4, [(1, 4), (-1, 1), (1, 1)], (1, 24)⟩,
  ⟨56, 2, 5, [(-1, 12), (2, 3), (-3, 2), (1, 1)], (1, 180)⟩,
  ⟨350, 2, 6, [(1, 48), (-1, 3), (4, 3), (-2, 1), (1, 1)], (-1, 1440)⟩,
  ⟨98, 2, 6, [(1, 36), (-1, 3), (4, 3), (-2, 1), (1, 1)], (1, 360)⟩,
  ⟨392, 2, 7, [(-1, 144), (5, 36), (-7, 8), (9, 4), (-5, 2), (1, 1)], (1, 3780)⟩,
  ⟨686, 2, 8, [(1, 576), (-7, 144), (67, 144), (-11, 6), (41, 12), (-3, 1), (1, 1)], (23, 120960)⟩,
  ⟨3, 3, 3, [(1, 1)], (-1, 6)⟩,
  ⟨9, 3, 4, [(-1, 2), (1, 1)], (0, 1)⟩,
  ⟨51, 3, 5, [(1, 6), (-1, 1), (1, 1)], (1, 180)⟩,
  ⟨345, 3, 6, [(-1, 24), (7, 12), (-3, 2), (1, 1)], (0, 1)⟩,
  ⟨15, 3, 5, [(1, 4), (-1, 1), (1, 1)], (-1, 120)⟩]
def tab1 : List En := [
  ⟨57, 3, 6, [(-1, 12), (2, 3), (-3, 2), (1, 1)], (0, 1)⟩,
  ⟨351, 3, 7, [(1, 48), (-1, 3), (4, 3), (-2, 1), (1, 1)], (1, 2016)⟩,
  ⟨99, 3, 7, [(1, 36), (-1, 3), (4, 3), (-2, 1), (1, 1)], (-1, 1512)⟩,
  ⟨393, 3, 8, [(-1, 144), (5, 36), (-7, 8), (9, 4), (-5, 2), (1, 1)], (0, 1)⟩,
  ⟨687, 3, 9, [(1, 576), (-7, 144), (67, 144), (-11, 6), (41, 12), (-3, 1), (1, 1)], (-1, 17280)⟩,
  ⟨21, 3, 6, [(-1, 8), (3, 4), (-3, 2), (1, 1)], (0, 1)⟩,
  ⟨63, 3, 7, [(1, 24), (-5, 12), (17, 12), (-2, 1), (1, 1)], (-1, 5040)⟩,
  ⟨357, 3, 8, [(-1, 96), (3, 16), (-1, 1), (7, 3), (-5, 2), (1, 1)], (0, 1)⟩,
  ⟨105, 3, 8, [(-1, 72), (7, 36), (-1, 1), (7, 3), (-5, 2), (1, 1)], (0, 1)⟩,
  ⟨399, 3, 9, [(1, 288), (-11, 144), (83, 144), (-2, 1), (7, 2), (-3, 1), (1, 1)], (-1, 60480)⟩,
  ⟨693, 3, 10, [(-1, 1152), (5, 192), (-9, 32), (199, 144), (-85, 24), (59, 12), (-7, 2), (1, 1)], (0, 1)⟩,
  ⟨147, 3, 9, [(1, 216), (-1, 12), (7, 12), (-2, 1), (7, 2), (-3, 1), (1, 1)], (1, 45360)⟩,
  ⟨441, 3, 10, [(-1, 864), (13, 432), (-7, 24), (25, 18), (-85, 24), (59, 12), (-7, 2), (1, 1)], (0, 1)⟩,
  ⟨735, 3, 11, [(1, 3456), (-17, 1728), (221, 1728), (-59, 72), (413, 144), (-23, 4), (79, 12), (-4, 1), (1, 1)], (13, 7983360)⟩,
  ⟨1029, 3, 12, [(-1, 13824), (7, 2304), (-29, 576), (365, 864), (-47, 24), (16, 3), (-35, 4), (17, 2), (-9, 2), (1, 1)], (0, 1)⟩,
  ⟨4, 4, 4, [(1, 1)], (-1, 12)⟩,
  ⟨10, 4, 5, [(-1, 2), (1, 1)], (-1, 120)⟩,
  ⟨52, 4, 6, [(1, 6), (-1, 1), (1, 1)], (1, 360)⟩,
  ⟨346, 4, 7, [(-1, 24), (7, 12), (-3, 2), (1, 1)], (1, 2016)⟩,
  ⟨16, 4, 6, [(1, 4), (-1, 1), (1, 1)], (-1, 240)⟩]
def tab2 : List En := [
  ⟨58, 4, 7, [(-1, 12), (2, 3), (-3, 2), (1, 1)], (-1, 5040)⟩,
  ⟨352, 4, 8, [(1, 48), (-1, 3), (4, 3), (-2, 1), (1, 1)], (1, 4032)⟩,
  ⟨100, 4, 8, [(1, 36), (-1, 3), (4, 3), (-2, 1), (1, 1)], (-1, 3024)⟩,
  ⟨394, 4, 9, [(-1, 144), (5, 36), (-7, 8), (9, 4), (-5, 2), (1, 1)], (-1, 60480)⟩,
  ⟨688, 4, 10, [(1, 576), (-7, 144), (67, 144), (-11, 6), (41, 12), (-3, 1), (1, 1)], (-1, 34560)⟩,
  ⟨22, 4, 7, [(-1, 8), (3, 4), (-3, 2), (1, 1)], (-1, 1120)⟩,
  ⟨64, 4, 8, [(1, 24), (-5, 12), (17, 12), (-2, 1), (1, 1)], (-1, 10080)⟩,
  ⟨358, 4, 9, [(-1, 96), (3, 16), (-1, 1), (7, 3), (-5, 2), (1, 1)], (1, 40320)⟩,
  ⟨106, 4, 9, [(-1, 72), (7, 36), (-1, 1), (7, 3), (-5, 2), (1, 1)], (-1, 30240)⟩,
  ⟨400, 4, 10, [(1, 288), (-11, 144), (83, 144), (-2, 1), (7, 2), (-3, 1), (1, 1)], (-1, 120960)⟩,
  ⟨694, 4, 11, [(-1, 1152), (5, 192), (-9, 32), (199, 144), (-85, 24), (59, 12), (-7, 2), (1, 1)], (-17, 5322240)⟩,
  ⟨148, 4, 10, [(1, 216), (-1, 12), (7, 12), (-2, 1), (7, 2), (-3, 1), (1, 1)], (1, 90720)⟩,
  ⟨442, 4, 11, [(-1, 864), (13, 432), (-7, 24), (25, 18), (-85, 24), (59, 12), (-7, 2), (1, 1)], (1, 3991680)⟩,
  ⟨736, 4, 12, [(1, 3456), (-17, 1728), (221, 1728), (-59, 72), (413, 144), (-23, 4), (79, 12), (-4, 1), (1, 1)], (13, 15966720)⟩,
  ⟨28, 4, 8, [(1, 16), (-1, 2), (3, 2), (-2, 1), (1, 1)], (-1, 2240)⟩,
  ⟨70, 4, 9, [(-1, 48), (1, 4), (-9, 8), (29, 12), (-5, 2), (1, 1)], (-1, 20160)⟩,
  ⟨364, 4, 10, [(1, 192), (-5, 48), (11, 16), (-13, 6), (43, 12), (-3, 1), (1, 1)], (1, 80640)⟩,
  ⟨112, 4, 10, [(1, 144), (-1, 9), (25, 36), (-13, 6), (43, 12), (-3, 1), (1, 1)], (-1, 60480)⟩,
  ⟨406, 4, 11, [(-1, 576), (1, 24), (-35, 96), (227, 144), (-15, 4), (5, 1), (-7, 2), (1, 1)], (-1, 887040)⟩,
  ⟨700, 4, 12, [(1, 2304), (-1, 72), (1, 6), (-35, 36), (227, 72), (-6, 1), (20, 3), (-4, 1), (1, 1)], (-17, 10644480)⟩]
def tab3 : List En := [
  ⟨154, 4, 11, [(-1, 432), (5, 108), (-3, 8), (19, 12), (-15, 4), (5, 1), (-7, 2), (1, 1)], (-1, 399168)⟩,
  ⟨448, 4, 12, [(1, 1728), (-7, 432), (19, 108), (-71, 72), (455, 144), (-6, 1), (20, 3), (-4, 1), (1, 1)], (1, 7983360)⟩,
  ⟨196, 4, 12, [(1, 1296), (-1, 54), (5, 27), (-1, 1), (19, 6), (-6, 1), (20, 3), (-4, 1), (1, 1)], (-13, 5987520)⟩,
  ⟨5, 5, 5, [(1, 1)], (1, 30)⟩,
  ⟨11, 5, 6, [(-1, 2), (1, 1)], (0, 1)⟩,
  ⟨53, 5, 7, [(1, 6), (-1, 1), (1, 1)], (-1, 630)⟩,
  ⟨347, 5, 8, [(-1, 24), (7, 12), (-3, 2), (1, 1)], (0, 1)⟩,
  ⟨17, 5, 7, [(1, 4), (-1, 1), (1, 1)], (1, 840)⟩,
  ⟨59, 5, 8, [(-1, 12), (2, 3), (-3, 2), (1, 1)], (0, 1)⟩,
  ⟨353, 5, 9, [(1, 48), (-1, 3), (4, 3), (-2, 1), (1, 1)], (-1, 10080)⟩,
  ⟨101, 5, 9, [(1, 36), (-1, 3), (4, 3), (-2, 1), (1, 1)], (1, 7560)⟩,
  ⟨395, 5, 10, [(-1, 144), (5, 36), (-7, 8), (9, 4), (-5, 2), (1, 1)], (0, 1)⟩,
  ⟨689, 5, 11, [(1, 576), (-7, 144), (67, 144), (-11, 6), (41, 12), (-3, 1), (1, 1)], (1, 88704)⟩,
  ⟨23, 5, 8, [(-1, 8), (3, 4), (-3, 2), (1, 1)], (0, 1)⟩,
  ⟨65, 5, 9, [(1, 24), (-5, 12), (17, 12), (-2, 1), (1, 1)], (0, 1)⟩,
  ⟨359, 5, 10, [(-1, 96), (3, 16), (-1, 1), (7, 3), (-5, 2), (1, 1)], (0, 1)⟩,
  ⟨107, 5, 10, [(-1, 72), (7, 36), (-1, 1), (7, 3), (-5, 2), (1, 1)], (0, 1)⟩,
  ⟨401, 5, 11, [(1, 288), (-11, 144), (83, 144), (-2, 1), (7, 2), (-3, 1), (1, 1)], (1, 332640)⟩,
  ⟨695, 5, 12, [(-1, 1152), (5, 192), (-9, 32), (199, 144), (-85, 24), (59, 12), (-7, 2), (1, 1)], (0, 1)⟩,
  ⟨149, 5, 11, [(1, 216), (-1, 12), (7, 12), (-2, 1), (7, 2), (-3, 1), (1, 1)], (-1, 124740)⟩]
def tab4 : List En := [
  ⟨443, 5, 12, [(-1, 864), (13, 432), (-7, 24), (25, 18), (-85, 24), (59, 12), (-7, 2), (1, 1)], (0, 1)⟩,
  ⟨29, 5, 9, [(1, 16), (-1, 2), (3, 2), (-2, 1), (1, 1)], (1, 10080)⟩,
  ⟨71, 5, 10, [(-1, 48), (1, 4), (-9, 8), (29, 12), (-5, 2), (1, 1)], (0, 1)⟩,
  ⟨365, 5, 11, [(1, 192), (-5, 48), (11, 16), (-13, 6), (43, 12), (-3, 1), (1, 1)], (-1, 190080)⟩,
  ⟨113, 5, 11, [(1, 144), (-1, 9), (25, 36), (-13, 6), (43, 12), (-3, 1), (1, 1)], (1, 332640)⟩,
  ⟨407, 5, 12, [(-1, 576), (1, 24), (-35, 96), (227, 144), (-15, 4), (5, 1), (-7, 2), (1, 1)], (0, 1)⟩,
  ⟨155, 5, 12, [(-1, 432), (5, 108), (-3, 8), (19, 12), (-15, 4), (5, 1), (-7, 2), (1, 1)], (0, 1)⟩,
  ⟨35, 5, 10, [(-1, 32), (5, 16), (-5, 4), (5, 2), (-5, 2), (1, 1)], (0, 1)⟩,
  ⟨77, 5, 11, [(1, 96), (-7, 48), (13, 16), (-7, 3), (11, 3), (-3, 1), (1, 1)], (1, 332640)⟩,
  ⟨371, 5, 12, [(-1, 384), (11, 192), (-43, 96), (85, 48), (-95, 24), (61, 12), (-7, 2), (1, 1)], (0, 1)⟩,
  ⟨119, 5, 12, [(-1, 288), (1, 16), (-11, 24), (16, 9), (-95, 24), (61, 12), (-7, 2), (1, 1)], (0, 1)⟩,
  ⟨6, 6, 6, [(1, 1)], (1, 60)⟩,
  ⟨12, 6, 7, [(-1, 2), (1, 1)], (1, 840)⟩,
  ⟨54, 6, 8, [(1, 6), (-1, 1), (1, 1)], (-1, 1260)⟩,
  ⟨348, 6, 9, [(-1, 24), (7, 12), (-3, 2), (1, 1)], (-1, 10080)⟩,
  ⟨18, 6, 8, [(1, 4), (-1, 1), (1, 1)], (1, 1680)⟩,
  ⟨60, 6, 9, [(-1, 12), (2, 3), (-3, 2), (1, 1)], (0, 1)⟩,
  ⟨354, 6, 10, [(1, 48), (-1, 3), (4, 3), (-2, 1), (1, 1)], (-1, 20160)⟩,
  ⟨102, 6, 10, [(1, 36), (-1, 3), (4, 3), (-2, 1), (1, 1)], (1, 15120)⟩,
  ⟨396, 6, 11, [(-1, 144), (5, 36), (-7, 8), (9, 4), (-5, 2), (1, 1)], (1, 332640)⟩]
def tab5 : List En := [
  ⟨690, 6, 12, [(1, 576), (-7, 144), (67, 144), (-11, 6), (41, 12), (-3, 1), (1, 1)], (1, 177408)⟩,
  ⟨24, 6, 9, [(-1, 8), (3, 4), (-3, 2), (1, 1)], (1, 10080)⟩,
  ⟨66, 6, 10, [(1, 24), (-5, 12), (17, 12), (-2, 1), (1, 1)], (0, 1)⟩,
  ⟨360, 6, 11, [(-1, 96), (3, 16), (-1, 1), (7, 3), (-5, 2), (1, 1)], (-1, 190080)⟩,
  ⟨108, 6, 11, [(-1, 72), (7, 36), (-1, 1), (7, 3), (-5, 2), (1, 1)], (1, 332640)⟩,
  ⟨402, 6, 12, [(1, 288), (-11, 144), (83, 144), (-2, 1), (7, 2), (-3, 1), (1, 1)], (1, 665280)⟩,
  ⟨150, 6, 12, [(1, 216), (-1, 12), (7, 12), (-2, 1), (7, 2), (-3, 1), (1, 1)], (-1, 249480)⟩,
  ⟨30, 6, 10, [(1, 16), (-1, 2), (3, 2), (-2, 1), (1, 1)], (1, 20160)⟩,
  ⟨72, 6, 11, [(-1, 48), (1, 4), (-9, 8), (29, 12), (-5, 2), (1, 1)], (1, 332640)⟩,
  ⟨366, 6, 12, [(1, 192), (-5, 48), (11, 16), (-13, 6), (43, 12), (-3, 1), (1, 1)], (-1, 380160)⟩,
  ⟨114, 6, 12, [(1, 144), (-1, 9), (25, 36), (-13, 6), (43, 12), (-3, 1), (1, 1)], (1, 665280)⟩,
  ⟨36, 6, 11, [(-1, 32), (5, 16), (-5, 4), (5, 2), (-5, 2), (1, 1)], (1, 88704)⟩,
  ⟨78, 6, 12, [(1, 96), (-7, 48), (13, 16), (-7, 3), (11, 3), (-3, 1), (1, 1)], (1, 665280)⟩,
  ⟨42, 6, 12, [(1, 64), (-3, 16), (15, 16), (-5, 2), (15, 4), (-3, 1), (1, 1)], (1, 177408)⟩]
def tabA : List En := tab0 ++ tab1 ++ tab2 ++ tab3 ++ tab4 ++ tab5


def codeKs (e : En) : List KQ := bif e.c.beq 0 then [(true, (1, 1))] else e.P.map fun q => (false, q)
def lawKs (e : En) : List KQ := e.P.map fun q => (false, q)
def codeRK (n : Nat) : List KQ := bif n.beq 1 then [(true, (1, 1))] else (rp n).map fun q => (false, q)
def rpK (n : Nat) : List KQ := (rp n).map fun q => (false, q)
def find (c : Nat) : List En → Option En
  | [] => none
  | e :: r => bif e.c.beq c then some e else find c r
theorem find_c {c : Nat} {f : En} : ∀ {l : List En}, find c l = some f → f ∈ l ∧ f.c = c
  | [], h => by cases h
  | e :: r, h => by
    unfold find at h
    cases hb : e.c.beq c with
    | true =>
      rw [hb] at h
      cases h
      exact ⟨List.mem_cons_self .., Nat.eq_of_beq_eq_true hb⟩
    | false =>
      rw [hb] at h
      obtain ⟨h1, h2⟩ := find_c (l := r) h
      exact ⟨List.mem_cons_of_mem _ h1, h2⟩
def stepB (e : En) (n : Nat) : Bool := if e.k + 1 ≤ 6 ∧ e.s + n ≤ 12 then (match find (e.c + 7 ^ (n - 1)) tabA with
  | some f => decide (f.k = e.k + 1) && decide (f.s = e.s + n) && decide (tmul true (codeKs e) (codeRK n) = some (codeKs f)) && decide (tmul false (lawKs e) (rpK n) = some (lawKs f))
  | none => false) else true
def valB (e : En) : Bool := if e.k = 0 then true else
  decide ((((iterK true cX0 (e.k / 2) [(true, (1, 1))]).bind fun A => iterK true cX1 ((e.k - 1) / 2) A).bind fun B => (tmul true (codeKs e) B).bind fun C => lsum (true, (0, 1)) 0 C) = some (false, e.v)) &&
  decide ((((iterK false lX0 (e.k / 2) (lawKs e)).bind fun A => iterK false lX1 ((e.k - 1) / 2) A).bind fun B => lsum (false, (0, 1)) 0 B) = some (false, e.v)) && okB e.v.1
def entB (e : En) : Bool := stepB e 1 && stepB e 2 && stepB e 3 && stepB e 4 && valB e
theorem runs_ok : (sameR (E2 29 [.int 1] none) (.tup (kqs (codeRK 1))) false && sameR (E2 29 [.int 2] none) (.tup (kqs (codeRK 2))) false && sameR (E2 29 [.int 3] none) (.tup (kqs (codeRK 3))) false && sameR (E2 29 [.int 4] none) (.tup (kqs (codeRK 4))) false &&
  sameR (E2 41 [.int 1] none) (.lst (kqs (rpK 1))) true && sameR (E2 41 [.int 2] none) (.lst (kqs (rpK 2))) true && sameR (E2 41 [.int 3] none) (.lst (kqs (rpK 3))) true && sameR (E2 41 [.int 4] none) (.lst (kqs (rpK 4))) true) = true := by decide +kernel
theorem ents0 : tab0.all entB = true := by decide +kernel
theorem ents1 : tab1.all entB = true := by decide +kernel
theorem ents2 : tab2.all entB = true := by decide +kernel
theorem ents3 : tab3.all entB = true := by decide +kernel
theorem ents4 : tab4.all entB = true := by decide +kernel
theorem ents5 : tab5.all entB = true := by decide +kernel
theorem ents {e : En} (h : e ∈ tabA) : entB e = true := by
  unfold tabA at h
  simp only [List.mem_append] at h
  rcases h with ((((h | h) | h) | h) | h) | h
  · exact List.all_eq_true.mp ents0 e h
  · exact List.all_eq_true.mp ents1 e h
  · exact List.all_eq_true.mp ents2 e h
  · exact List.all_eq_true.mp ents3 e h
  · exact List.all_eq_true.mp ents4 e h
  · exact List.all_eq_true.mp ents5 e h
def code (rs : List Nat) : Nat := (rs.map fun n => 7 ^ (n - 1)).sum
theorem fold_tab : ∀ (rs : List Nat) (e : En), find e.c tabA = some e → (∀ n ∈ rs, 1 ≤ n ∧ n ≤ 4) → e.k + rs.length ≤ 6 → e.s + rs.sum ≤ 12 →
    ∃ f, find (e.c + code rs) tabA = some f ∧ f.k = e.k + rs.length ∧ f.s = e.s + rs.sum ∧ foldK true codeRK (codeKs e) rs = some (codeKs f) ∧ foldK false rpK (lawKs e) rs = some (lawKs f)
  | [], e, he, _, _, _ => ⟨e, he, rfl, rfl, rfl, rfl⟩
  | n :: r, e, he, hn, hk, hs => by
    rw [List.length_cons] at hk
    rw [List.sum_cons] at hs
    have hb := ents (find_c he).1
    unfold entB at hb
    simp only [Bool.and_eq_true] at hb
    obtain ⟨⟨⟨⟨b1, b2⟩, b3⟩, b4⟩, -⟩ := hb
    have hst : stepB e n = true := by
      obtain ⟨h1, h2⟩ := hn n (List.mem_cons_self ..)
      have : n = 1 ∨ n = 2 ∨ n = 3 ∨ n = 4 := by omega
      rcases this with rfl | rfl | rfl | rfl <;> assumption
    unfold stepB at hst
    rw [if_pos ⟨by omega, by omega⟩] at hst
    split at hst
    · rename_i f hf
      simp only [Bool.and_eq_true, decide_eq_true_eq] at hst
      obtain ⟨⟨⟨s1, s2⟩, s3⟩, s4⟩ := hst
      have hc := (find_c hf).2
      obtain ⟨g, g1, g2, g3, g4, g5⟩ := fold_tab r f (by rw [hc]; exact hf) (fun m hm => hn m (List.mem_cons_of_mem _ hm)) (by omega) (by omega)
      refine ⟨g, ?_, by rw [g2, List.length_cons]; omega, by rw [g3, List.sum_cons]; omega, ?_, ?_⟩
      · have : e.c + code (n :: r) = f.c + code r := by
          rw [hc]
          unfold code
          rw [List.map_cons, List.sum_cons]
          omega
        rw [this]
        exact g1
      · unfold foldK
        rw [s3]
        exact g4
      · unfold foldK
        rw [s4]
        exact g5
    · cases hst
end HL
namespace HL
open PySem PySem.Spec PyProof.Rows L2 Vf

def TOk (T : Vf.TP) : Prop := ∃ cs n, T = some (cs, n) ∧ 0 ≤ n ∧ n < 4294967296
theorem drawn_ok {T : Vf.TP} (h : TOk T) {m : Int} (h1 : 0 < m) (h2 : m < 1073741824) : ∃ v T', TOk T' ∧ 0 ≤ v ∧ v < m ∧ drawP [.tape, .int m] T = .ok (.int v) false T' := by
  obtain ⟨cs, n, rfl, n1, n2⟩ := h
  have hd : (decide (0 < m) && decide (m < 1073741824) && decide (0 ≤ n) && decide (n < 4294967296)) = true := by simp only [Bool.and_eq_true, decide_eq_true_eq]; exact ⟨⟨⟨h1, h2⟩, n1⟩, n2⟩
  refine ⟨(drawT m cs n).1, some (drawT m cs n).2, ?_, ?_, ?_, if_pos hd⟩
  · unfold drawT
    split
    · exact ⟨_, _, rfl, n1, n2⟩
    · refine ⟨_, _, rfl, Int.fmod_nonneg_of_pos _ (by decide), ?_⟩
      have := Int.fmod_lt_of_pos (n * 48271 + 12345) (b := 2147483647) (by decide)
      omega
  · unfold drawT
    split
    · exact Int.fmod_nonneg_of_pos _ h1
    · exact Int.fmod_nonneg_of_pos _ h1
  · unfold drawT
    split
    · exact Int.fmod_lt_of_pos _ h1
    · exact Int.fmod_lt_of_pos _ h1
theorem k_draw (k : Nat) (ds : List D) (T : Vf.TP) : Vf.run Ps (k + 1) 34 ds T = drawP ds T := rfl
end HL
namespace HL
open PySem PySem.Spec PyProof.Rows L2 Vf

abbrev RB : Sxs := .cons (.ite (.prim (.cmp .Gt) (.cons (.var 4) (.cons (.cst (.int (0))) .nil))) (.cons (.app 3 (.prim (.blt "min") (.cons (.var 4) (.cons (.prim (.bin .Add) (.cons (.cst (.int (1))) (.cons (.call 34 (.cons (.var 1) (.cons (.cst (.int (4))) .nil))) .nil))) .nil))))
  (.cons (.set 4 (.prim (.bin .Sub) (.cons (.var 4) (.cons (.prim .idx (.cons (.var 3) (.cons (.prim .neg (.cons (.cst (.int (1))) .nil)) .nil))) .nil))))
  .nil)) .nil)
  .nil
section
variable {F : FT} (h34 : ∀ ds T, F 34 ds T = drawP ds T)
include h34
theorem runs_turn {rs : List Nat} {a2 a5 a6 a7 a8 a9 a10 a11 a12 : Option (Bool × D)} {T : Vf.TP} (hT : TOk T) (hr : ∀ n ∈ rs, 1 ≤ n ∧ n ≤ 4) (hs : rs.sum ≤ 12) (hl : rs.length ≤ 100) :
    ∃ rs' T', TOk T' ∧ (∀ n ∈ rs', 1 ≤ n ∧ n ≤ 4) ∧ rs'.sum ≤ 12 ∧ rs'.length ≤ rs.length + 1 ∧ (rs' = rs ∨ rs'.length = rs.length + 1) ∧ (rs.sum < 12 → rs'.length = rs.length + 1) ∧
    evSs F RB ⟨[none, some (false, .tape), a2, some (true, .lst (natD rs)), some (false, .int (12 - (rs.sum : Nat))), a5, a6, a7, a8, a9, a10, a11, a12], T⟩ = .ok .nx ⟨[none, some (false, .tape), a2, some (true, .lst (natD rs')), some (false, .int (12 - (rs'.sum : Nat))), a5, a6, a7, a8, a9, a10, a11, a12], T'⟩ := by
  by_cases h12 : rs.sum = 12
  · refine ⟨rs, T, hT, hr, hs, by omega, .inl rfl, fun h => by omega, ?_⟩
    have c0 : ¬ (0 : Int) < 12 - (rs.sum : Nat) := by omega
    dsimp! [c0]
  · obtain ⟨v, T', hT', v1, v2, hd⟩ := drawn_ok hT (m := 4) (by decide) (by decide)
    have c0 : (0 : Int) < 12 - (rs.sum : Nat) := by omega
    obtain ⟨m, hm, hm1, hm2, hm3⟩ : ∃ m : Nat, (if 1 + v < 12 - (rs.sum : Nat) then 1 + v else 12 - ((rs.sum : Nat) : Int)) = (m : Nat) ∧ 1 ≤ m ∧ m ≤ 4 ∧ rs.sum + m ≤ 12 := by
      refine ⟨(if 1 + v < 12 - (rs.sum : Nat) then 1 + v else 12 - ((rs.sum : Nat) : Int)).toNat, ?_, ?_, ?_, ?_⟩ <;> split <;> omega
    refine ⟨rs ++ [m], T', hT', ?_, by simp; omega, by simp, .inr (by simp), fun _ => by simp, ?_⟩
    · intro n hn
      rcases List.mem_append.mp hn with hn | hn
      · exact hr n hn
      · rw [List.mem_singleton] at hn; omega
    · have e1 : F 34 [.tape, .int 4] T = .ok (.int v) false T' := by rw [h34]; exact hd
      have es : (natD rs).length < sizeLine := by unfold natD; rw [List.length_map]; show _ < 2 ^ 24; omega
      have em : natD rs ++ [D.int (m : Nat)] = natD (rs ++ [m]) := by unfold natD; rw [List.map_append]; rfl
      have i2 : idxD (.lst (natD (rs ++ [m]))) (.int (-1)) = some (.int (m : Nat), false) := by
        show (at? _ (natD (rs ++ [m]))).map _ = _
        have : at? (-1) (natD (rs ++ [m])) = some (.int (m : Nat)) := by
          rw [← em]
          exact atI_last _ _
        rw [this]; rfl
      have e5 : (12 : Int) - (rs.sum : Nat) - (m : Nat) = 12 - ((rs ++ [m]).sum : Nat) := by simp; omega
      dsimp! [c0, e1, hm, es, em, i2, e5]
end
end HL
namespace HL
open PySem PySem.Spec PyProof.Rows L2 Vf

def RunsOk (rs : List Nat) : Prop := (∀ n ∈ rs, 1 ≤ n ∧ n ≤ 4) ∧ 1 ≤ rs.length ∧ rs.length ≤ 6 ∧ rs.sum ≤ 12
def due (f : Int) (n : Nat) (v : Q) : Q := if f = 1 ∧ n % 2 = 0 then (-v.1, v.2) else v
theorem wof_mem : ∀ (rs : List Nat) (f : Int), (f = 0 ∨ f = 1) → ∀ x ∈ wof f rs, x = 0 ∨ x = 1
  | [], f, hf, x, h => by cases h
  | n :: r, f, hf, x, h => by
    unfold wof at h
    rcases List.mem_append.mp h with h | h
    · have := List.eq_of_mem_replicate h
      subst this; exact hf
    · exact wof_mem r (1 - f) (by omega) x h
theorem wof_cons {rs : List Nat} (h : RunsOk rs) (f : Int) : ∃ w, wof f rs = f :: w := by
  obtain ⟨h1, h2, -, -⟩ := h
  cases rs with
  | nil => simp at h2
  | cons n r =>
    obtain ⟨m, rfl⟩ : ∃ m, n = m + 1 := ⟨n - 1, by have := h1 n (List.mem_cons_self ..); omega⟩
    exact ⟨_, by unfold wof; rw [List.replicate_succ, List.cons_append]⟩
theorem k_div (T : Vf.TP) (k : Nat) : ∀ (p q r : Q) k1 k2, divQ p q = some r → Vf.run Ps (k + 3) 7 [kD k1 p, kD k2 q] T = .ok (qD r) false T := fun p q r k1 k2 h => by
  rw [run_body (f := b_divide) rfl]
  exact r_div (k_make T k) k1 k2 h
theorem k_over (T : Vf.TP) (k : Nat) : ∀ (p q r : Q) k1 k2, divQ p q = some r → Vf.run Ps (k + 2) 39 [kD k1 p, kD k2 q] T = .ok (qD r) false T := fun p q r k1 k2 h => by
  rw [run_body (f := b__law_over) rfl]
  exact r_over (k_frac T k) k1 k2 h
theorem k_times (T : Vf.TP) (k : Nat) : ∀ p o out, tmul true p o = some out → Vf.run Ps (k + 4) 30 [.tup (kqs p), .tup (kqs o)] T = .ok (.tup (kqs out)) false T := fun p o out h => by
  rw [run_body (f := b_times_poly) rfl]
  exact r_times (k_add T k) (k_mul T k) h
theorem k_ltimes (T : Vf.TP) (k : Nat) : ∀ p o out, tmul false p o = some out → Vf.run Ps (k + 3) 40 [.lst (kqs p), .lst (kqs o)] T = .ok (.lst (kqs out)) true T := fun p o out h => by
  rw [run_body (f := b__law_times) rfl]
  exact r_ltimes (k_plus T k) (k_by T k) h
theorem k_area (T : Vf.TP) (k : Nat) : ∀ l out, lsum (true, (0, 1)) 0 l = some out → Vf.run Ps (k + 4) 32 [.tup (kqs l)] T = .ok (kqD out) false T := fun l out h => by
  rw [run_body (f := b_area) rfl]
  exact r_area (k_add T k) (k_div T k) h
theorem k_isint (T : Vf.TP) (k : Nat) (i : Int) : Vf.run Ps (k + 1) 0 [.int i] T = .ok (.bl true) false T := by
  rw [run_body (f := b_is_integer) rfl]
  exact r_is_integer _ i T
theorem k_isword (T : Vf.TP) (k : Nat) (w : List Int) (h : ∀ x ∈ w, 0 ≤ x ∧ x < 9) (hl : w.length ≤ 60) : Vf.run Ps (k + 2) 8 [wordD w] T = .ok (.bl true) false T := by
  rw [run_body (f := b_is_word) rfl]
  exact r_isword (k_isint T k) w h hl
theorem k_checkword (T : Vf.TP) (k : Nat) (w : List Int) (h : ∀ x ∈ w, 0 ≤ x ∧ x < 9) (hl : w.length ≤ 60) : Vf.run Ps (k + 3) 9 [wordD w] T = .ok .non false T := by
  rw [run_body (f := b_check_word) rfl]
  exact r_checkword (k_isword T k w h hl)
theorem k_blocks (T : Vf.TP) (k : Nat) (w : List Int) (h : ∀ x ∈ w, 0 ≤ x ∧ x < 9) (hl : w.length ≤ 60) : Vf.run Ps (k + 4) 27 [wordD w] T = .ok (.tup (iD (blk none [] w))) false T := by
  rw [run_body (f := b_blocks) rfl]
  exact r_blocks (k_checkword T k w h hl) (by omega)
theorem k_blocks_wof (T : Vf.TP) (k : Nat) {rs : List Nat} (h : RunsOk rs) {f : Int} (hf : f = 0 ∨ f = 1) : Vf.run Ps (k + 4) 27 [wordD (wof f rs)] T = .ok (.tup (natD rs)) false T := by
  have e := k_blocks T k (wof f rs) (fun x hx => by have := wof_mem rs f hf x hx; omega) (by rw [wof_len]; have := h.2.2.2; omega)
  rw [blk_wof rs f none [] (fun n hn => (h.1 n hn).1) hf (by intro e; cases e), List.nil_append, nat_iD] at e
  exact e
theorem k_word (T : Vf.TP) (k : Nat) {rs : List Nat} (h : RunsOk rs) (f : Int) : Vf.run Ps (k + 1) 43 [.int f, .lst (natD rs)] T = .ok (wordD (wof f rs)) false T := by
  rw [run_body (f := b__law_word) rfl]
  exact r_word rs f h.1 (by have := h.2.2.2; omega)
theorem run29 : ∀ n, 1 ≤ n ∧ n ≤ 4 → Fact 29 [.int (n : Nat)] (.tup (kqs (codeRK n))) false := fun n h => by
  have hr := runs_ok
  simp only [Bool.and_eq_true] at hr
  obtain ⟨⟨⟨⟨⟨⟨⟨r1, r2⟩, r3⟩, r4⟩, -⟩, -⟩, -⟩, -⟩ := hr
  have : n = 1 ∨ n = 2 ∨ n = 3 ∨ n = 4 := by omega
  rcases this with rfl | rfl | rfl | rfl
  · exact fact_of r1
  · exact fact_of r2
  · exact fact_of r3
  · exact fact_of r4
theorem run41 : ∀ n, 1 ≤ n ∧ n ≤ 4 → Fact 41 [.int (n : Nat)] (.lst (kqs (rpK n))) true := fun n h => by
  have hr := runs_ok
  simp only [Bool.and_eq_true] at hr
  obtain ⟨⟨⟨⟨-, r1⟩, r2⟩, r3⟩, r4⟩ := hr
  have : n = 1 ∨ n = 2 ∨ n = 3 ∨ n = 4 := by omega
  rcases this with rfl | rfl | rfl | rfl
  · exact fact_of r1
  · exact fact_of r2
  · exact fact_of r3
  · exact fact_of r4
theorem entry {rs : List Nat} (h : RunsOk rs) : ∃ e, find (code rs) tabA = some e ∧ e.k = rs.length ∧ e.s = rs.sum ∧ foldK true codeRK [(true, (1, 1))] rs = some (codeKs e) ∧ foldK false rpK [(false, (1, 1))] rs = some (lawKs e) := by
  obtain ⟨e, h1, h2, h3, h4, h5⟩ := fold_tab rs ⟨0, 0, 0, [(1, 1)], (0, 1)⟩ rfl h.1 (by show 0 + _ ≤ 6; have := h.2.2.1; omega) (by show 0 + _ ≤ 12; have := h.2.2.2; omega)
  exact ⟨e, by rw [← h1]; show _ = find (0 + code rs) tabA; rw [Nat.zero_add], by rw [h2]; exact Nat.zero_add _, by rw [h3]; exact Nat.zero_add _, h4, h5⟩
theorem val_of {rs : List Nat} (h : RunsOk rs) {e : En} (he : find (code rs) tabA = some e) (hk : e.k = rs.length) :
    (∃ A B C, iterK true cX0 (rs.length / 2) [(true, (1, 1))] = some A ∧ iterK true cX1 ((rs.length - 1) / 2) A = some B ∧ tmul true (codeKs e) B = some C ∧ lsum (true, (0, 1)) 0 C = some (false, e.v)) ∧
    (∃ A B, iterK false lX0 (rs.length / 2) (lawKs e) = some A ∧ iterK false lX1 ((rs.length - 1) / 2) A = some B ∧ lsum (false, (0, 1)) 0 B = some (false, e.v)) ∧ okB e.v.1 = true := by
  have hb := ents (find_c he).1
  unfold entB at hb
  simp only [Bool.and_eq_true] at hb
  have hv := hb.2
  unfold valB at hv
  rw [if_neg (by rw [hk]; have := h.2.1; omega)] at hv
  simp only [Bool.and_eq_true, decide_eq_true_eq] at hv
  obtain ⟨⟨v1, v2⟩, v3⟩ := hv
  rw [hk] at v1 v2
  refine ⟨?_, ?_, v3⟩
  · cases e1 : iterK true cX0 (rs.length / 2) [(true, (1, 1))] with
    | none => rw [e1] at v1; cases v1
    | some A =>
      rw [e1] at v1
      change ((iterK true cX1 ((rs.length - 1) / 2) A).bind _) = _ at v1
      cases e2 : iterK true cX1 ((rs.length - 1) / 2) A with
      | none => rw [e2] at v1; cases v1
      | some B =>
        rw [e2] at v1
        change ((tmul true (codeKs e) B).bind _) = _ at v1
        cases e3 : tmul true (codeKs e) B with
        | none => rw [e3] at v1; cases v1
        | some C => rw [e3] at v1; exact ⟨A, B, C, rfl, e2, e3, v1⟩
  · cases e1 : iterK false lX0 (rs.length / 2) (lawKs e) with
    | none => rw [e1] at v2; cases v2
    | some A =>
      rw [e1] at v2
      change ((iterK false lX1 ((rs.length - 1) / 2) A).bind _) = _ at v2
      cases e2 : iterK false lX1 ((rs.length - 1) / 2) A with
      | none => rw [e2] at v2; cases v2
      | some B => rw [e2] at v2; exact ⟨A, B, rfl, e2, v2⟩
theorem k_byblocks (T : Vf.TP) {m : Nat} (hm : 20 ≤ m) {rs : List Nat} (h : RunsOk rs) {f : Int} (hf : f = 0 ∨ f = 1) {e : En} (he : find (code rs) tabA = some e) :
    Vf.run Ps m 28 [wordD (wof f rs)] T = .ok (qD (due f rs.sum e.v)) false T := by
  obtain ⟨e', q1, q2, q3, q4, q5⟩ := entry h
  rw [he] at q1
  cases q1
  obtain ⟨⟨A, B, C, e2, e3, e4, e5⟩, -, hv⟩ := val_of h he q2
  obtain ⟨k, rfl⟩ : ∃ k, m = k + 5 := ⟨m - 5, by omega⟩
  obtain ⟨w, hw⟩ := wof_cons h f
  have hl : (f :: w).length = rs.sum := by rw [← hw, wof_len]
  have hc := k_checkword T (k + 1) (wof f rs) (fun x hx => by have := wof_mem rs f hf x hx; omega) (by rw [wof_len]; have := h.2.2.2; omega)
  have hb := k_blocks_wof T k h hf
  rw [hw] at hc hb ⊢
  rw [run_body (f := b_by_blocks) rfl]
  have g := r_byblocks (F := Vf.run Ps (k + 4)) (T := T) (k_times T k) (k_area T k) hc hb (fun x hx => by rw [← hw] at hx; have := wof_mem rs f hf x hx; omega) (by rw [hl]; exact h.2.2.2) h.2.1 (by have := h.2.2.1; omega) (R := codeRK)
    (fun n hn => run29 n (h.1 n hn) (k + 4) (by omega) T) q4 e2 e3 e4 e5 hv
  rw [g]
  congr 2
  unfold due
  rw [hl]
  by_cases c : f = 1 ∧ rs.sum % 2 = 0
  · rw [if_pos c, if_neg (by omega)]
    show (e.v.1 * -1, e.v.2) = _
    rw [Int.mul_neg, Int.mul_one]
  · rw [if_neg c, if_pos (by omega)]
    show (e.v.1 * 1, e.v.2) = _
    rw [Int.mul_one]
theorem k_goldberg (T : Vf.TP) {m : Nat} (hm : 20 ≤ m) {rs : List Nat} (h : RunsOk rs) {f : Int} (hf : f = 0 ∨ f = 1) {e : En} (he : find (code rs) tabA = some e) :
    Vf.run Ps m 42 [wordD (wof f rs), .lst (natD rs)] T = .ok (qD (due f rs.sum e.v)) false T := by
  obtain ⟨e', q1, q2, q3, q4, q5⟩ := entry h
  rw [he] at q1
  cases q1
  obtain ⟨-, ⟨A, B, e2, e3, e5⟩, hv⟩ := val_of h he q2
  obtain ⟨k, rfl⟩ : ∃ k, m = k + 5 := ⟨m - 5, by omega⟩
  obtain ⟨w, hw⟩ := wof_cons h f
  have hl : (f :: w).length = rs.sum := by rw [← hw, wof_len]
  rw [hw, run_body (f := b__law_goldberg) rfl]
  have g := r_goldberg (F := Vf.run Ps (k + 4)) (T := T) (k_ltimes T (k + 1)) (k_plus T (k + 2)) (k_over T (k + 2)) (f := f) (w := w) h.2.1 (by have := h.2.2.1; omega) (R := rpK)
    (fun n hn => run41 n (h.1 n hn) (k + 4) (by omega) T) q5 e2 e3 e5
  rw [g, hl]
  congr 1
  unfold due
  by_cases c : f = 1 ∧ rs.sum % 2 = 0
  · rw [if_pos c, if_pos c]
  · rw [if_neg c, if_neg c]
    rfl
end HL
namespace HL
open PySem PySem.Spec PyProof.Rows L2 Vf

theorem eqv_ints : ∀ a b : List Int, PyData.eqvAll (pds (iD a)) (pds (iD b)) = decide (a = b)
  | [], [] => rfl
  | [], _ :: _ => rfl
  | _ :: _, [] => rfl
  | x :: a, y :: b => by
    have ih := eqv_ints a b
    show (PyData.eqv (.int x) (.int y) && PyData.eqvAll (pds (iD a)) (pds (iD b))) = _
    rw [ih]
    show ((x == y) && _) = _
    by_cases h1 : x = y <;> by_cases h2 : a = b <;> simp [h1, h2]
theorem eq_words (a b : List Int) : Vf.eqD (wordD a) (wordD b) = some (decide (a = b)) := by
  have hk : (okD 60 (wordD a) && okD 60 (wordD b)) = true := by
    have h1 := ok_iD a 59
    have h2 := ok_iD b 59
    show (okDs 59 (iD a) && okDs 59 (iD b)) = true
    rw [h1, h2]; rfl
  have e : Vf.eqD (wordD a) (wordD b) = if okD 60 (wordD a) && okD 60 (wordD b) then some (PyData.eqv (pd (wordD a)) (pd (wordD b))) else none := rfl
  rw [e, if_pos hk]
  exact congrArg some (eqv_ints a b)
def natK (w : List Int) : List Tm → KQ
  | [] => (true, (0, 1))
  | t :: r => if t.1 = w then t.2 else natK w r
theorem nat_loop {F : FT} {T : Vf.TP} {a : Option (Bool × D)} {w : List Int} : ∀ (ts : List Tm) (x y : Option (Bool × D)), ∃ s', (forL [2, 3] (evSs F (.cons (.ite (.prim (.cmp .Eq) (.cons (.var 2) (.cons (.var 1) .nil))) (.cons (.ret (.var 3)) .nil) .nil) .nil)) (tms ts) ⟨[a, some (false, wordD w), x, y], T⟩ = .ok (.rt (kqD (natK w ts)) false) s' ∨
    (natK w ts = (true, (0, 1)) ∧ forL [2, 3] (evSs F (.cons (.ite (.prim (.cmp .Eq) (.cons (.var 2) (.cons (.var 1) .nil))) (.cons (.ret (.var 3)) .nil) .nil) .nil)) (tms ts) ⟨[a, some (false, wordD w), x, y], T⟩ = .ok .nx s')) ∧ s'.T = T
  | [], x, y => ⟨_, .inr ⟨rfl, rfl⟩, rfl⟩
  | t :: r, x, y => by
    have hb : bindT [2, 3] (tmD t) ⟨[a, some (false, wordD w), x, y], T⟩ = .ok () ⟨[a, some (false, wordD w), some (false, wordD t.1), some (false, kqD t.2)], T⟩ := by unfold tmD kqD; dsimp!
    have he := eq_words t.1 w
    by_cases h : t.1 = w
    · rw [decide_eq_true h] at he
      refine ⟨⟨[a, some (false, wordD w), some (false, wordD t.1), none], T⟩, .inl ?_, rfl⟩
      show bnd _ _ _ = _
      rw [u_bnd, hb]
      unfold natK
      rw [if_pos h]
      dsimp! [he]
    · rw [decide_eq_false h] at he
      obtain ⟨s', h1, h2⟩ := nat_loop (F := F) (T := T) (a := a) (w := w) r (some (false, wordD t.1)) (some (false, kqD t.2))
      have hstep : forL [2, 3] (evSs F (.cons (.ite (.prim (.cmp .Eq) (.cons (.var 2) (.cons (.var 1) .nil))) (.cons (.ret (.var 3)) .nil) .nil) .nil)) (tms (t :: r)) ⟨[a, some (false, wordD w), x, y], T⟩ = forL [2, 3] (evSs F (.cons (.ite (.prim (.cmp .Eq) (.cons (.var 2) (.cons (.var 1) .nil))) (.cons (.ret (.var 3)) .nil) .nil) .nil)) (tms r) ⟨[a, some (false, wordD w), some (false, wordD t.1), some (false, kqD t.2)], T⟩ := by
        show bnd _ _ _ = _
        rw [u_bnd, hb]
        show bnd _ _ _ = _
        have hi : evSs F (.cons (.ite (.prim (.cmp .Eq) (.cons (.var 2) (.cons (.var 1) .nil))) (.cons (.ret (.var 3)) .nil) .nil) .nil) ⟨[a, some (false, wordD w), some (false, wordD t.1), some (false, kqD t.2)], T⟩ = .ok .nx ⟨[a, some (false, wordD w), some (false, wordD t.1), some (false, kqD t.2)], T⟩ := by dsimp! [he]
        rw [u_bnd, hi]
        rfl
      have hn : natK w (t :: r) = natK w r := by show (if t.1 = w then _ else _) = _; rw [if_neg h]
      rw [hstep, hn]
      exact ⟨s', h1, h2⟩
theorem r_numat {F : FT} {T : Vf.TP} {ts : List Tm} {w : List Int} : runB F b_number_at [.tup (tms ts), wordD w] T = .ok (kqD (natK w ts)) false T := by
  obtain ⟨s', h | ⟨h0, h⟩, hT⟩ := nat_loop (F := F) (T := T) (a := some (false, .tup (tms ts))) (w := w) ts none none
  · exact rb_rt rfl (st_last (st_for (s0 := ⟨[some (false, .tup (tms ts)), some (false, wordD w), none, none], T⟩) (by dsimp! [b_number_at]) h)) hT
  · rw [h0]
    refine rb_rt rfl (st_cons (st_for (s0 := ⟨[some (false, .tup (tms ts)), some (false, wordD w), none, none], T⟩) (by dsimp! [b_number_at]) h) (st_last (s1 := s') ?_)) hT
    dsimp!
    rfl
end HL
namespace HL
open PySem PySem.Spec PyProof.Rows L2 Vf

theorem perm_erase : ∀ (l : List Nat) (v : Nat) (h : v < l.length), (l[v] :: l.eraseIdx v).Perm l
  | [], v, h => by simp at h
  | a :: r, 0, h => List.Perm.refl _
  | a :: r, v + 1, h => by
    have ih := perm_erase r v (by simpa using h)
    show (r[v]'(by simpa using h) :: a :: r.eraseIdx v).Perm (a :: r)
    exact (List.Perm.swap _ _ _).trans (ih.cons a)
theorem nat_iD' (rs : List Nat) : natD rs = iD (rs.map Int.ofNat) := (nat_iD rs).symm
theorem eq_lnil (rs : List Nat) : Vf.eqD (.lst (natD rs)) (.lst []) = some (decide (rs = [])) := by
  have hk : (okD 60 (.lst (natD rs)) && okD 60 (.lst [])) = true := by
    have := ok_iD (rs.map Int.ofNat) 59
    rw [nat_iD'] 
    show (okDs 59 (iD _) && _) = true
    rw [this]; rfl
  have e : Vf.eqD (.lst (natD rs)) (.lst []) = if okD 60 (.lst (natD rs)) && okD 60 (.lst []) then some (PyData.eqv (pd (.lst (natD rs))) (pd (.lst []))) else none := rfl
  rw [e, if_pos hk]
  cases rs <;> rfl
theorem natD_erase : ∀ (rs : List Nat) (v : Nat), (natD rs).eraseIdx v = natD (rs.eraseIdx v)
  | [], _ => rfl
  | _ :: _, 0 => rfl
  | a :: r, v + 1 => by
    show D.int (a : Nat) :: (natD r).eraseIdx v = D.int (a : Nat) :: natD (r.eraseIdx v)
    rw [natD_erase r v]
section
variable {F : FT} (h34 : ∀ ds T, F 34 ds T = drawP ds T)
include h34
theorem runs_loop {a2 a6 a7 a8 a9 a10 a11 a12 : Option (Bool × D)} : ∀ (n j : Nat) (rs : List Nat) (a5 : Option (Bool × D)) (T : Vf.TP), TOk T → (∀ n ∈ rs, 1 ≤ n ∧ n ≤ 4) → rs.sum ≤ 12 → rs.length + n ≤ 100 →
    ∃ rs' T' a5', TOk T' ∧ (∀ n ∈ rs', 1 ≤ n ∧ n ≤ 4) ∧ rs'.sum ≤ 12 ∧ rs.length ≤ rs'.length ∧ rs'.length ≤ rs.length + n ∧ (1 ≤ n → rs.sum < 12 → 1 ≤ rs'.length) ∧
    forL [5] (evSs F RB) (rngN j n) ⟨[none, some (false, .tape), a2, some (true, .lst (natD rs)), some (false, .int (12 - (rs.sum : Nat))), a5, a6, a7, a8, a9, a10, a11, a12], T⟩ = .ok .nx ⟨[none, some (false, .tape), a2, some (true, .lst (natD rs')), some (false, .int (12 - (rs'.sum : Nat))), a5', a6, a7, a8, a9, a10, a11, a12], T'⟩
  | 0, j, rs, a5, T, hT, hr, hs, hl => ⟨rs, T, a5, hT, hr, hs, Nat.le_refl _, Nat.le_refl _, fun h => by omega, rfl⟩
  | n + 1, j, rs, a5, T, hT, hr, hs, hl => by
    obtain ⟨r1, T1, t1, t2, t3, t4, t5, t6, e1⟩ := runs_turn h34 (a2 := a2) (a5 := some (false, .int (j : Nat))) (a6 := a6) (a7 := a7) (a8 := a8) (a9 := a9) (a10 := a10) (a11 := a11) (a12 := a12) hT hr hs (by omega)
    obtain ⟨r2, T2, a5', u1, u2, u3, u4, u5, u6, e2⟩ := runs_loop n (j + 1) r1 (some (false, .int (j : Nat))) T1 t1 t2 t3 (by omega)
    have q : rs.length ≤ r1.length := by rcases t5 with h | h
                                         · rw [h]; exact Nat.le_refl _
                                         · omega
    refine ⟨r2, T2, a5', u1, u2, u3, by omega, by omega, fun _ h => by have := t6 h; omega, ?_⟩
    show forL [5] _ (.int (j : Nat) :: rngN (j + 1) n) _ = _
    exact for_cons (s1 := ⟨[none, some (false, .tape), a2, some (true, .lst (natD rs)), some (false, .int (12 - (rs.sum : Nat))), some (false, .int (j : Nat)), a6, a7, a8, a9, a10, a11, a12], T⟩) (by dsimp!) e1 e2
abbrev XC : Ex := .prim (.cmp .NotEq) (.cons (.var 10) (.cons (.lst .nil) .nil))
abbrev XB : Sxs := .cons (.app 9 (.pop 10 (.cons (.call 34 (.cons (.var 1) (.cons (.prim (.blt "len") (.cons (.var 10) .nil)) .nil))) .nil))) .nil
theorem mix_turn {a2 a3 a4 a5 a6 a7 a8 a11 a12 : Option (Bool × D)} {ms rest : List Nat} {T : Vf.TP} (hT : TOk T) (hl : 1 ≤ rest.length) (hl2 : rest.length ≤ 6) (hm : ms.length ≤ 100) :
    ∃ v T', v < rest.length ∧ TOk T' ∧ (∃ x, rest[v]? = some x ∧ evSs F XB ⟨[none, some (false, .tape), a2, a3, a4, a5, a6, a7, a8, some (true, .lst (natD ms)), some (true, .lst (natD rest)), a11, a12], T⟩ = .ok .nx ⟨[none, some (false, .tape), a2, a3, a4, a5, a6, a7, a8, some (true, .lst (natD (ms ++ [x]))), some (true, .lst (natD (rest.eraseIdx v))), a11, a12], T'⟩) := by
  obtain ⟨v, T', hT', v1, v2, hd⟩ := drawn_ok hT (m := (rest.length : Nat)) (by omega) (by omega)
  obtain ⟨v, rfl⟩ : ∃ n : Nat, v = n := ⟨v.toNat, by omega⟩
  have hv : v < rest.length := by omega
  refine ⟨v, T', hv, hT', rest[v], List.getElem?_eq_getElem hv, ?_⟩
  have ln : (natD rest).length = rest.length := List.length_map ..
  have e1 : F 34 [.tape, .int (rest.length : Nat)] T = .ok (.int (v : Nat)) false T' := by rw [h34]; exact hd
  have hb : bigOk (v : Nat) = true := big_n (by omega)
  have hq : seqIndex? ((v : Nat) : Int) rest.length = some v := by rw [PyProof.Rows.seqIndex_at (by omega) (by omega)]; simp
  have hg : (natD rest)[v]? = some (.int (rest[v] : Nat)) := by unfold natD; rw [List.getElem?_map, List.getElem?_eq_getElem hv]; rfl
  have es : (natD ms).length < sizeLine := by unfold natD; rw [List.length_map]; show _ < 2 ^ 24; omega
  have em : natD ms ++ [D.int (rest[v] : Nat)] = natD (ms ++ [rest[v]]) := by unfold natD; rw [List.map_append]; rfl
  dsimp! [ln, e1, popV, hb, hq, hg, es, em, natD_erase]
theorem mix_loop {a2 a3 a4 a5 a6 a7 a8 a11 a12 : Option (Bool × D)} : ∀ (fuel : Nat) (rest ms : List Nat) (T : Vf.TP), rest.length < fuel → rest.length ≤ 6 → ms.length + rest.length ≤ 100 → TOk T →
    ∃ ms' T', TOk T' ∧ ms'.Perm (ms ++ rest) ∧ whileL (bnd (evE F XC) Vf.isB) (evSs F XB) fuel ⟨[none, some (false, .tape), a2, a3, a4, a5, a6, a7, a8, some (true, .lst (natD ms)), some (true, .lst (natD rest)), a11, a12], T⟩ =
      .ok .nx ⟨[none, some (false, .tape), a2, a3, a4, a5, a6, a7, a8, some (true, .lst (natD ms')), some (true, .lst []), a11, a12], T'⟩
  | 0, rest, ms, T, h, _, _, _ => by omega
  | fuel + 1, rest, ms, T, h, hl, hm, hT => by
    have ef : fits 0 = true := by decide
    have hc := eq_lnil rest
    rw [whileL]
    cases rest with
    | nil =>
      refine ⟨ms, T, hT, by rw [List.append_nil], ?_⟩
      rw [decide_eq_true rfl] at hc
      dsimp! [ef, hc]
      rfl
    | cons a r =>
      rw [decide_eq_false (by intro e; cases e)] at hc
      obtain ⟨v, T1, hv, hT1, x, hx, e1⟩ := mix_turn h34 (a2 := a2) (a3 := a3) (a4 := a4) (a5 := a5) (a6 := a6) (a7 := a7) (a8 := a8) (a11 := a11) (a12 := a12) (ms := ms) (rest := a :: r) hT (by simp) hl (by omega)
      have le : ((a :: r).eraseIdx v).length = r.length := by rw [List.length_eraseIdx_of_lt hv, List.length_cons]; omega
      rw [List.length_cons] at h hl hm
      obtain ⟨ms', T2, hT2, hp, e2⟩ := mix_loop fuel ((a :: r).eraseIdx v) (ms ++ [x]) T1 (by omega) (by omega) (by rw [List.length_append]; simp; omega) hT1
      have hx' : (a :: r)[v] = x := by rw [List.getElem?_eq_getElem hv] at hx; exact Option.some.inj hx
      refine ⟨ms', T2, hT2, hp.trans ?_, ?_⟩
      · rw [List.append_assoc]
        refine List.Perm.append_left ms ?_
        show (x :: (a :: r).eraseIdx v).Perm _
        rw [← hx']
        exact perm_erase _ _ hv
      · have hcond : bnd (evE F XC) Vf.isB ⟨[none, some (false, .tape), a2, a3, a4, a5, a6, a7, a8, some (true, .lst (natD ms)), some (true, .lst (natD (a :: r))), a11, a12], T⟩ = .ok true ⟨[none, some (false, .tape), a2, a3, a4, a5, a6, a7, a8, some (true, .lst (natD ms)), some (true, .lst (natD (a :: r))), a11, a12], T⟩ := by dsimp! [ef, hc]
        rw [u_bnd, hcond]
        show bnd _ _ _ = _
        rw [u_bnd, e1]
        exact e2
end
theorem code_perm {a b : List Nat} (h : a.Perm b) : code a = code b := by
  unfold code
  exact (h.map _).sum_nat
theorem runs_perm {a b : List Nat} (h : a.Perm b) (hb : RunsOk b) : RunsOk a := by
  obtain ⟨h1, h2, h3, h4⟩ := hb
  exact ⟨fun n hn => h1 n (h.mem_iff.mp hn), by rw [h.length_eq]; exact h2, by rw [h.length_eq]; exact h3, by rw [h.sum_nat]; exact h4⟩
end HL
namespace HL
open PySem PySem.Spec PyProof.Rows L2 Vf

def intB : Int → Int → Bool
  | .ofNat a, .ofNat b => Nat.beq a b
  | .negSucc a, .negSucc b => Nat.beq a b
  | _, _ => false
theorem natB_eq (m n : Nat) : Nat.beq m n = decide (m = n) := by
  by_cases h : m = n
  · subst h; rw [decide_eq_true rfl]; exact Nat.beq_refl _
  · rw [decide_eq_false h]
    cases hb : Nat.beq m n
    · rfl
    · exact (h (Nat.eq_of_beq_eq_true hb)).elim
theorem intB_eq (a b : Int) : intB a b = decide (a = b) := by
  cases a <;> cases b
  · rename_i m n
    show Nat.beq m n = _
    rw [natB_eq]
    exact decide_eq_decide.mpr ⟨fun h => by rw [h], fun h => by injection h⟩
  · exact (decide_eq_false (by intro h; cases h)).symm
  · exact (decide_eq_false (by intro h; cases h)).symm
  · rename_i m n
    show Nat.beq m n = _
    rw [natB_eq]
    exact decide_eq_decide.mpr ⟨fun h => by rw [h], fun h => by injection h⟩
def eqL : List Int → List Int → Bool
  | [], [] => true
  | x :: a, y :: b => match intB x y with
    | true => eqL a b
    | false => false
  | _, _ => false
theorem eqL_eq : ∀ a b : List Int, eqL a b = decide (a = b)
  | [], [] => rfl
  | [], _ :: _ => rfl
  | _ :: _, [] => rfl
  | x :: a, y :: b => by
    unfold eqL
    have h := intB_eq x y
    by_cases e : x = y
    · rw [decide_eq_true e] at h
      rw [h]
      show eqL a b = _
      rw [eqL_eq a b]
      simp [e]
    · rw [decide_eq_false e] at h
      rw [h]
      simp [e]
def intL : Int → Int → Bool
  | .ofNat a, .ofNat b => Nat.blt a b
  | .negSucc a, .negSucc b => Nat.blt b a
  | .negSucc _, .ofNat _ => true
  | .ofNat _, .negSucc _ => false
theorem intL_eq (a b : Int) : intL a b = decide (a < b) := by
  cases a <;> cases b
  · rename_i m n
    show Nat.blt m n = _
    by_cases h : m < n
    · rw [decide_eq_true (by show (m : Int) < (n : Int); omega)]; simpa [Nat.blt_eq] using h
    · rw [decide_eq_false (by show ¬ (m : Int) < (n : Int); omega)]
      cases hb : Nat.blt m n
      · rfl
      · exact (h (by simpa [Nat.blt_eq] using hb)).elim
  · rename_i m n
    show false = _
    exact (decide_eq_false (by show ¬ (m : Int) < Int.negSucc n; omega)).symm
  · rename_i m n
    show true = _
    exact (decide_eq_true (by show Int.negSucc m < (n : Int); omega)).symm
  · rename_i m n
    show Nat.blt n m = _
    by_cases h : n < m
    · rw [decide_eq_true (by omega)]; simpa [Nat.blt_eq] using h
    · rw [decide_eq_false (by omega)]
      cases hb : Nat.blt n m
      · rfl
      · exact (h (by simpa [Nat.blt_eq] using hb)).elim
def ltL : List Int → List Int → Bool
  | _, [] => false
  | [], _ :: _ => true
  | x :: a, y :: b => match intB x y with
    | true => ltL a b
    | false => intL x y
def ltF (a b : List Int) : Bool := match Nat.beq a.length b.length with
  | true => ltL a b
  | false => Nat.blt a.length b.length
theorem ltL_eq : ∀ a b : List Int, ltL a b = decide (a < b)
  | [], [] => rfl
  | _ :: _, [] => by simp [ltL]
  | [], _ :: _ => by simp [ltL]
  | x :: a, y :: b => by
    unfold ltL
    have h := intB_eq x y
    by_cases e : x = y
    · rw [decide_eq_true e] at h
      rw [h]
      show ltL a b = _
      rw [ltL_eq a b]
      subst e
      have : (x :: a < x :: b) ↔ a < b := by simp [List.cons_lt_cons_iff]
      simp [this]
    · rw [decide_eq_false e] at h
      rw [h]
      show intL x y = _
      rw [intL_eq]
      have : (x :: a < y :: b) ↔ x < y := by simp [List.cons_lt_cons_iff, e]
      simp [this]
theorem alike_ints' : ∀ a b : List Int, PySem.W.alikeAll (a.map PyData.int) (b.map PyData.int) = true
  | [], _ => by simp [PySem.W.alikeAll]
  | _ :: _, [] => by simp [PySem.W.alikeAll]
  | x :: a, y :: b => by
    have ih := alike_ints' a b
    show PySem.W.alikeAll (.int x :: a.map .int) (.int y :: b.map .int) = true
    unfold PySem.W.alikeAll
    rw [ih]
    simp [PySem.W.alike]
theorem eqv_ints' : ∀ a b : List Int, PyData.eqvAll (a.map PyData.int) (b.map PyData.int) = decide (a = b)
  | [], [] => rfl
  | [], _ :: _ => rfl
  | _ :: _, [] => rfl
  | x :: a, y :: b => by
    have ih := eqv_ints' a b
    show (PyData.eqv (.int x) (.int y) && PyData.eqvAll (a.map .int) (b.map .int)) = _
    rw [ih]
    show ((x == y) && _) = _
    by_cases h1 : x = y <;> by_cases h2 : a = b <;> simp [h1, h2]
theorem lt_wkey (a b : List Int) : PySem.W.dataLt (wkey a) (wkey b) = ltF a b := by
  unfold wkey
  rw [PySem.W.dataLt_pair (by simp [PySem.W.alike]) (by show PySem.W.alikeAll _ _ = true; exact alike_ints' a b), PySem.W.dataLt_int]
  have e1 : PyData.eqv (.int (a.length : Int)) (.int b.length) = decide (a.length = b.length) := by
    show (((a.length : Int)) == (b.length : Int)) = _
    by_cases h : a.length = b.length
    · simp [h]
    · have : ¬ (a.length : Int) = b.length := by omega
      simp [h, this]
  have e2 : PyData.eqv (.tuple (a.map .int)) (.tuple (b.map .int)) = decide (a = b) := eqv_ints' a b
  have e3 : PySem.W.dataLt (.tuple (a.map .int)) (.tuple (b.map .int)) = decide (a < b) := by
    rw [PySem.W.dataLt_tuple]
    exact PySem.W.dataLt_ints a b
  rw [e1, e2, e3]
  unfold ltF
  by_cases h : a.length = b.length
  · have hb : Nat.beq a.length b.length = true := by rw [h]; exact Nat.beq_refl _
    rw [hb, decide_eq_true h, if_pos rfl]
    show _ = ltL a b
    rw [ltL_eq]
    by_cases q : a = b
    · subst q; simp
    · simp [q]
  · have hb : Nat.beq a.length b.length = false := by
      cases hb : Nat.beq a.length b.length
      · rfl
      · exact (h (Nat.eq_of_beq_eq_true hb)).elim
    rw [hb, decide_eq_false h, if_neg (by decide)]
    show _ = Nat.blt a.length b.length
    by_cases q : a.length < b.length
    · have : Nat.blt a.length b.length = true := by simpa [Nat.blt_eq] using q
      rw [this]; exact decide_eq_true (by omega)
    · have : Nat.blt a.length b.length = false := by
        cases hb : Nat.blt a.length b.length
        · rfl
        · exact (q (by simpa [Nat.blt_eq] using hb)).elim
      rw [this]; exact decide_eq_false (by omega)
def leF (a b : List Int) : Bool := match ltF b a with
  | true => false
  | false => true
theorem leF_eq : PySem.W.dataLe false wkey = leF := by
  funext a b
  show (!PySem.W.dataLt (wkey b) (wkey a)) = _
  rw [lt_wkey]
  unfold leF
  cases ltF b a <;> rfl
def ggetF (w : List Int) : List Tm → Option (Bool × Q)
  | [] => none
  | (v, x) :: r => match eqL v w with
    | true => some x
    | false => ggetF w r
theorem ggetF_eq (w : List Int) : ∀ A, ggetF w A = gget w A
  | [] => rfl
  | (v, x) :: r => by
    unfold ggetF gget
    have h := eqL_eq v w
    by_cases e : v = w
    · rw [decide_eq_true e] at h; rw [h, if_pos e]
    · rw [decide_eq_false e] at h; rw [h, if_neg e]; exact ggetF_eq w r
def grepF (w : List Int) (x : Bool × Q) : List Tm → List Tm
  | [] => []
  | (v, y) :: r => (match eqL v w with
    | true => (v, x)
    | false => (v, y)) :: grepF w x r
theorem grepF_eq (w : List Int) (x : Bool × Q) : ∀ A, grepF w x A = grep w x A
  | [] => rfl
  | (v, y) :: r => by
    have h := eqL_eq v w
    have ih := grepF_eq w x r
    show _ :: grepF w x r = (if v = w then (v, x) else (v, y)) :: grep w x r
    rw [ih]
    by_cases e : v = w
    · rw [decide_eq_true e] at h; rw [h, if_pos e]
    · rw [decide_eq_false e] at h; rw [h, if_neg e]
def gsetF (w : List Int) (x : Bool × Q) : List Tm → List Tm
  | [] => [(w, x)]
  | (v, y) :: r => match eqL v w with
    | true => (v, x) :: grepF w x r
    | false => (v, y) :: gsetF w x r
theorem gsetF_eq (w : List Int) (x : Bool × Q) : ∀ A, gsetF w x A = gset w x A
  | [] => rfl
  | (v, y) :: r => by
    unfold gsetF gset
    have h := eqL_eq v w
    by_cases e : v = w
    · rw [decide_eq_true e] at h; rw [h, if_pos e]
      show (v, x) :: grepF w x r = _
      rw [grepF_eq]
    · rw [decide_eq_false e] at h; rw [h, if_neg e]
      show (v, y) :: gsetF w x r = _
      rw [gsetF_eq w x r]
def gstepF (A : List Tm) (t : Tm) : Option (List Tm) := match ggetF t.1 A with
  | some (_, q) => (addQ q t.2.2).map fun r => gsetF t.1 (false, r) A
  | none => some (gsetF t.1 t.2 A)
theorem gstepF_eq (A : List Tm) (t : Tm) : gstepF A t = gstep A t := by
  unfold gstepF gstep
  rw [ggetF_eq]
  simp only [gsetF_eq]
  all_goals rfl
def gallF : List Tm → List Tm → Option (List Tm)
  | A, [] => some A
  | A, t :: r => (gstepF A t).bind fun B => gallF B r
theorem gallF_eq : ∀ (ts A : List Tm), gallF A ts = gall A ts
  | [], A => rfl
  | t :: r, A => by
    unfold gallF gall
    rw [gstepF_eq]
    cases gstep A t with
    | none => rfl
    | some B => exact gallF_eq r B
def goutF (A : List Tm) : List (List Int) → Option (List Tm)
  | [] => some []
  | w :: r => (ggetF w A).bind fun x => (goutF A r).map fun o => bif intB x.2.1 0 && intB x.2.2 1 then o else (w, x) :: o
theorem goutF_eq (A : List Tm) : ∀ ws, goutF A ws = gout A ws
  | [] => rfl
  | w :: r => by
    unfold goutF gout
    rw [ggetF_eq, goutF_eq A r]
    congr 1
    funext x
    congr 1
    funext o
    rw [intB_eq, intB_eq]
    obtain ⟨k, a, b⟩ := x
    by_cases h : (a, b) = ((0 : Int), (1 : Int))
    · rw [if_pos h]
      cases h
      rfl
    · rw [if_neg h]
      by_cases h1 : a = 0 <;> by_cases h2 : b = 1
      · exact (h (by rw [h1, h2])).elim
      · simp [h1, h2]
      · simp [h1, h2]
      · simp [h1, h2]
def gathF (ts : List Tm) : Option (List Tm) := if ts.length ≤ 1000000 then (gallF [] ts).bind fun A => (goutF A (sortB' leF (A.map (·.1)))).bind fun o => if o.length ≤ 6000 then some o else none else none
theorem gathF_eq : gathF = gath := by
  funext ts
  unfold gathF gath
  simp only [gallF_eq, goutF_eq, leF_eq]
def onGF (ds : List D) (T : Vf.TP) : FRes := match ds with
  | [d] => (match (seqOf d).bind fun xs => (asTms xs).bind gathF with
    | some o => .ok (.tup (o.map tmD)) false T
    | none => .stuck)
  | _ => .stuck
def cutPF (ts us : List Tm) (d : Nat) : Option (List Tm) := if ts.length * us.length ≤ 1000000 ∧ d ≤ 1000 then (cutL us d ts).bind gathF else none
def on19F (ds : List D) (T : Vf.TP) : FRes := match ds with
  | [.tup a, .tup b, .int d] => (match (asTms a).bind fun ts => (asTms b).bind fun us => if 0 ≤ d then cutPF ts us d.toNat else none with
    | some o => .ok (.tup (tms o)) false T
    | none => .stuck)
  | _ => .stuck
theorem onGF_eq : onGF = onG := by unfold onGF onG; rw [gathF_eq]; all_goals rfl
theorem on19F_eq : on19F = on19 := by
  have : cutPF = cutP := by unfold cutPF cutP; rw [gathF_eq]
  unfold on19F on19
  rw [this]
  all_goals rfl
def Z2F : FT := fun i ds T => bif i.beq 19 then on19F ds T else bif i.beq 30 then on30 ds T else bif i.beq 40 then on40 ds T else bif i.beq 13 then onGF ds T else X i ds T
theorem Z2F_eq : Z2F = Z2 := by
  unfold Z2F Z2 Z Y
  rw [onGF_eq, on19F_eq]
def E3F : FT := runX Z2F (bodies Ps) 12
theorem E3F_eq : E3F = E3 := by unfold E3F E3; rw [Z2F_eq]
end HL
namespace HL
open PySem PySem.Spec PyProof.Rows L2 Vf

def lit0 : List Tm := [
]
def lit1 : List Tm := [
  ([0], false, (1, 1)),
  ([1], false, (1, 1))]
def lit2 : List Tm := [
  ([0], false, (1, 1)),
  ([1], false, (1, 1)),
  ([0, 1], false, (1, 2)),
  ([1, 0], false, (-1, 2))]
def lit3 : List Tm := [
  ([0], false, (1, 1)),
  ([1], false, (1, 1)),
  ([0, 1], false, (1, 2)),
  ([1, 0], false, (-1, 2)),
  ([0, 0, 1], false, (1, 12)),
  ([0, 1, 0], false, (-1, 6)),
  ([0, 1, 1], false, (1, 12)),
  ([1, 0, 0], false, (1, 12)),
  ([1, 0, 1], false, (-1, 6)),
  ([1, 1, 0], false, (1, 12))]
def lit4 : List Tm := [
  ([0], false, (1, 1)),
  ([1], false, (1, 1)),
  ([0, 1], false, (1, 2)),
  ([1, 0], false, (-1, 2)),
  ([0, 0, 1], false, (1, 12)),
  ([0, 1, 0], false, (-1, 6)),
  ([0, 1, 1], false, (1, 12)),
  ([1, 0, 0], false, (1, 12)),
  ([1, 0, 1], false, (-1, 6)),
  ([1, 1, 0], false, (1, 12)),
  ([0, 0, 1, 1], false, (1, 24)),
  ([0, 1, 0, 1], false, (-1, 12)),
  ([1, 0, 1, 0], false, (1, 12)),
  ([1, 1, 0, 0], false, (-1, 24))]
def lit5 : List Tm := [
  ([0], false, (1, 1)),
  ([1], false, (1, 1)),
  ([0, 1], false, (1, 2)),
  ([1, 0], false, (-1, 2)),
  ([0, 0, 1], false, (1, 12)),
  ([0, 1, 0], false, (-1, 6)),
  ([0, 1, 1], false, (1, 12)),
  ([1, 0, 0], false, (1, 12)),
  ([1, 0, 1], false, (-1, 6)),
  ([1, 1, 0], false, (1, 12)),
  ([0, 0, 1, 1], false, (1, 24)),
  ([0, 1, 0, 1], false, (-1, 12)),
  ([1, 0, 1, 0], false, (1, 12)),
  ([1, 1, 0, 0], false, (-1, 24)),
  ([0, 0, 0, 0, 1], false, (-1, 720)),
  ([0, 0, 0, 1, 0], false, (1, 180)),
  ([0, 0, 0, 1, 1], false, (1, 180)),
  ([0, 0, 1, 0, 0], false, (-1, 120)),
  ([0, 0, 1, 0, 1], false, (-1, 120)),
  ([0, 0, 1, 1, 0], false, (-1, 120)),
  ([0, 0, 1, 1, 1], false, (1, 180)),
  ([0, 1, 0, 0, 0], false, (1, 180)),
  ([0, 1, 0, 0, 1], false, (-1, 120)),
  ([0, 1, 0, 1, 0], false, (1, 30)),
  ([0, 1, 0, 1, 1], false, (-1, 120)),
  ([0, 1, 1, 0, 0], false, (-1, 120)),
  ([0, 1, 1, 0, 1], false, (-1, 120)),
  ([0, 1, 1, 1, 0], false, (1, 180)),
  ([0, 1, 1, 1, 1], false, (-1, 720)),
  ([1, 0, 0, 0, 0], false, (-1, 720)),
  ([1, 0, 0, 0, 1], false, (1, 180)),
  ([1, 0, 0, 1, 0], false, (-1, 120)),
  ([1, 0, 0, 1, 1], false, (-1, 120)),
  ([1, 0, 1, 0, 0], false, (-1, 120)),
  ([1, 0, 1, 0, 1], false, (1, 30)),
  ([1, 0, 1, 1, 0], false, (-1, 120)),
  ([1, 0, 1, 1, 1], false, (1, 180)),
  ([1, 1, 0, 0, 0], false, (1, 180)),
  ([1, 1, 0, 0, 1], false, (-1, 120)),
  ([1, 1, 0, 1, 0], false, (-1, 120)),
  ([1, 1, 0, 1, 1], false, (-1, 120)),
  ([1, 1, 1, 0, 0], false, (1, 180)),
  ([1, 1, 1, 0, 1], false, (1, 180)),
  ([1, 1, 1, 1, 0], false, (-1, 720))]
def lit6 : List Tm := [
  ([0], false, (1, 1)),
  ([1], false, (1, 1)),
  ([0, 1], false, (1, 2)),
  ([1, 0], false, (-1, 2)),
  ([0, 0, 1], false, (1, 12)),
  ([0, 1, 0], false, (-1, 6)),
  ([0, 1, 1], false, (1, 12)),
  ([1, 0, 0], false, (1, 12)),
  ([1, 0, 1], false, (-1, 6)),
  ([1, 1, 0], false, (1, 12)),
  ([0, 0, 1, 1], false, (1, 24)),
  ([0, 1, 0, 1], false, (-1, 12)),
  ([1, 0, 1, 0], false, (1, 12)),
  ([1, 1, 0, 0], false, (-1, 24)),
  ([0, 0, 0, 0, 1], false, (-1, 720)),
  ([0, 0, 0, 1, 0], false, (1, 180)),
  ([0, 0, 0, 1, 1], false, (1, 180)),
  ([0, 0, 1, 0, 0], false, (-1, 120)),
  ([0, 0, 1, 0, 1], false, (-1, 120)),
  ([0, 0, 1, 1, 0], false, (-1, 120)),
  ([0, 0, 1, 1, 1], false, (1, 180)),
  ([0, 1, 0, 0, 0], false, (1, 180)),
  ([0, 1, 0, 0, 1], false, (-1, 120)),
  ([0, 1, 0, 1, 0], false, (1, 30)),
  ([0, 1, 0, 1, 1], false, (-1, 120)),
  ([0, 1, 1, 0, 0], false, (-1, 120)),
  ([0, 1, 1, 0, 1], false, (-1, 120)),
  ([0, 1, 1, 1, 0], false, (1, 180)),
  ([0, 1, 1, 1, 1], false, (-1, 720)),
  ([1, 0, 0, 0, 0], false, (-1, 720)),
  ([1, 0, 0, 0, 1], false, (1, 180)),
  ([1, 0, 0, 1, 0], false, (-1, 120)),
  ([1, 0, 0, 1, 1], false, (-1, 120)),
  ([1, 0, 1, 0, 0], false, (-1, 120)),
  ([1, 0, 1, 0, 1], false, (1, 30)),
  ([1, 0, 1, 1, 0], false, (-1, 120)),
  ([1, 0, 1, 1, 1], false, (1, 180)),
  ([1, 1, 0, 0, 0], false, (1, 180)),
  ([1, 1, 0, 0, 1], false, (-1, 120)),
  ([1, 1, 0, 1, 0], false, (-1, 120)),
  ([1, 1, 0, 1, 1], false, (-1, 120)),
  ([1, 1, 1, 0, 0], false, (1, 180)),
  ([1, 1, 1, 0, 1], false, (1, 180)),
  ([1, 1, 1, 1, 0], false, (-1, 720)),
  ([0, 0, 0, 0, 1, 1], false, (-1, 1440)),
  ([0, 0, 0, 1, 0, 1], false, (1, 360)),
  ([0, 0, 0, 1, 1, 1], false, (1, 360)),
  ([0, 0, 1, 0, 0, 1], false, (-1, 240)),
  ([0, 0, 1, 0, 1, 1], false, (-1, 240)),
  ([0, 0, 1, 1, 0, 1], false, (-1, 240)),
  ([0, 0, 1, 1, 1, 1], false, (-1, 1440)),
  ([0, 1, 0, 0, 0, 1], false, (1, 360)),
  ([0, 1, 0, 0, 1, 1], false, (-1, 240)),
  ([0, 1, 0, 1, 0, 1], false, (1, 60)),
  ([0, 1, 0, 1, 1, 1], false, (1, 360)),
  ([0, 1, 1, 0, 0, 1], false, (-1, 240)),
  ([0, 1, 1, 0, 1, 1], false, (-1, 240)),
  ([0, 1, 1, 1, 0, 1], false, (1, 360)),
  ([1, 0, 0, 0, 1, 0], false, (-1, 360)),
  ([1, 0, 0, 1, 0, 0], false, (1, 240)),
  ([1, 0, 0, 1, 1, 0], false, (1, 240)),
  ([1, 0, 1, 0, 0, 0], false, (-1, 360)),
  ([1, 0, 1, 0, 1, 0], false, (-1, 60)),
  ([1, 0, 1, 1, 0, 0], false, (1, 240)),
  ([1, 0, 1, 1, 1, 0], false, (-1, 360)),
  ([1, 1, 0, 0, 0, 0], false, (1, 1440)),
  ([1, 1, 0, 0, 1, 0], false, (1, 240)),
  ([1, 1, 0, 1, 0, 0], false, (1, 240)),
  ([1, 1, 0, 1, 1, 0], false, (1, 240)),
  ([1, 1, 1, 0, 0, 0], false, (-1, 360)),
  ([1, 1, 1, 0, 1, 0], false, (-1, 360)),
  ([1, 1, 1, 1, 0, 0], false, (1, 1440))]
def lit : Nat → List Tm
  | 1 => lit1
  | 2 => lit2
  | 3 => lit3
  | 4 => lit4
  | 5 => lit5
  | 6 => lit6
  | _ => []
theorem E3_of {i : Nat} {ds : List D} {d : D} {fr : Bool} (h : sameR (E3 i ds none) d fr = true) : Fact i ds d fr := fun m hm T => by
  unfold sameR at h
  split at h
  · rename_i e f T0 he
    simp only [Bool.and_eq_true, beq_iff_eq] at h
    rw [← same_eq h.1, ← h.2]
    exact E3_fact he hm T
  · cases h
def twoB (d : Nat) : Bool := sameR (E3F 26 [.int (d : Nat)] none) (.tup (tms (lit d))) false
theorem two1 : twoB 1 = true := by decide +kernel
theorem two2 : twoB 2 = true := by decide +kernel
theorem two3 : twoB 3 = true := by decide +kernel
theorem two4 : twoB 4 = true := by decide +kernel
theorem two5 : twoB 5 = true := by decide +kernel
theorem two6 : twoB 6 = true := by decide +kernel
theorem two {d : Nat} (h1 : 1 ≤ d) (h2 : d ≤ 6) : Fact 26 [.int (d : Nat)] (.tup (tms (lit d))) false := by
  have : d = 1 ∨ d = 2 ∨ d = 3 ∨ d = 4 ∨ d = 5 ∨ d = 6 := by omega
  rcases this with rfl | rfl | rfl | rfl | rfl | rfl
  · exact E3_of (E3F_eq ▸ two1)
  · exact E3_of (E3F_eq ▸ two2)
  · exact E3_of (E3F_eq ▸ two3)
  · exact E3_of (E3F_eq ▸ two4)
  · exact E3_of (E3F_eq ▸ two5)
  · exact E3_of (E3F_eq ▸ two6)
def allB : Nat → Nat → (List Nat → Bool) → Bool
  | 0, _, p => p []
  | k + 1, left, p => p [] && (left.blt 1 || allB k (left - 1) fun r => p (1 :: r)) && (left.blt 2 || allB k (left - 2) fun r => p (2 :: r)) && (left.blt 3 || allB k (left - 3) fun r => p (3 :: r)) && (left.blt 4 || allB k (left - 4) fun r => p (4 :: r))
theorem allB_ok : ∀ (k left : Nat) (p : List Nat → Bool), allB k left p = true → ∀ rs : List Nat, (∀ n ∈ rs, 1 ≤ n ∧ n ≤ 4) → rs.length ≤ k → rs.sum ≤ left → p rs = true
  | 0, left, p, h, rs, _, hl, _ => by
    cases rs with
    | nil => exact h
    | cons a r => simp at hl
  | k + 1, left, p, h, [], _, _, _ => by
    unfold allB at h
    simp only [Bool.and_eq_true] at h
    exact h.1.1.1.1
  | k + 1, left, p, h, n :: r, hn, hl, hs => by
    unfold allB at h
    simp only [Bool.and_eq_true, Bool.or_eq_true] at h
    obtain ⟨⟨⟨⟨-, h1⟩, h2⟩, h3⟩, h4⟩ := h
    rw [List.length_cons] at hl
    rw [List.sum_cons] at hs
    have hb : ∀ m, m ≤ left → left.blt m = true → False := fun m hm e => by
      have : left < m := by simpa [Nat.blt_eq] using e
      omega
    have go := fun m (hm : n = m) (hh : left.blt m = true ∨ allB k (left - m) (fun r => p (m :: r)) = true) => show p (n :: r) = true by
      subst hm
      rcases hh with hh | hh
      · exact (hb n (by omega) hh).elim
      · exact allB_ok k (left - n) _ hh r (fun a ha => hn a (List.mem_cons_of_mem _ ha)) (by omega) (by omega)
    obtain ⟨q1, q2⟩ := hn n (List.mem_cons_self ..)
    have : n = 1 ∨ n = 2 ∨ n = 3 ∨ n = 4 := by omega
    rcases this with e | e | e | e
    · exact go 1 e h1
    · exact go 2 e h2
    · exact go 3 e h3
    · exact go 4 e h4
def numB (f : Int) (rs : List Nat) : Bool := match find (code rs) tabA with
  | some e => let v := due f rs.sum e.v; decide (natK (wof f rs) (lit rs.sum) = (decide (v = (0, 1)), v))
  | none => false
def numsB (rs : List Nat) : Bool := match rs with
  | [] => true
  | _ :: _ => numB 0 rs && numB 1 rs
theorem nums : allB 6 6 numsB = true := by decide +kernel
end HL
namespace HL
open PySem PySem.Spec PyProof.Rows L2 Vf

abbrev G30 : FT := Vf.run Ps 30
theorem g34 : ∀ ds T, G30 34 ds T = drawP ds T := fun ds T => k_draw 29 ds T
theorem plain_nat : ∀ (rs : List Nat) (n : Nat), plains n (natD rs) = true
  | [], n => by unfold natD plains; rfl
  | a :: r, n => by
    show plains n (.int (a : Nat) :: natD r) = true
    unfold plains
    rw [plain_nat r n]
    cases n <;> rfl
theorem same_q (T : Vf.TP) (q : Q) : G30 35 [qD q, qD q] T = .ok (.bl true) false T := k_same T 1 28 (qD q) rfl
theorem same_2 (T : Vf.TP) {rs : List Nat} (h : rs.length ≤ 6) (q : Q) : G30 35 [.tup [.tup (natD rs), qD q], .tup [.tup (natD rs), qD q]] T = .ok (.bl true) false T := by
  refine k_same T 2 27 _ ?_
  have h1 := plain_nat rs 0
  have h2 : decide ((natD rs).length ≤ 1000) = true := decide_eq_true (by unfold natD; rw [List.length_map]; omega)
  show ((plains 0 (natD rs) && decide ((natD rs).length ≤ 1000)) && (true && true)) && true = true
  rw [h1, h2]; rfl
theorem same_z : sameR (E2 35 [.ktup [.int 0, .int 1], .tup [.int 0, .int 1]] none) (.bl true) false = true := by decide +kernel
theorem same_k (T : Vf.TP) (v : Q) : G30 35 [kqD (decide (v = (0, 1)), v), qD v] T = .ok (.bl true) false T := by
  by_cases h : v = (0, 1)
  · subst h
    exact fact_of same_z 30 (by decide) T
  · rw [decide_eq_false h]
    exact same_q T v
theorem num_ok (T : Vf.TP) {rs : List Nat} (h : RunsOk rs) {f : Int} (hf : f = 0 ∨ f = 1) (hs : rs.sum ≤ 6) {e : En} (he : find (code rs) tabA = some e) :
    G30 26 [.int (rs.sum : Nat)] T = .ok (.tup (tms (lit rs.sum))) false T ∧ G30 20 [.tup (tms (lit rs.sum)), wordD (wof f rs)] T = .ok (kqD (decide (due f rs.sum e.v = (0, 1)), due f rs.sum e.v)) false T := by
  obtain ⟨h1, h2, h3, h4⟩ := h
  have hs1 : 1 ≤ rs.sum := by
    cases rs with
    | nil => simp at h2
    | cons a r => rw [List.sum_cons]; have := h1 a (List.mem_cons_self ..); omega
  refine ⟨two hs1 hs 30 (by decide) T, ?_⟩
  have hn := allB_ok 6 6 numsB nums rs h1 h3 hs
  have hb : numB f rs = true := by
    cases rs with
    | nil => simp at h2
    | cons a r =>
      unfold numsB at hn
      rw [Bool.and_eq_true] at hn
      rcases hf with rfl | rfl
      · exact hn.1
      · exact hn.2
  unfold numB at hb
  rw [he] at hb
  have hb := of_decide_eq_true hb
  show Vf.run Ps (29 + 1) 20 _ T = _
  rw [run_body (f := b_number_at) rfl, r_numat, hb]
theorem t1_ok (v : Q) (f : Int) (hf : f = 0 ∨ f = 1) (n : Nat) : due (1 - f) n v = (if n % 2 = 1 then due f n v else (-(due f n v).1, (due f n v).2)) := by
  unfold due
  by_cases hn : n % 2 = 1
  · rw [if_pos hn, if_neg (by omega), if_neg (by omega)]
  · rw [if_neg hn]
    rcases hf with rfl | rfl
    · rw [if_pos (by omega), if_neg (by omega)]
    · rw [if_neg (by omega), if_pos (by omega)]
      show v = (- -v.1, v.2)
      rw [Int.neg_neg]
abbrev tp : Option (Bool × D) := some (false, .tape)
theorem turn {B : Sxs} (hB : B = (match bl_law with | .cons (.for_ _ _ b) _ => b | _ => .nil)) {a2 a3 a4 a5 a6 a7 a8 a9 a10 a11 a12 : Option (Bool × D)} {T : Vf.TP} (hT : TOk T) :
    ∃ b3 b4 b5 b6 b7 b8 b9 b10 b11 T', TOk T' ∧ evSs G30 B ⟨[none, tp, a2, a3, a4, a5, a6, a7, a8, a9, a10, a11, a12], T⟩ = .ok .nx ⟨[none, tp, a2, b3, b4, b5, b6, b7, b8, b9, b10, b11, a12], T'⟩ := by
  subst hB
  have ef0 : fits 0 = true := by decide
  have ef2 : fits 2 = true := by decide
  obtain ⟨v, T1, hT1, v1, v2, hd1⟩ := drawn_ok hT (m := 6) (by decide) (by decide)
  have e1 : G30 34 [.tape, .int 6] T = .ok (.int v) false T1 := by rw [g34]; exact hd1
  obtain ⟨n, hn⟩ : ∃ n : Nat, 1 + v = (n : Int) := ⟨(1 + v).toNat, by omega⟩
  obtain ⟨rs, T2, b5, hT2, r1, r2, -, r3, r4, e2⟩ := runs_loop g34 (a2 := a2) (a6 := a6) (a7 := a7) (a8 := a8) (a9 := a9) (a10 := a10) (a11 := a11) (a12 := a12) n 0 [] a5 T1 hT1 (fun _ h => by cases h) (by decide) (by simp; omega)
  have hr : RunsOk rs := ⟨r1, r4 (by omega) (by decide), by simp at r3; omega, r2⟩
  obtain ⟨f, T3, hT3, f1, f2, hd3⟩ := drawn_ok hT2 (m := 2) (by decide) (by decide)
  have e3 : G30 34 [.tape, .int 2] T2 = .ok (.int f) false T3 := by rw [g34]; exact hd3
  have hf : f = 0 ∨ f = 1 := by omega
  have e4 : G30 43 [.int f, .lst (natD rs)] T3 = .ok (wordD (wof f rs)) false T3 := k_word T3 29 hr f
  obtain ⟨e, he, -, -, -, -⟩ := entry hr
  have e5 : G30 42 [wordD (wof f rs), .lst (natD rs)] T3 = .ok (qD (due f rs.sum e.v)) false T3 := k_goldberg T3 (by decide) hr hf he
  have e6 : G30 28 [wordD (wof f rs)] T3 = .ok (qD (due f rs.sum e.v)) false T3 := k_byblocks T3 (by decide) hr hf he
  have e7 : G30 27 [wordD (wof f rs)] T3 = .ok (.tup (natD rs)) false T3 := k_blocks_wof T3 26 hr hf
  have e8 := same_2 T3 hr.2.2.1 (due f rs.sum e.v)
  obtain ⟨ms, T4, hT4, hp, e9⟩ := mix_loop g34 (a2 := a2) (a3 := some (false, .lst (natD rs))) (a4 := some (false, .int (12 - (rs.sum : Nat)))) (a5 := b5) (a6 := some (false, .int f)) (a7 := some (false, wordD (wof f rs))) (a8 := some (false, qD (due f rs.sum e.v))) (a11 := a11) (a12 := a12) Vf.most rs [] T3 (by have := hr.2.2.1; show _ < 1000000000; omega) hr.2.2.1 (by have := hr.2.2.1; simp; omega) hT3
  rw [List.nil_append] at hp
  have hrm := runs_perm hp hr
  have e10 : G30 43 [.int f, .lst (natD ms)] T4 = .ok (wordD (wof f ms)) false T4 := k_word T4 29 hrm f
  have e11 : G30 28 [wordD (wof f ms)] T4 = .ok (qD (due f rs.sum e.v)) false T4 := by
    have := k_byblocks T4 (m := 30) (by decide) hrm hf (e := e) (by rw [code_perm hp]; exact he)
    rw [hp.sum_nat] at this
    exact this
  have e12 := same_q T4 (due f rs.sum e.v)
  have lw : (wordD (wof f rs)) = .tup ((wof f rs).map .int) := rfl
  have ll : ((wof f rs).map D.int).length = rs.sum := by rw [List.length_map, wof_len]
  have lenw : lenD (wordD (wof f rs)) = some (.int (rs.sum : Nat), false) := by rw [lw]; show some (D.int (((wof f rs).map D.int).length : Nat), false) = _; rw [ll]
  have hm2 : ((rs.sum : Nat) : Int).fmod 2 = ((rs.sum % 2 : Nat) : Int) := by rw [Int.fmod_eq_emod_of_nonneg _ (by omega)]; rfl
  have m2 : (!decide ((2 : Int) = 0)) = true := by decide
  have e13 : G30 43 [.int (1 - f), .lst (natD rs)] T4 = .ok (wordD (wof (1 - f) rs)) false T4 := k_word T4 29 hr (1 - f)
  have e14 : G30 28 [wordD (wof (1 - f) rs)] T4 = .ok (qD (due (1 - f) rs.sum e.v)) false T4 := k_byblocks T4 (by decide) hr (by omega) he
  have e15 := same_q T4 (due (1 - f) rs.sum e.v)
  have ht := t1_ok e.v f hf rs.sum
  have i0 : idxD (qD (due f rs.sum e.v)) (.int 0) = some (.int (due f rs.sum e.v).1, false) := u_ix0
  have i1 : idxD (qD (due f rs.sum e.v)) (.int 1) = some (.int (due f rs.sum e.v).2, false) := u_ix1
  refine ⟨some (false, .lst (natD rs)), some (false, .int (12 - (rs.sum : Nat))), b5, some (false, .int f), some (false, wordD (wof f rs)), some (false, qD (due f rs.sum e.v)), some (false, .lst (natD ms)), some (true, .lst []), some (false, qD (due (1 - f) rs.sum e.v)), T4, hT4, ?_⟩
  refine st_cons (s1 := ⟨[none, tp, a2, some (true, .lst (natD [])), some (false, .int (12 - (([] : List Nat).sum : Nat))), a5, a6, a7, a8, a9, a10, a11, a12], T⟩) ?_ ?_
  · dsimp! [ef0]; rfl
  refine st_cons (st_for (s0 := ⟨[none, tp, a2, some (true, .lst (natD [])), some (false, .int (12 - (([] : List Nat).sum : Nat))), a5, a6, a7, a8, a9, a10, a11, a12], T1⟩) (it_rngn (n := n) (fr := false) (by dsimp! [e1, hn]) (by omega)) e2) ?_
  refine st_cons (s1 := ⟨[none, tp, a2, some (true, .lst (natD rs)), some (false, .int (12 - (rs.sum : Nat))), b5, some (false, .int f), a7, a8, a9, a10, a11, a12], T3⟩) ?_ ?_
  · dsimp! [e3]
  refine st_cons (s1 := ⟨[none, tp, a2, some (false, .lst (natD rs)), some (false, .int (12 - (rs.sum : Nat))), b5, some (false, .int f), some (false, wordD (wof f rs)), a8, a9, a10, a11, a12], T3⟩) ?_ ?_
  · dsimp! [e4]
  refine st_cons (s1 := ⟨[none, tp, a2, some (false, .lst (natD rs)), some (false, .int (12 - (rs.sum : Nat))), b5, some (false, .int f), some (false, wordD (wof f rs)), some (false, qD (due f rs.sum e.v)), a9, a10, a11, a12], T3⟩) ?_ ?_
  · dsimp! [e5]
  refine st_cons (s1 := ⟨[none, tp, a2, some (false, .lst (natD rs)), some (false, .int (12 - (rs.sum : Nat))), b5, some (false, .int f), some (false, wordD (wof f rs)), some (false, qD (due f rs.sum e.v)), a9, a10, a11, a12], T3⟩) ?_ ?_
  · dsimp! [e6, e7, ef2, e8]
  refine st_cons (s1 := ⟨[none, tp, a2, some (false, .lst (natD rs)), some (false, .int (12 - (rs.sum : Nat))), b5, some (false, .int f), some (false, wordD (wof f rs)), some (false, qD (due f rs.sum e.v)), some (true, .lst (natD [])), some (true, .lst (natD rs)), a11, a12], T3⟩) ?_ ?_
  · dsimp! [ef0]; rfl
  refine st_cons (st_while e9) ?_
  refine st_cons (s1 := ⟨[none, tp, a2, some (false, .lst (natD rs)), some (false, .int (12 - (rs.sum : Nat))), b5, some (false, .int f), some (false, wordD (wof f rs)), some (false, qD (due f rs.sum e.v)), some (false, .lst (natD ms)), some (true, .lst []), a11, a12], T4⟩) ?_ ?_
  · dsimp! [e10, e11, e12]
  refine st_cons (s1 := ⟨[none, tp, a2, some (false, .lst (natD rs)), some (false, .int (12 - (rs.sum : Nat))), b5, some (false, .int f), some (false, wordD (wof f rs)), some (false, qD (due f rs.sum e.v)), some (false, .lst (natD ms)), some (true, .lst []), some (false, qD (due (1 - f) rs.sum e.v)), a12], T4⟩) ?_ ?_
  · rw [ht]
    generalize wordD (wof f rs) = W at lenw ⊢
    by_cases c : rs.sum % 2 = 1
    · rw [if_pos c]
      have c3 : ((rs.sum % 2 : Nat) : Int) = 1 := by omega
      dsimp! [-lenD, lenw, hm2, m2, c3]
    · rw [if_neg c]
      have c3 : ¬ ((rs.sum % 2 : Nat) : Int) = 1 := by omega
      dsimp! [-lenD, lenw, hm2, m2, c3, i0, i1, ef2]
      rfl
  refine st_cons (s1 := ⟨[none, tp, a2, some (false, .lst (natD rs)), some (false, .int (12 - (rs.sum : Nat))), b5, some (false, .int f), some (false, wordD (wof f rs)), some (false, qD (due f rs.sum e.v)), some (false, .lst (natD ms)), some (true, .lst []), some (false, qD (due (1 - f) rs.sum e.v)), a12], T4⟩) ?_ ?_
  · dsimp! [e13, e14, e15]
  refine st_cons (s1 := ⟨[none, tp, a2, some (false, .lst (natD rs)), some (false, .int (12 - (rs.sum : Nat))), b5, some (false, .int f), some (false, wordD (wof f rs)), some (false, qD (due f rs.sum e.v)), some (false, .lst (natD ms)), some (true, .lst []), some (false, qD (due (1 - f) rs.sum e.v)), a12], T4⟩) ?_ st_end
  · by_cases c : rs.sum ≤ 6
    · obtain ⟨n1, n2⟩ := num_ok T4 hr hf c he
      have n3 := same_k T4 (due f rs.sum e.v)
      generalize wordD (wof f rs) = W at lenw n2 ⊢
      have c3 : ((rs.sum : Nat) : Int) < 7 := by omega
      dsimp! [-lenD, lenw, c3, n1, n2, n3]
    · generalize wordD (wof f rs) = W at lenw ⊢
      have c3 : ¬ ((rs.sum : Nat) : Int) < 7 := by omega
      dsimp! [-lenD, lenw, c3]
end HL
namespace HL
open PySem PySem.Spec PyProof.Rows L2 Vf

def badB (a b c v : Nat) : Bool := sameR (E2 44 [wordD (wof 0 [a, b, c] ++ [2 + (v : Int)])] none) (.bl true) false
def bad7 (a b c : Nat) : Bool := badB a b c 0 && badB a b c 1 && badB a b c 2 && badB a b c 3 && badB a b c 4 && badB a b c 5 && badB a b c 6
def bad3 (a b : Nat) : Bool := bad7 a b 1 && bad7 a b 2 && bad7 a b 3
theorem bads1 : (bad3 1 1 && bad3 1 2 && bad3 1 3) = true := by decide +kernel
theorem bads2 : (bad3 2 1 && bad3 2 2 && bad3 2 3) = true := by decide +kernel
theorem bads3 : (bad3 3 1 && bad3 3 2 && bad3 3 3) = true := by decide +kernel
theorem three {p : Nat → Bool} {n : Nat} (h1 : 1 ≤ n) (h3 : n ≤ 3) (h : (p 1 && p 2 && p 3) = true) : p n = true := by
  simp only [Bool.and_eq_true] at h
  obtain ⟨⟨a, b⟩, c⟩ := h
  have : n = 1 ∨ n = 2 ∨ n = 3 := by omega
  rcases this with rfl | rfl | rfl
  · exact a
  · exact b
  · exact c
theorem bad_ok {a b c v : Nat} (ha : 1 ≤ a ∧ a ≤ 3) (hb : 1 ≤ b ∧ b ≤ 3) (hc : 1 ≤ c ∧ c ≤ 3) (hv : v < 7) : badB a b c v = true := by
  have h1 : bad3 a b = true := by
    have : a = 1 ∨ a = 2 ∨ a = 3 := by omega
    rcases this with rfl | rfl | rfl
    · exact three (p := fun b => bad3 1 b) hb.1 hb.2 bads1
    · exact three (p := fun b => bad3 2 b) hb.1 hb.2 bads2
    · exact three (p := fun b => bad3 3 b) hb.1 hb.2 bads3
  have h2 : bad7 a b c = true := three (p := fun c => bad7 a b c) hc.1 hc.2 h1
  unfold bad7 at h2
  simp only [Bool.and_eq_true] at h2
  obtain ⟨⟨⟨⟨⟨⟨q0, q1⟩, q2⟩, q3⟩, q4⟩, q5⟩, q6⟩ := h2
  have : v = 0 ∨ v = 1 ∨ v = 2 ∨ v = 3 ∨ v = 4 ∨ v = 5 ∨ v = 6 := by omega
  rcases this with rfl | rfl | rfl | rfl | rfl | rfl | rfl
  · exact q0
  · exact q1
  · exact q2
  · exact q3
  · exact q4
  · exact q5
  · exact q6
theorem empty_ok : sameR (E2 44 [.tup []] none) (.bl true) false = true := by decide +kernel
def w13 : List D := Vf.rep [.int 0, .int 1] 6 ++ [.int 0]
theorem long_ok : sameR (E2 44 [.tup w13] none) (.bl true) false = true := by decide +kernel
theorem loop4 {B : Sxs} (hB : B = (match bl_law with | .cons (.for_ _ _ b) _ => b | _ => .nil)) : ∀ (n j : Nat) {T : Vf.TP} {a2 a3 a4 a5 a6 a7 a8 a9 a10 a11 : Option (Bool × D)}, TOk T → ∃ b2 b3 b4 b5 b6 b7 b8 b9 b10 b11 T', TOk T' ∧
    forL [2] (evSs G30 B) (rngN j n) ⟨[none, tp, a2, a3, a4, a5, a6, a7, a8, a9, a10, a11, none], T⟩ = .ok .nx ⟨[none, tp, b2, b3, b4, b5, b6, b7, b8, b9, b10, b11, none], T'⟩
  | 0, j, T, a2, a3, a4, a5, a6, a7, a8, a9, a10, a11, hT => ⟨_, _, _, _, _, _, _, _, _, _, _, hT, rfl⟩
  | n + 1, j, T, a2, a3, a4, a5, a6, a7, a8, a9, a10, a11, hT => by
    obtain ⟨b3, b4, b5, b6, b7, b8, b9, b10, b11, T1, h1, e1⟩ := turn hB (a2 := some (false, .int (j : Nat))) (a3 := a3) (a4 := a4) (a5 := a5) (a6 := a6) (a7 := a7) (a8 := a8) (a9 := a9) (a10 := a10) (a11 := a11) (a12 := none) hT
    obtain ⟨c2, c3, c4, c5, c6, c7, c8, c9, c10, c11, T2, h2, e2⟩ := loop4 hB n (j + 1) (a2 := some (false, .int (j : Nat))) (a3 := b3) (a4 := b4) (a5 := b5) (a6 := b6) (a7 := b7) (a8 := b8) (a9 := b9) (a10 := b10) (a11 := b11) h1
    refine ⟨c2, c3, c4, c5, c6, c7, c8, c9, c10, c11, T2, h2, ?_⟩
    show forL [2] _ (.int (j : Nat) :: rngN (j + 1) n) _ = _
    exact for_cons (s1 := ⟨[none, tp, some (false, .int (j : Nat)), a3, a4, a5, a6, a7, a8, a9, a10, a11, none], T⟩) (by dsimp!) e1 e2
abbrev CE : Ex := .prim (.bin .Add) (.cons (.cst (.int (1))) (.cons (.call 34 (.cons (.var 1) (.cons (.cst (.int (3))) .nil))) .nil))
theorem comp_draws {a2 a3 a4 a5 a6 a7 a8 a9 a10 a11 : Option (Bool × D)} : ∀ (n j : Nat) (T : Vf.TP), TOk T → ∃ (rs : List Nat) (T' : Vf.TP), TOk T' ∧ rs.length = n ∧ (∀ x ∈ rs, 1 ≤ x ∧ x ≤ 3) ∧
    compL [12] [12] (Vf.ret true) (evE G30 CE) (rngN j n) ⟨[none, tp, a2, a3, a4, a5, a6, a7, a8, a9, a10, a11, none], T⟩ = .ok (natD rs) ⟨[none, tp, a2, a3, a4, a5, a6, a7, a8, a9, a10, a11, none], T'⟩
  | 0, j, T, hT => ⟨[], T, hT, rfl, (fun _ h => by cases h), rfl⟩
  | n + 1, j, T, hT => by
    obtain ⟨v, T1, hT1, v1, v2, hd⟩ := drawn_ok hT (m := 3) (by decide) (by decide)
    have e1 : G30 34 [.tape, .int 3] T = .ok (.int v) false T1 := by rw [g34]; exact hd
    obtain ⟨rs, T2, h2, l2, q2, e2⟩ := comp_draws (a2 := a2) (a3 := a3) (a4 := a4) (a5 := a5) (a6 := a6) (a7 := a7) (a8 := a8) (a9 := a9) (a10 := a10) (a11 := a11) n (j + 1) T1 hT1
    obtain ⟨m, hm⟩ : ∃ m : Nat, 1 + v = (m : Int) := ⟨(1 + v).toNat, by omega⟩
    refine ⟨m :: rs, T2, h2, by rw [List.length_cons, l2], fun x hx => ?_, ?_⟩
    · rcases List.mem_cons.mp hx with rfl | hx
      · omega
      · exact q2 x hx
    · show compL [12] [12] _ _ (.int (j : Nat) :: rngN (j + 1) n) _ = .ok (.int (m : Nat) :: natD rs) _
      refine comp_yes (x := (.int (m : Nat), false)) (s1 := ⟨[none, tp, a2, a3, a4, a5, a6, a7, a8, a9, a10, a11, some (false, .int (j : Nat))], T⟩) (s2 := ⟨[none, tp, a2, a3, a4, a5, a6, a7, a8, a9, a10, a11, some (false, .int (j : Nat))], T⟩) (s3 := ⟨[none, tp, a2, a3, a4, a5, a6, a7, a8, a9, a10, a11, some (false, .int (j : Nat))], T1⟩) ?_ rfl ?_ e2
      · dsimp!
      · dsimp! [e1, hm]
theorem ev_callW {F : FT} {i : Nat} {e1 e2 : Ex} {s s1 s2 : S} {x y : D × Bool} {r : D} {fr : Bool} (h1 : evE F e1 s = .ok x s1) (h2 : evE F e2 s1 = .ok y s2) (h : F i [x.1, y.1] s2.T = .ok r fr s2.T) : evE F (.call i (.cons e1 (.cons e2 .nil))) s = .ok (r, fr) s2 := by
  unfold evE
  simp only [evEs, u_bnd, h1, h2, u_retS, List.map_cons, List.map_nil, callM, h]
theorem math : ∀ ns : List Int, ns.length ≤ 63 → ∃ fr s', evSs (Vf.run Ps 30) bl_law (lawS n_law.length 1 ns) = .ok (.rt (.bl true) fr) s' := fun ns _ => by
  obtain ⟨p1, p2⟩ := seedF_small ns 7 (by decide) (by decide)
  have hT : TOk (some (ns.map absI, seedF 7 ns + 1)) := ⟨_, _, rfl, by omega, by omega⟩
  have hS : lawS n_law.length 1 ns = ⟨[none, tp, none, none, none, none, none, none, none, none, none, none, none], some (ns.map absI, seedF 7 ns + 1)⟩ := rfl
  rw [hS]
  obtain ⟨b2, b3, b4, b5, b6, b7, b8, b9, b10, b11, T1, h1, e1⟩ := loop4 rfl 4 0 (a2 := none) (a3 := none) (a4 := none) (a5 := none) (a6 := none) (a7 := none) (a8 := none) (a9 := none) (a10 := none) (a11 := none) hT
  obtain ⟨rs, T2, h2, l2, q2, e2⟩ := comp_draws (a2 := b2) (a3 := b3) (a4 := b4) (a5 := b5) (a6 := b6) (a7 := b7) (a8 := b8) (a9 := b9) (a10 := b10) (a11 := b11) 3 0 T1 h1
  obtain ⟨a, b, c, rfl⟩ : ∃ a b c, rs = [a, b, c] := by
    match rs, l2 with
    | [a, b, c], _ => exact ⟨a, b, c, rfl⟩
  have ha := q2 a (by simp)
  have hb := q2 b (by simp)
  have hc := q2 c (by simp)
  have hr : RunsOk [a, b, c] := ⟨fun x hx => by have := q2 x hx; omega, by simp, by simp, by simp; omega⟩
  obtain ⟨v, T3, h3, v1, v2, hd⟩ := drawn_ok h2 (m := 7) (by decide) (by decide)
  have e3 : G30 34 [.tape, .int 7] T2 = .ok (.int v) false T3 := by rw [g34]; exact hd
  obtain ⟨v, rfl⟩ : ∃ n : Nat, v = n := ⟨v.toNat, by omega⟩
  have e4 : G30 43 [.int 0, .lst (natD [a, b, c])] T2 = .ok (wordD (wof 0 [a, b, c])) false T2 := k_word T2 29 hr 0
  have e5 : G30 44 [.tup []] T2 = .ok (.bl true) false T2 := fact_of empty_ok 30 (by decide) T2
  have e6 : G30 44 [wordD (wof 0 [a, b, c] ++ [2 + (v : Int)])] T3 = .ok (.bl true) false T3 := fact_of (bad_ok ha hb hc (by omega)) 30 (by decide) T3
  have e7 : G30 44 [.tup w13] T3 = .ok (.bl true) false T3 := fact_of long_ok 30 (by decide) T3
  have em : (wof 0 [a, b, c]).map D.int ++ [.int (2 + (v : Int))] = (wof 0 [a, b, c] ++ [2 + (v : Int)]).map .int := by rw [List.map_append]; rfl
  have ef : fits (((wof 0 [a, b, c]).map D.int).length + 1) = true := decide_eq_true (by rw [List.length_map, wof_len]; simp; show _ ≤ 2 ^ 24; omega)
  have ef1 : fits 1 = true := by decide
  have ef2 : fits 2 = true := by decide
  have e6' : G30 44 [.tup ((wof 0 [a, b, c] ++ [2 + (v : Int)]).map .int)] T3 = .ok (.bl true) false T3 := e6
  have hcomp : evE G30 (.comp [12] [12] (.rng1 (.cst (.int (3)))) .nil CE) ⟨[none, tp, b2, b3, b4, b5, b6, b7, b8, b9, b10, b11, none], T1⟩ = .ok (.lst (natD [a, b, c]), true) ⟨[none, tp, b2, b3, b4, b5, b6, b7, b8, b9, b10, b11, none], T2⟩ :=
    ev_comp0 (s0 := ⟨[none, tp, b2, b3, b4, b5, b6, b7, b8, b9, b10, b11, none], T1⟩) (ds := rngN 0 3) (xs := natD [a, b, c]) (it_rngn (n := 3) (fr := false) (by unfold evE; rfl) (by decide)) rfl e2 rfl
  have hmul : mulD (.tup [.int 0, .int 1]) (.int 6) = some (.tup (Vf.rep [.int 0, .int 1] 6), false) := rfl
  have hadd : addD (.tup (Vf.rep [.int 0, .int 1] 6)) (.tup [.int 0]) = some (.tup w13, false) := rfl
  refine ⟨false, ⟨[none, tp, b2, b3, b4, b5, b6, some (false, wordD (wof 0 [a, b, c])), b8, b9, b10, b11, none], T3⟩, ?_⟩
  refine st_cons (st_for (s0 := ⟨[none, tp, none, none, none, none, none, none, none, none, none, none, none], some (ns.map absI, seedF 7 ns + 1)⟩) (ds := rngN 0 4) rfl e1) ?_
  refine st_cons (s1 := ⟨[none, tp, b2, b3, b4, b5, b6, some (false, wordD (wof 0 [a, b, c])), b8, b9, b10, b11, none], T2⟩) (st_set (s1 := ⟨[none, tp, b2, b3, b4, b5, b6, b7, b8, b9, b10, b11, none], T2⟩) (x := (wordD (wof 0 [a, b, c]), false)) (ev_callW (x := (.int 0, false)) rfl hcomp e4)) ?_
  refine st_last ?_
  have hw : wordD (wof 0 [a, b, c]) = .tup ((wof 0 [a, b, c]).map .int) := rfl
  have ef0 : fits 0 = true := by decide
  have ha1 : addD (.int 2) (.int (v : Nat)) = some (.int (2 + (v : Int)), false) := rfl
  have ha2 : addD (.tup ((wof 0 [a, b, c]).map .int)) (.tup [.int (2 + (v : Int))]) = some (.tup ((wof 0 [a, b, c] ++ [2 + (v : Int)]).map .int), false) := by
    show (if fits (((wof 0 [a, b, c]).map D.int).length + 1) = true then some (D.tup ((wof 0 [a, b, c]).map D.int ++ [.int (2 + (v : Int))]), false) else none) = _
    rw [if_pos ef, em]
  rw [hw]
  dsimp! [-mulD, -addD, ef0, e5, e3, ef1, ef2, ha1, ha2, e6', hmul, hadd, e7]
end HL
namespace HL
open PySem PySem.Spec PyProof.Rows L2 Vf
theorem exb_ZERO {K : PySem.W.Frag} (more : exB K = true) : He.tupB K "ZERO" (([0, 1] : List Int).map He.Dv.int) = true := (Bool.and_eq_true_iff.mp more).1
theorem exb_ONE {K : PySem.W.Frag} (more : exB K = true) : He.tupB K "ONE" (([1, 1] : List Int).map He.Dv.int) = true := (Bool.and_eq_true_iff.mp more).2
section
variable {P : Program} {w : World} {K : PySem.W.Frag} {h : Heap} {mg : Str → Option Value} (X : K.In h) (G : h.Ns mainGlobals mg) (c : He.SaysD fa fn K) (more : exB K = true) (base : Heap)
include X G c
theorem d_is_integer : ∃ f, mg ("is_integer" : Str) = some (.ref f) ∧ DefIn Ct P w K mg base Ps 0 f := by
  obtain ⟨fd, F_is_integer⟩ := c.def_ 0 (d := ⟨("is_integer", none), "is_integer", "is_integer", defArgs (top 9), defBody (top 9), defScope (top 9), [], []⟩) (by kernel_rfl)
  exact ⟨He.ga K "is_integer", He.glo_ok X G (c.fact 12 (f := .glo "is_integer") (by kernel_rfl)), ⟨⟨fd, p_is_integer, by kernel_rfl, F_is_integer.kp, (F_is_integer.bindsN fun _ _ _ _ _ _ us hl => match us, hl with | [_], _ => rfl), .inl ⟨b_is_integer, n_is_integer, _, _, _, _, _, _, _, by kernel_rfl, F_is_integer, s_is_integer, c_is_integer⟩⟩⟩⟩
theorem d_is_ratio : ∃ f, mg ("is_ratio" : Str) = some (.ref f) ∧ DefIn Ct P w K mg base Ps 1 f := by
  obtain ⟨fd, F_is_ratio⟩ := c.def_ 1 (d := ⟨("is_ratio", none), "is_ratio", "is_ratio", defArgs (top 10), defBody (top 10), defScope (top 10), [], []⟩) (by kernel_rfl)
  exact ⟨He.ga K "is_ratio", He.glo_ok X G (c.fact 13 (f := .glo "is_ratio") (by kernel_rfl)), ⟨⟨fd, p_is_ratio, by kernel_rfl, F_is_ratio.kp, (F_is_ratio.bindsN fun _ _ _ _ _ _ us hl => match us, hl with | [_], _ => rfl), .inl ⟨b_is_ratio, n_is_ratio, _, _, _, _, _, _, _, by kernel_rfl, F_is_ratio, s_is_ratio, c_is_ratio⟩⟩⟩⟩
theorem d_divisor : ∃ f, mg ("divisor" : Str) = some (.ref f) ∧ DefIn Ct P w K mg base Ps 2 f := by
  obtain ⟨fd, F_divisor⟩ := c.def_ 2 (d := ⟨("divisor", none), "divisor", "divisor", defArgs (top 11), defBody (top 11), defScope (top 11), [], []⟩) (by kernel_rfl)
  exact ⟨He.ga K "divisor", He.glo_ok X G (c.fact 14 (f := .glo "divisor") (by kernel_rfl)), ⟨⟨fd, p_divisor, by kernel_rfl, F_divisor.kp, (F_divisor.bindsN fun _ _ _ _ _ _ us hl => match us, hl with | [_, _], _ => rfl), .inl ⟨b_divisor, n_divisor, _, _, _, _, _, _, _, by kernel_rfl, F_divisor, s_divisor, c_divisor⟩⟩⟩⟩
theorem d_make : ∃ f, mg ("make" : Str) = some (.ref f) ∧ DefIn Ct P w K mg base Ps 3 f := by
  obtain ⟨fd, F_make⟩ := c.def_ 3 (d := ⟨("make", none), "make", "make", defArgs (top 12), defBody (top 12), defScope (top 12), [], []⟩) (by kernel_rfl)
  exact ⟨He.ga K "make", He.glo_ok X G (c.fact 15 (f := .glo "make") (by kernel_rfl)), ⟨⟨fd, p_make, by kernel_rfl, F_make.kp, (F_make.bindsN fun _ _ _ _ _ _ us hl => match us, hl with | [_, _], _ => rfl), .inl ⟨b_make, n_make, _, _, _, _, _, _, _, by kernel_rfl, F_make, s_make, c_make⟩⟩⟩⟩
theorem d_add : ∃ f, mg ("add" : Str) = some (.ref f) ∧ DefIn Ct P w K mg base Ps 4 f := by
  obtain ⟨fd, F_add⟩ := c.def_ 4 (d := ⟨("add", none), "add", "add", defArgs (top 32), defBody (top 32), defScope (top 32), [], []⟩) (by kernel_rfl)
  exact ⟨He.ga K "add", He.glo_ok X G (c.fact 16 (f := .glo "add") (by kernel_rfl)), ⟨⟨fd, p_add, by kernel_rfl, F_add.kp, (F_add.bindsN fun _ _ _ _ _ _ us hl => match us, hl with | [_, _], _ => rfl), .inl ⟨b_add, n_add, _, _, _, _, _, _, _, by kernel_rfl, F_add, s_add, c_add⟩⟩⟩⟩
theorem d_add_ratios : ∃ f, mg ("add_ratios" : Str) = some (.ref f) ∧ DefIn Ct P w K mg base Ps 5 f := by
  obtain ⟨fd, F_add_ratios⟩ := c.def_ 5 (d := ⟨("add_ratios", none), "add", "add", defArgs (top 13), defBody (top 13), defScope (top 13), [], []⟩) (by kernel_rfl)
  exact ⟨He.ga K "add_ratios", He.glo_ok X G (c.fact 17 (f := .glo "add_ratios") (by kernel_rfl)), ⟨⟨fd, p_add_ratios, by kernel_rfl, F_add_ratios.kp, (F_add_ratios.bindsN fun _ _ _ _ _ _ us hl => match us, hl with | [_, _], _ => rfl), .inl ⟨b_add_ratios, n_add_ratios, _, _, _, _, _, _, _, by kernel_rfl, F_add_ratios, s_add_ratios, c_add_ratios⟩⟩⟩⟩
theorem d_multiply : ∃ f, mg ("multiply" : Str) = some (.ref f) ∧ DefIn Ct P w K mg base Ps 6 f := by
  obtain ⟨fd, F_multiply⟩ := c.def_ 6 (d := ⟨("multiply", none), "multiply", "multiply", defArgs (top 15), defBody (top 15), defScope (top 15), [], []⟩) (by kernel_rfl)
  exact ⟨He.ga K "multiply", He.glo_ok X G (c.fact 18 (f := .glo "multiply") (by kernel_rfl)), ⟨⟨fd, p_multiply, by kernel_rfl, F_multiply.kp, (F_multiply.bindsN fun _ _ _ _ _ _ us hl => match us, hl with | [_, _], _ => rfl), .inl ⟨b_multiply, n_multiply, _, _, _, _, _, _, _, by kernel_rfl, F_multiply, s_multiply, c_multiply⟩⟩⟩⟩
theorem d_divide : ∃ f, mg ("divide" : Str) = some (.ref f) ∧ DefIn Ct P w K mg base Ps 7 f := by
  obtain ⟨fd, F_divide⟩ := c.def_ 7 (d := ⟨("divide", none), "divide", "divide", defArgs (top 16), defBody (top 16), defScope (top 16), [], []⟩) (by kernel_rfl)
  exact ⟨He.ga K "divide", He.glo_ok X G (c.fact 19 (f := .glo "divide") (by kernel_rfl)), ⟨⟨fd, p_divide, by kernel_rfl, F_divide.kp, (F_divide.bindsN fun _ _ _ _ _ _ us hl => match us, hl with | [_, _], _ => rfl), .inl ⟨b_divide, n_divide, _, _, _, _, _, _, _, by kernel_rfl, F_divide, s_divide, c_divide⟩⟩⟩⟩
theorem d_is_word : ∃ f, mg ("is_word" : Str) = some (.ref f) ∧ DefIn Ct P w K mg base Ps 8 f := by
  obtain ⟨fd, F_is_word⟩ := c.def_ 8 (d := ⟨("is_word", none), "is_word", "is_word", defArgs (top 20), defBody (top 20), defScope (top 20), [], []⟩) (by kernel_rfl)
  exact ⟨He.ga K "is_word", He.glo_ok X G (c.fact 22 (f := .glo "is_word") (by kernel_rfl)), ⟨⟨fd, p_is_word, by kernel_rfl, F_is_word.kp, (F_is_word.bindsN fun _ _ _ _ _ _ us hl => match us, hl with | [_], _ => rfl), .inl ⟨b_is_word, n_is_word, _, _, _, _, _, _, _, by kernel_rfl, F_is_word, s_is_word, c_is_word⟩⟩⟩⟩
theorem d_check_word : ∃ f, mg ("check_word" : Str) = some (.ref f) ∧ DefIn Ct P w K mg base Ps 9 f := by
  obtain ⟨fd, F_check_word⟩ := c.def_ 9 (d := ⟨("check_word", none), "check_word", "check_word", defArgs (top 21), defBody (top 21), defScope (top 21), [], []⟩) (by kernel_rfl)
  exact ⟨He.ga K "check_word", He.glo_ok X G (c.fact 23 (f := .glo "check_word") (by kernel_rfl)), ⟨⟨fd, p_check_word, by kernel_rfl, F_check_word.kp, (F_check_word.bindsN fun _ _ _ _ _ _ us hl => match us, hl with | [_], _ => rfl), .inl ⟨b_check_word, n_check_word, _, _, _, _, _, _, _, by kernel_rfl, F_check_word, s_check_word, c_check_word⟩⟩⟩⟩
theorem d_is_sum : ∃ f, mg ("is_sum" : Str) = some (.ref f) ∧ DefIn Ct P w K mg base Ps 10 f := by
  obtain ⟨fd, F_is_sum⟩ := c.def_ 10 (d := ⟨("is_sum", none), "is_sum", "is_sum", defArgs (top 25), defBody (top 25), defScope (top 25), [], []⟩) (by kernel_rfl)
  exact ⟨He.ga K "is_sum", He.glo_ok X G (c.fact 26 (f := .glo "is_sum") (by kernel_rfl)), ⟨⟨fd, p_is_sum, by kernel_rfl, F_is_sum.kp, (F_is_sum.bindsN fun _ _ _ _ _ _ us hl => match us, hl with | [_], _ => rfl), .inl ⟨b_is_sum, n_is_sum, _, _, _, _, _, _, _, by kernel_rfl, F_is_sum, s_is_sum, c_is_sum⟩⟩⟩⟩
theorem d_check_sum : ∃ f, mg ("check_sum" : Str) = some (.ref f) ∧ DefIn Ct P w K mg base Ps 11 f := by
  obtain ⟨fd, F_check_sum⟩ := c.def_ 11 (d := ⟨("check_sum", none), "check_sum", "check_sum", defArgs (top 26), defBody (top 26), defScope (top 26), [], []⟩) (by kernel_rfl)
  exact ⟨He.ga K "check_sum", He.glo_ok X G (c.fact 27 (f := .glo "check_sum") (by kernel_rfl)), ⟨⟨fd, p_check_sum, by kernel_rfl, F_check_sum.kp, (F_check_sum.bindsN fun _ _ _ _ _ _ us hl => match us, hl with | [_], _ => rfl), .inl ⟨b_check_sum, n_check_sum, _, _, _, _, _, _, _, by kernel_rfl, F_check_sum, s_check_sum, c_check_sum⟩⟩⟩⟩
theorem d_key : ∃ f, mg ("key" : Str) = some (.ref f) ∧ DefIn Ct P w K mg base Ps 12 f := by
  obtain ⟨fd, F_key⟩ := c.def_ 12 (d := ⟨("key", none), "key", "key", defArgs (top 27), defBody (top 27), defScope (top 27), [], []⟩) (by kernel_rfl)
  exact ⟨He.ga K "key", He.glo_ok X G (c.fact 28 (f := .glo "key") (by kernel_rfl)), ⟨⟨fd, p_key, by kernel_rfl, F_key.kp, (F_key.bindsN fun _ _ _ _ _ _ us hl => match us, hl with | [_], _ => rfl), .inl ⟨b_key, n_key, _, _, _, _, _, _, _, by kernel_rfl, F_key, s_key, c_key⟩⟩⟩⟩
theorem d_gathered : ∃ f, mg ("gathered" : Str) = some (.ref f) ∧ DefIn Ct P w K mg base Ps 13 f := by
  obtain ⟨fd, F_gathered⟩ := c.def_ 13 (d := ⟨("gathered", none), "gathered", "gathered", defArgs (top 28), defBody (top 28), defScope (top 28), [], []⟩) (by kernel_rfl)
  exact ⟨He.ga K "gathered", He.glo_ok X G (c.fact 29 (f := .glo "gathered") (by kernel_rfl)), ⟨⟨fd, p_gathered, by kernel_rfl, F_gathered.kp, (F_gathered.bindsN fun _ _ _ _ _ _ us hl => match us, hl with | [_], _ => rfl), .inl ⟨b_gathered, n_gathered, _, _, _, _, _, _, _, by kernel_rfl, F_gathered, s_gathered, c_gathered⟩⟩⟩⟩
theorem d_of_word : ∃ f, mg ("of_word" : Str) = some (.ref f) ∧ DefIn Ct P w K mg base Ps 14 f := by
  obtain ⟨fd, F_of_word⟩ := c.def_ 14 (d := ⟨("of_word", none), "of_word", "of_word", defArgs (top 29), defBody (top 29), defScope (top 29), [], []⟩) (by kernel_rfl)
  exact ⟨He.ga K "of_word", He.glo_ok X G (c.fact 30 (f := .glo "of_word") (by kernel_rfl)), ⟨⟨fd, p_of_word, by kernel_rfl, F_of_word.kp, (F_of_word.bindsN fun _ _ _ _ _ _ us hl => match us, hl with | [_], _ => rfl), .inl ⟨b_of_word, n_of_word, _, _, _, _, _, _, _, by kernel_rfl, F_of_word, s_of_word, c_of_word⟩⟩⟩⟩
theorem d_letter : ∃ f, mg ("letter" : Str) = some (.ref f) ∧ DefIn Ct P w K mg base Ps 15 f := by
  obtain ⟨fd, F_letter⟩ := c.def_ 15 (d := ⟨("letter", none), "letter", "letter", defArgs (top 30), defBody (top 30), defScope (top 30), [], []⟩) (by kernel_rfl)
  exact ⟨He.ga K "letter", He.glo_ok X G (c.fact 31 (f := .glo "letter") (by kernel_rfl)), ⟨⟨fd, p_letter, by kernel_rfl, F_letter.kp, (F_letter.bindsN fun _ _ _ _ _ _ us hl => match us, hl with | [_], _ => rfl), .inl ⟨b_letter, n_letter, _, _, _, _, _, _, _, by kernel_rfl, F_letter, s_letter, c_letter⟩⟩⟩⟩
theorem d_one : ∃ f, mg ("one" : Str) = some (.ref f) ∧ DefIn Ct P w K mg base Ps 16 f := by
  obtain ⟨fd, F_one⟩ := c.def_ 16 (d := ⟨("one", none), "one", "one", defArgs (top 31), defBody (top 31), defScope (top 31), [], []⟩) (by kernel_rfl)
  exact ⟨He.ga K "one", He.glo_ok X G (c.fact 32 (f := .glo "one") (by kernel_rfl)), ⟨⟨fd, p_one, by kernel_rfl, F_one.kp, (F_one.bindsN fun _ _ _ _ _ _ us hl => match us, hl with | [], _ => rfl), .inl ⟨b_one, n_one, _, _, _, _, _, _, _, by kernel_rfl, F_one, s_one, c_one⟩⟩⟩⟩
theorem d_add_sums : ∃ f, mg ("add_sums" : Str) = some (.ref f) ∧ DefIn Ct P w K mg base Ps 4 f := by
  obtain ⟨fd, F_add_sums⟩ := c.def_ 17 (d := ⟨("add_sums", none), "add", "add", defArgs (top 32), defBody (top 32), defScope (top 32), [], []⟩) (by kernel_rfl)
  exact ⟨He.ga K "add_sums", He.glo_ok X G (c.fact 33 (f := .glo "add_sums") (by kernel_rfl)), ⟨⟨fd, p_add, by kernel_rfl, F_add_sums.kp, (F_add_sums.bindsN fun _ _ _ _ _ _ us hl => match us, hl with | [_, _], _ => rfl), .inl ⟨b_add, n_add, _, _, _, _, _, _, _, by kernel_rfl, F_add_sums, s_add, c_add⟩⟩⟩⟩
theorem d_scaled : ∃ f, mg ("scaled" : Str) = some (.ref f) ∧ DefIn Ct P w K mg base Ps 17 f := by
  obtain ⟨fd, F_scaled⟩ := c.def_ 18 (d := ⟨("scaled", none), "scaled", "scaled", defArgs (top 34), defBody (top 34), defScope (top 34), [], []⟩) (by kernel_rfl)
  exact ⟨He.ga K "scaled", He.glo_ok X G (c.fact 34 (f := .glo "scaled") (by kernel_rfl)), ⟨⟨fd, p_scaled, by kernel_rfl, F_scaled.kp, (F_scaled.bindsN fun _ _ _ _ _ _ us hl => match us, hl with | [_, _], _ => rfl), .inl ⟨b_scaled, n_scaled, _, _, _, _, _, _, _, by kernel_rfl, F_scaled, s_scaled, c_scaled⟩⟩⟩⟩
theorem d_minus : ∃ f, mg ("minus" : Str) = some (.ref f) ∧ DefIn Ct P w K mg base Ps 18 f := by
  obtain ⟨fd, F_minus⟩ := c.def_ 19 (d := ⟨("minus", none), "minus", "minus", defArgs (top 35), defBody (top 35), defScope (top 35), [], []⟩) (by kernel_rfl)
  exact ⟨He.ga K "minus", He.glo_ok X G (c.fact 35 (f := .glo "minus") (by kernel_rfl)), ⟨⟨fd, p_minus, by kernel_rfl, F_minus.kp, (F_minus.bindsN fun _ _ _ _ _ _ us hl => match us, hl with | [_, _], _ => rfl), .inl ⟨b_minus, n_minus, _, _, _, _, _, _, _, by kernel_rfl, F_minus, s_minus, c_minus⟩⟩⟩⟩
theorem d_cut_product : ∃ f, mg ("cut_product" : Str) = some (.ref f) ∧ DefIn Ct P w K mg base Ps 19 f := by
  obtain ⟨fd, F_cut_product⟩ := c.def_ 20 (d := ⟨("cut_product", none), "cut_product", "cut_product", defArgs (top 36), defBody (top 36), defScope (top 36), [], []⟩) (by kernel_rfl)
  exact ⟨He.ga K "cut_product", He.glo_ok X G (c.fact 36 (f := .glo "cut_product") (by kernel_rfl)), ⟨⟨fd, p_cut_product, by kernel_rfl, F_cut_product.kp, (F_cut_product.bindsN fun _ _ _ _ _ _ us hl => match us, hl with | [_, _, _], _ => rfl), .inl ⟨b_cut_product, n_cut_product, _, _, _, _, _, _, _, by kernel_rfl, F_cut_product, s_cut_product, c_cut_product⟩⟩⟩⟩
theorem d_number_at : ∃ f, mg ("number_at" : Str) = some (.ref f) ∧ DefIn Ct P w K mg base Ps 20 f := by
  obtain ⟨fd, F_number_at⟩ := c.def_ 21 (d := ⟨("number_at", none), "number_at", "number_at", defArgs (top 37), defBody (top 37), defScope (top 37), [], []⟩) (by kernel_rfl)
  exact ⟨He.ga K "number_at", He.glo_ok X G (c.fact 37 (f := .glo "number_at") (by kernel_rfl)), ⟨⟨fd, p_number_at, by kernel_rfl, F_number_at.kp, (F_number_at.bindsN fun _ _ _ _ _ _ us hl => match us, hl with | [_, _], _ => rfl), .inl ⟨b_number_at, n_number_at, _, _, _, _, _, _, _, by kernel_rfl, F_number_at, s_number_at, c_number_at⟩⟩⟩⟩
theorem d_cut : ∃ f, mg ("cut" : Str) = some (.ref f) ∧ DefIn Ct P w K mg base Ps 21 f := by
  obtain ⟨fd, F_cut⟩ := c.def_ 22 (d := ⟨("cut", none), "cut", "cut", defArgs (top 38), defBody (top 38), defScope (top 38), [], []⟩) (by kernel_rfl)
  exact ⟨He.ga K "cut", He.glo_ok X G (c.fact 38 (f := .glo "cut") (by kernel_rfl)), ⟨⟨fd, p_cut, by kernel_rfl, F_cut.kp, (F_cut.bindsN fun _ _ _ _ _ _ us hl => match us, hl with | [_, _], _ => rfl), .inl ⟨b_cut, n_cut, _, _, _, _, _, _, _, by kernel_rfl, F_cut, s_cut, c_cut⟩⟩⟩⟩
theorem d_check_depth : ∃ f, mg ("check_depth" : Str) = some (.ref f) ∧ DefIn Ct P w K mg base Ps 22 f := by
  obtain ⟨fd, F_check_depth⟩ := c.def_ 23 (d := ⟨("check_depth", none), "check_depth", "check_depth", defArgs (top 41), defBody (top 41), defScope (top 41), [], []⟩) (by kernel_rfl)
  exact ⟨He.ga K "check_depth", He.glo_ok X G (c.fact 40 (f := .glo "check_depth") (by kernel_rfl)), ⟨⟨fd, p_check_depth, by kernel_rfl, F_check_depth.kp, (F_check_depth.bindsN fun _ _ _ _ _ _ us hl => match us, hl with | [_], _ => rfl), .inl ⟨b_check_depth, n_check_depth, _, _, _, _, _, _, _, by kernel_rfl, F_check_depth, s_check_depth, c_check_depth⟩⟩⟩⟩
theorem d_exponential : ∃ f, mg ("exponential" : Str) = some (.ref f) ∧ DefIn Ct P w K mg base Ps 23 f := by
  obtain ⟨fd, F_exponential⟩ := c.def_ 24 (d := ⟨("exponential", none), "exponential", "exponential", defArgs (top 42), defBody (top 42), defScope (top 42), [], []⟩) (by kernel_rfl)
  exact ⟨He.ga K "exponential", He.glo_ok X G (c.fact 41 (f := .glo "exponential") (by kernel_rfl)), ⟨⟨fd, p_exponential, by kernel_rfl, F_exponential.kp, (F_exponential.bindsN fun _ _ _ _ _ _ us hl => match us, hl with | [_, _], _ => rfl), .inl ⟨b_exponential, n_exponential, _, _, _, _, _, _, _, by kernel_rfl, F_exponential, s_exponential, c_exponential⟩⟩⟩⟩
theorem d_logarithm : ∃ f, mg ("logarithm" : Str) = some (.ref f) ∧ DefIn Ct P w K mg base Ps 24 f := by
  obtain ⟨fd, F_logarithm⟩ := c.def_ 25 (d := ⟨("logarithm", none), "logarithm", "logarithm", defArgs (top 43), defBody (top 43), defScope (top 43), [], []⟩) (by kernel_rfl)
  exact ⟨He.ga K "logarithm", He.glo_ok X G (c.fact 42 (f := .glo "logarithm") (by kernel_rfl)), ⟨⟨fd, p_logarithm, by kernel_rfl, F_logarithm.kp, (F_logarithm.bindsN fun _ _ _ _ _ _ us hl => match us, hl with | [_, _], _ => rfl), .inl ⟨b_logarithm, n_logarithm, _, _, _, _, _, _, _, by kernel_rfl, F_logarithm, s_logarithm, c_logarithm⟩⟩⟩⟩
theorem d_together : ∃ f, mg ("together" : Str) = some (.ref f) ∧ DefIn Ct P w K mg base Ps 25 f := by
  obtain ⟨fd, F_together⟩ := c.def_ 26 (d := ⟨("together", none), "together", "together", defArgs (top 44), defBody (top 44), defScope (top 44), [], []⟩) (by kernel_rfl)
  exact ⟨He.ga K "together", He.glo_ok X G (c.fact 43 (f := .glo "together") (by kernel_rfl)), ⟨⟨fd, p_together, by kernel_rfl, F_together.kp, (F_together.bindsN fun _ _ _ _ _ _ us hl => match us, hl with | [_, _, _], _ => rfl), .inl ⟨b_together, n_together, _, _, _, _, _, _, _, by kernel_rfl, F_together, s_together, c_together⟩⟩⟩⟩
theorem d_two_letters : ∃ f, mg ("two_letters" : Str) = some (.ref f) ∧ DefIn Ct P w K mg base Ps 26 f := by
  obtain ⟨fd, F_two_letters⟩ := c.def_ 27 (d := ⟨("two_letters", none), "two_letters", "two_letters", defArgs (top 45), defBody (top 45), defScope (top 45), [], []⟩) (by kernel_rfl)
  exact ⟨He.ga K "two_letters", He.glo_ok X G (c.fact 44 (f := .glo "two_letters") (by kernel_rfl)), ⟨⟨fd, p_two_letters, by kernel_rfl, F_two_letters.kp, (F_two_letters.bindsN fun _ _ _ _ _ _ us hl => match us, hl with | [_], _ => rfl), .inl ⟨b_two_letters, n_two_letters, _, _, _, _, _, _, _, by kernel_rfl, F_two_letters, s_two_letters, c_two_letters⟩⟩⟩⟩
theorem d_blocks : ∃ f, mg ("blocks" : Str) = some (.ref f) ∧ DefIn Ct P w K mg base Ps 27 f := by
  obtain ⟨fd, F_blocks⟩ := c.def_ 28 (d := ⟨("blocks", none), "blocks", "blocks", defArgs (top 46), defBody (top 46), defScope (top 46), [], []⟩) (by kernel_rfl)
  exact ⟨He.ga K "blocks", He.glo_ok X G (c.fact 45 (f := .glo "blocks") (by kernel_rfl)), ⟨⟨fd, p_blocks, by kernel_rfl, F_blocks.kp, (F_blocks.bindsN fun _ _ _ _ _ _ us hl => match us, hl with | [_], _ => rfl), .inl ⟨b_blocks, n_blocks, _, _, _, _, _, _, _, by kernel_rfl, F_blocks, s_blocks, c_blocks⟩⟩⟩⟩
theorem d_by_blocks : ∃ f, mg ("by_blocks" : Str) = some (.ref f) ∧ DefIn Ct P w K mg base Ps 28 f := by
  obtain ⟨fd, F_by_blocks⟩ := c.def_ 29 (d := ⟨("by_blocks", none), "by_blocks", "by_blocks", defArgs (top 47), defBody (top 47), defScope (top 47), [], []⟩) (by kernel_rfl)
  exact ⟨He.ga K "by_blocks", He.glo_ok X G (c.fact 46 (f := .glo "by_blocks") (by kernel_rfl)), ⟨⟨fd, p_by_blocks, by kernel_rfl, F_by_blocks.kp, (F_by_blocks.bindsN fun _ _ _ _ _ _ us hl => match us, hl with | [_], _ => rfl), .inl ⟨b_by_blocks, n_by_blocks, _, _, _, _, _, _, _, by kernel_rfl, F_by_blocks, s_by_blocks, c_by_blocks⟩⟩⟩⟩
theorem d_run_poly : ∃ f, mg ("run_poly" : Str) = some (.ref f) ∧ DefIn Ct P w K mg base Ps 29 f := by
  obtain ⟨fd, F_run_poly⟩ := c.def_ 30 (d := ⟨("run_poly", none), "run_poly", "run_poly", defArgs (top 48), defBody (top 48), defScope (top 48), [], []⟩) (by kernel_rfl)
  exact ⟨He.ga K "run_poly", He.glo_ok X G (c.fact 47 (f := .glo "run_poly") (by kernel_rfl)), ⟨⟨fd, p_run_poly, by kernel_rfl, F_run_poly.kp, (F_run_poly.bindsN fun _ _ _ _ _ _ us hl => match us, hl with | [_], _ => rfl), .inl ⟨b_run_poly, n_run_poly, _, _, _, _, _, _, _, by kernel_rfl, F_run_poly, s_run_poly, c_run_poly⟩⟩⟩⟩
theorem d_times_poly : ∃ f, mg ("times_poly" : Str) = some (.ref f) ∧ DefIn Ct P w K mg base Ps 30 f := by
  obtain ⟨fd, F_times_poly⟩ := c.def_ 31 (d := ⟨("times_poly", none), "times_poly", "times_poly", defArgs (top 49), defBody (top 49), defScope (top 49), [], []⟩) (by kernel_rfl)
  exact ⟨He.ga K "times_poly", He.glo_ok X G (c.fact 48 (f := .glo "times_poly") (by kernel_rfl)), ⟨⟨fd, p_times_poly, by kernel_rfl, F_times_poly.kp, (F_times_poly.bindsN fun _ _ _ _ _ _ us hl => match us, hl with | [_, _], _ => rfl), .inl ⟨b_times_poly, n_times_poly, _, _, _, _, _, _, _, by kernel_rfl, F_times_poly, s_times_poly, c_times_poly⟩⟩⟩⟩
theorem d_slope_poly : ∃ f, mg ("slope_poly" : Str) = some (.ref f) ∧ DefIn Ct P w K mg base Ps 31 f := by
  obtain ⟨fd, F_slope_poly⟩ := c.def_ 32 (d := ⟨("slope_poly", none), "slope_poly", "slope_poly", defArgs (top 50), defBody (top 50), defScope (top 50), [], []⟩) (by kernel_rfl)
  exact ⟨He.ga K "slope_poly", He.glo_ok X G (c.fact 49 (f := .glo "slope_poly") (by kernel_rfl)), ⟨⟨fd, p_slope_poly, by kernel_rfl, F_slope_poly.kp, (F_slope_poly.bindsN fun _ _ _ _ _ _ us hl => match us, hl with | [_], _ => rfl), .inl ⟨b_slope_poly, n_slope_poly, _, _, _, _, _, _, _, by kernel_rfl, F_slope_poly, s_slope_poly, c_slope_poly⟩⟩⟩⟩
theorem d_area : ∃ f, mg ("area" : Str) = some (.ref f) ∧ DefIn Ct P w K mg base Ps 32 f := by
  obtain ⟨fd, F_area⟩ := c.def_ 33 (d := ⟨("area", none), "area", "area", defArgs (top 51), defBody (top 51), defScope (top 51), [], []⟩) (by kernel_rfl)
  exact ⟨He.ga K "area", He.glo_ok X G (c.fact 50 (f := .glo "area") (by kernel_rfl)), ⟨⟨fd, p_area, by kernel_rfl, F_area.kp, (F_area.bindsN fun _ _ _ _ _ _ us hl => match us, hl with | [_], _ => rfl), .inl ⟨b_area, n_area, _, _, _, _, _, _, _, by kernel_rfl, F_area, s_area, c_area⟩⟩⟩⟩
theorem d__law_draw : ∃ f, mg ("_law_draw" : Str) = some (.ref f) ∧ DefIn Ct P w K mg base Ps 34 f := by
  obtain ⟨fd, F__law_draw⟩ := c.def_ 35 (d := ⟨("_law_draw", none), "_law_draw", "_law_draw", defArgs (top 54), defBody (top 54), defScope (top 54), [], []⟩) (by kernel_rfl)
  exact ⟨He.ga K "_law_draw", He.glo_ok X G (c.fact 52 (f := .glo "_law_draw") (by kernel_rfl)), ⟨⟨fd, ["tape", "many"], by kernel_rfl, F__law_draw.kp, (F__law_draw.bindsN fun _ _ _ _ _ _ us hl => match us, hl with | [_, _], _ => rfl), .inr ⟨drawP, by kernel_rfl, draw_ok F__law_draw s__law_draw t__law_draw c__law_draw (He.free_ok X G (c.fact 97 (f := .free "len") (by kernel_rfl))) (He.free_ok X G (c.fact 95 (f := .free "int") (by kernel_rfl)))⟩⟩⟩⟩
theorem d__law_same : ∃ f, mg ("_law_same" : Str) = some (.ref f) ∧ DefIn Ct P w K mg base Ps 35 f := by
  obtain ⟨fd, F__law_same⟩ := c.def_ 36 (d := ⟨("_law_same", none), "_law_same", "_law_same", defArgs (top 55), defBody (top 55), defScope (top 55), [], []⟩) (by kernel_rfl)
  exact ⟨He.ga K "_law_same", He.glo_ok X G (c.fact 53 (f := .glo "_law_same") (by kernel_rfl)), ⟨⟨fd, p__law_same, by kernel_rfl, F__law_same.kp, (F__law_same.bindsN fun _ _ _ _ _ _ us hl => match us, hl with | [_, _], _ => rfl), .inl ⟨b__law_same, n__law_same, _, _, _, _, _, _, _, by kernel_rfl, F__law_same, s__law_same, c__law_same⟩⟩⟩⟩
theorem d__law_frac : ∃ f, mg ("_law_frac" : Str) = some (.ref f) ∧ DefIn Ct P w K mg base Ps 36 f := by
  obtain ⟨fd, F__law_frac⟩ := c.def_ 37 (d := ⟨("_law_frac", none), "_law_frac", "_law_frac", defArgs (top 56), defBody (top 56), defScope (top 56), [], []⟩) (by kernel_rfl)
  exact ⟨He.ga K "_law_frac", He.glo_ok X G (c.fact 54 (f := .glo "_law_frac") (by kernel_rfl)), ⟨⟨fd, p__law_frac, by kernel_rfl, F__law_frac.kp, (F__law_frac.bindsN fun _ _ _ _ _ _ us hl => match us, hl with | [_, _], _ => rfl), .inl ⟨b__law_frac, n__law_frac, _, _, _, _, _, _, _, by kernel_rfl, F__law_frac, s__law_frac, c__law_frac⟩⟩⟩⟩
theorem d__law_plus : ∃ f, mg ("_law_plus" : Str) = some (.ref f) ∧ DefIn Ct P w K mg base Ps 37 f := by
  obtain ⟨fd, F__law_plus⟩ := c.def_ 38 (d := ⟨("_law_plus", none), "_law_plus", "_law_plus", defArgs (top 57), defBody (top 57), defScope (top 57), [], []⟩) (by kernel_rfl)
  exact ⟨He.ga K "_law_plus", He.glo_ok X G (c.fact 55 (f := .glo "_law_plus") (by kernel_rfl)), ⟨⟨fd, p__law_plus, by kernel_rfl, F__law_plus.kp, (F__law_plus.bindsN fun _ _ _ _ _ _ us hl => match us, hl with | [_, _], _ => rfl), .inl ⟨b__law_plus, n__law_plus, _, _, _, _, _, _, _, by kernel_rfl, F__law_plus, s__law_plus, c__law_plus⟩⟩⟩⟩
theorem d__law_by : ∃ f, mg ("_law_by" : Str) = some (.ref f) ∧ DefIn Ct P w K mg base Ps 38 f := by
  obtain ⟨fd, F__law_by⟩ := c.def_ 39 (d := ⟨("_law_by", none), "_law_by", "_law_by", defArgs (top 58), defBody (top 58), defScope (top 58), [], []⟩) (by kernel_rfl)
  exact ⟨He.ga K "_law_by", He.glo_ok X G (c.fact 56 (f := .glo "_law_by") (by kernel_rfl)), ⟨⟨fd, p__law_by, by kernel_rfl, F__law_by.kp, (F__law_by.bindsN fun _ _ _ _ _ _ us hl => match us, hl with | [_, _], _ => rfl), .inl ⟨b__law_by, n__law_by, _, _, _, _, _, _, _, by kernel_rfl, F__law_by, s__law_by, c__law_by⟩⟩⟩⟩
theorem d__law_over : ∃ f, mg ("_law_over" : Str) = some (.ref f) ∧ DefIn Ct P w K mg base Ps 39 f := by
  obtain ⟨fd, F__law_over⟩ := c.def_ 40 (d := ⟨("_law_over", none), "_law_over", "_law_over", defArgs (top 59), defBody (top 59), defScope (top 59), [], []⟩) (by kernel_rfl)
  exact ⟨He.ga K "_law_over", He.glo_ok X G (c.fact 57 (f := .glo "_law_over") (by kernel_rfl)), ⟨⟨fd, p__law_over, by kernel_rfl, F__law_over.kp, (F__law_over.bindsN fun _ _ _ _ _ _ us hl => match us, hl with | [_, _], _ => rfl), .inl ⟨b__law_over, n__law_over, _, _, _, _, _, _, _, by kernel_rfl, F__law_over, s__law_over, c__law_over⟩⟩⟩⟩
theorem d__law_times : ∃ f, mg ("_law_times" : Str) = some (.ref f) ∧ DefIn Ct P w K mg base Ps 40 f := by
  obtain ⟨fd, F__law_times⟩ := c.def_ 41 (d := ⟨("_law_times", none), "_law_times", "_law_times", defArgs (top 60), defBody (top 60), defScope (top 60), [], []⟩) (by kernel_rfl)
  exact ⟨He.ga K "_law_times", He.glo_ok X G (c.fact 58 (f := .glo "_law_times") (by kernel_rfl)), ⟨⟨fd, p__law_times, by kernel_rfl, F__law_times.kp, (F__law_times.bindsN fun _ _ _ _ _ _ us hl => match us, hl with | [_, _], _ => rfl), .inl ⟨b__law_times, n__law_times, _, _, _, _, _, _, _, by kernel_rfl, F__law_times, s__law_times, c__law_times⟩⟩⟩⟩
theorem d__law_run : ∃ f, mg ("_law_run" : Str) = some (.ref f) ∧ DefIn Ct P w K mg base Ps 41 f := by
  obtain ⟨fd, F__law_run⟩ := c.def_ 42 (d := ⟨("_law_run", none), "_law_run", "_law_run", defArgs (top 61), defBody (top 61), defScope (top 61), [], []⟩) (by kernel_rfl)
  exact ⟨He.ga K "_law_run", He.glo_ok X G (c.fact 59 (f := .glo "_law_run") (by kernel_rfl)), ⟨⟨fd, p__law_run, by kernel_rfl, F__law_run.kp, (F__law_run.bindsN fun _ _ _ _ _ _ us hl => match us, hl with | [_], _ => rfl), .inl ⟨b__law_run, n__law_run, _, _, _, _, _, _, _, by kernel_rfl, F__law_run, s__law_run, c__law_run⟩⟩⟩⟩
theorem d__law_goldberg : ∃ f, mg ("_law_goldberg" : Str) = some (.ref f) ∧ DefIn Ct P w K mg base Ps 42 f := by
  obtain ⟨fd, F__law_goldberg⟩ := c.def_ 43 (d := ⟨("_law_goldberg", none), "_law_goldberg", "_law_goldberg", defArgs (top 62), defBody (top 62), defScope (top 62), [], []⟩) (by kernel_rfl)
  exact ⟨He.ga K "_law_goldberg", He.glo_ok X G (c.fact 60 (f := .glo "_law_goldberg") (by kernel_rfl)), ⟨⟨fd, p__law_goldberg, by kernel_rfl, F__law_goldberg.kp, (F__law_goldberg.bindsN fun _ _ _ _ _ _ us hl => match us, hl with | [_, _], _ => rfl), .inl ⟨b__law_goldberg, n__law_goldberg, _, _, _, _, _, _, _, by kernel_rfl, F__law_goldberg, s__law_goldberg, c__law_goldberg⟩⟩⟩⟩
theorem d__law_word : ∃ f, mg ("_law_word" : Str) = some (.ref f) ∧ DefIn Ct P w K mg base Ps 43 f := by
  obtain ⟨fd, F__law_word⟩ := c.def_ 44 (d := ⟨("_law_word", none), "_law_word", "_law_word", defArgs (top 63), defBody (top 63), defScope (top 63), [], []⟩) (by kernel_rfl)
  exact ⟨He.ga K "_law_word", He.glo_ok X G (c.fact 61 (f := .glo "_law_word") (by kernel_rfl)), ⟨⟨fd, p__law_word, by kernel_rfl, F__law_word.kp, (F__law_word.bindsN fun _ _ _ _ _ _ us hl => match us, hl with | [_, _], _ => rfl), .inl ⟨b__law_word, n__law_word, _, _, _, _, _, _, _, by kernel_rfl, F__law_word, s__law_word, c__law_word⟩⟩⟩⟩
theorem d__law_refused : ∃ f, mg ("_law_refused" : Str) = some (.ref f) ∧ DefIn Ct P w K mg base Ps 44 f := by
  obtain ⟨fd, F__law_refused⟩ := c.def_ 45 (d := ⟨("_law_refused", none), "_law_refused", "_law_refused", defArgs (top 64), defBody (top 64), defScope (top 64), [], []⟩) (by kernel_rfl)
  exact ⟨He.ga K "_law_refused", He.glo_ok X G (c.fact 62 (f := .glo "_law_refused") (by kernel_rfl)), ⟨⟨fd, p__law_refused, by kernel_rfl, F__law_refused.kp, (F__law_refused.bindsN fun _ _ _ _ _ _ us hl => match us, hl with | [_], _ => rfl), .inl ⟨b__law_refused, n__law_refused, _, _, _, _, _, _, _, by kernel_rfl, F__law_refused, s__law_refused, c__law_refused⟩⟩⟩⟩
include more
theorem mdl : Mdl Ct P w K mg base Ps := by
  have hd : Vf.AllP (fun p : Str × Nat => ∃ f, mg p.1 = some (.ref f) ∧ DefIn Ct P w K mg base Ps p.2 f) Ct.names := ⟨d_is_integer X G c base, d_is_ratio X G c base, d_divisor X G c base, d_make X G c base, d_add X G c base, d_add_ratios X G c base, d_multiply X G c base, d_divide X G c base, d_is_word X G c base, d_check_word X G c base, d_is_sum X G c base, d_check_sum X G c base, d_key X G c base, d_gathered X G c base, d_of_word X G c base, d_letter X G c base, d_one X G c base, d_add_sums X G c base, d_scaled X G c base, d_minus X G c base, d_cut_product X G c base, d_number_at X G c base, d_cut X G c base, d_check_depth X G c base, d_exponential X G c base, d_logarithm X G c base, d_together X G c base, d_two_letters X G c base, d_blocks X G c base, d_by_blocks X G c base, d_run_poly X G c base, d_times_poly X G c base, d_slope_poly X G c base, d_area X G c base, d__law_draw X G c base, d__law_same X G c base, d__law_frac X G c base, d__law_plus X G c base, d__law_by X G c base, d__law_over X G c base, d__law_times X G c base, d__law_run X G c base, d__law_goldberg X G c base, d__law_word X G c base, d__law_refused X G c base, trivial⟩
  have hc : Vf.AllP (fun p : Str × D => ∃ v u, mg p.1 = some u ∧ RelV v u ∧ ∀ P τ H, Rep K P τ H v p.2) Ct.cons := ⟨con_tup (ns := [0, 1]) (He.glo_ok X G (c.fact 10 (f := .glo "ZERO") (by kernel_rfl))) (exb_ZERO more), con_tup (ns := [1, 1]) (He.glo_ok X G (c.fact 11 (f := .glo "ONE") (by kernel_rfl))) (exb_ONE more), con_int X G (c.fact 20 (f := .int "MOST_LETTERS" 9) (by kernel_rfl)), con_int X G (c.fact 21 (f := .int "MOST_WORD" 60) (by kernel_rfl)), con_int X G (c.fact 24 (f := .int "MOST_TERMS" 6000) (by kernel_rfl)), con_int X G (c.fact 25 (f := .int "MOST_DEPTH" 10) (by kernel_rfl)), con_int X G (c.fact 39 (f := .int "MOST_BLOCKS" 12) (by kernel_rfl)), trivial⟩
  have hf : Vf.AllP (fun x : Str => mg x = none) Ct.free := ⟨He.free_ok X G (c.fact 89 (f := .free "ValueError") (by kernel_rfl)), He.free_ok X G (c.fact 90 (f := .free "abs") (by kernel_rfl)), He.free_ok X G (c.fact 91 (f := .free "all") (by kernel_rfl)), He.free_ok X G (c.fact 92 (f := .free "any") (by kernel_rfl)), He.free_ok X G (c.fact 93 (f := .free "bool") (by kernel_rfl)), He.free_ok X G (c.fact 94 (f := .free "enumerate") (by kernel_rfl)), He.free_ok X G (c.fact 95 (f := .free "int") (by kernel_rfl)), He.free_ok X G (c.fact 96 (f := .free "isinstance") (by kernel_rfl)), He.free_ok X G (c.fact 97 (f := .free "len") (by kernel_rfl)), He.free_ok X G (c.fact 98 (f := .free "list") (by kernel_rfl)), He.free_ok X G (c.fact 99 (f := .free "min") (by kernel_rfl)), He.free_ok X G (c.fact 100 (f := .free "range") (by kernel_rfl)), He.free_ok X G (c.fact 101 (f := .free "sorted") (by kernel_rfl)), He.free_ok X G (c.fact 102 (f := .free "str") (by kernel_rfl)), He.free_ok X G (c.fact 103 (f := .free "tuple") (by kernel_rfl)), He.free_ok X G (c.fact 104 (f := .free "zip") (by kernel_rfl)), trivial⟩
  have hl : Vf.AllP (fun x : Str => LenFn K mg x) Ct.lenk := ⟨by
    obtain ⟨fd, F_key⟩ := c.def_ 12 (d := ⟨("key", none), "key", "key", defArgs (top 27), defBody (top 27), defScope (top 27), [], []⟩) (by kernel_rfl)
    exact ⟨He.ga K "key", fd, _, _, _, _, _, _, He.glo_ok X G (c.fact 28 (f := .glo "key") (by kernel_rfl)), He.free_ok X G (c.fact 97 (f := .free "len") (by kernel_rfl)), F_key, (F_key.bindsN (ps := ["word"]) fun _ _ _ _ _ _ us hl => match us, hl with | [_], _ => rfl), lenKeyB_ok s_key l_key⟩, trivial⟩
  refine ⟨fun x i hx => hd.mem _ (lookup_memS hx), fun x d hx => hc.mem _ (lookup_memS hx), hf.mem, hl.mem, fun i x hx => ?_, fun i j x y hx hy => ?_⟩
  · match i, hx with
    | 0, hx =>
      cases (Option.some.inj hx)
      exact exc_of (c.fact 1 (f := .exc "BracketError") (by kernel_rfl)) (He.glo_ok X G (c.fact 0 (f := .glo "BracketError") (by kernel_rfl)))
    | 1, hx =>
      cases (Option.some.inj hx)
      exact exc_of (c.fact 3 (f := .exc "BadNumber") (by kernel_rfl)) (He.glo_ok X G (c.fact 2 (f := .glo "BadNumber") (by kernel_rfl)))
    | 2, hx =>
      cases (Option.some.inj hx)
      exact exc_of (c.fact 5 (f := .exc "BadWord") (by kernel_rfl)) (He.glo_ok X G (c.fact 4 (f := .glo "BadWord") (by kernel_rfl)))
    | 3, hx =>
      cases (Option.some.inj hx)
      exact exc_of (c.fact 7 (f := .exc "BadSum") (by kernel_rfl)) (He.glo_ok X G (c.fact 6 (f := .glo "BadSum") (by kernel_rfl)))
    | 4, hx =>
      cases (Option.some.inj hx)
      exact exc_of (c.fact 9 (f := .exc "BadSize") (by kernel_rfl)) (He.glo_ok X G (c.fact 8 (f := .glo "BadSize") (by kernel_rfl)))
    | (n + 5), hx => cases hx
  · match i, hx, j, hy with
    | 0, hx, 0, hy => exact He.exm_ok (c.fact 64 (f := .exm "BracketError" "BracketError" true) (by kernel_rfl))
    | 0, hx, 1, hy => exact He.exm_ok (c.fact 65 (f := .exm "BracketError" "BadNumber" false) (by kernel_rfl))
    | 0, hx, 2, hy => exact He.exm_ok (c.fact 66 (f := .exm "BracketError" "BadWord" false) (by kernel_rfl))
    | 0, hx, 3, hy => exact He.exm_ok (c.fact 67 (f := .exm "BracketError" "BadSum" false) (by kernel_rfl))
    | 0, hx, 4, hy => exact He.exm_ok (c.fact 68 (f := .exm "BracketError" "BadSize" false) (by kernel_rfl))
    | 0, hx, (m + 5), hy => cases hy
    | 1, hx, 0, hy => exact He.exm_ok (c.fact 69 (f := .exm "BadNumber" "BracketError" true) (by kernel_rfl))
    | 1, hx, 1, hy => exact He.exm_ok (c.fact 70 (f := .exm "BadNumber" "BadNumber" true) (by kernel_rfl))
    | 1, hx, 2, hy => exact He.exm_ok (c.fact 71 (f := .exm "BadNumber" "BadWord" false) (by kernel_rfl))
    | 1, hx, 3, hy => exact He.exm_ok (c.fact 72 (f := .exm "BadNumber" "BadSum" false) (by kernel_rfl))
    | 1, hx, 4, hy => exact He.exm_ok (c.fact 73 (f := .exm "BadNumber" "BadSize" false) (by kernel_rfl))
    | 1, hx, (m + 5), hy => cases hy
    | 2, hx, 0, hy => exact He.exm_ok (c.fact 74 (f := .exm "BadWord" "BracketError" true) (by kernel_rfl))
    | 2, hx, 1, hy => exact He.exm_ok (c.fact 75 (f := .exm "BadWord" "BadNumber" false) (by kernel_rfl))
    | 2, hx, 2, hy => exact He.exm_ok (c.fact 76 (f := .exm "BadWord" "BadWord" true) (by kernel_rfl))
    | 2, hx, 3, hy => exact He.exm_ok (c.fact 77 (f := .exm "BadWord" "BadSum" false) (by kernel_rfl))
    | 2, hx, 4, hy => exact He.exm_ok (c.fact 78 (f := .exm "BadWord" "BadSize" false) (by kernel_rfl))
    | 2, hx, (m + 5), hy => cases hy
    | 3, hx, 0, hy => exact He.exm_ok (c.fact 79 (f := .exm "BadSum" "BracketError" true) (by kernel_rfl))
    | 3, hx, 1, hy => exact He.exm_ok (c.fact 80 (f := .exm "BadSum" "BadNumber" false) (by kernel_rfl))
    | 3, hx, 2, hy => exact He.exm_ok (c.fact 81 (f := .exm "BadSum" "BadWord" false) (by kernel_rfl))
    | 3, hx, 3, hy => exact He.exm_ok (c.fact 82 (f := .exm "BadSum" "BadSum" true) (by kernel_rfl))
    | 3, hx, 4, hy => exact He.exm_ok (c.fact 83 (f := .exm "BadSum" "BadSize" false) (by kernel_rfl))
    | 3, hx, (m + 5), hy => cases hy
    | 4, hx, 0, hy => exact He.exm_ok (c.fact 84 (f := .exm "BadSize" "BracketError" true) (by kernel_rfl))
    | 4, hx, 1, hy => exact He.exm_ok (c.fact 85 (f := .exm "BadSize" "BadNumber" false) (by kernel_rfl))
    | 4, hx, 2, hy => exact He.exm_ok (c.fact 86 (f := .exm "BadSize" "BadWord" false) (by kernel_rfl))
    | 4, hx, 3, hy => exact He.exm_ok (c.fact 87 (f := .exm "BadSize" "BadSum" false) (by kernel_rfl))
    | 4, hx, 4, hy => exact He.exm_ok (c.fact 88 (f := .exm "BadSize" "BadSize" true) (by kernel_rfl))
    | 4, hx, (m + 5), hy => cases hy
    | (n + 5), hx, _, _ => cases hx
end
end HL
namespace HL
open PySem PySem.Spec PyProof.Rows L2 Vf
theorem whole {P : Program} {w : World} {K : PySem.W.Frag} {h : Heap} {mg : Str → Option Value} {f : Addr} (X : K.In h) (G : h.Ns mainGlobals mg) (hfa : mg ("law" : Str) = some (.ref f)) (c : He.SaysD fa fn K) (more : exB K = true) :
    ∃ fd : FuncData, (∀ (s : Shared) (v : Value), BindsTo s fd ⟨[v], []⟩ [("script", v)]) ∧ ∀ base : Heap, FnOk P w K mg base (L2.CX P w) 31 f fd ["script"] (spLaw K 63) := by
  obtain ⟨fd, F_law⟩ := c.def_ 46 (d := ⟨("law", none), "law", "law", defArgs (top 65), defBody (top 65), defScope (top 65), [], []⟩) (by kernel_rfl)
  obtain ⟨fdt, F__law_tape⟩ := c.def_ 34 (d := ⟨("_law_tape", none), "_law_tape", "_law_tape", defArgs (top 53), defBody (top 53), defScope (top 53), [], []⟩) (by kernel_rfl)
  have e := hfa.symm.trans (He.glo_ok X G (c.fact 63 (f := .glo "law") (by kernel_rfl)))
  cases e
  have b := FunD.bindsA (ps := ["script"]) F_law fun _ _ _ _ _ _ us hl => match us, hl with | [_], _ => rfl
  refine ⟨fd, fun s v => b s [v] rfl, fun base => ?_⟩
  exact law_ok (all_ok (mdl X G c more base) 30) F_law s_law c_law (He.glo_ok X G (c.fact 51 (f := .glo "_law_tape") (by kernel_rfl))) F__law_tape.kp (F__law_tape.bindsN (ps := ["script"]) fun _ _ _ _ _ _ us hl => match us, hl with | [_], _ => rfl)
    (tape_ok F__law_tape s__law_tape t__law_tape c__law_tape (He.free_ok X G (c.fact 90 (f := .free "abs") (by kernel_rfl))) (He.free_ok X G (c.fact 95 (f := .free "int") (by kernel_rfl)))) (by decide) math
end HL
open PySem PySem.W PySem.Calls PyProof.Rows in
theorem PySem.Challenge.cw_bracketwords_k86_whole_runs_of_letters_holds : PySem.Challenge.rw_bracketwords_k86_whole_runs_of_letters.Holds := by
  w_on; o_law
  refine HandSHeadRun.head_any (r := OpenLaw.row PySem.Challenge.rw_bracketwords_k86_whole_runs_of_letters) (q := view (OpenLaw.row PySem.Challenge.rw_bracketwords_k86_whole_runs_of_letters).prog [65]) (H := HL.hk) (ob := HL.ob) (M := 4000) (loose := HL.loose) (d := HandSHeadRun.topDef (OpenLaw.row PySem.Challenge.rw_bracketwords_k86_whole_runs_of_letters).prog 65) (kwd := []) HL.ob_eq
    (by kernel_rfl) (fun s => by kernel_rfl) HL.run (by kernel_rfl) (by kernel_rfl) (by kernel_rfl) (by rfl) (by first | assumption | decide +kernel) (by decide +kernel) ⟨rfl, rfl, rfl, rfl, rfl, by decide +kernel⟩ ?hw ?hc
  case hw => w_witness2
  case hc =>
    refine Vf.walk_ofX (l := PySem.Challenge.rw_bracketwords_k86_whole_runs_of_letters) (n := 63) (k := 31) (x := "script") rfl (by decide) (by kernel_rfl) ⟨rfl, by decide, by decide⟩ ?F
    intro w mg fa h Y G hmg0
    obtain ⟨K, KX, c⟩ := Y
    have hmg : mg ("law" : PySem.Str) = some (.ref fa) := by
      have e : (HandSHeadRun.topDef (OpenLaw.row PySem.Challenge.rw_bracketwords_k86_whole_runs_of_letters).prog 65).name = ("law" : PySem.Str) := by kernel_rfl
      rw [← e]
      exact hmg0
    obtain ⟨fd, hb, hF⟩ := HL.whole (P := (PySem.Challenge.rw_bracketwords_k86_whole_runs_of_letters).prog) (w := w) KX G hmg c.t.d c.more
    exact ⟨K, fd, Vf.spLaw K 63, KX, hb, fun H a ns hl _ hS => ⟨rfl, a, ns, hl, rfl, hS, fun _ => rfl⟩, fun base _ _ => hF base⟩
