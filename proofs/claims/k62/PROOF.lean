import PyProof.Rows.All
import Wide.All
import OpenK.AllK
import Wide.FinOn
import HandS.ForExc
import HandS.ForMost
import HandS.Wide
import HandS.Small
import HandS.IsInst
import HandS.TupAny
import HandS.TupMul
import HandS.TupLe
import HandS.TryMany
import HandS.TryOnly
import HandS.Walk
import HandS.Style
import HandS.Deep
import HandS.DictTup
import HandS.TupLen
import HandS.Conv
import KE.KStateDown
import KE.GoesMore
import KE.GoesEnum
import HandS.Zip
import Lean
import HandS.Head0
import HandS.Head1
import HandS.Head2
import HandS.HeadEnd
import HandS.HeadHook1
import HandS.HeadHook2
import HandS.HeadHook3
import HandS.HeadHook4
import HandS.WordsExc
import HandS.Defaults
import KE.SortData
import KE.SortKeyHeap
import HandS.SortKw
import PyProof.ExcBaseAll.ValueError
import PySem.Challenge.RW_bracketwords_k62_whole_paths_that_are_sh
set_option Elab.async false
set_option linter.all false
set_option maxRecDepth 100000
set_option maxHeartbeats 0
set_option exponentiation.threshold 5000
namespace Vf
open PySem PySem.Spec PyProof.Rows L2

inductive D where
  | non | bl (b : Bool) | int (i : Int) | str (x : Str)
  | tup (ds : List D) | lst (ds : List D)
  | ktup (ds : List D)
  | dic (t : Bool) (kvs : List (D × D))
  | tape

abbrev TP := Option (List Int × Int)
structure S where
  ρ : List (Option (Bool × D))
  T : TP
inductive Res (α : Type) where
  | ok (a : α) (s : S) | exc (c : Nat) (s : S) | stuck
abbrev M (α : Type) := S → Res α
@[reducible] def ret {α : Type} (a : α) : M α := fun s => .ok a s
def bnd {α β : Type} (m : M α) (f : α → M β) : M β := fun s => match m s with
  | .ok a s' => f a s'
  | .exc c s' => .exc c s'
  | .stuck => .stuck
def stk {α : Type} : M α := fun _ => .stuck
def opt {α : Type} : Option α → M α
  | some a => fun s => .ok a s
  | none => fun _ => .stuck

inductive Pr where
  | bin (op : Operator) | cmp (op : CmpOp) | neg | idx | sl (lo hi : Bool) | rev
  | isN (b : Bool) | isB (b c : Bool) | isT (T : String) | blt (id : String) | mth (id : String)
  deriving DecidableEq

mutual
inductive Ex where
  | var (i : Nat) | cst (d : D) | glo (x : Str) (d : D)
  | prim (p : Pr) (es : Exs)
  | chkI (a : Ex) | not (a : Ex) | and (a b : Ex) | or (a b : Ex) | ite (c a b : Ex)
  | tup (es : Exs) | lst (es : Exs) | dic (t : Bool)
  | call (f : Nat) (es : Exs)
  | pop (i : Nat) (es : Exs)
  | comp (own : List Nat) (tg : List Nat) (it : It) (c : Exs) (e : Ex)
  | comp2 (own own1 : List Nat) (tg : List Nat) (it : It) (c : Exs) (tg1 : List Nat) (it1 : It) (c1 : Exs) (e : Ex)
  | sortk (a : Ex) (f : Nat)
inductive Exs where
  | nil | cons (e : Ex) (es : Exs)
inductive It where
  | ex (e : Ex) | rng1 (a : Ex) | rng2 (a b : Ex) | zip (a b : Ex) | enm (a : Ex)
end

mutual
inductive Sx where
  | set (i : Nat) (e : Ex)
  | unp (is : List Nat) (e : Ex)
  | par (is : List Nat) (es : Exs)
  | aug (i : Nat) (op : Operator) (e : Ex)
  | put (i : Nat) (k e : Ex)
  | augk (i : Nat) (k : Ex) (op : Operator) (e : Ex)
  | app (i : Nat) (e : Ex)
  | ext (i : Nat) (e : Ex)
  | ite (c : Ex) (a b : Sxs)
  | for_ (tg : List Nat) (it : It) (b : Sxs)
  | while_ (c : Ex) (b : Sxs)
  | ret (e : Ex)
  | raise (c : Nat)
  | expr (e : Ex)
  | pass
  | try_ (e : Ex) (r : Bool) (hs : List (Nat × Option D))
inductive Sxs where
  | nil | cons (s : Sx) (ss : Sxs)
end

mutual
def pd : D → PyData
  | .non => .none | .bl b => .bool b | .int i => .int i | .str x => .str x
  | .tup ds => .tuple (pds ds) | .lst ds => .list (pds ds) | .ktup ds => .tuple (pds ds)
  | .dic _ _ => .none | .tape => .none
def pds : List D → List PyData
  | [] => []
  | d :: ds => pd d :: pds ds
end
mutual
def okD : Nat → D → Bool
  | _, .dic _ _ => false
  | _, .tape => false
  | _, .non => true
  | _, .bl _ => true
  | _, .int _ => true
  | _, .str x => PyData.strOk x
  | n, .tup ds => match n with
    | 0 => false
    | n + 1 => okDs n ds
  | n, .ktup ds => match n with
    | 0 => false
    | n + 1 => okDs n ds
  | n, .lst ds => match n with
    | 0 => false
    | n + 1 => okDs n ds
def okDs : Nat → List D → Bool
  | _, [] => true
  | n, d :: ds => okD n d && okDs n ds
end
def small (i : Int) : Bool := decide (i.natAbs.log2 < 9000)
def intsD : List D → Option (List Int)
  | [] => some []
  | .int i :: r => (intsD r).map (i :: ·)
  | _ => none
def blsD : List D → Option (List Bool)
  | [] => some []
  | .bl i :: r => (blsD r).map (i :: ·)
  | _ => none
def keyD : D → Option Key
  | .int i => some (.inl i)
  | .str x => some (.inr x)
  | _ => none
def keysD : List D → Option (List Key)
  | [] => some []
  | d :: r => match keyD d, keysD r with
    | some k, some ks => some (k :: ks)
    | _, _ => none
def dkey (t : Bool) (d : D) : Option (Key ⊕ List Key) := match t, d with
  | false, d => (keyD d).map .inl
  | true, .tup ds => (keysD ds).map .inr
  | true, _ => none
def dget (t : Bool) (k : Key ⊕ List Key) : List (D × D) → Option D
  | [] => none
  | (d, e) :: r => if dkey t d = some k then some e else dget t k r
def drep (t : Bool) (k : Key ⊕ List Key) (e : D) (r : List (D × D)) : List (D × D) := r.map fun p => if dkey t p.1 = some k then (p.1, e) else p
def dput (t : Bool) (k : Key ⊕ List Key) (dk e : D) : List (D × D) → List (D × D)
  | [] => [(dk, e)]
  | (d, x) :: r => if dkey t d = some k then (d, e) :: drep t k e r else (d, x) :: dput t k dk e r
def line : Nat := sizeLine
def fits (n : Nat) : Bool := decide (n ≤ sizeLine)
def eqD (a b : D) : Option Bool := match a, b with
  | .int i, .int j => some (decide (i = j))
  | .bl i, .bl j => some (decide (i = j))
  | .str i, .str j => some (decide (i = j))
  | a, b => if okD 60 a && okD 60 b then some (PyData.eqv (pd a) (pd b)) else none
def ltI (a b : List Int) : Bool := HT.lexLt a b
def ltD : D → D → Option Bool
  | .int i, .int j => some (decide (i < j))
  | .tup a, .tup b => match intsD a, intsD b with
    | some x, some y => some (ltI x y)
    | _, _ => if okD 60 (.tup a) && okD 60 (.tup b) && PySem.W.alike (pd (.tup a)) (pd (.tup b)) then some (PySem.W.dataLt (pd (.tup a)) (pd (.tup b))) else none
  | _, _ => none
def leD : D → D → Option Bool
  | .int i, .int j => some (decide (i ≤ j))
  | _, _ => none
def flatD : D → Bool
  | .int _ => true | .str _ => true | .bl _ => true | .non => true | _ => false
def inD : D → D → Option Bool
  | k, .dic t kvs => (dkey t k).map fun k => (dget t k kvs).isSome
  | k, .lst ds => if okD 60 k && okDs 59 ds then some (ds.any fun z => PyData.eqv (pd z) (pd k)) else none
  | .int k, .tup ds => (intsD ds).map fun ns => decide (k ∈ ns)
  | _, _ => none
def cmpD (op : CmpOp) (a b : D) : Option Bool := match op with
  | .Eq => eqD a b
  | .NotEq => (eqD a b).map (!·)
  | .Lt => ltD a b
  | .LtE => leD a b
  | .Gt => match a, b with
    | .int i, .int j => some (decide (j < i))
    | _, _ => none
  | .GtE => match a, b with
    | .int i, .int j => some (decide (j ≤ i))
    | _, _ => none
  | .In => inD a b
  | .NotIn => (inD a b).map (!·)
  | _ => none
def at? (i : Int) (xs : List D) : Option D := atI xs i
def rep (xs : List D) : Nat → List D
  | 0 => []
  | n + 1 => xs ++ rep xs n
def addD : D → D → Option (D × Bool)
  | .int i, .int j => some (.int (i + j), false)
  | .tup a, .tup b => if fits (a.length + b.length) then some (.tup (a ++ b), false) else none
  | .lst a, .lst b => if fits (a.length + b.length) then some (.lst (a ++ b), true) else none
  | _, _ => none
def subD : D → D → Option (D × Bool)
  | .int i, .int j => some (.int (i - j), false)
  | _, _ => none
def mulD : D → D → Option (D × Bool)
  | .int i, .int j => if decide (i.natAbs.log2 + j.natAbs.log2 < 1000000) then some (.int (i * j), false) else none
  | .lst a, .int j => if decide (j < 2 ^ 30) && decide (-(2 ^ 30) < j) && fits (a.length * j.toNat) then some (.lst (rep a j.toNat), true) else none
  | .tup a, .int j => if decide (1 ≤ j) && decide (j ≤ 1000) && decide (a.length ≤ 1000) then some (.tup (rep a j.toNat), false) else none
  | _, _ => none
def divD : D → D → Option (D × Bool)
  | .int i, .int j => if decide (j ≠ 0) && small j then some (.int (i.fdiv j), false) else none
  | _, _ => none
def modD : D → D → Option (D × Bool)
  | .int i, .int j => if decide (j ≠ 0) then some (.int (i.fmod j), false) else none
  | _, _ => none
def binD (op : Operator) (a b : D) : Option (D × Bool) := match op with
  | .Add => addD a b
  | .Sub => subD a b
  | .Mult => mulD a b
  | .FloorDiv => divD a b
  | .Mod => modD a b
  | _ => none
def isT : String → D → Option Bool
  | "int", .int _ => some true | "int", .bl _ => some true | "int", .non => some false | "int", .str _ => some false | "int", .tup _ => some false | "int", .ktup _ => some false | "int", .lst _ => some false
  | "bool", .bl _ => some true | "bool", .int _ => some false | "bool", .non => some false | "bool", .str _ => some false | "bool", .tup _ => some false | "bool", .ktup _ => some false | "bool", .lst _ => some false
  | "tuple", .tup _ => some true | "tuple", .ktup _ => some true | "tuple", .int _ => some false | "tuple", .bl _ => some false | "tuple", .non => some false | "tuple", .str _ => some false | "tuple", .lst _ => some false
  | "str", .str _ => some true | "str", .int _ => some false | "str", .bl _ => some false | "str", .non => some false | "str", .tup _ => some false | "str", .ktup _ => some false | "str", .lst _ => some false
  | _, _ => none
end Vf
namespace Vf
open PySem PySem.Spec PyProof.Rows L2

def alikeB (ds : List PyData) : Bool := ds.all fun d => ds.all fun e => PySem.W.alike d e
def sortB : List PyData → Bool
  | ds => (ds.all fun d => match d with | .tuple (_ :: _) => true | _ => false) || ds.all fun d => match d with | .none => false | .tuple _ => false | _ => true
def sortable (ds : List D) : Bool := okDs 20 ds && fits ds.length && alikeB (pds ds) && sortB (pds ds)
def sortD (ds : List D) : List D := ds.mergeSort (PySem.W.dataLe false pd)
def sortK (ds ks : List D) : List D := ((ds.zip ks).mergeSort (PySem.W.dataLe false fun p => pd p.2)).map (·.1)
def pairsOfD : List D → Option (List (D × D))
  | [] => some []
  | .tup [a, b] :: r => (pairsOfD r).map ((a, b) :: ·)
  | _ => none
def putAllD (t : Bool) : List (D × D) → List (D × D) → Option (List (D × D))
  | acc, [] => some acc
  | acc, (k, v) :: r => match dkey t k with
    | some kk => putAllD t (dput t kk k v acc) r
    | none => none
def maxI : Int → List Int → Int
  | a, [] => a
  | a, b :: r => maxI (if a < b then b else a) r
def minI : Int → List Int → Int
  | a, [] => a
  | a, b :: r => minI (if b < a then b else a) r
def countD (d : D) : List D → Option Int
  | [] => some 0
  | x :: r => match eqD x d, countD d r with
    | some b, some n => some (if b then n + 1 else n)
    | _, _ => none
def arg1 {α : Type} (f : D → Option α) : List D → Option α
  | [a] => f a
  | _ => none
def arg2 {α : Type} (f : D → D → Option α) : List D → Option α
  | [a, b] => f a b
  | _ => none
def lenD : D → Option (D × Bool)
  | .tup a => some (.int a.length, false)
  | .ktup a => some (.int a.length, false)
  | .lst a => some (.int a.length, false)
  | .dic true a => some (.int a.length, false)
  | _ => none
def absD : D → Option (D × Bool)
  | .int i => some (.int (if i < 0 then -i else i), false)
  | _ => none
def intD : D → Option (D × Bool)
  | .int i => some (.int i, false)
  | _ => none
def tupleD : D → Option (D × Bool)
  | .tup a => some (.tup a, false)
  | .ktup a => some (.ktup a, false)
  | .lst a => some (.tup a, false)
  | _ => none
def listD : D → Option (D × Bool)
  | .tup a => some (.lst a, true)
  | .ktup a => some (.lst a, true)
  | .lst a => some (.lst a, true)
  | .dic true a => some (.lst (a.map (·.1)), true)
  | _ => none
def sumD : D → Option (D × Bool)
  | .lst a => (intsD a).map fun x => (.int x.sum, false)
  | _ => none
def maxD : D → Option (D × Bool)
  | .lst a => match intsD a with
    | some (y :: r) => some (.int (maxI y r), false)
    | _ => none
  | _ => none
def minD : D → Option (D × Bool)
  | .lst a => match intsD a with
    | some (y :: r) => some (.int (minI y r), false)
    | _ => none
  | _ => none
def max2D : D → D → Option (D × Bool)
  | .int i, .int j => some (.int (if j > i then j else i), false)
  | _, _ => none
def min2D : D → D → Option (D × Bool)
  | .int i, .int j => some (.int (if j < i then j else i), false)
  | _, _ => none
def allD : D → Option (D × Bool)
  | .lst a => (blsD a).map fun x => (.bl (x.all id), false)
  | _ => none
def anyD : D → Option (D × Bool)
  | .lst a => (blsD a).map fun x => (.bl (x.any id), false)
  | _ => none
def itemsOf : D → Option (List D)
  | .lst a => some a
  | .tup a => some a
  | .dic true a => some (a.map (·.1))
  | _ => none
def sortedD (d : D) : Option (D × Bool) := match itemsOf d with
  | some a => if sortable a then some (.lst (sortD a), true) else none
  | none => none
def dictD : D → Option (D × Bool)
  | .lst a => match pairsOfD a with
    | some ((.tup k, v) :: r) => (putAllD true [] ((.tup k, v) :: r)).map fun q => (.dic true q, true)
    | _ => none
  | _ => none
def orElse2 {α : Type} (f : List D → Option α) (g : List D → Option α) (ds : List D) : Option α := match ds with
  | [_] => f ds
  | _ => g ds
def bltD (id : String) (ds : List D) : Option (D × Bool) :=
  if id = "len" then arg1 lenD ds else if id = "abs" then arg1 absD ds else if id = "int" then arg1 intD ds else if id = "tuple" then arg1 tupleD ds else if id = "list" then arg1 listD ds
  else if id = "sum" then arg1 sumD ds else if id = "max" then orElse2 (arg1 maxD) (arg2 max2D) ds else if id = "min" then orElse2 (arg1 minD) (arg2 min2D) ds
  else if id = "all" then arg1 allD ds else if id = "any" then arg1 anyD ds else if id = "sorted" then arg1 sortedD ds else if id = "dict" then arg1 dictD ds else none
def getD2 (d k : D) : Option (D × Bool) := match d with
  | .dic t kvs => (dkey t k).map fun kk => ((dget t kk kvs).getD .non, false)
  | _ => none
def getD3 (d k x : D) : Option (D × Bool) := match d with
  | .dic t kvs => (dkey t k).map fun kk => ((dget t kk kvs).getD x, false)
  | _ => none
def arg3 {α : Type} (f : D → D → D → Option α) : List D → Option α
  | [a, b, c] => f a b c
  | _ => none
def countD' : D → D → Option (D × Bool)
  | .tup a, .int i => (intsD a).map fun x => (.int (x.count i), false)
  | _, _ => none
def indexD : D → D → Option (D × Bool)
  | .lst a, .int i => (intsD a).bind fun x => if i ∈ x then some (.int (x.idxOf i), false) else none
  | _, _ => none
def mthD (id : String) (ds : List D) : Option (D × Bool) :=
  if id = "get" then match ds with
    | [d, k] => getD2 d k
    | [d, k, x] => getD3 d k x
    | _ => none
  else if id = "count" then arg2 countD' ds else if id = "index" then arg2 indexD ds else none
def cutD (lo hi : Option Int) (xs : List D) : List D := cutV' lo hi xs
where cutV' (lo hi : Option Int) (xs : List D) : List D := (xs.drop (HT.sIx xs.length 0 lo)).take (HT.sIx xs.length xs.length hi - HT.sIx xs.length 0 lo)
def slD (lo hi : Option Int) : D → Option (D × Bool)
  | .tup a => some (.tup (cutD lo hi a), false)
  | .lst a => some (.lst (cutD lo hi a), true)
  | _ => none
def idxD : D → D → Option (D × Bool)
  | .tup a, .int i => (at? i a).map fun d => (d, false)
  | .ktup a, .int i => (at? i a).map fun d => (d, false)
  | .lst a, .int i => (at? i a).map fun d => (d, false)
  | .dic t kvs, k => (dkey t k).bind fun kk => (dget t kk kvs).map fun d => (d, false)
  | _, _ => none
def negD : D → Option (D × Bool)
  | .int i => some (.int (-i), false)
  | _ => none
def revD : D → Option (D × Bool)
  | .tup a => some (.tup a.reverse, false)
  | .lst a => some (.lst a.reverse, true)
  | _ => none
def isND (b : Bool) : D → Option (D × Bool)
  | .non => some (.bl b, false)
  | .tape => none
  | .dic _ _ => none
  | _ => some (.bl (!b), false)
def isBD (b c : Bool) : D → Option (D × Bool)
  | .bl x => some (.bl ((x == b) == c), false)
  | _ => none
def slArgs (lo hi : Bool) (ds : List D) : Option (D × Bool) := match lo, hi, ds with
  | true, false, [x, .int i] => slD (some i) none x
  | false, true, [x, .int j] => slD none (some j) x
  | true, true, [x, .int i, .int j] => slD (some i) (some j) x
  | _, _, _ => none
def primD (p : Pr) (ds : List D) : Option (D × Bool) := match p with
  | .bin op => arg2 (binD op) ds
  | .cmp op => arg2 (fun a b => (cmpD op a b).map fun r => (.bl r, false)) ds
  | .neg => arg1 negD ds
  | .idx => arg2 idxD ds
  | .sl lo hi => slArgs lo hi ds
  | .rev => arg1 revD ds
  | .isN b => arg1 (isND b) ds
  | .isB b c => arg1 (isBD b c) ds
  | .isT T => arg1 (fun d => (isT T d).map fun b => (.bl b, false)) ds
  | .blt id => bltD id ds
  | .mth id => mthD id ds

inductive FRes where
  | ok (d : D) (fr : Bool) (T : TP) | exc (c : Nat) (T : TP) | stuck
abbrev FT := Nat → List D → TP → FRes
inductive Opd where
  | val (d : D) | slot (i : Nat)
def lk (s : S) (i : Nat) : Option (Bool × D) := (s.ρ[i]?).join
def Opd.get (s : S) : Opd → Option D
  | .val d => some d
  | .slot i => (lk s i).map (·.2)
def getAll (s : S) : List Opd → Option (List D)
  | [] => some []
  | o :: r => match o.get s, getAll s r with
    | some d, some ds => some (d :: ds)
    | _, _ => none
def setS (s : S) (i : Nat) (x : Option (Bool × D)) : S := { s with ρ := s.ρ.set i x }
def rdV (i : Nat) : M (D × Bool) := fun s => match lk s i with
  | some (_, d) => .ok (d, false) (setS s i (some (false, d)))
  | none => .stuck
def opV (i : Nat) : M Opd := fun s => match lk s i with
  | some _ => .ok (.slot i) s
  | none => .stuck
def tyOf : D → String
  | .lst _ => "list" | .tup _ => "tuple" | .ktup _ => "tuple" | .dic _ _ => "dict" | .int _ => "int" | .bl _ => "bool" | .str _ => "str" | .non => "NoneType" | .tape => "list"
def mthTy : String → D → Bool
  | "get", .dic _ _ => true | "count", .tup _ => true | "index", .lst _ => true | _, _ => false
def isB : D × Bool → M Bool
  | (.bl b, _) => ret b
  | _ => stk
def intM : D × Bool → M (D × Bool)
  | (.int i, _) => ret (.int i, false)
  | _ => stk
def callM (F : FT) (f : Nat) (ds : List D) : M (D × Bool) := fun s => match F f ds s.T with
  | .ok d fr T => .ok (d, fr) { s with T := T }
  | .exc c T => .exc c { s with T := T }
  | .stuck => .stuck
def tupM (ds : List D) : M (D × Bool) := if fits ds.length then ret (.tup ds, false) else stk
def lstM (ds : List D) : M (D × Bool) := if fits ds.length then ret (.lst ds, true) else stk
def setP : List Nat → List D → S → S
  | i :: is, d :: ds, s => setP is ds (setS s i (some (false, d)))
  | _, _, s => s
def setAll : List Nat → List (D × Bool) → S → S
  | i :: is, d :: ds, s => setS (setAll is ds s) i (some (d.2, d.1))
  | _, _, s => s
def tupOf : D → Option (List D)
  | .tup ds => some ds
  | .ktup ds => some ds
  | _ => none
def plainD (ds : List D) : List (D × Bool) := ds.map fun d => (d, false)
def bindTup (is : List Nat) (d : D) : M Unit := fun s => match tupOf d with
  | some ds => if is.length = ds.length then .ok () (setP is ds s) else .stuck
  | none => .stuck
def bindT (tg : List Nat) (d : D) : M Unit := match tg with
  | [i] => fun s => .ok () (setS s i (some (false, d)))
  | is => bindTup is d
def wipeS (own : List Nat) (s : S) : S := { s with ρ := own.foldl (fun ρ i => ρ.set i none) s.ρ }
def noOwned (own : List Nat) (s : S) : Bool := own.all fun i => match lk s i with
  | some (true, _) => false
  | _ => true
def backS (own : List Nat) (s0 s : S) : S := { s with ρ := own.foldl (fun ρ i => ρ.set i ((s0.ρ[i]?).join)) s.ρ }
def nox {α : Type} (m : M α) : M α := fun s => match m s with
  | .ok a s' => .ok a s'
  | _ => .stuck
def wordsD : List D → Option (List (List Int))
  | [] => some []
  | .tup xs :: r => match intsD xs, wordsD r with
    | some w, some ws => some (w :: ws)
    | _, _ => none
  | _ => none
def wordD (w : List Int) : D := .tup (w.map .int)
def wkey (w : List Int) : PyData := .tuple [.int w.length, .tuple (w.map .int)]
def sortW (ws : List (List Int)) : List (List Int) := ws.mergeSort (PySem.W.dataLe false wkey)
def itemsL : D → Option (List D)
  | .lst a => some a
  | .dic true a => some (a.map (·.1))
  | _ => none
def sortkD (d : D) : Option (D × Bool) := (itemsL d).bind fun ds => (wordsD ds).bind fun ws => if fits ws.length then some (.lst ((sortW ws).map wordD), true) else none
def ownM (i : Nat) : M Unit := fun s => match lk s i with
  | some (true, _) => .ok () s
  | _ => .stuck
def ownL (i : Nat) : M Unit := fun s => match lk s i with
  | some (true, .lst _) => .ok () s
  | _ => .stuck
def seqOf : D → Option (List D)
  | .lst ds => some ds
  | .tup ds => some ds
  | .ktup ds => some ds
  | _ => none
def rangeD (i j : Int) : List D := (List.range (j - i).toNat).map fun (k : Nat) => D.int (i + (k : Int))
def pairD (a b : D) : D := .tup [a, b]
def zipD : D → D → Option (List D)
  | .lst xs, .lst ys => some (List.zipWith pairD xs ys)
  | d, e => (tupOf d).bind fun xs => (tupOf e).map fun ys => List.zipWith pairD xs ys
def enumD : Nat → List D → List D
  | _, [] => []
  | n, d :: r => .tup [.int n, d] :: enumD (n + 1) r
def bigOk (i : Int) : Bool := decide (-(2 ^ 62) ≤ i) && decide (i < 2 ^ 62)

def popV (i : Nat) (xs : List D) : M (D × Bool) := fun s => match lk s i with
  | some (true, .lst ds) => match xs with
    | [] => match ds.getLast? with
      | some d => .ok (d, false) (setS s i (some (true, .lst ds.dropLast)))
      | none => .stuck
    | [.int k] => if bigOk k then match seqIndex? k ds.length with
        | some j => match ds[j]? with
          | some d => .ok (d, false) (setS s i (some (true, .lst (ds.eraseIdx j))))
          | none => .stuck
        | none => .stuck
      else .stuck
    | _ => .stuck
  | _ => .stuck
def compL (own tg : List Nat) (c : M Bool) (e : M (D × Bool)) : List D → M (List D)
  | [] => ret []
  | d :: r => fun s => bnd (bindT tg d) (fun _ => bnd c fun b => if b then bnd e fun x s' => bnd (compL own tg c e r) (fun xs => ret (x.1 :: xs)) (wipeS own s') else fun s' => compL own tg c e r (wipeS own s')) s
def compL2 (own tg : List Nat) (c : M Bool) (inner : M (List D)) : List D → M (List D)
  | [] => ret []
  | d :: r => fun s => bnd (bindT tg d) (fun _ => bnd c fun b => if b then bnd inner fun xs s' => bnd (compL2 own tg c inner r) (fun ys => ret (xs ++ ys)) (wipeS own s') else fun s' => compL2 own tg c inner r (wipeS own s')) s
mutual
def evE (F : FT) : Ex → M (D × Bool)
  | .var i => rdV i
  | .cst d => ret (d, false)
  | .glo _ d => ret (d, false)
  | .prim p es => bnd (evO F es) fun os s => match getAll s os with
    | some ds => match primD p ds with
      | some r => .ok r s
      | none => .stuck
    | none => .stuck
  | .chkI a => bnd (evE F a) intM
  | .not a => bnd (bnd (evE F a) isB) fun b => ret (.bl (!b), false)
  | .and a b => bnd (bnd (evE F a) isB) fun x => if x then evE F b else ret (.bl false, false)
  | .or a b => bnd (bnd (evE F a) isB) fun x => if x then ret (.bl true, false) else evE F b
  | .ite c a b => bnd (bnd (evE F c) isB) fun x => if x then evE F a else evE F b
  | .tup es => bnd (evEs F es) fun xs => tupM (xs.map (·.1))
  | .lst es => bnd (evEs F es) fun xs => lstM (xs.map (·.1))
  | .dic t => ret (.dic t [], true)
  | .call f es => bnd (evEs F es) fun xs => callM F f (xs.map (·.1))
  | .pop i es => bnd (ownL i) fun _ => bnd (evEs F es) fun xs => popV i (xs.map (·.1))
  | .comp own tg it c e => nox (bnd (evIt F it) fun ds s => if noOwned own s then
      bnd (compL own tg (match c with | .nil => ret true | .cons c _ => bnd (evE F c) isB) (evE F e) ds) (fun xs s' => if fits xs.length then .ok (.lst xs, true) (backS own s s') else .stuck) (wipeS own s) else .stuck)
  | .comp2 own own1 tg it c tg1 it1 c1 e => nox (bnd (evIt F it) fun ds s => if noOwned own s then
      bnd (compL2 own tg (match c with | .nil => ret true | .cons c _ => bnd (evE F c) isB) (bnd (evIt F it1) fun ds1 s => compL own1 tg1 (match c1 with | .nil => ret true | .cons c _ => bnd (evE F c) isB) (evE F e) ds1 (wipeS own1 s)) ds) (fun xs s' => if fits xs.length then .ok (.lst xs, true) (backS own s s') else .stuck) (wipeS own s) else .stuck)
  | .sortk a _ => bnd (evE F a) fun d => opt (sortkD d.1)
def evEs (F : FT) : Exs → M (List (D × Bool))
  | .nil => ret []
  | .cons e es => bnd (evE F e) fun d => bnd (evEs F es) fun ds => ret (d :: ds)
def evO (F : FT) : Exs → M (List Opd)
  | .nil => ret []
  | .cons e es => bnd (match e with | .var i => opV i | e => bnd (evE F e) fun d => ret (.val d.1)) fun o => bnd (evO F es) fun os => ret (o :: os)
def evIt (F : FT) : It → M (List D)
  | .ex e => bnd (evE F e) fun d => opt (seqOf d.1)
  | .rng1 a => bnd (evE F a) fun d => match d.1 with
    | .int j => if bigOk j then ret (rangeD 0 j) else stk
    | _ => stk
  | .rng2 a b => bnd (evE F a) fun d => bnd (evE F b) fun e => match d.1, e.1 with
    | .int i, .int j => if bigOk i && bigOk j then ret (rangeD i j) else stk
    | _, _ => stk
  | .zip a b => bnd (evE F a) fun d => bnd (evE F b) fun e => opt (zipD d.1 e.1)
  | .enm a => bnd (evE F a) fun d => match seqOf d.1 with
    | some xs => ret (enumD 0 xs)
    | none => stk
end

def evOp (F : FT) : Ex → M Opd
  | .var i => opV i
  | e => bnd (evE F e) fun d => ret (.val d.1)
theorem evO_cons (F : FT) (e : Ex) (es : Exs) : evO F (.cons e es) = bnd (evOp F e) fun o => bnd (evO F es) fun os => ret (o :: os) := by
  cases e <;> simp only [evO, evOp]
inductive Fl where
  | nx | rt (d : D) (fr : Bool)
def retV (i : Nat) : M Fl := fun s => match lk s i with
  | some (fr, d) => .ok (.rt d fr) (setS s i none)
  | none => .stuck
def storeM (i : Nat) (x : D × Bool) : M Fl := fun s => .ok .nx (setS s i (some (x.2, x.1)))
def forL (tg : List Nat) (b : M Fl) : List D → M Fl
  | [] => ret .nx
  | d :: r => bnd (bindT tg d) fun _ => bnd b fun f => match f with
    | .nx => forL tg b r
    | .rt d fr => ret (.rt d fr)
def whileL (c : M Bool) (b : M Fl) : Nat → M Fl
  | 0 => stk
  | n + 1 => bnd c fun x => if x then bnd b fun f => match f with
    | .nx => whileL c b n
    | .rt d fr => ret (.rt d fr) else ret .nx
def most : Nat := 1000000000
def augD (op : Operator) (a b : D) : Option D := match op, a, b with
  | .Add, .int i, .int j => some (.int (i + j))
  | .Sub, .int i, .int j => some (.int (i - j))
  | _, _, _ => none
def setAt (d : D) (k : D) (x : D) : Option D := match d, k with
  | .lst xs, .int i => (ixN xs.length i).map fun j => .lst (xs.set j x)
  | .dic t kvs, k => (dkey t k).bind fun kk => if kvs.length < 16000000 then some (.dic t (dput t kk k x kvs)) else none
  | _, _ => none
def putV (i : Nat) (k x : D) : M Fl := fun s => match lk s i with
  | some (true, d) => match setAt d k x with
    | some d' => .ok .nx (setS s i (some (true, d')))
    | none => .stuck
  | _ => .stuck
mutual
def evS (F : FT) : Sx → M Fl
  | .set i e => bnd (evE F e) (storeM i)
  | .unp is e => bnd (evE F e) fun x s => match tupOf x.1 with
    | some ds => if is.length = ds.length then .ok .nx (setP is ds s) else .stuck
    | none => .stuck
  | .par is es => bnd (evEs F es) fun ds s => if is.length = ds.length then .ok .nx (setAll is ds s) else .stuck
  | .aug i op e => bnd (rdV i) fun a => bnd (evE F e) fun b s => match augD op a.1 b.1 with
    | some d => .ok .nx (setS s i (some (false, d)))
    | none => .stuck
  | .put i k e => bnd (evE F e) fun x => bnd (ownM i) fun _ => bnd (evE F k) fun kk => putV i kk.1 x.1
  | .augk i k op e => bnd (ownM i) fun _ => bnd (evE F k) fun kk s => match lk s i with
    | some (true, d) => match primD .idx [d, kk.1] with
      | some (old, _) => bnd (evE F e) (fun b s => match augD op old b.1 with
        | some x => putV i kk.1 x s
        | none => .stuck) s
      | none => .stuck
    | _ => .stuck
  | .app i e => bnd (ownL i) fun _ => bnd (evE F e) fun x s => match lk s i with
    | some (true, .lst xs) => if decide (xs.length < sizeLine) then .ok .nx (setS s i (some (true, .lst (xs ++ [x.1])))) else .stuck
    | _ => .stuck
  | .ext i e => bnd (ownL i) fun _ => bnd (evE F e) fun x s => match lk s i, x.1 with
    | some (true, .lst xs), .lst ys => if fits (xs.length + ys.length) then .ok .nx (setS s i (some (true, .lst (xs ++ ys)))) else .stuck
    | _, _ => .stuck
  | .ite c a b => bnd (bnd (evE F c) isB) fun x => if x then evSs F a else evSs F b
  | .for_ tg it b => bnd (evIt F it) fun ds => forL tg (evSs F b) ds
  | .while_ c b => whileL (bnd (evE F c) isB) (evSs F b) most
  | .ret e => match e with
    | .var i => retV i
    | e => bnd (evE F e) fun x => ret (.rt x.1 x.2)
  | .raise c => fun s => .exc c s
  | .expr e => bnd (evE F e) fun _ => ret .nx
  | .pass => ret .nx
  | .try_ e r hs => fun s => match evE F e s with
    | .ok x s' => .ok (if r then .rt x.1 x.2 else .nx) s'
    | .exc c s' => match hs.lookup c with
      | some (some d) => .ok (.rt d false) s'
      | some none => .exc c s'
      | none => .stuck
    | .stuck => .stuck
def evSs (F : FT) : Sxs → M Fl
  | .nil => ret .nx
  | .cons s ss => bnd (evS F s) fun f => match f with
    | .nx => evSs F ss
    | .rt d fr => ret (.rt d fr)
end

structure Fd where
  n : Nat                 -- slots
  ps : Nat                -- parameters
  b : Sxs
def startS (n : Nat) (ds : List D) (T : TP) : S := ⟨(ds.map fun d => some (false, d)) ++ List.replicate (n - ds.length) none, T⟩
def runB (F : FT) (f : Fd) (ds : List D) (T : TP) : FRes := if ds.length = f.ps then match evSs F f.b (startS f.n ds T) with
  | .ok .nx s => .ok .non false s.T
  | .ok (.rt d fr) s => .ok d fr s.T
  | .exc c s => .exc c s.T
  | .stuck => .stuck else .stuck
inductive Fn where
  | body (f : Fd) | prim (p : List D → TP → FRes)
def run (P : List Fn) : Nat → FT
  | 0 => fun _ _ _ => .stuck
  | k + 1 => fun f ds T => match P[f]? with
    | some (.body b) => runB (run P k) b ds T
    | some (.prim p) => p ds T
    | none => .stuck
end Vf
namespace Vf
open PySem PySem.Spec PyProof.Rows L2

abbrev AP := Addr → Prop
abbrev TA2 := Option (Addr × Addr)
def KTu (K : PySem.W.Frag) (a : Addr) (xs : List V) : Prop :=
  ∃ (o : Obj) (its : Array Value) (n : Nat), K.lookup a = some o ∧ o.cls = .type "tuple" ∧ o.data = .seq its n ∧ its.size ≤ sizeLine ∧ Vals xs its.toList
mutual
inductive Rep (K : PySem.W.Frag) (P : AP) (τ : TA2) (H : Hp) : V → D → Prop
  | non : Rep K P τ H .non .non
  | bl (b : Bool) : Rep K P τ H (.bl b) (.bl b)
  | int (i : Int) : Rep K P τ H (.int i) (.int i)
  | str (x : Str) : Rep K P τ H (.str x) (.str x)
  | tup {a : Addr} {xs : List V} {ds : List D} : (¬ P a ∧ H a = some (.tup xs)) → RepAll K P τ H xs ds → Rep K P τ H (.ref a) (.tup ds)
  | ktup {a : Addr} {xs : List V} {ds : List D} : KTu K a xs → RepAll K P τ H xs ds → Rep K P τ H (.ref a) (.ktup ds)
  | lst {a : Addr} {xs : List V} {ds : List D} : (¬ P a ∧ H a = some (.lst xs)) → RepAll K P τ H xs ds → Rep K P τ H (.ref a) (.lst ds)
  | dK {a : Addr} {kvs : List (Key × V)} {ds : List (D × D)} : ¬ P a → H a = some (.dK kvs) → RepK K P τ H kvs ds → Rep K P τ H (.ref a) (.dic false ds)
  | dT {a : Addr} {kvs : List (List Key × V)} {ds : List (D × D)} : ¬ P a → H a = some (.dT kvs) → RepT K P τ H kvs ds → Rep K P τ H (.ref a) (.dic true ds)
  | tape {a c : Addr} : τ = some (a, c) → Rep K P τ H (.ref a) .tape
inductive RepAll (K : PySem.W.Frag) (P : AP) (τ : TA2) (H : Hp) : List V → List D → Prop
  | nil : RepAll K P τ H [] []
  | cons {v : V} {vs : List V} {d : D} {ds : List D} : Rep K P τ H v d → RepAll K P τ H vs ds → RepAll K P τ H (v :: vs) (d :: ds)
inductive RepK (K : PySem.W.Frag) (P : AP) (τ : TA2) (H : Hp) : List (Key × V) → List (D × D) → Prop
  | nil : RepK K P τ H [] []
  | cons {k : Key} {v : V} {kd d : D} {r : List (Key × V)} {s : List (D × D)} : keyD kd = some k → Rep K P τ H v d → RepK K P τ H r s → RepK K P τ H ((k, v) :: r) ((kd, d) :: s)
inductive RepT (K : PySem.W.Frag) (P : AP) (τ : TA2) (H : Hp) : List (List Key × V) → List (D × D) → Prop
  | nil : RepT K P τ H [] []
  | cons {k : List Key} {v : V} {kd : List D} {d : D} {r : List (List Key × V)} {s : List (D × D)} : keysD kd = some k → Rep K P τ H v d → RepT K P τ H r s → RepT K P τ H ((k, v) :: r) ((.tup kd, d) :: s)
end

section
variable {K : PySem.W.Frag} {P P' : AP} {τ : TA2} {H H' : Hp}
structure Mo (P P' : AP) (H H' : Hp) : Prop where
  kp : ∀ b u, H b = some u → ¬ P b → H' b = some u
  ap : ∀ b, P' b → H b ≠ none → P b
theorem Mo.rd (m : Mo P P' H H') {a : Addr} {u : HO} (r : H a = some u) (n : ¬ P a) : ¬ P' a ∧ H' a = some u :=
  ⟨fun q => n (m.ap _ q (by rw [r]; simp)), m.kp _ _ r n⟩
theorem Mo.same {P P' : AP} (h : ∀ b, P' b → P b) : Mo P P' H H := ⟨fun _ _ q _ => q, fun b q _ => h b q⟩
mutual
theorem Rep.mo (m : Mo P P' H H') : ∀ {v : V} {d : D}, Rep K P τ H v d → Rep K P' τ H' v d
  | _, _, .non => .non
  | _, _, .bl b => .bl b
  | _, _, .int i => .int i
  | _, _, .str x => .str x
  | _, _, .tup s r => .tup (m.rd s.2 s.1) (r.mo m)
  | _, _, .ktup s r => .ktup s (r.mo m)
  | _, _, .lst s r => .lst (m.rd s.2 s.1) (r.mo m)
  | _, _, .dK n s r => .dK (m.rd s n).1 (m.rd s n).2 (r.mo m)
  | _, _, .dT n s r => .dT (m.rd s n).1 (m.rd s n).2 (r.mo m)
  | _, _, .tape e => .tape e
theorem RepAll.mo (m : Mo P P' H H') : ∀ {v : List V} {d : List D}, RepAll K P τ H v d → RepAll K P' τ H' v d
  | _, _, .nil => .nil
  | _, _, .cons h t => .cons (h.mo m) (t.mo m)
theorem RepK.mo (m : Mo P P' H H') : ∀ {v : List (Key × V)} {d : List (D × D)}, RepK K P τ H v d → RepK K P' τ H' v d
  | _, _, .nil => .nil
  | _, _, .cons k h t => .cons k (h.mo m) (t.mo m)
theorem RepT.mo (m : Mo P P' H H') : ∀ {v : List (List Key × V)} {d : List (D × D)}, RepT K P τ H v d → RepT K P' τ H' v d
  | _, _, .nil => .nil
  | _, _, .cons k h t => .cons k (h.mo m) (t.mo m)
end
theorem RepAll.len : ∀ {v : List V} {d : List D}, RepAll K P τ H v d → v.length = d.length
  | _, _, .nil => rfl
  | _, _, .cons _ t => by simp [t.len]
theorem RepAll.append : ∀ {v w : List V} {d e : List D}, RepAll K P τ H v d → RepAll K P τ H w e → RepAll K P τ H (v ++ w) (d ++ e)
  | _, _, _, _, .nil, h => h
  | _, _, _, _, .cons h t, q => .cons h (t.append q)
theorem RepAll.get : ∀ {v : List V} {d : List D}, RepAll K P τ H v d → ∀ {i : Nat} {x : D}, d[i]? = some x → ∃ u, v[i]? = some u ∧ Rep K P τ H u x
  | _, _, .nil, _, _, e => by simp at e
  | _, _, .cons h _, 0, _, e => by simp at e; subst e; exact ⟨_, rfl, h⟩
  | _, _, .cons _ t, i + 1, _, e => by
    obtain ⟨u, h1, h2⟩ := t.get (i := i) (by simpa using e)
    exact ⟨u, by simpa using h1, h2⟩
theorem RepAll.take : ∀ {v : List V} {d : List D}, RepAll K P τ H v d → ∀ n, RepAll K P τ H (v.take n) (d.take n)
  | _, _, .nil, _ => by simp; exact .nil
  | _, _, .cons _ _, 0 => .nil
  | _, _, .cons h t, n + 1 => .cons h (t.take n)
theorem RepAll.drop : ∀ {v : List V} {d : List D}, RepAll K P τ H v d → ∀ n, RepAll K P τ H (v.drop n) (d.drop n)
  | _, _, .nil, _ => by simp; exact .nil
  | _, _, .cons h t, 0 => .cons h t
  | _, _, .cons _ t, n + 1 => t.drop n
theorem RepAll.rev : ∀ {v : List V} {d : List D}, RepAll K P τ H v d → RepAll K P τ H v.reverse d.reverse
  | _, _, .nil => .nil
  | _, _, .cons h t => by rw [List.reverse_cons, List.reverse_cons]; exact t.rev.append (.cons h .nil)
theorem RepAll.set : ∀ {v : List V} {d : List D}, RepAll K P τ H v d → ∀ (i : Nat) {u : V} {x : D}, Rep K P τ H u x → RepAll K P τ H (v.set i u) (d.set i x)
  | _, _, .nil, _, _, _, _ => .nil
  | _, _, .cons _ t, 0, _, _, r => .cons r t
  | _, _, .cons h t, i + 1, _, _, r => .cons h (t.set i r)
theorem RepAll.erase : ∀ {v : List V} {d : List D}, RepAll K P τ H v d → ∀ (i : Nat), RepAll K P τ H (v.eraseIdx i) (d.eraseIdx i)
  | _, _, .nil, _ => .nil
  | _, _, .cons _ t, 0 => t
  | _, _, .cons h t, i + 1 => .cons h (t.erase i)
theorem RepAll.dropLast {v : List V} {d : List D} (h : RepAll K P τ H v d) : RepAll K P τ H v.dropLast d.dropLast := by
  rw [List.dropLast_eq_take, List.dropLast_eq_take, h.len]; exact h.take _
def RepFz (K : PySem.W.Frag) (P : AP) (τ : TA2) (H : Hp) (Fz : List (V × D)) : Prop := ∀ p ∈ Fz, Rep K P τ H p.1 p.2
theorem RepAll.fz : ∀ {v : List V} {d : List D}, RepAll K P τ H v d → RepFz K P τ H (v.zip d)
  | _, _, .nil => fun p hp => by simp at hp
  | _, _, .cons h t => fun p hp => by
    rcases List.mem_cons.mp (by simpa using hp) with e | e
    · subst e; exact h
    · exact t.fz p e
theorem RepAll.of_fz : ∀ {v : List V} {d : List D}, v.length = d.length → RepFz K P τ H (v.zip d) → RepAll K P τ H v d
  | [], [], _, _ => .nil
  | [], _ :: _, e, _ => by simp at e
  | _ :: _, [], e, _ => by simp at e
  | v :: vs, d :: ds, e, h => .cons (h (v, d) (by simp)) (RepAll.of_fz (by simpa using e) fun p hp => h p (by simp [hp]))
theorem RepK.vals : ∀ {v : List (Key × V)} {d : List (D × D)}, RepK K P τ H v d → RepAll K P τ H (v.map (·.2)) (d.map (·.2))
  | _, _, .nil => .nil
  | _, _, .cons _ h t => .cons h t.vals
theorem RepT.vals : ∀ {v : List (List Key × V)} {d : List (D × D)}, RepT K P τ H v d → RepAll K P τ H (v.map (·.2)) (d.map (·.2))
  | _, _, .nil => .nil
  | _, _, .cons _ h t => .cons h t.vals
end

inductive Cont : HO → D → List (V × D) → Prop
  | lst {xs : List V} {ds : List D} : xs.length = ds.length → Cont (.lst xs) (.lst ds) (xs.zip ds)
  | dK {kvs : List (Key × V)} {ds : List (D × D)} : kvs.map (fun p => some p.1) = ds.map (fun p => keyD p.1) → Cont (.dK kvs) (.dic false ds) ((kvs.map (·.2)).zip (ds.map (·.2)))
  | dT {kvs : List (List Key × V)} {ds : List (D × D)} : kvs.map (fun p => some (Sum.inr (α := Key) p.1)) = ds.map (fun p => dkey true p.1) → Cont (.dT kvs) (.dic true ds) ((kvs.map (·.2)).zip (ds.map (·.2)))
section
variable {K : PySem.W.Frag} {P P' : AP} {τ : TA2} {H H' : Hp}
theorem repK_of : ∀ {kvs : List (Key × V)} {ds : List (D × D)}, kvs.map (fun p => some p.1) = ds.map (fun p => keyD p.1) → RepFz K P τ H ((kvs.map (·.2)).zip (ds.map (·.2))) → RepK K P τ H kvs ds
  | [], [], _, _ => .nil
  | [], _ :: _, e, _ => by simp at e
  | _ :: _, [], e, _ => by simp at e
  | (k, v) :: r, (kd, d) :: s, e, h => by
    simp only [List.map_cons, List.cons.injEq] at e
    exact .cons e.1.symm (h (v, d) (by simp)) (repK_of e.2 fun p hp => h p (by simp [hp]))
theorem repT_of : ∀ {kvs : List (List Key × V)} {ds : List (D × D)}, kvs.map (fun p => some (Sum.inr (α := Key) p.1)) = ds.map (fun p => dkey true p.1) → RepFz K P τ H ((kvs.map (·.2)).zip (ds.map (·.2))) → RepT K P τ H kvs ds
  | [], [], _, _ => .nil
  | [], _ :: _, e, _ => by simp at e
  | _ :: _, [], e, _ => by simp at e
  | (k, v) :: r, (kd, d) :: s, e, h => by
    simp only [List.map_cons, List.cons.injEq] at e
    have e1 := e.1.symm
    have tl := repT_of (kvs := r) (ds := s) e.2 fun p hp => h p (by simp [hp])
    have hd := h (v, d) (by simp)
    cases kd with
    | tup kd =>
      simp only [dkey] at e1
      cases q : keysD kd with
      | none => rw [q] at e1; simp at e1
      | some ks =>
        rw [q] at e1
        simp at e1
        subst e1
        exact .cons q hd tl
    | _ => simp [dkey] at e1
theorem RepK.keys : ∀ {kvs : List (Key × V)} {ds : List (D × D)}, RepK K P τ H kvs ds → kvs.map (fun p => some p.1) = ds.map (fun p => keyD p.1)
  | _, _, .nil => rfl
  | _, _, .cons k _ t => by simp [k, t.keys]
theorem RepT.keys : ∀ {kvs : List (List Key × V)} {ds : List (D × D)}, RepT K P τ H kvs ds → kvs.map (fun p => some (Sum.inr (α := Key) p.1)) = ds.map (fun p => dkey true p.1)
  | _, _, .nil => rfl
  | _, _, .cons k _ t => by simp [dkey, k, t.keys]
theorem Cont.rep {u : HO} {d : D} {cs : List (V × D)} {a : Addr} (c : Cont u d cs) (h : H a = some u) (n : ¬ P a) (f : RepFz K P τ H cs) : Rep K P τ H (.ref a) d := by
  cases c with
  | lst e => exact .lst ⟨n, h⟩ (RepAll.of_fz e f)
  | dK e => exact .dK n h (repK_of e f)
  | dT e => exact .dT n h (repT_of e f)
end

def Own (S : S) (i : Nat) (d : D) : Prop := lk S i = some (true, d)
def Prt (M : AP) (o : Nat → Addr) (τ : TA2) (S : S) : AP := fun a => M a ∨ (∃ p, τ = some p ∧ (a = p.1 ∨ a = p.2)) ∨ ∃ i d, Own S i d ∧ a = o i
def TpA (τ : TA2) (a : Addr) : Prop := ∃ p, τ = some p ∧ (a = p.1 ∨ a = p.2)
def TapeAt (τ : TA2) (T : TP) (H : Hp) : Prop := match T, τ with
  | some (cs, n), some (a, c) => a ≠ c ∧ H a = some (.lst [.ref c, .int n]) ∧ H c = some (.lst (cs.map .int))
  | none, none => True
  | _, _ => False
structure TapeR (M : AP) (τ : TA2) (T : TP) (H : Hp) : Prop where
  no : ∀ a, TpA τ a → ¬ M a
  at_ : TapeAt τ T H
theorem TapeAt.move {τ : TA2} {T : TP} {H H' : Hp} (t : TapeAt τ T H) (k : ∀ b u, H b = some u → H' b = some u) : TapeAt τ T H' := by
  cases T with
  | none => cases τ <;> exact t
  | some x => cases τ with
    | none => exact t
    | some y => exact ⟨t.1, k _ _ t.2.1, k _ _ t.2.2⟩
def NT (H : Hp) (b : Addr) : Prop := ∃ u, H b = some u ∧ ∀ xs, u ≠ .tup xs
theorem NT.nn {H : Hp} {b : Addr} (h : NT H b) : H b ≠ none := by
  obtain ⟨u, e, _⟩ := h
  rw [e]; simp
structure RelS (K : PySem.W.Frag) (B : Hp) (M : AP) (o : Nat → Addr) (τ : TA2) (Fz : List (V × D)) (σ : L2.St) (S : S) (H : Hp) : Prop where
  len : σ.length = S.ρ.length
  keep : ∀ b u, B b = some u → ¬ TpA τ b → H b = some u
  fz : RepFz K (Prt M o τ S) τ H Fz
  sh : ∀ i d, lk S i = some (false, d) → ∃ v, σ[i]? = some (some v) ∧ Rep K (Prt M o τ S) τ H v d
  ow : ∀ i d, Own S i d → σ[i]? = some (some (.ref (o i))) ∧ ¬ M (o i) ∧ ¬ TpA τ (o i) ∧ B (o i) = none ∧ ∃ u cs, H (o i) = some u ∧ Cont u d cs ∧ RepFz K (Prt M o τ S) τ H cs
  inj : ∀ i j d e, Own S i d → Own S j e → o i = o j → i = j
  tp : TapeR M τ S.T H
  mt : ∀ b, M b → NT H b
end Vf
namespace Vf
open PySem PySem.Spec PyProof.Rows L2

section
variable {K : PySem.W.Frag} {B B' : Hp} {M M' : AP} {o o' : Nat → Addr} {τ : TA2} {Fz Fz' : List (V × D)} {σ : L2.St} {s s' : S} {H H' : Hp}

theorem TapeR.some_at {T : TP} (t : TapeR M τ T H) {a : Addr} (h : TpA τ a) : H a ≠ none := by
  obtain ⟨⟨x, c⟩, e, h⟩ := h
  have q := t.at_
  subst e
  cases T with
  | none => exact q.elim
  | some t =>
    obtain ⟨cs, n⟩ := t
    obtain ⟨_, h1, h2⟩ := q
    rcases h with e | e
    · rw [e, h1]; simp
    · rw [e, h2]; simp
theorem RelS.fresh (r : RelS K B M o τ Fz σ s H) {p : Addr} (hp : H p = none) : B p = none ∧ ¬ M p ∧ ¬ TpA τ p ∧ ∀ i d, Own s i d → o i ≠ p := by
  have h3 : ¬ TpA τ p := fun z => r.tp.some_at z hp
  refine ⟨?_, fun z => (r.mt _ z).nn hp, h3, fun i d w e => ?_⟩
  · cases e : B p with
    | none => rfl
    | some u => rw [r.keep _ _ e h3] at hp; cases hp
  · obtain ⟨_, _, _, _, u, cs, hu, _⟩ := r.ow i d w
    rw [e, hp] at hu; cases hu
theorem Prt.nn (r : RelS K B M o τ Fz σ s H) {a : Addr} (h : Prt M o τ s a) : H a ≠ none := by
  rcases h with h | h | ⟨i, d, w, e⟩
  · exact (r.mt _ h).nn
  · exact r.tp.some_at h
  · obtain ⟨_, _, _, _, u, cs, hu, _⟩ := r.ow i d w
    rw [e, hu]; simp
theorem RelS.weak (r : RelS K B M o τ Fz σ s H) (hB : ∀ b u, B' b = some u → B b = some u) (hM : ∀ b, M' b → M b) (hF : RepFz K (Prt M o τ s) τ H Fz') : RelS K B' M' o τ Fz' σ s H := by
  have hp : ∀ b, Prt M' o τ s b → Prt M o τ s b := fun b h => h.imp (hM b) id
  have mo := Mo.same (H := H) hp
  refine ⟨r.len, fun b u q => r.keep b u (hB b u q), fun p q => (hF p q).mo mo, fun i d q => ?_, fun i d q => ?_, r.inj, ⟨fun a h z => r.tp.no a h (hM a z), r.tp.at_⟩, fun b z => r.mt b (hM b z)⟩
  · obtain ⟨v, h1, h2⟩ := r.sh i d q
    exact ⟨v, h1, h2.mo mo⟩
  · obtain ⟨h1, h2, h3, h4, u, cs, h5, h6, h7⟩ := r.ow i d q
    refine ⟨h1, fun z => h2 (hM _ z), h3, ?_, u, cs, h5, h6, fun p q => (h7 p q).mo mo⟩
    cases e : B' (o i) with
    | none => rfl
    | some x => rw [hB _ _ e] at h4; cases h4
theorem RelS.drop (r : RelS K B M o τ Fz σ s H) (h : ∀ p ∈ Fz', p ∈ Fz) : RelS K B M o τ Fz' σ s H := r.weak (fun _ _ q => q) (fun _ q => q) fun p q => r.fz p (h p q)
theorem RelS.more (r : RelS K B M o τ Fz σ s H) (h : RepFz K (Prt M o τ s) τ H Fz') : RelS K B M o τ (Fz' ++ Fz) σ s H := r.weak (fun _ _ q => q) (fun _ q => q) fun p q => (List.mem_append.mp q).elim (h p) (r.fz p)
theorem RelS.more1 (r : RelS K B M o τ Fz σ s H) {v : V} {d : D} (h : Rep K (Prt M o τ s) τ H v d) : RelS K B M o τ ((v, d) :: Fz) σ s H := r.weak (fun _ _ q => q) (fun _ q => q) fun p q => (List.mem_cons.mp q).elim (fun e => e ▸ h) (r.fz p)
theorem RelS.move {T : TP} (r : RelS K B M o τ Fz σ s H) (k : ∀ b u, H b = some u → ¬ TpA τ b → H' b = some u) (ht : TapeR M τ T H') : RelS K B M o τ Fz σ { s with T := T } H' := by
  have mo : Mo (Prt M o τ s) (Prt M o τ { s with T := T }) H H' := ⟨fun b u q n => k b u q fun z => n (.inr (.inl z)), fun b q _ => q⟩
  refine ⟨r.len, fun b u q n => k b u (r.keep b u q n) n, fun p q => (r.fz p q).mo mo, fun i d q => ?_, fun i d q => ?_, r.inj, ht, fun b z => ?_⟩
  · obtain ⟨v, h1, h2⟩ := r.sh i d q
    exact ⟨v, h1, h2.mo mo⟩
  · obtain ⟨h1, h2, h3, h4, u, cs, h5, h6, h7⟩ := r.ow i d q
    exact ⟨h1, h2, h3, h4, u, cs, k _ _ h5 h3, h6, fun p q => (h7 p q).mo mo⟩
  · obtain ⟨u, e, nt⟩ := r.mt b z
    exact ⟨u, k b u e fun q => r.tp.no b q z, nt⟩
theorem RelS.alloc {p : Addr} {u : HO} (r : RelS K B M o τ Fz σ s H) (hp : H p = none) (nt : ∀ xs, u ≠ .tup xs) : RelS K (upd B p u) (fun b => M b ∨ b = p) o τ Fz σ s (upd H p u) := by
  obtain ⟨f1, f2, f3, f4⟩ := r.fresh hp
  have ne : ∀ b x, H b = some x → b ≠ p := fun b x e z => by subst z; rw [hp] at e; cases e
  have mo : Mo (Prt M o τ s) (Prt (fun b => M b ∨ b = p) o τ s) H (upd H p u) := by
    refine ⟨fun b x q _ => by rw [upd_ne (ne b x q)]; exact q, fun b q h => ?_⟩
    rcases q with (q | q) | q | q
    · exact .inl q
    · exact absurd (q ▸ hp) h
    · exact .inr (.inl q)
    · exact .inr (.inr q)
  refine ⟨r.len, fun b x q n => ?_, fun p q => (r.fz p q).mo mo, fun i d q => ?_, fun i d q => ?_, r.inj, ⟨fun a h z => z.elim (r.tp.no a h) fun e => f3 (e ▸ h), ?_⟩, fun b z => ?_⟩
  · by_cases e : b = p
    · subst e; rw [upd_same] at q ⊢; exact q
    · rw [upd_ne e] at q ⊢; exact r.keep b x q n
  · obtain ⟨v, h1, h2⟩ := r.sh i d q
    exact ⟨v, h1, h2.mo mo⟩
  · obtain ⟨h1, h2, h3, h4, x, cs, h5, h6, h7⟩ := r.ow i d q
    refine ⟨h1, fun z => z.elim h2 (f4 i d q), h3, by rw [upd_ne (f4 i d q)]; exact h4, x, cs, by rw [upd_ne (f4 i d q)]; exact h5, h6, fun p q => (h7 p q).mo mo⟩
  · exact r.tp.at_.move fun b x q => by rw [upd_ne (ne b x q)]; exact q
  · by_cases e : b = p
    · subst e; exact ⟨u, upd_same, nt⟩
    · obtain ⟨x, q, h⟩ := r.mt b (z.resolve_right e)
      exact ⟨x, by rw [upd_ne e]; exact q, h⟩
theorem RelS.laid {p : Addr} {u : HO} (r : RelS K B M o τ Fz σ s H) (hp : H p = none) : RelS K B M o τ Fz σ s (upd H p u) := by
  have ne : ∀ b x, H b = some x → b ≠ p := fun b x e z => by subst z; rw [hp] at e; cases e
  have e : s = { s with T := s.T } := rfl
  rw [e]
  exact r.move (fun b x q _ => by rw [upd_ne (ne b x q)]; exact q) ⟨r.tp.no, r.tp.at_.move fun b x q => by rw [upd_ne (ne b x q)]; exact q⟩
theorem RelS.new {p : Addr} {u : HO} {v : V} {d : D} (r : RelS K B M o τ Fz σ s H) (hp : H p = none)
    (h : ∀ P H', Mo (Prt M o τ s) P H H' → H' p = some u → ¬ P p → Rep K P τ H' v d) : RelS K B M o τ ((v, d) :: Fz) σ s (upd H p u) := by
  obtain ⟨f1, f2, f3, f4⟩ := r.fresh hp
  have ne : ∀ b x, H b = some x → b ≠ p := fun b x e z => by subst z; rw [hp] at e; cases e
  have q := r.laid (u := u) hp
  refine q.more1 (h _ _ ⟨fun b x e _ => by rw [upd_ne (ne b x e)]; exact e, fun b z _ => z⟩ upd_same ?_)
  rintro (z | z | ⟨i, e, z, z2⟩)
  · exact f2 z
  · exact f3 z
  · exact f4 i e z z2.symm
end

def RelT (K : PySem.W.Frag) (o : Nat → Addr) (τ : TA2) (σ : L2.St) (s : S) (H : Hp) : List (V × D × Bool) → Hp → AP → List (V × D) → Prop
  | [], B, M, Fz => RelS K B M o τ Fz σ s H
  | (v, d, false) :: r, B, M, Fz => RelT K o τ σ s H r B M ((v, d) :: Fz)
  | (v, d, true) :: r, B, M, Fz => ∃ a u cs, v = .ref a ∧ B a = none ∧ ¬ TpA τ a ∧ ¬ M a ∧ Cont u d cs ∧ RelT K o τ σ s H r (upd B a u) (fun b => M b ∨ b = a) (cs ++ Fz)
section
variable {K : PySem.W.Frag} {B B' : Hp} {M M' : AP} {o o' : Nat → Addr} {τ : TA2} {Fz Fz' : List (V × D)} {σ : L2.St} {s s' : S} {H H' : Hp}
theorem upd_up {B : Hp} {a : Addr} {u : HO} (h : B a = none) : ∀ b x, B b = some x → upd B a u b = some x := fun b x e => by
  rw [upd_ne]; exact e; intro z; subst z; rw [h] at e; cases e
theorem RelS.unnew {a : Addr} {u : HO} {d : D} {cs : List (V × D)} (hb : B a = none) (ht : ¬ TpA τ a) (hm : ¬ M a) (c : Cont u d cs) (r : RelS K (upd B a u) (fun b => M b ∨ b = a) o τ (cs ++ Fz) σ s H) : RelS K B M o τ ((.ref a, d) :: Fz) σ s H := by
  have q := r.weak (B' := B) (M' := M) (Fz' := Fz) (upd_up hb) (fun b z => .inl z) fun p z => r.fz p (List.mem_append_right _ z)
  have fc : RepFz K (Prt M o τ s) τ H cs := fun p z => (r.fz p (List.mem_append_left _ z)).mo (Mo.same fun b y => y.imp .inl id)
  refine q.more1 (c.rep (r.keep a u upd_same ht) ?_ fc)
  rintro (z | z | ⟨i, e, z, z2⟩)
  · exact hm z
  · exact ht z
  · exact (r.ow i e z).2.1 (.inr z2.symm)
theorem RelT.plain : ∀ {ts : List (V × D × Bool)} {B : Hp} {M : AP} {Fz : List (V × D)}, RelT K o τ σ s H ts B M Fz → RelS K B M o τ (ts.map (fun t => (t.1, t.2.1)) ++ Fz) σ s H
  | [], _, _, _, h => h
  | (v, d, false) :: r, B, M, Fz, h => by
    have q := RelT.plain (ts := r) h
    refine q.drop fun p z => ?_
    simp only [List.map_cons, List.cons_append, List.mem_cons, List.mem_append] at z ⊢
    rcases z with z | z | z
    · exact .inr (.inl z)
    · exact .inl z
    · exact .inr (.inr z)
  | (v, d, true) :: r, B, M, Fz, h => by
    obtain ⟨a, u, cs, rfl, hb, ht, hm, c, h⟩ := h
    have q := RelT.plain (ts := r) h
    have q2 : RelS K (upd B a u) (fun b => M b ∨ b = a) o τ (cs ++ (r.map (fun t => (t.1, t.2.1)) ++ Fz)) σ s H := q.drop fun p z => by
      simp only [List.mem_append] at z ⊢
      rcases z with z | z | z
      · exact .inr (.inl z)
      · exact .inl z
      · exact .inr (.inr z)
    have q3 := RelS.unnew hb ht hm c q2
    exact q3
theorem RelT.one {v : V} {d : D} {fr : Bool} (h : RelT K o τ σ s H [(v, d, fr)] B M Fz) : RelS K B M o τ ((v, d) :: Fz) σ s H := h.plain
end
end Vf
namespace Vf
open PySem PySem.Spec PyProof.Rows L2

theorem Cont.nt {u : HO} {d : D} {cs : List (V × D)} (c : Cont u d cs) : ∀ xs, u ≠ .tup xs := fun xs z => by subst z; cases c
section
variable {K : PySem.W.Frag} {B B' : Hp} {M M' : AP} {o o' : Nat → Addr} {τ : TA2} {Fz Fz' : List (V × D)} {σ : L2.St} {s s' : S} {H H' : Hp}
theorem lk_set {s : S} {i j : Nat} {x : Option (Bool × D)} : lk (setS s i x) j = if j = i then (if i < s.ρ.length then x else none) else lk s j := by
  unfold lk setS
  by_cases e : j = i
  · subst e
    rw [if_pos rfl]
    by_cases h : j < s.ρ.length
    · rw [if_pos h, List.getElem?_set_self h]; rfl
    · rw [if_neg h, List.getElem?_eq_none (by simpa using h)]; rfl
  · rw [if_neg e, List.getElem?_set_ne (Ne.symm e)]
theorem lk_lt {s : S} {i : Nat} {x : Bool × D} (h : lk s i = some x) : i < s.ρ.length := by
  by_cases e : i < s.ρ.length
  · exact e
  · unfold lk at h; rw [List.getElem?_eq_none (by simpa using e)] at h; cases h
theorem setS_len {s : S} {i : Nat} {x : Option (Bool × D)} : (setS s i x).ρ.length = s.ρ.length := by simp [setS]
theorem setS_T {s : S} {i : Nat} {x : Option (Bool × D)} : (setS s i x).T = s.T := rfl
theorem own_set_false {s : S} {i j : Nat} {d e : D} (h : Own (setS s i (some (false, d))) j e) : j ≠ i ∧ Own s j e := by
  unfold Own at h
  rw [lk_set] at h
  by_cases q : j = i
  · rw [if_pos q] at h
    split at h
    · cases h
    · cases h
  · rw [if_neg q] at h; exact ⟨q, h⟩
theorem own_set_none {s : S} {i j : Nat} {e : D} (h : Own (setS s i none) j e) : j ≠ i ∧ Own s j e := by
  unfold Own at h
  rw [lk_set] at h
  by_cases q : j = i
  · rw [if_pos q] at h
    split at h <;> cases h
  · rw [if_neg q] at h; exact ⟨q, h⟩
theorem RelS.store {i : Nat} {v : V} {d : D} (r : RelS K B M o τ ((v, d) :: Fz) σ s H) : RelS K B M o τ ((v, d) :: Fz) (σ.set i (some v)) (setS s i (some (false, d))) H := by
  have hp : ∀ b, Prt M o τ (setS s i (some (false, d))) b → Prt M o τ s b := fun b h => h.imp id fun h => h.imp id fun ⟨j, e, w, q⟩ => ⟨j, e, (own_set_false w).2, q⟩
  have mo := Mo.same (H := H) hp
  refine ⟨by rw [List.length_set, setS_len]; exact r.len, r.keep, fun p q => (r.fz p q).mo mo, fun j e q => ?_, fun j e q => ?_, fun j k e f q1 q2 => r.inj j k e f (own_set_false q1).2 (own_set_false q2).2, ⟨r.tp.no, r.tp.at_⟩, r.mt⟩
  · rw [lk_set] at q
    by_cases c : j = i
    · subst c
      rw [if_pos rfl] at q
      split at q
      · rename_i hl
        cases q
        refine ⟨v, List.getElem?_set_self (by rw [r.len]; exact hl), (r.fz (v, d) List.mem_cons_self).mo mo⟩
      · cases q
    · rw [if_neg c] at q
      obtain ⟨u, h1, h2⟩ := r.sh j e q
      exact ⟨u, by rw [List.getElem?_set_ne (Ne.symm c)]; exact h1, h2.mo mo⟩
  · obtain ⟨c, q⟩ := own_set_false q
    obtain ⟨h1, h2, h3, h4, u, cs, h5, h6, h7⟩ := r.ow j e q
    exact ⟨by rw [List.getElem?_set_ne (Ne.symm c)]; exact h1, h2, h3, h4, u, cs, h5, h6, fun p q => (h7 p q).mo mo⟩
theorem RelS.forget {i : Nat} (r : RelS K B M o τ Fz σ s H) : RelS K B M o τ Fz σ (setS s i none) H := by
  have hp : ∀ b, Prt M o τ (setS s i none) b → Prt M o τ s b := fun b h => h.imp id fun h => h.imp id fun ⟨j, e, w, q⟩ => ⟨j, e, (own_set_none w).2, q⟩
  have mo := Mo.same (H := H) hp
  refine ⟨by rw [setS_len]; exact r.len, r.keep, fun p q => (r.fz p q).mo mo, fun j e q => ?_, fun j e q => ?_, fun j k e f q1 q2 => r.inj j k e f (own_set_none q1).2 (own_set_none q2).2, ⟨r.tp.no, r.tp.at_⟩, r.mt⟩
  · rw [lk_set] at q
    by_cases c : j = i
    · rw [if_pos c] at q
      split at q <;> cases q
    · rw [if_neg c] at q
      obtain ⟨u, h1, h2⟩ := r.sh j e q
      exact ⟨u, h1, h2.mo mo⟩
  · obtain ⟨c, q⟩ := own_set_none q
    obtain ⟨h1, h2, h3, h4, u, cs, h5, h6, h7⟩ := r.ow j e q
    exact ⟨h1, h2, h3, h4, u, cs, h5, h6, fun p q => (h7 p q).mo mo⟩
theorem own_set_true {s : S} {i j : Nat} {d e : D} (h : Own (setS s i (some (true, d))) j e) : (j = i ∧ e = d ∧ i < s.ρ.length) ∨ (j ≠ i ∧ Own s j e) := by
  unfold Own at h
  rw [lk_set] at h
  by_cases q : j = i
  · rw [if_pos q] at h
    split at h
    · rename_i hl; cases h; exact .inl ⟨q, rfl, hl⟩
    · cases h
  · rw [if_neg q] at h; exact .inr ⟨q, h⟩
theorem RelS.storeN {i : Nat} {a : Addr} {u : HO} {d : D} {cs : List (V × D)} (hb : B a = none) (ht : ¬ TpA τ a) (hm : ¬ M a) (c : Cont u d cs)
    (r : RelS K (upd B a u) (fun b => M b ∨ b = a) o τ (cs ++ Fz) σ s H) : ∃ o', RelS K B M o' τ Fz (σ.set i (some (.ref a))) (setS s i (some (true, d))) H := by
  refine ⟨fun j => if j = i then a else o j, ?_⟩
  have hp : ∀ b, Prt M (fun j => if j = i then a else o j) τ (setS s i (some (true, d))) b → Prt (fun b => M b ∨ b = a) o τ s b := by
    rintro b (h | h | ⟨j, e, w, q⟩)
    · exact .inl (.inl h)
    · exact .inr (.inl h)
    · rcases own_set_true w with ⟨h1, h2, _⟩ | ⟨h1, h2⟩
      · simp only [if_pos h1] at q; exact .inl (.inr q)
      · simp only [if_neg h1] at q; exact .inr (.inr ⟨j, e, h2, q⟩)
  have mo := Mo.same (H := H) hp
  refine ⟨by rw [List.length_set, setS_len]; exact r.len, fun b x q n => r.keep b x (upd_up hb b x q) n, fun p q => (r.fz p (List.mem_append_right _ q)).mo mo, fun j e q => ?_, fun j e q => ?_, fun j k e f q1 q2 h => ?_, ⟨fun a h z => r.tp.no a h (.inl z), r.tp.at_⟩, fun b z => r.mt b (.inl z)⟩
  · rw [lk_set] at q
    by_cases c : j = i
    · rw [if_pos c] at q
      split at q <;> cases q
    · rw [if_neg c] at q
      obtain ⟨u, h1, h2⟩ := r.sh j e q
      exact ⟨u, by rw [List.getElem?_set_ne (Ne.symm c)]; exact h1, h2.mo mo⟩
  · rcases own_set_true q with ⟨h1, h2, h3⟩ | ⟨h1, h2⟩
    · subst h1 h2
      simp only [if_pos]
      exact ⟨List.getElem?_set_self (by rw [r.len]; exact h3), hm, ht, hb, u, cs, r.keep a u upd_same ht, c, fun p q => (r.fz p (List.mem_append_left _ q)).mo mo⟩
    · simp only [if_neg h1]
      obtain ⟨g1, g2, g3, g4, x, xs, g5, g6, g7⟩ := r.ow j e h2
      refine ⟨by rw [List.getElem?_set_ne (Ne.symm h1)]; exact g1, fun z => g2 (.inl z), g3, ?_, x, xs, g5, g6, fun p q => (g7 p q).mo mo⟩
      rw [upd_ne fun z => g2 (.inr z)] at g4; exact g4
  · rcases own_set_true q1 with ⟨h1, h2, h3⟩ | ⟨h1, h2⟩
    · rcases own_set_true q2 with ⟨k1, k2, k3⟩ | ⟨k1, k2⟩
      · rw [h1, k1]
      · simp only [if_pos h1, if_neg k1] at h
        exact absurd (.inr h.symm) (r.ow k f k2).2.1
    · rcases own_set_true q2 with ⟨k1, k2, k3⟩ | ⟨k1, k2⟩
      · simp only [if_neg h1, if_pos k1] at h
        exact absurd (.inr h) (r.ow j e h2).2.1
      · simp only [if_neg h1, if_neg k1] at h
        exact r.inj j k e f h2 k2 h
theorem RelT.store {i : Nat} {v : V} {d : D} {fr : Bool} (h : RelT K o τ σ s H [(v, d, fr)] B M Fz) : ∃ o', RelS K B M o' τ Fz (σ.set i (some v)) (setS s i (some (fr, d))) H := by
  cases fr with
  | false => exact ⟨o, (RelS.store (i := i) h).drop fun p q => List.mem_cons_of_mem _ q⟩
  | true =>
    obtain ⟨a, u, cs, rfl, hb, ht, hm, c, h⟩ := h
    exact RelS.storeN hb ht hm c h
theorem RelS.freeze {i : Nat} {fr : Bool} {d : D} (r : RelS K B M o τ Fz σ s H) (w : lk s i = some (fr, d)) : ∃ v, σ[i]? = some (some v) ∧ RelS K B M o τ ((v, d) :: Fz) σ (setS s i (some (false, d))) H := by
  cases fr with
  | false =>
    obtain ⟨v, h1, h2⟩ := r.sh i d w
    have q := (r.more1 h2).store (i := i)
    have e : σ.set i (some v) = σ := by
      apply List.ext_getElem?
      intro j
      by_cases c : j = i
      · subst c; rw [List.getElem?_set_self (by rw [r.len]; exact lk_lt w), h1]
      · rw [List.getElem?_set_ne (Ne.symm c)]
    rw [e] at q
    exact ⟨v, h1, q⟩
  | true =>
    obtain ⟨h1, h2, h3, h4, u, cs, h5, h6, h7⟩ := r.ow i d w
    refine ⟨.ref (o i), h1, ?_⟩
    have hp : ∀ b, Prt M o τ (setS s i (some (false, d))) b → Prt M o τ s b := fun b h => h.imp id fun h => h.imp id fun ⟨j, e, w, q⟩ => ⟨j, e, (own_set_false w).2, q⟩
    have mo := Mo.same (H := H) hp
    have np : ¬ Prt M o τ (setS s i (some (false, d))) (o i) := by
      rintro (z | z | ⟨j, e, z, z2⟩)
      · exact h2 z
      · exact h3 z
      · exact (own_set_false z).1 (r.inj j i e d (own_set_false z).2 w z2.symm)
    have rv : Rep K (Prt M o τ (setS s i (some (false, d)))) τ H (.ref (o i)) d := h6.rep h5 np fun p q => (h7 p q).mo mo
    refine ⟨by rw [setS_len]; exact r.len, r.keep, fun p q => ?_, fun j e q => ?_, fun j e q => ?_, fun j k e f q1 q2 => r.inj j k e f (own_set_false q1).2 (own_set_false q2).2, ⟨r.tp.no, r.tp.at_⟩, r.mt⟩
    · rcases List.mem_cons.mp q with q | q
      · subst q; exact rv
      · exact (r.fz p q).mo mo
    · rw [lk_set] at q
      by_cases c : j = i
      · subst c
        rw [if_pos rfl] at q
        split at q
        · cases q; exact ⟨_, h1, rv⟩
        · cases q
      · rw [if_neg c] at q
        obtain ⟨u, g1, g2⟩ := r.sh j e q
        exact ⟨u, g1, g2.mo mo⟩
    · obtain ⟨c, q⟩ := own_set_false q
      obtain ⟨g1, g2, g3, g4, x, xs, g5, g6, g7⟩ := r.ow j e q
      exact ⟨g1, g2, g3, g4, x, xs, g5, g6, fun p q => (g7 p q).mo mo⟩
theorem RelS.take {i : Nat} {fr : Bool} {d : D} (r : RelS K B M o τ Fz σ s H) (w : lk s i = some (fr, d)) : ∃ v, σ[i]? = some (some v) ∧ RelT K o τ σ (setS s i none) H [(v, d, fr)] B M Fz := by
  cases fr with
  | false =>
    obtain ⟨v, h1, h2⟩ := r.sh i d w
    exact ⟨v, h1, (r.more1 h2).forget⟩
  | true =>
    obtain ⟨h1, h2, h3, h4, u, cs, h5, h6, h7⟩ := r.ow i d w
    refine ⟨.ref (o i), h1, o i, u, cs, rfl, h4, h3, h2, h6, ?_⟩
    have hp : ∀ b, Prt (fun b => M b ∨ b = o i) o τ (setS s i none) b → Prt M o τ s b := by
      rintro b ((h | h) | h | ⟨j, e, z, q⟩)
      · exact .inl h
      · exact .inr (.inr ⟨i, d, w, h⟩)
      · exact .inr (.inl h)
      · exact .inr (.inr ⟨j, e, (own_set_none z).2, q⟩)
    have mo := Mo.same (H := H) hp
    refine ⟨by rw [setS_len]; exact r.len, fun b x q n => ?_, fun p q => ?_, fun j e q => ?_, fun j e q => ?_, fun j k e f q1 q2 => r.inj j k e f (own_set_none q1).2 (own_set_none q2).2, ⟨fun a h z => z.elim (r.tp.no a h) fun z => h3 (z ▸ h), r.tp.at_⟩, fun b z => ?_⟩
    · by_cases c : b = o i
      · subst c; rw [upd_same] at q; cases q; exact h5
      · rw [upd_ne c] at q; exact r.keep b x q n
    · rcases List.mem_append.mp q with q | q
      · exact (h7 p q).mo mo
      · exact (r.fz p q).mo mo
    · rw [lk_set] at q
      by_cases c : j = i
      · rw [if_pos c] at q
        split at q <;> cases q
      · rw [if_neg c] at q
        obtain ⟨u, g1, g2⟩ := r.sh j e q
        exact ⟨u, g1, g2.mo mo⟩
    · obtain ⟨c, q⟩ := own_set_none q
      obtain ⟨g1, g2, g3, g4, x, xs, g5, g6, g7⟩ := r.ow j e q
      refine ⟨g1, fun z => z.elim g2 fun z => c (r.inj j i e d q w z), g3, ?_, x, xs, g5, g6, fun p q => (g7 p q).mo mo⟩
      rw [upd_ne fun z => c (r.inj j i e d q w z)]; exact g4
    · rcases z with z | z
      · exact r.mt b z
      · exact ⟨u, by rw [z, h5], h6.nt⟩
theorem RelS.mutate {i : Nat} {d d' : D} {u' : HO} {cs' : List (V × D)} (r : RelS K B M o τ Fz σ s H) (w : Own s i d) (c' : Cont u' d' cs') (hc : RepFz K (Prt M o τ s) τ H cs') :
    RelS K B M o τ Fz σ (setS s i (some (true, d'))) (upd H (o i) u') := by
  obtain ⟨h1, h2, h3, h4, u, cs, h5, h6, h7⟩ := r.ow i d w
  have il := lk_lt w
  have hp : ∀ b, Prt M o τ (setS s i (some (true, d'))) b → Prt M o τ s b := by
    rintro b (h | h | ⟨j, e, z, q⟩)
    · exact .inl h
    · exact .inr (.inl h)
    · rcases own_set_true z with ⟨g1, g2, _⟩ | ⟨g1, g2⟩
      · subst g1; exact .inr (.inr ⟨j, d, w, q⟩)
      · exact .inr (.inr ⟨j, e, g2, q⟩)
  have pi : Prt M o τ s (o i) := .inr (.inr ⟨i, d, w, rfl⟩)
  have mo : Mo (Prt M o τ s) (Prt M o τ (setS s i (some (true, d')))) H (upd H (o i) u') := ⟨fun b x q n => by rw [upd_ne (fun (z : b = o i) => n (by rw [z]; exact pi))]; exact q, fun b q _ => hp b q⟩
  refine ⟨by rw [setS_len]; exact r.len, fun b x q n => ?_, fun p q => (r.fz p q).mo mo, fun j e q => ?_, fun j e q => ?_, fun j k e f q1 q2 => ?_, ⟨r.tp.no, ?_⟩, fun b z => ?_⟩
  · rw [upd_ne]
    · exact r.keep b x q n
    · intro z; subst z; rw [h4] at q; cases q
  · rw [lk_set] at q
    by_cases c : j = i
    · rw [if_pos c] at q
      split at q <;> cases q
    · rw [if_neg c] at q
      obtain ⟨u, g1, g2⟩ := r.sh j e q
      exact ⟨u, g1, g2.mo mo⟩
  · rcases own_set_true q with ⟨g1, g2, _⟩ | ⟨g1, g2⟩
    · subst g1 g2
      exact ⟨h1, h2, h3, h4, u', cs', upd_same, c', fun p q => (hc p q).mo mo⟩
    · obtain ⟨k1, k2, k3, k4, x, xs, k5, k6, k7⟩ := r.ow j e g2
      exact ⟨k1, k2, k3, k4, x, xs, by rw [upd_ne fun z => g1 (r.inj j i e d g2 w z)]; exact k5, k6, fun p q => (k7 p q).mo mo⟩
  · have red : ∀ {j : Nat} {e : D}, Own (setS s i (some (true, d'))) j e → ∃ e', Own s j e' := fun {j e} z => by
      rcases own_set_true z with ⟨g1, _, _⟩ | ⟨_, g2⟩
      · subst g1; exact ⟨d, w⟩
      · exact ⟨e, g2⟩
    obtain ⟨e1, q1⟩ := red q1
    obtain ⟨f1, q2⟩ := red q2
    exact r.inj j k e1 f1 q1 q2
  · have q := r.tp.at_
    show TapeAt τ s.T _
    cases hT : s.T with
    | none => rw [hT] at q; cases τ <;> exact q
    | some t =>
      rw [hT] at q
      cases hτ : τ with
      | none => rw [hτ] at q; exact q
      | some y =>
        rw [hτ] at q
        refine ⟨q.1, ?_, ?_⟩
        · rw [upd_ne fun z => h3 ⟨y, hτ, .inl z.symm⟩]; exact q.2.1
        · rw [upd_ne fun z => h3 ⟨y, hτ, .inr z.symm⟩]; exact q.2.2
  · by_cases c : b = o i
    · exact ⟨u', by rw [c, upd_same], c'.nt⟩
    · obtain ⟨x, q, h⟩ := r.mt b z
      exact ⟨x, by rw [upd_ne c]; exact q, h⟩
end
end Vf
namespace Vf
open PySem PySem.Spec PyProof.Rows L2

def WPm {α : Type} (m : M α) (s : S) (ok : α → S → Prop) (ex : Nat → S → Prop) : Prop := match m s with
  | .ok a s' => ok a s'
  | .exc c s' => ex c s'
  | .stuck => False
section
variable {α β : Type} {m : M α} {f : α → M β} {s : S} {ok : α → S → Prop} {ok' : β → S → Prop} {ex ex' : Nat → S → Prop}
theorem WPm.bnd_ (h : WPm (bnd m f) s ok' ex) : WPm m s (fun a s' => WPm (f a) s' ok' ex) ex := by
  unfold WPm bnd at h
  unfold WPm
  cases e : m s with
  | ok a s' => rw [e] at h; exact h
  | exc c s' => rw [e] at h; exact h
  | stuck => rw [e] at h; exact h
theorem WPm.mono {ok2 : α → S → Prop} (h : WPm m s ok ex) (h1 : ∀ a s', ok a s' → ok2 a s') (h2 : ∀ c s', ex c s' → ex' c s') : WPm m s ok2 ex' := by
  unfold WPm at h ⊢
  cases e : m s with
  | ok a s' => rw [e] at h; exact h1 _ _ h
  | exc c s' => rw [e] at h; exact h2 _ _ h
  | stuck => rw [e] at h; exact h
theorem WPm.ret_ {a : α} (h : WPm (ret a) s ok ex) : ok a s := h
theorem WPm.stk_ {p : Prop} (h : WPm (stk : M α) s ok ex) : p := False.elim h
end

structure Cn where
  names : List (Str × Nat)
  cls : List Str
  cons : List (Str × D)
  free : List Str
  lenk : List Str
  ar : List Nat
  exm : Nat → Nat → Bool
structure Gl where
  P : Program
  w : World
  K : PySem.W.Frag
  mg : Str → Option Value
  base : Heap
  k : Nat
def Gl.ca (G : Gl) (C : Cn) (c : Nat) : Addr := He.ga G.K (C.cls.getD c "")
def zipT : List V → List (D × Bool) → List (V × D × Bool)
  | v :: vs, x :: xs => (v, x.1, x.2) :: zipT vs xs
  | _, _ => []
def OpdR (Fz : List (V × D)) (σ : L2.St) (v : V) : Opd → Prop
  | .val d => (v, d) ∈ Fz
  | .slot i => σ[i]? = some (some v)
section
variable (K : PySem.W.Frag) (ca : Nat → Addr) (W : WX)
def EX (B : Hp) (M : AP) (o : Nat → Addr) (τ : TA2) (Fz : List (V × D)) (σ : L2.St) : Nat → S → Prop := fun c s' => ∀ H', RelS K B M o τ Fz σ s' H' → W (.ref (ca c)) none σ H'
def tvE (m : M (D × Bool)) : TE := fun σ H Q => ∃ B M o τ Fz s, RelS K B M o τ Fz σ s H ∧ WPm m s (fun x s' => ∀ v H', RelT K o τ σ s' H' [(v, x.1, x.2)] B M Fz → Q v H') (EX K ca W B M o τ Fz σ)
def tvT (m : M Bool) : TT := fun σ H Q => ∃ B M o τ Fz s, RelS K B M o τ Fz σ s H ∧ WPm m s (fun b s' => ∀ H', RelS K B M o τ Fz σ s' H' → Q b H') (EX K ca W B M o τ Fz σ)
def tvO (m : M Opd) : TE := fun σ H Q => ∃ B M o τ Fz s, RelS K B M o τ Fz σ s H ∧ WPm m s (fun od s' => ∀ v H' Fz', (∀ p ∈ Fz, p ∈ Fz') → RelS K B M o τ Fz' σ s' H' → OpdR Fz' σ v od → Q v H') (EX K ca W B M o τ Fz σ)
def tvEs (m : M (List (D × Bool))) : TA := fun σ H Q => ∃ B M o τ Fz s, RelS K B M o τ Fz σ s H ∧ WPm m s (fun xs s' => ∀ vs H', vs.length = xs.length → RelT K o τ σ s' H' (zipT vs xs) B M Fz → Q vs H') (EX K ca W B M o τ Fz σ)
def tvOs (m : M (List Opd)) : TA := fun σ H Q => ∃ B M o τ Fz s, RelS K B M o τ Fz σ s H ∧ WPm m s (fun os s' => ∀ vs H' Fz', (∀ p ∈ Fz, p ∈ Fz') → RelS K B M o τ Fz' σ s' H' → Paired (OpdR Fz' σ) vs os → Q vs H') (EX K ca W B M o τ Fz σ)
end
theorem EX.up {K : PySem.W.Frag} {ca : Nat → Addr} {W : WX} {B B' : Hp} {M M' : AP} {o : Nat → Addr} {τ : TA2} {Fz Fz' : List (V × D)} {σ : L2.St} (hB : ∀ b u, B b = some u → B' b = some u) (hM : ∀ b, M b → M' b) (hF : ∀ p ∈ Fz, p ∈ Fz') :
    ∀ c s', EX K ca W B M o τ Fz σ c s' → EX K ca W B' M' o τ Fz' σ c s' := fun c s' h H' r => h H' (r.weak hB hM fun p q => r.fz p (hF p q))
theorem EX.fz {K : PySem.W.Frag} {ca : Nat → Addr} {W : WX} {B : Hp} {M : AP} {o : Nat → Addr} {τ : TA2} {Fz Fz' : List (V × D)} {σ : L2.St} (hF : ∀ p ∈ Fz, p ∈ Fz') : ∀ c s', EX K ca W B M o τ Fz σ c s' → EX K ca W B M o τ Fz' σ c s' := EX.up (fun _ _ q => q) (fun _ q => q) hF

theorem PE.imp {X : Cx} {e : Expr} {t t' : TE} (h : PE X e t) (i : ∀ σ H Q, t' σ H Q → t σ H Q) : PE X e t' := ⟨fun pins s σ H Q I q => h.run pins s σ H Q I (i σ H Q q)⟩
theorem PT.imp {X : Cx} {e : Expr} {t t' : TT} (h : PT X e t) (i : ∀ σ H Q, t' σ H Q → t σ H Q) : PT X e t' := ⟨fun pins s σ H Q I q => h.run pins s σ H Q I (i σ H Q q)⟩
theorem PA.imp {X : Cx} {e : List Expr} {t t' : TA} (h : PA X e t) (i : ∀ σ H Q, t' σ H Q → t σ H Q) : PA X e t' := ⟨fun pos pins s σ H Q I q => h.run pos pins s σ H Q I (i σ H Q q)⟩
theorem PS.imp {X : Cx} {e : Stmt} {t t' : TS} (h : PS X e t) (i : ∀ D σ H, t' D σ H → t D σ H) : PS X e t' := ⟨fun pins s σ H D I q => h.run pins s σ H D I (i D σ H q)⟩
theorem PSs.imp {X : Cx} {e : List Stmt} {t t' : TS} (h : PSs X e t) (i : ∀ D σ H, t' D σ H → t D σ H) : PSs X e t' := ⟨fun pins s σ H D I q => h.run pins s σ H D I (i D σ H q)⟩

section
variable {K : PySem.W.Frag} {ca : Nat → Addr} {W : WX}
theorem tvO_of_tvE {m : M (D × Bool)} {σ : L2.St} {H : Hp} {Q : VK} (h : tvO K ca W (bnd m fun d => ret (.val d.1)) σ H Q) : tvE K ca W m σ H Q := by
  obtain ⟨B, M, o, τ, Fz, s, r, h⟩ := h
  exact ⟨B, M, o, τ, Fz, s, r, h.bnd_.mono (fun x s' q v H' rt => q v H' ((v, x.1) :: Fz) (fun p hp => List.mem_cons_of_mem _ hp) rt.one List.mem_cons_self) fun _ _ z => z⟩
theorem tvO_var {i : Nat} {σ : L2.St} {H : Hp} {Q : VK} (h : tvO K ca W (opV i) σ H Q) : tVar i σ H Q := by
  obtain ⟨B, M, o, τ, Fz, s, r, h⟩ := h
  unfold WPm opV at h
  cases e : lk s i with
  | none => rw [e] at h; exact h.elim
  | some x =>
    rw [e] at h
    obtain ⟨fr, d⟩ := x
    have hv : ∃ v, σ[i]? = some (some v) := by
      cases fr with
      | false => obtain ⟨v, h1, _⟩ := r.sh i d e; exact ⟨v, h1⟩
      | true => exact ⟨_, (r.ow i d e).1⟩
    obtain ⟨v, hv⟩ := hv
    exact ⟨v, hv, h v H Fz (fun p q => q) r hv⟩
theorem tvE_var {i : Nat} {σ : L2.St} {H : Hp} {Q : VK} (h : tvE K ca W (rdV i) σ H Q) : tVar i σ H Q := by
  obtain ⟨B, M, o, τ, Fz, s, r, h⟩ := h
  unfold WPm rdV at h
  cases e : lk s i with
  | none => rw [e] at h; exact h.elim
  | some x =>
    rw [e] at h
    obtain ⟨fr, d⟩ := x
    obtain ⟨v, hv, r'⟩ := r.freeze e
    exact ⟨v, hv, h v H r'⟩
theorem tvEs_cons {m : M (D × Bool)} {n : M (List (D × Bool))} {σ : L2.St} {H : Hp} {Q : List V → Hp → Prop} (h : tvEs K ca W (bnd m fun d => bnd n fun ds => ret (d :: ds)) σ H Q) : tCons (tvE K ca W m) (tvEs K ca W n) σ H Q := by
  obtain ⟨B, M, o, τ, Fz, s, r, h⟩ := h
  refine ⟨B, M, o, τ, Fz, s, r, h.bnd_.mono (fun x s' q v H' rt => ?_) fun _ _ z => z⟩
  obtain ⟨d, fr⟩ := x
  cases fr with
  | false =>
    refine ⟨B, M, o, τ, (v, d) :: Fz, s', rt, q.bnd_.mono (fun xs s2 q2 vs H2 hl rt2 => ?_) (EX.fz fun p hp => List.mem_cons_of_mem _ hp)⟩
    exact q2 (v :: vs) H2 (by simp [hl]) rt2
  | true =>
    obtain ⟨a, u, cs, rfl, hb, ht, hm, c, rt⟩ := rt
    refine ⟨upd B a u, _, o, τ, cs ++ Fz, s', rt, q.bnd_.mono (fun xs s2 q2 vs H2 hl rt2 => ?_) (EX.up (upd_up hb) (fun b z => .inl z) fun p hp => List.mem_append_right _ hp)⟩
    exact q2 (.ref a :: vs) H2 (by simp [hl]) ⟨a, u, cs, rfl, hb, ht, hm, c, rt2⟩
theorem tvEs_nil {σ : L2.St} {H : Hp} {Q : List V → Hp → Prop} (h : tvEs K ca W (ret []) σ H Q) : tNil σ H Q := by
  obtain ⟨B, M, o, τ, Fz, s, r, h⟩ := h
  exact h.ret_ [] H rfl r
theorem tvOs_cons {m : M Opd} {n : M (List Opd)} {σ : L2.St} {H : Hp} {Q : List V → Hp → Prop} (h : tvOs K ca W (bnd m fun d => bnd n fun ds => ret (d :: ds)) σ H Q) : tCons (tvO K ca W m) (tvOs K ca W n) σ H Q := by
  obtain ⟨B, M, o, τ, Fz, s, r, h⟩ := h
  refine ⟨B, M, o, τ, Fz, s, r, h.bnd_.mono (fun x s' q v H' Fz1 hF r1 o1 => ?_) fun _ _ z => z⟩
  refine ⟨B, M, o, τ, Fz1, s', r1, q.bnd_.mono (fun xs s2 q2 vs H2 Fz2 hF2 r2 o2 => ?_) (EX.fz hF)⟩
  refine q2 (v :: vs) H2 Fz2 (fun p hp => hF2 p (hF p hp)) r2 (.cons ?_ o2)
  cases x with
  | val d => exact hF2 _ o1
  | slot i => exact o1
theorem tvOs_nil {σ : L2.St} {H : Hp} {Q : List V → Hp → Prop} (h : tvOs K ca W (ret []) σ H Q) : tNil σ H Q := by
  obtain ⟨B, M, o, τ, Fz, s, r, h⟩ := h
  exact h.ret_ [] H Fz (fun p q => q) r .nil
theorem tvT_of {m : M (D × Bool)} {σ : L2.St} {H : Hp} {Q : Bool → Hp → Prop} (h : tvT K ca W (bnd m isB) σ H Q) : tB (tvE K ca W m) σ H Q := by
  obtain ⟨B, M, o, τ, Fz, s, r, h⟩ := h
  refine ⟨B, M, o, τ, Fz, s, r, h.bnd_.mono (fun x s' q v H' rt => ?_) fun _ _ z => z⟩
  obtain ⟨d, fr⟩ := x
  cases d with
  | bl b =>
    cases fr with
    | false =>
      have q1 := (rt : RelS K B M o τ ((v, D.bl b) :: Fz) σ s' H')
      have e := q1.fz (v, .bl b) List.mem_cons_self
      cases e
      exact ⟨b, rfl, (WPm.ret_ q) H' (q1.drop fun p hp => List.mem_cons_of_mem _ hp)⟩
    | true =>
      obtain ⟨a, u, cs, _, _, _, _, c, _⟩ := rt
      cases c
  | _ => exact (WPm.stk_ q)
end
end Vf
namespace Vf
open PySem PySem.Spec PyProof.Rows L2

def TopR (K : PySem.W.Frag) (P : AP) (τ : TA2) (H : Hp) (v : V) (d : D) : Prop := Rep K P τ H v d ∨ ∃ a u cs, v = .ref a ∧ H a = some u ∧ Cont u d cs ∧ RepFz K P τ H cs
section
variable {K : PySem.W.Frag} {P : AP} {τ : TA2} {H : Hp} {v : V}
theorem TopR.int {i : Int} (h : TopR K P τ H v (.int i)) : v = .int i := by
  rcases h with h | ⟨a, u, cs, _, _, c, _⟩
  · cases h; rfl
  · cases c
theorem TopR.bl {i : Bool} (h : TopR K P τ H v (.bl i)) : v = .bl i := by
  rcases h with h | ⟨a, u, cs, _, _, c, _⟩
  · cases h; rfl
  · cases c
theorem TopR.str {i : Str} (h : TopR K P τ H v (.str i)) : v = .str i := by
  rcases h with h | ⟨a, u, cs, _, _, c, _⟩
  · cases h; rfl
  · cases c
theorem TopR.non (h : TopR K P τ H v .non) : v = .non := by
  rcases h with h | ⟨a, u, cs, _, _, c, _⟩
  · cases h; rfl
  · cases c
theorem TopR.tup {ds : List D} (h : TopR K P τ H v (.tup ds)) : ∃ a xs, v = .ref a ∧ H a = some (.tup xs) ∧ RepAll K P τ H xs ds ∧ ¬ P a := by
  rcases h with h | ⟨a, u, cs, _, _, c, _⟩
  · cases h with
    | tup q r => exact ⟨_, _, rfl, q.2, r, q.1⟩
  · cases c
theorem TopR.ktup {ds : List D} (h : TopR K P τ H v (.ktup ds)) : ∃ a xs, v = .ref a ∧ KTu K a xs ∧ RepAll K P τ H xs ds := by
  rcases h with h | ⟨a, u, cs, _, _, c, _⟩
  · cases h with
    | ktup q r => exact ⟨_, _, rfl, q, r⟩
  · cases c
theorem TopR.lst {ds : List D} (h : TopR K P τ H v (.lst ds)) : ∃ a xs, v = .ref a ∧ H a = some (.lst xs) ∧ RepAll K P τ H xs ds := by
  rcases h with h | ⟨a, u, cs, rfl, hu, c, f⟩
  · cases h with
    | lst q r => exact ⟨_, _, rfl, q.2, r⟩
  · cases c with
    | lst e => exact ⟨_, _, rfl, hu, RepAll.of_fz e f⟩
theorem TopR.dK {ds : List (D × D)} (h : TopR K P τ H v (.dic false ds)) : ∃ a kvs, v = .ref a ∧ H a = some (.dK kvs) ∧ RepK K P τ H kvs ds := by
  rcases h with h | ⟨a, u, cs, rfl, hu, c, f⟩
  · cases h with
    | dK n q r => exact ⟨_, _, rfl, q, r⟩
  · cases c with
    | dK e => exact ⟨_, _, rfl, hu, repK_of e f⟩
theorem TopR.dT {ds : List (D × D)} (h : TopR K P τ H v (.dic true ds)) : ∃ a kvs, v = .ref a ∧ H a = some (.dT kvs) ∧ RepT K P τ H kvs ds := by
  rcases h with h | ⟨a, u, cs, rfl, hu, c, f⟩
  · cases h with
    | dT n q r => exact ⟨_, _, rfl, q, r⟩
  · cases c with
    | dT e => exact ⟨_, _, rfl, hu, repT_of e f⟩
theorem TopR.rep {d : D} (h : TopR K P τ H v d) (hd : ∀ ds, d ≠ .lst ds) (hk : ∀ t ds, d ≠ .dic t ds) : Rep K P τ H v d := by
  rcases h with h | ⟨a, u, cs, _, _, c, _⟩
  · exact h
  · cases c with
    | lst _ => exact absurd rfl (hd _)
    | dK _ => exact absurd rfl (hk _ _)
    | dT _ => exact absurd rfl (hk _ _)
theorem RepAll.ints : ∀ {xs : List V} {ds : List D} {ns : List Int}, RepAll K P τ H xs ds → intsD ds = some ns → xs = ns.map V.int
  | _, _, _, .nil, e => by simp [intsD] at e; subst e; rfl
  | _, _, _, .cons (v := v) (d := d) (ds := ds) h t, e => by
    cases d with
    | int i =>
      simp only [intsD] at e
      cases q : intsD ds with
      | none => rw [q] at e; simp at e
      | some r =>
        rw [q] at e
        simp at e
        subst e
        cases h
        rw [t.ints q]; rfl
    | _ => simp [intsD] at e
theorem RepAll.bls : ∀ {xs : List V} {ds : List D} {ns : List Bool}, RepAll K P τ H xs ds → blsD ds = some ns → xs = ns.map V.bl
  | _, _, _, .nil, e => by simp [blsD] at e; subst e; rfl
  | _, _, _, .cons (v := v) (d := d) (ds := ds) h t, e => by
    cases d with
    | bl i =>
      simp only [blsD] at e
      cases q : blsD ds with
      | none => rw [q] at e; simp at e
      | some r =>
        rw [q] at e
        simp at e
        subst e
        cases h
        rw [t.bls q]; rfl
    | _ => simp [blsD] at e
mutual
theorem Rep.dp : ∀ {v : V} {d : D} {n : Nat}, Rep K P τ H v d → okD n d = true → Dp K H v (pd d)
  | _, _, _, .non, _ => by rw [pd]; exact .non
  | _, _, _, .bl b, _ => by rw [pd]; exact .bl b
  | _, _, _, .int b, _ => by rw [pd]; exact .int b
  | _, _, _, .str b, _ => by rw [pd]; exact .str b
  | _, _, 0, .tup s r, e => by simp [okD] at e
  | _, _, 0, .ktup s r, e => by simp [okD] at e
  | _, _, 0, .lst s r, e => by simp [okD] at e
  | _, _, n + 1, .tup s r, e => by rw [pd]; exact .tup (.inl (.inl s.2)) (r.dp (by simpa [okD] using e))
  | _, _, n + 1, .ktup s r, e => by rw [pd]; exact .tup (.inr s) (r.dp (by simpa [okD] using e))
  | _, _, n + 1, .lst s r, e => by rw [pd]; exact .lst (.inl (.inl s.2)) (r.dp (by simpa [okD] using e))
  | _, _, _, .dK _ _ _, e => by simp [okD] at e
  | _, _, _, .dT _ _ _, e => by simp [okD] at e
  | _, _, _, .tape _, e => by simp [okD] at e
theorem RepAll.dp : ∀ {v : List V} {d : List D} {n : Nat}, RepAll K P τ H v d → okDs n d = true → DpAll K H v (pds d)
  | _, _, _, .nil, _ => by rw [pds]; exact .nil
  | _, _, _, .cons h t, e => by
    simp only [okDs, Bool.and_eq_true] at e
    rw [pds]
    exact .cons (h.dp e.1) (t.dp e.2)
end
theorem TopR.dp {d : D} {n : Nat} (h : TopR K P τ H v d) (e : okD n d = true) : Dp K H v (pd d) := by
  rcases h with h | ⟨a, u, cs, rfl, hu, c, f⟩
  · exact h.dp e
  · cases c with
    | lst el =>
      cases n with
      | zero => simp [okD] at e
      | succ n =>
        rw [pd]
        exact .lst (.inl (.inl hu)) ((RepAll.of_fz el f).dp (by simpa [okD] using e))
    | dK _ => simp [okD] at e
    | dT _ => simp [okD] at e
end
mutual
theorem okD_lay : ∀ {n : Nat} {d : D}, okD n d = true → PyData.canLay0 (pd d) = true ∧ (pd d).depth ≤ n
  | n, .non, _ => by rw [pd]; exact ⟨rfl, by simp [PyData.depth]⟩
  | n, .bl b, _ => by rw [pd]; exact ⟨rfl, by simp [PyData.depth]⟩
  | n, .int b, _ => by rw [pd]; exact ⟨rfl, by simp [PyData.depth]⟩
  | n, .str b, e => by rw [pd]; exact ⟨by simpa [okD, PyData.canLay0] using e, by simp [PyData.depth]⟩
  | 0, .tup ds, e => by simp [okD] at e
  | 0, .ktup ds, e => by simp [okD] at e
  | 0, .lst ds, e => by simp [okD] at e
  | n + 1, .tup ds, e => by
    obtain ⟨h1, h2⟩ := okDs_lay (n := n) (d := ds) (by simpa [okD] using e)
    rw [pd]; exact ⟨by simpa [PyData.canLay0] using h1, by simp [PyData.depth]; exact h2⟩
  | n + 1, .ktup ds, e => by
    obtain ⟨h1, h2⟩ := okDs_lay (n := n) (d := ds) (by simpa [okD] using e)
    rw [pd]; exact ⟨by simpa [PyData.canLay0] using h1, by simp [PyData.depth]; exact h2⟩
  | n + 1, .lst ds, e => by
    obtain ⟨h1, h2⟩ := okDs_lay (n := n) (d := ds) (by simpa [okD] using e)
    rw [pd]; exact ⟨by simpa [PyData.canLay0] using h1, by simp [PyData.depth]; exact h2⟩
  | _, .dic _ _, e => by simp [okD] at e
  | _, .tape, e => by simp [okD] at e
theorem okDs_lay : ∀ {n : Nat} {d : List D}, okDs n d = true → PyData.canLayAll0 (pds d) = true ∧ PyData.depthAll (pds d) ≤ n
  | n, [], _ => by rw [pds]; exact ⟨rfl, by simp [PyData.depthAll]⟩
  | n, d :: ds, e => by
    simp only [okDs, Bool.and_eq_true] at e
    obtain ⟨h1, h2⟩ := okD_lay e.1
    obtain ⟨h3, h4⟩ := okDs_lay e.2
    rw [pds]
    exact ⟨by simp [PyData.canLayAll0, h1, h3], by simp only [PyData.depthAll]; omega⟩
end
theorem okD_shaped {d : D} (e : okD 60 d = true) : SeqAt.shaped (pd d) = true := by
  obtain ⟨h1, h2⟩ := okD_lay e
  unfold SeqAt.shaped
  rw [h1, decide_eq_true (by omega)]; rfl

section
variable {K : PySem.W.Frag} {B : Hp} {M : AP} {o : Nat → Addr} {τ : TA2} {Fz : List (V × D)} {σ : L2.St} {s : S} {H : Hp}
theorem OpdR.top {v : V} {od : Opd} {d : D} (r : RelS K B M o τ Fz σ s H) (h : OpdR Fz σ v od) (e : od.get s = some d) : TopR K (Prt M o τ s) τ H v d := by
  cases od with
  | val d' =>
    have e' : d' = d := by simpa [Opd.get] using e
    subst e'
    exact .inl (r.fz _ h)
  | slot i =>
    simp only [Opd.get] at e
    cases q : lk s i with
    | none => rw [q] at e; simp at e
    | some x =>
      rw [q] at e
      obtain ⟨fr, d'⟩ := x
      have e' : d' = d := by simpa using e
      subst e'
      have h' : σ[i]? = some (some v) := h
      cases fr with
      | false =>
        obtain ⟨w, h1, h2⟩ := r.sh i _ q
        rw [h'] at h1
        cases h1
        exact .inl h2
      | true =>
        obtain ⟨h1, _, _, _, u, cs, h5, h6, h7⟩ := r.ow i _ q
        rw [h'] at h1
        cases h1
        exact .inr ⟨_, u, cs, rfl, h5, h6, h7⟩
theorem OpdR.tops (r : RelS K B M o τ Fz σ s H) : ∀ {vs : List V} {os : List Opd} {ds : List D}, Paired (OpdR Fz σ) vs os → getAll s os = some ds → Paired (TopR K (Prt M o τ s) τ H) vs ds
  | _, _, _, .nil, e => by simp [getAll] at e; subst e; exact .nil
  | _, _, _, .cons (l₂ := os) h t, e => by
    simp only [getAll] at e
    split at e
    · rename_i d ds h1 h2
      cases e
      exact .cons (h.top r h1) (OpdR.tops r t h2)
    · cases e
theorem RelS.tupOk (r : RelS K B M o τ Fz σ s H) {b : Addr} {xs : List V} (e : H b = some (.tup xs)) : ¬ Prt M o τ s b := by
  rintro (z | z | ⟨i, d, w, z⟩)
  · obtain ⟨u, q, h⟩ := r.mt b z
    rw [e] at q; cases q; exact h _ rfl
  · obtain ⟨⟨x, c⟩, ht, z⟩ := z
    have q := r.tp.at_
    subst ht
    cases hT : s.T with
    | none => rw [hT] at q; exact q
    | some t =>
      rw [hT] at q
      rcases z with z | z
      · rw [z, q.2.1] at e; cases e
      · rw [z, q.2.2] at e; cases e
  · obtain ⟨_, _, _, _, u, cs, h5, h6, _⟩ := r.ow i d w
    rw [z, h5] at e; cases e; cases h6
abbrev Got (K : PySem.W.Frag) (B : Hp) (M : AP) (o : Nat → Addr) (τ : TA2) (Fz : List (V × D)) (σ : L2.St) (s : S) (x : D × Bool) (Q : VK) : Prop := ∀ v H', RelT K o τ σ s H' [(v, x.1, x.2)] B M Fz → Q v H'
theorem got_rep {v : V} {d : D} {Q : VK} (r : RelS K B M o τ Fz σ s H) (h : Rep K (Prt M o τ s) τ H v d) (q : Got K B M o τ Fz σ s (d, false) Q) : Q v H := q v H (r.more1 h)
theorem got_tup {xs : List V} {ds : List D} {Q : VK} (r : RelS K B M o τ Fz σ s H) (h : RepAll K (Prt M o τ s) τ H xs ds) (q : Got K B M o τ Fz σ s (.tup ds, false) Q) : ∀ p, H p = none → Q (.ref p) (upd H p (.tup xs)) := fun p hp =>
  q (.ref p) _ (r.new hp fun P H' mo e n => .tup ⟨n, e⟩ (h.mo mo))
theorem got_lst {xs : List V} {ds : List D} {Q : VK} (r : RelS K B M o τ Fz σ s H) (h : RepAll K (Prt M o τ s) τ H xs ds) (q : Got K B M o τ Fz σ s (.lst ds, true) Q) : ∀ p, H p = none → Q (.ref p) (upd H p (.lst xs)) := fun p hp => by
  obtain ⟨f1, f2, f3, f4⟩ := r.fresh hp
  refine q (.ref p) _ ⟨p, .lst xs, _, rfl, f1, f3, f2, .lst h.len, ?_⟩
  exact (r.more h.fz).alloc hp fun _ z => by cases z
theorem got_dic {t : Bool} {Q : VK} (r : RelS K B M o τ Fz σ s H) (q : Got K B M o τ Fz σ s (.dic t [], true) Q) : ∀ p, H p = none → Q (.ref p) (upd H p (if t then .dT [] else .dK [])) := fun p hp => by
  obtain ⟨f1, f2, f3, f4⟩ := r.fresh hp
  cases t with
  | false => exact q (.ref p) _ ⟨p, .dK [], [], rfl, f1, f3, f2, Cont.dK (kvs := []) (ds := []) rfl, r.alloc hp fun _ z => by cases z⟩
  | true => exact q (.ref p) _ ⟨p, .dT [], [], rfl, f1, f3, f2, Cont.dT (kvs := []) (ds := []) rfl, r.alloc hp fun _ z => by cases z⟩
end

theorem orOp {X : Cx} {f : Value → Value → Sem Value} {r r' : R2} (h : OpR X f r) (h' : OpR X f r') : OpR X f (fun x y H Q => r x y H Q ∨ r' x y H Q) := by
  intro pins s σ H x y v u Q I rx ry q
  rcases q with q | q
  · exact h pins s σ H x y v u Q I rx ry q
  · exact h' pins s σ H x y v u Q I rx ry q
theorem orCall {X : Cx} {f : Value} {r r' : List V → Hp → VK → Prop} (h : CallR X f r) (h' : CallR X f r') : CallR X f (fun x H Q => r x H Q ∨ r' x H Q) := by
  intro pins s σ H x v Q I rx q
  rcases q with q | q
  · exact h pins s σ H x v Q I rx q
  · exact h' pins s σ H x v Q I rx q
def Serves (K : PySem.W.Frag) (p : Pr) (r : List V → Hp → VK → Prop) : Prop :=
  ∀ (B : Hp) (M : AP) (o : Nat → Addr) (τ : TA2) (Fz : List (V × D)) (σ : L2.St) (s : S) (H : Hp) (vs : List V) (ds : List D) (x : D × Bool) (Q : VK), RelS K B M o τ Fz σ s H → Paired (TopR K (Prt M o τ s) τ H) vs ds → primD p ds = some x →
    Got K B M o τ Fz σ s x Q → r vs H Q
def two (r : R2) : List V → Hp → VK → Prop := fun vs H Q => ∃ x y, vs = [x, y] ∧ r x y H Q
def one_ (r : V → Hp → VK → Prop) : List V → Hp → VK → Prop := fun vs H Q => ∃ x, vs = [x] ∧ r x H Q
def is2 : Pr → Bool
  | .bin _ => true | .cmp _ => true | .idx => true | _ => false
def is1 : Pr → Bool
  | .neg => true | .rev => true | .isN _ => true | .isB _ _ => true | .isT _ => true | _ => false
theorem serves2 {K : PySem.W.Frag} {p : Pr} {r : R2} (hp : is2 p = true)
    (h : ∀ (B : Hp) (M : AP) (o : Nat → Addr) (τ : TA2) (Fz : List (V × D)) (σ : L2.St) (s : S) (H : Hp) (v1 v2 : V) (d1 d2 : D) (x : D × Bool) (Q : VK), RelS K B M o τ Fz σ s H → TopR K (Prt M o τ s) τ H v1 d1 → TopR K (Prt M o τ s) τ H v2 d2 → primD p [d1, d2] = some x →
      Got K B M o τ Fz σ s x Q → r v1 v2 H Q) : Serves K p (two r) := by
  intro B M o τ Fz σ s H vs ds x Q rs pv e q
  cases pv with
  | nil => cases p <;> simp [primD, arg1, arg2] at e <;> simp [is2] at hp
  | cons h1 t =>
    cases t with
    | nil => cases p <;> simp [primD, arg1, arg2] at e <;> simp [is2] at hp
    | cons h2 t =>
      cases t with
      | cons _ _ => cases p <;> simp [primD, arg1, arg2] at e <;> simp [is2] at hp
      | nil => exact ⟨_, _, rfl, h B M o τ Fz σ s H _ _ _ _ x Q rs h1 h2 e q⟩
theorem serves1 {K : PySem.W.Frag} {p : Pr} {r : V → Hp → VK → Prop} (hp : is1 p = true)
    (h : ∀ (B : Hp) (M : AP) (o : Nat → Addr) (τ : TA2) (Fz : List (V × D)) (σ : L2.St) (s : S) (H : Hp) (v1 : V) (d1 : D) (x : D × Bool) (Q : VK), RelS K B M o τ Fz σ s H → TopR K (Prt M o τ s) τ H v1 d1 → primD p [d1] = some x →
      Got K B M o τ Fz σ s x Q → r v1 H Q) : Serves K p (one_ r) := by
  intro B M o τ Fz σ s H vs ds x Q rs pv e q
  cases pv with
  | nil => cases p <;> simp [primD, arg1, arg2] at e <;> simp [is1] at hp
  | cons h1 t =>
    cases t with
    | nil => exact ⟨_, rfl, h B M o τ Fz σ s H _ _ x Q rs h1 e q⟩
    | cons h2 t => cases p <;> simp [primD, arg1, arg2] at e <;> simp [is1] at hp

section
variable {X : Cx} {K : PySem.W.Frag}
theorem op_fdivZ : OpR X (binaryOp .FloorDiv) (rI (fun _ j => j ≠ 0 ∧ j.natAbs.log2 < 9000) fun i j => .int (i.fdiv j)) := opI fun i j _ _ _ _ _ hc q => floordiv_int hc.1 q (.inl (PyProof.noPylong_of_log2 hc.2))
def rAddA (K : PySem.W.Frag) : R2 := fun x y H Q => (rI0 (fun i j => .int (i + j)) x y H Q ∨ rCatA K x y H Q) ∨ rCat x y H Q
theorem op_addA : OpR X (binaryOp .Add) (rAddA X.K) := orOp (orOp op_add op_catA) op_cat
theorem serves_add : Serves K (.bin .Add) (two (rAddA K)) := by
  refine serves2 rfl ?_
  intro B M o τ Fz σ s H v1 v2 d1 d2 x Q r h1 h2 e q
  simp only [primD, arg2, binD] at e
  unfold addD at e
  split at e
  · cases e
    cases h1.int; cases h2.int
    exact .inl (.inl ⟨_, _, rfl, rfl, got_rep r (.int _) q⟩)
  · rename_i a b
    split at e
    · rename_i hf
      cases e
      have hf := of_decide_eq_true hf
      obtain ⟨a1, xs, rfl, e1, r1, n1⟩ := h1.tup
      obtain ⟨a2, ys, rfl, e2, r2, n2⟩ := h2.tup
      have l1 := r1.len
      have l2 := r2.len
      refine .inl (.inr ⟨a1, a2, xs, ys, rfl, rfl, .of e1, .of e2, by omega, fun z => ?_, fun _ z => ?_, fun _ _ => got_tup r (r1.append r2) q⟩)
      · have : a = [] := List.eq_nil_of_length_eq_zero (by rw [← l1, z]; rfl)
        subst this
        exact got_rep r (.tup ⟨n2, e2⟩ r2) q
      · have : b = [] := List.eq_nil_of_length_eq_zero (by rw [← l2, z]; rfl)
        subst this
        rw [List.append_nil] at q
        exact got_rep r (.tup ⟨n1, e1⟩ r1) q
    · cases e
  · split at e
    · rename_i hf
      cases e
      have hf := of_decide_eq_true hf
      obtain ⟨a1, xs, rfl, e1, r1⟩ := h1.lst
      obtain ⟨a2, ys, rfl, e2, r2⟩ := h2.lst
      have l1 := r1.len
      have l2 := r2.len
      exact .inr ⟨a1, a2, xs, ys, rfl, rfl, e1, e2, by omega, got_lst r (r1.append r2) q⟩
    · cases e
  · cases e
def rSubA : R2 := rI0 fun i j => .int (i - j)
theorem serves_sub : Serves K (.bin .Sub) (two rSubA) := by
  refine serves2 rfl ?_
  intro B M o τ Fz σ s H v1 v2 d1 d2 x Q r h1 h2 e q
  simp only [primD, arg2, binD] at e
  unfold subD at e
  split at e
  · cases e
    cases h1.int; cases h2.int
    exact ⟨_, _, rfl, rfl, got_rep r (.int _) q⟩
  · cases e
def rDivA : R2 := rI (fun _ j => j ≠ 0 ∧ j.natAbs.log2 < 9000) fun i j => .int (i.fdiv j)
theorem serves_div : Serves K (.bin .FloorDiv) (two rDivA) := by
  refine serves2 rfl ?_
  intro B M o τ Fz σ s H v1 v2 d1 d2 x Q r h1 h2 e q
  simp only [primD, arg2, binD] at e
  unfold divD at e
  split at e
  · split at e
    · rename_i hf
      cases e
      cases h1.int; cases h2.int
      simp only [Bool.and_eq_true, decide_eq_true_eq, small] at hf
      exact ⟨_, _, rfl, rfl, hf, got_rep r (.int _) q⟩
    · cases e
  · cases e
def rModA : R2 := rI (fun _ j => j ≠ 0) fun i j => .int (i.fmod j)
theorem serves_mod : Serves K (.bin .Mod) (two rModA) := by
  refine serves2 rfl ?_
  intro B M o τ Fz σ s H v1 v2 d1 d2 x Q r h1 h2 e q
  simp only [primD, arg2, binD] at e
  unfold modD at e
  split at e
  · split at e
    · rename_i hf
      cases e
      cases h1.int; cases h2.int
      simp only [decide_eq_true_eq] at hf
      exact ⟨_, _, rfl, rfl, hf, got_rep r (.int _) q⟩
    · cases e
  · cases e
def rEqA (K : PySem.W.Frag) : R2 := fun x y H Q => rEq x y H Q ∨ rEqD K x y H Q
def rNeA (K : PySem.W.Frag) : R2 := fun x y H Q => rNe x y H Q ∨ rNeD K x y H Q
theorem op_eqA (hu : X.A.units + 64 < cLine) : OpR X (compareOp .Eq) (rEqA X.K) := orOp op_eq (op_eqD hu)
theorem op_neA (hu : X.A.units + 64 < cLine) : OpR X (compareOp .NotEq) (rNeA X.K) := orOp op_ne (op_neD hu)
theorem eqD_cases {P : AP} {τ : TA2} {H : Hp} {v1 v2 : V} {d1 d2 : D} {b : Bool} (h1 : TopR K P τ H v1 d1) (h2 : TopR K P τ H v2 d2) (e : eqD d1 d2 = some b) :
    (scal v1 v2 = true ∧ b = decide (v1 = v2)) ∨ (okD 60 d1 = true ∧ okD 60 d2 = true ∧ b = PyData.eqv (pd d1) (pd d2)) := by
  unfold eqD at e
  split at e
  · cases h1.int; cases h2.int
    cases e
    exact .inl ⟨rfl, by simp⟩
  · cases h1.bl; cases h2.bl
    cases e
    exact .inl ⟨rfl, by simp⟩
  · cases h1.str; cases h2.str
    cases e
    exact .inl ⟨rfl, by simp⟩
  · split at e
    · rename_i hk
      cases e
      simp only [Bool.and_eq_true] at hk
      exact .inr ⟨hk.1, hk.2, rfl⟩
    · cases e
theorem serves_eq : Serves K (.cmp .Eq) (two (rEqA K)) := by
  refine serves2 rfl ?_
  intro B M o τ Fz σ s H v1 v2 d1 d2 x Q r h1 h2 e q
  simp only [primD, arg2, cmpD] at e
  cases e1 : eqD d1 d2 with
  | none => rw [e1] at e; cases e
  | some b =>
    rw [e1] at e
    cases e
    rcases eqD_cases h1 h2 e1 with ⟨g1, g2⟩ | ⟨g1, g2, g3⟩
    · exact .inl ⟨g1, by rw [← g2]; exact got_rep r (.bl _) q⟩
    · exact .inr ⟨_, _, h1.dp g1, h2.dp g2, okD_shaped g1, okD_shaped g2, by rw [← g3]; exact got_rep r (.bl _) q⟩
theorem serves_ne : Serves K (.cmp .NotEq) (two (rNeA K)) := by
  refine serves2 rfl ?_
  intro B M o τ Fz σ s H v1 v2 d1 d2 x Q r h1 h2 e q
  simp only [primD, arg2, cmpD] at e
  cases e1 : eqD d1 d2 with
  | none => rw [e1] at e; cases e
  | some b =>
    rw [e1] at e
    cases e
    rcases eqD_cases h1 h2 e1 with ⟨g1, g2⟩ | ⟨g1, g2, g3⟩
    · exact .inl ⟨g1, by rw [← g2]; exact got_rep r (.bl _) q⟩
    · exact .inr ⟨_, _, h1.dp g1, h2.dp g2, okD_shaped g1, okD_shaped g2, by rw [← g3]; exact got_rep r (.bl _) q⟩
def rLtD (K : PySem.W.Frag) : R2 := fun x y H Q => ∃ d e, Dp K H x d ∧ Dp K H y e ∧ SeqAt.shaped d = true ∧ PySem.W.alike d e = true ∧ d ≠ .none ∧ Q (.bl (PySem.W.dataLt d e)) H
theorem op_ltD (hu : X.A.units + 64 < cLine) : OpR X (compareOp .Lt) (rLtD X.K) := by
  intro ps s σ H x y v u Q I rx ry h
  obtain ⟨d, e, hd, he, sd, al, nn, q⟩ := h
  obtain ⟨as, r1⟩ := Dp.reads I d x v hd rx
  obtain ⟨bs, r2⟩ := Dp.reads I e y u he ry
  exact PySem.W.rcLt_alike d e X.A s v u as bs r1 r2 al nn (SeqAt.room_of_shaped sd hu) _ _ _ _ ⟨.bl _, H, I, rfl, q⟩
def rLtA (K : PySem.W.Frag) : R2 := fun x y H Q => (rI0 (fun i j => .bl (decide (i < j))) x y H Q ∨ rLtT K x y H Q) ∨ rLtD K x y H Q
theorem op_ltA (hu : X.A.units + 64 < cLine) : OpR X (compareOp .Lt) (rLtA X.K) := orOp (orOp op_lt (op_ltT (by omega))) (op_ltD hu)
theorem serves_lt : Serves K (.cmp .Lt) (two (rLtA K)) := by
  refine serves2 rfl ?_
  intro B M o τ Fz σ s H v1 v2 d1 d2 x Q r h1 h2 e q
  simp only [primD, arg2, cmpD] at e
  unfold ltD at e
  split at e
  · cases e
    cases h1.int; cases h2.int
    exact .inl (.inl ⟨_, _, rfl, rfl, got_rep r (.bl _) q⟩)
  · split at e
    · rename_i g1 g2
      cases e
      obtain ⟨a1, xs, rfl, e1, r1, n1⟩ := h1.tup
      obtain ⟨a2, ys, rfl, e2, r2, n2⟩ := h2.tup
      have i1 := r1.ints g1
      have i2 := r2.ints g2
      subst i1 i2
      exact .inl (.inr ⟨a1, a2, _, _, rfl, rfl, .of e1, .of e2, got_rep r (.bl _) q⟩)
    · split at e
      · rename_i hk
        cases e
        simp only [Bool.and_eq_true] at hk
        obtain ⟨⟨g1, g2⟩, g3⟩ := hk
        exact .inr ⟨_, _, h1.dp g1, h2.dp g2, okD_shaped g1, g3, (fun z => by unfold pd at z; cases z), got_rep r (.bl _) q⟩
      · cases e
  · cases e
def rCm (g : Int → Int → Bool) : R2 := rI0 fun i j => .bl (g i j)
theorem serves_le : Serves K (.cmp .LtE) (two (rCm fun i j => decide (i ≤ j))) := by
  refine serves2 rfl ?_
  intro B M o τ Fz σ s H v1 v2 d1 d2 x Q r h1 h2 e q
  simp only [primD, arg2, cmpD] at e
  unfold leD at e
  split at e
  · cases e
    cases h1.int; cases h2.int
    exact ⟨_, _, rfl, rfl, got_rep r (.bl _) q⟩
  · cases e
theorem serves_gt : Serves K (.cmp .Gt) (two (rCm fun i j => decide (j < i))) := by
  refine serves2 rfl ?_
  intro B M o τ Fz σ s H v1 v2 d1 d2 x Q r h1 h2 e q
  simp only [primD, arg2, cmpD] at e
  split at e
  · cases e
    cases h1.int; cases h2.int
    exact ⟨_, _, rfl, rfl, got_rep r (.bl _) q⟩
  · cases e
theorem serves_ge : Serves K (.cmp .GtE) (two (rCm fun i j => decide (j ≤ i))) := by
  refine serves2 rfl ?_
  intro B M o τ Fz σ s H v1 v2 d1 d2 x Q r h1 h2 e q
  simp only [primD, arg2, cmpD] at e
  split at e
  · cases e
    cases h1.int; cases h2.int
    exact ⟨_, _, rfl, rfl, got_rep r (.bl _) q⟩
  · cases e
end
end Vf
namespace Vf
open PySem PySem.Spec PyProof.Rows L2

section
variable {X : Cx} {K : PySem.W.Frag}
theorem rep_flat {α : Type} (xs : List α) : ∀ n, (List.replicate n xs).flatten.length = n * xs.length := fun n => by
  induction n with
  | zero => simp
  | succ n ih => simp [List.replicate_succ, ih, Nat.succ_mul, Nat.add_comm]
theorem RepAll.rep {P : AP} {τ : TA2} {H : Hp} {xs : List V} {ds : List D} (h : RepAll K P τ H xs ds) : ∀ n, RepAll K P τ H (List.replicate n xs).flatten (rep ds n)
  | 0 => .nil
  | n + 1 => by rw [List.replicate_succ, List.flatten_cons]; exact h.append (RepAll.rep h n)
theorem tuple_mul1 (l : Addr) (items : Array Value) (n : Nat) (sl : Array (Option Value)) (dd : Option Addr) (x : Int) (u : Tok) (c0 : (decide (x < -(2 ^ 63)) || decide (x ≥ 2 ^ 63)) = false) (c1 : (items.isEmpty || x == 1) = true) :
    Meets (Builtin.«tuple.__mul__» ⟨[.ref l, .int x u], []⟩) (fun _ R s => s.heap.get? l = some { cls := .type "tuple", dict := dd, data := .seq items n, slots := sl } ∧
      R (.ok (.ret (Value.ref l))) s) :=
  .of_wp fun prog w A R s h => by
    obtain ⟨hp, g, d, tk, os⟩ := s
    obtain ⟨hl, h⟩ := h
    have f1 := AutoSeq1.idx_int
    wp_walk using wpAny_loadPart' hl
    repeat (first
      | (refine wpAny_ite_false (decide_eq_false (by rw [c0]; exact Bool.false_ne_true)) ?_; wp_walk using wpAny_loadPart' hl)
      | (refine wpAny_ite_true (decide_eq_true c1) ?_; wp_walk using wpAny_loadPart' hl))
    exact ⟨_, rfl, h⟩
def rRepT1 (K : PySem.W.Frag) : R2 := fun x y H Q => ∃ l k xs, x = .ref l ∧ y = .int k ∧ SqT K H l xs ∧ (xs = [] ∨ k = 1) ∧ -(2 ^ 63) ≤ k ∧ k < 2 ^ 63 ∧ Q (.ref l) H
theorem op_repT1 : OpR X (binaryOp .Mult) (rRepT1 X.K) := by
  intro pins s σ H x y v u Q I rx ry h
  obtain ⟨l, k, xs, rfl, rfl, hT, hne, h1, h2, q⟩ := h
  cases rx
  obtain ⟨t, rfl⟩ := ry
  obtain ⟨its, r, ⟨⟨cls, dd, data, sl⟩, ho, hc, n, hd⟩, hs⟩ := I.tuple hT
  simp only at hc hd
  subst hc hd
  have c0 : (decide (k < -(2 ^ 63)) || decide (k ≥ 2 ^ 63)) = false := by
    rw [decide_eq_false (by omega), decide_eq_false (by omega)] <;> rfl
  have c1 : (its.toArray.isEmpty || k == 1) = true := by
    rcases hne with e | e
    · have : its = [] := List.eq_nil_of_length_eq_zero (by rw [← r.length, e]; rfl)
      subst this; rfl
    · subst e; simp
  refine wpAny_binaryOp_repeat_ref (T := "tuple") (U := "int") (by decide) ⟨_, ho, rfl⟩ (fun s' => typeIs_int s' k t) noFill_tuple_mul F.fills_int_mul F.slot_int_rmul repeat_tuple F.slot_int_index.lookup
    (call_meets F.slot_int_rmul (typeIs_int s k t) F.entry_int_rmul (F.args_int_rmul_2 _ _) (int_rmul_tuple k t l its.toArray n dd sl)
      ⟨ho, rfl, ⟨_, ho, rfl⟩, call_meets F.slot_tuple_mul ⟨_, ho, rfl⟩ F.entry_tuple_mul (F.args_tuple_mul_2 _ _) (tuple_mul1 l its.toArray n sl dd k t c0 c1) ⟨ho, ?_⟩⟩)
  exact ⟨.ref l, H, I, rfl, q⟩
def rMulA (K : PySem.W.Frag) : R2 := fun x y H Q => ((rI CMulW (fun i j => .int (i * j)) x y H Q ∨ rRep x y H Q) ∨ rRepT K x y H Q) ∨ rRepT1 K x y H Q
theorem op_mulA : OpR X (binaryOp .Mult) (rMulA X.K) := orOp (orOp (orOp op_mulW op_rep) op_repT) op_repT1
theorem rep_one {α : Type} (xs : List α) : (List.replicate 1 xs).flatten = xs := by simp
theorem rep1 (ds : List D) : rep ds 1 = ds := by simp [rep]
theorem rep_nil : ∀ n, rep [] n = []
  | 0 => rfl
  | n + 1 => by rw [rep, rep_nil n]; rfl
theorem serves_mul : Serves K (.bin .Mult) (two (rMulA K)) := by
  refine serves2 rfl ?_
  intro B M o τ Fz σ s H v1 v2 d1 d2 x Q r h1 h2 e q
  simp only [primD, arg2, binD] at e
  unfold mulD at e
  split at e
  · split at e
    · rename_i hf
      cases e
      cases h1.int; cases h2.int
      exact .inl (.inl (.inl ⟨_, _, rfl, rfl, (by simpa using hf : _ < _), got_rep r (.int _) q⟩))
    · cases e
  · split at e
    · rename_i a j hf
      cases e
      cases h2.int
      obtain ⟨a1, xs, rfl, e1, r1⟩ := h1.lst
      have l1 := r1.len
      simp only [Bool.and_eq_true, decide_eq_true_eq, fits] at hf
      exact .inl (.inl (.inr ⟨a1, j, xs, rfl, rfl, e1, by omega, by omega, by rw [l1]; exact hf.2, got_lst r (r1.rep _) q⟩))
    · cases e
  · split at e
    · rename_i a j hf
      cases e
      cases h2.int
      obtain ⟨a1, xs, rfl, e1, r1, n1⟩ := h1.tup
      have l1 := r1.len
      simp only [Bool.and_eq_true, decide_eq_true_eq] at hf
      by_cases hj : j = 1 ∨ a = []
      · refine .inr ⟨a1, j, xs, rfl, rfl, .of e1, ?_, by omega, by omega, ?_⟩
        · rcases hj with hj | hj
          · exact .inr hj
          · refine .inl (List.eq_nil_of_length_eq_zero ?_)
            rw [l1, hj]; rfl
        · have : rep a j.toNat = a := by
            rcases hj with hj | hj
            · subst hj; exact rep1 a
            · subst hj; exact rep_nil _
          rw [this] at q
          exact got_rep r (.tup ⟨n1, e1⟩ r1) q
      · refine .inl (.inr ⟨a1, j, xs, rfl, rfl, .of e1, ?_, ?_, by omega, by omega, got_tup r (r1.rep _) q⟩)
        · intro z; subst z
          exact hj (.inr (List.eq_nil_of_length_eq_zero (by rw [← l1]; rfl)))
        · have : j ≠ 1 := fun z => hj (.inl z)
          omega
    · cases e
  · cases e
theorem serves_neg : Serves K .neg (one_ (rU fun i => .int (-i))) := by
  refine serves1 rfl ?_
  intro B M o τ Fz σ s H v1 d1 x Q r h1 e q
  simp only [primD, arg1] at e
  cases d1 with
  | int i =>
    simp only [negD] at e
    cases e
    cases h1.int
    exact ⟨_, rfl, got_rep r (.int _) q⟩
  | _ => simp [negD] at e
def rIxA (K : PySem.W.Frag) : R2 := fun x y H Q => rIxL K x y H Q ∨ rIxT K x y H Q
theorem ix_A : IxR X (rIxA X.K) := ix_list.or ix_tup
theorem atI_of {ds : List D} {xs : List V} {P : AP} {τ : TA2} {H : Hp} {i : Int} {d : D} (r : RepAll K P τ H xs ds) (e : at? i ds = some d) : ∃ v, atI xs i = some v ∧ Rep K P τ H v d := by
  unfold at? atI at e
  unfold atI
  rw [r.len]
  cases q : ixN ds.length i with
  | none => rw [q] at e; cases e
  | some j =>
    rw [q] at e
    exact r.get e
theorem dput_len (t : Bool) (k : Key ⊕ List Key) (dk e : D) : ∀ ds, (dput t k dk e ds).length ≤ ds.length + 1
  | [] => by simp [dput]
  | (d, x) :: r => by
    unfold dput
    split
    · simp [drep]
    · have := dput_len t k dk e r
      simp only [List.length_cons]; omega
theorem valV_cons {κ : Type} [DecidableEq κ] {k k' : κ} {v : V} {r : List (κ × V)} : valV ((k', v) :: r) k = if k' = k then some v else valV r k := by
  unfold valV
  rw [List.find?_cons]
  by_cases h : k' = k
  · simp [h]
  · simp [h]
theorem dgetK {P : AP} {τ : TA2} {H : Hp} {k : Key} : ∀ {kvs : List (Key × V)} {ds : List (D × D)}, RepK K P τ H kvs ds →
    match dget false (.inl k) ds with
    | some d => ∃ v, valV kvs k = some v ∧ Rep K P τ H v d
    | none => valV kvs k = none
  | _, _, .nil => by simp [dget, valV]
  | _, _, .cons (k := k') (v := v) (kd := kd) (d := d) (s := s) (r := r) hk hr t => by
    have ih := dgetK (k := k) t
    rw [valV_cons]
    simp only [dget, dkey, hk, Option.map_some, Option.some.injEq, Sum.inl.injEq]
    by_cases h : k' = k
    · simp only [if_pos h]; exact ⟨v, rfl, hr⟩
    · simp only [if_neg h]; exact ih
theorem dgetT {P : AP} {τ : TA2} {H : Hp} {k : List Key} : ∀ {kvs : List (List Key × V)} {ds : List (D × D)}, RepT K P τ H kvs ds →
    match dget true (.inr k) ds with
    | some d => ∃ v, valV kvs k = some v ∧ Rep K P τ H v d
    | none => valV kvs k = none
  | _, _, .nil => by simp [dget, valV]
  | _, _, .cons (k := k') (v := v) (kd := kd) (d := d) (s := s) (r := r) hk hr t => by
    have ih := dgetT (k := k) t
    rw [valV_cons]
    simp only [dget, dkey, hk, Option.map_some, Option.some.injEq, Sum.inr.injEq]
    by_cases h : k' = k
    · simp only [if_pos h]; exact ⟨v, rfl, hr⟩
    · simp only [if_neg h]; exact ih
theorem key_val {P : AP} {τ : TA2} {H : Hp} {v : V} {d : D} {k : Key} (h : TopR K P τ H v d) (e : keyD d = some k) : v = kV k := by
  cases d with
  | int i => simp [keyD] at e; subst e; rw [h.int]; rfl
  | str i => simp [keyD] at e; subst e; rw [h.str]; rfl
  | _ => simp [keyD] at e
theorem keys_val {P : AP} {τ : TA2} {H : Hp} : ∀ {xs : List V} {ds : List D} {ks : List Key}, RepAll K P τ H xs ds → keysD ds = some ks → xs = ks.map kV
  | _, _, _, .nil, e => by simp [keysD] at e; subst e; rfl
  | _, _, _, .cons h t, e => by
    simp only [keysD] at e
    split at e
    · rename_i k ks h1 h2
      cases e
      rw [key_val (.inl h) h1, keys_val t h2]; rfl
    · cases e
theorem dget_ok {P : AP} {τ : TA2} {H : Hp} {v1 v2 : V} {t : Bool} {kvs : List (D × D)} {kd : D} {kk : Key ⊕ List Key} (h1 : TopR K P τ H v1 (.dic t kvs)) (h2 : TopR K P τ H v2 kd) (e : dkey t kd = some kk) :
    ∃ a ov, v1 = .ref a ∧ DGet H a v2 ov ∧ IsD H a ∧ match dget t kk kvs with
      | some d => ∃ v, ov = some v ∧ Rep K P τ H v d
      | none => ov = none := by
  cases t with
  | false =>
    obtain ⟨a, xs, rfl, e1, r1⟩ := h1.dK
    simp only [dkey] at e
    cases q : keyD kd with
    | none => rw [q] at e; cases e
    | some k =>
      rw [q] at e
      cases e
      have := key_val h2 q
      subst this
      exact ⟨a, _, rfl, DGet.k e1, .inl ⟨_, .of e1⟩, dgetK r1⟩
  | true =>
    obtain ⟨a, xs, rfl, e1, r1⟩ := h1.dT
    cases kd with
    | tup ds =>
      simp only [dkey] at e
      cases q : keysD ds with
      | none => rw [q] at e; cases e
      | some k =>
        rw [q] at e
        cases e
        obtain ⟨b, ys, rfl, e2, r2, _⟩ := h2.tup
        have := keys_val r2 q
        subst this
        exact ⟨a, _, rfl, DGet.t e1 e2, .inr ⟨_, .of e1⟩, dgetT r1⟩
    | _ => simp [dkey] at e
def rIxD (K : PySem.W.Frag) : R2 := fun x y H Q => rIxA K x y H Q ∨ ∃ a v, x = .ref a ∧ DGet H a y (some v) ∧ Q v H
theorem serves_idx : Serves K .idx (two (rIxD K)) := by
  refine serves2 rfl ?_
  intro B M o τ Fz σ s H v1 v2 d1 d2 x Q r h1 h2 e q
  simp only [primD, arg2] at e
  unfold idxD at e
  split at e
  · rename_i a i
    cases e1 : at? i a with
    | none => rw [e1] at e; cases e
    | some d =>
      rw [e1] at e
      cases e
      cases h2.int
      obtain ⟨a1, xs, rfl, g1, r1, n1⟩ := h1.tup
      obtain ⟨v, g2, g3⟩ := atI_of r1 e1
      exact .inl (.inr ⟨a1, xs, i, v, rfl, rfl, .of g1, g2, got_rep r g3 q⟩)
  · rename_i a i
    cases e1 : at? i a with
    | none => rw [e1] at e; cases e
    | some d =>
      rw [e1] at e
      cases e
      cases h2.int
      obtain ⟨a1, xs, rfl, g1, r1⟩ := h1.ktup
      obtain ⟨v, g2, g3⟩ := atI_of r1 e1
      exact .inl (.inr ⟨a1, xs, i, v, rfl, rfl, .inr g1, g2, got_rep r g3 q⟩)
  · rename_i a i
    cases e1 : at? i a with
    | none => rw [e1] at e; cases e
    | some d =>
      rw [e1] at e
      cases e
      cases h2.int
      obtain ⟨a1, xs, rfl, g1, r1⟩ := h1.lst
      obtain ⟨v, g2, g3⟩ := atI_of r1 e1
      exact .inl (.inl ⟨a1, xs, i, v, rfl, rfl, .of g1, g2, got_rep r g3 q⟩)
  · rename_i t kvs
    cases e1 : dkey t d2 with
    | none => rw [e1] at e; cases e
    | some kk =>
      rw [e1] at e
      simp only [Option.bind_some] at e
      obtain ⟨a, ov, rfl, g1, _, g2⟩ := dget_ok h1 h2 e1
      cases e2 : dget t kk kvs with
      | none => rw [e2] at e; cases e
      | some d =>
        rw [e2] at e g2
        cases e
        obtain ⟨v, rfl, g3⟩ := g2
        exact .inr ⟨a, v, rfl, g1, got_rep r g3 q⟩
  · cases e
def rSlice (K : PySem.W.Frag) : V → Option Int → Option Int → Hp → VK → Prop := fun x lo hi H Q => rSlA K x lo hi H Q ∨ rSlL K x lo hi H Q
theorem sl_any : SlR X (rSlice X.K) := SlR.or sl_tupA sl_list
theorem RepAll.cut {P : AP} {τ : TA2} {H : Hp} {xs : List V} {ds : List D} (h : RepAll K P τ H xs ds) (lo hi : Option Int) : RepAll K P τ H (cutV xs lo hi) (cutD lo hi ds) := by
  unfold cutV cutD cutD.cutV'
  rw [h.len]
  exact (h.drop _).take _
theorem slice_ok {B : Hp} {M : AP} {o : Nat → Addr} {τ : TA2} {Fz : List (V × D)} {σ : L2.St} {s : S} {H : Hp} {v : V} {d : D} {lo hi : Option Int} {x : D × Bool} {Q : VK} (r : RelS K B M o τ Fz σ s H) (h : TopR K (Prt M o τ s) τ H v d) (e : slD lo hi d = some x)
    (q : Got K B M o τ Fz σ s x Q) : rSlice K v lo hi H Q := by
  cases d with
  | tup ds =>
    simp only [slD] at e
    cases e
    obtain ⟨a, xs, rfl, g1, r1, n1⟩ := h.tup
    have c := r1.cut lo hi
    refine .inl ⟨a, xs, rfl, .of g1, fun w => ?_, fun _ => got_tup r c q⟩
    have : cutD lo hi ds = ds := by
      unfold cutD cutD.cutV'
      rw [← r1.len, w.1, w.2, r1.len]
      simp
    rw [this] at q
    exact got_rep r (.tup ⟨n1, g1⟩ r1) q
  | lst ds =>
    simp only [slD] at e
    cases e
    obtain ⟨a, xs, rfl, g1, r1⟩ := h.lst
    exact .inr ⟨a, xs, rfl, .of g1, got_lst r (r1.cut lo hi) q⟩
  | _ => simp [slD] at e
end
end Vf
namespace Vf
open PySem PySem.Spec PyProof.Rows L2

section
variable {X : Cx} {K : PySem.W.Frag}
theorem serves_isN (b : Bool) : Serves K (.isN b) (one_ fun x H Q => Q (.bl (decide (x = .non) == b)) H) := by
  refine serves1 rfl ?_
  intro B M o τ Fz σ s H v1 d1 x Q r h1 e q
  simp only [primD, arg1] at e
  have key : ∀ v : V, (v ≠ .non) → Got K B M o τ Fz σ s (.bl (!b), false) Q → Q (.bl (decide (v = .non) == b)) H := fun v hv q => by
    rw [decide_eq_false hv]
    have : (false == b) = !b := by cases b <;> rfl
    rw [this]
    exact got_rep r (.bl _) q
  cases d1 with
  | non =>
    simp only [isND] at e
    cases e
    cases h1.non
    have : (decide (V.non = V.non) == b) = b := by cases b <;> simp
    rw [this]
    exact got_rep r (.bl _) q
  | bl i => simp only [isND] at e; cases e; cases h1.bl; exact key _ (fun z => by cases z) q
  | int i => simp only [isND] at e; cases e; cases h1.int; exact key _ (fun z => by cases z) q
  | str i => simp only [isND] at e; cases e; cases h1.str; exact key _ (fun z => by cases z) q
  | tup ds => simp only [isND] at e; cases e; obtain ⟨a, xs, rfl, _⟩ := h1.tup; exact key _ (fun z => by cases z) q
  | ktup ds => simp only [isND] at e; cases e; obtain ⟨a, xs, rfl, _⟩ := h1.ktup; exact key _ (fun z => by cases z) q
  | lst ds => simp only [isND] at e; cases e; obtain ⟨a, xs, rfl, _⟩ := h1.lst; exact key _ (fun z => by cases z) q
  | dic t ds => simp [isND] at e
  | tape => simp [isND] at e
theorem serves_isB (b c : Bool) : Serves K (.isB b c) (one_ fun x H Q => ∃ y, x = .bl y ∧ Q (.bl ((y == b) == c)) H) := by
  refine serves1 rfl ?_
  intro B M o τ Fz σ s H v1 d1 x Q r h1 e q
  simp only [primD, arg1] at e
  cases d1 with
  | bl y =>
    simp only [isBD] at e
    cases e
    cases h1.bl
    exact ⟨y, rfl, got_rep r (.bl _) q⟩
  | _ => simp [isBD] at e
def tyName : D → Option String
  | .non => some "NoneType" | .bl _ => some "bool" | .int _ => some "int" | .str _ => some "str" | .tup _ => some "tuple" | .ktup _ => some "tuple" | .lst _ => some "list" | _ => none
theorem ty_of {P : AP} {τ : TA2} {H : Hp} {v : V} {d : D} {n : String} (h : TopR K P τ H v d) (e : tyName d = some n) : TyX K H v (.type n) := by
  cases d with
  | non => cases h.non; cases e; exact .base .non
  | bl b => cases h.bl; cases e; exact .base (.bl b)
  | int b => cases h.int; cases e; exact .base (.int b)
  | str b => cases h.str; cases e; exact .base (.str b)
  | tup ds => obtain ⟨a, xs, rfl, e1, _⟩ := h.tup; cases e; exact .base (.tup e1)
  | ktup ds => obtain ⟨a, xs, rfl, ⟨o, its, n, hk, hc, _⟩, _⟩ := h.ktup; cases e; exact .kTuple hk hc
  | lst ds => obtain ⟨a, xs, rfl, e1, _⟩ := h.lst; cases e; exact .base (.lst e1)
  | _ => cases e
theorem isT_kit {T : String} {d : D} {b : Bool} (e : isT T d = some b) : ∃ n, tyName d = some n ∧ PySem.W.kitOne K (.type n) (.type T) = some b := by
  unfold isT at e
  split at e <;> first
    | (cases e; exact ⟨_, rfl, by first | rfl | decide +kernel⟩)
    | cases e
theorem serves_isT (T : String) : Serves K (.isT T) (one_ fun x H Q => rIsi K [x, .ty T] H Q) := by
  refine serves1 rfl ?_
  intro B M o τ Fz σ s H v1 d1 x Q r h1 e q
  simp only [primD, arg1] at e
  cases e1 : isT T d1 with
  | none => rw [e1] at e; cases e
  | some b =>
    rw [e1] at e
    cases e
    obtain ⟨n, g1, g2⟩ := isT_kit (K := K) e1
    exact ⟨v1, .ty T, .type n, .type T, b, rfl, .ty T, ty_of h1 g1, g2, got_rep r (.bl _) q⟩
theorem serves1B {id : String} {f : D → Option (D × Bool)} {r : List V → Hp → VK → Prop} (hf : ∀ ds, bltD id ds = arg1 f ds)
    (h : ∀ (B : Hp) (M : AP) (o : Nat → Addr) (τ : TA2) (Fz : List (V × D)) (σ : L2.St) (s : S) (H : Hp) (v1 : V) (d1 : D) (x : D × Bool) (Q : VK), RelS K B M o τ Fz σ s H → TopR K (Prt M o τ s) τ H v1 d1 → f d1 = some x →
      Got K B M o τ Fz σ s x Q → r [v1] H Q) : Serves K (.blt id) r := by
  intro B M o τ Fz σ s H vs ds x Q rs pv e q
  have e' : bltD id ds = some x := e
  rw [hf] at e'
  cases pv with
  | nil => cases e'
  | cons h1 t =>
    cases t with
    | nil => exact h B M o τ Fz σ s H _ _ x Q rs h1 e' q
    | cons _ _ => cases e'
def rLenA (K : PySem.W.Frag) : List V → Hp → VK → Prop := fun xs H Q => (∃ p ys, xs = [.ref p] ∧ (SqL K H p ys ∨ SqT K H p ys) ∧ Q (.int ys.length) H) ∨ rLenT xs H Q
theorem call_lenA : CallR X (.builtin "len") (rLenA X.K) := orCall call_len_seq call_len_dT
theorem serves_len : Serves K (.blt "len") (rLenA K) := by
  refine serves1B (f := lenD) (fun ds => rfl) ?_
  intro B M o τ Fz σ s H v1 d1 x Q r h1 e q
  unfold lenD at e
  split at e
  · cases e
    obtain ⟨a, xs, rfl, g1, r1, n1⟩ := h1.tup
    exact .inl ⟨a, xs, rfl, .inr (.of g1), by rw [r1.len]; exact got_rep r (.int _) q⟩
  · cases e
    obtain ⟨a, xs, rfl, g1, r1⟩ := h1.ktup
    exact .inl ⟨a, xs, rfl, .inr (.inr g1), by rw [r1.len]; exact got_rep r (.int _) q⟩
  · cases e
    obtain ⟨a, xs, rfl, g1, r1⟩ := h1.lst
    exact .inl ⟨a, xs, rfl, .inl (.of g1), by rw [r1.len]; exact got_rep r (.int _) q⟩
  · cases e
    obtain ⟨a, xs, rfl, g1, r1⟩ := h1.dT
    have := r1.vals.len
    simp only [List.length_map] at this
    exact .inr ⟨a, xs, rfl, g1, by rw [this]; exact got_rep r (.int _) q⟩
  · cases e
theorem serves_abs : Serves K (.blt "abs") (fun xs H Q => ∃ i, xs = [.int i] ∧ Q (.int (if i < 0 then -i else i)) H) := by
  refine serves1B (f := absD) (fun ds => rfl) ?_
  intro B M o τ Fz σ s H v1 d1 x Q r h1 e q
  unfold absD at e
  split at e
  · cases e
    cases h1.int
    exact ⟨_, rfl, got_rep r (.int _) q⟩
  · cases e
theorem serves_int : Serves K (.blt "int") (fun xs H Q => (∃ i, xs = [.int i] ∧ Q (.int i) H) ∨ ∃ k, xs = [.bl k] ∧ Q (.int (if k then 1 else 0)) H) := by
  refine serves1B (f := intD) (fun ds => rfl) ?_
  intro B M o τ Fz σ s H v1 d1 x Q r h1 e q
  unfold intD at e
  split at e
  · cases e
    cases h1.int
    exact .inl ⟨_, rfl, got_rep r (.int _) q⟩
  · cases e
theorem serves_tuple : Serves K (.blt "tuple") (fun xs H Q => ∃ p ys, xs = [.ref p] ∧ ((SqL K H p ys ∧ ∀ l, H l = none → Q (.ref l) (upd H l (.tup ys))) ∨ (SqT K H p ys ∧ Q (.ref p) H))) := by
  refine serves1B (f := tupleD) (fun ds => rfl) ?_
  intro B M o τ Fz σ s H v1 d1 x Q r h1 e q
  unfold tupleD at e
  split at e
  · cases e
    obtain ⟨a, xs, rfl, g1, r1, n1⟩ := h1.tup
    exact ⟨a, xs, rfl, .inr ⟨.of g1, got_rep r (.tup ⟨n1, g1⟩ r1) q⟩⟩
  · cases e
    obtain ⟨a, xs, rfl, g1, r1⟩ := h1.ktup
    exact ⟨a, xs, rfl, .inr ⟨.inr g1, got_rep r (.ktup g1 r1) q⟩⟩
  · cases e
    obtain ⟨a, xs, rfl, g1, r1⟩ := h1.lst
    exact ⟨a, xs, rfl, .inl ⟨.of g1, got_tup r r1 q⟩⟩
  · cases e
def rListA (K : PySem.W.Frag) : List V → Hp → VK → Prop := fun xs H Q => (∃ p ys, xs = [.ref p] ∧ (SqL K H p ys ∨ SqT K H p ys) ∧ ∀ l, H l = none → Q (.ref l) (upd H l (.lst ys))) ∨
  ∃ d kvs, xs = [V.ref d] ∧ Rd H d (.dT kvs) ∧ ∀ p bs, H p = none → IsKeys H kvs bs → Q (.ref p) (upd H p (.lst (bs.map V.ref)))
theorem call_listA (hc : X.calm = true) : CallR X (.type "list") (rListA X.K) := orCall call_list_of (call_list_dT hc)
theorem keyD_kV {P : AP} {τ : TA2} {H : Hp} {d : D} {k : Key} (e : keyD d = some k) : Rep K P τ H (kV k) d := by
  cases d with
  | int i => simp [keyD] at e; subst e; exact .int i
  | str i => simp [keyD] at e; subst e; exact .str i
  | _ => simp [keyD] at e
theorem keysD_kV {P : AP} {τ : TA2} {H : Hp} : ∀ {ds : List D} {ks : List Key}, keysD ds = some ks → RepAll K P τ H (ks.map kV) ds
  | [], _, e => by simp [keysD] at e; subst e; exact .nil
  | d :: ds, _, e => by
    simp only [keysD] at e
    split at e
    · rename_i k ks h1 h2
      cases e
      exact .cons (keyD_kV h1) (keysD_kV h2)
    · cases e
theorem isKeys_rep {P : AP} {τ : TA2} {H : Hp} (ht : ∀ b xs, H b = some (.tup xs) → ¬ P b) : ∀ {kvs : List (List Key × V)} {bs : List Addr} {ds : List (D × D)}, IsKeys H kvs bs → RepT K P τ H kvs ds → RepAll K P τ H (bs.map V.ref) (ds.map (·.1))
  | _, _, _, .nil, .nil => .nil
  | _, _, _, .cons h t, .cons hk _ q => .cons (.tup ⟨ht _ _ h, h⟩ (keysD_kV hk)) (isKeys_rep ht t q)
theorem serves_list : Serves K (.blt "list") (rListA K) := by
  refine serves1B (f := listD) (fun ds => rfl) ?_
  intro B M o τ Fz σ s H v1 d1 x Q r h1 e q
  unfold listD at e
  split at e
  · cases e
    obtain ⟨a, xs, rfl, g1, r1, n1⟩ := h1.tup
    exact .inl ⟨a, xs, rfl, .inr (.of g1), got_lst r r1 q⟩
  · cases e
    obtain ⟨a, xs, rfl, g1, r1⟩ := h1.ktup
    exact .inl ⟨a, xs, rfl, .inr (.inr g1), got_lst r r1 q⟩
  · cases e
    obtain ⟨a, xs, rfl, g1, r1⟩ := h1.lst
    exact .inl ⟨a, xs, rfl, .inl (.of g1), got_lst r r1 q⟩
  · cases e
    obtain ⟨a, xs, rfl, g1, r1⟩ := h1.dT
    exact .inr ⟨a, xs, rfl, .of g1, fun p bs hp hk => got_lst r (isKeys_rep (fun b xs e => r.tupOk e) hk r1) q p hp⟩
  · cases e
theorem serves_all : Serves K (.blt "all") (rAll K) := by
  refine serves1B (f := allD) (fun ds => rfl) ?_
  intro B M o τ Fz σ s H v1 d1 x Q r h1 e q
  unfold allD at e
  split at e
  · rename_i a
    cases e1 : blsD a with
    | none => rw [e1] at e; cases e
    | some bs =>
      rw [e1] at e
      cases e
      obtain ⟨a, xs, rfl, g1, r1⟩ := h1.lst
      have := r1.bls e1
      subst this
      exact ⟨a, bs, rfl, .of g1, got_rep r (.bl _) q⟩
  · cases e
theorem serves_any : Serves K (.blt "any") (rAny K) := by
  refine serves1B (f := anyD) (fun ds => rfl) ?_
  intro B M o τ Fz σ s H v1 d1 x Q r h1 e q
  unfold anyD at e
  split at e
  · rename_i a
    cases e1 : blsD a with
    | none => rw [e1] at e; cases e
    | some bs =>
      rw [e1] at e
      cases e
      obtain ⟨a, xs, rfl, g1, r1⟩ := h1.lst
      have := r1.bls e1
      subst this
      exact ⟨a, bs, rfl, .of g1, got_rep r (.bl _) q⟩
  · cases e
end
end Vf
namespace Vf
open PySem PySem.Spec PyProof.Rows L2

def caK (K : PySem.W.Frag) (C : Cn) (c : Nat) : Addr := He.ga K (C.cls.getD c "")
section
variable {K : PySem.W.Frag} {ca : Nat → Addr} {W : WX}
theorem tvE.mono {m : M (D × Bool)} {σ : L2.St} {H : Hp} {Q Q' : VK} (h : tvE K ca W m σ H Q) (i : ∀ v H', Q v H' → Q' v H') : tvE K ca W m σ H Q' := by
  obtain ⟨B, M, o, τ, Fz, s, r, h⟩ := h
  exact ⟨B, M, o, τ, Fz, s, r, h.mono (fun x s' q v H' rt => i v H' (q v H' rt)) fun _ _ z => z⟩
theorem tvO.mono {m : M Opd} {σ : L2.St} {H : Hp} {Q Q' : VK} (h : tvO K ca W m σ H Q) (i : ∀ v H', Q v H' → Q' v H') : tvO K ca W m σ H Q' := by
  obtain ⟨B, M, o, τ, Fz, s, r, h⟩ := h
  exact ⟨B, M, o, τ, Fz, s, r, h.mono (fun x s' q v H' Fz' a b c => i v H' (q v H' Fz' a b c)) fun _ _ z => z⟩
theorem tvT.mono {m : M Bool} {σ : L2.St} {H : Hp} {Q Q' : Bool → Hp → Prop} (h : tvT K ca W m σ H Q) (i : ∀ v H', Q v H' → Q' v H') : tvT K ca W m σ H Q' := by
  obtain ⟨B, M, o, τ, Fz, s, r, h⟩ := h
  exact ⟨B, M, o, τ, Fz, s, r, h.mono (fun x s' q H' a => i x H' (q H' a)) fun _ _ z => z⟩
theorem tvE_cst {v : V} {d : D} (hr : ∀ P τ H, Rep K P τ H v d) {σ : L2.St} {H : Hp} {Q : VK} (h : tvE K ca W (ret (d, false)) σ H Q) : tC v σ H Q := by
  obtain ⟨B, M, o, τ, Fz, s, r, h⟩ := h
  exact h.ret_ v H (r.more1 (hr _ _ _))
theorem prim_imp {F : FT} {p : Pr} {es : Exs} {r : List V → Hp → VK → Prop} (sv : Serves K p r) {σ : L2.St} {H : Hp} {Q : VK} (h : tvE K ca W (evE F (.prim p es)) σ H Q) : tvOs K ca W (evO F es) σ H fun vs H1 => r vs H1 Q := by
  obtain ⟨B, M, o, τ, Fz, s, rs, h⟩ := h
  unfold evE at h
  refine ⟨B, M, o, τ, Fz, s, rs, h.bnd_.mono (fun os s' q vs H' Fz' hF r' po => ?_) fun _ _ z => z⟩
  unfold WPm at q
  cases e1 : getAll s' os with
  | none => simp only [e1] at q
  | some ds =>
    simp only [e1] at q
    cases e2 : primD p ds with
    | none => simp only [e2] at q
    | some x =>
      simp only [e2] at q
      refine sv B M o τ Fz' σ s' H' vs ds x Q r' (OpdR.tops r' po e1) e2 fun v H2 rt => q v H2 ?_
      obtain ⟨d, fr⟩ := x
      cases fr with
      | false =>
        have rt' : RelS K B M o τ ((v, d) :: Fz') σ s' H2 := rt
        have g : RelS K B M o τ ((v, d) :: Fz) σ s' H2 := rt'.drop fun p0 hp => (List.mem_cons.mp hp).elim (fun z => z ▸ List.mem_cons_self) fun z => List.mem_cons_of_mem _ (hF p0 z)
        exact g
      | true =>
        obtain ⟨a, u, cs, e, hb, ht, hm, c, rt⟩ := rt
        have rt' : RelS K (upd B a u) (fun b => M b ∨ b = a) o τ (cs ++ Fz') σ s' H2 := rt
        exact ⟨a, u, cs, e, hb, ht, hm, c, rt'.drop fun p0 hp => (List.mem_append.mp hp).elim (fun z => List.mem_append_left _ z) fun z => List.mem_append_right _ (hF p0 z)⟩
theorem two_eq {r : R2} {x y : V} {H : Hp} {Q : VK} : two r [x, y] H Q = r x y H Q := propext ⟨fun ⟨_, _, e, h⟩ => by cases e; exact h, fun h => ⟨_, _, rfl, h⟩⟩
theorem one_eq {r : V → Hp → VK → Prop} {x : V} {H : Hp} {Q : VK} : one_ r [x] H Q = r x H Q := propext ⟨fun ⟨_, e, h⟩ => by cases e; exact h, fun h => ⟨_, rfl, h⟩⟩
theorem evO_2 {F : FT} {a b : Ex} {σ : L2.St} {H : Hp} {r : R2} {Q : VK} (h : tvOs K ca W (evO F (.cons a (.cons b .nil))) σ H fun vs H1 => two r vs H1 Q) : tOp r (tvO K ca W (evOp F a)) (tvO K ca W (evOp F b)) σ H Q := by
  rw [evO_cons] at h
  refine tvO.mono (tvOs_cons h) fun x H1 h => ?_
  rw [evO_cons] at h
  refine tvO.mono (tvOs_cons h) fun y H2 h => ?_
  have := tvOs_nil (K := K) (ca := ca) (W := W) (by simpa only [evO] using h)
  have h' : two r [x, y] H2 Q := this
  rw [two_eq] at h'
  exact h'
theorem evO_1 {F : FT} {a : Ex} {σ : L2.St} {H : Hp} {r : V → Hp → VK → Prop} {Q : VK} (h : tvOs K ca W (evO F (.cons a .nil)) σ H fun vs H1 => one_ r vs H1 Q) : tUn r (tvO K ca W (evOp F a)) σ H Q := by
  rw [evO_cons] at h
  refine tvO.mono (tvOs_cons h) fun x H1 h => ?_
  have := tvOs_nil (K := K) (ca := ca) (W := W) (by simpa only [evO] using h)
  have h' : one_ r [x] H1 Q := this
  rw [one_eq] at h'
  exact h'
end
def nst : Expr → Bool
  | .Starred .. => false
  | _ => true
theorem star_cons {e : Expr} {es : List Expr} {env : Env} (h : nst e = true) : starEach (e :: es) env = (false, eval e env) :: starEach es env := by
  cases e <;> first | rfl | cases h
def nstAll (es : List Expr) : Bool := es.all nst
theorem star_any : ∀ {es : List Expr} {env : Env} {pos : Pos}, nstAll es = true → (backTo pos (starEach es env)).any (·.1) = false
  | [], _, _, _ => rfl
  | e :: es, env, pos, h => by
    unfold nstAll at h
    simp only [List.all_cons, Bool.and_eq_true] at h
    rw [star_cons h.1]
    have ih := star_any (es := es) (env := env) (pos := pos) h.2
    unfold backTo at ih ⊢
    simp only [List.map_cons, List.any_cons, Bool.false_or]
    exact ih
section
variable {X : Cx} {ca : Nat → Addr} {W : WX} {F : FT}
abbrev JE (X : Cx) (ca : Nat → Addr) (W : WX) (a : Expr) (m : M (D × Bool)) : Prop := PE X a (tvE X.K ca W m)
abbrev JO (X : Cx) (ca : Nat → Addr) (W : WX) (a : Expr) (m : M Opd) : Prop := PE X a (tvO X.K ca W m)
abbrev JT (X : Cx) (ca : Nat → Addr) (W : WX) (a : Expr) (m : M Bool) : Prop := PT X a (tvT X.K ca W m)
abbrev JA (X : Cx) (ca : Nat → Addr) (W : WX) (as : List Expr) (m : M (List (D × Bool))) : Prop := PA X as (tvEs X.K ca W m)
abbrev JOs (X : Cx) (ca : Nat → Addr) (W : WX) (as : List Expr) (m : M (List Opd)) : Prop := PA X as (tvOs X.K ca W m)
theorem jo_of {a : Expr} {e : Ex} (h : JE X ca W a (evE F e)) (hv : ∀ i, e ≠ .var i) : JO X ca W a (evOp F e) := by
  refine PE.imp h fun σ H Q q => tvO_of_tvE ?_
  cases e with
  | var i => exact absurd rfl (hv i)
  | _ => exact q
theorem ja_nil : JA X ca W [] (evEs F .nil) := PA.imp pa_nil fun σ H Q q => tvEs_nil (by simpa only [evEs] using q)
theorem ja_cons {a : Expr} {as : List Expr} {e : Ex} {es : Exs} (h : JE X ca W a (evE F e)) (t : JA X ca W as (evEs F es)) (n : nst a = true) : JA X ca W (a :: as) (evEs F (.cons e es)) :=
  PA.imp (pa_cons h t (star_cons n)) fun σ H Q q => tvEs_cons (by simpa only [evEs] using q)
theorem jos_nil : JOs X ca W [] (evO F .nil) := PA.imp pa_nil fun σ H Q q => tvOs_nil (by simpa only [evO] using q)
theorem jos_cons {a : Expr} {as : List Expr} {e : Ex} {es : Exs} (h : JO X ca W a (evOp F e)) (t : JOs X ca W as (evO F es)) (n : nst a = true) : JOs X ca W (a :: as) (evO F (.cons e es)) :=
  PA.imp (pa_cons h t (star_cons n)) fun σ H Q q => tvOs_cons (by rw [← evO_cons]; exact q)
theorem je_bin {op : Operator} {r : R2} {a b : Expr} {e1 e2 : Ex} {pos : Pos} (ho : OpR X (binaryOp op) r) (sv : Serves X.K (.bin op) (two r)) (ha : JO X ca W a (evOp F e1)) (hb : JO X ca W b (evOp F e2)) :
    JE X ca W (.BinOp a op b pos) (evE F (.prim (.bin op) (.cons e1 (.cons e2 .nil)))) := PE.imp (pe_op ho ha hb) fun σ H Q h => evO_2 (prim_imp sv h)
theorem je_cmp {op : CmpOp} {r : R2} {a b : Expr} {e1 e2 : Ex} {pos : Pos} (ho : OpR X (compareOp op) r) (sv : Serves X.K (.cmp op) (two r)) (ha : JO X ca W a (evOp F e1)) (hb : JO X ca W b (evOp F e2)) (hm : behindInMarks op b = false) :
    JE X ca W (.Compare a [op] [b] pos) (evE F (.prim (.cmp op) (.cons e1 (.cons e2 .nil)))) := PE.imp (pe_cmpR ho ha hb hm) fun σ H Q h => evO_2 (prim_imp sv h)
theorem jt_cmp {op : CmpOp} {r : R2} {a b : Expr} {e1 e2 : Ex} {pos : Pos} (ho : OpR X (compareOp op) r) (sv : Serves X.K (.cmp op) (two r)) (ha : JO X ca W a (evOp F e1)) (hb : JO X ca W b (evOp F e2)) (hm : behindInMarks op b = false) :
    JT X ca W (.Compare a [op] [b] pos) (bnd (evE F (.prim (.cmp op) (.cons e1 (.cons e2 .nil)))) isB) := PT.imp (pt_cmpR ho ha hb hm) fun σ H Q h => evO_2 (prim_imp sv (tvT_of h))
theorem je_idx {r : R2} {a b : Expr} {e1 e2 : Ex} {pos : Pos} (ho : IxR X r) (sv : Serves X.K .idx (two r)) (ha : JO X ca W a (evOp F e1)) (hb : JO X ca W b (evOp F e2)) (hs : PlainIx b) :
    JE X ca W (.Subscript a b pos) (evE F (.prim .idx (.cons e1 (.cons e2 .nil)))) := PE.imp (pe_ix ho ha hb hs) fun σ H Q h => evO_2 (prim_imp sv h)
theorem je_neg {a : Expr} {e1 : Ex} {pos : Pos} (ha : JO X ca W a (evOp F e1)) : JE X ca W (.UnaryOp .USub a pos) (evE F (.prim .neg (.cons e1 .nil))) := PE.imp (pe_un un_neg ha) fun σ H Q h => evO_1 (prim_imp serves_neg h)
theorem je_isN {a : Expr} {e1 : Ex} {pos p2 : Pos} {k : Nat} (b : Bool) (ha : JO X ca W a (evOp F e1)) : JE X ca W (.Compare a [if b then .Is else .IsNot] [.Constant .none k p2] pos) (evE F (.prim (.isN b) (.cons e1 .nil))) := by
  cases b with
  | true =>
    refine PE.imp (pe_cmpR op_isN ha pe_non rfl) fun σ H Q h => tvO.mono (evO_1 (prim_imp (serves_isN true) h)) fun x H1 q => ⟨rfl, ?_⟩
    simpa using q
  | false =>
    refine PE.imp (pe_cmpR op_notN ha pe_non rfl) fun σ H Q h => tvO.mono (evO_1 (prim_imp (serves_isN false) h)) fun x H1 q => ⟨rfl, ?_⟩
    have e : (decide (x = V.non) == false) = !decide (x = V.non) := by cases decide (x = V.non) <;> rfl
    rw [e] at q
    exact q
theorem jt_isN {a : Expr} {e1 : Ex} {pos p2 : Pos} {k : Nat} (b : Bool) (ha : JO X ca W a (evOp F e1)) : JT X ca W (.Compare a [if b then .Is else .IsNot] [.Constant .none k p2] pos) (bnd (evE F (.prim (.isN b) (.cons e1 .nil))) isB) := by
  cases b with
  | true =>
    refine PT.imp (pt_cmpR op_isN ha pe_non rfl) fun σ H Q h => tvO.mono (evO_1 (prim_imp (serves_isN true) (tvT_of h))) fun x H1 q => ⟨rfl, ?_⟩
    simpa using q
  | false =>
    refine PT.imp (pt_cmpR op_notN ha pe_non rfl) fun σ H Q h => tvO.mono (evO_1 (prim_imp (serves_isN false) (tvT_of h))) fun x H1 q => ⟨rfl, ?_⟩
    have e : (decide (x = V.non) == false) = !decide (x = V.non) := by cases decide (x = V.non) <;> rfl
    rw [e] at q
    exact q
theorem je_isB {a : Expr} {e1 : Ex} {pos p2 : Pos} {k : Nat} (b c : Bool) (ha : JO X ca W a (evOp F e1)) : JE X ca W (.Compare a [if c then .Is else .IsNot] [.Constant (.bool b) k p2] pos) (evE F (.prim (.isB b c) (.cons e1 .nil))) := by
  have key : ∀ y : Bool, ((y == b) == true) = decide (y = b) := fun y => by cases y <;> cases b <;> rfl
  have key2 : ∀ y : Bool, ((y == b) == false) = !decide (y = b) := fun y => by cases y <;> cases b <;> rfl
  cases c with
  | true => exact PE.imp (pe_cmpR op_isBl ha pe_bl rfl) fun σ H Q h => tvO.mono (evO_1 (prim_imp (serves_isB b true) h)) fun x H1 ⟨y, e, q⟩ => ⟨y, b, e, rfl, by rw [← key]; exact q⟩
  | false => exact PE.imp (pe_cmpR op_notBl ha pe_bl rfl) fun σ H Q h => tvO.mono (evO_1 (prim_imp (serves_isB b false) h)) fun x H1 ⟨y, e, q⟩ => ⟨y, b, e, rfl, by rw [← key2]; exact q⟩
theorem jt_isB {a : Expr} {e1 : Ex} {pos p2 : Pos} {k : Nat} (b c : Bool) (ha : JO X ca W a (evOp F e1)) : JT X ca W (.Compare a [if c then .Is else .IsNot] [.Constant (.bool b) k p2] pos) (bnd (evE F (.prim (.isB b c) (.cons e1 .nil))) isB) := by
  have key : ∀ y : Bool, ((y == b) == true) = decide (y = b) := fun y => by cases y <;> cases b <;> rfl
  have key2 : ∀ y : Bool, ((y == b) == false) = !decide (y = b) := fun y => by cases y <;> cases b <;> rfl
  cases c with
  | true => exact PT.imp (pt_cmpR op_isBl ha pe_bl rfl) fun σ H Q h => tvO.mono (evO_1 (prim_imp (serves_isB b true) (tvT_of h))) fun x H1 ⟨y, e, q⟩ => ⟨y, b, e, rfl, by rw [← key]; exact q⟩
  | false => exact PT.imp (pt_cmpR op_notBl ha pe_bl rfl) fun σ H Q h => tvO.mono (evO_1 (prim_imp (serves_isB b false) (tvT_of h))) fun x H1 ⟨y, e, q⟩ => ⟨y, b, e, rfl, by rw [← key2]; exact q⟩
theorem je_not {a : Expr} {e : Ex} {pos : Pos} (h : JE X ca W a (evE F e)) : JE X ca W (.UnaryOp .Not a pos) (evE F (.not e)) := by
  refine PE.imp (pe_not h) fun σ H Q q => ?_
  obtain ⟨B, M, o, τ, Fz, s, r, q⟩ := q
  unfold evE at q
  have q1 := tvT_of (K := X.K) (ca := ca) (W := W) (σ := σ) (H := H) (Q := fun c H' => Q (.bl (!c)) H') ⟨B, M, o, τ, Fz, s, r, q.bnd_.mono (fun c s' z H' r' => z.ret_ _ H' (r'.more1 (.bl _))) fun _ _ z => z⟩
  exact q1
theorem jt_not {a : Expr} {m : M Bool} {pos : Pos} (h : JT X ca W a m) : JT X ca W (.UnaryOp .Not a pos) (bnd (bnd m fun b => ret (.bl (!b), false)) isB) := by
  refine PT.imp (pt_not h) fun σ H Q q => ?_
  obtain ⟨B, M, o, τ, Fz, s, r, q⟩ := q
  exact ⟨B, M, o, τ, Fz, s, r, (q.bnd_).bnd_.mono (fun c s' z H' r' => by
    have z1 := z.ret_
    exact WPm.ret_ (ok := fun b s' => ∀ H', RelS X.K B M o τ Fz σ s' H' → Q b H') z1 H' r') fun _ _ z => z⟩
theorem je_and {a b : Expr} {rest : List Expr} {e f : Ex} {pos : Pos} (ha : JE X ca W a (evE F e)) (hb : JE X ca W (.BoolOp .And (b :: rest) pos) (evE F f)) : JE X ca W (.BoolOp .And (a :: b :: rest) pos) (evE F (.and e f)) := by
  refine PE.imp (pe_and ha hb) fun σ H Q q => ?_
  obtain ⟨B, M, o, τ, Fz, s, r, q⟩ := q
  unfold evE at q
  refine tvT_of (K := X.K) (ca := ca) (W := W) (Q := fun c H1 => if c = true then tvE X.K ca W (evE F f) σ H1 Q else Q (.bl false) H1) ⟨B, M, o, τ, Fz, s, r, q.bnd_.mono (fun c s' z H' r' => ?_) fun _ _ z => z⟩
  cases c with
  | true => exact ⟨B, M, o, τ, Fz, s', r', z⟩
  | false => exact z.ret_ _ H' (r'.more1 (.bl _))
theorem je_or {a b : Expr} {rest : List Expr} {e f : Ex} {pos : Pos} (ha : JE X ca W a (evE F e)) (hb : JE X ca W (.BoolOp .Or (b :: rest) pos) (evE F f)) : JE X ca W (.BoolOp .Or (a :: b :: rest) pos) (evE F (.or e f)) := by
  refine PE.imp (pe_or ha hb) fun σ H Q q => ?_
  obtain ⟨B, M, o, τ, Fz, s, r, q⟩ := q
  unfold evE at q
  refine tvT_of (K := X.K) (ca := ca) (W := W) (Q := fun c H1 => if c = true then Q (.bl true) H1 else tvE X.K ca W (evE F f) σ H1 Q) ⟨B, M, o, τ, Fz, s, r, q.bnd_.mono (fun c s' z H' r' => ?_) fun _ _ z => z⟩
  cases c with
  | false => exact ⟨B, M, o, τ, Fz, s', r', z⟩
  | true => exact z.ret_ _ H' (r'.more1 (.bl _))
theorem wpm_assoc {α β γ : Type} {m : M α} {f : α → M β} {g : β → M γ} : bnd (bnd m f) g = bnd m fun a => bnd (f a) g := by
  funext s
  unfold bnd
  cases m s <;> rfl
theorem pw_and' {a b : Expr} {rest : List Expr} {e f : Ex} {pos : Pos} (ha : JT X ca W a (bnd (evE F e) isB)) (hb : PW X (.BoolOp .And (b :: rest) pos) (tvT X.K ca W (bnd (evE F f) isB))) : PW X (.BoolOp .And (a :: b :: rest) pos) (tvT X.K ca W (bnd (evE F (.and e f)) isB)) := by
  refine ⟨fun whole pins s σ H Q I q => (pw_and ha hb).run whole pins s σ H Q I ?_⟩
  obtain ⟨B, M, o, τ, Fz, s, r, q⟩ := q
  unfold evE at q
  rw [wpm_assoc] at q
  refine ⟨B, M, o, τ, Fz, s, r, q.bnd_.mono (fun c s' z H' r' => ?_) fun _ _ z => z⟩
  cases c with
  | true => exact ⟨B, M, o, τ, Fz, s', r', z⟩
  | false => exact WPm.ret_ (ok := fun b s' => ∀ H', RelS X.K B M o τ Fz σ s' H' → Q b H') (z.bnd_.ret_) H' r'
theorem pw_or' {a b : Expr} {rest : List Expr} {e f : Ex} {pos : Pos} (ha : JT X ca W a (bnd (evE F e) isB)) (hb : PW X (.BoolOp .Or (b :: rest) pos) (tvT X.K ca W (bnd (evE F f) isB))) : PW X (.BoolOp .Or (a :: b :: rest) pos) (tvT X.K ca W (bnd (evE F (.or e f)) isB)) := by
  refine ⟨fun whole pins s σ H Q I q => (pw_or ha hb).run whole pins s σ H Q I ?_⟩
  obtain ⟨B, M, o, τ, Fz, s, r, q⟩ := q
  unfold evE at q
  rw [wpm_assoc] at q
  refine ⟨B, M, o, τ, Fz, s, r, q.bnd_.mono (fun c s' z H' r' => ?_) fun _ _ z => z⟩
  cases c with
  | false => exact ⟨B, M, o, τ, Fz, s', r', z⟩
  | true => exact WPm.ret_ (ok := fun b s' => ∀ H', RelS X.K B M o τ Fz σ s' H' → Q b H') (z.bnd_.ret_) H' r'
theorem je_ite {c a b : Expr} {e f g : Ex} {pos : Pos} (hc : JT X ca W c (bnd (evE F e) isB)) (ha : JE X ca W a (evE F f)) (hb : JE X ca W b (evE F g)) : JE X ca W (.IfExp c a b pos) (evE F (.ite e f g)) := by
  refine PE.imp (pe_ifExp hc ha hb) fun σ H Q q => ?_
  obtain ⟨B, M, o, τ, Fz, s, r, q⟩ := q
  unfold evE at q
  refine ⟨B, M, o, τ, Fz, s, r, q.bnd_.mono (fun c s' z H' r' => ?_) fun _ _ z => z⟩
  cases c with
  | true => exact ⟨B, M, o, τ, Fz, s', r', z⟩
  | false => exact ⟨B, M, o, τ, Fz, s', r', z⟩
theorem jt_val {a : Expr} {m : M (D × Bool)} (h : JE X ca W a m) (he : ∀ whole, isTrue a X.env whole = (do let v ← whole; standAt a.pos; holding [v] (truthy v))) : JT X ca W a (bnd m isB) :=
  PT.imp (pt_val h he) fun σ H Q q => tvT_of q
end
end Vf
namespace Vf
open PySem PySem.Spec PyProof.Rows L2

def spF (G : Gl) (C : Cn) (F : FT) (n i : Nat) : Sp := fun vs H Q E => vs.length = n ∧ ∃ (M : AP) (τ : TA2) (T : Vf.TP) (ds : List D), vs.length = ds.length ∧ RelS G.K H M (fun _ => 0) τ (vs.zip ds) [] ⟨[], T⟩ H ∧
  match F i ds T with
  | .ok d fr T' => ∀ v H', RelT G.K (fun _ => 0) τ [] ⟨[], T'⟩ H' [(v, d, fr)] H M [] → Q v H'
  | .exc c T' => ∀ H', RelS G.K H M (fun _ => 0) τ [] [] ⟨[], T'⟩ H' → E (.ref (caK G.K C c)) none H'
  | .stuck => False
def ExcOk (K : PySem.W.Frag) (mg : Str → Option Value) (x : Str) (c : Addr) : Prop := ∃ (bmB : List Value) (B newId initId : String), ExcBaseFacts B newId initId bmB ∧ PySem.W.excIn K c bmB newId = true ∧ mg x = some (.ref c) ∧ PySem.W.keepIn K (.ref c) = true ∧
  PySem.W.subIn K (.ref c) (.type "BaseException") = some true ∧ PySem.W.typeIn K (.ref c) = some (.type "type")
structure LenKey (body : List Stmt) (scope : Scope) (x : Str) : Prop where
  body : ∃ p1 p2 p3 p4 k p5 p6, body = [.Return (some (.Tuple [.Call (.Name "len" p1) [.Name x p2] [] p3, .Name x p4] k p5)) p6]
  loc : scope.names.lookup x = some .local
  glo : scope.names.lookup ("len" : Str) = some .globalImplicit
  kind : scope.kind = .function
  co : scope.isCoroutine = false
  gen : scope.isGenerator = false
  nd : (x == ("__debug__" : Str)) = false
def LenFn (K : PySem.W.Frag) (mg : Str → Option Value) (x : Str) : Prop := ∃ (f : Addr) (fd : FuncData) (name qual : Str) (params : Arguments) (body : List Stmt) (scope : Scope) (p : Str), mg x = some (.ref f) ∧ mg ("len" : Str) = none ∧ FunD K name qual params body scope [] [] f fd ∧ L2.Binds K fd [p] [] ∧ LenKey body scope p
structure PF (C : Cn) (F : FT) (G : Gl) : Prop where
  fns : ∀ x i, C.names.lookup x = some i → ∃ f fd ps, C.ar[i]? = some ps.length ∧ G.mg x = some (.ref f) ∧ PySem.W.keepIn G.K (.ref f) = true ∧ L2.Binds G.K fd ps [] ∧ FnOk G.P G.w G.K G.mg G.base (L2.CX G.P G.w) G.k f fd ps (spF G C F ps.length i)
  con : ∀ x d, C.cons.lookup x = some d → ∃ v u, G.mg x = some u ∧ RelV v u ∧ ∀ P τ H, Rep G.K P τ H v d
  free : ∀ x ∈ C.free, G.mg x = none
  lenk : ∀ x ∈ C.lenk, LenFn G.K G.mg x
  cls : ∀ (c : Nat) (x : Str), C.cls[c]? = some x → ExcOk G.K G.mg x (caK G.K C c)
  exm : ∀ (i j : Nat) (x y : Str), C.cls[i]? = some x → C.cls[j]? = some y → PySem.W.exmOne G.K (.ref (caK G.K C i)) (.ref (caK G.K C j)) = some (C.exm i j)
@[reducible] def glX (X : Cx) (k : Nat) : Gl := ⟨X.prog, X.w, X.K, X.mg, X.base, k⟩
section
variable {K : PySem.W.Frag} {B : Hp} {M : AP} {o : Nat → Addr} {τ : TA2} {Fz : List (V × D)} {σ : L2.St} {s : S} {H H' : Hp}
def M0 (M : AP) (o : Nat → Addr) (s : S) : AP := fun b => M b ∨ ∃ i d, Own s i d ∧ b = o i
theorem prt0 {M : AP} {o o' : Nat → Addr} {τ : TA2} {s : S} {T : Vf.TP} {b : Addr} : Prt (M0 M o s) o' τ ⟨[], T⟩ b ↔ Prt M o τ s b := by
  constructor
  · rintro ((h | h) | h | ⟨i, d, w, e⟩)
    · exact .inl h
    · exact .inr (.inr h)
    · exact .inr (.inl h)
    · cases w
  · rintro (h | h | h)
    · exact .inl (.inl h)
    · exact .inr (.inl h)
    · exact .inl (.inr h)
theorem RelS.callee (r : RelS K B M o τ Fz σ s H) {l : List (V × D)} (hl : ∀ p ∈ l, p ∈ Fz) (o' : Nat → Addr) : RelS K H (M0 M o s) o' τ l [] ⟨[], s.T⟩ H := by
  refine ⟨rfl, fun _ _ q _ => q, fun p q => (r.fz p (hl p q)).mo (Mo.same fun b h => prt0.mp h), (fun i d q => by cases q), (fun i d q => by cases q), (fun i j d e q => by cases q), ⟨fun a h z => ?_, r.tp.at_⟩, fun b z => ?_⟩
  · rcases z with z | ⟨i, d, w, e⟩
    · exact r.tp.no a h z
    · exact (r.ow i d w).2.2.1 (e ▸ h)
  · rcases z with z | ⟨i, d, w, e⟩
    · exact r.mt b z
    · obtain ⟨_, _, _, _, u, cs, h5, h6, _⟩ := r.ow i d w
      exact ⟨u, by rw [e]; exact h5, h6.nt⟩
theorem RelS.back (r : RelS K B M o τ Fz σ s H) {T : Vf.TP} {l : List (V × D)} {o' : Nat → Addr} (q : RelS K H (M0 M o s) o' τ l [] ⟨[], T⟩ H') : RelS K B M o τ Fz σ { s with T := T } H' :=
  r.move q.keep ⟨r.tp.no, q.tp.at_⟩
theorem RelT.back (r : RelS K B M o τ Fz σ s H) {T : Vf.TP} {v : V} {d : D} {fr : Bool} {o' : Nat → Addr} (q : RelT K o' τ [] ⟨[], T⟩ H' [(v, d, fr)] H (M0 M o s) []) : RelT K o τ σ { s with T := T } H' [(v, d, fr)] B M Fz := by
  cases fr with
  | false =>
    have q' : RelS K H (M0 M o s) o' τ [(v, d)] [] ⟨[], T⟩ H' := q
    have b := r.back q'
    refine b.more1 ((q'.fz (v, d) List.mem_cons_self).mo (Mo.same fun x h => ?_))
    have h' : Prt M o τ s x := h
    exact prt0.mpr h'
  | true =>
    obtain ⟨a, u, cs, e, hb, ht, hm, c, q'⟩ := q
    have q' : RelS K (upd H a u) (fun b => M0 M o s b ∨ b = a) o' τ (cs ++ []) [] ⟨[], T⟩ H' := q'
    obtain ⟨f1, f2, f3, f4⟩ := r.fresh hb
    refine ⟨a, u, cs, e, f1, ht, f2, c, ?_⟩
    show RelS K (upd B a u) (fun b => M b ∨ b = a) o τ (cs ++ Fz) σ { s with T := T } H'
    have ka : H' a = some u := q'.keep a u upd_same ht
    have kp : ∀ b x, H b = some x → ¬ TpA τ b → H' b = some x := fun b x h n => q'.keep b x (upd_up hb b x h) n
    have mo : Mo (Prt M o τ s) (Prt (fun b => M b ∨ b = a) o τ { s with T := T }) H H' := by
      refine ⟨fun b x h n => kp b x h fun z => n (.inr (.inl z)), fun b h hn => ?_⟩
      rcases h with (h | h) | h | h
      · exact .inl h
      · exact absurd (h ▸ hb) hn
      · exact .inr (.inl h)
      · exact .inr (.inr h)
    refine ⟨r.len, fun b x h n => ?_, fun p h => ?_, fun i d h => ?_, fun i d h => ?_, r.inj, ⟨fun x h z => ?_, q'.tp.at_⟩, fun b z => ?_⟩
    · by_cases e : b = a
      · subst e; rw [upd_same] at h; cases h; exact ka
      · rw [upd_ne e] at h
        exact kp b x (r.keep b x h n) n
    · rcases List.mem_append.mp h with h | h
      · refine (q'.fz p (List.mem_append_left _ h)).mo (Mo.same fun x z => ?_)
        rcases z with (z | z) | z | z
        · exact .inl (.inl (.inl z))
        · exact .inl (.inr z)
        · exact .inr (.inl z)
        · exact .inl (.inl (.inr z))
      · exact (r.fz p h).mo mo
    · obtain ⟨w, h1, h2⟩ := r.sh i d h
      exact ⟨w, h1, h2.mo mo⟩
    · obtain ⟨h1, h2, h3, h4, x, xs, h5, h6, h7⟩ := r.ow i d h
      have ne : o i ≠ a := f4 i d h
      exact ⟨h1, fun z => z.elim h2 ne, h3, by rw [upd_ne ne]; exact h4, x, xs, kp _ _ h5 h3, h6, fun p z => (h7 p z).mo mo⟩
    · rcases z with z | z
      · exact r.tp.no x h z
      · exact ht (z ▸ h)
    · rcases z with z | z
      · obtain ⟨x, h, n⟩ := r.mt b z
        exact ⟨x, kp b x h fun y => r.tp.no b y z, n⟩
      · exact ⟨u, by rw [z]; exact ka, c.nt⟩
theorem zipT_map : ∀ {vs : List V} {xs : List (D × Bool)}, vs.length = xs.length → (zipT vs xs).map (fun t => (t.1, t.2.1)) = vs.zip (xs.map (·.1))
  | [], [], _ => rfl
  | [], _ :: _, e => by simp at e
  | _ :: _, [], e => by simp at e
  | v :: vs, x :: xs, e => by
    have := zipT_map (vs := vs) (xs := xs) (by simpa using e)
    simp only [zipT, List.map_cons, List.zip_cons_cons, this]
end
section
variable {X : Cx} {W : WX} {F : FT} {C : Cn} {k : Nat}
theorem pe_callS0 {CX : CXT} {f : Addr} {fd : FuncData} {ps : List Str} {sp : Sp} {E : L2.St → XK} {x : Str} {p pos : Pos} (F : FnOk X.prog X.w X.K X.mg X.base CX k f fd ps sp) (hr : Room k X.A) (hg : L2.Gl X x) (hm : X.mg x = some (.ref f)) (hk : PySem.W.keepIn X.K (.ref f) = true) (hb : L2.Binds X.K fd ps []) (hx : ∀ σ, PassesAt CX X σ (E σ))
    (hdb : (x == ("__debug__" : Str)) = false) : PE X (.Call (.Name x p) [] [] pos) (tCallS sp E tNil) := by
  refine ⟨fun pins s σ H Q I h => ?_⟩
  refine wpAny_Call_Name_kw (ld_glob I hg hm ?_ hdb)
  exact PySem.W.callWith_K0 I.kIn hk (run_fnS (us := []) F hr hb (hx σ) I .nil h)
theorem call_imp {i n : Nat} {es : Exs} {σ : L2.St} {H : Hp} {Q : VK} (hn : ∀ (xs : List (D × Bool)) (s s' : S), evEs F es s = .ok xs s' → xs.length = n) (h : tvE X.K (caK X.K C) W (evE F (.call i es)) σ H Q) : tCallS (spF (glX X k) C F n i) (WE W) (tvEs X.K (caK X.K C) W (evEs F es)) σ H Q := by
  obtain ⟨B, M, o, τ, Fz, s, r, h⟩ := h
  unfold evE at h
  have h2 := h.bnd_
  have h3 : WPm (evEs F es) s (fun a s' => a.length = n ∧ WPm (callM F i (a.map (·.1))) s' (fun x s' => ∀ (v : V) (H' : Hp), RelT X.K o τ σ s' H' [(v, x.1, x.2)] B M Fz → Q v H') (EX X.K (caK X.K C) W B M o τ Fz σ)) (EX X.K (caK X.K C) W B M o τ Fz σ) := by
    unfold WPm at h2 ⊢
    cases e : evEs F es s with
    | ok a s' => rw [e] at h2; exact ⟨hn a s s' e, h2⟩
    | exc c s' => rw [e] at h2; exact h2
    | stuck => rw [e] at h2; exact h2
  refine ⟨B, M, o, τ, Fz, s, r, h3.mono (fun xs s' q vs H' hl rt => ?_) fun _ _ z => z⟩
  obtain ⟨hln, q⟩ := q
  have r1 := rt.plain
  rw [zipT_map hl] at r1
  refine ⟨by rw [hl, hln], M0 M o s', τ, s'.T, (xs.map fun x => x.1 : List D), by simp [hl], r1.callee (fun p hp => List.mem_append_left _ hp) _, ?_⟩
  have r2 : RelS X.K B M o τ Fz σ s' H' := r1.drop fun p hp => List.mem_append_right _ hp
  unfold WPm callM at q
  cases e : F i (xs.map (·.1)) s'.T with
  | ok d fr T' =>
    rw [e] at q
    exact fun v H2 rt2 => q v H2 (rt2.back r2)
  | exc c T' =>
    rw [e] at q
    exact fun H2 rt2 => q H2 (r2.back rt2)
  | stuck => rw [e] at q; exact q
def Exs.len : Exs → Nat
  | .nil => 0
  | .cons _ es => es.len + 1
theorem evEs_len : ∀ (es : Exs) (xs : List (D × Bool)) (s s' : S), evEs F es s = .ok xs s' → xs.length = es.len
  | .nil, xs, s, s', h => by simp only [evEs, ret] at h; cases h; rfl
  | .cons e es, xs, s, s', h => by
    simp only [evEs, bnd] at h
    cases e1 : evE F e s with
    | ok d s1 =>
      rw [e1] at h
      simp only at h
      cases e2 : evEs F es s1 with
      | ok ds s2 =>
        rw [e2] at h
        simp only [ret] at h
        cases h
        simp [Exs.len, evEs_len es ds _ _ e2]
      | exc c s2 => rw [e2] at h; cases h
      | stuck => rw [e2] at h; cases h
    | exc c s1 => rw [e1] at h; cases h
    | stuck => rw [e1] at h; cases h
theorem je_call {x : Str} {i : Nat} {p pos : Pos} {a : Expr} {as : List Expr} {es : Exs} {f : Addr} {fd : FuncData} {ps : List Str} (hr : Room k X.A) (tk : Takes X W) (hg : L2.Gl X x)
    (hm : X.mg x = some (.ref f)) (hk : PySem.W.keepIn X.K (.ref f) = true) (hb : L2.Binds X.K fd ps []) (hF : FnOk X.prog X.w X.K X.mg X.base (L2.CX X.prog X.w) k f fd ps (spF (glX X k) C F ps.length i))
    (hl : es.len = ps.length) (hdb : (x == ("__debug__" : Str)) = false) (ha : JA X (caK X.K C) W (a :: as) (evEs F es)) (hn : nstAll (a :: as) = true) : JE X (caK X.K C) W (.Call (.Name x p) (a :: as) [] pos) (evE F (.call i es)) := by
  unfold nstAll at hn
  simp only [List.all_cons, Bool.and_eq_true] at hn
  exact PE.imp (pe_callS hF hr hg hm hk hb (fun σ => passAt tk σ) ha hdb (star_cons hn.1) (star_any hn.2)) fun σ H Q h => call_imp (fun xs s s' e => by rw [evEs_len es xs s s' e, hl]) h
theorem je_call0 {x : Str} {i : Nat} {p pos : Pos} {f : Addr} {fd : FuncData} {ps : List Str} (hr : Room k X.A) (tk : Takes X W) (hg : L2.Gl X x)
    (hm : X.mg x = some (.ref f)) (hk : PySem.W.keepIn X.K (.ref f) = true) (hb : L2.Binds X.K fd ps []) (hF : FnOk X.prog X.w X.K X.mg X.base (L2.CX X.prog X.w) k f fd ps (spF (glX X k) C F ps.length i))
    (hl : ps.length = 0) (hdb : (x == ("__debug__" : Str)) = false) : JE X (caK X.K C) W (.Call (.Name x p) [] [] pos) (evE F (.call i .nil)) :=
  PE.imp (pe_callS0 hF hr hg hm hk hb (fun σ => passAt tk σ) hdb) fun σ H Q h => by
    have q := call_imp (X := X) (W := W) (C := C) (k := k) (n := ps.length) (fun xs s s' e => by rw [evEs_len .nil xs s s' e, hl]; rfl) h
    unfold tCallS at q
    exact tvEs_nil (K := X.K) (ca := caK X.K C) (W := W) (by simpa only [evEs] using q)
theorem je_tup {as : List Expr} {es : Exs} {n : Nat} {pos : Pos} {ca : Nat → Addr} (h : JA X ca W as (evEs F es)) : JE X ca W (.Tuple as n pos) (evE F (.tup es)) := by
  refine PE.imp (pe_tup h) fun σ H Q q => ?_
  obtain ⟨B, M, o, τ, Fz, s, r, q⟩ := q
  unfold evE at q
  refine ⟨B, M, o, τ, Fz, s, r, q.bnd_.mono (fun xs s' q vs H' hl rt => ?_) fun _ _ z => z⟩
  have r1 := rt.plain
  rw [zipT_map hl] at r1
  unfold tupM at q
  split at q
  · rename_i hf
    have hf := of_decide_eq_true hf
    simp only [List.length_map] at hf
    have ra : RepAll X.K (Prt M o τ s') τ H' vs (xs.map fun x => x.1) := RepAll.of_fz (by simp [hl]) fun p hp => r1.fz p (List.mem_append_left _ hp)
    refine ⟨by rw [hl]; exact hf, got_tup r1 ra fun v H2 rt2 => WPm.ret_ q v H2 ?_⟩
    have r3 : RelS X.K B M o τ ((v, .tup (xs.map fun x => x.1)) :: (vs.zip (xs.map fun x => x.1) ++ Fz)) σ s' H2 := rt2
    exact r3.drop fun p hp => (List.mem_cons.mp hp).elim (fun e => e ▸ List.mem_cons_self) fun e => List.mem_cons_of_mem _ (List.mem_append_right _ e)
  · exact WPm.stk_ q
theorem je_lst {as : List Expr} {es : Exs} {pos : Pos} {ca : Nat → Addr} (h : JA X ca W as (evEs F es)) : JE X ca W (.List as pos) (evE F (.lst es)) := by
  refine PE.imp (pe_lst h) fun σ H Q q => ?_
  obtain ⟨B, M, o, τ, Fz, s, r, q⟩ := q
  unfold evE at q
  refine ⟨B, M, o, τ, Fz, s, r, q.bnd_.mono (fun xs s' q vs H' hl rt => ?_) fun _ _ z => z⟩
  have r1 := rt.plain
  rw [zipT_map hl] at r1
  unfold lstM at q
  split at q
  · rename_i hf
    have hf := of_decide_eq_true hf
    simp only [List.length_map] at hf
    have ra : RepAll X.K (Prt M o τ s') τ H' vs (xs.map fun x => x.1) := RepAll.of_fz (by simp [hl]) fun p hp => r1.fz p (List.mem_append_left _ hp)
    refine ⟨by rw [hl]; exact hf, got_lst r1 ra fun v H2 rt2 => WPm.ret_ q v H2 ?_⟩
    obtain ⟨a, u, cs, e, hb, ht, hm, c, r3⟩ := rt2
    refine ⟨a, u, cs, e, hb, ht, hm, c, ?_⟩
    have r3 : RelS X.K (upd B a u) (fun b => M b ∨ b = a) o τ (cs ++ (vs.zip (xs.map fun x => x.1) ++ Fz)) σ s' H2 := r3
    exact r3.drop fun p hp => (List.mem_append.mp hp).elim (fun e => List.mem_append_left _ e) fun e => List.mem_append_right _ (List.mem_append_right _ e)
  · exact WPm.stk_ q
theorem je_dic {t : Bool} {pos : Pos} {ca : Nat → Addr} : JE X ca W (.Dict [] [] pos) (evE F (.dic t)) := by
  have key : ∀ σ H Q, tvE X.K ca W (evE F (.dic t)) σ H Q → ∀ p, H p = none → Q (.ref p) (upd H p (if t then .dT [] else .dK [])) := fun σ H Q q => by
    obtain ⟨B, M, o, τ, Fz, s, r, q⟩ := q
    unfold evE at q
    exact got_dic r fun v H2 rt => WPm.ret_ q v H2 rt
  cases t with
  | true => exact PE.imp pe_dnewT key
  | false => exact PE.imp pe_dnewK key
end
end Vf
namespace Vf
open PySem PySem.Spec PyProof.Rows L2

section
variable {X : Cx} {W : WX} {F : FT} {C : Cn} {k : Nat} {ca : Nat → Addr} {K : PySem.W.Frag}
theorem maxI_ok : ∀ (r : List Int) (a : Int), maxI a r ∈ a :: r ∧ ∀ y ∈ a :: r, y ≤ maxI a r
  | [], a => by simp [maxI]
  | b :: r, a => by
    unfold maxI
    by_cases hc : a < b
    · rw [if_pos hc]
      obtain ⟨h1, h2⟩ := maxI_ok r b
      refine ⟨List.mem_cons_of_mem _ h1, fun y hy => ?_⟩
      rcases List.mem_cons.mp hy with e | e
      · subst e; have := h2 b List.mem_cons_self; omega
      · exact h2 y e
    · rw [if_neg hc]
      obtain ⟨h1, h2⟩ := maxI_ok r a
      refine ⟨?_, fun y hy => ?_⟩
      · rcases List.mem_cons.mp h1 with e | e
        · rw [e]; exact List.mem_cons_self
        · exact List.mem_cons_of_mem _ (List.mem_cons_of_mem _ e)
      · rcases List.mem_cons.mp hy with e | e
        · subst e; exact h2 _ List.mem_cons_self
        · rcases List.mem_cons.mp e with e | e
          · subst e; have := h2 a List.mem_cons_self; omega
          · exact h2 y (List.mem_cons_of_mem _ e)
theorem minI_ok : ∀ (r : List Int) (a : Int), minI a r ∈ a :: r ∧ ∀ y ∈ a :: r, minI a r ≤ y
  | [], a => by simp [minI]
  | b :: r, a => by
    unfold minI
    by_cases hc : b < a
    · rw [if_pos hc]
      obtain ⟨h1, h2⟩ := minI_ok r b
      refine ⟨List.mem_cons_of_mem _ h1, fun y hy => ?_⟩
      rcases List.mem_cons.mp hy with e | e
      · subst e; have := h2 b List.mem_cons_self; omega
      · exact h2 y e
    · rw [if_neg hc]
      obtain ⟨h1, h2⟩ := minI_ok r a
      refine ⟨?_, fun y hy => ?_⟩
      · rcases List.mem_cons.mp h1 with e | e
        · rw [e]; exact List.mem_cons_self
        · exact List.mem_cons_of_mem _ (List.mem_cons_of_mem _ e)
      · rcases List.mem_cons.mp hy with e | e
        · subst e; exact h2 _ List.mem_cons_self
        · rcases List.mem_cons.mp e with e | e
          · subst e; have := h2 a List.mem_cons_self; omega
          · exact h2 y (List.mem_cons_of_mem _ e)
theorem serves_sum : Serves K (.blt "sum") (rSum K) := by
  refine serves1B (f := sumD) (fun ds => rfl) ?_
  intro B M o τ Fz σ s H v1 d1 x Q r h1 e q
  unfold sumD at e
  split at e
  · rename_i a
    cases e1 : intsD a with
    | none => rw [e1] at e; cases e
    | some bs =>
      rw [e1] at e
      cases e
      obtain ⟨a, xs, rfl, g1, r1⟩ := h1.lst
      have := r1.ints e1
      subst this
      exact ⟨a, bs, rfl, .of g1, got_rep r (.int _) q⟩
  · cases e
def rMaxA (K : PySem.W.Frag) : List V → Hp → VK → Prop := fun xs H Q => rMax K xs H Q ∨ ∃ i j, xs = [.int i, .int j] ∧ Q (.int (if j > i then j else i)) H
def rMinA (K : PySem.W.Frag) : List V → Hp → VK → Prop := fun xs H Q => rMin K xs H Q ∨ ∃ i j, xs = [.int i, .int j] ∧ Q (.int (if j < i then j else i)) H
theorem call_maxA (hc : X.calm = true) : CallR X (.builtin "max") (rMaxA X.K) := orCall (cr_max hc) (call_max2 hc)
theorem call_minA (hc : X.calm = true) : CallR X (.builtin "min") (rMinA X.K) := orCall (cr_min hc) (call_min2 hc)
theorem serves_max : Serves K (.blt "max") (rMaxA K) := by
  intro B M o τ Fz σ s H vs ds x Q rs pv e q
  have e' : orElse2 (arg1 maxD) (arg2 max2D) ds = some x := e
  cases pv with
  | nil => cases e'
  | cons h1 t =>
    cases t with
    | nil =>
      simp only [orElse2, arg1] at e'
      unfold maxD at e'
      split at e'
      · split at e'
        · rename_i a y r hi
          cases e'
          obtain ⟨b, xs, rfl, g1, r1⟩ := h1.lst
          have := r1.ints hi
          subst this
          refine .inl ⟨b, y :: r, rfl, .of g1, by simp, fun m hm hy => ?_⟩
          obtain ⟨k1, k2⟩ := maxI_ok r y
          have : m = maxI y r := by
            have := hy _ k1
            have := k2 m hm
            omega
          rw [this]
          exact got_rep rs (.int _) q
        · cases e'
      · cases e'
    | cons h2 t =>
      cases t with
      | cons _ _ => simp [orElse2, arg2] at e'
      | nil =>
        simp only [orElse2, arg2] at e'
        unfold max2D at e'
        split at e'
        · cases e'
          cases h1.int; cases h2.int
          exact .inr ⟨_, _, rfl, got_rep rs (.int _) q⟩
        · cases e'
theorem serves_min : Serves K (.blt "min") (rMinA K) := by
  intro B M o τ Fz σ s H vs ds x Q rs pv e q
  have e' : orElse2 (arg1 minD) (arg2 min2D) ds = some x := e
  cases pv with
  | nil => cases e'
  | cons h1 t =>
    cases t with
    | nil =>
      simp only [orElse2, arg1] at e'
      unfold minD at e'
      split at e'
      · split at e'
        · rename_i a y r hi
          cases e'
          obtain ⟨b, xs, rfl, g1, r1⟩ := h1.lst
          have := r1.ints hi
          subst this
          refine .inl ⟨b, y :: r, rfl, .of g1, by simp, fun m hm hy => ?_⟩
          obtain ⟨k1, k2⟩ := minI_ok r y
          have : m = minI y r := by
            have := hy _ k1
            have := k2 m hm
            omega
          rw [this]
          exact got_rep rs (.int _) q
        · cases e'
      · cases e'
    | cons h2 t =>
      cases t with
      | cons _ _ => simp [orElse2, arg2] at e'
      | nil =>
        simp only [orElse2, arg2] at e'
        unfold min2D at e'
        split at e'
        · cases e'
          cases h1.int; cases h2.int
          exact .inr ⟨_, _, rfl, got_rep rs (.int _) q⟩
        · cases e'
structure BltOk (X : Cx) (id : String) : Prop where
  ok : ∃ r, Serves X.K (.blt id) r ∧ ((CallR X (.builtin id) r ∧ bootBuiltins id = some (.builtin id)) ∨ (CallR X (.type id) r ∧ bootBuiltins id = some (.type id)))
  n1 : (id : Str) ≠ "__name__"
  n2 : ((id : Str) == ("__debug__" : Str)) = false
def bltIds : List String := ["len", "abs", "int", "tuple", "list", "sum", "max", "min", "all", "any"]
theorem blt_ok (hc : X.calm = true) {id : String} (h : id ∈ bltIds) : BltOk X id := by
  have h' : id = "len" ∨ id = "abs" ∨ id = "int" ∨ id = "tuple" ∨ id = "list" ∨ id = "sum" ∨ id = "max" ∨ id = "min" ∨ id = "all" ∨ id = "any" := by simpa [bltIds] using h
  rcases h' with e | e | e | e | e | e | e | e | e | e <;> subst e
  · exact ⟨⟨_, serves_len, .inl ⟨call_lenA, boot_len⟩⟩, by decide +kernel, by decide +kernel⟩
  · exact ⟨⟨_, serves_abs, .inl ⟨call_abs, by decide +kernel⟩⟩, by decide +kernel, by decide +kernel⟩
  · exact ⟨⟨_, serves_int, .inr ⟨call_int1, by decide +kernel⟩⟩, by decide +kernel, by decide +kernel⟩
  · exact ⟨⟨_, serves_tuple, .inr ⟨call_tuple_of, by decide +kernel⟩⟩, by decide +kernel, by decide +kernel⟩
  · exact ⟨⟨_, serves_list, .inr ⟨call_listA hc, by decide +kernel⟩⟩, by decide +kernel, by decide +kernel⟩
  · exact ⟨⟨_, serves_sum, .inl ⟨cr_sum hc, by decide +kernel⟩⟩, by decide +kernel, by decide +kernel⟩
  · exact ⟨⟨_, serves_max, .inl ⟨call_maxA hc, by decide +kernel⟩⟩, by decide +kernel, by decide +kernel⟩
  · exact ⟨⟨_, serves_min, .inl ⟨call_minA hc, by decide +kernel⟩⟩, by decide +kernel, by decide +kernel⟩
  · exact ⟨⟨_, serves_all, .inl ⟨cr_all hc, by decide +kernel⟩⟩, by decide +kernel, by decide +kernel⟩
  · exact ⟨⟨_, serves_any, .inl ⟨cr_any hc, by decide +kernel⟩⟩, by decide +kernel, by decide +kernel⟩
theorem je_blt {id : String} {p pos : Pos} {a : Expr} {as : List Expr} {es : Exs} (b : BltOk X id) (hg : L2.Gl X id) (hm : X.mg id = none) (ha : JOs X ca W (a :: as) (evO F es)) (hn : nstAll (a :: as) = true) :
    JE X ca W (.Call (.Name id p) (a :: as) [] pos) (evE F (.prim (.blt id) es)) := by
  unfold nstAll at hn
  simp only [List.all_cons, Bool.and_eq_true] at hn
  obtain ⟨⟨r, sv, hr⟩, n1, n2⟩ := b
  rcases hr with ⟨hc, hb⟩ | ⟨hc, hb⟩
  · exact PE.imp (pe_callB hc hg hm hb ha n1 n2 (star_cons hn.1) (star_any hn.2)) fun σ H Q h => prim_imp sv h
  · exact PE.imp (pe_callTy hc hg hm hb ha n1 n2 (star_cons hn.1) (star_any hn.2)) fun σ H Q h => prim_imp sv h
def tyIds : List String := ["int", "bool", "tuple", "str"]
theorem je_isT {T : String} {p p2 pos : Pos} {a : Expr} {e : Ex} (hT : T ∈ tyIds) (hg : L2.Gl X "isinstance") (hm : X.mg "isinstance" = none) (hgT : L2.Gl X T) (hmT : X.mg T = none) (ha : JO X ca W a (evOp F e)) (hn : nst a = true) :
    JE X ca W (.Call (.Name "isinstance" p) [a, .Name T p2] [] pos) (evE F (.prim (.isT T) (.cons e .nil))) := by
  have h' : T = "int" ∨ T = "bool" ∨ T = "tuple" ∨ T = "str" := by simpa [tyIds] using hT
  have hb : bootBuiltins T = some (.type T) := by rcases h' with e | e | e | e <;> subst e <;> decide +kernel
  have n1 : (T : Str) ≠ "__name__" := by rcases h' with e | e | e | e <;> subst e <;> decide +kernel
  have n2 : ((T : Str) == ("__debug__" : Str)) = false := by rcases h' with e | e | e | e <;> subst e <;> decide +kernel
  have pT : PE X (.Name T p2) (tC (.ty T)) := pe_bltn hgT hmT hb rfl n1 n2
  have pA : PA X [a, .Name T p2] (tCons (tvO X.K ca W (evOp F e)) (tCons (tC (.ty T)) tNil)) := pa_cons ha (pa_cons pT pa_nil rfl) (star_cons hn)
  refine PE.imp (pe_callB call_isi hg hm (by decide +kernel) pA (by decide +kernel) (by decide +kernel) (star_cons hn) rfl) fun σ H Q h => ?_
  exact evO_1 (prim_imp (serves_isT T) h)
def rDIn : R2 := fun y x H Q => ∃ a o, x = .ref a ∧ DGet H a y o ∧ Q (.bl o.isSome) H
def rDNotIn : R2 := fun y x H Q => ∃ a o, x = .ref a ∧ DGet H a y o ∧ Q (.bl (!o.isSome)) H
theorem op_dIn (hu : X.A.units + 1 < cLine) : OpR X (compareOp .In) rDIn := by
  intro pins s σ H x y v u Q I rx ry h
  obtain ⟨a, o, rfl, g, q⟩ := h
  obtain rfl : u = Value.ref a := ry
  exact d_in hu I g rx fun s3 I3 => ⟨.bl o.isSome, H, I3, rfl, q⟩
theorem op_dNotIn (hu : X.A.units + 1 < cLine) : OpR X (compareOp .NotIn) rDNotIn := by
  intro pins s σ H x y v u Q I rx ry h
  obtain ⟨a, o, rfl, g, q⟩ := h
  obtain rfl : u = Value.ref a := ry
  exact d_notIn hu I g rx fun s3 I3 => ⟨.bl (!o.isSome), H, I3, rfl, q⟩
def rInA (K : PySem.W.Frag) : R2 := fun x y H Q => (rDIn x y H Q ∨ rInD K x y H Q) ∨ rIn K false x y H Q
def rNotInA (K : PySem.W.Frag) : R2 := fun x y H Q => (rDNotIn x y H Q ∨ rNotInD K x y H Q) ∨ rIn K true x y H Q
theorem op_inA (hu : X.A.units + 65 < cLine) : OpR X (compareOp .In) (rInA X.K) := orOp (orOp (op_dIn (by omega)) (op_inD hu)) op_in_seq
theorem op_notInA (hu : X.A.units + 65 < cLine) : OpR X (compareOp .NotIn) (rNotInA X.K) := orOp (orOp (op_dNotIn (by omega)) (op_notInD hu)) op_notIn_seq
theorem pds_any (f : PyData → Bool) : ∀ ds : List D, (pds ds).any f = ds.any fun z => f (pd z)
  | [] => by rw [pds]; rfl
  | d :: ds => by rw [pds, List.any_cons, List.any_cons, pds_any f ds]
theorem inV_ints (k : Int) (ns : List Int) : inV (.int k) (ns.map V.int) = decide (k ∈ ns) := by
  induction ns with
  | nil => rfl
  | cons n ns ih =>
    unfold inV at ih ⊢
    rw [List.map_cons, List.any_cons, ih]
    by_cases h : n = k
    · subst h; simp [eqV]
    · have h' : ¬ k = n := fun e => h e.symm
      simp [eqV, h, h']
theorem in_cases {B : Hp} {M : AP} {o : Nat → Addr} {τ : TA2} {Fz : List (V × D)} {σ : L2.St} {s : S} {H : Hp} {v1 v2 : V} {d1 d2 : D} {b : Bool} (r : RelS K B M o τ Fz σ s H) (h1 : TopR K (Prt M o τ s) τ H v1 d1) (h2 : TopR K (Prt M o τ s) τ H v2 d2) (e : inD d1 d2 = some b) :
    (∃ a ov, v2 = .ref a ∧ DGet H a v1 ov ∧ ov.isSome = b) ∨
    (∃ d ds, Dp K H v1 d ∧ Dp K H v2 (.list ds) ∧ SeqAt.shaped d = true ∧ SeqAt.shaped (.list ds) = true ∧ (ds.any fun z => PyData.eqv z d) = b) ∨
    (∃ p xs, v2 = .ref p ∧ (SqL K H p xs ∨ SqT K H p xs) ∧ flatV v1 = true ∧ xs.all flatV = true ∧ inV v1 xs = b) := by
  unfold inD at e
  split at e
  · rename_i t kvs
    cases e1 : dkey t d1 with
    | none => rw [e1] at e; cases e
    | some kk =>
      rw [e1] at e
      simp only [Option.map_some, Option.some.injEq] at e
      obtain ⟨a, ov, rfl, g1, _, g2⟩ := dget_ok h2 h1 e1
      refine .inl ⟨a, ov, rfl, g1, ?_⟩
      rw [← e]
      cases e2 : dget t kk kvs with
      | none => rw [e2] at g2; have g3 : ov = none := g2; subst g3; rfl
      | some d => rw [e2] at g2; obtain ⟨v, rfl, _⟩ := g2; rfl
  · rename_i ds
    split at e
    · rename_i hf
      simp only [Bool.and_eq_true] at hf
      cases e
      have ok2 : okD 60 (.lst ds) = true := by simpa [okD] using hf.2
      refine .inr (.inl ⟨pd d1, pds ds, h1.dp hf.1, ?_, okD_shaped hf.1, ?_, pds_any _ ds⟩)
      · have := h2.dp ok2
        rw [pd] at this
        exact this
      · have := okD_shaped ok2
        rw [pd] at this
        exact this
    · cases e
  · rename_i k ds
    cases e1 : intsD ds with
    | none => rw [e1] at e; cases e
    | some ns =>
      rw [e1] at e
      cases e
      cases h1.int
      obtain ⟨a, xs, rfl, g1, r1, _⟩ := h2.tup
      have := r1.ints e1
      subst this
      refine .inr (.inr ⟨a, _, rfl, .inr (.of g1), rfl, ?_, inV_ints k ns⟩)
      rw [List.all_map]
      exact List.all_eq_true.mpr fun _ _ => rfl
  · cases e
theorem serves_in : Serves K (.cmp .In) (two (rInA K)) := by
  refine serves2 rfl ?_
  intro B M o τ Fz σ s H v1 v2 d1 d2 x Q r h1 h2 e q
  simp only [primD, arg2, cmpD] at e
  cases e1 : inD d1 d2 with
  | none => rw [e1] at e; cases e
  | some b =>
    rw [e1] at e
    cases e
    have fin : Q (.bl b) H := got_rep r (.bl _) q
    rcases in_cases r h1 h2 e1 with ⟨a, ov, g1, g2, rfl⟩ | ⟨d, ds, g1, g2, g3, g4, rfl⟩ | ⟨p, xs, g1, g2, g3, g4, rfl⟩
    · exact .inl (.inl ⟨a, ov, g1, g2, fin⟩)
    · exact .inl (.inr ⟨d, ds, g1, g2, g3, g4, fin⟩)
    · exact .inr ⟨p, xs, g1, g2, g3, g4, fin⟩
theorem serves_notIn : Serves K (.cmp .NotIn) (two (rNotInA K)) := by
  refine serves2 rfl ?_
  intro B M o τ Fz σ s H v1 v2 d1 d2 x Q r h1 h2 e q
  simp only [primD, arg2, cmpD] at e
  cases e1 : inD d1 d2 with
  | none => rw [e1] at e; cases e
  | some b =>
    rw [e1] at e
    cases e
    have fin : Q (.bl (!b)) H := got_rep r (.bl _) q
    rcases in_cases r h1 h2 e1 with ⟨a, ov, g1, g2, rfl⟩ | ⟨d, ds, g1, g2, g3, g4, rfl⟩ | ⟨p, xs, g1, g2, g3, g4, rfl⟩
    · exact .inl (.inl ⟨a, ov, g1, g2, fin⟩)
    · exact .inl (.inr ⟨d, ds, g1, g2, g3, g4, fin⟩)
    · exact .inr ⟨p, xs, g1, g2, g3, g4, fin⟩
theorem ix_dict (hu : X.A.units + 1 < cLine) : IxR X (fun x y H Q => ∃ a v, x = .ref a ∧ DGet H a y (some v) ∧ Q v H) := by
  intro value slice pins s σ H x y v u Q I rx ry h hs
  obtain ⟨a, w, rfl, g, q⟩ := h
  cases rx
  exact PyProof.Rows.tail_any (ops := [.ref a, u]) (dict_typeIs I g) PySem.F.slot_dict_getitem.lookup (d_getItem hu I g ry fun w' s3 I3 rw' => ⟨w, H, I3, rw', q⟩) hs
theorem ix_D (hu : X.A.units + 1 < cLine) : IxR X (rIxD X.K) := ix_A.or (ix_dict hu)
def rSl (K : PySem.W.Frag) (lo hi : Bool) : List V → Hp → VK → Prop := fun vs H Q => match lo, hi, vs with
  | true, false, [x, i] => ∃ k, i = .int k ∧ rSlice K x (some k) none H Q
  | false, true, [x, j] => ∃ k, j = .int k ∧ rSlice K x none (some k) H Q
  | true, true, [x, i, j] => ∃ k l, i = .int k ∧ j = .int l ∧ rSlice K x (some k) (some l) H Q
  | _, _, _ => False
theorem serves_sl (lo hi : Bool) : Serves K (.sl lo hi) (rSl K lo hi) := by
  intro B M o τ Fz σ s H vs ds x Q rs pv e q
  have e' : slArgs lo hi ds = some x := e
  cases pv with
  | nil => cases lo <;> cases hi <;> simp [slArgs] at e'
  | cons h1 t =>
    cases t with
    | nil => cases lo <;> cases hi <;> simp [slArgs] at e'
    | @cons _ d2 _ _ h2 t =>
      cases t with
      | nil =>
        cases lo <;> cases hi <;> cases d2 <;> simp [slArgs] at e'
        · cases h2.int; exact ⟨_, rfl, slice_ok rs h1 e' q⟩
        · cases h2.int; exact ⟨_, rfl, slice_ok rs h1 e' q⟩
      | @cons _ d3 _ _ h3 t =>
        cases t with
        | nil =>
          cases lo <;> cases hi <;> cases d2 <;> cases d3 <;> simp [slArgs] at e'
          cases h2.int; cases h3.int
          exact ⟨_, _, rfl, rfl, slice_ok rs h1 e' q⟩
        | cons _ _ => cases lo <;> cases hi <;> cases d2 <;> cases d3 <;> simp [slArgs] at e'
theorem je_slL {a l : Expr} {e1 e2 : Ex} {p2 pos : Pos} (ha : JO X ca W a (evOp F e1)) (hl : JO X ca W l (evOp F e2)) : JE X ca W (.Subscript a (.Slice (some l) none none p2) pos) (evE F (.prim (.sl true false) (.cons e1 (.cons e2 .nil)))) := by
  refine PE.imp (pe_slice sl_any ha (po_some hl) po_none) fun σ H Q h => ?_
  have q := prim_imp (serves_sl (K := X.K) true false) h
  rw [evO_cons] at q
  refine tvO.mono (tvOs_cons q) fun x H1 q => ?_
  rw [evO_cons] at q
  refine tvO.mono (tvOs_cons q) fun y H2 q => ?_
  have q := tvOs_nil (K := X.K) (ca := ca) (W := W) (by simpa only [evO] using q)
  exact q
theorem je_slH {a l : Expr} {e1 e2 : Ex} {p2 pos : Pos} (ha : JO X ca W a (evOp F e1)) (hl : JO X ca W l (evOp F e2)) : JE X ca W (.Subscript a (.Slice none (some l) none p2) pos) (evE F (.prim (.sl false true) (.cons e1 (.cons e2 .nil)))) := by
  refine PE.imp (pe_slice sl_any ha po_none (po_some hl)) fun σ H Q h => ?_
  have q := prim_imp (serves_sl (K := X.K) false true) h
  rw [evO_cons] at q
  refine tvO.mono (tvOs_cons q) fun x H1 q => ?_
  rw [evO_cons] at q
  refine tvO.mono (tvOs_cons q) fun y H2 q => ?_
  have q := tvOs_nil (K := X.K) (ca := ca) (W := W) (by simpa only [evO] using q)
  exact q
theorem chk_int {e : Ex} {σ : L2.St} {H : Hp} {Q : VK} (h : tvO K ca W (evOp F (.chkI e)) σ H Q) : tvE K ca W (evE F e) σ H fun y H2 => ∃ i, y = .int i ∧ Q y H2 := by
  have h := tvO_of_tvE (m := evE F (.chkI e)) h
  obtain ⟨B, M, o, τ, Fz, s, r, h⟩ := h
  unfold evE at h
  refine ⟨B, M, o, τ, Fz, s, r, h.bnd_.mono (fun x s' q v H' rt => ?_) fun _ _ z => z⟩
  obtain ⟨d, fr⟩ := x
  cases d with
  | int i =>
    have rt1 : RelS K B M o τ ((v, D.int i) :: Fz) σ s' H' := rt.one
    have e := rt1.fz (v, .int i) List.mem_cons_self
    cases e
    exact ⟨i, rfl, WPm.ret_ q _ H' rt1⟩
  | _ => exact WPm.stk_ q
theorem je_slB {a l m : Expr} {e1 e2 e3 : Ex} {p2 pos : Pos} (ha : JO X ca W a (evOp F e1)) (hl : JE X ca W l (evE F e2)) (hm : JO X ca W m (evOp F e3)) : JE X ca W (.Subscript a (.Slice (some l) (some m) none p2) pos) (evE F (.prim (.sl true true) (.cons e1 (.cons (.chkI e2) (.cons e3 .nil))))) := by
  refine PE.imp (pe_slice sl_any ha (po_some hl) (po_some hm)) fun σ H Q h => ?_
  have q := prim_imp (serves_sl (K := X.K) true true) h
  rw [evO_cons] at q
  refine tvO.mono (tvOs_cons q) fun x H1 q => ?_
  rw [evO_cons] at q
  refine tvE.mono (chk_int (tvOs_cons q)) fun y H2 q => ?_
  obtain ⟨i, rfl, q⟩ := q
  refine ⟨i, rfl, ?_⟩
  rw [evO_cons] at q
  refine tvO.mono (tvOs_cons q) fun z H3 q => ?_
  have q := tvOs_nil (K := X.K) (ca := ca) (W := W) (by simpa only [evO] using q)
  obtain ⟨i', j, e, rfl, q⟩ := q
  cases e
  exact ⟨j, rfl, q⟩
end
end Vf
namespace Vf
open PySem PySem.Spec PyProof.Rows L2

section
variable {prog : Program} {w : World} {A : Around} {E : Value → Shared → Prop} {s : Shared}
theorem slApp_rev {sl : Addr} {vl vu vs : Value} {n : Nat} {Q : Int × Int × Nat → Shared → Prop} (hs : s.heap.IsSliceOf sl vl vu vs) (pl : IsPart vl none) (pu : IsPart vu none) (ps : IsPart vs (some (-1)))
    (h : Q ((n : Int) - 1, -1, n) s) : wpAny (model prog w) A (Builtin.Slice.sliceApplied (.ref sl) (pure (n : Int))) Q E s := by
  obtain ⟨os, hos, hcs, hds⟩ := id hs
  unfold Builtin.Slice.sliceApplied Builtin.Slice.sliceFields
  refine wpAny_bind (wpAny_bind (wpAny_field hos hds (x := vl) rfl (wpAny_bind (wpAny_field hos hds (x := vu) rfl (wpAny_bind (wpAny_field hos hds (x := vs) rfl (wpAny_pure ?_)))))))
  refine wpAny_bind (HT.slicePart_ ps ?_)
  show wpAny _ _ (if ((-1 : Int) == 0) = true then _ else _) _ _ s
  rw [if_neg (by decide)]
  refine wpAny_bind (HT.slicePart_ pl (wpAny_bind (HT.slicePart_ pu (wpAny_bind (wpAny_pure ?_)))))
  show wpAny _ _ (pure ((n : Int) - 1, (-1 : Int), Builtin.Slice.slicePlaces ((n : Int) - 1) (-1) (-1))) _ _ s
  have e : Builtin.Slice.slicePlaces ((n : Int) - 1) (-1) (-1) = n := by
    unfold Builtin.Slice.slicePlaces
    have h1 : ¬ ((-1 : Int) > 0) := by omega
    simp only [h1, if_false]
    have h2 : (-(-1 : Int)) = 1 := by omega
    rw [h2, Int.ediv_one]
    split <;> omega
  rw [e]
  exact wpAny_pure h
theorem fm_congr {α β : Type} {f g : α → Option β} : ∀ {l : List α}, (∀ a ∈ l, f a = g a) → l.filterMap f = l.filterMap g
  | [], _ => rfl
  | a :: r, h => by
    rw [List.filterMap_cons, List.filterMap_cons, h a (List.mem_cons_self ..), fm_congr fun b hb => h b (List.mem_cons_of_mem _ hb)]
theorem pick_rev (xs : Array Value) : ((List.range xs.size).filterMap fun (m : Nat) => xs[(((xs.size : Int) - 1) + (m : Int) * (-1)).toNat]?).toArray = xs.toList.reverse.toArray := by
  have e : ((List.range xs.size).filterMap fun (m : Nat) => xs[(((xs.size : Int) - 1) + (m : Int) * (-1)).toNat]?) = xs.toList.reverse := by
    have e2 : ((List.range xs.size).filterMap fun (m : Nat) => xs[(((xs.size : Int) - 1) + (m : Int) * (-1)).toNat]?) = (List.range xs.size).filterMap fun m => xs.toList.reverse[m]? := by
      refine fm_congr fun m hm => ?_
      have hm : m < xs.size := List.mem_range.mp hm
      have : (((xs.size : Int) - 1) + (m : Int) * (-1)).toNat = xs.size - 1 - m := by omega
      rw [this, List.getElem?_reverse (by simpa using hm)]
      simp
    rw [e2]
    have : ∀ l : List Value, (List.range l.length).filterMap (fun m => l[m]?) = l := fun l => by
      induction l with
      | nil => rfl
      | cons a r ih =>
        rw [List.length_cons, List.range_succ_eq_map, List.filterMap_cons]
        simp only [List.getElem?_cons_zero, List.filterMap_map]
        congr 1
    have := this xs.toList.reverse
    rw [List.length_reverse, Array.length_toList] at this
    exact this
  rw [e]
theorem getItem_tuple_rev {t sl : Addr} {items : Array Value} {vl vu vs : Value} {Q : Value → Shared → Prop} (ht : IsTup s.heap t items) (hs : s.heap.IsSliceOf sl vl vu vs) (pl : IsPart vl none) (pu : IsPart vu none) (ps : IsPart vs (some (-1)))
    (h : Q (.ref s.heap.objs.size) { s with heap := s.heap.push { cls := .type "tuple", data := .seq items.toList.reverse.toArray } })
    (hsz : items.size ≤ sizeLine) : wpAny (model prog w) A (getItem (.ref t) (.ref sl)) Q E s := by
  have htake : sizeOk (.seq items.toList.reverse.toArray) := by
    show items.toList.reverse.toArray.size ≤ sizeLine
    rw [List.size_toArray, List.length_reverse, Array.length_toList]
    exact hsz
  obtain ⟨os, hos, hcs, hds⟩ := id hs
  have hTs : s.TypeIs (.ref sl) "slice" := ⟨os, hos, hcs⟩
  unfold getItem
  try with_reducible refine wpAny_holding ?_
  first | refine wpAny_bind (wpAny_pure ?_) | skip
  refine wpAny_bind (wpAny_sequenceKey ht.typeIs (by decide) ?_)
  refine wpAny_bind (wpAny_callSpecial?_slot (name := Str.ofString "__getitem__") ht.typeIs PyProof.Rows.slot_tuple_getitem
    (wpAny_call_entry PyProof.Rows.slot_tuple_getitem ht.typeIs entry_tuple_getitem ?_ (args_tuple_getitem _ _)))
  show wpAny _ _ (Builtin.Tuple.tupleItemsOf (.ref t) >>= _) _ _ s
  refine wpAny_bind (tupleItemsOf_ ht ?_)
  refine wpAny_bind (wpAny_typeOf hTs ?_)
  rw [if_pos (by decide)]
  refine wpAny_bind (slApp_rev hs pl pu ps ?_)
  have hno : ¬ ((((items.size : Int) - 1) == 0 && (-1 : Int) == 1 && items.size == items.size) = true) := by
    intro q
    rw [Bool.and_eq_true, Bool.and_eq_true] at q
    exact absurd q.1.2 (by decide)
  show wpAny _ _ (if (((items.size : Int) - 1) == 0 && (-1 : Int) == 1 && items.size == items.size) = true then _ else _) _ _ s
  rw [if_neg hno, pick_rev]
  first
    | exact wpAny_bind (m := Builtin.Tuple.tupleExact _) (wpAny_newObj_type (wpAny_pure ⟨_, rfl, wpAny_pure h⟩) htake)
    | exact wpAny_bind (m := Builtin.Tuple.tupleExact _) (wpAny_newObj_type (wpAny_bind (wpAny_pure (wpAny_pure ⟨_, rfl, wpAny_pure h⟩))) htake)
    | exact wpAny_bind (wpAny_bind (m := Builtin.Tuple.tupleExact _) (wpAny_newObj_type (wpAny_pure (wpAny_pure ⟨_, rfl, wpAny_pure h⟩)) htake))
    | exact wpAny_bind (wpAny_bind (m := Builtin.Tuple.tupleExact _) (wpAny_newObj_type (wpAny_pure ⟨_, rfl, wpAny_pure h⟩) htake))
end
section
variable {X : Cx}
def rRevA (K : PySem.W.Frag) : V → Hp → VK → Prop := fun x H1 Q => ∃ a xs, x = .ref a ∧ ((SqL K H1 a xs ∧ ∀ p, H1 p = none → Q (.ref p) (upd H1 p (.lst xs.reverse))) ∨ (SqT K H1 a xs ∧ ∀ p, H1 p = none → Q (.ref p) (upd H1 p (.tup xs.reverse))))
def tRevA (K : PySem.W.Frag) (te : TE) : TE := fun σ H Q => te σ H fun x H1 => rRevA K x H1 Q
theorem pe_revA {e : Expr} {te : TE} {k : Nat} {p1 p2 p3 pos : Pos} (he : PE X e te) : PE X (.Subscript e (.Slice none none (some (.UnaryOp .USub (.Constant (.int 1) k p1) p2)) p3) pos) (tRevA X.K te) := by
  refine ⟨fun pins s σ H Q I h => ?_⟩
  refine Subscript_ (thn (he.run pins s σ H _ I h) fun v s1 ⟨x, H1, I1, r1, q1⟩ => ?_)
  obtain ⟨a, xs, ex, hx⟩ := q1
  subst ex
  cases r1
  have hst : PO X (some (.UnaryOp .USub (.Constant (.int 1) k p1) p2)) (tPart (tUn (rU fun i => .int (-i)) (tC (.int 1)))) := po_some (pe_un un_neg pe_int)
  refine wpAny_Slice (thn (po_none.run pins s1 σ H1 (fun o H2 => o = none ∧ H2 = H1) I1 ⟨rfl, rfl⟩) fun vl s2 ⟨l, H2, I2, pl, el, e2⟩ => ?_)
  subst el e2
  refine thn (po_none.run pins s2 σ H2 (fun o H3 => o = none ∧ H3 = H2) I2 ⟨rfl, rfl⟩) fun vu s3 ⟨u, H3, I3, pu, eu, e3⟩ => ?_
  subst eu e3
  refine thn (hst.run pins s3 σ H3 (fun o H4 => o = some (-1) ∧ H4 = H3) I3 ⟨1, rfl, -1, rfl, rfl, rfl⟩) fun vs s4 ⟨o, H4, I4, ps, eo, e4⟩ => ?_
  subst eo e4
  have I5 : Inv X pins σ H4 { s4 with heap := s4.heap.push { cls := .type "slice", data := .fields #[vl, vu, vs] } } := I4.kept (t' := s4.toks) fun b ob q => Heap.get?_push_of_some _ q
  rcases hx with ⟨hx, q⟩ | ⟨hx, q⟩
  · obtain ⟨its, r, ht, hz⟩ := I5.list hx
    have hlen := r.length
    show wpAny (model X.prog X.w) X.A (subscriptTail e (.Slice none none (some (.UnaryOp .USub (.Constant (.int 1) k p1) p2)) p3) (.ref a) (.ref s4.heap.objs.size)) (EP X pins σ Q) X.xe { s4 with heap := s4.heap.push { cls := .type "slice", data := .fields #[vl, vu, vs] } }
    refine tail_any (ops := [.ref a, .ref s4.heap.objs.size]) ht.isList.typeIs (PySem.slot_list_getitem.lookup) ?_ (by with_unfolding_all rfl)
    refine wpAny_getItem_list_slice ht.isList (Heap.IsSliceOf.new _ vl vu vs) pl pu ps (by decide) ?_ (by rw [List.size_toArray]; omega)
    rw [PySem.W.krv_pick]
    refine ⟨.ref _, _, I5.laid (t' := s4.toks) (o := .lst xs.reverse) (fun b ob q => Heap.get?_push_of_some _ q) (Nat.le_refl _) ?_, rfl, q _ (I5.hok.fresh (Nat.le_refl _))⟩
    exact ⟨by rw [List.length_reverse]; exact hz, _, 0, r.reverse, Heap.get?_push_size _ rfl⟩
  · obtain ⟨its, r, ht, hz⟩ := I5.tuple hx
    have hlen := r.length
    show wpAny (model X.prog X.w) X.A (subscriptTail e (.Slice none none (some (.UnaryOp .USub (.Constant (.int 1) k p1) p2)) p3) (.ref a) (.ref s4.heap.objs.size)) (EP X pins σ Q) X.xe { s4 with heap := s4.heap.push { cls := .type "slice", data := .fields #[vl, vu, vs] } }
    refine tail_any (ops := [.ref a, .ref s4.heap.objs.size]) ht.typeIs (PyProof.Rows.slot_tuple_getitem.lookup) ?_ (by with_unfolding_all rfl)
    refine getItem_tuple_rev ht (Heap.IsSliceOf.new _ vl vu vs) pl pu ps ?_ (by rw [List.size_toArray]; omega)
    refine ⟨.ref _, _, I5.laid (t' := s4.toks) (o := .tup xs.reverse) (fun b ob q => Heap.get?_push_of_some _ q) (Nat.le_refl _) ?_, rfl, q _ (I5.hok.fresh (Nat.le_refl _))⟩
    exact ⟨by rw [List.length_reverse]; exact hz, _, r.reverse, ⟨_, Heap.get?_push_size _ rfl, rfl, 0, by simp⟩⟩
end
section
variable {K : PySem.W.Frag} {W : WX} {F : FT} {ca : Nat → Addr} {X : Cx}
theorem serves_rev : Serves K .rev (one_ (rRevA K)) := by
  refine serves1 rfl ?_
  intro B M o τ Fz σ s H v1 d1 x Q r h1 e q
  simp only [primD, arg1] at e
  cases d1 with
  | tup ds =>
    simp only [revD] at e
    cases e
    obtain ⟨a, xs, rfl, g1, r1, n1⟩ := h1.tup
    exact ⟨a, xs, rfl, .inr ⟨.of g1, got_tup r (RepAll.rev r1) q⟩⟩
  | lst ds =>
    simp only [revD] at e
    cases e
    obtain ⟨a, xs, rfl, g1, r1⟩ := h1.lst
    exact ⟨a, xs, rfl, .inl ⟨.of g1, got_lst r (RepAll.rev r1) q⟩⟩
  | _ => simp [revD] at e
theorem je_rev {a : Expr} {e1 : Ex} {k : Nat} {p1 p2 p3 pos : Pos} (ha : JO X ca W a (evOp F e1)) : JE X ca W (.Subscript a (.Slice none none (some (.UnaryOp .USub (.Constant (.int 1) k p1) p2)) p3) pos) (evE F (.prim .rev (.cons e1 .nil))) :=
  PE.imp (pe_revA ha) fun σ H Q h => evO_1 (prim_imp serves_rev h)
end
end Vf
namespace Vf
open PySem PySem.Spec PyProof.Rows L2

theorem meets_enumT (l : Addr) (items : Array Value) :
    Meets (Builtin.«enumerate.__new__» ⟨[.type "enumerate", .ref l], []⟩) (fun _ R s => s.heap.IsTuple l items ∧
      R (.ok (.ret (.ref (s.heap.push { cls := .type "tuple_iterator", data := .fields #[.ref l, .int 0 0] }).objs.size)))
        { s with heap := (s.heap.push { cls := .type "tuple_iterator", data := .fields #[.ref l, .int 0 0] }).push { cls := .type "enumerate", data := .fields #[.none, .bool false, .ref s.heap.objs.size, rawInt 0, .none, .none] } }) :=
  .of_wp fun prog w A R s h => by
    obtain ⟨hp, g, d, tk, os⟩ := s; obtain ⟨hl, h⟩ := h
    have hsub := sub_enumerate
    have q1 : ∀ {A' : Around} {E : Value → Shared → Prop} {Q : Value → Shared → Prop}, Q (.ref hp.objs.size) ⟨hp.push { cls := .type "tuple_iterator", data := .fields #[.ref l, .int 0 0] }, g, d, tk, os⟩ → wpAny (model prog w) A' (pyIter (.ref l)) Q E ⟨hp, g, d, tk, os⟩ :=
      fun q => wpAny_pyIter_tuple hl q
    wp_walk using q1
    refine wpAny_stack_any fun st => wpAny_pure ?_
    split
    · rename_i c _ _ _ _ _
      cases (c == Value.type "enumerate")
      · wp_walk using q1
        exact ⟨_, rfl, h⟩
      · wp_walk using q1
        exact ⟨_, rfl, h⟩
    · wp_walk using q1
      exact ⟨_, rfl, h⟩
theorem call_enumT {prog : Program} {w : World} {A : Around} {E : Value → Shared → Prop} {s : Shared} {l : Addr} {items : Array Value} {Q : Value → Shared → Prop} (hL : s.heap.IsTuple l items)
    (h : ∀ h', IsEnum h' (s.heap.objs.size + 1) s.heap.objs.size 0 .none → h'.IsTupleIter s.heap.objs.size l 0 → h'.objs.size = s.heap.objs.size + 2 →
      (∀ b o, s.heap.get? b = some o → h'.get? b = some o) → Q (.ref (s.heap.objs.size + 1)) { s with heap := h' }) :
    wpAny (model prog w) A (call (.type "enumerate") [.ref l]) Q E s := by
  refine callType_new F.called_enumerate (by decide) (F.typeCall_enumerate_1 _) (F.newCall_enumerate_1 _) (fun obj => F.args_object_init_2 obj _) F.entry_enumerate_new
    (meets_enumT l items) ⟨hL, ?_⟩
  have hz : (s.heap.push { cls := .type "tuple_iterator", data := .fields #[.ref l, .int 0 0] }).objs.size = s.heap.objs.size + 1 := Heap.size_push ..
  show _ ∧ _
  rw [hz]
  have he : IsEnum ((s.heap.push { cls := .type "tuple_iterator", data := .fields #[.ref l, .int 0 0] }).push
      { cls := .type "enumerate", data := .fields #[.none, .bool false, .ref s.heap.objs.size, rawInt 0, .none, .none] }) (s.heap.objs.size + 1) s.heap.objs.size 0 .none := by
    have := Heap.get?_push_size (s.heap.push { cls := .type "tuple_iterator", data := .fields #[.ref l, .int 0 0] })
      (o := { cls := .type "enumerate", data := .fields #[.none, .bool false, .ref s.heap.objs.size, rawInt 0, .none, .none] }) rfl
    rw [hz] at this; exact this
  refine ⟨⟨_, he, rfl⟩, h _ he ⟨_, Heap.get?_push_of_some _ (Heap.get?_push_size _ rfl), rfl, rfl⟩ (by rw [Heap.size_push, hz]) fun b o x => Heap.get?_push_of_some _ (Heap.get?_push_of_some _ x)⟩
theorem enumT_end {prog : Program} {w : World} {A : Around} {E : Value → Shared → Prop} {s : Shared} {e it l : Addr} {items : Array Value} {j : Nat} {i : Int} {old : Value} {Q : Option Value → Shared → Prop} (hh : A.handled = none)
    (he : IsEnum s.heap e it i old) (hit : s.heap.IsTupleIter it l j) (ht : s.heap.IsTuple l items) (hx : items[j]? = none)
    (hQ : ∀ h', Heap.ExtBut it s.heap h' → Q none { s with heap := h' }) : wpAny (model prog w) A (pyNext (.ref e)) Q E s := by
  have hT : s.TypeIs (.ref e) "enumerate" := ⟨_, he, rfl⟩
  unfold pyNext
  refine wpAny_bind (wpAny_attempt (wpAny_callSpecial?_slot (name := Str.ofString "__next__") hT F.slot_enumerate_next
    (wpAny_call_entry F.slot_enumerate_next hT F.entry_enumerate_next ?_ (F.args_enumerate_next_1 _))))
  show wpAny _ _ (field (.ref e) 2 >>= _) _ _ _
  refine wpAny_bind (wpAny_field he rfl (x := .ref it) rfl ?_)
  refine wpAny_bind (wpAny_nextOf_tuple_end (A := A.in1) hh hit ht hx fun h' x he' hx' => ?_)
  obtain ⟨o, ho, hc⟩ := hx'
  refine wpAny_bind (wpAny_isInstance (T := "StopIteration") (b := true) ⟨o, ho, hc⟩ isSubtype_stop ?_)
  exact wpAny_pure (hQ _ he')
def IteT (K : PySem.W.Frag) (a : Addr) : L2.It :=
  ⟨fun i H => ∃ (xs : List V) (x : V), SqT K H a xs ∧ xs[i]? = some x, fun i H v H' => ∃ T x, v = .ref T ∧ H T = none ∧ H' = upd H T (.tup [.int (i : Nat), x]) ∧ ∀ xs, SqT K H a xs → xs[i]? = some x, fun i H => ∃ xs : List V, SqT K H a xs ∧ xs.length ≤ i⟩
theorem turn_enumT {P : Program} {w : World} {K : PySem.W.Frag} {elts : List Expr} {kk : Nat} {tpos : Pos} (a e it : Addr) (hat : a ≠ it) (hae : a ≠ e) :
    Turn P w K (.Tuple elts kk tpos) (IteT K a) [e, it] e (fun i h => (∃ old, IsEnum h e it ((i : Nat) : Int) old) ∧ h.IsTupleIter it a i ∧ e ≠ it) where
  mem := by simp
  obj := fun i h st b hb => by
    obtain ⟨⟨old, he⟩, ⟨o, ho, hc, hd⟩, _⟩ := st
    have e' : b = e ∨ b = it := by simpa using hb
    rcases e' with z | z
    · rw [z]; exact ⟨_, he, fun v q => nomatch q⟩
    · rw [z]; exact ⟨o, ho, fun v q => by rw [hd] at q; cases q⟩
  keep := fun i h h' st k => let ⟨⟨old, he⟩, hi, hne⟩ := st; ⟨⟨old, k e (by simp) _ he⟩, hi.at fun o q => k it (by simp) o q, hne⟩
  item := by
    intro X hP hw hK hc i pins s σ H E I hf st hg
    subst hP hw hK
    obtain ⟨⟨old, he⟩, hit, hne⟩ := st
    obtain ⟨xs, x, hq, hx⟩ := hg
    obtain ⟨its, rv, p, hz⟩ := I.tuple hq
    obtain ⟨u, hu, ru⟩ := rv.get hx
    have hel : e < s.heap.objs.size := Heap.lt_size he
    have hil : it < s.heap.objs.size := by obtain ⟨_, q, _⟩ := hit; exact Heap.lt_size q
    have hi2 : i < its.toArray.size := by
      rw [List.size_toArray, ← rv.length]
      exact (List.getElem?_eq_some_iff.mp hx).1
    refine wpAny_pyNext_enum_itemD (Draws.tuple (A := X.A.in1) (I.ok.hd hc) it a hat its.toArray) he ⟨hit, p⟩ hi2 hne (by simp [hne, Ne.symm hae]) fun y h' tk hy ho hst hT hsz hk => ?_
    have hit' : h'.IsTupleIter it a (i + 1) := hst.1
    have ey : y = u := by
      have hy' : its.toArray[i]? = some y := hy
      have hu' : its.toArray[i]? = some u := by simpa using hu
      rw [hy'] at hu'; exact Option.some.inj hu'
    subst ey
    refine ⟨_, rfl, wpAny_letOwnedTupleGo_enum (s := { s with heap := h', toks := tk + 1 }) ho fun h'' he' sb => ?_⟩
    have hT2 : h''.get? s.heap.objs.size = some { cls := .type "tuple", data := .seq #[.int i tk, y] } := (sb.2 _ (Nat.ne_of_gt hel)).trans hT
    have new : ObjOk X.prog X.w (upd H s.heap.objs.size (.tup [.int (i : Nat), x])) h'' s.heap.objs.size (.tup [.int (i : Nat), x]) :=
      ⟨by show 2 ≤ sizeLine; decide, [.int i tk, y], .cons ⟨_, rfl⟩ (.cons ru .nil), ⟨_, hT2, rfl, _, rfl⟩⟩
    have I1 : Inv X pins σ (upd H s.heap.objs.size (.tup [.int (i : Nat), x])) { s with heap := h'', toks := tk + 1 } :=
      I.turnedNew (ch := [e, it]) (fun b ob hb q => (sb.2 b (fun z => hb (by simp [z]))).trans (hk b ob (fun z => hb (by simp [z])) (fun z => hb (by simp [z])) q)) hf (Nat.le_refl _) new
    refine ⟨.ref s.heap.objs.size, _, I1, rfl, ⟨_, x, rfl, I.hok.fresh (Nat.le_refl _), rfl, fun ys hy => by rw [I.tuple_inj hy hq]; exact hx⟩, ⟨⟨y, ?_⟩, hit'.at fun o q => (sb.2 it (Ne.symm hne)).trans q, hne⟩, fun b hb => ?_⟩
    · have e1 : ((i + 1 : Nat) : Int) = (i : Int) + 1 := by omega
      rw [e1]; exact he'
    · have hb' : b < s.heap.objs.size := by
        have e' : b = e ∨ b = it := by simpa using hb
        rcases e' with z | z
        · rw [z]; exact hel
        · rw [z]; exact hil
      rw [upd_ne (Nat.ne_of_lt hb')]
      exact (hf b hb).1
  done := by
    intro X hP hw hK hc i pins s σ H E I hf st hg
    subst hP hw hK
    obtain ⟨⟨old, he⟩, hit, hne⟩ := st
    obtain ⟨xs, hq, hx⟩ := hg
    obtain ⟨its, rv, p, hz⟩ := I.tuple hq
    obtain ⟨f0, f1, f2, f3, f4, f5⟩ := hf it (by simp)
    have hl := rv.length
    refine enumT_end (I.ok.hd hc) he hit p (by simp; omega) fun h' eb => ⟨rfl, I.turned (t' := s.toks) (fun b o hb q => eb b o hb q) f0 f1 f3 f4 f5⟩
  self := fun A i s Q E st h => let ⟨⟨_, he⟩, _⟩ := st; wpAny_pyIter_enum he h
def iEnumA (K : PySem.W.Frag) (ta : TA) : TI := fun σ H R => ta σ H fun vs H1 => ∃ a xs, vs = [.ref a] ∧ ((SqL K H1 a xs ∧ R (Ite K a) H1) ∨ (SqT K H1 a xs ∧ R (IteT K a) H1))
theorem pi_enumA {X : Cx} {e : Expr} {ta : TA} {p pos tpos : Pos} {elts : List Expr} {kk : Nat} (hg : L2.Gl X "enumerate") (hm : X.mg "enumerate" = none) (ha : PA X [e] ta) (hs : starEach [e] X.env = [(false, eval e X.env)]) :
    PI X (.Tuple elts kk tpos) (.Call (.Name "enumerate" p) [e] [] pos) (iEnumA X.K ta) := by
  refine ⟨fun pins s σ H R I h => ?_⟩
  refine Call_ (ld_blt I hg hm boot_enumerate (PyProof.Rows.callWith_type1 (thn (ha.run pos pins s σ H _ I h) fun us s1 ⟨vs, H1, I1, r1, q1⟩ => ?_) hs rfl))
  obtain ⟨a, xs, ex, q1⟩ := q1
  subst ex
  cases r1 with
  | cons r rr =>
    cases rr
    cases r
    have fp : ∀ b ∈ [s1.heap.objs.size + 1, s1.heap.objs.size], FpOk X pins H1 b := fun b hb => by
      have e' : b = s1.heap.objs.size + 1 ∨ b = s1.heap.objs.size := by simpa using hb
      have hle : s1.heap.objs.size ≤ b := by
        rcases e' with z | z
        · rw [z]; exact Nat.le_add_right _ _
        · rw [z]; exact Nat.le_refl _
      exact I1.fpOk hle (I1.hok.fresh hle)
    rcases q1 with ⟨hq, q⟩ | ⟨hq, q⟩
    · obtain ⟨its, rv, p', hz⟩ := I1.list hq
      refine call_enumerate_list p'.isList fun h' he hit hsz hk => wpAny_pyIter_enum he ?_
      have I2 : Inv X pins σ H1 { s1 with heap := h' } := I1.kept (t' := s1.toks) hk
      exact ⟨s1.heap.objs.size + 1, [s1.heap.objs.size + 1, s1.heap.objs.size], _, _, H1, rfl, I2, turn_enum a (s1.heap.objs.size + 1) s1.heap.objs.size, ⟨⟨.none, he⟩, hit, Nat.succ_ne_self _⟩, fp, q⟩
    · obtain ⟨its, rv, p', hz⟩ := I1.tuple hq
      have hal : a < s1.heap.objs.size := p'.lt
      refine call_enumT p' fun h' he hit hsz hk => wpAny_pyIter_enum he ?_
      have I2 : Inv X pins σ H1 { s1 with heap := h' } := I1.kept (t' := s1.toks) hk
      exact ⟨s1.heap.objs.size + 1, [s1.heap.objs.size + 1, s1.heap.objs.size], _, _, H1, rfl, I2, turn_enumT a (s1.heap.objs.size + 1) s1.heap.objs.size (Nat.ne_of_lt hal) (Nat.ne_of_lt (Nat.lt_succ_of_lt hal)), ⟨⟨.none, he⟩, hit, Nat.succ_ne_self _⟩, fp, q⟩
def iSeqA (K : PySem.W.Frag) (tl : TE) : TI := fun σ H R => tl σ H fun x H1 => ∃ a xs, x = .ref a ∧ ((SqL K H1 a xs ∧ R (Itl K a) H1) ∨ (SqT K H1 a xs ∧ R (Itt K a) H1))
theorem pi_seqA {X : Cx} {tg l : Expr} {tl : TE} (hl : PE X l tl) : PI X tg l (iSeqA X.K tl) := by
  refine ⟨fun pins s σ H R I h => ?_⟩
  refine thn (hl.run pins s σ H _ I h) fun v s1 ⟨x, H1, I1, r1, q1⟩ => ?_
  obtain ⟨a, xs, e, q1⟩ := q1
  subst e
  cases r1
  have fp : ∀ b ∈ [s1.heap.objs.size], FpOk X pins H1 b := fun b hb => by
    have e : b = s1.heap.objs.size := by simpa using hb
    subst e
    exact I1.fpOk (Nat.le_refl _) (I1.hok.fresh (Nat.le_refl _))
  rcases q1 with ⟨hq, q⟩ | ⟨hq, q⟩
  · obtain ⟨its, rv, p, hz⟩ := I1.list hq
    refine wpAny_pyIter_list p.isList ?_
    exact ⟨s1.heap.objs.size, [s1.heap.objs.size], _, _, H1, rfl, I1.kept (t' := s1.toks) fun b o e => Heap.get?_push_of_some _ e, turn_list a _, ⟨_, Heap.get?_push_size _ rfl, rfl, rfl⟩, fp, q⟩
  · obtain ⟨its, rv, p, hz⟩ := I1.tuple hq
    refine wpAny_pyIter_tuple (show s1.heap.IsTuple a its.toArray from p) ?_
    exact ⟨s1.heap.objs.size, [s1.heap.objs.size], _, _, H1, rfl, I1.kept (t' := s1.toks) fun b o e => Heap.get?_push_of_some _ e, turn_tuple a _, ⟨_, Heap.get?_push_size _ rfl, rfl, rfl⟩, fp, q⟩
theorem walk_enumT {K : PySem.W.Frag} {a : Addr} {xs : List V} : Walk (IteT K a) xs.length (fun H => SqT K H a xs) (YPair (fun i => some (.int (i : Nat))) (fun i => xs[i]?)) := by
  refine ⟨fun i _ hi q => ⟨xs, xs[i], q, by simp [hi]⟩, fun _ q => ⟨xs, q, Nat.le_refl _⟩, fun i H v H' _ q y => ?_⟩
  obtain ⟨T, x, h1, h2, h3, h4⟩ := y
  exact ⟨T, .int (i : Nat), x, h1, h2, h3, rfl, h4 xs q⟩
theorem walk_zipT {K : PySem.W.Frag} {a b : Addr} {xs ys : List V} {n : Nat} (hn : n = min xs.length ys.length) : Walk (RZ.ItzT K a b) n (fun H => SqT K H a xs ∧ SqT K H b ys) (YPair (fun i => xs[i]?) (fun i => ys[i]?)) := by
  subst hn
  refine ⟨fun i _ hi q => ?_, fun _ q => ⟨xs, ys, q.1, q.2, by omega⟩, fun i H v H' _ q y => ?_⟩
  · have h1 : i < xs.length := by omega
    have h2 : i < ys.length := by omega
    exact ⟨xs, ys, xs[i], ys[i], q.1, q.2, by simp [h1], by simp [h2]⟩
  · obtain ⟨T, x, z, h1, h2, h3, h4, h5⟩ := y
    exact ⟨T, x, z, h1, h2, h3, h4 xs q.1, h5 ys q.2⟩
end Vf
namespace Vf
open PySem PySem.Spec PyProof.Rows L2

section
variable {K : PySem.W.Frag} {B B1 : Hp} {M : AP} {o : Nat → Addr} {τ : TA2} {Fz Fz1 : List (V × D)} {σ : L2.St} {s : S} {H : Hp}
noncomputable def pinB (B : Hp) (P : AP) (H : Hp) : Hp := open Classical in fun b => if P b then B b else match H b with
  | some u => some u
  | none => B b
theorem pinB_up {P : AP} (h : ∀ b u, B b = some u → ¬ TpA τ b → H b = some u) (hP : ∀ b, TpA τ b → P b) : ∀ b u, B b = some u → pinB B P H b = some u := fun b u e => by
  unfold pinB
  by_cases p : P b
  · rw [if_pos p]; exact e
  · rw [if_neg p, h b u e fun z => p (hP b z)]
theorem pinB_at {P : AP} {a : Addr} {u : HO} (n : ¬ P a) (h : H a = some u) : pinB B P H a = some u := by
  unfold pinB
  rw [if_neg n, h]
theorem RelS.pin (r : RelS K B M o τ Fz σ s H) : RelS K (pinB B (Prt M o τ s) H) M o τ Fz σ s H := by
  refine ⟨r.len, fun b u q n => ?_, r.fz, r.sh, fun i d w => ?_, r.inj, r.tp, r.mt⟩
  · unfold pinB at q
    split at q
    · exact r.keep b u q n
    · cases e : H b with
      | some x => rw [e] at q; exact q
      | none =>
        rw [e] at q
        have := r.keep b u q n
        rw [e] at this; cases this
  · obtain ⟨h1, h2, h3, h4, rest⟩ := r.ow i d w
    refine ⟨h1, h2, h3, ?_, rest⟩
    unfold pinB
    rw [if_pos (show Prt M o τ s (o i) from .inr (.inr ⟨i, d, w, rfl⟩))]
    exact h4
theorem RelS.pin_up (r : RelS K B M o τ Fz σ s H) : ∀ b u, B b = some u → pinB B (Prt M o τ s) H b = some u := pinB_up (τ := τ) r.keep fun b z => .inr (.inl z)
structure ItG (K : PySem.W.Frag) (τ : TA2) (M : AP) (B1 : Hp) (Fz1 : List (V × D)) (J : L2.It) (ds : List D) : Prop where
  ex : ∃ (G : Hp → Prop) (Y : Nat → Hp → V → Hp → Prop), Walk J ds.length G Y ∧ ∀ (B' : Hp) (M' : AP) (o : Nat → Addr) (σ : L2.St) (s : S) (H : Hp) (Fz' : List (V × D)), (∀ b u, ¬ M b → B1 b = some u → B' b = some u) → (∀ p ∈ Fz1, p ∈ Fz') →
    RelS K B' M' o τ Fz' σ s H → G H ∧ ∀ i x H' d, ds[i]? = some d → Y i H x H' → RelS K B' M' o τ ((x, d) :: Fz') σ s H'
def tvI (K : PySem.W.Frag) (ca : Nat → Addr) (W : WX) (m : Vf.M (List D)) : TI := fun σ H R => ∃ B M o τ Fz s, RelS K B M o τ Fz σ s H ∧ WPm m s (fun ds s' => ∀ J H' B1 Fz1, (∀ b u, B b = some u → B1 b = some u) → (∀ p ∈ Fz, p ∈ Fz1) → RelS K B1 M o τ Fz1 σ s' H' → ItG K τ M B1 Fz1 J ds → R J H') (EX K ca W B M o τ Fz σ)
abbrev JI (X : Cx) (ca : Nat → Addr) (W : WX) (tg it : Expr) (m : Vf.M (List D)) : Prop := PI X tg it (tvI X.K ca W m)
theorem RepAll.at_ {P : AP} {v : List V} {d : List D} (h : RepAll K P τ H v d) {i : Nat} {x : V} {e : D} (hx : v[i]? = some x) (he : d[i]? = some e) : Rep K P τ H x e := by
  obtain ⟨u, h1, h2⟩ := h.get he
  rw [hx] at h1; cases h1; exact h2
theorem itg_list {a : Addr} {xs : List V} {ds : List D} (r : RelS K B M o τ Fz σ s H) (hm : (.ref a, D.lst ds) ∈ Fz) (hx : H a = some (.lst xs)) : ItG K τ M (pinB B (Prt M o τ s) H) Fz (Itl K a) ds := by
  have rep := r.fz _ hm
  cases rep with
  | lst q ra =>
    obtain ⟨np, e⟩ := q
    rw [hx] at e
    have e := HO.lst.inj (Option.some.inj e)
    subst e
    have nt : ¬ TpA τ a := fun z => np (.inr (.inl z))
    refine ⟨fun H => SqL K H a xs, YAt xs, by rw [← ra.len]; exact walk_list, fun B' M' o' σ' s' H' Fz' hB hF r' => ?_⟩
    have ha : H' a = some (.lst xs) := r'.keep a _ (hB a _ (fun z => np (.inl z)) (pinB_at np hx)) nt
    refine ⟨.of ha, fun i x H2 d hd y => ?_⟩
    obtain ⟨rfl, hx'⟩ := y
    have rep' := r'.fz _ (hF _ hm)
    cases rep' with
    | lst q' ra' =>
      have e := q'.2
      rw [ha] at e
      have e := HO.lst.inj (Option.some.inj e)
      subst e
      exact r'.more1 (ra'.at_ hx' hd)
def TupAt (K : PySem.W.Frag) (P : AP) (H : Hp) (a : Addr) (xs : List V) : D → Prop
  | .tup _ => ¬ P a ∧ H a = some (.tup xs)
  | .ktup _ => KTu K a xs
  | _ => False
theorem tup_same {P : AP} {v : V} {d : D} {ds : List D} (ht : tupOf d = some ds) (h : Rep K P τ H v d) : ∃ a xs, v = .ref a ∧ SqT K H a xs ∧ RepAll K P τ H xs ds ∧ TupAt K P H a xs d := by
  cases h with
  | tup q ra => cases ht; exact ⟨_, _, rfl, .of q.2, ra, q⟩
  | ktup q ra => cases ht; exact ⟨_, _, rfl, .inr q, ra, q⟩
  | _ => cases ht
theorem ktu_inj {a : Addr} {xs ys : List V} (h : KTu K a xs) (h' : KTu K a ys) : xs = ys := by
  obtain ⟨o, its, n, h1, _, h2, _, h3⟩ := h
  obtain ⟨o', its', n', g1, _, g2, _, g3⟩ := h'
  rw [h1] at g1; cases g1
  rw [h2] at g2
  injection g2 with e1 e2
  subst e1
  exact h3.inj g3
theorem tup_keep {a : Addr} {d : D} {ds : List D} {xs : List V} (ht : tupOf d = some ds) (r : RelS K B M o τ Fz σ s H) (q : TupAt K (Prt M o τ s) H a xs d) {B' : Hp} {M' : AP} {o' : Nat → Addr} {σ' : L2.St} {s' : S} {H' : Hp} {Fz' : List (V × D)}
    (hB : ∀ b u, ¬ M b → pinB B (Prt M o τ s) H b = some u → B' b = some u) (r' : RelS K B' M' o' τ Fz' σ' s' H') (hm : (.ref a, d) ∈ Fz') : SqT K H' a xs ∧ RepAll K (Prt M' o' τ s') τ H' xs ds := by
  have rep := r'.fz _ hm
  cases d with
  | tup es =>
    obtain ⟨np, e⟩ := q
    have nt : ¬ TpA τ a := fun z => np (.inr (.inl z))
    have ha : H' a = some (.tup xs) := r'.keep a _ (hB a _ (fun z => np (.inl z)) (pinB_at np e)) nt
    cases ht
    refine ⟨.of ha, ?_⟩
    cases rep with
    | tup q ra =>
      have e := q.2
      rw [ha] at e
      have e := HO.tup.inj (Option.some.inj e)
      subst e; exact ra
  | ktup es =>
    cases ht
    refine ⟨.inr q, ?_⟩
    cases rep with
    | ktup q' ra => rw [ktu_inj q q']; exact ra
  | _ => cases ht
theorem lst_keep {a : Addr} {ds : List D} {xs : List V} (r : RelS K B M o τ Fz σ s H) (np : ¬ Prt M o τ s a) (hx : H a = some (.lst xs)) {B' : Hp} {M' : AP} {o' : Nat → Addr} {σ' : L2.St} {s' : S} {H' : Hp} {Fz' : List (V × D)}
    (hB : ∀ b u, ¬ M b → pinB B (Prt M o τ s) H b = some u → B' b = some u) (r' : RelS K B' M' o' τ Fz' σ' s' H') (hm : (.ref a, D.lst ds) ∈ Fz') : SqL K H' a xs ∧ RepAll K (Prt M' o' τ s') τ H' xs ds := by
  have rep := r'.fz _ hm
  have nt : ¬ TpA τ a := fun z => np (.inr (.inl z))
  have ha : H' a = some (.lst xs) := r'.keep a _ (hB a _ (fun z => np (.inl z)) (pinB_at np hx)) nt
  refine ⟨.of ha, ?_⟩
  cases rep with
  | lst q ra =>
    have e := q.2
    rw [ha] at e
    have e := HO.lst.inj (Option.some.inj e)
    subst e; exact ra
theorem pair_new {x1 x2 : V} {d1 d2 : D} {T : Addr} (r : RelS K B M o τ Fz σ s H) (hT : H T = none) (h1 : Rep K (Prt M o τ s) τ H x1 d1) (h2 : Rep K (Prt M o τ s) τ H x2 d2) : RelS K B M o τ ((.ref T, .tup [d1, d2]) :: Fz) σ s (upd H T (.tup [x1, x2])) :=
  r.new hT fun P H' mo e n => .tup ⟨n, e⟩ (.cons (h1.mo mo) (.cons (h2.mo mo) .nil))
theorem enumD_len : ∀ (n : Nat) (ds : List D), (enumD n ds).length = ds.length
  | _, [] => rfl
  | n, d :: ds => by simp [enumD, enumD_len (n + 1) ds]
theorem enumD_get : ∀ (n : Nat) (ds : List D) (i : Nat) (d : D), (enumD n ds)[i]? = some d → ∃ e, ds[i]? = some e ∧ d = .tup [.int ((n + i : Nat) : Int), e]
  | _, [], i, d, h => by simp [enumD] at h
  | n, x :: ds, 0, d, h => by simp [enumD] at h; exact ⟨x, rfl, h.symm⟩
  | n, x :: ds, i + 1, d, h => by
    have h' : (enumD (n + 1) ds)[i]? = some d := by simpa [enumD] using h
    obtain ⟨e, h1, h2⟩ := enumD_get (n + 1) ds i d h'
    exact ⟨e, by simpa using h1, by rw [h2, show n + 1 + i = n + (i + 1) by omega]⟩
theorem zip_get {xs ys : List D} {i : Nat} {d : D} (h : (List.zipWith pairD xs ys)[i]? = some d) : ∃ x y, xs[i]? = some x ∧ ys[i]? = some y ∧ d = .tup [x, y] := by
  rw [List.getElem?_zipWith] at h
  split at h
  · rename_i x y h1 h2
    cases h
    exact ⟨x, y, h1, h2, rfl⟩
  · cases h
theorem rangeD_len (i j : Int) : (rangeD i j).length = (j - i).toNat := by simp [rangeD]
theorem rangeD_get {i j : Int} {n : Nat} {d : D} (h : (rangeD i j)[n]? = some d) : d = .int (i + n) := by
  unfold rangeD at h
  rw [List.getElem?_map] at h
  cases q : (List.range (j - i).toNat)[n]? with
  | none => rw [q] at h; cases h
  | some k =>
    rw [q] at h
    cases h
    have := List.getElem?_range (n := (j - i).toNat) (i := n) (by
      have := (List.getElem?_eq_some_iff.mp q).1
      simpa using this)
    rw [this] at q
    cases q; rfl
end
section
variable {X : Cx} {W : WX} {F : FT} {ca : Nat → Addr} {tg : Expr}
theorem ji_ex {a : Expr} {e : Ex} (h : JE X ca W a (evE F e)) : JI X ca W tg a (evIt F (.ex e)) := by
  refine ⟨fun pins s σ H R I q => (pi_seqA (tg := tg) h).run pins s σ H R I ?_⟩
  obtain ⟨B, M, o, τ, Fz, s, r, q⟩ := q
  unfold evIt at q
  refine ⟨B, M, o, τ, Fz, s, r, q.bnd_.mono (fun x s' q v H' rt => ?_) fun _ _ z => z⟩
  have rt := rt.one
  unfold WPm at q
  cases e1 : seqOf x.1 with
  | none => rw [e1] at q; exact q.elim
  | some ds =>
    rw [e1] at q
    have hm : (v, x.1) ∈ (v, x.1) :: Fz := List.mem_cons_self
    have rep := rt.fz _ hm
    have key := fun (J : L2.It) => q J H' (pinB B (Prt M o τ s') H') ((v, x.1) :: Fz) rt.pin_up (fun p hp => List.mem_cons_of_mem _ hp) rt.pin
    obtain ⟨d, fr⟩ := x
    cases d with
    | lst es =>
      cases e1
      cases rep with
      | @lst a xs _ q1 ra =>
        refine ⟨a, xs, rfl, .inl ⟨.of q1.2, key (Itl X.K a) ⟨fun H => SqL X.K H a xs, YAt xs, by rw [← ra.len]; exact walk_list, fun B' M' o' σ' s2 H2 Fz' hB hF r' => ?_⟩⟩⟩
        obtain ⟨g1, g2⟩ := lst_keep rt q1.1 q1.2 hB r' (hF _ hm)
        exact ⟨g1, fun i y H3 d hd z => by obtain ⟨rfl, hx⟩ := z; exact r'.more1 (g2.at_ hx hd)⟩
    | tup es =>
      obtain ⟨a, xs, e0, h1, ra, ta⟩ := tup_same (ds := es) rfl rep
      subst e0
      cases e1
      refine ⟨a, xs, rfl, .inr ⟨h1, key (Itt X.K a) ⟨fun H => SqT X.K H a xs, YAt xs, by rw [← ra.len]; exact walk_tup, fun B' M' o' σ' s2 H2 Fz' hB hF r' => ?_⟩⟩⟩
      obtain ⟨g1, g2⟩ := tup_keep rfl rt ta hB r' (hF _ hm)
      exact ⟨g1, fun i y H3 d hd z => by obtain ⟨rfl, hx⟩ := z; exact r'.more1 (g2.at_ hx hd)⟩
    | ktup es =>
      obtain ⟨a, xs, e0, h1, ra, ta⟩ := tup_same (ds := es) rfl rep
      subst e0
      cases e1
      refine ⟨a, xs, rfl, .inr ⟨h1, key (Itt X.K a) ⟨fun H => SqT X.K H a xs, YAt xs, by rw [← ra.len]; exact walk_tup, fun B' M' o' σ' s2 H2 Fz' hB hF r' => ?_⟩⟩⟩
      obtain ⟨g1, g2⟩ := tup_keep rfl rt ta hB r' (hF _ hm)
      exact ⟨g1, fun i y H3 d hd z => by obtain ⟨rfl, hx⟩ := z; exact r'.more1 (g2.at_ hx hd)⟩
    | _ => cases e1
theorem itg_range {τ : TA2} {M : AP} {B : Hp} {Fz : List (V × D)} (i j : Int) : ItG X.K τ M B Fz (Itr i (j - i).toNat) (rangeD i j) := by
  refine ⟨fun _ => True, YFn fun n => .int (i + n), by rw [rangeD_len]; exact walk_range, fun B' M' o' σ' s2 H2 Fz' hB hF r' => ⟨trivial, fun n y H3 d hd z => ?_⟩⟩
  obtain ⟨rfl, rfl⟩ := z
  rw [rangeD_get hd]
  exact r'.more1 (.int _)
theorem ji_rng1 {a : Expr} {e : Ex} {p pos : Pos} (hg : L2.Gl X "range") (hm : X.mg "range" = none) (h : JE X ca W a (evE F e)) (hn : nst a = true) : JI X ca W tg (.Call (.Name "range" p) [a] [] pos) (evIt F (.rng1 e)) := by
  refine ⟨fun pins s σ H R I q => (pi_range1 (tg := tg) hg hm (pa_cons h pa_nil (star_cons hn)) (star_cons hn)).run pins s σ H R I ?_⟩
  obtain ⟨B, M, o, τ, Fz, s, r, q⟩ := q
  unfold evIt at q
  refine ⟨B, M, o, τ, Fz, s, r, q.bnd_.mono (fun x s' q v H' rt => ?_) fun _ _ z => z⟩
  have rt := rt.one
  have rep := rt.fz (v, x.1) List.mem_cons_self
  obtain ⟨d, fr⟩ := x
  cases d with
  | int j =>
    have e : v = V.int j := by cases rep; rfl
    subst e
    have q : WPm (if bigOk j = true then ret (rangeD 0 j) else stk) s' _ _ := q
    split at q
    · rename_i hb
      simp only [bigOk, Bool.and_eq_true, decide_eq_true_eq] at hb
      have q := WPm.ret_ q (Itr 0 j.toNat) H' (pinB B (Prt M o τ s') H') ((.int j, .int j) :: Fz) rt.pin_up (fun p hp => List.mem_cons_of_mem _ hp) rt.pin
      refine ⟨j, rfl, hb.1, hb.2, q ?_⟩
      have := itg_range (X := X) (τ := τ) (M := M) (B := pinB B (Prt M o τ s') H') (Fz := (.int j, .int j) :: Fz) 0 j
      simpa using this
    · exact WPm.stk_ q
  | _ => exact WPm.stk_ q
theorem bnd_ret {α β : Type} {a : α} {f : α → Vf.M β} : bnd (ret a) f = f a := rfl
theorem evEs_two {a b : Ex} {α : Type} (k : D × Bool → D × Bool → Vf.M α) (k' : List (D × Bool) → Vf.M α) (hk : ∀ d e, k' [d, e] = k d e) : (bnd (evE F a) fun d => bnd (evE F b) fun e => k d e) = bnd (evEs F (.cons a (.cons b .nil))) k' := by
  simp only [evEs, wpm_assoc, bnd_ret, hk]
theorem wp_two {a b : Ex} {α : Type} {k : D × Bool → D × Bool → Vf.M α} {s : S} {ok : α → S → Prop} {ex : Nat → S → Prop} (k' : List (D × Bool) → Vf.M α) (hk : ∀ d e, k' [d, e] = k d e) (h : WPm (bnd (evE F a) fun d => bnd (evE F b) fun e => k d e) s ok ex) : WPm (bnd (evEs F (.cons a (.cons b .nil))) k') s ok ex := by
  rw [← evEs_two k k' hk]; exact h
theorem ji_rng2 {a b : Expr} {e f : Ex} {p pos : Pos} (hg : L2.Gl X "range") (hm : X.mg "range" = none) (h : JE X ca W a (evE F e)) (h2 : JE X ca W b (evE F f)) (hn : nst a = true) (hn2 : nst b = true) : JI X ca W tg (.Call (.Name "range" p) [a, b] [] pos) (evIt F (.rng2 e f)) := by
  have hA : PA X [a, b] (tvEs X.K ca W (evEs F (.cons e (.cons f .nil)))) := ja_cons h (ja_cons h2 ja_nil hn2) hn
  refine ⟨fun pins s σ H R I q => (pi_range2 (tg := tg) hg hm hA (by rw [star_cons hn, star_cons hn2]; rfl) (by rw [star_cons hn2]; rfl)).run pins s σ H R I ?_⟩
  obtain ⟨B, M, o, τ, Fz, s, r, q⟩ := q
  unfold evIt at q
  have q := wp_two (F := F) (a := e) (b := f) (fun xs => match xs with
    | [d, e] => (match d.1, e.1 with
      | .int i, .int j => if bigOk i && bigOk j then ret (rangeD i j) else stk
      | _, _ => stk)
    | _ => stk) (fun d e => rfl) q
  refine ⟨B, M, o, τ, Fz, s, r, q.bnd_.mono (fun xs s' q vs H' hl rt => ?_) fun _ _ z => z⟩
  have r1 := rt.plain
  rw [zipT_map hl] at r1
  split at q
  · rename_i d e
    split at q
    · rename_i i j h1 h2
      split at q
      · rename_i hb
        simp only [bigOk, Bool.and_eq_true, decide_eq_true_eq] at hb
        obtain ⟨v1, v2, rfl⟩ : ∃ v1 v2, vs = [v1, v2] := by
          match vs, hl with
          | [v1, v2], _ => exact ⟨v1, v2, rfl⟩
        have rp1 := r1.fz (v1, d.1) (by simp)
        have rp2 := r1.fz (v2, e.1) (by simp)
        rw [h1] at rp1
        rw [h2] at rp2
        have e1 : v1 = V.int i := by cases rp1; rfl
        have e2 : v2 = V.int j := by cases rp2; rfl
        subst e1 e2
        have q := WPm.ret_ q (Itr i (j - i).toNat) H' (pinB B (Prt M o τ s') H') _ r1.pin_up (fun p hp => List.mem_append_right _ hp) r1.pin (itg_range i j)
        exact ⟨i, j, rfl, ⟨hb.1.1, hb.1.2, hb.2.1, hb.2.2⟩, q⟩
      · exact WPm.stk_ q
    · exact WPm.stk_ q
  · exact WPm.stk_ q
theorem two_vs {vs : List V} {d e : D × Bool} (hl : vs.length = [d, e].length) : ∃ v1 v2, vs = [v1, v2] := by
  match vs, hl with
  | [v1, v2], _ => exact ⟨v1, v2, rfl⟩
theorem opt_some {α : Type} {a : α} {o : Option α} {s : S} {ok : α → S → Prop} {ex : Nat → S → Prop} (h : WPm (opt o) s ok ex) : ∃ a, o = some a ∧ ok a s := by
  cases o with
  | none => exact False.elim h
  | some a => exact ⟨a, rfl, h⟩
theorem ji_enm {a : Expr} {elts : List Expr} {kk : Nat} {tpos : Pos} {e : Ex} {p pos : Pos} (hg : L2.Gl X "enumerate") (hm : X.mg "enumerate" = none) (h : JE X ca W a (evE F e)) (hn : nst a = true) : JI X ca W (.Tuple elts kk tpos) (.Call (.Name "enumerate" p) [a] [] pos) (evIt F (.enm e)) := by
  refine ⟨fun pins s σ H R I q => (pi_enumA (elts := elts) (kk := kk) (tpos := tpos) hg hm (pa_cons h pa_nil (star_cons hn)) (star_cons hn)).run pins s σ H R I ?_⟩
  obtain ⟨B, M, o, τ, Fz, s, r, q⟩ := q
  unfold evIt at q
  refine ⟨B, M, o, τ, Fz, s, r, q.bnd_.mono (fun x s' q v H' rt => ?_) fun _ _ z => z⟩
  have rt := rt.one
  cases e1 : seqOf x.1 with
  | none => simp only [e1] at q; exact WPm.stk_ q
  | some ds =>
    simp only [e1] at q
    have hm : (v, x.1) ∈ (v, x.1) :: Fz := List.mem_cons_self
    have rep := rt.fz _ hm
    have key := fun (J : L2.It) => WPm.ret_ q J H' (pinB B (Prt M o τ s') H') ((v, x.1) :: Fz) rt.pin_up (fun p hp => List.mem_cons_of_mem _ hp) rt.pin
    have fin : ∀ {xs : List V} {B' : Hp} {M' : AP} {o' : Nat → Addr} {σ' : L2.St} {s2 : S} {H2 : Hp} {Fz' : List (V × D)}, RelS X.K B' M' o' τ Fz' σ' s2 H2 → RepAll X.K (Prt M' o' τ s2) τ H2 xs ds → ∀ i y H3 d, (enumD 0 ds)[i]? = some d →
        YPair (fun i => some (.int (i : Nat))) (fun i => xs[i]?) i H2 y H3 → RelS X.K B' M' o' τ ((y, d) :: Fz') σ' s2 H3 := fun {xs B' M' o' σ' s2 H2 Fz'} r' ra i y H3 d hd ⟨T, x1, x2, g1, g2, g3, g4, g5⟩ => by
      subst g1 g3
      cases g4
      obtain ⟨e, k1, rfl⟩ := enumD_get 0 ds i d hd
      rw [Nat.zero_add]
      exact pair_new r' g2 (.int _) (ra.at_ g5 k1)
    obtain ⟨d, fr⟩ := x
    cases d with
    | lst es =>
      cases e1
      cases rep with
      | @lst a xs _ q1 ra =>
        refine ⟨a, xs, rfl, .inl ⟨.of q1.2, key (Ite X.K a) ⟨fun H => SqL X.K H a xs, _, by rw [enumD_len, ← ra.len]; exact walk_enum, fun B' M' o' σ' s2 H2 Fz' hB hF r' => ?_⟩⟩⟩
        obtain ⟨g1, g2⟩ := lst_keep rt q1.1 q1.2 hB r' (hF _ hm)
        exact ⟨g1, fin r' g2⟩
    | tup es =>
      obtain ⟨a, xs, e0, h1, ra, ta⟩ := tup_same (ds := es) rfl rep
      subst e0
      cases e1
      refine ⟨a, xs, rfl, .inr ⟨h1, key (IteT X.K a) ⟨fun H => SqT X.K H a xs, _, by rw [enumD_len, ← ra.len]; exact walk_enumT, fun B' M' o' σ' s2 H2 Fz' hB hF r' => ?_⟩⟩⟩
      obtain ⟨g1, g2⟩ := tup_keep rfl rt ta hB r' (hF _ hm)
      exact ⟨g1, fin r' g2⟩
    | ktup es =>
      obtain ⟨a, xs, e0, h1, ra, ta⟩ := tup_same (ds := es) rfl rep
      subst e0
      cases e1
      refine ⟨a, xs, rfl, .inr ⟨h1, key (IteT X.K a) ⟨fun H => SqT X.K H a xs, _, by rw [enumD_len, ← ra.len]; exact walk_enumT, fun B' M' o' σ' s2 H2 Fz' hB hF r' => ?_⟩⟩⟩
      obtain ⟨g1, g2⟩ := tup_keep rfl rt ta hB r' (hF _ hm)
      exact ⟨g1, fin r' g2⟩
    | _ => cases e1
theorem zipD_cases {d e : D} {ds : List D} (h : zipD d e = some ds) : (∃ xs ys, d = .lst xs ∧ e = .lst ys ∧ ds = List.zipWith pairD xs ys) ∨ ∃ xs ys, tupOf d = some xs ∧ tupOf e = some ys ∧ ds = List.zipWith pairD xs ys := by
  unfold zipD at h
  split at h
  · cases h; exact .inl ⟨_, _, rfl, rfl, rfl⟩
  · cases h1 : tupOf d with
    | none => rw [h1] at h; cases h
    | some xs =>
      rw [h1] at h
      cases h2 : tupOf e with
      | none => rw [h2] at h; cases h
      | some ys => rw [h2] at h; cases h; exact .inr ⟨xs, ys, rfl, rfl, rfl⟩
theorem ji_zip {a b : Expr} {elts : List Expr} {kk : Nat} {tpos : Pos} {e f : Ex} {p pos : Pos} (hg : L2.Gl X "zip") (hm : X.mg "zip" = none) (h : JE X ca W a (evE F e)) (h2 : JE X ca W b (evE F f)) (hn : nst a = true) (hn2 : nst b = true) : JI X ca W (.Tuple elts kk tpos) (.Call (.Name "zip" p) [a, b] [] pos) (evIt F (.zip e f)) := by
  have hA : PA X [a, b] (tvEs X.K ca W (evEs F (.cons e (.cons f .nil)))) := ja_cons h (ja_cons h2 ja_nil hn2) hn
  refine ⟨fun pins s σ H R I q => (RZ.pi_zipA (elts := elts) (kk := kk) (tpos := tpos) hg hm hA (star_cons hn) (star_any (by simp [nstAll, hn2]))).run pins s σ H R I ?_⟩
  obtain ⟨B, M, o, τ, Fz, s, r, q⟩ := q
  unfold evIt at q
  have q := wp_two (F := F) (a := e) (b := f) (fun xs => match xs with
    | [d, e] => opt (zipD d.1 e.1)
    | _ => stk) (fun d e => rfl) q
  refine ⟨B, M, o, τ, Fz, s, r, q.bnd_.mono (fun xs s' q vs H' hl rt => ?_) fun _ _ z => z⟩
  have r1 := rt.plain
  rw [zipT_map hl] at r1
  split at q
  · rename_i d e
    obtain ⟨ds, hz, q⟩ := opt_some (a := []) q
    obtain ⟨v1, v2, rfl⟩ := two_vs hl
    have hm1 : (v1, d.1) ∈ ([v1, v2].zip ([d, e].map fun x => x.1) ++ Fz) := by simp
    have hm2 : (v2, e.1) ∈ ([v1, v2].zip ([d, e].map fun x => x.1) ++ Fz) := by simp
    have rp1 := r1.fz _ hm1
    have rp2 := r1.fz _ hm2
    have key := fun (J : L2.It) => q J H' (pinB B (Prt M o τ s') H') _ r1.pin_up (fun p hp => List.mem_append_right _ hp) r1.pin
    have fin : ∀ {xs ys : List V} {d1 d2 : List D} {B' : Hp} {M' : AP} {o' : Nat → Addr} {σ' : L2.St} {s2 : S} {H2 : Hp} {Fz' : List (V × D)}, RelS X.K B' M' o' τ Fz' σ' s2 H2 → RepAll X.K (Prt M' o' τ s2) τ H2 xs d1 → RepAll X.K (Prt M' o' τ s2) τ H2 ys d2 → ∀ i y H3 d, (List.zipWith pairD d1 d2)[i]? = some d →
        YPair (fun i => xs[i]?) (fun i => ys[i]?) i H2 y H3 → RelS X.K B' M' o' τ ((y, d) :: Fz') σ' s2 H3 := fun {xs ys d1 d2 B' M' o' σ' s2 H2 Fz'} r' ra rb i y H3 d hd ⟨T, x1, x2, g1, g2, g3, g4, g5⟩ => by
      subst g1 g3
      obtain ⟨z1, z2, k1, k2, rfl⟩ := zip_get hd
      exact pair_new r' g2 (ra.at_ g4 k1) (rb.at_ g5 k2)
    have lenz : ∀ {xs ys : List V} {d1 d2 : List D}, xs.length = d1.length → ys.length = d2.length → (List.zipWith pairD d1 d2).length = min xs.length ys.length := fun h1 h2 => by rw [List.length_zipWith, h1, h2]
    rcases zipD_cases hz with ⟨d1, d2, k1, k2, rfl⟩ | ⟨d1, d2, k1, k2, rfl⟩
    · rw [k1] at rp1 hm1
      rw [k2] at rp2 hm2
      cases rp1 with
      | @lst a1 xs _ q1 ra =>
        cases rp2 with
        | @lst a2 ys _ q2 rb =>
          refine ⟨a1, a2, xs, ys, rfl, .inl ⟨.of q1.2, .of q2.2, key (Itz X.K a1 a2) ⟨fun H => SqL X.K H a1 xs ∧ SqL X.K H a2 ys, _, walk_zip (lenz ra.len rb.len), fun B' M' o' σ' s2 H2 Fz' hB hF r' => ?_⟩⟩⟩
          obtain ⟨g1, g2⟩ := lst_keep r1 q1.1 q1.2 hB r' (hF _ hm1)
          obtain ⟨g3, g4⟩ := lst_keep r1 q2.1 q2.2 hB r' (hF _ hm2)
          exact ⟨⟨g1, g3⟩, fin r' g2 g4⟩
    · obtain ⟨a1, xs, e0, h1, ra, ta⟩ := tup_same k1 rp1
      obtain ⟨a2, ys, e2, h2, rb, tb⟩ := tup_same k2 rp2
      subst e0 e2
      refine ⟨a1, a2, xs, ys, rfl, .inr ⟨h1, h2, key (RZ.ItzT X.K a1 a2) ⟨fun H => SqT X.K H a1 xs ∧ SqT X.K H a2 ys, _, walk_zipT (lenz ra.len rb.len), fun B' M' o' σ' s2 H2 Fz' hB hF r' => ?_⟩⟩⟩
      obtain ⟨g1, g2⟩ := tup_keep k1 r1 ta hB r' (hF _ hm1)
      obtain ⟨g3, g4⟩ := tup_keep k2 r1 tb hB r' (hF _ hm2)
      exact ⟨⟨g1, g3⟩, fin r' g2 g4⟩
  · exact WPm.stk_ q
end
end Vf
namespace Vf
open PySem PySem.Spec PyProof.Rows L2

section
variable {K : PySem.W.Frag} {B B1 : Hp} {M : AP} {o : Nat → Addr} {τ : TA2} {Fz Fz1 : List (V × D)} {σ σ' : L2.St} {s s' : S} {H : Hp}
def gNs : List Nat → TGs
  | [] => gNil
  | i :: is => gCons (gName i) (gNs is)
def gTg (K : PySem.W.Frag) : List Nat → TG
  | [i] => gName i
  | is => gTup K is.length (gNs is)
def Off (tg : List Nat) (σ σ' : L2.St) : Prop := σ'.length = σ.length ∧ ∀ j, j ∉ tg → σ'[j]? = σ[j]?
theorem setP_ok : ∀ {is : List Nat} {xs : List V} {ds : List D} {σ : L2.St} {s : S}, RelS K B M o τ Fz σ s H → (∀ p ∈ xs.zip ds, p ∈ Fz) → xs.length = is.length → ds.length = is.length → ∀ {Q : L2.St → Hp → Prop},
    (∀ σ', RelS K B M o τ Fz σ' (setP is ds s) H → Off is σ σ' → Q σ' H) → gNs is xs σ H Q
  | [], [], [], σ, s, r, _, _, _, Q, h => ⟨rfl, h σ r ⟨rfl, fun _ _ => rfl⟩⟩
  | [], _ :: _, _, _, _, _, _, h, _, _, _ => by simp at h
  | [], [], _ :: _, _, _, _, _, _, h, _, _ => by simp at h
  | _ :: _, [], _, _, _, _, _, h, _, _, _ => by simp at h
  | _ :: _, _ :: _, [], _, _, _, _, _, h, _, _ => by simp at h
  | i :: is, x :: xs, d :: ds, σ, s, r, hF, h1, h2, Q, h => by
    refine ⟨x, xs, rfl, ?_⟩
    have r1 : RelS K B M o τ Fz (σ.set i (some x)) (setS s i (some (false, d))) H := ((r.more1 (r.fz _ (hF (x, d) (by simp)))).store (i := i)).drop fun p hp => List.mem_cons_of_mem _ hp
    refine setP_ok r1 (fun p hp => hF p (by simp [hp])) (by simpa using h1) (by simpa using h2) fun σ' r' off => h σ' r' ⟨by rw [off.1, List.length_set], fun j hj => ?_⟩
    have hj' : j ≠ i ∧ j ∉ is := by simpa using hj
    rw [off.2 j hj'.2, List.getElem?_set_ne (Ne.symm hj'.1)]
theorem bind_ok {tg : List Nat} {v : V} {d : D} (r : RelS K B M o τ Fz σ s H) (hm : (v, d) ∈ Fz) {ok : Unit → S → Prop} {ex : Nat → S → Prop} (h : WPm (bindT tg d) s ok ex) {Q : L2.St → Hp → Prop}
    (q : ∀ σ' s', ok () s' → RelS K B M o τ Fz σ' s' H → Off tg σ σ' → Q σ' H) : gTg K tg v σ H Q := by
  have multi : ∀ is : List Nat, WPm (bindTup is d) s ok ex → (∀ σ' s', ok () s' → RelS K B M o τ Fz σ' s' H → Off is σ σ' → Q σ' H) → gTup K is.length (gNs is) v σ H Q := fun is h q => by
    unfold WPm bindTup at h
    cases e : tupOf d with
    | none => rw [e] at h; exact h.elim
    | some ds =>
      rw [e] at h
      by_cases hl : is.length = ds.length
      · simp only [if_pos hl] at h
        obtain ⟨a, xs, e0, h1, ra, _⟩ := tup_same e (r.fz _ hm)
        have r2 := r.more ra.fz
        refine ⟨a, xs, e0, h1, by rw [ra.len, hl], ?_⟩
        refine setP_ok r2 (fun p hp => List.mem_append_left _ hp) (by rw [ra.len, hl]) hl.symm fun σ' r' off => q σ' _ h (r'.drop fun p hp => List.mem_append_right _ hp) off
      · simp only [if_neg hl] at h
  cases tg with
  | nil => exact multi [] h q
  | cons i is =>
    cases is with
    | nil =>
      have r1 : RelS K B M o τ Fz (σ.set i (some v)) (setS s i (some (false, d))) H := ((r.more1 (r.fz _ hm)).store (i := i)).drop fun p hp => List.mem_cons_of_mem _ hp
      exact q _ _ h r1 ⟨by rw [List.length_set], fun j hj => by rw [List.getElem?_set_ne (Ne.symm (by simpa using hj))]⟩
    | cons j js => exact multi (i :: j :: js) h q
theorem RelS.slots (r : RelS K B M o τ Fz σ s H) (hl : σ'.length = s'.ρ.length) (hT : s'.T = s.T) (h : ∀ i x, lk s' i = some x → lk s i = some x ∧ σ'[i]? = σ[i]?) : RelS K B M o τ Fz σ' s' H := by
  have ho : ∀ {i d}, Own s' i d → Own s i d := fun {i d} w => (h i _ w).1
  have hp : ∀ b, Prt M o τ s' b → Prt M o τ s b := fun b z => z.imp id fun z => z.imp id fun ⟨i, d, w, e⟩ => ⟨i, d, ho w, e⟩
  have mo := Mo.same (H := H) hp
  refine ⟨hl, r.keep, fun p q => (r.fz p q).mo mo, fun i d w => ?_, fun i d w => ?_, fun i j d e w1 w2 => r.inj i j d e (ho w1) (ho w2), ⟨r.tp.no, by rw [hT]; exact r.tp.at_⟩, r.mt⟩
  · obtain ⟨h1, h2⟩ := h i _ w
    obtain ⟨v, g1, g2⟩ := r.sh i d h1
    exact ⟨v, by rw [h2]; exact g1, g2.mo mo⟩
  · obtain ⟨h1, h2⟩ := h i _ w
    obtain ⟨g1, g2, g3, g4, u, cs, g5, g6, g7⟩ := r.ow i d h1
    exact ⟨by rw [h2]; exact g1, g2, g3, g4, u, cs, g5, g6, fun p q => (g7 p q).mo mo⟩
theorem fold_set_len {α : Type} (f : Nat → α) : ∀ (own : List Nat) (ρ : List α), (own.foldl (fun ρ i => ρ.set i (f i)) ρ).length = ρ.length
  | [], _ => rfl
  | j :: own, ρ => by rw [List.foldl_cons, fold_set_len f own, List.length_set]
theorem fold_set_get {α : Type} (f : Nat → α) : ∀ (own : List Nat) (ρ : List α) (i : Nat), (own.foldl (fun ρ i => ρ.set i (f i)) ρ)[i]? = if i ∈ own ∧ i < ρ.length then some (f i) else ρ[i]?
  | [], ρ, i => by simp
  | j :: own, ρ, i => by
    rw [List.foldl_cons, fold_set_get f own, List.length_set]
    by_cases h : i ∈ own
    · by_cases hl : i < ρ.length
      · simp [h, hl]
      · simp [h, hl]
    · by_cases e : i = j
      · subst e
        by_cases hl : i < ρ.length
        · simp [h, hl]
        · simp [h, hl]
      · simp [h, e, List.getElem?_set_ne (Ne.symm e)]
theorem wipeS_lk {own : List Nat} {i : Nat} : lk (wipeS own s) i = if i ∈ own then none else lk s i := by
  unfold lk wipeS
  simp only
  rw [fold_set_get (fun _ => none)]
  by_cases h : i ∈ own
  · by_cases hl : i < s.ρ.length
    · simp [h, hl]
    · simp [h, hl]
  · simp [h]
theorem backS_lk {own : List Nat} {s0 : S} {i : Nat} (hl : s.ρ.length = s0.ρ.length) : lk (backS own s0 s) i = if i ∈ own then lk s0 i else lk s i := by
  unfold lk backS
  simp only
  rw [fold_set_get (fun i => (s0.ρ[i]?).join)]
  by_cases h : i ∈ own
  · by_cases hi : i < s.ρ.length
    · simp [h, hi]
    · have : s0.ρ[i]? = none := List.getElem?_eq_none (by omega)
      simp [h, hi, this]
  · simp [h]
theorem wipeS_len {own : List Nat} : (wipeS own s).ρ.length = s.ρ.length := fold_set_len (fun _ => none) own s.ρ
theorem backS_len {own : List Nat} {s0 : S} : (backS own s0 s).ρ.length = s.ρ.length := fold_set_len (fun i => (s0.ρ[i]?).join) own s.ρ
theorem wipe_get : ∀ {vs : List Nat} {i : Nat}, (wipe σ vs)[i]? = if i ∈ vs ∧ i < σ.length then some none else σ[i]?
  | [], i => by simp [wipe]
  | v :: vs, i => by
    unfold wipe
    by_cases e : i = v
    · subst e
      by_cases hl : i < σ.length
      · rw [List.getElem?_set_self (by rw [wipe_length]; exact hl)]
        simp [hl]
      · rw [List.getElem?_eq_none (by rw [List.length_set, wipe_length]; omega), List.getElem?_eq_none (by omega)]
        simp [hl]
    · rw [List.getElem?_set_ne (Ne.symm e), wipe_get]
      simp [e]
theorem wipe_off {own tg : List Nat} (h : Off tg (wipe σ own) σ') (ht : ∀ i ∈ tg, i ∈ own) : wipe σ' own = wipe σ own := by
  apply List.ext_getElem?
  intro j
  have hl : σ'.length = σ.length := by rw [h.1, wipe_length]
  rw [wipe_get, wipe_get, hl]
  by_cases hj : j ∈ own
  · by_cases hl : j < σ.length
    · simp [hj, hl]
    · simp only [hj, hl, and_false, if_false]
      rw [List.getElem?_eq_none (by omega), List.getElem?_eq_none (by omega)]
  · simp only [hj, false_and, if_false]
    rw [h.2 j (fun z => hj (ht j z)), wipe_get]
    simp [hj]
theorem RelS.wiped {own : List Nat} (r : RelS K B M o τ Fz σ s H) : RelS K B M o τ Fz (wipe σ own) (wipeS own s) H := by
  refine r.slots (by rw [wipe_length, wipeS_len, r.len]) rfl fun i x h => ?_
  rw [wipeS_lk] at h
  by_cases hi : i ∈ own
  · rw [if_pos hi] at h; cases h
  · rw [if_neg hi] at h
    refine ⟨h, ?_⟩
    rw [wipe_get]
    simp [hi]
def ownF (σ : L2.St) (s : S) (own : List Nat) : List (V × D) := own.filterMap fun j => match lk s j, σ[j]? with
  | some (false, d), some (some v) => some (v, d)
  | _, _ => none
theorem RelS.ownF_ (r : RelS K B M o τ Fz σ s H) (own : List Nat) : RepFz K (Prt M o τ s) τ H (ownF σ s own) := fun p hp => by
  unfold ownF at hp
  rw [List.mem_filterMap] at hp
  obtain ⟨j, _, e⟩ := hp
  split at e
  · rename_i d v h1 h2
    cases e
    obtain ⟨w, g1, g2⟩ := r.sh j d h1
    rw [h2] at g1; cases g1; exact g2
  · cases e
theorem RelS.returned {own : List Nat} {s0 : S} {H0 : Hp} {B0 : Hp} {M0' : AP} {Fz0 : List (V × D)} (r0 : RelS K B0 M0' o τ Fz0 σ s0 H0) (r : RelS K B M o τ Fz (wipe σ own) s H) (hn : noOwned own s0 = true) (hF : ∀ p ∈ ownF σ s0 own, p ∈ Fz) :
    RelS K B M o τ Fz σ (backS own s0 s) H := by
  have hl : s.ρ.length = s0.ρ.length := by rw [← r.len, wipe_length, r0.len]
  have own0 : ∀ i ∈ own, ∀ d, lk s0 i ≠ some (true, d) := fun i hi d e => by
    unfold noOwned at hn
    have := List.all_eq_true.mp hn i hi
    rw [e] at this
    cases this
  have ho : ∀ {i d}, Own (backS own s0 s) i d → Own s i d ∧ i ∉ own := fun {i d} w => by
    unfold Own at w
    rw [backS_lk hl] at w
    by_cases hi : i ∈ own
    · rw [if_pos hi] at w; exact absurd w (own0 i hi d)
    · rw [if_neg hi] at w; exact ⟨w, hi⟩
  have hp : ∀ b, Prt M o τ (backS own s0 s) b → Prt M o τ s b := fun b z => z.imp id fun z => z.imp id fun ⟨i, d, w, e⟩ => ⟨i, d, (ho w).1, e⟩
  have mo := Mo.same (H := H) hp
  have wg : ∀ i, i ∉ own → (wipe σ own)[i]? = σ[i]? := fun i hi => by rw [wipe_get]; simp [hi]
  refine ⟨by rw [backS_len, ← r.len, wipe_length], r.keep, fun p q => (r.fz p q).mo mo, fun i d w => ?_, fun i d w => ?_, fun i j d e w1 w2 => r.inj i j d e (ho w1).1 (ho w2).1, ⟨r.tp.no, r.tp.at_⟩, r.mt⟩
  · rw [backS_lk hl] at w
    by_cases hi : i ∈ own
    · rw [if_pos hi] at w
      obtain ⟨v, g1, g2⟩ := r0.sh i d w
      refine ⟨v, g1, (r.fz (v, d) (hF _ ?_)).mo mo⟩
      unfold ownF
      rw [List.mem_filterMap]
      exact ⟨i, hi, by rw [w, g1]⟩
    · rw [if_neg hi] at w
      obtain ⟨v, g1, g2⟩ := r.sh i d w
      exact ⟨v, by rw [← wg i hi]; exact g1, g2.mo mo⟩
  · obtain ⟨w, hi⟩ := ho w
    obtain ⟨g1, g2, g3, g4, u, cs, g5, g6, g7⟩ := r.ow i d w
    exact ⟨by rw [← wg i hi]; exact g1, g2, g3, g4, u, cs, g5, g6, fun p q => (g7 p q).mo mo⟩
theorem RelS.bump {a : Addr} {u u' : HO} (ht : ¬ TpA τ a) (r : RelS K (upd B a u) (fun b => M b ∨ b = a) o τ Fz σ s H) (nt : ∀ xs, u' ≠ .tup xs) : RelS K (upd B a u') (fun b => M b ∨ b = a) o τ Fz σ s (upd H a u') := by
  have pa : Prt (fun b => M b ∨ b = a) o τ s a := .inl (.inr rfl)
  have mo : Mo (Prt (fun b => M b ∨ b = a) o τ s) (Prt (fun b => M b ∨ b = a) o τ s) H (upd H a u') := ⟨fun b x q n => by rw [upd_ne (fun (z : b = a) => n (by rw [z]; exact pa))]; exact q, fun b z _ => z⟩
  have na : ∀ i d, Own s i d → o i ≠ a := fun i d w z => (r.ow i d w).2.1 (.inr z)
  refine ⟨r.len, fun b x q n => ?_, fun p q => (r.fz p q).mo mo, fun i d w => ?_, fun i d w => ?_, r.inj, ⟨r.tp.no, ?_⟩, fun b z => ?_⟩
  · by_cases e : b = a
    · subst e; rw [upd_same] at q ⊢; exact q
    · rw [upd_ne e] at q ⊢
      exact r.keep b x (by rw [upd_ne e]; exact q) n
  · obtain ⟨v, g1, g2⟩ := r.sh i d w
    exact ⟨v, g1, g2.mo mo⟩
  · obtain ⟨g1, g2, g3, g4, x, cs, g5, g6, g7⟩ := r.ow i d w
    refine ⟨g1, g2, g3, ?_, x, cs, by rw [upd_ne (na i d w)]; exact g5, g6, fun p q => (g7 p q).mo mo⟩
    rw [upd_ne (na i d w)] at g4 ⊢; exact g4
  · have q := r.tp.at_
    cases hT : s.T with
    | none => rw [hT] at q; cases τ <;> exact q
    | some t =>
      rw [hT] at q
      cases hτ : τ with
      | none => rw [hτ] at q; exact q
      | some y =>
        rw [hτ] at q
        exact ⟨q.1, by rw [upd_ne fun z => ht ⟨y, hτ, .inl z.symm⟩]; exact q.2.1, by rw [upd_ne fun z => ht ⟨y, hτ, .inr z.symm⟩]; exact q.2.2⟩
  · by_cases e : b = a
    · subst e; exact ⟨u', upd_same, nt⟩
    · obtain ⟨x, q, n⟩ := r.mt b z
      exact ⟨x, by rw [upd_ne e]; exact q, n⟩
end
end Vf
namespace Vf
open PySem PySem.Spec PyProof.Rows L2

theorem nox_wp {α : Type} {m : M α} {s : S} {ok : α → S → Prop} {ex : Nat → S → Prop} (h : WPm (nox m) s ok ex) : WPm m s ok (fun _ _ => False) := by
  unfold WPm nox at h
  unfold WPm
  cases e : m s with
  | ok a s' => rw [e] at h; exact h
  | exc c s' => rw [e] at h; exact h
  | stuck => rw [e] at h; exact h
theorem wp_ok {α : Type} {m : M α} {s : S} {ok : α → S → Prop} (h : WPm m s ok (fun _ _ => False)) : ∃ a s', m s = .ok a s' ∧ ok a s' := by
  unfold WPm at h
  cases e : m s with
  | ok a s' => rw [e] at h; exact ⟨a, s', rfl, h⟩
  | exc c s' => rw [e] at h; exact h.elim
  | stuck => rw [e] at h; exact h.elim
abbrev W0 : WX := fun _ _ _ _ => False
def condM (F : FT) (c : Exs) : M Bool := match c with
  | .nil => ret true
  | .cons c _ => bnd (evE F c) isB
theorem evE_comp (F : FT) (own tg : List Nat) (it : Vf.It) (c : Exs) (e : Ex) : evE F (.comp own tg it c e) = nox (bnd (evIt F it) fun ds s => if noOwned own s then
      bnd (compL own tg (condM F c) (evE F e) ds) (fun xs s' => if fits xs.length then .ok (.lst xs, true) (backS own s s') else .stuck) (wipeS own s) else .stuck) := by
  cases c <;> simp only [evE, condM]
section
variable {X : Cx} {W : WX} {F : FT} {ca : Nat → Addr}
theorem lc_imp {own tg : List Nat} {it : Vf.It} {c : Exs} {e : Ex} {σ : L2.St} {H : Hp} {Q : VK} (ht : ∀ i ∈ tg, i ∈ own) (h : tvE X.K ca W (evE F (.comp own tg it c e)) σ H Q) :
    tLc (tvI X.K ca W (evIt F it)) (gTg X.K tg) (tvT X.K ca W0 (condM F c)) (tvE X.K ca W0 (evE F e)) own σ H Q := by
  obtain ⟨B, M, o, τ, Fz, s, r, h⟩ := h
  rw [evE_comp] at h
  refine ⟨B, M, o, τ, Fz, s, r, (nox_wp h).bnd_.mono (fun ds s1 q J H1 B1 Fz1 hB hF r1 itg D hD => ?_) fun _ _ z => z.elim⟩
  have q : WPm (fun s => if noOwned own s = true then bnd (compL own tg (condM F c) (evE F e) ds) (fun xs s' => if fits xs.length = true then Res.ok (Vf.D.lst xs, true) (backS own s s') else .stuck) (wipeS own s) else .stuck) s1 _ _ := q
  unfold WPm at q
  by_cases hn : noOwned own s1 = true
  · simp only [if_pos hn] at q
    obtain ⟨G, Y, wk, gy⟩ := itg.ex
    obtain ⟨f1, f2, f3, f4⟩ := r1.fresh hD
    have f0 : B D = none := by
      cases e : B D with
      | none => rfl
      | some u => rw [hB _ _ e] at f1; cases f1
    let okF : List Vf.D → S → Prop := fun xs s' => fits xs.length = true ∧ ∀ v H', RelT X.K o τ σ (backS own s1 s') H' [(v, .lst xs, true)] B M Fz → Q v H'
    have q2 : WPm (compL own tg (condM F c) (evE F e) ds) (wipeS own s1) okF (fun _ _ => False) := by
      have q3 : WPm (bnd (compL own tg (condM F c) (evE F e) ds) (fun xs s' => if fits xs.length = true then Res.ok (Vf.D.lst xs, true) (backS own s1 s') else .stuck)) (wipeS own s1) (fun x s' => ∀ v H', RelT X.K o τ σ s' H' [(v, x.1, x.2)] B M Fz → Q v H') (fun _ _ => False) := q
      refine q3.bnd_.mono (fun xs s' z => ?_) fun _ _ z => z
      unfold WPm at z
      by_cases hf : fits xs.length = true
      · simp only [if_pos hf] at z; exact ⟨hf, z⟩
      · simp only [if_neg hf] at z
    have rF := r1.more (r1.ownF_ own)
    let Fz2 := ownF σ s1 own ++ Fz1
    let Pv : Nat → Hp → Prop := fun i H => ∃ s2 acc dsi, RelS X.K (upd B1 D (.lst acc)) (fun b => M b ∨ b = D) o τ (acc.zip dsi ++ Fz2) (wipe σ own) s2 H ∧ acc.length = dsi.length ∧
      WPm (compL own tg (condM F c) (evE F e) (ds.drop i)) s2 (fun xs s' => okF (dsi ++ xs) s') (fun _ _ => False)
    have inB : ∀ acc b u, B1 b = some u → upd B1 D (.lst acc) b = some u := fun acc b u e => upd_up f1 b u e
    have inF : ∀ (acc : List V) (dsi : List Vf.D), ∀ p ∈ Fz1, p ∈ acc.zip dsi ++ Fz2 := fun acc dsi p hp => List.mem_append_right _ (List.mem_append_right _ hp)
    refine lc_it wk Pv ?_ (fun i H _ ⟨s2, acc, dsi, r2, _, _⟩ => (gy _ _ _ _ _ _ _ (fun b u _ e => inB acc b u e) (inF acc dsi) r2).1) ?_ ?_
    · have r3 := (rF.alloc (u := .lst []) hD (fun _ z => by cases z)).wiped (own := own)
      exact ⟨_, [], [], r3, rfl, by simpa using q2⟩
    · intro i x H2 H3 hi ⟨s2, acc, dsi, r2, hl, qi⟩ hy
      obtain ⟨d, hd⟩ : ∃ d, ds[i]? = some d := ⟨ds[i], by simp [hi]⟩
      have hdr : ds.drop i = d :: ds.drop (i + 1) := by
        rw [List.drop_eq_getElem_cons hi]
        have : ds[i] = d := by simpa [hi] using hd
        rw [this]
      rw [hdr] at qi
      unfold compL at qi
      have r3 := (gy _ _ _ _ _ _ _ (fun b u _ e => inB acc b u e) (inF acc dsi) r2).2 i x H3 d hd hy
      refine bind_ok r3 List.mem_cons_self (WPm.bnd_ qi) fun σ2 s3 qb r4 off => ?_
      have hw := wipe_off off ht
      refine ⟨hw, ?_⟩
      refine ⟨_, _, o, τ, _, s3, r4, (WPm.bnd_ qb).mono (fun b s4 qc H4 r5 => ?_) fun _ _ z => z.elim⟩
      cases b with
      | true =>
        rw [if_pos rfl]
        refine ⟨_, _, o, τ, _, s4, r5, (WPm.bnd_ qc).mono (fun y s5 qd v H5 rt => ?_) fun _ _ z => z.elim⟩
        have r6 := rt.one
        have hDa : H5 D = some (.lst acc) := r6.keep D _ upd_same f3
        have qd : WPm (bnd (compL own tg (condM F c) (evE F e) (ds.drop (i + 1))) fun xs => ret (y.1 :: xs)) (wipeS own s5) (fun xs s' => okF (dsi ++ xs) s') (fun _ _ => False) := qd
        have qe := (WPm.bnd_ qd).mono (ok2 := fun xs s' => okF ((dsi ++ [y.1]) ++ xs) s') (fun xs s' z => by
          have z := WPm.ret_ z
          rw [List.append_assoc]; exact z) (ex' := fun _ _ => False) (fun _ _ z => z)
        have hfit : acc.length < sizeLine := by
          obtain ⟨xs, s', _, z⟩ := wp_ok qe
          have z1 := of_decide_eq_true z.1
          simp only [List.length_append, List.length_cons, List.length_nil] at z1
          omega
        refine ⟨acc, hDa, hfit, wipeS own s5, acc ++ [v], dsi ++ [y.1], ?_, by simp [hl], qe⟩
        have r7 := (r6.bump (u' := .lst (acc ++ [v])) f3 (fun _ z => by cases z)).wiped (own := own)
        rw [hw] at r7
        refine r7.drop fun p hp => ?_
        rw [List.zip_append hl] at hp
        simp only [List.zip_cons_cons, List.zip_nil_left, List.append_assoc, List.mem_append, List.mem_cons, List.not_mem_nil, false_or, or_false] at hp ⊢
        rcases hp with z | z | z
        · exact .inr (.inr (.inl z))
        · exact .inl z
        · exact .inr (.inr (.inr z))
      | false =>
        rw [if_neg Bool.false_ne_true]
        refine ⟨wipeS own s4, acc, dsi, ?_, hl, qc⟩
        have r7 := r5.wiped (own := own)
        rw [hw] at r7
        exact r7.drop fun p hp => List.mem_cons_of_mem _ hp
    · intro H2 ⟨s2, acc, dsi, r2, hl, qi⟩
      have e0 : ds.drop ds.length = [] := by simp
      rw [e0] at qi
      unfold compL at qi
      have qi := WPm.ret_ qi
      have qi : okF (dsi ++ []) s2 := qi
      rw [List.append_nil] at qi
      refine qi.2 (.ref D) H2 ⟨D, .lst acc, acc.zip dsi, rfl, f0, f3, f2, .lst hl, ?_⟩
      have r8 := RelS.returned r1 r2 hn (fun p hp => List.mem_append_right _ (List.mem_append_left _ hp))
      refine r8.weak (fun b u e => ?_) (fun _ z => z) (fun p hp => r8.fz p ?_)
      · by_cases eb : b = D
        · subst eb; rw [upd_same] at e ⊢; exact e
        · rw [upd_ne eb] at e ⊢; exact hB b u e
      · rcases List.mem_append.mp hp with z | z
        · exact List.mem_append_left _ z
        · exact List.mem_append_right _ (List.mem_append_right _ (hF p z))
  · simp only [if_neg hn] at q
theorem lc_at {J : L2.It} {n : Nat} {G : Hp → Prop} {Y : Nat → Hp → V → Hp → Prop} (w : Walk J n G Y) {g : TG} {tt : TT} {te : TE} {vs : List Nat} {σ : L2.St} {H0 : Hp} {D : Addr} {Qd : Hp → Prop} (Pv : Nat → Hp → Prop) (h0 : Pv 0 H0) (hG : ∀ i H, i ≤ n → Pv i H → G H)
    (hs : ∀ i x H H', i < n → Pv i H → Y i H x H' → g x (wipe σ vs) H' fun σ2 H2 => wipe σ2 vs = wipe σ vs ∧ tt σ2 H2 fun b H3 =>
      if b = true then te σ2 H3 fun y H4 => ∃ acc, H4 D = some (.lst acc) ∧ acc.length < sizeLine ∧ Pv (i + 1) (upd H4 D (.lst (acc ++ [y]))) else Pv (i + 1) H3) (hd : ∀ H, Pv n H → Qd H) :
    ∃ W : Nat → Nat → Hp → Prop, (∃ m, W 0 m H0) ∧ ∀ i m H, W i m H →
      (J.stop i H ∧ Qd H) ∨ (J.go i H ∧ ∃ Nx : Hp → Prop, (∀ H', Nx H' → ∃ m', m' < m ∧ W (i + 1) m' H') ∧ ∀ x H', J.yld i H x H' → g x (wipe σ vs) H' fun σ2 H2 => wipe σ2 vs = wipe σ vs ∧ tt σ2 H2 fun b H3 =>
        if b = true then te σ2 H3 fun y H4 => ∃ acc, H4 D = some (.lst acc) ∧ acc.length < sizeLine ∧ Nx (upd H4 D (.lst (acc ++ [y]))) else Nx H3) := by
  refine ⟨fun i m H => m = n - i ∧ i ≤ n ∧ Pv i H, ⟨n, by simp, Nat.zero_le _, h0⟩, ?_⟩
  rintro i m H ⟨rfl, hi, p⟩
  have q := hG i H hi p
  by_cases hlt : i < n
  · refine .inr ⟨w.goes i H hlt q, Pv (i + 1), fun H' p' => ⟨n - (i + 1), by omega, rfl, hlt, p'⟩, fun x H' y => hs i x H H' hlt p (w.yields i H x H' hlt q y)⟩
  · have e : i = n := by omega
    subst e
    exact .inl ⟨w.stops H q, hd H p⟩
theorem lc2_at {J : L2.It} {n : Nat} {G : Hp → Prop} {Y : Nat → Hp → V → Hp → Prop} (w : Walk J n G Y) {g : TG} {tt : TT} {σ : L2.St} {vs : List Nat} {H0 : Hp} {Qd : Hp → Prop} {In : (Hp → Prop) → L2.St → Hp → Prop} (Pv : Nat → Hp → Prop) (h0 : Pv 0 H0) (hG : ∀ i H, i ≤ n → Pv i H → G H)
    (hs : ∀ i x H H', i < n → Pv i H → Y i H x H' → g x (wipe σ vs) H' fun σ2 H2 => wipe σ2 vs = wipe σ vs ∧ tt σ2 H2 fun b H3 => if b = true then In (Pv (i + 1)) σ2 H3 else Pv (i + 1) H3) (hd : ∀ H, Pv n H → Qd H) :
    ∃ W : Nat → Nat → Hp → Prop, (∃ m, W 0 m H0) ∧ ∀ i m H, W i m H →
      (J.stop i H ∧ Qd H) ∨ (J.go i H ∧ ∃ Nx : Hp → Prop, (∀ H', Nx H' → ∃ m', m' < m ∧ W (i + 1) m' H') ∧ ∀ x H', J.yld i H x H' → g x (wipe σ vs) H' fun σ2 H2 => wipe σ2 vs = wipe σ vs ∧ tt σ2 H2 fun b H3 => if b = true then In Nx σ2 H3 else Nx H3) := by
  refine ⟨fun i m H => m = n - i ∧ i ≤ n ∧ Pv i H, ⟨n, by simp, Nat.zero_le _, h0⟩, ?_⟩
  rintro i m H ⟨rfl, hi, p⟩
  have q := hG i H hi p
  by_cases hlt : i < n
  · refine .inr ⟨w.goes i H hlt q, Pv (i + 1), fun H' p' => ⟨n - (i + 1), by omega, rfl, hlt, p'⟩, fun x H' y => hs i x H H' hlt p (w.yields i H x H' hlt q y)⟩
  · have e : i = n := by omega
    subst e
    exact .inl ⟨w.stops H q, hd H p⟩
theorem wipe_wipe {σ : L2.St} {vs vs1 : List Nat} (h : ∀ i ∈ vs1, i ∈ vs) : wipe (wipe σ vs1) vs = wipe σ vs := by
  apply List.ext_getElem?
  intro i
  rw [wipe_get, wipe_get, wipe_get, wipe_length]
  by_cases h1 : i ∈ vs ∧ i < σ.length
  · rw [if_pos h1, if_pos h1]
  · rw [if_neg h1, if_neg h1, if_neg (fun e => h1 ⟨h i e.1, e.2⟩)]
theorem upd_self {H : Hp} {a : Addr} {u : HO} (h : H a = some u) : upd H a u = H := by
  funext b
  by_cases e : b = a
  · subst e; rw [upd_same, h]
  · rw [upd_ne e]
theorem evE_comp2 (F : FT) (own own1 tg : List Nat) (it : Vf.It) (c : Exs) (tg1 : List Nat) (it1 : Vf.It) (c1 : Exs) (e : Ex) : evE F (.comp2 own own1 tg it c tg1 it1 c1 e) = nox (bnd (evIt F it) fun ds s => if noOwned own s then
      bnd (compL2 own tg (condM F c) (bnd (evIt F it1) fun ds1 s => compL own1 tg1 (condM F c1) (evE F e) ds1 (wipeS own1 s)) ds) (fun xs s' => if fits xs.length then .ok (.lst xs, true) (backS own s s') else .stuck) (wipeS own s) else .stuck) := by
  cases c <;> cases c1 <;> simp only [evE, condM]
theorem lc2_imp {own own1 tg tg1 : List Nat} {it it1 : Vf.It} {c c1 : Exs} {e : Ex} {σ : L2.St} {H : Hp} {Q : VK} (ht : ∀ i ∈ tg, i ∈ own) (ht1 : ∀ i ∈ tg1, i ∈ own1) (ho : ∀ i ∈ own1, i ∈ own) (h : tvE X.K ca W (evE F (.comp2 own own1 tg it c tg1 it1 c1 e)) σ H Q) :
    tLc2 (tvI X.K ca W (evIt F it)) (gTg X.K tg) (tvT X.K ca W0 (condM F c)) (tvI X.K ca W0 (evIt F it1)) (gTg X.K tg1) (tvT X.K ca W0 (condM F c1)) (tvE X.K ca W0 (evE F e)) own own1 σ H Q := by
  obtain ⟨B, M, o, τ, Fz, s, r, h⟩ := h
  rw [evE_comp2] at h
  let inner : Vf.M (List D) := bnd (evIt F it1) fun ds1 s => compL own1 tg1 (condM F c1) (evE F e) ds1 (wipeS own1 s)
  refine ⟨B, M, o, τ, Fz, s, r, (nox_wp h).bnd_.mono (fun ds s1 q J H1 B1 Fz1 hB hF r1 itg D hD => ?_) fun _ _ z => z.elim⟩
  have q : WPm (fun s => if noOwned own s = true then bnd (compL2 own tg (condM F c) inner ds) (fun xs s' => if fits xs.length = true then Res.ok (Vf.D.lst xs, true) (backS own s s') else .stuck) (wipeS own s) else .stuck) s1 _ _ := q
  unfold WPm at q
  by_cases hn : noOwned own s1 = true
  · simp only [if_pos hn] at q
    obtain ⟨G, Y, wk, gy⟩ := itg.ex
    obtain ⟨f1, f2, f3, f4⟩ := r1.fresh hD
    have f0 : B D = none := by
      cases e : B D with
      | none => rfl
      | some u => rw [hB _ _ e] at f1; cases f1
    let okF : List Vf.D → S → Prop := fun xs s' => fits xs.length = true ∧ ∀ v H', RelT X.K o τ σ (backS own s1 s') H' [(v, .lst xs, true)] B M Fz → Q v H'
    have q2 : WPm (compL2 own tg (condM F c) inner ds) (wipeS own s1) okF (fun _ _ => False) := by
      have q3 : WPm (bnd (compL2 own tg (condM F c) inner ds) (fun xs s' => if fits xs.length = true then Res.ok (Vf.D.lst xs, true) (backS own s1 s') else .stuck)) (wipeS own s1) (fun x s' => ∀ v H', RelT X.K o τ σ s' H' [(v, x.1, x.2)] B M Fz → Q v H') (fun _ _ => False) := q
      refine q3.bnd_.mono (fun xs s' z => ?_) fun _ _ z => z
      unfold WPm at z
      by_cases hf : fits xs.length = true
      · simp only [if_pos hf] at z; exact ⟨hf, z⟩
      · simp only [if_neg hf] at z
    have rF := r1.more (r1.ownF_ own)
    let Fz2 := ownF σ s1 own ++ Fz1
    let Pv : Nat → Hp → Prop := fun i H => ∃ s2 acc dsi, RelS X.K (upd B1 D (.lst acc)) (fun b => M b ∨ b = D) o τ (acc.zip dsi ++ Fz2) (wipe σ own) s2 H ∧ acc.length = dsi.length ∧
      WPm (compL2 own tg (condM F c) inner (ds.drop i)) s2 (fun xs s' => okF (dsi ++ xs) s') (fun _ _ => False)
    have inB : ∀ acc b u, B1 b = some u → upd B1 D (.lst acc) b = some u := fun acc b u e => upd_up f1 b u e
    have inF : ∀ (acc : List V) (dsi : List Vf.D), ∀ p ∈ Fz1, p ∈ acc.zip dsi ++ Fz2 := fun acc dsi p hp => List.mem_append_right _ (List.mem_append_right _ hp)
    refine lc2_at wk Pv ?_ (fun i H _ ⟨s2, acc, dsi, r2, _, _⟩ => (gy _ _ _ _ _ _ _ (fun b u _ e => inB acc b u e) (inF acc dsi) r2).1) ?_ ?_
    · have r3 := (rF.alloc (u := .lst []) hD (fun _ z => by cases z)).wiped (own := own)
      exact ⟨_, [], [], r3, rfl, by simpa using q2⟩
    · intro i x H2 H3 hi ⟨s2, acc, dsi, r2, hl, qi⟩ hy
      obtain ⟨d, hd⟩ : ∃ d, ds[i]? = some d := ⟨ds[i], by simp [hi]⟩
      have hdr : ds.drop i = d :: ds.drop (i + 1) := by
        rw [List.drop_eq_getElem_cons hi]
        have : ds[i] = d := by simpa [hi] using hd
        rw [this]
      rw [hdr] at qi
      unfold compL2 at qi
      have r3 := (gy _ _ _ _ _ _ _ (fun b u _ e => inB acc b u e) (inF acc dsi) r2).2 i x H3 d hd hy
      refine bind_ok r3 List.mem_cons_self (WPm.bnd_ qi) fun σ2 s3 qb r4 off => ?_
      have hw := wipe_off off ht
      refine ⟨hw, ?_⟩
      refine ⟨_, _, o, τ, _, s3, r4, (WPm.bnd_ qb).mono (fun b s4 qc H4 r5 => ?_) fun _ _ z => z.elim⟩
      cases b with
      | true =>
        rw [if_pos rfl]
        have qc : WPm (bnd inner fun xs s' => bnd (compL2 own tg (condM F c) inner (ds.drop (i + 1))) (fun ys => ret (xs ++ ys)) (wipeS own s')) s4 (fun xs s' => okF (dsi ++ xs) s') (fun _ _ => False) := qc
        let okG : List Vf.D → S → Prop := fun xs s' => WPm (bnd (compL2 own tg (condM F c) inner (ds.drop (i + 1))) fun ys => ret (xs ++ ys)) (wipeS own s') (fun zs s'' => okF (dsi ++ zs) s'') (fun _ _ => False)
        have qd : WPm inner s4 okG (fun _ _ => False) := WPm.bnd_ qc
        refine ⟨_, _, o, τ, _, s4, r5, (WPm.bnd_ qd).mono (fun ds1 s5 qe J1 H5 B5 Fz5 hB5 hF5 r6 itg1 => ?_) fun _ _ z => z.elim⟩
        have qe : WPm (compL own1 tg1 (condM F c1) (evE F e) ds1) (wipeS own1 s5) okG (fun _ _ => False) := qe
        obtain ⟨G1, Y1, wk1, gy1⟩ := itg1.ex
        have b5 : B5 D = some (.lst acc) := hB5 D _ upd_same
        let Pv1 : Nat → Hp → Prop := fun j H => ∃ s2 acc1 dsi1, RelS X.K (upd B5 D (.lst (acc ++ acc1))) (fun b => M b ∨ b = D) o τ (acc1.zip dsi1 ++ Fz5) (wipe σ2 own1) s2 H ∧ acc1.length = dsi1.length ∧
          WPm (compL own1 tg1 (condM F c1) (evE F e) (ds1.drop j)) s2 (fun xs s' => okG (dsi1 ++ xs) s') (fun _ _ => False)
        have inB1 : ∀ acc1 b u, ¬ (M b ∨ b = D) → B5 b = some u → upd B5 D (.lst acc1) b = some u := fun acc1 b u n e => by rw [upd_ne (fun z => n (.inr z))]; exact e
        refine lc_at wk1 Pv1 ?_ (fun j H _ ⟨s2, acc1, dsi1, r2, _, _⟩ => (gy1 _ _ _ _ _ _ _ (fun b u n e => inB1 _ b u n e) (fun p hp => List.mem_append_right _ hp) r2).1) ?_ ?_
        · refine ⟨wipeS own1 s5, [], [], ?_, rfl, by simpa using qe⟩
          have r7 := r6.wiped (own := own1)
          rw [List.append_nil, upd_self b5]
          exact r7
        · intro j y H6 H7 hj ⟨s6, acc1, dsi1, r7, hl1, qj⟩ hy1
          obtain ⟨d1, hd1⟩ : ∃ d, ds1[j]? = some d := ⟨ds1[j], by simp [hj]⟩
          have hdr1 : ds1.drop j = d1 :: ds1.drop (j + 1) := by
            rw [List.drop_eq_getElem_cons hj]
            have : ds1[j] = d1 := by simpa [hj] using hd1
            rw [this]
          rw [hdr1] at qj
          unfold compL at qj
          have r8 := (gy1 _ _ _ _ _ _ _ (fun b u n e => inB1 _ b u n e) (fun p hp => List.mem_append_right _ hp) r7).2 j y H7 d1 hd1 hy1
          refine bind_ok r8 List.mem_cons_self (WPm.bnd_ qj) fun σ3 s7 qk r9 off1 => ?_
          have hw1 := wipe_off off1 ht1
          refine ⟨hw1, ?_⟩
          refine ⟨_, _, o, τ, _, s7, r9, (WPm.bnd_ qk).mono (fun b s8 ql H8 ra => ?_) fun _ _ z => z.elim⟩
          cases b with
          | true =>
            rw [if_pos rfl]
            refine ⟨_, _, o, τ, _, s8, ra, (WPm.bnd_ ql).mono (fun y1 s9 qm v H9 rt => ?_) fun _ _ z => z.elim⟩
            have rb := rt.one
            have hDa : H9 D = some (.lst (acc ++ acc1)) := rb.keep D _ upd_same f3
            have qm : WPm (bnd (compL own1 tg1 (condM F c1) (evE F e) (ds1.drop (j + 1))) fun xs => ret (y1.1 :: xs)) (wipeS own1 s9) (fun xs s' => okG (dsi1 ++ xs) s') (fun _ _ => False) := qm
            have qn := (WPm.bnd_ qm).mono (ok2 := fun xs s' => okG ((dsi1 ++ [y1.1]) ++ xs) s') (fun xs s' z => by
              have z := WPm.ret_ z
              rw [List.append_assoc]; exact z) (ex' := fun _ _ => False) (fun _ _ z => z)
            have hfit : (acc ++ acc1).length < sizeLine := by
              obtain ⟨xs, s', _, z⟩ := wp_ok qn
              obtain ⟨ys, s'', _, z2⟩ := wp_ok (WPm.bnd_ z)
              have z3 := WPm.ret_ z2
              have z1 := of_decide_eq_true z3.1
              simp only [List.length_append, List.length_cons, List.length_nil] at z1 ⊢
              omega
            refine ⟨acc ++ acc1, hDa, hfit, wipeS own1 s9, acc1 ++ [v], dsi1 ++ [y1.1], ?_, by simp [hl1], qn⟩
            have rc := (rb.bump (u' := .lst ((acc ++ acc1) ++ [v])) f3 (fun _ z => by cases z)).wiped (own := own1)
            rw [hw1, List.append_assoc] at rc
            rw [List.append_assoc acc acc1]
            refine rc.drop fun p hp => ?_
            rw [List.zip_append hl1] at hp
            simp only [List.zip_cons_cons, List.zip_nil_left, List.append_assoc, List.mem_append, List.mem_cons, List.not_mem_nil, false_or, or_false] at hp ⊢
            rcases hp with z | z | z
            · exact .inr (.inr (.inl z))
            · exact .inl z
            · exact .inr (.inr (.inr z))
          | false =>
            rw [if_neg Bool.false_ne_true]
            refine ⟨wipeS own1 s8, acc1, dsi1, ?_, hl1, ql⟩
            have rc := ra.wiped (own := own1)
            rw [hw1] at rc
            exact rc.drop fun p hp => List.mem_cons_of_mem _ hp
        · intro H6 ⟨s6, acc1, dsi1, r7, hl1, qj⟩
          have e0 : ds1.drop ds1.length = [] := by simp
          rw [e0] at qj
          unfold compL at qj
          have qj := WPm.ret_ qj
          have qj : okG (dsi1 ++ []) s6 := qj
          rw [List.append_nil] at qj
          refine ⟨wipeS own s6, acc ++ acc1, dsi ++ dsi1, ?_, by simp [hl, hl1], (WPm.bnd_ qj).mono (fun ys s'' z => ?_) fun _ _ z => z⟩
          · have r8 := r7.wiped (own := own)
            rw [wipe_wipe ho, hw] at r8
            refine r8.weak (fun b u e => ?_) (fun _ z => z) (fun p hp => r8.fz p ?_)
            · by_cases eb : b = D
              · subst eb; rw [upd_same] at e ⊢; exact e
              · rw [upd_ne eb] at e ⊢; exact hB5 b u (by rw [upd_ne eb]; exact e)
            · rw [List.zip_append hl, List.append_assoc] at hp
              rcases List.mem_append.mp hp with z | z
              · exact List.mem_append_right _ (hF5 p (List.mem_cons_of_mem _ (List.mem_append_left _ z)))
              · rcases List.mem_append.mp z with z | z
                · exact List.mem_append_left _ z
                · exact List.mem_append_right _ (hF5 p (List.mem_cons_of_mem _ (List.mem_append_right _ z)))
          · have z := WPm.ret_ z
            rw [List.append_assoc]; exact z
      | false =>
        rw [if_neg Bool.false_ne_true]
        refine ⟨wipeS own s4, acc, dsi, ?_, hl, qc⟩
        have r7 := r5.wiped (own := own)
        rw [hw] at r7
        exact r7.drop fun p hp => List.mem_cons_of_mem _ hp
    · intro H2 ⟨s2, acc, dsi, r2, hl, qi⟩
      have e0 : ds.drop ds.length = [] := by simp
      rw [e0] at qi
      unfold compL2 at qi
      have qi := WPm.ret_ qi
      have qi : okF (dsi ++ []) s2 := qi
      rw [List.append_nil] at qi
      refine qi.2 (.ref D) H2 ⟨D, .lst acc, acc.zip dsi, rfl, f0, f3, f2, .lst hl, ?_⟩
      have r8 := RelS.returned r1 r2 hn (fun p hp => List.mem_append_right _ (List.mem_append_left _ hp))
      refine r8.weak (fun b u e => ?_) (fun _ z => z) (fun p hp => r8.fz p ?_)
      · by_cases eb : b = D
        · subst eb; rw [upd_same] at e ⊢; exact e
        · rw [upd_ne eb] at e ⊢; exact hB b u e
      · rcases List.mem_append.mp hp with z | z
        · exact List.mem_append_left _ z
        · exact List.mem_append_right _ (List.mem_append_right _ (hF p z))
  · simp only [if_neg hn] at q
theorem own_ty {K : PySem.W.Frag} {B : Hp} {M : AP} {o : Nat → Addr} {τ : TA2} {Fz : List (V × D)} {σ : L2.St} {s : S} {H : Hp} {i : Nat} {ds : List D} (r : RelS K B M o τ Fz σ s H) (w : Own s i (.lst ds)) :
    ∃ xs, σ[i]? = some (some (.ref (o i))) ∧ H (o i) = some (.lst xs) ∧ RepAll K (Prt M o τ s) τ H xs ds := by
  obtain ⟨h1, h2, h3, h4, u, cs, h5, h6, h7⟩ := r.ow i _ w
  cases h6 with
  | lst e => exact ⟨_, h1, h5, RepAll.of_fz e h7⟩
theorem lst_mutate {K : PySem.W.Frag} {B : Hp} {M : AP} {o : Nat → Addr} {τ : TA2} {Fz : List (V × D)} {σ : L2.St} {s : S} {H : Hp} {i : Nat} {ds ds' : List D} {xs' : List V} (r : RelS K B M o τ Fz σ s H) (w : Own s i (.lst ds)) (ra : RepAll K (Prt M o τ s) τ H xs' ds') :
    RelS K B M o τ Fz σ (setS s i (some (true, .lst ds'))) (upd H (o i) (.lst xs')) := r.mutate w (.lst ra.len) ra.fz
theorem own_of {s : S} {i : Nat} {ok : Unit → S → Prop} {ex : Nat → S → Prop} (h : WPm (ownL i) s ok ex) : (∃ ds, Own s i (.lst ds)) ∧ ok () s := by
  unfold WPm ownL at h
  split at h <;> rename_i hh
  · split at hh
    · rename_i ds e
      cases hh
      exact ⟨⟨ds, e⟩, h⟩
    · cases hh
  · split at hh <;> cases hh
  · exact h.elim
theorem getLast_ix {α : Type} (ds : List α) : ds.getLast? = ds[ds.length - 1]? := by
  rw [List.getLast?_eq_getElem?]
theorem popV_ok {i : Nat} {xs : List D} {s : S} {ok : D × Bool → S → Prop} {ex : Nat → S → Prop} (h : WPm (popV i xs) s ok ex) : ∃ ds, Own s i (.lst ds) ∧ ((xs = [] ∧ ∃ d, ds.getLast? = some d ∧ ok (d, false) (setS s i (some (true, .lst ds.dropLast)))) ∨
    ∃ k j d, xs = [.int k] ∧ bigOk k = true ∧ seqIndex? k ds.length = some j ∧ ds[j]? = some d ∧ ok (d, false) (setS s i (some (true, .lst (ds.eraseIdx j))))) := by
  unfold WPm popV at h
  split at h <;> rename_i hh
  · split at hh
    · rename_i ds w
      refine ⟨ds, w, ?_⟩
      split at hh
      · split at hh
        · rename_i d e; cases hh; exact .inl ⟨rfl, d, e, h⟩
        · cases hh
      · split at hh
        · rename_i hb
          split at hh
          · rename_i j e
            split at hh
            · rename_i d e2; cases hh; exact .inr ⟨_, j, d, rfl, hb, e, e2, h⟩
            · cases hh
          · cases hh
        · cases hh
      · cases hh
    · cases hh
  · exfalso
    revert hh
    repeat' first
      | (intro hh; cases hh; done)
      | split
  · exact h.elim
theorem je_pop0 {x : Str} {i : Nat} {px apos cpos : Pos} (hN : X.N[i]? = some x) (hv : Vis X.env.scope x) (h1 : (x == ("__debug__" : Str)) = false) (h2 : (x == ("__classdict__" : Str)) = false) (hl : (apos.endLine == cpos.line) = true) :
    JE X ca W (.Call (.Attribute (.Name x px) "pop" apos) [] [] cpos) (evE F (.pop i .nil)) := by
  refine PE.imp (pe_bm0 PySem.F.plainAttrs_list PySem.F.slot_list_pop PySem.F.type_list_pop mt_pop (pe_var hN hv h1 h2) rfl hl) fun σ H Q q => ?_
  obtain ⟨B, M, o, τ, Fz, s, r, q⟩ := q
  unfold evE at q
  obtain ⟨⟨ds, w⟩, q⟩ := own_of q.bnd_
  obtain ⟨xs, g1, g2, ra⟩ := own_ty r w
  refine ⟨_, g1, ⟨.inl ⟨rfl, xs, .of g2⟩, ?_⟩⟩
  have q := q.bnd_
  simp only [evEs] at q
  have q := WPm.ret_ q
  obtain ⟨ds1, w1, q⟩ := popV_ok q
  obtain ⟨xs, g1, g2, ra⟩ := own_ty r w1
  rcases q with ⟨_, d, e, q⟩ | ⟨k, j, d, e, _⟩
  · have e' := e
    rw [getLast_ix] at e'
    obtain ⟨y, hy, ry⟩ := ra.get e'
    refine ⟨o i, xs, y, rfl, rfl, g2, by rw [ra.len]; exact hy, q y _ ?_⟩
    exact lst_mutate (r.more1 ry) w1 ra.dropLast
  · cases e
theorem wp_len {es : Exs} {s : S} {ok : List (D × Bool) → S → Prop} {ex : Nat → S → Prop} (h : WPm (evEs F es) s ok ex) : WPm (evEs F es) s (fun xs s' => xs.length = es.len ∧ ok xs s') ex := by
  unfold WPm at h ⊢
  cases e : evEs F es s with
  | ok a s' => rw [e] at h; exact ⟨evEs_len es a s s' e, h⟩
  | exc c s' => rw [e] at h; exact h
  | stuck => rw [e] at h; exact h
theorem je_pop1 {x : Str} {i : Nat} {px apos cpos : Pos} {a : Expr} {e : Ex} (hN : X.N[i]? = some x) (hv : Vis X.env.scope x) (h1 : (x == ("__debug__" : Str)) = false) (h2 : (x == ("__classdict__" : Str)) = false) (hl : (apos.endLine == cpos.line) = true)
    (ha : JE X ca W a (evE F e)) (hn : nst a = true) : JE X ca W (.Call (.Attribute (.Name x px) "pop" apos) [a] [] cpos) (evE F (.pop i (.cons e .nil))) := by
  have hA : PA X [a] (tvEs X.K ca W (evEs F (.cons e .nil))) := ja_cons ha ja_nil hn
  refine PE.imp (pe_bm PySem.F.plainAttrs_list PySem.F.slot_list_pop PySem.F.type_list_pop mt_popAt (pe_var hN hv h1 h2) hA rfl (by rw [star_cons hn]; rfl) hl (star_cons hn) rfl) fun σ H Q q => ?_
  obtain ⟨B, M, o, τ, Fz, s, r, q⟩ := q
  rw [evE] at q
  obtain ⟨⟨ds, w⟩, q⟩ := own_of q.bnd_
  obtain ⟨xs, g1, g2, ra⟩ := own_ty r w
  refine ⟨_, g1, ⟨.inl ⟨rfl, xs, .of g2⟩, ?_⟩⟩
  refine ⟨B, M, o, τ, Fz, s, r, (wp_len q.bnd_).mono (fun ys s1 q vs H1 hlen rt => ?_) fun _ _ z => z⟩
  obtain ⟨hy1, q⟩ := q
  have r1 := rt.plain
  rw [zipT_map hlen] at r1
  obtain ⟨ds1, w1, q2⟩ := popV_ok q
  obtain ⟨xs1, g3, g4, ra⟩ := own_ty r1 w1
  obtain ⟨y0, rfl⟩ : ∃ y0, ys = [y0] := by
    match ys, hy1 with
    | [y0], _ => exact ⟨y0, rfl⟩
  rcases q2 with ⟨e, _⟩ | ⟨k, j, d, e, hb, hj, hd, q3⟩
  · cases e
  · obtain ⟨v, rfl⟩ : ∃ v, vs = [v] := by
      match vs, hlen with
      | [v], _ => exact ⟨v, rfl⟩
    have e : y0.1 = .int k := by simpa using e
    have rp := r1.fz (v, y0.1) (by simp)
    rw [e] at rp
    have ev : v = V.int k := by cases rp; rfl
    subst ev
    obtain ⟨y, hy, ry⟩ := ra.get hd
    simp only [bigOk, Bool.and_eq_true, decide_eq_true_eq] at hb
    refine ⟨o i, xs1, k, j, y, rfl, rfl, g4, by omega, by omega, by rw [ra.len]; exact hj, hy, q3 y _ ?_⟩
    have r2 := lst_mutate (r1.more1 ry) w1 (ra.erase j)
    exact r2.drop fun p hp => (List.mem_cons.mp hp).elim (fun z => z ▸ List.mem_cons_self) fun z => List.mem_cons_of_mem _ (List.mem_append_right _ z)
end
end Vf
namespace Vf
open PySem PySem.Spec PyProof.Rows L2

section
variable {K : PySem.W.Frag} {P : AP} {τ : TA2} {H : Hp}
theorem putK_cons {κ : Type} [DecidableEq κ] {p : κ × V} {r : List (κ × V)} {k : κ} {v : V} : putK (p :: r) k v = if p.1 = k then (p.1, v) :: r.map (fun kv => if kv.1 = k then (kv.1, v) else kv) else p :: putK r k v := by
  unfold putK
  by_cases h : p.1 = k
  · simp [h]
  · simp only [List.any_cons, decide_eq_false h, Bool.false_or, List.map_cons, if_neg h, List.cons_append]
    split <;> rfl
theorem drepK {k : Key} {v : V} {d : D} (hr : Rep K P τ H v d) : ∀ {kvs : List (Key × V)} {ds : List (D × D)}, RepK K P τ H kvs ds → RepK K P τ H (kvs.map fun kv => if kv.1 = k then (kv.1, v) else kv) (drep false (.inl k) d ds)
  | _, _, .nil => .nil
  | _, _, .cons (k := k') (v := v') (kd := kd) (d := d') hk h t => by
    unfold drep
    simp only [List.map_cons, dkey, hk, Option.map_some, Option.some.injEq, Sum.inl.injEq]
    by_cases e : k' = k
    · rw [if_pos e, if_pos e]; exact .cons hk hr (drepK hr t)
    · rw [if_neg e, if_neg e]; exact .cons hk h (drepK hr t)
theorem dputK {k : Key} {v : V} {kd d : D} (hk0 : keyD kd = some k) (hr : Rep K P τ H v d) : ∀ {kvs : List (Key × V)} {ds : List (D × D)}, RepK K P τ H kvs ds → RepK K P τ H (putK kvs k v) (dput false (.inl k) kd d ds)
  | _, _, .nil => by unfold putK dput; exact .cons hk0 hr .nil
  | _, _, .cons (k := k') (v := v') (kd := kd') (d := d') hk h t => by
    rw [putK_cons]
    unfold dput
    simp only [dkey, hk, Option.map_some, Option.some.injEq, Sum.inl.injEq]
    by_cases e : k' = k
    · rw [if_pos e, if_pos e]; exact .cons hk hr (drepK hr t)
    · rw [if_neg e, if_neg e]; exact .cons hk h (dputK hk0 hr t)
theorem drepT {k : List Key} {v : V} {d : D} (hr : Rep K P τ H v d) : ∀ {kvs : List (List Key × V)} {ds : List (D × D)}, RepT K P τ H kvs ds → RepT K P τ H (kvs.map fun kv => if kv.1 = k then (kv.1, v) else kv) (drep true (.inr k) d ds)
  | _, _, .nil => .nil
  | _, _, .cons (k := k') (v := v') (kd := kd) (d := d') hk h t => by
    unfold drep
    simp only [List.map_cons, dkey, hk, Option.map_some, Option.some.injEq, Sum.inr.injEq]
    by_cases e : k' = k
    · rw [if_pos e, if_pos e]; exact .cons hk hr (drepT hr t)
    · rw [if_neg e, if_neg e]; exact .cons hk h (drepT hr t)
theorem dputT {k : List Key} {v : V} {kd : List D} {d : D} (hk0 : keysD kd = some k) (hr : Rep K P τ H v d) : ∀ {kvs : List (List Key × V)} {ds : List (D × D)}, RepT K P τ H kvs ds → RepT K P τ H (putK kvs k v) (dput true (.inr k) (.tup kd) d ds)
  | _, _, .nil => by unfold putK dput; exact .cons hk0 hr .nil
  | _, _, .cons (k := k') (v := v') (kd := kd') (d := d') hk h t => by
    rw [putK_cons]
    unfold dput
    simp only [dkey, hk, Option.map_some, Option.some.injEq, Sum.inr.injEq]
    by_cases e : k' = k
    · rw [if_pos e, if_pos e]; exact .cons hk hr (drepT hr t)
    · rw [if_neg e, if_neg e]; exact .cons hk h (dputT hk0 hr t)
theorem line16 : (16000000 : Nat) ≤ sizeLine := by rw [sizeLine_eq]; decide
def rSetA : TSet := fun o i v H Q => rSetL o i v H Q ∨ rSetD o i v H Q
theorem set_A {X : Cx} (hu : X.A.units + 1 < cLine) : PSet X rSetA := by
  intro pins s σ H o i v ov iv u Q I ro ri rv h
  rcases h with h | h
  · exact set_list pins s σ H o i v ov iv u Q I ro ri rv h
  · exact set_dict hu pins s σ H o i v ov iv u Q I ro ri rv h
theorem setAt_ok {B : Hp} {M : AP} {o : Nat → Addr} {Fz : List (V × D)} {σ : L2.St} {s : S} {i : Nat} {d kd x d' : D} {kv xv : V} {Q : Hp → Prop} (r : RelS K B M o τ Fz σ s H) (w : Own s i d) (hk : (kv, kd) ∈ Fz) (hx : (xv, x) ∈ Fz) (e : setAt d kd x = some d')
    (q : ∀ H', RelS K B M o τ Fz σ (setS s i (some (true, d'))) H' → Q H') : rSetA (.ref (o i)) kv xv H Q := by
  obtain ⟨h1, h2, h3, h4, u, cs, h5, h6, h7⟩ := r.ow i d w
  have rk := r.fz _ hk
  have rx := r.fz _ hx
  cases h6 with
  | @lst xs ds el =>
    cases kd with
    | int k =>
      simp only [setAt] at e
      cases e1 : ixN ds.length k with
      | none => rw [e1] at e; cases e
      | some j =>
        rw [e1] at e
        cases e
        have ev : kv = V.int k := by cases rk; rfl
        subst ev
        have ra := RepAll.of_fz el h7
        exact .inl ⟨o i, xs, k, j, rfl, rfl, h5, by rw [el]; exact e1, q _ (lst_mutate r w (ra.set j rx))⟩
    | _ => simp [setAt] at e
  | @dK kvs ds el =>
    cases e1 : dkey false kd with
    | none => simp [setAt, e1] at e
    | some kk =>
      simp only [setAt, e1, Option.bind_some] at e
      split at e
      · rename_i hl
        cases e
        simp only [dkey] at e1
        cases e2 : keyD kd with
        | none => rw [e2] at e1; cases e1
        | some k =>
          rw [e2] at e1
          cases e1
          have ev := key_val (.inl rk) e2
          subst ev
          have rk0 := repK_of el h7
          have ra := dputK e2 rx rk0
          have l1 := rk0.vals.len
          simp only [List.length_map] at l1
          have := line16
          exact .inr ⟨o i, _, rfl, .inl ⟨kvs, k, h5, rfl, by omega, rfl⟩, q _ (r.mutate w (.dK ra.keys) ra.vals.fz)⟩
      · cases e
  | @dT kvs ds el =>
    cases e1 : dkey true kd with
    | none => simp [setAt, e1] at e
    | some kk =>
      simp only [setAt, e1, Option.bind_some] at e
      split at e
      · rename_i hl
        cases e
        cases kd with
        | tup kds =>
          simp only [dkey] at e1
          cases e2 : keysD kds with
          | none => rw [e2] at e1; cases e1
          | some k =>
            rw [e2] at e1
            cases e1
            cases rk with
            | @tup b ys _ hb rys =>
              have ev := keys_val rys e2
              subst ev
              have rk0 := repT_of el h7
              have ra := dputT e2 rx rk0
              have l1 := rk0.vals.len
              simp only [List.length_map] at l1
              have := line16
              exact .inr ⟨o i, _, rfl, .inr ⟨kvs, k, b, h5, rfl, hb.2, by omega, rfl⟩, q _ (r.mutate w (.dT ra.keys) ra.vals.fz)⟩
        | _ => simp [dkey] at e1
      · cases e
def rGetA (K : PySem.W.Frag) : V → V → Hp → VK → Prop := fun x y H Q => rIxL K x y H Q ∨ ∃ a v, x = .ref a ∧ DGet H a y (some v) ∧ Q v H
theorem get_A {X : Cx} (hu : X.A.units + 1 < cLine) : PGet X (rGetA X.K) := by
  intro pins s σ H x y v u Q I rx ry h
  rcases h with ⟨p, xs, i, z, rfl, rfl, hq, he, q⟩ | ⟨a, w, rfl, g, q⟩
  · cases rx
    obtain ⟨t, rfl⟩ := ry
    obtain ⟨its, r, pl, hz⟩ := I.list hq
    obtain ⟨j, h1, h2, h3, h4, h5⟩ := atI_get he
    obtain ⟨w, ew, rw'⟩ := r.get h2
    have hl := r.length
    have hn := line63
    have fin : EP X pins σ Q w s := ⟨z, H, I, rw', q⟩
    by_cases h0 : 0 ≤ i
    · have hj : i.toNat = j := by
        rw [seqIndex_of h0 h5] at h1
        exact Option.some.inj h1
      exact wpAny_getItem_list pl.isList h0 (by omega) (by rw [hj]; simpa using ew) fin
    · have hj : (i + (its.toArray.size : Int)).toNat = j := by
        rw [seqIndex_neg (by omega) h4] at h1
        rw [List.size_toArray, ← hl]
        exact Option.some.inj h1
      exact wpAny_getItem_list_neg pl.isList (by omega) (by rw [List.size_toArray] <;> omega) (by omega) (by rw [hj]; simpa using ew) fin
  · cases rx
    exact d_getItem hu I g ry fun w' s3 I3 rw' => ⟨w, H, I3, rw', q⟩
end
end Vf
namespace Vf
open PySem PySem.Spec PyProof.Rows L2

section
variable (K : PySem.W.Frag) (ca : Nat → Addr) (W : WX)
def okS (B : Hp) (M : AP) (τ : TA2) (Fz : List (V × D)) (E : Ends) : Fl → S → Prop
  | .nx, s' => ∀ o σ H', RelS K B M o τ Fz σ s' H' → E.nx σ H'
  | .rt d fr, s' => ∀ v o σ H', RelT K o τ σ s' H' [(v, d, fr)] B M Fz → E.rt v H'
def exS (B : Hp) (M : AP) (τ : TA2) (Fz : List (V × D)) : Nat → S → Prop := fun c s' => ∀ o σ H', RelS K B M o τ Fz σ s' H' → W (.ref (ca c)) none σ H'
def tvS (m : M Fl) : TS := fun E σ H => ∃ B M o τ Fz s, RelS K B M o τ Fz σ s H ∧ WPm m s (okS K B M τ Fz E) (exS K ca W B M τ Fz)
end
section
variable {K : PySem.W.Frag} {ca : Nat → Addr} {W : WX} {B B' : Hp} {M M' : AP} {τ : TA2} {Fz Fz' : List (V × D)} {E : Ends} {o : Nat → Addr} {σ : L2.St} {s : S} {H : Hp}
theorem RelT.weak : ∀ {ts : List (V × D × Bool)} {B B' : Hp} {Fz Fz' : List (V × D)}, (∀ b u, B' b = some u → B b = some u) → (∀ p ∈ Fz', p ∈ Fz) → RelT K o τ σ s H ts B M Fz → RelT K o τ σ s H ts B' M Fz' := by
  intro ts
  induction ts generalizing M with
  | nil => intro B B' Fz Fz' hB hF r; exact RelS.weak r hB (fun _ z => z) fun p hp => RelS.fz r p (hF p hp)
  | cons t ts ih =>
    intro B B' Fz Fz' hB hF r
    obtain ⟨v, d, fr⟩ := t
    cases fr with
    | false => exact ih (Fz := (v, d) :: Fz) hB (fun p hp => (List.mem_cons.mp hp).elim (fun e => e ▸ List.mem_cons_self) fun e => List.mem_cons_of_mem _ (hF p e)) r
    | true =>
      obtain ⟨a, u, cs, e, hb, ht, hm, c, r⟩ := r
      refine ⟨a, u, cs, e, ?_, ht, hm, c, ih (B := upd B a u) ?_ ?_ r⟩
      · cases q : B' a with
        | none => rfl
        | some x => rw [hB _ _ q] at hb; cases hb
      · intro b x q
        by_cases eb : b = a
        · subst eb; rw [upd_same] at q ⊢; exact q
        · rw [upd_ne eb] at q ⊢; exact hB b x q
      · exact fun p hp => (List.mem_append.mp hp).elim (fun e => List.mem_append_left _ e) fun e => List.mem_append_right _ (hF p e)
theorem okS.up (hB : ∀ b u, B b = some u → B' b = some u) (hF : ∀ p ∈ Fz, p ∈ Fz') : ∀ f s', okS K B M τ Fz E f s' → okS K B' M τ Fz' E f s'
  | .nx, s', h => fun o σ H' r => h o σ H' (r.weak hB (fun _ z => z) fun p hp => r.fz p (hF p hp))
  | .rt d fr, s', h => fun v o σ H' r => h v o σ H' (r.weak hB hF)
theorem exS.up (hB : ∀ b u, B b = some u → B' b = some u) (hF : ∀ p ∈ Fz, p ∈ Fz') : ∀ c s', exS K ca W B M τ Fz c s' → exS K ca W B' M τ Fz' c s' := fun c s' h o σ H' r => h o σ H' (r.weak hB (fun _ z => z) fun p hp => r.fz p (hF p hp))
theorem exS.ex : ∀ c s', exS K ca W B M τ Fz c s' → EX K ca W B M o τ Fz σ c s' := fun c s' h H' r => h o σ H' r
theorem tvE_st {m : Vf.M (D × Bool)} {k : D × Bool → Vf.M Fl} {Q : VK} (r : RelS K B M o τ Fz σ s H) (h : WPm (bnd m k) s (okS K B M τ Fz E) (exS K ca W B M τ Fz))
    (q : ∀ x s' v H', WPm (k x) s' (okS K B M τ Fz E) (exS K ca W B M τ Fz) → RelT K o τ σ s' H' [(v, x.1, x.2)] B M Fz → Q v H') : tvE K ca W m σ H Q :=
  ⟨B, M, o, τ, Fz, s, r, h.bnd_.mono (fun x s' z v H' rt => q x s' v H' z rt) exS.ex⟩
theorem tvT_st {m : Vf.M Bool} {k : Bool → Vf.M Fl} {Q : Bool → Hp → Prop} (r : RelS K B M o τ Fz σ s H) (h : WPm (bnd m k) s (okS K B M τ Fz E) (exS K ca W B M τ Fz))
    (q : ∀ b s' H', WPm (k b) s' (okS K B M τ Fz E) (exS K ca W B M τ Fz) → RelS K B M o τ Fz σ s' H' → Q b H') : tvT K ca W m σ H Q :=
  ⟨B, M, o, τ, Fz, s, r, h.bnd_.mono (fun x s' z H' rt => q x s' H' z rt) exS.ex⟩
end
section
variable {X : Cx} {ca : Nat → Addr} {W : WX} {F : FT}
abbrev JS (X : Cx) (ca : Nat → Addr) (W : WX) (st : Stmt) (m : Vf.M Fl) : Prop := PS X st (tvS X.K ca W m)
abbrev JSs (X : Cx) (ca : Nat → Addr) (W : WX) (st : List Stmt) (m : Vf.M Fl) : Prop := PSs X st (tvS X.K ca W m)
theorem jss_nil : JSs X ca W [] (evSs F .nil) := PSs.imp pss_nil fun E σ H ⟨B, M, o, τ, Fz, s, r, h⟩ => by
  unfold evSs at h
  exact WPm.ret_ h o σ H r
theorem jss_cons {st : Stmt} {sts : List Stmt} {x : Sx} {xs : Sxs} (h : JS X ca W st (evS F x)) (t : JSs X ca W sts (evSs F xs)) : JSs X ca W (st :: sts) (evSs F (.cons x xs)) := PSs.imp (pss_cons h t) fun E σ H ⟨B, M, o, τ, Fz, s, r, h⟩ => by
  unfold evSs at h
  refine ⟨B, M, o, τ, Fz, s, r, h.bnd_.mono (fun f s' q => ?_) fun _ _ z => z⟩
  cases f with
  | nx => exact fun o' σ' H' r' => ⟨B, M, o', τ, Fz, s', r', q⟩
  | rt d fr => exact WPm.ret_ (ex := exS X.K ca W B M τ Fz) q
theorem js_set {i : Nat} {x : Str} {a : Expr} {e : Ex} {p pos : Pos} (hN : X.N.Nodup) (hi : X.N[i]? = some x) (hx : Loc X.env.scope x) (hf : X.fn x = true ∨ X.env.scope.names.lookup x = some .local) (h : JE X ca W a (evE F e))
    (hs : swapsWith a (some (.Name x p)) pos.line X.env = pure false) : JS X ca W (.Assign [.Name x p] a pos) (evS F (.set i e)) := PS.imp (ps_set hN hi hx h hs hf) fun E σ H ⟨B, M, o, τ, Fz, s, r, h⟩ => by
  unfold evS at h
  refine tvE_st r h fun x s' v H' q rt => ?_
  obtain ⟨o', r'⟩ := rt.store (i := i)
  have q : okS X.K B M τ Fz E .nx (setS s' i (some (x.2, x.1))) := q
  exact q o' _ H' r'
theorem set_imp {i : Nat} {m : Vf.M (D × Bool)} {te : TE} (hte : ∀ σ H Q, tvE X.K ca W m σ H Q → te σ H Q) : ∀ E σ H, tvS X.K ca W (bnd m (storeM i)) E σ H → tAsg te (gName i) E σ H := fun E σ H ⟨B, M, o, τ, Fz, s, r, h⟩ => by
  refine hte _ _ _ (tvE_st r h fun x s' v H' q rt => ?_)
  obtain ⟨o', r'⟩ := rt.store (i := i)
  have q : okS X.K B M τ Fz E .nx (setS s' i (some (x.2, x.1))) := q
  exact q o' _ H' r'
theorem pgs_names {N : List Str} (hN : X.N.Nodup) : ∀ {is : List Nat} {xs : List Str} {ps : List Pos}, (∀ p ∈ is.zip xs, X.N[p.1]? = some p.2 ∧ Loc X.env.scope p.2 ∧ (X.fn p.2 = true ∨ X.env.scope.names.lookup p.2 = some .local)) → is.length = xs.length → ps.length = xs.length →
    PGs X (List.zipWith (fun x p => Expr.Name x p) xs ps) (gNs is)
  | [], [], [], _, _, _ => pgs_nil
  | [], _ :: _, _, _, h, _ => by simp at h
  | _ :: _, [], _, _, h, _ => by simp at h
  | [], [], _ :: _, _, _, h => by simp at h
  | _ :: _, _ :: _, [], _, _, h => by simp at h
  | i :: is, x :: xs, p :: ps, h, h1, h2 => by
    obtain ⟨a, b, c⟩ := h (i, x) (by simp)
    exact pgs_cons (pg_name hN a b c) (pgs_names (N := N) hN (fun q hq => h q (by simp [hq])) (by simpa using h1) (by simpa using h2))
theorem js_unp {is : List Nat} {tg a : Expr} {e : Ex} {pos : Pos} (hg : PG X tg (gTup X.K is.length (gNs is))) (h : JE X ca W a (evE F e)) (hs : swapsWithSole [tg] a pos.line X.env = pure false) (hw : swappedStores [tg] a X.env = pure none)
    (h1 : (assignEach [tg] X.env).map (·.2) = [assign tg X.env]) : JS X ca W (.Assign [tg] a pos) (evS F (.unp is e)) := PS.imp (ps_asg h hg hs hw h1) fun E σ H ⟨B, M, o, τ, Fz, s, r, h⟩ => by
  unfold evS at h
  refine tvE_st r h fun x s' v H' q rt => ?_
  have r1 := rt.one
  unfold WPm at q
  cases e1 : tupOf x.1 with
  | none => simp only [e1] at q
  | some ds =>
    simp only [e1] at q
    by_cases hl : is.length = ds.length
    · simp only [if_pos hl] at q
      obtain ⟨a, xs, e0, h1, ra, _⟩ := tup_same e1 (r1.fz (v, x.1) List.mem_cons_self)
      have r2 := r1.more ra.fz
      refine ⟨a, xs, e0, h1, by rw [ra.len, hl], ?_⟩
      refine setP_ok r2 (fun p hp => List.mem_append_left _ hp) (by rw [ra.len, hl]) hl.symm fun σ' r' off => q o σ' H' (r'.drop fun p hp => List.mem_append_right _ (List.mem_cons_of_mem _ hp))
    · simp only [if_neg hl] at q
theorem RelT.store2 {K : PySem.W.Frag} {o : Nat → Addr} {τ : TA2} {σ : L2.St} {s : S} {H : Hp} {B : Hp} {M : AP} {Fz : List (V × D)} {i : Nat} {v : V} {d : D} {fr : Bool} {ts : List (V × D × Bool)} {f : L2.St → L2.St} {g : S → S}
    (hts : ∀ B M Fz, RelT K o τ σ s H ts B M Fz → ∃ o', RelS K B M o' τ Fz (f σ) (g s) H) (h : RelT K o τ σ s H ((v, d, fr) :: ts) B M Fz) : ∃ o', RelS K B M o' τ Fz ((f σ).set i (some v)) (setS (g s) i (some (fr, d))) H := by
  cases fr with
  | false =>
    obtain ⟨o', r⟩ := hts _ _ _ h
    exact ⟨o', (r.store (i := i)).drop fun p q => List.mem_cons_of_mem _ q⟩
  | true =>
    obtain ⟨a, u, cs, rfl, hb, ht, hm, c, h⟩ := h
    obtain ⟨o', r⟩ := hts _ _ _ h
    exact RelS.storeN hb ht hm c r
theorem js_par2 {i j : Nat} {x y : Str} {a b : Expr} {es : Exs} {px py pt pos : Pos} {kt k2 : Nat} {pt2 : Pos} (hc : X.calm = true) (hN : X.N.Nodup) (hi : X.N[i]? = some x) (hj : X.N[j]? = some y) (hij : i ≠ j)
    (hx : X.env.scope.names.lookup x = some .local) (hy : X.env.scope.names.lookup y = some .local) (h : JA X ca W [a, b] (evEs F es))
    (hw : swappedStores [.Tuple [.Name x px, .Name y py] kt pt] (.Tuple [a, b] k2 pt2) X.env = pure (some [x, y])) :
    JS X ca W (.Assign [.Tuple [.Name x px, .Name y py] kt pt] (.Tuple [a, b] k2 pt2) pos) (evS F (.par [i, j] es)) := PS.imp (ps_par hc hN hi hj hij hx hy h hw rfl) fun E σ H ⟨B, M, o, τ, Fz, s, r, h⟩ => by
  unfold evS at h
  refine ⟨B, M, o, τ, Fz, s, r, h.bnd_.mono (fun xs s' q vs H' hl rt => ?_) exS.ex⟩
  unfold WPm at q
  by_cases hl2 : [i, j].length = xs.length
  · simp only [if_pos hl2] at q
    obtain ⟨x1, x2, rfl⟩ : ∃ x1 x2, xs = [x1, x2] := by
      match xs, hl2 with
      | [x1, x2], _ => exact ⟨x1, x2, rfl⟩
    obtain ⟨v1, v2, rfl⟩ := two_vs hl
    refine ⟨v1, v2, rfl, ?_⟩
    have rt : RelT X.K o τ σ s' H' [(v1, x1.1, x1.2), (v2, x2.1, x2.2)] B M Fz := rt
    obtain ⟨o', r'⟩ := RelT.store2 (i := i) (f := fun σ => σ.set j (some v2)) (g := fun s => setS s j (some (x2.2, x2.1))) (fun B M Fz h => RelT.store (i := j) h) rt
    have q : okS X.K B M τ Fz E .nx (setS (setS s' j (some (x2.2, x2.1))) i (some (x1.2, x1.1))) := q
    have := q o' _ H' r'
    rw [List.set_comm _ _ (Ne.symm hij)] at this
    exact this
  · simp only [if_neg hl2] at q
theorem js_par3 {i j l : Nat} {x y z : Str} {a b c : Expr} {es : Exs} {px py pz pt pos : Pos} {kt k2 : Nat} {pt2 : Pos} (hc : X.calm = true) (hN : X.N.Nodup) (hi : X.N[i]? = some x) (hj : X.N[j]? = some y) (hl0 : X.N[l]? = some z) (hij : i ≠ j) (hil : i ≠ l) (hjl : j ≠ l)
    (hx : X.env.scope.names.lookup x = some .local) (hy : X.env.scope.names.lookup y = some .local) (hz : X.env.scope.names.lookup z = some .local) (h : JA X ca W [a, b, c] (evEs F es))
    (hw : swappedStores [.Tuple [.Name x px, .Name y py, .Name z pz] kt pt] (.Tuple [a, b, c] k2 pt2) X.env = pure (some [x, y, z])) :
    JS X ca W (.Assign [.Tuple [.Name x px, .Name y py, .Name z pz] kt pt] (.Tuple [a, b, c] k2 pt2) pos) (evS F (.par [i, j, l] es)) := PS.imp (ps_par3 hc hN hi hj hl0 hij hil hjl hx hy hz h hw rfl) fun E σ H ⟨B, M, o, τ, Fz, s, r, h⟩ => by
  unfold evS at h
  refine ⟨B, M, o, τ, Fz, s, r, h.bnd_.mono (fun xs s' q vs H' hl rt => ?_) exS.ex⟩
  unfold WPm at q
  by_cases hl2 : [i, j, l].length = xs.length
  · simp only [if_pos hl2] at q
    obtain ⟨x1, x2, x3, rfl⟩ : ∃ x1 x2 x3, xs = [x1, x2, x3] := by
      match xs, hl2 with
      | [x1, x2, x3], _ => exact ⟨x1, x2, x3, rfl⟩
    obtain ⟨v1, v2, v3, rfl⟩ : ∃ v1 v2 v3, vs = [v1, v2, v3] := by
      match vs, hl with
      | [v1, v2, v3], _ => exact ⟨v1, v2, v3, rfl⟩
    refine ⟨v1, v2, v3, rfl, ?_⟩
    have rt : RelT X.K o τ σ s' H' [(v1, x1.1, x1.2), (v2, x2.1, x2.2), (v3, x3.1, x3.2)] B M Fz := rt
    obtain ⟨o', r'⟩ := RelT.store2 (i := i) (f := fun σ => (σ.set l (some v3)).set j (some v2)) (g := fun s => setS (setS s l (some (x3.2, x3.1))) j (some (x2.2, x2.1)))
      (fun B M Fz h => RelT.store2 (i := j) (f := fun σ => σ.set l (some v3)) (g := fun s => setS s l (some (x3.2, x3.1))) (fun B M Fz h => RelT.store (i := l) h) h) rt
    have q : okS X.K B M τ Fz E .nx (setS (setS (setS s' l (some (x3.2, x3.1))) j (some (x2.2, x2.1))) i (some (x1.2, x1.1))) := q
    have := q o' _ H' r'
    rw [List.set_comm _ _ (Ne.symm hjl), List.set_comm _ _ (Ne.symm hil), List.set_comm _ _ (Ne.symm hij)] at this
    exact this
  · simp only [if_neg hl2] at q
theorem js_if {c : Expr} {a b : List Stmt} {e : Ex} {xs ys : Sxs} {pos : Pos} (hc : JT X ca W c (bnd (evE F e) isB)) (ha : JSs X ca W a (evSs F xs)) (hb : JSs X ca W b (evSs F ys)) : JS X ca W (.If c a b pos) (evS F (.ite e xs ys)) := PS.imp (ps_if hc ha hb) fun E σ H ⟨B, M, o, τ, Fz, s, r, h⟩ => by
  unfold evS at h
  refine tvT_st r h fun b s' H' q r' => ?_
  cases b with
  | true => exact ⟨B, M, o, τ, Fz, s', r', q⟩
  | false => exact ⟨B, M, o, τ, Fz, s', r', q⟩
theorem js_pass {pos : Pos} : JS X ca W (.Pass pos) (evS F .pass) := PS.imp ps_pass fun E σ H ⟨B, M, o, τ, Fz, s, r, h⟩ => by
  unfold evS at h
  exact WPm.ret_ h o σ H r
theorem js_expr {a : Expr} {e : Ex} {pos : Pos} (h : JE X ca W a (evE F e)) (hs : swapsWith a none pos.line X.env = pure false) : JS X ca W (.Expr a pos) (evS F (.expr e)) := PS.imp (ps_expr h hs) fun E σ H ⟨B, M, o, τ, Fz, s, r, h⟩ => by
  unfold evS at h
  refine tvE_st r h fun x s' v H' q rt => ?_
  exact WPm.ret_ q o σ H' (rt.one.drop fun p hp => List.mem_cons_of_mem _ hp)
theorem evS_ret {e : Ex} (hv : ∀ i, e ≠ .var i) : evS F (.ret e) = bnd (evE F e) fun x => ret (.rt x.1 x.2) := by
  cases e with
  | var i => exact absurd rfl (hv i)
  | _ => simp only [evS]
theorem js_retE {a : Expr} {e : Ex} {pos : Pos} (h : JE X ca W a (evE F e)) : JS X ca W (.Return (some a) pos) (bnd (evE F e) fun x => ret (.rt x.1 x.2)) := PS.imp (ps_ret h) fun E σ H ⟨B, M, o, τ, Fz, s, r, h⟩ => by
  refine tvE_st r h fun x s' v H' q rt => ?_
  exact WPm.ret_ q v o σ H' rt
theorem js_retV {i : Nat} {a : Expr} {pos : Pos} (h : PE X a (tVar i)) : JS X ca W (.Return (some a) pos) (evS F (.ret (.var i))) := PS.imp (ps_ret h) fun E σ H ⟨B, M, o, τ, Fz, s, r, h⟩ => by
  unfold evS at h
  unfold WPm retV at h
  cases e : lk s i with
  | none => simp only [e] at h
  | some x =>
    obtain ⟨fr, d⟩ := x
    simp only [e] at h
    obtain ⟨v, hv, rt⟩ := r.take e
    exact ⟨v, hv, h v o σ H rt⟩
theorem js_retN {pos : Pos} : JS X ca W (.Return none pos) (evS F (.ret (.cst .non))) := PS.imp ps_retN fun E σ H ⟨B, M, o, τ, Fz, s, r, h⟩ => by
  unfold evS at h
  simp only [evE, bnd_ret] at h
  exact WPm.ret_ h .non o σ H (r.more1 .non)
theorem js_for {tg it : Expr} {body : List Stmt} {tgs : List Nat} {i : Vf.It} {xs : Sxs} {pos : Pos} (hp : PassesOwn (model X.prog X.w) X.A X.env X.xe) (hc : X.calm = true) (hi : JI X ca W tg it (evIt F i)) (hg : PG X tg (gTg X.K tgs)) (hb : JSs X ca W body (evSs F xs))
    (hs : ∀ x : Value, foldedSetIterable it X.env x = pure x) : JS X ca W (.For tg it body [] pos) (evS F (.for_ tgs i xs)) := PS.imp (ps_for hp hc hi hg hb hs) fun E σ H ⟨B, M, o, τ, Fz, s, r, h⟩ => by
  unfold evS at h
  refine ⟨B, M, o, τ, Fz, s, r, h.bnd_.mono (fun ds s1 q J H1 B1 Fz1 hB hF r1 itg => ?_) exS.ex⟩
  obtain ⟨G, Y, wk, gy⟩ := itg.ex
  have hB1 : ∀ b u, B b = some u → B1 b = some u := hB
  refine for_it wk (fun i σ H => ∃ o s, RelS X.K B1 M o τ Fz1 σ s H ∧ WPm (forL tgs (evSs F xs) (ds.drop i)) s (okS X.K B M τ Fz E) (exS X.K ca W B M τ Fz)) ⟨o, s1, r1, by simpa using q⟩
    (fun i σ H _ ⟨o, s, r, _⟩ => (gy _ _ _ _ _ _ _ (fun _ _ _ z => z) (fun _ z => z) r).1) ?_ ?_
  · intro i x σ2 H2 H3 hi ⟨o2, s2, r2, q2⟩ hy
    obtain ⟨d, hd⟩ : ∃ d, ds[i]? = some d := ⟨ds[i], by simp [hi]⟩
    have hdr : ds.drop i = d :: ds.drop (i + 1) := by
      rw [List.drop_eq_getElem_cons hi]
      have : ds[i] = d := by simpa [hi] using hd
      rw [this]
    rw [hdr] at q2
    unfold forL at q2
    have r3 := (gy _ _ _ _ _ _ _ (fun _ _ _ z => z) (fun _ z => z) r2).2 i x H3 d hd hy
    refine bind_ok r3 List.mem_cons_self (WPm.bnd_ q2) fun σ3 s3 qb r4 off => ?_
    refine ⟨B1, M, o2, τ, (x, d) :: Fz1, s3, r4, (WPm.bnd_ qb).mono (fun f s4 qf => ?_) (fun c s' z => exS.up hB (fun p hp => List.mem_cons_of_mem _ (hF p hp)) c s' z)⟩
    cases f with
    | nx => exact fun o4 σ4 H4 r5 => ⟨o4, s4, r5.drop fun p hp => List.mem_cons_of_mem _ hp, qf⟩
    | rt d2 fr => exact okS.up (E := E) hB (fun p hp => List.mem_cons_of_mem _ (hF p hp)) (.rt d2 fr) s4 (WPm.ret_ qf)
  · intro σ2 H2 ⟨o2, s2, r2, q2⟩
    have e0 : ds.drop ds.length = [] := by simp
    rw [e0] at q2
    unfold forL at q2
    exact WPm.ret_ q2 o2 σ2 H2 (r2.weak hB (fun _ z => z) fun p hp => r2.fz p (hF p hp))
theorem js_while {c : Expr} {body : List Stmt} {e : Ex} {xs : Sxs} {pos : Pos} (hp : PassesOwn (model X.prog X.w) X.A X.env X.xe) (hc : JT X ca W c (bnd (evE F e) isB)) (hb : JSs X ca W body (evSs F xs)) : JS X ca W (.While c body [] pos) (evS F (.while_ e xs)) := PS.imp (ps_while hp hc hb) fun E σ H ⟨B, M, o, τ, Fz, s, r, h⟩ => by
  unfold evS at h
  refine ⟨fun m σ H => ∃ o s, RelS X.K B M o τ Fz σ s H ∧ WPm (whileL (bnd (evE F e) isB) (evSs F xs) m) s (okS X.K B M τ Fz E) (exS X.K ca W B M τ Fz), ⟨most, o, s, r, h⟩, ?_⟩
  rintro m σ1 H1 ⟨o1, s1, r1, q1⟩
  cases m with
  | zero => unfold whileL at q1; exact WPm.stk_ q1
  | succ m =>
    unfold whileL at q1
    refine tvT_st r1 q1 fun b s2 H2 q2 r2 => ?_
    cases b with
    | true =>
      rw [if_pos rfl] at q2 ⊢
      refine ⟨fun σ H => ∃ o s, RelS X.K B M o τ Fz σ s H ∧ WPm (whileL (bnd (evE F e) isB) (evSs F xs) m) s (okS X.K B M τ Fz E) (exS X.K ca W B M τ Fz), fun σ' H' z => ⟨m, Nat.lt_succ_self m, z⟩, ?_⟩
      refine ⟨B, M, o1, τ, Fz, s2, r2, (WPm.bnd_ q2).mono (fun f s3 qf => ?_) fun _ _ z => z⟩
      cases f with
      | nx => exact fun o4 σ4 H4 r5 => ⟨o4, s3, r5, qf⟩
      | rt d fr => exact WPm.ret_ (ex := exS X.K ca W B M τ Fz) qf
    | false =>
      rw [if_neg Bool.false_ne_true] at q2 ⊢
      exact WPm.ret_ q2 o1 σ1 H2 r2
end
end Vf
namespace Vf
open PySem PySem.Spec PyProof.Rows L2

section
variable {X : Cx} {ca : Nat → Addr} {W : WX} {F : FT}
theorem ownM_of {s : S} {i : Nat} {ok : Unit → S → Prop} {ex : Nat → S → Prop} (h : WPm (ownM i) s ok ex) : (∃ d, Own s i d) ∧ ok () s := by
  unfold WPm ownM at h
  split at h <;> rename_i hh
  · split at hh
    · rename_i d e
      cases hh
      exact ⟨⟨d, e⟩, h⟩
    · cases hh
  · split at hh <;> cases hh
  · exact h.elim
theorem putV_ok {i : Nat} {k x : D} {s : S} {ok : Fl → S → Prop} {ex : Nat → S → Prop} (h : WPm (putV i k x) s ok ex) : ∃ d d', Own s i d ∧ setAt d k x = some d' ∧ ok .nx (setS s i (some (true, d'))) := by
  unfold WPm putV at h
  cases e1 : lk s i with
  | none => simp only [e1] at h
  | some y =>
    obtain ⟨fr, d⟩ := y
    cases fr with
    | false => simp only [e1] at h
    | true =>
      simp only [e1] at h
      cases e2 : setAt d k x with
      | none => simp only [e2] at h
      | some d' => simp only [e2] at h; exact ⟨d, d', e1, e2, h⟩
def nsl : Expr → Bool
  | .Slice .. => false
  | _ => true
theorem assign_nsl {o k : Expr} {pos : Pos} {env : Env} (h : nsl k = true) : ∀ v, assign (.Subscript o k pos) env v = (do
      let ov ← holding [v] (eval o env)
      let iv ← holding [v, ov] (eval k env)
      standAt pos
      holding [v, ov, iv] (setItem ov iv v)
      release [v, ov, iv] []) := by cases k <;> first | (intro _; rfl) | cases h
theorem aug_nsl {k : Expr} (h : nsl k = true) : ∀ ov iv new, augStore k ov iv new = (do holding [new, ov, iv] (setItem ov iv new); release [new, ov, iv] []; pure .next) := by cases k <;> first | (intros; rfl) | cases h
theorem plain_nsl {k : Expr} (h : nsl k = true) : PlainIx k := by cases k <;> first | (intros _ _; rfl) | cases h
theorem js_put {i : Nat} {x : Str} {k a : Expr} {ek e : Ex} {px p2 pos : Pos} (hu : X.A.units + 1 < cLine) (hN : X.N[i]? = some x) (hv : Vis X.env.scope x) (h1 : (x == ("__debug__" : Str)) = false) (h2 : (x == ("__classdict__" : Str)) = false)
    (hk : JE X ca W k (evE F ek)) (h : JE X ca W a (evE F e)) (hn : nsl k = true) (hs : swapsWithSole [.Subscript (.Name x px) k p2] a pos.line X.env = pure false) (hw : swappedStores [.Subscript (.Name x px) k p2] a X.env = pure none) :
    JS X ca W (.Assign [.Subscript (.Name x px) k p2] a pos) (evS F (.put i ek e)) := PS.imp (ps_asg h (pg_sub (pe_var hN hv h1 h2) hk (set_A hu) (assign_nsl hn)) hs hw) fun E σ H ⟨B, M, o, τ, Fz, s, r, h⟩ => by
  unfold evS at h
  refine tvE_st r h fun x s' v H' q rt => ?_
  have r1 := rt.one
  obtain ⟨⟨d, w⟩, q⟩ := ownM_of (WPm.bnd_ q)
  refine ⟨_, (r1.ow i d w).1, ?_⟩
  refine ⟨B, M, o, τ, (v, x.1) :: Fz, s', r1, (WPm.bnd_ q).mono (fun kk s2 z kv H2 rt2 => ?_) (fun c s2 z => EX.fz (fun p hp => List.mem_cons_of_mem _ hp) c s2 (exS.ex (o := o) (σ := σ) c s2 z))⟩
  obtain ⟨d, d', w2, e1, q2⟩ := putV_ok z
  have r3 := rt2.one
  refine setAt_ok r3 w2 (kd := kk.1) (x := x.1) List.mem_cons_self (List.mem_cons_of_mem _ List.mem_cons_self) e1 fun H3 r4 => ?_
  exact q2 o σ H3 (r4.drop fun p hp => List.mem_cons_of_mem _ (List.mem_cons_of_mem _ hp))
def augR : Operator → TIp
  | .Add => ipI fun i j => i + j
  | .Sub => ipI fun i j => i - j
  | _ => fun _ _ _ _ => False
theorem aug_ip (op : Operator) : PIp X op (augR op) := by
  cases op <;> first
    | exact ip_add
    | exact ip_sub
    | exact fun _ _ _ _ _ _ _ _ _ _ _ _ h => h.elim
theorem augD_ok {K : PySem.W.Frag} {P : AP} {τ : TA2} {H : Hp} {op : Operator} {a b d : D} {v u : V} {Q : VK} (ha : Rep K P τ H v a) (hb : Rep K P τ H u b) (e : augD op a b = some d) (q : ∀ i, d = .int i → Q (.int i) H) : augR op v u H Q := by
  unfold augD at e
  split at e
  · cases e; cases ha; cases hb; exact ⟨_, _, rfl, rfl, q _ rfl⟩
  · cases e; cases ha; cases hb; exact ⟨_, _, rfl, rfl, q _ rfl⟩
  · cases e
theorem augD_int {op : Operator} {a b d : D} (e : augD op a b = some d) : ∃ i, d = .int i := by
  unfold augD at e
  split at e
  · cases e; exact ⟨_, rfl⟩
  · cases e; exact ⟨_, rfl⟩
  · cases e
theorem js_aug {i : Nat} {x : Str} {op : Operator} {a : Expr} {e : Ex} {p pos : Pos} (hN : X.N.Nodup) (hi : X.N[i]? = some x) (hx : Loc X.env.scope x) (hf : X.fn x = true ∨ X.env.scope.names.lookup x = some .local) (h : JE X ca W a (evE F e)) :
    JS X ca W (.AugAssign (.Name x p) op a pos) (evS F (.aug i op e)) := PS.imp (ps_aug hN hi hx h (aug_ip op) hf) fun E σ H ⟨B, M, o, τ, Fz, s, r, h⟩ => by
  unfold evS at h
  have h := h.bnd_
  unfold WPm rdV at h
  cases e1 : lk s i with
  | none => simp only [e1] at h
  | some x =>
    obtain ⟨fr, d⟩ := x
    simp only [e1] at h
    obtain ⟨v, hv, r1⟩ := r.freeze e1
    refine ⟨v, hv, ?_⟩
    have h : WPm (bnd (evE F e) fun b s => match augD op d b.1 with
      | some d => Res.ok .nx (setS s i (some (false, d)))
      | none => .stuck) (setS s i (some (false, d))) (okS X.K B M τ Fz E) (exS X.K ca W B M τ Fz) := h
    refine ⟨B, M, o, τ, (v, d) :: Fz, _, r1, h.bnd_.mono (fun y s2 z u H2 rt => ?_) (fun c s2 z => EX.fz (fun p hp => List.mem_cons_of_mem _ hp) c s2 (exS.ex (o := o) (σ := σ) c s2 z))⟩
    have r2 := rt.one
    unfold WPm at z
    cases e2 : augD op d y.1 with
    | none => simp only [e2] at z
    | some d2 =>
      simp only [e2] at z
      have z : okS X.K B M τ Fz E .nx (setS s2 i (some (false, d2))) := z
      refine augD_ok (r2.fz (v, d) (List.mem_cons_of_mem _ List.mem_cons_self)) (r2.fz (u, y.1) List.mem_cons_self) e2 fun n en => ?_
      subst en
      have r3 := (r2.more1 (v := .int n) (d := .int n) (.int n)).store (i := i)
      exact z o _ H2 (r3.drop fun p hp => List.mem_cons_of_mem _ (List.mem_cons_of_mem _ (List.mem_cons_of_mem _ hp)))
theorem js_augk {i : Nat} {x : Str} {op : Operator} {k a : Expr} {ek e : Ex} {px p2 pos : Pos} (hu : X.A.units + 1 < cLine) (hN : X.N[i]? = some x) (hv : Vis X.env.scope x) (h1 : (x == ("__debug__" : Str)) = false) (h2 : (x == ("__classdict__" : Str)) = false)
    (hk : JE X ca W k (evE F ek)) (h : JE X ca W a (evE F e)) (hn : nsl k = true) :
    JS X ca W (.AugAssign (.Subscript (.Name x px) k p2) op a pos) (evS F (.augk i ek op e)) := PS.imp (ps_augS (pe_var hN hv h1 h2) hk (get_A hu) h (aug_ip op) (set_A hu) (aug_nsl hn)) fun E σ H ⟨B, M, o, τ, Fz, s, r, h⟩ => by
  unfold evS at h
  obtain ⟨⟨d, w⟩, h⟩ := ownM_of h.bnd_
  refine ⟨_, (r.ow i d w).1, ?_⟩
  have h := h.bnd_
  refine ⟨B, M, o, τ, Fz, s, r, h.mono (fun kk s1 z kv H1 rt => ?_) exS.ex⟩
  have r1 := rt.one
  unfold WPm at z
  cases e1 : lk s1 i with
  | none => simp only [e1] at z
  | some y =>
    obtain ⟨fr, d1⟩ := y
    cases fr with
    | false => simp only [e1] at z
    | true =>
      simp only [e1] at z
      cases e2 : primD .idx [d1, kk.1] with
      | none => simp only [e2] at z
      | some old =>
        obtain ⟨old, fr⟩ := old
        simp only [e2] at z
        have z : WPm (bnd (evE F e) (fun b s => match augD op old b.1 with
          | some x => putV i kk.1 x s
          | none => .stuck)) s1 (okS X.K B M τ Fz E) (exS X.K ca W B M τ Fz) := z
        have w1 : Own s1 i d1 := e1
        have go : ∀ v, Rep X.K (Prt M o τ s1) τ H1 v old → tvE X.K ca W (evE F e) σ H1 fun y H4 => augR op v y H4 fun z H5 => rSetA (.ref (o i)) kv z H5 fun H6 => E.nx σ H6 := fun v rv => by
          have r2 := r1.more1 rv
          refine ⟨B, M, o, τ, _, s1, r2, z.bnd_.mono (fun b s2 z u H2 rt2 => ?_) (fun c s2 z => EX.fz (fun p hp => List.mem_cons_of_mem _ (List.mem_cons_of_mem _ hp)) c s2 (exS.ex (o := o) (σ := σ) c s2 z))⟩
          have r3 := rt2.one
          unfold WPm at z
          cases e3 : augD op old b.1 with
          | none => simp only [e3] at z
          | some x =>
            simp only [e3] at z
            have z : WPm (putV i kk.1 x) s2 (okS X.K B M τ Fz E) (exS X.K ca W B M τ Fz) := z
            obtain ⟨d2, d', w2, e5, z2⟩ := putV_ok z
            refine augD_ok (r3.fz (v, old) (List.mem_cons_of_mem _ List.mem_cons_self)) (r3.fz (u, b.1) List.mem_cons_self) e3 fun n en => ?_
            subst en
            have r4 := r3.more1 (v := .int n) (d := .int n) (.int n)
            refine setAt_ok r4 w2 (kd := kk.1) (x := .int n) (by simp) List.mem_cons_self e5 fun H3 r5 => ?_
            exact z2 o σ H3 (r5.drop fun p hp => List.mem_cons_of_mem _ (List.mem_cons_of_mem _ (List.mem_cons_of_mem _ (List.mem_cons_of_mem _ hp))))
        obtain ⟨g1, g2, g3, g4, u, cs, g5, g6, g7⟩ := r1.ow i d1 w1
        have tp : TopR X.K (Prt M o τ s1) τ H1 (.ref (o i)) d1 := .inr ⟨_, u, cs, rfl, g5, g6, g7⟩
        have rk := r1.fz (kv, kk.1) List.mem_cons_self
        simp only [primD, arg2] at e2
        unfold idxD at e2
        split at e2
        · obtain ⟨_, xs, eo, g, ra, _⟩ := tp.tup
          cases eo
          rw [g5] at g; cases g; cases g6
        · cases g6
        · rename_i ds j ek2
          cases e3 : at? j ds with
          | none => rw [e3] at e2; cases e2
          | some dd =>
            rw [e3] at e2
            cases e2
            obtain ⟨a1, xs, eo, g, ra⟩ := tp.lst
            cases eo
            obtain ⟨v, q1, q2⟩ := atI_of ra e3
            have ev : kv = V.int j := by rw [ek2] at rk; cases rk; rfl
            subst ev
            exact .inl ⟨_, xs, j, v, rfl, rfl, .of g, q1, go v q2⟩
        · rename_i t kvs
          cases e3 : dkey t kk.1 with
          | none => rw [e3] at e2; cases e2
          | some kk2 =>
            rw [e3] at e2
            simp only [Option.bind_some] at e2
            obtain ⟨a, ov, eo, q1, _, q2⟩ := dget_ok tp (.inl rk) e3
            cases eo
            cases e4 : dget t kk2 kvs with
            | none => rw [e4] at e2; cases e2
            | some dd =>
              rw [e4] at e2 q2
              cases e2
              obtain ⟨v, rfl, q3⟩ := q2
              exact .inr ⟨_, v, rfl, q1, go v q3⟩
        · cases e2
theorem ownL_of {s : S} {i : Nat} {ok : Unit → S → Prop} {ex : Nat → S → Prop} (h : WPm (ownL i) s ok ex) : (∃ ds, Own s i (.lst ds)) ∧ ok () s := own_of h
theorem js_app {i : Nat} {x : Str} {a : Expr} {e : Ex} {px apos cpos pos : Pos} (hN : X.N[i]? = some x) (hv : Vis X.env.scope x) (h1 : (x == ("__debug__" : Str)) = false) (h2 : (x == ("__classdict__" : Str)) = false) (hl : (apos.endLine == cpos.line) = true)
    (h : JE X ca W a (evE F e)) (hn : nst a = true) : JS X ca W (.Expr (.Call (.Attribute (.Name x px) "append" apos) [a] [] cpos) pos) (evS F (.app i e)) := by
  have hA : PA X [a] (tCons (tvE X.K ca W (evE F e)) tNil) := pa_cons h pa_nil (star_cons hn)
  have hE : PE X (.Call (.Attribute (.Name x px) "append" apos) [a] [] cpos) (tBM X.K "list" rAppend (tVar i) (tCons (tvE X.K ca W (evE F e)) tNil)) := pe_bm PySem.F.plainAttrs_list PySem.F.slot_list_append PySem.F.type_list_append mt_append (pe_var hN hv h1 h2) hA rfl (by rw [star_cons hn]; rfl) hl (star_cons hn) rfl
  refine PS.imp (ps_expr hE rfl) fun E σ H ⟨B, M, o, τ, Fz, s, r, h⟩ => ?_
  unfold evS at h
  obtain ⟨⟨ds, w⟩, h⟩ := ownL_of h.bnd_
  obtain ⟨xs, g1, g2, ra⟩ := own_ty r w
  refine ⟨_, g1, .inl ⟨rfl, xs, .of g2⟩, ?_⟩
  refine tvE_st r h fun x s1 v H1 q rt => ?_
  have r1 := rt.one
  unfold WPm at q
  cases e1 : lk s1 i with
  | none => simp only [e1] at q
  | some y =>
    obtain ⟨fr, d⟩ := y
    cases fr with
    | false => simp only [e1] at q
    | true =>
      cases d with
      | lst ds1 =>
        simp only [e1] at q
        by_cases hz : ds1.length < sizeLine
        · simp only [decide_eq_true hz, if_true] at q
          have q : okS X.K B M τ Fz E .nx (setS s1 i (some (true, .lst (ds1 ++ [x.1])))) := q
          have w1 : Own s1 i (.lst ds1) := e1
          obtain ⟨xs1, g3, g4, ra1⟩ := own_ty r1 w1
          have ev : V.ref (o i) = V.ref (o i) := rfl
          refine ⟨o i, xs1, v, rfl, rfl, g4, by rw [ra1.len]; exact hz, ?_⟩
          have r2 := lst_mutate r1 w1 (ra1.append (.cons (r1.fz (v, x.1) List.mem_cons_self) .nil))
          exact q o σ _ (r2.drop fun p hp => List.mem_cons_of_mem _ hp)
        · simp only [decide_eq_false hz, Bool.false_eq_true, if_false] at q
      | _ => simp only [e1] at q
theorem iop_lst : PIp X .Add rExt2 := iop_ext
theorem set_same {σ : L2.St} {i : Nat} {v : V} (h : σ[i]? = some (some v)) : σ.set i (some v) = σ := by
  apply List.ext_getElem?
  intro j
  by_cases e : j = i
  · subst e
    rw [List.getElem?_set_self (List.getElem?_eq_some_iff.mp h).1, h]
  · rw [List.getElem?_set_ne (Ne.symm e)]
theorem js_ext {i : Nat} {x : Str} {a : Expr} {e : Ex} {p pos : Pos} (hN : X.N.Nodup) (hi : X.N[i]? = some x) (hx : Loc X.env.scope x) (hf : X.fn x = true ∨ X.env.scope.names.lookup x = some .local) (h : JE X ca W a (evE F e)) :
    JS X ca W (.AugAssign (.Name x p) .Add a pos) (evS F (.ext i e)) := PS.imp (ps_aug hN hi hx h iop_lst hf) fun E σ H ⟨B, M, o, τ, Fz, s, r, h⟩ => by
  unfold evS at h
  obtain ⟨⟨ds, w⟩, h⟩ := ownL_of h.bnd_
  obtain ⟨xs, g1, g2, ra⟩ := own_ty r w
  refine ⟨_, g1, ?_⟩
  refine tvE_st r h fun x s1 v H1 q rt => ?_
  have r1 := rt.one
  unfold WPm at q
  cases e1 : lk s1 i with
  | none => simp only [e1] at q
  | some y =>
    obtain ⟨fr, d⟩ := y
    cases fr with
    | false => simp only [e1] at q
    | true =>
      cases d with
      | lst ds1 =>
        obtain ⟨xd, xf⟩ := x
        cases xd with
        | lst ys =>
          simp only [e1] at q
          by_cases hz : ds1.length + ys.length ≤ sizeLine
          · have hz' : fits (ds1.length + ys.length) = true := decide_eq_true hz
            simp only [hz', if_true] at q
            have q : okS X.K B M τ Fz E .nx (setS s1 i (some (true, .lst (ds1 ++ ys)))) := q
            have w1 : Own s1 i (.lst ds1) := e1
            obtain ⟨xs1, g3, g4, ra1⟩ := own_ty r1 w1
            have rv := r1.fz (v, .lst ys) List.mem_cons_self
            cases rv with
            | @lst b zs _ hb rb =>
              refine ⟨o i, b, xs1, zs, rfl, rfl, g4, hb.2, by rw [ra1.len, rb.len]; exact hz, ?_⟩
              have r2 := lst_mutate r1 w1 (ra1.append rb)
              show E.nx (σ.set i (some (.ref (o i)))) _
              rw [set_same g3]
              exact q o σ _ (r2.drop fun p hp => List.mem_cons_of_mem _ hp)
          · have hz' : fits (ds1.length + ys.length) = false := decide_eq_false hz
            simp only [hz', Bool.false_eq_true, if_false] at q
        | _ => simp only [e1] at q
      | _ => simp only [e1] at q
theorem js_extm {i : Nat} {x : Str} {a : Expr} {e : Ex} {px apos cpos pos : Pos} (hN : X.N[i]? = some x) (hv : Vis X.env.scope x) (h1 : (x == ("__debug__" : Str)) = false) (h2 : (x == ("__classdict__" : Str)) = false) (hl : (apos.endLine == cpos.line) = true)
    (h : JE X ca W a (evE F e)) (hn : nst a = true) : JS X ca W (.Expr (.Call (.Attribute (.Name x px) "extend" apos) [a] [] cpos) pos) (evS F (.ext i e)) := by
  have hA : PA X [a] (tCons (tvE X.K ca W (evE F e)) tNil) := pa_cons h pa_nil (star_cons hn)
  have hE : PE X (.Call (.Attribute (.Name x px) "extend" apos) [a] [] cpos) (tBM X.K "list" rExtend (tVar i) (tCons (tvE X.K ca W (evE F e)) tNil)) := pe_bm PySem.F.plainAttrs_list PySem.F.slot_list_extend PySem.F.type_list_extend mt_extend (pe_var hN hv h1 h2) hA rfl (by rw [star_cons hn]; rfl) hl (star_cons hn) rfl
  refine PS.imp (ps_expr hE rfl) fun E σ H ⟨B, M, o, τ, Fz, s, r, h⟩ => ?_
  unfold evS at h
  obtain ⟨⟨ds, w⟩, h⟩ := ownL_of h.bnd_
  obtain ⟨xs, g1, g2, ra⟩ := own_ty r w
  refine ⟨_, g1, .inl ⟨rfl, xs, .of g2⟩, ?_⟩
  refine tvE_st r h fun x s1 v H1 q rt => ?_
  have r1 := rt.one
  unfold WPm at q
  cases e1 : lk s1 i with
  | none => simp only [e1] at q
  | some y =>
    obtain ⟨fr, d⟩ := y
    cases fr with
    | false => simp only [e1] at q
    | true =>
      cases d with
      | lst ds1 =>
        obtain ⟨xd, xf⟩ := x
        cases xd with
        | lst ys =>
          simp only [e1] at q
          by_cases hz : ds1.length + ys.length ≤ sizeLine
          · have hz' : fits (ds1.length + ys.length) = true := decide_eq_true hz
            simp only [hz', if_true] at q
            have q : okS X.K B M τ Fz E .nx (setS s1 i (some (true, .lst (ds1 ++ ys)))) := q
            have w1 : Own s1 i (.lst ds1) := e1
            obtain ⟨xs1, g3, g4, ra1⟩ := own_ty r1 w1
            have rv := r1.fz (v, .lst ys) List.mem_cons_self
            cases rv with
            | @lst b zs _ hb rb =>
              refine ⟨o i, b, xs1, zs, rfl, rfl, g4, hb.2, by rw [ra1.len, rb.len]; exact hz, ?_⟩
              have r2 := lst_mutate r1 w1 (ra1.append rb)
              exact q o σ _ (r2.drop fun p hp => List.mem_cons_of_mem _ hp)
          · have hz' : fits (ds1.length + ys.length) = false := decide_eq_false hz
            simp only [hz', Bool.false_eq_true, if_false] at q
        | _ => simp only [e1] at q
      | _ => simp only [e1] at q
theorem pmk_none {x : Str} {c : Addr} {p pos : Pos} (hE : ExcOk X.K X.mg x c) (hg : L2.Gl X x) (hdb : (x == ("__debug__" : Str)) = false) : PMk X (.Call (.Name x p) [] [] pos) (fun _ H Q => Q (.ref c) none H) := by
  obtain ⟨bmB, B, newId, initId, FB, q, gC, kC, r1, r2⟩ := hE
  intro pins s σ H Q I h
  refine wpAny_Call_Name_kw (ld_glob I hg gC ?_ hdb)
  refine PySem.W.callWith_K0 I.kIn kC ?_
  show wpAny _ _ (call (.ref c) []) _ _ _
  obtain ⟨bm, N, nm, qn, bs, hdct, sn, sub, ab, col, dd, k0, k1, k2, k3, k5, mN, hC, hN, hni, T⟩ := exc_obj I.kIn q
  refine wpAny_call_exc_subT FB T hC hN hni (fun h' e hm => ?_) (by simp)
  exact mk_of I hm (raises_own r1 r2) h (I.hok.gone hm.new)
theorem js_raise {x : Str} {c : Nat} {p p2 pos : Pos} (hc : X.calm = true) (tk : Takes X W) (hE : ExcOk X.K X.mg x (ca c)) (hg : L2.Gl X x) (hdb : (x == ("__debug__" : Str)) = false) : JS X ca W (.Raise (some (.Call (.Name x p) [] [] p2)) none pos) (evS F (.raise c)) :=
  PS.imp (ps_raise hc tk (pmk_none hE hg hdb)) fun E σ H ⟨B, M, o, τ, Fz, s, r, h⟩ => by
    unfold evS at h
    exact h o σ H r
theorem je_comp {elt tg iter : Expr} {ifs : List Expr} {scope : Scope} {own : List (Str × Nat)} {pos : Pos} {tgs : List Nat} {it : Vf.It} {c : Exs} {e : Ex} (hc : X.calm = true) (hN : X.N.Nodup) (hi : JI X ca W tg iter (evIt F it)) (ok : BlkOk X.N X.env.scope scope own)
    (hg : ∀ (s : Shared) (H : Hp) (C : Addr) (cl : List (Str × Addr)) (fp : List Addr), PG (X.blk s H scope (compEnvC scope cl C X.env) fp) tg (gTg X.K tgs)) (ht : ∀ (s : Shared) (H : Hp) (C : Addr) (cl : List (Str × Addr)) (fp : List Addr), PTs (X.blk s H scope (compEnvC scope cl C X.env) fp) ifs (tvT X.K ca W0 (condM F c)))
    (he : ∀ (s : Shared) (H : Hp) (C : Addr) (cl : List (Str × Addr)) (fp : List Addr), JE (X.blk s H scope (compEnvC scope cl C X.env) fp) ca W0 elt (evE F e)) (hs : ∀ x, foldedSetIterable iter X.env x = pure x) (hto : ∀ i ∈ tgs, i ∈ own.map (·.2)) :
    JE X ca W (.ListComp elt [⟨tg, iter, ifs, 0⟩] scope pos) (evE F (.comp (own.map (·.2)) tgs it c e)) := by
  have h := pe_lc (elt := elt) (te := tvE X.K ca W0 (evE F e)) (pos := pos) hc hN hi ok hg ht he hs
  exact PE.imp h fun σ H Q q => lc_imp hto q
theorem js_setLc {i : Nat} {y : Str} {py : Pos} {elt tg iter : Expr} {ifs : List Expr} {scope : Scope} {own : List (Str × Nat)} {pos spos : Pos} {tgs : List Nat} {it : Vf.It} {c : Exs} {e : Ex} (hc : X.calm = true) (hN : X.N.Nodup) (hy : X.N[i]? = some y) (hyl : X.env.scope.names.lookup y = some .local)
    (hsw : swapsWith (.ListComp elt [⟨tg, iter, ifs, 0⟩] scope pos) (some (.Name y py)) spos.line X.env = pure true) (hi : JI X ca W tg iter (evIt F it)) (ok : BlkOk X.N X.env.scope scope own)
    (hg : ∀ (s : Shared) (H : Hp) (C : Addr) (cl : List (Str × Addr)) (fp : List Addr), PG (X.blk s H scope (compEnvC scope cl C X.env) fp) tg (gTg X.K tgs)) (ht : ∀ (s : Shared) (H : Hp) (C : Addr) (cl : List (Str × Addr)) (fp : List Addr), PTs (X.blk s H scope (compEnvC scope cl C X.env) fp) ifs (tvT X.K ca W0 (condM F c)))
    (he : ∀ (s : Shared) (H : Hp) (C : Addr) (cl : List (Str × Addr)) (fp : List Addr), JE (X.blk s H scope (compEnvC scope cl C X.env) fp) ca W0 elt (evE F e)) (hs : ∀ x, foldedSetIterable iter X.env x = pure x) (hto : ∀ i ∈ tgs, i ∈ own.map (·.2)) :
    JS X ca W (.Assign [.Name y py] (.ListComp elt [⟨tg, iter, ifs, 0⟩] scope pos) spos) (evS F (.set i (.comp (own.map (·.2)) tgs it c e))) := by
  have h := ps_setLc (te := tvE X.K ca W0 (evE F e)) (pos := pos) hc hN hy hyl hsw hi ok hg ht he hs
  refine PS.imp h fun E σ H q => ?_
  unfold evS at q
  exact set_imp (fun σ H Q q => lc_imp hto q) E σ H q
theorem je_comp2 {elt tg iter tg1 iter1 : Expr} {ifs ifs1 : List Expr} {scope : Scope} {own : List (Str × Nat)} {own1 : List Nat} {pos : Pos} {tgs tgs1 : List Nat} {it it1 : Vf.It} {c c1 : Exs} {e : Ex} (hc : X.calm = true) (hN : X.N.Nodup) (hi : JI X ca W tg iter (evIt F it)) (ok : BlkOk X.N X.env.scope scope own)
    (hg : ∀ (s : Shared) (H : Hp) (C : Addr) (cl : List (Str × Addr)) (fp : List Addr), PG (X.blk s H scope (compEnvC scope cl C X.env) fp) tg (gTg X.K tgs)) (ht : ∀ (s : Shared) (H : Hp) (C : Addr) (cl : List (Str × Addr)) (fp : List Addr), PTs (X.blk s H scope (compEnvC scope cl C X.env) fp) ifs (tvT X.K ca W0 (condM F c)))
    (hi1 : ∀ (s : Shared) (H : Hp) (C : Addr) (cl : List (Str × Addr)) (fp : List Addr), JI (X.blk s H scope (compEnvC scope cl C X.env) fp) ca W0 tg1 iter1 (evIt F it1)) (hg1 : ∀ (s : Shared) (H : Hp) (C : Addr) (cl : List (Str × Addr)) (fp : List Addr), PG (X.blk s H scope (compEnvC scope cl C X.env) fp) tg1 (gTg X.K tgs1)) (ht1 : ∀ (s : Shared) (H : Hp) (C : Addr) (cl : List (Str × Addr)) (fp : List Addr), PTs (X.blk s H scope (compEnvC scope cl C X.env) fp) ifs1 (tvT X.K ca W0 (condM F c1)))
    (he : ∀ (s : Shared) (H : Hp) (C : Addr) (cl : List (Str × Addr)) (fp : List Addr), JE (X.blk s H scope (compEnvC scope cl C X.env) fp) ca W0 elt (evE F e)) (hs : ∀ x, foldedSetIterable iter X.env x = pure x) (hs1 : ∀ env x, foldedSetIterable iter1 env x = pure x) (hto : ∀ i ∈ tgs, i ∈ own.map (·.2)) (hto1 : ∀ i ∈ tgs1, i ∈ own1) (ho : ∀ i ∈ own1, i ∈ own.map (·.2)) :
    JE X ca W (.ListComp elt [⟨tg, iter, ifs, 0⟩, ⟨tg1, iter1, ifs1, 0⟩] scope pos) (evE F (.comp2 (own.map (·.2)) own1 tgs it c tgs1 it1 c1 e)) := by
  have h := pe_lc2 (elt := elt) (wi1 := tvI X.K ca W0 (evIt F it1)) (te := tvE X.K ca W0 (evE F e)) (pos := pos) (vs1 := own1) hc hN hi ok ho hg ht hi1 hg1 ht1 he hs hs1
  exact PE.imp h fun σ H Q q => lc2_imp hto hto1 ho q
theorem js_setLc2 {i : Nat} {y : Str} {py spos : Pos} {elt tg iter tg1 iter1 : Expr} {ifs ifs1 : List Expr} {scope : Scope} {own : List (Str × Nat)} {own1 : List Nat} {pos : Pos} {tgs tgs1 : List Nat} {it it1 : Vf.It} {c c1 : Exs} {e : Ex} (hc : X.calm = true) (hN : X.N.Nodup) (hy : X.N[i]? = some y) (hyl : X.env.scope.names.lookup y = some .local)
    (hsw : swapsWith (.ListComp elt [⟨tg, iter, ifs, 0⟩, ⟨tg1, iter1, ifs1, 0⟩] scope pos) (some (.Name y py)) spos.line X.env = pure true) (hi : JI X ca W tg iter (evIt F it)) (ok : BlkOk X.N X.env.scope scope own)
    (hg : ∀ (s : Shared) (H : Hp) (C : Addr) (cl : List (Str × Addr)) (fp : List Addr), PG (X.blk s H scope (compEnvC scope cl C X.env) fp) tg (gTg X.K tgs)) (ht : ∀ (s : Shared) (H : Hp) (C : Addr) (cl : List (Str × Addr)) (fp : List Addr), PTs (X.blk s H scope (compEnvC scope cl C X.env) fp) ifs (tvT X.K ca W0 (condM F c)))
    (hi1 : ∀ (s : Shared) (H : Hp) (C : Addr) (cl : List (Str × Addr)) (fp : List Addr), JI (X.blk s H scope (compEnvC scope cl C X.env) fp) ca W0 tg1 iter1 (evIt F it1)) (hg1 : ∀ (s : Shared) (H : Hp) (C : Addr) (cl : List (Str × Addr)) (fp : List Addr), PG (X.blk s H scope (compEnvC scope cl C X.env) fp) tg1 (gTg X.K tgs1)) (ht1 : ∀ (s : Shared) (H : Hp) (C : Addr) (cl : List (Str × Addr)) (fp : List Addr), PTs (X.blk s H scope (compEnvC scope cl C X.env) fp) ifs1 (tvT X.K ca W0 (condM F c1)))
    (he : ∀ (s : Shared) (H : Hp) (C : Addr) (cl : List (Str × Addr)) (fp : List Addr), JE (X.blk s H scope (compEnvC scope cl C X.env) fp) ca W0 elt (evE F e)) (hs : ∀ x, foldedSetIterable iter X.env x = pure x) (hs1 : ∀ env x, foldedSetIterable iter1 env x = pure x) (hto : ∀ i ∈ tgs, i ∈ own.map (·.2)) (hto1 : ∀ i ∈ tgs1, i ∈ own1) (ho : ∀ i ∈ own1, i ∈ own.map (·.2)) :
    JS X ca W (.Assign [.Name y py] (.ListComp elt [⟨tg, iter, ifs, 0⟩, ⟨tg1, iter1, ifs1, 0⟩] scope pos) spos) (evS F (.set i (.comp2 (own.map (·.2)) own1 tgs it c tgs1 it1 c1 e))) := by
  have h := ps_setLc2 (wi1 := tvI X.K ca W0 (evIt F it1)) (te := tvE X.K ca W0 (evE F e)) (pos := pos) (vs1 := own1) hc hN hy hyl hsw hi ok ho hg ht hi1 hg1 ht1 he hs hs1
  refine PS.imp h fun E σ H q => ?_
  unfold evS at q
  exact set_imp (fun σ H Q q => lc2_imp hto hto1 ho q) E σ H q
end
end Vf
namespace Vf
open PySem PySem.Spec PyProof.Rows L2

theorem lenKey_call {P : Program} {w : World} {K : PySem.W.Frag} {mg mb : Str → Option Value} {A : Around} {E : Value → Shared → Prop} {s : Shared} {x name qual : Str} {params : Arguments} {body : List Stmt} {scope : Scope} {f b : Addr} {fd : FuncData} {its : Array Value} {d : PyData}
    (kin : K.In s.heap) (hg : s.heap.Ns mainGlobals mg) (hb : s.heap.Ns builtinsNs mb) (hbb : ∀ x : Str, x ≠ "__name__" → mb x = bootBuiltins x) (lim : s.heap.NoLimit)
    (F : FunD K name qual params body scope [] [] f fd) (bd : L2.Binds K fd [x] []) (hl : mg ("len" : Str) = none) (L : LenKey body scope x) (ht : IsTup s.heap b its) (hz : its.size ≤ sizeLine) (hr : Reads s.heap (.ref b) d []) (hd : A.depth < recursionLimit) :
    wpAny (model P w) A (call (.ref f) [.ref b]) (PySem.W.KeyPure (.tuple [.int its.size, d]) s) E s := by
  obtain ⟨oc, od, dV, kV, doc, pm, an, cdv, ct, osl, rfl, lk, hcd, _⟩ := F.ex
  obtain ⟨p1, p2, p3, p4, k, p5, p6, hbody⟩ := L.body
  have bb := bd s [.ref b] kin rfl
  have main : codeAny (model P w) A (.call (.ref f) ⟨[.ref b], []⟩) (fun r s' => match r with | .ok (.ret v) => PySem.W.KeyPure (.tuple [.int its.size, d]) s v s' | _ => False) s := by
    refine Att.call_fn (binds := [(x, .ref b)]) kin lim lk hcd hd bb ?_ (fun s₁ ic => ?_) L.co L.gen L.kind
    · simp [L.loc]
    · obtain ⟨h1, tk1, e1, kp⟩ := ic.done
      have hloc : (envOfC qual scope s.heap.objs.size f cdv).kindOf x = some .local := L.loc
      have hns := ic.toInCall.ns
      have hval : (bindL (envOfC qual scope s.heap.objs.size f cdv).kindOf [(x, .ref b)] fun _ => none) x = some (.ref b) := by
        exact bindL_get (P := [x]) (vs := [.ref b]) (i := 0) (by simp) rfl rfl hloc
      rw [hbody]
      refine wpAny_execs_cons (wpAny_Return_some (wpAny_Tuple_spliced ?_))
      have rdx : ∀ {Q : Value → Shared → Prop} {E' : Value → Shared → Prop} {h2 : Heap} {t2 : Nat} {p : Pos}, h2.Ns s.heap.objs.size (bindL (envOfC qual scope s.heap.objs.size f cdv).kindOf [(x, .ref b)] fun _ => none) → Q (.ref b) { s with heap := h2, toks := t2 } →
          wpAny (model P w) (A.deeper (envOfC qual scope s.heap.objs.size f cdv)) (eval (.Name x p) (envOfC qual scope s.heap.objs.size f cdv)) Q E' { s with heap := h2, toks := t2 } := fun {Q E' h2 t2 p} hn q =>
        wpAny_Name (wpAny_loadName_local L.kind hloc hn hval q) L.nd
      subst e1
      have g1 : h1.Ns mainGlobals mg := hg.keeps kp
      have g2 : h1.Ns builtinsNs mb := hb.keeps kp
      have hlen : mb ("len" : Str) = some (.builtin "len") := (hbb _ (by decide +kernel)).trans boot_len
      have ht1 : IsTup h1 b its := by
        obtain ⟨o, ho, hc, n, hd⟩ := ht
        exact ⟨o, kp b o ho, hc, n, hd⟩
      refine Calls.spliced_cons ?_
      refine wpAny_Call_Name_kw (Calls.Name_function_global L.kind L.glo (Calls.loadGlobal_builtin g1 hl g2 hlen ?_) (by decide +kernel))
      refine PyProof.Rows.callWith_builtin1 (Calls.spliced_cons (rdx hns (Calls.spliced_nil ?_))) rfl rfl
      refine PyProof.Rows.len_tuple ht1 (by have := line63; omega) ?_
      refine Calls.spliced_cons (rdx (t2 := tk1 + 1 + 1) hns (Calls.spliced_nil ⟨by show 2 ≤ sizeLine; decide, ?_⟩))
      refine ⟨_, tk1 + 1 + 1, rfl, fun c o e => Heap.get?_push_of_some _ (kp c o e), ?_⟩
      have hr1 := (Reads.keeps (h' := h1.push { cls := .type "tuple", data := .seq ([.int its.size (tk1 + 1), .ref b] : List Value).toArray }) (fun c o e => Heap.get?_push_of_some _ (kp c o e)) hr)
      exact Reads.tuple (Heap.get?_push_size _ rfl) rfl rfl (.cons (as := []) (bs := []) (.int _ _) (.cons (as := []) (bs := []) hr1 .nil))
  refine wpAny_call (codeAny_mono main fun r s' q => ?_)
  cases r with
  | error e => exact q.elim
  | ok fl => cases fl <;> first | exact q | exact q.elim
end Vf
namespace Vf
open PySem PySem.Spec PyProof.Rows L2

abbrev WdAt (H : Hp) (v : Value) (w : List Int) : Prop := ∃ b, v = .ref b ∧ H b = some (.tup (w.map V.int))
def rSortK (K : PySem.W.Frag) (f : Addr) : List V → List V → Hp → VK → Prop := fun vs zs H Q => ∃ (a : Addr) (ws : List (List Int)), vs = [V.ref a] ∧ zs = [V.ref f] ∧ ws.length ≤ sizeLine ∧
  ((∃ bs, SqL K H a (bs.map V.ref) ∧ Paired (fun b w => H b = some (.tup (w.map V.int))) bs ws) ∨ ∃ kvs : List (List Key × V), Rd H a (.dT kvs) ∧ kvs.map (·.1) = ws.map fun w => w.map Sum.inl) ∧
  ∀ (bs : List Addr) (p : Addr), H p = none → Paired (fun b w => H b = some (.tup (w.map V.int))) bs (sortW ws) → Q (.ref p) (upd H p (.lst (bs.map V.ref)))
theorem each_of {H : Hp} : ∀ {bs : List Addr} {ws : List (List Int)}, Paired (fun b w => H b = some (.tup (w.map V.int))) bs ws → PySem.W.EachIs (WdAt H) (bs.map Value.ref) ws
  | _, _, .nil => .nil
  | _, _, .cons h t => .cons ⟨_, rfl, h⟩ (each_of t)
theorem of_each {H : Hp} : ∀ {us : List Value} {ws : List (List Int)}, PySem.W.EachIs (WdAt H) us ws → ∃ bs : List Addr, us = bs.map Value.ref ∧ Paired (fun b w => H b = some (.tup (w.map V.int))) bs ws
  | _, _, .nil => ⟨[], rfl, .nil⟩
  | _, _, .cons ⟨b, e, h⟩ t => by
    obtain ⟨bs, e2, h2⟩ := of_each t
    exact ⟨b :: bs, by rw [e, e2]; rfl, .cons h h2⟩
theorem readsAll_ints {h : Heap} : ∀ {ns : List Int} {us : List Value}, Vals (ns.map V.int) us → ReadsAll h us (ns.map .int) []
  | [], _, .nil => .nil
  | n :: ns, _, .cons r t => by
    obtain ⟨tk, rfl⟩ := r
    exact .cons (as := []) (bs := []) (.int n tk) (readsAll_ints t)
theorem wkey_alike (ws : List (List Int)) : PySem.W.AllAlike (ws.map wkey) := PySem.W.AllAlike.of fun a b => by
  simp [wkey, PySem.W.alike, PySem.W.alikeAll, PySem.W.alike_ints]
theorem wkey_depth (w : List Int) : (wkey w).depth ≤ 2 := by
  have h : ∀ ns : List Int, PyData.depthAll (ns.map .int) = 0 := fun ns => by
    induction ns with
    | nil => rfl
    | cons n ns ih => simp [PyData.depthAll, PyData.depth, ih]
  simp [wkey, PyData.depth, PyData.depthAll, h]
theorem refs_eq : ∀ {bs : List Addr} {us : List Value}, Vals (bs.map V.ref) us → us = bs.map Value.ref
  | [], _, .nil => rfl
  | _ :: _, _, .cons r t => by
    have r : _ = Value.ref _ := r
    rw [r, refs_eq t]; rfl
theorem keys_words {H : Hp} : ∀ {kvs : List (List Key × V)} {ks : List (List Key × Addr × Value)} {ws : List (List Int)}, Paired (fun (p : List Key × V) (q : List Key × Addr × Value) => p.1 = q.1 ∧ H q.2.1 = some (.tup (p.1.map kV)) ∧ RelV p.2 q.2.2) kvs ks →
    kvs.map (·.1) = ws.map (fun w => w.map Sum.inl) → Paired (fun b w => H b = some (.tup (w.map V.int))) (ks.map fun x => x.2.1) ws
  | [], [], [], .nil, _ => .nil
  | [], [], _ :: _, .nil, h => by simp at h
  | _ :: _, _ :: _, [], .cons _ _, h => by simp at h
  | (k, v) :: kvs, q :: ks, w :: ws, .cons r t, h => by
    simp only [List.map_cons, List.cons.injEq] at h
    obtain ⟨h1, h2⟩ := h
    refine .cons ?_ (keys_words t h2)
    have r2 := r.2.1
    rw [h1, List.map_map] at r2
    exact r2
section
variable {X : Cx}
theorem cr_sortk {f : Addr} {fd : FuncData} {name qual p : Str} {params : Arguments} {body : List Stmt} {scope : Scope} (hc : X.calm = true) (hu : X.A.units + 10 < cLine) (hdp : X.A.depth < recursionLimit)
    (F : FunD X.K name qual params body scope [] [] f fd) (bd : L2.Binds X.K fd [p] []) (hl : X.mg ("len" : Str) = none) (L : LenKey body scope p) : CallRK X (.builtin "sorted") [Str.ofString "key"] (rSortK X.K f) := by
  intro pins s σ H vs zs us wv Q I r rz h
  obtain ⟨a, ws, rfl, rfl, hz, hsrc, q⟩ := h
  obtain rfl := Vals.ref1 r
  obtain ⟨w1, rfl, e1⟩ := vals1 rz
  obtain rfl : w1 = Value.ref f := e1
  refine call_function_entry_kw kind_sorted plain_sorted entry_sorted (PyProof.Rows.ksk_s1 _ _) ?_
  unfold Builtin.«sorted»
  refine wpAny_bind (m := checkCount "sorted" 1 1 _) (wpAny_pure ?_)
  have key : wpAny (model X.prog X.w) X.A.in1 (collect (.ref a)) (fun acc s1 => ∃ h' tk, s1 = { s with heap := h', toks := tk } ∧ (∀ b o, s.heap.get? b = some o → h'.get? b = some o) ∧ PySem.W.EachIs (WdAt H) acc ws) X.xe s := by
    rcases hsrc with ⟨bs, hs, hp⟩ | ⟨kvs, hd, hk⟩
    · obtain ⟨its, rv, pl, hzl⟩ := I.list hs
      have ei : its = bs.map Value.ref := refs_eq rv
      refine collect_list pl.isList ⟨_, s.toks, rfl, fun b o q => ?_, by rw [ei]; exact each_of hp⟩ (by rw [← rv.length]; exact hzl)
      have hlt : b < s.heap.objs.size := Heap.lt_size q
      rw [Heap.get?_update_ne _ _ _ _ (Nat.ne_of_lt hlt)]
      exact Heap.get?_push_of_some _ q
    · obtain ⟨z, hs, ks, pr, o, es, ep, ho, hx, hdt, he, hn⟩ := (show ObjOk X.prog X.w H s.heap a (.dT kvs) from hd.ok I.hok)
      have l1 : es.size = ks.length := size_of_entries he
      have l2 : kvs.length = ks.length := Paired.length pr
      have l3 : kvs.length = ws.length := by have := congrArg List.length hk; simpa using this
      refine PySem.W.kdu_collect (A := X.A.in1) (kdl_raw hs hx hdt) (I.ok.hd hc) ho (by omega) fun h' tk acc' hkp it => ⟨h', tk, rfl, hkp, ?_⟩
      have ea : acc'.toList = ks.map fun x => Value.ref x.2.1 := by
        have hl : acc'.toList.length = ks.length := by rw [Array.length_toList, it.1]; exact l1
        apply List.ext_getElem?
        intro j
        rw [List.getElem?_map]
        cases hj : acc'.toList[j]? with
        | none =>
          have h1 := List.getElem?_eq_none_iff.mp hj
          rw [List.getElem?_eq_none (by omega)]
          all_goals rfl
        | some v =>
          obtain ⟨en, hen, hv⟩ := it.2 j v (by rw [← Array.getElem?_toList]; exact hj)
          have qe := entry_at he j
          rw [hen] at qe
          cases hb : ks[j]? with
          | none =>
            rw [hb] at qe
            exact nomatch (show some en = none from qe)
          | some b =>
            rw [hb] at qe
            have e2 : en = entryOfKey (tupleKind (mixKind X.prog X.w)) b := Option.some.inj qe
            rw [hv, e2]
            all_goals rfl
      have eb : acc'.toList = (ks.map fun x => x.2.1).map Value.ref := by rw [ea, List.map_map]; all_goals rfl
      rw [eb]
      exact each_of (keys_words pr hk)
  refine wpAny_bind (wpAny_mono key (fun acc s1 hq => ?_) fun _ _ z => z)
  obtain ⟨h', tk, rfl, kp, ea⟩ := hq
  have I1 : Inv X pins σ H { s with heap := h', toks := tk } := I.kept kp
  have lacc : acc.length = ws.length := ea.length
  refine wpAny_bind (wpAny_newList ?_ (by rw [lacc]; exact hz))
  have hoL : (h'.push (seqObj "list" acc.toArray 0)).get? h'.objs.size = some (seqObj "list" acc.toArray 0) := Heap.get?_push_size _ rfl
  show wpAny _ _ _ _ _ { s with heap := h'.push (seqObj "list" acc.toArray 0), toks := tk }
  have kb : ∀ {g : Heap}, PySem.W.KeepsBut h'.objs.size (h'.push (seqObj "list" acc.toArray 0)) g → ∀ b o, h'.get? b = some o → g.get? b = some o := fun {g} kq b o e => kq b o (Nat.ne_of_lt (Heap.lt_size e)) (Heap.get?_push_of_some _ e)
  refine wpAny_bind (wpAny_holding (PySem.W.list_sort_key_data (A := X.A.in1) (b := false) (R := WdAt H) wkey hoL ea (wkey_alike ws) (PySem.W.Sortable.tuples fun w => ⟨_, _, rfl⟩) hz (fun w _ => ?_) (PyProof.Rows.ksk_l1 _ _) (PyProof.Rows.ksk_t1 _ _) (fun v w hv _ g tg kq => ?_) (fun out c g tg kq hg hlo eo => ?_)))
  · have := wkey_depth w
    show X.A.units + 1 + 1 + (wkey w).depth < cLine
    omega
  · obtain ⟨b, rfl, hb⟩ := hv
    have kg := kb kq
    have kall : ∀ b o, X.base.get? b = some o → g.get? b = some o := fun b o e => kg b o (kp b o (I.bk b o e))
    obtain ⟨zz, its, rv, ob, ho, hcl, n, hd⟩ := I1.hok b _ hb
    obtain ⟨mb, hb1, hb2⟩ := I.ok.mod.blt
    have htg : IsTup g b its.toArray := ⟨ob, kg b ob ho, hcl, n, hd⟩
    have hlen : its.length = w.length := by rw [← rv.length, List.length_map]
    have := lenKey_call (P := X.prog) (w := X.w) (A := X.A.in1.in1) (E := fun _ _ => False) (s := { s with heap := g, toks := tg }) (d := .tuple (w.map .int)) (I.ok.mod.kin.keeps kall) (I.ok.mod.glob.keeps kall) (hb1.keeps kall) hb2 (I.ok.mod.nolimit.keeps kall) F bd hl L htg
      (by rw [List.size_toArray, hlen]; have := zz; rw [List.length_map] at this; exact this) (Reads.tuple (kg b ob ho) hcl hd (readsAll_ints rv)) hdp
    rw [List.size_toArray, hlen] at this
    exact this
  · obtain ⟨bs, rfl, hp⟩ := of_each eo
    have kg := kb kq
    have hl2 : (sortW ws).length = ws.length := List.length_mergeSort _
    have hz2 : (bs.map V.ref).length ≤ sizeLine := by
      have := Paired.length hp
      rw [List.length_map, this]
      show (sortW ws).length ≤ sizeLine
      rw [hl2]; exact hz
    have I3 : Inv X pins σ (upd H h'.objs.size (.lst (bs.map V.ref))) { s with heap := g, toks := tg } :=
      I1.laid (t' := tg) (o := .lst (bs.map V.ref)) kg (Nat.le_refl _) ⟨hz2, bs.map Value.ref, c, vals_refs bs, hg⟩
    exact wpAny_pure ⟨_, rfl, .ref h'.objs.size, _, I3, rfl, q bs _ (I1.hok.fresh (Nat.le_refl _)) hp⟩
end
end Vf
namespace Vf
open PySem PySem.Spec PyProof.Rows L2

theorem wordsD_eq : ∀ {ds : List D} {ws : List (List Int)}, wordsD ds = some ws → ds = ws.map wordD
  | [], _, h => by simp [wordsD] at h; subst h; rfl
  | d :: r, ws, h => by
    cases d with
    | tup xs =>
      simp only [wordsD] at h
      split at h
      · rename_i w ws' h1 h2
        cases h
        rw [wordsD_eq h2]
        have : xs = w.map D.int := by
          clear h2
          induction xs generalizing w with
          | nil => simp [intsD] at h1; subst h1; rfl
          | cons x xs ih =>
            cases x with
            | int i =>
              simp only [intsD] at h1
              cases q : intsD xs with
              | none => rw [q] at h1; cases h1
              | some v =>
                rw [q] at h1
                cases h1
                rw [ih _ q]; rfl
            | _ => simp [intsD] at h1
        rw [this]; rfl
      · cases h
    | _ => simp [wordsD] at h
section
variable {K : PySem.W.Frag} {P : AP} {τ : TA2} {H : Hp}
theorem intsV : ∀ {w : List Int} {xs : List V}, RepAll K P τ H xs (w.map D.int) → xs = w.map V.int
  | [], _, .nil => rfl
  | i :: w, _, .cons h t => by cases h; rw [intsV t]; rfl
theorem rep_words : ∀ {ws : List (List Int)} {xs : List V}, RepAll K P τ H xs (ws.map wordD) → ∃ bs : List Addr, xs = bs.map V.ref ∧ Paired (fun b w => H b = some (.tup (w.map V.int))) bs ws
  | [], _, .nil => ⟨[], rfl, .nil⟩
  | w :: ws, _, .cons h t => by
    obtain ⟨bs, e, p⟩ := rep_words t
    have h : Rep K P τ H _ (.tup (w.map D.int)) := h
    cases h with
    | @tup a ys _ q r =>
      rw [intsV r] at q
      exact ⟨a :: bs, by rw [e]; rfl, .cons q.2 p⟩
theorem ints_repV : ∀ (w : List Int), RepAll K P τ H (w.map V.int) (w.map D.int)
  | [] => .nil
  | i :: w => .cons (.int i) (ints_repV w)
theorem words_rep (ht : ∀ b xs, H b = some (.tup xs) → ¬ P b) : ∀ {bs : List Addr} {ws : List (List Int)}, Paired (fun b w => H b = some (.tup (w.map V.int))) bs ws → RepAll K P τ H (bs.map V.ref) (ws.map wordD)
  | _, _, .nil => .nil
  | _, _, .cons (l₂ := _) h t => .cons (.tup ⟨ht _ _ h, h⟩ (ints_repV _)) (words_rep ht t)
theorem repT_words : ∀ {kvs : List (List Key × V)} {ds : List (D × D)} {ws : List (List Int)}, RepT K P τ H kvs ds → ds.map (·.1) = ws.map wordD → kvs.map (·.1) = ws.map fun w => w.map Sum.inl
  | [], [], [], .nil, _ => rfl
  | [], [], _ :: _, .nil, h => by simp at h
  | _, _, [], .cons _ _ _, h => by simp at h
  | _, _, w :: ws, .cons (k := k) (kd := kd) hk _ t, h => by
    simp only [List.map_cons, List.cons.injEq] at h ⊢
    refine ⟨?_, repT_words t h.2⟩
    have e : kd = w.map D.int := by have := h.1; simp only [wordD] at this; exact D.tup.inj this
    rw [e] at hk
    clear e h t
    have key : ∀ (w : List Int), keysD (w.map D.int) = some (w.map Sum.inl) := fun w => by
      induction w with
      | nil => rfl
      | cons i w ih => simp [keysD, keyD, ih]
    rw [key] at hk
    exact (Option.some.inj hk).symm
end
section
variable {X : Cx} {ca : Nat → Addr} {W : WX} {F : FT} {k : Nat}
theorem je_sortk {y : Str} {a : Expr} {e : Ex} {i : Nat} {p py kp pos : Pos} (hr : Room k X.A) (hc : X.calm = true) (hg : L2.Gl X "sorted") (hm : X.mg "sorted" = none) (hgy : L2.Gl X y) (hdy : (y == ("__debug__" : Str)) = false) (lf : LenFn X.K X.mg y) (ha : JE X ca W a (evE F e)) (hn : nst a = true) :
    JE X ca W (.Call (.Name "sorted" p) [a] [⟨some "key", .Name y py, kp⟩] pos) (evE F (.sortk e i)) := by
  obtain ⟨f, fd, name, qual, params, body, scope, p0, m1, m2, Fd, bd, L⟩ := lf
  have u1 := hr.un
  have hK : PK X [⟨some "key", .Name y py, kp⟩] (tCons (tC (.ref f)) tNil) := pk_cons (pe_glob hgy m1 rfl hdy) pk_nil
  have hA : PA X [a] (tCons (tvE X.K ca W (evE F e)) tNil) := pa_cons ha pa_nil (star_cons hn)
  refine PE.imp (pe_callBK (cr_sortk hc (by omega) hr.depth Fd bd m2 L) hg hm boot_sorted hA hK (by decide +kernel) (by decide +kernel) (by rw [star_cons hn]; rfl) (by rw [star_cons hn]; rfl) rfl rfl rfl) fun σ H Q ⟨B, M, o, τ, Fz, s, r, q⟩ => ?_
  unfold evE at q
  refine ⟨B, M, o, τ, Fz, s, r, q.bnd_.mono (fun x s' q v H' rt => ?_) fun _ _ z => z⟩
  have r1 := rt.one
  obtain ⟨z, hz, q⟩ := opt_some (a := x) q
  unfold sortkD at hz
  cases h1 : itemsL x.1 with
  | none => rw [h1] at hz; cases hz
  | some ds =>
    rw [h1] at hz
    simp only [Option.bind_some] at hz
    cases h2 : wordsD ds with
    | none => rw [h2] at hz; cases hz
    | some ws =>
      rw [h2] at hz
      simp only [Option.bind_some] at hz
      split at hz
      · rename_i hf
        cases hz
        have hf := of_decide_eq_true hf
        have e1 := wordsD_eq h2
        have rv := r1.fz (v, x.1) List.mem_cons_self
        have fin : ∀ (bs : List Addr) (p : Addr), H' p = none → Paired (fun b w => H' b = some (.tup (w.map V.int))) bs (sortW ws) → Q (.ref p) (upd H' p (.lst (bs.map V.ref))) := fun bs p hp pr => by
          have ra : RepAll X.K (Prt M o τ s') τ H' (bs.map V.ref) ((sortW ws).map wordD) := words_rep (fun b xs e => r1.tupOk e) pr
          refine got_lst r1 ra (fun v2 H2 rt2 => q v2 H2 ?_) p hp
          obtain ⟨a, u, cs, e, hb, ht, hm, c, r3⟩ := rt2
          refine ⟨a, u, cs, e, hb, ht, hm, c, ?_⟩
          have r3 : RelS X.K (upd B a u) (fun b => M b ∨ b = a) o τ (cs ++ ((v, x.1) :: Fz)) σ s' H2 := r3
          exact r3.drop fun p hp => (List.mem_append.mp hp).elim (fun z => List.mem_append_left _ z) fun z => List.mem_append_right _ (List.mem_cons_of_mem _ z)
        obtain ⟨d, fr⟩ := x
        cases d with
        | lst es =>
          cases h1
          cases rv with
          | @lst a xs _ q1 ra =>
            rw [e1] at ra
            obtain ⟨bs, eb, pb⟩ := rep_words ra
            exact ⟨a, ws, rfl, rfl, hf, .inl ⟨bs, .of (by rw [← eb]; exact q1.2), pb⟩, fin⟩
        | dic t kvs =>
          cases t with
          | false => cases h1
          | true =>
            cases h1
            cases rv with
            | @dT a xs _ np hq ra => exact ⟨a, ws, rfl, rfl, hf, .inr ⟨xs, .of hq, repT_words ra e1⟩, fin⟩
        | _ => cases h1
      · cases hz
end
end Vf
namespace Vf
open PySem PySem.Spec PyProof.Rows L2

structure SC where
  sc : Scope
  sc0 : Scope
  N : List Str
def mainN (x : Str) : Bool := !(x == ("__debug__" : Str)) && !(x == ("__classdict__" : Str)) && !(x == ("__name__" : Str))
def visB (sc : Scope) (x : Str) : Bool := match sc.names.lookup x with
  | some .local => true | some .cell => true | some .free => true | _ => false
def rdB (c : SC) (x : Str) (i : Nat) : Bool := decide (c.N[i]? = some x) && visB c.sc x && mainN x
def locB (sc : Scope) (x : Str) : Bool := match sc.names.lookup x with
  | some .local => true | some .cell => true | _ => false
def wrB (c : SC) (x : Str) (i : Nat) : Bool := decide (c.N[i]? = some x) && locB c.sc0 x && mainN x
def glB (c : SC) (x : Str) : Bool := decide (c.sc.names.lookup x = some .globalImplicit) && mainN x
def frB (C : Cn) (c : SC) (x : Str) : Bool := glB c x && decide (x ∈ C.free)
mutual
def sameD : D → D → Bool
  | .non, .non => true | .bl a, .bl b => decide (a = b) | .int a, .int b => decide (a = b) | .str a, .str b => decide (a = b)
  | .tup a, .tup b => sameDs a b | .lst a, .lst b => sameDs a b | .ktup a, .ktup b => sameDs a b
  | _, _ => false
def sameDs : List D → List D → Bool
  | [], [] => true
  | a :: r, b :: s => sameD a b && sameDs r s
  | _, _ => false
end
mutual
theorem sameD_eq : ∀ {a b : D}, sameD a b = true → a = b
  | .non, b, h => by cases b <;> first | rfl | (simp [sameD] at h)
  | .bl a, b, h => by cases b <;> first | (simp [sameD] at h; rw [h]) | (simp [sameD] at h)
  | .int a, b, h => by cases b <;> first | (simp [sameD] at h; rw [h]) | (simp [sameD] at h)
  | .str a, b, h => by cases b <;> first | (simp [sameD] at h; rw [h]) | (simp [sameD] at h)
  | .tup a, b, h => by cases b <;> first | (simp only [sameD] at h; rw [sameDs_eq h]) | (simp [sameD] at h)
  | .lst a, b, h => by cases b <;> first | (simp only [sameD] at h; rw [sameDs_eq h]) | (simp [sameD] at h)
  | .ktup a, b, h => by cases b <;> first | (simp only [sameD] at h; rw [sameDs_eq h]) | (simp [sameD] at h)
  | .dic _ _, b, h => by cases b <;> simp [sameD] at h
  | .tape, b, h => by cases b <;> simp [sameD] at h
theorem sameDs_eq : ∀ {a b : List D}, sameDs a b = true → a = b
  | [], [], _ => rfl
  | [], _ :: _, h => by simp [sameDs] at h
  | _ :: _, [], h => by simp [sameDs] at h
  | a :: r, b :: s, h => by
    simp only [sameDs, Bool.and_eq_true] at h
    rw [sameD_eq h.1, sameDs_eq h.2]
end
def conB (C : Cn) (x : Str) (d : D) : Bool := match C.cons.lookup x with
  | some e => sameD e d
  | none => false
def cstB : Const → D → Bool
  | .int i, .int j => decide (i = j)
  | .bool i, .bl j => decide (i = j)
  | .none, .non => true
  | .str i, .str j => decide (i = j)
  | _, _ => false
def cmpOps : List CmpOp := [.Eq, .NotEq, .Lt, .LtE, .Gt, .GtE, .In, .NotIn]
def binOps : List Operator := [.Add, .Sub, .Mult, .FloorDiv, .Mod]
def nset : Expr → Bool
  | .Set .. => false
  | _ => true
def isOp (t : Bool) : CmpOp := if t then .Is else .IsNot
def opnds (C : Cn) (c : SC) (p : Pr) (a : Expr) : Option (List Expr) := match p, a with
  | .bin op, .BinOp a op' b _ => if decide (op' = op) && decide (op ∈ binOps) then some [a, b] else none
  | .cmp op, .Compare a [op'] [b] _ => if decide (op' = op) && decide (op ∈ cmpOps) && nset b then some [a, b] else none
  | .isN t, .Compare a [op] [.Constant .none _ _] _ => if decide (op = isOp t) then some [a] else none
  | .isB b t, .Compare a [op] [.Constant (.bool b') _ _] _ => if decide (op = isOp t) && decide (b' = b) then some [a] else none
  | .neg, .UnaryOp .USub a _ => some [a]
  | .idx, .Subscript a b _ => if nsl b then some [a, b] else none
  | .sl true false, .Subscript a (.Slice (some l) none none _) _ => some [a, l]
  | .sl false true, .Subscript a (.Slice none (some l) none _) _ => some [a, l]
  | .sl true true, .Subscript a (.Slice (some l) (some m) none _) _ => some [a, l, m]
  | .rev, .Subscript a (.Slice none none (some (.UnaryOp .USub (.Constant (.int j) _ _) _)) _) _ => if decide (j = 1) then some [a] else none
  | .isT T, .Call (.Name f _) [a, .Name t _] [] _ => if decide (f = ("isinstance" : Str)) && decide (t = (T : Str)) && decide (T ∈ tyIds) && frB C c f && frB C c t then some [a] else none
  | .blt id, .Call (.Name f _) (a :: as) [] _ => if decide (f = (id : Str)) && decide (id ∈ bltIds) && frB C c f then some (a :: as) else none
  | _, _ => none
def slOk (p : Pr) (es : Exs) : Bool := match p with
  | .sl true true => (match es with
    | .cons _ (.cons (.chkI _) (.cons _ .nil)) => true
    | _ => false)
  | _ => true
def tst1 : Ex → Bool
  | .ite _ _ _ => false
  | .chkI _ => false
  | _ => true
def ownOf (N : List Str) (scope : Scope) : List (Str × Nat) := scope.names.filterMap fun y => if locB scope y.1 then (N.idxOf? y.1).map fun i => (y.1, i) else none
def namesB (c : SC) : List Nat → List Expr → Bool
  | [], [] => true
  | i :: is, .Name x _ :: ts => wrB c x i && namesB c is ts
  | _, _ => false
def tgB (c : SC) (tg : List Nat) (a : Expr) : Bool := match tg, a with
  | [i], .Name x _ => wrB c x i
  | i :: j :: is, .Tuple ts _ _ => namesB c (i :: j :: is) ts
  | _, _ => false
def blkSC (c : SC) (scope : Scope) : SC := ⟨relS scope c.sc, scope, c.N⟩
def isTup : Expr → Bool
  | .Tuple .. => true
  | _ => false
mutual
def ckE (C : Cn) (c : SC) : Ex → Expr → Bool
  | .var i, a => match a with
    | .Name x _ => rdB c x i
    | _ => false
  | .cst d, a => match a with
    | .Constant k _ _ => cstB k d
    | _ => false
  | .glo x d, a => match a with
    | .Name y _ => decide (y = x) && glB c x && conB C x d
    | _ => false
  | .prim p es, a => match opnds C c p a with
    | some as => slOk p es && ckEs C c es as
    | none => false
  | .chkI e, a => ckE C c e a
  | .not e, a => match a with
    | .UnaryOp .Not b _ => tst1 e && ckE C c e b
    | _ => false
  | .and e f, a => match a with
    | .BoolOp .And (a :: b :: rest) pos => tst1 e && tst1 f && ckE C c e a && (match rest with
      | [] => ckE C c f b
      | _ :: _ => ckE C c f (.BoolOp .And (b :: rest) pos))
    | _ => false
  | .or e f, a => match a with
    | .BoolOp .Or (a :: b :: rest) pos => tst1 e && tst1 f && ckE C c e a && (match rest with
      | [] => ckE C c f b
      | _ :: _ => ckE C c f (.BoolOp .Or (b :: rest) pos))
    | _ => false
  | .ite e f g, a => match a with
    | .IfExp t a b _ => tst1 e && ckE C c e t && ckE C c f a && ckE C c g b
    | _ => false
  | .tup es, a => match a with
    | .Tuple as _ _ => ckEs C c es as
    | _ => false
  | .lst es, a => match a with
    | .List as _ => ckEs C c es as
    | _ => false
  | .dic _, a => match a with
    | .Dict [] [] _ => true
    | _ => false
  | .call f es, a => match a with
    | .Call (.Name x _) as [] _ => decide (C.names.lookup x = some f) && glB c x && decide (C.ar[f]? = some es.len) && ckEs C c es as
    | _ => false
  | .pop i es, a => match a with
    | .Call (.Attribute (.Name x _) m apos) as [] cpos => decide (m = ("pop" : Str)) && rdB c x i && (apos.endLine == cpos.line) && decide (es.len ≤ 1) && ckEs C c es as
    | _ => false
  | .comp own tg it cd e, a => match a with
    | .ListComp elt gens scope _ => (match gens with
      | [⟨t, i, ifs, n⟩] => decide (n = 0) && decide (own = (ownOf c.N scope).map (·.2)) && blkC c.N c.sc scope (ownOf c.N scope) && tgB (blkSC c scope) tg t && (tg.all fun j => decide (j ∈ own)) && nset i && ckI C c it t i &&
        ckEs C (blkSC c scope) cd ifs && ckCd cd && ckE C (blkSC c scope) e elt
      | _ => false)
    | _ => false
  | .comp2 own own1 tg it cd tg1 it1 cd1 e, a => match a with
    | .ListComp elt gens scope _ => (match gens with
      | [⟨t, i, ifs, n⟩, ⟨t1, i1, ifs1, n1⟩] => decide (n = 0) && decide (n1 = 0) && decide (own = (ownOf c.N scope).map (·.2)) && blkC c.N c.sc scope (ownOf c.N scope) && tgB (blkSC c scope) tg t && (tg.all fun j => decide (j ∈ own)) && tgB (blkSC c scope) tg1 t1 && (tg1.all fun j => decide (j ∈ own1)) && (own1.all fun j => decide (j ∈ own)) && nset i && nset i1 && ckI C c it t i &&
        ckEs C (blkSC c scope) cd ifs && ckCd cd && ckI C (blkSC c scope) it1 t1 i1 && ckEs C (blkSC c scope) cd1 ifs1 && ckCd cd1 && ckE C (blkSC c scope) e elt
      | _ => false)
    | _ => false
  | .sortk e _, a => match a with
    | .Call (.Name s _) [a] [⟨some kw, .Name y _, _⟩] _ => decide (s = ("sorted" : Str)) && decide (kw = ("key" : Str)) && frB C c s && glB c y && decide (y ∈ C.lenk) && nst a && ckE C c e a
    | _ => false
def ckEs (C : Cn) (c : SC) : Exs → List Expr → Bool
  | .nil, as => as.isEmpty
  | .cons e es, as => match as with
    | a :: as => nst a && ckE C c e a && ckEs C c es as
    | [] => false
def ckCd : Exs → Bool
  | .nil => true
  | .cons e es => tst1 e && (match es with
    | .nil => true
    | .cons _ _ => false)
def ckI (C : Cn) (c : SC) : It → Expr → Expr → Bool
  | .ex e, _, a => ckE C c e a
  | .rng1 e, _, a => match a with
    | .Call (.Name f _) [a] [] _ => decide (f = ("range" : Str)) && frB C c f && nst a && ckE C c e a
    | _ => false
  | .rng2 e g, _, a => match a with
    | .Call (.Name f _) [a, b] [] _ => decide (f = ("range" : Str)) && frB C c f && nst a && nst b && ckE C c e a && ckE C c g b
    | _ => false
  | .zip e g, t, a => match a with
    | .Call (.Name f _) [a, b] [] _ => decide (f = ("zip" : Str)) && frB C c f && isTup t && nst a && nst b && ckE C c e a && ckE C c g b
    | _ => false
  | .enm e, t, a => match a with
    | .Call (.Name f _) [a] [] _ => decide (f = ("enumerate" : Str)) && frB C c f && isTup t && nst a && ckE C c e a
    | _ => false
end

structure Good (C : Cn) (F : FT) (k : Nat) (c : SC) (X : Cx) (W : WX) : Prop where
  N : X.N = c.N
  nd : X.N.Nodup
  sc : X.env.scope = c.sc
  wr : ∀ x, (c.sc0.names.lookup x = some .local ∨ c.sc0.names.lookup x = some .cell) → Loc X.env.scope x ∧ (X.fn x = true ∨ X.env.scope.names.lookup x = some .local)
  calm : X.calm = true
  room : Room k X.A
  tk : Takes X W
  pf : PF C F (glX X k)
section
variable {C : Cn} {F : FT} {k : Nat} {c : SC} {X : Cx} {W : WX}
theorem mainN_ok {x : Str} (h : mainN x = true) : (x == ("__debug__" : Str)) = false ∧ (x == ("__classdict__" : Str)) = false ∧ x ≠ ("__name__" : Str) := by
  unfold mainN at h
  simp only [Bool.and_eq_true, Bool.not_eq_true'] at h
  refine ⟨h.1.1, h.1.2, fun e => ?_⟩
  subst e
  have := h.2
  simp at this
theorem rd_ok (G : Good C F k c X W) {x : Str} {i : Nat} (h : rdB c x i = true) : X.N[i]? = some x ∧ Vis X.env.scope x ∧ (x == ("__debug__" : Str)) = false ∧ (x == ("__classdict__" : Str)) = false := by
  unfold rdB at h
  simp only [Bool.and_eq_true, decide_eq_true_eq] at h
  obtain ⟨⟨h1, h2⟩, h3⟩ := h
  obtain ⟨m1, m2, _⟩ := mainN_ok h3
  refine ⟨by rw [G.N]; exact h1, ?_, m1, m2⟩
  rw [G.sc]
  unfold visB at h2
  split at h2
  · exact .inl (by assumption)
  · exact .inr (.inl (by assumption))
  · exact .inr (.inr (by assumption))
  · cases h2
theorem wr_ok (G : Good C F k c X W) {x : Str} {i : Nat} (h : wrB c x i = true) : X.N[i]? = some x ∧ Loc X.env.scope x ∧ (X.fn x = true ∨ X.env.scope.names.lookup x = some .local) := by
  unfold wrB at h
  simp only [Bool.and_eq_true, decide_eq_true_eq] at h
  obtain ⟨⟨h1, h2⟩, h3⟩ := h
  refine ⟨by rw [G.N]; exact h1, G.wr x ?_⟩
  unfold locB at h2
  split at h2
  · exact .inl (by assumption)
  · exact .inr (by assumption)
  · cases h2
theorem gl_ok (G : Good C F k c X W) {x : Str} (h : glB c x = true) : L2.Gl X x ∧ (x == ("__debug__" : Str)) = false := by
  unfold glB at h
  simp only [Bool.and_eq_true, decide_eq_true_eq] at h
  refine ⟨?_, (mainN_ok h.2).1⟩
  show X.env.scope.names.lookup x = some .globalImplicit
  rw [G.sc]; exact h.1
theorem fr_ok (G : Good C F k c X W) {x : Str} (h : frB C c x = true) : L2.Gl X x ∧ X.mg x = none := by
  unfold frB at h
  simp only [Bool.and_eq_true, decide_eq_true_eq] at h
  exact ⟨(gl_ok G h.1).1, G.pf.free x h.2⟩
theorem pgs_of (G : Good C F k c X W) : ∀ {is : List Nat} {ts : List Expr}, namesB c is ts = true → PGs X ts (gNs is) ∧ (assignEach ts X.env).length = is.length ∧ (assignEach ts X.env).findIdx? (·.1) = none
  | [], [], _ => ⟨pgs_nil, rfl, rfl⟩
  | [], _ :: _, h => by simp [namesB] at h
  | _ :: _, [], h => by simp [namesB] at h
  | i :: is, t :: ts, h => by
    cases t with
    | Name x p =>
      simp only [namesB, Bool.and_eq_true] at h
      obtain ⟨h1, h2, h3⟩ := wr_ok G h.1
      obtain ⟨g1, g2, g3⟩ := pgs_of G h.2
      refine ⟨pgs_cons (pg_name G.nd h1 h2 h3) g1, ?_, ?_⟩
      · show (assignEach ts X.env).length + 1 = is.length + 1
        rw [g2]
      · show List.findIdx? _ ((false, assign (.Name x p) X.env) :: assignEach ts X.env) = none
        rw [List.findIdx?_cons]
        simp [g3]
    | _ => simp [namesB] at h
theorem tg_ok (G : Good C F k c X W) {tg : List Nat} {a : Expr} (h : tgB c tg a = true) : PG X a (gTg X.K tg) := by
  unfold tgB at h
  split at h
  · obtain ⟨h1, h2, h3⟩ := wr_ok G h
    exact pg_name G.nd h1 h2 h3
  · obtain ⟨g1, g2, g3⟩ := pgs_of G h
    exact pg_tup G.calm g1 g2 g3
  · cases h
theorem blk_ok (G : Good C F k c X W) {scope : Scope} {own : List (Str × Nat)} (ok : BlkOk c.N c.sc scope own) (s : Shared) (H : Hp) (D : Addr) (cl : List (Str × Addr)) (fp : List Addr) : Good C F k (blkSC c scope) (X.blk s H scope (compEnvC scope cl D X.env) fp) W0 := by
  have hsc : (X.blk s H scope (compEnvC scope cl D X.env) fp).env.scope = relS scope c.sc := by
    rw [← G.sc]; rfl
  refine ⟨G.N, G.nd, hsc, fun x h => ?_, G.calm, G.room, takes0, G.pf⟩
  rw [hsc]
  rcases h with h | h
  · have := lookup_relS_keep (sc := c.sc) (show NameKind.local ≠ .free by decide) h
    exact ⟨.inl this, .inr this⟩
  · have := lookup_relS_keep (sc := c.sc) (show NameKind.cell ≠ .free by decide) h
    refine ⟨.inr this, .inl ?_⟩
    have h : scope.names.lookup x = some .cell := h
    show (scope.names.lookup x == some .cell) = true
    rw [h]; rfl
structure J3 (X : Cx) (ca : Nat → Addr) (W : WX) (F : FT) (e : Ex) (a : Expr) : Prop where
  je : JE X ca W a (evE F e)
  jo : JO X ca W a (evOp F e)
  jt : tst1 e = true → JT X ca W a (bnd (evE F e) isB)
  jw : tst1 e = true → ∀ op es pos, a = .BoolOp op es pos → PW X a (tvT X.K ca W (bnd (evE F e) isB))
  jc : ∀ f, e = .chkI f → JE X ca W a (evE F f)
def plainT : Expr → Bool
  | .UnaryOp .Not _ _ => false
  | .BoolOp .. => false
  | .IfExp .. => false
  | .Compare .. => false
  | _ => true
theorem J3.val {ca : Nat → Addr} {e : Ex} {a : Expr} (h : JE X ca W a (evE F e)) (hv : ∀ i, e ≠ .var i) (hp : plainT a = true) (hc : ∀ f, e ≠ .chkI f := by intro _ z; cases z) : J3 X ca W F e a := by
  refine ⟨h, jo_of h hv, fun _ => jt_val h ?_, fun _ op es pos e => ?_, fun f e => absurd e (hc f)⟩
  · intro whole
    cases a with
    | UnaryOp op b p => cases op <;> first | rfl | cases hp
    | BoolOp => cases hp
    | IfExp => cases hp
    | Compare => cases hp
    | _ => rfl
  · subst e; cases hp
def AllJ (X : Cx) (ca : Nat → Addr) (W : WX) (F : FT) : Exs → List Expr → Prop
  | .nil, [] => True
  | .cons e es, a :: as => nst a = true ∧ J3 X ca W F e a ∧ AllJ X ca W F es as
  | _, _ => False
theorem AllJ.ja {ca : Nat → Addr} : ∀ {es : Exs} {as : List Expr}, AllJ X ca W F es as → JA X ca W as (evEs F es) ∧ nstAll as = true
  | .nil, [], _ => ⟨ja_nil, rfl⟩
  | .nil, _ :: _, h => h.elim
  | .cons _ _, [], h => h.elim
  | .cons e es, a :: as, ⟨h1, h2, h3⟩ => by
    obtain ⟨g1, g2⟩ := AllJ.ja h3
    exact ⟨ja_cons h2.je g1 h1, by unfold nstAll at g2 ⊢; simp [h1, g2]⟩
theorem AllJ.jos {ca : Nat → Addr} : ∀ {es : Exs} {as : List Expr}, AllJ X ca W F es as → JOs X ca W as (evO F es) ∧ nstAll as = true
  | .nil, [], _ => ⟨jos_nil, rfl⟩
  | .nil, _ :: _, h => h.elim
  | .cons _ _, [], h => h.elim
  | .cons e es, a :: as, ⟨h1, h2, h3⟩ => by
    obtain ⟨g1, g2⟩ := AllJ.jos h3
    exact ⟨jos_cons h2.jo g1 h1, by unfold nstAll at g2 ⊢; simp [h1, g2]⟩
end
end Vf
namespace Vf
open PySem PySem.Spec PyProof.Rows L2
section
variable {C : Cn} {F : FT} {k : Nat} {c : SC} {X : Cx} {W : WX} {ca : Nat → Addr}
theorem AllJ.one {es : Exs} {a : Expr} (h : AllJ X ca W F es [a]) : ∃ e, es = .cons e .nil ∧ J3 X ca W F e a ∧ nst a = true := by
  match es, h with
  | .nil, h => exact h.elim
  | .cons e .nil, h => exact ⟨e, rfl, h.2.1, h.1⟩
  | .cons e (.cons _ _), h => exact h.2.2.elim
theorem AllJ.two {es : Exs} {a b : Expr} (h : AllJ X ca W F es [a, b]) : ∃ e f, es = .cons e (.cons f .nil) ∧ J3 X ca W F e a ∧ J3 X ca W F f b ∧ nst a = true ∧ nst b = true := by
  match es, h with
  | .nil, h => exact h.elim
  | .cons e r, h =>
    obtain ⟨f, rfl, h1, h2⟩ := AllJ.one h.2.2
    exact ⟨e, f, rfl, h.2.1, h1, h.1, h2⟩
theorem AllJ.three {es : Exs} {a b c : Expr} (h : AllJ X ca W F es [a, b, c]) : ∃ e f g, es = .cons e (.cons f (.cons g .nil)) ∧ J3 X ca W F e a ∧ J3 X ca W F f b ∧ J3 X ca W F g c := by
  match es, h with
  | .nil, h => exact h.elim
  | .cons e r, h =>
    obtain ⟨f, g, rfl, h1, h2, _⟩ := AllJ.two h.2.2
    exact ⟨e, f, g, rfl, h.2.1, h1, h2⟩
theorem cmp_mark {op : CmpOp} {b : Expr} (h : nset b = true) : behindInMarks op b = false := by
  cases b <;> first | rfl | cases h
theorem J3.cmp {p : Pr} {es : Exs} {a : Expr} (h : JE X ca W a (evE F (.prim p es))) (ht : JT X ca W a (bnd (evE F (.prim p es)) isB)) (hb : ∀ op es pos, a ≠ .BoolOp op es pos) : J3 X ca W F (.prim p es) a :=
  ⟨h, jo_of h (fun i => by intro z; cases z), fun _ => ht, fun _ op es pos e => absurd e (hb op es pos), fun f z => by cases z⟩
theorem jcmp {op : CmpOp} {r : R2} {a b : Expr} {e1 e2 : Ex} {pos : Pos} (ho : OpR X (compareOp op) r) (sv : Serves X.K (.cmp op) (two r)) (ha : JO X ca W a (evOp F e1)) (hb : JO X ca W b (evOp F e2)) (hm : behindInMarks op b = false) :
    J3 X ca W F (.prim (.cmp op) (.cons e1 (.cons e2 .nil))) (.Compare a [op] [b] pos) := J3.cmp (je_cmp ho sv ha hb hm) (jt_cmp ho sv ha hb hm) (fun _ _ _ z => by cases z)
theorem prim_ok (G : Good C F k c X W) {p : Pr} {es : Exs} {a : Expr} {as : List Expr} (h : opnds C c p a = some as) (hs : slOk p es = true) (hj : AllJ X ca W F es as) : J3 X ca W F (.prim p es) a := by
  have u1 := G.room.un
  have prv : ∀ i, Ex.prim p es ≠ .var i := fun i z => by cases z
  unfold opnds at h
  split at h
  · -- bin
    split at h
    · rename_i hc
      cases h
      simp only [Bool.and_eq_true, decide_eq_true_eq] at hc
      obtain ⟨e1, e2, rfl, j1, j2, _⟩ := hj.two
      obtain ⟨rfl, hm⟩ := hc
      refine J3.val ?_ prv rfl
      have hm' := hm
      simp only [binOps, List.mem_cons, List.not_mem_nil, or_false] at hm'
      rcases hm' with e | e | e | e | e <;> subst e
      · exact je_bin op_addA serves_add j1.jo j2.jo
      · exact je_bin op_sub serves_sub j1.jo j2.jo
      · exact je_bin op_mulA serves_mul j1.jo j2.jo
      · exact je_bin op_fdivZ serves_div j1.jo j2.jo
      · exact je_bin op_modN serves_mod j1.jo j2.jo
    · cases h
  · -- cmp
    split at h
    · rename_i hc
      cases h
      simp only [Bool.and_eq_true, decide_eq_true_eq] at hc
      obtain ⟨e1, e2, rfl, j1, j2, _⟩ := hj.two
      obtain ⟨⟨rfl, hm⟩, hn⟩ := hc
      have hb := fun op => cmp_mark (op := op) hn
      have hm' := hm
      simp only [cmpOps, List.mem_cons, List.not_mem_nil, or_false] at hm'
      rcases hm' with e | e | e | e | e | e | e | e <;> subst e
      · exact jcmp (op_eqA (by omega)) serves_eq j1.jo j2.jo (hb _)
      · exact jcmp (op_neA (by omega)) serves_ne j1.jo j2.jo (hb _)
      · exact jcmp (op_ltA (by omega)) serves_lt j1.jo j2.jo (hb _)
      · exact jcmp op_le serves_le j1.jo j2.jo (hb _)
      · exact jcmp op_gt serves_gt j1.jo j2.jo (hb _)
      · exact jcmp op_ge serves_ge j1.jo j2.jo (hb _)
      · exact jcmp (op_inA (by omega)) serves_in j1.jo j2.jo (hb _)
      · exact jcmp (op_notInA (by omega)) serves_notIn j1.jo j2.jo (hb _)
    · cases h
  · -- is None
    split at h
    · rename_i hc
      cases h
      have hc := of_decide_eq_true hc
      subst hc
      obtain ⟨e1, rfl, j1, _⟩ := hj.one
      exact J3.cmp (a := .Compare _ [isOp _] [.Constant .none _ _] _) (je_isN _ j1.jo) (jt_isN _ j1.jo) (fun _ _ _ z => by cases z)
    · cases h
  · split at h
    · rename_i hc
      cases h
      simp only [Bool.and_eq_true, decide_eq_true_eq] at hc
      obtain ⟨rfl, rfl⟩ := hc
      obtain ⟨e1, rfl, j1, _⟩ := hj.one
      exact J3.cmp (a := .Compare _ [isOp _] [.Constant (.bool _) _ _] _) (je_isB _ _ j1.jo) (jt_isB _ _ j1.jo) (fun _ _ _ z => by cases z)
    · cases h
  · cases h
    obtain ⟨e1, rfl, j1, _⟩ := hj.one
    exact J3.val (je_neg j1.jo) prv rfl
  · split at h
    · rename_i hc
      cases h
      obtain ⟨e1, e2, rfl, j1, j2, _⟩ := hj.two
      exact J3.val (je_idx (ix_D (by omega)) serves_idx j1.jo j2.jo (plain_nsl hc)) prv rfl
    · cases h
  · cases h
    obtain ⟨e1, e2, rfl, j1, j2, _⟩ := hj.two
    exact J3.val (je_slL j1.jo j2.jo) prv rfl
  · cases h
    obtain ⟨e1, e2, rfl, j1, j2, _⟩ := hj.two
    exact J3.val (je_slH j1.jo j2.jo) prv rfl
  · cases h
    obtain ⟨e1, e2, e3, rfl, j1, j2, j3⟩ := hj.three
    cases e2 with
    | chkI e2 => exact J3.val (je_slB j1.jo (j2.jc _ rfl) j3.jo) prv rfl
    | _ => simp [slOk] at hs
  · split at h
    · rename_i hc
      cases h
      cases of_decide_eq_true hc
      obtain ⟨e1, rfl, j1, _⟩ := hj.one
      exact J3.val (je_rev j1.jo) prv rfl
    · cases h
  · split at h
    · rename_i hc
      cases h
      simp only [Bool.and_eq_true, decide_eq_true_eq] at hc
      obtain ⟨⟨⟨⟨rfl, rfl⟩, hT⟩, f1⟩, f2⟩ := hc
      obtain ⟨e1, rfl, j1, hn⟩ := hj.one
      obtain ⟨g1, g2⟩ := fr_ok G f1
      obtain ⟨g3, g4⟩ := fr_ok G f2
      exact J3.val (je_isT hT g1 g2 g3 g4 j1.jo hn) prv rfl
    · cases h
  · split at h
    · rename_i hc
      cases h
      simp only [Bool.and_eq_true, decide_eq_true_eq] at hc
      obtain ⟨⟨rfl, hT⟩, f1⟩ := hc
      obtain ⟨g1, g2⟩ := fr_ok G f1
      obtain ⟨q1, q2⟩ := hj.jos
      exact J3.val (je_blt (blt_ok G.calm hT) g1 g2 q1 q2) prv rfl
    · cases h
  · cases h
theorem je_chkI {e : Ex} {a : Expr} (h : JE X ca W a (evE F e)) : JE X ca W a (evE F (.chkI e)) := PE.imp h fun σ H Q ⟨B, M, o, τ, Fz, s, r, q⟩ => by
  unfold evE at q
  refine ⟨B, M, o, τ, Fz, s, r, q.bnd_.mono (fun x s' q v H' rt => ?_) fun _ _ z => z⟩
  obtain ⟨d, fr⟩ := x
  cases d with
  | int i =>
    have rt1 : RelS X.K B M o τ ((v, D.int i) :: Fz) σ s' H' := rt.one
    exact WPm.ret_ (ok := fun (x : D × Bool) s' => ∀ v H', RelT X.K o τ σ s' H' [(v, x.1, x.2)] B M Fz → Q v H') (ex := fun _ _ => True) q v H' rt1
  | _ => exact q.elim
end
end Vf
namespace Vf
open PySem PySem.Spec PyProof.Rows L2
section
variable {C : Cn} {F : FT} {k : Nat}
theorem cst_ok {X : Cx} {ca : Nat → Addr} {W : WX} {q : Const} {d : D} {n : Nat} {pos : Pos} (h : cstB q d = true) : JE X ca W (.Constant q n pos) (evE F (.cst d)) := by
  have key : ∀ {v : V}, PE X (.Constant q n pos) (tC v) → (∀ P τ H, Rep X.K P τ H v d) → JE X ca W (.Constant q n pos) (evE F (.cst d)) := fun hp hr => PE.imp hp fun σ H Q z => by
    unfold evE at z
    exact tvE_cst hr z
  unfold cstB at h
  split at h
  · cases (of_decide_eq_true h); exact key pe_int fun _ _ _ => .int _
  · cases (of_decide_eq_true h); exact key pe_bl fun _ _ _ => .bl _
  · exact key pe_non fun _ _ _ => .non
  · cases (of_decide_eq_true h); exact key pe_str fun _ _ _ => .str _
  · cases h
theorem fold_nset {e : Expr} {env : Env} (h : nset e = true) : ∀ x : Value, foldedSetIterable e env x = pure x := by
  cases e <;> first | (intro x; rfl) | cases h
mutual
theorem sound_E : ∀ (e : Ex) {c : SC} {X : Cx} {W : WX} (G : Good C F k c X W) {a : Expr}, ckE C c e a = true → J3 X (caK X.K C) W F e a
  | .var i, c, X, W, G, a, h => by
    simp only [ckE] at h
    split at h
    · obtain ⟨h1, h2, h3, h4⟩ := rd_ok G h
      have pv := fun p => pe_var (X := X) (pos := p) h1 h2 h3 h4
      have je : ∀ p, JE X (caK X.K C) W (.Name _ p) (evE F (.var i)) := fun p => PE.imp (pv p) fun σ H Q z => by unfold evE at z; exact tvE_var z
      refine ⟨je _, PE.imp (pv _) fun σ H Q z => tvO_var z, fun _ => jt_val (je _) (fun _ => rfl), (fun _ op es pos e => by cases e), (fun f z => by cases z)⟩
    · cases h
  | .cst d, c, X, W, G, a, h => by
    simp only [ckE] at h
    split at h
    · exact J3.val (cst_ok h) (fun i z => by cases z) rfl
    · cases h
  | .glo x d, c, X, W, G, a, h => by
    simp only [ckE] at h
    split at h
    · simp only [Bool.and_eq_true, decide_eq_true_eq] at h
      obtain ⟨⟨rfl, h2⟩, h3⟩ := h
      obtain ⟨g1, g2⟩ := gl_ok G h2
      unfold conB at h3
      split at h3
      · rename_i d' hl
        have e := sameD_eq h3
        subst e
        obtain ⟨v, u, m1, m2, m3⟩ := G.pf.con _ _ hl
        refine J3.val (PE.imp (pe_glob g1 m1 m2 g2) fun σ H Q z => ?_) (fun i z => by cases z) rfl
        unfold evE at z
        exact tvE_cst m3 z
      · cases h3
    · cases h
  | .prim p es, c, X, W, G, a, h => by
    simp only [ckE] at h
    split at h
    · rename_i as ho
      simp only [Bool.and_eq_true] at h
      exact prim_ok G ho h.1 (sound_Es es G h.2)
    · cases h
  | .chkI e, c, X, W, G, a, h => by
    simp only [ckE] at h
    have j := sound_E e G h
    have jc := je_chkI j.je
    exact ⟨jc, jo_of jc (fun i z => by cases z), (fun z => by simp [tst1] at z), (fun z => by simp [tst1] at z), (fun f z => by cases z; exact j.je)⟩
  | .not e, c, X, W, G, a, h => by
    simp only [ckE] at h
    split at h
    · simp only [Bool.and_eq_true] at h
      have j := sound_E e G h.2
      have je := je_not (pos := ‹Pos›) j.je
      refine ⟨je, jo_of je (fun i z => by cases z), fun _ => ?_, (fun _ op es pos e => by cases e), (fun f z => by cases z)⟩
      have := jt_not (pos := ‹Pos›) (j.jt h.1)
      unfold evE
      exact this
    · cases h
  | .and e f, c, X, W, G, a, h => by
    simp only [ckE] at h
    split at h
    · rename_i a b rest pos
      simp only [Bool.and_eq_true] at h
      obtain ⟨⟨⟨t1, t2⟩, h1⟩, h2⟩ := h
      have j1 := sound_E e G h1
      have hb : JE X (caK X.K C) W (.BoolOp .And (b :: rest) pos) (evE F f) ∧ PW X (.BoolOp .And (b :: rest) pos) (tvT X.K (caK X.K C) W (bnd (evE F f) isB)) := by
        cases rest with
        | nil =>
          have j2 := sound_E f G h2
          exact ⟨pe_one j2.je, pw_and1 (j2.jt t2)⟩
        | cons r rs =>
          have j2 := sound_E f G h2
          exact ⟨j2.je, j2.jw t2 _ _ _ rfl⟩
      have je := je_and j1.je hb.1
      have pw := pw_and' (j1.jt t1) hb.2
      exact ⟨je, jo_of je (fun i z => by cases z), fun _ => pw.pt, fun _ op es pos e => pw, (fun f z => by cases z)⟩
    · cases h
  | .or e f, c, X, W, G, a, h => by
    simp only [ckE] at h
    split at h
    · rename_i a b rest pos
      simp only [Bool.and_eq_true] at h
      obtain ⟨⟨⟨t1, t2⟩, h1⟩, h2⟩ := h
      have j1 := sound_E e G h1
      have hb : JE X (caK X.K C) W (.BoolOp .Or (b :: rest) pos) (evE F f) ∧ PW X (.BoolOp .Or (b :: rest) pos) (tvT X.K (caK X.K C) W (bnd (evE F f) isB)) := by
        cases rest with
        | nil =>
          have j2 := sound_E f G h2
          exact ⟨pe_one j2.je, pw_or1 (j2.jt t2)⟩
        | cons r rs =>
          have j2 := sound_E f G h2
          exact ⟨j2.je, j2.jw t2 _ _ _ rfl⟩
      have je := je_or j1.je hb.1
      have pw := pw_or' (j1.jt t1) hb.2
      exact ⟨je, jo_of je (fun i z => by cases z), fun _ => pw.pt, fun _ op es pos e => pw, (fun f z => by cases z)⟩
    · cases h
  | .ite e f g, c, X, W, G, a, h => by
    simp only [ckE] at h
    split at h
    · simp only [Bool.and_eq_true] at h
      obtain ⟨⟨⟨t1, h1⟩, h2⟩, h3⟩ := h
      have je := je_ite (pos := ‹Pos›) ((sound_E e G h1).jt t1) (sound_E f G h2).je (sound_E g G h3).je
      exact ⟨je, jo_of je (fun i z => by cases z), (fun z => by simp [tst1] at z), (fun z => by simp [tst1] at z), (fun f z => by cases z)⟩
    · cases h
  | .tup es, c, X, W, G, a, h => by
    simp only [ckE] at h
    split at h
    · exact J3.val (je_tup (sound_Es es G h).ja.1) (fun i z => by cases z) rfl
    · cases h
  | .lst es, c, X, W, G, a, h => by
    simp only [ckE] at h
    split at h
    · exact J3.val (je_lst (sound_Es es G h).ja.1) (fun i z => by cases z) rfl
    · cases h
  | .dic t, c, X, W, G, a, h => by
    simp only [ckE] at h
    split at h
    · exact J3.val je_dic (fun i z => by cases z) rfl
    · cases h
  | .call f es, c, X, W, G, a, h => by
    simp only [ckE] at h
    split at h
    · rename_i x p as pos
      simp only [Bool.and_eq_true, decide_eq_true_eq] at h
      obtain ⟨⟨⟨h1, h2⟩, h3⟩, h4⟩ := h
      obtain ⟨g1, g2⟩ := gl_ok G h2
      obtain ⟨fa, fd, ps, q0, q1, q2, q3, q4⟩ := G.pf.fns x f h1
      have hl : es.len = ps.length := by rw [h3] at q0; exact Option.some.inj q0
      have aj := sound_Es es G h4
      refine J3.val ?_ (fun i z => by cases z) rfl
      cases as with
      | nil =>
        cases es with
        | nil => exact je_call0 G.room G.tk g1 q1 q2 q3 q4 hl.symm g2
        | cons _ _ => exact aj.elim
      | cons a as =>
        obtain ⟨k1, k2⟩ := aj.ja
        exact je_call G.room G.tk g1 q1 q2 q3 q4 hl g2 k1 k2
    · cases h
  | .pop i es, c, X, W, G, a, h => by
    simp only [ckE] at h
    split at h
    · rename_i x px m apos as cpos
      simp only [Bool.and_eq_true, decide_eq_true_eq] at h
      obtain ⟨⟨⟨⟨rfl, h2⟩, h3⟩, h4⟩, h5⟩ := h
      obtain ⟨r1, r2, r3, r4⟩ := rd_ok G h2
      have aj := sound_Es es G h5
      refine J3.val ?_ (fun i z => by cases z) rfl
      match es, as, aj, h4 with
      | .nil, [], _, _ => exact je_pop0 r1 r2 r3 r4 h3
      | .nil, _ :: _, aj, _ => exact aj.elim
      | .cons _ _, [], aj, _ => exact aj.elim
      | .cons e .nil, [a], aj, _ => exact je_pop1 r1 r2 r3 r4 h3 aj.2.1.je aj.1
      | .cons e .nil, a :: b :: as, aj, _ => exact aj.2.2.elim
      | .cons e (.cons _ _), _ :: _, _, h4 => simp [Exs.len] at h4
    · cases h
  | .comp own tg it cd e, c, X, W, G, a, h => by
    simp only [ckE] at h
    split at h
    · rename_i elt gens scope pos
      split at h
      · rename_i t i ifs n
        simp only [Bool.and_eq_true, decide_eq_true_eq] at h
        obtain ⟨⟨⟨⟨⟨⟨⟨⟨⟨hn, ho⟩, hb⟩, ht⟩, hto⟩, hs⟩, hi⟩, hc⟩, hcd⟩, he⟩ := h
        subst hn ho
        have ok : BlkOk X.N X.env.scope scope (ownOf c.N scope) := by rw [G.N, G.sc]; exact blkOk_by hb
        have ok' : BlkOk c.N c.sc scope (ownOf c.N scope) := blkOk_by hb
        refine J3.val ?_ (fun i z => by cases z) rfl
        refine je_comp G.calm G.nd (sound_I it G hi) ok (fun s H D cl fp => tg_ok (blk_ok G ok' s H D cl fp) ht) (fun s H D cl fp => ?_) (fun s H D cl fp => (sound_E e (blk_ok G ok' s H D cl fp) he).je) (fold_nset hs) (fun j hj => by simpa using List.all_eq_true.mp hto j hj)
        have aj := sound_Es cd (blk_ok G ok' s H D cl fp) hc
        match cd, ifs, aj, hcd with
        | .nil, [], _, _ => exact ⟨fun pins s σ H Q I q => pts_nil.run pins s σ H Q I (by
            obtain ⟨B, M, o, τ, Fz, s, r, q⟩ := q
            exact WPm.ret_ (ok := fun b s' => ∀ H', RelS _ B M o τ Fz σ s' H' → Q b H') q H r)⟩
        | .nil, _ :: _, aj, _ => exact aj.elim
        | .cons _ _, [], aj, _ => exact aj.elim
        | .cons c0 .nil, [i0], aj, hcd =>
          simp only [ckCd, Bool.and_eq_true] at hcd
          exact pts_one (aj.2.1.jt hcd.1)
        | .cons c0 .nil, _ :: _ :: _, aj, _ => exact aj.2.2.elim
        | .cons _ (.cons _ _), _ :: _, _, hcd => simp [ckCd] at hcd
      · cases h
    · cases h
  | .comp2 own own1 tg it cd tg1 it1 cd1 e, c, X, W, G, a, h => by
    simp only [ckE] at h
    split at h
    · rename_i elt gens scope pos
      split at h
      · rename_i t i ifs n t1 i1 ifs1 n1
        simp only [Bool.and_eq_true, decide_eq_true_eq] at h
        obtain ⟨⟨⟨⟨⟨⟨⟨⟨⟨⟨⟨⟨⟨⟨⟨⟨⟨hn, hn1⟩, ho⟩, hb⟩, ht⟩, hto⟩, ht1⟩, hto1⟩, hoo⟩, hs⟩, hs1⟩, hi⟩, hc⟩, hcd⟩, hi1⟩, hc1⟩, hcd1⟩, he⟩ := h
        subst hn hn1 ho
        have ok : BlkOk X.N X.env.scope scope (ownOf c.N scope) := by rw [G.N, G.sc]; exact blkOk_by hb
        have ok' : BlkOk c.N c.sc scope (ownOf c.N scope) := blkOk_by hb
        refine J3.val ?_ (fun i z => by cases z) rfl
        refine je_comp2 G.calm G.nd (sound_I it G hi) ok (fun s H D cl fp => tg_ok (blk_ok G ok' s H D cl fp) ht) (fun s H D cl fp => ?_) (fun s H D cl fp => sound_I it1 (blk_ok G ok' s H D cl fp) hi1) (fun s H D cl fp => tg_ok (blk_ok G ok' s H D cl fp) ht1) (fun s H D cl fp => ?_) (fun s H D cl fp => (sound_E e (blk_ok G ok' s H D cl fp) he).je) (fold_nset hs) (fun env => fold_nset hs1) (fun j hj => by simpa using List.all_eq_true.mp hto j hj) (fun j hj => by simpa using List.all_eq_true.mp hto1 j hj) (fun j hj => by simpa using List.all_eq_true.mp hoo j hj)
        · skip
          have aj := sound_Es cd (blk_ok G ok' s H D cl fp) hc
          match cd, ifs, aj, hcd with
          | .nil, [], _, _ => exact ⟨fun pins s σ H Q I q => pts_nil.run pins s σ H Q I (by
              obtain ⟨B, M, o, τ, Fz, s, r, q⟩ := q
              exact WPm.ret_ (ok := fun b s' => ∀ H', RelS _ B M o τ Fz σ s' H' → Q b H') q H r)⟩
          | .nil, _ :: _, aj, _ => exact aj.elim
          | .cons _ _, [], aj, _ => exact aj.elim
          | .cons c0 .nil, [i0], aj, hcd =>
            simp only [ckCd, Bool.and_eq_true] at hcd
            exact pts_one (aj.2.1.jt hcd.1)
          | .cons c0 .nil, _ :: _ :: _, aj, _ => exact aj.2.2.elim
          | .cons _ (.cons _ _), _ :: _, _, hcd => simp [ckCd] at hcd
        · skip
          have aj := sound_Es cd1 (blk_ok G ok' s H D cl fp) hc1
          match cd1, ifs1, aj, hcd1 with
          | .nil, [], _, _ => exact ⟨fun pins s σ H Q I q => pts_nil.run pins s σ H Q I (by
              obtain ⟨B, M, o, τ, Fz, s, r, q⟩ := q
              exact WPm.ret_ (ok := fun b s' => ∀ H', RelS _ B M o τ Fz σ s' H' → Q b H') q H r)⟩
          | .nil, _ :: _, aj, _ => exact aj.elim
          | .cons _ _, [], aj, _ => exact aj.elim
          | .cons c0 .nil, [i0], aj, hcd1 =>
            simp only [ckCd, Bool.and_eq_true] at hcd1
            exact pts_one (aj.2.1.jt hcd1.1)
          | .cons c0 .nil, _ :: _ :: _, aj, _ => exact aj.2.2.elim
          | .cons _ (.cons _ _), _ :: _, _, hcd1 => simp [ckCd] at hcd1
      · cases h
    · cases h
  | .sortk e _, c, X, W, G, a, h => by
    simp only [ckE] at h
    split at h
    · simp only [Bool.and_eq_true, decide_eq_true_eq] at h
      obtain ⟨⟨⟨⟨⟨⟨rfl, rfl⟩, h1⟩, h2⟩, h3⟩, h4⟩, h5⟩ := h
      obtain ⟨g1, g2⟩ := fr_ok G h1
      obtain ⟨k1, k2⟩ := gl_ok G h2
      exact J3.val (je_sortk G.room G.calm g1 g2 k1 k2 (G.pf.lenk _ h3) (sound_E e G h5).je h4) (fun i z => by cases z) rfl
    · cases h
theorem sound_Es : ∀ (es : Exs) {c : SC} {X : Cx} {W : WX} (G : Good C F k c X W) {as : List Expr}, ckEs C c es as = true → AllJ X (caK X.K C) W F es as
  | .nil, c, X, W, G, as, h => by
    cases as with
    | nil => trivial
    | cons _ _ => simp [ckEs] at h
  | .cons e es, c, X, W, G, as, h => by
    cases as with
    | nil => simp [ckEs] at h
    | cons a as =>
      simp only [ckEs, Bool.and_eq_true] at h
      exact ⟨h.1.1, sound_E e G h.1.2, sound_Es es G h.2⟩
theorem sound_I : ∀ (it : Vf.It) {c : SC} {X : Cx} {W : WX} (G : Good C F k c X W) {tg a : Expr}, ckI C c it tg a = true → JI X (caK X.K C) W tg a (evIt F it)
  | .ex e, c, X, W, G, tg, a, h => by
    simp only [ckI] at h
    exact ji_ex (sound_E e G h).je
  | .rng1 e, c, X, W, G, tg, a, h => by
    simp only [ckI] at h
    split at h
    · simp only [Bool.and_eq_true, decide_eq_true_eq] at h
      obtain ⟨⟨⟨rfl, h1⟩, h2⟩, h3⟩ := h
      obtain ⟨g1, g2⟩ := fr_ok G h1
      exact ji_rng1 g1 g2 (sound_E e G h3).je h2
    · cases h
  | .rng2 e f, c, X, W, G, tg, a, h => by
    simp only [ckI] at h
    split at h
    · simp only [Bool.and_eq_true, decide_eq_true_eq] at h
      obtain ⟨⟨⟨⟨⟨rfl, h1⟩, h2⟩, h3⟩, h4⟩, h5⟩ := h
      obtain ⟨g1, g2⟩ := fr_ok G h1
      exact ji_rng2 g1 g2 (sound_E e G h4).je (sound_E f G h5).je h2 h3
    · cases h
  | .zip e f, c, X, W, G, tg, a, h => by
    simp only [ckI] at h
    split at h
    · simp only [Bool.and_eq_true, decide_eq_true_eq] at h
      obtain ⟨⟨⟨⟨⟨⟨rfl, h1⟩, ht⟩, h2⟩, h3⟩, h4⟩, h5⟩ := h
      obtain ⟨g1, g2⟩ := fr_ok G h1
      cases tg <;> first
        | exact ji_zip g1 g2 (sound_E e G h4).je (sound_E f G h5).je h2 h3
        | cases ht
    · cases h
  | .enm e, c, X, W, G, tg, a, h => by
    simp only [ckI] at h
    split at h
    · simp only [Bool.and_eq_true, decide_eq_true_eq] at h
      obtain ⟨⟨⟨⟨rfl, h1⟩, ht⟩, h2⟩, h3⟩ := h
      obtain ⟨g1, g2⟩ := fr_ok G h1
      cases tg <;> first
        | exact ji_enm g1 g2 (sound_E e G h3).je h2
        | cases ht
    · cases h
end
end
end Vf
namespace Vf
open PySem PySem.Spec PyProof.Rows L2

def swN (sc : Scope) (line : Nat) (ts : List Expr) : List Str := ts.filterMap fun
  | .Name id pos => if sc.names.lookup id == some .local && pos.line == line then some id else none
  | _ => none
def swT (sc : Scope) (ts vs : List Expr) : Option (Option (List Str)) :=
  if !(ts.length == 2 || ts.length == 3) || vs.length != ts.length || false then some none
  else if vs.any (fun | .Starred .. => true | _ => false) then some none
  else
    let names := swN sc ((ts.head?.map (·.pos.line)).getD 0) ts
    if names.length != ts.length || names.eraseDups.length != names.length then some none
    else if vs.all (foldedForSure 8) then some none
    else if vs.all (constantsAlone 8) then none
    else some (some names)
theorem swT_ok {ts vs : List Expr} {k k2 : Nat} {p p2 : Pos} {env : Env} {r : Option (List Str)} (hk : env.scope.kind = .function) (h : swT env.scope ts vs = some r) : swappedStores [.Tuple ts k p] (.Tuple vs k2 p2) env = pure r := by
  have hb : env.blockKind = .function := by unfold Env.blockKind; rw [hk]; rfl
  have hb2 : (env.blockKind != .function) = false := by rw [hb]; rfl
  unfold swappedStores
  show (if (!(ts.length == 2 || ts.length == 3) || vs.length != ts.length || env.blockKind != .function) = true then pure none else _) = pure r
  rw [hb2]
  unfold swT at h
  split at h
  · rename_i h1
    cases h
    rw [if_pos h1]
  · rename_i h1
    rw [if_neg h1]
    split at h
    · rename_i h2
      cases h
      exact if_pos h2
    · rename_i h2
      refine (if_neg h2).trans ?_
      simp only at h
      split at h
      · rename_i h3
        cases h
        exact if_pos h3
      · rename_i h3
        refine (if_neg h3).trans ?_
        split at h
        · rename_i h4
          cases h
          exact if_pos h4
        · rename_i h4
          refine (if_neg h4).trans ?_
          split at h
          · cases h
          · rename_i h5
            cases h
            exact if_neg h5
theorem sw_ntup {ts : List Expr} {k : Nat} {p : Pos} {a : Expr} {env : Env} (h : isTup a = false) : swappedStores [.Tuple ts k p] a env = pure none := by
  cases a <;> first | rfl | cases h
def ncomp : Expr → Bool
  | .ListComp .. => false
  | .SetComp .. => false
  | .DictComp .. => false
  | _ => true
def nsd : Expr → Bool
  | .SetComp .. => false
  | .DictComp .. => false
  | _ => true
theorem sw_tup {ts : List Expr} {k : Nat} {p : Pos} {a : Expr} {l : Nat} {env : Env} : swapsWithSole [.Tuple ts k p] a l env = pure false := by
  cases a <;> rfl
theorem sw_sub {o i : Expr} {p : Pos} {a : Expr} {l : Nat} {env : Env} : swapsWithSole [.Subscript o i p] a l env = pure false := by
  cases a <;> rfl
theorem sw_none {a : Expr} {l : Nat} {env : Env} (h : ncomp a = true) : swapsWith a none l env = pure false := by
  cases a <;> first | rfl | cases h
def swB (sc : Scope) (a : Expr) (x : Str) (p : Pos) : Bool := match a with
  | .ListComp _ _ s _ => sc.names.lookup x == some .local && p.line == a.pos.line && !(s.names.any fun (n, k) => n == x && (k == .local || k == .cell))
  | _ => false
theorem swB_ok {a : Expr} {x : Str} {p : Pos} {l : Nat} {env : Env} (hn : nsd a = true) (hk : env.scope.kind = .function) : swapsWith a (some (.Name x p)) l env = pure (swB env.scope a x p) := by
  have hb : env.blockKind = .function := by unfold Env.blockKind; rw [hk]; rfl
  cases a with
  | ListComp elt gs scope pos =>
    show (pure (env.blockKind == .function && env.kindOf x == some .local && p.line == (Expr.ListComp elt gs scope pos).pos.line && !(scope.names.any fun (n, k) => n == x && (k == .local || k == .cell))) : Sem Bool) = _
    rw [hb]
    rfl
  | SetComp => cases hn
  | DictComp => cases hn
  | _ => rfl
section
variable {C : Cn} {F : FT} {k : Nat} {c : SC} {X : Cx} {W : WX}
theorem comp_parts (G : Good C F k c X W) {own tg : List Nat} {it : Vf.It} {cd : Exs} {e : Ex} {elt : Expr} {gens : List Comprehension} {scope : Scope} {pos : Pos} (h : ckE C c (.comp own tg it cd e) (.ListComp elt gens scope pos) = true) :
    ∃ t i ifs, gens = [⟨t, i, ifs, 0⟩] ∧ own = (ownOf c.N scope).map (·.2) ∧ JI X (caK X.K C) W t i (evIt F it) ∧ BlkOk X.N X.env.scope scope (ownOf c.N scope) ∧
    (∀ (s : Shared) (H : Hp) (D : Addr) (cl : List (Str × Addr)) (fp : List Addr), PG (X.blk s H scope (compEnvC scope cl D X.env) fp) t (gTg X.K tg)) ∧
    (∀ (s : Shared) (H : Hp) (D : Addr) (cl : List (Str × Addr)) (fp : List Addr), PTs (X.blk s H scope (compEnvC scope cl D X.env) fp) ifs (tvT X.K (caK X.K C) W0 (condM F cd))) ∧
    (∀ (s : Shared) (H : Hp) (D : Addr) (cl : List (Str × Addr)) (fp : List Addr), JE (X.blk s H scope (compEnvC scope cl D X.env) fp) (caK X.K C) W0 elt (evE F e)) ∧
    (∀ x : Value, foldedSetIterable i X.env x = pure x) ∧ ∀ i ∈ tg, i ∈ (ownOf c.N scope).map (·.2) := by
  simp only [ckE] at h
  split at h
  · rename_i t i ifs n
    simp only [Bool.and_eq_true, decide_eq_true_eq] at h
    obtain ⟨⟨⟨⟨⟨⟨⟨⟨⟨hn, ho⟩, hb⟩, ht⟩, hto⟩, hs⟩, hi⟩, hc⟩, hcd⟩, he⟩ := h
    subst hn ho
    have ok : BlkOk X.N X.env.scope scope (ownOf c.N scope) := by rw [G.N, G.sc]; exact blkOk_by hb
    have ok' : BlkOk c.N c.sc scope (ownOf c.N scope) := blkOk_by hb
    refine ⟨t, i, ifs, rfl, rfl, sound_I it G hi, ok, fun s H D cl fp => tg_ok (blk_ok G ok' s H D cl fp) ht, fun s H D cl fp => ?_, fun s H D cl fp => (sound_E e (blk_ok G ok' s H D cl fp) he).je, fold_nset hs, fun j hj => by simpa using List.all_eq_true.mp hto j hj⟩
    have aj := sound_Es cd (blk_ok G ok' s H D cl fp) hc
    match cd, ifs, aj, hcd with
    | .nil, [], _, _ => exact ⟨fun pins s σ H Q I q => pts_nil.run pins s σ H Q I (by
        obtain ⟨B, M, o, τ, Fz, s, r, q⟩ := q
        exact WPm.ret_ (ok := fun b s' => ∀ H', RelS _ B M o τ Fz σ s' H' → Q b H') q H r)⟩
    | .nil, _ :: _, aj, _ => exact aj.elim
    | .cons _ _, [], aj, _ => exact aj.elim
    | .cons c0 .nil, [i0], aj, hcd =>
      simp only [ckCd, Bool.and_eq_true] at hcd
      exact pts_one (aj.2.1.jt hcd.1)
    | .cons c0 .nil, _ :: _ :: _, aj, _ => exact aj.2.2.elim
    | .cons _ (.cons _ _), _ :: _, _, hcd => simp [ckCd] at hcd
  · cases h
theorem comp_parts2 (G : Good C F k c X W) {own own1 tg tg1 : List Nat} {it it1 : Vf.It} {cd cd1 : Exs} {e : Ex} {elt : Expr} {gens : List Comprehension} {scope : Scope} {pos : Pos} (h : ckE C c (.comp2 own own1 tg it cd tg1 it1 cd1 e) (.ListComp elt gens scope pos) = true) :
    ∃ t i ifs t1 i1 ifs1, gens = [⟨t, i, ifs, 0⟩, ⟨t1, i1, ifs1, 0⟩] ∧ own = (ownOf c.N scope).map (·.2) ∧ JI X (caK X.K C) W t i (evIt F it) ∧ BlkOk X.N X.env.scope scope (ownOf c.N scope) ∧
    (∀ (s : Shared) (H : Hp) (D : Addr) (cl : List (Str × Addr)) (fp : List Addr), PG (X.blk s H scope (compEnvC scope cl D X.env) fp) t (gTg X.K tg)) ∧
    (∀ (s : Shared) (H : Hp) (D : Addr) (cl : List (Str × Addr)) (fp : List Addr), PTs (X.blk s H scope (compEnvC scope cl D X.env) fp) ifs (tvT X.K (caK X.K C) W0 (condM F cd))) ∧
    (∀ (s : Shared) (H : Hp) (D : Addr) (cl : List (Str × Addr)) (fp : List Addr), JI (X.blk s H scope (compEnvC scope cl D X.env) fp) (caK X.K C) W0 t1 i1 (evIt F it1)) ∧
    (∀ (s : Shared) (H : Hp) (D : Addr) (cl : List (Str × Addr)) (fp : List Addr), PG (X.blk s H scope (compEnvC scope cl D X.env) fp) t1 (gTg X.K tg1)) ∧
    (∀ (s : Shared) (H : Hp) (D : Addr) (cl : List (Str × Addr)) (fp : List Addr), PTs (X.blk s H scope (compEnvC scope cl D X.env) fp) ifs1 (tvT X.K (caK X.K C) W0 (condM F cd1))) ∧
    (∀ (s : Shared) (H : Hp) (D : Addr) (cl : List (Str × Addr)) (fp : List Addr), JE (X.blk s H scope (compEnvC scope cl D X.env) fp) (caK X.K C) W0 elt (evE F e)) ∧
    (∀ x : Value, foldedSetIterable i X.env x = pure x) ∧ (∀ env (x : Value), foldedSetIterable i1 env x = pure x) ∧ (∀ i ∈ tg, i ∈ (ownOf c.N scope).map (·.2)) ∧ (∀ i ∈ tg1, i ∈ own1) ∧ (∀ i ∈ own1, i ∈ (ownOf c.N scope).map (·.2)) := by
  simp only [ckE] at h
  split at h
  · rename_i t i ifs n t1 i1 ifs1 n1
    simp only [Bool.and_eq_true, decide_eq_true_eq] at h
    obtain ⟨⟨⟨⟨⟨⟨⟨⟨⟨⟨⟨⟨⟨⟨⟨⟨⟨hn, hn1⟩, ho⟩, hb⟩, ht⟩, hto⟩, ht1⟩, hto1⟩, hoo⟩, hs⟩, hs1⟩, hi⟩, hc⟩, hcd⟩, hi1⟩, hc1⟩, hcd1⟩, he⟩ := h
    subst hn hn1 ho
    have ok : BlkOk X.N X.env.scope scope (ownOf c.N scope) := by rw [G.N, G.sc]; exact blkOk_by hb
    have ok' : BlkOk c.N c.sc scope (ownOf c.N scope) := blkOk_by hb
    refine ⟨t, i, ifs, t1, i1, ifs1, rfl, rfl, sound_I it G hi, ok, fun s H D cl fp => tg_ok (blk_ok G ok' s H D cl fp) ht, fun s H D cl fp => ?_, fun s H D cl fp => sound_I it1 (blk_ok G ok' s H D cl fp) hi1, fun s H D cl fp => tg_ok (blk_ok G ok' s H D cl fp) ht1, fun s H D cl fp => ?_, fun s H D cl fp => (sound_E e (blk_ok G ok' s H D cl fp) he).je, fold_nset hs, fun env => fold_nset hs1, fun j hj => by simpa using List.all_eq_true.mp hto j hj, fun j hj => by simpa using List.all_eq_true.mp hto1 j hj, fun j hj => by simpa using List.all_eq_true.mp hoo j hj⟩
    · skip
      have aj := sound_Es cd (blk_ok G ok' s H D cl fp) hc
      match cd, ifs, aj, hcd with
      | .nil, [], _, _ => exact ⟨fun pins s σ H Q I q => pts_nil.run pins s σ H Q I (by
          obtain ⟨B, M, o, τ, Fz, s, r, q⟩ := q
          exact WPm.ret_ (ok := fun b s' => ∀ H', RelS _ B M o τ Fz σ s' H' → Q b H') q H r)⟩
      | .nil, _ :: _, aj, _ => exact aj.elim
      | .cons _ _, [], aj, _ => exact aj.elim
      | .cons c0 .nil, [i0], aj, hcd =>
        simp only [ckCd, Bool.and_eq_true] at hcd
        exact pts_one (aj.2.1.jt hcd.1)
      | .cons c0 .nil, _ :: _ :: _, aj, _ => exact aj.2.2.elim
      | .cons _ (.cons _ _), _ :: _, _, hcd => simp [ckCd] at hcd
    · skip
      have aj := sound_Es cd1 (blk_ok G ok' s H D cl fp) hc1
      match cd1, ifs1, aj, hcd1 with
      | .nil, [], _, _ => exact ⟨fun pins s σ H Q I q => pts_nil.run pins s σ H Q I (by
          obtain ⟨B, M, o, τ, Fz, s, r, q⟩ := q
          exact WPm.ret_ (ok := fun b s' => ∀ H', RelS _ B M o τ Fz σ s' H' → Q b H') q H r)⟩
      | .nil, _ :: _, aj, _ => exact aj.elim
      | .cons _ _, [], aj, _ => exact aj.elim
      | .cons c0 .nil, [i0], aj, hcd1 =>
        simp only [ckCd, Bool.and_eq_true] at hcd1
        exact pts_one (aj.2.1.jt hcd1.1)
      | .cons c0 .nil, _ :: _ :: _, aj, _ => exact aj.2.2.elim
      | .cons _ (.cons _ _), _ :: _, _, hcd1 => simp [ckCd] at hcd1
  · cases h
end
def cstD : Const → Option D
  | .int i => some (.int i) | .bool i => some (.bl i) | .none => some .non | .str i => some (.str i) | _ => none
def cstV : Const → V
  | .int i => .int i | .bool i => .bl i | .none => .non | .str i => .str i | _ => .non
theorem cstD_ok {q : Const} {d : D} (h : cstD q = some d) : (∀ (X : Cx) (n : Nat) (pos : Pos), PE X (.Constant q n pos) (tC (cstV q))) ∧ ∀ K P τ H, Rep K P τ H (cstV q) d := by
  cases q <;> simp [cstD] at h <;> subst h
  · exact ⟨fun _ _ _ => pe_non, fun _ _ _ _ => .non⟩
  · exact ⟨fun _ _ _ => pe_bl, fun _ _ _ _ => .bl _⟩
  · exact ⟨fun _ _ _ => pe_int, fun _ _ _ _ => .int _⟩
  · exact ⟨fun _ _ _ => pe_str, fun _ _ _ _ => .str _⟩
def clsIx (C : Cn) (x : Str) : Option Nat := (List.range C.cls.length).find? fun j => decide (C.cls[j]? = some x)
theorem clsIx_ok {C : Cn} {x : Str} {j : Nat} (h : clsIx C x = some j) : C.cls[j]? = some x := by
  have := List.find?_some h
  simpa using this
def hdsL (C : Cn) (c : SC) : List ExceptHandler → Option (List (Nat × D))
  | [] => some []
  | .ExceptHandler (some (.Name x _)) none [.Return (some (.Constant q _ _)) _] _ :: hs => if glB c x then (match clsIx C x, cstD q, hdsL C c hs with
    | some j, some d, some r => some ((j, d) :: r)
    | _, _, _ => none) else none
  | _ => none
def hdl (C : Cn) (i : Nat) : List (Nat × D) → Option D
  | [] => none
  | (j, d) :: r => if C.exm i j then some d else hdl C i r
section
variable {C : Cn} {F : FT} {k : Nat} {c : SC} {X : Cx} {W : WX}
theorem hds_ok (G : Good C F k c X W) : ∀ {hs : List ExceptHandler} {l : List (Nat × D)}, hdsL C c hs = some l → ∃ L, HdsOk X hs L ∧
    ∀ (D : Ends) (i : Nat) (σ : L2.St) (H : Hp) (y : Str), C.cls[i]? = some y → (match hdl C i l with
      | some d => ∀ v, (∀ K P τ H, Rep K P τ H v d) → D.rt v H
      | none => W (.ref (caK X.K C i)) none σ H) → wMany X.K W D L (.ref (caK X.K C i)) none σ H
  | [], l, h => by
    simp only [hdsL, Option.some.injEq] at h
    subst h
    exact ⟨[], .nil, fun D i σ H y hy h => h⟩
  | h0 :: hs, l, h => by
    unfold hdsL at h
    split at h
    · rename_i e; cases e
    · rename_i x np q n p1 p2 p3 hs' e
      cases e
      split at h
      · rename_i hg
        split at h
        · rename_i j d r e1 e2 e3
          cases h
          obtain ⟨L, h1, h2⟩ := hds_ok G e3
          obtain ⟨g1, g2⟩ := gl_ok G hg
          obtain ⟨hv, hr⟩ := cstD_ok e2
          have hx := clsIx_ok e1
          obtain ⟨bmB, B, ni, ii, FB, q1, gC, kC, r1, r2⟩ := G.pf.cls j x hx
          refine ⟨(.ref (caK X.K C j), fun _ _ _ => tRet (tC (cstV q))) :: L, .cons ⟨g1, g2, .inl gC⟩ (fun a oe cls d' pn hz ho => pss_one (ps_ret (hv _ _ _))) h1, fun D i σ H y hy h => ?_⟩
          refine ⟨C.exm i j, G.pf.exm i j y x hy hx, fun hb a ha => ?_, fun hb => ?_⟩
          · unfold hdl at h
            rw [if_pos hb] at h
            exact h (cstV q) hr
          · unfold hdl at h
            rw [if_neg (by rw [hb]; exact Bool.false_ne_true)] at h
            exact h2 D i σ H y hy h
        · cases h
      · cases h
    · cases h
theorem js_try {e : Ex} {r : Bool} {hs : List (Nat × Option D)} {l : List (Nat × D)} {body : Stmt} {h₀ : ExceptHandler} {hds : List ExceptHandler} {pos : Pos} (G : Good C F k c X W) (hst : X.stack = X.env :: X.outer) (hf : X.env.frame = some X.env.locals)
    (hb : ∀ (W' : WX) (pn : List (Addr × Obj)) (xe : Value → Shared → Prop), Takes (X.tr pn xe) W' → PassesOwn (model X.prog X.w) X.A X.env xe → JS (X.tr pn xe) (caK X.K C) W' body (bnd (evE F e) fun x => ret (if r then .rt x.1 x.2 else .nx)))
    (hh : hdsL C c (h₀ :: hds) = some l) (hl : ∀ i x, hs.lookup i = some x → i < C.cls.length ∧ x = hdl C i l) :
    JS X (caK X.K C) W (.Try [body] (h₀ :: hds) [] [] pos) (evS F (.try_ e r hs)) := by
  obtain ⟨L, h1, h2⟩ := hds_ok G hh
  refine PS.imp (ps_try_many (tb := fun W' => tvS X.K (caK X.K C) W' (bnd (evE F e) fun x => ret (if r then .rt x.1 x.2 else .nx))) hst hf G.tk (fun W' pn xe tk po => pss_one (hb W' pn xe tk po)) h1) fun E σ H ⟨B, M, o, τ, Fz, s, rr, h⟩ => ?_
  unfold evS at h
  unfold WPm at h
  refine ⟨B, M, o, τ, Fz, s, rr, ?_⟩
  unfold WPm bnd
  cases q : evE F e s with
  | stuck => simp only [q] at h
  | ok x s' =>
    simp only [q] at h
    cases r with
    | true => exact h
    | false => exact h
  | exc i s' =>
    simp only [q] at h
    cases q3 : hs.lookup i with
    | none => simp only [q3] at h
    | some y =>
      obtain ⟨hi, hy⟩ := hl i y q3
      intro o' σ' H' r'
      refine h2 E i σ' H' (C.cls[i]) (by simp [hi]) ?_
      rw [← hy]
      cases y with
      | some d =>
        simp only [q3] at h
        have h : okS X.K B M τ Fz E (.rt d false) s' := h
        exact fun v hr => h v o' σ' H' (r'.more1 (hr _ _ _ _))
      | none =>
        simp only [q3] at h
        exact h o' σ' H' r'
end
end Vf
namespace Vf
open PySem PySem.Spec PyProof.Rows L2

def sameO : Option D → Option D → Bool
  | none, none => true
  | some a, some b => sameD a b
  | _, _ => false
theorem sameO_eq {a b : Option D} (h : sameO a b = true) : a = b := by
  cases a <;> cases b <;> simp [sameO] at h
  · rfl
  · rw [sameD_eq h]
def hsB (C : Cn) (l : List (Nat × D)) (hs : List (Nat × Option D)) : Bool := hs.all fun p => decide (p.1 < C.cls.length) && sameO p.2 (hdl C p.1 l)
theorem lookup_mem {β : Type} : ∀ {l : List (Nat × β)} {i : Nat} {x : β}, l.lookup i = some x → (i, x) ∈ l
  | [], _, _, h => by cases h
  | (j, y) :: r, i, x, h => by
    rw [List.lookup_cons] at h
    by_cases e : i = j
    · subst e
      simp at h
      subst h
      exact List.mem_cons_self
    · have e' : (i == j) = false := by simpa using e
      rw [e'] at h
      exact List.mem_cons_of_mem _ (lookup_mem h)
theorem hsB_ok {C : Cn} {l : List (Nat × D)} {hs : List (Nat × Option D)} (h : hsB C l hs = true) : ∀ i x, hs.lookup i = some x → i < C.cls.length ∧ x = hdl C i l := fun i x e => by
  have := List.all_eq_true.mp h _ (lookup_mem e)
  simp only [Bool.and_eq_true, decide_eq_true_eq] at this
  exact ⟨this.1, sameO_eq this.2⟩
def locX (c : SC) (x : Str) : Bool := decide (c.sc.names.lookup x = some .local)
def isVar : Ex → Bool
  | .var _ => true
  | _ => false
mutual
def ckS (C : Cn) (c : SC) : Sx → Stmt → Bool
  | .set i e, st => match st with
    | .Assign [.Name x p] a _ => wrB c x i && nsd a && ckE C c e a && (if swB c.sc a x p then locX c x && (match e with
      | .comp .. => true
      | .comp2 .. => true
      | _ => false) else true)
    | _ => false
  | .unp is e, st => match st with
    | .Assign [.Tuple ts _ _] a _ => namesB c is ts && ckE C c e a && (match a with
      | .Tuple vs _ _ => (match swT c.sc ts vs with
        | some none => true
        | _ => false)
      | _ => true)
    | _ => false
  | .par is es, st => match st with
    | .Assign [.Tuple ts _ _] (.Tuple vs _ _) _ => (match is, ts, vs with
      | [i, j], [.Name x _, .Name y _], [_, _] => wrB c x i && wrB c y j && decide (i ≠ j) && locX c x && locX c y && decide (swT c.sc ts vs = some (some [x, y]))
      | [i, j, l], [.Name x _, .Name y _, .Name z _], [_, _, _] => wrB c x i && wrB c y j && wrB c z l && decide (i ≠ j) && decide (i ≠ l) && decide (j ≠ l) && locX c x && locX c y && locX c z && decide (swT c.sc ts vs = some (some [x, y, z]))
      | _, _, _ => false) && ckEs C c es vs
    | _ => false
  | .aug i op e, st => match st with
    | .AugAssign (.Name x _) op' a _ => decide (op' = op) && wrB c x i && ckE C c e a
    | _ => false
  | .put i k e, st => match st with
    | .Assign [.Subscript (.Name x _) kk _] a _ => rdB c x i && nsl kk && ckE C c k kk && ckE C c e a
    | _ => false
  | .augk i k op e, st => match st with
    | .AugAssign (.Subscript (.Name x _) kk _) op' a _ => decide (op' = op) && rdB c x i && nsl kk && ckE C c k kk && ckE C c e a
    | _ => false
  | .app i e, st => match st with
    | .Expr (.Call (.Attribute (.Name x _) m apos) [a] [] cpos) _ => decide (m = ("append" : Str)) && rdB c x i && (apos.endLine == cpos.line) && nst a && ckE C c e a
    | _ => false
  | .ext i e, st => match st with
    | .AugAssign (.Name x _) .Add a _ => wrB c x i && ckE C c e a
    | .Expr (.Call (.Attribute (.Name x _) m apos) [a] [] cpos) _ => decide (m = ("extend" : Str)) && rdB c x i && (apos.endLine == cpos.line) && nst a && ckE C c e a
    | _ => false
  | .ite e xs ys, st => match st with
    | .If t a b _ => tst1 e && ckE C c e t && ckSs C c xs a && ckSs C c ys b
    | _ => false
  | .for_ tg it xs, st => match st with
    | .For t i b [] _ => tgB c tg t && nset i && ckI C c it t i && ckSs C c xs b
    | _ => false
  | .while_ e xs, st => match st with
    | .While t b [] _ => tst1 e && ckE C c e t && ckSs C c xs b
    | _ => false
  | .ret e, st => match st with
    | .Return (some a) _ => ckE C c e a
    | .Return none _ => (match e with
      | .cst .non => true
      | _ => false)
    | _ => false
  | .raise i, st => match st with
    | .Raise (some (.Call (.Name x _) [] [] _)) none _ => decide (C.cls[i]? = some x) && glB c x
    | _ => false
  | .expr e, st => match st with
    | .Expr a _ => ncomp a && ckE C c e a
    | _ => false
  | .pass, st => match st with
    | .Pass _ => true
    | _ => false
  | .try_ e r hs, st => match st with
    | .Try [b] (h₀ :: hds) [] [] _ => (match hdsL C c (h₀ :: hds) with
      | some l => hsB C l hs && (match r, b with
        | true, .Return (some a) _ => !isVar e && ckE C c e a
        | false, .Expr a _ => ncomp a && ckE C c e a
        | _, _ => false)
      | none => false)
    | _ => false
def ckSs (C : Cn) (c : SC) : Sxs → List Stmt → Bool
  | .nil, sts => sts.isEmpty
  | .cons x xs, sts => match sts with
    | st :: sts => ckS C c x st && ckSs C c xs sts
    | [] => false
end
structure GoodS (C : Cn) (F : FT) (k : Nat) (c : SC) (X : Cx) (W : WX) : Prop extends Good C F k c X W where
  kind : c.sc.kind = .function
  po : PassesOwn (model X.prog X.w) X.A X.env X.xe
  hst : X.stack = X.env :: X.outer
  hf : X.env.frame = some X.env.locals
section
variable {C : Cn} {F : FT} {k : Nat} {c : SC} {X : Cx} {W : WX}
theorem loc_of (G : Good C F k c X W) {x : Str} (h : locX c x = true) : X.env.scope.names.lookup x = some .local := by
  unfold locX at h
  rw [G.sc]; simpa using h
mutual
theorem sound_S : ∀ (s : Sx) {c : SC} {X : Cx} {W : WX} (G : GoodS C F k c X W) {st : Stmt}, ckS C c s st = true → JS X (caK X.K C) W st (evS F s)
  | .set i e, c, X, W, G, st, h => by
    simp only [ckS] at h
    split at h
    · rename_i x p a pos
      simp only [Bool.and_eq_true] at h
      obtain ⟨⟨⟨h1, h2⟩, h3⟩, h4⟩ := h
      obtain ⟨w1, w2, w3⟩ := wr_ok G.toGood h1
      have hk : X.env.scope.kind = .function := by rw [G.sc]; exact G.kind
      have hsw := swB_ok (a := a) (x := x) (p := p) (l := pos.line) (env := X.env) h2 hk
      rw [G.sc] at hsw
      cases hb : swB c.sc a x p with
      | false =>
        rw [hb] at hsw
        exact js_set G.nd w1 w2 w3 (sound_E e G.toGood h3).je hsw
      | true =>
        rw [hb] at hsw
        rw [hb] at h4
        simp only [if_true, Bool.and_eq_true] at h4
        obtain ⟨h5, h6⟩ := h4
        cases a with
        | ListComp elt gens scope pos2 =>
          cases e with
          | comp own tg it cd e =>
            obtain ⟨t, i2, ifs, rfl, rfl, p1, p2, p3, p4, p5, p6, p7⟩ := comp_parts G.toGood h3
            exact js_setLc G.calm G.nd w1 (loc_of G.toGood h5) hsw p1 p2 p3 p4 p5 p6 p7
          | comp2 own own1 tg it cd tg1 it1 cd1 e =>
            obtain ⟨t, i2, ifs, t1, i1, ifs1, rfl, rfl, p1, p2, p3, p4, p5, p6, p7, p8, p9, p10, p11, p12, p13⟩ := comp_parts2 G.toGood h3
            exact js_setLc2 G.calm G.nd w1 (loc_of G.toGood h5) hsw p1 p2 p3 p4 p5 p6 p7 p8 p9 p10 p11 p12 p13
          | _ => cases h6
        | _ => simp [swB] at hb
    · cases h
  | .unp is e, c, X, W, G, st, h => by
    simp only [ckS] at h
    split at h
    · rename_i ts n p a pos
      simp only [Bool.and_eq_true] at h
      obtain ⟨⟨h1, h2⟩, h3⟩ := h
      obtain ⟨g1, g2, g3⟩ := pgs_of G.toGood h1
      have hk : X.env.scope.kind = .function := by rw [G.sc]; exact G.kind
      refine js_unp (pg_tup G.calm g1 g2 g3) (sound_E e G.toGood h2).je sw_tup ?_ rfl
      cases hp : isTup a with
      | false => exact sw_ntup hp
      | true =>
        cases a with
        | Tuple vs n2 p2 =>
          simp only at h3
          split at h3
          · rename_i hs
            exact swT_ok hk (by rw [G.sc]; exact hs)
          · cases h3
        | _ => cases hp
    · cases h
  | .par is es, c, X, W, G, st, h => by
    simp only [ckS] at h
    split at h
    · rename_i ts n p vs n2 p2 pos
      simp only [Bool.and_eq_true] at h
      obtain ⟨h1, h2⟩ := h
      have hk : X.env.scope.kind = .function := by rw [G.sc]; exact G.kind
      have aj := (sound_Es es G.toGood h2).ja.1
      split at h1
      · simp only [Bool.and_eq_true, decide_eq_true_eq] at h1
        obtain ⟨⟨⟨⟨⟨q1, q2⟩, q3⟩, q4⟩, q5⟩, q6⟩ := h1
        obtain ⟨w1, w2, w3⟩ := wr_ok G.toGood q1
        obtain ⟨u1, u2, u3⟩ := wr_ok G.toGood q2
        exact js_par2 G.calm G.nd w1 u1 q3 (loc_of G.toGood q4) (loc_of G.toGood q5) aj (swT_ok hk (by rw [G.sc]; exact q6))
      · simp only [Bool.and_eq_true, decide_eq_true_eq] at h1
        obtain ⟨⟨⟨⟨⟨⟨⟨⟨⟨q1, q2⟩, q3⟩, q4⟩, q5⟩, q6⟩, q7⟩, q8⟩, q9⟩, q10⟩ := h1
        obtain ⟨w1, w2, w3⟩ := wr_ok G.toGood q1
        obtain ⟨u1, u2, u3⟩ := wr_ok G.toGood q2
        obtain ⟨v1, v2, v3⟩ := wr_ok G.toGood q3
        exact js_par3 G.calm G.nd w1 u1 v1 q4 q5 q6 (loc_of G.toGood q7) (loc_of G.toGood q8) (loc_of G.toGood q9) aj (swT_ok hk (by rw [G.sc]; exact q10))
      · cases h1
    · cases h
  | .aug i op e, c, X, W, G, st, h => by
    simp only [ckS] at h
    split at h
    · simp only [Bool.and_eq_true, decide_eq_true_eq] at h
      obtain ⟨⟨rfl, h1⟩, h2⟩ := h
      obtain ⟨w1, w2, w3⟩ := wr_ok G.toGood h1
      exact js_aug G.nd w1 w2 w3 (sound_E e G.toGood h2).je
    · cases h
  | .put i kx e, c, X, W, G, st, h => by
    simp only [ckS] at h
    split at h
    · simp only [Bool.and_eq_true] at h
      obtain ⟨⟨⟨h1, h2⟩, h3⟩, h4⟩ := h
      obtain ⟨r1, r2, r3, r4⟩ := rd_ok G.toGood h1
      have := G.room.un
      exact js_put (by omega) r1 r2 r3 r4 (sound_E kx G.toGood h3).je (sound_E e G.toGood h4).je h2 sw_sub rfl
    · cases h
  | .augk i kx op e, c, X, W, G, st, h => by
    simp only [ckS] at h
    split at h
    · simp only [Bool.and_eq_true, decide_eq_true_eq] at h
      obtain ⟨⟨⟨⟨rfl, h1⟩, h2⟩, h3⟩, h4⟩ := h
      obtain ⟨r1, r2, r3, r4⟩ := rd_ok G.toGood h1
      have := G.room.un
      exact js_augk (by omega) r1 r2 r3 r4 (sound_E kx G.toGood h3).je (sound_E e G.toGood h4).je h2
    · cases h
  | .app i e, c, X, W, G, st, h => by
    simp only [ckS] at h
    split at h
    · simp only [Bool.and_eq_true, decide_eq_true_eq] at h
      obtain ⟨⟨⟨⟨rfl, h1⟩, h2⟩, h3⟩, h4⟩ := h
      obtain ⟨r1, r2, r3, r4⟩ := rd_ok G.toGood h1
      exact js_app r1 r2 r3 r4 h2 (sound_E e G.toGood h4).je h3
    · cases h
  | .ext i e, c, X, W, G, st, h => by
    simp only [ckS] at h
    split at h
    · simp only [Bool.and_eq_true] at h
      obtain ⟨w1, w2, w3⟩ := wr_ok G.toGood h.1
      exact js_ext G.nd w1 w2 w3 (sound_E e G.toGood h.2).je
    · simp only [Bool.and_eq_true, decide_eq_true_eq] at h
      obtain ⟨⟨⟨⟨rfl, h1⟩, h2⟩, h3⟩, h4⟩ := h
      obtain ⟨r1, r2, r3, r4⟩ := rd_ok G.toGood h1
      exact js_extm r1 r2 r3 r4 h2 (sound_E e G.toGood h4).je h3
    · cases h
  | .ite e xs ys, c, X, W, G, st, h => by
    simp only [ckS] at h
    split at h
    · simp only [Bool.and_eq_true] at h
      obtain ⟨⟨⟨h1, h2⟩, h3⟩, h4⟩ := h
      exact js_if ((sound_E e G.toGood h2).jt h1) (sound_Ss xs G h3) (sound_Ss ys G h4)
    · cases h
  | .for_ tg it xs, c, X, W, G, st, h => by
    simp only [ckS] at h
    split at h
    · simp only [Bool.and_eq_true] at h
      obtain ⟨⟨⟨h1, h2⟩, h3⟩, h4⟩ := h
      exact js_for G.po G.calm (sound_I it G.toGood h3) (tg_ok G.toGood h1) (sound_Ss xs G h4) (fold_nset h2)
    · cases h
  | .while_ e xs, c, X, W, G, st, h => by
    simp only [ckS] at h
    split at h
    · simp only [Bool.and_eq_true] at h
      obtain ⟨⟨h1, h2⟩, h3⟩ := h
      exact js_while G.po ((sound_E e G.toGood h2).jt h1) (sound_Ss xs G h3)
    · cases h
  | .ret e, c, X, W, G, st, h => by
    simp only [ckS] at h
    split at h
    · rename_i a pos
      by_cases hv : ∃ i, e = .var i
      · obtain ⟨i, rfl⟩ := hv
        simp only [ckE] at h
        split at h
        · obtain ⟨r1, r2, r3, r4⟩ := rd_ok G.toGood h
          exact js_retV (pe_var r1 r2 r3 r4)
        · cases h
      · have hv : ∀ i, e ≠ .var i := fun i z => hv ⟨i, z⟩
        rw [evS_ret hv]
        exact js_retE (sound_E e G.toGood h).je
    · split at h
      · exact js_retN
      · cases h
    · cases h
  | .raise i, c, X, W, G, st, h => by
    simp only [ckS] at h
    split at h
    · simp only [Bool.and_eq_true, decide_eq_true_eq] at h
      obtain ⟨g1, g2⟩ := gl_ok G.toGood h.2
      exact js_raise G.calm G.tk (G.pf.cls i _ h.1) g1 g2
    · cases h
  | .expr e, c, X, W, G, st, h => by
    simp only [ckS] at h
    split at h
    · simp only [Bool.and_eq_true] at h
      exact js_expr (sound_E e G.toGood h.2).je (sw_none h.1)
    · cases h
  | .pass, c, X, W, G, st, h => by
    simp only [ckS] at h
    split at h
    · exact js_pass
    · cases h
  | .try_ e r hs, c, X, W, G, st, h => by
    simp only [ckS] at h
    split at h
    · rename_i b h₀ hds pos
      split at h
      · rename_i l hl
        simp only [Bool.and_eq_true] at h
        obtain ⟨h1, h2⟩ := h
        refine js_try G.toGood G.hst G.hf (fun W' pn xe tk po => ?_) hl (hsB_ok h1)
        have G' : Good C F k c (X.tr pn xe) W' := ⟨G.N, G.nd, G.sc, G.wr, G.calm, G.room, tk, G.pf⟩
        split at h2
        · simp only [Bool.and_eq_true] at h2
          have := js_retE (pos := ‹Pos›) (sound_E e G' h2.2).je
          simpa using this
        · simp only [Bool.and_eq_true] at h2
          have := js_expr (F := F) (e := e) (pos := ‹Pos›) (sound_E e G' h2.2).je (sw_none h2.1)
          simpa [evS] using this
        · cases h2
      · cases h
    · cases h
theorem sound_Ss : ∀ (s : Sxs) {c : SC} {X : Cx} {W : WX} (G : GoodS C F k c X W) {st : List Stmt}, ckSs C c s st = true → JSs X (caK X.K C) W st (evSs F s)
  | .nil, c, X, W, G, st, h => by
    cases st with
    | nil => exact jss_nil
    | cons _ _ => simp [ckSs] at h
  | .cons x xs, c, X, W, G, st, h => by
    cases st with
    | nil => simp [ckSs] at h
    | cons s st =>
      simp only [ckSs, Bool.and_eq_true] at h
      exact jss_cons (sound_S x G h.1) (sound_Ss xs G h.2)
end
end
end Vf
namespace Vf
open PySem PySem.Spec PyProof.Rows L2

section
variable {K : PySem.W.Frag} {B : Hp} {M : AP} {o : Nat → Addr} {τ : TA2} {Fz : List (V × D)} {σ : L2.St} {s : S} {H : Hp}
theorem RelS.strip (r : RelS K B M o τ Fz σ s H) (o' : Nat → Addr) : RelS K B M o' τ Fz [] ⟨[], s.T⟩ H := by
  have hp : ∀ b, Prt M o' τ ⟨[], s.T⟩ b → Prt M o τ s b := by
    rintro b (z | z | ⟨i, d, w, _⟩)
    · exact .inl z
    · exact .inr (.inl z)
    · cases w
  have mo := Mo.same (H := H) hp
  exact ⟨rfl, r.keep, fun p q => (r.fz p q).mo mo, (fun i d w => by cases w), (fun i d w => by cases w), (fun i j d e w => by cases w), ⟨r.tp.no, r.tp.at_⟩, r.mt⟩
theorem RelT.strip {v : V} {d : D} {fr : Bool} (h : RelT K o τ σ s H [(v, d, fr)] B M Fz) (o' : Nat → Addr) : RelT K o' τ [] ⟨[], s.T⟩ H [(v, d, fr)] B M Fz := by
  cases fr with
  | false => exact RelS.strip h o'
  | true =>
    obtain ⟨a, u, cs, e, hb, ht, hm, c, r⟩ := h
    exact ⟨a, u, cs, e, hb, ht, hm, c, RelS.strip r o'⟩
theorem start_lk {ds : List D} {n : Nat} {T : Vf.TP} {i : Nat} : lk (startS n ds T) i = (ds[i]?).map fun d => (false, d) := by
  unfold lk startS
  simp only
  by_cases h : i < ds.length
  · rw [List.getElem?_append_left (by simpa using h), List.getElem?_map]
    cases ds[i]? <;> rfl
  · rw [List.getElem?_append_right (by simpa using h), List.getElem?_eq_none (by omega : ds.length ≤ i)]
    simp only [List.getElem?_replicate]
    split <;> rfl
theorem RelS.enter {vs : List V} {ds : List D} {T : Vf.TP} {N : List Str} {o' : Nat → Addr} (r : RelS K B M o τ (vs.zip ds) [] ⟨[], T⟩ H) (hl : vs.length = ds.length) (hn : ds.length ≤ N.length) : RelS K B M o' τ (vs.zip ds) (L2.start N vs) (startS N.length ds T) H := by
  have no : ∀ {i d}, ¬ Own (startS N.length ds T) i d := fun {i d} w => by
    unfold Own at w
    rw [start_lk] at w
    cases q : ds[i]? with
    | none => rw [q] at w; cases w
    | some x => rw [q] at w; cases w
  have hp : ∀ b, Prt M o' τ (startS N.length ds T) b → Prt M o τ ⟨[], T⟩ b := by
    rintro b (z | z | ⟨i, d, w, _⟩)
    · exact .inl z
    · exact .inr (.inl z)
    · exact absurd w no
  have mo := Mo.same (H := H) hp
  refine ⟨by simp [L2.start, startS, hl], r.keep, fun p q => (r.fz p q).mo mo, fun i d w => ?_, fun i d w => absurd w no, fun i j d e w => absurd w no, ⟨r.tp.no, r.tp.at_⟩, r.mt⟩
  rw [start_lk] at w
  cases q : ds[i]? with
  | none => rw [q] at w; cases w
  | some x =>
    rw [q] at w
    cases w
    have hi : i < ds.length := (List.getElem?_eq_some_iff.mp q).1
    have hv : vs[i]? = some (vs[i]'(by omega)) := by simp [hl, hi]
    refine ⟨vs[i]'(by omega), ?_, (r.fz (vs[i]'(by omega), d) ?_).mo mo⟩
    · unfold L2.start
      rw [List.getElem?_append_left (by simp; omega), List.getElem?_map, hv]
      rfl
    · rw [List.mem_iff_getElem?]
      exact ⟨i, by rw [List.getElem?_zip_eq_some]; exact ⟨hv, q⟩⟩
end

def ckD (C : Cn) (N ps : List Str) (sc : Scope) (f : Fd) (body : List Stmt) : Bool := decide (f.n = N.length) && decide (f.ps = ps.length) && ckSs C ⟨sc, sc, N⟩ f.b body
theorem def_ok {C : Cn} {P : Program} {w : World} {K : PySem.W.Frag} {mg : Str → Option Value} {base : Heap} {k : Nat} {Ps : List Fn} {i : Nat} {fd0 : Fd} {N ps : List Str} {x qual : Str} {params : Arguments} {body : List Stmt} {scope : Scope} {dvs : List V} {kws : List (Str × V)} {f : Addr} {fd : FuncData}
    (pf : PF C (run Ps k) ⟨P, w, K, mg, base, k⟩) (hP : Ps[i]? = some (.body fd0)) (F : FunD K x qual params body scope dvs kws f fd) (Sc : FnScope N ps scope) (hc : ckD C N ps scope fd0 body = true) :
    FnOk P w K mg base (L2.CX P w) (k + 1) f fd ps (spF ⟨P, w, K, mg, base, k + 1⟩ C (run Ps (k + 1)) ps.length i) := by
  unfold ckD at hc
  simp only [Bool.and_eq_true, decide_eq_true_eq] at hc
  obtain ⟨⟨hn, hps⟩, hb⟩ := hc
  have hpl : ps.length ≤ N.length := by have := congrArg List.length Sc.pre; rw [List.length_take] at this; omega
  refine F.ok Sc (fun vs H Q E h => h.1) fun cdv A outer s H vs Q E hr h => ?_
  let X := cxOf (L2.CX P w) P w K mg base N qual scope f cdv A outer s H E
  let W : WX := fun cls d _ H => E cls d H
  have tk : Takes X W := takes_of (X := X) rfl rfl rfl rfl
  have G : GoodS C (run Ps k) k ⟨scope, scope, N⟩ X W := by
    refine ⟨⟨rfl, Sc.nd, rfl, fun y hy => ⟨hy, .inl rfl⟩, rfl, hr, tk, pf⟩, Sc.kind, passes_of (X := X) rfl, rfl, rfl⟩
  refine ⟨_, sound_Ss fd0.b G hb, ?_⟩
  obtain ⟨hv, M, τ, T, ds, hl, r, hm⟩ := h
  have hr1 : run Ps (k + 1) i ds T = runB (run Ps k) fd0 ds T := by
    show (match Ps[i]? with | some (.body b) => runB (run Ps k) b ds T | some (.prim p) => p ds T | none => .stuck) = _
    rw [hP]
  rw [hr1] at hm
  unfold runB at hm
  have hd : ds.length = fd0.ps := by omega
  rw [if_pos hd] at hm
  refine ⟨H, M, fun _ => 0, τ, vs.zip ds, startS fd0.n ds T, ?_, ?_⟩
  · rw [hn]; exact r.enter hl (by omega)
  · unfold WPm
    cases q : evSs (run Ps k) fd0.b (startS fd0.n ds T) with
    | stuck => rw [q] at hm; exact hm
    | exc c s' =>
      rw [q] at hm
      intro o σ H' r'
      exact hm H' ((r'.strip _).drop fun p hp => by simp at hp)
    | ok fl s' =>
      rw [q] at hm
      cases fl with
      | nx =>
        intro o σ H' r'
        have r2 : RelS K H M (fun _ => 0) τ [] [] ⟨[], s'.T⟩ H' := (r'.strip _).drop fun p hp => by simp at hp
        exact hm .non H' (r2.more1 .non)
      | rt d fr =>
        intro v o σ H' r'
        exact hm v H' ((r'.strip _).weak (fun _ _ z => z) (by simp))
structure DefIn (C : Cn) (P : Program) (w : World) (K : PySem.W.Frag) (mg : Str → Option Value) (base : Heap) (Ps : List Fn) (i : Nat) (f : Addr) : Prop where
  ex : ∃ (fd : FuncData) (ps : List Str), C.ar[i]? = some ps.length ∧ PySem.W.keepIn K (.ref f) = true ∧ L2.Binds K fd ps [] ∧
    ((∃ (fd0 : Fd) (N : List Str) (x qual : Str) (params : Arguments) (body : List Stmt) (scope : Scope) (dvs : List V) (kws : List (Str × V)), Ps[i]? = some (.body fd0) ∧ FunD K x qual params body scope dvs kws f fd ∧ FnScope N ps scope ∧ ckD C N ps scope fd0 body = true) ∨
     ∃ p, Ps[i]? = some (.prim p) ∧ ∀ k, FnOk P w K mg base (L2.CX P w) (k + 1) f fd ps (spF ⟨P, w, K, mg, base, k + 1⟩ C (fun _ => p) ps.length i))
structure Mdl (C : Cn) (P : Program) (w : World) (K : PySem.W.Frag) (mg : Str → Option Value) (base : Heap) (Ps : List Fn) : Prop where
  defs : ∀ x i, C.names.lookup x = some i → ∃ f, mg x = some (.ref f) ∧ DefIn C P w K mg base Ps i f
  con : ∀ x d, C.cons.lookup x = some d → ∃ v u, mg x = some u ∧ RelV v u ∧ ∀ P τ H, Rep K P τ H v d
  free : ∀ x ∈ C.free, mg x = none
  lenk : ∀ x ∈ C.lenk, LenFn K mg x
  cls : ∀ (c : Nat) (x : Str), C.cls[c]? = some x → ExcOk K mg x (caK K C c)
  exm : ∀ (i j : Nat) (x y : Str), C.cls[i]? = some x → C.cls[j]? = some y → PySem.W.exmOne K (.ref (caK K C i)) (.ref (caK K C j)) = some (C.exm i j)
section
variable {C : Cn} {P : Program} {w : World} {K : PySem.W.Frag} {mg : Str → Option Value} {base : Heap} {Ps : List Fn}
theorem defIn_ok {i : Nat} {f : Addr} (d : DefIn C P w K mg base Ps i f) {k : Nat} (pf : PF C (run Ps k) ⟨P, w, K, mg, base, k⟩) : ∃ fd ps, C.ar[i]? = some ps.length ∧ PySem.W.keepIn K (.ref f) = true ∧ L2.Binds K fd ps [] ∧
    FnOk P w K mg base (L2.CX P w) (k + 1) f fd ps (spF ⟨P, w, K, mg, base, k + 1⟩ C (run Ps (k + 1)) ps.length i) := by
  obtain ⟨fd, ps, h1, h2, h3, h4⟩ := d.ex
  refine ⟨fd, ps, h1, h2, h3, ?_⟩
  rcases h4 with ⟨fd0, N, x, qual, params, body, scope, dvs, kws, g1, g2, g3, g4⟩ | ⟨p, g1, g2⟩
  · exact def_ok pf g1 g2 g3 g4
  · refine (g2 k).imp ?_
    · intro vs H Q E h
      obtain ⟨hv, M, τ, T, ds, hl, r, hm⟩ := h
      refine ⟨hv, M, τ, T, ds, hl, r, ?_⟩
      have hr1 : run Ps (k + 1) i ds T = p ds T := by
        show (match Ps[i]? with | some (.body b) => runB (run Ps k) b ds T | some (.prim p) => p ds T | none => .stuck) = _
        rw [g1]
      rw [hr1] at hm
      exact hm
theorem all_ok (m : Mdl C P w K mg base Ps) : ∀ k, PF C (run Ps k) ⟨P, w, K, mg, base, k⟩
  | 0 => ⟨fun x i h => by
      obtain ⟨f, h1, d⟩ := m.defs x i h
      obtain ⟨fd, ps, g1, g2, g3, _⟩ := d.ex
      refine ⟨f, fd, ps, g1, h1, g2, g3, ⟨fun vs H Q E h => h.1, fun A outer s H args us vs Q E hr e0 hb r h => ?_⟩⟩
      obtain ⟨hv, M, τ, T, ds, hl, r, hm⟩ := h
      exact False.elim hm, m.con, m.free, m.lenk, m.cls, m.exm⟩
  | k + 1 => ⟨fun x i h => by
      obtain ⟨f, h1, d⟩ := m.defs x i h
      obtain ⟨fd, ps, g1, g2, g3, g4⟩ := defIn_ok d (all_ok m k)
      exact ⟨f, fd, ps, g1, h1, g2, g3, g4⟩, m.con, m.free, m.lenk, m.cls, m.exm⟩
end
end Vf
namespace Vf
open PySem PySem.Spec PyProof.Rows L2

def cutZ : List Int → List Int
  | [] => []
  | c :: r => if c = 0 then cutZ r else c :: r
def drawT (m : Int) (cs : List Int) (n : Int) : Int × (List Int × Int) := match cutZ cs with
  | c :: r => (c.fmod m, (c.fdiv m :: r, n))
  | [] => (((n * 48271 + 12345).fmod 2147483647).fdiv 64 |>.fmod m, ([], (n * 48271 + 12345).fmod 2147483647))
def drawP : List D → Vf.TP → FRes := fun ds T => match ds, T with
  | [.tape, .int m], some (cs, n) => if decide (0 < m) && decide (m < 1073741824) && decide (0 ≤ n) && decide (n < 4294967296) then .ok (.int (drawT m cs n).1) false (some (drawT m cs n).2) else .stuck
  | _, _ => .stuck
def isNm (x : Str) : Expr → Bool
  | .Name y _ => decide (y = x)
  | _ => false
def isK (k : Int) : Expr → Bool
  | .Constant (.int j) _ _ => decide (j = k)
  | _ => false
def isSub (x : Str) (k : Int) : Expr → Bool
  | .Subscript a b _ => isNm x a && isK k b
  | _ => false
def isFn (f : Str) (q : Expr → Bool) : Expr → Bool
  | .Call a [e] [] _ => isNm f a && nst e && q e
  | _ => false
def isBin (op : Operator) (q r : Expr → Bool) : Expr → Bool
  | .BinOp a o b _ => decide (o = op) && q a && r b
  | _ => false
def isCmp (op : CmpOp) (q r : Expr → Bool) : Expr → Bool
  | .Compare a [o] [b] _ => decide (o = op) && q a && r b
  | _ => false
def isAnd (q r : Expr → Bool) : Expr → Bool
  | .BoolOp .And [a, b] _ => q a && r b
  | _ => false
def isPop (x : Str) : Stmt → Bool
  | .Expr (.Call (.Attribute a m ap) [e] [] cp) _ => isNm x a && decide (m = ("pop" : Str)) && isK 0 e && (ap.endLine == cp.line)
  | _ => false
def isSet (x : Str) (q : Expr → Bool) : Stmt → Bool
  | .Assign [.Name y _] a _ => decide (y = x) && ncomp a && q a
  | _ => false
def isPut (x : Str) (k : Int) (q : Expr → Bool) : Stmt → Bool
  | .Assign [.Subscript a b _] e _ => isNm x a && isK k b && q e
  | _ => false
def isRet (q : Expr → Bool) : Stmt → Bool
  | .Return (some a) _ => q a
  | _ => false
def isWh (q : Expr → Bool) (r : Stmt → Bool) : Stmt → Bool
  | .While t [b] [] _ => q t && r b
  | _ => false
def isIf3 (q : Expr → Bool) (r1 r2 r3 : Stmt → Bool) : Stmt → Bool
  | .If t [a, b, c] [] _ => q t && r1 a && r2 b && r3 c
  | _ => false
def drawB (b : List Stmt) : Bool := match b with
  | [s1, s2, s3, s4, s5] => isSet "cells" (isSub "tape" 0) s1 && isWh (isAnd (isCmp .Gt (isFn "len" (isNm "cells")) (isK 0)) (isCmp .Eq (isSub "cells" 0) (isK 0))) (isPop "cells") s2 &&
    isIf3 (isCmp .Gt (isFn "len" (isNm "cells")) (isK 0)) (isSet "number" (isSub "cells" 0)) (isPut "cells" 0 (isBin .FloorDiv (isNm "number") (isNm "many"))) (isRet (isBin .Mod (isFn "int" (isNm "number")) (isNm "many"))) s3 &&
    isPut "tape" 1 (isBin .Mod (isFn "int" (isBin .Add (isBin .Mult (isSub "tape" 1) (isK 48271)) (isK 12345))) (isK 2147483647)) s4 &&
    isRet (isBin .Mod (isFn "int" (isBin .FloorDiv (isSub "tape" 1) (isK 64))) (isNm "many")) s5
  | _ => false
abbrev drawN : List Str := ["tape", "many", "cells", "number"]
structure DrawSc (sc : Scope) : Prop where
  v0 : sc.names.lookup ("tape" : Str) = some .local
  v1 : sc.names.lookup ("many" : Str) = some .local
  v2 : sc.names.lookup ("cells" : Str) = some .local
  v3 : sc.names.lookup ("number" : Str) = some .local
  gl : sc.names.lookup ("len" : Str) = some .globalImplicit
  gi : sc.names.lookup ("int" : Str) = some .globalImplicit
section
variable {X : Cx}
abbrev rIx0 (K : PySem.W.Frag) : R2 := rIxL K
theorem pe_v {i : Nat} {x : Str} {p : Pos} (hN : X.N = drawN) (hi : drawN[i]? = some x) (hl : X.env.scope.names.lookup x = some .local) (h1 : (x == ("__debug__" : Str)) = false) (h2 : (x == ("__classdict__" : Str)) = false) : PE X (.Name x p) (tVar i) :=
  pe_var (by rw [hN]; exact hi) (.inl hl) h1 h2
def tDraw (K : PySem.W.Frag) : TS :=
  tSeq (tAsg (tOp (rIxL K) (tVar 0) (tC (.int 0))) (gName 2))
  (tSeq (tWhile (tAnd (tTest (tOp (rI0 fun i j => .bl (decide (j < i))) (tCB (rLenA K) (tCons (tVar 2) tNil)) (tC (.int 0)))) (tTest (tOp rEq (tOp (rIxL K) (tVar 2) (tC (.int 0))) (tC (.int 0)))))
      (tDrop (tBM K "list" rPopAt (tVar 2) (tCons (tC (.int 0)) tNil))))
  (tSeq (tIfS (tTest (tOp (rI0 fun i j => .bl (decide (j < i))) (tCB (rLenA K) (tCons (tVar 2) tNil)) (tC (.int 0))))
      (tSeq (tAsg (tOp (rIxL K) (tVar 2) (tC (.int 0))) (gName 3))
      (tSeq (tAsg (tOp (rI (fun _ j => j ≠ 0 ∧ j.natAbs.log2 < 9000) fun i j => .int (i.fdiv j)) (tVar 3) (tVar 1)) (gSub (tVar 2) (tC (.int 0)) rSetL))
      (tRet (tOp (rI (fun _ j => j ≠ 0) fun i j => .int (i.fmod j)) (tCB (fun xs H Q => (∃ i, xs = [.int i] ∧ Q (.int i) H) ∨ ∃ k, xs = [.bl k] ∧ Q (.int (if k then 1 else 0)) H) (tCons (tVar 3) tNil)) (tVar 1)))))
      tNext)
  (tSeq (tAsg (tOp (rI (fun _ j => j ≠ 0) fun i j => .int (i.fmod j)) (tCB (fun xs H Q => (∃ i, xs = [.int i] ∧ Q (.int i) H) ∨ ∃ k, xs = [.bl k] ∧ Q (.int (if k then 1 else 0)) H)
      (tCons (tOp (rI0 fun i j => .int (i + j)) (tOp (rI CMulW fun i j => .int (i * j)) (tOp (rIxL K) (tVar 0) (tC (.int 1))) (tC (.int 48271))) (tC (.int 12345))) tNil)) (tC (.int 2147483647))) (gSub (tVar 0) (tC (.int 1)) rSetL))
  (tRet (tOp (rI (fun _ j => j ≠ 0) fun i j => .int (i.fmod j)) (tCB (fun xs H Q => (∃ i, xs = [.int i] ∧ Q (.int i) H) ∨ ∃ k, xs = [.bl k] ∧ Q (.int (if k then 1 else 0)) H)
      (tCons (tOp (rI (fun _ j => j ≠ 0 ∧ j.natAbs.log2 < 9000) fun i j => .int (i.fdiv j)) (tOp (rIxL K) (tVar 0) (tC (.int 1))) (tC (.int 64))) tNil)) (tVar 1))))))
theorem nm_of {x : Str} {e : Expr} (h : isNm x e = true) : ∃ p, e = .Name x p := by
  cases e <;> simp [isNm] at h
  exact ⟨_, by rw [h]⟩
theorem k_of {k : Int} {e : Expr} (h : isK k e = true) : ∃ n p, e = .Constant (.int k) n p := by
  unfold isK at h
  split at h
  · exact ⟨_, _, by rw [of_decide_eq_true h]⟩
  · cases h
theorem pe_K {k : Int} {e : Expr} (h : isK k e = true) : PE X e (tC (.int k)) := by
  obtain ⟨n, p, rfl⟩ := k_of h
  exact pe_int
theorem pe_N {x : Str} {i : Nat} {e : Expr} (P : ∀ {p}, PE X (.Name x p) (tVar i)) (h : isNm x e = true) : PE X e (tVar i) := by
  obtain ⟨p, rfl⟩ := nm_of h
  exact P
theorem pe_Sub {x : Str} {i : Nat} {k : Int} {e : Expr} (P : ∀ {p}, PE X (.Name x p) (tVar i)) (h : isSub x k e = true) : PE X e (tOp (rIxL X.K) (tVar i) (tC (.int k))) := by
  unfold isSub at h
  split at h
  · simp only [Bool.and_eq_true] at h
    obtain ⟨n, p, rfl⟩ := k_of h.2
    exact pe_ix ix_list (pe_N P h.1) pe_int (fun _ _ => rfl)
  · cases h
theorem pe_Len {q : Expr → Bool} {e : Expr} {te : TE} (hg : L2.Gl X "len") (hm : X.mg ("len" : Str) = none) (hq : ∀ e, q e = true → PE X e te) (h : isFn "len" q e = true) : PE X e (tCB (rLenA X.K) (tCons te tNil)) := by
  unfold isFn at h
  split at h
  · simp only [Bool.and_eq_true] at h
    obtain ⟨⟨h1, h2⟩, h3⟩ := h
    obtain ⟨p, rfl⟩ := nm_of h1
    exact pe_callB call_lenA hg hm boot_len (pa_cons (hq _ h3) pa_nil (star_cons h2)) (by decide +kernel) (by decide +kernel) (star_cons h2) rfl
  · cases h
abbrev rInt : List V → Hp → VK → Prop := fun xs H Q => (∃ i, xs = [.int i] ∧ Q (.int i) H) ∨ ∃ k, xs = [.bl k] ∧ Q (.int (if k then 1 else 0)) H
theorem pe_Int {q : Expr → Bool} {e : Expr} {te : TE} (hg : L2.Gl X "int") (hm : X.mg ("int" : Str) = none) (hq : ∀ e, q e = true → PE X e te) (h : isFn "int" q e = true) : PE X e (tCB rInt (tCons te tNil)) := by
  unfold isFn at h
  split at h
  · simp only [Bool.and_eq_true] at h
    obtain ⟨⟨h1, h2⟩, h3⟩ := h
    obtain ⟨p, rfl⟩ := nm_of h1
    exact pe_callTy call_int1 hg hm (by decide +kernel) (pa_cons (hq _ h3) pa_nil (star_cons h2)) (by decide +kernel) (by decide +kernel) (star_cons h2) rfl
  · cases h
theorem pe_Bin {op : Operator} {q r : Expr → Bool} {e : Expr} {ta tb : TE} {R : R2} (ho : OpR X (binaryOp op) R) (hq : ∀ e, q e = true → PE X e ta) (hr : ∀ e, r e = true → PE X e tb) (h : isBin op q r e = true) : PE X e (tOp R ta tb) := by
  unfold isBin at h
  split at h
  · simp only [Bool.and_eq_true, decide_eq_true_eq] at h
    obtain ⟨⟨rfl, h1⟩, h2⟩ := h
    exact pe_op ho (hq _ h1) (hr _ h2)
  · cases h
theorem pt_Cmp {op : CmpOp} {q : Expr → Bool} {k : Int} {e : Expr} {ta : TE} {R : R2} (ho : OpR X (compareOp op) R) (hq : ∀ e, q e = true → PE X e ta) (h : isCmp op q (isK k) e = true) : PT X e (tTest (tOp R ta (tC (.int k)))) := by
  unfold isCmp at h
  split at h
  · simp only [Bool.and_eq_true, decide_eq_true_eq] at h
    obtain ⟨⟨rfl, h1⟩, h2⟩ := h
    obtain ⟨n, p, rfl⟩ := k_of h2
    exact pt_cmpR ho (hq _ h1) pe_int rfl
  · cases h
theorem pt_And {q r : Expr → Bool} {e : Expr} {ta tb : TT} (hq : ∀ e, q e = true → PT X e ta) (hr : ∀ e, r e = true → PT X e tb) (h : isAnd q r e = true) : PT X e (tAnd ta tb) := by
  unfold isAnd at h
  split at h
  · simp only [Bool.and_eq_true] at h
    exact (pw_and (hq _ h.1) (pw_and1 (hr _ h.2))).pt
  · cases h
theorem ps_Set {x : Str} {i : Nat} {q : Expr → Bool} {st : Stmt} {te : TE} (hNd : X.N.Nodup) (hi : X.N[i]? = some x) (hl : X.env.scope.names.lookup x = some .local) (hq : ∀ e, q e = true → PE X e te) (h : isSet x q st = true) : PS X st (tAsg te (gName i)) := by
  unfold isSet at h
  split at h
  · rename_i y p a pos
    simp only [Bool.and_eq_true, decide_eq_true_eq] at h
    obtain ⟨⟨rfl, h1⟩, h2⟩ := h
    refine ps_set hNd hi (.inl hl) (hq _ h2) ?_ (.inr hl)
    cases a <;> first | rfl | cases h1
  · cases h
theorem ps_Put {x : Str} {i : Nat} {k : Int} {q : Expr → Bool} {st : Stmt} {te : TE} (P : ∀ {p}, PE X (.Name x p) (tVar i)) (hq : ∀ e, q e = true → PE X e te) (h : isPut x k q st = true) : PS X st (tAsg te (gSub (tVar i) (tC (.int k)) rSetL)) := by
  unfold isPut at h
  split at h
  · simp only [Bool.and_eq_true] at h
    obtain ⟨⟨h1, h2⟩, h3⟩ := h
    obtain ⟨n, p, rfl⟩ := k_of h2
    exact ps_asg (hq _ h3) (pg_sub (pe_N P h1) pe_int set_list) sw_sub rfl
  · cases h
theorem ps_Ret {q : Expr → Bool} {st : Stmt} {te : TE} (hq : ∀ e, q e = true → PE X e te) (h : isRet q st = true) : PS X st (tRet te) := by
  unfold isRet at h
  split at h
  · exact ps_ret (hq _ h)
  · cases h
theorem ps_Pop {x : Str} {i : Nat} {st : Stmt} (P : ∀ {p}, PE X (.Name x p) (tVar i)) (h : isPop x st = true) : PS X st (tDrop (tBM X.K "list" rPopAt (tVar i) (tCons (tC (.int 0)) tNil))) := by
  unfold isPop at h
  split at h
  · simp only [Bool.and_eq_true, decide_eq_true_eq] at h
    obtain ⟨⟨⟨h1, rfl⟩, h2⟩, h3⟩ := h
    obtain ⟨n, p, rfl⟩ := k_of h2
    obtain ⟨p2, rfl⟩ := nm_of h1
    exact ps_expr (pe_bm PySem.F.plainAttrs_list PySem.F.slot_list_pop PySem.F.type_list_pop mt_popAt P (pa_cons pe_int pa_nil) rfl rfl h3 rfl rfl) rfl
  · cases h
theorem ps_Wh {q : Expr → Bool} {r : Stmt → Bool} {st : Stmt} {tt : TT} {tb : TS} (hp : PassesOwn (model X.prog X.w) X.A X.env X.xe) (hq : ∀ e, q e = true → PT X e tt) (hr : ∀ e, r e = true → PS X e tb) (h : isWh q r st = true) : PS X st (tWhile tt tb) := by
  unfold isWh at h
  split at h
  · simp only [Bool.and_eq_true] at h
    exact ps_while hp (hq _ h.1) (pss_one (hr _ h.2))
  · cases h
theorem ps_If3 {q : Expr → Bool} {r1 r2 r3 : Stmt → Bool} {st : Stmt} {tt : TT} {t1 t2 t3 : TS} (hq : ∀ e, q e = true → PT X e tt) (h1 : ∀ e, r1 e = true → PS X e t1) (h2 : ∀ e, r2 e = true → PS X e t2) (h3 : ∀ e, r3 e = true → PS X e t3) (h : isIf3 q r1 r2 r3 st = true) : PS X st (tIfS tt (tSeq t1 (tSeq t2 t3)) tNext) := by
  unfold isIf3 at h
  split at h
  · simp only [Bool.and_eq_true] at h
    obtain ⟨⟨⟨g1, g2⟩, g3⟩, g4⟩ := h
    exact ps_if (hq _ g1) (pss_cons (h1 _ g2) (pss_cons (h2 _ g3) (pss_one (h3 _ g4)))) pss_nil
  · cases h
theorem pss_draw {b : List Stmt} (h : drawB b = true) (hN : X.N = drawN) (S : DrawSc X.env.scope) (hp : PassesOwn (model X.prog X.w) X.A X.env X.xe) (hl : X.mg ("len" : Str) = none) (hi : X.mg ("int" : Str) = none) : PSs X b (tDraw X.K) := by
  have hNd : X.N.Nodup := by rw [hN]; decide +kernel
  have P0 : ∀ {p}, PE X (.Name "tape" p) (tVar 0) := pe_v hN rfl S.v0 (by decide +kernel) (by decide +kernel)
  have P1 : ∀ {p}, PE X (.Name "many" p) (tVar 1) := pe_v hN rfl S.v1 (by decide +kernel) (by decide +kernel)
  have P2 : ∀ {p}, PE X (.Name "cells" p) (tVar 2) := pe_v hN rfl S.v2 (by decide +kernel) (by decide +kernel)
  have P3 : ∀ {p}, PE X (.Name "number" p) (tVar 3) := pe_v hN rfl S.v3 (by decide +kernel) (by decide +kernel)
  have X2 : X.N[2]? = some ("cells" : Str) := by rw [hN]; rfl
  have X3 : X.N[3]? = some ("number" : Str) := by rw [hN]; rfl
  unfold drawB at h
  split at h
  · simp only [Bool.and_eq_true] at h
    obtain ⟨⟨⟨⟨h1, h2⟩, h3⟩, h4⟩, h5⟩ := h
    have lenC := fun e => pe_Len (X := X) (e := e) S.gl hl (fun e => pe_N P2)
    refine pss_cons (ps_Set hNd X2 S.v2 (fun e => pe_Sub P0) h1) (pss_cons (ps_Wh hp (fun e => pt_And (fun e => pt_Cmp op_gt lenC) (fun e => pt_Cmp op_eq (fun e => pe_Sub P2))) (fun e => ps_Pop P2) h2)
      (pss_cons (ps_If3 (fun e => pt_Cmp op_gt lenC) (fun e => ps_Set hNd X3 S.v3 (fun e => pe_Sub P2)) (fun e => ps_Put P2 (fun e => pe_Bin op_fdivZ (fun e => pe_N P3) (fun e => pe_N P1))) (fun e => ps_Ret (fun e => pe_Bin op_modN (fun e => pe_Int S.gi hi (fun e => pe_N P3)) (fun e => pe_N P1))) h3)
      (pss_cons (ps_Put P0 (fun e => pe_Bin op_modN (fun e => pe_Int S.gi hi (fun e => pe_Bin op_add (fun e => pe_Bin op_mulW (fun e => pe_Sub P0) (fun e => pe_K)) (fun e => pe_K))) (fun e => pe_K)) h4)
      (pss_one (ps_Ret (fun e => pe_Bin op_modN (fun e => pe_Int S.gi hi (fun e => pe_Bin op_fdivZ (fun e => pe_Sub P0) (fun e => pe_K))) (fun e => pe_N P1)) h5)))))
  · cases h
end
end Vf
namespace Vf
open PySem PySem.Spec PyProof.Rows L2

structure Tp (H : Hp) (a c : Addr) (H' : Hp) (cs : List Int) (n : Int) : Prop where
  keep : ∀ b u, H b = some u → b ≠ a → b ≠ c → H' b = some u
  ta : H' a = some (.lst [.ref c, .int n])
  tc : H' c = some (.lst (cs.map .int))
theorem Tp.cell {H : Hp} {a c : Addr} {H' : Hp} {cs cs' : List Int} {n : Int} (t : Tp H a c H' cs n) (ne : a ≠ c) : Tp H a c (upd H' c (.lst (cs'.map .int))) cs' n :=
  ⟨fun b u e h1 h2 => by rw [upd_ne h2]; exact t.keep b u e h1 h2, by rw [upd_ne ne]; exact t.ta, upd_same⟩
theorem Tp.seed {H : Hp} {a c : Addr} {H' : Hp} {cs : List Int} {n n' : Int} (t : Tp H a c H' cs n) (ne : a ≠ c) : Tp H a c (upd H' a (.lst [.ref c, .int n'])) cs n' :=
  ⟨fun b u e h1 h2 => by rw [upd_ne h1]; exact t.keep b u e h1 h2, upd_same, by rw [upd_ne (Ne.symm ne)]; exact t.tc⟩
theorem small_log {j : Int} (h : j.natAbs < 2 ^ 32) : j.natAbs.log2 < 9000 := by
  have := PySem.Flt.log2_lt_of (k := 32) (by decide) h
  omega
theorem log_lt {n : Nat} {b : Nat} (hb : 0 < b) (h : n < 2 ^ b) : n.log2 < b := PySem.Flt.log2_lt_of hb h
theorem at0 {x : Int} {r : List Int} : atI ((x :: r).map V.int) 0 = some (V.int x) := atI_nat (j := 0) rfl
theorem ix0 {x : Int} {r : List Int} : ixN ((x :: r).map V.int).length 0 = some 0 := by
  unfold ixN
  simp
theorem sq0 {x : Int} {r : List Int} : seqIndex? 0 ((x :: r).map V.int).length = some 0 := by
  unfold seqIndex?
  simp
theorem draw_run {K : PySem.W.Frag} {H : Hp} {a c : Addr} {cs : List Int} {n m : Int} {Q : VK} (ne : a ≠ c) (ha : H a = some (.lst [.ref c, .int n])) (hc : H c = some (.lst (cs.map .int))) (hm0 : 0 < m) (hm : m < 1073741824) (hn0 : 0 ≤ n) (hn : n < 4294967296)
    (q : ∀ H', Tp H a c H' (drawT m cs n).2.1 (drawT m cs n).2.2 → Q (.int (drawT m cs n).1) H') (D : Ends) (hD : D.rt = Q) : tDraw K D (L2.start drawN [.ref a, .int m]) H := by
  have t0 : Tp H a c H cs n := ⟨fun b u e _ _ => e, ha, hc⟩
  have s0 : ∀ {v w : Option V}, ([some (V.ref a), some (V.int m), v, w] : L2.St)[0]? = some (some (V.ref a)) := rfl
  have s1 : ∀ {v w : Option V}, ([some (V.ref a), some (V.int m), v, w] : L2.St)[1]? = some (some (V.int m)) := rfl
  have s2 : ∀ {w : Option V}, ([some (V.ref a), some (V.int m), some (V.ref c), w] : L2.St)[2]? = some (some (V.ref c)) := rfl
  have s3 : ∀ {x : V}, ([some (V.ref a), some (V.int m), some (V.ref c), some x] : L2.St)[3]? = some (some x) := rfl
  refine ⟨V.ref a, s0, a, _, 0, V.ref c, rfl, rfl, .of ha, rfl, ?_⟩
  show tSeq _ _ D [some (V.ref a), some (V.int m), some (V.ref c), none] H
  refine ⟨fun j σ H' => σ = [some (V.ref a), some (V.int m), some (V.ref c), none] ∧ ∃ cs1 : List Int, j = cs1.length ∧ cutZ cs1 = cutZ cs ∧ Tp H a c H' cs1 n, ⟨cs.length, rfl, cs, rfl, rfl, t0⟩, ?_⟩
  rintro j σ H1 ⟨rfl, cs1, rfl, hcut, t1⟩
  have lenT : ∀ {σ : L2.St} {Q : Bool → Hp → Prop}, σ[2]? = some (some (V.ref c)) → Q (decide (0 < ((cs1.map V.int).length : Int))) H1 → (tTest (tOp (rI0 fun i j => .bl (decide (j < i))) (tCB (rLenA K) (tCons (tVar 2) tNil)) (tC (.int 0)))) σ H1 Q := fun {σ Q} hs hq =>
    ⟨V.ref c, hs, .inl ⟨c, cs1.map V.int, rfl, .inl (.of t1.tc), _, _, rfl, rfl, _, rfl, hq⟩⟩
  refine lenT s2 ?_
  try dsimp only
  have theEnd : cutZ cs1 = cs1 → (tSeq (tIfS (tTest (tOp (rI0 fun i j => .bl (decide (j < i))) (tCB (rLenA K) (tCons (tVar 2) tNil)) (tC (.int 0))))
      (tSeq (tAsg (tOp (rIxL K) (tVar 2) (tC (.int 0))) (gName 3))
      (tSeq (tAsg (tOp (rI (fun _ j => j ≠ 0 ∧ j.natAbs.log2 < 9000) fun i j => .int (i.fdiv j)) (tVar 3) (tVar 1)) (gSub (tVar 2) (tC (.int 0)) rSetL))
      (tRet (tOp (rI (fun _ j => j ≠ 0) fun i j => .int (i.fmod j)) (tCB rInt (tCons (tVar 3) tNil)) (tVar 1)))))
      tNext)
  (tSeq (tAsg (tOp (rI (fun _ j => j ≠ 0) fun i j => .int (i.fmod j)) (tCB rInt
      (tCons (tOp (rI0 fun i j => .int (i + j)) (tOp (rI CMulW fun i j => .int (i * j)) (tOp (rIxL K) (tVar 0) (tC (.int 1))) (tC (.int 48271))) (tC (.int 12345))) tNil)) (tC (.int 2147483647))) (gSub (tVar 0) (tC (.int 1)) rSetL))
  (tRet (tOp (rI (fun _ j => j ≠ 0) fun i j => .int (i.fmod j)) (tCB rInt
      (tCons (tOp (rI (fun _ j => j ≠ 0 ∧ j.natAbs.log2 < 9000) fun i j => .int (i.fdiv j)) (tOp (rIxL K) (tVar 0) (tC (.int 1))) (tC (.int 64))) tNil)) (tVar 1))))) D [some (V.ref a), some (V.int m), some (V.ref c), none] H1 := fun hz => by
    refine lenT s2 ?_
    try dsimp only
    rw [hz] at hcut
    cases cs1 with
    | nil =>
      have e0 : decide (0 < ((([] : List Int).map V.int).length : Int)) = false := rfl
      rw [e0, if_neg Bool.false_ne_true]
      have ed : drawT m cs n = ((((n * 48271 + 12345).fmod 2147483647).fdiv 64).fmod m, ([], (n * 48271 + 12345).fmod 2147483647)) := by unfold drawT; rw [← hcut]
      rw [ed] at q
      refine ⟨V.ref a, s0, a, _, 1, V.int n, rfl, rfl, .of t1.ta, rfl, n, 48271, rfl, rfl, ?_, _, _, rfl, rfl, ?_⟩
      · have h1 : n.natAbs.log2 < 32 := log_lt (by decide) (by omega)
        have h2 : (48271 : Int).natAbs.log2 < 32 := log_lt (by decide) (by decide)
        show _ + _ < _
        omega
      refine .inl ⟨_, rfl, _, _, rfl, rfl, (by decide : (2147483647 : Int) ≠ 0), ?_⟩
      refine ⟨V.ref a, s0, a, _, 1, 1, rfl, rfl, t1.ta, rfl, ?_⟩
      have t2 := t1.seed (n' := (n * 48271 + 12345).fmod 2147483647) ne
      refine ⟨V.ref a, s0, a, _, 1, V.int ((n * 48271 + 12345).fmod 2147483647), rfl, rfl, .of t2.ta, rfl, _, 64, rfl, rfl, ⟨by decide, by decide⟩, ?_⟩
      refine .inl ⟨_, rfl, V.int m, s1, _, _, rfl, rfl, (by omega : m ≠ 0), ?_⟩
      rw [hD]
      exact q _ t2
    | cons c0 r =>
      have e0 : decide (0 < (((c0 :: r).map V.int).length : Int)) = true := decide_eq_true (by simp)
      rw [e0, if_pos rfl]
      have ed : drawT m cs n = (c0.fmod m, (c0.fdiv m :: r, n)) := by unfold drawT; rw [← hcut]
      rw [ed] at q
      refine ⟨V.ref c, s2, c, _, 0, V.int c0, rfl, rfl, .of t1.tc, at0, ?_⟩
      refine ⟨V.int c0, s3, V.int m, s1, _, _, rfl, rfl, ⟨by omega, small_log (by omega)⟩, ?_⟩
      refine ⟨V.ref c, s2, c, _, 0, 0, rfl, rfl, t1.tc, ix0, ?_⟩
      have t2 := t1.cell (cs' := c0.fdiv m :: r) ne
      refine ⟨V.int c0, s3, .inl ⟨_, rfl, V.int m, s1, _, _, rfl, rfl, (by omega : m ≠ 0), ?_⟩⟩
      rw [hD]
      exact q _ t2
  cases cs1 with
  | nil =>
    have e0 : decide (0 < ((([] : List Int).map V.int).length : Int)) = false := rfl
    rw [e0, if_neg Bool.false_ne_true, if_neg Bool.false_ne_true]
    exact theEnd rfl
  | cons c0 r =>
    have e0 : decide (0 < (((c0 :: r).map V.int).length : Int)) = true := decide_eq_true (by simp)
    rw [e0, if_pos rfl]
    refine ⟨V.ref c, s2, c, _, 0, V.int c0, rfl, rfl, .of t1.tc, at0, rfl, _, rfl, ?_⟩
    by_cases h0 : c0 = 0
    · have e1 : decide (V.int c0 = V.int 0) = true := decide_eq_true (by rw [h0])
      rw [e1]
      try dsimp only
      rw [if_pos rfl]
      refine ⟨fun σ H' => σ = [some (V.ref a), some (V.int m), some (V.ref c), none] ∧ Tp H a c H' r n, fun σ' H' h => ⟨r.length, by simp, h.1, r, rfl, ?_, h.2⟩, ?_⟩
      · rw [← hcut]; show cutZ r = cutZ (c0 :: r); rw [cutZ, if_pos h0]
      · refine ⟨V.ref c, s2, .inl ⟨rfl, _, .of t1.tc⟩, c, _, 0, 0, V.int c0, rfl, rfl, t1.tc, by decide, by decide, sq0, rfl, ?_⟩
        exact ⟨rfl, t1.cell (cs' := r) ne⟩
    · have e1 : decide (V.int c0 = V.int 0) = false := decide_eq_false (fun z => h0 (V.int.inj z))
      rw [e1]
      try dsimp only
      rw [if_neg Bool.false_ne_true]
      exact theEnd (by unfold cutZ; rw [if_neg h0])
theorem drawP_cases (ds : List Vf.D) (T : Vf.TP) : drawP ds T = .stuck ∨ ∃ m cs n, ds = [.tape, .int m] ∧ T = some (cs, n) ∧ 0 < m ∧ m < 1073741824 ∧ 0 ≤ n ∧ n < 4294967296 ∧ drawP ds T = .ok (.int (drawT m cs n).1) false (some (drawT m cs n).2) := by
  unfold drawP
  split
  · rename_i m cs n
    split
    · rename_i h
      simp only [Bool.and_eq_true, decide_eq_true_eq] at h
      exact .inr ⟨m, cs, n, rfl, rfl, h.1.1.1, h.1.1.2, h.1.2, h.2, rfl⟩
    · exact .inl rfl
  · exact .inl rfl
theorem draw_ok {C : Cn} {P : Program} {w : World} {K : PySem.W.Frag} {mg : Str → Option Value} {base : Heap} {i : Nat} {x qual : Str} {params : Arguments} {body : List Stmt} {scope : Scope} {f : Addr} {fd : FuncData}
    (F : FunD K x qual params body scope [] [] f fd) (S : FnScope drawN ["tape", "many"] scope) (D : DrawSc scope) (hb : drawB body = true) (hl : mg ("len" : Str) = none) (hi : mg ("int" : Str) = none) :
    ∀ k, FnOk P w K mg base (L2.CX P w) (k + 1) f fd ["tape", "many"] (spF ⟨P, w, K, mg, base, k + 1⟩ C (fun _ => drawP) 2 i) := fun k => by
  refine F.ok S (fun vs H Q E h => h.1) fun cdv A outer s H vs Q E hr h => ?_
  let X := cxOf (L2.CX P w) P w K mg base drawN qual scope f cdv A outer s H E
  refine ⟨_, pss_draw (X := X) hb rfl D (passes_of (X := X) rfl) hl hi, ?_⟩
  obtain ⟨hv, M, τ, T, ds, hlen, r, hm⟩ := h
  have hm : (match drawP ds T with
    | .ok d fr T' => ∀ v H', RelT K (fun _ => 0) τ [] ⟨[], T'⟩ H' [(v, d, fr)] H M [] → Q v H'
    | .exc c T' => ∀ H', RelS K H M (fun _ => 0) τ [] [] ⟨[], T'⟩ H' → E (.ref (caK K C c)) none H'
    | .stuck => False) := hm
  rcases drawP_cases ds T with e | ⟨m, cs, n, rfl, rfl, c1, c2, c3, c4, e⟩
  · rw [e] at hm; exact False.elim hm
  · rw [e] at hm
    · skip
      obtain ⟨v1, v2, rfl⟩ : ∃ v1 v2, vs = [v1, v2] := by
        match vs, hv with
        | [v1, v2], _ => exact ⟨v1, v2, rfl⟩
      have r1 := r.fz (v1, .tape) (by simp)
      have r2 := r.fz (v2, .int m) (by simp)
      cases r2
      cases r1 with
      | @tape a c ht =>
        have tp := r.tp.at_
        subst ht
        obtain ⟨ne, ha, hc⟩ : a ≠ c ∧ H a = some (.lst [.ref c, .int n]) ∧ H c = some (.lst (cs.map V.int)) := tp
        refine draw_run ne ha hc c1 c2 c3 c4 (fun H' t => hm _ H' ?_) _ rfl
        have r3 : RelS K H M (fun _ => 0) (some (a, c)) [] [] ⟨[], some (drawT m cs n).2⟩ H' := by
          have r0 : RelS K H M (fun _ => 0) (some (a, c)) [] [] ⟨[], some (cs, n)⟩ H := r.drop (by simp)
          refine r0.move (T := some (drawT m cs n).2) (fun b u e hn => t.keep b u e (fun z => hn ⟨_, rfl, .inl z⟩) (fun z => hn ⟨_, rfl, .inr z⟩)) ⟨r0.tp.no, ?_⟩
          exact ⟨ne, t.ta, t.tc⟩
        exact r3.more1 (.int _)
end Vf
namespace Vf
open PySem PySem.Spec PyProof.Rows L2

def seedF (s : Int) (ns : List Int) : Int := ns.foldl (fun s c => (s * 31 + c).fmod 1000003) s
def absI (i : Int) : Int := if i < 0 then -i else i
def spTape (K : PySem.W.Frag) : Sp := fun vs H Q _ => vs.length = 1 ∧ ∃ l ns, ns.length ≤ 1000 ∧ vs = [.ref l] ∧ SqL K H l (ns.map V.int) ∧ ∀ t c H', H t = none → H c = none → t ≠ c → (∀ b u, H b = some u → H' b = some u) → H' t = some (.lst [.ref c, .int (seedF 7 ns + 1)]) → H' c = some (.lst ((ns.map absI).map V.int)) → Q (.ref t) H'
def isForN (x y : Str) (r : Stmt → Bool) : Stmt → Bool
  | .For t i [b] [] _ => isNm x t && isNm y i && r b
  | _ => false
def isLc (x y : Str) (q : Expr → Bool) (sc N : Scope → Bool) : Expr → Bool
  | .ListComp elt [⟨t, i, [], n⟩] scope _ => decide (n = 0) && isNm x t && isNm y i && q elt && sc scope && N scope
  | _ => false
def isLst2 (q r : Expr → Bool) : Expr → Bool
  | .List [a, b] _ => nst a && nst b && q a && r b
  | _ => false
abbrev tapeN : List Str := ["script", "seed", "cell"]
def tapeSc (scope : Scope) : Bool := decide (scope.names.lookup ("cell" : Str) = some .local) && decide (scope.names.lookup ("abs" : Str) = some .globalImplicit) && decide (scope.names.lookup ("int" : Str) = some .globalImplicit)
def tapeB (sc : Scope) (b : List Stmt) : Bool := match b with
  | [s1, s2, s3] => isSet "seed" (isK 7) s1 && isForN "cell" "script" (isSet "seed" (isBin .Mod (isFn "int" (isBin .Add (isBin .Mult (isNm "seed") (isK 31)) (isNm "cell"))) (isK 1000003))) s2 &&
    isRet (isLst2 (isLc "cell" "script" (isFn "abs" (isFn "int" (isNm "cell"))) tapeSc (fun scope => blkC tapeN sc scope [("cell", 2)])) (isBin .Add (isNm "seed") (isK 1))) s3
  | _ => false
structure TapeSc (sc : Scope) : Prop where
  v0 : sc.names.lookup ("script" : Str) = some .local
  v1 : sc.names.lookup ("seed" : Str) = some .local
  v2 : sc.names.lookup ("cell" : Str) = some .local
  gi : sc.names.lookup ("int" : Str) = some .globalImplicit
section
variable {X : Cx}
def tTape (K : PySem.W.Frag) : TS :=
  tSeq (tAsg (tC (.int 7)) (gName 1))
  (tSeq (tFor (iList K (tVar 0)) (gName 2) (tAsg (tOp (rI (fun _ j => j ≠ 0) fun i j => .int (i.fmod j)) (tCB rInt (tCons (tOp (rI0 fun i j => .int (i + j)) (tOp (rI CMulW fun i j => .int (i * j)) (tVar 1) (tC (.int 31))) (tVar 2)) tNil)) (tC (.int 1000003))) (gName 1)))
  (tRet (tLst (tCons (tLc (iList K (tVar 0)) (gName 2) tYes (tCB (fun xs H Q => ∃ i, xs = [.int i] ∧ Q (.int (if i < 0 then -i else i)) H) (tCons (tCB rInt (tCons (tVar 2) tNil)) tNil)) [2])
    (tCons (tOp (rI0 fun i j => .int (i + j)) (tVar 1) (tC (.int 1))) tNil)))))
theorem pe_Abs {q : Expr → Bool} {e : Expr} {te : TE} (hg : L2.Gl X "abs") (hm : X.mg ("abs" : Str) = none) (hq : ∀ e, q e = true → PE X e te) (h : isFn "abs" q e = true) : PE X e (tCB (fun xs H Q => ∃ i, xs = [.int i] ∧ Q (.int (if i < 0 then -i else i)) H) (tCons te tNil)) := by
  unfold isFn at h
  split at h
  · simp only [Bool.and_eq_true] at h
    obtain ⟨⟨h1, h2⟩, h3⟩ := h
    obtain ⟨p, rfl⟩ := nm_of h1
    exact pe_callB call_abs hg hm (by decide +kernel) (pa_cons (hq _ h3) pa_nil (star_cons h2)) (by decide +kernel) (by decide +kernel) (star_cons h2) rfl
  · cases h
theorem pss_tape {b : List Stmt} (h : tapeB X.env.scope b = true) (hN : X.N = tapeN) (S : TapeSc X.env.scope) (hc : X.calm = true) (hp : PassesOwn (model X.prog X.w) X.A X.env X.xe) (ha : X.mg ("abs" : Str) = none) (hi : X.mg ("int" : Str) = none) : PSs X b (tTape X.K) := by
  have hNd : X.N.Nodup := by rw [hN]; decide +kernel
  have X0 : X.N[0]? = some ("script" : Str) := by rw [hN]; rfl
  have X1 : X.N[1]? = some ("seed" : Str) := by rw [hN]; rfl
  have X2 : X.N[2]? = some ("cell" : Str) := by rw [hN]; rfl
  have P0 : ∀ {p}, PE X (.Name "script" p) (tVar 0) := pe_var X0 (.inl S.v0) (by decide +kernel) (by decide +kernel)
  have P1 : ∀ {p}, PE X (.Name "seed" p) (tVar 1) := pe_var X1 (.inl S.v1) (by decide +kernel) (by decide +kernel)
  have P2 : ∀ {p}, PE X (.Name "cell" p) (tVar 2) := pe_var X2 (.inl S.v2) (by decide +kernel) (by decide +kernel)
  have forR : ∀ st, isForN "cell" "script" (isSet "seed" (isBin .Mod (isFn "int" (isBin .Add (isBin .Mult (isNm "seed") (isK 31)) (isNm "cell"))) (isK 1000003))) st = true → PS X st _ := fun st h => by
    unfold isForN at h
    split at h
    · simp only [Bool.and_eq_true] at h
      obtain ⟨p1, rfl⟩ := nm_of h.1.1
      obtain ⟨p2, rfl⟩ := nm_of h.1.2
      exact ps_for hp hc (pi_list P0) (pg_name hNd X2 (.inl S.v2) (.inr S.v2)) (pss_one (ps_Set hNd X1 S.v1 (fun e => pe_Bin op_modN (fun e => pe_Int S.gi hi (fun e => pe_Bin op_add (fun e => pe_Bin op_mulW (fun e => pe_N P1) (fun e => pe_K)) (fun e => pe_N P2))) (fun e => pe_K)) h.2))
    · cases h
  have lcR : ∀ e, isLc "cell" "script" (isFn "abs" (isFn "int" (isNm "cell"))) tapeSc (fun scope => blkC tapeN X.env.scope scope [("cell", 2)]) e = true → PE X e (tLc (iList X.K (tVar 0)) (gName 2) tYes (tCB (fun xs H Q => ∃ i, xs = [.int i] ∧ Q (.int (if i < 0 then -i else i)) H) (tCons (tCB rInt (tCons (tVar 2) tNil)) tNil)) [2]) := fun e h => by
    unfold isLc at h
    split at h
    · rename_i elt t i n scope pos
      simp only [Bool.and_eq_true, decide_eq_true_eq] at h
      obtain ⟨⟨⟨⟨⟨rfl, h1⟩, h2⟩, h3⟩, h4⟩, h5⟩ := h
      obtain ⟨p1, rfl⟩ := nm_of h1
      obtain ⟨p2, rfl⟩ := nm_of h2
      unfold tapeSc at h4
      simp only [Bool.and_eq_true, decide_eq_true_eq] at h4
      obtain ⟨⟨q1, q2⟩, q3⟩ := h4
      have ok : BlkOk X.N X.env.scope scope [("cell", 2)] := by rw [hN]; exact blkOk_by h5
      have k1 := lookup_relS_keep (sc := X.env.scope) (show NameKind.local ≠ .free by decide) q1
      have k2 := lookup_relS_keep (sc := X.env.scope) (show NameKind.globalImplicit ≠ .free by decide) q2
      have k3 := lookup_relS_keep (sc := X.env.scope) (show NameKind.globalImplicit ≠ .free by decide) q3
      refine pe_lc (own := [("cell", 2)]) hc hNd (pi_list P0) ok (fun s H C cl fp => pg_name hNd X2 (.inl k1) (.inr k1)) (fun s H C cl fp => pts_nil) (fun s H C cl fp => ?_) (fun _ => rfl)
      have PB : ∀ {p}, PE (X.blk s H scope (compEnvC scope cl C X.env) fp) (.Name "cell" p) (tVar 2) := pe_var X2 (.inl k1) (by decide +kernel) (by decide +kernel)
      exact pe_Abs (X := X.blk s H scope (compEnvC scope cl C X.env) fp) k2 ha (fun e => pe_Int (X := X.blk s H scope (compEnvC scope cl C X.env) fp) k3 hi (fun e => pe_N PB)) h3
    · cases h
  have lst2 : ∀ e, isLst2 (isLc "cell" "script" (isFn "abs" (isFn "int" (isNm "cell"))) tapeSc (fun scope => blkC tapeN X.env.scope scope [("cell", 2)])) (isBin .Add (isNm "seed") (isK 1)) e = true → PE X e _ := fun e h => by
    unfold isLst2 at h
    split at h
    · simp only [Bool.and_eq_true] at h
      obtain ⟨⟨⟨h1, h2⟩, h3⟩, h4⟩ := h
      exact pe_lst (pa_cons (lcR _ h3) (pa_cons (pe_Bin op_add (fun e => pe_N P1) (fun e => pe_K) h4) pa_nil (star_cons h2)) (star_cons h1))
    · cases h
  unfold tapeB at h
  split at h
  · simp only [Bool.and_eq_true] at h
    obtain ⟨⟨h1, h2⟩, h3⟩ := h
    exact pss_cons (ps_Set hNd X1 S.v1 (fun e => pe_K) h1) (pss_cons (forR _ h2) (pss_one (ps_Ret lst2 h3)))
  · cases h
end
end Vf
namespace Vf
open PySem PySem.Spec PyProof.Rows L2

theorem seedF_snoc (s : Int) (ns : List Int) (c : Int) : seedF s (ns ++ [c]) = (seedF s ns * 31 + c).fmod 1000003 := by
  unfold seedF
  rw [List.foldl_append]
  rfl
theorem seedF_small : ∀ (ns : List Int) (s : Int), 0 ≤ s → s < 1000003 → 0 ≤ seedF s ns ∧ seedF s ns < 1000003
  | [], s, h1, h2 => ⟨h1, h2⟩
  | c :: r, s, h1, h2 => by
    have a1 := Int.fmod_nonneg_of_pos (s * 31 + c) (by decide : (0 : Int) < 1000003)
    have a2 := Int.fmod_lt_of_pos (s * 31 + c) (by decide : (0 : Int) < 1000003)
    exact seedF_small r _ a1 a2
theorem tape_run {K : PySem.W.Frag} {H : Hp} {l : Addr} {ns : List Int} {Q : VK} (hs : SqL K H l (ns.map V.int)) (hz : ns.length ≤ 1000)
    (q : ∀ t c H', H t = none → H c = none → t ≠ c → (∀ b u, H b = some u → H' b = some u) → H' t = some (.lst [.ref c, .int (seedF 7 ns + 1)]) → H' c = some (.lst ((ns.map absI).map V.int)) → Q (.ref t) H') (D : Ends) (hD : D.rt = Q) : tTape K D (L2.start tapeN [.ref l]) H := by
  show tSeq _ _ D [some (V.ref l), some (V.int 7), none] H
  refine ⟨V.ref l, rfl, l, rfl, ⟨_, hs⟩, ?_⟩
  refine for_it (walk_list (xs := ns.map V.int)) (fun i σ H1 => H1 = H ∧ σ.length = 3 ∧ σ[0]? = some (some (V.ref l)) ∧ σ[1]? = some (some (V.int (seedF 7 (ns.take i))))) ⟨rfl, rfl, rfl, by simp [seedF]⟩ (fun i σ H1 _ h => by rw [h.1]; exact hs) ?_ ?_
  · rintro i x σ H1 H2 hi ⟨rfl, hl, h0, h1⟩ ⟨rfl, hx⟩
    rw [List.getElem?_map] at hx
    cases hc : ns[i]? with
    | none => rw [hc] at hx; cases hx
    | some c =>
      rw [hc] at hx
      cases hx
      obtain ⟨b1, b2⟩ := seedF_small (ns.take i) 7 (by decide) (by decide)
      have e2 : (σ.set 2 (some (V.int c)))[1]? = some (some (V.int (seedF 7 (ns.take i)))) := by rw [List.getElem?_set_ne (by decide)]; exact h1
      have e3 : (σ.set 2 (some (V.int c)))[2]? = some (some (V.int c)) := List.getElem?_set_self (by omega)
      have hm : CMulW (seedF 7 (ns.take i)) 31 := by
        have h1 : (seedF 7 (ns.take i)).natAbs.log2 < 32 := log_lt (by decide) (by omega)
        have h2 : (31 : Int).natAbs.log2 < 32 := log_lt (by decide) (by decide)
        show _ + _ < _
        omega
      refine ⟨_, e2, _, _, rfl, rfl, hm, _, e3, _, _, rfl, rfl, .inl ⟨_, rfl, _, _, rfl, rfl, (by decide : (1000003 : Int) ≠ 0), ?_⟩⟩
      have ht : ns.take (i + 1) = ns.take i ++ [c] := by rw [List.take_add_one, hc]; rfl
      refine ⟨rfl, by simp [hl], ?_, ?_⟩
      · rw [List.getElem?_set_ne (by decide), List.getElem?_set_ne (by decide)]; exact h0
      · rw [List.getElem?_set_self (by simp [hl]), ht, seedF_snoc]
  · rintro σ H1 ⟨rfl, hl, h0, h1⟩
    rw [List.length_map, List.take_length] at h1
    refine ⟨V.ref l, h0, l, rfl, ⟨_, hs⟩, fun C hC => ?_⟩
    have same : ∀ xs, Same H1 (upd H1 C (.lst xs)) := fun xs b u e => by rw [upd_ne]; exact e; intro z; subst z; rw [hC] at e; cases e
    have hsC : ∀ xs, SqL K (upd H1 C (.lst xs)) l (ns.map V.int) := fun xs => (same xs).seq hs
    refine lc_list (xs := ns.map V.int) (fun i H2 => H2 = upd H1 C (.lst (((ns.take i).map absI).map V.int))) (by simp) (fun i H2 _ h => by rw [h]; exact hsC _) ?_ ?_
    · rintro i x H2 hx rfl
      rw [List.getElem?_map] at hx
      cases hc : ns[i]? with
      | none => rw [hc] at hx; cases hx
      | some c =>
        rw [hc] at hx
        cases hx
        have e3 : ((wipe σ [2]).set 2 (some (V.int c)))[2]? = some (some (V.int c)) := List.getElem?_set_self (by rw [wipe_length]; omega)
        have ew : wipe ((wipe σ [2]).set 2 (some (V.int c))) [2] = wipe σ [2] := by simp [wipe]
        refine ⟨ew, ?_⟩
        unfold tYes
        dsimp only
        rw [if_pos rfl]
        refine ⟨_, e3, .inl ⟨_, rfl, _, rfl, _, upd_same, ?_, ?_⟩⟩
        · have := line16
          simp only [List.length_map, List.length_take]
          omega
        · have ht : ns.take (i + 1) = ns.take i ++ [c] := by rw [List.take_add_one, hc]; rfl
          rw [upd_upd, ht, List.map_append, List.map_append]
          rfl
    · rintro H2 rfl
      rw [List.length_map, List.take_length]
      refine ⟨_, h1, _, _, rfl, rfl, (by show 2 ≤ sizeLine; decide), fun t ht => ?_⟩
      rw [hD]
      have hne : t ≠ C := fun z => by rw [z, upd_same] at ht; cases ht
      rw [upd_ne hne] at ht
      refine q t C _ ht hC hne (fun b u e => ?_) upd_same ?_
      · rw [upd_ne, upd_ne]
        · exact e
        · intro z; subst z; rw [hC] at e; cases e
        · intro z; subst z; rw [ht] at e; cases e
      · rw [upd_ne (Ne.symm hne), upd_same]
theorem tape_ok {P : Program} {w : World} {K : PySem.W.Frag} {mg : Str → Option Value} {base : Heap} {x qual : Str} {params : Arguments} {body : List Stmt} {scope : Scope} {f : Addr} {fd : FuncData}
    (F : FunD K x qual params body scope [] [] f fd) (S : FnScope tapeN ["script"] scope) (D : TapeSc scope) (hb : tapeB scope body = true) (ha : mg ("abs" : Str) = none) (hi : mg ("int" : Str) = none) :
    ∀ k, FnOk P w K mg base (L2.CX P w) (k + 1) f fd ["script"] (spTape K) := fun k => by
  refine F.ok S (fun vs H Q E h => h.1) fun cdv A outer s H vs Q E hr h => ?_
  let X := cxOf (L2.CX P w) P w K mg base tapeN qual scope f cdv A outer s H E
  refine ⟨_, pss_tape (X := X) hb rfl D rfl (passes_of (X := X) rfl) ha hi, ?_⟩
  obtain ⟨_, l, ns, hz, rfl, hs, q⟩ := h
  exact tape_run hs hz q _ rfl
end Vf
namespace Vf
open PySem PySem.Spec PyProof.Rows L2

def lawS (n i : Nat) (ns : List Int) : S := ⟨(List.replicate n none).set i (some (false, .tape)), some (ns.map absI, seedF 7 ns + 1)⟩
def spLaw (K : PySem.W.Frag) (m : Nat) : Sp := fun vs H Q _ => vs.length = 1 ∧ ∃ (a : Addr) (ns : List Int), ns.length ≤ m ∧ vs = [.ref a] ∧ SqL K H a (ns.map V.int) ∧ ∀ H', Q (.bl true) H'
def lawB (C : Cn) (N : List Str) (i : Nat) (sc : Scope) (f : Sxs) (b : List Stmt) : Bool := match b with
  | s0 :: rest => isSet "tape" (isFn "_law_tape" (isNm "script")) s0 && decide (N[i]? = some ("tape" : Str)) && locB sc "tape" && decide (sc.names.lookup ("script" : Str) = some .local) && decide (N[0]? = some ("script" : Str)) &&
    decide (sc.names.lookup ("_law_tape" : Str) = some .globalImplicit) && ckSs C ⟨sc, sc, N⟩ f rest
  | [] => false
theorem ps_SetL {X : Cx} {x : Str} {i : Nat} {q : Expr → Bool} {st : Stmt} {te : TE} (hNd : X.N.Nodup) (hi : X.N[i]? = some x) (hl : Loc X.env.scope x) (hf : X.fn x = true) (hq : ∀ e, q e = true → PE X e te) (h : isSet x q st = true) : PS X st (tAsg te (gName i)) := by
  unfold isSet at h
  split at h
  · rename_i y p a pos
    simp only [Bool.and_eq_true, decide_eq_true_eq] at h
    obtain ⟨⟨rfl, h1⟩, h2⟩ := h
    refine ps_set hNd hi hl (hq _ h2) ?_ (.inl hf)
    cases a <;> first | rfl | cases h1
  · cases h
theorem locB_ok {sc : Scope} {x : Str} (h : locB sc x = true) : Loc sc x := by
  unfold locB at h
  split at h
  · exact .inl (by assumption)
  · exact .inr (by assumption)
  · cases h
theorem law_ok {C : Cn} {P : Program} {w : World} {K : PySem.W.Frag} {mg : Str → Option Value} {base : Heap} {k : Nat} {Ps : List Fn} {fb : Sxs} {N : List Str} {i m : Nat} {x qual : Str} {params : Arguments} {body : List Stmt} {scope : Scope} {dvs : List V} {kws : List (Str × V)} {f ft : Addr} {fd fdt : FuncData}
    (pf : PF C (run Ps (k + 1)) ⟨P, w, K, mg, base, k + 1⟩) (F : FunD K x qual params body scope dvs kws f fd) (Sc : FnScope N ["script"] scope) (hb : lawB C N i scope fb body = true)
    (ht : mg ("_law_tape" : Str) = some (.ref ft)) (hk : PySem.W.keepIn K (.ref ft) = true) (bt : L2.Binds K fdt ["script"] []) (Ft : ∀ k, FnOk P w K mg base (L2.CX P w) (k + 1) ft fdt ["script"] (spTape K)) (hm : m ≤ 1000)
    (math : ∀ ns : List Int, ns.length ≤ m → ∃ fr s', evSs (run Ps (k + 1)) fb (lawS N.length i ns) = .ok (.rt (.bl true) fr) s') :
    FnOk P w K mg base (L2.CX P w) (k + 2) f fd ["script"] (spLaw K m) := by
  refine F.ok Sc (fun vs H Q E h => h.1) fun cdv A outer s H vs Q E hr h => ?_
  let X := cxOf (L2.CX P w) P w K mg base N qual scope f cdv A outer s H E
  let W : WX := fun cls d _ H => E cls d H
  have tk : Takes X W := takes_of (X := X) rfl rfl rfl rfl
  have G : GoodS C (run Ps (k + 1)) (k + 1) ⟨scope, scope, N⟩ X W := by
    refine ⟨⟨rfl, Sc.nd, rfl, fun y hy => ⟨hy, .inl rfl⟩, rfl, hr, tk, pf⟩, Sc.kind, passes_of (X := X) rfl, rfl, rfl⟩
  unfold lawB at hb
  split at hb
  · rename_i s0 rest
    simp only [Bool.and_eq_true, decide_eq_true_eq] at hb
    obtain ⟨⟨⟨⟨⟨⟨h1, h2⟩, h3⟩, h4⟩, h5⟩, h6⟩, h7⟩ := hb
    have P0 : ∀ {p}, PE X (.Name "script" p) (tVar 0) := pe_var h5 (.inl h4) (by decide +kernel) (by decide +kernel)
    have callR : ∀ e, isFn "_law_tape" (isNm "script") e = true → PE X e (tCallS (spTape K) (WE W) (tCons (tVar 0) tNil)) := fun e h => by
      unfold isFn at h
      split at h
      · simp only [Bool.and_eq_true] at h
        obtain ⟨⟨g1, g2⟩, g3⟩ := h
        obtain ⟨p, rfl⟩ := nm_of g1
        exact pe_callS (X := X) (Ft k) hr h6 ht hk bt (fun σ => passAt tk σ) (pa_cons (pe_N P0 g3) pa_nil (star_cons g2)) (by decide +kernel) (star_cons g2) rfl
      · cases h
    refine ⟨_, pss_cons (ps_SetL (X := X) Sc.nd h2 (locB_ok h3) rfl callR h1) (sound_Ss fb G h7), ?_⟩
    obtain ⟨_, a, ns, hz, rfl, hs, q⟩ := h
    have hN0 : 0 < N.length := (List.getElem?_eq_some_iff.mp h5).1
    have hNi : i < N.length := (List.getElem?_eq_some_iff.mp h2).1
    refine ⟨V.ref a, rfl, rfl, a, ns, Nat.le_trans hz hm, rfl, hs, fun t c H' t1 t2 ne kp t3 t4 => ?_⟩
    obtain ⟨fr, s', hev⟩ := math ns hz
    have lkS : ∀ {j : Nat} {y : Bool × D}, lk (lawS N.length i ns) j = some y → j = i ∧ y = (false, .tape) := fun {j y} e => by
      unfold lk lawS at e
      simp only at e
      by_cases hj : j = i
      · subst hj
        rw [List.getElem?_set_self (by simpa using hNi)] at e
        exact ⟨rfl, (Option.some.inj e).symm⟩
      · rw [List.getElem?_set_ne (Ne.symm hj), List.getElem?_replicate] at e
        split at e <;> cases e
    have hl : (L2.start N [V.ref a]).length = N.length := by simp [L2.start]; omega
    refine ⟨fun _ => none, fun _ => False, fun _ => 0, some (t, c), [], lawS N.length i ns, ?_, ?_⟩
    · refine ⟨by rw [List.length_set, hl]; simp [lawS], (fun b u e => by cases e), (fun p hp => by cases hp), fun j d e => ?_, fun j d e => ?_, fun j j2 d e w1 => ?_, ⟨fun b _ z => z, ?_⟩, fun b z => z.elim⟩
      · obtain ⟨rfl, e2⟩ := lkS e
        cases e2
        exact ⟨.ref t, List.getElem?_set_self (by rw [hl]; exact hNi), .tape rfl⟩
      · obtain ⟨_, e2⟩ := lkS e; cases e2
      · obtain ⟨_, e2⟩ := lkS w1; cases e2
      · exact ⟨ne, t3, t4⟩
    · unfold WPm
      rw [hev]
      intro v o σ H2 rt
      have ev : v = .bl true := by
        cases fr with
        | false =>
          have rt : RelS K (fun _ => none) (fun _ => False) o (some (t, c)) [(v, .bl true)] σ s' H2 := rt
          have := rt.fz (v, .bl true) List.mem_cons_self
          cases this; rfl
        | true =>
          obtain ⟨_, _, _, _, _, _, _, cc, _⟩ := rt
          cases cc
      subst ev
      exact q H2
  · cases hb
def AllP {α : Type} (Q : α → Prop) : List α → Prop
  | [] => True
  | a :: l => Q a ∧ AllP Q l
theorem AllP.mem {α : Type} {Q : α → Prop} : ∀ {l : List α}, AllP Q l → ∀ a ∈ l, Q a
  | [], _, _, h => by cases h
  | b :: l, ⟨h1, h2⟩, a, h => (List.mem_cons.mp h).elim (fun e => e ▸ h1) fun e => AllP.mem h2 a e
theorem lookup_memS {β : Type} : ∀ {l : List (Str × β)} {i : Str} {x : β}, l.lookup i = some x → (i, x) ∈ l
  | [], _, _, h => by cases h
  | (j, y) :: r, i, x, h => by
    rw [List.lookup_cons] at h
    by_cases e : i = j
    · subst e
      simp at h
      subst h
      exact List.mem_cons_self
    · have e' : (i == j) = false := by simpa using e
      rw [e'] at h
      exact List.mem_cons_of_mem _ (lookup_memS h)
def lenKeyB (b : List Stmt) (sc : Scope) (x : Str) : Bool := match b with
  | [.Return (some (.Tuple [.Call (.Name l _) [.Name y _] [] _, .Name z _] _ _)) _] => decide (l = ("len" : Str)) && decide (y = x) && decide (z = x) && decide (sc.names.lookup x = some .local) && decide (sc.names.lookup ("len" : Str) = some .globalImplicit) && !(x == ("__debug__" : Str))
  | _ => false
theorem lenKeyB_ok {b : List Stmt} {sc : Scope} {x : Str} {N : List Str} (S : FnScope N [x] sc) (h : lenKeyB b sc x = true) : LenKey b sc x := by
  unfold lenKeyB at h
  split at h
  · simp only [Bool.and_eq_true, decide_eq_true_eq, Bool.not_eq_true'] at h
    obtain ⟨⟨⟨⟨⟨rfl, rfl⟩, rfl⟩, h1⟩, h2⟩, h3⟩ := h
    exact ⟨⟨_, _, _, _, _, _, _, rfl⟩, h1, h2, S.kind, S.co, S.gen, h3⟩
  · cases h
theorem exc_of {K : PySem.W.Frag} {mg : Str → Option Value} {x : Str} (c : (He.Fa.exc x).ok K = true) (g : mg x = some (.ref (He.ga K x))) : ExcOk K mg x (He.ga K x) := by
  obtain ⟨c1, c2, c3, c4⟩ := He.exc_ok c
  exact ⟨He.veBase, "ValueError", "ValueError.__new__", "ValueError.__init__", PySem.F.excBase_ValueError, c1, g, c2, c3, c4⟩
theorem con_int {K : PySem.W.Frag} {h : Heap} {mg : Str → Option Value} (X : K.In h) (G : h.Ns mainGlobals mg) {x : Str} {i : Int} (c : (He.Fa.int x i).ok K = true) : ∃ v u, mg x = some u ∧ RelV v u ∧ ∀ P τ H, Rep K P τ H v (.int i) := by
  obtain ⟨t, e⟩ := He.int_ok X G c
  exact ⟨.int i, _, e, ⟨t, rfl⟩, fun _ _ _ => .int i⟩
theorem con_tup {K : PySem.W.Frag} {mg : Str → Option Value} {x : Str} (g : mg x = some (.ref (He.ga K x))) {ns : List Int} (hB : He.tupB K x (ns.map He.Dv.int) = true) : ∃ v u, mg x = some u ∧ RelV v u ∧ ∀ P τ H, Rep K P τ H v (.ktup (ns.map .int)) := by
  refine ⟨.ref (He.ga K x), _, g, rfl, fun P τ H => ?_⟩
  have e : (ns.map He.Dv.int).map (He.Dv.v K) = ns.map V.int := by rw [List.map_map]; rfl
  have h := He.tupB_ok hB (fun _ => none)
  rw [e] at h
  rcases h with h | h
  · rcases h with h | ⟨o, h⟩ <;> cases h
  · exact .ktup h (ints_repV ns)
theorem walk_ofX {l : PySem.W.OpenLaw} {n k : Nat} {q : Program} {loose : List Str} {XP : (Str → Option Value) → Heap → Prop} {YP : World → Heap → Prop} {d : DefRec} {x : Str}
    (hn : l.most = some n) (hn2 : n ≤ sizeLine) (hdf : d.params.defaults = []) (hr : Room k callerA)
    (F : ∀ (w : World) (mg : Str → Option Value) (fa : Addr) (h : Heap), YP w h → h.Ns mainGlobals mg → mg d.name = some (.ref fa) →
      ∃ (K : PySem.W.Frag) (fd : FuncData) (sp : Sp), K.In h ∧ (∀ (s : Shared) (u : Value), BindsTo s fd ⟨[u], []⟩ [(x, u)]) ∧
        (∀ (H : Hp) (a : Addr) (ns : List Int), ns.length ≤ n → Only H → SqL K H a (ns.map V.int) → sp [.ref a] H (fun v _ => v = .bl true) fun _ _ _ => False) ∧
        ∀ base : Heap, K.In base → base.Ns mainGlobals mg → FnOk l.prog w K mg base (L2.CX l.prog w) k fa fd [x] sp) :
    PySem.W.WalkO q loose XP YP l.row.toRowW d [] (fun f vs => PySem.call f vs) := by
  refine Att.attach_call hn hdf fun w s₀ s₁ mg mb fa o pm cd doc a vs ns G Y ho hd hcd hmg hobj hints hlen hg => ?_
  obtain ⟨K, fd, sp, KX, hb, hsp, hF⟩ := F w mg fa _ Y G.T.g hmg
  refine law_call KX G.T.g G.T.b G.T.builtins G.T.nolimit hg hobj hints (Nat.le_trans hlen hn2) hr hF hb (fun H hO hS => hsp H a ns hlen hO hS) fun H e s' h => ?_
  obtain ⟨_, _, _, _, _, _, _, _, _, _, _, _, z⟩ := h
  exact z
end Vf
namespace HL
open PySem PySem.Spec PyProof.Rows L2 Vf
abbrev prog : Program := PySem.Challenge.pw_bracketwords_k62_whole_paths_that_are_sh
def top (i : Nat) : Stmt := PySem.Challenge.pw_bracketwords_k62_whole_paths_that_are_sh.main.body.getD i (.Pass ⟨0, 0, 0, 0⟩)
def Ct : Cn := ⟨([("is_integer", 0), ("is_ratio", 1), ("divisor", 2), ("make", 3), ("add", 4), ("add_ratios", 5), ("multiply", 6), ("negative", 7), ("is_word", 8), ("is_sum", 9), ("check_sum", 10), ("key", 11), ("gathered", 12), ("of_word", 13), ("one", 14), ("add_sums", 4), ("scaled", 15), ("minus", 16), ("cut_product", 17), ("number_at", 18), ("check_depth", 19), ("exponential", 20), ("is_path", 21), ("check_path", 22), ("step_sum", 23)] : List (Str × Nat)) ++ ([("signature", 24), ("back", 25), ("are_along", 26), ("shortened", 27), ("are_alike", 28), ("first_unlike", 29), ("_law_draw", 31), ("_law_same", 32), ("_law_frac", 33), ("_law_plus", 34), ("_law_by", 35), ("_law_over", 36), ("_law_number", 37), ("_law_words", 38), ("_law_all", 39), ("_law_step", 40), ("_law_path", 41), ("_law_worth", 42), ("_law_along", 43), ("_law_short", 44), ("_law_spoilt", 45)] : List (Str × Nat)),
  (["BracketError", "BadNumber", "BadSum", "BadRow", "BadSize"] : List (Str)),
  ([("ZERO", (.ktup [(.int (0)), (.int (1))])), ("ONE", (.ktup [(.int (1)), (.int (1))])), ("MOST_LETTERS", (.int (9))), ("MOST_WORD", (.int (60))), ("MOST_TERMS", (.int (6000))), ("MOST_DEPTH", (.int (10))), ("MOST_STEPS", (.int (12))), ("MOST_SPACE", (.int (4)))] : List (Str × D)),
  (["ValueError", "abs", "all", "any", "bool", "enumerate", "int", "isinstance", "len", "list", "range", "sorted", "str", "tuple", "zip"] : List (Str)),
  (["key"] : List (Str)),
  ([1, 1, 2, 2, 2, 2, 2, 1, 1, 1, 1, 1, 1, 1, 0, 2, 2, 3, 2, 1, 2, 1, 1, 1, 2] : List (Nat)) ++ ([1, 2, 1, 2, 3, 1, 2, 2, 2, 2, 2, 2, 1, 2, 2, 2, 3, 2, 2, 1, 3, 1] : List (Nat)),
  fun i j => decide ((i, j) ∈ (([(0, 0), (1, 0), (1, 1), (2, 0), (2, 2), (3, 0), (3, 3), (4, 0), (4, 4)] : List (Nat × Nat))))⟩
def n_is_integer : List Str := ["value"]
def p_is_integer : List Str := ["value"]
def b_is_integer : Fd := ⟨1, 1, (.cons (.ret (.and (.prim (.isT "int") (.cons (.var 0) .nil)) (.not (.prim (.isT "bool") (.cons (.var 0) .nil)))))
  .nil)⟩

def n_is_ratio : List Str := ["value", "item"]
def p_is_ratio : List Str := ["value"]
def b_is_ratio : Fd := ⟨2, 1, (.cons (.ite (.or (.not (.prim (.isT "tuple") (.cons (.var 0) .nil))) (.or (.prim (.cmp .NotEq) (.cons (.prim (.blt "len") (.cons (.var 0) .nil)) (.cons (.cst (.int (2))) .nil))) (.not (.prim (.blt "all") (.cons (.comp [1] [1] (.ex (.var 0)) .nil (.call 0 (.cons (.var 1) .nil))) .nil))))) (.cons (.ret (.cst (.bl false)))
  .nil) .nil)
  (.cons (.ret (.and (.prim (.cmp .Gt) (.cons (.prim .idx (.cons (.var 0) (.cons (.cst (.int (1))) .nil))) (.cons (.cst (.int (0))) .nil))) (.prim (.cmp .Eq) (.cons (.call 2 (.cons (.prim .idx (.cons (.var 0) (.cons (.cst (.int (0))) .nil))) (.cons (.prim .idx (.cons (.var 0) (.cons (.cst (.int (1))) .nil))) .nil))) (.cons (.cst (.int (1))) .nil)))))
  .nil))⟩

def n_divisor : List Str := ["one", "other"]
def p_divisor : List Str := ["one", "other"]
def b_divisor : Fd := ⟨2, 2, (.cons (.par [0, 1] (.cons (.prim (.blt "abs") (.cons (.var 0) .nil)) (.cons (.prim (.blt "abs") (.cons (.var 1) .nil)) .nil)))
  (.cons (.while_ (.prim (.cmp .Gt) (.cons (.var 1) (.cons (.cst (.int (0))) .nil))) (.cons (.par [0, 1] (.cons (.var 1) (.cons (.prim (.bin .Mod) (.cons (.var 0) (.cons (.var 1) .nil))) .nil)))
  .nil))
  (.cons (.ret (.var 0))
  .nil)))⟩

def n_make : List Str := ["above", "below", "common"]
def p_make : List Str := ["above", "below"]
def b_make : Fd := ⟨3, 2, (.cons (.ite (.prim (.cmp .Eq) (.cons (.var 1) (.cons (.cst (.int (0))) .nil))) (.cons (.raise 1)
  .nil) .nil)
  (.cons (.set 2 (.call 2 (.cons (.var 0) (.cons (.var 1) .nil))))
  (.cons (.ite (.prim (.cmp .Lt) (.cons (.var 1) (.cons (.cst (.int (0))) .nil))) (.cons (.set 2 (.prim .neg (.cons (.var 2) .nil)))
  .nil) .nil)
  (.cons (.ret (.tup (.cons (.prim (.bin .FloorDiv) (.cons (.var 0) (.cons (.var 2) .nil))) (.cons (.prim (.bin .FloorDiv) (.cons (.var 1) (.cons (.var 2) .nil))) .nil))))
  .nil))))⟩

def n_add : List Str := ["first", "other"]
def p_add : List Str := ["first", "other"]
def b_add : Fd := ⟨2, 2, (.cons (.ret (.call 12 (.cons (.prim (.bin .Add) (.cons (.var 0) (.cons (.var 1) .nil))) .nil)))
  .nil)⟩

def n_add_ratios : List Str := ["one", "other"]
def p_add_ratios : List Str := ["one", "other"]
def b_add_ratios : Fd := ⟨2, 2, (.cons (.ret (.call 3 (.cons (.prim (.bin .Add) (.cons (.prim (.bin .Mult) (.cons (.prim .idx (.cons (.var 0) (.cons (.cst (.int (0))) .nil))) (.cons (.prim .idx (.cons (.var 1) (.cons (.cst (.int (1))) .nil))) .nil))) (.cons (.prim (.bin .Mult) (.cons (.prim .idx (.cons (.var 1) (.cons (.cst (.int (0))) .nil))) (.cons (.prim .idx (.cons (.var 0) (.cons (.cst (.int (1))) .nil))) .nil))) .nil))) (.cons (.prim (.bin .Mult) (.cons (.prim .idx (.cons (.var 0) (.cons (.cst (.int (1))) .nil))) (.cons (.prim .idx (.cons (.var 1) (.cons (.cst (.int (1))) .nil))) .nil))) .nil))))
  .nil)⟩

def n_multiply : List Str := ["one", "other"]
def p_multiply : List Str := ["one", "other"]
def b_multiply : Fd := ⟨2, 2, (.cons (.ret (.call 3 (.cons (.prim (.bin .Mult) (.cons (.prim .idx (.cons (.var 0) (.cons (.cst (.int (0))) .nil))) (.cons (.prim .idx (.cons (.var 1) (.cons (.cst (.int (0))) .nil))) .nil))) (.cons (.prim (.bin .Mult) (.cons (.prim .idx (.cons (.var 0) (.cons (.cst (.int (1))) .nil))) (.cons (.prim .idx (.cons (.var 1) (.cons (.cst (.int (1))) .nil))) .nil))) .nil))))
  .nil)⟩

def n_negative : List Str := ["number"]
def p_negative : List Str := ["number"]
def b_negative : Fd := ⟨1, 1, (.cons (.ret (.tup (.cons (.prim .neg (.cons (.prim .idx (.cons (.var 0) (.cons (.cst (.int (0))) .nil))) .nil)) (.cons (.prim .idx (.cons (.var 0) (.cons (.cst (.int (1))) .nil))) .nil))))
  .nil)⟩

def n_is_word : List Str := ["value", "item"]
def p_is_word : List Str := ["value"]
def b_is_word : Fd := ⟨2, 1, (.cons (.ite (.or (.not (.prim (.isT "tuple") (.cons (.var 0) .nil))) (.prim (.cmp .Gt) (.cons (.prim (.blt "len") (.cons (.var 0) .nil)) (.cons (.glo "MOST_WORD" (.int (60))) .nil)))) (.cons (.ret (.cst (.bl false)))
  .nil) .nil)
  (.cons (.ret (.prim (.blt "all") (.cons (.comp [1] [1] (.ex (.var 0)) .nil (.and (.call 0 (.cons (.var 1) .nil)) (.and (.prim (.cmp .LtE) (.cons (.cst (.int (0))) (.cons (.var 1) .nil))) (.prim (.cmp .Lt) (.cons (.var 1) (.cons (.glo "MOST_LETTERS" (.int (9))) .nil)))))) .nil)))
  .nil))⟩

def n_is_sum : List Str := ["value", "term", "one", "other"]
def p_is_sum : List Str := ["value"]
def b_is_sum : Fd := ⟨4, 1, (.cons (.ite (.or (.not (.prim (.isT "tuple") (.cons (.var 0) .nil))) (.prim (.cmp .Gt) (.cons (.prim (.blt "len") (.cons (.var 0) .nil)) (.cons (.glo "MOST_TERMS" (.int (6000))) .nil)))) (.cons (.ret (.cst (.bl false)))
  .nil) .nil)
  (.cons (.for_ [1] (.ex (.var 0)) (.cons (.ite (.or (.not (.prim (.isT "tuple") (.cons (.var 1) .nil))) (.or (.prim (.cmp .NotEq) (.cons (.prim (.blt "len") (.cons (.var 1) .nil)) (.cons (.cst (.int (2))) .nil))) (.not (.call 8 (.cons (.prim .idx (.cons (.var 1) (.cons (.cst (.int (0))) .nil))) .nil))))) (.cons (.ret (.cst (.bl false)))
  .nil) .nil)
  (.cons (.ite (.or (.not (.call 1 (.cons (.prim .idx (.cons (.var 1) (.cons (.cst (.int (1))) .nil))) .nil))) (.prim (.cmp .Eq) (.cons (.prim .idx (.cons (.var 1) (.cons (.cst (.int (1))) .nil))) (.cons (.glo "ZERO" (.ktup [(.int (0)), (.int (1))])) .nil)))) (.cons (.ret (.cst (.bl false)))
  .nil) .nil)
  .nil)))
  (.cons (.ret (.prim (.blt "all") (.cons (.comp [2, 3] [2, 3] (.zip (.var 0) (.prim (.sl true false) (.cons (.var 0) (.cons (.cst (.int (1))) .nil)))) .nil (.prim (.cmp .Lt) (.cons (.call 11 (.cons (.prim .idx (.cons (.var 2) (.cons (.cst (.int (0))) .nil))) .nil)) (.cons (.call 11 (.cons (.prim .idx (.cons (.var 3) (.cons (.cst (.int (0))) .nil))) .nil)) .nil)))) .nil)))
  .nil)))⟩

def n_check_sum : List Str := ["value"]
def p_check_sum : List Str := ["value"]
def b_check_sum : Fd := ⟨1, 1, (.cons (.ite (.not (.call 9 (.cons (.var 0) .nil))) (.cons (.raise 2)
  .nil) .nil)
  .nil)⟩

def n_key : List Str := ["word"]
def p_key : List Str := ["word"]
def b_key : Fd := ⟨1, 1, (.cons (.ret (.tup (.cons (.prim (.blt "len") (.cons (.var 0) .nil)) (.cons (.var 0) .nil))))
  .nil)⟩

def n_gathered : List Str := ["terms", "known", "word", "number", "found"]
def p_gathered : List Str := ["terms"]
def b_gathered : Fd := ⟨5, 1, (.cons (.set 1 (.dic true))
  (.cons (.for_ [2, 3] (.ex (.var 0)) (.cons (.put 1 (.var 2) (.ite (.prim (.cmp .In) (.cons (.var 2) (.cons (.var 1) .nil))) (.call 5 (.cons (.prim .idx (.cons (.var 1) (.cons (.var 2) .nil))) (.cons (.var 3) .nil))) (.var 3)))
  .nil))
  (.cons (.set 4 (.prim (.blt "tuple") (.cons (.comp [2] [2] (.ex (.sortk (.var 1) 11)) (.cons (.prim (.cmp .NotEq) (.cons (.prim .idx (.cons (.var 1) (.cons (.var 2) .nil))) (.cons (.glo "ZERO" (.ktup [(.int (0)), (.int (1))])) .nil))) .nil) (.tup (.cons (.var 2) (.cons (.prim .idx (.cons (.var 1) (.cons (.var 2) .nil))) .nil)))) .nil)))
  (.cons (.ite (.prim (.cmp .Gt) (.cons (.prim (.blt "len") (.cons (.var 4) .nil)) (.cons (.glo "MOST_TERMS" (.int (6000))) .nil))) (.cons (.raise 4)
  .nil) .nil)
  (.cons (.ret (.var 4))
  .nil)))))⟩

def n_of_word : List Str := ["word"]
def p_of_word : List Str := ["word"]
def b_of_word : Fd := ⟨1, 1, (.cons (.ret (.tup (.cons (.tup (.cons (.var 0) (.cons (.glo "ONE" (.ktup [(.int (1)), (.int (1))])) .nil))) .nil)))
  .nil)⟩

def n_one : List Str := []
def p_one : List Str := []
def b_one : Fd := ⟨0, 0, (.cons (.ret (.call 13 (.cons (.tup .nil) .nil)))
  .nil)⟩

def n_scaled : List Str := ["number", "first", "word", "item"]
def p_scaled : List Str := ["number", "first"]
def b_scaled : Fd := ⟨4, 2, (.cons (.ite (.prim (.cmp .Eq) (.cons (.var 0) (.cons (.glo "ZERO" (.ktup [(.int (0)), (.int (1))])) .nil))) (.cons (.ret (.tup .nil))
  .nil) .nil)
  (.cons (.ret (.prim (.blt "tuple") (.cons (.comp [2, 3] [2, 3] (.ex (.var 1)) .nil (.tup (.cons (.var 2) (.cons (.call 6 (.cons (.var 0) (.cons (.var 3) .nil))) .nil)))) .nil)))
  .nil))⟩

def n_minus : List Str := ["first", "other"]
def p_minus : List Str := ["first", "other"]
def b_minus : Fd := ⟨2, 2, (.cons (.ret (.call 12 (.cons (.prim (.bin .Add) (.cons (.var 0) (.cons (.call 15 (.cons (.tup (.cons (.prim .neg (.cons (.cst (.int (1))) .nil)) (.cons (.cst (.int (1))) .nil))) (.cons (.var 1) .nil))) .nil))) .nil)))
  .nil)⟩

def n_cut_product : List Str := ["first", "other", "depth", "terms", "word", "number", "mate", "item"]
def p_cut_product : List Str := ["first", "other", "depth"]
def b_cut_product : Fd := ⟨8, 3, (.cons (.set 3 (.lst .nil))
  (.cons (.for_ [4, 5] (.ex (.var 0)) (.cons (.for_ [6, 7] (.ex (.var 1)) (.cons (.ite (.prim (.cmp .LtE) (.cons (.prim (.bin .Add) (.cons (.prim (.blt "len") (.cons (.var 4) .nil)) (.cons (.prim (.blt "len") (.cons (.var 6) .nil)) .nil))) (.cons (.var 2) .nil))) (.cons (.app 3 (.tup (.cons (.prim (.bin .Add) (.cons (.var 4) (.cons (.var 6) .nil))) (.cons (.call 6 (.cons (.var 5) (.cons (.var 7) .nil))) .nil))))
  .nil) .nil)
  .nil))
  .nil))
  (.cons (.ret (.call 12 (.cons (.var 3) .nil)))
  .nil)))⟩

def n_number_at : List Str := ["first", "word", "mate", "item"]
def p_number_at : List Str := ["first", "word"]
def b_number_at : Fd := ⟨4, 2, (.cons (.for_ [2, 3] (.ex (.var 0)) (.cons (.ite (.prim (.cmp .Eq) (.cons (.var 2) (.cons (.var 1) .nil))) (.cons (.ret (.var 3))
  .nil) .nil)
  .nil))
  (.cons (.ret (.glo "ZERO" (.ktup [(.int (0)), (.int (1))])))
  .nil))⟩

def n_check_depth : List Str := ["depth"]
def p_check_depth : List Str := ["depth"]
def b_check_depth : Fd := ⟨1, 1, (.cons (.ite (.or (.not (.call 0 (.cons (.var 0) .nil))) (.or (.prim (.cmp .Lt) (.cons (.var 0) (.cons (.cst (.int (0))) .nil))) (.prim (.cmp .Gt) (.cons (.var 0) (.cons (.glo "MOST_DEPTH" (.int (10))) .nil))))) (.cons (.raise 1)
  .nil) .nil)
  .nil)⟩

def n_exponential : List Str := ["first", "depth", "found", "now", "step"]
def p_exponential : List Str := ["first", "depth"]
def b_exponential : Fd := ⟨5, 2, (.cons (.expr (.call 10 (.cons (.var 0) .nil)))
  (.cons (.expr (.call 19 (.cons (.var 1) .nil)))
  (.cons (.ite (.prim (.cmp .NotEq) (.cons (.call 18 (.cons (.var 0) (.cons (.tup .nil) .nil))) (.cons (.glo "ZERO" (.ktup [(.int (0)), (.int (1))])) .nil))) (.cons (.raise 2)
  .nil) .nil)
  (.cons (.par [2, 3] (.cons (.call 14 .nil) (.cons (.call 14 .nil) .nil)))
  (.cons (.for_ [4] (.rng2 (.cst (.int (1))) (.prim (.bin .Add) (.cons (.var 1) (.cons (.cst (.int (1))) .nil)))) (.cons (.set 3 (.call 15 (.cons (.tup (.cons (.cst (.int (1))) (.cons (.var 4) .nil))) (.cons (.call 17 (.cons (.var 3) (.cons (.var 0) (.cons (.var 1) .nil)))) .nil))))
  (.cons (.set 2 (.call 4 (.cons (.var 2) (.cons (.var 3) .nil))))
  .nil)))
  (.cons (.ret (.var 2))
  .nil))))))⟩

def n_is_path : List Str := ["value", "step", "item"]
def p_is_path : List Str := ["value"]
def b_is_path : Fd := ⟨3, 1, (.cons (.ite (.or (.not (.prim (.isT "tuple") (.cons (.var 0) .nil))) (.prim (.cmp .Gt) (.cons (.prim (.blt "len") (.cons (.var 0) .nil)) (.cons (.glo "MOST_STEPS" (.int (12))) .nil)))) (.cons (.ret (.cst (.bl false)))
  .nil) .nil)
  (.cons (.for_ [1] (.ex (.var 0)) (.cons (.ite (.or (.not (.prim (.isT "tuple") (.cons (.var 1) .nil))) (.or (.prim (.cmp .Eq) (.cons (.var 1) (.cons (.tup .nil) .nil))) (.or (.prim (.cmp .Gt) (.cons (.prim (.blt "len") (.cons (.var 1) .nil)) (.cons (.glo "MOST_SPACE" (.int (4))) .nil))) (.prim (.cmp .NotEq) (.cons (.prim (.blt "len") (.cons (.var 1) .nil)) (.cons (.prim (.blt "len") (.cons (.prim .idx (.cons (.var 0) (.cons (.cst (.int (0))) .nil))) .nil)) .nil)))))) (.cons (.ret (.cst (.bl false)))
  .nil) .nil)
  (.cons (.ite (.not (.prim (.blt "all") (.cons (.comp [2] [2] (.ex (.var 1)) .nil (.call 1 (.cons (.var 2) .nil))) .nil))) (.cons (.ret (.cst (.bl false)))
  .nil) .nil)
  .nil)))
  (.cons (.ret (.cst (.bl true)))
  .nil)))⟩

def n_check_path : List Str := ["value"]
def p_check_path : List Str := ["value"]
def b_check_path : Fd := ⟨1, 1, (.cons (.ite (.not (.call 21 (.cons (.var 0) .nil))) (.cons (.raise 3)
  .nil) .nil)
  .nil)⟩

def n_step_sum : List Str := ["step", "place", "item"]
def p_step_sum : List Str := ["step"]
def b_step_sum : Fd := ⟨3, 1, (.cons (.ret (.call 12 (.cons (.comp [1, 2] [1, 2] (.enm (.var 0)) .nil (.tup (.cons (.tup (.cons (.var 1) .nil)) (.cons (.var 2) .nil)))) .nil)))
  .nil)⟩

def n_signature : List Str := ["path", "depth", "found", "step"]
def p_signature : List Str := ["path", "depth"]
def b_signature : Fd := ⟨4, 2, (.cons (.expr (.call 22 (.cons (.var 0) .nil)))
  (.cons (.expr (.call 19 (.cons (.var 1) .nil)))
  (.cons (.set 2 (.call 14 .nil))
  (.cons (.for_ [3] (.ex (.var 0)) (.cons (.set 2 (.call 17 (.cons (.var 2) (.cons (.call 20 (.cons (.call 23 (.cons (.var 3) .nil)) (.cons (.var 1) .nil))) (.cons (.var 1) .nil)))))
  .nil))
  (.cons (.ret (.var 2))
  .nil)))))⟩

def n_back : List Str := ["path", "step", "item"]
def p_back : List Str := ["path"]
def b_back : Fd := ⟨3, 1, (.cons (.expr (.call 22 (.cons (.var 0) .nil)))
  (.cons (.ret (.prim (.blt "tuple") (.cons (.comp [1] [1] (.ex (.prim .rev (.cons (.var 0) .nil))) .nil (.prim (.blt "tuple") (.cons (.comp [2] [2] (.ex (.var 1)) .nil (.call 7 (.cons (.var 2) .nil))) .nil))) .nil)))
  .nil))⟩

def n_are_along : List Str := ["step", "mate", "k", "j"]
def p_are_along : List Str := ["step", "mate"]
def b_are_along : Fd := ⟨4, 2, (.cons (.for_ [2] (.rng1 (.prim (.blt "len") (.cons (.var 0) .nil))) (.cons (.for_ [3] (.rng1 (.var 2)) (.cons (.ite (.prim (.cmp .NotEq) (.cons (.call 6 (.cons (.prim .idx (.cons (.var 0) (.cons (.var 2) .nil))) (.cons (.prim .idx (.cons (.var 1) (.cons (.var 3) .nil))) .nil))) (.cons (.call 6 (.cons (.prim .idx (.cons (.var 0) (.cons (.var 3) .nil))) (.cons (.prim .idx (.cons (.var 1) (.cons (.var 2) .nil))) .nil))) .nil))) (.cons (.ret (.cst (.bl false)))
  .nil) .nil)
  .nil))
  .nil))
  (.cons (.ret (.cst (.bl true)))
  .nil))⟩

def n_shortened : List Str := ["path", "found", "step", "now", "item", "mate"]
def p_shortened : List Str := ["path"]
def b_shortened : Fd := ⟨6, 1, (.cons (.expr (.call 22 (.cons (.var 0) .nil)))
  (.cons (.set 1 (.lst .nil))
  (.cons (.for_ [2] (.ex (.var 0)) (.cons (.set 3 (.var 2))
  (.cons (.while_ (.and (.prim (.cmp .NotEq) (.cons (.var 1) (.cons (.lst .nil) .nil))) (.and (.prim (.isN false) (.cons (.var 3) .nil)) (.call 26 (.cons (.prim .idx (.cons (.var 1) (.cons (.prim .neg (.cons (.cst (.int (1))) .nil)) .nil))) (.cons (.var 3) .nil))))) (.cons (.set 3 (.prim (.blt "tuple") (.cons (.comp [4, 5] [4, 5] (.zip (.pop 1 .nil) (.var 3)) .nil (.call 5 (.cons (.var 4) (.cons (.var 5) .nil)))) .nil)))
  (.cons (.ite (.not (.prim (.blt "any") (.cons (.comp [4] [4] (.ex (.var 3)) .nil (.prim (.cmp .NotEq) (.cons (.var 4) (.cons (.glo "ZERO" (.ktup [(.int (0)), (.int (1))])) .nil)))) .nil))) (.cons (.set 3 (.cst .non))
  .nil) .nil)
  .nil)))
  (.cons (.ite (.and (.prim (.isN false) (.cons (.var 3) .nil)) (.prim (.blt "any") (.cons (.comp [4] [4] (.ex (.var 3)) .nil (.prim (.cmp .NotEq) (.cons (.var 4) (.cons (.glo "ZERO" (.ktup [(.int (0)), (.int (1))])) .nil)))) .nil))) (.cons (.app 1 (.var 3))
  .nil) .nil)
  .nil))))
  (.cons (.ret (.prim (.blt "tuple") (.cons (.var 1) .nil)))
  .nil))))⟩

def n_are_alike : List Str := ["path", "other"]
def p_are_alike : List Str := ["path", "other"]
def b_are_alike : Fd := ⟨2, 2, (.cons (.ret (.prim (.cmp .Eq) (.cons (.call 27 (.cons (.var 0) .nil)) (.cons (.call 27 (.cons (.var 1) .nil)) .nil))))
  .nil)⟩

def n_first_unlike : List Str := ["path", "other", "most", "rest"]
def p_first_unlike : List Str := ["path", "other", "most"]
def b_first_unlike : Fd := ⟨4, 3, (.cons (.set 3 (.call 16 (.cons (.call 24 (.cons (.var 0) (.cons (.var 2) .nil))) (.cons (.call 24 (.cons (.var 1) (.cons (.var 2) .nil))) .nil))))
  (.cons (.ret (.ite (.prim (.cmp .NotEq) (.cons (.var 3) (.cons (.tup .nil) .nil))) (.prim .idx (.cons (.prim .idx (.cons (.var 3) (.cons (.cst (.int (0))) .nil))) (.cons (.cst (.int (0))) .nil))) (.cst .non)))
  .nil))⟩

def n__law_same : List Str := ["actual", "due", "k"]
def p__law_same : List Str := ["actual", "due"]
def b__law_same : Fd := ⟨3, 2, (.cons (.ite (.prim (.isN true) (.cons (.var 1) .nil)) (.cons (.ret (.prim (.isN true) (.cons (.var 0) .nil)))
  .nil) .nil)
  (.cons (.ite (.prim (.isT "bool") (.cons (.var 1) .nil)) (.cons (.ret (.and (.prim (.isT "bool") (.cons (.var 0) .nil)) (.prim (.cmp .Eq) (.cons (.var 0) (.cons (.var 1) .nil)))))
  .nil) .nil)
  (.cons (.ite (.prim (.isT "tuple") (.cons (.var 1) .nil)) (.cons (.ite (.or (.not (.prim (.isT "tuple") (.cons (.var 0) .nil))) (.prim (.cmp .NotEq) (.cons (.prim (.blt "len") (.cons (.var 0) .nil)) (.cons (.prim (.blt "len") (.cons (.var 1) .nil)) .nil)))) (.cons (.ret (.cst (.bl false)))
  .nil) .nil)
  (.cons (.ret (.prim (.blt "all") (.cons (.comp [2] [2] (.rng1 (.prim (.blt "len") (.cons (.var 1) .nil))) .nil (.call 32 (.cons (.prim .idx (.cons (.var 0) (.cons (.var 2) .nil))) (.cons (.prim .idx (.cons (.var 1) (.cons (.var 2) .nil))) .nil)))) .nil)))
  .nil)) .nil)
  (.cons (.ite (.prim (.isT "str") (.cons (.var 1) .nil)) (.cons (.ret (.and (.prim (.isT "str") (.cons (.var 0) .nil)) (.prim (.cmp .Eq) (.cons (.var 0) (.cons (.var 1) .nil)))))
  .nil) .nil)
  (.cons (.ret (.and (.prim (.isT "int") (.cons (.var 0) .nil)) (.and (.not (.prim (.isT "bool") (.cons (.var 0) .nil))) (.prim (.cmp .Eq) (.cons (.var 0) (.cons (.var 1) .nil))))))
  .nil)))))⟩

def n__law_frac : List Str := ["above", "below", "one_v", "other"]
def p__law_frac : List Str := ["above", "below"]
def b__law_frac : Fd := ⟨4, 2, (.cons (.par [2, 3] (.cons (.prim (.blt "abs") (.cons (.var 0) .nil)) (.cons (.prim (.blt "abs") (.cons (.var 1) .nil)) .nil)))
  (.cons (.while_ (.prim (.cmp .Gt) (.cons (.var 3) (.cons (.cst (.int (0))) .nil))) (.cons (.par [2, 3] (.cons (.var 3) (.cons (.prim (.bin .Mod) (.cons (.var 2) (.cons (.var 3) .nil))) .nil)))
  .nil))
  (.cons (.ret (.ite (.prim (.cmp .Gt) (.cons (.var 1) (.cons (.cst (.int (0))) .nil))) (.tup (.cons (.prim (.bin .FloorDiv) (.cons (.var 0) (.cons (.var 2) .nil))) (.cons (.prim (.bin .FloorDiv) (.cons (.var 1) (.cons (.var 2) .nil))) .nil))) (.tup (.cons (.prim (.bin .FloorDiv) (.cons (.prim .neg (.cons (.var 0) .nil)) (.cons (.var 2) .nil))) (.cons (.prim (.bin .FloorDiv) (.cons (.prim .neg (.cons (.var 1) .nil)) (.cons (.var 2) .nil))) .nil)))))
  .nil)))⟩

def n__law_plus : List Str := ["one_v", "other"]
def p__law_plus : List Str := ["one_v", "other"]
def b__law_plus : Fd := ⟨2, 2, (.cons (.ret (.call 33 (.cons (.prim (.bin .Add) (.cons (.prim (.bin .Mult) (.cons (.prim .idx (.cons (.var 0) (.cons (.cst (.int (0))) .nil))) (.cons (.prim .idx (.cons (.var 1) (.cons (.cst (.int (1))) .nil))) .nil))) (.cons (.prim (.bin .Mult) (.cons (.prim .idx (.cons (.var 1) (.cons (.cst (.int (0))) .nil))) (.cons (.prim .idx (.cons (.var 0) (.cons (.cst (.int (1))) .nil))) .nil))) .nil))) (.cons (.prim (.bin .Mult) (.cons (.prim .idx (.cons (.var 0) (.cons (.cst (.int (1))) .nil))) (.cons (.prim .idx (.cons (.var 1) (.cons (.cst (.int (1))) .nil))) .nil))) .nil))))
  .nil)⟩

def n__law_by : List Str := ["one_v", "other"]
def p__law_by : List Str := ["one_v", "other"]
def b__law_by : Fd := ⟨2, 2, (.cons (.ret (.call 33 (.cons (.prim (.bin .Mult) (.cons (.prim .idx (.cons (.var 0) (.cons (.cst (.int (0))) .nil))) (.cons (.prim .idx (.cons (.var 1) (.cons (.cst (.int (0))) .nil))) .nil))) (.cons (.prim (.bin .Mult) (.cons (.prim .idx (.cons (.var 0) (.cons (.cst (.int (1))) .nil))) (.cons (.prim .idx (.cons (.var 1) (.cons (.cst (.int (1))) .nil))) .nil))) .nil))))
  .nil)⟩

def n__law_over : List Str := ["one_v", "other"]
def p__law_over : List Str := ["one_v", "other"]
def b__law_over : Fd := ⟨2, 2, (.cons (.ret (.call 33 (.cons (.prim (.bin .Mult) (.cons (.prim .idx (.cons (.var 0) (.cons (.cst (.int (0))) .nil))) (.cons (.prim .idx (.cons (.var 1) (.cons (.cst (.int (1))) .nil))) .nil))) (.cons (.prim (.bin .Mult) (.cons (.prim .idx (.cons (.var 0) (.cons (.cst (.int (1))) .nil))) (.cons (.prim .idx (.cons (.var 1) (.cons (.cst (.int (0))) .nil))) .nil))) .nil))))
  .nil)⟩

def n__law_number : List Str := ["tape"]
def p__law_number : List Str := ["tape"]
def b__law_number : Fd := ⟨1, 1, (.cons (.ret (.call 33 (.cons (.prim (.bin .Sub) (.cons (.call 31 (.cons (.var 0) (.cons (.cst (.int (9))) .nil))) (.cons (.cst (.int (4))) .nil))) (.cons (.prim (.bin .Add) (.cons (.cst (.int (1))) (.cons (.call 31 (.cons (.var 0) (.cons (.cst (.int (3))) .nil))) .nil))) .nil))))
  .nil)⟩

def n__law_words : List Str := ["count", "size", "found", "turn", "more", "word", "k"]
def p__law_words : List Str := ["count", "size"]
def b__law_words : Fd := ⟨7, 2, (.cons (.set 2 (.lst (.cons (.tup .nil) .nil)))
  (.cons (.for_ [3] (.rng1 (.var 1)) (.cons (.set 4 (.lst .nil))
  (.cons (.for_ [5] (.ex (.var 2)) (.cons (.set 4 (.prim (.bin .Add) (.cons (.var 4) (.cons (.comp [6] [6] (.rng1 (.var 0)) .nil (.prim (.bin .Add) (.cons (.var 5) (.cons (.tup (.cons (.var 6) .nil)) .nil)))) .nil))))
  .nil))
  (.cons (.set 2 (.var 4))
  .nil))))
  (.cons (.ret (.var 2))
  .nil)))⟩

def n__law_all : List Str := ["count", "most", "found", "size"]
def p__law_all : List Str := ["count", "most"]
def b__law_all : Fd := ⟨4, 2, (.cons (.set 2 (.lst .nil))
  (.cons (.for_ [3] (.rng1 (.prim (.bin .Add) (.cons (.var 1) (.cons (.cst (.int (1))) .nil)))) (.cons (.set 2 (.prim (.bin .Add) (.cons (.var 2) (.cons (.call 38 (.cons (.var 0) (.cons (.var 3) .nil))) .nil))))
  .nil))
  (.cons (.ret (.var 2))
  .nil)))⟩

def n__law_step : List Str := ["tape", "space", "k"]
def p__law_step : List Str := ["tape", "space"]
def b__law_step : Fd := ⟨3, 2, (.cons (.ret (.prim (.blt "tuple") (.cons (.comp [2] [2] (.rng1 (.var 1)) .nil (.call 37 (.cons (.var 0) .nil))) .nil)))
  .nil)⟩

def n__law_path : List Str := ["tape", "space", "most", "k"]
def p__law_path : List Str := ["tape", "space", "most"]
def b__law_path : Fd := ⟨4, 3, (.cons (.ret (.prim (.blt "tuple") (.cons (.comp [3] [3] (.rng1 (.call 31 (.cons (.var 0) (.cons (.prim (.bin .Add) (.cons (.var 2) (.cons (.cst (.int (1))) .nil))) .nil)))) .nil (.call 40 (.cons (.var 0) (.cons (.var 1) .nil)))) .nil)))
  .nil)⟩

def n__law_worth : List Str := ["path", "word", "total", "place", "made", "size"]
def p__law_worth : List Str := ["path", "word"]
def b__law_worth : Fd := ⟨6, 2, (.cons (.ite (.prim (.cmp .Eq) (.cons (.var 1) (.cons (.tup .nil) .nil))) (.cons (.ret (.tup (.cons (.cst (.int (1))) (.cons (.cst (.int (1))) .nil))))
  .nil) .nil)
  (.cons (.set 2 (.tup (.cons (.cst (.int (0))) (.cons (.cst (.int (1))) .nil))))
  (.cons (.for_ [3] (.rng1 (.prim (.blt "len") (.cons (.var 0) .nil))) (.cons (.set 4 (.tup (.cons (.cst (.int (1))) (.cons (.cst (.int (1))) .nil))))
  (.cons (.for_ [5] (.rng2 (.cst (.int (1))) (.prim (.bin .Add) (.cons (.prim (.blt "len") (.cons (.var 1) .nil)) (.cons (.cst (.int (1))) .nil)))) (.cons (.set 4 (.call 36 (.cons (.call 35 (.cons (.var 4) (.cons (.prim .idx (.cons (.prim .idx (.cons (.var 0) (.cons (.var 3) .nil))) (.cons (.prim .idx (.cons (.var 1) (.cons (.prim (.bin .Sub) (.cons (.var 5) (.cons (.cst (.int (1))) .nil))) .nil))) .nil))) .nil))) (.cons (.tup (.cons (.var 5) (.cons (.cst (.int (1))) .nil))) .nil))))
  (.cons (.set 2 (.call 34 (.cons (.var 2) (.cons (.call 35 (.cons (.var 4) (.cons (.call 42 (.cons (.prim (.sl true false) (.cons (.var 0) (.cons (.prim (.bin .Add) (.cons (.var 3) (.cons (.cst (.int (1))) .nil))) .nil))) (.cons (.prim (.sl true false) (.cons (.var 1) (.cons (.var 5) .nil))) .nil))) .nil))) .nil))))
  .nil)))
  .nil)))
  (.cons (.ret (.var 2))
  .nil))))⟩

def n__law_along : List Str := ["one_v", "other", "k", "j"]
def p__law_along : List Str := ["one_v", "other"]
def b__law_along : Fd := ⟨4, 2, (.cons (.for_ [2] (.rng1 (.prim (.blt "len") (.cons (.var 0) .nil))) (.cons (.for_ [3] (.rng1 (.prim (.blt "len") (.cons (.var 1) .nil))) (.cons (.ite (.prim (.cmp .NotEq) (.cons (.call 35 (.cons (.prim .idx (.cons (.var 0) (.cons (.var 2) .nil))) (.cons (.prim .idx (.cons (.var 1) (.cons (.var 3) .nil))) .nil))) (.cons (.call 35 (.cons (.prim .idx (.cons (.var 0) (.cons (.var 3) .nil))) (.cons (.prim .idx (.cons (.var 1) (.cons (.var 2) .nil))) .nil))) .nil))) (.cons (.ret (.cst (.bl false)))
  .nil) .nil)
  .nil))
  .nil))
  (.cons (.ret (.cst (.bl true)))
  .nil))⟩

def n__law_short : List Str := ["path", "step", "rows", "turn", "k", "places", "item", "one_v", "other"]
def p__law_short : List Str := ["path"]
def b__law_short : Fd := ⟨9, 1, (.cons (.set 2 (.comp [1] [1] (.ex (.var 0)) (.cons (.prim (.blt "any") (.cons (.comp [6] [6] (.ex (.var 1)) .nil (.prim (.cmp .NotEq) (.cons (.prim .idx (.cons (.var 6) (.cons (.cst (.int (0))) .nil))) (.cons (.cst (.int (0))) .nil)))) .nil)) .nil) (.var 1)))
  (.cons (.for_ [3] (.rng1 (.prim (.blt "len") (.cons (.var 0) .nil))) (.cons (.set 5 (.comp [4] [4] (.rng1 (.prim (.bin .Sub) (.cons (.prim (.blt "len") (.cons (.var 2) .nil)) (.cons (.cst (.int (1))) .nil)))) (.cons (.call 43 (.cons (.prim .idx (.cons (.var 2) (.cons (.var 4) .nil))) (.cons (.prim .idx (.cons (.var 2) (.cons (.prim (.bin .Add) (.cons (.var 4) (.cons (.cst (.int (1))) .nil))) .nil))) .nil))) .nil) (.var 4)))
  (.cons (.ite (.prim (.cmp .NotEq) (.cons (.var 5) (.cons (.lst .nil) .nil))) (.cons (.set 4 (.prim .idx (.cons (.var 5) (.cons (.prim .neg (.cons (.cst (.int (1))) .nil)) .nil))))
  (.cons (.set 1 (.prim (.blt "tuple") (.cons (.comp [7, 8] [7, 8] (.zip (.prim .idx (.cons (.var 2) (.cons (.var 4) .nil))) (.prim .idx (.cons (.var 2) (.cons (.prim (.bin .Add) (.cons (.var 4) (.cons (.cst (.int (1))) .nil))) .nil)))) .nil (.call 34 (.cons (.var 7) (.cons (.var 8) .nil)))) .nil)))
  (.cons (.set 2 (.prim (.bin .Add) (.cons (.prim (.bin .Add) (.cons (.prim (.sl false true) (.cons (.var 2) (.cons (.var 4) .nil))) (.cons (.ite (.prim (.blt "any") (.cons (.comp [6] [6] (.ex (.var 1)) .nil (.prim (.cmp .NotEq) (.cons (.prim .idx (.cons (.var 6) (.cons (.cst (.int (0))) .nil))) (.cons (.cst (.int (0))) .nil)))) .nil)) (.lst (.cons (.var 1) .nil)) (.lst .nil)) .nil))) (.cons (.prim (.sl true false) (.cons (.var 2) (.cons (.prim (.bin .Add) (.cons (.var 4) (.cons (.cst (.int (2))) .nil))) .nil))) .nil))))
  .nil))) .nil)
  .nil)))
  (.cons (.ret (.prim (.blt "tuple") (.cons (.var 2) .nil)))
  .nil)))⟩

def n__law_spoilt : List Str := ["tape", "path", "space", "rows", "turn", "at", "kind", "step", "share", "first", "item", "part"]
def p__law_spoilt : List Str := ["tape", "path", "space"]
def b__law_spoilt : Fd := ⟨12, 3, (.cons (.set 3 (.prim (.blt "list") (.cons (.var 1) .nil)))
  (.cons (.for_ [4] (.rng1 (.cst (.int (3)))) (.cons (.par [5, 6] (.cons (.call 31 (.cons (.var 0) (.cons (.prim (.bin .Add) (.cons (.prim (.blt "len") (.cons (.var 3) .nil)) (.cons (.cst (.int (1))) .nil))) .nil))) (.cons (.call 31 (.cons (.var 0) (.cons (.cst (.int (3))) .nil))) .nil)))
  (.cons (.ite (.prim (.cmp .Eq) (.cons (.var 6) (.cons (.cst (.int (0))) .nil))) (.cons (.set 7 (.call 40 (.cons (.var 0) (.cons (.var 2) .nil))))
  (.cons (.set 3 (.prim (.bin .Add) (.cons (.prim (.bin .Add) (.cons (.prim (.sl false true) (.cons (.var 3) (.cons (.var 5) .nil))) (.cons (.lst (.cons (.var 7) (.cons (.prim (.blt "tuple") (.cons (.comp [10] [10] (.ex (.var 7)) .nil (.tup (.cons (.prim .neg (.cons (.prim .idx (.cons (.var 10) (.cons (.cst (.int (0))) .nil))) .nil)) (.cons (.prim .idx (.cons (.var 10) (.cons (.cst (.int (1))) .nil))) .nil)))) .nil)) .nil))) .nil))) (.cons (.prim (.sl true false) (.cons (.var 3) (.cons (.var 5) .nil))) .nil))))
  .nil)) (.cons (.ite (.and (.prim (.cmp .Eq) (.cons (.var 6) (.cons (.cst (.int (1))) .nil))) (.prim (.cmp .Lt) (.cons (.var 5) (.cons (.prim (.blt "len") (.cons (.var 3) .nil)) .nil)))) (.cons (.set 8 (.call 37 (.cons (.var 0) .nil)))
  (.cons (.set 9 (.prim (.blt "tuple") (.cons (.comp [10] [10] (.ex (.prim .idx (.cons (.var 3) (.cons (.var 5) .nil)))) .nil (.call 35 (.cons (.var 8) (.cons (.var 10) .nil)))) .nil)))
  (.cons (.set 3 (.prim (.bin .Add) (.cons (.prim (.bin .Add) (.cons (.prim (.sl false true) (.cons (.var 3) (.cons (.var 5) .nil))) (.cons (.lst (.cons (.var 9) (.cons (.prim (.blt "tuple") (.cons (.comp [10, 11] [10, 11] (.zip (.prim .idx (.cons (.var 3) (.cons (.var 5) .nil))) (.var 9)) .nil (.call 34 (.cons (.var 10) (.cons (.tup (.cons (.prim .neg (.cons (.prim .idx (.cons (.var 11) (.cons (.cst (.int (0))) .nil))) .nil)) (.cons (.prim .idx (.cons (.var 11) (.cons (.cst (.int (1))) .nil))) .nil))) .nil)))) .nil)) .nil))) .nil))) (.cons (.prim (.sl true false) (.cons (.var 3) (.cons (.prim (.bin .Add) (.cons (.var 5) (.cons (.cst (.int (1))) .nil))) .nil))) .nil))))
  .nil))) (.cons (.ite (.prim (.cmp .Eq) (.cons (.var 6) (.cons (.cst (.int (2))) .nil))) (.cons (.set 3 (.prim (.bin .Add) (.cons (.prim (.bin .Add) (.cons (.prim (.sl false true) (.cons (.var 3) (.cons (.var 5) .nil))) (.cons (.lst (.cons (.prim (.bin .Mult) (.cons (.tup (.cons (.tup (.cons (.cst (.int (0))) (.cons (.cst (.int (1))) .nil))) .nil)) (.cons (.var 2) .nil))) .nil)) .nil))) (.cons (.prim (.sl true false) (.cons (.var 3) (.cons (.var 5) .nil))) .nil))))
  .nil) .nil)
  .nil))
  .nil))
  .nil)))
  (.cons (.ret (.prim (.blt "tuple") (.cons (.var 3) .nil)))
  .nil)))⟩

def n_law : List Str := ["script", "tape", "space", "path", "spoilt", "due", "other", "found", "word"]
def bl_law : Sxs := (.cons (.set 2 (.prim (.bin .Add) (.cons (.cst (.int (1))) (.cons (.call 31 (.cons (.var 1) (.cons (.cst (.int (2))) .nil))) .nil))))
  (.cons (.set 3 (.call 41 (.cons (.var 1) (.cons (.var 2) (.cons (.cst (.int (3))) .nil)))))
  (.cons (.par [4, 5] (.cons (.call 45 (.cons (.var 1) (.cons (.var 3) (.cons (.var 2) .nil)))) (.cons (.call 44 (.cons (.var 3) .nil)) .nil)))
  (.cons (.ite (.or (.not (.call 32 (.cons (.call 27 (.cons (.var 3) .nil)) (.cons (.var 5) .nil)))) (.or (.not (.call 32 (.cons (.call 27 (.cons (.var 4) .nil)) (.cons (.var 5) .nil)))) (.not (.call 32 (.cons (.call 27 (.cons (.var 5) .nil)) (.cons (.var 5) .nil)))))) (.cons (.ret (.cst (.bl false)))
  .nil) .nil)
  (.cons (.ite (.or (.prim (.isB true false) (.cons (.call 28 (.cons (.var 3) (.cons (.var 4) .nil))) .nil)) (.or (.not (.call 32 (.cons (.call 29 (.cons (.var 3) (.cons (.var 4) (.cons (.cst (.int (3))) .nil)))) (.cons (.cst .non) .nil)))) (.not (.call 32 (.cons (.call 24 (.cons (.var 4) (.cons (.cst (.int (3))) .nil))) (.cons (.call 24 (.cons (.var 3) (.cons (.cst (.int (3))) .nil))) .nil)))))) (.cons (.ret (.cst (.bl false)))
  .nil) .nil)
  (.cons (.ite (.or (.not (.call 32 (.cons (.call 27 (.cons (.call 25 (.cons (.var 4) .nil)) .nil)) (.cons (.call 25 (.cons (.var 5) .nil)) .nil)))) (.not (.call 32 (.cons (.call 27 (.cons (.prim (.bin .Add) (.cons (.var 4) (.cons (.call 25 (.cons (.var 3) .nil)) .nil))) .nil)) (.cons (.tup .nil) .nil))))) (.cons (.ret (.cst (.bl false)))
  .nil) .nil)
  (.cons (.set 6 (.ite (.prim (.cmp .Eq) (.cons (.call 31 (.cons (.var 1) (.cons (.cst (.int (2))) .nil))) (.cons (.cst (.int (0))) .nil))) (.call 41 (.cons (.var 1) (.cons (.var 2) (.cons (.cst (.int (3))) .nil)))) (.prim (.bin .Add) (.cons (.prim (.sl false true) (.cons (.var 3) (.cons (.cst (.int (1))) .nil))) (.cons (.var 3) .nil)))))
  (.cons (.ite (.not (.call 32 (.cons (.call 28 (.cons (.var 3) (.cons (.var 6) .nil))) (.cons (.prim (.cmp .Eq) (.cons (.var 5) (.cons (.call 44 (.cons (.var 6) .nil)) .nil))) .nil)))) (.cons (.ret (.cst (.bl false)))
  .nil) .nil)
  (.cons (.set 7 (.cst .non))
  (.cons (.for_ [8] (.ex (.call 39 (.cons (.var 2) (.cons (.cst (.int (3))) .nil)))) (.cons (.ite (.and (.prim (.isN true) (.cons (.var 7) .nil)) (.prim (.cmp .NotEq) (.cons (.call 42 (.cons (.var 3) (.cons (.var 8) .nil))) (.cons (.call 42 (.cons (.var 6) (.cons (.var 8) .nil))) .nil)))) (.cons (.set 7 (.var 8))
  .nil) .nil)
  .nil))
  (.cons (.ite (.not (.call 32 (.cons (.call 29 (.cons (.var 3) (.cons (.var 6) (.cons (.cst (.int (3))) .nil)))) (.cons (.var 7) .nil)))) (.cons (.ret (.cst (.bl false)))
  .nil) .nil)
  (.cons (.ret (.or (.prim (.isN true) (.cons (.var 7) .nil)) (.prim (.isB false true) (.cons (.call 28 (.cons (.var 3) (.cons (.var 6) .nil))) .nil))))
  .nil))))))))))))


theorem c_is_integer : ckD Ct n_is_integer p_is_integer (defScope (top 9)) b_is_integer (defBody (top 9)) = true := by decide +kernel
theorem s_is_integer : FnScope n_is_integer p_is_integer (defScope (top 9)) := ⟨by kernel_rfl, by kernel_rfl, by kernel_rfl, by decide +kernel, by decide +kernel, by decide +kernel, by decide +kernel⟩
theorem c_is_ratio : ckD Ct n_is_ratio p_is_ratio (defScope (top 10)) b_is_ratio (defBody (top 10)) = true := by decide +kernel
theorem s_is_ratio : FnScope n_is_ratio p_is_ratio (defScope (top 10)) := ⟨by kernel_rfl, by kernel_rfl, by kernel_rfl, by decide +kernel, by decide +kernel, by decide +kernel, by decide +kernel⟩
theorem c_divisor : ckD Ct n_divisor p_divisor (defScope (top 11)) b_divisor (defBody (top 11)) = true := by decide +kernel
theorem s_divisor : FnScope n_divisor p_divisor (defScope (top 11)) := ⟨by kernel_rfl, by kernel_rfl, by kernel_rfl, by decide +kernel, by decide +kernel, by decide +kernel, by decide +kernel⟩
theorem c_make : ckD Ct n_make p_make (defScope (top 12)) b_make (defBody (top 12)) = true := by decide +kernel
theorem s_make : FnScope n_make p_make (defScope (top 12)) := ⟨by kernel_rfl, by kernel_rfl, by kernel_rfl, by decide +kernel, by decide +kernel, by decide +kernel, by decide +kernel⟩
theorem c_add : ckD Ct n_add p_add (defScope (top 30)) b_add (defBody (top 30)) = true := by decide +kernel
theorem s_add : FnScope n_add p_add (defScope (top 30)) := ⟨by kernel_rfl, by kernel_rfl, by kernel_rfl, by decide +kernel, by decide +kernel, by decide +kernel, by decide +kernel⟩
theorem c_add_ratios : ckD Ct n_add_ratios p_add_ratios (defScope (top 13)) b_add_ratios (defBody (top 13)) = true := by decide +kernel
theorem s_add_ratios : FnScope n_add_ratios p_add_ratios (defScope (top 13)) := ⟨by kernel_rfl, by kernel_rfl, by kernel_rfl, by decide +kernel, by decide +kernel, by decide +kernel, by decide +kernel⟩
theorem c_multiply : ckD Ct n_multiply p_multiply (defScope (top 15)) b_multiply (defBody (top 15)) = true := by decide +kernel
theorem s_multiply : FnScope n_multiply p_multiply (defScope (top 15)) := ⟨by kernel_rfl, by kernel_rfl, by kernel_rfl, by decide +kernel, by decide +kernel, by decide +kernel, by decide +kernel⟩
theorem c_negative : ckD Ct n_negative p_negative (defScope (top 16)) b_negative (defBody (top 16)) = true := by decide +kernel
theorem s_negative : FnScope n_negative p_negative (defScope (top 16)) := ⟨by kernel_rfl, by kernel_rfl, by kernel_rfl, by decide +kernel, by decide +kernel, by decide +kernel, by decide +kernel⟩
theorem c_is_word : ckD Ct n_is_word p_is_word (defScope (top 20)) b_is_word (defBody (top 20)) = true := by decide +kernel
theorem s_is_word : FnScope n_is_word p_is_word (defScope (top 20)) := ⟨by kernel_rfl, by kernel_rfl, by kernel_rfl, by decide +kernel, by decide +kernel, by decide +kernel, by decide +kernel⟩
theorem c_is_sum : ckD Ct n_is_sum p_is_sum (defScope (top 24)) b_is_sum (defBody (top 24)) = true := by decide +kernel
theorem s_is_sum : FnScope n_is_sum p_is_sum (defScope (top 24)) := ⟨by kernel_rfl, by kernel_rfl, by kernel_rfl, by decide +kernel, by decide +kernel, by decide +kernel, by decide +kernel⟩
theorem c_check_sum : ckD Ct n_check_sum p_check_sum (defScope (top 25)) b_check_sum (defBody (top 25)) = true := by decide +kernel
theorem s_check_sum : FnScope n_check_sum p_check_sum (defScope (top 25)) := ⟨by kernel_rfl, by kernel_rfl, by kernel_rfl, by decide +kernel, by decide +kernel, by decide +kernel, by decide +kernel⟩
theorem c_key : ckD Ct n_key p_key (defScope (top 26)) b_key (defBody (top 26)) = true := by decide +kernel
theorem s_key : FnScope n_key p_key (defScope (top 26)) := ⟨by kernel_rfl, by kernel_rfl, by kernel_rfl, by decide +kernel, by decide +kernel, by decide +kernel, by decide +kernel⟩
theorem c_gathered : ckD Ct n_gathered p_gathered (defScope (top 27)) b_gathered (defBody (top 27)) = true := by decide +kernel
theorem s_gathered : FnScope n_gathered p_gathered (defScope (top 27)) := ⟨by kernel_rfl, by kernel_rfl, by kernel_rfl, by decide +kernel, by decide +kernel, by decide +kernel, by decide +kernel⟩
theorem c_of_word : ckD Ct n_of_word p_of_word (defScope (top 28)) b_of_word (defBody (top 28)) = true := by decide +kernel
theorem s_of_word : FnScope n_of_word p_of_word (defScope (top 28)) := ⟨by kernel_rfl, by kernel_rfl, by kernel_rfl, by decide +kernel, by decide +kernel, by decide +kernel, by decide +kernel⟩
theorem c_one : ckD Ct n_one p_one (defScope (top 29)) b_one (defBody (top 29)) = true := by decide +kernel
theorem s_one : FnScope n_one p_one (defScope (top 29)) := ⟨by kernel_rfl, by kernel_rfl, by kernel_rfl, by decide +kernel, by decide +kernel, by decide +kernel, by decide +kernel⟩
theorem c_scaled : ckD Ct n_scaled p_scaled (defScope (top 32)) b_scaled (defBody (top 32)) = true := by decide +kernel
theorem s_scaled : FnScope n_scaled p_scaled (defScope (top 32)) := ⟨by kernel_rfl, by kernel_rfl, by kernel_rfl, by decide +kernel, by decide +kernel, by decide +kernel, by decide +kernel⟩
theorem c_minus : ckD Ct n_minus p_minus (defScope (top 33)) b_minus (defBody (top 33)) = true := by decide +kernel
theorem s_minus : FnScope n_minus p_minus (defScope (top 33)) := ⟨by kernel_rfl, by kernel_rfl, by kernel_rfl, by decide +kernel, by decide +kernel, by decide +kernel, by decide +kernel⟩
theorem c_cut_product : ckD Ct n_cut_product p_cut_product (defScope (top 34)) b_cut_product (defBody (top 34)) = true := by decide +kernel
theorem s_cut_product : FnScope n_cut_product p_cut_product (defScope (top 34)) := ⟨by kernel_rfl, by kernel_rfl, by kernel_rfl, by decide +kernel, by decide +kernel, by decide +kernel, by decide +kernel⟩
theorem c_number_at : ckD Ct n_number_at p_number_at (defScope (top 35)) b_number_at (defBody (top 35)) = true := by decide +kernel
theorem s_number_at : FnScope n_number_at p_number_at (defScope (top 35)) := ⟨by kernel_rfl, by kernel_rfl, by kernel_rfl, by decide +kernel, by decide +kernel, by decide +kernel, by decide +kernel⟩
theorem c_check_depth : ckD Ct n_check_depth p_check_depth (defScope (top 37)) b_check_depth (defBody (top 37)) = true := by decide +kernel
theorem s_check_depth : FnScope n_check_depth p_check_depth (defScope (top 37)) := ⟨by kernel_rfl, by kernel_rfl, by kernel_rfl, by decide +kernel, by decide +kernel, by decide +kernel, by decide +kernel⟩
theorem c_exponential : ckD Ct n_exponential p_exponential (defScope (top 38)) b_exponential (defBody (top 38)) = true := by decide +kernel
theorem s_exponential : FnScope n_exponential p_exponential (defScope (top 38)) := ⟨by kernel_rfl, by kernel_rfl, by kernel_rfl, by decide +kernel, by decide +kernel, by decide +kernel, by decide +kernel⟩
theorem c_is_path : ckD Ct n_is_path p_is_path (defScope (top 42)) b_is_path (defBody (top 42)) = true := by decide +kernel
theorem s_is_path : FnScope n_is_path p_is_path (defScope (top 42)) := ⟨by kernel_rfl, by kernel_rfl, by kernel_rfl, by decide +kernel, by decide +kernel, by decide +kernel, by decide +kernel⟩
theorem c_check_path : ckD Ct n_check_path p_check_path (defScope (top 43)) b_check_path (defBody (top 43)) = true := by decide +kernel
theorem s_check_path : FnScope n_check_path p_check_path (defScope (top 43)) := ⟨by kernel_rfl, by kernel_rfl, by kernel_rfl, by decide +kernel, by decide +kernel, by decide +kernel, by decide +kernel⟩
theorem c_step_sum : ckD Ct n_step_sum p_step_sum (defScope (top 44)) b_step_sum (defBody (top 44)) = true := by decide +kernel
theorem s_step_sum : FnScope n_step_sum p_step_sum (defScope (top 44)) := ⟨by kernel_rfl, by kernel_rfl, by kernel_rfl, by decide +kernel, by decide +kernel, by decide +kernel, by decide +kernel⟩
theorem c_signature : ckD Ct n_signature p_signature (defScope (top 45)) b_signature (defBody (top 45)) = true := by decide +kernel
theorem s_signature : FnScope n_signature p_signature (defScope (top 45)) := ⟨by kernel_rfl, by kernel_rfl, by kernel_rfl, by decide +kernel, by decide +kernel, by decide +kernel, by decide +kernel⟩
theorem c_back : ckD Ct n_back p_back (defScope (top 46)) b_back (defBody (top 46)) = true := by decide +kernel
theorem s_back : FnScope n_back p_back (defScope (top 46)) := ⟨by kernel_rfl, by kernel_rfl, by kernel_rfl, by decide +kernel, by decide +kernel, by decide +kernel, by decide +kernel⟩
theorem c_are_along : ckD Ct n_are_along p_are_along (defScope (top 47)) b_are_along (defBody (top 47)) = true := by decide +kernel
theorem s_are_along : FnScope n_are_along p_are_along (defScope (top 47)) := ⟨by kernel_rfl, by kernel_rfl, by kernel_rfl, by decide +kernel, by decide +kernel, by decide +kernel, by decide +kernel⟩
theorem c_shortened : ckD Ct n_shortened p_shortened (defScope (top 48)) b_shortened (defBody (top 48)) = true := by decide +kernel
theorem s_shortened : FnScope n_shortened p_shortened (defScope (top 48)) := ⟨by kernel_rfl, by kernel_rfl, by kernel_rfl, by decide +kernel, by decide +kernel, by decide +kernel, by decide +kernel⟩
theorem c_are_alike : ckD Ct n_are_alike p_are_alike (defScope (top 49)) b_are_alike (defBody (top 49)) = true := by decide +kernel
theorem s_are_alike : FnScope n_are_alike p_are_alike (defScope (top 49)) := ⟨by kernel_rfl, by kernel_rfl, by kernel_rfl, by decide +kernel, by decide +kernel, by decide +kernel, by decide +kernel⟩
theorem c_first_unlike : ckD Ct n_first_unlike p_first_unlike (defScope (top 50)) b_first_unlike (defBody (top 50)) = true := by decide +kernel
theorem s_first_unlike : FnScope n_first_unlike p_first_unlike (defScope (top 50)) := ⟨by kernel_rfl, by kernel_rfl, by kernel_rfl, by decide +kernel, by decide +kernel, by decide +kernel, by decide +kernel⟩
theorem c__law_same : ckD Ct n__law_same p__law_same (defScope (top 54)) b__law_same (defBody (top 54)) = true := by decide +kernel
theorem s__law_same : FnScope n__law_same p__law_same (defScope (top 54)) := ⟨by kernel_rfl, by kernel_rfl, by kernel_rfl, by decide +kernel, by decide +kernel, by decide +kernel, by decide +kernel⟩
theorem c__law_frac : ckD Ct n__law_frac p__law_frac (defScope (top 55)) b__law_frac (defBody (top 55)) = true := by decide +kernel
theorem s__law_frac : FnScope n__law_frac p__law_frac (defScope (top 55)) := ⟨by kernel_rfl, by kernel_rfl, by kernel_rfl, by decide +kernel, by decide +kernel, by decide +kernel, by decide +kernel⟩
theorem c__law_plus : ckD Ct n__law_plus p__law_plus (defScope (top 56)) b__law_plus (defBody (top 56)) = true := by decide +kernel
theorem s__law_plus : FnScope n__law_plus p__law_plus (defScope (top 56)) := ⟨by kernel_rfl, by kernel_rfl, by kernel_rfl, by decide +kernel, by decide +kernel, by decide +kernel, by decide +kernel⟩
theorem c__law_by : ckD Ct n__law_by p__law_by (defScope (top 57)) b__law_by (defBody (top 57)) = true := by decide +kernel
theorem s__law_by : FnScope n__law_by p__law_by (defScope (top 57)) := ⟨by kernel_rfl, by kernel_rfl, by kernel_rfl, by decide +kernel, by decide +kernel, by decide +kernel, by decide +kernel⟩
theorem c__law_over : ckD Ct n__law_over p__law_over (defScope (top 58)) b__law_over (defBody (top 58)) = true := by decide +kernel
theorem s__law_over : FnScope n__law_over p__law_over (defScope (top 58)) := ⟨by kernel_rfl, by kernel_rfl, by kernel_rfl, by decide +kernel, by decide +kernel, by decide +kernel, by decide +kernel⟩
theorem c__law_number : ckD Ct n__law_number p__law_number (defScope (top 59)) b__law_number (defBody (top 59)) = true := by decide +kernel
theorem s__law_number : FnScope n__law_number p__law_number (defScope (top 59)) := ⟨by kernel_rfl, by kernel_rfl, by kernel_rfl, by decide +kernel, by decide +kernel, by decide +kernel, by decide +kernel⟩
theorem c__law_words : ckD Ct n__law_words p__law_words (defScope (top 60)) b__law_words (defBody (top 60)) = true := by decide +kernel
theorem s__law_words : FnScope n__law_words p__law_words (defScope (top 60)) := ⟨by kernel_rfl, by kernel_rfl, by kernel_rfl, by decide +kernel, by decide +kernel, by decide +kernel, by decide +kernel⟩
theorem c__law_all : ckD Ct n__law_all p__law_all (defScope (top 61)) b__law_all (defBody (top 61)) = true := by decide +kernel
theorem s__law_all : FnScope n__law_all p__law_all (defScope (top 61)) := ⟨by kernel_rfl, by kernel_rfl, by kernel_rfl, by decide +kernel, by decide +kernel, by decide +kernel, by decide +kernel⟩
theorem c__law_step : ckD Ct n__law_step p__law_step (defScope (top 62)) b__law_step (defBody (top 62)) = true := by decide +kernel
theorem s__law_step : FnScope n__law_step p__law_step (defScope (top 62)) := ⟨by kernel_rfl, by kernel_rfl, by kernel_rfl, by decide +kernel, by decide +kernel, by decide +kernel, by decide +kernel⟩
theorem c__law_path : ckD Ct n__law_path p__law_path (defScope (top 63)) b__law_path (defBody (top 63)) = true := by decide +kernel
theorem s__law_path : FnScope n__law_path p__law_path (defScope (top 63)) := ⟨by kernel_rfl, by kernel_rfl, by kernel_rfl, by decide +kernel, by decide +kernel, by decide +kernel, by decide +kernel⟩
theorem c__law_worth : ckD Ct n__law_worth p__law_worth (defScope (top 64)) b__law_worth (defBody (top 64)) = true := by decide +kernel
theorem s__law_worth : FnScope n__law_worth p__law_worth (defScope (top 64)) := ⟨by kernel_rfl, by kernel_rfl, by kernel_rfl, by decide +kernel, by decide +kernel, by decide +kernel, by decide +kernel⟩
theorem c__law_along : ckD Ct n__law_along p__law_along (defScope (top 65)) b__law_along (defBody (top 65)) = true := by decide +kernel
theorem s__law_along : FnScope n__law_along p__law_along (defScope (top 65)) := ⟨by kernel_rfl, by kernel_rfl, by kernel_rfl, by decide +kernel, by decide +kernel, by decide +kernel, by decide +kernel⟩
theorem c__law_short : ckD Ct n__law_short p__law_short (defScope (top 66)) b__law_short (defBody (top 66)) = true := by decide +kernel
theorem s__law_short : FnScope n__law_short p__law_short (defScope (top 66)) := ⟨by kernel_rfl, by kernel_rfl, by kernel_rfl, by decide +kernel, by decide +kernel, by decide +kernel, by decide +kernel⟩
theorem c__law_spoilt : ckD Ct n__law_spoilt p__law_spoilt (defScope (top 67)) b__law_spoilt (defBody (top 67)) = true := by decide +kernel
theorem s__law_spoilt : FnScope n__law_spoilt p__law_spoilt (defScope (top 67)) := ⟨by kernel_rfl, by kernel_rfl, by kernel_rfl, by decide +kernel, by decide +kernel, by decide +kernel, by decide +kernel⟩
theorem c_law : lawB Ct n_law 1 (defScope (top 68)) bl_law (defBody (top 68)) = true := by decide +kernel
theorem s_law : FnScope n_law ["script"] (defScope (top 68)) := ⟨by kernel_rfl, by kernel_rfl, by kernel_rfl, by decide +kernel, by decide +kernel, by decide +kernel, by decide +kernel⟩
theorem s__law_tape : FnScope tapeN ["script"] (defScope (top 52)) := ⟨by kernel_rfl, by kernel_rfl, by kernel_rfl, by decide +kernel, by decide +kernel, by decide +kernel, by decide +kernel⟩
theorem c__law_tape : tapeB (defScope (top 52)) (defBody (top 52)) = true := by decide +kernel
theorem t__law_tape : TapeSc (defScope (top 52)) := ⟨by decide +kernel, by decide +kernel, by decide +kernel, by decide +kernel⟩
theorem s__law_draw : FnScope drawN ["tape", "many"] (defScope (top 53)) := ⟨by kernel_rfl, by kernel_rfl, by kernel_rfl, by decide +kernel, by decide +kernel, by decide +kernel, by decide +kernel⟩
theorem c__law_draw : drawB (defBody (top 53)) = true := by decide +kernel
theorem t__law_draw : DrawSc (defScope (top 53)) := ⟨by decide +kernel, by decide +kernel, by decide +kernel, by decide +kernel, by decide +kernel, by decide +kernel⟩
theorem l_key : lenKeyB (defBody (top 26)) (defScope (top 26)) "word" = true := by decide +kernel
def Ps : List Fn := ([.body b_is_integer, .body b_is_ratio, .body b_divisor, .body b_make, .body b_add, .body b_add_ratios, .body b_multiply, .body b_negative, .body b_is_word, .body b_is_sum, .body b_check_sum, .body b_key, .body b_gathered, .body b_of_word, .body b_one, .body b_scaled, .body b_minus, .body b_cut_product, .body b_number_at, .body b_check_depth, .body b_exponential, .body b_is_path, .body b_check_path, .body b_step_sum, .body b_signature] : List (Fn)) ++ ([.body b_back, .body b_are_along, .body b_shortened, .body b_are_alike, .body b_first_unlike, .prim fun _ _ => .stuck, .prim drawP, .body b__law_same, .body b__law_frac, .body b__law_plus, .body b__law_by, .body b__law_over, .body b__law_number, .body b__law_words, .body b__law_all, .body b__law_step, .body b__law_path, .body b__law_worth, .body b__law_along, .body b__law_short, .body b__law_spoilt, .prim fun _ _ => .stuck] : List (Fn))
end HL
namespace HL
open PySem PySem.Spec PyProof.Rows L2 He
def fn : List He.DefD := ([⟨("is_integer", none), "is_integer", "is_integer", defArgs (top 9), defBody (top 9), defScope (top 9), [], []⟩, ⟨("is_ratio", none), "is_ratio", "is_ratio", defArgs (top 10), defBody (top 10), defScope (top 10), [], []⟩, ⟨("divisor", none), "divisor", "divisor", defArgs (top 11), defBody (top 11), defScope (top 11), [], []⟩, ⟨("make", none), "make", "make", defArgs (top 12), defBody (top 12), defScope (top 12), [], []⟩, ⟨("add", none), "add", "add", defArgs (top 30), defBody (top 30), defScope (top 30), [], []⟩, ⟨("add_ratios", none), "add", "add", defArgs (top 13), defBody (top 13), defScope (top 13), [], []⟩, ⟨("multiply", none), "multiply", "multiply", defArgs (top 15), defBody (top 15), defScope (top 15), [], []⟩, ⟨("negative", none), "negative", "negative", defArgs (top 16), defBody (top 16), defScope (top 16), [], []⟩, ⟨("is_word", none), "is_word", "is_word", defArgs (top 20), defBody (top 20), defScope (top 20), [], []⟩, ⟨("is_sum", none), "is_sum", "is_sum", defArgs (top 24), defBody (top 24), defScope (top 24), [], []⟩, ⟨("check_sum", none), "check_sum", "check_sum", defArgs (top 25), defBody (top 25), defScope (top 25), [], []⟩, ⟨("key", none), "key", "key", defArgs (top 26), defBody (top 26), defScope (top 26), [], []⟩, ⟨("gathered", none), "gathered", "gathered", defArgs (top 27), defBody (top 27), defScope (top 27), [], []⟩, ⟨("of_word", none), "of_word", "of_word", defArgs (top 28), defBody (top 28), defScope (top 28), [], []⟩, ⟨("one", none), "one", "one", defArgs (top 29), defBody (top 29), defScope (top 29), [], []⟩, ⟨("add_sums", none), "add", "add", defArgs (top 30), defBody (top 30), defScope (top 30), [], []⟩, ⟨("scaled", none), "scaled", "scaled", defArgs (top 32), defBody (top 32), defScope (top 32), [], []⟩, ⟨("minus", none), "minus", "minus", defArgs (top 33), defBody (top 33), defScope (top 33), [], []⟩, ⟨("cut_product", none), "cut_product", "cut_product", defArgs (top 34), defBody (top 34), defScope (top 34), [], []⟩, ⟨("number_at", none), "number_at", "number_at", defArgs (top 35), defBody (top 35), defScope (top 35), [], []⟩, ⟨("check_depth", none), "check_depth", "check_depth", defArgs (top 37), defBody (top 37), defScope (top 37), [], []⟩, ⟨("exponential", none), "exponential", "exponential", defArgs (top 38), defBody (top 38), defScope (top 38), [], []⟩, ⟨("is_path", none), "is_path", "is_path", defArgs (top 42), defBody (top 42), defScope (top 42), [], []⟩, ⟨("check_path", none), "check_path", "check_path", defArgs (top 43), defBody (top 43), defScope (top 43), [], []⟩, ⟨("step_sum", none), "step_sum", "step_sum", defArgs (top 44), defBody (top 44), defScope (top 44), [], []⟩] : List (He.DefD)) ++ ([⟨("signature", none), "signature", "signature", defArgs (top 45), defBody (top 45), defScope (top 45), [], []⟩, ⟨("back", none), "back", "back", defArgs (top 46), defBody (top 46), defScope (top 46), [], []⟩, ⟨("are_along", none), "are_along", "are_along", defArgs (top 47), defBody (top 47), defScope (top 47), [], []⟩, ⟨("shortened", none), "shortened", "shortened", defArgs (top 48), defBody (top 48), defScope (top 48), [], []⟩, ⟨("are_alike", none), "are_alike", "are_alike", defArgs (top 49), defBody (top 49), defScope (top 49), [], []⟩, ⟨("first_unlike", none), "first_unlike", "first_unlike", defArgs (top 50), defBody (top 50), defScope (top 50), [], []⟩, ⟨("_law_tape", none), "_law_tape", "_law_tape", defArgs (top 52), defBody (top 52), defScope (top 52), [], []⟩, ⟨("_law_draw", none), "_law_draw", "_law_draw", defArgs (top 53), defBody (top 53), defScope (top 53), [], []⟩, ⟨("_law_same", none), "_law_same", "_law_same", defArgs (top 54), defBody (top 54), defScope (top 54), [], []⟩, ⟨("_law_frac", none), "_law_frac", "_law_frac", defArgs (top 55), defBody (top 55), defScope (top 55), [], []⟩, ⟨("_law_plus", none), "_law_plus", "_law_plus", defArgs (top 56), defBody (top 56), defScope (top 56), [], []⟩, ⟨("_law_by", none), "_law_by", "_law_by", defArgs (top 57), defBody (top 57), defScope (top 57), [], []⟩, ⟨("_law_over", none), "_law_over", "_law_over", defArgs (top 58), defBody (top 58), defScope (top 58), [], []⟩, ⟨("_law_number", none), "_law_number", "_law_number", defArgs (top 59), defBody (top 59), defScope (top 59), [], []⟩, ⟨("_law_words", none), "_law_words", "_law_words", defArgs (top 60), defBody (top 60), defScope (top 60), [], []⟩, ⟨("_law_all", none), "_law_all", "_law_all", defArgs (top 61), defBody (top 61), defScope (top 61), [], []⟩, ⟨("_law_step", none), "_law_step", "_law_step", defArgs (top 62), defBody (top 62), defScope (top 62), [], []⟩, ⟨("_law_path", none), "_law_path", "_law_path", defArgs (top 63), defBody (top 63), defScope (top 63), [], []⟩, ⟨("_law_worth", none), "_law_worth", "_law_worth", defArgs (top 64), defBody (top 64), defScope (top 64), [], []⟩, ⟨("_law_along", none), "_law_along", "_law_along", defArgs (top 65), defBody (top 65), defScope (top 65), [], []⟩, ⟨("_law_short", none), "_law_short", "_law_short", defArgs (top 66), defBody (top 66), defScope (top 66), [], []⟩, ⟨("_law_spoilt", none), "_law_spoilt", "_law_spoilt", defArgs (top 67), defBody (top 67), defScope (top 67), [], []⟩, ⟨("law", none), "law", "law", defArgs (top 68), defBody (top 68), defScope (top 68), [], []⟩] : List (He.DefD))
def fa : List He.Fa := ([.glo "BracketError", .exc "BracketError", .glo "BadNumber", .exc "BadNumber", .glo "BadSum", .exc "BadSum", .glo "BadRow", .exc "BadRow", .glo "BadSize", .exc "BadSize", .glo "ZERO", .glo "ONE", .glo "is_integer", .glo "is_ratio", .glo "divisor", .glo "make", .glo "add", .glo "add_ratios", .glo "multiply", .glo "negative", .int "MOST_LETTERS" 9, .int "MOST_WORD" 60, .glo "is_word", .int "MOST_TERMS" 6000, .int "MOST_DEPTH" 10] : List (He.Fa)) ++ ([.glo "is_sum", .glo "check_sum", .glo "key", .glo "gathered", .glo "of_word", .glo "one", .glo "add_sums", .glo "scaled", .glo "minus", .glo "cut_product", .glo "number_at", .glo "check_depth", .glo "exponential", .int "MOST_STEPS" 12, .int "MOST_SPACE" 4, .glo "is_path", .glo "check_path", .glo "step_sum", .glo "signature", .glo "back", .glo "are_along", .glo "shortened", .glo "are_alike", .glo "first_unlike", .glo "_law_tape"] : List (He.Fa)) ++ ([.glo "_law_draw", .glo "_law_same", .glo "_law_frac", .glo "_law_plus", .glo "_law_by", .glo "_law_over", .glo "_law_number", .glo "_law_words", .glo "_law_all", .glo "_law_step", .glo "_law_path", .glo "_law_worth", .glo "_law_along", .glo "_law_short", .glo "_law_spoilt", .glo "law", .exm "BracketError" "BracketError" true, .exm "BracketError" "BadNumber" false, .exm "BracketError" "BadSum" false, .exm "BracketError" "BadRow" false, .exm "BracketError" "BadSize" false, .exm "BadNumber" "BracketError" true, .exm "BadNumber" "BadNumber" true, .exm "BadNumber" "BadSum" false, .exm "BadNumber" "BadRow" false] : List (He.Fa)) ++ ([.exm "BadNumber" "BadSize" false, .exm "BadSum" "BracketError" true, .exm "BadSum" "BadNumber" false, .exm "BadSum" "BadSum" true, .exm "BadSum" "BadRow" false, .exm "BadSum" "BadSize" false, .exm "BadRow" "BracketError" true, .exm "BadRow" "BadNumber" false, .exm "BadRow" "BadSum" false, .exm "BadRow" "BadRow" true, .exm "BadRow" "BadSize" false, .exm "BadSize" "BracketError" true, .exm "BadSize" "BadNumber" false, .exm "BadSize" "BadSum" false, .exm "BadSize" "BadRow" false, .exm "BadSize" "BadSize" true, .free "ValueError", .free "abs", .free "all", .free "any", .free "bool", .free "enumerate", .free "int", .free "isinstance", .free "len"] : List (He.Fa)) ++ ([.free "list", .free "range", .free "sorted", .free "str", .free "tuple", .free "zip"] : List (He.Fa))
def exB (K : PySem.W.Frag) : Bool := tupB K "ZERO" [.int 0, .int 1] && tupB K "ONE" [.int 1, .int 1]
abbrev R : PySem.W.OpenRow := PySem.W.OpenLaw.row PySem.Challenge.rw_bracketwords_k62_whole_paths_that_are_sh
abbrev hk : PySem.W.Hook := He.hookX 4 fa fn [] [] exB
def ob (s : PySem.W.SharedT) : He.AlX := He.obsX 4 fa fn [] [] exB (HandSHeadRun.getT s)
theorem ob_eq (s : PySem.W.SharedT) : ob s = hk.obs s.abs := He.obsX_eq (HandSHeadRun.getT_eq s)
def loose : List Str := (["BracketError", "BadNumber", "BadSum", "BadRow", "BadSize", "ZERO", "ONE", "is_integer", "is_ratio", "divisor", "make", "add", "add_ratios", "multiply", "negative", "MOST_LETTERS", "MOST_WORD", "is_word", "MOST_TERMS", "MOST_DEPTH", "is_sum", "check_sum", "key", "gathered", "of_word"] : List (Str)) ++ (["one", "add_sums", "scaled", "minus", "cut_product", "number_at", "check_depth", "exponential", "MOST_STEPS", "MOST_SPACE", "is_path", "check_path", "step_sum", "signature", "back", "are_along", "shortened", "are_alike", "first_unlike", "_law_tape", "_law_draw", "_law_same", "_law_frac", "_law_plus", "_law_by"] : List (Str)) ++ (["_law_over", "_law_number", "_law_words", "_law_all", "_law_step", "_law_path", "_law_worth", "_law_along", "_law_short", "_law_spoilt"] : List (Str))
theorem run (w : World) : HandSHeadRun.RunEq R (PySem.W.view R.prog [68]) hk ob 4000 loose w := by
  intro os
  kernel_rfl
end HL
namespace Vf
open PySem PySem.Spec PyProof.Rows L2

def MLe {α : Type} (m m' : M α) : Prop := ∀ s, m s = .stuck ∨ m s = m' s
def FLe (F G : FT) : Prop := ∀ i ds T, F i ds T = .stuck ∨ F i ds T = G i ds T
theorem MLe.rfl' {α : Type} {m : M α} : MLe m m := fun _ => .inr rfl
theorem MLe.bnd {α β : Type} {m m' : M α} {f f' : α → M β} (h : MLe m m') (g : ∀ a, MLe (f a) (f' a)) : MLe (Vf.bnd m f) (Vf.bnd m' f') := fun s => by
  unfold Vf.bnd
  rcases h s with e | e
  · rw [e]; exact .inl rfl
  · rw [e]
    cases m' s with
    | ok a s' => exact g a s'
    | exc c s' => exact .inr rfl
    | stuck => exact .inl rfl
theorem MLe.nox {α : Type} {m m' : M α} (h : MLe m m') : MLe (Vf.nox m) (Vf.nox m') := fun s => by
  unfold Vf.nox
  rcases h s with e | e
  · rw [e]; exact .inl rfl
  · rw [e]; exact .inr rfl
theorem MLe.ite {α : Type} {m m' n n' : M α} {b : Bool} (h : MLe m m') (g : MLe n n') : MLe (if b then m else n) (if b then m' else n') := by
  cases b
  · exact g
  · exact h
theorem callM_le {F G : FT} (h : FLe F G) (i : Nat) (ds : List D) : MLe (callM F i ds) (callM G i ds) := fun s => by
  unfold callM
  rcases h i ds s.T with e | e
  · rw [e]; exact .inl rfl
  · rw [e]; exact .inr rfl
theorem compL_le {own tg : List Nat} {c c' : M Bool} {e e' : M (D × Bool)} (hc : MLe c c') (he : MLe e e') : ∀ ds, MLe (compL own tg c e ds) (compL own tg c' e' ds)
  | [] => .rfl'
  | d :: r => by
    have ih := compL_le (own := own) (tg := tg) hc he r
    show MLe (fun s => Vf.bnd _ _ s) (fun s => Vf.bnd _ _ s)
    refine MLe.bnd .rfl' fun _ => MLe.bnd hc fun b => ?_
    cases b
    · exact fun s => ih _
    · refine MLe.bnd he fun x s => ?_
      exact MLe.bnd ih (fun _ => .rfl') _
theorem compL2_le {own tg : List Nat} {c c' : M Bool} {e e' : M (List D)} (hc : MLe c c') (he : MLe e e') : ∀ ds, MLe (compL2 own tg c e ds) (compL2 own tg c' e' ds)
  | [] => .rfl'
  | d :: r => by
    have ih := compL2_le (own := own) (tg := tg) hc he r
    show MLe (fun s => Vf.bnd _ _ s) (fun s => Vf.bnd _ _ s)
    refine MLe.bnd .rfl' fun _ => MLe.bnd hc fun b => ?_
    cases b
    · exact fun s => ih _
    · refine MLe.bnd he fun x s => ?_
      exact MLe.bnd ih (fun _ => .rfl') _
theorem MLe.wipe {α : Type} {m m' : M α} (h : MLe m m') (own : List Nat) : MLe (fun s => m (wipeS own s)) (fun s => m' (wipeS own s)) := fun s => h _
mutual
theorem evE_le {F G : FT} (h : FLe F G) : ∀ e, MLe (evE F e) (evE G e)
  | .var i => by unfold evE; exact .rfl'
  | .cst d => by unfold evE; exact .rfl'
  | .glo _ d => by unfold evE; exact .rfl'
  | .prim p es => by unfold evE; exact (evO_le h es).bnd fun _ => .rfl'
  | .chkI a => by unfold evE; exact (evE_le h a).bnd fun _ => .rfl'
  | .not a => by unfold evE; exact ((evE_le h a).bnd fun _ => .rfl').bnd fun _ => .rfl'
  | .and a b => by unfold evE; exact ((evE_le h a).bnd fun _ => .rfl').bnd fun x => .ite (evE_le h b) .rfl'
  | .or a b => by unfold evE; exact ((evE_le h a).bnd fun _ => .rfl').bnd fun x => .ite .rfl' (evE_le h b)
  | .ite c a b => by unfold evE; exact ((evE_le h c).bnd fun _ => .rfl').bnd fun x => .ite (evE_le h a) (evE_le h b)
  | .tup es => by unfold evE; exact (evEs_le h es).bnd fun _ => .rfl'
  | .lst es => by unfold evE; exact (evEs_le h es).bnd fun _ => .rfl'
  | .dic t => by unfold evE; exact .rfl'
  | .call f es => by unfold evE; exact (evEs_le h es).bnd fun _ => callM_le h _ _
  | .pop i es => by unfold evE; exact MLe.bnd .rfl' fun _ => (evEs_le h es).bnd fun _ => .rfl'
  | .comp own tg it .nil e => by
    have h1 := evIt_le h it
    have h3 := evE_le h e
    unfold evE
    refine .nox (h1.bnd fun ds s => ?_)
    split
    · exact MLe.bnd (compL_le .rfl' h3 ds) (fun _ => .rfl') _
    · exact .inr rfl
  | .comp own tg it (.cons c es) e => by
    have h1 := evIt_le h it
    have h2 := evE_le h c
    have h3 := evE_le h e
    unfold evE
    refine .nox (h1.bnd fun ds s => ?_)
    split
    · exact MLe.bnd (compL_le (h2.bnd fun _ => .rfl') h3 ds) (fun _ => .rfl') _
    · exact .inr rfl
  | .comp2 own own1 tg it c tg1 it1 c1 e => by
    have h1 := evIt_le h it
    have h2 : MLe (match c with | .nil => ret true | .cons c _ => Vf.bnd (evE F c) isB) (match c with | .nil => ret true | .cons c _ => Vf.bnd (evE G c) isB) := match c with
      | .nil => .rfl'
      | .cons c _ => (evE_le h c).bnd fun _ => .rfl'
    have h4 := evIt_le h it1
    have h5 : MLe (match c1 with | .nil => ret true | .cons c _ => Vf.bnd (evE F c) isB) (match c1 with | .nil => ret true | .cons c _ => Vf.bnd (evE G c) isB) := match c1 with
      | .nil => .rfl'
      | .cons c _ => (evE_le h c).bnd fun _ => .rfl'
    have h3 := evE_le h e
    unfold evE
    refine .nox (h1.bnd fun ds s => ?_)
    split
    · exact MLe.bnd (compL2_le h2 (h4.bnd fun ds1 => (compL_le h5 h3 ds1).wipe own1) ds) (fun _ => .rfl') _
    · exact .inr rfl
  | .sortk a _ => by unfold evE; exact (evE_le h a).bnd fun _ => .rfl'
theorem evEs_le {F G : FT} (h : FLe F G) : ∀ es, MLe (evEs F es) (evEs G es)
  | .nil => by unfold evEs; exact .rfl'
  | .cons e es => by unfold evEs; exact (evE_le h e).bnd fun _ => (evEs_le h es).bnd fun _ => .rfl'
theorem evO_le {F G : FT} (h : FLe F G) : ∀ es, MLe (evO F es) (evO G es)
  | .nil => by unfold evO; exact .rfl'
  | .cons e es => by
    have h1 := evE_le h e
    have h2 := evO_le h es
    rw [evO_cons, evO_cons]
    refine MLe.bnd ?_ fun _ => h2.bnd fun _ => .rfl'
    unfold evOp
    split
    · exact .rfl'
    · exact h1.bnd fun _ => .rfl'
theorem evIt_le {F G : FT} (h : FLe F G) : ∀ it, MLe (evIt F it) (evIt G it)
  | .ex e => by unfold evIt; exact (evE_le h e).bnd fun _ => .rfl'
  | .rng1 a => by unfold evIt; exact (evE_le h a).bnd fun _ => .rfl'
  | .rng2 a b => by unfold evIt; exact (evE_le h a).bnd fun _ => (evE_le h b).bnd fun _ => .rfl'
  | .zip a b => by unfold evIt; exact (evE_le h a).bnd fun _ => (evE_le h b).bnd fun _ => .rfl'
  | .enm a => by unfold evIt; exact (evE_le h a).bnd fun _ => .rfl'
end
theorem forL_le {tg : List Nat} {b b' : M Fl} (h : MLe b b') : ∀ ds, MLe (forL tg b ds) (forL tg b' ds)
  | [] => .rfl'
  | d :: r => by
    refine MLe.bnd .rfl' fun _ => h.bnd fun f => ?_
    cases f
    · exact forL_le h r
    · exact .rfl'
theorem whileL_le {c c' : M Bool} {b b' : M Fl} (hc : MLe c c') (h : MLe b b') : ∀ n, MLe (whileL c b n) (whileL c' b' n)
  | 0 => .rfl'
  | n + 1 => by
    refine MLe.bnd hc fun x => .ite (h.bnd fun f => ?_) .rfl'
    cases f
    · exact whileL_le hc h n
    · exact .rfl'
mutual
theorem evS_le {F G : FT} (h : FLe F G) : ∀ s, MLe (evS F s) (evS G s)
  | .set i e => by unfold evS; exact (evE_le h e).bnd fun _ => .rfl'
  | .unp is e => by unfold evS; exact (evE_le h e).bnd fun _ => .rfl'
  | .par is es => by unfold evS; exact (evEs_le h es).bnd fun _ => .rfl'
  | .aug i op e => by unfold evS; exact MLe.bnd .rfl' fun _ => (evE_le h e).bnd fun _ => .rfl'
  | .put i k e => by unfold evS; exact (evE_le h e).bnd fun _ => MLe.bnd .rfl' fun _ => (evE_le h k).bnd fun _ => .rfl'
  | .augk i k op e => by
    have h1 := evE_le h e
    unfold evS
    refine MLe.bnd .rfl' fun _ => (evE_le h k).bnd fun kk s => ?_
    split
    · split
      · exact MLe.bnd h1 (fun _ => .rfl') _
      · exact .inl rfl
    · exact .inl rfl
  | .app i e => by unfold evS; exact MLe.bnd .rfl' fun _ => (evE_le h e).bnd fun _ => .rfl'
  | .ext i e => by unfold evS; exact MLe.bnd .rfl' fun _ => (evE_le h e).bnd fun _ => .rfl'
  | .ite c a b => by unfold evS; exact ((evE_le h c).bnd fun _ => .rfl').bnd fun x => .ite (evSs_le h a) (evSs_le h b)
  | .for_ tg it b => by unfold evS; exact (evIt_le h it).bnd fun ds => forL_le (evSs_le h b) ds
  | .while_ c b => by unfold evS; exact whileL_le ((evE_le h c).bnd fun _ => .rfl') (evSs_le h b) _
  | .ret e => by
    have h1 := evE_le h e
    unfold evS
    split
    · exact .rfl'
    · exact h1.bnd fun _ => .rfl'
  | .raise c => by unfold evS; exact .rfl'
  | .expr e => by unfold evS; exact (evE_le h e).bnd fun _ => .rfl'
  | .pass => by unfold evS; exact .rfl'
  | .try_ e r hs => by
    intro s
    unfold evS
    rcases evE_le h e s with q | q
    · exact .inl (by show (match evE F e s with | .ok x s' => _ | .exc c s' => _ | .stuck => _) = _; rw [q])
    · exact .inr (by show (match evE F e s with | .ok x s' => _ | .exc c s' => _ | .stuck => _) = (match evE G e s with | .ok x s' => _ | .exc c s' => _ | .stuck => _); rw [q])
theorem evSs_le {F G : FT} (h : FLe F G) : ∀ ss, MLe (evSs F ss) (evSs G ss)
  | .nil => by unfold evSs; exact .rfl'
  | .cons s ss => by
    unfold evSs
    refine (evS_le h s).bnd fun f => ?_
    cases f
    · exact evSs_le h ss
    · exact .rfl'
end
theorem runB_le {F G : FT} (h : FLe F G) (f : Fd) (ds : List D) (T : TP) : runB F f ds T = .stuck ∨ runB F f ds T = runB G f ds T := by
  unfold runB
  split
  · rcases evSs_le h f.b (startS f.n ds T) with e | e
    · rw [e]; exact .inl rfl
    · rw [e]; exact .inr rfl
  · exact .inl rfl
def runX (X : FT) (P : List Fn) : Nat → FT
  | 0 => fun _ _ _ => .stuck
  | k + 1 => fun f ds T => match X f ds T with
    | .stuck => (match P[f]? with
      | some (.body b) => runB (runX X P k) b ds T
      | some (.prim p) => p ds T
      | none => .stuck)
    | r => r
theorem FLe.trans {F G H : FT} (a : FLe F G) (b : FLe G H) : FLe F H := fun i ds T => by
  rcases a i ds T with e | e
  · exact .inl e
  · rw [e]; exact b i ds T
theorem run_step (P : List Fn) : ∀ k, FLe (run P k) (run P (k + 1))
  | 0 => fun _ _ _ => .inl rfl
  | k + 1 => fun f ds T => by
    show (match P[f]? with | some (.body b) => runB (run P k) b ds T | some (.prim p) => p ds T | none => .stuck) = .stuck ∨ (match P[f]? with | some (.body b) => runB (run P k) b ds T | some (.prim p) => p ds T | none => .stuck) = (match P[f]? with | some (.body b) => runB (run P (k + 1)) b ds T | some (.prim p) => p ds T | none => .stuck)
    split
    · exact runB_le (run_step P k) _ _ _
    · exact .inr rfl
    · exact .inl rfl
theorem run_le (P : List Fn) (k : Nat) : ∀ j, FLe (run P k) (run P (k + j))
  | 0 => fun _ _ _ => .inr rfl
  | j + 1 => (run_le P k j).trans (run_step P (k + j))
theorem runX_le {X : FT} {P : List Fn} {n : Nat} (h : FLe X (run P n)) : ∀ k, FLe (runX X P k) (run P (n + k))
  | 0 => fun _ _ _ => .inl rfl
  | k + 1 => fun f ds T => by
    have ih := runX_le h k
    have hx := (h.trans (run_le P n (k + 1))) f ds T
    show (match X f ds T with | .stuck => (match P[f]? with | some (.body b) => runB (runX X P k) b ds T | some (.prim p) => p ds T | none => .stuck) | r => r) = .stuck ∨ (match X f ds T with | .stuck => (match P[f]? with | some (.body b) => runB (runX X P k) b ds T | some (.prim p) => p ds T | none => .stuck) | r => r) = _
    cases hX : X f ds T with
    | stuck =>
      show (match P[f]? with | some (.body b) => runB (runX X P k) b ds T | some (.prim p) => p ds T | none => .stuck) = .stuck ∨ (match P[f]? with | some (.body b) => runB (runX X P k) b ds T | some (.prim p) => p ds T | none => .stuck) = (match P[f]? with | some (.body b) => runB (run P (n + k)) b ds T | some (.prim p) => p ds T | none => .stuck)
      split
      · exact runB_le ih _ _ _
      · exact .inr rfl
      · exact .inl rfl
    | ok d fr T' => rw [hX] at hx; exact hx
    | exc c T' => rw [hX] at hx; exact hx
theorem ev_found {F G : FT} (h : FLe F G) {ss : Sxs} {s s' : S} {f : Fl} (e : evSs F ss s = .ok f s') : evSs G ss s = .ok f s' := by
  rcases evSs_le h ss s with q | q
  · rw [e] at q; cases q
  · rw [← q]; exact e
theorem fn_found {F G : FT} (h : FLe F G) {i : Nat} {ds : List D} {T : TP} {r : FRes} (e : F i ds T = r) (hr : r ≠ .stuck) : G i ds T = r := by
  rcases h i ds T with q | q
  · rw [e] at q; exact (hr q).elim
  · rw [← q]; exact e
end Vf
namespace Vf
open PySem PySem.Spec PyProof.Rows L2

theorem u_bnd {α β : Type} {s : S} {m : M α} {f : α → M β} : bnd m f s = match m s with
  | .ok a s' => f a s'
  | .exc c s' => .exc c s'
  | .stuck => .stuck := rfl
theorem u_ite {α : Type} {s : S} {c : Prop} [Decidable c] {m n : M α} : (if c then m else n) s = if c then m s else n s := by split <;> rfl
theorem u_retS {α : Type} {s : S} {a : α} : Vf.ret a s = .ok a s := rfl
theorem u_stk {α : Type} {s : S} : (stk : M α) s = .stuck := rfl
theorem u_opt {α : Type} {s : S} {a : α} : opt (some a) s = .ok a s := rfl
theorem u_isB {s : S} {b fr : Bool} : isB (.bl b, fr) s = .ok b s := rfl
theorem u_eqI {i j : Int} : Vf.eqD (.int i) (.int j) = some (decide (i = j)) := rfl
theorem u_eqB {i j : Bool} : Vf.eqD (.bl i) (.bl j) = some (decide (i = j)) := rfl
theorem u_ltI {i j : Int} : Vf.ltD (.int i) (.int j) = some (decide (i < j)) := rfl
theorem u_leI {i j : Int} : Vf.leD (.int i) (.int j) = some (decide (i ≤ j)) := rfl
theorem u_ix0 {a : D} {r : List D} : idxD (.tup (a :: r)) (.int 0) = some (a, false) := by
  show (at? 0 (a :: r)).map _ = _
  have : at? 0 (a :: r) = some a := atI_nat (j := 0) rfl
  rw [this]; rfl
theorem u_ix1 {a b : D} {r : List D} : idxD (.tup (a :: b :: r)) (.int 1) = some (b, false) := by
  show (at? 1 (a :: b :: r)).map _ = _
  have : at? 1 (a :: b :: r) = some b := atI_nat (j := 1) rfl
  rw [this]; rfl
theorem u_ix0k {a : D} {r : List D} : idxD (.ktup (a :: r)) (.int 0) = some (a, false) := by
  show (at? 0 (a :: r)).map _ = _
  have : at? 0 (a :: r) = some a := atI_nat (j := 0) rfl
  rw [this]; rfl
theorem u_ix1k {a b : D} {r : List D} : idxD (.ktup (a :: b :: r)) (.int 1) = some (b, false) := by
  show (at? 1 (a :: b :: r)).map _ = _
  have : at? 1 (a :: b :: r) = some b := atI_nat (j := 1) rfl
  rw [this]; rfl
theorem u_sqL {ds : List D} : seqOf (.lst ds) = some ds := rfl
theorem u_sqT {ds : List D} : seqOf (.tup ds) = some ds := rfl
theorem u_sqK {ds : List D} : seqOf (.ktup ds) = some ds := rfl
end Vf
open PySem PySem.Spec PyProof.Rows L2 Vf
local macro_rules
  | `(tactic| dsimp!) => `(tactic| dsimp! [])
  | `(tactic| dsimp! [$xs,*]) => `(tactic| simp only [Vf.runB, Vf.evE, Vf.evEs, Vf.evO_cons, Vf.evOp, Vf.evO, Vf.evIt, Vf.evS, Vf.evSs, Vf.u_bnd, Vf.u_ite, Vf.u_retS, Vf.u_stk, Vf.u_opt, Vf.u_isB, Vf.rdV, Vf.opV, Vf.retV, Vf.storeM, Vf.startS, Vf.lk, Vf.setS, Vf.setP, Vf.setAll, Vf.getAll, Vf.Opd.get, Vf.callM, Vf.tupM, Vf.lstM, Vf.tupOf, Vf.bindTup, Vf.bindT, Vf.wipeS, Vf.noOwned, Vf.backS, Vf.nox, Vf.ownM, Vf.ownL, Vf.u_sqL, Vf.u_sqT, Vf.u_sqK, Vf.primD, Vf.arg1, Vf.arg2, Vf.bltD, Vf.lenD, Vf.absD, Vf.intD, Vf.tupleD, Vf.listD, Vf.negD, Vf.binD, Vf.addD, Vf.subD, Vf.mulD, Vf.divD, Vf.modD, Vf.cmpD, Vf.isT, Vf.u_eqI, Vf.u_eqB, Vf.u_ltI, Vf.u_leI, Vf.u_ix0, Vf.u_ix1, Vf.u_ix0k, Vf.u_ix1k, Vf.forL, Vf.compL, Vf.orElse2, Vf.min2D, Vf.putV,
      List.map_cons, List.map_nil, List.length_cons, List.length_nil, List.cons_append, List.nil_append, List.getElem?_cons_zero, List.getElem?_cons_succ, List.getElem?_nil, List.set_cons_zero, List.set_cons_succ, List.replicate, Option.join_some, Option.join_none, Option.map_some, Option.map_none, Option.bind_some, Option.bind_none, List.foldl_cons, List.foldl_nil, List.all_cons, List.all_nil, Option.join, id, id_eq,
      Nat.reduceAdd, Nat.reduceSub, Nat.reduceEqDiff, ↓reduceIte, if_true, if_false, Bool.not_true, Bool.not_false, Bool.true_and, Bool.and_true, Bool.false_and, Bool.and_false, decide_true, decide_false, decide_not, Bool.false_eq_true, String.reduceEq, Nat.add_zero, Nat.zero_add, reduceCtorEq, not_false_eq_true, not_true_eq_false, ne_eq, implies_true, $xs,*])
namespace Vf
theorem st_cons {F : FT} {x : Sx} {ss : Sxs} {s s1 s2 : S} {r : Fl} (h : evS F x s = .ok .nx s1) (g : evSs F ss s1 = .ok r s2) : evSs F (.cons x ss) s = .ok r s2 := by
  unfold evSs
  rw [u_bnd, h]
  exact g
theorem st_last {F : FT} {x : Sx} {ss : Sxs} {s s1 : S} {d : D} {fr : Bool} (h : evS F x s = .ok (.rt d fr) s1) : evSs F (.cons x ss) s = .ok (.rt d fr) s1 := by
  unfold evSs
  rw [u_bnd, h]
theorem st_end {F : FT} {s : S} : evSs F .nil s = .ok .nx s := by
  unfold evSs
  rfl
theorem rb_rt {F : FT} {f : Fd} {ds : List D} {T : TP} {d : D} {fr : Bool} {s : S} (h : ds.length = f.ps) (g : evSs F f.b (startS f.n ds T) = .ok (.rt d fr) s) (t : s.T = T) : runB F f ds T = .ok d fr T := by
  unfold runB
  rw [if_pos h, g, ← t]
theorem rb_nx {F : FT} {f : Fd} {ds : List D} {T : TP} {s : S} (h : ds.length = f.ps) (g : evSs F f.b (startS f.n ds T) = .ok .nx s) (t : s.T = T) : runB F f ds T = .ok .non false T := by
  unfold runB
  rw [if_pos h, g, ← t]
theorem st_while {F : FT} {c : Ex} {b : Sxs} {s s1 : S} {r : Fl} (h : whileL (bnd (evE F c) isB) (evSs F b) most s = .ok r s1) : evS F (.while_ c b) s = .ok r s1 := by
  unfold evS
  exact h
theorem st_for {F : FT} {tg : List Nat} {it : It} {b : Sxs} {s s0 s1 : S} {ds : List D} {r : Fl} (h0 : evIt F it s = .ok ds s0) (h : forL tg (evSs F b) ds s0 = .ok r s1) : evS F (.for_ tg it b) s = .ok r s1 := by
  unfold evS
  rw [u_bnd, h0]
  exact h
theorem for_cons {tg : List Nat} {b : M Fl} {d : D} {r : List D} {s s1 s2 s3 : S} {x : Fl} (h1 : bindT tg d s = .ok () s1) (h2 : b s1 = .ok .nx s2) (h3 : forL tg b r s2 = .ok x s3) : forL tg b (d :: r) s = .ok x s3 := by
  show bnd _ _ s = _
  rw [u_bnd, h1]
  show bnd _ _ s1 = _
  rw [u_bnd, h2]
  exact h3
theorem comp_no {own tg : List Nat} {c : M Bool} {e : M (D × Bool)} {d : D} {r : List D} {s s1 s2 : S} {z : Res (List D)} (h1 : bindT tg d s = .ok () s1) (h2 : c s1 = .ok false s2) (h3 : compL own tg c e r (wipeS own s2) = z) : compL own tg c e (d :: r) s = z := by
  unfold compL
  rw [u_bnd, h1]
  show bnd c _ s1 = _
  rw [u_bnd, h2]
  exact h3
theorem comp_yes {own tg : List Nat} {c : M Bool} {e : M (D × Bool)} {d : D} {r : List D} {s s1 s2 s3 s4 : S} {x : D × Bool} {xs : List D} (h1 : bindT tg d s = .ok () s1) (h2 : c s1 = .ok true s2) (h3 : e s2 = .ok x s3) (h4 : compL own tg c e r (wipeS own s3) = .ok xs s4) : compL own tg c e (d :: r) s = .ok (x.1 :: xs) s4 := by
  unfold compL
  rw [u_bnd, h1]
  show bnd c _ s1 = _
  rw [u_bnd, h2]
  show bnd e _ s2 = _
  rw [u_bnd, h3]
  show bnd _ _ (wipeS own s3) = _
  rw [u_bnd, h4]
theorem nox_ok {α : Type} {m : M α} {s s1 : S} {a : α} (h : m s = .ok a s1) : Vf.nox m s = .ok a s1 := by
  unfold Vf.nox
  rw [h]
theorem ev_comp0 {F : FT} {own tg : List Nat} {it : It} {e : Ex} {s s0 s1 : S} {ds xs : List D} (h0 : evIt F it s = .ok ds s0) (hn : noOwned own s0 = true) (h : compL own tg (Vf.ret true) (evE F e) ds (wipeS own s0) = .ok xs s1) (hf : fits xs.length = true) :
    evE F (.comp own tg it .nil e) s = .ok (.lst xs, true) (backS own s0 s1) := by
  unfold evE
  refine nox_ok ?_
  rw [u_bnd, h0]
  refine (if_pos hn).trans ?_
  rw [u_bnd, h]
  exact if_pos hf
theorem ev_comp1 {F : FT} {own tg : List Nat} {it : It} {c e : Ex} {s s0 s1 : S} {ds xs : List D} (h0 : evIt F it s = .ok ds s0) (hn : noOwned own s0 = true) (h : compL own tg (bnd (evE F c) isB) (evE F e) ds (wipeS own s0) = .ok xs s1) (hf : fits xs.length = true) :
    evE F (.comp own tg it (.cons c .nil) e) s = .ok (.lst xs, true) (backS own s0 s1) := by
  unfold evE
  refine nox_ok ?_
  rw [u_bnd, h0]
  refine (if_pos hn).trans ?_
  rw [u_bnd, h]
  exact if_pos hf
theorem ev_blt1 {F : FT} {p : Pr} {e : Ex} (hv : ∀ i, e ≠ .var i) {s s1 : S} {d : D} {fr : Bool} {r : D × Bool} (h : evE F e s = .ok (d, fr) s1) (hp : primD p [d] = some r) : evE F (.prim p (.cons e .nil)) s = .ok r s1 := by
  have ho : evOp F e s = .ok (.val d) s1 := by
    unfold evOp
    split
    · exact (hv _ rfl).elim
    · rw [u_bnd, h]
  unfold evE
  rw [u_bnd, evO_cons, u_bnd, ho]
  simp only [evO, u_bnd, u_retS, getAll, Opd.get, hp]
theorem st_set {F : FT} {i : Nat} {e : Ex} {s s1 : S} {x : D × Bool} (h : evE F e s = .ok x s1) : evS F (.set i e) s = .ok .nx (setS s1 i (some (x.2, x.1))) := by
  unfold evS
  rw [u_bnd, h]
  rfl
theorem st_ret {F : FT} {e : Ex} (hv : ∀ i, e ≠ .var i) {s s1 : S} {x : D × Bool} (h : evE F e s = .ok x s1) : evS F (.ret e) s = .ok (.rt x.1 x.2) s1 := by
  unfold evS
  split
  · exact (hv _ rfl).elim
  · rw [u_bnd, h]
theorem ev_or_f {F : FT} {a b : Ex} {s s1 : S} {fr : Bool} {r : Res (D × Bool)} (h : evE F a s = .ok (.bl false, fr) s1) (g : evE F b s1 = r) : evE F (.or a b) s = r := by
  have e : evE F (.or a b) = bnd (bnd (evE F a) isB) fun x => if x then Vf.ret (.bl true, false) else evE F b := by conv => lhs; unfold evE
  rw [e, u_bnd, u_bnd, h]
  exact g
theorem st_ite_f {F : FT} {c : Ex} {a b : Sxs} {s s1 : S} {fr : Bool} {r : Res Fl} (h : evE F c s = .ok (.bl false, fr) s1) (g : evSs F b s1 = r) : evS F (.ite c a b) s = r := by
  have e : evS F (.ite c a b) = bnd (bnd (evE F c) isB) fun x => if x then evSs F a else evSs F b := by conv => lhs; unfold evS
  rw [e, u_bnd, u_bnd, h]
  exact g
theorem st_ite_t {F : FT} {c : Ex} {a b : Sxs} {s s1 : S} {fr : Bool} {r : Res Fl} (h : evE F c s = .ok (.bl true, fr) s1) (g : evSs F a s1 = r) : evS F (.ite c a b) s = r := by
  have e : evS F (.ite c a b) = bnd (bnd (evE F c) isB) fun x => if x then evSs F a else evSs F b := by conv => lhs; unfold evS
  rw [e, u_bnd, u_bnd, h]
  exact g
theorem ev_not {F : FT} {a : Ex} {s s1 : S} {b fr : Bool} (h : evE F a s = .ok (.bl b, fr) s1) : evE F (.not a) s = .ok (.bl (!b), false) s1 := by
  have e : evE F (.not a) = bnd (bnd (evE F a) isB) fun x => Vf.ret (.bl (!x), false) := by conv => lhs; unfold evE
  rw [e, u_bnd, u_bnd, h]
  rfl
end Vf
namespace Vf
open PySem PySem.Spec PyProof.Rows L2

def atT {α : Type} (T : TP) : Res α → Res α
  | .ok a s => .ok a ⟨s.ρ, T⟩
  | .exc c s => .exc c ⟨s.ρ, T⟩
  | .stuck => .stuck
def atF (T : TP) : FRes → FRes
  | .ok d fr _ => .ok d fr T
  | .exc c _ => .exc c T
  | .stuck => .stuck
def MT {α : Type} (m : M α) : Prop := ∀ ρ T, m ⟨ρ, T⟩ = atT T (m ⟨ρ, none⟩)
def FTI (F : FT) : Prop := ∀ i ds T, F i ds T = atF T (F i ds none)
theorem MT.none {α : Type} {m : M α} (h : MT m) {ρ : List (Option (Bool × D))} {a : α} {s : S} (e : m ⟨ρ, .none⟩ = .ok a s) : s = ⟨s.ρ, .none⟩ := by
  have := h ρ .none
  rw [e] at this
  injection this
theorem MT.bnd {α β : Type} {m : M α} {f : α → M β} (h : MT m) (g : ∀ a, MT (f a)) : MT (Vf.bnd m f) := fun ρ T => by
  rw [u_bnd, u_bnd, h ρ T]
  cases e : m ⟨ρ, .none⟩ with
  | ok a s =>
    have e2 := h.none e
    show f a ⟨s.ρ, T⟩ = atT T (f a s)
    rw [g a s.ρ T, ← e2]
  | exc c s => rfl
  | stuck => rfl
theorem MT.ret {α : Type} {a : α} : MT (Vf.ret a) := fun _ _ => rfl
theorem MT.stk {α : Type} : MT (Vf.stk : M α) := fun _ _ => rfl
theorem MT.opt {α : Type} {a : Option α} : MT (Vf.opt a) := fun _ _ => by cases a <;> rfl
theorem MT.ite {α : Type} {m n : M α} {b : Prop} [Decidable b] (h : MT m) (g : MT n) : MT (if b then m else n) := by
  split
  · exact h
  · exact g
theorem MT.nox {α : Type} {m : M α} (h : MT m) : MT (Vf.nox m) := fun ρ T => by
  unfold Vf.nox
  rw [h ρ T]
  cases m ⟨ρ, .none⟩ <;> rfl
theorem MT.rdV (i : Nat) : MT (Vf.rdV i) := fun ρ T => by
  show (match lk ⟨ρ, T⟩ i with | some (_, d) => _ | .none => _) = atT T (match lk ⟨ρ, .none⟩ i with | some (_, d) => _ | .none => _)
  have : lk ⟨ρ, T⟩ i = lk ⟨ρ, .none⟩ i := rfl
  rw [this]
  split <;> rfl
theorem MT.opV (i : Nat) : MT (Vf.opV i) := fun ρ T => by
  show (match lk ⟨ρ, T⟩ i with | some _ => _ | .none => _) = atT T (match lk ⟨ρ, .none⟩ i with | some _ => _ | .none => _)
  have : lk ⟨ρ, T⟩ i = lk ⟨ρ, .none⟩ i := rfl
  rw [this]
  split <;> rfl
theorem MT.retV (i : Nat) : MT (Vf.retV i) := fun ρ T => by
  show (match lk ⟨ρ, T⟩ i with | some (fr, d) => _ | .none => _) = atT T (match lk ⟨ρ, .none⟩ i with | some (fr, d) => _ | .none => _)
  have : lk ⟨ρ, T⟩ i = lk ⟨ρ, .none⟩ i := rfl
  rw [this]
  split <;> rfl
theorem MT.isB (x : D × Bool) : MT (Vf.isB x) := by
  unfold Vf.isB
  split
  · exact .ret
  · exact .stk
theorem MT.intM (x : D × Bool) : MT (Vf.intM x) := by
  unfold Vf.intM
  split
  · exact .ret
  · exact .stk
theorem MT.tupM (x : List D) : MT (Vf.tupM x) := .ite .ret .stk
theorem MT.lstM (x : List D) : MT (Vf.lstM x) := .ite .ret .stk
theorem MT.callM {F : FT} (h : FTI F) (i : Nat) (ds : List D) : MT (Vf.callM F i ds) := fun ρ T => by
  unfold Vf.callM
  simp only
  rw [h i ds T]
  cases F i ds .none <;> rfl
theorem MT.ownM (i : Nat) : MT (Vf.ownM i) := fun ρ T => by
  show (match lk ⟨ρ, T⟩ i with | some (true, _) => _ | _ => _) = atT T (match lk ⟨ρ, .none⟩ i with | some (true, _) => _ | _ => _)
  have : lk ⟨ρ, T⟩ i = lk ⟨ρ, .none⟩ i := rfl
  rw [this]
  split <;> rfl
theorem MT.ownL (i : Nat) : MT (Vf.ownL i) := fun ρ T => by
  show (match lk ⟨ρ, T⟩ i with | some (true, .lst _) => _ | _ => _) = atT T (match lk ⟨ρ, .none⟩ i with | some (true, .lst _) => _ | _ => _)
  have : lk ⟨ρ, T⟩ i = lk ⟨ρ, .none⟩ i := rfl
  rw [this]
  split <;> rfl
theorem MT.putV (i : Nat) (k x : D) : MT (Vf.putV i k x) := fun ρ T => by
  unfold Vf.putV
  have : lk ⟨ρ, T⟩ i = lk ⟨ρ, .none⟩ i := rfl
  simp only [this]
  split
  · split <;> rfl
  · rfl
theorem MT.popV (i : Nat) (xs : List D) : MT (Vf.popV i xs) := fun ρ T => by
  unfold Vf.popV
  have : lk ⟨ρ, T⟩ i = lk ⟨ρ, .none⟩ i := rfl
  simp only [this]
  repeat' split
  all_goals rfl
theorem setP_T (T : TP) : ∀ (is : List Nat) (ds : List D) (ρ : List (Option (Bool × D))), setP is ds ⟨ρ, T⟩ = ⟨(setP is ds ⟨ρ, .none⟩).ρ, T⟩
  | [], _, _ => by simp only [setP]
  | _ :: _, [], _ => by simp only [setP]
  | i :: is, d :: ds, ρ => by
    show setP is ds (setS ⟨ρ, T⟩ i _) = ⟨(setP is ds (setS ⟨ρ, .none⟩ i _)).ρ, T⟩
    exact setP_T T is ds _
theorem setAll_T (T : TP) : ∀ (is : List Nat) (ds : List (D × Bool)) (ρ : List (Option (Bool × D))), setAll is ds ⟨ρ, T⟩ = ⟨(setAll is ds ⟨ρ, .none⟩).ρ, T⟩
  | [], _, _ => by simp only [setAll]
  | _ :: _, [], _ => by simp only [setAll]
  | i :: is, d :: ds, ρ => by
    show setS (setAll is ds ⟨ρ, T⟩) i _ = ⟨(setS (setAll is ds ⟨ρ, .none⟩) i _).ρ, T⟩
    rw [setAll_T T is ds ρ]
    rfl
theorem setP_T0 (is : List Nat) (ds : List D) (ρ : List (Option (Bool × D))) : setP is ds ⟨ρ, .none⟩ = ⟨(setP is ds ⟨ρ, .none⟩).ρ, .none⟩ := setP_T .none is ds ρ
theorem MT.bindT (tg : List Nat) (d : D) : MT (Vf.bindT tg d) := fun ρ T => by
  unfold Vf.bindT
  split
  · rfl
  · unfold bindTup
    split
    · split
      · rw [setP_T]; rfl
      · rfl
    · rfl
theorem MT.comp {own tg : List Nat} {c : M Bool} {e : M (D × Bool)} (hc : MT c) (he : MT e) : ∀ ds, MT (compL own tg c e ds)
  | [] => .ret
  | d :: r => by
    have ih := MT.comp (own := own) (tg := tg) hc he r
    show MT (fun s => Vf.bnd _ _ s)
    have : ∀ {m : M (List D)}, MT m → MT (fun s => m s) := fun h => h
    refine this (MT.bnd (.bindT _ _) fun _ => MT.bnd hc fun b => ?_)
    have w : ∀ {β : Type} {m : M β}, MT m → MT (fun s' => m (wipeS own s')) := fun {β m} h ρ T => h _ T
    cases b
    · exact w ih
    · exact MT.bnd he fun x => w (MT.bnd ih fun _ => .ret)
theorem MT.comp2 {own tg : List Nat} {c : M Bool} {e : M (List D)} (hc : MT c) (he : MT e) : ∀ ds, MT (compL2 own tg c e ds)
  | [] => .ret
  | d :: r => by
    have ih := MT.comp2 (own := own) (tg := tg) hc he r
    show MT (fun s => Vf.bnd _ _ s)
    have : ∀ {m : M (List D)}, MT m → MT (fun s => m s) := fun h => h
    refine this (MT.bnd (.bindT _ _) fun _ => MT.bnd hc fun b => ?_)
    have w : ∀ {β : Type} {m : M β}, MT m → MT (fun s' => m (wipeS own s')) := fun {β m} h ρ T => h _ T
    cases b
    · exact w ih
    · exact MT.bnd he fun x => w (MT.bnd ih fun _ => .ret)
mutual
theorem evE_T {F : FT} (h : FTI F) : ∀ e, MT (evE F e)
  | .var i => by unfold evE; exact .rdV i
  | .cst d => by unfold evE; exact .ret
  | .glo _ d => by unfold evE; exact .ret
  | .prim p es => by
    unfold evE
    refine (evO_T h es).bnd fun os ρ T => ?_
    have : ∀ os, getAll ⟨ρ, T⟩ os = getAll ⟨ρ, none⟩ os := fun os => by
      induction os with
      | nil => rfl
      | cons o r ih =>
        have : o.get ⟨ρ, T⟩ = o.get ⟨ρ, none⟩ := by cases o <;> rfl
        unfold getAll
        rw [ih, this]
    simp only [this]
    split
    · split <;> rfl
    · rfl
  | .chkI a => by unfold evE; exact (evE_T h a).bnd .intM
  | .not a => by unfold evE; exact ((evE_T h a).bnd .isB).bnd fun _ => .ret
  | .and a b => by unfold evE; exact ((evE_T h a).bnd .isB).bnd fun x => .ite (evE_T h b) .ret
  | .or a b => by unfold evE; exact ((evE_T h a).bnd .isB).bnd fun x => .ite .ret (evE_T h b)
  | .ite c a b => by unfold evE; exact ((evE_T h c).bnd .isB).bnd fun x => .ite (evE_T h a) (evE_T h b)
  | .tup es => by unfold evE; exact (evEs_T h es).bnd fun _ => .tupM _
  | .lst es => by unfold evE; exact (evEs_T h es).bnd fun _ => .lstM _
  | .dic t => by unfold evE; exact .ret
  | .call f es => by unfold evE; exact (evEs_T h es).bnd fun _ => .callM h _ _
  | .pop i es => by unfold evE; exact MT.bnd (.ownL i) fun _ => (evEs_T h es).bnd fun _ => .popV _ _
  | .comp own tg it .nil e => by
    have h1 := evIt_T h it
    have h3 := evE_T h e
    unfold evE
    refine .nox (h1.bnd fun ds ρ T => ?_)
    have : noOwned own ⟨ρ, T⟩ = noOwned own ⟨ρ, none⟩ := rfl
    rw [this]
    split
    · refine MT.bnd (MT.comp .ret h3 ds) (fun _ ρ' T => ?_) (wipeS own ⟨ρ, none⟩).ρ T
      split <;> rfl
    · rfl
  | .comp own tg it (.cons c es) e => by
    have h1 := evIt_T h it
    have h2 := evE_T h c
    have h3 := evE_T h e
    unfold evE
    refine .nox (h1.bnd fun ds ρ T => ?_)
    have : noOwned own ⟨ρ, T⟩ = noOwned own ⟨ρ, none⟩ := rfl
    rw [this]
    split
    · refine MT.bnd (MT.comp (h2.bnd .isB) h3 ds) (fun _ ρ' T => ?_) (wipeS own ⟨ρ, none⟩).ρ T
      split <;> rfl
    · rfl
  | .comp2 own own1 tg it c tg1 it1 c1 e => by
    have h1 := evIt_T h it
    have h2 : MT (match c with | .nil => Vf.ret true | .cons c _ => Vf.bnd (evE F c) Vf.isB) := match c with
      | .nil => .ret
      | .cons c _ => (evE_T h c).bnd .isB
    have h4 := evIt_T h it1
    have h5 : MT (match c1 with | .nil => Vf.ret true | .cons c _ => Vf.bnd (evE F c) Vf.isB) := match c1 with
      | .nil => .ret
      | .cons c _ => (evE_T h c).bnd .isB
    have h3 := evE_T h e
    unfold evE
    refine .nox (h1.bnd fun ds ρ T => ?_)
    have : noOwned own ⟨ρ, T⟩ = noOwned own ⟨ρ, none⟩ := rfl
    rw [this]
    split
    · refine MT.bnd (MT.comp2 h2 (MT.bnd h4 fun ds1 => ?_) ds) (fun _ ρ' T => ?_) (wipeS own ⟨ρ, none⟩).ρ T
      · exact fun ρ T => MT.comp h5 h3 ds1 _ T
      · split <;> rfl
    · rfl
  | .sortk a _ => by unfold evE; exact (evE_T h a).bnd fun _ => .opt
theorem evEs_T {F : FT} (h : FTI F) : ∀ es, MT (evEs F es)
  | .nil => by unfold evEs; exact .ret
  | .cons e es => by unfold evEs; exact (evE_T h e).bnd fun _ => (evEs_T h es).bnd fun _ => .ret
theorem evO_T {F : FT} (h : FTI F) : ∀ es, MT (evO F es)
  | .nil => by unfold evO; exact .ret
  | .cons e es => by
    have h1 := evE_T h e
    have h2 := evO_T h es
    rw [evO_cons]
    refine MT.bnd ?_ fun _ => h2.bnd fun _ => .ret
    unfold evOp
    split
    · exact .opV _
    · exact h1.bnd fun _ => .ret
theorem evIt_T {F : FT} (h : FTI F) : ∀ it, MT (evIt F it)
  | .ex e => by unfold evIt; exact (evE_T h e).bnd fun _ => .opt
  | .rng1 a => by
    unfold evIt
    refine (evE_T h a).bnd fun d => ?_
    split
    · exact .ite .ret .stk
    · exact .stk
  | .rng2 a b => by
    unfold evIt
    refine (evE_T h a).bnd fun d => (evE_T h b).bnd fun e => ?_
    split
    · exact .ite .ret .stk
    · exact .stk
  | .zip a b => by unfold evIt; exact (evE_T h a).bnd fun _ => (evE_T h b).bnd fun _ => .opt
  | .enm a => by
    unfold evIt
    refine (evE_T h a).bnd fun d => ?_
    split
    · exact .ret
    · exact .stk
end
theorem forL_T {tg : List Nat} {b : M Fl} (h : MT b) : ∀ ds, MT (forL tg b ds)
  | [] => .ret
  | d :: r => by
    refine MT.bnd (.bindT _ _) fun _ => h.bnd fun f => ?_
    cases f
    · exact forL_T h r
    · exact .ret
theorem whileL_T {c : M Bool} {b : M Fl} (hc : MT c) (h : MT b) : ∀ n, MT (whileL c b n)
  | 0 => .stk
  | n + 1 => by
    refine MT.bnd hc fun x => .ite (h.bnd fun f => ?_) .ret
    cases f
    · exact whileL_T hc h n
    · exact .ret
mutual
theorem evS_T {F : FT} (h : FTI F) : ∀ s, MT (evS F s)
  | .set i e => by unfold evS; exact (evE_T h e).bnd fun _ _ _ => rfl
  | .unp is e => by
    unfold evS
    refine (evE_T h e).bnd fun x ρ T => ?_
    split
    · split
      · rw [setP_T]; rfl
      · rfl
    · rfl
  | .par is es => by
    unfold evS
    refine (evEs_T h es).bnd fun ds ρ T => ?_
    split
    · rw [setAll_T]; rfl
    · rfl
  | .aug i op e => by
    unfold evS
    refine MT.bnd (.rdV i) fun _ => (evE_T h e).bnd fun _ _ _ => ?_
    split <;> rfl
  | .put i k e => by unfold evS; exact (evE_T h e).bnd fun _ => MT.bnd (.ownM i) fun _ => (evE_T h k).bnd fun _ => .putV _ _ _
  | .augk i k op e => by
    have h1 := evE_T h e
    unfold evS
    refine MT.bnd (.ownM i) fun _ => (evE_T h k).bnd fun kk ρ T => ?_
    have : lk ⟨ρ, T⟩ i = lk ⟨ρ, none⟩ i := rfl
    simp only [this]
    split
    · split
      · refine MT.bnd h1 (fun b => ?_) ρ T
        intro ρ T
        split
        · exact MT.putV _ _ _ ρ T
        · rfl
      · rfl
    · rfl
  | .app i e => by
    unfold evS
    refine MT.bnd (.ownL i) fun _ => (evE_T h e).bnd fun _ ρ T => ?_
    have : lk ⟨ρ, T⟩ i = lk ⟨ρ, none⟩ i := rfl
    simp only [this]
    split
    · split <;> rfl
    · rfl
  | .ext i e => by
    unfold evS
    refine MT.bnd (.ownL i) fun _ => (evE_T h e).bnd fun _ ρ T => ?_
    have : lk ⟨ρ, T⟩ i = lk ⟨ρ, none⟩ i := rfl
    simp only [this]
    split
    · split <;> rfl
    · rfl
  | .ite c a b => by unfold evS; exact ((evE_T h c).bnd .isB).bnd fun x => .ite (evSs_T h a) (evSs_T h b)
  | .for_ tg it b => by unfold evS; exact (evIt_T h it).bnd fun ds => forL_T (evSs_T h b) ds
  | .while_ c b => by unfold evS; exact whileL_T ((evE_T h c).bnd .isB) (evSs_T h b) _
  | .ret e => by
    have h1 := evE_T h e
    unfold evS
    split
    · exact .retV _
    · exact h1.bnd fun _ => .ret
  | .raise c => by unfold evS; exact fun _ _ => rfl
  | .expr e => by unfold evS; exact (evE_T h e).bnd fun _ => .ret
  | .pass => by unfold evS; exact .ret
  | .try_ e r hs => by
    intro ρ T
    have q := evE_T h e ρ T
    unfold evS
    show (match evE F e ⟨ρ, T⟩ with | .ok x s' => _ | .exc c s' => _ | .stuck => _) = atT T (match evE F e ⟨ρ, none⟩ with | .ok x s' => _ | .exc c s' => _ | .stuck => _)
    rw [q]
    cases evE F e ⟨ρ, none⟩ with
    | ok x s => rfl
    | exc c s =>
      show (match hs.lookup c with | some (some d) => _ | some none => _ | none => _) = atT T (match hs.lookup c with | some (some d) => _ | some none => _ | none => _)
      split <;> rfl
    | stuck => rfl
theorem evSs_T {F : FT} (h : FTI F) : ∀ ss, MT (evSs F ss)
  | .nil => by unfold evSs; exact .ret
  | .cons s ss => by
    unfold evSs
    refine (evS_T h s).bnd fun f => ?_
    cases f
    · exact evSs_T h ss
    · exact .ret
end
theorem runB_T {F : FT} (h : FTI F) (f : Fd) (ds : List D) (T : TP) : runB F f ds T = atF T (runB F f ds none) := by
  unfold runB
  split
  · have : startS f.n ds T = ⟨(startS f.n ds none).ρ, T⟩ := rfl
    rw [this, evSs_T h f.b _ T]
    show _ = atF T (match evSs F f.b (startS f.n ds none) with | .ok .nx s => _ | .ok (.rt d fr) s => _ | .exc c s => _ | .stuck => _)
    have e : startS f.n ds none = ⟨(startS f.n ds none).ρ, none⟩ := rfl
    rw [← e]
    cases evSs F f.b (startS f.n ds none) with
    | ok a s => cases a <;> rfl
    | exc c s => rfl
    | stuck => rfl
  · rfl
def bodies (P : List Fn) : List Fn := P.map fun f => match f with
  | .body b => .body b
  | .prim _ => .prim fun _ _ => .stuck
theorem bodies_get {P : List Fn} {i : Nat} : (bodies P)[i]? = (P[i]?).map fun f => match f with
  | .body b => .body b
  | .prim _ => .prim fun _ _ => .stuck := List.getElem?_map ..
theorem runX_T {X : FT} {P : List Fn} (hX : FTI X) : ∀ k, FTI (runX X (bodies P) k)
  | 0 => fun _ _ _ => rfl
  | k + 1 => fun i ds T => by
    have ih := runX_T (P := P) hX k
    unfold runX
    have hx := hX i ds T
    rw [hx]
    cases e : X i ds none with
    | stuck =>
      show (match (bodies P)[i]? with | some (.body b) => runB (runX X (bodies P) k) b ds T | some (.prim p) => p ds T | none => .stuck) = atF T (match (bodies P)[i]? with | some (.body b) => runB (runX X (bodies P) k) b ds none | some (.prim p) => p ds none | none => .stuck)
      rw [bodies_get]
      cases P[i]? with
      | none => rfl
      | some f =>
        cases f with
        | body b => exact runB_T ih b ds T
        | prim p => rfl
    | ok d fr T' => rfl
    | exc c T' => rfl
theorem bodies_le {X : FT} {P : List Fn} : ∀ k, FLe (runX X (bodies P) k) (runX X P k)
  | 0 => fun _ _ _ => .inl rfl
  | k + 1 => fun i ds T => by
    have ih := bodies_le (X := X) (P := P) k
    unfold runX
    cases e : X i ds T with
    | stuck =>
      show (match (bodies P)[i]? with | some (.body b) => runB (runX X (bodies P) k) b ds T | some (.prim p) => p ds T | none => .stuck) = .stuck ∨ (match (bodies P)[i]? with | some (.body b) => runB (runX X (bodies P) k) b ds T | some (.prim p) => p ds T | none => .stuck) = (match P[i]? with | some (.body b) => runB (runX X P k) b ds T | some (.prim p) => p ds T | none => .stuck)
      rw [bodies_get]
      cases P[i]? with
      | none => exact .inl rfl
      | some f =>
        cases f with
        | body b => exact runB_le ih b ds T
        | prim p => exact .inl rfl
    | ok d fr T' => exact .inr rfl
    | exc c T' => exact .inr rfl
theorem fact_ok {X : FT} {P : List Fn} {n k : Nat} (hX : FTI X) (hl : FLe X (run P n)) {i : Nat} {ds : List D} {d : D} {fr : Bool} {T0 : TP} (e : runX X (bodies P) k i ds none = .ok d fr T0) {m : Nat} (hm : n + k ≤ m) (T : TP) : run P m i ds T = .ok d fr T := by
  have h1 : FLe (runX X (bodies P) k) (run P (n + k)) := (bodies_le k).trans (runX_le hl k)
  obtain ⟨j, rfl⟩ : ∃ j, m = (n + k) + j := ⟨m - (n + k), by omega⟩
  have h2 := h1.trans (run_le P (n + k) j)
  have h3 := runX_T (P := P) hX k i ds T
  rw [e] at h3
  exact fn_found h2 h3 (by intro q; cases q)
end Vf
namespace Lb
open PySem PySem.Spec PyProof.Rows L2 Vf

structure IX where
  is_integer : Nat
  is_ratio : Nat
  divisor : Nat
  make : Nat
  sadd : Nat
  radd : Nat
  rmul : Nat
  rneg : Nat
  is_word : Nat
  is_sum : Nat
  check_sum : Nat
  key : Nat
  gathered : Nat
  of_word : Nat
  sone : Nat
  sscaled : Nat
  sminus : Nat
  cut_product : Nat
  number_at : Nat
  check_depth : Nat
  exponential : Nat
  is_path : Nat
  check_path : Nat
  step_sum : Nat
  signature : Nat
  back : Nat
  are_along : Nat
  shortened : Nat
  are_alike : Nat
  first_unlike : Nat
  l_same : Nat
  l_frac : Nat
  l_plus : Nat
  l_by : Nat
  l_over : Nat
  l_number : Nat
  l_words : Nat
  l_all : Nat
  l_step : Nat
  l_path : Nat
  l_worth : Nat
  l_along : Nat
  l_short : Nat
  l_spoilt : Nat
  l_draw : Nat
  cBracketError : Nat
  cBadNumber : Nat
  cBadSum : Nat
  cBadRow : Nat
  cBadSize : Nat
def B_is_integer (x : IX) : Fd := ⟨1, 1, (.cons (.ret (.and (.prim (.isT "int") (.cons (.var 0) .nil)) (.not (.prim (.isT "bool") (.cons (.var 0) .nil)))))
  .nil)⟩
def B_is_ratio (x : IX) : Fd := ⟨2, 1, (.cons (.ite (.or (.not (.prim (.isT "tuple") (.cons (.var 0) .nil))) (.or (.prim (.cmp .NotEq) (.cons (.prim (.blt "len") (.cons (.var 0) .nil)) (.cons (.cst (.int (2))) .nil))) (.not (.prim (.blt "all") (.cons (.comp [1] [1] (.ex (.var 0)) .nil (.call x.is_integer (.cons (.var 1) .nil))) .nil))))) (.cons (.ret (.cst (.bl false)))
  .nil) .nil)
  (.cons (.ret (.and (.prim (.cmp .Gt) (.cons (.prim .idx (.cons (.var 0) (.cons (.cst (.int (1))) .nil))) (.cons (.cst (.int (0))) .nil))) (.prim (.cmp .Eq) (.cons (.call x.divisor (.cons (.prim .idx (.cons (.var 0) (.cons (.cst (.int (0))) .nil))) (.cons (.prim .idx (.cons (.var 0) (.cons (.cst (.int (1))) .nil))) .nil))) (.cons (.cst (.int (1))) .nil)))))
  .nil))⟩
def B_divisor (x : IX) : Fd := ⟨2, 2, (.cons (.par [0, 1] (.cons (.prim (.blt "abs") (.cons (.var 0) .nil)) (.cons (.prim (.blt "abs") (.cons (.var 1) .nil)) .nil)))
  (.cons (.while_ (.prim (.cmp .Gt) (.cons (.var 1) (.cons (.cst (.int (0))) .nil))) (.cons (.par [0, 1] (.cons (.var 1) (.cons (.prim (.bin .Mod) (.cons (.var 0) (.cons (.var 1) .nil))) .nil)))
  .nil))
  (.cons (.ret (.var 0))
  .nil)))⟩
def B_make (x : IX) : Fd := ⟨3, 2, (.cons (.ite (.prim (.cmp .Eq) (.cons (.var 1) (.cons (.cst (.int (0))) .nil))) (.cons (.raise x.cBadNumber)
  .nil) .nil)
  (.cons (.set 2 (.call x.divisor (.cons (.var 0) (.cons (.var 1) .nil))))
  (.cons (.ite (.prim (.cmp .Lt) (.cons (.var 1) (.cons (.cst (.int (0))) .nil))) (.cons (.set 2 (.prim .neg (.cons (.var 2) .nil)))
  .nil) .nil)
  (.cons (.ret (.tup (.cons (.prim (.bin .FloorDiv) (.cons (.var 0) (.cons (.var 2) .nil))) (.cons (.prim (.bin .FloorDiv) (.cons (.var 1) (.cons (.var 2) .nil))) .nil))))
  .nil))))⟩
def B_sadd (x : IX) : Fd := ⟨2, 2, (.cons (.ret (.call x.gathered (.cons (.prim (.bin .Add) (.cons (.var 0) (.cons (.var 1) .nil))) .nil)))
  .nil)⟩
def B_radd (x : IX) : Fd := ⟨2, 2, (.cons (.ret (.call x.make (.cons (.prim (.bin .Add) (.cons (.prim (.bin .Mult) (.cons (.prim .idx (.cons (.var 0) (.cons (.cst (.int (0))) .nil))) (.cons (.prim .idx (.cons (.var 1) (.cons (.cst (.int (1))) .nil))) .nil))) (.cons (.prim (.bin .Mult) (.cons (.prim .idx (.cons (.var 1) (.cons (.cst (.int (0))) .nil))) (.cons (.prim .idx (.cons (.var 0) (.cons (.cst (.int (1))) .nil))) .nil))) .nil))) (.cons (.prim (.bin .Mult) (.cons (.prim .idx (.cons (.var 0) (.cons (.cst (.int (1))) .nil))) (.cons (.prim .idx (.cons (.var 1) (.cons (.cst (.int (1))) .nil))) .nil))) .nil))))
  .nil)⟩
def B_rmul (x : IX) : Fd := ⟨2, 2, (.cons (.ret (.call x.make (.cons (.prim (.bin .Mult) (.cons (.prim .idx (.cons (.var 0) (.cons (.cst (.int (0))) .nil))) (.cons (.prim .idx (.cons (.var 1) (.cons (.cst (.int (0))) .nil))) .nil))) (.cons (.prim (.bin .Mult) (.cons (.prim .idx (.cons (.var 0) (.cons (.cst (.int (1))) .nil))) (.cons (.prim .idx (.cons (.var 1) (.cons (.cst (.int (1))) .nil))) .nil))) .nil))))
  .nil)⟩
def B_rneg (x : IX) : Fd := ⟨1, 1, (.cons (.ret (.tup (.cons (.prim .neg (.cons (.prim .idx (.cons (.var 0) (.cons (.cst (.int (0))) .nil))) .nil)) (.cons (.prim .idx (.cons (.var 0) (.cons (.cst (.int (1))) .nil))) .nil))))
  .nil)⟩
def B_is_word (x : IX) : Fd := ⟨2, 1, (.cons (.ite (.or (.not (.prim (.isT "tuple") (.cons (.var 0) .nil))) (.prim (.cmp .Gt) (.cons (.prim (.blt "len") (.cons (.var 0) .nil)) (.cons (.glo "MOST_WORD" (.int (60))) .nil)))) (.cons (.ret (.cst (.bl false)))
  .nil) .nil)
  (.cons (.ret (.prim (.blt "all") (.cons (.comp [1] [1] (.ex (.var 0)) .nil (.and (.call x.is_integer (.cons (.var 1) .nil)) (.and (.prim (.cmp .LtE) (.cons (.cst (.int (0))) (.cons (.var 1) .nil))) (.prim (.cmp .Lt) (.cons (.var 1) (.cons (.glo "MOST_LETTERS" (.int (9))) .nil)))))) .nil)))
  .nil))⟩
def B_is_sum (x : IX) : Fd := ⟨4, 1, (.cons (.ite (.or (.not (.prim (.isT "tuple") (.cons (.var 0) .nil))) (.prim (.cmp .Gt) (.cons (.prim (.blt "len") (.cons (.var 0) .nil)) (.cons (.glo "MOST_TERMS" (.int (6000))) .nil)))) (.cons (.ret (.cst (.bl false)))
  .nil) .nil)
  (.cons (.for_ [1] (.ex (.var 0)) (.cons (.ite (.or (.not (.prim (.isT "tuple") (.cons (.var 1) .nil))) (.or (.prim (.cmp .NotEq) (.cons (.prim (.blt "len") (.cons (.var 1) .nil)) (.cons (.cst (.int (2))) .nil))) (.not (.call x.is_word (.cons (.prim .idx (.cons (.var 1) (.cons (.cst (.int (0))) .nil))) .nil))))) (.cons (.ret (.cst (.bl false)))
  .nil) .nil)
  (.cons (.ite (.or (.not (.call x.is_ratio (.cons (.prim .idx (.cons (.var 1) (.cons (.cst (.int (1))) .nil))) .nil))) (.prim (.cmp .Eq) (.cons (.prim .idx (.cons (.var 1) (.cons (.cst (.int (1))) .nil))) (.cons (.glo "ZERO" (.ktup [(.int (0)), (.int (1))])) .nil)))) (.cons (.ret (.cst (.bl false)))
  .nil) .nil)
  .nil)))
  (.cons (.ret (.prim (.blt "all") (.cons (.comp [2, 3] [2, 3] (.zip (.var 0) (.prim (.sl true false) (.cons (.var 0) (.cons (.cst (.int (1))) .nil)))) .nil (.prim (.cmp .Lt) (.cons (.call x.key (.cons (.prim .idx (.cons (.var 2) (.cons (.cst (.int (0))) .nil))) .nil)) (.cons (.call x.key (.cons (.prim .idx (.cons (.var 3) (.cons (.cst (.int (0))) .nil))) .nil)) .nil)))) .nil)))
  .nil)))⟩
def B_check_sum (x : IX) : Fd := ⟨1, 1, (.cons (.ite (.not (.call x.is_sum (.cons (.var 0) .nil))) (.cons (.raise x.cBadSum)
  .nil) .nil)
  .nil)⟩
def B_key (x : IX) : Fd := ⟨1, 1, (.cons (.ret (.tup (.cons (.prim (.blt "len") (.cons (.var 0) .nil)) (.cons (.var 0) .nil))))
  .nil)⟩
def B_gathered (x : IX) : Fd := ⟨5, 1, (.cons (.set 1 (.dic true))
  (.cons (.for_ [2, 3] (.ex (.var 0)) (.cons (.put 1 (.var 2) (.ite (.prim (.cmp .In) (.cons (.var 2) (.cons (.var 1) .nil))) (.call x.radd (.cons (.prim .idx (.cons (.var 1) (.cons (.var 2) .nil))) (.cons (.var 3) .nil))) (.var 3)))
  .nil))
  (.cons (.set 4 (.prim (.blt "tuple") (.cons (.comp [2] [2] (.ex (.sortk (.var 1) x.key)) (.cons (.prim (.cmp .NotEq) (.cons (.prim .idx (.cons (.var 1) (.cons (.var 2) .nil))) (.cons (.glo "ZERO" (.ktup [(.int (0)), (.int (1))])) .nil))) .nil) (.tup (.cons (.var 2) (.cons (.prim .idx (.cons (.var 1) (.cons (.var 2) .nil))) .nil)))) .nil)))
  (.cons (.ite (.prim (.cmp .Gt) (.cons (.prim (.blt "len") (.cons (.var 4) .nil)) (.cons (.glo "MOST_TERMS" (.int (6000))) .nil))) (.cons (.raise x.cBadSize)
  .nil) .nil)
  (.cons (.ret (.var 4))
  .nil)))))⟩
def B_of_word (x : IX) : Fd := ⟨1, 1, (.cons (.ret (.tup (.cons (.tup (.cons (.var 0) (.cons (.glo "ONE" (.ktup [(.int (1)), (.int (1))])) .nil))) .nil)))
  .nil)⟩
def B_sone (x : IX) : Fd := ⟨0, 0, (.cons (.ret (.call x.of_word (.cons (.tup .nil) .nil)))
  .nil)⟩
def B_sscaled (x : IX) : Fd := ⟨4, 2, (.cons (.ite (.prim (.cmp .Eq) (.cons (.var 0) (.cons (.glo "ZERO" (.ktup [(.int (0)), (.int (1))])) .nil))) (.cons (.ret (.tup .nil))
  .nil) .nil)
  (.cons (.ret (.prim (.blt "tuple") (.cons (.comp [2, 3] [2, 3] (.ex (.var 1)) .nil (.tup (.cons (.var 2) (.cons (.call x.rmul (.cons (.var 0) (.cons (.var 3) .nil))) .nil)))) .nil)))
  .nil))⟩
def B_sminus (x : IX) : Fd := ⟨2, 2, (.cons (.ret (.call x.gathered (.cons (.prim (.bin .Add) (.cons (.var 0) (.cons (.call x.sscaled (.cons (.tup (.cons (.prim .neg (.cons (.cst (.int (1))) .nil)) (.cons (.cst (.int (1))) .nil))) (.cons (.var 1) .nil))) .nil))) .nil)))
  .nil)⟩
def B_cut_product (x : IX) : Fd := ⟨8, 3, (.cons (.set 3 (.lst .nil))
  (.cons (.for_ [4, 5] (.ex (.var 0)) (.cons (.for_ [6, 7] (.ex (.var 1)) (.cons (.ite (.prim (.cmp .LtE) (.cons (.prim (.bin .Add) (.cons (.prim (.blt "len") (.cons (.var 4) .nil)) (.cons (.prim (.blt "len") (.cons (.var 6) .nil)) .nil))) (.cons (.var 2) .nil))) (.cons (.app 3 (.tup (.cons (.prim (.bin .Add) (.cons (.var 4) (.cons (.var 6) .nil))) (.cons (.call x.rmul (.cons (.var 5) (.cons (.var 7) .nil))) .nil))))
  .nil) .nil)
  .nil))
  .nil))
  (.cons (.ret (.call x.gathered (.cons (.var 3) .nil)))
  .nil)))⟩
def B_number_at (x : IX) : Fd := ⟨4, 2, (.cons (.for_ [2, 3] (.ex (.var 0)) (.cons (.ite (.prim (.cmp .Eq) (.cons (.var 2) (.cons (.var 1) .nil))) (.cons (.ret (.var 3))
  .nil) .nil)
  .nil))
  (.cons (.ret (.glo "ZERO" (.ktup [(.int (0)), (.int (1))])))
  .nil))⟩
def B_check_depth (x : IX) : Fd := ⟨1, 1, (.cons (.ite (.or (.not (.call x.is_integer (.cons (.var 0) .nil))) (.or (.prim (.cmp .Lt) (.cons (.var 0) (.cons (.cst (.int (0))) .nil))) (.prim (.cmp .Gt) (.cons (.var 0) (.cons (.glo "MOST_DEPTH" (.int (10))) .nil))))) (.cons (.raise x.cBadNumber)
  .nil) .nil)
  .nil)⟩
def B_exponential (x : IX) : Fd := ⟨5, 2, (.cons (.expr (.call x.check_sum (.cons (.var 0) .nil)))
  (.cons (.expr (.call x.check_depth (.cons (.var 1) .nil)))
  (.cons (.ite (.prim (.cmp .NotEq) (.cons (.call x.number_at (.cons (.var 0) (.cons (.tup .nil) .nil))) (.cons (.glo "ZERO" (.ktup [(.int (0)), (.int (1))])) .nil))) (.cons (.raise x.cBadSum)
  .nil) .nil)
  (.cons (.par [2, 3] (.cons (.call x.sone .nil) (.cons (.call x.sone .nil) .nil)))
  (.cons (.for_ [4] (.rng2 (.cst (.int (1))) (.prim (.bin .Add) (.cons (.var 1) (.cons (.cst (.int (1))) .nil)))) (.cons (.set 3 (.call x.sscaled (.cons (.tup (.cons (.cst (.int (1))) (.cons (.var 4) .nil))) (.cons (.call x.cut_product (.cons (.var 3) (.cons (.var 0) (.cons (.var 1) .nil)))) .nil))))
  (.cons (.set 2 (.call x.sadd (.cons (.var 2) (.cons (.var 3) .nil))))
  .nil)))
  (.cons (.ret (.var 2))
  .nil))))))⟩
def B_is_path (x : IX) : Fd := ⟨3, 1, (.cons (.ite (.or (.not (.prim (.isT "tuple") (.cons (.var 0) .nil))) (.prim (.cmp .Gt) (.cons (.prim (.blt "len") (.cons (.var 0) .nil)) (.cons (.glo "MOST_STEPS" (.int (12))) .nil)))) (.cons (.ret (.cst (.bl false)))
  .nil) .nil)
  (.cons (.for_ [1] (.ex (.var 0)) (.cons (.ite (.or (.not (.prim (.isT "tuple") (.cons (.var 1) .nil))) (.or (.prim (.cmp .Eq) (.cons (.var 1) (.cons (.tup .nil) .nil))) (.or (.prim (.cmp .Gt) (.cons (.prim (.blt "len") (.cons (.var 1) .nil)) (.cons (.glo "MOST_SPACE" (.int (4))) .nil))) (.prim (.cmp .NotEq) (.cons (.prim (.blt "len") (.cons (.var 1) .nil)) (.cons (.prim (.blt "len") (.cons (.prim .idx (.cons (.var 0) (.cons (.cst (.int (0))) .nil))) .nil)) .nil)))))) (.cons (.ret (.cst (.bl false)))
  .nil) .nil)
  (.cons (.ite (.not (.prim (.blt "all") (.cons (.comp [2] [2] (.ex (.var 1)) .nil (.call x.is_ratio (.cons (.var 2) .nil))) .nil))) (.cons (.ret (.cst (.bl false)))
  .nil) .nil)
  .nil)))
  (.cons (.ret (.cst (.bl true)))
  .nil)))⟩
def B_check_path (x : IX) : Fd := ⟨1, 1, (.cons (.ite (.not (.call x.is_path (.cons (.var 0) .nil))) (.cons (.raise x.cBadRow)
  .nil) .nil)
  .nil)⟩
def B_step_sum (x : IX) : Fd := ⟨3, 1, (.cons (.ret (.call x.gathered (.cons (.comp [1, 2] [1, 2] (.enm (.var 0)) .nil (.tup (.cons (.tup (.cons (.var 1) .nil)) (.cons (.var 2) .nil)))) .nil)))
  .nil)⟩
def B_signature (x : IX) : Fd := ⟨4, 2, (.cons (.expr (.call x.check_path (.cons (.var 0) .nil)))
  (.cons (.expr (.call x.check_depth (.cons (.var 1) .nil)))
  (.cons (.set 2 (.call x.sone .nil))
  (.cons (.for_ [3] (.ex (.var 0)) (.cons (.set 2 (.call x.cut_product (.cons (.var 2) (.cons (.call x.exponential (.cons (.call x.step_sum (.cons (.var 3) .nil)) (.cons (.var 1) .nil))) (.cons (.var 1) .nil)))))
  .nil))
  (.cons (.ret (.var 2))
  .nil)))))⟩
def B_back (x : IX) : Fd := ⟨3, 1, (.cons (.expr (.call x.check_path (.cons (.var 0) .nil)))
  (.cons (.ret (.prim (.blt "tuple") (.cons (.comp [1] [1] (.ex (.prim .rev (.cons (.var 0) .nil))) .nil (.prim (.blt "tuple") (.cons (.comp [2] [2] (.ex (.var 1)) .nil (.call x.rneg (.cons (.var 2) .nil))) .nil))) .nil)))
  .nil))⟩
def B_are_along (x : IX) : Fd := ⟨4, 2, (.cons (.for_ [2] (.rng1 (.prim (.blt "len") (.cons (.var 0) .nil))) (.cons (.for_ [3] (.rng1 (.var 2)) (.cons (.ite (.prim (.cmp .NotEq) (.cons (.call x.rmul (.cons (.prim .idx (.cons (.var 0) (.cons (.var 2) .nil))) (.cons (.prim .idx (.cons (.var 1) (.cons (.var 3) .nil))) .nil))) (.cons (.call x.rmul (.cons (.prim .idx (.cons (.var 0) (.cons (.var 3) .nil))) (.cons (.prim .idx (.cons (.var 1) (.cons (.var 2) .nil))) .nil))) .nil))) (.cons (.ret (.cst (.bl false)))
  .nil) .nil)
  .nil))
  .nil))
  (.cons (.ret (.cst (.bl true)))
  .nil))⟩
def B_shortened (x : IX) : Fd := ⟨6, 1, (.cons (.expr (.call x.check_path (.cons (.var 0) .nil)))
  (.cons (.set 1 (.lst .nil))
  (.cons (.for_ [2] (.ex (.var 0)) (.cons (.set 3 (.var 2))
  (.cons (.while_ (.and (.prim (.cmp .NotEq) (.cons (.var 1) (.cons (.lst .nil) .nil))) (.and (.prim (.isN false) (.cons (.var 3) .nil)) (.call x.are_along (.cons (.prim .idx (.cons (.var 1) (.cons (.prim .neg (.cons (.cst (.int (1))) .nil)) .nil))) (.cons (.var 3) .nil))))) (.cons (.set 3 (.prim (.blt "tuple") (.cons (.comp [4, 5] [4, 5] (.zip (.pop 1 .nil) (.var 3)) .nil (.call x.radd (.cons (.var 4) (.cons (.var 5) .nil)))) .nil)))
  (.cons (.ite (.not (.prim (.blt "any") (.cons (.comp [4] [4] (.ex (.var 3)) .nil (.prim (.cmp .NotEq) (.cons (.var 4) (.cons (.glo "ZERO" (.ktup [(.int (0)), (.int (1))])) .nil)))) .nil))) (.cons (.set 3 (.cst .non))
  .nil) .nil)
  .nil)))
  (.cons (.ite (.and (.prim (.isN false) (.cons (.var 3) .nil)) (.prim (.blt "any") (.cons (.comp [4] [4] (.ex (.var 3)) .nil (.prim (.cmp .NotEq) (.cons (.var 4) (.cons (.glo "ZERO" (.ktup [(.int (0)), (.int (1))])) .nil)))) .nil))) (.cons (.app 1 (.var 3))
  .nil) .nil)
  .nil))))
  (.cons (.ret (.prim (.blt "tuple") (.cons (.var 1) .nil)))
  .nil))))⟩
def B_are_alike (x : IX) : Fd := ⟨2, 2, (.cons (.ret (.prim (.cmp .Eq) (.cons (.call x.shortened (.cons (.var 0) .nil)) (.cons (.call x.shortened (.cons (.var 1) .nil)) .nil))))
  .nil)⟩
def B_first_unlike (x : IX) : Fd := ⟨4, 3, (.cons (.set 3 (.call x.sminus (.cons (.call x.signature (.cons (.var 0) (.cons (.var 2) .nil))) (.cons (.call x.signature (.cons (.var 1) (.cons (.var 2) .nil))) .nil))))
  (.cons (.ret (.ite (.prim (.cmp .NotEq) (.cons (.var 3) (.cons (.tup .nil) .nil))) (.prim .idx (.cons (.prim .idx (.cons (.var 3) (.cons (.cst (.int (0))) .nil))) (.cons (.cst (.int (0))) .nil))) (.cst .non)))
  .nil))⟩
def B_l_same (x : IX) : Fd := ⟨3, 2, (.cons (.ite (.prim (.isN true) (.cons (.var 1) .nil)) (.cons (.ret (.prim (.isN true) (.cons (.var 0) .nil)))
  .nil) .nil)
  (.cons (.ite (.prim (.isT "bool") (.cons (.var 1) .nil)) (.cons (.ret (.and (.prim (.isT "bool") (.cons (.var 0) .nil)) (.prim (.cmp .Eq) (.cons (.var 0) (.cons (.var 1) .nil)))))
  .nil) .nil)
  (.cons (.ite (.prim (.isT "tuple") (.cons (.var 1) .nil)) (.cons (.ite (.or (.not (.prim (.isT "tuple") (.cons (.var 0) .nil))) (.prim (.cmp .NotEq) (.cons (.prim (.blt "len") (.cons (.var 0) .nil)) (.cons (.prim (.blt "len") (.cons (.var 1) .nil)) .nil)))) (.cons (.ret (.cst (.bl false)))
  .nil) .nil)
  (.cons (.ret (.prim (.blt "all") (.cons (.comp [2] [2] (.rng1 (.prim (.blt "len") (.cons (.var 1) .nil))) .nil (.call x.l_same (.cons (.prim .idx (.cons (.var 0) (.cons (.var 2) .nil))) (.cons (.prim .idx (.cons (.var 1) (.cons (.var 2) .nil))) .nil)))) .nil)))
  .nil)) .nil)
  (.cons (.ite (.prim (.isT "str") (.cons (.var 1) .nil)) (.cons (.ret (.and (.prim (.isT "str") (.cons (.var 0) .nil)) (.prim (.cmp .Eq) (.cons (.var 0) (.cons (.var 1) .nil)))))
  .nil) .nil)
  (.cons (.ret (.and (.prim (.isT "int") (.cons (.var 0) .nil)) (.and (.not (.prim (.isT "bool") (.cons (.var 0) .nil))) (.prim (.cmp .Eq) (.cons (.var 0) (.cons (.var 1) .nil))))))
  .nil)))))⟩
def B_l_frac (x : IX) : Fd := ⟨4, 2, (.cons (.par [2, 3] (.cons (.prim (.blt "abs") (.cons (.var 0) .nil)) (.cons (.prim (.blt "abs") (.cons (.var 1) .nil)) .nil)))
  (.cons (.while_ (.prim (.cmp .Gt) (.cons (.var 3) (.cons (.cst (.int (0))) .nil))) (.cons (.par [2, 3] (.cons (.var 3) (.cons (.prim (.bin .Mod) (.cons (.var 2) (.cons (.var 3) .nil))) .nil)))
  .nil))
  (.cons (.ret (.ite (.prim (.cmp .Gt) (.cons (.var 1) (.cons (.cst (.int (0))) .nil))) (.tup (.cons (.prim (.bin .FloorDiv) (.cons (.var 0) (.cons (.var 2) .nil))) (.cons (.prim (.bin .FloorDiv) (.cons (.var 1) (.cons (.var 2) .nil))) .nil))) (.tup (.cons (.prim (.bin .FloorDiv) (.cons (.prim .neg (.cons (.var 0) .nil)) (.cons (.var 2) .nil))) (.cons (.prim (.bin .FloorDiv) (.cons (.prim .neg (.cons (.var 1) .nil)) (.cons (.var 2) .nil))) .nil)))))
  .nil)))⟩
def B_l_plus (x : IX) : Fd := ⟨2, 2, (.cons (.ret (.call x.l_frac (.cons (.prim (.bin .Add) (.cons (.prim (.bin .Mult) (.cons (.prim .idx (.cons (.var 0) (.cons (.cst (.int (0))) .nil))) (.cons (.prim .idx (.cons (.var 1) (.cons (.cst (.int (1))) .nil))) .nil))) (.cons (.prim (.bin .Mult) (.cons (.prim .idx (.cons (.var 1) (.cons (.cst (.int (0))) .nil))) (.cons (.prim .idx (.cons (.var 0) (.cons (.cst (.int (1))) .nil))) .nil))) .nil))) (.cons (.prim (.bin .Mult) (.cons (.prim .idx (.cons (.var 0) (.cons (.cst (.int (1))) .nil))) (.cons (.prim .idx (.cons (.var 1) (.cons (.cst (.int (1))) .nil))) .nil))) .nil))))
  .nil)⟩
def B_l_by (x : IX) : Fd := ⟨2, 2, (.cons (.ret (.call x.l_frac (.cons (.prim (.bin .Mult) (.cons (.prim .idx (.cons (.var 0) (.cons (.cst (.int (0))) .nil))) (.cons (.prim .idx (.cons (.var 1) (.cons (.cst (.int (0))) .nil))) .nil))) (.cons (.prim (.bin .Mult) (.cons (.prim .idx (.cons (.var 0) (.cons (.cst (.int (1))) .nil))) (.cons (.prim .idx (.cons (.var 1) (.cons (.cst (.int (1))) .nil))) .nil))) .nil))))
  .nil)⟩
def B_l_over (x : IX) : Fd := ⟨2, 2, (.cons (.ret (.call x.l_frac (.cons (.prim (.bin .Mult) (.cons (.prim .idx (.cons (.var 0) (.cons (.cst (.int (0))) .nil))) (.cons (.prim .idx (.cons (.var 1) (.cons (.cst (.int (1))) .nil))) .nil))) (.cons (.prim (.bin .Mult) (.cons (.prim .idx (.cons (.var 0) (.cons (.cst (.int (1))) .nil))) (.cons (.prim .idx (.cons (.var 1) (.cons (.cst (.int (0))) .nil))) .nil))) .nil))))
  .nil)⟩
def B_l_number (x : IX) : Fd := ⟨1, 1, (.cons (.ret (.call x.l_frac (.cons (.prim (.bin .Sub) (.cons (.call x.l_draw (.cons (.var 0) (.cons (.cst (.int (9))) .nil))) (.cons (.cst (.int (4))) .nil))) (.cons (.prim (.bin .Add) (.cons (.cst (.int (1))) (.cons (.call x.l_draw (.cons (.var 0) (.cons (.cst (.int (3))) .nil))) .nil))) .nil))))
  .nil)⟩
def B_l_words (x : IX) : Fd := ⟨7, 2, (.cons (.set 2 (.lst (.cons (.tup .nil) .nil)))
  (.cons (.for_ [3] (.rng1 (.var 1)) (.cons (.set 4 (.lst .nil))
  (.cons (.for_ [5] (.ex (.var 2)) (.cons (.set 4 (.prim (.bin .Add) (.cons (.var 4) (.cons (.comp [6] [6] (.rng1 (.var 0)) .nil (.prim (.bin .Add) (.cons (.var 5) (.cons (.tup (.cons (.var 6) .nil)) .nil)))) .nil))))
  .nil))
  (.cons (.set 2 (.var 4))
  .nil))))
  (.cons (.ret (.var 2))
  .nil)))⟩
def B_l_all (x : IX) : Fd := ⟨4, 2, (.cons (.set 2 (.lst .nil))
  (.cons (.for_ [3] (.rng1 (.prim (.bin .Add) (.cons (.var 1) (.cons (.cst (.int (1))) .nil)))) (.cons (.set 2 (.prim (.bin .Add) (.cons (.var 2) (.cons (.call x.l_words (.cons (.var 0) (.cons (.var 3) .nil))) .nil))))
  .nil))
  (.cons (.ret (.var 2))
  .nil)))⟩
def B_l_step (x : IX) : Fd := ⟨3, 2, (.cons (.ret (.prim (.blt "tuple") (.cons (.comp [2] [2] (.rng1 (.var 1)) .nil (.call x.l_number (.cons (.var 0) .nil))) .nil)))
  .nil)⟩
def B_l_path (x : IX) : Fd := ⟨4, 3, (.cons (.ret (.prim (.blt "tuple") (.cons (.comp [3] [3] (.rng1 (.call x.l_draw (.cons (.var 0) (.cons (.prim (.bin .Add) (.cons (.var 2) (.cons (.cst (.int (1))) .nil))) .nil)))) .nil (.call x.l_step (.cons (.var 0) (.cons (.var 1) .nil)))) .nil)))
  .nil)⟩
def B_l_worth (x : IX) : Fd := ⟨6, 2, (.cons (.ite (.prim (.cmp .Eq) (.cons (.var 1) (.cons (.tup .nil) .nil))) (.cons (.ret (.tup (.cons (.cst (.int (1))) (.cons (.cst (.int (1))) .nil))))
  .nil) .nil)
  (.cons (.set 2 (.tup (.cons (.cst (.int (0))) (.cons (.cst (.int (1))) .nil))))
  (.cons (.for_ [3] (.rng1 (.prim (.blt "len") (.cons (.var 0) .nil))) (.cons (.set 4 (.tup (.cons (.cst (.int (1))) (.cons (.cst (.int (1))) .nil))))
  (.cons (.for_ [5] (.rng2 (.cst (.int (1))) (.prim (.bin .Add) (.cons (.prim (.blt "len") (.cons (.var 1) .nil)) (.cons (.cst (.int (1))) .nil)))) (.cons (.set 4 (.call x.l_over (.cons (.call x.l_by (.cons (.var 4) (.cons (.prim .idx (.cons (.prim .idx (.cons (.var 0) (.cons (.var 3) .nil))) (.cons (.prim .idx (.cons (.var 1) (.cons (.prim (.bin .Sub) (.cons (.var 5) (.cons (.cst (.int (1))) .nil))) .nil))) .nil))) .nil))) (.cons (.tup (.cons (.var 5) (.cons (.cst (.int (1))) .nil))) .nil))))
  (.cons (.set 2 (.call x.l_plus (.cons (.var 2) (.cons (.call x.l_by (.cons (.var 4) (.cons (.call x.l_worth (.cons (.prim (.sl true false) (.cons (.var 0) (.cons (.prim (.bin .Add) (.cons (.var 3) (.cons (.cst (.int (1))) .nil))) .nil))) (.cons (.prim (.sl true false) (.cons (.var 1) (.cons (.var 5) .nil))) .nil))) .nil))) .nil))))
  .nil)))
  .nil)))
  (.cons (.ret (.var 2))
  .nil))))⟩
def B_l_along (x : IX) : Fd := ⟨4, 2, (.cons (.for_ [2] (.rng1 (.prim (.blt "len") (.cons (.var 0) .nil))) (.cons (.for_ [3] (.rng1 (.prim (.blt "len") (.cons (.var 1) .nil))) (.cons (.ite (.prim (.cmp .NotEq) (.cons (.call x.l_by (.cons (.prim .idx (.cons (.var 0) (.cons (.var 2) .nil))) (.cons (.prim .idx (.cons (.var 1) (.cons (.var 3) .nil))) .nil))) (.cons (.call x.l_by (.cons (.prim .idx (.cons (.var 0) (.cons (.var 3) .nil))) (.cons (.prim .idx (.cons (.var 1) (.cons (.var 2) .nil))) .nil))) .nil))) (.cons (.ret (.cst (.bl false)))
  .nil) .nil)
  .nil))
  .nil))
  (.cons (.ret (.cst (.bl true)))
  .nil))⟩
def B_l_short (x : IX) : Fd := ⟨9, 1, (.cons (.set 2 (.comp [1] [1] (.ex (.var 0)) (.cons (.prim (.blt "any") (.cons (.comp [6] [6] (.ex (.var 1)) .nil (.prim (.cmp .NotEq) (.cons (.prim .idx (.cons (.var 6) (.cons (.cst (.int (0))) .nil))) (.cons (.cst (.int (0))) .nil)))) .nil)) .nil) (.var 1)))
  (.cons (.for_ [3] (.rng1 (.prim (.blt "len") (.cons (.var 0) .nil))) (.cons (.set 5 (.comp [4] [4] (.rng1 (.prim (.bin .Sub) (.cons (.prim (.blt "len") (.cons (.var 2) .nil)) (.cons (.cst (.int (1))) .nil)))) (.cons (.call x.l_along (.cons (.prim .idx (.cons (.var 2) (.cons (.var 4) .nil))) (.cons (.prim .idx (.cons (.var 2) (.cons (.prim (.bin .Add) (.cons (.var 4) (.cons (.cst (.int (1))) .nil))) .nil))) .nil))) .nil) (.var 4)))
  (.cons (.ite (.prim (.cmp .NotEq) (.cons (.var 5) (.cons (.lst .nil) .nil))) (.cons (.set 4 (.prim .idx (.cons (.var 5) (.cons (.prim .neg (.cons (.cst (.int (1))) .nil)) .nil))))
  (.cons (.set 1 (.prim (.blt "tuple") (.cons (.comp [7, 8] [7, 8] (.zip (.prim .idx (.cons (.var 2) (.cons (.var 4) .nil))) (.prim .idx (.cons (.var 2) (.cons (.prim (.bin .Add) (.cons (.var 4) (.cons (.cst (.int (1))) .nil))) .nil)))) .nil (.call x.l_plus (.cons (.var 7) (.cons (.var 8) .nil)))) .nil)))
  (.cons (.set 2 (.prim (.bin .Add) (.cons (.prim (.bin .Add) (.cons (.prim (.sl false true) (.cons (.var 2) (.cons (.var 4) .nil))) (.cons (.ite (.prim (.blt "any") (.cons (.comp [6] [6] (.ex (.var 1)) .nil (.prim (.cmp .NotEq) (.cons (.prim .idx (.cons (.var 6) (.cons (.cst (.int (0))) .nil))) (.cons (.cst (.int (0))) .nil)))) .nil)) (.lst (.cons (.var 1) .nil)) (.lst .nil)) .nil))) (.cons (.prim (.sl true false) (.cons (.var 2) (.cons (.prim (.bin .Add) (.cons (.var 4) (.cons (.cst (.int (2))) .nil))) .nil))) .nil))))
  .nil))) .nil)
  .nil)))
  (.cons (.ret (.prim (.blt "tuple") (.cons (.var 2) .nil)))
  .nil)))⟩
def B_l_spoilt (x : IX) : Fd := ⟨12, 3, (.cons (.set 3 (.prim (.blt "list") (.cons (.var 1) .nil)))
  (.cons (.for_ [4] (.rng1 (.cst (.int (3)))) (.cons (.par [5, 6] (.cons (.call x.l_draw (.cons (.var 0) (.cons (.prim (.bin .Add) (.cons (.prim (.blt "len") (.cons (.var 3) .nil)) (.cons (.cst (.int (1))) .nil))) .nil))) (.cons (.call x.l_draw (.cons (.var 0) (.cons (.cst (.int (3))) .nil))) .nil)))
  (.cons (.ite (.prim (.cmp .Eq) (.cons (.var 6) (.cons (.cst (.int (0))) .nil))) (.cons (.set 7 (.call x.l_step (.cons (.var 0) (.cons (.var 2) .nil))))
  (.cons (.set 3 (.prim (.bin .Add) (.cons (.prim (.bin .Add) (.cons (.prim (.sl false true) (.cons (.var 3) (.cons (.var 5) .nil))) (.cons (.lst (.cons (.var 7) (.cons (.prim (.blt "tuple") (.cons (.comp [10] [10] (.ex (.var 7)) .nil (.tup (.cons (.prim .neg (.cons (.prim .idx (.cons (.var 10) (.cons (.cst (.int (0))) .nil))) .nil)) (.cons (.prim .idx (.cons (.var 10) (.cons (.cst (.int (1))) .nil))) .nil)))) .nil)) .nil))) .nil))) (.cons (.prim (.sl true false) (.cons (.var 3) (.cons (.var 5) .nil))) .nil))))
  .nil)) (.cons (.ite (.and (.prim (.cmp .Eq) (.cons (.var 6) (.cons (.cst (.int (1))) .nil))) (.prim (.cmp .Lt) (.cons (.var 5) (.cons (.prim (.blt "len") (.cons (.var 3) .nil)) .nil)))) (.cons (.set 8 (.call x.l_number (.cons (.var 0) .nil)))
  (.cons (.set 9 (.prim (.blt "tuple") (.cons (.comp [10] [10] (.ex (.prim .idx (.cons (.var 3) (.cons (.var 5) .nil)))) .nil (.call x.l_by (.cons (.var 8) (.cons (.var 10) .nil)))) .nil)))
  (.cons (.set 3 (.prim (.bin .Add) (.cons (.prim (.bin .Add) (.cons (.prim (.sl false true) (.cons (.var 3) (.cons (.var 5) .nil))) (.cons (.lst (.cons (.var 9) (.cons (.prim (.blt "tuple") (.cons (.comp [10, 11] [10, 11] (.zip (.prim .idx (.cons (.var 3) (.cons (.var 5) .nil))) (.var 9)) .nil (.call x.l_plus (.cons (.var 10) (.cons (.tup (.cons (.prim .neg (.cons (.prim .idx (.cons (.var 11) (.cons (.cst (.int (0))) .nil))) .nil)) (.cons (.prim .idx (.cons (.var 11) (.cons (.cst (.int (1))) .nil))) .nil))) .nil)))) .nil)) .nil))) .nil))) (.cons (.prim (.sl true false) (.cons (.var 3) (.cons (.prim (.bin .Add) (.cons (.var 5) (.cons (.cst (.int (1))) .nil))) .nil))) .nil))))
  .nil))) (.cons (.ite (.prim (.cmp .Eq) (.cons (.var 6) (.cons (.cst (.int (2))) .nil))) (.cons (.set 3 (.prim (.bin .Add) (.cons (.prim (.bin .Add) (.cons (.prim (.sl false true) (.cons (.var 3) (.cons (.var 5) .nil))) (.cons (.lst (.cons (.prim (.bin .Mult) (.cons (.tup (.cons (.tup (.cons (.cst (.int (0))) (.cons (.cst (.int (1))) .nil))) .nil)) (.cons (.var 2) .nil))) .nil)) .nil))) (.cons (.prim (.sl true false) (.cons (.var 3) (.cons (.var 5) .nil))) .nil))))
  .nil) .nil)
  .nil))
  .nil))
  .nil)))
  (.cons (.ret (.prim (.blt "tuple") (.cons (.var 3) .nil)))
  .nil)))⟩
structure HasR (Ps : List Fn) (x : IX) : Prop where
  is_integer : Ps[x.is_integer]? = some (.body (B_is_integer x))
  is_ratio : Ps[x.is_ratio]? = some (.body (B_is_ratio x))
  divisor : Ps[x.divisor]? = some (.body (B_divisor x))
  make : Ps[x.make]? = some (.body (B_make x))
  radd : Ps[x.radd]? = some (.body (B_radd x))
  rmul : Ps[x.rmul]? = some (.body (B_rmul x))
  rneg : Ps[x.rneg]? = some (.body (B_rneg x))
structure HasS (Ps : List Fn) (x : IX) : Prop where
  is_word : Ps[x.is_word]? = some (.body (B_is_word x))
  is_sum : Ps[x.is_sum]? = some (.body (B_is_sum x))
  check_sum : Ps[x.check_sum]? = some (.body (B_check_sum x))
  key : Ps[x.key]? = some (.body (B_key x))
  gathered : Ps[x.gathered]? = some (.body (B_gathered x))
  of_word : Ps[x.of_word]? = some (.body (B_of_word x))
  sone : Ps[x.sone]? = some (.body (B_sone x))
  sadd : Ps[x.sadd]? = some (.body (B_sadd x))
  sscaled : Ps[x.sscaled]? = some (.body (B_sscaled x))
  sminus : Ps[x.sminus]? = some (.body (B_sminus x))
  cut_product : Ps[x.cut_product]? = some (.body (B_cut_product x))
  number_at : Ps[x.number_at]? = some (.body (B_number_at x))
  check_depth : Ps[x.check_depth]? = some (.body (B_check_depth x))
  exponential : Ps[x.exponential]? = some (.body (B_exponential x))
structure HasP (Ps : List Fn) (x : IX) : Prop where
  is_path : Ps[x.is_path]? = some (.body (B_is_path x))
  check_path : Ps[x.check_path]? = some (.body (B_check_path x))
  step_sum : Ps[x.step_sum]? = some (.body (B_step_sum x))
  signature : Ps[x.signature]? = some (.body (B_signature x))
  back : Ps[x.back]? = some (.body (B_back x))
  are_along : Ps[x.are_along]? = some (.body (B_are_along x))
  shortened : Ps[x.shortened]? = some (.body (B_shortened x))
  are_alike : Ps[x.are_alike]? = some (.body (B_are_alike x))
  first_unlike : Ps[x.first_unlike]? = some (.body (B_first_unlike x))
structure HasL (Ps : List Fn) (x : IX) : Prop where
  l_same : Ps[x.l_same]? = some (.body (B_l_same x))
  l_frac : Ps[x.l_frac]? = some (.body (B_l_frac x))
  l_plus : Ps[x.l_plus]? = some (.body (B_l_plus x))
  l_by : Ps[x.l_by]? = some (.body (B_l_by x))
  l_over : Ps[x.l_over]? = some (.body (B_l_over x))
  l_number : Ps[x.l_number]? = some (.body (B_l_number x))
  l_draw : Ps[x.l_draw]? = some (.prim drawP)
structure HasM (Ps : List Fn) (x : IX) : Prop where
  l_words : Ps[x.l_words]? = some (.body (B_l_words x))
  l_all : Ps[x.l_all]? = some (.body (B_l_all x))
  l_step : Ps[x.l_step]? = some (.body (B_l_step x))
  l_path : Ps[x.l_path]? = some (.body (B_l_path x))
  l_worth : Ps[x.l_worth]? = some (.body (B_l_worth x))
  l_along : Ps[x.l_along]? = some (.body (B_l_along x))
  l_short : Ps[x.l_short]? = some (.body (B_l_short x))
  l_spoilt : Ps[x.l_spoilt]? = some (.body (B_l_spoilt x))
end Lb
namespace Lb
open PySem PySem.Spec PyProof.Rows L2 Vf

theorem run_b {Ps : List Fn} {i : Nat} {f : Fd} (h : Ps[i]? = some (.body f)) (k : Nat) (ds : List D) (T : Vf.TP) : Vf.run Ps (k + 1) i ds T = runB (Vf.run Ps k) f ds T := by
  show (match Ps[i]? with | some (.body b) => runB (Vf.run Ps k) b ds T | some (.prim p) => p ds T | none => .stuck) = _
  rw [h]
theorem run_m {Ps : List Fn} {i : Nat} {f : Fd} (h : Ps[i]? = some (.body f)) {m : Nat} (hm : 1 ≤ m) (ds : List D) (T : Vf.TP) : Vf.run Ps m i ds T = runB (Vf.run Ps (m - 1)) f ds T := by
  obtain ⟨k, rfl⟩ : ∃ k, m = k + 1 := ⟨m - 1, by omega⟩
  exact run_b h k ds T
abbrev DC : Ex := .prim (.cmp .Gt) (.cons (.var 1) (.cons (.cst (.int (0))) .nil))
abbrev DB : Sxs := .cons (.par [0, 1] (.cons (.var 1) (.cons (.prim (.bin .Mod) (.cons (.var 0) (.cons (.var 1) .nil))) .nil))) .nil
theorem divisor_step (F : FT) (T : Vf.TP) (m : Nat) (a b : Nat) : whileL (bnd (evE F DC) Vf.isB) (evSs F DB) (m + 1) ⟨[some (false, .int a), some (false, .int b)], T⟩ =
   if b = 0 then .ok .nx ⟨[some (false, .int a), some (false, .int b)], T⟩ else whileL (bnd (evE F DC) Vf.isB) (evSs F DB) m ⟨[some (false, .int b), some (false, .int (a % b : Nat))], T⟩ := by
    rw [whileL]
    by_cases hb : b = 0
    · subst hb
      dsimp!
      simp
    · have hb' : 0 < (b : Int) := by omega
      have hb2 : (b : Int) ≠ 0 := by omega
      have e1 : (a : Int).fmod b = ((a % b : Nat) : Int) := by rw [Int.fmod_eq_emod_of_nonneg _ (by omega)]; rfl
      dsimp! [hb, hb', hb2, e1]
theorem mod_half {a b : Nat} (h : b ≠ 0) (h2 : a % b ≠ 0) {k : Nat} (hk : b < 2 ^ (k + 1)) : b % (a % b) < 2 ^ k := by
  have h1 : a % b < b := Nat.mod_lt _ (by omega)
  have h3 : b % (a % b) < a % b := Nat.mod_lt _ (by omega)
  have h4 := Nat.div_add_mod b (a % b)
  have h5 : 0 < b / (a % b) := Nat.div_pos (by omega) (by omega)
  have h6 : a % b ≤ (a % b) * (b / (a % b)) := Nat.le_mul_of_pos_right _ h5
  rw [Nat.pow_succ] at hk
  omega
theorem divisor_loop (F : FT) (T : Vf.TP) : ∀ (k m a b : Nat), b < 2 ^ k → 2 * k + 1 ≤ m → whileL (bnd (evE F DC) Vf.isB) (evSs F DB) m ⟨[some (false, .int a), some (false, .int b)], T⟩ =
    .ok .nx ⟨[some (false, .int (Nat.gcd a b)), some (false, .int 0)], T⟩
  | k, 0, a, b, h, hm => by omega
  | k, m + 1, a, b, h, hm => by
    rw [divisor_step]
    by_cases hb : b = 0
    · subst hb; rw [if_pos rfl, Nat.gcd_zero_right]; rfl
    rw [if_neg hb]
    have e2 : Nat.gcd a b = Nat.gcd b (a % b) := by rw [Nat.gcd_comm a b, Nat.gcd_rec b a, Nat.gcd_comm]
    cases k with
    | zero => omega
    | succ k =>
      obtain ⟨m, rfl⟩ : ∃ m', m = m' + 1 := ⟨m - 1, by omega⟩
      rw [divisor_step]
      by_cases hr : a % b = 0
      · rw [if_pos hr, e2, hr, Nat.gcd_zero_right]; rfl
      · rw [if_neg hr, divisor_loop F T k m _ _ (mod_half hb hr h) (by omega), e2]
        have e3 : Nat.gcd b (a % b) = Nat.gcd (a % b) (b % (a % b)) := by rw [Nat.gcd_comm b, Nat.gcd_rec (a % b) b, Nat.gcd_comm]
        rw [e3]
theorem abs_nat (a : Int) : (if a < 0 then -a else a) = (a.natAbs : Int) := by split <;> omega
theorem r_divisor (x : IX) (F : FT) (a b : Int) (T : Vf.TP) (h : b.natAbs < 2 ^ 4000) : runB F (B_divisor x) [.int a, .int b] T = .ok (.int (Int.gcd a b)) false T := by
  refine rb_rt rfl (st_cons (s1 := ⟨[some (false, .int a.natAbs), some (false, .int b.natAbs)], T⟩) ?_ (st_cons (st_while (divisor_loop F T 4000 Vf.most a.natAbs b.natAbs h (by decide))) (st_last rfl))) rfl
  dsimp! [B_divisor, abs_nat]
theorem log_of {a : Int} (h : a.natAbs < 2 ^ 4000) : a.natAbs.log2 < 9000 := by
  have := PySem.Flt.log2_lt_of (k := 4000) (by decide) h
  omega
theorem mul_ok {a b : Int} (ha : a.natAbs < 2 ^ 4000) (hb : b.natAbs < 2 ^ 4000) : decide (a.natAbs.log2 + b.natAbs.log2 < 1000000) = true := by
  have := log_of ha
  have := log_of hb
  exact decide_eq_true (by omega)
theorem gcd_small {a b : Int} (hb : 0 < b) (h : b.natAbs < 2 ^ 4000) : decide ((Int.gcd a b : Int) ≠ 0) = true ∧ small (Int.gcd a b : Int) = true := by
  have h1 : Int.gcd a b ≤ b.natAbs := Nat.le_of_dvd (by omega) (Nat.gcd_dvd_right _ _)
  have h2 : 0 < Int.gcd a b := Nat.gcd_pos_of_pos_right _ (by omega)
  have h4 : (Int.gcd a b : Int).natAbs < 2 ^ 4000 := by simp only [Int.natAbs_natCast]; omega
  exact ⟨decide_eq_true (by omega), decide_eq_true (log_of h4)⟩
def rD (k : Bool) (r : Rat) : D := match k with
  | true => .ktup [.int r.num, .int r.den]
  | false => .tup [.int r.num, .int r.den]
def Bd (r : Rat) : Prop := r.num.natAbs < 2 ^ 1900 ∧ r.den < 2 ^ 1900
theorem mk_num (a : Int) (b : Nat) (h : b ≠ 0) : (mkRat a b).num = a / (Int.gcd a b : Int) ∧ ((mkRat a b).den : Int) = (b : Int) / (Int.gcd a b : Int) := by
  have e : mkRat a b = Rat.normalize a b h := by unfold mkRat; rw [dif_neg h]
  rw [e, Rat.normalize_eq]
  have g : Int.gcd a b = a.natAbs.gcd b := by unfold Int.gcd; rw [Int.natAbs_natCast]
  constructor
  · show a / ((a.natAbs.gcd b : Nat) : Int) = _
    rw [g]
  · show ((b / a.natAbs.gcd b : Nat) : Int) = _
    rw [g]
    exact Int.natCast_ediv ..
section
variable {x : IX} {F : FT} {T : Vf.TP}
def DivF (x : IX) (F : FT) (T : Vf.TP) : Prop := ∀ a b : Int, b.natAbs < 2 ^ 4000 → F x.divisor [.int a, .int b] T = .ok (.int (Int.gcd a b)) false T
theorem r_make (hF : DivF x F T) {a : Int} {b : Nat} (h0 : b ≠ 0) (h1 : a.natAbs < 2 ^ 4000) (h2 : b < 2 ^ 4000) : runB F (B_make x) [.int a, .int (b : Nat)] T = .ok (rD false (mkRat a b)) false T := by
  have h3 : (0 : Int) < (b : Int) := by omega
  have h2' : ((b : Int)).natAbs < 2 ^ 4000 := by rw [Int.natAbs_natCast]; exact h2
  obtain ⟨g1, g2⟩ := gcd_small (a := a) h3 h2'
  have e0 : ¬ (b : Int) = 0 := by omega
  have e1 : ¬ (b : Int) < 0 := by omega
  have e2 := hF a b h2'
  have e3 : (Int.gcd a b : Int) ≠ 0 := of_decide_eq_true g1
  have d1 : a.fdiv (Int.gcd a b) = a / (Int.gcd a b) := Int.fdiv_eq_ediv_of_nonneg _ (by omega)
  have d2 : (b : Int).fdiv (Int.gcd a b) = (b : Int) / (Int.gcd a b) := Int.fdiv_eq_ediv_of_nonneg _ (by omega)
  obtain ⟨m1, m2⟩ := mk_num a b h0
  have ef : fits 2 = true := by decide
  refine rb_rt rfl (st_cons (s1 := ⟨[some (false, .int a), some (false, .int b), none], T⟩) ?_ (st_cons (s1 := ⟨[some (false, .int a), some (false, .int b), some (false, .int (Int.gcd a b))], T⟩) ?_ (st_cons (s1 := ⟨[some (false, .int a), some (false, .int b), some (false, .int (Int.gcd a b))], T⟩) ?_ (st_last (s1 := ⟨[some (false, .int a), some (false, .int b), some (false, .int (Int.gcd a b))], T⟩) ?_)))) rfl
  · dsimp! [B_make, e0]
  · dsimp! [B_make, e2]
  · dsimp! [e1]
  · dsimp! [g1, g2, d1, d2, rD, e3, ef, m1, m2]
def MakeF (x : IX) (F : FT) (T : Vf.TP) : Prop := ∀ (a : Int) (b : Nat), b ≠ 0 → a.natAbs < 2 ^ 4000 → b < 2 ^ 4000 → F x.make [.int a, .int (b : Nat)] T = .ok (rD false (mkRat a b)) false T
theorem add_mk (p q : Rat) : p + q = mkRat (p.num * q.den + q.num * p.den) (p.den * q.den) := by
  rw [Rat.add_def]
  have h : p.den * q.den ≠ 0 := Nat.mul_ne_zero p.den_nz q.den_nz
  unfold mkRat
  rw [dif_neg h]
theorem mul_mk (p q : Rat) : p * q = mkRat (p.num * q.num) (p.den * q.den) := by
  rw [Rat.mul_def]
  have h : p.den * q.den ≠ 0 := Nat.mul_ne_zero p.den_nz q.den_nz
  unfold mkRat
  rw [dif_neg h]
theorem lt_mul {a b : Nat} {k l : Nat} (ha : a < 2 ^ k) (hb : b < 2 ^ l) : a * b < 2 ^ (k + l) := by
  rw [Nat.pow_add]
  exact Nat.mul_lt_mul'' ha hb
theorem add_small {p q : Rat} (hp : Bd p) (hq : Bd q) : (p.num * q.den + q.num * p.den).natAbs < 2 ^ 4000 ∧ p.den * q.den < 2 ^ 4000 := by
  have h1 := lt_mul hp.1 hq.2
  have h2 := lt_mul hq.1 hp.2
  have h3 := lt_mul hp.2 hq.2
  have a1 : (p.num * q.den).natAbs = p.num.natAbs * q.den := by rw [Int.natAbs_mul, Int.natAbs_natCast]
  have a2 : (q.num * p.den).natAbs = q.num.natAbs * p.den := by rw [Int.natAbs_mul, Int.natAbs_natCast]
  have a3 := Int.natAbs_add_le (p.num * q.den) (q.num * p.den)
  have a4 : (2 : Nat) ^ (1900 + 1900) + 2 ^ (1900 + 1900) < 2 ^ 4000 := by decide +kernel
  have a5 : (2 : Nat) ^ (1900 + 1900) < 2 ^ 4000 := by decide +kernel
  omega
theorem mul_small {p q : Rat} (hp : Bd p) (hq : Bd q) : (p.num * q.num).natAbs < 2 ^ 4000 ∧ p.den * q.den < 2 ^ 4000 := by
  have h1 := lt_mul hp.1 hq.1
  have h3 := lt_mul hp.2 hq.2
  have a1 : (p.num * q.num).natAbs = p.num.natAbs * q.num.natAbs := Int.natAbs_mul ..
  have a5 : (2 : Nat) ^ (1900 + 1900) < 2 ^ 4000 := by decide +kernel
  omega
theorem up4 {n : Nat} (h : n < 2 ^ 1900) : n < 2 ^ 4000 := Nat.lt_trans h (by decide +kernel)
theorem dn4 {n : Nat} (h : n < 2 ^ 1900) : ((n : Int)).natAbs < 2 ^ 4000 := by rw [Int.natAbs_natCast]; exact up4 h
theorem r_radd (hF : MakeF x F T) {p q : Rat} (k1 k2 : Bool) (hp : Bd p) (hq : Bd q) : runB F (B_radd x) [rD k1 p, rD k2 q] T = .ok (rD false (p + q)) false T := by
  obtain ⟨s1, s2⟩ := add_small hp hq
  have e := hF _ _ (Nat.mul_ne_zero p.den_nz q.den_nz) s1 s2
  rw [← add_mk] at e
  rw [Int.natCast_mul] at e
  have m1 := mul_ok (up4 hp.1) (dn4 hq.2)
  have m2 := mul_ok (up4 hq.1) (dn4 hp.2)
  have m3 := mul_ok (dn4 hp.2) (dn4 hq.2)
  refine rb_rt rfl (st_last (s1 := ⟨[some (false, rD k1 p), some (false, rD k2 q)], T⟩) ?_) rfl
  cases k1 <;> cases k2 <;> dsimp! [B_radd, rD, m1, m2, m3, e]
theorem r_rmul (hF : MakeF x F T) {p q : Rat} (k1 k2 : Bool) (hp : Bd p) (hq : Bd q) : runB F (B_rmul x) [rD k1 p, rD k2 q] T = .ok (rD false (p * q)) false T := by
  obtain ⟨s1, s2⟩ := mul_small hp hq
  have e := hF _ _ (Nat.mul_ne_zero p.den_nz q.den_nz) s1 s2
  rw [← mul_mk] at e
  rw [Int.natCast_mul] at e
  have m1 := mul_ok (up4 hp.1) (up4 hq.1)
  have m3 := mul_ok (dn4 hp.2) (dn4 hq.2)
  refine rb_rt rfl (st_last (s1 := ⟨[some (false, rD k1 p), some (false, rD k2 q)], T⟩) ?_) rfl
  cases k1 <;> cases k2 <;> dsimp! [B_rmul, rD, m1, m3, e]
theorem r_rneg {p : Rat} (k : Bool) : runB F (B_rneg x) [rD k p] T = .ok (rD false (-p)) false T := by
  have ef : fits 2 = true := by decide
  have h1 : (-p).num = -p.num := rfl
  have h2 : (-p).den = p.den := rfl
  refine rb_rt rfl (st_last (s1 := ⟨[some (false, rD k p)], T⟩) ?_) rfl
  cases k <;> dsimp! [B_rneg, rD, ef, h1, h2]
abbrev LC : Ex := .prim (.cmp .Gt) (.cons (.var 3) (.cons (.cst (.int (0))) .nil))
abbrev LB : Sxs := .cons (.par [2, 3] (.cons (.var 3) (.cons (.prim (.bin .Mod) (.cons (.var 2) (.cons (.var 3) .nil))) .nil))) .nil
theorem frac_step (F : FT) (T : Vf.TP) (x y : Option (Bool × D)) (m : Nat) (a b : Nat) : whileL (bnd (evE F LC) Vf.isB) (evSs F LB) (m + 1) ⟨[x, y, some (false, .int a), some (false, .int b)], T⟩ =
   if b = 0 then .ok .nx ⟨[x, y, some (false, .int a), some (false, .int b)], T⟩ else whileL (bnd (evE F LC) Vf.isB) (evSs F LB) m ⟨[x, y, some (false, .int b), some (false, .int (a % b : Nat))], T⟩ := by
    rw [whileL]
    by_cases hb : b = 0
    · subst hb
      dsimp!
      simp
    · have hb' : 0 < (b : Int) := by omega
      have hb2 : (b : Int) ≠ 0 := by omega
      have e1 : (a : Int).fmod b = ((a % b : Nat) : Int) := by rw [Int.fmod_eq_emod_of_nonneg _ (by omega)]; rfl
      dsimp! [hb, hb', hb2, e1]
theorem frac_loop (F : FT) (T : Vf.TP) (x y : Option (Bool × D)) : ∀ (k m a b : Nat), b < 2 ^ k → 2 * k + 1 ≤ m → whileL (bnd (evE F LC) Vf.isB) (evSs F LB) m ⟨[x, y, some (false, .int a), some (false, .int b)], T⟩ =
    .ok .nx ⟨[x, y, some (false, .int (Nat.gcd a b)), some (false, .int 0)], T⟩
  | k, 0, a, b, h, hm => by omega
  | k, m + 1, a, b, h, hm => by
    rw [frac_step]
    by_cases hb : b = 0
    · subst hb; rw [if_pos rfl, Nat.gcd_zero_right]; rfl
    rw [if_neg hb]
    have e2 : Nat.gcd a b = Nat.gcd b (a % b) := by rw [Nat.gcd_comm a b, Nat.gcd_rec b a, Nat.gcd_comm]
    cases k with
    | zero => omega
    | succ k =>
      obtain ⟨m, rfl⟩ : ∃ m', m = m' + 1 := ⟨m - 1, by omega⟩
      rw [frac_step]
      by_cases hr : a % b = 0
      · rw [if_pos hr, e2, hr, Nat.gcd_zero_right]; rfl
      · rw [if_neg hr, frac_loop F T x y k m _ _ (mod_half hb hr h) (by omega), e2]
        have e3 : Nat.gcd b (a % b) = Nat.gcd (a % b) (b % (a % b)) := by rw [Nat.gcd_comm b, Nat.gcd_rec (a % b) b, Nat.gcd_comm]
        rw [e3]
theorem r_frac {a : Int} {b : Nat} (h0 : b ≠ 0) (h1 : a.natAbs < 2 ^ 4000) (h2 : b < 2 ^ 4000) : runB F (B_l_frac x) [.int a, .int (b : Nat)] T = .ok (rD false (mkRat a b)) false T := by
  have h3 : (0 : Int) < (b : Int) := by omega
  have h2' : ((b : Int)).natAbs < 2 ^ 4000 := by rw [Int.natAbs_natCast]; exact h2
  obtain ⟨g1, g2⟩ := gcd_small (a := a) h3 h2'
  have e3 : (Int.gcd a b : Int) ≠ 0 := of_decide_eq_true g1
  have d1 : a.fdiv (Int.gcd a b) = a / (Int.gcd a b) := Int.fdiv_eq_ediv_of_nonneg _ (by omega)
  have d2 : (b : Int).fdiv (Int.gcd a b) = (b : Int) / (Int.gcd a b) := Int.fdiv_eq_ediv_of_nonneg _ (by omega)
  obtain ⟨m1, m2⟩ := mk_num a b h0
  have ef : fits 2 = true := by decide
  have hl := frac_loop F T (some (false, .int a)) (some (false, .int b)) 4000 Vf.most a.natAbs b h2 (by decide)
  have hg : (Nat.gcd a.natAbs b) = Int.gcd a b := by unfold Int.gcd; rw [Int.natAbs_natCast]
  rw [hg] at hl
  have hna : ¬ (b : Int) < 0 := by omega
  refine rb_rt rfl (st_cons (s1 := ⟨[some (false, .int a), some (false, .int b), some (false, .int a.natAbs), some (false, .int b)], T⟩) ?_ (st_cons (st_while hl) (st_last (s1 := ⟨[some (false, .int a), some (false, .int b), some (false, .int (Int.gcd a b)), some (false, .int 0)], T⟩) ?_))) rfl
  · dsimp! [B_l_frac, abs_nat, Int.natAbs_natCast]
  · show evS F _ ⟨[some (false, .int a), some (false, .int b), some (false, .int (Int.gcd a b)), some (false, .int 0)], T⟩ = _
    dsimp! [h3, g1, g2, d1, d2, rD, e3, ef, m1, m2]
def FracF (x : IX) (F : FT) (T : Vf.TP) : Prop := ∀ (a : Int) (b : Nat), b ≠ 0 → a.natAbs < 2 ^ 4000 → b < 2 ^ 4000 → F x.l_frac [.int a, .int (b : Nat)] T = .ok (rD false (mkRat a b)) false T
theorem r_plus (hF : FracF x F T) {p q : Rat} (k1 k2 : Bool) (hp : Bd p) (hq : Bd q) : runB F (B_l_plus x) [rD k1 p, rD k2 q] T = .ok (rD false (p + q)) false T := by
  obtain ⟨s1, s2⟩ := add_small hp hq
  have e := hF _ _ (Nat.mul_ne_zero p.den_nz q.den_nz) s1 s2
  rw [← add_mk] at e
  rw [Int.natCast_mul] at e
  have m1 := mul_ok (up4 hp.1) (dn4 hq.2)
  have m2 := mul_ok (up4 hq.1) (dn4 hp.2)
  have m3 := mul_ok (dn4 hp.2) (dn4 hq.2)
  refine rb_rt rfl (st_last (s1 := ⟨[some (false, rD k1 p), some (false, rD k2 q)], T⟩) ?_) rfl
  cases k1 <;> cases k2 <;> dsimp! [B_l_plus, rD, m1, m2, m3, e]
theorem r_by (hF : FracF x F T) {p q : Rat} (k1 k2 : Bool) (hp : Bd p) (hq : Bd q) : runB F (B_l_by x) [rD k1 p, rD k2 q] T = .ok (rD false (p * q)) false T := by
  obtain ⟨s1, s2⟩ := mul_small hp hq
  have e := hF _ _ (Nat.mul_ne_zero p.den_nz q.den_nz) s1 s2
  rw [← mul_mk] at e
  rw [Int.natCast_mul] at e
  have m1 := mul_ok (up4 hp.1) (up4 hq.1)
  have m3 := mul_ok (dn4 hp.2) (dn4 hq.2)
  refine rb_rt rfl (st_last (s1 := ⟨[some (false, rD k1 p), some (false, rD k2 q)], T⟩) ?_) rfl
  cases k1 <;> cases k2 <;> dsimp! [B_l_by, rD, m1, m3, e]
end
end Lb
namespace Lb
open PySem PySem.Spec PyProof.Rows L2 Vf

section
variable {x : IX} {F : FT} {T : Vf.TP}
theorem r_is_integer (i : Int) : runB F (B_is_integer x) [.int i] T = .ok (.bl true) false T := by
  dsimp! [B_is_integer]
theorem r_isratio {k : Bool} {q : Rat} (h0 : ∀ i : Int, F x.is_integer [.int i] T = .ok (.bl true) false T) (h2 : DivF x F T) (hq : Bd q) : runB F (B_is_ratio x) [rD k q] T = .ok (.bl true) false T := by
  have hg : Int.gcd q.num q.den = 1 := by
    have := q.reduced
    unfold Int.gcd
    rw [Int.natAbs_natCast]
    exact this
  have e2 : F x.divisor [.int q.num, .int q.den] T = .ok (.int 1) false T := by rw [h2 q.num q.den (dn4 hq.2), hg]; rfl
  have ef : fits 2 = true := by decide
  have hp : (0 : Int) < q.den := by have := q.den_pos; omega
  have hc : evE F (.comp [1] [1] (.ex (.var 0)) .nil (.call x.is_integer (.cons (.var 1) .nil))) ⟨[some (false, rD k q), none], T⟩ = .ok (.lst [.bl true, .bl true], true) ⟨[some (false, rD k q), none], T⟩ :=
    ev_comp0 (F := F) (own := [1]) (tg := [1]) (it := .ex (.var 0)) (s0 := ⟨[some (false, rD k q), none], T⟩) (s1 := ⟨[some (false, rD k q), none], T⟩) (ds := [.int q.num, .int q.den]) (by cases k <;> dsimp! [rD]) rfl
      (comp_yes (x := (.bl true, false)) (s1 := ⟨[some (false, rD k q), some (false, .int q.num)], T⟩) (s2 := ⟨[some (false, rD k q), some (false, .int q.num)], T⟩) (s3 := ⟨[some (false, rD k q), some (false, .int q.num)], T⟩) (by dsimp!) rfl (by dsimp! [h0])
        (comp_yes (x := (.bl true, false)) (s1 := ⟨[some (false, rD k q), some (false, .int q.den)], T⟩) (s2 := ⟨[some (false, rD k q), some (false, .int q.den)], T⟩) (s3 := ⟨[some (false, rD k q), some (false, .int q.den)], T⟩) (by dsimp!) rfl (by dsimp! [h0]) rfl)) ef
  have hb2 := ev_blt1 (F := F) (p := .blt "all") (fun _ h => by cases h) hc (r := (.bl true, false)) rfl
  have q2 : (((1 + 1 : Nat)) : Int) = 2 := by decide
  refine rb_rt rfl (st_cons (s1 := ⟨[some (false, rD k q), none], T⟩) ?_ (st_last (s1 := ⟨[some (false, rD k q), none], T⟩) ?_)) rfl
  · refine st_ite_f (fr := false) (s1 := ⟨[some (false, rD k q), none], T⟩) ?_ st_end
    refine ev_or_f (fr := false) (s1 := ⟨[some (false, rD k q), none], T⟩) (by cases k <;> dsimp! [rD, B_is_ratio]) ?_
    refine ev_or_f (fr := false) (s1 := ⟨[some (false, rD k q), none], T⟩) (by cases k <;> dsimp! [rD, B_is_ratio] <;> rfl) ?_
    exact ev_not hb2
  · cases k <;> dsimp! [rD, hp, e2]
theorem div_mk (p q : Rat) (h : 0 < q.num) : p / q = mkRat (p.num * q.den) (p.den * q.num.toNat) := by
  rw [Rat.mkRat_eq_div]
  have hp : p = (p.num : Rat) / (p.den : Rat) := ((Rat.mkRat_eq_div p.num p.den).symm.trans (Rat.mkRat_self p)).symm
  have hq : q = (q.num : Rat) / (q.den : Rat) := ((Rat.mkRat_eq_div q.num q.den).symm.trans (Rat.mkRat_self q)).symm
  have hn : ((q.num.toNat : Nat) : Rat) = (q.num : Rat) := by
    have : (q.num.toNat : Int) = q.num := by omega
    rw [← Rat.intCast_natCast, this]
  have z1 : (p.den : Rat) ≠ 0 := by have := p.den_nz; exact_mod_cast this
  have z2 : (q.den : Rat) ≠ 0 := by have := q.den_nz; exact_mod_cast this
  have z3 : (q.num : Rat) ≠ 0 := by
    have : q.num ≠ 0 := by omega
    exact_mod_cast this
  conv => lhs; rw [hp, hq]
  rw [Rat.intCast_mul, Rat.natCast_mul, hn, Rat.intCast_natCast]
  generalize (p.num : Rat) = a at *
  generalize (p.den : Rat) = b at *
  generalize (q.num : Rat) = c at *
  generalize (q.den : Rat) = d at *
  grind
theorem r_over (hF : FracF x F T) {p q : Rat} (k1 k2 : Bool) (hp : Bd p) (hq : Bd q) (hz : 0 < q.num) : runB F (B_l_over x) [rD k1 p, rD k2 q] T = .ok (rD false (p / q)) false T := by
  have hn : ((q.num.toNat : Nat) : Int) = q.num := by omega
  have hn2 : q.num.toNat < 2 ^ 1900 := by have := hq.1; omega
  have h1 := lt_mul hp.1 hq.2
  have h3 := lt_mul hp.2 hn2
  have a1 : (p.num * q.den).natAbs = p.num.natAbs * q.den := by rw [Int.natAbs_mul, Int.natAbs_natCast]
  have a5 : (2 : Nat) ^ (1900 + 1900) < 2 ^ 4000 := by decide +kernel
  have e := hF (p.num * q.den) (p.den * q.num.toNat) (Nat.mul_ne_zero p.den_nz (by omega)) (by omega) (by omega)
  rw [← div_mk p q hz, Int.natCast_mul, hn] at e
  have m1 := mul_ok (up4 hp.1) (dn4 hq.2)
  have m3 := mul_ok (dn4 hp.2) (up4 hq.1)
  refine rb_rt rfl (st_last (s1 := ⟨[some (false, rD k1 p), some (false, rD k2 q)], T⟩) ?_) rfl
  cases k1 <;> cases k2 <;> dsimp! [B_l_over, rD, m1, m3, e]
end
structure KR (F : FT) (x : IX) : Prop where
  add : ∀ T p q k1 k2, Bd p → Bd q → F x.radd [rD k1 p, rD k2 q] T = .ok (rD false (p + q)) false T
  mul : ∀ T p q k1 k2, Bd p → Bd q → F x.rmul [rD k1 p, rD k2 q] T = .ok (rD false (p * q)) false T
  neg : ∀ T p k, F x.rneg [rD k p] T = .ok (rD false (-p)) false T
  isint : ∀ T (i : Int), F x.is_integer [.int i] T = .ok (.bl true) false T
  isr : ∀ T k p, Bd p → F x.is_ratio [rD k p] T = .ok (.bl true) false T
structure KL (F : FT) (x : IX) : Prop where
  frac : ∀ T, FracF x F T
  plus : ∀ T p q k1 k2, Bd p → Bd q → F x.l_plus [rD k1 p, rD k2 q] T = .ok (rD false (p + q)) false T
  by_ : ∀ T p q k1 k2, Bd p → Bd q → F x.l_by [rD k1 p, rD k2 q] T = .ok (rD false (p * q)) false T
  over : ∀ T p q k1 k2, Bd p → Bd q → 0 < q.num → F x.l_over [rD k1 p, rD k2 q] T = .ok (rD false (p / q)) false T
  draw : ∀ ds T, F x.l_draw ds T = drawP ds T
section
variable {Ps : List Fn} {x : IX}
theorem k_div (h : HasR Ps x) {m : Nat} (hm : 1 ≤ m) (T : Vf.TP) : DivF x (Vf.run Ps m) T := fun a b hb => by
  rw [run_m h.divisor hm]
  exact r_divisor x _ a b T hb
theorem k_make (h : HasR Ps x) {m : Nat} (hm : 2 ≤ m) (T : Vf.TP) : MakeF x (Vf.run Ps m) T := fun a b h0 h1 h2 => by
  rw [run_m h.make (by omega)]
  exact r_make (k_div h (by omega) T) h0 h1 h2
theorem kR (h : HasR Ps x) {m : Nat} (hm : 4 ≤ m) : KR (Vf.run Ps m) x where
  add T p q k1 k2 hp hq := by rw [run_m h.radd (by omega)]; exact r_radd (k_make h (by omega) T) k1 k2 hp hq
  mul T p q k1 k2 hp hq := by rw [run_m h.rmul (by omega)]; exact r_rmul (k_make h (by omega) T) k1 k2 hp hq
  neg T p k := by rw [run_m h.rneg (by omega)]; exact r_rneg k
  isint T i := by rw [run_m h.is_integer (by omega)]; exact r_is_integer i
  isr T k p hp := by
    rw [run_m h.is_ratio (by omega)]
    exact r_isratio (fun i => by rw [run_m h.is_integer (by omega)]; exact r_is_integer i) (k_div h (by omega) T) hp
theorem kL (h : HasL Ps x) {m : Nat} (hm : 3 ≤ m) : KL (Vf.run Ps m) x where
  frac T a b h0 h1 h2 := by rw [run_m h.l_frac (by omega)]; exact r_frac h0 h1 h2
  plus T p q k1 k2 hp hq := by rw [run_m h.l_plus (by omega)]; exact r_plus (fun a b h0 h1 h2 => by rw [run_m h.l_frac (by omega)]; exact r_frac h0 h1 h2) k1 k2 hp hq
  by_ T p q k1 k2 hp hq := by rw [run_m h.l_by (by omega)]; exact r_by (fun a b h0 h1 h2 => by rw [run_m h.l_frac (by omega)]; exact r_frac h0 h1 h2) k1 k2 hp hq
  over T p q k1 k2 hp hq hz := by rw [run_m h.l_over (by omega)]; exact r_over (fun a b h0 h1 h2 => by rw [run_m h.l_frac (by omega)]; exact r_frac h0 h1 h2) k1 k2 hp hq hz
  draw ds T := by
    obtain ⟨k, rfl⟩ : ∃ k, m = k + 1 := ⟨m - 1, by omega⟩
    show (match Ps[x.l_draw]? with | some (.body b) => runB (Vf.run Ps k) b ds T | some (.prim p) => p ds T | none => .stuck) = _
    rw [h.l_draw]
end
end Lb
namespace Lb
open PySem PySem.Spec PyProof.Rows L2 Vf

def Nc (N B : Nat) (r : Rat) : Prop := ∃ z : Int, r = mkRat z N ∧ z.natAbs ≤ B
theorem mkq (z : Int) (n : Nat) : mkRat z n = (z : Rat) / ((n : Nat) : Rat) := Rat.mkRat_eq_div z n
theorem natq {n : Nat} (h : n ≠ 0) : ((n : Nat) : Rat) ≠ 0 := by exact_mod_cast h
theorem Nc.bd {N B : Nat} {r : Rat} (h : Nc N B r) (h0 : N ≠ 0) (hN : N < 2 ^ 1900) (hB : B < 2 ^ 1900) : Bd r := by
  obtain ⟨z, rfl, hz⟩ := h
  obtain ⟨m1, m2⟩ := mk_num z N h0
  have hp : (0 : Int) < (Int.gcd z N : Int) := by
    have : 0 < Int.gcd z (N : Int) := Nat.gcd_pos_of_pos_right _ (by omega)
    omega
  constructor
  · rw [m1]
    have := Int.natAbs_ediv_le_natAbs z (Int.gcd z N : Int)
    omega
  · have h2 : ((mkRat z N).den : Int) ≤ N := by
      rw [m2]
      exact Int.ediv_le_self _ (by omega)
    omega
theorem Nc.add {N B C : Nat} {r s : Rat} (h0 : N ≠ 0) (h : Nc N B r) (g : Nc N C s) : Nc N (B + C) (r + s) := by
  obtain ⟨z, rfl, hz⟩ := h
  obtain ⟨y, rfl, hy⟩ := g
  refine ⟨z + y, ?_, by have := Int.natAbs_add_le z y; omega⟩
  rw [mkq, mkq, mkq, Rat.intCast_add]
  have := natq h0
  grind
theorem Nc.mul {N M B C : Nat} {r s : Rat} (h0 : N ≠ 0) (h1 : M ≠ 0) (h : Nc N B r) (g : Nc M C s) : Nc (N * M) (B * C) (r * s) := by
  obtain ⟨z, rfl, hz⟩ := h
  obtain ⟨y, rfl, hy⟩ := g
  refine ⟨z * y, ?_, by rw [Int.natAbs_mul]; exact Nat.mul_le_mul hz hy⟩
  rw [mkq, mkq, mkq, Rat.intCast_mul, Rat.natCast_mul]
  have := natq h0
  have := natq h1
  grind
theorem Nc.neg {N B : Nat} {r : Rat} (h : Nc N B r) : Nc N B (-r) := by
  obtain ⟨z, rfl, hz⟩ := h
  refine ⟨-z, ?_, by omega⟩
  rw [mkq, mkq, Rat.intCast_neg]
  grind
theorem Nc.mono {N B C : Nat} {r : Rat} (h : Nc N B r) (hc : B ≤ C) : Nc N C r := by
  obtain ⟨z, e, hz⟩ := h
  exact ⟨z, e, by omega⟩
theorem Nc.up {N B k : Nat} {r : Rat} (h : Nc N B r) (h0 : N ≠ 0) (hk : k ≠ 0) : Nc (N * k) (B * k) r := by
  obtain ⟨z, rfl, hz⟩ := h
  refine ⟨z * k, ?_, by rw [Int.natAbs_mul, Int.natAbs_natCast]; exact Nat.mul_le_mul_right k hz⟩
  rw [mkq, mkq, Rat.intCast_mul, Rat.natCast_mul, Rat.intCast_natCast]
  have := natq h0
  have := natq hk
  grind
theorem Nc.zero {N B : Nat} : Nc N B 0 := ⟨0, by simp, by simp⟩
theorem Nc.one {N B : Nat} (h0 : N ≠ 0) (h : N ≤ B) : Nc N B 1 := by
  refine ⟨N, ?_, by rw [Int.natAbs_natCast]; exact h⟩
  rw [mkq, Rat.intCast_natCast]
  have := natq h0
  grind
theorem Nc.div {N B : Nat} {r : Rat} (h : Nc N B r) (h0 : N ≠ 0) {k : Nat} (hk : k ≠ 0) : Nc (N * k) B (r / ((k : Nat) : Rat)) := by
  obtain ⟨z, rfl, hz⟩ := h
  refine ⟨z, ?_, hz⟩
  rw [mkq, mkq, Rat.natCast_mul]
  have := natq h0
  have := natq hk
  grind
def wcmp : List Int → PyData := wkey
abbrev Tm := List Int × Bool × Rat
def tmD (t : Tm) : D := .tup [wordD t.1, rD t.2.1 t.2.2]
def gget (w : List Int) : List Tm → Option (Bool × Rat)
  | [] => none
  | (v, x) :: r => if v = w then some x else gget w r
def grep (w : List Int) (x : Bool × Rat) (r : List Tm) : List Tm := r.map fun p => if p.1 = w then (p.1, x) else p
def gset (w : List Int) (x : Bool × Rat) : List Tm → List Tm
  | [] => [(w, x)]
  | (v, y) :: r => if v = w then (v, x) :: grep w x r else (v, y) :: gset w x r
def gstep (A : List Tm) (t : Tm) : List Tm := match gget t.1 A with
  | some (_, q) => gset t.1 (false, q + t.2.2) A
  | none => gset t.1 t.2 A
def gout (A : List Tm) : List (List Int) → List Tm
  | [] => []
  | w :: r => match gget w A with
    | some x => if x.2 = 0 then gout A r else (w, x) :: gout A r
    | none => gout A r
def kvsOf (A : List Tm) : List (D × D) := A.map fun p => (wordD p.1, rD p.2.1 p.2.2)
theorem keysD_int : ∀ w : List Int, keysD (w.map .int) = some (w.map .inl)
  | [] => rfl
  | a :: r => by
    have h := keysD_int r
    rw [List.map_cons, List.map_cons]
    unfold keysD
    rw [h]
    rfl
theorem dkey_w (w : List Int) : dkey true (wordD w) = some (.inr (w.map .inl)) := by
  have h := keysD_int w
  exact congrArg (Option.map Sum.inr) h
theorem map_inl : ∀ {w v : List Int}, (v.map Sum.inl : List Key) = w.map .inl → v = w
  | [], [], _ => rfl
  | [], _ :: _, h => by cases h
  | _ :: _, [], h => by cases h
  | a :: w, b :: v, h => by
    rw [List.map_cons, List.map_cons] at h
    injection h with h1 h2
    injection h1 with h1
    rw [h1, map_inl h2]
theorem inl_inj {w v : List Int} : (some (Sum.inr (v.map Sum.inl)) : Option (Key ⊕ List Key)) = some (.inr (w.map .inl)) ↔ v = w := by
  constructor
  · intro h
    have h2 : (v.map Sum.inl : List Key) = w.map .inl := by injection h with h; injection h
    exact map_inl h2
  · rintro rfl; rfl
theorem dget_w (w : List Int) : ∀ A : List Tm, dget true (.inr (w.map .inl)) (kvsOf A) = (gget w A).map fun x => rD x.1 x.2
  | [] => rfl
  | (v, x) :: r => by
    show (if dkey true (wordD v) = _ then _ else dget true _ (kvsOf r)) = Option.map _ (if v = w then _ else gget w r)
    rw [dkey_w]
    by_cases h : v = w
    · rw [if_pos (inl_inj.mpr h), if_pos h]; rfl
    · rw [if_neg (fun e => h (inl_inj.mp e)), if_neg h, dget_w w r]
theorem drep_w (w : List Int) (x : Bool × Rat) (A : List Tm) : drep true (.inr (w.map .inl)) (rD x.1 x.2) (kvsOf A) = kvsOf (grep w x A) := by
  unfold drep grep kvsOf
  rw [List.map_map, List.map_map]
  refine List.map_congr_left fun p _ => ?_
  show (if dkey true (wordD p.1) = _ then _ else _) = _
  rw [dkey_w]
  by_cases h : p.1 = w
  · rw [if_pos (inl_inj.mpr h)]; show _ = (wordD (if p.1 = w then (p.1, x) else p).1, rD (if p.1 = w then (p.1, x) else p).2.1 (if p.1 = w then (p.1, x) else p).2.2); rw [if_pos h]
  · rw [if_neg (fun e => h (inl_inj.mp e))]; show _ = (wordD (if p.1 = w then (p.1, x) else p).1, rD (if p.1 = w then (p.1, x) else p).2.1 (if p.1 = w then (p.1, x) else p).2.2); rw [if_neg h]
theorem dput_w (w : List Int) (x : Bool × Rat) : ∀ A : List Tm, dput true (.inr (w.map .inl)) (wordD w) (rD x.1 x.2) (kvsOf A) = kvsOf (gset w x A)
  | [] => rfl
  | (v, y) :: r => by
    show (if dkey true (wordD v) = _ then _ else _ :: dput true _ _ _ (kvsOf r)) = kvsOf (if v = w then _ else _ :: gset w x r)
    rw [dkey_w]
    by_cases h : v = w
    · rw [if_pos (inl_inj.mpr h), if_pos h]
      show _ :: drep true _ _ (kvsOf r) = _
      rw [drep_w]; rfl
    · rw [if_neg (fun e => h (inl_inj.mp e)), if_neg h, dput_w w x r]; rfl
theorem gset_len (w : List Int) (x : Bool × Rat) : ∀ A : List Tm, (gset w x A).length ≤ A.length + 1
  | [] => Nat.le_refl _
  | (v, y) :: r => by
    unfold gset
    split
    · unfold grep; simp
    · have := gset_len w x r
      simp only [List.length_cons]
      omega
theorem gstep_len (A : List Tm) (t : Tm) : (gstep A t).length ≤ A.length + 1 := by
  unfold gstep
  split <;> exact gset_len _ _ _
theorem gall_len : ∀ (ts A : List Tm), (ts.foldl gstep A).length ≤ A.length + ts.length
  | [], A => Nat.le_refl _
  | t :: r, A => by
    have h1 := gstep_len A t
    have h2 := gall_len r (gstep A t)
    rw [List.foldl_cons, List.length_cons]
    omega
theorem eqZ (k : Bool) (q : Rat) : Vf.eqD (rD k q) (.ktup [.int 0, .int 1]) = some (decide (q = 0)) := by
  have hq : q = 0 ↔ q.num = 0 ∧ (q.den : Int) = 1 := by
    constructor
    · rintro rfl; exact ⟨rfl, rfl⟩
    · rintro ⟨h1, h2⟩
      exact Rat.ext h1 (by show q.den = 1; omega)
  have h : PyData.eqv (.tuple [.int q.num, .int q.den]) (.tuple [.int 0, .int 1]) = decide (q = 0) := by
    by_cases hz : q = 0
    · obtain ⟨h1, h2⟩ := hq.mp hz
      rw [decide_eq_true hz]
      simp only [PyData.eqv, PyData.eqvAll, h1, h2]
      rfl
    · rw [decide_eq_false hz]
      have h0 : ¬ (q.num = 0 ∧ (q.den : Int) = 1) := fun h => hz (hq.mpr h)
      simp only [PyData.eqv, PyData.eqvAll]
      by_cases h1 : q.num = 0 <;> by_cases h2 : (q.den : Int) = 1
      · exact (h0 ⟨h1, h2⟩).elim
      · simp [h1, h2]
      · simp [h1, h2]
      · simp [h1, h2]
  cases k
  · show (if okD 60 (.tup [.int q.num, .int q.den]) && okD 60 (.ktup [.int 0, .int 1]) then some (PyData.eqv _ _) else none) = _
    exact (if_pos rfl).trans (congrArg some h)
  · show (if okD 60 (.ktup [.int q.num, .int q.den]) && okD 60 (.ktup [.int 0, .int 1]) then some (PyData.eqv _ _) else none) = _
    exact (if_pos rfl).trans (congrArg some h)
theorem in_w (w : List Int) (A : List Tm) : inD (wordD w) (.dic true (kvsOf A)) = some (gget w A).isSome := by
  show (dkey true (wordD w)).map _ = _
  rw [dkey_w]
  show some (dget true _ (kvsOf A)).isSome = _
  rw [dget_w, Option.isSome_map]
theorem idx_w {w : List Int} {A : List Tm} {x : Bool × Rat} (h : gget w A = some x) : idxD (.dic true (kvsOf A)) (wordD w) = some (rD x.1 x.2, false) := by
  show (dkey true (wordD w)).bind _ = _
  rw [dkey_w]
  show (dget true _ (kvsOf A)).map _ = _
  rw [dget_w, h]
  rfl
theorem put_w (w : List Int) (A : List Tm) (x : Bool × Rat) (hA : A.length < 16000000) : setAt (.dic true (kvsOf A)) (wordD w) (rD x.1 x.2) = some (.dic true (kvsOf (gset w x A))) := by
  show (dkey true (wordD w)).bind _ = _
  rw [dkey_w]
  show (if (kvsOf A).length < 16000000 then _ else _) = _
  have : (kvsOf A).length = A.length := List.length_map ..
  rw [if_pos (by omega), dput_w]
def GB : List Tm → List Tm → Prop
  | _, [] => True
  | A, t :: r => (∀ y, gget t.1 A = some y → Bd y.2 ∧ Bd t.2.2) ∧ GB (gstep A t) r
section
variable {x : IX} {F : FT} {T : Vf.TP} (K : KR F x)
include K
theorem gath_turn {A : List Tm} {t : Tm} {d : D} (hA : A.length < 16000000) (h : ∀ y, gget t.1 A = some y → Bd y.2 ∧ Bd t.2.2) :
    evSs F (.cons (.put 1 (.var 2) (.ite (.prim (.cmp .In) (.cons (.var 2) (.cons (.var 1) .nil))) (.call x.radd (.cons (.prim .idx (.cons (.var 1) (.cons (.var 2) .nil))) (.cons (.var 3) .nil))) (.var 3))) .nil) ⟨[some (false, d), some (true, .dic true (kvsOf A)), some (false, wordD t.1), some (false, rD t.2.1 t.2.2), none], T⟩ = .ok .nx ⟨[some (false, d), some (true, .dic true (kvsOf (gstep A t))), some (false, wordD t.1), some (false, rD t.2.1 t.2.2), none], T⟩ := by
  have h1 := in_w t.1 A
  unfold gstep
  split
  · rename_i k q hg
    rw [hg] at h1
    have h2 := idx_w hg
    obtain ⟨b1, b2⟩ := h _ hg
    have h3 := K.add T q t.2.2 k t.2.1 b1 b2
    have h4 := put_w t.1 A (false, q + t.2.2) hA
    dsimp! [h1, h2, h3, h4, Option.isSome_some]
  · rename_i hg
    rw [hg] at h1
    have h4 := put_w t.1 A t.2 hA
    dsimp! [h1, h4, Option.isSome_none]
theorem gath_loop {d : D} : ∀ (ts : List Tm) (A : List Tm) (y z : Option (Bool × D)), A.length + ts.length < 16000000 → GB A ts →
    ∃ y' z', forL [2, 3] (evSs F (.cons (.put 1 (.var 2) (.ite (.prim (.cmp .In) (.cons (.var 2) (.cons (.var 1) .nil))) (.call x.radd (.cons (.prim .idx (.cons (.var 1) (.cons (.var 2) .nil))) (.cons (.var 3) .nil))) (.var 3))) .nil)) (ts.map tmD) ⟨[some (false, d), some (true, .dic true (kvsOf A)), y, z, none], T⟩ = .ok .nx ⟨[some (false, d), some (true, .dic true (kvsOf (ts.foldl gstep A))), y', z', none], T⟩ ∧ (y = none ∨ (∃ e, y = some (false, e)) → y' = none ∨ (∃ e, y' = some (false, e)))
  | [], A, y, z, _, _ => ⟨y, z, rfl, id⟩
  | t :: r, A, y, z, hl, h => by
    obtain ⟨h1, h2⟩ := h
    have hC := gstep_len A t
    rw [List.length_cons] at hl
    obtain ⟨y', z', g, gx⟩ := gath_loop (d := d) r (gstep A t) (some (false, wordD t.1)) (some (false, rD t.2.1 t.2.2)) (by omega) h2
    refine ⟨y', z', for_cons (s1 := ⟨[some (false, d), some (true, .dic true (kvsOf A)), some (false, wordD t.1), some (false, rD t.2.1 t.2.2), none], T⟩) ?_ (gath_turn K (by omega) h1) g, fun _ => gx (.inr ⟨_, rfl⟩)⟩
    rw [tmD]
    dsimp!
end
theorem words_ok : ∀ ws : List (List Int), wordsD (ws.map wordD) = some ws
  | [] => rfl
  | w :: r => by
    have h := words_ok r
    have hi : ∀ w : List Int, intsD (w.map .int) = some w := fun w => by
      induction w with
      | nil => rfl
      | cons a r ih => rw [List.map_cons]; unfold intsD; rw [ih]; rfl
    rw [List.map_cons]
    unfold wordD
    unfold wordsD
    have h' := h
    unfold wordD at h'
    rw [hi, h']
theorem sort_ok (A : List Tm) (h : A.length < 16000000) : sortkD (.dic true (kvsOf A)) = some (.lst ((sortW (A.map (·.1))).map wordD), true) := by
  have h1 : (kvsOf A).map (·.1) = (A.map (·.1)).map wordD := by unfold kvsOf; rw [List.map_map, List.map_map]; rfl
  show (some ((kvsOf A).map (·.1))).bind _ = _
  show (wordsD ((kvsOf A).map (·.1))).bind _ = _
  rw [h1, words_ok]
  show (if fits (A.map (·.1)).length then _ else _) = _
  have h2 : fits (A.map (·.1)).length = true := decide_eq_true (by rw [List.length_map]; show A.length ≤ 2 ^ 24; omega)
  rw [if_pos h2]
theorem gout_loop {F : FT} {T : Vf.TP} {d : D} {A : List Tm} {y : Option (Bool × D)} {fb : Bool} : ∀ (ws : List (List Int)), (∀ w ∈ ws, ∃ z, gget w A = some z) →
    compL [2] [2] (bnd (evE F (.prim (.cmp .NotEq) (.cons (.prim .idx (.cons (.var 1) (.cons (.var 2) .nil))) (.cons (.glo "ZERO" (.ktup [(.int (0)), (.int (1))])) .nil)))) Vf.isB) (evE F (.tup (.cons (.var 2) (.cons (.prim .idx (.cons (.var 1) (.cons (.var 2) .nil))) .nil)))) (ws.map wordD)
      ⟨[some (false, d), some (fb, .dic true (kvsOf A)), none, y, none], T⟩ = .ok ((gout A ws).map tmD) ⟨[some (false, d), some (fb, .dic true (kvsOf A)), none, y, none], T⟩
  | [], _ => rfl
  | w :: r, h => by
    obtain ⟨z, e⟩ := h w (List.mem_cons_self ..)
    have ih := gout_loop (F := F) (T := T) (d := d) (y := y) (fb := fb) r (fun v hv => h v (List.mem_cons_of_mem _ hv))
    have h2 := idx_w e
    have h3 := eqZ z.1 z.2
    have hf : fits 2 = true := by decide
    unfold gout
    rw [e]
    by_cases hx : z.2 = 0
    · simp only [if_pos hx]
      rw [decide_eq_true hx] at h3
      rw [List.map_cons]
      refine comp_no (s1 := ⟨[some (false, d), some (fb, .dic true (kvsOf A)), some (false, wordD w), y, none], T⟩) (s2 := ⟨[some (false, d), some (fb, .dic true (kvsOf A)), some (false, wordD w), y, none], T⟩) ?_ ?_ ih
      · dsimp!
      · dsimp! [h2, h3]
    · simp only [if_neg hx]
      rw [decide_eq_false hx] at h3
      rw [List.map_cons]
      refine comp_yes (x := (tmD (w, z), false)) (s1 := ⟨[some (false, d), some (fb, .dic true (kvsOf A)), some (false, wordD w), y, none], T⟩) (s2 := ⟨[some (false, d), some (fb, .dic true (kvsOf A)), some (false, wordD w), y, none], T⟩) (s3 := ⟨[some (false, d), some (fb, .dic true (kvsOf A)), some (false, wordD w), y, none], T⟩) ?_ ?_ ?_ ih
      · dsimp!
      · dsimp! [h2, h3]
      · dsimp! [h2, hf, tmD]
def gath (ts : List Tm) : List Tm := gout (ts.foldl gstep []) (sortW ((ts.foldl gstep []).map (·.1)))
theorem gget_mem : ∀ {A : List Tm} {w : List Int}, w ∈ A.map (·.1) → ∃ z, gget w A = some z
  | (v, y) :: r, w, h => by
    unfold gget
    by_cases e : v = w
    · rw [if_pos e]; exact ⟨_, rfl⟩
    · rw [if_neg e]
      rw [List.map_cons] at h
      exact gget_mem ((List.mem_cons.mp h).resolve_left fun q => e q.symm)
theorem gout_le (A : List Tm) : ∀ ws, (gout A ws).length ≤ ws.length
  | [] => Nat.le_refl _
  | w :: r => by
    have := gout_le A r
    unfold gout
    rw [List.length_cons]
    split
    · split
      · omega
      · rw [List.length_cons]; omega
    · omega
theorem sortW_mem (ws : List (List Int)) (w : List Int) : w ∈ sortW ws ↔ w ∈ ws := (List.mergeSort_perm ws _).mem_iff
theorem sortW_len (ws : List (List Int)) : (sortW ws).length = ws.length := (List.mergeSort_perm ws _).length_eq
theorem r_gathered {x : IX} {F : FT} {T : Vf.TP} (K : KR F x) {ts : List Tm} (hb : GB [] ts) (hl : ts.length ≤ 1000000) (ho : (gath ts).length ≤ 6000) {d : D} (hd : seqOf d = some (ts.map tmD)) : runB F (B_gathered x) [d] T = .ok (.tup ((gath ts).map tmD)) false T := by
  obtain ⟨x', y', g, gx⟩ := gath_loop (T := T) K (d := d) ts [] none none (by simp only [List.length_nil]; omega) hb
  let A := ts.foldl gstep []
  have hx : noOwned [2] ⟨[some (false, d), some (false, .dic true (kvsOf A)), x', y', none], T⟩ = true := by
    rcases gx (.inl rfl) with h | ⟨e, h⟩ <;> subst h <;> rfl
  have hA := gall_len ts []
  rw [List.length_nil] at hA
  have h6 := sort_ok A (by show (ts.foldl gstep []).length < _; omega)
  have h7 := gout_loop (F := F) (T := T) (d := d) (y := y') (fb := false) (A := A) (sortW (A.map (·.1))) (fun w hw => gget_mem ((sortW_mem _ _).mp hw))
  have hfit : fits ((gath ts).map tmD).length = true := decide_eq_true (by rw [List.length_map]; show _ ≤ 2 ^ 24; omega)
  have hb : backS [2] ⟨[some (false, d), some (false, .dic true (kvsOf A)), x', y', none], T⟩ ⟨[some (false, d), some (false, .dic true (kvsOf A)), none, y', none], T⟩ = ⟨[some (false, d), some (false, .dic true (kvsOf A)), x', y', none], T⟩ := by
    rcases gx (.inl rfl) with h | ⟨e, h⟩ <;> subst h <;> rfl
  have hc := ev_comp1 (F := F) (own := [2]) (tg := [2]) (it := .ex (.sortk (.var 1) x.key)) (s := ⟨[some (false, d), some (true, .dic true (kvsOf A)), x', y', none], T⟩) (s0 := ⟨[some (false, d), some (false, .dic true (kvsOf A)), x', y', none], T⟩) (by
    dsimp! [h6]) hx h7 hfit
  rw [hb] at hc
  have hl3 : ¬ (6000 : Int) < ((gath ts).map tmD).length := by rw [List.length_map]; omega
  refine rb_rt rfl (st_cons (s1 := ⟨[some (false, d), some (true, .dic true (kvsOf [])), none, none, none], T⟩) ?_ (st_cons (st_for (s0 := ⟨[some (false, d), some (true, .dic true (kvsOf [])), none, none, none], T⟩) (ds := ts.map tmD) ?_ g)
    (st_cons (st_set (ev_blt1 (fun _ h => by cases h) hc rfl)) (st_cons (s1 := ⟨[some (false, d), some (false, .dic true (kvsOf A)), x', y', some (false, .tup ((gath ts).map tmD))], T⟩) ?_ (st_last (s1 := ⟨[some (false, d), some (false, .dic true (kvsOf A)), x', y', none], T⟩) ?_))))) rfl
  · dsimp! [B_gathered]; rfl
  · dsimp! [hd]
  · show evS F _ ⟨[some (false, d), some (false, .dic true (kvsOf A)), x', y', some (false, .tup ((gath ts).map tmD))], T⟩ = _
    dsimp! [hl3]
  · dsimp!
end Lb
namespace Lb
open PySem PySem.Spec PyProof.Rows L2 Vf

def intB : Int → Int → Bool
  | .ofNat a, .ofNat b => Nat.beq a b
  | .negSucc a, .negSucc b => Nat.beq a b
  | _, _ => false
theorem natB_eq (m n : Nat) : Nat.beq m n = decide (m = n) := by
  by_cases h : m = n
  · subst h; rw [decide_eq_true rfl]; exact Nat.beq_refl _
  · rw [decide_eq_false h]
    cases hb : Nat.beq m n
    · rfl
    · exact (h (Nat.eq_of_beq_eq_true hb)).elim
theorem intB_eq (a b : Int) : intB a b = decide (a = b) := by
  cases a <;> cases b
  · rename_i m n
    show Nat.beq m n = _
    rw [natB_eq]
    exact decide_eq_decide.mpr ⟨fun h => by rw [h], fun h => by injection h⟩
  · exact (decide_eq_false (by intro h; cases h)).symm
  · exact (decide_eq_false (by intro h; cases h)).symm
  · rename_i m n
    show Nat.beq m n = _
    rw [natB_eq]
    exact decide_eq_decide.mpr ⟨fun h => by rw [h], fun h => by injection h⟩
def eqL : List Int → List Int → Bool
  | [], [] => true
  | x :: a, y :: b => match intB x y with
    | true => eqL a b
    | false => false
  | _, _ => false
theorem eqL_eq : ∀ a b : List Int, eqL a b = decide (a = b)
  | [], [] => rfl
  | [], _ :: _ => rfl
  | _ :: _, [] => rfl
  | x :: a, y :: b => by
    unfold eqL
    have h := intB_eq x y
    by_cases e : x = y
    · rw [decide_eq_true e] at h
      rw [h]
      show eqL a b = _
      rw [eqL_eq a b]
      simp [e]
    · rw [decide_eq_false e] at h
      rw [h]
      simp [e]
def intL : Int → Int → Bool
  | .ofNat a, .ofNat b => Nat.blt a b
  | .negSucc a, .negSucc b => Nat.blt b a
  | .negSucc _, .ofNat _ => true
  | .ofNat _, .negSucc _ => false
theorem intL_eq (a b : Int) : intL a b = decide (a < b) := by
  cases a <;> cases b
  · rename_i m n
    show Nat.blt m n = _
    by_cases h : m < n
    · rw [decide_eq_true (by show (m : Int) < (n : Int); omega)]; simpa [Nat.blt_eq] using h
    · rw [decide_eq_false (by show ¬ (m : Int) < (n : Int); omega)]
      cases hb : Nat.blt m n
      · rfl
      · exact (h (by simpa [Nat.blt_eq] using hb)).elim
  · rename_i m n
    show false = _
    exact (decide_eq_false (by show ¬ (m : Int) < Int.negSucc n; omega)).symm
  · rename_i m n
    show true = _
    exact (decide_eq_true (by show Int.negSucc m < (n : Int); omega)).symm
  · rename_i m n
    show Nat.blt n m = _
    by_cases h : n < m
    · rw [decide_eq_true (by omega)]; simpa [Nat.blt_eq] using h
    · rw [decide_eq_false (by omega)]
      cases hb : Nat.blt n m
      · rfl
      · exact (h (by simpa [Nat.blt_eq] using hb)).elim
def ltL : List Int → List Int → Bool
  | _, [] => false
  | [], _ :: _ => true
  | x :: a, y :: b => match intB x y with
    | true => ltL a b
    | false => intL x y
def ltF (a b : List Int) : Bool := match Nat.beq a.length b.length with
  | true => ltL a b
  | false => Nat.blt a.length b.length
theorem ltL_eq : ∀ a b : List Int, ltL a b = decide (a < b)
  | [], [] => rfl
  | _ :: _, [] => by simp [ltL]
  | [], _ :: _ => by simp [ltL]
  | x :: a, y :: b => by
    unfold ltL
    have h := intB_eq x y
    by_cases e : x = y
    · rw [decide_eq_true e] at h
      rw [h]
      show ltL a b = _
      rw [ltL_eq a b]
      subst e
      have : (x :: a < x :: b) ↔ a < b := by simp [List.cons_lt_cons_iff]
      simp [this]
    · rw [decide_eq_false e] at h
      rw [h]
      show intL x y = _
      rw [intL_eq]
      have : (x :: a < y :: b) ↔ x < y := by simp [List.cons_lt_cons_iff, e]
      simp [this]
theorem alike_ints' : ∀ a b : List Int, PySem.W.alikeAll (a.map PyData.int) (b.map PyData.int) = true
  | [], _ => by simp [PySem.W.alikeAll]
  | _ :: _, [] => by simp [PySem.W.alikeAll]
  | x :: a, y :: b => by
    have ih := alike_ints' a b
    show PySem.W.alikeAll (.int x :: a.map .int) (.int y :: b.map .int) = true
    unfold PySem.W.alikeAll
    rw [ih]
    simp [PySem.W.alike]
theorem eqv_ints' : ∀ a b : List Int, PyData.eqvAll (a.map PyData.int) (b.map PyData.int) = decide (a = b)
  | [], [] => rfl
  | [], _ :: _ => rfl
  | _ :: _, [] => rfl
  | x :: a, y :: b => by
    have ih := eqv_ints' a b
    show (PyData.eqv (.int x) (.int y) && PyData.eqvAll (a.map .int) (b.map .int)) = _
    rw [ih]
    show ((x == y) && _) = _
    by_cases h1 : x = y <;> by_cases h2 : a = b <;> simp [h1, h2]
theorem lt_wkey (a b : List Int) : PySem.W.dataLt (wkey a) (wkey b) = ltF a b := by
  unfold wkey
  rw [PySem.W.dataLt_pair (by simp [PySem.W.alike]) (by show PySem.W.alikeAll _ _ = true; exact alike_ints' a b), PySem.W.dataLt_int]
  have e1 : PyData.eqv (.int (a.length : Int)) (.int b.length) = decide (a.length = b.length) := by
    show (((a.length : Int)) == (b.length : Int)) = _
    by_cases h : a.length = b.length
    · simp [h]
    · have : ¬ (a.length : Int) = b.length := by omega
      simp [h, this]
  have e2 : PyData.eqv (.tuple (a.map .int)) (.tuple (b.map .int)) = decide (a = b) := eqv_ints' a b
  have e3 : PySem.W.dataLt (.tuple (a.map .int)) (.tuple (b.map .int)) = decide (a < b) := by
    rw [PySem.W.dataLt_tuple]
    exact PySem.W.dataLt_ints a b
  rw [e1, e2, e3]
  unfold ltF
  by_cases h : a.length = b.length
  · have hb : Nat.beq a.length b.length = true := by rw [h]; exact Nat.beq_refl _
    rw [hb, decide_eq_true h, if_pos rfl]
    show _ = ltL a b
    rw [ltL_eq]
    by_cases q : a = b
    · subst q; simp
    · simp [q]
  · have hb : Nat.beq a.length b.length = false := by
      cases hb : Nat.beq a.length b.length
      · rfl
      · exact (h (Nat.eq_of_beq_eq_true hb)).elim
    rw [hb, decide_eq_false h, if_neg (by decide)]
    show _ = Nat.blt a.length b.length
    by_cases q : a.length < b.length
    · have : Nat.blt a.length b.length = true := by simpa [Nat.blt_eq] using q
      rw [this]; exact decide_eq_true (by omega)
    · have : Nat.blt a.length b.length = false := by
        cases hb : Nat.blt a.length b.length
        · rfl
        · exact (q (by simpa [Nat.blt_eq] using hb)).elim
      rw [this]; exact decide_eq_false (by omega)
def leF (a b : List Int) : Bool := match ltF b a with
  | true => false
  | false => true
theorem leF_eq : PySem.W.dataLe false wkey = leF := by
  funext a b
  show (!PySem.W.dataLt (wkey b) (wkey a)) = _
  rw [lt_wkey]
  unfold leF
  cases ltF b a <;> rfl

theorem ltL_irr : ∀ a : List Int, ltL a a = false
  | [] => rfl
  | x :: a => by
    unfold ltL
    rw [intB_eq, decide_eq_true rfl]
    exact ltL_irr a
theorem ltL_step (x y : Int) (a b : List Int) : ltL (x :: a) (y :: b) = if x = y then ltL a b else decide (x < y) := by
  have h := intB_eq x y
  have q : ltL (x :: a) (y :: b) = match intB x y with
    | true => ltL a b
    | false => intL x y := rfl
  rw [q]
  by_cases e : x = y
  · rw [decide_eq_true e] at h; rw [h, if_pos e]
  · rw [decide_eq_false e] at h; rw [h, if_neg e]; exact intL_eq x y
theorem ltL_trans : ∀ {a b c : List Int}, ltL a b = true → ltL b c = true → ltL a c = true
  | _, [], _, h, _ => by cases ‹List Int› <;> simp [ltL] at h
  | _, _ :: _, [], _, h => by simp [ltL] at h
  | [], _ :: _, z :: c, _, _ => rfl
  | x :: a, y :: b, z :: c, h1, h2 => by
    rw [ltL_step] at *
    by_cases e1 : x = y
    · subst e1
      rw [if_pos rfl] at h1
      by_cases e2 : x = z
      · subst e2
        rw [if_pos rfl] at h2 ⊢
        exact ltL_trans h1 h2
      · rw [if_neg e2] at h2 ⊢
        exact h2
    · rw [if_neg e1] at h1
      have h1 := of_decide_eq_true h1
      by_cases e2 : y = z
      · subst e2
        rw [if_neg e1]
        exact decide_eq_true h1
      · rw [if_neg e2] at h2
        have h2 := of_decide_eq_true h2
        rw [if_neg (by omega)]
        exact decide_eq_true (by omega)
theorem ltL_tri : ∀ {a b : List Int}, ltL a b = false → ltL b a = false → a = b
  | [], [], _, _ => rfl
  | [], _ :: _, h, _ => by simp [ltL] at h
  | _ :: _, [], _, h => by simp [ltL] at h
  | x :: a, y :: b, h1, h2 => by
    rw [ltL_step] at *
    by_cases e1 : x = y
    · subst e1
      rw [if_pos rfl] at h1 h2
      rw [ltL_tri h1 h2]
    · rw [if_neg e1] at h1
      rw [if_neg (fun e => e1 e.symm)] at h2
      have h1 := of_decide_eq_false h1
      have h2 := of_decide_eq_false h2
      omega
theorem ltF_eq (a b : List Int) : ltF a b = if a.length = b.length then ltL a b else decide (a.length < b.length) := by
  unfold ltF
  by_cases h : a.length = b.length
  · have hb : Nat.beq a.length b.length = true := by rw [h]; exact Nat.beq_refl _
    rw [hb, if_pos h]
  · have hb : Nat.beq a.length b.length = false := by
      cases hb : Nat.beq a.length b.length
      · rfl
      · exact (h (Nat.eq_of_beq_eq_true hb)).elim
    rw [hb, if_neg h]
    show Nat.blt a.length b.length = _
    by_cases q : a.length < b.length
    · rw [decide_eq_true q]; simpa [Nat.blt_eq] using q
    · rw [decide_eq_false q]
      cases hc : Nat.blt a.length b.length
      · rfl
      · exact (q (by simpa [Nat.blt_eq] using hc)).elim
theorem ltF_irr (a : List Int) : ltF a a = false := by rw [ltF_eq, if_pos rfl]; exact ltL_irr a
theorem ltF_trans {a b c : List Int} (h1 : ltF a b = true) (h2 : ltF b c = true) : ltF a c = true := by
  rw [ltF_eq] at *
  by_cases e1 : a.length = b.length
  · rw [if_pos e1] at h1
    by_cases e2 : b.length = c.length
    · rw [if_pos e2] at h2; rw [if_pos (e1.trans e2)]; exact ltL_trans h1 h2
    · rw [if_neg e2] at h2; rw [if_neg (by omega)]; have := of_decide_eq_true h2; exact decide_eq_true (by omega)
  · rw [if_neg e1] at h1
    have h1 := of_decide_eq_true h1
    by_cases e2 : b.length = c.length
    · rw [if_neg (by omega)]; exact decide_eq_true (by omega)
    · rw [if_neg e2] at h2; have := of_decide_eq_true h2; rw [if_neg (by omega)]; exact decide_eq_true (by omega)
theorem ltF_tri {a b : List Int} (h1 : ltF a b = false) (h2 : ltF b a = false) : a = b := by
  rw [ltF_eq] at *
  by_cases e1 : a.length = b.length
  · rw [if_pos e1] at h1; rw [if_pos e1.symm] at h2; exact ltL_tri h1 h2
  · rw [if_neg e1] at h1; rw [if_neg (fun e => e1 e.symm)] at h2
    have h1 := of_decide_eq_false h1
    have h2 := of_decide_eq_false h2
    omega
abbrev Srt (l : List (List Int)) : Prop := l.Pairwise fun a b => ltF a b = true
theorem srt_ext : ∀ {l1 l2 : List (List Int)}, Srt l1 → Srt l2 → (∀ w, w ∈ l1 ↔ w ∈ l2) → l1 = l2
  | [], [], _, _, _ => rfl
  | [], a :: r, _, _, h => by have := (h a).mpr (List.mem_cons_self ..); cases this
  | a :: r, [], _, _, h => by have := (h a).mp (List.mem_cons_self ..); cases this
  | a :: r, b :: t, h1, h2, h => by
    have p1 := List.pairwise_cons.mp h1
    have p2 := List.pairwise_cons.mp h2
    have e : a = b := by
      rcases List.mem_cons.mp ((h a).mp (List.mem_cons_self ..)) with e | ha
      · exact e
      · rcases List.mem_cons.mp ((h b).mpr (List.mem_cons_self ..)) with e | hb
        · exact e.symm
        · have q1 := p2.1 a ha
          have q2 := p1.1 b hb
          have := ltF_trans q1 q2
          rw [ltF_irr] at this; cases this
    subst e
    have hr : r = t := srt_ext p1.2 p2.2 fun w => by
      constructor
      · intro hw
        rcases List.mem_cons.mp ((h w).mp (List.mem_cons_of_mem _ hw)) with e | q
        · subst e; have := p1.1 _ hw; rw [ltF_irr] at this; cases this
        · exact q
      · intro hw
        rcases List.mem_cons.mp ((h w).mpr (List.mem_cons_of_mem _ hw)) with e | q
        · subst e; have := p2.1 _ hw; rw [ltF_irr] at this; cases this
        · exact q
    rw [hr]
theorem sortW_srt {ws : List (List Int)} (hn : ws.Nodup) : Srt (sortW ws) := by
  have hp := List.pairwise_mergeSort (le := leF) (fun a b c h1 h2 => by
    have q1 : ltF b a = false := by unfold leF at h1; cases e : ltF b a <;> rw [e] at h1 <;> simp at h1 ⊢
    have q2 : ltF c b = false := by unfold leF at h2; cases e : ltF c b <;> rw [e] at h2 <;> simp at h2 ⊢
    have q3 : ltF c a = false := by
      cases e : ltF c a
      · rfl
      · by_cases hab : ltF a b = true
        · have := ltF_trans e hab; rw [q2] at this; cases this
        · have := ltF_tri (Bool.eq_false_iff.mpr hab) q1
          subst this; rw [q2] at e; cases e
    unfold leF; rw [q3]) (fun a b => by
    unfold leF
    cases e1 : ltF b a <;> cases e2 : ltF a b <;> simp
    have := ltF_trans e1 e2; rw [ltF_irr] at this; cases this) ws
  have hn2 : (sortW ws).Nodup := (List.mergeSort_perm ws _).nodup_iff.mpr hn
  have e : sortW ws = ws.mergeSort leF := by unfold sortW; rw [leF_eq]
  rw [← e] at hp
  refine (hp.and hn2).imp fun {a b} h => ?_
  obtain ⟨h1, h2⟩ := h
  cases e3 : ltF a b
  · have q1 : ltF b a = false := by unfold leF at h1; cases e : ltF b a <;> rw [e] at h1 <;> simp at h1 ⊢
    exact (h2 (ltF_tri e3 q1)).elim
  · rfl
def coef : List Tm → List Int → Rat
  | [], _ => 0
  | t :: r, w => (if t.1 = w then t.2.2 else 0) + coef r w
def val (A : List Tm) (w : List Int) : Rat := match gget w A with
  | some z => z.2
  | none => 0
def flg (A : List Tm) (w : List Int) : Bool := match gget w A with
  | some z => z.1
  | none => false
theorem gget_grep {v w : List Int} (h : v ≠ w) (z : Bool × Rat) : ∀ A, gget w (grep v z A) = gget w A
  | [] => rfl
  | (u, y) :: r => by
    have ih := gget_grep h z r
    show gget w ((if u = v then (u, z) else (u, y)) :: grep v z r) = _
    by_cases e : u = v
    · subst e
      rw [if_pos rfl]
      unfold gget
      rw [if_neg h, if_neg h]
      exact ih
    · rw [if_neg e]
      unfold gget
      rw [ih]
theorem gget_gset (v w : List Int) (z : Bool × Rat) : ∀ A, gget w (gset v z A) = if v = w then some z else gget w A
  | [] => by show (if v = w then some z else none) = _; rfl
  | (u, y) :: r => by
    have ih := gget_gset v w z r
    unfold gset
    by_cases e : u = v
    · subst e
      rw [if_pos rfl]
      by_cases e2 : u = w
      · subst e2; unfold gget; rw [if_pos rfl, if_pos rfl]
      · rw [if_neg e2]
        unfold gget
        rw [if_neg e2, if_neg e2]
        exact gget_grep e2 z r
    · rw [if_neg e]
      unfold gget
      by_cases e2 : u = w
      · subst e2; rw [if_pos rfl, if_neg (fun h => e h.symm), if_pos rfl]
      · rw [if_neg e2, ih, if_neg e2]
theorem val_gstep (A : List Tm) (t : Tm) (w : List Int) : val (gstep A t) w = val A w + if t.1 = w then t.2.2 else 0 := by
  unfold gstep
  cases e : gget t.1 A with
  | some z =>
    simp only [val, gget_gset]
    by_cases h : t.1 = w
    · subst h; rw [if_pos rfl, if_pos rfl, e]
    · rw [if_neg h, if_neg h, Rat.add_zero]
  | none =>
    simp only [val, gget_gset]
    by_cases h : t.1 = w
    · subst h; rw [if_pos rfl, if_pos rfl, e, Rat.zero_add]
    · rw [if_neg h, if_neg h, Rat.add_zero]
theorem val_fold : ∀ (ts A : List Tm) (w : List Int), val (ts.foldl gstep A) w = val A w + coef ts w
  | [], A, w => (Rat.add_zero _).symm
  | t :: r, A, w => by
    rw [List.foldl_cons, val_fold r, val_gstep, Rat.add_assoc]
    rfl
theorem grep_keys (v : List Int) (z : Bool × Rat) (A : List Tm) : (grep v z A).map (·.1) = A.map (·.1) := by
  unfold grep
  rw [List.map_map]
  refine List.map_congr_left fun p _ => ?_
  show (if p.1 = v then (p.1, z) else p).1 = p.1
  split <;> rfl
theorem gset_keys (v : List Int) (z : Bool × Rat) : ∀ A : List Tm, (gset v z A).map (·.1) = if v ∈ A.map (·.1) then A.map (·.1) else A.map (·.1) ++ [v]
  | [] => by simp [gset]
  | (u, y) :: r => by
    have ih := gset_keys v z r
    unfold gset
    by_cases e : u = v
    · subst e
      rw [if_pos rfl, if_pos (by simp)]
      show u :: (grep u z r).map (·.1) = _
      rw [grep_keys]; rfl
    · rw [if_neg e]
      show u :: (gset v z r).map (·.1) = _
      rw [ih]
      by_cases h : v ∈ r.map (·.1)
      · rw [if_pos h, if_pos (by rw [List.map_cons]; exact List.mem_cons_of_mem _ h)]; rfl
      · rw [if_neg h, if_neg (by rw [List.map_cons, List.mem_cons]; exact fun q => q.elim (fun q => e q.symm) h)]; rfl
theorem gstep_keys (A : List Tm) (t : Tm) : (gstep A t).map (·.1) = if t.1 ∈ A.map (·.1) then A.map (·.1) else A.map (·.1) ++ [t.1] := by
  unfold gstep
  split <;> exact gset_keys _ _ _
theorem fold_keys : ∀ (ts A : List Tm), (A.map (·.1)).Nodup → ((ts.foldl gstep A).map (·.1)).Nodup ∧ ∀ w, w ∈ (ts.foldl gstep A).map (·.1) → w ∈ A.map (·.1) ∨ w ∈ ts.map (·.1)
  | [], A, h => ⟨h, fun w hw => .inl hw⟩
  | t :: r, A, h => by
    have hk := gstep_keys A t
    have hn : ((gstep A t).map (·.1)).Nodup := by
      rw [hk]
      split
      · exact h
      · rename_i q
        exact List.nodup_append.mpr ⟨h, by simp, fun a ha b hb => by
          rw [List.mem_singleton] at hb
          subst hb
          exact fun e => q (e ▸ ha)⟩
    obtain ⟨h1, h2⟩ := fold_keys r (gstep A t) hn
    refine ⟨h1, fun w hw => ?_⟩
    rcases h2 w hw with q | q
    · rw [hk] at q
      split at q
      · exact .inl q
      · rcases List.mem_append.mp q with q | q
        · exact .inl q
        · rw [List.mem_singleton] at q
          subst q
          exact .inr (by simp)
    · exact .inr (by rw [List.map_cons]; exact List.mem_cons_of_mem _ q)
def canon (W : List (List Int)) (f : List Int → Rat) (fl : List Int → Bool) : List Tm := (W.filter fun w => decide (f w ≠ 0)).map fun w => (w, fl w, f w)
theorem gout_eq (A : List Tm) : ∀ ws : List (List Int), (∀ w ∈ ws, ∃ z, gget w A = some z) → gout A ws = canon ws (val A) (flg A)
  | [], _ => rfl
  | w :: r, h => by
    obtain ⟨z, e⟩ := h w (List.mem_cons_self ..)
    have ih := gout_eq A r (fun v hv => h v (List.mem_cons_of_mem _ hv))
    have hv : val A w = z.2 := by unfold val; rw [e]
    have hf : flg A w = z.1 := by unfold flg; rw [e]
    unfold gout
    rw [e]
    unfold canon at ih ⊢
    by_cases hz : z.2 = 0
    · simp only [if_pos hz]
      rw [List.filter_cons_of_neg (by rw [hv, hz]; simp)]
      exact ih
    · simp only [if_neg hz]
      rw [List.filter_cons_of_pos (by rw [hv]; simpa using hz), List.map_cons, hv, hf, ih]
theorem gath_canon {ts : List Tm} {W : List (List Int)} (hW : Srt W) (hk : ∀ t ∈ ts, t.1 ∈ W) : ∃ fl, gath ts = canon W (coef ts) fl := by
  obtain ⟨h1, h2⟩ := fold_keys ts [] (by simp)
  refine ⟨flg (ts.foldl gstep []), ?_⟩
  have hval : ∀ w, val (ts.foldl gstep []) w = coef ts w := fun w => by rw [val_fold]; exact Rat.zero_add _
  unfold gath
  rw [gout_eq _ _ (fun w hw => gget_mem ((sortW_mem _ _).mp hw))]
  unfold canon
  have e : (sortW ((ts.foldl gstep []).map (·.1))).filter (fun w => decide (val (ts.foldl gstep []) w ≠ 0)) = W.filter fun w => decide (coef ts w ≠ 0) := by
    refine srt_ext ((sortW_srt h1).filter _) (hW.filter _) fun w => ?_
    rw [List.mem_filter, List.mem_filter, hval, sortW_mem]
    refine ⟨fun ⟨q1, q2⟩ => ⟨?_, q2⟩, fun ⟨q1, q2⟩ => ⟨?_, q2⟩⟩
    · rcases h2 w q1 with q | q
      · simp at q
      · obtain ⟨t, ht, rfl⟩ := List.mem_map.mp q
        exact hk t ht
    · have q3 : coef ts w ≠ 0 := by simpa using q2
      have q4 := hval w
      cases e : gget w (ts.foldl gstep []) with
      | none => unfold val at q4; rw [e] at q4; exact (q3 q4.symm).elim
      | some z =>
        have : ∀ (A : List Tm) (z : Bool × Rat), gget w A = some z → w ∈ A.map (·.1) := by
          intro A
          induction A with
          | nil => intro z h; cases h
          | cons p r ih =>
            intro z h
            obtain ⟨u, y⟩ := p
            unfold gget at h
            by_cases e : u = w
            · subst e; simp
            · rw [if_neg e] at h; rw [List.map_cons]; exact List.mem_cons_of_mem _ (ih z h)
        exact this _ z e
  rw [e]
  refine List.map_congr_left fun w _ => ?_
  rw [hval]
theorem GB_nc {N B : Nat} (h0 : N ≠ 0) (hN : N < 2 ^ 1900) : ∀ (ts : List Tm) (C : Nat) (A : List Tm), (∀ w y, gget w A = some y → Nc N C y.2) → (∀ t ∈ ts, Nc N B t.2.2) → C + (ts.length + 1) * B < 2 ^ 1900 → GB A ts
  | [], C, A, _, _, _ => trivial
  | t :: r, C, A, hA, ht, hl => by
    have ht1 := ht t (List.mem_cons_self ..)
    rw [List.length_cons, Nat.succ_mul (r.length + 1)] at hl
    refine ⟨fun y hy => ⟨(hA _ y hy).bd h0 hN (by omega), ht1.bd h0 hN (by omega)⟩, GB_nc h0 hN r (C + B) _ (fun w y hy => ?_) (fun u hu => ht u (List.mem_cons_of_mem _ hu)) (by omega)⟩
    unfold gstep at hy
    cases e : gget t.1 A with
    | some z =>
      rw [e] at hy
      simp only [gget_gset] at hy
      by_cases h : t.1 = w
      · rw [if_pos h] at hy; cases hy; exact (hA _ _ e).add h0 ht1
      · rw [if_neg h] at hy; exact (hA _ _ hy).mono (by omega)
    | none =>
      rw [e] at hy
      simp only [gget_gset] at hy
      by_cases h : t.1 = w
      · rw [if_pos h] at hy; cases hy; exact ht1.mono (by omega)
      · rw [if_neg h] at hy; exact (hA _ _ hy).mono (by omega)
theorem canon_len (W : List (List Int)) (f : List Int → Rat) (fl : List Int → Bool) : (canon W f fl).length ≤ W.length := by
  unfold canon
  rw [List.length_map]
  exact List.length_filter_le ..
theorem r_gathered_w {x : IX} {F : FT} {T : Vf.TP} (K : KR F x) {ts : List Tm} {W : List (List Int)} {N B : Nat} (hW : Srt W) (hl : W.length ≤ 6000) (hk : ∀ t ∈ ts, t.1 ∈ W) (h0 : N ≠ 0) (hN : N < 2 ^ 1900) (ht : ∀ t ∈ ts, Nc N B t.2.2) (hB : (ts.length + 1) * B < 2 ^ 1900) (hl2 : ts.length ≤ 1000000)
    {d : D} (hd : seqOf d = some (ts.map tmD)) : ∃ fl, runB F (B_gathered x) [d] T = .ok (.tup ((canon W (coef ts) fl).map tmD)) false T := by
  obtain ⟨fl, e⟩ := gath_canon hW hk
  refine ⟨fl, ?_⟩
  rw [← e]
  exact r_gathered K (GB_nc h0 hN ts 0 [] (fun w y h => by cases h) ht (by omega)) hl2 (by rw [e]; have := canon_len W (coef ts) fl; omega) hd
end Lb
namespace Lb
open PySem PySem.Spec PyProof.Rows L2 Vf

def tms (ts : List Tm) : List D := ts.map tmD
def sD (ts : List Tm) : D := .tup (tms ts)
def cinT (t : Tm) (d : Nat) : List Tm → List Tm
  | [] => []
  | u :: us => if t.1.length + u.1.length ≤ d then (t.1 ++ u.1, false, t.2.2 * u.2.2) :: cinT t d us else cinT t d us
def cutT (us : List Tm) (d : Nat) : List Tm → List Tm
  | [] => []
  | t :: ts => cinT t d us ++ cutT us d ts
theorem cinT_len (t : Tm) (d : Nat) : ∀ us, (cinT t d us).length ≤ us.length
  | [] => Nat.le_refl _
  | u :: us => by
    have := cinT_len t d us
    unfold cinT
    split
    · simp only [List.length_cons]; omega
    · simp only [List.length_cons]; omega
theorem cutT_len (us : List Tm) (d : Nat) : ∀ ts, (cutT us d ts).length ≤ ts.length * us.length
  | [] => by simp [cutT]
  | t :: ts => by
    have h1 := cinT_len t d us
    have h2 := cutT_len us d ts
    unfold cutT
    rw [List.length_append, List.length_cons, Nat.succ_mul]
    omega
theorem cinT_mem {t v : Tm} {d : Nat} : ∀ {us : List Tm}, v ∈ cinT t d us → ∃ u ∈ us, t.1.length + u.1.length ≤ d ∧ v = (t.1 ++ u.1, false, t.2.2 * u.2.2)
  | [], h => by simp [cinT] at h
  | u :: us, h => by
    unfold cinT at h
    split at h
    · rename_i hc
      rcases List.mem_cons.mp h with e | h
      · exact ⟨u, List.mem_cons_self .., hc, e⟩
      · obtain ⟨w, hw, r⟩ := cinT_mem h; exact ⟨w, List.mem_cons_of_mem _ hw, r⟩
    · obtain ⟨w, hw, r⟩ := cinT_mem h; exact ⟨w, List.mem_cons_of_mem _ hw, r⟩
theorem cutT_mem {us : List Tm} {d : Nat} {v : Tm} : ∀ {ts : List Tm}, v ∈ cutT us d ts → ∃ t ∈ ts, ∃ u ∈ us, t.1.length + u.1.length ≤ d ∧ v = (t.1 ++ u.1, false, t.2.2 * u.2.2)
  | [], h => by simp [cutT] at h
  | t :: ts, h => by
    unfold cutT at h
    rcases List.mem_append.mp h with h | h
    · obtain ⟨u, hu, r⟩ := cinT_mem h; exact ⟨t, List.mem_cons_self .., u, hu, r⟩
    · obtain ⟨w, hw, r⟩ := cutT_mem h; exact ⟨w, List.mem_cons_of_mem _ hw, r⟩
abbrev CB (i : Nat) : Sxs := .cons (.ite (.prim (.cmp .LtE) (.cons (.prim (.bin .Add) (.cons (.prim (.blt "len") (.cons (.var 4) .nil)) (.cons (.prim (.blt "len") (.cons (.var 6) .nil)) .nil))) (.cons (.var 2) .nil))) (.cons (.app 3 (.tup (.cons (.prim (.bin .Add) (.cons (.var 4) (.cons (.var 6) .nil))) (.cons (.call i (.cons (.var 5) (.cons (.var 7) .nil))) .nil)))) .nil) .nil) .nil
section
variable {x : IX} {F : FT} {T : Vf.TP} (K : KR F x)
include K
theorem cin_loop {a b : Option (Bool × D)} {d : Nat} (hd : d ≤ 1000) {t : Tm} (ht : Bd t.2.2) : ∀ (us acc : List Tm) (f1 : Bool) (y z : Option (Bool × D)), (∀ u ∈ us, Bd u.2.2) → acc.length + us.length < 16000000 →
    ∃ f1' y' z', forL [6, 7] (evSs F (CB x.rmul)) (tms us) ⟨[a, b, some (false, .int d), some (true, .lst (tms acc)), some (false, wordD t.1), some (f1, rD t.2.1 t.2.2), y, z], T⟩ = .ok .nx ⟨[a, b, some (false, .int d), some (true, .lst (tms (acc ++ cinT t d us))), some (false, wordD t.1), some (f1', rD t.2.1 t.2.2), y', z'], T⟩
  | [], acc, f1, y, z, _, _ => by rw [show cinT t d [] = [] from rfl, List.append_nil]; exact ⟨f1, y, z, rfl⟩
  | u :: us, acc, f1, y, z, hu, hl => by
    rw [List.length_cons] at hl
    have l1 : (t.1.map D.int).length = t.1.length := List.length_map ..
    have l2 : (u.1.map D.int).length = u.1.length := List.length_map ..
    show ∃ f1' y' z', forL [6, 7] _ (tmD u :: tms us) _ = _
    unfold cinT
    by_cases hc : t.1.length + u.1.length ≤ d
    · rw [if_pos hc]
      obtain ⟨f1', y', z', ih⟩ := cin_loop hd (a := a) (b := b) ht us (acc ++ [(t.1 ++ u.1, false, t.2.2 * u.2.2)]) false (some (false, wordD u.1)) (some (false, rD u.2.1 u.2.2)) (fun v hv => hu v (List.mem_cons_of_mem _ hv)) (by rw [List.length_append]; simp; omega)
      refine ⟨f1', y', z', ?_⟩
      have g1 := K.mul T _ _ t.2.1 u.2.1 ht (hu u (List.mem_cons_self ..))
      have hc' : (t.1.length : Int) + (u.1.length : Int) ≤ (d : Int) := by omega
      have ef : fits (t.1.length + u.1.length) = true := decide_eq_true (by show _ ≤ 2 ^ 24; omega)
      have ef2 : fits 2 = true := by decide
      have es : (tms acc).length < sizeLine := by unfold tms; rw [List.length_map]; show _ < 2 ^ 24; omega
      have em : tms acc ++ [D.tup [.tup (t.1.map .int ++ u.1.map .int), rD false (t.2.2 * u.2.2)]] = tms (acc ++ [(t.1 ++ u.1, false, t.2.2 * u.2.2)]) := by
        unfold tms
        rw [List.map_append]
        show _ = _ ++ [tmD _]
        unfold tmD wordD
        rw [List.map_append]
      refine for_cons (s1 := ⟨[a, b, some (false, .int d), some (true, .lst (tms acc)), some (false, wordD t.1), some (f1, rD t.2.1 t.2.2), some (false, wordD u.1), some (false, rD u.2.1 u.2.2)], T⟩) (s2 := ⟨[a, b, some (false, .int d), some (true, .lst (tms (acc ++ [(t.1 ++ u.1, false, t.2.2 * u.2.2)]))), some (false, wordD t.1), some (false, rD t.2.1 t.2.2), some (false, wordD u.1), some (false, rD u.2.1 u.2.2)], T⟩) ?_ ?_ (by rw [List.append_assoc] at ih; exact ih)
      · unfold tmD; dsimp!
      · unfold wordD
        dsimp! [l1, l2, hc', ef, ef2, g1, es, em]
    · rw [if_neg hc]
      obtain ⟨f1', y', z', ih⟩ := cin_loop hd (a := a) (b := b) ht us acc f1 (some (false, wordD u.1)) (some (false, rD u.2.1 u.2.2)) (fun v hv => hu v (List.mem_cons_of_mem _ hv)) (by omega)
      refine ⟨f1', y', z', ?_⟩
      have hc' : ¬ (t.1.length : Int) + (u.1.length : Int) ≤ (d : Int) := by omega
      refine for_cons (s1 := ⟨[a, b, some (false, .int d), some (true, .lst (tms acc)), some (false, wordD t.1), some (f1, rD t.2.1 t.2.2), some (false, wordD u.1), some (false, rD u.2.1 u.2.2)], T⟩) (s2 := ⟨[a, b, some (false, .int d), some (true, .lst (tms acc)), some (false, wordD t.1), some (f1, rD t.2.1 t.2.2), some (false, wordD u.1), some (false, rD u.2.1 u.2.2)], T⟩) ?_ ?_ ih
      · unfold tmD; dsimp!
      · unfold wordD
        dsimp! [l1, l2, hc']
theorem cut_loop {a : Option (Bool × D)} {us : List Tm} {d : Nat} (hd : d ≤ 1000) (hu : ∀ u ∈ us, Bd u.2.2) : ∀ (ts acc : List Tm) (fb : Bool) (y z u v : Option (Bool × D)), (∀ t ∈ ts, Bd t.2.2) → acc.length + ts.length * us.length < 16000000 →
    ∃ fb' y' z' u' v', forL [4, 5] (evSs F (.cons (.for_ [6, 7] (.ex (.var 1)) (CB x.rmul)) .nil)) (tms ts) ⟨[a, some (fb, .tup (tms us)), some (false, .int d), some (true, .lst (tms acc)), y, z, u, v], T⟩ = .ok .nx ⟨[a, some (fb', .tup (tms us)), some (false, .int d), some (true, .lst (tms (acc ++ cutT us d ts))), y', z', u', v'], T⟩
  | [], acc, fb, y, z, u, v, _, _ => by rw [show cutT us d [] = [] from rfl, List.append_nil]; exact ⟨fb, y, z, u, v, rfl⟩
  | t :: ts, acc, fb, y, z, u, v, ht, hl => by
    have hp := cinT_len t d us
    rw [List.length_cons, Nat.succ_mul] at hl
    obtain ⟨f1', z1, w1, g⟩ := cin_loop K (T := T) hd (a := a) (b := some (false, .tup (tms us))) (ht t (List.mem_cons_self ..)) us acc false u v hu (by omega)
    obtain ⟨fb', y', z', u', v', ih⟩ := cut_loop hd hu (a := a) ts (acc ++ cinT t d us) false (some (false, wordD t.1)) (some (f1', rD t.2.1 t.2.2)) z1 w1 (fun w hw => ht w (List.mem_cons_of_mem _ hw)) (by rw [List.length_append]; omega)
    refine ⟨fb', y', z', u', v', ?_⟩
    show forL [4, 5] _ (tmD t :: tms ts) _ = _
    refine for_cons (s1 := ⟨[a, some (fb, .tup (tms us)), some (false, .int d), some (true, .lst (tms acc)), some (false, wordD t.1), some (false, rD t.2.1 t.2.2), u, v], T⟩) ?_ (st_cons (st_for (s0 := ⟨[a, some (false, .tup (tms us)), some (false, .int d), some (true, .lst (tms acc)), some (false, wordD t.1), some (false, rD t.2.1 t.2.2), u, v], T⟩) ?_ g) st_end) (by rw [List.append_assoc] at ih; exact ih)
    · unfold tmD; dsimp!
    · dsimp!
theorem r_cut {ts us : List Tm} {d : Nat} {o : D} (hd : d ≤ 1000) (ht : ∀ t ∈ ts, Bd t.2.2) (hu : ∀ u ∈ us, Bd u.2.2) (hl : ts.length * us.length ≤ 1000000) (h13 : F x.gathered [.lst (tms (cutT us d ts))] T = .ok o false T) : runB F (B_cut_product x) [sD ts, sD us, .int d] T = .ok o false T := by
  obtain ⟨fb', y', z', u', v', g⟩ := cut_loop K (T := T) hd hu (a := some (false, .tup (tms ts))) ts [] false none none none none ht (by simp; omega)
  rw [List.nil_append] at g
  have ef : fits 0 = true := by decide
  refine rb_rt rfl (st_cons (s1 := ⟨[some (false, .tup (tms ts)), some (false, .tup (tms us)), some (false, .int d), some (true, .lst (tms [])), none, none, none, none], T⟩) ?_ (st_cons (st_for (s0 := ⟨[some (false, .tup (tms ts)), some (false, .tup (tms us)), some (false, .int d), some (true, .lst (tms [])), none, none, none, none], T⟩) ?_ g) (st_last (s1 := ⟨[some (false, .tup (tms ts)), some (fb', .tup (tms us)), some (false, .int d), some (false, .lst (tms (cutT us d ts))), y', z', u', v'], T⟩) ?_))) rfl
  · unfold sD; dsimp! [B_cut_product, ef]
    rfl
  · dsimp!
  · dsimp! [h13]
def scT (c : Rat) (ts : List Tm) : List Tm := ts.map fun t => (t.1, false, c * t.2.2)
theorem sc_comp {k : Bool} {c : Rat} (hc : Bd c) {b : Option (Bool × D)} : ∀ (ts : List Tm) (f0 : Bool), (∀ t ∈ ts, Bd t.2.2) →
    ∃ f0', compL [2, 3] [2, 3] (Vf.ret true) (evE F (.tup (.cons (.var 2) (.cons (.call x.rmul (.cons (.var 0) (.cons (.var 3) .nil))) .nil)))) (tms ts) ⟨[some (f0, rD k c), b, none, none], T⟩ = .ok (tms (scT c ts)) ⟨[some (f0', rD k c), b, none, none], T⟩
  | [], f0, _ => ⟨f0, rfl⟩
  | t :: r, f0, h => by
    obtain ⟨f0', ih⟩ := sc_comp hc r false (fun u hu => h u (List.mem_cons_of_mem _ hu))
    have g := K.mul T c t.2.2 k t.2.1 hc (h t (List.mem_cons_self ..))
    have ef : fits 2 = true := by decide
    refine ⟨f0', ?_⟩
    show compL _ _ _ _ (tmD t :: tms r) _ = .ok (tmD (t.1, false, c * t.2.2) :: tms (scT c r)) _
    refine comp_yes (x := (tmD (t.1, false, c * t.2.2), false)) (s1 := ⟨[some (f0, rD k c), b, some (false, wordD t.1), some (false, rD t.2.1 t.2.2)], T⟩) (s2 := ⟨[some (f0, rD k c), b, some (false, wordD t.1), some (false, rD t.2.1 t.2.2)], T⟩) (s3 := ⟨[some (false, rD k c), b, some (false, wordD t.1), some (false, rD t.2.1 t.2.2)], T⟩) ?_ rfl ?_ ih
    · unfold tmD; dsimp!
    · dsimp! [g, ef, tmD]
theorem r_sscaled {k : Bool} {c : Rat} (hc : Bd c) (h0 : c ≠ 0) {ts : List Tm} (ht : ∀ t ∈ ts, Bd t.2.2) (hl : ts.length ≤ 1000000) : runB F (B_sscaled x) [rD k c, sD ts] T = .ok (sD (scT c ts)) false T := by
  obtain ⟨f0', g⟩ := sc_comp K (T := T) (k := k) hc (b := some (false, .tup (tms ts))) ts false ht
  have hz := eqZ k c
  rw [decide_eq_false h0] at hz
  have hfit : fits (tms (scT c ts)).length = true := decide_eq_true (by unfold tms scT; rw [List.length_map, List.length_map]; show _ ≤ 2 ^ 24; omega)
  have hcm := ev_comp0 (F := F) (own := [2, 3]) (tg := [2, 3]) (it := .ex (.var 1)) (s := ⟨[some (false, rD k c), some (false, .tup (tms ts)), none, none], T⟩) (s0 := ⟨[some (false, rD k c), some (false, .tup (tms ts)), none, none], T⟩) (by dsimp!) rfl g hfit
  have hb := ev_blt1 (F := F) (p := .blt "tuple") (fun _ h => by cases h) hcm (r := (sD (scT c ts), false)) rfl
  refine rb_rt rfl (st_cons (s1 := ⟨[some (false, rD k c), some (false, .tup (tms ts)), none, none], T⟩) ?_ (st_last (st_ret (fun _ h => by cases h) hb))) rfl
  unfold sD
  dsimp! [B_sscaled, hz]
omit K in
theorem tms_app (a b : List Tm) : tms a ++ tms b = tms (a ++ b) := by unfold tms; rw [List.map_append]
omit K in
theorem r_sadd {ts us : List Tm} {o : D} (hl : ts.length + us.length ≤ 1000000) (h : F x.gathered [sD (ts ++ us)] T = .ok o false T) : runB F (B_sadd x) [sD ts, sD us] T = .ok o false T := by
  have ef : fits ((tms ts).length + (tms us).length) = true := decide_eq_true (by unfold tms; rw [List.length_map, List.length_map]; show _ ≤ 2 ^ 24; omega)
  unfold sD at h
  refine rb_rt rfl (st_last (s1 := ⟨[some (false, sD ts), some (false, sD us)], T⟩) ?_) rfl
  unfold sD
  dsimp! [B_sadd, ef, tms_app, h]
omit K in
theorem r_sminus {ts us vs : List Tm} {o : D} (h1 : F x.sscaled [rD false (-1), sD us] T = .ok (sD vs) false T) (hl : ts.length + vs.length ≤ 1000000) (h : F x.gathered [sD (ts ++ vs)] T = .ok o false T) : runB F (B_sminus x) [sD ts, sD us] T = .ok o false T := by
  have ef : fits ((tms ts).length + (tms vs).length) = true := decide_eq_true (by unfold tms; rw [List.length_map, List.length_map]; show _ ≤ 2 ^ 24; omega)
  have ef2 : fits 2 = true := by decide
  have h1' : F x.sscaled [.tup [.int (-1), .int 1], .tup (tms us)] T = .ok (.tup (tms vs)) false T := h1
  unfold sD at h
  refine rb_rt rfl (st_last (s1 := ⟨[some (false, sD ts), some (false, sD us)], T⟩) ?_) rfl
  unfold sD
  dsimp! [B_sminus, ef, ef2, tms_app, h1', h]
end
end Lb
namespace Lb
open PySem PySem.Spec PyProof.Rows L2 Vf

def iD (w : List Int) : List D := w.map .int
theorem ints_iD : ∀ w : List Int, intsD (iD w) = some w
  | [] => rfl
  | a :: r => by
    have h := ints_iD r
    show intsD (.int a :: iD r) = _
    unfold intsD
    rw [h]
    rfl
theorem ok_iD : ∀ (w : List Int) (n : Nat), okDs n (iD w) = true
  | [], n => by unfold iD okDs; rfl
  | a :: r, n => by
    have h := ok_iD r n
    show okDs n (.int a :: iD r) = true
    unfold okDs okD
    rw [h]
    rfl
theorem bls_rep (b : Bool) : ∀ n, blsD (List.replicate n (.bl b)) = some (List.replicate n b)
  | 0 => rfl
  | n + 1 => by
    have h := bls_rep b n
    rw [List.replicate_succ, List.replicate_succ]
    unfold blsD
    rw [h]
    rfl
theorem all_rep : ∀ n, (List.replicate n true).all id = true
  | 0 => rfl
  | n + 1 => by rw [List.replicate_succ]; exact all_rep n
theorem any_rep : ∀ n, (List.replicate n false).any id = false
  | 0 => rfl
  | n + 1 => by rw [List.replicate_succ]; exact any_rep n
theorem pds_iD : ∀ w : List Int, pds (iD w) = w.map .int
  | [] => rfl
  | a :: r => by show PyData.int a :: pds (iD r) = _; rw [pds_iD r]; rfl
theorem eq_words (a b : List Int) : Vf.eqD (wordD a) (wordD b) = some (decide (a = b)) := by
  have hk : (okD 60 (wordD a) && okD 60 (wordD b)) = true := by
    have h1 := ok_iD a 59
    have h2 := ok_iD b 59
    show (okDs 59 (iD a) && okDs 59 (iD b)) = true
    rw [h1, h2]; rfl
  have e : Vf.eqD (wordD a) (wordD b) = if okD 60 (wordD a) && okD 60 (wordD b) then some (PyData.eqv (pd (wordD a)) (pd (wordD b))) else none := rfl
  rw [e, if_pos hk]
  refine congrArg some ?_
  show PyData.eqvAll (pds (iD a)) (pds (iD b)) = _
  rw [pds_iD, pds_iD]
  exact eqv_ints' a b
def natK (w : List Int) : List Tm → Bool × Rat
  | [] => (true, 0)
  | t :: r => if t.1 = w then t.2 else natK w r
theorem nat_loop {F : FT} {T : Vf.TP} {a : Option (Bool × D)} {w : List Int} : ∀ (ts : List Tm) (y z : Option (Bool × D)), ∃ s', (forL [2, 3] (evSs F (.cons (.ite (.prim (.cmp .Eq) (.cons (.var 2) (.cons (.var 1) .nil))) (.cons (.ret (.var 3)) .nil) .nil) .nil)) (tms ts) ⟨[a, some (false, wordD w), y, z], T⟩ = .ok (.rt (rD (natK w ts).1 (natK w ts).2) false) s' ∨
    (natK w ts = (true, 0) ∧ forL [2, 3] (evSs F (.cons (.ite (.prim (.cmp .Eq) (.cons (.var 2) (.cons (.var 1) .nil))) (.cons (.ret (.var 3)) .nil) .nil) .nil)) (tms ts) ⟨[a, some (false, wordD w), y, z], T⟩ = .ok .nx s')) ∧ s'.T = T
  | [], y, z => ⟨_, .inr ⟨rfl, rfl⟩, rfl⟩
  | t :: r, y, z => by
    have hb : bindT [2, 3] (tmD t) ⟨[a, some (false, wordD w), y, z], T⟩ = .ok () ⟨[a, some (false, wordD w), some (false, wordD t.1), some (false, rD t.2.1 t.2.2)], T⟩ := by unfold tmD; dsimp!
    have he := eq_words t.1 w
    by_cases h : t.1 = w
    · rw [decide_eq_true h] at he
      refine ⟨⟨[a, some (false, wordD w), some (false, wordD t.1), none], T⟩, .inl ?_, rfl⟩
      show bnd _ _ _ = _
      rw [u_bnd, hb]
      unfold natK
      rw [if_pos h]
      dsimp! [he]
    · rw [decide_eq_false h] at he
      obtain ⟨s', h1, h2⟩ := nat_loop (F := F) (T := T) (a := a) (w := w) r (some (false, wordD t.1)) (some (false, rD t.2.1 t.2.2))
      have hstep : forL [2, 3] (evSs F (.cons (.ite (.prim (.cmp .Eq) (.cons (.var 2) (.cons (.var 1) .nil))) (.cons (.ret (.var 3)) .nil) .nil) .nil)) (tms (t :: r)) ⟨[a, some (false, wordD w), y, z], T⟩ = forL [2, 3] (evSs F (.cons (.ite (.prim (.cmp .Eq) (.cons (.var 2) (.cons (.var 1) .nil))) (.cons (.ret (.var 3)) .nil) .nil) .nil)) (tms r) ⟨[a, some (false, wordD w), some (false, wordD t.1), some (false, rD t.2.1 t.2.2)], T⟩ := by
        show bnd _ _ _ = _
        rw [u_bnd, hb]
        show bnd _ _ _ = _
        have hi : evSs F (.cons (.ite (.prim (.cmp .Eq) (.cons (.var 2) (.cons (.var 1) .nil))) (.cons (.ret (.var 3)) .nil) .nil) .nil) ⟨[a, some (false, wordD w), some (false, wordD t.1), some (false, rD t.2.1 t.2.2)], T⟩ = .ok .nx ⟨[a, some (false, wordD w), some (false, wordD t.1), some (false, rD t.2.1 t.2.2)], T⟩ := by dsimp! [he]
        rw [u_bnd, hi]
        rfl
      have hn : natK w (t :: r) = natK w r := by show (if t.1 = w then _ else _) = _; rw [if_neg h]
      rw [hstep, hn]
      exact ⟨s', h1, h2⟩
theorem r_numat {x : IX} {F : FT} {T : Vf.TP} {ts : List Tm} {w : List Int} : runB F (B_number_at x) [sD ts, wordD w] T = .ok (rD (natK w ts).1 (natK w ts).2) false T := by
  obtain ⟨s', h | ⟨h0, h⟩, hT⟩ := nat_loop (F := F) (T := T) (a := some (false, .tup (tms ts))) (w := w) ts none none
  · exact rb_rt rfl (st_last (st_for (s0 := ⟨[some (false, .tup (tms ts)), some (false, wordD w), none, none], T⟩) (by unfold sD; dsimp! [B_number_at]) h)) hT
  · rw [h0]
    refine rb_rt rfl (st_cons (st_for (s0 := ⟨[some (false, .tup (tms ts)), some (false, wordD w), none, none], T⟩) (by unfold sD; dsimp! [B_number_at]) h) (st_last (s1 := s') ?_)) hT
    dsimp!
    rfl
section
variable {x : IX} {F : FT} {T : Vf.TP}
def WOk (w : List Int) : Prop := (∀ y ∈ w, 0 ≤ y ∧ y < 9) ∧ w.length ≤ 60
theorem isw_comp {d : D} (h0 : ∀ i : Int, F x.is_integer [.int i] T = .ok (.bl true) false T) : ∀ w : List Int, (∀ y ∈ w, 0 ≤ y ∧ y < 9) →
    compL [1] [1] (Vf.ret true) (evE F (.and (.call x.is_integer (.cons (.var 1) .nil)) (.and (.prim (.cmp .LtE) (.cons (.cst (.int (0))) (.cons (.var 1) .nil))) (.prim (.cmp .Lt) (.cons (.var 1) (.cons (.glo "MOST_LETTERS" (.int (9))) .nil)))))) (iD w) ⟨[some (false, d), none], T⟩ = .ok (List.replicate w.length (.bl true)) ⟨[some (false, d), none], T⟩
  | [], _ => rfl
  | y :: r, h => by
    obtain ⟨h1, h2⟩ := h y (List.mem_cons_self ..)
    have ih := isw_comp (d := d) h0 r (fun z hz => h z (List.mem_cons_of_mem _ hz))
    show compL _ _ _ _ (.int y :: iD r) _ = .ok (List.replicate (r.length + 1) _) _
    rw [List.replicate_succ]
    refine comp_yes (x := (.bl true, false)) (s1 := ⟨[some (false, d), some (false, .int y)], T⟩) (s2 := ⟨[some (false, d), some (false, .int y)], T⟩) (s3 := ⟨[some (false, d), some (false, .int y)], T⟩) ?_ rfl ?_ ih
    · dsimp!
    · dsimp! [h0, h1, h2]
theorem r_isword (h0 : ∀ i : Int, F x.is_integer [.int i] T = .ok (.bl true) false T) {w : List Int} (h : WOk w) : runB F (B_is_word x) [wordD w] T = .ok (.bl true) false T := by
  obtain ⟨h, hl⟩ := h
  have hc := ev_comp0 (F := F) (own := [1]) (tg := [1]) (it := .ex (.var 0)) (s := ⟨[some (false, wordD w), none], T⟩) (s0 := ⟨[some (false, wordD w), none], T⟩) (ds := iD w) (by unfold wordD iD; dsimp!) rfl (isw_comp h0 w h) (decide_eq_true (by rw [List.length_replicate]; show _ ≤ 2 ^ 24; omega))
  have hb := ev_blt1 (F := F) (p := .blt "all") (fun _ h => by cases h) hc (r := (.bl true, false)) (by
    show (blsD _).map _ = _
    rw [bls_rep]
    show some (D.bl (List.all _ id), false) = _
    rw [all_rep])
  have e1 : ¬ (60 : Int) < (w.map D.int).length := by rw [List.length_map]; omega
  refine rb_rt rfl (st_cons (s1 := ⟨[some (false, wordD w), none], T⟩) ?_ (st_last (st_ret (fun _ h => by cases h) hb))) rfl
  unfold wordD
  dsimp! [B_is_word, e1]
def keyW (w : List Int) : D := .tup [.int (w.length : Nat), wordD w]
theorem r_key {w : List Int} : runB F (B_key x) [wordD w] T = .ok (keyW w) false T := by
  have l1 : (w.map D.int).length = w.length := List.length_map ..
  have ef : fits 2 = true := by decide
  refine rb_rt rfl (st_last (s1 := ⟨[some (false, wordD w)], T⟩) ?_) rfl
  unfold wordD keyW
  dsimp! [B_key, l1, ef, wordD]
theorem pd_key (w : List Int) : pd (keyW w) = wkey w := by
  show PyData.tuple [.int w.length, .tuple (pds (iD w))] = _
  rw [pds_iD]
  rfl
theorem lt_keys (a b : List Int) : ltD (keyW a) (keyW b) = some (ltF a b) := by
  have hk : (okD 60 (keyW a) && okD 60 (keyW b) && PySem.W.alike (pd (keyW a)) (pd (keyW b))) = true := by
    have h1 : okD 60 (keyW a) = true := by
      have := ok_iD a 58
      show (true && (okDs 58 (iD a) && true)) = true
      rw [this]; rfl
    have h2 : okD 60 (keyW b) = true := by
      have := ok_iD b 58
      show (true && (okDs 58 (iD b) && true)) = true
      rw [this]; rfl
    have h3 : PySem.W.alike (pd (keyW a)) (pd (keyW b)) = true := by
      have := alike_ints' a b
      rw [pd_key, pd_key]
      show (true && (PySem.W.alikeAll (a.map .int) (b.map .int) && true)) = true
      rw [this]; rfl
    rw [h1, h2, h3]; rfl
  have e : ltD (keyW a) (keyW b) = if okD 60 (keyW a) && okD 60 (keyW b) && PySem.W.alike (pd (keyW a)) (pd (keyW b)) then some (PySem.W.dataLt (pd (keyW a)) (pd (keyW b))) else none := rfl
  rw [e, if_pos hk, pd_key, pd_key, lt_wkey]
def TOk1 (t : Tm) : Prop := WOk t.1 ∧ Bd t.2.2 ∧ t.2.2 ≠ 0
theorem cut1 (xs : List D) : cutD (some 1) none xs = xs.drop 1 := by
  unfold Vf.cutD Vf.cutD.cutV' HT.sIx
  cases xs with
  | nil => rfl
  | cons a r =>
    have : min (1 : Int).toNat (a :: r).length = 1 := by
      show min 1 (r.length + 1) = 1
      omega
    simp [this]
abbrev SB (x : IX) : Sxs := .cons (.ite (.or (.not (.prim (.isT "tuple") (.cons (.var 1) .nil))) (.or (.prim (.cmp .NotEq) (.cons (.prim (.blt "len") (.cons (.var 1) .nil)) (.cons (.cst (.int (2))) .nil))) (.not (.call x.is_word (.cons (.prim .idx (.cons (.var 1) (.cons (.cst (.int (0))) .nil))) .nil))))) (.cons (.ret (.cst (.bl false)))
  .nil) .nil)
  (.cons (.ite (.or (.not (.call x.is_ratio (.cons (.prim .idx (.cons (.var 1) (.cons (.cst (.int (1))) .nil))) .nil))) (.prim (.cmp .Eq) (.cons (.prim .idx (.cons (.var 1) (.cons (.cst (.int (1))) .nil))) (.cons (.glo "ZERO" (.ktup [(.int (0)), (.int (1))])) .nil)))) (.cons (.ret (.cst (.bl false)))
  .nil) .nil)
  .nil)
theorem sum_loop (hw : ∀ w, WOk w → F x.is_word [wordD w] T = .ok (.bl true) false T) (hr : ∀ k p, Bd p → F x.is_ratio [rD k p] T = .ok (.bl true) false T) {a : Option (Bool × D)} : ∀ (ts : List Tm) (y : Option (Bool × D)), (∀ t ∈ ts, TOk1 t) →
    ∃ y', forL [1] (evSs F (SB x)) (tms ts) ⟨[a, y, none, none], T⟩ = .ok .nx ⟨[a, y', none, none], T⟩
  | [], y, _ => ⟨y, rfl⟩
  | t :: r, y, h => by
    obtain ⟨h1, h2, h3⟩ := h t (List.mem_cons_self ..)
    obtain ⟨y', ih⟩ := sum_loop hw hr (a := a) r (some (false, tmD t)) (fun u hu => h u (List.mem_cons_of_mem _ hu))
    have g1 := hw _ h1
    have g2 := hr t.2.1 _ h2
    have g3 := eqZ t.2.1 t.2.2
    rw [decide_eq_false h3] at g3
    have q2 : ((((0 + 1 : Nat) + 1 : Nat)) : Int) = 2 := by decide
    refine ⟨y', ?_⟩
    show forL [1] _ (tmD t :: tms r) _ = _
    refine for_cons (s1 := ⟨[a, some (false, tmD t), none, none], T⟩) (s2 := ⟨[a, some (false, tmD t), none, none], T⟩) (by dsimp!) ?_ ih
    refine st_cons (s1 := ⟨[a, some (false, tmD t), none, none], T⟩) ?_ (st_cons (s1 := ⟨[a, some (false, tmD t), none, none], T⟩) ?_ st_end)
    · unfold tmD
      dsimp! [g1]
      rfl
    · unfold tmD
      dsimp! [g2, g3]
theorem srt_comp (hk : ∀ w, F x.key [wordD w] T = .ok (keyW w) false T) {a y : Option (Bool × D)} : ∀ (ts : List Tm), Srt (ts.map (·.1)) →
    compL [2, 3] [2, 3] (Vf.ret true) (evE F (.prim (.cmp .Lt) (.cons (.call x.key (.cons (.prim .idx (.cons (.var 2) (.cons (.cst (.int (0))) .nil))) .nil)) (.cons (.call x.key (.cons (.prim .idx (.cons (.var 3) (.cons (.cst (.int (0))) .nil))) .nil)) .nil)))) (List.zipWith pairD (tms ts) ((tms ts).drop 1)) ⟨[a, y, none, none], T⟩ = .ok (List.replicate (ts.length - 1) (.bl true)) ⟨[a, y, none, none], T⟩
  | [], _ => rfl
  | [t], _ => rfl
  | t :: u :: r, h => by
    have ih := srt_comp hk (a := a) (y := y) (u :: r) (by rw [List.map_cons] at h; exact (List.pairwise_cons.mp h).2)
    have hlt : ltF t.1 u.1 = true := by
      rw [List.map_cons] at h
      exact (List.pairwise_cons.mp h).1 u.1 (by simp)
    have g := lt_keys t.1 u.1
    rw [hlt] at g
    have g1 := hk t.1
    have g2 := hk u.1
    have e : (t :: u :: r).length - 1 = ((u :: r).length - 1) + 1 := by simp
    rw [e, List.replicate_succ]
    show compL _ _ _ _ (pairD (tmD t) (tmD u) :: List.zipWith pairD (tms (u :: r)) ((tms (u :: r)).drop 1)) _ = _
    refine comp_yes (x := (.bl true, false)) (s1 := ⟨[a, y, some (false, tmD t), some (false, tmD u)], T⟩) (s2 := ⟨[a, y, some (false, tmD t), some (false, tmD u)], T⟩) (s3 := ⟨[a, y, some (false, tmD t), some (false, tmD u)], T⟩) ?_ rfl ?_ ih
    · unfold Vf.pairD; dsimp!
    · unfold tmD
      dsimp! [g1, g2, g]
theorem r_issum (hw : ∀ w, WOk w → F x.is_word [wordD w] T = .ok (.bl true) false T) (hr : ∀ k p, Bd p → F x.is_ratio [rD k p] T = .ok (.bl true) false T) (hk : ∀ w, F x.key [wordD w] T = .ok (keyW w) false T) {ts : List Tm} (h : ∀ t ∈ ts, TOk1 t) (hs : Srt (ts.map (·.1))) (hl : ts.length ≤ 6000) :
    runB F (B_is_sum x) [sD ts] T = .ok (.bl true) false T := by
  have lt : (tms ts).length = ts.length := by unfold tms; rw [List.length_map]
  obtain ⟨y', g⟩ := sum_loop hw hr (a := some (false, .tup (tms ts))) ts none h
  have e1 : ¬ (6000 : Int) < (ts.length : Nat) := by omega
  have hz : zipD (.tup (tms ts)) (.tup ((tms ts).drop 1)) = some (List.zipWith pairD (tms ts) ((tms ts).drop 1)) := rfl
  have hs1 : slArgs true false [.tup (tms ts), .int 1] = some (.tup ((tms ts).drop 1), false) := by
    show slD (some 1) none (.tup (tms ts)) = _
    show some (D.tup (cutD (some 1) none (tms ts)), false) = _
    rw [cut1]
  have hit : evIt F (.zip (.var 0) (.prim (.sl true false) (.cons (.var 0) (.cons (.cst (.int (1))) .nil)))) ⟨[some (false, .tup (tms ts)), y', none, none], T⟩ = .ok (List.zipWith pairD (tms ts) ((tms ts).drop 1)) ⟨[some (false, .tup (tms ts)), y', none, none], T⟩ := by
    dsimp! [hs1, hz]
  have hc := ev_comp0 (F := F) (own := [2, 3]) (tg := [2, 3]) hit rfl (srt_comp hk (a := some (false, .tup (tms ts))) (y := y') ts hs) (decide_eq_true (by rw [List.length_replicate]; show _ ≤ 2 ^ 24; omega))
  have hb := ev_blt1 (F := F) (p := .blt "all") (fun _ h => by cases h) hc (r := (.bl true, false)) (by
    show (blsD _).map _ = _
    rw [bls_rep]
    show some (D.bl (List.all _ id), false) = _
    rw [all_rep])
  refine rb_rt rfl (st_cons (s1 := ⟨[some (false, .tup (tms ts)), none, none, none], T⟩) ?_ (st_cons (st_for (s0 := ⟨[some (false, .tup (tms ts)), none, none, none], T⟩) ?_ g) (st_last (st_ret (fun _ h => by cases h) hb)))) rfl
  · unfold sD; dsimp! [B_is_sum, lt, e1]
  · dsimp!
theorem r_checksum {d : D} (h : F x.is_sum [d] T = .ok (.bl true) false T) : runB F (B_check_sum x) [d] T = .ok .non false T := by
  refine rb_nx rfl (st_cons (s1 := ⟨[some (false, d)], T⟩) ?_ st_end) rfl
  dsimp! [B_check_sum, h]
theorem r_checkdepth (h0 : ∀ i : Int, F x.is_integer [.int i] T = .ok (.bl true) false T) {n : Nat} (hn : n ≤ 10) : runB F (B_check_depth x) [.int n] T = .ok .non false T := by
  have e1 : ¬ (n : Int) < 0 := by omega
  have e2 : ¬ (10 : Int) < n := by omega
  refine rb_nx rfl (st_cons (s1 := ⟨[some (false, .int n)], T⟩) ?_ st_end) rfl
  dsimp! [B_check_depth, h0, e1, e2]
theorem r_ofword {w : List Int} : runB F (B_of_word x) [wordD w] T = .ok (sD [(w, true, 1)]) false T := by
  have ef1 : fits 1 = true := by decide
  have ef2 : fits 2 = true := by decide
  refine rb_rt rfl (st_last (s1 := ⟨[some (false, wordD w)], T⟩) ?_) rfl
  dsimp! [B_of_word, ef1, ef2]
  rfl
theorem r_sone (h : F x.of_word [wordD []] T = .ok (sD [([], true, 1)]) false T) : runB F (B_sone x) [] T = .ok (sD [([], true, 1)]) false T := by
  have h' : F x.of_word [.tup []] T = .ok (sD [([], true, 1)]) false T := h
  have ef0 : fits 0 = true := by decide
  refine rb_rt rfl (st_last (s1 := ⟨[], T⟩) ?_) rfl
  dsimp! [B_sone, ef0, h']
end
end Lb
namespace Lb
open PySem PySem.Spec PyProof.Rows L2 Vf

def sumL {α : Type} (L : List α) (h : α → Rat) : Rat := match L with
  | [] => 0
  | a :: r => h a + sumL r h
theorem sumL_cons {α : Type} (a : α) (r : List α) (h : α → Rat) : sumL (a :: r) h = h a + sumL r h := rfl
theorem sumL_congr {α : Type} {h g : α → Rat} : ∀ {L : List α}, (∀ a ∈ L, h a = g a) → sumL L h = sumL L g
  | [], _ => rfl
  | a :: r, e => by
    rw [sumL_cons, sumL_cons, e a (List.mem_cons_self ..), sumL_congr fun b hb => e b (List.mem_cons_of_mem _ hb)]
theorem sumL_add {α : Type} (h g : α → Rat) : ∀ L : List α, sumL L (fun a => h a + g a) = sumL L h + sumL L g
  | [] => by simp [sumL, Rat.add_zero]
  | a :: r => by
    rw [sumL_cons, sumL_cons, sumL_cons, sumL_add h g r]
    grind
theorem sumL_zero {α : Type} : ∀ L : List α, sumL L (fun _ => (0 : Rat)) = 0
  | [] => rfl
  | a :: r => by rw [sumL_cons, sumL_zero r, Rat.add_zero]
theorem sumL_append {α : Type} (h : α → Rat) : ∀ L M : List α, sumL (L ++ M) h = sumL L h + sumL M h
  | [], M => by simp [sumL, Rat.zero_add]
  | a :: r, M => by rw [List.cons_append, sumL_cons, sumL_cons, sumL_append h r M, Rat.add_assoc]
theorem sumL_map {α β : Type} (f : α → β) (h : β → Rat) : ∀ L : List α, sumL (L.map f) h = sumL L fun a => h (f a)
  | [] => rfl
  | a :: r => by rw [List.map_cons, sumL_cons, sumL_cons, sumL_map f h r]
theorem sumL_mul {α : Type} (c : Rat) (h : α → Rat) : ∀ L : List α, sumL L (fun a => c * h a) = c * sumL L h
  | [] => by simp [sumL, Rat.mul_zero]
  | a :: r => by
    rw [sumL_cons, sumL_cons, sumL_mul c h r]
    grind
theorem sumL_delta {α : Type} [DecidableEq α] (p : α) (k : α → Rat) : ∀ {L : List α}, L.Nodup → sumL L (fun a => if a = p then k a else 0) = if p ∈ L then k p else 0
  | [], _ => rfl
  | a :: r, hn => by
    have h2 := List.nodup_cons.mp hn
    rw [sumL_cons, sumL_delta p k h2.2]
    by_cases e : a = p
    · subst e
      rw [if_pos rfl, if_neg h2.1, if_pos (List.mem_cons_self ..), Rat.add_zero]
    · rw [if_neg e, Rat.zero_add]
      by_cases q : p ∈ r
      · rw [if_pos q, if_pos (List.mem_cons_of_mem _ q)]
      · rw [if_neg q, if_neg (fun z => (List.mem_cons.mp z).elim (fun z => e z.symm) q)]
theorem sumL_sub {α : Type} [DecidableEq α] (k : α → Rat) {W : List α} (hW : W.Nodup) : ∀ {P : List α}, P.Nodup → (∀ p ∈ P, p ∈ W) → sumL W (fun u => if u ∈ P then k u else 0) = sumL P k
  | [], _, _ => by
    show sumL W (fun u => if u ∈ [] then k u else 0) = 0
    rw [sumL_congr (g := fun _ => 0) fun a _ => if_neg (by simp)]
    exact sumL_zero W
  | p :: P, hn, hs => by
    have h2 := List.nodup_cons.mp hn
    have ih := sumL_sub k hW h2.2 (fun q hq => hs q (List.mem_cons_of_mem _ hq))
    rw [sumL_cons, ← ih]
    have e : ∀ u ∈ W, (if u ∈ p :: P then k u else 0) = (if u = p then k u else 0) + (if u ∈ P then k u else 0) := fun u _ => by
      by_cases e : u = p
      · subst e
        rw [if_pos (List.mem_cons_self ..), if_pos rfl, if_neg h2.1, Rat.add_zero]
      · rw [if_neg e, Rat.zero_add]
        by_cases q : u ∈ P
        · rw [if_pos q, if_pos (List.mem_cons_of_mem _ q)]
        · rw [if_neg q, if_neg (fun z => (List.mem_cons.mp z).elim e q)]
    rw [sumL_congr e, sumL_add, sumL_delta p k hW, if_pos (hs p (List.mem_cons_self ..))]
def conv (f g : List Int → Rat) (w : List Int) : Rat := sumL (List.range (w.length + 1)) fun i => f (w.take i) * g (w.drop i)
theorem coef_append (w : List Int) : ∀ a b : List Tm, coef (a ++ b) w = coef a w + coef b w
  | [], b => (Rat.zero_add _).symm
  | t :: r, b => by
    show _ + coef (r ++ b) w = (_ + coef r w) + coef b w
    rw [coef_append w r b, Rat.add_assoc]
theorem canon_cons (u : List Int) (L : List (List Int)) (f : List Int → Rat) (fl : List Int → Bool) : canon (u :: L) f fl = if f u ≠ 0 then (u, fl u, f u) :: canon L f fl else canon L f fl := by
  unfold canon
  by_cases h : f u = 0
  · rw [if_neg (fun z => z h), List.filter_cons_of_neg (by simp [h])]
  · rw [if_pos h, List.filter_cons_of_pos (by simp [h]), List.map_cons]
theorem coef_canon (f : List Int → Rat) (fl : List Int → Bool) (w : List Int) : ∀ {L : List (List Int)}, L.Nodup → coef (canon L f fl) w = if w ∈ L then f w else 0
  | [], _ => rfl
  | u :: L, hn => by
    have h2 := List.nodup_cons.mp hn
    have ih := coef_canon f fl w h2.2
    rw [canon_cons]
    by_cases e : u = w
    · subst e
      rw [if_pos (List.mem_cons_self ..)]
      rw [if_neg h2.1] at ih
      by_cases h : f u = 0
      · rw [if_neg (fun z => z h), ih, h]
      · rw [if_pos h]
        show (if u = u then f u else 0) + coef (canon L f fl) u = _
        rw [if_pos rfl, ih, Rat.add_zero]
    · have q : (w ∈ u :: L) = (w ∈ L) := propext ⟨fun z => (List.mem_cons.mp z).resolve_left fun z => e z.symm, List.mem_cons_of_mem _⟩
      simp only [q]
      rw [← ih]
      by_cases h : f u = 0
      · rw [if_neg (fun z => z h)]
      · rw [if_pos h]
        show (if u = w then f u else 0) + coef (canon L f fl) w = _
        rw [if_neg e, Rat.zero_add]
theorem coef_cin {t : Tm} {d : Nat} {w : List Int} (hw : w.length ≤ d) (g : List Int → Rat) (gl : List Int → Bool) : ∀ L : List (List Int), coef (cinT t d (canon L g gl)) w = sumL L fun v => if t.1 ++ v = w then t.2.2 * g v else 0
  | [] => rfl
  | v :: L => by
    have ih := coef_cin (t := t) hw g gl L
    rw [canon_cons, sumL_cons, ← ih]
    by_cases h : g v = 0
    · rw [if_neg (fun z => z h)]
      have : (if t.1 ++ v = w then t.2.2 * g v else 0) = 0 := by
        split
        · rw [h, Rat.mul_zero]
        · rfl
      rw [this, Rat.zero_add]
    · rw [if_pos h]
      by_cases hc : t.1.length + v.length ≤ d
      · show coef (if t.1.length + v.length ≤ d then _ else _) w = _
        rw [if_pos hc]
        rfl
      · show coef (if t.1.length + v.length ≤ d then _ else _) w = _
        rw [if_neg hc, if_neg (fun e => hc (by rw [← e, List.length_append] at hw; exact hw)), Rat.zero_add]
theorem coef_cut {d : Nat} {w : List Int} (hw : w.length ≤ d) (f g : List Int → Rat) (fl gl : List Int → Bool) (M : List (List Int)) : ∀ L : List (List Int), coef (cutT (canon M g gl) d (canon L f fl)) w = sumL L fun u => sumL M fun v => if u ++ v = w then f u * g v else 0
  | [] => rfl
  | u :: L => by
    have ih := coef_cut hw f g fl gl M L
    rw [canon_cons, sumL_cons, ← ih]
    by_cases h : f u = 0
    · rw [if_neg (fun z => z h)]
      have : sumL M (fun v => if u ++ v = w then f u * g v else 0) = 0 := by
        rw [sumL_congr (g := fun _ => 0) fun v _ => by rw [h, Rat.zero_mul]; split <;> rfl]
        exact sumL_zero M
      rw [this, Rat.zero_add]
    · rw [if_pos h]
      show coef (cinT (u, fl u, f u) d (canon M g gl) ++ cutT (canon M g gl) d (canon L f fl)) w = _
      rw [coef_append, coef_cin hw]
structure WL (W : List (List Int)) (d : Nat) : Prop where
  srt : Srt W
  cl : ∀ u ∈ W, ∀ v ∈ W, u.length + v.length ≤ d → u ++ v ∈ W
  ok : ∀ w ∈ W, (∀ y ∈ w, 0 ≤ y ∧ y < 9) ∧ w.length ≤ 60
  len : W.length ≤ 100
  nil : [] ∈ W
  sp : ∀ w ∈ W, ∀ i, w.take i ∈ W ∧ w.drop i ∈ W
  wlen : ∀ w ∈ W, w.length ≤ d
  dl : d ≤ 10
theorem srt_nodup {W : List (List Int)} (h : Srt W) : W.Nodup := h.imp fun {a b} q e => by subst e; rw [ltF_irr] at q; cases q
theorem take_inj {w : List Int} {i j : Nat} (hi : i ≤ w.length) (hj : j ≤ w.length) (e : w.take i = w.take j) : i = j := by
  have := congrArg List.length e
  rw [List.length_take, List.length_take] at this
  omega
theorem conv_sum {W : List (List Int)} {d : Nat} (h : WL W d) {w : List Int} (hw : w ∈ W) (k : List Int → List Int → Rat) : (sumL W fun u => sumL W fun v => if u ++ v = w then k u v else 0) = sumL (List.range (w.length + 1)) fun i => k (w.take i) (w.drop i) := by
  have hn := srt_nodup h.srt
  let P : List (List Int) := (List.range (w.length + 1)).map fun i => w.take i
  have hP : P.Nodup := by
    refine List.Pairwise.map _ (fun a b (hab : a ≠ b ∧ a ≤ w.length ∧ b ≤ w.length) => fun e => hab.1 (take_inj hab.2.1 hab.2.2 e)) ?_
    have h1 : (List.range (w.length + 1)).Pairwise (· < ·) := List.pairwise_lt_range
    refine h1.imp_of_mem fun {a b} ha hb hab => ⟨by omega, ?_, ?_⟩
    · have := List.mem_range.mp ha; omega
    · have := List.mem_range.mp hb; omega
  have hs : ∀ p ∈ P, p ∈ W := fun p hp => by
    obtain ⟨i, _, rfl⟩ := List.mem_map.mp hp
    exact (h.sp w hw i).1
  have inner : ∀ u ∈ W, (sumL W fun v => if u ++ v = w then k u v else 0) = if u ∈ P then k u (w.drop u.length) else 0 := fun u _ => by
    by_cases hu : u ∈ P
    · rw [if_pos hu]
      obtain ⟨i, hi, rfl⟩ := List.mem_map.mp hu
      have hi' : i ≤ w.length := by have := List.mem_range.mp hi; omega
      have hl : (w.take i).length = i := by rw [List.length_take]; omega
      rw [hl]
      have e : ∀ v ∈ W, (if w.take i ++ v = w then k (w.take i) v else 0) = if v = w.drop i then k (w.take i) v else 0 := fun v _ => by
        have q : (w.take i ++ v = w) = (v = w.drop i) := propext ⟨fun z => by
          have z2 := congrArg (List.drop i) z
          rw [List.drop_append_of_le_length (by omega)] at z2
          have : (w.take i).drop i = [] := by rw [List.drop_eq_nil_iff]; omega
          rw [this, List.nil_append] at z2
          exact z2, fun z => by rw [z, List.take_append_drop]⟩
        simp only [q]
      rw [sumL_congr e, sumL_delta _ _ hn, if_pos (h.sp w hw i).2]
    · rw [if_neg hu]
      rw [sumL_congr (g := fun _ => 0) fun v _ => if_neg fun e => hu ?_]
      · exact sumL_zero W
      · refine List.mem_map.mpr ⟨u.length, List.mem_range.mpr (by rw [← e, List.length_append]; omega), ?_⟩
        show w.take u.length = u
        rw [← e]; simp
  refine ((sumL_congr fun u hu => ?_).trans (sumL_sub (fun u => k u (w.drop u.length)) hn hP hs)).trans ?_
  · rw [inner u hu]
    by_cases q : u ∈ P
    · rw [if_pos q, if_pos q]
    · rw [if_neg q, if_neg q]
  rw [sumL_map]
  refine sumL_congr fun i hi => ?_
  have hi' : i ≤ w.length := by have := List.mem_range.mp hi; omega
  have hl : (w.take i).length = i := by rw [List.length_take]; omega
  rw [hl]
theorem canon_congr {W : List (List Int)} {f g : List Int → Rat} (fl : List Int → Bool) (h : ∀ w ∈ W, f w = g w) : canon W f fl = canon W g fl := by
  unfold canon
  have e : W.filter (fun w => decide (f w ≠ 0)) = W.filter fun w => decide (g w ≠ 0) := List.filter_congr fun w hw => by rw [h w hw]
  rw [e]
  refine List.map_congr_left fun w hw => ?_
  rw [h w (List.mem_filter.mp hw).1]
theorem canon_mem {W : List (List Int)} {f : List Int → Rat} {fl : List Int → Bool} {t : Tm} (h : t ∈ canon W f fl) : t.1 ∈ W ∧ t.2.2 = f t.1 ∧ f t.1 ≠ 0 := by
  obtain ⟨w, hw, rfl⟩ := List.mem_map.mp h
  obtain ⟨h1, h2⟩ := List.mem_filter.mp hw
  exact ⟨h1, rfl, by simpa using h2⟩
theorem canon_srt {W : List (List Int)} (h : Srt W) (f : List Int → Rat) (fl : List Int → Bool) : Srt ((canon W f fl).map (·.1)) := by
  unfold canon
  rw [List.map_map]
  have : ((fun t : Tm => t.1) ∘ fun w => (w, fl w, f w)) = id := rfl
  rw [this, List.map_id]
  exact h.filter _
end Lb
namespace Lb
open PySem PySem.Spec PyProof.Rows L2 Vf

def FB (W : List (List Int)) (N B : Nat) (f : List Int → Rat) : Prop := ∀ w ∈ W, Nc N B (f w)
theorem Nc_sumL {α : Type} {N B : Nat} {h : α → Rat} (h0 : N ≠ 0) : ∀ {L : List α}, (∀ a ∈ L, Nc N B (h a)) → Nc N (L.length * B) (sumL L h)
  | [], _ => Nc.zero
  | a :: r, H => by
    rw [sumL_cons, List.length_cons, Nat.succ_mul, Nat.add_comm]
    exact (H a (List.mem_cons_self ..)).add h0 (Nc_sumL h0 fun b hb => H b (List.mem_cons_of_mem _ hb))
theorem FB.conv {W : List (List Int)} {d N M B C : Nat} {f g : List Int → Rat} (h : WL W d) (hf : FB W N B f) (hg : FB W M C g) (h0 : N ≠ 0) (h1 : M ≠ 0) : FB W (N * M) (11 * (B * C)) (Lb.conv f g) := fun w hw => by
  have q := Nc_sumL (N := N * M) (B := B * C) (h := fun i => f (w.take i) * g (w.drop i)) (Nat.mul_ne_zero h0 h1) (L := List.range (w.length + 1)) fun i _ => (hf _ (h.sp w hw i).1).mul h0 h1 (hg _ (h.sp w hw i).2)
  refine q.mono (Nat.mul_le_mul_right _ ?_)
  rw [List.length_range]
  have := h.wlen w hw
  have := h.dl
  omega
theorem FB.mul {W : List (List Int)} {N M B C : Nat} {f : List Int → Rat} {c : Rat} (hc : Nc M C c) (hf : FB W N B f) (h0 : N ≠ 0) (h1 : M ≠ 0) : FB W (M * N) (C * B) (fun w => c * f w) := fun w hw => hc.mul h1 h0 (hf w hw)
theorem FB.add {W : List (List Int)} {N B C : Nat} {f g : List Int → Rat} (hf : FB W N B f) (hg : FB W N C g) (h0 : N ≠ 0) : FB W N (B + C) (fun w => f w + g w) := fun w hw => (hf w hw).add h0 (hg w hw)
theorem FB.up {W : List (List Int)} {N B k : Nat} {f : List Int → Rat} (hf : FB W N B f) (h0 : N ≠ 0) (hk : k ≠ 0) : FB W (N * k) (B * k) f := fun w hw => (hf w hw).up h0 hk
theorem FB.mono {W : List (List Int)} {N B C : Nat} {f : List Int → Rat} (hf : FB W N B f) (h : B ≤ C) : FB W N C f := fun w hw => (hf w hw).mono h
theorem canon_bd {W : List (List Int)} {N B : Nat} {f : List Int → Rat} {fl : List Int → Bool} (hf : FB W N B f) (h0 : N ≠ 0) (hN : N < 2 ^ 1900) (hB : B < 2 ^ 1900) : ∀ t ∈ canon W f fl, Bd t.2.2 := fun t ht => by
  obtain ⟨h1, h2, _⟩ := canon_mem ht
  rw [h2]
  exact (hf _ h1).bd h0 hN hB
def delta (w : List Int) : Rat := if w = [] then 1 else 0
theorem canon_delta {W : List (List Int)} (hn : W.Nodup) (h : [] ∈ W) : canon W delta (fun _ => true) = [([], true, 1)] := by
  have e : W.filter (fun w => decide (delta w ≠ 0)) = [[]] := by
    have e1 : W.filter (fun w => decide (delta w ≠ 0)) = W.filter fun w => decide (w = []) := List.filter_congr fun w _ => by
      unfold delta
      by_cases q : w = []
      · rw [if_pos q]; simp [q]
      · rw [if_neg q]; simp [q]
    rw [e1]
    have : ∀ L : List (List Int), L.Nodup → [] ∈ L → L.filter (fun w => decide (w = [])) = [[]] := by
      intro L
      induction L with
      | nil => intro _ h; cases h
      | cons a r ih =>
        intro hn h
        have h2 := List.nodup_cons.mp hn
        by_cases q : a = []
        · subst q
          rw [List.filter_cons_of_pos (by simp)]
          have : r.filter (fun w => decide (w = [])) = [] := by
            rw [List.filter_eq_nil_iff]
            intro b hb q
            have q : b = [] := by simpa using q
            subst q
            exact h2.1 hb
          rw [this]
        · rw [List.filter_cons_of_neg (by simp [q])]
          exact ih h2.2 ((List.mem_cons.mp h).resolve_left fun z => q z.symm)
    exact this W hn h
  unfold canon
  rw [e]
  rfl
theorem scT_canon {W : List (List Int)} {f : List Int → Rat} {fl : List Int → Bool} {c : Rat} (hc : c ≠ 0) : scT c (canon W f fl) = canon W (fun w => c * f w) fun _ => false := by
  unfold scT canon
  have e : W.filter (fun w => decide (c * f w ≠ 0)) = W.filter fun w => decide (f w ≠ 0) := List.filter_congr fun w _ => by
    have : (c * f w ≠ 0) = (f w ≠ 0) := propext ⟨fun h q => h (by rw [q, Rat.mul_zero]), fun h q => by
      rcases Rat.mul_eq_zero.mp q with q | q
      · exact hc q
      · exact h q⟩
    simp only [this]
  rw [e, List.map_map]
  rfl
theorem natK_canon (f : List Int → Rat) (fl : List Int → Bool) (w : List Int) : ∀ L : List (List Int), (natK w (canon L f fl)).2 = if w ∈ L then f w else 0
  | [] => rfl
  | u :: L => by
    have ih := natK_canon f fl w L
    rw [canon_cons]
    by_cases e : u = w
    · subst e
      rw [if_pos (List.mem_cons_self ..)]
      by_cases h : f u = 0
      · rw [if_neg (fun z => z h), ih, h]
        split <;> rfl
      · rw [if_pos h]
        show (if u = u then _ else _ : Bool × Rat).2 = _
        rw [if_pos rfl]
    · have q : (w ∈ u :: L) = (w ∈ L) := propext ⟨fun z => (List.mem_cons.mp z).resolve_left fun z => e z.symm, List.mem_cons_of_mem _⟩
      simp only [q]
      rw [← ih]
      by_cases h : f u = 0
      · rw [if_neg (fun z => z h)]
      · rw [if_pos h]
        show (if u = w then _ else _ : Bool × Rat).2 = _
        rw [if_neg e]
structure KS (F : FT) (x : IX) : Prop where
  gathL : ∀ T (ts : List Tm) W N B, Srt W → W.length ≤ 6000 → (∀ t ∈ ts, t.1 ∈ W) → N ≠ 0 → N < 2 ^ 1900 → (∀ t ∈ ts, Nc N B t.2.2) → (ts.length + 1) * B < 2 ^ 1900 → ts.length ≤ 1000000 → ∃ fl, F x.gathered [.lst (tms ts)] T = .ok (sD (canon W (coef ts) fl)) false T
  gathT : ∀ T (ts : List Tm) W N B, Srt W → W.length ≤ 6000 → (∀ t ∈ ts, t.1 ∈ W) → N ≠ 0 → N < 2 ^ 1900 → (∀ t ∈ ts, Nc N B t.2.2) → (ts.length + 1) * B < 2 ^ 1900 → ts.length ≤ 1000000 → ∃ fl, F x.gathered [sD ts] T = .ok (sD (canon W (coef ts) fl)) false T
  cut : ∀ T W d f g fl gl N M B C, WL W d → FB W N B f → FB W M C g → N ≠ 0 → M ≠ 0 → N < 2 ^ 1900 → M < 2 ^ 1900 → B < 2 ^ 1900 → C < 2 ^ 1900 → N * M < 2 ^ 1900 → 10001 * (B * C) < 2 ^ 1900 →
    ∃ hl, F x.cut_product [sD (canon W f fl), sD (canon W g gl), .int (d : Nat)] T = .ok (sD (canon W (conv f g) hl)) false T
  scaled : ∀ T W f fl k c, c ≠ 0 → Bd c → (∀ t ∈ canon W f fl, Bd t.2.2) → W.length ≤ 100 → F x.sscaled [rD k c, sD (canon W f fl)] T = .ok (sD (canon W (fun w => c * f w) fun _ => false)) false T
  add : ∀ T W d f g fl gl N B C, WL W d → FB W N B f → FB W N C g → N ≠ 0 → N < 2 ^ 1900 → 201 * (B + C) < 2 ^ 1900 → ∃ hl, F x.sadd [sD (canon W f fl), sD (canon W g gl)] T = .ok (sD (canon W (fun w => f w + g w) hl)) false T
  minus : ∀ T W d f g fl gl N B C, WL W d → FB W N B f → FB W N C g → N ≠ 0 → N < 2 ^ 1900 → 201 * (B + C) < 2 ^ 1900 → ∃ hl, F x.sminus [sD (canon W f fl), sD (canon W g gl)] T = .ok (sD (canon W (fun w => f w - g w) hl)) false T
  chk : ∀ T W d f fl, WL W d → (∀ t ∈ canon W f fl, Bd t.2.2) → F x.check_sum [sD (canon W f fl)] T = .ok .non false T
  numat : ∀ T W f fl w, ∃ k, F x.number_at [sD (canon W f fl), wordD w] T = .ok (rD k (if w ∈ W then f w else 0)) false T
  one : ∀ T W, W.Nodup → [] ∈ W → F x.sone [] T = .ok (sD (canon W delta fun _ => true)) false T
  dep : ∀ T (n : Nat), n ≤ 10 → F x.check_depth [.int n] T = .ok .non false T
section
variable {Ps : List Fn} {x : IX} (hR : HasR Ps x) (hS : HasS Ps x)
include hR hS
theorem k_gath {m : Nat} (hm : 5 ≤ m) (T : Vf.TP) {ts : List Tm} {W : List (List Int)} {N B : Nat} (hW : Srt W) (hl : W.length ≤ 6000) (hk : ∀ t ∈ ts, t.1 ∈ W) (h0 : N ≠ 0) (hN : N < 2 ^ 1900) (ht : ∀ t ∈ ts, Nc N B t.2.2) (hB : (ts.length + 1) * B < 2 ^ 1900) (hl2 : ts.length ≤ 1000000) {d : D} (hd : seqOf d = some (ts.map tmD)) : ∃ fl, Vf.run Ps m x.gathered [d] T = .ok (sD (canon W (coef ts) fl)) false T := by
  rw [run_m hS.gathered (by omega)]
  exact r_gathered_w (kR hR (by omega)) hW hl hk h0 hN ht hB hl2 hd
theorem kS {m : Nat} (hm : 9 ≤ m) : KS (Vf.run Ps m) x where
  gathL T ts W N B hW hl hk h0 hN ht hB hl2 := k_gath hR hS (by omega) T hW hl hk h0 hN ht hB hl2 rfl
  gathT T ts W N B hW hl hk h0 hN ht hB hl2 := k_gath hR hS (by omega) T hW hl hk h0 hN ht hB hl2 rfl
  cut T W d f g fl gl N M B C h hf hg h0 h1 hN hM hB hC hNM hBC := by
    have l1 := canon_len W f fl
    have l2 := canon_len W g gl
    have l3 := h.len
    have l4 := cutT_len (canon W g gl) d (canon W f fl)
    have l5 : (canon W f fl).length * (canon W g gl).length ≤ 100 * 100 := Nat.mul_le_mul (by omega) (by omega)
    have hmem : ∀ t ∈ cutT (canon W g gl) d (canon W f fl), t.1 ∈ W ∧ Nc (N * M) (B * C) t.2.2 := fun t ht => by
      obtain ⟨u, hu, v, hv, hl, rfl⟩ := cutT_mem ht
      obtain ⟨u1, u2, _⟩ := canon_mem hu
      obtain ⟨v1, v2, _⟩ := canon_mem hv
      refine ⟨h.cl _ u1 _ v1 hl, ?_⟩
      show Nc _ _ (u.2.2 * v.2.2)
      rw [u2, v2]
      exact (hf _ u1).mul h0 h1 (hg _ v1)
    obtain ⟨hl, e⟩ := k_gath hR hS (m := m - 1) (by omega) T (ts := cutT (canon W g gl) d (canon W f fl)) h.srt (by omega) (fun t ht => (hmem t ht).1) (Nat.mul_ne_zero h0 h1) hNM (fun t ht => (hmem t ht).2)
      (Nat.lt_of_le_of_lt (Nat.mul_le_mul_right _ (by omega)) hBC) (by omega) (d := .lst (tms (cutT (canon W g gl) d (canon W f fl)))) rfl
    refine ⟨hl, ?_⟩
    rw [run_m hS.cut_product (by omega)]
    rw [r_cut (kR hR (by omega)) (by have := h.dl; omega) (canon_bd hf h0 hN hB) (canon_bd hg h1 hM hC) (by omega) e]
    rw [canon_congr hl fun w hw => ?_]
    rw [coef_cut (h.wlen w hw), conv_sum h hw fun u v => f u * g v]
    rfl
  scaled T W f fl k c hc hb ht hl := by
    rw [run_m hS.sscaled (by omega), r_sscaled (kR hR (by omega)) hb hc ht (by have := canon_len W f fl; omega), scT_canon hc]
  add T W d f g fl gl N B C h hf hg h0 hN hB := by
    have l1 := canon_len W f fl
    have l2 := canon_len W g gl
    have l3 := h.len
    have l4 : (canon W f fl ++ canon W g gl).length ≤ 200 := by rw [List.length_append]; omega
    have hmem : ∀ t ∈ canon W f fl ++ canon W g gl, t.1 ∈ W ∧ Nc N (B + C) t.2.2 := fun t ht => by
      rcases List.mem_append.mp ht with ht | ht
      · obtain ⟨u1, u2, _⟩ := canon_mem ht
        exact ⟨u1, by rw [u2]; exact (hf _ u1).mono (by omega)⟩
      · obtain ⟨u1, u2, _⟩ := canon_mem ht
        exact ⟨u1, by rw [u2]; exact (hg _ u1).mono (by omega)⟩
    obtain ⟨hl, e⟩ := k_gath hR hS (m := m - 1) (by omega) T (ts := canon W f fl ++ canon W g gl) h.srt (by omega) (fun t ht => (hmem t ht).1) h0 hN (fun t ht => (hmem t ht).2)
      (Nat.lt_of_le_of_lt (Nat.mul_le_mul_right _ (by omega)) hB) (by omega) (d := sD (canon W f fl ++ canon W g gl)) rfl
    refine ⟨hl, ?_⟩
    rw [run_m hS.sadd (by omega), r_sadd (by omega) e]
    rw [canon_congr hl fun w hw => ?_]
    have hn := srt_nodup h.srt
    rw [coef_append, coef_canon f fl w hn, coef_canon g gl w hn, if_pos hw, if_pos hw]
  minus T W d f g fl gl N B C h hf hg h0 hN hB := by
    have l1 := canon_len W f fl
    have l2 := canon_len W (fun w => -1 * g w) fun _ => false
    have l3 := h.len
    have l4 : (canon W f fl ++ canon W (fun w => -1 * g w) fun _ => false).length ≤ 200 := by rw [List.length_append]; omega
    have hneg : ∀ w, (-1 : Rat) * g w = -g w := fun w => by grind
    have hmem : ∀ t ∈ (canon W f fl ++ canon W (fun w => -1 * g w) fun _ => false), t.1 ∈ W ∧ Nc N (B + C) t.2.2 := fun t ht => by
      rcases List.mem_append.mp ht with ht | ht
      · obtain ⟨u1, u2, _⟩ := canon_mem ht
        exact ⟨u1, by rw [u2]; exact (hf _ u1).mono (by omega)⟩
      · obtain ⟨u1, u2, _⟩ := canon_mem ht
        exact ⟨u1, by rw [u2]; show Nc _ _ (-1 * g t.1); rw [hneg]; exact (hg _ u1).neg.mono (by omega)⟩
    obtain ⟨hl, e⟩ := k_gath hR hS (m := m - 1) (by omega) T (ts := canon W f fl ++ canon W (fun w => -1 * g w) fun _ => false) h.srt (by omega) (fun t ht => (hmem t ht).1) h0 hN (fun t ht => (hmem t ht).2)
      (Nat.lt_of_le_of_lt (Nat.mul_le_mul_right _ (by omega)) hB) (by omega) (d := sD (canon W f fl ++ canon W (fun w => -1 * g w) fun _ => false)) rfl
    have hb1 : Bd (-1) := ⟨by decide +kernel, by decide +kernel⟩
    have hbg : ∀ t ∈ canon W g gl, Bd t.2.2 := canon_bd (N := N) (B := C) hg h0 hN (by omega)
    have es : Vf.run Ps (m - 1) x.sscaled [rD false (-1), sD (canon W g gl)] T = .ok (sD (canon W (fun w => -1 * g w) fun _ => false)) false T := by
      rw [run_m hS.sscaled (by omega), r_sscaled (kR hR (by omega)) hb1 (by decide) hbg (by have := canon_len W g gl; omega), scT_canon (by decide)]
    refine ⟨hl, ?_⟩
    rw [run_m hS.sminus (by omega), r_sminus es (by rw [List.length_append] at l4; omega) e]
    rw [canon_congr hl fun w hw => ?_]
    have hn := srt_nodup h.srt
    rw [coef_append, coef_canon f fl w hn, coef_canon _ _ w hn, if_pos hw, if_pos hw, hneg]
    grind
  chk T W d f fl h hb := by
    rw [run_m hS.check_sum (by omega)]
    refine r_checksum ?_
    rw [run_m hS.is_sum (by omega)]
    have K := kR hR (m := m - 1 - 1) (by omega)
    have K2 := kR hR (m := m - 1 - 1 - 1) (by omega)
    refine r_issum (fun w hw => ?_) (fun k p hp => K.isr T k p hp) (fun w => ?_) (fun t ht => ?_) (canon_srt h.srt f fl) (by have := canon_len W f fl; have := h.len; omega)
    · rw [run_m hS.is_word (by omega)]
      exact r_isword (fun i => K2.isint T i) hw
    · rw [run_m hS.key (by omega)]
      exact r_key
    · obtain ⟨u1, u2, u3⟩ := canon_mem ht
      exact ⟨h.ok _ u1, hb t ht, by rw [u2]; exact u3⟩
  numat T W f fl w := by
    refine ⟨(natK w (canon W f fl)).1, ?_⟩
    rw [run_m hS.number_at (by omega), r_numat, natK_canon]
  one T W hn h := by
    rw [canon_delta hn h, run_m hS.sone (by omega)]
    refine r_sone ?_
    rw [run_m hS.of_word (by omega)]
    exact r_ofword
  dep T n hn := by
    rw [run_m hS.check_depth (by omega)]
    exact r_checkdepth (fun i => (kR hR (m := m - 1) (by omega)).isint T i) hn
end
end Lb
namespace Lb
open PySem PySem.Spec PyProof.Rows L2 Vf

def rgN : Nat → Nat → List D
  | _, 0 => []
  | j, n + 1 => .int (j : Nat) :: rgN (j + 1) n
theorem rg_map (a : Nat) : ∀ (n j : Nat), (List.range' j n).map (fun (k : Nat) => D.int ((a : Int) + (k : Int))) = rgN (a + j) n
  | 0, _ => rfl
  | n + 1, j => by
    rw [List.range'_succ, List.map_cons, rg_map a n (j + 1)]
    show D.int _ :: _ = D.int _ :: rgN (a + j + 1) n
    congr 1
theorem range_n (a n : Nat) : rangeD (a : Int) ((a + n : Nat) : Int) = rgN a n := by
  unfold rangeD
  have : (((a + n : Nat) : Int) - (a : Int)).toNat = n := by omega
  rw [this, List.range_eq_range', rg_map a n 0]
  rfl
theorem big_n {n : Nat} (h : n ≤ 100000) : bigOk (n : Int) = true := by
  unfold bigOk
  rw [Bool.and_eq_true, decide_eq_true_eq, decide_eq_true_eq]
  constructor <;> omega
theorem it_rng1 {F : FT} {a : Ex} {s s1 : S} {n : Nat} {fr : Bool} (h : evE F a s = .ok (.int (n : Nat), fr) s1) (hb : n ≤ 100000) : evIt F (.rng1 a) s = .ok (rgN 0 n) s1 := by
  unfold evIt
  rw [u_bnd, h]
  show (if bigOk (n : Int) = true then Vf.ret (rangeD 0 (n : Int)) else stk) s1 = _
  rw [if_pos (big_n hb)]
  have := range_n 0 n
  rw [Nat.zero_add] at this
  exact congrArg (fun l => Res.ok l s1) this
theorem it_rng2 {F : FT} {a b : Ex} {s s1 s2 : S} {j n : Nat} {fr fr2 : Bool} (h : evE F a s = .ok (.int (j : Nat), fr) s1) (g : evE F b s1 = .ok (.int ((j + n : Nat) : Int), fr2) s2) (hb : j + n ≤ 100000) : evIt F (.rng2 a b) s = .ok (rgN j n) s2 := by
  unfold evIt
  rw [u_bnd, h]
  show bnd _ _ s1 = _
  rw [u_bnd, g]
  show (if bigOk (j : Int) && bigOk ((j + n : Nat) : Int) then Vf.ret (rangeD (j : Int) ((j + n : Nat) : Int)) else stk) s2 = _
  rw [big_n (by omega), big_n hb]
  exact congrArg (fun l => Res.ok l s2) (range_n j n)
def powF (f : List Int → Rat) : Nat → List Int → Rat
  | 0 => delta
  | j + 1 => fun w => mkRat 1 (j + 1) * conv (powF f j) f w
def expF (f : List Int → Rat) : Nat → List Int → Rat
  | 0 => delta
  | j + 1 => fun w => expF f j w + powF f (j + 1) w
def NN (N : Nat) : Nat → Nat
  | 0 => 1
  | j + 1 => (j + 1) * (NN N j * N)
def BB (B : Nat) : Nat → Nat
  | 0 => 1
  | j + 1 => 1 * (11 * (BB B j * B))
def CC (N B : Nat) : Nat → Nat
  | 0 => 1
  | j + 1 => CC N B j * ((j + 1) * N) + BB B (j + 1)
theorem NN_ne {N : Nat} (h : N ≠ 0) : ∀ j, NN N j ≠ 0
  | 0 => Nat.one_ne_zero
  | j + 1 => Nat.mul_ne_zero (by omega) (Nat.mul_ne_zero (NN_ne h j) h)
theorem FB_delta (W : List (List Int)) : FB W 1 1 delta := fun w _ => by
  unfold delta
  split
  · exact Nc.one (by decide) (by decide)
  · exact Nc.zero
theorem nc_inv (j : Nat) : Nc (j + 1) 1 (mkRat 1 (j + 1)) := ⟨1, rfl, by decide⟩
theorem FB_pow {W : List (List Int)} {d N B : Nat} {f : List Int → Rat} (h : WL W d) (hf : FB W N B f) (h0 : N ≠ 0) : ∀ j, FB W (NN N j) (BB B j) (powF f j)
  | 0 => FB_delta W
  | j + 1 => (FB_pow h hf h0 j).conv h hf (NN_ne h0 j) h0 |>.mul (nc_inv j) (Nat.mul_ne_zero (NN_ne h0 j) h0) (by omega)
theorem FB_exp {W : List (List Int)} {d N B : Nat} {f : List Int → Rat} (h : WL W d) (hf : FB W N B f) (h0 : N ≠ 0) : ∀ j, FB W (NN N j) (CC N B j) (expF f j)
  | 0 => FB_delta W
  | j + 1 => by
    have e : NN N j * ((j + 1) * N) = NN N (j + 1) := Nat.mul_left_comm ..
    have q := (FB_exp h hf h0 j).up (k := (j + 1) * N) (NN_ne h0 j) (Nat.mul_ne_zero (by omega) h0)
    rw [e] at q
    exact q.add (FB_pow h hf h0 (j + 1)) (NN_ne h0 _)
def EBd (N B d : Nat) : Prop := N ≠ 0 ∧ N < 2 ^ 1900 ∧ B < 2 ^ 1900 ∧ ∀ j, j < d → NN N j < 2 ^ 1900 ∧ BB B j < 2 ^ 1900 ∧ NN N j * N < 2 ^ 1900 ∧ 10001 * (BB B j * B) < 2 ^ 1900 ∧ NN N (j + 1) < 2 ^ 1900 ∧ 201 * (CC N B j * ((j + 1) * N) + BB B (j + 1)) < 2 ^ 1900
theorem inv_num (j : Nat) : (mkRat 1 (j + 1)).num = 1 ∧ (mkRat 1 (j + 1)).den = j + 1 := by
  obtain ⟨m1, m2⟩ := mk_num 1 (j + 1) (by omega)
  have g : Int.gcd 1 ((j + 1 : Nat) : Int) = 1 := by simp
  rw [g] at m1 m2
  constructor
  · rw [m1]; rfl
  · have : ((mkRat 1 (j + 1)).den : Int) = ((j + 1 : Nat) : Int) := by rw [m2]; exact Int.ediv_one _
    omega
theorem inv_D (j : Nat) : D.tup [.int 1, .int ((j + 1 : Nat) : Int)] = rD false (mkRat 1 (j + 1)) := by
  obtain ⟨h1, h2⟩ := inv_num j
  show _ = D.tup [.int (mkRat 1 (j + 1)).num, .int (mkRat 1 (j + 1)).den]
  rw [h1, h2]
theorem inv_bd {j : Nat} (h : j < 1000) : Bd (mkRat 1 (j + 1)) := by
  obtain ⟨h1, h2⟩ := inv_num j
  refine ⟨by rw [h1]; decide +kernel, ?_⟩
  rw [h2]
  have : (1000 : Nat) < 2 ^ 1900 := by decide +kernel
  omega
theorem inv_ne (j : Nat) : mkRat 1 (j + 1) ≠ 0 := fun h => by
  have := (inv_num j).1
  rw [h] at this
  cases this
section
variable {x : IX} {F : FT} {T : Vf.TP} (K : KS F x)
include K
theorem exp_loop {W : List (List Int)} {d N B : Nat} {f : List Int → Rat} {fl : List Int → Bool} (h : WL W d) (hf : FB W N B f) (hb : EBd N B d) : ∀ (n j : Nat) (gl ql : List Int → Bool) (z : Option (Bool × D)), j + n = d →
    ∃ gl' ql' z', forL [4] (evSs F (.cons (.set 3 (.call x.sscaled (.cons (.tup (.cons (.cst (.int (1))) (.cons (.var 4) .nil))) (.cons (.call x.cut_product (.cons (.var 3) (.cons (.var 0) (.cons (.var 1) .nil)))) .nil)))) (.cons (.set 2 (.call x.sadd (.cons (.var 2) (.cons (.var 3) .nil)))) .nil))) (rgN (j + 1) n)
      ⟨[some (false, sD (canon W f fl)), some (false, .int (d : Nat)), some (false, sD (canon W (expF f j) gl)), some (false, sD (canon W (powF f j) ql)), z], T⟩ =
      .ok .nx ⟨[some (false, sD (canon W f fl)), some (false, .int (d : Nat)), some (false, sD (canon W (expF f d) gl')), some (false, sD (canon W (powF f d) ql')), z'], T⟩
  | 0, j, gl, ql, z, e => by
    rw [Nat.add_zero] at e
    subst e
    exact ⟨gl, ql, z, rfl⟩
  | n + 1, j, gl, ql, z, e => by
    obtain ⟨h0, hN, hB, hj⟩ := hb
    obtain ⟨b1, b2, b3, b4, b5, b6⟩ := hj j (by omega)
    have hp := FB_pow h hf h0 j
    have he := FB_exp h hf h0 j
    obtain ⟨hl1, g1⟩ := K.cut T W d (powF f j) f ql fl (NN N j) N (BB B j) B h hp hf (NN_ne h0 j) h0 b1 hN b2 hB b3 b4
    have hcv := hp.conv h hf (NN_ne h0 j) h0
    have hm1 : 11 * (BB B j * B) ≤ 10001 * (BB B j * B) := Nat.mul_le_mul_right _ (by decide)
    have g2 := K.scaled T W (conv (powF f j) f) hl1 false (mkRat 1 (j + 1)) (inv_ne j) (inv_bd (by have := h.dl; omega)) (canon_bd hcv (Nat.mul_ne_zero (NN_ne h0 j) h0) b3 (by omega)) h.len
    rw [← inv_D] at g2
    have q := he.up (k := (j + 1) * N) (NN_ne h0 j) (Nat.mul_ne_zero (by omega) h0)
    have e2 : NN N j * ((j + 1) * N) = NN N (j + 1) := Nat.mul_left_comm ..
    rw [e2] at q
    obtain ⟨hl2, g3⟩ := K.add T W d (expF f j) (powF f (j + 1)) gl (fun _ => false) (NN N (j + 1)) _ _ h q (FB_pow h hf h0 (j + 1)) (NN_ne h0 _) b5 b6
    obtain ⟨gl', ql', z', ih⟩ := exp_loop h hf ⟨h0, hN, hB, hj⟩ n (j + 1) hl2 (fun _ => false) (some (false, .int ((j + 1 : Nat) : Int))) (by omega)
    have ef : fits 2 = true := by decide
    refine ⟨gl', ql', z', ?_⟩
    show forL [4] _ (.int ((j + 1 : Nat) : Int) :: rgN (j + 1 + 1) n) _ = _
    refine for_cons (s1 := ⟨[some (false, sD (canon W f fl)), some (false, .int (d : Nat)), some (false, sD (canon W (expF f j) gl)), some (false, sD (canon W (powF f j) ql)), some (false, .int ((j + 1 : Nat) : Int))], T⟩) (s2 := ⟨[some (false, sD (canon W f fl)), some (false, .int (d : Nat)), some (false, sD (canon W (expF f (j + 1)) hl2)), some (false, sD (canon W (powF f (j + 1)) fun _ => false)), some (false, .int ((j + 1 : Nat) : Int))], T⟩) (by dsimp!) ?_ ih
    have g2' : F x.sscaled [.tup [.int 1, .int ((j + 1 : Nat) : Int)], sD (canon W (conv (powF f j) f) hl1)] T = .ok (sD (canon W (powF f (j + 1)) fun _ => false)) false T := g2
    have g3' : F x.sadd [sD (canon W (expF f j) gl), sD (canon W (powF f (j + 1)) fun _ => false)] T = .ok (sD (canon W (expF f (j + 1)) hl2)) false T := g3
    generalize sD (canon W (expF f (j + 1)) hl2) = E1 at g3' ⊢
    generalize sD (canon W (powF f (j + 1)) fun _ => false) = P1 at g2' g3' ⊢
    generalize ((j + 1 : Nat) : Int) = J at g2' ⊢
    dsimp! [g1, ef, g2', g3']
theorem r_exponential {W : List (List Int)} {d N B : Nat} {f : List Int → Rat} {fl : List Int → Bool} (h : WL W d) (hf : FB W N B f) (hb : EBd N B d) (hz : f [] = 0) : ∃ gl, runB F (B_exponential x) [sD (canon W f fl), .int (d : Nat)] T = .ok (sD (canon W (expF f d) gl)) false T := by
  obtain ⟨gl, ql, z, g⟩ := exp_loop K (T := T) (fl := fl) h hf hb d 0 (fun _ => true) (fun _ => true) none (by omega)
  refine ⟨gl, ?_⟩
  have hn := srt_nodup h.srt
  have e1 := K.chk T W d f fl h (canon_bd hf hb.1 hb.2.1 hb.2.2.1)
  have e2 := K.dep T d h.dl
  obtain ⟨k, e3⟩ := K.numat T W f fl []
  rw [if_pos h.nil, hz] at e3
  have e3' : F x.number_at [sD (canon W f fl), .tup []] T = .ok (rD k 0) false T := e3
  have e4 := eqZ k 0
  rw [decide_eq_true rfl] at e4
  have e5 := K.one T W hn h.nil
  have ef0 : fits 0 = true := by decide
  have hit : evIt F (.rng2 (.cst (.int (1))) (.prim (.bin .Add) (.cons (.var 1) (.cons (.cst (.int (1))) .nil)))) ⟨[some (false, sD (canon W f fl)), some (false, .int (d : Nat)), some (false, sD (canon W delta fun _ => true)), some (false, sD (canon W delta fun _ => true)), none], T⟩ = .ok (rgN 1 d) ⟨[some (false, sD (canon W f fl)), some (false, .int (d : Nat)), some (false, sD (canon W delta fun _ => true)), some (false, sD (canon W delta fun _ => true)), none], T⟩ := by
    refine it_rng2 (j := 1) (fr := false) (fr2 := false) (by dsimp!; rfl) ?_ (by have := h.dl; omega)
    have : ((1 + d : Nat) : Int) = (d : Int) + 1 := by omega
    rw [this]
    dsimp!
  refine rb_rt rfl (st_cons (s1 := ⟨[some (false, sD (canon W f fl)), some (false, .int (d : Nat)), none, none, none], T⟩) ?_ (st_cons (s1 := ⟨[some (false, sD (canon W f fl)), some (false, .int (d : Nat)), none, none, none], T⟩) ?_ (st_cons (s1 := ⟨[some (false, sD (canon W f fl)), some (false, .int (d : Nat)), none, none, none], T⟩) ?_ (st_cons (s1 := ⟨[some (false, sD (canon W f fl)), some (false, .int (d : Nat)), some (false, sD (canon W delta fun _ => true)), some (false, sD (canon W delta fun _ => true)), none], T⟩) ?_ (st_cons (st_for hit g) (st_last (s1 := ⟨[some (false, sD (canon W f fl)), some (false, .int (d : Nat)), none, some (false, sD (canon W (powF f d) ql)), z], T⟩) ?_)))))) rfl
  · dsimp! [B_exponential, e1]
  · dsimp! [e2]
  · dsimp! [ef0, e3', e4]
  · dsimp! [e5]
  · dsimp!
end
end Lb
namespace Lb
open PySem PySem.Spec PyProof.Rows L2 Vf

abbrev Vc := List Rat
def rDs (a : Vc) : List D := a.map (rD false)
def stepD (a : Vc) : D := .tup (rDs a)
def stepDs (p : List Vc) : List D := p.map stepD
def pathD (p : List Vc) : D := .tup (stepDs p)
def POk (s : Nat) (p : List Vc) : Prop := p.length ≤ 12 ∧ ∀ a ∈ p, a.length = s ∧ ∀ r ∈ a, Bd r
theorem rDs_len (a : Vc) : (rDs a).length = a.length := by unfold rDs; rw [List.length_map]
theorem stepDs_len (p : List Vc) : (stepDs p).length = p.length := by unfold stepDs; rw [List.length_map]
theorem okR : ∀ (a : Vc) (n : Nat), okDs (n + 1) (rDs a) = true
  | [], n => by unfold rDs okDs; rfl
  | r :: a, n => by
    have h := okR a n
    show okDs (n + 1) (rD false r :: rDs a) = true
    unfold okDs
    rw [h]
    show (okDs n [.int r.num, .int r.den] && true) = true
    simp [okDs, okD]
theorem okSt : ∀ (p : List Vc) (n : Nat), okDs (n + 2) (stepDs p) = true
  | [], n => by unfold stepDs okDs; rfl
  | a :: p, n => by
    have h := okSt p n
    have h2 := okR a n
    show okDs (n + 2) (stepD a :: stepDs p) = true
    unfold okDs
    rw [h]
    show (okDs (n + 1) (rDs a) && true) = true
    rw [h2]; rfl
theorem eqvR (p q : Rat) : PyData.eqv (pd (rD false p)) (pd (rD false q)) = decide (p = q) := by
  show PyData.eqv (.tuple [.int p.num, .int p.den]) (.tuple [.int q.num, .int q.den]) = _
  simp only [PyData.eqv, PyData.eqvAll]
  by_cases h : p = q
  · subst h; simp
  · rw [decide_eq_false h]
    by_cases h1 : p.num = q.num <;> by_cases h2 : (p.den : Int) = q.den
    · exact (h (Rat.ext h1 (by omega))).elim
    · simp [h1, h2]
    · simp [h1, h2]
    · simp [h1, h2]
theorem eqR (p q : Rat) : Vf.eqD (rD false p) (rD false q) = some (decide (p = q)) := by
  have e : Vf.eqD (rD false p) (rD false q) = if okD 60 (rD false p) && okD 60 (rD false q) then some (PyData.eqv (pd (rD false p)) (pd (rD false q))) else none := rfl
  have hk : (okD 60 (rD false p) && okD 60 (rD false q)) = true := rfl
  rw [e, if_pos hk, eqvR]
theorem eqvRs : ∀ a b : Vc, PyData.eqvAll (pds (rDs a)) (pds (rDs b)) = decide (a = b)
  | [], [] => rfl
  | [], _ :: _ => rfl
  | _ :: _, [] => rfl
  | p :: a, q :: b => by
    have ih := eqvRs a b
    show (PyData.eqv (pd (rD false p)) (pd (rD false q)) && PyData.eqvAll (pds (rDs a)) (pds (rDs b))) = _
    rw [ih, eqvR]
    by_cases h1 : p = q <;> by_cases h2 : a = b <;> simp [h1, h2]
theorem eqvSt : ∀ a b : List Vc, PyData.eqvAll (pds (stepDs a)) (pds (stepDs b)) = decide (a = b)
  | [], [] => rfl
  | [], _ :: _ => rfl
  | _ :: _, [] => rfl
  | p :: a, q :: b => by
    have ih := eqvSt a b
    show (PyData.eqvAll (pds (rDs p)) (pds (rDs q)) && PyData.eqvAll (pds (stepDs a)) (pds (stepDs b))) = _
    rw [ih, eqvRs]
    by_cases h1 : p = q <;> by_cases h2 : a = b <;> simp [h1, h2]
theorem eqP (p q : List Vc) : Vf.eqD (pathD p) (pathD q) = some (decide (p = q)) := by
  have h1 := okSt p 57
  have h2 := okSt q 57
  have e : Vf.eqD (pathD p) (pathD q) = if okD 60 (pathD p) && okD 60 (pathD q) then some (PyData.eqv (pd (pathD p)) (pd (pathD q))) else none := rfl
  have hk : (okD 60 (pathD p) && okD 60 (pathD q)) = true := by
    show (okDs 59 (stepDs p) && okDs 59 (stepDs q)) = true
    rw [h1, h2]; rfl
  rw [e, if_pos hk]
  exact congrArg some (eqvSt p q)
theorem eqSL (p q : List Vc) : Vf.eqD (.lst (stepDs p)) (.lst (stepDs q)) = some (decide (p = q)) := by
  have h1 := okSt p 57
  have h2 := okSt q 57
  have e : Vf.eqD (.lst (stepDs p)) (.lst (stepDs q)) = if okD 60 (.lst (stepDs p)) && okD 60 (.lst (stepDs q)) then some (PyData.eqv (pd (.lst (stepDs p))) (pd (.lst (stepDs q)))) else none := rfl
  have hk : (okD 60 (.lst (stepDs p)) && okD 60 (.lst (stepDs q))) = true := by
    show (okDs 59 (stepDs p) && okDs 59 (stepDs q)) = true
    rw [h1, h2]; rfl
  rw [e, if_pos hk]
  exact congrArg some (eqvSt p q)
theorem eqS0 (a : Vc) : Vf.eqD (stepD a) (.tup []) = some (decide (a = [])) := by
  have h1 := okR a 58
  have e : Vf.eqD (stepD a) (.tup []) = if okD 60 (stepD a) && okD 60 (.tup []) then some (PyData.eqv (pd (stepD a)) (pd (.tup []))) else none := rfl
  have hk : (okD 60 (stepD a) && okD 60 (.tup [])) = true := by
    show (okDs 59 (rDs a) && _) = true
    rw [h1]; rfl
  rw [e, if_pos hk]
  exact congrArg some (eqvRs a [])
section
variable {x : IX} {F : FT} {T : Vf.TP}
theorem isr_comp (K : KR F x) {a b : Option (Bool × D)} : ∀ v : Vc, (∀ r ∈ v, Bd r) →
    compL [2] [2] (Vf.ret true) (evE F (.call x.is_ratio (.cons (.var 2) .nil))) (rDs v) ⟨[a, b, none], T⟩ = .ok (List.replicate v.length (.bl true)) ⟨[a, b, none], T⟩
  | [], _ => rfl
  | r :: v, h => by
    have ih := isr_comp K (a := a) (b := b) v (fun s hs => h s (List.mem_cons_of_mem _ hs))
    have g := K.isr T false r (h r (List.mem_cons_self ..))
    show compL _ _ _ _ (rD false r :: rDs v) _ = .ok (List.replicate (v.length + 1) _) _
    rw [List.replicate_succ]
    refine comp_yes (x := (.bl true, false)) (s1 := ⟨[a, b, some (false, rD false r)], T⟩) (s2 := ⟨[a, b, some (false, rD false r)], T⟩) (s3 := ⟨[a, b, some (false, rD false r)], T⟩) ?_ rfl ?_ ih
    · dsimp!
    · dsimp! [g]
theorem path_loop (K : KR F x) {s : Nat} (hs : 1 ≤ s) (hs4 : s ≤ 4) {p : List Vc} {h0 : Vc} (hl0 : h0.length = s) (hi : idxD (pathD p) (.int 0) = some (stepD h0, false)) : ∀ (q : List Vc) (y : Option (Bool × D)), (y = none ∨ ∃ e, y = some (false, e)) → (∀ a ∈ q, a.length = s ∧ ∀ r ∈ a, Bd r) →
    ∃ y', forL [1] (evSs F (.cons (.ite (.or (.not (.prim (.isT "tuple") (.cons (.var 1) .nil))) (.or (.prim (.cmp .Eq) (.cons (.var 1) (.cons (.tup .nil) .nil))) (.or (.prim (.cmp .Gt) (.cons (.prim (.blt "len") (.cons (.var 1) .nil)) (.cons (.glo "MOST_SPACE" (.int (4))) .nil))) (.prim (.cmp .NotEq) (.cons (.prim (.blt "len") (.cons (.var 1) .nil)) (.cons (.prim (.blt "len") (.cons (.prim .idx (.cons (.var 0) (.cons (.cst (.int (0))) .nil))) .nil)) .nil)))))) (.cons (.ret (.cst (.bl false)))
  .nil) .nil)
  (.cons (.ite (.not (.prim (.blt "all") (.cons (.comp [2] [2] (.ex (.var 1)) .nil (.call x.is_ratio (.cons (.var 2) .nil))) .nil))) (.cons (.ret (.cst (.bl false)))
  .nil) .nil)
  .nil))) (stepDs q) ⟨[some (false, pathD p), y, none], T⟩ = .ok .nx ⟨[some (false, pathD p), y', none], T⟩
  | [], y, _, _ => ⟨y, rfl⟩
  | a :: q, y, hy, h => by
    obtain ⟨h1, h2⟩ := h a (List.mem_cons_self ..)
    obtain ⟨y', ih⟩ := path_loop K hs hs4 hl0 hi q (some (false, stepD a)) (.inr ⟨_, rfl⟩) (fun b hb => h b (List.mem_cons_of_mem _ hb))
    have e0 := eqS0 a
    rw [decide_eq_false (by rintro rfl; simp at h1; omega)] at e0
    have l1 : lenD (stepD a) = some (.int (s : Nat), false) := by
      show some (D.int ((rDs a).length : Nat), false) = _
      rw [rDs_len, h1]
    have l2 : lenD (stepD h0) = some (.int (s : Nat), false) := by
      show some (D.int ((rDs h0).length : Nat), false) = _
      rw [rDs_len, hl0]
    have e4 : ¬ (4 : Int) < (s : Nat) := by omega
    have ef0 : fits 0 = true := by decide
    have ty : Vf.isT "tuple" (stepD a) = some true := rfl
    have hc := ev_comp0 (F := F) (own := [2]) (tg := [2]) (it := .ex (.var 1)) (s := ⟨[some (false, pathD p), some (false, stepD a), none], T⟩) (s0 := ⟨[some (false, pathD p), some (false, stepD a), none], T⟩) (ds := rDs a) (by unfold stepD; dsimp!) rfl (isr_comp K a h2) (decide_eq_true (by rw [List.length_replicate, h1]; show _ ≤ 2 ^ 24; omega))
    have hb := ev_blt1 (F := F) (p := .blt "all") (fun _ h => by cases h) hc (r := (.bl true, false)) (by
      show (blsD _).map _ = _
      rw [bls_rep]
      show some (D.bl (List.all _ id), false) = _
      rw [all_rep])
    refine ⟨y', ?_⟩
    show forL [1] _ (stepD a :: stepDs q) _ = _
    refine for_cons (s1 := ⟨[some (false, pathD p), some (false, stepD a), none], T⟩) (s2 := ⟨[some (false, pathD p), some (false, stepD a), none], T⟩) (by dsimp!) ?_ ih
    refine st_cons (s1 := ⟨[some (false, pathD p), some (false, stepD a), none], T⟩) ?_ (st_cons (s1 := ⟨[some (false, pathD p), some (false, stepD a), none], T⟩) ?_ st_end)
    · generalize stepD a = A at e0 l1 ty ⊢
      generalize stepD h0 = H at hi l2
      dsimp! [-lenD, -Vf.isT, ty, e0, l1, l2, e4, hi, ef0]
    · exact st_ite_f (fr := false) (ev_not hb) st_end
theorem r_ispath (K : KR F x) {s : Nat} (hs : 1 ≤ s) (hs4 : s ≤ 4) {p : List Vc} (h : POk s p) : runB F (B_is_path x) [pathD p] T = .ok (.bl true) false T := by
  obtain ⟨h1, h2⟩ := h
  have lp : (stepDs p).length = p.length := stepDs_len p
  have e1 : ¬ (12 : Int) < (p.length : Nat) := by omega
  cases p with
  | nil =>
    refine rb_rt rfl (st_cons (s1 := ⟨[some (false, .tup []), none, none], T⟩) ?_ (st_cons (s1 := ⟨[some (false, .tup []), none, none], T⟩) ?_ (st_last (s1 := ⟨[some (false, .tup []), none, none], T⟩) ?_))) rfl
    · show evS F _ ⟨[some (false, .tup []), none, none], T⟩ = _
      dsimp! [B_is_path, e1]
      rfl
    · dsimp!
    · dsimp!
  | cons a r =>
    obtain ⟨y', g⟩ := path_loop K (T := T) hs hs4 (p := a :: r) (h2 a (List.mem_cons_self ..)).1 u_ix0 (a :: r) none (.inl rfl) h2
    refine rb_rt rfl (st_cons (s1 := ⟨[some (false, pathD (a :: r)), none, none], T⟩) ?_ (st_cons (st_for (s0 := ⟨[some (false, pathD (a :: r)), none, none], T⟩) ?_ g) (st_last (s1 := ⟨[some (false, pathD (a :: r)), y', none], T⟩) ?_))) rfl
    · rw [List.length_cons] at e1 lp
      unfold pathD; dsimp! [B_is_path, lp, e1]
    · unfold pathD; dsimp!
    · dsimp!
theorem r_checkpath {d : D} (h : F x.is_path [d] T = .ok (.bl true) false T) : runB F (B_check_path x) [d] T = .ok .non false T := by
  refine rb_nx rfl (st_cons (s1 := ⟨[some (false, d)], T⟩) ?_ st_end) rfl
  dsimp! [B_check_path, h]
def vneg (a : Vc) : Vc := a.map fun r => -r
def backF (p : List Vc) : List Vc := p.reverse.map vneg
theorem neg_comp (K : KR F x) {a b : Option (Bool × D)} : ∀ v : Vc,
    compL [2] [2] (Vf.ret true) (evE F (.call x.rneg (.cons (.var 2) .nil))) (rDs v) ⟨[a, b, none], T⟩ = .ok (rDs (vneg v)) ⟨[a, b, none], T⟩
  | [] => rfl
  | r :: v => by
    have ih := neg_comp K (a := a) (b := b) v
    have g := K.neg T r false
    show compL _ _ _ _ (rD false r :: rDs v) _ = .ok (rD false (-r) :: rDs (vneg v)) _
    refine comp_yes (x := (rD false (-r), false)) (s1 := ⟨[a, b, some (false, rD false r)], T⟩) (s2 := ⟨[a, b, some (false, rD false r)], T⟩) (s3 := ⟨[a, b, some (false, rD false r)], T⟩) ?_ rfl ?_ ih
    · dsimp!
    · dsimp! [g]
theorem back_comp (K : KR F x) {a : Option (Bool × D)} : ∀ q : List Vc, (∀ v ∈ q, v.length ≤ 1000) →
    compL [1] [1] (Vf.ret true) (evE F (.prim (.blt "tuple") (.cons (.comp [2] [2] (.ex (.var 1)) .nil (.call x.rneg (.cons (.var 2) .nil))) .nil))) (stepDs q) ⟨[a, none, none], T⟩ = .ok (stepDs (q.map vneg)) ⟨[a, none, none], T⟩
  | [], _ => rfl
  | v :: q, h => by
    have ih := back_comp K (a := a) q (fun u hu => h u (List.mem_cons_of_mem _ hu))
    have hv := h v (List.mem_cons_self ..)
    have hc := ev_comp0 (F := F) (own := [2]) (tg := [2]) (it := .ex (.var 1)) (s := ⟨[a, some (false, stepD v), none], T⟩) (s0 := ⟨[a, some (false, stepD v), none], T⟩) (ds := rDs v) (by unfold stepD; dsimp!) rfl (neg_comp K v) (decide_eq_true (by rw [rDs_len]; unfold vneg; rw [List.length_map]; show _ ≤ 2 ^ 24; omega))
    have hb := ev_blt1 (F := F) (p := .blt "tuple") (fun _ h => by cases h) hc (r := (stepD (vneg v), false)) rfl
    show compL _ _ _ _ (stepD v :: stepDs q) _ = .ok (stepD (vneg v) :: stepDs (q.map vneg)) _
    refine comp_yes (x := (stepD (vneg v), false)) (s1 := ⟨[a, some (false, stepD v), none], T⟩) (s2 := ⟨[a, some (false, stepD v), none], T⟩) (s3 := ⟨[a, some (false, stepD v), none], T⟩) ?_ rfl hb ih
    dsimp!
theorem r_back (K : KR F x) {p : List Vc} (hl : p.length ≤ 12) (hv : ∀ v ∈ p, v.length ≤ 1000) (h : F x.check_path [pathD p] T = .ok .non false T) : runB F (B_back x) [pathD p] T = .ok (pathD (backF p)) false T := by
  have hr : (stepDs p).reverse = stepDs p.reverse := by unfold stepDs; rw [List.map_reverse]
  have hc := ev_comp0 (F := F) (own := [1]) (tg := [1]) (it := .ex (.prim .rev (.cons (.var 0) .nil))) (s := ⟨[some (false, pathD p), none, none], T⟩) (s0 := ⟨[some (false, pathD p), none, none], T⟩) (ds := stepDs p.reverse) (by unfold pathD; dsimp! [revD, hr]) rfl (back_comp K p.reverse (fun v hm => hv v (List.mem_reverse.mp hm))) (decide_eq_true (by rw [stepDs_len, List.length_map, List.length_reverse]; show _ ≤ 2 ^ 24; omega))
  have hb := ev_blt1 (F := F) (p := .blt "tuple") (fun _ h => by cases h) hc (r := (pathD (backF p), false)) rfl
  refine rb_rt rfl (st_cons (s1 := ⟨[some (false, pathD p), none, none], T⟩) ?_ (st_last (st_ret (fun _ h => by cases h) hb))) rfl
  dsimp! [B_back, h]
end
end Lb
namespace Lb
open PySem PySem.Spec PyProof.Rows L2 Vf

def al : Vc → Vc → Bool
  | [_], [_] => true
  | [a0, a1], [b0, b1] => decide (a1 * b0 = a0 * b1)
  | _, _ => false
def nz (a : Vc) : Bool := a.any fun r => decide (r ≠ 0)
def vadd (a b : Vc) : Vc := List.zipWith (· + ·) a b
def SOk (s : Nat) (a : Vc) : Prop := a.length = s ∧ ∀ r ∈ a, Bd r
section
variable {x : IX} {F : FT} {T : Vf.TP} (K : KR F x)
include K
theorem r_along {s : Nat} (hs : s = 1 ∨ s = 2) {a b : Vc} (ha : SOk s a) (hb : SOk s b) : runB F (B_are_along x) [stepD a, stepD b] T = .ok (.bl (al a b)) false T := by
  obtain ⟨la, ba⟩ := ha
  obtain ⟨lb, bb⟩ := hb
  rcases hs with rfl | rfl
  · obtain ⟨a0, rfl⟩ : ∃ a0, a = [a0] := by match a, la with | [a0], _ => exact ⟨a0, rfl⟩
    obtain ⟨b0, rfl⟩ : ∃ b0, b = [b0] := by match b, lb with | [b0], _ => exact ⟨b0, rfl⟩
    have h1 : evIt F (.rng1 (.prim (.blt "len") (.cons (.var 0) .nil))) ⟨[some (false, stepD [a0]), some (false, stepD [b0]), none, none], T⟩ = .ok (rgN 0 1) ⟨[some (false, stepD [a0]), some (false, stepD [b0]), none, none], T⟩ := it_rng1 (n := 1) (fr := false) (by unfold stepD rDs; dsimp! <;> rfl) (by decide)
    have h2 : evIt F (.rng1 (.var 2)) ⟨[some (false, stepD [a0]), some (false, stepD [b0]), some (false, .int 0), none], T⟩ = .ok (rgN 0 0) ⟨[some (false, stepD [a0]), some (false, stepD [b0]), some (false, .int 0), none], T⟩ := it_rng1 (n := 0) (fr := false) (by dsimp! <;> rfl) (by decide)
    refine rb_rt rfl (st_cons (st_for h1 (for_cons (s1 := ⟨[some (false, stepD [a0]), some (false, stepD [b0]), some (false, .int 0), none], T⟩) (by dsimp! <;> rfl) (st_cons (st_for h2 rfl) st_end) rfl)) (st_last (s1 := ⟨[some (false, stepD [a0]), some (false, stepD [b0]), some (false, .int 0), none], T⟩) ?_)) rfl
    dsimp!
    rfl
  · obtain ⟨a0, a1, rfl⟩ : ∃ a0 a1, a = [a0, a1] := by match a, la with | [a0, a1], _ => exact ⟨a0, a1, rfl⟩
    obtain ⟨b0, b1, rfl⟩ : ∃ b0 b1, b = [b0, b1] := by match b, lb with | [b0, b1], _ => exact ⟨b0, b1, rfl⟩
    have g1 := K.mul T a1 b0 false false (ba a1 (by simp)) (bb b0 (by simp))
    have g2 := K.mul T a0 b1 false false (ba a0 (by simp)) (bb b1 (by simp))
    have g3 := eqR (a1 * b0) (a0 * b1)
    have i1 : idxD (stepD [a0, a1]) (.int 1) = some (rD false a1, false) := u_ix1
    have i2 : idxD (stepD [a0, a1]) (.int 0) = some (rD false a0, false) := u_ix0
    have i3 : idxD (stepD [b0, b1]) (.int 1) = some (rD false b1, false) := u_ix1
    have i4 : idxD (stepD [b0, b1]) (.int 0) = some (rD false b0, false) := u_ix0
    have la : lenD (stepD [a0, a1]) = some (.int 2, false) := rfl
    generalize stepD [a0, a1] = A at i1 i2 la ⊢
    generalize stepD [b0, b1] = B at i3 i4 ⊢
    have h1 : evIt F (.rng1 (.prim (.blt "len") (.cons (.var 0) .nil))) ⟨[some (false, A), some (false, B), none, none], T⟩ = .ok (rgN 0 2) ⟨[some (false, A), some (false, B), none, none], T⟩ := it_rng1 (n := 2) (fr := false) (by dsimp! [-lenD, la]; rfl) (by decide)
    have h2 : evIt F (.rng1 (.var 2)) ⟨[some (false, A), some (false, B), some (false, .int 0), none], T⟩ = .ok (rgN 0 0) ⟨[some (false, A), some (false, B), some (false, .int 0), none], T⟩ := it_rng1 (n := 0) (fr := false) (by dsimp! <;> rfl) (by decide)
    have h3 : evIt F (.rng1 (.var 2)) ⟨[some (false, A), some (false, B), some (false, .int 1), none], T⟩ = .ok (rgN 0 1) ⟨[some (false, A), some (false, B), some (false, .int 1), none], T⟩ := it_rng1 (n := 1) (fr := false) (by dsimp! <;> rfl) (by decide)
    show runB F (B_are_along x) [A, B] T = .ok (.bl (decide (a1 * b0 = a0 * b1))) false T
    by_cases hc : a1 * b0 = a0 * b1
    · rw [decide_eq_true hc] at g3 ⊢
      refine rb_rt rfl (st_cons (st_for h1 (for_cons (s1 := ⟨[some (false, A), some (false, B), some (false, .int 0), none], T⟩) (by dsimp! <;> rfl) (st_cons (st_for h2 rfl) st_end) (for_cons (s1 := ⟨[some (false, A), some (false, B), some (false, .int 1), none], T⟩) (s2 := ⟨[some (false, A), some (false, B), some (false, .int 1), some (false, .int 0)], T⟩) (by dsimp! <;> rfl) (st_cons (st_for h3 (for_cons (s1 := ⟨[some (false, A), some (false, B), some (false, .int 1), some (false, .int 0)], T⟩) (s2 := ⟨[some (false, A), some (false, B), some (false, .int 1), some (false, .int 0)], T⟩) (by dsimp! <;> rfl) ?_ rfl)) st_end) rfl))) (st_last (s1 := ⟨[some (false, A), some (false, B), some (false, .int 1), some (false, .int 0)], T⟩) ?_)) rfl
      · dsimp! [i1, i2, i3, i4, g1, g2, g3]
      · dsimp!
    · rw [decide_eq_false hc] at g3 ⊢
      have hin : forL [3] (evSs F (.cons (.ite (.prim (.cmp .NotEq) (.cons (.call x.rmul (.cons (.prim .idx (.cons (.var 0) (.cons (.var 2) .nil))) (.cons (.prim .idx (.cons (.var 1) (.cons (.var 3) .nil))) .nil))) (.cons (.call x.rmul (.cons (.prim .idx (.cons (.var 0) (.cons (.var 3) .nil))) (.cons (.prim .idx (.cons (.var 1) (.cons (.var 2) .nil))) .nil))) .nil))) (.cons (.ret (.cst (.bl false))) .nil) .nil) .nil)) (rgN 0 1) ⟨[some (false, A), some (false, B), some (false, .int 1), none], T⟩ = .ok (.rt (.bl false) false) ⟨[some (false, A), some (false, B), some (false, .int 1), some (false, .int 0)], T⟩ := by
        show forL [3] _ (.int 0 :: []) _ = _
        dsimp! [i1, i2, i3, i4, g1, g2, g3]
      have hout : forL [2] (evSs F (.cons (.for_ [3] (.rng1 (.var 2)) (.cons (.ite (.prim (.cmp .NotEq) (.cons (.call x.rmul (.cons (.prim .idx (.cons (.var 0) (.cons (.var 2) .nil))) (.cons (.prim .idx (.cons (.var 1) (.cons (.var 3) .nil))) .nil))) (.cons (.call x.rmul (.cons (.prim .idx (.cons (.var 0) (.cons (.var 3) .nil))) (.cons (.prim .idx (.cons (.var 1) (.cons (.var 2) .nil))) .nil))) .nil))) (.cons (.ret (.cst (.bl false))) .nil) .nil) .nil)) .nil)) (rgN 1 1) ⟨[some (false, A), some (false, B), some (false, .int 0), none], T⟩ = .ok (.rt (.bl false) false) ⟨[some (false, A), some (false, B), some (false, .int 1), some (false, .int 0)], T⟩ := by
        show bnd _ _ _ = _
        rw [u_bnd]
        have hb : bindT [2] (.int ((1 : Nat) : Int)) ⟨[some (false, A), some (false, B), some (false, .int 0), none], T⟩ = .ok () ⟨[some (false, A), some (false, B), some (false, .int 1), none], T⟩ := by dsimp! <;> rfl
        rw [hb]
        show bnd _ _ _ = _
        rw [u_bnd, st_last (st_for h3 hin)]
      refine rb_rt (s := ⟨[some (false, A), some (false, B), some (false, .int 1), some (false, .int 0)], T⟩) rfl (st_last (st_for h1 ?_)) rfl
      exact for_cons (s1 := ⟨[some (false, A), some (false, B), some (false, .int 0), none], T⟩) (by dsimp! <;> rfl) (st_cons (st_for h2 rfl) st_end) hout
end
end Lb
namespace Lb
open PySem PySem.Spec PyProof.Rows L2 Vf

def wl : List Vc → Vc → List Vc × Option Vc
  | [], a => ([], some a)
  | t :: R, a => if al t a then (if nz (vadd t a) then wl R (vadd t a) else (R, none)) else (t :: R, some a)
def stepS (R : List Vc) (a : Vc) : List Vc := match wl R a with
  | (R', some b) => if nz b then b :: R' else R'
  | (R', none) => R'
def shF (p : List Vc) : List Vc := (p.foldl stepS []).reverse
def optD : Option Vc → D
  | none => .non
  | some a => stepD a
def WB (s N B : Nat) : List Vc → Nat → Prop
  | [], _ => True
  | a :: R, n => ∃ c m, c + m ≤ n ∧ a.length = s ∧ (∀ r ∈ a, Nc N (c * B) r) ∧ WB s N B R m
theorem WB.mono {s N B : Nat} : ∀ {R : List Vc} {n m : Nat}, WB s N B R n → n ≤ m → WB s N B R m
  | [], _, _, _, _ => trivial
  | _ :: _, _, _, ⟨c, k, h1, h2, h3, h4⟩, h => ⟨c, k, by omega, h2, h3, h4⟩
theorem vadd_nc {N B C : Nat} (h0 : N ≠ 0) : ∀ {a b : Vc}, (∀ r ∈ a, Nc N B r) → (∀ r ∈ b, Nc N C r) → ∀ r ∈ vadd a b, Nc N (B + C) r
  | [], _, _, _, r, h => by unfold vadd at h; simp at h
  | _ :: _, [], _, _, r, h => by unfold vadd at h; simp at h
  | p :: a, q :: b, h1, h2, r, h => by
    rcases List.mem_cons.mp (show r ∈ (p + q) :: vadd a b from h) with rfl | h
    · exact (h1 p (List.mem_cons_self ..)).add h0 (h2 q (List.mem_cons_self ..))
    · exact vadd_nc h0 (fun u hu => h1 u (List.mem_cons_of_mem _ hu)) (fun u hu => h2 u (List.mem_cons_of_mem _ hu)) r h
theorem vadd_len {s : Nat} {a b : Vc} (ha : a.length = s) (hb : b.length = s) : (vadd a b).length = s := by
  unfold vadd
  rw [List.length_zipWith, ha, hb, Nat.min_self]
section
variable {x : IX} {F : FT} {T : Vf.TP} (K : KR F x)
theorem nz_comp {p0 p1 p2 p3 p5 : Option (Bool × D)} : ∀ a : Vc,
    compL [4] [4] (Vf.ret true) (evE F (.prim (.cmp .NotEq) (.cons (.var 4) (.cons (.glo "ZERO" (.ktup [(.int (0)), (.int (1))])) .nil)))) (rDs a) ⟨[p0, p1, p2, p3, none, p5], T⟩ = .ok (a.map fun r => .bl (decide (r ≠ 0))) ⟨[p0, p1, p2, p3, none, p5], T⟩
  | [] => rfl
  | r :: a => by
    have ih := nz_comp (p0 := p0) (p1 := p1) (p2 := p2) (p3 := p3) (p5 := p5) a
    have g := eqZ false r
    show compL _ _ _ _ (rD false r :: rDs a) _ = .ok (.bl (decide (r ≠ 0)) :: a.map _) _
    refine comp_yes (x := (.bl (decide (r ≠ 0)), false)) (s1 := ⟨[p0, p1, p2, p3, some (false, rD false r), p5], T⟩) (s2 := ⟨[p0, p1, p2, p3, some (false, rD false r), p5], T⟩) (s3 := ⟨[p0, p1, p2, p3, some (false, rD false r), p5], T⟩) ?_ rfl ?_ ih
    · dsimp!
    · by_cases h : r = 0
      · rw [decide_eq_true h] at g
        have hd : decide (r ≠ 0) = false := by simp [h]
        rw [hd]
        dsimp! [g]
      · rw [decide_eq_false h] at g
        have hd : decide (r ≠ 0) = true := by simp [h]
        rw [hd]
        dsimp! [g]
theorem nz_any (a : Vc) : bltD "any" [.lst (a.map fun r => .bl (decide (r ≠ 0)))] = some (.bl (nz a), false) := by
  show (blsD (a.map fun r => .bl (decide (r ≠ 0)))).map _ = _
  have : ∀ a : Vc, blsD (a.map fun r => D.bl (decide (r ≠ 0))) = some (a.map fun r => decide (r ≠ 0)) := fun a => by
    induction a with
    | nil => rfl
    | cons r a ih =>
      rw [List.map_cons, List.map_cons]
      unfold blsD
      rw [ih]
      rfl
  rw [this]
  show some (D.bl ((a.map fun r => decide (r ≠ 0)).any id), false) = _
  rw [List.any_map]
  rfl
theorem nz_ev {p0 p1 p2 p5 : Option (Bool × D)} (a : Vc) (ha : a.length ≤ 1000) : evE F (.prim (.blt "any") (.cons (.comp [4] [4] (.ex (.var 3)) .nil (.prim (.cmp .NotEq) (.cons (.var 4) (.cons (.glo "ZERO" (.ktup [(.int (0)), (.int (1))])) .nil)))) .nil)) ⟨[p0, p1, p2, some (false, stepD a), none, p5], T⟩ = .ok (.bl (nz a), false) ⟨[p0, p1, p2, some (false, stepD a), none, p5], T⟩ := by
  have hc := ev_comp0 (F := F) (own := [4]) (tg := [4]) (it := .ex (.var 3)) (s := ⟨[p0, p1, p2, some (false, stepD a), none, p5], T⟩) (s0 := ⟨[p0, p1, p2, some (false, stepD a), none, p5], T⟩) (ds := rDs a) (by unfold stepD; dsimp!) rfl (nz_comp a) (decide_eq_true (by rw [List.length_map]; show _ ≤ 2 ^ 24; omega))
  exact ev_blt1 (F := F) (p := .blt "any") (fun _ h => by cases h) hc (nz_any a)
include K
theorem add_comp {p0 p1 p2 p3 : Option (Bool × D)} : ∀ a b : Vc, (∀ r ∈ a, Bd r) → (∀ r ∈ b, Bd r) →
    compL [4, 5] [4, 5] (Vf.ret true) (evE F (.call x.radd (.cons (.var 4) (.cons (.var 5) .nil)))) (List.zipWith Vf.pairD (rDs a) (rDs b)) ⟨[p0, p1, p2, p3, none, none], T⟩ = .ok (rDs (vadd a b)) ⟨[p0, p1, p2, p3, none, none], T⟩
  | [], _, _, _ => by unfold rDs vadd; rfl
  | _ :: _, [], _, _ => rfl
  | r :: a, q :: b, ha, hb => by
    have ih := add_comp (p0 := p0) (p1 := p1) (p2 := p2) (p3 := p3) a b (fun u hu => ha u (List.mem_cons_of_mem _ hu)) (fun u hu => hb u (List.mem_cons_of_mem _ hu))
    have g := K.add T r q false false (ha r (List.mem_cons_self ..)) (hb q (List.mem_cons_self ..))
    show compL _ _ _ _ (Vf.pairD (rD false r) (rD false q) :: List.zipWith Vf.pairD (rDs a) (rDs b)) _ = .ok (rD false (r + q) :: rDs (vadd a b)) _
    refine comp_yes (x := (rD false (r + q), false)) (s1 := ⟨[p0, p1, p2, p3, some (false, rD false r), some (false, rD false q)], T⟩) (s2 := ⟨[p0, p1, p2, p3, some (false, rD false r), some (false, rD false q)], T⟩) (s3 := ⟨[p0, p1, p2, p3, some (false, rD false r), some (false, rD false q)], T⟩) ?_ rfl ?_ ih
    · unfold Vf.pairD; dsimp!
    · dsimp! [g]
end
abbrev SC (x : IX) : Ex := .and (.prim (.cmp .NotEq) (.cons (.var 1) (.cons (.lst .nil) .nil))) (.and (.prim (.isN false) (.cons (.var 3) .nil)) (.call x.are_along (.cons (.prim .idx (.cons (.var 1) (.cons (.prim .neg (.cons (.cst (.int (1))) .nil)) .nil))) (.cons (.var 3) .nil))))
abbrev SW (x : IX) : Sxs := .cons (.set 3 (.prim (.blt "tuple") (.cons (.comp [4, 5] [4, 5] (.zip (.pop 1 .nil) (.var 3)) .nil (.call x.radd (.cons (.var 4) (.cons (.var 5) .nil)))) .nil)))
  (.cons (.ite (.not (.prim (.blt "any") (.cons (.comp [4] [4] (.ex (.var 3)) .nil (.prim (.cmp .NotEq) (.cons (.var 4) (.cons (.glo "ZERO" (.ktup [(.int (0)), (.int (1))])) .nil)))) .nil))) (.cons (.set 3 (.cst .non))
  .nil) .nil)
  .nil)
section
variable {x : IX} {F : FT} {T : Vf.TP} (K : KR F x)
theorem stk_last (R : List Vc) (t : Vc) : stepDs (t :: R).reverse = stepDs R.reverse ++ [stepD t] := by
  unfold stepDs
  rw [List.reverse_cons, List.map_append]
  rfl
theorem non_stop {p0 : Option (Bool × D)} {R : List Vc} (m : Nat) {p2 : Option (Bool × D)} : whileL (bnd (evE F (SC x)) Vf.isB) (evSs F (SW x)) (m + 1) ⟨[p0, some (true, .lst (stepDs R)), p2, some (false, .non), none, none], T⟩ = .ok .nx ⟨[p0, some (true, .lst (stepDs R)), p2, some (false, .non), none, none], T⟩ := by
  have e1 : Vf.eqD (.lst (stepDs R)) (.lst []) = some (decide (R = [])) := eqSL R []
  have ef : fits 0 = true := by decide
  rw [whileL]
  by_cases h : R = []
  · rw [decide_eq_true h] at e1
    dsimp! [ef, e1]
  · rw [decide_eq_false h] at e1
    dsimp! [ef, e1, isND]
include K
theorem wl_loop {s N B : Nat} (hs : s = 1 ∨ s = 2) (hA : ∀ T a b, SOk s a → SOk s b → F x.are_along [stepD a, stepD b] T = .ok (.bl (al a b)) false T) (h0 : N ≠ 0) (hN : N < 2 ^ 1900) (hB : 24 * B < 2 ^ 1900) {p0 p2 : Option (Bool × D)} : ∀ (fuel : Nat) (R : List Vc) (a : Vc) (c m : Nat), R.length + 1 < fuel → c + m ≤ 24 → WB s N B R m → a.length = s → (∀ r ∈ a, Nc N (c * B) r) →
    whileL (bnd (evE F (SC x)) Vf.isB) (evSs F (SW x)) fuel ⟨[p0, some (true, .lst (stepDs R.reverse)), p2, some (false, stepD a), none, none], T⟩ = .ok .nx ⟨[p0, some (true, .lst (stepDs (wl R a).1.reverse)), p2, some (false, optD (wl R a).2), none, none], T⟩ ∧
    ∃ c' m', c' + m' ≤ c + m ∧ WB s N B (wl R a).1 m' ∧ ∀ b, (wl R a).2 = some b → b.length = s ∧ ∀ r ∈ b, Nc N (c' * B) r
  | 0, R, a, c, m, hf, _, _, _, _ => by omega
  | fuel + 1, [], a, c, m, hf, hc, hw, hl, ha => by
    have ef : fits 0 = true := by decide
    have e1 : Vf.eqD (.lst (stepDs [])) (.lst []) = some true := eqSL [] []
    refine ⟨?_, c, m, Nat.le_refl _, trivial, fun b hb => by cases hb; exact ⟨hl, ha⟩⟩
    show whileL _ _ (fuel + 1) ⟨[p0, some (true, .lst (stepDs [])), p2, some (false, stepD a), none, none], T⟩ = .ok .nx ⟨[p0, some (true, .lst (stepDs [])), p2, some (false, stepD a), none, none], T⟩
    rw [whileL]
    dsimp! [ef, e1]
  | fuel + 1, t :: R, a, c, m, hf, hc, ⟨ct, mt, w1, w2, w3, w4⟩, hl, ha => by
    have ef : fits 0 = true := by decide
    have sm : ∀ k, k ≤ 24 → k * B < 2 ^ 1900 := fun k hk => Nat.lt_of_le_of_lt (Nat.mul_le_mul_right _ hk) hB
    have bt : SOk s t := ⟨w2, fun r hr => (w3 r hr).bd h0 hN (sm _ (by omega))⟩
    have ba : SOk s a := ⟨hl, fun r hr => (ha r hr).bd h0 hN (sm _ (by omega))⟩
    have e1 : Vf.eqD (.lst (stepDs R.reverse ++ [stepD t])) (.lst []) = some false := by
      rw [← stk_last]
      have := eqSL (t :: R).reverse []
      rw [decide_eq_false (by simp)] at this
      exact this
    have e2 : idxD (.lst (stepDs R.reverse ++ [stepD t])) (.int (-1)) = some (stepD t, false) := by
      show (at? _ _).map _ = _
      have : at? (-1) (stepDs R.reverse ++ [stepD t]) = some (stepD t) := atI_last _ _
      rw [this]; rfl
    have e3 := hA T t a bt ba
    have e4 : isND false (stepD a) = some (.bl true, false) := rfl
    rw [stk_last]
    have hcond : bnd (evE F (SC x)) Vf.isB ⟨[p0, some (true, .lst (stepDs R.reverse ++ [stepD t])), p2, some (false, stepD a), none, none], T⟩ = .ok (al t a) ⟨[p0, some (true, .lst (stepDs R.reverse ++ [stepD t])), p2, some (false, stepD a), none, none], T⟩ := by
      generalize stepD a = A at e3 e4 ⊢
      generalize stepD t = B at e1 e2 e3 ⊢
      dsimp! [ef, e1, e2, e3, e4]
    rw [whileL, u_bnd, hcond]
    cases q : al t a with
    | false =>
      have hw : wl (t :: R) a = (t :: R, some a) := by show (if al t a = true then _ else _) = _; rw [q]; rfl
      rw [hw]
      refine ⟨?_, c, m, Nat.le_refl _, ⟨ct, mt, w1, w2, w3, w4⟩, fun b hb => by cases hb; exact ⟨hl, ha⟩⟩
      show (if false = true then _ else Vf.ret Fl.nx) _ = _
      rw [if_neg Bool.false_ne_true]
      show Res.ok Fl.nx _ = Res.ok Fl.nx _
      rw [stk_last]
      rfl
    | true =>
      have hlen : (vadd t a).length = s := vadd_len w2 hl
      have hnc := vadd_nc h0 w3 ha
      rw [← Nat.add_mul] at hnc
      have hs12 : s ≤ 1000 := by omega
      have gl : (stepDs R.reverse ++ [stepD t]).getLast? = some (stepD t) := by simp
      have gd : (stepDs R.reverse ++ [stepD t]).dropLast = stepDs R.reverse := by simp
      have hit : evIt F (.zip (.pop 1 .nil) (.var 3)) ⟨[p0, some (true, .lst (stepDs R.reverse ++ [stepD t])), p2, some (false, stepD a), none, none], T⟩ = .ok (List.zipWith Vf.pairD (rDs t) (rDs a)) ⟨[p0, some (true, .lst (stepDs R.reverse)), p2, some (false, stepD a), none, none], T⟩ := by
        have z : zipD (stepD t) (stepD a) = some (List.zipWith Vf.pairD (rDs t) (rDs a)) := rfl
        generalize stepD a = A at z ⊢
        generalize stepD t = B at z gl gd ⊢
        dsimp! [popV, gl, gd, z]
      have hcm := ev_comp0 (F := F) (own := [4, 5]) (tg := [4, 5]) hit rfl (add_comp K (p0 := p0) (p1 := some (true, .lst (stepDs R.reverse))) (p2 := p2) (p3 := some (false, stepD a)) t a bt.2 ba.2) (decide_eq_true (by rw [rDs_len, hlen]; show _ ≤ 2 ^ 24; omega))
      have hb := ev_blt1 (F := F) (p := .blt "tuple") (fun _ h => by cases h) hcm (r := (stepD (vadd t a), false)) rfl
      have hset : evS F (.set 3 (.prim (.blt "tuple") (.cons (.comp [4, 5] [4, 5] (.zip (.pop 1 .nil) (.var 3)) .nil (.call x.radd (.cons (.var 4) (.cons (.var 5) .nil)))) .nil))) ⟨[p0, some (true, .lst (stepDs R.reverse ++ [stepD t])), p2, some (false, stepD a), none, none], T⟩ = .ok .nx ⟨[p0, some (true, .lst (stepDs R.reverse)), p2, some (false, stepD (vadd t a)), none, none], T⟩ := st_set hb
      have hany := nz_ev (F := F) (T := T) (p0 := p0) (p1 := some (true, .lst (stepDs R.reverse))) (p2 := p2) (p5 := none) (vadd t a) (by omega)
      show (if true = true then bnd (evSs F (SW x)) _ else _) _ = _ ∧ _
      rw [if_pos rfl, u_bnd]
      cases hz : nz (vadd t a) with
      | true =>
        rw [hz] at hany
        have hbody : evSs F (SW x) ⟨[p0, some (true, .lst (stepDs R.reverse ++ [stepD t])), p2, some (false, stepD a), none, none], T⟩ = .ok .nx ⟨[p0, some (true, .lst (stepDs R.reverse)), p2, some (false, stepD (vadd t a)), none, none], T⟩ :=
          st_cons hset (st_cons (st_ite_f (fr := false) (ev_not hany) st_end) st_end)
        rw [hbody]
        have hw : wl (t :: R) a = wl R (vadd t a) := by show (if al t a = true then (if nz (vadd t a) = true then _ else _) else _) = _; rw [q, hz]; rfl
        rw [hw]
        rw [List.length_cons] at hf
        obtain ⟨g1, c', m', g2, g3, g4⟩ := wl_loop hs hA h0 hN hB (p0 := p0) (p2 := p2) fuel R (vadd t a) (ct + c) mt (by omega) (by omega) w4 hlen hnc
        exact ⟨g1, c', m', by omega, g3, g4⟩
      | false =>
        rw [hz] at hany
        have hbody : evSs F (SW x) ⟨[p0, some (true, .lst (stepDs R.reverse ++ [stepD t])), p2, some (false, stepD a), none, none], T⟩ = .ok .nx ⟨[p0, some (true, .lst (stepDs R.reverse)), p2, some (false, .non), none, none], T⟩ :=
          st_cons hset (st_cons (st_ite_t (fr := false) (ev_not hany) (st_cons (s1 := ⟨[p0, some (true, .lst (stepDs R.reverse)), p2, some (false, .non), none, none], T⟩) (by dsimp!) st_end)) st_end)
        rw [hbody]
        have hw : wl (t :: R) a = (R, none) := by show (if al t a = true then (if nz (vadd t a) = true then _ else _) else _) = _; rw [q, hz]; rfl
        rw [hw]
        obtain ⟨f2, rfl⟩ : ∃ f2, fuel = f2 + 1 := ⟨fuel - 1, by rw [List.length_cons] at hf; omega⟩
        exact ⟨non_stop f2, 0, mt, by omega, w4, fun b hb => by cases hb⟩
theorem sh_loop {s N B : Nat} (hs : s = 1 ∨ s = 2) (hA : ∀ T a b, SOk s a → SOk s b → F x.are_along [stepD a, stepD b] T = .ok (.bl (al a b)) false T) (h0 : N ≠ 0) (hN : N < 2 ^ 1900) (hB : 24 * B < 2 ^ 1900) {p0 : Option (Bool × D)} : ∀ (q R : List Vc) (m : Nat) (y z : Option (Bool × D)), m + q.length ≤ 24 → R.length ≤ m → WB s N B R m → (∀ a ∈ q, a.length = s ∧ ∀ r ∈ a, Nc N B r) →
    ∃ y' z', forL [2] (evSs F (.cons (.set 3 (.var 2)) (.cons (.while_ (SC x) (SW x)) (.cons (.ite (.and (.prim (.isN false) (.cons (.var 3) .nil)) (.prim (.blt "any") (.cons (.comp [4] [4] (.ex (.var 3)) .nil (.prim (.cmp .NotEq) (.cons (.var 4) (.cons (.glo "ZERO" (.ktup [(.int (0)), (.int (1))])) .nil)))) .nil))) (.cons (.app 1 (.var 3)) .nil) .nil) .nil)))) (stepDs q) ⟨[p0, some (true, .lst (stepDs R.reverse)), y, z, none, none], T⟩ =
      .ok .nx ⟨[p0, some (true, .lst (stepDs (q.foldl stepS R).reverse)), y', z', none, none], T⟩
  | [], R, m, y, z, _, _, _, _ => ⟨y, z, rfl⟩
  | a :: q, R, m, y, z, hl, hRm, hw, hq => by
    obtain ⟨a1, a2⟩ := hq a (List.mem_cons_self ..)
    rw [List.length_cons] at hl
    obtain ⟨g1, c', m', g2, g3, g4⟩ := wl_loop K hs hA h0 hN hB (T := T) (p0 := p0) (p2 := some (false, stepD a)) Vf.most R a 1 m (by show _ < 1000000000; omega) (by omega) hw a1 (by rw [Nat.one_mul]; exact a2)
    have hset : evS F (.set 3 (.var 2)) ⟨[p0, some (true, .lst (stepDs R.reverse)), some (false, stepD a), z, none, none], T⟩ = .ok .nx ⟨[p0, some (true, .lst (stepDs R.reverse)), some (false, stepD a), some (false, stepD a), none, none], T⟩ := by dsimp!
    have hs12 : s ≤ 1000 := by omega
    have hRl : (wl R a).1.length ≤ R.length := by
      have : ∀ (R : List Vc) (a : Vc), (wl R a).1.length ≤ R.length := by
        intro R
        induction R with
        | nil => intro a; exact Nat.le_refl _
        | cons t R ih =>
          intro a
          show (if al t a = true then (if nz (vadd t a) = true then wl R (vadd t a) else (R, none)) else (t :: R, some a)).1.length ≤ _
          split
          · split
            · have := ih (vadd t a); rw [List.length_cons]; omega
            · rw [List.length_cons]; exact Nat.le_succ _
          · exact Nat.le_refl _
      exact this R a
    have key : ∀ R2 : List Vc, stepS R a = R2 → R2.length ≤ m + 1 → WB s N B R2 (m + 1) → ∀ z2, evS F (.ite (.and (.prim (.isN false) (.cons (.var 3) .nil)) (.prim (.blt "any") (.cons (.comp [4] [4] (.ex (.var 3)) .nil (.prim (.cmp .NotEq) (.cons (.var 4) (.cons (.glo "ZERO" (.ktup [(.int (0)), (.int (1))])) .nil)))) .nil))) (.cons (.app 1 (.var 3)) .nil) .nil) ⟨[p0, some (true, .lst (stepDs (wl R a).1.reverse)), some (false, stepD a), some (false, optD (wl R a).2), none, none], T⟩ = .ok .nx ⟨[p0, some (true, .lst (stepDs R2.reverse)), some (false, stepD a), z2, none, none], T⟩ →
        ∃ y' z', forL [2] (evSs F (.cons (.set 3 (.var 2)) (.cons (.while_ (SC x) (SW x)) (.cons (.ite (.and (.prim (.isN false) (.cons (.var 3) .nil)) (.prim (.blt "any") (.cons (.comp [4] [4] (.ex (.var 3)) .nil (.prim (.cmp .NotEq) (.cons (.var 4) (.cons (.glo "ZERO" (.ktup [(.int (0)), (.int (1))])) .nil)))) .nil))) (.cons (.app 1 (.var 3)) .nil) .nil) .nil)))) (stepDs (a :: q)) ⟨[p0, some (true, .lst (stepDs R.reverse)), y, z, none, none], T⟩ =
          .ok .nx ⟨[p0, some (true, .lst (stepDs ((a :: q).foldl stepS R).reverse)), y', z', none, none], T⟩ := fun R2 hR2 hl2 hw2 z2 hite => by
      obtain ⟨y', z', ih⟩ := sh_loop hs hA h0 hN hB (p0 := p0) q R2 (m + 1) (some (false, stepD a)) z2 (by omega) hl2 hw2 (fun b hb => hq b (List.mem_cons_of_mem _ hb))
      refine ⟨y', z', ?_⟩
      show forL [2] _ (stepD a :: stepDs q) _ = _
      rw [List.foldl_cons, hR2]
      exact for_cons (s1 := ⟨[p0, some (true, .lst (stepDs R.reverse)), some (false, stepD a), z, none, none], T⟩) (by dsimp!) (st_cons hset (st_cons (st_while g1) (st_cons hite st_end))) ih
    cases hn : (wl R a).2 with
    | none =>
      refine key (wl R a).1 ?_ (by omega) (g3.mono (by omega)) (some (false, .non)) ?_
      · unfold stepS
        have : wl R a = ((wl R a).1, none) := by rw [← hn]
        rw [this]
      · rw [hn]
        show evS F _ ⟨[p0, some (true, .lst (stepDs (wl R a).1.reverse)), some (false, stepD a), some (false, .non), none, none], T⟩ = _
        dsimp! [isND]
    | some b =>
      obtain ⟨b1, b2⟩ := g4 b hn
      have hany := nz_ev (F := F) (T := T) (p0 := p0) (p1 := some (true, .lst (stepDs (wl R a).1.reverse))) (p2 := some (false, stepD a)) (p5 := none) b (by omega)
      have e4 : isND false (stepD b) = some (.bl true, false) := rfl
      have hst : stepS R a = if nz b then b :: (wl R a).1 else (wl R a).1 := by
        unfold stepS
        have : wl R a = ((wl R a).1, some b) := by rw [← hn]
        rw [this]
      have hand : evE F (.and (.prim (.isN false) (.cons (.var 3) .nil)) (.prim (.blt "any") (.cons (.comp [4] [4] (.ex (.var 3)) .nil (.prim (.cmp .NotEq) (.cons (.var 4) (.cons (.glo "ZERO" (.ktup [(.int (0)), (.int (1))])) .nil)))) .nil))) ⟨[p0, some (true, .lst (stepDs (wl R a).1.reverse)), some (false, stepD a), some (false, stepD b), none, none], T⟩ = .ok (.bl (nz b), false) ⟨[p0, some (true, .lst (stepDs (wl R a).1.reverse)), some (false, stepD a), some (false, stepD b), none, none], T⟩ := by
        have e : ∀ a b : Ex, evE F (.and a b) = bnd (bnd (evE F a) Vf.isB) fun x => if x then evE F b else Vf.ret (.bl false, false) := fun a b => by conv => lhs; unfold evE
        rw [e, u_bnd]
        have h1 : bnd (evE F (.prim (.isN false) (.cons (.var 3) .nil))) Vf.isB ⟨[p0, some (true, .lst (stepDs (wl R a).1.reverse)), some (false, stepD a), some (false, stepD b), none, none], T⟩ = .ok true ⟨[p0, some (true, .lst (stepDs (wl R a).1.reverse)), some (false, stepD a), some (false, stepD b), none, none], T⟩ := by
          generalize stepD b = Bb at e4 ⊢
          dsimp! [e4]
        rw [h1]
        exact hany
      cases hz : nz b with
      | true =>
        rw [hz] at hand hst
        refine key (b :: (wl R a).1) hst (by rw [List.length_cons]; omega) ⟨c', m', by omega, b1, b2, g3⟩ (some (false, stepD b)) ?_
        rw [hn]
        refine st_ite_t (fr := false) hand (st_cons (s1 := ⟨[p0, some (true, .lst (stepDs (b :: (wl R a).1).reverse)), some (false, stepD a), some (false, stepD b), none, none], T⟩) ?_ st_end)
        have es : (stepDs (wl R a).1.reverse).length < sizeLine := by rw [stepDs_len, List.length_reverse]; show _ < 2 ^ 24; omega
        rw [stk_last]
        dsimp! [es]
      | false =>
        rw [hz] at hand hst
        refine key (wl R a).1 hst (by omega) (g3.mono (by omega)) (some (false, stepD b)) ?_
        rw [hn]
        exact st_ite_f (fr := false) hand st_end
theorem r_shortened {s N B : Nat} (hs : s = 1 ∨ s = 2) (hA : ∀ T a b, SOk s a → SOk s b → F x.are_along [stepD a, stepD b] T = .ok (.bl (al a b)) false T) (h0 : N ≠ 0) (hN : N < 2 ^ 1900) (hB : 24 * B < 2 ^ 1900) {p : List Vc} (hl : p.length ≤ 12) (hq : ∀ a ∈ p, a.length = s ∧ ∀ r ∈ a, Nc N B r) (hc : F x.check_path [pathD p] T = .ok .non false T) :
    runB F (B_shortened x) [pathD p] T = .ok (pathD (shF p)) false T := by
  obtain ⟨y', z', g⟩ := sh_loop K hs hA h0 hN hB (T := T) (p0 := some (false, pathD p)) p [] 0 none none (by omega) (Nat.zero_le _) trivial hq
  have ef : fits 0 = true := by decide
  refine rb_rt rfl (st_cons (s1 := ⟨[some (false, pathD p), none, none, none, none, none], T⟩) ?_ (st_cons (s1 := ⟨[some (false, pathD p), some (true, .lst (stepDs [])), none, none, none, none], T⟩) ?_ (st_cons (st_for (s0 := ⟨[some (false, pathD p), some (true, .lst (stepDs [])), none, none, none, none], T⟩) (ds := stepDs p) ?_ g) (st_last (s1 := ⟨[some (false, pathD p), some (true, .lst (stepDs (p.foldl stepS []).reverse)), y', z', none, none], T⟩) ?_)))) rfl
  · dsimp! [B_shortened, hc]
  · dsimp! [ef] <;> rfl
  · unfold pathD; dsimp!
  · dsimp!
    rfl
end
end Lb
namespace Lb
open PySem PySem.Spec PyProof.Rows L2 Vf

def stT : Nat → Vc → List Tm
  | _, [] => []
  | n, r :: a => ([(n : Int)], false, r) :: stT (n + 1) a
def stepF (a : Vc) : List Int → Rat := coef (stT 0 a)
theorem stT_len : ∀ (a : Vc) (n : Nat), (stT n a).length = a.length
  | [], _ => rfl
  | _ :: a, n => by show (stT (n + 1) a).length + 1 = a.length + 1; rw [stT_len a (n + 1)]
theorem stT_mem : ∀ {a : Vc} {n : Nat} {t : Tm}, t ∈ stT n a → ∃ j, j < a.length ∧ t.1 = [((n + j : Nat) : Int)] ∧ t.2.2 ∈ a
  | r :: a, n, t, h => by
    rcases List.mem_cons.mp (show t ∈ ([(n : Int)], false, r) :: stT (n + 1) a from h) with rfl | h
    · exact ⟨0, by simp, rfl, List.mem_cons_self ..⟩
    · obtain ⟨j, h1, h2, h3⟩ := stT_mem h
      refine ⟨j + 1, by rw [List.length_cons]; omega, ?_, List.mem_cons_of_mem _ h3⟩
      rw [h2]
      congr 2
      omega
theorem coef_nc {N B : Nat} (h0 : N ≠ 0) (w : List Int) : ∀ {ts : List Tm}, (∀ t ∈ ts, Nc N B t.2.2) → Nc N (ts.length * B) (coef ts w)
  | [], _ => Nc.zero
  | t :: r, h => by
    rw [List.length_cons, Nat.succ_mul, Nat.add_comm]
    refine Nc.add h0 ?_ (coef_nc h0 w fun u hu => h u (List.mem_cons_of_mem _ hu))
    split
    · exact h t (List.mem_cons_self ..)
    · exact Nc.zero
theorem stepF_nil (a : Vc) : stepF a [] = 0 := by
  unfold stepF
  have : ∀ ts : List Tm, (∀ t ∈ ts, t.1 ≠ []) → coef ts [] = 0 := by
    intro ts
    induction ts with
    | nil => intro _; rfl
    | cons t r ih =>
      intro h
      show (if t.1 = [] then t.2.2 else 0) + coef r [] = 0
      rw [if_neg (h t (List.mem_cons_self ..)), ih fun u hu => h u (List.mem_cons_of_mem _ hu), Rat.add_zero]
  exact this _ fun t ht => by
    obtain ⟨j, _, h, _⟩ := stT_mem ht
    rw [h]; simp
theorem FB_step {W : List (List Int)} {N B : Nat} {a : Vc} (h0 : N ≠ 0) (hl : a.length ≤ 4) (ha : ∀ r ∈ a, Nc N B r) : FB W N (4 * B) (stepF a) := fun w _ => by
  have := coef_nc h0 w (ts := stT 0 a) (B := B) fun t ht => by obtain ⟨j, _, _, h⟩ := stT_mem ht; exact ha _ h
  rw [stT_len] at this
  exact this.mono (Nat.mul_le_mul_right _ hl)
def sigF (d : Nat) (S : List Int → Rat) : List Vc → List Int → Rat
  | [] => S
  | a :: p => sigF d (conv S (expF (stepF a) d)) p
def SN (N : Nat) : Nat → Nat
  | 0 => 1
  | j + 1 => SN N j * N
def SBf (C : Nat) : Nat → Nat
  | 0 => 1
  | j + 1 => 11 * (SBf C j * C)
theorem SN_ne {N : Nat} (h : N ≠ 0) : ∀ j, SN N j ≠ 0
  | 0 => Nat.one_ne_zero
  | j + 1 => Nat.mul_ne_zero (SN_ne h j) h
def SBd (N C n : Nat) : Prop := N ≠ 0 ∧ N < 2 ^ 1900 ∧ C < 2 ^ 1900 ∧ ∀ j, j < n → SN N j < 2 ^ 1900 ∧ SBf C j < 2 ^ 1900 ∧ SN N j * N < 2 ^ 1900 ∧ 10001 * (SBf C j * C) < 2 ^ 1900
theorem sigF_snoc (d : Nat) (a : Vc) : ∀ (p : List Vc) (S : List Int → Rat), sigF d S (p ++ [a]) = conv (sigF d S p) (expF (stepF a) d)
  | [], S => rfl
  | b :: p, S => sigF_snoc d a p _
theorem FB_sig {W : List (List Int)} {d N B : Nat} (h : WL W d) (h0 : N ≠ 0) : ∀ (q : List Vc) (j : Nat) (S : List Int → Rat), FB W (SN (NN N d) j) (SBf (CC N (4 * B) d) j) S → (∀ a ∈ q, a.length ≤ 4 ∧ ∀ r ∈ a, Nc N B r) → FB W (SN (NN N d) (j + q.length)) (SBf (CC N (4 * B) d) (j + q.length)) (sigF d S q)
  | [], j, S, hS, _ => hS
  | a :: q, j, S, hS, hq => by
    obtain ⟨a1, a2⟩ := hq a (List.mem_cons_self ..)
    have hE := FB_exp h (FB_step (W := W) h0 a1 a2) h0 d
    have := FB_sig h h0 q (j + 1) _ (hS.conv h hE (SN_ne (NN_ne h0 d) j) (NN_ne h0 d)) (fun b hb => hq b (List.mem_cons_of_mem _ hb))
    rw [List.length_cons, show j + (q.length + 1) = j + 1 + q.length by omega]
    exact this
section
variable {x : IX} {F : FT} {T : Vf.TP}
theorem ss_comp {a : Option (Bool × D)} : ∀ (v : Vc) (n : Nat),
    compL [1, 2] [1, 2] (Vf.ret true) (evE F (.tup (.cons (.tup (.cons (.var 1) .nil)) (.cons (.var 2) .nil)))) (enumD n (rDs v)) ⟨[a, none, none], T⟩ = .ok (tms (stT n v)) ⟨[a, none, none], T⟩
  | [], _ => rfl
  | r :: v, n => by
    have ih := ss_comp (a := a) v (n + 1)
    have ef1 : fits 1 = true := by decide
    have ef2 : fits 2 = true := by decide
    show compL _ _ _ _ (.tup [.int n, rD false r] :: enumD (n + 1) (rDs v)) _ = .ok (tmD ([(n : Int)], false, r) :: tms (stT (n + 1) v)) _
    refine comp_yes (x := (tmD ([(n : Int)], false, r), false)) (s1 := ⟨[a, some (false, .int n), some (false, rD false r)], T⟩) (s2 := ⟨[a, some (false, .int n), some (false, rD false r)], T⟩) (s3 := ⟨[a, some (false, .int n), some (false, rD false r)], T⟩) ?_ rfl ?_ ih
    · dsimp!
    · dsimp! [ef1, ef2]
      rfl
theorem ev_call1 {i : Nat} {e : Ex} {s s1 : S} {d r : D} {fr fr2 : Bool} {T1 : Vf.TP} (h : evE F e s = .ok (d, fr) s1) (g : F i [d] s1.T = .ok r fr2 T1) : evE F (.call i (.cons e .nil)) s = .ok (r, fr2) { s1 with T := T1 } := by
  unfold evE
  simp only [evEs, u_bnd, h, u_retS, List.map_cons, List.map_nil, callM, g]
theorem r_stepsum {v : Vc} {o : D} (hl : v.length ≤ 1000) (h : F x.gathered [.lst (tms (stT 0 v))] T = .ok o false T) : runB F (B_step_sum x) [stepD v] T = .ok o false T := by
  have hc := ev_comp0 (F := F) (own := [1, 2]) (tg := [1, 2]) (it := .enm (.var 0)) (s := ⟨[some (false, stepD v), none, none], T⟩) (s0 := ⟨[some (false, stepD v), none, none], T⟩) (ds := enumD 0 (rDs v)) (by unfold stepD; dsimp!) rfl (ss_comp v 0) (decide_eq_true (by unfold tms; rw [List.length_map, stT_len]; show _ ≤ 2 ^ 24; omega))
  exact rb_rt (s := ⟨[some (false, stepD v), none, none], T⟩) rfl (st_last (st_ret (fun _ h => by cases h) (ev_call1 hc h))) rfl
theorem sig_loop (K : KS F x) {W : List (List Int)} {d N B n : Nat} (h : WL W d) (h0 : N ≠ 0) (hN : N < 2 ^ 1900) (hB : 101 * (4 * B) < 2 ^ 1900) (hS : SBd (NN N d) (CC N (4 * B) d) n)
    (hst : ∀ T a, a.length ≤ 4 → (∀ j : Nat, j < a.length → [(j : Int)] ∈ W) → (∀ r ∈ a, Nc N B r) → ∃ fl, F x.step_sum [stepD a] T = .ok (sD (canon W (stepF a) fl)) false T)
    (hex : ∀ T a fl, FB W N (4 * B) (stepF a) → ∃ gl, F x.exponential [sD (canon W (stepF a) fl), .int (d : Nat)] T = .ok (sD (canon W (expF (stepF a) d) gl)) false T) {p0 : Option (Bool × D)} :
    ∀ (q : List Vc) (j : Nat) (S : List Int → Rat) (fl : List Int → Bool) (y : Option (Bool × D)), j + q.length ≤ n → FB W (SN (NN N d) j) (SBf (CC N (4 * B) d) j) S → (∀ a ∈ q, a.length ≤ 4 ∧ (∀ j : Nat, j < a.length → [(j : Int)] ∈ W) ∧ ∀ r ∈ a, Nc N B r) →
    ∃ gl y', forL [3] (evSs F (.cons (.set 2 (.call x.cut_product (.cons (.var 2) (.cons (.call x.exponential (.cons (.call x.step_sum (.cons (.var 3) .nil)) (.cons (.var 1) .nil))) (.cons (.var 1) .nil))))) .nil)) (stepDs q) ⟨[p0, some (false, .int (d : Nat)), some (false, sD (canon W S fl)), y], T⟩ =
      .ok .nx ⟨[p0, some (false, .int (d : Nat)), some (false, sD (canon W (sigF d S q) gl)), y'], T⟩
  | [], j, S, fl, y, _, _, _ => ⟨fl, y, rfl⟩
  | a :: q, j, S, fl, y, hj, hSj, hq => by
    obtain ⟨a1, a2, a3⟩ := hq a (List.mem_cons_self ..)
    rw [List.length_cons] at hj
    obtain ⟨c0, c1, c2, c3⟩ := hS
    obtain ⟨b1, b2, b3, b4⟩ := c3 j (by omega)
    have hFs := FB_step (W := W) h0 a1 a3
    have hE := FB_exp h hFs h0 d
    obtain ⟨l1, g1⟩ := hst T a a1 a2 a3
    obtain ⟨l2, g2⟩ := hex T a l1 hFs
    obtain ⟨l3, g3⟩ := K.cut T W d S (expF (stepF a) d) fl l2 _ _ _ _ h hSj hE (SN_ne c0 j) c0 b1 c1 b2 c2 b3 b4
    obtain ⟨gl, y', ih⟩ := sig_loop K h h0 hN hB ⟨c0, c1, c2, c3⟩ hst hex (p0 := p0) q (j + 1) (conv S (expF (stepF a) d)) l3 (some (false, stepD a)) (by omega) (hSj.conv h hE (SN_ne c0 j) c0) (fun b hb => hq b (List.mem_cons_of_mem _ hb))
    refine ⟨gl, y', ?_⟩
    show forL [3] _ (stepD a :: stepDs q) _ = _
    refine for_cons (s1 := ⟨[p0, some (false, .int (d : Nat)), some (false, sD (canon W S fl)), some (false, stepD a)], T⟩) (s2 := ⟨[p0, some (false, .int (d : Nat)), some (false, sD (canon W (conv S (expF (stepF a) d)) l3)), some (false, stepD a)], T⟩) (by dsimp!) ?_ ih
    generalize sD (canon W (conv S (expF (stepF a) d)) l3) = R at g3 ⊢
    generalize sD (canon W S fl) = S0 at g3 ⊢
    generalize sD (canon W (expF (stepF a) d) l2) = E0 at g2 g3
    generalize sD (canon W (stepF a) l1) = F0 at g1 g2
    generalize stepD a = A at g1 ⊢
    dsimp! [g1, g2, g3]
theorem r_signature (K : KS F x) {W : List (List Int)} {d N B : Nat} {p : List Vc} (h : WL W d) (h0 : N ≠ 0) (hN : N < 2 ^ 1900) (hB : 101 * (4 * B) < 2 ^ 1900) (hS : SBd (NN N d) (CC N (4 * B) d) p.length)
    (hst : ∀ T a, a.length ≤ 4 → (∀ j : Nat, j < a.length → [(j : Int)] ∈ W) → (∀ r ∈ a, Nc N B r) → ∃ fl, F x.step_sum [stepD a] T = .ok (sD (canon W (stepF a) fl)) false T)
    (hex : ∀ T a fl, FB W N (4 * B) (stepF a) → ∃ gl, F x.exponential [sD (canon W (stepF a) fl), .int (d : Nat)] T = .ok (sD (canon W (expF (stepF a) d) gl)) false T)
    (hp : F x.check_path [pathD p] T = .ok .non false T) (hq : ∀ a ∈ p, a.length ≤ 4 ∧ (∀ j : Nat, j < a.length → [(j : Int)] ∈ W) ∧ ∀ r ∈ a, Nc N B r) :
    ∃ gl, runB F (B_signature x) [pathD p, .int (d : Nat)] T = .ok (sD (canon W (sigF d delta p) gl)) false T := by
  obtain ⟨gl, y', g⟩ := sig_loop K (T := T) (p0 := some (false, pathD p)) h h0 hN hB hS hst hex p 0 delta (fun _ => true) none (by omega) (FB_delta W) hq
  have e2 := K.dep T d h.dl
  have e5 := K.one T W (srt_nodup h.srt) h.nil
  refine ⟨gl, ?_⟩
  refine rb_rt rfl (st_cons (s1 := ⟨[some (false, pathD p), some (false, .int (d : Nat)), none, none], T⟩) ?_ (st_cons (s1 := ⟨[some (false, pathD p), some (false, .int (d : Nat)), none, none], T⟩) ?_ (st_cons (s1 := ⟨[some (false, pathD p), some (false, .int (d : Nat)), some (false, sD (canon W delta fun _ => true)), none], T⟩) ?_ (st_cons (st_for (s0 := ⟨[some (false, pathD p), some (false, .int (d : Nat)), some (false, sD (canon W delta fun _ => true)), none], T⟩) (ds := stepDs p) ?_ g) (st_last (s1 := ⟨[some (false, pathD p), some (false, .int (d : Nat)), none, y'], T⟩) ?_))))) rfl
  · dsimp! [B_signature, hp]
  · dsimp! [e2]
  · dsimp! [e5]
  · unfold pathD; dsimp!
  · dsimp!
theorem r_alike {p q p' q' : List Vc} (h1 : F x.shortened [pathD p] T = .ok (pathD p') false T) (h2 : F x.shortened [pathD q] T = .ok (pathD q') false T) : runB F (B_are_alike x) [pathD p, pathD q] T = .ok (.bl (decide (p' = q'))) false T := by
  have e := eqP p' q'
  refine rb_rt rfl (st_last (s1 := ⟨[some (false, pathD p), some (false, pathD q)], T⟩) ?_) rfl
  generalize pathD p = A at h1 ⊢
  generalize pathD q = B at h2 ⊢
  generalize pathD p' = A' at h1 e
  generalize pathD q' = B' at h2 e
  dsimp! [B_are_alike, h1, h2, e]
theorem okTs : ∀ ts : List Tm, okDs 59 (tms ts) = true
  | [] => by unfold tms okDs; rfl
  | t :: r => by
    have h := okTs r
    have h2 := ok_iD t.1 57
    show okDs 59 (tmD t :: tms r) = true
    unfold okDs
    rw [h]
    show ((okDs 57 (iD t.1) && (okD 58 (rD t.2.1 t.2.2) && true)) && true) = true
    rw [h2]
    cases t.2.1 <;> rfl
theorem eqSum0 (ts : List Tm) : Vf.eqD (sD ts) (.tup []) = some (decide (ts = [])) := by
  have h1 := okTs ts
  have e : Vf.eqD (sD ts) (.tup []) = if okD 60 (sD ts) && okD 60 (.tup []) then some (PyData.eqv (pd (sD ts)) (pd (.tup []))) else none := rfl
  have hk : (okD 60 (sD ts) && okD 60 (.tup [])) = true := by
    show (okDs 59 (tms ts) && _) = true
    rw [h1]; rfl
  rw [e, if_pos hk]
  cases ts <;> rfl
def headD (ts : List Tm) : D := match ts with
  | [] => .non
  | t :: _ => wordD t.1
theorem r_unlike {A B : D} {n : Nat} {a b : D} {ts : List Tm} (h1 : F x.signature [A, .int (n : Nat)] T = .ok a false T) (h2 : F x.signature [B, .int (n : Nat)] T = .ok b false T) (h3 : F x.sminus [a, b] T = .ok (sD ts) false T) : runB F (B_first_unlike x) [A, B, .int (n : Nat)] T = .ok (headD ts) false T := by
  have e := eqSum0 ts
  have ef : fits 0 = true := by decide
  refine rb_rt rfl (st_cons (s1 := ⟨[some (false, A), some (false, B), some (false, .int (n : Nat)), some (false, sD ts)], T⟩) ?_ (st_last (s1 := ⟨[some (false, A), some (false, B), some (false, .int (n : Nat)), some (false, sD ts)], T⟩) ?_)) rfl
  · dsimp! [B_first_unlike, h1, h2, h3]
  · cases ts with
    | nil =>
      rw [decide_eq_true rfl] at e
      show evS F _ _ = .ok (.rt .non false) _
      generalize sD [] = Z at e ⊢
      dsimp! [ef, e]
    | cons t r =>
      rw [decide_eq_false (by intro z; cases z)] at e
      have i1 : idxD (sD (t :: r)) (.int 0) = some (tmD t, false) := u_ix0
      have i2 : idxD (tmD t) (.int 0) = some (wordD t.1, false) := u_ix0
      show evS F _ _ = .ok (.rt (wordD t.1) false) _
      generalize sD (t :: r) = Z at e i1 ⊢
      dsimp! [ef, e, i1, i2]
end
end Lb
namespace Lb
open PySem PySem.Spec PyProof.Rows L2 Vf

mutual
def simB : Nat → D → D → Bool
  | _, .int a, .int b => decide (a = b)
  | _, .non, .non => true
  | _, .bl a, .bl b => a == b
  | n + 1, .tup a, .tup b => simBs n a b && decide (b.length ≤ 10000)
  | n + 1, .ktup a, .tup b => simBs n a b && decide (b.length ≤ 10000)
  | n + 1, .tup a, .ktup b => simBs n a b && decide (b.length ≤ 10000)
  | n + 1, .ktup a, .ktup b => simBs n a b && decide (b.length ≤ 10000)
  | _, _, _ => false
def simBs : Nat → List D → List D → Bool
  | _, [], [] => true
  | n, a :: r, b :: t => simB n a b && simBs n r t
  | _, _, _ => false
end
theorem simBs_get : ∀ {n : Nat} {a b : List D}, simBs n a b = true → a.length = b.length ∧ ∀ j : Nat, ∀ p q, a[j]? = some p → b[j]? = some q → simB n p q = true
  | n, [], [], _ => ⟨rfl, fun j p q h => by simp at h⟩
  | n, [], _ :: _, h => by simp [simBs] at h
  | n, _ :: _, [], h => by simp [simBs] at h
  | n, a :: r, b :: t, h => by
    simp only [simBs, Bool.and_eq_true] at h
    obtain ⟨h1, h2⟩ := simBs_get h.2
    refine ⟨by rw [List.length_cons, List.length_cons, h1], fun j p q hp hq => ?_⟩
    cases j with
    | zero =>
      simp only [List.getElem?_cons_zero, Option.some.injEq] at hp hq
      subst hp hq; exact h.1
    | succ j =>
      simp only [List.getElem?_cons_succ] at hp hq
      exact h2 j p q hp hq
section
variable {x : IX} {F : FT} {T : Vf.TP}
theorem same_int (i : Int) : runB F (B_l_same x) [.int i, .int i] T = .ok (.bl true) false T := by
  refine rb_rt rfl (st_cons (s1 := ⟨[some (false, .int i), some (false, .int i), none], T⟩) ?_ (st_cons (s1 := ⟨[some (false, .int i), some (false, .int i), none], T⟩) ?_ (st_cons (s1 := ⟨[some (false, .int i), some (false, .int i), none], T⟩) ?_ (st_cons (s1 := ⟨[some (false, .int i), some (false, .int i), none], T⟩) ?_ (st_last (s1 := ⟨[some (false, .int i), some (false, .int i), none], T⟩) ?_))))) rfl
  · dsimp! [B_l_same, isND]
  · dsimp!
  · dsimp!
  · dsimp!
  · dsimp!
theorem same_non : runB F (B_l_same x) [.non, .non] T = .ok (.bl true) false T := by
  refine rb_rt rfl (st_last (s1 := ⟨[some (false, .non), some (false, .non), none], T⟩) ?_) rfl
  dsimp! [B_l_same, isND]
theorem same_bl (b : Bool) : runB F (B_l_same x) [.bl b, .bl b] T = .ok (.bl true) false T := by
  refine rb_rt rfl (st_cons (s1 := ⟨[some (false, .bl b), some (false, .bl b), none], T⟩) ?_ (st_last (s1 := ⟨[some (false, .bl b), some (false, .bl b), none], T⟩) ?_)) rfl
  · dsimp! [B_l_same, isND]
  · dsimp!
theorem idx_tk {d : D} {ds : List D} (ht : tupOf d = some ds) {j : Nat} {p : D} (h : ds[j]? = some p) : idxD d (.int (j : Nat)) = some (p, false) := by
  have e : at? ((j : Nat) : Int) ds = some p := atI_nat h
  cases d with
  | tup a => cases ht; show (at? _ ds).map _ = _; rw [e]; rfl
  | ktup a => cases ht; show (at? _ ds).map _ = _; rw [e]; rfl
  | _ => cases ht
theorem same_comp {d e : D} {ds es : List D} (hd : tupOf d = some ds) (he : tupOf e = some es) (hl : ds.length = es.length) (h : ∀ (j : Nat) (p q : D), ds[j]? = some p → es[j]? = some q → F x.l_same [p, q] T = .ok (.bl true) false T) : ∀ (m j : Nat), j + m = es.length →
    compL [2] [2] (Vf.ret true) (evE F (.call x.l_same (.cons (.prim .idx (.cons (.var 0) (.cons (.var 2) .nil))) (.cons (.prim .idx (.cons (.var 1) (.cons (.var 2) .nil))) .nil)))) (rgN j m) ⟨[some (false, d), some (false, e), none], T⟩ = .ok (List.replicate m (.bl true)) ⟨[some (false, d), some (false, e), none], T⟩
  | 0, j, _ => rfl
  | m + 1, j, hj => by
    have ih := same_comp hd he hl h m (j + 1) (by omega)
    have hg1 : ds[j]? = some ds[j] := List.getElem?_eq_getElem (by omega)
    have hg2 : es[j]? = some es[j] := List.getElem?_eq_getElem (by omega)
    have h2 := h j _ _ hg1 hg2
    have i1 := idx_tk hd hg1
    have i2 := idx_tk he hg2
    show compL _ _ _ _ (.int (j : Nat) :: rgN (j + 1) m) _ = .ok (List.replicate (m + 1) _) _
    rw [List.replicate_succ]
    refine comp_yes (x := (.bl true, false)) (s1 := ⟨[some (false, d), some (false, e), some (false, .int (j : Nat))], T⟩) (s2 := ⟨[some (false, d), some (false, e), some (false, .int (j : Nat))], T⟩) (s3 := ⟨[some (false, d), some (false, e), some (false, .int (j : Nat))], T⟩) ?_ rfl ?_ ih
    · dsimp!
    · dsimp! [i1, i2, h2]
theorem len_tk {d : D} {ds : List D} (ht : tupOf d = some ds) : lenD d = some (.int (ds.length : Nat), false) := by
  cases d <;> cases ht <;> rfl
theorem isT_tk {d : D} {ds : List D} (ht : tupOf d = some ds) : Vf.isT "tuple" d = some true ∧ Vf.isT "bool" d = some false ∧ isND true d = some (.bl false, false) := by
  cases d <;> cases ht <;> exact ⟨rfl, rfl, rfl⟩
theorem same_tup {d e : D} {ds es : List D} (hd : tupOf d = some ds) (he : tupOf e = some es) (hl : ds.length = es.length) (hz : es.length ≤ 10000) (h : ∀ (j : Nat) (p q : D), ds[j]? = some p → es[j]? = some q → F x.l_same [p, q] T = .ok (.bl true) false T) : runB F (B_l_same x) [d, e] T = .ok (.bl true) false T := by
  have l1 := len_tk hd
  have l2 := len_tk he
  rw [hl] at l1
  obtain ⟨t1, t2, t3⟩ := isT_tk hd
  obtain ⟨u1, u2, u3⟩ := isT_tk he
  have hc := ev_comp0 (F := F) (own := [2]) (tg := [2]) (it := .rng1 (.prim (.blt "len") (.cons (.var 1) .nil))) (s := ⟨[some (false, d), some (false, e), none], T⟩) (s0 := ⟨[some (false, d), some (false, e), none], T⟩) (ds := rgN 0 es.length) (it_rng1 (fr := false) (by dsimp! [-lenD, l2]) (by omega)) rfl (same_comp hd he hl h es.length 0 (by omega)) (decide_eq_true (by rw [List.length_replicate]; show _ ≤ 2 ^ 24; omega))
  have hb := ev_blt1 (F := F) (p := .blt "all") (fun _ h => by cases h) hc (r := (.bl true, false)) (by
    show (blsD _).map _ = _
    rw [bls_rep]
    show some (D.bl (List.all _ id), false) = _
    rw [all_rep])
  refine rb_rt rfl (st_cons (s1 := ⟨[some (false, d), some (false, e), none], T⟩) ?_ (st_cons (s1 := ⟨[some (false, d), some (false, e), none], T⟩) ?_ (st_last (s1 := ⟨[some (false, d), some (false, e), none], T⟩) ?_))) rfl
  · dsimp! [B_l_same, u3]
  · dsimp! [-Vf.isT, u2]
  · refine st_ite_t (fr := false) (s1 := ⟨[some (false, d), some (false, e), none], T⟩) (by dsimp! [-Vf.isT, u1]) (st_cons (s1 := ⟨[some (false, d), some (false, e), none], T⟩) ?_ (st_last (st_ret (fun _ h => by cases h) hb)))
    dsimp! [-Vf.isT, -lenD, t1, l1, l2]
theorem k_same {Ps : List Fn} (hL : HasL Ps x) (T : Vf.TP) : ∀ (n m : Nat) (d e : D), n + 1 ≤ m → simB n d e = true → Vf.run Ps m x.l_same [d, e] T = .ok (.bl true) false T := by
  intro n
  induction n with
  | zero =>
    intro m d e hm h
    rw [run_m hL.l_same (by omega)]
    cases d <;> cases e <;> simp [simB] at h
    · exact same_non
    · subst h; exact same_bl _
    · subst h; exact same_int _
  | succ n ih =>
    intro m d e hm h
    have tk : ∀ ds es, tupOf d = some ds → tupOf e = some es → (simBs n ds es && decide (es.length ≤ 10000)) = true → Vf.run Ps m x.l_same [d, e] T = .ok (.bl true) false T := fun ds es hd he h => by
      rw [Bool.and_eq_true, decide_eq_true_eq] at h
      obtain ⟨h1, h2⟩ := simBs_get h.1
      rw [run_m hL.l_same (by omega)]
      exact same_tup hd he h1 h.2 fun j p q hp hq => ih (m - 1) p q (by omega) (h2 j p q hp hq)
    cases d with
    | non =>
      cases e with
      | non => rw [run_m hL.l_same (by omega)]; exact same_non
      | _ => simp [simB] at h
    | bl a =>
      cases e with
      | bl b => rw [run_m hL.l_same (by omega)]; simp [simB] at h; subst h; exact same_bl _
      | _ => simp [simB] at h
    | int a =>
      cases e with
      | int b => rw [run_m hL.l_same (by omega)]; simp [simB] at h; subst h; exact same_int _
      | _ => simp [simB] at h
    | str a => cases e <;> simp [simB] at h
    | tup a =>
      cases e with
      | tup b => exact tk a b rfl rfl (by simpa only [simB] using h)
      | ktup b => exact tk a b rfl rfl (by simpa only [simB] using h)
      | _ => simp [simB] at h
    | lst a => cases e <;> simp [simB] at h
    | ktup a =>
      cases e with
      | tup b => exact tk a b rfl rfl (by simpa only [simB] using h)
      | ktup b => exact tk a b rfl rfl (by simpa only [simB] using h)
      | _ => simp [simB] at h
    | dic t a => cases e <;> simp [simB] at h
    | tape => cases e <;> simp [simB] at h
theorem sim_r (n : Nat) (k k' : Bool) (r : Rat) : simB (n + 1) (rD k r) (rD k' r) = true := by
  cases k <;> cases k' <;> simp [rD, simB, simBs]
theorem sim_iD : ∀ (w : List Int) (n : Nat), simBs n (iD w) (iD w) = true
  | [], n => by unfold iD simBs; rfl
  | a :: w, n => by
    have h := sim_iD w n
    show simBs n (.int a :: iD w) (.int a :: iD w) = true
    unfold simBs simB
    rw [h]
    simp
theorem sim_w {w : List Int} (h : w.length ≤ 10000) (n : Nat) : simB (n + 1) (wordD w) (wordD w) = true := by
  show simB (n + 1) (.tup (iD w)) (.tup (iD w)) = true
  unfold simB
  rw [sim_iD, Bool.true_and]
  exact decide_eq_true (by unfold iD; rw [List.length_map]; exact h)
theorem sim_rDs : ∀ (a : Vc) (n : Nat), simBs (n + 1) (rDs a) (rDs a) = true
  | [], n => by unfold rDs simBs; rfl
  | r :: a, n => by
    have h := sim_rDs a n
    show simBs (n + 1) (rD false r :: rDs a) (rD false r :: rDs a) = true
    unfold simBs
    rw [h, sim_r]; rfl
theorem sim_step {a : Vc} (h : a.length ≤ 10000) (n : Nat) : simB (n + 2) (stepD a) (stepD a) = true := by
  show simB (n + 2) (.tup (rDs a)) (.tup (rDs a)) = true
  unfold simB
  rw [sim_rDs, Bool.true_and]
  exact decide_eq_true (by rw [rDs_len]; exact h)
theorem sim_path : ∀ {p : List Vc} (n : Nat), (∀ a ∈ p, a.length ≤ 10000) → simBs (n + 2) (stepDs p) (stepDs p) = true
  | [], n, _ => by unfold stepDs simBs; rfl
  | a :: p, n, h => by
    have h2 := sim_path (p := p) n fun b hb => h b (List.mem_cons_of_mem _ hb)
    show simBs (n + 2) (stepD a :: stepDs p) (stepD a :: stepDs p) = true
    unfold simBs
    rw [h2, sim_step (h a (List.mem_cons_self ..))]; rfl
theorem sim_pathD {p : List Vc} (h1 : p.length ≤ 10000) (h : ∀ a ∈ p, a.length ≤ 10000) : simB 3 (pathD p) (pathD p) = true := by
  show simB 3 (.tup (stepDs p)) (.tup (stepDs p)) = true
  unfold simB
  rw [sim_path 0 h, Bool.true_and]
  exact decide_eq_true (by rw [stepDs_len]; exact h1)
theorem sim_canon {W : List (List Int)} {f : List Int → Rat} (fl gl : List Int → Bool) (hW : ∀ w ∈ W, w.length ≤ 10000) (hl : W.length ≤ 10000) : simB 3 (sD (canon W f fl)) (sD (canon W f gl)) = true := by
  have : ∀ L : List (List Int), (∀ w ∈ L, w.length ≤ 10000) → simBs 2 (tms (canon L f fl)) (tms (canon L f gl)) = true := by
    intro L
    induction L with
    | nil => intro _; rfl
    | cons u L ih =>
      intro h
      have h2 := ih fun w hw => h w (List.mem_cons_of_mem _ hw)
      rw [canon_cons, canon_cons]
      by_cases hz : f u = 0
      · rw [if_neg (fun z => z hz), if_neg (fun z => z hz)]; exact h2
      · rw [if_pos hz, if_pos hz]
        show simBs 2 (tmD (u, fl u, f u) :: tms (canon L f fl)) (tmD (u, gl u, f u) :: tms (canon L f gl)) = true
        unfold simBs
        rw [h2, Bool.and_true]
        show simB 2 (.tup [wordD u, rD (fl u) (f u)]) (.tup [wordD u, rD (gl u) (f u)]) = true
        simp only [simB, simBs, sim_w (h u (List.mem_cons_self ..)) 0, sim_r 0]
        rfl
  show simB 3 (.tup (tms (canon W f fl))) (.tup (tms (canon W f gl))) = true
  unfold simB
  rw [this W hW, Bool.true_and]
  exact decide_eq_true (by unfold tms; rw [List.length_map]; have := canon_len W f gl; omega)
end
theorem rb_rt2 {F : FT} {f : Fd} {ds : List D} {T T' : Vf.TP} {d : D} {fr : Bool} {s : S} (h : ds.length = f.ps) (g : evSs F f.b (startS f.n ds T) = .ok (.rt d fr) s) (t : s.T = T') : runB F f ds T = .ok d fr T' := by
  unfold runB
  rw [if_pos h, g, ← t]

def TOk (T : Vf.TP) : Prop := ∃ cs n, T = some (cs, n) ∧ 0 ≤ n ∧ n < 4294967296
theorem drawn_ok {T : Vf.TP} (h : TOk T) {m : Int} (h1 : 0 < m) (h2 : m < 1073741824) : ∃ v T', TOk T' ∧ 0 ≤ v ∧ v < m ∧ drawP [.tape, .int m] T = .ok (.int v) false T' := by
  obtain ⟨cs, n, rfl, n1, n2⟩ := h
  have hd : (decide (0 < m) && decide (m < 1073741824) && decide (0 ≤ n) && decide (n < 4294967296)) = true := by simp only [Bool.and_eq_true, decide_eq_true_eq]; exact ⟨⟨⟨h1, h2⟩, n1⟩, n2⟩
  refine ⟨(drawT m cs n).1, some (drawT m cs n).2, ?_, ?_, ?_, if_pos hd⟩
  · unfold drawT
    split
    · exact ⟨_, _, rfl, n1, n2⟩
    · refine ⟨_, _, rfl, Int.fmod_nonneg_of_pos _ (by decide), ?_⟩
      have := Int.fmod_lt_of_pos (n * 48271 + 12345) (b := 2147483647) (by decide)
      omega
  · unfold drawT
    split
    · exact Int.fmod_nonneg_of_pos _ h1
    · exact Int.fmod_nonneg_of_pos _ h1
  · unfold drawT
    split
    · exact Int.fmod_lt_of_pos _ h1
    · exact Int.fmod_lt_of_pos _ h1
theorem nc_mk {a : Int} {b : Nat} (ha : a.natAbs ≤ 4) (hb : b = 1 ∨ b = 2 ∨ b = 3) : Nc 6 24 (mkRat a b) := by
  rcases hb with rfl | rfl | rfl
  · refine ⟨a * 6, ?_, by omega⟩
    rw [mkq, mkq, Rat.intCast_mul]
    have : ((1 : Nat) : Rat) = 1 := rfl
    have : ((6 : Nat) : Rat) = 6 := rfl
    have : ((6 : Int) : Rat) = 6 := rfl
    grind
  · refine ⟨a * 3, ?_, by omega⟩
    rw [mkq, mkq, Rat.intCast_mul]
    have : ((2 : Nat) : Rat) = 2 := rfl
    have : ((6 : Nat) : Rat) = 6 := rfl
    have : ((3 : Int) : Rat) = 3 := rfl
    grind
  · refine ⟨a * 2, ?_, by omega⟩
    rw [mkq, mkq, Rat.intCast_mul]
    have : ((3 : Nat) : Rat) = 3 := rfl
    have : ((6 : Nat) : Rat) = 6 := rfl
    have : ((2 : Int) : Rat) = 2 := rfl
    grind
section
variable {x : IX} {F : FT} (K : KL F x)
include K
theorem r_number {T : Vf.TP} (hT : TOk T) : ∃ r T', TOk T' ∧ Nc 6 24 r ∧ runB F (B_l_number x) [.tape] T = .ok (rD false r) false T' := by
  obtain ⟨u, T1, h1, u1, u2, d1⟩ := drawn_ok hT (m := 9) (by decide) (by decide)
  obtain ⟨v, T2, h2, v1, v2, d2⟩ := drawn_ok h1 (m := 3) (by decide) (by decide)
  have e1 : F x.l_draw [.tape, .int 9] T = .ok (.int u) false T1 := by rw [K.draw]; exact d1
  have e2 : F x.l_draw [.tape, .int 3] T1 = .ok (.int v) false T2 := by rw [K.draw]; exact d2
  obtain ⟨b, hb⟩ : ∃ b : Nat, 1 + v = (b : Int) := ⟨(1 + v).toNat, by omega⟩
  have hs : (u - 4).natAbs < 2 ^ 4000 := Nat.lt_trans (show (u - 4).natAbs < 100 by omega) (by decide +kernel)
  have hs2 : b < 2 ^ 4000 := Nat.lt_trans (show b < 100 by omega) (by decide +kernel)
  have e3 := K.frac T2 (u - 4) b (by omega) hs hs2
  refine ⟨mkRat (u - 4) b, T2, h2, nc_mk (by omega) (by omega), ?_⟩
  unfold runB
  dsimp! [B_l_number, e1, e2, hb, e3]
end
section
variable {x : IX} {F : FT} {N B : Nat} (hn : ∀ T, TOk T → ∃ r T', TOk T' ∧ Nc N B r ∧ F x.l_number [.tape] T = .ok (rD false r) false T')
include hn
theorem step_comp {b : Option (Bool × D)} : ∀ (n j : Nat) (T : Vf.TP), TOk T → ∃ a T', TOk T' ∧ a.length = n ∧ (∀ r ∈ a, Nc N B r) ∧
    compL [2] [2] (Vf.ret true) (evE F (.call x.l_number (.cons (.var 0) .nil))) (rgN j n) ⟨[some (false, .tape), b, none], T⟩ = .ok (rDs a) ⟨[some (false, .tape), b, none], T'⟩
  | 0, j, T, hT => ⟨[], T, hT, rfl, (fun _ h => by cases h), rfl⟩
  | n + 1, j, T, hT => by
    obtain ⟨r, T1, h1, q1, e1⟩ := hn T hT
    obtain ⟨a, T2, h2, l2, q2, e2⟩ := step_comp (b := b) n (j + 1) T1 h1
    refine ⟨r :: a, T2, h2, by rw [List.length_cons, l2], fun u hu => (List.mem_cons.mp hu).elim (fun e => e ▸ q1) (q2 u), ?_⟩
    show compL [2] [2] _ _ (.int (j : Nat) :: rgN (j + 1) n) _ = .ok (rD false r :: rDs a) _
    refine comp_yes (x := (rD false r, false)) (s1 := ⟨[some (false, .tape), b, some (false, .int (j : Nat))], T⟩) (s2 := ⟨[some (false, .tape), b, some (false, .int (j : Nat))], T⟩) (s3 := ⟨[some (false, .tape), b, some (false, .int (j : Nat))], T1⟩) ?_ rfl ?_ e2
    · dsimp!
    · dsimp! [e1]
theorem r_step {s : Nat} (hs : s ≤ 4) {T : Vf.TP} (hT : TOk T) : ∃ a T', TOk T' ∧ a.length = s ∧ (∀ r ∈ a, Nc N B r) ∧ runB F (B_l_step x) [.tape, .int (s : Nat)] T = .ok (stepD a) false T' := by
  obtain ⟨a, T', h1, h2, h3, e⟩ := step_comp hn (b := some (false, .int (s : Nat))) s 0 T hT
  have hc := ev_comp0 (F := F) (own := [2]) (tg := [2]) (it := .rng1 (.var 1)) (s := ⟨[some (false, .tape), some (false, .int (s : Nat)), none], T⟩) (s0 := ⟨[some (false, .tape), some (false, .int (s : Nat)), none], T⟩) (ds := rgN 0 s) (it_rng1 (fr := false) (by dsimp!) (by omega)) rfl e (decide_eq_true (by rw [rDs_len, h2]; show _ ≤ 2 ^ 24; omega))
  have hb := ev_blt1 (F := F) (p := .blt "tuple") (fun _ h => by cases h) hc (r := (stepD a, false)) rfl
  refine ⟨a, T', h1, h2, h3, ?_⟩
  exact rb_rt2 (s := ⟨[some (false, .tape), some (false, .int (s : Nat)), none], T'⟩) rfl (st_last (st_ret (fun _ h => by cases h) hb)) rfl
end
section
variable {x : IX} {F : FT} {N B s : Nat} (hd : ∀ ds T, F x.l_draw ds T = drawP ds T) (hst : ∀ T, TOk T → ∃ a T', TOk T' ∧ a.length = s ∧ (∀ r ∈ a, Nc N B r) ∧ F x.l_step [.tape, .int (s : Nat)] T = .ok (stepD a) false T')
include hst
theorem path_comp {c : Option (Bool × D)} : ∀ (n j : Nat) (T : Vf.TP), TOk T → ∃ p T', TOk T' ∧ p.length = n ∧ (∀ a ∈ p, a.length = s ∧ ∀ r ∈ a, Nc N B r) ∧
    compL [3] [3] (Vf.ret true) (evE F (.call x.l_step (.cons (.var 0) (.cons (.var 1) .nil)))) (rgN j n) ⟨[some (false, .tape), some (false, .int (s : Nat)), c, none], T⟩ = .ok (stepDs p) ⟨[some (false, .tape), some (false, .int (s : Nat)), c, none], T'⟩
  | 0, j, T, hT => ⟨[], T, hT, rfl, (fun _ h => by cases h), rfl⟩
  | n + 1, j, T, hT => by
    obtain ⟨a, T1, h1, q1, q2, e1⟩ := hst T hT
    obtain ⟨p, T2, h2, l2, q3, e2⟩ := path_comp (c := c) n (j + 1) T1 h1
    refine ⟨a :: p, T2, h2, by rw [List.length_cons, l2], fun u hu => (List.mem_cons.mp hu).elim (fun e => e ▸ ⟨q1, q2⟩) (q3 u), ?_⟩
    show compL [3] [3] _ _ (.int (j : Nat) :: rgN (j + 1) n) _ = .ok (stepD a :: stepDs p) _
    refine comp_yes (x := (stepD a, false)) (s1 := ⟨[some (false, .tape), some (false, .int (s : Nat)), c, some (false, .int (j : Nat))], T⟩) (s2 := ⟨[some (false, .tape), some (false, .int (s : Nat)), c, some (false, .int (j : Nat))], T⟩) (s3 := ⟨[some (false, .tape), some (false, .int (s : Nat)), c, some (false, .int (j : Nat))], T1⟩) ?_ rfl ?_ e2
    · dsimp!
    · dsimp! [e1]
include hd
theorem r_path {k : Nat} (hk : k ≤ 100) {T : Vf.TP} (hT : TOk T) : ∃ p T', TOk T' ∧ p.length ≤ k ∧ (∀ a ∈ p, a.length = s ∧ ∀ r ∈ a, Nc N B r) ∧ runB F (B_l_path x) [.tape, .int (s : Nat), .int (k : Nat)] T = .ok (pathD p) false T' := by
  obtain ⟨v, T1, g1, v1, v2, d1⟩ := drawn_ok hT (m := (k : Int) + 1) (by omega) (by omega)
  have e1 : F x.l_draw [.tape, .int ((k : Int) + 1)] T = .ok (.int v) false T1 := by rw [hd]; exact d1
  obtain ⟨n, rfl⟩ : ∃ n : Nat, v = n := ⟨v.toNat, by omega⟩
  obtain ⟨p, T2, g2, l2, q2, e2⟩ := path_comp hst (c := some (false, .int (k : Nat))) n 0 T1 g1
  have hc := ev_comp0 (F := F) (own := [3]) (tg := [3]) (it := .rng1 (.call x.l_draw (.cons (.var 0) (.cons (.prim (.bin .Add) (.cons (.var 2) (.cons (.cst (.int (1))) .nil))) .nil)))) (s := ⟨[some (false, .tape), some (false, .int (s : Nat)), some (false, .int (k : Nat)), none], T⟩) (s0 := ⟨[some (false, .tape), some (false, .int (s : Nat)), some (false, .int (k : Nat)), none], T1⟩) (ds := rgN 0 n) (it_rng1 (fr := false) (by dsimp! [e1]) (by omega)) rfl e2 (decide_eq_true (by rw [stepDs_len, l2]; show _ ≤ 2 ^ 24; omega))
  have hb := ev_blt1 (F := F) (p := .blt "tuple") (fun _ h => by cases h) hc (r := (pathD p, false)) rfl
  refine ⟨p, T2, g2, by omega, q2, ?_⟩
  exact rb_rt2 (s := ⟨[some (false, .tape), some (false, .int (s : Nat)), some (false, .int (k : Nat)), none], T2⟩) rfl (st_last (st_ret (fun _ h => by cases h) hb)) rfl
end
end Lb
namespace Lb
open PySem PySem.Spec PyProof.Rows L2 Vf

abbrev S12 (s : Nat) : Prop := s = 1 ∨ s = 2
abbrev Vs (s : Nat) (p : List Vc) : Prop := ∀ a ∈ p, a.length = s
theorem v1 {a : Vc} (h : a.length = 1) : ∃ x, a = [x] := by match a, h with | [x], _ => exact ⟨x, rfl⟩
theorem v2 {a : Vc} (h : a.length = 2) : ∃ x y, a = [x, y] := by match a, h with | [x, y], _ => exact ⟨x, y, rfl⟩
theorem nz1 (x : Rat) : nz [x] = decide (x ≠ 0) := by simp [nz]
theorem nz2 (x y : Rat) : nz [x, y] = decide (x ≠ 0 ∨ y ≠ 0) := by simp [nz]
theorem al2 (a b c d : Rat) : al [a, b] [c, d] = decide (b * c = a * d) := rfl
theorem al1 (a b : Rat) : al [a] [b] = true := rfl
theorem va1 (a b : Rat) : vadd [a] [b] = [a + b] := rfl
theorem va2 (a b c d : Rat) : vadd [a, b] [c, d] = [a + c, b + d] := rfl
section
variable {s : Nat} (hs : S12 s)
include hs
theorem al_sym {a b : Vc} (ha : a.length = s) (hb : b.length = s) (h : al a b = true) : al b a = true := by
  rcases hs with rfl | rfl
  · obtain ⟨x, rfl⟩ := v1 ha; obtain ⟨y, rfl⟩ := v1 hb; rfl
  · obtain ⟨x, y, rfl⟩ := v2 ha; obtain ⟨z, w, rfl⟩ := v2 hb
    rw [al2, decide_eq_true_eq] at h ⊢; grind
theorem al_tr {a b c : Vc} (ha : a.length = s) (hb : b.length = s) (hc : c.length = s) (hz : nz b = true) (h : al a b = true) (g : al b c = true) : al a c = true := by
  rcases hs with rfl | rfl
  · obtain ⟨x, rfl⟩ := v1 ha; obtain ⟨y, rfl⟩ := v1 hc; rfl
  · obtain ⟨x, y, rfl⟩ := v2 ha; obtain ⟨z, w, rfl⟩ := v2 hb; obtain ⟨u, v, rfl⟩ := v2 hc
    rw [al2, decide_eq_true_eq] at h g ⊢
    rw [nz2, decide_eq_true_eq] at hz
    rcases hz with hz | hz
    · have : z * (y * u - x * v) = 0 := by grind
      rcases Rat.mul_eq_zero.mp this with e | e
      · exact (hz e).elim
      · grind
    · have : w * (y * u - x * v) = 0 := by grind
      rcases Rat.mul_eq_zero.mp this with e | e
      · exact (hz e).elim
      · grind
theorem al_self {a : Vc} (ha : a.length = s) : al a a = true := by
  rcases hs with rfl | rfl
  · obtain ⟨x, rfl⟩ := v1 ha; rfl
  · obtain ⟨x, y, rfl⟩ := v2 ha
    rw [al2, decide_eq_true_eq]; grind
theorem al_add {a b c : Vc} (ha : a.length = s) (hb : b.length = s) (hc : c.length = s) (h : al a b = true) (g : al a c = true) : al a (vadd b c) = true := by
  rcases hs with rfl | rfl
  · obtain ⟨x, rfl⟩ := v1 ha; obtain ⟨y, rfl⟩ := v1 hb; obtain ⟨z, rfl⟩ := v1 hc; rfl
  · obtain ⟨x, y, rfl⟩ := v2 ha; obtain ⟨z, w, rfl⟩ := v2 hb; obtain ⟨u, v, rfl⟩ := v2 hc
    rw [va2]
    rw [al2, decide_eq_true_eq] at h g ⊢; grind
theorem al_zero {a z : Vc} (ha : a.length = s) (hz : z.length = s) (h : nz z = false) : al a z = true := by
  rcases hs with rfl | rfl
  · obtain ⟨x, rfl⟩ := v1 ha; obtain ⟨y, rfl⟩ := v1 hz; rfl
  · obtain ⟨x, y, rfl⟩ := v2 ha; obtain ⟨z, w, rfl⟩ := v2 hz
    rw [nz2, decide_eq_false_iff_not] at h
    rw [al2, decide_eq_true_eq]; grind
theorem va_zero {a z : Vc} (ha : a.length = s) (hz : z.length = s) (h : nz z = false) : vadd a z = a ∧ vadd z a = a := by
  rcases hs with rfl | rfl
  · obtain ⟨x, rfl⟩ := v1 ha; obtain ⟨y, rfl⟩ := v1 hz
    rw [nz1, decide_eq_false_iff_not] at h
    rw [va1, va1]
    constructor <;> congr 1 <;> grind
  · obtain ⟨x, y, rfl⟩ := v2 ha; obtain ⟨z, w, rfl⟩ := v2 hz
    rw [nz2, decide_eq_false_iff_not] at h
    have h1 : z = 0 := by grind
    have h2 : w = 0 := by grind
    subst h1; subst h2
    rw [va2, va2, Rat.add_zero, Rat.add_zero, Rat.zero_add, Rat.zero_add]
    exact ⟨rfl, rfl⟩
theorem va_assoc {a b c : Vc} (ha : a.length = s) (hb : b.length = s) (hc : c.length = s) : vadd (vadd a b) c = vadd a (vadd b c) := by
  rcases hs with rfl | rfl
  · obtain ⟨x, rfl⟩ := v1 ha; obtain ⟨y, rfl⟩ := v1 hb; obtain ⟨z, rfl⟩ := v1 hc
    simp only [va1, Rat.add_assoc]
  · obtain ⟨x, y, rfl⟩ := v2 ha; obtain ⟨z, w, rfl⟩ := v2 hb; obtain ⟨u, v, rfl⟩ := v2 hc
    simp only [va2, Rat.add_assoc]
theorem al_sum {t a c : Vc} (ht : t.length = s) (ha : a.length = s) (hc : c.length = s) (h : al t a = true) (hz : nz t = true) (hn : nz (vadd t a) = true) (g : al c t = false) : al c (vadd t a) = false := by
  cases e : al c (vadd t a) with
  | false => rfl
  | true =>
    have h1 : al t (vadd t a) = true := al_add hs ht ht ha (al_self hs ht) h
    have hl : (vadd t a).length = s := vadd_len ht ha
    rw [al_tr hs hc hl ht hn e (al_sym hs ht hl h1)] at g
    cases g
def Red (s : Nat) : List Vc → Prop
  | [] => True
  | [a] => a.length = s ∧ nz a = true
  | a :: b :: r => a.length = s ∧ nz a = true ∧ al b a = false ∧ Red s (b :: r)
omit hs in
theorem Red.tl {a : Vc} {R : List Vc} (h : Red s (a :: R)) : Red s R := by
  cases R with
  | nil => trivial
  | cons b r => exact h.2.2.2
omit hs in
theorem Red.hd {a : Vc} {R : List Vc} (h : Red s (a :: R)) : a.length = s ∧ nz a = true := by
  cases R with
  | nil => exact h
  | cons b r => exact ⟨h.1, h.2.1⟩
theorem Red.ex {a t : Vc} {R : List Vc} (h : Red s (t :: R)) (ha : a.length = s) (h1 : al t a = true) (h2 : nz a = true) : Red s (a :: R) := by
  cases R with
  | nil => exact ⟨ha, h2⟩
  | cons b r =>
    refine ⟨ha, h2, ?_, h.2.2.2⟩
    cases e : al b a with
    | false => rfl
    | true =>
      have hb := Red.hd h.2.2.2
      have := al_tr hs hb.1 ha h.1 h2 e (al_sym hs h.1 ha h1)
      rw [h.2.2.1] at this
      cases this
theorem step_nil {a : Vc} : stepS [] a = if nz a then [a] else [] := rfl
theorem step_al {t a : Vc} {R : List Vc} (h : Red s (t :: R)) (ha : a.length = s) (e : al t a = true) : stepS (t :: R) a = if nz (vadd t a) then vadd t a :: R else R := by
  unfold stepS wl
  rw [if_pos e]
  cases hn : nz (vadd t a) with
  | false => rfl
  | true =>
    rw [if_pos rfl, if_pos rfl]
    cases R with
    | nil => unfold wl; show (if nz (vadd t a) = true then _ else _) = _; rw [if_pos hn]
    | cons b r =>
      have hb := Red.hd h.2.2.2
      have : al b (vadd t a) = false := al_sum hs h.1 ha hb.1 e h.2.1 hn h.2.2.1
      unfold wl
      rw [this]
      show (if nz (vadd t a) = true then _ else _) = _
      rw [if_pos hn]
omit hs in
theorem step_no {t a : Vc} {R : List Vc} (e : al t a = false) (hn : nz a = true) : stepS (t :: R) a = a :: t :: R := by
  unfold stepS wl
  rw [e]
  show (if nz a = true then _ else _) = _
  rw [if_pos hn]
theorem no_nz {t a : Vc} (ht : t.length = s) (ha : a.length = s) (e : al t a = false) : nz a = true := by
  cases h : nz a with
  | true => rfl
  | false => rw [al_zero hs ht ha h] at e; cases e
theorem step_red {R : List Vc} (h : Red s R) {a : Vc} (ha : a.length = s) : Red s (stepS R a) := by
  cases R with
  | nil =>
    rw [step_nil hs]
    split
    · exact ⟨ha, by assumption⟩
    · trivial
  | cons t R =>
    have ht := Red.hd h
    cases e : al t a with
    | true =>
      rw [step_al hs h ha e]
      split
      · exact Red.ex hs h (vadd_len ht.1 ha) (al_add hs ht.1 ht.1 ha (al_self hs ht.1) e) (by assumption)
      · exact Red.tl h
    | false =>
      have hn := no_nz hs ht.1 ha e
      rw [step_no e hn]
      exact ⟨ha, hn, e, h⟩
theorem step_zero {R : List Vc} (h : Red s R) {z : Vc} (hz : z.length = s) (hn : nz z = false) : stepS R z = R := by
  cases R with
  | nil => rw [step_nil hs, if_neg (by rw [hn]; simp)]
  | cons t R =>
    have ht := Red.hd h
    rw [step_al hs h hz (al_zero hs ht.1 hz hn), (va_zero hs ht.1 hz hn).1, if_pos ht.2]
theorem step_two {R : List Vc} (h : Red s R) {a b : Vc} (ha : a.length = s) (hb : b.length = s) (e : al a b = true) : stepS (stepS R a) b = stepS R (vadd a b) := by
  have hab : (vadd a b).length = s := vadd_len ha hb
  cases na : nz a with
  | false => rw [step_zero hs h ha na, (va_zero hs hb ha na).2]
  | true =>
  cases R with
  | nil =>
    rw [step_nil hs, step_nil hs, if_pos na, step_al hs (R := []) ⟨ha, na⟩ hb e]
  | cons t R =>
    have ht := Red.hd h
    have hta : (vadd t a).length = s := vadd_len ht.1 ha
    cases e1 : al t a with
    | true =>
      have e2 : al t (vadd a b) = true := al_tr hs ht.1 ha hab na e1 (al_add hs ha ha hb (al_self hs ha) e)
      rw [step_al hs h ha e1, step_al hs h hab e2, ← va_assoc hs ht.1 ha hb]
      cases n1 : nz (vadd t a) with
      | true =>
        rw [if_pos rfl]
        have h2 : Red s (vadd t a :: R) := Red.ex hs h hta (al_add hs ht.1 ht.1 ha (al_self hs ht.1) e1) n1
        have e3 : al (vadd t a) b = true := by
          have h3 : al a (vadd t a) = true := al_add hs ha ht.1 ha (al_sym hs ht.1 ha e1) (al_self hs ha)
          exact al_tr hs hta ha hb na (al_sym hs ha hta h3) e
        rw [step_al hs h2 hb e3]
      | false =>
        rw [if_neg Bool.false_ne_true, (va_zero hs hb hta n1).2]
        have e3 : al t b = true := al_tr hs ht.1 ha hb na e1 e
        cases nb : nz b with
        | false => rw [step_zero hs (Red.tl h) hb nb, if_neg Bool.false_ne_true]
        | true =>
          rw [if_pos rfl]
          have h2 := Red.ex hs h hb e3 nb
          cases R with
          | nil => rw [step_nil hs, if_pos nb]
          | cons u R => exact step_no h2.2.2.1 nb
    | false =>
      have h4 : Red s (a :: t :: R) := ⟨ha, na, e1, h⟩
      rw [step_no e1 na, step_al hs h4 hb e]
      cases n1 : nz (vadd a b) with
      | true =>
        rw [if_pos rfl]
        have : al t (vadd a b) = false := al_sum hs ha hb ht.1 e na n1 e1
        rw [step_no this n1]
      | false =>
        rw [if_neg Bool.false_ne_true, step_zero hs h hab n1]
inductive Eqv (s : Nat) : List Vc → List Vc → Prop
  | zero (l r : List Vc) (z : Vc) : Vs s l → Vs s r → z.length = s → nz z = false → Eqv s (l ++ z :: r) (l ++ r)
  | two (l r : List Vc) (a b : Vc) : Vs s l → Vs s r → a.length = s → b.length = s → al a b = true → Eqv s (l ++ a :: b :: r) (l ++ vadd a b :: r)
  | rfl (p : List Vc) : Eqv s p p
  | sym {p q : List Vc} : Eqv s p q → Eqv s q p
  | tr {p q r : List Vc} : Eqv s p q → Eqv s q r → Eqv s p r
theorem fold_red : ∀ {p : List Vc}, Vs s p → ∀ {R}, Red s R → Red s (p.foldl stepS R)
  | [], _, R, h => h
  | a :: p, hp, R, h => fold_red (fun b hb => hp b (List.mem_cons_of_mem _ hb)) (step_red hs h (hp a (List.mem_cons_self ..)))
theorem eqv_fold {p q : List Vc} (h : Eqv s p q) : ∀ R, Red s R → p.foldl stepS R = q.foldl stepS R := by
  induction h with
  | zero l r z hl hr hz hn =>
    intro R hR
    rw [List.foldl_append, List.foldl_append, List.foldl_cons, step_zero hs (fold_red hs hl hR) hz hn]
  | two l r a b hl hr ha hb e =>
    intro R hR
    rw [List.foldl_append, List.foldl_append, List.foldl_cons, List.foldl_cons, List.foldl_cons, step_two hs (fold_red hs hl hR) ha hb e]
  | rfl p => intro R _; rfl
  | sym _ ih => intro R hR; exact (ih R hR).symm
  | tr _ _ ih1 ih2 => intro R hR; exact (ih1 R hR).trans (ih2 R hR)
theorem eqv_sh {p q : List Vc} (h : Eqv s p q) : shF p = shF q := by
  unfold shF
  rw [eqv_fold hs h [] trivial]
omit hs in
theorem Eqv.pre {p q : List Vc} (h : Eqv s p q) (m : List Vc) (hm : Vs s m) : Eqv s (m ++ p) (m ++ q) := by
  induction h with
  | zero l r z hl hr hz hn =>
    rw [← List.append_assoc, ← List.append_assoc]
    exact .zero _ _ _ (fun a ha => (List.mem_append.mp ha).elim (hm a) (hl a)) hr hz hn
  | two l r a b hl hr ha hb e =>
    rw [← List.append_assoc, ← List.append_assoc]
    exact .two _ _ _ _ (fun a ha => (List.mem_append.mp ha).elim (hm a) (hl a)) hr ha hb e
  | rfl p => exact .rfl _
  | sym _ ih => exact .sym ih
  | tr _ _ ih1 ih2 => exact .tr ih1 ih2
omit hs in
theorem Eqv.post {p q : List Vc} (h : Eqv s p q) (m : List Vc) (hm : Vs s m) : Eqv s (p ++ m) (q ++ m) := by
  induction h with
  | zero l r z hl hr hz hn =>
    rw [List.append_assoc, List.append_assoc]
    exact .zero _ _ _ hl (fun a ha => (List.mem_append.mp ha).elim (hr a) (hm a)) hz hn
  | two l r a b hl hr ha hb e =>
    rw [List.append_assoc, List.append_assoc]
    exact .two _ _ _ _ hl (fun a ha => (List.mem_append.mp ha).elim (hr a) (hm a)) ha hb e
  | rfl p => exact .rfl _
  | sym _ ih => exact .sym ih
  | tr _ _ ih1 ih2 => exact .tr ih1 ih2
theorem red_fold : ∀ {p R : List Vc}, Red s (p.reverse ++ R) → p.foldl stepS R = p.reverse ++ R
  | [], R, _ => rfl
  | a :: p, R, h => by
    rw [List.reverse_cons, List.append_assoc] at h ⊢
    have hd : ∀ (l : List Vc) {m : List Vc}, Red s (l ++ m) → Red s m := fun l => by
      induction l with
      | nil => intro m h; exact h
      | cons b l ih => intro m h; exact ih (Red.tl h)
    have h2 : Red s (a :: R) := hd _ h
    have h3 : stepS R a = a :: R := by
      have ha := Red.hd h2
      cases R with
      | nil => rw [step_nil hs, if_pos ha.2]
      | cons t R => exact step_no h2.2.2.1 ha.2
    rw [List.foldl_cons, h3]
    exact red_fold (R := a :: R) h
theorem red_sh {p : List Vc} (h : Red s p.reverse) : shF p = p := by
  unfold shF
  rw [red_fold hs (p := p) (R := []) (by rw [List.append_nil]; exact h), List.append_nil, List.reverse_reverse]
theorem sh_red {p : List Vc} (h : Vs s p) : Red s (shF p).reverse := by
  unfold shF
  rw [List.reverse_reverse]
  exact fold_red hs h (R := []) trivial
omit hs in
theorem Red.vs : ∀ {R : List Vc}, Red s R → Vs s R
  | [], _, a, ha => by cases ha
  | a :: R, h, b, hb => (List.mem_cons.mp hb).elim (fun e => e ▸ (Red.hd h).1) (Red.vs (Red.tl h) b)
theorem eqv_step {R : List Vc} (h : Red s R) {a : Vc} (ha : a.length = s) : Eqv s (R.reverse ++ [a]) (stepS R a).reverse := by
  cases R with
  | nil =>
    rw [step_nil hs]
    cases n : nz a with
    | true => exact .rfl _
    | false => exact .zero [] [] a (fun _ h => by cases h) (fun _ h => by cases h) ha n
  | cons t R =>
    have ht := Red.hd h
    have hv : Vs s R.reverse := fun b hb => Red.vs (Red.tl h) b (List.mem_reverse.mp hb)
    cases e : al t a with
    | true =>
      rw [step_al hs h ha e, List.reverse_cons, List.append_assoc]
      have h1 : Eqv s (R.reverse ++ t :: a :: []) (R.reverse ++ vadd t a :: []) := .two _ [] t a hv (fun _ h => by cases h) ht.1 ha e
      cases n : nz (vadd t a) with
      | true => rw [if_pos rfl, List.reverse_cons]; exact h1
      | false =>
        rw [if_neg Bool.false_ne_true]
        have h2 : Eqv s (R.reverse ++ vadd t a :: []) (R.reverse ++ []) := .zero _ [] _ hv (fun _ h => by cases h) (vadd_len ht.1 ha) n
        rw [List.append_nil] at h2
        exact .tr h1 h2
    | false =>
      rw [step_no e (no_nz hs ht.1 ha e), List.reverse_cons (a := a)]
      exact .rfl _
theorem eqv_foldl : ∀ {p R : List Vc}, Red s R → Vs s p → Eqv s (R.reverse ++ p) (p.foldl stepS R).reverse
  | [], R, h, _ => by rw [List.append_nil]; exact .rfl _
  | a :: p, R, h, hp => by
    have ha := hp a (List.mem_cons_self ..)
    have hp2 : Vs s p := fun b hb => hp b (List.mem_cons_of_mem _ hb)
    have h1 := (eqv_step hs h ha).post p hp2
    rw [List.append_assoc] at h1
    exact .tr h1 (eqv_foldl (step_red hs h ha) hp2)
theorem eqv_self {p : List Vc} (h : Vs s p) : Eqv s p (shF p) := eqv_foldl hs (R := []) trivial h
theorem sh_of {p q : List Vc} (h : Eqv s p q) (hr : Red s q.reverse) : shF p = q := by rw [eqv_sh hs h, red_sh hs hr]
theorem vneg_len (a : Vc) : (vneg a).length = a.length := by unfold vneg; rw [List.length_map]
omit hs in
theorem nz_neg (a : Vc) : nz (vneg a) = nz a := by
  unfold nz vneg
  rw [List.any_map]
  congr 1
  funext r
  show decide (-r ≠ 0) = decide (r ≠ 0)
  by_cases h : r = 0
  · subst h; rfl
  · rw [decide_eq_true h, decide_eq_true (by grind)]
theorem al_neg {a b : Vc} (ha : a.length = s) (hb : b.length = s) (h : al a b = true) : al (vneg b) (vneg a) = true := by
  rcases hs with rfl | rfl
  · obtain ⟨x, rfl⟩ := v1 ha; obtain ⟨y, rfl⟩ := v1 hb; rfl
  · obtain ⟨x, y, rfl⟩ := v2 ha; obtain ⟨z, w, rfl⟩ := v2 hb
    show al [-z, -w] [-x, -y] = true
    rw [al2, decide_eq_true_eq] at h ⊢; grind
theorem va_neg {a b : Vc} (ha : a.length = s) (hb : b.length = s) : vneg (vadd a b) = vadd (vneg b) (vneg a) := by
  rcases hs with rfl | rfl
  · obtain ⟨x, rfl⟩ := v1 ha; obtain ⟨y, rfl⟩ := v1 hb
    show [-(x + y)] = [-y + -x]
    congr 1; grind
  · obtain ⟨x, y, rfl⟩ := v2 ha; obtain ⟨z, w, rfl⟩ := v2 hb
    show [-(x + z), -(y + w)] = [-z + -x, -w + -y]
    congr 1
    · grind
    · congr 1; grind
theorem va_self {a : Vc} (ha : a.length = s) : al a (vneg a) = true ∧ nz (vadd a (vneg a)) = false := by
  rcases hs with rfl | rfl
  · obtain ⟨x, rfl⟩ := v1 ha
    refine ⟨rfl, ?_⟩
    show nz [x + -x] = false
    rw [nz1, decide_eq_false_iff_not]; grind
  · obtain ⟨x, y, rfl⟩ := v2 ha
    constructor
    · show al [x, y] [-x, -y] = true
      rw [al2, decide_eq_true_eq]; grind
    · show nz [x + -x, y + -y] = false
      rw [nz2, decide_eq_false_iff_not]; grind
omit hs in
theorem back_app (p q : List Vc) : backF (p ++ q) = backF q ++ backF p := by
  unfold backF
  rw [List.reverse_append, List.map_append]
omit hs in
theorem back_vs {p : List Vc} (h : Vs s p) : Vs s (backF p) := fun a ha => by
  unfold backF at ha
  obtain ⟨b, hb, rfl⟩ := List.mem_map.mp ha
  rw [show (vneg b).length = b.length by unfold vneg; rw [List.length_map]]
  exact h b (List.mem_reverse.mp hb)
theorem eqv_back {p q : List Vc} (h : Eqv s p q) : Eqv s (backF p) (backF q) := by
  induction h with
  | zero l r z hl hr hz hn =>
    rw [back_app, back_app]
    have : backF (z :: r) = backF r ++ [vneg z] := by unfold backF; simp
    rw [this, List.append_assoc]
    exact .zero _ _ _ (back_vs hr) (back_vs hl) (by rw [vneg_len hs]; exact hz) (by rw [nz_neg]; exact hn)
  | two l r a b hl hr ha hb e =>
    rw [back_app, back_app]
    have h1 : backF (a :: b :: r) = backF r ++ [vneg b, vneg a] := by unfold backF; simp
    have h2 : backF (vadd a b :: r) = backF r ++ [vneg (vadd a b)] := by unfold backF; simp
    rw [h1, h2, List.append_assoc, List.append_assoc, va_neg hs ha hb]
    exact .two _ _ _ _ (back_vs hr) (back_vs hl) (by rw [vneg_len hs]; exact hb) (by rw [vneg_len hs]; exact ha) (al_neg hs ha hb e)
  | rfl p => exact .rfl _
  | sym _ ih => exact .sym ih
  | tr _ _ ih1 ih2 => exact .tr ih1 ih2
theorem eqv_pair {l r : List Vc} {a : Vc} (hl : Vs s l) (hr : Vs s r) (ha : a.length = s) : Eqv s (l ++ a :: vneg a :: r) (l ++ r) := by
  obtain ⟨h1, h2⟩ := va_self hs ha
  have hn : (vneg a).length = s := by rw [vneg_len hs]; exact ha
  exact .tr (.two l r _ _ hl hr ha hn h1) (.zero l r _ hl hr (vadd_len ha hn) h2)
theorem eqv_inv : ∀ {p : List Vc}, Vs s p → Eqv s (p ++ backF p) []
  | [], _ => .rfl _
  | a :: p, h => by
    have ha := h a (List.mem_cons_self ..)
    have hp : Vs s p := fun b hb => h b (List.mem_cons_of_mem _ hb)
    have h1 : backF (a :: p) = backF p ++ [vneg a] := by unfold backF; simp
    have hv : Vs s [vneg a] := fun b hb => by rw [List.mem_singleton.mp hb, vneg_len hs]; exact ha
    have h2 := ((eqv_inv hp).post [vneg a] hv).pre [a] (fun b hb => by rw [List.mem_singleton.mp hb]; exact ha)
    rw [h1]
    refine .tr (q := [a, vneg a]) ?_ (eqv_pair hs (l := []) (r := []) (fun _ h => by cases h) (fun _ h => by cases h) ha)
    have e : a :: p ++ (backF p ++ [vneg a]) = [a] ++ (p ++ backF p ++ [vneg a]) := by simp
    rw [e]
    exact h2
theorem red_back {p : List Vc} (h : Red s p.reverse) : Red s (backF p).reverse := by
  have hb : (backF p).reverse = p.map vneg := by unfold backF; rw [List.map_reverse, List.reverse_reverse]
  rw [hb]
  have key : ∀ {R : List Vc}, Red s R → ∀ {M : List Vc}, Red s M → (∀ a b, R.head? = some a → M.head? = some b → al b (vneg a) = false) → Red s ((R.map vneg).reverse ++ M) := by
    intro R
    induction R with
    | nil => intro _ M hM _; exact hM
    | cons a R ih =>
      intro hR M hM hc
      have ha := Red.hd hR
      rw [List.map_cons, List.reverse_cons, List.append_assoc]
      have hn : (vneg a).length = s := by rw [vneg_len hs]; exact ha.1
      refine ih (Red.tl hR) (M := vneg a :: M) ?_ ?_
      · cases M with
        | nil => exact ⟨hn, by rw [nz_neg]; exact ha.2⟩
        | cons b M => exact ⟨hn, by rw [nz_neg]; exact ha.2, hc a b rfl rfl, hM⟩
      · intro c b hcR hb2
        cases R with
        | nil => cases hcR
        | cons d R =>
          have e1 : d = c := by simpa using hcR
          have e2 : vneg a = b := by simpa using hb2
          subst e1; subst e2
          cases e : al (vneg a) (vneg d) with
          | false => rfl
          | true =>
            have hd := Red.hd (Red.tl hR)
            have := al_neg hs hn (by rw [vneg_len hs]; exact hd.1) e
            have nn : ∀ v : Vc, vneg (vneg v) = v := fun v => by
              unfold vneg
              rw [List.map_map]
              conv => rhs; rw [← List.map_id v]
              apply List.map_congr_left
              intro r _
              show - -r = r
              grind
            rw [nn, nn, hR.2.2.1] at this
            cases this
  have := key h (M := []) trivial (fun _ _ _ h => by cases h)
  rw [List.append_nil, ← List.map_reverse, List.reverse_reverse] at this
  exact this
end
end Lb
namespace Lb
open PySem PySem.Spec PyProof.Rows L2 Vf

def Q3 (f g : List Int → Rat) : Prop := ∀ w, w.length ≤ 3 → f w = g w
theorem Q3.rfl {f : List Int → Rat} : Q3 f f := fun _ _ => Eq.refl _
theorem Q3.sym {f g : List Int → Rat} (h : Q3 f g) : Q3 g f := fun w hw => (h w hw).symm
theorem Q3.tr {f g k : List Int → Rat} (h : Q3 f g) (h2 : Q3 g k) : Q3 f k := fun w hw => (h w hw).trans (h2 w hw)
theorem rg1 : List.range 1 = [0] := by decide
theorem rg2 : List.range 2 = [0, 1] := by decide
theorem rg3 : List.range 3 = [0, 1, 2] := by decide
theorem rg4 : List.range 4 = [0, 1, 2, 3] := by decide
theorem cv0 (f g : List Int → Rat) : conv f g [] = f [] * g [] := by
  show sumL (List.range 1) _ = _
  rw [rg1]
  show f [] * g [] + 0 = _
  rw [Rat.add_zero]
theorem cv1 (f g : List Int → Rat) (i : Int) : conv f g [i] = f [] * g [i] + f [i] * g [] := by
  show sumL (List.range 2) _ = _
  rw [rg2]
  show f [] * g [i] + (f [i] * g [] + 0) = _
  rw [Rat.add_zero]
theorem cv2 (f g : List Int → Rat) (i j : Int) : conv f g [i, j] = f [] * g [i, j] + (f [i] * g [j] + f [i, j] * g []) := by
  show sumL (List.range 3) _ = _
  rw [rg3]
  show f [] * g [i, j] + (f [i] * g [j] + (f [i, j] * g [] + 0)) = _
  rw [Rat.add_zero]
theorem cv3 (f g : List Int → Rat) (i j k : Int) : conv f g [i, j, k] = f [] * g [i, j, k] + (f [i] * g [j, k] + (f [i, j] * g [k] + f [i, j, k] * g [])) := by
  show sumL (List.range 4) _ = _
  rw [rg4]
  show f [] * g [i, j, k] + (f [i] * g [j, k] + (f [i, j] * g [k] + (f [i, j, k] * g [] + 0))) = _
  rw [Rat.add_zero]
theorem q3 {f g : List Int → Rat} (h0 : f [] = g []) (h1 : ∀ i, f [i] = g [i]) (h2 : ∀ i j, f [i, j] = g [i, j]) (h3 : ∀ i j k, f [i, j, k] = g [i, j, k]) : Q3 f g := fun w hw => by
  match w, hw with
  | [], _ => exact h0
  | [i], _ => exact h1 i
  | [i, j], _ => exact h2 i j
  | [i, j, k], _ => exact h3 i j k
  | _ :: _ :: _ :: _ :: r, hw => simp only [List.length_cons] at hw; omega
theorem Q3.conv {f g f' g' : List Int → Rat} (h : Q3 f f') (h2 : Q3 g g') : Q3 (conv f g) (conv f' g') := by
  have l0 := h [] (by simp); have m0 := h2 [] (by simp)
  have l1 := fun i => h [i] (by simp); have m1 := fun i => h2 [i] (by simp)
  have l2 := fun i j => h [i, j] (by simp); have m2 := fun i j => h2 [i, j] (by simp)
  have l3 := fun i j k => h [i, j, k] (by simp); have m3 := fun i j k => h2 [i, j, k] (by simp)
  refine q3 ?_ (fun i => ?_) (fun i j => ?_) (fun i j k => ?_)
  · rw [cv0, cv0, l0, m0]
  · rw [cv1, cv1, l0, m0, l1, m1]
  · rw [cv2, cv2, l0, m0, l1, m1, l2, m2]
  · rw [cv3, cv3, l0, m0, l1, m1, l2, m2, l3, m3]
theorem conv_assoc (f g k : List Int → Rat) : Q3 (conv (conv f g) k) (conv f (conv g k)) := by
  refine q3 ?_ (fun i => ?_) (fun i j => ?_) (fun i j l => ?_)
  · simp only [cv0]; grind
  · simp only [cv0, cv1]; grind
  · simp only [cv0, cv1, cv2]; grind
  · simp only [cv0, cv1, cv2, cv3]; grind
theorem delta_cons (i : Int) (w : List Int) : delta (i :: w) = 0 := rfl
theorem delta_nil : delta [] = 1 := rfl
theorem conv_delta (f : List Int → Rat) : Q3 (conv f delta) f := by
  refine q3 ?_ (fun i => ?_) (fun i j => ?_) (fun i j l => ?_)
  · simp only [cv0, delta_nil]; grind
  · simp only [cv1, delta_nil, delta_cons]; grind
  · simp only [cv2, delta_nil, delta_cons]; grind
  · simp only [cv3, delta_nil, delta_cons]; grind
theorem delta_conv (f : List Int → Rat) : Q3 (conv delta f) f := by
  refine q3 ?_ (fun i => ?_) (fun i j => ?_) (fun i j l => ?_)
  · simp only [cv0, delta_nil]; grind
  · simp only [cv1, delta_nil, delta_cons]; grind
  · simp only [cv2, delta_nil, delta_cons]; grind
  · simp only [cv3, delta_nil, delta_cons]; grind
def sc (a : Vc) (i : Int) : Rat := stepF a [i]
theorem stepF_long (a : Vc) (i j : Int) (w : List Int) : stepF a (i :: j :: w) = 0 := by
  unfold stepF
  have : ∀ ts : List Tm, (∀ t ∈ ts, t.1.length = 1) → coef ts (i :: j :: w) = 0 := by
    intro ts
    induction ts with
    | nil => intro _; rfl
    | cons t r ih =>
      intro h
      show (if t.1 = i :: j :: w then t.2.2 else 0) + coef r _ = 0
      rw [if_neg (fun e => by have := h t (List.mem_cons_self ..); rw [e] at this; simp at this), ih fun u hu => h u (List.mem_cons_of_mem _ hu), Rat.add_zero]
  exact this _ fun t ht => by
    obtain ⟨j, _, h, _⟩ := stT_mem ht
    rw [h]; rfl
theorem inv1 : mkRat 1 (0 + 1) = 1 := by decide
theorem inv2 : mkRat 1 (1 + 1) = 1 / 2 := by rw [mkq]; rfl
theorem inv3 : mkRat 1 (2 + 1) = 1 / 3 := by rw [mkq]; rfl
def E (a : Vc) : List Int → Rat := expF (stepF a) 3
theorem pw_nil (a : Vc) (j : Nat) : powF (stepF a) (j + 1) [] = 0 := by
  show mkRat 1 (j + 1) * conv (powF (stepF a) j) (stepF a) [] = 0
  rw [cv0, stepF_nil]; grind
theorem p1 (a : Vc) (w : List Int) : powF (stepF a) 1 w = conv delta (stepF a) w := by
  show mkRat 1 (0 + 1) * _ = _
  rw [inv1, Rat.one_mul]; rfl
theorem p1_1 (a : Vc) (i : Int) : powF (stepF a) 1 [i] = sc a i := by
  rw [p1, cv1, delta_nil, delta_cons, stepF_nil]; unfold sc; grind
theorem p1_2 (a : Vc) (i j : Int) : powF (stepF a) 1 [i, j] = 0 := by
  rw [p1, cv2]; simp only [delta_nil, delta_cons, stepF_nil, stepF_long]; grind
theorem p1_3 (a : Vc) (i j k : Int) : powF (stepF a) 1 [i, j, k] = 0 := by
  rw [p1, cv3]; simp only [delta_nil, delta_cons, stepF_nil, stepF_long]; grind
theorem p2 (a : Vc) (w : List Int) : powF (stepF a) 2 w = 1 / 2 * conv (powF (stepF a) 1) (stepF a) w := by
  rw [← inv2]; rfl
theorem p2_1 (a : Vc) (i : Int) : powF (stepF a) 2 [i] = 0 := by
  rw [p2, cv1, pw_nil, stepF_nil]; grind
theorem p2_2 (a : Vc) (i j : Int) : powF (stepF a) 2 [i, j] = sc a i * sc a j / 2 := by
  rw [p2, cv2, pw_nil, stepF_nil, p1_1]; unfold sc; grind
theorem p2_3 (a : Vc) (i j k : Int) : powF (stepF a) 2 [i, j, k] = 0 := by
  rw [p2, cv3]; simp only [pw_nil, stepF_nil, p1_2, stepF_long]; grind
theorem p3 (a : Vc) (w : List Int) : powF (stepF a) 3 w = 1 / 3 * conv (powF (stepF a) 2) (stepF a) w := by
  rw [← inv3]; rfl
theorem p3_1 (a : Vc) (i : Int) : powF (stepF a) 3 [i] = 0 := by
  rw [p3, cv1, pw_nil, stepF_nil]; grind
theorem p3_2 (a : Vc) (i j : Int) : powF (stepF a) 3 [i, j] = 0 := by
  rw [p3, cv2, pw_nil, stepF_nil, p2_1]; grind
theorem p3_3 (a : Vc) (i j k : Int) : powF (stepF a) 3 [i, j, k] = sc a i * sc a j * sc a k / 6 := by
  rw [p3, cv3, pw_nil, stepF_nil, p2_1, p2_2]; unfold sc; grind
theorem e_eq (a : Vc) (w : List Int) : E a w = delta w + powF (stepF a) 1 w + powF (stepF a) 2 w + powF (stepF a) 3 w := rfl
theorem e0 (a : Vc) : E a [] = 1 := by rw [e_eq, pw_nil, pw_nil, pw_nil, delta_nil]; grind
theorem e1 (a : Vc) (i : Int) : E a [i] = sc a i := by rw [e_eq, delta_cons, p1_1, p2_1, p3_1]; grind
theorem e2 (a : Vc) (i j : Int) : E a [i, j] = sc a i * sc a j / 2 := by rw [e_eq, delta_cons, p1_2, p2_2, p3_2]; grind
theorem e3 (a : Vc) (i j k : Int) : E a [i, j, k] = sc a i * sc a j * sc a k / 6 := by rw [e_eq, delta_cons, p1_3, p2_3, p3_3]; grind
theorem sc_1 (x : Rat) (i : Int) : sc [x] i = if i = 0 then x else 0 := by
  show (if [((0 : Nat) : Int)] = [i] then x else 0) + 0 = _
  rw [Rat.add_zero]
  by_cases h : i = 0
  · subst h; rfl
  · rw [if_neg h, if_neg (by intro e; apply h; injection e with e; exact e.symm)]
theorem sc_2 (x y : Rat) (i : Int) : sc [x, y] i = if i = 0 then x else if i = 1 then y else 0 := by
  show (if [((0 : Nat) : Int)] = [i] then x else 0) + ((if [((1 : Nat) : Int)] = [i] then y else 0) + 0) = _
  rw [Rat.add_zero]
  by_cases h : i = 0
  · subst h
    rw [if_pos (by rfl), if_neg (by intro e; cases e), if_pos rfl, Rat.add_zero]
  · rw [if_neg (c := i = 0) h, if_neg (by intro e; apply h; injection e with e; exact e.symm), Rat.zero_add]
    by_cases h1 : i = 1
    · subst h1; rfl
    · rw [if_neg h1, if_neg (by intro e; apply h1; injection e with e; exact e.symm)]
section
variable {s : Nat} (hs : S12 s)
include hs
theorem sc_zero {z : Vc} (hz : z.length = s) (h : nz z = false) (i : Int) : sc z i = 0 := by
  rcases hs with rfl | rfl
  · obtain ⟨x, rfl⟩ := v1 hz
    rw [nz1, decide_eq_false_iff_not] at h
    rw [sc_1]; split <;> grind
  · obtain ⟨x, y, rfl⟩ := v2 hz
    rw [nz2, decide_eq_false_iff_not] at h
    rw [sc_2]; split <;> grind
theorem sc_add {a b : Vc} (ha : a.length = s) (hb : b.length = s) (i : Int) : sc (vadd a b) i = sc a i + sc b i := by
  rcases hs with rfl | rfl
  · obtain ⟨x, rfl⟩ := v1 ha; obtain ⟨y, rfl⟩ := v1 hb
    rw [va1, sc_1, sc_1, sc_1]; split <;> grind
  · obtain ⟨x, y, rfl⟩ := v2 ha; obtain ⟨z, w, rfl⟩ := v2 hb
    rw [va2, sc_2, sc_2, sc_2]
    split
    · rfl
    · split <;> grind
theorem sc_al {a b : Vc} (ha : a.length = s) (hb : b.length = s) (h : al a b = true) (i j : Int) : sc a i * sc b j = sc a j * sc b i := by
  rcases hs with rfl | rfl
  · obtain ⟨x, rfl⟩ := v1 ha; obtain ⟨y, rfl⟩ := v1 hb
    rw [sc_1, sc_1, sc_1, sc_1]; split <;> split <;> grind
  · obtain ⟨x, y, rfl⟩ := v2 ha; obtain ⟨z, w, rfl⟩ := v2 hb
    rw [al2, decide_eq_true_eq] at h
    simp only [sc_2]
    split <;> split <;> grind
theorem e_zero {z : Vc} (hz : z.length = s) (h : nz z = false) : Q3 (E z) delta := by
  have := sc_zero hs hz h
  refine q3 ?_ (fun i => ?_) (fun i j => ?_) (fun i j k => ?_)
  · rw [e0]; rfl
  · rw [e1, this, delta_cons]
  · rw [e2, this, delta_cons]; grind
  · rw [e3, this, delta_cons]; grind
theorem e_two {a b : Vc} (ha : a.length = s) (hb : b.length = s) (h : al a b = true) : Q3 (conv (E a) (E b)) (E (vadd a b)) := by
  have h1 := sc_add hs ha hb
  have h2 := sc_al hs ha hb h
  refine q3 ?_ (fun i => ?_) (fun i j => ?_) (fun i j k => ?_)
  · rw [cv0, e0, e0, e0]; grind
  · rw [cv1, e0, e0, e1, e1, e1, h1]; grind
  · have := h2 i j
    simp only [cv2, e0, e1, e2, h1]; grind
  · have g1 := h2 i j
    have g2 := h2 j k
    have g3 := h2 i k
    simp only [cv3, e0, e1, e2, e3, h1]; grind
end
def sg (p : List Vc) : List Int → Rat := sigF 3 delta p
theorem sig_q : ∀ (p : List Vc) {S S' : List Int → Rat}, Q3 S S' → Q3 (sigF 3 S p) (sigF 3 S' p)
  | [], _, _, h => h
  | a :: p, _, _, h => sig_q p (h.conv .rfl)
theorem sig_app : ∀ (p q : List Vc) (S : List Int → Rat), sigF 3 S (p ++ q) = sigF 3 (sigF 3 S p) q
  | [], q, S => rfl
  | a :: p, q, S => sig_app p q _
theorem eqv_sig {s : Nat} (hs : S12 s) {p q : List Vc} (h : Eqv s p q) : Q3 (sg p) (sg q) := by
  have : ∀ S, Q3 (sigF 3 S p) (sigF 3 S q) := by
    induction h with
    | zero l r z hl hr hz hn =>
      intro S
      rw [sig_app, sig_app]
      exact sig_q r (.tr (Q3.conv .rfl (e_zero hs hz hn)) (conv_delta _))
    | two l r a b hl hr ha hb e =>
      intro S
      rw [sig_app, sig_app]
      exact sig_q r (.tr (conv_assoc _ _ _) (Q3.conv .rfl (e_two hs ha hb e)))
    | rfl p => exact fun S => .rfl
    | sym _ ih => exact fun S => (ih S).sym
    | tr _ _ ih1 ih2 => exact fun S => (ih1 S).tr (ih2 S)
  exact this delta
def wth : List Vc → List Int → Rat
  | [], w => delta w
  | a :: p, w => conv (E a) (wth p) w
theorem sig_wth : ∀ (p : List Vc) (S : List Int → Rat), Q3 (sigF 3 S p) (conv S (wth p))
  | [], S => (conv_delta S).sym
  | a :: p, S => .tr (sig_wth p _) (conv_assoc S (E a) (wth p))
theorem sg_wth (p : List Vc) : Q3 (sg p) (wth p) := .tr (sig_wth p delta) (delta_conv _)
end Lb
namespace Lb
open PySem PySem.Spec PyProof.Rows L2 Vf

theorem cut_lo (xs : List D) {j : Nat} (h : j ≤ xs.length) : cutD (some (j : Int)) none xs = xs.drop j := by
  unfold Vf.cutD Vf.cutD.cutV' HT.sIx
  have : min ((j : Nat) : Int).toNat xs.length = j := by rw [Int.toNat_natCast]; omega
  show List.take (xs.length - (if ((j : Nat) : Int) < 0 then _ else min ((j : Nat) : Int).toNat xs.length)) (xs.drop (if ((j : Nat) : Int) < 0 then _ else min ((j : Nat) : Int).toNat xs.length)) = _
  rw [if_neg (by omega), this]
  exact List.take_of_length_le (by rw [List.length_drop]; omega)
theorem cut_lo2 (xs : List D) {j : Nat} (h : xs.length < j) : cutD (some (j : Int)) none xs = [] := by
  unfold Vf.cutD Vf.cutD.cutV' HT.sIx
  have : min ((j : Nat) : Int).toNat xs.length = xs.length := by rw [Int.toNat_natCast]; omega
  show List.take (xs.length - (if ((j : Nat) : Int) < 0 then _ else min ((j : Nat) : Int).toNat xs.length)) (xs.drop (if ((j : Nat) : Int) < 0 then _ else min ((j : Nat) : Int).toNat xs.length)) = _
  rw [if_neg (by omega), this, Nat.sub_self]
  rfl
theorem cut_lo' (xs : List D) (j : Nat) : cutD (some (j : Int)) none xs = xs.drop j := by
  by_cases h : j ≤ xs.length
  · exact cut_lo xs h
  · rw [cut_lo2 xs (by omega), List.drop_eq_nil_of_le (by omega)]
theorem cut_hi (xs : List D) (j : Nat) : cutD none (some (j : Int)) xs = xs.take j := by
  unfold Vf.cutD Vf.cutD.cutV' HT.sIx
  show List.take ((if ((j : Nat) : Int) < 0 then _ else min ((j : Nat) : Int).toNat xs.length) - 0) (xs.drop 0) = _
  rw [if_neg (by omega), Int.toNat_natCast, List.drop_zero, Nat.sub_zero]
  by_cases h : j ≤ xs.length
  · rw [Nat.min_eq_left h]
  · rw [Nat.min_eq_right (by omega), List.take_of_length_le (by omega), List.take_of_length_le (by omega)]
theorem stepDs_drop (p : List Vc) (j : Nat) : (stepDs p).drop j = stepDs (p.drop j) := by unfold stepDs; rw [List.map_drop]
theorem stepDs_take (p : List Vc) (j : Nat) : (stepDs p).take j = stepDs (p.take j) := by unfold stepDs; rw [List.map_take]
theorem iD_drop (w : List Int) (j : Nat) : (iD w).drop j = iD (w.drop j) := by unfold iD; rw [List.map_drop]
theorem sl_path (p : List Vc) (j : Nat) : slD (some (j : Int)) none (pathD p) = some (pathD (p.drop j), false) := by
  show some (D.tup (cutD _ _ (stepDs p)), false) = _
  rw [cut_lo', stepDs_drop]; rfl
theorem sl_word (w : List Int) (j : Nat) : slD (some (j : Int)) none (wordD w) = some (wordD (w.drop j), false) := by
  show some (D.tup (cutD _ _ (iD w)), false) = _
  rw [cut_lo', iD_drop]; rfl
theorem ix_path {p : List Vc} {j : Nat} {a : Vc} (h : p[j]? = some a) : idxD (pathD p) (.int (j : Nat)) = some (stepD a, false) :=
  idx_tk (ds := stepDs p) rfl (by unfold stepDs; rw [List.getElem?_map, h]; rfl)
theorem ix_step {a : Vc} {j : Nat} {r : Rat} (h : a[j]? = some r) : idxD (stepD a) (.int (j : Nat)) = some (rD false r, false) :=
  idx_tk (ds := rDs a) rfl (by unfold rDs; rw [List.getElem?_map, h]; rfl)
theorem ix_word {w : List Int} {j : Nat} {i : Int} (h : w[j]? = some i) : idxD (wordD w) (.int (j : Nat)) = some (.int i, false) :=
  idx_tk (ds := iD w) rfl (by unfold iD; rw [List.getElem?_map, h]; rfl)
def kk : Nat → Nat → Nat
  | _, 0 => 1
  | 0, _ => 1
  | p + 1, 1 => kk p 1 + 144
  | p + 1, 2 => kk p 2 + (144 * kk p 1 + 20736)
  | p + 1, 3 => kk p 3 + (144 * kk p 2 + (20736 * kk p 1 + 2985984))
  | _ + 1, _ => 1
theorem kk_small : ∀ p n : Nat, p ≤ 4 → n ≤ 3 → kk p n ≤ 10 ^ 12 := by
  have : (List.range 5).all (fun p => (List.range 4).all fun n => decide (kk p n ≤ 10 ^ 12)) = true := by decide +kernel
  intro p n hp hn
  have h := List.all_eq_true.mp this p (List.mem_range.mpr (by omega))
  have h2 := List.all_eq_true.mp h n (List.mem_range.mpr (by omega))
  simpa using h2
section
variable {s : Nat} (hs : S12 s)
def Dn (s : Nat) (a : Vc) : Prop := a.length = s ∧ ∀ r ∈ a, Nc 6 24 r
include hs
theorem sc_nc {a : Vc} (h : Dn s a) (i : Int) : Nc 6 24 (sc a i) := by
  obtain ⟨ha, hb⟩ := h
  rcases hs with rfl | rfl
  · obtain ⟨x, rfl⟩ := v1 ha
    rw [sc_1]; split
    · exact hb x (by simp)
    · exact Nc.zero
  · obtain ⟨x, y, rfl⟩ := v2 ha
    rw [sc_2]; split
    · exact hb x (by simp)
    · split
      · exact hb y (by simp)
      · exact Nc.zero
omit hs in
theorem Nc.cast {N M B C : Nat} {r q : Rat} (h : Nc N B r) (e : N = M) (hc : B ≤ C) (er : r = q) : Nc M C q := by subst e; subst er; exact h.mono hc
theorem E_nc1 {a : Vc} (h : Dn s a) (i : Int) : Nc 36 144 (E a [i]) := by
  rw [e1]
  exact ((sc_nc hs h i).up (k := 6) (by decide) (by decide)).cast (by decide) (by decide) rfl
theorem E_nc2 {a : Vc} (h : Dn s a) (i j : Int) : Nc 1296 20736 (E a [i, j]) := by
  rw [e2]
  have h1 := (sc_nc hs h i).mul (by decide) (by decide) (sc_nc hs h j)
  have h2 := (h1.div (by decide) (k := 2) (by decide)).up (k := 18) (by decide) (by decide)
  exact h2.cast (by decide) (by decide) rfl
theorem E_nc3 {a : Vc} (h : Dn s a) (i j k : Int) : Nc 46656 2985984 (E a [i, j, k]) := by
  rw [e3]
  have h1 := ((sc_nc hs h i).mul (by decide) (by decide) (sc_nc hs h j)).mul (by decide) (by decide) (sc_nc hs h k)
  have h2 := (h1.div (by decide) (k := 6) (by decide)).up (k := 36) (by decide) (by decide)
  exact h2.cast (by decide) (by decide) rfl
theorem wth_nc : ∀ {p : List Vc}, (∀ a ∈ p, Dn s a) → ∀ w, w.length ≤ 3 → Nc (36 ^ w.length) (kk p.length w.length) (wth p w)
  | [], _, w, hw => by
    match w, hw with
    | [], _ => exact (Nc.one (N := 1) (B := 1) (by first | decide | (simp only [List.length_cons, List.length_nil, Nat.zero_add, Nat.reduceAdd] <;> decide)) (by first | decide | (simp only [List.length_cons, List.length_nil, Nat.zero_add, Nat.reduceAdd] <;> decide))).cast (by first | decide | (simp only [List.length_cons, List.length_nil, Nat.zero_add, Nat.reduceAdd] <;> decide)) (by first | decide | (simp only [List.length_cons, List.length_nil, Nat.zero_add, Nat.reduceAdd] <;> decide)) rfl
    | _ :: _, _ => exact Nc.zero
  | a :: p, h, w, hw => by
    have ih := wth_nc (p := p) fun b hb => h b (List.mem_cons_of_mem _ hb)
    have ha := h a (List.mem_cons_self ..)
    have i0 := ih [] (by simp)
    rw [show kk p.length ([] : List Int).length = 1 by cases p <;> rfl] at i0
    show Nc _ (kk (p.length + 1) w.length) (conv (E a) (wth p) w)
    match w, hw with
    | [], _ =>
      rw [cv0, e0, Rat.one_mul]
      exact i0
    | [i], _ =>
      have i1 := ih [i] (by simp)
      rw [cv1, e0, Rat.one_mul]
      exact i1.add (by first | decide | (simp only [List.length_cons, List.length_nil, Nat.zero_add, Nat.reduceAdd] <;> decide)) (((E_nc1 hs ha i).mul (by first | decide | (simp only [List.length_cons, List.length_nil, Nat.zero_add, Nat.reduceAdd] <;> decide)) (by first | decide | (simp only [List.length_cons, List.length_nil, Nat.zero_add, Nat.reduceAdd] <;> decide)) i0).cast (by first | decide | (simp only [List.length_cons, List.length_nil, Nat.zero_add, Nat.reduceAdd] <;> decide)) (Nat.le_refl _) rfl)
    | [i, j], _ =>
      have i1 := ih [j] (by simp)
      have i2 := ih [i, j] (by simp)
      rw [cv2, e0, Rat.one_mul]
      exact i2.add (by first | decide | (simp only [List.length_cons, List.length_nil, Nat.zero_add, Nat.reduceAdd] <;> decide)) (Nc.add (by first | decide | (simp only [List.length_cons, List.length_nil, Nat.zero_add, Nat.reduceAdd] <;> decide)) (((E_nc1 hs ha i).mul (by first | decide | (simp only [List.length_cons, List.length_nil, Nat.zero_add, Nat.reduceAdd] <;> decide)) (by first | decide | (simp only [List.length_cons, List.length_nil, Nat.zero_add, Nat.reduceAdd] <;> decide)) i1).cast (by first | decide | (simp only [List.length_cons, List.length_nil, Nat.zero_add, Nat.reduceAdd] <;> decide)) (Nat.le_refl _) rfl) (((E_nc2 hs ha i j).mul (by first | decide | (simp only [List.length_cons, List.length_nil, Nat.zero_add, Nat.reduceAdd] <;> decide)) (by first | decide | (simp only [List.length_cons, List.length_nil, Nat.zero_add, Nat.reduceAdd] <;> decide)) i0).cast (by first | decide | (simp only [List.length_cons, List.length_nil, Nat.zero_add, Nat.reduceAdd] <;> decide)) (Nat.le_refl _) rfl))
    | [i, j, k], _ =>
      have i1 := ih [k] (by simp)
      have i2 := ih [j, k] (by simp)
      have i3 := ih [i, j, k] (by simp)
      rw [cv3, e0, Rat.one_mul]
      exact i3.add (by first | decide | (simp only [List.length_cons, List.length_nil, Nat.zero_add, Nat.reduceAdd] <;> decide)) (Nc.add (by first | decide | (simp only [List.length_cons, List.length_nil, Nat.zero_add, Nat.reduceAdd] <;> decide)) (((E_nc1 hs ha i).mul (by first | decide | (simp only [List.length_cons, List.length_nil, Nat.zero_add, Nat.reduceAdd] <;> decide)) (by first | decide | (simp only [List.length_cons, List.length_nil, Nat.zero_add, Nat.reduceAdd] <;> decide)) i2).cast (by first | decide | (simp only [List.length_cons, List.length_nil, Nat.zero_add, Nat.reduceAdd] <;> decide)) (Nat.le_refl _) rfl) (Nc.add (by first | decide | (simp only [List.length_cons, List.length_nil, Nat.zero_add, Nat.reduceAdd] <;> decide)) (((E_nc2 hs ha i j).mul (by first | decide | (simp only [List.length_cons, List.length_nil, Nat.zero_add, Nat.reduceAdd] <;> decide)) (by first | decide | (simp only [List.length_cons, List.length_nil, Nat.zero_add, Nat.reduceAdd] <;> decide)) i1).cast (by first | decide | (simp only [List.length_cons, List.length_nil, Nat.zero_add, Nat.reduceAdd] <;> decide)) (Nat.le_refl _) rfl) (((E_nc3 hs ha i j k).mul (by first | decide | (simp only [List.length_cons, List.length_nil, Nat.zero_add, Nat.reduceAdd] <;> decide)) (by first | decide | (simp only [List.length_cons, List.length_nil, Nat.zero_add, Nat.reduceAdd] <;> decide)) i0).cast (by first | decide | (simp only [List.length_cons, List.length_nil, Nat.zero_add, Nat.reduceAdd] <;> decide)) (Nat.le_refl _) rfl)))
    | _ :: _ :: _ :: _ :: _, hw => simp only [List.length_cons] at hw; omega
end
def inS (a : Vc) (p : List Vc) : List Int → List Int → Rat
  | _, [] => 0
  | pre, i :: u => E a (pre ++ [i]) * wth p u + inS a p (pre ++ [i]) u
def outS : List Vc → List Int → Rat
  | [], _ => 0
  | a :: p, w => inS a p [] w + outS p w
theorem outS_wth : ∀ (p : List Vc) (w : List Int), w.length ≤ 3 → w ≠ [] → outS p w = wth p w
  | [], [], _, h => (h rfl).elim
  | [], _ :: _, _, _ => rfl
  | a :: p, w, hw, h => by
    have ih := outS_wth p w hw h
    show inS a p [] w + outS p w = conv (E a) (wth p) w
    rw [ih]
    match w, hw, h with
    | [i], _, _ =>
      rw [cv1, e0]
      show E a [i] * wth p [] + 0 + _ = _
      grind
    | [i, j], _, _ =>
      rw [cv2, e0]
      show E a [i] * wth p [j] + (E a [i, j] * wth p [] + 0) + _ = _
      grind
    | [i, j, k], _, _ =>
      rw [cv3, e0]
      show E a [i] * wth p [j, k] + (E a [i, j] * wth p [k] + (E a [i, j, k] * wth p [] + 0)) + _ = _
      grind
    | _ :: _ :: _ :: _ :: _, hw, _ => simp only [List.length_cons] at hw; omega
theorem E_next (a : Vc) (pre : List Int) (i : Int) (h : pre.length ≤ 2) : E a (pre ++ [i]) = E a pre * sc a i / ((pre.length + 1 : Nat) : Rat) := by
  match pre, h with
  | [], _ => show E a [i] = E a [] * _ / ((1 : Nat) : Rat); rw [e0, e1]; have : ((1 : Nat) : Rat) = 1 := rfl; grind
  | [j], _ => show E a [j, i] = E a [j] * _ / ((2 : Nat) : Rat); rw [e1, e2]; have : ((2 : Nat) : Rat) = 2 := rfl; grind
  | [j, k], _ => show E a [j, k, i] = E a [j, k] * _ / ((3 : Nat) : Rat); rw [e2, e3]; have : ((3 : Nat) : Rat) = 3 := rfl; grind
  | _ :: _ :: _ :: _, h => simp only [List.length_cons] at h; omega
theorem E_nc {s : Nat} (hs : S12 s) {a : Vc} (h : Dn s a) (w : List Int) (hw : w.length ≤ 3) : Nc (36 ^ w.length) (144 ^ w.length) (E a w) := by
  match w, hw with
  | [], _ => rw [e0]; exact Nc.one (by first | decide | (simp only [List.length_cons, List.length_nil, Nat.zero_add, Nat.reduceAdd] <;> decide)) (by first | decide | (simp only [List.length_cons, List.length_nil, Nat.zero_add, Nat.reduceAdd] <;> decide))
  | [i], _ => exact (E_nc1 hs h i).cast (by first | decide | (simp only [List.length_cons, List.length_nil, Nat.zero_add, Nat.reduceAdd] <;> decide)) (by first | decide | (simp only [List.length_cons, List.length_nil, Nat.zero_add, Nat.reduceAdd] <;> decide)) rfl
  | [i, j], _ => exact (E_nc2 hs h i j).cast (by first | decide | (simp only [List.length_cons, List.length_nil, Nat.zero_add, Nat.reduceAdd] <;> decide)) (by first | decide | (simp only [List.length_cons, List.length_nil, Nat.zero_add, Nat.reduceAdd] <;> decide)) rfl
  | [i, j, k], _ => exact (E_nc3 hs h i j k).cast (by first | decide | (simp only [List.length_cons, List.length_nil, Nat.zero_add, Nat.reduceAdd] <;> decide)) (by first | decide | (simp only [List.length_cons, List.length_nil, Nat.zero_add, Nat.reduceAdd] <;> decide)) rfl
  | _ :: _ :: _ :: _ :: _, hw => simp only [List.length_cons] at hw; omega
theorem p36 {n : Nat} (h : n ≤ 3) : 36 ^ n ≠ 0 ∧ 36 ^ n < 2 ^ 1900 := by
  refine ⟨Nat.pos_iff_ne_zero.mp (Nat.pow_pos (by decide)), Nat.lt_of_le_of_lt (Nat.pow_le_pow_right (by decide) h) (by decide +kernel)⟩
theorem p144 {n : Nat} (h : n ≤ 3) : 144 ^ n ≤ 10 ^ 12 := Nat.le_trans (Nat.pow_le_pow_right (by decide) h) (by decide)
theorem sc_get {s : Nat} (hs : S12 s) {a : Vc} (ha : a.length = s) {j : Nat} (hj : j < s) : a[j]? = some (sc a (j : Nat)) := by
  rcases hs with rfl | rfl
  · obtain ⟨x, rfl⟩ := v1 ha
    obtain rfl : j = 0 := by omega
    rw [sc_1]; rfl
  · obtain ⟨x, y, rfl⟩ := v2 ha
    match j, hj with
    | 0, _ => rw [sc_2]; rfl
    | 1, _ => rw [sc_2]; rfl
end Lb
namespace Lb
open PySem PySem.Spec PyProof.Rows L2 Vf

theorem nat_rD (k : Nat) : D.tup [.int ((k : Nat) : Int), .int 1] = rD false ((k : Nat) : Rat) := by
  show _ = D.tup [.int ((k : Nat) : Rat).num, .int (((k : Nat) : Rat).den : Nat)]
  rw [Rat.num_natCast, Rat.den_natCast]; rfl
theorem nat_bd {k : Nat} (h : k ≤ 1000) : Bd ((k : Nat) : Rat) := by
  refine ⟨?_, ?_⟩
  · rw [Rat.num_natCast, Int.natAbs_natCast]; exact Nat.lt_of_le_of_lt h (by decide +kernel)
  · rw [Rat.den_natCast]; decide +kernel
def Ls (s : Nat) (w : List Int) : Prop := ∀ i ∈ w, ∃ j : Nat, i = j ∧ j < s
theorem big {n : Nat} (h : n ≤ 10 ^ 30) : n < 2 ^ 1900 := Nat.lt_of_le_of_lt h (by decide +kernel)
@[irreducible] def TT : Nat := 10 ^ 24
theorem TT_eq : TT = 10 ^ 24 := by unfold TT; rfl
abbrev WI (x : IX) : Sxs := (.cons (.set 4 (.call x.l_over (.cons (.call x.l_by (.cons (.var 4) (.cons (.prim .idx (.cons (.prim .idx (.cons (.var 0) (.cons (.var 3) .nil))) (.cons (.prim .idx (.cons (.var 1) (.cons (.prim (.bin .Sub) (.cons (.var 5) (.cons (.cst (.int (1))) .nil))) .nil))) .nil))) .nil))) (.cons (.tup (.cons (.var 5) (.cons (.cst (.int (1))) .nil))) .nil))))
  (.cons (.set 2 (.call x.l_plus (.cons (.var 2) (.cons (.call x.l_by (.cons (.var 4) (.cons (.call x.l_worth (.cons (.prim (.sl true false) (.cons (.var 0) (.cons (.prim (.bin .Add) (.cons (.var 3) (.cons (.cst (.int (1))) .nil))) .nil))) (.cons (.prim (.sl true false) (.cons (.var 1) (.cons (.var 5) .nil))) .nil))) .nil))) .nil))))
  .nil))
abbrev WOu (x : IX) : Sxs := (.cons (.set 4 (.tup (.cons (.cst (.int (1))) (.cons (.cst (.int (1))) .nil))))
  (.cons (.for_ [5] (.rng2 (.cst (.int (1))) (.prim (.bin .Add) (.cons (.prim (.blt "len") (.cons (.var 1) .nil)) (.cons (.cst (.int (1))) .nil)))) (WI x))
  .nil))
section
variable {x : IX} {F : FT} {T : Vf.TP} (K : KL F x) {s : Nat} (hs : S12 s)
include K hs
theorem win_loop {P done p : List Vc} {a : Vc} (hP : P = done ++ a :: p) (ha : Dn s a) (hp : ∀ b ∈ p, Dn s b) (hl : p.length ≤ 4) (w : List Int) (hw : w.length ≤ 3) (hL : Ls s w) (hW : ∀ u : List Int, u.length < w.length → (∃ pre, w = pre ++ u) → F x.l_worth [pathD p, wordD u] T = .ok (rD false (wth p u)) false T) :
    ∀ (u pre : List Int) (tot : Rat) (c : Nat) (y : Option (Bool × D)), pre ++ u = w → Nc (36 ^ w.length) (c * TT) tot → c + u.length ≤ 100 →
    ∃ y', forL [5] (evSs F (WI x)) (rgN (pre.length + 1) u.length) ⟨[some (false, pathD P), some (false, wordD w), some (false, rD false tot), some (false, .int (done.length : Nat)), some (false, rD false (E a pre)), y], T⟩ =
      .ok .nx ⟨[some (false, pathD P), some (false, wordD w), some (false, rD false (tot + inS a p pre u)), some (false, .int (done.length : Nat)), some (false, rD false (E a w)), y'], T⟩ ∧ Nc (36 ^ w.length) ((c + u.length) * TT) (tot + inS a p pre u)
  | [], pre, tot, c, y, hpw, hc, _ => by
    rw [List.append_nil] at hpw
    subst hpw
    refine ⟨y, ?_, ?_⟩
    · show Res.ok Fl.nx _ = _
      rw [show tot + inS a p pre [] = tot from Rat.add_zero tot]
    · rw [show tot + inS a p pre [] = tot from Rat.add_zero tot, List.length_nil, Nat.add_zero]; exact hc
  | i :: u, pre, tot, c, y, hpw, hc, hcu => by
    have hlen : pre.length + (u.length + 1) = w.length := by rw [← hpw, List.length_append, List.length_cons]
    rw [List.length_cons] at hcu ⊢
    have hpw2 : (pre ++ [i]) ++ u = w := by rw [List.append_assoc]; exact hpw
    obtain ⟨j, hj, hj2⟩ := hL i (by rw [← hpw]; simp)
    have hwi : w[pre.length]? = some i := by rw [← hpw]; simp
    have hPi : P[done.length]? = some a := by rw [hP]; simp
    have hPd : P.drop (done.length + 1) = p := by rw [hP]; simp
    have hwd : w.drop (pre.length + 1) = u := by
      rw [← hpw2, show pre.length + 1 = (pre ++ [i]).length by simp]
      exact List.drop_left ..
    have g1 := ix_path hPi
    have g2 := ix_word hwi
    have g3 := ix_step (sc_get hs ha.1 hj2)
    rw [← hj] at g3
    have g4 := sl_path P (done.length + 1)
    rw [hPd] at g4
    have g5 := sl_word w (pre.length + 1)
    rw [hwd] at g5
    have p3 := p36 hw
    have q3 := p36 (n := pre.length) (by omega)
    have q4 := p36 (n := (pre ++ [i]).length) (by rw [List.length_append, List.length_singleton]; omega)
    have bE := (E_nc hs ha pre (by omega)).bd q3.1 q3.2 (big (Nat.le_trans (p144 (by omega)) (by decide)))
    have bs := (sc_nc hs ha i).bd (by decide) (big (by decide)) (big (by decide))
    have nm := (E_nc hs ha pre (by omega)).mul q3.1 (by decide) (sc_nc hs ha i)
    have bm := nm.bd (Nat.mul_ne_zero q3.1 (by decide)) (by
      have : 36 ^ pre.length ≤ 36 ^ 3 := Nat.pow_le_pow_right (by decide) (by omega)
      exact big (Nat.le_trans (Nat.mul_le_mul_right 6 this) (by decide))) (big (Nat.le_trans (Nat.mul_le_mul_right 24 (p144 (n := pre.length) (by omega))) (by decide)))
    have nE := E_nc hs ha (pre ++ [i]) (by rw [List.length_append, List.length_singleton]; omega)
    have bE2 := nE.bd q4.1 q4.2 (big (Nat.le_trans (p144 (by rw [List.length_append, List.length_singleton]; omega)) (by decide)))
    have nW := wth_nc hs hp u (by omega)
    have qu := p36 (n := u.length) (by omega)
    have bW := nW.bd qu.1 qu.2 (big (Nat.le_trans (kk_small _ _ hl (by omega)) (by decide)))
    have nT : Nc (36 ^ w.length) TT (E a (pre ++ [i]) * wth p u) := (nE.mul q4.1 qu.1 nW).cast (by
      rw [← Nat.pow_add, ← hpw2, List.length_append (bs := u)]) (by
      have h1 := p144 (n := (pre ++ [i]).length) (by rw [List.length_append, List.length_singleton]; omega)
      have h2 := kk_small p.length u.length hl (by omega)
      rw [TT_eq]
      exact Nat.le_trans (Nat.mul_le_mul h1 h2) (by decide)) rfl
    have bT := nT.bd p3.1 p3.2 (big (by rw [TT_eq]; decide))
    have sm : ∀ c, c ≤ 100 → c * TT < 2 ^ 1900 := fun c hc => big (Nat.le_trans (Nat.mul_le_mul_right _ hc) (by rw [TT_eq]; decide))
    have b0 := hc.bd p3.1 p3.2 (sm c (by omega))
    have nS := hc.add p3.1 nT
    rw [show c * TT + TT = (c + 1) * TT by rw [Nat.succ_mul]] at nS
    have f1 := K.by_ T (E a pre) (sc a i) false false bE bs
    have f2 := K.over T (E a pre * sc a i) ((pre.length + 1 : Nat) : Rat) false false bm (nat_bd (by omega)) (by rw [Rat.num_natCast]; omega)
    rw [← E_next a pre i (by omega), ← nat_rD] at f2
    have f3 := hW u (by omega) ⟨pre ++ [i], hpw2.symm⟩
    have f4 := K.by_ T (E a (pre ++ [i])) (wth p u) false false bE2 bW
    have f5 := K.plus T tot (E a (pre ++ [i]) * wth p u) false false b0 bT
    obtain ⟨y', ih, ih2⟩ := win_loop hP ha hp hl w hw hL hW u (pre ++ [i]) (tot + E a (pre ++ [i]) * wth p u) (c + 1) (some (false, .int ((pre.length + 1 : Nat) : Int))) hpw2 nS (by omega)
    rw [List.length_append, List.length_singleton] at ih
    have hI : tot + inS a p pre (i :: u) = tot + E a (pre ++ [i]) * wth p u + inS a p (pre ++ [i]) u := by
      show tot + (E a (pre ++ [i]) * wth p u + inS a p (pre ++ [i]) u) = _
      rw [Rat.add_assoc]
    refine ⟨y', ?_, ?_⟩
    · rw [hI]
      have z1 : (((pre.length + 1 : Nat) : Int) - 1) = ((pre.length : Nat) : Int) := by omega
      have z2 : ((done.length : Nat) : Int) + 1 = ((done.length + 1 : Nat) : Int) := by omega
      have ef : fits 2 = true := by decide
      show forL [5] _ (.int ((pre.length + 1 : Nat) : Int) :: rgN (pre.length + 1 + 1) u.length) _ = _
      refine for_cons (s1 := ⟨[some (false, pathD P), some (false, wordD w), some (false, rD false tot), some (false, .int (done.length : Nat)), some (false, rD false (E a pre)), some (false, .int ((pre.length + 1 : Nat) : Int))], T⟩) (s2 := ⟨[some (false, pathD P), some (false, wordD w), some (false, rD false (tot + E a (pre ++ [i]) * wth p u)), some (false, .int (done.length : Nat)), some (false, rD false (E a (pre ++ [i]))), some (false, .int ((pre.length + 1 : Nat) : Int))], T⟩) (by dsimp!) ?_ ih
      generalize rD false (tot + E a (pre ++ [i]) * wth p u) = R1 at f5 ⊢
      generalize rD false (E a (pre ++ [i]) * wth p u) = R2 at f4 f5
      generalize rD false (E a (pre ++ [i])) = R3 at f2 f4 ⊢
      generalize rD false (E a pre * sc a i) = R4 at f1 f2
      generalize rD false (E a pre) = R5 at f1 ⊢
      generalize rD false (wth p u) = R6 at f3 f4
      generalize rD false tot = R7 at f5 ⊢
      generalize rD false (sc a i) = R8 at f1 g3
      generalize stepD a = A at g1 g3
      generalize pathD P = P1 at g1 g4 ⊢
      generalize pathD p = P2 at g4 f3
      generalize wordD w = W1 at g2 g5 ⊢
      generalize wordD u = W2 at g5 f3
      dsimp! [slArgs, g1, g2, g3, g4, g5, z1, z2, f1, f2, f3, f4, f5, ef]
    · rw [hI, show c + (u.length + 1) = c + 1 + u.length by omega]
      exact ih2
theorem wout_loop {P : List Vc} (hlP : P.length ≤ 4) (w : List Int) (hw : w.length ≤ 3) (hL : Ls s w) (hW : ∀ (p : List Vc) (u : List Int), p.length ≤ 4 → (∀ b ∈ p, Dn s b) → u.length < w.length → Ls s u → F x.l_worth [pathD p, wordD u] T = .ok (rD false (wth p u)) false T) :
    ∀ (p done : List Vc) (tot : Rat) (c : Nat) (y z v : Option (Bool × D)), P = done ++ p → (∀ b ∈ p, Dn s b) → Nc (36 ^ w.length) (c * TT) tot → c + 3 * p.length ≤ 50 →
    ∃ y' z' v', forL [3] (evSs F (WOu x)) (rgN done.length p.length) ⟨[some (false, pathD P), some (false, wordD w), some (false, rD false tot), y, z, v], T⟩ =
      .ok .nx ⟨[some (false, pathD P), some (false, wordD w), some (false, rD false (tot + outS p w)), y', z', v'], T⟩
  | [], done, tot, c, y, z, v, hP, hp, hc, hb => ⟨y, z, v, by
      show Res.ok Fl.nx _ = _
      rw [show tot + outS [] w = tot from Rat.add_zero tot]⟩
  | a :: p, done, tot, c, y, z, v, hP, hp, hc, hb => by
    have ha := hp a (List.mem_cons_self ..)
    have hp2 : ∀ b ∈ p, Dn s b := fun b hb => hp b (List.mem_cons_of_mem _ hb)
    have hl : done.length + (p.length + 1) = P.length := by rw [hP, List.length_append, List.length_cons]
    rw [List.length_cons] at hb
    obtain ⟨v1, i1, i2⟩ := win_loop K hs hP ha hp2 (by omega) w hw hL (fun u hu ⟨pre, e⟩ => hW p u (by omega) hp2 hu (fun i hi => hL i (by rw [e]; exact List.mem_append_right _ hi))) w [] tot c v rfl hc (by omega)
    obtain ⟨y', z', v', ih⟩ := wout_loop hlP w hw hL hW p (done ++ [a]) (tot + inS a p [] w) (c + w.length) (some (false, .int (done.length : Nat))) (some (false, rD false (E a w))) v1 (by rw [List.append_assoc]; exact hP) hp2 i2 (by omega)
    refine ⟨y', z', v', ?_⟩
    rw [List.length_append, List.length_singleton] at ih
    rw [show tot + outS (a :: p) w = tot + inS a p [] w + outS p w by show tot + (inS a p [] w + outS p w) = _; rw [Rat.add_assoc], List.length_cons]
    show forL [3] _ (.int (done.length : Nat) :: rgN (done.length + 1) p.length) _ = _
    have ef : fits 2 = true := by decide
    have lw : lenD (wordD w) = some (.int (w.length : Nat), false) := by
      show some (D.int ((iD w).length : Nat), false) = _
      unfold iD; rw [List.length_map]
    have hit : evIt F (.rng2 (.cst (.int (1))) (.prim (.bin .Add) (.cons (.prim (.blt "len") (.cons (.var 1) .nil)) (.cons (.cst (.int (1))) .nil)))) ⟨[some (false, pathD P), some (false, wordD w), some (false, rD false tot), some (false, .int (done.length : Nat)), some (false, rD false 1), v], T⟩ = .ok (rgN 1 w.length) ⟨[some (false, pathD P), some (false, wordD w), some (false, rD false tot), some (false, .int (done.length : Nat)), some (false, rD false 1), v], T⟩ :=
      it_rng2 (j := 1) (n := w.length) (fr := false) (fr2 := false) (by dsimp! <;> rfl) (by
        generalize wordD w = W1 at lw ⊢
        dsimp! [-lenD, lw]
        rw [show ((w.length : Nat) : Int) + 1 = ((1 + w.length : Nat) : Int) by omega]) (by omega)
    rw [show E a [] = 1 from e0 a] at i1
    refine for_cons (s1 := ⟨[some (false, pathD P), some (false, wordD w), some (false, rD false tot), some (false, .int (done.length : Nat)), z, v], T⟩) (by dsimp!) ?_ ih
    refine st_cons (s1 := ⟨[some (false, pathD P), some (false, wordD w), some (false, rD false tot), some (false, .int (done.length : Nat)), some (false, rD false 1), v], T⟩) ?_ (st_cons (st_for hit i1) st_end)
    dsimp! [ef]
    rfl
theorem r_worth {P : List Vc} (hlP : P.length ≤ 4) (hP : ∀ b ∈ P, Dn s b) (w : List Int) (hw : w.length ≤ 3) (hL : Ls s w) (hW : ∀ (p : List Vc) (u : List Int), p.length ≤ 4 → (∀ b ∈ p, Dn s b) → u.length < w.length → Ls s u → F x.l_worth [pathD p, wordD u] T = .ok (rD false (wth p u)) false T) :
    runB F (B_l_worth x) [pathD P, wordD w] T = .ok (rD false (wth P w)) false T := by
  have e0 := eq_words w []
  have ef : fits 2 = true := by decide
  have ef0 : fits 0 = true := by decide
  by_cases h : w = []
  · subst h
    have hv : wth P [] = 1 := by
      have : ∀ p, wth p [] = 1 := fun p => by
        induction p with
        | nil => rfl
        | cons a p ih => show conv (E a) (wth p) [] = 1; rw [cv0, Lb.e0, ih, Rat.one_mul]
      exact this P
    rw [hv]
    rw [decide_eq_true rfl] at e0
    refine rb_rt rfl (st_last (s1 := ⟨[some (false, pathD P), some (false, wordD []), none, none, none, none], T⟩) ?_) rfl
    have e1 : Vf.eqD (wordD []) (.tup []) = some true := e0
    show evS F (.ite (.prim (.cmp .Eq) (.cons (.var 1) (.cons (.tup .nil) .nil))) _ _) ⟨[some (false, pathD P), some (false, wordD []), none, none, none, none], T⟩ = _
    generalize wordD [] = W1 at e1 ⊢
    dsimp! [ef0, e1, ef]
    rfl
  · rw [decide_eq_false h] at e0
    have e1 : Vf.eqD (wordD w) (.tup []) = some false := e0
    obtain ⟨y', z', v', g⟩ := wout_loop K hs hlP w hw hL hW P [] 0 0 none none none rfl hP Nc.zero (by omega)
    rw [Rat.zero_add, outS_wth P w hw h] at g
    have lp : lenD (pathD P) = some (.int (P.length : Nat), false) := by
      show some (D.int ((stepDs P).length : Nat), false) = _
      rw [stepDs_len]
    refine rb_rt rfl (st_cons (s1 := ⟨[some (false, pathD P), some (false, wordD w), none, none, none, none], T⟩) ?_ (st_cons (s1 := ⟨[some (false, pathD P), some (false, wordD w), some (false, rD false 0), none, none, none], T⟩) ?_ (st_cons (st_for (it_rng1 (n := P.length) (fr := false) (s1 := ⟨[some (false, pathD P), some (false, wordD w), some (false, rD false 0), none, none, none], T⟩) ?_ (by omega)) g) (st_last (s1 := ⟨[some (false, pathD P), some (false, wordD w), none, y', z', v'], T⟩) ?_)))) rfl
    · show evS F (.ite (.prim (.cmp .Eq) (.cons (.var 1) (.cons (.tup .nil) .nil))) _ _) ⟨[some (false, pathD P), some (false, wordD w), none, none, none, none], T⟩ = _
      generalize wordD w = W1 at e1 ⊢
      dsimp! [ef0, e1]
    · dsimp! [ef]
      rfl
    · generalize pathD P = P1 at lp ⊢
      dsimp! [-lenD, lp]
    · dsimp!
end
theorem k_worth {Ps : List Fn} {x : IX} (hL : HasL Ps x) (hM : HasM Ps x) (T : Vf.TP) {s : Nat} (hs : S12 s) : ∀ (n m : Nat) (P : List Vc) (w : List Int), n + 4 ≤ m → w.length ≤ n → n ≤ 3 → P.length ≤ 4 → (∀ b ∈ P, Dn s b) → Ls s w → Vf.run Ps m x.l_worth [pathD P, wordD w] T = .ok (rD false (wth P w)) false T := by
  intro n
  induction n with
  | zero =>
    intro m P w hm hw hn hl hP hLs
    rw [run_m hM.l_worth (by omega)]
    exact r_worth (kL hL (by omega)) hs hl hP w (by omega) hLs (fun p u _ _ hu _ => by omega)
  | succ n ih =>
    intro m P w hm hw hn hl hP hLs
    rw [run_m hM.l_worth (by omega)]
    exact r_worth (kL hL (by omega)) hs hl hP w (by omega) hLs (fun p u h1 h2 h3 h4 => ih (m - 1) p u (by omega) (by omega) (by omega) h1 h2 h4)
end Lb
namespace Lb
open PySem PySem.Spec PyProof.Rows L2 Vf

abbrev AI (x : IX) : Sxs := (.cons (.ite (.prim (.cmp .NotEq) (.cons (.call x.l_by (.cons (.prim .idx (.cons (.var 0) (.cons (.var 2) .nil))) (.cons (.prim .idx (.cons (.var 1) (.cons (.var 3) .nil))) .nil))) (.cons (.call x.l_by (.cons (.prim .idx (.cons (.var 0) (.cons (.var 3) .nil))) (.cons (.prim .idx (.cons (.var 1) (.cons (.var 2) .nil))) .nil))) .nil))) (.cons (.ret (.cst (.bl false)))
  .nil) .nil)
  .nil)
abbrev AO (x : IX) : Sxs := .cons (.for_ [3] (.rng1 (.prim (.blt "len") (.cons (.var 1) .nil))) (AI x)) .nil
section
variable {x : IX} {F : FT} {T : Vf.TP} (K : KL F x) {s : Nat} (hs : S12 s)
include K
theorem al_turn {a b : Vc} {k j : Nat} {ak aj bk bj : Rat} (h1 : a[k]? = some ak) (h2 : a[j]? = some aj) (h3 : b[k]? = some bk) (h4 : b[j]? = some bj) (b1 : Bd ak) (b2 : Bd aj) (b3 : Bd bk) (b4 : Bd bj) :
    evSs F (AI x) ⟨[some (false, stepD a), some (false, stepD b), some (false, .int (k : Nat)), some (false, .int (j : Nat))], T⟩ = .ok (if ak * bj = aj * bk then .nx else .rt (.bl false) false) ⟨[some (false, stepD a), some (false, stepD b), some (false, .int (k : Nat)), some (false, .int (j : Nat))], T⟩ := by
  have g1 := ix_step h1
  have g2 := ix_step h2
  have g3 := ix_step h3
  have g4 := ix_step h4
  have f1 := K.by_ T ak bj false false b1 b4
  have f2 := K.by_ T aj bk false false b2 b3
  have f3 := eqR (ak * bj) (aj * bk)
  by_cases h : ak * bj = aj * bk
  · rw [if_pos h]
    rw [decide_eq_true h] at f3
    generalize rD false (ak * bj) = R1 at f1 f3
    generalize rD false (aj * bk) = R2 at f2 f3
    generalize stepD a = A at g1 g2 ⊢
    generalize stepD b = B at g3 g4 ⊢
    dsimp! [g1, g2, g3, g4, f1, f2, f3]
  · rw [if_neg h]
    rw [decide_eq_false h] at f3
    generalize rD false (ak * bj) = R1 at f1 f3
    generalize rD false (aj * bk) = R2 at f2 f3
    generalize stepD a = A at g1 g2 ⊢
    generalize stepD b = B at g3 g4 ⊢
    dsimp! [g1, g2, g3, g4, f1, f2, f3]
theorem for_rt {tg : List Nat} {b : M Fl} {d : D} {r : List D} {s s1 s2 : S} {v : D} {fr : Bool} (h1 : bindT tg d s = .ok () s1) (h2 : b s1 = .ok (.rt v fr) s2) : forL tg b (d :: r) s = .ok (.rt v fr) s2 := by
  show bnd _ _ _ = _
  rw [u_bnd, h1]
  show bnd _ _ _ = _
  rw [u_bnd, h2]
include hs
theorem r_lalong {a b : Vc} (ha : SOk s a) (hb : SOk s b) : runB F (B_l_along x) [stepD a, stepD b] T = .ok (.bl (al a b)) false T := by
  obtain ⟨la, ba⟩ := ha
  obtain ⟨lb, bb⟩ := hb
  have l1 : lenD (stepD a) = some (.int (s : Nat), false) := by
    show some (D.int ((rDs a).length : Nat), false) = _
    rw [rDs_len, la]
  have l2 : lenD (stepD b) = some (.int (s : Nat), false) := by
    show some (D.int ((rDs b).length : Nat), false) = _
    rw [rDs_len, lb]
  have i1 : ∀ y z, evIt F (.rng1 (.prim (.blt "len") (.cons (.var 0) .nil))) ⟨[some (false, stepD a), some (false, stepD b), y, z], T⟩ = .ok (rgN 0 s) ⟨[some (false, stepD a), some (false, stepD b), y, z], T⟩ := fun y z => it_rng1 (fr := false) (by generalize stepD a = A at l1 ⊢; dsimp! [-lenD, l1]) (by omega)
  have i2 : ∀ y z, evIt F (.rng1 (.prim (.blt "len") (.cons (.var 1) .nil))) ⟨[some (false, stepD a), some (false, stepD b), y, z], T⟩ = .ok (rgN 0 s) ⟨[some (false, stepD a), some (false, stepD b), y, z], T⟩ := fun y z => it_rng1 (fr := false) (by generalize stepD b = A at l2 ⊢; dsimp! [-lenD, l2]) (by omega)
  rcases hs with rfl | rfl
  · obtain ⟨a0, rfl⟩ := v1 la
    obtain ⟨b0, rfl⟩ := v1 lb
    have t := al_turn K (T := T) (a := [a0]) (b := [b0]) (k := 0) (j := 0) rfl rfl rfl rfl (ba a0 (by simp)) (ba a0 (by simp)) (bb b0 (by simp)) (bb b0 (by simp))
    rw [if_pos rfl] at t
    refine rb_rt rfl (st_cons (st_for (i1 none none) (for_cons (s1 := ⟨[some (false, stepD [a0]), some (false, stepD [b0]), some (false, .int 0), none], T⟩) (by dsimp! <;> rfl) (st_cons (st_for (i2 _ _) (for_cons (s1 := ⟨[some (false, stepD [a0]), some (false, stepD [b0]), some (false, .int 0), some (false, .int 0)], T⟩) (by dsimp! <;> rfl) t rfl)) st_end) rfl)) (st_last (s1 := ⟨[some (false, stepD [a0]), some (false, stepD [b0]), some (false, .int 0), some (false, .int 0)], T⟩) ?_)) rfl
    dsimp!
    rfl
  · obtain ⟨a0, a1, rfl⟩ := v2 la
    obtain ⟨b0, b1, rfl⟩ := v2 lb
    have A0 := ba a0 (by simp)
    have A1 := ba a1 (by simp)
    have B0 := bb b0 (by simp)
    have B1 := bb b1 (by simp)
    have t00 := al_turn K (T := T) (a := [a0, a1]) (b := [b0, b1]) (k := 0) (j := 0) rfl rfl rfl rfl A0 A0 B0 B0
    have t01 := al_turn K (T := T) (a := [a0, a1]) (b := [b0, b1]) (k := 0) (j := 1) rfl rfl rfl rfl A0 A1 B0 B1
    have t10 := al_turn K (T := T) (a := [a0, a1]) (b := [b0, b1]) (k := 1) (j := 0) rfl rfl rfl rfl A1 A0 B1 B0
    have t11 := al_turn K (T := T) (a := [a0, a1]) (b := [b0, b1]) (k := 1) (j := 1) rfl rfl rfl rfl A1 A1 B1 B1
    rw [if_pos rfl] at t00 t11
    show runB F (B_l_along x) [stepD [a0, a1], stepD [b0, b1]] T = .ok (.bl (decide (a1 * b0 = a0 * b1))) false T
    by_cases hc : a0 * b1 = a1 * b0
    · rw [if_pos hc] at t01
      rw [if_pos hc.symm] at t10
      rw [decide_eq_true hc.symm]
      generalize stepD [a0, a1] = A at *
      generalize stepD [b0, b1] = B at *
      refine rb_rt rfl (st_cons (st_for (i1 none none) (for_cons (s1 := ⟨[some (false, A), some (false, B), some (false, .int 0), none], T⟩) (by dsimp! <;> rfl) (st_cons (st_for (i2 _ _) (for_cons (s1 := ⟨[some (false, A), some (false, B), some (false, .int 0), some (false, .int 0)], T⟩) (by dsimp! <;> rfl) t00 (for_cons (s1 := ⟨[some (false, A), some (false, B), some (false, .int 0), some (false, .int 1)], T⟩) (by dsimp! <;> rfl) t01 rfl))) st_end)
        (for_cons (s1 := ⟨[some (false, A), some (false, B), some (false, .int 1), some (false, .int 1)], T⟩) (by dsimp! <;> rfl) (st_cons (st_for (i2 _ _) (for_cons (s1 := ⟨[some (false, A), some (false, B), some (false, .int 1), some (false, .int 0)], T⟩) (by dsimp! <;> rfl) t10 (for_cons (s1 := ⟨[some (false, A), some (false, B), some (false, .int 1), some (false, .int 1)], T⟩) (by dsimp! <;> rfl) t11 rfl))) st_end) rfl))) (st_last (s1 := ⟨[some (false, A), some (false, B), some (false, .int 1), some (false, .int 1)], T⟩) ?_)) rfl
      dsimp!
      rfl
    · rw [if_neg hc] at t01
      rw [decide_eq_false (fun e => hc e.symm)]
      generalize stepD [a0, a1] = A at *
      generalize stepD [b0, b1] = B at *
      refine rb_rt (s := ⟨[some (false, A), some (false, B), some (false, .int 0), some (false, .int 1)], T⟩) rfl (st_last (st_for (i1 none none) (for_rt K (s1 := ⟨[some (false, A), some (false, B), some (false, .int 0), none], T⟩) (by dsimp! <;> rfl) (st_last (st_for (i2 _ _) (for_cons (s1 := ⟨[some (false, A), some (false, B), some (false, .int 0), some (false, .int 0)], T⟩) (by dsimp! <;> rfl) t00 (for_rt K (s1 := ⟨[some (false, A), some (false, B), some (false, .int 0), some (false, .int 1)], T⟩) (by dsimp! <;> rfl) t01))))))) rfl
end
end Lb
namespace Lb
open PySem PySem.Spec PyProof.Rows L2 Vf

def pl : Nat → List Vc → List Nat
  | _, [] => []
  | _, [_] => []
  | j, a :: b :: r => if al a b then j :: pl (j + 1) (b :: r) else pl (j + 1) (b :: r)
theorem pl_mem : ∀ {q : List Vc} {j k : Nat}, k ∈ pl j q → ∃ l a b r, q = l ++ a :: b :: r ∧ k = j + l.length ∧ al a b = true
  | [], _, _, h => by cases h
  | [_], _, _, h => by cases h
  | a :: b :: r, j, k, h => by
    have tail : k ∈ pl (j + 1) (b :: r) → ∃ l a' b' r', a :: b :: r = l ++ a' :: b' :: r' ∧ k = j + l.length ∧ al a' b' = true := fun h => by
      obtain ⟨l, a', b', r', h1, h2, h3⟩ := pl_mem h
      exact ⟨a :: l, a', b', r', by rw [h1]; rfl, by rw [List.length_cons]; omega, h3⟩
    unfold pl at h
    split at h
    · rcases List.mem_cons.mp h with rfl | h
      · exact ⟨[], a, b, r, rfl, rfl, by assumption⟩
      · exact tail h
    · exact tail h
section
variable {s : Nat} (hs : S12 s)
include hs
theorem red_path : ∀ {p : List Vc} {R : List Vc} {j : Nat}, Red s R → (∀ a ∈ p, a.length = s ∧ nz a = true) → pl j p = [] → (∀ t a, R.head? = some t → p.head? = some a → al t a = false) → Red s (p.reverse ++ R)
  | [], R, j, h, _, _, _ => h
  | a :: p, R, j, h, hp, hl, hh => by
    have ha := hp a (List.mem_cons_self ..)
    rw [List.reverse_cons, List.append_assoc]
    have h2 : Red s (a :: R) := by
      cases R with
      | nil => exact ha
      | cons t R => exact ⟨ha.1, ha.2, hh t a rfl rfl, h⟩
    refine red_path (R := a :: R) (j := j + 1) h2 (fun b hb => hp b (List.mem_cons_of_mem _ hb)) ?_ ?_
    · cases p with
      | nil => rfl
      | cons b r =>
        unfold pl at hl
        split at hl
        · cases hl
        · exact hl
    · intro t c ht hc
      cases ht
      cases p with
      | nil => cases hc
      | cons b r =>
        obtain rfl : b = c := by simpa using hc
        unfold pl at hl
        cases e : al a b with
        | false => rfl
        | true => rw [e] at hl; cases hl
theorem red_pl {p : List Vc} (hp : ∀ a ∈ p, a.length = s ∧ nz a = true) (hl : pl 0 p = []) : Red s p.reverse := by
  have := red_path hs (p := p) (R := []) (j := 0) trivial hp hl (fun t a h => by cases h)
  rw [List.append_nil] at this
  exact this
end
def mrg (l : List Vc) (c : Vc) (r : List Vc) : List Vc := l ++ (if nz c then [c] else []) ++ r
theorem num_nz (r : Rat) : decide (r.num ≠ 0) = decide (r ≠ 0) := by
  by_cases h : r = 0
  · subst h; rfl
  · have h2 : r.num ≠ 0 := fun e => h (Rat.num_eq_zero.mp e)
    rw [decide_eq_true (p := r ≠ 0) h, decide_eq_true (p := r.num ≠ 0) h2]
abbrev AZ : Ex := .prim (.blt "any") (.cons (.comp [6] [6] (.ex (.var 1)) .nil (.prim (.cmp .NotEq) (.cons (.prim .idx (.cons (.var 6) (.cons (.cst (.int (0))) .nil))) (.cons (.cst (.int (0))) .nil)))) .nil)
abbrev PC (x : IX) : Ex := .comp [4] [4] (.rng1 (.prim (.bin .Sub) (.cons (.prim (.blt "len") (.cons (.var 2) .nil)) (.cons (.cst (.int (1))) .nil)))) (.cons (.call x.l_along (.cons (.prim .idx (.cons (.var 2) (.cons (.var 4) .nil))) (.cons (.prim .idx (.cons (.var 2) (.cons (.prim (.bin .Add) (.cons (.var 4) (.cons (.cst (.int (1))) .nil))) .nil))) .nil))) .nil) (.var 4)
abbrev TC (x : IX) : Ex := .prim (.blt "tuple") (.cons (.comp [7, 8] [7, 8] (.zip (.prim .idx (.cons (.var 2) (.cons (.var 4) .nil))) (.prim .idx (.cons (.var 2) (.cons (.prim (.bin .Add) (.cons (.var 4) (.cons (.cst (.int (1))) .nil))) .nil)))) .nil (.call x.l_plus (.cons (.var 7) (.cons (.var 8) .nil)))) .nil)
section
variable {x : IX} {F : FT} {T : Vf.TP}
theorem az_comp {p0 p1 p2 p3 p4 p5 p7 p8 : Option (Bool × D)} : ∀ a : Vc,
    compL [6] [6] (Vf.ret true) (evE F (.prim (.cmp .NotEq) (.cons (.prim .idx (.cons (.var 6) (.cons (.cst (.int (0))) .nil))) (.cons (.cst (.int (0))) .nil)))) (rDs a) ⟨[p0, p1, p2, p3, p4, p5, none, p7, p8], T⟩ = .ok (a.map fun r => .bl (decide (r ≠ 0))) ⟨[p0, p1, p2, p3, p4, p5, none, p7, p8], T⟩
  | [] => rfl
  | r :: a => by
    have ih := az_comp (p0 := p0) (p1 := p1) (p2 := p2) (p3 := p3) (p4 := p4) (p5 := p5) (p7 := p7) (p8 := p8) a
    have g : idxD (rD false r) (.int 0) = some (.int r.num, false) := u_ix0
    show compL _ _ _ _ (rD false r :: rDs a) _ = .ok (.bl (decide (r ≠ 0)) :: a.map _) _
    refine comp_yes (x := (.bl (decide (r ≠ 0)), false)) (s1 := ⟨[p0, p1, p2, p3, p4, p5, some (false, rD false r), p7, p8], T⟩) (s2 := ⟨[p0, p1, p2, p3, p4, p5, some (false, rD false r), p7, p8], T⟩) (s3 := ⟨[p0, p1, p2, p3, p4, p5, some (false, rD false r), p7, p8], T⟩) ?_ rfl ?_ ih
    · dsimp!
    · rw [← num_nz]
      generalize rD false r = R at g ⊢
      dsimp! [g]
theorem az_ev {p0 p2 p3 p4 p5 p7 p8 : Option (Bool × D)} (a : Vc) (hl : a.length ≤ 1000) : evE F AZ ⟨[p0, some (false, stepD a), p2, p3, p4, p5, none, p7, p8], T⟩ = .ok (.bl (nz a), false) ⟨[p0, some (false, stepD a), p2, p3, p4, p5, none, p7, p8], T⟩ := by
  have hc := ev_comp0 (F := F) (own := [6]) (tg := [6]) (it := .ex (.var 1)) (s := ⟨[p0, some (false, stepD a), p2, p3, p4, p5, none, p7, p8], T⟩) (s0 := ⟨[p0, some (false, stepD a), p2, p3, p4, p5, none, p7, p8], T⟩) (ds := rDs a) (by unfold stepD; dsimp!) rfl (az_comp a) (decide_eq_true (by rw [List.length_map]; show _ ≤ 2 ^ 24; omega))
  exact ev_blt1 (F := F) (p := .blt "any") (fun _ h => by cases h) hc (nz_any a)
theorem bnd_B {e : Ex} {s s1 : S} {b fr : Bool} (h : evE F e s = .ok (.bl b, fr) s1) : bnd (evE F e) Vf.isB s = .ok b s1 := by rw [u_bnd, h]; rfl
theorem rows_comp {p0 : Option (Bool × D)} : ∀ q : List Vc, (∀ a ∈ q, a.length ≤ 1000) →
    compL [1] [1] (bnd (evE F AZ) Vf.isB) (evE F (.var 1)) (stepDs q) ⟨[p0, none, none, none, none, none, none, none, none], T⟩ = .ok (stepDs (q.filter nz)) ⟨[p0, none, none, none, none, none, none, none, none], T⟩
  | [], _ => rfl
  | a :: q, h => by
    have ih := rows_comp (p0 := p0) q fun b hb => h b (List.mem_cons_of_mem _ hb)
    have g := bnd_B (az_ev (F := F) (T := T) (p0 := p0) (p2 := none) (p3 := none) (p4 := none) (p5 := none) (p7 := none) (p8 := none) a (h a (List.mem_cons_self ..)))
    show compL _ _ _ _ (stepD a :: stepDs q) _ = _
    cases e : nz a with
    | true =>
      rw [List.filter_cons_of_pos e]
      rw [e] at g
      show _ = Res.ok (stepD a :: stepDs (q.filter nz)) _
      refine comp_yes (x := (stepD a, false)) (s1 := ⟨[p0, some (false, stepD a), none, none, none, none, none, none, none], T⟩) (s2 := ⟨[p0, some (false, stepD a), none, none, none, none, none, none, none], T⟩) (s3 := ⟨[p0, some (false, stepD a), none, none, none, none, none, none, none], T⟩) ?_ g ?_ ih
      · dsimp!
      · dsimp!
    | false =>
      rw [List.filter_cons_of_neg (by rw [e]; simp)]
      rw [e] at g
      exact comp_no (s1 := ⟨[p0, some (false, stepD a), none, none, none, none, none, none, none], T⟩) (s2 := ⟨[p0, some (false, stepD a), none, none, none, none, none, none, none], T⟩) (by dsimp!) g ih
theorem ix_rows {p : List Vc} {j : Nat} {a : Vc} (h : p[j]? = some a) : idxD (.lst (stepDs p)) (.int (j : Nat)) = some (stepD a, false) := by
  show (at? _ _).map _ = _
  have : at? ((j : Nat) : Int) (stepDs p) = some (stepD a) := atI_nat (by unfold stepDs; rw [List.getElem?_map, h]; rfl)
  rw [this]; rfl
def plD (l : List Nat) : List D := l.map fun k => .int (k : Nat)
theorem pl_comp {s : Nat} (hA : ∀ a b, SOk s a → SOk s b → F x.l_along [stepD a, stepD b] T = .ok (.bl (al a b)) false T) {Q : List Vc} (hQ : ∀ a ∈ Q, SOk s a) {p0 p1 p3 p5 p6 p7 p8 : Option (Bool × D)} : ∀ (q done : List Vc), Q = done ++ q →
    compL [4] [4] (bnd (evE F (.call x.l_along (.cons (.prim .idx (.cons (.var 2) (.cons (.var 4) .nil))) (.cons (.prim .idx (.cons (.var 2) (.cons (.prim (.bin .Add) (.cons (.var 4) (.cons (.cst (.int (1))) .nil))) .nil))) .nil)))) Vf.isB) (evE F (.var 4)) (rgN done.length (q.length - 1)) ⟨[p0, p1, some (true, .lst (stepDs Q)), p3, none, p5, p6, p7, p8], T⟩ = .ok (plD (pl done.length q)) ⟨[p0, p1, some (true, .lst (stepDs Q)), p3, none, p5, p6, p7, p8], T⟩
  | [], _, _ => rfl
  | [_], _, _ => rfl
  | a :: b :: q, done, hq => by
    have ih := pl_comp hA hQ (p0 := p0) (p1 := p1) (p3 := p3) (p5 := p5) (p6 := p6) (p7 := p7) (p8 := p8) (b :: q) (done ++ [a]) (by rw [List.append_assoc]; exact hq)
    rw [List.length_append, List.length_singleton] at ih
    have g1 := ix_rows (p := Q) (j := done.length) (a := a) (by rw [hq]; simp)
    have g2 := ix_rows (p := Q) (j := done.length + 1) (a := b) (by rw [hq]; simp)
    have f := hA a b (hQ a (by rw [hq]; simp)) (hQ b (by rw [hq]; simp))
    have z : ((done.length : Nat) : Int) + 1 = ((done.length + 1 : Nat) : Int) := by omega
    have hc : bnd (evE F (.call x.l_along (.cons (.prim .idx (.cons (.var 2) (.cons (.var 4) .nil))) (.cons (.prim .idx (.cons (.var 2) (.cons (.prim (.bin .Add) (.cons (.var 4) (.cons (.cst (.int (1))) .nil))) .nil))) .nil)))) Vf.isB ⟨[p0, p1, some (true, .lst (stepDs Q)), p3, some (false, .int (done.length : Nat)), p5, p6, p7, p8], T⟩ = .ok (al a b) ⟨[p0, p1, some (true, .lst (stepDs Q)), p3, some (false, .int (done.length : Nat)), p5, p6, p7, p8], T⟩ := by
      refine bnd_B (fr := false) ?_
      generalize D.lst (stepDs Q) = L1 at g1 g2 ⊢
      generalize stepD a = A at g1 f
      generalize stepD b = B at g2 f
      dsimp! [g1, g2, z, f]
    show compL _ _ _ _ (.int (done.length : Nat) :: rgN (done.length + 1) ((b :: q).length - 1)) _ = _
    unfold pl
    cases e : al a b with
    | true =>
      rw [e] at hc
      rw [if_pos rfl]
      show _ = Res.ok (.int (done.length : Nat) :: plD (pl (done.length + 1) (b :: q))) _
      refine comp_yes (x := (.int (done.length : Nat), false)) (s1 := ⟨[p0, p1, some (true, .lst (stepDs Q)), p3, some (false, .int (done.length : Nat)), p5, p6, p7, p8], T⟩) (s3 := ⟨[p0, p1, some (true, .lst (stepDs Q)), p3, some (false, .int (done.length : Nat)), p5, p6, p7, p8], T⟩) ?_ hc ?_ ih
      · dsimp!
      · dsimp!
    | false =>
      rw [e] at hc
      rw [if_neg Bool.false_ne_true]
      exact comp_no (s1 := ⟨[p0, p1, some (true, .lst (stepDs Q)), p3, some (false, .int (done.length : Nat)), p5, p6, p7, p8], T⟩) (by dsimp!) hc ih
end
end Lb
namespace Lb
open PySem PySem.Spec PyProof.Rows L2 Vf

theorem eqPl (l : List Nat) : Vf.eqD (.lst (plD l)) (.lst []) = some (decide (l = [])) := by
  have ok : ∀ l : List Nat, okDs 59 (plD l) = true := fun l => by
    induction l with
    | nil => unfold plD okDs; rfl
    | cons a l ih =>
      show okDs 59 (.int a :: plD l) = true
      unfold okDs
      rw [ih]; rfl
  have e : Vf.eqD (.lst (plD l)) (.lst []) = if okD 60 (.lst (plD l)) && okD 60 (.lst []) then some (PyData.eqv (pd (.lst (plD l))) (pd (.lst []))) else none := rfl
  have hk : (okD 60 (.lst (plD l)) && okD 60 (.lst [])) = true := by
    show (okDs 59 (plD l) && _) = true
    rw [ok]; rfl
  rw [e, if_pos hk]
  cases l <;> rfl
theorem ev_pr2 {F : FT} {p : Pr} {a b : Ex} (ha : ∀ i, a ≠ .var i) (hb : ∀ i, b ≠ .var i) {s s1 s2 : S} {d e : D} {f1 f2 : Bool} {r : D × Bool} (h : evE F a s = .ok (d, f1) s1) (g : evE F b s1 = .ok (e, f2) s2) (hp : primD p [d, e] = some r) : evE F (.prim p (.cons a (.cons b .nil))) s = .ok r s2 := by
  have h1 : evOp F a s = .ok (.val d) s1 := by
    unfold evOp
    split
    · exact (ha _ rfl).elim
    · rw [u_bnd, h]
  have h2 : evOp F b s1 = .ok (.val e) s2 := by
    unfold evOp
    split
    · exact (hb _ rfl).elim
    · rw [u_bnd, g]
  have h3 : evO F (.cons b .nil) s1 = .ok [.val e] s2 := by
    rw [evO_cons, u_bnd, h2]
    rfl
  have h4 : evO F (.cons a (.cons b .nil)) s = .ok [.val d, .val e] s2 := by
    rw [evO_cons, u_bnd, h1]
    show bnd _ _ s1 = _
    rw [u_bnd, h3]
  unfold evE
  rw [u_bnd, h4]
  show (match primD p [d, e] with | some r => Res.ok r s2 | none => Res.stuck) = _
  rw [hp]
abbrev SU (x : IX) : Sxs := .cons (.set 4 (.prim .idx (.cons (.var 5) (.cons (.prim .neg (.cons (.cst (.int (1))) .nil)) .nil))))
  (.cons (.set 1 (TC x))
  (.cons (.set 2 (.prim (.bin .Add) (.cons (.prim (.bin .Add) (.cons (.prim (.sl false true) (.cons (.var 2) (.cons (.var 4) .nil))) (.cons (.ite AZ (.lst (.cons (.var 1) .nil)) (.lst .nil)) .nil))) (.cons (.prim (.sl true false) (.cons (.var 2) (.cons (.prim (.bin .Add) (.cons (.var 4) (.cons (.cst (.int (2))) .nil))) .nil))) .nil))))
  .nil))
abbrev ST (x : IX) : Sxs := .cons (.set 5 (PC x)) (.cons (.ite (.prim (.cmp .NotEq) (.cons (.var 5) (.cons (.lst .nil) .nil))) (SU x) .nil) .nil)
theorem lst_len (Q : List Vc) : lenD (.lst (stepDs Q)) = some (.int (Q.length : Nat), false) := by
  show some (D.int ((stepDs Q).length : Nat), false) = _
  rw [stepDs_len]
section
variable {x : IX} {F : FT} {T : Vf.TP} (K : KL F x) {s : Nat} (hs : S12 s)
theorem plus_comp (K : KL F x) {p0 p1 p2 p3 p4 p5 p6 : Option (Bool × D)} : ∀ a b : Vc, (∀ r ∈ a, Bd r) → (∀ r ∈ b, Bd r) →
    compL [7, 8] [7, 8] (Vf.ret true) (evE F (.call x.l_plus (.cons (.var 7) (.cons (.var 8) .nil)))) (List.zipWith Vf.pairD (rDs a) (rDs b)) ⟨[p0, p1, p2, p3, p4, p5, p6, none, none], T⟩ = .ok (rDs (vadd a b)) ⟨[p0, p1, p2, p3, p4, p5, p6, none, none], T⟩
  | [], _, _, _ => rfl
  | _ :: _, [], _, _ => rfl
  | p :: a, q :: b, h1, h2 => by
    have ih := plus_comp K (p0 := p0) (p1 := p1) (p2 := p2) (p3 := p3) (p4 := p4) (p5 := p5) (p6 := p6) a b (fun r hr => h1 r (List.mem_cons_of_mem _ hr)) (fun r hr => h2 r (List.mem_cons_of_mem _ hr))
    have g := K.plus T p q false false (h1 p (List.mem_cons_self ..)) (h2 q (List.mem_cons_self ..))
    show compL _ _ _ _ (.tup [rD false p, rD false q] :: List.zipWith Vf.pairD (rDs a) (rDs b)) _ = .ok (rD false (p + q) :: rDs (vadd a b)) _
    refine comp_yes (x := (rD false (p + q), false)) (s1 := ⟨[p0, p1, p2, p3, p4, p5, p6, some (false, rD false p), some (false, rD false q)], T⟩) (s2 := ⟨[p0, p1, p2, p3, p4, p5, p6, some (false, rD false p), some (false, rD false q)], T⟩) (s3 := ⟨[p0, p1, p2, p3, p4, p5, p6, some (false, rD false p), some (false, rD false q)], T⟩) ?_ rfl ?_ ih
    · dsimp!
    · dsimp! [g]
def Nw (y : Option (Bool × D)) : Prop := y = none ∨ ∃ e, y = some (false, e)
def Rw (s B : Nat) (q : List Vc) : Prop := ∀ a ∈ q, a.length = s ∧ nz a = true ∧ ∀ r ∈ a, Nc 6 B r
theorem Rw.mono {s B C : Nat} {q : List Vc} (h : Rw s B q) (hc : B ≤ C) : Rw s C q := fun a ha => ⟨(h a ha).1, (h a ha).2.1, fun r hr => ((h a ha).2.2 r hr).mono hc⟩
include K hs
theorem sh_turn (hA : ∀ a b, SOk s a → SOk s b → F x.l_along [stepD a, stepD b] T = .ok (.bl (al a b)) false T) {B : Nat} (hB : B < 2 ^ 1900) {Q : List Vc} (hQ : Rw s B Q) (hl : Q.length ≤ 20) {p0 p3 : Option (Bool × D)} (y1 y4 y5 : Option (Bool × D)) (h4 : Nw y4) :
    ∃ Q' y1' y4' y5', evSs F (ST x) ⟨[p0, y1, some (true, .lst (stepDs Q)), p3, y4, y5, none, none, none], T⟩ = .ok .nx ⟨[p0, y1', some (true, .lst (stepDs Q')), p3, y4', y5', none, none, none], T⟩ ∧ Nw y4' ∧ Eqv s Q Q' ∧ Rw s (B + B) Q' ∧ (pl 0 Q = [] → Q' = Q) ∧ (pl 0 Q ≠ [] → Q'.length < Q.length) := by
  have hSO : ∀ a ∈ Q, SOk s a := fun a ha => ⟨(hQ a ha).1, fun r hr => ((hQ a ha).2.2 r hr).bd (by decide) (by decide +kernel) hB⟩
  have hit : ∀ y1 y4 y5, evIt F (.rng1 (.prim (.bin .Sub) (.cons (.prim (.blt "len") (.cons (.var 2) .nil)) (.cons (.cst (.int (1))) .nil)))) ⟨[p0, y1, some (true, .lst (stepDs Q)), p3, y4, y5, none, none, none], T⟩ = .ok (rgN 0 (Q.length - 1)) ⟨[p0, y1, some (true, .lst (stepDs Q)), p3, y4, y5, none, none, none], T⟩ := fun y1 y4 y5 => by
    have ln := lst_len Q
    cases hq : Q with
    | nil =>
      show evIt F _ ⟨[p0, y1, some (true, .lst []), p3, y4, y5, none, none, none], T⟩ = _
      dsimp!
      rfl
    | cons a r =>
      rw [hq, List.length_cons] at ln
      rw [List.length_cons, Nat.add_sub_cancel]
      refine it_rng1 (n := r.length) (fr := false) ?_ (by rw [hq, List.length_cons] at hl; omega)
      have z : ((r.length + 1 : Nat) : Int) - 1 = ((r.length : Nat) : Int) := by omega
      generalize D.lst (stepDs (a :: r)) = L at ln ⊢
      dsimp! [-lenD, ln, z]
  have hpc : evE F (PC x) ⟨[p0, y1, some (true, .lst (stepDs Q)), p3, y4, y5, none, none, none], T⟩ = .ok (.lst (plD (pl 0 Q)), true) ⟨[p0, y1, some (true, .lst (stepDs Q)), p3, y4, y5, none, none, none], T⟩ := by
    have hn : noOwned [4] (⟨[p0, y1, some (true, .lst (stepDs Q)), p3, y4, y5, none, none, none], T⟩ : S) = true := by
      rcases h4 with rfl | ⟨e, rfl⟩ <;> rfl
    have hlen : ∀ (q : List Vc) (j : Nat), (pl j q).length ≤ q.length := fun q => by
      induction q with
      | nil => intro j; exact Nat.le_refl _
      | cons a q ih =>
        intro j
        cases q with
        | nil => exact Nat.zero_le _
        | cons b r =>
          unfold pl
          have := ih (j + 1)
          split
          · rw [List.length_cons, List.length_cons]; omega
          · rw [List.length_cons]; omega
    exact ev_comp1 (F := F) (own := [4]) (tg := [4]) (hit y1 y4 y5) hn (pl_comp hA hSO (p0 := p0) (p1 := y1) (p3 := p3) (p5 := y5) (p6 := none) (p7 := none) (p8 := none) Q [] rfl) (decide_eq_true (by
      have := hlen Q 0
      unfold plD
      rw [List.length_map]
      show _ ≤ 2 ^ 24
      have : (pl ([] : List Vc).length Q).length ≤ Q.length := hlen Q 0
      omega))
  have hset := st_set (i := 5) hpc
  have hq0 := eqPl (pl 0 Q)
  have ef0 : fits 0 = true := by decide
  by_cases hp : pl 0 Q = []
  · rw [decide_eq_true hp] at hq0
    refine ⟨Q, y1, y4, some (true, .lst (plD (pl 0 Q))), ?_, h4, .rfl _, hQ.mono (by omega), fun _ => rfl, fun h => (h hp).elim⟩
    refine st_cons hset (st_cons (st_ite_f (fr := false) (s1 := ⟨[p0, y1, some (true, .lst (stepDs Q)), p3, y4, some (true, .lst (plD (pl 0 Q))), none, none, none], T⟩) ?_ st_end) st_end)
    show evE F _ ⟨[p0, y1, some (true, .lst (stepDs Q)), p3, y4, some (true, .lst (plD (pl 0 Q))), none, none, none], T⟩ = _
    generalize D.lst (plD (pl 0 Q)) = L at hq0 ⊢
    dsimp! [hq0, ef0]
  · rw [decide_eq_false hp] at hq0
    obtain ⟨k, hk⟩ : ∃ k, (pl 0 Q).getLast? = some k := by
      cases e : (pl 0 Q).getLast? with
      | none => exact (hp (List.getLast?_eq_none_iff.mp e)).elim
      | some k => exact ⟨k, rfl⟩
    obtain ⟨l, a, b, r, hQe, hkl, hab⟩ := pl_mem (List.mem_of_getLast? hk)
    rw [Nat.zero_add] at hkl
    obtain ⟨pre, hpre⟩ := List.getLast?_eq_some_iff.mp hk
    have hi4 : idxD (.lst (plD (pl 0 Q))) (.int (-1)) = some (.int (l.length : Nat), false) := by
      show (at? _ _).map _ = _
      have : at? (-1) (plD (pl 0 Q)) = some (.int (l.length : Nat)) := by
        rw [hpre, hkl]
        show at? (-1) (List.map _ (pre ++ [l.length])) = _
        rw [List.map_append]
        exact atI_last _ _
      rw [this]; rfl
    have hla : ∀ c ∈ l, c.length = s := fun c hc => (hQ c (by rw [hQe]; exact List.mem_append_left _ hc)).1
    have hlr : ∀ c ∈ r, c.length = s := fun c hc => (hQ c (by rw [hQe]; simp [hc])).1
    have hma : a ∈ Q := by rw [hQe]; simp
    have hmb : b ∈ Q := by rw [hQe]; simp
    obtain ⟨a1, a2, a3⟩ := hQ a hma
    obtain ⟨b1, b2, b3⟩ := hQ b hmb
    have hcl : (vadd a b).length = s := vadd_len a1 b1
    have hcn : ∀ r ∈ vadd a b, Nc 6 (B + B) r := vadd_nc (by decide) a3 b3
    have g1 := ix_rows (p := Q) (j := l.length) (a := a) (by rw [hQe]; simp)
    have g2 := ix_rows (p := Q) (j := l.length + 1) (a := b) (by rw [hQe]; simp)
    have z1 : ((l.length : Nat) : Int) + 1 = ((l.length + 1 : Nat) : Int) := by omega
    have z2 : ((l.length : Nat) : Int) + 2 = ((l.length + 2 : Nat) : Int) := by omega
    have hlq : l.length + (r.length + 2) = Q.length := by rw [hQe, List.length_append, List.length_cons, List.length_cons]
    have hz : evIt F (.zip (.prim .idx (.cons (.var 2) (.cons (.var 4) .nil))) (.prim .idx (.cons (.var 2) (.cons (.prim (.bin .Add) (.cons (.var 4) (.cons (.cst (.int (1))) .nil))) .nil)))) ⟨[p0, y1, some (true, .lst (stepDs Q)), p3, some (false, .int (l.length : Nat)), some (true, .lst (plD (pl 0 Q))), none, none, none], T⟩ = .ok (List.zipWith Vf.pairD (rDs a) (rDs b)) ⟨[p0, y1, some (true, .lst (stepDs Q)), p3, some (false, .int (l.length : Nat)), some (true, .lst (plD (pl 0 Q))), none, none, none], T⟩ := by
      have z : zipD (stepD a) (stepD b) = some (List.zipWith Vf.pairD (rDs a) (rDs b)) := rfl
      generalize D.lst (stepDs Q) = L at g1 g2 ⊢
      generalize stepD a = A at g1 z
      generalize stepD b = B at g2 z
      dsimp! [g1, g2, z1, z]
    have hcm := ev_comp0 (F := F) (own := [7, 8]) (tg := [7, 8]) hz rfl (plus_comp K (p0 := p0) (p1 := y1) (p2 := some (true, .lst (stepDs Q))) (p3 := p3) (p4 := some (false, .int (l.length : Nat))) (p5 := some (true, .lst (plD (pl 0 Q)))) (p6 := none) a b (hSO a hma).2 (hSO b hmb).2) (decide_eq_true (by rw [rDs_len, hcl]; show _ ≤ 2 ^ 24; rcases hs with rfl | rfl <;> decide))
    have hb := ev_blt1 (F := F) (p := .blt "tuple") (fun _ h => by cases h) hcm (r := (stepD (vadd a b), false)) rfl
    have hset1 : evS F (.set 1 (TC x)) ⟨[p0, y1, some (true, .lst (stepDs Q)), p3, some (false, .int (l.length : Nat)), some (true, .lst (plD (pl 0 Q))), none, none, none], T⟩ = .ok .nx ⟨[p0, some (false, stepD (vadd a b)), some (true, .lst (stepDs Q)), p3, some (false, .int (l.length : Nat)), some (true, .lst (plD (pl 0 Q))), none, none, none], T⟩ := st_set hb
    have hany := az_ev (F := F) (T := T) (p0 := p0) (p2 := some (true, .lst (stepDs Q))) (p3 := p3) (p4 := some (false, .int (l.length : Nat))) (p5 := some (true, .lst (plD (pl 0 Q)))) (p7 := none) (p8 := none) (vadd a b) (by rw [hcl]; rcases hs with rfl | rfl <;> decide)
    have s1 : slD none (some ((l.length : Nat) : Int)) (.lst (stepDs Q)) = some (.lst (stepDs l), true) := by
      show some (D.lst (cutD _ _ (stepDs Q)), true) = _
      rw [cut_hi, stepDs_take, hQe, List.take_left]
    have s2 : slD (some ((l.length + 2 : Nat) : Int)) none (.lst (stepDs Q)) = some (.lst (stepDs r), true) := by
      show some (D.lst (cutD _ _ (stepDs Q)), true) = _
      rw [cut_lo', stepDs_drop, hQe, show l ++ a :: b :: r = (l ++ [a, b]) ++ r by simp, show l.length + 2 = (l ++ [a, b]).length by simp, List.drop_left]
    have hite : evE F (.ite AZ (.lst (.cons (.var 1) .nil)) (.lst .nil)) ⟨[p0, some (false, stepD (vadd a b)), some (true, .lst (stepDs Q)), p3, some (false, .int (l.length : Nat)), some (true, .lst (plD (pl 0 Q))), none, none, none], T⟩ = .ok (.lst (stepDs (if nz (vadd a b) then [vadd a b] else [])), true) ⟨[p0, some (false, stepD (vadd a b)), some (true, .lst (stepDs Q)), p3, some (false, .int (l.length : Nat)), some (true, .lst (plD (pl 0 Q))), none, none, none], T⟩ := by
      have e : ∀ a b c : Ex, evE F (.ite a b c) = bnd (bnd (evE F a) Vf.isB) fun x => if x then evE F b else evE F c := fun a b c => by conv => lhs; unfold evE
      rw [e, u_bnd, bnd_B hany]
      have ef1 : fits 1 = true := by decide
      cases nz (vadd a b) with
      | true =>
        show evE F (.lst (.cons (.var 1) .nil)) _ = Res.ok (D.lst [stepD (vadd a b)], true) _
        generalize stepD (vadd a b) = C
        dsimp! [ef1]
      | false =>
        show evE F (.lst .nil) _ = Res.ok (D.lst [], true) _
        dsimp! [ef0]
    have hQ' : Rw s (B + B) (mrg l (vadd a b) r) := fun c hc => by
      unfold mrg at hc
      rcases List.mem_append.mp hc with hc | hc
      · rcases List.mem_append.mp hc with hc | hc
        · have := hQ c (by rw [hQe]; exact List.mem_append_left _ hc)
          exact ⟨this.1, this.2.1, fun r hr => (this.2.2 r hr).mono (by omega)⟩
        · split at hc
          · rw [List.mem_singleton.mp hc]
            exact ⟨hcl, by assumption, hcn⟩
          · cases hc
      · have := hQ c (by rw [hQe]; simp [hc])
        exact ⟨this.1, this.2.1, fun r hr => (this.2.2 r hr).mono (by omega)⟩
    refine ⟨mrg l (vadd a b) r, some (false, stepD (vadd a b)), some (false, .int (l.length : Nat)), some (true, .lst (plD (pl 0 Q))), ?_, .inr ⟨_, rfl⟩, ?_, hQ', fun h => (hp h).elim, fun _ => ?_⟩
    · refine st_cons hset (st_cons (st_ite_t (fr := false) (s1 := ⟨[p0, y1, some (true, .lst (stepDs Q)), p3, y4, some (true, .lst (plD (pl 0 Q))), none, none, none], T⟩) ?_ (st_cons (s1 := ⟨[p0, y1, some (true, .lst (stepDs Q)), p3, some (false, .int (l.length : Nat)), some (true, .lst (plD (pl 0 Q))), none, none, none], T⟩) ?_ (st_cons hset1 (st_cons (st_set (i := 2) (x := (.lst (stepDs (mrg l (vadd a b) r)), true)) (s1 := ⟨[p0, some (false, stepD (vadd a b)), some (true, .lst (stepDs Q)), p3, some (false, .int (l.length : Nat)), some (true, .lst (plD (pl 0 Q))), none, none, none], T⟩) ?_) st_end)))) st_end)
      · show evE F _ ⟨[p0, y1, some (true, .lst (stepDs Q)), p3, y4, some (true, .lst (plD (pl 0 Q))), none, none, none], T⟩ = _
        generalize D.lst (plD (pl 0 Q)) = L at hq0 ⊢
        dsimp! [hq0, ef0]
      · generalize D.lst (plD (pl 0 Q)) = L at hi4 ⊢
        dsimp! [hi4]
      · have hm : stepDs l ++ stepDs (if nz (vadd a b) then [vadd a b] else []) ++ stepDs r = stepDs (mrg l (vadd a b) r) := by
          unfold mrg stepDs
          rw [List.map_append, List.map_append]
        have l1 : fits ((stepDs l).length + (stepDs (if nz (vadd a b) then [vadd a b] else [])).length) = true := decide_eq_true (by
          rw [stepDs_len, stepDs_len]
          have : (if nz (vadd a b) then [vadd a b] else []).length ≤ 1 := by split <;> simp
          show _ ≤ 2 ^ 24; omega)
        have l2 : fits ((stepDs l ++ stepDs (if nz (vadd a b) then [vadd a b] else [])).length + (stepDs r).length) = true := decide_eq_true (by
          rw [List.length_append, stepDs_len, stepDs_len, stepDs_len]
          have : (if nz (vadd a b) then [vadd a b] else []).length ≤ 1 := by split <;> simp
          show _ ≤ 2 ^ 24; omega)
        have a1 : binD .Add (.lst (stepDs l)) (.lst (stepDs (if nz (vadd a b) then [vadd a b] else []))) = some (.lst (stepDs l ++ stepDs (if nz (vadd a b) then [vadd a b] else [])), true) := by
          show (if _ then _ else _) = _
          rw [if_pos l1]
        have a2 : binD .Add (.lst (stepDs l ++ stepDs (if nz (vadd a b) then [vadd a b] else []))) (.lst (stepDs r)) = some (.lst (stepDs (mrg l (vadd a b) r)), true) := by
          show (if _ then _ else _) = _
          rw [if_pos l2, hm]
        refine ev_pr2 (fun _ h => by cases h) (fun _ h => by cases h) (ev_pr2 (f1 := true) (d := .lst (stepDs l)) (fun _ h => by cases h) (fun _ h => by cases h) ?_ hite a1) (f2 := true) (e := .lst (stepDs r)) ?_ a2
        · generalize D.lst (stepDs l) = M5 at s1 ⊢
          generalize D.lst (stepDs Q) = M6 at s1 ⊢
          generalize D.lst (plD (pl 0 Q)) = M7
          dsimp! [slArgs, s1]
        · generalize D.lst (stepDs r) = M5 at s2 ⊢
          generalize D.lst (stepDs Q) = M6 at s2 ⊢
          generalize D.lst (plD (pl 0 Q)) = M7
          dsimp! [slArgs, s2, z2]
    · rw [hQe]
      unfold mrg
      cases n : nz (vadd a b) with
      | true => rw [if_pos rfl, List.append_assoc]; exact .two _ _ _ _ hla hlr a1 b1 hab
      | false =>
        rw [if_neg Bool.false_ne_true, List.append_nil]
        exact .tr (.two _ _ _ _ hla hlr a1 b1 hab) (.zero _ _ _ hla hlr hcl n)
    · unfold mrg
      rw [List.length_append, List.length_append]
      have : (if nz (vadd a b) then [vadd a b] else []).length ≤ 1 := by split <;> simp
      omega
end
end Lb
namespace Lb
open PySem PySem.Spec PyProof.Rows L2 Vf

theorem eqv_filter {s : Nat} (hs : S12 s) : ∀ {p : List Vc}, Vs s p → Eqv s p (p.filter nz)
  | [], _ => .rfl _
  | a :: p, h => by
    have ha := h a (List.mem_cons_self ..)
    have hp : Vs s p := fun b hb => h b (List.mem_cons_of_mem _ hb)
    have ih := eqv_filter hs hp
    cases e : nz a with
    | true =>
      rw [List.filter_cons_of_pos e]
      exact ih.pre [a] (fun b hb => by rw [List.mem_singleton.mp hb]; exact ha)
    | false =>
      rw [List.filter_cons_of_neg (by rw [e]; simp)]
      exact .tr (.zero [] p a (fun _ h => by cases h) hp ha e) ih
section
variable {x : IX} {F : FT} {T : Vf.TP} (K : KL F x) {s : Nat} (hs : S12 s)
include K hs
theorem sh_turns (hA : ∀ a b, SOk s a → SOk s b → F x.l_along [stepD a, stepD b] T = .ok (.bl (al a b)) false T) {p0 : Option (Bool × D)} : ∀ (n j B : Nat) (Q : List Vc) (y1 y3 y4 y5 : Option (Bool × D)), 2 ^ n * B < 2 ^ 1900 → Rw s B Q → Q.length ≤ 20 → Nw y4 →
    ∃ Q' y1' y3' y4' y5', forL [3] (evSs F (ST x)) (rgN j n) ⟨[p0, y1, some (true, .lst (stepDs Q)), y3, y4, y5, none, none, none], T⟩ = .ok .nx ⟨[p0, y1', some (true, .lst (stepDs Q')), y3', y4', y5', none, none, none], T⟩ ∧ Eqv s Q Q' ∧ (pl 0 Q = [] → Q' = Q) ∧ (Q.length ≤ n → pl 0 Q' = []) ∧ Rw s (2 ^ n * B) Q' ∧ Q'.length ≤ Q.length
  | 0, j, B, Q, y1, y3, y4, y5, hB, hQ, hl, h4 => ⟨Q, y1, y3, y4, y5, rfl, .rfl _, fun _ => rfl, fun h => by
      have : Q = [] := List.eq_nil_of_length_eq_zero (by omega)
      rw [this]; rfl, by rw [Nat.pow_zero, Nat.one_mul]; exact hQ, Nat.le_refl _⟩
  | n + 1, j, B, Q, y1, y3, y4, y5, hB, hQ, hl, h4 => by
    have e2 : 2 ^ (n + 1) * B = 2 ^ n * (B + B) := by rw [Nat.pow_succ, Nat.mul_assoc, ← Nat.two_mul]
    have hB1 : B < 2 ^ 1900 := Nat.lt_of_le_of_lt (Nat.le_mul_of_pos_left B (Nat.pow_pos (by decide))) hB
    obtain ⟨Q1, z1, z4, z5, g1, g2, g3, g4, g5, g6⟩ := sh_turn K hs hA hB1 hQ hl (p0 := p0) (p3 := some (false, .int (j : Nat))) y1 y4 y5 h4
    have hl1 : Q1.length ≤ Q.length := by
      by_cases h : pl 0 Q = []
      · rw [g5 h]; exact Nat.le_refl _
      · exact Nat.le_of_lt (g6 h)
    obtain ⟨Q2, w1, w3, w4, w5, k1, k2, k3, k4, k5, k6⟩ := sh_turns hA (p0 := p0) n (j + 1) (B + B) Q1 z1 (some (false, .int (j : Nat))) z4 z5 (by rw [← e2]; exact hB) g4 (by omega) g2
    refine ⟨Q2, w1, w3, w4, w5, ?_, .tr g3 k2, fun h => ?_, fun h => ?_, by rw [e2]; exact k5, by omega⟩
    · show forL [3] _ (.int (j : Nat) :: rgN (j + 1) n) _ = _
      exact for_cons (s1 := ⟨[p0, y1, some (true, .lst (stepDs Q)), some (false, .int (j : Nat)), y4, y5, none, none, none], T⟩) (by dsimp!) g1 k1
    · have h1 := g5 h
      rw [k3 (by rw [h1]; exact h), h1]
    · by_cases hp : pl 0 Q = []
      · have h1 := g5 hp
        have h2 := k3 (by rw [h1]; exact hp)
        rw [h2, h1]; exact hp
      · exact k4 (by have := g6 hp; omega)
theorem r_short (hA : ∀ a b, SOk s a → SOk s b → F x.l_along [stepD a, stepD b] T = .ok (.bl (al a b)) false T) {B : Nat} (hB : 2 ^ 12 * B < 2 ^ 1900) {p : List Vc} (hl : p.length ≤ 12) (hp : ∀ a ∈ p, a.length = s ∧ ∀ r ∈ a, Nc 6 B r) :
    runB F (B_l_short x) [pathD p] T = .ok (pathD (shF p)) false T ∧ (∀ a ∈ shF p, a.length = s ∧ ∀ r ∈ a, Nc 6 (2 ^ 12 * B) r) ∧ (shF p).length ≤ p.length := by
  have hv : Vs s p := fun a ha => (hp a ha).1
  have hf : (p.filter nz).length ≤ p.length := List.length_filter_le _ _
  have hR : Rw s B (p.filter nz) := fun a ha => by
    obtain ⟨h1, h2⟩ := List.mem_filter.mp ha
    exact ⟨(hp a h1).1, h2, (hp a h1).2⟩
  have h2p : 2 ^ p.length * B ≤ 2 ^ 12 * B := Nat.mul_le_mul_right _ (Nat.pow_le_pow_right (by decide) hl)
  obtain ⟨Q, y1, y3, y4, y5, g1, g2, _, g3, g4, g5⟩ := sh_turns K hs hA (p0 := some (false, pathD p)) p.length 0 B (p.filter nz) none none none none (Nat.lt_of_le_of_lt h2p hB) hR (by omega) (.inl rfl)
  have hred : Red s Q.reverse := red_pl hs (fun a ha => ⟨(g4 a ha).1, (g4 a ha).2.1⟩) (g3 hf)
  have hsh : shF p = Q := sh_of hs (.tr (eqv_filter hs hv) g2) hred
  refine ⟨?_, ?_, by rw [hsh]; omega⟩
  · rw [hsh]
    have hc := ev_comp1 (F := F) (own := [1]) (tg := [1]) (it := .ex (.var 0)) (s := ⟨[some (false, pathD p), none, none, none, none, none, none, none, none], T⟩) (s0 := ⟨[some (false, pathD p), none, none, none, none, none, none, none, none], T⟩) (ds := stepDs p) (by unfold pathD; dsimp!) rfl (rows_comp p (fun a ha => by rw [hv a ha]; rcases hs with rfl | rfl <;> decide)) (decide_eq_true (by rw [stepDs_len]; show _ ≤ 2 ^ 24; omega))
    have lp : lenD (pathD p) = some (.int (p.length : Nat), false) := by
      show some (D.int ((stepDs p).length : Nat), false) = _
      rw [stepDs_len]
    refine rb_rt rfl (st_cons (st_set (i := 2) hc) (st_cons (st_for (it_rng1 (n := p.length) (fr := false) (s1 := ⟨[some (false, pathD p), none, some (true, .lst (stepDs (p.filter nz))), none, none, none, none, none, none], T⟩) ?_ (by omega)) g1) (st_last (s1 := ⟨[some (false, pathD p), y1, some (true, .lst (stepDs Q)), y3, y4, y5, none, none, none], T⟩) ?_))) rfl
    · show evE F _ ⟨[some (false, pathD p), none, some (true, .lst (stepDs (p.filter nz))), none, none, none, none, none, none], T⟩ = _
      generalize pathD p = P1 at lp ⊢
      dsimp! [-lenD, lp]
    · dsimp!
      rfl
  · rw [hsh]
    exact fun a ha => ⟨(g4 a ha).1, fun r hr => ((g4 a ha).2.2 r hr).mono h2p⟩
end
end Lb
namespace Lb
open PySem PySem.Spec PyProof.Rows L2 Vf

def vmul (c : Rat) (a : Vc) : Vc := a.map fun r => c * r
def v0 (s : Nat) : Vc := List.replicate s 0
theorem neg_rD (r : Rat) : D.tup [.int (-r.num), .int (r.den : Nat)] = rD false (-r) := by
  show _ = D.tup [.int (-r).num, .int ((-r).den : Nat)]
  rw [Rat.neg_num, Rat.neg_den]
section
variable {s : Nat} (hs : S12 s)
include hs
theorem part_al {c : Rat} {a : Vc} (ha : a.length = s) : al (vmul c a) (vadd a (vneg (vmul c a))) = true ∧ vadd (vmul c a) (vadd a (vneg (vmul c a))) = a := by
  rcases hs with rfl | rfl
  · obtain ⟨x, rfl⟩ := v1 ha
    refine ⟨rfl, ?_⟩
    show [c * x + (x + -(c * x))] = [x]
    congr 1; grind
  · obtain ⟨x, y, rfl⟩ := v2 ha
    constructor
    · show al [c * x, c * y] [x + -(c * x), y + -(c * y)] = true
      rw [al2, decide_eq_true_eq]; grind
    · show [c * x + (x + -(c * x)), c * y + (y + -(c * y))] = [x, y]
      congr 1
      · grind
      · congr 1; grind
theorem eqv_part {l r : List Vc} {c : Rat} {a : Vc} (hl : Vs s l) (hr : Vs s r) (ha : a.length = s) : Eqv s (l ++ vmul c a :: vadd a (vneg (vmul c a)) :: r) (l ++ a :: r) := by
  obtain ⟨h1, h2⟩ := part_al hs (c := c) ha
  have hm : (vmul c a).length = s := by unfold vmul; rw [List.length_map]; exact ha
  have := Eqv.two l r _ _ hl hr hm (vadd_len ha (by rw [vneg_len hs]; exact hm)) h1
  rw [h2] at this
  exact this
theorem nz_v0 : nz (v0 s) = false := by
  rcases hs with rfl | rfl <;> decide
end
abbrev CN : Ex := .prim (.blt "tuple") (.cons (.comp [10] [10] (.ex (.var 7)) .nil (.tup (.cons (.prim .neg (.cons (.prim .idx (.cons (.var 10) (.cons (.cst (.int (0))) .nil))) .nil)) (.cons (.prim .idx (.cons (.var 10) (.cons (.cst (.int (1))) .nil))) .nil)))) .nil)
abbrev CBx (x : IX) : Ex := .prim (.blt "tuple") (.cons (.comp [10] [10] (.ex (.prim .idx (.cons (.var 3) (.cons (.var 5) .nil)))) .nil (.call x.l_by (.cons (.var 8) (.cons (.var 10) .nil)))) .nil)
abbrev CP (x : IX) : Ex := .prim (.blt "tuple") (.cons (.comp [10, 11] [10, 11] (.zip (.prim .idx (.cons (.var 3) (.cons (.var 5) .nil))) (.var 9)) .nil (.call x.l_plus (.cons (.var 10) (.cons (.tup (.cons (.prim .neg (.cons (.prim .idx (.cons (.var 11) (.cons (.cst (.int (0))) .nil))) .nil)) (.cons (.prim .idx (.cons (.var 11) (.cons (.cst (.int (1))) .nil))) .nil))) .nil)))) .nil)
abbrev S0 (x : IX) : Sxs := .cons (.set 7 (.call x.l_step (.cons (.var 0) (.cons (.var 2) .nil))))
  (.cons (.set 3 (.prim (.bin .Add) (.cons (.prim (.bin .Add) (.cons (.prim (.sl false true) (.cons (.var 3) (.cons (.var 5) .nil))) (.cons (.lst (.cons (.var 7) (.cons CN .nil))) .nil))) (.cons (.prim (.sl true false) (.cons (.var 3) (.cons (.var 5) .nil))) .nil))))
  .nil)
abbrev S1 (x : IX) : Sxs := .cons (.set 8 (.call x.l_number (.cons (.var 0) .nil)))
  (.cons (.set 9 (CBx x))
  (.cons (.set 3 (.prim (.bin .Add) (.cons (.prim (.bin .Add) (.cons (.prim (.sl false true) (.cons (.var 3) (.cons (.var 5) .nil))) (.cons (.lst (.cons (.var 9) (.cons (CP x) .nil))) .nil))) (.cons (.prim (.sl true false) (.cons (.var 3) (.cons (.prim (.bin .Add) (.cons (.var 5) (.cons (.cst (.int (1))) .nil))) .nil))) .nil))))
  .nil))
abbrev S2 : Sxs := .cons (.set 3 (.prim (.bin .Add) (.cons (.prim (.bin .Add) (.cons (.prim (.sl false true) (.cons (.var 3) (.cons (.var 5) .nil))) (.cons (.lst (.cons (.prim (.bin .Mult) (.cons (.tup (.cons (.tup (.cons (.cst (.int (0))) (.cons (.cst (.int (1))) .nil))) .nil)) (.cons (.var 2) .nil))) .nil)) .nil))) (.cons (.prim (.sl true false) (.cons (.var 3) (.cons (.var 5) .nil))) .nil)))) .nil
abbrev SP (x : IX) : Sxs := (.cons (.par [5, 6] (.cons (.call x.l_draw (.cons (.var 0) (.cons (.prim (.bin .Add) (.cons (.prim (.blt "len") (.cons (.var 3) .nil)) (.cons (.cst (.int (1))) .nil))) .nil))) (.cons (.call x.l_draw (.cons (.var 0) (.cons (.cst (.int (3))) .nil))) .nil)))
  (.cons (.ite (.prim (.cmp .Eq) (.cons (.var 6) (.cons (.cst (.int (0))) .nil))) (S0 x) (.cons (.ite (.and (.prim (.cmp .Eq) (.cons (.var 6) (.cons (.cst (.int (1))) .nil))) (.prim (.cmp .Lt) (.cons (.var 5) (.cons (.prim (.blt "len") (.cons (.var 3) .nil)) .nil)))) (S1 x) (.cons (.ite (.prim (.cmp .Eq) (.cons (.var 6) (.cons (.cst (.int (2))) .nil))) S2 .nil)
  .nil))
  .nil))
  .nil))
section
variable {x : IX} {F : FT} {T : Vf.TP}
theorem cn_comp {p0 p1 p2 p3 p4 p5 p6 p7 p8 p9 p11 : Option (Bool × D)} : ∀ a : Vc,
    compL [10] [10] (Vf.ret true) (evE F (.tup (.cons (.prim .neg (.cons (.prim .idx (.cons (.var 10) (.cons (.cst (.int (0))) .nil))) .nil)) (.cons (.prim .idx (.cons (.var 10) (.cons (.cst (.int (1))) .nil))) .nil)))) (rDs a) ⟨[p0, p1, p2, p3, p4, p5, p6, p7, p8, p9, none, p11], T⟩ = .ok (rDs (vneg a)) ⟨[p0, p1, p2, p3, p4, p5, p6, p7, p8, p9, none, p11], T⟩
  | [] => rfl
  | r :: a => by
    have ih := cn_comp (p0 := p0) (p1 := p1) (p2 := p2) (p3 := p3) (p4 := p4) (p5 := p5) (p6 := p6) (p7 := p7) (p8 := p8) (p9 := p9) (p11 := p11) a
    have g0 : idxD (rD false r) (.int 0) = some (.int r.num, false) := u_ix0
    have g1 : idxD (rD false r) (.int 1) = some (.int (r.den : Nat), false) := u_ix1
    have ef : fits 2 = true := by decide
    show compL _ _ _ _ (rD false r :: rDs a) _ = .ok (rD false (-r) :: rDs (vneg a)) _
    refine comp_yes (x := (rD false (-r), false)) (s1 := ⟨[p0, p1, p2, p3, p4, p5, p6, p7, p8, p9, some (false, rD false r), p11], T⟩) (s2 := ⟨[p0, p1, p2, p3, p4, p5, p6, p7, p8, p9, some (false, rD false r), p11], T⟩) (s3 := ⟨[p0, p1, p2, p3, p4, p5, p6, p7, p8, p9, some (false, rD false r), p11], T⟩) ?_ rfl ?_ ih
    · dsimp!
    · rw [← neg_rD]
      generalize rD false r = R at g0 g1 ⊢
      dsimp! [g0, g1, ef]
theorem cb_comp (K : KL F x) {c : Rat} (hc : Bd c) {p0 p1 p2 p3 p4 p5 p6 p7 p9 p11 : Option (Bool × D)} : ∀ a : Vc, (∀ r ∈ a, Bd r) →
    compL [10] [10] (Vf.ret true) (evE F (.call x.l_by (.cons (.var 8) (.cons (.var 10) .nil)))) (rDs a) ⟨[p0, p1, p2, p3, p4, p5, p6, p7, some (false, rD false c), p9, none, p11], T⟩ = .ok (rDs (vmul c a)) ⟨[p0, p1, p2, p3, p4, p5, p6, p7, some (false, rD false c), p9, none, p11], T⟩
  | [], _ => rfl
  | r :: a, h => by
    have ih := cb_comp K hc (p0 := p0) (p1 := p1) (p2 := p2) (p3 := p3) (p4 := p4) (p5 := p5) (p6 := p6) (p7 := p7) (p9 := p9) (p11 := p11) a (fun u hu => h u (List.mem_cons_of_mem _ hu))
    have g := K.by_ T c r false false hc (h r (List.mem_cons_self ..))
    show compL _ _ _ _ (rD false r :: rDs a) _ = .ok (rD false (c * r) :: rDs (vmul c a)) _
    refine comp_yes (x := (rD false (c * r), false)) (s1 := ⟨[p0, p1, p2, p3, p4, p5, p6, p7, some (false, rD false c), p9, some (false, rD false r), p11], T⟩) (s2 := ⟨[p0, p1, p2, p3, p4, p5, p6, p7, some (false, rD false c), p9, some (false, rD false r), p11], T⟩) (s3 := ⟨[p0, p1, p2, p3, p4, p5, p6, p7, some (false, rD false c), p9, some (false, rD false r), p11], T⟩) ?_ rfl ?_ ih
    · dsimp!
    · dsimp! [g]
theorem cp_comp (K : KL F x) {p0 p1 p2 p3 p4 p5 p6 p7 p8 p9 : Option (Bool × D)} : ∀ a b : Vc, (∀ r ∈ a, Bd r) → (∀ r ∈ b, Bd r) →
    compL [10, 11] [10, 11] (Vf.ret true) (evE F (.call x.l_plus (.cons (.var 10) (.cons (.tup (.cons (.prim .neg (.cons (.prim .idx (.cons (.var 11) (.cons (.cst (.int (0))) .nil))) .nil)) (.cons (.prim .idx (.cons (.var 11) (.cons (.cst (.int (1))) .nil))) .nil))) .nil)))) (List.zipWith Vf.pairD (rDs a) (rDs b)) ⟨[p0, p1, p2, p3, p4, p5, p6, p7, p8, p9, none, none], T⟩ = .ok (rDs (vadd a (vneg b))) ⟨[p0, p1, p2, p3, p4, p5, p6, p7, p8, p9, none, none], T⟩
  | [], _, _, _ => rfl
  | _ :: _, [], _, _ => rfl
  | p :: a, q :: b, h1, h2 => by
    have ih := cp_comp K (p0 := p0) (p1 := p1) (p2 := p2) (p3 := p3) (p4 := p4) (p5 := p5) (p6 := p6) (p7 := p7) (p8 := p8) (p9 := p9) a b (fun r hr => h1 r (List.mem_cons_of_mem _ hr)) (fun r hr => h2 r (List.mem_cons_of_mem _ hr))
    have hq := h2 q (List.mem_cons_self ..)
    have hq2 : Bd (-q) := by
      unfold Bd
      rw [Rat.neg_num, Rat.neg_den, Int.natAbs_neg]; exact hq
    have g := K.plus T p (-q) false false (h1 p (List.mem_cons_self ..)) hq2
    rw [← neg_rD] at g
    have g0 : idxD (rD false q) (.int 0) = some (.int q.num, false) := u_ix0
    have g1 : idxD (rD false q) (.int 1) = some (.int (q.den : Nat), false) := u_ix1
    have ef : fits 2 = true := by decide
    show compL _ _ _ _ (.tup [rD false p, rD false q] :: List.zipWith Vf.pairD (rDs a) (rDs b)) _ = .ok (rD false (p + -q) :: rDs (vadd a (vneg b))) _
    refine comp_yes (x := (rD false (p + -q), false)) (s1 := ⟨[p0, p1, p2, p3, p4, p5, p6, p7, p8, p9, some (false, rD false p), some (false, rD false q)], T⟩) (s2 := ⟨[p0, p1, p2, p3, p4, p5, p6, p7, p8, p9, some (false, rD false p), some (false, rD false q)], T⟩) (s3 := ⟨[p0, p1, p2, p3, p4, p5, p6, p7, p8, p9, some (false, rD false p), some (false, rD false q)], T⟩) ?_ rfl ?_ ih
    · dsimp!
    · generalize rD false q = R at g0 g1 ⊢
      dsimp! [g0, g1, ef, g]
end
end Lb
namespace Lb
open PySem PySem.Spec PyProof.Rows L2 Vf

abbrev SA (s : Nat) (p1 : Option (Bool × D)) (Q : List Vc) (y4 y5 y6 y7 y8 y9 : Option (Bool × D)) (T : Vf.TP) : S := ⟨[some (false, .tape), p1, some (false, .int (s : Nat)), some (true, .lst (stepDs Q)), y4, y5, y6, y7, y8, y9, none, none], T⟩
theorem fits_small {n : Nat} (h : n ≤ 1000) : fits n = true := decide_eq_true (show n ≤ 2 ^ 24 by omega)
theorem ev_cat {F : FT} {a m b : Ex} (ha : ∀ i, a ≠ .var i) (hm : ∀ i, m ≠ .var i) (hb : ∀ i, b ≠ .var i) {s : S} {l c r : List Vc} {f1 f2 f3 : Bool} (h1 : evE F a s = .ok (.lst (stepDs l), f1) s) (h2 : evE F m s = .ok (.lst (stepDs c), f2) s) (h3 : evE F b s = .ok (.lst (stepDs r), f3) s) (hl : l.length + c.length + r.length ≤ 1000) :
    evE F (.prim (.bin .Add) (.cons (.prim (.bin .Add) (.cons a (.cons m .nil))) (.cons b .nil))) s = .ok (.lst (stepDs (l ++ c ++ r)), true) s := by
  have l1 : fits ((stepDs l).length + (stepDs c).length) = true := fits_small (by rw [stepDs_len, stepDs_len]; omega)
  have l2 : fits ((stepDs l ++ stepDs c).length + (stepDs r).length) = true := fits_small (by rw [List.length_append, stepDs_len, stepDs_len, stepDs_len]; omega)
  have a1 : binD .Add (.lst (stepDs l)) (.lst (stepDs c)) = some (.lst (stepDs l ++ stepDs c), true) := by
    show (if _ then _ else _) = _
    rw [if_pos l1]
  have a2 : binD .Add (.lst (stepDs l ++ stepDs c)) (.lst (stepDs r)) = some (.lst (stepDs (l ++ c ++ r)), true) := by
    show (if _ then _ else _) = _
    rw [if_pos l2]
    unfold stepDs
    rw [List.map_append, List.map_append]
  exact ev_pr2 (fun _ h => by cases h) hb (ev_pr2 (f1 := f1) (d := .lst (stepDs l)) ha hm h1 h2 a1) h3 a2
theorem ev_lst2 {F : FT} {a b : Ex} {s : S} {d e : D} {f1 f2 : Bool} (h1 : evE F a s = .ok (d, f1) s) (h2 : evE F b s = .ok (e, f2) s) : evE F (.lst (.cons a (.cons b .nil))) s = .ok (.lst [d, e], true) s := by
  have ef : fits 2 = true := by decide
  unfold evE
  simp only [evEs, u_bnd, h1, h2, u_retS, lstM, List.map_cons, List.map_nil, List.length_cons, List.length_nil, Nat.reduceAdd, ef, if_true]
section
variable {x : IX} {F : FT} {s : Nat} {p1 y4 y6 y7 y8 y9 : Option (Bool × D)} {Q : List Vc} {T : Vf.TP}
theorem sl_lo (n : Nat) : evE F (.prim (.sl false true) (.cons (.var 3) (.cons (.var 5) .nil))) (SA s p1 Q y4 (some (false, .int (n : Nat))) y6 y7 y8 y9 T) = .ok (.lst (stepDs (Q.take n)), true) (SA s p1 Q y4 (some (false, .int (n : Nat))) y6 y7 y8 y9 T) := by
  have h : slD none (some ((n : Nat) : Int)) (.lst (stepDs Q)) = some (.lst (stepDs (Q.take n)), true) := by
    show some (D.lst (cutD _ _ (stepDs Q)), true) = _
    rw [cut_hi, stepDs_take]
  unfold SA
  generalize D.lst (stepDs Q) = M6 at h ⊢
  dsimp! [slArgs, h]
theorem sl_hi (n : Nat) : evE F (.prim (.sl true false) (.cons (.var 3) (.cons (.var 5) .nil))) (SA s p1 Q y4 (some (false, .int (n : Nat))) y6 y7 y8 y9 T) = .ok (.lst (stepDs (Q.drop n)), true) (SA s p1 Q y4 (some (false, .int (n : Nat))) y6 y7 y8 y9 T) := by
  have h : slD (some ((n : Nat) : Int)) none (.lst (stepDs Q)) = some (.lst (stepDs (Q.drop n)), true) := by
    show some (D.lst (cutD _ _ (stepDs Q)), true) = _
    rw [cut_lo', stepDs_drop]
  unfold SA
  generalize D.lst (stepDs Q) = M6 at h ⊢
  dsimp! [slArgs, h]
theorem sl_hi1 (n : Nat) : evE F (.prim (.sl true false) (.cons (.var 3) (.cons (.prim (.bin .Add) (.cons (.var 5) (.cons (.cst (.int (1))) .nil))) .nil))) (SA s p1 Q y4 (some (false, .int (n : Nat))) y6 y7 y8 y9 T) = .ok (.lst (stepDs (Q.drop (n + 1))), true) (SA s p1 Q y4 (some (false, .int (n : Nat))) y6 y7 y8 y9 T) := by
  have h : slD (some ((n + 1 : Nat) : Int)) none (.lst (stepDs Q)) = some (.lst (stepDs (Q.drop (n + 1))), true) := by
    show some (D.lst (cutD _ _ (stepDs Q)), true) = _
    rw [cut_lo', stepDs_drop]
  have z : ((n : Nat) : Int) + 1 = ((n + 1 : Nat) : Int) := by omega
  unfold SA
  generalize D.lst (stepDs Q) = M6 at h ⊢
  dsimp! [slArgs, z, h]
def Ic (s k B : Nat) (q : List Vc) : Prop := ∀ a ∈ q, a.length = s ∧ ∀ r ∈ a, Nc (6 * k) B r
variable (K : KL F x) (hs : S12 s)
  (hn : ∀ T, TOk T → ∃ r T', TOk T' ∧ Nc 6 24 r ∧ F x.l_number [.tape] T = .ok (rD false r) false T')
  (hst : ∀ T, TOk T → ∃ a T', TOk T' ∧ a.length = s ∧ (∀ r ∈ a, Nc 6 24 r) ∧ F x.l_step [.tape, .int (s : Nat)] T = .ok (stepD a) false T')
include K hs
omit K in
theorem Nc.up' {N B k C : Nat} {r : Rat} (h : Nc N B r) (h0 : N ≠ 0) (hk : k ≠ 0) (hc : B * k ≤ C) : Nc (N * k) C r := (h.up h0 hk).mono hc
omit K in
theorem ic_up {k B : Nat} (hk : k ≠ 0) {q : List Vc} (h : Ic s k B q) : Ic s (6 * k) (30 * B) q := fun a ha => ⟨(h a ha).1, fun r hr => by
  have := ((h a ha).2 r hr).up (by omega) (k := 6) (by decide)
  rw [Nat.mul_comm (6 * k) 6] at this
  exact this.mono (by omega)⟩
omit K in
theorem vneg_nc {N B : Nat} {a : Vc} (h : ∀ r ∈ a, Nc N B r) : ∀ r ∈ vneg a, Nc N B r := fun r hr => by
  unfold vneg at hr
  obtain ⟨u, hu, rfl⟩ := List.mem_map.mp hr
  exact (h u hu).neg
include hst in
theorem sp_0 {k B : Nat} (hk : k ≠ 0) (h24 : 24 * k ≤ B) (hQ : Ic s k B Q) (hl : Q.length ≤ 20) (hT : TOk T) {n : Nat} (hnq : n ≤ Q.length) :
    ∃ Q' T' y7', evSs F (S0 x) (SA s p1 Q y4 (some (false, .int (n : Nat))) y6 y7 y8 y9 T) = .ok .nx (SA s p1 Q' y4 (some (false, .int (n : Nat))) y6 y7' y8 y9 T') ∧ TOk T' ∧ Eqv s Q' Q ∧ Ic s (6 * k) (30 * B) Q' ∧ Q'.length ≤ Q.length + 2 := by
  obtain ⟨a, T1, h1, h2, h3, e⟩ := hst T hT
  have hlt : (Q.take n).length + 2 + (Q.drop n).length = Q.length + 2 := by rw [List.length_take, List.length_drop]; omega
  have hv1 : Vs s (Q.take n) := fun b hb => (hQ b (List.mem_of_mem_take hb)).1
  have hv2 : Vs s (Q.drop n) := fun b hb => (hQ b (List.mem_of_mem_drop hb)).1
  have ha24 : ∀ r ∈ a, Nc (6 * (6 * k)) (30 * B) r := fun r hr => (h3 r hr).up' hs (by decide) (by omega) (by omega)
  have hneg : evE F CN (SA s p1 Q y4 (some (false, .int (n : Nat))) y6 (some (false, stepD a)) y8 y9 T1) = .ok (stepD (vneg a), false) (SA s p1 Q y4 (some (false, .int (n : Nat))) y6 (some (false, stepD a)) y8 y9 T1) := by
    have hc := ev_comp0 (F := F) (own := [10]) (tg := [10]) (it := .ex (.var 7)) (s := SA s p1 Q y4 (some (false, .int (n : Nat))) y6 (some (false, stepD a)) y8 y9 T1) (s0 := SA s p1 Q y4 (some (false, .int (n : Nat))) y6 (some (false, stepD a)) y8 y9 T1) (ds := rDs a) (by unfold stepD SA; dsimp!) rfl (cn_comp a) (fits_small (by rw [rDs_len, vneg_len hs, h2]; rcases hs with rfl | rfl <;> decide))
    exact ev_blt1 (F := F) (p := .blt "tuple") (fun _ h => by cases h) hc (r := (stepD (vneg a), false)) rfl
  have hmid : evE F (.lst (.cons (.var 7) (.cons CN .nil))) (SA s p1 Q y4 (some (false, .int (n : Nat))) y6 (some (false, stepD a)) y8 y9 T1) = .ok (.lst (stepDs [a, vneg a]), true) (SA s p1 Q y4 (some (false, .int (n : Nat))) y6 (some (false, stepD a)) y8 y9 T1) := by
    exact ev_lst2 (f1 := false) (by unfold SA; dsimp!) hneg
  have hset := st_set (i := 3) (ev_cat (fun _ h => by cases h) (fun _ h => by cases h) (fun _ h => by cases h) (sl_lo n) hmid (sl_hi n) (by
    show (Q.take n).length + 2 + (Q.drop n).length ≤ 1000
    rw [hlt]; omega))
  refine ⟨Q.take n ++ [a, vneg a] ++ Q.drop n, T1, some (false, stepD a), ?_, h1, ?_, ?_, ?_⟩
  · refine st_cons (s1 := SA s p1 Q y4 (some (false, .int (n : Nat))) y6 (some (false, stepD a)) y8 y9 T1) ?_ (st_cons hset st_end)
    unfold SA
    generalize stepD a = A at e ⊢
    dsimp! [e]
  · rw [List.append_assoc]
    have := eqv_pair hs hv1 hv2 h2
    rw [List.take_append_drop] at this
    exact this
  · intro b hb
    rcases List.mem_append.mp hb with hb | hb
    · rcases List.mem_append.mp hb with hb | hb
      · exact ic_up hs hk hQ b (List.mem_of_mem_take hb)
      · rcases List.mem_cons.mp hb with rfl | hb
        · exact ⟨h2, ha24⟩
        · rw [List.mem_singleton.mp hb]
          exact ⟨by rw [vneg_len hs]; exact h2, vneg_nc hs ha24⟩
    · exact ic_up hs hk hQ b (List.mem_of_mem_drop hb)
  · rw [List.length_append, List.length_append]
    show (Q.take n).length + 2 + (Q.drop n).length ≤ _
    omega
include hn in
theorem sp_1 {k B : Nat} (hk : k ≠ 0) (h24 : 24 * k ≤ B) (hB : 100 * B < 2 ^ 1900) (hk2 : 100 * k < 2 ^ 1900) (hQ : Ic s k B Q) (hl : Q.length ≤ 20) (hT : TOk T) {n : Nat} (hnq : n < Q.length) :
    ∃ Q' T' y8' y9', evSs F (S1 x) (SA s p1 Q y4 (some (false, .int (n : Nat))) y6 y7 y8 y9 T) = .ok .nx (SA s p1 Q' y4 (some (false, .int (n : Nat))) y6 y7 y8' y9' T') ∧ TOk T' ∧ Eqv s Q' Q ∧ Ic s (6 * k) (30 * B) Q' ∧ Q'.length ≤ Q.length + 2 := by
  obtain ⟨c, T1, h1, h2, e⟩ := hn T hT
  have hga : Q[n]? = some Q[n] := List.getElem?_eq_getElem hnq
  generalize Q[n] = a at hga
  have hQs : Q = Q.take n ++ a :: Q.drop (n + 1) := by
    have h := List.drop_eq_getElem_cons hnq
    have h3 : Q[n] = a := by
      have := List.getElem?_eq_getElem hnq
      rw [hga] at this
      exact (Option.some.inj this).symm
    rw [h3] at h
    rw [← h, List.take_append_drop]
  have haQ : a ∈ Q := by rw [hQs]; simp
  obtain ⟨la, na⟩ := hQ a haQ
  have hv1 : Vs s (Q.take n) := fun b hb => (hQ b (List.mem_of_mem_take hb)).1
  have hv2 : Vs s (Q.drop (n + 1)) := fun b hb => (hQ b (List.mem_of_mem_drop hb)).1
  have hlt : (Q.take n).length + 2 + (Q.drop (n + 1)).length = Q.length + 1 := by rw [List.length_take, List.length_drop]; omega
  have bc : Bd c := h2.bd (by decide) (by decide +kernel) (by decide +kernel)
  have k6 : 6 * k ≠ 0 := by omega
  have ba : ∀ r ∈ a, Bd r := fun r hr => (na r hr).bd k6 (by omega) (by omega)
  have nm : ∀ r ∈ vmul c a, Nc (6 * (6 * k)) (24 * B) r := fun r hr => by
    unfold vmul at hr
    obtain ⟨u, hu, rfl⟩ := List.mem_map.mp hr
    exact h2.mul (by decide) k6 (na u hu)
  have bm : ∀ r ∈ vmul c a, Bd r := fun r hr => (nm r hr).bd (by omega) (by omega) (by omega)
  have nu : ∀ r ∈ a, Nc (6 * (6 * k)) (6 * B) r := fun r hr => by
    have := (na r hr).up k6 (k := 6) (by decide)
    rw [Nat.mul_comm (6 * k) 6, Nat.mul_comm B 6] at this
    exact this
  have lm : (vmul c a).length = s := by unfold vmul; rw [List.length_map]; exact la
  have ln : (vneg (vmul c a)).length = s := by rw [vneg_len hs]; exact lm
  have ns : ∀ r ∈ vadd a (vneg (vmul c a)), Nc (6 * (6 * k)) (30 * B) r := fun r hr => (vadd_nc (by omega) nu (vneg_nc hs nm) r hr).mono (by omega)
  have g := ix_rows (p := Q) hga
  have hi : evIt F (.ex (.prim .idx (.cons (.var 3) (.cons (.var 5) .nil)))) (SA s p1 Q y4 (some (false, .int (n : Nat))) y6 y7 (some (false, rD false c)) y9 T1) = .ok (rDs a) (SA s p1 Q y4 (some (false, .int (n : Nat))) y6 y7 (some (false, rD false c)) y9 T1) := by
    have sq : seqOf (stepD a) = some (rDs a) := rfl
    unfold SA
    generalize D.lst (stepDs Q) = L at g ⊢
    generalize stepD a = A at g sq
    dsimp! [g, sq]
  have hc1 := ev_comp0 (F := F) (own := [10]) (tg := [10]) hi rfl (cb_comp K bc a ba) (fits_small (by rw [rDs_len, lm]; rcases hs with rfl | rfl <;> decide))
  have hb1 := ev_blt1 (F := F) (p := .blt "tuple") (fun _ h => by cases h) hc1 (r := (stepD (vmul c a), false)) rfl
  have hset1 : evS F (.set 9 (CBx x)) (SA s p1 Q y4 (some (false, .int (n : Nat))) y6 y7 (some (false, rD false c)) y9 T1) = .ok .nx (SA s p1 Q y4 (some (false, .int (n : Nat))) y6 y7 (some (false, rD false c)) (some (false, stepD (vmul c a))) T1) := st_set hb1
  have hz : evIt F (.zip (.prim .idx (.cons (.var 3) (.cons (.var 5) .nil))) (.var 9)) (SA s p1 Q y4 (some (false, .int (n : Nat))) y6 y7 (some (false, rD false c)) (some (false, stepD (vmul c a))) T1) = .ok (List.zipWith Vf.pairD (rDs a) (rDs (vmul c a))) (SA s p1 Q y4 (some (false, .int (n : Nat))) y6 y7 (some (false, rD false c)) (some (false, stepD (vmul c a))) T1) := by
    have z : zipD (stepD a) (stepD (vmul c a)) = some (List.zipWith Vf.pairD (rDs a) (rDs (vmul c a))) := rfl
    unfold SA
    generalize D.lst (stepDs Q) = L at g ⊢
    generalize stepD a = A at g z
    generalize stepD (vmul c a) = M at z ⊢
    dsimp! [g, z]
  have hc2 := ev_comp0 (F := F) (own := [10, 11]) (tg := [10, 11]) hz rfl (cp_comp K a (vmul c a) ba bm) (fits_small (by rw [rDs_len, vadd_len la ln]; rcases hs with rfl | rfl <;> decide))
  have hb2 : evE F (CP x) (SA s p1 Q y4 (some (false, .int (n : Nat))) y6 y7 (some (false, rD false c)) (some (false, stepD (vmul c a))) T1) = .ok (stepD (vadd a (vneg (vmul c a))), false) (SA s p1 Q y4 (some (false, .int (n : Nat))) y6 y7 (some (false, rD false c)) (some (false, stepD (vmul c a))) T1) := ev_blt1 (F := F) (p := .blt "tuple") (fun _ h => by cases h) hc2 (r := (stepD (vadd a (vneg (vmul c a))), false)) rfl
  have hmid : evE F (.lst (.cons (.var 9) (.cons (CP x) .nil))) (SA s p1 Q y4 (some (false, .int (n : Nat))) y6 y7 (some (false, rD false c)) (some (false, stepD (vmul c a))) T1) = .ok (.lst (stepDs [vmul c a, vadd a (vneg (vmul c a))]), true) (SA s p1 Q y4 (some (false, .int (n : Nat))) y6 y7 (some (false, rD false c)) (some (false, stepD (vmul c a))) T1) := by
    exact ev_lst2 (f1 := false) (by unfold SA; dsimp!) hb2
  have hset := st_set (i := 3) (ev_cat (fun _ h => by cases h) (fun _ h => by cases h) (fun _ h => by cases h) (sl_lo n) hmid (sl_hi1 n) (by
    show (Q.take n).length + 2 + (Q.drop (n + 1)).length ≤ 1000
    rw [hlt]; omega))
  refine ⟨Q.take n ++ [vmul c a, vadd a (vneg (vmul c a))] ++ Q.drop (n + 1), T1, some (false, rD false c), some (false, stepD (vmul c a)), ?_, h1, ?_, ?_, ?_⟩
  · refine st_cons (s1 := SA s p1 Q y4 (some (false, .int (n : Nat))) y6 y7 (some (false, rD false c)) y9 T1) ?_ (st_cons hset1 (st_cons hset st_end))
    unfold SA
    generalize rD false c = A at e ⊢
    dsimp! [e]
  · rw [List.append_assoc]
    have := eqv_part hs (c := c) hv1 hv2 la
    rw [← hQs] at this
    exact this
  · intro b hb
    rcases List.mem_append.mp hb with hb | hb
    · rcases List.mem_append.mp hb with hb | hb
      · exact ic_up hs hk hQ b (List.mem_of_mem_take hb)
      · rcases List.mem_cons.mp hb with rfl | hb
        · exact ⟨lm, fun r hr => (nm r hr).mono (by omega)⟩
        · rw [List.mem_singleton.mp hb]
          exact ⟨vadd_len la ln, ns⟩
    · exact ic_up hs hk hQ b (List.mem_of_mem_drop hb)
  · rw [List.length_append, List.length_append]
    show (Q.take n).length + 2 + (Q.drop (n + 1)).length ≤ _
    omega
omit K in
theorem sp_2 {k B : Nat} (hk : k ≠ 0) (hQ : Ic s k B Q) (hl : Q.length ≤ 20) {n : Nat} (hnq : n ≤ Q.length) :
    ∃ Q', evSs F S2 (SA s p1 Q y4 (some (false, .int (n : Nat))) y6 y7 y8 y9 T) = .ok .nx (SA s p1 Q' y4 (some (false, .int (n : Nat))) y6 y7 y8 y9 T) ∧ Eqv s Q' Q ∧ Ic s (6 * k) (30 * B) Q' ∧ Q'.length ≤ Q.length + 2 := by
  have hlt : (Q.take n).length + 1 + (Q.drop n).length = Q.length + 1 := by rw [List.length_take, List.length_drop]; omega
  have hv1 : Vs s (Q.take n) := fun b hb => (hQ b (List.mem_of_mem_take hb)).1
  have hv2 : Vs s (Q.drop n) := fun b hb => (hQ b (List.mem_of_mem_drop hb)).1
  have l0 : (v0 s).length = s := List.length_replicate
  have hmid : evE F (.lst (.cons (.prim (.bin .Mult) (.cons (.tup (.cons (.tup (.cons (.cst (.int (0))) (.cons (.cst (.int (1))) .nil))) .nil)) (.cons (.var 2) .nil))) .nil)) (SA s p1 Q y4 (some (false, .int (n : Nat))) y6 y7 y8 y9 T) = .ok (.lst (stepDs [v0 s]), true) (SA s p1 Q y4 (some (false, .int (n : Nat))) y6 y7 y8 y9 T) := by
    have ef : fits 2 = true := by decide
    have ef1 : fits 1 = true := by decide
    have m : mulD (.tup [.tup [.int 0, .int 1]]) (.int (s : Nat)) = some (stepD (v0 s), false) := by
      rcases hs with rfl | rfl <;> rfl
    show _ = Res.ok (D.lst [stepD (v0 s)], true) _
    unfold SA
    generalize stepD (v0 s) = V at m ⊢
    generalize D.lst (stepDs Q) = L
    generalize D.int (s : Nat) = si at m ⊢
    dsimp! [-mulD, ef, ef1, m]
  have hset := st_set (i := 3) (ev_cat (fun _ h => by cases h) (fun _ h => by cases h) (fun _ h => by cases h) (sl_lo (F := F) (s := s) (p1 := p1) (y4 := y4) (y6 := y6) (y7 := y7) (y8 := y8) (y9 := y9) (Q := Q) (T := T) n) hmid (sl_hi n) (by
    show (Q.take n).length + 1 + (Q.drop n).length ≤ 1000
    rw [hlt]; omega))
  refine ⟨Q.take n ++ [v0 s] ++ Q.drop n, st_cons hset st_end, ?_, ?_, ?_⟩
  · rw [List.append_assoc]
    have := Eqv.zero _ _ _ hv1 hv2 l0 (nz_v0 hs)
    rw [List.take_append_drop] at this
    exact this
  · intro b hb
    rcases List.mem_append.mp hb with hb | hb
    · rcases List.mem_append.mp hb with hb | hb
      · exact ic_up hs hk hQ b (List.mem_of_mem_take hb)
      · rw [List.mem_singleton.mp hb]
        exact ⟨l0, fun r hr => by rw [List.eq_of_mem_replicate hr]; exact Nc.zero⟩
    · exact ic_up hs hk hQ b (List.mem_of_mem_drop hb)
  · rw [List.length_append, List.length_append]
    show (Q.take n).length + 1 + (Q.drop n).length ≤ _
    omega
end
end Lb
namespace Lb
open PySem PySem.Spec PyProof.Rows L2 Vf

section
variable {x : IX} {F : FT} {s : Nat} {p1 : Option (Bool × D)} (K : KL F x) (hs : S12 s)
  (hn : ∀ T, TOk T → ∃ r T', TOk T' ∧ Nc 6 24 r ∧ F x.l_number [.tape] T = .ok (rD false r) false T')
  (hst : ∀ T, TOk T → ∃ a T', TOk T' ∧ a.length = s ∧ (∀ r ∈ a, Nc 6 24 r) ∧ F x.l_step [.tape, .int (s : Nat)] T = .ok (stepD a) false T')
include K hs hn hst
theorem sp_turn {k B : Nat} (hk : k ≠ 0) (h24 : 24 * k ≤ B) (hB : 100 * B < 2 ^ 1900) (hk2 : 100 * k < 2 ^ 1900) {Q : List Vc} (hQ : Ic s k B Q) (hl : Q.length ≤ 20) {T : Vf.TP} (hT : TOk T) (y4 y5 y6 y7 y8 y9 : Option (Bool × D)) :
    ∃ Q' T' y5' y6' y7' y8' y9', evSs F (SP x) (SA s p1 Q y4 y5 y6 y7 y8 y9 T) = .ok .nx (SA s p1 Q' y4 y5' y6' y7' y8' y9' T') ∧ TOk T' ∧ Eqv s Q' Q ∧ Ic s (6 * k) (30 * B) Q' ∧ Q'.length ≤ Q.length + 2 := by
  obtain ⟨u, T1, t1, u1, u2, d1⟩ := drawn_ok hT (m := (Q.length : Nat) + 1) (by omega) (by omega)
  obtain ⟨v, T2, t2, v1, v2, d2⟩ := drawn_ok t1 (m := 3) (by decide) (by decide)
  have e1 : F x.l_draw [.tape, .int (((Q.length : Nat) : Int) + 1)] T = .ok (.int u) false T1 := by rw [K.draw]; exact d1
  have e2 : F x.l_draw [.tape, .int 3] T1 = .ok (.int v) false T2 := by rw [K.draw]; exact d2
  obtain ⟨n, rfl⟩ : ∃ n : Nat, u = n := ⟨u.toNat, by omega⟩
  have hnq : n ≤ Q.length := by omega
  have ln := lst_len Q
  have hpar : evS F (.par [5, 6] (.cons (.call x.l_draw (.cons (.var 0) (.cons (.prim (.bin .Add) (.cons (.prim (.blt "len") (.cons (.var 3) .nil)) (.cons (.cst (.int (1))) .nil))) .nil))) (.cons (.call x.l_draw (.cons (.var 0) (.cons (.cst (.int (3))) .nil))) .nil))) (SA s p1 Q y4 y5 y6 y7 y8 y9 T) = .ok .nx (SA s p1 Q y4 (some (false, .int (n : Nat))) (some (false, .int v)) y7 y8 y9 T2) := by
    unfold SA
    generalize D.lst (stepDs Q) = L at ln ⊢
    dsimp! [-lenD, ln, e1, e2]
  have c0 : ∀ j : Int, evE F (.prim (.cmp .Eq) (.cons (.var 6) (.cons (.cst (.int j)) .nil))) (SA s p1 Q y4 (some (false, .int (n : Nat))) (some (false, .int v)) y7 y8 y9 T2) = .ok (.bl (decide (v = j)), false) (SA s p1 Q y4 (some (false, .int (n : Nat))) (some (false, .int v)) y7 y8 y9 T2) := fun j => by
    unfold SA
    generalize D.lst (stepDs Q) = L
    dsimp!
  have clt : evE F (.prim (.cmp .Lt) (.cons (.var 5) (.cons (.prim (.blt "len") (.cons (.var 3) .nil)) .nil))) (SA s p1 Q y4 (some (false, .int (n : Nat))) (some (false, .int v)) y7 y8 y9 T2) = .ok (.bl (decide (((n : Nat) : Int) < ((Q.length : Nat) : Int))), false) (SA s p1 Q y4 (some (false, .int (n : Nat))) (some (false, .int v)) y7 y8 y9 T2) := by
    unfold SA
    generalize D.lst (stepDs Q) = L at ln ⊢
    dsimp! [-lenD, ln]
  have eand : ∀ a b : Ex, evE F (.and a b) = bnd (bnd (evE F a) Vf.isB) fun x => if x then evE F b else Vf.ret (.bl false, false) := fun a b => by conv => lhs; unfold evE
  rcases (show v = 0 ∨ v = 1 ∨ v = 2 by omega) with rfl | rfl | rfl
  · obtain ⟨Q', T3, y7', g1, g2, g3, g4, g5⟩ := sp_0 (p1 := p1) (y4 := y4) (y6 := some (false, .int 0)) (y7 := y7) (y8 := y8) (y9 := y9) K hs hst hk h24 hQ hl t2 hnq
    exact ⟨Q', T3, _, _, _, _, _, st_cons hpar (st_cons (st_ite_t (c0 0) g1) st_end), g2, g3, g4, g5⟩
  · by_cases hlt : n < Q.length
    · obtain ⟨Q', T3, y8', y9', g1, g2, g3, g4, g5⟩ := sp_1 (p1 := p1) (y4 := y4) (y6 := some (false, .int 1)) (y7 := y7) (y8 := y8) (y9 := y9) K hs hn hk h24 hB hk2 hQ hl t2 hlt
      refine ⟨Q', T3, _, _, _, _, _, st_cons hpar (st_cons (st_ite_f (c0 0) (st_cons (st_ite_t (fr := false) ?_ g1) st_end)) st_end), g2, g3, g4, g5⟩
      rw [eand, u_bnd, bnd_B (c0 1)]
      show evE F _ _ = _
      rw [clt, decide_eq_true (by omega)]
    · have hc : evE F (.and (.prim (.cmp .Eq) (.cons (.var 6) (.cons (.cst (.int (1))) .nil))) (.prim (.cmp .Lt) (.cons (.var 5) (.cons (.prim (.blt "len") (.cons (.var 3) .nil)) .nil)))) (SA s p1 Q y4 (some (false, .int (n : Nat))) (some (false, .int 1)) y7 y8 y9 T2) = .ok (.bl false, false) (SA s p1 Q y4 (some (false, .int (n : Nat))) (some (false, .int 1)) y7 y8 y9 T2) := by
        rw [eand, u_bnd, bnd_B (c0 1)]
        show evE F _ _ = _
        rw [clt, decide_eq_false (by omega)]
      exact ⟨Q, T2, _, _, _, _, _, st_cons hpar (st_cons (st_ite_f (c0 0) (st_cons (st_ite_f hc (st_cons (st_ite_f (c0 2) st_end) st_end)) st_end)) st_end), t2, .rfl _, ic_up hs hk hQ, by omega⟩
  · have hc : evE F (.and (.prim (.cmp .Eq) (.cons (.var 6) (.cons (.cst (.int (1))) .nil))) (.prim (.cmp .Lt) (.cons (.var 5) (.cons (.prim (.blt "len") (.cons (.var 3) .nil)) .nil)))) (SA s p1 Q y4 (some (false, .int (n : Nat))) (some (false, .int 2)) y7 y8 y9 T2) = .ok (.bl false, false) (SA s p1 Q y4 (some (false, .int (n : Nat))) (some (false, .int 2)) y7 y8 y9 T2) := by
      rw [eand, u_bnd, bnd_B (c0 1)]
      rfl
    obtain ⟨Q', g1, g3, g4, g5⟩ := sp_2 (F := F) (p1 := p1) (y4 := y4) (y6 := some (false, .int 2)) (y7 := y7) (y8 := y8) (y9 := y9) (T := T2) hs hk hQ hl hnq
    exact ⟨Q', T2, _, _, _, _, _, st_cons hpar (st_cons (st_ite_f (c0 0) (st_cons (st_ite_f hc (st_cons (st_ite_t (c0 2) g1) st_end)) st_end)) st_end), t2, g3, g4, g5⟩
theorem r_spoilt {Q : List Vc} (hQ : ∀ a ∈ Q, Dn s a) (hl : Q.length ≤ 4) {T : Vf.TP} (hT : TOk T) :
    ∃ q T', TOk T' ∧ Eqv s q Q ∧ (∀ a ∈ q, a.length = s ∧ ∀ r ∈ a, Nc 1296 648000 r) ∧ q.length ≤ Q.length + 6 ∧ runB F (B_l_spoilt x) [.tape, pathD Q, .int (s : Nat)] T = .ok (pathD q) false T' := by
  have i0 : Ic s 1 24 Q := hQ
  obtain ⟨Q1, T1, a5, a6, a7, a8, a9, g1, t1, q1, i1, l1⟩ := sp_turn (p1 := some (false, pathD Q)) K hs hn hst (k := 1) (B := 24) (by decide) (by decide) (by decide +kernel) (by decide +kernel) i0 (by omega) hT (some (false, .int 0)) none none none none none
  obtain ⟨Q2, T2, b5, b6, b7, b8, b9, g2, t2, q2, i2, l2⟩ := sp_turn (p1 := some (false, pathD Q)) K hs hn hst (k := 6 * 1) (B := 30 * 24) (by decide) (by decide) (by decide +kernel) (by decide +kernel) i1 (by omega) t1 (some (false, .int 1)) a5 a6 a7 a8 a9
  obtain ⟨Q3, T3, c5, c6, c7, c8, c9, g3, t3, q3, i3, l3⟩ := sp_turn (p1 := some (false, pathD Q)) K hs hn hst (k := 6 * (6 * 1)) (B := 30 * (30 * 24)) (by decide) (by decide) (by decide +kernel) (by decide +kernel) i2 (by omega) t2 (some (false, .int 2)) b5 b6 b7 b8 b9
  refine ⟨Q3, T3, t3, .tr q3 (.tr q2 q1), i3, by omega, ?_⟩
  have hloop : forL [4] (evSs F (SP x)) (rgN 0 3) (SA s (some (false, pathD Q)) Q none none none none none none T) = .ok .nx (SA s (some (false, pathD Q)) Q3 (some (false, .int 2)) c5 c6 c7 c8 c9 T3) := by
    refine for_cons (s1 := SA s (some (false, pathD Q)) Q (some (false, .int 0)) none none none none none T) (by unfold SA; dsimp! <;> rfl) g1 ?_
    refine for_cons (s1 := SA s (some (false, pathD Q)) Q1 (some (false, .int 1)) a5 a6 a7 a8 a9 T1) (by unfold SA; dsimp! <;> rfl) g2 ?_
    exact for_cons (s1 := SA s (some (false, pathD Q)) Q2 (some (false, .int 2)) b5 b6 b7 b8 b9 T2) (by unfold SA; dsimp! <;> rfl) g3 rfl
  refine rb_rt2 (s := ⟨[some (false, .tape), some (false, pathD Q), some (false, .int (s : Nat)), some (true, .lst (stepDs Q3)), some (false, .int 2), c5, c6, c7, c8, c9, none, none], T3⟩) rfl (st_cons (s1 := SA s (some (false, pathD Q)) Q none none none none none none T) ?_ (st_cons (st_for (it_rng1 (n := 3) (fr := false) (s1 := SA s (some (false, pathD Q)) Q none none none none none none T) ?_ (by decide)) hloop) (st_last ?_))) rfl
  · unfold SA pathD
    dsimp! [B_l_spoilt]
  · unfold SA
    dsimp!
    rfl
  · unfold SA pathD
    dsimp!
end
end Lb
namespace Lb
open PySem PySem.Spec PyProof.Rows L2 Vf

def exts (c : Nat) (w : List Int) : Nat → Nat → List (List Int)
  | _, 0 => []
  | j, n + 1 => (w ++ [(j : Int)]) :: exts c w (j + 1) n
def nextW (c : Nat) : List (List Int) → List (List Int)
  | [] => []
  | w :: r => exts c w 0 c ++ nextW c r
def wordsF (c : Nat) : Nat → List (List Int)
  | 0 => [[]]
  | n + 1 => nextW c (wordsF c n)
def allF (c : Nat) : Nat → List (List Int)
  | 0 => []
  | n + 1 => allF c n ++ wordsF c n
def wsD (ws : List (List Int)) : List D := ws.map wordD
theorem wsD_len (ws : List (List Int)) : (wsD ws).length = ws.length := by unfold wsD; rw [List.length_map]
theorem wsD_app (a b : List (List Int)) : wsD a ++ wsD b = wsD (a ++ b) := by unfold wsD; rw [List.map_append]
theorem exts_len (c : Nat) (w : List Int) : ∀ n j, (exts c w j n).length = n
  | 0, _ => rfl
  | n + 1, j => by show (exts c w (j + 1) n).length + 1 = _; rw [exts_len c w n]
theorem nextW_len (c : Nat) : ∀ ws, (nextW c ws).length = ws.length * c
  | [] => by rw [List.length_nil, Nat.zero_mul]; rfl
  | w :: r => by show (exts c w 0 c ++ nextW c r).length = _; rw [List.length_append, exts_len, nextW_len c r, List.length_cons, Nat.succ_mul, Nat.add_comm]
section
variable {x : IX} {F : FT} {T : Vf.TP}
theorem fits_le {n : Nat} (h : n ≤ 100000) : fits n = true := decide_eq_true (show n ≤ 2 ^ 24 by omega)
theorem wx_comp {c : Nat} {p0 p1 p2 p3 p4 : Option (Bool × D)} {w : List Int} (hw : w.length ≤ 1000) : ∀ n j,
    compL [6] [6] (Vf.ret true) (evE F (.prim (.bin .Add) (.cons (.var 5) (.cons (.tup (.cons (.var 6) .nil)) .nil)))) (rgN j n) ⟨[p0, p1, p2, p3, p4, some (false, wordD w), none], T⟩ = .ok (wsD (exts c w j n)) ⟨[p0, p1, p2, p3, p4, some (false, wordD w), none], T⟩
  | 0, _ => rfl
  | n + 1, j => by
    have ih := wx_comp (c := c) (p0 := p0) (p1 := p1) (p2 := p2) (p3 := p3) (p4 := p4) hw n (j + 1)
    have ef : fits 1 = true := by decide
    have ha : addD (wordD w) (.tup [.int (j : Nat)]) = some (wordD (w ++ [(j : Int)]), false) := by
      show (if fits ((iD w).length + 1) then some (D.tup (iD w ++ [.int (j : Nat)]), false) else none) = _
      rw [if_pos (fits_le (by unfold iD; rw [List.length_map]; omega))]
      show _ = some (D.tup (iD (w ++ [(j : Int)])), false)
      unfold iD
      rw [List.map_append]
      rfl
    show compL _ _ _ _ (.int (j : Nat) :: rgN (j + 1) n) _ = .ok (wordD (w ++ [(j : Int)]) :: wsD (exts c w (j + 1) n)) _
    refine comp_yes (x := (wordD (w ++ [(j : Int)]), false)) (s1 := ⟨[p0, p1, p2, p3, p4, some (false, wordD w), some (false, .int (j : Nat))], T⟩) (s2 := ⟨[p0, p1, p2, p3, p4, some (false, wordD w), some (false, .int (j : Nat))], T⟩) (s3 := ⟨[p0, p1, p2, p3, p4, some (false, wordD w), some (false, .int (j : Nat))], T⟩) ?_ rfl ?_ ih
    · dsimp!
    · generalize wordD w = W at ha ⊢
      generalize wordD (w ++ [(j : Int)]) = W2 at ha ⊢
      dsimp! [-addD, ef, ha]
abbrev W1 : Sxs := .cons (.set 4 (.prim (.bin .Add) (.cons (.var 4) (.cons (.comp [6] [6] (.rng1 (.var 0)) .nil (.prim (.bin .Add) (.cons (.var 5) (.cons (.tup (.cons (.var 6) .nil)) .nil)))) .nil)))) .nil
abbrev W2 : Sxs := .cons (.set 4 (.lst .nil))
  (.cons (.for_ [5] (.ex (.var 2)) W1)
  (.cons (.set 2 (.var 4))
  .nil))
theorem ev_prv {F : FT} {p : Pr} {i : Nat} {b : Ex} (hb : ∀ i, b ≠ .var i) {s : S} {d e : D} {f1 f2 : Bool} {r : D × Bool} (h : lk s i = some (f1, d)) (g : evE F b s = .ok (e, f2) s) (hp : primD p [d, e] = some r) : evE F (.prim p (.cons (.var i) (.cons b .nil))) s = .ok r s := by
  have h1 : evOp F (.var i) s = .ok (.slot i) s := by
    show (match lk s i with | some _ => Res.ok (Opd.slot i) s | none => Res.stuck) = _
    rw [h]
  have h2 : evOp F b s = .ok (.val e) s := by
    unfold evOp
    split
    · exact (hb _ rfl).elim
    · rw [u_bnd, g]
  have h3 : evO F (.cons b .nil) s = .ok [.val e] s := by
    rw [evO_cons, u_bnd, h2]
    rfl
  have h4 : evO F (.cons (.var i) (.cons b .nil)) s = .ok [.slot i, .val e] s := by
    rw [evO_cons, u_bnd, h1]
    show bnd _ _ s = _
    rw [u_bnd, h3]
  have h5 : getAll s [.slot i, .val e] = some [d, e] := by
    simp only [getAll, Opd.get, h, Option.map_some, Option.bind_some]
  unfold evE
  rw [u_bnd, h4]
  show (match getAll s [.slot i, .val e] with | some ds => (match primD p ds with | some r => Res.ok r s | none => Res.stuck) | none => Res.stuck) = _
  rw [h5]
  show (match primD p [d, e] with | some r => Res.ok r s | none => Res.stuck) = _
  rw [hp]
theorem wx_loop {c : Nat} (hc : c ≤ 100) {p1 p2 p3 : Option (Bool × D)} : ∀ (q acc : List (List Int)) (y5 : Option (Bool × D)), (∀ w ∈ q, w.length ≤ 1000) → acc.length + q.length * c ≤ 10000 →
    ∃ y5', forL [5] (evSs F W1) (wsD q) ⟨[some (false, .int (c : Nat)), p1, p2, p3, some (true, .lst (wsD acc)), y5, none], T⟩ = .ok .nx ⟨[some (false, .int (c : Nat)), p1, p2, p3, some (true, .lst (wsD (acc ++ nextW c q))), y5', none], T⟩
  | [], acc, y5, _, _ => ⟨y5, by show _ = Res.ok Fl.nx _; rw [show acc ++ nextW c [] = acc from List.append_nil acc]; rfl⟩
  | w :: q, acc, y5, hq, hl => by
    rw [List.length_cons, Nat.succ_mul] at hl
    obtain ⟨y5', ih⟩ := wx_loop hc (p1 := p1) (p2 := p2) (p3 := p3) q (acc ++ exts c w 0 c) (some (false, wordD w)) (fun v hv => hq v (List.mem_cons_of_mem _ hv)) (by rw [List.length_append, exts_len]; omega)
    refine ⟨y5', ?_⟩
    rw [show acc ++ nextW c (w :: q) = acc ++ exts c w 0 c ++ nextW c q by show acc ++ (exts c w 0 c ++ nextW c q) = _; rw [List.append_assoc]]
    show forL [5] _ (wordD w :: wsD q) _ = _
    have hcm := ev_comp0 (F := F) (own := [6]) (tg := [6]) (it := .rng1 (.var 0)) (s := ⟨[some (false, .int (c : Nat)), p1, p2, p3, some (true, .lst (wsD acc)), some (false, wordD w), none], T⟩) (s0 := ⟨[some (false, .int (c : Nat)), p1, p2, p3, some (true, .lst (wsD acc)), some (false, wordD w), none], T⟩) (ds := rgN 0 c) (it_rng1 (fr := false) (by dsimp!) (by omega)) rfl (wx_comp (c := c) (hq w (List.mem_cons_self ..)) c 0) (fits_le (by rw [wsD_len, exts_len]; omega))
    have ha : binD .Add (.lst (wsD acc)) (.lst (wsD (exts c w 0 c))) = some (.lst (wsD (acc ++ exts c w 0 c)), true) := by
      show (if _ then _ else _) = _
      rw [if_pos (fits_le (by rw [wsD_len, wsD_len, exts_len]; omega)), wsD_app]
    refine for_cons (s1 := ⟨[some (false, .int (c : Nat)), p1, p2, p3, some (true, .lst (wsD acc)), some (false, wordD w), none], T⟩) (by dsimp!) (st_cons (st_set (i := 4) (x := (.lst (wsD (acc ++ exts c w 0 c)), true)) (s1 := ⟨[some (false, .int (c : Nat)), p1, p2, p3, some (true, .lst (wsD acc)), some (false, wordD w), none], T⟩) ?_) st_end) ih
    exact ev_prv (fun _ h => by cases h) rfl hcm ha
theorem ws_turns {c : Nat} (hc : c ≤ 100) {n : Nat} (hs : ∀ j, j ≤ n → (wordsF c j).length * (c + 1) ≤ 5000 ∧ ∀ w ∈ wordsF c j, w.length ≤ 1000) {p1 : Option (Bool × D)} : ∀ (m j : Nat) (f : Bool) (y3 y4 y5 : Option (Bool × D)), j + m = n →
    ∃ f' y3' y4' y5', forL [3] (evSs F W2) (rgN j m) ⟨[some (false, .int (c : Nat)), p1, some (f, .lst (wsD (wordsF c j))), y3, y4, y5, none], T⟩ = .ok .nx ⟨[some (false, .int (c : Nat)), p1, some (f', .lst (wsD (wordsF c n))), y3', y4', y5', none], T⟩
  | 0, j, f, y3, y4, y5, hj => by
    obtain rfl : j = n := by omega
    exact ⟨f, y3, y4, y5, rfl⟩
  | m + 1, j, f, y3, y4, y5, hj => by
    obtain ⟨h1, h2⟩ := hs j (by omega)
    have ef : fits 0 = true := by decide
    obtain ⟨y5', g⟩ := wx_loop (F := F) (T := T) hc (p1 := p1) (p2 := some (false, .lst (wsD (wordsF c j)))) (p3 := some (false, .int (j : Nat))) (wordsF c j) [] y5 h2 (by rw [List.length_nil]; have : (wordsF c j).length * c ≤ (wordsF c j).length * (c + 1) := Nat.mul_le_mul_left _ (Nat.le_succ c); omega)
    obtain ⟨f', y3', y4', y5'', ih⟩ := ws_turns hc hs (p1 := p1) m (j + 1) false (some (false, .int (j : Nat))) (some (false, .lst (wsD (wordsF c (j + 1))))) y5' (by omega)
    refine ⟨f', y3', y4', y5'', ?_⟩
    show forL [3] _ (.int (j : Nat) :: rgN (j + 1) m) _ = _
    refine for_cons (s1 := ⟨[some (false, .int (c : Nat)), p1, some (f, .lst (wsD (wordsF c j))), some (false, .int (j : Nat)), y4, y5, none], T⟩) (by dsimp!) ?_ ih
    refine st_cons (s1 := ⟨[some (false, .int (c : Nat)), p1, some (f, .lst (wsD (wordsF c j))), some (false, .int (j : Nat)), some (true, .lst (wsD [])), y5, none], T⟩) ?_ (st_cons (st_for (s0 := ⟨[some (false, .int (c : Nat)), p1, some (false, .lst (wsD (wordsF c j))), some (false, .int (j : Nat)), some (true, .lst (wsD [])), y5, none], T⟩) (ds := wsD (wordsF c j)) ?_ g) (st_cons (s1 := ⟨[some (false, .int (c : Nat)), p1, some (false, .lst (wsD (wordsF c (j + 1)))), some (false, .int (j : Nat)), some (false, .lst (wsD (wordsF c (j + 1)))), y5', none], T⟩) ?_ st_end))
    · dsimp! [ef] <;> rfl
    · dsimp!
    · rw [List.nil_append]
      show evS F _ ⟨[some (false, .int (c : Nat)), p1, some (false, .lst (wsD (wordsF c j))), some (false, .int (j : Nat)), some (true, .lst (wsD (wordsF c (j + 1)))), y5', none], T⟩ = _
      generalize wsD (wordsF c (j + 1)) = A
      generalize wsD (wordsF c j) = B
      dsimp!
theorem r_words {c : Nat} (hc : c ≤ 100) {n : Nat} (hn : n ≤ 100) (hs : ∀ j, j ≤ n → (wordsF c j).length * (c + 1) ≤ 5000 ∧ ∀ w ∈ wordsF c j, w.length ≤ 1000) : ∃ f, runB F (B_l_words x) [.int (c : Nat), .int (n : Nat)] T = .ok (.lst (wsD (wordsF c n))) f T := by
  have ef : fits 0 = true := by decide
  have ef1 : fits 1 = true := by decide
  obtain ⟨f', y3, y4, y5, g⟩ := ws_turns (F := F) (T := T) hc hs (p1 := some (false, .int (n : Nat))) n 0 true none none none (by omega)
  refine ⟨f', rb_rt (s := ⟨[some (false, .int (c : Nat)), some (false, .int (n : Nat)), none, y3, y4, y5, none], T⟩) rfl (st_cons (s1 := ⟨[some (false, .int (c : Nat)), some (false, .int (n : Nat)), some (true, .lst (wsD (wordsF c 0))), none, none, none, none], T⟩) ?_ (st_cons (st_for (it_rng1 (n := n) (fr := false) (s1 := ⟨[some (false, .int (c : Nat)), some (false, .int (n : Nat)), some (true, .lst (wsD (wordsF c 0))), none, none, none, none], T⟩) ?_ (by omega)) g) (st_last ?_))) rfl⟩
  · dsimp! [B_l_words, ef, ef1] <;> rfl
  · generalize wsD (wordsF c 0) = A
    dsimp!
  · generalize wsD (wordsF c n) = A
    dsimp!
theorem all_loop {c : Nat} {p1 : Option (Bool × D)} {n : Nat} (hF : ∀ j, j < n → ∃ f, F x.l_words [.int (c : Nat), .int (j : Nat)] T = .ok (.lst (wsD (wordsF c j))) f T) (hs : ∀ j, j < n → (allF c j).length + (wordsF c j).length ≤ 10000) : ∀ (m j : Nat) (y3 : Option (Bool × D)), j + m = n →
    ∃ y3', forL [3] (evSs F (.cons (.set 2 (.prim (.bin .Add) (.cons (.var 2) (.cons (.call x.l_words (.cons (.var 0) (.cons (.var 3) .nil))) .nil)))) .nil)) (rgN j m) ⟨[some (false, .int (c : Nat)), p1, some (true, .lst (wsD (allF c j))), y3], T⟩ = .ok .nx ⟨[some (false, .int (c : Nat)), p1, some (true, .lst (wsD (allF c n))), y3'], T⟩
  | 0, j, y3, hj => by
    obtain rfl : j = n := by omega
    exact ⟨y3, rfl⟩
  | m + 1, j, y3, hj => by
    obtain ⟨y3', ih⟩ := all_loop hF hs m (j + 1) (some (false, .int (j : Nat))) (by omega)
    obtain ⟨f, e⟩ := hF j (by omega)
    refine ⟨y3', ?_⟩
    have ha : binD .Add (.lst (wsD (allF c j))) (.lst (wsD (wordsF c j))) = some (.lst (wsD (allF c (j + 1))), true) := by
      show (if _ then _ else _) = _
      rw [if_pos (fits_le (by rw [wsD_len, wsD_len]; have := hs j (by omega); omega)), wsD_app]
      rfl
    have hcall : evE F (.call x.l_words (.cons (.var 0) (.cons (.var 3) .nil))) ⟨[some (false, .int (c : Nat)), p1, some (true, .lst (wsD (allF c j))), some (false, .int (j : Nat))], T⟩ = .ok (.lst (wsD (wordsF c j)), f) ⟨[some (false, .int (c : Nat)), p1, some (true, .lst (wsD (allF c j))), some (false, .int (j : Nat))], T⟩ := by
      generalize wsD (allF c j) = A
      generalize wsD (wordsF c j) = B at e ⊢
      dsimp! [e]
    show forL [3] _ (.int (j : Nat) :: rgN (j + 1) m) _ = _
    exact for_cons (s1 := ⟨[some (false, .int (c : Nat)), p1, some (true, .lst (wsD (allF c j))), some (false, .int (j : Nat))], T⟩) (by dsimp!) (st_cons (st_set (i := 2) (ev_prv (fun _ h => by cases h) rfl hcall ha)) st_end) ih
theorem r_all {c : Nat} {n : Nat} (hn : n ≤ 100) (hF : ∀ j, j < n + 1 → ∃ f, F x.l_words [.int (c : Nat), .int (j : Nat)] T = .ok (.lst (wsD (wordsF c j))) f T) (hs : ∀ j, j < n + 1 → (allF c j).length + (wordsF c j).length ≤ 10000) : runB F (B_l_all x) [.int (c : Nat), .int (n : Nat)] T = .ok (.lst (wsD (allF c (n + 1)))) true T := by
  have ef : fits 0 = true := by decide
  obtain ⟨y3, g⟩ := all_loop (x := x) (F := F) (T := T) (p1 := some (false, .int (n : Nat))) hF hs (n + 1) 0 none (by omega)
  have z : ((n : Nat) : Int) + 1 = ((n + 1 : Nat) : Int) := by omega
  refine rb_rt (s := ⟨[some (false, .int (c : Nat)), some (false, .int (n : Nat)), none, y3], T⟩) rfl (st_cons (s1 := ⟨[some (false, .int (c : Nat)), some (false, .int (n : Nat)), some (true, .lst (wsD (allF c 0))), none], T⟩) ?_ (st_cons (st_for (it_rng1 (n := n + 1) (fr := false) (s1 := ⟨[some (false, .int (c : Nat)), some (false, .int (n : Nat)), some (true, .lst (wsD (allF c 0))), none], T⟩) ?_ (by omega)) g) (st_last ?_))) rfl
  · dsimp! [B_l_all, ef] <;> rfl
  · generalize wsD (allF c 0) = A
    dsimp! [z]
  · generalize wsD (allF c (n + 1)) = A
    dsimp!
end
theorem all_ok (s : Nat) (hs : s = 1 ∨ s = 2) : (∀ j, j ≤ 3 → (wordsF s j).length * (s + 1) ≤ 5000 ∧ ∀ w ∈ wordsF s j, w.length ≤ 1000) ∧ (∀ j, j < 4 → (allF s j).length + (wordsF s j).length ≤ 10000) := by
  have h1 : ∀ j, j ≤ 3 → j = 0 ∨ j = 1 ∨ j = 2 ∨ j = 3 := fun j h => by omega
  rcases hs with rfl | rfl
  · refine ⟨fun j h => ?_, fun j h => ?_⟩
    · rcases h1 j h with rfl | rfl | rfl | rfl <;> decide +kernel
    · rcases h1 j (by omega) with rfl | rfl | rfl | rfl <;> decide +kernel
  · refine ⟨fun j h => ?_, fun j h => ?_⟩
    · rcases h1 j h with rfl | rfl | rfl | rfl <;> decide +kernel
    · rcases h1 j (by omega) with rfl | rfl | rfl | rfl <;> decide +kernel
theorem k_all {Ps : List Fn} {x : IX} (hM : HasM Ps x) (T : Vf.TP) {m : Nat} (hm : 2 ≤ m) (s : Nat) (hs : s = 1 ∨ s = 2) : Vf.run Ps m x.l_all [.int (s : Nat), .int 3] T = .ok (.lst (wsD (allF s 4))) true T := by
  obtain ⟨h1, h2⟩ := all_ok s hs
  rw [run_m hM.l_all (by omega)]
  exact r_all (n := 3) (by decide) (fun j hj => by
    rw [run_m hM.l_words (by omega)]
    exact r_words (by omega) (by omega) fun i hi => h1 i (by omega)) h2
def W12 (s : Nat) : List (List Int) := allF s 4
theorem w1 : W12 1 = [[], [0], [0, 0], [0, 0, 0]] := by decide +kernel
theorem w2 : W12 2 = [[], [0], [1], [0, 0], [0, 1], [1, 0], [1, 1], [0, 0, 0], [0, 0, 1], [0, 1, 0], [0, 1, 1], [1, 0, 0], [1, 0, 1], [1, 1, 0], [1, 1, 1]] := by decide +kernel
theorem wl12 (s : Nat) (hs : s = 1 ∨ s = 2) : WL (W12 s) 3 := by
  rcases hs with rfl | rfl
  · rw [w1]
    exact ⟨by decide +kernel, by decide +kernel, by decide +kernel, by decide +kernel, by decide +kernel, fun w hw i => by
      have : ∀ w ∈ ([[], [0], [0, 0], [0, 0, 0]] : List (List Int)), ∀ i, i ≤ 3 → w.take i ∈ ([[], [0], [0, 0], [0, 0, 0]] : List (List Int)) ∧ w.drop i ∈ ([[], [0], [0, 0], [0, 0, 0]] : List (List Int)) := by decide +kernel
      have hl : ∀ w ∈ ([[], [0], [0, 0], [0, 0, 0]] : List (List Int)), w.length ≤ 3 := by decide +kernel
      by_cases h : i ≤ 3
      · exact this w hw i h
      · rw [List.take_of_length_le (by have := hl w hw; omega), List.drop_of_length_le (by have := hl w hw; omega)]
        exact ⟨hw, by decide⟩, by decide +kernel, by decide⟩
  · rw [w2]
    exact ⟨by decide +kernel, by decide +kernel, by decide +kernel, by decide +kernel, by decide +kernel, fun w hw i => by
      have : ∀ w ∈ ([[], [0], [1], [0, 0], [0, 1], [1, 0], [1, 1], [0, 0, 0], [0, 0, 1], [0, 1, 0], [0, 1, 1], [1, 0, 0], [1, 0, 1], [1, 1, 0], [1, 1, 1]] : List (List Int)), ∀ i, i ≤ 3 → w.take i ∈ ([[], [0], [1], [0, 0], [0, 1], [1, 0], [1, 1], [0, 0, 0], [0, 0, 1], [0, 1, 0], [0, 1, 1], [1, 0, 0], [1, 0, 1], [1, 1, 0], [1, 1, 1]] : List (List Int)) ∧ w.drop i ∈ ([[], [0], [1], [0, 0], [0, 1], [1, 0], [1, 1], [0, 0, 0], [0, 0, 1], [0, 1, 0], [0, 1, 1], [1, 0, 0], [1, 0, 1], [1, 1, 0], [1, 1, 1]] : List (List Int)) := by decide +kernel
      have hl : ∀ w ∈ ([[], [0], [1], [0, 0], [0, 1], [1, 0], [1, 1], [0, 0, 0], [0, 0, 1], [0, 1, 0], [0, 1, 1], [1, 0, 0], [1, 0, 1], [1, 1, 0], [1, 1, 1]] : List (List Int)), w.length ≤ 3 := by decide +kernel
      by_cases h : i ≤ 3
      · exact this w hw i h
      · rw [List.take_of_length_le (by have := hl w hw; omega), List.drop_of_length_le (by have := hl w hw; omega)]
        exact ⟨hw, by decide⟩, by decide +kernel, by decide⟩
theorem w12_let (s : Nat) (hs : s = 1 ∨ s = 2) : ∀ w ∈ W12 s, ∀ i ∈ w, ∃ j : Nat, i = j ∧ j < s := by
  rcases hs with rfl | rfl
  · have h : ∀ w ∈ W12 1, ∀ i ∈ w, i = 0 := by rw [w1]; decide +kernel
    intro w hw i hi
    exact ⟨0, h w hw i hi, by decide⟩
  · have h : ∀ w ∈ W12 2, ∀ i ∈ w, i = 0 ∨ i = 1 := by rw [w2]; decide +kernel
    intro w hw i hi
    rcases h w hw i hi with h | h
    · exact ⟨0, h, by decide⟩
    · exact ⟨1, h, by decide⟩
theorem w12_one (s : Nat) (hs : s = 1 ∨ s = 2) : ∀ j : Nat, j < s → [(j : Int)] ∈ W12 s := by
  rcases hs with rfl | rfl
  · intro j h
    obtain rfl : j = 0 := by omega
    rw [w1]; decide
  · intro j h
    rcases (show j = 0 ∨ j = 1 by omega) with rfl | rfl
    · rw [w2]; decide
    · rw [w2]; decide
theorem w12_len (s : Nat) (hs : s = 1 ∨ s = 2) : ∀ w ∈ W12 s, w.length ≤ 3 := (wl12 s hs).wlen
end Lb
namespace Lb
open PySem PySem.Spec PyProof.Rows L2 Vf

def PN (s : Nat) (p : List Vc) : Prop := ∀ a ∈ p, a.length = s ∧ ∀ r ∈ a, Nc 1296 100000000 r
theorem PN.vs {s : Nat} {p : List Vc} (h : PN s p) : Vs s p := fun a ha => (h a ha).1
theorem PN.bd {s : Nat} {p : List Vc} (h : PN s p) : ∀ a ∈ p, a.length = s ∧ ∀ r ∈ a, Bd r := fun a ha => ⟨(h a ha).1, fun r hr => ((h a ha).2 r hr).bd (by decide) (big (by decide)) (big (by decide))⟩
theorem PN.app {s : Nat} {p q : List Vc} (h : PN s p) (g : PN s q) : PN s (p ++ q) := fun a ha => (List.mem_append.mp ha).elim (h a) (g a)
theorem PN.back {s : Nat} (hs : S12 s) {p : List Vc} (h : PN s p) : PN s (backF p) := fun a ha => by
  unfold backF at ha
  obtain ⟨b, hb, rfl⟩ := List.mem_map.mp ha
  obtain ⟨h1, h2⟩ := h b (List.mem_reverse.mp hb)
  exact ⟨by rw [vneg_len hs]; exact h1, vneg_nc hs h2⟩
theorem pn_of {s k B : Nat} {p : List Vc} (hk : 6 * k = 1296) (hB : B ≤ 100000000) (h : ∀ a ∈ p, a.length = s ∧ ∀ r ∈ a, Nc (6 * k) B r) : PN s p := fun a ha => ⟨(h a ha).1, fun r hr => by
  have := (h a ha).2 r hr
  rw [hk] at this
  exact this.mono hB⟩
theorem pn_6 {s B : Nat} {p : List Vc} (hB : B * 216 ≤ 100000000) (h : ∀ a ∈ p, a.length = s ∧ ∀ r ∈ a, Nc 6 B r) : PN s p := fun a ha => ⟨(h a ha).1, fun r hr => (((h a ha).2 r hr).up (by decide) (k := 216) (by decide)).mono hB⟩
theorem ebd : EBd 1296 (4 * 100000000) 3 := by unfold EBd; decide +kernel
theorem sbd : SBd (NN 1296 3) (CC 1296 (4 * 100000000) 3) 9 := by unfold SBd; decide +kernel
theorem SBd.le {N C n m : Nat} (h : SBd N C n) (hm : m ≤ n) : SBd N C m := ⟨h.1, h.2.1, h.2.2.1, fun j hj => h.2.2.2 j (by omega)⟩
theorem SN_add (M : Nat) : ∀ n k, SN M (n + k) = SN M n * SN M k
  | n, 0 => by rw [Nat.add_zero]; show _ = _ * 1; rw [Nat.mul_one]
  | n, k + 1 => by show SN M (n + k) * M = SN M n * (SN M k * M); rw [SN_add M n k, Nat.mul_assoc]
theorem sb_end : (List.range 10).all (fun n => decide (201 * (SBf (CC 1296 (4 * 100000000) 3) n * SN (NN 1296 3) (9 - n) + SBf (CC 1296 (4 * 100000000) 3) 9 * SN (NN 1296 3) 9) < 2 ^ 1900 ∧ SBf (CC 1296 (4 * 100000000) 3) n * SN (NN 1296 3) (9 - n) ≤ SBf (CC 1296 (4 * 100000000) 3) 9 * SN (NN 1296 3) 9)) = true := by decide +kernel
def BE : Nat := SBf (CC 1296 (4 * 100000000) 3) 9 * SN (NN 1296 3) 9
theorem be_ok : 201 * (BE + BE) < 2 ^ 1900 ∧ SN (NN 1296 3) 9 < 2 ^ 1900 ∧ SN (NN 1296 3) 9 ≠ 0 := by unfold BE; decide +kernel
theorem FB_sg {s : Nat} (hs : S12 s) {p : List Vc} (hp : PN s p) (hl : p.length ≤ 9) : FB (W12 s) (SN (NN 1296 3) 9) BE (sg p) := by
  have h := FB_sig (wl12 s hs) (N := 1296) (B := 100000000) (by decide) p 0 delta (FB_delta _) (fun a ha => ⟨by rw [(hp a ha).1]; omega, (hp a ha).2⟩)
  rw [Nat.zero_add] at h
  have h1 : SN (NN 1296 3) 9 = SN (NN 1296 3) p.length * SN (NN 1296 3) (9 - p.length) := by rw [← SN_add]; congr 1; omega
  have h2 := List.all_eq_true.mp sb_end p.length (List.mem_range.mpr (by omega))
  rw [decide_eq_true_eq] at h2
  have n1 : NN 1296 3 ≠ 0 := NN_ne (by decide) 3
  rw [h1]
  exact fun w hw => ((h w hw).up (SN_ne n1 _) (SN_ne n1 _)).mono h2.2
def unl (W : List (List Int)) (f g : List Int → Rat) : Option (List Int) := W.find? fun w => decide (f w ≠ g w)
def wD : Option (List Int) → D
  | none => .non
  | some w => wordD w
theorem head_unl (f g : List Int → Rat) (hl : List Int → Bool) : ∀ W, headD (canon W (fun w => f w - g w) hl) = wD (unl W f g)
  | [] => rfl
  | w :: W => by
    have ih := head_unl f g hl W
    rw [canon_cons]
    unfold unl
    rw [List.find?_cons]
    by_cases h : f w = g w
    · rw [if_neg (by simp [h]; grind), decide_eq_false (by simp [h])]
      exact ih
    · rw [if_pos (by intro e; apply h; grind), decide_eq_true h]
      rfl
section
variable {Ps : List Fn} {x : IX} (hR : HasR Ps x) (hS : HasS Ps x) (hP : HasP Ps x) {s : Nat} (hs : S12 s)
include hR hS hP hs
theorem k_ispath {m : Nat} (hm : 5 ≤ m) (T : Vf.TP) {p : List Vc} (h : POk s p) : Vf.run Ps m x.is_path [pathD p] T = .ok (.bl true) false T := by
  rw [run_m hP.is_path (by omega)]
  exact r_ispath (kR hR (by omega)) (by omega) (by omega) h
theorem k_chk {m : Nat} (hm : 6 ≤ m) (T : Vf.TP) {p : List Vc} (h : POk s p) : Vf.run Ps m x.check_path [pathD p] T = .ok .non false T := by
  rw [run_m hP.check_path (by omega)]
  exact r_checkpath (k_ispath hR hS hP hs (by omega) T h)
theorem k_along {m : Nat} (hm : 5 ≤ m) (T : Vf.TP) {a b : Vc} (ha : SOk s a) (hb : SOk s b) : Vf.run Ps m x.are_along [stepD a, stepD b] T = .ok (.bl (al a b)) false T := by
  rw [run_m hP.are_along (by omega)]
  exact r_along (kR hR (by omega)) hs ha hb
theorem k_short {m : Nat} (hm : 7 ≤ m) (T : Vf.TP) {p : List Vc} (h : PN s p) (hl : p.length ≤ 12) : Vf.run Ps m x.shortened [pathD p] T = .ok (pathD (shF p)) false T := by
  rw [run_m hP.shortened (by omega)]
  exact r_shortened (kR hR (by omega)) hs (fun T a b ha hb => k_along hR hS hP hs (by omega) T ha hb) (N := 1296) (B := 100000000) (by decide) (big (by decide)) (big (by decide)) hl h (k_chk hR hS hP hs (by omega) T ⟨hl, h.bd⟩)
theorem k_back {m : Nat} (hm : 7 ≤ m) (T : Vf.TP) {p : List Vc} (h : PN s p) (hl : p.length ≤ 12) : Vf.run Ps m x.back [pathD p] T = .ok (pathD (backF p)) false T := by
  rw [run_m hP.back (by omega)]
  exact r_back (kR hR (by omega)) hl (fun v hv => by rw [(h v hv).1]; rcases hs with rfl | rfl <;> decide) (k_chk hR hS hP hs (by omega) T ⟨hl, h.bd⟩)
theorem k_alike {m : Nat} (hm : 8 ≤ m) (T : Vf.TP) {p q : List Vc} (h : PN s p) (hl : p.length ≤ 12) (h2 : PN s q) (hl2 : q.length ≤ 12) : Vf.run Ps m x.are_alike [pathD p, pathD q] T = .ok (.bl (decide (shF p = shF q))) false T := by
  rw [run_m hP.are_alike (by omega)]
  exact r_alike (k_short hR hS hP hs (by omega) T h hl) (k_short hR hS hP hs (by omega) T h2 hl2)
theorem k_stepsum {m : Nat} (hm : 6 ≤ m) (T : Vf.TP) {a : Vc} (h1 : a.length ≤ 4) (h2 : ∀ j : Nat, j < a.length → [(j : Int)] ∈ W12 s) (h3 : ∀ r ∈ a, Nc 1296 100000000 r) : ∃ fl, Vf.run Ps m x.step_sum [stepD a] T = .ok (sD (canon (W12 s) (stepF a) fl)) false T := by
  have hw := wl12 s hs
  obtain ⟨fl, g⟩ := k_gath hR hS (m := m - 1) (by omega) T (ts := stT 0 a) (W := W12 s) (N := 1296) (B := 100000000) hw.srt (by have := hw.len; omega) (fun t ht => by
    obtain ⟨j, j1, j2, _⟩ := stT_mem ht
    rw [j2, Nat.zero_add]
    exact h2 j j1) (by decide) (big (by decide)) (fun t ht => by
    obtain ⟨j, j1, j2, j3⟩ := stT_mem ht
    exact h3 _ j3) (by rw [stT_len]; exact big (Nat.le_trans (Nat.mul_le_mul_right _ (show a.length + 1 ≤ 5 by omega)) (by decide))) (by rw [stT_len]; omega) (d := .lst (tms (stT 0 a))) rfl
  refine ⟨fl, ?_⟩
  rw [run_m hP.step_sum (by omega)]
  exact r_stepsum (by omega) g
theorem k_exp {m : Nat} (hm : 10 ≤ m) (T : Vf.TP) {a : Vc} (fl : List Int → Bool) (h : FB (W12 s) 1296 (4 * 100000000) (stepF a)) : ∃ gl, Vf.run Ps m x.exponential [sD (canon (W12 s) (stepF a) fl), .int 3] T = .ok (sD (canon (W12 s) (expF (stepF a) 3) gl)) false T := by
  rw [run_m hS.exponential (by omega)]
  exact r_exponential (kS hR hS (by omega)) (wl12 s hs) h ebd (stepF_nil a)
theorem k_sig {m : Nat} (hm : 11 ≤ m) (T : Vf.TP) {p : List Vc} (h : PN s p) (hl : p.length ≤ 9) : ∃ gl, Vf.run Ps m x.signature [pathD p, .int 3] T = .ok (sD (canon (W12 s) (sg p) gl)) false T := by
  rw [run_m hP.signature (by omega)]
  refine r_signature (kS hR hS (by omega)) (wl12 s hs) (N := 1296) (B := 100000000) (by decide) (big (by decide)) (big (by decide)) (sbd.le hl) (fun T a h1 h2 h3 => k_stepsum hR hS hP hs (by omega) T h1 h2 h3) (fun T a fl hf => k_exp hR hS hP hs (by omega) T fl hf) (k_chk hR hS hP hs (by omega) T ⟨by omega, h.bd⟩) (fun a ha => ⟨by rw [(h a ha).1]; omega, fun j hj => ?_, (h a ha).2⟩)
  rw [(h a ha).1] at hj
  exact w12_one s hs j hj
theorem k_unlike {m : Nat} (hm : 12 ≤ m) (T : Vf.TP) {p q : List Vc} (h : PN s p) (hl : p.length ≤ 9) (h2 : PN s q) (hl2 : q.length ≤ 9) : Vf.run Ps m x.first_unlike [pathD p, pathD q, .int 3] T = .ok (wD (unl (W12 s) (sg p) (sg q))) false T := by
  rw [run_m hP.first_unlike (by omega)]
  obtain ⟨g1, e1⟩ := k_sig hR hS hP hs (m := m - 1) (by omega) T h hl
  obtain ⟨g2, e2⟩ := k_sig hR hS hP hs (m := m - 1) (by omega) T h2 hl2
  obtain ⟨b1, b2, b3⟩ := be_ok
  obtain ⟨g3, e3⟩ := (kS hR hS (m := m - 1) (by omega)).minus T (W12 s) 3 (sg p) (sg q) g1 g2 _ BE BE (wl12 s hs) (FB_sg hs h hl) (FB_sg hs h2 hl2) b3 b2 b1
  rw [← head_unl (sg p) (sg q) g3]
  exact r_unlike e1 e2 e3
end
end Lb
namespace HL
open PySem PySem.Spec PyProof.Rows L2 Vf Lb

def X62 : IX where
  is_integer := 0
  is_ratio := 1
  divisor := 2
  make := 3
  sadd := 4
  radd := 5
  rmul := 6
  rneg := 7
  is_word := 8
  is_sum := 9
  check_sum := 10
  key := 11
  gathered := 12
  of_word := 13
  sone := 14
  sscaled := 15
  sminus := 16
  cut_product := 17
  number_at := 18
  check_depth := 19
  exponential := 20
  is_path := 21
  check_path := 22
  step_sum := 23
  signature := 24
  back := 25
  are_along := 26
  shortened := 27
  are_alike := 28
  first_unlike := 29
  l_same := 32
  l_frac := 33
  l_plus := 34
  l_by := 35
  l_over := 36
  l_number := 37
  l_words := 38
  l_all := 39
  l_step := 40
  l_path := 41
  l_worth := 42
  l_along := 43
  l_short := 44
  l_spoilt := 45
  l_draw := 31
  cBracketError := 0
  cBadNumber := 1
  cBadSum := 2
  cBadRow := 3
  cBadSize := 4
theorem hR : HasR Ps X62 := ⟨rfl, rfl, rfl, rfl, rfl, rfl, rfl⟩
theorem hS : HasS Ps X62 := ⟨rfl, rfl, rfl, rfl, rfl, rfl, rfl, rfl, rfl, rfl, rfl, rfl, rfl, rfl⟩
theorem hP : HasP Ps X62 := ⟨rfl, rfl, rfl, rfl, rfl, rfl, rfl, rfl, rfl⟩
theorem hL : HasL Ps X62 := ⟨rfl, rfl, rfl, rfl, rfl, rfl, rfl⟩
theorem hM : HasM Ps X62 := ⟨rfl, rfl, rfl, rfl, rfl, rfl, rfl, rfl⟩
abbrev R30 : FT := Vf.run Ps 30
section
variable {s : Nat} (hs : S12 s)
theorem f_draw (ds : List D) (T : Vf.TP) : R30 31 ds T = drawP ds T := (kL hL (by decide)).draw ds T
theorem f_number {m : Nat} (hm : 4 ≤ m) (T : Vf.TP) (hT : Lb.TOk T) : ∃ r T', Lb.TOk T' ∧ Nc 6 24 r ∧ Vf.run Ps m 37 [.tape] T = .ok (rD false r) false T' := by
  obtain ⟨r, T', h1, h2, h3⟩ := r_number (x := X62) (kL hL (m := m - 1) (by omega)) hT
  exact ⟨r, T', h1, h2, by rw [run_m (i := 37) hM_number (by omega)]; exact h3⟩
where hM_number : Ps[37]? = some (.body (B_l_number X62)) := rfl
include hs
theorem f_step {m : Nat} (hm : 5 ≤ m) (T : Vf.TP) (hT : Lb.TOk T) : ∃ a T', Lb.TOk T' ∧ a.length = s ∧ (∀ r ∈ a, Nc 6 24 r) ∧ Vf.run Ps m 40 [.tape, .int (s : Nat)] T = .ok (stepD a) false T' := by
  obtain ⟨a, T', h1, h2, h3, h4⟩ := r_step (x := X62) (fun T hT => f_number (m := m - 1) (by omega) T hT) (s := s) (by omega) hT
  exact ⟨a, T', h1, h2, h3, by rw [run_m (i := 40) hM.l_step (by omega)]; exact h4⟩
theorem f_path (T : Vf.TP) (hT : Lb.TOk T) : ∃ p T', Lb.TOk T' ∧ p.length ≤ 3 ∧ (∀ a ∈ p, Dn s a) ∧ R30 41 [.tape, .int (s : Nat), .int 3] T = .ok (pathD p) false T' := by
  obtain ⟨p, T', h1, h2, h3, h4⟩ := r_path (x := X62) (F := Vf.run Ps 29) (s := s) (kL hL (by decide)).draw (fun T hT => f_step hs (by decide) T hT) (k := 3) (by decide) hT
  exact ⟨p, T', h1, h2, h3, by rw [show R30 41 _ T = _ from run_m (i := 41) hM.l_path (by decide) _ T]; exact h4⟩
theorem f_spoilt {Q : List Vc} (hQ : ∀ a ∈ Q, Dn s a) (hl : Q.length ≤ 4) (T : Vf.TP) (hT : Lb.TOk T) : ∃ q T', Lb.TOk T' ∧ Eqv s q Q ∧ PN s q ∧ q.length ≤ Q.length + 6 ∧ R30 45 [.tape, pathD Q, .int (s : Nat)] T = .ok (pathD q) false T' := by
  obtain ⟨q, T', h1, h2, h3, h4, h5⟩ := r_spoilt (x := X62) (F := Vf.run Ps 29) (kL hL (by decide)) hs (fun T hT => f_number (by decide) T hT) (fun T hT => f_step hs (by decide) T hT) hQ hl hT
  exact ⟨q, T', h1, h2, pn_of (k := 216) (by decide) (by decide) h3, h4, by rw [show R30 45 _ T = _ from run_m (i := 45) hM.l_spoilt (by decide) _ T]; exact h5⟩
theorem f_lalong {m : Nat} (hm : 4 ≤ m) (T : Vf.TP) {a b : Vc} (ha : SOk s a) (hb : SOk s b) : Vf.run Ps m 43 [stepD a, stepD b] T = .ok (.bl (al a b)) false T := by
  rw [run_m (i := 43) hM.l_along (by omega)]
  exact r_lalong (x := X62) (kL hL (by omega)) hs ha hb
theorem f_short (T : Vf.TP) {p : List Vc} (hl : p.length ≤ 12) (hp : ∀ a ∈ p, Dn s a) : R30 44 [pathD p] T = .ok (pathD (shF p)) false T ∧ PN s (shF p) ∧ (shF p).length ≤ p.length := by
  obtain ⟨h1, h2, h3⟩ := r_short (x := X62) (F := Vf.run Ps 29) (T := T) (kL hL (by decide)) hs (fun a b ha hb => f_lalong hs (by decide) T ha hb) (B := 24) (big (by decide)) hl hp
  exact ⟨by rw [show R30 44 _ T = _ from run_m (i := 44) hM.l_short (by decide) _ T]; exact h1, pn_6 (by decide) h2, h3⟩
omit hs
theorem f_same (T : Vf.TP) {d e : D} (h : simB 4 d e = true) : R30 32 [d, e] T = .ok (.bl true) false T := k_same hL T 4 30 d e (by decide) h
theorem sim_up {d e : D} (h : simB 3 d e = true) : R30 32 [d, e] T = .ok (.bl true) false T := k_same hL T 3 30 d e (by decide) h
include hs
theorem f_samepath (T : Vf.TP) {p : List Vc} (hl : p.length ≤ 12) (hp : PN s p) : R30 32 [pathD p, pathD p] T = .ok (.bl true) false T := sim_up (sim_pathD (by omega) fun a ha => by rw [(hp a ha).1]; omega)
def unw (f g : List Int → Rat) : Option (List Int) → List (List Int) → Option (List Int)
  | o, [] => o
  | none, w :: r => unw f g (if f w = g w then none else some w) r
  | some v, _ :: r => unw f g (some v) r
omit hs in
theorem unw_some (f g : List Int → Rat) (v : List Int) : ∀ W, unw f g (some v) W = some v
  | [] => rfl
  | _ :: r => unw_some f g v r
omit hs in
theorem unw_eq (f g : List Int → Rat) : ∀ W, unw f g none W = unl W f g
  | [] => rfl
  | w :: r => by
    show unw f g (if f w = g w then none else some w) r = _
    unfold unl
    rw [List.find?_cons]
    by_cases h : f w = g w
    · rw [if_pos h, decide_eq_false (by simp [h])]
      exact unw_eq f g r
    · rw [if_neg h, decide_eq_true h, unw_some]
abbrev WB62 : Sxs := .cons (.ite (.and (.prim (.isN true) (.cons (.var 7) .nil)) (.prim (.cmp .NotEq) (.cons (.call 42 (.cons (.var 3) (.cons (.var 8) .nil))) (.cons (.call 42 (.cons (.var 6) (.cons (.var 8) .nil))) .nil)))) (.cons (.set 7 (.var 8))
  .nil) .nil)
  .nil
omit hs in
theorem isN_w (o : Option (List Int)) : isND true (wD o) = some (.bl o.isNone, false) := by cases o <;> rfl
theorem w_loop {F : FT} {T : Vf.TP} {P Q : List Vc} : ∀ (W : List (List Int)), (∀ w ∈ W, F 42 [pathD P, wordD w] T = .ok (rD false (wth P w)) false T ∧ F 42 [pathD Q, wordD w] T = .ok (rD false (wth Q w)) false T) → ∀ (o : Option (List Int)) (y : Option (Bool × D)) {p0 p1 p2 p4 p5 : Option (Bool × D)},
    ∃ y', forL [8] (evSs F WB62) (wsD W) ⟨[p0, p1, p2, some (false, pathD P), p4, p5, some (false, pathD Q), some (false, wD o), y], T⟩ = .ok .nx ⟨[p0, p1, p2, some (false, pathD P), p4, p5, some (false, pathD Q), some (false, wD (unw (wth P) (wth Q) o W)), y'], T⟩
  | [], _, o, y, p0, p1, p2, p4, p5 => ⟨y, by cases o <;> rfl⟩
  | w :: W, h, o, y, p0, p1, p2, p4, p5 => by
    obtain ⟨h1, h2⟩ := h w (List.mem_cons_self ..)
    have hr : ∀ o, ∃ y', forL [8] (evSs F WB62) (wsD W) ⟨[p0, p1, p2, some (false, pathD P), p4, p5, some (false, pathD Q), some (false, wD o), some (false, wordD w)], T⟩ = .ok .nx ⟨[p0, p1, p2, some (false, pathD P), p4, p5, some (false, pathD Q), some (false, wD (unw (wth P) (wth Q) o W)), y'], T⟩ := fun o => w_loop W (fun v hv => h v (List.mem_cons_of_mem _ hv)) o _
    have he := eqR (wth P w) (wth Q w)
    show ∃ y', forL [8] _ (wordD w :: wsD W) _ = _
    have eand : ∀ a b : Ex, evE F (.and a b) = bnd (bnd (evE F a) Vf.isB) fun x => if x then evE F b else Vf.ret (.bl false, false) := fun a b => by conv => lhs; unfold evE
    have hn := isN_w o
    have c1 : evE F (.prim (.isN true) (.cons (.var 7) .nil)) ⟨[p0, p1, p2, some (false, pathD P), p4, p5, some (false, pathD Q), some (false, wD o), some (false, wordD w)], T⟩ = .ok (.bl o.isNone, false) ⟨[p0, p1, p2, some (false, pathD P), p4, p5, some (false, pathD Q), some (false, wD o), some (false, wordD w)], T⟩ := by
      generalize wD o = O at hn ⊢
      dsimp! [hn]
    have c2 : evE F (.prim (.cmp .NotEq) (.cons (.call 42 (.cons (.var 3) (.cons (.var 8) .nil))) (.cons (.call 42 (.cons (.var 6) (.cons (.var 8) .nil))) .nil))) ⟨[p0, p1, p2, some (false, pathD P), p4, p5, some (false, pathD Q), some (false, wD o), some (false, wordD w)], T⟩ = .ok (.bl (!decide (wth P w = wth Q w)), false) ⟨[p0, p1, p2, some (false, pathD P), p4, p5, some (false, pathD Q), some (false, wD o), some (false, wordD w)], T⟩ := by
      generalize rD false (wth P w) = R1 at h1 he
      generalize rD false (wth Q w) = R2 at h2 he
      generalize pathD P = A at h1 ⊢
      generalize pathD Q = B at h2 ⊢
      generalize wordD w = V at h1 h2 ⊢
      generalize wD o = O
      dsimp! [h1, h2, he]
    cases o with
    | some v =>
      obtain ⟨y', g⟩ := hr (some v)
      refine ⟨y', for_cons (s1 := ⟨[p0, p1, p2, some (false, pathD P), p4, p5, some (false, pathD Q), some (false, wD (some v)), some (false, wordD w)], T⟩) (by dsimp!) (st_cons (st_ite_f (fr := false) (s1 := ⟨[p0, p1, p2, some (false, pathD P), p4, p5, some (false, pathD Q), some (false, wD (some v)), some (false, wordD w)], T⟩) ?_ st_end) st_end) g⟩
      rw [eand, u_bnd, bnd_B c1]; rfl
    | none =>
      by_cases hq : wth P w = wth Q w
      · obtain ⟨y', g⟩ := hr none
        refine ⟨y', ?_⟩
        rw [show unw (wth P) (wth Q) none (w :: W) = unw (wth P) (wth Q) none W by show unw _ _ (if _ then _ else _) W = _; rw [if_pos hq]]
        refine for_cons (s1 := ⟨[p0, p1, p2, some (false, pathD P), p4, p5, some (false, pathD Q), some (false, wD none), some (false, wordD w)], T⟩) (by dsimp!) (st_cons (st_ite_f (fr := false) (s1 := ⟨[p0, p1, p2, some (false, pathD P), p4, p5, some (false, pathD Q), some (false, wD none), some (false, wordD w)], T⟩) ?_ st_end) st_end) g
        rw [eand, u_bnd, bnd_B c1]
        show evE F _ _ = _
        rw [c2, decide_eq_true hq]; rfl
      · obtain ⟨y', g⟩ := hr (some w)
        refine ⟨y', ?_⟩
        rw [show unw (wth P) (wth Q) none (w :: W) = unw (wth P) (wth Q) (some w) W by show unw _ _ (if _ then _ else _) W = _; rw [if_neg hq]]
        refine for_cons (s1 := ⟨[p0, p1, p2, some (false, pathD P), p4, p5, some (false, pathD Q), some (false, wD none), some (false, wordD w)], T⟩) (by dsimp!) (st_cons (st_ite_t (fr := false) (s1 := ⟨[p0, p1, p2, some (false, pathD P), p4, p5, some (false, pathD Q), some (false, wD none), some (false, wordD w)], T⟩) ?_ (st_cons (s1 := ⟨[p0, p1, p2, some (false, pathD P), p4, p5, some (false, pathD Q), some (false, wD (some w)), some (false, wordD w)], T⟩) ?_ st_end)) st_end) g
        · rw [eand, u_bnd, bnd_B c1]
          show evE F _ _ = _
          rw [c2, decide_eq_false hq]; rfl
        · show evS F _ _ = .ok .nx ⟨[p0, p1, p2, some (false, pathD P), p4, p5, some (false, pathD Q), some (false, wordD w), some (false, wordD w)], T⟩
          generalize wordD w = V
          dsimp!
end
end HL
namespace HL
open PySem PySem.Spec PyProof.Rows L2 Vf Lb

theorem unl_none {s : Nat} (hs : S12 s) {p q : List Vc} (h : Eqv s p q) : unl (W12 s) (sg p) (sg q) = none := by
  unfold unl
  rw [List.find?_eq_none]
  intro w hw
  simp [eqv_sig hs h w (w12_len s hs w hw)]
theorem unl_wth {s : Nat} (hs : S12 s) (p q : List Vc) : unl (W12 s) (sg p) (sg q) = unl (W12 s) (wth p) (wth q) := by
  unfold unl
  have : ∀ W : List (List Int), (∀ w ∈ W, w.length ≤ 3) → W.find? (fun w => decide (sg p w ≠ sg q w)) = W.find? fun w => decide (wth p w ≠ wth q w) := by
    intro W
    induction W with
    | nil => intro _; rfl
    | cons w W ih =>
      intro h
      rw [List.find?_cons, List.find?_cons, sg_wth p w (h w (List.mem_cons_self ..)), sg_wth q w (h w (List.mem_cons_self ..)), ih fun v hv => h v (List.mem_cons_of_mem _ hv)]
  exact this _ (w12_len s hs)
abbrev tp : Option (Bool × D) := some (false, .tape)
theorem math : ∀ ns : List Int, ns.length ≤ 63 → ∃ fr s', evSs (Vf.run Ps 30) bl_law (lawS n_law.length 1 ns) = .ok (.rt (.bl true) fr) s' := fun ns _ => by
  obtain ⟨p1, p2⟩ := seedF_small ns 7 (by decide) (by decide)
  have hT : Lb.TOk (some (ns.map absI, seedF 7 ns + 1)) := ⟨_, _, rfl, by omega, by omega⟩
  have hS0 : lawS n_law.length 1 ns = ⟨[none, tp, none, none, none, none, none, none, none], some (ns.map absI, seedF 7 ns + 1)⟩ := rfl
  rw [hS0]
  generalize (some (ns.map absI, seedF 7 ns + 1) : Vf.TP) = T0 at hT
  obtain ⟨v, T1, t1, v1, v2, d1⟩ := drawn_ok hT (m := 2) (by decide) (by decide)
  obtain ⟨s, hsv⟩ : ∃ s : Nat, 1 + v = (s : Int) := ⟨(1 + v).toNat, by omega⟩
  have hs : S12 s := by
    have : s = 1 ∨ s = 2 := by omega
    exact this
  obtain ⟨P, T2, t2, lP, dP, eP⟩ := f_path hs T1 t1
  obtain ⟨q, T3, t3, qP, pq, lq, eq⟩ := f_spoilt hs dP (by omega) T2 t2
  obtain ⟨eD, pD, lD⟩ := f_short hs T3 (p := P) (by omega) dP
  have pP : PN s P := pn_6 (B := 24) (by decide) dP
  have shq : shF q = shF P := eqv_sh hs qP
  have rD0 : Red s (shF P).reverse := sh_red hs pP.vs
  have shD : shF (shF P) = shF P := red_sh hs rD0
  have hvD : Eqv s P (shF P) := eqv_self hs pP.vs
  have bq : PN s (backF q) := pq.back hs
  have lbq : (backF q).length = q.length := by unfold backF; rw [List.length_map, List.length_reverse]
  have lbP : (backF P).length = P.length := by unfold backF; rw [List.length_map, List.length_reverse]
  have lbD : (backF (shF P)).length = (shF P).length := by unfold backF; rw [List.length_map, List.length_reverse]
  have shbq : shF (backF q) = backF (shF P) := sh_of hs (eqv_back hs (.tr qP hvD)) (red_back hs rD0)
  have pqb : PN s (q ++ backF P) := pq.app (pP.back hs)
  have shqb : shF (q ++ backF P) = [] := by
    have h1 : Eqv s (q ++ backF P) [] := .tr (qP.post _ (back_vs pP.vs)) (eqv_inv hs pP.vs)
    rw [eqv_sh hs h1]
    rfl
  obtain ⟨u, T4, t4, u1, u2, d4⟩ := drawn_ok t3 (m := 2) (by decide) (by decide)
  obtain ⟨F, hF⟩ : ∃ F, F = Vf.run Ps 30 := ⟨_, rfl⟩
  have e1 : F 31 [.tape, .int 2] T0 = .ok (.int v) false T1 := by rw [hF]; exact (f_draw _ _).trans d1
  have e2 : F 41 [.tape, .int (s : Nat), .int 3] T1 = .ok (pathD P) false T2 := by rw [hF]; exact eP
  have e3 : F 45 [.tape, pathD P, .int (s : Nat)] T2 = .ok (pathD q) false T3 := by rw [hF]; exact eq
  have e4 : F 44 [pathD P] T3 = .ok (pathD (shF P)) false T3 := by rw [hF]; exact eD
  have e5 : F 27 [pathD P] T3 = .ok (pathD (shF P)) false T3 := by rw [hF]; exact k_short (x := X62) hR hS hP hs (by decide) T3 pP (by omega)
  have e6 : F 27 [pathD q] T3 = .ok (pathD (shF P)) false T3 := by rw [hF, ← shq]; exact k_short (x := X62) hR hS hP hs (by decide) T3 pq (by omega)
  have e7 : F 27 [pathD (shF P)] T3 = .ok (pathD (shF P)) false T3 := by
    have := k_short (x := X62) hR hS hP hs (m := 30) (by decide) T3 pD (by omega)
    rw [shD] at this
    rw [hF]; exact this
  have e8 : F 32 [pathD (shF P), pathD (shF P)] T3 = .ok (.bl true) false T3 := by rw [hF]; exact f_samepath hs T3 (by omega) pD
  have e9 : F 28 [pathD P, pathD q] T3 = .ok (.bl true) false T3 := by
    have := k_alike (x := X62) hR hS hP hs (m := 30) (by decide) T3 pP (by omega) pq (by omega)
    rw [shq, decide_eq_true rfl] at this
    rw [hF]; exact this
  have e10 : F 29 [pathD P, pathD q, .int 3] T3 = .ok .non false T3 := by
    have := k_unlike (x := X62) hR hS hP hs (m := 30) (by decide) T3 pP (by omega) pq (by omega)
    rw [unl_none hs (.sym qP)] at this
    rw [hF]; exact this
  have e11 : F 32 [.non, .non] T3 = .ok (.bl true) false T3 := by rw [hF]; exact sim_up rfl
  obtain ⟨g1, e12⟩ : ∃ g1, F 24 [pathD q, .int 3] T3 = .ok (sD (canon (W12 s) (sg q) g1)) false T3 := by rw [hF]; exact k_sig (x := X62) hR hS hP hs (by decide) T3 pq (by omega)
  obtain ⟨g2, e13⟩ : ∃ g2, F 24 [pathD P, .int 3] T3 = .ok (sD (canon (W12 s) (sg P) g2)) false T3 := by rw [hF]; exact k_sig (x := X62) hR hS hP hs (by decide) T3 pP (by omega)
  have wl := wl12 s hs
  have e14 : F 32 [sD (canon (W12 s) (sg q) g1), sD (canon (W12 s) (sg P) g2)] T3 = .ok (.bl true) false T3 := by
    have : canon (W12 s) (sg q) g1 = canon (W12 s) (sg P) g1 := canon_congr g1 fun w hw => eqv_sig hs qP w (w12_len s hs w hw)
    rw [this, hF]
    exact sim_up (sim_canon g1 g2 (fun w hw => by have := w12_len s hs w hw; omega) (by have := wl.len; omega))
  have e15 : F 25 [pathD q] T3 = .ok (pathD (backF q)) false T3 := by rw [hF]; exact k_back (x := X62) hR hS hP hs (by decide) T3 pq (by omega)
  have e16 : F 27 [pathD (backF q)] T3 = .ok (pathD (backF (shF P))) false T3 := by
    have := k_short (x := X62) hR hS hP hs (m := 30) (by decide) T3 bq (by omega)
    rw [shbq] at this
    rw [hF]; exact this
  have e17 : F 25 [pathD (shF P)] T3 = .ok (pathD (backF (shF P))) false T3 := by rw [hF]; exact k_back (x := X62) hR hS hP hs (by decide) T3 pD (by omega)
  have e18 : F 32 [pathD (backF (shF P)), pathD (backF (shF P))] T3 = .ok (.bl true) false T3 := by rw [hF]; exact f_samepath hs T3 (by omega) (pD.back hs)
  have e19 : F 25 [pathD P] T3 = .ok (pathD (backF P)) false T3 := by rw [hF]; exact k_back (x := X62) hR hS hP hs (by decide) T3 pP (by omega)
  have padd : ∀ a b : List Vc, a.length + b.length ≤ 1000 → addD (pathD a) (pathD b) = some (pathD (a ++ b), false) := fun a b h => by
    show (if fits ((stepDs a).length + (stepDs b).length) then some (D.tup (stepDs a ++ stepDs b), false) else none) = _
    rw [if_pos (fits_small (by rw [stepDs_len, stepDs_len]; omega))]
    unfold pathD stepDs
    rw [List.map_append]
  have e20 := padd q (backF P) (by omega)
  have e21 : F 27 [pathD (q ++ backF P)] T3 = .ok (.tup []) false T3 := by
    have := k_short (x := X62) hR hS hP hs (m := 30) (by decide) T3 pqb (by rw [List.length_append]; omega)
    rw [shqb] at this
    rw [hF]; exact this
  have e22 : F 32 [.tup [], .tup []] T3 = .ok (.bl true) false T3 := by rw [hF]; exact sim_up rfl
  have e23 : F 31 [.tape, .int 2] T3 = .ok (.int u) false T4 := by rw [hF]; exact (f_draw _ _).trans d4
  have ef0 : fits 0 = true := by decide
  obtain ⟨Q, T5, t5, lQ, dQ, e24⟩ : ∃ Q T5, Lb.TOk T5 ∧ Q.length ≤ 4 ∧ (∀ a ∈ Q, Dn s a) ∧ evS F (.set 6 (.ite (.prim (.cmp .Eq) (.cons (.call 31 (.cons (.var 1) (.cons (.cst (.int (2))) .nil))) (.cons (.cst (.int (0))) .nil))) (.call 41 (.cons (.var 1) (.cons (.var 2) (.cons (.cst (.int (3))) .nil)))) (.prim (.bin .Add) (.cons (.prim (.sl false true) (.cons (.var 3) (.cons (.cst (.int (1))) .nil))) (.cons (.var 3) .nil))))) ⟨[none, tp, some (false, .int (s : Nat)), some (false, pathD P), some (false, pathD q), some (false, pathD (shF P)), none, none, none], T3⟩ = .ok .nx ⟨[none, tp, some (false, .int (s : Nat)), some (false, pathD P), some (false, pathD q), some (false, pathD (shF P)), some (false, pathD Q), none, none], T5⟩ := by
    rcases (show u = 0 ∨ u = 1 by omega) with rfl | rfl
    · obtain ⟨Q, T5, t5, lQ, dQ, eQ⟩ := f_path hs T4 t4
      have eQ' : F 41 [.tape, .int (s : Nat), .int 3] T4 = .ok (pathD Q) false T5 := by rw [hF]; exact eQ
      refine ⟨Q, T5, t5, by omega, dQ, ?_⟩
      dsimp! [e23, eQ']
    · refine ⟨P.take 1 ++ P, T4, t4, ?_, fun a ha => (List.mem_append.mp ha).elim (fun h => dP a (List.mem_of_mem_take h)) (dP a), ?_⟩
      · rw [List.length_append, List.length_take]; omega
      · have hsl : slD none (some 1) (pathD P) = some (pathD (P.take 1), false) := by
          have h1 : cutD none (some (1 : Int)) (stepDs P) = (stepDs P).take 1 := cut_hi (stepDs P) 1
          show some (D.tup (cutD none (some 1) (stepDs P)), false) = _
          rw [h1, stepDs_take]; rfl
        have ha := padd (P.take 1) P (by rw [List.length_take]; omega)
        generalize pathD (P.take 1 ++ P) = A at ha ⊢
        generalize pathD (P.take 1) = B at ha hsl
        generalize pathD P = C at ha hsl ⊢
        have h10 : decide ((1 : Int) = 0) = false := rfl
        dsimp! [-addD, slArgs, e23, hsl, ha, h10]
  have pQ : PN s Q := pn_6 (B := 24) (by decide) dQ
  obtain ⟨eD2, pD2, lD2⟩ := f_short hs T5 (p := Q) (by omega) dQ
  have e25 : F 28 [pathD P, pathD Q] T5 = .ok (.bl (decide (shF P = shF Q))) false T5 := by rw [hF]; exact k_alike (x := X62) hR hS hP hs (by decide) T5 pP (by omega) pQ (by omega)
  have e26 : F 44 [pathD Q] T5 = .ok (pathD (shF Q)) false T5 := by rw [hF]; exact eD2
  have e27 := eqP (shF P) (shF Q)
  have e28 : ∀ b : Bool, F 32 [.bl b, .bl b] T5 = .ok (.bl true) false T5 := fun b => by rw [hF]; exact sim_up (by cases b <;> rfl)
  have e29 : F 39 [.int (s : Nat), .int 3] T5 = .ok (.lst (wsD (W12 s))) true T5 := by rw [hF]; exact k_all (x := X62) hM T5 (by decide) s hs
  have e30 : F 29 [pathD P, pathD Q, .int 3] T5 = .ok (wD (unl (W12 s) (wth P) (wth Q))) false T5 := by
    have := k_unlike (x := X62) hR hS hP hs (m := 30) (by decide) T5 pP (by omega) pQ (by omega)
    rw [unl_wth hs] at this
    rw [hF]; exact this
  have e31 : F 32 [wD (unl (W12 s) (wth P) (wth Q)), wD (unl (W12 s) (wth P) (wth Q))] T5 = .ok (.bl true) false T5 := by
    rw [hF]
    cases h : unl (W12 s) (wth P) (wth Q) with
    | none => exact sim_up rfl
    | some w =>
      have hw : w ∈ W12 s := List.mem_of_find?_eq_some h
      exact sim_up (sim_w (by have := w12_len s hs w hw; omega) 2)
  have hwl : ∀ w ∈ W12 s, F 42 [pathD P, wordD w] T5 = .ok (rD false (wth P w)) false T5 ∧ F 42 [pathD Q, wordD w] T5 = .ok (rD false (wth Q w)) false T5 := fun w hw => by
    rw [hF]
    exact ⟨k_worth (x := X62) hL hM T5 hs 3 30 P w (by decide) (w12_len s hs w hw) (by decide) (by omega) dP (w12_let s hs w hw), k_worth (x := X62) hL hM T5 hs 3 30 Q w (by decide) (w12_len s hs w hw) (by decide) (by omega) dQ (w12_let s hs w hw)⟩
  obtain ⟨y8, e32⟩ := w_loop (F := F) (T := T5) (P := P) (Q := Q) hs (W12 s) hwl none none (p0 := none) (p1 := tp) (p2 := some (false, .int (s : Nat))) (p4 := some (false, pathD q)) (p5 := some (false, pathD (shF P)))
  rw [unw_eq] at e32
  have hfound : unl (W12 s) (wth P) (wth Q) ≠ none → shF P ≠ shF Q := fun h e => h (by
    rw [← unl_wth hs]
    refine unl_none hs (.tr hvD ?_)
    rw [e]
    exact .sym (eqv_self hs pQ.vs))
  rw [← hF]
  refine ⟨false, ⟨[none, tp, some (false, .int (s : Nat)), some (false, pathD P), some (false, pathD q), some (false, pathD (shF P)), some (false, pathD Q), some (false, wD (unl (W12 s) (wth P) (wth Q))), y8], T5⟩, ?_⟩
  refine st_cons (s1 := ⟨[none, tp, some (false, .int (s : Nat)), none, none, none, none, none, none], T1⟩) ?_ ?_
  · dsimp! [e1, hsv]
  refine st_cons (s1 := ⟨[none, tp, some (false, .int (s : Nat)), some (false, pathD P), none, none, none, none, none], T2⟩) ?_ ?_
  · dsimp! [e2]
  refine st_cons (s1 := ⟨[none, tp, some (false, .int (s : Nat)), some (false, pathD P), some (false, pathD q), some (false, pathD (shF P)), none, none, none], T3⟩) ?_ ?_
  · dsimp! [e3, e4]
  refine st_cons (s1 := ⟨[none, tp, some (false, .int (s : Nat)), some (false, pathD P), some (false, pathD q), some (false, pathD (shF P)), none, none, none], T3⟩) ?_ ?_
  · dsimp! [e5, e6, e7, e8]
  refine st_cons (s1 := ⟨[none, tp, some (false, .int (s : Nat)), some (false, pathD P), some (false, pathD q), some (false, pathD (shF P)), none, none, none], T3⟩) ?_ ?_
  · dsimp! [e9, e10, e11, e12, e13, e14, isBD]
    rfl
  refine st_cons (s1 := ⟨[none, tp, some (false, .int (s : Nat)), some (false, pathD P), some (false, pathD q), some (false, pathD (shF P)), none, none, none], T3⟩) ?_ ?_
  · generalize pathD (q ++ backF P) = A1 at e20 e21
    generalize pathD (backF P) = A2 at e20 e19
    generalize pathD (backF (shF P)) = A3 at e16 e17 e18
    generalize pathD (backF q) = A4 at e15 e16
    generalize pathD (shF P) = A5 at e17 ⊢
    generalize pathD q = A6 at e15 e20 ⊢
    generalize pathD P = A7 at e19 ⊢
    dsimp! [-addD, e15, e16, e17, e18, e19, e20, e21, e22, ef0]
  refine st_cons e24 ?_
  refine st_cons (s1 := ⟨[none, tp, some (false, .int (s : Nat)), some (false, pathD P), some (false, pathD q), some (false, pathD (shF P)), some (false, pathD Q), none, none], T5⟩) ?_ ?_
  · generalize decide (shF P = shF Q) = b at e25 e27
    have e28b := e28 b
    generalize pathD (shF P) = A5 at e27 ⊢
    generalize pathD (shF Q) = A6 at e26 e27
    generalize pathD P = A7 at e25 ⊢
    generalize pathD Q = A8 at e25 e26 ⊢
    generalize pathD q = A9
    dsimp! [e25, e26, e27, e28b]
  refine st_cons (s1 := ⟨[none, tp, some (false, .int (s : Nat)), some (false, pathD P), some (false, pathD q), some (false, pathD (shF P)), some (false, pathD Q), some (false, wD none), none], T5⟩) ?_ ?_
  · show evS F _ _ = .ok .nx ⟨[none, tp, some (false, .int (s : Nat)), some (false, pathD P), some (false, pathD q), some (false, pathD (shF P)), some (false, pathD Q), some (false, .non), none], T5⟩
    dsimp!
  refine st_cons (st_for (s0 := ⟨[none, tp, some (false, .int (s : Nat)), some (false, pathD P), some (false, pathD q), some (false, pathD (shF P)), some (false, pathD Q), some (false, wD none), none], T5⟩) (ds := wsD (W12 s)) ?_ e32) ?_
  · generalize wD none = N
    dsimp! [e29]
  refine st_cons (s1 := ⟨[none, tp, some (false, .int (s : Nat)), some (false, pathD P), some (false, pathD q), some (false, pathD (shF P)), some (false, pathD Q), some (false, wD (unl (W12 s) (wth P) (wth Q))), y8], T5⟩) ?_ ?_
  · generalize wD (unl (W12 s) (wth P) (wth Q)) = N at e30 e31 ⊢
    dsimp! [e30, e31]
  refine st_last (st_ret (x := (.bl true, false)) (fun _ h => by cases h) ?_)
  have eor : ∀ a b : Ex, evE F (.or a b) = bnd (bnd (evE F a) Vf.isB) fun x => if x then Vf.ret (.bl true, false) else evE F b := fun a b => by conv => lhs; unfold evE
  have hn := isN_w (unl (W12 s) (wth P) (wth Q))
  have c1 : evE F (.prim (.isN true) (.cons (.var 7) .nil)) ⟨[none, tp, some (false, .int (s : Nat)), some (false, pathD P), some (false, pathD q), some (false, pathD (shF P)), some (false, pathD Q), some (false, wD (unl (W12 s) (wth P) (wth Q))), y8], T5⟩ = .ok (.bl (unl (W12 s) (wth P) (wth Q)).isNone, false) ⟨[none, tp, some (false, .int (s : Nat)), some (false, pathD P), some (false, pathD q), some (false, pathD (shF P)), some (false, pathD Q), some (false, wD (unl (W12 s) (wth P) (wth Q))), y8], T5⟩ := by
    generalize wD (unl (W12 s) (wth P) (wth Q)) = N at hn ⊢
    dsimp! [hn]
  rw [eor, u_bnd, bnd_B c1]
  cases h : unl (W12 s) (wth P) (wth Q) with
  | none => rfl
  | some w =>
    rw [decide_eq_false (hfound (by rw [h]; intro z; cases z))] at e25
    show evE F (.prim (.isB false true) (.cons (.call 28 (.cons (.var 3) (.cons (.var 6) .nil))) .nil)) _ = _
    generalize pathD P = A7 at e25 ⊢
    generalize pathD Q = A8 at e25 ⊢
    dsimp! [e25, isBD]
    rfl
end HL
namespace HL
open PySem PySem.Spec PyProof.Rows L2 Vf
theorem exb_ZERO {K : PySem.W.Frag} (more : exB K = true) : He.tupB K "ZERO" (([0, 1] : List Int).map He.Dv.int) = true := (Bool.and_eq_true_iff.mp more).1
theorem exb_ONE {K : PySem.W.Frag} (more : exB K = true) : He.tupB K "ONE" (([1, 1] : List Int).map He.Dv.int) = true := (Bool.and_eq_true_iff.mp more).2
section
variable {P : Program} {w : World} {K : PySem.W.Frag} {h : Heap} {mg : Str → Option Value} (X : K.In h) (G : h.Ns mainGlobals mg) (c : He.SaysD fa fn K) (more : exB K = true) (base : Heap)
include X G c
theorem d_is_integer : ∃ f, mg ("is_integer" : Str) = some (.ref f) ∧ DefIn Ct P w K mg base Ps 0 f := by
  obtain ⟨fd, F_is_integer⟩ := c.def_ 0 (d := ⟨("is_integer", none), "is_integer", "is_integer", defArgs (top 9), defBody (top 9), defScope (top 9), [], []⟩) (by kernel_rfl)
  exact ⟨He.ga K "is_integer", He.glo_ok X G (c.fact 12 (f := .glo "is_integer") (by kernel_rfl)), ⟨⟨fd, p_is_integer, by kernel_rfl, F_is_integer.kp, (F_is_integer.bindsN fun _ _ _ _ _ _ us hl => match us, hl with | [_], _ => rfl), .inl ⟨b_is_integer, n_is_integer, _, _, _, _, _, _, _, by kernel_rfl, F_is_integer, s_is_integer, c_is_integer⟩⟩⟩⟩
theorem d_is_ratio : ∃ f, mg ("is_ratio" : Str) = some (.ref f) ∧ DefIn Ct P w K mg base Ps 1 f := by
  obtain ⟨fd, F_is_ratio⟩ := c.def_ 1 (d := ⟨("is_ratio", none), "is_ratio", "is_ratio", defArgs (top 10), defBody (top 10), defScope (top 10), [], []⟩) (by kernel_rfl)
  exact ⟨He.ga K "is_ratio", He.glo_ok X G (c.fact 13 (f := .glo "is_ratio") (by kernel_rfl)), ⟨⟨fd, p_is_ratio, by kernel_rfl, F_is_ratio.kp, (F_is_ratio.bindsN fun _ _ _ _ _ _ us hl => match us, hl with | [_], _ => rfl), .inl ⟨b_is_ratio, n_is_ratio, _, _, _, _, _, _, _, by kernel_rfl, F_is_ratio, s_is_ratio, c_is_ratio⟩⟩⟩⟩
theorem d_divisor : ∃ f, mg ("divisor" : Str) = some (.ref f) ∧ DefIn Ct P w K mg base Ps 2 f := by
  obtain ⟨fd, F_divisor⟩ := c.def_ 2 (d := ⟨("divisor", none), "divisor", "divisor", defArgs (top 11), defBody (top 11), defScope (top 11), [], []⟩) (by kernel_rfl)
  exact ⟨He.ga K "divisor", He.glo_ok X G (c.fact 14 (f := .glo "divisor") (by kernel_rfl)), ⟨⟨fd, p_divisor, by kernel_rfl, F_divisor.kp, (F_divisor.bindsN fun _ _ _ _ _ _ us hl => match us, hl with | [_, _], _ => rfl), .inl ⟨b_divisor, n_divisor, _, _, _, _, _, _, _, by kernel_rfl, F_divisor, s_divisor, c_divisor⟩⟩⟩⟩
theorem d_make : ∃ f, mg ("make" : Str) = some (.ref f) ∧ DefIn Ct P w K mg base Ps 3 f := by
  obtain ⟨fd, F_make⟩ := c.def_ 3 (d := ⟨("make", none), "make", "make", defArgs (top 12), defBody (top 12), defScope (top 12), [], []⟩) (by kernel_rfl)
  exact ⟨He.ga K "make", He.glo_ok X G (c.fact 15 (f := .glo "make") (by kernel_rfl)), ⟨⟨fd, p_make, by kernel_rfl, F_make.kp, (F_make.bindsN fun _ _ _ _ _ _ us hl => match us, hl with | [_, _], _ => rfl), .inl ⟨b_make, n_make, _, _, _, _, _, _, _, by kernel_rfl, F_make, s_make, c_make⟩⟩⟩⟩
theorem d_add : ∃ f, mg ("add" : Str) = some (.ref f) ∧ DefIn Ct P w K mg base Ps 4 f := by
  obtain ⟨fd, F_add⟩ := c.def_ 4 (d := ⟨("add", none), "add", "add", defArgs (top 30), defBody (top 30), defScope (top 30), [], []⟩) (by kernel_rfl)
  exact ⟨He.ga K "add", He.glo_ok X G (c.fact 16 (f := .glo "add") (by kernel_rfl)), ⟨⟨fd, p_add, by kernel_rfl, F_add.kp, (F_add.bindsN fun _ _ _ _ _ _ us hl => match us, hl with | [_, _], _ => rfl), .inl ⟨b_add, n_add, _, _, _, _, _, _, _, by kernel_rfl, F_add, s_add, c_add⟩⟩⟩⟩
theorem d_add_ratios : ∃ f, mg ("add_ratios" : Str) = some (.ref f) ∧ DefIn Ct P w K mg base Ps 5 f := by
  obtain ⟨fd, F_add_ratios⟩ := c.def_ 5 (d := ⟨("add_ratios", none), "add", "add", defArgs (top 13), defBody (top 13), defScope (top 13), [], []⟩) (by kernel_rfl)
  exact ⟨He.ga K "add_ratios", He.glo_ok X G (c.fact 17 (f := .glo "add_ratios") (by kernel_rfl)), ⟨⟨fd, p_add_ratios, by kernel_rfl, F_add_ratios.kp, (F_add_ratios.bindsN fun _ _ _ _ _ _ us hl => match us, hl with | [_, _], _ => rfl), .inl ⟨b_add_ratios, n_add_ratios, _, _, _, _, _, _, _, by kernel_rfl, F_add_ratios, s_add_ratios, c_add_ratios⟩⟩⟩⟩
theorem d_multiply : ∃ f, mg ("multiply" : Str) = some (.ref f) ∧ DefIn Ct P w K mg base Ps 6 f := by
  obtain ⟨fd, F_multiply⟩ := c.def_ 6 (d := ⟨("multiply", none), "multiply", "multiply", defArgs (top 15), defBody (top 15), defScope (top 15), [], []⟩) (by kernel_rfl)
  exact ⟨He.ga K "multiply", He.glo_ok X G (c.fact 18 (f := .glo "multiply") (by kernel_rfl)), ⟨⟨fd, p_multiply, by kernel_rfl, F_multiply.kp, (F_multiply.bindsN fun _ _ _ _ _ _ us hl => match us, hl with | [_, _], _ => rfl), .inl ⟨b_multiply, n_multiply, _, _, _, _, _, _, _, by kernel_rfl, F_multiply, s_multiply, c_multiply⟩⟩⟩⟩
theorem d_negative : ∃ f, mg ("negative" : Str) = some (.ref f) ∧ DefIn Ct P w K mg base Ps 7 f := by
  obtain ⟨fd, F_negative⟩ := c.def_ 7 (d := ⟨("negative", none), "negative", "negative", defArgs (top 16), defBody (top 16), defScope (top 16), [], []⟩) (by kernel_rfl)
  exact ⟨He.ga K "negative", He.glo_ok X G (c.fact 19 (f := .glo "negative") (by kernel_rfl)), ⟨⟨fd, p_negative, by kernel_rfl, F_negative.kp, (F_negative.bindsN fun _ _ _ _ _ _ us hl => match us, hl with | [_], _ => rfl), .inl ⟨b_negative, n_negative, _, _, _, _, _, _, _, by kernel_rfl, F_negative, s_negative, c_negative⟩⟩⟩⟩
theorem d_is_word : ∃ f, mg ("is_word" : Str) = some (.ref f) ∧ DefIn Ct P w K mg base Ps 8 f := by
  obtain ⟨fd, F_is_word⟩ := c.def_ 8 (d := ⟨("is_word", none), "is_word", "is_word", defArgs (top 20), defBody (top 20), defScope (top 20), [], []⟩) (by kernel_rfl)
  exact ⟨He.ga K "is_word", He.glo_ok X G (c.fact 22 (f := .glo "is_word") (by kernel_rfl)), ⟨⟨fd, p_is_word, by kernel_rfl, F_is_word.kp, (F_is_word.bindsN fun _ _ _ _ _ _ us hl => match us, hl with | [_], _ => rfl), .inl ⟨b_is_word, n_is_word, _, _, _, _, _, _, _, by kernel_rfl, F_is_word, s_is_word, c_is_word⟩⟩⟩⟩
theorem d_is_sum : ∃ f, mg ("is_sum" : Str) = some (.ref f) ∧ DefIn Ct P w K mg base Ps 9 f := by
  obtain ⟨fd, F_is_sum⟩ := c.def_ 9 (d := ⟨("is_sum", none), "is_sum", "is_sum", defArgs (top 24), defBody (top 24), defScope (top 24), [], []⟩) (by kernel_rfl)
  exact ⟨He.ga K "is_sum", He.glo_ok X G (c.fact 25 (f := .glo "is_sum") (by kernel_rfl)), ⟨⟨fd, p_is_sum, by kernel_rfl, F_is_sum.kp, (F_is_sum.bindsN fun _ _ _ _ _ _ us hl => match us, hl with | [_], _ => rfl), .inl ⟨b_is_sum, n_is_sum, _, _, _, _, _, _, _, by kernel_rfl, F_is_sum, s_is_sum, c_is_sum⟩⟩⟩⟩
theorem d_check_sum : ∃ f, mg ("check_sum" : Str) = some (.ref f) ∧ DefIn Ct P w K mg base Ps 10 f := by
  obtain ⟨fd, F_check_sum⟩ := c.def_ 10 (d := ⟨("check_sum", none), "check_sum", "check_sum", defArgs (top 25), defBody (top 25), defScope (top 25), [], []⟩) (by kernel_rfl)
  exact ⟨He.ga K "check_sum", He.glo_ok X G (c.fact 26 (f := .glo "check_sum") (by kernel_rfl)), ⟨⟨fd, p_check_sum, by kernel_rfl, F_check_sum.kp, (F_check_sum.bindsN fun _ _ _ _ _ _ us hl => match us, hl with | [_], _ => rfl), .inl ⟨b_check_sum, n_check_sum, _, _, _, _, _, _, _, by kernel_rfl, F_check_sum, s_check_sum, c_check_sum⟩⟩⟩⟩
theorem d_key : ∃ f, mg ("key" : Str) = some (.ref f) ∧ DefIn Ct P w K mg base Ps 11 f := by
  obtain ⟨fd, F_key⟩ := c.def_ 11 (d := ⟨("key", none), "key", "key", defArgs (top 26), defBody (top 26), defScope (top 26), [], []⟩) (by kernel_rfl)
  exact ⟨He.ga K "key", He.glo_ok X G (c.fact 27 (f := .glo "key") (by kernel_rfl)), ⟨⟨fd, p_key, by kernel_rfl, F_key.kp, (F_key.bindsN fun _ _ _ _ _ _ us hl => match us, hl with | [_], _ => rfl), .inl ⟨b_key, n_key, _, _, _, _, _, _, _, by kernel_rfl, F_key, s_key, c_key⟩⟩⟩⟩
theorem d_gathered : ∃ f, mg ("gathered" : Str) = some (.ref f) ∧ DefIn Ct P w K mg base Ps 12 f := by
  obtain ⟨fd, F_gathered⟩ := c.def_ 12 (d := ⟨("gathered", none), "gathered", "gathered", defArgs (top 27), defBody (top 27), defScope (top 27), [], []⟩) (by kernel_rfl)
  exact ⟨He.ga K "gathered", He.glo_ok X G (c.fact 28 (f := .glo "gathered") (by kernel_rfl)), ⟨⟨fd, p_gathered, by kernel_rfl, F_gathered.kp, (F_gathered.bindsN fun _ _ _ _ _ _ us hl => match us, hl with | [_], _ => rfl), .inl ⟨b_gathered, n_gathered, _, _, _, _, _, _, _, by kernel_rfl, F_gathered, s_gathered, c_gathered⟩⟩⟩⟩
theorem d_of_word : ∃ f, mg ("of_word" : Str) = some (.ref f) ∧ DefIn Ct P w K mg base Ps 13 f := by
  obtain ⟨fd, F_of_word⟩ := c.def_ 13 (d := ⟨("of_word", none), "of_word", "of_word", defArgs (top 28), defBody (top 28), defScope (top 28), [], []⟩) (by kernel_rfl)
  exact ⟨He.ga K "of_word", He.glo_ok X G (c.fact 29 (f := .glo "of_word") (by kernel_rfl)), ⟨⟨fd, p_of_word, by kernel_rfl, F_of_word.kp, (F_of_word.bindsN fun _ _ _ _ _ _ us hl => match us, hl with | [_], _ => rfl), .inl ⟨b_of_word, n_of_word, _, _, _, _, _, _, _, by kernel_rfl, F_of_word, s_of_word, c_of_word⟩⟩⟩⟩
theorem d_one : ∃ f, mg ("one" : Str) = some (.ref f) ∧ DefIn Ct P w K mg base Ps 14 f := by
  obtain ⟨fd, F_one⟩ := c.def_ 14 (d := ⟨("one", none), "one", "one", defArgs (top 29), defBody (top 29), defScope (top 29), [], []⟩) (by kernel_rfl)
  exact ⟨He.ga K "one", He.glo_ok X G (c.fact 30 (f := .glo "one") (by kernel_rfl)), ⟨⟨fd, p_one, by kernel_rfl, F_one.kp, (F_one.bindsN fun _ _ _ _ _ _ us hl => match us, hl with | [], _ => rfl), .inl ⟨b_one, n_one, _, _, _, _, _, _, _, by kernel_rfl, F_one, s_one, c_one⟩⟩⟩⟩
theorem d_add_sums : ∃ f, mg ("add_sums" : Str) = some (.ref f) ∧ DefIn Ct P w K mg base Ps 4 f := by
  obtain ⟨fd, F_add_sums⟩ := c.def_ 15 (d := ⟨("add_sums", none), "add", "add", defArgs (top 30), defBody (top 30), defScope (top 30), [], []⟩) (by kernel_rfl)
  exact ⟨He.ga K "add_sums", He.glo_ok X G (c.fact 31 (f := .glo "add_sums") (by kernel_rfl)), ⟨⟨fd, p_add, by kernel_rfl, F_add_sums.kp, (F_add_sums.bindsN fun _ _ _ _ _ _ us hl => match us, hl with | [_, _], _ => rfl), .inl ⟨b_add, n_add, _, _, _, _, _, _, _, by kernel_rfl, F_add_sums, s_add, c_add⟩⟩⟩⟩
theorem d_scaled : ∃ f, mg ("scaled" : Str) = some (.ref f) ∧ DefIn Ct P w K mg base Ps 15 f := by
  obtain ⟨fd, F_scaled⟩ := c.def_ 16 (d := ⟨("scaled", none), "scaled", "scaled", defArgs (top 32), defBody (top 32), defScope (top 32), [], []⟩) (by kernel_rfl)
  exact ⟨He.ga K "scaled", He.glo_ok X G (c.fact 32 (f := .glo "scaled") (by kernel_rfl)), ⟨⟨fd, p_scaled, by kernel_rfl, F_scaled.kp, (F_scaled.bindsN fun _ _ _ _ _ _ us hl => match us, hl with | [_, _], _ => rfl), .inl ⟨b_scaled, n_scaled, _, _, _, _, _, _, _, by kernel_rfl, F_scaled, s_scaled, c_scaled⟩⟩⟩⟩
theorem d_minus : ∃ f, mg ("minus" : Str) = some (.ref f) ∧ DefIn Ct P w K mg base Ps 16 f := by
  obtain ⟨fd, F_minus⟩ := c.def_ 17 (d := ⟨("minus", none), "minus", "minus", defArgs (top 33), defBody (top 33), defScope (top 33), [], []⟩) (by kernel_rfl)
  exact ⟨He.ga K "minus", He.glo_ok X G (c.fact 33 (f := .glo "minus") (by kernel_rfl)), ⟨⟨fd, p_minus, by kernel_rfl, F_minus.kp, (F_minus.bindsN fun _ _ _ _ _ _ us hl => match us, hl with | [_, _], _ => rfl), .inl ⟨b_minus, n_minus, _, _, _, _, _, _, _, by kernel_rfl, F_minus, s_minus, c_minus⟩⟩⟩⟩
theorem d_cut_product : ∃ f, mg ("cut_product" : Str) = some (.ref f) ∧ DefIn Ct P w K mg base Ps 17 f := by
  obtain ⟨fd, F_cut_product⟩ := c.def_ 18 (d := ⟨("cut_product", none), "cut_product", "cut_product", defArgs (top 34), defBody (top 34), defScope (top 34), [], []⟩) (by kernel_rfl)
  exact ⟨He.ga K "cut_product", He.glo_ok X G (c.fact 34 (f := .glo "cut_product") (by kernel_rfl)), ⟨⟨fd, p_cut_product, by kernel_rfl, F_cut_product.kp, (F_cut_product.bindsN fun _ _ _ _ _ _ us hl => match us, hl with | [_, _, _], _ => rfl), .inl ⟨b_cut_product, n_cut_product, _, _, _, _, _, _, _, by kernel_rfl, F_cut_product, s_cut_product, c_cut_product⟩⟩⟩⟩
theorem d_number_at : ∃ f, mg ("number_at" : Str) = some (.ref f) ∧ DefIn Ct P w K mg base Ps 18 f := by
  obtain ⟨fd, F_number_at⟩ := c.def_ 19 (d := ⟨("number_at", none), "number_at", "number_at", defArgs (top 35), defBody (top 35), defScope (top 35), [], []⟩) (by kernel_rfl)
  exact ⟨He.ga K "number_at", He.glo_ok X G (c.fact 35 (f := .glo "number_at") (by kernel_rfl)), ⟨⟨fd, p_number_at, by kernel_rfl, F_number_at.kp, (F_number_at.bindsN fun _ _ _ _ _ _ us hl => match us, hl with | [_, _], _ => rfl), .inl ⟨b_number_at, n_number_at, _, _, _, _, _, _, _, by kernel_rfl, F_number_at, s_number_at, c_number_at⟩⟩⟩⟩
theorem d_check_depth : ∃ f, mg ("check_depth" : Str) = some (.ref f) ∧ DefIn Ct P w K mg base Ps 19 f := by
  obtain ⟨fd, F_check_depth⟩ := c.def_ 20 (d := ⟨("check_depth", none), "check_depth", "check_depth", defArgs (top 37), defBody (top 37), defScope (top 37), [], []⟩) (by kernel_rfl)
  exact ⟨He.ga K "check_depth", He.glo_ok X G (c.fact 36 (f := .glo "check_depth") (by kernel_rfl)), ⟨⟨fd, p_check_depth, by kernel_rfl, F_check_depth.kp, (F_check_depth.bindsN fun _ _ _ _ _ _ us hl => match us, hl with | [_], _ => rfl), .inl ⟨b_check_depth, n_check_depth, _, _, _, _, _, _, _, by kernel_rfl, F_check_depth, s_check_depth, c_check_depth⟩⟩⟩⟩
theorem d_exponential : ∃ f, mg ("exponential" : Str) = some (.ref f) ∧ DefIn Ct P w K mg base Ps 20 f := by
  obtain ⟨fd, F_exponential⟩ := c.def_ 21 (d := ⟨("exponential", none), "exponential", "exponential", defArgs (top 38), defBody (top 38), defScope (top 38), [], []⟩) (by kernel_rfl)
  exact ⟨He.ga K "exponential", He.glo_ok X G (c.fact 37 (f := .glo "exponential") (by kernel_rfl)), ⟨⟨fd, p_exponential, by kernel_rfl, F_exponential.kp, (F_exponential.bindsN fun _ _ _ _ _ _ us hl => match us, hl with | [_, _], _ => rfl), .inl ⟨b_exponential, n_exponential, _, _, _, _, _, _, _, by kernel_rfl, F_exponential, s_exponential, c_exponential⟩⟩⟩⟩
theorem d_is_path : ∃ f, mg ("is_path" : Str) = some (.ref f) ∧ DefIn Ct P w K mg base Ps 21 f := by
  obtain ⟨fd, F_is_path⟩ := c.def_ 22 (d := ⟨("is_path", none), "is_path", "is_path", defArgs (top 42), defBody (top 42), defScope (top 42), [], []⟩) (by kernel_rfl)
  exact ⟨He.ga K "is_path", He.glo_ok X G (c.fact 40 (f := .glo "is_path") (by kernel_rfl)), ⟨⟨fd, p_is_path, by kernel_rfl, F_is_path.kp, (F_is_path.bindsN fun _ _ _ _ _ _ us hl => match us, hl with | [_], _ => rfl), .inl ⟨b_is_path, n_is_path, _, _, _, _, _, _, _, by kernel_rfl, F_is_path, s_is_path, c_is_path⟩⟩⟩⟩
theorem d_check_path : ∃ f, mg ("check_path" : Str) = some (.ref f) ∧ DefIn Ct P w K mg base Ps 22 f := by
  obtain ⟨fd, F_check_path⟩ := c.def_ 23 (d := ⟨("check_path", none), "check_path", "check_path", defArgs (top 43), defBody (top 43), defScope (top 43), [], []⟩) (by kernel_rfl)
  exact ⟨He.ga K "check_path", He.glo_ok X G (c.fact 41 (f := .glo "check_path") (by kernel_rfl)), ⟨⟨fd, p_check_path, by kernel_rfl, F_check_path.kp, (F_check_path.bindsN fun _ _ _ _ _ _ us hl => match us, hl with | [_], _ => rfl), .inl ⟨b_check_path, n_check_path, _, _, _, _, _, _, _, by kernel_rfl, F_check_path, s_check_path, c_check_path⟩⟩⟩⟩
theorem d_step_sum : ∃ f, mg ("step_sum" : Str) = some (.ref f) ∧ DefIn Ct P w K mg base Ps 23 f := by
  obtain ⟨fd, F_step_sum⟩ := c.def_ 24 (d := ⟨("step_sum", none), "step_sum", "step_sum", defArgs (top 44), defBody (top 44), defScope (top 44), [], []⟩) (by kernel_rfl)
  exact ⟨He.ga K "step_sum", He.glo_ok X G (c.fact 42 (f := .glo "step_sum") (by kernel_rfl)), ⟨⟨fd, p_step_sum, by kernel_rfl, F_step_sum.kp, (F_step_sum.bindsN fun _ _ _ _ _ _ us hl => match us, hl with | [_], _ => rfl), .inl ⟨b_step_sum, n_step_sum, _, _, _, _, _, _, _, by kernel_rfl, F_step_sum, s_step_sum, c_step_sum⟩⟩⟩⟩
theorem d_signature : ∃ f, mg ("signature" : Str) = some (.ref f) ∧ DefIn Ct P w K mg base Ps 24 f := by
  obtain ⟨fd, F_signature⟩ := c.def_ 25 (d := ⟨("signature", none), "signature", "signature", defArgs (top 45), defBody (top 45), defScope (top 45), [], []⟩) (by kernel_rfl)
  exact ⟨He.ga K "signature", He.glo_ok X G (c.fact 43 (f := .glo "signature") (by kernel_rfl)), ⟨⟨fd, p_signature, by kernel_rfl, F_signature.kp, (F_signature.bindsN fun _ _ _ _ _ _ us hl => match us, hl with | [_, _], _ => rfl), .inl ⟨b_signature, n_signature, _, _, _, _, _, _, _, by kernel_rfl, F_signature, s_signature, c_signature⟩⟩⟩⟩
theorem d_back : ∃ f, mg ("back" : Str) = some (.ref f) ∧ DefIn Ct P w K mg base Ps 25 f := by
  obtain ⟨fd, F_back⟩ := c.def_ 26 (d := ⟨("back", none), "back", "back", defArgs (top 46), defBody (top 46), defScope (top 46), [], []⟩) (by kernel_rfl)
  exact ⟨He.ga K "back", He.glo_ok X G (c.fact 44 (f := .glo "back") (by kernel_rfl)), ⟨⟨fd, p_back, by kernel_rfl, F_back.kp, (F_back.bindsN fun _ _ _ _ _ _ us hl => match us, hl with | [_], _ => rfl), .inl ⟨b_back, n_back, _, _, _, _, _, _, _, by kernel_rfl, F_back, s_back, c_back⟩⟩⟩⟩
theorem d_are_along : ∃ f, mg ("are_along" : Str) = some (.ref f) ∧ DefIn Ct P w K mg base Ps 26 f := by
  obtain ⟨fd, F_are_along⟩ := c.def_ 27 (d := ⟨("are_along", none), "are_along", "are_along", defArgs (top 47), defBody (top 47), defScope (top 47), [], []⟩) (by kernel_rfl)
  exact ⟨He.ga K "are_along", He.glo_ok X G (c.fact 45 (f := .glo "are_along") (by kernel_rfl)), ⟨⟨fd, p_are_along, by kernel_rfl, F_are_along.kp, (F_are_along.bindsN fun _ _ _ _ _ _ us hl => match us, hl with | [_, _], _ => rfl), .inl ⟨b_are_along, n_are_along, _, _, _, _, _, _, _, by kernel_rfl, F_are_along, s_are_along, c_are_along⟩⟩⟩⟩
theorem d_shortened : ∃ f, mg ("shortened" : Str) = some (.ref f) ∧ DefIn Ct P w K mg base Ps 27 f := by
  obtain ⟨fd, F_shortened⟩ := c.def_ 28 (d := ⟨("shortened", none), "shortened", "shortened", defArgs (top 48), defBody (top 48), defScope (top 48), [], []⟩) (by kernel_rfl)
  exact ⟨He.ga K "shortened", He.glo_ok X G (c.fact 46 (f := .glo "shortened") (by kernel_rfl)), ⟨⟨fd, p_shortened, by kernel_rfl, F_shortened.kp, (F_shortened.bindsN fun _ _ _ _ _ _ us hl => match us, hl with | [_], _ => rfl), .inl ⟨b_shortened, n_shortened, _, _, _, _, _, _, _, by kernel_rfl, F_shortened, s_shortened, c_shortened⟩⟩⟩⟩
theorem d_are_alike : ∃ f, mg ("are_alike" : Str) = some (.ref f) ∧ DefIn Ct P w K mg base Ps 28 f := by
  obtain ⟨fd, F_are_alike⟩ := c.def_ 29 (d := ⟨("are_alike", none), "are_alike", "are_alike", defArgs (top 49), defBody (top 49), defScope (top 49), [], []⟩) (by kernel_rfl)
  exact ⟨He.ga K "are_alike", He.glo_ok X G (c.fact 47 (f := .glo "are_alike") (by kernel_rfl)), ⟨⟨fd, p_are_alike, by kernel_rfl, F_are_alike.kp, (F_are_alike.bindsN fun _ _ _ _ _ _ us hl => match us, hl with | [_, _], _ => rfl), .inl ⟨b_are_alike, n_are_alike, _, _, _, _, _, _, _, by kernel_rfl, F_are_alike, s_are_alike, c_are_alike⟩⟩⟩⟩
theorem d_first_unlike : ∃ f, mg ("first_unlike" : Str) = some (.ref f) ∧ DefIn Ct P w K mg base Ps 29 f := by
  obtain ⟨fd, F_first_unlike⟩ := c.def_ 30 (d := ⟨("first_unlike", none), "first_unlike", "first_unlike", defArgs (top 50), defBody (top 50), defScope (top 50), [], []⟩) (by kernel_rfl)
  exact ⟨He.ga K "first_unlike", He.glo_ok X G (c.fact 48 (f := .glo "first_unlike") (by kernel_rfl)), ⟨⟨fd, p_first_unlike, by kernel_rfl, F_first_unlike.kp, (F_first_unlike.bindsN fun _ _ _ _ _ _ us hl => match us, hl with | [_, _, _], _ => rfl), .inl ⟨b_first_unlike, n_first_unlike, _, _, _, _, _, _, _, by kernel_rfl, F_first_unlike, s_first_unlike, c_first_unlike⟩⟩⟩⟩
theorem d__law_draw : ∃ f, mg ("_law_draw" : Str) = some (.ref f) ∧ DefIn Ct P w K mg base Ps 31 f := by
  obtain ⟨fd, F__law_draw⟩ := c.def_ 32 (d := ⟨("_law_draw", none), "_law_draw", "_law_draw", defArgs (top 53), defBody (top 53), defScope (top 53), [], []⟩) (by kernel_rfl)
  exact ⟨He.ga K "_law_draw", He.glo_ok X G (c.fact 50 (f := .glo "_law_draw") (by kernel_rfl)), ⟨⟨fd, ["tape", "many"], by kernel_rfl, F__law_draw.kp, (F__law_draw.bindsN fun _ _ _ _ _ _ us hl => match us, hl with | [_, _], _ => rfl), .inr ⟨drawP, by kernel_rfl, draw_ok F__law_draw s__law_draw t__law_draw c__law_draw (He.free_ok X G (c.fact 99 (f := .free "len") (by kernel_rfl))) (He.free_ok X G (c.fact 97 (f := .free "int") (by kernel_rfl)))⟩⟩⟩⟩
theorem d__law_same : ∃ f, mg ("_law_same" : Str) = some (.ref f) ∧ DefIn Ct P w K mg base Ps 32 f := by
  obtain ⟨fd, F__law_same⟩ := c.def_ 33 (d := ⟨("_law_same", none), "_law_same", "_law_same", defArgs (top 54), defBody (top 54), defScope (top 54), [], []⟩) (by kernel_rfl)
  exact ⟨He.ga K "_law_same", He.glo_ok X G (c.fact 51 (f := .glo "_law_same") (by kernel_rfl)), ⟨⟨fd, p__law_same, by kernel_rfl, F__law_same.kp, (F__law_same.bindsN fun _ _ _ _ _ _ us hl => match us, hl with | [_, _], _ => rfl), .inl ⟨b__law_same, n__law_same, _, _, _, _, _, _, _, by kernel_rfl, F__law_same, s__law_same, c__law_same⟩⟩⟩⟩
theorem d__law_frac : ∃ f, mg ("_law_frac" : Str) = some (.ref f) ∧ DefIn Ct P w K mg base Ps 33 f := by
  obtain ⟨fd, F__law_frac⟩ := c.def_ 34 (d := ⟨("_law_frac", none), "_law_frac", "_law_frac", defArgs (top 55), defBody (top 55), defScope (top 55), [], []⟩) (by kernel_rfl)
  exact ⟨He.ga K "_law_frac", He.glo_ok X G (c.fact 52 (f := .glo "_law_frac") (by kernel_rfl)), ⟨⟨fd, p__law_frac, by kernel_rfl, F__law_frac.kp, (F__law_frac.bindsN fun _ _ _ _ _ _ us hl => match us, hl with | [_, _], _ => rfl), .inl ⟨b__law_frac, n__law_frac, _, _, _, _, _, _, _, by kernel_rfl, F__law_frac, s__law_frac, c__law_frac⟩⟩⟩⟩
theorem d__law_plus : ∃ f, mg ("_law_plus" : Str) = some (.ref f) ∧ DefIn Ct P w K mg base Ps 34 f := by
  obtain ⟨fd, F__law_plus⟩ := c.def_ 35 (d := ⟨("_law_plus", none), "_law_plus", "_law_plus", defArgs (top 56), defBody (top 56), defScope (top 56), [], []⟩) (by kernel_rfl)
  exact ⟨He.ga K "_law_plus", He.glo_ok X G (c.fact 53 (f := .glo "_law_plus") (by kernel_rfl)), ⟨⟨fd, p__law_plus, by kernel_rfl, F__law_plus.kp, (F__law_plus.bindsN fun _ _ _ _ _ _ us hl => match us, hl with | [_, _], _ => rfl), .inl ⟨b__law_plus, n__law_plus, _, _, _, _, _, _, _, by kernel_rfl, F__law_plus, s__law_plus, c__law_plus⟩⟩⟩⟩
theorem d__law_by : ∃ f, mg ("_law_by" : Str) = some (.ref f) ∧ DefIn Ct P w K mg base Ps 35 f := by
  obtain ⟨fd, F__law_by⟩ := c.def_ 36 (d := ⟨("_law_by", none), "_law_by", "_law_by", defArgs (top 57), defBody (top 57), defScope (top 57), [], []⟩) (by kernel_rfl)
  exact ⟨He.ga K "_law_by", He.glo_ok X G (c.fact 54 (f := .glo "_law_by") (by kernel_rfl)), ⟨⟨fd, p__law_by, by kernel_rfl, F__law_by.kp, (F__law_by.bindsN fun _ _ _ _ _ _ us hl => match us, hl with | [_, _], _ => rfl), .inl ⟨b__law_by, n__law_by, _, _, _, _, _, _, _, by kernel_rfl, F__law_by, s__law_by, c__law_by⟩⟩⟩⟩
theorem d__law_over : ∃ f, mg ("_law_over" : Str) = some (.ref f) ∧ DefIn Ct P w K mg base Ps 36 f := by
  obtain ⟨fd, F__law_over⟩ := c.def_ 37 (d := ⟨("_law_over", none), "_law_over", "_law_over", defArgs (top 58), defBody (top 58), defScope (top 58), [], []⟩) (by kernel_rfl)
  exact ⟨He.ga K "_law_over", He.glo_ok X G (c.fact 55 (f := .glo "_law_over") (by kernel_rfl)), ⟨⟨fd, p__law_over, by kernel_rfl, F__law_over.kp, (F__law_over.bindsN fun _ _ _ _ _ _ us hl => match us, hl with | [_, _], _ => rfl), .inl ⟨b__law_over, n__law_over, _, _, _, _, _, _, _, by kernel_rfl, F__law_over, s__law_over, c__law_over⟩⟩⟩⟩
theorem d__law_number : ∃ f, mg ("_law_number" : Str) = some (.ref f) ∧ DefIn Ct P w K mg base Ps 37 f := by
  obtain ⟨fd, F__law_number⟩ := c.def_ 38 (d := ⟨("_law_number", none), "_law_number", "_law_number", defArgs (top 59), defBody (top 59), defScope (top 59), [], []⟩) (by kernel_rfl)
  exact ⟨He.ga K "_law_number", He.glo_ok X G (c.fact 56 (f := .glo "_law_number") (by kernel_rfl)), ⟨⟨fd, p__law_number, by kernel_rfl, F__law_number.kp, (F__law_number.bindsN fun _ _ _ _ _ _ us hl => match us, hl with | [_], _ => rfl), .inl ⟨b__law_number, n__law_number, _, _, _, _, _, _, _, by kernel_rfl, F__law_number, s__law_number, c__law_number⟩⟩⟩⟩
theorem d__law_words : ∃ f, mg ("_law_words" : Str) = some (.ref f) ∧ DefIn Ct P w K mg base Ps 38 f := by
  obtain ⟨fd, F__law_words⟩ := c.def_ 39 (d := ⟨("_law_words", none), "_law_words", "_law_words", defArgs (top 60), defBody (top 60), defScope (top 60), [], []⟩) (by kernel_rfl)
  exact ⟨He.ga K "_law_words", He.glo_ok X G (c.fact 57 (f := .glo "_law_words") (by kernel_rfl)), ⟨⟨fd, p__law_words, by kernel_rfl, F__law_words.kp, (F__law_words.bindsN fun _ _ _ _ _ _ us hl => match us, hl with | [_, _], _ => rfl), .inl ⟨b__law_words, n__law_words, _, _, _, _, _, _, _, by kernel_rfl, F__law_words, s__law_words, c__law_words⟩⟩⟩⟩
theorem d__law_all : ∃ f, mg ("_law_all" : Str) = some (.ref f) ∧ DefIn Ct P w K mg base Ps 39 f := by
  obtain ⟨fd, F__law_all⟩ := c.def_ 40 (d := ⟨("_law_all", none), "_law_all", "_law_all", defArgs (top 61), defBody (top 61), defScope (top 61), [], []⟩) (by kernel_rfl)
  exact ⟨He.ga K "_law_all", He.glo_ok X G (c.fact 58 (f := .glo "_law_all") (by kernel_rfl)), ⟨⟨fd, p__law_all, by kernel_rfl, F__law_all.kp, (F__law_all.bindsN fun _ _ _ _ _ _ us hl => match us, hl with | [_, _], _ => rfl), .inl ⟨b__law_all, n__law_all, _, _, _, _, _, _, _, by kernel_rfl, F__law_all, s__law_all, c__law_all⟩⟩⟩⟩
theorem d__law_step : ∃ f, mg ("_law_step" : Str) = some (.ref f) ∧ DefIn Ct P w K mg base Ps 40 f := by
  obtain ⟨fd, F__law_step⟩ := c.def_ 41 (d := ⟨("_law_step", none), "_law_step", "_law_step", defArgs (top 62), defBody (top 62), defScope (top 62), [], []⟩) (by kernel_rfl)
  exact ⟨He.ga K "_law_step", He.glo_ok X G (c.fact 59 (f := .glo "_law_step") (by kernel_rfl)), ⟨⟨fd, p__law_step, by kernel_rfl, F__law_step.kp, (F__law_step.bindsN fun _ _ _ _ _ _ us hl => match us, hl with | [_, _], _ => rfl), .inl ⟨b__law_step, n__law_step, _, _, _, _, _, _, _, by kernel_rfl, F__law_step, s__law_step, c__law_step⟩⟩⟩⟩
theorem d__law_path : ∃ f, mg ("_law_path" : Str) = some (.ref f) ∧ DefIn Ct P w K mg base Ps 41 f := by
  obtain ⟨fd, F__law_path⟩ := c.def_ 42 (d := ⟨("_law_path", none), "_law_path", "_law_path", defArgs (top 63), defBody (top 63), defScope (top 63), [], []⟩) (by kernel_rfl)
  exact ⟨He.ga K "_law_path", He.glo_ok X G (c.fact 60 (f := .glo "_law_path") (by kernel_rfl)), ⟨⟨fd, p__law_path, by kernel_rfl, F__law_path.kp, (F__law_path.bindsN fun _ _ _ _ _ _ us hl => match us, hl with | [_, _, _], _ => rfl), .inl ⟨b__law_path, n__law_path, _, _, _, _, _, _, _, by kernel_rfl, F__law_path, s__law_path, c__law_path⟩⟩⟩⟩
theorem d__law_worth : ∃ f, mg ("_law_worth" : Str) = some (.ref f) ∧ DefIn Ct P w K mg base Ps 42 f := by
  obtain ⟨fd, F__law_worth⟩ := c.def_ 43 (d := ⟨("_law_worth", none), "_law_worth", "_law_worth", defArgs (top 64), defBody (top 64), defScope (top 64), [], []⟩) (by kernel_rfl)
  exact ⟨He.ga K "_law_worth", He.glo_ok X G (c.fact 61 (f := .glo "_law_worth") (by kernel_rfl)), ⟨⟨fd, p__law_worth, by kernel_rfl, F__law_worth.kp, (F__law_worth.bindsN fun _ _ _ _ _ _ us hl => match us, hl with | [_, _], _ => rfl), .inl ⟨b__law_worth, n__law_worth, _, _, _, _, _, _, _, by kernel_rfl, F__law_worth, s__law_worth, c__law_worth⟩⟩⟩⟩
theorem d__law_along : ∃ f, mg ("_law_along" : Str) = some (.ref f) ∧ DefIn Ct P w K mg base Ps 43 f := by
  obtain ⟨fd, F__law_along⟩ := c.def_ 44 (d := ⟨("_law_along", none), "_law_along", "_law_along", defArgs (top 65), defBody (top 65), defScope (top 65), [], []⟩) (by kernel_rfl)
  exact ⟨He.ga K "_law_along", He.glo_ok X G (c.fact 62 (f := .glo "_law_along") (by kernel_rfl)), ⟨⟨fd, p__law_along, by kernel_rfl, F__law_along.kp, (F__law_along.bindsN fun _ _ _ _ _ _ us hl => match us, hl with | [_, _], _ => rfl), .inl ⟨b__law_along, n__law_along, _, _, _, _, _, _, _, by kernel_rfl, F__law_along, s__law_along, c__law_along⟩⟩⟩⟩
theorem d__law_short : ∃ f, mg ("_law_short" : Str) = some (.ref f) ∧ DefIn Ct P w K mg base Ps 44 f := by
  obtain ⟨fd, F__law_short⟩ := c.def_ 45 (d := ⟨("_law_short", none), "_law_short", "_law_short", defArgs (top 66), defBody (top 66), defScope (top 66), [], []⟩) (by kernel_rfl)
  exact ⟨He.ga K "_law_short", He.glo_ok X G (c.fact 63 (f := .glo "_law_short") (by kernel_rfl)), ⟨⟨fd, p__law_short, by kernel_rfl, F__law_short.kp, (F__law_short.bindsN fun _ _ _ _ _ _ us hl => match us, hl with | [_], _ => rfl), .inl ⟨b__law_short, n__law_short, _, _, _, _, _, _, _, by kernel_rfl, F__law_short, s__law_short, c__law_short⟩⟩⟩⟩
theorem d__law_spoilt : ∃ f, mg ("_law_spoilt" : Str) = some (.ref f) ∧ DefIn Ct P w K mg base Ps 45 f := by
  obtain ⟨fd, F__law_spoilt⟩ := c.def_ 46 (d := ⟨("_law_spoilt", none), "_law_spoilt", "_law_spoilt", defArgs (top 67), defBody (top 67), defScope (top 67), [], []⟩) (by kernel_rfl)
  exact ⟨He.ga K "_law_spoilt", He.glo_ok X G (c.fact 64 (f := .glo "_law_spoilt") (by kernel_rfl)), ⟨⟨fd, p__law_spoilt, by kernel_rfl, F__law_spoilt.kp, (F__law_spoilt.bindsN fun _ _ _ _ _ _ us hl => match us, hl with | [_, _, _], _ => rfl), .inl ⟨b__law_spoilt, n__law_spoilt, _, _, _, _, _, _, _, by kernel_rfl, F__law_spoilt, s__law_spoilt, c__law_spoilt⟩⟩⟩⟩
include more
theorem mdl : Mdl Ct P w K mg base Ps := by
  have hd : Vf.AllP (fun p : Str × Nat => ∃ f, mg p.1 = some (.ref f) ∧ DefIn Ct P w K mg base Ps p.2 f) Ct.names := ⟨d_is_integer X G c base, d_is_ratio X G c base, d_divisor X G c base, d_make X G c base, d_add X G c base, d_add_ratios X G c base, d_multiply X G c base, d_negative X G c base, d_is_word X G c base, d_is_sum X G c base, d_check_sum X G c base, d_key X G c base, d_gathered X G c base, d_of_word X G c base, d_one X G c base, d_add_sums X G c base, d_scaled X G c base, d_minus X G c base, d_cut_product X G c base, d_number_at X G c base, d_check_depth X G c base, d_exponential X G c base, d_is_path X G c base, d_check_path X G c base, d_step_sum X G c base, d_signature X G c base, d_back X G c base, d_are_along X G c base, d_shortened X G c base, d_are_alike X G c base, d_first_unlike X G c base, d__law_draw X G c base, d__law_same X G c base, d__law_frac X G c base, d__law_plus X G c base, d__law_by X G c base, d__law_over X G c base, d__law_number X G c base, d__law_words X G c base, d__law_all X G c base, d__law_step X G c base, d__law_path X G c base, d__law_worth X G c base, d__law_along X G c base, d__law_short X G c base, d__law_spoilt X G c base, trivial⟩
  have hc : Vf.AllP (fun p : Str × D => ∃ v u, mg p.1 = some u ∧ RelV v u ∧ ∀ P τ H, Rep K P τ H v p.2) Ct.cons := ⟨con_tup (ns := [0, 1]) (He.glo_ok X G (c.fact 10 (f := .glo "ZERO") (by kernel_rfl))) (exb_ZERO more), con_tup (ns := [1, 1]) (He.glo_ok X G (c.fact 11 (f := .glo "ONE") (by kernel_rfl))) (exb_ONE more), con_int X G (c.fact 20 (f := .int "MOST_LETTERS" 9) (by kernel_rfl)), con_int X G (c.fact 21 (f := .int "MOST_WORD" 60) (by kernel_rfl)), con_int X G (c.fact 23 (f := .int "MOST_TERMS" 6000) (by kernel_rfl)), con_int X G (c.fact 24 (f := .int "MOST_DEPTH" 10) (by kernel_rfl)), con_int X G (c.fact 38 (f := .int "MOST_STEPS" 12) (by kernel_rfl)), con_int X G (c.fact 39 (f := .int "MOST_SPACE" 4) (by kernel_rfl)), trivial⟩
  have hf : Vf.AllP (fun x : Str => mg x = none) Ct.free := ⟨He.free_ok X G (c.fact 91 (f := .free "ValueError") (by kernel_rfl)), He.free_ok X G (c.fact 92 (f := .free "abs") (by kernel_rfl)), He.free_ok X G (c.fact 93 (f := .free "all") (by kernel_rfl)), He.free_ok X G (c.fact 94 (f := .free "any") (by kernel_rfl)), He.free_ok X G (c.fact 95 (f := .free "bool") (by kernel_rfl)), He.free_ok X G (c.fact 96 (f := .free "enumerate") (by kernel_rfl)), He.free_ok X G (c.fact 97 (f := .free "int") (by kernel_rfl)), He.free_ok X G (c.fact 98 (f := .free "isinstance") (by kernel_rfl)), He.free_ok X G (c.fact 99 (f := .free "len") (by kernel_rfl)), He.free_ok X G (c.fact 100 (f := .free "list") (by kernel_rfl)), He.free_ok X G (c.fact 101 (f := .free "range") (by kernel_rfl)), He.free_ok X G (c.fact 102 (f := .free "sorted") (by kernel_rfl)), He.free_ok X G (c.fact 103 (f := .free "str") (by kernel_rfl)), He.free_ok X G (c.fact 104 (f := .free "tuple") (by kernel_rfl)), He.free_ok X G (c.fact 105 (f := .free "zip") (by kernel_rfl)), trivial⟩
  have hl : Vf.AllP (fun x : Str => LenFn K mg x) Ct.lenk := ⟨by
    obtain ⟨fd, F_key⟩ := c.def_ 11 (d := ⟨("key", none), "key", "key", defArgs (top 26), defBody (top 26), defScope (top 26), [], []⟩) (by kernel_rfl)
    exact ⟨He.ga K "key", fd, _, _, _, _, _, _, He.glo_ok X G (c.fact 27 (f := .glo "key") (by kernel_rfl)), He.free_ok X G (c.fact 99 (f := .free "len") (by kernel_rfl)), F_key, (F_key.bindsN (ps := ["word"]) fun _ _ _ _ _ _ us hl => match us, hl with | [_], _ => rfl), lenKeyB_ok s_key l_key⟩, trivial⟩
  refine ⟨fun x i hx => hd.mem _ (lookup_memS hx), fun x d hx => hc.mem _ (lookup_memS hx), hf.mem, hl.mem, fun i x hx => ?_, fun i j x y hx hy => ?_⟩
  · match i, hx with
    | 0, hx =>
      cases (Option.some.inj hx)
      exact exc_of (c.fact 1 (f := .exc "BracketError") (by kernel_rfl)) (He.glo_ok X G (c.fact 0 (f := .glo "BracketError") (by kernel_rfl)))
    | 1, hx =>
      cases (Option.some.inj hx)
      exact exc_of (c.fact 3 (f := .exc "BadNumber") (by kernel_rfl)) (He.glo_ok X G (c.fact 2 (f := .glo "BadNumber") (by kernel_rfl)))
    | 2, hx =>
      cases (Option.some.inj hx)
      exact exc_of (c.fact 5 (f := .exc "BadSum") (by kernel_rfl)) (He.glo_ok X G (c.fact 4 (f := .glo "BadSum") (by kernel_rfl)))
    | 3, hx =>
      cases (Option.some.inj hx)
      exact exc_of (c.fact 7 (f := .exc "BadRow") (by kernel_rfl)) (He.glo_ok X G (c.fact 6 (f := .glo "BadRow") (by kernel_rfl)))
    | 4, hx =>
      cases (Option.some.inj hx)
      exact exc_of (c.fact 9 (f := .exc "BadSize") (by kernel_rfl)) (He.glo_ok X G (c.fact 8 (f := .glo "BadSize") (by kernel_rfl)))
    | (n + 5), hx => cases hx
  · match i, hx, j, hy with
    | 0, hx, 0, hy => exact He.exm_ok (c.fact 66 (f := .exm "BracketError" "BracketError" true) (by kernel_rfl))
    | 0, hx, 1, hy => exact He.exm_ok (c.fact 67 (f := .exm "BracketError" "BadNumber" false) (by kernel_rfl))
    | 0, hx, 2, hy => exact He.exm_ok (c.fact 68 (f := .exm "BracketError" "BadSum" false) (by kernel_rfl))
    | 0, hx, 3, hy => exact He.exm_ok (c.fact 69 (f := .exm "BracketError" "BadRow" false) (by kernel_rfl))
    | 0, hx, 4, hy => exact He.exm_ok (c.fact 70 (f := .exm "BracketError" "BadSize" false) (by kernel_rfl))
    | 0, hx, (m + 5), hy => cases hy
    | 1, hx, 0, hy => exact He.exm_ok (c.fact 71 (f := .exm "BadNumber" "BracketError" true) (by kernel_rfl))
    | 1, hx, 1, hy => exact He.exm_ok (c.fact 72 (f := .exm "BadNumber" "BadNumber" true) (by kernel_rfl))
    | 1, hx, 2, hy => exact He.exm_ok (c.fact 73 (f := .exm "BadNumber" "BadSum" false) (by kernel_rfl))
    | 1, hx, 3, hy => exact He.exm_ok (c.fact 74 (f := .exm "BadNumber" "BadRow" false) (by kernel_rfl))
    | 1, hx, 4, hy => exact He.exm_ok (c.fact 75 (f := .exm "BadNumber" "BadSize" false) (by kernel_rfl))
    | 1, hx, (m + 5), hy => cases hy
    | 2, hx, 0, hy => exact He.exm_ok (c.fact 76 (f := .exm "BadSum" "BracketError" true) (by kernel_rfl))
    | 2, hx, 1, hy => exact He.exm_ok (c.fact 77 (f := .exm "BadSum" "BadNumber" false) (by kernel_rfl))
    | 2, hx, 2, hy => exact He.exm_ok (c.fact 78 (f := .exm "BadSum" "BadSum" true) (by kernel_rfl))
    | 2, hx, 3, hy => exact He.exm_ok (c.fact 79 (f := .exm "BadSum" "BadRow" false) (by kernel_rfl))
    | 2, hx, 4, hy => exact He.exm_ok (c.fact 80 (f := .exm "BadSum" "BadSize" false) (by kernel_rfl))
    | 2, hx, (m + 5), hy => cases hy
    | 3, hx, 0, hy => exact He.exm_ok (c.fact 81 (f := .exm "BadRow" "BracketError" true) (by kernel_rfl))
    | 3, hx, 1, hy => exact He.exm_ok (c.fact 82 (f := .exm "BadRow" "BadNumber" false) (by kernel_rfl))
    | 3, hx, 2, hy => exact He.exm_ok (c.fact 83 (f := .exm "BadRow" "BadSum" false) (by kernel_rfl))
    | 3, hx, 3, hy => exact He.exm_ok (c.fact 84 (f := .exm "BadRow" "BadRow" true) (by kernel_rfl))
    | 3, hx, 4, hy => exact He.exm_ok (c.fact 85 (f := .exm "BadRow" "BadSize" false) (by kernel_rfl))
    | 3, hx, (m + 5), hy => cases hy
    | 4, hx, 0, hy => exact He.exm_ok (c.fact 86 (f := .exm "BadSize" "BracketError" true) (by kernel_rfl))
    | 4, hx, 1, hy => exact He.exm_ok (c.fact 87 (f := .exm "BadSize" "BadNumber" false) (by kernel_rfl))
    | 4, hx, 2, hy => exact He.exm_ok (c.fact 88 (f := .exm "BadSize" "BadSum" false) (by kernel_rfl))
    | 4, hx, 3, hy => exact He.exm_ok (c.fact 89 (f := .exm "BadSize" "BadRow" false) (by kernel_rfl))
    | 4, hx, 4, hy => exact He.exm_ok (c.fact 90 (f := .exm "BadSize" "BadSize" true) (by kernel_rfl))
    | 4, hx, (m + 5), hy => cases hy
    | (n + 5), hx, _, _ => cases hx
end
end HL
namespace HL
open PySem PySem.Spec PyProof.Rows L2 Vf
theorem whole {P : Program} {w : World} {K : PySem.W.Frag} {h : Heap} {mg : Str → Option Value} {f : Addr} (X : K.In h) (G : h.Ns mainGlobals mg) (hfa : mg ("law" : Str) = some (.ref f)) (c : He.SaysD fa fn K) (more : exB K = true) :
    ∃ fd : FuncData, (∀ (s : Shared) (v : Value), BindsTo s fd ⟨[v], []⟩ [("script", v)]) ∧ ∀ base : Heap, FnOk P w K mg base (L2.CX P w) 31 f fd ["script"] (spLaw K 63) := by
  obtain ⟨fd, F_law⟩ := c.def_ 47 (d := ⟨("law", none), "law", "law", defArgs (top 68), defBody (top 68), defScope (top 68), [], []⟩) (by kernel_rfl)
  obtain ⟨fdt, F__law_tape⟩ := c.def_ 31 (d := ⟨("_law_tape", none), "_law_tape", "_law_tape", defArgs (top 52), defBody (top 52), defScope (top 52), [], []⟩) (by kernel_rfl)
  have e := hfa.symm.trans (He.glo_ok X G (c.fact 65 (f := .glo "law") (by kernel_rfl)))
  cases e
  have b := FunD.bindsA (ps := ["script"]) F_law fun _ _ _ _ _ _ us hl => match us, hl with | [_], _ => rfl
  refine ⟨fd, fun s v => b s [v] rfl, fun base => ?_⟩
  exact law_ok (all_ok (mdl X G c more base) 30) F_law s_law c_law (He.glo_ok X G (c.fact 49 (f := .glo "_law_tape") (by kernel_rfl))) F__law_tape.kp (F__law_tape.bindsN (ps := ["script"]) fun _ _ _ _ _ _ us hl => match us, hl with | [_], _ => rfl)
    (tape_ok F__law_tape s__law_tape t__law_tape c__law_tape (He.free_ok X G (c.fact 92 (f := .free "abs") (by kernel_rfl))) (He.free_ok X G (c.fact 97 (f := .free "int") (by kernel_rfl)))) (by decide) math
end HL
open PySem PySem.W PySem.Calls PyProof.Rows in
theorem PySem.Challenge.cw_bracketwords_k62_whole_paths_that_are_sh_holds : PySem.Challenge.rw_bracketwords_k62_whole_paths_that_are_sh.Holds := by
  w_on; o_law
  refine HandSHeadRun.head_any (r := OpenLaw.row PySem.Challenge.rw_bracketwords_k62_whole_paths_that_are_sh) (q := view (OpenLaw.row PySem.Challenge.rw_bracketwords_k62_whole_paths_that_are_sh).prog [68]) (H := HL.hk) (ob := HL.ob) (M := 4000) (loose := HL.loose) (d := HandSHeadRun.topDef (OpenLaw.row PySem.Challenge.rw_bracketwords_k62_whole_paths_that_are_sh).prog 68) (kwd := []) HL.ob_eq
    (by kernel_rfl) (fun s => by kernel_rfl) HL.run (by kernel_rfl) (by kernel_rfl) (by kernel_rfl) (by rfl) (by first | assumption | decide +kernel) (by decide +kernel) ⟨rfl, rfl, rfl, rfl, rfl, by decide +kernel⟩ ?hw ?hc
  case hw => w_witness2
  case hc =>
    refine Vf.walk_ofX (l := PySem.Challenge.rw_bracketwords_k62_whole_paths_that_are_sh) (n := 63) (k := 31) (x := "script") rfl (by decide) (by kernel_rfl) ⟨rfl, by decide, by decide⟩ ?F
    intro w mg fa h Y G hmg0
    obtain ⟨K, KX, c⟩ := Y
    have hmg : mg ("law" : PySem.Str) = some (.ref fa) := by
      have e : (HandSHeadRun.topDef (OpenLaw.row PySem.Challenge.rw_bracketwords_k62_whole_paths_that_are_sh).prog 68).name = ("law" : PySem.Str) := by kernel_rfl
      rw [← e]
      exact hmg0
    obtain ⟨fd, hb, hF⟩ := HL.whole (P := (PySem.Challenge.rw_bracketwords_k62_whole_paths_that_are_sh).prog) (w := w) KX G hmg c.t.d c.more
    exact ⟨K, fd, Vf.spLaw K 63, KX, hb, fun H a ns hl _ hS => ⟨rfl, a, ns, hl, rfl, hS, fun _ => rfl⟩, fun base _ _ => hF base⟩
