import PyProof.Rows.All
import Wide.All
import OpenK.AllK
import Wide.FinOn
import HandS.ForMost
import HandS.Lambda
import HandS.Head2
import HandS.HeadHook2
import HandS.HeadHook4
import HandS.HeadWalk
import HandS.NoneIn
import PyProof.ExcBaseAll.ValueError
import HandS.TupAny
import HandS.TupMul
import HandS.Wide
import HandS.IsInst
import HandS.Deep
import HandS.Dict
import HandS.More
import HandS.TupSets
import HandS.CallLocal
import HandS.Exc
import HandS.ExcOwn
import HandS.WordsExc
import HandS.ExcCtx
import KE.GoesNew
import HandS.Comp
import HandS.Iter
import HandS.DictComp
import HandS.Style
import HandS.ForDict
import HandS.RevTup
import HandS.Strs
import KE.KDictSum
import HandS.Conv
import HandS.HotCalls
import PyProof.EnumIter
import HandS.ExcIs
import PySem.Challenge.RW_pinkeys_k03_keys_of_a_lock
set_option Elab.async false
set_option linter.all false
set_option maxRecDepth 100000
set_option maxHeartbeats 0
set_option exponentiation.threshold 3000
section
/-! Pk1: data trees, a small code of the program's own syntax, and what it computes (no heap in sight). -/
namespace Pk
open PySem L2

/-- a value as a tree -/
inductive D where
  | non | bl (b : Bool) | int (i : Int) | str (x : Str)
  | tup (l : List D) | lst (l : List D)
  | dk (l : List (Key × D)) | dt (l : List (List Key × D))
  | fn (f : Nat) | scr (l : List Int)
  deriving Inhabited

/-- how a run ends -/
inductive Out (A : Type) where
  | ok (a : A) | exc (c : Nat) (p : D) | bad
def Out.bind {A B : Type} : Out A → (A → Out B) → Out B
  | .ok a, f => f a
  | .exc c p, _ => .exc c p
  | .bad, _ => .bad
@[simp] theorem Out.bind_ok {A B : Type} (a : A) (f : A → Out B) : (Out.ok a).bind f = f a := rfl
@[simp] theorem Out.bind_exc {A B : Type} (c : Nat) (p : D) (f : A → Out B) : (Out.exc c p : Out A).bind f = .exc c p := rfl
@[simp] theorem Out.bind_bad {A B : Type} (f : A → Out B) : (Out.bad : Out A).bind f = .bad := rfl
def Out.of {A : Type} : Option A → Out A
  | some a => .ok a
  | none => .bad
@[simp] theorem Out.of_some {A : Type} (a : A) : Out.of (some a) = .ok a := rfl
@[simp] theorem Out.of_none {A : Type} : (Out.of (none : Option A)) = .bad := rfl

/-- a value that an expression gives: a new list or dict that nobody else holds, or any -/
inductive Vl where
  | fro (d : D) | own (d : D)
def Vl.d : Vl → D
  | .fro d => d
  | .own d => d
@[simp] theorem Vl.d_fro (d : D) : (Vl.fro d).d = d := rfl
@[simp] theorem Vl.d_own (d : D) : (Vl.own d).d = d := rfl
/-- what a name holds: nothing known, a value that never changes, a list or dict of the def's own, the well that was handed in -/
inductive Sl where
  | un | fro (d : D) | own (d : D) | well
def Vl.sl : Vl → Sl
  | .fro d => .fro d
  | .own d => .own d
structure En where
  s : List Sl
  w : List D

/-! ### the code -/
inductive BOp where | add | sub | mul | mod | fdiv | pow
inductive COp where | lt | le | gt | ge | eq | ne | isN | notN | mem | nmem
inductive Bl where | len | abs | int | max | min | sum | all | any | sorted | tuple | list | str | bool | dict
inductive Ty where | int | bool | str | tuple | list | tl
inductive Mt where | get | index | join | values | split | upper
inductive Tg where
  | one (i : Nat) | two (a b : Tg) | three (a b c : Tg)
mutual
inductive Ex where
  | const (d : D) | name (i : Nat) | glob (g : Nat)
  | tup (es : Exs) | lst (es : Exs) | dict0 (tk : Bool) | dict1 (k v : Ex)
  | bin (op : BOp) (a b : Ex) | neg (a : Ex)
  | cmp (op : COp) (a b : Ex) | cmp2 (p q : COp) (a b c : Ex)
  | and (a b : Ex) | or (a b : Ex) | not (a : Ex) | ite (t a b : Ex)
  | call (f : Nat) (es : Exs) | callw (f i : Nat) (es : Exs) | callv (i : Nat) (es : Exs)
  | blt (b : Bl) (es : Exs) | isi (t : Ty) (a : Ex)
  | sub (a i : Ex) | slice (a : Ex) (lo hi : Eo) | rev (a : Ex) | revb (a : Ex)
  | lc (elt : Ex) (own : List Nat) (tg : Tg) (it : It) (c : Eo)
  | lc2 (elt : Ex) (own own1 : List Nat) (tg : Tg) (it : It) (c : Eo) (tg1 : Tg) (it1 : It) (c1 : Eo)
  | dc (k v : Ex) (own : List Nat) (tg : Tg) (it : It)
  | meth (m : Mt) (o : Ex) (es : Exs)
  | sumv (a : Ex) | lci (elt : Ex) (own : List Nat) (tg : Tg) (kd : Bool) (i : Nat) (c : Eo)
  | sset (a : Ex) | lset (a : Ex) | tupr (a : Ex) | caught (fz : List Nat) (e : Ex)
inductive Exs where
  | nil | cons (e : Ex) (r : Exs)
inductive Eo where
  | none | some (e : Ex)
inductive It where
  | seq (e : Ex) | range1 (a : Ex) | range2 (a b : Ex) | range3 (a b : Ex) (c : Int) | zip (a b : Ex) | zip3 (a b c : Ex) | zips (a : Ex) | enum (a : Ex) | items (a : Ex) | keys (a : Ex) | enumzip (a b : Ex)
end
mutual
inductive Sm where
  | set (i : Nat) (e : Ex) | setT (tg : Tg) (e : Ex) | par (i j : Nat) (a b : Ex) | par3 (i j k : Nat) (a b c : Ex)
  | store (i : Nat) (ix e : Ex) | putd (i : Nat) (ix e : Ex) | fori (tg : Tg) (i : Nat) (b : Sms) | append (i : Nat) (e : Ex) | extend (i : Nat) (e : Ex) | expr (e : Ex)
  | ite (t : Ex) (a b : Sms) | for_ (tg : Tg) (it : It) (b : Sms) | while_ (t : Ex) (b : Sms)
  | ret (e : Ex) | retN | raise (c : Nat) (x : Str) | raiseP (c : Nat) (e : Ex) | brk | pass
inductive Sms where
  | nil | cons (s : Sm) (r : Sms)
end

/-! ### values -/
mutual
def D.toP : D → PyData
  | .non => .none
  | .bl b => .bool b
  | .int i => .int i
  | .str x => .str x
  | .tup l => .tuple (D.toPs l)
  | .lst l => .list (D.toPs l)
  | .dk _ => .none
  | .dt _ => .none
  | .fn _ => .none
  | .scr _ => .none
def D.toPs : List D → List PyData
  | [] => []
  | d :: l => D.toP d :: D.toPs l
end
mutual
/-- None, bools, ints, texts, lists and tuples of such -/
def D.plain : D → Bool
  | .non => true
  | .bl _ => true
  | .int _ => true
  | .str x => PyData.canLay0 (.str x)
  | .tup l => D.plains l
  | .lst l => D.plains l
  | .dk _ => false
  | .dt _ => false
  | .fn _ => false
  | .scr _ => false
def D.plains : List D → Bool
  | [] => true
  | d :: l => D.plain d && D.plains l
end
mutual
def D.deep : D → Nat
  | .tup l => D.deeps l + 1
  | .lst l => D.deeps l + 1
  | _ => 0
def D.deeps : List D → Nat
  | [] => 0
  | d :: l => max (D.deep d) (D.deeps l)
end
mutual
/-- Python's == -/
def D.eqv : D → D → Bool
  | .non, .non => true
  | .bl a, .bl b => a == b
  | .bl a, .int j => (if a then 1 else 0) == j
  | .int i, .bl b => i == (if b then 1 else 0)
  | .int i, .int j => i == j
  | .str x, .str y => x == y
  | .lst xs, .lst ys => D.eqvs xs ys
  | .tup xs, .tup ys => D.eqvs xs ys
  | _, _ => false
def D.eqvs : List D → List D → Bool
  | [], [] => true
  | x :: xs, y :: ys => D.eqv x y && D.eqvs xs ys
  | _, _ => false
end
abbrev lim : Nat := 16777216
/-- ==, where the model's rule serves -/
def eqD (a b : D) : Option Bool := if a.plain && b.plain && decide (min a.deep b.deep ≤ 60) then some (D.eqv a b) else none
def seqD : D → Option (List D)
  | .lst l => some l
  | .tup l => some l
  | _ => none
def strD : D → Option Str
  | .str x => some x
  | _ => none
def intD : D → Option Int
  | .int i => some i
  | _ => none
def blD : D → Option Bool
  | .bl b => some b
  | _ => none
def intsD : List D → Option (List Int)
  | [] => some []
  | .int i :: l => (intsD l).map (i :: ·)
  | _ :: _ => none
def blsD : List D → Option (List Bool)
  | [] => some []
  | .bl i :: l => (blsD l).map (i :: ·)
  | _ :: _ => none
def strsD : List D → Option (List Str)
  | [] => some []
  | .str i :: l => (strsD l).map (i :: ·)
  | _ :: _ => none
/-- the key of a dict -/
def keyD : D → Option Key
  | .int i => some (.inl i)
  | .str x => some (.inr x)
  | _ => none
def keysD : List D → Option (List Key)
  | [] => some []
  | d :: l => match keyD d, keysD l with
    | some k, some r => some (k :: r)
    | _, _ => none
def tkeyD : D → Option (List Key)
  | .tup l => keysD l
  | _ => none
def lookK {K V : Type} [DecidableEq K] (k : K) (l : List (K × V)) : Option V := (l.find? fun p => decide (p.1 = k)).map (·.2)
def putK {K V : Type} [DecidableEq K] (k : K) (v : V) (l : List (K × V)) : List (K × V) :=
  if l.any (fun p => decide (p.1 = k)) then l.map (fun p => if p.1 = k then (p.1, v) else p) else l ++ [(k, v)]
def bitsOk (i j : Int) : Bool := decide (i.natAbs.log2 + j.natAbs.log2 < 500000)

def addD : D → D → Option Vl
  | .int i, .int j => some (.fro (.int (i + j)))
  | .str x, .str y => if x.length + y.length ≤ lim then some (.fro (.str (x ++ y))) else none
  | .tup a, .tup b => if a.length + b.length ≤ lim then some (.fro (.tup (a ++ b))) else none
  | .lst a, .lst b => if a.length + b.length ≤ lim then some (.own (.lst (a ++ b))) else none
  | _, _ => none
def minD : D → D → Option Vl
  | .int i, .int j => some (.fro (.int (i - j)))
  | _, _ => none
def mulD : D → D → Option Vl
  | .int i, .int j => if bitsOk i j then some (.fro (.int (i * j))) else none
  | .tup a, .int k => if a ≠ [] ∧ 2 ≤ k ∧ k ≤ 1000 ∧ a.length ≤ 1000 then some (.fro (.tup (List.replicate k.toNat a).flatten)) else none
  | .lst a, .int k => if 0 ≤ k ∧ k ≤ 1000 ∧ a.length ≤ 1000 then some (.own (.lst (List.replicate k.toNat a).flatten)) else none
  | _, _ => none
def modD : D → D → Option Vl
  | .int i, .int j => if 0 < j then some (.fro (.int (i % j))) else none
  | _, _ => none
def fdivD : D → D → Option Vl
  | .int i, .int j => if 0 < j ∧ j < 1073741824 then some (.fro (.int (i / j))) else none
  | _, _ => none
def powD : D → D → Option Vl
  | .int i, .int j => if 0 ≤ j ∧ j ≤ 1000 ∧ i.natAbs < 1000 then some (.fro (.int (i ^ j.toNat))) else none
  | _, _ => none
def binop : BOp → D → D → Option Vl
  | .add => addD
  | .sub => minD
  | .mul => mulD
  | .mod => modD
  | .fdiv => fdivD
  | .pow => powD
def memD (x : D) : D → Option Bool
  | .lst l => if x.plain && D.plains l && decide (x.deep ≤ 60) then some (l.any fun z => D.eqv z x) else none
  | .tup l => if x.plain && D.plains l && decide (x.deep ≤ 60) then some (l.any fun z => D.eqv z x) else none
  | .dk l => (keyD x).map fun k => (lookK k l).isSome
  | .dt l => (tkeyD x).map fun k => (lookK k l).isSome
  | _ => none
def cmpI (f : Int → Int → Bool) : D → D → Option Bool
  | .int i, .int j => some (f i j)
  | _, _ => none
/-- < of ints, of tuples of ints -/
def ltD : D → D → Option Bool
  | .int i, .int j => some (decide (i < j))
  | .tup a, .tup b => match intsD a, intsD b with
    | some x, some y => some (HT.lexLt x y)
    | _, _ => none
  | _, _ => none
def isNonD : D → Bool
  | .non => true
  | _ => false
def cmpop : COp → D → D → Option Bool
  | .lt, a, b => ltD a b
  | .le, a, b => cmpI (fun i j => decide (i ≤ j)) a b
  | .gt, a, b => cmpI (fun i j => decide (j < i)) a b
  | .ge, a, b => cmpI (fun i j => decide (j ≤ i)) a b
  | .eq, a, b => eqD a b
  | .ne, a, b => (eqD a b).map (!·)
  | .isN, a, b => if isNonD b then some (isNonD a) else none
  | .notN, a, b => if isNonD b then some (!isNonD a) else none
  | .mem, x, c => memD x c
  | .nmem, x, c => (memD x c).map (!·)
def isT : Ty → D → Option Bool
  | _, .fn _ => none
  | _, .scr _ => none
  | _, .dk _ => none
  | _, .dt _ => none
  | .int, .int _ => some true
  | .int, .bl _ => some true
  | .bool, .bl _ => some true
  | .str, .str _ => some true
  | .tuple, .tup _ => some true
  | .list, .lst _ => some true
  | .tl, .tup _ => some true
  | .tl, .lst _ => some true
  | _, _ => some false
def cutD (xs : List D) (lo hi : Option Int) : List D := (xs.drop (HT.sIx xs.length 0 lo)).take (HT.sIx xs.length xs.length hi - HT.sIx xs.length 0 lo)
def sliceD (x : D) (lo hi : Option Int) : Option Vl := match x with
  | .lst l => some (.own (.lst (cutD l lo hi)))
  | .tup l => some (.fro (.tup (cutD l lo hi)))
  | _ => none
def subD (a i : D) : Option D := match a, i with
  | .lst l, .int k => atI l k
  | .tup l, .int k => atI l k
  | .scr l, .int k => (atI l k).map .int
  | .dk l, k => (keyD k).bind fun k => lookK k l
  | .dt l, k => (tkeyD k).bind fun k => lookK k l
  | _, _ => none
/-- an insertion into an ascending list without doubles -/
def insI (x : Int) : List Int → List Int
  | [] => [x]
  | y :: l => if x < y then x :: y :: l else if x = y then y :: l else y :: insI x l
/-- sorted(set(..)) of ints -/
def ssetI : List Int → List Int
  | [] => []
  | x :: l => insI x (ssetI l)
/-- sorted(..) of ints -/
def insL (x : Int) : List Int → List Int
  | [] => [x]
  | y :: l => if x ≤ y then x :: y :: l else y :: insL x l
def sortI : List Int → List Int
  | [] => []
  | x :: l => insL x (sortI l)
/-- how many keys (tuples of ints), or ints, a list holds, doubles aside -/
def distinct {A : Type} [DecidableEq A] : List A → List A
  | [] => []
  | x :: l => if x ∈ l then distinct l else x :: distinct l
def tkeysD : List D → Option (List (List Key))
  | [] => some []
  | d :: l => match tkeyD d, tkeysD l with
    | some k, some r => some (k :: r)
    | _, _ => none
def lsetD : D → Option Nat
  | .lst l => if l.length < 64 then (tkeysD l).map fun ks => (distinct ks).length else none
  | .tup l => if l.length < 64 then (tkeysD l).map fun ks => (distinct ks).length else none
  | _ => none
def dcD : List D → List (Key × D) → Option (List (Key × D))
  | [], acc => some acc
  | k :: v :: r, acc => (keyD k).bind fun k => dcD r (putK k v acc)
  | [_], _ => none
/-- tuples of ints -/
def tupsD : List D → Option (List (List Int))
  | [] => some []
  | .tup l :: r => match intsD l, tupsD r with
    | some x, some y => some (x :: y)
    | _, _ => none
  | _ :: _ => none
def insT (x : List Int) : List (List Int) → List (List Int)
  | [] => [x]
  | y :: l => if HT.lexLt y x then y :: insT x l else x :: y :: l
/-- sorted(..) of tuples of ints of one length -/
def sortT : List (List Int) → List (List Int)
  | [] => []
  | x :: l => insT x (sortT l)
def tupOk (d : Nat) (ts : List (List Int)) : Bool := ts.all fun t => decide (t.length = d) && t.all fun m => decide (0 ≤ m) && decide (m < 1048576)
def mkT (t : List Int) : D := .tup (t.map .int)
def sortD (l : List D) : Option Vl := match intsD l with
  | some ns => some (.own (.lst ((sortI ns).map .int)))
  | none => match tupsD l with
    | some (t :: ts) => if 1 ≤ t.length ∧ tupOk t.length (t :: ts) = true then some (.own (.lst ((sortT (t :: ts)).map mkT))) else none
    | _ => none
/-- the pairs of a list, for dict(..) -/
def pairsD : List D → Option (List (Key × D))
  | [] => some []
  | .tup [k, v] :: l => match keyD k, pairsD l with
    | some k, some r => some ((k, v) :: r)
    | _, _ => none
  | _ :: _ => none
def mergeD (acc more : List (Key × D)) : List (Key × D) := more.foldl (fun acc kv => putK kv.1 kv.2 acc) acc
def ikeysD : List (Key × D) → Option (List Int)
  | [] => some []
  | (.inl i, _) :: l => (ikeysD l).map (i :: ·)
  | _ :: _ => none
def bltop : Bl → List D → Option Vl
  | .len, [.lst l] => some (.fro (.int l.length))
  | .len, [.tup l] => some (.fro (.int l.length))
  | .len, [.scr l] => some (.fro (.int l.length))
  | .len, [.str x] => if x.length ≤ lim then some (.fro (.int x.length)) else none
  | .abs, [.int i] => some (.fro (.int (if i < 0 then -i else i)))
  | .int, [.int i] => some (.fro (.int i))
  | .int, [.bl b] => some (.fro (.int (if b then 1 else 0)))
  | .max, [.int i, .int j] => some (.fro (.int (if j > i then j else i)))
  | .min, [.int i, .int j] => some (.fro (.int (if j < i then j else i)))
  | .sum, [.lst l] => (intsD l).map fun ns => .fro (.int ns.sum)
  | .all, [.lst l] => (blsD l).map fun bs => .fro (.bl (bs.all id))
  | .any, [.lst l] => (blsD l).map fun bs => .fro (.bl (bs.any id))
  | .sorted, [.lst l] => if l.length < 64 then sortD l else none
  | .sorted, [.dk l] => if l.length < 64 then (ikeysD l).map fun ns => .own (.lst ((sortI ns).map .int)) else none
  | .dict, [.lst l] => (pairsD l).map fun kvs => .own (.dk (mergeD [] kvs))
  | .tuple, [.lst l] => some (.fro (.tup l))
  | .tuple, [.tup l] => some (.fro (.tup l))
  | .list, [.lst l] => some (.own (.lst l))
  | .list, [.tup l] => some (.own (.lst l))
  | _, _ => none
def asgT : Tg → D → List Sl → Option (List Sl)
  | .one i, d, s => match s.getD i .well with
    | .well => none
    | _ => some (s.set i (.fro d))
  | .two a b, d, s => match d with
    | .tup [x, y] => (asgT a x s).bind fun s => asgT b y s
    | .lst [x, y] => (asgT a x s).bind fun s => asgT b y s
    | _ => none
  | .three a b c, d, s => match d with
    | .tup [x, y, z] => (asgT a x s).bind fun s => (asgT b y s).bind fun s => asgT c z s
    | _ => none

/-! ### names -/
def En.rd (e : En) (i : Nat) : Out (Vl × En) := match e.s.getD i .un with
  | .fro d => .ok (.fro d, e)
  | .own d => .ok (.fro d, { e with s := e.s.set i (.fro d) })
  | _ => .bad
def En.pk (e : En) (i : Nat) : Out D := match e.s.getD i .un with
  | .fro d => .ok d
  | .own d => .ok d
  | .well => .ok (.lst e.w)
  | .un => .bad
/-- a value is stored at a name -/
def En.st (e : En) (i : Nat) (v : Vl) : Out En := match e.s.getD i .well with
  | .well => .bad
  | _ => .ok { e with s := e.s.set i v.sl }
def wipeS (own : List Nat) (s : List Sl) : List Sl := match own with
  | [] => s
  | i :: r => (wipeS r s).set i .un
/-- the slots own may be hidden: none is a list of the def's own, or the well -/
def hidS (own : List Nat) (s : List Sl) : Bool := own.all fun i => match s.getD i .well with
  | .un => true
  | .fro _ => true
  | _ => false
def backS (own : List Nat) (old new : List Sl) : List Sl := match own with
  | [] => new
  | i :: r => (backS r old new).set i (old.getD i .un)
def Ex.nameI : Ex → Option Nat
  | .name i => some i
  | _ => none
/-- an operand: a name is read when the operation is done -/
def fin (a : Ex) (o : D) (e : En) : Out D := match a.nameI with
  | some i => e.pk i
  | none => .ok o

/-- an error that leaves a comprehension is not served -/
def noexc {A : Type} : Out A → Out A
  | .exc _ _ => .bad
  | r => r
@[simp] theorem noexc_ok {A : Type} (a : A) : noexc (Out.ok a) = .ok a := rfl
abbrev Fns := Nat → List D → List D → Out (Vl × List D)

/-! ### loops -/
inductive Fl where
  | nx | rt (v : Vl) | bk
def lcL (own : List Nat) (tg : Tg) (body : En → Out (List D × En)) : List D → En → Out (List D × En)
  | [], e => .ok ([], e)
  | x :: xs, e => match asgT tg x e.s with
    | none => .bad
    | some s => (body { e with s := s }).bind fun (o, e1) => (lcL own tg body xs { e1 with s := wipeS own e1.s }).bind fun (r, e2) => .ok (o ++ r, e2)
def forL (tg : Tg) (body : En → Out (Fl × En)) : List D → En → Out (Fl × En)
  | [], e => .ok (.nx, e)
  | x :: xs, e => match asgT tg x e.s with
    | none => .bad
    | some s => (body { e with s := s }).bind fun (f, e1) => match f with
      | .nx => forL tg body xs e1
      | .bk => .ok (.nx, e1)
      | .rt v => .ok (.rt v, e1)
def whileL (test : En → Out (Bool × En)) (body : En → Out (Fl × En)) : Nat → En → Out (Fl × En)
  | 0, _ => .bad
  | n + 1, e => (test e).bind fun (b, e1) => if b then (body e1).bind fun (f, e2) => (match f with
      | .nx => whileL test body n e2
      | .bk => .ok (.nx, e2)
      | .rt v => .ok (.rt v, e2)) else .ok (.nx, e1)

/-! ### what the code computes -/
structure Gv where
  glob : Nat → Option D
  cv : Nat → Bool
  told : Nat → D → Option D
/-- an operand that is no name is evaluated in its turn -/
def opO (a : Ex) (r : En → Out (Vl × En)) (e : En) : Out (D × En) := match a.nameI with
  | some i => (e.pk i).bind fun _ => .ok (.non, e)
  | none => (r e).bind fun (v, e) => .ok (v.d, e)
def fins : Exs → List D → En → Out (List D)
  | .nil, _, _ => .ok []
  | .cons a r, d :: ds, e => (fin a d e).bind fun x => (fins r ds e).bind fun xs => .ok (x :: xs)
  | .cons _ _, [], _ => .bad
def rangeD (lo hi : Int) : Option (List D) :=
  if -1000000 ≤ lo ∧ lo ≤ 1000000 ∧ -1000000 ≤ hi ∧ hi ≤ 10000000 then some ((List.range (hi - lo).toNat).map fun (i : Nat) => .int (lo + (i : Int))) else none
def rangeC (lo hi c : Int) : Option (List D) :=
  if -1000000 ≤ lo ∧ lo ≤ 1000000 ∧ -1000000 ≤ hi ∧ hi ≤ 1000000 ∧ c = -1 then some ((List.range (lo - hi).toNat).map fun (i : Nat) => .int (lo - (i : Int))) else none
def keyV : Key → D
  | .inl i => .int i
  | .inr x => .str x
def itemsD : D → Option (List D)
  | .dk l => some (l.map fun p => .tup [keyV p.1, p.2])
  | _ => none
def keysOf : D → Option (List D)
  | .dk l => some (l.map fun p => keyV p.1)
  | _ => none
def sgnD (x : Str) : List D := x.cps.toList.map fun c => .str ⟨#[c]⟩
def iterD : D → Option (List D)
  | .lst l => some l
  | .tup l => some l
  | _ => none
def methop : Mt → D → List D → Option Vl
  | .get, .dk l, [k, x] => (keyD k).map fun k => .fro ((lookK k l).getD x)
  | .get, .dt l, [k, x] => (tkeyD k).map fun k => .fro ((lookK k l).getD x)
  | .get, .dk l, [k] => (keyD k).map fun k => .fro ((lookK k l).getD .non)
  | .join, .str x, [.lst l] => (strsD l).map fun ys => .fro (.str (Txt.join x ys))
  | _, _, _ => none
def fzS (fz : List Nat) (s : List Sl) : List Sl := match fz with
  | [] => s
  | i :: r => match (fzS r s).getD i .un with
    | .own d => (fzS r s).set i (.fro d)
    | _ => fzS r s
/-- the names as a lambda's body sees them -/
def lamS (s : List Sl) : List Sl := s.map fun x => match x with
  | .fro d => .fro d
  | _ => .un
def fuel : Nat := 1099511627776
def storeD (x k v : D) : Option D := match x with
  | .lst l => (intD k).bind fun i => (ixN l.length i).map fun j => .lst (l.set j v)
  | _ => none
def putD (x k v : D) : Option D := match x with
  | .dk l => if l.length < lim then (keyD k).map fun k => .dk (putK k v l) else none
  | .dt l => if l.length < lim then (tkeyD k).map fun k => .dt (putK k v l) else none
  | _ => none
def caughtD (G : Gv) (e1 : En) : Out (Vl × En) → Out (Vl × En)
  | .ok (v, _) => .ok (.fro (.tup [.str "told", v.d]), e1)
  | .exc c p => (Out.of (G.told c p)).bind fun d => .ok (.fro d, e1)
  | .bad => .bad
def optI : Option D → Option (Option Int)
  | none => some none
  | some d => (intD d).map some

mutual
def den (F : Fns) (G : Gv) : Ex → En → Out (Vl × En)
  | .const d, e => .ok (.fro d, e)
  | .name i, e => e.rd i
  | .glob g, e => (Out.of (G.glob g)).bind fun d => .ok (.fro d, e)
  | .tup es, e => (dens F G es e).bind fun (ds, e) => .ok (.fro (.tup ds), e)
  | .lst es, e => (dens F G es e).bind fun (ds, e) => .ok (.own (.lst ds), e)
  | .dict0 tk, e => .ok (.own (if tk then .dt [] else .dk []), e)
  | .dict1 k v, e => (den F G k e).bind fun (a, e) => (den F G v e).bind fun (b, e) => (Out.of (tkeyD a.d)).bind fun q => .ok (.own (.dt [(q, b.d)]), e)
  | .bin op a b, e => (opO a (den F G a) e).bind fun (oa, e) => (opO b (den F G b) e).bind fun (ob, e) => (fin a oa e).bind fun x => (fin b ob e).bind fun y => (Out.of (binop op x y)).bind fun v => .ok (v, e)
  | .neg a, e => (opO a (den F G a) e).bind fun (oa, e) => (fin a oa e).bind fun x => (Out.of (intD x)).bind fun i => .ok (.fro (.int (-i)), e)
  | .cmp op a b, e => (opO a (den F G a) e).bind fun (oa, e) => (opO b (den F G b) e).bind fun (ob, e) => (fin a oa e).bind fun x => (fin b ob e).bind fun y => (Out.of (cmpop op x y)).bind fun v => .ok (.fro (.bl v), e)
  | .cmp2 p q a b c, e => (den F G a e).bind fun (x, e) => (den F G b e).bind fun (y, e) => (Out.of (cmpop p x.d y.d)).bind fun v => if v then (den F G c e).bind fun (z, e) => (Out.of (cmpop q y.d z.d)).bind fun v => .ok (.fro (.bl v), e) else .ok (.fro (.bl false), e)
  | .and a b, e => (den F G a e).bind fun (x, e) => (Out.of (blD x.d)).bind fun c => if c then den F G b e else .ok (.fro (.bl false), e)
  | .or a b, e => (den F G a e).bind fun (x, e) => (Out.of (blD x.d)).bind fun c => if c then .ok (.fro (.bl true), e) else den F G b e
  | .not a, e => (den F G a e).bind fun (x, e) => (Out.of (blD x.d)).bind fun c => .ok (.fro (.bl (!c)), e)
  | .ite t a b, e => (den F G t e).bind fun (x, e) => (Out.of (blD x.d)).bind fun c => if c then den F G a e else den F G b e
  | .call f es, e => (dens F G es e).bind fun (ds, e) => (F f ds []).bind fun (v, _) => .ok (v, e)
  | .callw f i es, e => (e.pk i).bind fun _ => (dens F G es e).bind fun (ds, e) => match e.s.getD i .un with
    | .own (.lst l) => (F f ds l).bind fun (v, l') => .ok (v, { e with s := e.s.set i (.own (.lst l')) })
    | .well => (F f ds e.w).bind fun (v, l') => .ok (v, { e with w := l' })
    | _ => .bad
  | .callv i es, e => match e.s.getD i .un with
    | .fro (.fn f) => if G.cv f then (dens F G es e).bind fun (ds, e) => (F f ds []).bind fun (v, _) => .ok (v, e) else .bad
    | _ => .bad
  | .blt b es, e => (densO F G es e).bind fun (ds, e) => (fins es ds e).bind fun ds => (Out.of (bltop b ds)).bind fun v => .ok (v, e)
  | .isi t a, e => (opO a (den F G a) e).bind fun (oa, e) => (fin a oa e).bind fun x => (Out.of (isT t x)).bind fun b => .ok (.fro (.bl b), e)
  | .sub a i, e => (opO a (den F G a) e).bind fun (oa, e) => (opO i (den F G i) e).bind fun (oi, e) => (fin a oa e).bind fun x => (fin i oi e).bind fun y => (Out.of (subD x y)).bind fun v => .ok (.fro v, e)
  | .slice a lo hi, e => (opO a (den F G a) e).bind fun (oa, e) => (deno F G lo e).bind fun (l, e) => (Out.of (optI l)).bind fun l => (deno F G hi e).bind fun (h, e) => (Out.of (optI h)).bind fun h => (fin a oa e).bind fun x => (Out.of (sliceD x l h)).bind fun v => .ok (v, e)
  | .rev a, e => (opO a (den F G a) e).bind fun (oa, e) => (fin a oa e).bind fun x => match x with
    | .lst l => .ok (.own (.lst l.reverse), e)
    | .tup l => .ok (.fro (.tup l.reverse), e)
    | _ => .bad
  | .revb a, e => (opO a (den F G a) e).bind fun (oa, e) => (fin a oa e).bind fun x => match x with
    | .tup l => .ok (.fro (.tup (l.take (l.length - 1)).reverse), e)
    | _ => .bad
  | .lc elt own tg it c, e => (denI F G it e).bind fun (ds, e) => if hidS own e.s then
      (noexc (lcL own tg (fun e => (denC F G c e).bind fun (b, e) => if b then (den F G elt e).bind fun (v, e) => .ok ([v.d], e) else .ok ([], e)) ds { e with s := wipeS own e.s })).bind fun (r, e2) =>
        if r.length ≤ lim then .ok (.own (.lst r), { e2 with s := backS own e.s e2.s }) else .bad
    else .bad
  | .lc2 elt own own1 tg it c tg1 it1 c1, e => (denI F G it e).bind fun (ds, e) => if hidS own e.s then
      (noexc (lcL own tg (fun e => (denC F G c e).bind fun (b, e) => if b then (denI F G it1 e).bind fun (ds1, e) =>
          lcL own1 tg1 (fun e => (denC F G c1 e).bind fun (b, e) => if b then (den F G elt e).bind fun (v, e) => .ok ([v.d], e) else .ok ([], e)) ds1 { e with s := wipeS own1 e.s } else .ok ([], e)) ds { e with s := wipeS own e.s })).bind fun (r, e2) =>
        if r.length ≤ lim then .ok (.own (.lst r), { e2 with s := backS own e.s e2.s }) else .bad
    else .bad
  | .dc k v own tg it, e => (denI F G it e).bind fun (ds, e) => if hidS own e.s then
      (noexc (lcL own tg (fun e => (den F G k e).bind fun (a, e) => (den F G v e).bind fun (b, e) => .ok ([a.d, b.d], e)) ds { e with s := wipeS own e.s })).bind fun (r, e2) =>
        if r.length ≤ lim then (Out.of (dcD r [])).bind fun kvs => .ok (.own (.dk kvs), { e2 with s := backS own e.s e2.s }) else .bad
    else .bad
  | .meth m o es, e => (opO o (den F G o) e).bind fun (oo, e) => (densO F G es e).bind fun (ds, e) => (fin o oo e).bind fun x => (fins es ds e).bind fun ds => (Out.of (methop m x ds)).bind fun v => .ok (v, e)
  | .sumv a, e => (opO a (den F G a) e).bind fun (oa, e) => (fin a oa e).bind fun x => match x with
    | .dk l => (Out.of (intsD (l.map (·.2)))).bind fun ns => .ok (.fro (.int ns.sum), e)
    | _ => .bad
  | .lci elt own tg kd i c, e => (e.rd i).bind fun (v, e) => (Out.of (if kd then itemsD v.d else keysOf v.d)).bind fun ds => if hidS own e.s then
      (noexc (lcL own tg (fun e => (denC F G c e).bind fun (b, e) => if b then (den F G elt e).bind fun (v, e) => .ok ([v.d], e) else .ok ([], e)) ds { e with s := wipeS own e.s })).bind fun (r, e2) =>
        if r.length ≤ lim then .ok (.own (.lst r), { e2 with s := backS own e.s e2.s }) else .bad
    else .bad
  | .sset a, e => (opO a (den F G a) e).bind fun (oa, e) => (fin a oa e).bind fun x => (Out.of (iterD x)).bind fun l => (Out.of (intsD l)).bind fun ns => if ns.length < 64 then .ok (.own (.lst ((ssetI ns).map .int)), e) else .bad
  | .lset a, e => (opO a (den F G a) e).bind fun (oa, e) => (fin a oa e).bind fun x => (Out.of (lsetD x)).bind fun n => .ok (.fro (.int n), e)
  | .tupr a, e => (opO a (den F G a) e).bind fun (oa, e) => (fin a oa e).bind fun x => (Out.of (intD x)).bind fun n => (Out.of (rangeD 0 n)).bind fun l => .ok (.fro (.tup l), e)
  | .caught fz b, e => caughtD G { e with s := fzS fz e.s } (den F G b { s := lamS (fzS fz e.s), w := [] })
def dens (F : Fns) (G : Gv) : Exs → En → Out (List D × En)
  | .nil, e => .ok ([], e)
  | .cons a r, e => (den F G a e).bind fun (v, e) => (dens F G r e).bind fun (ds, e) => .ok (v.d :: ds, e)
def densO (F : Fns) (G : Gv) : Exs → En → Out (List D × En)
  | .nil, e => .ok ([], e)
  | .cons a r, e => (opO a (den F G a) e).bind fun (d, e) => (densO F G r e).bind fun (ds, e) => .ok (d :: ds, e)
def deno (F : Fns) (G : Gv) : Eo → En → Out (Option D × En)
  | .none, e => .ok (none, e)
  | .some a, e => (den F G a e).bind fun (v, e) => .ok (some v.d, e)
def denC (F : Fns) (G : Gv) : Eo → En → Out (Bool × En)
  | .none, e => .ok (true, e)
  | .some a, e => (den F G a e).bind fun (v, e) => (Out.of (blD v.d)).bind fun b => .ok (b, e)
def denI (F : Fns) (G : Gv) : It → En → Out (List D × En)
  | .seq a, e => (den F G a e).bind fun (v, e) => (Out.of (iterD v.d)).bind fun l => .ok (l, e)
  | .range1 a, e => (den F G a e).bind fun (v, e) => (Out.of (intD v.d)).bind fun n => (Out.of (rangeD 0 n)).bind fun l => .ok (l, e)
  | .range2 a b, e => (den F G a e).bind fun (v, e) => (den F G b e).bind fun (u, e) => (Out.of (intD v.d)).bind fun m => (Out.of (intD u.d)).bind fun n => (Out.of (rangeD m n)).bind fun l => .ok (l, e)
  | .range3 a b c, e => (den F G a e).bind fun (v, e) => (den F G b e).bind fun (u, e) => (Out.of (intD v.d)).bind fun m => (Out.of (intD u.d)).bind fun n => (Out.of (rangeC m n c)).bind fun l => .ok (l, e)
  | .zip a b, e => (den F G a e).bind fun (v, e) => (den F G b e).bind fun (u, e) => (Out.of (iterD v.d)).bind fun l => (Out.of (iterD u.d)).bind fun m => .ok (List.zipWith (fun x y => .tup [x, y]) l m, e)
  | .zip3 a b c, e => (den F G a e).bind fun (v, e) => (den F G b e).bind fun (u, e) => (den F G c e).bind fun (w, e) => (Out.of (iterD v.d)).bind fun l => (Out.of (iterD u.d)).bind fun m => (Out.of (iterD w.d)).bind fun n => .ok (List.zipWith (fun x p => .tup [x, p.1, p.2]) l (List.zip m n), e)
  | .zips _, _ => .bad
  | .enum a, e => (den F G a e).bind fun (v, e) => (Out.of (iterD v.d)).bind fun l => .ok (l.zipIdx.map (fun p => .tup [.int (p.2 : Nat), p.1]), e)
  | .items a, e => (den F G a e).bind fun (v, e) => (Out.of (itemsD v.d)).bind fun l => .ok (l, e)
  | .keys a, e => (den F G a e).bind fun (v, e) => (Out.of (keysOf v.d)).bind fun l => .ok (l, e)
  | .enumzip _ _, _ => .bad
end
mutual
def exec (F : Fns) (G : Gv) : Sm → En → Out (Fl × En)
  | .set i x, e => (den F G x e).bind fun (v, e) => (e.st i v).bind fun e => .ok (.nx, e)
  | .setT tg x, e => (den F G x e).bind fun (v, e) => (Out.of (asgT tg v.d e.s)).bind fun s => .ok (.nx, { e with s := s })
  | .par i j a b, e => (den F G a e).bind fun (x, e) => (den F G b e).bind fun (y, e) => (e.st i (.fro x.d)).bind fun e => (e.st j (.fro y.d)).bind fun e => .ok (.nx, e)
  | .par3 i j k a b c, e => (den F G a e).bind fun (x, e) => (den F G b e).bind fun (y, e) => (den F G c e).bind fun (z, e) => (e.st i (.fro x.d)).bind fun e => (e.st j (.fro y.d)).bind fun e => (e.st k (.fro z.d)).bind fun e => .ok (.nx, e)
  | .store i ix x, e => (den F G x e).bind fun (v, e) => (e.pk i).bind fun _ => (den F G ix e).bind fun (k, e) => match e.s.getD i .un with
    | .own d => (Out.of (storeD d k.d v.d)).bind fun d => .ok (.nx, { e with s := e.s.set i (.own d) })
    | .well => (Out.of (storeD (.lst e.w) k.d v.d)).bind fun d => match d with
      | .lst l => .ok (.nx, { e with w := l })
      | _ => .bad
    | _ => .bad
  | .putd i ix x, e => (den F G x e).bind fun (v, e) => (e.pk i).bind fun _ => (den F G ix e).bind fun (k, e) => match e.s.getD i .un with
    | .own d => (Out.of (putD d k.d v.d)).bind fun d => .ok (.nx, { e with s := e.s.set i (.own d) })
    | _ => .bad
  | .fori tg i b, e => (e.rd i).bind fun (v, e) => (Out.of (itemsD v.d)).bind fun ds => noexc (forL tg (execs F G b) ds e)
  | .append i x, e => (e.pk i).bind fun d0 => match d0 with
    | .lst _ => (den F G x e).bind fun (v, e) => match e.s.getD i .un with
      | .own (.lst l) => if l.length < lim then .ok (.nx, { e with s := e.s.set i (.own (.lst (l ++ [v.d]))) }) else .bad
      | _ => .bad
    | _ => .bad
  | .extend i x, e => (e.pk i).bind fun d0 => match d0 with
    | .lst _ => (den F G x e).bind fun (v, e) => match e.s.getD i .un, v.d with
      | .own (.lst l), .lst m => if l.length + m.length ≤ lim then .ok (.nx, { e with s := e.s.set i (.own (.lst (l ++ m))) }) else .bad
      | _, _ => .bad
    | _ => .bad
  | .expr x, e => (den F G x e).bind fun (_, e) => .ok (.nx, e)
  | .ite t a b, e => (den F G t e).bind fun (v, e) => (Out.of (blD v.d)).bind fun c => if c then execs F G a e else execs F G b e
  | .for_ tg it b, e => (denI F G it e).bind fun (ds, e) => forL tg (execs F G b) ds e
  | .while_ t b, e => whileL (fun e => (den F G t e).bind fun (v, e) => (Out.of (blD v.d)).bind fun c => .ok (c, e)) (execs F G b) fuel e
  | .ret x, e => (den F G x e).bind fun (v, e) => .ok (.rt v, e)
  | .retN, e => .ok (.rt (.fro .non), e)
  | .raise c _, _ => .exc c .non
  | .raiseP c x, e => (den F G x e).bind fun (v, _) => .exc c v.d
  | .brk, e => .ok (.bk, e)
  | .pass, e => .ok (.nx, e)
def execs (F : Fns) (G : Gv) : Sms → En → Out (Fl × En)
  | .nil, e => .ok (.nx, e)
  | .cons s r, e => (exec F G s e).bind fun (f, e) => match f with
    | .nx => execs F G r e
    | .bk => .ok (.bk, e)
    | .rt v => .ok (.rt v, e)
end
/-- a def: how many arguments, whether a well is handed in ahead of them, how many names, the body -/
structure Fc where
  n : Nat
  w : Bool
  ns : Nat
  b : Sms
def startS (fc : Fc) (ds : List D) : List Sl := (if fc.w then [.well] else []) ++ ds.map .fro ++ List.replicate (fc.ns - ((if fc.w then 1 else 0) + ds.length)) .un
/-- the well is still where it was -/
def okW (fc : Fc) (e : En) : Bool := match fc.w, e.s.getD 0 .un with
  | false, _ => true
  | true, .well => true
  | true, _ => false
def endR (fc : Fc) : Fl × En → Out (Vl × List D)
  | (.rt v, e) => if okW fc e then .ok (v, e.w) else .bad
  | (.nx, e) => if okW fc e then .ok (.fro .non, e.w) else .bad
  | (.bk, _) => .bad
def run (T : Nat → Option Fc) (G : Gv) : Nat → Fns
  | 0 => fun _ _ _ => .bad
  | k + 1 => fun f ds w => match T f with
    | none => .bad
    | some fc => if ds.length = fc.n then (execs (run T G k) G fc.b ⟨startS fc ds, w⟩).bind (endR fc) else .bad
end Pk

end
section
/-! Pk2: how values and names in the heap stand for trees. -/
namespace Pk
open PySem PySem.Spec PyProof.Rows L2
open LamX (Tabs TabS ExtN CodeO)

/-- who may write at an address -/
inductive Ow where
  | slot (i : Nat) | well | temp | far
abbrev Own := Addr → Option Ow
def setW (w : Own) (a : Addr) (o : Option Ow) : Own := fun b => if b = a then o else w b
theorem setW_same {w : Own} {a : Addr} {o : Option Ow} : setW w a o a = o := by unfold setW; rw [if_pos rfl]
theorem setW_ne {w : Own} {a b : Addr} {o : Option Ow} (h : b ≠ a) : setW w a o b = w b := by unfold setW; rw [if_neg h]

/-- what is the same through the whole run: the text's objects, where the defs stand, the tables of code objects, the classes of errors -/
structure Pm where
  K : PySem.W.Frag
  mf : Nat → Option Addr
  T : List (Addr × Str)
  xc : Nat → Option (Addr × Option Str)
mutual
inductive R (Z : Pm) (w : Own) (H : Hp) : V → D → Prop
  | non : R Z w H .non .non
  | bl (b : Bool) : R Z w H (.bl b) (.bl b)
  | int (i : Int) : R Z w H (.int i) (.int i)
  | str (x : Str) : R Z w H (.str x) (.str x)
  | tup {a : Addr} {vs : List V} {l : List D} : w a = none → H a = some (.tup vs) → Rs Z w H vs l → R Z w H (.ref a) (.tup l)
  | lst {a : Addr} {vs : List V} {l : List D} : w a = none → H a = some (.lst vs) → Rs Z w H vs l → R Z w H (.ref a) (.lst l)
  | dk {a : Addr} {kvs : List (Key × V)} {l : List (Key × D)} : w a = none → Rd H a (.dK kvs) → Rk Z w H kvs l → R Z w H (.ref a) (.dk l)
  | dt {a : Addr} {kvs : List (List Key × V)} {l : List (List Key × D)} : w a = none → Rd H a (.dT kvs) → Rt Z w H kvs l → R Z w H (.ref a) (.dt l)
  | fn {f : Nat} {a : Addr} : Z.mf f = some a → R Z w H (.ref a) (.fn f)
  | scr {a : Addr} {ns : List Int} : w a = none → Rd H a (.lst (ns.map V.int)) → R Z w H (.ref a) (.scr ns)
  | scrK {a : Addr} {ns : List Int} : (∀ H', SqL Z.K H' a (ns.map V.int)) → R Z w H (.ref a) (.scr ns)
inductive Rs (Z : Pm) (w : Own) (H : Hp) : List V → List D → Prop
  | nil : Rs Z w H [] []
  | cons {v : V} {d : D} {vs : List V} {l : List D} : R Z w H v d → Rs Z w H vs l → Rs Z w H (v :: vs) (d :: l)
inductive Rk (Z : Pm) (w : Own) (H : Hp) : List (Key × V) → List (Key × D) → Prop
  | nil : Rk Z w H [] []
  | cons {k : Key} {v : V} {d : D} {vs : List (Key × V)} {l : List (Key × D)} : R Z w H v d → Rk Z w H vs l → Rk Z w H ((k, v) :: vs) ((k, d) :: l)
inductive Rt (Z : Pm) (w : Own) (H : Hp) : List (List Key × V) → List (List Key × D) → Prop
  | nil : Rt Z w H [] []
  | cons {k : List Key} {v : V} {d : D} {vs : List (List Key × V)} {l : List (List Key × D)} : R Z w H v d → Rt Z w H vs l → Rt Z w H ((k, v) :: vs) ((k, d) :: l)
end
def isData : HO → Prop
  | .lst _ => True
  | .tup _ => True
  | .dK _ => True
  | .dT _ => True
  | _ => False
def isSeq : HO → Prop
  | .lst _ => True
  | .tup _ => True
  | _ => False
theorem isSeq.data {u : HO} (h : isSeq u) : isData u := by cases u <;> first | trivial | exact h.elim
/-- what stays for the values that are told -/
structure Stay (w : Own) (H : Hp) (w' : Own) (H' : Hp) : Prop where
  pl : ∀ a u, isSeq u → w a = none → H a = some u → H' a = some u
  rd : ∀ a u, isData u → w a = none → Rd H a u → Rd H' a u
  ow : ∀ a u, w a = none → H a = some u → w' a = none
theorem rd_some {H : Hp} {a : Addr} {u : HO} (h : Rd H a u) : ∃ o, H a = some o := by
  rcases h with h | ⟨o, h⟩
  · exact ⟨_, h⟩
  · exact ⟨_, h⟩
section
variable {Z : Pm} {w w' : Own} {H H' : Hp}
mutual
theorem R.stay (k : Stay w H w' H') : ∀ {v : V} {d : D}, R Z w H v d → R Z w' H' v d
  | _, _, .non => .non
  | _, _, .bl b => .bl b
  | _, _, .int i => .int i
  | _, _, .str x => .str x
  | _, _, .tup h r q => .tup (k.ow _ _ h r) (k.pl _ (.tup _) trivial h r) (q.stay k)
  | _, _, .lst h r q => .lst (k.ow _ _ h r) (k.pl _ (.lst _) trivial h r) (q.stay k)
  | _, _, .dk h r q => .dk (let ⟨o, z⟩ := rd_some r; k.ow _ o h z) (k.rd _ (.dK _) trivial h r) (q.stay k)
  | _, _, .dt h r q => .dt (let ⟨o, z⟩ := rd_some r; k.ow _ o h z) (k.rd _ (.dT _) trivial h r) (q.stay k)
  | _, _, .fn h => .fn h
  | _, _, .scr h r => .scr (let ⟨o, z⟩ := rd_some r; k.ow _ o h z) (k.rd _ (.lst _) trivial h r)
  | _, _, .scrK r => .scrK r
theorem Rs.stay (k : Stay w H w' H') : ∀ {vs : List V} {l : List D}, Rs Z w H vs l → Rs Z w' H' vs l
  | _, _, .nil => .nil
  | _, _, .cons r q => .cons (r.stay k) (q.stay k)
theorem Rk.stay (k : Stay w H w' H') : ∀ {vs : List (Key × V)} {l : List (Key × D)}, Rk Z w H vs l → Rk Z w' H' vs l
  | _, _, .nil => .nil
  | _, _, .cons r q => .cons (r.stay k) (q.stay k)
theorem Rt.stay (k : Stay w H w' H') : ∀ {vs : List (List Key × V)} {l : List (List Key × D)}, Rt Z w H vs l → Rt Z w' H' vs l
  | _, _, .nil => .nil
  | _, _, .cons r q => .cons (r.stay k) (q.stay k)
end
theorem Rs.length : ∀ {vs : List V} {l : List D}, Rs Z w H vs l → vs.length = l.length
  | _, _, .nil => rfl
  | _, _, .cons _ q => congrArg (· + 1) q.length
theorem Rk.length : ∀ {vs : List (Key × V)} {l : List (Key × D)}, Rk Z w H vs l → vs.length = l.length
  | _, _, .nil => rfl
  | _, _, .cons _ q => congrArg (· + 1) q.length
theorem Rt.length : ∀ {vs : List (List Key × V)} {l : List (List Key × D)}, Rt Z w H vs l → vs.length = l.length
  | _, _, .nil => rfl
  | _, _, .cons _ q => congrArg (· + 1) q.length
theorem Rs.append : ∀ {vs us : List V} {l m : List D}, Rs Z w H vs l → Rs Z w H us m → Rs Z w H (vs ++ us) (l ++ m)
  | _, _, _, _, .nil, q => q
  | _, _, _, _, .cons r q, q' => .cons r (q.append q')
theorem Rs.snoc {vs : List V} {l : List D} {v : V} {d : D} (q : Rs Z w H vs l) (r : R Z w H v d) : Rs Z w H (vs ++ [v]) (l ++ [d]) := q.append (.cons r .nil)
theorem Rs.take : ∀ {vs : List V} {l : List D} (n : Nat), Rs Z w H vs l → Rs Z w H (vs.take n) (l.take n)
  | _, _, 0, _ => .nil
  | _, _, _ + 1, .nil => .nil
  | _, _, n + 1, .cons r q => .cons r (q.take n)
theorem Rs.drop : ∀ {vs : List V} {l : List D} (n : Nat), Rs Z w H vs l → Rs Z w H (vs.drop n) (l.drop n)
  | _, _, 0, q => q
  | _, _, _ + 1, .nil => .nil
  | _, _, n + 1, .cons _ q => q.drop n
theorem Rs.reverse : ∀ {vs : List V} {l : List D}, Rs Z w H vs l → Rs Z w H vs.reverse l.reverse
  | _, _, .nil => .nil
  | _, _, .cons r q => by
    rw [List.reverse_cons, List.reverse_cons]
    exact q.reverse.snoc r
theorem Rs.set {v : V} {d : D} (r : R Z w H v d) : ∀ {vs : List V} {l : List D} (i : Nat), Rs Z w H vs l → Rs Z w H (vs.set i v) (l.set i d)
  | _, _, _, .nil => .nil
  | _, _, 0, .cons _ q => .cons r q
  | _, _, i + 1, .cons p q => .cons p (q.set r i)
theorem Rs.get : ∀ {vs : List V} {l : List D} {i : Nat} {d : D}, Rs Z w H vs l → l[i]? = some d → ∃ v, vs[i]? = some v ∧ R Z w H v d
  | _, _, _, _, .nil, e => by simp at e
  | _, _, 0, _, .cons r _, e => by simp at e; subst e; exact ⟨_, rfl, r⟩
  | _, _, i + 1, d, .cons _ q, e => by
    obtain ⟨v, h1, h2⟩ := q.get (i := i) (d := d) (by simpa using e)
    exact ⟨v, by simpa using h1, h2⟩
theorem Rs.getV : ∀ {vs : List V} {l : List D} {i : Nat} {v : V}, Rs Z w H vs l → vs[i]? = some v → ∃ d, l[i]? = some d ∧ R Z w H v d
  | _, _, _, _, .nil, e => by simp at e
  | _, _, 0, _, .cons r _, e => by simp at e; subst e; exact ⟨_, rfl, r⟩
  | _, _, i + 1, v, .cons _ q, e => by
    obtain ⟨d, h1, h2⟩ := q.getV (i := i) (v := v) (by simpa using e)
    exact ⟨d, by simpa using h1, h2⟩
theorem Rs.replicate {vs : List V} {l : List D} (q : Rs Z w H vs l) : ∀ n, Rs Z w H (List.replicate n vs).flatten (List.replicate n l).flatten
  | 0 => .nil
  | n + 1 => by
    rw [List.replicate_succ, List.replicate_succ, List.flatten_cons, List.flatten_cons]
    exact q.append (q.replicate n)
theorem Rk.append : ∀ {vs us : List (Key × V)} {l m : List (Key × D)}, Rk Z w H vs l → Rk Z w H us m → Rk Z w H (vs ++ us) (l ++ m)
  | _, _, _, _, .nil, q => q
  | _, _, _, _, .cons r q, q' => .cons r (q.append q')
end

/-- the content of a list or dict at an address -/
def Top (Z : Pm) (w : Own) (H : Hp) (a : Addr) : D → Prop
  | .lst l => ∃ vs, H a = some (.lst vs) ∧ Rs Z w H vs l
  | .dk l => ∃ kvs, H a = some (.dK kvs) ∧ Rk Z w H kvs l
  | .dt l => ∃ kvs, H a = some (.dT kvs) ∧ Rt Z w H kvs l
  | _ => False
/-- what one evaluation leaves of the heap -/
structure Ext (w : Own) (H : Hp) (w' : Own) (H' : Hp) : Prop where
  st : ∀ a u, (∀ ps, u ≠ .tbl ps) → H a = some u → (w a = none ∨ w a = some .far) → H' a = some u
  th : ∀ a, H a ≠ none → H' a ≠ none
  ow : ∀ a, H a ≠ none → w a = none → w' a = none
  fr : ∀ a, w a = some .far → w' a = some .far
  wl : ∀ a, w a = some .well → w' a = some .well
theorem Ext.refl (w : Own) (H : Hp) : Ext w H w H := ⟨fun _ _ _ h _ => h, fun _ h => h, fun _ _ h => h, fun _ h => h, fun _ h => h⟩
theorem isData.ntbl {u : HO} (h : isData u) : ∀ ps, u ≠ .tbl ps := fun ps e => by subst e; exact h
theorem some_ne {A : Type} {x : Option A} {a : A} (h : x = some a) : x ≠ none := by rw [h]; exact fun z => by cases z
theorem Ext.stay {w w' : Own} {H H' : Hp} (x : Ext w H w' H') : Stay w H w' H' :=
  ⟨fun a u hu hw r => x.st a u hu.data.ntbl r (.inl hw), fun a u hu hw r => by
    rcases r with r | ⟨o, r⟩
    · exact .inl (x.st a u hu.ntbl r (.inl hw))
    · exact .inr ⟨o, x.st a _ (fun ps z => by cases z) r (.inl hw)⟩, fun a u hw r => x.ow a (some_ne r) hw⟩
theorem Ext.trans {w w1 w2 : Own} {H H1 H2 : Hp} (x : Ext w H w1 H1) (y : Ext w1 H1 w2 H2) : Ext w H w2 H2 :=
  ⟨fun a u nu h ho => y.st a u nu (x.st a u nu h ho) (ho.elim (fun z => .inl (x.ow a (some_ne h) z)) fun z => .inr (x.fr a z)), fun a h => y.th a (x.th a h),
    fun a h z => y.ow a (x.th a h) (x.ow a h z), fun a z => y.fr a (x.fr a z), fun a z => y.wl a (x.wl a z)⟩
/-- every address that is somebody's stands in the heap -/
def Dom (w : Own) (H : Hp) : Prop := ∀ a, w a ≠ none → H a ≠ none
/-- a name's value -/
def SlR (Z : Pm) (w : Own) (H : Hp) (wl : List D) (i : Nat) : Option V → Sl → Prop
  | _, .un => True
  | some v, .fro d => R Z w H v d
  | some v, .own d => ∃ a, v = .ref a ∧ w a = some (.slot i) ∧ Top Z w H a d
  | some v, .well => ∃ a, v = .ref a ∧ w a = some .well ∧ Top Z w H a (.lst wl)
  | none, _ => False
structure SR (Z : Pm) (w : Own) (H : Hp) (σ : L2.St) (e : En) : Prop where
  len : σ.length = e.s.length
  sl : ∀ i, i < e.s.length → SlR Z w H e.w i (σ.getD i none) (e.s.getD i .un)
  dom : Dom w H
  tab : Tabs Z.T H
  uw : ∀ a b, w a = some .well → w b = some .well → a = b
def VR (Z : Pm) (w : Own) (H : Hp) (v : V) : Vl → Prop
  | .fro d => R Z w H v d
  | .own d => ∃ a, v = .ref a ∧ w a = some .temp ∧ Top Z w H a d
/-- a value that is read on the spot -/
def BR (Z : Pm) (w : Own) (H : Hp) (v : V) (d : D) : Prop := R Z w H v d ∨ ∃ a, v = .ref a ∧ Top Z w H a d
section
variable {Z : Pm} {w w' : Own} {H H' : Hp} {σ : L2.St} {e : En}
theorem Top.stay {a : Addr} {d : D} (k : Stay w H w' H') (h : ∀ u, isData u → H a = some u → H' a = some u) (t : Top Z w H a d) : Top Z w' H' a d := by
  cases d with
  | lst l => obtain ⟨vs, h1, h2⟩ := t; exact ⟨vs, h _ trivial h1, h2.stay k⟩
  | dk l => obtain ⟨vs, h1, h2⟩ := t; exact ⟨vs, h _ trivial h1, h2.stay k⟩
  | dt l => obtain ⟨vs, h1, h2⟩ := t; exact ⟨vs, h _ trivial h1, h2.stay k⟩
  | _ => exact t.elim
theorem Top.data {a : Addr} {d : D} (t : Top Z w H a d) : ∃ u, isData u ∧ H a = some u := by
  cases d with
  | lst l => obtain ⟨vs, h1, h2⟩ := t; exact ⟨.lst vs, trivial, h1⟩
  | dk l => obtain ⟨vs, h1, h2⟩ := t; exact ⟨.dK vs, trivial, h1⟩
  | dt l => obtain ⟨vs, h1, h2⟩ := t; exact ⟨.dT vs, trivial, h1⟩
  | _ => exact t.elim
theorem Top.toR {a : Addr} {d : D} (hw : w a = none) (t : Top Z w H a d) : R Z w H (.ref a) d := by
  cases d with
  | lst l => obtain ⟨vs, h1, h2⟩ := t; exact .lst hw h1 h2
  | dk l => obtain ⟨vs, h1, h2⟩ := t; exact .dk hw (.inl h1) h2
  | dt l => obtain ⟨vs, h1, h2⟩ := t; exact .dt hw (.inl h1) h2
  | _ => exact t.elim
/-- ownership given up at one address -/
theorem setW_none {a b : Addr} (h : w b = none) : setW w a none b = none := by
  by_cases e : b = a
  · rw [e, setW_same]
  · rw [setW_ne e]; exact h
theorem stay_free {a : Addr} : Stay w H (setW w a none) H := ⟨fun _ _ _ _ r => r, fun _ _ _ _ r => r, fun _ _ h _ => setW_none h⟩
theorem ext_free {a : Addr} (hf : w a ≠ some .far) (hl : w a ≠ some .well) : Ext w H (setW w a none) H :=
  ⟨fun _ _ _ h _ => h, fun _ h => h, fun b _ hb => setW_none hb,
    fun b hb => by rw [setW_ne (fun e => hf (by rw [← e]; exact hb))]; exact hb, fun b hb => by rw [setW_ne (fun e => hl (by rw [← e]; exact hb))]; exact hb⟩
end
end Pk

end
section
/-! Pk3: steps on names and heaps; what an evaluation is to reach. -/
namespace Pk
open PySem PySem.Spec PyProof.Rows L2
open LamX (Tabs TabS ExtN CodeO)
theorem V.ref_inj {a b : Addr} (h : V.ref a = V.ref b) : a = b := by injection h
section
variable {Z : Pm} {w w' : Own} {H H' : Hp} {σ : L2.St} {e : En}
theorem tabs_upd {T : List (Addr × Str)} {p : Addr} {o : HO} (t : Tabs T H) (hp : H p = none) : Tabs T (upd H p o) := t.ext fun b u h => by rw [upd_ne (ne_of_none h hp)]; exact h
theorem ntab {T : List (Addr × Str)} {p : Addr} {u o : HO} (t : Tabs T H) (hp : H p = some u) (hu : isData u) : Tabs T (upd H p o) := fun q hq => by
  obtain ⟨ps, h1, h2, h3⟩ := t q hq
  have n1 : q.1 ≠ p := fun z => by rw [z, hp] at h1; cases h1; exact hu
  refine ⟨ps, by rw [upd_ne n1]; exact h1, h2, fun pos cv hc => ?_⟩
  obtain ⟨c, e1, e2⟩ := h3 pos cv hc
  refine ⟨c, e1, ?_⟩
  rw [upd_ne]
  · exact e2
  · rintro rfl
    rw [hp] at e2
    cases e2
    exact hu
/-- the slots' own things stay, so does what is told -/
theorem SR.up (s : SR Z w H σ e) (k : Stay w H w' H') (ho : ∀ a, (∃ i, w a = some (.slot i)) ∨ w a = some .well → w' a = w a ∧ ∀ u, isData u → H a = some u → H' a = some u) (d : Dom w' H') (t : Tabs Z.T H') (hw : ∀ a, w' a = some .well → w a = some .well) : SR Z w' H' σ e := by
  refine ⟨s.len, fun i hi => ?_, d, t, fun a b h1 h2 => s.uw a b (hw a h1) (hw b h2)⟩
  have q := s.sl i hi
  cases hx : σ.getD i none with
  | none =>
    rw [hx] at q
    cases hs : e.s.getD i .un <;> rw [hs] at q
    · trivial
    · exact q.elim
    · exact q.elim
    · exact q.elim
  | some v =>
    rw [hx] at q
    cases hs : e.s.getD i .un <;> rw [hs] at q
    · trivial
    · exact R.stay k q
    · obtain ⟨a, rfl, h1, h2⟩ := q
      obtain ⟨h3, h4⟩ := ho a (.inl ⟨i, h1⟩)
      exact ⟨a, rfl, h3.trans h1, h2.stay k h4⟩
    · obtain ⟨a, rfl, h1, h2⟩ := q
      obtain ⟨h3, h4⟩ := ho a (.inr h1)
      exact ⟨a, rfl, h3.trans h1, h2.stay k h4⟩
/-- a new object that is nobody's -/
theorem stay_upd {p : Addr} {o : HO} (hp : H p = none) : Stay w H w (upd H p o) :=
  ⟨fun a u _ _ r => by rw [upd_ne (ne_of_none r hp)]; exact r, fun a u _ _ r => by
    rcases r with r | ⟨ob, r⟩
    · exact .inl (by rw [upd_ne (ne_of_none r hp)]; exact r)
    · exact .inr ⟨ob, by rw [upd_ne (ne_of_none r hp)]; exact r⟩, fun _ _ h _ => h⟩
theorem dom_upd {p : Addr} {o : HO} (d : Dom w H) : Dom w (upd H p o) := fun a h => by
  by_cases e : a = p
  · rw [e, upd_same]; exact fun z => by cases z
  · rw [upd_ne e]; exact d a h
theorem ext_upd {p : Addr} {o : HO} (hp : H p = none) : Ext w H w (upd H p o) :=
  ⟨fun a u _ h _ => by rw [upd_ne (ne_of_none h hp)]; exact h, fun a h => by
    by_cases e : a = p
    · rw [e, upd_same]; exact fun z => by cases z
    · rw [upd_ne e]; exact h, fun _ _ h => h, fun _ h => h, fun _ h => h⟩
theorem SR.laid {p : Addr} {o : HO} (s : SR Z w H σ e) (hp : H p = none) : SR Z w (upd H p o) σ e :=
  s.up (stay_upd hp) (fun a _ => ⟨rfl, fun u _ h => by rw [upd_ne (ne_of_none h hp)]; exact h⟩) (dom_upd s.dom) (tabs_upd s.tab hp) fun _ h => h
theorem Dom.none {p : Addr} (d : Dom w H) (hp : H p = none) : w p = none := by
  cases h : w p with
  | none => rfl
  | some o => exact absurd hp (d p (by rw [h]; exact fun z => by cases z))
/-- a new object becomes somebody's -/
theorem stay_own {p : Addr} {o : HO} {b : Ow} (hp : H p = none) : Stay w H (setW w p (some b)) (upd H p o) :=
  ⟨(stay_upd (w := w) hp).pl, (stay_upd (w := w) hp).rd, fun a u h r => by rw [setW_ne (ne_of_none r hp)]; exact h⟩
theorem ext_own {p : Addr} {o : HO} {b : Ow} (d : Dom w H) (hp : H p = none) : Ext w H (setW w p (some b)) (upd H p o) := by
  have nw := d.none hp
  refine ⟨fun a u _ h _ => by rw [upd_ne (ne_of_none h hp)]; exact h, (ext_upd (w := w) hp).th, fun a h z => ?_, fun a z => ?_, fun a z => ?_⟩
  · rw [setW_ne (fun q => h (by rw [q]; exact hp))]; exact z
  · rw [setW_ne (fun q => by rw [q, nw] at z; cases z)]; exact z
  · rw [setW_ne (fun q => by rw [q, nw] at z; cases z)]; exact z
theorem dom_own {p : Addr} {o : HO} {b : Option Ow} (d : Dom w H) : Dom (setW w p b) (upd H p o) := fun a h => by
  by_cases e : a = p
  · rw [e, upd_same]; exact fun z => by cases z
  · rw [setW_ne e] at h
    rw [upd_ne e]; exact d a h
theorem setW_well {a b : Addr} {o : Option Ow} (h : setW w b o a = some .well) (n : o ≠ some .well) : a ≠ b ∧ w a = some .well := by
  by_cases e : a = b
  · rw [e, setW_same] at h; exact absurd h n
  · rw [setW_ne e] at h; exact ⟨e, h⟩
theorem SR.temp {p : Addr} {o : HO} {b : Ow} (s : SR Z w H σ e) (hp : H p = none) (nb : b ≠ .well := by intro z; cases z) : SR Z (setW w p (some b)) (upd H p o) σ e := by
  have nw := s.dom.none hp
  refine s.up (stay_own hp) (fun a h => ?_) (dom_own s.dom) (tabs_upd s.tab hp) (fun a h => (setW_well h (fun z => nb (Option.some.inj z))).2)
  have n : a ≠ p := fun q => by
    rw [q, nw] at h
    rcases h with ⟨_, z⟩ | z <;> cases z
  exact ⟨setW_ne n, fun u _ h => by rw [upd_ne n]; exact h⟩
/-- a temporary thing is let go -/
theorem SR.free {a : Addr} (s : SR Z w H σ e) (h : w a = some .temp) : SR Z (setW w a none) H σ e := by
  refine s.up stay_free (fun b hb => ?_) (fun b hb => ?_) s.tab (fun b hb => (setW_well hb (fun z => by cases z)).2)
  · have n : b ≠ a := fun q => by
      rw [q, h] at hb
      rcases hb with ⟨_, z⟩ | z <;> cases z
    exact ⟨setW_ne n, fun _ _ z => z⟩
  · by_cases q : b = a
    · rw [q, setW_same] at hb; exact absurd rfl hb
    · rw [setW_ne q] at hb; exact s.dom b hb
theorem ext_temp {a : Addr} (h : w a = some .temp) : Ext w H (setW w a none) H := ext_free (fun z => by rw [h] at z; cases z) (fun z => by rw [h] at z; cases z)
/-- any value, let go -/
theorem VR.free {v : V} {x : Vl} (s : SR Z w H σ e) (h : VR Z w H v x) : ∃ w', Ext w H w' H ∧ SR Z w' H σ e ∧ R Z w' H v x.d := by
  cases x with
  | fro d => exact ⟨w, .refl _ _, s, h⟩
  | own d =>
    obtain ⟨a, rfl, h1, h2⟩ := h
    exact ⟨_, ext_temp h1, s.free h1, (h2.stay stay_free (fun _ _ z => z)).toR setW_same⟩
theorem VR.br {v : V} {x : Vl} (h : VR Z w H v x) : BR Z w H v x.d := by
  cases x with
  | fro d => exact .inl h
  | own d =>
    obtain ⟨a, rfl, h1, h2⟩ := h
    exact .inr ⟨a, rfl, h2⟩
theorem getD_of {A : Type} {l : List A} {i : Nat} {d x : A} (h : l.getD i d = x) (n : x ≠ d) : i < l.length ∧ l[i]? = some x := by
  rw [List.getD_eq_getElem?_getD] at h
  cases q : l[i]? with
  | none => rw [q] at h; exact absurd h.symm n
  | some y =>
    rw [q] at h
    exact ⟨(List.getElem?_eq_some_iff.mp q).1, by rw [← h]; rfl⟩
/-- the value of a name that is known -/
theorem SR.slot {i : Nat} (s : SR Z w H σ e) (h : e.s.getD i .un ≠ .un) : ∃ v, σ[i]? = some (some v) ∧ i < e.s.length ∧ SlR Z w H e.w i (some v) (e.s.getD i .un) := by
  have hi : i < e.s.length := (getD_of (x := e.s.getD i .un) rfl h).1
  have q := s.sl i hi
  have hl : i < σ.length := by rw [s.len]; exact hi
  have hg : σ.getD i none = σ[i] := by rw [List.getD_eq_getElem?_getD, List.getElem?_eq_getElem hl]; rfl
  cases hx : σ[i] with
  | none =>
    rw [hg, hx] at q
    cases hs : e.s.getD i .un <;> rw [hs] at q
    · exact absurd hs h
    · exact q.elim
    · exact q.elim
    · exact q.elim
  | some v =>
    rw [hg, hx] at q
    exact ⟨v, by rw [List.getElem?_eq_getElem hl, hx], hi, q⟩
theorem SR.pk {i : Nat} {d : D} (s : SR Z w H σ e) (h : e.pk i = .ok d) : ∃ v, σ[i]? = some (some v) ∧ BR Z w H v d := by
  unfold En.pk at h
  cases hs : e.s.getD i .un with
  | un => rw [hs] at h; cases h
  | fro x =>
    rw [hs] at h; cases h
    obtain ⟨v, h1, _, h2⟩ := s.slot (i := i) (by rw [hs]; exact fun z => by cases z)
    rw [hs] at h2
    exact ⟨v, h1, .inl h2⟩
  | own x =>
    rw [hs] at h; cases h
    obtain ⟨v, h1, _, h2⟩ := s.slot (i := i) (by rw [hs]; exact fun z => by cases z)
    rw [hs] at h2
    obtain ⟨a, rfl, h3, h4⟩ := h2
    exact ⟨_, h1, .inr ⟨a, rfl, h4⟩⟩
  | well =>
    rw [hs] at h; cases h
    obtain ⟨v, h1, _, h2⟩ := s.slot (i := i) (by rw [hs]; exact fun z => by cases z)
    rw [hs] at h2
    obtain ⟨a, rfl, h3, h4⟩ := h2
    exact ⟨_, h1, .inr ⟨a, rfl, h4⟩⟩
/-- a name that is read for good -/
theorem SR.rd {i : Nat} {v : Vl} {e' : En} (s : SR Z w H σ e) (h : e.rd i = .ok (v, e')) : ∃ x w', σ[i]? = some (some x) ∧ Ext w H w' H ∧ SR Z w' H σ e' ∧ VR Z w' H x v := by
  unfold En.rd at h
  cases hs : e.s.getD i .un with
  | un => rw [hs] at h; cases h
  | well => rw [hs] at h; cases h
  | fro d =>
    rw [hs] at h; cases h
    obtain ⟨x, h1, _, h2⟩ := s.slot (i := i) (by rw [hs]; exact fun z => by cases z)
    rw [hs] at h2
    exact ⟨x, w, h1, .refl _ _, s, h2⟩
  | own d =>
    rw [hs] at h; cases h
    obtain ⟨x, h1, hi, h2⟩ := s.slot (i := i) (by rw [hs]; exact fun z => by cases z)
    rw [hs] at h2
    obtain ⟨a, rfl, h3, h4⟩ := h2
    have hr : R Z (setW w a none) H (.ref a) d := (h4.stay stay_free (fun _ _ z => z)).toR setW_same
    refine ⟨.ref a, setW w a none, h1, ext_free (fun z => by rw [h3] at z; cases z) (fun z => by rw [h3] at z; cases z), ⟨by rw [List.length_set]; exact s.len, fun j hj => ?_, fun b hb => ?_, s.tab, fun b c h1 h2 => s.uw b c (setW_well h1 (fun z => by cases z)).2 (setW_well h2 (fun z => by cases z)).2⟩, hr⟩
    · rw [List.length_set] at hj
      have q := s.sl j hj
      by_cases hji : j = i
      · subst hji
        have e1 : (e.s.set j (.fro d)).getD j .un = .fro d := by rw [List.getD_eq_getElem?_getD, List.getElem?_set_self hj]; rfl
        have e2 : σ.getD j none = some (.ref a) := by rw [List.getD_eq_getElem?_getD, h1]; rfl
        rw [e1, e2]
        exact hr
      · have e1 : (e.s.set i (.fro d)).getD j .un = e.s.getD j .un := by rw [List.getD_eq_getElem?_getD, List.getElem?_set_ne (Ne.symm hji), ← List.getD_eq_getElem?_getD]
        rw [e1]
        cases hx : σ.getD j none with
        | none =>
          rw [hx] at q
          cases hs2 : e.s.getD j .un <;> rw [hs2] at q
          · trivial
          · exact q.elim
          · exact q.elim
          · exact q.elim
        | some v =>
          rw [hx] at q
          cases hs2 : e.s.getD j .un <;> rw [hs2] at q
          · trivial
          · exact R.stay stay_free q
          · obtain ⟨b, rfl, g1, g2⟩ := q
            have n : b ≠ a := fun z => by rw [z, h3] at g1; cases g1; exact hji rfl
            exact ⟨b, rfl, by rw [setW_ne n]; exact g1, g2.stay stay_free (fun _ _ z => z)⟩
          · obtain ⟨b, rfl, g1, g2⟩ := q
            have n : b ≠ a := fun z => by rw [z, h3] at g1; cases g1
            exact ⟨b, rfl, by rw [setW_ne n]; exact g1, g2.stay stay_free (fun _ _ z => z)⟩
    · by_cases q : b = a
      · rw [q, setW_same] at hb; exact absurd rfl hb
      · rw [setW_ne q] at hb; exact s.dom b hb
end
end Pk

end
section
/-! Pk4: readings, and the operators. -/
namespace Pk
open PySem PySem.Spec PyProof.Rows L2
open LamX (Tabs TabS ExtN CodeO)
structure Cn where
  Z : Pm
  E : XK
  F : Fns
  G : Gv
/-- an error of the text's classes as it lies -/
def Xr (Z : Pm) (c : Nat) (p : D) (cls : Value) (od : Option Addr) (w : Own) (H : Hp) : Prop :=
  ∃ (C : Addr) (f : Option Str), Z.xc c = some (C, f) ∧ cls = .ref C ∧ match f with
    | none => od = none ∧ p = .non
    | some f => ∃ d v, od = some d ∧ H d = some (.xd [(f, v)]) ∧ w d = none ∧ R Z w H v p
def XP (C : Cn) (w : Own) (H : Hp) (c : Nat) (p : D) : Prop := ∀ cls od H' w', Ext w H w' H' → Dom w' H' → Tabs C.Z.T H' → Xr C.Z c p cls od w' H' → C.E cls od H'
theorem XP.ext {C : Cn} {w w1 : Own} {H H1 : Hp} {c : Nat} {p : D} (h : XP C w H c p) (x : Ext w H w1 H1) : XP C w1 H1 c p := fun cls od H' w' y d t q => h cls od H' w' (x.trans y) d t q
def Pb {A : Type} (X : Nat → D → Prop) (r : Out A) (k : A → Prop) : Prop := match r with
  | .ok a => k a
  | .exc c p => X c p
  | .bad => False
theorem Pb.bind {A B : Type} {X : Nat → D → Prop} {r : Out A} {f : A → Out B} {k : B → Prop} (h : Pb X (r.bind f) k) : Pb X r fun a => Pb X (f a) k := by
  cases r with
  | ok a => exact h
  | exc c p => exact h
  | bad => exact h
theorem Pb.of {A : Type} {X : Nat → D → Prop} {o : Option A} {k : A → Prop} (h : Pb X (Out.of o) k) : ∃ a, o = some a ∧ k a := by
  cases o with
  | none => exact h.elim
  | some a => exact ⟨a, rfl, h⟩
theorem Pb.mono {A : Type} {X Y : Nat → D → Prop} {r : Out A} {k k' : A → Prop} (h : Pb X r k) (hX : ∀ c p, X c p → Y c p) (hk : ∀ a, k a → k' a) : Pb Y r k' := by
  cases r with
  | ok a => exact hk a h
  | exc c p => exact hX c p h
  | bad => exact h
/-- what is wanted of an expression's outcome -/
def PE1 (C : Cn) (σ : L2.St) (w : Own) (H : Hp) (r : Out (Vl × En)) (Q : VK) : Prop :=
  Pb (XP C w H) r fun p => ∀ x w' H', Ext w H w' H' → SR C.Z w' H' σ p.2 → VR C.Z w' H' x p.1 → Q x H'
theorem PE1.ext {C : Cn} {σ : L2.St} {w w1 : Own} {H H1 : Hp} {r : Out (Vl × En)} {Q : VK} (h : PE1 C σ w H r Q) (x : Ext w H w1 H1) : PE1 C σ w1 H1 r Q :=
  Pb.mono h (fun _ _ z => z.ext x) fun _ k y w' H' e s v => k y w' H' (x.trans e) s v
def tD (C : Cn) (c : Ex) : TE := fun σ H Q => ∃ w e, SR C.Z w H σ e ∧ PE1 C σ w H (den C.F C.G c e) Q
def tO (C : Cn) (c : Ex) : TE := match c.nameI with
  | some i => tVar i
  | none => tD C c
theorem PE.imp {X : Cx} {e : Expr} {t t' : TE} (h : PE X e t) (k : ∀ σ H Q, t' σ H Q → t σ H Q) : PE X e t' := ⟨fun pins s σ H Q I hw => h.run pins s σ H Q I (k σ H Q hw)⟩
theorem PT.imp {X : Cx} {e : Expr} {t t' : TT} (h : PT X e t) (k : ∀ σ H Q, t' σ H Q → t σ H Q) : PT X e t' := ⟨fun pins s σ H Q I hw => h.run pins s σ H Q I (k σ H Q hw)⟩
theorem PA.imp {X : Cx} {e : List Expr} {t t' : TA} (h : PA X e t) (k : ∀ σ H Q, t' σ H Q → t σ H Q) : PA X e t' := ⟨fun pos pins s σ H Q I hw => h.run pos pins s σ H Q I (k σ H Q hw)⟩
theorem PS.imp {X : Cx} {e : Stmt} {t t' : TS} (h : PS X e t) (k : ∀ D σ H, t' D σ H → t D σ H) : PS X e t' := ⟨fun pins s σ H D I hw => h.run pins s σ H D I (k D σ H hw)⟩
theorem PSs.imp {X : Cx} {e : List Stmt} {t t' : TS} (h : PSs X e t) (k : ∀ D σ H, t' D σ H → t D σ H) : PSs X e t' := ⟨fun pins s σ H D I hw => h.run pins s σ H D I (k D σ H hw)⟩

/-! ### what a value is, by its tree -/
section
variable {Z : Pm} {w : Own} {H : Hp} {v : V}
theorem BR.int {i : Int} (h : BR Z w H v (.int i)) : v = .int i := by
  rcases h with h | ⟨a, _, h⟩
  · cases h; rfl
  · exact h.elim
theorem BR.bl {i : Bool} (h : BR Z w H v (.bl i)) : v = .bl i := by
  rcases h with h | ⟨a, _, h⟩
  · cases h; rfl
  · exact h.elim
theorem BR.str {i : Str} (h : BR Z w H v (.str i)) : v = .str i := by
  rcases h with h | ⟨a, _, h⟩
  · cases h; rfl
  · exact h.elim
theorem BR.non (h : BR Z w H v .non) : v = .non := by
  rcases h with h | ⟨a, _, h⟩
  · cases h; rfl
  · exact h.elim
theorem BR.lst {l : List D} (h : BR Z w H v (.lst l)) : ∃ a vs, v = .ref a ∧ H a = some (.lst vs) ∧ Rs Z w H vs l := by
  rcases h with h | ⟨a, rfl, vs, h1, h2⟩
  · cases h with
    | lst h1 h2 h3 => exact ⟨_, _, rfl, h2, h3⟩
  · exact ⟨a, vs, rfl, h1, h2⟩
theorem BR.tup {l : List D} (h : BR Z w H v (.tup l)) : ∃ a vs, v = .ref a ∧ w a = none ∧ H a = some (.tup vs) ∧ Rs Z w H vs l := by
  rcases h with h | ⟨a, rfl, h⟩
  · cases h with
    | tup h1 h2 h3 => exact ⟨_, _, rfl, h1, h2, h3⟩
  · exact h.elim
theorem BR.dk {l : List (Key × D)} (h : BR Z w H v (.dk l)) : ∃ a vs, v = .ref a ∧ Rd H a (.dK vs) ∧ Rk Z w H vs l := by
  rcases h with h | ⟨a, rfl, vs, h1, h2⟩
  · cases h with
    | dk h1 h2 h3 => exact ⟨_, _, rfl, h2, h3⟩
  · exact ⟨a, vs, rfl, .inl h1, h2⟩
theorem BR.dt {l : List (List Key × D)} (h : BR Z w H v (.dt l)) : ∃ a vs, v = .ref a ∧ Rd H a (.dT vs) ∧ Rt Z w H vs l := by
  rcases h with h | ⟨a, rfl, vs, h1, h2⟩
  · cases h with
    | dt h1 h2 h3 => exact ⟨_, _, rfl, h2, h3⟩
  · exact ⟨a, vs, rfl, .inl h1, h2⟩
theorem BR.scr {l : List Int} (h : BR Z w H v (.scr l)) : ∃ a, v = .ref a ∧ SqL Z.K H a (l.map V.int) := by
  rcases h with h | ⟨a, rfl, h⟩
  · cases h with
    | scr h1 h2 => exact ⟨_, rfl, .inl h2⟩
    | scrK h => exact ⟨_, rfl, h H⟩
  · exact h.elim
theorem BR.fn {f : Nat} (h : BR Z w H v (.fn f)) : ∃ a, v = .ref a ∧ Z.mf f = some a := by
  rcases h with h | ⟨a, rfl, h⟩
  · cases h with
    | fn h => exact ⟨_, rfl, h⟩
  · exact h.elim
/-- a list or tuple that is read -/
theorem BR.seq {d : D} {l : List D} (h : BR Z w H v d) (e : iterD d = some l) : ∃ a vs, v = .ref a ∧ (SqL Z.K H a vs ∨ SqT Z.K H a vs) ∧ Rs Z w H vs l := by
  cases d <;> simp [iterD] at e
  · subst e
    obtain ⟨a, vs, h1, _, h2, h3⟩ := h.tup
    exact ⟨a, vs, h1, .inr (SqT.of h2), h3⟩
  · subst e
    obtain ⟨a, vs, h1, h2, h3⟩ := h.lst
    exact ⟨a, vs, h1, .inl (SqL.of h2), h3⟩
end

/-! ### the end of an operation -/
/-- what is wanted behind an operation -/
def Kont (Z : Pm) (w : Own) (H : Hp) (σ : L2.St) (e : En) (v : Vl) (Q : VK) : Prop := ∀ z w' H', Ext w H w' H' → SR Z w' H' σ e → VR Z w' H' z v → Q z H'
section
variable {Z : Pm} {w : Own} {H : Hp} {σ : L2.St} {e : En} {Q : VK}
theorem Kont.fro {v : V} {d : D} (k : Kont Z w H σ e (.fro d) Q) (s : SR Z w H σ e) (r : R Z w H v d) : Q v H := k v w H (.refl _ _) s r
theorem Kont.tup {vs : List V} {l : List D} (k : Kont Z w H σ e (.fro (.tup l)) Q) (s : SR Z w H σ e) (r : Rs Z w H vs l) : ∀ p, H p = none → Q (.ref p) (upd H p (.tup vs)) := fun p hp =>
  k _ w _ (ext_upd hp) (s.laid hp) (.tup (s.dom.none hp) upd_same (r.stay (stay_upd hp)))
theorem Kont.lst {vs : List V} {l : List D} (k : Kont Z w H σ e (.own (.lst l)) Q) (s : SR Z w H σ e) (r : Rs Z w H vs l) : ∀ p, H p = none → Q (.ref p) (upd H p (.lst vs)) := fun p hp =>
  k _ _ _ (ext_own (b := .temp) s.dom hp) (s.temp hp) ⟨p, rfl, setW_same, vs, upd_same, r.stay (stay_own hp)⟩
theorem Kont.dk {vs : List (Key × V)} {l : List (Key × D)} (k : Kont Z w H σ e (.own (.dk l)) Q) (s : SR Z w H σ e) (r : Rk Z w H vs l) : ∀ p, H p = none → Q (.ref p) (upd H p (.dK vs)) := fun p hp =>
  k _ _ _ (ext_own (b := .temp) s.dom hp) (s.temp hp) ⟨p, rfl, setW_same, vs, upd_same, r.stay (stay_own hp)⟩
theorem Kont.dt {vs : List (List Key × V)} {l : List (List Key × D)} (k : Kont Z w H σ e (.own (.dt l)) Q) (s : SR Z w H σ e) (r : Rt Z w H vs l) : ∀ p, H p = none → Q (.ref p) (upd H p (.dT vs)) := fun p hp =>
  k _ _ _ (ext_own (b := .temp) s.dom hp) (s.temp hp) ⟨p, rfl, setW_same, vs, upd_same, r.stay (stay_own hp)⟩
end
/-- the model's rule r serves the operation op on trees -/
def OpS (Z : Pm) (op : D → D → Option Vl) (r : R2) : Prop := ∀ (w : Own) (H : Hp) (σ : L2.St) (e : En) (x y : V) (a b : D) (v : Vl) (Q : VK), SR Z w H σ e → BR Z w H x a → BR Z w H y b → op a b = some v → Kont Z w H σ e v Q → r x y H Q
theorem lim_eq : lim = sizeLine := sizeLine_eq.symm
def rOr (r r' : R2) : R2 := fun x y H Q => r x y H Q ∨ r' x y H Q
def rStrCat : R2 := fun x y H Q => ∃ i j, x = .str i ∧ y = .str j ∧ i.length + j.length ≤ sizeLine ∧ Q (.str (i ++ j)) H
def rAdd4 (K : PySem.W.Frag) : R2 := rOr (rI0 fun i j => .int (i + j)) (rOr rStrCat (rOr (rCatA K) rCat))
theorem or_add {X : Cx} : OpR X (binaryOp .Add) (rAdd4 X.K) := op_add.or (OpR.or (r := rStrCat) op_add_str (op_catA.or op_cat))
theorem os_add {Z : Pm} : OpS Z (binop .add) (rAdd4 Z.K) := by
  intro w H σ e x y a b v Q s hx hy h k
  replace h : addD a b = some v := h
  unfold addD at h
  split at h
  · cases h
    exact .inl ⟨_, _, hx.int, hy.int, k.fro s (.int _)⟩
  · split at h
    · rename_i hz
      cases h
      exact .inr (.inl ⟨_, _, hx.str, hy.str, hz, k.fro s (.str _)⟩)
    · cases h
  · split at h
    · rename_i l m hz
      cases h
      obtain ⟨p, vs, rfl, h1, h2, h3⟩ := hx.tup
      obtain ⟨q, us, rfl, g1, g2, g3⟩ := hy.tup
      refine .inr (.inr (.inl ⟨p, q, vs, us, rfl, rfl, SqT.of h2, SqT.of g2, by rw [h3.length, g3.length]; exact hz, fun e0 => ?_, fun e1 e0 => ?_, fun _ _ => k.tup s (h3.append g3)⟩))
      · subst e0
        cases h3
        exact k.fro s (.tup g1 g2 g3)
      · subst e0
        cases g3
        rw [List.append_nil] at k
        exact k.fro s (.tup h1 h2 h3)
    · cases h
  · split at h
    · rename_i l m hz
      cases h
      obtain ⟨p, vs, rfl, h2, h3⟩ := hx.lst
      obtain ⟨q, us, rfl, g2, g3⟩ := hy.lst
      exact .inr (.inr (.inr ⟨p, q, vs, us, rfl, rfl, h2, g2, by rw [h3.length, g3.length]; exact hz, k.lst s (h3.append g3)⟩))
    · cases h
  · cases h
theorem os_sub {Z : Pm} : OpS Z (binop .sub) (rI0 fun i j => .int (i - j)) := by
  intro w H σ e x y a b v Q s hx hy h k
  replace h : minD a b = some v := h
  unfold minD at h
  split at h
  · cases h
    exact ⟨_, _, hx.int, hy.int, k.fro s (.int _)⟩
  · cases h
def rMul3 (K : PySem.W.Frag) : R2 := rOr (rI CMulW fun i j => .int (i * j)) (rOr (rRepT K) rRep)
theorem or_mul {X : Cx} : OpR X (binaryOp .Mult) (rMul3 X.K) := op_mulW.or (op_repT.or op_rep)
theorem os_mul {Z : Pm} : OpS Z (binop .mul) (rMul3 Z.K) := by
  intro w H σ e x y a b v Q s hx hy h k
  replace h : mulD a b = some v := h
  unfold mulD at h
  split at h
  · split at h
    · rename_i hz
      cases h
      exact .inl ⟨_, _, hx.int, hy.int, Nat.lt_trans (of_decide_eq_true hz) (by decide), k.fro s (.int _)⟩
    · cases h
  · split at h
    · rename_i l m hz
      cases h
      obtain ⟨p, vs, rfl, h1, h2, h3⟩ := hx.tup
      obtain ⟨z0, z1, z2, z3⟩ := hz
      exact .inr (.inl ⟨p, _, vs, rfl, hy.int, SqT.of h2, fun q => by subst q; cases h3; exact z0 rfl, z1, z2, by rw [h3.length]; exact z3, k.tup s (h3.replicate _)⟩)
    · cases h
  · split at h
    · rename_i l m hz
      cases h
      obtain ⟨p, vs, rfl, h2, h3⟩ := hx.lst
      obtain ⟨z1, z2, z3⟩ := hz
      refine .inr (.inr ⟨p, _, vs, rfl, hy.int, h2, by omega, by omega, ?_, k.lst s (h3.replicate _)⟩)
      rw [h3.length, sizeLine_eq]
      have := Nat.mul_le_mul z3 (show m.toNat ≤ 1000 by omega)
      omega
    · cases h
  · cases h
theorem os_mod {Z : Pm} : OpS Z (binop .mod) (rI (fun _ j => 0 < j) fun i j => .int (i % j)) := by
  intro w H σ e x y a b v Q s hx hy h k
  replace h : modD a b = some v := h
  unfold modD at h
  split at h
  · split at h
    · rename_i hz
      cases h
      exact ⟨_, _, hx.int, hy.int, hz, k.fro s (.int _)⟩
    · cases h
  · cases h
theorem os_fdiv {Z : Pm} : OpS Z (binop .fdiv) (rI CDiv fun i j => .int (i / j)) := by
  intro w H σ e x y a b v Q s hx hy h k
  replace h : fdivD a b = some v := h
  unfold fdivD at h
  split at h
  · split at h
    · rename_i hz
      cases h
      exact ⟨_, _, hx.int, hy.int, hz, k.fro s (.int _)⟩
    · cases h
  · cases h
theorem os_pow {Z : Pm} : OpS Z (binop .pow) (rI CPow fun i j => .int (i ^ j.toNat)) := by
  intro w H σ e x y a b v Q s hx hy h k
  replace h : powD a b = some v := h
  unfold powD at h
  split at h
  · split at h
    · rename_i hz
      cases h
      obtain ⟨z1, z2, z3⟩ := hz
      exact ⟨_, _, hx.int, hy.int, ⟨z1, by omega, Nat.lt_trans z3 (by decide)⟩, k.fro s (.int _)⟩
    · cases h
  · cases h
def opOf : BOp → Operator
  | .add => .Add
  | .sub => .Sub
  | .mul => .Mult
  | .mod => .Mod
  | .fdiv => .FloorDiv
  | .pow => .Pow
def rBin (K : PySem.W.Frag) : BOp → R2
  | .add => rAdd4 K
  | .sub => rI0 fun i j => .int (i - j)
  | .mul => rMul3 K
  | .mod => rI (fun _ j => 0 < j) fun i j => .int (i % j)
  | .fdiv => rI CDiv fun i j => .int (i / j)
  | .pow => rI CPow fun i j => .int (i ^ j.toNat)
theorem or_bin {X : Cx} : ∀ op, OpR X (binaryOp (opOf op)) (rBin X.K op)
  | .add => or_add
  | .sub => op_sub
  | .mul => or_mul
  | .mod => op_mod
  | .fdiv => op_fdiv
  | .pow => op_pow
theorem os_bin {Z : Pm} : ∀ op, OpS Z (binop op) (rBin Z.K op)
  | .add => os_add
  | .sub => os_sub
  | .mul => os_mul
  | .mod => os_mod
  | .fdiv => os_fdiv
  | .pow => os_pow

/-! ### comparisons -/
section
variable {Z : Pm} {w : Own} {H : Hp}
mutual
theorem R.dp : ∀ {v : V} {d : D}, R Z w H v d → d.plain = true → Dp Z.K H v d.toP
  | _, _, .non, _ => by rw [D.toP]; exact .non
  | _, _, .bl b, _ => by rw [D.toP]; exact .bl b
  | _, _, .int i, _ => by rw [D.toP]; exact .int i
  | _, _, .str x, _ => by rw [D.toP]; exact .str x
  | _, _, .tup h1 h2 h3, h => by rw [D.plain] at h; rw [D.toP]; exact .tup (SqT.of h2) (h3.dp h)
  | _, _, .lst h1 h2 h3, h => by rw [D.plain] at h; rw [D.toP]; exact .lst (SqL.of h2) (h3.dp h)
  | _, _, .dk _ _ _, h => by rw [D.plain] at h; cases h
  | _, _, .dt _ _ _, h => by rw [D.plain] at h; cases h
  | _, _, .fn _, h => by rw [D.plain] at h; cases h
  | _, _, .scr _ _, h => by rw [D.plain] at h; cases h
  | _, _, .scrK _, h => by rw [D.plain] at h; cases h
theorem Rs.dp : ∀ {vs : List V} {l : List D}, Rs Z w H vs l → D.plains l = true → DpAll Z.K H vs (D.toPs l)
  | _, _, .nil, _ => by rw [D.toPs]; exact .nil
  | _, _, .cons r q, h => by
    rw [D.plains, Bool.and_eq_true] at h
    rw [D.toPs]
    exact .cons (r.dp h.1) (q.dp h.2)
end
theorem BR.dp {v : V} {d : D} (h : BR Z w H v d) (p : d.plain = true) : Dp Z.K H v d.toP := by
  rcases h with h | ⟨a, rfl, h⟩
  · exact h.dp p
  · cases d with
    | lst l =>
      obtain ⟨vs, h1, h2⟩ := h
      rw [D.plain] at p
      rw [D.toP]
      exact .lst (SqL.of h1) (h2.dp p)
    | dk l => rw [D.plain] at p; cases p
    | dt l => rw [D.plain] at p; cases p
    | _ => exact h.elim
end
mutual
theorem D.lay : ∀ d : D, d.plain = true → d.toP.canLay0 = true
  | .non, _ => by simp [D.toP, PyData.canLay0]
  | .bl _, _ => by simp [D.toP, PyData.canLay0]
  | .int _, _ => by simp [D.toP, PyData.canLay0]
  | .str x, h => by rw [D.plain] at h; rw [D.toP]; exact h
  | .tup l, h => by rw [D.plain] at h; rw [D.toP, PyData.canLay0]; exact D.lays l h
  | .lst l, h => by rw [D.plain] at h; rw [D.toP, PyData.canLay0]; exact D.lays l h
  | .dk _, h => by rw [D.plain] at h; cases h
  | .dt _, h => by rw [D.plain] at h; cases h
  | .fn _, h => by rw [D.plain] at h; cases h
  | .scr _, h => by rw [D.plain] at h; cases h
theorem D.lays : ∀ l : List D, D.plains l = true → PyData.canLayAll0 (D.toPs l) = true
  | [], _ => by simp [D.toPs, PyData.canLayAll0]
  | d :: l, h => by
    rw [D.plains, Bool.and_eq_true] at h
    rw [D.toPs, PyData.canLayAll0, D.lay d h.1, D.lays l h.2]; rfl
end
mutual
theorem D.deep_eq : ∀ d : D, d.toP.depth = d.deep
  | .non => by simp [D.toP, PyData.depth, D.deep]
  | .bl _ => by simp [D.toP, PyData.depth, D.deep]
  | .int _ => by simp [D.toP, PyData.depth, D.deep]
  | .str x => by simp [D.toP, PyData.depth, D.deep]
  | .tup l => by rw [D.toP, PyData.depth, D.deep, D.deeps_eq l]
  | .lst l => by rw [D.toP, PyData.depth, D.deep, D.deeps_eq l]
  | .dk _ => by simp [D.toP, PyData.depth, D.deep]
  | .dt _ => by simp [D.toP, PyData.depth, D.deep]
  | .fn _ => by simp [D.toP, PyData.depth, D.deep]
  | .scr _ => by simp [D.toP, PyData.depth, D.deep]
theorem D.deeps_eq : ∀ l : List D, PyData.depthAll (D.toPs l) = D.deeps l
  | [] => by simp [D.toPs, PyData.depthAll, D.deeps]
  | d :: l => by rw [D.toPs, PyData.depthAll, D.deeps, D.deep_eq d, D.deeps_eq l]
end
mutual
theorem D.eqv_eq : ∀ a b : D, a.plain = true → b.plain = true → PyData.eqv a.toP b.toP = D.eqv a b
  | .tup l, b, h, h' => by
    rw [D.plain] at h
    cases b <;> simp only [D.toP, PyData.eqv, D.eqv]
    rename_i m
    rw [D.plain] at h'
    exact D.eqvs_eq l m h h'
    all_goals (rw [D.plain] at h'; cases h')
  | .lst l, b, h, h' => by
    rw [D.plain] at h
    cases b <;> simp only [D.toP, PyData.eqv, D.eqv]
    rename_i m
    rw [D.plain] at h'
    exact D.eqvs_eq l m h h'
    all_goals (rw [D.plain] at h'; cases h')
  | .non, b, h, h' => by cases b <;> first | (rw [D.plain] at h'; cases h'; done) | simp only [D.toP, PyData.eqv, D.eqv]
  | .bl x, b, h, h' => by cases b <;> first | (rw [D.plain] at h'; cases h'; done) | simp only [D.toP, PyData.eqv, D.eqv]
  | .int x, b, h, h' => by cases b <;> first | (rw [D.plain] at h'; cases h'; done) | simp only [D.toP, PyData.eqv, D.eqv]
  | .str x, b, h, h' => by cases b <;> first | (rw [D.plain] at h'; cases h'; done) | simp only [D.toP, PyData.eqv, D.eqv]
  | .dk _, b, h, h' => by rw [D.plain] at h; cases h
  | .dt _, b, h, h' => by rw [D.plain] at h; cases h
  | .fn _, b, h, h' => by rw [D.plain] at h; cases h
  | .scr _, b, h, h' => by rw [D.plain] at h; cases h
theorem D.eqvs_eq : ∀ l m : List D, D.plains l = true → D.plains m = true → PyData.eqvAll (D.toPs l) (D.toPs m) = D.eqvs l m
  | [], [], _, _ => by simp [D.toPs, PyData.eqvAll, D.eqvs]
  | [], _ :: _, _, _ => by simp [D.toPs, PyData.eqvAll, D.eqvs]
  | _ :: _, [], _, _ => by simp [D.toPs, PyData.eqvAll, D.eqvs]
  | a :: l, b :: m, h, h' => by
    rw [D.plains, Bool.and_eq_true] at h h'
    rw [D.toPs, D.toPs, PyData.eqvAll, D.eqvs, D.eqv_eq a b h.1 h'.1, D.eqvs_eq l m h.2 h'.2]
end
end Pk

end
section
/-! Pk5: comparisons, dicts read, subscripts, slices, isinstance, calls of built-ins. -/
namespace Pk
open PySem PySem.Spec PyProof.Rows L2
open LamX (Tabs TabS ExtN CodeO)
section
variable {Z : Pm} {w : Own} {H : Hp}
/-! ### dicts -/
theorem Rk.look {k : Key} : ∀ {vs : List (Key × V)} {l : List (Key × D)}, Rk Z w H vs l → (∀ d, lookK k l = some d → ∃ v, L2.valV vs k = some v ∧ R Z w H v d) ∧ (lookK k l = none → L2.valV vs k = none)
  | _, _, .nil => ⟨fun d h => by simp [lookK] at h, fun _ => rfl⟩
  | _, _, .cons (k := j) (v := v) (d := d) (vs := vs) (l := l) r q => by
    obtain ⟨h1, h2⟩ := q.look (k := k)
    by_cases e : j = k
    · refine ⟨fun d' h => ?_, fun h => ?_⟩
      · have h' : d = d' := by simpa [lookK, List.find?_cons, e] using h
        rw [← h']
        exact ⟨v, L2.valV_pos e, r⟩
      · simp [lookK, List.find?_cons, e] at h
    · have e1 : lookK k ((j, d) :: l) = lookK k l := by simp [lookK, List.find?_cons, e]
      rw [e1, L2.valV_neg (p := (j, v)) e]
      exact ⟨h1, h2⟩
theorem Rt.look {k : List Key} : ∀ {vs : List (List Key × V)} {l : List (List Key × D)}, Rt Z w H vs l → (∀ d, lookK k l = some d → ∃ v, L2.valV vs k = some v ∧ R Z w H v d) ∧ (lookK k l = none → L2.valV vs k = none)
  | _, _, .nil => ⟨fun d h => by simp [lookK] at h, fun _ => rfl⟩
  | _, _, .cons (k := j) (v := v) (d := d) (vs := vs) (l := l) r q => by
    obtain ⟨h1, h2⟩ := q.look (k := k)
    by_cases e : j = k
    · refine ⟨fun d' h => ?_, fun h => ?_⟩
      · have h' : d = d' := by simpa [lookK, List.find?_cons, e] using h
        rw [← h']
        exact ⟨v, L2.valV_pos e, r⟩
      · simp [lookK, List.find?_cons, e] at h
    · have e1 : lookK k ((j, d) :: l) = lookK k l := by simp [lookK, List.find?_cons, e]
      rw [e1, L2.valV_neg (p := (j, v)) e]
      exact ⟨h1, h2⟩
theorem Rk.any {k : Key} : ∀ {vs : List (Key × V)} {l : List (Key × D)}, Rk Z w H vs l → (vs.any fun p => decide (p.1 = k)) = l.any fun p => decide (p.1 = k)
  | _, _, .nil => rfl
  | _, _, .cons r q => by rw [List.any_cons, List.any_cons, q.any]
theorem Rt.any {k : List Key} : ∀ {vs : List (List Key × V)} {l : List (List Key × D)}, Rt Z w H vs l → (vs.any fun p => decide (p.1 = k)) = l.any fun p => decide (p.1 = k)
  | _, _, .nil => rfl
  | _, _, .cons r q => by rw [List.any_cons, List.any_cons, q.any]
theorem Rk.repl {k : Key} {v : V} {d : D} (r : R Z w H v d) : ∀ {vs : List (Key × V)} {l : List (Key × D)}, Rk Z w H vs l → Rk Z w H (vs.map fun p => if p.1 = k then (p.1, v) else p) (l.map fun p => if p.1 = k then (p.1, d) else p)
  | _, _, .nil => .nil
  | _, _, .cons (k := j) r' q => by
    rw [List.map_cons, List.map_cons]
    by_cases e : j = k
    · simp only [e, if_true]; exact .cons r (q.repl r)
    · simp only [e, if_false]; exact .cons r' (q.repl r)
theorem Rt.repl {k : List Key} {v : V} {d : D} (r : R Z w H v d) : ∀ {vs : List (List Key × V)} {l : List (List Key × D)}, Rt Z w H vs l → Rt Z w H (vs.map fun p => if p.1 = k then (p.1, v) else p) (l.map fun p => if p.1 = k then (p.1, d) else p)
  | _, _, .nil => .nil
  | _, _, .cons (k := j) r' q => by
    rw [List.map_cons, List.map_cons]
    by_cases e : j = k
    · simp only [e, if_true]; exact .cons r (q.repl r)
    · simp only [e, if_false]; exact .cons r' (q.repl r)
theorem Rt.append : ∀ {vs us : List (List Key × V)} {l m : List (List Key × D)}, Rt Z w H vs l → Rt Z w H us m → Rt Z w H (vs ++ us) (l ++ m)
  | _, _, _, _, .nil, q => q
  | _, _, _, _, .cons r q, q' => .cons r (q.append q')
theorem Rk.put {k : Key} {v : V} {d : D} {vs : List (Key × V)} {l : List (Key × D)} (q : Rk Z w H vs l) (r : R Z w H v d) : Rk Z w H (L2.putK vs k v) (putK k d l) := by
  unfold L2.putK putK
  rw [q.any]
  split
  · exact q.repl r
  · exact q.append (.cons r .nil)
theorem Rt.put {k : List Key} {v : V} {d : D} {vs : List (List Key × V)} {l : List (List Key × D)} (q : Rt Z w H vs l) (r : R Z w H v d) : Rt Z w H (L2.putK vs k v) (putK k d l) := by
  unfold L2.putK putK
  rw [q.any]
  split
  · exact q.repl r
  · exact q.append (.cons r .nil)
theorem R.key {v : V} {d : D} {k : Key} (h : BR Z w H v d) (e : keyD d = some k) : v = kV k := by
  cases d <;> simp [keyD] at e
  · subst e; exact h.int
  · subst e; exact h.str
theorem Rs.keys : ∀ {vs : List V} {l : List D} {ks : List Key}, Rs Z w H vs l → keysD l = some ks → vs = ks.map kV
  | _, _, ks, .nil, e => by
    simp [keysD] at e; subst e; rfl
  | _, _, ks, .cons (d := d) (l := l) r q, e => by
    unfold keysD at e
    split at e
    · rename_i k r' h1 h2
      cases e
      rw [List.map_cons, q.keys h2, R.key (.inl r) h1]
    · cases e
theorem BR.tkey {v : V} {d : D} {k : List Key} (h : BR Z w H v d) (e : tkeyD d = some k) : ∃ b, v = .ref b ∧ H b = some (.tup (k.map kV)) := by
  cases d <;> simp [tkeyD] at e
  obtain ⟨a, vs, h1, _, h2, h3⟩ := h.tup
  exact ⟨a, h1, by rw [h2, h3.keys e]⟩
theorem BR.dgetk {x y : V} {l : List (Key × D)} {d : D} {k : Key} (hx : BR Z w H x (.dk l)) (hy : BR Z w H y d) (e : keyD d = some k) : ∃ a, x = .ref a ∧ ∃ vs, Rk Z w H vs l ∧ L2.DGet H a y (L2.valV vs k) := by
  obtain ⟨a, vs, h1, h2, h3⟩ := hx.dk
  refine ⟨a, h1, vs, h3, .inl ⟨vs, k, h2, R.key hy e, rfl⟩⟩
theorem BR.dgett {x y : V} {l : List (List Key × D)} {d : D} {k : List Key} (hx : BR Z w H x (.dt l)) (hy : BR Z w H y d) (e : tkeyD d = some k) : ∃ a, x = .ref a ∧ ∃ vs, Rt Z w H vs l ∧ L2.DGet H a y (L2.valV vs k) := by
  obtain ⟨a, vs, h1, h2, h3⟩ := hx.dt
  obtain ⟨b, h4, h5⟩ := hy.tkey e
  exact ⟨a, h1, vs, h3, .inr ⟨vs, k, b, h2, h4, h5, rfl⟩⟩
end

/-! ### comparisons -/
def cmpOf : COp → CmpOp
  | .lt => .Lt
  | .le => .LtE
  | .gt => .Gt
  | .ge => .GtE
  | .eq => .Eq
  | .ne => .NotEq
  | .isN => .Is
  | .notN => .IsNot
  | .mem => .In
  | .nmem => .NotIn
def rEqM (K : PySem.W.Frag) (neg : Bool) : R2 := fun x y H Q => ∃ d e, Dp K H x d ∧ Dp K H y e ∧ d.canLay0 = true ∧ e.canLay0 = true ∧ min d.depth e.depth ≤ 60 ∧ Q (.bl (if neg then !PyData.eqv d e else PyData.eqv d e)) H
def rInM (K : PySem.W.Frag) (neg : Bool) : R2 := fun x y H Q => ∃ d ds, Dp K H x d ∧ (Dp K H y (.list ds) ∨ Dp K H y (.tuple ds)) ∧ d.canLay0 = true ∧ PyData.canLayAll0 ds = true ∧ d.depth ≤ 60 ∧ Q (.bl (if neg then !(ds.any fun z => PyData.eqv z d) else ds.any fun z => PyData.eqv z d)) H
def rInDk (neg : Bool) : R2 := fun x y H Q => ∃ a o, y = .ref a ∧ L2.DGet H a x o ∧ Q (.bl (if neg then !o.isSome else o.isSome)) H
section
variable {X : Cx}
theorem or_eqM (hu : X.A.units + 64 < cLine) : OpR X (compareOp .Eq) (rEqM X.K false) := by
  intro pins s σ H x y v u Q I rx ry h
  obtain ⟨d, e, hd, he, sd, se, hm, q⟩ := h
  obtain ⟨as, r1⟩ := Dp.reads I d x v hd rx
  obtain ⟨bs, r2⟩ := Dp.reads I e y u he ry
  exact SeqAt.compareEq_reads r1 r2 sd se (by omega) ⟨.bl _, H, I, rfl, q⟩
theorem or_neM (hu : X.A.units + 64 < cLine) : OpR X (compareOp .NotEq) (rEqM X.K true) := by
  intro pins s σ H x y v u Q I rx ry h
  obtain ⟨d, e, hd, he, sd, se, hm, q⟩ := h
  obtain ⟨as, r1⟩ := Dp.reads I d x v hd rx
  obtain ⟨bs, r2⟩ := Dp.reads I e y u he ry
  exact SeqAt.compareNe_reads r1 r2 sd se (by omega) ⟨.bl _, H, I, rfl, q⟩
theorem or_inM (hu : X.A.units + 64 < cLine) : OpR X (compareOp .In) (rOr (rInM X.K false) (rInDk false)) := by
  intro pins s σ H x y v u Q I rx ry h
  rcases h with ⟨d, ds, hd, he, sd, se, hm, q⟩ | ⟨a, o, rfl, g, q⟩
  · obtain ⟨as, r1⟩ := Dp.reads I d x v hd rx
    have hr : X.A.units + 1 + min (PyData.depthAll ds) d.depth < cLine := by
      have h2 : min (PyData.depthAll ds) d.depth ≤ d.depth := Nat.min_le_right _ _
      omega
    rcases he with he | he
    · obtain ⟨bs, r2⟩ := Dp.reads I (.list ds) y u he ry
      exact SeqAt.in_list_reads r2 r1 se sd hr ⟨.bl _, H, I, rfl, q⟩
    · obtain ⟨bs, r2⟩ := Dp.reads I (.tuple ds) y u he ry
      exact SeqAt.in_tuple_reads r2 r1 se sd hr ⟨.bl _, H, I, rfl, q⟩
  · cases ry
    exact d_in (by omega) I g rx fun s' I' => ⟨.bl _, H, I', rfl, q⟩
theorem or_ninM (hu : X.A.units + 64 < cLine) : OpR X (compareOp .NotIn) (rOr (rInM X.K true) (rInDk true)) := by
  intro pins s σ H x y v u Q I rx ry h
  rcases h with ⟨d, ds, hd, he, sd, se, hm, q⟩ | ⟨a, o, rfl, g, q⟩
  · obtain ⟨as, r1⟩ := Dp.reads I d x v hd rx
    have hr : X.A.units + 1 + min (PyData.depthAll ds) d.depth < cLine := by
      have h2 : min (PyData.depthAll ds) d.depth ≤ d.depth := Nat.min_le_right _ _
      omega
    rcases he with he | he
    · obtain ⟨bs, r2⟩ := Dp.reads I (.list ds) y u he ry
      exact SeqAt.notIn_list_reads r2 r1 se sd hr ⟨.bl _, H, I, rfl, q⟩
    · obtain ⟨bs, r2⟩ := Dp.reads I (.tuple ds) y u he ry
      exact SeqAt.notIn_tuple_reads r2 r1 se sd hr ⟨.bl _, H, I, rfl, q⟩
  · cases ry
    exact d_notIn (by omega) I g rx fun s' I' => ⟨.bl _, H, I', rfl, q⟩
end
def rCmp (K : PySem.W.Frag) : COp → R2
  | .lt => rOr (rI0 fun i j => .bl (decide (i < j))) (rLtT K)
  | .le => rI0 fun i j => .bl (decide (i ≤ j))
  | .gt => rI0 fun i j => .bl (decide (j < i))
  | .ge => rI0 fun i j => .bl (decide (j ≤ i))
  | .eq => rEqM K false
  | .ne => rEqM K true
  | .isN => fun x y H Q => y = .non ∧ Q (.bl (decide (x = .non))) H
  | .notN => fun x y H Q => y = .non ∧ Q (.bl (!decide (x = .non))) H
  | .mem => rOr (rInM K false) (rInDk false)
  | .nmem => rOr (rInM K true) (rInDk true)
theorem or_cmp {X : Cx} (hu : X.A.units + 64 < cLine) : ∀ op, OpR X (compareOp (cmpOf op)) (rCmp X.K op)
  | .lt => OpR.or op_lt (op_ltT (by omega))
  | .le => op_le
  | .gt => op_gt
  | .ge => op_ge
  | .eq => or_eqM hu
  | .ne => or_neM hu
  | .isN => op_isN
  | .notN => op_notN
  | .mem => or_inM hu
  | .nmem => or_ninM hu
theorem BR.isNon {Z : Pm} {w : Own} {H : Hp} {x : V} {a : D} (h : BR Z w H x a) : decide (x = .non) = isNonD a := by
  rcases h with h | ⟨p, rfl, h⟩
  · cases h <;> simp [isNonD]
  · cases a <;> simp [isNonD, Top] at *
theorem toPs_any (x : D) : ∀ (l : List D), x.plain = true → D.plains l = true → ((D.toPs l).any fun z => PyData.eqv z x.toP) = l.any fun z => D.eqv z x
  | [], _, _ => by simp [D.toPs]
  | d :: l, h, h' => by
    rw [D.plains, Bool.and_eq_true] at h'
    rw [D.toPs, List.any_cons, List.any_cons, D.eqv_eq d x h'.1 h, toPs_any x l h h'.2]
theorem BR.mem {Z : Pm} {w : Own} {H : Hp} {x y : V} {a b : D} {c : Bool} (hx : BR Z w H x a) (hy : BR Z w H y b) (h : memD a b = some c) (neg : Bool) {Q : VK} (q : Q (.bl (if neg then !c else c)) H) : rOr (rInM Z.K neg) (rInDk neg) x y H Q := by
  unfold memD at h
  split at h
  · split at h
    · rename_i l hc
      rw [Bool.and_eq_true, Bool.and_eq_true] at hc
      obtain ⟨⟨h1, h2⟩, h3⟩ := hc
      cases h
      have hp := hy.dp (by rw [D.plain]; exact h2)
      rw [D.toP] at hp
      exact .inl ⟨a.toP, D.toPs l, hx.dp h1, .inl hp, a.lay h1, D.lays l h2, by rw [D.deep_eq]; exact of_decide_eq_true h3, by rw [toPs_any a l h1 h2]; exact q⟩
    · cases h
  · split at h
    · rename_i l hc
      rw [Bool.and_eq_true, Bool.and_eq_true] at hc
      obtain ⟨⟨h1, h2⟩, h3⟩ := hc
      cases h
      have hp := hy.dp (by rw [D.plain]; exact h2)
      rw [D.toP] at hp
      exact .inl ⟨a.toP, D.toPs l, hx.dp h1, .inr hp, a.lay h1, D.lays l h2, by rw [D.deep_eq]; exact of_decide_eq_true h3, by rw [toPs_any a l h1 h2]; exact q⟩
    · cases h
  · obtain ⟨k, hk, rfl⟩ := Option.map_eq_some_iff.mp h
    obtain ⟨p, rfl, vs, r, g⟩ := hy.dgetk hx hk
    refine .inr ⟨p, _, rfl, g, ?_⟩
    rename_i l
    obtain ⟨h1, h2⟩ := r.look (k := k)
    cases e : lookK k l with
    | none => rw [h2 e]; rw [e] at q; exact q
    | some d =>
      obtain ⟨v, e2, _⟩ := h1 d e
      rw [e2]; rw [e] at q; exact q
  · obtain ⟨k, hk, rfl⟩ := Option.map_eq_some_iff.mp h
    obtain ⟨p, rfl, vs, r, g⟩ := hy.dgett hx hk
    refine .inr ⟨p, _, rfl, g, ?_⟩
    rename_i l
    obtain ⟨h1, h2⟩ := r.look (k := k)
    cases e : lookK k l with
    | none => rw [h2 e]; rw [e] at q; exact q
    | some d =>
      obtain ⟨v, e2, _⟩ := h1 d e
      rw [e2]; rw [e] at q; exact q
  · cases h
theorem BR.eqm {Z : Pm} {w : Own} {H : Hp} {x y : V} {a b : D} {c : Bool} (hx : BR Z w H x a) (hy : BR Z w H y b) (h : eqD a b = some c) (neg : Bool) {Q : VK} (q : Q (.bl (if neg then !c else c)) H) : rEqM Z.K neg x y H Q := by
  unfold eqD at h
  split at h
  · rename_i hc
    rw [Bool.and_eq_true, Bool.and_eq_true] at hc
    obtain ⟨⟨h1, h2⟩, h3⟩ := hc
    cases h
    exact ⟨a.toP, b.toP, hx.dp h1, hy.dp h2, a.lay h1, b.lay h2, by rw [D.deep_eq, D.deep_eq]; exact of_decide_eq_true h3, by rw [D.eqv_eq a b h1 h2]; exact q⟩
  · cases h
theorem intsV {Z : Pm} {w : Own} {H : Hp} : ∀ {vs : List V} {l : List D} {ns : List Int}, Rs Z w H vs l → intsD l = some ns → vs = ns.map V.int
  | _, _, ns, .nil, h => by simp [intsD] at h; subst h; rfl
  | _, _, ns, .cons (d := d) (l := l) r q, h => by
    cases d <;> simp [intsD] at h
    obtain ⟨m, h1, rfl⟩ := h
    rw [List.map_cons, intsV q h1, (show BR Z w H _ _ from .inl r).int]
theorem cmpI_inv {f : Int → Int → Bool} {a b : D} {c : Bool} (h : cmpI f a b = some c) : ∃ i j, a = .int i ∧ b = .int j ∧ c = f i j := by
  unfold cmpI at h
  split at h
  · cases h; exact ⟨_, _, rfl, rfl, rfl⟩
  · cases h
theorem os_cmp {Z : Pm} {w : Own} {H : Hp} {x y : V} {a b : D} {c : Bool} {Q : VK} (hx : BR Z w H x a) (hy : BR Z w H y b) (op : COp) (h : cmpop op a b = some c) (q : Q (.bl c) H) : rCmp Z.K op x y H Q := by
  cases op with
  | lt =>
    replace h : ltD a b = some c := h
    unfold ltD at h
    split at h
    · cases h
      exact .inl ⟨_, _, hx.int, hy.int, q⟩
    · rename_i l m
      split at h
      · rename_i u v hu hv
        cases h
        obtain ⟨p, vs, rfl, _, h2, h3⟩ := hx.tup
        obtain ⟨p', us, rfl, _, g2, g3⟩ := hy.tup
        rw [intsV h3 hu] at h2
        rw [intsV g3 hv] at g2
        exact .inr ⟨p, p', u, v, rfl, rfl, SqT.of h2, SqT.of g2, q⟩
      · cases h
    · cases h
  | le => obtain ⟨i, j, rfl, rfl, rfl⟩ := cmpI_inv h; exact ⟨i, j, hx.int, hy.int, q⟩
  | gt => obtain ⟨i, j, rfl, rfl, rfl⟩ := cmpI_inv h; exact ⟨i, j, hx.int, hy.int, q⟩
  | ge => obtain ⟨i, j, rfl, rfl, rfl⟩ := cmpI_inv h; exact ⟨i, j, hx.int, hy.int, q⟩
  | eq => exact hx.eqm hy h false q
  | ne =>
    obtain ⟨c', e, rfl⟩ := Option.map_eq_some_iff.mp (show (eqD a b).map (!·) = some c from h)
    exact hx.eqm hy e true q
  | isN =>
    replace h : (if isNonD b then some (isNonD a) else none) = some c := h
    split at h
    · rename_i hb
      cases h
      refine ⟨?_, by rw [hx.isNon]; exact q⟩
      have := hy.isNon
      rw [hb] at this
      exact of_decide_eq_true this
    · cases h
  | notN =>
    replace h : (if isNonD b then some (!isNonD a) else none) = some c := h
    split at h
    · rename_i hb
      cases h
      refine ⟨?_, by rw [hx.isNon]; exact q⟩
      have := hy.isNon
      rw [hb] at this
      exact of_decide_eq_true this
    · cases h
  | mem => exact hx.mem hy h false q
  | nmem =>
    obtain ⟨c', e, rfl⟩ := Option.map_eq_some_iff.mp (show (memD a b).map (!·) = some c from h)
    exact hx.mem hy e true q
end Pk

end
section
/-! Pk6: expressions. -/
namespace Pk
open PySem PySem.Spec PyProof.Rows L2
open LamX (Tabs TabS ExtN CodeO)
theorem R.br {Z : Pm} {w : Own} {H : Hp} {v : V} {d : D} (r : R Z w H v d) : BR Z w H v d := .inl r
/-- an operand's value: a name's, or one that is told -/
def Od (Z : Pm) (a : Ex) (d : D) (x : V) (w : Own) (H : Hp) (σ : L2.St) : Prop := match a.nameI with
  | some i => σ[i]? = some (some x)
  | none => R Z w H x d
theorem Od.ext {Z : Pm} {a : Ex} {d : D} {x : V} {w w' : Own} {H H' : Hp} {σ : L2.St} (o : Od Z a d x w H σ) (y : Ext w H w' H') : Od Z a d x w' H' σ := by
  unfold Od at o ⊢
  split
  · rename_i i h; rw [h] at o; exact o
  · rename_i h; rw [h] at o; exact R.stay y.stay o
theorem Od.fin {Z : Pm} {a : Ex} {d b : D} {x : V} {w : Own} {H : Hp} {σ : L2.St} {e : En} (o : Od Z a d x w H σ) (s : SR Z w H σ e) (h : fin a d e = .ok b) : BR Z w H x b := by
  unfold Od at o
  unfold Pk.fin at h
  split at o
  · rename_i i hi
    rw [hi] at h
    obtain ⟨v, h1, h2⟩ := s.pk h
    rw [o] at h1
    cases h1
    exact h2
  · rename_i hi
    rw [hi] at h
    cases h
    exact .inl o
theorem pk_exc {e : En} {i c : Nat} {p : D} : e.pk i ≠ .exc c p := by
  unfold En.pk
  split <;> exact fun h => by cases h
theorem opd (C : Cn) {w : Own} {H : Hp} {σ : L2.St} {e : En} {a : Ex} {K : V → Hp → Prop} (s : SR C.Z w H σ e)
    (h : Pb (XP C w H) (opO a (den C.F C.G a) e) fun p => ∀ x w1 H1, Ext w H w1 H1 → SR C.Z w1 H1 σ p.2 → Od C.Z a p.1 x w1 H1 σ → K x H1) : tO C a σ H K := by
  unfold tO
  unfold opO at h
  cases hn : a.nameI with
  | some i =>
    rw [hn] at h
    dsimp only at h ⊢
    cases hp : e.pk i with
    | ok d =>
      rw [hp] at h
      obtain ⟨v, h1, h2⟩ := s.pk hp
      exact ⟨v, h1, h v w H (.refl _ _) s (by unfold Od; rw [hn]; exact h1)⟩
    | exc c p => exact absurd hp pk_exc
    | bad => rw [hp] at h; exact h.elim
  | none =>
    rw [hn] at h
    dsimp only at h ⊢
    refine ⟨w, e, s, Pb.mono h.bind (fun _ _ z => z) fun p k x w' H' y s' v => ?_⟩
    obtain ⟨w2, y2, s2, r⟩ := v.free s'
    exact k x w2 H' (y.trans y2) s2 (by unfold Od; rw [hn]; exact r)
/-- the same for an expression whose value is held -/
theorem opv (C : Cn) {w : Own} {H : Hp} {σ : L2.St} {e : En} {a : Ex} {K : V → Hp → Prop} (s : SR C.Z w H σ e)
    (h : Pb (XP C w H) (den C.F C.G a e) fun p => ∀ x w1 H1, Ext w H w1 H1 → SR C.Z w1 H1 σ p.2 → R C.Z w1 H1 x p.1.d → K x H1) : tD C a σ H K := by
  refine ⟨w, e, s, Pb.mono h (fun _ _ z => z) fun p k x w' H' y s' v => ?_⟩
  obtain ⟨w2, y2, s2, r⟩ := v.free s'
  exact k x w2 H' (y.trans y2) s2 r
theorem Pb.fin {C : Cn} {A : Type} {X : Nat → D → Prop} {a : Ex} {d : D} {x : V} {w : Own} {H : Hp} {σ : L2.St} {e : En} {f : D → Out A} {k : A → Prop} (o : Od C.Z a d x w H σ) (s : SR C.Z w H σ e) (h : Pb X ((fin a d e).bind f) k) :
    ∃ b, BR C.Z w H x b ∧ Pb X (f b) k := by
  cases hf : Pk.fin a d e with
  | ok b => rw [hf] at h; exact ⟨b, o.fin s hf, h⟩
  | exc c p =>
    unfold Pk.fin at hf
    split at hf
    · exact absurd hf pk_exc
    · cases hf
  | bad => rw [hf] at h; exact h.elim
section
variable {X : Cx} {C : Cn} {a b c : Ex} {ea eb ec : Expr} {pos : Pos}
theorem pd_bin (hK : X.K = C.Z.K) (ha : PE X ea (tO C a)) (hb : PE X eb (tO C b)) (op : BOp) : PE X (.BinOp ea (opOf op) eb pos) (tD C (.bin op a b)) := by
  refine PE.imp (pe_op (or_bin op) ha hb) fun σ H Q ⟨w, e, s, h⟩ => ?_
  unfold PE1 at h; rw [den] at h
  refine opd C s (Pb.mono h.bind (fun _ _ z => z) fun ⟨oa, e1⟩ h1 x w1 H1 y1 s1 o1 => ?_)
  refine opd C s1 (Pb.mono h1.bind (fun _ _ z => z.ext y1) fun ⟨ob, e2⟩ h2 y w2 H2 y2 s2 o2 => ?_)
  obtain ⟨da, ba, h2⟩ := Pb.fin (o1.ext y2) s2 h2
  obtain ⟨db, bb, h2⟩ := Pb.fin o2 s2 h2
  obtain ⟨v, hv, h2⟩ := Pb.of h2.bind
  rw [hK]
  exact os_bin op w2 H2 σ e2 x y da db v Q s2 ba bb hv fun z w' H' y' s' r' => h2 z w' H' ((y1.trans y2).trans y') s' r'
theorem pd_neg (ha : PE X ea (tO C a)) : PE X (.UnaryOp .USub ea pos) (tD C (.neg a)) := by
  refine PE.imp (pe_un un_neg ha) fun σ H Q ⟨w, e, s, h⟩ => ?_
  unfold PE1 at h; rw [den] at h
  refine opd C s (Pb.mono h.bind (fun _ _ z => z) fun ⟨oa, e1⟩ h1 x w1 H1 y1 s1 o1 => ?_)
  obtain ⟨da, ba, h1⟩ := Pb.fin o1 s1 h1
  obtain ⟨i, hi, h1⟩ := Pb.of h1.bind
  cases da <;> simp [intD] at hi
  subst hi
  exact ⟨_, ba.int, h1 _ w1 H1 y1 s1 (.int _)⟩
theorem pd_cmp (hK : X.K = C.Z.K) (hu : X.A.units + 64 < cLine) (ha : PE X ea (tO C a)) (hb : PE X eb (tO C b)) (op : COp) (hm : behindInMarks (cmpOf op) eb = false) : PE X (.Compare ea [cmpOf op] [eb] pos) (tD C (.cmp op a b)) := by
  refine PE.imp (pe_cmpR (or_cmp hu op) ha hb hm) fun σ H Q ⟨w, e, s, h⟩ => ?_
  unfold PE1 at h; rw [den] at h
  refine opd C s (Pb.mono h.bind (fun _ _ z => z) fun ⟨oa, e1⟩ h1 x w1 H1 y1 s1 o1 => ?_)
  refine opd C s1 (Pb.mono h1.bind (fun _ _ z => z.ext y1) fun ⟨ob, e2⟩ h2 y w2 H2 y2 s2 o2 => ?_)
  obtain ⟨da, ba, h2⟩ := Pb.fin (o1.ext y2) s2 h2
  obtain ⟨db, bb, h2⟩ := Pb.fin o2 s2 h2
  obtain ⟨v, hv, h2⟩ := Pb.of h2.bind
  rw [hK]
  exact os_cmp ba bb op hv (h2 _ w2 H2 (y1.trans y2) s2 (.bl _))
theorem pt_cmpD (hK : X.K = C.Z.K) (hu : X.A.units + 64 < cLine) (ha : PE X ea (tO C a)) (hb : PE X eb (tO C b)) (op : COp) (hm : behindInMarks (cmpOf op) eb = false) : PT X (.Compare ea [cmpOf op] [eb] pos) (tTest (tD C (.cmp op a b))) := by
  refine PT.imp (pt_cmpR (or_cmp hu op) ha hb hm) fun σ H Q ⟨w, e, s, h⟩ => ?_
  unfold PE1 at h; rw [den] at h
  refine opd C s (Pb.mono h.bind (fun _ _ z => z) fun ⟨oa, e1⟩ h1 x w1 H1 y1 s1 o1 => ?_)
  refine opd C s1 (Pb.mono h1.bind (fun _ _ z => z.ext y1) fun ⟨ob, e2⟩ h2 y w2 H2 y2 s2 o2 => ?_)
  obtain ⟨da, ba, h2⟩ := Pb.fin (o1.ext y2) s2 h2
  obtain ⟨db, bb, h2⟩ := Pb.fin o2 s2 h2
  obtain ⟨v, hv, h2⟩ := Pb.of h2.bind
  rw [hK]
  exact os_cmp ba bb op hv (h2 _ w2 H2 (y1.trans y2) s2 (.bl _))
theorem cmp2_sound (hK : X.K = C.Z.K) {op op' : COp} {σ : L2.St} {H : Hp} {Q : VK} (h : tD C (.cmp2 op op' a b c) σ H Q) : tChain (rCmp X.K op) (rCmp X.K op') (tD C a) (tD C b) (tD C c) σ H Q := by
  obtain ⟨w, e, s, h⟩ := h
  unfold PE1 at h; rw [den] at h
  refine opv C s (Pb.mono h.bind (fun _ _ z => z) fun ⟨va, e1⟩ h1 x w1 H1 y1 s1 r1 => ?_)
  refine opv C s1 (Pb.mono h1.bind (fun _ _ z => z.ext y1) fun ⟨vb, e2⟩ h2 y w2 H2 y2 s2 r2 => ?_)
  obtain ⟨v, hv, h2⟩ := Pb.of h2.bind
  rw [hK]
  refine os_cmp (Z := C.Z) (w := w2) (.inl (R.stay y2.stay r1)) (.inl r2) op hv ⟨v, rfl, ?_⟩
  cases v with
  | false => exact iteF (h2 _ w2 H2 (y1.trans y2) s2 (.bl _))
  | true =>
    refine iteT (opv C s2 (Pb.mono h2.bind (fun _ _ z => z.ext (y1.trans y2)) fun ⟨vc, e3⟩ h3 z w3 H3 y3 s3 r3 => ?_))
    obtain ⟨v, hv, h3⟩ := Pb.of h3.bind
    exact os_cmp (Z := C.Z) (w := w3) (.inl (R.stay y3.stay r2)) (.inl r3) op' hv (h3 _ w3 H3 ((y1.trans y2).trans y3) s3 (.bl _))
theorem pd_cmp2 (hK : X.K = C.Z.K) (hu : X.A.units + 64 < cLine) (ha : PE X ea (tD C a)) (hb : PE X eb (tD C b)) (hc : PE X ec (tD C c)) (op op' : COp) (hm : lastMarks [cmpOf op, cmpOf op'] [eb, ec] = false) : PE X (.Compare ea [cmpOf op, cmpOf op'] [eb, ec] pos) (tD C (.cmp2 op op' a b c)) :=
  PE.imp (pe_chain (or_cmp hu op) (or_cmp hu op') ha hb hc hm) fun σ H Q h => cmp2_sound hK h
theorem pt_cmp2D (hK : X.K = C.Z.K) (hu : X.A.units + 64 < cLine) (ha : PE X ea (tD C a)) (hb : PE X eb (tD C b)) (hc : PE X ec (tD C c)) (op op' : COp) (hm : lastMarks [cmpOf op, cmpOf op'] [eb, ec] = false) : PT X (.Compare ea [cmpOf op, cmpOf op'] [eb, ec] pos) (tTest (tD C (.cmp2 op op' a b c))) :=
  PT.imp (pt_chain (or_cmp hu op) (or_cmp hu op') ha hb hc hm) fun σ H Q h => cmp2_sound hK h
/-- a test's reading -/
abbrev tT (C : Cn) (c : Ex) : TT := tTest (tD C c)
theorem test_of {w : Own} {H : Hp} {σ : L2.St} {e : En} {K : Bool → Hp → Prop} (s : SR C.Z w H σ e)
    (h : Pb (XP C w H) (den C.F C.G a e) fun p => ∀ w1 H1, Ext w H w1 H1 → SR C.Z w1 H1 σ p.2 → ∃ k, p.1.d = .bl k ∧ K k H1) : tT C a σ H K := by
  refine opv C s (Pb.mono h (fun _ _ z => z) fun p k x w1 H1 y1 s1 r1 => ?_)
  obtain ⟨b, hb, k⟩ := k w1 H1 y1 s1
  rw [hb] at r1
  exact ⟨b, (R.br r1).bl, k⟩
theorem blD_inv {d : D} {b : Bool} (h : blD d = some b) : d = .bl b := by
  cases d <;> simp [blD] at h
  rw [h]
theorem intD_inv {d : D} {b : Int} (h : intD d = some b) : d = .int b := by
  cases d <;> simp [intD] at h
  rw [h]
theorem and_sound {σ : L2.St} {H : Hp} {Q : VK} (h : tD C (.and a b) σ H Q) : tAndV (tD C a) (tD C b) σ H Q := by
  obtain ⟨w, e, s, h⟩ := h
  unfold PE1 at h; rw [den] at h
  refine opv C s (Pb.mono h.bind (fun _ _ z => z) fun ⟨va, e1⟩ h1 x w1 H1 y1 s1 r1 => ?_)
  obtain ⟨v, hv, h1⟩ := Pb.of h1.bind
  have hx : x = .bl v := by
    rw [blD_inv hv] at r1
    exact (R.br r1).bl
  refine ⟨v, hx, ?_⟩
  cases v with
  | false => exact iteF (h1 _ w1 H1 y1 s1 (.bl _))
  | true => exact iteT ⟨w1, e1, s1, PE1.ext h1 y1⟩
theorem or_sound {σ : L2.St} {H : Hp} {Q : VK} (h : tD C (.or a b) σ H Q) : tOrV (tD C a) (tD C b) σ H Q := by
  obtain ⟨w, e, s, h⟩ := h
  unfold PE1 at h; rw [den] at h
  refine opv C s (Pb.mono h.bind (fun _ _ z => z) fun ⟨va, e1⟩ h1 x w1 H1 y1 s1 r1 => ?_)
  obtain ⟨v, hv, h1⟩ := Pb.of h1.bind
  have hx : x = .bl v := by
    rw [blD_inv hv] at r1
    exact (R.br r1).bl
  refine ⟨v, hx, ?_⟩
  cases v with
  | true => exact iteT (h1 _ w1 H1 y1 s1 (.bl _))
  | false => exact iteF ⟨w1, e1, s1, PE1.ext h1 y1⟩
theorem andT_sound {σ : L2.St} {H : Hp} {Q : Bool → Hp → Prop} (h : tT C (.and a b) σ H Q) : tAnd (tT C a) (tT C b) σ H Q := by
  obtain ⟨w, e, s, h⟩ := h
  unfold PE1 at h; rw [den] at h
  refine test_of s (Pb.mono h.bind (fun _ _ z => z) fun ⟨va, e1⟩ h1 w1 H1 y1 s1 => ?_)
  obtain ⟨v, hv, h1⟩ := Pb.of h1.bind
  refine ⟨v, blD_inv hv, ?_⟩
  cases v with
  | false =>
    obtain ⟨k, e, q⟩ := h1 (.bl false) w1 H1 y1 s1 (.bl _)
    cases e
    exact iteF q
  | true => exact iteT ⟨w1, e1, s1, PE1.ext h1 y1⟩
theorem orT_sound {σ : L2.St} {H : Hp} {Q : Bool → Hp → Prop} (h : tT C (.or a b) σ H Q) : tOr (tT C a) (tT C b) σ H Q := by
  obtain ⟨w, e, s, h⟩ := h
  unfold PE1 at h; rw [den] at h
  refine test_of s (Pb.mono h.bind (fun _ _ z => z) fun ⟨va, e1⟩ h1 w1 H1 y1 s1 => ?_)
  obtain ⟨v, hv, h1⟩ := Pb.of h1.bind
  refine ⟨v, blD_inv hv, ?_⟩
  cases v with
  | true =>
    obtain ⟨k, e, q⟩ := h1 (.bl true) w1 H1 y1 s1 (.bl _)
    cases e
    exact iteT q
  | false => exact iteF ⟨w1, e1, s1, PE1.ext h1 y1⟩
theorem notT_sound {σ : L2.St} {H : Hp} {Q : Bool → Hp → Prop} (h : tT C (.not a) σ H Q) : tNot (tT C a) σ H Q := by
  obtain ⟨w, e, s, h⟩ := h
  unfold PE1 at h; rw [den] at h
  refine test_of s (Pb.mono h.bind (fun _ _ z => z) fun ⟨va, e1⟩ h1 w1 H1 y1 s1 => ?_)
  obtain ⟨v, hv, h1⟩ := Pb.of h1.bind
  refine ⟨v, blD_inv hv, ?_⟩
  obtain ⟨k, e, q⟩ := h1 (.bl (!v)) w1 H1 y1 s1 (.bl _)
  cases e
  exact q
theorem pd_not (ha : PE X ea (tD C a)) : PE X (.UnaryOp .Not ea pos) (tD C (.not a)) := by
  refine PE.imp (pe_not ha) fun σ H Q ⟨w, e, s, h⟩ => ?_
  unfold PE1 at h; rw [den] at h
  refine opv C s (Pb.mono h.bind (fun _ _ z => z) fun ⟨va, e1⟩ h1 x w1 H1 y1 s1 r1 => ?_)
  obtain ⟨v, hv, h1⟩ := Pb.of h1.bind
  rw [blD_inv hv] at r1
  exact ⟨v, (R.br r1).bl, h1 _ w1 H1 y1 s1 (.bl _)⟩
theorem pd_ite (hc : PT X ec (tT C c)) (ha : PE X ea (tD C a)) (hb : PE X eb (tD C b)) : PE X (.IfExp ec ea eb pos) (tD C (.ite c a b)) := by
  refine PE.imp (pe_ifExp hc ha hb) fun σ H Q ⟨w, e, s, h⟩ => ?_
  unfold PE1 at h; rw [den] at h
  refine test_of s (Pb.mono h.bind (fun _ _ z => z) fun ⟨va, e1⟩ h1 w1 H1 y1 s1 => ?_)
  obtain ⟨v, hv, h1⟩ := Pb.of h1.bind
  refine ⟨v, blD_inv hv, ?_⟩
  cases v with
  | true => exact iteT ⟨w1, e1, s1, PE1.ext h1 y1⟩
  | false => exact iteF ⟨w1, e1, s1, PE1.ext h1 y1⟩
theorem pd_const {d : D} {v : V} {e : Expr} (h : PE X e (tC v)) (hr : ∀ w H, R C.Z w H v d) : PE X e (tD C (.const d)) := by
  refine PE.imp h fun σ H Q ⟨w, e, s, h⟩ => ?_
  unfold PE1 at h; rw [den] at h
  exact h v w H (.refl _ _) s (hr w H)
theorem pd_glob {g : Nat} {v : V} {e : Expr} (h : PE X e (tC v)) (hr : ∀ d, C.G.glob g = some d → ∀ w H, R C.Z w H v d) : PE X e (tD C (.glob g)) := by
  refine PE.imp h fun σ H Q ⟨w, e, s, h⟩ => ?_
  unfold PE1 at h; rw [den] at h
  obtain ⟨d, hd, h⟩ := Pb.of h.bind
  exact h v w H (.refl _ _) s (hr d hd w H)
theorem pd_name {i : Nat} {e : Expr} (h : PE X e (tVar i)) : PE X e (tD C (.name i)) := by
  refine PE.imp h fun σ H Q ⟨w, e, s, h⟩ => ?_
  unfold PE1 at h; rw [den] at h
  cases hr : e.rd i with
  | ok p =>
    obtain ⟨v, e'⟩ := p
    rw [hr] at h
    obtain ⟨x, w', h1, y, s', r⟩ := s.rd hr
    exact ⟨x, h1, h x w' H y s' r⟩
  | exc c p =>
    unfold En.rd at hr
    split at hr <;> cases hr
  | bad => rw [hr] at h; exact h.elim
theorem po_of {e : Expr} (h : a.nameI = none) (p : PE X e (tD C a)) : PE X e (tO C a) := by
  unfold tO
  rw [h]
  exact p
theorem po_name {i : Nat} {e : Expr} (p : PE X e (tVar i)) : PE X e (tO C (.name i)) := p
end
end Pk

end
section
/-! Pk7: arguments, displays, built-ins. -/
namespace Pk
open PySem PySem.Spec PyProof.Rows L2
open LamX (Tabs TabS ExtN CodeO)
def notStar : Expr → Bool
  | .Starred _ _ => false
  | _ => true
theorem star_cons {e : Expr} {es : List Expr} {env : Env} (h : notStar e = true) : starEach (e :: es) env = (false, eval e env) :: starEach es env := by
  cases e <;> first | rfl | cases h
theorem plain_star : ∀ {es : List Expr} {env : Env} {pos : Pos}, es.all notStar = true → (backTo pos (starEach es env)).any (·.1) = false
  | [], _, _, _ => rfl
  | e :: es, env, pos, h => by
    rw [List.all_cons, Bool.and_eq_true] at h
    rw [star_cons h.1]
    have ih := plain_star (env := env) (pos := pos) h.2
    show (false || (backTo pos (starEach es env)).any (·.1)) = false
    rw [ih]; rfl
def Exs.len : Exs → Nat
  | .nil => 0
  | .cons _ r => r.len + 1
theorem dens_len {F : Fns} {G : Gv} : ∀ {es : Exs} {e e' : En} {ds : List D}, dens F G es e = .ok (ds, e') → ds.length = es.len
  | .nil, e, e', ds, h => by rw [dens] at h; cases h; rfl
  | .cons a r, e, e', ds, h => by
    rw [dens] at h
    cases h1 : den F G a e with
    | ok p =>
      rw [h1] at h
      dsimp only [Out.bind_ok] at h
      cases h2 : dens F G r p.2 with
      | ok q =>
        rw [h2] at h
        cases h
        exact congrArg (· + 1) (dens_len (es := r) (e := p.2) (e' := q.2) (ds := q.1) h2)
      | exc c p => rw [h2] at h; cases h
      | bad => rw [h2] at h; cases h
    | exc c p => rw [h1] at h; cases h
    | bad => rw [h1] at h; cases h
/-- arguments whose values are held -/
def tA (C : Cn) (es : Exs) : TA := fun σ H Q => ∃ w e, SR C.Z w H σ e ∧ Pb (XP C w H) (dens C.F C.G es e) fun p => ∀ vs w' H', Ext w H w' H' → SR C.Z w' H' σ p.2 → Rs C.Z w' H' vs p.1 → Q vs H'
/-- operands -/
def Ods (Z : Pm) : Exs → List D → List V → Own → Hp → L2.St → Prop
  | .nil, ds, vs, _, _, _ => ds = [] ∧ vs = []
  | .cons a r, ds, vs, w, H, σ => ∃ d ds' v vs', ds = d :: ds' ∧ vs = v :: vs' ∧ Od Z a d v w H σ ∧ Ods Z r ds' vs' w H σ
theorem Ods.ext {Z : Pm} {w w' : Own} {H H' : Hp} {σ : L2.St} (y : Ext w H w' H') : ∀ {es : Exs} {ds : List D} {vs : List V}, Ods Z es ds vs w H σ → Ods Z es ds vs w' H' σ
  | .nil, _, _, h => h
  | .cons _ _, _, _, ⟨d, ds', v, vs', h1, h2, o, r⟩ => ⟨d, ds', v, vs', h1, h2, o.ext y, Ods.ext y r⟩
/-- values that are read on the spot -/
inductive BRs (Z : Pm) (w : Own) (H : Hp) : List V → List D → Prop
  | nil : BRs Z w H [] []
  | cons {v : V} {d : D} {vs : List V} {l : List D} : BR Z w H v d → BRs Z w H vs l → BRs Z w H (v :: vs) (d :: l)
theorem Pb.fins {C : Cn} {w : Own} {H : Hp} {σ : L2.St} {e : En} {A : Type} {X : Nat → D → Prop} (s : SR C.Z w H σ e) : ∀ {es : Exs} {ds : List D} {vs : List V} {f : List D → Out A} {k : A → Prop}, Ods C.Z es ds vs w H σ → Pb X ((fins es ds e).bind f) k → ∃ bs, BRs C.Z w H vs bs ∧ Pb X (f bs) k
  | .nil, _, _, f, k, ⟨rfl, rfl⟩, h => ⟨[], .nil, h⟩
  | .cons a r, _, _, f, k, ⟨d, ds', v, vs', rfl, rfl, o, q⟩, h => by
    have h' : Pb X (((Pk.fin a d e).bind fun x => (Pk.fins r ds' e).bind fun xs => .ok (x :: xs)).bind f) k := h
    have e1 : (((Pk.fin a d e).bind fun x => (Pk.fins r ds' e).bind fun xs => .ok (x :: xs)).bind f) = (Pk.fin a d e).bind fun x => (Pk.fins r ds' e).bind fun xs => f (x :: xs) := by
      cases Pk.fin a d e with
      | ok x =>
        dsimp only [Out.bind_ok]
        cases Pk.fins r ds' e <;> rfl
      | exc c p => rfl
      | bad => rfl
    rw [e1] at h'
    obtain ⟨b, hb, h2⟩ := Pb.fin o s h'
    obtain ⟨bs, hbs, h3⟩ := Pb.fins (es := r) s q h2
    exact ⟨b :: bs, .cons hb hbs, h3⟩
def tAO (C : Cn) (es : Exs) : TA := fun σ H Q => ∃ w e, SR C.Z w H σ e ∧ Pb (XP C w H) (densO C.F C.G es e) fun p => ∀ vs w' H', Ext w H w' H' → SR C.Z w' H' σ p.2 → Ods C.Z es p.1 vs w' H' σ → Q vs H'
section
variable {X : Cx} {C : Cn} {a : Ex} {r : Exs} {ea : Expr} {er : List Expr}
theorem pa_dnil : PA X [] (tA C .nil) := PA.imp pa_nil fun σ H Q ⟨w, e, s, h⟩ => by
  rw [dens] at h
  exact h [] w H (.refl _ _) s .nil
theorem pa_dcons (ha : PE X ea (tD C a)) (hr : PA X er (tA C r)) (hn : notStar ea = true) : PA X (ea :: er) (tA C (.cons a r)) := by
  refine PA.imp (pa_cons ha hr (star_cons hn)) fun σ H Q ⟨w, e, s, h⟩ => ?_
  rw [dens] at h
  refine opv C s (Pb.mono h.bind (fun _ _ z => z) fun ⟨va, e1⟩ h1 x w1 H1 y1 s1 r1 => ?_)
  refine ⟨w1, e1, s1, Pb.mono h1.bind (fun _ _ z => z.ext y1) fun ⟨ds, e2⟩ k vs w2 H2 y2 s2 r2 => ?_⟩
  exact k (x :: vs) w2 H2 (y1.trans y2) s2 (.cons (R.stay y2.stay r1) r2)
theorem pa_onil : PA X [] (tAO C .nil) := PA.imp pa_nil fun σ H Q ⟨w, e, s, h⟩ => by
  rw [densO] at h
  exact h [] w H (.refl _ _) s ⟨rfl, rfl⟩
theorem pa_ocons (ha : PE X ea (tO C a)) (hr : PA X er (tAO C r)) (hn : notStar ea = true) : PA X (ea :: er) (tAO C (.cons a r)) := by
  refine PA.imp (pa_cons ha hr (star_cons hn)) fun σ H Q ⟨w, e, s, h⟩ => ?_
  rw [densO] at h
  refine opd C s (Pb.mono h.bind (fun _ _ z => z) fun ⟨oa, e1⟩ h1 x w1 H1 y1 s1 o1 => ?_)
  refine ⟨w1, e1, s1, Pb.mono h1.bind (fun _ _ z => z.ext y1) fun ⟨ds, e2⟩ k vs w2 H2 y2 s2 r2 => ?_⟩
  exact k (x :: vs) w2 H2 (y1.trans y2) s2 ⟨oa, ds, x, vs, rfl, rfl, o1.ext y2, r2⟩
theorem len_line {n : Nat} (h : n ≤ 1000) : n ≤ sizeLine := by rw [sizeLine_eq]; omega
theorem pd_tup {k : Nat} {pos : Pos} (h : PA X er (tA C r)) (hl : r.len ≤ 1000) : PE X (.Tuple er k pos) (tD C (.tup r)) := by
  refine PE.imp (pe_tup h) fun σ H Q ⟨w, e, s, h⟩ => ?_
  unfold PE1 at h; rw [den] at h
  refine ⟨w, e, s, ?_⟩
  have h' := h.bind
  cases hd : dens C.F C.G r e with
  | ok p =>
    rw [hd] at h'
    intro vs w1 H1 y1 s1 r1
    exact ⟨len_line (by rw [r1.length, dens_len (ds := p.1) (e' := p.2) hd]; exact hl), Kont.tup (fun z w' H' y s' r' => h' z w' H' (y1.trans y) s' r') s1 r1⟩
  | exc c p => rw [hd] at h'; exact h'
  | bad => rw [hd] at h'; exact h'
theorem pd_lst {pos : Pos} (h : PA X er (tA C r)) (hl : r.len ≤ 1000) : PE X (.List er pos) (tD C (.lst r)) := by
  refine PE.imp (pe_lst h) fun σ H Q ⟨w, e, s, h⟩ => ?_
  unfold PE1 at h; rw [den] at h
  refine ⟨w, e, s, ?_⟩
  have h' := h.bind
  cases hd : dens C.F C.G r e with
  | ok p =>
    rw [hd] at h'
    intro vs w1 H1 y1 s1 r1
    exact ⟨len_line (by rw [r1.length, dens_len (ds := p.1) (e' := p.2) hd]; exact hl), Kont.lst (fun z w' H' y s' r' => h' z w' H' (y1.trans y) s' r') s1 r1⟩
  | exc c p => rw [hd] at h'; exact h'
  | bad => rw [hd] at h'; exact h'
theorem pd_dict0 {pos : Pos} (tk : Bool) : PE X (.Dict [] [] pos) (tD C (.dict0 tk)) := by
  cases tk with
  | false =>
    refine PE.imp pe_dnewK fun σ H Q ⟨w, e, s, h⟩ => ?_
    unfold PE1 at h; rw [den] at h
    exact Kont.dk (l := []) (fun z w' H' y s' r' => h z w' H' y s' r') s .nil
  | true =>
    refine PE.imp pe_dnewT fun σ H Q ⟨w, e, s, h⟩ => ?_
    unfold PE1 at h; rw [den] at h
    exact Kont.dt (l := []) (fun z w' H' y s' r' => h z w' H' y s' r') s .nil
end

/-! ### built-ins by values -/
section
variable {Z : Pm} {w : Own} {H : Hp}
theorem Rs.ints : ∀ {vs : List V} {l : List D} {ns : List Int}, Rs Z w H vs l → intsD l = some ns → vs = ns.map V.int
  | _, _, ns, .nil, h => by simp [intsD] at h; subst h; rfl
  | _, _, ns, .cons (d := d) (l := l) r q, h => by
    cases d <;> simp [intsD] at h
    obtain ⟨m, h1, rfl⟩ := h
    rw [List.map_cons, q.ints h1, (R.br r).int]
theorem Rs.bls : ∀ {vs : List V} {l : List D} {ns : List Bool}, Rs Z w H vs l → blsD l = some ns → vs = ns.map V.bl
  | _, _, ns, .nil, h => by simp [blsD] at h; subst h; rfl
  | _, _, ns, .cons (d := d) (l := l) r q, h => by
    cases d <;> simp [blsD] at h
    obtain ⟨m, h1, rfl⟩ := h
    rw [List.map_cons, q.bls h1, (R.br r).bl]
theorem Rs.strs : ∀ {vs : List V} {l : List D} {ns : List Str}, Rs Z w H vs l → strsD l = some ns → vs = ns.map V.str
  | _, _, ns, .nil, h => by simp [strsD] at h; subst h; rfl
  | _, _, ns, .cons (d := d) (l := l) r q, h => by
    cases d <;> simp [strsD] at h
    obtain ⟨m, h1, rfl⟩ := h
    rw [List.map_cons, q.strs h1, (R.br r).str]
theorem Rs.of_ints : ∀ ns : List Int, Rs Z w H (ns.map V.int) (ns.map D.int)
  | [] => .nil
  | n :: ns => .cons (.int n) (Rs.of_ints ns)
theorem BRs.one {vs : List V} {d : D} (h : BRs Z w H vs [d]) : ∃ v, vs = [v] ∧ BR Z w H v d := by
  cases h with
  | cons r q => cases q; exact ⟨_, rfl, r⟩
theorem BRs.two {vs : List V} {d b : D} (h : BRs Z w H vs [d, b]) : ∃ v u, vs = [v, u] ∧ BR Z w H v d ∧ BR Z w H u b := by
  cases h with
  | cons r q =>
    cases q with
    | cons r2 q => cases q; exact ⟨_, _, rfl, r, r2⟩
end
theorem insL_perm (x : Int) : ∀ l, (insL x l).Perm (x :: l)
  | [] => .refl _
  | y :: l => by
    unfold insL
    split
    · exact .refl _
    · exact ((insL_perm x l).cons y).trans (.swap x y l)
theorem sortI_perm : ∀ l, (sortI l).Perm l
  | [] => .refl _
  | x :: l => by unfold sortI; exact (insL_perm x _).trans ((sortI_perm l).cons x)
theorem insL_sorted (x : Int) : ∀ {l : List Int}, l.Pairwise (· ≤ ·) → (insL x l).Pairwise (· ≤ ·)
  | [], _ => by simp [insL]
  | y :: l, h => by
    unfold insL
    rw [List.pairwise_cons] at h
    split
    · rename_i hxy
      refine List.pairwise_cons.mpr ⟨fun z hz => ?_, List.pairwise_cons.mpr h⟩
      rcases List.mem_cons.mp hz with rfl | hz
      · exact hxy
      · exact Int.le_trans hxy (h.1 z hz)
    · rename_i hxy
      refine List.pairwise_cons.mpr ⟨fun z hz => ?_, insL_sorted x h.2⟩
      rcases List.mem_cons.mp ((insL_perm x l).mem_iff.mp hz) with rfl | hz
      · omega
      · exact h.1 z hz
theorem sortI_sorted : ∀ l : List Int, (sortI l).Pairwise (· ≤ ·)
  | [] => .nil
  | x :: l => by unfold sortI; exact insL_sorted x (sortI_sorted l)
theorem sorted_unique : ∀ {l m : List Int}, l.Perm m → l.Pairwise (· ≤ ·) → m.Pairwise (· ≤ ·) → l = m
  | [], m, p, _, _ => (List.Perm.nil_eq p)
  | x :: l, [], p, _, _ => absurd p.symm.nil_eq (by simp)
  | x :: l, y :: m, p, h, h' => by
    rw [List.pairwise_cons] at h h'
    have e : x = y := by
      have h1 : x ∈ y :: m := p.mem_iff.mp List.mem_cons_self
      have h2 : y ∈ x :: l := p.mem_iff.mpr List.mem_cons_self
      rcases List.mem_cons.mp h1 with rfl | h1
      · rfl
      · rcases List.mem_cons.mp h2 with rfl | h2
        · rfl
        · exact Int.le_antisymm (h.1 y h2) (h'.1 x h1)
    subst e
    rw [sorted_unique (List.Perm.cons_inv p) h.2 h'.2]
def rOrL (r r' : List V → Hp → VK → Prop) : List V → Hp → VK → Prop := fun xs H Q => r xs H Q ∨ r' xs H Q
def rNo : List V → Hp → VK → Prop := fun _ _ _ => False
def rTup1 (K : PySem.W.Frag) : List V → Hp → VK → Prop := fun xs H Q => ∃ p ys, xs = [.ref p] ∧ ((SqL K H p ys ∧ ∀ l, H l = none → Q (.ref l) (upd H l (.tup ys))) ∨ (SqT K H p ys ∧ Q (.ref p) H))
def rList1 (K : PySem.W.Frag) : List V → Hp → VK → Prop := fun xs H Q => ∃ p ys, xs = [.ref p] ∧ (SqL K H p ys ∨ SqT K H p ys) ∧ ∀ l, H l = none → Q (.ref l) (upd H l (.lst ys))
def rLen1 (K : PySem.W.Frag) : List V → Hp → VK → Prop := fun xs H Q => ∃ x n, xs = [x] ∧ LenV K x H n ∧ Q (.int n) H
def rAbs1 : List V → Hp → VK → Prop := fun xs H Q => ∃ i, xs = [.int i] ∧ Q (.int (if i < 0 then -i else i)) H
def rInt1 : List V → Hp → VK → Prop := fun xs H Q => (∃ i, xs = [.int i] ∧ Q (.int i) H) ∨ ∃ k, xs = [.bl k] ∧ Q (.int (if k then 1 else 0)) H
def rMax2 : List V → Hp → VK → Prop := fun xs H Q => ∃ i j, xs = [.int i, .int j] ∧ Q (.int (if j > i then j else i)) H
def rMin2 : List V → Hp → VK → Prop := fun xs H Q => ∃ i j, xs = [.int i, .int j] ∧ Q (.int (if j < i then j else i)) H
def rSortD : List V → Hp → VK → Prop := fun xs H Q => ∃ (a : Addr) (kvs : List (Key × V)) (ks : List Int), xs = [.ref a] ∧ Rd H a (.dK kvs) ∧ kvs.map (·.1) = ks.map Sum.inl ∧ ks.length < 64 ∧
    ∀ (ys : List Int) (p : Addr), ys.Perm ks → ys.Pairwise (· ≤ ·) → H p = none → Q (.ref p) (upd H p (.lst (ys.map V.int)))
def rSortU1 (K : PySem.W.Frag) : List V → Hp → VK → Prop := fun xs H Q => ∃ d : Nat, 1 ≤ d ∧ rSortU K d 1048576 xs H Q
theorem cr_sortU1 {X : Cx} : CallR X (.builtin "sorted") (rSortU1 X.K) := by
  intro pins s σ H vs us Q I r h
  obtain ⟨d, hd, h⟩ := h
  exact cr_sortT hd pins s σ H vs us Q I r h
def rDictP (K : PySem.W.Frag) : List V → Hp → VK → Prop := fun xs H Q => ∃ (a : Addr) (ps : List Addr) (kvs : List (Key × V)), xs = [.ref a] ∧ SqL K H a (ps.map V.ref) ∧ Paired (fun p kv => SqT K H p [kV kv.1, kv.2]) ps kvs ∧
    ∀ p, H p = none → Q (.ref p) (upd H p (.dK (mergeK [] kvs)))
def rBl (K : PySem.W.Frag) : Bl → List V → Hp → VK → Prop
  | .len => rLen1 K
  | .abs => rAbs1
  | .int => rInt1
  | .max => rMax2
  | .min => rMin2
  | .sum => rSum K
  | .all => rAll K
  | .any => rAny K
  | .sorted => rOrL (rSorted K) (rOrL rSortD (rSortU1 K))
  | .tuple => rTup1 K
  | .list => rList1 K
  | .str => rNo
  | .bool => rNo
  | .dict => rDictP K
def blV : Bl → Value
  | .len => .builtin "len"
  | .abs => .builtin "abs"
  | .int => .type "int"
  | .max => .builtin "max"
  | .min => .builtin "min"
  | .sum => .builtin "sum"
  | .all => .builtin "all"
  | .any => .builtin "any"
  | .sorted => .builtin "sorted"
  | .tuple => .type "tuple"
  | .list => .type "list"
  | .str => .type "str"
  | .bool => .type "bool"
  | .dict => .type "dict"
def blN : Bl → Str
  | .len => "len"
  | .abs => "abs"
  | .int => "int"
  | .max => "max"
  | .min => "min"
  | .sum => "sum"
  | .all => "all"
  | .any => "any"
  | .sorted => "sorted"
  | .tuple => "tuple"
  | .list => "list"
  | .str => "str"
  | .bool => "bool"
  | .dict => "dict"
theorem cr_no {X : Cx} {f : Value} : CallR X f rNo := fun _ _ _ _ _ _ _ _ _ h => h.elim
theorem cr_bl {X : Cx} (hc : X.calm = true) : ∀ b, CallR X (blV b) (rBl X.K b)
  | .len => call_len
  | .abs => call_abs
  | .int => call_int1
  | .max => call_max2 hc
  | .min => call_min2 hc
  | .sum => cr_sum hc
  | .all => cr_all hc
  | .any => cr_any hc
  | .sorted => L2.CallR.or cr_sorted (L2.CallR.or (call_sortedDI hc) cr_sortU1)
  | .tuple => call_tuple_of
  | .list => call_list_of
  | .str => cr_no
  | .bool => cr_no
  | .dict => call_dictP hc
theorem boot_bl : ∀ b, bootBuiltins (blN b) = some (blV b) := by
  intro b
  cases b <;> decide +kernel
theorem bl_ne (b : Bl) : blN b ≠ "__name__" ∧ (blN b == ("__debug__" : Str)) = false := by
  cases b <;> decide +kernel
theorem pe_blt {X : Cx} {b : Bl} {p pos : Pos} {e : Expr} {es : List Expr} {t : TA} (hc : X.calm = true) (hg : Gl X (blN b)) (hm : X.mg (blN b) = none) (ha : PA X (e :: es) t) (h1 : notStar e = true) (h2 : es.all notStar = true) :
    PE X (.Call (.Name (blN b) p) (e :: es) [] pos) (tCB (rBl X.K b) t) := by
  have hv := boot_bl b
  have hr := cr_bl hc b
  have hn := bl_ne b
  cases hb : blV b with
  | builtin id =>
    rw [hb] at hv hr
    exact pe_callB hr hg hm hv ha hn.1 hn.2 (star_cons h1) (plain_star h2)
  | type T =>
    rw [hb] at hv hr
    exact pe_callTy hr hg hm hv ha hn.1 hn.2 (star_cons h1) (plain_star h2)
  | _ => cases b <;> cases hb
theorem Rk.ints {Z : Pm} {w : Own} {H : Hp} : ∀ {vs : List (Key × V)} {l : List (Key × D)} {ns : List Int}, Rk Z w H vs l → ikeysD l = some ns → vs.map (·.1) = ns.map Sum.inl
  | _, _, ns, .nil, h => by simp [ikeysD] at h; subst h; rfl
  | _, _, ns, .cons (k := k) r q, h => by
    cases k with
    | inl i =>
      simp [ikeysD] at h
      obtain ⟨m, h1, rfl⟩ := h
      rw [List.map_cons, List.map_cons, q.ints h1]
    | inr x => simp [ikeysD] at h
theorem Rs.pairs {Z : Pm} {w : Own} {H : Hp} {K : PySem.W.Frag} : ∀ {vs : List V} {l : List D} {kvsD : List (Key × D)}, Rs Z w H vs l → pairsD l = some kvsD → ∃ (ps : List Addr) (kvs : List (Key × V)), vs = ps.map V.ref ∧ Paired (fun p kv => SqT K H p [kV kv.1, kv.2]) ps kvs ∧ Rk Z w H kvs kvsD
  | _, _, _, .nil, h => by simp [pairsD] at h; subst h; exact ⟨[], [], rfl, .nil, .nil⟩
  | _, _, kvsD, .cons (v := v) (d := d) (vs := vs) (l := l) r q, h => by
    unfold pairsD at h
    split at h
    · rename_i e; cases e
    · rename_i k x l' e
      cases e
      split at h
      · rename_i kk rr hk hr
        cases h
        obtain ⟨ps, kvs, rfl, h2, h3⟩ := q.pairs hr
        obtain ⟨a, us, rfl, _, g2, g3⟩ := (R.br r).tup
        cases g3 with
        | cons r1 g3 =>
          cases g3 with
          | cons r2 g3 =>
            cases g3
            rw [R.key (R.br r1) hk] at g2
            exact ⟨a :: ps, (kk, _) :: kvs, rfl, .cons (SqT.of g2) h2, .cons r2 h3⟩
      · cases h
    · cases h
theorem Rk.merge {Z : Pm} {w : Own} {H : Hp} : ∀ {more : List (Key × V)} {moreD : List (Key × D)} {acc : List (Key × V)} {accD : List (Key × D)}, Rk Z w H more moreD → Rk Z w H acc accD → Rk Z w H (mergeK acc more) (mergeD accD moreD)
  | _, _, _, _, .nil, q => q
  | _, _, _, _, .cons r q, q' => by
    show Rk Z w H (mergeK (L2.putK _ _ _) _) (mergeD (putK _ _ _) _)
    exact q.merge (q'.put r)
theorem intsD_map : ∀ ns : List Int, intsD (ns.map D.int) = some ns
  | [] => rfl
  | n :: ns => by simp [intsD, intsD_map ns]
theorem intsD_eq : ∀ {l : List D} {ns : List Int}, intsD l = some ns → l = ns.map D.int
  | [], ns, h => by simp [intsD] at h; subst h; rfl
  | d :: l, ns, h => by
    cases d <;> simp [intsD] at h
    obtain ⟨m, h1, rfl⟩ := h
    rw [List.map_cons, ← intsD_eq h1]
theorem Rs.mkTs {Z : Pm} {w : Own} {H : Hp} : ∀ {vs : List V} {l : List D} {ts : List (List Int)}, Rs Z w H vs l → tupsD l = some ts → Rs Z w H vs (ts.map mkT)
  | _, _, _, .nil, h => by simp [tupsD] at h; subst h; exact .nil
  | _, _, ts, .cons (d := d) r q, h => by
    unfold tupsD at h
    split at h
    · rename_i e; cases e
    · rename_i e
      cases e
      split at h
      · rename_i x y hx hy
        cases h
        rw [intsD_eq hx] at r
        exact .cons r (q.mkTs hy)
      · cases h
    · cases h
theorem tupI_of {Z : Pm} {w : Own} {H : Hp} {v : V} {t : List Int} (r : R Z w H v (mkT t)) : TupI Z.K H v t := by
  obtain ⟨ad, us, rfl, _, g2, g3⟩ := (R.br r).tup
  rw [g3.ints (intsD_map t)] at g2
  exact ⟨ad, rfl, SqT.of g2⟩
theorem Rs.perm {Z : Pm} {w : Own} {H : Hp} : ∀ {ys xs : List V} {l : List D}, Rs Z w H xs l → ys.Perm xs → ∃ m, m.Perm l ∧ Rs Z w H ys m := by
  intro ys xs l q p
  induction p generalizing l with
  | nil => exact ⟨l, .refl _, q⟩
  | cons x p ih =>
    cases q with
    | cons r q =>
      obtain ⟨m, pm, rm⟩ := ih q
      exact ⟨_, pm.cons _, .cons r rm⟩
  | swap x y l' =>
    cases q with
    | cons r q =>
      cases q with
      | cons r2 q => exact ⟨_, .swap .., .cons r2 (.cons r q)⟩
  | trans p1 p2 ih1 ih2 =>
    obtain ⟨m2, pm2, rm2⟩ := ih2 q
    obtain ⟨m1, pm1, rm1⟩ := ih1 rm2
    exact ⟨m1, pm1.trans pm2, rm1⟩
theorem perm_map {m : List D} {ts : List (List Int)} (p : m.Perm (ts.map mkT)) : ∃ us : List (List Int), m = us.map mkT ∧ us.Perm ts := by
  have key : ∀ {a b : List D}, a.Perm b → ∀ ts : List (List Int), b = ts.map mkT → ∃ us : List (List Int), a = us.map mkT ∧ us.Perm ts := by
    intro a b p
    induction p with
    | nil => intro ts e; cases ts with
      | nil => exact ⟨[], rfl, .refl _⟩
      | cons t ts => cases e
    | cons x p ih =>
      intro ts e
      cases ts with
      | nil => cases e
      | cons t ts =>
        rw [List.map_cons] at e
        obtain ⟨us, e2, pu⟩ := ih ts (List.cons.inj e).2
        exact ⟨t :: us, by rw [List.map_cons, e2, (List.cons.inj e).1], pu.cons _⟩
    | swap x y l =>
      intro ts e
      cases ts with
      | nil => cases e
      | cons t ts =>
        cases ts with
        | nil => cases e
        | cons t2 ts =>
          simp only [List.map_cons, List.cons.injEq] at e
          obtain ⟨e1, e2, e3⟩ := e
          exact ⟨t2 :: t :: ts, by rw [List.map_cons, List.map_cons, e1, e2, e3], .swap ..⟩
    | trans p1 p2 ih1 ih2 =>
      intro ts e
      obtain ⟨us, e2, pu⟩ := ih2 ts e
      obtain ⟨us1, e1, pu1⟩ := ih1 us e2
      exact ⟨us1, e1, pu1.trans pu⟩
  exact key p ts rfl
theorem insT_perm (x : List Int) : ∀ l, (insT x l).Perm (x :: l)
  | [] => .refl _
  | y :: l => by
    unfold insT
    split
    · exact ((insT_perm x l).cons y).trans (.swap x y l)
    · exact .refl _
theorem sortT_perm : ∀ l, (sortT l).Perm l
  | [] => .refl _
  | x :: l => by unfold sortT; exact (insT_perm x _).trans ((sortT_perm l).cons x)
theorem lexLt_code {B : Int} : ∀ {a b : List Int}, a.length = b.length → TS.Bd B a → TS.Bd B b → (HT.lexLt a b = true ↔ TS.code B a < TS.code B b)
  | [], [], _, _, _ => by simp [HT.lexLt, TS.code]
  | x :: a, y :: b, hl, ha, hb => by
    have hl' : a.length = b.length := by simpa using hl
    rw [HT.lexLt_cons]
    by_cases e : x = y
    · subst e
      rw [if_pos rfl, TS.code_same hl']
      exact lexLt_code hl' ha.tail hb.tail
    · rw [if_neg e, decide_eq_true_eq]
      constructor
      · exact fun h => TS.code_lt hl' ha.tail hb.tail h
      · intro h
        rcases Int.lt_trichotomy x y with q | q | q
        · exact q
        · exact absurd q e
        · have := TS.code_lt hl'.symm hb.tail ha.tail q
          omega
theorem code_inj {B : Int} : ∀ {a b : List Int}, a.length = b.length → TS.Bd B a → TS.Bd B b → TS.code B a = TS.code B b → a = b
  | [], [], _, _, _, _ => rfl
  | x :: a, y :: b, hl, ha, hb, h => by
    have hl' : a.length = b.length := by simpa using hl
    rcases Int.lt_trichotomy x y with q | q | q
    · have := TS.code_lt hl' ha.tail hb.tail q; omega
    · subst q
      rcases Int.lt_trichotomy (TS.code B a) (TS.code B b) with q | q | q
      · have := (TS.code_same (d := x) hl').mpr q; omega
      · rw [code_inj hl' ha.tail hb.tail q]
      · have := (TS.code_same (d := x) hl'.symm).mpr q; omega
    · have := TS.code_lt hl'.symm hb.tail ha.tail q; omega
def TOk (d : Nat) (t : List Int) : Prop := t.length = d ∧ TS.Bd 1048576 t
theorem tupOk_all {d : Nat} {ts : List (List Int)} (h : tupOk d ts = true) : ∀ t ∈ ts, TOk d t := fun t ht => by
  have q := List.all_eq_true.mp h t ht
  simp only [Bool.and_eq_true, decide_eq_true_eq, List.all_eq_true] at q
  exact ⟨q.1, fun m hm => q.2 m hm⟩
theorem insT_sorted {d : Nat} (x : List Int) (hx : TOk d x) : ∀ {l : List (List Int)}, (∀ t ∈ l, TOk d t) → l.Pairwise (fun a b => TS.code 1048576 a ≤ TS.code 1048576 b) → (insT x l).Pairwise (fun a b => TS.code 1048576 a ≤ TS.code 1048576 b)
  | [], _, _ => by simp [insT]
  | y :: l, hl, h => by
    rw [List.pairwise_cons] at h
    have hy := hl y List.mem_cons_self
    have key := lexLt_code (B := 1048576) (hy.1.trans hx.1.symm) hy.2 hx.2
    unfold insT
    split
    · rename_i c
      have lt := key.mp c
      refine List.pairwise_cons.mpr ⟨fun z hz => ?_, insT_sorted x hx (fun t ht => hl t (List.mem_cons_of_mem _ ht)) h.2⟩
      rcases List.mem_cons.mp ((insT_perm x l).mem_iff.mp hz) with rfl | hz
      · omega
      · exact h.1 z hz
    · rename_i c
      have ge : TS.code 1048576 x ≤ TS.code 1048576 y := by
        rcases Int.lt_or_le (TS.code 1048576 y) (TS.code 1048576 x) with q | q
        · exact absurd (key.mpr q) c
        · exact q
      refine List.pairwise_cons.mpr ⟨fun z hz => ?_, List.pairwise_cons.mpr h⟩
      rcases List.mem_cons.mp hz with rfl | hz
      · exact ge
      · exact Int.le_trans ge (h.1 z hz)
theorem sortT_sorted {d : Nat} : ∀ {l : List (List Int)}, (∀ t ∈ l, TOk d t) → (sortT l).Pairwise (fun a b => TS.code 1048576 a ≤ TS.code 1048576 b)
  | [], _ => .nil
  | x :: l, h => by
    unfold sortT
    exact insT_sorted x (h x List.mem_cons_self) (fun t ht => h t (List.mem_cons_of_mem _ ((sortT_perm l).mem_iff.mp ht))) (sortT_sorted fun t ht => h t (List.mem_cons_of_mem _ ht))
theorem sorted_uniqueT {d : Nat} : ∀ {l m : List (List Int)}, l.Perm m → (∀ t ∈ l, TOk d t) → l.Pairwise (fun a b => TS.code 1048576 a ≤ TS.code 1048576 b) → m.Pairwise (fun a b => TS.code 1048576 a ≤ TS.code 1048576 b) → l = m
  | [], m, p, _, _, _ => p.nil_eq
  | x :: l, [], p, _, _, _ => absurd p.symm.nil_eq (by simp)
  | x :: l, y :: m, p, hk, h, h' => by
    rw [List.pairwise_cons] at h h'
    have hy : y ∈ x :: l := p.mem_iff.mpr List.mem_cons_self
    have e : x = y := by
      have h1 : x ∈ y :: m := p.mem_iff.mp List.mem_cons_self
      rcases List.mem_cons.mp h1 with rfl | h1
      · rfl
      · rcases List.mem_cons.mp hy with q | h2
        · exact q.symm
        · have a1 := hk x List.mem_cons_self
          have a2 := hk y hy
          exact code_inj (B := 1048576) (a1.1.trans a2.1.symm) a1.2 a2.2 (Int.le_antisymm (h.1 y h2) (h'.1 x h1))
    subst e
    rw [sorted_uniqueT (List.Perm.cons_inv p) (fun t ht => hk t (List.mem_cons_of_mem _ ht)) h.2 h'.2]
theorem sortT_unique {d : Nat} {us ts : List (List Int)} (p : us.Perm ts) (hc : tupOk d ts = true) (h : us.Pairwise fun a b => TS.code 1048576 a ≤ TS.code 1048576 b) : us = sortT ts :=
  sorted_uniqueT (d := d) (p.trans (sortT_perm ts).symm) (fun t ht => tupOk_all hc t (p.mem_iff.mp ht)) h (sortT_sorted (tupOk_all hc))
theorem os_bl {Z : Pm} {w : Own} {H : Hp} {σ : L2.St} {e : En} (b : Bl) {vs : List V} {ds : List D} {v : Vl} {Q : VK} (s : SR Z w H σ e) (hb : BRs Z w H vs ds) (h : bltop b ds = some v) (k : Kont Z w H σ e v Q) : rBl Z.K b vs H Q := by
  unfold bltop at h
  split at h
  · cases h
    obtain ⟨v, rfl, r⟩ := hb.one
    obtain ⟨a, vs, rfl, h2, h3⟩ := r.lst
    exact ⟨_, _, rfl, .inl ⟨vs, SqL.of h2, rfl⟩, by rw [h3.length]; exact k.fro s (.int _)⟩
  · cases h
    obtain ⟨v, rfl, r⟩ := hb.one
    obtain ⟨a, vs, rfl, _, h2, h3⟩ := r.tup
    exact ⟨_, _, rfl, .inr ⟨vs, SqT.of h2, rfl⟩, by rw [h3.length]; exact k.fro s (.int _)⟩
  · cases h
    obtain ⟨v, rfl, r⟩ := hb.one
    obtain ⟨a, rfl, h2⟩ := r.scr
    exact ⟨_, _, rfl, .inl ⟨_, h2, rfl⟩, by rw [List.length_map]; exact k.fro s (.int _)⟩
  · split at h
    · rename_i hz
      cases h
      obtain ⟨v, rfl, r⟩ := hb.one
      rw [r.str]
      exact ⟨_, _, rfl, ⟨hz, rfl⟩, k.fro s (.int _)⟩
    · cases h
  · cases h
    obtain ⟨v, rfl, r⟩ := hb.one
    rw [r.int]
    exact ⟨_, rfl, k.fro s (.int _)⟩
  · cases h
    obtain ⟨v, rfl, r⟩ := hb.one
    rw [r.int]
    exact .inl ⟨_, rfl, k.fro s (.int _)⟩
  · cases h
    obtain ⟨v, rfl, r⟩ := hb.one
    rw [r.bl]
    exact .inr ⟨_, rfl, k.fro s (.int _)⟩
  · cases h
    obtain ⟨v, u, rfl, r1, r2⟩ := hb.two
    rw [r1.int, r2.int]
    exact ⟨_, _, rfl, k.fro s (.int _)⟩
  · cases h
    obtain ⟨v, u, rfl, r1, r2⟩ := hb.two
    rw [r1.int, r2.int]
    exact ⟨_, _, rfl, k.fro s (.int _)⟩
  · obtain ⟨ns, hn, rfl⟩ := Option.map_eq_some_iff.mp h
    obtain ⟨v, rfl, r⟩ := hb.one
    obtain ⟨a, vs, rfl, h2, h3⟩ := r.lst
    rw [h3.ints hn] at h2
    exact ⟨a, ns, rfl, SqL.of h2, k.fro s (.int _)⟩
  · obtain ⟨ns, hn, rfl⟩ := Option.map_eq_some_iff.mp h
    obtain ⟨v, rfl, r⟩ := hb.one
    obtain ⟨a, vs, rfl, h2, h3⟩ := r.lst
    rw [h3.bls hn] at h2
    exact ⟨a, ns, rfl, SqL.of h2, k.fro s (.bl _)⟩
  · obtain ⟨ns, hn, rfl⟩ := Option.map_eq_some_iff.mp h
    obtain ⟨v, rfl, r⟩ := hb.one
    obtain ⟨a, vs, rfl, h2, h3⟩ := r.lst
    rw [h3.bls hn] at h2
    exact ⟨a, ns, rfl, SqL.of h2, k.fro s (.bl _)⟩
  · split at h
    · rename_i hz
      obtain ⟨v, rfl, r⟩ := hb.one
      obtain ⟨a, vs, rfl, h2, h3⟩ := r.lst
      unfold sortD at h
      split at h
      · rename_i ns hn
        cases h
        have hl : ns.length < 64 := by
          have e1 := h3.length
          rw [h3.ints hn, List.length_map] at e1
          omega
        rw [h3.ints hn] at h2
        refine .inl ⟨a, ns, rfl, SqL.of h2, hl, fun ns' p pe so hp => ?_⟩
        have e : ns' = sortI ns := sorted_unique (pe.trans (sortI_perm ns).symm) so (sortI_sorted ns)
        rw [e]
        exact k.lst s (Rs.of_ints _) p hp
      · split at h
        · rename_i t ts hts
          split at h
          · rename_i hc
            cases h
            obtain ⟨hd, hc⟩ := hc
            have h3' := h3.mkTs hts
            refine .inr (.inr ⟨t.length, hd, a, vs, rfl, SqL.of h2, by rw [h3.length]; exact hz, fun x hx => ?_, fun ys p pe so hp => ?_⟩)
            · obtain ⟨i, hi⟩ := List.mem_iff_getElem?.mp hx
              obtain ⟨d, hd', rd⟩ := h3'.getV hi
              rw [List.getElem?_map] at hd'
              obtain ⟨u, hu, rfl⟩ := Option.map_eq_some_iff.mp hd'
              obtain ⟨ad, us, rfl, _, g2, g3⟩ := (R.br rd).tup
              have eu := g3.ints (intsD_map u)
              rw [eu] at g2
              have q := List.all_eq_true.mp hc u (List.mem_of_getElem? hu)
              simp only [Bool.and_eq_true, decide_eq_true_eq, List.all_eq_true] at q
              exact ⟨u, ⟨ad, rfl, SqT.of g2⟩, q.1, fun m hm => q.2 m hm⟩
            · obtain ⟨m, pm, rm⟩ := h3'.perm pe
              obtain ⟨us, rfl, pu⟩ := perm_map pm
              refine k.lst s ?_ p hp
              have e : us = sortT (t :: ts) := by
                refine sortT_unique (d := t.length) pu hc ?_
                have key : ∀ (ys : List V) (us : List (List Int)), Rs Z w H ys (us.map mkT) → ys.Pairwise (fun x y => ∀ n m, TupI Z.K H x n → TupI Z.K H y m → TS.code 1048576 n ≤ TS.code 1048576 m) → us.Pairwise fun a b => TS.code 1048576 a ≤ TS.code 1048576 b := by
                  intro ys
                  induction ys with
                  | nil => intro us r _; cases us with
                    | nil => exact .nil
                    | cons u us => cases r
                  | cons y ys ih =>
                    intro us r pw
                    cases us with
                    | nil => exact .nil
                    | cons u us =>
                      cases r with
                      | cons r1 r2 =>
                        rw [List.pairwise_cons] at pw
                        refine List.pairwise_cons.mpr ⟨fun b hb => ?_, ih us r2 pw.2⟩
                        obtain ⟨i, hi⟩ := List.mem_iff_getElem?.mp hb
                        obtain ⟨z, hz, rz⟩ := r2.get (i := i) (d := mkT b) (by rw [List.getElem?_map, hi]; rfl)
                        exact pw.1 z (List.mem_of_getElem? hz) u b (tupI_of r1) (tupI_of rz)
                exact key ys us rm so
              rw [← e]
              exact rm
          · cases h
        · cases h
    · cases h
  · split at h
    · rename_i hz
      obtain ⟨ns, hn, rfl⟩ := Option.map_eq_some_iff.mp h
      obtain ⟨v, rfl, r⟩ := hb.one
      obtain ⟨a, vs, rfl, h2, h3⟩ := r.dk
      have hm := h3.ints hn
      have hl : ns.length < 64 := by
        have e1 := congrArg List.length hm
        rw [List.length_map, List.length_map, h3.length] at e1
        omega
      refine .inr (.inl ⟨a, vs, ns, rfl, h2, hm, hl, fun ns' p pe so hp => ?_⟩)
      have e : ns' = sortI ns := sorted_unique (pe.trans (sortI_perm ns).symm) so (sortI_sorted ns)
      rw [e]
      exact k.lst s (Rs.of_ints _) p hp
    · cases h
  · obtain ⟨kvsD, hn, rfl⟩ := Option.map_eq_some_iff.mp h
    obtain ⟨v, rfl, r⟩ := hb.one
    obtain ⟨a, vs, rfl, h2, h3⟩ := r.lst
    obtain ⟨ps, kvs, rfl, h4, h5⟩ := h3.pairs (K := Z.K) hn
    exact ⟨a, ps, kvs, rfl, SqL.of h2, h4, k.dk s (h5.merge .nil)⟩
  · cases h
    obtain ⟨v, rfl, r⟩ := hb.one
    obtain ⟨a, vs, rfl, h2, h3⟩ := r.lst
    exact ⟨a, vs, rfl, .inl ⟨SqL.of h2, k.tup s h3⟩⟩
  · cases h
    obtain ⟨v, rfl, r⟩ := hb.one
    obtain ⟨a, vs, rfl, h1, h2, h3⟩ := r.tup
    exact ⟨a, vs, rfl, .inr ⟨SqT.of h2, k.fro s (.tup h1 h2 h3)⟩⟩
  · cases h
    obtain ⟨v, rfl, r⟩ := hb.one
    obtain ⟨a, vs, rfl, h2, h3⟩ := r.lst
    exact ⟨a, vs, rfl, .inl (SqL.of h2), k.lst s h3⟩
  · cases h
    obtain ⟨v, rfl, r⟩ := hb.one
    obtain ⟨a, vs, rfl, _, h2, h3⟩ := r.tup
    exact ⟨a, vs, rfl, .inr (SqT.of h2), k.lst s h3⟩
  · cases h
theorem pd_blt {X : Cx} {C : Cn} {b : Bl} {r : Exs} {p pos : Pos} {e : Expr} {es : List Expr} (hK : X.K = C.Z.K) (hc : X.calm = true) (hg : Gl X (blN b)) (hm : X.mg (blN b) = none) (ha : PA X (e :: es) (tAO C r)) (h1 : notStar e = true) (h2 : es.all notStar = true) :
    PE X (.Call (.Name (blN b) p) (e :: es) [] pos) (tD C (.blt b r)) := by
  refine PE.imp (pe_blt hc hg hm ha h1 h2) fun σ H Q ⟨w, e, s, h⟩ => ?_
  unfold PE1 at h; rw [den] at h
  refine ⟨w, e, s, Pb.mono h.bind (fun _ _ z => z) fun ⟨ds, e1⟩ h1 vs w1 H1 y1 s1 o1 => ?_⟩
  obtain ⟨bs, hb, h1⟩ := Pb.fins s1 o1 h1
  obtain ⟨v, hv, h1⟩ := Pb.of h1.bind
  show rBl X.K b vs H1 Q
  rw [hK]
  exact os_bl b s1 hb hv fun z w' H' y' s' r' => h1 z w' H' (y1.trans y') s' r'
end Pk

end
section
/-! Pk8: subscripts, slices, isinstance, calls. -/
namespace Pk
open PySem PySem.Spec PyProof.Rows L2
open LamX (Tabs TabS ExtN CodeO)
/-! ### subscripts -/
def notSlice : Expr → Bool
  | .Slice _ _ _ _ => false
  | _ => true
theorem plain_ix {e : Expr} (h : notSlice e = true) : PlainIx e := by
  intro o i
  cases e <;> first | rfl | cases h
def rIxD : R2 := fun x y H Q => ∃ a v, x = .ref a ∧ DGet H a y (some v) ∧ Q v H
theorem ix_dict {X : Cx} (hu : X.A.units + 64 < cLine) : IxR X rIxD := by
  intro value slice pins s σ H x y v u Q I rx ry h hs
  obtain ⟨a, z, rfl, g, q⟩ := h
  cases rx
  exact tail_any (dict_typeIs I g) PySem.F.slot_dict_getitem.lookup (d_getItem (by omega) I g ry fun w' s3 I3 rw' => ⟨z, H, I3, rw', q⟩) hs
def rIx3 (K : PySem.W.Frag) : R2 := fun x y H Q => rIxL K x y H Q ∨ rIxT K x y H Q ∨ rIxD x y H Q
theorem ix_3 {X : Cx} (hu : X.A.units + 64 < cLine) : IxR X (rIx3 X.K) := ix_list.or (ix_tup.or (ix_dict hu))
section
variable {Z : Pm} {w : Own} {H : Hp}
theorem Rs.atI {vs : List V} {l : List D} {i : Int} {d : D} (q : Rs Z w H vs l) (h : L2.atI l i = some d) : ∃ v, L2.atI vs i = some v ∧ R Z w H v d := by
  unfold L2.atI at h ⊢
  rw [q.length]
  cases e : ixN l.length i with
  | none => rw [e] at h; cases h
  | some j =>
    rw [e] at h
    exact q.get h
theorem Rs.cut {vs : List V} {l : List D} (q : Rs Z w H vs l) (lo hi : Option Int) : Rs Z w H (cutV vs lo hi) (cutD l lo hi) := by
  unfold cutV cutD
  rw [q.length]
  exact (q.drop _).take _
theorem os_subD {x y : V} {a b d : D} {Q : VK} (hx : BR Z w H x a) (hy : BR Z w H y b) (h : subD a b = some d) (k : ∀ v, R Z w H v d → Q v H) : rIx3 Z.K x y H Q := by
  unfold subD at h
  split at h
  · obtain ⟨p, vs, rfl, h2, h3⟩ := hx.lst
    obtain ⟨v, h4, r⟩ := h3.atI h
    exact .inl ⟨p, vs, _, v, rfl, hy.int, SqL.of h2, h4, k v r⟩
  · obtain ⟨p, vs, rfl, _, h2, h3⟩ := hx.tup
    obtain ⟨v, h4, r⟩ := h3.atI h
    exact .inr (.inl ⟨p, vs, _, v, rfl, hy.int, SqT.of h2, h4, k v r⟩)
  · obtain ⟨p, rfl, h2⟩ := hx.scr
    obtain ⟨n, hn, rfl⟩ := Option.map_eq_some_iff.mp h
    obtain ⟨v, h4, r⟩ := (Rs.of_ints (Z := Z) (w := w) (H := H) _).atI (i := _) (d := .int n) (l := List.map D.int _) (by
      unfold L2.atI at hn ⊢
      rw [List.length_map]
      cases e : ixN _ _ with
      | none => rw [e] at hn; cases hn
      | some j =>
        rw [e] at hn
        show (List.map D.int _)[j]? = _
        have hn' : _[j]? = some n := hn
        rw [List.getElem?_map, hn']
        rfl)
    exact .inl ⟨p, _, _, v, rfl, hy.int, h2, h4, k v r⟩
  · rename_i q l _
    cases hk : keyD b with
    | none => rw [hk] at h; cases h
    | some key =>
      rw [hk] at h
      obtain ⟨p, rfl, vs, r, g⟩ := hx.dgetk hy hk
      obtain ⟨v, e, rv⟩ := (r.look (k := key)).1 d h
      rw [e] at g
      exact .inr (.inr ⟨p, v, rfl, g, k v rv⟩)
  · rename_i q l _
    cases hk : tkeyD b with
    | none => rw [hk] at h; cases h
    | some key =>
      rw [hk] at h
      obtain ⟨p, rfl, vs, r, g⟩ := hx.dgett hy hk
      obtain ⟨v, e, rv⟩ := (r.look (k := key)).1 d h
      rw [e] at g
      exact .inr (.inr ⟨p, v, rfl, g, k v rv⟩)
  · cases h
end
section
variable {X : Cx} {C : Cn} {a b : Ex} {ea eb : Expr} {pos p2 : Pos}
theorem pd_sub (hK : X.K = C.Z.K) (hu : X.A.units + 64 < cLine) (ha : PE X ea (tO C a)) (hb : PE X eb (tO C b)) (hs : notSlice eb = true) : PE X (.Subscript ea eb pos) (tD C (.sub a b)) := by
  refine PE.imp (pe_ix (ix_3 hu) ha hb (plain_ix hs)) fun σ H Q ⟨w, e, s, h⟩ => ?_
  unfold PE1 at h; rw [den] at h
  refine opd C s (Pb.mono h.bind (fun _ _ z => z) fun ⟨oa, e1⟩ h1 x w1 H1 y1 s1 o1 => ?_)
  refine opd C s1 (Pb.mono h1.bind (fun _ _ z => z.ext y1) fun ⟨ob, e2⟩ h2 y w2 H2 y2 s2 o2 => ?_)
  obtain ⟨da, ba, h2⟩ := Pb.fin (o1.ext y2) s2 h2
  obtain ⟨db, bb, h2⟩ := Pb.fin o2 s2 h2
  obtain ⟨v, hv, h2⟩ := Pb.of h2.bind
  rw [hK]
  exact os_subD ba bb hv fun v r => h2 v w2 H2 (y1.trans y2) s2 r
/-! ### slices -/
def tPo (C : Cn) (o : Eo) : TO := fun σ H Q => ∃ w e, SR C.Z w H σ e ∧ Pb (XP C w H) (deno C.F C.G o e) fun p => ∀ w' H', Ext w H w' H' → SR C.Z w' H' σ p.2 → ∃ i, optI p.1 = some i ∧ Q i H'
theorem po_dnone : PO X none (tPo C .none) := ⟨fun pins s σ H Q I ⟨w, e, sr, h⟩ => by
  rw [deno] at h
  obtain ⟨i, hi, q⟩ := h w H (.refl _ _) sr
  cases hi
  exact po_none.run pins s σ H Q I q⟩
theorem po_dsome (h : PE X ea (tD C a)) : PO X (some ea) (tPo C (.some a)) := ⟨fun pins s σ H Q I ⟨w, e, sr, hh⟩ => by
  rw [deno] at hh
  refine (po_some h).run pins s σ H Q I (opv C sr (Pb.mono hh.bind (fun _ _ z => z) fun ⟨v, e1⟩ k x w1 H1 y1 s1 r1 => ?_))
  obtain ⟨i, hi, q⟩ := k w1 H1 y1 s1
  obtain ⟨j, hj, rfl⟩ := Option.map_eq_some_iff.mp (show (intD v.d).map some = some i from hi)
  rw [intD_inv hj] at r1
  exact ⟨j, (R.br r1).int, q⟩⟩
def rSl2 (K : PySem.W.Frag) : V → Option Int → Option Int → Hp → VK → Prop := fun x lo hi H Q => rSlL K x lo hi H Q ∨ rSlA K x lo hi H Q
theorem sl_2 : L2.SlR X (rSl2 X.K) := sl_list.or sl_tupA
theorem cut_whole {l : List V} {lo hi : Option Int} (h : HT.sIx l.length 0 lo = 0 ∧ HT.sIx l.length l.length hi = l.length) : cutV l lo hi = l := by
  unfold cutV
  rw [h.1, h.2, List.drop_zero, Nat.sub_zero, List.take_length]
theorem cutD_whole {l : List D} {lo hi : Option Int} (h : HT.sIx l.length 0 lo = 0 ∧ HT.sIx l.length l.length hi = l.length) : cutD l lo hi = l := by
  unfold cutD
  rw [h.1, h.2, List.drop_zero, Nat.sub_zero, List.take_length]
theorem os_slice {Z : Pm} {w : Own} {H : Hp} {σ : L2.St} {e : En} {x : V} {d : D} {lo hi : Option Int} {v : Vl} {Q : VK} (s : SR Z w H σ e) (hx : BR Z w H x d) (h : sliceD d lo hi = some v) (k : Kont Z w H σ e v Q) : rSl2 Z.K x lo hi H Q := by
  unfold sliceD at h
  split at h
  · cases h
    obtain ⟨p, vs, rfl, h2, h3⟩ := hx.lst
    exact .inl ⟨p, vs, rfl, SqL.of h2, k.lst s (h3.cut lo hi)⟩
  · cases h
    obtain ⟨p, vs, rfl, h1, h2, h3⟩ := hx.tup
    refine .inr ⟨p, vs, rfl, SqT.of h2, fun hw => ?_, fun _ => k.tup s (h3.cut lo hi)⟩
    rw [h3.length] at hw
    rw [cutD_whole hw] at k
    exact k.fro s (.tup h1 h2 h3)
  · cases h
theorem pd_slice {lo hi : Option Expr} {l h' : Eo} (hK : X.K = C.Z.K) (ha : PE X ea (tO C a)) (hl : PO X lo (tPo C l)) (hh : PO X hi (tPo C h')) : PE X (.Subscript ea (.Slice lo hi none p2) pos) (tD C (.slice a l h')) := by
  refine PE.imp (pe_slice sl_2 ha hl hh) fun σ H Q ⟨w, e, s, h⟩ => ?_
  unfold PE1 at h; rw [den] at h
  refine opd C s (Pb.mono h.bind (fun _ _ z => z) fun ⟨oa, e1⟩ h1 x w1 H1 y1 s1 o1 => ?_)
  refine ⟨w1, e1, s1, Pb.mono h1.bind (fun _ _ z => z.ext y1) fun ⟨ol, e2⟩ h2 w2 H2 y2 s2 => ?_⟩
  obtain ⟨i, hi, h2⟩ := Pb.of h2.bind
  refine ⟨i, hi, w2, e2, s2, Pb.mono h2.bind (fun _ _ z => z.ext (y1.trans y2)) fun ⟨oh, e3⟩ h3 w3 H3 y3 s3 => ?_⟩
  obtain ⟨j, hj, h3⟩ := Pb.of h3.bind
  obtain ⟨da, ba, h3⟩ := Pb.fin ((o1.ext y2).ext y3) s3 h3
  obtain ⟨v, hv, h3⟩ := Pb.of h3.bind
  refine ⟨j, hj, ?_⟩
  rw [hK]
  exact os_slice s3 ba hv fun z w' H' y' s' r' => h3 z w' H' (((y1.trans y2).trans y3).trans y') s' r'
/-! ### isinstance -/
def tyN : Ty → String
  | .int => "int"
  | .bool => "bool"
  | .str => "str"
  | .tuple => "tuple"
  | .list => "list"
  | .tl => ""
theorem BR.ty {Z : Pm} {w : Own} {H : Hp} {x : V} {d : D} {t : Ty} {b : Bool} (hx : BR Z w H x d) (h : isT t d = some b) : ∃ n : String, TyX Z.K H x (.type n) ∧
    (t ≠ .tl → kitB n (tyN t) = some b) ∧ (t = .tl → PySem.W.kitAny Z.K (.type n) [.type "tuple", .type "list"] = some b) := by
  have T1 : ∀ {n : String} {r1 r2 : Bool}, kitB n "tuple" = some r1 → kitB n "list" = some r2 → (r1 || r2) = b → PySem.W.kitAny Z.K (.type n) [.type "tuple", .type "list"] = some b := fun {n r1 r2} h1 h2 h3 => by
    cases r1 with
    | true =>
      have e : b = true := by rw [← h3]; rfl
      rw [e]
      exact kitAny_cons (kit_ty h1) (fun z => nomatch z) fun _ => rfl
    | false =>
      refine kitAny_cons (kit_ty h1) (fun _ => ?_) fun z => nomatch z
      have e : r2 = b := by rw [← h3]; rfl
      rw [← e]
      refine kitAny_cons (kit_ty h2) (fun z => ?_) fun z => z
      rw [z]
      exact kitAny_nil
  cases d with
  | non =>
    rw [hx.non]
    refine ⟨"NoneType", .base .non, fun ht => ?_, fun ht => ?_⟩
    · cases t <;> first | exact absurd rfl ht | (simp [isT] at h; subst h; decide +kernel)
    · subst ht; simp [isT] at h; subst h; exact T1 (r1 := false) (r2 := false) (by decide +kernel) (by decide +kernel) rfl
  | bl i =>
    rw [hx.bl]
    refine ⟨"bool", .base (.bl i), fun ht => ?_, fun ht => ?_⟩
    · cases t <;> first | exact absurd rfl ht | (simp [isT] at h; subst h; decide +kernel)
    · subst ht; simp [isT] at h; subst h; exact T1 (r1 := false) (r2 := false) (by decide +kernel) (by decide +kernel) rfl
  | int i =>
    rw [hx.int]
    refine ⟨"int", .base (.int i), fun ht => ?_, fun ht => ?_⟩
    · cases t <;> first | exact absurd rfl ht | (simp [isT] at h; subst h; decide +kernel)
    · subst ht; simp [isT] at h; subst h; exact T1 (r1 := false) (r2 := false) (by decide +kernel) (by decide +kernel) rfl
  | str i =>
    rw [hx.str]
    refine ⟨"str", .base (.str i), fun ht => ?_, fun ht => ?_⟩
    · cases t <;> first | exact absurd rfl ht | (simp [isT] at h; subst h; decide +kernel)
    · subst ht; simp [isT] at h; subst h; exact T1 (r1 := false) (r2 := false) (by decide +kernel) (by decide +kernel) rfl
  | tup l =>
    obtain ⟨a, vs, rfl, _, h2, _⟩ := hx.tup
    refine ⟨"tuple", .base (.tup h2), fun ht => ?_, fun ht => ?_⟩
    · cases t <;> first | exact absurd rfl ht | (simp [isT] at h; subst h; decide +kernel)
    · subst ht; simp [isT] at h; subst h; exact T1 (r1 := true) (r2 := false) (by decide +kernel) (by decide +kernel) rfl
  | lst l =>
    obtain ⟨a, vs, rfl, h2, _⟩ := hx.lst
    refine ⟨"list", .base (.lst h2), fun ht => ?_, fun ht => ?_⟩
    · cases t <;> first | exact absurd rfl ht | (simp [isT] at h; subst h; decide +kernel)
    · subst ht; simp [isT] at h; subst h; exact T1 (r1 := false) (r2 := true) (by decide +kernel) (by decide +kernel) rfl
  | dk l => simp [isT] at h
  | dt l => simp [isT] at h
  | fn l => simp [isT] at h
  | scr l => simp [isT] at h
theorem boot_ty : ∀ t, t ≠ Ty.tl → bootBuiltins (Str.ofString (tyN t)) = some (.type (tyN t)) := by
  intro t h
  cases t <;> first | exact absurd rfl h | decide +kernel
theorem ty_ne : ∀ t, t ≠ Ty.tl → Str.ofString (tyN t) ≠ "__name__" ∧ (Str.ofString (tyN t) == ("__debug__" : Str)) = false := by
  intro t h
  cases t <;> first | exact absurd rfl h | decide +kernel
theorem pd_isi {t : Ty} {p : Pos} (ht : t ≠ .tl) (hK : X.K = C.Z.K) (ha : PE X ea (tO C a)) (hn : notStar ea = true) (hg : Gl X "isinstance") (hm : X.mg "isinstance" = none) (hg2 : Gl X (Str.ofString (tyN t))) (hm2 : X.mg (Str.ofString (tyN t)) = none) :
    PE X (.Call (.Name "isinstance" p) [ea, .Name (Str.ofString (tyN t)) p2] [] pos) (tD C (.isi t a)) := by
  have hb : PE X (.Name (Str.ofString (tyN t)) p2) (tC (.ty (tyN t))) := pe_bltn hg2 hm2 (boot_ty t ht) rfl (ty_ne t ht).1 (ty_ne t ht).2
  refine PE.imp (pe_callB call_isi hg hm PyProof.Rows.boot_isinstance (pa_cons ha (pa_cons hb pa_nil) (star_cons hn)) (by decide) (by decide) (star_cons hn) (by rfl)) fun σ H Q ⟨w, e, s, h⟩ => ?_
  unfold PE1 at h; rw [den] at h
  refine opd C s (Pb.mono h.bind (fun _ _ z => z) fun ⟨oa, e1⟩ h1 x w1 H1 y1 s1 o1 => ?_)
  obtain ⟨da, ba, h1⟩ := Pb.fin o1 s1 h1
  obtain ⟨b, hb, h1⟩ := Pb.of h1.bind
  obtain ⟨n, hx, h2, _⟩ := ba.ty hb
  rw [← hK] at hx
  exact ⟨x, _, _, _, b, rfl, .ty _, hx, kit_ty (h2 ht), h1 _ w1 H1 y1 s1 (.bl _)⟩
theorem pd_isiTL {p p3 p4 : Pos} {k : Nat} (hK : X.K = C.Z.K) (ha : PE X ea (tO C a)) (hn : notStar ea = true) (hg : Gl X "isinstance") (hm : X.mg "isinstance" = none) (hg2 : Gl X "tuple") (hm2 : X.mg "tuple" = none) (hg3 : Gl X "list") (hm3 : X.mg "list" = none) :
    PE X (.Call (.Name "isinstance" p) [ea, .Tuple [.Name "tuple" p2, .Name "list" p3] k p4] [] pos) (tD C (.isi .tl a)) := by
  have hb2 : PE X (.Name "tuple" p2) (tC (.ty "tuple")) := pe_bltn hg2 hm2 (by decide +kernel) rfl (by decide) (by decide)
  have hb3 : PE X (.Name "list" p3) (tC (.ty "list")) := pe_bltn hg3 hm3 (by decide +kernel) rfl (by decide) (by decide)
  refine PE.imp (pe_callB call_isiT hg hm PyProof.Rows.boot_isinstance (pa_cons ha (pa_cons (pe_tup (pa_cons hb2 (pa_cons hb3 pa_nil))) pa_nil) (star_cons hn)) (by decide) (by decide) (star_cons hn) (by rfl)) fun σ H Q ⟨w, e, s, h⟩ => ?_
  unfold PE1 at h; rw [den] at h
  refine opd C s (Pb.mono h.bind (fun _ _ z => z) fun ⟨oa, e1⟩ h1 x w1 H1 y1 s1 o1 => ?_)
  refine ⟨by rw [sizeLine_eq]; decide, fun p hp => ?_⟩
  have s2 : SR C.Z w1 (upd H1 p (.tup [.ty "tuple", .ty "list"])) σ e1 := s1.laid hp
  have y2 : Ext w1 H1 w1 (upd H1 p (.tup [.ty "tuple", .ty "list"])) := ext_upd hp
  obtain ⟨da, ba, h1⟩ := Pb.fin (o1.ext y2) s2 h1
  obtain ⟨b, hb, h1⟩ := Pb.of h1.bind
  obtain ⟨n, hx, _, h2⟩ := ba.ty hb
  rw [← hK] at hx
  refine ⟨x, p, _, _, _, b, rfl, upd_same, .cons (.ty _) (.cons (.ty _) .nil), hx, by rw [hK]; exact h2 rfl, h1 _ w1 _ (y1.trans y2) s2 (.bl _)⟩
end
end Pk

end
section
/-! Pk9: what a def promises; calls. -/
namespace Pk
open PySem PySem.Spec PyProof.Rows L2
open LamX (Tabs TabS ExtN CodeO)
/-- how the arguments stand -/
def Ar (Z : Pm) (fc : Fc) (w : Own) (H : Hp) (vs : List V) (ds wl : List D) : Prop := match fc.w with
  | false => Rs Z w H vs ds
  | true => ∃ a us, vs = .ref a :: us ∧ w a = some .well ∧ Top Z w H a (.lst wl) ∧ Rs Z w H us ds
/-- how the well stands behind the call -/
def Wr (Z : Pm) (fc : Fc) (w : Own) (H : Hp) (vs : List V) (wl : List D) : Prop := match fc.w with
  | false => True
  | true => ∃ a us, vs = .ref a :: us ∧ Top Z w H a (.lst wl)
abbrev Cn.e (C : Cn) (E : XK) : Cn := { C with E := E }
def spF (C : Cn) (fc : Fc) (r : List D → List D → Out (Vl × List D)) : Sp := fun vs H Q E => ∃ (w : Own) (ds wl : List D), Dom w H ∧ Tabs C.Z.T H ∧ (∀ a, w a = none ∨ w a = some .far ∨ w a = some .well) ∧ (∀ a b, w a = some .well → w b = some .well → a = b) ∧ Ar C.Z fc w H vs ds wl ∧ ds.length = fc.n ∧
  Pb (XP (C.e E) w H) (r ds wl) fun p => ∀ x w' H', Ext w H w' H' → Dom w' H' → Tabs C.Z.T H' → VR C.Z w' H' x p.1 → Wr C.Z fc w' H' vs p.2 → Q x H'
/-- a def that keeps its promise -/
structure Fk (P : Program) (w : World) (K : PySem.W.Frag) (mg : Str → Option Value) (base : Heap) (k : Nat) (C : Cn) (f : Nat) (fc : Fc) (a : Addr) : Prop where
  at_ : C.Z.mf f = some a
  kp : PySem.W.keepIn K (.ref a) = true
  ex : ∃ fd ps, Binds K fd ps [] ∧ FnOk P w K mg base (L2N.CX P w) k a fd ps (spF C fc (C.F f))
  ln : ∀ ds wl, C.F f ds wl ≠ .bad → ds.length = fc.n
/-- all that is somebody's is far for a callee, but the well that is handed on -/
def farW (w : Own) (a0 : Option Addr) : Own := fun a => match w a with
  | none => none
  | some _ => if some a = a0 then some .well else some .far
/-- .. and behind the call -/
def backW (w w' : Own) : Own := fun a => match w a with
  | some o => some o
  | none => match w' a with
    | none => none
    | some .temp => some .temp
    | some _ => some .far
section
variable {Z : Pm} {w w' : Own} {H H' : Hp} {a0 : Option Addr}
theorem farW_none {a : Addr} (h : w a = none) : farW w a0 a = none := by unfold farW; rw [h]
theorem farW_ne {a : Addr} (h : w a ≠ none) : farW w a0 a ≠ none := by
  unfold farW
  cases q : w a with
  | none => exact absurd q h
  | some o =>
    dsimp only
    split <;> exact fun z => by cases z
theorem farW_far {a : Addr} {o : Ow} (h : w a = some o) (n : some a ≠ a0) : farW w a0 a = some .far := by unfold farW; rw [h]; exact if_neg n
theorem farW_kind (a : Addr) : farW w a0 a = none ∨ farW w a0 a = some .far ∨ farW w a0 a = some .well := by
  unfold farW
  cases q : w a with
  | none => exact .inl rfl
  | some o =>
    dsimp only
    split
    · exact .inr (.inr rfl)
    · exact .inr (.inl rfl)
theorem stay_far : Stay w H (farW w a0) H := ⟨fun _ _ _ _ r => r, fun _ _ _ _ r => r, fun _ _ h _ => farW_none h⟩
theorem dom_far (d : Dom w H) : Dom (farW w a0) H := fun a h => d a fun z => h (farW_none z)
theorem backW_some {a : Addr} {o : Ow} (h : w a = some o) : backW w w' a = some o := by unfold backW; rw [h]
theorem backW_none {a : Addr} (h : w a = none) (h' : w' a = none) : backW w w' a = none := by unfold backW; rw [h, h']
theorem ext_back (x : Ext (farW w a0) H w' H') (h0 : ∀ a, some a = a0 → w a ≠ none ∧ w a ≠ some .far) : Ext w H (backW w w') H' := by
  refine ⟨fun a u nu h ho => x.st a u nu h ?_, x.th, fun a h z => backW_none z (x.ow a h (farW_none z)), fun a z => backW_some z, fun a z => backW_some z⟩
  rcases ho with ho | ho
  · exact .inl (farW_none ho)
  · exact .inr (farW_far ho fun z => (h0 a z).2 ho)
theorem dom_back (x : Ext (farW w a0) H w' H') (d : Dom w H) (d' : Dom w' H') : Dom (backW w w') H' := fun a h => by
  cases q : w a with
  | some o => exact x.th a (d a (some_ne q))
  | none =>
    refine d' a fun z => h (backW_none q z)
/-- what is told behind the callee is told for the caller -/
theorem stay_back (x : Ext (farW w a0) H w' H') : Stay w' H' (backW w w') H' := by
  refine ⟨fun _ _ _ _ r => r, fun _ _ _ _ r => r, fun a u h _ => ?_⟩
  cases q : w a with
  | none => exact backW_none q h
  | some o =>
    have n : farW w a0 a = some .far ∨ farW w a0 a = some .well := by
      rcases farW_kind (w := w) (a0 := a0) a with z | z | z
      · exact absurd z (farW_ne (some_ne q))
      · exact .inl z
      · exact .inr z
    rcases n with n | n
    · rw [x.fr a n] at h; cases h
    · rw [x.wl a n] at h; cases h
theorem temp_back {a : Addr} (x : Ext (farW w a0) H w' H') (h : w' a = some .temp) : w a = none := by
  cases q : w a with
  | none => rfl
  | some o =>
    rcases farW_kind (w := w) (a0 := a0) a with z | z | z
    · exact absurd z (farW_ne (some_ne q))
    · rw [x.fr a z] at h; cases h
    · rw [x.wl a z] at h; cases h
theorem vr_back {v : V} {x : Vl} (e : Ext (farW w a0) H w' H') (r : VR Z w' H' v x) : VR Z (backW w w') H' v x := by
  cases x with
  | fro d => exact R.stay (stay_back e) r
  | own d =>
    obtain ⟨a, rfl, h1, h2⟩ := r
    exact ⟨a, rfl, by unfold backW; rw [temp_back e h1, h1], h2.stay (stay_back e) fun _ _ z => z⟩
theorem xr_back {c : Nat} {p : D} {cls : Value} {od : Option Addr} (e : Ext (farW w a0) H w' H') (r : Xr Z c p cls od w' H') : Xr Z c p cls od (backW w w') H' := by
  obtain ⟨C, f, h1, h2, h3⟩ := r
  refine ⟨C, f, h1, h2, ?_⟩
  cases f with
  | none => exact h3
  | some f =>
    obtain ⟨d, v, h4, h5, h6, h7⟩ := h3
    exact ⟨d, v, h4, h5, (stay_back e).ow d _ h6 h5, R.stay (stay_back e) h7⟩
/-- who has the well behind a call has it ahead of it -/
theorem back_well {a : Addr} (h : backW w w' a = some .well) (hw : True) : w a = some .well := by
  unfold backW at h
  cases q : w a with
  | some o => rw [q] at h; exact h
  | none =>
    rw [q] at h
    dsimp only at h
    split at h <;> cases h
/-- the names behind a call that was handed no well -/
theorem sr_back {σ : L2.St} {e : En} (x : Ext (farW w none) H w' H') (s : SR Z w H σ e) (d' : Dom w' H') (t : Tabs Z.T H') : SR Z (backW w w') H' σ e := by
  have n0 : ∀ a : Addr, some a = (none : Option Addr) → w a ≠ none ∧ w a ≠ some .far := fun a z => by cases z
  refine s.up (ext_back x n0).stay (fun a h => ?_) (dom_back x s.dom d') t (fun a h => back_well h trivial)
  have hs : ∃ o, w a = some o := h.elim (fun ⟨i, z⟩ => ⟨_, z⟩) fun z => ⟨_, z⟩
  obtain ⟨o, ho⟩ := hs
  exact ⟨(backW_some ho).trans ho.symm, fun u hu hh => x.st a u hu.ntbl hh (.inr (farW_far ho fun z => by cases z))⟩
end
section
variable {X : Cx} {C : Cn} {k f : Nat} {fc : Fc} {a : Addr} {r : Exs} {e : Expr} {es : List Expr} {nm : Str} {p pos : Pos}
theorem app_nil_fun {vs : List V} {sp : Sp} {H : Hp} {Q : VK} {E : XK} (h : sp vs H Q E) : sp (vs ++ []) H Q E := by rw [List.append_nil]; exact h
theorem Pb.nbad {A : Type} {X : Nat → D → Prop} {r : Out A} {k : A → Prop} (h : Pb X r k) : r ≠ .bad := fun z => by rw [z] at h; exact h
/-- the promise of a def without a well, from the caller's state -/
theorem sp_call {σ : L2.St} {w w1 : Own} {H H1 : Hp} {e1 : En} {ds : List D} {vs : List V} {Q : VK} {g : Vl → Out (Vl × En)} (hw : fc.w = false) (hl : ∀ ds wl, C.F f ds wl ≠ .bad → ds.length = fc.n) (y1 : Ext w H w1 H1) (s1 : SR C.Z w1 H1 σ e1) (r1 : Rs C.Z w1 H1 vs ds)
    (h : Pb (XP C w H) ((C.F f ds []).bind fun (v, _) => .ok (v, e1)) fun p => ∀ x w' H', Ext w H w' H' → SR C.Z w' H' σ p.2 → VR C.Z w' H' x p.1 → Q x H') : spF C fc (C.F f) vs H1 Q C.E := by
  have n0 : ∀ a : Addr, some a = (none : Option Addr) → w1 a ≠ none ∧ w1 a ≠ some .far := fun a z => by cases z
  refine ⟨farW w1 none, ds, [], dom_far s1.dom, s1.tab, farW_kind, fun a b z _ => ?_, by unfold Ar; rw [hw]; exact r1.stay stay_far, hl _ _ (Pb.nbad h.bind), Pb.mono h.bind (fun c p z cls od H' w' y d t xr => ?_) fun ⟨v, wl'⟩ k x w' H' y d t vr _ => ?_⟩
  · unfold farW at z
    cases q : w1 a with
    | none => rw [q] at z; cases z
    | some o => rw [q] at z; cases z
  · exact z cls od H' (backW w1 w') (y1.trans (ext_back y n0)) (dom_back y s1.dom d) t (xr_back y xr)
  · exact k x (backW w1 w') H' (y1.trans (ext_back y n0)) (sr_back y s1 d t) (vr_back y vr)
theorem pd_call (F : Fk X.prog X.w X.K X.mg X.base k C f fc a) (hw : fc.w = false) (hr : Room k X.A) (hx : Passes (L2N.CX X.prog X.w) X C.E) (hg : Gl X nm) (hm : X.mg nm = some (.ref a)) (ha : PA X (e :: es) (tA C r)) (hdb : (nm == ("__debug__" : Str)) = false) (h1 : notStar e = true) (h2 : es.all notStar = true) :
    PE X (.Call (.Name nm p) (e :: es) [] pos) (tD C (.call f r)) := by
  obtain ⟨fd, ps, hb, G⟩ := F.ex
  refine PE.imp (pe_call (dvs := []) (ds := []) G hr hg hm F.kp hb .nil hx ha hdb (star_cons h1) (plain_star h2)) fun σ H Q ⟨w, e, s, h⟩ => ?_
  unfold PE1 at h; rw [den] at h
  refine ⟨w, e, s, Pb.mono h.bind (fun _ _ z => z) fun ⟨ds, e1⟩ h1 vs w1 H1 y1 s1 r1 => app_nil_fun ?_⟩
  exact sp_call (g := fun v => .ok (v, e1)) hw F.ln y1 s1 r1 h1
/-- a call of a def that a name holds -/
theorem pd_callv {i : Nat} {x : Str} (hF : ∀ g b, C.G.cv g = true → C.Z.mf g = some b → ∃ fc k, Fk X.prog X.w X.K X.mg X.base k C g fc b ∧ fc.w = false ∧ Room k X.A) (hx : Passes (L2N.CX X.prog X.w) X C.E) (hN : X.N[i]? = some x) (hv : Vis X.env.scope x) (ha : PA X (e :: es) (tA C r))
    (hdb : (x == ("__debug__" : Str)) = false) (hcd : (x == ("__classdict__" : Str)) = false) (h1 : notStar e = true) (h2 : es.all notStar = true) : PE X (.Call (.Name x p) (e :: es) [] pos) (tD C (.callv i r)) := by
  refine ⟨fun pins st σ H Q I ⟨w, e, s, h⟩ => ?_⟩
  unfold PE1 at h; rw [den] at h
  cases hq : e.s.getD i .un with
  | un => simp only [hq] at h; exact h.elim
  | own d => simp only [hq] at h; exact h.elim
  | well => simp only [hq] at h; exact h.elim
  | fro d =>
    cases d with
    | fn g =>
      simp only [hq] at h
      split at h
      · rename_i hc
        obtain ⟨v, e1', _, r2⟩ := s.slot (i := i) (by rw [hq]; exact fun z => by cases z)
        rw [hq] at r2
        obtain ⟨b, rfl, hb2⟩ := (R.br r2).fn
        obtain ⟨fc, k, F, hw, hr⟩ := hF g b hc hb2
        obtain ⟨fd, ps, hb, G⟩ := F.ex
        refine (pe_callL (i := i) (f := b) (dvs := []) (ds := []) (E := C.E) G hr hN hv F.kp hb .nil hx ha hdb hcd (star_cons h1) (plain_star h2)).run pins st σ H Q I ⟨e1', w, e, s, Pb.mono h.bind (fun _ _ z => z) fun ⟨ds, e1⟩ k vs w1 H1 y1 s1 r1 => app_nil_fun ?_⟩
        exact sp_call (g := fun v => .ok (v, e1)) hw F.ln y1 s1 r1 k
      · exact h.elim
    | _ => simp only [hq] at h; exact h.elim
/-- the names behind a call that was handed a list of a name's own -/
theorem sr_own {Z : Pm} {w w' : Own} {H H' : Hp} {σ : L2.St} {e : En} {i : Nat} {a : Addr} {l l' : List D} (x : Ext (farW w (some a)) H w' H') (s : SR Z w H σ e) (hi : e.s.getD i .un = .own (.lst l)) (hv : σ[i]? = some (some (.ref a))) (ha : w a = some (.slot i)) (d' : Dom w' H') (t : Tabs Z.T H') (tp : Top Z w' H' a (.lst l')) :
    SR Z (backW w w') H' σ { e with s := e.s.set i (.own (.lst l')) } := by
  have n0 : ∀ b : Addr, some b = some a → w b ≠ none ∧ w b ≠ some .far := fun b z => by
    cases z
    rw [ha]
    exact ⟨fun z => by (cases z), fun z => by cases z⟩
  have hil : i < e.s.length := (getD_of hi (fun z => by cases z)).1
  have st := (ext_back x n0).stay
  refine ⟨by rw [List.length_set]; exact s.len, fun j hj => ?_, dom_back x s.dom d', t, fun b c h1 h2 => s.uw b c (back_well h1 trivial) (back_well h2 trivial)⟩
  rw [List.length_set] at hj
  have q := s.sl j hj
  by_cases hji : j = i
  · subst hji
    have e1 : (e.s.set j (.own (.lst l'))).getD j .un = .own (.lst l') := by rw [List.getD_eq_getElem?_getD, List.getElem?_set_self hj]; rfl
    have e2 : σ.getD j none = some (.ref a) := by rw [List.getD_eq_getElem?_getD, hv]; rfl
    rw [e1, e2]
    exact ⟨a, rfl, backW_some ha, tp.stay (stay_back x) fun _ _ z => z⟩
  · have e1 : (e.s.set i (.own (.lst l'))).getD j .un = e.s.getD j .un := by rw [List.getD_eq_getElem?_getD, List.getElem?_set_ne (Ne.symm hji), ← List.getD_eq_getElem?_getD]
    rw [e1]
    cases hx : σ.getD j none with
    | none =>
      rw [hx] at q
      cases hs2 : e.s.getD j .un <;> rw [hs2] at q
      · trivial
      · exact q.elim
      · exact q.elim
      · exact q.elim
    | some v =>
      rw [hx] at q
      cases hs2 : e.s.getD j .un <;> rw [hs2] at q
      · trivial
      · exact R.stay st q
      · obtain ⟨b, rfl, g1, g2⟩ := q
        have n : some b ≠ some a := fun z => by
          cases z
          rw [ha] at g1; cases g1; exact hji rfl
        exact ⟨b, rfl, backW_some g1, g2.stay st fun u hu hh => x.st b u hu.ntbl hh (.inr (farW_far g1 n))⟩
      · obtain ⟨b, rfl, g1, g2⟩ := q
        have n : some b ≠ some a := fun z => by
          cases z
          rw [ha] at g1; cases g1
        exact ⟨b, rfl, backW_some g1, g2.stay st fun u hu hh => x.st b u hu.ntbl hh (.inr (farW_far g1 n))⟩
/-- .. that was handed the well on -/
theorem sr_well {Z : Pm} {w w' : Own} {H H' : Hp} {σ : L2.St} {e : En} {a : Addr} {l' : List D} (x : Ext (farW w (some a)) H w' H') (s : SR Z w H σ e) (ha : w a = some .well) (d' : Dom w' H') (t : Tabs Z.T H') (tp : Top Z w' H' a (.lst l')) :
    SR Z (backW w w') H' σ { e with w := l' } := by
  have n0 : ∀ b : Addr, some b = some a → w b ≠ none ∧ w b ≠ some .far := fun b z => by
    cases z
    rw [ha]
    exact ⟨fun z => by (cases z), fun z => by cases z⟩
  have st := (ext_back x n0).stay
  refine ⟨s.len, fun j hj => ?_, dom_back x s.dom d', t, fun b c h1 h2 => s.uw b c (back_well h1 trivial) (back_well h2 trivial)⟩
  have q := s.sl j hj
  cases hx : σ.getD j none with
  | none =>
    rw [hx] at q
    show SlR Z (backW w w') H' l' j none (e.s.getD j .un)
    cases hs2 : e.s.getD j .un <;> rw [hs2] at q
    · trivial
    · exact q.elim
    · exact q.elim
    · exact q.elim
  | some v =>
    rw [hx] at q
    show SlR Z (backW w w') H' l' j (some v) (e.s.getD j .un)
    cases hs2 : e.s.getD j .un <;> rw [hs2] at q
    · trivial
    · exact R.stay st q
    · obtain ⟨b, rfl, g1, g2⟩ := q
      have n : some b ≠ some a := fun z => by
        cases z
        rw [ha] at g1; cases g1
      exact ⟨b, rfl, backW_some g1, g2.stay st fun u hu hh => x.st b u hu.ntbl hh (.inr (farW_far g1 n))⟩
    · obtain ⟨b, rfl, g1, g2⟩ := q
      have e2 := s.uw b a g1 ha
      subst e2
      exact ⟨b, rfl, backW_some g1, tp.stay (stay_back x) fun _ _ z => z⟩

end
/-- a call that is handed the well, or a list of a name's own, ahead of the other arguments -/
theorem pd_callw {X : Cx} {C : Cn} {k f i : Nat} {fc : Fc} {a : Addr} {r : Exs} {es : List Expr} {nm x : Str} {p p2 pos : Pos} (F : Fk X.prog X.w X.K X.mg X.base k C f fc a) (hw : fc.w = true) (hr : Room k X.A) (hx : Passes (L2N.CX X.prog X.w) X C.E) (hg : Gl X nm) (hm : X.mg nm = some (.ref a))
    (hv : PE X (.Name x p2) (tVar i)) (ha : PA X es (tA C r)) (hdb : (nm == ("__debug__" : Str)) = false) (h2 : es.all notStar = true) :
    PE X (.Call (.Name nm p) (.Name x p2 :: es) [] pos) (tD C (.callw f i r)) := by
  obtain ⟨fd, ps, hb, G⟩ := F.ex
  refine PE.imp (pe_call (dvs := []) (ds := []) G hr hg hm F.kp hb .nil hx (pa_cons hv ha (star_cons rfl)) hdb (star_cons rfl) (plain_star h2)) fun σ H Q ⟨w, e, s, h⟩ => ?_
  unfold PE1 at h; rw [den] at h
  cases hp : e.pk i with
  | exc c p => exact absurd hp pk_exc
  | bad => rw [hp] at h; exact h.elim
  | ok d0 =>
    rw [hp] at h
    dsimp only [Out.bind_ok] at h
    obtain ⟨v, hv1, _⟩ := s.pk hp
    refine ⟨v, hv1, w, e, s, Pb.mono h.bind (fun _ _ z => z) fun ⟨ds, e1⟩ h1 vs w1 H1 y1 s1 r1 => ?_⟩
    show spF C fc (C.F f) ((v :: vs) ++ []) H1 Q C.E
    rw [List.append_nil]
    dsimp only at h1
    cases hq : e1.s.getD i .un with
    | un => simp only [hq] at h1; exact h1.elim
    | fro d => simp only [hq] at h1; exact h1.elim
    | own d =>
      cases d with
      | lst l =>
        simp only [hq] at h1
        obtain ⟨v', e2, _, r2⟩ := s1.slot (i := i) (by rw [hq]; exact fun z => by cases z)
        rw [hv1] at e2
        cases e2
        rw [hq] at r2
        obtain ⟨b, rfl, g1, g2⟩ := r2
        have n0 : ∀ c : Addr, some c = some b → w1 c ≠ none ∧ w1 c ≠ some .far := fun c z => by
          cases z
          rw [g1]
          exact ⟨fun z => by (cases z), fun z => by cases z⟩
        have fb : farW w1 (some b) b = some .well := by unfold farW; rw [g1]; exact if_pos rfl
        refine ⟨farW w1 (some b), ds, l, dom_far s1.dom, s1.tab, farW_kind, fun c d h1 h2 => ?_, by unfold Ar; rw [hw]; exact ⟨b, vs, rfl, fb, g2.stay stay_far fun _ _ z => z, r1.stay stay_far⟩, F.ln _ _ (Pb.nbad h1.bind), Pb.mono h1.bind (fun c p z cls od H' w' y d t xr => ?_) fun ⟨v, wl'⟩ k x w' H' y d t vr wr => ?_⟩
        · have one : ∀ c, farW w1 (some b) c = some .well → c = b := fun c h => by
            unfold farW at h
            cases q : w1 c with
            | none => rw [q] at h; cases h
            | some o =>
              rw [q] at h
              dsimp only at h
              split at h
              · rename_i z; cases z; rfl
              · cases h
          rw [one c h1, one d h2]
        · exact z cls od H' (backW w1 w') (y1.trans (ext_back y n0)) (dom_back y s1.dom d) t (xr_back y xr)
        · unfold Wr at wr
          rw [hw] at wr
          obtain ⟨b', us, e3, tp⟩ := wr
          cases e3
          exact k x (backW w1 w') H' (y1.trans (ext_back y n0)) (sr_own y s1 hq hv1 g1 d t tp) (vr_back y vr)
      | _ => simp only [hq] at h1; exact h1.elim
    | well =>
      simp only [hq] at h1
      obtain ⟨v', e2, _, r2⟩ := s1.slot (i := i) (by rw [hq]; exact fun z => by cases z)
      rw [hv1] at e2
      cases e2
      rw [hq] at r2
      obtain ⟨b, rfl, g1, g2⟩ := r2
      have n0 : ∀ c : Addr, some c = some b → w1 c ≠ none ∧ w1 c ≠ some .far := fun c z => by
        cases z
        rw [g1]
        exact ⟨fun z => by (cases z), fun z => by cases z⟩
      have fb : farW w1 (some b) b = some .well := by unfold farW; rw [g1]; exact if_pos rfl
      refine ⟨farW w1 (some b), ds, e1.w, dom_far s1.dom, s1.tab, farW_kind, fun c d h1 h2 => ?_, by unfold Ar; rw [hw]; exact ⟨b, vs, rfl, fb, g2.stay stay_far fun _ _ z => z, r1.stay stay_far⟩, F.ln _ _ (Pb.nbad h1.bind), Pb.mono h1.bind (fun c p z cls od H' w' y d t xr => ?_) fun ⟨v, wl'⟩ k x w' H' y d t vr wr => ?_⟩
      · have one : ∀ c, farW w1 (some b) c = some .well → c = b := fun c h => by
          unfold farW at h
          cases q : w1 c with
          | none => rw [q] at h; cases h
          | some o =>
            rw [q] at h
            dsimp only at h
            split at h
            · rename_i z; cases z; rfl
            · cases h
        rw [one c h1, one d h2]
      · exact z cls od H' (backW w1 w') (y1.trans (ext_back y n0)) (dom_back y s1.dom d) t (xr_back y xr)
      · unfold Wr at wr
        rw [hw] at wr
        obtain ⟨b', us, e3, tp⟩ := wr
        cases e3
        exact k x (backW w1 w') H' (y1.trans (ext_back y n0)) (sr_well y s1 g1 d t tp) (vr_back y vr)
end Pk

end
section
/-! Pk10: stores, targets, statements without loops. -/
namespace Pk
open PySem PySem.Spec PyProof.Rows L2
open LamX (Tabs TabS ExtN CodeO)
section
variable {Z : Pm} {w w' : Own} {H H' : Hp} {σ : L2.St} {e : En}
theorem getD_set_self {A : Type} {l : List A} {i : Nat} {d x : A} (h : i < l.length) : (l.set i x).getD i d = x := by rw [List.getD_eq_getElem?_getD, List.getElem?_set_self h]; rfl
theorem getD_set_ne {A : Type} {l : List A} {i j : Nat} {d x : A} (h : j ≠ i) : (l.set i x).getD j d = l.getD j d := by rw [List.getD_eq_getElem?_getD, List.getElem?_set_ne (Ne.symm h), ← List.getD_eq_getElem?_getD]
theorem getD_lt {A : Type} {l : List A} {i : Nat} {d : A} (h : l.getD i d ≠ d) : i < l.length := (getD_of (x := l.getD i d) rfl h).1
/-- what a slot says, said of other heaps -/
theorem SlR.up {wl : List D} {i : Nat} {v : Option V} {x : Sl} (q : SlR Z w H wl i v x) (k : Stay w H w' H') (ho : ∀ a, w a = some (.slot i) ∨ w a = some .well → w' a = w a ∧ ∀ u, isData u → H a = some u → H' a = some u) : SlR Z w' H' wl i v x := by
  cases v with
  | none => cases x <;> first | trivial | exact q.elim
  | some v =>
    cases x with
    | un => trivial
    | fro d => exact R.stay k q
    | own d =>
      obtain ⟨a, rfl, h1, h2⟩ := q
      obtain ⟨h3, h4⟩ := ho a (.inl h1)
      exact ⟨a, rfl, h3.trans h1, h2.stay k h4⟩
    | well =>
      obtain ⟨a, rfl, h1, h2⟩ := q
      obtain ⟨h3, h4⟩ := ho a (.inr h1)
      exact ⟨a, rfl, h3.trans h1, h2.stay k h4⟩
/-- one slot is stored; the others stay -/
theorem SR.put {i : Nat} {v : V} {x : Sl} (s : SR Z w H σ e) (hi : e.s.getD i .well ≠ .well) (k : Stay w H w' H') (ho : ∀ j a, j ≠ i → w a = some (.slot j) ∨ w a = some .well → w' a = w a ∧ ∀ u, isData u → H a = some u → H' a = some u)
    (new : SlR Z w' H' e.w i (some v) x) (d : Dom w' H') (t : Tabs Z.T H') (hw : ∀ a, w' a = some .well → w a = some .well) : SR Z w' H' (σ.set i (some v)) { e with s := e.s.set i x } := by
  have hl := getD_lt hi
  refine ⟨by rw [List.length_set, List.length_set]; exact s.len, fun j hj => ?_, d, t, fun a b h1 h2 => s.uw a b (hw a h1) (hw b h2)⟩
  rw [List.length_set] at hj
  by_cases hji : j = i
  · subst hji
    rw [getD_set_self (by rw [s.len]; exact hj), getD_set_self hj]
    exact new
  · rw [getD_set_ne hji, getD_set_ne hji]
    exact (s.sl j hj).up k (ho j · hji)
theorem SR.asg {i : Nat} {v : V} {d : D} (s : SR Z w H σ e) (hi : e.s.getD i .well ≠ .well) (r : R Z w H v d) : SR Z w H (σ.set i (some v)) { e with s := e.s.set i (.fro d) } :=
  s.put hi ⟨fun _ _ _ _ h => h, fun _ _ _ _ h => h, fun _ _ h _ => h⟩ (fun _ _ _ _ => ⟨rfl, fun _ _ h => h⟩) r s.dom s.tab fun _ h => h
theorem st_inv {i : Nat} {v : Vl} {e' : En} (h : e.st i v = .ok e') : e.s.getD i .well ≠ .well ∧ e' = { e with s := e.s.set i v.sl } := by
  unfold En.st at h
  split at h
  · cases h
  · rename_i q
    cases h
    exact ⟨q, rfl⟩
/-- a name is stored -/
theorem SR.st {i : Nat} {v : V} {x : Vl} {e' : En} (s : SR Z w H σ e) (r : VR Z w H v x) (h : e.st i x = .ok e') : ∃ w', Ext w H w' H ∧ SR Z w' H (σ.set i (some v)) e' := by
  obtain ⟨hi, rfl⟩ := st_inv h
  cases x with
  | fro d => exact ⟨w, .refl _ _, s.asg hi r⟩
  | own d =>
    obtain ⟨a, rfl, h1, h2⟩ := r
    have k : Stay w H (setW w a (some (.slot i))) H := ⟨fun _ _ _ _ h => h, fun _ _ _ _ h => h, fun b u h _ => by rw [setW_ne (fun z => by rw [z, h1] at h; cases h)]; exact h⟩
    refine ⟨setW w a (some (.slot i)), ⟨fun _ _ _ h _ => h, fun _ h => h, fun b _ h => ?_, fun b h => ?_, fun b h => ?_⟩, s.put hi k (fun j b _ hb => ?_) ⟨a, rfl, setW_same, h2.stay k fun _ _ z => z⟩ (fun b hb => ?_) s.tab (fun b hb => (setW_well hb (fun z => by cases z)).2)⟩
    · rw [setW_ne (fun z => by rw [z, h1] at h; cases h)]; exact h
    · rw [setW_ne (fun z => by rw [z, h1] at h; cases h)]; exact h
    · rw [setW_ne (fun z => by rw [z, h1] at h; cases h)]; exact h
    · have n : b ≠ a := fun z => by
        rw [z, h1] at hb
        rcases hb with z | z <;> cases z
      exact ⟨setW_ne n, fun _ _ z => z⟩
    · by_cases q : b = a
      · rw [q]
        obtain ⟨u, _, hu⟩ := h2.data
        rw [hu]; exact fun z => by cases z
      · rw [setW_ne q] at hb; exact s.dom b hb
end
/-! ### targets -/
def Tg.ix : Tg → List Nat
  | .one i => [i]
  | .two a b => a.ix ++ b.ix
  | .three a b c => a.ix ++ (b.ix ++ c.ix)
def tG (C : Cn) (tg : Tg) : TG := fun v σ H Q => ∃ w e d s', SR C.Z w H σ e ∧ R C.Z w H v d ∧ asgT tg d e.s = some s' ∧ ∀ σ', σ'.length = σ.length → (∀ j, j ∉ tg.ix → σ'[j]? = σ[j]?) → SR C.Z w H σ' { e with s := s' } → Q σ' H
theorem PG.imp {X : Cx} {e : Expr} {t t' : TG} (h : PG X e t) (k : ∀ v σ H Q, t' v σ H Q → t v σ H Q) : PG X e t' := ⟨fun pins s σ H v u Q I r hw => h.run pins s σ H v u Q I r (k v σ H Q hw)⟩
theorem PG.or {X : Cx} {e : Expr} {t t' : TG} (h : PG X e t) (h' : PG X e t') : PG X e (fun v σ H Q => t v σ H Q ∨ t' v σ H Q) := ⟨fun pins s σ H v u Q I r hw => hw.elim (h.run pins s σ H v u Q I r) (h'.run pins s σ H v u Q I r)⟩
theorem assign_two {a b : Tg} {d : D} {s s' : List Sl} (h : asgT (.two a b) d s = some s') : ∃ x y s1, (d = .tup [x, y] ∨ d = .lst [x, y]) ∧ asgT a x s = some s1 ∧ asgT b y s1 = some s' := by
  unfold asgT at h
  split at h
  · cases q : asgT a _ s with
    | none => rw [q] at h; cases h
    | some s1 => rw [q] at h; exact ⟨_, _, s1, .inl rfl, q, h⟩
  · cases q : asgT a _ s with
    | none => rw [q] at h; cases h
    | some s1 => rw [q] at h; exact ⟨_, _, s1, .inr rfl, q, h⟩
  · cases h
theorem assign_three {a b c : Tg} {d : D} {s s' : List Sl} (h : asgT (.three a b c) d s = some s') : ∃ x y z s1 s2, d = .tup [x, y, z] ∧ asgT a x s = some s1 ∧ asgT b y s1 = some s2 ∧ asgT c z s2 = some s' := by
  unfold asgT at h
  split at h
  · cases q : asgT a _ s with
    | none => rw [q] at h; cases h
    | some s1 =>
      rw [q] at h
      dsimp only [Option.bind_some] at h
      cases q2 : asgT b _ s1 with
      | none => rw [q2] at h; cases h
      | some s2 => rw [q2] at h; exact ⟨_, _, _, s1, s2, rfl, q, q2, h⟩
  · cases h
theorem assign_one {i : Nat} {d : D} {s s' : List Sl} (h : asgT (.one i) d s = some s') : s.getD i .well ≠ .well ∧ s' = s.set i (.fro d) := by
  unfold asgT at h
  split at h
  · cases h
  · rename_i q
    cases h
    exact ⟨q, rfl⟩
def notStarT : Expr → Bool
  | .Starred _ _ => false
  | _ => true
theorem each_cons {e : Expr} {es : List Expr} {env : Env} (h : notStarT e = true) : assignEach (e :: es) env = (false, assign e env) :: assignEach es env := by
  cases e <;> first | rfl | cases h
section
variable {X : Cx} {C : Cn} {ta tb tc : Tg} {ea eb ec : Expr} {pos : Pos} {kk : Nat}
theorem pg_one {i : Nat} {x : Str} (hN : X.N.Nodup) (hi : X.N[i]? = some x) (hx : Loc X.env.scope x) (hf : X.fn x = true ∨ X.env.scope.names.lookup x = some .local) : PG X (.Name x pos) (tG C (.one i)) := by
  refine PG.imp (pg_name hN hi hx hf) fun v σ H Q ⟨w, e, d, s', s, r, h, k⟩ => ?_
  obtain ⟨h1, rfl⟩ := assign_one h
  exact k _ (List.length_set ..) (fun j hj => List.getElem?_set_ne (fun z => hj (by rw [z]; exact List.mem_cons_self))) (s.asg h1 r)
theorem pg_two (hK : X.K = C.Z.K) (hc : X.calm = true) (ha : PG X ea (tG C ta)) (hb : PG X eb (tG C tb)) (na : notStarT ea = true) (nb : notStarT eb = true) : PG X (.Tuple [ea, eb] kk pos) (tG C (.two ta tb)) := by
  have e1 : ∀ es, (assignEach (ea :: es) X.env).map (·.2) = assign ea X.env :: (assignEach es X.env).map (·.2) := fun es => by rw [each_cons na]; rfl
  have e2 : ∀ es, (assignEach (eb :: es) X.env).map (·.2) = assign eb X.env :: (assignEach es X.env).map (·.2) := fun es => by rw [each_cons nb]; rfl
  refine PG.imp (PG.or (pg_tup hc (pgs_cons ha (pgs_cons hb pgs_nil (e2 [])) (e1 [eb])) (n := 2) (by rw [each_cons na, each_cons nb]; rfl) (by rw [each_cons na, each_cons nb]; rfl)) (pg_unl hc (pgs_cons ha (pgs_cons hb pgs_nil (e2 [])) (e1 [eb])) (n := 2) (by rw [each_cons na, each_cons nb]; rfl) (by rw [each_cons na, each_cons nb]; rfl))) fun v σ H Q ⟨w, e, d, s', s, r, h, k⟩ => ?_
  obtain ⟨x, y, s1, hd, h1, h2⟩ := assign_two h
  rcases hd with rfl | rfl
  · left
    obtain ⟨a, vs, rfl, _, g2, g3⟩ := (R.br r).tup
    cases g3 with
    | cons r1 g3 =>
      cases g3 with
      | cons r2 g3 =>
        cases g3
        refine ⟨a, _, rfl, SqT.of g2, rfl, _, _, rfl, w, e, x, s1, s, r1, h1, fun σ1 l1 n1 t1 => ⟨_, _, rfl, w, _, y, s', t1, r2, h2, fun σ2 l2 n2 t2 => ⟨rfl, k σ2 (l2.trans l1) (fun j hj => ?_) t2⟩⟩⟩
        unfold Tg.ix at hj
        rw [List.mem_append, not_or] at hj
        exact (n2 j hj.2).trans (n1 j hj.1)
  · right
    obtain ⟨a, vs, rfl, g2, g3⟩ := (R.br r).lst
    cases g3 with
    | cons r1 g3 =>
      cases g3 with
      | cons r2 g3 =>
        cases g3
        refine ⟨a, _, rfl, SqL.of g2, rfl, _, _, rfl, w, e, x, s1, s, r1, h1, fun σ1 l1 n1 t1 => ⟨_, _, rfl, w, _, y, s', t1, r2, h2, fun σ2 l2 n2 t2 => ⟨rfl, k σ2 (l2.trans l1) (fun j hj => ?_) t2⟩⟩⟩
        unfold Tg.ix at hj
        rw [List.mem_append, not_or] at hj
        exact (n2 j hj.2).trans (n1 j hj.1)
theorem pg_three (hK : X.K = C.Z.K) (hc : X.calm = true) (ha : PG X ea (tG C ta)) (hb : PG X eb (tG C tb)) (hcc : PG X ec (tG C tc)) (na : notStarT ea = true) (nb : notStarT eb = true) (nc : notStarT ec = true) : PG X (.Tuple [ea, eb, ec] kk pos) (tG C (.three ta tb tc)) := by
  have e1 : ∀ es, (assignEach (ea :: es) X.env).map (·.2) = assign ea X.env :: (assignEach es X.env).map (·.2) := fun es => by rw [each_cons na]; rfl
  have e2 : ∀ es, (assignEach (eb :: es) X.env).map (·.2) = assign eb X.env :: (assignEach es X.env).map (·.2) := fun es => by rw [each_cons nb]; rfl
  have e3 : ∀ es, (assignEach (ec :: es) X.env).map (·.2) = assign ec X.env :: (assignEach es X.env).map (·.2) := fun es => by rw [each_cons nc]; rfl
  refine PG.imp (pg_tup hc (pgs_cons ha (pgs_cons hb (pgs_cons hcc pgs_nil (e3 [])) (e2 [ec])) (e1 [eb, ec])) (n := 3) (by rw [each_cons na, each_cons nb, each_cons nc]; rfl) (by rw [each_cons na, each_cons nb, each_cons nc]; rfl)) fun v σ H Q ⟨w, e, d, s', s, r, h, k⟩ => ?_
  obtain ⟨x, y, z, s1, s2, rfl, h1, h2, h3⟩ := assign_three h
  obtain ⟨a, vs, rfl, _, g2, g3⟩ := (R.br r).tup
  cases g3 with
  | cons r1 g3 =>
    cases g3 with
    | cons r2 g3 =>
      cases g3 with
      | cons r3 g3 =>
        cases g3
        refine ⟨a, _, rfl, SqT.of g2, rfl, _, _, rfl, w, e, x, s1, s, r1, h1, fun σ1 l1 n1 t1 => ⟨_, _, rfl, w, _, y, s2, t1, r2, h2, fun σ2 l2 n2 t2 => ⟨_, _, rfl, w, _, z, s', t2, r3, h3, fun σ3 l3 n3 t3 => ⟨rfl, k σ3 (l3.trans (l2.trans l1)) (fun j hj => ?_) t3⟩⟩⟩⟩
        unfold Tg.ix at hj
        rw [List.mem_append, List.mem_append, not_or, not_or] at hj
        exact (n3 j hj.2.2).trans ((n2 j hj.2.1).trans (n1 j hj.1))
end
/-! ### statements -/
def PS1 (C : Cn) (w : Own) (H : Hp) (r : Out (Fl × En)) (D : Ends) : Prop := Pb (XP C w H) r fun p => match p.1 with
  | .nx => ∀ σ' w' H', Ext w H w' H' → SR C.Z w' H' σ' p.2 → D.nx σ' H'
  | .bk => ∀ σ' w' H', Ext w H w' H' → SR C.Z w' H' σ' p.2 → D.bk σ' H'
  | .rt v => ∀ x σ' w' H', Ext w H w' H' → SR C.Z w' H' σ' p.2 → VR C.Z w' H' x v → D.rt x H'
theorem PS1.ext {C : Cn} {w w1 : Own} {H H1 : Hp} {r : Out (Fl × En)} {D : Ends} (h : PS1 C w H r D) (y : Ext w H w1 H1) : PS1 C w1 H1 r D := by
  refine Pb.mono h (fun _ _ z => z.ext y) fun ⟨f, e⟩ k => ?_
  cases f with
  | nx => exact fun σ' w' H' x => k σ' w' H' (y.trans x)
  | bk => exact fun σ' w' H' x => k σ' w' H' (y.trans x)
  | rt v => exact fun z σ' w' H' x => k z σ' w' H' (y.trans x)
def tS (C : Cn) (c : Sm) : TS := fun D σ H => ∃ w e, SR C.Z w H σ e ∧ PS1 C w H (exec C.F C.G c e) D
def tSs (C : Cn) (c : Sms) : TS := fun D σ H => ∃ w e, SR C.Z w H σ e ∧ PS1 C w H (execs C.F C.G c e) D
def notComp : Expr → Bool
  | .ListComp _ _ _ _ => false
  | .SetComp _ _ _ _ => false
  | .DictComp _ _ _ _ _ => false
  | _ => true
theorem noswap {e : Expr} {t : Option Expr} {l : Nat} {env : Env} (h : notComp e = true) : swapsWith e t l env = pure false := by
  cases e <;> first | rfl | cases h
section
variable {X : Cx} {C : Cn} {c : Sm} {r ra rb : Sms} {st : Stmt} {sts sa sb : List Stmt} {a b : Ex} {ea eb : Expr} {pos pos' : Pos} {i : Nat} {x : Str}
theorem pds_nil : PSs X [] (tSs C .nil) := PSs.imp pss_nil fun D σ H ⟨w, e, s, h⟩ => by
  unfold PS1 at h; rw [execs] at h
  exact h σ w H (.refl _ _) s
theorem pds_cons (h1 : PS X st (tS C c)) (h2 : PSs X sts (tSs C r)) : PSs X (st :: sts) (tSs C (.cons c r)) := PSs.imp (pss_cons h1 h2) fun D σ H ⟨w, e, s, h⟩ => by
  unfold PS1 at h; rw [execs] at h
  refine ⟨w, e, s, Pb.mono h.bind (fun _ _ z => z) fun ⟨f, e1⟩ k => ?_⟩
  cases f with
  | nx => exact fun σ' w' H' y s' => ⟨w', e1, s', PS1.ext (show PS1 C w H (execs C.F C.G r e1) D from k) y⟩
  | bk => exact k
  | rt v => exact k
theorem pd_set (hN : X.N.Nodup) (hi : X.N[i]? = some x) (hx : Loc X.env.scope x) (hf : X.fn x = true ∨ X.env.scope.names.lookup x = some .local) (ha : PE X ea (tD C a)) (hs : swapsWith ea (some (.Name x pos')) pos.line X.env = pure false) : PS X (.Assign [.Name x pos'] ea pos) (tS C (.set i a)) := by
  refine PS.imp (ps_set hN hi hx ha hs hf) fun D σ H ⟨w, e, s, h⟩ => ?_
  unfold PS1 at h; rw [exec] at h
  refine ⟨w, e, s, Pb.mono h.bind (fun _ _ z => z) fun ⟨v, e1⟩ k x w1 H1 y1 s1 r1 => ?_⟩
  have k' := Pb.bind (r := e1.st i v) k
  cases he : e1.st i v with
  | bad => rw [he] at k'; exact k'.elim
  | exc c p =>
    unfold En.st at he
    split at he <;> cases he
  | ok e2 =>
    rw [he] at k'
    obtain ⟨w2, y2, s2⟩ := s1.st r1 he
    exact k' _ w2 H1 (y1.trans y2) s2
theorem pd_setT {tg : Tg} (ha : PE X ea (tD C a)) (hg : PG X eb (tG C tg)) (hs : swapsWithSole [eb] ea pos.line X.env = pure false) (hw : swappedStores [eb] ea X.env = pure none) (hn : notStarT eb = true) : PS X (.Assign [eb] ea pos) (tS C (.setT tg a)) := by
  refine PS.imp (ps_asg ha hg hs hw (by rw [each_cons hn]; rfl)) fun D σ H ⟨w, e, s, h⟩ => ?_
  unfold PS1 at h; rw [exec] at h
  refine opv C s (Pb.mono h.bind (fun _ _ z => z) fun ⟨v, e1⟩ k x w1 H1 y1 s1 r1 => ?_)
  obtain ⟨s', hs', k⟩ := Pb.of k.bind
  exact ⟨w1, e1, v.d, s', s1, r1, hs', fun σ' _ _ t => k σ' w1 H1 y1 t⟩
theorem pd_expr (ha : PE X ea (tD C a)) (hs : notComp ea = true) : PS X (.Expr ea pos) (tS C (.expr a)) := by
  refine PS.imp (ps_expr ha (noswap hs)) fun D σ H ⟨w, e, s, h⟩ => ?_
  unfold PS1 at h; rw [exec] at h
  exact ⟨w, e, s, Pb.mono h.bind (fun _ _ z => z) fun ⟨v, e1⟩ k x w1 H1 y1 s1 r1 => k σ w1 H1 y1 s1⟩
theorem pd_ret (ha : PE X ea (tD C a)) : PS X (.Return (some ea) pos) (tS C (.ret a)) := by
  refine PS.imp (ps_ret ha) fun D σ H ⟨w, e, s, h⟩ => ?_
  unfold PS1 at h; rw [exec] at h
  exact ⟨w, e, s, Pb.mono h.bind (fun _ _ z => z) fun ⟨v, e1⟩ k x w1 H1 y1 s1 r1 => k x σ w1 H1 y1 s1 r1⟩
theorem pd_retN : PS X (.Return none pos) (tS C .retN) := by
  refine PS.imp ps_retN fun D σ H ⟨w, e, s, h⟩ => ?_
  unfold PS1 at h; rw [exec] at h
  exact h .non σ w H (.refl _ _) s .non
theorem pd_brk : PS X (.Break pos) (tS C .brk) := by
  refine PS.imp ps_break fun D σ H ⟨w, e, s, h⟩ => ?_
  unfold PS1 at h; rw [exec] at h
  exact h σ w H (.refl _ _) s
theorem pd_pass : PS X (.Pass pos) (tS C .pass) := by
  refine PS.imp ps_pass fun D σ H ⟨w, e, s, h⟩ => ?_
  unfold PS1 at h; rw [exec] at h
  exact h σ w H (.refl _ _) s
theorem pd_if (hc : PT X ea (tT C a)) (h1 : PSs X sa (tSs C ra)) (h2 : PSs X sb (tSs C rb)) : PS X (.If ea sa sb pos) (tS C (.ite a ra rb)) := by
  refine PS.imp (ps_if hc h1 h2) fun D σ H ⟨w, e, s, h⟩ => ?_
  unfold PS1 at h; rw [exec] at h
  refine test_of s (Pb.mono h.bind (fun _ _ z => z) fun ⟨va, e1⟩ h1 w1 H1 y1 s1 => ?_)
  obtain ⟨v, hv, h1⟩ := Pb.of h1.bind
  refine ⟨v, blD_inv hv, ?_⟩
  cases v with
  | true => exact iteT ⟨w1, e1, s1, PS1.ext h1 y1⟩
  | false => exact iteF ⟨w1, e1, s1, PS1.ext h1 y1⟩
end
end Pk

end
section
/-! Pk11: what a loop walks: lists and tuples alike. -/
namespace Pk
open PySem PySem.Spec PyProof.Rows L2
open LamX (Tabs TabS ExtN CodeO)
/-! ### a list (true) or a tuple (false) -/
def IsSq (k : Bool) (h : Heap) (a : Addr) (its : Array Value) : Prop := match k with
  | true => h.IsList a its
  | false => h.IsTuple a its
def IsSI (k : Bool) (h : Heap) (it a : Addr) (i : Nat) : Prop := match k with
  | true => h.IsListIter it a i
  | false => h.IsTupleIter it a i
def sqH (k : Bool) (xs : List V) : HO := match k with
  | true => .lst xs
  | false => .tup xs
def sqO (k : Bool) (a : Addr) : Obj := match k with
  | true => { cls := .type "list_iterator", data := .fields #[.ref a, .int 0 0] }
  | false => { cls := .type "tuple_iterator", data := .fields #[.ref a, .int 0 0] }
theorem IsSI.at {k : Bool} {h h' : Heap} {it a : Addr} {i : Nat} (x : IsSI k h it a i) (q : ∀ o, h.get? it = some o → h'.get? it = some o) : IsSI k h' it a i := by
  cases k with
  | true => exact Heap.IsListIter.at x q
  | false => exact Heap.IsTupleIter.at x q
theorem IsSI.obj {k : Bool} {h : Heap} {it a : Addr} {i : Nat} (x : IsSI k h it a i) : ∃ o, h.get? it = some o ∧ ∀ v, o.data ≠ .cell v := by
  cases k with
  | true => obtain ⟨o, e, _, d⟩ := x; exact ⟨o, e, fun v z => by rw [d] at z; cases z⟩
  | false => obtain ⟨o, e, _, d⟩ := x; exact ⟨o, e, fun v z => by rw [d] at z; cases z⟩
theorem sq_inv {X : Cx} {pins : List (Addr × Obj)} {σ : L2.St} {H : Hp} {s : Shared} {k : Bool} {a : Addr} {xs : List V} (I : Inv X pins σ H s) (h : H a = some (sqH k xs)) : ∃ its : List Value, Vals xs its ∧ IsSq k s.heap a its.toArray := by
  cases k with
  | true =>
    obtain ⟨its, rv, p, _⟩ := I.list (SqL.of h)
    exact ⟨its, rv, p.isList⟩
  | false =>
    obtain ⟨its, rv, p, _⟩ := I.tuple (SqT.of h)
    exact ⟨its, rv, p⟩
theorem draws_sq {P : Program} {w : World} {A : Around} (hh : A.handled = none) (k : Bool) (it l : Addr) (hne : l ≠ it) (items : Array Value) :
    Draws P w A it [it, l] items.size (fun i v => items[i]? = some v) (fun i h => IsSI k h it l i ∧ IsSq k h l items) := by
  cases k with
  | true => exact Draws.list hh it l hne items
  | false => exact Draws.tuple hh it l hne items
theorem begins_sq (k : Bool) (l : Addr) (items : Array Value) : Begins (.ref l) (sqO k l) fun h => IsSq k h l items := by
  cases k with
  | true => exact begins_list l items
  | false => exact begins_tuple l items
theorem sqO_at {k : Bool} {h : Heap} {it a : Addr} (e : h.get? it = some (sqO k a)) : IsSI k h it a 0 := by
  cases k with
  | true => exact ⟨_, e, rfl, rfl⟩
  | false => exact ⟨_, e, rfl, rfl⟩
theorem IsSq.lt {k : Bool} {h : Heap} {a : Addr} {its : Array Value} (x : IsSq k h a its) : a < h.objs.size := by
  cases k with
  | true => obtain ⟨o, e, _⟩ := x; exact Heap.lt_size e
  | false => obtain ⟨o, e, _⟩ := x; exact Heap.lt_size e

/-! ### one sequence -/
def Its (k : Bool) (a : Addr) (xs : List V) : L2.It := ⟨fun i H => i < xs.length ∧ H a = some (sqH k xs), fun i H x H' => H' = H ∧ xs[i]? = some x, fun i H => xs.length ≤ i ∧ H a = some (sqH k xs)⟩
theorem turn_weaken {P : Program} {w : World} {K : PySem.W.Frag} {tg : Expr} {J J' : L2.It} {fp : List Addr} {it : Addr} {tn : Nat → Heap → Prop} (T : Turn P w K tg J fp it tn) (g : ∀ i H, J'.go i H → J.go i H) (y : ∀ i H x H', J'.go i H → J.yld i H x H' → J'.yld i H x H') (e : ∀ i H, J'.stop i H → J.stop i H) : Turn P w K tg J' fp it tn where
  mem := T.mem
  obj := T.obj
  keep := T.keep
  item := fun X hP hw hK hc i pins s σ H E I hf st hg => wpAny_mono (T.item X hP hw hK hc i pins s σ H E I hf st (g i H hg)) (fun r s1 ⟨u, hr, q⟩ => ⟨u, hr, wpAny_mono q (fun _ s2 ⟨x, H', a, b, c, d⟩ => ⟨x, H', a, b, y i H x H' hg c, d⟩) fun _ _ z => z⟩) fun _ _ z => z
  done := fun X hP hw hK hc i pins s σ H E I hf st hg => T.done X hP hw hK hc i pins s σ H E I hf st (e i H hg)
  self := T.self
def iSq (tl : TE) : TI := fun σ H R => tl σ H fun x H1 => ∃ a k xs, x = .ref a ∧ H1 a = some (sqH k xs) ∧ R (Its k a xs) H1
section
variable {X : Cx} {tg : Expr}
theorem pi_sq {l : Expr} {tl : TE} (hl : PE X l tl) : PI X tg l (iSq tl) := by
  refine ⟨fun pins s σ H R I h => ?_⟩
  refine thn (hl.run pins s σ H _ I h) fun v s1 ⟨x, H1, I1, r1, q1⟩ => ?_
  obtain ⟨a, k, xs, e, hq, q⟩ := q1
  subst e
  cases r1
  cases k with
  | true =>
    have hq' : SqL X.K H1 a xs := SqL.of hq
    obtain ⟨its, rv, p, hz⟩ := I1.list hq'
    refine wpAny_pyIter_list p.isList ?_
    refine ⟨s1.heap.objs.size, [s1.heap.objs.size], _, _, H1, rfl, I1.kept (t' := s1.toks) fun b o e => Heap.get?_push_of_some _ e, turn_weaken (J' := Its true a xs) (turn_list (K := X.K) a _) (fun i H hg => ⟨xs, xs[i]'hg.1, SqL.of hg.2, List.getElem?_eq_getElem hg.1⟩) (fun i H x H' hg y => ⟨y.1, y.2 xs (SqL.of hg.2)⟩) (fun i H hs => ⟨xs, SqL.of hs.2, hs.1⟩), ⟨_, Heap.get?_push_size _ rfl, rfl, rfl⟩, fun b hb => ?_, q⟩
    have e : b = s1.heap.objs.size := by simpa using hb
    subst e
    exact I1.fpOk (Nat.le_refl _) (I1.hok.fresh (Nat.le_refl _))
  | false =>
    have hq' : SqT X.K H1 a xs := SqT.of hq
    obtain ⟨its, rv, p, hz⟩ := I1.tuple hq'
    refine wpAny_pyIter_tuple (show s1.heap.IsTuple a its.toArray from p) ?_
    refine ⟨s1.heap.objs.size, [s1.heap.objs.size], _, _, H1, rfl, I1.kept (t' := s1.toks) fun b o e => Heap.get?_push_of_some _ e, turn_weaken (J' := Its false a xs) (turn_tuple (K := X.K) a _) (fun i H hg => ⟨xs, xs[i]'hg.1, SqT.of hg.2, List.getElem?_eq_getElem hg.1⟩) (fun i H x H' hg y => ⟨y.1, y.2 xs (SqT.of hg.2)⟩) (fun i H hs => ⟨xs, SqT.of hs.2, hs.1⟩), ⟨_, Heap.get?_push_size _ rfl, rfl, rfl⟩, fun b hb => ?_, q⟩
    have e : b = s1.heap.objs.size := by simpa using hb
    subst e
    exact I1.fpOk (Nat.le_refl _) (I1.hok.fresh (Nat.le_refl _))
end

/-! ### new tuples handed out -/
/-- a new tuple comes: what the store does not keep of it -/
theorem new_tuple {X : Cx} {pins : List (Addr × Obj)} {σ : L2.St} {H : Hp} {s : Shared} {h' : Heap} {tk : Nat} {ch : List Addr} {T : Addr} {vs : List V} {us : List Value} (I : Inv X pins σ H s) (k : ∀ b o, b ∉ ch → s.heap.get? b = some o → h'.get? b = some o) (hf : ∀ b ∈ ch, FpOk X pins H b) (hT : s.heap.objs.size ≤ T)
    (r : Vals vs us) (hl : vs.length ≤ 1000) (t : IsTup h' T us.toArray) : Inv X pins σ (upd H T (.tup vs)) { s with heap := h', toks := tk } :=
  I.turnedNew (ch := ch) k hf hT (show ObjOk X.prog X.w (upd H T (.tup vs)) h' T (.tup vs) from ⟨by rw [sizeLine_eq]; omega, us, r, t⟩)
theorem hne_new {H : Hp} {fp : List Addr} {T : Addr} {o : HO} {h : Heap} (hT : h.objs.size ≤ T) (hf : ∀ b ∈ fp, H b = none) (hl : ∀ b ∈ fp, b < h.objs.size) : ∀ b ∈ fp, upd H T o b = none := fun b hb => by
  rw [upd_ne (Nat.ne_of_lt (Nat.lt_of_lt_of_le (hl b hb) hT))]
  exact hf b hb

/-! ### enumerate -/
def Ite2 (k : Bool) (a : Addr) (xs : List V) : L2.It := ⟨fun i H => i < xs.length ∧ H a = some (sqH k xs), fun i H v H' => ∃ T x, v = .ref T ∧ H T = none ∧ H' = upd H T (.tup [.int (i : Nat), x]) ∧ xs[i]? = some x, fun i H => xs.length ≤ i ∧ H a = some (sqH k xs)⟩
theorem turn_enumS {P : Program} {w : World} {K : PySem.W.Frag} {elts : List Expr} {kk : Nat} {tpos : Pos} {k : Bool} {a e it : Addr} {xs : List V} (hai : a ≠ it) (hae : a ≠ e) (hne : e ≠ it) :
    Turn P w K (.Tuple elts kk tpos) (Ite2 k a xs) [e, it] e (fun i h => i ≤ xs.length ∧ (∃ old, IsEnum h e it (0 + (i : Int)) old) ∧ IsSI k h it a i) where
  mem := by simp
  obj := fun i h st b hb => by
    obtain ⟨_, ⟨old, he⟩, hi⟩ := st
    have e' : b = e ∨ b = it := by simpa using hb
    rcases e' with z | z
    · rw [z]; exact ⟨_, he, fun v q => nomatch q⟩
    · rw [z]; exact hi.obj
  keep := fun i h h' st q => let ⟨hl, ⟨old, he⟩, hi⟩ := st; ⟨hl, ⟨old, q e (by simp) _ he⟩, hi.at fun o z => q it (by simp) o z⟩
  item := by
    intro X hP hw hK hc i pins s σ H E I hf st hg
    subst hP hw hK
    obtain ⟨its, rv, p⟩ := sq_inv I hg.2
    have hs : its.toArray.size = xs.length := by rw [List.size_toArray, ← rv.length]
    have D := draws_sq (P := X.prog) (w := X.w) (A := X.A.in1) (I.ok.hd hc) k it a hai its.toArray
    have W := GoesN.enumFrom (elts := elts) (x1 := kk) (pos := tpos) 0 D e hne (by simp; exact ⟨hne, fun z => hae z.symm⟩) (by simp)
    refine W.goes i s _ E (by rw [hs]; exact hg.1) ⟨st.2.1, st.2.2, p⟩ fun v h' tk hY st' hk htk => ?_
    obtain ⟨T, t, x', rfl, hT, hx', hTT⟩ := hY
    have hlt1 : i < xs.length := hg.1
    have hx : xs[i]? = some xs[i] := List.getElem?_eq_getElem hlt1
    obtain ⟨u, hu, ru⟩ := rv.get hx
    have eu : x' = u := by
      have h1 : its[i]? = some x' := by simpa using hx'
      rw [hu] at h1
      exact (Option.some.inj h1).symm
    subst eu
    have I1 : Inv X pins σ (upd H T (.tup [.int (i : Nat), xs[i]])) { s with heap := h', toks := tk } := new_tuple (ch := [e, it]) (us := [.int (0 + (i : Int)) t, x']) I (fun b o hb q => hk b o hb q) hf hT (.cons ⟨t, by rw [Int.zero_add]⟩ (.cons ru .nil)) (by simp) hTT
    refine ⟨.ref T, _, I1, rfl, ⟨T, _, rfl, I.hok.fresh hT, rfl, hx⟩, ⟨hg.1, st'.1, st'.2.1⟩, hne_new hT (fun b hb => (hf b hb).1) fun b hb => ?_⟩
    have e' : b = e ∨ b = it := by simpa using hb
    rcases e' with z | z
    · rw [z]; obtain ⟨old, he⟩ := st.2.1; exact Heap.lt_size he
    · rw [z]; obtain ⟨o, ho, _⟩ := st.2.2.obj; exact Heap.lt_size ho
  done := by
    intro X hP hw hK hc i pins s σ H E I hf st hg
    subst hP hw hK
    obtain ⟨its, rv, p⟩ := sq_inv I hg.2
    have hs : its.toArray.size = xs.length := by rw [List.size_toArray, ← rv.length]
    have D := draws_sq (P := X.prog) (w := X.w) (A := X.A.in1) (I.ok.hd hc) k it a hai its.toArray
    have W := GoesN.enumFrom (elts := elts) (x1 := kk) (pos := tpos) 0 D e hne (by simp; exact ⟨hne, fun z => hae z.symm⟩) (by simp)
    have ei : i = its.toArray.size := by rw [hs]; exact Nat.le_antisymm st.1 hg.1
    refine W.stops s _ E (by rw [← ei]; exact ⟨st.2.1, st.2.2, p⟩) fun h' tk hk htk => ?_
    exact I.turnedL (ch := [e, it]) (fun b o hb q => hk b o hb q) hf
  self := fun A i s Q E st h => let ⟨_, ⟨_, he⟩, _⟩ := st; wpAny_pyIter_enum he h
theorem meets_enum1 {v : Value} {o : Obj} {H : Heap → Prop} (B : Begins v o H) :
    Meets (Builtin.«enumerate.__new__» ⟨[.type "enumerate", v], []⟩) (fun _ R s => H s.heap ∧
      R (.ok (.ret (.ref (s.heap.push o).objs.size))) { s with heap := (s.heap.push o).push { cls := .type "enumerate", data := .fields #[.none, .bool false, .ref s.heap.objs.size, rawInt 0, .none, .none] } }) :=
  .of_wp fun prog w A R s h => by
    obtain ⟨hp, g, d, tk, os⟩ := s; obtain ⟨h1, h⟩ := h
    have hsub := sub_enumerate
    have q1 : ∀ {A' : Around} {E : Value → Shared → Prop} {Q : Value → Shared → Prop}, Q (.ref hp.objs.size) ⟨hp.push o, g, d, tk, os⟩ → wpAny (model prog w) A' (pyIter v) Q E ⟨hp, g, d, tk, os⟩ :=
      fun q => B.iter prog w _ _ ⟨hp, g, d, tk, os⟩ _ h1 q
    wp_walk using q1
    refine wpAny_stack_any fun st => wpAny_pure ?_
    split
    · rename_i c _ _ _ _ _
      cases (c == Value.type "enumerate")
      · wp_walk using q1
        exact ⟨_, rfl, h⟩
      · wp_walk using q1
        exact ⟨_, rfl, h⟩
    · wp_walk using q1
      exact ⟨_, rfl, h⟩
theorem enum1_begins {prog : Program} {w : World} {A : Around} {E : Value → Shared → Prop} {s : Shared} {v : Value} {o : Obj} {H : Heap → Prop} {Q : Value → Shared → Prop} (B : Begins v o H) (h1 : H s.heap)
    (h : ∀ h', IsEnum h' (s.heap.objs.size + 1) s.heap.objs.size 0 .none → h'.get? s.heap.objs.size = some o → h'.objs.size = s.heap.objs.size + 2 →
      (∀ b o, s.heap.get? b = some o → h'.get? b = some o) → Q (.ref (s.heap.objs.size + 1)) { s with heap := h' }) :
    wpAny (model prog w) A (call (.type "enumerate") [v]) Q E s := by
  refine callType_new F.called_enumerate (by decide) (F.typeCall_enumerate_1 _) (F.newCall_enumerate_1 _) (fun obj => F.args_object_init_2 obj _) F.entry_enumerate_new
    (meets_enum1 B) ⟨h1, ?_⟩
  have hz : (s.heap.push o).objs.size = s.heap.objs.size + 1 := Heap.size_push ..
  show _ ∧ _
  rw [hz]
  have he : IsEnum ((s.heap.push o).push { cls := .type "enumerate", data := .fields #[.none, .bool false, .ref s.heap.objs.size, rawInt 0, .none, .none] }) (s.heap.objs.size + 1) s.heap.objs.size 0 .none := by
    have := Heap.get?_push_size (s.heap.push o) (o := { cls := .type "enumerate", data := .fields #[.none, .bool false, .ref s.heap.objs.size, rawInt 0, .none, .none] }) rfl
    rw [hz] at this; exact this
  refine ⟨⟨_, he, rfl⟩, h _ he (Heap.get?_push_of_some _ (Heap.get?_push_size _ B.free)) (by rw [Heap.size_push, hz]) fun b o x => Heap.get?_push_of_some _ (Heap.get?_push_of_some _ x)⟩
def iEnumS (ta : TA) : TI := fun σ H R => ta σ H fun vs H1 => ∃ a k xs, vs = [.ref a] ∧ H1 a = some (sqH k xs) ∧ R (Ite2 k a xs) H1
theorem pi_enumS {X : Cx} {e : Expr} {ta : TA} {p pos tpos : Pos} {elts : List Expr} {kk : Nat} (hg : Gl X "enumerate") (hm : X.mg "enumerate" = none) (ha : PA X [e] ta) (hs : starEach [e] X.env = [(false, eval e X.env)]) :
    PI X (.Tuple elts kk tpos) (.Call (.Name "enumerate" p) [e] [] pos) (iEnumS ta) := by
  refine ⟨fun pins s σ H R I h => ?_⟩
  refine Call_ (ld_blt I hg hm boot_enumerate (PyProof.Rows.callWith_type1 (thn (ha.run pos pins s σ H _ I h) fun us s1 ⟨vs, H1, I1, r1, q1⟩ => ?_) hs rfl))
  obtain ⟨a, k, xs, ex, hq, q⟩ := q1
  subst ex
  cases r1 with
  | cons r rr =>
    cases rr
    cases r
    obtain ⟨its, rv, p'⟩ := sq_inv I1 hq
    have la := p'.lt
    refine enum1_begins (begins_sq k a its.toArray) p' fun h' he hit hsz hk => wpAny_pyIter_enum he ?_
    have I2 : Inv X pins σ H1 { s1 with heap := h' } := I1.kept (t' := s1.toks) hk
    refine ⟨s1.heap.objs.size + 1, [s1.heap.objs.size + 1, s1.heap.objs.size], _, _, H1, rfl, I2, turn_enumS (k := k) (a := a) (e := s1.heap.objs.size + 1) (it := s1.heap.objs.size) (xs := xs) (Nat.ne_of_lt la) (Nat.ne_of_lt (Nat.lt_succ_of_lt la)) (Nat.succ_ne_self _), ⟨Nat.zero_le _, ⟨.none, by simpa using he⟩, sqO_at hit⟩, fun b hb => ?_, q⟩
    have e' : b = s1.heap.objs.size + 1 ∨ b = s1.heap.objs.size := by simpa using hb
    have hle : s1.heap.objs.size ≤ b := by
      rcases e' with z | z
      · rw [z]; exact Nat.le_add_right _ _
      · rw [z]; exact Nat.le_refl _
    exact I1.fpOk hle (I1.hok.fresh hle)

/-! ### zip of two, of three -/
def Itz2 (k1 k2 : Bool) (a b : Addr) (xs ys : List V) : L2.It := ⟨fun i H => i < min xs.length ys.length ∧ H a = some (sqH k1 xs) ∧ H b = some (sqH k2 ys), fun i H v H' => ∃ T x y, v = .ref T ∧ H T = none ∧ H' = upd H T (.tup [x, y]) ∧ xs[i]? = some x ∧ ys[i]? = some y, fun i H => min xs.length ys.length ≤ i ∧ H a = some (sqH k1 xs) ∧ H b = some (sqH k2 ys)⟩
theorem turn_zipS {P : Program} {w : World} {K : PySem.W.Frag} {elts : List Expr} {kk : Nat} {tpos : Pos} {k1 k2 : Bool} {a b z TI TO i1 i2 : Addr} {xs ys : List V} (D : ZipSep2 z TI TO i1 i2 [i1, a] [i2, b]) (h1 : a ≠ i1) (h2 : b ≠ i2) :
    Turn P w K (.Tuple elts kk tpos) (Itz2 k1 k2 a b xs ys) [z, TI, TO, i1, i2] z (fun i h => i ≤ min xs.length ys.length ∧ IsZip h z TI TO .none ∧ IsTupOf2 h TI (.ref i1) (.ref i2) ∧ (∃ x y, IsTupOf2 h TO x y) ∧ IsSI k1 h i1 a i ∧ IsSI k2 h i2 b i) where
  mem := by simp
  obj := fun i h st c hc => by
    obtain ⟨_, hz, hTI, ⟨x, y, hTO⟩, q1, q2⟩ := st
    have e' : c = z ∨ c = TI ∨ c = TO ∨ c = i1 ∨ c = i2 := by simpa using hc
    rcases e' with q | q | q | q | q
    · rw [q]; exact ⟨_, hz, fun v q => nomatch q⟩
    · rw [q]; exact ⟨_, hTI, fun v q => nomatch q⟩
    · rw [q]; exact ⟨_, hTO, fun v q => nomatch q⟩
    · rw [q]; exact q1.obj
    · rw [q]; exact q2.obj
  keep := fun i h h' st q => let ⟨hl, hz, hTI, ⟨x, y, hTO⟩, q1, q2⟩ := st; ⟨hl, q z (by simp) _ hz, q TI (by simp) _ hTI, ⟨x, y, q TO (by simp) _ hTO⟩, q1.at fun o e => q i1 (by simp) o e, q2.at fun o e => q i2 (by simp) o e⟩
  item := by
    intro X hP hw hK hc i pins s σ H E I hf st hg
    subst hP hw hK
    obtain ⟨its, rv, p⟩ := sq_inv I hg.2.1
    obtain ⟨its2, rv2, p2⟩ := sq_inv I hg.2.2
    have hs : its.toArray.size = xs.length := by rw [List.size_toArray, ← rv.length]
    have hs2 : its2.toArray.size = ys.length := by rw [List.size_toArray, ← rv2.length]
    have D1 := draws_sq (P := X.prog) (w := X.w) (A := X.A.in1) (I.ok.hd hc) k1 i1 a h1 its.toArray
    have D2 := draws_sq (P := X.prog) (w := X.w) (A := X.A.in1) (I.ok.hd hc) k2 i2 b h2 its2.toArray
    have W := GoesN.zip2 (elts := elts) (x1 := kk) (pos := tpos) D D1 D2
    have hlt1 : i < xs.length := Nat.lt_of_lt_of_le hg.1 (Nat.min_le_left _ _)
    have hlt2 : i < ys.length := Nat.lt_of_lt_of_le hg.1 (Nat.min_le_right _ _)
    refine W.goes i s _ E (by rw [hs, hs2]; exact hg.1) ⟨st.2.1, st.2.2.1, st.2.2.2.1, ⟨st.2.2.2.2.1, p⟩, st.2.2.2.2.2, p2⟩ fun v h' tk hY st' hk htk => ?_
    obtain ⟨T, x', y', rfl, hT, hx', hy', hTT⟩ := hY
    have hx : xs[i]? = some xs[i] := List.getElem?_eq_getElem hlt1
    have hy : ys[i]? = some ys[i] := List.getElem?_eq_getElem hlt2
    obtain ⟨u, hu, ru⟩ := rv.get hx
    obtain ⟨u2, hu2, ru2⟩ := rv2.get hy
    have eu : x' = u := by
      have h1 : its[i]? = some x' := by simpa using hx'
      rw [hu] at h1
      exact (Option.some.inj h1).symm
    have eu2 : y' = u2 := by
      have h1 : its2[i]? = some y' := by simpa using hy'
      rw [hu2] at h1
      exact (Option.some.inj h1).symm
    subst eu eu2
    have I1 : Inv X pins σ (upd H T (.tup [xs[i], ys[i]])) { s with heap := h', toks := tk } := new_tuple (ch := [z, TI, TO, i1, i2]) (us := [x', y']) I (fun b o hb q => hk b o (fun m => hb (by simp at m ⊢; rcases m with m | m | m | m <;> simp [m])) q) hf hT (.cons ru (.cons ru2 .nil)) (by simp) hTT
    refine ⟨.ref T, _, I1, rfl, ⟨T, _, _, rfl, I.hok.fresh hT, rfl, hx, hy⟩, ⟨hg.1, st'.1, st'.2.1, st'.2.2.1, st'.2.2.2.1.1, st'.2.2.2.2.1⟩, hne_new hT (fun b hb => (hf b hb).1) fun c hc => ?_⟩
    obtain ⟨_, hz, hTI, ⟨x, y, hTO⟩, q1, q2⟩ := st
    have e' : c = z ∨ c = TI ∨ c = TO ∨ c = i1 ∨ c = i2 := by simpa using hc
    rcases e' with q | q | q | q | q
    · rw [q]; exact Heap.lt_size hz
    · rw [q]; exact Heap.lt_size hTI
    · rw [q]; exact Heap.lt_size hTO
    · rw [q]; obtain ⟨o, ho, _⟩ := q1.obj; exact Heap.lt_size ho
    · rw [q]; obtain ⟨o, ho, _⟩ := q2.obj; exact Heap.lt_size ho
  done := by
    intro X hP hw hK hc i pins s σ H E I hf st hg
    subst hP hw hK
    obtain ⟨its, rv, p⟩ := sq_inv I hg.2.1
    obtain ⟨its2, rv2, p2⟩ := sq_inv I hg.2.2
    have hs : its.toArray.size = xs.length := by rw [List.size_toArray, ← rv.length]
    have hs2 : its2.toArray.size = ys.length := by rw [List.size_toArray, ← rv2.length]
    have D1 := draws_sq (P := X.prog) (w := X.w) (A := X.A.in1) (I.ok.hd hc) k1 i1 a h1 its.toArray
    have D2 := draws_sq (P := X.prog) (w := X.w) (A := X.A.in1) (I.ok.hd hc) k2 i2 b h2 its2.toArray
    have W := GoesN.zip2 (elts := elts) (x1 := kk) (pos := tpos) D D1 D2
    have ei : i = min its.toArray.size its2.toArray.size := by rw [hs, hs2]; exact Nat.le_antisymm st.1 hg.1
    refine W.stops s _ E (by rw [← ei]; exact ⟨st.2.1, st.2.2.1, st.2.2.2.1, ⟨st.2.2.2.2.1, p⟩, st.2.2.2.2.2, p2⟩) fun h' tk hk htk => ?_
    exact I.turnedL (ch := [z, TI, TO, i1, i2]) (fun b o hb q => hk b o (fun m => hb (by simp at m ⊢; rcases m with m | m | m | m <;> simp [m])) q) hf
  self := fun A i s Q E st h => wpAny_pyIter_zip st.2.1 h
def iZipS (ta : TA) : TI := fun σ H R => ta σ H fun vs H1 => ∃ a b k1 k2 xs ys, vs = [.ref a, .ref b] ∧ H1 a = some (sqH k1 xs) ∧ H1 b = some (sqH k2 ys) ∧ R (Itz2 k1 k2 a b xs ys) H1
theorem pi_zipS {X : Cx} {e e2 : Expr} {ta : TA} {p pos tpos : Pos} {elts : List Expr} {kk : Nat} (hg : Gl X "zip") (hm : X.mg "zip" = none) (ha : PA X [e, e2] ta)
    (hs : starEach [e, e2] X.env = (false, eval e X.env) :: starEach [e2] X.env) (hpl : (backTo pos (starEach [e2] X.env)).any (·.1) = false) :
    PI X (.Tuple elts kk tpos) (.Call (.Name "zip" p) [e, e2] [] pos) (iZipS ta) := by
  refine ⟨fun pins s σ H R I h => ?_⟩
  refine Call_ (ld_blt I hg hm PyProof.Rows.boot_zip (PyProof.Rows.callWith_type1 (thn (ha.run pos pins s σ H _ I h) fun us s1 ⟨vs, H1, I1, r1, q1⟩ => ?_) hs hpl))
  obtain ⟨a, b, k1, k2, xs, ys, ex, hqx, hqy, q⟩ := q1
  subst ex
  cases r1 with
  | cons r rr =>
    cases rr with
    | cons r' rr =>
      cases rr
      cases r
      cases r'
      obtain ⟨its, rv, p1⟩ := sq_inv I1 hqx
      obtain ⟨its2, rv2, p2⟩ := sq_inv I1 hqy
      refine zip_begins2 (begins_sq k1 a its.toArray) (begins_sq k2 b its2.toArray) p1 p2 fun h' hz hTI hTO g1 g2 hsz hk => wpAny_pyIter_zip hz ?_
      have I2 : Inv X pins σ H1 { s1 with heap := h' } := I1.kept (t' := s1.toks) hk
      have S := zip_sep2 (N := s1.heap.objs.size) (fp1 := [a]) (fp2 := [b]) (fun c hc => by rw [List.mem_singleton.mp hc]; exact p1.lt) (fun c hc => by rw [List.mem_singleton.mp hc]; exact p2.lt)
      refine ⟨s1.heap.objs.size + 4, [s1.heap.objs.size + 4, s1.heap.objs.size + 2, s1.heap.objs.size + 3, s1.heap.objs.size, s1.heap.objs.size + 1], _, _, H1, rfl, I2, turn_zipS (k1 := k1) (k2 := k2) (xs := xs) (ys := ys) S (Nat.ne_of_lt p1.lt) (Nat.ne_of_lt (Nat.lt_succ_of_lt p2.lt)), ⟨Nat.zero_le _, hz, hTI, ⟨_, _, hTO⟩, sqO_at g1, sqO_at g2⟩, fun c hcm => ?_, q⟩
      have e' : c = s1.heap.objs.size + 4 ∨ c = s1.heap.objs.size + 2 ∨ c = s1.heap.objs.size + 3 ∨ c = s1.heap.objs.size ∨ c = s1.heap.objs.size + 1 := by simpa using hcm
      have hle : s1.heap.objs.size ≤ c := by
        rcases e' with z | z | z | z | z
        · rw [z]; exact Nat.le_add_right _ _
        · rw [z]; exact Nat.le_add_right _ _
        · rw [z]; exact Nat.le_add_right _ _
        · rw [z]; exact Nat.le_refl _
        · rw [z]; exact Nat.le_add_right _ _
      exact I1.fpOk hle (I1.hok.fresh hle)
end Pk

end
section
/-! Pk12: loops. -/
namespace Pk
open PySem PySem.Spec PyProof.Rows L2
open LamX (Tabs TabS ExtN CodeO)
/-- what nobody may write stays -/
structure Kp (w : Own) (H : Hp) (w' : Own) (H' : Hp) : Prop where
  st : ∀ a u, (∀ ps, u ≠ .tbl ps) → H a = some u → w a = none → H' a = some u
  th : ∀ a, H a ≠ none → H' a ≠ none
  ow : ∀ a, H a ≠ none → w a = none → w' a = none
theorem Ext.kp {w w' : Own} {H H' : Hp} (x : Ext w H w' H') : Kp w H w' H' := ⟨fun a u nu h z => x.st a u nu h (.inl z), x.th, x.ow⟩
theorem Kp.refl (w : Own) (H : Hp) : Kp w H w H := (Ext.refl w H).kp
theorem Kp.trans {w w1 w2 : Own} {H H1 H2 : Hp} (x : Kp w H w1 H1) (y : Kp w1 H1 w2 H2) : Kp w H w2 H2 :=
  ⟨fun a u nu h z => y.st a u nu (x.st a u nu h z) (x.ow a (some_ne h) z), fun a h => y.th a (x.th a h), fun a h z => y.ow a (x.th a h) (x.ow a h z)⟩
theorem Kp.stay {w w' : Own} {H H' : Hp} (x : Kp w H w' H') : Stay w H w' H' :=
  ⟨fun a u hu hw r => x.st a u hu.data.ntbl r hw, fun a u hu hw r => by
    rcases r with r | ⟨o, r⟩
    · exact .inl (x.st a u hu.ntbl r hw)
    · exact .inr ⟨o, x.st a _ (fun ps z => by cases z) r hw⟩, fun a u hw r => x.ow a (some_ne r) hw⟩
/-- an iterator that walks the items l -/
structure Wk (Z : Pm) (w : Own) (H : Hp) (J : L2.It) (l : List D) : Prop where
  go : ∀ w' H', Kp w H w' H' → Dom w' H' → ∀ (i : Nat) (d : D), l[i]? = some d → J.go i H' ∧ ∀ x H'', J.yld i H' x H'' → (H'' = H' ∨ ∃ p u, H' p = none ∧ H'' = upd H' p u) ∧ R Z w' H'' x d
  stop : ∀ w' H', Kp w H w' H' → ∀ i, l.length ≤ i → J.stop i H'
def tI (C : Cn) (c : It) : TI := fun σ H K => ∃ w e, SR C.Z w H σ e ∧ Pb (XP C w H) (denI C.F C.G c e) fun p => ∀ J w' H', Ext w H w' H' → SR C.Z w' H' σ p.2 → Wk C.Z w' H' J p.1 → K J H'
theorem PI.imp {X : Cx} {tg e : Expr} {t t' : TI} (h : PI X tg e t) (k : ∀ σ H K, t' σ H K → t σ H K) : PI X tg e t' := ⟨fun pins s σ H K I hw => h.run pins s σ H K I (k σ H K hw)⟩
section
variable {Z : Pm} {w w' : Own} {H H' : Hp}
theorem R.sq {v : V} {d : D} {l : List D} (h : R Z w H v d) (e : iterD d = some l) : ∃ a k vs, v = .ref a ∧ w a = none ∧ H a = some (sqH k vs) ∧ Rs Z w H vs l := by
  cases h <;> simp [iterD] at e
  · rename_i h1 h2 h3
    subst e
    exact ⟨_, false, _, rfl, h1, h2, h3⟩
  · rename_i h1 h2 h3
    subst e
    exact ⟨_, true, _, rfl, h1, h2, h3⟩
theorem sqH_ntbl {k : Bool} {vs : List V} : ∀ ps, sqH k vs ≠ .tbl ps := by
  intro ps
  cases k <;> exact fun z => by cases z
theorem getV_of {vs : List V} {l : List D} {i : Nat} {x : V} {d : D} (q : Rs Z w H vs l) (h : vs[i]? = some x) (hd : l[i]? = some d) : R Z w H x d := by
  obtain ⟨d', h1, h2⟩ := q.getV h
  rw [hd] at h1
  cases h1
  exact h2
theorem getElem?_lt {A : Type} {l : List A} {i : Nat} {d : A} (h : l[i]? = some d) : i < l.length := (List.getElem?_eq_some_iff.mp h).1
theorem wk_seq {a : Addr} {k : Bool} {vs : List V} {l : List D} (ha : w a = none) (hH : H a = some (sqH k vs)) (q : Rs Z w H vs l) : Wk Z w H (Its k a vs) l where
  go := fun w' H' x _ i d hd => ⟨⟨by rw [q.length]; exact getElem?_lt hd, x.st a _ sqH_ntbl hH ha⟩, fun v H'' y => by
    obtain ⟨rfl, y⟩ := y
    exact ⟨.inl rfl, getV_of (q.stay x.stay) y hd⟩⟩
  stop := fun w' H' x i hi => ⟨by rw [q.length]; exact hi, x.st a _ sqH_ntbl hH ha⟩
theorem wk_enum {a : Addr} {k : Bool} {vs : List V} {l : List D} (ha : w a = none) (hH : H a = some (sqH k vs)) (q : Rs Z w H vs l) : Wk Z w H (Ite2 k a vs) (l.zipIdx.map (fun p => .tup [.int (p.2 : Nat), p.1])) where
  go := fun w' H' x dm i d hd => by
    rw [List.getElem?_map] at hd
    obtain ⟨p, hp, rfl⟩ := Option.map_eq_some_iff.mp hd
    rw [List.getElem?_zipIdx] at hp
    obtain ⟨y, hy, rfl⟩ := Option.map_eq_some_iff.mp hp
    refine ⟨⟨by rw [q.length]; exact getElem?_lt hy, x.st a _ sqH_ntbl hH ha⟩, fun v H'' yy => ?_⟩
    obtain ⟨T, xx, rfl, hT, rfl, hx⟩ := yy
    refine ⟨.inr ⟨T, _, hT, rfl⟩, .tup (dm.none hT) upd_same (.cons ?_ (.cons (R.stay (stay_upd hT) (getV_of (q.stay x.stay) hx hy)) .nil))⟩
    rw [Nat.zero_add]
    exact .int _
  stop := fun w' H' x i hi => ⟨by rw [q.length]; simpa using hi, x.st a _ sqH_ntbl hH ha⟩
theorem wk_zip {a b : Addr} {k1 k2 : Bool} {vs us : List V} {l m : List D} (ha : w a = none) (hH : H a = some (sqH k1 vs)) (q : Rs Z w H vs l) (hb : w b = none) (hH2 : H b = some (sqH k2 us)) (q2 : Rs Z w H us m) :
    Wk Z w H (Itz2 k1 k2 a b vs us) (List.zipWith (fun x y => .tup [x, y]) l m) where
  go := fun w' H' x dm i d hd => by
    have hlt := getElem?_lt hd
    rw [List.length_zipWith] at hlt
    rw [List.getElem?_zipWith] at hd
    have h1 : i < l.length := Nat.lt_of_lt_of_le hlt (Nat.min_le_left _ _)
    have h2 : i < m.length := Nat.lt_of_lt_of_le hlt (Nat.min_le_right _ _)
    have e1 : l[i]? = some l[i] := List.getElem?_eq_getElem h1
    have e2 : m[i]? = some m[i] := List.getElem?_eq_getElem h2
    rw [e1, e2] at hd
    cases hd
    refine ⟨⟨by rw [q.length, q2.length]; exact hlt, x.st a _ sqH_ntbl hH ha, x.st b _ sqH_ntbl hH2 hb⟩, fun v H'' yy => ?_⟩
    obtain ⟨T, xx, yy, rfl, hT, rfl, hx, hy⟩ := yy
    exact ⟨.inr ⟨T, _, hT, rfl⟩, .tup (dm.none hT) upd_same (.cons (R.stay (stay_upd hT) (getV_of (q.stay x.stay) hx e1)) (.cons (R.stay (stay_upd hT) (getV_of (q2.stay x.stay) hy e2)) .nil))⟩
  stop := fun w' H' x i hi => ⟨by rw [q.length, q2.length]; rw [List.length_zipWith] at hi; exact hi, x.st a _ sqH_ntbl hH ha, x.st b _ sqH_ntbl hH2 hb⟩
theorem wk_range {lo : Int} {n : Nat} : Wk Z w H (Itr lo n) ((List.range n).map fun (i : Nat) => .int (lo + (i : Int))) where
  go := fun w' H' x dm i d hd => by
    have hlt := getElem?_lt hd
    rw [List.length_map, List.length_range] at hlt
    rw [List.getElem?_map, List.getElem?_range hlt] at hd
    cases hd
    refine ⟨hlt, fun v H'' y => ?_⟩
    obtain ⟨rfl, rfl⟩ := y
    exact ⟨.inl rfl, .int _⟩
  stop := fun w' H' x i hi => by rw [List.length_map, List.length_range] at hi; exact hi
theorem wk_down {lo : Int} {n : Nat} : Wk Z w H (Itc lo (-1) n) ((List.range n).map fun (i : Nat) => .int (lo - (i : Int))) where
  go := fun w' H' x dm i d hd => by
    have hlt := getElem?_lt hd
    rw [List.length_map, List.length_range] at hlt
    rw [List.getElem?_map, List.getElem?_range hlt] at hd
    cases hd
    refine ⟨hlt, fun v H'' y => ?_⟩
    obtain ⟨rfl, rfl⟩ := y
    refine ⟨.inl rfl, ?_⟩
    have e : lo + (i : Nat) * (-1 : Int) = lo - (i : Int) := by omega
    rw [e]
    exact .int _
  stop := fun w' H' x i hi => by rw [List.length_map, List.length_range] at hi; exact hi
end
section
variable {X : Cx} {C : Cn} {a b c : Ex} {ea eb ec tg : Expr} {p pos : Pos}
theorem pi_dseq (ha : PE X ea (tD C a)) : PI X tg ea (tI C (.seq a)) := by
  refine PI.imp (pi_sq ha) fun σ H K ⟨w, e, s, h⟩ => ?_
  rw [denI] at h
  refine opv C s (Pb.mono h.bind (fun _ _ z => z) fun ⟨v, e1⟩ h1 x w1 H1 y1 s1 r1 => ?_)
  obtain ⟨l, hl, h1⟩ := Pb.of h1.bind
  obtain ⟨ad, k, vs, rfl, ha, hH, q⟩ := R.sq r1 hl
  exact ⟨ad, k, vs, rfl, hH, h1 _ w1 H1 y1 s1 (wk_seq ha hH q)⟩
theorem vals_one {w : Own} {H : Hp} {vs : List V} {d : D} (h : Rs C.Z w H vs [d]) : ∃ v, vs = [v] ∧ R C.Z w H v d := by
  cases h with
  | cons r q => cases q; exact ⟨_, rfl, r⟩
theorem vals_two {w : Own} {H : Hp} {vs : List V} {d b : D} (h : Rs C.Z w H vs [d, b]) : ∃ v u, vs = [v, u] ∧ R C.Z w H v d ∧ R C.Z w H u b := by
  cases h with
  | cons r q =>
    obtain ⟨u, rfl, r2⟩ := vals_one q
    exact ⟨_, _, rfl, r, r2⟩
/-- one argument of a built-in whose value is held -/
theorem ta_one {σ : L2.St} {H : Hp} {w : Own} {e : En} {K : List V → Hp → Prop} (s : SR C.Z w H σ e)
    (h : Pb (XP C w H) (den C.F C.G a e) fun p => ∀ x w1 H1, Ext w H w1 H1 → SR C.Z w1 H1 σ p.2 → R C.Z w1 H1 x p.1.d → K [x] H1) : tA C (.cons a .nil) σ H K := by
  refine ⟨w, e, s, ?_⟩
  rw [dens]
  cases hd : den C.F C.G a e with
  | ok p =>
    rw [hd] at h
    simp only [Out.bind_ok, dens]
    intro vs w' H' y s' q
    obtain ⟨v, rfl, r⟩ := vals_one q
    exact h v w' H' y s' r
  | exc c pp => rw [hd] at h; exact h
  | bad => rw [hd] at h; exact h
theorem rangeD_inv {lo hi : Int} {l : List D} (h : rangeD lo hi = some l) : (-1000000 ≤ lo ∧ lo ≤ 1000000 ∧ -1000000 ≤ hi ∧ hi ≤ 10000000) ∧ l = (List.range (hi - lo).toNat).map fun (i : Nat) => .int (lo + (i : Int)) := by
  unfold rangeD at h
  split at h
  · rename_i q
    cases h
    exact ⟨q, rfl⟩
  · cases h
theorem pi_drange1 (hg : Gl X "range") (hm : X.mg "range" = none) (ha : PA X [ea] (tA C (.cons a .nil))) (hn : notStar ea = true) : PI X tg (.Call (.Name "range" p) [ea] [] pos) (tI C (.range1 a)) := by
  refine PI.imp (pi_range1 hg hm ha (star_cons hn)) fun σ H K ⟨w, e, s, h⟩ => ?_
  rw [denI] at h
  refine ta_one s (Pb.mono h.bind (fun _ _ z => z) fun ⟨v, e1⟩ h1 x w1 H1 y1 s1 r1 => ?_)
  obtain ⟨n, hn, h1⟩ := Pb.of h1.bind
  obtain ⟨l, hl, h1⟩ := Pb.of h1.bind
  obtain ⟨hz, rfl⟩ := rangeD_inv hl
  rw [intD_inv hn] at r1
  refine ⟨n, by rw [(R.br r1).int], by omega, by omega, h1 _ w1 H1 y1 s1 ?_⟩
  rw [Int.sub_zero]
  exact wk_range
theorem ta_two {σ : L2.St} {H : Hp} {w : Own} {e : En} {K : List V → Hp → Prop} (s : SR C.Z w H σ e)
    (h : Pb (XP C w H) (den C.F C.G a e) fun p => Pb (XP C w H) (den C.F C.G b p.2) fun q => ∀ x y w1 H1, Ext w H w1 H1 → SR C.Z w1 H1 σ q.2 → R C.Z w1 H1 x p.1.d → R C.Z w1 H1 y q.1.d → K [x, y] H1) : tA C (.cons a (.cons b .nil)) σ H K := by
  refine ⟨w, e, s, ?_⟩
  rw [dens]
  cases hd : den C.F C.G a e with
  | ok p =>
    rw [hd] at h
    replace h : Pb (XP C w H) (den C.F C.G b p.2) fun q => ∀ x y w1 H1, Ext w H w1 H1 → SR C.Z w1 H1 σ q.2 → R C.Z w1 H1 x p.1.d → R C.Z w1 H1 y q.1.d → K [x, y] H1 := h
    simp only [Out.bind_ok, dens]
    cases hd2 : den C.F C.G b p.2 with
    | ok q =>
      rw [hd2] at h
      simp only [Out.bind_ok, dens]
      intro vs w' H' y s' r
      obtain ⟨v, u, rfl, r1, r2⟩ := vals_two r
      exact h v u w' H' y s' r1 r2
    | exc c pp => rw [hd2] at h; exact h
    | bad => rw [hd2] at h; exact h
  | exc c pp => rw [hd] at h; exact h
  | bad => rw [hd] at h; exact h
theorem Pb.two {A B E : Type} {X : Nat → D → Prop} {r : Out A} {f : A → Out B} {g : A → B → Out E} {k : E → Prop} (h : Pb X (r.bind fun a => (f a).bind fun b => g a b) k) : Pb X r fun a => Pb X (f a) fun b => Pb X (g a b) k :=
  Pb.mono h.bind (fun _ _ z => z) fun a z => z.bind
theorem pi_drange2 (hg : Gl X "range") (hm : X.mg "range" = none) (ha : PA X [ea, eb] (tA C (.cons a (.cons b .nil)))) (hn : notStar ea = true) (hn2 : notStar eb = true) : PI X tg (.Call (.Name "range" p) [ea, eb] [] pos) (tI C (.range2 a b)) := by
  refine PI.imp (pi_range2 hg hm ha (by rw [star_cons hn, star_cons hn2]; rfl) (star_cons hn2)) fun σ H K ⟨w, e, s, h⟩ => ?_
  rw [denI] at h
  refine ta_two s (Pb.mono h.two (fun _ _ z => z) fun ⟨v, e1⟩ h1 => Pb.mono h1 (fun _ _ z => z) fun ⟨u, e2⟩ h2 x y w1 H1 y1 s1 r1 r2 => ?_)
  obtain ⟨m, hm, h2⟩ := Pb.of h2.bind
  obtain ⟨n, hn, h2⟩ := Pb.of h2.bind
  obtain ⟨l, hl, h2⟩ := Pb.of h2.bind
  obtain ⟨hz, rfl⟩ := rangeD_inv hl
  rw [intD_inv hm] at r1
  rw [intD_inv hn] at r2
  exact ⟨m, n, by rw [(R.br r1).int, (R.br r2).int], ⟨by omega, by omega, by omega, by omega⟩, h2 _ w1 H1 y1 s1 wk_range⟩
theorem vals_three {w : Own} {H : Hp} {vs : List V} {d b c : D} (h : Rs C.Z w H vs [d, b, c]) : ∃ v u t, vs = [v, u, t] ∧ R C.Z w H v d ∧ R C.Z w H u b ∧ R C.Z w H t c := by
  cases h with
  | cons r q =>
    obtain ⟨u, t, rfl, r2, r3⟩ := vals_two q
    exact ⟨_, _, _, rfl, r, r2, r3⟩
theorem pi_drange3 {k : Int} (hg : Gl X "range") (hm : X.mg "range" = none) (ha : PA X [ea, eb, ec] (tA C (.cons a (.cons b (.cons (.const (.int k)) .nil))))) (hn : notStar ea = true) (hn2 : notStar eb = true) (hn3 : notStar ec = true) : PI X tg (.Call (.Name "range" p) [ea, eb, ec] [] pos) (tI C (.range3 a b k)) := by
  refine PI.imp (pi_range3 hg hm ha (star_cons hn) (plain_star (by simp [hn2, hn3]))) fun σ H K ⟨w, e, s, h⟩ => ?_
  rw [denI] at h
  refine ⟨w, e, s, ?_⟩
  rw [dens]
  have h := h.bind
  cases hd : den C.F C.G a e with
  | ok p =>
    rw [hd] at h
    replace h := Pb.bind (r := den C.F C.G b p.2) h
    simp only [Out.bind_ok, dens]
    cases hd2 : den C.F C.G b p.2 with
    | ok q =>
      rw [hd2] at h
      replace h : Pb (XP C w H) ((Out.of (intD p.1.d)).bind _) _ := h
      obtain ⟨m, hm, h2⟩ := Pb.of (Pb.bind h)
      obtain ⟨n, hn, h2⟩ := Pb.of (Pb.bind h2)
      obtain ⟨l, hl, h5⟩ := Pb.of (Pb.bind h2)
      clear h h2
      simp only [Out.bind_ok, dens, den]
      intro vs w' H' y s' r
      obtain ⟨v, u, t, rfl, r1, r2, r3⟩ := vals_three r
      unfold rangeC at hl
      split at hl
      · rename_i hz
        cases hl
        obtain ⟨z1, z2, z3, z4, rfl⟩ := hz
        rw [intD_inv hm] at r1
        rw [intD_inv hn] at r2
        exact ⟨m, n, -1, (m - n).toNat, by rw [(R.br r1).int, (R.br r2).int, (R.br r3).int], RgC.neg (by omega) (by omega) (by omega) (by omega), h5 _ w' H' y s' wk_down⟩
      · cases hl
    | exc c pp => rw [hd2] at h; exact h
    | bad => rw [hd2] at h; exact h
  | exc c pp => rw [hd] at h; exact h
  | bad => rw [hd] at h; exact h
theorem pi_denum {elts : List Expr} {kk : Nat} {tpos : Pos} (hg : Gl X "enumerate") (hm : X.mg "enumerate" = none) (ha : PA X [ea] (tA C (.cons a .nil))) (hn : notStar ea = true) : PI X (.Tuple elts kk tpos) (.Call (.Name "enumerate" p) [ea] [] pos) (tI C (.enum a)) := by
  refine PI.imp (pi_enumS hg hm ha (star_cons hn)) fun σ H K ⟨w, e, s, h⟩ => ?_
  rw [denI] at h
  refine ta_one s (Pb.mono h.bind (fun _ _ z => z) fun ⟨v, e1⟩ h1 x w1 H1 y1 s1 r1 => ?_)
  obtain ⟨l, hl, h1⟩ := Pb.of h1.bind
  obtain ⟨ad, k, vs, rfl, ha, hH, q⟩ := R.sq r1 hl
  exact ⟨ad, k, vs, rfl, hH, h1 _ w1 H1 y1 s1 (wk_enum ha hH q)⟩
theorem pi_dzip {elts : List Expr} {kk : Nat} {tpos : Pos} (hg : Gl X "zip") (hm : X.mg "zip" = none) (ha : PA X [ea, eb] (tA C (.cons a (.cons b .nil)))) (hn : notStar ea = true) (hn2 : notStar eb = true) : PI X (.Tuple elts kk tpos) (.Call (.Name "zip" p) [ea, eb] [] pos) (tI C (.zip a b)) := by
  refine PI.imp (pi_zipS hg hm ha (star_cons hn) (plain_star (by simp [hn2]))) fun σ H K ⟨w, e, s, h⟩ => ?_
  rw [denI] at h
  refine ta_two s (Pb.mono h.two (fun _ _ z => z) fun ⟨v, e1⟩ h1 => Pb.mono h1 (fun _ _ z => z) fun ⟨u, e2⟩ h2 x y w1 H1 y1 s1 r1 r2 => ?_)
  obtain ⟨l, hl, h2⟩ := Pb.of h2.bind
  obtain ⟨m, hm, h2⟩ := Pb.of h2.bind
  obtain ⟨ad, k, vs, rfl, ha, hH, q⟩ := R.sq r1 hl
  obtain ⟨bd, k2, us, rfl, hb, hH2, q2⟩ := R.sq r2 hm
  exact ⟨ad, bd, k, k2, vs, us, rfl, hH, hH2, h2 _ w1 H1 y1 s1 (wk_zip ha hH q hb hH2 q2)⟩
end
/-! ### for, while -/
theorem drop_cons {A : Type} {l : List A} {i : Nat} {x : A} (h : l[i]? = some x) : l.drop i = x :: l.drop (i + 1) := by
  obtain ⟨hi, rfl⟩ := List.getElem?_eq_some_iff.mp h
  exact List.drop_eq_getElem_cons hi
section
variable {X : Cx} {C : Cn} {c : It} {g : Tg} {b : Sms} {t : Ex} {tg iter et : Expr} {body : List Stmt} {pos : Pos}
theorem for_core {J : L2.It} {l : List Pk.D} {w1 : Own} {H1 : Hp} {σ : L2.St} {e1 : En} {D : Ends} {C0 : Cn} (hZ : C0.Z = C.Z) (hF : C0.F = C.F) (hG : C0.G = C.G) (s1 : SR C.Z w1 H1 σ e1) (W : Wk C.Z w1 H1 J l) (h1 : PS1 C0 w1 H1 (forL g (execs C.F C.G b) l e1) D) :
    ∃ W : Nat → Nat → L2.St → Hp → Prop, (∃ m, W 0 m σ H1) ∧ ∀ i m σ H, W i m σ H →
      (J.stop i H ∧ D.nx σ H) ∨ (J.go i H ∧ ∃ N : L2.St → Hp → Prop, (∀ σ' H', N σ' H' → ∃ m', m' < m ∧ W (i + 1) m' σ' H') ∧ ∀ x H', J.yld i H x H' → tG C g x σ H' fun σ2 H2 => tSs C0 b { D with nx := N, ct := N, bk := D.nx } σ2 H2) := by
  refine ⟨fun i m σ H => m = l.length - i ∧ i ≤ l.length ∧ ∃ w' e', Ext w1 H1 w' H ∧ SR C.Z w' H σ e' ∧ PS1 C0 w' H (forL g (execs C.F C.G b) (l.drop i) e') D, ⟨l.length, by simp, Nat.zero_le _, w1, e1, .refl _ _, s1, h1⟩, ?_⟩
  rintro i m σ2 H2 ⟨rfl, hi, w2, e2, y2, s2, h2⟩
  by_cases hlt : i < l.length
  · have hx : l[i]? = some l[i] := List.getElem?_eq_getElem hlt
    obtain ⟨hgo, hy⟩ := W.go w2 H2 y2.kp s2.dom i _ hx
    refine .inr ⟨hgo, fun σ' H' => ∃ w' e', Ext w1 H1 w' H' ∧ SR C.Z w' H' σ' e' ∧ PS1 C0 w' H' (forL g (execs C.F C.G b) (l.drop (i + 1)) e') D, fun σ' H' n => ⟨l.length - (i + 1), by omega, rfl, hlt, n⟩, fun x H3 yy => ?_⟩
    obtain ⟨h3, r⟩ := hy x H3 yy
    rw [drop_cons hx] at h2
    unfold forL at h2
    have k3 : Ext w2 H2 w2 H3 ∧ SR C.Z w2 H3 σ2 e2 := by
      rcases h3 with rfl | ⟨p, u, hp, rfl⟩
      · exact ⟨.refl _ _, s2⟩
      · exact ⟨ext_upd hp, s2.laid hp⟩
    obtain ⟨y3, s3⟩ := k3
    cases ha : asgT g l[i] e2.s with
    | none => rw [ha] at h2; exact h2.elim
    | some s' =>
      rw [ha] at h2
      refine ⟨w2, e2, _, s', s3, r, ha, fun σ' _ _ s4 => ⟨w2, _, by rw [hZ]; exact s4, ?_⟩⟩
      rw [hF, hG]
      refine Pb.mono (Pb.bind (PS1.ext h2 y3)) (fun _ _ z => z) fun ⟨f, e5⟩ k => ?_
      cases f with
      | nx => exact fun σ5 w5 H5 y5 s5 => ⟨w5, e5, (y2.trans y3).trans y5, by rw [← hZ]; exact s5, PS1.ext (show PS1 C0 w2 H3 _ D from k) y5⟩
      | bk => exact k
      | rt v => exact k
  · have e : i = l.length := by omega
    subst e
    rw [List.drop_length] at h2
    exact .inl ⟨W.stop w2 H2 y2.kp _ (Nat.le_refl _), h2 σ2 w2 H2 (.refl _ _) (by rw [hZ]; exact s2)⟩
theorem pd_for (hp : PassesOwn (model X.prog X.w) X.A X.env X.xe) (hc : X.calm = true) (hi : PI X tg iter (tI C c)) (hg : PG X tg (tG C g)) (hb : PSs X body (tSs C b)) (hs : ∀ x, foldedSetIterable iter X.env x = pure x) : PS X (.For tg iter body [] pos) (tS C (.for_ g c b)) := by
  refine PS.imp (ps_for hp hc hi hg hb hs) fun D σ H ⟨w, e, s, h⟩ => ?_
  unfold PS1 at h; rw [exec] at h
  refine ⟨w, e, s, Pb.mono h.bind (fun _ _ z => z) fun ⟨l, e1⟩ h1 J w1 H1 y1 s1 W => ?_⟩
  replace h1 : PS1 C w1 H1 (forL g (execs C.F C.G b) l e1) D := PS1.ext h1 y1
  exact for_core rfl rfl rfl s1 W h1
theorem pd_while (hp : PassesOwn (model X.prog X.w) X.A X.env X.xe) (hc : PT X et (tT C t)) (hb : PSs X body (tSs C b)) : PS X (.While et body [] pos) (tS C (.while_ t b)) := by
  refine PS.imp (ps_while hp hc hb) fun D σ H ⟨w, e, s, h⟩ => ?_
  unfold PS1 at h; rw [exec] at h
  refine ⟨fun m σ H => ∃ w e, SR C.Z w H σ e ∧ PS1 C w H (whileL (fun e => (den C.F C.G t e).bind fun (v, e) => (Out.of (blD v.d)).bind fun c => .ok (c, e)) (execs C.F C.G b) m e) D, ⟨fuel, w, e, s, h⟩, ?_⟩
  rintro m σ1 H1 ⟨w1, e1, s1, h1⟩
  cases m with
  | zero => exact h1.elim
  | succ m =>
    unfold whileL at h1
    have h1' := Pb.bind h1
    refine test_of s1 (Pb.mono h1'.bind (fun _ _ z => z) fun ⟨v, e2⟩ h2 w2 H2 y2 s2 => ?_)
    obtain ⟨k, hk, h2⟩ := Pb.of h2.bind
    refine ⟨k, blD_inv hk, ?_⟩
    cases k with
    | false => exact iteF (h2 σ1 w2 H2 y2 s2)
    | true =>
      refine iteT ⟨fun σ H => ∃ w e, SR C.Z w H σ e ∧ PS1 C w H (whileL (fun e => (den C.F C.G t e).bind fun (v, e) => (Out.of (blD v.d)).bind fun c => .ok (c, e)) (execs C.F C.G b) m e) D, fun σ' H' n => ⟨m, Nat.lt_succ_self _, n⟩, w2, e2, s2, ?_⟩
      refine Pb.mono (Pb.bind (PS1.ext h2 y2)) (fun _ _ z => z) fun ⟨f, e3⟩ k => ?_
      cases f with
      | nx => exact fun σ3 w3 H3 y3 s3 => ⟨w3, e3, s3, PS1.ext (show PS1 C w2 H2 _ D from k) y3⟩
      | bk => exact k
      | rt v => exact k
/-! ### raise -/
theorem pd_raise {x : Str} {m : Str} {j k : Nat} {p p2 pos' : Pos} {Ca : Addr} {bmB : List Value} {B newId initId : String} (hc : X.calm = true) (tk : L2N.Takes X (fun cls d _ H => C.E cls d H)) (F : ExcBaseFacts B newId initId bmB) (q : PySem.W.excIn X.K Ca bmB newId = true)
    (gC : X.mg x = some (.ref Ca)) (kC : PySem.W.keepIn X.K (.ref Ca) = true) (r : Raises X (.ref Ca)) (hg : Gl X x) (hdb : (x == ("__debug__" : Str)) = false) (hx : C.Z.xc k = some (Ca, none)) :
    PS X (.Raise (some (.Call (.Name x p) [.Constant (.str m) j p2] [] pos')) none pos) (tS C (.raise k m)) := by
  refine PS.imp (L2N.ps_raise hc tk (L2N.pmk_own F q gC kC r hg hdb)) fun D σ H ⟨w, e, s, h⟩ => ?_
  unfold PS1 at h; rw [exec] at h
  exact h _ _ H w (.refl _ _) s.dom s.tab ⟨Ca, none, hx, rfl, rfl, rfl⟩
end
end Pk

end
section
/-! Pk13: comprehensions. -/
namespace Pk
open PySem PySem.Spec PyProof.Rows L2
open LamX (Tabs TabS ExtN CodeO)
abbrev F0 : XK := fun _ _ _ => False
abbrev XF : Nat → D → Prop := fun _ _ => False
abbrev Cn.z (C : Cn) : Cn := C.e F0
theorem Pb.noexc {A : Type} {X Y : Nat → D → Prop} {r : Out A} {k : A → Prop} (h : Pb X (Pk.noexc r) k) : Pb Y r k := by
  cases r with
  | ok a => exact h
  | exc c p => exact h.elim
  | bad => exact h.elim
theorem Pb.any {A : Type} {Y : Nat → D → Prop} {r : Out A} {k : A → Prop} (h : Pb XF r k) : Pb Y r k := Pb.mono h (fun _ _ z => z.elim) fun _ z => z
theorem Pb.got {A : Type} {r : Out A} {k : A → Prop} (h : Pb XF r k) : ∃ a, r = .ok a ∧ k a := by
  cases r with
  | ok a => exact ⟨a, rfl, h⟩
  | exc c p => exact h.elim
  | bad => exact h.elim
/-! ### hidden names -/
theorem wipeS_length : ∀ (own : List Nat) (s : List Sl), (wipeS own s).length = s.length
  | [], _ => rfl
  | i :: r, s => by unfold wipeS; rw [List.length_set, wipeS_length r s]
theorem wipeS_in : ∀ {own : List Nat} {s : List Sl} {j : Nat}, j ∈ own → (wipeS own s).getD j .un = .un
  | i :: r, s, j, h => by
    unfold wipeS
    by_cases e : j = i
    · subst e
      by_cases hj : j < (wipeS r s).length
      · rw [getD_set_self hj]
      · rw [List.getD_eq_getElem?_getD, List.getElem?_eq_none (by rw [List.length_set]; omega)]; rfl
    · rw [getD_set_ne e]
      exact wipeS_in ((List.mem_cons.mp h).resolve_left e)
theorem wipeS_out : ∀ {own : List Nat} {s : List Sl} {j : Nat} {d : Sl}, j ∉ own → (wipeS own s).getD j d = s.getD j d
  | [], _, _, _, _ => rfl
  | i :: r, s, j, d, h => by
    unfold wipeS
    rw [getD_set_ne (fun e => h (by rw [e]; exact List.mem_cons_self))]
    exact wipeS_out fun m => h (List.mem_cons_of_mem _ m)
theorem backS_length : ∀ (own : List Nat) (old new : List Sl), (backS own old new).length = new.length
  | [], _, _ => rfl
  | i :: r, old, new => by unfold backS; rw [List.length_set, backS_length r old new]
theorem backS_in : ∀ {own : List Nat} {old new : List Sl} {j : Nat}, j ∈ own → j < new.length → (backS own old new).getD j .un = old.getD j .un
  | i :: r, old, new, j, h, hj => by
    unfold backS
    by_cases e : j = i
    · subst e
      rw [getD_set_self (by rw [backS_length]; exact hj)]
    · rw [getD_set_ne e]
      exact backS_in ((List.mem_cons.mp h).resolve_left e) hj
theorem backS_out : ∀ {own : List Nat} {old new : List Sl} {j : Nat}, j ∉ own → (backS own old new).getD j .un = new.getD j .un
  | [], _, _, _, _ => rfl
  | i :: r, old, new, j, h => by
    unfold backS
    rw [getD_set_ne (fun e => h (by rw [e]; exact List.mem_cons_self))]
    exact backS_out fun m => h (List.mem_cons_of_mem _ m)
theorem wipe_ext {σ1 σ2 : L2.St} {own : List Nat} (hl : σ1.length = σ2.length) (h : ∀ j, j ∉ own → σ1[j]? = σ2[j]?) : wipe σ1 own = wipe σ2 own := by
  apply List.ext_getElem?
  intro j
  by_cases hj : j ∈ own
  · have key : ∀ (σ : L2.St) (own : List Nat), j ∈ own → (wipe σ own)[j]? = if j < σ.length then some none else none := by
      intro σ own hj
      induction own with
      | nil => cases hj
      | cons i r ih =>
        unfold wipe
        by_cases e : j = i
        · subst e
          by_cases hlt : j < σ.length
          · rw [if_pos hlt, List.getElem?_set_self (by rw [wipe_length]; exact hlt)]
          · rw [if_neg hlt, List.getElem?_eq_none (by rw [List.length_set, wipe_length]; omega)]
        · rw [List.getElem?_set_ne (Ne.symm e)]
          exact ih ((List.mem_cons.mp hj).resolve_left e)
    rw [key _ _ hj, key _ _ hj, hl]
  · rw [wipe_out hj, wipe_out hj]
    exact h j hj
theorem wipe_wipe {σ : L2.St} {own own1 : List Nat} (h : ∀ j ∈ own1, j ∈ own) : wipe (wipe σ own1) own = wipe σ own := wipe_ext (wipe_length _ _) fun j hj => wipe_out fun m => hj (h j m)
section
variable {Z : Pm} {w w' : Own} {H H' : Hp} {σ : L2.St} {e : En}
theorem getD_wipe_out {own : List Nat} {j : Nat} (h : j ∉ own) : (wipe σ own).getD j none = σ.getD j none := by rw [List.getD_eq_getElem?_getD, List.getD_eq_getElem?_getD, wipe_out h]
theorem SR.wipe {own : List Nat} (s : SR Z w H σ e) : SR Z w H (L2.wipe σ own) { e with s := wipeS own e.s } := by
  refine ⟨by rw [wipe_length, wipeS_length]; exact s.len, fun j hj => ?_, s.dom, s.tab, s.uw⟩
  rw [wipeS_length] at hj
  by_cases h : j ∈ own
  · rw [wipeS_in h]
    show SlR Z w H e.w j _ .un
    cases (L2.wipe σ own).getD j none <;> trivial
  · rw [wipeS_out h, getD_wipe_out h]
    exact s.sl j hj
/-- the hidden names come back -/
theorem SR.back {own : List Nat} {e0 : En} (s0 : SR Z w H σ e0) (hh : hidS own e0.s = true) (x : Stay w H w' H') (s : SR Z w' H' (L2.wipe σ own) e) : SR Z w' H' σ { e with s := backS own e0.s e.s } := by
  have hl : e.s.length = e0.s.length := by rw [← s.len, wipe_length, s0.len]
  refine ⟨by rw [backS_length, ← s.len, wipe_length], fun j hj => ?_, s.dom, s.tab, s.uw⟩
  rw [backS_length] at hj
  by_cases h : j ∈ own
  · rw [backS_in h hj]
    have q := s0.sl j (by rw [← hl]; exact hj)
    have hk := List.all_eq_true.mp hh j h
    have hj' : j < e0.s.length := by rw [← hl]; exact hj
    have e1 : e0.s.getD j .well = e0.s.getD j .un := by
      rw [List.getD_eq_getElem?_getD, List.getD_eq_getElem?_getD, List.getElem?_eq_getElem hj']
      rfl
    rw [e1] at hk
    show SlR Z w' H' e.w j _ _
    cases hs : e0.s.getD j .un with
    | un => cases σ.getD j none <;> trivial
    | fro d =>
      rw [hs] at q
      cases hv : σ.getD j none with
      | none => rw [hv] at q; exact q.elim
      | some v => rw [hv] at q; exact R.stay x q
    | own d => rw [hs] at hk; cases hk
    | well => rw [hs] at hk; cases hk
  · rw [backS_out h, ← getD_wipe_out h]
    exact s.sl j hj
/-! ### the new list of a comprehension -/
theorem SR.far {D : Addr} {u o : HO} (s : SR Z w H σ e) (hw : w D = some .far) (hD : H D = some u) (hu : isData u) : SR Z w (upd H D o) σ e := by
  refine s.up ⟨fun a v _ hn r => ?_, fun a v _ hn r => ?_, fun _ _ h _ => h⟩ (fun a ha => ⟨rfl, fun v _ h => ?_⟩) (dom_upd s.dom) (ntab s.tab hD hu) fun _ h => h
  · rw [upd_ne (fun z => by rw [z, hw] at hn; cases hn)]; exact r
  · have n : a ≠ D := fun z => by rw [z, hw] at hn; cases hn
    rcases r with r | ⟨ob, r⟩
    · exact .inl (by rw [upd_ne n]; exact r)
    · exact .inr ⟨ob, by rw [upd_ne n]; exact r⟩
  · rw [upd_ne (fun z => by
      rw [z, hw] at ha
      rcases ha with ⟨_, q⟩ | q <;> cases q)]
    exact h
theorem kp_far {D : Addr} {o : HO} (hw : w D = some .far) (d : Dom w H) : Kp w H w (upd H D o) :=
  ⟨fun a v _ h hn => by rw [upd_ne (fun z => by rw [z, hw] at hn; cases hn)]; exact h, fun a h => by
    by_cases e : a = D
    · rw [e, upd_same]; exact fun z => by cases z
    · rw [upd_ne e]; exact h, fun _ _ h => h⟩
/-- an address that was not there may change -/
theorem Ext.new {D : Addr} {o : HO} (x : Ext w H w' H') (hD : H D = none) : Ext w H w' (upd H' D o) :=
  ⟨fun a u nu h ho => by rw [upd_ne (fun z => by rw [z, hD] at h; cases h)]; exact x.st a u nu h ho, fun a h => by rw [upd_ne (fun z => h (by rw [z]; exact hD))]; exact x.th a h, x.ow, x.fr, x.wl⟩
theorem Ext.newW {D : Addr} {o : Option Ow} (x : Ext w H w' H') (hD : H D = none) (d : Dom w H) : Ext w H (setW w' D o) H' := by
  have nw := d.none hD
  refine ⟨x.st, x.th, fun a h z => ?_, fun a z => ?_, fun a z => ?_⟩
  · rw [setW_ne (fun q => h (by rw [q]; exact hD))]; exact x.ow a h z
  · rw [setW_ne (fun q => by rw [q, nw] at z; cases z)]; exact x.fr a z
  · rw [setW_ne (fun q => by rw [q, nw] at z; cases z)]; exact x.wl a z
theorem stay_temp {D : Addr} {o : Ow} (hw : w D = some .far) : Stay w H (setW w D (some o)) H := ⟨fun _ _ _ _ r => r, fun _ _ _ _ r => r, fun a u h _ => by rw [setW_ne (fun z => by rw [z, hw] at h; cases h)]; exact h⟩
theorem SR.temp2 {D : Addr} (s : SR Z w H σ e) (hw : w D = some .far) : SR Z (setW w D (some .temp)) H σ e := by
  refine s.up (stay_temp hw) (fun a ha => ?_) (fun a ha => ?_) s.tab fun a ha => (setW_well ha (fun z => by cases z)).2
  · have n : a ≠ D := fun z => by
      rw [z, hw] at ha
      rcases ha with ⟨_, q⟩ | q <;> cases q
    exact ⟨setW_ne n, fun _ _ h => h⟩
  · by_cases z : a = D
    · rw [z]; exact s.dom D (by rw [hw]; exact fun z => by cases z)
    · rw [setW_ne z] at ha; exact s.dom a ha
end
/-- what stands at D: a list, or a dict by keys and values in turn -/
def Acc (Z : Pm) (k : Bool) (D : Addr) (w : Own) (H : Hp) (l : List Pk.D) : Prop := match k with
  | true => ∃ vs, H D = some (.lst vs) ∧ Rs Z w H vs l
  | false => ∃ kvs m, H D = some (.dK kvs) ∧ dcD l [] = some m ∧ Rk Z w H kvs m
theorem Acc.ext {Z : Pm} {k : Bool} {D : Addr} {w w' : Own} {H H' : Hp} {l : List Pk.D} (a : Acc Z k D w H l) (hw : w D = some .far) (x : Ext w H w' H') : Acc Z k D w' H' l := by
  cases k with
  | true =>
    obtain ⟨vs, h1, h2⟩ := a
    exact ⟨vs, x.st D _ (fun ps z => by cases z) h1 (.inr hw), h2.stay x.stay⟩
  | false =>
    obtain ⟨vs, m, h1, h3, h2⟩ := a
    exact ⟨vs, m, x.st D _ (fun ps z => by cases z) h1 (.inr hw), h3, h2.stay x.stay⟩
/-- the loop of a clause: what holds ahead of turn i -/
def LW (C : Cn) (k : Bool) (D : Addr) (w1 : Own) (H1 : Hp) (w4 : Own) (H4 : Hp) (σw : L2.St) (own : List Nat) (tg : Tg) (body : En → Out (List Pk.D × En)) (P : List Pk.D × En → Prop) (l : List Pk.D) (i : Nat) (H : Hp) : Prop :=
  i ≤ l.length ∧ ∃ w' e' acc, Ext w1 H1 w' H ∧ Kp w4 H4 w' H ∧ SR C.Z w' H σw e' ∧ w' D = some .far ∧ Acc C.Z k D w' H acc ∧ Pb XF (lcL own tg body (l.drop i) e') fun p => P (acc ++ p.1, p.2)
/-- .. ahead of the body -/
def LB (C : Cn) (k : Bool) (D : Addr) (w1 : Own) (H1 : Hp) (w4 : Own) (H4 : Hp) (own : List Nat) (tg : Tg) (body : En → Out (List Pk.D × En)) (P : List Pk.D × En → Prop) (l : List Pk.D) (i : Nat) (σ2 : L2.St) (H : Hp) : Prop :=
  ∃ w' e' acc, Ext w1 H1 w' H ∧ Kp w4 H4 w' H ∧ SR C.Z w' H σ2 e' ∧ w' D = some .far ∧ Acc C.Z k D w' H acc ∧ Pb XF (body e') fun p => Pb XF (lcL own tg body (l.drop (i + 1)) { p.2 with s := wipeS own p.2.s }) fun q => P (acc ++ (p.1 ++ q.1), q.2)
section
variable {C : Cn} {k : Bool} {D : Addr} {w1 w4 : Own} {H1 H4 : Hp} {σ : L2.St} {own : List Nat} {tg : Tg} {body : En → Out (List Pk.D × En)} {P : List Pk.D × En → Prop} {l : List Pk.D} {J : L2.It}
theorem lw_step {i : Nat} {H : Hp} (hsub : ∀ j ∈ tg.ix, j ∈ own) (W : Wk C.Z w4 H4 J l) (hi : i < l.length) (h : LW C k D w1 H1 w4 H4 (wipe σ own) own tg body P l i H) :
    J.go i H ∧ ∀ x H', J.yld i H x H' → tG C tg x (wipe σ own) H' fun σ2 H2 => wipe σ2 own = wipe σ own ∧ LB C k D w1 H1 w4 H4 own tg body P l i σ2 H2 := by
  obtain ⟨_, w', e', acc, y1, y4, s, hw, ac, hp⟩ := h
  have hx : l[i]? = some l[i] := List.getElem?_eq_getElem hi
  obtain ⟨hgo, hy⟩ := W.go w' H y4 s.dom i _ hx
  refine ⟨hgo, fun x H3 yy => ?_⟩
  obtain ⟨h3, r⟩ := hy x H3 yy
  have k3 : Ext w' H w' H3 ∧ SR C.Z w' H3 (wipe σ own) e' := by
    rcases h3 with rfl | ⟨p, u, hp, rfl⟩
    · exact ⟨.refl _ _, s⟩
    · exact ⟨ext_upd hp, s.laid hp⟩
  obtain ⟨y3, s3⟩ := k3
  rw [drop_cons hx] at hp
  unfold lcL at hp
  cases ha : asgT tg l[i] e'.s with
  | none => rw [ha] at hp; exact hp.elim
  | some s' =>
    rw [ha] at hp
    refine ⟨w', e', _, s', s3, r, ha, fun σ2 hl hfr s4 => ⟨?_, w', _, acc, y1.trans y3, y4.trans y3.kp, s4, hw, ac.ext hw y3, Pb.mono (Pb.bind hp) (fun _ _ z => z) fun p z => Pb.mono (Pb.bind z) (fun _ _ z => z) fun q z => z⟩⟩
    have e1 : wipe σ2 own = wipe (wipe σ own) own := wipe_ext hl fun j hj => hfr j fun m => hj (hsub j m)
    rw [e1]
    exact wipe_wipe fun _ h => h
theorem lw_stop {H : Hp} (W : Wk C.Z w4 H4 J l) (h : LW C k D w1 H1 w4 H4 (wipe σ own) own tg body P l l.length H) : J.stop l.length H ∧ ∃ w' e' acc, Ext w1 H1 w' H ∧ Kp w4 H4 w' H ∧ SR C.Z w' H (wipe σ own) e' ∧ w' D = some .far ∧ Acc C.Z k D w' H acc ∧ P (acc, e') := by
  obtain ⟨_, w', e', acc, y1, y4, s, hw, ac, hp⟩ := h
  rw [List.drop_length] at hp
  have hp' : P (acc ++ [], e') := hp
  rw [List.append_nil] at hp'
  exact ⟨W.stop w' H y4 _ (Nat.le_refl _), w', e', acc, y1, y4, s, hw, ac, hp'⟩
/-- the body is done: the next turn -/
theorem lb_next {i : Nat} {σ2 : L2.St} {H' : Hp} {w' : Own} {e2 : En} {acc : List Pk.D} {o : List Pk.D} (hi : i < l.length) (hσ : wipe σ2 own = wipe σ own) (y1 : Ext w1 H1 w' H') (y4 : Kp w4 H4 w' H') (s : SR C.Z w' H' σ2 e2) (hw : w' D = some .far) (ac : Acc C.Z k D w' H' (acc ++ o))
    (hp : Pb XF (lcL own tg body (l.drop (i + 1)) { e2 with s := wipeS own e2.s }) fun q => P (acc ++ (o ++ q.1), q.2)) : LW C k D w1 H1 w4 H4 (wipe σ own) own tg body P l (i + 1) H' := by
  refine ⟨hi, w', _, acc ++ o, y1, y4, by rw [← hσ]; exact s.wipe, hw, ac, Pb.mono hp (fun _ _ z => z) fun q z => ?_⟩
  rw [List.append_assoc]
  exact z
end
def tY (C : Cn) (c : Eo) : TT := fun σ H Q => ∃ w e, SR C.Z w H σ e ∧ Pb (XP C w H) (denC C.F C.G c e) fun p => ∀ w' H', Ext w H w' H' → SR C.Z w' H' σ p.2 → Q p.1 H'
theorem PTs.imp {X : Cx} {e : List Expr} {t t' : TT} (h : PTs X e t) (k : ∀ σ H Q, t' σ H Q → t σ H Q) : PTs X e t' := ⟨fun pins s σ H Q I hw => h.run pins s σ H Q I (k σ H Q hw)⟩
theorem py_none {X : Cx} {C : Cn} : PTs X [] (tY C .none) := PTs.imp pts_nil fun σ H Q ⟨w, e, s, h⟩ => by
  rw [denC] at h
  exact h w H (.refl _ _) s
theorem py_some {X : Cx} {C : Cn} {a : Ex} {ea : Expr} (h : PT X ea (tT C a)) : PTs X [ea] (tY C (.some a)) := PTs.imp (pts_one h) fun σ H Q ⟨w, e, s, h⟩ => by
  rw [denC] at h
  refine test_of s (Pb.mono h.bind (fun _ _ z => z) fun ⟨v, e1⟩ h1 w1 H1 y1 s1 => ?_)
  obtain ⟨b, hb, h1⟩ := Pb.of h1.bind
  exact ⟨b, blD_inv hb, h1 w1 H1 y1 s1⟩
theorem tG_z {C : Cn} {tg : Tg} {E : XK} : tG (C.e E) tg = tG C tg := rfl
section
variable {C : Cn} {elt : Ex} {own own1 : List Nat} {tg tg1 : Tg} {it it1 : It} {c c1 : Eo} {σ : L2.St} {H : Hp} {Q : VK}
/-- the element is appended -/
theorem elt_sound {D : Addr} {σ2 : L2.St} {H3 : Hp} {w2 : Own} {e3 : En} {acc : List Pk.D} {P : List Pk.D × En → Prop} {K : VK} (s : SR C.Z w2 H3 σ2 e3) (hw : w2 D = some .far) (ac : Acc C.Z true D w2 H3 acc)
    (hp : Pb XF ((den C.F C.G elt e3).bind fun (v, e) => .ok ([v.d], e)) P) (hlen : ∀ v e, P ([v], e) → acc.length < lim)
    (k : ∀ y w4 H4 v e4, Ext w2 H3 w4 H4 → SR C.Z w4 H4 σ2 e4 → w4 D = some .far → (∃ vs, H4 D = some (.lst vs) ∧ vs.length < sizeLine ∧ Acc C.Z true D w4 (upd H4 D (.lst (vs ++ [y]))) (acc ++ [v]) ∧ SR C.Z w4 (upd H4 D (.lst (vs ++ [y]))) σ2 e4) → P ([v], e4) → K y H4) :
    tD C.z elt σ2 H3 K := by
  refine opv C.z s (Pb.any (Pb.mono (Pb.bind hp) (fun _ _ z => z) fun ⟨v, e4⟩ z y w4 H4 y4 s4 r4 => ?_))
  have hw4 : w4 D = some .far := y4.fr D hw
  obtain ⟨vs, h1, h2⟩ := ac.ext hw y4
  refine k y w4 H4 v.d e4 y4 s4 hw4 ⟨vs, h1, by rw [h2.length, ← lim_eq]; exact hlen _ _ z, ⟨_, upd_same, ?_⟩, s4.far hw4 h1 trivial⟩ z
  have st : Stay w4 H4 w4 (upd H4 D (.lst (vs ++ [y]))) := (kp_far hw4 s4.dom).stay
  exact (h2.snoc r4).stay st
/-- the loop of a comprehension with one clause, its source at hand -/
theorem lc_core1 {J : L2.It} {l : List Pk.D} {w1 : Own} {H1 : Hp} {e1 : En} (hsub : ∀ j ∈ tg.ix, j ∈ own) (s1 : SR C.Z w1 H1 σ e1) (W : Wk C.Z w1 H1 J l) (hh : hidS own e1.s = true)
    (h2 : Pb XF (lcL own tg (fun e => (denC C.F C.G c e).bind fun (b, e) => if b = true then (den C.F C.G elt e).bind fun (v, e) => Out.ok ([v.d], e) else Out.ok ([], e)) l { e1 with s := wipeS own e1.s }) fun p => p.1.length ≤ lim ∧ Kont C.Z w1 H1 σ { p.2 with s := backS own e1.s p.2.s } (.own (.lst p.1)) Q) :
    ∀ D, H1 D = none → ∃ W : Nat → Nat → Hp → Prop, (∃ m, W 0 m (upd H1 D (.lst []))) ∧ ∀ i m H, W i m H →
      (J.stop i H ∧ Q (.ref D) H) ∨ (J.go i H ∧ ∃ Nx : Hp → Prop, (∀ H', Nx H' → ∃ m', m' < m ∧ W (i + 1) m' H') ∧ ∀ x H', J.yld i H x H' → tG C tg x (wipe σ own) H' fun σ2 H2 => wipe σ2 own = wipe σ own ∧ tY C.z c σ2 H2 fun b H3 =>
        if b = true then tD C.z elt σ2 H3 fun y H4 => ∃ acc, H4 D = some (.lst acc) ∧ acc.length < sizeLine ∧ Nx (upd H4 D (.lst (acc ++ [y]))) else Nx H3) := by
  intro D hD
  generalize hb : (fun e => (denC C.F C.G c e).bind fun (b, e) => if b = true then (den C.F C.G elt e).bind fun (v, e) => Out.ok ([v.d], e) else Out.ok ([], e)) = body at h2
  refine ⟨fun i m H => m = l.length - i ∧ LW C true D w1 H1 w1 H1 (wipe σ own) own tg body (fun p => p.1.length ≤ lim ∧ Kont C.Z w1 H1 σ { p.2 with s := backS own e1.s p.2.s } (.own (.lst p.1)) Q) l i H, ⟨l.length, by simp, Nat.zero_le _, setW w1 D (some .far), _, [], ext_own s1.dom hD, (ext_own s1.dom hD).kp, SR.wipe (s1.temp (b := .far) hD), setW_same, ⟨[], upd_same, .nil⟩, h2⟩, ?_⟩
  rintro i m H2 ⟨rfl, hl⟩
  by_cases hi : i < l.length
  · obtain ⟨hgo, hy⟩ := lw_step hsub W hi hl
    refine .inr ⟨hgo, fun H => LW C true D w1 H1 w1 H1 (wipe σ own) own tg body _ l (i + 1) H, fun H' n => ⟨l.length - (i + 1), by omega, rfl, n⟩, fun x H3 yy => ?_⟩
    obtain ⟨w3, e3, d, s', s3, r3, ha, k⟩ := hy x H3 yy
    refine ⟨w3, e3, d, s', s3, r3, ha, fun σ2 hl2 hf2 s4 => ?_⟩
    obtain ⟨hσ, w5, e5, acc, y5, z5, s5, hw5, ac, hp⟩ := k σ2 hl2 hf2 s4
    refine ⟨hσ, ?_⟩
    subst hb
    refine ⟨w5, e5, s5, Pb.any (Pb.mono (Pb.bind hp) (fun _ _ z => z) fun ⟨b, e6⟩ z w6 H6 y6 s6 => ?_)⟩
    have hw6 := y6.fr D hw5
    cases b with
    | true =>
      replace z : Pb XF ((den C.F C.G elt e6).bind fun (v, e) => .ok ([v.d], e)) _ := z
      refine iteT ?_
      refine elt_sound s6 hw6 (ac.ext hw5 y6) z (fun v e z => ?_) fun y w7 H7 v e7 y7 s7 hw7 ⟨vs, hv, hz, ac7, sr7⟩ z => ⟨vs, hv, hz, lb_next hi hσ ((y5.trans (y6.trans y7)).new hD) ((z5.trans (y6.trans y7).kp).trans (kp_far hw7 s7.dom)) sr7 hw7 ac7 z⟩
      obtain ⟨q, _, hq⟩ := Pb.got z
      have := hq.1
      simp only [List.length_append, List.length_cons] at this
      omega
    | false =>
      refine iteF ?_
      exact lb_next (o := []) hi hσ (y5.trans y6) (z5.trans y6.kp) s6 hw6 (by rw [List.append_nil]; exact ac.ext hw5 y6) z
  · have ei : i = l.length := Nat.le_antisymm hl.1 (Nat.le_of_not_lt hi)
    subst ei
    obtain ⟨hs, w6, e6, acc, y6, _, s6, hw6, ⟨vs, hv, ra⟩, hP⟩ := lw_stop W hl
    exact .inl ⟨hs, hP.2 (.ref D) (setW w6 D (some .temp)) H2 (y6.newW hD s1.dom) (SR.back s1 hh (y6.newW hD s1.dom).stay (s6.temp2 hw6)) ⟨D, rfl, setW_same, vs, hv, ra.stay (stay_temp hw6)⟩⟩
theorem lc_end {X : Nat → Pk.D → Prop} {r : Out (List Pk.D × En)} {g : List Pk.D × En → En} {k : Vl × En → Prop} (h : Pb X ((Pk.noexc r).bind fun (r, e2) => if r.length ≤ lim then .ok (.own (.lst r), g (r, e2)) else .bad) k) : Pb XF r fun p => p.1.length ≤ lim ∧ k (.own (.lst p.1), g p) := by
  refine Pb.mono (Pb.noexc (Y := XF) (Pb.bind h)) (fun _ _ z => z) fun ⟨r, e2⟩ z => ?_
  dsimp only at z
  by_cases hr : r.length ≤ lim
  · rw [if_pos hr] at z
    exact ⟨hr, z⟩
  · rw [if_neg hr] at z
    exact z.elim
theorem lc_sound (hsub : ∀ j ∈ tg.ix, j ∈ own) (h : tD C (.lc elt own tg it c) σ H Q) : tLc (tI C it) (tG C tg) (tY C.z c) (tD C.z elt) own σ H Q := by
  obtain ⟨w, e, s, h⟩ := h
  unfold PE1 at h; rw [den] at h
  refine ⟨w, e, s, Pb.mono h.bind (fun _ _ z => z) fun ⟨l, e1⟩ h1 J w1 H1 y1 s1 W => ?_⟩
  dsimp only at h1
  by_cases hh : hidS own e1.s = true
  · rw [if_pos hh] at h1
    exact lc_core1 hsub s1 W hh (Pb.mono (lc_end (g := fun p => { p.2 with s := backS own e1.s p.2.s }) h1) (fun _ _ z => z) fun p z => ⟨z.1, fun v w' H' y s r => z.2 v w' H' (y1.trans y) s r⟩)
  · rw [if_neg hh] at h1
    exact h1.elim
/-- two clauses -/
theorem lc2_sound (hsub : ∀ j ∈ tg.ix, j ∈ own) (hsub1 : ∀ j ∈ tg1.ix, j ∈ own1) (hown : ∀ j ∈ own1, j ∈ own) (h : tD C (.lc2 elt own own1 tg it c tg1 it1 c1) σ H Q) : tLc2 (tI C it) (tG C tg) (tY C.z c) (tI C.z it1) (tG C tg1) (tY C.z c1) (tD C.z elt) own own1 σ H Q := by
  obtain ⟨w, e, s, h⟩ := h
  unfold PE1 at h; rw [den] at h
  refine ⟨w, e, s, Pb.mono h.bind (fun _ _ z => z) fun ⟨l, e1⟩ h1 J w1 H1 y1 s1 W D hD => ?_⟩
  dsimp only at h1
  by_cases hh : hidS own e1.s = true
  · rw [if_pos hh] at h1
    have h2 := Pb.noexc (Y := XF) (Pb.bind h1)
    generalize hb1 : (fun e => (denC C.F C.G c1 e).bind fun (b, e) => if b = true then (den C.F C.G elt e).bind fun (v, e) => Out.ok ([v.d], e) else Out.ok ([], e)) = body1 at h2
    generalize hb : (fun e => (denC C.F C.G c e).bind fun (b, e) => if b = true then (denI C.F C.G it1 e).bind fun (ds1, e) => lcL own1 tg1 body1 ds1 { e with s := wipeS own1 e.s } else Out.ok ([], e)) = body at h2
    let P : List Pk.D × En → Prop := fun p => p.1.length ≤ lim ∧ ∀ x w' H', Ext w H w' H' → SR C.Z w' H' σ { p.2 with s := backS own e1.s p.2.s } → VR C.Z w' H' x (.own (.lst p.1)) → Q x H'
    have h3 : Pb XF (lcL own tg body l { e1 with s := wipeS own e1.s }) P := Pb.mono h2 (fun _ _ z => z) fun ⟨r, e2⟩ z => by
      dsimp only at z
      by_cases hr : r.length ≤ lim
      · rw [if_pos hr] at z
        exact ⟨hr, z⟩
      · rw [if_neg hr] at z
        exact z.elim
    refine ⟨fun i m H => m = l.length - i ∧ LW C true D w1 H1 w1 H1 (wipe σ own) own tg body P l i H, ⟨l.length, by simp, Nat.zero_le _, setW w1 D (some .far), _, [], ext_own s1.dom hD, (ext_own s1.dom hD).kp, SR.wipe (s1.temp (b := .far) hD), setW_same, ⟨[], upd_same, .nil⟩, h3⟩, ?_⟩
    rintro i m H2 ⟨rfl, hl⟩
    by_cases hi : i < l.length
    · obtain ⟨hgo, hy⟩ := lw_step hsub W hi hl
      refine .inr ⟨hgo, fun H => LW C true D w1 H1 w1 H1 (wipe σ own) own tg body P l (i + 1) H, fun H' n => ⟨l.length - (i + 1), by omega, rfl, n⟩, fun x H3 yy => ?_⟩
      obtain ⟨w3, e3, d, s', s3, r3, ha, k⟩ := hy x H3 yy
      refine ⟨w3, e3, d, s', s3, r3, ha, fun σ2 hl2 hf2 s4 => ?_⟩
      obtain ⟨hσ, w5, e5, acc, y5, z5, s5, hw5, ac, hp⟩ := k σ2 hl2 hf2 s4
      refine ⟨hσ, ?_⟩
      subst hb
      refine ⟨w5, e5, s5, Pb.any (Pb.mono (Pb.bind hp) (fun _ _ z => z) fun ⟨b, e6⟩ z w6 H6 y6 s6 => ?_)⟩
      have hw6 := y6.fr D hw5
      have ac6 := ac.ext hw5 y6
      cases b with
      | true =>
        replace z : Pb XF ((denI C.F C.G it1 e6).bind fun (ds1, e) => lcL own1 tg1 body1 ds1 { e with s := wipeS own1 e.s }) _ := z
        refine iteT ⟨w6, e6, s6, Pb.any (Pb.mono (Pb.bind z) (fun _ _ z => z) fun ⟨l1, e7⟩ z J1 w7 H7 y7 s7 W1 => ?_)⟩
        have hw7 := y7.fr D hw6
        have ac7 := ac6.ext hw6 y7
        -- the inner loop
        let P1 : List Pk.D × En → Prop := fun p => Pb XF (lcL own tg (fun e => (denC C.F C.G c e).bind fun (b, e) => if b = true then (denI C.F C.G it1 e).bind fun (ds1, e) => lcL own1 tg1 body1 ds1 { e with s := wipeS own1 e.s } else Out.ok ([], e)) (l.drop (i + 1)) { p.2 with s := wipeS own p.2.s }) fun q => P (p.1 ++ q.1, q.2)
        have hin : LW C true D w1 H1 w7 H7 (wipe σ2 own1) own1 tg1 body1 P1 l1 0 H7 := ⟨Nat.zero_le _, w7, _, acc, y5.trans (y6.trans y7), Kp.refl _ _, s7.wipe, hw7, ac7, Pb.mono z (fun _ _ z => z) fun p z => Pb.mono z (fun _ _ z => z) fun q z => by rw [List.append_assoc]; exact z⟩
        have kz : Kp w1 H1 w7 H7 := z5.trans (y6.trans y7).kp
        refine ⟨fun j m H => m = l1.length - j ∧ LW C true D w1 H1 w7 H7 (wipe σ2 own1) own1 tg1 body1 P1 l1 j H, ⟨l1.length, by simp, hin⟩, ?_⟩
        rintro j m H8 ⟨rfl, hl1⟩
        by_cases hj : j < l1.length
        · obtain ⟨hgo1, hy1⟩ := lw_step hsub1 W1 hj hl1
          refine .inr ⟨hgo1, fun H => LW C true D w1 H1 w7 H7 (wipe σ2 own1) own1 tg1 body1 P1 l1 (j + 1) H, fun H' n => ⟨l1.length - (j + 1), by omega, rfl, n⟩, fun x H9 yy => ?_⟩
          obtain ⟨w9, e9, d, s', s9, r9, ha, k⟩ := hy1 x H9 yy
          refine ⟨w9, e9, d, s', s9, r9, ha, fun σ3 hl3 hf3 s10 => ?_⟩
          obtain ⟨hσ3, w11, e11, acc1, y11, z11, s11, hw11, ac11, hp11⟩ := k σ3 hl3 hf3 s10
          refine ⟨hσ3, ?_⟩
          subst hb1
          refine ⟨w11, e11, s11, Pb.any (Pb.mono (Pb.bind hp11) (fun _ _ z => z) fun ⟨b, e12⟩ z w12 H12 y12 s12 => ?_)⟩
          have hw12 := y12.fr D hw11
          cases b with
          | true =>
            replace z : Pb XF ((den C.F C.G elt e12).bind fun (v, e) => .ok ([v.d], e)) _ := z
            refine iteT ?_
            refine elt_sound s12 hw12 (ac11.ext hw11 y12) z (fun v e z => ?_) fun y w13 H13 v e13 y13 s13 hw13 ⟨vs, hv, hz, ac13, sr13⟩ z => ⟨vs, hv, hz, lb_next hj hσ3 ((y11.trans (y12.trans y13)).new hD) ((z11.trans (y12.trans y13).kp).trans (kp_far hw13 s13.dom)) sr13 hw13 ac13 z⟩
            obtain ⟨q, _, hq⟩ := Pb.got z
            obtain ⟨q2, _, hq2⟩ := Pb.got (show Pb XF _ _ from hq)
            have := hq2.1
            simp only [List.length_append, List.length_cons] at this
            omega
          | false =>
            refine iteF ?_
            exact lb_next (o := []) hj hσ3 (y11.trans y12) (z11.trans y12.kp) s12 hw12 (by rw [List.append_nil]; exact ac11.ext hw11 y12) z
        · have ej : j = l1.length := Nat.le_antisymm hl1.1 (Nat.le_of_not_lt hj)
          subst ej
          obtain ⟨hs, w9, e9, acc9, y9, z9, s9, hw9, ac9, hP⟩ := lw_stop W1 hl1
          have s9' := s9.wipe (own := own)
          rw [wipe_wipe hown, hσ] at s9'
          exact .inl ⟨hs, hi, w9, _, acc9, y9, kz.trans z9, s9', hw9, ac9, hP⟩
      | false =>
        refine iteF ?_
        exact lb_next (o := []) hi hσ (y5.trans y6) (z5.trans y6.kp) s6 hw6 (by rw [List.append_nil]; exact ac6) z
    · have ei : i = l.length := Nat.le_antisymm hl.1 (Nat.le_of_not_lt hi)
      subst ei
      obtain ⟨hs, w6, e6, acc, y6, _, s6, hw6, ⟨vs, hv, ra⟩, hP⟩ := lw_stop W hl
      refine .inl ⟨hs, hP.2 (.ref D) (setW w6 D (some .temp)) H2 (y1.trans (y6.newW hD s1.dom)) (SR.back s1 hh (y6.newW hD s1.dom).stay (s6.temp2 hw6)) ⟨D, rfl, setW_same, vs, hv, ra.stay (stay_temp hw6)⟩⟩
  · rw [if_neg hh] at h1
    exact h1.elim
end
end Pk

end
section
/-! Pk14: comprehensions as expressions and statements; dicts walked. -/
namespace Pk
open PySem PySem.Spec PyProof.Rows L2
open LamX (Tabs TabS ExtN CodeO)
theorem set_read {C : Cn} {i : Nat} {a : Ex} {D : Ends} {σ : L2.St} {H : Hp} (h : tS C (.set i a) D σ H) : tD C a σ H fun x H1 => D.nx (σ.set i (some x)) H1 := by
  obtain ⟨w, e, s, h⟩ := h
  unfold PS1 at h; rw [exec] at h
  refine ⟨w, e, s, Pb.mono h.bind (fun _ _ z => z) fun ⟨v, e1⟩ k x w1 H1 y1 s1 r1 => ?_⟩
  have k' := Pb.bind (r := e1.st i v) k
  cases he : e1.st i v with
  | bad => rw [he] at k'; exact k'.elim
  | exc c p =>
    unfold En.st at he
    split at he <;> cases he
  | ok e2 =>
    rw [he] at k'
    obtain ⟨w2, y2, s2⟩ := s1.st r1 he
    exact k' _ w2 H1 (y1.trans y2) s2
abbrev Blk (X : Cx) (scope : Scope) (s : Shared) (H : Hp) (a : Addr) (cl : List (Str × Addr)) (fp : List Addr) : Cx := X.blk s H scope (compEnvC scope cl a X.env) fp
section
variable {X : Cx} {C : Cn} {elt : Ex} {tg tg1 : Tg} {it it1 : It} {c c1 : Eo} {eelt etg eit etg1 eit1 : Expr} {ifs ifs1 : List Expr} {scope : Scope} {own : List (Str × Nat)} {own1 : List Nat} {pos spos py : Pos} {i : Nat} {y : Str}
theorem pd_lc (hc : X.calm = true) (hN : X.N.Nodup) (hi : PI X etg eit (tI C it)) (ok : BlkOk X.N X.env.scope scope own) (hsub : ∀ j ∈ tg.ix, j ∈ own.map (·.2))
    (hg : ∀ s H a cl fp, PG (Blk X scope s H a cl fp) etg (tG C tg)) (ht : ∀ s H a cl fp, PTs (Blk X scope s H a cl fp) ifs (tY C.z c)) (he : ∀ s H a cl fp, PE (Blk X scope s H a cl fp) eelt (tD C.z elt)) (hs : ∀ x, foldedSetIterable eit X.env x = pure x) :
    PE X (.ListComp eelt [⟨etg, eit, ifs, 0⟩] scope pos) (tD C (.lc elt (own.map (·.2)) tg it c)) :=
  PE.imp (pe_lc hc hN hi ok hg ht he hs) fun σ H Q h => lc_sound hsub h
theorem pd_setLc (hc : X.calm = true) (hN : X.N.Nodup) (hy : X.N[i]? = some y) (hyl : X.env.scope.names.lookup y = some .local) (hsw : swapsWith (.ListComp eelt [⟨etg, eit, ifs, 0⟩] scope pos) (some (.Name y py)) spos.line X.env = pure true)
    (hi : PI X etg eit (tI C it)) (ok : BlkOk X.N X.env.scope scope own) (hsub : ∀ j ∈ tg.ix, j ∈ own.map (·.2))
    (hg : ∀ s H a cl fp, PG (Blk X scope s H a cl fp) etg (tG C tg)) (ht : ∀ s H a cl fp, PTs (Blk X scope s H a cl fp) ifs (tY C.z c)) (he : ∀ s H a cl fp, PE (Blk X scope s H a cl fp) eelt (tD C.z elt)) (hs : ∀ x, foldedSetIterable eit X.env x = pure x) :
    PS X (.Assign [.Name y py] (.ListComp eelt [⟨etg, eit, ifs, 0⟩] scope pos) spos) (tS C (.set i (.lc elt (own.map (·.2)) tg it c))) :=
  PS.imp (ps_setLc hc hN hy hyl hsw hi ok hg ht he hs) fun D σ H h => lc_sound hsub (set_read h)
theorem pd_lc2 (hc : X.calm = true) (hN : X.N.Nodup) (hi : PI X etg eit (tI C it)) (ok : BlkOk X.N X.env.scope scope own) (hsub : ∀ j ∈ tg.ix, j ∈ own.map (·.2)) (hsub1 : ∀ j ∈ tg1.ix, j ∈ own1) (hown : ∀ j ∈ own1, j ∈ own.map (·.2))
    (hg : ∀ s H a cl fp, PG (Blk X scope s H a cl fp) etg (tG C tg)) (ht : ∀ s H a cl fp, PTs (Blk X scope s H a cl fp) ifs (tY C.z c)) (hi1 : ∀ s H a cl fp, PI (Blk X scope s H a cl fp) etg1 eit1 (tI C.z it1))
    (hg1 : ∀ s H a cl fp, PG (Blk X scope s H a cl fp) etg1 (tG C tg1)) (ht1 : ∀ s H a cl fp, PTs (Blk X scope s H a cl fp) ifs1 (tY C.z c1)) (he : ∀ s H a cl fp, PE (Blk X scope s H a cl fp) eelt (tD C.z elt)) (hs : ∀ env x, foldedSetIterable eit env x = pure x) (hs1 : ∀ env x, foldedSetIterable eit1 env x = pure x) :
    PE X (.ListComp eelt [⟨etg, eit, ifs, 0⟩, ⟨etg1, eit1, ifs1, 0⟩] scope pos) (tD C (.lc2 elt (own.map (·.2)) own1 tg it c tg1 it1 c1)) :=
  PE.imp (pe_lc2 hc hN hi ok hown hg ht hi1 hg1 ht1 he (hs X.env) hs1) fun σ H Q h => lc2_sound hsub hsub1 hown h
theorem pd_setLc2 (hc : X.calm = true) (hN : X.N.Nodup) (hy : X.N[i]? = some y) (hyl : X.env.scope.names.lookup y = some .local) (hsw : swapsWith (.ListComp eelt [⟨etg, eit, ifs, 0⟩, ⟨etg1, eit1, ifs1, 0⟩] scope pos) (some (.Name y py)) spos.line X.env = pure true)
    (hi : PI X etg eit (tI C it)) (ok : BlkOk X.N X.env.scope scope own) (hsub : ∀ j ∈ tg.ix, j ∈ own.map (·.2)) (hsub1 : ∀ j ∈ tg1.ix, j ∈ own1) (hown : ∀ j ∈ own1, j ∈ own.map (·.2))
    (hg : ∀ s H a cl fp, PG (Blk X scope s H a cl fp) etg (tG C tg)) (ht : ∀ s H a cl fp, PTs (Blk X scope s H a cl fp) ifs (tY C.z c)) (hi1 : ∀ s H a cl fp, PI (Blk X scope s H a cl fp) etg1 eit1 (tI C.z it1))
    (hg1 : ∀ s H a cl fp, PG (Blk X scope s H a cl fp) etg1 (tG C tg1)) (ht1 : ∀ s H a cl fp, PTs (Blk X scope s H a cl fp) ifs1 (tY C.z c1)) (he : ∀ s H a cl fp, PE (Blk X scope s H a cl fp) eelt (tD C.z elt)) (hs : ∀ env x, foldedSetIterable eit env x = pure x) (hs1 : ∀ env x, foldedSetIterable eit1 env x = pure x) :
    PS X (.Assign [.Name y py] (.ListComp eelt [⟨etg, eit, ifs, 0⟩, ⟨etg1, eit1, ifs1, 0⟩] scope pos) spos) (tS C (.set i (.lc2 elt (own.map (·.2)) own1 tg it c tg1 it1 c1))) :=
  PS.imp (ps_setLc2 hc hN hy hyl hsw hi ok hown hg ht hi1 hg1 ht1 he (hs X.env) hs1) fun D σ H h => lc2_sound hsub hsub1 hown (set_read h)
end
/-! ### a dict display by a comprehension -/
theorem dcD_split : ∀ (l r : List D) (acc m : List (Key × D)) (n : Nat), l.length = 2 * n → dcD (l ++ r) acc = some m → ∃ m', dcD l acc = some m' ∧ dcD r m' = some m
  | [], r, acc, m, n, _, h => ⟨acc, rfl, h⟩
  | [a], r, acc, m, n, hn, h => by simp at hn; omega
  | a :: b :: l, r, acc, m, n, hn, h => by
    simp only [List.cons_append, dcD] at h ⊢
    cases q : keyD a with
    | none => rw [q] at h; cases h
    | some z =>
      rw [q] at h
      exact dcD_split l r _ m (n - 1) (by simp at hn; omega) h
theorem dcD_even : ∀ (l : List D) (acc m : List (Key × D)), dcD l acc = some m → ∃ n, l.length = 2 * n
  | [], acc, m, h => ⟨0, rfl⟩
  | [a], acc, m, h => by simp [dcD] at h
  | a :: b :: r, acc, m, h => by
    simp only [dcD] at h
    cases q : keyD a with
    | none => rw [q] at h; cases h
    | some z =>
      rw [q] at h
      obtain ⟨n, hn⟩ := dcD_even r _ m h
      exact ⟨n + 1, by simp [hn]; omega⟩
theorem dcD_snoc {a b : D} {key : Key} (hkey : keyD a = some key) : ∀ (l : List D) (ac m : List (Key × D)), dcD l ac = some m → dcD (l ++ [a, b]) ac = some (putK key b m)
  | [], ac, m, h => by
    simp only [dcD] at h
    cases h
    simp only [List.nil_append, dcD, hkey]
    rfl
  | [c], ac, m, h => by simp [dcD] at h
  | c :: d :: r, ac, m, h => by
    simp only [dcD, List.cons_append] at h ⊢
    cases q : keyD c with
    | none => rw [q] at h; cases h
    | some z =>
      rw [q] at h
      exact dcD_snoc hkey r _ m h
theorem putK_len {K V : Type} [DecidableEq K] (k : K) (v : V) (l : List (K × V)) : (putK k v l).length ≤ l.length + 1 := by
  unfold putK
  split
  · rw [List.length_map]; omega
  · rw [List.length_append]; simp
theorem dcD_len : ∀ (l : List D) (acc m : List (Key × D)), dcD l acc = some m → m.length ≤ acc.length + l.length
  | [], acc, m, h => by simp [dcD] at h; subst h; simp
  | [a], acc, m, h => by simp [dcD] at h
  | a :: b :: r, acc, m, h => by
    simp only [dcD] at h
    cases q : keyD a with
    | none => rw [q] at h; cases h
    | some z =>
      rw [q] at h
      have := dcD_len r _ m h
      have := putK_len z b acc
      simp only [List.length_cons]
      omega
section
variable {C : Cn} {ek ev : Ex} {own : List Nat} {tg : Tg} {it : It} {σ : L2.St} {H : Hp} {Q : VK}
def DcP (C : Cn) (w1 : Own) (H1 : Hp) (σ : L2.St) (own : List Nat) (e1 : En) (Q : VK) : List Pk.D × En → Prop := fun p => p.1.length ≤ lim ∧ ∃ m, dcD p.1 [] = some m ∧ Kont C.Z w1 H1 σ { p.2 with s := backS own e1.s p.2.s } (.own (.dk m)) Q
theorem dc_sound (hsub : ∀ j ∈ tg.ix, j ∈ own) (h : tD C (.dc ek ev own tg it) σ H Q) : tDc (tI C it) (tG C tg) tYes (tD C.z ek) (tD C.z ev) own σ H Q := by
  obtain ⟨w, e, s, h⟩ := h
  unfold PE1 at h; rw [den] at h
  refine ⟨w, e, s, Pb.mono h.bind (fun _ _ z => z) fun ⟨l, e1⟩ h1 J w1 H1 y1 s1 W D hD => ?_⟩
  dsimp only at h1
  by_cases hh : hidS own e1.s = true
  · rw [if_pos hh] at h1
    have h2 := Pb.noexc (Y := XF) (Pb.bind h1)
    generalize hb : (fun e => (den C.F C.G ek e).bind fun (a, e) => (den C.F C.G ev e).bind fun (b, e) => Out.ok ([a.d, b.d], e)) = body at h2
    have h3 : Pb XF (lcL own tg body l { e1 with s := wipeS own e1.s }) (DcP C w1 H1 σ own e1 Q) := Pb.mono h2 (fun _ _ z => z) fun ⟨r, e2⟩ z => by
      dsimp only at z
      by_cases hr : r.length ≤ lim
      · rw [if_pos hr] at z
        obtain ⟨m, hm, z⟩ := Pb.of (Pb.bind z)
        exact ⟨hr, m, hm, fun v w' H' y s r => z v w' H' (y1.trans y) s r⟩
      · rw [if_neg hr] at z
        exact z.elim
    refine ⟨fun i m H => m = l.length - i ∧ LW C false D w1 H1 w1 H1 (wipe σ own) own tg body (DcP C w1 H1 σ own e1 Q) l i H, ⟨l.length, by simp, Nat.zero_le _, setW w1 D (some .far), _, [], ext_own s1.dom hD, (ext_own s1.dom hD).kp, SR.wipe (s1.temp (b := .far) hD), setW_same, ⟨[], [], upd_same, rfl, .nil⟩, h3⟩, ?_⟩
    rintro i m H2 ⟨rfl, hl⟩
    by_cases hi : i < l.length
    · obtain ⟨hgo, hy⟩ := lw_step hsub W hi hl
      refine .inr ⟨hgo, fun H => LW C false D w1 H1 w1 H1 (wipe σ own) own tg body (DcP C w1 H1 σ own e1 Q) l (i + 1) H, fun H' n => ⟨l.length - (i + 1), by omega, rfl, n⟩, fun x H3 yy => ?_⟩
      obtain ⟨w3, e3, d, s', s3, r3, ha, k⟩ := hy x H3 yy
      refine ⟨w3, e3, d, s', s3, r3, ha, fun σ2 hl2 hf2 s4 => ?_⟩
      obtain ⟨hσ, w5, e5, acc, y5, z5, s5, hw5, ac, hp⟩ := k σ2 hl2 hf2 s4
      refine ⟨hσ, ?_⟩
      unfold tYes
      refine iteT ?_
      subst hb
      refine opv C.z s5 (Pb.any (Pb.mono (Pb.bind hp) (fun _ _ z => z) fun ⟨a, e6⟩ z ya w6 H6 y6 s6 r6 => ?_))
      refine opv C.z s6 (Pb.any (Pb.mono (Pb.bind z) (fun _ _ z => z) fun ⟨b, e7⟩ z yb w7 H7 y7 s7 r7 => ?_))
      have r6' := R.stay y7.stay r6
      have hw7 := y7.fr D (y6.fr D hw5)
      obtain ⟨kvs, m, hD7, hm, hk⟩ := (ac.ext hw5 y6).ext (y6.fr D hw5) y7
      have z' : Pb XF (lcL own tg (fun e => (den C.F C.G ek e).bind fun (a, e) => (den C.F C.G ev e).bind fun (b, e) => Out.ok ([a.d, b.d], e)) (l.drop (i + 1)) { e7 with s := wipeS own e7.s }) fun q => DcP C w1 H1 σ own e1 Q (acc ++ ([a.d, b.d] ++ q.1), q.2) := z
      obtain ⟨q, _, hq1, mm, hq2, _⟩ := Pb.got z'
      replace hq1 : (acc ++ ([a.d, b.d] ++ q.1)).length ≤ lim := hq1
      replace hq2 : dcD (acc ++ ([a.d, b.d] ++ q.1)) [] = some mm := hq2
      obtain ⟨n, hn⟩ := dcD_even _ _ _ hm
      obtain ⟨m1, hm1, hm2⟩ := dcD_split acc ([a.d, b.d] ++ q.1) [] mm n hn hq2
      rw [hm] at hm1
      cases hm1
      simp only [List.cons_append, List.nil_append, dcD] at hm2
      cases hkey : keyD a.d with
      | none => rw [hkey] at hm2; cases hm2
      | some key =>
        have hlen : kvs.length < sizeLine := by
          have h1 := dcD_len _ _ _ hm
          simp only [List.length_append, List.length_cons, List.length_nil] at hq1 h1
          rw [hk.length, ← lim_eq]
          omega
        refine ⟨kvs, key, R.key (R.br r6') hkey, hD7, hlen, lb_next (k := false) hi hσ ((y5.trans (y6.trans y7)).new hD) ((z5.trans (y6.trans y7).kp).trans (kp_far hw7 s7.dom)) (s7.far hw7 hD7 trivial) hw7 ⟨_, putK key b.d m, upd_same, ?_, ?_⟩ z'⟩
        · have e1 : dcD (acc ++ [a.d, b.d]) [] = some (putK key b.d m) := by
            exact dcD_snoc hkey _ _ _ hm
          exact e1
        · exact (hk.put r7).stay (kp_far hw7 s7.dom).stay
    · have ei : i = l.length := Nat.le_antisymm hl.1 (Nat.le_of_not_lt hi)
      subst ei
      obtain ⟨hs, w6, e6, acc, y6, _, s6, hw6, ⟨kvs, m, hv, hm, ra⟩, hP⟩ := lw_stop W hl
      obtain ⟨_, m', hm', hK⟩ := hP
      have hm' : dcD acc [] = some m' := hm'
      rw [hm] at hm'
      cases hm'
      exact .inl ⟨hs, hK (.ref D) (setW w6 D (some .temp)) H2 (y6.newW hD s1.dom) (SR.back s1 hh (y6.newW hD s1.dom).stay (s6.temp2 hw6)) ⟨D, rfl, setW_same, kvs, hv, ra.stay (stay_temp hw6)⟩⟩
  · rw [if_neg hh] at h1
    exact h1.elim
end
end Pk

end
section
/-! Pk15: statements that write; dicts walked. -/
namespace Pk
open PySem PySem.Spec PyProof.Rows L2
open LamX (Tabs TabS ExtN CodeO)
theorem Pb.pk {Z : Pm} {X : Nat → D → Prop} {w : Own} {H : Hp} {σ : L2.St} {e : En} {i : Nat} {A : Type} {f : D → Out A} {k : A → Prop} (s : SR Z w H σ e) (h : Pb X ((e.pk i).bind f) k) : ∃ d v, e.pk i = .ok d ∧ σ[i]? = some (some v) ∧ BR Z w H v d ∧ Pb X (f d) k := by
  cases hp : e.pk i with
  | ok d =>
    rw [hp] at h
    obtain ⟨v, h1, h2⟩ := s.pk hp
    exact ⟨d, v, rfl, h1, h2, h⟩
  | exc c p => exact absurd hp pk_exc
  | bad => rw [hp] at h; exact h.elim
theorem Pb.rd {Z : Pm} {X : Nat → D → Prop} {w : Own} {H : Hp} {σ : L2.St} {e : En} {i : Nat} {A : Type} {f : Vl × En → Out A} {k : A → Prop} (s : SR Z w H σ e) (h : Pb X ((e.rd i).bind f) k) : ∃ v e' x w', σ[i]? = some (some x) ∧ Ext w H w' H ∧ SR Z w' H σ e' ∧ R Z w' H x v.d ∧ Pb X (f (v, e')) k := by
  cases hr : e.rd i with
  | ok p =>
    obtain ⟨v, e'⟩ := p
    rw [hr] at h
    obtain ⟨x, w', h1, y, s', r⟩ := s.rd hr
    obtain ⟨w2, y2, s2, r2⟩ := VR.free s' r
    exact ⟨v, e', x, w2, h1, y.trans y2, s2, r2, h⟩
  | exc c p =>
    unfold En.rd at hr
    split at hr <;> cases hr
  | bad => rw [hr] at h; exact h.elim
section
variable {Z : Pm} {w w' : Own} {H H' : Hp} {σ : L2.St} {e : En}
/-- a thing that is somebody's is changed -/
theorem stay_mut {a : Addr} {o : HO} (ha : w a ≠ none) : Stay w H w (upd H a o) :=
  ⟨fun b u _ hb r => by rw [upd_ne (fun z => ha (by rw [← z]; exact hb))]; exact r, fun b u _ hb r => by
    have n : b ≠ a := fun z => ha (by rw [← z]; exact hb)
    rcases r with r | ⟨ob, r⟩
    · exact .inl (by rw [upd_ne n]; exact r)
    · exact .inr ⟨ob, by rw [upd_ne n]; exact r⟩, fun _ _ h _ => h⟩
theorem ext_mut {a : Addr} {o : HO} (ha : w a ≠ none) (hf : w a ≠ some .far) : Ext w H w (upd H a o) :=
  ⟨fun b u _ h hb => by
    rw [upd_ne (fun z => by
      rw [z] at hb
      rcases hb with q | q
      · exact ha q
      · exact hf q)]
    exact h, fun b h => by
    by_cases z : b = a
    · rw [z, upd_same]; exact fun z => by cases z
    · rw [upd_ne z]; exact h, fun _ _ h => h, fun _ h => h, fun _ h => h⟩
theorem SR.own_slot {i : Nat} {d : D} (s : SR Z w H σ e) (h : e.s.getD i .un = .own d) : ∃ a, σ[i]? = some (some (.ref a)) ∧ i < e.s.length ∧ w a = some (.slot i) ∧ Top Z w H a d := by
  obtain ⟨v, h1, hi, h2⟩ := s.slot (i := i) (by rw [h]; exact fun z => by cases z)
  rw [h] at h2
  obtain ⟨a, rfl, h3, h4⟩ := h2
  exact ⟨a, h1, hi, h3, h4⟩
theorem SR.mut {i : Nat} {a : Addr} {d : D} {u o : HO} (s : SR Z w H σ e) (hi : i < e.s.length) (hv : σ[i]? = some (some (.ref a))) (ha : w a = some (.slot i)) (hu : H a = some u) (du : isData u) (tp : Top Z w (upd H a o) a d) :
    SR Z w (upd H a o) σ { e with s := e.s.set i (.own d) } := by
  have na : w a ≠ none := by rw [ha]; exact fun z => by cases z
  refine ⟨by rw [List.length_set]; exact s.len, fun j hj => ?_, dom_upd s.dom, ntab s.tab hu du, s.uw⟩
  rw [List.length_set] at hj
  by_cases hji : j = i
  · subst hji
    have e2 : σ.getD j none = some (.ref a) := by rw [List.getD_eq_getElem?_getD, hv]; rfl
    rw [getD_set_self hj, e2]
    exact ⟨a, rfl, ha, tp⟩
  · rw [getD_set_ne hji]
    refine (s.sl j hj).up (stay_mut na) fun b hb => ⟨rfl, fun v _ h => ?_⟩
    rw [upd_ne (fun z => by
      rw [z, ha] at hb
      rcases hb with q | q
      · cases q; exact hji rfl
      · cases q)]
    exact h
theorem SR.mutW {a : Addr} {l : List D} {u o : HO} (s : SR Z w H σ e) (ha : w a = some .well) (hu : H a = some u) (du : isData u) (tp : Top Z w (upd H a o) a (.lst l)) : SR Z w (upd H a o) σ { e with w := l } := by
  have na : w a ≠ none := by rw [ha]; exact fun z => by cases z
  refine ⟨s.len, fun j hj => ?_, dom_upd s.dom, ntab s.tab hu du, s.uw⟩
  have q := s.sl j hj
  show SlR Z w (upd H a o) l j _ (e.s.getD j .un)
  cases hx : σ.getD j none with
  | none => rw [hx] at q; cases hs : e.s.getD j .un <;> rw [hs] at q <;> first | trivial | exact q.elim
  | some v =>
    rw [hx] at q
    cases hs : e.s.getD j .un <;> rw [hs] at q
    · trivial
    · exact R.stay (stay_mut na) q
    · obtain ⟨b, rfl, g1, g2⟩ := q
      have n : b ≠ a := fun z => by rw [z, ha] at g1; cases g1
      exact ⟨b, rfl, g1, g2.stay (stay_mut na) fun v _ h => by rw [upd_ne n]; exact h⟩
    · obtain ⟨b, rfl, g1, g2⟩ := q
      have n : b = a := s.uw b a g1 ha
      subst n
      exact ⟨b, rfl, g1, tp⟩
end
theorem noswap_sub {v o i : Expr} {p : Pos} {l : Nat} {env : Env} : swapsWith v (some (.Subscript o i p)) l env = pure false := by cases v <;> rfl
theorem noswap_stores {v o i : Expr} {p : Pos} {env : Env} : swappedStores [.Subscript o i p] v env = pure none := by cases v <;> rfl
def notCall0 : Expr → Bool
  | .Call _ [] [] _ => false
  | _ => true
theorem plain_base {o : Expr} {nm : Str} {env : Env} {t : Sem Value} (h : notCall0 o = true) : attributeBase o nm env t = t := by
  cases o <;> try rfl
  rename_i f as ks p
  cases as <;> cases ks <;> first | (cases f <;> rfl) | cases h
section
variable {X : Cx} {C : Cn} {a b c : Ex} {i j k : Nat} {ea eb ei : Expr} {x y z : Str} {p p1 p2 p3 pos apos cpos : Pos}
theorem pd_putd (hu : X.A.units + 1 < cLine) (hx : PE X (.Name x p) (tVar i)) (hi : PE X ei (tD C b)) (ha : PE X ea (tD C a)) : PS X (.Assign [.Subscript (.Name x p) ei p1] ea pos) (tS C (.putd i b a)) := by
  refine PS.imp (ps_dput hu hx hi ha noswap_sub) fun D σ H ⟨w, e, s, h⟩ => ?_
  unfold PS1 at h; rw [exec] at h
  refine opv C s (Pb.mono h.bind (fun _ _ z => z) fun ⟨v, e1⟩ h1 xv w1 H1 y1 s1 r1 => ?_)
  obtain ⟨d0, v0, _, hv0, _, h1⟩ := Pb.pk s1 h1
  refine ⟨v0, hv0, opv C s1 (Pb.mono h1.bind (fun _ _ z => z.ext y1) fun ⟨kv, e2⟩ h2 yv w2 H2 y2 s2 r2 => ?_)⟩
  dsimp only at h2
  split at h2
  · rename_i d hd
    obtain ⟨ad, hσ, hil, hw, tp⟩ := s2.own_slot hd
    rw [hv0] at hσ
    cases hσ
    obtain ⟨d', hput, h2⟩ := Pb.of (Pb.bind h2)
    have na : w2 ad ≠ none := by rw [hw]; exact fun z => by cases z
    have nf : w2 ad ≠ some .far := by rw [hw]; exact fun z => by cases z
    have r1' := R.stay y2.stay r1
    unfold putD at hput
    split at hput
    · split at hput
      · rename_i l hl
        obtain ⟨key, hkey, rfl⟩ := Option.map_eq_some_iff.mp hput
        obtain ⟨kvs, hH, rk⟩ := tp
        refine ⟨ad, _, rfl, .inl ⟨kvs, key, hH, R.key (R.br r2) hkey, by rw [rk.length, ← lim_eq]; exact hl, rfl⟩, ?_⟩
        exact h2 σ w2 _ ((y1.trans y2).trans (ext_mut na nf)) (s2.mut hil hv0 hw hH trivial ⟨_, upd_same, (rk.put r1').stay (stay_mut na)⟩)
      · cases hput
    · split at hput
      · rename_i l hl
        obtain ⟨key, hkey, rfl⟩ := Option.map_eq_some_iff.mp hput
        obtain ⟨kvs, hH, rk⟩ := tp
        obtain ⟨bb, rfl, hb⟩ := (R.br r2).tkey hkey
        refine ⟨ad, _, rfl, .inr ⟨kvs, key, bb, hH, rfl, hb, by rw [rk.length, ← lim_eq]; exact hl, rfl⟩, ?_⟩
        exact h2 σ w2 _ ((y1.trans y2).trans (ext_mut na nf)) (s2.mut hil hv0 hw hH trivial ⟨_, upd_same, (rk.put r1').stay (stay_mut na)⟩)
      · cases hput
    · cases hput
  · exact h2.elim
theorem pd_store (hx : PE X (.Name x p) (tVar i)) (hi : PE X ei (tD C b)) (ha : PE X ea (tD C a)) (hns : notSlice ei = true) : PS X (.Assign [.Subscript (.Name x p) ei p1] ea pos) (tS C (.store i b a)) := by
  refine PS.imp (ps_asg ha (pg_sub hx hi set_list (by intro v; cases ei <;> first | rfl | cases hns)) (by show swapsWith ea (some (.Subscript (.Name x p) ei p1)) pos.line X.env = pure false; exact noswap_sub) noswap_stores (by rfl)) fun D σ H ⟨w, e, s, h⟩ => ?_
  unfold PS1 at h; rw [exec] at h
  refine opv C s (Pb.mono h.bind (fun _ _ z => z) fun ⟨v, e1⟩ h1 xv w1 H1 y1 s1 r1 => ?_)
  obtain ⟨d0, v0, _, hv0, _, h1⟩ := Pb.pk s1 h1
  refine ⟨v0, hv0, opv C s1 (Pb.mono h1.bind (fun _ _ z => z.ext y1) fun ⟨kv, e2⟩ h2 yv w2 H2 y2 s2 r2 => ?_)⟩
  have r1' := R.stay y2.stay r1
  dsimp only at h2
  split at h2
  · rename_i d hd
    obtain ⟨ad, hσ, hil, hw, tp⟩ := s2.own_slot hd
    rw [hv0] at hσ
    cases hσ
    obtain ⟨d', hput, h2⟩ := Pb.of (Pb.bind h2)
    have na : w2 ad ≠ none := by rw [hw]; exact fun z => by cases z
    have nf : w2 ad ≠ some .far := by rw [hw]; exact fun z => by cases z
    unfold storeD at hput
    split at hput
    · rename_i l
      obtain ⟨m, hm, hput⟩ := Option.bind_eq_some_iff.mp hput
      obtain ⟨n, hn, rfl⟩ := Option.map_eq_some_iff.mp hput
      obtain ⟨vs, hH, rs⟩ := tp
      rw [intD_inv hm] at r2
      refine ⟨ad, vs, m, n, rfl, (R.br r2).int, hH, by rw [rs.length]; exact hn, ?_⟩
      exact h2 σ w2 _ ((y1.trans y2).trans (ext_mut na nf)) (s2.mut hil hv0 hw hH trivial ⟨_, upd_same, (rs.set r1' n).stay (stay_mut na)⟩)
    · cases hput
  · rename_i hd
    obtain ⟨v, h3, _, h4⟩ := s2.slot (i := i) (by rw [hd]; exact fun z => by cases z)
    rw [hd] at h4
    obtain ⟨ad, rfl, hw, tp⟩ := h4
    rw [hv0] at h3
    cases h3
    obtain ⟨d', hput, h2⟩ := Pb.of (Pb.bind h2)
    have na : w2 ad ≠ none := by rw [hw]; exact fun z => by cases z
    have nf : w2 ad ≠ some .far := by rw [hw]; exact fun z => by cases z
    unfold storeD at hput
    dsimp only at hput
    obtain ⟨m, hm, hput⟩ := Option.bind_eq_some_iff.mp hput
    obtain ⟨n, hn, rfl⟩ := Option.map_eq_some_iff.mp hput
    obtain ⟨vs, hH, rs⟩ := tp
    rw [intD_inv hm] at r2
    refine ⟨ad, vs, m, n, rfl, (R.br r2).int, hH, by rw [rs.length]; exact hn, ?_⟩
    exact h2 σ w2 _ ((y1.trans y2).trans (ext_mut na nf)) (s2.mutW hw hH trivial ⟨_, upd_same, (rs.set r1' n).stay (stay_mut na)⟩)
  · exact h2.elim
theorem few_one {e : Expr} {env : Env} {pos : Pos} (h : notStar e = true) : ((backTo pos (starEach [e] env)).all (fun x => !x.1) && (backToKw pos (keywordEach [] env)).all (fun x => x.1.isSome)
      && decide (([e] : List Expr).length + ([] : List Keyword).length + (if ([] : List Keyword).isEmpty then 0 else 1) < 30)) = true := by
  rw [star_cons h]; rfl
theorem pd_append (hx : PE X (.Name x p) (tVar i)) (ha : PE X ea (tD C a)) (hn : notStar ea = true) (hl : (apos.endLine == cpos.line) = true) : PS X (.Expr (.Call (.Attribute (.Name x p) "append" apos) [ea] [] cpos) pos) (tS C (.append i a)) := by
  refine PS.imp (ps_expr (pe_bm (T := "list") (id := "list.append") F.plainAttrs_list F.slot_list_append F.type_list_append mt_append hx (pa_cons ha pa_nil (star_cons hn)) (plain_base rfl) (few_one hn) hl (star_cons hn) rfl) rfl) fun D σ H ⟨w, e, s, h⟩ => ?_
  unfold PS1 at h; rw [exec] at h
  obtain ⟨d0, v0, _, hv0, b0, h⟩ := Pb.pk s h
  split at h
  · rename_i l0
    obtain ⟨ad, vs0, rfl, hH0, _⟩ := b0.lst
    refine ⟨_, hv0, .inl ⟨rfl, vs0, SqL.of hH0⟩, opv C s (Pb.mono h.bind (fun _ _ z => z) fun ⟨v, e1⟩ h1 xv w1 H1 y1 s1 r1 => ?_)⟩
    dsimp only at h1
    split at h1
    · rename_i l hd
      obtain ⟨ad', hσ, hil, hw, tp⟩ := s1.own_slot hd
      rw [hv0] at hσ
      cases hσ
      have na : w1 ad ≠ none := by rw [hw]; exact fun z => by cases z
      have nf : w1 ad ≠ some .far := by rw [hw]; exact fun z => by cases z
      split at h1
      · rename_i hlt
        obtain ⟨vs, hH, rs⟩ := tp
        refine ⟨ad, vs, xv, rfl, rfl, hH, by rw [rs.length, ← lim_eq]; exact hlt, ?_⟩
        exact h1 σ w1 _ (y1.trans (ext_mut na nf)) (s1.mut hil hv0 hw hH trivial ⟨_, upd_same, (rs.snoc r1).stay (stay_mut na)⟩)
      · exact h1.elim
    · exact h1.elim
  · exact h.elim
theorem pd_extend (hx : PE X (.Name x p) (tVar i)) (ha : PE X ea (tD C a)) (hn : notStar ea = true) (hl : (apos.endLine == cpos.line) = true) : PS X (.Expr (.Call (.Attribute (.Name x p) "extend" apos) [ea] [] cpos) pos) (tS C (.extend i a)) := by
  refine PS.imp (ps_expr (pe_bm (T := "list") (id := "list.extend") F.plainAttrs_list F.slot_list_extend F.type_list_extend mt_extend hx (pa_cons ha pa_nil (star_cons hn)) (plain_base rfl) (few_one hn) hl (star_cons hn) rfl) rfl) fun D σ H ⟨w, e, s, h⟩ => ?_
  unfold PS1 at h; rw [exec] at h
  obtain ⟨d0, v0, _, hv0, b0, h⟩ := Pb.pk s h
  split at h
  · rename_i l0
    obtain ⟨ad, vs0, rfl, hH0, _⟩ := b0.lst
    refine ⟨_, hv0, .inl ⟨rfl, vs0, SqL.of hH0⟩, opv C s (Pb.mono h.bind (fun _ _ z => z) fun ⟨v, e1⟩ h1 xv w1 H1 y1 s1 r1 => ?_)⟩
    dsimp only at h1
    split at h1
    · rename_i l m hd hm
      obtain ⟨ad', hσ, hil, hw, tp⟩ := s1.own_slot hd
      rw [hv0] at hσ
      cases hσ
      have na : w1 ad ≠ none := by rw [hw]; exact fun z => by cases z
      have nf : w1 ad ≠ some .far := by rw [hw]; exact fun z => by cases z
      split at h1
      · rename_i hlt
        obtain ⟨vs, hH, rs⟩ := tp
        rw [hm] at r1
        obtain ⟨bd, us, rfl, hb, rsb⟩ := (R.br r1).lst
        refine ⟨ad, bd, vs, us, rfl, rfl, hH, hb, by rw [rs.length, rsb.length, ← lim_eq]; exact hlt, ?_⟩
        exact h1 σ w1 _ (y1.trans (ext_mut na nf)) (s1.mut hil hv0 hw hH trivial ⟨_, upd_same, (rs.append rsb).stay (stay_mut na)⟩)
      · exact h1.elim
    · exact h1.elim
  · exact h.elim
/-! ### two or three names stored at once -/
theorem st_ok {e : En} {i : Nat} {v : Vl} {A : Type} {Xx : Nat → D → Prop} {f : En → Out A} {k : A → Prop} (h : Pb Xx ((e.st i v).bind f) k) : ∃ e', e.st i v = .ok e' ∧ Pb Xx (f e') k := by
  cases he : e.st i v with
  | ok e' => rw [he] at h; exact ⟨e', rfl, h⟩
  | exc c p =>
    unfold En.st at he
    split at he <;> cases he
  | bad => rw [he] at h; exact h.elim
theorem pd_par {kt k2 : Nat} {pt pt2 : Pos} (hc : X.calm = true) (hN : X.N.Nodup) (hi : X.N[i]? = some x) (hj : X.N[j]? = some y) (hij : i ≠ j) (hx : X.env.scope.names.lookup x = some .local) (hy : X.env.scope.names.lookup y = some .local)
    (ha : PA X [ea, eb] (tA C (.cons a (.cons b .nil)))) (hw : swappedStores [.Tuple [.Name x p1, .Name y p2] kt pt] (.Tuple [ea, eb] k2 pt2) X.env = pure (some [x, y])) :
    PS X (.Assign [.Tuple [.Name x p1, .Name y p2] kt pt] (.Tuple [ea, eb] k2 pt2) pos) (tS C (.par i j a b)) := by
  refine PS.imp (ps_par hc hN hi hj hij hx hy ha hw rfl) fun D σ H ⟨w, e, s, h⟩ => ?_
  unfold PS1 at h; rw [exec] at h
  refine ta_two s (Pb.mono h.two (fun _ _ z => z) fun ⟨v, e1⟩ h1 => Pb.mono h1 (fun _ _ z => z) fun ⟨u, e2⟩ h2 xv yv w1 H1 y1 s1 r1 r2 => ?_)
  obtain ⟨e3, he3, h2⟩ := st_ok h2
  obtain ⟨e4, he4, h2⟩ := st_ok h2
  obtain ⟨w2, y2, s2⟩ := s1.st (x := .fro v.d) r1 he3
  obtain ⟨w3, y3, s3⟩ := s2.st (x := .fro u.d) (R.stay y2.stay r2) he4
  exact ⟨xv, yv, rfl, h2 _ w3 H1 ((y1.trans y2).trans y3) s3⟩
end
end Pk

end
section
/-! Pk16: dicts walked; sums of a dict's values. -/
namespace Pk
open PySem PySem.Spec PyProof.Rows L2
open LamX (Tabs TabS ExtN CodeO)
theorem PE.or {X : Cx} {e : Expr} {t t' : TE} (h : PE X e t) (h' : PE X e t') : PE X e fun σ H Q => t σ H Q ∨ t' σ H Q := ⟨fun pins s σ H Q I hw => hw.elim (h.run pins s σ H Q I) (h'.run pins s σ H Q I)⟩
theorem PS.or {X : Cx} {e : Stmt} {t t' : TS} (h : PS X e t) (h' : PS X e t') : PS X e fun D σ H => t D σ H ∨ t' D σ H := ⟨fun pins s σ H D I hw => hw.elim (h.run pins s σ H D I) (h'.run pins s σ H D I)⟩
section
variable {Z : Pm} {w w' : Own} {H H' : Hp} {σ : L2.St} {e : En} {d : Addr} {od : Obj} {kvs : List (Key × V)} {l : List (Key × D)}
theorem Rk.get : ∀ {vs : List (Key × V)} {l : List (Key × D)} {i : Nat} {k : Key} {d : D}, Rk Z w H vs l → l[i]? = some (k, d) → ∃ v, vs[i]? = some (k, v) ∧ R Z w H v d
  | _, _, _, _, _, .nil, e => by simp at e
  | _, _, 0, _, _, .cons r _, e => by simp at e; obtain ⟨rfl, rfl⟩ := e; exact ⟨_, rfl, r⟩
  | _, _, i + 1, k, d, .cons _ q, e => by
    obtain ⟨v, h1, h2⟩ := q.get (i := i) (k := k) (d := d) (by simpa using e)
    exact ⟨v, by simpa using h1, h2⟩
theorem key_R {k : Key} : R Z w H (kV k) (keyV k) := by
  cases k with
  | inl i => exact .int i
  | inr x => exact .str x
theorem wk_items (hw : w d = none) (hd : H d = some (.frz od (.dK kvs))) (q : Rk Z w H kvs l) : Wk Z w H (Iti d od kvs) (l.map fun p => .tup [keyV p.1, p.2]) where
  go := fun w' H' x dm i dd hdd => by
    rw [List.getElem?_map] at hdd
    obtain ⟨⟨k, d2⟩, hp, rfl⟩ := Option.map_eq_some_iff.mp hdd
    obtain ⟨v, hv, _⟩ := q.get hp
    refine ⟨⟨x.st d _ (fun ps z => by cases z) hd hw, getElem?_lt hv⟩, fun y H'' yy => ?_⟩
    obtain ⟨T, k', v', hv', rfl, hT, rfl⟩ := yy
    rw [hv] at hv'
    cases hv'
    obtain ⟨v2, hv2, r2⟩ := (q.stay x.stay).get hp
    rw [hv] at hv2
    cases hv2
    exact ⟨.inr ⟨T, _, hT, rfl⟩, .tup (dm.none hT) upd_same (.cons key_R (.cons (R.stay (stay_upd hT) r2) .nil))⟩
  stop := fun w' H' x i hi => ⟨x.st d _ (fun ps z => by cases z) hd hw, by rw [q.length]; simpa using hi⟩
theorem wk_keys (hw : w d = none) (hd : H d = some (.frz od (.dK kvs))) (q : Rk Z w H kvs l) : Wk Z w H (Itk d od kvs) (l.map fun p => keyV p.1) where
  go := fun w' H' x dm i dd hdd => by
    rw [List.getElem?_map] at hdd
    obtain ⟨⟨k, d2⟩, hp, rfl⟩ := Option.map_eq_some_iff.mp hdd
    obtain ⟨v, hv, _⟩ := q.get hp
    refine ⟨⟨x.st d _ (fun ps z => by cases z) hd hw, getElem?_lt hv⟩, fun y H'' yy => ?_⟩
    obtain ⟨rfl, k', v', hv', rfl⟩ := yy
    rw [hv] at hv'
    cases hv'
    exact ⟨.inl rfl, key_R⟩
  stop := fun w' H' x i hi => ⟨x.st d _ (fun ps z => by cases z) hd hw, by rw [q.length]; simpa using hi⟩
/-! ### a dict locked -/
theorem stay_lock (hd : H d = some (.dK kvs)) : Stay w H w (upd H d (.frz od (.dK kvs))) := by
  refine ⟨fun a u hu _ r => ?_, fun a u hu _ r => ?_, fun _ _ h _ => h⟩
  · rw [upd_ne (fun z => by rw [z, hd] at r; cases r; exact hu)]; exact r
  · by_cases z : a = d
    · subst z
      rcases r with r | ⟨ob, r⟩
      · rw [hd] at r; cases r
        exact .inr ⟨od, upd_same⟩
      · rw [hd] at r; cases r
    · rcases r with r | ⟨ob, r⟩
      · exact .inl (by rw [upd_ne z]; exact r)
      · exact .inr ⟨ob, by rw [upd_ne z]; exact r⟩
theorem sr_lock (s : SR Z w H σ e) (hw : w d = none) (hd : H d = some (.dK kvs)) : SR Z w (upd H d (.frz od (.dK kvs))) σ e := by
  refine s.up (stay_lock hd) (fun a ha => ⟨rfl, fun u _ h => ?_⟩) (dom_upd s.dom) (ntab s.tab hd trivial) fun _ h => h
  rw [upd_ne (fun z => by
    rw [z, hw] at ha
    rcases ha with ⟨_, q⟩ | q <;> cases q)]
  exact h
theorem ext_unlock (hw : w d = none) (hd : H d = some (.dK kvs)) (x : Ext w (upd H d (.frz od (.dK kvs))) w' H') : H' d = some (.frz od (.dK kvs)) ∧ Ext w H w' (upd H' d (.dK kvs)) := by
  have e1 : H' d = some (.frz od (.dK kvs)) := x.st d _ (fun ps z => by cases z) upd_same (.inl hw)
  have ne : ∀ a, H a ≠ none → (upd H d (.frz od (.dK kvs))) a ≠ none := fun a h => by
    by_cases z : a = d
    · rw [z, upd_same]; exact fun z => by cases z
    · rw [upd_ne z]; exact h
  refine ⟨e1, fun a u nu h ho => ?_, fun a h => ?_, fun a h => x.ow a (ne a h), x.fr, x.wl⟩
  · by_cases z : a = d
    · rw [z] at h ⊢
      rw [hd] at h
      rw [upd_same]
      exact h
    · rw [upd_ne z]
      exact x.st a u nu (by rw [upd_ne z]; exact h) ho
  · by_cases z : a = d
    · rw [z, upd_same]; exact fun z => by cases z
    · rw [upd_ne z]
      exact x.th a (ne a h)
theorem stay_unlock (hd : H d = some (.frz od (.dK kvs))) : Stay w H w (upd H d (.dK kvs)) := by
  refine ⟨fun a u hu _ r => ?_, fun a u hu _ r => ?_, fun _ _ h _ => h⟩
  · rw [upd_ne (fun z => by rw [z, hd] at r; cases r; exact hu)]; exact r
  · by_cases z : a = d
    · subst z
      rcases r with r | ⟨ob, r⟩
      · rw [hd] at r; cases r; exact hu.elim
      · rw [hd] at r; cases r
        exact .inl upd_same
    · rcases r with r | ⟨ob, r⟩
      · exact .inl (by rw [upd_ne z]; exact r)
      · exact .inr ⟨ob, by rw [upd_ne z]; exact r⟩
theorem tabs_unlock {T : List (Addr × Str)} {p : Addr} {o u : HO} (t : Tabs T H) (hp : H p = some (.frz od u)) : Tabs T (upd H p o) := fun q hq => by
  obtain ⟨ps, h1, h2, h3⟩ := t q hq
  have n1 : q.1 ≠ p := fun z => by rw [z, hp] at h1; cases h1
  refine ⟨ps, by rw [upd_ne n1]; exact h1, h2, fun pos cv hc' => ?_⟩
  obtain ⟨c, e1, e2⟩ := h3 pos cv hc'
  refine ⟨c, e1, ?_⟩
  rw [upd_ne]
  · exact e2
  · rintro rfl
    rw [hp] at e2
    cases e2
theorem sr_unlock (s : SR Z w H σ e) (hd : H d = some (.frz od (.dK kvs))) : SR Z w (upd H d (.dK kvs)) σ e := by
  refine s.up (stay_unlock hd) (fun a ha => ⟨rfl, fun u hu h => ?_⟩) (dom_upd s.dom) (tabs_unlock s.tab hd) fun _ h => h
  rw [upd_ne (fun z => by rw [z, hd] at h; cases h; exact hu)]
  exact h
theorem vr_unlock {v : V} {x : Vl} (r : VR Z w H v x) (hd : H d = some (.frz od (.dK kvs))) : VR Z w (upd H d (.dK kvs)) v x := by
  cases x with
  | fro b => exact R.stay (stay_unlock hd) r
  | own b =>
    obtain ⟨a, rfl, h1, h2⟩ := r
    refine ⟨a, rfl, h1, h2.stay (stay_unlock hd) fun u hu h => ?_⟩
    rw [upd_ne (fun z => by rw [z, hd] at h; cases h; exact hu)]
    exact h
/-- a name's dict: free to be locked, or locked already -/
theorem R.dict {v : V} {l : List (Key × D)} (r : R Z w H v (.dk l)) : ∃ a kvs, v = .ref a ∧ w a = none ∧ Rk Z w H kvs l ∧ (H a = some (.dK kvs) ∨ ∃ od, H a = some (.frz od (.dK kvs))) := by
  cases r with
  | dk h1 h2 h3 => exact ⟨_, _, rfl, h1, h3, h2⟩
end
theorem itemsD_inv {d : D} {l : List D} (h : itemsD d = some l) : ∃ m, d = .dk m ∧ l = m.map fun p => .tup [keyV p.1, p.2] := by
  unfold itemsD at h
  split at h
  · cases h; exact ⟨_, rfl, rfl⟩
  · cases h
theorem keysOf_inv {d : D} {l : List D} (h : keysOf d = some l) : ∃ m, d = .dk m ∧ l = m.map fun p => keyV p.1 := by
  unfold keysOf at h
  split at h
  · cases h; exact ⟨_, rfl, rfl⟩
  · cases h
def itK (kd : Bool) (d : Addr) (od : Obj) (kvs : List (Key × V)) : L2.It := match kd with
  | true => Iti d od kvs
  | false => Itk d od kvs
def itL (kd : Bool) (m : List (Key × D)) : List D := match kd with
  | true => m.map fun p => .tup [keyV p.1, p.2]
  | false => m.map fun p => keyV p.1
def iDict (kd : Bool) (i : Nat) : TI := fun σ H K => ∃ d od kvs, σ[i]? = some (some (.ref d)) ∧ H d = some (.frz od (.dK kvs)) ∧ K (itK kd d od kvs) H
theorem wk_dict {Z : Pm} {w : Own} {H : Hp} {kd : Bool} {d : Addr} {od : Obj} {kvs : List (Key × V)} {l : List (Key × D)} (hw : w d = none) (hd : H d = some (.frz od (.dK kvs))) (q : Rk Z w H kvs l) : Wk Z w H (itK kd d od kvs) (itL kd l) := by
  cases kd with
  | true => exact wk_items hw hd q
  | false => exact wk_keys hw hd q
theorem dict_iter {kd : Bool} {d : D} {l : List D} (h : (if kd then itemsD d else keysOf d) = some l) : ∃ m, d = .dk m ∧ l = itL kd m := by
  cases kd with
  | true => exact itemsD_inv h
  | false => exact keysOf_inv h
section
variable {X : Cx} {C : Cn} {tgE : Expr} {x : Str} {i : Nat} {p apos cpos : Pos}
theorem pi_ditems {elts : List Expr} {kk : Nat} {tpos : Pos} (hx : PE X (.Name x p) (tVar i)) (hl : (apos.endLine == cpos.line) = true) : PI X (.Tuple elts kk tpos) (.Call (.Attribute (.Name x p) "items" apos) [] [] cpos) (iDict true i) :=
  PI.imp (pi_items hx (plain_base rfl) hl) fun σ H K ⟨d, od, kvs, h1, h2, h3⟩ => ⟨_, h1, d, od, kvs, rfl, h2, h3⟩
theorem pi_dkeys (hx : PE X (.Name x p) (tVar i)) : PI X tgE (.Name x p) (iDict false i) :=
  PI.imp (pi_keys hx) fun σ H K ⟨d, od, kvs, h1, h2, h3⟩ => ⟨_, h1, d, od, rfl, .inl ⟨kvs, h2, h3⟩⟩
end
section
variable {C : Cn} {elt : Ex} {own : List Nat} {tg : Tg} {kd : Bool} {c : Eo} {i : Nat} {σ : L2.St} {H : Hp} {Q : VK}
theorem lci_sound (hsub : ∀ j ∈ tg.ix, j ∈ own) (h : tD C (.lci elt own tg kd i c) σ H Q) : tLc (iDict kd i) (tG C tg) (tY C.z c) (tD C.z elt) own σ H Q ∨ tLockE (tLc (iDict kd i) (tG C tg) (tY C.z c) (tD C.z elt) own) σ H Q := by
  obtain ⟨w, e, s, h⟩ := h
  unfold PE1 at h; rw [den] at h
  obtain ⟨v, e1, x, w1, hx, y1, s1, r1, h1⟩ := Pb.rd s h
  dsimp only at h1
  obtain ⟨l, hl, h1⟩ := Pb.of (Pb.bind h1)
  obtain ⟨m, hm, rfl⟩ := dict_iter hl
  by_cases hh : hidS own e1.s = true
  · rw [if_pos hh] at h1
    have h2 := lc_end (g := fun p => { p.2 with s := backS own e1.s p.2.s }) h1
    rw [hm] at r1
    obtain ⟨d, kvs, rfl, hw, rk, hd⟩ := r1.dict
    rcases hd with hd | ⟨od, hd⟩
    · refine .inr ⟨d, _, hd, trivial, fun od => ⟨d, od, kvs, hx, upd_same, ?_⟩⟩
      refine lc_core1 (Q := fun v H' => H' d = some (.frz od (.dK kvs)) ∧ Q v (upd H' d (.dK kvs))) hsub (sr_lock (od := od) s1 hw hd) (wk_dict hw upd_same (rk.stay (stay_lock hd))) hh (Pb.mono h2 (fun _ _ z => z) fun p z => ⟨z.1, fun v w' H' y s r => ?_⟩)
      obtain ⟨e1, y2⟩ := ext_unlock hw hd y
      exact ⟨e1, z.2 v w' _ (y1.trans y2) (sr_unlock s e1) (vr_unlock r e1)⟩
    · refine .inl ⟨d, od, kvs, hx, hd, ?_⟩
      exact lc_core1 hsub s1 (wk_dict hw hd rk) hh (Pb.mono h2 (fun _ _ z => z) fun p z => ⟨z.1, fun v w' H' y s r => z.2 v w' H' (y1.trans y) s r⟩)
  · rw [if_neg hh] at h1
    exact h1.elim
end
section
variable {X : Cx} {C : Cn} {elt : Ex} {tg : Tg} {kd : Bool} {c : Eo} {eelt etg eit : Expr} {ifs : List Expr} {scope : Scope} {own : List (Str × Nat)} {pos spos py : Pos} {i j : Nat} {y : Str} {b : Sms} {body : List Stmt}
theorem pd_lci (hc : X.calm = true) (hN : X.N.Nodup) (hi : PI X etg eit (iDict kd i)) (ok : BlkOk X.N X.env.scope scope own) (hsub : ∀ j ∈ tg.ix, j ∈ own.map (·.2))
    (hg : ∀ s H a cl fp, PG (Blk X scope s H a cl fp) etg (tG C tg)) (ht : ∀ s H a cl fp, PTs (Blk X scope s H a cl fp) ifs (tY C.z c)) (he : ∀ s H a cl fp, PE (Blk X scope s H a cl fp) eelt (tD C.z elt)) (hs : ∀ x, foldedSetIterable eit X.env x = pure x) :
    PE X (.ListComp eelt [⟨etg, eit, ifs, 0⟩] scope pos) (tD C (.lci elt (own.map (·.2)) tg kd i c)) :=
  have P := pe_lc (pos := pos) hc hN hi ok hg ht he hs
  PE.imp (PE.or P (pe_lock P)) fun σ H Q h => lci_sound hsub h
theorem pd_setLci (hc : X.calm = true) (hN : X.N.Nodup) (hy : X.N[j]? = some y) (hyl : X.env.scope.names.lookup y = some .local) (hsw : swapsWith (.ListComp eelt [⟨etg, eit, ifs, 0⟩] scope pos) (some (.Name y py)) spos.line X.env = pure true)
    (hi : PI X etg eit (iDict kd i)) (ok : BlkOk X.N X.env.scope scope own) (hsub : ∀ j ∈ tg.ix, j ∈ own.map (·.2))
    (hg : ∀ s H a cl fp, PG (Blk X scope s H a cl fp) etg (tG C tg)) (ht : ∀ s H a cl fp, PTs (Blk X scope s H a cl fp) ifs (tY C.z c)) (he : ∀ s H a cl fp, PE (Blk X scope s H a cl fp) eelt (tD C.z elt)) (hs : ∀ x, foldedSetIterable eit X.env x = pure x) :
    PS X (.Assign [.Name y py] (.ListComp eelt [⟨etg, eit, ifs, 0⟩] scope pos) spos) (tS C (.set j (.lci elt (own.map (·.2)) tg kd i c))) := by
  have P := ps_setLc (py := py) (spos := spos) (pos := pos) hc hN hy hyl hsw hi ok hg ht he hs
  refine PS.imp (PS.or P (ps_lock P)) fun D σ H h => ?_
  have h2 := lci_sound hsub (set_read h)
  rcases h2 with h2 | h2
  · exact .inl h2
  · obtain ⟨d, u, h3, h4, h5⟩ := h2
    exact .inr ⟨d, u, h3, h4, fun od => h5 od⟩
/-- for a, b in d.items(), the dict a name's -/
theorem pd_fori (hp : PassesOwn (model X.prog X.w) X.A X.env X.xe) (hc : X.calm = true) (hi : PI X etg eit (iDict true i)) (hg : PG X etg (tG C tg)) (hb : PSs X body (tSs C.z b)) (hs : ∀ x, foldedSetIterable eit X.env x = pure x) : PS X (.For etg eit body [] pos) (tS C (.fori tg i b)) := by
  have P := ps_for (pos := pos) hp hc hi hg hb hs
  refine PS.imp (PS.or P (ps_lock P)) fun D σ H ⟨w, e, s, h⟩ => ?_
  unfold PS1 at h; rw [exec] at h
  obtain ⟨v, e1, x, w1, hx, y1, s1, r1, h1⟩ := Pb.rd s h
  dsimp only at h1
  obtain ⟨l, hl, h1⟩ := Pb.of (Pb.bind h1)
  obtain ⟨m, hm, rfl⟩ := itemsD_inv hl
  have h2 := Pb.noexc (Y := XF) h1
  rw [hm] at r1
  obtain ⟨d, kvs, rfl, hw, rk, hd⟩ := r1.dict
  rcases hd with hd | ⟨od, hd⟩
  · refine .inr ⟨d, _, hd, trivial, fun od => ⟨d, od, kvs, hx, upd_same, ?_⟩⟩
    refine for_core (C0 := C.z) rfl rfl rfl (sr_lock (od := od) s1 hw hd) (wk_dict (kd := true) hw upd_same (rk.stay (stay_lock hd))) ?_
    refine Pb.any (Pb.mono h2 (fun _ _ z => z) fun ⟨f, e2⟩ z => ?_)
    cases f with
    | nx =>
      intro σ' w' H' y s
      obtain ⟨e1, y2⟩ := ext_unlock hw hd y
      exact ⟨e1, z σ' w' _ (y1.trans y2) (sr_unlock s e1)⟩
    | bk =>
      intro σ' w' H' y s
      obtain ⟨e1, y2⟩ := ext_unlock hw hd y
      exact ⟨e1, z σ' w' _ (y1.trans y2) (sr_unlock s e1)⟩
    | rt v =>
      intro x σ' w' H' y s r
      obtain ⟨e1, y2⟩ := ext_unlock hw hd y
      exact ⟨e1, z x σ' w' _ (y1.trans y2) (sr_unlock s e1) (vr_unlock r e1)⟩
  · refine .inl ⟨d, od, kvs, hx, hd, ?_⟩
    refine for_core (C0 := C.z) rfl rfl rfl s1 (wk_dict (kd := true) hw hd rk) ?_
    refine Pb.any (Pb.mono h2 (fun _ _ z => z) fun ⟨f, e2⟩ z => ?_)
    cases f with
    | nx => exact fun σ' w' H' y s => z σ' w' H' (y1.trans y) s
    | bk => exact fun σ' w' H' y s => z σ' w' H' (y1.trans y) s
    | rt v => exact fun x σ' w' H' y s r => z x σ' w' H' (y1.trans y) s r
end
/-! ### sum(d.values()) -/
theorem sum_vals {prog : Program} {w : World} {A : Around} {E : Value → Shared → Prop} {s : Shared} {T : String} {r d : Addr} {n : Nat} {P : Nat → Value → Prop} {OK : Heap → Prop} {Q : Value → Shared → Prop} (K : PySem.W.KdlSrc prog w T r d n P OK) (hh : A.handled = none) (hok : OK s.heap) (val : Nat → Int) (hval : ∀ (i : Nat) (v : Value), P i v → ∃ t : Tok, v = Value.int (val i) t)
    (h : ∀ (h' : Heap) (tk : Nat) (t' : Tok), (∀ b o, s.heap.get? b = some o → h'.get? b = some o) → Q (.int (preSum val n) t') { s with heap := h', toks := tk }) :
    wpAny (model prog w) A (call (.builtin "sum") [.ref r]) Q E s := by
  refine call_sum_walkAnyS ?_
  obtain ⟨oI, St, hit, W, st⟩ := K.iter A.in1 s hh hok
  refine hit _ _ ⟨s.heap.objs.size, _, _, _, n, P, _, val, rfl, W.toS, st, fun b hb => ?_, hval, fun s' t' hm => ?_⟩
  · show b < (s.heap.push oI).objs.size
    rw [Heap.size_push]
    rcases List.mem_cons.mp hb with e | hb
    · rw [e]; exact Nat.lt_succ_self _
    · rw [List.mem_singleton.mp hb]; exact Nat.lt_succ_of_lt (K.there _ hok).2
  · have hk : ∀ b o, s.heap.get? b = some o → s'.heap.get? b = some o := fun b o e =>
      hm.heap b o (fun hI => absurd (Heap.lt_size e) (by rw [List.mem_singleton.mp hI]; exact Nat.lt_irrefl _)) (Heap.get?_push_of_some _ e)
    rw [Moved.eq_with hm]
    exact h s'.heap s'.toks t' hk
end Pk

end
section
/-! Pk17: backward slices; sums of a dict's values; tuple(range(n)). -/
namespace Pk
open PySem PySem.Spec PyProof.Rows L2
open LamX (Tabs TabS ExtN CodeO)
/-- how many items x[lo::-1] has: lo left out, or -2 -/
def bkN (b : Bool) (n : Nat) : Nat := if b then n - 1 else n
def bkI (b : Bool) : Option Int := if b then some (-2) else none
theorem adjust_back (b : Bool) (n : Nat) : Builtin.Slice.sliceAdjust (bkI b) none (-1) (n : Int) = (((bkN b n : Nat) : Int) - 1, -1) := by
  cases b with
  | false => rfl
  | true =>
    unfold Builtin.Slice.sliceAdjust bkI bkN
    have e : max ((-2 : Int) + n) (-1) = ((n - 1 : Nat) : Int) - 1 := by omega
    exact Prod.ext e rfl
theorem places_back (k : Nat) : Builtin.Slice.slicePlaces ((k : Int) - 1) (-1) (-1) = k := by
  unfold Builtin.Slice.slicePlaces
  rw [if_neg (by decide)]
  by_cases h : k = 0
  · subst h; rfl
  · rw [if_pos (by omega)]
    have e : ((k : Int) - 1 - -1 - 1) / - -1 = (k : Int) - 1 := by
      rw [show (- -1 : Int) = 1 from rfl, Int.ediv_one]; omega
    rw [e]
    omega
theorem filterMap_some {A B : Type} {f : A → Option B} {g : A → B} : ∀ {l : List A}, (∀ m ∈ l, f m = some (g m)) → l.filterMap f = l.map g
  | [], _ => rfl
  | a :: l, h => by rw [List.filterMap_cons, h a List.mem_cons_self, List.map_cons, filterMap_some fun m hm => h m (List.mem_cons_of_mem _ hm)]
theorem pick_back (xs : Array Value) (k : Nat) (hk : k ≤ xs.size) : ((List.range k).filterMap fun (m : Nat) => xs[((k : Int) - 1 + (m : Int) * (-1)).toNat]?).toArray = (xs.toList.take k).reverse.toArray := by
  have e : (List.range k).filterMap (fun (m : Nat) => xs[((k : Int) - 1 + (m : Int) * (-1)).toNat]?) = (xs.toList.take k).reverse := by
    have e1 : ∀ m ∈ List.range k, xs[((k : Int) - 1 + (m : Int) * (-1)).toNat]? = some ((xs.toList.take k).reverse.getD m .none) := fun m hm => by
      have hm := List.mem_range.mp hm
      have e2 : ((k : Int) - 1 + (m : Int) * (-1)).toNat = k - 1 - m := by omega
      rw [e2, List.getD_eq_getElem?_getD, List.getElem?_reverse (by rw [List.length_take, Array.length_toList]; omega), List.getElem?_take]
      have e3 : (xs.toList.take k).length - 1 - m = k - 1 - m := by rw [List.length_take, Array.length_toList]; omega
      rw [e3, if_pos (by omega), Array.getElem?_toList, Array.getElem?_eq_getElem (show k - 1 - m < xs.size by omega)]
      rfl
    rw [filterMap_some e1]
    have hl : (xs.toList.take k).reverse.length = k := by rw [List.length_reverse, List.length_take, Array.length_toList]; omega
    generalize (xs.toList.take k).reverse = l at hl ⊢
    rw [← hl]
    exact rg_vals l
  rw [e]
section
variable {prog : Program} {w : World} {A : Around} {E : Value → Shared → Prop} {s : Shared}
theorem sliceApplied_back {b : Bool} {sl : Addr} {vl vs : Value} {n : Nat} {Q : Int × Int × Nat → Shared → Prop} (hs : s.heap.IsSliceOf sl vl .none vs) (pl : IsPart vl (bkI b)) (ps : IsPart vs (some (-1)))
    (h : Q (((bkN b n : Nat) : Int) - 1, -1, bkN b n) s) : wpAny (model prog w) A (Builtin.Slice.sliceApplied (.ref sl) (pure (n : Int))) Q E s := by
  obtain ⟨os, hos, hcs, hds⟩ := id hs
  unfold Builtin.Slice.sliceApplied Builtin.Slice.sliceFields
  refine wpAny_bind (wpAny_bind (wpAny_field hos hds (x := vl) rfl (wpAny_bind (wpAny_field hos hds (x := .none) rfl (wpAny_bind (wpAny_field hos hds (x := vs) rfl (wpAny_pure ?_)))))))
  refine wpAny_bind (HT.slicePart_ ps ?_)
  show wpAny _ _ (if ((-1 : Int) == 0) = true then _ else _) _ _ s
  rw [if_neg (by decide)]
  refine wpAny_bind (HT.slicePart_ pl (wpAny_bind (slicePart_none (wpAny_bind (wpAny_pure ?_)))))
  show wpAny _ _ (match Builtin.Slice.sliceAdjust (bkI b) none (-1) (n : Int) with | (lo, hi) => pure (lo, (-1 : Int), Builtin.Slice.slicePlaces lo hi (-1))) _ _ s
  rw [adjust_back b n]
  show wpAny _ _ (pure (((bkN b n : Nat) : Int) - 1, (-1 : Int), Builtin.Slice.slicePlaces (((bkN b n : Nat) : Int) - 1) (-1) (-1))) _ _ s
  rw [places_back]
  exact wpAny_pure h
theorem bkN_le (b : Bool) (n : Nat) : bkN b n ≤ n := by unfold bkN; split <;> omega
theorem getItem_tuple_back {b : Bool} {t sl : Addr} {items : Array Value} {vl vs : Value} {Q : Value → Shared → Prop} (ht : IsTup s.heap t items) (hs : s.heap.IsSliceOf sl vl .none vs) (pl : IsPart vl (bkI b)) (ps : IsPart vs (some (-1)))
    (h : Q (.ref s.heap.objs.size) { s with heap := s.heap.push { cls := .type "tuple", data := .seq (items.toList.take (bkN b items.size)).reverse.toArray } })
    (hsz : items.size ≤ sizeLine) : wpAny (model prog w) A (getItem (.ref t) (.ref sl)) Q E s := by
  have htake : sizeOk (.seq (items.toList.take (bkN b items.size)).reverse.toArray) := by
    show (items.toList.take (bkN b items.size)).reverse.toArray.size ≤ sizeLine
    rw [List.size_toArray, List.length_reverse, List.length_take, Array.length_toList]
    omega
  obtain ⟨os, hos, hcs, hds⟩ := id hs
  have hTs : s.TypeIs (.ref sl) "slice" := ⟨os, hos, hcs⟩
  unfold getItem
  try with_reducible refine wpAny_holding ?_
  first | refine wpAny_bind (wpAny_pure ?_) | skip
  refine wpAny_bind (wpAny_sequenceKey ht.typeIs (by decide) ?_)
  refine wpAny_bind (wpAny_callSpecial?_slot (name := Str.ofString "__getitem__") ht.typeIs PyProof.Rows.slot_tuple_getitem
    (wpAny_call_entry PyProof.Rows.slot_tuple_getitem ht.typeIs entry_tuple_getitem ?_ (args_tuple_getitem _ _)))
  show wpAny _ _ (Builtin.Tuple.tupleItemsOf (.ref t) >>= _) _ _ s
  refine wpAny_bind (tupleItemsOf_ ht ?_)
  refine wpAny_bind (wpAny_typeOf hTs ?_)
  rw [if_pos (by decide)]
  refine wpAny_bind (sliceApplied_back hs pl ps ?_)
  have hno : ¬ (((((bkN b items.size : Nat) : Int) - 1) == 0 && (-1 : Int) == 1 && bkN b items.size == items.size) = true) := by
    intro q
    rw [Bool.and_eq_true, Bool.and_eq_true] at q
    exact absurd (eq_of_beq q.1.2) (by decide)
  show wpAny _ _ (if ((((bkN b items.size : Nat) : Int) - 1) == 0 && (-1 : Int) == 1 && bkN b items.size == items.size) = true then _ else _) _ _ s
  rw [if_neg hno, pick_back _ _ (bkN_le b _)]
  first
    | exact wpAny_bind (m := Builtin.Tuple.tupleExact _) (wpAny_newObj_type (wpAny_pure ⟨_, rfl, wpAny_pure h⟩) htake)
    | exact wpAny_bind (m := Builtin.Tuple.tupleExact _) (wpAny_newObj_type (wpAny_bind (wpAny_pure (wpAny_pure ⟨_, rfl, wpAny_pure h⟩))) htake)
    | exact wpAny_bind (wpAny_bind (m := Builtin.Tuple.tupleExact _) (wpAny_newObj_type (wpAny_pure (wpAny_pure ⟨_, rfl, wpAny_pure h⟩)) htake))
    | exact wpAny_bind (wpAny_bind (m := Builtin.Tuple.tupleExact _) (wpAny_newObj_type (wpAny_pure ⟨_, rfl, wpAny_pure h⟩) htake))
end
def tBack (b : Bool) (te : TE) : TE := fun σ H Q => te σ H fun x H1 => ∃ a xs, x = .ref a ∧ ((H1 a = some (.tup xs) ∧ ∀ p, H1 p = none → Q (.ref p) (upd H1 p (.tup (xs.take (bkN b xs.length)).reverse))) ∨ (b = false ∧ H1 a = some (.lst xs) ∧ ∀ p, H1 p = none → Q (.ref p) (upd H1 p (.lst xs.reverse))))
def bkE (b : Bool) (k : Nat) (p1 p2 : Pos) : Option Expr := if b then some (.UnaryOp .USub (.Constant (.int 2) k p1) p2) else none
theorem po_bk {X : Cx} (b : Bool) (k : Nat) (p1 p2 : Pos) : PO X (bkE b k p1 p2) (fun σ H Q => Q (bkI b) H) := by
  cases b with
  | false => exact po_none
  | true =>
    have h : PO X (some (.UnaryOp .USub (.Constant (.int 2) k p1) p2)) (tPart (tUn (rU fun i => .int (-i)) (tC (.int 2)))) := po_some (pe_un un_neg pe_int)
    exact ⟨fun pins s σ H Q I hw => h.run pins s σ H Q I ⟨2, rfl, -2, rfl, hw⟩⟩
theorem pe_backT {X : Cx} {b : Bool} {e : Expr} {te : TE} {k k' : Nat} {p1 p2 p3 p4 p5 pos : Pos} (he : PE X e te) : PE X (.Subscript e (.Slice (bkE b k' p4 p5) none (some (.UnaryOp .USub (.Constant (.int 1) k p1) p2)) p3) pos) (tBack b te) := by
  refine ⟨fun pins s σ H Q I h => ?_⟩
  refine Subscript_ (thn (he.run pins s σ H _ I h) fun v s1 ⟨x, H1, I1, r1, q1⟩ => ?_)
  obtain ⟨a, xs, ex, q⟩ := q1
  subst ex
  cases r1
  have hst : PO X (some (.UnaryOp .USub (.Constant (.int 1) k p1) p2)) (tPart (tUn (rU fun i => .int (-i)) (tC (.int 1)))) := po_some (pe_un un_neg pe_int)
  refine wpAny_Slice (thn ((po_bk b k' p4 p5).run pins s1 σ H1 (fun o H2 => o = bkI b ∧ H2 = H1) I1 ⟨rfl, rfl⟩) fun vl s2 ⟨l, H2, I2, pl, el, e2⟩ => ?_)
  subst el e2
  refine thn (po_none.run pins s2 σ H2 (fun o H3 => o = none ∧ H3 = H2) I2 ⟨rfl, rfl⟩) fun vu s3 ⟨u, H3, I3, pu, eu, e3⟩ => ?_
  subst eu e3
  refine thn (hst.run pins s3 σ H3 (fun o H4 => o = some (-1) ∧ H4 = H3) I3 ⟨1, rfl, -1, rfl, rfl, rfl⟩) fun vs s4 ⟨o, H4, I4, ps, eo, e4⟩ => ?_
  subst eo e4
  cases pu
  have I5 : Inv X pins σ H4 { s4 with heap := s4.heap.push { cls := .type "slice", data := .fields #[vl, .none, vs] } } := I4.kept (t' := s4.toks) fun b ob q => Heap.get?_push_of_some _ q
  show wpAny (model X.prog X.w) X.A (subscriptTail e (.Slice (bkE b k' p4 p5) none (some (.UnaryOp .USub (.Constant (.int 1) k p1) p2)) p3) (.ref a) (.ref s4.heap.objs.size)) (EP X pins σ Q) X.xe { s4 with heap := s4.heap.push { cls := .type "slice", data := .fields #[vl, .none, vs] } }
  rcases q with ⟨hx, q⟩ | ⟨rfl, hx, q⟩
  · obtain ⟨its, r, ht, hz⟩ := I5.tuple (SqT.of hx)
    have hlen := r.length
    have hlen2 : its.toArray.size = xs.length := by rw [List.size_toArray]; exact hlen.symm
    refine tail_any (ops := [.ref a, .ref s4.heap.objs.size]) ht.typeIs (PyProof.Rows.slot_tuple_getitem.lookup) ?_ (by with_unfolding_all rfl)
    refine getItem_tuple_back (b := b) ht (Heap.IsSliceOf.new _ vl .none vs) pl ps ?_ (by rw [hlen2]; exact hz)
    rw [hlen2]
    refine ⟨.ref _, _, I5.laid (t' := s4.toks) (o := .tup (xs.take (bkN b xs.length)).reverse) (fun b ob q => Heap.get?_push_of_some _ q) (Nat.le_refl _) ?_, rfl, q _ (I5.hok.fresh (Nat.le_refl _))⟩
    exact ⟨by rw [List.length_reverse, List.length_take]; omega, _, (r.take (bkN b xs.length)).reverse, IsTup.new _ _⟩
  · obtain ⟨its, r, ht, hz⟩ := I5.list (SqL.of hx)
    have hlen := r.length
    refine tail_any (ops := [.ref a, .ref s4.heap.objs.size]) ht.isList.typeIs (PySem.slot_list_getitem.lookup) ?_ (by with_unfolding_all rfl)
    refine wpAny_getItem_list_slice ht.isList (Heap.IsSliceOf.new _ vl .none vs) (show IsPart vl none from pl) .none ps (by decide) ?_ (by rw [List.size_toArray]; omega)
    rw [PySem.W.krv_pick]
    refine ⟨.ref _, _, I5.laid (t' := s4.toks) (o := .lst xs.reverse) (fun b ob q => Heap.get?_push_of_some _ q) (Nat.le_refl _) ?_, rfl, q _ (I5.hok.fresh (Nat.le_refl _))⟩
    exact ⟨by rw [List.length_reverse]; exact hz, _, 0, r.reverse, Heap.get?_push_size _ rfl⟩
section
variable {X : Cx} {C : Cn} {a : Ex} {ea : Expr} {k k' : Nat} {p p1 p2 p3 p4 p5 pos apos cpos pos2 : Pos}
theorem pd_rev (ha : PE X ea (tO C a)) : PE X (.Subscript ea (.Slice none none (some (.UnaryOp .USub (.Constant (.int 1) k p1) p2)) p3) pos) (tD C (.rev a)) := by
  refine PE.imp (pe_backT (b := false) (k' := 0) (p4 := p1) (p5 := p1) ha) fun σ H Q ⟨w, e, s, h⟩ => ?_
  unfold PE1 at h; rw [den] at h
  refine opd C s (Pb.mono h.bind (fun _ _ z => z) fun ⟨oa, e1⟩ h1 x w1 H1 y1 s1 o1 => ?_)
  obtain ⟨da, ba, h1⟩ := Pb.fin o1 s1 h1
  split at h1
  · obtain ⟨ad, vs, rfl, hH, q⟩ := ba.lst
    exact ⟨ad, vs, rfl, .inr ⟨rfl, hH, Kont.lst (fun z w' H' y s' r' => h1 z w' H' (y1.trans y) s' r') s1 q.reverse⟩⟩
  · obtain ⟨ad, vs, rfl, _, hH, q⟩ := ba.tup
    refine ⟨ad, vs, rfl, .inl ⟨hH, ?_⟩⟩
    have e1 : vs.take (bkN false vs.length) = vs := List.take_length
    rw [e1]
    exact Kont.tup (fun z w' H' y s' r' => h1 z w' H' (y1.trans y) s' r') s1 q.reverse
  · exact h1.elim
theorem pd_revb (ha : PE X ea (tO C a)) : PE X (.Subscript ea (.Slice (some (.UnaryOp .USub (.Constant (.int 2) k' p4) p5)) none (some (.UnaryOp .USub (.Constant (.int 1) k p1) p2)) p3) pos) (tD C (.revb a)) := by
  refine PE.imp (pe_backT (b := true) (k' := k') (p4 := p4) (p5 := p5) ha) fun σ H Q ⟨w, e, s, h⟩ => ?_
  unfold PE1 at h; rw [den] at h
  refine opd C s (Pb.mono h.bind (fun _ _ z => z) fun ⟨oa, e1⟩ h1 x w1 H1 y1 s1 o1 => ?_)
  obtain ⟨da, ba, h1⟩ := Pb.fin o1 s1 h1
  split at h1
  · obtain ⟨ad, vs, rfl, _, hH, q⟩ := ba.tup
    refine ⟨ad, vs, rfl, .inl ⟨hH, ?_⟩⟩
    have e1 : vs.take (bkN true vs.length) = vs.take (vs.length - 1) := rfl
    rw [e1, q.length]
    exact Kont.tup (fun z w' H' y s' r' => h1 z w' H' (y1.trans y) s' r') s1 (q.take _).reverse
  · exact h1.elim
/-! ### tuple(range(n)) -/
theorem rgV_rs {Z : Pm} {w : Own} {H : Hp} (lo hi : Int) : Rs Z w H (rgV lo hi) ((List.range (hi - lo).toNat).map fun (i : Nat) => .int (lo + (i : Int))) := by
  unfold rgV
  generalize List.range (hi - lo).toNat = l
  induction l with
  | nil => exact .nil
  | cons i l ih => exact .cons (.int _) ih
theorem pd_tupr (hc : X.calm = true) (hg : Gl X "tuple") (hm : X.mg "tuple" = none) (hg2 : Gl X "range") (hm2 : X.mg "range" = none) (ha : PE X ea (tO C a)) (hn : notStar ea = true) :
    PE X (.Call (.Name "tuple" p) [.Call (.Name "range" p2) [ea] [] pos2] [] pos) (tD C (.tupr a)) := by
  refine PE.imp (pe_tupRg hc hg hm (prg_1 hg2 hm2 ha (star_cons hn)) (star_cons rfl)) fun σ H Q ⟨w, e, s, h⟩ => ?_
  unfold PE1 at h; rw [den] at h
  refine opd C s (Pb.mono h.bind (fun _ _ z => z) fun ⟨oa, e1⟩ h1 x w1 H1 y1 s1 o1 => ?_)
  obtain ⟨da, ba, h1⟩ := Pb.fin o1 s1 h1
  obtain ⟨n, hn, h1⟩ := Pb.of h1.bind
  obtain ⟨l, hl, h1⟩ := Pb.of h1.bind
  obtain ⟨hz, rfl⟩ := rangeD_inv hl
  rw [intD_inv hn] at ba
  refine ⟨n, ba.int, ⟨by omega, by omega, by omega, by omega, by omega⟩, ?_⟩
  exact Kont.tup (fun z w' H' y s' r' => h1 z w' H' (y1.trans y) s' r') s1 (rgV_rs 0 n)
/-! ### sum(d.values()) -/
def tSumV (te : TE) : TE := fun σ H Q => te σ H fun x H1 => ∃ (d : Addr) (kvs : List (Key × V)) (ns : List Int), x = .ref d ∧ Rd H1 d (.dK kvs) ∧ kvs.map (·.2) = ns.map V.int ∧ Q (.int ns.sum) H1
theorem presum_list (ns : List Int) : ∀ n, n ≤ ns.length → preSum (fun i => ns.getD i 0) n = (ns.take n).sum
  | 0, _ => rfl
  | n + 1, h => by
    show preSum (fun i => ns.getD i 0) n + ns.getD n 0 = _
    rw [presum_list ns n (Nat.le_of_succ_le h), List.take_add_one, List.getD_eq_getElem?_getD, List.getElem?_eq_getElem h, List.sum_append]
    simp
theorem pe_sumV {e : Expr} {te : TE} (hc : X.calm = true) (hgs : Gl X "sum") (hms : X.mg "sum" = none) (he : PE X e te) (hb : notCall0 e = true) (hline : (apos.endLine == cpos.line) = true) :
    PE X (.Call (.Name "sum" p) [.Call (.Attribute e "values" apos) [] [] cpos] [] pos) (tSumV te) := by
  refine ⟨fun pins s σ H Q I h => ?_⟩
  refine wpAny_Call_Name_kw (ld_blt I hgs hms boot_sum ?_)
  refine PyProof.Rows.callWith_builtin1 ?_ (star_cons rfl) rfl
  rw [star_cons (e := .Call (.Attribute e "values" apos) [] [] cpos) rfl]
  show wpAny _ _ (spliced ((false, eval (.Call (.Attribute e "values" apos) [] [] cpos) X.env) :: backTo pos (starEach [] X.env))) _ _ s
  refine Calls.spliced_cons ?_
  refine wpAny_Call_method (T := "dict") (id := "dict.values") (plain_base hb) rfl hline F.plainAttrs_dict F.slot_dict_values F.type_dict_values (thn (he.run pins s σ H _ I h) fun u s1 ⟨x, H1, I1, rx, d, kvs, ns, ex, hd, hv, q⟩ => ?_)
  subst ex
  obtain rfl : u = Value.ref d := rx
  obtain ⟨hz, hs, vs, kv, hm⟩ := dk_rd I1.hok hd
  have hl : kvs.length = vs.length := Paired.length kv
  obtain ⟨ep, hat⟩ := hm.dictAt
  refine ⟨hm.typeIs, hm.mapOf.noDict, ?_⟩
  have I2 : Inv X pins σ H1 { s1 with heap := s1.heap.push { cls := .type "dict_values", data := .fields #[.ref d] } } := I1.kept (t' := s1.toks) fun b ob q => Heap.get?_push_of_some _ q
  have hnl : ns.length = kvs.length := by
    have := congrArg List.length hv
    rw [List.length_map, List.length_map] at this
    exact this.symm
  have fin : wpAny (model X.prog X.w) X.A (call (.builtin "sum") [.ref s1.heap.objs.size]) (EP X pins σ Q) X.xe { s1 with heap := s1.heap.push { cls := .type "dict_values", data := .fields #[.ref d] } } := by
    refine sum_vals (PySem.W.kdl_values (knd := mixKind X.prog X.w) (kvs := vs) (ep := ep) (r := s1.heap.objs.size) (d := d)) (I1.ok.hd hc) ⟨⟨_, Heap.get?_push_size _ rfl, rfl, rfl⟩, hat.push _⟩ (fun i => ns.getD i 0) (fun i v hi => ?_) fun h' tk t' hk => ?_
    · obtain ⟨k, hkv⟩ := hi
      have hlt : i < vs.length := (List.getElem?_eq_some_iff.mp hkv).1
      obtain ⟨⟨k2, v2⟩, hkv2⟩ : ∃ p, kvs[i]? = some p := ⟨kvs[i], List.getElem?_eq_getElem (by omega)⟩
      obtain ⟨u, hu, ru⟩ := kv_get kv hkv2
      have e1 : (kvs.map (·.2))[i]? = some v2 := by rw [List.getElem?_map, hkv2]; rfl
      rw [hv, List.getElem?_map] at e1
      obtain ⟨n, hn, e2⟩ := Option.map_eq_some_iff.mp e1
      subst e2
      rw [hkv] at hu
      have e3 : v = u := (congrArg Prod.snd (Option.some.inj hu))
      rw [e3]
      obtain ⟨t, rfl⟩ := ru
      exact ⟨t, by rw [List.getD_eq_getElem?_getD, hn]; rfl⟩
    · have e1 : preSum (fun i => ns.getD i 0) vs.length = ns.sum := by rw [presum_list ns vs.length (by omega), show vs.length = ns.length by omega, List.take_length]
      rw [e1]
      exact ⟨.int ns.sum, H1, I2.kept (t' := tk) hk, ⟨t', rfl⟩, q⟩
  show wpAny _ _ (callWith cpos (.builtin "dict.values") [.ref d] [] []) _ X.xe s1
  exact method_meetsIn F.slot_dict_values F.entry_dict_values rfl (PySem.evalArgs_none ⟨rfl, hm.typeIs, F.args_dict_values_1 _, _, meets_dict_values (mixKind X.prog X.w) d hs, ⟨vs, hm⟩, Calls.spliced_nil fin⟩)
theorem Rk.ints2 {Z : Pm} {w : Own} {H : Hp} : ∀ {vs : List (Key × V)} {l : List (Key × Pk.D)} {ns : List Int}, Rk Z w H vs l → intsD (l.map (·.2)) = some ns → vs.map (·.2) = ns.map V.int
  | _, _, ns, .nil, h => by simp [intsD] at h; subst h; rfl
  | _, _, ns, .cons (d := d) r q, h => by
    cases d <;> simp [intsD] at h
    obtain ⟨m, h1, rfl⟩ := h
    rw [List.map_cons, List.map_cons, q.ints2 h1, (R.br r).int]
theorem pd_sumv (hc : X.calm = true) (hgs : Gl X "sum") (hms : X.mg "sum" = none) (ha : PE X ea (tO C a)) (hb : notCall0 ea = true) (hline : (apos.endLine == cpos.line) = true) :
    PE X (.Call (.Name "sum" p) [.Call (.Attribute ea "values" apos) [] [] cpos] [] pos) (tD C (.sumv a)) := by
  refine PE.imp (pe_sumV hc hgs hms ha hb hline) fun σ H Q ⟨w, e, s, h⟩ => ?_
  unfold PE1 at h; rw [den] at h
  refine opd C s (Pb.mono h.bind (fun _ _ z => z) fun ⟨oa, e1⟩ h1 x w1 H1 y1 s1 o1 => ?_)
  obtain ⟨da, ba, h1⟩ := Pb.fin o1 s1 h1
  split at h1
  · obtain ⟨ns, hns, h1⟩ := Pb.of h1.bind
    obtain ⟨ad, vs, rfl, hd, q⟩ := ba.dk
    exact ⟨ad, vs, ns, rfl, hd, q.ints2 hns, h1 _ w1 H1 y1 s1 (.int _)⟩
  · exact h1.elim
end
end Pk

end
section
/-! Pk18: does a code tell the given syntax? -/
namespace Pk
open PySem PySem.Spec PyProof.Rows L2
open LamX (Tabs TabS ExtN CodeO)
/-- the names of defs, of other globals, of classes of errors, by their numbers -/
structure Sg where
  fn : Nat → Option (Str × Bool)
  gl : Nat → Option Str
  xc : Nat → Option Str
  /-- the defs that make lambdas; the def that calls one and tells its errors -/
  lam : Str → Bool
  lc : Option Str
structure Ctx where
  N : List Str
  sc : Scope
  fns : List Str
  lam : Bool
def glb (Y : Ctx) (x : Str) : Bool := match Y.sc.names.lookup x with
  | some .globalImplicit => !(x == ("__debug__" : Str))
  | _ => false
def visB (Y : Ctx) (x : Str) : Bool := match Y.sc.names.lookup x with
  | some .local => true
  | some .cell => true
  | some .free => true
  | _ => false
def locB (Y : Ctx) (x : Str) : Bool := match Y.sc.names.lookup x with
  | some .local => true
  | some .cell => Y.fns.contains x
  | _ => false
def onlyLoc (Y : Ctx) (x : Str) : Bool := match Y.sc.names.lookup x with
  | some .local => true
  | _ => false
def nmB (Y : Ctx) (i : Nat) (x : Str) : Bool := decide (Y.N[i]? = some x) && visB Y x && !(x == ("__debug__" : Str)) && !(x == ("__classdict__" : Str))
def mC : D → Const → Bool
  | .int i, .int j => decide (i = j)
  | .bl i, .bool j => i == j
  | .non, .none => true
  | .str x, .str y => decide (x = y)
  | _, _ => false
def opB : BOp → Operator → Bool
  | .add, .Add => true
  | .sub, .Sub => true
  | .mul, .Mult => true
  | .mod, .Mod => true
  | .fdiv, .FloorDiv => true
  | .pow, .Pow => true
  | _, _ => false
def cmB : COp → CmpOp → Bool
  | .lt, .Lt => true
  | .le, .LtE => true
  | .gt, .Gt => true
  | .ge, .GtE => true
  | .eq, .Eq => true
  | .ne, .NotEq => true
  | .isN, .Is => true
  | .notN, .IsNot => true
  | .mem, .In => true
  | .nmem, .NotIn => true
  | _, _ => false
theorem opB_eq {op : BOp} {o : Operator} (h : opB op o = true) : o = opOf op := by cases op <;> cases o <;> first | rfl | cases h
theorem cmB_eq {op : COp} {o : CmpOp} (h : cmB op o = true) : o = cmpOf op := by cases op <;> cases o <;> first | rfl | cases h
def noFold : Expr → Bool
  | .Set _ _ _ => false
  | _ => true
theorem noFold_ok {e : Expr} {env : Env} {x : Value} (h : noFold e = true) : foldedSetIterable e env x = pure x := by cases e <;> first | rfl | cases h
def ownL (N : List Str) (own : List Nat) : List (Str × Nat) := own.filterMap fun i => (N[i]?).map fun x => (x, i)
def blkY (Y : Ctx) (sc : Scope) : Ctx := ⟨Y.N, relS sc Y.sc, (sc.names.filter fun p => p.2 == .cell).map (·.1), false⟩
def subIx (a b : List Nat) : Bool := a.all fun i => b.contains i
def mG (Y : Ctx) : Tg → Expr → Bool
  | .one i, e => match e with
    | .Name x _ => decide (Y.N[i]? = some x) && locB Y x
    | _ => false
  | .two a b, e => match e with
    | .Tuple [x, y] _ _ => mG Y a x && mG Y b y && notStarT x && notStarT y
    | _ => false
  | .three a b c, e => match e with
    | .Tuple [x, y, z] _ _ => mG Y a x && mG Y b y && mG Y c z && notStarT x && notStarT y && notStarT z
    | _ => false
def isTup : Expr → Bool
  | .Tuple _ _ _ => true
  | _ => false
def one? : List Expr → Option Expr
  | [e] => some e
  | _ => none
def isTl : Ty → Bool
  | .tl => true
  | _ => false
mutual
def mE (S : Sg) : Ex → Ctx → Expr → Bool
  | .const d, Y, e => match e with
    | .Constant c _ _ => mC d c
    | _ => false
  | .name i, Y, e => match e with
    | .Name x _ => nmB Y i x
    | _ => false
  | .glob g, Y, e => match e with
    | .Name x _ => decide (S.gl g = some x) && glb Y x
    | _ => false
  | .tup es, Y, e => match e with
    | .Tuple l _ _ => decide (es.len ≤ 1000) && mEs S es Y l
    | _ => false
  | .lst es, Y, e => match e with
    | .List l _ => decide (es.len ≤ 1000) && mEs S es Y l
    | _ => false
  | .dict0 _, Y, e => match e with
    | .Dict [] [] _ => true
    | _ => false
  | .bin op a b, Y, e => match e with
    | .BinOp l o r _ => opB op o && mE S a Y l && mE S b Y r
    | _ => false
  | .neg a, Y, e => match e with
    | .UnaryOp .USub x _ => mE S a Y x
    | _ => false
  | .cmp op a b, Y, e => match e with
    | .Compare l [o] [r] _ => cmB op o && !behindInMarks o r && mE S a Y l && mE S b Y r
    | _ => false
  | .cmp2 op op' a b c, Y, e => match e with
    | .Compare l [o, o'] [r, r'] _ => cmB op o && cmB op' o' && !lastMarks [o, o'] [r, r'] && mE S a Y l && mE S b Y r && mE S c Y r'
    | _ => false
  | .and a b, Y, e => match e with
    | .BoolOp .And [x, y] _ => mE S a Y x && mE S b Y y
    | .BoolOp .And (x :: y :: z :: r) p => mE S a Y x && mE S b Y (.BoolOp .And (y :: z :: r) p)
    | _ => false
  | .or a b, Y, e => match e with
    | .BoolOp .Or [x, y] _ => mE S a Y x && mE S b Y y
    | .BoolOp .Or (x :: y :: z :: r) p => mE S a Y x && mE S b Y (.BoolOp .Or (y :: z :: r) p)
    | _ => false
  | .not a, Y, e => match e with
    | .UnaryOp .Not x _ => mE S a Y x
    | _ => false
  | .ite t a b, Y, e => match e with
    | .IfExp x y z _ => mT S t Y x && mE S a Y y && mE S b Y z
    | _ => false
  | .call f es, Y, e => match e with
    | .Call (.Name nm _) (e :: l) [] _ => decide (S.fn f = some (nm, false)) && glb Y nm && (e :: l).all notStar && mEs S es Y (e :: l)
    | _ => false
  | .callw f i es, Y, e => match e with
    | .Call (.Name nm _) (.Name x _ :: l) [] _ => decide (S.fn f = some (nm, true)) && glb Y nm && nmB Y i x && l.all notStar && mEs S es Y l
    | _ => false
  | .callv i es, Y, e => match e with
    | .Call (.Name x _) (e :: l) [] _ => nmB Y i x && (e :: l).all notStar && mEs S es Y (e :: l)
    | _ => false
  | .blt b es, Y, e => match e with
    | .Call (.Name nm _) (e :: l) [] _ => decide (nm = blN b) && glb Y nm && (e :: l).all notStar && mEs S es Y (e :: l)
    | _ => false
  | .isi t a, Y, e => match e with
    | .Call (.Name nm _) [e, .Tuple [.Name t1 _, .Name u _] _ _] [] _ => isTl t && decide (nm = "isinstance") && decide (t1 = "tuple") && decide (u = "list") && glb Y "isinstance" && glb Y "tuple" && glb Y "list" && notStar e && mE S a Y e
    | .Call (.Name nm _) [e, .Name ty _] [] _ => !isTl t && decide (nm = "isinstance") && decide (ty = Str.ofString (tyN t)) && glb Y "isinstance" && glb Y (Str.ofString (tyN t)) && notStar e && mE S a Y e
    | _ => false
  | .sub a i, Y, e => match e with
    | .Subscript x y _ => notSlice y && mE S a Y x && mE S i Y y
    | _ => false
  | .slice a lo hi, Y, e => match e with
    | .Subscript x (.Slice l h none _) _ => mE S a Y x && mO S lo Y l && mO S hi Y h
    | _ => false
  | .rev a, Y, e => match e with
    | .Subscript x (.Slice none none (some (.UnaryOp .USub (.Constant (.int k) _ _) _)) _) _ => decide (k = 1) && mE S a Y x
    | _ => false
  | .revb a, Y, e => match e with
    | .Subscript x (.Slice (some (.UnaryOp .USub (.Constant (.int k') _ _) _)) none (some (.UnaryOp .USub (.Constant (.int k) _ _) _)) _) _ => decide (k = 1) && decide (k' = 2) && mE S a Y x
    | _ => false
  | .lc elt own tg it c, Y, e => match e with
    | .ListComp e [⟨t, i, ifs, as⟩] sc _ => decide (as = 0) && decide ((ownL Y.N own).map (·.2) = own) && blkC Y.N Y.sc sc (ownL Y.N own) && subIx tg.ix own && mG (blkY Y sc) tg t && mI S it Y t i && noFold i && mY S c (blkY Y sc) ifs && mE S elt (blkY Y sc) e
    | _ => false
  | .lc2 elt own own1 tg it c tg1 it1 c1, Y, e => match e with
    | .ListComp e [⟨t, i, ifs, as⟩, ⟨t1, i1, ifs1, as1⟩] sc _ => decide (as = 0) && decide (as1 = 0) && decide ((ownL Y.N own).map (·.2) = own) && blkC Y.N Y.sc sc (ownL Y.N own) && subIx tg.ix own && subIx tg1.ix own1 && subIx own1 own && mG (blkY Y sc) tg t && mG (blkY Y sc) tg1 t1 && mI S it Y t i && noFold i && noFold i1 && mI S it1 (blkY Y sc) t1 i1 && mY S c (blkY Y sc) ifs && mY S c1 (blkY Y sc) ifs1 && mE S elt (blkY Y sc) e
    | _ => false
  | .lci elt own tg kd j c, Y, e => match e with
    | .ListComp e [⟨t, .Call (.Attribute (.Name x _) nm ap) [] [] cp, ifs, as⟩] sc _ => kd && decide (as = 0) && decide (nm = "items") && (ap.endLine == cp.line) && nmB Y j x && isTup t && decide ((ownL Y.N own).map (·.2) = own) && blkC Y.N Y.sc sc (ownL Y.N own) && subIx tg.ix own && mG (blkY Y sc) tg t && mY S c (blkY Y sc) ifs && mE S elt (blkY Y sc) e
    | .ListComp e [⟨t, .Name x _, ifs, as⟩] sc _ => !kd && decide (as = 0) && nmB Y j x && decide ((ownL Y.N own).map (·.2) = own) && blkC Y.N Y.sc sc (ownL Y.N own) && subIx tg.ix own && mG (blkY Y sc) tg t && mY S c (blkY Y sc) ifs && mE S elt (blkY Y sc) e
    | _ => false
  | .dc k v own tg it, Y, e => match e with
    | .DictComp ek ev [⟨t, i, [], as⟩] sc _ => decide (as = 0) && decide ((ownL Y.N own).map (·.2) = own) && blkC Y.N Y.sc sc (ownL Y.N own) && subIx tg.ix own && mG (blkY Y sc) tg t && mI S it Y t i && noFold i && mE S k (blkY Y sc) ek && mE S v (blkY Y sc) ev
    | _ => false
  | .sumv a, Y, e => match e with
    | .Call (.Name nm _) [.Call (.Attribute x at_ ap) [] [] cp] [] _ => decide (nm = "sum") && decide (at_ = "values") && glb Y "sum" && notCall0 x && (ap.endLine == cp.line) && mE S a Y x
    | _ => false
  | .tupr a, Y, e => match e with
    | .Call (.Name nm _) [.Call (.Name nm2 _) [x] [] _] [] _ => decide (nm = "tuple") && decide (nm2 = "range") && glb Y "tuple" && glb Y "range" && notStar x && mE S a Y x
    | _ => false
  | .caught fz b, Y, e => match e with
    | .Call (.Name x _) [.Lambda ⟨[], [], none, [], [], none, []⟩ body scope _] [] _ => Y.lam && (decide (S.lc = some x) && (glb Y x && (LamX.lamSB Y.sc scope && mE S b ⟨Y.N, scope, [], false⟩ body)))
    | _ => false
  | _, _, _ => false
/-- as a test -/
def mT (S : Sg) : Ex → Ctx → Expr → Bool
  | .cmp op a b, Y, e => match e with
    | .Compare l [o] [r] _ => cmB op o && !behindInMarks o r && mE S a Y l && mE S b Y r
    | _ => false
  | .cmp2 op op' a b c, Y, e => match e with
    | .Compare l [o, o'] [r, r'] _ => cmB op o && cmB op' o' && !lastMarks [o, o'] [r, r'] && mE S a Y l && mE S b Y r && mE S c Y r'
    | _ => false
  | .and a b, Y, e => match e with
    | .BoolOp .And [x, y] _ => mT S a Y x && mT S b Y y
    | .BoolOp .And (x :: y :: z :: r) p => mT S a Y x && mT S b Y (.BoolOp .And (y :: z :: r) p)
    | _ => false
  | .or a b, Y, e => match e with
    | .BoolOp .Or [x, y] _ => mT S a Y x && mT S b Y y
    | .BoolOp .Or (x :: y :: z :: r) p => mT S a Y x && mT S b Y (.BoolOp .Or (y :: z :: r) p)
    | _ => false
  | .not a, Y, e => match e with
    | .UnaryOp .Not x _ => mT S a Y x
    | _ => false
  | .call f es, Y, e => match e with
    | .Call (.Name nm _) (e :: l) [] _ => decide (S.fn f = some (nm, false)) && glb Y nm && (e :: l).all notStar && mEs S es Y (e :: l)
    | _ => false
  | .callw f i es, Y, e => match e with
    | .Call (.Name nm _) (.Name x _ :: l) [] _ => decide (S.fn f = some (nm, true)) && glb Y nm && nmB Y i x && l.all notStar && mEs S es Y l
    | _ => false
  | .name i, Y, e => match e with
    | .Name x _ => nmB Y i x
    | _ => false
  | .isi t a, Y, e => match e with
    | .Call (.Name nm _) [e, .Tuple [.Name t1 _, .Name u _] _ _] [] _ => isTl t && decide (nm = "isinstance") && decide (t1 = "tuple") && decide (u = "list") && glb Y "isinstance" && glb Y "tuple" && glb Y "list" && notStar e && mE S a Y e
    | .Call (.Name nm _) [e, .Name ty _] [] _ => !isTl t && decide (nm = "isinstance") && decide (ty = Str.ofString (tyN t)) && glb Y "isinstance" && glb Y (Str.ofString (tyN t)) && notStar e && mE S a Y e
    | _ => false
  | .blt b es, Y, e => match e with
    | .Call (.Name nm _) (e :: l) [] _ => decide (nm = blN b) && glb Y nm && (e :: l).all notStar && mEs S es Y (e :: l)
    | _ => false
  | _, _, _ => false
def mEs (S : Sg) : Exs → Ctx → List Expr → Bool
  | .nil, _, [] => true
  | .cons a r, Y, e :: l => notStar e && mE S a Y e && mEs S r Y l
  | _, _, _ => false
def mO (S : Sg) : Eo → Ctx → Option Expr → Bool
  | .none, _, none => true
  | .some a, Y, some e => mE S a Y e
  | _, _, _ => false
def mY (S : Sg) : Eo → Ctx → List Expr → Bool
  | .none, _, [] => true
  | .some a, Y, [e] => mT S a Y e
  | _, _, _ => false
def mI (S : Sg) : It → Ctx → Expr → Expr → Bool
  | .seq a, Y, _, e => mE S a Y e
  | .range1 a, Y, _, e => match e with
    | .Call (.Name nm _) [e] [] _ => decide (nm = "range") && glb Y "range" && notStar e && mE S a Y e
    | _ => false
  | .range2 a b, Y, _, e => match e with
    | .Call (.Name nm _) [e, e2] [] _ => decide (nm = "range") && glb Y "range" && notStar e && notStar e2 && mE S a Y e && mE S b Y e2
    | _ => false
  | .range3 a b k, Y, _, e => match e with
    | .Call (.Name nm _) [e, e2, .UnaryOp .USub (.Constant (.int j) _ _) _] [] _ => decide (nm = "range") && decide (j = 1) && decide (k = -1) && glb Y "range" && notStar e && notStar e2 && mE S a Y e && mE S b Y e2
    | _ => false
  | .zip a b, Y, t, e => match e with
    | .Call (.Name nm _) [e, e2] [] _ => isTup t && decide (nm = "zip") && glb Y "zip" && notStar e && notStar e2 && mE S a Y e && mE S b Y e2
    | _ => false
  | .enum a, Y, t, e => match e with
    | .Call (.Name nm _) [e] [] _ => isTup t && decide (nm = "enumerate") && glb Y "enumerate" && notStar e && mE S a Y e
    | _ => false
  | _, _, _, _ => false
end
end Pk

end
section
/-! Ph1: lists and zips walked while an exception is handled. -/
namespace Pk
open PySem PySem.Spec PyProof.Rows L2
open HotX (HotAt raiseNew_hot)
/-- the handled exception's object, its context None -/
def HotH (x1 : Addr) (h : Heap) : Prop := ∃ (o : Obj) (vs : Array Value), h.get? x1 = some o ∧ o.data = .fields vs ∧ vs[2]? = some .none
theorem nextOf_lend_hot {prog : Program} {w : World} {A : Around} {E : Value → Shared → Prop} {s : Shared} {it l x1 : Addr} {i : Nat} {items : Array Value} {Q : Value → Shared → Prop} (hh : A.handled = some (.ref x1)) (hot : HotH x1 s.heap) (hne : x1 ≠ it)
    (hit : s.heap.IsListIter it l i) (hl : s.heap.IsList l items) (hx : items[i]? = none)
    (hE : ∀ h' e, Heap.ExtBut it s.heap h' → (∃ o, h'.get? e = some o ∧ o.cls = .type "StopIteration") → E (.ref e) { s with heap := h' }) : wpAny (model prog w) A (Builtin.SmallTypes.nextOf (.ref it)) Q E s := by
  obtain ⟨o, ho, hc, hd⟩ := id hit
  obtain ⟨ol, hol, _, nl, hdl⟩ := hl
  obtain ⟨o1, vs1, g1, d1, c1⟩ := hot
  unfold Builtin.SmallTypes.nextOf
  refine wpAny_bind (wpAny_callSpecial?_slot (name := Str.ofString "__next__") hit.typeIs slot_listiter_next (wpAny_call_entry slot_listiter_next hit.typeIs entry_listiter_next ?_ (args_listiter_next _)))
  show wpAny _ _ (field (.ref it) 0 >>= _) _ _ s; refine wpAny_bind (wpAny_field ho hd (x := .ref l) rfl ?_)
  show wpAny _ _ (if (Value.ref l == Value.none) = true then _ else _) _ _ s; rw [if_neg (show ¬ ((Value.ref l == Value.none) = true) from Bool.false_ne_true)]
  show wpAny _ _ (field (.ref it) 1 >>= _) _ _ s; refine wpAny_bind (wpAny_field ho hd (x := .int i 0) rfl ?_)
  show wpAny _ _ (seqItems? (.ref l) >>= _) _ _ s; refine wpAny_bind (wpAny_seqItems hol hdl ?_)
  simp only [Int.toNat_natCast, hx]; refine wpAny_bind (wpAny_rule (wpAny_bind (wpAny_setField ho hd (by simp) ?_)))
  show wpAny _ _ (newExc (.type "StopIteration") [] >>= _) _ _ _; refine wpAny_bind ?_
  simp only [newExc, newTuple]; refine wpAny_bind (wpAny_newObj_type ?_ (by size_fits)); refine wpAny_bind (m := firstArgMember _ _) (wpAny_of_eq (a := Value.none) (by first | rfl | (simp only [firstArgMember]; rfl)) ?_)
  refine wpAny_newObj_type ?_ (by size_fits)
  have up : ∀ b oo, b ≠ it → s.heap.get? b = some oo → (s.heap.update it (Obj.mapFields fun x => x.setIfInBounds 0 Value.none)).get? b = some oo := fun b oo hb e => (Heap.get?_update_other _ _ fun z => hb z.symm).trans e
  have g2 := up x1 o1 hne g1
  have g3 := Heap.get?_push_of_some { cls := Value.type "tuple", data := Data.seq #[] } g2
  refine raiseNew_hot ⟨hh, o1, vs1, Heap.get?_push_of_some _ g3, d1, c1⟩ (Nat.ne_of_lt (Heap.lt_size g3)) (Heap.get?_push_size _ rfl) rfl (by first | (simp; done) | (simp; omega) | (simp only [Array.size_append]; simp; omega)) ?_
  refine hE _ _ (fun b oo hb e => ?_) ⟨_, Heap.get?_update_self _ (Heap.get?_push_size _ rfl) rfl, rfl⟩
  have e3 := Heap.get?_push_of_some { cls := Value.type "tuple", data := Data.seq #[] } (up b oo hb e)
  exact (Heap.get?_update_other _ _ (Nat.ne_of_gt (Heap.lt_size e3))).trans (Heap.get?_push_of_some _ e3)
theorem HotH.keep {x1 : Addr} {h h' : Heap} (x : HotH x1 h) (k : ∀ o, h.get? x1 = some o → h'.get? x1 = some o) : HotH x1 h' := by
  obtain ⟨o, vs, e, d, c⟩ := x
  exact ⟨o, vs, k o e, d, c⟩
theorem draws_hot {P : Program} {w : World} {A : Around} {x1 : Addr} (hh : A.handled = some (.ref x1)) (it l : Addr) (h1 : l ≠ it) (h2 : x1 ≠ it) (items : Array Value) :
    Draws P w A it [it, l, x1] items.size (fun i v => items[i]? = some v) (fun i h => h.IsListIter it l i ∧ h.IsList l items ∧ HotH x1 h) where
  live := fun _ _ st => by
    obtain ⟨⟨o, ho, _⟩, _⟩ := st
    exact ⟨o, ho⟩
  frame := fun _ _ _ st hk => ⟨st.1.at fun o e => hk it (by simp) o e, st.2.1.at fun o e => hk l (by simp) o e, st.2.2.keep fun o e => hk x1 (by simp) o e⟩
  item := fun i s Q E hi st hQ => by
    refine wpAny_nextOf_list_item st.1 st.2.1 (x := items[i]) (by simp [hi]) fun h' hit' hs' => hQ _ h' s.toks (by simp [hi]) ⟨hit', st.2.1.extBut hs'.extBut h1, st.2.2.keep fun o e => hs'.extBut x1 o h2 e⟩ hs'
  done := fun s Q E st hE => nextOf_lend_hot hh st.2.2 h2 st.1 st.2.1 (by simp) hE
end Pk

end
section
/-! Ph2: comprehensions over a zip of lists, while an exception is handled. -/
namespace Pk
open PySem PySem.Spec PyProof.Rows L2
open HotX (HotAt raiseNew_hot)
open LamX (Tabs TabS ExtN CodeO)
/-- a walk's turns, while the exception at x1 is handled -/
structure TurnX (P : Program) (w : World) (K : PySem.W.Frag) (tg : Expr) (J : L2.It) (fp : List Addr) (it x1 : Addr) (tn : Nat → Heap → Prop) : Prop where
  obj : ∀ i h, tn i h → ∀ b ∈ fp, ∃ o, h.get? b = some o ∧ (∀ v, o.data ≠ .cell v)
  keep : ∀ i h h', tn i h → (∀ b ∈ fp, ∀ o, h.get? b = some o → h'.get? b = some o) → (tn i h')
  item : ∀ (X : Cx), X.prog = P → X.w = w → X.K = K → X.A.handled = some (.ref x1) → ∀ (i : Nat) (pins : List (Addr × Obj)) (s : Shared) (σ : L2.St) (H : Hp) (E : Value → Shared → Prop), Inv X pins σ H s → HotH x1 s.heap → (∀ b ∈ fp, FpOk X pins H b) → tn i s.heap → J.go i H →
    wpAny (model P w) X.A (pyNext (.ref it)) (fun r s1 => ∃ u, r = some u ∧ (wpAny (model P w) X.A (letOwnedTupleGo tg (.ref it) u) (fun _ s2 => ∃ x H', Inv X pins σ H' s2 ∧ RelV x u ∧ J.yld i H x H' ∧ tn (i + 1) s2.heap ∧ ∀ b ∈ fp, H' b = none) E s1)) E s
  done : ∀ (X : Cx), X.prog = P → X.w = w → X.K = K → X.A.handled = some (.ref x1) → ∀ (i : Nat) (pins : List (Addr × Obj)) (s : Shared) (σ : L2.St) (H : Hp) (E : Value → Shared → Prop), Inv X pins σ H s → HotH x1 s.heap → (∀ b ∈ fp, FpOk X pins H b) → tn i s.heap → J.stop i H →
    (wpAny (model P w) X.A (pyNext (.ref it)) (fun r s1 => r = none ∧ Inv X pins σ H s1) E s)
  self : ∀ (A : Around) (i : Nat) (s : Shared) (Q : Value → Shared → Prop) (E : Value → Shared → Prop), tn i s.heap → Q (.ref it) s → (wpAny (model P w) A (pyIter (.ref it)) Q E s)
theorem turn_zipX {P : Program} {w : World} {K : PySem.W.Frag} {elts : List Expr} {kk : Nat} {tpos : Pos} {a b z TI TO i1 i2 x1 : Addr} {xs ys : List V} (D : ZipSep2 z TI TO i1 i2 [i1, a, x1] [i2, b, x1]) (h1 : a ≠ i1) (h2 : b ≠ i2) (h3 : x1 ≠ i1) (h4 : x1 ≠ i2) :
    TurnX P w K (.Tuple elts kk tpos) (Itz2 true true a b xs ys) [z, TI, TO, i1, i2] z x1 (fun i h => i ≤ min xs.length ys.length ∧ IsZip h z TI TO .none ∧ IsTupOf2 h TI (.ref i1) (.ref i2) ∧ (∃ x y, IsTupOf2 h TO x y) ∧ h.IsListIter i1 a i ∧ h.IsListIter i2 b i) where
  obj := fun i h st c hc => by
    obtain ⟨_, hz, hTI, ⟨x, y, hTO⟩, q1, q2⟩ := st
    have e' : c = z ∨ c = TI ∨ c = TO ∨ c = i1 ∨ c = i2 := by simpa using hc
    rcases e' with q | q | q | q | q
    · rw [q]; exact ⟨_, hz, fun v q => nomatch q⟩
    · rw [q]; exact ⟨_, hTI, fun v q => nomatch q⟩
    · rw [q]; exact ⟨_, hTO, fun v q => nomatch q⟩
    · rw [q]; exact IsSI.obj (k := true) q1
    · rw [q]; exact IsSI.obj (k := true) q2
  keep := fun i h h' st q => let ⟨hl, hz, hTI, ⟨x, y, hTO⟩, q1, q2⟩ := st; ⟨hl, q z (by simp) _ hz, q TI (by simp) _ hTI, ⟨x, y, q TO (by simp) _ hTO⟩, q1.at fun o e => q i1 (by simp) o e, q2.at fun o e => q i2 (by simp) o e⟩
  item := by
    intro X hP hw hK hc i pins s σ H E I hot hf st hg
    subst hP hw hK
    obtain ⟨its, rv, p⟩ := sq_inv (k := true) I hg.2.1
    obtain ⟨its2, rv2, p2⟩ := sq_inv (k := true) I hg.2.2
    have hs : its.toArray.size = xs.length := by rw [List.size_toArray, ← rv.length]
    have hs2 : its2.toArray.size = ys.length := by rw [List.size_toArray, ← rv2.length]
    have D1 := draws_hot (P := X.prog) (w := X.w) (A := X.A.in1) hc i1 a h1 h3 its.toArray
    have D2 := draws_hot (P := X.prog) (w := X.w) (A := X.A.in1) hc i2 b h2 h4 its2.toArray
    have W := GoesN.zip2 (elts := elts) (x1 := kk) (pos := tpos) D D1 D2
    have hlt1 : i < xs.length := Nat.lt_of_lt_of_le hg.1 (Nat.min_le_left _ _)
    have hlt2 : i < ys.length := Nat.lt_of_lt_of_le hg.1 (Nat.min_le_right _ _)
    refine W.goes i s _ E (by rw [hs, hs2]; exact hg.1) ⟨st.2.1, st.2.2.1, st.2.2.2.1, ⟨st.2.2.2.2.1, p, hot⟩, st.2.2.2.2.2, p2, hot⟩ fun v h' tk hY st' hk htk => ?_
    obtain ⟨T, x', y', rfl, hT, hx', hy', hTT⟩ := hY
    have hx : xs[i]? = some xs[i] := List.getElem?_eq_getElem hlt1
    have hy : ys[i]? = some ys[i] := List.getElem?_eq_getElem hlt2
    obtain ⟨u, hu, ru⟩ := rv.get hx
    obtain ⟨u2, hu2, ru2⟩ := rv2.get hy
    have eu : x' = u := by
      have h1 : its[i]? = some x' := by simpa using hx'
      rw [hu] at h1
      exact (Option.some.inj h1).symm
    have eu2 : y' = u2 := by
      have h1 : its2[i]? = some y' := by simpa using hy'
      rw [hu2] at h1
      exact (Option.some.inj h1).symm
    subst eu eu2
    have I1 : Inv X pins σ (upd H T (.tup [xs[i], ys[i]])) { s with heap := h', toks := tk } := new_tuple (ch := [z, TI, TO, i1, i2]) (us := [x', y']) I (fun b o hb q => hk b o (fun m => hb (by simp at m ⊢; rcases m with m | m | m | m <;> simp [m])) q) hf hT (.cons ru (.cons ru2 .nil)) (by simp) hTT
    refine ⟨.ref T, _, I1, rfl, ⟨T, _, _, rfl, I.hok.fresh hT, rfl, hx, hy⟩, ⟨hg.1, st'.1, st'.2.1, st'.2.2.1, st'.2.2.2.1.1, st'.2.2.2.2.1⟩, hne_new hT (fun b hb => (hf b hb).1) fun c hc => ?_⟩
    obtain ⟨_, hz, hTI, ⟨x, y, hTO⟩, q1, q2⟩ := st
    have e' : c = z ∨ c = TI ∨ c = TO ∨ c = i1 ∨ c = i2 := by simpa using hc
    rcases e' with q | q | q | q | q
    · rw [q]; exact Heap.lt_size hz
    · rw [q]; exact Heap.lt_size hTI
    · rw [q]; exact Heap.lt_size hTO
    · rw [q]; obtain ⟨o, ho, _⟩ := IsSI.obj (k := true) q1; exact Heap.lt_size ho
    · rw [q]; obtain ⟨o, ho, _⟩ := IsSI.obj (k := true) q2; exact Heap.lt_size ho
  done := by
    intro X hP hw hK hc i pins s σ H E I hot hf st hg
    subst hP hw hK
    obtain ⟨its, rv, p⟩ := sq_inv (k := true) I hg.2.1
    obtain ⟨its2, rv2, p2⟩ := sq_inv (k := true) I hg.2.2
    have hs : its.toArray.size = xs.length := by rw [List.size_toArray, ← rv.length]
    have hs2 : its2.toArray.size = ys.length := by rw [List.size_toArray, ← rv2.length]
    have D1 := draws_hot (P := X.prog) (w := X.w) (A := X.A.in1) hc i1 a h1 h3 its.toArray
    have D2 := draws_hot (P := X.prog) (w := X.w) (A := X.A.in1) hc i2 b h2 h4 its2.toArray
    have W := GoesN.zip2 (elts := elts) (x1 := kk) (pos := tpos) D D1 D2
    have ei : i = min its.toArray.size its2.toArray.size := by rw [hs, hs2]; exact Nat.le_antisymm st.1 hg.1
    refine W.stops s _ E (by rw [← ei]; exact ⟨st.2.1, st.2.2.1, st.2.2.2.1, ⟨st.2.2.2.2.1, p, hot⟩, st.2.2.2.2.2, p2, hot⟩) fun h' tk hk htk => ?_
    exact I.turnedL (ch := [z, TI, TO, i1, i2]) (fun b o hb q => hk b o (fun m => hb (by simp at m ⊢; rcases m with m | m | m | m <;> simp [m])) q) hf
  self := fun A i s Q E st h => wpAny_pyIter_zip st.2.1 h
def PIEX (X : Cx) (x1 : Addr) (pins : List (Addr × Obj)) (σ : L2.St) (tg : Expr) (R : L2.It → Hp → Prop) (itv : Value) (s2 : Shared) : Prop :=
  ∃ (it : Addr) (fp : List Addr) (tn : Nat → Heap → Prop) (J : L2.It) (H' : Hp), itv = .ref it ∧ Inv X pins σ H' s2 ∧ TurnX X.prog X.w X.K tg J fp it x1 tn ∧ tn 0 s2.heap ∧ (∀ b ∈ fp, FpOk X pins H' b) ∧ R J H'
structure PIX (X : Cx) (x1 : Addr) (tg iter : Expr) (wi : TI) : Prop where
  run : ∀ (pins : List (Addr × Obj)) (s : Shared) (σ : L2.St) (H : Hp) (R : L2.It → Hp → Prop), Inv X pins σ H s → wi σ H R → wpAny (model X.prog X.w) X.A (eval iter X.env) (fun v s1 => (wpAny (model X.prog X.w) X.A (pyIter v) (PIEX X x1 pins σ tg R) X.xe s1)) X.xe s
/-- the exception that is handled stands pinned -/
def HotX1 (X : Cx) (x1 : Addr) : Prop := X.A.handled = some (.ref x1) ∧ ∃ (o : Obj) (vs : Array Value), (x1, o) ∈ X.pn ∧ o.data = .fields vs ∧ vs[2]? = some .none
theorem HotX1.at {X : Cx} {x1 : Addr} {pins : List (Addr × Obj)} {σ : L2.St} {H : Hp} {s : Shared} (c : HotX1 X x1) (I : Inv X pins σ H s) : HotH x1 s.heap := by
  obtain ⟨_, o, vs, hp, d, e⟩ := c
  exact ⟨o, vs, (I.pin (x1, o) (List.mem_append_left _ hp)).1, d, e⟩
theorem pi_zipX {X : Cx} {x1 : Addr} {e e2 : Expr} {ta : TA} {p pos tpos : Pos} {elts : List Expr} {kk : Nat} (hot : HotX1 X x1) (hg : Gl X "zip") (hm : X.mg "zip" = none) (ha : PA X [e, e2] ta)
    (hs : starEach [e, e2] X.env = (false, eval e X.env) :: starEach [e2] X.env) (hpl : (backTo pos (starEach [e2] X.env)).any (·.1) = false) :
    PIX X x1 (.Tuple elts kk tpos) (.Call (.Name "zip" p) [e, e2] [] pos) (fun σ H R => ta σ H fun vs H1 => ∃ a b xs ys, vs = [.ref a, .ref b] ∧ H1 a = some (.lst xs) ∧ H1 b = some (.lst ys) ∧ R (Itz2 true true a b xs ys) H1) := by
  refine ⟨fun pins s σ H R I h => ?_⟩
  refine Call_ (ld_blt I hg hm PyProof.Rows.boot_zip (PyProof.Rows.callWith_type1 (thn (ha.run pos pins s σ H _ I h) fun us s1 ⟨vs, H1, I1, r1, q1⟩ => ?_) hs hpl))
  obtain ⟨a, b, xs, ys, ex, hqx, hqy, q⟩ := q1
  subst ex
  cases r1 with
  | cons r rr =>
    cases rr with
    | cons r' rr =>
      cases rr
      cases r
      cases r'
      obtain ⟨its, rv, p1⟩ := sq_inv (k := true) I1 hqx
      obtain ⟨its2, rv2, p2⟩ := sq_inv (k := true) I1 hqy
      have hx1 := hot.at I1
      have lx : x1 < s1.heap.objs.size := by obtain ⟨o, _, g, _⟩ := hx1; exact Heap.lt_size g
      refine zip_begins2 (begins_sq true a its.toArray) (begins_sq true b its2.toArray) p1 p2 fun h' hz hTI hTO g1 g2 hsz hk => wpAny_pyIter_zip hz ?_
      have I2 : Inv X pins σ H1 { s1 with heap := h' } := I1.kept (t' := s1.toks) hk
      have S := zip_sep2 (N := s1.heap.objs.size) (fp1 := [a, x1]) (fp2 := [b, x1]) (fun c hc => by
        rcases List.mem_cons.mp hc with z | z
        · rw [z]; exact IsSq.lt (k := true) p1
        · rw [List.mem_singleton.mp z]; exact lx) (fun c hc => by
        rcases List.mem_cons.mp hc with z | z
        · rw [z]; exact IsSq.lt (k := true) p2
        · rw [List.mem_singleton.mp z]; exact lx)
      refine ⟨s1.heap.objs.size + 4, [s1.heap.objs.size + 4, s1.heap.objs.size + 2, s1.heap.objs.size + 3, s1.heap.objs.size, s1.heap.objs.size + 1], _, _, H1, rfl, I2, turn_zipX (xs := xs) (ys := ys) S (Nat.ne_of_lt (IsSq.lt (k := true) p1)) (Nat.ne_of_lt (Nat.lt_succ_of_lt (IsSq.lt (k := true) p2))) (Nat.ne_of_lt lx) (Nat.ne_of_lt (Nat.lt_succ_of_lt lx)), ⟨Nat.zero_le _, hz, hTI, ⟨_, _, hTO⟩, sqO_at (k := true) g1, sqO_at (k := true) g2⟩, fun c hcm => ?_, q⟩
      have e' : c = s1.heap.objs.size + 4 ∨ c = s1.heap.objs.size + 2 ∨ c = s1.heap.objs.size + 3 ∨ c = s1.heap.objs.size ∨ c = s1.heap.objs.size + 1 := by simpa using hcm
      have hle : s1.heap.objs.size ≤ c := by
        rcases e' with z | z | z | z | z
        · rw [z]; exact Nat.le_add_right _ _
        · rw [z]; exact Nat.le_add_right _ _
        · rw [z]; exact Nat.le_add_right _ _
        · rw [z]; exact Nat.le_refl _
        · rw [z]; exact Nat.le_add_right _ _
      exact I1.fpOk hle (I1.hok.fresh hle)
/-- at the block's start the handled exception stands apart -/
structure HotB (X : Cx) (x1 : Addr) (s : Shared) (H : Hp) (fp : List Addr) : Prop where
  hot : HotH x1 s.heap
  free : H x1 = none
  nofs : x1 ∉ frs X.stack
  nofp : x1 ∉ fp
theorem HotB.at {X : Cx} {x1 : Addr} {s : Shared} {H : Hp} {fp : List Addr} {sc : Scope} {ce : Env} (b : HotB X x1 s H fp) {pins : List (Addr × Obj)} {σ : L2.St} {H' : Hp} {s' : Shared} (I : Inv (Cx.blk X s H sc ce fp) pins σ H' s') : HotH x1 s'.heap :=
  b.hot.keep fun o e => I.base.keep x1 o e b.free b.nofs b.nofp
/-- [elt for tg in iter if ifs], while an exception is handled -/
theorem pe_lcX {X : Cx} {x1 : Addr} {elt tg iter : Expr} {ifs : List Expr} {scope : Scope} {own : List (Str × Nat)} {pos : Pos} {wi : TI} {g : TG} {tt : TT} {te : TE} (hot : HotX1 X x1) (hN : X.N.Nodup) (hi : PIX X x1 tg iter wi) (ok : BlkOk X.N X.env.scope scope own)
    (hg : ∀ (s : Shared) (H : Hp) (C : Addr) (cl : List (Str × Addr)) (fp : List Addr), HotB X x1 s H fp → PG (Cx.blk X s H scope (compEnvC scope cl C X.env) fp) tg g) (ht : ∀ (s : Shared) (H : Hp) (C : Addr) (cl : List (Str × Addr)) (fp : List Addr), PTs (Cx.blk X s H scope (compEnvC scope cl C X.env) fp) ifs tt)
    (he : ∀ (s : Shared) (H : Hp) (C : Addr) (cl : List (Str × Addr)) (fp : List Addr), PE (Cx.blk X s H scope (compEnvC scope cl C X.env) fp) elt te) (hs : ∀ x, foldedSetIterable iter X.env x = pure x) : PE X (.ListComp elt [⟨tg, iter, ifs, 0⟩] scope pos) (tLc wi g tt te (own.map (·.2))) := by
  refine ⟨fun pins s σ H Q I h => ?_⟩
  rw [eval_ListComp]
  have free : ∀ y ∈ scope.names, y.2 = .free → ∃ c, X.env.cells.lookup y.1 = some c := fun y hy e => (ok.free y hy e).elim (fun k => I.ok.has _ (.inl k)) fun k => I.ok.has _ (.inr k)
  refine wpAny_comprehension_free (use := none) rfl hs (closure_ok free) ok.kind (fun y hy e => by rw [ok.uniq y hy, e]) (thn (hi.run pins s σ H _ I h) fun xv s1 hx => (thn hx fun itv s2 h2 => ?_))
  obtain ⟨it, fp, tn, J, H2, e, I2, T, st2, f2, q⟩ := h2
  subst e
  refine wpAny_newObj_type (newEnv_comp ?_) (show 0 ≤ sizeLine by decide)
  generalize hD : s2.heap.objs.size = D
  have nD : H2 D = none := I2.hok.fresh (Nat.le_of_eq hD)
  obtain ⟨W, ⟨m0, w0⟩, turn⟩ := q D nD
  generalize hs3 : ({ s2 with heap := s2.heap.push { cls := .type "list", data := .seq ([] : List Value).toArray } } : Shared) = s3
  have I3 : Inv X pins σ (upd H2 D (.lst [])) s3 := by
    subst hs3
    exact I2.laid (t' := s2.toks) (fun b o e => Heap.get?_push_of_some _ e) (Nat.le_of_eq hD) ⟨Nat.zero_le _, [], 0, .nil, by rw [← hD]; exact Heap.get?_push_size _ rfl⟩
  have h3 : s3.heap = s2.heap.push { cls := .type "list", data := .seq ([] : List Value).toArray } := by subst hs3; rfl
  have f3 : ∀ b ∈ fp, FpOk X pins (upd H2 D (.lst [])) b ∧ b < s3.heap.objs.size := fun b hb => by
    obtain ⟨o, e, _⟩ := T.obj _ _ st2 b hb
    have lt := Heap.lt_size e
    exact ⟨⟨by rw [upd_ne (by rw [← hD]; exact Nat.ne_of_lt lt)]; exact (f2 b hb).1, (f2 b hb).2⟩, by rw [h3, Heap.size_push]; exact Nat.lt_succ_of_lt lt⟩
  have st3 : tn 0 s3.heap := T.keep _ _ _ st2 fun b _ o e => (by rw [h3]; exact Heap.get?_push_of_some _ e)
  have I4 := block_start I3 ok hN f3
  have hotb : HotB X x1 s3 (upd H2 D (.lst [])) fp := by
    obtain ⟨_, ox, vx, hpx, dx, ex⟩ := hot
    have P := I3.pin (x1, ox) (List.mem_append_left _ hpx)
    exact ⟨⟨ox, vx, P.1, dx, ex⟩, P.2.1, fun hm => (List.mem_cons.mp (I3.stkSub x1 hm)).elim P.2.2.1 P.2.2.2.1, fun hm => (f2 x1 hm).2.2.2.2.2 (x1, ox) (List.mem_append_left _ hpx) rfl⟩
  have pg := hg s3 (upd H2 D (.lst [])) s3.heap.objs.size (cellsFrom (s3.heap.objs.size + 1) scope.names (cloFrom X.env.cells scope.names [])) fp hotb
  have pt := ht s3 (upd H2 D (.lst [])) s3.heap.objs.size (cellsFrom (s3.heap.objs.size + 1) scope.names (cloFrom X.env.cells scope.names [])) fp
  have pe := he s3 (upd H2 D (.lst [])) s3.heap.objs.size (cellsFrom (s3.heap.objs.size + 1) scope.names (cloFrom X.env.cells scope.names [])) fp
  show codeAny _ _ (.compStart (.ListComp elt [⟨tg, iter, ifs, 0⟩] scope pos) 0 (.ref it) (.ref D) (compEnvC scope (cellsFrom (s3.heap.objs.size + 1) scope.names (cloFrom X.env.cells scope.names [])) s3.heap.objs.size X.env)) _ { s3 with heap := pushCells (s3.heap.push { cls := .type "dict", data := .dict #[] }) scope.names }
  have nfp : ∀ b ∈ fp, (upd H2 D (.lst [])) b = none := fun b hb => (f3 b hb).1.1
  generalize hce : compEnvC scope (cellsFrom (s3.heap.objs.size + 1) scope.names (cloFrom X.env.cells scope.names [])) s3.heap.objs.size X.env = ce at I4 pg pt pe ⊢
  have cL : ce.locals = s3.heap.objs.size := (by rw [← hce]; rfl)
  generalize hH3 : upd H2 D (.lst []) = H3 at I3 I4 pg pt pe w0 nfp f3
  generalize hs4 : ({ s3 with heap := pushCells (s3.heap.push { cls := .type "dict", data := .dict #[] }) scope.names } : Shared) = s4 at I4 ⊢
  have st4 : tn 0 s4.heap := T.keep _ _ _ st3 fun b _ o e => (by rw [← hs4]; exact pushCells_keeps _ _ _ _ (Heap.get?_push_of_some _ e))
  -- seen from the def's context
  have back : ∀ {σ' : L2.St} {H' : Hp} {s' : Shared}, Inv (Cx.blk X s3 H3 scope ce fp) [] σ' H' s' → Inv X pins σ H' s' := fun I' => I3.call' (ch := fp) I'.os I'.base I'.hok I'.bare fun b hb => let f := (f3 b hb).1.2; ⟨f.2.2.1, f.1, f.2.2.2.1, f.2.2.2.2⟩
  have stat : ∀ {σ' : L2.St} {H' : Hp} {s' : Shared}, Inv (Cx.blk X s3 H3 scope ce fp) [] σ' H' s' → (∀ b ∈ fp, H' b = none) → ∀ b ∈ fp, FpOk (Cx.blk X s3 H3 scope ce fp) [] H' b := fun I' hn b hb =>
    ⟨hn b hb, (I'.ok.exf b hb).1, I'.ok.exfs b hb, .inl hb, fun x c e => (I'.ok.exf b hb).2 x c e, fun p hp => absurd (show p ∈ ([] : List (Addr × Obj)) ++ [] from hp) (by simp)⟩
  have loop : codeAny (model X.prog X.w) X.A (.compLoop (.ListComp elt [⟨tg, iter, ifs, 0⟩] scope pos) 0 (.ref it) (.ref D) ce) (compPost (model X.prog X.w) X.A X.xe none (EP X pins σ Q) (.ref D) s3.heap.objs.size) s4 := by
    refine compLoop_any (fun n s' => ∃ i H', Inv (Cx.blk X s3 H3 scope ce fp) [] (wipe σ (own.map (·.2))) H' s' ∧ tn i s'.heap ∧ (∀ b ∈ fp, H' b = none) ∧ W i n H') ?_ m0 ⟨0, H3, I4, st4, nfp, w0⟩
    rintro n s5 ⟨i, H5, I5, st5, n5, w5⟩
    have hx5 := hot.at (back I5)
    rcases turn i n H5 w5 with ⟨stop, qq⟩ | ⟨go, Nx, hNx, step⟩
    · have td := T.done (Cx.blk X s3 H3 scope ce fp) rfl rfl rfl hot.1 i [] s5 _ H5 (fun _ _ => False) I5 hx5 (stat I5 n5) st5 stop
      refine thnF td fun r s6 ⟨hr, I6⟩ => ?_
      subst hr
      have nC : H5 s3.heap.objs.size = none := by
        have z : H5 ce.locals = none := I6.free
        rwa [cL] at z
      obtain ⟨m, hn, _⟩ := I6.loc
      have hn : s6.heap.Ns ce.locals m := hn
      rw [cL] at hn
      obtain ⟨c0, c1, c2, c3, c4, c5⟩ := I3.fpOk (Nat.le_refl _) nC
      exact ⟨m, hn, fun h'' sb => ⟨.ref D, H5, (back I6).turned (t' := s6.toks) (fun b o hb e => (sb.2 b hb).trans e) c0 c1 c3 c4 c5, rfl, qq⟩⟩
    · have ti := T.item (Cx.blk X s3 H3 scope ce fp) rfl rfl rfl hot.1 i [] s5 _ H5 (fun _ _ => False) I5 hx5 (stat I5 n5) st5 go
      refine thnF ti fun r s6 ⟨u, hr, h6⟩ => ?_
      subst hr
      refine thnF h6 fun _ s7 ⟨x, H7, I7, r7, y7, st7, n7⟩ => ?_
      have I7' := I7.pinned (stat I7 n7) (T.obj _ _ st7)
      refine thnF (pg.run _ s7 _ H7 x u _ I7' r7 (step x H7 y7)) fun _ s8 ⟨σ8, H8, I8, hw8, q8⟩ => ?_
      refine thnF (pt.run _ s8 σ8 H8 _ I8 q8) fun b s9 ⟨H9, I9, q9⟩ => ?_
      have fin : ∀ {s' : Shared} {H' : Hp}, Inv (Cx.blk X s3 H3 scope ce fp) ([] ++ pinsAt fp s7.heap) σ8 H' s' → Nx H' → ∃ m, m < n ∧ ∃ i H', Inv (Cx.blk X s3 H3 scope ce fp) [] (wipe σ (own.map (·.2))) H' s' ∧ tn i s'.heap ∧ (∀ b ∈ fp, H' b = none) ∧ W i m H' := fun {s' H'} I' nx => by
        obtain ⟨m', hm, w'⟩ := hNx H' nx
        have pin' : ∀ b ∈ fp, ∀ o, s7.heap.get? b = some o → (s'.heap.get? b = some o ∧ H' b = none) := fun b hb o e => have z := I'.pin (b, o) (List.mem_append_right _ (List.mem_append_right _ (mem_pinsAt hb e))); ⟨z.1, z.2.1⟩
        have hl : (wipe σ (own.map (·.2))).length = σ8.length := (by rw [← hw8, wipe_length])
        refine ⟨m', hm, i + 1, H', (I'.unpinned (pins := [])).weak hl (fun j v e => (by rw [← hw8] at e; exact (wipe_some e).1)), T.keep _ _ _ st7 fun b hb o e => (pin' b hb o e).1, fun b hb => ?_, w'⟩
        obtain ⟨o, e, _⟩ := T.obj _ _ st7 b hb
        exact (pin' b hb o e).2
      cases b with
      | false => simp only [Bool.false_eq_true, if_false] at q9 ⊢; exact fin I9 q9
      | true =>
        simp only [if_true] at q9 ⊢
        exact thnF (pe.run _ s9 σ8 H9 _ I9 q9) fun z s10 ⟨yv, H10, I10, r10, acc, hD10, hz10, nx⟩ => (app_ok (X := Cx.blk X s3 H3 scope ce fp) I10 hD10 hz10 r10 fun s11 I11 => fin I11 nx)
  exact codeAny_compStart_list loop (T.self X.A 0 _ _ _ st4 loop)
end Pk

end
section
/-! Ph3: a tuple unpacked while an exception is handled. -/
namespace Pk
open PySem PySem.Spec PyProof.Rows L2
open HotX (HotAt raiseNew_hot)
open LamX (Tabs TabS ExtN CodeO)
theorem next_tend_hot {prog : Program} {w : World} {A : Around} {E : Value → Shared → Prop} {s : Shared} {it t x1 : Addr} {i : Nat} {items : Array Value} {Q : Option Value → Shared → Prop} (hh : A.handled = some (.ref x1)) (hot : HotH x1 s.heap) (hne : x1 ≠ it)
    (hit : IsTupIter s.heap it t i) (ht : IsTup s.heap t items) (hx : items[i]? = none)
    (hQ : ∀ h', Heap.ExtBut it s.heap h' → Q none { s with heap := h' }) : wpAny (model prog w) A (pyNext (.ref it)) Q E s := by
  obtain ⟨o, ho, hc, hd⟩ := id hit
  obtain ⟨ol, hol, _, nl, hdl⟩ := ht
  obtain ⟨o1, vs1, g1, d1, c1⟩ := hot
  unfold pyNext
  refine wpAny_bind (wpAny_attempt (wpAny_callSpecial?_slot (name := Str.ofString "__next__") hit.typeIs slot_tupleiter_next (wpAny_call_entry slot_tupleiter_next hit.typeIs entry_tupleiter_next ?_ (args_tupleiter_next _))))
  show wpAny _ _ (field (.ref it) 0 >>= _) _ _ s; refine wpAny_bind (wpAny_field ho hd (x := .ref t) rfl ?_)
  show wpAny _ _ (if (Value.ref t == Value.none) = true then _ else _) _ _ s; rw [if_neg (show ¬ ((Value.ref t == Value.none) = true) from Bool.false_ne_true)]
  show wpAny _ _ (field (.ref it) 1 >>= _) _ _ s; refine wpAny_bind (wpAny_field ho hd (x := .int i 0) rfl ?_)
  show wpAny _ _ (seqItems? (.ref t) >>= _) _ _ s; refine wpAny_bind (wpAny_seqItems hol hdl ?_)
  simp only [Int.toNat_natCast, hx]; refine wpAny_bind (wpAny_rule (wpAny_bind (wpAny_setField ho hd (by simp) ?_)))
  show wpAny _ _ (newExc (.type "StopIteration") [] >>= _) _ _ _; refine wpAny_bind ?_
  simp only [newExc, newTuple]; refine wpAny_bind (wpAny_newObj_type ?_ (by size_fits)); refine wpAny_bind (m := firstArgMember _ _) (wpAny_of_eq (a := Value.none) (by first | rfl | (simp only [firstArgMember]; rfl)) ?_)
  refine wpAny_newObj_type ?_ (by size_fits)
  have up : ∀ b oo, b ≠ it → s.heap.get? b = some oo → (s.heap.update it (Obj.mapFields fun x => x.setIfInBounds 0 Value.none)).get? b = some oo := fun b oo hb e => (Heap.get?_update_other _ _ fun z => hb z.symm).trans e
  have g2 := up x1 o1 hne g1
  have g3 := Heap.get?_push_of_some { cls := Value.type "tuple", data := Data.seq #[] } g2
  refine raiseNew_hot ⟨hh, o1, vs1, Heap.get?_push_of_some _ g3, d1, c1⟩ (Nat.ne_of_lt (Heap.lt_size g3)) (Heap.get?_push_size _ rfl) rfl (by first | (simp; done) | (simp; omega) | (simp only [Array.size_append]; simp; omega)) ?_
  refine wpAny_bind (wpAny_isInstance (T := "StopIteration") (b := true) ⟨_, Heap.get?_update_self _ (Heap.get?_push_size _ rfl) rfl, rfl⟩ isSubtype_stop (wpAny_pure (hQ _ fun b oo hb e => ?_)))
  have e3 := Heap.get?_push_of_some { cls := Value.type "tuple", data := Data.seq #[] } (up b oo hb e)
  exact (Heap.get?_update_other _ _ (Nat.ne_of_gt (Heap.lt_size e3))).trans (Heap.get?_push_of_some _ e3)
theorem unpackT_hot {prog : Program} {w : World} {A : Around} {E : Value → Shared → Prop} {s : Shared} {t x1 : Addr} {items : Array Value} {Q : List Value → Shared → Prop} (hh : A.handled = some (.ref x1)) (hot : HotH x1 s.heap) (ht : IsTup s.heap t items)
    (hQ : ∀ h', Heap.ExtBut s.heap.objs.size s.heap h' → Q items.toList { s with heap := h' }) : wpAny (model prog w) A (unpackItems (.ref t) items.size none) Q E s := by
  have hlt : t ≠ s.heap.objs.size := by obtain ⟨o, ho, _⟩ := ht; exact Nat.ne_of_lt (Heap.lt_size ho)
  have hlx : x1 ≠ s.heap.objs.size := by obtain ⟨o, _, g, _⟩ := hot; exact Nat.ne_of_lt (Heap.lt_size g)
  unfold unpackItems
  refine wpAny_bind ?_
  · unfold notIterableAtAll; refine wpAny_bind (wpAny_specialOf ht.typeIs slot_tuple_iter.lookup (wpAny_pure ?_))
    simp only [Bool.false_eq_true, if_false]; refine wpAny_bind (wpAny_holding (iter_tuple ht ?_))
    refine wpAny_bind (wpAny_holding (draw_tuple hlt items.size 0 _ _ ⟨_, Heap.get?_push_size _ rfl, rfl, rfl⟩ (ht.push _) (by omega) fun h1 hit1 hs1 => ?_))
    rw [show List.take items.size (List.drop 0 items.toList) = items.toList from by rw [List.drop_zero]; exact List.take_of_length_le (by simp), if_neg (by simp)]
    have ht1 : IsTup h1 t items := (ht.push _).extBut hs1.extBut hlt
    have hot1 : HotH x1 h1 := hot.keep fun o e => hs1.extBut x1 o hlx (Heap.get?_push_of_some _ e)
    refine wpAny_bind (wpAny_holding (next_tend_hot hh hot1 hlx hit1 ht1 (by simp) fun h2 he2 => ?_))
    simp only [Option.isSome_none, Bool.false_eq_true, if_false]
    exact wpAny_pure (hQ h2 fun b o hb e => (he2 b o hb (hs1.extBut b o hb (Heap.get?_push_of_some _ e))))
/-- (a, b) = a tuple -/
theorem pg_tupX {X : Cx} {x1 : Addr} {es : List Expr} {k : Nat} {pos : Pos} {t : TGs} {n : Nat} (hh : X.A.handled = some (.ref x1)) (hx : ∀ (pins : List (Addr × Obj)) (s : Shared) (σ : L2.St) (H : Hp), Inv X pins σ H s → HotH x1 s.heap) (h : PGs X es t)
    (hn : (assignEach es X.env).length = n) (hst : (assignEach es X.env).findIdx? (·.1) = none) : PG X (.Tuple es k pos) (gTup X.K n t) := by
  refine ⟨fun pins s σ H v u Q I r hw => ?_⟩
  obtain ⟨a, xs, e1, hq, hl, hw⟩ := hw
  subst e1
  cases r
  obtain ⟨its, rv, ht, hz⟩ := I.tuple hq
  rw [PyProof.Rows.assign_Tuple]
  have hlen : (assignEach es X.env).length = its.toArray.size := by simp [hn, ← hl, rv.length]
  refine wpAny_bind (wpAny_standAt ?_)
  unfold unpack
  rw [hlen, hst]
  refine wpAny_bind (wpAny_holding (unpackT_hot hh (hx pins s σ H I) ht fun h' hx => ?_))
  exact h.run pins _ σ H xs _ Q (I.kept (t' := s.toks) fun b o e => hx b o (Nat.ne_of_lt (Heap.lt_size e)) e) (by simpa using rv) hw
end Pk

end
section
/-! Ph4: the names of an error's classes, told while it is handled. -/
namespace Pk
open PySem PySem.Spec PyProof.Rows L2
open HotX (HotAt raiseNew_hot)
open L2H (RoomH Hot1 PinOk cxH inv_startH RoomH.deeper RoomH.depth)
open LamX (Tabs TabS ExtN CodeO)
/-- a def called while p is handled -/
theorem run_hot {CX : CXT} {P : Program} {w : World} {K : PySem.W.Frag} {mg : Str → Option Value} {base : Heap} {k : Nat} {f : Addr} {name qual : Str} {params : Arguments} {body : List Stmt} {scope : Scope} {fd : FuncData} {N ps : List Str} {A : Around} {outer : List Env} {s : Shared} {H : Hp} {args : Args} {us : List Value} {vs : List V} {Q : VK} {E : XK} {p : Addr × Obj}
    (F : FunD K name qual params body scope [] [] f fd) (S : FnScope N ps scope) (hr : RoomH (k + 1) A) (hot : Hot1 A p) (hpin : PinOk outer H s p) (e0 : Env0 P w K mg base A outer s H) (hb : BindsTo s fd args (ps.zip us)) (r : Vals vs us) (hl : vs.length = ps.length)
    (hbody : ∀ cdv, RoomH k (A.deeper (envOfC qual scope s.heap.objs.size f cdv)) → ∃ t, PSs (cxH CX P w K mg base N qual scope f cdv A outer s H E p) body t ∧ t { nx := fun _ H' => Q .non H', rt := Q } (L2.start N vs) H) : codeAny (model P w) A (.call (.ref f) args) (CR CX outer P w H s Q E) s := by
  obtain ⟨oc, od, dV, kV, doc, pm, an, cdv, ct, osl, rfl, lk, hcd, _, _⟩ := F.ex
  have KX : K.In s.heap := e0.mod.kin.keeps fun b o e => (e0.bs b o e).1
  have hkind : ∀ y ∈ ps.zip us, scope.names.lookup y.1 = some .local ∨ (scope.names.lookup y.1 = some .cell ∧ (((cellsFrom (s.heap.objs.size + 1) scope.names []).lookup y.1).isSome = true)) := fun ⟨n, v⟩ hy => (S.par n (List.of_mem_zip hy).1).elim .inl fun q => .inr ⟨q, PySem.W.cellsFrom_some _ _ _ (.inl q)⟩
  refine codeAny_call_function hr.depth (KX _ _ lk) rfl S.co S.gen rfl (PySem.W.codeRec_of KX hcd) (hb _ _ _ _ (wpAny_newFunctionEnv_cells S.kind hkind fun env he s1 x => ?_))
  subst he
  refine ⟨(e0.mod.nolimit.keeps fun b o e => (e0.bs b o e).1).keeps x.toInCall.keep, codeAny_func ?_⟩
  obtain ⟨t, ht, hq⟩ := hbody cdv (hr.deeper _)
  refine wpAny_mono (ht.run [] s1 (L2.start N vs) H _ (inv_startH S hpin e0 hl r x) hq) (fun fl s' hs => ?_) fun e s' hs => (hs)
  cases fl with
  | ret u => obtain ⟨v, σ', H', J, rv, q⟩ := hs; exact ⟨v, H', J.os, J.bare, J.base, J.hok, rv, q⟩
  | next => obtain ⟨σ', H', J, q⟩ := hs; exact ⟨.non, H', J.os, J.bare, J.base, J.hok, rfl, q⟩
  | brk => obtain ⟨_, _, _, q⟩ := hs; exact q.elim
  | cont => obtain ⟨_, _, _, q⟩ := hs; exact q.elim
/-- an error object of the class D, its context None -/
structure XObj (D : Addr) (oe : Obj) : Prop where
  cls : Zc (.ref D) none oe
  fld : ∃ vs : Array Value, oe.data = .fields vs ∧ vs[2]? = some .none
theorem call_isX {X : Cx} {a D : Addr} {oe : Obj} (hp : (a, oe) ∈ X.pn) (C : ExcC X.K D) (hz : XObj D oe) : CallR X (.builtin "isinstance") (rIsE X.K D a) := by
  intro pins s σ H xs us Q I r h
  obtain ⟨c, cv, b, rfl, hcv, e, q⟩ := h
  cases r with
  | cons rx rr => cases rr with
    | cons rt rr =>
      cases rr
      cases rx
      have ec := hcv _ rt
      subst ec
      have hget := (I.pin (a, oe) (List.mem_append_left _ hp)).1
      have J : PySem.W.InstAt s.heap a oe D none := by
        obtain ⟨⟨h1, h2⟩, vs, hv, _⟩ := hz
        obtain ⟨oc, od, oda, osl⟩ := oe
        dsimp only at h1 h2 hv
        subst h1 h2 hv
        exact ⟨hget, rfl, rfl, trivial⟩
      exact PySem.W.kia_one (PySem.W.handS_kitx_exc C.hg C.hk C.hs C.hd C.ha C.hn C.ht C.hm) I.kIn J e (fun z => nomatch z) fun tk => (⟨.bl b, H, I.kept (t' := tk) fun _ _ z => z, rfl, q⟩)
/-! ### the text of such a def -/
def kIs (Y : Ctx) (e : Str) : Expr → Option Str
  | .Call (.Name f _) [.Name x _, .Name c _] [] _ => if decide (f = "isinstance") && (decide (x = e) && (glb Y "isinstance" && glb Y c)) then some c else none
  | _ => none
def kIss (Y : Ctx) (e : Str) : List Expr → Option (List Str)
  | [] => some []
  | a :: l => match kIs Y e a, kIss Y e l with
    | some c, some r => some (c :: r)
    | _, _ => none
def kStrs : List Expr → Option (List Str)
  | [] => some []
  | .Constant (.str s) _ _ :: l => (kStrs l).map (s :: ·)
  | _ :: _ => none
def kAdd1 (get : List Expr → Option (List Str)) (x : Str) : Stmt → Option (List Str)
  | .Assign [.Name y _] (.BinOp (.Name z _) .Add (.List l _) _) _ => if decide (y = x) && decide (z = x) then get l else none
  | _ => none
def kSet1 (get : List Expr → Option (List Str)) (x : Str) : Stmt → Option (List Str)
  | .Assign [.Name y _] (.List l _) _ => if decide (y = x) then get l else none
  | _ => none
/-- x = x + [..], one behind another -/
def kAdds (get : List Expr → Option (List Str)) (x : Str) (acc : List Str) : List Stmt → List Str × List Stmt
  | [] => (acc, [])
  | st :: r => match kAdd1 get x st with
    | some cs => kAdds get x (acc ++ cs) r
    | none => (acc, st :: r)
def kRet (Y : Ctx) (sm wd w g : Str) : Stmt → Bool
  | .Return (some (.Call (.Attribute (.Constant (.str sp) _ _) jn ap) [.ListComp (.Name w1 _) [⟨.Tuple [.Name w2 _, .Name g2 _] _ _, .Call (.Name zp _) [.Name wd1 _, .Name sm1 _] [] _, [.Name g3 _], as⟩] sc _] [] cp)) _ =>
    decide (sp = " ") && decide (jn = "join") && decide (w1 = w) && decide (w2 = w) && decide (g2 = g) && decide (g3 = g) && decide (zp = "zip") && glb Y "zip" && decide (wd1 = wd) && decide (sm1 = sm) && decide (as = 0) && (ap.endLine == cp.line) && blkC Y.N Y.sc sc [(w, 3), (g, 4)] && (locB (blkY Y sc) w && (locB (blkY Y sc) g && (visB (blkY Y sc) w && visB (blkY Y sc) g)))
  | _ => false
/-- the classes asked for, the words told -/
def kAll (Y : Ctx) (e sm wd w g : Str) : List Stmt → Option (List Str × List Str)
  | s0 :: r => match kSet1 (kIss Y e) sm s0 with
    | some c0 => match kAdds (kIss Y e) sm c0 r with
      | (cs, s1 :: r2) => match kSet1 kStrs wd s1 with
        | some w0 => match kAdds kStrs wd w0 r2 with
          | (ws, [st]) => if kRet Y sm wd w g st then some (cs, ws) else none
          | _ => none
        | none => none
      | _ => none
    | none => none
  | [] => none
/-! ### what it computes -/
/-- a class by its name: an own one, or a built-in one -/
inductive CName (mg : Str → Option Value) (c : Str) : V → Value → Prop
  | own {a : Addr} : mg c = some (.ref a) → CName mg c (.ref a) (.ref a)
  | blt {T : String} : mg c = none → bootBuiltins c = some (.type T) → c ≠ "__name__" → CName mg c (.ty T) (.type T)
theorem CName.rel {mg : Str → Option Value} {c : Str} {v : V} {u : Value} (h : CName mg c v u) : ∀ z, RelV v z → z = u := by
  cases h with
  | own _ => exact fun z q => q
  | blt _ _ _ => exact fun z q => q
/-- the context in which such a def's body runs -/
structure KCx (X : Cx) (N : List Str) (sc : Scope) (a D : Addr) (oe : Obj) : Prop where
  hN : X.N = N
  nd : N.Nodup
  hsc : X.env.scope = sc
  hot : HotX1 X a
  pn : (a, oe) ∈ X.pn
  C : ExcC X.K D
  x : XObj D oe
  isi : X.mg "isinstance" = none
  zip : X.mg "zip" = none
abbrev kY (N : List Str) (sc : Scope) : Ctx := ⟨N, sc, [], false⟩
section
variable {X : Cx} {N : List Str} {sc : Scope} {a D : Addr} {oe : Obj} {e sm wd w g : Str} {bit : Str → Bool}
theorem KCx.gl (k : KCx X N sc a D oe) {x : Str} (h : glb (kY N sc) x = true) : Gl X x ∧ (x == ("__debug__" : Str)) = false := by
  unfold glb at h
  split at h
  · rename_i q
    refine ⟨?_, by simpa using h⟩
    unfold Gl Env.kindOf
    rw [k.hsc]
    exact q
  · cases h
/-- what is known of the classes asked for -/
def Bits (mg : Str → Option Value) (K : PySem.W.Frag) (D : Addr) (bit : Str → Bool) (cs : List Str) : Prop := ∀ c ∈ cs, ∃ v u, CName mg c v u ∧ PySem.W.kitOne K (.ref D) u = some (bit c)
theorem kIs_ok (k : KCx X N sc a D oe) (he : N[0]? = some e) (hl : sc.names.lookup e = some .local) (hd : (e == ("__debug__" : Str)) = false) (hcd : (e == ("__classdict__" : Str)) = false) {x : Expr} {c : Str} (h : kIs (kY N sc) e x = some c) (hb : Bits X.mg X.K D bit [c]) :
    PE X x (fun σ H Q => σ[0]? = some (some (.ref a)) ∧ Q (.bl (bit c)) H) ∧ notStar x = true := by
  unfold kIs at h
  split at h
  · split at h
    · rename_i f p1 y p2 c' p3 p4 hh
      cases h
      simp only [Bool.and_eq_true, decide_eq_true_eq] at hh
      obtain ⟨rfl, rfl, g1, g2⟩ := hh
      obtain ⟨hg1, _⟩ := k.gl g1
      obtain ⟨hg2, hd2⟩ := k.gl g2
      obtain ⟨v, u, hc, hk⟩ := hb c (List.mem_singleton_self c)
      have pv : PE X (.Name y p2) (tVar 0) := pe_var (by rw [k.hN]; exact he) (by unfold Vis; rw [k.hsc]; exact .inl hl) hd hcd
      have pc : PE X (.Name c p3) (tC v) := by
        cases hc with
        | own hm => exact pe_glob hg2 hm rfl hd2
        | blt hm hv hn => exact pe_bltn hg2 hm hv rfl hn hd2
      refine ⟨PE.imp (pe_callB (call_isX k.pn k.C k.x) hg1 k.isi (by decide +kernel) (pa_cons pv (pa_cons pc pa_nil))) fun σ H Q ⟨h1, h2⟩ => ?_, rfl⟩
      exact ⟨.ref a, h1, v, u, bit c, rfl, hc.rel, hk, h2⟩
    · cases h
  · cases h
theorem kIss_ok (k : KCx X N sc a D oe) (he : N[0]? = some e) (hl : sc.names.lookup e = some .local) (hd : (e == ("__debug__" : Str)) = false) (hcd : (e == ("__classdict__" : Str)) = false) : ∀ {l : List Expr} {cs : List Str}, kIss (kY N sc) e l = some cs → Bits X.mg X.K D bit cs →
    PA X l (fun σ H Q => σ[0]? = some (some (.ref a)) ∧ Q (cs.map fun c => V.bl (bit c)) H)
  | [], cs, h, hb => by
    cases h
    exact PA.imp pa_nil fun σ H Q ⟨_, q⟩ => q
  | x :: l, cs, h, hb => by
    unfold kIss at h
    cases h1 : kIs (kY N sc) e x with
    | none => rw [h1] at h; cases h
    | some c =>
      cases h2 : kIss (kY N sc) e l with
      | none => rw [h1, h2] at h; cases h
      | some r =>
        rw [h1, h2] at h
        cases h
        obtain ⟨p1, p2⟩ := kIs_ok k he hl hd hcd h1 (bit := bit) fun z hz => hb z (by rw [List.mem_singleton.mp hz]; exact List.mem_cons_self ..)
        exact PA.imp (pa_cons p1 (kIss_ok k he hl hd hcd h2 fun z hz => hb z (List.mem_cons_of_mem _ hz)) (star_cons p2)) fun σ H Q ⟨q1, q2⟩ => ⟨q1, q1, q2⟩
theorem kStrs_ok : ∀ {l : List Expr} {ws : List Str}, kStrs l = some ws → PA X l (fun σ H Q => Q (ws.map V.str) H)
  | [], ws, h => by
    cases h
    exact pa_nil
  | x :: l, ws, h => by
    cases x with
    | Constant c j p =>
      cases c with
      | str s =>
        have h' : (kStrs l).map (s :: ·) = some ws := h
        cases h2 : kStrs l with
        | none => rw [h2] at h'; cases h'
        | some r =>
          rw [h2] at h'
          cases h'
          exact PA.imp (pa_cons pe_str (kStrs_ok h2)) fun σ H Q q => q
      | _ => cases h
    | _ => cases h
abbrev HX (H H' : Hp) : Prop := ∀ b o, H b = some o → H' b = some o
theorem hx_upd {H : Hp} {p : Addr} {o : HO} (h : H p = none) : HX H (upd H p o) := fun b o' e => by
  rw [upd_ne (fun z => by rw [z, h] at e; cases e)]
  exact e
variable {get : List Expr → Option (List Str)} {x : Str} {i : Nat} {val : Str → V} {pre : L2.St → Prop} {tot : List Str}
theorem kSet_ok (hnd : X.N.Nodup) (hi : X.N[i]? = some x) (hx : X.env.scope.names.lookup x = some .local) (hG : ∀ l cs, get l = some cs → (∀ z ∈ cs, z ∈ tot) → PA X l (fun σ H Q => pre σ ∧ Q (cs.map val) H)) {st : Stmt} {cs : List Str} (h : kSet1 get x st = some cs) (hsub : ∀ z ∈ cs, z ∈ tot) (hlen : cs.length ≤ 1000) :
    PS X st (fun D σ H => pre σ ∧ ∀ p, H p = none → D.nx (σ.set i (some (.ref p))) (upd H p (.lst (cs.map val)))) := by
  unfold kSet1 at h
  split at h
  · split at h
    · rename_i hh
      have := of_decide_eq_true hh
      subst this
      exact PS.imp (ps_set hnd hi (.inl hx) (pe_lst (hG _ _ h hsub)) (noswap rfl) (.inr hx)) fun D σ H ⟨h1, h2⟩ => ⟨h1, (by rw [List.length_map]; exact Nat.le_trans hlen (by decide)), fun p hp => h2 p hp⟩
    · cases h
  · cases h
theorem kAdds_sub {get : List Expr → Option (List Str)} {x : Str} : ∀ {r : List Stmt} {acc ws : List Str} {rest : List Stmt}, kAdds get x acc r = (ws, rest) → ∃ more, ws = acc ++ more
  | [], acc, ws, rest, h => by cases h; exact ⟨[], (List.append_nil _).symm⟩
  | st :: r, acc, ws, rest, h => by
    unfold kAdds at h
    cases h1 : kAdd1 get x st with
    | none => rw [h1] at h; cases h; exact ⟨[], (List.append_nil _).symm⟩
    | some cs =>
      rw [h1] at h
      obtain ⟨more, e⟩ := kAdds_sub h
      exact ⟨cs ++ more, by rw [e, List.append_assoc]⟩
theorem kAdds_ok (hnd : X.N.Nodup) (hi : X.N[i]? = some x) (hx : X.env.scope.names.lookup x = some .local) (hd : (x == ("__debug__" : Str)) = false) (hcd : (x == ("__classdict__" : Str)) = false)
    (hpre : ∀ σ v, pre σ → pre (σ.set i v)) {ws : List Str} (hG : ∀ l cs, get l = some cs → (∀ z ∈ cs, z ∈ ws) → PA X l (fun σ H Q => pre σ ∧ Q (cs.map val) H)) {rest : List Stmt} {tr : TS} (hr : PSs X rest tr) (hlen : ws.length ≤ 1000) : ∀ {r : List Stmt} {acc : List Str}, kAdds get x acc r = (ws, rest) →
    PSs X r (fun D σ H => pre σ ∧ (∃ p, σ[i]? = some (some (.ref p)) ∧ H p = some (.lst (acc.map val))) ∧ ∀ σ' H' p, σ'.length = σ.length → (∀ j, j ≠ i → σ'[j]? = σ[j]?) → HX H H' → σ'[i]? = some (some (.ref p)) → H' p = some (.lst (ws.map val)) → tr D σ' H')
  | [], acc, h => by
    cases h
    exact PSs.imp hr fun D σ H ⟨_, ⟨p, h1, h2⟩, h3⟩ => h3 σ H p rfl (fun _ _ => rfl) (fun _ _ e => e) h1 h2
  | st :: r, acc, h => by
    unfold kAdds at h
    cases h1 : kAdd1 get x st with
    | none =>
      rw [h1] at h
      cases h
      exact PSs.imp hr fun D σ H ⟨_, ⟨p, h1, h2⟩, h3⟩ => h3 σ H p rfl (fun _ _ => rfl) (fun _ _ e => e) h1 h2
    | some cs =>
      rw [h1] at h
      have ih := kAdds_ok hnd hi hx hd hcd hpre hG hr hlen h
      obtain ⟨more, hmore⟩ := kAdds_sub h
      have hle : acc.length + cs.length ≤ ws.length := by rw [hmore, List.length_append, List.length_append]; omega
      have hsub : ∀ z ∈ cs, z ∈ ws := fun z hz => by rw [hmore]; simp [hz]
      unfold kAdd1 at h1
      split at h1
      · split at h1
        · rename_i hh
          rw [Bool.and_eq_true, decide_eq_true_eq, decide_eq_true_eq] at hh
          obtain ⟨rfl, rfl⟩ := hh
          refine PSs.imp (pss_cons (ps_set hnd hi (.inl hx) (pe_op op_cat (pe_var hi (.inl hx) hd hcd) (pe_lst (hG _ _ h1 hsub))) (noswap rfl) (.inr hx)) ih) fun D σ H ⟨h1, ⟨p, h2, h3⟩, h4⟩ => ?_
          refine ⟨.ref p, h2, h1, (by rw [List.length_map]; exact Nat.le_trans (show cs.length ≤ 1000 by omega) (by decide)), fun q hq => ⟨p, q, acc.map val, cs.map val, rfl, rfl, hx_upd hq _ _ h3, upd_same, ?_, fun z hz => ?_⟩⟩
          · rw [List.length_map, List.length_map]
            have : (1000 : Nat) ≤ sizeLine := by decide
            omega
          · have hil : i < σ.length := by
              rcases Nat.lt_or_ge i σ.length with z | z
              · exact z
              · rw [List.getElem?_eq_none z] at h2; cases h2
            refine ⟨hpre _ _ h1, ⟨z, by rw [List.getElem?_set_self hil], by rw [upd_same, List.map_append]⟩, fun σ' H' p' l1 l2 l3 l4 l5 => h4 σ' H' p' (l1.trans (List.length_set ..)) (fun j hj => (l2 j hj).trans (List.getElem?_set_ne (fun e => hj e.symm))) (fun b o e => l3 b o (hx_upd hz _ _ (hx_upd hq _ _ e))) l4 l5⟩
        · cases h1
      · cases h1
/-- the words whose classes are the error's -/
def kSel (bit : Str → Bool) (ws cs : List Str) : List Str := ((ws.zip cs).filter fun q => bit q.2).map (·.1)
theorem kSel_snoc (bit : Str → Bool) (ws cs : List Str) (i : Nat) (w c : Str) (hw : ws[i]? = some w) (hc : cs[i]? = some c) : kSel bit (ws.take (i + 1)) (cs.take (i + 1)) = kSel bit (ws.take i) (cs.take i) ++ if bit c = true then [w] else [] := by
  have e1 : ws.take (i + 1) = ws.take i ++ [w] := by rw [List.take_succ, hw]; rfl
  have e2 : cs.take (i + 1) = cs.take i ++ [c] := by rw [List.take_succ, hc]; rfl
  have l1 := (List.getElem?_eq_some_iff.mp hw).1
  have l2 := (List.getElem?_eq_some_iff.mp hc).1
  unfold kSel
  rw [e1, e2, List.zip_append (by rw [List.length_take, List.length_take]; omega), List.filter_append, List.map_append]
  congr 1
  show (List.filter (fun q => bit q.2) [(w, c)]).map (·.1) = _
  rw [List.filter_cons]
  split <;> rfl
theorem kSel_len (bit : Str → Bool) (ws cs : List Str) : ((kSel bit ws cs).map (·.length)).sum + (kSel bit ws cs).length ≤ (ws.map (·.length)).sum + ws.length := by
  induction ws generalizing cs with
  | nil => exact Nat.le_refl _
  | cons w ws ih => cases cs with
    | nil => exact Nat.zero_le _
    | cons c cs =>
      have := ih cs
      unfold kSel at this ⊢
      rw [List.zip_cons_cons, List.filter_cons]
      split
      · simp only [List.map_cons, List.sum_cons, List.length_cons] at this ⊢; omega
      · simp only [List.map_cons, List.sum_cons, List.length_cons] at this ⊢; omega
theorem get_set3 {σ : L2.St} {a b : V} (h : σ.length = 5) : ((σ.set 3 (some a)).set 4 (some b))[3]? = some (some a) ∧ ((σ.set 3 (some a)).set 4 (some b))[4]? = some (some b) := by
  constructor
  · rw [List.getElem?_set_ne (by omega), List.getElem?_set_self (by omega)]
  · rw [List.getElem?_set_self (by rw [List.length_set]; omega)]
/-- names within a block -/
theorem blk_sc (k : KCx X N sc a D oe) {scp : Scope} {s : Shared} {H : Hp} {C : Addr} {cl : List (Str × Addr)} {fp : List Addr} : (Cx.blk X s H scp (compEnvC scp cl C X.env) fp).env.scope = (blkY (kY N sc) scp).sc := by
  show relabel scp X.env = relS scp sc
  unfold relabel relS
  rw [← k.hsc]
  rfl
theorem blk_loc (k : KCx X N sc a D oe) {scp : Scope} (hu : ∀ y ∈ scp.names, scp.names.lookup y.1 = some y.2) {s : Shared} {H : Hp} {C : Addr} {cl : List (Str × Addr)} {fp : List Addr} {x : Str} (h : locB (blkY (kY N sc) scp) x = true) :
    L2.Loc (Cx.blk X s H scp (compEnvC scp cl C X.env) fp).env.scope x ∧ ((Cx.blk X s H scp (compEnvC scp cl C X.env) fp).fn x = true ∨ (Cx.blk X s H scp (compEnvC scp cl C X.env) fp).env.scope.names.lookup x = some .local) := by
  have e := blk_sc k (scp := scp) (s := s) (H := H) (C := C) (cl := cl) (fp := fp)
  unfold locB at h
  unfold L2.Loc
  rw [e]
  split at h
  · rename_i q; exact ⟨.inl q, .inr q⟩
  · rename_i q
    refine ⟨.inr q, .inl ?_⟩
    have hm : x ∈ (blkY (kY N sc) scp).fns := by simpa using h
    show (scp.names.lookup x == some .cell) = true
    obtain ⟨y, hy, rfl⟩ := List.mem_map.mp hm
    obtain ⟨hy, hc⟩ := List.mem_filter.mp hy
    rw [hu y hy, eq_of_beq hc]
    rfl
  · cases h
theorem blk_vis (k : KCx X N sc a D oe) {scp : Scope} {s : Shared} {H : Hp} {C : Addr} {cl : List (Str × Addr)} {fp : List Addr} {x : Str} (h : visB (blkY (kY N sc) scp) x = true) : Vis (Cx.blk X s H scp (compEnvC scp cl C X.env) fp).env.scope x := by
  unfold visB at h
  unfold Vis
  rw [blk_sc k]
  split at h
  · exact .inl (by assumption)
  · exact .inr (.inl (by assumption))
  · exact .inr (.inr (by assumption))
  · cases h
theorem kRet_ok (k : KCx X N sc a D oe) (h5 : N = [e, sm, wd, w, g]) (hsm : sc.names.lookup sm = some .local) (hwd : sc.names.lookup wd = some .local) (dN : ∀ y ∈ N, (y == ("__debug__" : Str)) = false ∧ (y == ("__classdict__" : Str)) = false)
    {st : Stmt} (h : kRet (kY N sc) sm wd w g st = true) {ws cs : List Str} (hl : ws.length = cs.length) (hs : (ws.map (·.length)).sum + ws.length ≤ 16777216) (hl2 : ws.length ≤ 1000) :
    PS X st (fun D σ H => ∃ p q, σ.length = 5 ∧ σ[1]? = some (some (.ref p)) ∧ σ[2]? = some (some (.ref q)) ∧ H p = some (.lst (cs.map fun c => V.bl (bit c))) ∧ H q = some (.lst (ws.map V.str)) ∧ ∀ H', HX H H' → D.rt (.str (Txt.join " " (kSel bit ws cs))) H') := by
  unfold kRet at h
  split at h
  · rename_i sp j1 p1 jn ap w1 p2 w2 p3 g2 p4 kk p5 zp p6 wd1 p7 sm1 p8 p9 g3 p10 as scp p11 cp p12
    simp only [Bool.and_eq_true, decide_eq_true_eq] at h
    obtain ⟨⟨⟨⟨⟨⟨⟨⟨⟨⟨⟨⟨⟨e1, e2⟩, e3⟩, e4⟩, e5⟩, e6⟩, e7⟩, hzg⟩, e8⟩, e9⟩, e10⟩, hline⟩, hblk⟩, hv1, hv2, hv3, hv4⟩ := h
    subst e1 e2 e3 e5 e7 e10
    subst e4 e6 e8 e9
    subst h5
    have hN := k.hN
    have B : BlkOk X.N X.env.scope scp [(w2, 3), (g3, 4)] := by
      rw [hN, k.hsc]
      exact blkOk_by hblk
    have n1 : X.N[1]? = some sm1 := by rw [hN]; rfl
    have n2 : X.N[2]? = some wd1 := by rw [hN]; rfl
    have n3 : X.N[3]? = some w2 := by rw [hN]; rfl
    have n4 : X.N[4]? = some g3 := by rw [hN]; rfl
    have hnd : X.N.Nodup := by rw [hN]; exact k.nd
    have d1 := dN sm1 (by simp)
    have d2 := dN wd1 (by simp)
    have d3 := dN w2 (by simp)
    have d4 := dN g3 (by simp)
    have P := pe_lcX (X := X) (pos := p11) k.hot hnd (pi_zipX (kk := kk) (tpos := p5) (elts := [.Name w2 p3, .Name g3 p4]) (p := p6) (pos := p9) k.hot (k.gl hzg).1 k.zip (pa_cons (pe_var (pos := p7) n2 (by unfold Vis; rw [k.hsc]; exact .inl hwd) d2.1 d2.2) (pa_cons (pe_var (pos := p8) n1 (by unfold Vis; rw [k.hsc]; exact .inl hsm) d1.1 d1.2) pa_nil)) rfl rfl) B
      (g := gTup X.K 2 (gCons (gName 3) (gCons (gName 4) gNil))) (tt := tB (tVar 4)) (te := tVar 3) (elt := .Name w2 p2) (ifs := [.Name g3 p10])
      (fun s H C cl fp hb => pg_tupX (X := Cx.blk X s H scp (compEnvC scp cl C X.env) fp) (x1 := a) k.hot.1 (fun pins s σ H I => hb.at I) (pgs_cons (pg_name hnd n3 (blk_loc k B.uniq hv1).1 (blk_loc k B.uniq hv1).2) (pgs_cons (pg_name hnd n4 (blk_loc k B.uniq hv2).1 (blk_loc k B.uniq hv2).2) pgs_nil)) rfl rfl)
      (fun s H C cl fp => pts_one (pt_val (pe_var n4 (blk_vis k hv4) d4.1 d4.2))) (fun s H C cl fp => pe_var n3 (blk_vis k hv3) d3.1 d3.2) (fun x => noFold_ok rfl)
    refine PS.imp (ps_ret (pe_join (o := .Constant (.str " ") j1 p1) (apos := ap) (pos := cp) pe_str P rfl rfl hline)) fun D σ H ⟨p, q, hlen, s1, s2, h1, h2, hk⟩ => ?_
    refine ⟨⟨" ", rfl⟩, .ref q, s2, .ref p, s1, q, p, ws.map V.str, cs.map fun c => V.bl (bit c), rfl, h2, h1, fun L hL => ?_⟩
    have hpL : p ≠ L := fun z => by rw [z, hL] at h1; cases h1
    have hqL : q ≠ L := fun z => by rw [z, hL] at h2; cases h2
    refine ⟨fun i m H' => m = ws.length - i ∧ i ≤ ws.length ∧ (∀ b o, b ≠ L → H b = some o → H' b = some o) ∧ H' L = some (.lst ((kSel bit (ws.take i) (cs.take i)).map V.str)), ⟨ws.length, by simp, Nat.zero_le _, fun b o hb e => by rw [upd_ne hb]; exact e, by rw [upd_same]; rfl⟩, ?_⟩
    rintro i m H' ⟨rfl, hi, hx, hL'⟩
    rcases Nat.lt_or_ge i ws.length with hlt | hge
    · refine .inr ⟨⟨by rw [List.length_map, List.length_map]; omega, hx _ _ hqL h2, hx _ _ hpL h1⟩, fun H2 => (∀ b o, b ≠ L → H b = some o → H2 b = some o) ∧ H2 L = some (.lst ((kSel bit (ws.take (i + 1)) (cs.take (i + 1))).map V.str)), fun H2 ⟨y1, y2⟩ => ⟨ws.length - (i + 1), by omega, rfl, hlt, y1, y2⟩, ?_⟩
      rintro x H2 ⟨T, x1, y1, rfl, hT, rfl, hx1, hy1⟩
      have hw : ws[i]? = some ws[i] := List.getElem?_eq_getElem hlt
      have hc : cs[i]? = some (cs[i]'(by omega)) := List.getElem?_eq_getElem (by omega)
      rw [List.getElem?_map, hw] at hx1
      rw [List.getElem?_map, hc] at hy1
      cases hx1
      cases hy1
      have hTL : T ≠ L := fun z => by rw [z, hL'] at hT; cases hT
      have hsn := kSel_snoc bit ws cs i _ _ hw hc
      have hwl : (wipe σ [3, 4]).length = 5 := by rw [wipe_length]; exact hlen
      obtain ⟨g1, g2⟩ := get_set3 (σ := wipe σ [3, 4]) (a := V.str ws[i]) (b := V.bl (bit (cs[i]'(by omega)))) hwl
      have hu : HX H' (upd H' T (.tup [V.str ws[i], V.bl (bit (cs[i]'(by omega)))])) := hx_upd hT
      refine ⟨T, _, rfl, SqT.of upd_same, rfl, _, _, rfl, _, _, rfl, rfl, ?_, V.bl (bit (cs[i]'(by omega))), g2, _, rfl, ?_⟩
      · have e2 : wipe (((wipe σ [3, 4]).set 3 (some (V.str ws[i]))).set 4 (some (V.bl (bit (cs[i]'(by omega)))))) [3, 4] = wipe (wipe σ [3, 4]) [3, 4] := wipe_ext (by rw [List.length_set, List.length_set]) fun j hj => by
          rw [List.getElem?_set_ne (fun z => hj (by simp [← z])), List.getElem?_set_ne (fun z => hj (by simp [← z]))]
        exact e2.trans (wipe_wipe fun _ h => h)
      · cases hbit : bit (cs[i]'(by omega)) with
        | true =>
          rw [hbit, if_pos rfl] at hsn
          refine iteT ⟨V.str ws[i], g1, (kSel bit (ws.take i) (cs.take i)).map V.str, hu _ _ hL', ?_, fun b o hb e => ?_, ?_⟩
          · rw [List.length_map]
            have e3 : (kSel bit (ws.take i) (cs.take i)).length ≤ ws.length := by
              unfold kSel
              rw [List.length_map]
              refine Nat.le_trans (List.length_filter_le ..) ?_
              rw [List.length_zip, List.length_take]
              omega
            have : (1000 : Nat) < sizeLine := by decide
            omega
          · rw [upd_ne hb]; exact hu _ _ (hx b o hb e)
          · rw [upd_same, hsn, List.map_append]; rfl
        | false =>
          rw [hbit, if_neg Bool.false_ne_true, List.append_nil] at hsn
          exact iteF ⟨fun b o hb e => hu _ _ (hx b o hb e), by rw [hsn]; exact hu _ _ hL'⟩
    · have ei : i = ws.length := by omega
      subst ei
      rw [List.take_length, hl, List.take_length] at hL'
      refine .inl ⟨⟨by rw [List.length_map, List.length_map]; omega, hx _ _ hqL h2, hx _ _ hpL h1⟩, " ", L, kSel bit ws cs, rfl, rfl, .inl (SqL.of hL'), ?_, hk H' fun b o e => hx b o (fun z => by rw [z, hL] at e; cases e) e⟩
      have := kSel_len bit ws cs
      have e4 : (" " : Str).length = 1 := by decide
      rw [e4]
      omega
  · cases h
end
end Pk

end
section
/-! Ph5: the def that tells an error's classes, called in an except suite. -/
namespace Pk
open PySem PySem.Spec PyProof.Rows L2
open L2H (RoomH Hot1 PinOk cxH inv_startH RoomH.deeper RoomH.depth)
open LamX (Tabs TabS ExtN CodeO)
/-- the text of such a def, as checked -/
structure KDef (d : He.DefD) (N : List Str) (cs ws : List Str) (e sm wd w g : Str) : Prop where
  five : N = [e, sm, wd, w, g]
  sc : FnScope N [e] d.scope
  l0 : d.scope.names.lookup e = some .local
  l1 : d.scope.names.lookup sm = some .local
  l2 : d.scope.names.lookup wd = some .local
  dn : ∀ y ∈ N, (y == ("__debug__" : Str)) = false ∧ (y == ("__classdict__" : Str)) = false
  body : kAll ⟨N, d.scope, [], false⟩ e sm wd w g d.body = some (cs, ws)
  len : ws.length = cs.length
  sum : (ws.map (·.length)).sum + ws.length ≤ 16777216
  le : ws.length ≤ 1000
  bind : ∀ (kV doc pm : Value) (an : Option Addr) (cdv ct : Value) (us : List Value), us.length = 1 → bindArgs (PySem.W.fnOf d.name d.qual d.params d.body d.scope .none kV doc pm an cdv ct) ⟨us, []⟩ = pure (([e] : List Str).zip us)
section
variable {X : Cx} {a D : Addr} {oe : Obj} {d : He.DefD} {N cs ws : List Str} {e sm wd w g : Str} {bit : Str → Bool}
theorem kinds_body (o : KDef d N cs ws e sm wd w g) (k : KCx X N d.scope a D oe) (hb : Bits X.mg X.K D bit cs) :
    PSs X d.body (fun E σ H => σ.length = 5 ∧ σ[0]? = some (some (.ref a)) ∧ ∀ H', HX H H' → E.rt (.str (Txt.join " " (kSel bit ws cs))) H') := by
  have h := o.body
  unfold kAll at h
  split at h
  · rename_i s0 r heq
    cases h1 : kSet1 (kIss ⟨N, d.scope, [], false⟩ e) sm s0 with
    | none => rw [h1] at h; cases h
    | some c0 =>
      rw [h1] at h
      dsimp only at h
      cases h2 : kAdds (kIss ⟨N, d.scope, [], false⟩ e) sm c0 r with
      | mk cs1 r1 =>
        rw [h2] at h
        cases r1 with
        | nil => cases h
        | cons s1 r2 =>
          dsimp only at h
          cases h3 : kSet1 kStrs wd s1 with
          | none => rw [h3] at h; cases h
          | some w0 =>
            rw [h3] at h
            dsimp only at h
            cases h4 : kAdds kStrs wd w0 r2 with
            | mk ws1 r3 =>
              rw [h4] at h
              cases r3 with
              | nil => cases h
              | cons st r4 =>
                cases r4 with
                | cons _ _ => cases h
                | nil =>
                  dsimp only at h
                  split at h
                  · rename_i hret
                    cases h
                    have hN := k.hN
                    have hnd : X.N.Nodup := by rw [hN]; exact k.nd
                    have five := o.five
                    have i0 : N[0]? = some e := by rw [five]; rfl
                    have i1 : X.N[1]? = some sm := by rw [hN, five]; rfl
                    have i2 : X.N[2]? = some wd := by rw [hN, five]; rfl
                    have de := o.dn e (by rw [five]; simp)
                    have d1 := o.dn sm (by rw [five]; simp)
                    have d2 := o.dn wd (by rw [five]; simp)
                    have hl := o.len
                    have hle := o.le
                    obtain ⟨m1, hm1⟩ := kAdds_sub h2
                    obtain ⟨m2, hm2⟩ := kAdds_sub h4
                    have lc0 : c0.length ≤ 1000 := by rw [hm1, List.length_append] at hl; omega
                    have lw0 : w0.length ≤ 1000 := by rw [hm2, List.length_append] at hle; omega
                    have G1 : ∀ l c, kIss ⟨N, d.scope, [], false⟩ e l = some c → (∀ z ∈ c, z ∈ cs) → PA X l (fun σ H Q => σ[0]? = some (some (.ref a)) ∧ Q (c.map fun c => V.bl (bit c)) H) := fun l c hc hm => kIss_ok k i0 o.l0 de.1 de.2 hc fun z hz => hb z (hm z hz)
                    have G2 : ∀ l c, kStrs l = some c → (∀ z ∈ c, z ∈ ws) → PA X l (fun σ H Q => True ∧ Q (c.map V.str) H) := fun l c hc _ => PA.imp (kStrs_ok hc) fun σ H Q ⟨_, q⟩ => q
                    have L1 : X.env.scope.names.lookup sm = some .local := by rw [k.hsc]; exact o.l1
                    have L2' : X.env.scope.names.lookup wd = some .local := by rw [k.hsc]; exact o.l2
                    have R := kRet_ok (bit := bit) k five o.l1 o.l2 o.dn hret hl o.sum hle
                    have A2 := kAdds_ok (val := V.str) (pre := fun _ => True) hnd i2 L2' d2.1 d2.2 (fun _ _ _ => trivial) G2 (pss_one R) hle h4
                    have S2 := kSet_ok (val := V.str) (pre := fun _ => True) hnd i2 L2' G2 h3 (fun z hz => by rw [hm2]; simp [hz]) lw0
                    have A1 := kAdds_ok (val := fun c => V.bl (bit c)) (pre := fun σ => σ[0]? = some (some (.ref a))) hnd i1 L1 d1.1 d1.2 (fun σ v hσ => by rw [List.getElem?_set_ne (by omega)]; exact hσ) G1 (pss_cons S2 A2) (by omega) h2
                    have S1 := kSet_ok (val := fun c => V.bl (bit c)) (pre := fun σ => σ[0]? = some (some (.ref a))) hnd i1 L1 G1 h1 (fun z hz => by rw [hm1]; simp [hz]) lc0
                    rw [heq]
                    refine PSs.imp (pss_cons S1 A1) fun E σ H ⟨q5, q0, qk⟩ => ⟨q0, fun p hp => ⟨by rw [List.getElem?_set_ne (by omega)]; exact q0, ⟨p, by rw [List.getElem?_set_self (by omega)], upd_same⟩, ?_⟩⟩
                    intro σ1 H1 p1 l1 f1 x1 s1' y1
                    refine ⟨trivial, fun r hr => ⟨trivial, ⟨r, by rw [List.getElem?_set_self (by rw [l1, List.length_set]; omega)], upd_same⟩, ?_⟩⟩
                    intro σ2 H2 p2 l2 f2 x2 s2' y2
                    have xx : HX H H2 := fun b o hbo => x2 _ _ (hx_upd hr _ _ (x1 _ _ (hx_upd hp _ _ hbo)))
                    refine ⟨p1, p2, by rw [l2, List.length_set, l1, List.length_set]; exact q5, by rw [f2 1 (by omega), List.getElem?_set_ne (by omega)]; exact s1', s2', x2 _ _ (hx_upd hr _ _ y1), y2, fun H' hx' => qk H' fun b o hbo => hx' _ _ (xx _ _ hbo)⟩
                  · cases h
  · cases h
/-- the def called by its name, on what is handled -/
theorem pe_kinds {k i : Nat} {f : Addr} {fd : FuncData} {nm : Str} {arg : Expr} {q pos : Pos} (o : KDef d N cs ws e sm wd w g) (F : FunD X.K d.name d.qual d.params d.body d.scope [] [] f fd) (hr : RoomH (k + 1) X.A) (hot : Hot1 X.A (a, oe)) (hp : (a, oe) ∈ X.pn) (C : ExcC X.K D) (x : XObj D oe)
    (hi : X.mg "isinstance" = none) (hz : X.mg "zip" = none) (hb : Bits X.mg X.K D bit cs) (hg : Gl X nm) (hm : X.mg nm = some (.ref f)) (hdb : (nm == ("__debug__" : Str)) = false) (ha : PE X arg (tVar i)) (hs : notStar arg = true) :
    PE X (.Call (.Name nm q) [arg] [] pos) (fun σ H Q => σ[i]? = some (some (.ref a)) ∧ ∀ H', HX H H' → Q (.str (Txt.join " " (kSel bit ws cs))) H') := by
  refine ⟨fun pins s σ H Q I ⟨h1, h2⟩ => ?_⟩
  refine wpAny_Call_Name_kw (ld_glob I hg hm ?_ hdb)
  have pa := pa_cons ha pa_nil (star_cons hs)
  refine PySem.W.callWith_K (h₀ := X.base) I.ok.mod.kin F.kp (thn (pa.run pos pins s σ H (fun vs H1 => vs = [V.ref a] ∧ H1 = H) I ⟨_, h1, rfl, rfl⟩) fun us s1 ⟨vs, H1, I1, r, hv, hH⟩ => ⟨I1.kIn, ?_⟩) (star_cons hs) (plain_star rfl)
  subst hv hH
  have P1 := I1.pin (a, oe) (List.mem_append_left _ hp)
  have hpin : PinOk X.stack H1 s1 (a, oe) := ⟨P1.1, P1.2.1, fun hmm => (List.mem_cons.mp (I1.stkSub a hmm)).elim P1.2.2.1 P1.2.2.2.1, P1.2.2.2.2⟩
  have hl : us.length = 1 := r.length.symm
  have rc : codeAny (model X.prog X.w) X.A (.call (.ref f) ⟨us, []⟩) (CR (L2N.CX X.prog X.w) X.stack X.prog X.w H1 s1 Q L2.E0) s1 := by
    refine run_hot (N := N) (ps := [e]) (k := k) F o.sc hr hot hpin I1.env0 (F.bindsA (ps := [e]) (fun kV doc pm an cdv ct us hu => o.bind kV doc pm an cdv ct us hu) s1 us hl) r rfl fun cdv _ => ⟨_, kinds_body (bit := bit) o ⟨rfl, by rw [o.five]; exact o.five ▸ o.sc.nd, rfl, ⟨hot.1, ?_⟩, List.mem_singleton_self _, C, x, hi, hz⟩ hb, ?_⟩
    · obtain ⟨_, vs, q1, q2⟩ := hot
      exact ⟨oe, vs, List.mem_singleton_self _, q1, q2⟩
    · refine ⟨?_, ?_, fun H' hx => h2 H' hx⟩
      · rw [o.five]; rfl
      · rw [o.five]; rfl
  refine wpAny_call (codeAny_mono rc fun r2 s2 hq => ?_)
  cases r2 with
  | error er =>
    obtain ⟨_, _, _, _, _, _, _, _, _, _, _, _, z⟩ := (show L2N.CX X.prog X.w X.stack H1 s1 L2.E0 er s2 from hq)
    exact z.elim
  | ok fl => cases fl with
    | ret u => exact I1.after hq
    | next => exact hq.elim
    | brk => exact hq.elim
    | cont => exact hq.elim
end
end Pk

end
section
/-! Ph6: try with several clauses, each of which binds the error to one name. -/
namespace Pk
open PySem PySem.Spec PyProof.Rows L2
open LamX (Tabs TabS ExtN CodeO)
theorem takesN {X : Cx} : L2N.Takes X (fun _ _ _ _ => False) := fun _ _ x => (by
  obtain ⟨_, _, _, _, _, _, _, _, _, _, _, _, _, _, _, _, z⟩ := x
  exact z.elim)
/-- a suite's ends, the name gone -/
def Ends.un (i : Nat) (D : Ends) : Ends := { nx := fun σ' H' => D.nx (σ'.set i none) H', rt := D.rt, bk := fun σ' H' => D.bk (σ'.set i none) H', ct := fun σ' H' => D.ct (σ'.set i none) H' }
def wManyAs (K : PySem.W.Frag) (i : Nat) (Wout : WX) (D : Ends) : List (Value × (Addr → Value → Option Addr → TS)) → WX
  | [] => Wout
  | (c, ts) :: r => fun cls d σ H => ∃ b, PySem.W.exmOne K cls c = some b ∧ ((b = true → ∀ a, H a = none → ts a cls d (Ends.un i D) (σ.set i (some (.ref a))) H) ∧ (b = false → wManyAs K i Wout D r cls d σ H))
inductive HdsAs (X : Cx) (n : Str) : List ExceptHandler → List (Value × (Addr → Value → Option Addr → TS)) → Prop
  | nil : HdsAs X n [] []
  | cons {x : Str} {c : Value} {ts : Addr → Value → Option Addr → TS} {b0 : Stmt} {suite : List Stmt} {np pos' : Pos} {hds : List ExceptHandler} {l : List (Value × (Addr → Value → Option Addr → TS))} (hc : Names X x c)
      (hsu : ∀ (a : Addr) (oe : Obj) (cls : Value) (d : Option Addr) (pn : List (Addr × Obj)), L2N.Zn cls d oe → (∃ vs, oe.data = .fields vs) → PSs (X.suite a ((a, oe) :: pn)) (b0 :: suite) (ts a cls d)) (r : HdsAs X n hds l) :
      HdsAs X n (.ExceptHandler (some (.Name x np)) (some n) (b0 :: suite) pos' :: hds) ((c, ts) :: l)
section
variable {X : Cx} {n : Str} {i : Nat} {body : List Stmt} {h0 : ExceptHandler} {hds : List ExceptHandler} {l : List (Value × (Addr → Value → Option Addr → TS))} {pos : Pos} {tb : WX → TS} {Wout : WX}
theorem ps_try_manyAs (hs : X.stack = X.env :: X.outer) (hf : X.env.frame = some X.env.locals) (hN : X.N.Nodup) (hi : X.N[i]? = some n) (hln : X.env.kindOf n = some .local) (tk : L2N.Takes X Wout)
    (hb : ∀ (W : WX) (pn : List (Addr × Obj)) (xe : Value → Shared → Prop), L2N.Takes (X.tr pn xe) W → PassesOwn (model X.prog X.w) X.A X.env xe → (PSs (X.tr pn xe) body (tb W)))
    (hh : HdsAs X n (h0 :: hds) l) : PS X (.Try body (h0 :: hds) [] [] pos) (fun D σ H => tb (wManyAs X.K i Wout D l) D σ H) := by
  refine ⟨fun pins s σ H D I h => ?_⟩
  have ok := I.ok
  have hfr : X.A.frames = some (X.env :: X.outer) := (by rw [ok.frames, hs])
  refine wpAny_Try_except (wpAny_mono ((hb (wManyAs X.K i Wout D l) (X.pn ++ pins) (fun e s1 => wpAny (model X.prog X.w) X.A (noteFrame e X.env) (fun _ s2 => (wpAny (model X.prog X.w) X.A (setFlight e none) (fun _ s3 =>
    (wpAny (model X.prog X.w) X.A (handleBy e X.env (h0 :: hds)) (SP X pins D) X.xe s3)) X.xe s2)) X.xe s1) (fun u s' xx => ?_) PassesOwn.looking).run [] s σ H D (I.toTry _) h) (fun f s1 hsp => ?_) (fun e s1 he => (he)))
  · obtain ⟨a, B, sI, pins', σ', H', cls, d, rfl, J', nb, up, sky, na, os, ag, w⟩ := xx
    have J : Inv X pins σ' H' sI := (J'.ofTry ok)
    have sky2 : L2.Sky B (X.env :: X.outer) a (L2N.Zn cls d) X.env.locals s'.heap := (by rw [← hs]; exact sky)
    show wpAny (model X.prog X.w) X.A (noteFrame (.ref a) X.env) _ _ _; refine L2N.Sky.land L2N.Zn.steady hfr hf sky2 fun h3 fl3 up3 => ?_
    have J3 : Inv X pins σ' H' { s' with heap := h3 } := (J.landed nb fl3.1 (up.trans up3) os ag)
    obtain ⟨oe3, vs3, he3, hz3, hd3⟩ := fl3.there
    have nfr : a ∉ frs (X.env :: X.outer) := fun hm => by
      obtain ⟨_, o', e', hnf⟩ := fl3.2.2.1.mem hm
      rw [he3] at e'; cases e'
      exact hnf _ hd3
    have nL : a ≠ X.env.locals := fun z => (nfr (List.mem_filterMap.mpr ⟨X.env, List.mem_cons_self, by rw [hf, z]⟩))
    have nF : a ∉ X.fs := fun hm => by
      obtain ⟨e, he, q⟩ := List.mem_filterMap.mp hm
      exact (nfr (List.mem_filterMap.mpr ⟨e, List.mem_cons_of_mem _ he, q⟩))
    have S3 := J3.suite he3 hd3 na nL nF
    have go : ∀ {hs' : List ExceptHandler} {l' : List (Value × (Addr → Value → Option Addr → TS))}, HdsAs X n hs' l' → wManyAs X.K i Wout D l' cls d σ' H' → wpAny (model X.prog X.w) X.A (handleBy (.ref a) X.env hs') (SP X pins D) X.xe { s' with heap := h3 } := by
      intro hs' l' hk
      induction hk with
      | nil =>
        intro w
        obtain ⟨k1, k2, k3, oe, vs, T, oT, ts', he, hz, hd, h1, hr⟩ := id fl3
        refine wpAny_handleBy_nil ?_
        unfold PySem.passOn; refine wpAny_bind (wpAny_field he hd h1 ?_)
        rw [if_neg (show ¬ ((Value.ref T == Value.none) = true) by simp)]
        have fin : wpAny (model X.prog X.w) X.A (setFlight (.ref a) X.env.frame) (fun _ s4 => (wpAny (model X.prog X.w) X.A (throw (.ref a) : Sem Flow) (SP X pins D) X.xe s4)) X.xe { s' with heap := h3 } := by
          rw [hf]
          exact HandSPX.setFlight_upZ fl3 fun h4 hh4 up4 => (wpAny_throw (tk _ _ ⟨a, B, sI, pins, σ', H', cls, d, rfl, J, nb, (up.trans up3).trans up4, .inr (.inr (by rw [hs]; exact hh4)), na, os, ag, w⟩))
        first | exact wpAny_bind (wpAny_pure (wpAny_bind fin)) | exact wpAny_bind fin
      | @cons x c ts b0 suite np pos' hds2 l2 hc hsu r ih =>
        intro w
        obtain ⟨b, hb1, hyes, hno⟩ := w
        refine wpAny_handleBy_cons (codeAny_handlers_test ?_) (fun q => by cases q)
        have LT : PySem.W.Looks (model X.prog X.w) h3 (typeOf (.ref a)) cls := fun A Q E s k q => (wpAny_typeOf_ref (k _ _ he3) (by rw [hz3.1]; exact q))
        have LM := PySem.W.exm_one (M := model X.prog X.w) J3.kIn LT hb1
        have test : ∀ {Q : Value → Shared → Prop} {E : Value → Shared → Prop}, Q c { s' with heap := h3 } → (wpAny (model X.prog X.w) (X.A.mark (some (.ref a))) (eval (.Name x np) X.env) Q E { s' with heap := h3 }) := fun {Q E} q => by
          obtain ⟨hg, hdbg, hm⟩ := hc
          rcases hm with hm | ⟨hm, hv, hnn⟩
          · exact (ld_glob (X := X.suite a ((a, oe3) :: (X.pn ++ pins))) S3 hg hm q hdbg)
          · exact (ld_blt (X := X.suite a ((a, oe3) :: (X.pn ++ pins))) S3 hg hm hv q hnn hdbg)
        refine test (LM.here ?_)
        cases b with
        | true =>
          refine codeAny_handlers_suite_as (HandSPX.lands_againZ fl3 fun h4 fl4 up4 => ?_)
          have J4 : Inv X pins σ' H' { s' with heap := h4 } := (J.landed nb fl4.1 ((up.trans up3).trans up4) os ag)
          obtain ⟨oe4, vs4, he4, hz4, hd4⟩ := fl4.there
          refine store_ok (X := X.suite a ((a, oe4) :: (X.pn ++ pins))) (v := .ref a) (J4.suite he4 hd4 na nL nF) hN hi (.inl hln) rfl (fun s5 S5 => ?_) (.inr hln)
          refine wpAny_mono ((hsu a oe4 cls d (X.pn ++ pins) hz4 ⟨_, hd4⟩).run [] s5 _ H' _ S5 (hyes rfl a na)) (fun f s6 hsp => ?_) (fun _ _ z => z.elim)
          have fin : ∀ {σ6 : L2.St} {H6 : Hp} {Q : Shared → Prop}, Inv (X.suite a ((a, oe4) :: (X.pn ++ pins))) [] σ6 H6 s6 → (∀ s7, Inv X pins (σ6.set i none) H6 s7 → Q s7) → wpAny (model X.prog X.w) X.A (do bindName X.env n .none; unbindBehindTheSuite X.env n pos') (fun _ s7 => Q s7) X.xe s6 := fun S6 hq => gone_ok (S6.unsuite ok) hN hi hln hq
          cases f with
          | next => obtain ⟨σ6, H6, S6, q6⟩ := hsp; exact fin S6 fun s7 J7 => (⟨_, _, J7, q6⟩)
          | brk => obtain ⟨σ6, H6, S6, q6⟩ := hsp; exact fin S6 fun s7 J7 => (⟨_, _, J7, q6⟩)
          | cont => obtain ⟨σ6, H6, S6, q6⟩ := hsp; exact fin S6 fun s7 J7 => (⟨_, _, J7, q6⟩)
          | ret u => obtain ⟨v6, σ6, H6, S6, r6, q6⟩ := hsp; exact fin S6 fun s7 J7 => (⟨_, _, _, J7, r6, q6⟩)
        | false => show wpAny _ X.A (handleBy (.ref a) X.env hds2) _ _ _; exact ih (hno rfl)
    exact go hh w
  · cases f with
    | next => obtain ⟨σ', H', J', q⟩ := hsp; exact wpAny_execs_nil ⟨σ', H', J'.ofTry ok, q⟩
    | brk => obtain ⟨σ', H', J', q⟩ := hsp; exact ⟨σ', H', J'.ofTry ok, q⟩
    | cont => obtain ⟨σ', H', J', q⟩ := hsp; exact ⟨σ', H', J'.ofTry ok, q⟩
    | ret u => obtain ⟨v, σ', H', J', r, q⟩ := hsp; exact ⟨v, σ', H', J'.ofTry ok, r, q⟩
end
end Pk

end
section
/-! Ph7: a lambda handed to a def that calls it and meets its errors. -/
namespace Pk
open PySem PySem.Spec PyProof.Rows L2
open LamX (Tabs TabS ExtN CodeO lamCx lamEnv LamS lam_start2 TabB run_ofS inv_table codeO_ne among_app)
section
variable {X : Cx} {pins : List (Addr × Obj)} {σ : L2.St} {H : Hp} {s : Shared}
/-- a lambda is made: the names that the heap has a word for keep one -/
theorem lam_make3 {T : List (Addr × Str)} {c P : Addr} {params : Arguments} {body : Expr} {scope : Scope} {pos : Pos} {E : Value → Shared → Prop} {Q : Value → Shared → Prop} (I : Inv X pins σ H s) (TB : TabB X.base X.mg c P) (hcode : X.env.code = .ref c)
    (hm : (P, X.env.qual ++ "<lambda>") ∈ T) (hu : ∀ p ∈ T, p.1 = P → p.2 = X.env.qual ++ "<lambda>") (hT : Tabs T H) (hdef : defaultsOf params X.env = ([], [])) (hfree : ∀ y ∈ scope.names, y.2 = .free → ∃ c, X.env.cells.lookup y.1 = some c)
    (h : ∀ (f c' : Addr) (pm ctv : Value) (H1 : Hp) (s' : Shared), Inv X pins σ H1 s' → ExtN H H1 → (∀ b, H b ≠ none → H1 b ≠ none) → Tabs T H1 →
      s'.heap.get? f = some (PySem.W.kla_obj "<lambda>" (X.env.qual ++ "<lambda>") params body scope (cloFrom X.env.cells scope.names []) pm c' ctv) → H1 f = none → f ∉ frs X.stack → H1 c' = some (CodeO c' (X.env.qual ++ "<lambda>")) → Q (.ref f) s') :
    wpAny (model X.prog X.w) X.A (eval (.Lambda params body scope pos) X.env) Q E s := by
  obtain ⟨ps, hP, ht, ha⟩ := hT _ hm
  have bP : s.heap.BuiltinsAt X.mg P := TB.bm.keeps I.bk
  have hP2 : s.heap.get? P = some { cls := .none, data := .fields ps } := I.hok P _ hP
  have nofr : ∀ f, s.heap.objs.size ≤ f → f ∉ frs X.stack := fun f hf z => (List.mem_cons.mp (I.stkSub _ z)).elim (fun e => by
    have h1 := I.lt
    rw [← e] at h1
    exact Nat.lt_irrefl _ (Nat.lt_of_lt_of_le h1 hf)) fun e => I.nofs hf e
  refine PySem.W.kla_eval hdef ?_
  cases hc : codeAmong pos ps.toList with
  | some cv =>
    obtain ⟨c', e, hco⟩ := ha pos cv hc
    subst e
    exact PySem.W.kla_makeFunctionHit (mg := X.mg) (c := c) (P := P) (ps := ps) (closure_ok hfree) I.ok.glob (I.mod.glob.keeps I.bk) hcode (TB.code.keeps I.bk) hP2 ht hc bP fun ctv h' tk hx hsz => h h'.objs.size c' ((X.mg "__name__").getD .none) ctv H _ (I.kept (t' := tk) fun b o e => Heap.get?_push_of_some _ (hx b o e)) (ExtN.refl H) (fun _ z => z) hT (Heap.get?_push_size _ rfl) (I.hok.fresh hsz) (nofr _ hsz) hco
  | none =>
    refine PySem.W.kla_makeFunction (mg := X.mg) (c := c) (P := P) (ps := ps) (closure_ok hfree) I.ok.glob (I.mod.glob.keeps I.bk) hcode (TB.code.keeps I.bk) hP2 ht hc TB.gP bP fun c' ctv h' tk hx hge hlt hrec htb => ?_
    obtain ⟨c2, oc, vs, t, e2, hoc, hd, hv⟩ := hrec
    cases e2
    have hsz : s.heap.objs.size ≤ h'.objs.size := Nat.le_trans hge (Nat.le_of_lt hlt)
    have nC : H c' = none := I.hok.fresh hge
    generalize hmore : (#[rawInt pos.line, rawInt pos.col, .ref c'] : Array Value) = more at htb
    have I1 := inv_table (t' := tk) (more := more) (h' := h'.push (PySem.W.kla_obj "<lambda>" (X.env.qual ++ "<lambda>") params body scope (cloFrom X.env.cells scope.names []) ((X.mg "__name__").getD .none) c' ctv)) I hP (fun b o hb e => Heap.get?_push_of_some _ (hx b o hb e)) (Heap.get?_push_of_some _ htb) hge ⟨oc, vs, t, Heap.get?_push_of_some _ hoc, hd, hv⟩
    have hE : ExtN H (upd (upd H P (.tbl (ps ++ more))) c' (CodeO c' (X.env.qual ++ "<lambda>"))) := fun b o e n => by
      rw [upd_ne (ne_of_none e nC), upd_ne (fun z => n ps (Option.some.inj (e.symm.trans (by rw [z]; exact hP))))]
      exact e
    have hD : ∀ b, H b ≠ none → (upd (upd H P (.tbl (ps ++ more))) c' (CodeO c' (X.env.qual ++ "<lambda>"))) b ≠ none := fun b hb => by
      by_cases z1 : b = c'
      · rw [z1, upd_same]; exact fun z => by cases z
      · rw [upd_ne z1]
        by_cases z2 : b = P
        · rw [z2, upd_same]; exact fun z => by cases z
        · rw [upd_ne z2]; exact hb
    have eL : (ps ++ more).toList = ps.toList ++ [rawInt pos.line, rawInt pos.col, .ref c'] := by rw [← hmore]; simp
    refine h h'.objs.size c' ((X.mg "__name__").getD .none) ctv _ _ I1 hE hD (fun p hp => ?_) (Heap.get?_push_size _ rfl) ?_ (nofr _ hsz) upd_same
    · by_cases hb : p.1 = P
      · rw [hu p hp hb, hb]
        refine ⟨_, by rw [upd_ne (ne_of_none hP nC), upd_same], by rw [eL]; exact PySem.TriplesOk_snoc _ _ _ _ ht, fun p' cv hcv => ?_⟩
        rw [eL] at hcv
        exact (among_app _ ht hcv).elim (fun z => have ⟨c0, e1, e2⟩ := ha p' cv z; ⟨c0, e1, hE _ _ e2 codeO_ne⟩) fun z => ⟨c', z, upd_same⟩
      · obtain ⟨ps', a1, a2, a3⟩ := hT p hp
        exact ⟨ps', by rw [upd_ne (ne_of_none a1 nC), upd_ne hb]; exact a1, a2, fun p' cv hcv => have ⟨c0, e1, e2⟩ := a3 p' cv hcv; ⟨c0, e1, hE _ _ e2 codeO_ne⟩⟩
    · rw [upd_ne (Nat.ne_of_gt hlt), upd_ne (Nat.ne_of_gt (Nat.lt_of_lt_of_le (Heap.lt_size hP2) hsz))]
      exact I.hok.fresh hsz
end
def tLamN (T : List (Addr × Str)) (TT : (XK → Hp → VK → Prop) → Hp → VK → Prop) (t : XK → TE) : TE := fun σ H Q => Tabs T H ∧ ∀ H1, ExtN H H1 → (∀ b, H b ≠ none → H1 b ≠ none) → Tabs T H1 → TT (fun E H' Q' => t E σ H' Q') H1 Q
def lamCxN (X : Cx) (A : Around) (outer : List Env) (s : Shared) (H : Hp) (E : XK) (scope : Scope) (f c' : Addr) : Cx :=
  (lamCx X A outer s H E scope f c').wish fun e s' => wpAny (model X.prog X.w) (A.deeper (lamEnv X scope s.heap.objs.size f c')) (leaving (lamEnv X scope s.heap.objs.size f c') e) (fun _ s'' => L2N.CX X.prog X.w outer H s E e s'') (fun e' s'' => L2N.CX X.prog X.w outer H s E e' s'') s'
section
variable {X : Cx} {pins : List (Addr × Obj)} {σ : L2.St} {H : Hp} {s : Shared}
/-- x(), in the def that got the lambda -/
theorem pe_actN {CXg : CXT} {Eg : XK} {Ng : List Str} {qg : Str} {sg : Scope} {g f c' : Addr} {cdg pm ctv : Value} {params : Arguments} {body : Expr} {scope : Scope} {k i : Nat} {a : Str} {pn : List (Addr × Obj)} {xe : Value → Shared → Prop} {W : WX} {E : XK} {tb : TE} {p1 p2 : Pos}
    (I : Inv X pins σ H s) (L : LamS X.env.scope scope) (hf : s.heap.get? f = some (PySem.W.kla_obj "<lambda>" (X.env.qual ++ "<lambda>") params body scope (cloFrom X.env.cells scope.names []) pm c' ctv)) (hfn : H f = none) (hfr : f ∉ frs X.stack)
    (hbind : bindArgs (PySem.W.kla_fn "<lambda>" (X.env.qual ++ "<lambda>") params body scope (cloFrom X.env.cells scope.names []) pm (.ref c') ctv) ⟨[], []⟩ = pure [])
    (tk : L2N.Takes ((cxOf CXg X.prog X.w X.K X.mg X.base Ng qg sg g cdg X.A X.stack s H Eg).tr pn xe) W) (hW : ∀ cls d σ' H', E cls d H' → W cls d σ' H') (hr : Room (k + 1) (X.A.deeper (envOfC qg sg s.heap.objs.size g cdg)))
    (hbody : ∀ (A : Around) (outer : List Env) (s : Shared) (H : Hp), Room k (A.deeper (lamEnv X scope s.heap.objs.size f c')) → PE (lamCxN X A outer s H E scope f c') body tb)
    (hN : Ng[i]? = some a) (hv : Vis sg a) (hd : (a == ("__debug__" : Str)) = false) (hcd : (a == ("__classdict__" : Str)) = false) :
    PE ((cxOf CXg X.prog X.w X.K X.mg X.base Ng qg sg g cdg X.A X.stack s H Eg).tr pn xe) (.Call (.Name a p1) [] [] p2)
      (fun σZ HZ Q => σZ[i]? = some (some (.ref f)) ∧ HZ c' = some (CodeO c' (X.env.qual ++ "<lambda>")) ∧ tb σ HZ Q) := by
  refine ⟨fun pinsZ sZ σZ HZ Q IZ ⟨hs, hc, ht⟩ => ?_⟩
  refine wpAny_Call_Name_kw (thn ((pe_var (pos := p1) (i := i) hN hv hd hcd).run pinsZ sZ σZ HZ (fun v H1 => v = .ref f ∧ H1 = HZ) IZ ⟨.ref f, hs, rfl, rfl⟩) fun u s1 ⟨v, H1, I1, r1, q1⟩ => ?_)
  obtain ⟨ev, eH⟩ := q1
  subst ev
  rw [eH] at I1
  obtain rfl : u = Value.ref f := r1
  have un : Un (frs X.stack) [] H HZ s.heap s1.heap := I1.base
  have of1 := un.keep f _ hf hfn hfr (fun z => nomatch (show f ∈ ([] : List Addr) from z))
  refine PySem.W.callWith_F0 ⟨_, _, _, _, of1⟩ ?_
  obtain ⟨⟨oc, vs, t, hoc, hdc, hvc⟩, _, _⟩ := I1.hok c' _ hc
  have rc : codeAny (model X.prog X.w) (X.A.deeper (envOfC qg sg s.heap.objs.size g cdg)) (.call (.ref f) ⟨[], []⟩) (CR (L2N.CX X.prog X.w) (envOfC qg sg s.heap.objs.size g cdg :: X.stack) X.prog X.w HZ s1 Q E) s1 := by
    refine PySem.W.kla_callFunE hr.depth of1 rfl L.co L.gen rfl ⟨c', oc, vs, t, rfl, hoc, hdc, hvc⟩ ?_
    rw [hbind]
    refine wpAny_pure (wpAny_newFunctionEnv (fun y hy => (L.own y hy).2) (fun y hy => absurd hy (by simp)) (fun h1 hns hsb => ⟨I1.nolimit.fresh _ hsb, ?_⟩) L.kind)
    show codeAny _ _ (.expr body (lamEnv X scope s1.heap.objs.size f c')) _ _
    have kp : ∀ b o, s1.heap.get? b = some o → h1.get? b = some o := fun b o e => hsb.extBut b o (Nat.ne_of_lt (Heap.lt_size e)) (Heap.get?_push_of_some _ e)
    have J := (lam_start2 (tk := s1.toks + ([] : List (Str × Value)).length) (f := f) (c' := c') (E := E) I L I1.env0 hr.hd un hns kp).wish fun e s' => wpAny (model X.prog X.w) ((X.A.deeper (envOfC qg sg s.heap.objs.size g cdg)).deeper (lamEnv X scope s1.heap.objs.size f c')) (leaving (lamEnv X scope s1.heap.objs.size f c') e) (fun _ s'' => L2N.CX X.prog X.w (envOfC qg sg s.heap.objs.size g cdg :: X.stack) HZ s1 E e s'') (fun e' s'' => L2N.CX X.prog X.w (envOfC qg sg s.heap.objs.size g cdg :: X.stack) HZ s1 E e' s'') s'
    refine PySem.W.kla_codeExpr (wpAny_mono ((hbody _ _ s1 HZ (hr.deeper _)).run [] _ _ HZ Q J ht) (fun v s' hq => ?_) fun e s' hq => hq)
    obtain ⟨w', H', J', rv, q⟩ := hq
    exact ⟨w', H', J'.os, J'.bare, J'.base, J'.hok, rv, q⟩
  have hx : Passes (L2N.CX X.prog X.w) ((cxOf CXg X.prog X.w X.K X.mg X.base Ng qg sg g cdg X.A X.stack s H Eg).tr pn xe) E := L2N.passes_call tk hW
  refine wpAny_call (codeAny_mono rc fun r s' hq => ?_)
  cases r with
  | error e => exact hx pinsZ σZ HZ s1 e s' I1 hq
  | ok fl => cases fl with
    | ret u => exact I1.after hq
    | next => exact hq.elim
    | brk => exact hq.elim
    | cont => exact hq.elim
end
/-- the def that calls what it got: a calls it; TT: what it makes of the lambda's reading -/
def GivesN (X : Cx) (Ng : List Str) (x : Str) (sg : Scope) (g : Addr) (cdg : Value) (bg : List Stmt) (a : Str) (q : Str) (TT : (XK → Hp → VK → Prop) → Hp → VK → Prop) : Prop :=
  ∀ (f c' : Addr) (s : Shared) (H : Hp) (Q : VK) (tl : XK → Hp → VK → Prop), Room 2 (X.A.deeper (envOfC x sg s.heap.objs.size g cdg)) →
    (∀ (W : WX) (pn : List (Addr × Obj)) (xe : Value → Shared → Prop) (E : XK) (p1 p2 : Pos), L2N.Takes ((cxOf (L2N.CX X.prog X.w) X.prog X.w X.K X.mg X.base Ng x sg g cdg X.A X.stack s H L2.E0).tr pn xe) W → (∀ cls d σ' H', E cls d H' → W cls d σ' H') →
      PE ((cxOf (L2N.CX X.prog X.w) X.prog X.w X.K X.mg X.base Ng x sg g cdg X.A X.stack s H L2.E0).tr pn xe) (.Call (.Name a p1) [] [] p2) (fun σZ HZ Q => σZ[0]? = some (some (.ref f)) ∧ HZ c' = some (CodeO c' q) ∧ tl E HZ Q)) →
    H c' = some (CodeO c' q) → TT tl H Q →
    ∃ t, PSs (cxOf (L2N.CX X.prog X.w) X.prog X.w X.K X.mg X.base Ng x sg g cdg X.A X.stack s H L2.E0) bg t ∧ t { nx := fun _ H' => Q .non H', rt := Q } (L2.start Ng [.ref f]) H
section
variable {X : Cx}
/-- x(lambda: body) -/
theorem pe_lamcallN {T : List (Addr × Str)} {TT : (XK → Hp → VK → Prop) → Hp → VK → Prop} {x a : Str} {g c P : Addr} {k : Nat} {pg : Arguments} {bg : List Stmt} {sg : Scope} {dV kV doc pm cdv ct oc : Value} {an od : Option Addr} {osl : Array (Option Value)} {Ng : List Str}
    {params : Arguments} {body : Expr} {scope : Scope} {t : XK → TE} {p lpos pos : Pos} (hg : Gl X x) (hm : X.mg x = some (.ref g)) (hk : PySem.W.keepIn X.K (.ref g) = true)
    (lk : X.K.lookup g = some ⟨oc, od, .func (PySem.W.fnOf x x pg bg sg dV kV doc pm an cdv ct), osl⟩) (hcg : PySem.W.codeIn X.K cdv x = true) (hb : L2.Binds X.K (PySem.W.fnOf x x pg bg sg dV kV doc pm an cdv ct) [a] []) (Sg : FnScope Ng [a] sg) (hNg : Ng[0]? = some a) (hva : Vis sg a)
    (hG : GivesN X Ng x sg g cdv bg a (X.env.qual ++ "<lambda>") TT)
    (TB : TabB X.base X.mg c P) (hcode : X.env.code = .ref c) (hmT : (P, X.env.qual ++ "<lambda>") ∈ T) (hu : ∀ p ∈ T, p.1 = P → p.2 = X.env.qual ++ "<lambda>") (hr : Room (k + 2) X.A) (hr4 : Room 4 X.A) (L : LamS X.env.scope scope) (hdef : defaultsOf params X.env = ([], []))
    (hbind : ∀ (q : Str) (cl : List (Str × Addr)) (pm cv ctv : Value), bindArgs (PySem.W.kla_fn "<lambda>" q params body scope cl pm cv ctv) ⟨[], []⟩ = pure [])
    (hbody : ∀ (A : Around) (outer : List Env) (s : Shared) (H : Hp) (E : XK) (f c' : Addr), Room k (A.deeper (lamEnv X scope s.heap.objs.size f c')) → PE (lamCxN X A outer s H E scope f c') body (t E))
    (hdb : (x == ("__debug__" : Str)) = false) (hd : (a == ("__debug__" : Str)) = false) (hcd : (a == ("__classdict__" : Str)) = false) :
    PE X (.Call (.Name x p) [.Lambda params body scope lpos] [] pos) (tLamN T TT t) := by
  refine ⟨fun pins s σ H Q I ⟨hT, h⟩ => ?_⟩
  refine wpAny_Call_Name_kw (ld_glob I hg hm ?_ hdb)
  refine PySem.W.callWith_K (h₀ := X.base) I.ok.mod.kin hk ?_ (by rfl) (by rfl)
  show wpAny _ _ (spliced ((false, eval (.Lambda params body scope lpos) X.env) :: backTo pos (starEach [] X.env))) _ _ s
  refine Calls.spliced_cons (lam_make3 I TB hcode hmT hu hT hdef (L.has I.ok) fun f c' pm' ctv H1 s' I1 eN eD T1 hf hfn hfr hco => (Calls.spliced_nil ⟨I1.kIn, ?_⟩))
  have rc : codeAny (model X.prog X.w) X.A (.call (.ref g) ⟨[.ref f], []⟩) (CR (L2N.CX X.prog X.w) X.stack X.prog X.w H1 s' Q L2.E0) s' := by
    refine run_ofS (N := Ng) (ps := [a]) (us := [.ref f]) (vs := [.ref f]) lk hcg Sg hr I1.env0 (hb s' [.ref f] I1.kIn rfl) (.cons rfl .nil) rfl fun hr' => ?_
    exact hG f c' s' H1 Q (fun E H' Q' => t E σ H' Q') ((hr4.deeper _).mono (by decide)) (fun W pn xe E p1 p2 tk hW => pe_actN (i := 0) I1 L hf hfn hfr (hbind _ _ _ _ _) tk hW hr' (fun A outer s H hr2 => hbody A outer s H E f c' hr2) hNg hva hd hcd) hco (h H1 eN eD T1)
  refine wpAny_call (codeAny_mono rc fun r s2 hq => ?_)
  cases r with
  | error e =>
    obtain ⟨_, _, _, _, _, _, _, _, _, _, _, _, z⟩ := (show L2N.CX X.prog X.w X.stack H1 s' L2.E0 e s2 from hq)
    exact z.elim
  | ok fl => cases fl with
    | ret u => exact I1.after hq
    | next => exact hq.elim
    | brk => exact hq.elim
    | cont => exact hq.elim
end
end Pk

end
section
/-! Ph8: the def that calls what it got, and tells the value or the error's classes. -/
namespace Pk
open PySem PySem.Spec PyProof.Rows L2
open L2H (RoomH Hot1 PinOk cxH inv_startH RoomH.deeper RoomH.depth roomH_of)
open LamX (Tabs TabS ExtN CodeO lamCx lamEnv LamS lam_start2 TabB run_ofS)
/-- what is known of a class of errors that may be caught -/
structure XFact (mg : Str → Option Value) (K : PySem.W.Frag) (cs : List Str) (TM IT LE D : Addr) (bit : Str → Bool) : Prop where
  C : ExcC K D
  b : Bits mg K D bit cs
  m1 : PySem.W.exmOne K (.ref D) (.ref TM) = some false
  m2 : PySem.W.exmOne K (.ref D) (.ref IT) = some false
  m3 : PySem.W.exmOne K (.ref D) (.ref LE) = some true
/-- `except x as e: found = (kinds(e), ..)` -/
def lClause (Y : Ctx) (found e : Str) : ExceptHandler → Option (Str × Str)
  | .ExceptHandler (some (.Name x _)) (some n) [.Assign [.Name f _] (.Tuple (.Call (.Name k _) [.Name e1 _] [] _ :: _) _ _) _] _ => if decide (n = e) && (decide (f = found) && (decide (e1 = e) && (glb Y x && glb Y k))) then some (x, k) else none
  | _ => none
def lLast (Y : Ctx) (found e : Str) : ExceptHandler → Option (Str × Str)
  | .ExceptHandler (some (.Name x _)) (some n) [.Assign [.Name f _] (.Tuple [.Call (.Name k _) [.Name e1 _] [] _] _ _) _] _ => if decide (n = e) && (decide (f = found) && (decide (e1 = e) && (glb Y x && glb Y k))) then some (x, k) else none
  | _ => none
/-- the whole: the names of the three classes, of the def that tells -/
def lAll (Y : Ctx) (so found e : Str) : List Stmt → Option (Str × Str × Str × Str)
  | [.Assign [.Name f0 _] (.Constant .none _ _) _, .Try [.Assign [.Name f1 _] (.Tuple [.Constant (.str td) _ _, .Call (.Name s1 _) [] [] _] _ _) _] [h1, h2, h3] [] [] _, .Return (some (.Name f2 _))  _] =>
    if decide (f0 = found) && (decide (f1 = found) && (decide (f2 = found) && (decide (td = "told") && decide (s1 = so)))) then (match lClause Y found e h1, lClause Y found e h2, lLast Y found e h3 with
      | some (x1, _), some (x2, _), some (x3, k) => some (x1, x2, x3, k)
      | _, _, _ => none) else none
  | _ => none
structure LDef (d : He.DefD) (N : List Str) (so found e x1 x2 x3 kn : Str) : Prop where
  three : N = [so, found, e]
  sc : FnScope N [so] d.scope
  l0 : d.scope.names.lookup so = some .local
  l1 : d.scope.names.lookup found = some .local
  l2 : d.scope.names.lookup e = some .local
  dn : ∀ y ∈ N, (y == ("__debug__" : Str)) = false ∧ (y == ("__classdict__" : Str)) = false
  body : lAll ⟨N, d.scope, [], false⟩ so found e d.body = some (x1, x2, x3, kn)
theorem glbX {X : Cx} {Y : Ctx} (h0 : X.env.scope = Y.sc) {x : Str} (h : glb Y x = true) : Gl X x ∧ (x == ("__debug__" : Str)) = false := by
  unfold glb at h
  split at h
  · rename_i q
    refine ⟨?_, by simpa using h⟩
    unfold Gl Env.kindOf
    rw [h0]
    exact q
  · cases h
/-- what is made of the lambda's reading -/
def TCall (mg : Str → Option Value) (K : PySem.W.Frag) (cs ws : List Str) (TM IT LE : Addr) : (XK → Hp → VK → Prop) → Hp → VK → Prop := fun tl H Q =>
  tl (fun cls d H' => ∃ D bit, cls = .ref D ∧ d = none ∧ XFact mg K cs TM IT LE D bit ∧ ∀ H'' p, HX H' H'' → H'' p = none → Q (.ref p) (upd H'' p (.tup [.str (Txt.join " " (kSel bit ws cs))]))) H
    (fun v H' => ∀ p, H' p = none → Q (.ref p) (upd H' p (.tup [.str "told", v])))
theorem lClause_ok {Y : Ctx} {found e x k : Str} {h : ExceptHandler} (q : lClause Y found e h = some (x, k)) : ∃ np st pos', h = .ExceptHandler (some (.Name x np)) (some e) [st] pos' ∧ glb Y x = true := by
  unfold lClause at q
  split at q
  · split at q
    · rename_i hh
      simp only [Bool.and_eq_true, decide_eq_true_eq] at hh
      obtain ⟨h1, _, _, h4, _⟩ := hh
      cases q
      subst h1
      exact ⟨_, _, _, rfl, h4⟩
    · cases q
  · cases q
theorem lLast_ok {Y : Ctx} {found e x k : Str} {h : ExceptHandler} (q : lLast Y found e h = some (x, k)) : ∃ np p1 p2 p3 p4 kk p5 p6 p7, h = .ExceptHandler (some (.Name x np)) (some e) [.Assign [.Name found p1] (.Tuple [.Call (.Name k p2) [.Name e p3] [] p4] kk p5) p6] p7 ∧ glb Y x = true ∧ glb Y k = true := by
  unfold lLast at q
  split at q
  · split at q
    · rename_i hh
      simp only [Bool.and_eq_true, decide_eq_true_eq] at hh
      obtain ⟨h1, h2, h3, h4, h5⟩ := hh
      cases q
      subst h1 h2 h3
      exact ⟨_, _, _, _, _, _, _, _, _, rfl, h4, h5⟩
    · cases q
  · cases q
theorem pss_false {X : Cx} {l : List Stmt} : PSs X l (fun _ _ _ => False) := ⟨fun _ _ _ _ _ _ h => h.elim⟩
section
variable {X : Cx} {d dk : He.DefD} {N Nk cs ws : List Str} {so found e x1 x2 x3 kn ek sm wd w g q : Str} {fk gk TM IT LE : Addr} {fdk : FuncData} {cdg : Value}
theorem call_gives (o : LDef d N so found e x1 x2 x3 kn) (ok : KDef dk Nk cs ws ek sm wd w g) (F : FunD X.K dk.name dk.qual dk.params dk.body dk.scope [] [] fk fdk)
    (hk : X.mg kn = some (.ref fk)) (h1 : X.mg x1 = some (.ref TM)) (h2 : X.mg x2 = some (.ref IT)) (h3 : X.mg x3 = some (.ref LE)) (hi : X.mg "isinstance" = none) (hz : X.mg "zip" = none) :
    GivesN X N d.name d.scope gk cdg d.body so q (TCall X.mg X.K cs ws TM IT LE) := by
  intro f c' s H Q tl hroom act hc h
  have hb := o.body
  have three := o.three
  unfold lAll at hb
  split at hb
  · rename_i f0 p0 j0 p1 p2 f1 p3 td j1 p4 s1 p5 p6 kk p7 p8 hd1 hd2 hd3 p9 f2 p10 p11 heq
    split at hb
    · rename_i hh
      simp only [Bool.and_eq_true, decide_eq_true_eq] at hh
      obtain ⟨e0, e1, e2, e3, e4⟩ := hh
      cases c1 : lClause ⟨N, d.scope, [], false⟩ found e hd1 with
      | none => rw [c1] at hb; cases hb
      | some r1 =>
        cases c2 : lClause ⟨N, d.scope, [], false⟩ found e hd2 with
        | none => rw [c1, c2] at hb; cases hb
        | some r2 =>
          cases c3 : lLast ⟨N, d.scope, [], false⟩ found e hd3 with
          | none => rw [c1, c2, c3] at hb; cases hb
          | some r3 =>
            rw [c1, c2, c3] at hb
            obtain ⟨y1, z1⟩ := r1
            obtain ⟨y2, z2⟩ := r2
            obtain ⟨y3, z3⟩ := r3
            cases hb
            subst e0 e1 e2 e3 e4
            rw [heq]
            obtain ⟨np1, st1, pp1, g1, w1⟩ := lClause_ok c1
            obtain ⟨np2, st2, pp2, g2, w2⟩ := lClause_ok c2
            obtain ⟨np3, a1, a2, a3, a4, ka, a5, a6, a7, g3, w3, wk⟩ := lLast_ok c3
            subst g1 g2 g3
            generalize hX : (cxOf (L2N.CX X.prog X.w) X.prog X.w X.K X.mg X.base N d.name d.scope gk cdg X.A X.stack s H L2.E0) = Z at act ⊢
            have zN : Z.N = N := by rw [← hX]; rfl
            have zs : Z.env.scope = d.scope := by rw [← hX]; rfl
            have zm : Z.mg = X.mg := by rw [← hX]; rfl
            have zK : Z.K = X.K := by rw [← hX]; rfl
            have zst : Z.stack = Z.env :: Z.outer := by rw [← hX]; rfl
            have zfr : Z.env.frame = some Z.env.locals := by rw [← hX]; rfl
            have zA : Z.A = X.A.deeper (envOfC d.name d.scope s.heap.objs.size gk cdg) := by rw [← hX]; rfl
            have hnd : Z.N.Nodup := by rw [zN]; exact o.sc.nd
            have i1 : Z.N[1]? = some f2 := by rw [zN, three]; rfl
            have i2 : Z.N[2]? = some e := by rw [zN, three]; rfl
            have L1 : Z.env.scope.names.lookup f2 = some .local := by rw [zs]; exact o.l1
            have L2' : Z.env.scope.names.lookup e = some .local := by rw [zs]; exact o.l2
            have d1 := o.dn f2 (by rw [three]; simp)
            have d2 := o.dn e (by rw [three]; simp)
            have G : ∀ x, glb ⟨N, d.scope, [], false⟩ x = true → Gl Z x ∧ (x == ("__debug__" : Str)) = false := fun x hx => glbX (Y := ⟨N, d.scope, [], false⟩) zs hx
            have len3 : Z.N.length = 3 := by rw [zN, three]; rfl
            -- the last clause's suite
            have suite : ∀ (a : Addr) (oe : Obj) (cls : Value) (dd : Option Addr) (pn : List (Addr × Obj)), L2N.Zn cls dd oe → (∃ vs, oe.data = .fields vs) → PSs (Z.suite a ((a, oe) :: pn)) [.Assign [.Name f2 a1] (.Tuple [.Call (.Name kn a2) [.Name e a3] [] a4] ka a5) a6]
                (fun E σ H => σ.length = 3 → ∃ D bit, cls = .ref D ∧ dd = none ∧ XFact X.mg X.K cs TM IT LE D bit ∧ σ[2]? = some (some (.ref a)) ∧ ∀ H'' p, HX H H'' → H'' p = none → E.nx (σ.set 1 (some (.ref p))) (upd H'' p (.tup [.str (Txt.join " " (kSel bit ws cs))]))) := by
              intro a oe cls dd pn hzn hfl
              refine ⟨fun pins s6 σ6 H6 E I h6 => ?_⟩
              have hlen : σ6.length = 3 := by
                have := I.len
                rw [this]
                exact len3
              obtain ⟨D, bit, rfl, rfl, xf, q2, qk⟩ := h6 hlen
              obtain ⟨vs, hvs⟩ := hfl
              have hv2 := hzn.2.2 vs hvs
              have P := pe_kinds (X := Z.suite a ((a, oe) :: pn)) (k := 1) (i := 2) (a := a) (D := D) (oe := oe) (bit := bit) (q := a2) (pos := a4) ok (by show FunD Z.K _ _ _ _ _ _ _ _ _; rw [zK]; exact F) ⟨(by have z := hroom.dp; rw [← zA] at z; exact z), (by have z := hroom.un; rw [← zA] at z; exact z)⟩ ⟨rfl, vs, hvs, hv2⟩ (List.mem_cons_self ..) (by show ExcC Z.K D; rw [zK]; exact xf.C) ⟨hzn.zc, vs, hvs, hv2⟩ (by show Z.mg _ = none; rw [zm]; exact hi) (by show Z.mg _ = none; rw [zm]; exact hz) (by show Bits Z.mg Z.K D bit cs; rw [zm, zK]; exact xf.b) (G _ wk).1 (by show Z.mg _ = _; rw [zm]; exact hk) (G _ wk).2 (pe_var (pos := a3) i2 (.inl L2') d2.1 d2.2) rfl
              refine (PSs.imp (pss_one (ps_set (X := Z.suite a ((a, oe) :: pn)) hnd i1 (.inl L1) (pe_tup (pa_cons P pa_nil)) (noswap rfl) (.inr L1))) fun E σ H ⟨u1, u2⟩ => ⟨u1, fun H' hx => ⟨(by show 1 ≤ sizeLine; decide), fun p hp => u2 H' p hx hp⟩⟩ : PSs _ _ (fun E σ H => σ[2]? = some (some (.ref a)) ∧ ∀ H'' p, HX H H'' → H'' p = none → E.nx (σ.set 1 (some (.ref p))) (upd H'' p (.tup [.str (Txt.join " " (kSel bit ws cs))])))).run pins s6 σ6 H6 E I ⟨q2, qk⟩
            have nm : ∀ {x : Str} {A0 : Addr}, glb ⟨N, d.scope, [], false⟩ x = true → X.mg x = some (.ref A0) → Names Z x (.ref A0) := fun hx hm => ⟨(G _ hx).1, (G _ hx).2, .inl (by rw [zm]; exact hm)⟩
            have hds : HdsAs Z e [.ExceptHandler (some (.Name x1 np1)) (some e) [st1] pp1, .ExceptHandler (some (.Name x2 np2)) (some e) [st2] pp2, .ExceptHandler (some (.Name x3 np3)) (some e) [.Assign [.Name f2 a1] (.Tuple [.Call (.Name kn a2) [.Name e a3] [] a4] ka a5) a6] a7]
                [(.ref TM, fun _ _ _ _ _ _ => False), (.ref IT, fun _ _ _ _ _ _ => False), (.ref LE, fun a cls dd E σ H => σ.length = 3 → ∃ D bit, cls = .ref D ∧ dd = none ∧ XFact X.mg X.K cs TM IT LE D bit ∧ σ[2]? = some (some (.ref a)) ∧ ∀ H'' p, HX H H'' → H'' p = none → E.nx (σ.set 1 (some (.ref p))) (upd H'' p (.tup [.str (Txt.join " " (kSel bit ws cs))])))] :=
              .cons (nm w1 h1) (fun _ _ _ _ _ _ _ => pss_false) (.cons (nm w2 h2) (fun _ _ _ _ _ _ _ => pss_false) (.cons (nm w3 h3) suite .nil))
            have tr := ps_try_manyAs (X := Z) (pos := p9) (Wout := fun _ _ _ _ => False)
              (tb := fun W E σ H1 => ∃ Ech : XK, (∀ cls dd σ' H', Ech cls dd H' → W cls dd σ' H') ∧ σ[0]? = some (some (.ref f)) ∧ H1 c' = some (CodeO c' q) ∧ tl Ech H1 (fun v H2 => ∀ p, H2 p = none → E.nx (σ.set 1 (some (.ref p))) (upd H2 p (.tup [.str "told", v]))))
              zst zfr hnd i2 L2' takesN (body := [.Assign [.Name f2 p3] (.Tuple [.Constant (.str "told") j1 p4, .Call (.Name s1 p5) [] [] p6] kk p7) p8]) (fun W pn xe tk _ => ⟨fun pins s6 σ6 H6 E I ⟨Ech, hW, q1, q2, q3⟩ => by
                have hp := act W pn xe Ech p5 p6 tk hW
                have hq := pss_one (ps_set (X := Z.tr pn xe) (pos := p8) (pos' := p3) hnd i1 (.inl L1) (pe_tup (x1 := kk) (pos := p7) (pa_cons (pe_str (x := "told") (j := j1) (pos := p4)) (pa_cons hp pa_nil))) (noswap rfl) (.inr L1))
                exact hq.run pins s6 σ6 H6 E I ⟨q1, q2, (by
                  have : (fun v H1 => ([V.str "told", v] : List V).length ≤ sizeLine ∧ ∀ p, H1 p = none → E.nx (σ6.set 1 (some (.ref p))) (upd H1 p (.tup [.str "told", v]))) = fun v H2 => ∀ p, H2 p = none → E.nx (σ6.set 1 (some (.ref p))) (upd H2 p (.tup [.str "told", v])) := by
                    funext v H1
                    exact propext ⟨fun z => z.2, fun z => ⟨by show 2 ≤ sizeLine; decide, z⟩⟩
                  exact this ▸ q3)⟩⟩) hds
            have first := ps_set (X := Z) (pos := p2) (pos' := p0) hnd i1 (.inl L1) (pe_non (j := j0) (pos := p1)) (noswap rfl) (.inr L1)
            have last := ps_ret (X := Z) (pos := p11) (pe_var (pos := p10) i1 (.inl L1) d1.1 d1.2)
            refine ⟨_, pss_cons first (pss_cons tr (pss_one last)), ?_⟩
            have st0 : L2.start N [V.ref f] = [some (.ref f), none, none] := by rw [three]; rfl
            rw [st0]
            refine ⟨fun cls dd H' => ∃ D bit, cls = .ref D ∧ dd = none ∧ XFact X.mg X.K cs TM IT LE D bit ∧ ∀ H'' p, HX H' H'' → H'' p = none → Q (.ref p) (upd H'' p (.tup [.str (Txt.join " " (kSel bit ws cs))])), ?_, rfl, hc, ?_⟩
            · rintro cls dd σ' H' ⟨D, bit, rfl, rfl, xf, hq⟩
              refine ⟨false, by rw [zK]; exact xf.m1, fun z => (by cases z), fun _ => ⟨false, by rw [zK]; exact xf.m2, fun z => (by cases z), fun _ => ⟨true, by rw [zK]; exact xf.m3, fun _ a ha hlen => ?_, fun z => (by cases z)⟩⟩⟩
              have hl : σ'.length = 3 := by rw [← hlen, List.length_set]
              refine ⟨D, bit, rfl, rfl, xf, by rw [List.getElem?_set_self (by omega)], fun H'' p hx hp => ⟨.ref p, ?_, hq H'' p hx hp⟩⟩
              rw [List.getElem?_set_ne (by omega), List.getElem?_set_self (by rw [List.length_set]; omega)]
            · have e : (fun (v : V) (H2 : Hp) => ∀ p, H2 p = none → ∃ x, (([some (.ref f), some .non, none] : L2.St).set 1 (some (.ref p)))[1]? = some (some x) ∧ Q x (upd H2 p (.tup [.str "told", v]))) = fun v H2 => ∀ p, H2 p = none → Q (.ref p) (upd H2 p (.tup [.str "told", v])) := by
                funext v H2
                exact propext ⟨fun z p hp => by obtain ⟨x, hx, hq⟩ := z p hp; cases hx; exact hq, fun z p hp => ⟨.ref p, rfl, z p hp⟩⟩
              show tl _ H (fun (v : V) (H2 : Hp) => ∀ p, H2 p = none → ∃ x, (([some (.ref f), some .non, none] : L2.St).set 1 (some (.ref p)))[1]? = some (some x) ∧ Q x (upd H2 p (.tup [.str "told", v])))
              rw [e]
              exact h
    · cases hb
  · cases hb
end
end Pk

end
section
/-! Ph9: what a caught call computes. -/
namespace Pk
open PySem PySem.Spec PyProof.Rows L2
open LamX (Tabs TabS ExtN CodeO lamCx lamEnv LamS lam_start2 TabB run_ofS)
section
variable {Z : Pm} {w : Own} {H : Hp} {σ : L2.St} {e : En}
theorem fz_ok : ∀ (fz : List Nat) {w : Own} {e : En}, SR Z w H σ e → ∃ w', Ext w H w' H ∧ SR Z w' H σ { e with s := fzS fz e.s }
  | [], w, e, s => ⟨w, .refl _ _, s⟩
  | i :: r, w, e, s => by
    obtain ⟨w1, y1, s1⟩ := fz_ok r s
    have hd : fzS (i :: r) e.s = match (fzS r e.s).getD i .un with | .own d => (fzS r e.s).set i (.fro d) | _ => fzS r e.s := rfl
    cases q : (fzS r e.s).getD i .un with
    | own d =>
      have hr : En.rd { e with s := fzS r e.s } i = .ok (.fro d, { e with s := (fzS r e.s).set i (.fro d) }) := by
        unfold En.rd
        dsimp only
        rw [q]
      obtain ⟨x, w', _, y2, s2, _⟩ := s1.rd hr
      refine ⟨w', y1.trans y2, ?_⟩
      rw [hd, q]
      exact s2
    | un => rw [hd, q]; exact ⟨w1, y1, s1⟩
    | fro d => rw [hd, q]; exact ⟨w1, y1, s1⟩
    | well => rw [hd, q]; exact ⟨w1, y1, s1⟩
/-- the names as a lambda's body sees them: all that is somebody's is far -/
theorem sr_lam {H1 : Hp} (s : SR Z w H σ e) (hx : ExtN H H1) (hd : ∀ b, H b ≠ none → H1 b ≠ none) (t : Tabs Z.T H1) : Ext w H w H1 ∧ SR Z (farW w none) H1 σ { s := lamS e.s, w := [] } := by
  have y : Ext w H w H1 := ⟨fun a u nu h _ => hx a u h nu, hd, fun _ _ z => z, fun _ z => z, fun _ z => z⟩
  refine ⟨y, by show σ.length = (lamS e.s).length; unfold lamS; rw [List.length_map]; exact s.len, fun i hi => ?_, fun a h => hd a (s.dom a fun z => h (farW_none z)), t, fun a b z _ => ?_⟩
  · have hi' : i < e.s.length := by
      have : (lamS e.s).length = e.s.length := by unfold lamS; rw [List.length_map]
      rw [← this]; exact hi
    have q := s.sl i hi'
    have e1 : (lamS e.s).getD i .un = match e.s.getD i .un with | .fro d => .fro d | _ => .un := by
      unfold lamS
      rw [List.getD_eq_getElem?_getD, List.getElem?_map, List.getD_eq_getElem?_getD, List.getElem?_eq_getElem hi']
      rfl
    show SlR Z (farW w none) H1 [] i (σ.getD i none) ((lamS e.s).getD i .un)
    rw [e1]
    cases q2 : e.s.getD i .un with
    | fro d =>
      rw [q2] at q
      dsimp only
      cases q3 : σ.getD i none with
      | none => rw [q3] at q; exact q.elim
      | some v =>
        rw [q3] at q
        have r : R Z w H v d := q
        show R Z (farW w none) H1 v d
        exact R.stay stay_far (R.stay y.stay r)
    | un => dsimp only; cases σ.getD i none <;> trivial
    | own d => dsimp only; cases σ.getD i none <;> trivial
    | well => dsimp only; cases σ.getD i none <;> trivial
  · unfold farW at z
    cases q : w a with
    | none => rw [q] at z; cases z
    | some o => rw [q] at z; cases z
end
/-- the law's classes of errors: what is told of each -/
structure Tolds (mg : Str → Option Value) (K : PySem.W.Frag) (Z : Pm) (G : Gv) (cs ws : List Str) (TM IT LE : Addr) : Prop where
  plain : ∀ c Ca f, Z.xc c = some (Ca, f) → f = none
  told : ∀ c Ca d, Z.xc c = some (Ca, none) → G.told c .non = some d → ∃ bit, XFact mg K cs TM IT LE Ca bit ∧ d = .tup [.str (Txt.join " " (kSel bit ws cs))]
theorem pd_caught {X : Cx} {C : Cn} {b : Ex} {fz : List Nat} {e : Expr} {cs ws : List Str} {TM IT LE : Addr} (T : Tolds X.mg X.K C.Z C.G cs ws TM IT LE) (hP : PE X e (tLamN C.Z.T (TCall X.mg X.K cs ws TM IT LE) (fun E => tD (C.e E) b))) : PE X e (tD C (.caught fz b)) := by
  refine PE.imp hP fun σ H Q ⟨w, e, s, h⟩ => ⟨s.tab, fun H1 hx hd t1 => ?_⟩
  obtain ⟨w1, y1, s1⟩ := fz_ok fz s
  obtain ⟨y2, s2⟩ := sr_lam s1 hx hd t1
  have n0 : ∀ a : Addr, some a = (none : Option Addr) → w1 a ≠ none ∧ w1 a ≠ some .far := fun a z => by cases z
  have d1 : Dom w1 H1 := fun a h => hd a (s1.dom a h)
  have sb : SR C.Z w1 H1 σ { e with s := fzS fz e.s } := by
    refine s1.up y2.stay (fun a _ => ⟨rfl, fun u hu hh => hx a u hh hu.ntbl⟩) d1 t1 (fun _ z => z)
  refine ⟨farW w1 none, _, s2, ?_⟩
  unfold PE1 at h ⊢
  rw [den] at h
  have h' : Pb (XP C w H) (caughtD C.G { e with s := fzS fz e.s } (den C.F C.G b { s := lamS (fzS fz e.s), w := [] })) _ := h
  have eF : den (C.e (fun cls d H' => ∃ D bit, cls = .ref D ∧ d = none ∧ XFact X.mg X.K cs TM IT LE D bit ∧ ∀ H'' p, HX H' H'' → H'' p = none → Q (.ref p) (upd H'' p (.tup [.str (Txt.join " " (kSel bit ws cs))])))).F C.G b { s := lamS (fzS fz e.s), w := [] } = den C.F C.G b { s := lamS (fzS fz e.s), w := [] } := rfl
  show Pb _ (den C.F C.G b { s := lamS (fzS fz e.s), w := [] }) _
  cases hr : den C.F C.G b { s := lamS (fzS fz e.s), w := [] } with
  | bad => rw [hr] at h'; exact h'.elim
  | exc c p =>
    rw [hr] at h'
    intro cls od H' w' y d t xr
    obtain ⟨Ca, f, hxc, rfl, hf⟩ := xr
    have ef := T.plain c Ca f hxc
    subst ef
    obtain ⟨rfl, rfl⟩ := hf
    have h2 : Pb (XP C w H) ((Out.of (C.G.told c .non)).bind fun d => Out.ok (Vl.fro d, ({ e with s := fzS fz e.s } : En))) (fun p => ∀ x w' H', Ext w H w' H' → SR C.Z w' H' σ p.2 → VR C.Z w' H' x p.1 → Q x H') := h'
    cases ht : C.G.told c .non with
    | none => rw [ht] at h2; exact h2.elim
    | some dd =>
      rw [ht] at h2
      obtain ⟨bit, xf, rfl⟩ := T.told c Ca dd hxc ht
      refine ⟨Ca, bit, rfl, rfl, xf, fun H'' q hxx hq => ?_⟩
      have yb := ext_back y n0
      have s3 := sr_back y sb d t
      have yy : Ext (backW w1 w') H' (backW w1 w') (upd H'' q (.tup [.str (Txt.join " " (kSel bit ws cs))])) := by
        have u := hx_upd (o := HO.tup [.str (Txt.join " " (kSel bit ws cs))]) hq
        exact ⟨fun a u2 _ hh _ => u _ _ (hxx _ _ hh), fun a hh => (by
          cases q2 : H' a with
          | none => exact absurd q2 hh
          | some o => rw [u _ _ (hxx _ _ q2)]; exact fun z => (by cases z)), fun _ _ z => z, fun _ z => z, fun _ z => z⟩
      have nq : H' q = none := by
        cases q2 : H' q with
        | none => rfl
        | some o => rw [hxx _ _ q2] at hq; cases hq
      have wq : backW w1 w' q = none := by
        cases q2 : backW w1 w' q with
        | none => rfl
        | some o => exact absurd nq (s3.dom q (by rw [q2]; exact fun z => by cases z))
      refine h2 (.ref q) (backW w1 w') _ (y1.trans (y2.trans (yb.trans yy))) ?_ ?_
      · refine s3.up yy.stay (fun a _ => ⟨rfl, fun u hu hh => (hx_upd hq) _ _ (hxx _ _ hh)⟩) (fun a h => yy.th a (s3.dom a h)) (s3.tab.ext fun b o hb => (hx_upd hq) _ _ (hxx _ _ hb)) (fun _ z => z)
      · exact .tup wq upd_same (.cons (.str _) .nil)
  | ok v =>
    obtain ⟨v, e2⟩ := v
    rw [hr] at h'
    intro x w' H' y s3 vr q hq
    have h2 : ∀ x w' H', Ext w H w' H' → SR C.Z w' H' σ { e with s := fzS fz e.s } → VR C.Z w' H' x (.fro (.tup [.str "told", v.d])) → Q x H' := h'
    have yb := ext_back y n0
    have s4 := sr_back y sb s3.dom s3.tab
    have vb := vr_back y vr
    obtain ⟨w5, y5, s5, r5⟩ := vb.free s4
    have wq : w5 q = none := by
      cases q2 : w5 q with
      | none => rfl
      | some o => exact absurd hq (s5.dom q (by rw [q2]; exact fun z => by cases z))
    have y6 : Ext w5 H' w5 (upd H' q (.tup [.str "told", x])) := ext_upd hq
    exact h2 (.ref q) w5 _ (y1.trans (y2.trans (yb.trans (y5.trans y6)))) (s5.laid hq) (.tup wq upd_same (.cons (.str _) (.cons (R.stay y6.stay r5) .nil)))
end Pk

end
section
/-! Pk19: what the checker says, of expressions. -/
namespace Pk
open PySem PySem.Spec PyProof.Rows L2
open LamX (Tabs TabS ExtN CodeO)
def bltN : List Str := ["len", "abs", "int", "max", "min", "sum", "all", "any", "sorted", "tuple", "list", "str", "bool", "dict", "isinstance", "range", "enumerate", "zip", "set"]
theorem passN {X : Cx} : Passes (L2N.CX X.prog X.w) X L2.E0 := fun _ _ _ _ _ _ _ h => (by
  obtain ⟨_, _, _, _, _, _, _, _, _, _, _, _, z⟩ := h
  exact z.elim)
theorem Fk.e {P : Program} {w : World} {K : PySem.W.Frag} {mg : Str → Option Value} {base : Heap} {k : Nat} {C : Cn} {f : Nat} {fc : Fc} {a : Addr} (F : Fk P w K mg base k C f fc a) (E : XK) : Fk P w K mg base k (C.e E) f fc a := ⟨F.at_, F.kp, F.ex, F.ln⟩
/-- the def that a lambda is handed to, as its maker sees it -/
structure LcOk (X : Cx) (x a : Str) (g : Addr) (cs ws : List Str) (TM IT LE : Addr) (pg : Arguments) (bg : List Stmt) (sg : Scope) (dV kV doc pm cdv ct oc : Value) (an od : Option Addr) (osl : Array (Option Value)) (Ng : List Str) : Prop where
  hm : X.mg x = some (.ref g)
  hk : PySem.W.keepIn X.K (.ref g) = true
  lk : X.K.lookup g = some ⟨oc, od, .func (PySem.W.fnOf x x pg bg sg dV kV doc pm an cdv ct), osl⟩
  hcg : PySem.W.codeIn X.K cdv x = true
  hb : L2.Binds X.K (PySem.W.fnOf x x pg bg sg dV kV doc pm an cdv ct) [a] []
  Sg : FnScope Ng [a] sg
  hNg : Ng[0]? = some a
  hva : Vis sg a
  hG : GivesN X Ng x sg g cdv bg a (X.env.qual ++ "<lambda>") (TCall X.mg X.K cs ws TM IT LE)
  hx : (x == ("__debug__" : Str)) = false
  ha : (a == ("__debug__" : Str)) = false
  hc : (a == ("__classdict__" : Str)) = false
/-- the maker of a lambda: its code object, its table, the room behind it -/
structure MkOk (X : Cx) (C : Cn) (c P : Addr) (k : Nat) : Prop where
  TB : LamX.TabB X.base X.mg c P
  hcode : X.env.code = .ref c
  hmT : (P, X.env.qual ++ "<lambda>") ∈ C.Z.T
  hu : ∀ p ∈ C.Z.T, p.1 = P → p.2 = X.env.qual ++ "<lambda>"
  hr : Room (k + 2) X.A
  hr4 : Room 4 X.A
structure LamOk (S : Sg) (X : Cx) (C : Cn) : Prop where
  ex : ∃ (x a : Str) (g c P : Addr) (k : Nat) (cs ws : List Str) (TM IT LE : Addr) (pg : Arguments) (bg : List Stmt) (sg : Scope) (dV kV doc pm cdv ct oc : Value) (an od : Option Addr) (osl : Array (Option Value)) (Ng : List Str),
    S.lc = some x ∧ LcOk X x a g cs ws TM IT LE pg bg sg dV kV doc pm cdv ct oc an od osl Ng ∧ MkOk X C c P k ∧ Tolds X.mg X.K C.Z C.G cs ws TM IT LE ∧ (∀ f nm w, S.fn f = some (nm, w) → ∃ fc a, fc.w = w ∧ X.mg nm = some (.ref a) ∧ Fk X.prog X.w X.K X.mg X.base k C f fc a) ∧
    ∀ g b, C.G.cv g = true → C.Z.mf g = some b → ∃ fc, Fk X.prog X.w X.K X.mg X.base k C g fc b ∧ fc.w = false
theorem LamOk.e {S : Sg} {X : Cx} {C : Cn} (l : LamOk S X C) (E : XK) : LamOk S X (C.e E) := by
  obtain ⟨x, a, g, c, P, k, cs, ws, TM, IT, LE, pg, bg, sg, dV, kV, doc, pm, cdv, ct, oc, an, od, osl, Ng, h1, h2, h3, h4, h5, h6⟩ := l.ex
  exact ⟨x, a, g, c, P, k, cs, ws, TM, IT, LE, pg, bg, sg, dV, kV, doc, pm, cdv, ct, oc, an, od, osl, Ng, h1, h2, ⟨h3.TB, h3.hcode, h3.hmT, h3.hu, h3.hr, h3.hr4⟩, ⟨h4.plain, h4.told⟩, fun f nm w h => let ⟨fc, a, q1, q2, q3⟩ := h5 f nm w h; ⟨fc, a, q1, q2, q3.e _⟩, fun g b q1 q2 => let ⟨fc, q3, q4⟩ := h6 g b q1 q2; ⟨fc, q3.e _, q4⟩⟩
structure Ok (S : Sg) (Y : Ctx) (X : Cx) (C : Cn) : Prop where
  N : X.N = Y.N
  nd : Y.N.Nodup
  sc : X.env.scope = Y.sc
  fns : ∀ x ∈ Y.fns, X.fn x = true
  calm : X.calm = true
  K : X.K = C.Z.K
  u : X.A.units + 64 < cLine
  ps : Passes (L2N.CX X.prog X.w) X C.E
  fn : ∀ f nm w, S.fn f = some (nm, w) → ∃ k fc a, fc.w = w ∧ Room k X.A ∧ X.mg nm = some (.ref a) ∧ Fk X.prog X.w X.K X.mg X.base k C f fc a
  fv : ∀ g b, C.G.cv g = true → C.Z.mf g = some b → ∃ fc k, Fk X.prog X.w X.K X.mg X.base k C g fc b ∧ fc.w = false ∧ Room k X.A
  gl : ∀ g nm, S.gl g = some nm → ∃ v u, X.mg nm = some u ∧ RelV v u ∧ ∀ d, C.G.glob g = some d → ∀ w H, R C.Z w H v d
  bl : ∀ nm ∈ bltN, X.mg nm = none
  lm : Y.lam = true → LamOk S X C
section
variable {S : Sg} {Y : Ctx} {X : Cx} {C : Cn}
theorem Ok.blk (o : Ok S Y X C) (sc : Scope) (hu : ∀ y ∈ sc.names, sc.names.lookup y.1 = some y.2) (s : Shared) (H : Hp) (a : Addr) (cl : List (Str × Addr)) (fp : List Addr) : Ok S (blkY Y sc) (Blk X sc s H a cl fp) C.z where
  N := o.N
  nd := o.nd
  sc := by
    show relabel sc X.env = relS sc Y.sc
    unfold relabel relS
    rw [← o.sc]
    rfl
  fns := fun x hx => by
    show (sc.names.lookup x == some .cell) = true
    obtain ⟨y, hy, rfl⟩ := List.mem_map.mp hx
    obtain ⟨hy, hc⟩ := List.mem_filter.mp hy
    rw [hu y hy, eq_of_beq hc]
    rfl
  calm := o.calm
  K := o.K
  u := o.u
  ps := passN
  fn := fun f nm w h => let ⟨k, fc, a, h1, h2, h3, h4⟩ := o.fn f nm w h; ⟨k, fc, a, h1, h2, h3, h4.e _⟩
  fv := fun g b h1 h2 => let ⟨fc, k, h3, h4, h5⟩ := o.fv g b h1 h2; ⟨fc, k, h3.e _, h4, h5⟩
  gl := o.gl
  bl := o.bl
  lm := fun h => (by cases h)
theorem glb_ok (o : Ok S Y X C) {x : Str} (h : glb Y x = true) : Gl X x ∧ (x == ("__debug__" : Str)) = false := by
  unfold glb at h
  split at h
  · rename_i q
    refine ⟨?_, by simpa using h⟩
    unfold Gl Env.kindOf
    rw [o.sc]
    exact q
  · cases h
theorem visB_ok (o : Ok S Y X C) {x : Str} (h : visB Y x = true) : Vis X.env.scope x := by
  unfold visB at h
  unfold Vis
  rw [o.sc]
  split at h
  · exact .inl (by assumption)
  · exact .inr (.inl (by assumption))
  · exact .inr (.inr (by assumption))
  · cases h
theorem locB_ok (o : Ok S Y X C) {x : Str} (h : locB Y x = true) : L2.Loc X.env.scope x ∧ (X.fn x = true ∨ X.env.scope.names.lookup x = some .local) := by
  unfold locB at h
  unfold L2.Loc
  rw [o.sc]
  split at h
  · rename_i q; exact ⟨.inl q, .inr q⟩
  · rename_i q; exact ⟨.inr q, .inl (o.fns x (by simpa using h))⟩
  · cases h
theorem nm_ok (o : Ok S Y X C) {i : Nat} {x : Str} {p : Pos} (h : nmB Y i x = true) : PE X (.Name x p) (tVar i) ∧ X.N[i]? = some x ∧ Vis X.env.scope x ∧ (x == ("__debug__" : Str)) = false ∧ (x == ("__classdict__" : Str)) = false := by
  unfold nmB at h
  simp only [Bool.and_eq_true, decide_eq_true_eq, Bool.not_eq_true'] at h
  obtain ⟨⟨⟨h1, h2⟩, h3⟩, h4⟩ := h
  have hN : X.N[i]? = some x := by rw [o.N]; exact h1
  exact ⟨pe_var hN (visB_ok o h2) h3 h4, hN, visB_ok o h2, h3, h4⟩
theorem mC_ok {d : D} {c : Const} {k : Nat} {p : Pos} (h : mC d c = true) : PE X (.Constant c k p) (tD C (.const d)) := by
  unfold mC at h
  split at h
  · rw [of_decide_eq_true h]; exact pd_const pe_int fun _ _ => .int _
  · rw [eq_of_beq h]; exact pd_const pe_bl fun _ _ => .bl _
  · exact pd_const pe_non fun _ _ => .non
  · rw [of_decide_eq_true h]; exact pd_const pe_str fun _ _ => .str _
  · cases h
theorem mG_ok (o : Ok S Y X C) : ∀ (tg : Tg) (e : Expr), mG Y tg e = true → PG X e (tG C tg)
  | .one i, e, h => by
    unfold mG at h
    split at h
    · simp only [Bool.and_eq_true, decide_eq_true_eq] at h
      obtain ⟨h1, h2⟩ := h
      obtain ⟨q1, q2⟩ := locB_ok o h2
      exact pg_one (by rw [o.N]; exact o.nd) (by rw [o.N]; exact h1) q1 q2
    · cases h
  | .two a b, e, h => by
    unfold mG at h
    split at h
    · simp only [Bool.and_eq_true] at h
      obtain ⟨⟨⟨h1, h2⟩, h3⟩, h4⟩ := h
      exact pg_two o.K o.calm (mG_ok o a _ h1) (mG_ok o b _ h2) h3 h4
    · cases h
  | .three a b c, e, h => by
    unfold mG at h
    split at h
    · simp only [Bool.and_eq_true] at h
      obtain ⟨⟨⟨⟨⟨h1, h2⟩, h3⟩, h4⟩, h5⟩, h6⟩ := h
      exact pg_three o.K o.calm (mG_ok o a _ h1) (mG_ok o b _ h2) (mG_ok o c _ h3) h4 h5 h6
    · cases h
end
end Pk

end
section
/-! Pk20: what the checker says, of expressions. -/
namespace Pk
open PySem PySem.Spec PyProof.Rows L2
open LamX (Tabs TabS ExtN CodeO)
theorem subIx_ok {a b : List Nat} (h : subIx a b = true) : ∀ j ∈ a, j ∈ b := fun j hj => by
  have := List.all_eq_true.mp h j hj
  simpa using this
theorem blN_in (b : Bl) : blN b ∈ bltN := by cases b <;> decide
theorem tyN_in (t : Ty) (h : t ≠ .tl) : Str.ofString (tyN t) ∈ bltN := by cases t <;> first | exact absurd rfl h | decide
theorem isTl_t {t : Ty} (h : isTl t = true) : t = .tl := by cases t <;> first | rfl | cases h
theorem isTl_f {t : Ty} (h : isTl t = false) : t ≠ .tl := fun z => by rw [z] at h; cases h
theorem pw_bool {X : Cx} {op : BoolOp} {l : List Expr} {p : Pos} {t : TT} (h : PT X (.BoolOp op l p) t) : PW X (.BoolOp op l p) t := ⟨fun wh pins s σ H Q I q => by
  have e : isTrue (.BoolOp op l p) X.env wh = isTrue (.BoolOp op l p) X.env (eval (.BoolOp op l p) X.env) := rfl
  rw [e]
  exact h.run pins s σ H Q I q⟩
theorem all_cons {e : Expr} {l : List Expr} (h : (e :: l).all notStar = true) : notStar e = true ∧ l.all notStar = true := by
  rw [List.all_cons, Bool.and_eq_true] at h
  exact h
def plainT : Expr → Bool
  | .Call _ _ _ _ => true
  | .Name _ _ => true
  | _ => false
theorem pt_plain {X : Cx} {C : Cn} {c : Ex} {e : Expr} (h : PE X e (tD C c)) (hp : plainT e = true) : PT X e (tT C c) :=
  pt_val h (by intro wh; cases e <;> first | rfl | cases hp)
section
variable {S : Sg} {Y : Ctx} {X : Cx} {C : Cn}
theorem po_any (o : Ok S Y X C) {c : Ex} {e : Expr} (h : mE S c Y e = true) (ih : PE X e (tD C c)) : PE X e (tO C c) := by
  cases c <;> first | exact po_of rfl ih | skip
  rename_i i
  unfold mE at h
  split at h
  · exact (nm_ok o h).1
  · cases h
theorem blk_ok (o : Ok S Y X C) {sc : Scope} {own : List (Str × Nat)} (h : blkC Y.N Y.sc sc own = true) : BlkOk X.N X.env.scope sc own := by
  rw [o.N, o.sc]
  exact blkOk_by h
end
theorem ok_lam {S : Sg} {Y : Ctx} {X : Cx} {C : Cn} {k : Nat} {A : Around} {outer : List Env} {s : Shared} {H : Hp} {E : XK} {scope : Scope} {f c' : Addr} (o : Ok S Y X C) (hr : Room k (A.deeper (LamX.lamEnv X scope s.heap.objs.size f c')))
    (q2 : ∀ f nm w, S.fn f = some (nm, w) → ∃ fc a, fc.w = w ∧ X.mg nm = some (.ref a) ∧ Fk X.prog X.w X.K X.mg X.base k C f fc a) (q3 : ∀ g b, C.G.cv g = true → C.Z.mf g = some b → ∃ fc, Fk X.prog X.w X.K X.mg X.base k C g fc b ∧ fc.w = false) :
    Ok S ⟨Y.N, scope, [], false⟩ (lamCxN X A outer s H E scope f c') (C.e E) where
  N := o.N
  nd := o.nd
  sc := rfl
  fns := fun x hx => (by cases hx)
  calm := rfl
  K := o.K
  u := by
    have := hr.un
    show (A.deeper (LamX.lamEnv X scope s.heap.objs.size f c')).units + 64 < cLine
    omega
  ps := L2N.passes_call (L2N.takes_of rfl rfl rfl rfl) fun _ _ _ _ h => h
  fn := fun f nm w h => let ⟨fc, a, h1, h2, h3⟩ := q2 f nm w h; ⟨k, fc, a, h1, hr, h2, h3.e _⟩
  fv := fun g b h1 h2 => let ⟨fc, h3, h4⟩ := q3 g b h1 h2; ⟨fc, k, h3.e _, h4, hr⟩
  gl := o.gl
  bl := o.bl
  lm := fun h => (by cases h)
mutual
theorem mE_ok {S : Sg} : ∀ (c : Ex) {Y : Ctx} {X : Cx} {C : Cn}, Ok S Y X C → ∀ (e : Expr), mE S c Y e = true → PE X e (tD C c)
  | .const d, Y, X, C, o, e, h => by
    unfold mE at h
    split at h
    · exact mC_ok h
    · cases h
  | .name i, Y, X, C, o, e, h => by
    unfold mE at h
    split at h
    · exact pd_name (nm_ok o h).1
    · cases h
  | .glob g, Y, X, C, o, e, h => by
    unfold mE at h
    split at h
    · simp only [Bool.and_eq_true, decide_eq_true_eq] at h
      obtain ⟨hg, hd⟩ := glb_ok o h.2
      obtain ⟨v, u, hm, r, k⟩ := o.gl g _ h.1
      exact pd_glob (pe_glob hg hm r hd) k
    · cases h
  | .tup es, Y, X, C, o, e, h => by
    unfold mE at h
    split at h
    · simp only [Bool.and_eq_true, decide_eq_true_eq] at h
      exact pd_tup (mEs_ok es o _ h.2).1 h.1
    · cases h
  | .lst es, Y, X, C, o, e, h => by
    unfold mE at h
    split at h
    · simp only [Bool.and_eq_true, decide_eq_true_eq] at h
      exact pd_lst (mEs_ok es o _ h.2).1 h.1
    · cases h
  | .dict0 tk, Y, X, C, o, e, h => by
    unfold mE at h
    split at h
    · exact pd_dict0 tk
    · cases h
  | .bin op a b, Y, X, C, o, e, h => by
    unfold mE at h
    split at h
    · simp only [Bool.and_eq_true] at h
      obtain ⟨⟨h1, h2⟩, h3⟩ := h
      rw [opB_eq h1]
      exact pd_bin o.K (po_any o h2 (mE_ok a o _ h2)) (po_any o h3 (mE_ok b o _ h3)) op
    · cases h
  | .neg a, Y, X, C, o, e, h => by
    unfold mE at h
    split at h
    · exact pd_neg (po_any o h (mE_ok a o _ h))
    · cases h
  | .cmp op a b, Y, X, C, o, e, h => by
    unfold mE at h
    split at h
    · simp only [Bool.and_eq_true, Bool.not_eq_true'] at h
      obtain ⟨⟨⟨h1, h2⟩, h3⟩, h4⟩ := h
      rw [cmB_eq h1] at h2 ⊢
      exact pd_cmp o.K o.u (po_any o h3 (mE_ok a o _ h3)) (po_any o h4 (mE_ok b o _ h4)) op h2
    · cases h
  | .cmp2 op op' a b c, Y, X, C, o, e, h => by
    unfold mE at h
    split at h
    · simp only [Bool.and_eq_true, Bool.not_eq_true'] at h
      obtain ⟨⟨⟨⟨⟨h1, h2⟩, h3⟩, h4⟩, h5⟩, h6⟩ := h
      rw [cmB_eq h1, cmB_eq h2] at h3 ⊢
      exact pd_cmp2 o.K o.u (mE_ok a o _ h4) (mE_ok b o _ h5) (mE_ok c o _ h6) op op' h3
    · cases h
  | .and a b, Y, X, C, o, e, h => by
    unfold mE at h
    split at h
    · simp only [Bool.and_eq_true] at h
      exact PE.imp (pe_and (mE_ok a o _ h.1) (pe_one (mE_ok b o _ h.2))) fun σ H Q z => and_sound z
    · simp only [Bool.and_eq_true] at h
      exact PE.imp (pe_and (mE_ok a o _ h.1) (mE_ok b o _ h.2)) fun σ H Q z => and_sound z
    · cases h
  | .or a b, Y, X, C, o, e, h => by
    unfold mE at h
    split at h
    · simp only [Bool.and_eq_true] at h
      exact PE.imp (pe_or (mE_ok a o _ h.1) (pe_one (mE_ok b o _ h.2))) fun σ H Q z => or_sound z
    · simp only [Bool.and_eq_true] at h
      exact PE.imp (pe_or (mE_ok a o _ h.1) (mE_ok b o _ h.2)) fun σ H Q z => or_sound z
    · cases h
  | .not a, Y, X, C, o, e, h => by
    unfold mE at h
    split at h
    · exact pd_not (mE_ok a o _ h)
    · cases h
  | .ite t a b, Y, X, C, o, e, h => by
    unfold mE at h
    split at h
    · simp only [Bool.and_eq_true] at h
      obtain ⟨⟨h1, h2⟩, h3⟩ := h
      exact pd_ite (mT_ok t o _ h1) (mE_ok a o _ h2) (mE_ok b o _ h3)
    · cases h
  | .call f es, Y, X, C, o, e, h => by
    unfold mE at h
    split at h
    · simp only [Bool.and_eq_true, decide_eq_true_eq] at h
      obtain ⟨⟨⟨h1, h2⟩, h3⟩, h4⟩ := h
      obtain ⟨hg, hd⟩ := glb_ok o h2
      obtain ⟨k, fc, a, hw, hr, hm, F⟩ := o.fn f _ _ h1
      obtain ⟨n1, n2⟩ := all_cons h3
      exact pd_call F hw hr o.ps hg hm (mEs_ok es o _ h4).1 hd n1 n2
    · cases h
  | .callw f i es, Y, X, C, o, e, h => by
    unfold mE at h
    split at h
    · simp only [Bool.and_eq_true, decide_eq_true_eq] at h
      obtain ⟨⟨⟨⟨h1, h2⟩, h3⟩, h4⟩, h5⟩ := h
      obtain ⟨hg, hd⟩ := glb_ok o h2
      obtain ⟨k, fc, a, hw, hr, hm, F⟩ := o.fn f _ _ h1
      exact pd_callw F hw hr o.ps hg hm (nm_ok o h3).1 (mEs_ok es o _ h5).1 hd h4
    · cases h
  | .callv i es, Y, X, C, o, e, h => by
    unfold mE at h
    split at h
    · simp only [Bool.and_eq_true] at h
      obtain ⟨⟨h1, h2⟩, h3⟩ := h
      obtain ⟨_, hN, hv, hd, hcd⟩ := nm_ok (p := ⟨0, 0, 0, 0⟩) o h1
      obtain ⟨n1, n2⟩ := all_cons h2
      exact pd_callv o.fv o.ps hN hv (mEs_ok es o _ h3).1 hd hcd n1 n2
    · cases h
  | .blt b es, Y, X, C, o, e, h => by
    unfold mE at h
    split at h
    · simp only [Bool.and_eq_true, decide_eq_true_eq] at h
      obtain ⟨⟨⟨h1, h2⟩, h3⟩, h4⟩ := h
      subst h1
      obtain ⟨hg, hd⟩ := glb_ok o h2
      obtain ⟨n1, n2⟩ := all_cons h3
      exact pd_blt o.K o.calm hg (o.bl _ (blN_in b)) (mEs_ok es o _ h4).2 n1 n2
    · cases h
  | .isi t a, Y, X, C, o, e, h => by
    unfold mE at h
    split at h
    · simp only [Bool.and_eq_true, decide_eq_true_eq] at h
      obtain ⟨⟨⟨⟨⟨⟨⟨⟨h0, h1⟩, h2⟩, h3⟩, h4⟩, h5⟩, h6⟩, h7⟩, h8⟩ := h
      subst h1 h2 h3
      rw [isTl_t h0]
      exact pd_isiTL o.K (po_any o h8 (mE_ok a o _ h8)) h7 (glb_ok o h4).1 (o.bl _ (by decide)) (glb_ok o h5).1 (o.bl _ (by decide)) (glb_ok o h6).1 (o.bl _ (by decide))
    · simp only [Bool.and_eq_true, decide_eq_true_eq, Bool.not_eq_true'] at h
      obtain ⟨⟨⟨⟨⟨⟨h0, h1⟩, h2⟩, h4⟩, h5⟩, h7⟩, h8⟩ := h
      subst h1 h2
      exact pd_isi (isTl_f h0) o.K (po_any o h8 (mE_ok a o _ h8)) h7 (glb_ok o h4).1 (o.bl _ (by decide)) (glb_ok o h5).1 (o.bl _ (tyN_in t (isTl_f h0)))
    · cases h
  | .sub a i, Y, X, C, o, e, h => by
    unfold mE at h
    split at h
    · simp only [Bool.and_eq_true] at h
      obtain ⟨⟨h1, h2⟩, h3⟩ := h
      exact pd_sub o.K o.u (po_any o h2 (mE_ok a o _ h2)) (po_any o h3 (mE_ok i o _ h3)) h1
    · cases h
  | .slice a lo hi, Y, X, C, o, e, h => by
    unfold mE at h
    split at h
    · simp only [Bool.and_eq_true] at h
      obtain ⟨⟨h1, h2⟩, h3⟩ := h
      exact pd_slice o.K (po_any o h1 (mE_ok a o _ h1)) (mO_ok lo o _ h2) (mO_ok hi o _ h3)
    · cases h
  | .rev a, Y, X, C, o, e, h => by
    unfold mE at h
    split at h
    · simp only [Bool.and_eq_true, decide_eq_true_eq] at h
      obtain ⟨h1, h2⟩ := h
      subst h1
      exact pd_rev (po_any o h2 (mE_ok a o _ h2))
    · cases h
  | .revb a, Y, X, C, o, e, h => by
    unfold mE at h
    split at h
    · simp only [Bool.and_eq_true, decide_eq_true_eq] at h
      obtain ⟨⟨h1, h2⟩, h3⟩ := h
      subst h1 h2
      exact pd_revb (po_any o h3 (mE_ok a o _ h3))
    · cases h
  | .lc elt own tg it c, Y, X, C, o, e, h => by
    unfold mE at h
    split at h
    · simp only [Bool.and_eq_true, decide_eq_true_eq] at h
      obtain ⟨⟨⟨⟨⟨⟨⟨⟨h0, h1⟩, h2⟩, h3⟩, h4⟩, h5⟩, h6⟩, h7⟩, h8⟩ := h
      subst h0
      have B := blk_ok o h2
      rw [← h1] at h3 ⊢
      exact pd_lc o.calm (by rw [o.N]; exact o.nd) (mI_ok it o _ _ h5) B (subIx_ok h3) (fun s H a cl fp => mG_ok (o.blk _ B.uniq s H a cl fp) tg _ h4) (fun s H a cl fp => mY_ok c (o.blk _ B.uniq s H a cl fp) _ h7) (fun s H a cl fp => mE_ok elt (o.blk _ B.uniq s H a cl fp) _ h8) fun x => noFold_ok h6
    · cases h
  | .lc2 elt own own1 tg it c tg1 it1 c1, Y, X, C, o, e, h => by
    unfold mE at h
    split at h
    · simp only [Bool.and_eq_true, decide_eq_true_eq] at h
      obtain ⟨⟨⟨⟨⟨⟨⟨⟨⟨⟨⟨⟨⟨⟨⟨h0, h0'⟩, h1⟩, h2⟩, h3⟩, h3'⟩, h3''⟩, h4⟩, h4'⟩, h5⟩, h6⟩, h6'⟩, h5'⟩, h7⟩, h7'⟩, h8⟩ := h
      subst h0 h0'
      have B := blk_ok o h2
      rw [← h1] at h3 h3'' ⊢
      exact pd_lc2 o.calm (by rw [o.N]; exact o.nd) (mI_ok it o _ _ h5) B (subIx_ok h3) (subIx_ok h3') (subIx_ok h3'') (fun s H a cl fp => mG_ok (o.blk _ B.uniq s H a cl fp) tg _ h4) (fun s H a cl fp => mY_ok c (o.blk _ B.uniq s H a cl fp) _ h7) (fun s H a cl fp => mI_ok it1 (o.blk _ B.uniq s H a cl fp) _ _ h5')
        (fun s H a cl fp => mG_ok (o.blk _ B.uniq s H a cl fp) tg1 _ h4') (fun s H a cl fp => mY_ok c1 (o.blk _ B.uniq s H a cl fp) _ h7') (fun s H a cl fp => mE_ok elt (o.blk _ B.uniq s H a cl fp) _ h8) (fun env x => noFold_ok h6) (fun env x => noFold_ok h6')
    · cases h
  | .lci elt own tg kd j c, Y, X, C, o, e, h => by
    unfold mE at h
    split at h
    · simp only [Bool.and_eq_true, decide_eq_true_eq] at h
      obtain ⟨⟨⟨⟨⟨⟨⟨⟨⟨⟨⟨hk, h0⟩, hn⟩, hl⟩, hx⟩, ht⟩, h1⟩, h2⟩, h3⟩, h4⟩, h7⟩, h8⟩ := h
      subst h0 hn hk
      have B := blk_ok o h2
      rw [← h1] at h3 ⊢
      rename_i t x _ _ _ _ _ _
      have P : ∀ {ap cp p : Pos}, (ap.endLine == cp.line) = true → PI X t (.Call (.Attribute (.Name x p) "items" ap) [] [] cp) (iDict true j) := by
        intro ap cp p hl
        cases t <;> first | exact pi_ditems (nm_ok o hx).1 hl | cases ht
      exact pd_lci o.calm (by rw [o.N]; exact o.nd) (P hl) B (subIx_ok h3) (fun s H a cl fp => mG_ok (o.blk _ B.uniq s H a cl fp) tg _ h4) (fun s H a cl fp => mY_ok c (o.blk _ B.uniq s H a cl fp) _ h7) (fun s H a cl fp => mE_ok elt (o.blk _ B.uniq s H a cl fp) _ h8) fun x => rfl
    · simp only [Bool.and_eq_true, decide_eq_true_eq, Bool.not_eq_true'] at h
      obtain ⟨⟨⟨⟨⟨⟨⟨⟨hk, h0⟩, hx⟩, h1⟩, h2⟩, h3⟩, h4⟩, h7⟩, h8⟩ := h
      subst h0 hk
      have B := blk_ok o h2
      rw [← h1] at h3 ⊢
      exact pd_lci o.calm (by rw [o.N]; exact o.nd) (pi_dkeys (nm_ok o hx).1) B (subIx_ok h3) (fun s H a cl fp => mG_ok (o.blk _ B.uniq s H a cl fp) tg _ h4) (fun s H a cl fp => mY_ok c (o.blk _ B.uniq s H a cl fp) _ h7) (fun s H a cl fp => mE_ok elt (o.blk _ B.uniq s H a cl fp) _ h8) fun x => rfl
    · cases h
  | .dc k v own tg it, Y, X, C, o, e, h => by
    unfold mE at h
    split at h
    · simp only [Bool.and_eq_true, decide_eq_true_eq] at h
      obtain ⟨⟨⟨⟨⟨⟨⟨⟨h0, h1⟩, h2⟩, h3⟩, h4⟩, h5⟩, h6⟩, h7⟩, h8⟩ := h
      subst h0
      have B := blk_ok o h2
      rw [← h1] at h3 ⊢
      exact PE.imp (pe_dc o.calm (by rw [o.N]; exact o.nd) (mI_ok it o _ _ h5) B (fun s H a cl fp => mG_ok (o.blk _ B.uniq s H a cl fp) tg _ h4) (fun s H a cl fp => pts_nil) (fun s H a cl fp => mE_ok k (o.blk _ B.uniq s H a cl fp) _ h7) (fun s H a cl fp => mE_ok v (o.blk _ B.uniq s H a cl fp) _ h8) fun x => noFold_ok h6) fun σ H Q z => dc_sound (subIx_ok h3) z
    · cases h
  | .caught fz b, Y, X, C, o, e, h => by
    unfold mE at h
    split at h
    · simp only [Bool.and_eq_true, decide_eq_true_eq] at h
      obtain ⟨h1, h2, h3, h4, h5⟩ := h
      obtain ⟨x, a, g, c, P, k, cs, ws, TM, IT, LE, pg, bg, sg, dV, kV, doc, pm, cdv, ct, oc, an, od, osl, Ng, q1, L, M, T, q2, q3⟩ := (o.lm h1).ex
      rw [q1] at h2
      cases h2
      have ls := LamX.lamS_by h4
      rw [← o.sc] at ls
      exact pd_caught T (pe_lamcallN (t := fun E => tD (C.e E) b) (glb_ok o h3).1 L.hm L.hk L.lk L.hcg L.hb L.Sg L.hNg L.hva L.hG M.TB M.hcode M.hmT M.hu M.hr M.hr4 ls rfl (fun q cl pm cv ctv => rfl) (fun A outer s H E f c' hr => mE_ok b (ok_lam o hr q2 q3) _ h5) L.hx L.ha L.hc)
    · cases h
  | .sumv a, Y, X, C, o, e, h => by
    unfold mE at h
    split at h
    · simp only [Bool.and_eq_true, decide_eq_true_eq] at h
      obtain ⟨⟨⟨⟨⟨h1, h2⟩, h3⟩, h4⟩, h5⟩, h6⟩ := h
      subst h1 h2
      exact pd_sumv o.calm (glb_ok o h3).1 (o.bl _ (by decide)) (po_any o h6 (mE_ok a o _ h6)) h4 h5
    · cases h
  | .tupr a, Y, X, C, o, e, h => by
    unfold mE at h
    split at h
    · simp only [Bool.and_eq_true, decide_eq_true_eq] at h
      obtain ⟨⟨⟨⟨⟨h1, h2⟩, h3⟩, h4⟩, h5⟩, h6⟩ := h
      subst h1 h2
      exact pd_tupr o.calm (glb_ok o h3).1 (o.bl _ (by decide)) (glb_ok o h4).1 (o.bl _ (by decide)) (po_any o h6 (mE_ok a o _ h6)) h5
    · cases h
  | .dict1 _ _, _, _, _, _, _, h => by unfold mE at h; cases h
  | .meth _ _ _, _, _, _, _, _, h => by unfold mE at h; cases h
  | .sset _, _, _, _, _, _, h => by unfold mE at h; cases h
  | .lset _, _, _, _, _, _, h => by unfold mE at h; cases h
theorem mT_ok {S : Sg} : ∀ (c : Ex) {Y : Ctx} {X : Cx} {C : Cn}, Ok S Y X C → ∀ (e : Expr), mT S c Y e = true → PT X e (tT C c)
  | .cmp op a b, Y, X, C, o, e, h => by
    unfold mT at h
    split at h
    · simp only [Bool.and_eq_true, Bool.not_eq_true'] at h
      obtain ⟨⟨⟨h1, h2⟩, h3⟩, h4⟩ := h
      rw [cmB_eq h1] at h2 ⊢
      exact pt_cmpD o.K o.u (po_any o h3 (mE_ok a o _ h3)) (po_any o h4 (mE_ok b o _ h4)) op h2
    · cases h
  | .cmp2 op op' a b c, Y, X, C, o, e, h => by
    unfold mT at h
    split at h
    · simp only [Bool.and_eq_true, Bool.not_eq_true'] at h
      obtain ⟨⟨⟨⟨⟨h1, h2⟩, h3⟩, h4⟩, h5⟩, h6⟩ := h
      rw [cmB_eq h1, cmB_eq h2] at h3 ⊢
      exact pt_cmp2D o.K o.u (mE_ok a o _ h4) (mE_ok b o _ h5) (mE_ok c o _ h6) op op' h3
    · cases h
  | .and a b, Y, X, C, o, e, h => by
    unfold mT at h
    split at h
    · simp only [Bool.and_eq_true] at h
      exact PT.imp (PW.pt (pw_and (mT_ok a o _ h.1) (pw_and1 (mT_ok b o _ h.2)))) fun σ H Q z => andT_sound z
    · simp only [Bool.and_eq_true] at h
      exact PT.imp (PW.pt (pw_and (mT_ok a o _ h.1) (pw_bool (mT_ok b o _ h.2)))) fun σ H Q z => andT_sound z
    · cases h
  | .or a b, Y, X, C, o, e, h => by
    unfold mT at h
    split at h
    · simp only [Bool.and_eq_true] at h
      exact PT.imp (PW.pt (pw_or (mT_ok a o _ h.1) (pw_or1 (mT_ok b o _ h.2)))) fun σ H Q z => orT_sound z
    · simp only [Bool.and_eq_true] at h
      exact PT.imp (PW.pt (pw_or (mT_ok a o _ h.1) (pw_bool (mT_ok b o _ h.2)))) fun σ H Q z => orT_sound z
    · cases h
  | .not a, Y, X, C, o, e, h => by
    unfold mT at h
    split at h
    · exact PT.imp (pt_not (mT_ok a o _ h)) fun σ H Q z => notT_sound z
    · cases h
  | .call f es, Y, X, C, o, e, h => by
    unfold mT at h
    split at h
    · simp only [Bool.and_eq_true, decide_eq_true_eq] at h
      obtain ⟨⟨⟨h1, h2⟩, h3⟩, h4⟩ := h
      obtain ⟨hg, hd⟩ := glb_ok o h2
      obtain ⟨k, fc, a, hw, hr, hm, F⟩ := o.fn f _ _ h1
      obtain ⟨n1, n2⟩ := all_cons h3
      exact pt_plain (pd_call F hw hr o.ps hg hm (mEs_ok es o _ h4).1 hd n1 n2) rfl
    · cases h
  | .callw f i es, Y, X, C, o, e, h => by
    unfold mT at h
    split at h
    · simp only [Bool.and_eq_true, decide_eq_true_eq] at h
      obtain ⟨⟨⟨⟨h1, h2⟩, h3⟩, h4⟩, h5⟩ := h
      obtain ⟨hg, hd⟩ := glb_ok o h2
      obtain ⟨k, fc, a, hw, hr, hm, F⟩ := o.fn f _ _ h1
      exact pt_plain (pd_callw F hw hr o.ps hg hm (nm_ok o h3).1 (mEs_ok es o _ h5).1 hd h4) rfl
    · cases h
  | .name i, Y, X, C, o, e, h => by
    unfold mT at h
    split at h
    · exact pt_plain (pd_name (nm_ok o h).1) rfl
    · cases h
  | .isi t a, Y, X, C, o, e, h => by
    unfold mT at h
    split at h
    · simp only [Bool.and_eq_true, decide_eq_true_eq] at h
      obtain ⟨⟨⟨⟨⟨⟨⟨⟨h0, h1⟩, h2⟩, h3⟩, h4⟩, h5⟩, h6⟩, h7⟩, h8⟩ := h
      subst h1 h2 h3
      rw [isTl_t h0]
      exact pt_plain (pd_isiTL o.K (po_any o h8 (mE_ok a o _ h8)) h7 (glb_ok o h4).1 (o.bl _ (by decide)) (glb_ok o h5).1 (o.bl _ (by decide)) (glb_ok o h6).1 (o.bl _ (by decide))) rfl
    · simp only [Bool.and_eq_true, decide_eq_true_eq, Bool.not_eq_true'] at h
      obtain ⟨⟨⟨⟨⟨⟨h0, h1⟩, h2⟩, h4⟩, h5⟩, h7⟩, h8⟩ := h
      subst h1 h2
      exact pt_plain (pd_isi (isTl_f h0) o.K (po_any o h8 (mE_ok a o _ h8)) h7 (glb_ok o h4).1 (o.bl _ (by decide)) (glb_ok o h5).1 (o.bl _ (tyN_in t (isTl_f h0)))) rfl
    · cases h
  | .blt b es, Y, X, C, o, e, h => by
    unfold mT at h
    split at h
    · simp only [Bool.and_eq_true, decide_eq_true_eq] at h
      obtain ⟨⟨⟨h1, h2⟩, h3⟩, h4⟩ := h
      subst h1
      obtain ⟨hg, hd⟩ := glb_ok o h2
      obtain ⟨n1, n2⟩ := all_cons h3
      exact pt_plain (pd_blt o.K o.calm hg (o.bl _ (blN_in b)) (mEs_ok es o _ h4).2 n1 n2) rfl
    · cases h
  | .const _, _, _, _, _, _, h => by unfold mT at h; cases h
  | .glob _, _, _, _, _, _, h => by unfold mT at h; cases h
  | .tup _, _, _, _, _, _, h => by unfold mT at h; cases h
  | .lst _, _, _, _, _, _, h => by unfold mT at h; cases h
  | .dict0 _, _, _, _, _, _, h => by unfold mT at h; cases h
  | .dict1 _ _, _, _, _, _, _, h => by unfold mT at h; cases h
  | .bin _ _ _, _, _, _, _, _, h => by unfold mT at h; cases h
  | .neg _, _, _, _, _, _, h => by unfold mT at h; cases h
  | .ite _ _ _, _, _, _, _, _, h => by unfold mT at h; cases h
  | .callv _ _, _, _, _, _, _, h => by unfold mT at h; cases h
  | .sub _ _, _, _, _, _, _, h => by unfold mT at h; cases h
  | .slice _ _ _, _, _, _, _, _, h => by unfold mT at h; cases h
  | .rev _, _, _, _, _, _, h => by unfold mT at h; cases h
  | .revb _, _, _, _, _, _, h => by unfold mT at h; cases h
  | .lc _ _ _ _ _, _, _, _, _, _, h => by unfold mT at h; cases h
  | .lc2 _ _ _ _ _ _ _ _ _, _, _, _, _, _, h => by unfold mT at h; cases h
  | .dc _ _ _ _ _, _, _, _, _, _, h => by unfold mT at h; cases h
  | .meth _ _ _, _, _, _, _, _, h => by unfold mT at h; cases h
  | .sumv _, _, _, _, _, _, h => by unfold mT at h; cases h
  | .lci _ _ _ _ _ _, _, _, _, _, _, h => by unfold mT at h; cases h
  | .sset _, _, _, _, _, _, h => by unfold mT at h; cases h
  | .lset _, _, _, _, _, _, h => by unfold mT at h; cases h
  | .tupr _, _, _, _, _, _, h => by unfold mT at h; cases h
  | .caught _ _, _, _, _, _, _, h => by unfold mT at h; cases h
theorem mEs_ok {S : Sg} : ∀ (c : Exs) {Y : Ctx} {X : Cx} {C : Cn}, Ok S Y X C → ∀ (l : List Expr), mEs S c Y l = true → PA X l (tA C c) ∧ PA X l (tAO C c)
  | .nil, Y, X, C, o, l, h => by
    cases l with
    | nil => exact ⟨pa_dnil, pa_onil⟩
    | cons e l => unfold mEs at h; cases h
  | .cons a r, Y, X, C, o, l, h => by
    cases l with
    | nil => unfold mEs at h; cases h
    | cons e l =>
      unfold mEs at h
      simp only [Bool.and_eq_true] at h
      obtain ⟨⟨h1, h2⟩, h3⟩ := h
      have ih := mE_ok a o _ h2
      obtain ⟨i1, i2⟩ := mEs_ok r o _ h3
      exact ⟨pa_dcons ih i1 h1, pa_ocons (po_any o h2 ih) i2 h1⟩
theorem mO_ok {S : Sg} : ∀ (c : Eo) {Y : Ctx} {X : Cx} {C : Cn}, Ok S Y X C → ∀ (e : Option Expr), mO S c Y e = true → PO X e (tPo C c)
  | .none, Y, X, C, o, e, h => by
    cases e with
    | none => exact po_dnone
    | some e => unfold mO at h; cases h
  | .some a, Y, X, C, o, e, h => by
    cases e with
    | none => unfold mO at h; cases h
    | some e => unfold mO at h; exact po_dsome (mE_ok a o _ h)
theorem mY_ok {S : Sg} : ∀ (c : Eo) {Y : Ctx} {X : Cx} {C : Cn}, Ok S Y X C → ∀ (l : List Expr), mY S c Y l = true → PTs X l (tY C c)
  | .none, Y, X, C, o, l, h => by
    cases l with
    | nil => exact py_none
    | cons e l => unfold mY at h; cases h
  | .some a, Y, X, C, o, l, h => by
    cases l with
    | nil => unfold mY at h; cases h
    | cons e l =>
      cases l with
      | nil => unfold mY at h; exact py_some (mT_ok a o _ h)
      | cons e2 l => unfold mY at h; cases h
theorem mI_ok {S : Sg} : ∀ (c : It) {Y : Ctx} {X : Cx} {C : Cn}, Ok S Y X C → ∀ (t e : Expr), mI S c Y t e = true → PI X t e (tI C c)
  | .seq a, Y, X, C, o, t, e, h => by
    unfold mI at h
    exact pi_dseq (mE_ok a o _ h)
  | .range1 a, Y, X, C, o, t, e, h => by
    unfold mI at h
    split at h
    · simp only [Bool.and_eq_true, decide_eq_true_eq] at h
      obtain ⟨⟨⟨h1, h2⟩, h3⟩, h4⟩ := h
      subst h1
      exact pi_drange1 (glb_ok o h2).1 (o.bl _ (by decide)) (pa_dcons (mE_ok a o _ h4) pa_dnil h3) h3
    · cases h
  | .range2 a b, Y, X, C, o, t, e, h => by
    unfold mI at h
    split at h
    · simp only [Bool.and_eq_true, decide_eq_true_eq] at h
      obtain ⟨⟨⟨⟨⟨h1, h2⟩, h3⟩, h3'⟩, h4⟩, h5⟩ := h
      subst h1
      exact pi_drange2 (glb_ok o h2).1 (o.bl _ (by decide)) (pa_dcons (mE_ok a o _ h4) (pa_dcons (mE_ok b o _ h5) pa_dnil h3') h3) h3 h3'
    · cases h
  | .range3 a b k, Y, X, C, o, t, e, h => by
    unfold mI at h
    split at h
    · simp only [Bool.and_eq_true, decide_eq_true_eq] at h
      obtain ⟨⟨⟨⟨⟨⟨⟨h1, hj⟩, hk⟩, h2⟩, h3⟩, h3'⟩, h4⟩, h5⟩ := h
      subst h1 hj hk
      have hc : ∀ {k : Nat} {p1 p2 : Pos}, PE X (.UnaryOp .USub (.Constant (.int 1) k p1) p2) (tD C (.const (.int (-1)))) := fun {k p1 p2} => pd_const (v := .int (-1)) (PE.imp (pe_un un_neg pe_int) fun σ H Q z => ⟨1, rfl, z⟩) fun _ _ => .int _
      exact pi_drange3 (glb_ok o h2).1 (o.bl _ (by decide)) (pa_dcons (mE_ok a o _ h4) (pa_dcons (mE_ok b o _ h5) (pa_dcons hc pa_dnil rfl) h3') h3) h3 h3' rfl
    · cases h
  | .zip a b, Y, X, C, o, t, e, h => by
    unfold mI at h
    split at h
    · simp only [Bool.and_eq_true, decide_eq_true_eq] at h
      obtain ⟨⟨⟨⟨⟨⟨ht, h1⟩, h2⟩, h3⟩, h3'⟩, h4⟩, h5⟩ := h
      subst h1
      cases t <;> first | exact pi_dzip (glb_ok o h2).1 (o.bl _ (by decide)) (pa_dcons (mE_ok a o _ h4) (pa_dcons (mE_ok b o _ h5) pa_dnil h3') h3) h3 h3' | cases ht
    · cases h
  | .enum a, Y, X, C, o, t, e, h => by
    unfold mI at h
    split at h
    · simp only [Bool.and_eq_true, decide_eq_true_eq] at h
      obtain ⟨⟨⟨⟨ht, h1⟩, h2⟩, h3⟩, h4⟩ := h
      subst h1
      cases t <;> first | exact pi_denum (glb_ok o h2).1 (o.bl _ (by decide)) (pa_dcons (mE_ok a o _ h4) pa_dnil h3) h3 | cases ht
    · cases h
  | .zip3 _ _ _, _, _, _, _, _, _, h => by unfold mI at h; cases h
  | .zips _, _, _, _, _, _, _, h => by unfold mI at h; cases h
  | .items _, _, _, _, _, _, _, h => by unfold mI at h; cases h
  | .keys _, _, _, _, _, _, _, h => by unfold mI at h; cases h
  | .enumzip _ _, _, _, _, _, _, _, h => by unfold mI at h; cases h
end
end Pk

end
section
/-! Pk21: what the checker says, of statements. -/
namespace Pk
open PySem PySem.Spec PyProof.Rows L2
open LamX (Tabs TabS ExtN CodeO)
def isStar : Expr → Bool
  | .Starred .. => true
  | _ => false
def swPair (targets : List Expr) (value : Expr) : Option (List Expr × List Expr) := match targets, value with
  | [.Tuple ts _ _], .Tuple vs _ _ | [.List ts _], .Tuple vs _ _ => some (ts, vs)
  | _, _ => none
def swNames (sc : Scope) (ts : List Expr) : List Str := ts.filterMap fun
  | .Name id pos => if sc.names.lookup id == some .local && pos.line == (ts.head?.map (·.pos.line)).getD 0 then some id else none
  | _ => none
def swC (sc : Scope) (targets : List Expr) (value : Expr) : Option (Option (List Str)) := match swPair targets value with
  | none => some none
  | some (ts, vs) => if !(ts.length == 2 || ts.length == 3) || vs.length != ts.length then some none
    else if vs.any isStar then some none
    else if (swNames sc ts).length != ts.length || (swNames sc ts).eraseDups.length != (swNames sc ts).length then some none
    else if vs.all (foldedForSure 8) then some none
    else if vs.all (constantsAlone 8) then none
    else some (some (swNames sc ts))
theorem swC_ok {env : Env} {ts : List Expr} {v : Expr} {r : Option (List Str)} (hk : env.scope.kind = .function) (h : swC env.scope ts v = some r) : swappedStores ts v env = pure r := by
  have hb : env.blockKind = .function := by unfold Env.blockKind; rw [hk]; rfl
  unfold swappedStores
  unfold swC at h
  show (match swPair ts v with
    | some (ts, vs) => _
    | _ => pure none) = pure r
  cases hp : swPair ts v with
  | none => rw [hp] at h; cases h; rfl
  | some p =>
    obtain ⟨ts', vs⟩ := p
    rw [hp] at h
    dsimp only at h ⊢
    rw [hb]
    show (if (!(ts'.length == 2 || ts'.length == 3) || vs.length != ts'.length || ScopeKind.function != ScopeKind.function) = true then pure none
      else if vs.any isStar = true then pure none
      else if ((swNames env.scope ts').length != ts'.length || (swNames env.scope ts').eraseDups.length != (swNames env.scope ts').length) = true then pure none
      else if vs.all (foldedForSure 8) = true then pure none
      else if vs.all (constantsAlone 8) = true then _
      else pure (some (swNames env.scope ts'))) = pure r
    have e0 : (ScopeKind.function != ScopeKind.function) = false := by decide
    rw [e0, Bool.or_false]
    split at h
    · rename_i c; rw [if_pos c]; cases h; rfl
    · rename_i c; rw [if_neg c]
      split at h
      · rename_i c; rw [if_pos c]; cases h; rfl
      · rename_i c; rw [if_neg c]
        split at h
        · rename_i c; rw [if_pos c]; cases h; rfl
        · rename_i c; rw [if_neg c]
          split at h
          · rename_i c; rw [if_pos c]; cases h; rfl
          · rename_i c; rw [if_neg c]
            split at h
            · cases h
            · rename_i c; rw [if_neg c]; cases h; rfl
/-- does name = e store the comprehension on its way -/
def swT (Y : Ctx) (x : Str) (p : Pos) (e : Expr) : Bool := match e with
  | .ListComp _ _ sc pos => onlyLoc Y x && (p.line == pos.line) && !(sc.names.any fun (n, k) => n == x && (k == .local || k == .cell))
  | _ => false
def swK (e : Expr) : Bool := match e with
  | .SetComp _ _ _ _ => false
  | .DictComp _ _ _ _ _ => false
  | _ => true
structure OkS (S : Sg) (Y : Ctx) (X : Cx) (C : Cn) : Prop extends Ok S Y X C where
  kind : Y.sc.kind = .function
  po : PassesOwn (model X.prog X.w) X.A X.env X.xe
  tk : L2N.Takes X (fun cls d _ H => C.E cls d H)
  xc : ∀ c nm, S.xc c = some nm → ∃ (Ca : Addr) (bmB : List Value) (B newId initId : String), ExcBaseFacts B newId initId bmB ∧ PySem.W.excIn X.K Ca bmB newId = true ∧ X.mg nm = some (.ref Ca) ∧ PySem.W.keepIn X.K (.ref Ca) = true ∧ Raises X (.ref Ca) ∧ C.Z.xc c = some (Ca, none)
def isList2 : Exs → Option (Ex × Ex)
  | .cons a (.cons b .nil) => some (a, b)
  | _ => none
mutual
def mS (S : Sg) : Sm → Ctx → Stmt → Bool
  | .set i a, Y, st => match st with
    | .Assign [.Name x p] e _ => decide (Y.N[i]? = some x) && locB Y x && swK e && mE S a Y e
    | _ => false
  | .setT tg a, Y, st => match st with
    | .Assign [t] e _ => isTup t && notStarT t && mG Y tg t && mE S a Y e && decide (swC Y.sc [t] e = some none)
    | _ => false
  | .par i j a b, Y, st => match st with
    | .Assign [.Tuple [.Name x p1, .Name y p2] k1 pt] (.Tuple [ea, eb] k2 pt2) _ => decide (Y.N[i]? = some x) && decide (Y.N[j]? = some y) && decide (i ≠ j) && onlyLoc Y x && onlyLoc Y y && notStar ea && notStar eb && mE S a Y ea && mE S b Y eb && decide (swC Y.sc [.Tuple [.Name x p1, .Name y p2] k1 pt] (.Tuple [ea, eb] k2 pt2) = some (some [x, y]))
    | _ => false
  | .store i b a, Y, st => match st with
    | .Assign [.Subscript (.Name x _) ei _] e _ => nmB Y i x && notSlice ei && mE S b Y ei && mE S a Y e
    | _ => false
  | .putd i b a, Y, st => match st with
    | .Assign [.Subscript (.Name x _) ei _] e _ => nmB Y i x && mE S b Y ei && mE S a Y e
    | _ => false
  | .append i a, Y, st => match st with
    | .Expr (.Call (.Attribute (.Name x _) nm ap) [e] [] cp) _ => decide (nm = "append") && nmB Y i x && notStar e && (ap.endLine == cp.line) && mE S a Y e
    | _ => false
  | .extend i a, Y, st => match st with
    | .Expr (.Call (.Attribute (.Name x _) nm ap) [e] [] cp) _ => decide (nm = "extend") && nmB Y i x && notStar e && (ap.endLine == cp.line) && mE S a Y e
    | _ => false
  | .expr a, Y, st => match st with
    | .Expr e _ => notComp e && mE S a Y e
    | _ => false
  | .ite t a b, Y, st => match st with
    | .If e sa sb _ => mT S t Y e && mSs S a Y sa && mSs S b Y sb
    | _ => false
  | .for_ tg it b, Y, st => match st with
    | .For t i body [] _ => noFold i && mG Y tg t && mI S it Y t i && mSs S b Y body
    | _ => false
  | .fori tg j b, Y, st => match st with
    | .For t (.Call (.Attribute (.Name x _) nm ap) [] [] cp) body [] _ => decide (nm = "items") && (ap.endLine == cp.line) && isTup t && nmB Y j x && mG Y tg t && mSs S b Y body
    | _ => false
  | .while_ t b, Y, st => match st with
    | .While e body [] _ => mT S t Y e && mSs S b Y body
    | _ => false
  | .ret a, Y, st => match st with
    | .Return (some e) _ => mE S a Y e
    | _ => false
  | .retN, _, st => match st with
    | .Return none _ => true
    | _ => false
  | .raise c m, Y, st => match st with
    | .Raise (some (.Call (.Name x _) [.Constant (.str m') _ _] [] _)) none _ => decide (S.xc c = some x) && glb Y x && decide (m = m')
    | _ => false
  | .brk, _, st => match st with
    | .Break _ => true
    | _ => false
  | .pass, _, st => match st with
    | .Pass _ => true
    | _ => false
  | _, _, _ => false
def mSs (S : Sg) : Sms → Ctx → List Stmt → Bool
  | .nil, _, [] => true
  | .cons s r, Y, st :: l => mS S s Y st && mSs S r Y l
  | _, _, _ => false
end
theorem onlyLoc_ok {S : Sg} {Y : Ctx} {X : Cx} {C : Cn} (o : Ok S Y X C) {x : Str} (h : onlyLoc Y x = true) : X.env.scope.names.lookup x = some .local := by
  unfold onlyLoc at h
  rw [o.sc]
  split at h
  · assumption
  · cases h
theorem sw_false {Y : Ctx} {env : Env} {x : Str} {p : Pos} {e : Expr} {l : Nat} (hsc : env.scope = Y.sc) (hk : Y.sc.kind = .function) (h1 : swK e = true) (h2 : swT Y x p e = false) : swapsWith e (some (.Name x p)) l env = pure false := by
  cases e <;> first | rfl | cases h1 | skip
  rename_i elt gs sc pos
  have hb : env.blockKind = .function := by unfold Env.blockKind; rw [hsc, hk]; rfl
  show (pure (env.blockKind == .function && env.kindOf x == some .local && p.line == pos.line && !(sc.names.any fun (n, k) => n == x && (k == .local || k == .cell))) : Sem Bool) = pure false
  have e1 : (env.kindOf x == some .local) = onlyLoc Y x := by
    unfold Env.kindOf onlyLoc
    rw [hsc]
    cases Y.sc.names.lookup x with
    | none => rfl
    | some k => cases k <;> rfl
  rw [hb, e1]
  unfold swT at h2
  dsimp only at h2
  rw [show (ScopeKind.function == ScopeKind.function) = true from by decide, Bool.true_and, h2]
theorem swTup {e : Expr} {t : Expr} {l : Nat} {env : Env} (h : isTup t = true) : swapsWithSole [t] e l env = pure false := by
  show swapsWith e (some t) l env = pure false
  cases t <;> first | cases h | skip
  cases e <;> rfl
/-- name = [..] where the comprehension stores -/
theorem setlc_ok {S : Sg} {Y : Ctx} {X : Cx} {C : Cn} (o : OkS S Y X C) {i : Nat} {x : Str} {p sp : Pos} (hi : X.N[i]? = some x) : ∀ (a : Ex) (e : Expr), swT Y x p e = true → mE S a Y e = true → PS X (.Assign [.Name x p] e sp) (tS C (.set i a)) := by
  intro a e hs h
  have key : ∀ {elt : Expr} {gs : List Comprehension} {sc : Scope} {pos : Pos}, swT Y x p (.ListComp elt gs sc pos) = true → X.env.scope.names.lookup x = some .local ∧ swapsWith (.ListComp elt gs sc pos) (some (.Name x p)) sp.line X.env = pure true := by
    intro elt gs sc pos hs
    unfold swT at hs
    simp only [Bool.and_eq_true, Bool.not_eq_true'] at hs
    obtain ⟨⟨h1, h2⟩, h3⟩ := hs
    have hl := onlyLoc_ok o.toOk h1
    exact ⟨hl, sw_true (by rw [o.sc]; exact o.kind) hl h2 h3⟩
  cases e <;> first | cases hs | skip
  rename_i e gs sc pos
  obtain ⟨hyl, hsw⟩ := key hs
  cases a <;> first | exact absurd h Bool.false_ne_true | skip
  · rename_i elt own tg it c
    unfold mE at h
    split at h
    · rename_i e1
      cases e1
      simp only [Bool.and_eq_true, decide_eq_true_eq] at h
      obtain ⟨⟨⟨⟨⟨⟨⟨⟨h0, h1⟩, h2⟩, h3⟩, h4⟩, h5⟩, h6⟩, h7⟩, h8⟩ := h
      subst h0
      have B := blk_ok o.toOk h2
      rw [← h1] at h3 ⊢
      exact pd_setLc o.calm (by rw [o.N]; exact o.nd) hi hyl hsw (mI_ok it o.toOk _ _ h5) B (subIx_ok h3) (fun s H a cl fp => mG_ok (o.blk _ B.uniq s H a cl fp) tg _ h4) (fun s H a cl fp => mY_ok c (o.blk _ B.uniq s H a cl fp) _ h7) (fun s H a cl fp => mE_ok elt (o.blk _ B.uniq s H a cl fp) _ h8) fun x => noFold_ok h6
    · cases h
  · rename_i elt own own1 tg it c tg1 it1 c1
    unfold mE at h
    split at h
    · rename_i e1
      cases e1
      simp only [Bool.and_eq_true, decide_eq_true_eq] at h
      obtain ⟨⟨⟨⟨⟨⟨⟨⟨⟨⟨⟨⟨⟨⟨⟨h0, h0'⟩, h1⟩, h2⟩, h3⟩, h3'⟩, h3''⟩, h4⟩, h4'⟩, h5⟩, h6⟩, h6'⟩, h5'⟩, h7⟩, h7'⟩, h8⟩ := h
      subst h0 h0'
      have B := blk_ok o.toOk h2
      rw [← h1] at h3 h3'' ⊢
      exact pd_setLc2 o.calm (by rw [o.N]; exact o.nd) hi hyl hsw (mI_ok it o.toOk _ _ h5) B (subIx_ok h3) (subIx_ok h3') (subIx_ok h3'') (fun s H a cl fp => mG_ok (o.blk _ B.uniq s H a cl fp) tg _ h4) (fun s H a cl fp => mY_ok c (o.blk _ B.uniq s H a cl fp) _ h7) (fun s H a cl fp => mI_ok it1 (o.blk _ B.uniq s H a cl fp) _ _ h5')
        (fun s H a cl fp => mG_ok (o.blk _ B.uniq s H a cl fp) tg1 _ h4') (fun s H a cl fp => mY_ok c1 (o.blk _ B.uniq s H a cl fp) _ h7') (fun s H a cl fp => mE_ok elt (o.blk _ B.uniq s H a cl fp) _ h8) (fun env x => noFold_ok h6) (fun env x => noFold_ok h6')
    · cases h
  · rename_i elt own tg kd j c
    unfold mE at h
    split at h
    · rename_i e1
      cases e1
      simp only [Bool.and_eq_true, decide_eq_true_eq] at h
      obtain ⟨⟨⟨⟨⟨⟨⟨⟨⟨⟨⟨hk, h0⟩, hn⟩, hl⟩, hx⟩, ht⟩, h1⟩, h2⟩, h3⟩, h4⟩, h7⟩, h8⟩ := h
      subst h0 hn hk
      have B := blk_ok o.toOk h2
      rw [← h1] at h3 ⊢
      rename_i t x' _ _ _ _
      have P : ∀ {ap cp p : Pos}, (ap.endLine == cp.line) = true → PI X t (.Call (.Attribute (.Name x' p) "items" ap) [] [] cp) (iDict true j) := by
        intro ap cp p hl
        cases t <;> first | exact pi_ditems (nm_ok o.toOk hx).1 hl | cases ht
      exact pd_setLci o.calm (by rw [o.N]; exact o.nd) hi hyl hsw (P hl) B (subIx_ok h3) (fun s H a cl fp => mG_ok (o.blk _ B.uniq s H a cl fp) tg _ h4) (fun s H a cl fp => mY_ok c (o.blk _ B.uniq s H a cl fp) _ h7) (fun s H a cl fp => mE_ok elt (o.blk _ B.uniq s H a cl fp) _ h8) fun x => rfl
    · rename_i e1
      cases e1
      simp only [Bool.and_eq_true, decide_eq_true_eq, Bool.not_eq_true'] at h
      obtain ⟨⟨⟨⟨⟨⟨⟨⟨hk, h0⟩, hx⟩, h1⟩, h2⟩, h3⟩, h4⟩, h7⟩, h8⟩ := h
      subst h0 hk
      have B := blk_ok o.toOk h2
      rw [← h1] at h3 ⊢
      exact pd_setLci o.calm (by rw [o.N]; exact o.nd) hi hyl hsw (pi_dkeys (nm_ok o.toOk hx).1) B (subIx_ok h3) (fun s H a cl fp => mG_ok (o.blk _ B.uniq s H a cl fp) tg _ h4) (fun s H a cl fp => mY_ok c (o.blk _ B.uniq s H a cl fp) _ h7) (fun s H a cl fp => mE_ok elt (o.blk _ B.uniq s H a cl fp) _ h8) fun x => rfl
    · cases h
theorem OkS.z {S : Sg} {Y : Ctx} {X : Cx} {C : Cn} (o : OkS S Y X C) : OkS S Y X C.z where
  N := o.N
  nd := o.nd
  sc := o.sc
  fns := o.fns
  calm := o.calm
  K := o.K
  u := o.u
  ps := passN
  lm := fun h => (o.lm h).e _
  fn := fun f nm w h => let ⟨k, fc, a, h1, h2, h3, h4⟩ := o.fn f nm w h; ⟨k, fc, a, h1, h2, h3, h4.e _⟩
  fv := fun g b h1 h2 => let ⟨fc, k, h3, h4, h5⟩ := o.fv g b h1 h2; ⟨fc, k, h3.e _, h4, h5⟩
  gl := o.gl
  bl := o.bl
  kind := o.kind
  po := o.po
  tk := takesN
  xc := o.xc
mutual
theorem mS_ok {S : Sg} : ∀ (c : Sm) {Y : Ctx} {X : Cx} {C : Cn}, OkS S Y X C → ∀ (st : Stmt), mS S c Y st = true → PS X st (tS C c)
  | .set i a, Y, X, C, o, st, h => by
    unfold mS at h
    split at h
    · rename_i x p e sp
      simp only [Bool.and_eq_true, decide_eq_true_eq] at h
      obtain ⟨⟨⟨h1, h2⟩, h3⟩, h4⟩ := h
      have hi : X.N[i]? = some x := by rw [o.N]; exact h1
      cases hs : swT Y x p e with
      | true => exact setlc_ok o hi a e hs h4
      | false =>
        obtain ⟨q1, q2⟩ := locB_ok o.toOk h2
        exact pd_set (by rw [o.N]; exact o.nd) hi q1 q2 (mE_ok a o.toOk _ h4) (sw_false o.sc o.kind h3 hs)
    · cases h
  | .setT tg a, Y, X, C, o, st, h => by
    unfold mS at h
    split at h
    · simp only [Bool.and_eq_true, decide_eq_true_eq] at h
      obtain ⟨⟨⟨⟨h1, h2⟩, h3⟩, h4⟩, h5⟩ := h
      exact pd_setT (mE_ok a o.toOk _ h4) (mG_ok o.toOk tg _ h3) (swTup h1) (swC_ok (by rw [o.sc]; exact o.kind) (by rw [o.sc]; exact h5)) h2
    · cases h
  | .par i j a b, Y, X, C, o, st, h => by
    unfold mS at h
    split at h
    · simp only [Bool.and_eq_true, decide_eq_true_eq] at h
      obtain ⟨⟨⟨⟨⟨⟨⟨⟨⟨h1, h2⟩, h3⟩, h4⟩, h5⟩, h6⟩, h7⟩, h8⟩, h9⟩, h10⟩ := h
      exact pd_par o.calm (by rw [o.N]; exact o.nd) (by rw [o.N]; exact h1) (by rw [o.N]; exact h2) h3 (onlyLoc_ok o.toOk h4) (onlyLoc_ok o.toOk h5) (pa_dcons (mE_ok a o.toOk _ h8) (pa_dcons (mE_ok b o.toOk _ h9) pa_dnil h7) h6) (swC_ok (by rw [o.sc]; exact o.kind) (by rw [o.sc]; exact h10))
    · cases h
  | .par3 _ _ _ _ _ _, _, _, _, _, _, h => by unfold mS at h; cases h
  | .raiseP _ _, _, _, _, _, _, h => by unfold mS at h; cases h
  | .store i b a, Y, X, C, o, st, h => by
    unfold mS at h
    split at h
    · simp only [Bool.and_eq_true] at h
      obtain ⟨⟨⟨h1, h2⟩, h3⟩, h4⟩ := h
      exact pd_store (nm_ok o.toOk h1).1 (mE_ok b o.toOk _ h3) (mE_ok a o.toOk _ h4) h2
    · cases h
  | .putd i b a, Y, X, C, o, st, h => by
    unfold mS at h
    split at h
    · simp only [Bool.and_eq_true] at h
      obtain ⟨⟨h1, h3⟩, h4⟩ := h
      have := o.u
      exact pd_putd (by omega) (nm_ok o.toOk h1).1 (mE_ok b o.toOk _ h3) (mE_ok a o.toOk _ h4)
    · cases h
  | .append i a, Y, X, C, o, st, h => by
    unfold mS at h
    split at h
    · simp only [Bool.and_eq_true, decide_eq_true_eq] at h
      obtain ⟨⟨⟨⟨h1, h2⟩, h3⟩, h4⟩, h5⟩ := h
      subst h1
      exact pd_append (nm_ok o.toOk h2).1 (mE_ok a o.toOk _ h5) h3 h4
    · cases h
  | .extend i a, Y, X, C, o, st, h => by
    unfold mS at h
    split at h
    · simp only [Bool.and_eq_true, decide_eq_true_eq] at h
      obtain ⟨⟨⟨⟨h1, h2⟩, h3⟩, h4⟩, h5⟩ := h
      subst h1
      exact pd_extend (nm_ok o.toOk h2).1 (mE_ok a o.toOk _ h5) h3 h4
    · cases h
  | .expr a, Y, X, C, o, st, h => by
    unfold mS at h
    split at h
    · simp only [Bool.and_eq_true] at h
      exact pd_expr (mE_ok a o.toOk _ h.2) h.1
    · cases h
  | .ite t a b, Y, X, C, o, st, h => by
    unfold mS at h
    split at h
    · simp only [Bool.and_eq_true] at h
      obtain ⟨⟨h1, h2⟩, h3⟩ := h
      exact pd_if (mT_ok t o.toOk _ h1) (mSs_ok a o _ h2) (mSs_ok b o _ h3)
    · cases h
  | .for_ tg it b, Y, X, C, o, st, h => by
    unfold mS at h
    split at h
    · simp only [Bool.and_eq_true] at h
      obtain ⟨⟨⟨h1, h2⟩, h3⟩, h4⟩ := h
      exact pd_for o.po o.calm (mI_ok it o.toOk _ _ h3) (mG_ok o.toOk tg _ h2) (mSs_ok b o _ h4) fun x => noFold_ok h1
    · cases h
  | .fori tg j b, Y, X, C, o, st, h => by
    unfold mS at h
    split at h
    · simp only [Bool.and_eq_true, decide_eq_true_eq] at h
      obtain ⟨⟨⟨⟨⟨h1, h2⟩, h3⟩, h4⟩, h5⟩, h6⟩ := h
      subst h1
      rename_i t x' _ _ _ _ _
      have P : ∀ {ap cp p : Pos}, (ap.endLine == cp.line) = true → PI X t (.Call (.Attribute (.Name x' p) "items" ap) [] [] cp) (iDict true j) := by
        intro ap cp p hl
        cases t <;> first | exact pi_ditems (nm_ok o.toOk h4).1 hl | cases h3
      exact pd_fori o.po o.calm (P h2) (mG_ok o.toOk tg _ h5) (mSs_ok b o.z _ h6) fun x => rfl
    · cases h
  | .while_ t b, Y, X, C, o, st, h => by
    unfold mS at h
    split at h
    · simp only [Bool.and_eq_true] at h
      exact pd_while o.po (mT_ok t o.toOk _ h.1) (mSs_ok b o _ h.2)
    · cases h
  | .ret a, Y, X, C, o, st, h => by
    unfold mS at h
    split at h
    · exact pd_ret (mE_ok a o.toOk _ h)
    · cases h
  | .retN, Y, X, C, o, st, h => by
    unfold mS at h
    split at h
    · exact pd_retN
    · cases h
  | .raise c m, Y, X, C, o, st, h => by
    unfold mS at h
    split at h
    · simp only [Bool.and_eq_true, decide_eq_true_eq] at h
      obtain ⟨⟨h1, h2⟩, h3⟩ := h
      subst h3
      obtain ⟨hg, hd⟩ := glb_ok o.toOk h2
      obtain ⟨Ca, bmB, B, newId, initId, F, q, gC, kC, r, hx⟩ := o.xc c _ h1
      exact pd_raise o.calm o.tk F q gC kC r hg hd hx
    · cases h
  | .brk, Y, X, C, o, st, h => by
    unfold mS at h
    split at h
    · exact pd_brk
    · cases h
  | .pass, Y, X, C, o, st, h => by
    unfold mS at h
    split at h
    · exact pd_pass
    · cases h
theorem mSs_ok {S : Sg} : ∀ (c : Sms) {Y : Ctx} {X : Cx} {C : Cn}, OkS S Y X C → ∀ (l : List Stmt), mSs S c Y l = true → PSs X l (tSs C c)
  | .nil, Y, X, C, o, l, h => by
    cases l with
    | nil => exact pds_nil
    | cons e l => unfold mSs at h; cases h
  | .cons s r, Y, X, C, o, l, h => by
    cases l with
    | nil => unfold mSs at h; cases h
    | cons e l =>
      unfold mSs at h
      simp only [Bool.and_eq_true] at h
      exact pds_cons (mS_ok s o _ h.1) (mSs_ok r o _ h.2)
end
end Pk

end
section
/-! Pk22: every def keeps its promise. -/
namespace Pk
open PySem PySem.Spec PyProof.Rows L2
open LamX (Tabs TabS ExtN CodeO)
structure DfOk (S : Sg) (d : He.DefD) (N ps : List Str) (fc : Fc) : Prop where
  bind : ∀ (kV doc pm : Value) (an : Option Addr) (cdv ct : Value) (us : List Value), us.length = ps.length → bindArgs (PySem.W.fnOf d.name d.qual d.params d.body d.scope .none kV doc pm an cdv ct) ⟨us, []⟩ = pure (ps.zip us)
  sc : FnScope N ps d.scope
  ns : fc.ns = N.length
  n : ps.length = (if fc.w then 1 else 0) + fc.n
  m : mSs S fc.b ⟨N, d.scope, N, S.lam d.name⟩ d.body = true
/-- the name of a lambda's code object, made in such a def -/
def lamQ (qual : Str) : Str := (envOfC qual ⟨.function, [], false, false, []⟩ 0 0 .none).qual ++ "<lambda>"
/-- the def that calls what it got, the def that tells an error's classes, as they stand -/
structure LcW (K : PySem.W.Frag) (mg : Str → Option Value) (Z : Pm) (G : Gv) (x : Str) : Prop where
  ex : ∃ (dl dk : He.DefD) (N Nk cs ws : List Str) (so found e x1 x2 x3 kn ek sm wd w g : Str) (gl fk TM IT LE : Addr) (fdl fdk : FuncData),
    dl.name = x ∧ dl.qual = x ∧ LDef dl N so found e x1 x2 x3 kn ∧ KDef dk Nk cs ws ek sm wd w g ∧ FunD K dl.name dl.qual dl.params dl.body dl.scope [] [] gl fdl ∧ FunD K dk.name dk.qual dk.params dk.body dk.scope [] [] fk fdk ∧
    mg x = some (.ref gl) ∧ mg kn = some (.ref fk) ∧ mg x1 = some (.ref TM) ∧ mg x2 = some (.ref IT) ∧ mg x3 = some (.ref LE) ∧ Tolds mg K Z G cs ws TM IT LE ∧ (x == ("__debug__" : Str)) = false ∧
    ∀ (kV doc pm : Value) (an : Option Addr) (cdv ct : Value) (us : List Value), us.length = 1 → bindArgs (PySem.W.fnOf dl.name dl.qual dl.params dl.body dl.scope .none kV doc pm an cdv ct) ⟨us, []⟩ = pure (([so] : List Str).zip us)
structure Wd (K : PySem.W.Frag) (mg : Str → Option Value) (S : Sg) (T : Nat → Option Fc) (Z : Pm) (G : Gv) (TB : List (Addr × Addr)) : Prop where
  hK : Z.K = K
  df : ∀ f fc, T f = some fc → ∃ (d : He.DefD) (N ps : List Str) (a : Addr) (fd : FuncData), DfOk S d N ps fc ∧ FunD K d.name d.qual d.params d.body d.scope [] [] a fd ∧ Z.mf f = some a ∧ (S.lam d.name = true → ∃ c P, fd.code = .ref c ∧ (c, P) ∈ TB ∧ (P, lamQ d.qual) ∈ Z.T ∧ ∀ p ∈ Z.T, p.1 = P → p.2 = lamQ d.qual)
  fn : ∀ f nm w, S.fn f = some (nm, w) → ∃ fc a, T f = some fc ∧ fc.w = w ∧ Z.mf f = some a ∧ mg nm = some (.ref a)
  mf : ∀ f a, Z.mf f = some a → ∃ fc, T f = some fc
  cv : ∀ f fc, G.cv f = true → T f = some fc → fc.w = false
  gl : ∀ g nm, S.gl g = some nm → ∃ v u, mg nm = some u ∧ RelV v u ∧ ∀ d, G.glob g = some d → ∀ w H, R Z w H v d
  xc : ∀ c nm, S.xc c = some nm → ∃ (Ca : Addr) (bmB : List Value) (B newId initId : String), ExcBaseFacts B newId initId bmB ∧ PySem.W.excIn K Ca bmB newId = true ∧ mg nm = some (.ref Ca) ∧ PySem.W.keepIn K (.ref Ca) = true ∧ (PySem.W.subIn K (.ref Ca) (.type "BaseException") = some true ∧ PySem.W.typeIn K (.ref Ca) = some (.type "type")) ∧ Z.xc c = some (Ca, none)
  bl : ∀ nm ∈ bltN, mg nm = none
  lc : (∃ n, S.lam n = true) → ∃ x, S.lc = some x ∧ LcW K mg Z G x
/-- the room that a def's promise asks for, by the fuel -/
def lv (n : Nat) : Nat := 3 * n + 6
section
variable {P : Program} {w : World} {K : PySem.W.Frag} {mg : Str → Option Value} {base : Heap} {S : Sg} {T : Nat → Option Fc} {Z : Pm} {G : Gv} {TB : List (Addr × Addr)}
theorem lam_ok {n : Nat} {E : XK} (W : Wd K mg S T Z G TB) (hTB : ∀ p ∈ TB, LamX.TabB base mg p.1 p.2) (F : ∀ f fc a, T f = some fc → Z.mf f = some a → Fk P w K mg base (lv n) ⟨Z, E, run T G n, G⟩ f fc a) {N : List Str} {name qual : Str} {scope : Scope} {f : Addr} {cdv : Value} {A : Around} {outer : List Env} {s : Shared} {H : Hp} (hr : Room (lv n + 2) (A.deeper (envOfC qual scope s.heap.objs.size f cdv)))
    (hl : S.lam name = true) (hc : ∃ c Q, cdv = .ref c ∧ (c, Q) ∈ TB ∧ (Q, lamQ qual) ∈ Z.T ∧ ∀ p ∈ Z.T, p.1 = Q → p.2 = lamQ qual) : LamOk S (cxOf (L2N.CX P w) P w K mg base N qual scope f cdv A outer s H E) ⟨Z, E, run T G n, G⟩ := by
  obtain ⟨x, hlc, L⟩ := W.lc ⟨name, hl⟩
  obtain ⟨dl, dk, Nl, Nk, cs, ws, so, found, e, x1, x2, x3, kn, ek, sm, wd, w', g, gl, fk, TM, IT, LE, fdl, fdk, n1, n2, D1, D2, F1, F2, m1, m2, m3, m4, m5, ht, hx, hbind⟩ := L.ex
  obtain ⟨c, Q, rfl, h1, h2, h3⟩ := hc
  have hb := F1.bindsN (ps := [so]) (fun kV doc pm an cdv ct us hu => hbind kV doc pm an cdv ct us hu)
  have kp := F1.kp
  obtain ⟨oc, od, dV, kV, doc, pm, an, cdl, ct, osl, rfl, lk, hcd, _, _⟩ := F1.ex
  refine ⟨x, so, gl, c, Q, lv n, cs, ws, TM, IT, LE, dl.params, dl.body, dl.scope, dV, kV, doc, pm, cdl, ct, oc, an, od, osl, Nl, hlc, ?_, ⟨hTB _ h1, rfl, h2, h3, hr, hr.mono (by unfold lv; omega)⟩, ht, fun f nm w h => ?_, fun g b q1 q2 => ?_⟩
  · have dn := D1.dn so (by rw [D1.three]; simp)
    rw [n1, n2] at lk hb
    refine ⟨m1, kp, lk, by rw [n2] at hcd; exact hcd, hb, D1.sc, by rw [D1.three]; rfl, .inl D1.l0, ?_, hx, dn.1, dn.2⟩
    have := call_gives (X := cxOf (L2N.CX P w) P w K mg base N qual scope f (.ref c) A outer s H E) (gk := gl) (cdg := cdl) (q := (envOfC qual scope s.heap.objs.size f (.ref c)).qual ++ "<lambda>") D1 D2 F2 m2 m3 m4 m5 (W.bl _ (by decide)) (W.bl _ (by decide))
    rw [n1] at this
    exact this
  · obtain ⟨fc, a, q1, q2, q3, q4⟩ := W.fn f nm w h
    exact ⟨fc, a, q2, q4, F f fc a q1 q3⟩
  · obtain ⟨fc, hfc⟩ := W.mf g b q2
    exact ⟨fc, F g fc b hfc q2, W.cv g fc q1 hfc⟩
theorem oks_of {n : Nat} {E : XK} (W : Wd K mg S T Z G TB) (hTB : ∀ p ∈ TB, LamX.TabB base mg p.1 p.2) (F : ∀ f fc a, T f = some fc → Z.mf f = some a → Fk P w K mg base (lv n) ⟨Z, E, run T G n, G⟩ f fc a) {N ps : List Str} {name qual : Str} {scope : Scope} (hS : FnScope N ps scope) {f : Addr} {cdv : Value} {A : Around} {outer : List Env} {s : Shared} {H : Hp} (hr : Room (lv n + 2) (A.deeper (envOfC qual scope s.heap.objs.size f cdv)))
    (hc : S.lam name = true → ∃ c Q, cdv = .ref c ∧ (c, Q) ∈ TB ∧ (Q, lamQ qual) ∈ Z.T ∧ ∀ p ∈ Z.T, p.1 = Q → p.2 = lamQ qual) :
    OkS S ⟨N, scope, N, S.lam name⟩ (cxOf (L2N.CX P w) P w K mg base N qual scope f cdv A outer s H E) ⟨Z, E, run T G n, G⟩ :=
  have tk : L2N.Takes (cxOf (L2N.CX P w) P w K mg base N qual scope f cdv A outer s H E) (fun cls d _ H => E cls d H) := L2N.takes_of rfl rfl rfl rfl
  have hr' : Room (lv n) (A.deeper (envOfC qual scope s.heap.objs.size f cdv)) := hr.mono (by omega)
  { N := rfl
    nd := hS.nd
    sc := rfl
    fns := fun _ _ => rfl
    calm := rfl
    K := W.hK.symm
    u := hr.units
    ps := L2N.passes_call tk fun _ _ _ _ h => h
    fn := fun f nm b h => by
      obtain ⟨fc, a, h1, h2, h3, h4⟩ := W.fn f nm b h
      exact ⟨lv n, fc, a, h2, hr', h4, F f fc a h1 h3⟩
    fv := fun g b h1 h2 => by
      obtain ⟨fc, hfc⟩ := W.mf g b h2
      exact ⟨fc, lv n, F g fc b hfc h2, W.cv g fc h1 hfc, hr'⟩
    gl := W.gl
    bl := W.bl
    lm := fun hl => lam_ok W hTB F hr hl (hc hl)
    kind := hS.kind
    po := passes_of rfl
    tk := tk
    xc := fun c nm h => by
      obtain ⟨Ca, bmB, B, newId, initId, h1, h2, h3, h4, h5, h6⟩ := W.xc c nm h
      exact ⟨Ca, bmB, B, newId, initId, h1, h2, h3, h4, raises_own h5.1 h5.2, h6⟩ }
/-- a def's rule, its code object known -/
theorem funD_code {CX : CXT} {x qual : Str} {params : Arguments} {body : List Stmt} {scope : Scope} {f : Addr} {fd : FuncData} {N ps : List Str} {k : Nat} {sp : Sp} (F : FunD K x qual params body scope [] [] f fd) (S : FnScope N ps scope) (len : ∀ vs H Q E, sp vs H Q E → vs.length = ps.length)
    (hbody : ∀ (cdv : Value), fd.code = cdv → ∀ (A : Around) (outer : List Env) (s : Shared) (H : Hp) (vs : List V) (Q : VK) (E : XK), Room k (A.deeper (envOfC qual scope s.heap.objs.size f cdv)) → sp vs H Q E →
      ∃ t, PSs (cxOf CX P w K mg base N qual scope f cdv A outer s H E) body t ∧ t { nx := fun _ H' => Q .non H', rt := Q } (L2.start N vs) H) : FnOk P w K mg base CX (k + 1) f fd ps sp := by
  obtain ⟨oc, od, dV, kV, doc, pm, an, cdv, ct, osl, rfl, lk, hcd, _, _⟩ := F.ex
  exact fn_of lk hcd S len fun A outer s H vs Q E hr hsp => hbody cdv rfl A outer s H vs Q E hr hsp
theorem startS_length {fc : Fc} {ds : List D} (h : (if fc.w then 1 else 0) + ds.length ≤ fc.ns) : (startS fc ds).length = fc.ns := by
  unfold startS
  rw [List.length_append, List.length_append, List.length_map, List.length_replicate]
  cases hw : fc.w with
  | true => rw [hw] at h; simp only [if_true, List.length_cons, List.length_nil] at h ⊢; omega
  | false => rw [hw] at h; simp only [Bool.false_eq_true, if_false, List.length_nil] at h ⊢; omega
theorem rs_slot {w : Own} {H : Hp} {vs : List V} {ds : List D} (q : Rs Z w H vs ds) (wl : List D) (m : Nat) : ∀ i, SlR Z w H wl i ((vs.map some ++ List.replicate m none).getD i none) ((ds.map Sl.fro ++ List.replicate m Sl.un).getD i .un) := by
  intro i
  by_cases hi : i < ds.length
  · obtain ⟨v, hv, r⟩ := q.get (i := i) (d := ds[i]) (List.getElem?_eq_getElem hi)
    have hv2 : i < vs.length := by rw [q.length]; exact hi
    rw [List.getD_eq_getElem?_getD, List.getD_eq_getElem?_getD, List.getElem?_append_left (by rw [List.length_map]; exact hv2), List.getElem?_append_left (by rw [List.length_map]; exact hi), List.getElem?_map, List.getElem?_map, hv, List.getElem?_eq_getElem hi]
    exact r
  · have e : (ds.map Sl.fro ++ List.replicate m Sl.un).getD i .un = .un := by
      rw [List.getD_eq_getElem?_getD, List.getElem?_append_right (by rw [List.length_map]; omega)]
      cases h : (List.replicate m Sl.un)[i - (ds.map Sl.fro).length]? with
      | none => rfl
      | some x => exact List.eq_of_mem_replicate (List.mem_of_getElem? h)
    rw [e]
    cases (vs.map some ++ List.replicate m none).getD i none <;> trivial
/-- the names at a def's entry -/
theorem sr_start {w : Own} {H : Hp} {fc : Fc} {N : List Str} {vs : List V} {ds wl : List D} (dm : Dom w H) (tb : Tabs Z.T H) (uw : ∀ a b, w a = some .well → w b = some .well → a = b) (ar : Ar Z fc w H vs ds wl) (hns : fc.ns = N.length) (hle : (if fc.w then 1 else 0) + ds.length ≤ N.length) :
    SR Z w H (start N vs) ⟨startS fc ds, wl⟩ := by
  have hl := startS_length (fc := fc) (ds := ds) (by rw [hns]; exact hle)
  unfold Ar at ar
  cases hw : fc.w with
  | false =>
    rw [hw] at ar hle
    dsimp only at ar
    simp only [Bool.false_eq_true, if_false, Nat.zero_add] at hle
    have hv := ar.length
    refine ⟨?_, fun i hi => ?_, dm, tb, uw⟩
    · show (start N vs).length = (startS fc ds).length
      rw [hl, hns]
      unfold L2.start
      rw [List.length_append, List.length_map, List.length_replicate]
      omega
    · show SlR Z w H wl i ((start N vs).getD i none) ((startS fc ds).getD i .un)
      unfold L2.start startS
      rw [hw, hv, hns]
      simp only [Bool.false_eq_true, if_false, Nat.zero_add, List.nil_append]
      exact rs_slot ar wl _ i
  | true =>
    rw [hw] at ar hle
    obtain ⟨a, us, rfl, ha, tp, rs⟩ := ar
    simp only [if_true] at hle
    have hv := rs.length
    refine ⟨?_, fun i hi => ?_, dm, tb, uw⟩
    · show (start N (.ref a :: us)).length = (startS fc ds).length
      rw [hl, hns]
      unfold L2.start
      rw [List.length_append, List.length_map, List.length_replicate, List.length_cons]
      omega
    · show SlR Z w H wl i ((start N (.ref a :: us)).getD i none) ((startS fc ds).getD i .un)
      unfold L2.start startS
      rw [hw, hns]
      simp only [if_true, List.length_cons, hv, Nat.add_comm 1 ds.length]
      cases i with
      | zero => exact ⟨a, rfl, ha, tp⟩
      | succ i =>
        have q := rs_slot rs wl (N.length - (ds.length + 1)) i
        have up : SlR Z w H wl i ((us.map some ++ List.replicate (N.length - (ds.length + 1)) none).getD i none) ((ds.map Sl.fro ++ List.replicate (N.length - (ds.length + 1)) Sl.un).getD i .un) → SlR Z w H wl (i + 1) ((us.map some ++ List.replicate (N.length - (ds.length + 1)) none).getD i none) ((ds.map Sl.fro ++ List.replicate (N.length - (ds.length + 1)) Sl.un).getD i .un) := by
          intro q
          by_cases hi : i < ds.length
          · have e : (ds.map Sl.fro ++ List.replicate (N.length - (ds.length + 1)) Sl.un).getD i .un = .fro ds[i] := by
              rw [List.getD_eq_getElem?_getD, List.getElem?_append_left (by rw [List.length_map]; exact hi), List.getElem?_map, List.getElem?_eq_getElem hi]; rfl
            rw [e] at q ⊢
            cases h : (us.map some ++ List.replicate (N.length - (ds.length + 1)) none).getD i none <;> rw [h] at q <;> exact q
          · have e : (ds.map Sl.fro ++ List.replicate (N.length - (ds.length + 1)) Sl.un).getD i .un = .un := by
              rw [List.getD_eq_getElem?_getD, List.getElem?_append_right (by rw [List.length_map]; omega)]
              cases h : (List.replicate (N.length - (ds.length + 1)) Sl.un)[i - (ds.map Sl.fro).length]? with
              | none => rfl
              | some x => exact List.eq_of_mem_replicate (List.mem_of_getElem? h)
            rw [e]
            cases (us.map some ++ List.replicate (N.length - (ds.length + 1)) none).getD i none <;> trivial
        exact up q
theorem wr_end {w w' : Own} {H H' : Hp} {σ : L2.St} {fc : Fc} {e : En} {vs : List V} {ds wl : List D} (ar : Ar Z fc w H vs ds wl) (x : Ext w H w' H') (s : SR Z w' H' σ e) (h : okW fc e = true) : Wr Z fc w' H' vs e.w := by
  unfold Ar at ar
  unfold Wr
  unfold okW at h
  cases hw : fc.w with
  | false => trivial
  | true =>
    rw [hw] at ar h
    dsimp only at ar h
    obtain ⟨a, us, rfl, ha, _, _⟩ := ar
    cases hs : e.s.getD 0 .un with
    | well =>
      obtain ⟨v, _, _, h2⟩ := s.slot (i := 0) (by rw [hs]; exact fun z => by cases z)
      rw [hs] at h2
      obtain ⟨b, rfl, hb, tp⟩ := h2
      have e1 := s.uw a b (x.wl a ha) hb
      subst e1
      exact ⟨a, us, rfl, tp⟩
    | un => rw [hs] at h; cases h
    | fro d => rw [hs] at h; cases h
    | own d => rw [hs] at h; cases h
theorem fn_ok {n : Nat} {E : XK} {f : Nat} {fc : Fc} {a : Addr} {d : He.DefD} {N ps : List Str} {fd : FuncData} (W : Wd K mg S T Z G TB) (hTB : ∀ p ∈ TB, LamX.TabB base mg p.1 p.2) (ih : ∀ (E : XK) (f : Nat) (fc : Fc) (a : Addr), T f = some fc → Z.mf f = some a → Fk P w K mg base (lv n) ⟨Z, E, run T G n, G⟩ f fc a) (hT : T f = some fc) (D : DfOk S d N ps fc) (F : FunD K d.name d.qual d.params d.body d.scope [] [] a fd) (hc : S.lam d.name = true → ∃ c Q, fd.code = .ref c ∧ (c, Q) ∈ TB ∧ (Q, lamQ d.qual) ∈ Z.T ∧ ∀ p ∈ Z.T, p.1 = Q → p.2 = lamQ d.qual) :
    FnOk P w K mg base (L2N.CX P w) (lv (n + 1)) a fd ps (spF ⟨Z, E, run T G (n + 1), G⟩ fc (run T G (n + 1) f)) := by
    have hrun : ∀ ds wl, run T G (n + 1) f ds wl = if ds.length = fc.n then (execs (run T G n) G fc.b ⟨startS fc ds, wl⟩).bind (endR fc) else .bad := fun ds wl => by
      show (match T f with | none => _ | some fc => _) = _
      rw [hT]
    have hle : ps.length ≤ N.length := by
      have := congrArg List.length D.sc.pre
      rw [List.length_take] at this
      omega
    · refine funD_code (k := lv n + 2) F D.sc (fun vs H Q E' h => ?_) (fun cdv hcd A outer s H vs Q E' hr h => ⟨tSs ⟨Z, E', run T G n, G⟩ fc.b, mSs_ok fc.b (oks_of (name := d.name) (qual := d.qual) W hTB (fun f fc a h1 h2 => ih E' f fc a h1 h2) D.sc hr (by rw [← hcd]; exact hc)) d.body D.m, ?_⟩)
      · obtain ⟨w0, ds, wl, _, _, _, _, ar, hn, _⟩ := h
        unfold Ar at ar
        rw [D.n]
        cases hw : fc.w with
        | false =>
          rw [hw] at ar
          have := Rs.length (show Rs Z w0 H vs ds from ar)
          simp only [Bool.false_eq_true, if_false]
          omega
        | true =>
          rw [hw] at ar
          obtain ⟨a0, us, rfl, _, _, rs⟩ := ar
          have := rs.length
          simp only [if_true, List.length_cons]
          omega
      · obtain ⟨w0, ds, wl, dm, tb, _, uw, ar, hn, h⟩ := h
        replace h : Pb _ (run T G (n + 1) f ds wl) _ := h
        rw [hrun, if_pos hn] at h
        refine ⟨w0, ⟨startS fc ds, wl⟩, sr_start dm tb uw ar D.ns (by rw [hn, ← D.n]; exact hle), Pb.mono h.bind (fun _ _ z => z) fun ⟨fl, e'⟩ k => ?_⟩
        cases fl with
        | nx =>
          intro σ' w' H' x s
          by_cases ho : okW fc e' = true
          · have k' : Pb _ (if okW fc e' = true then _ else _) _ := k
            rw [if_pos ho] at k'
            exact k' .non w' H' x s.dom s.tab .non (wr_end ar x s ho)
          · have k' : Pb _ (if okW fc e' = true then _ else _) _ := k
            rw [if_neg ho] at k'
            exact k'.elim
        | bk => exact (show False from k).elim
        | rt v =>
          intro y σ' w' H' x s r
          by_cases ho : okW fc e' = true
          · have k' : Pb _ (if okW fc e' = true then _ else _) _ := k
            rw [if_pos ho] at k'
            exact k' y w' H' x s.dom s.tab r (wr_end ar x s ho)
          · have k' : Pb _ (if okW fc e' = true then _ else _) _ := k
            rw [if_neg ho] at k'
            exact k'.elim
theorem fk_all (W : Wd K mg S T Z G TB) (hTB : ∀ p ∈ TB, LamX.TabB base mg p.1 p.2) : ∀ (n : Nat) (E : XK) (f : Nat) (fc : Fc) (a : Addr), T f = some fc → Z.mf f = some a → Fk P w K mg base (lv n) ⟨Z, E, run T G n, G⟩ f fc a
  | 0, E, f, fc, a, hT, ha => by
    obtain ⟨d, N, ps, a', fd, D, F, ha', hlam⟩ := W.df f fc hT
    rw [ha] at ha'
    cases ha'
    have no : ∀ vs H Q E', spF ⟨Z, E, run T G 0, G⟩ fc (run T G 0 f) vs H Q E' → False := fun vs H Q E' ⟨_, _, _, _, _, _, _, _, _, h⟩ => h
    exact ⟨ha, F.kp, ⟨fd, ps, F.bindsN D.bind, ⟨fun vs H Q E' h => (no vs H Q E' h).elim, fun A outer s H args us vs Q E' hr he hb hv h => (no vs H Q E' h).elim⟩⟩, fun ds wl h => absurd rfl h⟩
  | n + 1, E, f, fc, a, hT, ha => by
    obtain ⟨d, N, ps, a', fd, D, F, ha', hlam⟩ := W.df f fc hT
    rw [ha] at ha'
    cases ha'
    have hrun : ∀ ds wl, run T G (n + 1) f ds wl = if ds.length = fc.n then (execs (run T G n) G fc.b ⟨startS fc ds, wl⟩).bind (endR fc) else .bad := fun ds wl => by
      show (match T f with | none => _ | some fc => _) = _
      rw [hT]
    have hle : ps.length ≤ N.length := by
      have := congrArg List.length D.sc.pre
      rw [List.length_take] at this
      omega
    refine ⟨ha, F.kp, ⟨fd, ps, F.bindsN D.bind, ?_⟩, fun ds wl h => ?_⟩
    · exact fn_ok W hTB (fk_all W hTB n) hT D F hlam
    · by_cases hn : ds.length = fc.n
      · exact hn
      · replace h : run T G (n + 1) f ds wl ≠ .bad := h
        rw [hrun, if_neg hn] at h
        exact absurd rfl h
end
end Pk

end
section
/-! Pk23: from the head's facts to a law's promise. -/
namespace Pk
open PySem PySem.Spec PyProof.Rows L2
open LamX (Tabs TabS ExtN CodeO)
/-- a def of the text: where it stands, its names, how many arguments, its code -/
structure Dd where
  id : Nat
  d : He.DefD
  N : List Str
  np : Nat
  fc : Fc
/-- the two defs behind caught calls, the classes that are told, the defs that make lambdas -/
structure Tl where
  id : Nat
  nm : Str
  say : Str
  yes : List Str
structure Lk where
  dl : He.DefD
  dk : He.DefD
  N : List Str
  Nk : List Str
  cs : List Str
  ws : List Str
  so : Str
  found : Str
  e : Str
  x1 : Str
  x2 : Str
  x3 : Str
  kn : Str
  ek : Str
  sm : Str
  wd : Str
  w : Str
  g : Str
  lams : List Str
  told : List Tl
/-- a text: its defs, other globals (ints, defs as values), classes of errors, defs that are called by a name that holds them -/
structure Pr where
  ds : List Dd
  gs : List (Nat × Str × D)
  xs : List (Nat × Str)
  cv : List Nat
  lk : Option Lk := none
def Pr.df (p : Pr) (f : Nat) : Option Dd := p.ds.find? fun x => Nat.beq x.id f
def Pr.gl (p : Pr) (g : Nat) : Option (Nat × Str × D) := p.gs.find? fun x => Nat.beq x.1 g
def Pr.xc (p : Pr) (c : Nat) : Option (Nat × Str) := p.xs.find? fun x => Nat.beq x.1 c
def Pr.lams (p : Pr) : List Str := match p.lk with
  | none => []
  | some k => k.lams
def Pr.lc (p : Pr) : Option Str := match p.lk with
  | none => none
  | some k => some k.dl.name
def Lk.say (k : Lk) (c : Nat) : Option Tl := k.told.find? fun t => Nat.beq t.id c
def Pr.told (p : Pr) (c : Nat) : Option D := match p.lk with
  | none => none
  | some k => (k.say c).map fun t => .tup [.str t.say]
def Pr.sg (p : Pr) : Sg := ⟨fun f => (p.df f).map fun x => (x.d.name, x.fc.w), fun g => (p.gl g).map (·.2.1), fun c => (p.xc c).map (·.2), fun x => p.lams.any fun y => decide (y = x), p.lc⟩
def Pr.T (p : Pr) : Nat → Option Fc := fun f => (p.df f).map (·.fc)
def Pr.G (p : Pr) : Gv := ⟨fun g => (p.gl g).map (·.2.2), fun f => p.cv.contains f, fun c d => match d with
  | .non => p.told c
  | _ => none⟩
def gInt (q : Nat × Str × D) : Option He.Fa := match q.2.2 with
  | .int i => some (.int q.2.1 i)
  | _ => none
def veN : Str := "ValueError"
def Lk.fa (k : Lk) : List He.Fa := [.glo k.dl.name, .glo k.dk.name, .glo k.x1, .glo k.x2, .glo k.x3, .free veN] ++ ((k.cs.filter fun c => !decide (c = veN)).map He.Fa.glo ++ (k.told.map (fun t => He.Fa.exm t.nm k.x1 false) ++ (k.told.map (fun t => He.Fa.exm t.nm k.x2 false) ++ k.told.map (fun t => He.Fa.exm t.nm k.x3 true))))
def Pr.lfa (p : Pr) : List He.Fa := match p.lk with
  | none => []
  | some k => k.fa
def Pr.fa (p : Pr) : List He.Fa := p.ds.map (fun x => He.Fa.glo x.d.name) ++ (bltN.map He.Fa.free ++ (p.gs.filterMap gInt ++ (p.xs.map (fun x => He.Fa.glo x.2) ++ (p.xs.map (fun x => He.Fa.exc x.2) ++ p.lfa))))
def Pr.lfn (p : Pr) : List He.DefD := match p.lk with
  | none => []
  | some k => [k.dl, k.dk]
def Pr.fn (p : Pr) : List He.DefD := p.ds.map (·.d) ++ p.lfn
def Pr.tf (p : Pr) : List He.Defn := p.lams.map fun x => (x, none)
/-- the object that a class's name means -/
def cval (K : PySem.W.Frag) (c : Str) : Value := if c = veN then .type "ValueError" else .ref (He.ga K c)
def excCB (K : PySem.W.Frag) (D : Addr) : Bool :=
  He.eqO (PySem.W.findIn K (.ref D) "__getattribute__") (some (some (.builtin "BaseException.__getattribute__"))) && (He.eqO (PySem.W.findIn K (.ref D) "__getattr__") (some none) && (decide (PySem.W.subIn K (.ref D) (.type "BaseException") = some true) && (PySem.W.hasDictIn K D && (He.eqO (PySem.W.findIn K (.ref D) "__class__") (some (some (.builtin "object.__class__"))) && (He.eqO (PySem.W.specialIn K (.builtin "object.__class__") "__get__") (some (some (.builtin "getset_descriptor.__get__"))) && (decide (PySem.W.takesIn K (.builtin "object.__class__") = some true) && decide (PySem.W.mroIn K D (.type "object") = some true)))))))
theorem excCB_ok {K : PySem.W.Frag} {D : Addr} (h : excCB K D = true) : ExcC K D := by
  unfold excCB at h
  simp only [Bool.and_eq_true, decide_eq_true_eq] at h
  obtain ⟨h1, h2, h3, h4, h5, h6, h7, h8⟩ := h
  exact ⟨He.eqO_ok h1, He.eqO_ok h2, h3, h4, He.eqO_ok h5, He.eqO_ok h6, h7, h8⟩
def Lk.ex (k : Lk) (K : PySem.W.Frag) : Bool :=
  (k.told.all fun t => excCB K (He.ga K t.nm) && k.cs.all fun c => decide (PySem.W.kitOne K (.ref (He.ga K t.nm)) (cval K c) = some (t.yes.contains c))) &&
  k.lams.all fun x => k.lams.all fun y => decide (x = y) || !decide ((He.cT K (x, none)).2 = (He.cT K (y, none)).2)
def Pr.ex (p : Pr) (K : PySem.W.Frag) : Bool := match p.lk with
  | none => true
  | some k => k.ex K
def Pr.cs (p : Pr) (K : PySem.W.Frag) : List (Addr × Addr) := p.lams.map fun x => He.cT K (x, none)
def Pr.tb (p : Pr) (K : PySem.W.Frag) : List (Addr × Str) := p.lams.map fun x => ((He.cT K (x, none)).2, lamQ x)
def Pr.Z (p : Pr) (K : PySem.W.Frag) : Pm := ⟨K, fun f => (p.df f).map fun x => He.ga K x.d.name, p.tb K, fun c => (p.xc c).map fun x => (He.ga K x.2, none)⟩
structure DdOk (d : He.DefD) : Prop where
  at_ : d.at_ = (d.name, none)
  dfl : d.dfl = []
  kwd : d.kwd = []
  qual : d.qual = d.name
structure LkvOk (p : Pr) (k : Lk) : Prop where
  dl : DdOk k.dl
  dk : DdOk k.dk
  nk : k.dk.name = k.kn
  ld : LDef k.dl k.N k.so k.found k.e k.x1 k.x2 k.x3 k.kn
  kd : KDef k.dk k.Nk k.cs k.ws k.ek k.sm k.wd k.w k.g
  bind : ∀ (kV doc pm : Value) (an : Option Addr) (cdv ct : Value) (us : List Value), us.length = 1 → bindArgs (PySem.W.fnOf k.dl.name k.dl.qual k.dl.params k.dl.body k.dl.scope .none kV doc pm an cdv ct) ⟨us, []⟩ = pure (([k.so] : List Str).zip us)
  nb : (k.dl.name == ("__debug__" : Str)) = false
  told : ∀ t ∈ k.told, t.say = Txt.join " " (kSel (fun c => t.yes.contains c) k.ws k.cs) ∧ (p.xc t.id).map (·.2) = some t.nm
structure Pr.Ok (p : Pr) : Prop where
  hd : ∀ x ∈ p.ds, DfOk p.sg x.d x.N (x.N.take x.np) x.fc ∧ DdOk x.d
  hg : ∀ q ∈ p.gs, (∃ i, q.2.2 = .int i) ∨ ∃ f x, q.2.2 = .fn f ∧ p.df f = some x ∧ x.d.name = q.2.1
  hc : ∀ f ∈ p.cv, ∀ x, p.df f = some x → x.fc.w = false
  hl : ∀ k, p.lk = some k → LkvOk p k
section
variable {w : World} {K : PySem.W.Frag} {mg : Str → Option Value} {h : Heap} {p : Pr}
theorem funD_of {d : He.DefD} (D : DdOk d) (cd : ∃ fd, FunD K d.name d.qual d.params d.body d.scope (d.dvs K) (d.kws K) (He.fAd K d.at_) fd) : ∃ fd, FunD K d.name d.qual d.params d.body d.scope [] [] (He.ga K d.name) fd := by
  obtain ⟨fd, F⟩ := cd
  have e1 : d.dvs K = [] := by unfold He.DefD.dvs; rw [D.dfl]; rfl
  have e2 : d.kws K = [] := by unfold He.DefD.kws; rw [D.kwd]; rfl
  rw [e1, e2, D.at_] at F
  exact ⟨fd, F⟩
theorem lam_of {d : He.DefD} {fd : FuncData} (D2 : DdOk d) (cx : p.ex K = true) (F : FunD K d.name d.qual d.params d.body d.scope [] [] (He.ga K d.name) fd) (hlam : p.sg.lam d.name = true) :
    ∃ c P, fd.code = .ref c ∧ (c, P) ∈ p.cs K ∧ (P, lamQ d.qual) ∈ p.tb K ∧ ∀ q ∈ p.tb K, q.1 = P → q.2 = lamQ d.qual := by
  obtain ⟨y, hy, ey⟩ := List.any_eq_true.mp (show (p.lams.any fun y => decide (y = d.name)) = true from hlam)
  have ey := of_decide_eq_true ey
  subst ey
  obtain ⟨oc, od, dV, kV, doc, pm, an, cdv, ct, osl, rfl, lk, hcd, _, _⟩ := F.ex
  obtain ⟨cc, rfl⟩ := He.codeIn_ref hcd
  have hco : He.codeOf K (d.name, none) = cc := He.codeOf_eq (p := (d.name, none)) lk rfl
  have e3 : He.cT K (d.name, none) = (cc, (He.cT K (d.name, none)).2) := by rw [← hco]; rfl
  refine ⟨cc, (He.cT K (d.name, none)).2, rfl, by rw [← e3]; exact List.mem_map.mpr ⟨d.name, hy, rfl⟩, by rw [D2.qual]; exact List.mem_map.mpr ⟨d.name, hy, rfl⟩, fun q hq hqe => ?_⟩
  obtain ⟨z, hz, rfl⟩ := List.mem_map.mp (show q ∈ p.lams.map fun x => ((He.cT K (x, none)).2, lamQ x) from hq)
  dsimp only at hqe ⊢
  rw [D2.qual]
  unfold Pr.lams at hy hz
  unfold Pr.ex at cx
  cases hk : p.lk with
  | none => rw [hk] at hy; cases hy
  | some k =>
    rw [hk] at hy hz cx
    have h2 := (He.ba cx).2
    have h3 := List.all_eq_true.mp (List.all_eq_true.mp h2 z hz) _ hy
    rw [Bool.or_eq_true] at h3
    rcases h3 with h3 | h3
    · rw [of_decide_eq_true h3]
    · rw [decide_eq_true hqe] at h3; cases h3
theorem wd_of (o : p.Ok) (X : K.In h) (Gn : h.Ns mainGlobals mg) (c : ∀ f ∈ p.fa, f.ok K = true) (cd : ∀ d ∈ p.fn, ∃ fd, FunD K d.name d.qual d.params d.body d.scope (d.dvs K) (d.kws K) (He.fAd K d.at_) fd) (cx : p.ex K = true) : Wd K mg p.sg p.T (p.Z K) p.G (p.cs K) := by
  have glo : ∀ x ∈ p.ds, mg x.d.name = some (.ref (He.ga K x.d.name)) := fun x hx => He.glo_ok X Gn (c _ (List.mem_append_left _ (List.mem_map.mpr ⟨x, hx, rfl⟩)))
  have exc : ∀ q ∈ p.xs, He.Fa.glo q.2 ∈ p.fa ∧ He.Fa.exc q.2 ∈ p.fa := fun q hm => ⟨List.mem_append_right _ (List.mem_append_right _ (List.mem_append_right _ (List.mem_append_left _ (List.mem_map.mpr ⟨q, hm, rfl⟩)))), List.mem_append_right _ (List.mem_append_right _ (List.mem_append_right _ (List.mem_append_right _ (List.mem_append_left _ (List.mem_map.mpr ⟨q, hm, rfl⟩)))))⟩
  have lfa : ∀ f ∈ p.lfa, f.ok K = true := fun f hf => c f (List.mem_append_right _ (List.mem_append_right _ (List.mem_append_right _ (List.mem_append_right _ (List.mem_append_right _ hf)))))
  refine ⟨rfl, fun f fc hf => ?_, fun f nm b hf => ?_, fun f a hf => ?_, fun f fc hc hf => ?_, fun g nm hg => ?_, fun k nm hk => ?_, fun nm hn => ?_, fun hl => ?_⟩
  · obtain ⟨x, hx, rfl⟩ := Option.map_eq_some_iff.mp (show (p.df f).map (·.fc) = some fc from hf)
    obtain ⟨D, D2⟩ := o.hd x (List.mem_of_find?_eq_some hx)
    obtain ⟨fd, F⟩ := funD_of D2 (cd x.d (List.mem_append_left _ (List.mem_map.mpr ⟨x, List.mem_of_find?_eq_some hx, rfl⟩)))
    exact ⟨x.d, x.N, x.N.take x.np, _, fd, D, F, by show (p.df f).map _ = _; rw [hx]; rfl, fun hlam => lam_of D2 cx F hlam⟩
  · obtain ⟨x, hx, e⟩ := Option.map_eq_some_iff.mp (show (p.df f).map (fun x => (x.d.name, x.fc.w)) = some (nm, b) from hf)
    cases e
    exact ⟨x.fc, He.ga K x.d.name, by show (p.df f).map _ = _; rw [hx]; rfl, rfl, by show (p.df f).map _ = _; rw [hx]; rfl, glo x (List.mem_of_find?_eq_some hx)⟩
  · obtain ⟨x, hx, e⟩ := Option.map_eq_some_iff.mp (show (p.df f).map (fun x => He.ga K x.d.name) = some a from hf)
    exact ⟨x.fc, by show (p.df f).map _ = _; rw [hx]; rfl⟩
  · obtain ⟨x, hx, rfl⟩ := Option.map_eq_some_iff.mp (show (p.df f).map (·.fc) = some fc from hf)
    exact o.hc f (by simpa using (show p.cv.contains f = true from hc)) x hx
  · obtain ⟨q, hq, e⟩ := Option.map_eq_some_iff.mp (show (p.gl g).map (·.2.1) = some nm from hg)
    have hm := List.mem_of_find?_eq_some hq
    have eg : p.G.glob g = some q.2.2 := by show (p.gl g).map _ = _; rw [hq]; rfl
    subst e
    rcases o.hg q hm with ⟨i, hi⟩ | ⟨f, x, hf, hx, hn⟩
    · have hfa : He.Fa.int q.2.1 i ∈ p.fa := List.mem_append_right _ (List.mem_append_right _ (List.mem_append_left _ (List.mem_filterMap.mpr ⟨q, hm, by unfold gInt; rw [hi]⟩)))
      obtain ⟨t, ht⟩ := He.int_ok X Gn (c _ hfa)
      refine ⟨.int i, _, ht, ⟨t, rfl⟩, fun d hd w H => ?_⟩
      rw [eg, hi] at hd
      cases hd
      exact .int i
    · refine ⟨.ref (He.ga K x.d.name), _, by rw [← hn]; exact glo x (List.mem_of_find?_eq_some hx), rfl, fun d hd w H => ?_⟩
      rw [eg, hf] at hd
      cases hd
      exact .fn (by show (p.df f).map _ = _; rw [hx]; rfl)
  · obtain ⟨q, hq, e⟩ := Option.map_eq_some_iff.mp (show (p.xc k).map (·.2) = some nm from hk)
    have hm := List.mem_of_find?_eq_some hq
    subst e
    obtain ⟨h1, h2⟩ := exc q hm
    obtain ⟨q1, q2, q3, q4⟩ := He.exc_ok (c _ h2)
    exact ⟨He.ga K q.2, He.veBase, _, _, _, PySem.F.excBase_ValueError, q1, He.glo_ok X Gn (c _ h1), q2, ⟨q3, q4⟩, by show (p.xc k).map _ = _; rw [hq]; rfl⟩
  · exact He.free_ok X Gn (c _ (List.mem_append_right _ (List.mem_append_left _ (List.mem_map.mpr ⟨nm, hn, rfl⟩))))
  · cases hk : p.lk with
    | none =>
      obtain ⟨n, hn⟩ := hl
      have e : p.lams = [] := by unfold Pr.lams; rw [hk]
      have hn : (p.lams.any fun y => decide (y = n)) = true := hn
      rw [e] at hn
      cases hn
    | some k =>
      have O := o.hl k hk
      have elf : p.lfa = k.fa := by unfold Pr.lfa; rw [hk]
      have efn : p.lfn = [k.dl, k.dk] := by unfold Pr.lfn; rw [hk]
      rw [elf] at lfa
      unfold Pr.ex at cx
      rw [hk] at cx
      have cx1 := List.all_eq_true.mp (He.ba cx).1
      obtain ⟨fdl, F1⟩ := funD_of O.dl (cd k.dl (List.mem_append_right _ (by rw [efn]; simp)))
      obtain ⟨fdk, F2⟩ := funD_of O.dk (cd k.dk (List.mem_append_right _ (by rw [efn]; simp)))
      have hd6 : ∀ f ∈ ([.glo k.dl.name, .glo k.dk.name, .glo k.x1, .glo k.x2, .glo k.x3, .free veN] : List He.Fa), f.ok K = true := fun f hf => lfa f (List.mem_append_left _ hf)
      have g1 := He.glo_ok X Gn (hd6 (.glo k.dl.name) (by simp))
      have g2 := He.glo_ok X Gn (hd6 (.glo k.dk.name) (by simp))
      have g3 := He.glo_ok X Gn (hd6 (.glo k.x1) (by simp))
      have g4 := He.glo_ok X Gn (hd6 (.glo k.x2) (by simp))
      have g5 := He.glo_ok X Gn (hd6 (.glo k.x3) (by simp))
      have g6 := He.free_ok X Gn (hd6 (.free veN) (by simp))
      refine ⟨k.dl.name, by show p.lc = _; unfold Pr.lc; rw [hk], ⟨k.dl, k.dk, k.N, k.Nk, k.cs, k.ws, k.so, k.found, k.e, k.x1, k.x2, k.x3, k.kn, k.ek, k.sm, k.wd, k.w, k.g, He.ga K k.dl.name, He.ga K k.dk.name, He.ga K k.x1, He.ga K k.x2, He.ga K k.x3, fdl, fdk, rfl, O.dl.qual, O.ld, O.kd, F1, F2, g1, by rw [← O.nk]; exact g2, g3, g4, g5, ⟨fun cc Ca f hf => ?_, fun cc Ca d hf ht => ?_⟩, O.nb, O.bind⟩⟩
      · obtain ⟨q, hq, e⟩ := Option.map_eq_some_iff.mp (show (p.xc cc).map (fun x => (He.ga K x.2, (none : Option _))) = some (Ca, f) from hf)
        cases e
        rfl
      · obtain ⟨q, hq, e⟩ := Option.map_eq_some_iff.mp (show (p.xc cc).map (fun x => (He.ga K x.2, (none : Option _))) = some (Ca, none) from hf)
        cases e
        have ht : p.told cc = some d := ht
        unfold Pr.told at ht
        rw [hk] at ht
        obtain ⟨t, ht, e⟩ := Option.map_eq_some_iff.mp (show (k.say cc).map (fun t => D.tup [.str t.say]) = some d from ht)
        have hid : t.id = cc := by
          have := List.find?_some ht
          exact Nat.eq_of_beq_eq_true this
        have hm := List.mem_of_find?_eq_some ht
        obtain ⟨hsay, hnm⟩ := O.told t hm
        rw [hid, hq] at hnm
        have hnm : q.2 = t.nm := Option.some.inj hnm
        rw [hnm]
        obtain ⟨e1, e2⟩ := He.ba (cx1 t hm)
        have e2 := List.all_eq_true.mp e2
        have rest : ∀ f ∈ (k.cs.filter fun c => !decide (c = veN)).map He.Fa.glo ++ (k.told.map (fun t => He.Fa.exm t.nm k.x1 false) ++ (k.told.map (fun t => He.Fa.exm t.nm k.x2 false) ++ k.told.map (fun t => He.Fa.exm t.nm k.x3 true))), f.ok K = true := fun f hf => lfa f (List.mem_append_right _ hf)
        refine ⟨fun c => t.yes.contains c, ⟨excCB_ok e1, fun c2 hc2 => ?_, ?_, ?_, ?_⟩, by rw [← e, hsay]⟩
        · have e3 := of_decide_eq_true (e2 c2 hc2)
          by_cases hv : c2 = veN
          · refine ⟨.ty "ValueError", .type "ValueError", .blt (by rw [hv]; exact g6) (by rw [hv]; rfl) (by rw [hv]; decide), ?_⟩
            unfold cval at e3
            rw [if_pos hv] at e3
            exact e3
          · refine ⟨.ref (He.ga K c2), .ref (He.ga K c2), .own (He.glo_ok X Gn (rest _ (List.mem_append_left _ (List.mem_map.mpr ⟨c2, List.mem_filter.mpr ⟨hc2, by rw [decide_eq_false hv]; rfl⟩, rfl⟩)))), ?_⟩
            unfold cval at e3
            rw [if_neg hv] at e3
            exact e3
        · exact of_decide_eq_true (rest (.exm t.nm k.x1 false) (List.mem_append_right _ (List.mem_append_left _ (List.mem_map.mpr ⟨t, hm, rfl⟩))))
        · exact of_decide_eq_true (rest (.exm t.nm k.x2 false) (List.mem_append_right _ (List.mem_append_right _ (List.mem_append_left _ (List.mem_map.mpr ⟨t, hm, rfl⟩)))))
        · exact of_decide_eq_true (rest (.exm t.nm k.x3 true) (List.mem_append_right _ (List.mem_append_right _ (List.mem_append_right _ (List.mem_map.mpr ⟨t, hm, rfl⟩)))))
/-- a law -/
theorem law_at {l : PySem.W.OpenLaw} {n f : Nat} {x : Dd} {y : Str} {fa : Addr} (o : p.Ok) (X : K.In h) (Gn : h.Ns mainGlobals mg) (S : He.SaysX p.fa p.fn [] p.tf p.ex w h K)
    (hx : p.df f = some x) (hmg : mg x.d.name = some (.ref fa)) (hw : x.fc.w = false) (hn : x.fc.n = 1) (hp : x.N.take x.np = [y])
    (hrun : ∀ ns : List Int, ns.length ≤ 63 → (∀ z ∈ ns, Builtin.Int.intBits z ≤ 1048576) → ∃ v u, run p.T p.G (n + 1) f [.scr ns] [] = .ok (v, u) ∧ v.d = .bl true) :
    LamX.LawAtS l w K (L2N.CX l.prog w) (lv (n + 1)) 63 y mg fa h := by
  have c : ∀ f ∈ p.fa, f.ok K = true := fun f hf => S.t.d.facts hf
  have cd : ∀ d ∈ p.fn, ∃ fd, FunD K d.name d.qual d.params d.body d.scope (d.dvs K) (d.kws K) (He.fAd K d.at_) fd := fun d hd => S.t.d.defs hd
  have W : Wd K mg p.sg p.T (p.Z K) p.G (p.cs K) := wd_of o X Gn c cd S.more
  have hT : p.T f = some x.fc := by show (p.df f).map _ = _; rw [hx]; rfl
  have hm := List.mem_of_find?_eq_some hx
  have glo := He.glo_ok X Gn (c _ (List.mem_append_left _ (List.mem_map.mpr ⟨x, hm, rfl⟩)))
  rw [hmg] at glo
  have ea : fa = He.ga K x.d.name := by cases glo; rfl
  subst ea
  obtain ⟨D, D2⟩ := o.hd x hm
  obtain ⟨fd, F⟩ := funD_of D2 (cd x.d (List.mem_append_left _ (List.mem_map.mpr ⟨x, hm, rfl⟩)))
  rw [hp] at D
  refine ⟨fd, p.cs K, spF ⟨p.Z K, F0, run p.T p.G (n + 1), p.G⟩ x.fc (run p.T p.G (n + 1) f), fun q hq => ?_, fun q hq => ?_, fun q hq => ?_, fun s u => ?_, fun H a ns hl hb hH hS => ?_, fun base _ _ hTB => fn_ok W hTB (fk_all W hTB n) hT D F (lam_of D2 S.more F)⟩
  · obtain ⟨z, hz, rfl⟩ := List.mem_map.mp (show q ∈ p.lams.map fun x => He.cT K (x, none) from hq)
    exact S.empty (z, none) (List.mem_map.mpr ⟨z, hz, rfl⟩)
  · obtain ⟨z, hz, rfl⟩ := List.mem_map.mp (show q ∈ p.lams.map fun x => He.cT K (x, none) from hq)
    exact S.out (z, none) (List.mem_map.mpr ⟨z, hz, rfl⟩)
  · obtain ⟨z, hz, rfl⟩ := List.mem_map.mp (show q ∈ p.lams.map fun x => He.cT K (x, none) from hq)
    exact PySem.W.codeHd_of_K X (S.hd (z, none) (List.mem_map.mpr ⟨z, hz, rfl⟩))
  · exact FunD.bindsA (ps := [y]) F D.bind s [u] rfl
  · obtain ⟨v, u, hr, hv⟩ := hrun ns hl hb
    refine ⟨fun _ => none, [.scr ns], [], fun a h => absurd rfl h, fun q hq => ?_, fun _ => .inl rfl, fun _ _ h => (by cases h), ?_, hn.symm, ?_⟩
    · obtain ⟨z, hz, rfl⟩ := List.mem_map.mp (show q ∈ p.lams.map fun x => ((He.cT K (x, none)).2, lamQ x) from hq)
      exact LamX.TabS.nil (hH (He.cT K (z, none)) (List.mem_map.mpr ⟨z, hz, rfl⟩))
    · unfold Ar
      rw [hw]
      refine .cons ?_ .nil
      rcases hS with hS | hS
      · exact .scr rfl hS
      · exact .scrK fun H' => .inr hS
    · rw [hr]
      intro x' w' H' _ _ _ r _
      cases v with
      | fro d => rw [show d = .bl true from hv] at r; exact (R.br r).bl
      | own d => rw [show d = .bl true from hv] at r; obtain ⟨a, _, _, tp⟩ := r; exact tp.elim
end
end Pk

end
section
/-! Pk24: how the codes are evaluated by simp. -/
namespace Pk
open PySem L2
class TIs (T : Nat → Option Fc) (i : Nat) (c : outParam Fc) : Prop where
  h : T i = some c
class GIs (G : Gv) (i : Nat) (d : outParam D) : Prop where
  h : G.glob i = some d
class CvIs (G : Gv) (i : Nat) : Prop where
  h : G.cv i = true
section
variable {T : Nat → Option Fc} {F : Fns} {G : Gv}
theorem run_eq {n i : Nat} {c : Fc} {ds w : List D} [t : TIs T i c] : run T G (n + 1) i ds w = if ds.length = c.n then (execs (run T G n) G c.b ⟨startS c ds, w⟩).bind (endR c) else .bad := by
  show (match T i with | none => Out.bad | some fc => _) = _
  rw [t.h]
theorem run_call {n i : Nat} {c : Fc} {ds w : List D} [t : TIs T i c] (h : ds.length = c.n) : run T G (n + 1) i ds w = (execs (run T G n) G c.b ⟨startS c ds, w⟩).bind (endR c) := by rw [run_eq, if_pos h]
@[simp] theorem glob_eq {i : Nat} {d : D} [t : GIs G i d] : G.glob i = some d := t.h
@[simp] theorem cv_eq {i : Nat} [t : CvIs G i] : G.cv i = true := t.h
theorem Out.bind_assoc {A B C : Type} (a : Out A) (f : A → Out B) (g : B → Out C) : (a.bind f).bind g = a.bind fun x => (f x).bind g := by cases a <;> rfl
@[simp] theorem Out.ite_bind {A B : Type} {c : Prop} [Decidable c] (a b : Out A) (f : A → Out B) : (if c then a else b).bind f = if c then a.bind f else b.bind f := by split <;> rfl
@[simp] theorem Out.ite_ok {B : Type} {c : Prop} [Decidable c] (a b : List D) (e : B) : (if c then Out.ok (a, e) else Out.ok (b, e)) = Out.ok (if c then a else b, e) := by split <;> rfl
@[simp] theorem Out.ite_okV {B : Type} {c : Prop} [Decidable c] (a b : Vl) (e : B) : (if c then Out.ok (a, e) else Out.ok (b, e)) = Out.ok (if c then a else b, e) := by split <;> rfl
@[simp] theorem Out.ite_okB {B : Type} {c : Prop} [Decidable c] (a b : Bool) (e : B) : (if c then Out.ok (a, e) else Out.ok (b, e)) = Out.ok (if c then a else b, e) := by split <;> rfl
@[simp] theorem Out.of_ite {A : Type} {c : Prop} [Decidable c] (a b : Option A) : Out.of (if c then a else b) = if c then Out.of a else Out.of b := by split <;> rfl

/-! ### names -/
def Sl.fre : Sl → Bool
  | .un => true
  | .fro _ => true
  | _ => false
def Sl.set : Sl → Bool
  | .well => false
  | _ => true
@[simp] theorem Sl.set_un : Sl.set .un = true := by rfl
@[simp] theorem Sl.set_fro (d : D) : Sl.set (.fro d) = true := by rfl
@[simp] theorem Sl.set_own (d : D) : Sl.set (.own d) = true := by rfl
@[simp] theorem Sl.set_well : Sl.set .well = false := by rfl
@[simp] theorem Sl.fre_un : Sl.fre .un = true := by rfl
@[simp] theorem Sl.fre_fro (d : D) : Sl.fre (.fro d) = true := by rfl
@[simp] theorem Sl.fre_own (d : D) : Sl.fre (.own d) = false := by rfl
@[simp] theorem Sl.fre_well : Sl.fre .well = false := by rfl
theorem Sl.set_of_fre {x : Sl} (h : x.fre = true) : x.set = true := by cases x <;> first | rfl | cases h
def rdM (x : Sl) (e : En) (i : Nat) : Out (Vl × En) := match x with
  | .fro d => .ok (.fro d, e)
  | .own d => .ok (.fro d, ⟨e.s.set i (.fro d), e.w⟩)
  | _ => .bad
@[simp] theorem rdM_fro (d : D) (e : En) (i : Nat) : rdM (.fro d) e i = .ok (.fro d, e) := by rfl
@[simp] theorem rdM_own (d : D) (e : En) (i : Nat) : rdM (.own d) e i = .ok (.fro d, ⟨e.s.set i (.fro d), e.w⟩) := by rfl
@[simp] theorem rd_mk (s : List Sl) (w : List D) (i : Nat) : En.rd ⟨s, w⟩ i = rdM (s.getD i .un) ⟨s, w⟩ i := by
  unfold En.rd rdM
  dsimp only
  try (cases s.getD i .un <;> rfl)
def pkM (x : Sl) (w : List D) : Out D := match x with
  | .fro d => .ok d
  | .own d => .ok d
  | .well => .ok (.lst w)
  | .un => .bad
@[simp] theorem pkM_fro (d : D) (w : List D) : pkM (.fro d) w = .ok d := by rfl
@[simp] theorem pkM_own (d : D) (w : List D) : pkM (.own d) w = .ok d := by rfl
@[simp] theorem pkM_well (w : List D) : pkM .well w = .ok (.lst w) := by rfl
@[simp] theorem pk_mk (s : List Sl) (w : List D) (i : Nat) : En.pk ⟨s, w⟩ i = pkM (s.getD i .un) w := by
  unfold En.pk pkM
  dsimp only
  try (cases s.getD i .un <;> rfl)
@[simp] theorem st_mk (s : List Sl) (w : List D) (i : Nat) (v : Vl) : En.st ⟨s, w⟩ i v = if (s.getD i .well).set = true then .ok ⟨s.set i v.sl, w⟩ else .bad := by
  unfold En.st
  dsimp only
  cases s.getD i .well <;> rfl
@[simp] theorem sl_fro (d : D) : Vl.sl (.fro d) = .fro d := by rfl
@[simp] theorem sl_own (d : D) : Vl.sl (.own d) = .own d := by rfl
@[simp] theorem asgT_one (i : Nat) (d : D) (s : List Sl) : asgT (.one i) d s = if (s.getD i .well).set = true then some (s.set i (.fro d)) else none := by
  unfold asgT
  cases s.getD i .well <;> rfl
@[simp] theorem asgT_two (a b : Tg) (x y : D) (s : List Sl) : asgT (.two a b) (.tup [x, y]) s = (asgT a x s).bind fun s => asgT b y s := by rfl
@[simp] theorem asgT_twol (a b : Tg) (x y : D) (s : List Sl) : asgT (.two a b) (.lst [x, y]) s = (asgT a x s).bind fun s => asgT b y s := by rfl
@[simp] theorem asgT_three (a b c : Tg) (x y z : D) (s : List Sl) : asgT (.three a b c) (.tup [x, y, z]) s = (asgT a x s).bind fun s => (asgT b y s).bind fun s => asgT c z s := by rfl
@[simp] theorem wipeS_nil (s : List Sl) : wipeS [] s = s := by rfl
@[simp] theorem wipeS_cons (i : Nat) (r : List Nat) (s : List Sl) : wipeS (i :: r) s = (wipeS r s).set i .un := by rfl
@[simp] theorem backS_nil (o s : List Sl) : backS [] o s = s := by rfl
@[simp] theorem backS_cons (i : Nat) (r : List Nat) (o s : List Sl) : backS (i :: r) o s = (backS r o s).set i (o.getD i .un) := by rfl
@[simp] theorem hidS_nil (s : List Sl) : hidS [] s = true := by rfl
@[simp] theorem hidS_cons (i : Nat) (r : List Nat) (s : List Sl) : hidS (i :: r) s = ((s.getD i .well).fre && hidS r s) := by
  unfold hidS
  rw [List.all_cons]
  congr 1
/-! ### the codes -/
@[simp] theorem opO_name (i : Nat) (r : En → Out (Vl × En)) (e : En) : opO (.name i) r e = (e.pk i).bind fun _ => .ok (.non, e) := by rfl
def K_opO : Vl × En → Out (D × En)
  | (v, e) => .ok (v.d, e)
@[simp] theorem K_opO_eq (v : Vl) (e : En) : K_opO (v, e) = .ok (v.d, e) := by rfl
@[simp] theorem opO_ne {a : Ex} (r : En → Out (Vl × En)) (e : En) (h : a.nameI = none) : opO a r e = (r e).bind K_opO := by
  unfold opO
  rw [h]
  rfl
@[simp] theorem fin_name (i : Nat) (o : D) (e : En) : fin (.name i) o e = e.pk i := by rfl
@[simp] theorem fin_ne {a : Ex} (o : D) (e : En) (h : a.nameI = none) : fin a o e = .ok o := by
  unfold fin
  rw [h]
@[simp] theorem fins_nil (ds : List D) (e : En) : fins .nil ds e = .ok [] := by rfl
def K_fins2 (x : D) : List D → Out (List D)
  | xs => .ok (x :: xs)
def K_fins (r : Exs) (ds : List D) (e : En) : D → Out (List D)
  | x => (fins r ds e).bind (K_fins2 x)
@[simp] theorem K_fins2_eq (x : D) (xs : List D) : K_fins2 x xs = .ok (x :: xs) := by rfl
@[simp] theorem K_fins_eq (r : Exs) (ds : List D) (e : En) (x : D) : K_fins r ds e x = (fins r ds e).bind (K_fins2 x) := by rfl
@[simp] theorem fins_cons (a : Ex) (r : Exs) (d : D) (ds : List D) (e : En) : fins (.cons a r) (d :: ds) e = (fin a d e).bind (K_fins r ds e) := by rfl
end
@[simp] theorem nameI_const (y0 : D) : Ex.nameI (.const y0) = none := by rfl
@[simp] theorem nameI_glob (y0 : Nat) : Ex.nameI (.glob y0) = none := by rfl
@[simp] theorem nameI_tup (y0 : Exs) : Ex.nameI (.tup y0) = none := by rfl
@[simp] theorem nameI_lst (y0 : Exs) : Ex.nameI (.lst y0) = none := by rfl
@[simp] theorem nameI_dict0 (y0 : Bool) : Ex.nameI (.dict0 y0) = none := by rfl
@[simp] theorem nameI_dict1 (y0 : Ex) (y1 : Ex) : Ex.nameI (.dict1 y0 y1) = none := by rfl
@[simp] theorem nameI_bin (y0 : BOp) (y1 : Ex) (y2 : Ex) : Ex.nameI (.bin y0 y1 y2) = none := by rfl
@[simp] theorem nameI_neg (y0 : Ex) : Ex.nameI (.neg y0) = none := by rfl
@[simp] theorem nameI_cmp (y0 : COp) (y1 : Ex) (y2 : Ex) : Ex.nameI (.cmp y0 y1 y2) = none := by rfl
@[simp] theorem nameI_cmp2 (y0 : COp) (y1 : COp) (y2 : Ex) (y3 : Ex) (y4 : Ex) : Ex.nameI (.cmp2 y0 y1 y2 y3 y4) = none := by rfl
@[simp] theorem nameI_and (y0 : Ex) (y1 : Ex) : Ex.nameI (.and y0 y1) = none := by rfl
@[simp] theorem nameI_or (y0 : Ex) (y1 : Ex) : Ex.nameI (.or y0 y1) = none := by rfl
@[simp] theorem nameI_not (y0 : Ex) : Ex.nameI (.not y0) = none := by rfl
@[simp] theorem nameI_ite (y0 : Ex) (y1 : Ex) (y2 : Ex) : Ex.nameI (.ite y0 y1 y2) = none := by rfl
@[simp] theorem nameI_call (y0 : Nat) (y1 : Exs) : Ex.nameI (.call y0 y1) = none := by rfl
@[simp] theorem nameI_callw (y0 : Nat) (y1 : Nat) (y2 : Exs) : Ex.nameI (.callw y0 y1 y2) = none := by rfl
@[simp] theorem nameI_callv (y0 : Nat) (y1 : Exs) : Ex.nameI (.callv y0 y1) = none := by rfl
@[simp] theorem nameI_blt (y0 : Bl) (y1 : Exs) : Ex.nameI (.blt y0 y1) = none := by rfl
@[simp] theorem nameI_isi (y0 : Ty) (y1 : Ex) : Ex.nameI (.isi y0 y1) = none := by rfl
@[simp] theorem nameI_sub (y0 : Ex) (y1 : Ex) : Ex.nameI (.sub y0 y1) = none := by rfl
@[simp] theorem nameI_slice (y0 : Ex) (y1 : Eo) (y2 : Eo) : Ex.nameI (.slice y0 y1 y2) = none := by rfl
@[simp] theorem nameI_rev (y0 : Ex) : Ex.nameI (.rev y0) = none := by rfl
@[simp] theorem nameI_revb (y0 : Ex) : Ex.nameI (.revb y0) = none := by rfl
@[simp] theorem nameI_lc (y0 : Ex) (y1 : List Nat) (y2 : Tg) (y3 : It) (y4 : Eo) : Ex.nameI (.lc y0 y1 y2 y3 y4) = none := by rfl
@[simp] theorem nameI_lc2 (y0 : Ex) (y1 : List Nat) (y2 : List Nat) (y3 : Tg) (y4 : It) (y5 : Eo) (y6 : Tg) (y7 : It) (y8 : Eo) : Ex.nameI (.lc2 y0 y1 y2 y3 y4 y5 y6 y7 y8) = none := by rfl
@[simp] theorem nameI_dc (y0 : Ex) (y1 : Ex) (y2 : List Nat) (y3 : Tg) (y4 : It) : Ex.nameI (.dc y0 y1 y2 y3 y4) = none := by rfl
@[simp] theorem nameI_meth (y0 : Mt) (y1 : Ex) (y2 : Exs) : Ex.nameI (.meth y0 y1 y2) = none := by rfl
@[simp] theorem nameI_sumv (y0 : Ex) : Ex.nameI (.sumv y0) = none := by rfl
@[simp] theorem nameI_lci (y0 : Ex) (y1 : List Nat) (y2 : Tg) (y3 : Bool) (y4 : Nat) (y5 : Eo) : Ex.nameI (.lci y0 y1 y2 y3 y4 y5) = none := by rfl
@[simp] theorem nameI_sset (y0 : Ex) : Ex.nameI (.sset y0) = none := by rfl
@[simp] theorem nameI_lset (y0 : Ex) : Ex.nameI (.lset y0) = none := by rfl
@[simp] theorem nameI_tupr (y0 : Ex) : Ex.nameI (.tupr y0) = none := by rfl
@[simp] theorem nameI_caught (y0 : List Nat) (y1 : Ex) : Ex.nameI (.caught y0 y1) = none := by rfl
def K_den_glob_1 (e : En) : D → Out (Vl × En)
  | d => .ok (.fro d, e)
def K_den_tup_1  : List D × En → Out (Vl × En)
  | (ds, e) => .ok (.fro (.tup ds), e)
def K_den_lst_1  : List D × En → Out (Vl × En)
  | (ds, e) => .ok (.own (.lst ds), e)
def K_den_dict1_3 (e : En) (b : Vl) : List Key → Out (Vl × En)
  | q => .ok (.own (.dt [(q, b.d)]), e)
def K_den_dict1_2 (a : Vl) : Vl × En → Out (Vl × En)
  | (b, e) => (Out.of (tkeyD a.d)).bind (K_den_dict1_3 e b)
def K_den_dict1_1 (F : Fns) (G : Gv) (v : Ex) : Vl × En → Out (Vl × En)
  | (a, e) => (den F G v e).bind (K_den_dict1_2 a)
def K_den_bin_5 (e : En) : Vl → Out (Vl × En)
  | v => .ok (v, e)
def K_den_bin_4 (op : BOp) (e : En) (x : D) : D → Out (Vl × En)
  | y => (Out.of (binop op x y)).bind (K_den_bin_5 e)
def K_den_bin_3 (op : BOp) (b : Ex) (e : En) (ob : D) : D → Out (Vl × En)
  | x => (fin b ob e).bind (K_den_bin_4 op e x)
def K_den_bin_2 (op : BOp) (a : Ex) (b : Ex) (oa : D) : D × En → Out (Vl × En)
  | (ob, e) => (fin a oa e).bind (K_den_bin_3 op b e ob)
def K_den_bin_1 (F : Fns) (G : Gv) (op : BOp) (a : Ex) (b : Ex) : D × En → Out (Vl × En)
  | (oa, e) => (opO b (den F G b) e).bind (K_den_bin_2 op a b oa)
def K_den_neg_3 (e : En) : Int → Out (Vl × En)
  | i => .ok (.fro (.int (-i)), e)
def K_den_neg_2 (e : En) : D → Out (Vl × En)
  | x => (Out.of (intD x)).bind (K_den_neg_3 e)
def K_den_neg_1 (a : Ex) : D × En → Out (Vl × En)
  | (oa, e) => (fin a oa e).bind (K_den_neg_2 e)
def K_den_cmp_5 (e : En) : Bool → Out (Vl × En)
  | v => .ok (.fro (.bl v), e)
def K_den_cmp_4 (op : COp) (e : En) (x : D) : D → Out (Vl × En)
  | y => (Out.of (cmpop op x y)).bind (K_den_cmp_5 e)
def K_den_cmp_3 (op : COp) (b : Ex) (e : En) (ob : D) : D → Out (Vl × En)
  | x => (fin b ob e).bind (K_den_cmp_4 op e x)
def K_den_cmp_2 (op : COp) (a : Ex) (b : Ex) (oa : D) : D × En → Out (Vl × En)
  | (ob, e) => (fin a oa e).bind (K_den_cmp_3 op b e ob)
def K_den_cmp_1 (F : Fns) (G : Gv) (op : COp) (a : Ex) (b : Ex) : D × En → Out (Vl × En)
  | (oa, e) => (opO b (den F G b) e).bind (K_den_cmp_2 op a b oa)
def K_den_cmp2_5 (e : En) : Bool → Out (Vl × En)
  | v => .ok (.fro (.bl v), e)
def K_den_cmp2_4 (q : COp) (y : Vl) : Vl × En → Out (Vl × En)
  | (z, e) => (Out.of (cmpop q y.d z.d)).bind (K_den_cmp2_5 e)
def K_den_cmp2_3 (F : Fns) (G : Gv) (q : COp) (c : Ex) (e : En) (y : Vl) : Bool → Out (Vl × En)
  | v => if v then (den F G c e).bind (K_den_cmp2_4 q y) else .ok (.fro (.bl false), e)
def K_den_cmp2_2 (F : Fns) (G : Gv) (p : COp) (q : COp) (c : Ex) (x : Vl) : Vl × En → Out (Vl × En)
  | (y, e) => (Out.of (cmpop p x.d y.d)).bind (K_den_cmp2_3 F G q c e y)
def K_den_cmp2_1 (F : Fns) (G : Gv) (p : COp) (q : COp) (b : Ex) (c : Ex) : Vl × En → Out (Vl × En)
  | (x, e) => (den F G b e).bind (K_den_cmp2_2 F G p q c x)
def K_den_and_2 (F : Fns) (G : Gv) (b : Ex) (e : En) : Bool → Out (Vl × En)
  | c => if c then den F G b e else .ok (.fro (.bl false), e)
def K_den_and_1 (F : Fns) (G : Gv) (b : Ex) : Vl × En → Out (Vl × En)
  | (x, e) => (Out.of (blD x.d)).bind (K_den_and_2 F G b e)
def K_den_or_2 (F : Fns) (G : Gv) (b : Ex) (e : En) : Bool → Out (Vl × En)
  | c => if c then .ok (.fro (.bl true), e) else den F G b e
def K_den_or_1 (F : Fns) (G : Gv) (b : Ex) : Vl × En → Out (Vl × En)
  | (x, e) => (Out.of (blD x.d)).bind (K_den_or_2 F G b e)
def K_den_not_2 (e : En) : Bool → Out (Vl × En)
  | c => .ok (.fro (.bl (!c)), e)
def K_den_not_1  : Vl × En → Out (Vl × En)
  | (x, e) => (Out.of (blD x.d)).bind (K_den_not_2 e)
def K_den_ite_2 (F : Fns) (G : Gv) (a : Ex) (b : Ex) (e : En) : Bool → Out (Vl × En)
  | c => if c then den F G a e else den F G b e
def K_den_ite_1 (F : Fns) (G : Gv) (a : Ex) (b : Ex) : Vl × En → Out (Vl × En)
  | (x, e) => (Out.of (blD x.d)).bind (K_den_ite_2 F G a b e)
def K_den_call_2 (e : En) : Vl × List D → Out (Vl × En)
  | (v, z1) => .ok (v, e)
def K_den_call_1 (F : Fns) (f : Nat) : List D × En → Out (Vl × En)
  | (ds, e) => (F f ds []).bind (K_den_call_2 e)
def K_den_callw_3 (i : Nat) (e : En) : Vl × List D → Out (Vl × En)
  | (v, l') => .ok (v, { e with s := e.s.set i (.own (.lst l')) })
def K_den_callw_4 (e : En) : Vl × List D → Out (Vl × En)
  | (v, l') => .ok (v, { e with w := l' })
def K_den_callw_2 (F : Fns) (f : Nat) (i : Nat) : List D × En → Out (Vl × En)
  | (ds, e) => (match e.s.getD i .un with
    | .own (.lst l) => (F f ds l).bind (K_den_callw_3 i e)
    | .well => (F f ds e.w).bind (K_den_callw_4 e)
    | _ => .bad)
def K_den_callw_1 (F : Fns) (G : Gv) (f : Nat) (i : Nat) (es : Exs) (e : En) : D → Out (Vl × En)
  | z1 => (dens F G es e).bind (K_den_callw_2 F f i)
def K_den_callv_2 (e : En) : Vl × List D → Out (Vl × En)
  | (v, z1) => .ok (v, e)
def K_den_callv_1 (F : Fns) (f : Nat) : List D × En → Out (Vl × En)
  | (ds, e) => (F f ds []).bind (K_den_callv_2 e)
def K_den_blt_3 (e : En) : Vl → Out (Vl × En)
  | v => .ok (v, e)
def K_den_blt_2 (b : Bl) (e : En) : List D → Out (Vl × En)
  | ds => (Out.of (bltop b ds)).bind (K_den_blt_3 e)
def K_den_blt_1 (b : Bl) (es : Exs) : List D × En → Out (Vl × En)
  | (ds, e) => (fins es ds e).bind (K_den_blt_2 b e)
def K_den_isi_3 (e : En) : Bool → Out (Vl × En)
  | b => .ok (.fro (.bl b), e)
def K_den_isi_2 (t : Ty) (e : En) : D → Out (Vl × En)
  | x => (Out.of (isT t x)).bind (K_den_isi_3 e)
def K_den_isi_1 (t : Ty) (a : Ex) : D × En → Out (Vl × En)
  | (oa, e) => (fin a oa e).bind (K_den_isi_2 t e)
def K_den_sub_5 (e : En) : D → Out (Vl × En)
  | v => .ok (.fro v, e)
def K_den_sub_4 (e : En) (x : D) : D → Out (Vl × En)
  | y => (Out.of (subD x y)).bind (K_den_sub_5 e)
def K_den_sub_3 (i : Ex) (e : En) (oi : D) : D → Out (Vl × En)
  | x => (fin i oi e).bind (K_den_sub_4 e x)
def K_den_sub_2 (a : Ex) (i : Ex) (oa : D) : D × En → Out (Vl × En)
  | (oi, e) => (fin a oa e).bind (K_den_sub_3 i e oi)
def K_den_sub_1 (F : Fns) (G : Gv) (a : Ex) (i : Ex) : D × En → Out (Vl × En)
  | (oa, e) => (opO i (den F G i) e).bind (K_den_sub_2 a i oa)
def K_den_slice_7 (e : En) : Vl → Out (Vl × En)
  | v => .ok (v, e)
def K_den_slice_6 (e : En) (l : Option Int) (h : Option Int) : D → Out (Vl × En)
  | x => (Out.of (sliceD x l h)).bind (K_den_slice_7 e)
def K_den_slice_5 (a : Ex) (e : En) (oa : D) (l : Option Int) : Option Int → Out (Vl × En)
  | h => (fin a oa e).bind (K_den_slice_6 e l h)
def K_den_slice_4 (a : Ex) (oa : D) (l : Option Int) : Option D × En → Out (Vl × En)
  | (h, e) => (Out.of (optI h)).bind (K_den_slice_5 a e oa l)
def K_den_slice_3 (F : Fns) (G : Gv) (a : Ex) (hi : Eo) (e : En) (oa : D) : Option Int → Out (Vl × En)
  | l => (deno F G hi e).bind (K_den_slice_4 a oa l)
def K_den_slice_2 (F : Fns) (G : Gv) (a : Ex) (hi : Eo) (oa : D) : Option D × En → Out (Vl × En)
  | (l, e) => (Out.of (optI l)).bind (K_den_slice_3 F G a hi e oa)
def K_den_slice_1 (F : Fns) (G : Gv) (a : Ex) (lo : Eo) (hi : Eo) : D × En → Out (Vl × En)
  | (oa, e) => (deno F G lo e).bind (K_den_slice_2 F G a hi oa)
def K_den_rev_2 (e : En) : D → Out (Vl × En)
  | x => (match x with
    | .lst l => .ok (.own (.lst l.reverse), e)
    | .tup l => .ok (.fro (.tup l.reverse), e)
    | _ => .bad)
def K_den_rev_1 (a : Ex) : D × En → Out (Vl × En)
  | (oa, e) => (fin a oa e).bind (K_den_rev_2 e)
def K_den_revb_2 (e : En) : D → Out (Vl × En)
  | x => (match x with
    | .tup l => .ok (.fro (.tup (l.take (l.length - 1)).reverse), e)
    | _ => .bad)
def K_den_revb_1 (a : Ex) : D × En → Out (Vl × En)
  | (oa, e) => (fin a oa e).bind (K_den_revb_2 e)
def K_den_lc_2 (own : List Nat) (e : En) : List D × En → Out (Vl × En)
  | (r, e2) => if r.length ≤ lim then .ok (.own (.lst r), { e2 with s := backS own e.s e2.s }) else .bad
def K_den_lc_5  : Vl × En → Out (List D × En)
  | (v, e) => .ok ([v.d], e)
def K_den_lc_4 (F : Fns) (G : Gv) (elt : Ex) : Bool × En → Out (List D × En)
  | (b, e) => if b then (den F G elt e).bind K_den_lc_5 else .ok ([], e)
def K_den_lc_3 (F : Fns) (G : Gv) (elt : Ex) (c : Eo) : En → Out (List D × En)
  | e => (denC F G c e).bind (K_den_lc_4 F G elt)
def K_den_lc_1 (F : Fns) (G : Gv) (elt : Ex) (own : List Nat) (tg : Tg) (c : Eo) : List D × En → Out (Vl × En)
  | (ds, e) => if hidS own e.s then (noexc (lcL own tg (K_den_lc_3 F G elt c) ds { e with s := wipeS own e.s })).bind (K_den_lc_2 own e) else .bad
def K_den_lc2_2 (own : List Nat) (e : En) : List D × En → Out (Vl × En)
  | (r, e2) => if r.length ≤ lim then .ok (.own (.lst r), { e2 with s := backS own e.s e2.s }) else .bad
def K_den_lc2_8  : Vl × En → Out (List D × En)
  | (v, e) => .ok ([v.d], e)
def K_den_lc2_7 (F : Fns) (G : Gv) (elt : Ex) : Bool × En → Out (List D × En)
  | (b, e) => if b then (den F G elt e).bind K_den_lc2_8 else .ok ([], e)
def K_den_lc2_6 (F : Fns) (G : Gv) (elt : Ex) (c1 : Eo) : En → Out (List D × En)
  | e => (denC F G c1 e).bind (K_den_lc2_7 F G elt)
def K_den_lc2_5 (F : Fns) (G : Gv) (elt : Ex) (own1 : List Nat) (tg1 : Tg) (c1 : Eo) : List D × En → Out (List D × En)
  | (ds1, e) => lcL own1 tg1 (K_den_lc2_6 F G elt c1) ds1 { e with s := wipeS own1 e.s }
def K_den_lc2_4 (F : Fns) (G : Gv) (elt : Ex) (own1 : List Nat) (tg1 : Tg) (it1 : It) (c1 : Eo) : Bool × En → Out (List D × En)
  | (b, e) => if b then (denI F G it1 e).bind (K_den_lc2_5 F G elt own1 tg1 c1) else .ok ([], e)
def K_den_lc2_3 (F : Fns) (G : Gv) (elt : Ex) (own1 : List Nat) (c : Eo) (tg1 : Tg) (it1 : It) (c1 : Eo) : En → Out (List D × En)
  | e => (denC F G c e).bind (K_den_lc2_4 F G elt own1 tg1 it1 c1)
def K_den_lc2_1 (F : Fns) (G : Gv) (elt : Ex) (own : List Nat) (own1 : List Nat) (tg : Tg) (c : Eo) (tg1 : Tg) (it1 : It) (c1 : Eo) : List D × En → Out (Vl × En)
  | (ds, e) => if hidS own e.s then (noexc (lcL own tg (K_den_lc2_3 F G elt own1 c tg1 it1 c1) ds { e with s := wipeS own e.s })).bind (K_den_lc2_2 own e) else .bad
def K_den_dc_3 (own : List Nat) (e : En) (e2 : En) : List (Key × D) → Out (Vl × En)
  | kvs => .ok (.own (.dk kvs), { e2 with s := backS own e.s e2.s })
def K_den_dc_2 (own : List Nat) (e : En) : List D × En → Out (Vl × En)
  | (r, e2) => if r.length ≤ lim then (Out.of (dcD r [])).bind (K_den_dc_3 own e e2) else .bad
def K_den_dc_6 (a : Vl) : Vl × En → Out (List D × En)
  | (b, e) => .ok ([a.d, b.d], e)
def K_den_dc_5 (F : Fns) (G : Gv) (v : Ex) : Vl × En → Out (List D × En)
  | (a, e) => (den F G v e).bind (K_den_dc_6 a)
def K_den_dc_4 (F : Fns) (G : Gv) (k : Ex) (v : Ex) : En → Out (List D × En)
  | e => (den F G k e).bind (K_den_dc_5 F G v)
def K_den_dc_1 (F : Fns) (G : Gv) (k : Ex) (v : Ex) (own : List Nat) (tg : Tg) : List D × En → Out (Vl × En)
  | (ds, e) => if hidS own e.s then (noexc (lcL own tg (K_den_dc_4 F G k v) ds { e with s := wipeS own e.s })).bind (K_den_dc_2 own e) else .bad
def K_den_meth_5 (e : En) : Vl → Out (Vl × En)
  | v => .ok (v, e)
def K_den_meth_4 (m : Mt) (e : En) (x : D) : List D → Out (Vl × En)
  | ds => (Out.of (methop m x ds)).bind (K_den_meth_5 e)
def K_den_meth_3 (m : Mt) (es : Exs) (e : En) (ds : List D) : D → Out (Vl × En)
  | x => (fins es ds e).bind (K_den_meth_4 m e x)
def K_den_meth_2 (m : Mt) (o : Ex) (es : Exs) (oo : D) : List D × En → Out (Vl × En)
  | (ds, e) => (fin o oo e).bind (K_den_meth_3 m es e ds)
def K_den_meth_1 (F : Fns) (G : Gv) (m : Mt) (o : Ex) (es : Exs) : D × En → Out (Vl × En)
  | (oo, e) => (densO F G es e).bind (K_den_meth_2 m o es oo)
def K_den_sumv_3 (e : En) : List Int → Out (Vl × En)
  | ns => .ok (.fro (.int ns.sum), e)
def K_den_sumv_2 (e : En) : D → Out (Vl × En)
  | x => (match x with
    | .dk l => (Out.of (intsD (l.map (·.2)))).bind (K_den_sumv_3 e)
    | _ => .bad)
def K_den_sumv_1 (a : Ex) : D × En → Out (Vl × En)
  | (oa, e) => (fin a oa e).bind (K_den_sumv_2 e)
def K_den_lci_3 (own : List Nat) (e : En) : List D × En → Out (Vl × En)
  | (r, e2) => if r.length ≤ lim then .ok (.own (.lst r), { e2 with s := backS own e.s e2.s }) else .bad
def K_den_lci_6  : Vl × En → Out (List D × En)
  | (v, e) => .ok ([v.d], e)
def K_den_lci_5 (F : Fns) (G : Gv) (elt : Ex) : Bool × En → Out (List D × En)
  | (b, e) => if b then (den F G elt e).bind K_den_lci_6 else .ok ([], e)
def K_den_lci_4 (F : Fns) (G : Gv) (elt : Ex) (c : Eo) : En → Out (List D × En)
  | e => (denC F G c e).bind (K_den_lci_5 F G elt)
def K_den_lci_2 (F : Fns) (G : Gv) (elt : Ex) (own : List Nat) (tg : Tg) (c : Eo) (e : En) : List D → Out (Vl × En)
  | ds => if hidS own e.s then (noexc (lcL own tg (K_den_lci_4 F G elt c) ds { e with s := wipeS own e.s })).bind (K_den_lci_3 own e) else .bad
def K_den_lci_1 (F : Fns) (G : Gv) (elt : Ex) (own : List Nat) (tg : Tg) (kd : Bool) (c : Eo) : Vl × En → Out (Vl × En)
  | (v, e) => (Out.of (if kd then itemsD v.d else keysOf v.d)).bind (K_den_lci_2 F G elt own tg c e)
def K_den_sset_4 (e : En) : List Int → Out (Vl × En)
  | ns => if ns.length < 64 then .ok (.own (.lst ((ssetI ns).map .int)), e) else .bad
def K_den_sset_3 (e : En) : List D → Out (Vl × En)
  | l => (Out.of (intsD l)).bind (K_den_sset_4 e)
def K_den_sset_2 (e : En) : D → Out (Vl × En)
  | x => (Out.of (iterD x)).bind (K_den_sset_3 e)
def K_den_sset_1 (a : Ex) : D × En → Out (Vl × En)
  | (oa, e) => (fin a oa e).bind (K_den_sset_2 e)
def K_den_lset_3 (e : En) : Nat → Out (Vl × En)
  | n => .ok (.fro (.int n), e)
def K_den_lset_2 (e : En) : D → Out (Vl × En)
  | x => (Out.of (lsetD x)).bind (K_den_lset_3 e)
def K_den_lset_1 (a : Ex) : D × En → Out (Vl × En)
  | (oa, e) => (fin a oa e).bind (K_den_lset_2 e)
def K_den_tupr_4 (e : En) : List D → Out (Vl × En)
  | l => .ok (.fro (.tup l), e)
def K_den_tupr_3 (e : En) : Int → Out (Vl × En)
  | n => (Out.of (rangeD 0 n)).bind (K_den_tupr_4 e)
def K_den_tupr_2 (e : En) : D → Out (Vl × En)
  | x => (Out.of (intD x)).bind (K_den_tupr_3 e)
def K_den_tupr_1 (a : Ex) : D × En → Out (Vl × En)
  | (oa, e) => (fin a oa e).bind (K_den_tupr_2 e)
def K_dens_cons_2 (v : Vl) : List D × En → Out (List D × En)
  | (ds, e) => .ok (v.d :: ds, e)
def K_dens_cons_1 (F : Fns) (G : Gv) (r : Exs) : Vl × En → Out (List D × En)
  | (v, e) => (dens F G r e).bind (K_dens_cons_2 v)
def K_densO_cons_2 (d : D) : List D × En → Out (List D × En)
  | (ds, e) => .ok (d :: ds, e)
def K_densO_cons_1 (F : Fns) (G : Gv) (r : Exs) : D × En → Out (List D × En)
  | (d, e) => (densO F G r e).bind (K_densO_cons_2 d)
def K_deno_some_1  : Vl × En → Out (Option D × En)
  | (v, e) => .ok (some v.d, e)
def K_denC_some_2 (e : En) : Bool → Out (Bool × En)
  | b => .ok (b, e)
def K_denC_some_1  : Vl × En → Out (Bool × En)
  | (v, e) => (Out.of (blD v.d)).bind (K_denC_some_2 e)
def K_denI_seq_2 (e : En) : List D → Out (List D × En)
  | l => .ok (l, e)
def K_denI_seq_1  : Vl × En → Out (List D × En)
  | (v, e) => (Out.of (iterD v.d)).bind (K_denI_seq_2 e)
def K_denI_range1_3 (e : En) : List D → Out (List D × En)
  | l => .ok (l, e)
def K_denI_range1_2 (e : En) : Int → Out (List D × En)
  | n => (Out.of (rangeD 0 n)).bind (K_denI_range1_3 e)
def K_denI_range1_1  : Vl × En → Out (List D × En)
  | (v, e) => (Out.of (intD v.d)).bind (K_denI_range1_2 e)
def K_denI_range2_5 (e : En) : List D → Out (List D × En)
  | l => .ok (l, e)
def K_denI_range2_4 (e : En) (m : Int) : Int → Out (List D × En)
  | n => (Out.of (rangeD m n)).bind (K_denI_range2_5 e)
def K_denI_range2_3 (e : En) (u : Vl) : Int → Out (List D × En)
  | m => (Out.of (intD u.d)).bind (K_denI_range2_4 e m)
def K_denI_range2_2 (v : Vl) : Vl × En → Out (List D × En)
  | (u, e) => (Out.of (intD v.d)).bind (K_denI_range2_3 e u)
def K_denI_range2_1 (F : Fns) (G : Gv) (b : Ex) : Vl × En → Out (List D × En)
  | (v, e) => (den F G b e).bind (K_denI_range2_2 v)
def K_denI_range3_5 (e : En) : List D → Out (List D × En)
  | l => .ok (l, e)
def K_denI_range3_4 (c : Int) (e : En) (m : Int) : Int → Out (List D × En)
  | n => (Out.of (rangeC m n c)).bind (K_denI_range3_5 e)
def K_denI_range3_3 (c : Int) (e : En) (u : Vl) : Int → Out (List D × En)
  | m => (Out.of (intD u.d)).bind (K_denI_range3_4 c e m)
def K_denI_range3_2 (c : Int) (v : Vl) : Vl × En → Out (List D × En)
  | (u, e) => (Out.of (intD v.d)).bind (K_denI_range3_3 c e u)
def K_denI_range3_1 (F : Fns) (G : Gv) (b : Ex) (c : Int) : Vl × En → Out (List D × En)
  | (v, e) => (den F G b e).bind (K_denI_range3_2 c v)
def K_denI_zip_4 (e : En) (l : List D) : List D → Out (List D × En)
  | m => .ok (List.zipWith (λ x y => .tup [x, y]) l m, e)
def K_denI_zip_3 (e : En) (u : Vl) : List D → Out (List D × En)
  | l => (Out.of (iterD u.d)).bind (K_denI_zip_4 e l)
def K_denI_zip_2 (v : Vl) : Vl × En → Out (List D × En)
  | (u, e) => (Out.of (iterD v.d)).bind (K_denI_zip_3 e u)
def K_denI_zip_1 (F : Fns) (G : Gv) (b : Ex) : Vl × En → Out (List D × En)
  | (v, e) => (den F G b e).bind (K_denI_zip_2 v)
def K_denI_zip3_6 (e : En) (l : List D) (m : List D) : List D → Out (List D × En)
  | n => .ok (List.zipWith (λ x p => .tup [x, p.1, p.2]) l (List.zip m n), e)
def K_denI_zip3_5 (e : En) (w : Vl) (l : List D) : List D → Out (List D × En)
  | m => (Out.of (iterD w.d)).bind (K_denI_zip3_6 e l m)
def K_denI_zip3_4 (e : En) (u : Vl) (w : Vl) : List D → Out (List D × En)
  | l => (Out.of (iterD u.d)).bind (K_denI_zip3_5 e w l)
def K_denI_zip3_3 (v : Vl) (u : Vl) : Vl × En → Out (List D × En)
  | (w, e) => (Out.of (iterD v.d)).bind (K_denI_zip3_4 e u w)
def K_denI_zip3_2 (F : Fns) (G : Gv) (c : Ex) (v : Vl) : Vl × En → Out (List D × En)
  | (u, e) => (den F G c e).bind (K_denI_zip3_3 v u)
def K_denI_zip3_1 (F : Fns) (G : Gv) (b : Ex) (c : Ex) : Vl × En → Out (List D × En)
  | (v, e) => (den F G b e).bind (K_denI_zip3_2 F G c v)
def K_denI_enum_2 (e : En) : List D → Out (List D × En)
  | l => .ok (l.zipIdx.map (λ p => .tup [.int (p.2 : Nat), p.1]), e)
def K_denI_enum_1  : Vl × En → Out (List D × En)
  | (v, e) => (Out.of (iterD v.d)).bind (K_denI_enum_2 e)
def K_denI_items_2 (e : En) : List D → Out (List D × En)
  | l => .ok (l, e)
def K_denI_items_1  : Vl × En → Out (List D × En)
  | (v, e) => (Out.of (itemsD v.d)).bind (K_denI_items_2 e)
def K_denI_keys_2 (e : En) : List D → Out (List D × En)
  | l => .ok (l, e)
def K_denI_keys_1  : Vl × En → Out (List D × En)
  | (v, e) => (Out.of (keysOf v.d)).bind (K_denI_keys_2 e)
def K_exec_set_2  : En → Out (Fl × En)
  | e => .ok (.nx, e)
def K_exec_set_1 (i : Nat) : Vl × En → Out (Fl × En)
  | (v, e) => (e.st i v).bind K_exec_set_2
def K_exec_setT_2 (e : En) : List Sl → Out (Fl × En)
  | s => .ok (.nx, { e with s := s })
def K_exec_setT_1 (tg : Tg) : Vl × En → Out (Fl × En)
  | (v, e) => (Out.of (asgT tg v.d e.s)).bind (K_exec_setT_2 e)
def K_exec_par_4  : En → Out (Fl × En)
  | e => .ok (.nx, e)
def K_exec_par_3 (j : Nat) (y : Vl) : En → Out (Fl × En)
  | e => (e.st j (.fro y.d)).bind K_exec_par_4
def K_exec_par_2 (i : Nat) (j : Nat) (x : Vl) : Vl × En → Out (Fl × En)
  | (y, e) => (e.st i (.fro x.d)).bind (K_exec_par_3 j y)
def K_exec_par_1 (F : Fns) (G : Gv) (i : Nat) (j : Nat) (b : Ex) : Vl × En → Out (Fl × En)
  | (x, e) => (den F G b e).bind (K_exec_par_2 i j x)
def K_exec_par3_6  : En → Out (Fl × En)
  | e => .ok (.nx, e)
def K_exec_par3_5 (k : Nat) (z : Vl) : En → Out (Fl × En)
  | e => (e.st k (.fro z.d)).bind K_exec_par3_6
def K_exec_par3_4 (j : Nat) (k : Nat) (y : Vl) (z : Vl) : En → Out (Fl × En)
  | e => (e.st j (.fro y.d)).bind (K_exec_par3_5 k z)
def K_exec_par3_3 (i : Nat) (j : Nat) (k : Nat) (x : Vl) (y : Vl) : Vl × En → Out (Fl × En)
  | (z, e) => (e.st i (.fro x.d)).bind (K_exec_par3_4 j k y z)
def K_exec_par3_2 (F : Fns) (G : Gv) (i : Nat) (j : Nat) (k : Nat) (c : Ex) (x : Vl) : Vl × En → Out (Fl × En)
  | (y, e) => (den F G c e).bind (K_exec_par3_3 i j k x y)
def K_exec_par3_1 (F : Fns) (G : Gv) (i : Nat) (j : Nat) (k : Nat) (b : Ex) (c : Ex) : Vl × En → Out (Fl × En)
  | (x, e) => (den F G b e).bind (K_exec_par3_2 F G i j k c x)
def K_exec_store_4 (i : Nat) (e : En) : D → Out (Fl × En)
  | d => .ok (.nx, { e with s := e.s.set i (.own d) })
def K_exec_store_5 (e : En) : D → Out (Fl × En)
  | d => (match d with
    | .lst l => .ok (.nx, { e with w := l })
    | _ => .bad)
def K_exec_store_3 (i : Nat) (v : Vl) : Vl × En → Out (Fl × En)
  | (k, e) => (match e.s.getD i .un with
    | .own d => (Out.of (storeD d k.d v.d)).bind (K_exec_store_4 i e)
    | .well => (Out.of (storeD (.lst e.w) k.d v.d)).bind (K_exec_store_5 e)
    | _ => .bad)
def K_exec_store_2 (F : Fns) (G : Gv) (i : Nat) (ix : Ex) (e : En) (v : Vl) : D → Out (Fl × En)
  | z1 => (den F G ix e).bind (K_exec_store_3 i v)
def K_exec_store_1 (F : Fns) (G : Gv) (i : Nat) (ix : Ex) : Vl × En → Out (Fl × En)
  | (v, e) => (e.pk i).bind (K_exec_store_2 F G i ix e v)
def K_exec_putd_4 (i : Nat) (e : En) : D → Out (Fl × En)
  | d => .ok (.nx, { e with s := e.s.set i (.own d) })
def K_exec_putd_3 (i : Nat) (v : Vl) : Vl × En → Out (Fl × En)
  | (k, e) => (match e.s.getD i .un with
    | .own d => (Out.of (putD d k.d v.d)).bind (K_exec_putd_4 i e)
    | _ => .bad)
def K_exec_putd_2 (F : Fns) (G : Gv) (i : Nat) (ix : Ex) (e : En) (v : Vl) : D → Out (Fl × En)
  | z1 => (den F G ix e).bind (K_exec_putd_3 i v)
def K_exec_putd_1 (F : Fns) (G : Gv) (i : Nat) (ix : Ex) : Vl × En → Out (Fl × En)
  | (v, e) => (e.pk i).bind (K_exec_putd_2 F G i ix e v)
def K_exec_fori_2 (F : Fns) (G : Gv) (tg : Tg) (b : Sms) (e : En) : List D → Out (Fl × En)
  | ds => noexc (forL tg (execs F G b) ds e)
def K_exec_fori_1 (F : Fns) (G : Gv) (tg : Tg) (b : Sms) : Vl × En → Out (Fl × En)
  | (v, e) => (Out.of (itemsD v.d)).bind (K_exec_fori_2 F G tg b e)
def K_exec_append_2 (i : Nat) : Vl × En → Out (Fl × En)
  | (v, e) => (match e.s.getD i .un with
    | .own (.lst l) => if l.length < lim then .ok (.nx, { e with s := e.s.set i (.own (.lst (l ++ [v.d]))) }) else .bad
    | _ => .bad)
def K_exec_append_1 (F : Fns) (G : Gv) (i : Nat) (x : Ex) (e : En) : D → Out (Fl × En)
  | d0 => (match d0 with
    | .lst _ => (den F G x e).bind (K_exec_append_2 i)
    | _ => .bad)
def K_exec_extend_2 (i : Nat) : Vl × En → Out (Fl × En)
  | (v, e) => (match e.s.getD i .un, v.d with
    | .own (.lst l), .lst m => if l.length + m.length ≤ lim then .ok (.nx, { e with s := e.s.set i (.own (.lst (l ++ m))) }) else .bad
    | _, _ => .bad)
def K_exec_extend_1 (F : Fns) (G : Gv) (i : Nat) (x : Ex) (e : En) : D → Out (Fl × En)
  | d0 => (match d0 with
    | .lst _ => (den F G x e).bind (K_exec_extend_2 i)
    | _ => .bad)
def K_exec_expr_1  : Vl × En → Out (Fl × En)
  | (z1, e) => .ok (.nx, e)
def K_exec_ite_2 (F : Fns) (G : Gv) (a : Sms) (b : Sms) (e : En) : Bool → Out (Fl × En)
  | c => if c then execs F G a e else execs F G b e
def K_exec_ite_1 (F : Fns) (G : Gv) (a : Sms) (b : Sms) : Vl × En → Out (Fl × En)
  | (v, e) => (Out.of (blD v.d)).bind (K_exec_ite_2 F G a b e)
def K_exec_for__1 (F : Fns) (G : Gv) (tg : Tg) (b : Sms) : List D × En → Out (Fl × En)
  | (ds, e) => forL tg (execs F G b) ds e
def K_exec_while__3 (e : En) : Bool → Out (Bool × En)
  | c => .ok (c, e)
def K_exec_while__2  : Vl × En → Out (Bool × En)
  | (v, e) => (Out.of (blD v.d)).bind (K_exec_while__3 e)
def K_exec_while__1 (F : Fns) (G : Gv) (t : Ex) : En → Out (Bool × En)
  | e => (den F G t e).bind K_exec_while__2
def K_exec_ret_1  : Vl × En → Out (Fl × En)
  | (v, e) => .ok (.rt v, e)
def K_exec_raiseP_1 (c : Nat) : Vl × En → Out (Fl × En)
  | (v, z1) => .exc c v.d
def K_execs_cons_1 (F : Fns) (G : Gv) (r : Sms) : Fl × En → Out (Fl × En)
  | (f, e) => (match f with
    | .nx => execs F G r e
    | .bk => .ok (.bk, e)
    | .rt v => .ok (.rt v, e))
@[simp] theorem den_const (F : Fns) (G : Gv) (d : D) (e : En) : den F G (.const d) e = .ok (.fro d, e) := by rfl
@[simp] theorem den_name (F : Fns) (G : Gv) (i : Nat) (e : En) : den F G (.name i) e = e.rd i := by rfl
@[simp] theorem K_den_glob_1_eq (e : En) (d : D) : K_den_glob_1 e d = .ok (.fro d, e) := by rfl
@[simp] theorem den_glob (F : Fns) (G : Gv) (g : Nat) (e : En) : den F G (.glob g) e = (Out.of (G.glob g)).bind (K_den_glob_1 e) := by rfl
@[simp] theorem K_den_tup_1_eq  (ds : List D) (e : En) : K_den_tup_1  (ds, e) = .ok (.fro (.tup ds), e) := by rfl
@[simp] theorem den_tup (F : Fns) (G : Gv) (es : Exs) (e : En) : den F G (.tup es) e = (dens F G es e).bind K_den_tup_1 := by rfl
@[simp] theorem K_den_lst_1_eq  (ds : List D) (e : En) : K_den_lst_1  (ds, e) = .ok (.own (.lst ds), e) := by rfl
@[simp] theorem den_lst (F : Fns) (G : Gv) (es : Exs) (e : En) : den F G (.lst es) e = (dens F G es e).bind K_den_lst_1 := by rfl
@[simp] theorem den_dict0 (F : Fns) (G : Gv) (tk : Bool) (e : En) : den F G (.dict0 tk) e = .ok (.own (if tk then .dt [] else .dk []), e) := by rfl
@[simp] theorem K_den_dict1_3_eq (e : En) (b : Vl) (q : List Key) : K_den_dict1_3 e b q = .ok (.own (.dt [(q, b.d)]), e) := by rfl
@[simp] theorem K_den_dict1_2_eq (a : Vl) (b : Vl) (e : En) : K_den_dict1_2 a (b, e) = (Out.of (tkeyD a.d)).bind (K_den_dict1_3 e b) := by rfl
@[simp] theorem K_den_dict1_1_eq (F : Fns) (G : Gv) (v : Ex) (a : Vl) (e : En) : K_den_dict1_1 F G v (a, e) = (den F G v e).bind (K_den_dict1_2 a) := by rfl
@[simp] theorem den_dict1 (F : Fns) (G : Gv) (k : Ex) (v : Ex) (e : En) : den F G (.dict1 k v) e = (den F G k e).bind (K_den_dict1_1 F G v) := by rfl
@[simp] theorem K_den_bin_5_eq (e : En) (v : Vl) : K_den_bin_5 e v = .ok (v, e) := by rfl
@[simp] theorem K_den_bin_4_eq (op : BOp) (e : En) (x : D) (y : D) : K_den_bin_4 op e x y = (Out.of (binop op x y)).bind (K_den_bin_5 e) := by rfl
@[simp] theorem K_den_bin_3_eq (op : BOp) (b : Ex) (e : En) (ob : D) (x : D) : K_den_bin_3 op b e ob x = (fin b ob e).bind (K_den_bin_4 op e x) := by rfl
@[simp] theorem K_den_bin_2_eq (op : BOp) (a : Ex) (b : Ex) (oa : D) (ob : D) (e : En) : K_den_bin_2 op a b oa (ob, e) = (fin a oa e).bind (K_den_bin_3 op b e ob) := by rfl
@[simp] theorem K_den_bin_1_eq (F : Fns) (G : Gv) (op : BOp) (a : Ex) (b : Ex) (oa : D) (e : En) : K_den_bin_1 F G op a b (oa, e) = (opO b (den F G b) e).bind (K_den_bin_2 op a b oa) := by rfl
@[simp] theorem den_bin (F : Fns) (G : Gv) (op : BOp) (a : Ex) (b : Ex) (e : En) : den F G (.bin op a b) e = (opO a (den F G a) e).bind (K_den_bin_1 F G op a b) := by rfl
@[simp] theorem K_den_neg_3_eq (e : En) (i : Int) : K_den_neg_3 e i = .ok (.fro (.int (-i)), e) := by rfl
@[simp] theorem K_den_neg_2_eq (e : En) (x : D) : K_den_neg_2 e x = (Out.of (intD x)).bind (K_den_neg_3 e) := by rfl
@[simp] theorem K_den_neg_1_eq (a : Ex) (oa : D) (e : En) : K_den_neg_1 a (oa, e) = (fin a oa e).bind (K_den_neg_2 e) := by rfl
@[simp] theorem den_neg (F : Fns) (G : Gv) (a : Ex) (e : En) : den F G (.neg a) e = (opO a (den F G a) e).bind (K_den_neg_1 a) := by rfl
@[simp] theorem K_den_cmp_5_eq (e : En) (v : Bool) : K_den_cmp_5 e v = .ok (.fro (.bl v), e) := by rfl
@[simp] theorem K_den_cmp_4_eq (op : COp) (e : En) (x : D) (y : D) : K_den_cmp_4 op e x y = (Out.of (cmpop op x y)).bind (K_den_cmp_5 e) := by rfl
@[simp] theorem K_den_cmp_3_eq (op : COp) (b : Ex) (e : En) (ob : D) (x : D) : K_den_cmp_3 op b e ob x = (fin b ob e).bind (K_den_cmp_4 op e x) := by rfl
@[simp] theorem K_den_cmp_2_eq (op : COp) (a : Ex) (b : Ex) (oa : D) (ob : D) (e : En) : K_den_cmp_2 op a b oa (ob, e) = (fin a oa e).bind (K_den_cmp_3 op b e ob) := by rfl
@[simp] theorem K_den_cmp_1_eq (F : Fns) (G : Gv) (op : COp) (a : Ex) (b : Ex) (oa : D) (e : En) : K_den_cmp_1 F G op a b (oa, e) = (opO b (den F G b) e).bind (K_den_cmp_2 op a b oa) := by rfl
@[simp] theorem den_cmp (F : Fns) (G : Gv) (op : COp) (a : Ex) (b : Ex) (e : En) : den F G (.cmp op a b) e = (opO a (den F G a) e).bind (K_den_cmp_1 F G op a b) := by rfl
@[simp] theorem K_den_cmp2_5_eq (e : En) (v : Bool) : K_den_cmp2_5 e v = .ok (.fro (.bl v), e) := by rfl
@[simp] theorem K_den_cmp2_4_eq (q : COp) (y : Vl) (z : Vl) (e : En) : K_den_cmp2_4 q y (z, e) = (Out.of (cmpop q y.d z.d)).bind (K_den_cmp2_5 e) := by rfl
@[simp] theorem K_den_cmp2_3_eq (F : Fns) (G : Gv) (q : COp) (c : Ex) (e : En) (y : Vl) (v : Bool) : K_den_cmp2_3 F G q c e y v = if v then (den F G c e).bind (K_den_cmp2_4 q y) else .ok (.fro (.bl false), e) := by rfl
@[simp] theorem K_den_cmp2_2_eq (F : Fns) (G : Gv) (p : COp) (q : COp) (c : Ex) (x : Vl) (y : Vl) (e : En) : K_den_cmp2_2 F G p q c x (y, e) = (Out.of (cmpop p x.d y.d)).bind (K_den_cmp2_3 F G q c e y) := by rfl
@[simp] theorem K_den_cmp2_1_eq (F : Fns) (G : Gv) (p : COp) (q : COp) (b : Ex) (c : Ex) (x : Vl) (e : En) : K_den_cmp2_1 F G p q b c (x, e) = (den F G b e).bind (K_den_cmp2_2 F G p q c x) := by rfl
@[simp] theorem den_cmp2 (F : Fns) (G : Gv) (p : COp) (q : COp) (a : Ex) (b : Ex) (c : Ex) (e : En) : den F G (.cmp2 p q a b c) e = (den F G a e).bind (K_den_cmp2_1 F G p q b c) := by rfl
@[simp] theorem K_den_and_2_eq (F : Fns) (G : Gv) (b : Ex) (e : En) (c : Bool) : K_den_and_2 F G b e c = if c then den F G b e else .ok (.fro (.bl false), e) := by rfl
@[simp] theorem K_den_and_1_eq (F : Fns) (G : Gv) (b : Ex) (x : Vl) (e : En) : K_den_and_1 F G b (x, e) = (Out.of (blD x.d)).bind (K_den_and_2 F G b e) := by rfl
@[simp] theorem den_and (F : Fns) (G : Gv) (a : Ex) (b : Ex) (e : En) : den F G (.and a b) e = (den F G a e).bind (K_den_and_1 F G b) := by rfl
@[simp] theorem K_den_or_2_eq (F : Fns) (G : Gv) (b : Ex) (e : En) (c : Bool) : K_den_or_2 F G b e c = if c then .ok (.fro (.bl true), e) else den F G b e := by rfl
@[simp] theorem K_den_or_1_eq (F : Fns) (G : Gv) (b : Ex) (x : Vl) (e : En) : K_den_or_1 F G b (x, e) = (Out.of (blD x.d)).bind (K_den_or_2 F G b e) := by rfl
@[simp] theorem den_or (F : Fns) (G : Gv) (a : Ex) (b : Ex) (e : En) : den F G (.or a b) e = (den F G a e).bind (K_den_or_1 F G b) := by rfl
@[simp] theorem K_den_not_2_eq (e : En) (c : Bool) : K_den_not_2 e c = .ok (.fro (.bl (!c)), e) := by rfl
@[simp] theorem K_den_not_1_eq  (x : Vl) (e : En) : K_den_not_1  (x, e) = (Out.of (blD x.d)).bind (K_den_not_2 e) := by rfl
@[simp] theorem den_not (F : Fns) (G : Gv) (a : Ex) (e : En) : den F G (.not a) e = (den F G a e).bind K_den_not_1 := by rfl
@[simp] theorem K_den_ite_2_eq (F : Fns) (G : Gv) (a : Ex) (b : Ex) (e : En) (c : Bool) : K_den_ite_2 F G a b e c = if c then den F G a e else den F G b e := by rfl
@[simp] theorem K_den_ite_1_eq (F : Fns) (G : Gv) (a : Ex) (b : Ex) (x : Vl) (e : En) : K_den_ite_1 F G a b (x, e) = (Out.of (blD x.d)).bind (K_den_ite_2 F G a b e) := by rfl
@[simp] theorem den_ite (F : Fns) (G : Gv) (t : Ex) (a : Ex) (b : Ex) (e : En) : den F G (.ite t a b) e = (den F G t e).bind (K_den_ite_1 F G a b) := by rfl
@[simp] theorem K_den_call_2_eq (e : En) (v : Vl) (z1 : List D) : K_den_call_2 e (v, z1) = .ok (v, e) := by rfl
@[simp] theorem K_den_call_1_eq (F : Fns) (f : Nat) (ds : List D) (e : En) : K_den_call_1 F f (ds, e) = (F f ds []).bind (K_den_call_2 e) := by rfl
@[simp] theorem den_call (F : Fns) (G : Gv) (f : Nat) (es : Exs) (e : En) : den F G (.call f es) e = (dens F G es e).bind (K_den_call_1 F f) := by rfl
@[simp] theorem K_den_callw_3_eq (i : Nat) (e : En) (v : Vl) (l' : List D) : K_den_callw_3 i e (v, l') = .ok (v, { e with s := e.s.set i (.own (.lst l')) }) := by rfl
@[simp] theorem K_den_callw_4_eq (e : En) (v : Vl) (l' : List D) : K_den_callw_4 e (v, l') = .ok (v, { e with w := l' }) := by rfl
@[simp] theorem K_den_callw_2_eq (F : Fns) (f : Nat) (i : Nat) (ds : List D) (e : En) : K_den_callw_2 F f i (ds, e) = (match e.s.getD i .un with
    | .own (.lst l) => (F f ds l).bind (K_den_callw_3 i e)
    | .well => (F f ds e.w).bind (K_den_callw_4 e)
    | _ => .bad) := by rfl
@[simp] theorem K_den_callw_1_eq (F : Fns) (G : Gv) (f : Nat) (i : Nat) (es : Exs) (e : En) (z1 : D) : K_den_callw_1 F G f i es e z1 = (dens F G es e).bind (K_den_callw_2 F f i) := by rfl
@[simp] theorem den_callw (F : Fns) (G : Gv) (f : Nat) (i : Nat) (es : Exs) (e : En) : den F G (.callw f i es) e = (e.pk i).bind (K_den_callw_1 F G f i es e) := by rfl
@[simp] theorem K_den_callv_2_eq (e : En) (v : Vl) (z1 : List D) : K_den_callv_2 e (v, z1) = .ok (v, e) := by rfl
@[simp] theorem K_den_callv_1_eq (F : Fns) (f : Nat) (ds : List D) (e : En) : K_den_callv_1 F f (ds, e) = (F f ds []).bind (K_den_callv_2 e) := by rfl
@[simp] theorem den_callv (F : Fns) (G : Gv) (i : Nat) (es : Exs) (e : En) : den F G (.callv i es) e = (match e.s.getD i .un with
    | .fro (.fn f) => if G.cv f then (dens F G es e).bind (K_den_callv_1 F f) else .bad
    | _ => .bad) := by rfl
@[simp] theorem K_den_blt_3_eq (e : En) (v : Vl) : K_den_blt_3 e v = .ok (v, e) := by rfl
@[simp] theorem K_den_blt_2_eq (b : Bl) (e : En) (ds : List D) : K_den_blt_2 b e ds = (Out.of (bltop b ds)).bind (K_den_blt_3 e) := by rfl
@[simp] theorem K_den_blt_1_eq (b : Bl) (es : Exs) (ds : List D) (e : En) : K_den_blt_1 b es (ds, e) = (fins es ds e).bind (K_den_blt_2 b e) := by rfl
@[simp] theorem den_blt (F : Fns) (G : Gv) (b : Bl) (es : Exs) (e : En) : den F G (.blt b es) e = (densO F G es e).bind (K_den_blt_1 b es) := by rfl
@[simp] theorem K_den_isi_3_eq (e : En) (b : Bool) : K_den_isi_3 e b = .ok (.fro (.bl b), e) := by rfl
@[simp] theorem K_den_isi_2_eq (t : Ty) (e : En) (x : D) : K_den_isi_2 t e x = (Out.of (isT t x)).bind (K_den_isi_3 e) := by rfl
@[simp] theorem K_den_isi_1_eq (t : Ty) (a : Ex) (oa : D) (e : En) : K_den_isi_1 t a (oa, e) = (fin a oa e).bind (K_den_isi_2 t e) := by rfl
@[simp] theorem den_isi (F : Fns) (G : Gv) (t : Ty) (a : Ex) (e : En) : den F G (.isi t a) e = (opO a (den F G a) e).bind (K_den_isi_1 t a) := by rfl
@[simp] theorem K_den_sub_5_eq (e : En) (v : D) : K_den_sub_5 e v = .ok (.fro v, e) := by rfl
@[simp] theorem K_den_sub_4_eq (e : En) (x : D) (y : D) : K_den_sub_4 e x y = (Out.of (subD x y)).bind (K_den_sub_5 e) := by rfl
@[simp] theorem K_den_sub_3_eq (i : Ex) (e : En) (oi : D) (x : D) : K_den_sub_3 i e oi x = (fin i oi e).bind (K_den_sub_4 e x) := by rfl
@[simp] theorem K_den_sub_2_eq (a : Ex) (i : Ex) (oa : D) (oi : D) (e : En) : K_den_sub_2 a i oa (oi, e) = (fin a oa e).bind (K_den_sub_3 i e oi) := by rfl
@[simp] theorem K_den_sub_1_eq (F : Fns) (G : Gv) (a : Ex) (i : Ex) (oa : D) (e : En) : K_den_sub_1 F G a i (oa, e) = (opO i (den F G i) e).bind (K_den_sub_2 a i oa) := by rfl
@[simp] theorem den_sub (F : Fns) (G : Gv) (a : Ex) (i : Ex) (e : En) : den F G (.sub a i) e = (opO a (den F G a) e).bind (K_den_sub_1 F G a i) := by rfl
@[simp] theorem K_den_slice_7_eq (e : En) (v : Vl) : K_den_slice_7 e v = .ok (v, e) := by rfl
@[simp] theorem K_den_slice_6_eq (e : En) (l : Option Int) (h : Option Int) (x : D) : K_den_slice_6 e l h x = (Out.of (sliceD x l h)).bind (K_den_slice_7 e) := by rfl
@[simp] theorem K_den_slice_5_eq (a : Ex) (e : En) (oa : D) (l : Option Int) (h : Option Int) : K_den_slice_5 a e oa l h = (fin a oa e).bind (K_den_slice_6 e l h) := by rfl
@[simp] theorem K_den_slice_4_eq (a : Ex) (oa : D) (l : Option Int) (h : Option D) (e : En) : K_den_slice_4 a oa l (h, e) = (Out.of (optI h)).bind (K_den_slice_5 a e oa l) := by rfl
@[simp] theorem K_den_slice_3_eq (F : Fns) (G : Gv) (a : Ex) (hi : Eo) (e : En) (oa : D) (l : Option Int) : K_den_slice_3 F G a hi e oa l = (deno F G hi e).bind (K_den_slice_4 a oa l) := by rfl
@[simp] theorem K_den_slice_2_eq (F : Fns) (G : Gv) (a : Ex) (hi : Eo) (oa : D) (l : Option D) (e : En) : K_den_slice_2 F G a hi oa (l, e) = (Out.of (optI l)).bind (K_den_slice_3 F G a hi e oa) := by rfl
@[simp] theorem K_den_slice_1_eq (F : Fns) (G : Gv) (a : Ex) (lo : Eo) (hi : Eo) (oa : D) (e : En) : K_den_slice_1 F G a lo hi (oa, e) = (deno F G lo e).bind (K_den_slice_2 F G a hi oa) := by rfl
@[simp] theorem den_slice (F : Fns) (G : Gv) (a : Ex) (lo : Eo) (hi : Eo) (e : En) : den F G (.slice a lo hi) e = (opO a (den F G a) e).bind (K_den_slice_1 F G a lo hi) := by rfl
@[simp] theorem K_den_rev_2_eq (e : En) (x : D) : K_den_rev_2 e x = (match x with
    | .lst l => .ok (.own (.lst l.reverse), e)
    | .tup l => .ok (.fro (.tup l.reverse), e)
    | _ => .bad) := by rfl
@[simp] theorem K_den_rev_1_eq (a : Ex) (oa : D) (e : En) : K_den_rev_1 a (oa, e) = (fin a oa e).bind (K_den_rev_2 e) := by rfl
@[simp] theorem den_rev (F : Fns) (G : Gv) (a : Ex) (e : En) : den F G (.rev a) e = (opO a (den F G a) e).bind (K_den_rev_1 a) := by rfl
@[simp] theorem K_den_revb_2_eq (e : En) (x : D) : K_den_revb_2 e x = (match x with
    | .tup l => .ok (.fro (.tup (l.take (l.length - 1)).reverse), e)
    | _ => .bad) := by rfl
@[simp] theorem K_den_revb_1_eq (a : Ex) (oa : D) (e : En) : K_den_revb_1 a (oa, e) = (fin a oa e).bind (K_den_revb_2 e) := by rfl
@[simp] theorem den_revb (F : Fns) (G : Gv) (a : Ex) (e : En) : den F G (.revb a) e = (opO a (den F G a) e).bind (K_den_revb_1 a) := by rfl
@[simp] theorem K_den_lc_2_eq (own : List Nat) (e : En) (r : List D) (e2 : En) : K_den_lc_2 own e (r, e2) = if r.length ≤ lim then .ok (.own (.lst r), { e2 with s := backS own e.s e2.s }) else .bad := by rfl
@[simp] theorem K_den_lc_5_eq  (v : Vl) (e : En) : K_den_lc_5  (v, e) = .ok ([v.d], e) := by rfl
@[simp] theorem K_den_lc_4_eq (F : Fns) (G : Gv) (elt : Ex) (b : Bool) (e : En) : K_den_lc_4 F G elt (b, e) = if b then (den F G elt e).bind K_den_lc_5 else .ok ([], e) := by rfl
@[simp] theorem K_den_lc_3_eq (F : Fns) (G : Gv) (elt : Ex) (c : Eo) (e : En) : K_den_lc_3 F G elt c e = (denC F G c e).bind (K_den_lc_4 F G elt) := by rfl
@[simp] theorem K_den_lc_1_eq (F : Fns) (G : Gv) (elt : Ex) (own : List Nat) (tg : Tg) (c : Eo) (ds : List D) (e : En) : K_den_lc_1 F G elt own tg c (ds, e) = if hidS own e.s then (noexc (lcL own tg (K_den_lc_3 F G elt c) ds { e with s := wipeS own e.s })).bind (K_den_lc_2 own e) else .bad := by rfl
@[simp] theorem den_lc (F : Fns) (G : Gv) (elt : Ex) (own : List Nat) (tg : Tg) (it : It) (c : Eo) (e : En) : den F G (.lc elt own tg it c) e = (denI F G it e).bind (K_den_lc_1 F G elt own tg c) := by rfl
@[simp] theorem K_den_lc2_2_eq (own : List Nat) (e : En) (r : List D) (e2 : En) : K_den_lc2_2 own e (r, e2) = if r.length ≤ lim then .ok (.own (.lst r), { e2 with s := backS own e.s e2.s }) else .bad := by rfl
@[simp] theorem K_den_lc2_8_eq  (v : Vl) (e : En) : K_den_lc2_8  (v, e) = .ok ([v.d], e) := by rfl
@[simp] theorem K_den_lc2_7_eq (F : Fns) (G : Gv) (elt : Ex) (b : Bool) (e : En) : K_den_lc2_7 F G elt (b, e) = if b then (den F G elt e).bind K_den_lc2_8 else .ok ([], e) := by rfl
@[simp] theorem K_den_lc2_6_eq (F : Fns) (G : Gv) (elt : Ex) (c1 : Eo) (e : En) : K_den_lc2_6 F G elt c1 e = (denC F G c1 e).bind (K_den_lc2_7 F G elt) := by rfl
@[simp] theorem K_den_lc2_5_eq (F : Fns) (G : Gv) (elt : Ex) (own1 : List Nat) (tg1 : Tg) (c1 : Eo) (ds1 : List D) (e : En) : K_den_lc2_5 F G elt own1 tg1 c1 (ds1, e) = lcL own1 tg1 (K_den_lc2_6 F G elt c1) ds1 { e with s := wipeS own1 e.s } := by rfl
@[simp] theorem K_den_lc2_4_eq (F : Fns) (G : Gv) (elt : Ex) (own1 : List Nat) (tg1 : Tg) (it1 : It) (c1 : Eo) (b : Bool) (e : En) : K_den_lc2_4 F G elt own1 tg1 it1 c1 (b, e) = if b then (denI F G it1 e).bind (K_den_lc2_5 F G elt own1 tg1 c1) else .ok ([], e) := by rfl
@[simp] theorem K_den_lc2_3_eq (F : Fns) (G : Gv) (elt : Ex) (own1 : List Nat) (c : Eo) (tg1 : Tg) (it1 : It) (c1 : Eo) (e : En) : K_den_lc2_3 F G elt own1 c tg1 it1 c1 e = (denC F G c e).bind (K_den_lc2_4 F G elt own1 tg1 it1 c1) := by rfl
@[simp] theorem K_den_lc2_1_eq (F : Fns) (G : Gv) (elt : Ex) (own : List Nat) (own1 : List Nat) (tg : Tg) (c : Eo) (tg1 : Tg) (it1 : It) (c1 : Eo) (ds : List D) (e : En) : K_den_lc2_1 F G elt own own1 tg c tg1 it1 c1 (ds, e) = if hidS own e.s then (noexc (lcL own tg (K_den_lc2_3 F G elt own1 c tg1 it1 c1) ds { e with s := wipeS own e.s })).bind (K_den_lc2_2 own e) else .bad := by rfl
@[simp] theorem den_lc2 (F : Fns) (G : Gv) (elt : Ex) (own : List Nat) (own1 : List Nat) (tg : Tg) (it : It) (c : Eo) (tg1 : Tg) (it1 : It) (c1 : Eo) (e : En) : den F G (.lc2 elt own own1 tg it c tg1 it1 c1) e = (denI F G it e).bind (K_den_lc2_1 F G elt own own1 tg c tg1 it1 c1) := by rfl
@[simp] theorem K_den_dc_3_eq (own : List Nat) (e : En) (e2 : En) (kvs : List (Key × D)) : K_den_dc_3 own e e2 kvs = .ok (.own (.dk kvs), { e2 with s := backS own e.s e2.s }) := by rfl
@[simp] theorem K_den_dc_2_eq (own : List Nat) (e : En) (r : List D) (e2 : En) : K_den_dc_2 own e (r, e2) = if r.length ≤ lim then (Out.of (dcD r [])).bind (K_den_dc_3 own e e2) else .bad := by rfl
@[simp] theorem K_den_dc_6_eq (a : Vl) (b : Vl) (e : En) : K_den_dc_6 a (b, e) = .ok ([a.d, b.d], e) := by rfl
@[simp] theorem K_den_dc_5_eq (F : Fns) (G : Gv) (v : Ex) (a : Vl) (e : En) : K_den_dc_5 F G v (a, e) = (den F G v e).bind (K_den_dc_6 a) := by rfl
@[simp] theorem K_den_dc_4_eq (F : Fns) (G : Gv) (k : Ex) (v : Ex) (e : En) : K_den_dc_4 F G k v e = (den F G k e).bind (K_den_dc_5 F G v) := by rfl
@[simp] theorem K_den_dc_1_eq (F : Fns) (G : Gv) (k : Ex) (v : Ex) (own : List Nat) (tg : Tg) (ds : List D) (e : En) : K_den_dc_1 F G k v own tg (ds, e) = if hidS own e.s then (noexc (lcL own tg (K_den_dc_4 F G k v) ds { e with s := wipeS own e.s })).bind (K_den_dc_2 own e) else .bad := by rfl
@[simp] theorem den_dc (F : Fns) (G : Gv) (k : Ex) (v : Ex) (own : List Nat) (tg : Tg) (it : It) (e : En) : den F G (.dc k v own tg it) e = (denI F G it e).bind (K_den_dc_1 F G k v own tg) := by rfl
@[simp] theorem K_den_meth_5_eq (e : En) (v : Vl) : K_den_meth_5 e v = .ok (v, e) := by rfl
@[simp] theorem K_den_meth_4_eq (m : Mt) (e : En) (x : D) (ds : List D) : K_den_meth_4 m e x ds = (Out.of (methop m x ds)).bind (K_den_meth_5 e) := by rfl
@[simp] theorem K_den_meth_3_eq (m : Mt) (es : Exs) (e : En) (ds : List D) (x : D) : K_den_meth_3 m es e ds x = (fins es ds e).bind (K_den_meth_4 m e x) := by rfl
@[simp] theorem K_den_meth_2_eq (m : Mt) (o : Ex) (es : Exs) (oo : D) (ds : List D) (e : En) : K_den_meth_2 m o es oo (ds, e) = (fin o oo e).bind (K_den_meth_3 m es e ds) := by rfl
@[simp] theorem K_den_meth_1_eq (F : Fns) (G : Gv) (m : Mt) (o : Ex) (es : Exs) (oo : D) (e : En) : K_den_meth_1 F G m o es (oo, e) = (densO F G es e).bind (K_den_meth_2 m o es oo) := by rfl
@[simp] theorem den_meth (F : Fns) (G : Gv) (m : Mt) (o : Ex) (es : Exs) (e : En) : den F G (.meth m o es) e = (opO o (den F G o) e).bind (K_den_meth_1 F G m o es) := by rfl
@[simp] theorem K_den_sumv_3_eq (e : En) (ns : List Int) : K_den_sumv_3 e ns = .ok (.fro (.int ns.sum), e) := by rfl
@[simp] theorem K_den_sumv_2_eq (e : En) (x : D) : K_den_sumv_2 e x = (match x with
    | .dk l => (Out.of (intsD (l.map (·.2)))).bind (K_den_sumv_3 e)
    | _ => .bad) := by rfl
@[simp] theorem K_den_sumv_1_eq (a : Ex) (oa : D) (e : En) : K_den_sumv_1 a (oa, e) = (fin a oa e).bind (K_den_sumv_2 e) := by rfl
@[simp] theorem den_sumv (F : Fns) (G : Gv) (a : Ex) (e : En) : den F G (.sumv a) e = (opO a (den F G a) e).bind (K_den_sumv_1 a) := by rfl
@[simp] theorem K_den_lci_3_eq (own : List Nat) (e : En) (r : List D) (e2 : En) : K_den_lci_3 own e (r, e2) = if r.length ≤ lim then .ok (.own (.lst r), { e2 with s := backS own e.s e2.s }) else .bad := by rfl
@[simp] theorem K_den_lci_6_eq  (v : Vl) (e : En) : K_den_lci_6  (v, e) = .ok ([v.d], e) := by rfl
@[simp] theorem K_den_lci_5_eq (F : Fns) (G : Gv) (elt : Ex) (b : Bool) (e : En) : K_den_lci_5 F G elt (b, e) = if b then (den F G elt e).bind K_den_lci_6 else .ok ([], e) := by rfl
@[simp] theorem K_den_lci_4_eq (F : Fns) (G : Gv) (elt : Ex) (c : Eo) (e : En) : K_den_lci_4 F G elt c e = (denC F G c e).bind (K_den_lci_5 F G elt) := by rfl
@[simp] theorem K_den_lci_2_eq (F : Fns) (G : Gv) (elt : Ex) (own : List Nat) (tg : Tg) (c : Eo) (e : En) (ds : List D) : K_den_lci_2 F G elt own tg c e ds = if hidS own e.s then (noexc (lcL own tg (K_den_lci_4 F G elt c) ds { e with s := wipeS own e.s })).bind (K_den_lci_3 own e) else .bad := by rfl
@[simp] theorem K_den_lci_1_eq (F : Fns) (G : Gv) (elt : Ex) (own : List Nat) (tg : Tg) (kd : Bool) (c : Eo) (v : Vl) (e : En) : K_den_lci_1 F G elt own tg kd c (v, e) = (Out.of (if kd then itemsD v.d else keysOf v.d)).bind (K_den_lci_2 F G elt own tg c e) := by rfl
@[simp] theorem den_lci (F : Fns) (G : Gv) (elt : Ex) (own : List Nat) (tg : Tg) (kd : Bool) (i : Nat) (c : Eo) (e : En) : den F G (.lci elt own tg kd i c) e = (e.rd i).bind (K_den_lci_1 F G elt own tg kd c) := by rfl
@[simp] theorem K_den_sset_4_eq (e : En) (ns : List Int) : K_den_sset_4 e ns = if ns.length < 64 then .ok (.own (.lst ((ssetI ns).map .int)), e) else .bad := by rfl
@[simp] theorem K_den_sset_3_eq (e : En) (l : List D) : K_den_sset_3 e l = (Out.of (intsD l)).bind (K_den_sset_4 e) := by rfl
@[simp] theorem K_den_sset_2_eq (e : En) (x : D) : K_den_sset_2 e x = (Out.of (iterD x)).bind (K_den_sset_3 e) := by rfl
@[simp] theorem K_den_sset_1_eq (a : Ex) (oa : D) (e : En) : K_den_sset_1 a (oa, e) = (fin a oa e).bind (K_den_sset_2 e) := by rfl
@[simp] theorem den_sset (F : Fns) (G : Gv) (a : Ex) (e : En) : den F G (.sset a) e = (opO a (den F G a) e).bind (K_den_sset_1 a) := by rfl
@[simp] theorem K_den_lset_3_eq (e : En) (n : Nat) : K_den_lset_3 e n = .ok (.fro (.int n), e) := by rfl
@[simp] theorem K_den_lset_2_eq (e : En) (x : D) : K_den_lset_2 e x = (Out.of (lsetD x)).bind (K_den_lset_3 e) := by rfl
@[simp] theorem K_den_lset_1_eq (a : Ex) (oa : D) (e : En) : K_den_lset_1 a (oa, e) = (fin a oa e).bind (K_den_lset_2 e) := by rfl
@[simp] theorem den_lset (F : Fns) (G : Gv) (a : Ex) (e : En) : den F G (.lset a) e = (opO a (den F G a) e).bind (K_den_lset_1 a) := by rfl
@[simp] theorem K_den_tupr_4_eq (e : En) (l : List D) : K_den_tupr_4 e l = .ok (.fro (.tup l), e) := by rfl
@[simp] theorem K_den_tupr_3_eq (e : En) (n : Int) : K_den_tupr_3 e n = (Out.of (rangeD 0 n)).bind (K_den_tupr_4 e) := by rfl
@[simp] theorem K_den_tupr_2_eq (e : En) (x : D) : K_den_tupr_2 e x = (Out.of (intD x)).bind (K_den_tupr_3 e) := by rfl
@[simp] theorem K_den_tupr_1_eq (a : Ex) (oa : D) (e : En) : K_den_tupr_1 a (oa, e) = (fin a oa e).bind (K_den_tupr_2 e) := by rfl
@[simp] theorem den_tupr (F : Fns) (G : Gv) (a : Ex) (e : En) : den F G (.tupr a) e = (opO a (den F G a) e).bind (K_den_tupr_1 a) := by rfl
@[simp] theorem den_caught (F : Fns) (G : Gv) (fz : List Nat) (b : Ex) (e : En) : den F G (.caught fz b) e = caughtD G { e with s := fzS fz e.s } (den F G b { s := lamS (fzS fz e.s), w := [] }) := by rfl
@[simp] theorem dens_nil (F : Fns) (G : Gv)  (e : En) : dens F G .nil e = .ok ([], e) := by rfl
@[simp] theorem K_dens_cons_2_eq (v : Vl) (ds : List D) (e : En) : K_dens_cons_2 v (ds, e) = .ok (v.d :: ds, e) := by rfl
@[simp] theorem K_dens_cons_1_eq (F : Fns) (G : Gv) (r : Exs) (v : Vl) (e : En) : K_dens_cons_1 F G r (v, e) = (dens F G r e).bind (K_dens_cons_2 v) := by rfl
@[simp] theorem dens_cons (F : Fns) (G : Gv) (a : Ex) (r : Exs) (e : En) : dens F G (.cons a r) e = (den F G a e).bind (K_dens_cons_1 F G r) := by rfl
@[simp] theorem densO_nil (F : Fns) (G : Gv)  (e : En) : densO F G .nil e = .ok ([], e) := by rfl
@[simp] theorem K_densO_cons_2_eq (d : D) (ds : List D) (e : En) : K_densO_cons_2 d (ds, e) = .ok (d :: ds, e) := by rfl
@[simp] theorem K_densO_cons_1_eq (F : Fns) (G : Gv) (r : Exs) (d : D) (e : En) : K_densO_cons_1 F G r (d, e) = (densO F G r e).bind (K_densO_cons_2 d) := by rfl
@[simp] theorem densO_cons (F : Fns) (G : Gv) (a : Ex) (r : Exs) (e : En) : densO F G (.cons a r) e = (opO a (den F G a) e).bind (K_densO_cons_1 F G r) := by rfl
@[simp] theorem deno_none (F : Fns) (G : Gv)  (e : En) : deno F G .none e = .ok (none, e) := by rfl
@[simp] theorem K_deno_some_1_eq  (v : Vl) (e : En) : K_deno_some_1  (v, e) = .ok (some v.d, e) := by rfl
@[simp] theorem deno_some (F : Fns) (G : Gv) (a : Ex) (e : En) : deno F G (.some a) e = (den F G a e).bind K_deno_some_1 := by rfl
@[simp] theorem denC_none (F : Fns) (G : Gv)  (e : En) : denC F G .none e = .ok (true, e) := by rfl
@[simp] theorem K_denC_some_2_eq (e : En) (b : Bool) : K_denC_some_2 e b = .ok (b, e) := by rfl
@[simp] theorem K_denC_some_1_eq  (v : Vl) (e : En) : K_denC_some_1  (v, e) = (Out.of (blD v.d)).bind (K_denC_some_2 e) := by rfl
@[simp] theorem denC_some (F : Fns) (G : Gv) (a : Ex) (e : En) : denC F G (.some a) e = (den F G a e).bind K_denC_some_1 := by rfl
@[simp] theorem K_denI_seq_2_eq (e : En) (l : List D) : K_denI_seq_2 e l = .ok (l, e) := by rfl
@[simp] theorem K_denI_seq_1_eq  (v : Vl) (e : En) : K_denI_seq_1  (v, e) = (Out.of (iterD v.d)).bind (K_denI_seq_2 e) := by rfl
@[simp] theorem denI_seq (F : Fns) (G : Gv) (a : Ex) (e : En) : denI F G (.seq a) e = (den F G a e).bind K_denI_seq_1 := by rfl
@[simp] theorem K_denI_range1_3_eq (e : En) (l : List D) : K_denI_range1_3 e l = .ok (l, e) := by rfl
@[simp] theorem K_denI_range1_2_eq (e : En) (n : Int) : K_denI_range1_2 e n = (Out.of (rangeD 0 n)).bind (K_denI_range1_3 e) := by rfl
@[simp] theorem K_denI_range1_1_eq  (v : Vl) (e : En) : K_denI_range1_1  (v, e) = (Out.of (intD v.d)).bind (K_denI_range1_2 e) := by rfl
@[simp] theorem denI_range1 (F : Fns) (G : Gv) (a : Ex) (e : En) : denI F G (.range1 a) e = (den F G a e).bind K_denI_range1_1 := by rfl
@[simp] theorem K_denI_range2_5_eq (e : En) (l : List D) : K_denI_range2_5 e l = .ok (l, e) := by rfl
@[simp] theorem K_denI_range2_4_eq (e : En) (m : Int) (n : Int) : K_denI_range2_4 e m n = (Out.of (rangeD m n)).bind (K_denI_range2_5 e) := by rfl
@[simp] theorem K_denI_range2_3_eq (e : En) (u : Vl) (m : Int) : K_denI_range2_3 e u m = (Out.of (intD u.d)).bind (K_denI_range2_4 e m) := by rfl
@[simp] theorem K_denI_range2_2_eq (v : Vl) (u : Vl) (e : En) : K_denI_range2_2 v (u, e) = (Out.of (intD v.d)).bind (K_denI_range2_3 e u) := by rfl
@[simp] theorem K_denI_range2_1_eq (F : Fns) (G : Gv) (b : Ex) (v : Vl) (e : En) : K_denI_range2_1 F G b (v, e) = (den F G b e).bind (K_denI_range2_2 v) := by rfl
@[simp] theorem denI_range2 (F : Fns) (G : Gv) (a : Ex) (b : Ex) (e : En) : denI F G (.range2 a b) e = (den F G a e).bind (K_denI_range2_1 F G b) := by rfl
@[simp] theorem K_denI_range3_5_eq (e : En) (l : List D) : K_denI_range3_5 e l = .ok (l, e) := by rfl
@[simp] theorem K_denI_range3_4_eq (c : Int) (e : En) (m : Int) (n : Int) : K_denI_range3_4 c e m n = (Out.of (rangeC m n c)).bind (K_denI_range3_5 e) := by rfl
@[simp] theorem K_denI_range3_3_eq (c : Int) (e : En) (u : Vl) (m : Int) : K_denI_range3_3 c e u m = (Out.of (intD u.d)).bind (K_denI_range3_4 c e m) := by rfl
@[simp] theorem K_denI_range3_2_eq (c : Int) (v : Vl) (u : Vl) (e : En) : K_denI_range3_2 c v (u, e) = (Out.of (intD v.d)).bind (K_denI_range3_3 c e u) := by rfl
@[simp] theorem K_denI_range3_1_eq (F : Fns) (G : Gv) (b : Ex) (c : Int) (v : Vl) (e : En) : K_denI_range3_1 F G b c (v, e) = (den F G b e).bind (K_denI_range3_2 c v) := by rfl
@[simp] theorem denI_range3 (F : Fns) (G : Gv) (a : Ex) (b : Ex) (c : Int) (e : En) : denI F G (.range3 a b c) e = (den F G a e).bind (K_denI_range3_1 F G b c) := by rfl
@[simp] theorem K_denI_zip_4_eq (e : En) (l : List D) (m : List D) : K_denI_zip_4 e l m = .ok (List.zipWith (fun x y => .tup [x, y]) l m, e) := by rfl
@[simp] theorem K_denI_zip_3_eq (e : En) (u : Vl) (l : List D) : K_denI_zip_3 e u l = (Out.of (iterD u.d)).bind (K_denI_zip_4 e l) := by rfl
@[simp] theorem K_denI_zip_2_eq (v : Vl) (u : Vl) (e : En) : K_denI_zip_2 v (u, e) = (Out.of (iterD v.d)).bind (K_denI_zip_3 e u) := by rfl
@[simp] theorem K_denI_zip_1_eq (F : Fns) (G : Gv) (b : Ex) (v : Vl) (e : En) : K_denI_zip_1 F G b (v, e) = (den F G b e).bind (K_denI_zip_2 v) := by rfl
@[simp] theorem denI_zip (F : Fns) (G : Gv) (a : Ex) (b : Ex) (e : En) : denI F G (.zip a b) e = (den F G a e).bind (K_denI_zip_1 F G b) := by rfl
@[simp] theorem K_denI_zip3_6_eq (e : En) (l : List D) (m : List D) (n : List D) : K_denI_zip3_6 e l m n = .ok (List.zipWith (fun x p => .tup [x, p.1, p.2]) l (List.zip m n), e) := by rfl
@[simp] theorem K_denI_zip3_5_eq (e : En) (w : Vl) (l : List D) (m : List D) : K_denI_zip3_5 e w l m = (Out.of (iterD w.d)).bind (K_denI_zip3_6 e l m) := by rfl
@[simp] theorem K_denI_zip3_4_eq (e : En) (u : Vl) (w : Vl) (l : List D) : K_denI_zip3_4 e u w l = (Out.of (iterD u.d)).bind (K_denI_zip3_5 e w l) := by rfl
@[simp] theorem K_denI_zip3_3_eq (v : Vl) (u : Vl) (w : Vl) (e : En) : K_denI_zip3_3 v u (w, e) = (Out.of (iterD v.d)).bind (K_denI_zip3_4 e u w) := by rfl
@[simp] theorem K_denI_zip3_2_eq (F : Fns) (G : Gv) (c : Ex) (v : Vl) (u : Vl) (e : En) : K_denI_zip3_2 F G c v (u, e) = (den F G c e).bind (K_denI_zip3_3 v u) := by rfl
@[simp] theorem K_denI_zip3_1_eq (F : Fns) (G : Gv) (b : Ex) (c : Ex) (v : Vl) (e : En) : K_denI_zip3_1 F G b c (v, e) = (den F G b e).bind (K_denI_zip3_2 F G c v) := by rfl
@[simp] theorem denI_zip3 (F : Fns) (G : Gv) (a : Ex) (b : Ex) (c : Ex) (e : En) : denI F G (.zip3 a b c) e = (den F G a e).bind (K_denI_zip3_1 F G b c) := by rfl
@[simp] theorem K_denI_enum_2_eq (e : En) (l : List D) : K_denI_enum_2 e l = .ok (l.zipIdx.map (fun p => .tup [.int (p.2 : Nat), p.1]), e) := by rfl
@[simp] theorem K_denI_enum_1_eq  (v : Vl) (e : En) : K_denI_enum_1  (v, e) = (Out.of (iterD v.d)).bind (K_denI_enum_2 e) := by rfl
@[simp] theorem denI_enum (F : Fns) (G : Gv) (a : Ex) (e : En) : denI F G (.enum a) e = (den F G a e).bind K_denI_enum_1 := by rfl
@[simp] theorem K_denI_items_2_eq (e : En) (l : List D) : K_denI_items_2 e l = .ok (l, e) := by rfl
@[simp] theorem K_denI_items_1_eq  (v : Vl) (e : En) : K_denI_items_1  (v, e) = (Out.of (itemsD v.d)).bind (K_denI_items_2 e) := by rfl
@[simp] theorem denI_items (F : Fns) (G : Gv) (a : Ex) (e : En) : denI F G (.items a) e = (den F G a e).bind K_denI_items_1 := by rfl
@[simp] theorem K_denI_keys_2_eq (e : En) (l : List D) : K_denI_keys_2 e l = .ok (l, e) := by rfl
@[simp] theorem K_denI_keys_1_eq  (v : Vl) (e : En) : K_denI_keys_1  (v, e) = (Out.of (keysOf v.d)).bind (K_denI_keys_2 e) := by rfl
@[simp] theorem denI_keys (F : Fns) (G : Gv) (a : Ex) (e : En) : denI F G (.keys a) e = (den F G a e).bind K_denI_keys_1 := by rfl
@[simp] theorem K_exec_set_2_eq  (e : En) : K_exec_set_2  e = .ok (.nx, e) := by rfl
@[simp] theorem K_exec_set_1_eq (i : Nat) (v : Vl) (e : En) : K_exec_set_1 i (v, e) = (e.st i v).bind K_exec_set_2 := by rfl
@[simp] theorem exec_set (F : Fns) (G : Gv) (i : Nat) (x : Ex) (e : En) : exec F G (.set i x) e = (den F G x e).bind (K_exec_set_1 i) := by rfl
@[simp] theorem K_exec_setT_2_eq (e : En) (s : List Sl) : K_exec_setT_2 e s = .ok (.nx, { e with s := s }) := by rfl
@[simp] theorem K_exec_setT_1_eq (tg : Tg) (v : Vl) (e : En) : K_exec_setT_1 tg (v, e) = (Out.of (asgT tg v.d e.s)).bind (K_exec_setT_2 e) := by rfl
@[simp] theorem exec_setT (F : Fns) (G : Gv) (tg : Tg) (x : Ex) (e : En) : exec F G (.setT tg x) e = (den F G x e).bind (K_exec_setT_1 tg) := by rfl
@[simp] theorem K_exec_par_4_eq  (e : En) : K_exec_par_4  e = .ok (.nx, e) := by rfl
@[simp] theorem K_exec_par_3_eq (j : Nat) (y : Vl) (e : En) : K_exec_par_3 j y e = (e.st j (.fro y.d)).bind K_exec_par_4 := by rfl
@[simp] theorem K_exec_par_2_eq (i : Nat) (j : Nat) (x : Vl) (y : Vl) (e : En) : K_exec_par_2 i j x (y, e) = (e.st i (.fro x.d)).bind (K_exec_par_3 j y) := by rfl
@[simp] theorem K_exec_par_1_eq (F : Fns) (G : Gv) (i : Nat) (j : Nat) (b : Ex) (x : Vl) (e : En) : K_exec_par_1 F G i j b (x, e) = (den F G b e).bind (K_exec_par_2 i j x) := by rfl
@[simp] theorem exec_par (F : Fns) (G : Gv) (i : Nat) (j : Nat) (a : Ex) (b : Ex) (e : En) : exec F G (.par i j a b) e = (den F G a e).bind (K_exec_par_1 F G i j b) := by rfl
@[simp] theorem K_exec_par3_6_eq  (e : En) : K_exec_par3_6  e = .ok (.nx, e) := by rfl
@[simp] theorem K_exec_par3_5_eq (k : Nat) (z : Vl) (e : En) : K_exec_par3_5 k z e = (e.st k (.fro z.d)).bind K_exec_par3_6 := by rfl
@[simp] theorem K_exec_par3_4_eq (j : Nat) (k : Nat) (y : Vl) (z : Vl) (e : En) : K_exec_par3_4 j k y z e = (e.st j (.fro y.d)).bind (K_exec_par3_5 k z) := by rfl
@[simp] theorem K_exec_par3_3_eq (i : Nat) (j : Nat) (k : Nat) (x : Vl) (y : Vl) (z : Vl) (e : En) : K_exec_par3_3 i j k x y (z, e) = (e.st i (.fro x.d)).bind (K_exec_par3_4 j k y z) := by rfl
@[simp] theorem K_exec_par3_2_eq (F : Fns) (G : Gv) (i : Nat) (j : Nat) (k : Nat) (c : Ex) (x : Vl) (y : Vl) (e : En) : K_exec_par3_2 F G i j k c x (y, e) = (den F G c e).bind (K_exec_par3_3 i j k x y) := by rfl
@[simp] theorem K_exec_par3_1_eq (F : Fns) (G : Gv) (i : Nat) (j : Nat) (k : Nat) (b : Ex) (c : Ex) (x : Vl) (e : En) : K_exec_par3_1 F G i j k b c (x, e) = (den F G b e).bind (K_exec_par3_2 F G i j k c x) := by rfl
@[simp] theorem exec_par3 (F : Fns) (G : Gv) (i : Nat) (j : Nat) (k : Nat) (a : Ex) (b : Ex) (c : Ex) (e : En) : exec F G (.par3 i j k a b c) e = (den F G a e).bind (K_exec_par3_1 F G i j k b c) := by rfl
@[simp] theorem K_exec_store_4_eq (i : Nat) (e : En) (d : D) : K_exec_store_4 i e d = .ok (.nx, { e with s := e.s.set i (.own d) }) := by rfl
@[simp] theorem K_exec_store_5_eq (e : En) (d : D) : K_exec_store_5 e d = (match d with
    | .lst l => .ok (.nx, { e with w := l })
    | _ => .bad) := by rfl
@[simp] theorem K_exec_store_3_eq (i : Nat) (v : Vl) (k : Vl) (e : En) : K_exec_store_3 i v (k, e) = (match e.s.getD i .un with
    | .own d => (Out.of (storeD d k.d v.d)).bind (K_exec_store_4 i e)
    | .well => (Out.of (storeD (.lst e.w) k.d v.d)).bind (K_exec_store_5 e)
    | _ => .bad) := by rfl
@[simp] theorem K_exec_store_2_eq (F : Fns) (G : Gv) (i : Nat) (ix : Ex) (e : En) (v : Vl) (z1 : D) : K_exec_store_2 F G i ix e v z1 = (den F G ix e).bind (K_exec_store_3 i v) := by rfl
@[simp] theorem K_exec_store_1_eq (F : Fns) (G : Gv) (i : Nat) (ix : Ex) (v : Vl) (e : En) : K_exec_store_1 F G i ix (v, e) = (e.pk i).bind (K_exec_store_2 F G i ix e v) := by rfl
@[simp] theorem exec_store (F : Fns) (G : Gv) (i : Nat) (ix : Ex) (x : Ex) (e : En) : exec F G (.store i ix x) e = (den F G x e).bind (K_exec_store_1 F G i ix) := by rfl
@[simp] theorem K_exec_putd_4_eq (i : Nat) (e : En) (d : D) : K_exec_putd_4 i e d = .ok (.nx, { e with s := e.s.set i (.own d) }) := by rfl
@[simp] theorem K_exec_putd_3_eq (i : Nat) (v : Vl) (k : Vl) (e : En) : K_exec_putd_3 i v (k, e) = (match e.s.getD i .un with
    | .own d => (Out.of (putD d k.d v.d)).bind (K_exec_putd_4 i e)
    | _ => .bad) := by rfl
@[simp] theorem K_exec_putd_2_eq (F : Fns) (G : Gv) (i : Nat) (ix : Ex) (e : En) (v : Vl) (z1 : D) : K_exec_putd_2 F G i ix e v z1 = (den F G ix e).bind (K_exec_putd_3 i v) := by rfl
@[simp] theorem K_exec_putd_1_eq (F : Fns) (G : Gv) (i : Nat) (ix : Ex) (v : Vl) (e : En) : K_exec_putd_1 F G i ix (v, e) = (e.pk i).bind (K_exec_putd_2 F G i ix e v) := by rfl
@[simp] theorem exec_putd (F : Fns) (G : Gv) (i : Nat) (ix : Ex) (x : Ex) (e : En) : exec F G (.putd i ix x) e = (den F G x e).bind (K_exec_putd_1 F G i ix) := by rfl
@[simp] theorem K_exec_fori_2_eq (F : Fns) (G : Gv) (tg : Tg) (b : Sms) (e : En) (ds : List D) : K_exec_fori_2 F G tg b e ds = noexc (forL tg (execs F G b) ds e) := by rfl
@[simp] theorem K_exec_fori_1_eq (F : Fns) (G : Gv) (tg : Tg) (b : Sms) (v : Vl) (e : En) : K_exec_fori_1 F G tg b (v, e) = (Out.of (itemsD v.d)).bind (K_exec_fori_2 F G tg b e) := by rfl
@[simp] theorem exec_fori (F : Fns) (G : Gv) (tg : Tg) (i : Nat) (b : Sms) (e : En) : exec F G (.fori tg i b) e = (e.rd i).bind (K_exec_fori_1 F G tg b) := by rfl
@[simp] theorem K_exec_append_2_eq (i : Nat) (v : Vl) (e : En) : K_exec_append_2 i (v, e) = (match e.s.getD i .un with
    | .own (.lst l) => if l.length < lim then .ok (.nx, { e with s := e.s.set i (.own (.lst (l ++ [v.d]))) }) else .bad
    | _ => .bad) := by rfl
@[simp] theorem K_exec_append_1_eq (F : Fns) (G : Gv) (i : Nat) (x : Ex) (e : En) (d0 : D) : K_exec_append_1 F G i x e d0 = (match d0 with
    | .lst _ => (den F G x e).bind (K_exec_append_2 i)
    | _ => .bad) := by rfl
@[simp] theorem exec_append (F : Fns) (G : Gv) (i : Nat) (x : Ex) (e : En) : exec F G (.append i x) e = (e.pk i).bind (K_exec_append_1 F G i x e) := by rfl
@[simp] theorem K_exec_extend_2_eq (i : Nat) (v : Vl) (e : En) : K_exec_extend_2 i (v, e) = (match e.s.getD i .un, v.d with
    | .own (.lst l), .lst m => if l.length + m.length ≤ lim then .ok (.nx, { e with s := e.s.set i (.own (.lst (l ++ m))) }) else .bad
    | _, _ => .bad) := by rfl
@[simp] theorem K_exec_extend_1_eq (F : Fns) (G : Gv) (i : Nat) (x : Ex) (e : En) (d0 : D) : K_exec_extend_1 F G i x e d0 = (match d0 with
    | .lst _ => (den F G x e).bind (K_exec_extend_2 i)
    | _ => .bad) := by rfl
@[simp] theorem exec_extend (F : Fns) (G : Gv) (i : Nat) (x : Ex) (e : En) : exec F G (.extend i x) e = (e.pk i).bind (K_exec_extend_1 F G i x e) := by rfl
@[simp] theorem K_exec_expr_1_eq  (z1 : Vl) (e : En) : K_exec_expr_1  (z1, e) = .ok (.nx, e) := by rfl
@[simp] theorem exec_expr (F : Fns) (G : Gv) (x : Ex) (e : En) : exec F G (.expr x) e = (den F G x e).bind K_exec_expr_1 := by rfl
@[simp] theorem K_exec_ite_2_eq (F : Fns) (G : Gv) (a : Sms) (b : Sms) (e : En) (c : Bool) : K_exec_ite_2 F G a b e c = if c then execs F G a e else execs F G b e := by rfl
@[simp] theorem K_exec_ite_1_eq (F : Fns) (G : Gv) (a : Sms) (b : Sms) (v : Vl) (e : En) : K_exec_ite_1 F G a b (v, e) = (Out.of (blD v.d)).bind (K_exec_ite_2 F G a b e) := by rfl
@[simp] theorem exec_ite (F : Fns) (G : Gv) (t : Ex) (a : Sms) (b : Sms) (e : En) : exec F G (.ite t a b) e = (den F G t e).bind (K_exec_ite_1 F G a b) := by rfl
@[simp] theorem K_exec_for__1_eq (F : Fns) (G : Gv) (tg : Tg) (b : Sms) (ds : List D) (e : En) : K_exec_for__1 F G tg b (ds, e) = forL tg (execs F G b) ds e := by rfl
@[simp] theorem exec_for_ (F : Fns) (G : Gv) (tg : Tg) (it : It) (b : Sms) (e : En) : exec F G (.for_ tg it b) e = (denI F G it e).bind (K_exec_for__1 F G tg b) := by rfl
@[simp] theorem K_exec_while__3_eq (e : En) (c : Bool) : K_exec_while__3 e c = .ok (c, e) := by rfl
@[simp] theorem K_exec_while__2_eq  (v : Vl) (e : En) : K_exec_while__2  (v, e) = (Out.of (blD v.d)).bind (K_exec_while__3 e) := by rfl
@[simp] theorem K_exec_while__1_eq (F : Fns) (G : Gv) (t : Ex) (e : En) : K_exec_while__1 F G t e = (den F G t e).bind K_exec_while__2 := by rfl
@[simp] theorem exec_while_ (F : Fns) (G : Gv) (t : Ex) (b : Sms) (e : En) : exec F G (.while_ t b) e = whileL (K_exec_while__1 F G t) (execs F G b) fuel e := by rfl
@[simp] theorem K_exec_ret_1_eq  (v : Vl) (e : En) : K_exec_ret_1  (v, e) = .ok (.rt v, e) := by rfl
@[simp] theorem exec_ret (F : Fns) (G : Gv) (x : Ex) (e : En) : exec F G (.ret x) e = (den F G x e).bind K_exec_ret_1 := by rfl
@[simp] theorem exec_retN (F : Fns) (G : Gv)  (e : En) : exec F G .retN e = .ok (.rt (.fro .non), e) := by rfl
@[simp] theorem exec_raise (F : Fns) (G : Gv) (c : Nat) (y1 : Str) (e : En) : exec F G (.raise c y1) e = .exc c .non := by rfl
@[simp] theorem K_exec_raiseP_1_eq (c : Nat) (v : Vl) (z1 : En) : K_exec_raiseP_1 c (v, z1) = .exc c v.d := by rfl
@[simp] theorem exec_raiseP (F : Fns) (G : Gv) (c : Nat) (x : Ex) (e : En) : exec F G (.raiseP c x) e = (den F G x e).bind (K_exec_raiseP_1 c) := by rfl
@[simp] theorem exec_brk (F : Fns) (G : Gv)  (e : En) : exec F G .brk e = .ok (.bk, e) := by rfl
@[simp] theorem exec_pass (F : Fns) (G : Gv)  (e : En) : exec F G .pass e = .ok (.nx, e) := by rfl
@[simp] theorem execs_nil (F : Fns) (G : Gv)  (e : En) : execs F G .nil e = .ok (.nx, e) := by rfl
@[simp] theorem K_execs_nx (F : Fns) (G : Gv) (r : Sms) (e : En) : K_execs_cons_1 F G r (.nx, e) = execs F G r e := by rfl
@[simp] theorem K_execs_bk (F : Fns) (G : Gv) (r : Sms) (e : En) : K_execs_cons_1 F G r (.bk, e) = .ok (.bk, e) := by rfl
@[simp] theorem K_execs_rt (F : Fns) (G : Gv) (r : Sms) (v : Vl) (e : En) : K_execs_cons_1 F G r (.rt v, e) = .ok (.rt v, e) := by rfl
@[simp] theorem execs_cons (F : Fns) (G : Gv) (s : Sm) (r : Sms) (e : En) : execs F G (.cons s r) e = (exec F G s e).bind (K_execs_cons_1 F G r) := by rfl
end Pk

end
section
/-! Pk25: values, comprehensions and loops under simp. -/
namespace Pk
open PySem L2
@[simp] theorem comp_lam {A B C : Type} (f : B → C) (g : A → B) : f ∘ g = fun x => f (g x) := by rfl
@[simp] theorem lim_num : lim = 16777216 := by rfl
@[simp] theorem iterD_lst (l : List D) : iterD (.lst l) = some l := by rfl
@[simp] theorem iterD_tup (l : List D) : iterD (.tup l) = some l := by rfl
@[simp] theorem intD_int (i : Int) : intD (.int i) = some i := by rfl
@[simp] theorem blD_bl (b : Bool) : blD (.bl b) = some b := by rfl
@[simp] theorem optI_none : optI none = some none := by rfl
@[simp] theorem optI_some (i : Int) : optI (some (.int i)) = some (some i) := by rfl
@[simp] theorem mkT_eq (t : List Int) : mkT t = .tup (t.map .int) := by rfl
@[simp] theorem isNonD_non : isNonD .non = true := by rfl
@[simp] theorem isNonD_int (i : Int) : isNonD (.int i) = false := by rfl
@[simp] theorem isNonD_tup (l : List D) : isNonD (.tup l) = false := by rfl
@[simp] theorem isNonD_lst (l : List D) : isNonD (.lst l) = false := by rfl
@[simp] theorem isNonD_bl (b : Bool) : isNonD (.bl b) = false := by rfl
@[simp] theorem isNonD_str (b : Str) : isNonD (.str b) = false := by rfl
/-! operators -/
@[simp] theorem bin_add_int (i j : Int) : binop .add (.int i) (.int j) = some (.fro (.int (i + j))) := by rfl
@[simp] theorem bin_add_tup (a b : List D) : binop .add (.tup a) (.tup b) = if a.length + b.length ≤ lim then some (.fro (.tup (a ++ b))) else none := by rfl
@[simp] theorem bin_add_lst (a b : List D) : binop .add (.lst a) (.lst b) = if a.length + b.length ≤ lim then some (.own (.lst (a ++ b))) else none := by rfl
@[simp] theorem bin_add_str (x y : Str) : binop .add (.str x) (.str y) = if x.length + y.length ≤ lim then some (.fro (.str (x ++ y))) else none := by rfl
@[simp] theorem bin_sub_int (i j : Int) : binop .sub (.int i) (.int j) = some (.fro (.int (i - j))) := by rfl
@[simp] theorem bin_mul_int (i j : Int) : binop .mul (.int i) (.int j) = if bitsOk i j then some (.fro (.int (i * j))) else none := by rfl
@[simp] theorem bin_mul_tup (a : List D) (k : Int) : binop .mul (.tup a) (.int k) = if a ≠ [] ∧ 2 ≤ k ∧ k ≤ 1000 ∧ a.length ≤ 1000 then some (.fro (.tup (List.replicate k.toNat a).flatten)) else none := by rfl
@[simp] theorem bin_mul_lst (a : List D) (k : Int) : binop .mul (.lst a) (.int k) = if 0 ≤ k ∧ k ≤ 1000 ∧ a.length ≤ 1000 then some (.own (.lst (List.replicate k.toNat a).flatten)) else none := by rfl
@[simp] theorem bin_mod_int (i j : Int) : binop .mod (.int i) (.int j) = if 0 < j then some (.fro (.int (i % j))) else none := by rfl
@[simp] theorem bin_fdiv_int (i j : Int) : binop .fdiv (.int i) (.int j) = if 0 < j ∧ j < 1073741824 then some (.fro (.int (i / j))) else none := by rfl
@[simp] theorem bin_pow_int (i j : Int) : binop .pow (.int i) (.int j) = if 0 ≤ j ∧ j ≤ 1000 ∧ i.natAbs < 1000 then some (.fro (.int (i ^ j.toNat))) else none := by rfl
@[simp] theorem cmp_lt_int (i j : Int) : cmpop .lt (.int i) (.int j) = some (decide (i < j)) := by rfl
@[simp] theorem cmp_le_int (i j : Int) : cmpop .le (.int i) (.int j) = some (decide (i ≤ j)) := by rfl
@[simp] theorem cmp_gt_int (i j : Int) : cmpop .gt (.int i) (.int j) = some (decide (j < i)) := by rfl
@[simp] theorem cmp_ge_int (i j : Int) : cmpop .ge (.int i) (.int j) = some (decide (j ≤ i)) := by rfl
@[simp] theorem cmp_eq (a b : D) : cmpop .eq a b = eqD a b := by rfl
@[simp] theorem cmp_ne (a b : D) : cmpop .ne a b = (eqD a b).map (!·) := by rfl
@[simp] theorem cmp_isN (a b : D) : cmpop .isN a b = if isNonD b then some (isNonD a) else none := by rfl
@[simp] theorem cmp_notN (a b : D) : cmpop .notN a b = if isNonD b then some (!isNonD a) else none := by rfl
@[simp] theorem cmp_mem (a b : D) : cmpop .mem a b = memD a b := by rfl
@[simp] theorem cmp_nmem (a b : D) : cmpop .nmem a b = (memD a b).map (!·) := by rfl
@[simp] theorem cmp_lt_tup (a b : List D) : cmpop .lt (.tup a) (.tup b) = match intsD a, intsD b with
    | some x, some y => some (HT.lexLt x y)
    | _, _ => none := rfl
@[simp] theorem intsD_ints (l : List Int) : intsD (l.map .int) = some l := by
  induction l with
  | nil => rfl
  | cons x l ih => show (intsD (l.map .int)).map (x :: ·) = _; rw [ih]; rfl
@[simp] theorem intsD_mapf {A : Type} (l : List A) (g : A → Int) : intsD (l.map fun y => D.int (g y)) = some (l.map g) := by
  have := intsD_ints (l.map g)
  rwa [List.map_map] at this
@[simp] theorem intsD_nil : intsD [] = some [] := by rfl
@[simp] theorem intsD_cons (i : Int) (l : List D) : intsD (.int i :: l) = (intsD l).map (i :: ·) := by rfl
@[simp] theorem blsD_mapf {A : Type} (l : List A) (g : A → Bool) : blsD (l.map fun y => D.bl (g y)) = some (l.map g) := by
  induction l with
  | nil => rfl
  | cons x l ih => show (blsD (l.map fun y => D.bl (g y))).map (g x :: ·) = _; rw [ih]; rfl
@[simp] theorem blsD_nil : blsD [] = some [] := by rfl
@[simp] theorem blsD_cons (i : Bool) (l : List D) : blsD (.bl i :: l) = (blsD l).map (i :: ·) := by rfl
/-! isinstance -/
@[simp] theorem isT_int_int (i : Int) : isT .int (.int i) = some true := by rfl
@[simp] theorem isT_bool_int (i : Int) : isT .bool (.int i) = some false := by rfl
@[simp] theorem isT_str_int (i : Int) : isT .str (.int i) = some false := by rfl
@[simp] theorem isT_tuple_int (i : Int) : isT .tuple (.int i) = some false := by rfl
@[simp] theorem isT_list_int (i : Int) : isT .list (.int i) = some false := by rfl
@[simp] theorem isT_tl_int (i : Int) : isT .tl (.int i) = some false := by rfl
@[simp] theorem isT_tuple_tup (l : List D) : isT .tuple (.tup l) = some true := by rfl
@[simp] theorem isT_tuple_lst (l : List D) : isT .tuple (.lst l) = some false := by rfl
@[simp] theorem isT_tuple_non : isT .tuple .non = some false := by rfl
@[simp] theorem isT_tuple_bl (b : Bool) : isT .tuple (.bl b) = some false := by rfl
@[simp] theorem isT_tuple_str (b : Str) : isT .tuple (.str b) = some false := by rfl
@[simp] theorem isT_int_non : isT .int .non = some false := by rfl
@[simp] theorem isT_int_bl (b : Bool) : isT .int (.bl b) = some true := by rfl
@[simp] theorem isT_bool_bl (b : Bool) : isT .bool (.bl b) = some true := by rfl
@[simp] theorem isT_bool_non : isT .bool .non = some false := by rfl
@[simp] theorem isT_int_str (b : Str) : isT .int (.str b) = some false := by rfl
@[simp] theorem isT_int_tup (l : List D) : isT .int (.tup l) = some false := by rfl
@[simp] theorem isT_int_lst (l : List D) : isT .int (.lst l) = some false := by rfl
@[simp] theorem isT_bool_tup (l : List D) : isT .bool (.tup l) = some false := by rfl
@[simp] theorem isT_bool_lst (l : List D) : isT .bool (.lst l) = some false := by rfl
@[simp] theorem isT_bool_str (b : Str) : isT .bool (.str b) = some false := by rfl
/-! built-ins -/
@[simp] theorem blt_len_lst (l : List D) : bltop .len [.lst l] = some (.fro (.int l.length)) := by rfl
@[simp] theorem blt_len_tup (l : List D) : bltop .len [.tup l] = some (.fro (.int l.length)) := by rfl
@[simp] theorem blt_len_scr (l : List Int) : bltop .len [.scr l] = some (.fro (.int l.length)) := by rfl
@[simp] theorem blt_abs (i : Int) : bltop .abs [.int i] = some (.fro (.int (i.natAbs : Int))) := by
  show some (Vl.fro (.int (if i < 0 then -i else i))) = _
  congr 3
  split <;> omega
@[simp] theorem blt_int (i : Int) : bltop .int [.int i] = some (.fro (.int i)) := by rfl
@[simp] theorem blt_int_bl (b : Bool) : bltop .int [.bl b] = some (.fro (.int (if b then 1 else 0))) := by rfl
@[simp] theorem blt_max (i j : Int) : bltop .max [.int i, .int j] = some (.fro (.int (max i j))) := by
  show some (Vl.fro (.int (if j > i then j else i))) = _
  congr 3
  split <;> omega
@[simp] theorem blt_min (i j : Int) : bltop .min [.int i, .int j] = some (.fro (.int (min i j))) := by
  show some (Vl.fro (.int (if j < i then j else i))) = _
  congr 3
  split <;> omega
@[simp] theorem blt_sum (l : List D) : bltop .sum [.lst l] = (intsD l).map fun ns => .fro (.int ns.sum) := by rfl
@[simp] theorem blt_all (l : List D) : bltop .all [.lst l] = (blsD l).map fun bs => .fro (.bl (bs.all id)) := by rfl
@[simp] theorem blt_any (l : List D) : bltop .any [.lst l] = (blsD l).map fun bs => .fro (.bl (bs.any id)) := by rfl
@[simp] theorem blt_tuple_lst (l : List D) : bltop .tuple [.lst l] = some (.fro (.tup l)) := by rfl
@[simp] theorem blt_tuple_tup (l : List D) : bltop .tuple [.tup l] = some (.fro (.tup l)) := by rfl
@[simp] theorem blt_list_lst (l : List D) : bltop .list [.lst l] = some (.own (.lst l)) := by rfl
@[simp] theorem blt_list_tup (l : List D) : bltop .list [.tup l] = some (.own (.lst l)) := by rfl
@[simp] theorem blt_dict (l : List D) : bltop .dict [.lst l] = (pairsD l).map fun kvs => .own (.dk (mergeD [] kvs)) := by rfl
/-! subscripts -/
@[simp] theorem subD_lst (l : List D) (k : Int) : subD (.lst l) (.int k) = atI l k := by rfl
@[simp] theorem subD_tup (l : List D) (k : Int) : subD (.tup l) (.int k) = atI l k := by rfl
@[simp] theorem subD_scr (l : List Int) (k : Int) : subD (.scr l) (.int k) = (atI l k).map .int := by rfl
@[simp] theorem subD_dk (l : List (Key × D)) (k : Int) : subD (.dk l) (.int k) = lookK (.inl k) l := by rfl
theorem atI_pos {A : Type} {l : List A} {i : Int} (h : 0 ≤ i) : atI l i = l[i.toNat]? := by
  unfold atI ixN
  rw [if_pos h]
  split
  · rfl
  · rw [List.getElem?_eq_none (by omega)]; rfl
@[simp] theorem atI_lit0 {A : Type} {l : List A} : atI l 0 = l[0]? := atI_pos (by omega)
@[simp] theorem atI_lit1 {A : Type} {l : List A} : atI l 1 = l[1]? := atI_pos (by omega)
@[simp] theorem atI_lit2 {A : Type} {l : List A} : atI l 2 = l[2]? := atI_pos (by omega)
theorem atI_nat {A : Type} {l : List A} {i : Nat} : atI l (i : Int) = l[i]? := by rw [atI_pos (by omega), Int.toNat_natCast]
@[simp] theorem atI_neg1 {A : Type} {l : List A} : atI l (-1) = l.getLast? := by
  unfold atI ixN
  rw [if_neg (by omega)]
  cases l with
  | nil => rfl
  | cons x l =>
    rw [if_pos (by simp only [List.length_cons]; omega)]
    show (x :: l)[(-1 + ((x :: l).length : Int)).toNat]? = _
    rw [List.getLast?_eq_getElem?]
    congr 1
    simp only [List.length_cons]
    omega
@[simp] theorem sliceD_lst (l : List D) (lo hi : Option Int) : sliceD (.lst l) lo hi = some (.own (.lst (cutD l lo hi))) := by rfl
@[simp] theorem sliceD_tup (l : List D) (lo hi : Option Int) : sliceD (.tup l) lo hi = some (.fro (.tup (cutD l lo hi))) := by rfl
/-- a slice, of any list -/
def cutL {A : Type} (xs : List A) (lo hi : Option Int) : List A := (xs.drop (HT.sIx xs.length 0 lo)).take (HT.sIx xs.length xs.length hi - HT.sIx xs.length 0 lo)
def tl {A : Type} : List A → List A
  | [] => []
  | _ :: l => l
@[simp] theorem tl_nil {A : Type} : tl ([] : List A) = [] := by rfl
@[simp] theorem tl_cons {A : Type} (x : A) (l : List A) : tl (x :: l) = l := by rfl
@[simp] theorem tl_map {A B : Type} (f : A → B) (l : List A) : tl (l.map f) = (tl l).map f := by cases l <;> rfl
theorem tl_length {A : Type} (l : List A) : (tl l).length = l.length - 1 := by cases l <;> rfl
@[simp] theorem cutD_eq (l : List D) (lo hi : Option Int) : cutD l lo hi = cutL l lo hi := by rfl
@[simp] theorem cutL_map {A B : Type} (f : A → B) (l : List A) (lo hi : Option Int) : cutL (l.map f) lo hi = (cutL l lo hi).map f := by
  unfold cutL
  rw [List.length_map, List.map_take, List.map_drop]
@[simp] theorem cutL_1 {A : Type} (l : List A) : cutL l (some 1) none = tl l := by
  unfold cutL
  show (l.drop (min 1 l.length)).take (l.length - min 1 l.length) = _
  cases l with
  | nil => rfl
  | cons x l =>
    have : min 1 (x :: l).length = 1 := by simp only [List.length_cons]; omega
    rw [this]
    show l.take ((x :: l).length - 1) = l
    rw [List.length_cons, Nat.add_sub_cancel, List.take_length]
theorem cutL_drop {A : Type} (l : List A) {i : Int} (h : 0 ≤ i) : cutL l (some i) none = l.drop i.toNat := by
  unfold cutL HT.sIx
  dsimp only
  rw [if_neg (by omega), List.take_of_length_le (by rw [List.length_drop]; omega)]
  by_cases hh : i.toNat ≤ l.length
  · rw [Nat.min_eq_left hh]
  · rw [Nat.min_eq_right (by omega), List.drop_of_length_le (by omega), List.drop_of_length_le (by omega)]
theorem cutL_take {A : Type} (l : List A) {i : Int} (h : 0 ≤ i) : cutL l none (some i) = l.take i.toNat := by
  unfold cutL HT.sIx
  dsimp only
  rw [if_neg (by omega), List.drop_zero, Nat.sub_zero]
  by_cases hh : i.toNat ≤ l.length
  · rw [Nat.min_eq_left hh]
  · rw [Nat.min_eq_right (by omega), List.take_of_length_le (by omega), List.take_of_length_le (by omega)]
theorem cutL_len {A : Type} (l : List A) (lo hi : Option Int) : (cutL l lo hi).length ≤ l.length := by
  unfold cutL
  rw [List.length_take, List.length_drop]
  omega
/-! == and in -/
@[simp] theorem plain_non : D.plain .non = true := by rfl
@[simp] theorem plain_bl (b : Bool) : D.plain (.bl b) = true := by rfl
@[simp] theorem plain_int (b : Int) : D.plain (.int b) = true := by rfl
@[simp] theorem plain_tup (l : List D) : D.plain (.tup l) = l.all D.plain := by
  show D.plains l = _
  induction l with
  | nil => rfl
  | cons x l ih => show (x.plain && D.plains l) = _; rw [ih]; rfl
@[simp] theorem plain_lst (l : List D) : D.plain (.lst l) = l.all D.plain := plain_tup l
@[simp] theorem plains_eq (l : List D) : D.plains l = l.all D.plain := plain_tup l
@[simp] theorem deep_non : D.deep .non = 0 := by rfl
@[simp] theorem deep_bl (b : Bool) : D.deep (.bl b) = 0 := by rfl
@[simp] theorem deep_int (b : Int) : D.deep (.int b) = 0 := by rfl
@[simp] theorem deep_str (b : Str) : D.deep (.str b) = 0 := by rfl
@[simp] theorem deep_tup (l : List D) : D.deep (.tup l) = D.deeps l + 1 := by unfold D.deep; rfl
@[simp] theorem deep_lst (l : List D) : D.deep (.lst l) = D.deeps l + 1 := by unfold D.deep; rfl
@[simp] theorem deeps_nil : D.deeps [] = 0 := by rfl
@[simp] theorem deeps_cons (d : D) (l : List D) : D.deeps (d :: l) = max (D.deep d) (D.deeps l) := by rfl
theorem deeps_le {l : List D} {k : Nat} (h : ∀ d ∈ l, d.deep ≤ k) : D.deeps l ≤ k := by
  induction l with
  | nil => exact Nat.zero_le _
  | cons x l ih => exact Nat.max_le.mpr ⟨h x (List.mem_cons_self ..), ih fun d hd => h d (List.mem_cons_of_mem _ hd)⟩
@[simp] theorem deeps_ints (l : List Int) : D.deeps (l.map .int) = 0 := Nat.le_zero.mp (deeps_le fun d hd => by obtain ⟨i, _, rfl⟩ := List.mem_map.mp hd; exact Nat.le_refl 0)
@[simp] theorem eqv_int (i j : Int) : D.eqv (.int i) (.int j) = (i == j) := by rfl
@[simp] theorem eqv_tup (l m : List D) : D.eqv (.tup l) (.tup m) = D.eqvs l m := by unfold D.eqv; rfl
@[simp] theorem eqv_lst (l m : List D) : D.eqv (.lst l) (.lst m) = D.eqvs l m := by unfold D.eqv; rfl
@[simp] theorem eqvs_nil : D.eqvs [] [] = true := by rfl
@[simp] theorem eqvs_cons (x y : D) (l m : List D) : D.eqvs (x :: l) (y :: m) = (D.eqv x y && D.eqvs l m) := by rfl
@[simp] theorem eqvs_nc (y : D) (m : List D) : D.eqvs [] (y :: m) = false := by rfl
@[simp] theorem eqvs_cn (y : D) (m : List D) : D.eqvs (y :: m) [] = false := by rfl
@[simp] theorem eqvs_l_nil (l : List D) : D.eqvs l [] = l.isEmpty := by cases l <;> rfl
@[simp] theorem eqvs_ints (l m : List Int) : D.eqvs (l.map .int) (m.map .int) = (l == m) := by
  induction l generalizing m with
  | nil => cases m <;> rfl
  | cons x l ih => cases m with
    | nil => rfl
    | cons y m => show (D.eqv (.int x) (.int y) && D.eqvs (l.map .int) (m.map .int)) = _; rw [ih m]; rfl
theorem eqvs_map {A : Type} [BEq A] (f : A → D) (h : ∀ x y, D.eqv (f x) (f y) = (x == y)) (l m : List A) : D.eqvs (l.map f) (m.map f) = (l == m) := by
  induction l generalizing m with
  | nil => cases m <;> rfl
  | cons x l ih => cases m with
    | nil => rfl
    | cons y m => show (D.eqv (f x) (f y) && D.eqvs (l.map f) (m.map f)) = _; rw [ih m, h]; rfl
@[simp] theorem eqvs_mkT (l m : List (List Int)) : D.eqvs (l.map mkT) (m.map mkT) = (l == m) := eqvs_map _ (fun x y => by rw [mkT_eq, mkT_eq, eqv_tup, eqvs_ints]) l m
@[simp] theorem eqD_int (i j : Int) : eqD (.int i) (.int j) = some (i == j) := by rfl
@[simp] theorem eqD_non (d : D) (h : d.plain = true) : eqD d .non = some (D.eqv d .non) := by unfold eqD; rw [h]; simp
@[simp] theorem allplain_ints (l : List Int) : (l.map D.int).all D.plain = true := by simp
@[simp] theorem deeps_mkT (l : List (List Int)) : D.deeps (l.map mkT) ≤ 1 := deeps_le fun d hd => by
  obtain ⟨i, _, rfl⟩ := List.mem_map.mp hd
  simp
@[simp] theorem allplain_mkT (l : List (List Int)) : (l.map mkT).all D.plain = true := by simp
@[simp] theorem eqD_tup (l m : List D) : eqD (.tup l) (.tup m) = if l.all D.plain && m.all D.plain && decide (min (D.deeps l + 1) (D.deeps m + 1) ≤ 60) then some (D.eqvs l m) else none := by
  unfold eqD
  simp only [plain_tup, deep_tup, eqv_tup]
@[simp] theorem eqD_lst (l m : List D) : eqD (.lst l) (.lst m) = if l.all D.plain && m.all D.plain && decide (min (D.deeps l + 1) (D.deeps m + 1) ≤ 60) then some (D.eqvs l m) else none := by
  unfold eqD
  simp only [plain_lst, deep_lst, eqv_lst]
@[simp] theorem memD_int_ints (i : Int) (l : List Int) : memD (.int i) (.tup (l.map .int)) = some (l.contains i) := by
  show (if _ then some _ else none) = _
  simp only [plain_int, plains_eq, allplain_ints, deep_int, Nat.zero_le, decide_true, Bool.and_self, if_true, List.any_map]
  congr 1
  rw [List.contains_eq_any_beq]
  congr 1
  funext z
  show (z == i) = (i == z)
  rw [Bool.eq_iff_iff]; simp only [beq_iff_eq]; exact eq_comm
@[simp] theorem memD_int_intsl (i : Int) (l : List Int) : memD (.int i) (.lst (l.map .int)) = some (l.contains i) := memD_int_ints i l
@[simp] theorem memD_int_dk (i : Int) (l : List (Key × D)) : memD (.int i) (.dk l) = some (lookK (.inl i) l).isSome := by rfl
/-! ranges, zips -/
theorem rangeD_eq {lo hi : Int} (h1 : -1000000 ≤ lo) (h2 : lo ≤ 1000000) (h3 : -1000000 ≤ hi) (h4 : hi ≤ 10000000) : rangeD lo hi = some ((List.range (hi - lo).toNat).map fun (i : Nat) => .int (lo + (i : Int))) := by
  unfold rangeD
  rw [if_pos ⟨h1, h2, h3, h4⟩]
theorem zipWith_maps {A B : Type} (f : A → D) (g : B → D) (l : List A) (m : List B) : List.zipWith (fun x y => D.tup [x, y]) (l.map f) (m.map g) = (l.zip m).map fun p => .tup [f p.1, g p.2] := by
  induction l generalizing m with
  | nil => rfl
  | cons x l ih => cases m with
    | nil => rfl
    | cons y m => simp only [List.map_cons, List.zipWith_cons_cons, List.zip_cons_cons, ih m]
@[simp] theorem zipWith_zip {A B : Type} (f : A → B → D) (l : List A) (m : List B) : List.zipWith f l m = (l.zip m).map fun p => f p.1 p.2 := by
  induction l generalizing m with
  | nil => rfl
  | cons x l ih => cases m with
    | nil => rfl
    | cons y m => simp only [List.map_cons, List.zipWith_cons_cons, List.zip_cons_cons, ih m]
@[simp] theorem ite_fro {c : Prop} [Decidable c] (a b : D) : (if c then Vl.fro a else Vl.fro b) = .fro (if c then a else b) := by split <;> rfl
@[simp] theorem ite_bl {c : Prop} [Decidable c] (a b : Bool) : (if c then D.bl a else D.bl b) = .bl (if c then a else b) := by split <;> rfl
@[simp] theorem ite_int {c : Prop} [Decidable c] (a b : Int) : (if c then D.int a else D.int b) = .int (if c then a else b) := by split <;> rfl
/-! comprehensions -/
def asgO (tg : Tg) (d : D) (s : List Sl) (w : List D) : Out En := match asgT tg d s with
  | some s => .ok ⟨s, w⟩
  | none => .bad
@[simp] theorem asgO_one (i : Nat) (d : D) (s : List Sl) (w : List D) : asgO (.one i) d s w = if (s.getD i .well).set = true then .ok ⟨s.set i (.fro d), w⟩ else .bad := by
  unfold asgO
  rw [asgT_one]
  by_cases h : (s.getD i .well).set = true
  · rw [if_pos h, if_pos h]
  · rw [if_neg h, if_neg h]
@[simp] theorem asgO_two (i j : Nat) (x y : D) (s : List Sl) (w : List D) : asgO (.two (.one i) (.one j)) (.tup [x, y]) s w = if (s.getD i .well).set = true then (if ((s.set i (.fro x)).getD j .well).set = true then .ok ⟨(s.set i (.fro x)).set j (.fro y), w⟩ else .bad) else .bad := by
  unfold asgO
  rw [asgT_two, asgT_one]
  by_cases h : (s.getD i .well).set = true
  · rw [if_pos h, if_pos h, Option.bind_some, asgT_one]
    by_cases h' : ((s.set i (.fro x)).getD j .well).set = true
    · rw [if_pos h', if_pos h']
    · rw [if_neg h', if_neg h']
  · rw [if_neg h, if_neg h]
    rfl
def lcGood (own : List Nat) (e : En) (o : Out (List D × En)) : Prop := ∃ r e1, o = .ok (r, e1) ∧ (⟨wipeS own e1.s, e1.w⟩ : En) = e
def lcOut : Out (List D × En) → List D
  | .ok (r, _) => r
  | _ => []
open Classical in
noncomputable def lcM {A : Type} (own : List Nat) (b : A → Out (List D × En)) (l : List A) (e : En) (fb : Out (List D × En)) : Out (List D × En) := if ∀ y ∈ l, lcGood own e (b y) then .ok (l.flatMap fun y => lcOut (b y), e) else fb
def lcF (own : List Nat) (tg : Tg) (body : En → Out (List D × En)) (l : List D) (e : En) : Out (List D × En) := lcL own tg body l e
theorem lcL_pure {A : Type} (own : List Nat) (tg : Tg) (body : En → Out (List D × En)) (f : A → D) (l : List A) (e : En) (h : ∀ y ∈ l, lcGood own e ((asgO tg (f y) e.s e.w).bind body)) : lcL own tg body (l.map f) e = .ok (l.flatMap fun y => lcOut ((asgO tg (f y) e.s e.w).bind body), e) := by
  induction l with
  | nil => rfl
  | cons y l ih =>
    obtain ⟨r, e1, h1, h2⟩ := h y (List.mem_cons_self ..)
    rw [List.map_cons, List.flatMap_cons, h1]
    unfold asgO at h1
    show (match asgT tg (f y) e.s with | none => _ | some s => _) = _
    cases ha : asgT tg (f y) e.s with
    | none => rw [ha] at h1; cases h1
    | some s =>
      rw [ha] at h1
      replace h1 : body ⟨s, e.w⟩ = _ := h1
      show (body ⟨s, e.w⟩).bind _ = _
      rw [h1, Out.bind_ok]
      show (lcL own tg body (l.map f) ⟨wipeS own e1.s, e1.w⟩).bind _ = _
      rw [h2, ih fun z hz => h z (List.mem_cons_of_mem _ hz)]
      rfl
@[simp] theorem lcL_map {A : Type} (own : List Nat) (tg : Tg) (body : En → Out (List D × En)) (f : A → D) (l : List A) (s : List Sl) (w : List D) : lcL own tg body (l.map f) ⟨s, w⟩ = lcM own (fun y => (asgO tg (f y) s w).bind body) l ⟨s, w⟩ (lcF own tg body (l.map f) ⟨s, w⟩) := by
  unfold lcM lcF
  split
  · rename_i h
    exact lcL_pure own tg body f l ⟨s, w⟩ h
  · rfl
@[simp] theorem lcM_ok {A : Type} (own : List Nat) (g : A → List D) (st : A → List Sl) (w : List D) (l : List A) (s : List Sl) (fb : Out (List D × En)) (h : ∀ y, wipeS own (st y) = s) : lcM own (fun y => .ok (g y, ⟨st y, w⟩)) l ⟨s, w⟩ fb = .ok (l.flatMap g, ⟨s, w⟩) := by
  unfold lcM
  rw [if_pos fun y _ => ⟨g y, ⟨st y, w⟩, rfl, by rw [h]⟩]
  rfl
/-- a comprehension whose body needs that its value is among those -/
theorem lcL_mem {A : Type} {own : List Nat} {tg : Tg} {body : En → Out (List D × En)} {f : A → D} {l : List A} {s : List Sl} {w : List D} (g : A → List D) (h : ∀ y ∈ l, ∃ e1, (asgO tg (f y) s w).bind body = .ok (g y, e1) ∧ wipeS own e1.s = s ∧ e1.w = w) : lcL own tg body (l.map f) ⟨s, w⟩ = .ok (l.flatMap g, ⟨s, w⟩) := by
  rw [lcL_pure own tg body f l ⟨s, w⟩ fun y hy => ?_]
  · congr 2
    induction l with
    | nil => rfl
    | cons y l ih =>
      rw [List.flatMap_cons, List.flatMap_cons, ih fun z hz => h z (List.mem_cons_of_mem _ hz)]
      obtain ⟨e1, h1, _⟩ := h y (List.mem_cons_self ..)
      congr 1
      show lcOut ((asgO tg (f y) s w).bind body) = _
      rw [h1]; rfl
  · obtain ⟨⟨s1, w1⟩, h1, h2, h3⟩ := h y hy
    refine ⟨g y, ⟨s1, w1⟩, h1, ?_⟩
    dsimp only at h2 h3
    rw [h2, h3]
theorem lcL_memD {own : List Nat} {tg : Tg} {body : En → Out (List D × En)} {l : List D} {s : List Sl} {w : List D} (g : D → List D) (h : ∀ y ∈ l, ∃ e1, (asgO tg y s w).bind body = .ok (g y, e1) ∧ wipeS own e1.s = s ∧ e1.w = w) : lcL own tg body l ⟨s, w⟩ = .ok (l.flatMap g, ⟨s, w⟩) := by
  have := lcL_mem (f := fun d : D => d) (l := l) g h
  rwa [show l.map (fun d : D => d) = l from List.map_id l] at this
@[simp] theorem lcL_nil (own : List Nat) (tg : Tg) (body : En → Out (List D × En)) (e : En) : lcL own tg body [] e = .ok ([], e) := by rfl
def K_lcL1 (own : List Nat) (tg : Tg) (body : En → Out (List D × En)) (xs : List D) : List D × En → Out (List D × En)
  | (o, e1) => (lcL own tg body xs ⟨wipeS own e1.s, e1.w⟩).bind fun (r, e2) => .ok (o ++ r, e2)
def K_lcL2 (o : List D) : List D × En → Out (List D × En)
  | (r, e2) => .ok (o ++ r, e2)
@[simp] theorem K_lcL2_eq (o r : List D) (e2 : En) : K_lcL2 o (r, e2) = .ok (o ++ r, e2) := by rfl
@[simp] theorem K_lcL1_eq (own : List Nat) (tg : Tg) (body : En → Out (List D × En)) (xs o : List D) (s : List Sl) (w : List D) : K_lcL1 own tg body xs (o, ⟨s, w⟩) = (lcL own tg body xs ⟨wipeS own s, w⟩).bind (K_lcL2 o) := by rfl
@[simp] theorem lcL_cons (own : List Nat) (tg : Tg) (body : En → Out (List D × En)) (x : D) (xs : List D) (s : List Sl) (w : List D) : lcL own tg body (x :: xs) ⟨s, w⟩ = ((asgO tg x s w).bind body).bind (K_lcL1 own tg body xs) := by
  show (match asgT tg x s with | none => _ | some s => _) = _
  unfold asgO
  cases asgT tg x s <;> rfl
@[simp] theorem flatMap_one {A : Type} (l : List A) (g : A → D) : (l.flatMap fun y => [g y]) = l.map g := by
  induction l with
  | nil => rfl
  | cons x l ih => rw [List.flatMap_cons, ih]; rfl
@[simp] theorem flatMap_ite {A : Type} (l : List A) (c : A → Bool) (g : A → D) : (l.flatMap fun y => if c y = true then [g y] else []) = (l.filter c).map g := by
  induction l with
  | nil => rfl
  | cons x l ih =>
    rw [List.flatMap_cons, ih, List.filter_cons]
    split <;> rfl
@[simp] theorem flatMap_dite {A : Type} (l : List A) (c : A → Prop) [DecidablePred c] (g : A → D) : (l.flatMap fun y => if c y then [g y] else []) = (l.filter fun y => decide (c y)).map g := by
  induction l with
  | nil => rfl
  | cons x l ih =>
    rw [List.flatMap_cons, ih, List.filter_cons]
    by_cases h : c x
    · rw [if_pos h, if_pos (decide_eq_true h)]; rfl
    · rw [if_neg h, if_neg (by simpa using h)]; rfl
/-! what holds of a run that ends well -/
def Wp {A : Type} (o : Out A) (Q : A → Prop) : Prop := ∃ a, o = .ok a ∧ Q a
@[simp] theorem Wp_ok {A : Type} (a : A) (Q : A → Prop) : Wp (.ok a) Q ↔ Q a := ⟨fun ⟨_, h, q⟩ => by cases h; exact q, fun q => ⟨a, rfl, q⟩⟩
theorem Wp.bind {A B : Type} {o : Out A} {f : A → Out B} {Q : B → Prop} (h : Wp o fun a => Wp (f a) Q) : Wp (o.bind f) Q := by
  obtain ⟨a, rfl, b, h, q⟩ := h
  exact ⟨b, h, q⟩
theorem Wp.mono {A : Type} {o : Out A} {P Q : A → Prop} (h : Wp o P) (k : ∀ a, P a → Q a) : Wp o Q := by
  obtain ⟨a, rfl, p⟩ := h
  exact ⟨a, rfl, k a p⟩
theorem Wp.seq {A B : Type} {o : Out A} {f : A → Out B} {P : A → Prop} {Q : B → Prop} (h : Wp o P) (k : ∀ a, P a → Wp (f a) Q) : Wp (o.bind f) Q := Wp.bind (h.mono k)
/-- a loop, by an invariant over what is left -/
theorem forL_wp {tg : Tg} {body : En → Out (Fl × En)} {Q : Fl × En → Prop} (I : List D → En → Prop)
    (step : ∀ x xs e, I (x :: xs) e → Wp ((asgO tg x e.s e.w).bind body) fun r => match r.1 with
      | .nx => I xs r.2
      | .bk => Q (.nx, r.2)
      | .rt v => Q (.rt v, r.2))
    (done : ∀ e, I [] e → Q (.nx, e)) : ∀ (xs : List D) (e : En), I xs e → Wp (forL tg body xs e) Q
  | [], e, h => ⟨_, rfl, done e h⟩
  | x :: xs, e, h => by
    have q := step x xs e h
    show Wp (match asgT tg x e.s with | none => _ | some s => _) Q
    unfold asgO at q
    cases ha : asgT tg x e.s with
    | none => rw [ha] at q; obtain ⟨_, q, _⟩ := q; cases q
    | some s =>
      rw [ha] at q
      replace q : Wp (body ⟨s, e.w⟩) _ := q
      refine Wp.bind (q.mono fun r p => ?_)
      obtain ⟨f, e1⟩ := r
      cases f with
      | nx => exact forL_wp I step done xs e1 p
      | bk => exact ⟨_, rfl, p⟩
      | rt v => exact ⟨_, rfl, p⟩
theorem whileL_wp {t : En → Out (Bool × En)} {body : En → Out (Fl × En)} {Q : Fl × En → Prop} (I : Nat → En → Prop)
    (step : ∀ n e, I n e → Wp (t e) fun r => if r.1 then Wp (body r.2) fun q => (match q.1 with
      | .nx => ∃ m, m < n ∧ I m q.2
      | .bk => Q (.nx, q.2)
      | .rt v => Q (.rt v, q.2)) else Q (.nx, r.2)) : ∀ (n k : Nat) (e : En), I n e → n < k → Wp (whileL t body k e) Q
  | n, 0, e, h, hk => absurd hk (by omega)
  | n, k + 1, e, h, hk => by
    refine Wp.bind ((step n e h).mono fun r p => ?_)
    obtain ⟨b, e1⟩ := r
    cases b with
    | false => exact ⟨_, rfl, p⟩
    | true =>
      refine Wp.bind ((show Wp (body e1) _ from p).mono fun q z => ?_)
      obtain ⟨f, e2⟩ := q
      cases f with
      | nx => obtain ⟨m, hm, z⟩ := z; exact whileL_wp I step m k e2 z (by omega)
      | bk => exact ⟨_, rfl, z⟩
      | rt v => exact ⟨_, rfl, z⟩
/-- a loop: R stands for what is to be shown of its body -/
theorem forL_w {tg : Tg} {body : En → Out (Fl × En)} {Q : Fl × En → Prop} {xs : List D} {e : En} (I : List D → En → Prop) (h0 : I xs e)
    (done : ∀ e, I [] e → Q (.nx, e))
    (step : ∀ (R : Fl × En → Prop) x xs e, I (x :: xs) e → (∀ e', I xs e' → R (.nx, e')) → (∀ e', Q (.nx, e') → R (.bk, e')) → (∀ v e', Q (.rt v, e') → R (.rt v, e')) → Wp ((asgO tg x e.s e.w).bind body) R) : Wp (forL tg body xs e) Q :=
  forL_wp I (fun x xs e h => step _ x xs e h (fun _ h => h) (fun _ h => h) fun _ _ h => h) done xs e h0
theorem whileL_w {t : En → Out (Bool × En)} {body : En → Out (Fl × En)} {Q : Fl × En → Prop} {k : Nat} {e : En} (I : Nat → En → Prop) (n : Nat) (h0 : I n e) (hk : n < k)
    (step : ∀ n e, I n e → ∃ b e1, t e = .ok (b, e1) ∧ (b = false → Q (.nx, e1)) ∧ (b = true → ∀ R : Fl × En → Prop, (∀ m e', m < n → I m e' → R (.nx, e')) → (∀ e', Q (.nx, e') → R (.bk, e')) → (∀ v e', Q (.rt v, e') → R (.rt v, e')) → Wp (body e1) R)) : Wp (whileL t body k e) Q :=
  whileL_wp I (fun n e h => by
    obtain ⟨b, e1, h1, h2, h3⟩ := step n e h
    refine ⟨(b, e1), h1, ?_⟩
    cases b with
    | false => exact h2 rfl
    | true => exact h3 rfl _ (fun m e' hm h => ⟨m, hm, h⟩) (fun _ h => h) fun _ _ h => h) n k e h0 hk
theorem Wp.noexc {A : Type} {o : Out A} {Q : A → Prop} (h : Wp o Q) : Wp (Pk.noexc o) Q := by
  obtain ⟨a, rfl, q⟩ := h
  exact ⟨a, rfl, q⟩
@[simp] theorem eqvs_isEmpty (l : List Int) : (l.map D.int).isEmpty = l.isEmpty := by cases l <;> rfl
theorem insL_lt {x : Int} {l : List Int} (h : ∀ y ∈ l, x < y) : insL x l = x :: l := by
  cases l with
  | nil => rfl
  | cons y l => unfold insL; rw [if_pos (by have := h y (List.mem_cons_self ..); omega)]
theorem sortI_asc {l : List Int} (h : l.Pairwise (· < ·)) : sortI l = l := by
  induction l with
  | nil => rfl
  | cons x l ih =>
    obtain ⟨h1, h2⟩ := List.pairwise_cons.mp h
    unfold sortI
    rw [ih h2, insL_lt h1]
theorem ikeysD_map (f : Int → D) (cs : List Int) : ikeysD (cs.map fun c => (.inl c, f c)) = some cs := by
  induction cs with
  | nil => rfl
  | cons x cs ih => rw [List.map_cons]; show (ikeysD _).map _ = _; rw [ih]; rfl
@[simp] theorem blt_sorted_dk (l : List (Key × D)) : bltop .sorted [.dk l] = if l.length < 64 then (ikeysD l).map fun ns => .own (.lst ((sortI ns).map .int)) else none := by rfl
@[simp] theorem blt_sorted_lst (l : List D) : bltop .sorted [.lst l] = if l.length < 64 then sortD l else none := by rfl
@[simp] theorem all_true {A : Type} (l : List A) : (l.all fun _ => true) = true := by simp
/-- a comprehension whose body changes the well -/
theorem lcL_w {own : List Nat} {tg : Tg} {body : En → Out (List D × En)} {Q : List D × En → Prop} (I : List D → List D → En → Prop)
    (done : ∀ acc e, I acc [] e → Q (acc, e))
    (step : ∀ (R : List D × En → Prop) acc x xs e, I acc (x :: xs) e → (∀ o e1, I (acc ++ o) xs ⟨wipeS own e1.s, e1.w⟩ → R (o, e1)) → Wp ((asgO tg x e.s e.w).bind body) R) : ∀ (xs acc : List D) (e : En), I acc xs e → Wp (lcL own tg body xs e) fun r => Q (acc ++ r.1, r.2)
  | [], acc, e, h => ⟨_, rfl, by show Q (acc ++ [], e); rw [List.append_nil]; exact done acc e h⟩
  | x :: xs, acc, ⟨s, w⟩, h => by
    rw [lcL_cons]
    refine Wp.bind (Wp.mono (step (fun r => I (acc ++ r.1) xs ⟨wipeS own r.2.s, r.2.w⟩) acc x xs ⟨s, w⟩ h fun o e1 k => k) fun r k => ?_)
    obtain ⟨o, ⟨s1, w1⟩⟩ := r
    rw [K_lcL1_eq]
    refine Wp.bind (Wp.mono (lcL_w I done step xs (acc ++ o) _ k) fun r k => ?_)
    obtain ⟨r, e2⟩ := r
    refine ⟨_, rfl, ?_⟩
    show Q (acc ++ (o ++ r), e2)
    rw [← List.append_assoc]
    exact k
theorem lcL_wp {own : List Nat} {tg : Tg} {body : En → Out (List D × En)} {Q : List D × En → Prop} {xs : List D} {e : En} (I : List D → List D → En → Prop) (h0 : I [] xs e)
    (done : ∀ acc e, I acc [] e → Q (acc, e))
    (step : ∀ (R : List D × En → Prop) acc x xs e, I acc (x :: xs) e → (∀ o e1, I (acc ++ o) xs ⟨wipeS own e1.s, e1.w⟩ → R (o, e1)) → Wp ((asgO tg x e.s e.w).bind body) R) : Wp (lcL own tg body xs e) Q :=
  (lcL_w I done step xs [] e h0).mono fun r h => by obtain ⟨r, e2⟩ := r; exact h
def AllSet (l : List Sl) : Prop := ∀ x ∈ l, x.set = true
theorem AllSet_nil : AllSet [] ↔ True := ⟨fun _ => trivial, fun _ _ h => by cases h⟩
theorem AllSet_cons (x : Sl) (l : List Sl) : AllSet (x :: l) ↔ x.set = true ∧ AllSet l := by
  unfold AllSet
  constructor
  · exact fun h => ⟨h x (List.mem_cons_self ..), fun y hy => h y (List.mem_cons_of_mem _ hy)⟩
  · rintro ⟨h1, h2⟩ y hy
    rcases List.mem_cons.mp hy with rfl | hy
    · exact h1
    · exact h2 y hy
theorem Wp.eq {A : Type} {o : Out A} {x : A} (h : Wp o fun r => r = x) : o = .ok x := by
  obtain ⟨a, rfl, rfl⟩ := h
  rfl
theorem Wp.of {A : Type} {o : Out A} {x : A} {Q : A → Prop} (h : o = .ok x) (q : Q x) : Wp o Q := ⟨x, h, q⟩
/-! dicts -/
@[simp] theorem keyD_int (i : Int) : keyD (.int i) = some (.inl i) := by rfl
@[simp] theorem keyV_inl (i : Int) : keyV (.inl i) = .int i := by rfl
@[simp] theorem itemsD_dk (l : List (Key × D)) : itemsD (.dk l) = some (l.map fun p => .tup [keyV p.1, p.2]) := by rfl
@[simp] theorem keysOf_dk (l : List (Key × D)) : keysOf (.dk l) = some (l.map fun p => keyV p.1) := by rfl
@[simp] theorem putD_dk_int (l : List (Key × D)) (k : Int) (v : D) : putD (.dk l) (.int k) v = if l.length < lim then some (.dk (putK (.inl k) v l)) else none := by
  show (if _ then _ else _) = _
  split <;> rfl
theorem putK_new {K V : Type} [DecidableEq K] {k : K} {v : V} {l : List (K × V)} (h : ∀ p ∈ l, p.1 ≠ k) : putK k v l = l ++ [(k, v)] := by
  unfold putK
  rw [if_neg]
  rw [List.any_eq_true]
  rintro ⟨p, hp, e⟩
  exact h p hp (of_decide_eq_true e)
theorem lookK_map {V : Type} (f : Int → V) (cs : List Int) (c : Int) : lookK (.inl c : Key) (cs.map fun c => (.inl c, f c)) = if c ∈ cs then some (f c) else none := by
  unfold lookK
  induction cs with
  | nil => rfl
  | cons x cs ih =>
    rw [List.map_cons, List.find?_cons]
    by_cases h : x = c
    · subst h; simp
    · have : decide ((.inl x : Key) = .inl c) = false := decide_eq_false (by rintro ⟨⟩; exact h rfl)
      simp only [this]
      rw [ih]
      simp [h, show ¬ c = x from fun e => h e.symm]
theorem dcD_map (g : Int → D) : ∀ (cs : List Int) (acc : List (Key × D)), cs.Nodup → (∀ c ∈ cs, ∀ p ∈ acc, p.1 ≠ .inl c) → dcD (cs.flatMap fun c => [.int c, g c]) acc = some (acc ++ cs.map fun c => (.inl c, g c))
  | [], acc, _, _ => by rw [List.map_nil, List.append_nil]; rfl
  | c :: cs, acc, h, k => by
    obtain ⟨h1, h2⟩ := List.nodup_cons.mp h
    rw [List.flatMap_cons]
    show dcD (cs.flatMap fun c => [.int c, g c]) (putK (.inl c) (g c) acc) = _
    rw [putK_new (k c (List.mem_cons_self ..)), dcD_map g cs _ h2 fun x hx p hp => ?_]
    · rw [List.append_assoc]; rfl
    · rcases List.mem_append.mp hp with hp | hp
      · exact k x (List.mem_cons_of_mem _ hx) p hp
      · rw [List.mem_singleton.mp hp]
        rintro ⟨⟩
        exact h1 hx
/-! ends of defs -/
@[simp] theorem endR_rt {c : Fc} (h : c.w = false) (v : Vl) (e : En) : endR c (.rt v, e) = .ok (v, e.w) := by
  unfold endR okW
  dsimp only
  rw [h]
  simp
@[simp] theorem endR_nx {c : Fc} (h : c.w = false) (e : En) : endR c (.nx, e) = .ok (.fro .non, e.w) := by
  unfold endR okW
  dsimp only
  rw [h]
  simp
@[simp] theorem endR_rtw {c : Fc} (h : c.w = true) (v : Vl) (s : List Sl) (w : List D) : endR c (.rt v, ⟨.well :: s, w⟩) = .ok (v, w) := by
  unfold endR okW
  dsimp only
  rw [h]
  simp
@[simp] theorem endR_nxw {c : Fc} (h : c.w = true) (s : List Sl) (w : List D) : endR c (.nx, ⟨.well :: s, w⟩) = .ok (.fro .non, w) := by
  unfold endR okW
  dsimp only
  rw [h]
  simp
end Pk

end
section
/-! all codes -/
namespace Pk
open PySem L2
-- law_well: 0 (_law_script, _law_k, _law_cell)
def b_law_well : Sms := (.cons (.set 2 (.bin .add (.bin .mul (.const (.int 55541)) (.name 1)) (.const (.int 61))))
      (.cons (.ite (.cmp .lt (.name 1) (.blt .len (.cons (.name 0) .nil)))
      (.cons (.set 2 (.bin .mod (.blt .abs (.cons (.blt .int (.cons (.sub (.name 0) (.name 1)) .nil)) .nil)) (.bin .mul (.bin .mul (.bin .mul (.bin .pow (.const (.int 10)) (.const (.int 60))) (.bin .pow (.const (.int 10)) (.const (.int 60)))) (.bin .pow (.const (.int 10)) (.const (.int 60)))) (.bin .pow (.const (.int 10)) (.const (.int 60))))))
      .nil)
      (.cons (.ite (.cmp .gt (.blt .len (.cons (.name 0) .nil)) (.const (.int 0)))
      (.cons (.set 2 (.bin .add (.name 2) (.bin .mod (.blt .abs (.cons (.blt .int (.cons (.sub (.name 0) (.const (.int 0))) .nil)) .nil)) (.const (.int 1000253)))))
      .nil)
      .nil)
      .nil))
      (.cons (.ret (.lst (.cons (.ite (.cmp .ge (.name 2) (.bin .pow (.const (.int 10)) (.const (.int 18)))) (.name 2) (.const (.int 0))) (.cons (.bin .add (.bin .mod (.blt .int (.cons (.bin .add (.bin .add (.bin .mul (.bin .mod (.name 2) (.const (.int 2147483281))) (.const (.int 5))) (.bin .mul (.const (.int 53)) (.name 1))) (.const (.int 13))) .nil)) (.const (.int 2147483281))) (.const (.int 1))) .nil))))
      .nil)))
def c_law_well : Fc := ⟨2, false, 3, b_law_well⟩
theorem u_law_well {T : Nat → Option Fc} {G : Gv} {n : Nat} {w : List D} (a0 a1 : D) [TIs T 0 c_law_well] : run T G (n + 1) 0 [a0, a1] w = (execs (run T G n) G b_law_well ⟨[.fro a0, .fro a1, .un], w⟩).bind (endR c_law_well) := run_call (c := c_law_well) (ds := [a0, a1]) rfl
@[simp] theorem w_law_well : c_law_well.w = false := by rfl
-- law_dip: 1 (_law_well_here, _law_many, _law_found, _law_wide)
def b_law_dip : Sms := (.cons (.ite (.cmp .gt (.sub (.name 0) (.const (.int 0))) (.const (.int 0)))
      (.cons (.set 2 (.bin .mod (.blt .int (.cons (.sub (.name 0) (.const (.int 0))) .nil)) (.name 1)))
      (.cons (.store 0 (.const (.int 0)) (.bin .fdiv (.sub (.name 0) (.const (.int 0))) (.name 1)))
      (.cons (.ret (.name 2))
      .nil)))
      .nil)
      (.cons (.setT (.two (.one 2) (.one 3)) (.tup (.cons (.const (.int 0)) (.cons (.const (.int 1)) .nil))))
      (.cons (.while_ (.or (.cmp .lt (.name 3) (.name 1)) (.cmp .eq (.name 3) (.const (.int 1))))
      (.cons (.store 0 (.const (.int 1)) (.bin .mod (.blt .int (.cons (.bin .add (.bin .mul (.sub (.name 0) (.const (.int 1))) (.const (.int 28657))) (.const (.int 61))) .nil)) (.const (.int 2147483281))))
      (.cons (.set 2 (.bin .add (.bin .mul (.name 2) (.const (.int 8192))) (.bin .mod (.blt .int (.cons (.bin .fdiv (.sub (.name 0) (.const (.int 1))) (.const (.int 65569))) .nil)) (.const (.int 8192)))))
      (.cons (.set 3 (.bin .mul (.name 3) (.const (.int 8192))))
      .nil))))
      (.cons (.ret (.bin .mod (.blt .int (.cons (.name 2) .nil)) (.name 1)))
      .nil))))
def c_law_dip : Fc := ⟨1, true, 4, b_law_dip⟩
theorem u_law_dip {T : Nat → Option Fc} {G : Gv} {n : Nat} {w : List D} (a0 : D) [TIs T 1 c_law_dip] : run T G (n + 1) 1 [a0] w = (execs (run T G n) G b_law_dip ⟨[.well, .fro a0, .un, .un], w⟩).bind (endR c_law_dip) := run_call (c := c_law_dip) (ds := [a0]) rfl
@[simp] theorem w_law_dip : c_law_dip.w = true := by rfl
-- law_pick: 2 (_law_well_here, _law_things)
def b_law_pick : Sms := (.cons (.ret (.sub (.name 1) (.callw 1 0 (.cons (.blt .len (.cons (.name 1) .nil)) .nil))))
      .nil)
def c_law_pick : Fc := ⟨1, true, 2, b_law_pick⟩
theorem u_law_pick {T : Nat → Option Fc} {G : Gv} {n : Nat} {w : List D} (a0 : D) [TIs T 2 c_law_pick] : run T G (n + 1) 2 [a0] w = (execs (run T G n) G b_law_pick ⟨[.well, .fro a0], w⟩).bind (endR c_law_pick) := run_call (c := c_law_pick) (ds := [a0]) rfl
@[simp] theorem w_law_pick : c_law_pick.w = true := by rfl
-- law_kind: 3 (_law_well_here, _law_chambers, _law_depths, _law_wide)
def b_law_kind : Sms := (.cons (.set 3 (.bin .add (.const (.int 2)) (.callw 1 0 (.cons (.bin .sub (.name 2) (.const (.int 1))) .nil))))
      (.cons (.ret (.tup (.cons (.bin .add (.const (.int 2)) (.callw 1 0 (.cons (.bin .sub (.name 1) (.const (.int 1))) .nil))) (.cons (.name 3) (.cons (.callw 2 0 (.cons (.lst (.cons (.const (.int 1)) (.cons (.bin .sub (.name 3) (.const (.int 1))) (.cons (.bin .add (.const (.int 1)) (.callw 1 0 (.cons (.bin .sub (.name 3) (.const (.int 1))) .nil))) .nil)))) .nil)) .nil)))))
      .nil))
def c_law_kind : Fc := ⟨2, true, 4, b_law_kind⟩
theorem u_law_kind {T : Nat → Option Fc} {G : Gv} {n : Nat} {w : List D} (a0 a1 : D) [TIs T 3 c_law_kind] : run T G (n + 1) 3 [a0, a1] w = (execs (run T G n) G b_law_kind ⟨[.well, .fro a0, .fro a1, .un], w⟩).bind (endR c_law_kind) := run_call (c := c_law_kind) (ds := [a0, a1]) rfl
@[simp] theorem w_law_kind : c_law_kind.w = true := by rfl
-- law_cuts: 4 (_law_well_here, _law_depths, _law_one, _law_rare, _law_cut)
def b_law_cuts : Sms := (.cons (.set 2 (.callw 1 0 (.cons (.name 1) .nil)))
      (.cons (.set 3 (.callw 2 0 (.cons (.lst (.cons (.const (.int 2)) (.cons (.const (.int 2)) (.cons (.const (.int 3)) (.cons (.const (.int 5)) .nil))))) .nil)))
      (.cons (.ret (.blt .tuple (.cons (.lc (.name 4) [4] (.one 4) (.range1 (.name 1)) (.some (.or (.cmp .eq (.name 4) (.name 2)) (.cmp .eq (.callw 1 0 (.cons (.name 3) .nil)) (.const (.int 0)))))) .nil)))
      .nil)))
def c_law_cuts : Fc := ⟨1, true, 5, b_law_cuts⟩
theorem u_law_cuts {T : Nat → Option Fc} {G : Gv} {n : Nat} {w : List D} (a0 : D) [TIs T 4 c_law_cuts] : run T G (n + 1) 4 [a0] w = (execs (run T G n) G b_law_cuts ⟨[.well, .fro a0, .un, .un, .un], w⟩).bind (endR c_law_cuts) := run_call (c := c_law_cuts) (ds := [a0]) rfl
@[simp] theorem w_law_cuts : c_law_cuts.w = true := by rfl
-- law_lock: 5 (_law_well_here, _law_kind_here, _law_chamber)
def b_law_lock : Sms := (.cons (.ret (.blt .tuple (.cons (.lc (.callw 4 0 (.cons (.sub (.name 1) (.const (.int 1))) .nil)) [2] (.one 2) (.range1 (.sub (.name 1) (.const (.int 0)))) .none) .nil)))
      .nil)
def c_law_lock : Fc := ⟨1, true, 3, b_law_lock⟩
theorem u_law_lock {T : Nat → Option Fc} {G : Gv} {n : Nat} {w : List D} (a0 : D) [TIs T 5 c_law_lock] : run T G (n + 1) 5 [a0] w = (execs (run T G n) G b_law_lock ⟨[.well, .fro a0, .un], w⟩).bind (endR c_law_lock) := run_call (c := c_law_lock) (ds := [a0]) rfl
@[simp] theorem w_law_lock : c_law_lock.w = true := by rfl
-- is_int: 6 (value, low, high)
def b_is_int : Sms := (.cons (.ret (.and (.isi .int (.name 0)) (.and (.not (.isi .bool (.name 0))) (.cmp2 .le .le (.name 1) (.name 0) (.name 2)))))
      .nil)
def c_is_int : Fc := ⟨3, false, 3, b_is_int⟩
theorem u_is_int {T : Nat → Option Fc} {G : Gv} {n : Nat} {w : List D} (a0 a1 a2 : D) [TIs T 6 c_is_int] : run T G (n + 1) 6 [a0, a1, a2] w = (execs (run T G n) G b_is_int ⟨[.fro a0, .fro a1, .fro a2], w⟩).bind (endR c_is_int) := run_call (c := c_is_int) (ds := [a0, a1, a2]) rfl
@[simp] theorem w_is_int : c_is_int.w = false := by rfl
-- is_kind: 7 (value)
def b_is_kind : Sms := (.cons (.ite (.or (.not (.isi .tuple (.name 0))) (.or (.cmp .ne (.blt .len (.cons (.name 0) .nil)) (.const (.int 3))) (.or (.not (.call 6 (.cons (.sub (.name 0) (.const (.int 0))) (.cons (.const (.int 2)) (.cons (.const (.int 6)) .nil))))) (.not (.call 6 (.cons (.sub (.name 0) (.const (.int 1))) (.cons (.const (.int 2)) (.cons (.const (.int 10)) .nil))))))))
      (.cons (.ret (.const (.bl false)))
      .nil)
      .nil)
      (.cons (.ret (.call 6 (.cons (.sub (.name 0) (.const (.int 2))) (.cons (.const (.int 1)) (.cons (.bin .sub (.sub (.name 0) (.const (.int 1))) (.const (.int 1))) .nil)))))
      .nil))
def c_is_kind : Fc := ⟨1, false, 1, b_is_kind⟩
theorem u_is_kind {T : Nat → Option Fc} {G : Gv} {n : Nat} {w : List D} (a0 : D) [TIs T 7 c_is_kind] : run T G (n + 1) 7 [a0] w = (execs (run T G n) G b_is_kind ⟨[.fro a0], w⟩).bind (endR c_is_kind) := run_call (c := c_is_kind) (ds := [a0]) rfl
@[simp] theorem w_is_kind : c_is_kind.w = false := by rfl
-- need_kind: 8 (kind)
def b_need_kind : Sms := (.cons (.ite (.not (.call 7 (.cons (.name 0) .nil)))
      (.cons (.raise 0 "no kind")
      .nil)
      .nil)
      .nil)
def c_need_kind : Fc := ⟨1, false, 1, b_need_kind⟩
theorem u_need_kind {T : Nat → Option Fc} {G : Gv} {n : Nat} {w : List D} (a0 : D) [TIs T 8 c_need_kind] : run T G (n + 1) 8 [a0] w = (execs (run T G n) G b_need_kind ⟨[.fro a0], w⟩).bind (endR c_need_kind) := run_call (c := c_need_kind) (ds := [a0]) rfl
@[simp] theorem w_need_kind : c_need_kind.w = false := by rfl
-- is_rising: 9 (value, low, high, one, other, part)
def b_is_rising : Sms := (.cons (.ite (.or (.not (.isi .tuple (.name 0))) (.not (.blt .all (.cons (.lc (.call 6 (.cons (.name 5) (.cons (.name 1) (.cons (.name 2) .nil)))) [5] (.one 5) (.seq (.name 0)) .none) .nil))))
      (.cons (.ret (.const (.bl false)))
      .nil)
      .nil)
      (.cons (.ret (.blt .all (.cons (.lc (.cmp .lt (.name 3) (.name 4)) [3, 4] (.two (.one 3) (.one 4)) (.zip (.name 0) (.slice (.name 0) (.some (.const (.int 1))) .none)) .none) .nil)))
      .nil))
def c_is_rising : Fc := ⟨3, false, 6, b_is_rising⟩
theorem u_is_rising {T : Nat → Option Fc} {G : Gv} {n : Nat} {w : List D} (a0 a1 a2 : D) [TIs T 9 c_is_rising] : run T G (n + 1) 9 [a0, a1, a2] w = (execs (run T G n) G b_is_rising ⟨[.fro a0, .fro a1, .fro a2, .un, .un, .un], w⟩).bind (endR c_is_rising) := run_call (c := c_is_rising) (ds := [a0, a1, a2]) rfl
@[simp] theorem w_is_rising : c_is_rising.w = false := by rfl
-- is_lock_of: 10 (kind, value, cuts)
def b_is_lock_of : Sms := (.cons (.ite (.or (.not (.isi .tuple (.name 1))) (.cmp .ne (.blt .len (.cons (.name 1) .nil)) (.sub (.name 0) (.const (.int 0)))))
      (.cons (.ret (.const (.bl false)))
      .nil)
      .nil)
      (.cons (.ret (.blt .all (.cons (.lc (.and (.call 9 (.cons (.name 2) (.cons (.const (.int 0)) (.cons (.bin .sub (.sub (.name 0) (.const (.int 1))) (.const (.int 1))) .nil)))) (.cmp .ne (.name 2) (.tup .nil))) [2] (.one 2) (.seq (.name 1)) .none) .nil)))
      .nil))
def c_is_lock_of : Fc := ⟨2, false, 3, b_is_lock_of⟩
theorem u_is_lock_of {T : Nat → Option Fc} {G : Gv} {n : Nat} {w : List D} (a0 a1 : D) [TIs T 10 c_is_lock_of] : run T G (n + 1) 10 [a0, a1] w = (execs (run T G n) G b_is_lock_of ⟨[.fro a0, .fro a1, .un], w⟩).bind (endR c_is_lock_of) := run_call (c := c_is_lock_of) (ds := [a0, a1]) rfl
@[simp] theorem w_is_lock_of : c_is_lock_of.w = false := by rfl
-- need_lock: 11 (kind, lock)
def b_need_lock : Sms := (.cons (.ite (.not (.call 10 (.cons (.name 0) (.cons (.name 1) .nil))))
      (.cons (.raise 1 "no lock")
      .nil)
      .nil)
      .nil)
def c_need_lock : Fc := ⟨2, false, 2, b_need_lock⟩
theorem u_need_lock {T : Nat → Option Fc} {G : Gv} {n : Nat} {w : List D} (a0 a1 : D) [TIs T 11 c_need_lock] : run T G (n + 1) 11 [a0, a1] w = (execs (run T G n) G b_need_lock ⟨[.fro a0, .fro a1], w⟩).bind (endR c_need_lock) := run_call (c := c_need_lock) (ds := [a0, a1]) rfl
@[simp] theorem w_need_lock : c_need_lock.w = false := by rfl
-- tails: 12 (kind, lock, found, cuts, later, ways, cut, there, many)
def b_tails : Sms := (.cons (.set 2 (.lst (.cons (.dc (.name 6) (.const (.int 1)) [6] (.one 6) (.seq (.sub (.name 1) (.neg (.const (.int 1)))))) .nil)))
      (.cons (.for_ (.one 3) (.seq (.revb (.name 1)))
      (.cons (.set 4 (.sub (.name 2) (.const (.int 0))))
      (.cons (.set 5 (.dict0 false))
      (.cons (.for_ (.one 6) (.seq (.name 3))
      (.cons (.putd 5 (.name 6) (.blt .sum (.cons (.lci (.name 8) [7, 8] (.two (.one 7) (.one 8)) true 4 (.some (.cmp .le (.blt .abs (.cons (.bin .sub (.name 7) (.name 6)) .nil)) (.sub (.name 0) (.const (.int 2)))))) .nil)))
      .nil))
      (.cons (.set 2 (.bin .add (.lst (.cons (.name 5) .nil)) (.name 2)))
      .nil)))))
      (.cons (.ret (.name 2))
      .nil)))
def c_tails : Fc := ⟨2, false, 9, b_tails⟩
theorem u_tails {T : Nat → Option Fc} {G : Gv} {n : Nat} {w : List D} (a0 a1 : D) [TIs T 12 c_tails] : run T G (n + 1) 12 [a0, a1] w = (execs (run T G n) G b_tails ⟨[.fro a0, .fro a1, .un, .un, .un, .un, .un, .un, .un], w⟩).bind (endR c_tails) := run_call (c := c_tails) (ds := [a0, a1]) rfl
@[simp] theorem w_tails : c_tails.w = false := by rfl
-- number_of: 13 (kind, lock)
def b_number_of : Sms := (.cons (.ret (.sumv (.sub (.call 12 (.cons (.name 0) (.cons (.name 1) .nil))) (.const (.int 0)))))
      .nil)
def c_number_of : Fc := ⟨2, false, 2, b_number_of⟩
theorem u_number_of {T : Nat → Option Fc} {G : Gv} {n : Nat} {w : List D} (a0 a1 : D) [TIs T 13 c_number_of] : run T G (n + 1) 13 [a0, a1] w = (execs (run T G n) G b_number_of ⟨[.fro a0, .fro a1], w⟩).bind (endR c_number_of) := run_call (c := c_number_of) (ds := [a0, a1]) rfl
@[simp] theorem w_number_of : c_number_of.w = false := by rfl
-- count: 14 (kind, lock)
def b_count : Sms := (.cons (.expr (.call 8 (.cons (.name 0) .nil)))
      (.cons (.expr (.call 11 (.cons (.name 0) (.cons (.name 1) .nil))))
      (.cons (.ret (.call 13 (.cons (.name 0) (.cons (.name 1) .nil))))
      .nil)))
def c_count : Fc := ⟨2, false, 2, b_count⟩
theorem u_count {T : Nat → Option Fc} {G : Gv} {n : Nat} {w : List D} (a0 a1 : D) [TIs T 14 c_count] : run T G (n + 1) 14 [a0, a1] w = (execs (run T G n) G b_count ⟨[.fro a0, .fro a1], w⟩).bind (endR c_count) := run_call (c := c_count) (ds := [a0, a1]) rfl
@[simp] theorem w_count : c_count.w = false := by rfl
-- need_number: 15 (number, low, high)
def b_need_number : Sms := (.cons (.ite (.not (.call 6 (.cons (.name 0) (.cons (.name 1) (.cons (.name 2) .nil)))))
      (.cons (.raise 2 "no number")
      .nil)
      .nil)
      .nil)
def c_need_number : Fc := ⟨3, false, 3, b_need_number⟩
theorem u_need_number {T : Nat → Option Fc} {G : Gv} {n : Nat} {w : List D} (a0 a1 a2 : D) [TIs T 15 c_need_number] : run T G (n + 1) 15 [a0, a1, a2] w = (execs (run T G n) G b_need_number ⟨[.fro a0, .fro a1, .fro a2], w⟩).bind (endR c_need_number) := run_call (c := c_need_number) (ds := [a0, a1, a2]) rfl
@[simp] theorem w_need_number : c_need_number.w = false := by rfl
-- key_number: 16 (kind, lock, number, key, ways, cut)
def b_key_number : Sms := (.cons (.set 3 (.tup .nil))
      (.cons (.for_ (.one 4) (.seq (.call 12 (.cons (.name 0) (.cons (.name 1) .nil))))
      (.cons (.for_ (.one 5) (.seq (.blt .sorted (.cons (.name 4) .nil)))
      (.cons (.ite (.or (.cmp .eq (.name 3) (.tup .nil)) (.cmp .le (.blt .abs (.cons (.bin .sub (.name 5) (.sub (.name 3) (.neg (.const (.int 1))))) .nil)) (.sub (.name 0) (.const (.int 2)))))
      (.cons (.ite (.cmp .lt (.name 2) (.sub (.name 4) (.name 5)))
      (.cons (.set 3 (.bin .add (.name 3) (.tup (.cons (.name 5) .nil))))
      (.cons .brk
      .nil))
      .nil)
      (.cons (.set 2 (.bin .sub (.name 2) (.sub (.name 4) (.name 5))))
      .nil))
      .nil)
      .nil))
      .nil))
      (.cons (.ret (.name 3))
      .nil)))
def c_key_number : Fc := ⟨3, false, 6, b_key_number⟩
theorem u_key_number {T : Nat → Option Fc} {G : Gv} {n : Nat} {w : List D} (a0 a1 a2 : D) [TIs T 16 c_key_number] : run T G (n + 1) 16 [a0, a1, a2] w = (execs (run T G n) G b_key_number ⟨[.fro a0, .fro a1, .fro a2, .un, .un, .un], w⟩).bind (endR c_key_number) := run_call (c := c_key_number) (ds := [a0, a1, a2]) rfl
@[simp] theorem w_key_number : c_key_number.w = false := by rfl
-- key_at: 17 (kind, lock, number)
def b_key_at : Sms := (.cons (.expr (.call 8 (.cons (.name 0) .nil)))
      (.cons (.expr (.call 11 (.cons (.name 0) (.cons (.name 1) .nil))))
      (.cons (.expr (.call 15 (.cons (.name 2) (.cons (.const (.int 0)) (.cons (.bin .sub (.call 13 (.cons (.name 0) (.cons (.name 1) .nil))) (.const (.int 1))) .nil)))))
      (.cons (.ret (.call 16 (.cons (.name 0) (.cons (.name 1) (.cons (.name 2) .nil)))))
      .nil))))
def c_key_at : Fc := ⟨3, false, 3, b_key_at⟩
theorem u_key_at {T : Nat → Option Fc} {G : Gv} {n : Nat} {w : List D} (a0 a1 a2 : D) [TIs T 17 c_key_at] : run T G (n + 1) 17 [a0, a1, a2] w = (execs (run T G n) G b_key_at ⟨[.fro a0, .fro a1, .fro a2], w⟩).bind (endR c_key_at) := run_call (c := c_key_at) (ds := [a0, a1, a2]) rfl
@[simp] theorem w_key_at : c_key_at.w = false := by rfl
-- is_key_of: 18 (kind, value, chambers, depths, step, cut, one, other)
def b_is_key_of : Sms := (.cons (.setT (.three (.one 2) (.one 3) (.one 4)) (.name 0))
      (.cons (.ite (.or (.not (.isi .tuple (.name 1))) (.cmp .ne (.blt .len (.cons (.name 1) .nil)) (.name 2)))
      (.cons (.ret (.const (.bl false)))
      .nil)
      .nil)
      (.cons (.ite (.not (.blt .all (.cons (.lc (.call 6 (.cons (.name 5) (.cons (.const (.int 0)) (.cons (.bin .sub (.name 3) (.const (.int 1))) .nil)))) [5] (.one 5) (.seq (.name 1)) .none) .nil)))
      (.cons (.ret (.const (.bl false)))
      .nil)
      .nil)
      (.cons (.ret (.blt .all (.cons (.lc (.cmp .le (.blt .abs (.cons (.bin .sub (.name 6) (.name 7)) .nil)) (.name 4)) [6, 7] (.two (.one 6) (.one 7)) (.zip (.name 1) (.slice (.name 1) (.some (.const (.int 1))) .none)) .none) .nil)))
      .nil))))
def c_is_key_of : Fc := ⟨2, false, 8, b_is_key_of⟩
theorem u_is_key_of {T : Nat → Option Fc} {G : Gv} {n : Nat} {w : List D} (a0 a1 : D) [TIs T 18 c_is_key_of] : run T G (n + 1) 18 [a0, a1] w = (execs (run T G n) G b_is_key_of ⟨[.fro a0, .fro a1, .un, .un, .un, .un, .un, .un], w⟩).bind (endR c_is_key_of) := run_call (c := c_is_key_of) (ds := [a0, a1]) rfl
@[simp] theorem w_is_key_of : c_is_key_of.w = false := by rfl
-- need_key: 19 (kind, key)
def b_need_key : Sms := (.cons (.ite (.not (.call 18 (.cons (.name 0) (.cons (.name 1) .nil))))
      (.cons (.raise 3 "no key")
      .nil)
      .nil)
      .nil)
def c_need_key : Fc := ⟨2, false, 2, b_need_key⟩
theorem u_need_key {T : Nat → Option Fc} {G : Gv} {n : Nat} {w : List D} (a0 a1 : D) [TIs T 19 c_need_key] : run T G (n + 1) 19 [a0, a1] w = (execs (run T G n) G b_need_key ⟨[.fro a0, .fro a1], w⟩).bind (endR c_need_key) := run_call (c := c_need_key) (ds := [a0, a1]) rfl
@[simp] theorem w_need_key : c_need_key.w = false := by rfl
-- rank_of: 20 (kind, lock, key, found, before, ways, goal, cut, many)
def b_rank_of : Sms := (.cons (.set 3 (.const (.int 0)))
      (.cons (.set 4 (.const .non))
      (.cons (.for_ (.two (.one 5) (.one 6)) (.zip (.call 12 (.cons (.name 0) (.cons (.name 1) .nil))) (.name 2))
      (.cons (.fori (.two (.one 7) (.one 8)) 5
      (.cons (.ite (.and (.cmp .lt (.name 7) (.name 6)) (.or (.cmp .isN (.name 4) (.const .non)) (.cmp .le (.blt .abs (.cons (.bin .sub (.name 7) (.name 4)) .nil)) (.sub (.name 0) (.const (.int 2))))))
      (.cons (.set 3 (.bin .add (.name 3) (.name 8)))
      .nil)
      .nil)
      .nil))
      (.cons (.ite (.cmp .nmem (.name 6) (.name 5))
      (.cons (.ret (.name 3))
      .nil)
      .nil)
      (.cons (.set 4 (.name 6))
      .nil))))
      (.cons (.ret (.name 3))
      .nil))))
def c_rank_of : Fc := ⟨3, false, 9, b_rank_of⟩
theorem u_rank_of {T : Nat → Option Fc} {G : Gv} {n : Nat} {w : List D} (a0 a1 a2 : D) [TIs T 20 c_rank_of] : run T G (n + 1) 20 [a0, a1, a2] w = (execs (run T G n) G b_rank_of ⟨[.fro a0, .fro a1, .fro a2, .un, .un, .un, .un, .un, .un], w⟩).bind (endR c_rank_of) := run_call (c := c_rank_of) (ds := [a0, a1, a2]) rfl
@[simp] theorem w_rank_of : c_rank_of.w = false := by rfl
-- rank: 21 (kind, lock, key)
def b_rank : Sms := (.cons (.expr (.call 8 (.cons (.name 0) .nil)))
      (.cons (.expr (.call 11 (.cons (.name 0) (.cons (.name 1) .nil))))
      (.cons (.expr (.call 19 (.cons (.name 0) (.cons (.name 2) .nil))))
      (.cons (.ret (.call 20 (.cons (.name 0) (.cons (.name 1) (.cons (.name 2) .nil)))))
      .nil))))
def c_rank : Fc := ⟨3, false, 3, b_rank⟩
theorem u_rank {T : Nat → Option Fc} {G : Gv} {n : Nat} {w : List D} (a0 a1 a2 : D) [TIs T 21 c_rank] : run T G (n + 1) 21 [a0, a1, a2] w = (execs (run T G n) G b_rank ⟨[.fro a0, .fro a1, .fro a2], w⟩).bind (endR c_rank) := run_call (c := c_rank) (ds := [a0, a1, a2]) rfl
@[simp] theorem w_rank : c_rank.w = false := by rfl
-- law_ways: 22 (_law_kind_here, _law_lock_here, _law_ways_here, _law_cuts_here, _law_later, _law_cut, _law_there)
def b_law_ways : Sms := (.cons (.set 2 (.blt .dict (.cons (.lc (.tup (.cons (.name 5) (.cons (.const (.int 1)) .nil))) [5] (.one 5) (.seq (.sub (.name 1) (.const (.int 0)))) .none) .nil)))
      (.cons (.for_ (.one 3) (.seq (.slice (.name 1) (.some (.const (.int 1))) .none))
      (.cons (.set 4 (.dict0 false))
      (.cons (.for_ (.one 5) (.seq (.name 3))
      (.cons (.putd 4 (.name 5) (.blt .sum (.cons (.lci (.sub (.name 2) (.name 6)) [6] (.one 6) false 2 (.some (.cmp .le (.blt .abs (.cons (.bin .sub (.name 6) (.name 5)) .nil)) (.sub (.name 0) (.const (.int 2)))))) .nil)))
      .nil))
      (.cons (.set 2 (.name 4))
      .nil))))
      (.cons (.ret (.blt .sum (.cons (.lci (.sub (.name 2) (.name 5)) [5] (.one 5) false 2 .none) .nil)))
      .nil)))
def c_law_ways : Fc := ⟨2, false, 7, b_law_ways⟩
theorem u_law_ways {T : Nat → Option Fc} {G : Gv} {n : Nat} {w : List D} (a0 a1 : D) [TIs T 22 c_law_ways] : run T G (n + 1) 22 [a0, a1] w = (execs (run T G n) G b_law_ways ⟨[.fro a0, .fro a1, .un, .un, .un, .un, .un], w⟩).bind (endR c_law_ways) := run_call (c := c_law_ways) (ds := [a0, a1]) rfl
@[simp] theorem w_law_ways : c_law_ways.w = false := by rfl
-- whole: 23 (kind)
def b_whole : Sms := (.cons (.ret (.bin .mul (.tup (.cons (.tupr (.sub (.name 0) (.const (.int 1)))) .nil)) (.sub (.name 0) (.const (.int 0)))))
      .nil)
def c_whole : Fc := ⟨1, false, 1, b_whole⟩
theorem u_whole {T : Nat → Option Fc} {G : Gv} {n : Nat} {w : List D} (a0 : D) [TIs T 23 c_whole] : run T G (n + 1) 23 [a0] w = (execs (run T G n) G b_whole ⟨[.fro a0], w⟩).bind (endR c_whole) := run_call (c := c_whole) (ds := [a0]) rfl
@[simp] theorem w_whole : c_whole.w = false := by rfl
-- count_keys: 24 (kind)
def b_count_keys : Sms := (.cons (.expr (.call 8 (.cons (.name 0) .nil)))
      (.cons (.ret (.call 13 (.cons (.name 0) (.cons (.call 23 (.cons (.name 0) .nil)) .nil))))
      .nil))
def c_count_keys : Fc := ⟨1, false, 1, b_count_keys⟩
theorem u_count_keys {T : Nat → Option Fc} {G : Gv} {n : Nat} {w : List D} (a0 : D) [TIs T 24 c_count_keys] : run T G (n + 1) 24 [a0] w = (execs (run T G n) G b_count_keys ⟨[.fro a0], w⟩).bind (endR c_count_keys) := run_call (c := c_count_keys) (ds := [a0]) rfl
@[simp] theorem w_count_keys : c_count_keys.w = false := by rfl
-- law_key: 25 (_law_well_here, _law_kind_here, _law_key_here, _law_low, _law_high)
def b_law_key : Sms := (.cons (.set 2 (.tup (.cons (.callw 1 0 (.cons (.sub (.name 1) (.const (.int 1))) .nil)) .nil)))
      (.cons (.while_ (.cmp .lt (.blt .len (.cons (.name 2) .nil)) (.sub (.name 1) (.const (.int 0))))
      (.cons (.par 3 4 (.blt .max (.cons (.const (.int 0)) (.cons (.bin .sub (.sub (.name 2) (.neg (.const (.int 1)))) (.sub (.name 1) (.const (.int 2)))) .nil))) (.blt .min (.cons (.bin .sub (.sub (.name 1) (.const (.int 1))) (.const (.int 1))) (.cons (.bin .add (.sub (.name 2) (.neg (.const (.int 1)))) (.sub (.name 1) (.const (.int 2)))) .nil))))
      (.cons (.set 2 (.bin .add (.name 2) (.tup (.cons (.bin .add (.name 3) (.callw 1 0 (.cons (.bin .add (.bin .sub (.name 4) (.name 3)) (.const (.int 1))) .nil))) .nil))))
      .nil)))
      (.cons (.ret (.name 2))
      .nil)))
def c_law_key : Fc := ⟨1, true, 5, b_law_key⟩
theorem u_law_key {T : Nat → Option Fc} {G : Gv} {n : Nat} {w : List D} (a0 : D) [TIs T 25 c_law_key] : run T G (n + 1) 25 [a0] w = (execs (run T G n) G b_law_key ⟨[.well, .fro a0, .un, .un, .un], w⟩).bind (endR c_law_key) := run_call (c := c_law_key) (ds := [a0]) rfl
@[simp] theorem w_law_key : c_law_key.w = true := by rfl
-- law_is_whole: 26 (_law_thing, _law_low, _law_high)
def b_law_is_whole : Sms := (.cons (.ret (.and (.isi .int (.name 0)) (.and (.not (.isi .bool (.name 0))) (.cmp2 .le .le (.name 1) (.name 0) (.name 2)))))
      .nil)
def c_law_is_whole : Fc := ⟨3, false, 3, b_law_is_whole⟩
theorem u_law_is_whole {T : Nat → Option Fc} {G : Gv} {n : Nat} {w : List D} (a0 a1 a2 : D) [TIs T 26 c_law_is_whole] : run T G (n + 1) 26 [a0, a1, a2] w = (execs (run T G n) G b_law_is_whole ⟨[.fro a0, .fro a1, .fro a2], w⟩).bind (endR c_law_is_whole) := run_call (c := c_law_is_whole) (ds := [a0, a1, a2]) rfl
@[simp] theorem w_law_is_whole : c_law_is_whole.w = false := by rfl
-- law_is_key: 27 (_law_kind_here, _law_thing, _law_at)
def b_law_is_key : Sms := (.cons (.ite (.or (.not (.isi .tuple (.name 1))) (.cmp .ne (.blt .len (.cons (.name 1) .nil)) (.sub (.name 0) (.const (.int 0)))))
      (.cons (.ret (.const (.bl false)))
      .nil)
      .nil)
      (.cons (.for_ (.one 2) (.range1 (.blt .len (.cons (.name 1) .nil)))
      (.cons (.ite (.not (.call 26 (.cons (.sub (.name 1) (.name 2)) (.cons (.const (.int 0)) (.cons (.bin .sub (.sub (.name 0) (.const (.int 1))) (.const (.int 1))) .nil)))))
      (.cons (.ret (.const (.bl false)))
      .nil)
      .nil)
      (.cons (.ite (.and (.cmp .gt (.name 2) (.const (.int 0))) (.cmp .gt (.blt .abs (.cons (.bin .sub (.sub (.name 1) (.name 2)) (.sub (.name 1) (.bin .sub (.name 2) (.const (.int 1))))) .nil)) (.sub (.name 0) (.const (.int 2)))))
      (.cons (.ret (.const (.bl false)))
      .nil)
      .nil)
      .nil)))
      (.cons (.ret (.const (.bl true)))
      .nil)))
def c_law_is_key : Fc := ⟨2, false, 3, b_law_is_key⟩
theorem u_law_is_key {T : Nat → Option Fc} {G : Gv} {n : Nat} {w : List D} (a0 a1 : D) [TIs T 27 c_law_is_key] : run T G (n + 1) 27 [a0, a1] w = (execs (run T G n) G b_law_is_key ⟨[.fro a0, .fro a1, .un], w⟩).bind (endR c_law_is_key) := run_call (c := c_law_is_key) (ds := [a0, a1]) rfl
@[simp] theorem w_law_is_key : c_law_is_key.w = false := by rfl
-- is_open: 28 (lock, key, cut, cuts)
def b_is_open : Sms := (.cons (.ret (.blt .all (.cons (.lc (.cmp .mem (.name 2) (.name 3)) [2, 3] (.two (.one 2) (.one 3)) (.zip (.name 1) (.name 0)) .none) .nil)))
      .nil)
def c_is_open : Fc := ⟨2, false, 4, b_is_open⟩
theorem u_is_open {T : Nat → Option Fc} {G : Gv} {n : Nat} {w : List D} (a0 a1 : D) [TIs T 28 c_is_open] : run T G (n + 1) 28 [a0, a1] w = (execs (run T G n) G b_is_open ⟨[.fro a0, .fro a1, .un, .un], w⟩).bind (endR c_is_open) := run_call (c := c_is_open) (ds := [a0, a1]) rfl
@[simp] theorem w_is_open : c_is_open.w = false := by rfl
-- opens: 29 (kind, lock, key)
def b_opens : Sms := (.cons (.expr (.call 8 (.cons (.name 0) .nil)))
      (.cons (.expr (.call 11 (.cons (.name 0) (.cons (.name 1) .nil))))
      (.cons (.expr (.call 19 (.cons (.name 0) (.cons (.name 2) .nil))))
      (.cons (.ret (.call 28 (.cons (.name 1) (.cons (.name 2) .nil))))
      .nil))))
def c_opens : Fc := ⟨3, false, 3, b_opens⟩
theorem u_opens {T : Nat → Option Fc} {G : Gv} {n : Nat} {w : List D} (a0 a1 a2 : D) [TIs T 29 c_opens] : run T G (n + 1) 29 [a0, a1, a2] w = (execs (run T G n) G b_opens ⟨[.fro a0, .fro a1, .fro a2], w⟩).bind (endR c_opens) := run_call (c := c_opens) (ds := [a0, a1, a2]) rfl
@[simp] theorem w_opens : c_opens.w = false := by rfl
-- law_all_keys: 33 (_law_kind_here, _law_found, _law_chamber, _law_longer, _law_key_here, _law_cut)
def b_law_all_keys : Sms := (.cons (.set 1 (.lst (.cons (.tup .nil) .nil)))
      (.cons (.for_ (.one 2) (.range1 (.sub (.name 0) (.const (.int 0))))
      (.cons (.set 3 (.lst .nil))
      (.cons (.for_ (.one 4) (.seq (.name 1))
      (.cons (.for_ (.one 5) (.range1 (.sub (.name 0) (.const (.int 1))))
      (.cons (.ite (.or (.cmp .eq (.name 4) (.tup .nil)) (.cmp .le (.blt .abs (.cons (.bin .sub (.name 5) (.sub (.name 4) (.neg (.const (.int 1))))) .nil)) (.sub (.name 0) (.const (.int 2)))))
      (.cons (.append 3 (.bin .add (.name 4) (.tup (.cons (.name 5) .nil))))
      .nil)
      .nil)
      .nil))
      .nil))
      (.cons (.set 1 (.name 3))
      .nil))))
      (.cons (.ret (.name 1))
      .nil)))
def c_law_all_keys : Fc := ⟨1, false, 6, b_law_all_keys⟩
theorem u_law_all_keys {T : Nat → Option Fc} {G : Gv} {n : Nat} {w : List D} (a0 : D) [TIs T 33 c_law_all_keys] : run T G (n + 1) 33 [a0] w = (execs (run T G n) G b_law_all_keys ⟨[.fro a0, .un, .un, .un, .un, .un], w⟩).bind (endR c_law_all_keys) := run_call (c := c_law_all_keys) (ds := [a0]) rfl
@[simp] theorem w_law_all_keys : c_law_all_keys.w = false := by rfl
-- law_is_told: 34 (_law_found, _law_due)
def b_law_is_told : Sms := (.cons (.ret (.and (.isi .bool (.name 0)) (.cmp .eq (.name 0) (.name 1))))
      .nil)
def c_law_is_told : Fc := ⟨2, false, 2, b_law_is_told⟩
theorem u_law_is_told {T : Nat → Option Fc} {G : Gv} {n : Nat} {w : List D} (a0 a1 : D) [TIs T 34 c_law_is_told] : run T G (n + 1) 34 [a0, a1] w = (execs (run T G n) G b_law_is_told ⟨[.fro a0, .fro a1], w⟩).bind (endR c_law_is_told) := run_call (c := c_law_is_told) (ds := [a0, a1]) rfl
@[simp] theorem w_law_is_told : c_law_is_told.w = false := by rfl
-- law_opens: 35 (_law_lock_here, _law_key_here, _law_cut, _law_cuts_here)
def b_law_opens : Sms := (.cons (.ret (.cmp .eq (.lc (.const (.int 1)) [2, 3] (.two (.one 2) (.one 3)) (.zip (.name 1) (.name 0)) (.some (.cmp .nmem (.name 2) (.name 3)))) (.lst .nil)))
      .nil)
def c_law_opens : Fc := ⟨2, false, 4, b_law_opens⟩
theorem u_law_opens {T : Nat → Option Fc} {G : Gv} {n : Nat} {w : List D} (a0 a1 : D) [TIs T 35 c_law_opens] : run T G (n + 1) 35 [a0, a1] w = (execs (run T G n) G b_law_opens ⟨[.fro a0, .fro a1, .un, .un], w⟩).bind (endR c_law_opens) := run_call (c := c_law_opens) (ds := [a0, a1]) rfl
@[simp] theorem w_law_opens : c_law_opens.w = false := by rfl
-- law_k03: 37 (_law_script, _law_k, _law_well_here, _law_turn, _law_bad, _law_call_so, _law_kind_here, _law_some, _law_less, _law_key, _law_lock_here, _law_every, _law_number)
def b_law_k03 : Sms := (.cons (.for_ (.one 1) (.range1 (.blt .max (.cons (.const (.int 1)) (.cons (.blt .min (.cons (.const (.int 8)) (.cons (.blt .len (.cons (.name 0) .nil)) .nil))) .nil))))
      (.cons (.set 2 (.call 0 (.cons (.name 0) (.cons (.name 1) .nil))))
      (.cons (.for_ (.one 3) (.range1 (.const (.int 2)))
      (.cons (.set 6 (.callw 3 2 (.cons (.const (.int 4)) (.cons (.const (.int 5)) .nil))))
      (.cons (.setT (.two (.one 10) (.one 11)) (.tup (.cons (.callw 5 2 (.cons (.name 6) .nil)) (.cons (.call 33 (.cons (.name 6) .nil)) .nil))))
      (.cons (.set 7 (.lc (.name 9) [9] (.one 9) (.seq (.name 11)) (.some (.call 35 (.cons (.name 10) (.cons (.name 9) .nil))))))
      (.cons (.ite (.cmp .ne (.call 14 (.cons (.name 6) (.cons (.name 10) .nil))) (.blt .len (.cons (.name 7) .nil)))
      (.cons (.ret (.const (.bl false)))
      .nil)
      .nil)
      (.cons (.ite (.cmp .ne (.lc (.call 17 (.cons (.name 6) (.cons (.name 10) (.cons (.name 12) .nil)))) [12] (.one 12) (.range1 (.blt .len (.cons (.name 7) .nil))) .none) (.name 7))
      (.cons (.ret (.const (.bl false)))
      .nil)
      .nil)
      (.cons (.set 8 (.const (.int 0)))
      (.cons (.for_ (.one 9) (.seq (.name 11))
      (.cons (.ite (.cmp .ne (.call 21 (.cons (.name 6) (.cons (.name 10) (.cons (.name 9) .nil)))) (.name 8))
      (.cons (.ret (.const (.bl false)))
      .nil)
      .nil)
      (.cons (.set 8 (.bin .add (.name 8) (.blt .int (.cons (.call 35 (.cons (.name 10) (.cons (.name 9) .nil))) .nil))))
      .nil)))
      .nil))))))))
      (.cons (.for_ (.one 4) (.seq (.lst (.cons (.const .non) (.cons (.neg (.const (.int 1))) (.cons (.blt .len (.cons (.name 7) .nil)) (.cons (.const (.bl true)) (.cons (.const (.str "0")) .nil)))))))
      (.cons (.ite (.cmp .ne (.caught [4, 6, 10] (.call 17 (.cons (.name 6) (.cons (.name 10) (.cons (.name 4) .nil))))) (.tup (.cons (.const (.str "InvalidNumber +")) .nil)))
      (.cons (.ret (.const (.bl false)))
      .nil)
      .nil)
      .nil))
      (.cons (.for_ (.one 5) (.seq (.tup (.cons (.glob 1) (.cons (.glob 0) .nil))))
      (.cons (.ite (.cmp .ne (.caught [5, 6, 10] (.callv 5 (.cons (.name 6) (.cons (.blt .list (.cons (.name 10) .nil)) (.cons (.const .non) .nil))))) (.tup (.cons (.const (.str "InvalidLock +")) .nil)))
      (.cons (.ret (.const (.bl false)))
      .nil)
      .nil)
      .nil))
      (.cons (.ite (.cmp .ne (.caught [6, 10, 11] (.call 21 (.cons (.name 6) (.cons (.name 10) (.cons (.slice (.sub (.name 11) (.const (.int 0))) (.some (.const (.int 1))) .none) .nil))))) (.tup (.cons (.const (.str "InvalidKey +")) .nil)))
      (.cons (.ret (.const (.bl false)))
      .nil)
      .nil)
      .nil))))))
      (.cons (.ret (.cmp .eq (.call 17 (.cons (.tup (.cons (.const (.int 3)) (.cons (.const (.int 4)) (.cons (.const (.int 2)) .nil)))) (.cons (.tup (.cons (.tup (.cons (.const (.int 0)) .nil)) (.cons (.tup (.cons (.const (.int 1)) (.cons (.const (.int 2)) .nil))) (.cons (.tup (.cons (.const (.int 1)) (.cons (.const (.int 3)) .nil))) .nil)))) (.cons (.const (.int 2)) .nil)))) (.tup (.cons (.const (.int 0)) (.cons (.const (.int 2)) (.cons (.const (.int 1)) .nil))))))
      .nil))
def c_law_k03 : Fc := ⟨1, false, 13, b_law_k03⟩
theorem u_law_k03 {T : Nat → Option Fc} {G : Gv} {n : Nat} {w : List D} (a0 : D) [TIs T 37 c_law_k03] : run T G (n + 1) 37 [a0] w = (execs (run T G n) G b_law_k03 ⟨[.fro a0, .un, .un, .un, .un, .un, .un, .un, .un, .un, .un, .un, .un], w⟩).bind (endR c_law_k03) := run_call (c := c_law_k03) (ds := [a0]) rfl
@[simp] theorem w_law_k03 : c_law_k03.w = false := by rfl
end Pk

end
section
/-! M1: all keys of a lock, ascending; plain lists. -/
namespace Pk
open HT (lexLt)
def near (s : Int) (p : Option Int) (c : Int) : Bool := match p with
  | none => true
  | some q => decide (((c - q).natAbs : Int) ≤ s)
@[simp] theorem near_none (s c : Int) : near s none c = true := rfl
@[simp] theorem near_some (s c q : Int) : near s (some q) c = decide (((c - q).natAbs : Int) ≤ s) := rfl
def keysF (s : Int) : Option Int → List (List Int) → List (List Int)
  | _, [] => [[]]
  | p, cuts :: rest => (cuts.filter (near s p)).flatMap fun c => (keysF s (some c) rest).map (c :: ·)
theorem keysF_nil (s : Int) (p : Option Int) : keysF s p [] = [[]] := rfl
theorem keysF_cons (s : Int) (p : Option Int) (cuts : List Int) (rest : List (List Int)) : keysF s p (cuts :: rest) = (cuts.filter (near s p)).flatMap fun c => (keysF s (some c) rest).map (c :: ·) := rfl
def cnt (s : Int) (p : Option Int) (L : List (List Int)) : Int := ((keysF s p L).length : Int)
theorem cnt_nonneg (s : Int) (p : Option Int) (L : List (List Int)) : 0 ≤ cnt s p L := Int.natCast_nonneg _
@[simp] theorem cnt_nil (s : Int) (p : Option Int) : cnt s p [] = 1 := rfl
theorem natCast_sum {A : Type} (l : List A) (f : A → Nat) : ((l.map f).sum : Int) = (l.map fun x => (f x : Int)).sum := by
  induction l with
  | nil => rfl
  | cons x l ih => rw [List.map_cons, List.map_cons, List.sum_cons, List.sum_cons, Int.natCast_add, ih]
theorem cnt_cons (s : Int) (p : Option Int) (cuts : List Int) (rest : List (List Int)) : cnt s p (cuts :: rest) = ((cuts.filter (near s p)).map fun c => cnt s (some c) rest).sum := by
  unfold cnt
  rw [keysF_cons, List.length_flatMap]
  simp only [List.length_map]
  exact natCast_sum _ _
/-- a key that a lock lets, with neighbours near enough -/
def okK (s : Int) : Option Int → List (List Int) → List Int → Bool
  | _, [], [] => true
  | p, cuts :: rest, c :: K => cuts.contains c && near s p c && okK s (some c) rest K
  | _, _, _ => false
theorem mem_keysF (s : Int) : ∀ (L : List (List Int)) (p : Option Int) (K : List Int), K ∈ keysF s p L ↔ okK s p L K = true
  | [], p, K => by
    rw [keysF_nil]
    cases K <;> simp [okK]
  | cuts :: rest, p, K => by
    rw [keysF_cons]
    cases K with
    | nil => simp [okK]
    | cons c K =>
      simp only [List.mem_flatMap, List.mem_filter, List.mem_map, List.cons.injEq, okK, Bool.and_eq_true, List.contains_iff_mem]
      constructor
      · rintro ⟨c', ⟨h1, h2⟩, K', h3, rfl, rfl⟩
        exact ⟨⟨h1, h2⟩, (mem_keysF s rest _ _).mp h3⟩
      · rintro ⟨⟨h1, h2⟩, h3⟩
        exact ⟨c, ⟨h1, h2⟩, K, (mem_keysF s rest _ _).mpr h3, rfl, rfl⟩
theorem okK_len (s : Int) : ∀ (L : List (List Int)) (p : Option Int) (K : List Int), okK s p L K = true → K.length = L.length
  | [], _, [], _ => rfl
  | [], _, _ :: _, h => by cases h
  | _ :: _, _, [], h => by cases h
  | _ :: rest, _, c :: K, h => by
    simp only [okK, Bool.and_eq_true] at h
    rw [List.length_cons, List.length_cons, okK_len s rest _ K h.2]
theorem len_of_mem {s : Int} {L : List (List Int)} {p : Option Int} {K : List Int} (h : K ∈ keysF s p L) : K.length = L.length := okK_len s L p K ((mem_keysF s L p K).mp h)
/-! the order -/
theorem lexLt_irrefl : ∀ K : List Int, lexLt K K = false
  | [] => rfl
  | x :: K => by rw [HT.lexLt_cons, if_pos rfl]; exact lexLt_irrefl K
theorem lexLt_trans : ∀ {a b c : List Int}, lexLt a b = true → lexLt b c = true → lexLt a c = true
  | [], [], _, h, _ => by cases h
  | [], _ :: _, [], _, h => by cases h
  | [], _ :: _, _ :: _, _, _ => rfl
  | _ :: _, [], _, h, _ => by cases h
  | _ :: _, _ :: _, [], _, h => by cases h
  | x :: a, y :: b, z :: c, h, k => by
    rw [HT.lexLt_cons] at h k ⊢
    by_cases h1 : x = y
    · rw [if_pos h1] at h
      subst h1
      by_cases h2 : x = z
      · rw [if_pos h2] at k ⊢
        exact lexLt_trans h k
      · rw [if_neg h2] at k ⊢
        exact k
    · rw [if_neg h1] at h
      by_cases h2 : y = z
      · subst h2
        rw [if_neg h1]
        exact h
      · rw [if_neg h2] at k
        have := of_decide_eq_true h
        have := of_decide_eq_true k
        rw [if_neg (by omega)]
        exact decide_eq_true (by omega)
theorem lexLt_total : ∀ {a b : List Int}, lexLt a b = false → lexLt b a = false → a = b
  | [], [], _, _ => rfl
  | [], _ :: _, h, _ => by cases h
  | _ :: _, [], _, h => by cases h
  | x :: a, y :: b, h, k => by
    rw [HT.lexLt_cons] at h k
    by_cases h1 : x = y
    · subst h1
      rw [if_pos rfl] at h k
      rw [lexLt_total h k]
    · rw [if_neg h1] at h
      rw [if_neg (fun e => h1 e.symm)] at k
      have := of_decide_eq_false h
      have := of_decide_eq_false k
      omega
theorem lexLt_asymm {a b : List Int} (h : lexLt a b = true) : lexLt b a = false := by
  cases k : lexLt b a with
  | false => rfl
  | true => have := lexLt_trans h k; rw [lexLt_irrefl] at this; cases this
abbrev AscL (l : List Int) : Prop := l.Pairwise (· < ·)
abbrev AscK (l : List (List Int)) : Prop := l.Pairwise fun a b => lexLt a b = true
theorem keysF_asc (s : Int) : ∀ (L : List (List Int)) (p : Option Int), (∀ cuts ∈ L, AscL cuts) → AscK (keysF s p L)
  | [], p, _ => by rw [keysF_nil]; exact List.pairwise_singleton _ _
  | cuts :: rest, p, h => by
    rw [keysF_cons]
    unfold AscK
    rw [List.pairwise_flatMap]
    refine ⟨fun c _ => ?_, ?_⟩
    · rw [List.pairwise_map]
      refine (keysF_asc s rest (some c) fun x hx => h x (List.mem_cons_of_mem _ hx)).imp fun {a b} hab => ?_
      rw [HT.lexLt_cons, if_pos rfl]
      exact hab
    · refine ((h cuts (List.mem_cons_self ..)).filter _).imp fun {a b} hab x hx y hy => ?_
      obtain ⟨x, _, rfl⟩ := List.mem_map.mp hx
      obtain ⟨y, _, rfl⟩ := List.mem_map.mp hy
      rw [HT.lexLt_cons, if_neg (by omega)]
      exact decide_eq_true hab
theorem AscK.nodup {l : List (List Int)} (h : AscK l) : l.Nodup := h.imp fun {a b} hab e => by subst e; rw [lexLt_irrefl] at hab; cases hab
/-- how many of some are less -/
def below (l : List (List Int)) (K : List Int) : Int := ((l.filter fun k => lexLt k K).length : Int)
theorem below_nonneg (l : List (List Int)) (K : List Int) : 0 ≤ below l K := Int.natCast_nonneg _
theorem below_nil (K : List Int) : below [] K = 0 := rfl
theorem below_cons (k : List Int) (l : List (List Int)) (K : List Int) : below (k :: l) K = (if lexLt k K = true then 1 else 0) + below l K := by
  unfold below
  rw [List.filter_cons]
  split
  · rw [List.length_cons]; omega
  · omega
theorem below_append (l m : List (List Int)) (K : List Int) : below (l ++ m) K = below l K + below m K := by
  unfold below
  rw [List.filter_append, List.length_append]
  omega
theorem below_le {l : List (List Int)} {K : List Int} : below l K ≤ (l.length : Int) := by
  unfold below
  have := List.length_filter_le (fun k => lexLt k K) l
  omega
theorem below_none {l : List (List Int)} {K : List Int} (h : ∀ k ∈ l, lexLt k K = false) : below l K = 0 := by
  unfold below
  rw [List.filter_eq_nil_iff.mpr fun k hk => by rw [h k hk]; exact Bool.false_ne_true]
  rfl
theorem below_get {l : List (List Int)} (h : AscK l) : ∀ {n : Nat} {K : List Int}, l[n]? = some K → below l K = n := by
  induction l with
  | nil => intro n K e; cases e
  | cons k l ih =>
    intro n K e
    replace h := List.pairwise_cons.mp h
    cases n with
    | zero =>
      cases e
      rw [below_cons, lexLt_irrefl, below_none fun x hx => lexLt_asymm (h.1 x hx)]
      rfl
    | succ n =>
      have e' : l[n]? = some K := e
      rw [below_cons, if_pos (h.1 K (List.mem_of_getElem? e')), ih h.2 e']
      omega
theorem get_below {l : List (List Int)} (h : AscK l) {K : List Int} (m : K ∈ l) : l[(below l K).toNat]? = some K := by
  obtain ⟨n, hn⟩ := List.mem_iff_getElem?.mp m
  rw [below_get h hn, Int.toNat_natCast, hn]
theorem below_mono (l : List (List Int)) {a b : List Int} (h : lexLt b a = false) : below l a ≤ below l b := by
  induction l with
  | nil => exact Int.le_refl _
  | cons k l ih =>
    rw [below_cons, below_cons]
    by_cases h1 : lexLt k a = true
    · rw [if_pos h1]
      have : lexLt k b = true := by
        cases h2 : lexLt k b with
        | true => rfl
        | false =>
          cases h3 : lexLt b k with
          | true => rw [lexLt_trans h3 h1] at h; cases h
          | false => rw [← lexLt_total h2 h3] at h; rw [h] at h1; cases h1
      rw [if_pos this]
      omega
    · rw [if_neg h1]
      split <;> omega
/-! read from the other end -/
theorem okK_append (s : Int) : ∀ (L : List (List Int)) (p : Option Int) (K : List Int) (cuts : List Int) (c : Int), okK s p (L ++ [cuts]) (K ++ [c]) = (okK s p L K && cuts.contains c && near s (match K.getLast? with | some q => some q | none => p) c)
  | [], p, [], cuts, c => by simp [okK]
  | [], p, k :: K, cuts, c => by
    cases K <;> simp [okK]
  | x :: L, p, [], cuts, c => by
    cases L <;> simp [okK]
  | x :: L, p, k :: K, cuts, c => by
    have e : (match (k :: K).getLast? with | some q => some q | none => p) = (match K.getLast? with | some q => some q | none => some k) := by
      cases K with
      | nil => rfl
      | cons y K => rw [List.getLast?_cons_cons]; cases h : (y :: K).getLast? with
        | none => simp at h
        | some q => rfl
    rw [List.cons_append, List.cons_append, okK, okK, okK_append s L (some k) K cuts c, e]
    simp only [Bool.and_assoc]
theorem okK_some (s : Int) (L : List (List Int)) (q : Int) (K : List Int) : okK s (some q) L K = (okK s none L K && (match K.head? with | some c => near s (some q) c | none => true)) := by
  cases L with
  | nil => cases K <;> simp [okK]
  | cons x L => cases K with
    | nil => simp [okK]
    | cons c K =>
      simp only [okK, List.head?_cons, near_none, Bool.and_true]
      rw [Bool.and_assoc, Bool.and_comm (near s (some q) c), ← Bool.and_assoc]
theorem okK_reverse (s : Int) : ∀ (L : List (List Int)) (K : List Int), K.length = L.length → okK s none L.reverse K.reverse = okK s none L K
  | [], [], _ => rfl
  | x :: L, c :: K, h => by
    have hl : K.length = L.length := by simpa using h
    rw [List.reverse_cons, List.reverse_cons, okK_append, okK_reverse s L K hl, okK, okK_some, List.getLast?_reverse]
    simp only [near_none, Bool.and_true]
    rw [Bool.and_comm (x.contains c), Bool.and_assoc, Bool.and_assoc, Bool.and_comm (x.contains c)]
    congr 2
    cases K with
    | nil => rfl
    | cons k K =>
      simp only [List.head?_cons, near_some]
      congr 2
      rw [← Int.natAbs_neg]
      congr 2
      omega
theorem cnt_reverse_le (s : Int) (L : List (List Int)) (h : ∀ cuts ∈ L, AscL cuts) : cnt s none L ≤ cnt s none L.reverse := by
  unfold cnt
  have hn : ((keysF s none L).map List.reverse).Nodup := by
    unfold List.Nodup
    rw [List.pairwise_map]
    exact (keysF_asc s L none h).nodup.imp fun {a b} hab e => hab (List.reverse_inj.mp e)
  have := hn.length_le_of_subset (l₂ := keysF s none L.reverse) fun k hk => by
    obtain ⟨K, hK, rfl⟩ := List.mem_map.mp hk
    have hl := len_of_mem hK
    rw [mem_keysF] at hK ⊢
    rw [okK_reverse s L K hl]
    exact hK
  rw [List.length_map] at this
  omega
theorem cnt_reverse (s : Int) (L : List (List Int)) (h : ∀ cuts ∈ L, AscL cuts) : cnt s none L.reverse = cnt s none L := by
  have h1 := cnt_reverse_le s L h
  have h2 := cnt_reverse_le s L.reverse fun c hc => h c (List.mem_reverse.mp hc)
  rw [List.reverse_reverse] at h2
  omega
/-- a lock within another one has as many keys at most -/
theorem keysF_subset (s : Int) {L M : List (List Int)} (h : ∀ K, okK s none L K = true → okK s none M K = true) (hL : ∀ cuts ∈ L, AscL cuts) : cnt s none L ≤ cnt s none M := by
  unfold cnt
  have := (keysF_asc s L none hL).nodup.length_le_of_subset (l₂ := keysF s none M) fun k hk => by
    rw [mem_keysF] at hk ⊢
    exact h k hk
  omega
theorem cnt_le_pow (s : Int) (d : Nat) : ∀ (L : List (List Int)) (p : Option Int), (∀ cuts ∈ L, cuts.length ≤ d) → (keysF s p L).length ≤ d ^ L.length
  | [], p, _ => by rw [keysF_nil]; exact Nat.le_refl _
  | cuts :: rest, p, h => by
    rw [keysF_cons, List.length_flatMap, List.length_cons, Nat.pow_succ]
    have : ∀ (l : List Int), (l.map fun c => ((keysF s (some c) rest).map (c :: ·)).length).sum ≤ d ^ rest.length * l.length := by
      intro l
      induction l with
      | nil => exact Nat.le_refl _
      | cons c l ih =>
        rw [List.map_cons, List.sum_cons, List.length_cons, Nat.mul_succ, List.length_map]
        have := cnt_le_pow s d rest (some c) fun x hx => h x (List.mem_cons_of_mem _ hx)
        omega
    refine Nat.le_trans (this _) (Nat.mul_le_mul_left _ (Nat.le_trans (List.length_filter_le ..) (h cuts (List.mem_cons_self ..))))
end Pk

end
section
/-! K1: what the defs of kinds.py tell of values. -/
namespace Pk
open PySem L2
def isIntD (d : D) (lo hi : Int) : Bool := match d with
  | .int i => decide (lo ≤ i) && decide (i ≤ hi)
  | _ => false
def intv : D → Int
  | .int i => i
  | _ => 0
def ascB (ns : List Int) : Bool := (ns.zip (tl ns)).all fun p => decide (p.1 < p.2)
def nearB (s : Int) (ns : List Int) : Bool := (ns.zip (tl ns)).all fun p => decide (((p.1 - p.2).natAbs : Int) ≤ s)
def isRisingD (d : D) (lo hi : Int) : Bool := match d with
  | .tup l => l.all (isIntD · lo hi) && ascB (l.map intv)
  | _ => false
def isKindD (d : D) : Bool := match d with
  | .tup [a, b, c] => isIntD a 2 6 && isIntD b 2 10 && isIntD c 1 (intv b - 1)
  | _ => false
def isKeyD (c d s : Int) (v : D) : Bool := match v with
  | .tup l => decide ((l.length : Int) = c) && l.all (isIntD · 0 (d - 1)) && nearB s (l.map intv)
  | _ => false
def isLockD (c d : Int) (v : D) : Bool := match v with
  | .tup l => decide ((l.length : Int) = c) && l.all fun x => isRisingD x 0 (d - 1) && !D.eqv x (.tup [])
  | _ => false
theorem ints_of_all {l : List D} {lo hi : Int} (h : l.all (isIntD · lo hi) = true) : l = (l.map intv).map .int := by
  induction l with
  | nil => rfl
  | cons x l ih =>
    rw [List.all_cons, Bool.and_eq_true] at h
    rw [List.map_cons, List.map_cons, ← ih h.2]
    cases x <;> first | rfl | cases h.1
@[simp] theorem intv_int (i : Int) : intv (.int i) = i := by rfl
@[simp] theorem map_intv (l : List Int) : (l.map D.int).map intv = l := by
  rw [List.map_map]
  exact List.map_id l
theorem r_is_int {T : Nat → Option Fc} {G : Gv} [TIs T 6 c_is_int] {n : Nat} (d : D) (hd : d.plain = true) (lo hi : Int) (w : List D) : run T G (n + 1) 6 [d, .int lo, .int hi] w = .ok (.fro (.bl (isIntD d lo hi)), w) := by
  rw [u_is_int]
  cases d <;> first | (exact absurd hd Bool.false_ne_true) | simp [b_is_int, isIntD]
@[simp] theorem r_is_int_int {T : Nat → Option Fc} {G : Gv} [TIs T 6 c_is_int] {n : Nat} (i lo hi : Int) (w : List D) : run T G (n + 1) 6 [.int i, .int lo, .int hi] w = .ok (.fro (.bl (decide (lo ≤ i) && decide (i ≤ hi))), w) := r_is_int (.int i) rfl lo hi w
theorem r_is_rising {T : Nat → Option Fc} {G : Gv} [TIs T 6 c_is_int] [TIs T 9 c_is_rising] {n : Nat} (d : D) (hd : d.plain = true) (hl : ∀ l, d = .tup l → l.length ≤ 16777216) (lo hi : Int) (w : List D) : run T G (n + 2) 9 [d, .int lo, .int hi] w = .ok (.fro (.bl (isRisingD d lo hi)), w) := by
  rw [u_is_rising]
  cases d with
  | tup l =>
    have hl := hl l rfl
    rw [plain_tup] at hd
    simp [-List.all_eq_true, -List.all_eq_false, -List.any_eq_true, -List.any_eq_false, b_is_rising]
    rw [lcL_memD (g := fun y => [.bl (isIntD y lo hi)])]
    · by_cases h : l.all (isIntD · lo hi) = true
      · obtain ⟨ns, rfl⟩ : ∃ ns : List Int, l = ns.map .int := ⟨_, ints_of_all h⟩
        rw [isRisingD, h, map_intv]
        rw [List.length_map] at hl
        have hl2 : min ns.length (tl ns).length ≤ 16777216 := by omega
        rw [List.all_map, comp_lam] at h
        simp [-List.all_eq_true, -List.all_eq_false, -List.any_eq_true, -List.any_eq_false, hl, hl2, h, ascB]
      · simp [-List.all_eq_true, -List.all_eq_false, -List.any_eq_true, -List.any_eq_false, hl, isRisingD, h]
    · intro y hy
      rw [List.all_eq_true] at hd
      simp [r_is_int y (hd y hy)]
  | _ => first | (exact absurd hd Bool.false_ne_true) | simp [b_is_rising, isRisingD]
abbrev KD (c d s : Int) : D := .tup [.int c, .int d, .int s]
theorem r_is_kind {T : Nat → Option Fc} {G : Gv} [TIs T 6 c_is_int] [TIs T 7 c_is_kind] {n : Nat} (d : D) (hd : d.plain = true) (w : List D) : run T G (n + 2) 7 [d] w = .ok (.fro (.bl (isKindD d)), w) := by
  rw [u_is_kind]
  cases d with
  | tup l =>
    rw [plain_tup] at hd
    rcases l with _ | ⟨a, _ | ⟨b, _ | ⟨c, _ | ⟨x, l⟩⟩⟩⟩
    · simp [b_is_kind, isKindD]
    · simp [b_is_kind, isKindD]
    · simp [b_is_kind, isKindD]
    · simp only [List.all_cons, List.all_nil, Bool.and_true, Bool.and_eq_true] at hd
      have hi : ∀ i lo hi, isIntD (.int i) lo hi = (decide (lo ≤ i) && decide (i ≤ hi)) := fun _ _ _ => rfl
      have ha := r_is_int (T := T) (G := G) (n := n) a hd.1
      have hb := r_is_int (T := T) (G := G) (n := n) b hd.2.1
      have hc := r_is_int (T := T) (G := G) (n := n) c hd.2.2
      cases b with
      | int i => simp [b_is_kind, isKindD, ha, hb, hc]
      | _ => simp [b_is_kind, isKindD, ha, hb, isIntD]
    · have : ¬ ((l.length : Int) + 1 + 1 + 1 + 1 = 3) := by omega
      simp [b_is_kind, isKindD, this]
  | _ => first | (exact absurd hd Bool.false_ne_true) | simp [b_is_kind, isKindD]
theorem r_is_key_of {T : Nat → Option Fc} {G : Gv} [TIs T 6 c_is_int] [TIs T 18 c_is_key_of] {n : Nat} (c d s : Int) (hc : c ≤ 1000) (v : D) (hd : v.plain = true) (w : List D) : run T G (n + 2) 18 [KD c d s, v] w = .ok (.fro (.bl (isKeyD c d s v)), w) := by
  rw [u_is_key_of]
  cases v with
  | tup l =>
    rw [plain_tup] at hd
    by_cases hl : (l.length : Int) = c
    · have hl1 : l.length ≤ 16777216 := by omega
      simp [-List.all_eq_true, -List.all_eq_false, -List.any_eq_true, -List.any_eq_false, b_is_key_of, hl]
      rw [lcL_memD (g := fun y => [.bl (isIntD y 0 (d - 1))])]
      · by_cases h : l.all (isIntD · 0 (d - 1)) = true
        · obtain ⟨ns, rfl⟩ : ∃ ns : List Int, l = ns.map .int := ⟨_, ints_of_all h⟩
          rw [isKeyD, h, map_intv]
          rw [List.length_map] at hl1
          have hl2 : min ns.length (tl ns).length ≤ 16777216 := by omega
          rw [List.all_map, comp_lam] at h
          rw [List.length_map] at hl
          simp [-List.all_eq_true, -List.all_eq_false, -List.any_eq_true, -List.any_eq_false, hl, hl1, hl2, h, nearB]
        · simp [-List.all_eq_true, -List.all_eq_false, -List.any_eq_true, -List.any_eq_false, hl, hl1, isKeyD, h]
      · intro y hy
        rw [List.all_eq_true] at hd
        simp [r_is_int y (hd y hy)]
    · simp [b_is_key_of, hl, isKeyD]
  | _ => first | (exact absurd hd Bool.false_ne_true) | simp [b_is_key_of, isKeyD]
theorem r_is_lock_of {T : Nat → Option Fc} {G : Gv} [TIs T 6 c_is_int] [TIs T 9 c_is_rising] [TIs T 10 c_is_lock_of] {n : Nat} (c d s : Int) (hc : c ≤ 1000) (v : D) (hd : v.plain = true) (hl : ∀ l x m, v = .tup l → x ∈ l → x = .tup m → m.length ≤ 16777216) (w : List D) : run T G (n + 3) 10 [KD c d s, v] w = .ok (.fro (.bl (isLockD c d v)), w) := by
  rw [u_is_lock_of]
  cases v with
  | tup l =>
    rw [plain_tup] at hd
    by_cases hc' : (l.length : Int) = c
    · have hl1 : l.length ≤ 16777216 := by omega
      simp [-List.all_eq_true, -List.all_eq_false, -List.any_eq_true, -List.any_eq_false, b_is_lock_of, hc']
      rw [lcL_memD (g := fun y => [.bl (isRisingD y 0 (d - 1) && !D.eqv y (.tup []))])]
      · simp [-List.all_eq_true, -List.all_eq_false, -List.any_eq_true, -List.any_eq_false, hc', hl1, isLockD]
      · intro y hy
        rw [List.all_eq_true] at hd
        have hr := r_is_rising (T := T) (G := G) (n := n) y (hd y hy) fun m hm => hl l y m rfl hy hm
        have hp := hd y hy
        cases y with
        | tup m =>
          rw [plain_tup] at hp
          have : min (D.deeps m + 1) 1 ≤ 60 := by omega
          simp [-List.all_eq_true, -List.all_eq_false, -List.any_eq_true, -List.any_eq_false, hr, hp, this]
        | _ => first | (exact absurd hp Bool.false_ne_true) | simp [hr, isRisingD]
    · simp [b_is_lock_of, hc', isLockD]
  | _ => first | (exact absurd hd Bool.false_ne_true) | simp [b_is_lock_of, isLockD]
theorem r_is_open {T : Nat → Option Fc} {G : Gv} [TIs T 28 c_is_open] {n : Nat} (L : List (List Int)) (K : List Int) (hK : K.length ≤ 1000) (w : List D) : run T G (n + 1) 28 [.tup (L.map mkT), .tup (K.map .int)] w = .ok (.fro (.bl ((K.zip L).all fun p => p.2.contains p.1)), w) := by
  have : min K.length L.length ≤ 16777216 := by omega
  rw [u_is_open]
  simp [-List.all_eq_true, -List.all_eq_false, -List.any_eq_true, -List.any_eq_false, b_is_open, this]
end Pk

end
section
/-! K2: tails, number_of, whole, counting. -/
namespace Pk
open PySem L2
abbrev LD (L : List (List Int)) : D := .tup (L.map mkT)
abbrev ID (l : List Int) : D := .tup (l.map .int)
def tailsF (s : Int) : List (List Int) → List (List (Key × D))
  | [] => []
  | cuts :: rest => (cuts.map fun c => (.inl c, .int (cnt s (some c) rest))) :: tailsF s rest
theorem tailsF_length (s : Int) (L : List (List Int)) : (tailsF s L).length = L.length := by
  induction L with
  | nil => rfl
  | cons x L ih => rw [tailsF, List.length_cons, List.length_cons, ih]
theorem near_fn (s q : Int) : near s (some q) = fun c => decide (((c - q).natAbs : Int) ≤ s) := rfl
theorem AscL.nodup {l : List Int} (h : AscL l) : l.Nodup := h.imp fun {a b} hab e => by omega
theorem r_tails {T : Nat → Option Fc} {G : Gv} [TIs T 12 c_tails] {n : Nat} (c d s : Int) (L : List (List Int)) (hne : L ≠ []) (hl : L.length ≤ 1000) (hA : ∀ cuts ∈ L, AscL cuts ∧ cuts.length ≤ 1000) (w : List D) : run T G (n + 1) 12 [KD c d s, LD L] w = .ok (.fro (.lst ((tailsF s L).map .dk)), w) := by
  rw [u_tails]
  obtain ⟨L0, x, rfl⟩ : ∃ L0 x, L = L0 ++ [x] := ⟨_, _, (List.dropLast_concat_getLast hne).symm⟩
  have hx := hA x (List.mem_append_right _ (List.mem_singleton_self x))
  have hx2 : (List.map (fun _ : Int => 2) x).sum ≤ 16777216 := by
    have : ∀ l : List Int, (l.map fun _ => 2).sum = 2 * l.length := fun l => by
      induction l with
      | nil => rfl
      | cons y l ih => rw [List.map_cons, List.sum_cons, ih, List.length_cons]; omega
    rw [this]; omega
  refine Wp.eq ?_
  simp [-List.all_eq_true, -List.all_eq_false, -List.any_eq_true, -List.any_eq_false, b_tails, dcD_map (fun _ => D.int 1) x [] hx.1.nodup (fun _ _ _ h => by cases h), hx2]
  refine Wp.bind (Wp.bind ?_)
  refine forL_w (fun xs e => ∃ pre suf, L0 ++ [x] = pre ++ suf ∧ suf ≠ [] ∧ xs = pre.reverse.map mkT ∧ ∃ s3 s4 s5 s6 : Sl, s3.set = true ∧ s4.set = true ∧ s5.set = true ∧ s6.set = true ∧ e = ⟨[.fro (KD c d s), .fro (LD (L0 ++ [x])), .own (.lst ((tailsF s suf).map .dk)), s3, s4, s5, s6, .un, .un], w⟩) ?_ ?_ ?_
  · exact ⟨L0, [x], rfl, by simp, by simp, .un, .un, .un, .un, rfl, rfl, rfl, rfl, rfl⟩
  · rintro e ⟨pre, suf, hL, hs, hxs, s3, s4, s5, s6, h3, h4, h5, h6, rfl⟩
    have : pre = [] := by simpa using hxs.symm
    subst this
    rw [List.nil_append] at hL
    subst hL
    simp
  · rintro R xv xs e ⟨pre, suf, hL, hs, hxs, s3, s4, s5, s6, h3, h4, h5, h6, rfl⟩ hnx hbk hrt
    obtain ⟨pre, cuts, rfl⟩ : ∃ p q, pre = p ++ [q] := by
      rcases List.eq_nil_or_concat pre with rfl | ⟨p, q, rfl⟩
      · cases hxs
      · exact ⟨p, q, by simp⟩
    simp at hxs
    obtain ⟨rfl, rfl⟩ := hxs
    obtain ⟨c0, suf, rfl⟩ : ∃ a b, suf = a :: b := by
      cases suf with
      | nil => exact absurd rfl hs
      | cons a b => exact ⟨a, b, rfl⟩
    have hlen := congrArg List.length hL
    have hcu := hA cuts (by rw [hL]; simp)
    have hc0 := hA c0 (by rw [hL]; simp)
    simp only [List.length_append, List.length_cons, List.length_nil] at hlen hl
    have htl : 1 + (tailsF s (c0 :: suf)).length ≤ 16777216 := by rw [tailsF_length, List.length_cons]; omega
    have hl2 : ∀ q : Int → Bool, (List.filter q c0).length ≤ 16777216 := fun q => Nat.le_trans (List.length_filter_le ..) (by omega)
    simp [-List.all_eq_true, -List.all_eq_false, -List.any_eq_true, -List.any_eq_false, h3, h4, h5, tailsF]
    refine Wp.bind ?_
    refine forL_w (fun xs e => ∃ did todo, cuts = did ++ todo ∧ xs = todo.map .int ∧ ∃ s6 : Sl, s6.set = true ∧ e = ⟨[.fro (KD c d s), .fro (LD (L0 ++ [x])), .own (.lst ((tailsF s (c0 :: suf)).map .dk)), .fro (mkT cuts), .fro (.dk (c0.map fun c => (.inl c, .int (cnt s (some c) suf)))), .own (.dk (did.map fun c => (.inl c, .int (cnt s (some c) (c0 :: suf))))), s6, .un, .un], w⟩) ?_ ?_ ?_
    · exact ⟨[], cuts, rfl, rfl, s6, h6, rfl⟩
    · rintro e ⟨did, todo, hd, hx, s6, h6, rfl⟩
      have : todo = [] := by simpa using hx.symm
      subst this
      rw [List.append_nil] at hd
      subst hd
      have htl : 1 + (suf.length + 1) ≤ 16777216 := by omega
      simp [-List.all_eq_true, -List.all_eq_false, -List.any_eq_true, -List.any_eq_false, tailsF_length, htl]
      apply hnx
      exact ⟨pre, cuts :: c0 :: suf, by rw [hL]; simp, by simp, by simp, _, _, _, _, rfl, rfl, rfl, h6, rfl⟩
    · rintro R xv xs e ⟨did, todo, hd, hx, s6, h6, rfl⟩ hnx hbk hrt
      obtain ⟨cut, todo, rfl⟩ : ∃ a b, todo = a :: b := by
        cases todo with
        | nil => cases hx
        | cons a b => exact ⟨a, b, rfl⟩
      simp at hx
      obtain ⟨rfl, rfl⟩ := hx
      have hdl : did.length ≤ 1000 := by
        have := congrArg List.length hd
        simp only [List.length_append, List.length_cons] at this
        omega
      have hdl : did.length < 16777216 := by omega
      have hnd := hcu.1.nodup
      rw [hd] at hnd
      simp [-List.all_eq_true, -List.all_eq_false, -List.any_eq_true, -List.any_eq_false, h6, hl2, hdl]
      apply hnx
      refine ⟨did ++ [cut], todo, by rw [hd]; simp, rfl, .fro (.int cut), rfl, ?_⟩
      rw [putK_new]
      · simp [cnt_cons s (some cut) c0 suf, near_fn]
      · intro p hp e
        obtain ⟨q, hq, rfl⟩ := List.mem_map.mp hp
        cases e
        exact (List.nodup_append.mp hnd).2.2 _ hq _ (List.mem_cons_self ..) rfl
theorem r_number_of {T : Nat → Option Fc} {G : Gv} [TIs T 12 c_tails] [TIs T 13 c_number_of] {n : Nat} (c d s : Int) (L : List (List Int)) (hne : L ≠ []) (hl : L.length ≤ 1000) (hA : ∀ cuts ∈ L, AscL cuts ∧ cuts.length ≤ 1000) (w : List D) : run T G (n + 2) 13 [KD c d s, LD L] w = .ok (.fro (.int (cnt s none L)), w) := by
  rw [u_number_of]
  have ht := fun w => r_tails (T := T) (G := G) (n := n) c d s L hne hl hA w
  cases L with
  | nil => exact absurd rfl hne
  | cons x L => 
    have e : List.filter (near s none) x = x := List.filter_eq_self.mpr fun _ _ => rfl
    simp [-List.all_eq_true, -List.all_eq_false, -List.any_eq_true, -List.any_eq_false, b_number_of, ht, tailsF, cnt_cons, e]
def rangeI (d : Int) : List Int := (List.range d.toNat).map fun (i : Nat) => (i : Int)
theorem rangeD_0 {hi : Int} (h3 : -1000000 ≤ hi) (h4 : hi ≤ 10000000) : rangeD 0 hi = some ((rangeI hi).map .int) := by
  rw [rangeD_eq (by omega) (by omega) h3 h4, Int.sub_zero]
  unfold rangeI
  rw [List.map_map, comp_lam]
  simp
def wholeL (c d : Int) : List (List Int) := List.replicate c.toNat (rangeI d)
theorem r_whole {T : Nat → Option Fc} {G : Gv} [TIs T 23 c_whole] {n : Nat} (c d s : Int) (hc : 2 ≤ c) (hc' : c ≤ 6) (hd : 0 ≤ d) (hd' : d ≤ 10) (w : List D) : run T G (n + 1) 23 [KD c d s] w = .ok (.fro (LD (wholeL c d)), w) := by
  rw [u_whole]
  have hr := rangeD_eq (lo := 0) (hi := d) (by omega) (by omega) (by omega) (by omega)
  have h3 : c ≤ 1000 := by omega
  simp [-List.all_eq_true, -List.all_eq_false, -List.any_eq_true, -List.any_eq_false, b_whole, hr, hc, h3]
  unfold wholeL rangeI
  simp
structure KdOk (c d s : Int) : Prop where
  c1 : 2 ≤ c
  c2 : c ≤ 6
  d1 : 2 ≤ d
  d2 : d ≤ 10
  s1 : 1 ≤ s
  s2 : s ≤ d - 1
structure LkOk (c d : Int) (L : List (List Int)) : Prop where
  len : (L.length : Int) = c
  asc : ∀ cuts ∈ L, AscL cuts
  ne : ∀ cuts ∈ L, cuts ≠ []
  rng : ∀ cuts ∈ L, ∀ x ∈ cuts, 0 ≤ x ∧ x < d
structure KyOk (c d s : Int) (K : List Int) : Prop where
  len : (K.length : Int) = c
  rng : ∀ x ∈ K, 0 ≤ x ∧ x < d
  near : nearB s K = true
theorem mem_rangeI {d x : Int} : x ∈ rangeI d ↔ 0 ≤ x ∧ x < d := by
  unfold rangeI
  rw [List.mem_map]
  constructor
  · rintro ⟨i, hi, rfl⟩
    rw [List.mem_range] at hi
    omega
  · rintro ⟨h1, h2⟩
    exact ⟨x.toNat, List.mem_range.mpr (by omega), by omega⟩
theorem rangeI_length (d : Int) : (rangeI d).length = d.toNat := by unfold rangeI; rw [List.length_map, List.length_range]
theorem rangeI_asc (d : Int) : AscL (rangeI d) := by
  unfold rangeI AscL
  rw [List.pairwise_map]
  exact List.pairwise_lt_range.imp fun {a b} h => by omega
theorem asc_length {d : Int} {l : List Int} (h : AscL l) (r : ∀ x ∈ l, 0 ≤ x ∧ x < d) : l.length ≤ d.toNat := by
  rw [← rangeI_length]
  exact h.nodup.length_le_of_subset fun x hx => mem_rangeI.mpr (r x hx)
theorem ascB_iff : ∀ {l : List Int}, ascB l = true ↔ AscL l
  | [] => by simp [ascB]
  | [x] => by simp [ascB]
  | x :: y :: l => by
    have ih := ascB_iff (l := y :: l)
    have e : ascB (x :: y :: l) = (decide (x < y) && ascB (y :: l)) := rfl
    rw [e, Bool.and_eq_true, ih, decide_eq_true_eq]
    constructor
    · rintro ⟨h1, h2⟩
      refine List.pairwise_cons.mpr ⟨fun z hz => ?_, h2⟩
      rcases List.mem_cons.mp hz with rfl | hz
      · exact h1
      · have := (List.pairwise_cons.mp h2).1 z hz
        omega
    · intro h
      have := List.pairwise_cons.mp h
      exact ⟨this.1 y (List.mem_cons_self ..), this.2⟩
theorem isIntD_int (i lo hi : Int) : isIntD (.int i) lo hi = (decide (lo ≤ i) && decide (i ≤ hi)) := rfl
theorem isRisingD_ints {l : List Int} {d : Int} : isRisingD (.tup (l.map .int)) 0 (d - 1) = true ↔ (∀ x ∈ l, 0 ≤ x ∧ x < d) ∧ AscL l := by
  unfold isRisingD
  dsimp only
  rw [map_intv, Bool.and_eq_true, ascB_iff, List.all_map, List.all_eq_true]
  refine and_congr ⟨fun h x hx => ?_, fun h x hx => ?_⟩ Iff.rfl
  · have := h x hx
    simp only [comp_lam, isIntD_int, Bool.and_eq_true, decide_eq_true_eq] at this
    omega
  · have := h x hx
    simp only [comp_lam, isIntD_int, Bool.and_eq_true, decide_eq_true_eq]
    omega
theorem isLockD_iff {c d : Int} {L : List (List Int)} : isLockD c d (LD L) = true ↔ LkOk c d L := by
  unfold isLockD
  dsimp only
  rw [Bool.and_eq_true, List.length_map, decide_eq_true_eq, List.all_map, List.all_eq_true]
  constructor
  · rintro ⟨h1, h2⟩
    have h3 : ∀ x ∈ L, ((∀ y ∈ x, 0 ≤ y ∧ y < d) ∧ AscL x) ∧ x ≠ [] := fun x hx => by
      have this : (isRisingD (.tup (x.map .int)) 0 (d - 1) && !D.eqv (.tup (x.map .int)) (.tup [])) = true := h2 x hx
      rw [Bool.and_eq_true, isRisingD_ints] at this
      refine ⟨this.1, fun e => ?_⟩
      subst e
      cases this.2
    exact ⟨h1, fun x hx => (h3 x hx).1.2, fun x hx => (h3 x hx).2, fun x hx => (h3 x hx).1.1⟩
  · intro h
    refine ⟨h.len, fun x hx => ?_⟩
    show (isRisingD (.tup (x.map .int)) 0 (d - 1) && !D.eqv (.tup (x.map .int)) (.tup [])) = true
    rw [Bool.and_eq_true, isRisingD_ints]
    refine ⟨⟨h.rng x hx, h.asc x hx⟩, ?_⟩
    have := h.ne x hx
    cases x with
    | nil => exact absurd rfl this
    | cons => rfl
theorem isKeyD_iff {c d s : Int} {K : List Int} : isKeyD c d s (ID K) = true ↔ KyOk c d s K := by
  unfold isKeyD
  dsimp only
  rw [map_intv, Bool.and_eq_true, Bool.and_eq_true, List.length_map, decide_eq_true_eq, List.all_map, List.all_eq_true]
  constructor
  · rintro ⟨⟨h1, h2⟩, h3⟩
    refine ⟨h1, fun x hx => ?_, h3⟩
    have := h2 x hx
    simp only [comp_lam, isIntD_int, Bool.and_eq_true, decide_eq_true_eq] at this
    omega
  · intro h
    refine ⟨⟨h.len, fun x hx => ?_⟩, h.near⟩
    have := h.rng x hx
    simp only [comp_lam, isIntD_int, Bool.and_eq_true, decide_eq_true_eq]
    omega
theorem isKindD_iff {c d s : Int} : isKindD (KD c d s) = true ↔ KdOk c d s := by
  simp only [isKindD, isIntD_int, intv_int, Bool.and_eq_true, decide_eq_true_eq]
  constructor
  · rintro ⟨⟨⟨_, _⟩, _, _⟩, _, _⟩
    constructor <;> assumption
  · rintro ⟨h1, h2, h3, h4, h5, h6⟩
    exact ⟨⟨⟨h1, h2⟩, h3, h4⟩, h5, h6⟩
namespace LkOk
variable {c d s : Int} {L : List (List Int)}
theorem small (h : LkOk c d L) (k : KdOk c d s) : ∀ cuts ∈ L, AscL cuts ∧ cuts.length ≤ 1000 := fun x hx => ⟨h.asc x hx, by
  have := asc_length (h.asc x hx) (h.rng x hx)
  have := k.d2
  omega⟩
theorem nonempty (h : LkOk c d L) (k : KdOk c d s) : L ≠ [] := fun e => by
  have := h.len
  have := k.c1
  subst e
  simp at *
  omega
theorem length_le (h : LkOk c d L) (k : KdOk c d s) : L.length ≤ 6 := by
  have := h.len
  have := k.c2
  omega
theorem cnt_le (h : LkOk c d L) (k : KdOk c d s) : cnt s none L ≤ 1000000 := by
  have h1 := cnt_le_pow s 10 L none fun x hx => by
    have := asc_length (h.asc x hx) (h.rng x hx)
    have := k.d2
    omega
  have h2 : 10 ^ L.length ≤ 10 ^ 6 := Nat.pow_le_pow_right (by omega) (h.length_le k)
  unfold cnt
  omega
end LkOk
theorem whole_ok {c d s : Int} (k : KdOk c d s) : LkOk c d (wholeL c d) := by
  have := k.c1
  have := k.d1
  refine ⟨by unfold wholeL; rw [List.length_replicate]; omega, fun x hx => ?_, fun x hx e => ?_, fun x hx => ?_⟩
  · rw [(List.mem_replicate.mp hx).2]; exact rangeI_asc d
  · rw [(List.mem_replicate.mp hx).2] at e
    have := rangeI_length d
    rw [e, List.length_nil] at this
    omega
  · rw [(List.mem_replicate.mp hx).2]; exact fun y hy => mem_rangeI.mp hy
end Pk

end
section
/-! K3: counting.py. -/
namespace Pk
open PySem L2
open HT (lexLt)
theorem keysF_cons_near {s : Int} {p : Option Int} {c : Int} {cuts : List Int} {rest : List (List Int)} (h : near s p c = true) : keysF s p ((c :: cuts) :: rest) = (keysF s (some c) rest).map (c :: ·) ++ keysF s p (cuts :: rest) := by
  rw [keysF_cons, List.filter_cons, if_pos h, List.flatMap_cons]
  rfl
theorem keysF_cons_far {s : Int} {p : Option Int} {c : Int} {cuts : List Int} {rest : List (List Int)} (h : near s p c ≠ true) : keysF s p ((c :: cuts) :: rest) = keysF s p (cuts :: rest) := by
  rw [keysF_cons, List.filter_cons, if_neg h]
  rfl
theorem keysF_empty {s : Int} {p : Option Int} {rest : List (List Int)} : keysF s p ([] :: rest) = [] := rfl
abbrev DkF (s : Int) (cuts : List Int) (rest : List (List Int)) : List (Key × D) := cuts.map fun c => (.inl c, .int (cnt s (some c) rest))
theorem r_key_number {T : Nat → Option Fc} {G : Gv} [TIs T 12 c_tails] [TIs T 16 c_key_number] {n : Nat} (c d s : Int) (L : List (List Int)) (hne : L ≠ []) (hl : L.length ≤ 1000) (hA : ∀ cuts ∈ L, AscL cuts ∧ cuts.length ≤ 60) (m : Nat) (K : List Int) (hK : (keysF s none L)[m]? = some K) (w : List D) : run T G (n + 2) 16 [KD c d s, LD L, .int m] w = .ok (.fro (ID K), w) := by
  rw [u_key_number]
  have ht := fun w => r_tails (T := T) (G := G) (n := n) c d s L hne hl (fun x hx => ⟨(hA x hx).1, by have := (hA x hx).2; omega⟩) w
  refine Wp.eq ?_
  simp [-List.all_eq_true, -List.all_eq_false, -List.any_eq_true, -List.any_eq_false, b_key_number, ht]
  refine Wp.bind (Wp.bind ?_)
  refine forL_w (fun xs e => ∃ (suf : List (List Int)) (pfx : List Int) (m' : Nat) (s4 s5 : Sl), s4.set = true ∧ s5.set = true ∧ (∀ cuts ∈ suf, AscL cuts ∧ cuts.length ≤ 60) ∧ pfx.length + suf.length ≤ 1000 ∧ xs = (tailsF s suf).map .dk ∧ (∃ K', (keysF s pfx.getLast? suf)[m']? = some K' ∧ K = pfx ++ K') ∧ e = ⟨[.fro (KD c d s), .fro (LD L), .fro (.int m'), .fro (ID pfx), s4, s5], w⟩) ?_ ?_ ?_
  · exact ⟨L, [], m, .un, .un, rfl, rfl, hA, by simpa using hl, rfl, ⟨K, hK, rfl⟩, rfl⟩
  · rintro e ⟨suf, pfx, m', s4, s5, h4, h5, hS, hp, hx, ⟨K', h1, h2⟩, rfl⟩
    cases suf with
    | cons x suf => cases hx
    | nil =>
      rw [keysF_nil] at h1
      have : K' = [] := by
        cases m' with
        | zero => simpa using h1.symm
        | succ k => simp at h1
      subst this
      subst h2
      simp
  · rintro R xv xs e ⟨suf, pfx, m', s4, s5, h4, h5, hS, hp, hx, ⟨K', h1, h2⟩, rfl⟩ hnx hbk hrt
    obtain ⟨cuts, rest, rfl⟩ : ∃ a b, suf = a :: b := by
      cases suf with
      | nil => cases hx
      | cons a b => exact ⟨a, b, rfl⟩
    simp only [tailsF, List.map_cons, List.cons.injEq] at hx
    obtain ⟨rfl, rfl⟩ := hx
    have hcu := hS cuts (List.mem_cons_self ..)
    have hlen : cuts.length < 64 := by omega
    have hik := ikeysD_map (fun c => D.int (cnt s (some c) rest)) cuts
    simp [-List.all_eq_true, -List.all_eq_false, -List.any_eq_true, -List.any_eq_false, h4, hlen, hik, sortI_asc hcu.1]
    refine Wp.bind ?_
    refine forL_w (fun xs e => ∃ (todo : List Int) (m' : Nat) (s5 : Sl), s5.set = true ∧ (∀ c ∈ todo, c ∈ cuts) ∧ xs = todo.map .int ∧ (∃ K', (keysF s pfx.getLast? (todo :: rest))[m']? = some K' ∧ K = pfx ++ K') ∧ e = ⟨[.fro (KD c d s), .fro (LD L), .fro (.int m'), .fro (ID pfx), .fro (.dk (DkF s cuts rest)), s5], w⟩) ?_ ?_ ?_
    · exact ⟨cuts, m', s5, h5, fun _ h => h, rfl, ⟨K', h1, h2⟩, rfl⟩
    · rintro e ⟨todo, m', s5, h5, hsub, hx, ⟨K', h1, h2⟩, rfl⟩
      have : todo = [] := by simpa using hx.symm
      subst this
      rw [keysF_empty] at h1
      cases h1
    · rintro R xv xs e ⟨todo, m', s5, h5, hsub, hx, ⟨K', h1, h2⟩, rfl⟩ hnx' hbk' hrt'
      obtain ⟨cut, todo, rfl⟩ : ∃ a b, todo = a :: b := by
        cases todo with
        | nil => cases hx
        | cons a b => exact ⟨a, b, rfl⟩
      simp only [List.map_cons, List.cons.injEq] at hx
      obtain ⟨rfl, rfl⟩ := hx
      have hmem : cut ∈ cuts := hsub cut (List.mem_cons_self ..)
      have hlk := lookK_map (fun c => D.int (cnt s (some c) rest)) cuts cut
      rw [if_pos hmem] at hlk
      have hpl : pfx.length + 1 ≤ 16777216 := by omega
      have key : Wp (if near s pfx.getLast? cut = true then (if (m' : Int) < cnt s (some cut) rest then Out.ok (Fl.bk, (⟨[.fro (KD c d s), .fro (LD L), .fro (.int m'), .fro (ID (pfx ++ [cut])), .fro (.dk (DkF s cuts rest)), .fro (.int cut)], w⟩ : En)) else .ok (.nx, ⟨[.fro (KD c d s), .fro (LD L), .fro (.int (m' - cnt s (some cut) rest)), .fro (ID pfx), .fro (.dk (DkF s cuts rest)), .fro (.int cut)], w⟩)) else .ok (.nx, ⟨[.fro (KD c d s), .fro (LD L), .fro (.int m'), .fro (ID pfx), .fro (.dk (DkF s cuts rest)), .fro (.int cut)], w⟩)) R := by
        by_cases hn : near s pfx.getLast? cut = true
        · rw [if_pos hn]
          rw [keysF_cons_near hn] at h1
          by_cases hm : (m' : Int) < cnt s (some cut) rest
          · rw [if_pos hm]
            rw [List.getElem?_append_left (by rw [List.length_map]; unfold cnt at hm; omega), List.getElem?_map] at h1
            obtain ⟨K2, h3, h4⟩ := Option.map_eq_some_iff.mp h1
            have z := hnx _ ⟨rest, pfx ++ [cut], m', .fro (.dk (DkF s cuts rest)), .fro (.int cut), rfl, rfl, fun x hx => hS x (List.mem_cons_of_mem _ hx), by simp at hp ⊢; omega, rfl, ⟨K2, by simpa using h3, by rw [h2, ← h4]; simp⟩, rfl⟩
            exact (Wp_ok _ _).mpr (hbk' _ (by simpa using z))
          · rw [if_neg hm]
            rw [List.getElem?_append_right (by rw [List.length_map]; unfold cnt at hm; omega), List.length_map] at h1
            refine (Wp_ok _ _).mpr (hnx' _ ⟨todo, m' - (keysF s (some cut) rest).length, .fro (.int cut), rfl, fun x hx => hsub x (List.mem_cons_of_mem _ hx), rfl, ⟨K', h1, h2⟩, ?_⟩)
            have : ((m' - (keysF s (some cut) rest).length : Nat) : Int) = m' - cnt s (some cut) rest := by unfold cnt at hm ⊢; omega
            rw [this]
        · rw [if_neg hn]
          rw [keysF_cons_far hn] at h1
          exact (Wp_ok _ _).mpr (hnx' _ ⟨todo, m', .fro (.int cut), rfl, fun x hx => hsub x (List.mem_cons_of_mem _ hx), rfl, ⟨K', h1, h2⟩, rfl⟩)
      rcases List.eq_nil_or_concat pfx with rfl | ⟨pf, q, rfl⟩
      · simp at key
        simp [-List.all_eq_true, -List.all_eq_false, -List.any_eq_true, -List.any_eq_false, h5, hlk, hpl]
        exact key
      · simp at key hpl
        have e2 : D.tup (List.map D.int pf ++ [D.int q, D.int cut]) = ID (pf ++ [q, cut]) := by simp
        simp [-List.all_eq_true, -List.all_eq_false, -List.any_eq_true, -List.any_eq_false, h5, hlk, hpl, e2]
        exact key
/-! ranks -/
def chainK (s : Int) : Option Int → List Int → Bool
  | _, [] => true
  | p, c :: K => near s p c && chainK s (some c) K
theorem chainK_iff {s : Int} : ∀ {K : List Int}, nearB s K = chainK s none K
  | [] => rfl
  | [x] => rfl
  | x :: y :: K => by
    have ih := chainK_iff (s := s) (K := y :: K)
    have e : nearB s (x :: y :: K) = (decide (((x - y).natAbs : Int) ≤ s) && nearB s (y :: K)) := rfl
    rw [e, ih]
    simp only [chainK, near_none, near_some, Bool.true_and]
    congr 2
    rw [← Int.natAbs_neg]
    simp only [eq_iff_iff]
    rw [show -(x - y) = y - x from by omega]
theorem okK_split (s : Int) : ∀ (L : List (List Int)) (p : Option Int) (K : List Int), okK s p L K = (decide (K.length = L.length) && (K.zip L).all (fun q => q.2.contains q.1) && chainK s p K)
  | [], p, [] => by simp [okK, chainK]
  | [], p, x :: K => by simp [okK]
  | cuts :: L, p, [] => by simp [okK]
  | cuts :: L, p, x :: K => by
    rw [okK, okK_split s L (some x) K, chainK, List.zip_cons_cons, List.all_cons, List.length_cons, List.length_cons]
    have : decide (K.length + 1 = L.length + 1) = decide (K.length = L.length) := by simp
    rw [this]
    cases decide (K.length = L.length) <;> cases cuts.contains x <;> cases near s p x <;> simp
theorem below_flatMap {A : Type} (l : List A) (f : A → List (List Int)) (K : List Int) : below (l.flatMap f) K = (l.map fun c => below (f c) K).sum := by
  induction l with
  | nil => rfl
  | cons x l ih => rw [List.flatMap_cons, below_append, ih, List.map_cons, List.sum_cons]
theorem below_map_cons (c g : Int) (l : List (List Int)) (K : List Int) : below (l.map (c :: ·)) (g :: K) = if c < g then (l.length : Int) else if c = g then below l K else 0 := by
  unfold below
  rw [List.filter_map, List.length_map]
  have e : ((fun k => lexLt k (g :: K)) ∘ fun x => c :: x) = fun k => if c = g then lexLt k K else decide (c < g) := by
    funext k
    show lexLt (c :: k) (g :: K) = _
    rw [HT.lexLt_cons]
  rw [e]
  by_cases h : c = g
  · rw [if_neg (by omega), if_pos h]
    simp only [if_pos h]
  · simp only [if_neg h]
    by_cases h2 : c < g
    · rw [if_pos h2]
      have : l.filter (fun _ => true) = l := List.filter_eq_self.mpr fun _ _ => rfl
      simp [h2, this]
    · rw [if_neg h2]
      simp [h2]
theorem below_keysF (s : Int) (p : Option Int) (rest : List (List Int)) (g : Int) (K : List Int) : ∀ (cuts : List Int), AscL cuts → below (keysF s p (cuts :: rest)) (g :: K) = ((cuts.filter fun c => decide (c < g) && near s p c).map fun c => cnt s (some c) rest).sum + if g ∈ cuts ∧ near s p g = true then below (keysF s (some g) rest) K else 0
  | [], _ => by rw [keysF_empty, below_nil]; simp
  | c :: cuts, h => by
    obtain ⟨h1, h2⟩ := List.pairwise_cons.mp h
    have ih := below_keysF s p rest g K cuts h2
    have hg : c = g → ¬ g ∈ cuts := fun e hm => by have := h1 g hm; omega
    by_cases hn : near s p c = true
    · rw [keysF_cons_near hn, below_append, ih, below_map_cons, List.filter_cons, hn]
      by_cases hl : c < g
      · have : ¬ g = c := by omega
        simp [hl, this, cnt]
        omega
      · by_cases he : c = g
        · subst he
          have := hg rfl
          simp [this, hn]
          omega
        · have : ¬ g = c := fun e => he e.symm
          simp [hl, he, this]
    · rw [keysF_cons_far hn, ih, List.filter_cons]
      have hn' : near s p c = false := by simpa using hn
      by_cases he : c = g
      · subst he
        simp [hn', hg rfl]
      · have : ¬ g = c := fun e => he e.symm
        simp [hn', this]
def optD : Option Int → D
  | none => .non
  | some q => .int q
@[simp] theorem optD_none : optD none = .non := by rfl
@[simp] theorem optD_some (q : Int) : optD (some q) = .int q := by rfl
theorem r_rank_of {T : Nat → Option Fc} {G : Gv} [TIs T 12 c_tails] [TIs T 20 c_rank_of] {n : Nat} (c d s : Int) (L : List (List Int)) (hne : L ≠ []) (hl : L.length ≤ 1000) (hA : ∀ cuts ∈ L, AscL cuts ∧ cuts.length ≤ 60) (K : List Int) (hK : K.length = L.length) (hC : chainK s none K = true) (w : List D) : run T G (n + 2) 20 [KD c d s, LD L, ID K] w = .ok (.fro (.int (below (keysF s none L) K)), w) := by
  rw [u_rank_of]
  have ht := fun w => r_tails (T := T) (G := G) (n := n) c d s L hne hl (fun x hx => ⟨(hA x hx).1, by have := (hA x hx).2; omega⟩) w
  refine Wp.eq ?_
  simp [-List.all_eq_true, -List.all_eq_false, -List.any_eq_true, -List.any_eq_false, b_rank_of, ht]
  refine Wp.bind (Wp.bind ?_)
  refine forL_w (fun xs e => ∃ (suf : List (List Int)) (K' : List Int) (p : Option Int) (f : Int) (s5 s6 s7 s8 : Sl), s5.set = true ∧ s6.set = true ∧ s7.set = true ∧ s8.set = true ∧ (∀ cuts ∈ suf, AscL cuts ∧ cuts.length ≤ 60) ∧ K'.length = suf.length ∧ chainK s p K' = true ∧ f + below (keysF s p suf) K' = below (keysF s none L) K ∧ xs = ((tailsF s suf).zip K').map (fun q => .tup [.dk q.1, .int q.2]) ∧ e = ⟨[.fro (KD c d s), .fro (LD L), .fro (ID K), .fro (.int f), .fro (optD p), s5, s6, s7, s8], w⟩) ?_ ?_ ?_
  · exact ⟨L, K, none, 0, .un, .un, .un, .un, rfl, rfl, rfl, rfl, hA, hK, hC, by omega, rfl, rfl⟩
  · rintro e ⟨suf, K', p, f, s5, s6, s7, s8, h5, h6, h7, h8, hS, hk, hc, hb, hx, rfl⟩
    have : suf = [] := by
      cases suf with
      | nil => rfl
      | cons x suf => cases K' with
        | nil => cases hk
        | cons y K' => cases hx
    subst this
    have : K' = [] := by cases K' with
      | nil => rfl
      | cons => cases hk
    subst this
    have : below (keysF s p []) [] = 0 := rfl
    simp
    omega
  · rintro R xv xs e ⟨suf, K', p, f, s5, s6, s7, s8, h5, h6, h7, h8, hS, hk, hc, hb, hx, rfl⟩ hnx hbk hrt
    obtain ⟨cuts, rest, g, K', rfl, rfl⟩ : ∃ a b g K2, suf = a :: b ∧ K' = g :: K2 := by
      cases suf with
      | nil => cases hx
      | cons a b => cases K' with
        | nil => cases hk
        | cons g K2 => exact ⟨a, b, g, K2, rfl, rfl⟩
    simp only [tailsF, List.map_cons, List.zip_cons_cons, List.cons.injEq] at hx
    obtain ⟨rfl, rfl⟩ := hx
    have hcu := hS cuts (List.mem_cons_self ..)
    simp only [chainK, Bool.and_eq_true] at hc
    simp [-List.all_eq_true, -List.all_eq_false, -List.any_eq_true, -List.any_eq_false, h5, h6]
    refine Wp.bind (Wp.noexc ?_)
    refine forL_w (fun xs e => ∃ (todo did : List Int) (s7 s8 : Sl), s7.set = true ∧ s8.set = true ∧ did ++ todo = cuts ∧ xs = todo.map (fun c => .tup [.int c, .int (cnt s (some c) rest)]) ∧ e = ⟨[.fro (KD c d s), .fro (LD L), .fro (ID K), .fro (.int (f + ((did.filter fun c => decide (c < g) && near s p c).map fun c => cnt s (some c) rest).sum)), .fro (optD p), .fro (.dk (DkF s cuts rest)), .fro (.int g), s7, s8], w⟩) ?_ ?_ ?_
    · exact ⟨cuts, [], s7, s8, h7, h8, rfl, rfl, by simp⟩
    · rintro e ⟨todo, did, s7, s8, h7, h8, hd, hx, rfl⟩
      have : todo = [] := by simpa using hx.symm
      subst this
      rw [List.append_nil] at hd
      subst hd
      rw [below_keysF s p rest g K' did hcu.1] at hb
      have hlk := lookK_map (fun c => D.int (cnt s (some c) rest)) did g
      by_cases hm : g ∈ did
      · rw [if_pos ⟨hm, hc.1⟩] at hb
        rw [if_pos hm] at hlk
        simp [-List.all_eq_true, -List.all_eq_false, -List.any_eq_true, -List.any_eq_false, hlk]
        refine hnx _ ⟨rest, K', some g, _, _, _, _, _, ?_, ?_, ?_, ?_, fun x hx => hS x (List.mem_cons_of_mem _ hx), by simpa using hk, hc.2, ?_, rfl, rfl⟩ <;> first | rfl | assumption | omega
      · rw [if_neg (fun z => hm z.1)] at hb
        rw [if_neg hm] at hlk
        simp [-List.all_eq_true, -List.all_eq_false, -List.any_eq_true, -List.any_eq_false, hlk]
        refine hrt _ _ ?_
        simp
        omega
    · rintro R' xv xs e ⟨todo, did, s7, s8, h7, h8, hd, hx, rfl⟩ hnx' hbk' hrt'
      obtain ⟨cut, todo, rfl⟩ : ∃ a b, todo = a :: b := by
        cases todo with
        | nil => cases hx
        | cons a b => exact ⟨a, b, rfl⟩
      simp only [List.map_cons, List.cons.injEq] at hx
      obtain ⟨rfl, rfl⟩ := hx
      have z := hnx' _ ⟨todo, did ++ [cut], .fro (.int cut), .fro (.int (cnt s (some cut) rest)), rfl, rfl, by rw [← hd]; simp, rfl, rfl⟩
      rw [List.filter_append, List.map_append, List.sum_append, ← Int.add_assoc] at z
      cases p with
      | none =>
        by_cases hg : cut < g
        · simp [hg] at z
          simp [-List.all_eq_true, -List.all_eq_false, -List.any_eq_true, -List.any_eq_false, h7, h8, hg]
          exact z
        · simp [hg] at z
          simp [-List.all_eq_true, -List.all_eq_false, -List.any_eq_true, -List.any_eq_false, h7, h8, hg]
          exact z
      | some q =>
        by_cases hg : cut < g
        · by_cases hq : ((cut - q).natAbs : Int) ≤ s
          · simp [hg, hq] at z
            simp [-List.all_eq_true, -List.all_eq_false, -List.any_eq_true, -List.any_eq_false, h7, h8, hg, hq]
            exact z
          · simp [hg, hq] at z
            simp [-List.all_eq_true, -List.all_eq_false, -List.any_eq_true, -List.any_eq_false, h7, h8, hg, hq]
            exact z
        · simp [hg] at z
          simp [-List.all_eq_true, -List.all_eq_false, -List.any_eq_true, -List.any_eq_false, h7, h8, hg]
          exact z
end Pk

end
section
/-! K4: the checks of arguments, and the public defs of kinds.py and counting.py. -/
namespace Pk
open PySem L2
theorem r_need_kind {T : Nat → Option Fc} {G : Gv} [TIs T 6 c_is_int] [TIs T 7 c_is_kind] [TIs T 8 c_need_kind] {n : Nat} (v : D) (hd : v.plain = true) (w : List D) : run T G (n + 3) 8 [v] w = if isKindD v = true then .ok (.fro .non, w) else .exc 0 .non := by
  rw [u_need_kind]
  have h := r_is_kind (T := T) (G := G) (n := n) v hd
  cases hv : isKindD v <;> simp [b_need_kind, h, hv]
theorem r_need_lock {T : Nat → Option Fc} {G : Gv} [TIs T 6 c_is_int] [TIs T 9 c_is_rising] [TIs T 10 c_is_lock_of] [TIs T 11 c_need_lock] {n : Nat} (c d s : Int) (hc : c ≤ 1000) (v : D) (hd : v.plain = true) (hl : ∀ l x m, v = .tup l → x ∈ l → x = .tup m → m.length ≤ 16777216) (w : List D) : run T G (n + 4) 11 [KD c d s, v] w = if isLockD c d v = true then .ok (.fro .non, w) else .exc 1 .non := by
  rw [u_need_lock]
  have h := r_is_lock_of (T := T) (G := G) (n := n) c d s hc v hd hl
  cases hv : isLockD c d v <;> simp [b_need_lock, h, hv]
theorem r_need_key {T : Nat → Option Fc} {G : Gv} [TIs T 6 c_is_int] [TIs T 18 c_is_key_of] [TIs T 19 c_need_key] {n : Nat} (c d s : Int) (hc : c ≤ 1000) (v : D) (hd : v.plain = true) (w : List D) : run T G (n + 3) 19 [KD c d s, v] w = if isKeyD c d s v = true then .ok (.fro .non, w) else .exc 3 .non := by
  rw [u_need_key]
  have h := r_is_key_of (T := T) (G := G) (n := n) c d s hc v hd
  cases hv : isKeyD c d s v <;> simp [b_need_key, h, hv]
theorem r_need_number {T : Nat → Option Fc} {G : Gv} [TIs T 6 c_is_int] [TIs T 15 c_need_number] {n : Nat} (v : D) (hd : v.plain = true) (lo hi : Int) (w : List D) : run T G (n + 2) 15 [v, .int lo, .int hi] w = if isIntD v lo hi = true then .ok (.fro .non, w) else .exc 2 .non := by
  rw [u_need_number]
  have h := r_is_int (T := T) (G := G) (n := n) v hd lo hi
  cases hv : isIntD v lo hi <;> simp [b_need_number, h, hv]
section
variable {c d s : Int} (hk : KdOk c d s)
theorem r_need_kind_ok {T : Nat → Option Fc} {G : Gv} [TIs T 6 c_is_int] [TIs T 7 c_is_kind] [TIs T 8 c_need_kind] {n : Nat} (hk : KdOk c d s) (w : List D) : run T G (n + 3) 8 [KD c d s] w = .ok (.fro .non, w) := by
  rw [r_need_kind _ (by simp), if_pos (isKindD_iff.mpr hk)]
theorem LD_small {c d s : Int} (hk : KdOk c d s) {L : List (List Int)} (hL : LkOk c d L) : ∀ l x m, LD L = .tup l → x ∈ l → x = .tup m → m.length ≤ 16777216 := by
  rintro l x m h hx rfl
  cases h
  obtain ⟨y, hy, e⟩ := List.mem_map.mp hx
  rw [mkT_eq] at e
  cases e
  have := (hL.small hk y hy).2
  rw [List.length_map]
  omega
theorem r_need_lock_ok {T : Nat → Option Fc} {G : Gv} [TIs T 6 c_is_int] [TIs T 9 c_is_rising] [TIs T 10 c_is_lock_of] [TIs T 11 c_need_lock] {n : Nat} (hk : KdOk c d s) {L : List (List Int)} (hL : LkOk c d L) (w : List D) : run T G (n + 4) 11 [KD c d s, LD L] w = .ok (.fro .non, w) := by
  rw [r_need_lock c d s (by have := hk.c2; omega) _ (by simp) (LD_small hk hL), if_pos (isLockD_iff.mpr hL)]
theorem r_need_key_ok {T : Nat → Option Fc} {G : Gv} [TIs T 6 c_is_int] [TIs T 18 c_is_key_of] [TIs T 19 c_need_key] {n : Nat} (hk : KdOk c d s) {K : List Int} (hK : KyOk c d s K) (w : List D) : run T G (n + 3) 19 [KD c d s, ID K] w = .ok (.fro .non, w) := by
  rw [r_need_key c d s (by have := hk.c2; omega) _ (by simp), if_pos (isKeyD_iff.mpr hK)]
theorem r_need_number_ok {T : Nat → Option Fc} {G : Gv} [TIs T 6 c_is_int] [TIs T 15 c_need_number] {n : Nat} {i lo hi : Int} (h1 : lo ≤ i) (h2 : i ≤ hi) (w : List D) : run T G (n + 2) 15 [.int i, .int lo, .int hi] w = .ok (.fro .non, w) := by
  rw [r_need_number _ (by simp), if_pos]
  rw [isIntD_int]
  simp [h1, h2]
theorem LkOk.len60 {L : List (List Int)} (hk : KdOk c d s) (hL : LkOk c d L) : ∀ cuts ∈ L, AscL cuts ∧ cuts.length ≤ 60 := fun x hx => ⟨hL.asc x hx, by
  have := asc_length (hL.asc x hx) (hL.rng x hx)
  have := hk.d2
  omega⟩
theorem r_number_ok {T : Nat → Option Fc} {G : Gv} [TIs T 12 c_tails] [TIs T 13 c_number_of] {n : Nat} (hk : KdOk c d s) {L : List (List Int)} (hL : LkOk c d L) (w : List D) : run T G (n + 2) 13 [KD c d s, LD L] w = .ok (.fro (.int (cnt s none L)), w) :=
  r_number_of c d s L (hL.nonempty hk) (by have := hL.length_le hk; omega) (hL.small hk) w
theorem r_whole_ok {T : Nat → Option Fc} {G : Gv} [TIs T 23 c_whole] {n : Nat} (hk : KdOk c d s) (w : List D) : run T G (n + 1) 23 [KD c d s] w = .ok (.fro (LD (wholeL c d)), w) :=
  r_whole c d s hk.c1 hk.c2 (by have := hk.d1; omega) hk.d2 w
theorem r_count {T : Nat → Option Fc} {G : Gv} [TIs T 6 c_is_int] [TIs T 7 c_is_kind] [TIs T 8 c_need_kind] [TIs T 9 c_is_rising] [TIs T 10 c_is_lock_of] [TIs T 11 c_need_lock] [TIs T 12 c_tails] [TIs T 13 c_number_of] [TIs T 14 c_count] {n : Nat} (hk : KdOk c d s) {L : List (List Int)} (hL : LkOk c d L) (w : List D) : run T G (n + 5) 14 [KD c d s, LD L] w = .ok (.fro (.int (cnt s none L)), w) := by
  rw [u_count]
  simp [b_count, r_need_kind_ok hk, r_need_lock_ok hk hL, r_number_ok hk hL]
theorem r_count_keys {T : Nat → Option Fc} {G : Gv} [TIs T 6 c_is_int] [TIs T 7 c_is_kind] [TIs T 8 c_need_kind] [TIs T 12 c_tails] [TIs T 13 c_number_of] [TIs T 23 c_whole] [TIs T 24 c_count_keys] {n : Nat} (hk : KdOk c d s) (w : List D) : run T G (n + 4) 24 [KD c d s] w = .ok (.fro (.int (cnt s none (wholeL c d))), w) := by
  rw [u_count_keys]
  simp [b_count_keys, r_need_kind_ok hk, r_whole_ok hk, r_number_ok hk (whole_ok hk)]
theorem r_key_at {T : Nat → Option Fc} {G : Gv} [TIs T 6 c_is_int] [TIs T 7 c_is_kind] [TIs T 8 c_need_kind] [TIs T 9 c_is_rising] [TIs T 10 c_is_lock_of] [TIs T 11 c_need_lock] [TIs T 12 c_tails] [TIs T 13 c_number_of] [TIs T 15 c_need_number] [TIs T 16 c_key_number] [TIs T 17 c_key_at] {n : Nat} (hk : KdOk c d s) {L : List (List Int)} (hL : LkOk c d L) (m : Nat) (K : List Int) (hK : (keysF s none L)[m]? = some K) (w : List D) : run T G (n + 5) 17 [KD c d s, LD L, .int m] w = .ok (.fro (ID K), w) := by
  rw [u_key_at]
  have hm : (m : Int) ≤ cnt s none L - 1 := by
    have := (List.getElem?_eq_some_iff.mp hK).1
    unfold cnt
    omega
  have hq := fun w => r_key_number (T := T) (G := G) (n := n + 2) c d s L (hL.nonempty hk) (by have := hL.length_le hk; omega) (hL.len60 hk) m K hK w
  simp [b_key_at, r_need_kind_ok hk, r_need_lock_ok hk hL, r_number_ok hk hL, r_need_number_ok (Int.natCast_nonneg m) hm, hq]
theorem r_rank {T : Nat → Option Fc} {G : Gv} [TIs T 6 c_is_int] [TIs T 7 c_is_kind] [TIs T 8 c_need_kind] [TIs T 9 c_is_rising] [TIs T 10 c_is_lock_of] [TIs T 11 c_need_lock] [TIs T 12 c_tails] [TIs T 18 c_is_key_of] [TIs T 19 c_need_key] [TIs T 20 c_rank_of] [TIs T 21 c_rank] {n : Nat} (hk : KdOk c d s) {L : List (List Int)} (hL : LkOk c d L) {K : List Int} (hK : KyOk c d s K) (w : List D) : run T G (n + 5) 21 [KD c d s, LD L, ID K] w = .ok (.fro (.int (below (keysF s none L) K)), w) := by
  rw [u_rank]
  have hq := fun w => r_rank_of (T := T) (G := G) (n := n + 2) c d s L (hL.nonempty hk) (by have := hL.length_le hk; omega) (hL.len60 hk) K (by have := hK.len; have := hL.len; omega) (by rw [← chainK_iff]; exact hK.near) w
  have h1 := fun w => r_need_key_ok (T := T) (G := G) (n := n + 1) hk hK w
  simp [b_rank, r_need_kind_ok hk, r_need_lock_ok hk hL, h1, hq]
def opensB (L : List (List Int)) (K : List Int) : Bool := (K.zip L).all fun p => p.2.contains p.1
theorem r_opens {T : Nat → Option Fc} {G : Gv} [TIs T 6 c_is_int] [TIs T 7 c_is_kind] [TIs T 8 c_need_kind] [TIs T 9 c_is_rising] [TIs T 10 c_is_lock_of] [TIs T 11 c_need_lock] [TIs T 18 c_is_key_of] [TIs T 19 c_need_key] [TIs T 28 c_is_open] [TIs T 29 c_opens] {n : Nat} (hk : KdOk c d s) {L : List (List Int)} (hL : LkOk c d L) {K : List Int} (hK : KyOk c d s K) (w : List D) : run T G (n + 5) 29 [KD c d s, LD L, ID K] w = .ok (.fro (.bl (opensB L K)), w) := by
  rw [u_opens]
  have h1 := fun w => r_need_key_ok (T := T) (G := G) (n := n + 1) hk hK w
  have hq := fun w => r_is_open (T := T) (G := G) (n := n + 3) L K (by have := hK.len; have := hk.c2; omega) w
  simp [b_opens, r_need_kind_ok hk, r_need_lock_ok hk hL, h1, hq, opensB]
/-- what is a key of a lock -/
theorem KyOk.ok_iff {K : List Int} {L : List (List Int)} (hK : KyOk c d s K) (hL : LkOk c d L) : okK s none L K = opensB L K := by
  rw [okK_split, ← chainK_iff, hK.near]
  have : K.length = L.length := by have := hK.len; have := hL.len; omega
  simp [this, opensB]
theorem KyOk.of_mem {K : List Int} {L : List (List Int)} (hL : LkOk c d L) (h : K ∈ keysF s none L) : KyOk c d s K := by
  rw [mem_keysF] at h
  have hl := okK_len s L none K h
  rw [okK_split, Bool.and_eq_true, Bool.and_eq_true] at h
  refine ⟨by have := hL.len; omega, fun x hx => ?_, by rw [chainK_iff]; exact h.2⟩
  have h2 := List.all_eq_true.mp h.1.2
  obtain ⟨i, hi, e⟩ := List.mem_iff_getElem.mp hx
  have hz : (K[i], L[i]'(by omega)) ∈ K.zip L := List.mem_iff_getElem.mpr ⟨i, by rw [List.length_zip]; omega, by rw [List.getElem_zip]⟩
  have := h2 _ hz
  rw [e] at this
  exact hL.rng _ (List.getElem_mem (by omega)) x (List.contains_iff_mem.mp this)
theorem KyOk.mem_whole {K : List Int} (hk : KdOk c d s) (hK : KyOk c d s K) : K ∈ keysF s none (wholeL c d) := by
  rw [mem_keysF, hK.ok_iff (whole_ok hk)]
  unfold opensB
  rw [List.all_eq_true]
  rintro ⟨x, cuts⟩ h
  have h1 := (List.of_mem_zip h).1
  have h2 := (List.of_mem_zip h).2
  rw [(List.mem_replicate.mp h2).2, List.contains_iff_mem, mem_rangeI]
  exact hK.rng x h1
end
end Pk

end
section
/-! W1: the laws' wells, and what is drawn from them. -/
namespace Pk
open PySem L2
theorem bitsOk_small {i j : Int} (h1 : i.natAbs < 2 ^ 1000) (h2 : j.natAbs < 2 ^ 1000) : bitsOk i j = true := by
  unfold bitsOk
  refine decide_eq_true ?_
  have a : ∀ k : Nat, k < 2 ^ 1000 → k.log2 < 1000 := fun k hk => by
    by_cases h0 : k = 0
    · subst h0; rw [Nat.log2_zero]; omega
    · exact (Nat.log2_lt h0).mpr hk
  have := a _ h1
  have := a _ h2
  omega
theorem bitsOk_lt {i j : Int} (h1 : -1000000000000 < i) (h2 : i < 1000000000000) (h3 : -1000000000000 < j) (h4 : j < 1000000000000) : bitsOk i j = true :=
  bitsOk_small (Nat.lt_of_lt_of_le (m := 2 ^ 60) (by omega) (Nat.pow_le_pow_right (by omega) (by omega))) (Nat.lt_of_lt_of_le (m := 2 ^ 60) (by omega) (Nat.pow_le_pow_right (by omega) (by omega)))
/-- a well: what is left of a great cell, and a number that goes on from it -/
def Wl (w : List D) : Prop := ∃ c x : Int, w = [.int c, .int x] ∧ 0 ≤ c ∧ 0 ≤ x ∧ x < 2147483282
theorem r_law_well {T : Nat → Option Fc} {G : Gv} [TIs T 0 c_law_well] {n : Nat} (ns : List Int) (k : Nat) (hk : k ≤ 100) (w : List D) : ∃ l, run T G (n + 1) 0 [.scr ns, .int k] w = .ok (.own (.lst l), w) ∧ Wl l := by
  have b1 : bitsOk 55541 k = true := bitsOk_lt (by omega) (by omega) (by omega) (by omega)
  have b3 : ∀ z : Int, bitsOk (z % 2147483281) 5 = true := fun z => bitsOk_lt (by omega) (by omega) (by omega) (by omega)
  have b4 : bitsOk 53 k = true := bitsOk_lt (by omega) (by omega) (by omega) (by omega)
  have b5 : bitsOk 1000000000000000000000000000000000000000000000000000000000000 1000000000000000000000000000000000000000000000000000000000000 = true := by decide +kernel
  have b6 : bitsOk 1000000000000000000000000000000000000000000000000000000000000000000000000000000000000000000000000000000000000000000000000 1000000000000000000000000000000000000000000000000000000000000 = true := by decide +kernel
  have b7 : bitsOk 1000000000000000000000000000000000000000000000000000000000000000000000000000000000000000000000000000000000000000000000000000000000000000000000000000000000000000000000000000000000000 1000000000000000000000000000000000000000000000000000000000000 = true := by decide +kernel
  have fin : ∀ z : Int, 0 ≤ z → Wl [.int (if 1000000000000000000 ≤ z then z else 0), .int ((z % 2147483281 * 5 + 53 * (k : Int) + 13) % 2147483281 + 1)] := fun z hz => ⟨_, _, rfl, by split <;> omega, by omega, by omega⟩
  rw [u_law_well]
  by_cases h : k < ns.length
  · have h' : (k : Int) < ns.length := by omega
    have e : atI ns (k : Int) = some ns[k] := by rw [atI_nat, List.getElem?_eq_getElem h]
    simp [b_law_well, b1, b3, b4, b5, b6, b7, h, e]
    exact fin _ (by omega)
  · have h' : ¬ (k : Int) < ns.length := by omega
    cases ns with
    | nil =>
      have h0 : ¬ (k : Int) < 0 := by omega
      simp [b_law_well, b1, b3, b4, h0]
      refine fin _ ?_
      omega
    | cons y ns =>
      have h0 : ¬ (k : Int) < (ns.length : Int) + 1 := by simp only [List.length_cons] at h'; omega
      have h1 : (0 : Int) < (ns.length : Int) + 1 := by omega
      simp [b_law_well, b1, b3, b4, h0, h1]
      refine fin _ ?_
      omega
theorem r_law_dip {T : Nat → Option Fc} {G : Gv} [TIs T 1 c_law_dip] {n : Nat} {m : Int} (h0 : 0 < m) (h1 : m < 1073741824) {w : List D} (hw : Wl w) : ∃ r w', run T G (n + 1) 1 [.int m] w = .ok (.fro (.int r), w') ∧ Wl w' ∧ 0 ≤ r ∧ r < m := by
  obtain ⟨c, x, rfl, hc, hx, hx'⟩ := hw
  suffices h : Wp (run T G (n + 1) 1 [.int m] [.int c, .int x]) fun q => ∃ r w', q = (.fro (.int r), w') ∧ Wl w' ∧ 0 ≤ r ∧ r < m by
    obtain ⟨_, e, r, w', rfl, h⟩ := h
    exact ⟨r, w', e, h⟩
  rw [u_law_dip]
  by_cases hp : 0 < c
  · have hd : 0 ≤ c / m := Int.ediv_nonneg hc (by omega)
    have h2 := Int.emod_nonneg c (show m ≠ 0 by omega)
    have h3 := Int.emod_lt_of_pos c h0
    simp [b_law_dip, hp, h0, h1, storeD, ixN]
    exact ⟨_, _, ⟨rfl, rfl⟩, ⟨_, _, rfl, hd, hx, hx'⟩, h2, h3⟩
  · have hc0 : c = 0 := by omega
    subst hc0
    simp [b_law_dip, storeD, ixN]
    refine Wp.bind (Wp.bind ?_)
    refine whileL_w (fun k e => ∃ x f wd : Int, e = ⟨[.well, .fro (.int m), .fro (.int f), .fro (.int wd)], [.int 0, .int x]⟩ ∧ 0 ≤ x ∧ x < 2147483282 ∧ 0 ≤ f ∧ f < wd ∧ ((k = 3 ∧ wd = 1) ∨ (k = 2 ∧ wd = 8192) ∨ (k = 1 ∧ wd = 67108864) ∨ (k = 0 ∧ wd = 549755813888))) 3 ⟨x, 0, 1, rfl, hx, hx', by omega, by omega, .inl ⟨rfl, rfl⟩⟩ (by decide) ?_
    rintro k e ⟨x, f, wd, rfl, hx, hx', hf, hf', hk⟩
    refine ⟨decide (wd < m) || decide (wd = 1), ⟨[.well, .fro (.int m), .fro (.int f), .fro (.int wd)], [.int 0, .int x]⟩, ?_, ?_, ?_⟩
    · by_cases h : wd < m <;> by_cases h2 : wd = 1 <;> simp [h, h2]
    · intro hb
      have h2 := Int.emod_nonneg f (show m ≠ 0 by omega)
      have h3 := Int.emod_lt_of_pos f h0
      simp [h0]
      exact ⟨_, _, ⟨rfl, rfl⟩, ⟨_, _, rfl, by omega, hx, hx'⟩, h2, h3⟩
    · intro hb R hnx hbk hrt
      have hb' : wd < m ∨ wd = 1 := by simpa using hb
      have b1 : bitsOk x 28657 = true := bitsOk_lt (by omega) (by omega) (by omega) (by omega)
      have b2 : bitsOk f 8192 = true := bitsOk_lt (by omega) (by omega) (by omega) (by omega)
      have b3 : bitsOk wd 8192 = true := bitsOk_lt (by omega) (by omega) (by omega) (by omega)
      simp [b1, b2, b3, storeD, ixN]
      rcases hk with ⟨rfl, rfl⟩ | ⟨rfl, rfl⟩ | ⟨rfl, rfl⟩ | ⟨rfl, rfl⟩
      · exact hnx 2 _ (by omega) ⟨_, _, _, rfl, by omega, by omega, by omega, by omega, .inr (.inl ⟨rfl, by omega⟩)⟩
      · exact hnx 1 _ (by omega) ⟨_, _, _, rfl, by omega, by omega, by omega, by omega, .inr (.inr (.inl ⟨rfl, by omega⟩))⟩
      · exact hnx 0 _ (by omega) ⟨_, _, _, rfl, by omega, by omega, by omega, by omega, .inr (.inr (.inr ⟨rfl, by omega⟩))⟩
      · omega
theorem r_law_pick {T : Nat → Option Fc} {G : Gv} [TIs T 1 c_law_dip] [TIs T 2 c_law_pick] {n : Nat} {l : List D} (h0 : l ≠ []) (h1 : l.length < 1073741824) {w : List D} (hw : Wl w) : ∃ d w', run T G (n + 2) 2 [.lst l] w = .ok (.fro d, w') ∧ Wl w' ∧ d ∈ l := by
  have hl : 0 < l.length := List.length_pos_iff.mpr h0
  obtain ⟨r, w', h, hw', h2, h3⟩ := r_law_dip (T := T) (G := G) (n := n) (m := (l.length : Int)) (by omega) (by omega) hw
  have hr : r.toNat < l.length := by omega
  have e : atI l r = some l[r.toNat] := by rw [atI_pos h2, List.getElem?_eq_getElem hr]
  rw [u_law_pick]
  simp [b_law_pick, h, e]
  exact ⟨_, _, ⟨rfl, rfl⟩, hw', List.getElem_mem hr⟩
theorem r_law_kind {T : Nat → Option Fc} {G : Gv} [TIs T 1 c_law_dip] [TIs T 2 c_law_pick] [TIs T 3 c_law_kind] {n : Nat} {C Dp : Int} (hC : 2 ≤ C) (hC' : C ≤ 6) (hD : 2 ≤ Dp) (hD' : Dp ≤ 10) {w : List D} (hw : Wl w) : ∃ c d s w', run T G (n + 3) 3 [.int C, .int Dp] w = .ok (.fro (KD c d s), w') ∧ Wl w' ∧ KdOk c d s ∧ c ≤ C ∧ d ≤ Dp := by
  obtain ⟨r1, w1, e1, hw1, a1, a2⟩ := r_law_dip (T := T) (G := G) (n := n + 1) (m := Dp - 1) (by omega) (by omega) hw
  obtain ⟨r2, w2, e2, hw2, a3, a4⟩ := r_law_dip (T := T) (G := G) (n := n + 1) (m := C - 1) (by omega) (by omega) hw1
  obtain ⟨r3, w3, e3, hw3, a5, a6⟩ := r_law_dip (T := T) (G := G) (n := n + 1) (m := 2 + r1 - 1) (by omega) (by omega) hw2
  obtain ⟨dd, w4, e4, hw4, a7⟩ := r_law_pick (T := T) (G := G) (n := n) (l := [.int 1, .int (2 + r1 - 1), .int (1 + r3)]) (by simp) (by simp) hw3
  obtain ⟨s, rfl, hs⟩ : ∃ s, dd = .int s ∧ 1 ≤ s ∧ s ≤ 2 + r1 - 1 := by
    simp only [List.mem_cons, List.not_mem_nil, or_false] at a7
    rcases a7 with rfl | rfl | rfl
    · exact ⟨_, rfl, by omega, by omega⟩
    · exact ⟨_, rfl, by omega, by omega⟩
    · exact ⟨_, rfl, by omega, by omega⟩
  rw [u_law_kind]
  simp [b_law_kind, e1, e2, e3, e4]
  exact ⟨_, _, _, _, ⟨⟨rfl, rfl, rfl⟩, rfl⟩, hw4, ⟨by omega, by omega, by omega, by omega, by omega, by omega⟩, by omega, by omega⟩
theorem r_law_cuts {T : Nat → Option Fc} {G : Gv} [TIs T 1 c_law_dip] [TIs T 2 c_law_pick] [TIs T 4 c_law_cuts] {n : Nat} {d : Int} (hd : 0 < d) (hd' : d ≤ 1000) {w : List D} (hw : Wl w) : ∃ cs w', run T G (n + 3) 4 [.int d] w = .ok (.fro (ID cs), w') ∧ Wl w' ∧ AscL cs ∧ cs ≠ [] ∧ ∀ x ∈ cs, 0 ≤ x ∧ x < d := by
  obtain ⟨one, w1, e1, hw1, a1, a2⟩ := r_law_dip (T := T) (G := G) (n := n + 1) (m := d) hd (by omega) hw
  obtain ⟨dd, w2, e2, hw2, a3⟩ := r_law_pick (T := T) (G := G) (n := n) (l := [.int 2, .int 2, .int 3, .int 5]) (by simp) (by simp) hw1
  obtain ⟨rare, rfl, h1, h2⟩ : ∃ s, dd = .int s ∧ 2 ≤ s ∧ s ≤ 5 := by
    simp only [List.mem_cons, List.not_mem_nil, or_false] at a3
    rcases a3 with rfl | rfl | rfl | rfl <;> exact ⟨_, rfl, by omega, by omega⟩
  suffices h : Wp (run T G (n + 3) 4 [.int d] w) fun q => ∃ cs w', q = (.fro (ID cs), w') ∧ Wl w' ∧ AscL cs ∧ cs ≠ [] ∧ ∀ x ∈ cs, 0 ≤ x ∧ x < d by
    obtain ⟨_, e, r, w', rfl, h⟩ := h
    exact ⟨r, w', e, h⟩
  rw [u_law_cuts]
  have hr := rangeD_0 (hi := d) (by omega) (by omega)
  simp [-List.all_eq_true, -List.all_eq_false, -List.any_eq_true, -List.any_eq_false, b_law_cuts, e1, e2, hr, -lcL_map]
  iterate 8 (try refine Wp.bind ?_)
  refine Wp.noexc ?_
  refine lcL_wp (fun acc xs e => ∃ (did todo as : List Int) (w' : List D), did ++ todo = rangeI d ∧ xs = todo.map .int ∧ acc = as.map .int ∧ as.Sublist did ∧ (one ∈ did → one ∈ as) ∧ Wl w' ∧ e = ⟨[.well, .fro (.int d), .fro (.int one), .fro (.int rare), .un], w'⟩) ?_ ?_ ?_
  · exact ⟨[], rangeI d, [], w2, rfl, rfl, rfl, .slnil, fun h => (by cases h), hw2, rfl⟩
  · rintro acc e ⟨did, todo, as, w', h3, h4, rfl, h5, h6, hw', rfl⟩
    have : todo = [] := by simpa using h4.symm
    subst this
    rw [List.append_nil] at h3
    subst h3
    have hl := h5.length_le
    rw [rangeI_length] at hl
    have hl' : as.length ≤ 16777216 := by omega
    simp [-List.all_eq_true, -List.all_eq_false, -List.any_eq_true, -List.any_eq_false, hl']
    refine ⟨as, w', ⟨rfl, rfl⟩, hw', (rangeI_asc d).sublist h5, fun e => ?_, fun x hx => mem_rangeI.mp (h5.subset hx)⟩
    have := h6 (mem_rangeI.mpr ⟨a1, a2⟩)
    rw [e] at this
    cases this
  · rintro R acc x xs e ⟨did, todo, as, w', h3, h4, rfl, h5, h6, hw', rfl⟩ hR
    obtain ⟨cut, todo, rfl⟩ : ∃ a b, todo = a :: b := by
      cases todo with
      | nil => cases h4
      | cons a b => exact ⟨a, b, rfl⟩
    simp only [List.map_cons, List.cons.injEq] at h4
    obtain ⟨rfl, rfl⟩ := h4
    have h3' : (did ++ [cut]) ++ todo = rangeI d := by rw [← h3]; simp
    by_cases hc : cut = one
    · simp [hc]
      refine hR _ _ ⟨_, todo, as ++ [cut], w', h3', rfl, by simp [hc], h5.append (List.Sublist.refl _), fun _ => by rw [hc]; simp, hw', by simp⟩
    · obtain ⟨r, w3, e3, hw3, a5, a6⟩ := r_law_dip (T := T) (G := G) (n := n + 1) (m := rare) (by omega) (by omega) hw'
      have h7 : one ∈ did ++ [cut] → one ∈ as := fun hm => by
        rcases List.mem_append.mp hm with hm | hm
        · exact h6 hm
        · exact absurd (List.mem_singleton.mp hm).symm hc
      by_cases hr0 : r = 0
      · subst hr0
        simp [hc, e3]
        exact hR _ _ ⟨_, todo, as ++ [cut], w3, h3', rfl, by simp, h5.append (List.Sublist.refl _), fun hm => List.mem_append_left _ (h7 hm), hw3, by simp⟩
      · simp [hc, e3, hr0]
        exact hR _ _ ⟨_, todo, as, w3, h3', rfl, by simp, h5.trans (List.sublist_append_left _ _), h7, hw3, by simp⟩
theorem r_law_lock {T : Nat → Option Fc} {G : Gv} [TIs T 1 c_law_dip] [TIs T 2 c_law_pick] [TIs T 4 c_law_cuts] [TIs T 5 c_law_lock] {n : Nat} {c d s : Int} (hk : KdOk c d s) {w : List D} (hw : Wl w) : ∃ L w', run T G (n + 4) 5 [KD c d s] w = .ok (.fro (LD L), w') ∧ Wl w' ∧ LkOk c d L := by
  suffices h : Wp (run T G (n + 4) 5 [KD c d s] w) fun q => ∃ L w', q = (.fro (LD L), w') ∧ Wl w' ∧ LkOk c d L by
    obtain ⟨_, e, r, w', rfl, h⟩ := h
    exact ⟨r, w', e, h⟩
  have := hk.c1
  have := hk.c2
  have := hk.d1
  have := hk.d2
  rw [u_law_lock]
  have hr := rangeD_0 (hi := c) (by omega) (by omega)
  simp [-List.all_eq_true, -List.all_eq_false, -List.any_eq_true, -List.any_eq_false, b_law_lock, hr, -lcL_map]
  iterate 8 (try refine Wp.bind ?_)
  refine Wp.noexc ?_
  refine lcL_wp (fun acc xs e => ∃ (todo : List Int) (L : List (List Int)) (w' : List D), xs = todo.map .int ∧ acc = L.map mkT ∧ L.length + todo.length = c.toNat ∧ (∀ cuts ∈ L, AscL cuts ∧ cuts ≠ [] ∧ ∀ x ∈ cuts, 0 ≤ x ∧ x < d) ∧ Wl w' ∧ e = ⟨[.well, .fro (KD c d s), .un], w'⟩) ?_ ?_ ?_
  · exact ⟨rangeI c, [], w, rfl, rfl, by rw [rangeI_length, List.length_nil]; omega, fun _ h => (by cases h), hw, rfl⟩
  · rintro acc e ⟨todo, L, w', h1, rfl, h2, h3, hw', rfl⟩
    have : todo = [] := by simpa using h1.symm
    subst this
    rw [List.length_nil] at h2
    have hl : L.length ≤ 16777216 := by omega
    simp [-List.all_eq_true, -List.all_eq_false, -List.any_eq_true, -List.any_eq_false, hl]
    exact ⟨L, w', ⟨rfl, rfl⟩, hw', by omega, fun x hx => (h3 x hx).1, fun x hx => (h3 x hx).2.1, fun x hx => (h3 x hx).2.2⟩
  · rintro R acc x xs e ⟨todo, L, w', h1, rfl, h2, h3, hw', rfl⟩ hR
    obtain ⟨cut, todo, rfl⟩ : ∃ a b, todo = a :: b := by
      cases todo with
      | nil => cases h1
      | cons a b => exact ⟨a, b, rfl⟩
    simp only [List.map_cons, List.cons.injEq] at h1
    obtain ⟨rfl, rfl⟩ := h1
    obtain ⟨cs, w2, e2, hw2, h4⟩ := r_law_cuts (T := T) (G := G) (n := n) (d := d) (by omega) (by omega) hw'
    simp [e2]
    refine hR _ _ ⟨todo, L ++ [cs], w2, rfl, by simp, by simp at h2 ⊢; omega, fun y hy => ?_, hw2, by simp⟩
    rcases List.mem_append.mp hy with hy | hy
    · exact h3 y hy
    · rw [List.mem_singleton.mp hy]; exact h4
theorem nearB_snoc (s : Int) : ∀ (K : List Int) (q x : Int), K.getLast? = some q → nearB s K = true → ((x - q).natAbs : Int) ≤ s → nearB s (K ++ [x]) = true
  | [], q, x, h, _, _ => by cases h
  | [y], q, x, h, _, hs => by
    have : y = q := by simpa using h
    subst this
    show ([(y, x)].all fun p => decide (((p.1 - p.2).natAbs : Int) ≤ s)) = true
    rw [← Int.natAbs_neg] at hs
    have e : -(x - y) = y - x := by omega
    rw [e] at hs
    simp [hs]
  | y :: z :: K, q, x, h, hn, hs => by
    rw [List.getLast?_cons_cons] at h
    have e : ∀ l, nearB s (y :: z :: l) = (decide (((y - z).natAbs : Int) ≤ s) && nearB s (z :: l)) := fun _ => rfl
    rw [e, Bool.and_eq_true] at hn
    rw [List.cons_append, List.cons_append, e, Bool.and_eq_true]
    exact ⟨hn.1, nearB_snoc s (z :: K) q x h hn.2 hs⟩
theorem r_law_key {T : Nat → Option Fc} {G : Gv} [TIs T 1 c_law_dip] [TIs T 25 c_law_key] {n : Nat} {c d s : Int} (hk : KdOk c d s) {w : List D} (hw : Wl w) : ∃ K w', run T G (n + 2) 25 [KD c d s] w = .ok (.fro (ID K), w') ∧ Wl w' ∧ KyOk c d s K := by
  suffices h : Wp (run T G (n + 2) 25 [KD c d s] w) fun q => ∃ K w', q = (.fro (ID K), w') ∧ Wl w' ∧ KyOk c d s K by
    obtain ⟨_, e, r, w', rfl, h⟩ := h
    exact ⟨r, w', e, h⟩
  have := hk.c1
  have := hk.c2
  have := hk.d1
  have := hk.d2
  have := hk.s1
  have := hk.s2
  obtain ⟨r, w1, e1, hw1, a1, a2⟩ := r_law_dip (T := T) (G := G) (n := n) (m := d) (by omega) (by omega) hw
  rw [u_law_key]
  simp [b_law_key, e1]
  refine Wp.bind (Wp.bind ?_)
  refine whileL_w (fun k e => ∃ (K : List Int) (q : Int) (w' : List D) (s3 s4 : Sl), s3.set = true ∧ s4.set = true ∧ K.getLast? = some q ∧ K.length + k = c ∧ (∀ x ∈ K, 0 ≤ x ∧ x < d) ∧ nearB s K = true ∧ Wl w' ∧ e = ⟨[.well, .fro (KD c d s), .fro (ID K), s3, s4], w'⟩) (c - 1).toNat ⟨[r], r, w1, .un, .un, rfl, rfl, rfl, by simp; omega, by simp; omega, rfl, hw1, rfl⟩ (by unfold fuel; omega) ?_
  rintro k e ⟨K, q, w', s3, s4, h3, h4, hq, hl, hr, hn, hw', rfl⟩
  refine ⟨decide ((K.length : Int) < c), ⟨[.well, .fro (KD c d s), .fro (ID K), s3, s4], w'⟩, ?_, ?_, ?_⟩
  · simp
  · intro hb
    have hb' : ¬ (K.length : Int) < c := by simpa using hb
    simp
    exact ⟨K, w', ⟨rfl, rfl⟩, hw', by omega, hr, hn⟩
  · intro hb R hnx hbk hrt
    have hb' : (K.length : Int) < c := by simpa using hb
    have hqr := hr q (List.mem_of_getLast? hq)
    obtain ⟨r, w2, e2, hw2, a3, a4⟩ := r_law_dip (T := T) (G := G) (n := n) (m := min (d - 1) (q + s) - max 0 (q - s) + 1) (by omega) (by omega) hw'
    have hl' : K.length + 1 ≤ 16777216 := by omega
    simp [hq, h3, h4, e2, hl']
    refine hnx (k - 1) _ (by omega) ⟨K ++ [max 0 (q - s) + r], max 0 (q - s) + r, w2, _, _, Sl.set_fro (.int (max 0 (q - s))), Sl.set_fro (.int (min (d - 1) (q + s))), by simp, by simp; omega, fun x hx => ?_, nearB_snoc s K q _ hq hn (by omega), hw2, by simp⟩
    rcases List.mem_append.mp hx with hx | hx
    · exact hr x hx
    · rw [List.mem_singleton.mp hx]; omega
end Pk

end
section
/-! W2: numbers of keys from the first chamber on; what is a key, in the laws' words. -/
namespace Pk
open PySem L2
theorem r_law_is_whole {T : Nat → Option Fc} {G : Gv} [TIs T 26 c_law_is_whole] {n : Nat} (d : D) (hd : d.plain = true) (lo hi : Int) (w : List D) : run T G (n + 1) 26 [d, .int lo, .int hi] w = .ok (.fro (.bl (isIntD d lo hi)), w) := by
  rw [u_law_is_whole]
  cases d <;> first | (exact absurd hd Bool.false_ne_true) | simp [b_law_is_whole, isIntD]
theorem nearB_mid {s : Int} : ∀ {a : List Int} {p q : Int} {b : List Int}, nearB s (a ++ p :: q :: b) = true → ((p - q).natAbs : Int) ≤ s
  | [], p, q, b, h => by
    have e : nearB s (p :: q :: b) = (decide (((p - q).natAbs : Int) ≤ s) && nearB s (q :: b)) := rfl
    rw [List.nil_append, e, Bool.and_eq_true] at h
    exact of_decide_eq_true h.1
  | [x], p, q, b, h => by
    have e : nearB s (x :: p :: q :: b) = (decide (((x - p).natAbs : Int) ≤ s) && nearB s (p :: q :: b)) := rfl
    rw [List.singleton_append, e, Bool.and_eq_true] at h
    exact nearB_mid (a := []) h.2
  | x :: y :: a, p, q, b, h => by
    have e : ∀ l, nearB s (x :: y :: l) = (decide (((x - y).natAbs : Int) ≤ s) && nearB s (y :: l)) := fun _ => rfl
    rw [List.cons_append, List.cons_append, e, Bool.and_eq_true] at h
    exact nearB_mid (a := y :: a) h.2
theorem r_law_is_key {T : Nat → Option Fc} {G : Gv} [TIs T 26 c_law_is_whole] [TIs T 27 c_law_is_key] {n : Nat} (c d s : Int) (hc : c ≤ 1000) (v : D) (hd : v.plain = true) (w : List D) : run T G (n + 2) 27 [KD c d s, v] w = .ok (.fro (.bl (isKeyD c d s v)), w) := by
  rw [u_law_is_key]
  cases v with
  | tup l =>
    rw [plain_tup] at hd
    by_cases hl : (l.length : Int) = c
    · have hr := rangeD_0 (hi := c) (by omega) (by omega)
      refine Wp.eq ?_
      simp [-List.all_eq_true, -List.all_eq_false, -List.any_eq_true, -List.any_eq_false, b_law_is_key, hl, hr]
      refine Wp.bind (Wp.bind ?_)
      refine forL_w (fun xs e => ∃ (did : List Int) (todo : List D) (s2 : Sl), s2.set = true ∧ l = did.map .int ++ todo ∧ did.all (fun i => isIntD (.int i) 0 (d - 1)) = true ∧ nearB s did = true ∧ xs = (List.range' did.length todo.length).map (fun (i : Nat) => .int (i : Int)) ∧ e = ⟨[.fro (KD c d s), .fro (.tup l), s2], w⟩) ?_ ?_ ?_
      · refine ⟨[], l, .un, rfl, rfl, rfl, rfl, ?_, rfl⟩
        unfold rangeI
        rw [List.map_map, comp_lam, ← hl, Int.toNat_natCast, List.range_eq_range']
        rfl
      · rintro e ⟨did, todo, s2, h2, h3, h4, h5, h6, rfl⟩
        have : todo = [] := by
          cases todo with
          | nil => rfl
          | cons a b => cases h6
        subst this
        rw [List.append_nil] at h3
        simp only [isIntD_int] at h4
        simp [-List.all_eq_true, -List.all_eq_false, -List.any_eq_true, -List.any_eq_false, isKeyD, h3, h5, isIntD_int, h4]
        rw [h3, List.length_map] at hl
        exact hl
      · rintro R x xs e ⟨did, todo, s2, h2, h3, h4, h5, h6, rfl⟩ hnx hbk hrt
        obtain ⟨t, todo, rfl⟩ : ∃ a b, todo = a :: b := by
          cases todo with
          | nil => cases h6
          | cons a b => exact ⟨a, b, rfl⟩
        rw [List.length_cons, List.range'_succ, List.map_cons, List.cons.injEq] at h6
        obtain ⟨rfl, rfl⟩ := h6
        have e1 : atI l (did.length : Int) = some t := by rw [atI_nat, h3, List.getElem?_append_right (by rw [List.length_map]; exact Nat.le_refl _), List.length_map, Nat.sub_self]; rfl
        have hp : t.plain = true := List.all_eq_true.mp hd t (by rw [h3]; simp)
        have hw := r_law_is_whole (T := T) (G := G) (n := n) t hp 0 (d - 1)
        by_cases hi : isIntD t 0 (d - 1) = true
        · obtain ⟨ti, rfl⟩ : ∃ i, t = .int i := by cases t <;> first | exact ⟨_, rfl⟩ | cases hi
          rcases List.eq_nil_or_concat did with rfl | ⟨pre, q, rfl⟩
          · simp at e1
            simp [-List.all_eq_true, -List.all_eq_false, -List.any_eq_true, -List.any_eq_false, h2, e1, hw, hi]
            refine hnx _ ⟨[ti], todo, _, Sl.set_fro (.int 0), by rw [h3]; rfl, ?_, rfl, rfl, rfl⟩
            simp only [List.all_cons, List.all_nil, hi, Bool.and_true]
          · rw [List.concat_eq_append] at *
            have e2 : atI l (pre.length : Int) = some (.int q) := by
              rw [atI_nat, h3]
              simp
            simp at e1
            have hpos : (0 : Int) < (pre.length : Int) + 1 := by omega
            by_cases hs : s < ((ti - q).natAbs : Int)
            · simp [-List.all_eq_true, -List.all_eq_false, -List.any_eq_true, -List.any_eq_false, h2, e1, e2, hw, hi, hpos, hs]
              refine hrt _ _ ?_
              have : isKeyD c d s (.tup l) = false := by
                cases hk : isKeyD c d s (.tup l) with
                | false => rfl
                | true =>
                  unfold isKeyD at hk
                  simp only [Bool.and_eq_true] at hk
                  have h7 := hk.2
                  rw [h3] at h7
                  simp at h7
                  have := nearB_mid h7
                  omega
              simp [this]
            · simp [-List.all_eq_true, -List.all_eq_false, -List.any_eq_true, -List.any_eq_false, h2, e1, e2, hw, hi, hpos, hs]
              refine hnx _ ⟨pre ++ [q] ++ [ti], todo, _, Sl.set_fro (.int ((pre.length : Int) + 1)), by rw [h3]; simp, ?_, nearB_snoc s _ q ti (by simp) h5 (by omega), by simp, rfl⟩
              rw [List.all_append, h4]
              simp [-List.all_eq_true, hi]
        · simp [-List.all_eq_true, -List.all_eq_false, -List.any_eq_true, -List.any_eq_false, h2, e1, hw, hi]
          refine hrt _ _ ?_
          have : isKeyD c d s (.tup l) = false := by
            cases hk : isKeyD c d s (.tup l) with
            | false => rfl
            | true =>
              unfold isKeyD at hk
              simp only [Bool.and_eq_true] at hk
              exact absurd (List.all_eq_true.mp hk.1.2 t (by rw [h3]; simp)) hi
          simp [this]
    · simp [b_law_is_key, hl, isKeyD]
  | _ => first | (exact absurd hd Bool.false_ne_true) | simp [b_law_is_key, isKeyD]
theorem pairsD_map (f : Int → D) (cs : List Int) : pairsD (cs.map fun c => .tup [.int c, f c]) = some (cs.map fun c => (.inl c, f c)) := by
  induction cs with
  | nil => rfl
  | cons x cs ih =>
    rw [List.map_cons, List.map_cons]
    show (match keyD (.int x), pairsD (cs.map fun c => .tup [.int c, f c]) with | some k, some r => some ((k, f x) :: r) | _, _ => none) = _
    rw [ih]
    rfl
theorem mergeD_map (f : Int → D) : ∀ (cs : List Int) (acc : List (Key × D)), cs.Nodup → (∀ c ∈ cs, ∀ p ∈ acc, p.1 ≠ .inl c) → mergeD acc (cs.map fun c => (.inl c, f c)) = acc ++ cs.map fun c => (.inl c, f c)
  | [], acc, _, _ => by rw [List.map_nil, List.append_nil]; rfl
  | c :: cs, acc, h, k => by
    obtain ⟨h1, h2⟩ := List.nodup_cons.mp h
    show mergeD (putK (.inl c) (f c) acc) (cs.map fun c => (.inl c, f c)) = _
    rw [putK_new (k c (List.mem_cons_self ..)), mergeD_map f cs _ h2 fun x hx p hp => ?_]
    · rw [List.append_assoc]; rfl
    · rcases List.mem_append.mp hp with hp | hp
      · exact k x (List.mem_cons_of_mem _ hx) p hp
      · rw [List.mem_singleton.mp hp]
        rintro ⟨⟩
        exact h1 hx
theorem flatMap_congr' {A B : Type} {l : List A} {f g : A → List B} (h : ∀ x ∈ l, f x = g x) : l.flatMap f = l.flatMap g := by
  induction l with
  | nil => rfl
  | cons x l ih => rw [List.flatMap_cons, List.flatMap_cons, h x (List.mem_cons_self ..), ih fun y hy => h y (List.mem_cons_of_mem _ hy)]
theorem r_law_ways {T : Nat → Option Fc} {G : Gv} [TIs T 22 c_law_ways] {n : Nat} {c d s : Int} (hk : KdOk c d s) {L : List (List Int)} (hL : LkOk c d L) (w : List D) : run T G (n + 1) 22 [KD c d s, LD L] w = .ok (.fro (.int (cnt s none L)), w) := by
  rw [u_law_ways, ← cnt_reverse s L hL.asc]
  obtain ⟨c0, L1, rfl⟩ : ∃ a b, L = a :: b := by
    cases L with
    | nil => exact absurd rfl (hL.nonempty hk)
    | cons a b => exact ⟨a, b, rfl⟩
  have hA := hL.len60 hk
  have h0 := hA c0 (List.mem_cons_self ..)
  have hc0 : c0.length ≤ 16777216 := by omega
  refine Wp.eq ?_
  simp [-List.all_eq_true, -List.all_eq_false, -List.any_eq_true, -List.any_eq_false, b_law_ways, hc0, pairsD_map (fun _ => D.int 1) c0, mergeD_map (fun _ => D.int 1) c0 [] h0.1.nodup (fun _ _ _ h => by cases h)]
  refine Wp.bind (Wp.bind ?_)
  refine forL_w (fun xs e => ∃ (pre : List (List Int)) (cs : List Int) (todo : List (List Int)) (s2 s3 s4 s5 : Sl), c0 :: L1 = pre ++ [cs] ++ todo ∧ xs = todo.map mkT ∧ s3.set = true ∧ s4.set = true ∧ s5.fre = true ∧ (s2 = .own (.dk (DkF s cs pre.reverse)) ∨ s2 = .fro (.dk (DkF s cs pre.reverse))) ∧ e = ⟨[.fro (KD c d s), .fro (LD (c0 :: L1)), s2, s3, s4, s5, .un], w⟩) ?_ ?_ ?_
  · exact ⟨[], c0, L1, _, .un, .un, .un, rfl, rfl, rfl, rfl, rfl, .inl rfl, rfl⟩
  · rintro e ⟨pre, cs, todo, s2, s3, s4, s5, hd, hx, h3, h4, h5, h2, rfl⟩
    have : todo = [] := by simpa using hx.symm
    subst this
    rw [List.append_nil] at hd
    have hcs := hA cs (by rw [hd]; simp)
    have hl : cs.length ≤ 16777216 := by omega
    have e : L1.reverse ++ [c0] = cs :: pre.reverse := by
      have := congrArg List.reverse hd
      simpa using this
    have hres : cnt s none (L1.reverse ++ [c0]) = (cs.map fun y => cnt s (some y) pre.reverse).sum := by
      rw [e, cnt_cons]
      rw [show cs.filter (near s none) = cs from List.filter_eq_self.mpr fun _ _ => rfl]
    have h5' := Sl.set_of_fre h5
    rcases h2 with rfl | rfl
    · simp [-List.all_eq_true, -List.all_eq_false, -List.any_eq_true, -List.any_eq_false, h5, h5', -lcL_map, -List.reverse_cons]
      rw [lcL_mem (g := fun y => [.int (cnt s (some y) pre.reverse)])]
      · simp [-List.all_eq_true, -List.all_eq_false, -List.any_eq_true, -List.any_eq_false, hl, hres, -List.reverse_cons]
      · intro y hy
        have hlk := lookK_map (fun c => D.int (cnt s (some c) pre.reverse)) cs y
        rw [if_pos hy] at hlk
        simp [hlk]
    · simp [-List.all_eq_true, -List.all_eq_false, -List.any_eq_true, -List.any_eq_false, h5, h5', -lcL_map, -List.reverse_cons]
      rw [lcL_mem (g := fun y => [.int (cnt s (some y) pre.reverse)])]
      · simp [-List.all_eq_true, -List.all_eq_false, -List.any_eq_true, -List.any_eq_false, hl, hres, -List.reverse_cons]
      · intro y hy
        have hlk := lookK_map (fun c => D.int (cnt s (some c) pre.reverse)) cs y
        rw [if_pos hy] at hlk
        simp [hlk]
  · rintro R x xs e ⟨pre, cs, todo, s2, s3, s4, s5, hd, hx, h3, h4, h5, h2, rfl⟩ hnx hbk hrt
    obtain ⟨cuts, todo, rfl⟩ : ∃ a b, todo = a :: b := by
      cases todo with
      | nil => cases hx
      | cons a b => exact ⟨a, b, rfl⟩
    simp only [List.map_cons, List.cons.injEq] at hx
    obtain ⟨rfl, rfl⟩ := hx
    have hcu := hA cuts (by rw [hd]; simp)
    have hcs := hA cs (by rw [hd]; simp)
    have hl2 : ∀ q : Int → Bool, (List.filter q cs).length ≤ 16777216 := fun q => Nat.le_trans (List.length_filter_le ..) (by omega)
    simp [-List.all_eq_true, -List.all_eq_false, -List.any_eq_true, -List.any_eq_false, h3, h4]
    refine Wp.bind ?_
    refine forL_w (fun xs e => ∃ (did todo : List Int) (s2 s5 : Sl), cuts = did ++ todo ∧ xs = todo.map .int ∧ s5.fre = true ∧ (s2 = .own (.dk (DkF s cs pre.reverse)) ∨ s2 = .fro (.dk (DkF s cs pre.reverse))) ∧ e = ⟨[.fro (KD c d s), .fro (LD (c0 :: L1)), s2, .fro (mkT cuts), .own (.dk (DkF s did (cs :: pre.reverse))), s5, .un], w⟩) ?_ ?_ ?_
    · exact ⟨[], cuts, s2, s5, rfl, rfl, h5, h2, rfl⟩
    · rintro e ⟨did, todo', s2, s5, hd', hx, h5, h2, rfl⟩
      have : todo' = [] := by simpa using hx.symm
      subst this
      rw [List.append_nil] at hd'
      subst hd'
      have h2' : s2.set = true := by rcases h2 with rfl | rfl <;> rfl
      simp [-List.all_eq_true, -List.all_eq_false, -List.any_eq_true, -List.any_eq_false, h2']
      exact hnx _ ⟨pre ++ [cs], cuts, todo, _, _, _, s5, by rw [hd]; simp, rfl, Sl.set_fro (mkT cuts), Sl.set_fro (.dk (DkF s cuts (cs :: pre.reverse))), h5, .inr rfl, by simp⟩
    · rintro R xv xs e ⟨did, todo', s2, s5, hd', hx, h5, h2, rfl⟩ hnx hbk hrt
      obtain ⟨cut, todo', rfl⟩ : ∃ a b, todo' = a :: b := by
        cases todo' with
        | nil => cases hx
        | cons a b => exact ⟨a, b, rfl⟩
      simp only [List.map_cons, List.cons.injEq] at hx
      obtain ⟨rfl, rfl⟩ := hx
      have hdl : did.length < 16777216 := by
        have := congrArg List.length hd'
        simp only [List.length_append, List.length_cons] at this
        omega
      have hnd := hcu.1.nodup
      rw [hd'] at hnd
      have h5' := Sl.set_of_fre h5
      have hres : (List.map (fun y => cnt s (some y) pre.reverse) (cs.filter fun y => decide (((y - cut).natAbs : Int) ≤ s))).sum = cnt s (some cut) (cs :: pre.reverse) := by
        rw [cnt_cons]; rfl
      have hput : putK (.inl cut) (.int (cnt s (some cut) (cs :: pre.reverse))) (DkF s did (cs :: pre.reverse)) = DkF s (did ++ [cut]) (cs :: pre.reverse) := by
        rw [putK_new]
        · simp
        · intro p hp e
          obtain ⟨q, hq, rfl⟩ := List.mem_map.mp hp
          cases e
          exact (List.nodup_append.mp hnd).2.2 _ hq _ (List.mem_cons_self ..) rfl
      have hz := hnx ⟨[.fro (KD c d s), .fro (LD (c0 :: L1)), .fro (.dk (DkF s cs pre.reverse)), .fro (mkT cuts), .own (.dk (DkF s (did ++ [cut]) (cs :: pre.reverse))), .fro (.int cut), .un], w⟩ ⟨did ++ [cut], todo', _, _, by rw [hd']; simp, rfl, Sl.fre_fro (.int cut), .inr rfl, rfl⟩
      rcases h2 with rfl | rfl
      all_goals
        simp [-List.all_eq_true, -List.all_eq_false, -List.any_eq_true, -List.any_eq_false, h5', -lcL_map, -List.reverse_cons]
        rw [lcL_mem (g := fun y => if decide (((y - cut).natAbs : Int) ≤ s) = true then [.int (cnt s (some y) pre.reverse)] else [])]
        · simp [-List.all_eq_true, -List.all_eq_false, -List.any_eq_true, -List.any_eq_false, hl2, hdl, -List.reverse_cons]
          rw [hres, hput]
          exact hz
        · intro y hy
          have hlk := lookK_map (fun c => D.int (cnt s (some c) pre.reverse)) cs y
          rw [if_pos hy] at hlk
          by_cases hq : ((y - cut).natAbs : Int) ≤ s
          · simp [hlk, hq]
          · simp [hlk, hq]
end Pk

end
section
/-! W3: all keys of a kind, what opens, in the laws' words. -/
namespace Pk
open PySem L2
theorem keysF_snoc (s : Int) (cuts : List Int) : ∀ (L : List (List Int)) (p : Option Int), keysF s p (L ++ [cuts]) = (keysF s p L).flatMap fun K => (cuts.filter (near s (K.getLast?.or p))).map fun c => K ++ [c]
  | [], p => by
    rw [List.nil_append, keysF_cons, keysF_nil]
    show _ = (cuts.filter (near s (([] : List Int).getLast?.or p))).map (fun c => [] ++ [c]) ++ []
    rw [List.append_nil]
    simp only [keysF_nil, List.map_cons, List.map_nil, List.nil_append, List.getLast?_nil, Option.none_or]
    induction cuts.filter (near s p) with
    | nil => rfl
    | cons x l ih => rw [List.flatMap_cons, List.map_cons, ih]; rfl
  | x :: L, p => by
    rw [List.cons_append, keysF_cons, keysF_cons, List.flatMap_assoc]
    refine flatMap_congr' fun c _ => ?_
    rw [keysF_snoc s cuts L (some c), List.map_flatMap, List.flatMap_map]
    refine flatMap_congr' fun K _ => ?_
    rw [List.map_map]
    have : (c :: K).getLast?.or p = K.getLast?.or (some c) := by
      cases K with
      | nil => rfl
      | cons y K => 
        rw [List.getLast?_cons_cons]
        cases h : (y :: K).getLast? with
        | none => simp at h
        | some z => rfl
    rw [this]
    rfl
def extK (d s : Int) (K : List Int) : List (List Int) := ((rangeI d).filter (near s K.getLast?)).map fun c => K ++ [c]
theorem keysF_rep (d s : Int) (k : Nat) : keysF s none (List.replicate (k + 1) (rangeI d)) = (keysF s none (List.replicate k (rangeI d))).flatMap (extK d s) := by
  rw [List.replicate_succ', keysF_snoc]
  refine flatMap_congr' fun K _ => ?_
  rw [Option.or_none]
  rfl
theorem keysF_rep_le {d s : Int} (hd : 0 < d) (hd' : d ≤ 10) (k : Nat) (hk : k ≤ 6) : (keysF s none (List.replicate k (rangeI d))).length ≤ 1000000 := by
  have h : ∀ k, (keysF s none (List.replicate k (rangeI d))).length ≤ 10 ^ k := by
    intro k
    induction k with
    | zero => exact Nat.le_refl _
    | succ k ih =>
      rw [keysF_rep, List.length_flatMap]
      have : ∀ l : List (List Int), (l.map fun K => (extK d s K).length).sum ≤ l.length * 10 := fun l => by
        induction l with
        | nil => exact Nat.le_refl _
        | cons x l ih =>
          have : (extK d s x).length ≤ 10 := by
            unfold extK
            rw [List.length_map]
            exact Nat.le_trans (List.length_filter_le ..) (by rw [rangeI_length]; omega)
          rw [List.map_cons, List.sum_cons, List.length_cons]
          omega
      have := this (keysF s none (List.replicate k (rangeI d)))
      rw [Nat.pow_succ]
      omega
  have := h k
  have : 10 ^ k ≤ 10 ^ 6 := Nat.pow_le_pow_right (by omega) hk
  omega
theorem r_law_all_keys {T : Nat → Option Fc} {G : Gv} [TIs T 33 c_law_all_keys] {n : Nat} {c d s : Int} (hk : KdOk c d s) (w : List D) : run T G (n + 1) 33 [KD c d s] w = .ok (.fro (.lst ((keysF s none (wholeL c d)).map ID)), w) := by
  have h1 := hk.c1
  have h2 := hk.c2
  have h3 := hk.d1
  have h4 := hk.d2
  rw [u_law_all_keys]
  have hrc := rangeD_0 (hi := c) (by omega) (by omega)
  have hrd := rangeD_0 (hi := d) (by omega) (by omega)
  refine Wp.eq ?_
  simp [-List.all_eq_true, -List.all_eq_false, -List.any_eq_true, -List.any_eq_false, b_law_all_keys, hrc]
  refine Wp.bind (Wp.bind ?_)
  refine forL_w (fun xs e => ∃ (i : Nat) (v : Sl) (s2 s3 s4 s5 : Sl), i + xs.length = c.toNat ∧ s2.set = true ∧ s3.set = true ∧ s4.set = true ∧ s5.set = true ∧ (v = .own (.lst ((keysF s none (List.replicate i (rangeI d))).map ID)) ∨ v = .fro (.lst ((keysF s none (List.replicate i (rangeI d))).map ID))) ∧ e = ⟨[.fro (KD c d s), v, s2, s3, s4, s5], w⟩) ?_ ?_ ?_
  · exact ⟨0, .own (.lst [.tup []]), .un, .un, .un, .un, by simp [rangeI_length], rfl, rfl, rfl, rfl, .inl rfl, rfl⟩
  · rintro e ⟨i, v, s2, s3, s4, s5, hi, k2, k3, k4, k5, hv, rfl⟩
    have hi : i = c.toNat := by simpa using hi
    subst hi
    rcases hv with rfl | rfl <;> simp [wholeL]
  · rintro R xv xs e ⟨i, v, s2, s3, s4, s5, hi, k2, k3, k4, k5, hv, rfl⟩ hnx hbk hrt
    rw [List.length_cons] at hi
    have hle : i ≤ 5 := by omega
    have hsz := keysF_rep_le (d := d) (s := s) (by omega) h4 i (by omega)
    have hsz' := keysF_rep_le (d := d) (s := s) (by omega) h4 (i + 1) (by omega)
    rw [keysF_rep] at hsz'
    have e0 : (KD c d s).plain = true := rfl
    rcases hv with rfl | rfl <;> simp [-List.all_eq_true, -List.all_eq_false, -List.any_eq_true, -List.any_eq_false, k2, k3]
    all_goals
      refine Wp.bind ?_
      refine forL_w (fun xs e => ∃ did todo, keysF s none (List.replicate i (rangeI d)) = did ++ todo ∧ xs = todo.map ID ∧ ∃ s4 s5 : Sl, s4.set = true ∧ s5.set = true ∧ e = ⟨[.fro (KD c d s), .fro (.lst ((keysF s none (List.replicate i (rangeI d))).map ID)), .fro xv, .own (.lst ((did.flatMap (extK d s)).map ID)), s4, s5], w⟩) ?_ ?_ ?_
      · exact ⟨[], _, rfl, rfl, s4, s5, k4, k5, rfl⟩
      · rintro e ⟨did, todo, hd, hx, s4, s5, k4, k5, rfl⟩
        have : todo = [] := by simpa using hx.symm
        subst this
        rw [List.append_nil] at hd
        subst hd
        rw [← keysF_rep]
        simp [-List.all_eq_true, -List.all_eq_false, -List.any_eq_true, -List.any_eq_false, k4, k5]
        apply hnx
        exact ⟨i + 1, _, _, _, _, _, by omega, rfl, rfl, k4, k5, .inr rfl, rfl⟩
      · rintro R' xv' xs' e ⟨did, todo, hd, hx, s4, s5, k4, k5, rfl⟩ hnx' hbk' hrt'
        obtain ⟨K, todo, rfl⟩ : ∃ a b, todo = a :: b := by
          cases todo with
          | nil => cases hx
          | cons a b => exact ⟨a, b, rfl⟩
        rw [List.map_cons, List.cons.injEq] at hx
        obtain ⟨rfl, rfl⟩ := hx
        have hlK : K.length ≤ 6 := by
          have : K ∈ keysF s none (List.replicate i (rangeI d)) := by rw [hd]; simp
          rw [len_of_mem this, List.length_replicate]
          omega
        have hsz2 : ∀ l : List (List Int), l.length ≤ (extK d s K).length → ((did.flatMap (extK d s)) ++ l).length ≤ 1000000 := fun l hl => by
          rw [hd, List.flatMap_append, List.flatMap_cons] at hsz'
          rw [List.length_append, List.length_append] at hsz'
          rw [List.length_append]
          omega
        simp [-List.all_eq_true, -List.all_eq_false, -List.any_eq_true, -List.any_eq_false, k4, k5, hrd]
        refine Wp.bind ?_
        refine forL_w (fun xs e => ∃ dc tc, rangeI d = dc ++ tc ∧ xs = tc.map .int ∧ ∃ s5 : Sl, s5.set = true ∧ e = ⟨[.fro (KD c d s), .fro (.lst ((keysF s none (List.replicate i (rangeI d))).map ID)), .fro xv, .own (.lst ((did.flatMap (extK d s) ++ (dc.filter (near s K.getLast?)).map fun c => K ++ [c]).map ID)), .fro (ID K), s5], w⟩) ?_ ?_ ?_
        · exact ⟨[], _, rfl, rfl, s5, k5, by simp⟩
        · rintro e ⟨dc, tc, hdc, hx, s5, k5, rfl⟩
          have : tc = [] := by simpa using hx.symm
          subst this
          rw [List.append_nil] at hdc
          subst hdc
          simp [-List.all_eq_true, -List.all_eq_false, -List.any_eq_true, -List.any_eq_false, ]
          apply hnx'
          refine ⟨did ++ [K], todo, by rw [hd]; simp, rfl, .fro (ID K), s5, rfl, k5, ?_⟩
          rw [List.flatMap_append]
          simp [extK]
        · rintro R2 xv2 xs2 e ⟨dc, tc, hdc, hx, s5, k5, rfl⟩ hnx2 hbk2 hrt2
          obtain ⟨x, tc, rfl⟩ : ∃ a b, tc = a :: b := by
            cases tc with
            | nil => cases hx
            | cons a b => exact ⟨a, b, rfl⟩
          rw [List.map_cons, List.cons.injEq] at hx
          obtain ⟨rfl, rfl⟩ := hx
          have hlen := congrArg List.length hdc
          rw [rangeI_length, List.length_append, List.length_cons] at hlen
          have hdl := List.length_filter_le (near s K.getLast?) dc
          have hsz3 := hsz2 [] (Nat.zero_le _)
          rw [List.append_nil, List.length_flatMap] at hsz3
          have l1 : (List.map (fun a => (extK d s a).length) did).sum + (List.filter (near s K.getLast?) dc).length < 16777216 := by omega
          have hx := mem_rangeI.mp (show x ∈ rangeI d by rw [hdc]; simp)
          rcases List.eq_nil_or_concat K with rfl | ⟨K0, q, rfl⟩
          · rw [show ([] : List Int).getLast? = none from rfl] at l1
            simp [-List.all_eq_true, -List.all_eq_false, -List.any_eq_true, -List.any_eq_false, k5, l1]
            apply hnx2
            exact ⟨dc ++ [x], tc, by rw [hdc]; simp, rfl, .fro (.int x), rfl, by simp [List.filter_cons]⟩
          · have hq : near s (K0 ++ [q]).getLast? x = decide (((x - q).natAbs : Int) ≤ s) := by simp
            have e1 : (K0 ++ [q]).getLast? = some q := by simp
            have hlK0 : K0.length + 1 + 1 ≤ 16777216 := by simp at hlK; omega
            have hlK1 : K0.length ≤ 16777214 := by omega
            rw [List.concat_eq_append] at *
            rw [e1] at l1
            by_cases hs : ((x - q).natAbs : Int) ≤ s
            · simp [-List.all_eq_true, -List.all_eq_false, -List.any_eq_true, -List.any_eq_false, k5, l1, hs, e1, hlK0, hlK1]
              apply hnx2
              exact ⟨dc ++ [x], tc, by rw [hdc]; simp, rfl, .fro (.int x), rfl, by simp [hs]⟩
            · simp [-List.all_eq_true, -List.all_eq_false, -List.any_eq_true, -List.any_eq_false, k5, l1, hs, e1, hlK0, hlK1]
              apply hnx2
              exact ⟨dc ++ [x], tc, by rw [hdc]; simp, rfl, .fro (.int x), rfl, by simp [hs]⟩
theorem r_law_is_told {T : Nat → Option Fc} {G : Gv} [TIs T 34 c_law_is_told] {n : Nat} (b b' : Bool) (w : List D) : run T G (n + 1) 34 [.bl b, .bl b'] w = .ok (.fro (.bl (decide (b = b'))), w) := by
  rw [u_law_is_told]
  have e : eqD (.bl b) (.bl b') = some (decide (b = b')) := by cases b <;> cases b' <;> rfl
  simp [-List.all_eq_true, -List.all_eq_false, -List.any_eq_true, -List.any_eq_false, b_law_is_told, e]
theorem r_law_opens {T : Nat → Option Fc} {G : Gv} [TIs T 35 c_law_opens] {n : Nat} (L : List (List Int)) (K : List Int) (hK : K.length ≤ 1000) (w : List D) : run T G (n + 1) 35 [LD L, ID K] w = .ok (.fro (.bl (opensB L K)), w) := by
  rw [u_law_opens]
  simp [-List.all_eq_true, -List.all_eq_false, -List.any_eq_true, -List.any_eq_false, b_law_opens]
  have h1 : (List.map (fun a : Int × List Int => (if a.1 ∈ a.2 then ([] : List D) else [D.int 1]).length) (K.zip L)).sum ≤ 16777216 := by
    have h : ∀ l : List (Int × List Int), (List.map (fun a : Int × List Int => (if a.1 ∈ a.2 then ([] : List D) else [D.int 1]).length) l).sum ≤ l.length := fun l => by
      induction l with
      | nil => exact Nat.le_refl _
      | cons x l ih =>
        rw [List.map_cons, List.sum_cons, List.length_cons]
        split <;> simp <;> omega
    have := h (K.zip L)
    have h2 : (K.zip L).length ≤ K.length := by rw [List.length_zip]; omega
    omega
  have h2 : ((K.zip L).all fun a => (if a.1 ∈ a.2 then ([] : List D) else [D.int 1]).all D.plain) = true := by
    rw [List.all_eq_true]
    intro x _
    split <;> rfl
  rw [if_pos h1, if_pos h2]
  congr 4
  rw [opensB, Bool.eq_iff_iff, List.all_eq_true, List.isEmpty_iff, List.flatMap_eq_nil_iff]
  refine forall_congr' fun x => forall_congr' fun _ => ?_
  rw [List.contains_iff_mem]
  constructor
  · intro h
    split at h
    · assumption
    · cases h
  · intro h
    rw [if_pos h]
end Pk

end
section
/-! W4: caught calls; what calls with bad things answer. -/
namespace Pk
open PySem L2
class TlIs (G : Gv) (c : Nat) (x : outParam Str) : Prop where
  h : G.told c .non = some (.tup [.str x])
@[simp] theorem told_eq {G : Gv} {c : Nat} {x : Str} [t : TlIs G c x] : G.told c .non = some (.tup [.str x]) := t.h
@[simp] theorem caughtD_ok (G : Gv) (e1 e : En) (v : Vl) : caughtD G e1 (.ok (v, e)) = .ok (.fro (.tup [.str "told", v.d]), e1) := by rfl
@[simp] theorem caughtD_exc (G : Gv) (e1 : En) (c : Nat) (p : D) : caughtD G e1 (.exc c p) = (Out.of (G.told c p)).bind fun d => .ok (.fro d, e1) := by rfl
@[simp] theorem caughtD_bad (G : Gv) (e1 : En) : caughtD G e1 .bad = .bad := by rfl
def fzM (i : Nat) (s : List Sl) : Sl → List Sl
  | .own d => s.set i (.fro d)
  | _ => s
@[simp] theorem fzM_own (i : Nat) (s : List Sl) (d : D) : fzM i s (.own d) = s.set i (.fro d) := by rfl
@[simp] theorem fzM_fro (i : Nat) (s : List Sl) (d : D) : fzM i s (.fro d) = s := by rfl
@[simp] theorem fzM_un (i : Nat) (s : List Sl) : fzM i s .un = s := by rfl
@[simp] theorem fzM_well (i : Nat) (s : List Sl) : fzM i s .well = s := by rfl
@[simp] theorem fzS_nil (s : List Sl) : fzS [] s = s := by rfl
@[simp] theorem fzS_cons (i : Nat) (r : List Nat) (s : List Sl) : fzS (i :: r) s = fzM i (fzS r s) ((fzS r s).getD i .un) := by
  unfold fzM
  rw [fzS]
  try (cases (fzS r s).getD i .un <;> rfl)
def lamL (x : Sl) : Sl := match x with
  | .fro d => .fro d
  | _ => .un
@[simp] theorem lamL_fro (d : D) : lamL (.fro d) = .fro d := by rfl
@[simp] theorem lamS_nil : lamS [] = [] := by rfl
@[simp] theorem lamS_cons (x : Sl) (l : List Sl) : lamS (x :: l) = lamL x :: lamS l := by rfl
variable {c d s : Int}
theorem x_count_keys {T : Nat → Option Fc} {G : Gv} [TIs T 6 c_is_int] [TIs T 7 c_is_kind] [TIs T 8 c_need_kind] [TIs T 12 c_tails] [TIs T 13 c_number_of] [TIs T 23 c_whole] [TIs T 24 c_count_keys] {n : Nat} {v : D} (hd : v.plain = true) (h : isKindD v = false) (w : List D) : run T G (n + 4) 24 [v] w = .exc 0 .non := by
  rw [u_count_keys]
  have h1 := fun w => r_need_kind (T := T) (G := G) (n := n) v hd w
  simp [b_count_keys, h1, h]
theorem x_opens_kind {T : Nat → Option Fc} {G : Gv} [TIs T 6 c_is_int] [TIs T 7 c_is_kind] [TIs T 8 c_need_kind] [TIs T 9 c_is_rising] [TIs T 10 c_is_lock_of] [TIs T 11 c_need_lock] [TIs T 18 c_is_key_of] [TIs T 19 c_need_key] [TIs T 28 c_is_open] [TIs T 29 c_opens] {n : Nat} {v : D} (hd : v.plain = true) (h : isKindD v = false) (a b : D) (w : List D) : run T G (n + 5) 29 [v, a, b] w = .exc 0 .non := by
  rw [u_opens]
  have h1 := fun w => r_need_kind (T := T) (G := G) (n := n + 1) v hd w
  simp [b_opens, h1, h]
theorem x_opens_lock {T : Nat → Option Fc} {G : Gv} [TIs T 6 c_is_int] [TIs T 7 c_is_kind] [TIs T 8 c_need_kind] [TIs T 9 c_is_rising] [TIs T 10 c_is_lock_of] [TIs T 11 c_need_lock] [TIs T 18 c_is_key_of] [TIs T 19 c_need_key] [TIs T 28 c_is_open] [TIs T 29 c_opens] {n : Nat} (hk : KdOk c d s) {v : D} (hd : v.plain = true) (hl : ∀ l x m, v = .tup l → x ∈ l → x = .tup m → m.length ≤ 16777216) (h : isLockD c d v = false) (b : D) (w : List D) : run T G (n + 5) 29 [KD c d s, v, b] w = .exc 1 .non := by
  rw [u_opens]
  have h1 := fun w => r_need_lock (T := T) (G := G) (n := n) c d s (by have := hk.c2; omega) v hd hl w
  simp [b_opens, r_need_kind_ok hk, h1, h]
theorem x_opens_key {T : Nat → Option Fc} {G : Gv} [TIs T 6 c_is_int] [TIs T 7 c_is_kind] [TIs T 8 c_need_kind] [TIs T 9 c_is_rising] [TIs T 10 c_is_lock_of] [TIs T 11 c_need_lock] [TIs T 18 c_is_key_of] [TIs T 19 c_need_key] [TIs T 28 c_is_open] [TIs T 29 c_opens] {n : Nat} (hk : KdOk c d s) {L : List (List Int)} (hL : LkOk c d L) {v : D} (hd : v.plain = true) (h : isKeyD c d s v = false) (w : List D) : run T G (n + 5) 29 [KD c d s, LD L, v] w = .exc 3 .non := by
  rw [u_opens]
  have h1 := fun w => r_need_key (T := T) (G := G) (n := n + 1) c d s (by have := hk.c2; omega) v hd w
  simp [b_opens, r_need_kind_ok hk, r_need_lock_ok hk hL, h1, h]
theorem x_key_at {T : Nat → Option Fc} {G : Gv} [TIs T 6 c_is_int] [TIs T 7 c_is_kind] [TIs T 8 c_need_kind] [TIs T 9 c_is_rising] [TIs T 10 c_is_lock_of] [TIs T 11 c_need_lock] [TIs T 12 c_tails] [TIs T 13 c_number_of] [TIs T 15 c_need_number] [TIs T 16 c_key_number] [TIs T 17 c_key_at] {n : Nat} (hk : KdOk c d s) {L : List (List Int)} (hL : LkOk c d L) {v : D} (hd : v.plain = true) (h : isIntD v 0 (cnt s none L - 1) = false) (w : List D) : run T G (n + 5) 17 [KD c d s, LD L, v] w = .exc 2 .non := by
  rw [u_key_at]
  have h1 := fun w => r_need_number (T := T) (G := G) (n := n + 2) v hd 0 (cnt s none L - 1) w
  simp [b_key_at, r_need_kind_ok hk, r_need_lock_ok hk hL, r_number_ok hk hL, h1, h]
theorem x_key_at_lock {T : Nat → Option Fc} {G : Gv} [TIs T 6 c_is_int] [TIs T 7 c_is_kind] [TIs T 8 c_need_kind] [TIs T 9 c_is_rising] [TIs T 10 c_is_lock_of] [TIs T 11 c_need_lock] [TIs T 12 c_tails] [TIs T 13 c_number_of] [TIs T 15 c_need_number] [TIs T 16 c_key_number] [TIs T 17 c_key_at] {n : Nat} (hk : KdOk c d s) {v : D} (hd : v.plain = true) (hl : ∀ l x m, v = .tup l → x ∈ l → x = .tup m → m.length ≤ 16777216) (h : isLockD c d v = false) (b : D) (w : List D) : run T G (n + 5) 17 [KD c d s, v, b] w = .exc 1 .non := by
  rw [u_key_at]
  have h1 := fun w => r_need_lock (T := T) (G := G) (n := n) c d s (by have := hk.c2; omega) v hd hl w
  simp [b_key_at, r_need_kind_ok hk, h1, h]
theorem x_rank_lock {T : Nat → Option Fc} {G : Gv} [TIs T 6 c_is_int] [TIs T 7 c_is_kind] [TIs T 8 c_need_kind] [TIs T 9 c_is_rising] [TIs T 10 c_is_lock_of] [TIs T 11 c_need_lock] [TIs T 12 c_tails] [TIs T 18 c_is_key_of] [TIs T 19 c_need_key] [TIs T 20 c_rank_of] [TIs T 21 c_rank] {n : Nat} (hk : KdOk c d s) {v : D} (hd : v.plain = true) (hl : ∀ l x m, v = .tup l → x ∈ l → x = .tup m → m.length ≤ 16777216) (h : isLockD c d v = false) (b : D) (w : List D) : run T G (n + 5) 21 [KD c d s, v, b] w = .exc 1 .non := by
  rw [u_rank]
  have h1 := fun w => r_need_lock (T := T) (G := G) (n := n) c d s (by have := hk.c2; omega) v hd hl w
  simp [b_rank, r_need_kind_ok hk, h1, h]
theorem x_rank_key {T : Nat → Option Fc} {G : Gv} [TIs T 6 c_is_int] [TIs T 7 c_is_kind] [TIs T 8 c_need_kind] [TIs T 9 c_is_rising] [TIs T 10 c_is_lock_of] [TIs T 11 c_need_lock] [TIs T 12 c_tails] [TIs T 18 c_is_key_of] [TIs T 19 c_need_key] [TIs T 20 c_rank_of] [TIs T 21 c_rank] {n : Nat} (hk : KdOk c d s) {L : List (List Int)} (hL : LkOk c d L) {v : D} (hd : v.plain = true) (h : isKeyD c d s v = false) (w : List D) : run T G (n + 5) 21 [KD c d s, LD L, v] w = .exc 3 .non := by
  rw [u_rank]
  have h1 := fun w => r_need_key (T := T) (G := G) (n := n + 1) c d s (by have := hk.c2; omega) v hd w
  simp [b_rank, r_need_kind_ok hk, r_need_lock_ok hk hL, h1, h]
end Pk

end
section
/-! W5: the keys of a lock among all keys. -/
namespace Pk
open PySem L2
open HT (lexLt)
theorem AscK.ext : ∀ {a b : List (List Int)}, AscK a → AscK b → (∀ K, K ∈ a ↔ K ∈ b) → a = b
  | [], [], _, _, _ => rfl
  | [], y :: b, _, _, h => by have := (h y).mpr (List.mem_cons_self ..); cases this
  | x :: a, [], _, _, h => by have := (h x).mp (List.mem_cons_self ..); cases this
  | x :: a, y :: b, ha, hb, h => by
    obtain ⟨a1, a2⟩ := List.pairwise_cons.mp ha
    obtain ⟨b1, b2⟩ := List.pairwise_cons.mp hb
    have e : x = y := by
      rcases List.mem_cons.mp ((h x).mp (List.mem_cons_self ..)) with e | hx
      · exact e
      · rcases List.mem_cons.mp ((h y).mpr (List.mem_cons_self ..)) with e | hy
        · exact e.symm
        · have := lexLt_asymm (b1 x hx)
          rw [a1 y hy] at this
          cases this
    subst e
    congr 1
    refine AscK.ext a2 b2 fun K => ?_
    have n1 := (List.nodup_cons.mp ha.nodup).1
    have n2 := (List.nodup_cons.mp hb.nodup).1
    constructor
    · intro hK
      rcases List.mem_cons.mp ((h K).mp (List.mem_cons_of_mem _ hK)) with e | hx
      · subst e; exact absurd hK n1
      · exact hx
    · intro hK
      rcases List.mem_cons.mp ((h K).mpr (List.mem_cons_of_mem _ hK)) with e | hx
      · subst e; exact absurd hK n2
      · exact hx
variable {c d s : Int}
theorem keysF_filter (hk : KdOk c d s) {L : List (List Int)} (hL : LkOk c d L) : (keysF s none (wholeL c d)).filter (opensB L) = keysF s none L := by
  refine AscK.ext ((keysF_asc s (wholeL c d) none (whole_ok hk).asc).filter _) (keysF_asc s L none hL.asc) fun K => ?_
  rw [List.mem_filter]
  constructor
  · rintro ⟨h1, h2⟩
    rw [mem_keysF, (KyOk.of_mem (whole_ok hk) h1).ok_iff hL]
    exact h2
  · intro h
    have h2 := KyOk.of_mem hL h
    refine ⟨h2.mem_whole hk, ?_⟩
    rw [mem_keysF, h2.ok_iff hL] at h
    exact h
theorem below_all {l : List (List Int)} {K : List Int} (h : ∀ k ∈ l, lexLt k K = true) : below l K = l.length := by
  unfold below
  rw [List.filter_eq_self.mpr h]
theorem below_split {q : List Int → Bool} {did todo : List (List Int)} {K : List Int} (h : AscK (did ++ K :: todo)) : below ((did ++ K :: todo).filter q) K = ((did.filter q).length : Int) := by
  obtain ⟨_, h2, h3⟩ := List.pairwise_append.mp h
  rw [List.filter_append, below_append, below_all, below_none, Int.add_zero]
  · intro k hk
    rcases List.mem_cons.mp (List.mem_filter.mp hk).1 with e | e
    · subst e; exact lexLt_irrefl _
    · exact lexLt_asymm ((List.pairwise_cons.mp h2).1 k e)
  · intro k hk
    exact h3 k (List.mem_filter.mp hk).1 K (List.mem_cons_self ..)
theorem zeros_in {d s : Int} (hd : 0 < d) (hs : 0 ≤ s) : ∀ (k : Nat) (p : Option Int), near s p 0 = true → List.replicate k 0 ∈ keysF s p (List.replicate k (rangeI d))
  | 0, p, _ => List.mem_singleton_self _
  | k + 1, p, h => by
    rw [List.replicate_succ, List.replicate_succ, keysF_cons, List.mem_flatMap]
    exact ⟨0, List.mem_filter.mpr ⟨mem_rangeI.mpr ⟨Int.le_refl _, hd⟩, h⟩, List.mem_map.mpr ⟨_, zeros_in hd hs k (some 0) (by rw [near_some, decide_eq_true_eq]; exact hs), rfl⟩⟩
theorem whole_cons (hk : KdOk c d s) : ∃ K l, keysF s none (wholeL c d) = K :: l ∧ (K.length : Int) = c := by
  have h := zeros_in (d := d) (s := s) (by have := hk.d1; omega) (by have := hk.s1; omega) c.toNat none rfl
  cases e : keysF s none (wholeL c d) with
  | nil => unfold wholeL at e; rw [e] at h; cases h
  | cons K l => exact ⟨K, l, rfl, (KyOk.of_mem (whole_ok hk) (by rw [e]; exact List.mem_cons_self ..)).len⟩
theorem keyD_len {l : List D} (h : (l.length : Int) ≠ c) : isKeyD c d s (.tup l) = false := by
  show (decide ((l.length : Int) = c) && l.all (isIntD · 0 (d - 1)) && nearB s (l.map intv)) = false
  rw [decide_eq_false h]
  rfl
theorem lockD_len {l : List D} (h : (l.length : Int) ≠ c) : isLockD c d (.tup l) = false := by
  show (decide ((l.length : Int) = c) && l.all fun x => isRisingD x 0 (d - 1) && !D.eqv x (.tup [])) = false
  rw [decide_eq_false h]
  rfl
@[simp] theorem eqv_str_self (x : Str) : D.eqv (.str x) (.str x) = true := by unfold D.eqv; simp
@[simp] theorem pl_kind : (D.str "InvalidKind +").plain = true := by decide +kernel
@[simp] theorem pl_lock : (D.str "InvalidLock +").plain = true := by decide +kernel
@[simp] theorem pl_number : (D.str "InvalidNumber +").plain = true := by decide +kernel
@[simp] theorem pl_key : (D.str "InvalidKey +").plain = true := by decide +kernel
@[simp] theorem pl_zero : (D.str "0").plain = true := by decide +kernel
end Pk

end
section
/-! L03: the law k03. -/
namespace Pk
open PySem L2
open HT (lexLt)
theorem range_get (l : List (List Int)) : (rangeI (l.length : Int)).flatMap (fun i : Int => [ID (l[i.toNat]?.getD [])]) = l.map ID := by
  unfold rangeI
  rw [Int.toNat_natCast, List.flatMap_map]
  have : ∀ (f : Nat → D) (m : List Nat), m.flatMap (fun a => [f a]) = m.map f := fun f m => by
    induction m with
    | nil => rfl
    | cons x m ih => rw [List.flatMap_cons, ih]; rfl
  rw [this fun a => ID (l[(a : Int).toNat]?.getD [])]
  apply List.ext_getElem
  · simp
  · intro i h1 h2
    have h3 : i < l.length := by simpa using h1
    simp [List.getElem?_eq_getElem h3]
theorem deeps_ID (l : List (List Int)) : D.deeps (l.map ID) ≤ 1 := by
  have e : l.map ID = l.map mkT := List.map_congr_left fun _ _ => (mkT_eq _).symm
  rw [e]
  exact deeps_mkT l
theorem k03_law {T : Nat → Option Fc} {G : Gv} [TIs T 0 c_law_well] [TIs T 1 c_law_dip] [TIs T 2 c_law_pick] [TIs T 3 c_law_kind] [TIs T 4 c_law_cuts] [TIs T 5 c_law_lock] [TIs T 6 c_is_int] [TIs T 7 c_is_kind] [TIs T 8 c_need_kind] [TIs T 9 c_is_rising] [TIs T 10 c_is_lock_of] [TIs T 11 c_need_lock] [TIs T 12 c_tails] [TIs T 13 c_number_of] [TIs T 14 c_count] [TIs T 15 c_need_number] [TIs T 16 c_key_number] [TIs T 17 c_key_at] [TIs T 18 c_is_key_of] [TIs T 19 c_need_key] [TIs T 20 c_rank_of] [TIs T 21 c_rank] [TIs T 33 c_law_all_keys] [TIs T 35 c_law_opens] [TIs T 37 c_law_k03] [GIs G 0 (.fn 21)] [GIs G 1 (.fn 17)] [CvIs G 21] [CvIs G 17] [TlIs G 1 "InvalidLock +"] [TlIs G 2 "InvalidNumber +"] [TlIs G 3 "InvalidKey +"] {n : Nat} (ns : List Int) : ∃ v u, run T G (n + 20) 37 [.scr ns] [] = .ok (v, u) ∧ v.d = .bl true := by
  suffices h : Wp (run T G (n + 20) 37 [.scr ns] []) fun q => q.1.d = .bl true by
    obtain ⟨⟨v, u⟩, h1, h2⟩ := h
    exact ⟨v, u, h1, h2⟩
  rw [u_law_k03]
  have hr := rangeD_0 (hi := max 1 (min 8 (ns.length : Int))) (by omega) (by omega)
  have hr2 := rangeD_0 (hi := 2) (by omega) (by omega)
  simp [-List.all_eq_true, -List.all_eq_false, -List.any_eq_true, -List.any_eq_false, b_law_k03, hr]
  refine Wp.bind (Wp.bind ?_)
  refine forL_w (fun xs e => ∃ (ks : List Int) (l : List Sl), (∀ k ∈ ks, 0 ≤ k ∧ k ≤ 8) ∧ xs = ks.map .int ∧ l.length = 12 ∧ AllSet l ∧ ((l.getD 8 .un).fre = true ∧ (l.getD 11 .un).fre = true) ∧ e = ⟨.fro (.scr ns) :: l, []⟩) ?_ ?_ ?_
  · exact ⟨_, [.un, .un, .un, .un, .un, .un, .un, .un, .un, .un, .un, .un], fun k hk => by have := mem_rangeI.mp hk; omega, rfl, rfl, by intro x hx; simp at hx; subst hx; rfl, ⟨rfl, rfl⟩, rfl⟩
  · rintro e ⟨ks, l, hks, hx, hl, hs, hf, rfl⟩
    obtain ⟨x1, l, rfl⟩ : ∃ a b, l = a :: b := by
      cases l with
      | nil => cases hl
      | cons a b => exact ⟨a, b, rfl⟩
    obtain ⟨x2, l, rfl⟩ : ∃ a b, l = a :: b := by
      cases l with
      | nil => cases hl
      | cons a b => exact ⟨a, b, rfl⟩
    obtain ⟨x3, l, rfl⟩ : ∃ a b, l = a :: b := by
      cases l with
      | nil => cases hl
      | cons a b => exact ⟨a, b, rfl⟩
    obtain ⟨x4, l, rfl⟩ : ∃ a b, l = a :: b := by
      cases l with
      | nil => cases hl
      | cons a b => exact ⟨a, b, rfl⟩
    obtain ⟨x5, l, rfl⟩ : ∃ a b, l = a :: b := by
      cases l with
      | nil => cases hl
      | cons a b => exact ⟨a, b, rfl⟩
    obtain ⟨x6, l, rfl⟩ : ∃ a b, l = a :: b := by
      cases l with
      | nil => cases hl
      | cons a b => exact ⟨a, b, rfl⟩
    obtain ⟨x7, l, rfl⟩ : ∃ a b, l = a :: b := by
      cases l with
      | nil => cases hl
      | cons a b => exact ⟨a, b, rfl⟩
    obtain ⟨x8, l, rfl⟩ : ∃ a b, l = a :: b := by
      cases l with
      | nil => cases hl
      | cons a b => exact ⟨a, b, rfl⟩
    obtain ⟨x9, l, rfl⟩ : ∃ a b, l = a :: b := by
      cases l with
      | nil => cases hl
      | cons a b => exact ⟨a, b, rfl⟩
    obtain ⟨x10, l, rfl⟩ : ∃ a b, l = a :: b := by
      cases l with
      | nil => cases hl
      | cons a b => exact ⟨a, b, rfl⟩
    obtain ⟨x11, l, rfl⟩ : ∃ a b, l = a :: b := by
      cases l with
      | nil => cases hl
      | cons a b => exact ⟨a, b, rfl⟩
    obtain ⟨x12, l, rfl⟩ : ∃ a b, l = a :: b := by
      cases l with
      | nil => cases hl
      | cons a b => exact ⟨a, b, rfl⟩
    obtain rfl : l = [] := by
      cases l with
      | nil => rfl
      | cons a b => cases hl
    simp only [AllSet_cons, AllSet_nil, and_true] at hs
    have hk : KdOk 3 4 2 := ⟨by omega, by omega, by omega, by omega, by omega, by omega⟩
    have hL : LkOk 3 4 [[0], [1, 2], [1, 3]] := ⟨rfl, by decide, by decide, by decide⟩
    have q : ∀ w, run T G (n + 19) 17 [.tup [.int 3, .int 4, .int 2], .tup [.tup [.int 0], .tup [.int 1, .int 2], .tup [.int 1, .int 3]], .int 2] w = .ok (.fro (ID [0, 2, 1]), w) := fun w => r_key_at (T := T) (G := G) (n := n + 14) hk hL 2 [0, 2, 1] (by decide) w
    simp [-List.all_eq_true, -List.all_eq_false, -List.any_eq_true, -List.any_eq_false, q]
  · rintro R x xs e ⟨ks, l, hks, hx, hl, hs, hf, rfl⟩ hnx hbk hrt
    obtain ⟨x1, l, rfl⟩ : ∃ a b, l = a :: b := by
      cases l with
      | nil => cases hl
      | cons a b => exact ⟨a, b, rfl⟩
    obtain ⟨x2, l, rfl⟩ : ∃ a b, l = a :: b := by
      cases l with
      | nil => cases hl
      | cons a b => exact ⟨a, b, rfl⟩
    obtain ⟨x3, l, rfl⟩ : ∃ a b, l = a :: b := by
      cases l with
      | nil => cases hl
      | cons a b => exact ⟨a, b, rfl⟩
    obtain ⟨x4, l, rfl⟩ : ∃ a b, l = a :: b := by
      cases l with
      | nil => cases hl
      | cons a b => exact ⟨a, b, rfl⟩
    obtain ⟨x5, l, rfl⟩ : ∃ a b, l = a :: b := by
      cases l with
      | nil => cases hl
      | cons a b => exact ⟨a, b, rfl⟩
    obtain ⟨x6, l, rfl⟩ : ∃ a b, l = a :: b := by
      cases l with
      | nil => cases hl
      | cons a b => exact ⟨a, b, rfl⟩
    obtain ⟨x7, l, rfl⟩ : ∃ a b, l = a :: b := by
      cases l with
      | nil => cases hl
      | cons a b => exact ⟨a, b, rfl⟩
    obtain ⟨x8, l, rfl⟩ : ∃ a b, l = a :: b := by
      cases l with
      | nil => cases hl
      | cons a b => exact ⟨a, b, rfl⟩
    obtain ⟨x9, l, rfl⟩ : ∃ a b, l = a :: b := by
      cases l with
      | nil => cases hl
      | cons a b => exact ⟨a, b, rfl⟩
    obtain ⟨x10, l, rfl⟩ : ∃ a b, l = a :: b := by
      cases l with
      | nil => cases hl
      | cons a b => exact ⟨a, b, rfl⟩
    obtain ⟨x11, l, rfl⟩ : ∃ a b, l = a :: b := by
      cases l with
      | nil => cases hl
      | cons a b => exact ⟨a, b, rfl⟩
    obtain ⟨x12, l, rfl⟩ : ∃ a b, l = a :: b := by
      cases l with
      | nil => cases hl
      | cons a b => exact ⟨a, b, rfl⟩
    obtain rfl : l = [] := by
      cases l with
      | nil => rfl
      | cons a b => cases hl
    simp only [AllSet_cons, AllSet_nil, and_true] at hs
    obtain ⟨k, ks, rfl⟩ : ∃ a b, ks = a :: b := by
      cases ks with
      | nil => cases hx
      | cons a b => exact ⟨a, b, rfl⟩
    simp only [List.map_cons, List.cons.injEq] at hx
    obtain ⟨rfl, rfl⟩ := hx
    have hk0 := hks k (List.mem_cons_self ..)
    obtain ⟨wl, q1, hw1⟩ := r_law_well (T := T) (G := G) (n := n + 18) ns k.toNat (by omega) []
    rw [Int.toNat_of_nonneg hk0.1] at q1
    simp [-List.all_eq_true, -List.all_eq_false, -List.any_eq_true, -List.any_eq_false, hs, q1, hr2]
    refine Wp.bind ?_
    refine forL_w (fun xs e => ∃ (ts : List Int) (l : List Sl) (w' : List D), xs = ts.map .int ∧ l.length = 10 ∧ AllSet l ∧ ((l.getD 6 .un).fre = true ∧ (l.getD 9 .un).fre = true) ∧ Wl w' ∧ (ts.length = 2 ∨ ∃ (c d s : Int) (L : List (List Int)) (y3 y4 y5 y8 y9 y12 : Sl), KdOk c d s ∧ LkOk c d L ∧ l = [y3, y4, y5, .fro (KD c d s), .own (.lst ((keysF s none L).map ID)), y8, y9, .fro (LD L), .fro (.lst ((keysF s none (wholeL c d)).map ID)), y12]) ∧ e = ⟨.fro (.scr ns) :: .fro (.int k) :: .own (.lst w') :: l, []⟩) ?_ ?_ ?_
    · exact ⟨_, [x3, x4, x5, x6, x7, x8, x9, x10, x11, x12], wl, rfl, rfl, by simp only [AllSet_cons, AllSet_nil, hs, and_self], hf, hw1, .inl (by decide), rfl⟩
    · rintro e ⟨ts, l, w', hx, hl, hs, hf, hw', hF, rfl⟩
      obtain rfl : ts = [] := by
        cases ts with
        | nil => rfl
        | cons a b => cases hx
      rcases hF with hF | ⟨c, d, s, L, y3, y4, y5, y8, y9, y12, hk, hL, rfl⟩
      · cases hF
      obtain ⟨f9, f12⟩ : y9.fre = true ∧ y12.fre = true := hf
      simp only [AllSet_cons, AllSet_nil, and_true] at hs
      obtain ⟨h3, h4, h5, h8, h9, h12⟩ : y3.set = true ∧ y4.set = true ∧ y5.set = true ∧ y8.set = true ∧ y9.set = true ∧ y12.set = true := ⟨hs.1, hs.2.1, hs.2.2.1, hs.2.2.2.2.2.1, hs.2.2.2.2.2.2.1, hs.2.2.2.2.2.2.2.2.2⟩
      have c2 := hk.c2
      simp [-List.all_eq_true, -List.all_eq_false, -List.any_eq_true, -List.any_eq_false, hs]
      refine Wp.bind ?_
      refine forL_w (fun xs e => (∀ b ∈ xs, b.plain = true ∧ isIntD b 0 (cnt s none L - 1) = false) ∧ ∃ y4 : Sl, y4.set = true ∧ e = ⟨[.fro (.scr ns), .fro (.int k), .own (.lst w'), y3, y4, y5, .fro (KD c d s), .own (.lst ((keysF s none L).map ID)), y8, y9, .fro (LD L), .fro (.lst ((keysF s none (wholeL c d)).map ID)), y12], []⟩) ?_ ?_ ?_
      · refine ⟨?_, y4, h4, rfl⟩
        have e1 : cnt s none L = ((keysF s none L).length : Int) := rfl
        intro b hb
        simp only [List.mem_cons, List.not_mem_nil, or_false] at hb
        rcases hb with rfl | rfl | rfl | rfl | rfl
        · exact ⟨rfl, rfl⟩
        · exact ⟨rfl, rfl⟩
        · refine ⟨rfl, ?_⟩
          rw [isIntD_int, e1, decide_eq_false (show ¬ ((keysF s none L).length : Int) ≤ ((keysF s none L).length : Int) - 1 by omega), Bool.and_false]
        · exact ⟨rfl, rfl⟩
        · exact ⟨pl_zero, rfl⟩
      · rintro e ⟨-, y4, h4, rfl⟩
        simp [-List.all_eq_true, -List.all_eq_false, -List.any_eq_true, -List.any_eq_false, ]
        refine Wp.bind ?_
        refine forL_w (fun xs e => (∀ b ∈ xs, b = .fn 17 ∨ b = .fn 21) ∧ ∃ y5 : Sl, y5.set = true ∧ e = ⟨[.fro (.scr ns), .fro (.int k), .own (.lst w'), y3, y4, y5, .fro (KD c d s), .own (.lst ((keysF s none L).map ID)), y8, y9, .fro (LD L), .fro (.lst ((keysF s none (wholeL c d)).map ID)), y12], []⟩) ?_ ?_ ?_
        · refine ⟨?_, y5, h5, rfl⟩
          intro b hb
          simp only [List.mem_cons, List.not_mem_nil, or_false] at hb
          exact hb
        · rintro e ⟨-, y5, h5, rfl⟩
          obtain ⟨K, l, hKl, hKc⟩ := whole_cons (s := s) hk
          have hKt : (((tl K).map D.int).length : Int) ≠ c := by
            have e : (tl K).length = K.length - 1 := by cases K <;> rfl
            have c1 := hk.c1
            rw [List.length_map, e]
            omega
          have p4 := fun w => x_rank_key (T := T) (G := G) (n := n + 14) hk hL (v := ID (tl K)) (by simp) (keyD_len hKt) w
          rw [hKl]
          simp [-List.all_eq_true, -List.all_eq_false, -List.any_eq_true, -List.any_eq_false, p4]
          apply hnx
          refine ⟨ks, _, fun x hx => hks x (List.mem_cons_of_mem _ hx), rfl, rfl, ?_, ?_, rfl⟩
          · simp only [AllSet_cons, AllSet_nil, h3, h4, h5, h8, h9, h12, Sl.set_fro, Sl.set_own, and_self]
          · exact ⟨f9, f12⟩
        · rintro R2 b xs e ⟨hb, y5, h5, rfl⟩ hnx2 hbk2 hrt2
          have p2 := fun w => x_key_at_lock (T := T) (G := G) (n := n + 14) hk (v := .lst (L.map mkT)) (by simp) (fun _ _ _ h => by cases h) rfl .non w
          have p3 := fun w => x_rank_lock (T := T) (G := G) (n := n + 14) hk (v := .lst (L.map mkT)) (by simp) (fun _ _ _ h => by cases h) rfl .non w
          rcases hb b (List.mem_cons_self ..) with rfl | rfl
          · simp [-List.all_eq_true, -List.all_eq_false, -List.any_eq_true, -List.any_eq_false, h5, p2]
            apply hnx2
            exact ⟨fun x hx => hb x (List.mem_cons_of_mem _ hx), _, rfl, rfl⟩
          · simp [-List.all_eq_true, -List.all_eq_false, -List.any_eq_true, -List.any_eq_false, h5, p3]
            apply hnx2
            exact ⟨fun x hx => hb x (List.mem_cons_of_mem _ hx), _, rfl, rfl⟩
      · rintro R2 b xs e ⟨hb, y4, h4, rfl⟩ hnx2 hbk2 hrt2
        obtain ⟨b1, b2⟩ := hb b (List.mem_cons_self ..)
        have p1 := fun w => x_key_at (T := T) (G := G) (n := n + 14) hk hL b1 b2 w
        simp [-List.all_eq_true, -List.all_eq_false, -List.any_eq_true, -List.any_eq_false, h4, p1]
        apply hnx2
        exact ⟨fun x hx => hb x (List.mem_cons_of_mem _ hx), _, rfl, rfl⟩
    · rintro R xv xs e ⟨ts, l, w', hx, hl, hs, hf, hw', -, rfl⟩ hnx hbk hrt
      obtain ⟨y1, l, rfl⟩ : ∃ a b, l = a :: b := by
        cases l with
        | nil => cases hl
        | cons a b => exact ⟨a, b, rfl⟩
      obtain ⟨y2, l, rfl⟩ : ∃ a b, l = a :: b := by
        cases l with
        | nil => cases hl
        | cons a b => exact ⟨a, b, rfl⟩
      obtain ⟨y3, l, rfl⟩ : ∃ a b, l = a :: b := by
        cases l with
        | nil => cases hl
        | cons a b => exact ⟨a, b, rfl⟩
      obtain ⟨y4, l, rfl⟩ : ∃ a b, l = a :: b := by
        cases l with
        | nil => cases hl
        | cons a b => exact ⟨a, b, rfl⟩
      obtain ⟨y5, l, rfl⟩ : ∃ a b, l = a :: b := by
        cases l with
        | nil => cases hl
        | cons a b => exact ⟨a, b, rfl⟩
      obtain ⟨y6, l, rfl⟩ : ∃ a b, l = a :: b := by
        cases l with
        | nil => cases hl
        | cons a b => exact ⟨a, b, rfl⟩
      obtain ⟨y7, l, rfl⟩ : ∃ a b, l = a :: b := by
        cases l with
        | nil => cases hl
        | cons a b => exact ⟨a, b, rfl⟩
      obtain ⟨y8, l, rfl⟩ : ∃ a b, l = a :: b := by
        cases l with
        | nil => cases hl
        | cons a b => exact ⟨a, b, rfl⟩
      obtain ⟨y9, l, rfl⟩ : ∃ a b, l = a :: b := by
        cases l with
        | nil => cases hl
        | cons a b => exact ⟨a, b, rfl⟩
      obtain ⟨y10, l, rfl⟩ : ∃ a b, l = a :: b := by
        cases l with
        | nil => cases hl
        | cons a b => exact ⟨a, b, rfl⟩
      obtain rfl : l = [] := by
        cases l with
        | nil => rfl
        | cons a b => cases hl
      simp only [AllSet_cons, AllSet_nil, and_true] at hs
      obtain ⟨t, ts, rfl⟩ : ∃ a b, ts = a :: b := by
        cases ts with
        | nil => cases hx
        | cons a b => exact ⟨a, b, rfl⟩
      simp only [List.map_cons, List.cons.injEq] at hx
      obtain ⟨rfl, rfl⟩ := hx
      obtain ⟨c, d, s, w2, q2, hw2, hk, hc4, hd5⟩ := r_law_kind (T := T) (G := G) (n := n + 16) (C := 4) (Dp := 5) (by omega) (by omega) (by omega) (by omega) hw'
      obtain ⟨L, w3, q3, hw3, hL⟩ := r_law_lock (T := T) (G := G) (n := n + 15) hk hw2
      have q4 := fun w => r_law_all_keys (T := T) (G := G) (n := n + 18) hk w
      have q5 := fun w => r_count (T := T) (G := G) (n := n + 14) hk hL w
      obtain ⟨f7, f10⟩ : y7.fre = true ∧ y10.fre = true := hf
      have hW := keysF_asc s (wholeL c d) none (whole_ok hk).asc
      have hWK : ∀ K ∈ keysF s none (wholeL c d), KyOk c d s K := fun K hK => KyOk.of_mem (whole_ok hk) hK
      have hWl : (keysF s none (wholeL c d)).length ≤ 1000000 := by have := (whole_ok hk).cnt_le hk; unfold cnt at this; omega
      have c2 := hk.c2
      have hfl : (keysF s none (wholeL c d)).flatMap (fun K => if opensB L K = true then [ID K] else []) = (keysF s none L).map ID := by
        rw [← keysF_filter hk hL]
        induction keysF s none (wholeL c d) with
        | nil => rfl
        | cons K l ih =>
          rw [List.flatMap_cons, ih, List.filter_cons]
          split <;> rfl
      have hKl : (keysF s none L).length ≤ 1000000 := by have := hL.cnt_le hk; unfold cnt at this; omega
      have hKl2 : (keysF s none L).length ≤ 16777216 := by omega
      have hrk := rangeD_0 (hi := ((keysF s none L).length : Int)) (by omega) (by omega)
      simp [-List.all_eq_true, -List.all_eq_false, -List.any_eq_true, -List.any_eq_false, hs, q2, q3, q4, f7, -lcL_map]
      rw [lcL_mem (g := fun K => if opensB L K = true then [ID K] else [])]
      · rw [hfl]
        simp [-List.all_eq_true, -List.all_eq_false, -List.any_eq_true, -List.any_eq_false, hs, q5, hrk, f10, hKl2, -lcL_map]
        rw [if_pos (show cnt s none L = ((keysF s none L).length : Int) from rfl), lcL_mem (g := fun i : Int => [ID ((keysF s none L)[i.toNat]?.getD [])])]
        · rw [range_get]
          have z1 : D.deeps ((keysF s none L).map ID) ≤ 59 := by
            have : ∀ l : List (List Int), D.deeps (l.map ID) ≤ 1 := fun l => deeps_ID l
            exact Nat.le_trans (this _) (by omega)
          have z2 : D.eqvs ((keysF s none L).map ID) ((keysF s none L).map ID) = true := by
            have e : (keysF s none L).map ID = (keysF s none L).map mkT := List.map_congr_left fun _ _ => (mkT_eq _).symm
            rw [e, eqvs_mkT, beq_self_eq_true]
          simp [-List.all_eq_true, -List.all_eq_false, -List.any_eq_true, -List.any_eq_false, hs, hKl2, z1, z2, -lcL_map]
          refine Wp.bind ?_
          refine forL_w (fun xs e => ∃ (did todo : List (List Int)) (s9 : Sl), s9.fre = true ∧ keysF s none (wholeL c d) = did ++ todo ∧ xs = todo.map ID ∧ e = ⟨[.fro (.scr ns), .fro (.int k), .own (.lst w3), .fro (.int t), y2, y3, .fro (KD c d s), .own (.lst ((keysF s none L).map ID)), .fro (.int ((did.filter (opensB L)).length : Nat)), s9, .fro (LD L), .fro (.lst ((keysF s none (wholeL c d)).map ID)), y10], []⟩) ?_ ?_ ?_
          · exact ⟨[], _, y7, f7, rfl, rfl, rfl⟩
          · rintro e ⟨did, todo, s9, h9, hd, hx, rfl⟩
            have h9' := Sl.set_of_fre h9
            have h10' := Sl.set_of_fre f10
            simp
            apply hnx
            exact ⟨ts, [.fro (.int t), y2, y3, .fro (KD c d s), .own (.lst ((keysF s none L).map ID)), .fro (.int ((did.filter (opensB L)).length : Nat)), s9, .fro (LD L), .fro (.lst ((keysF s none (wholeL c d)).map ID)), y10], w3, rfl, rfl, by simp only [AllSet_cons, AllSet_nil, hs, h9', Sl.set_fro, Sl.set_own, and_self], ⟨h9, f10⟩, hw3, .inr ⟨c, d, s, L, _, _, _, _, _, _, hk, hL, rfl⟩, rfl⟩
          · rintro R2 xv2 xs2 e ⟨did, todo, s9, h9, hd, hx, rfl⟩ hnx2 hbk2 hrt2
            obtain ⟨K, todo, rfl⟩ : ∃ a b, todo = a :: b := by
              cases todo with
              | nil => cases hx
              | cons a b => exact ⟨a, b, rfl⟩
            rw [List.map_cons, List.cons.injEq] at hx
            obtain ⟨rfl, rfl⟩ := hx
            have h9' := Sl.set_of_fre h9
            have hKm : K ∈ keysF s none (wholeL c d) := by rw [hd]; simp
            have p1 := fun w => r_rank (T := T) (G := G) (n := n + 14) hk hL (hWK K hKm) w
            have p2 := r_law_opens (T := T) (G := G) (n := n + 18) L K (by have := (hWK K hKm).len; omega)
            have p3 : below (keysF s none L) K = ((did.filter (opensB L)).length : Int) := by
              rw [← keysF_filter hk hL, hd]
              exact below_split (by rw [← hd]; exact hW)
            simp [-List.all_eq_true, -List.all_eq_false, -List.any_eq_true, -List.any_eq_false, h9', p1, p2, p3]
            apply hnx2
            refine ⟨did ++ [K], todo, .fro (ID K), rfl, by rw [hd]; simp, rfl, ?_⟩
            rw [List.filter_append]
            cases ho : opensB L K <;> simp [ho]
        · intro i hi
          have hi := mem_rangeI.mp hi
          have hlt : i.toNat < (keysF s none L).length := by omega
          have q6 := fun w => r_key_at (T := T) (G := G) (n := n + 14) hk hL i.toNat _ (List.getElem?_eq_getElem hlt) w
          rw [Int.toNat_of_nonneg hi.1] at q6
          simp [-List.all_eq_true, -List.all_eq_false, -List.any_eq_true, -List.any_eq_false, q6, List.getElem?_eq_getElem hlt]
      · intro K hK
        have q6 := r_law_opens (T := T) (G := G) (n := n + 18) L K (by have := (hWK K hK).len; omega)
        cases ho : opensB L K <;> simp [-List.all_eq_true, -List.all_eq_false, -List.any_eq_true, -List.any_eq_false, q6, ho]
end Pk

end
section
/-! pinkeys_k03_keys_of_a_lock: the checks of its codes -/
namespace Pk.k03
open PySem PySem.Spec PyProof.Rows L2
abbrev top (i : Nat) : Stmt := PySem.Challenge.pw_pinkeys_k03_keys_of_a_lock.main.body.getD i (.Pass ⟨0, 0, 0, 0⟩)
abbrev dd0 : He.DefD := ⟨("_law_well", none), "_law_well", "_law_well", defArgs (top 40), defBody (top 40), defScope (top 40), [], []⟩
abbrev n0 : List Str := ["_law_script", "_law_k", "_law_cell"]
abbrev dd6 : He.DefD := ⟨("is_int", none), "is_int", "is_int", defArgs (top 22), defBody (top 22), defScope (top 22), [], []⟩
abbrev n6 : List Str := ["value", "low", "high"]
abbrev dd7 : He.DefD := ⟨("is_kind", none), "is_kind", "is_kind", defArgs (top 24), defBody (top 24), defScope (top 24), [], []⟩
abbrev n7 : List Str := ["value"]
abbrev dd8 : He.DefD := ⟨("need_kind", none), "need_kind", "need_kind", defArgs (top 29), defBody (top 29), defScope (top 29), [], []⟩
abbrev n8 : List Str := ["kind"]
abbrev dd9 : He.DefD := ⟨("is_rising", none), "is_rising", "is_rising", defArgs (top 23), defBody (top 23), defScope (top 23), [], []⟩
abbrev n9 : List Str := ["value", "low", "high", "one", "other", "part"]
abbrev dd10 : He.DefD := ⟨("is_lock_of", none), "is_lock_of", "is_lock_of", defArgs (top 26), defBody (top 26), defScope (top 26), [], []⟩
abbrev n10 : List Str := ["kind", "value", "cuts"]
abbrev dd11 : He.DefD := ⟨("need_lock", none), "need_lock", "need_lock", defArgs (top 31), defBody (top 31), defScope (top 31), [], []⟩
abbrev n11 : List Str := ["kind", "lock"]
abbrev dd15 : He.DefD := ⟨("need_number", none), "need_number", "need_number", defArgs (top 32), defBody (top 32), defScope (top 32), [], []⟩
abbrev n15 : List Str := ["number", "low", "high"]
abbrev dd12 : He.DefD := ⟨("tails", none), "tails", "tails", defArgs (top 27), defBody (top 27), defScope (top 27), [], []⟩
abbrev n12 : List Str := ["kind", "lock", "found", "cuts", "later", "ways", "cut", "there", "many"]
abbrev dd16 : He.DefD := ⟨("key_number", none), "key_number", "key_number", defArgs (top 34), defBody (top 34), defScope (top 34), [], []⟩
abbrev n16 : List Str := ["kind", "lock", "number", "key", "ways", "cut"]
abbrev dd13 : He.DefD := ⟨("number_of", none), "number_of", "number_of", defArgs (top 28), defBody (top 28), defScope (top 28), [], []⟩
abbrev n13 : List Str := ["kind", "lock"]
abbrev dd17 : He.DefD := ⟨("key_at", none), "key_at", "key_at", defArgs (top 37), defBody (top 37), defScope (top 37), [], []⟩
abbrev n17 : List Str := ["kind", "lock", "number"]
abbrev dd18 : He.DefD := ⟨("is_key_of", none), "is_key_of", "is_key_of", defArgs (top 25), defBody (top 25), defScope (top 25), [], []⟩
abbrev n18 : List Str := ["kind", "value", "chambers", "depths", "step", "cut", "one", "other"]
abbrev dd19 : He.DefD := ⟨("need_key", none), "need_key", "need_key", defArgs (top 30), defBody (top 30), defScope (top 30), [], []⟩
abbrev n19 : List Str := ["kind", "key"]
abbrev dd20 : He.DefD := ⟨("rank_of", none), "rank_of", "rank_of", defArgs (top 35), defBody (top 35), defScope (top 35), [], []⟩
abbrev n20 : List Str := ["kind", "lock", "key", "found", "before", "ways", "goal", "cut", "many"]
abbrev dd21 : He.DefD := ⟨("rank", none), "rank", "rank", defArgs (top 38), defBody (top 38), defScope (top 38), [], []⟩
abbrev n21 : List Str := ["kind", "lock", "key"]
abbrev dd1 : He.DefD := ⟨("_law_dip", none), "_law_dip", "_law_dip", defArgs (top 41), defBody (top 41), defScope (top 41), [], []⟩
abbrev n1 : List Str := ["_law_well_here", "_law_many", "_law_found", "_law_wide"]
abbrev dd2 : He.DefD := ⟨("_law_pick", none), "_law_pick", "_law_pick", defArgs (top 42), defBody (top 42), defScope (top 42), [], []⟩
abbrev n2 : List Str := ["_law_well_here", "_law_things"]
abbrev dd3 : He.DefD := ⟨("_law_kind", none), "_law_kind", "_law_kind", defArgs (top 43), defBody (top 43), defScope (top 43), [], []⟩
abbrev n3 : List Str := ["_law_well_here", "_law_chambers", "_law_depths", "_law_wide"]
abbrev dd4 : He.DefD := ⟨("_law_cuts", none), "_law_cuts", "_law_cuts", defArgs (top 45), defBody (top 45), defScope (top 45), [], []⟩
abbrev n4 : List Str := ["_law_well_here", "_law_depths", "_law_one", "_law_rare", "_law_cut"]
abbrev dd5 : He.DefD := ⟨("_law_lock", none), "_law_lock", "_law_lock", defArgs (top 46), defBody (top 46), defScope (top 46), [], []⟩
abbrev n5 : List Str := ["_law_well_here", "_law_kind_here", "_law_chamber"]
abbrev dd33 : He.DefD := ⟨("_law_all_keys", none), "_law_all_keys", "_law_all_keys", defArgs (top 44), defBody (top 44), defScope (top 44), [], []⟩
abbrev n33 : List Str := ["_law_kind_here", "_law_found", "_law_chamber", "_law_longer", "_law_key", "_law_cut"]
abbrev dd14 : He.DefD := ⟨("count", none), "count", "count", defArgs (top 36), defBody (top 36), defScope (top 36), [], []⟩
abbrev n14 : List Str := ["kind", "lock"]
abbrev dd35 : He.DefD := ⟨("_law_opens", none), "_law_opens", "_law_opens", defArgs (top 47), defBody (top 47), defScope (top 47), [], []⟩
abbrev n35 : List Str := ["_law_lock_here", "_law_key", "_law_cut", "_law_cuts_here"]
abbrev dd37 : He.DefD := ⟨("law", none), "law", "law", defArgs (top 50), defBody (top 50), defScope (top 50), [], []⟩
abbrev n37 : List Str := ["_law_script", "_law_k", "_law_well_here", "_law_turn", "_law_bad", "_law_call_so", "_law_kind_here", "_law_some", "_law_less", "_law_key", "_law_lock_here", "_law_every", "_law_number"]
abbrev ddc : He.DefD := ⟨("_law_call", none), "_law_call", "_law_call", defArgs (top 48), defBody (top 48), defScope (top 48), [], []⟩
abbrev ddk : He.DefD := ⟨("_law_kinds", none), "_law_kinds", "_law_kinds", defArgs (top 49), defBody (top 49), defScope (top 49), [], []⟩
-- TLS 0 InvalidKind +
-- TLS 1 InvalidLock +
-- TLS 2 InvalidNumber +
-- TLS 3 InvalidKey +
def tls : List Tl := [⟨0, "InvalidKind", "InvalidKind +", ["InvalidKind", "ValueError"]⟩, ⟨1, "InvalidLock", "InvalidLock +", ["InvalidLock", "ValueError"]⟩, ⟨2, "InvalidNumber", "InvalidNumber +", ["InvalidNumber", "ValueError"]⟩, ⟨3, "InvalidKey", "InvalidKey +", ["InvalidKey", "ValueError"]⟩]
def lkv : Lk := ⟨ddc, ddk, ["_law_call_so", "_law_found", "_law_e"], ["_law_e", "_law_some", "_law_words", "_law_word", "_law_good"], ["Impossible", "InvalidCut", "InvalidDoors", "InvalidEvent", "InvalidHistory", "InvalidHouse", "InvalidKey", "InvalidKeys", "InvalidKind", "InvalidLock", "InvalidLocks", "InvalidNumber", "InvalidTable", "InvalidText", "InvalidTrials", "NoLock", "NothingToUndo", "TooMany", "Unlike", "ValueError"], ["Impossible", "InvalidCut", "InvalidDoors", "InvalidEvent", "InvalidHistory", "InvalidHouse", "InvalidKey", "InvalidKeys", "InvalidKind", "InvalidLock", "InvalidLocks", "InvalidNumber", "InvalidTable", "InvalidText", "InvalidTrials", "NoLock", "NothingToUndo", "TooMany", "Unlike", "+"], "_law_call_so", "_law_found", "_law_e", "TooMany", "InvalidText", "LockError", "_law_kinds", "_law_e", "_law_some", "_law_words", "_law_word", "_law_good", ["law"], tls⟩
def prog : Pr := ⟨[(⟨0, dd0, n0, 2, c_law_well⟩ : Dd), (⟨6, dd6, n6, 3, c_is_int⟩ : Dd), (⟨7, dd7, n7, 1, c_is_kind⟩ : Dd), (⟨8, dd8, n8, 1, c_need_kind⟩ : Dd), (⟨9, dd9, n9, 3, c_is_rising⟩ : Dd), (⟨10, dd10, n10, 2, c_is_lock_of⟩ : Dd), (⟨11, dd11, n11, 2, c_need_lock⟩ : Dd), (⟨15, dd15, n15, 3, c_need_number⟩ : Dd), (⟨12, dd12, n12, 2, c_tails⟩ : Dd), (⟨16, dd16, n16, 3, c_key_number⟩ : Dd), (⟨13, dd13, n13, 2, c_number_of⟩ : Dd), (⟨17, dd17, n17, 3, c_key_at⟩ : Dd), (⟨18, dd18, n18, 2, c_is_key_of⟩ : Dd), (⟨19, dd19, n19, 2, c_need_key⟩ : Dd), (⟨20, dd20, n20, 3, c_rank_of⟩ : Dd), (⟨21, dd21, n21, 3, c_rank⟩ : Dd), (⟨1, dd1, n1, 2, c_law_dip⟩ : Dd), (⟨2, dd2, n2, 2, c_law_pick⟩ : Dd), (⟨3, dd3, n3, 3, c_law_kind⟩ : Dd), (⟨4, dd4, n4, 2, c_law_cuts⟩ : Dd), (⟨5, dd5, n5, 2, c_law_lock⟩ : Dd), (⟨33, dd33, n33, 1, c_law_all_keys⟩ : Dd), (⟨14, dd14, n14, 2, c_count⟩ : Dd), (⟨35, dd35, n35, 2, c_law_opens⟩ : Dd), (⟨37, dd37, n37, 1, c_law_k03⟩ : Dd)], [((0, "rank", Pk.D.fn 21) : Nat × Str × Pk.D), ((1, "key_at", Pk.D.fn 17) : Nat × Str × Pk.D)], [(0, "InvalidKind"), (1, "InvalidLock"), (2, "InvalidNumber"), (3, "InvalidKey")], [17, 21], some lkv⟩
theorem ok0 : DfOk prog.sg dd0 n0 (n0.take 2) c_law_well := ⟨fun _ _ _ _ _ _ us hl => match us, hl with | [_, _], _ => rfl, ⟨rfl, rfl, rfl, by decide +kernel, rfl, by decide +kernel, by decide +kernel⟩, rfl, rfl, by decide +kernel⟩
theorem ok6 : DfOk prog.sg dd6 n6 (n6.take 3) c_is_int := ⟨fun _ _ _ _ _ _ us hl => match us, hl with | [_, _, _], _ => rfl, ⟨rfl, rfl, rfl, by decide +kernel, rfl, by decide +kernel, by decide +kernel⟩, rfl, rfl, by decide +kernel⟩
theorem ok7 : DfOk prog.sg dd7 n7 (n7.take 1) c_is_kind := ⟨fun _ _ _ _ _ _ us hl => match us, hl with | [_], _ => rfl, ⟨rfl, rfl, rfl, by decide +kernel, rfl, by decide +kernel, by decide +kernel⟩, rfl, rfl, by decide +kernel⟩
theorem ok8 : DfOk prog.sg dd8 n8 (n8.take 1) c_need_kind := ⟨fun _ _ _ _ _ _ us hl => match us, hl with | [_], _ => rfl, ⟨rfl, rfl, rfl, by decide +kernel, rfl, by decide +kernel, by decide +kernel⟩, rfl, rfl, by decide +kernel⟩
theorem ok9 : DfOk prog.sg dd9 n9 (n9.take 3) c_is_rising := ⟨fun _ _ _ _ _ _ us hl => match us, hl with | [_, _, _], _ => rfl, ⟨rfl, rfl, rfl, by decide +kernel, rfl, by decide +kernel, by decide +kernel⟩, rfl, rfl, by decide +kernel⟩
theorem ok10 : DfOk prog.sg dd10 n10 (n10.take 2) c_is_lock_of := ⟨fun _ _ _ _ _ _ us hl => match us, hl with | [_, _], _ => rfl, ⟨rfl, rfl, rfl, by decide +kernel, rfl, by decide +kernel, by decide +kernel⟩, rfl, rfl, by decide +kernel⟩
theorem ok11 : DfOk prog.sg dd11 n11 (n11.take 2) c_need_lock := ⟨fun _ _ _ _ _ _ us hl => match us, hl with | [_, _], _ => rfl, ⟨rfl, rfl, rfl, by decide +kernel, rfl, by decide +kernel, by decide +kernel⟩, rfl, rfl, by decide +kernel⟩
theorem ok15 : DfOk prog.sg dd15 n15 (n15.take 3) c_need_number := ⟨fun _ _ _ _ _ _ us hl => match us, hl with | [_, _, _], _ => rfl, ⟨rfl, rfl, rfl, by decide +kernel, rfl, by decide +kernel, by decide +kernel⟩, rfl, rfl, by decide +kernel⟩
theorem ok12 : DfOk prog.sg dd12 n12 (n12.take 2) c_tails := ⟨fun _ _ _ _ _ _ us hl => match us, hl with | [_, _], _ => rfl, ⟨rfl, rfl, rfl, by decide +kernel, rfl, by decide +kernel, by decide +kernel⟩, rfl, rfl, by decide +kernel⟩
theorem ok16 : DfOk prog.sg dd16 n16 (n16.take 3) c_key_number := ⟨fun _ _ _ _ _ _ us hl => match us, hl with | [_, _, _], _ => rfl, ⟨rfl, rfl, rfl, by decide +kernel, rfl, by decide +kernel, by decide +kernel⟩, rfl, rfl, by decide +kernel⟩
theorem ok13 : DfOk prog.sg dd13 n13 (n13.take 2) c_number_of := ⟨fun _ _ _ _ _ _ us hl => match us, hl with | [_, _], _ => rfl, ⟨rfl, rfl, rfl, by decide +kernel, rfl, by decide +kernel, by decide +kernel⟩, rfl, rfl, by decide +kernel⟩
theorem ok17 : DfOk prog.sg dd17 n17 (n17.take 3) c_key_at := ⟨fun _ _ _ _ _ _ us hl => match us, hl with | [_, _, _], _ => rfl, ⟨rfl, rfl, rfl, by decide +kernel, rfl, by decide +kernel, by decide +kernel⟩, rfl, rfl, by decide +kernel⟩
theorem ok18 : DfOk prog.sg dd18 n18 (n18.take 2) c_is_key_of := ⟨fun _ _ _ _ _ _ us hl => match us, hl with | [_, _], _ => rfl, ⟨rfl, rfl, rfl, by decide +kernel, rfl, by decide +kernel, by decide +kernel⟩, rfl, rfl, by decide +kernel⟩
theorem ok19 : DfOk prog.sg dd19 n19 (n19.take 2) c_need_key := ⟨fun _ _ _ _ _ _ us hl => match us, hl with | [_, _], _ => rfl, ⟨rfl, rfl, rfl, by decide +kernel, rfl, by decide +kernel, by decide +kernel⟩, rfl, rfl, by decide +kernel⟩
theorem ok20 : DfOk prog.sg dd20 n20 (n20.take 3) c_rank_of := ⟨fun _ _ _ _ _ _ us hl => match us, hl with | [_, _, _], _ => rfl, ⟨rfl, rfl, rfl, by decide +kernel, rfl, by decide +kernel, by decide +kernel⟩, rfl, rfl, by decide +kernel⟩
theorem ok21 : DfOk prog.sg dd21 n21 (n21.take 3) c_rank := ⟨fun _ _ _ _ _ _ us hl => match us, hl with | [_, _, _], _ => rfl, ⟨rfl, rfl, rfl, by decide +kernel, rfl, by decide +kernel, by decide +kernel⟩, rfl, rfl, by decide +kernel⟩
theorem ok1 : DfOk prog.sg dd1 n1 (n1.take 2) c_law_dip := ⟨fun _ _ _ _ _ _ us hl => match us, hl with | [_, _], _ => rfl, ⟨rfl, rfl, rfl, by decide +kernel, rfl, by decide +kernel, by decide +kernel⟩, rfl, rfl, by decide +kernel⟩
theorem ok2 : DfOk prog.sg dd2 n2 (n2.take 2) c_law_pick := ⟨fun _ _ _ _ _ _ us hl => match us, hl with | [_, _], _ => rfl, ⟨rfl, rfl, rfl, by decide +kernel, rfl, by decide +kernel, by decide +kernel⟩, rfl, rfl, by decide +kernel⟩
theorem ok3 : DfOk prog.sg dd3 n3 (n3.take 3) c_law_kind := ⟨fun _ _ _ _ _ _ us hl => match us, hl with | [_, _, _], _ => rfl, ⟨rfl, rfl, rfl, by decide +kernel, rfl, by decide +kernel, by decide +kernel⟩, rfl, rfl, by decide +kernel⟩
theorem ok4 : DfOk prog.sg dd4 n4 (n4.take 2) c_law_cuts := ⟨fun _ _ _ _ _ _ us hl => match us, hl with | [_, _], _ => rfl, ⟨rfl, rfl, rfl, by decide +kernel, rfl, by decide +kernel, by decide +kernel⟩, rfl, rfl, by decide +kernel⟩
theorem ok5 : DfOk prog.sg dd5 n5 (n5.take 2) c_law_lock := ⟨fun _ _ _ _ _ _ us hl => match us, hl with | [_, _], _ => rfl, ⟨rfl, rfl, rfl, by decide +kernel, rfl, by decide +kernel, by decide +kernel⟩, rfl, rfl, by decide +kernel⟩
theorem ok33 : DfOk prog.sg dd33 n33 (n33.take 1) c_law_all_keys := ⟨fun _ _ _ _ _ _ us hl => match us, hl with | [_], _ => rfl, ⟨rfl, rfl, rfl, by decide +kernel, rfl, by decide +kernel, by decide +kernel⟩, rfl, rfl, by decide +kernel⟩
theorem ok14 : DfOk prog.sg dd14 n14 (n14.take 2) c_count := ⟨fun _ _ _ _ _ _ us hl => match us, hl with | [_, _], _ => rfl, ⟨rfl, rfl, rfl, by decide +kernel, rfl, by decide +kernel, by decide +kernel⟩, rfl, rfl, by decide +kernel⟩
theorem ok35 : DfOk prog.sg dd35 n35 (n35.take 2) c_law_opens := ⟨fun _ _ _ _ _ _ us hl => match us, hl with | [_, _], _ => rfl, ⟨rfl, rfl, rfl, by decide +kernel, rfl, by decide +kernel, by decide +kernel⟩, rfl, rfl, by decide +kernel⟩
theorem ok37 : DfOk prog.sg dd37 n37 (n37.take 1) c_law_k03 := ⟨fun _ _ _ _ _ _ us hl => match us, hl with | [_], _ => rfl, ⟨rfl, rfl, rfl, by decide +kernel, rfl, by decide +kernel, by decide +kernel⟩, rfl, rfl, by decide +kernel⟩
theorem lk_ok : LkvOk prog lkv := by
  refine ⟨⟨rfl, rfl, rfl, rfl⟩, ⟨rfl, rfl, rfl, rfl⟩, rfl, ?_, ?_, fun _ _ _ _ _ _ us hl => match us, hl with | [_], _ => rfl, by decide, ?_⟩
  · exact ⟨rfl, ⟨rfl, rfl, rfl, by decide +kernel, rfl, by decide +kernel, by decide +kernel⟩, by decide +kernel, by decide +kernel, by decide +kernel, by decide +kernel, by decide +kernel⟩
  · exact ⟨rfl, ⟨rfl, rfl, rfl, by decide +kernel, rfl, by decide +kernel, by decide +kernel⟩, by decide +kernel, by decide +kernel, by decide +kernel, by decide +kernel, by decide +kernel, rfl, by decide +kernel, by decide, fun _ _ _ _ _ _ us hl => match us, hl with | [_], _ => rfl⟩
  · decide +kernel
theorem prog_ok : prog.Ok := by
  refine ⟨fun x hx => ?_, fun q hq => ?_, fun f hf x hx => ?_, fun k hk => ?_⟩
  · have hx : x ∈ [(⟨0, dd0, n0, 2, c_law_well⟩ : Dd), (⟨6, dd6, n6, 3, c_is_int⟩ : Dd), (⟨7, dd7, n7, 1, c_is_kind⟩ : Dd), (⟨8, dd8, n8, 1, c_need_kind⟩ : Dd), (⟨9, dd9, n9, 3, c_is_rising⟩ : Dd), (⟨10, dd10, n10, 2, c_is_lock_of⟩ : Dd), (⟨11, dd11, n11, 2, c_need_lock⟩ : Dd), (⟨15, dd15, n15, 3, c_need_number⟩ : Dd), (⟨12, dd12, n12, 2, c_tails⟩ : Dd), (⟨16, dd16, n16, 3, c_key_number⟩ : Dd), (⟨13, dd13, n13, 2, c_number_of⟩ : Dd), (⟨17, dd17, n17, 3, c_key_at⟩ : Dd), (⟨18, dd18, n18, 2, c_is_key_of⟩ : Dd), (⟨19, dd19, n19, 2, c_need_key⟩ : Dd), (⟨20, dd20, n20, 3, c_rank_of⟩ : Dd), (⟨21, dd21, n21, 3, c_rank⟩ : Dd), (⟨1, dd1, n1, 2, c_law_dip⟩ : Dd), (⟨2, dd2, n2, 2, c_law_pick⟩ : Dd), (⟨3, dd3, n3, 3, c_law_kind⟩ : Dd), (⟨4, dd4, n4, 2, c_law_cuts⟩ : Dd), (⟨5, dd5, n5, 2, c_law_lock⟩ : Dd), (⟨33, dd33, n33, 1, c_law_all_keys⟩ : Dd), (⟨14, dd14, n14, 2, c_count⟩ : Dd), (⟨35, dd35, n35, 2, c_law_opens⟩ : Dd), (⟨37, dd37, n37, 1, c_law_k03⟩ : Dd)] := hx
    simp only [List.mem_cons, List.not_mem_nil, or_false] at hx
    rcases hx with rfl | rfl | rfl | rfl | rfl | rfl | rfl | rfl | rfl | rfl | rfl | rfl | rfl | rfl | rfl | rfl | rfl | rfl | rfl | rfl | rfl | rfl | rfl | rfl | rfl
    · exact ⟨ok0, rfl, rfl, rfl, rfl⟩
    · exact ⟨ok6, rfl, rfl, rfl, rfl⟩
    · exact ⟨ok7, rfl, rfl, rfl, rfl⟩
    · exact ⟨ok8, rfl, rfl, rfl, rfl⟩
    · exact ⟨ok9, rfl, rfl, rfl, rfl⟩
    · exact ⟨ok10, rfl, rfl, rfl, rfl⟩
    · exact ⟨ok11, rfl, rfl, rfl, rfl⟩
    · exact ⟨ok15, rfl, rfl, rfl, rfl⟩
    · exact ⟨ok12, rfl, rfl, rfl, rfl⟩
    · exact ⟨ok16, rfl, rfl, rfl, rfl⟩
    · exact ⟨ok13, rfl, rfl, rfl, rfl⟩
    · exact ⟨ok17, rfl, rfl, rfl, rfl⟩
    · exact ⟨ok18, rfl, rfl, rfl, rfl⟩
    · exact ⟨ok19, rfl, rfl, rfl, rfl⟩
    · exact ⟨ok20, rfl, rfl, rfl, rfl⟩
    · exact ⟨ok21, rfl, rfl, rfl, rfl⟩
    · exact ⟨ok1, rfl, rfl, rfl, rfl⟩
    · exact ⟨ok2, rfl, rfl, rfl, rfl⟩
    · exact ⟨ok3, rfl, rfl, rfl, rfl⟩
    · exact ⟨ok4, rfl, rfl, rfl, rfl⟩
    · exact ⟨ok5, rfl, rfl, rfl, rfl⟩
    · exact ⟨ok33, rfl, rfl, rfl, rfl⟩
    · exact ⟨ok14, rfl, rfl, rfl, rfl⟩
    · exact ⟨ok35, rfl, rfl, rfl, rfl⟩
    · exact ⟨ok37, rfl, rfl, rfl, rfl⟩
  · have hq : q ∈ [((0, "rank", Pk.D.fn 21) : Nat × Str × Pk.D), ((1, "key_at", Pk.D.fn 17) : Nat × Str × Pk.D)] := hq
    simp only [List.mem_cons, List.not_mem_nil, or_false] at hq
    rcases hq with rfl | rfl
    · exact .inr ⟨21, _, rfl, rfl, rfl⟩
    · exact .inr ⟨17, _, rfl, rfl, rfl⟩
  · have hf : f ∈ [17, 21] := hf
    simp only [List.mem_cons, List.not_mem_nil, or_false] at hf
    rcases hf with rfl | rfl
    · cases hx; rfl
    · cases hx; rfl
  · cases hk; exact lk_ok
instance : TIs prog.T 0 c_law_well := ⟨rfl⟩
instance : TIs prog.T 6 c_is_int := ⟨rfl⟩
instance : TIs prog.T 7 c_is_kind := ⟨rfl⟩
instance : TIs prog.T 8 c_need_kind := ⟨rfl⟩
instance : TIs prog.T 9 c_is_rising := ⟨rfl⟩
instance : TIs prog.T 10 c_is_lock_of := ⟨rfl⟩
instance : TIs prog.T 11 c_need_lock := ⟨rfl⟩
instance : TIs prog.T 15 c_need_number := ⟨rfl⟩
instance : TIs prog.T 12 c_tails := ⟨rfl⟩
instance : TIs prog.T 16 c_key_number := ⟨rfl⟩
instance : TIs prog.T 13 c_number_of := ⟨rfl⟩
instance : TIs prog.T 17 c_key_at := ⟨rfl⟩
instance : TIs prog.T 18 c_is_key_of := ⟨rfl⟩
instance : TIs prog.T 19 c_need_key := ⟨rfl⟩
instance : TIs prog.T 20 c_rank_of := ⟨rfl⟩
instance : TIs prog.T 21 c_rank := ⟨rfl⟩
instance : TIs prog.T 1 c_law_dip := ⟨rfl⟩
instance : TIs prog.T 2 c_law_pick := ⟨rfl⟩
instance : TIs prog.T 3 c_law_kind := ⟨rfl⟩
instance : TIs prog.T 4 c_law_cuts := ⟨rfl⟩
instance : TIs prog.T 5 c_law_lock := ⟨rfl⟩
instance : TIs prog.T 33 c_law_all_keys := ⟨rfl⟩
instance : TIs prog.T 14 c_count := ⟨rfl⟩
instance : TIs prog.T 35 c_law_opens := ⟨rfl⟩
instance : TIs prog.T 37 c_law_k03 := ⟨rfl⟩
instance : GIs prog.G 0 (.fn 21) := ⟨rfl⟩
instance : GIs prog.G 1 (.fn 17) := ⟨rfl⟩
instance : CvIs prog.G 17 := ⟨rfl⟩
instance : CvIs prog.G 21 := ⟨rfl⟩
end Pk.k03

end
open PySem PySem.W PySem.Calls PyProof.Rows
instance : Pk.TlIs Pk.k03.prog.G 0 "InvalidKind +" := ⟨rfl⟩
instance : Pk.TlIs Pk.k03.prog.G 1 "InvalidLock +" := ⟨rfl⟩
instance : Pk.TlIs Pk.k03.prog.G 2 "InvalidNumber +" := ⟨rfl⟩
instance : Pk.TlIs Pk.k03.prog.G 3 "InvalidKey +" := ⟨rfl⟩
theorem PySem.Challenge.cw_pinkeys_k03_keys_of_a_lock_holds : PySem.Challenge.rw_pinkeys_k03_keys_of_a_lock.Holds := by
  w_on; o_law; o_head (He.hookX 4 Pk.k03.prog.fa Pk.k03.prog.fn [] Pk.k03.prog.tf Pk.k03.prog.ex); (case hw => w_witness2)
  case hc =>
    refine LamX.walk_ofTsE (l := PySem.Challenge.rw_pinkeys_k03_keys_of_a_lock) (n := 63) (k := Pk.lv 20) (x := "_law_script") (CX := fun w => L2N.CX (PySem.Challenge.rw_pinkeys_k03_keys_of_a_lock).prog w) rfl (by decide) (by kernel_rfl) ⟨rfl, by decide, by decide⟩ ?F ?C
    case C =>
      intro w H s e s' h
      obtain ⟨_, _, _, _, _, _, _, _, _, _, _, _, z⟩ := h
      exact z
    case F =>
      intro w mg fa h Y G hmg0
      obtain ⟨K, KX, c⟩ := Y
      refine ⟨K, KX, ?_⟩
      exact Pk.law_at (p := Pk.k03.prog) (n := 19) (f := 37) Pk.k03.prog_ok KX G c rfl hmg0 rfl rfl rfl (fun ns _ _ => Pk.k03_law (n := 0) ns)
